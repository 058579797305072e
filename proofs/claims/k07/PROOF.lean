import PyProof.Rows.All
import Wide.All
import OpenK.AllK
import Wide.FinOn
import HandS.Deep
import HandS.EndBits
import HandS.Flow
import HandS.ForExc
import HandS.ForMost
import HandS.IsInst
import HandS.List
import HandS.NoneIn
import HandS.Star
import HandS.Strs
import HandS.Style
import HandS.TupAny
import HandS.TupMul
import HandS.Wide
import HandS.Words
import HandS.Zip
import KE.GoesMore
import KE.GoesZip
import PyProof.Ascii
import PyProof.EqLayable
import PyProof.FitsInt
import PyProof.P3Eq
import PyProof.P3Statements
import PyProof.ReprReads
import PyProof.StrBlockL
import PyProof.StrLawsRepr
import PySem.Challenge.RW_leastnet_k07_kernels
set_option Elab.async false
set_option linter.all false
set_option maxRecDepth 100000
set_option linter.all false
/-! Ln: a value-level evaluator for the fragment of Python that the laws use. No heap for tuples; only what is mutated stands in a store. -/
namespace Ln
open PySem (Str PyData)

inductive D where
  | non | bl (b : Bool) | int (i : Int) | str (x : Str)
  | tup (xs : List D) | lst (xs : List D) | frz (xs : List D) | dct (ks vs : List D)
  /-- an item of zip, of enumerate: only unpacked -/
  | wtp (xs : List D)
  | ref (n : Nat)
  deriving Inhabited

inductive O where
  | lst (xs : List D) | dct (ks vs : List D)
  /-- what is no more changed, and known by value -/
  | fzl (xs : List D) | fzd (ks vs : List D)
  deriving Inhabited
def O.isFz : O → Bool
  | .fzl _ => true
  | .fzd _ _ => true
  | _ => false

abbrev Store := List O
abbrev Rho := List (Option D)
structure Ex where
  cls : Nat
  val : D

inductive R (α : Type) where
  | ok (a : α) (s : Store) | exc (e : Ex) (s : Store) | err
abbrev M (α : Type) := Store → R α

namespace M
def ret {α} (a : α) : M α := fun s => .ok a s
def err {α} : M α := fun _ => .err
def bind {α β} (m : M α) (f : α → M β) : M β := fun s => match m s with
  | .ok a s' => f a s'
  | .exc e s' => .exc e s'
  | .err => .err
/-- a result that hangs on the store, which it leaves as it is -/
def opt {α} (f : Store → Option α) : M α := fun s => match f s with
  | some a => .ok a s
  | none => .err
/-- where no exception may leave -/
def nox {α} (m : M α) : M α := fun s => match m s with
  | .ok a s' => .ok a s'
  | _ => .err
end M

/-! ### data -/
/-- what a value is, as plain data, k deep -/
def toP (S : Store) : Nat → D → Option PyData
  | _, .non => some .none
  | _, .bl b => some (.bool b)
  | _, .int i => some (.int i)
  | _, .str x => some (.str x)
  | 0, _ => none
  | k + 1, .tup xs => (xs.mapM (toP S k)).map .tuple
  | k + 1, .lst xs => (xs.mapM (toP S k)).map .list
  | _ + 1, .frz _ => none
  | _ + 1, .wtp _ => none
  | k + 1, .dct ks vs => (ks.mapM (toP S k)).bind fun a => (vs.mapM (toP S k)).map fun b => .dict (a.zip b)
  | k + 1, .ref n => match S[n]? with
    | some (.lst xs) => (xs.mapM (toP S k)).map .list
    | some (.dct ks vs) => (ks.mapM (toP S k)).bind fun a => (vs.mapM (toP S k)).map fun b => .dict (a.zip b)
    | _ => none
def deep : Nat := 24
def dat (S : Store) (d : D) : Option PyData := toP S deep d

/-- a list's, a tuple's items -/
def seqOf (S : Store) : D → Option (List D)
  | .tup xs => some xs
  | .lst xs => some xs
  | .frz xs => some xs
  | .ref n => match S[n]? with
    | some (.lst xs) => some xs
    | _ => none
  | _ => none
/-- a list's items -/
def lstOf (S : Store) : D → Option (List D)
  | .lst xs => some xs
  | .ref n => match S[n]? with
    | some (.lst xs) => some xs
    | _ => none
  | _ => none

def line : Nat := 2 ^ 24

def truth (S : Store) : D → Option Bool
  | .non => some false
  | .bl b => some b
  | .int i => some (i != 0)
  | .str x => if x.length ≤ line then some (x.length != 0) else none
  | .tup xs => some (!xs.isEmpty)
  | .lst xs => some (!xs.isEmpty)
  | .ref n => match S[n]? with
    | some (.lst xs) => some (!xs.isEmpty)
    | _ => none
  | _ => none

/-! ### operators -/
inductive Bop where
  | add | sub | mul | fdiv | mod | pow
  deriving DecidableEq
def small64 (a : Int) : Bool := decide (-(2 ^ 64) < a) && decide (a < 2 ^ 64)
def mulOk (a b : Int) : Bool := small64 a || small64 b || decide (a.natAbs.log2 + b.natAbs.log2 < 1000000)
def divOk (b : Int) : Bool := decide (b ≠ 0) && decide (b.natAbs.log2 < 9000)
def powOk (a n : Int) : Bool := decide (0 ≤ n) && decide (((a.natAbs.log2 + 1 : Nat) : Int) * n ≤ 2 ^ 27)
def small63 (a : Int) : Bool := decide (-(2 ^ 63) ≤ a) && decide (a < 2 ^ 63)

def intOp : Bop → Int → Int → Option Int
  | .add, a, b => some (a + b)
  | .sub, a, b => some (a - b)
  | .mul, a, b => if mulOk a b then some (a * b) else none
  | .fdiv, a, b => if divOk b then some (a.fdiv b) else none
  | .mod, a, b => if b ≠ 0 then some (a.fmod b) else none
  | .pow, a, b => if powOk a b then some (a ^ b.toNat) else none

def bop (o : Bop) (x y : D) (S : Store) : Option D :=
  match x, y with
  | .int a, .int b => (intOp o a b).map .int
  | .str a, .str b => match o with
    | .add => if a.length + b.length ≤ line then some (.str (a ++ b)) else none
    | _ => none
  | .tup xs, .tup ys => match o with
    | .add => if xs.length + ys.length ≤ line then some (.tup (xs ++ ys)) else none
    | _ => none
  | .tup xs, .int k => match o with
    | .mul => if decide (-1000000 ≤ k) && decide (k ≤ 1000000) && decide (xs.length * k.toNat ≤ 1000000) then some (.tup (List.replicate k.toNat xs).flatten) else none
    | _ => none
  | x, .int k => match o, lstOf S x with
    | .mul, some xs => if small63 k && decide (xs.length * k.toNat ≤ line) then some (.lst (List.replicate k.toNat xs).flatten) else none
    | _, _ => none
  | x, y => match o, lstOf S x, lstOf S y with
    | .add, some xs, some ys => if xs.length + ys.length ≤ line then some (.lst (xs ++ ys)) else none
    | _, _, _ => none

inductive Cop where
  | eq | ne | lt | le | gt | ge | is | isNot | isIn | notIn
  deriving DecidableEq

def eqP (S : Store) (x y : D) : Option Bool := match dat S x, dat S y with
  | some a, some b => if PySem.SeqAt.shaped a && PySem.SeqAt.shaped b then some (PyData.eqv a b) else none
  | _, _ => none
def eqD (S : Store) (x y : D) : Option Bool := match x, y with
  | .int a, .int b => some (decide (a = b))
  | .str a, .str b => some (decide (a = b))
  | x, y => eqP S x y
/-- x is y, for y None or a bool -/
def isD (x y : D) : Option Bool := match x, y with
  | .non, .non => some true
  | _, .non => some false
  | .bl a, .bl b => some (a == b)
  | _, _ => none
/-! ### dicts -/
def isKey : D → Bool
  | .int _ => true
  | .str _ => true
  | _ => false
def keyIs (k d : D) : Bool := match k, d with
  | .int a, .int b => decide (a = b)
  | .str a, .str b => decide (a = b)
  | _, _ => false
def lookD (k : D) : List D → List D → Option D
  | j :: ks, v :: vs => if keyIs k j then some v else lookD k ks vs
  | _, _ => none
def pairsD : List D → Option (List (D × D))
  | [] => some []
  | .tup [k, v] :: r => if isKey k then (pairsD r).map ((k, v) :: ·) else none
  | _ :: _ => none
def putD (acc : List (D × D)) (k v : D) : List (D × D) :=
  if acc.any (fun p => keyIs k p.1) then acc.map (fun p => if keyIs k p.1 then (p.1, v) else p) else acc ++ [(k, v)]
def mergeD (acc ps : List (D × D)) : List (D × D) := ps.foldl (fun a q => putD a q.1 q.2) acc
def inD (S : Store) (x y : D) : Option Bool := match y with
  | .dct ks _ => if isKey x then some (ks.any (keyIs x)) else none
  | .str b => match x with
    | .str a => some (!(PySem.Builtin.Str.occurrences b a 0 b.length 1).isEmpty)
    | _ => none
  | y => match dat S x, seqOf S y with
    | some a, some ys => match ys.mapM (dat S) with
      | some bs => if PySem.SeqAt.shaped a && PySem.SeqAt.shaped (.list bs) then some (bs.any fun z => PyData.eqv z a) else none
      | none => none
    | _, _ => none

def cop (c : Cop) (x y : D) (S : Store) : Option Bool := match c with
  | .eq => eqD S x y
  | .ne => (eqD S x y).map (!·)
  | .is => isD x y
  | .isNot => (isD x y).map (!·)
  | .isIn => inD S x y
  | .notIn => (inD S x y).map (!·)
  | .lt => match x, y with
    | .int a, .int b => some (decide (a < b))
    | .str a, .str b => some (decide (a.cps.toList < b.cps.toList))
    | _, _ => none
  | .le => match x, y with
    | .int a, .int b => some (decide (a ≤ b))
    | _, _ => none
  | .gt => match x, y with
    | .int a, .int b => some (decide (b < a))
    | _, _ => none
  | .ge => match x, y with
    | .int a, .int b => some (decide (b ≤ a))
    | _, _ => none

/-- an index's place -/
def place (n : Nat) (i : Int) : Option Nat := if 0 ≤ i then (if i < n then some i.toNat else none) else if -(n : Int) ≤ i then some (i + n).toNat else none
def atP {α : Type} (xs : List α) (i : Int) : Option α := (place xs.length i).bind fun j => xs[j]?
/-- a bound of a slice -/
def bnd (n d : Nat) : Option Int → Nat
  | none => d
  | some v => if v < 0 then (v + (n : Int)).toNat else min v.toNat n
def cut {α : Type} (xs : List α) (lo hi : Option Int) : List α := (xs.drop (bnd xs.length 0 lo)).take (bnd xs.length xs.length hi - bnd xs.length 0 lo)

def idxD (S : Store) (x i : D) : Option D := match i with
  | .int i => match x with
    | .str z => if z.length ≤ line then (atP z.cps.toList i).map fun c => .str ⟨#[c]⟩ else none
    | .dct ks vs => lookD (.int i) ks vs
    | x => (seqOf S x).bind fun xs => atP xs i
  | .str z => match x with
    | .dct ks vs => lookD (.str z) ks vs
    | _ => none
  | _ => none
def slcD (S : Store) (x : D) (lo hi : Option Int) : Option D := match x with
  | .str z => if z.length ≤ line then some (.str ⟨(cut z.cps.toList lo hi).toArray⟩) else none
  | .tup xs => some (.tup (cut xs lo hi))
  | x => (lstOf S x).map fun xs => .lst (cut xs lo hi)
def revD (S : Store) (x : D) : Option D := match x with
  | .tup xs => some (.tup xs.reverse)
  | x => (lstOf S x).map fun xs => .lst xs.reverse

inductive Ty where
  | int | bool | str | tuple | list | dict
  deriving DecidableEq
/-- the built-in class -/
def tyOf (S : Store) : D → Option Ty
  | .bl _ => some .bool
  | .int _ => some .int
  | .str _ => some .str
  | .tup _ => some .tuple
  | .lst _ => some .list
  | .frz _ => some .list
  | .dct _ _ => some .dict
  | .ref n => match S[n]? with
    | some (.lst _) => some .list
    | some (.dct _ _) => some .dict
    | _ => none
  | .wtp _ => none
  | .non => none
def isiD (S : Store) (t : Ty) (x : D) : Option Bool := match x with
  | .non => some false
  | x => (tyOf S x).map fun u => decide (u = t) || (decide (u = .bool) && decide (t = .int))

/-! ### built-ins -/
def intsD : List D → Option (List Int)
  | [] => some []
  | .int i :: r => (intsD r).map (i :: ·)
  | _ :: _ => none
def boolsD : List D → Option (List Bool)
  | [] => some []
  | .bl b :: r => (boolsD r).map (b :: ·)
  | _ :: _ => none
def strsD : List D → Option (List Str)
  | [] => some []
  | .str x :: r => (strsD r).map (x :: ·)
  | _ :: _ => none

inductive Blt where
  | len | tuple | list | listM | all | any | sum | abs | max | min | int | str | repr
  | append | pop | popAt | upper | tindex | tcount | sortS | sjoin | dict | dget
  deriving DecidableEq

def lenF (S : Store) : List D → Option D
  | [.str x] => if x.length ≤ line then some (.int x.length) else none
  | [x] => (seqOf S x).map fun xs => .int xs.length
  | _ => none
def tupleF (S : Store) : List D → Option D
  | [x] => (seqOf S x).map .tup
  | _ => none
def listF (S : Store) : List D → Option D
  | [x] => (seqOf S x).map .lst
  | _ => none
def allF (S : Store) : List D → Option D
  | [x] => (lstOf S x).bind fun xs => (boolsD xs).map fun bs => .bl (bs.all id)
  | _ => none
def anyF (S : Store) : List D → Option D
  | [x] => (lstOf S x).bind fun xs => (boolsD xs).map fun bs => .bl (bs.any id)
  | _ => none
def sumF (S : Store) : List D → Option D
  | [x] => (seqOf S x).bind fun xs => (intsD xs).map fun ns => .int ns.sum
  | _ => none
def absF (_ : Store) : List D → Option D
  | [.int i] => some (.int (if i < 0 then -i else i))
  | _ => none
def maxF (_ : Store) : List D → Option D
  | [.int i, .int j] => some (.int (if j > i then j else i))
  | _ => none
def minF (_ : Store) : List D → Option D
  | [.int i, .int j] => some (.int (if j < i then j else i))
  | _ => none
def intF (_ : Store) : List D → Option D
  | [.int i] => some (.int i)
  | [.bl b] => some (.int (if b then 1 else 0))
  | _ => none
def strF (_ : Store) : List D → Option D
  | [.int i] => if i.natAbs.log2 < 1920 then some (.str (toString i : String)) else none
  | _ => none
def reprF (S : Store) : List D → Option D
  | [x] => (dat S x).bind fun d => if d.showable && decide (d.shown.length ≤ line) then some (.str d.shown) else none
  | _ => none
/-- t.index(x), t.count(x), t a tuple of texts -/
def tindexF (_ : Store) : List D → Option D
  | [.tup xs, .str z] => (strsD xs).bind fun ys => if z ∈ ys then some (.int (ys.idxOf z)) else none
  | _ => none
def tcountF (_ : Store) : List D → Option D
  | [.tup xs, .str z] => (strsD xs).map fun ys => .int (ys.count z)
  | _ => none
def leS (x y : Str) : Bool := decide (x.cps.toList ≤ y.cps.toList)
/-- sorted(xs), xs a list of texts -/
def sortF (S : Store) : List D → Option D
  | [x] => (lstOf S x).bind fun xs => (strsD xs).bind fun ys => if ys.length < 64 then some (.lst ((ys.mergeSort leS).map .str)) else none
  | _ => none
/-- x.upper() -/
def upperF (_ : Store) : List D → Option D
  | [.str x] => if x.length ≤ 5592405 then some (.str (PySem.Txt.upper x)) else none
  | _ => none
/-- z.join(xs) -/
def joinF (S : Store) : List D → Option D
  | [.str z, x] => (seqOf S x).bind fun xs => (strsD xs).bind fun ys => if (ys.map (·.length)).sum + ys.length * z.length ≤ 16777216 then some (.str (PySem.Txt.join z ys)) else none
  | _ => none
/-- dict(xs), xs a list of pairs -/
def dictF (S : Store) : List D → Option D
  | [x] => (lstOf S x).bind fun xs => (pairsD xs).map fun ps => .dct ((mergeD [] ps).map (·.1)) ((mergeD [] ps).map (·.2))
  | _ => none
/-- d.get(k, e) -/
def dgetF (_ : Store) : List D → Option D
  | [.dct ks vs, k, e] => if isKey k then some ((lookD k ks vs).getD e) else none
  | _ => none
/-- built-ins that leave the store as it is -/
def blt0 (b : Blt) (args : List D) (S : Store) : Option D := match b with
  | .len => lenF S args
  | .tuple => tupleF S args
  | .list => listF S args
  | .all => allF S args
  | .any => anyF S args
  | .sum => sumF S args
  | .abs => absF S args
  | .max => maxF S args
  | .min => minF S args
  | .int => intF S args
  | .str => strF S args
  | .repr => reprF S args
  | .tindex => tindexF S args
  | .tcount => tcountF S args
  | .sortS => sortF S args
  | .upper => upperF S args
  | .sjoin => joinF S args
  | .dict => dictF S args
  | .dget => dgetF S args
  | _ => none

def setO (n : Nat) (o : O) : M D := fun s => .ok .non (s.set n o)
def newO (o : O) : M D := fun s => .ok (.ref s.length) (s ++ [o])

def listMF : List D → M D
  | [x] => fun S => match seqOf S x with
    | some xs => newO (.lst xs) S
    | none => .err
  | _ => M.err
def appendF : List D → M D
  | [.ref n, x] => fun S => match S[n]? with
    | some (.lst xs) => if xs.length < line then setO n (.lst (xs ++ [x])) S else .err
    | _ => .err
  | _ => M.err
def popF : List D → M D
  | [.ref n] => fun S => match S[n]? with
    | some (.lst xs) => match xs.getLast? with
      | some y => .ok y (S.set n (.lst xs.dropLast))
      | none => .err
    | _ => .err
  | _ => M.err
def popAtF : List D → M D
  | [.ref n, .int i] => fun S => match S[n]? with
    | some (.lst xs) => if small63 i then match place xs.length i with
      | some j => match xs[j]? with
        | some y => .ok y (S.set n (.lst (xs.eraseIdx j)))
        | none => .err
      | none => .err
      else .err
    | _ => .err
  | _ => M.err
def blt (b : Blt) (args : List D) : M D := match b with
  | .listM => listMF args
  | .append => appendF args
  | .pop => popF args
  | .popAt => popAtF args
  | b => M.opt (blt0 b args)

/-- what is asked of the one whose method is called, ahead of the arguments -/
def mthOk (b : Blt) (x : D) (S : Store) : Option Unit := match b, x with
  | .tindex, .tup _ => some ()
  | .tcount, .tup _ => some ()
  | .upper, .str _ => some ()
  | .sjoin, .str _ => some ()
  | .dget, .dct _ _ => some ()
  | .append, .ref n => match S[n]? with
    | some (.lst _) => some ()
    | _ => none
  | .pop, .ref n => match S[n]? with
    | some (.lst _) => some ()
    | _ => none
  | .popAt, .ref n => match S[n]? with
    | some (.lst _) => some ()
    | _ => none
  | _, _ => none
/-! ### the text -/
inductive Tg where
  | nm (i : Nat) | tp (is : List Nat)
mutual
inductive E where
  | var (i : Nat) | cst (d : D)
  | bin (o : Bop) (a b : E) | neg (a : E) | not (a : E)
  | cmp (c : Cop) (a b : E) | chain (c c' : Cop) (a b d : E)
  | and (a b : E) | or (a b : E) | ite (c a b : E)
  | tup (es : Es) | lst (es : Es) | lstM (es : Es) | dct (ks vs : Es)
  | idx (a i : E) | slc (a : E) (lo hi : Eo) | rev (a : E)
  | isi (a : E) (t : Ty) | bad | fz (a : E) | repM (a b : E)
  | blt (b : Blt) (es : Es)
  | call (f : Nat) (es : Es) | lstS (es : Es) | mth (b : Blt) (o : E) (es : Es)
  | lc (elt : E) (tg : Tg) (it : It) (ifs : Es) (own : List Nat)
inductive Es where
  | nil | cons (e : E) (es : Es) | star (e : E) (es : Es)
inductive Eo where
  | no | so (e : E)
inductive It where
  | seq (e : E) | rng1 (e : E) | rng2 (a b : E) | zip (a b : E) | enum (a : E) | enumT (a : E)
end
mutual
inductive Sm where
  | expr (e : E) | set (i : Nat) (e : E) | setT (is : List Nat) (e : E) | par (is : List Nat) (es : Es)
  | setI (o i e : E) | aug (i : Nat) (o : Bop) (e : E)
  | cond (c : E) (a b : Sms) | loop (tg : Tg) (it : It) (b : Sms) | while (c : E) (b : Sms)
  | ret (e : E) | retN | raise (c : Nat) (e : E) | pass | brk | cont | bad
inductive Sms where
  | nil | cons (s : Sm) (r : Sms)
end

/-! ### loops -/
inductive Fl where
  | nx | rt (d : D) | bk | ct

def wipe (ρ : Rho) : List Nat → Rho
  | [] => ρ
  | v :: vs => (wipe ρ vs).set v none
def setAll (ρ : Rho) : List Nat → List D → Option Rho
  | [], [] => some ρ
  | i :: is, d :: ds => setAll (ρ.set i (some d)) is ds
  | _, _ => none
def setTg (ρ : Rho) (tg : Tg) (d : D) : Option Rho := match tg with
  | .nm i => some (ρ.set i (some d))
  | .tp is => match d with
    | .tup xs => setAll ρ is xs
    | .wtp xs => setAll ρ is xs
    | _ => none
def mapO (step : D → M (Option D)) : List D → M (List D)
  | [] => M.ret []
  | x :: xs => M.bind (step x) fun o => match o with
    | none => mapO step xs
    | some y => M.bind (mapO step xs) fun ys => M.ret (y :: ys)
def forL (body : D → Rho → M (Fl × Rho)) : List D → Rho → M (Fl × Rho)
  | [], ρ => M.ret (.nx, ρ)
  | x :: xs, ρ => M.bind (body x ρ) fun r => match r.1 with
    | .nx => forL body xs r.2
    | .ct => forL body xs r.2
    | .bk => M.ret (.nx, r.2)
    | .rt d => M.ret (.rt d, r.2)
def whileL (test : Rho → M Bool) (body : Rho → M (Fl × Rho)) : Nat → Rho → M (Fl × Rho)
  | 0, _ => M.err
  | k + 1, ρ => M.bind (test ρ) fun b => if b then M.bind (body ρ) fun r => match r.1 with
      | .nx => whileL test body k r.2
      | .ct => whileL test body k r.2
      | .bk => M.ret (.nx, r.2)
      | .rt d => M.ret (.rt d, r.2)
    else M.ret (.nx, ρ)
def pairs : List D → List D → List D
  | x :: xs, y :: ys => .wtp [x, y] :: pairs xs ys
  | _, _ => []
def numbered : Nat → List D → List D
  | _, [] => []
  | k, x :: xs => .wtp [.int k, x] :: numbered (k + 1) xs
def range (lo hi : Int) : List D := (List.range (hi - lo).toNat).map fun (k : Nat) => D.int (lo + (k : Int))
def small62 (a : Int) : Bool := decide (-(2 ^ 62) ≤ a) && decide (a < 2 ^ 62)

/-! ### the evaluator -/
section
variable (cf : Nat → List D → M D)
def truthM (d : D) : M Bool := M.opt fun S => truth S d
def getV (ρ : Rho) (i : Nat) : M D := match ρ[i]? with
  | some (some d) => M.ret d
  | _ => M.err
def negK : D → M D
  | .int i => M.ret (.int (-i))
  | _ => M.err
def andK (m : M D) : D → M D
  | .bl true => m
  | .bl false => M.ret (.bl false)
  | _ => M.err
def orK (m : M D) : D → M D
  | .bl true => M.ret (.bl true)
  | .bl false => m
  | _ => M.err
def starK : D → M (List D)
  | .tup ys => M.ret ys
  | .lst ys => M.ret ys
  | _ => M.err
def intK : D → M (Option Int)
  | .int i => M.ret (some i)
  | _ => M.err
def chars (x : Str) : List D := x.cps.toList.map fun c => .str ⟨#[c]⟩
def seqK : D → M (List D)
  | .tup xs => M.ret xs
  | .lst xs => M.ret xs
  | .frz xs => M.ret xs
  | .str x => if x.length ≤ line then M.ret (chars x) else M.err
  | _ => M.err
def rngK : D → M (List D)
  | .int n => if small62 n && decide (n.toNat ≤ line) then M.ret (range 0 n) else M.err
  | _ => M.err
def rng2K : D → D → M (List D)
  | .int m, .int n => if small62 m && small62 n && decide ((n - m).toNat ≤ line) then M.ret (range m n) else M.err
  | _, _ => M.err
def zipOf : D → Option (List D)
  | .tup xs => some xs
  | .lst xs => some xs
  | _ => none
def zipK (x y : D) : M (List D) := match zipOf x, zipOf y with
  | some xs, some ys => M.ret (pairs xs ys)
  | _, _ => M.err
def enumK : D → M (List D)
  | .lst xs => M.ret (numbered 0 xs)
  | _ => M.err
def enumTK : D → M (List D)
  | .tup xs => M.ret (numbered 0 xs)
  | _ => M.err
/-- a new list of the store: x * k -/
def repK (x y : D) : M D := fun S => match lstOf S x, y with
  | some xs, .int k => if small63 k && decide (xs.length * k.toNat ≤ line) then newO (.lst (List.replicate k.toNat xs).flatten) S else .err
  | _, _ => .err
/-- no more changed from here on -/
def fzK : D → M D
  | .ref n => fun S => match S[n]? with
    | some (.lst xs) => .ok (.lst xs) (S.set n (.fzl xs))
    | some (.dct ks vs) => .ok (.dct ks vs) (S.set n (.fzd ks vs))
    | some (.fzl xs) => .ok (.lst xs) S
    | some (.fzd ks vs) => .ok (.dct ks vs) S
    | none => .err
  | d => M.ret d
/-- one turn of a comprehension -/
def lcK (ρ : Rho) (tg : Tg) (own : List Nat) (test : Rho → M Bool) (elt : Rho → M D) (x : D) : M (Option D) := match setTg (wipe ρ own) tg x with
  | some ρ' => M.bind (test ρ') fun k => if k then M.bind (elt ρ') fun y => M.ret (some y) else M.ret none
  | none => M.err
def unpK (ρ : Rho) (is : List Nat) : D → M (Fl × Rho)
  | .tup xs => match setAll ρ is xs with
    | some ρ' => M.ret (.nx, ρ')
    | none => M.err
  | .lst xs => match setAll ρ is xs with
    | some ρ' => M.ret (.nx, ρ')
    | none => M.err
  | _ => M.err
def parK (ρ : Rho) (is : List Nat) (xs : List D) : M (Fl × Rho) := match setAll ρ is xs with
  | some ρ' => M.ret (.nx, ρ')
  | none => M.err
def setIK (ρ : Rho) (v x k : D) : M (Fl × Rho) := fun S => match x, k with
  | .ref n, .int i => match S[n]? with
    | some (.lst xs) => match place xs.length i with
      | some j => .ok (.nx, ρ) (S.set n (.lst (xs.set j v)))
      | none => .err
    | _ => .err
  | _, _ => .err
def augK (ρ : Rho) (i : Nat) (o : Bop) : D → D → M (Fl × Rho)
  | .int a, .int b => match intOp o a b with
    | some k => M.ret (.nx, ρ.set i (some (.int k)))
    | none => M.err
  | _, _ => M.err
def loopK (tg : Tg) (body : Rho → M (Fl × Rho)) (x : D) (ρ : Rho) : M (Fl × Rho) := match setTg ρ tg x with
  | some ρ' => body ρ'
  | none => M.err
def nextK (m : Rho → M (Fl × Rho)) : Fl × Rho → M (Fl × Rho)
  | (.nx, ρ) => m ρ
  | (f, ρ) => M.ret (f, ρ)
mutual
def ev : E → Rho → M D
  | .var i, ρ => getV ρ i
  | .cst d, _ => M.ret d
  | .bin o a b, ρ => M.bind (ev a ρ) fun x => M.bind (ev b ρ) fun y => M.opt (bop o x y)
  | .neg a, ρ => M.bind (ev a ρ) negK
  | .not a, ρ => M.bind (ev a ρ) fun x => M.bind (truthM x) fun b => M.ret (.bl (!b))
  | .cmp c a b, ρ => M.bind (ev a ρ) fun x => M.bind (ev b ρ) fun y => M.bind (M.opt (cop c x y)) fun k => M.ret (.bl k)
  | .chain c c' a b d, ρ => M.bind (ev a ρ) fun x => M.bind (ev b ρ) fun y => M.bind (M.opt (cop c x y)) fun k =>
      if k then M.bind (ev d ρ) fun z => M.bind (M.opt (cop c' y z)) fun k => M.ret (.bl k) else M.ret (.bl false)
  | .and a b, ρ => M.bind (ev a ρ) (andK (ev b ρ))
  | .or a b, ρ => M.bind (ev a ρ) (orK (ev b ρ))
  | .ite c a b, ρ => M.bind (ev c ρ) fun x => M.bind (truthM x) fun k => if k then ev a ρ else ev b ρ
  | .tup es, ρ => M.bind (evs es ρ) fun xs => M.ret (.tup xs)
  | .lst es, ρ => M.bind (evs es ρ) fun xs => M.ret (.lst xs)
  | .lstM es, ρ => M.bind (evs es ρ) fun xs => newO (.lst xs)
  | .dct ks vs, ρ => M.bind (evs ks ρ) fun a => M.bind (evs vs ρ) fun b => M.ret (.dct a b)
  | .idx a i, ρ => M.bind (ev a ρ) fun x => M.bind (ev i ρ) fun k => M.opt fun S => idxD S x k
  | .slc a lo hi, ρ => M.bind (ev a ρ) fun x => M.bind (evo lo ρ) fun l => M.bind (evo hi ρ) fun h => M.opt fun S => slcD S x l h
  | .rev a, ρ => M.bind (ev a ρ) fun x => M.opt fun S => revD S x
  | .isi a t, ρ => M.bind (ev a ρ) fun x => M.bind (M.opt fun S => isiD S t x) fun k => M.ret (.bl k)
  | .bad, _ => M.err
  | .fz a, ρ => M.bind (ev a ρ) fzK
  | .repM a b, ρ => M.bind (ev a ρ) fun x => M.bind (ev b ρ) fun y => repK x y
  | .blt b es, ρ => M.bind (evs es ρ) fun xs => blt b xs
  | .call f es, ρ => M.bind (evs es ρ) fun xs => cf f xs
  | .mth b o es, ρ => M.bind (ev o ρ) fun x => M.bind (M.opt (mthOk b x)) fun _ => M.bind (evs es ρ) fun xs => blt b (x :: xs)
  | .lstS es, ρ => M.bind (evs es ρ) fun xs => if xs.length ≤ line then M.ret (.lst xs) else M.err
  | .lc elt tg it ifs own, ρ => M.bind (evi it ρ) fun xs => M.bind (M.nox (mapO (lcK ρ tg own (fun ρ' => evts ifs ρ') (fun ρ' => ev elt ρ')) xs)) fun ys => M.ret (.lst ys)
def evs : Es → Rho → M (List D)
  | .nil, _ => M.ret []
  | .cons e es, ρ => M.bind (ev e ρ) fun x => M.bind (evs es ρ) fun xs => M.ret (x :: xs)
  | .star e es, ρ => M.bind (ev e ρ) fun x => M.bind (starK x) fun ys => M.bind (evs es ρ) fun xs => M.ret (ys ++ xs)
/-- the tests of a comprehension -/
def evts : Es → Rho → M Bool
  | .nil, _ => M.ret true
  | .cons e es, ρ => M.bind (ev e ρ) fun x => M.bind (truthM x) fun k => if k then evts es ρ else M.ret false
  | .star _ _, _ => M.err
def evo : Eo → Rho → M (Option Int)
  | .no, _ => M.ret none
  | .so e, ρ => M.bind (ev e ρ) intK
def evi : It → Rho → M (List D)
  | .seq e, ρ => M.bind (ev e ρ) seqK
  | .rng1 e, ρ => M.bind (ev e ρ) rngK
  | .rng2 a b, ρ => M.bind (ev a ρ) fun x => M.bind (ev b ρ) (rng2K x)
  | .zip a b, ρ => M.bind (ev a ρ) fun x => M.bind (ev b ρ) (zipK x)
  | .enum a, ρ => M.bind (ev a ρ) enumK
  | .enumT a, ρ => M.bind (ev a ρ) enumTK
end
def evT (e : E) (ρ : Rho) : M Bool := M.bind (ev cf e ρ) truthM

variable (w : Nat)
mutual
def exec : Sm → Rho → M (Fl × Rho)
  | .expr e, ρ => M.bind (ev cf e ρ) fun _ => M.ret (.nx, ρ)
  | .set i e, ρ => M.bind (ev cf e ρ) fun x => M.ret (.nx, ρ.set i (some x))
  | .setT is e, ρ => M.bind (ev cf e ρ) (unpK ρ is)
  | .par is es, ρ => M.bind (evs cf es ρ) (parK ρ is)
  | .setI o i e, ρ => M.bind (ev cf e ρ) fun v => M.bind (ev cf o ρ) fun x => M.bind (ev cf i ρ) fun k => setIK ρ v x k
  | .aug i o e, ρ => M.bind (getV ρ i) fun x => M.bind (ev cf e ρ) (augK ρ i o x)
  | .cond c a b, ρ => M.bind (evT cf c ρ) fun k => if k then execs a ρ else execs b ρ
  | .loop tg it b, ρ => M.bind (evi cf it ρ) fun xs => forL (loopK tg fun ρ => execs b ρ) xs ρ
  | .while c b, ρ => whileL (fun ρ => evT cf c ρ) (fun ρ => execs b ρ) w ρ
  | .ret e, ρ => M.bind (ev cf e ρ) fun x => M.ret (.rt x, ρ)
  | .retN, ρ => M.ret (.rt .non, ρ)
  | .raise c e, ρ => M.bind (ev cf e ρ) fun x => fun S => .exc ⟨c, x⟩ S
  | .bad, _ => M.err
  | .pass, ρ => M.ret (.nx, ρ)
  | .brk, ρ => M.ret (.bk, ρ)
  | .cont, ρ => M.ret (.ct, ρ)
def execs : Sms → Rho → M (Fl × Rho)
  | .nil, ρ => M.ret (.nx, ρ)
  | .cons s r, ρ => M.bind (exec s ρ) (nextK fun ρ => execs r ρ)
end
end

structure Fn where
  arity : Nat
  star : Bool
  slots : Nat
  body : Sms
/-- the parameters' values -/
def bindA (fn : Fn) (args : List D) : Option (List D) :=
  if fn.star then (if fn.arity ≤ args.length ∧ args.length ≤ line then some (args.take fn.arity ++ [.tup (args.drop fn.arity)]) else none)
  else if args.length = fn.arity then some args else none
def runBody (cf : Nat → List D → M D) (w : Nat) (fn : Fn) (args : List D) : M D :=
  M.bind (execs cf w fn.body (args.map some ++ List.replicate (fn.slots - args.length) none)) fun p => match p.1 with
    | .nx => M.ret .non
    | .rt d => M.ret d
    | _ => M.err
def callI (prog : List Fn) (w : Nat) : Nat → Nat → List D → M D
  | 0, _, _ => M.err
  | k + 1, f, args => match prog[f]? with
    | some fn => match bindA fn args with
      | some as => runBody (callI prog w k) w fn as
      | none => M.err
    | none => M.err
end Ln

set_option linter.all false
set_option maxRecDepth 100000
/-! Ln's soundness: the evaluator's relation to the hand layer's judgements. -/
namespace LnS
open PySem L2
open Ln (D O Store Rho M R Ex)

abbrev Frag := PySem.W.Frag

/-- where the store's objects stand (h), and lists that are being made (x) -/
structure Al where
  h : List Addr
  x : List Addr
  /-- those of h that are frozen -/
  z : List Addr
def Al.has (α : Al) (a : Addr) : Prop := (a ∈ α.h ∧ a ∉ α.z) ∨ a ∈ α.x

/-! ### values -/
/-- a list that is read alone -/
def Frz (K : Frag) (H : Hp) (α : Al) (a : Addr) (vs : List V) : Prop :=
  (¬ α.has a ∧ Rd H a (.lst vs)) ∨ ∃ (o : Obj) (its : Array Value) (n : Nat), K.lookup a = some o ∧ o.cls = .type "list" ∧ o.dict = none ∧ o.data = .seq its n ∧ its.size ≤ sizeLine ∧ Vals vs its.toList
theorem Frz.sq {K : Frag} {H : Hp} {α : Al} {a : Addr} {vs : List V} (h : Frz K H α a vs) : SqL K H a vs := h.imp (·.2) id
/-- a tuple whose object is known to have no dict of its own -/
def TupS (K : Frag) (H : Hp) (a : Addr) (vs : List V) : Prop :=
  (∃ o : Obj, o.dict = none ∧ H a = some (.frz o (.tup vs))) ∨ ∃ (o : Obj) (its : Array Value) (n : Nat), o.dict = none ∧ K.lookup a = some o ∧ o.cls = .type "tuple" ∧ o.data = .seq its n ∧ its.size ≤ sizeLine ∧ Vals vs its.toList
theorem TupS.sq {K : Frag} {H : Hp} {a : Addr} {vs : List V} (h : TupS K H a vs) : SqT K H a vs := h.imp (fun ⟨o, _, e⟩ => .inr ⟨o, e⟩) fun ⟨o, its, n, _, h⟩ => ⟨o, its, n, h⟩
mutual
inductive RD (K : Frag) (H : Hp) (α : Al) : D → V → Prop
  | non : RD K H α .non .non
  | bl (b : Bool) : RD K H α (.bl b) (.bl b)
  | int (i : Int) : RD K H α (.int i) (.int i)
  | str (x : Str) : RD K H α (.str x) (.str x)
  | tup {a : Addr} {xs : List D} {vs : List V} : TupS K H a vs → RDs K H α xs vs → RD K H α (.tup xs) (.ref a)
  | wtp {a : Addr} {xs : List D} {vs : List V} : SqT K H a vs → RDs K H α xs vs → RD K H α (.wtp xs) (.ref a)
  | lst {a : Addr} {xs : List D} {vs : List V} : ¬ α.has a → H a = some (.lst vs) → RDs K H α xs vs → RD K H α (.lst xs) (.ref a)
  | frz {a : Addr} {xs : List D} {vs : List V} : Frz K H α a vs → RDs K H α xs vs → RD K H α (.frz xs) (.ref a)
  | dct {a : Addr} {ks vs : List D} {kvs : List (Key × V)} : ¬ α.has a → H a = some (.dK kvs) → RDs K H α ks (kvs.map fun p => kV p.1) → RDs K H α vs (kvs.map (·.2)) → RD K H α (.dct ks vs) (.ref a)
  | ref {n : Nat} {a : Addr} : α.h[n]? = some a → RD K H α (.ref n) (.ref a)
inductive RDs (K : Frag) (H : Hp) (α : Al) : List D → List V → Prop
  | nil : RDs K H α [] []
  | cons {d : D} {ds : List D} {v : V} {vs : List V} : RD K H α d v → RDs K H α ds vs → RDs K H α (d :: ds) (v :: vs)
end

/-- what may be relied on: all that is tracked but the mutable things of the store stands -/
structure Ext (α : Al) (H H' : Hp) : Prop where
  keep : ∀ a o, H a = some o → (a ∈ α.h → a ∉ α.z → ¬ Mut (some o)) → H' a = some o

theorem Ext.refl {α : Al} {H : Hp} : Ext α H H := ⟨fun _ _ h _ => h⟩
theorem Ext.sqT {K : Frag} {α : Al} {H H' : Hp} (e : Ext α H H') {a : Addr} {xs : List V} (h : SqT K H a xs) : SqT K H' a xs := by
  rcases h with (h | ⟨o, h⟩) | h
  · exact .inl (.inl (e.keep _ _ h fun _ _ z => z))
  · exact .inl (.inr ⟨o, e.keep _ _ h fun _ _ z => z⟩)
  · exact .inr h
theorem Ext.tupS {K : Frag} {α : Al} {H H' : Hp} (e : Ext α H H') {a : Addr} {xs : List V} (h : TupS K H a xs) : TupS K H' a xs := h.imp (fun ⟨o, d, q⟩ => ⟨o, d, e.keep _ _ q fun _ _ z => z⟩) id
theorem Ext.sqL {K : Frag} {α : Al} {H H' : Hp} (e : Ext α H H') {a : Addr} {xs : List V} (n : ¬ α.has a) (h : SqL K H a xs) : SqL K H' a xs := by
  have n' : a ∈ α.h → a ∉ α.z → False := fun z w => n (.inl ⟨z, w⟩)
  rcases h with (h | ⟨o, h⟩) | h
  · exact .inl (.inl (e.keep _ _ h fun z w => (n' z w).elim))
  · exact .inl (.inr ⟨o, e.keep _ _ h fun z w => (n' z w).elim⟩)
  · exact .inr h

/-- α grows to α', the new ones were free -/
structure Grow (α : Al) (H : Hp) (α' : Al) : Prop where
  pre : α.h <+: α'.h
  sx : ∀ a ∈ α.x, a ∈ α'.x
  sn : ∀ a ∈ α'.x, a ∈ α.x ∨ H a = none
  new : ∀ p ∈ α'.h, p ∉ α.h → H p = none
  zz : ∀ a ∈ α.z, a ∈ α'.z
theorem Grow.refl {α : Al} {H : Hp} : Grow α H α := ⟨List.prefix_refl _, fun _ h => h, fun _ h => .inl h, fun p h n => absurd h n, fun _ h => h⟩
theorem Grow.get {α α' : Al} {H : Hp} (g : Grow α H α') {n : Nat} {a : Addr} (h : α.h[n]? = some a) : α'.h[n]? = some a := by
  obtain ⟨t, e⟩ := g.pre
  rw [← e, List.getElem?_append_left (List.getElem?_eq_some_iff.mp h).1]
  exact h
theorem Grow.notin {α α' : Al} {H : Hp} (g : Grow α H α') {a : Addr} {o : HO} (n : ¬ α.has a) (h : H a = some o) : ¬ α'.has a := fun q => by
  rcases q with ⟨q, q'⟩ | q
  · rw [g.new a q fun z => n (.inl ⟨z, fun w => q' (g.zz a w)⟩)] at h; cases h
  · rcases g.sn a q with q | q
    · exact n (.inr q)
    · rw [q] at h; cases h

mutual
theorem RD.mono {K : Frag} {H H' : Hp} {α α' : Al} (g : Grow α H α') (e : Ext α H H') : ∀ {d : D} {v : V}, RD K H α d v → RD K H' α' d v
  | _, _, .non => .non
  | _, _, .bl b => .bl b
  | _, _, .int i => .int i
  | _, _, .str x => .str x
  | _, _, .tup h r => .tup (e.tupS h) (RDs.mono g e r)
  | _, _, .wtp h r => .wtp (e.sqT h) (RDs.mono g e r)
  | _, _, .lst n h r => .lst (g.notin n h) (e.keep _ _ h fun z w => absurd (.inl ⟨z, w⟩) n) (RDs.mono g e r)
  | _, _, .frz h r => .frz (h.imp (fun ⟨n, h⟩ => h.elim (fun h => ⟨g.notin n h, .inl (e.keep _ _ h fun z w => absurd (.inl ⟨z, w⟩) n)⟩) fun ⟨o, h⟩ => ⟨g.notin n h, .inr ⟨o, e.keep _ _ h fun z w => absurd (.inl ⟨z, w⟩) n⟩⟩) id) (RDs.mono g e r)
  | _, _, .dct n h r1 r2 => .dct (g.notin n h) (e.keep _ _ h fun z w => absurd (.inl ⟨z, w⟩) n) (RDs.mono g e r1) (RDs.mono g e r2)
  | _, _, .ref h => .ref (g.get h)
theorem RDs.mono {K : Frag} {H H' : Hp} {α α' : Al} (g : Grow α H α') (e : Ext α H H') : ∀ {ds : List D} {vs : List V}, RDs K H α ds vs → RDs K H' α' ds vs
  | _, _, .nil => .nil
  | _, _, .cons r t => .cons (RD.mono g e r) (RDs.mono g e t)
end

/-! ### the store -/
def RO (K : Frag) (H : Hp) (α : Al) (a : Addr) : O → Prop
  | .lst xs => ∃ vs, H a = some (.lst vs) ∧ RDs K H α xs vs
  | .dct ks vs => ∃ kvs : List (Key × V), H a = some (.dK kvs) ∧ RDs K H α ks (kvs.map fun p => kV p.1) ∧ RDs K H α vs (kvs.map (·.2))
  | .fzl xs => ∃ vs, H a = some (.lst vs) ∧ RDs K H α xs vs
  | .fzd ks vs => ∃ kvs : List (Key × V), H a = some (.dK kvs) ∧ RDs K H α ks (kvs.map fun p => kV p.1) ∧ RDs K H α vs (kvs.map (·.2))
/-- the table of modules is told apart from all that is new -/
def SysM (H : Hp) : Prop := ∃ φ, H sysModules = some (.ext φ)
structure RS (K : Frag) (H : Hp) (α : Al) (S : Store) : Prop where
  sm : SysM H
  len : α.h.length = S.length
  nd : α.h.Nodup
  dis : ∀ a ∈ α.h, a ∉ α.x
  scr : ∀ a ∈ α.x, ∃ vs, H a = some (.lst vs)
  at_ : ∀ (n : Nat) (a : Addr) (o : O), α.h[n]? = some a → S[n]? = some o → RO K H α a o
  fz : ∀ (n : Nat) (a : Addr) (o : O), α.h[n]? = some a → S[n]? = some o → (a ∈ α.z ↔ o.isFz = true)
  zh : ∀ a ∈ α.z, a ∈ α.h
structure RE (K : Frag) (H : Hp) (α : Al) (ρ : Rho) (σ : L2.St) : Prop where
  len : ρ.length = σ.length
  get : ∀ (i : Nat) (d : D), ρ[i]? = some (some d) → ∃ v, σ[i]? = some (some v) ∧ RD K H α d v
structure After (K : Frag) (α : Al) (H : Hp) (α' : Al) (H' : Hp) (S' : Store) : Prop where
  grow : Grow α H α'
  ext : Ext α H H'
  rs : RS K H' α' S'

theorem SysM.upd {H : Hp} {p : Addr} {o u : HO} (h : SysM H) (hp : H p = none ∨ (H p = some u ∧ ∀ φ, u ≠ .ext φ)) : SysM (upd H p o) := by
  obtain ⟨φ, e⟩ := h
  refine ⟨φ, ?_⟩
  rw [upd_ne (fun z => ?_)]
  · exact e
  · rw [← z, e] at hp
    rcases hp with hp | ⟨hp, n⟩
    · cases hp
    · cases hp; exact n φ rfl
theorem RS.mut' {K : Frag} {H : Hp} {α : Al} {S : Store} (r : RS K H α S) {a : Addr} (h : a ∈ α.h ∨ a ∈ α.x) : ∃ o, H a = some o ∧ Mut (some o) ∧ ∀ φ, o ≠ .ext φ := by
  rcases h with h | h
  · obtain ⟨n, e⟩ := List.mem_iff_getElem?.mp h
    have hn : n < S.length := by rw [← r.len]; exact (List.getElem?_eq_some_iff.mp e).1
    have q := r.at_ n a S[n] e (List.getElem?_eq_getElem hn)
    cases hS : S[n] with
    | lst xs =>
      rw [hS] at q
      obtain ⟨vs, h, _⟩ := q
      exact ⟨_, h, trivial, fun φ z => nomatch z⟩
    | dct ks vs =>
      rw [hS] at q
      obtain ⟨kvs, h, _⟩ := q
      exact ⟨_, h, trivial, fun φ z => nomatch z⟩
    | fzl xs =>
      rw [hS] at q
      obtain ⟨vs, h, _⟩ := q
      exact ⟨_, h, trivial, fun φ z => nomatch z⟩
    | fzd ks vs =>
      rw [hS] at q
      obtain ⟨kvs, h, _⟩ := q
      exact ⟨_, h, trivial, fun φ z => nomatch z⟩
  · obtain ⟨vs, h⟩ := r.scr a h
    exact ⟨_, h, trivial, fun φ z => nomatch z⟩
theorem RS.mut {K : Frag} {H : Hp} {α : Al} {S : Store} (r : RS K H α S) {a : Addr} (h : α.has a) : ∃ o, H a = some o ∧ Mut (some o) ∧ ∀ φ, o ≠ .ext φ := r.mut' (h.imp (·.1) id)
theorem RS.free' {K : Frag} {H : Hp} {α : Al} {S : Store} (r : RS K H α S) {a : Addr} (h : H a = none) : ¬ (a ∈ α.h ∨ a ∈ α.x) := fun z => by
  obtain ⟨o, e, _⟩ := r.mut' z
  rw [h] at e; cases e
theorem RS.free {K : Frag} {H : Hp} {α : Al} {S : Store} (r : RS K H α S) {a : Addr} (h : H a = none) : ¬ α.has a := fun z => r.free' h (z.imp (·.1) id)
theorem After.refl {K : Frag} {α : Al} {H : Hp} {S : Store} (r : RS K H α S) : After K α H α H S := ⟨.refl, .refl, r⟩
theorem After.trans {K : Frag} {α α1 α2 : Al} {H H1 H2 : Hp} {S1 S2 : Store} (a : After K α H α1 H1 S1) (b : After K α1 H1 α2 H2 S2) : After K α H α2 H2 S2 where
  grow := by
    have back : ∀ p, H1 p = none → H p = none := fun p q => by
      cases e : H p with
      | none => rfl
      | some o =>
        by_cases hp : p ∈ α.h
        · obtain ⟨u, e1, _⟩ := a.rs.mut' (.inl (a.grow.pre.subset hp))
          rw [q] at e1; cases e1
        · have := a.ext.keep p o e fun z _ => absurd z hp
          rw [q] at this; cases this
    refine ⟨a.grow.pre.trans b.grow.pre, fun p hp => b.grow.sx p (a.grow.sx p hp), fun p hp => (b.grow.sn p hp).elim (fun z => a.grow.sn p z) fun z => .inr (back p z), fun p hp hn => ?_, fun p hp => b.grow.zz p (a.grow.zz p hp)⟩
    by_cases h1 : p ∈ α1.h
    · exact a.grow.new p h1 hn
    · have q := b.grow.new p hp h1
      cases e : H p with
      | none => rfl
      | some o =>
        have := a.ext.keep p o e fun z _ => absurd z hn
        rw [q] at this
        cases this
  ext := ⟨fun c o h hm => by
    refine b.ext.keep c o (a.ext.keep c o h hm) fun hc nz => ?_
    by_cases h0 : c ∈ α.h
    · exact hm h0 fun z => nz (a.grow.zz c z)
    · rw [a.grow.new c hc h0] at h
      cases h⟩
  rs := b.rs
theorem After.rd {K : Frag} {α α1 : Al} {H H1 : Hp} {S1 : Store} (a : After K α H α1 H1 S1) {d : D} {v : V} (r : RD K H α d v) : RD K H1 α1 d v := r.mono a.grow a.ext
theorem After.rds {K : Frag} {α α1 : Al} {H H1 : Hp} {S1 : Store} (a : After K α H α1 H1 S1) {ds : List D} {vs : List V} (r : RDs K H α ds vs) : RDs K H1 α1 ds vs := r.mono a.grow a.ext
theorem After.re {K : Frag} {α α1 : Al} {H H1 : Hp} {S1 : Store} (a : After K α H α1 H1 S1) {ρ : Rho} {σ : L2.St} (r : RE K H α ρ σ) : RE K H1 α1 ρ σ :=
  ⟨r.len, fun i d h => let ⟨v, h1, h2⟩ := r.get i d h; ⟨v, h1, a.rd h2⟩⟩
theorem RO.mono {K : Frag} {H H' : Hp} {α α' : Al} (g : Grow α H α') (e : Ext α H H') {a : Addr} {o : O} (k : ∀ u, H a = some u → H' a = some u) (r : RO K H α a o) : RO K H' α' a o := by
  cases o with
  | lst xs => obtain ⟨vs, h, q⟩ := r; exact ⟨vs, k _ h, q.mono g e⟩
  | dct ks vs => obtain ⟨kvs, h, q1, q2⟩ := r; exact ⟨kvs, k _ h, q1.mono g e, q2.mono g e⟩
  | fzl xs => obtain ⟨vs, h, q⟩ := r; exact ⟨vs, k _ h, q.mono g e⟩
  | fzd ks vs => obtain ⟨kvs, h, q1, q2⟩ := r; exact ⟨kvs, k _ h, q1.mono g e, q2.mono g e⟩
/-- a new untracked place takes o -/
theorem ext_new {α : Al} {H : Hp} {p : Addr} {o : HO} (h : H p = none) : Ext α H (upd H p o) := ⟨fun a u e _ => by rw [upd_ne (ne_of_none e h)]; exact e⟩
theorem scr_new {α : Al} {H : Hp} {p : Addr} {o : HO} (h : H p = none) (r : ∀ a ∈ α.x, ∃ vs, H a = some (.lst vs)) : ∀ a ∈ α.x, ∃ vs, upd H p o a = some (.lst vs) := fun a ha => by
  obtain ⟨vs, e⟩ := r a ha
  exact ⟨vs, by rw [upd_ne (ne_of_none e h)]; exact e⟩
/-- a new object that the store doesn't know -/
theorem After.new {K : Frag} {α : Al} {H : Hp} {S : Store} (r : RS K H α S) {p : Addr} {o : HO} (h : H p = none) : After K α H α (upd H p o) S := by
  refine ⟨.refl, ext_new h, r.sm.upd (u := .set (fun _ => false) 0) (.inl h), r.len, r.nd, r.dis, scr_new h r.scr, fun n a u e1 e2 => ?_, r.fz, r.zh⟩
  · refine (r.at_ n a u e1 e2).mono .refl (ext_new h) fun w hw => ?_
    rw [upd_ne (ne_of_none hw h)]
    exact hw
/-- a new object of the store -/
theorem After.alloc {K : Frag} {α : Al} {H : Hp} {S : Store} (r : RS K H α S) {p : Addr} {xs : List D} {vs : List V} (h : H p = none) (q : RDs K H α xs vs) :
    After K α H ⟨α.h ++ [p], α.x, α.z⟩ (upd H p (.lst vs)) (S ++ [.lst xs]) ∧ RD K (upd H p (.lst vs)) ⟨α.h ++ [p], α.x, α.z⟩ (.ref S.length) (.ref p) := by
  have hp : p ∉ α.h := fun z => r.free' h (.inl z)
  have g : Grow α H ⟨α.h ++ [p], α.x, α.z⟩ := ⟨List.prefix_append _ _, fun _ h => h, fun _ h => .inl h, fun b hb hn => by
    rcases List.mem_append.mp hb with z | z
    · exact absurd z hn
    · rw [List.mem_singleton.mp z]; exact h, fun _ h => h⟩
  refine ⟨⟨g, ext_new h, r.sm.upd (u := .set (fun _ => false) 0) (.inl h), ?_, ?_, ?_, scr_new h r.scr, fun n a u e1 e2 => ?_, fun n a u e1 e2 => ?_, fun a ha => List.mem_append_left _ (r.zh a ha)⟩, .ref ?_⟩
  · simp only [List.length_append, r.len]; rfl
  · exact List.nodup_append.mpr ⟨r.nd, by simp, fun a ha b hb => by rw [List.mem_singleton.mp hb]; exact fun z => hp (z ▸ ha)⟩
  · intro a ha
    rcases List.mem_append.mp ha with z | z
    · exact r.dis a z
    · rw [List.mem_singleton.mp z]; exact fun z => r.free' h (.inr z)
  · simp only [] at e1
    by_cases hn : n < S.length
    · rw [List.getElem?_append_left (by rw [r.len]; exact hn)] at e1
      rw [List.getElem?_append_left hn] at e2
      refine (r.at_ n a u e1 e2).mono g (ext_new h) fun w hw => ?_
      rw [upd_ne (ne_of_none hw h)]
      exact hw
    · have hn' : n = S.length := by
        have := (List.getElem?_eq_some_iff.mp e2).1
        rw [List.length_append, List.length_singleton] at this
        omega
      subst hn'
      rw [List.getElem?_append_right (by rw [r.len]; exact Nat.le_refl _), r.len, Nat.sub_self] at e1
      rw [List.getElem?_append_right (Nat.le_refl _), Nat.sub_self] at e2
      cases e1
      cases e2
      exact ⟨vs, upd_same, q.mono g (ext_new h)⟩
  · simp only [] at e1
    by_cases hn : n < S.length
    · rw [List.getElem?_append_left (by rw [r.len]; exact hn)] at e1
      rw [List.getElem?_append_left hn] at e2
      exact r.fz n a u e1 e2
    · have hn' : n = S.length := by
        have := (List.getElem?_eq_some_iff.mp e2).1
        rw [List.length_append, List.length_singleton] at this
        omega
      subst hn'
      rw [List.getElem?_append_right (by rw [r.len]; exact Nat.le_refl _), r.len, Nat.sub_self] at e1
      rw [List.getElem?_append_right (Nat.le_refl _), Nat.sub_self] at e2
      cases e1
      cases e2
      exact ⟨fun z => absurd (r.zh _ z) hp, fun z => nomatch z⟩
  · simp only []
    rw [List.getElem?_append_right (by rw [r.len]; exact Nat.le_refl _), r.len, Nat.sub_self]
    rfl
/-- an object of the store is changed -/
theorem After.put {K : Frag} {α : Al} {H : Hp} {S : Store} (r : RS K H α S) {n : Nat} {p : Addr} {xs : List D} {vs : List V} {o0 : O} (h : α.h[n]? = some p) (hS : S[n]? = some o0) (hf : o0.isFz = false) (q : RDs K H α xs vs) :
    After K α H α (upd H p (.lst vs)) (S.set n (.lst xs)) := by
  have hz : p ∉ α.z := fun z => by rw [(r.fz n p o0 h hS).mp z] at hf; cases hf
  have hm : p ∈ α.h := List.mem_of_getElem? h
  obtain ⟨o0, h0, m0, x0⟩ := r.mut' (.inl hm)
  have e : Ext α H (upd H p (.lst vs)) := ⟨fun a o ho hk => by
    by_cases ha : a = p
    · subst ha
      rw [h0] at ho; cases ho
      exact absurd m0 (hk hm hz)
    · rw [upd_ne ha]; exact ho⟩
  refine ⟨.refl, e, r.sm.upd (.inr ⟨h0, x0⟩), ?_, r.nd, r.dis, fun a ha => ?_, fun k a u e1 e2 => ?_, fun k a u e1 e2 => ?_, r.zh⟩
  · rw [List.length_set]; exact r.len
  · obtain ⟨ws, e3⟩ := r.scr a ha
    exact ⟨ws, by rw [upd_ne (fun z : a = p => r.dis p hm (z ▸ ha))]; exact e3⟩
  · by_cases hk : k = n
    · subst hk
      have hl := (List.getElem?_eq_some_iff.mp e2).1
      rw [List.length_set] at hl
      rw [List.getElem?_set_self hl] at e2
      rw [h] at e1
      cases e1; cases e2
      exact ⟨vs, upd_same, q.mono .refl e⟩
    · rw [List.getElem?_set_ne (Ne.symm hk)] at e2
      have ha : a ≠ p := fun z => by
        subst z
        have h1 := List.getElem?_eq_some_iff.mp e1
        have h2 := List.getElem?_eq_some_iff.mp h
        exact hk ((List.getElem_inj r.nd).mp (h1.2.trans h2.2.symm))
      refine (r.at_ k a u e1 e2).mono .refl e fun w hw => ?_
      rw [upd_ne ha]
      exact hw
  · by_cases hk : k = n
    · subst hk
      have hl := (List.getElem?_eq_some_iff.mp e2).1
      rw [List.length_set] at hl
      rw [List.getElem?_set_self hl] at e2
      rw [h] at e1
      cases e1; cases e2
      exact ⟨fun z => absurd z hz, fun z => nomatch z⟩
    · rw [List.getElem?_set_ne (Ne.symm hk)] at e2
      exact r.fz k a u e1 e2
/-- an object of the store is frozen -/
theorem After.freeze {K : Frag} {α : Al} {H : Hp} {S : Store} (r : RS K H α S) {n : Nat} {p : Addr} {o o' : O} (h : α.h[n]? = some p) (hS : S[n]? = some o) (hf : o'.isFz = true) (q : RO K H α p o') (hm : ∀ α' : Al, Grow α H α' → RO K H α p o' → RO K H α' p o') :
    After K α H ⟨α.h, α.x, p :: α.z⟩ H (S.set n o') := by
  have g : Grow α H ⟨α.h, α.x, p :: α.z⟩ := ⟨List.prefix_refl _, fun _ h => h, fun _ h => .inl h, fun p h n => absurd h n, fun _ h => List.mem_cons_of_mem _ h⟩
  have ph : p ∈ α.h := List.mem_of_getElem? h
  refine ⟨g, .refl, r.sm, by rw [List.length_set]; exact r.len, r.nd, r.dis, r.scr, fun k a u e1 e2 => ?_, fun k a u e1 e2 => ?_, fun a ha => ?_⟩
  · by_cases hk : k = n
    · subst hk
      have hl := (List.getElem?_eq_some_iff.mp e2).1
      rw [List.length_set] at hl
      rw [List.getElem?_set_self hl] at e2
      simp only [h] at e1
      cases e1; cases e2
      exact hm _ g q
    · rw [List.getElem?_set_ne (Ne.symm hk)] at e2
      exact (r.at_ k a u e1 e2).mono g .refl fun _ h => h
  · by_cases hk : k = n
    · subst hk
      have hl := (List.getElem?_eq_some_iff.mp e2).1
      rw [List.length_set] at hl
      rw [List.getElem?_set_self hl] at e2
      simp only [h] at e1
      cases e1; cases e2
      exact ⟨fun _ => hf, fun _ => List.mem_cons_self⟩
    · rw [List.getElem?_set_ne (Ne.symm hk)] at e2
      have ha : a ≠ p := fun z => by
        subst z
        have h1 := List.getElem?_eq_some_iff.mp e1
        have h2 := List.getElem?_eq_some_iff.mp h
        exact hk ((List.getElem_inj r.nd).mp (h1.2.trans h2.2.symm))
      refine Iff.trans ?_ (r.fz k a u e1 e2)
      exact ⟨fun z => (List.mem_cons.mp z).resolve_left ha, fun z => List.mem_cons_of_mem _ z⟩
  · rcases List.mem_cons.mp ha with z | z
    · rw [z]; exact ph
    · exact r.zh a z

/-! ### a list that is being made -/
/-- what is known of values in (H, α) is known in (H', α') -/
structure Mp (K : Frag) (H : Hp) (α : Al) (H' : Hp) (α' : Al) : Prop where
  t : ∀ a vs, SqT K H a vs → SqT K H' a vs
  ts : ∀ a vs, TupS K H a vs → TupS K H' a vs
  l : ∀ a o, ¬ α.has a → H a = some o → ¬ α'.has a ∧ H' a = some o
  r : α'.h = α.h
  rz : α'.z = α.z
mutual
theorem RD.map {K : Frag} {H H' : Hp} {α α' : Al} (m : Mp K H α H' α') : ∀ {d : D} {v : V}, RD K H α d v → RD K H' α' d v
  | _, _, .non => .non
  | _, _, .bl b => .bl b
  | _, _, .int i => .int i
  | _, _, .str x => .str x
  | _, _, .tup h r => .tup (m.ts _ _ h) (RDs.map m r)
  | _, _, .wtp h r => .wtp (m.t _ _ h) (RDs.map m r)
  | _, _, .lst n h r => .lst (m.l _ _ n h).1 (m.l _ _ n h).2 (RDs.map m r)
  | _, _, .frz h r => .frz (h.imp (fun ⟨n, h⟩ => h.elim (fun h => ⟨(m.l _ _ n h).1, .inl (m.l _ _ n h).2⟩) fun ⟨o, h⟩ => ⟨(m.l _ _ n h).1, .inr ⟨o, (m.l _ _ n h).2⟩⟩) id) (RDs.map m r)
  | _, _, .dct n h r1 r2 => .dct (m.l _ _ n h).1 (m.l _ _ n h).2 (RDs.map m r1) (RDs.map m r2)
  | _, _, .ref h => .ref (by rw [m.r]; exact h)
theorem RDs.map {K : Frag} {H H' : Hp} {α α' : Al} (m : Mp K H α H' α') : ∀ {ds : List D} {vs : List V}, RDs K H α ds vs → RDs K H' α' ds vs
  | _, _, .nil => .nil
  | _, _, .cons r t => .cons (RD.map m r) (RDs.map m t)
end
theorem RE.map {K : Frag} {H H' : Hp} {α α' : Al} (m : Mp K H α H' α') {ρ : Rho} {σ : L2.St} (r : RE K H α ρ σ) : RE K H' α' ρ σ :=
  ⟨r.len, fun i d h => let ⟨v, h1, h2⟩ := r.get i d h; ⟨v, h1, h2.map m⟩⟩
theorem RS.map {K : Frag} {H H' : Hp} {α α' : Al} {S : Store} (m : Mp K H α H' α') (r : RS K H α S) (sm : SysM H') (dis : ∀ a ∈ α'.h, a ∉ α'.x) (scr : ∀ a ∈ α'.x, ∃ vs, H' a = some (.lst vs)) (k : ∀ a ∈ α.h, H' a = H a) : RS K H' α' S := by
  refine ⟨sm, by rw [m.r]; exact r.len, by rw [m.r]; exact r.nd, dis, scr, fun n a o e1 e2 => ?_, fun n a o e1 e2 => by rw [m.rz]; rw [m.r] at e1; exact r.fz n a o e1 e2, fun a ha => by rw [m.r]; rw [m.rz] at ha; exact r.zh a ha⟩
  rw [m.r] at e1
  have q := r.at_ n a o e1 e2
  have ka := k a (List.mem_of_getElem? e1)
  cases o with
  | lst xs => obtain ⟨vs, h, q⟩ := q; exact ⟨vs, ka.trans h, q.map m⟩
  | dct ks vs => obtain ⟨kvs, h, q1, q2⟩ := q; exact ⟨kvs, ka.trans h, q1.map m, q2.map m⟩
  | fzl xs => obtain ⟨vs, h, q⟩ := q; exact ⟨vs, ka.trans h, q.map m⟩
  | fzd ks vs => obtain ⟨kvs, h, q1, q2⟩ := q; exact ⟨kvs, ka.trans h, q1.map m, q2.map m⟩
section
variable {K : Frag} {H : Hp} {h x z : List Addr} {S : Store} {p : Addr} {acc vs : List V}
theorem mp_take (hp : H p = none) : Mp K H ⟨h, x, z⟩ (upd H p (.lst vs)) ⟨h, p :: x, z⟩ where
  t := fun a vs q => (ext_new (α := ⟨[], [], []⟩) hp).sqT q
  ts := fun a vs q => (ext_new (α := ⟨[], [], []⟩) hp).tupS q
  l := fun a o n e => by
    have ne := ne_of_none e hp
    refine ⟨fun z => ?_, by rw [upd_ne ne]; exact e⟩
    rcases z with z | z
    · exact n (.inl z)
    · rcases List.mem_cons.mp z with z | z
      · exact ne z
      · exact n (.inr z)
  r := rfl
  rz := rfl
theorem RS.take (r : RS K H ⟨h, x, z⟩ S) (hp : H p = none) : RS K (upd H p (.lst vs)) ⟨h, p :: x, z⟩ S := by
  have f := r.free' hp
  refine r.map (mp_take hp) (r.sm.upd (u := .set (fun _ => false) 0) (.inl hp)) (fun a ha z => ?_) (fun a ha => ?_) fun a ha => ?_
  · rcases List.mem_cons.mp z with z | z
    · exact f (.inl (z ▸ ha))
    · exact r.dis a ha z
  · rcases List.mem_cons.mp ha with z | z
    · rw [z]; exact ⟨vs, upd_same⟩
    · exact scr_new hp r.scr a z
  · exact upd_ne (fun z : a = p => f (.inl (z ▸ ha)))
theorem mp_write {α : Al} (hp : H p = some (.lst acc)) (hx : p ∈ α.x) : Mp K H α (upd H p (.lst vs)) α where
  t := fun a ws q => by
    rcases q with (q | ⟨o, q⟩) | q
    · exact .inl (.inl (by rw [upd_ne (ne_of q hp (by intro z; cases z))]; exact q))
    · exact .inl (.inr ⟨o, by rw [upd_ne (ne_of q hp (by intro z; cases z))]; exact q⟩)
    · exact .inr q
  ts := fun a ws q => q.imp (fun ⟨o, d, q⟩ => ⟨o, d, by rw [upd_ne (ne_of q hp (by intro z; cases z))]; exact q⟩) id
  l := fun a o n e => ⟨n, by rw [upd_ne (fun z : a = p => n (.inr (z ▸ hx)))]; exact e⟩
  r := rfl
  rz := rfl
theorem RS.write {α : Al} (r : RS K H α S) (hp : H p = some (.lst acc)) (hx : p ∈ α.x) : RS K (upd H p (.lst vs)) α S := by
  refine r.map (mp_write hp hx) (r.sm.upd (.inr ⟨hp, fun φ z => nomatch z⟩)) r.dis (fun a ha => ?_) fun a ha => ?_
  · by_cases e : a = p
    · rw [e]; exact ⟨vs, upd_same⟩
    · rw [upd_ne e]; exact r.scr a ha
  · exact upd_ne (fun z : a = p => r.dis a ha (z ▸ hx))
theorem mp_give {x' : List Addr} (hx : ∀ a ∈ x', a ∈ x) : Mp K H ⟨h, x, z⟩ H ⟨h, x', z⟩ where
  t := fun _ _ q => q
  ts := fun _ _ q => q
  l := fun a o n e => ⟨fun z => n (z.imp id (hx a)), e⟩
  r := rfl
  rz := rfl
theorem RS.give {x' : List Addr} (hx : ∀ a ∈ x', a ∈ x) (r : RS K H ⟨h, x, z⟩ S) : RS K H ⟨h, x', z⟩ S :=
  r.map (mp_give hx) r.sm (fun a ha z => r.dis a ha (hx a z)) (fun a ha => r.scr a (hx a ha)) fun _ _ => rfl
end

/-! ### what an evaluation is to reach -/
abbrev XS := Ex → Store → Hp → Al → Prop
def X0 : XS := fun _ _ _ _ => False
def Pst {β : Type} (K : Frag) (E : XS) (H : Hp) (α : Al) (r : R β) (C : β → Store → Hp → Al → Prop) : Prop := match r with
  | .ok b S' => ∀ H' α', After K α H α' H' S' → C b S' H' α'
  | .exc e S' => ∀ H' α', After K α H α' H' S' → E e S' H' α'
  | .err => False
section
variable {β γ : Type} {K : Frag} {E : XS} {H : Hp} {α : Al} {S : Store}
theorem Pst.mono {r : R β} {C C' : β → Store → Hp → Al → Prop} (h : Pst K E H α r C) (k : ∀ b S' H' α', After K α H α' H' S' → C b S' H' α' → C' b S' H' α') : Pst K E H α r C' := by
  cases r with
  | ok b S' => exact fun H' α' a => k _ _ _ _ a (h H' α' a)
  | exc e S' => exact h
  | err => exact h
theorem Pst.move {r : R β} {C : β → Store → Hp → Al → Prop} {H1 : Hp} {α1 : Al} {S1 : Store} (h : Pst K E H α r C) (a : After K α H α1 H1 S1) : Pst K E H1 α1 r C := by
  cases r with
  | ok b S' => exact fun H' α' b => h H' α' (a.trans b)
  | exc e S' => exact fun H' α' b => h H' α' (a.trans b)
  | err => exact h
theorem Pst.bind {m : M β} {f : β → M γ} {C : γ → Store → Hp → Al → Prop} (h : Pst K E H α (M.bind m f S) C) : Pst K E H α (m S) fun b S1 H1 α1 => After K α H α1 H1 S1 ∧ Pst K E H1 α1 (f b S1) C := by
  unfold M.bind at h
  cases e : m S with
  | ok b S1 =>
    rw [e] at h
    exact fun H1 α1 a => ⟨a, Pst.move h a⟩
  | exc x S1 => rw [e] at h; exact h
  | err => rw [e] at h; exact h
theorem Pst.opt {f : Store → Option β} {C : β → Store → Hp → Al → Prop} (h : Pst K E H α (M.opt f S) C) (r : RS K H α S) : ∃ b, f S = some b ∧ C b S H α := by
  unfold M.opt at h
  cases e : f S with
  | some b => rw [e] at h; exact ⟨b, rfl, h H α (.refl r)⟩
  | none => rw [e] at h; exact h.elim
theorem Pst.optN {f : Store → Option β} {C : β → Store → Hp → Al → Prop} (h : Pst K E H α (M.opt f S) C) : ∃ b, f S = some b ∧ ∀ H' α', After K α H α' H' S → C b S H' α' := by
  unfold M.opt at h
  cases e : f S with
  | some b => rw [e] at h; exact ⟨b, rfl, h⟩
  | none => rw [e] at h; exact h.elim
theorem Pst.ret {b : β} {C : β → Store → Hp → Al → Prop} (h : Pst K E H α (M.ret b S) C) (r : RS K H α S) : C b S H α := h H α (.refl r)
theorem Pst.retN {b : β} {C : β → Store → Hp → Al → Prop} (h : Pst K E H α (M.ret b S) C) {H' : Hp} {α' : Al} (a : After K α H α' H' S) : C b S H' α' := h H' α' a
end

def TI (K : Frag) (E : XS) (m : Rho → M D) : TE := fun σ H Q => ∃ ρ α S, RS K H α S ∧ RE K H α ρ σ ∧ Pst K E H α (m ρ S) fun d _ H' α' => ∀ v, RD K H' α' d v → Q v H'
def TTI (K : Frag) (E : XS) (m : Rho → M Bool) : TT := fun σ H Q => ∃ ρ α S, RS K H α S ∧ RE K H α ρ σ ∧ Pst K E H α (m ρ S) fun b _ H' _ => Q b H'
def TAI (K : Frag) (E : XS) (m : Rho → M (List D)) : TA := fun σ H Q => ∃ ρ α S, RS K H α S ∧ RE K H α ρ σ ∧ Pst K E H α (m ρ S) fun ds _ H' α' => ∀ vs, RDs K H' α' ds vs → Q vs H'
/-- what is wanted behind a statement -/
def EndsI (K : Frag) (D : Ends) (p : Ln.Fl × Rho) (H' : Hp) (α' : Al) : Prop := ∀ σ', RE K H' α' p.2 σ' → match p.1 with
  | .nx => D.nx σ' H'
  | .bk => D.bk σ' H'
  | .ct => D.ct σ' H'
  | .rt d => ∀ v, RD K H' α' d v → D.rt v H'
def TSI (K : Frag) (E : XS) (m : Rho → M (Ln.Fl × Rho)) : TS := fun D σ H => ∃ ρ α S, RS K H α S ∧ RE K H α ρ σ ∧ Pst K E H α (m ρ S) fun p _ H' α' => EndsI K D p H' α'

theorem pe_w {X : Cx} {e : Expr} {t t' : TE} (h : PE X e t) (k : ∀ σ H Q, t' σ H Q → t σ H Q) : PE X e t' := ⟨fun pins s σ H Q I q => h.run pins s σ H Q I (k _ _ _ q)⟩
theorem pt_w {X : Cx} {e : Expr} {t t' : TT} (h : PT X e t) (k : ∀ σ H Q, t' σ H Q → t σ H Q) : PT X e t' := ⟨fun pins s σ H Q I q => h.run pins s σ H Q I (k _ _ _ q)⟩
theorem pa_w {X : Cx} {e : List Expr} {t t' : TA} (h : PA X e t) (k : ∀ σ H Q, t' σ H Q → t σ H Q) : PA X e t' := ⟨fun pos pins s σ H Q I q => h.run pos pins s σ H Q I (k _ _ _ q)⟩
theorem ps_w {X : Cx} {e : Stmt} {t t' : TS} (h : PS X e t) (k : ∀ D σ H, t' D σ H → t D σ H) : PS X e t' := ⟨fun pins s σ H D I q => h.run pins s σ H D I (k _ _ _ q)⟩
theorem pss_w {X : Cx} {e : List Stmt} {t t' : TS} (h : PSs X e t) (k : ∀ D σ H, t' D σ H → t D σ H) : PSs X e t' := ⟨fun pins s σ H D I q => h.run pins s σ H D I (k _ _ _ q)⟩
end LnS

set_option linter.all false
set_option maxRecDepth 100000
set_option maxHeartbeats 4000000
/-! Ln: tuples that are made here stand with their object known (no dict of their own), so that a method can be asked of them. -/
namespace LnS
open PySem PySem.Spec L2 PyProof.Rows HT
section
variable {X : Cx} {pins : List (Addr × Obj)} {σ : L2.St} {H : Hp} {s : Shared}
def tupO (its : List Value) : Obj := { cls := .type "tuple", data := .seq its.toArray }
/-- what is wanted of a new tuple -/
def NewT (H : Hp) (ys : List V) (Q : VK) : Prop := ∀ (p : Addr) (o : Obj), o.dict = none → H p = none → Q (.ref p) (upd H p (.frz o (.tup ys)))
theorem end_tup {ys : List V} {its : List Value} {t' : Nat} {Q : VK} (I : Inv X pins σ H s) (r : Vals ys its) (hz : ys.length ≤ sizeLine) (q : NewT H ys Q) : EP X pins σ Q (.ref s.heap.objs.size) { s with heap := s.heap.push (tupO its), toks := t' } := by
  have J := I.laid (t' := t') (o := .frz (tupO its) (.tup ys)) (h' := s.heap.push (tupO its)) (a := s.heap.objs.size) (fun b ob e => Heap.get?_push_of_some _ e) (Nat.le_refl _) ⟨Heap.get?_push_size _ rfl, hz, its, r, IsTup.new _ _⟩
  exact ⟨.ref s.heap.objs.size, _, J, rfl, q _ (tupO its) rfl (I.hok.fresh (Nat.le_refl _))⟩
theorem pe_tupZ {es : List Expr} {t : TA} {x1 : Nat} {pos : Pos} (h : PA X es t) : PE X (.Tuple es x1 pos) (fun σ H Q => t σ H fun xs H1 => xs.length ≤ sizeLine ∧ NewT H1 xs Q) :=
  ⟨fun pins s σ H Q I hq => wpAny_Tuple_spliced (thn (h.run pos pins s σ H _ I hq) fun us s1 hx => by
    obtain ⟨xs, H1, I1, r, z, q⟩ := hx
    exact ⟨by rw [← r.length]; exact z, end_tup (t' := s1.toks) I1 r z q⟩)⟩
theorem call_tupleZ : CallR X (.type "tuple") (fun xs H Q => ∃ p ys, xs = [.ref p] ∧ ((SqL X.K H p ys ∧ NewT H ys Q) ∨ (SqT X.K H p ys ∧ Q (.ref p) H))) := by
  intro pins s σ H xs us Q I r h
  obtain ⟨p, ys, ex, h⟩ := h
  subst ex
  obtain ⟨u, eu, rx⟩ := vals1 r
  subst eu
  cases rx
  rcases h with ⟨hq, q⟩ | ⟨hq, q⟩
  · obtain ⟨its, r', pl, hz⟩ := I.list hq
    have hl := r'.length
    exact call_tuple_list pl.isList (fun h' kp => end_tup (t' := s.toks) (I.kept (t' := s.toks) kp) r' hz q) (by rw [List.size_toArray]; omega)
  · obtain ⟨its, r', pl, hz⟩ := I.tuple hq
    exact call_tuple_same pl ⟨.ref p, H, I, rfl, q⟩
theorem op_catZ : OpR X (binaryOp .Add) (fun x y H Q => ∃ a b xs ys, x = .ref a ∧ y = .ref b ∧ SqT X.K H a xs ∧ SqT X.K H b ys ∧ xs.length + ys.length ≤ sizeLine ∧
    (xs = [] → Q (.ref b) H) ∧ (xs ≠ [] → ys = [] → Q (.ref a) H) ∧ (xs ≠ [] → ys ≠ [] → NewT H (xs ++ ys) Q)) := by
  intro pins s σ H x y v u Q I rx ry h
  obtain ⟨a, b, xs, ys, ex, ey, ha, hb, hz, q0, q1, q2⟩ := h
  subst ex ey
  cases rx
  cases ry
  obtain ⟨i1, r1, p1, _⟩ := I.tuple ha
  obtain ⟨i2, r2, p2, _⟩ := I.tuple hb
  by_cases hx : xs = []
  · subst hx
    cases r1
    exact cat_tup0 p1 p2 ⟨.ref b, H, I, rfl, q0 rfl⟩
  · refine HT.cat_tup p1 p2 (fun z => hx (r1.nil_iff.mp z)) (fun z => ⟨.ref a, H, I, rfl, q1 hx (r2.nil_iff.mp z)⟩) (fun z => ?_) (by rw [← r1.length, ← r2.length]; exact hz)
    exact end_tup (t' := s.toks) I (r1.append r2) (by rw [List.length_append]; exact hz) (q2 hx fun e => z (r2.nil_iff.mpr e))
theorem sl_tupZ : SlR X (fun x lo hi H Q => ∃ a xs, x = .ref a ∧ SqT X.K H a xs ∧
    (HT.sIx xs.length 0 lo = 0 ∧ HT.sIx xs.length xs.length hi = xs.length → Q (.ref a) H) ∧ (¬ (HT.sIx xs.length 0 lo = 0 ∧ HT.sIx xs.length xs.length hi = xs.length) → NewT H (cutV xs lo hi) Q)) := by
  intro pins s σ H x v vl vu lo hi sl Q I rx hs pl pu h
  obtain ⟨a, xs, ex, hx, q1, q2⟩ := h
  subst ex
  cases rx
  obtain ⟨its, r, ht, hz⟩ := I.tuple hx
  have hl : its.toArray.size = xs.length := by rw [List.size_toArray]; exact r.length.symm
  refine ⟨"tuple", _, PyProof.Rows.slot_tuple_getitem.lookup, ht.typeIs, ?_⟩
  by_cases hw : HT.sIx xs.length 0 lo = 0 ∧ HT.sIx xs.length xs.length hi = xs.length
  · exact getItem_tuple_whole ht hs pl pu (by rw [hl]; exact hw) ⟨.ref a, H, I, rfl, q1 hw⟩
  · refine HT.getItem_tuple_cut ht hs pl pu (by rw [hl]; exact hw) ?_ (by rw [hl]; exact hz)
    have rc := (r.drop (HT.sIx xs.length 0 lo)).take (HT.sIx xs.length xs.length hi - HT.sIx xs.length 0 lo)
    rw [hl]
    exact end_tup (t' := s.toks) I rc (Nat.le_trans (cutV_length xs lo hi) hz) (q2 hw)
/-! tuple * int -/
theorem tuple_mul_sameZ (l : Addr) (items : Array Value) (n : Nat) (dd : Option Addr) (sl : Array (Option Value)) (x : Int) (u : Tok) (c0 : (decide (x < -(2 ^ 63)) || decide (x ≥ 2 ^ 63)) = false) (c1 : (items.isEmpty || x == 1) = true) :
    Meets (Builtin.«tuple.__mul__» ⟨[.ref l, .int x u], []⟩) (fun _ R s => s.heap.get? l = some { cls := .type "tuple", dict := dd, data := .seq items n, slots := sl } ∧ R (.ok (.ret (Value.ref l))) s) :=
  .of_wp fun prog w A R s h => by
    obtain ⟨hp, g, d, tk, os⟩ := s
    obtain ⟨hl, h⟩ := h
    have f1 := AutoSeq1.idx_int
    wp_walk using wpAny_loadPart' hl
    repeat (first
      | (refine wpAny_ite_false (decide_eq_false (by rw [c0]; exact Bool.false_ne_true)) ?_; wp_walk using wpAny_loadPart' hl)
      | (refine wpAny_ite_true (decide_eq_true c1) ?_; wp_walk using wpAny_loadPart' hl))
    exact ⟨_, rfl, h⟩
theorem tuple_mul_noneZ (l : Addr) (items : Array Value) (n : Nat) (dd : Option Addr) (sl : Array (Option Value)) (x : Int) (u : Tok) (c0 : (decide (x < -(2 ^ 63)) || decide (x ≥ 2 ^ 63)) = false) (c1 : (items.isEmpty || x == 1) = false) (c2 : (decide (x ≤ 0) || items.isEmpty) = true) :
    Meets (Builtin.«tuple.__mul__» ⟨[.ref l, .int x u], []⟩) (fun _ R s => s.heap.get? l = some { cls := .type "tuple", dict := dd, data := .seq items n, slots := sl } ∧
      R (.ok (.ret (Value.ref s.heap.objs.size))) { s with heap := s.heap.push { cls := Value.type "tuple", data := Data.seq #[] }, toks := s.toks }) :=
  .of_wp fun prog w A R s h => by
    obtain ⟨hp, g, d, tk, os⟩ := s
    obtain ⟨hl, h⟩ := h
    have f1 := AutoSeq1.idx_int
    wp_walk using wpAny_loadPart' hl
    repeat (first
      | (refine wpAny_ite_false (decide_eq_false (by rw [c0]; exact Bool.false_ne_true)) ?_; wp_walk using wpAny_loadPart' hl)
      | (refine wpAny_ite_false (decide_eq_false (by rw [c1]; exact Bool.false_ne_true)) ?_; wp_walk using wpAny_loadPart' hl)
      | (refine wpAny_ite_true (decide_eq_true c2) ?_; wp_walk using wpAny_loadPart' hl))
    exact ⟨_, rfl, h⟩
theorem op_repZ : OpR X (binaryOp .Mult) (fun x y H Q => ∃ l k xs, x = .ref l ∧ y = .int k ∧ SqT X.K H l xs ∧ -1000000 ≤ k ∧ k ≤ 1000000 ∧ xs.length * k.toNat ≤ 1000000 ∧
    ((xs = [] ∨ k = 1) → Q (.ref l) H) ∧ NewT H (List.replicate k.toNat xs).flatten Q) := by
  intro pins s σ H x y v u Q I rx ry h
  obtain ⟨l, k, xs, ex, ey, hT, h1, h2, hz, q1, q2⟩ := h
  subst ex ey
  cases rx
  obtain ⟨t, et⟩ := ry
  subst et
  obtain ⟨its, r, ⟨⟨cls, dd, data, sl⟩, ho, hc, n, hd⟩, hs⟩ := I.tuple hT
  simp only at hc hd
  subst hc hd
  have big : (decide (k < -(2 ^ 63)) || decide (k ≥ 2 ^ 63)) = false := by
    rw [decide_eq_false (by omega), decide_eq_false (by omega)]
    rfl
  have hle : its.length = xs.length := r.length.symm
  -- what the method does gives what the operator does
  by_cases hsame : xs = [] ∨ k = 1
  · have c1 : (its.toArray.isEmpty || k == 1) = true := by
      rcases hsame with e | e
      · rw [List.isEmpty_toArray, List.isEmpty_iff.mpr (List.eq_nil_of_length_eq_zero (by rw [hle, e]; rfl))]
        rfl
      · rw [e, show ((1 : Int) == 1) = true from rfl, Bool.or_true]
    exact wpAny_binaryOp_repeat_ref (T := "tuple") (U := "int") (by decide) ⟨_, ho, rfl⟩ (fun s' => typeIs_int s' k t) noFill_tuple_mul F.fills_int_mul F.slot_int_rmul repeat_tuple F.slot_int_index.lookup
      (call_meets F.slot_int_rmul (typeIs_int s k t) F.entry_int_rmul (F.args_int_rmul_2 _ _) (int_rmul_tuple k t l _ n dd sl)
        ⟨ho, rfl, ⟨_, ho, rfl⟩, call_meets F.slot_tuple_mul ⟨_, ho, rfl⟩ F.entry_tuple_mul (F.args_tuple_mul_2 _ _) (tuple_mul_sameZ l _ n dd sl k t big c1) ⟨ho, .ref l, H, I, rfl, q1 hsame⟩⟩)
  · have c1 : (its.toArray.isEmpty || k == 1) = false := by
      rw [List.isEmpty_toArray, show its.isEmpty = false from ?_, Bool.false_or]
      · exact beq_eq_false_iff_ne.mpr fun e => hsame (.inr e)
      · cases its with
        | nil => exact absurd (.inl (List.eq_nil_of_length_eq_zero hle.symm)) hsame
        | cons _ _ => rfl
    have c9 := c1
    rw [Bool.or_eq_false_iff] at c9
    by_cases hk : 2 ≤ k
    · have low : k.toNat * xs.length ≤ 1000000 := by rw [Nat.mul_comm]; exact hz
      have flen : (List.replicate k.toNat its).flatten.length ≤ sizeLine := by
        rw [PyProof.Rows.lm_len_rep_flat, hle, sizeLine_eq]
        omega
      have flen2 : (List.replicate k.toNat xs).flatten.length ≤ sizeLine := by
        rw [PyProof.Rows.lm_len_rep_flat, sizeLine_eq]
        omega
      have hm : ((its.toArray.size : Nat) : Int) * k ≤ 1000000 := by
        rw [List.size_toArray, hle]
        have e : ((xs.length : Nat) : Int) * k = ((xs.length * k.toNat : Nat) : Int) := by rw [Int.natCast_mul, Int.toNat_of_nonneg (by omega)]
        omega
      have c2 : (decide (k ≤ 0) || its.toArray.isEmpty) = false := by rw [c9.1, decide_eq_false (by omega)]; rfl
      have c4 : Builtin.Tuple.tupleTooMany (((its.toArray.size : Nat) : Int) * k) = false := decide_eq_false (by rw [sizeLine_eq]; omega)
      refine wpAny_binaryOp_repeat_ref (T := "tuple") (U := "int") (by decide) ⟨_, ho, rfl⟩ (fun s' => typeIs_int s' k t) noFill_tuple_mul F.fills_int_mul F.slot_int_rmul repeat_tuple F.slot_int_index.lookup
        (call_meets F.slot_int_rmul (typeIs_int s k t) F.entry_int_rmul (F.args_int_rmul_2 _ _) (int_rmul_tuple k t l its.toArray n dd sl)
          ⟨ho, rfl, ⟨_, ho, rfl⟩, call_meets F.slot_tuple_mul ⟨_, ho, rfl⟩ F.entry_tuple_mul (F.args_tuple_mul_2 _ _) (tuple_mulW l its.toArray n dd sl k t big c1 c2 (by omega) c4 (by rw [size_rep]; exact flen)) ⟨ho, ?_⟩⟩)
      rw [size_rep]
      exact end_tup (t' := s.toks) I (r.rep k.toNat) flen2 q2
    · have k0 : k ≤ 0 := by
        have : k ≠ 1 := fun e => hsame (.inr e)
        omega
      refine wpAny_binaryOp_repeat_ref (T := "tuple") (U := "int") (by decide) ⟨_, ho, rfl⟩ (fun s' => typeIs_int s' k t) noFill_tuple_mul F.fills_int_mul F.slot_int_rmul repeat_tuple F.slot_int_index.lookup
        (call_meets F.slot_int_rmul (typeIs_int s k t) F.entry_int_rmul (F.args_int_rmul_2 _ _) (int_rmul_tuple k t l _ n dd sl)
          ⟨ho, rfl, ⟨_, ho, rfl⟩, call_meets F.slot_tuple_mul ⟨_, ho, rfl⟩ F.entry_tuple_mul (F.args_tuple_mul_2 _ _) (tuple_mul_noneZ l _ n dd sl k t big c1 (by rw [decide_eq_true k0]; rfl)) ⟨ho, ?_⟩⟩)
      have e0 : k.toNat = 0 := by omega
      rw [e0] at q2
      exact end_tup (its := []) (t' := s.toks) I .nil (Nat.zero_le _) q2
end
end LnS

set_option linter.all false
set_option maxRecDepth 100000
/-! Ln: the operators' rules. -/
namespace LnS
open PySem L2 PyProof.Rows
open Ln (D O Store Rho M R Ex)

/-! ### lists of related values -/
section
variable {K : Frag} {H : Hp} {α : Al}
theorem RDs.length : ∀ {ds : List D} {vs : List V}, RDs K H α ds vs → ds.length = vs.length
  | _, _, .nil => rfl
  | _, _, .cons _ t => congrArg Nat.succ (RDs.length t)
theorem RDs.append : ∀ {ds es : List D} {vs ws : List V}, RDs K H α ds vs → RDs K H α es ws → RDs K H α (ds ++ es) (vs ++ ws)
  | _, _, _, _, .nil, q => q
  | _, _, _, _, .cons r t, q => .cons r (RDs.append t q)
theorem RDs.get : ∀ {ds : List D} {vs : List V}, RDs K H α ds vs → ∀ {i : Nat} {d : D}, ds[i]? = some d → ∃ v, vs[i]? = some v ∧ RD K H α d v
  | _, _, .cons r t, 0, _, e => by cases e; exact ⟨_, rfl, r⟩
  | _, _, .cons r t, i + 1, _, e => RDs.get t (i := i) (by simpa using e)
  | _, _, .nil, _, _, e => by simp at e
theorem RDs.take : ∀ {ds : List D} {vs : List V} (n : Nat), RDs K H α ds vs → RDs K H α (ds.take n) (vs.take n)
  | _, _, 0, _ => by simp only [List.take_zero]; exact .nil
  | _, _, _ + 1, .nil => .nil
  | _, _, n + 1, .cons r t => .cons r (RDs.take n t)
theorem RDs.drop : ∀ {ds : List D} {vs : List V} (n : Nat), RDs K H α ds vs → RDs K H α (ds.drop n) (vs.drop n)
  | _, _, 0, r => r
  | _, _, _ + 1, .nil => .nil
  | _, _, n + 1, .cons _ t => RDs.drop n t
theorem RDs.rep {ds : List D} {vs : List V} (r : RDs K H α ds vs) : ∀ k : Nat, RDs K H α (List.replicate k ds).flatten (List.replicate k vs).flatten
  | 0 => .nil
  | k + 1 => by rw [List.replicate_succ, List.replicate_succ, List.flatten_cons, List.flatten_cons]; exact r.append (r.rep k)
theorem RDs.reverse : ∀ {ds : List D} {vs : List V}, RDs K H α ds vs → RDs K H α ds.reverse vs.reverse
  | _, _, .nil => .nil
  | _, _, .cons r t => by rw [List.reverse_cons, List.reverse_cons]; exact (RDs.reverse t).append (.cons r .nil)
theorem RDs.set {d : D} {v : V} (q : RD K H α d v) : ∀ {ds : List D} {vs : List V} (i : Nat), RDs K H α ds vs → RDs K H α (ds.set i d) (vs.set i v)
  | _, _, _, .nil => .nil
  | _, _, 0, .cons _ t => .cons q t
  | _, _, i + 1, .cons r t => .cons r (RDs.set q i t)
theorem RDs.eraseIdx : ∀ {ds : List D} {vs : List V} (i : Nat), RDs K H α ds vs → RDs K H α (ds.eraseIdx i) (vs.eraseIdx i)
  | _, _, _, .nil => .nil
  | _, _, 0, .cons _ t => t
  | _, _, i + 1, .cons r t => .cons r (RDs.eraseIdx i t)
theorem RDs.nil_iff {ds : List D} {vs : List V} (r : RDs K H α ds vs) : ds = [] ↔ vs = [] := by cases r <;> simp
theorem RDs.isEmpty {ds : List D} {vs : List V} (r : RDs K H α ds vs) : ds.isEmpty = vs.isEmpty := by cases r <;> rfl
theorem RDs.intsD : ∀ {ds : List D} {vs : List V} {ns : List Int}, RDs K H α ds vs → Ln.intsD ds = some ns → vs = ns.map V.int
  | _, _, _, .nil, e => by cases e; rfl
  | _, _, _, .cons (d := d) r t, e => by
    cases r <;> first
      | (simp only [Ln.intsD, Option.map_eq_some_iff] at e
         obtain ⟨ns', e1, rfl⟩ := e
         rw [RDs.intsD t e1]; rfl)
      | (simp [Ln.intsD] at e)
theorem RDs.boolsD : ∀ {ds : List D} {vs : List V} {ns : List Bool}, RDs K H α ds vs → Ln.boolsD ds = some ns → vs = ns.map V.bl
  | _, _, _, .nil, e => by cases e; rfl
  | _, _, _, .cons (d := d) r t, e => by
    cases r <;> first
      | (simp only [Ln.boolsD, Option.map_eq_some_iff] at e
         obtain ⟨ns', e1, rfl⟩ := e
         rw [RDs.boolsD t e1]; rfl)
      | (simp [Ln.boolsD] at e)
theorem RDs.strsD : ∀ {ds : List D} {vs : List V} {ns : List Str}, RDs K H α ds vs → Ln.strsD ds = some ns → vs = ns.map V.str
  | _, _, _, .nil, e => by cases e; rfl
  | _, _, _, .cons (d := d) r t, e => by
    cases r <;> first
      | (simp only [Ln.strsD, Option.map_eq_some_iff] at e
         obtain ⟨ns', e1, rfl⟩ := e
         rw [RDs.strsD t e1]; rfl)
      | (simp [Ln.strsD] at e)
theorem rds_ints : ∀ ns : List Int, RDs K H α (ns.map D.int) (ns.map V.int)
  | [] => .nil
  | n :: ns => .cons (.int n) (rds_ints ns)

/-- a list's object -/
theorem lst_at {S : Store} (rs : RS K H α S) {d : D} {x : V} {xs : List D} (r : RD K H α d x) (e : Ln.lstOf S d = some xs) : ∃ a vs, x = .ref a ∧ H a = some (.lst vs) ∧ RDs K H α xs vs := by
  cases r <;> simp only [Ln.lstOf] at e <;> try (cases e; done)
  · rename_i n h q; cases e; exact ⟨_, _, rfl, h, q⟩
  · rename_i n a h
    split at e
    · rename_i ys hS
      cases e
      obtain ⟨vs, h1, h2⟩ := rs.at_ n a _ h hS
      exact ⟨a, vs, rfl, h1, h2⟩
    · cases e
theorem seq_at {S : Store} (rs : RS K H α S) {d : D} {x : V} {xs : List D} (r : RD K H α d x) (e : Ln.seqOf S d = some xs) : ∃ a vs, x = .ref a ∧ (SqL K H a vs ∨ SqT K H a vs) ∧ RDs K H α xs vs := by
  cases r <;> simp only [Ln.seqOf] at e <;> try (cases e; done)
  · rename_i h q; cases e; exact ⟨_, _, rfl, .inr h.sq, q⟩
  · rename_i n h q; cases e; exact ⟨_, _, rfl, .inl (SqL.of h), q⟩
  · rename_i h q; cases e; exact ⟨_, _, rfl, .inl h.sq, q⟩
  · rename_i n a h
    split at e
    · rename_i ys hS
      cases e
      obtain ⟨vs, h1, h2⟩ := rs.at_ n a _ h hS
      exact ⟨a, vs, rfl, .inl (SqL.of h1), h2⟩
    · cases e
/-- a new list by value -/
theorem new_lst {S : Store} (rs : RS K H α S) {p : Addr} {xs : List D} {vs : List V} (hp : H p = none) (q : RDs K H α xs vs) : After K α H α (upd H p (.lst vs)) S ∧ RD K (upd H p (.lst vs)) α (.lst xs) (.ref p) := by
  have a := After.new (o := .lst vs) rs hp
  refine ⟨a, .lst (fun z => ?_) upd_same (a.rds q)⟩
  obtain ⟨o, e, _⟩ := rs.mut z
  rw [hp] at e; cases e
theorem new_tup {S : Store} (rs : RS K H α S) {p : Addr} {o : Obj} {xs : List D} {vs : List V} (ho : o.dict = none) (hp : H p = none) (q : RDs K H α xs vs) : After K α H α (upd H p (.frz o (.tup vs))) S ∧ RD K (upd H p (.frz o (.tup vs))) α (.tup xs) (.ref p) := by
  have a := After.new (o := .frz o (.tup vs)) rs hp
  exact ⟨a, .tup (.inl ⟨o, ho, upd_same⟩) (a.rds q)⟩
theorem new_wtp {S : Store} (rs : RS K H α S) {p : Addr} {xs : List D} {vs : List V} (hp : H p = none) (q : RDs K H α xs vs) : After K α H α (upd H p (.tup vs)) S ∧ RD K (upd H p (.tup vs)) α (.wtp xs) (.ref p) := by
  have a := After.new (o := .tup vs) rs hp
  exact ⟨a, .wtp (SqT.of upd_same) (a.rds q)⟩
end

/-! ### binary operators -/
def opOf : Ln.Bop → Operator
  | .add => .Add
  | .sub => .Sub
  | .mul => .Mult
  | .fdiv => .FloorDiv
  | .mod => .Mod
  | .pow => .Pow
/-- an operation that leaves the store, by values -/
def rO (K : Frag) (f : D → D → Store → Option D) : R2 := fun x y H Q => ∃ α S dx dy d, RS K H α S ∧ RD K H α dx x ∧ RD K H α dy y ∧ f dx dy S = some d ∧ ∀ v H' α', After K α H α' H' S → RD K H' α' d v → Q v H'
def rOB (K : Frag) (f : D → D → Store → Option Bool) : R2 := fun x y H Q => ∃ α S dx dy b, RS K H α S ∧ RD K H α dx x ∧ RD K H α dy y ∧ f dx dy S = some b ∧ Q (.bl b) H

theorem op_pow2 {X : Cx} : OpR X (binaryOp .Pow) (rI (fun i j => Ln.powOk i j = true) fun i j => .int (i ^ j.toNat)) := opI fun i j _ _ _ _ _ hc q => by
  unfold Ln.powOk at hc
  rw [Bool.and_eq_true, decide_eq_true_eq, decide_eq_true_eq] at hc
  refine pow_int hc.1 ?_ q
  have b : Builtin.Int.intBits i ≤ i.natAbs.log2 + 1 := by
    unfold Builtin.Int.intBits
    split <;> omega
  have b' : ((Builtin.Int.intBits i : Nat) : Int) * j ≤ ((i.natAbs.log2 + 1 : Nat) : Int) * j := Int.mul_le_mul_of_nonneg_right (by omega) hc.1
  exact Int.le_trans b' hc.2
theorem op_mul2 {X : Cx} : OpR X (binaryOp .Mult) (rI (fun i j => Ln.mulOk i j = true) fun i j => .int (i * j)) := opI fun i j _ _ _ _ _ hc q => by
  unfold Ln.mulOk Ln.small64 at hc
  simp only [Bool.or_eq_true, Bool.and_eq_true, decide_eq_true_eq] at hc
  rcases hc with (h | h) | h
  · exact mul_int q (CMul.ok (.inl h))
  · exact mul_int q (CMul.ok (.inr h))
  · exact mul_int q (CMulW.ok h)
theorem op_fdiv2 {X : Cx} : OpR X (binaryOp .FloorDiv) (rI (fun i j => Ln.divOk j = true) fun i j => .int (i.fdiv j)) := opI fun i j _ _ _ _ _ hc q => by
  unfold Ln.divOk at hc
  rw [Bool.and_eq_true, decide_eq_true_eq, decide_eq_true_eq] at hc
  exact floordiv_int hc.1 q (.inl (PyProof.noPylong_of_log2 hc.2))
theorem op_int {X : Cx} (o : Ln.Bop) {pins : List (Addr × Obj)} {s : Shared} {σ : L2.St} {H : Hp} {a b : Int} {v u : Value} {Q : VK} {k : Int} (I : Inv X pins σ H s) (rx : RelV (.int a) v) (ry : RelV (.int b) u)
    (e : Ln.intOp o a b = some k) (q : Q (.int k) H) : wpAny (model X.prog X.w) X.A (binaryOp (opOf o) v u) (EP X pins σ Q) X.xe s := by
  cases o <;> simp only [Ln.intOp] at e
  · cases e; exact op_add pins s σ H _ _ v u Q I rx ry ⟨a, b, rfl, rfl, q⟩
  · cases e; exact op_sub pins s σ H _ _ v u Q I rx ry ⟨a, b, rfl, rfl, q⟩
  · split at e
    · rename_i h; cases e; exact op_mul2 pins s σ H _ _ v u Q I rx ry ⟨a, b, rfl, rfl, h, q⟩
    · cases e
  · split at e
    · rename_i h; cases e; exact op_fdiv2 pins s σ H _ _ v u Q I rx ry ⟨a, b, rfl, rfl, h, q⟩
    · cases e
  · split at e
    · rename_i h; cases e; exact op_modN pins s σ H _ _ v u Q I rx ry ⟨a, b, rfl, rfl, h, q⟩
    · cases e
  · split at e
    · rename_i h; cases e; exact op_pow2 pins s σ H _ _ v u Q I rx ry ⟨a, b, rfl, rfl, h, q⟩
    · cases e

theorem rep_one {α : Type} (xs : List α) {k : Int} (h : xs = [] ∨ k = 1) : (List.replicate k.toNat xs).flatten = xs := by
  rcases h with rfl | rfl
  · generalize k.toNat = n
    induction n with
    | zero => rfl
    | succ n ih => rw [List.replicate_succ, List.flatten_cons, ih]; rfl
  · show (List.replicate 1 xs).flatten = xs
    simp
theorem op_bop {X : Cx} (o : Ln.Bop) : OpR X (binaryOp (opOf o)) (rO X.K (Ln.bop o)) := by
  intro pins s σ H x y v u Q I rx ry h
  obtain ⟨α, S, dx, dy, d, rs, r1, r2, e, q⟩ := h
  have lists : ∀ {xs ys : List D}, Ln.lstOf S dx = some xs → Ln.lstOf S dy = some ys → o = .add → xs.length + ys.length ≤ Ln.line → d = .lst (xs ++ ys) →
      wpAny (model X.prog X.w) X.A (binaryOp (opOf o) v u) (EP X pins σ Q) X.xe s := fun {xs ys} e1 e2 eo hl ed => by
    subst eo ed
    obtain ⟨a, vs, rfl, h1, q1⟩ := lst_at rs r1 e1
    obtain ⟨b, ws, rfl, h2, q2⟩ := lst_at rs r2 e2
    refine op_cat pins s σ H _ _ v u Q I rx ry ⟨a, b, vs, ws, rfl, rfl, h1, h2, by rw [← q1.length, ← q2.length]; exact hl, fun p hp => ?_⟩
    obtain ⟨af, rd⟩ := new_lst rs hp (q1.append q2)
    exact q _ _ _ af rd
  have listsI : ∀ {xs : List D} {k : Int}, Ln.lstOf S dx = some xs → dy = .int k → o = .mul → Ln.small63 k = true → xs.length * k.toNat ≤ Ln.line → d = .lst (List.replicate k.toNat xs).flatten →
      wpAny (model X.prog X.w) X.A (binaryOp (opOf o) v u) (EP X pins σ Q) X.xe s := fun {xs k} e1 e2 eo hs hl ed => by
    subst eo ed e2
    obtain ⟨a, vs, rfl, h1, q1⟩ := lst_at rs r1 e1
    cases r2
    unfold Ln.small63 at hs
    rw [Bool.and_eq_true, decide_eq_true_eq, decide_eq_true_eq] at hs
    refine op_rep pins s σ H _ _ v u Q I rx ry ⟨a, k, vs, rfl, rfl, h1, hs.1, hs.2, by rw [← q1.length]; exact hl, fun p hp => ?_⟩
    obtain ⟨af, rd⟩ := new_lst rs hp (q1.rep k.toNat)
    exact q _ _ _ af rd
  unfold Ln.bop at e
  split at e
  · -- intsD
    rename_i a b
    cases r1; cases r2
    rw [Option.map_eq_some_iff] at e
    obtain ⟨k, e, rfl⟩ := e
    exact op_int o I rx ry e (q _ _ _ (.refl rs) (.int k))
  · rename_i a b
    cases r1; cases r2
    split at e
    · split at e
      · rename_i hl
        cases e
        exact op_add_str pins s σ H _ _ v u Q I rx ry ⟨a, b, rfl, rfl, hl, q _ _ _ (.refl rs) (.str _)⟩
      · cases e
    · cases e
  · rename_i xs ys
    split at e
    · split at e
      · rename_i hl
        cases e
        have r1' := r1
        have r2' := r2
        cases r1 with
        | tup h1 q1 =>
        cases r2 with
        | tup h2 q2 =>
        rename_i a vs b ws
        refine op_catZ pins s σ H _ _ v u Q I rx ry ⟨_, _, _, _, rfl, rfl, h1.sq, h2.sq, by rw [← q1.length, ← q2.length]; exact hl, fun z => ?_, fun _ z => ?_, fun _ _ p o ho hp => ?_⟩
        · have := q1.nil_iff.mpr z
          subst this
          exact q _ _ _ (.refl rs) r2'
        · have := q2.nil_iff.mpr z
          subst this
          rw [List.append_nil] at q
          exact q _ _ _ (.refl rs) r1'
        · obtain ⟨af, rd⟩ := new_tup rs ho hp (q1.append q2)
          exact q _ _ _ af rd
      · cases e
    · cases e
  · rename_i xs k
    split at e
    · split at e
      · rename_i hc
        cases e
        simp only [Bool.and_eq_true, decide_eq_true_eq] at hc
        have r1' := r1
        cases r1 with
        | tup h1 q1 =>
        cases r2
        refine op_repZ pins s σ H _ _ v u Q I rx ry ⟨_, _, _, rfl, rfl, h1.sq, hc.1.1, hc.1.2, by rw [← q1.length]; exact hc.2, fun z => ?_, fun p o ho hp => ?_⟩
        · rw [rep_one xs (z.imp (fun z => q1.nil_iff.mpr z) id)] at q
          exact q _ _ _ (.refl rs) r1'
        · obtain ⟨af, rd⟩ := new_tup rs ho hp (q1.rep k.toNat)
          exact q _ _ _ af rd
      · cases e
    · cases e
  · rename_i k _ _
    split at e
    · rename_i xs e1
      split at e
      · rename_i hc
        cases e
        rw [Bool.and_eq_true, decide_eq_true_eq] at hc
        exact listsI e1 rfl rfl hc.1 hc.2 rfl
      · cases e
    · cases e
  · split at e
    · rename_i xs ys e1 e2
      split at e
      · rename_i hc
        cases e
        exact lists e1 e2 rfl hc rfl
      · cases e
    · cases e

/-! ### values as data -/
/-- l * k, to be changed -/
theorem op_repM {X : Cx} : OpR X (binaryOp .Mult) (fun x y H Q => ∃ α S dx dy, RS X.K H α S ∧ RD X.K H α dx x ∧ RD X.K H α dy y ∧ ∃ xs k, Ln.lstOf S dx = some xs ∧ dy = .int k ∧ Ln.small63 k = true ∧ xs.length * k.toNat ≤ Ln.line ∧
    ∀ v H' α', After X.K α H α' H' (S ++ [.lst (List.replicate k.toNat xs).flatten]) → RD X.K H' α' (.ref S.length) v → Q v H') := by
  intro pins s σ H x y v u Q I rx ry h
  obtain ⟨α, S, dx, dy, rs, r1, r2, xs, k, e1, e2, hs, hl, q⟩ := h
  subst e2
  obtain ⟨a, vs, rfl, h1, q1⟩ := lst_at rs r1 e1
  cases r2
  unfold Ln.small63 at hs
  rw [Bool.and_eq_true, decide_eq_true_eq, decide_eq_true_eq] at hs
  refine op_rep pins s σ H _ _ v u Q I rx ry ⟨a, k, vs, rfl, rfl, h1, hs.1, hs.2, by rw [← q1.length]; exact hl, fun p hp => ?_⟩
  obtain ⟨af, rd⟩ := After.alloc rs hp (q1.rep k.toNat)
  exact q _ _ _ af rd
/-! ### dicts -/
section
variable {K : Frag} {H : Hp} {α : Al}
theorem key_at {d : D} {v : V} (r : RD K H α d v) (h : Ln.isKey d = true) : ∃ k : Key, v = kV k ∧ ∀ (j : Key) (e : D), RD K H α e (kV j) → Ln.keyIs d e = decide (j = k) := by
  cases d with
  | int i =>
    cases r
    refine ⟨.inl i, rfl, fun j e re => ?_⟩
    cases j with
    | inl n =>
      have : e = .int n := by cases re; rfl
      subst this
      show decide (i = n) = _
      rw [Bool.eq_iff_iff]
      simp only [decide_eq_true_eq]
      exact ⟨fun h => by rw [h], fun h => (Sum.inl.inj h).symm⟩
    | inr z =>
      have : e = .str z := by cases re; rfl
      subst this
      show false = _
      rw [Bool.eq_iff_iff]
      simp
  | str x =>
    cases r
    refine ⟨.inr x, rfl, fun j e re => ?_⟩
    cases j with
    | inl n =>
      have : e = .int n := by cases re; rfl
      subst this
      show false = _
      rw [Bool.eq_iff_iff]
      simp
    | inr z =>
      have : e = .str z := by cases re; rfl
      subst this
      show decide (x = z) = _
      rw [Bool.eq_iff_iff]
      simp only [decide_eq_true_eq]
      exact ⟨fun h => by rw [h], fun h => (Sum.inr.inj h).symm⟩
  | _ => cases h
theorem look_at {d : D} {k : Key} (hk : ∀ (j : Key) (e : D), RD K H α e (kV j) → Ln.keyIs d e = decide (j = k)) : ∀ {ks vs : List D} {kvs : List (Key × V)}, RDs K H α ks (kvs.map fun p => kV p.1) → RDs K H α vs (kvs.map (·.2)) →
    (∀ e, Ln.lookD d ks vs = some e → ∃ w, valV kvs k = some w ∧ RD K H α e w) ∧ (Ln.lookD d ks vs = none → valV kvs k = none) ∧ ks.any (Ln.keyIs d) = (valV kvs k).isSome := by
  intro ks vs kvs
  induction kvs generalizing ks vs with
  | nil => intro r1 r2; cases r1; cases r2; exact ⟨fun e h => by simp [Ln.lookD] at h, fun _ => rfl, rfl⟩
  | cons p kvs ih =>
    intro r1 r2
    cases r1 with
    | cons a1 b1 =>
    cases r2 with
    | cons a2 b2 =>
    have e1 := hk _ _ a1
    obtain ⟨i1, i2, i3⟩ := ih b1 b2
    simp only [Ln.lookD, List.any_cons, e1]
    by_cases h : p.1 = k
    · simp only [h, decide_true, if_true, Bool.true_or]
      rw [valV_pos h]
      exact ⟨fun e he => ⟨_, rfl, by cases he; exact a2⟩, fun he => (by cases he), rfl⟩
    · simp only [h, decide_false, Bool.false_or]
      rw [valV_neg h]
      exact ⟨fun e he => i1 e (by simpa using he), fun he => i2 (by simpa using he), i3⟩
theorem put_at {d e : D} {k : Key} {v : V} (rk : RD K H α d (kV k)) (hk : ∀ (j : Key) (e : D), RD K H α e (kV j) → Ln.keyIs d e = decide (j = k)) (rv : RD K H α e v) : ∀ {acc : List (D × D)} {kvs : List (Key × V)}, RDs K H α (acc.map (·.1)) (kvs.map fun p => kV p.1) → RDs K H α (acc.map (·.2)) (kvs.map (·.2)) →
    RDs K H α ((Ln.putD acc d e).map (·.1)) ((putK kvs k v).map fun p => kV p.1) ∧ RDs K H α ((Ln.putD acc d e).map (·.2)) ((putK kvs k v).map (·.2)) := by
  intro acc kvs r1 r2
  have any : ∀ {acc : List (D × D)} {kvs : List (Key × V)}, RDs K H α (acc.map (·.1)) (kvs.map fun p => kV p.1) → (acc.any fun p => Ln.keyIs d p.1) = kvs.any fun kv => decide (kv.1 = k) := by
    intro acc kvs r
    induction kvs generalizing acc with
    | nil =>
      cases acc with
      | nil => rfl
      | cons _ _ => cases r
    | cons p kvs ih =>
      cases acc with
      | nil => cases r
      | cons a acc =>
        cases r with
        | cons a1 b1 => rw [List.any_cons, List.any_cons, hk _ _ a1, ih b1]
  have mp : ∀ {acc : List (D × D)} {kvs : List (Key × V)}, RDs K H α (acc.map (·.1)) (kvs.map fun p => kV p.1) → RDs K H α (acc.map (·.2)) (kvs.map (·.2)) →
      RDs K H α ((acc.map fun p => if Ln.keyIs d p.1 then (p.1, e) else p).map (·.1)) ((kvs.map fun kv => if kv.1 = k then (kv.1, v) else kv).map fun p => kV p.1) ∧
      RDs K H α ((acc.map fun p => if Ln.keyIs d p.1 then (p.1, e) else p).map (·.2)) ((kvs.map fun kv => if kv.1 = k then (kv.1, v) else kv).map (·.2)) := by
    intro acc kvs r1 r2
    induction kvs generalizing acc with
    | nil =>
      cases acc with
      | nil => exact ⟨.nil, .nil⟩
      | cons _ _ => cases r1
    | cons p kvs ih =>
      cases acc with
      | nil => cases r1
      | cons a acc =>
        cases r1 with
        | cons a1 b1 =>
        cases r2 with
        | cons a2 b2 =>
        obtain ⟨i1, i2⟩ := ih b1 b2
        simp only [List.map_cons, hk _ _ a1, decide_eq_true_eq]
        by_cases h : p.1 = k
        · rw [if_pos h, if_pos h]
          exact ⟨.cons a1 i1, .cons rv i2⟩
        · rw [if_neg h, if_neg h]
          exact ⟨.cons a1 i1, .cons a2 i2⟩
  unfold Ln.putD putK
  rw [any r1]
  split
  · exact mp r1 r2
  · rw [List.map_append, List.map_append, List.map_append, List.map_append]
    exact ⟨r1.append (.cons rk .nil), r2.append (.cons rv .nil)⟩
theorem pairs_at' {xs : List D} {vs : List V} (r : RDs K H α xs vs) : ∀ {ps : List (D × D)}, Ln.pairsD xs = some ps → ∃ (as : List Addr) (kvs : List (Key × V)), vs = as.map V.ref ∧ Paired (fun p kv => SqT K H p [kV kv.1, kv.2]) as kvs ∧
    ∀ {acc : List (D × D)} {kv0 : List (Key × V)}, RDs K H α (acc.map (·.1)) (kv0.map fun p => kV p.1) → RDs K H α (acc.map (·.2)) (kv0.map (·.2)) →
      RDs K H α ((Ln.mergeD acc ps).map (·.1)) ((mergeK kv0 kvs).map fun p => kV p.1) ∧ RDs K H α ((Ln.mergeD acc ps).map (·.2)) ((mergeK kv0 kvs).map (·.2)) := by
  induction xs generalizing vs with
  | nil =>
    intro ps e
    cases r
    cases e
    exact ⟨[], [], rfl, .nil, fun r1 r2 => ⟨r1, r2⟩⟩
  | cons x xs ih =>
    intro ps e
    cases r with
    | cons r1 r2 =>
    unfold Ln.pairsD at e
    split at e
    · rename_i heq; cases heq
    · rename_i k v r heq
      cases heq
      split at e
      · rename_i hk
        rw [Option.map_eq_some_iff] at e
        obtain ⟨ps', e, rfl⟩ := e
        obtain ⟨as, kvs, rfl, hp, hm⟩ := ih r2 e
        cases r1 with
        | tup h q =>
        cases q with
        | cons q1 q =>
        cases q with
        | cons q2 q =>
        cases q
        obtain ⟨key, rfl, hkey⟩ := key_at q1 hk
        refine ⟨_ :: as, (key, _) :: kvs, rfl, .cons h.sq hp, fun {acc kv0} r1 r2 => ?_⟩
        obtain ⟨i1, i2⟩ := put_at q1 hkey q2 r1 r2
        exact hm i1 i2
      · cases e
    · cases e
end
theorem mapM_nil {α β : Type} {f : α → Option β} {ys : List β} (e : ([] : List α).mapM f = some ys) : ys = [] := by
  simp at e; exact e
theorem mapM_cons {α β : Type} {f : α → Option β} {x : α} {xs : List α} {ys : List β} (e : (x :: xs).mapM f = some ys) : ∃ y ys', f x = some y ∧ xs.mapM f = some ys' ∧ ys = y :: ys' := by
  simp only [List.mapM_cons, Option.bind_eq_bind, Option.pure_def] at e
  cases h1 : f x with
  | none => rw [h1] at e; cases e
  | some y =>
    rw [h1] at e
    cases h2 : xs.mapM f with
    | none => rw [h2] at e; cases e
    | some ys' =>
      rw [h2] at e
      cases e
      exact ⟨y, ys', rfl, rfl, rfl⟩

section
variable {X : Cx} {pins : List (Addr × Obj)} {σ : L2.St} {H : Hp} {s : Shared} {α : Al} {S : Store}
theorem kv_vals {kvs : List (Key × V)} {vs : List (Key × Value)} (r : KV kvs vs) : Vals (kvs.map (·.2)) (vs.map (·.2)) := by
  induction r with
  | nil => exact .nil
  | cons h _ ih => exact .cons h.2 ih
theorem kv_pairs {P : Program} {w : World} {es : List DictEntry} {ws : List (Key × Value)} (p : Pairs (mixKind P w) es ws) : ∀ {kvs : List (Key × V)}, KV kvs ws → Vals (kvs.map fun p => kV p.1) (es.map (·.key)) ∧ Vals (kvs.map (·.2)) (es.map (·.val)) := by
  induction p with
  | nil => intro kvs r; cases r; exact ⟨.nil, .nil⟩
  | cons h1 h2 t ih =>
    intro kvs r
    cases r with
    | cons h r =>
    obtain ⟨i1, i2⟩ := ih r
    refine ⟨.cons ?_ i1, .cons ?_ i2⟩
    · rw [← h.1] at h1
      rcases keyIs_shape h1 with ⟨i, t, e1, e2⟩ | ⟨x, t, e1, e2⟩
      · simp only []
        rw [e1, e2]; exact ⟨t, rfl⟩
      · simp only []
        rw [e1, e2]; exact ⟨t, rfl⟩
    · simp only []
      rw [h2]; exact h.2
theorem mapM_len {α β : Type} {f : α → Option β} : ∀ {xs : List α} {ys : List β}, xs.mapM f = some ys → ys.length = xs.length
  | [], _, e => by rw [mapM_nil e]; rfl
  | x :: xs, _, e => by
    obtain ⟨y, ys', _, e2, rfl⟩ := mapM_cons e
    rw [List.length_cons, List.length_cons, mapM_len e2]
/-- what a value reads as, with the addresses of its lists and dicts: none is the table of modules -/
theorem reads_of (I : Inv X pins σ H s) (rs : RS X.K H α S) : ∀ (k : Nat) (d : D) (v : V) (u : Value) (p : PyData), RD X.K H α d v → RelV v u → Ln.toP S k d = some p → ∃ as, Reads s.heap u p as ∧ sysModules ∉ as := by
  have ns : ∀ {a : Addr} {o : HO}, H a = some o → (∀ φ, o ≠ .ext φ) → a ≠ sysModules := fun {a o} h n z => by
    obtain ⟨φ, e⟩ := rs.sm
    rw [z, e] at h
    cases h
    exact n φ rfl
  have seqs : ∀ (k : Nat), (∀ (d : D) (v : V) (u : Value) (p : PyData), RD X.K H α d v → RelV v u → Ln.toP S k d = some p → ∃ as, Reads s.heap u p as ∧ sysModules ∉ as) →
      ∀ (ds : List D) (vs : List V) (us : List Value) (ps : List PyData), RDs X.K H α ds vs → Vals vs us → ds.mapM (Ln.toP S k) = some ps → ∃ as, ReadsAll s.heap us ps as ∧ sysModules ∉ as := by
    intro k ih ds
    induction ds with
    | nil =>
      intro vs us ps r v e
      cases r; cases v
      rw [mapM_nil e]
      exact ⟨[], .nil, by simp⟩
    | cons d ds ihs =>
      intro vs us ps r v e
      cases r with
      | cons r1 r2 =>
      cases v with
      | cons v1 v2 =>
      obtain ⟨p, ps', e1, e2, rfl⟩ := mapM_cons e
      obtain ⟨as, h1, g1⟩ := ih _ _ _ _ r1 v1 e1
      obtain ⟨bs, h2, g2⟩ := ihs _ _ _ r2 v2 e2
      exact ⟨as ++ bs, .cons h1 h2, fun z => (List.mem_append.mp z).elim g1 g2⟩
  have lst : ∀ (k : Nat), (∀ (d : D) (v : V) (u : Value) (p : PyData), RD X.K H α d v → RelV v u → Ln.toP S k d = some p → ∃ as, Reads s.heap u p as ∧ sysModules ∉ as) →
      ∀ (a : Addr) (xs : List D) (vs : List V) (ps : List PyData), H a = some (.lst vs) → RDs X.K H α xs vs → xs.mapM (Ln.toP S k) = some ps → ∃ as, Reads s.heap (.ref a) (.list ps) as ∧ sysModules ∉ as := by
    intro k ih a xs vs ps h r e
    obtain ⟨hz, its, n, rv, ho⟩ := (show ObjOk X.prog X.w H s.heap a (.lst vs) from I.hok a _ h)
    obtain ⟨as, h1, g1⟩ := seqs k ih _ _ _ _ r rv e
    refine ⟨a :: as, Reads.list ho rfl rfl h1, fun z => ?_⟩
    rcases List.mem_cons.mp z with z | z
    · exact ns h (fun φ q => nomatch q) z.symm
    · exact g1 z
  have dct : ∀ (k : Nat), (∀ (d : D) (v : V) (u : Value) (p : PyData), RD X.K H α d v → RelV v u → Ln.toP S k d = some p → ∃ as, Reads s.heap u p as ∧ sysModules ∉ as) →
      ∀ (a : Addr) (ks vs : List D) (kvs : List (Key × V)) (p : PyData), H a = some (.dK kvs) → RDs X.K H α ks (kvs.map fun p => kV p.1) → RDs X.K H α vs (kvs.map (·.2)) →
        ((ks.mapM (Ln.toP S k)).bind fun a => (vs.mapM (Ln.toP S k)).map fun b => PyData.dict (a.zip b)) = some p → ∃ as, Reads s.heap (.ref a) p as ∧ sysModules ∉ as := by
    intro k ih a ks vs kvs p h r1 r2 e
    obtain ⟨hz, hsm, ws, kv, o, es, ep, ho, ex, hd, hko, hp, hn⟩ := (show ObjOk X.prog X.w H s.heap a (.dK kvs) from I.hok a _ h)
    cases e1 : ks.mapM (Ln.toP S k) with
    | none => rw [e1] at e; cases e
    | some pa =>
    cases e2 : vs.mapM (Ln.toP S k) with
    | none => rw [e1, e2] at e; cases e
    | some pb =>
    rw [e1, e2] at e
    cases e
    obtain ⟨v1, v2⟩ := kv_pairs hp kv
    obtain ⟨as, h1, g1⟩ := seqs k ih _ _ _ _ r1 v1 e1
    obtain ⟨bs, h2, g2⟩ := seqs k ih _ _ _ _ r2 v2 e2
    have l1 := mapM_len e1
    have l2 := mapM_len e2
    have l3 := r1.length
    have l4 := r2.length
    rw [List.length_map] at l3 l4
    have z1 : (pa.zip pb).map (·.1) = pa := List.map_fst_zip (by omega)
    have z2 : (pa.zip pb).map (·.2) = pb := List.map_snd_zip (by omega)
    refine ⟨a :: as ++ bs, Reads.dict ho ex.1 hd (by rw [z1]; exact h1) (by rw [z2]; exact h2), fun z => ?_⟩
    rcases List.mem_append.mp z with z | z
    · rcases List.mem_cons.mp z with z | z
      · exact ns h (fun φ q => nomatch q) z.symm
      · exact g1 z
    · exact g2 z
  intro k
  induction k with
  | zero =>
    intro d v u p r rv e
    cases r <;> simp only [Ln.toP] at e <;> (try cases e)
    · cases rv; exact ⟨_, .none, by simp⟩
    · cases rv; exact ⟨_, .bool _, by simp⟩
    · obtain ⟨t, rfl⟩ := rv; exact ⟨_, .int _ _, by simp⟩
    · obtain ⟨t, rfl⟩ := rv; exact ⟨_, .str _ _, by simp⟩
  | succ k ih =>
    intro d v u p r rv e
    cases r with
    | non => cases e; cases rv; exact ⟨_, .none, by simp⟩
    | bl b => cases e; cases rv; exact ⟨_, .bool _, by simp⟩
    | int i => cases e; obtain ⟨t, rfl⟩ := rv; exact ⟨_, .int _ _, by simp⟩
    | str x => cases e; obtain ⟨t, rfl⟩ := rv; exact ⟨_, .str _ _, by simp⟩
    | tup h r =>
      cases rv
      simp only [Ln.toP, Option.map_eq_some_iff] at e
      obtain ⟨ps, e, rfl⟩ := e
      obtain ⟨its, rv, ⟨o, ho, hc, n, hd⟩, _⟩ := I.tuple h.sq
      obtain ⟨as, h1, g1⟩ := seqs k ih _ _ _ _ r rv e
      exact ⟨as, Reads.tuple ho hc hd h1, g1⟩
    | wtp h r => cases e
    | lst n h r =>
      cases rv
      simp only [Ln.toP, Option.map_eq_some_iff] at e
      obtain ⟨ps, e, rfl⟩ := e
      exact lst k ih _ _ _ _ h r e
    | frz h r => cases e
    | dct n h r1 r2 =>
      cases rv
      exact dct k ih _ _ _ _ _ h r1 r2 e
    | ref h =>
      cases rv
      simp only [Ln.toP] at e
      split at e
      · rename_i xs hS
        obtain ⟨vs, h1, h2⟩ := rs.at_ _ _ _ h hS
        rw [Option.map_eq_some_iff] at e
        obtain ⟨ps, e, rfl⟩ := e
        exact lst k ih _ _ _ _ h1 h2 e
      · rename_i ks vs hS
        obtain ⟨kvs, h1, h2, h3⟩ := rs.at_ _ _ _ h hS
        exact dct k ih _ _ _ _ _ h1 h2 h3 e
      · cases e
end

/-! ### comparisons -/
def copOf : Ln.Cop → CmpOp
  | .eq => .Eq
  | .ne => .NotEq
  | .lt => .Lt
  | .le => .LtE
  | .gt => .Gt
  | .ge => .GtE
  | .is => .Is
  | .isNot => .IsNot
  | .isIn => .In
  | .notIn => .NotIn
theorem eqP_split {S : Store} {x y : D} {b : Bool} (e : Ln.eqP S x y = some b) : ∃ p q, Ln.dat S x = some p ∧ Ln.dat S y = some q ∧ SeqAt.shaped p = true ∧ SeqAt.shaped q = true ∧ b = PyData.eqv p q := by
  unfold Ln.eqP at e
  split at e
  · rename_i p q h1 h2
    split at e
    · rename_i h
      cases e
      rw [Bool.and_eq_true] at h
      exact ⟨p, q, h1, h2, h.1, h.2, rfl⟩
    · cases e
  · cases e
theorem mapM_dat {S : Store} {ys : List D} {ps : List PyData} (e : ys.mapM (Ln.dat S) = some ps) : ys.mapM (Ln.toP S 24) = some ps := e
theorem isD_bool {dx : D} {b : Bool} {y : D} (e : Ln.isD dx y = some b) : (y = .non) ∨ (∃ k, y = .bl k) := by
  cases y <;> simp [Ln.isD] at e ⊢
section
variable {X : Cx}
theorem is_none_any {pins : List (Addr × Obj)} {s : Shared} {σ : L2.St} {H : Hp} {α : Al} {dx : D} {x : V} {v u : Value} {Q : VK} {b : Bool} {c : CmpOp} (neg : Bool) (hc : c = if neg then .IsNot else .Is) (I : Inv X pins σ H s) (r1 : RD X.K H α dx x) (rx : RelV x v) (ry : RelV .non u)
    (e : Ln.isD dx .non = some b) (q : Q (.bl (if neg then !b else b)) H) : wpAny (model X.prog X.w) X.A (compareOp c v u) (EP X pins σ Q) X.xe s := by
  have eb : b = decide (x = .non) := by
    cases r1 <;> simp [Ln.isD] at e <;> simp [e]
  subst eb
  cases neg with
  | true =>
    rw [hc]
    exact op_notN pins s σ H _ _ v u Q I rx ry ⟨rfl, q⟩
  | false =>
    rw [hc]
    exact op_isN pins s σ H _ _ v u Q I rx ry ⟨rfl, q⟩
end

section
variable {X : Cx}
theorem op_eqs (neg : Bool) {c : CmpOp} (hc : c = if neg then .NotEq else .Eq) (hu : X.A.units + 64 < cLine) : OpR X (compareOp c) (rOB X.K fun x y S => (Ln.eqD S x y).map fun b => if neg then !b else b) := by
  intro pins s σ H x y v u Q I rx ry h
  obtain ⟨α, S, dx, dy, b, rs, r1, r2, e, q⟩ := h
  rw [Option.map_eq_some_iff] at e
  obtain ⟨b', e, rfl⟩ := e
  have e : (∃ i j, dx = .int i ∧ dy = .int j ∧ b' = decide (i = j)) ∨ (∃ i j, dx = .str i ∧ dy = .str j ∧ b' = decide (i = j)) ∨ Ln.eqP S dx dy = some b' := by
    unfold Ln.eqD at e
    split at e
    · cases e; exact .inl ⟨_, _, rfl, rfl, rfl⟩
    · cases e; exact .inr (.inl ⟨_, _, rfl, rfl, rfl⟩)
    · exact .inr (.inr e)
  rcases e with ⟨i, j, rfl, rfl, rfl⟩ | ⟨i, j, rfl, rfl, rfl⟩ | e
  · cases r1; cases r2
    cases neg with
    | true => rw [hc]; exact op_ne pins s σ H _ _ v u Q I rx ry ⟨rfl, by simpa using q⟩
    | false => rw [hc]; exact op_eq pins s σ H _ _ v u Q I rx ry ⟨rfl, by simpa using q⟩
  · cases r1; cases r2
    cases neg with
    | true => rw [hc]; exact op_ne pins s σ H _ _ v u Q I rx ry ⟨rfl, by simpa using q⟩
    | false => rw [hc]; exact op_eq pins s σ H _ _ v u Q I rx ry ⟨rfl, by simpa using q⟩
  obtain ⟨p, p', e1, e2, s1, s2, rfl⟩ := eqP_split e
  obtain ⟨as, h1, _⟩ := reads_of I rs _ _ _ _ _ r1 rx e1
  obtain ⟨bs, h2, _⟩ := reads_of I rs _ _ _ _ _ r2 ry e2
  cases neg with
  | true => rw [hc]; exact SeqAt.compareNe_shaped h1 h2 s1 s2 hu ⟨.bl _, H, I, rfl, q⟩
  | false => rw [hc]; exact SeqAt.compareEq_shaped h1 h2 s1 s2 hu ⟨.bl _, H, I, rfl, q⟩
theorem op_iss (neg : Bool) {c : CmpOp} (hc : c = if neg then .IsNot else .Is) : OpR X (compareOp c) (rOB X.K fun x y S => (Ln.isD x y).map fun b => if neg then !b else b) := by
  intro pins s σ H x y v u Q I rx ry h
  obtain ⟨α, S, dx, dy, b, rs, r1, r2, e, q⟩ := h
  rw [Option.map_eq_some_iff] at e
  obtain ⟨b', e, rfl⟩ := e
  rcases isD_bool e with rfl | ⟨k, rfl⟩
  · cases r2
    exact is_none_any neg hc I r1 rx ry e q
  · cases r2
    cases r1 <;> simp [Ln.isD] at e
    subst e
    cases neg with
    | true => rw [hc]; refine op_notBl pins s σ H _ _ v u Q I rx ry ⟨_, _, rfl, rfl, ?_⟩; simpa [Bool.beq_eq_decide_eq] using q
    | false => rw [hc]; refine op_isBl pins s σ H _ _ v u Q I rx ry ⟨_, _, rfl, rfl, ?_⟩; simpa [Bool.beq_eq_decide_eq] using q
theorem op_ins (neg : Bool) {c : CmpOp} (hc : c = if neg then .NotIn else .In) (hu : X.A.units + 65 < cLine) : OpR X (compareOp c) (rOB X.K fun x y S => (Ln.inD S x y).map fun b => if neg then !b else b) := by
  intro pins s σ H x y v u Q I rx ry h
  obtain ⟨α, S, dx, dy, b, rs, r1, r2, e, q⟩ := h
  rw [Option.map_eq_some_iff] at e
  obtain ⟨b', e, rfl⟩ := e
  unfold Ln.inD at e
  split at e
  · rename_i ks ws
    split at e
    · rename_i hk
      cases e
      obtain ⟨key, rfl, hkey⟩ := key_at r1 hk
      cases r2 with
      | dct n hH q1 q2 =>
      cases ry
      obtain ⟨_, _, e3⟩ := look_at hkey q1 q2
      rw [e3] at q
      cases neg with
      | true => rw [hc]; exact d_notIn (by omega) I (DGet.k hH) rx fun s' I' => ⟨.bl _, H, I', rfl, q⟩
      | false => rw [hc]; exact d_in (by omega) I (DGet.k hH) rx fun s' I' => ⟨.bl _, H, I', rfl, q⟩
    · cases e
  · rename_i z
    split at e
    · rename_i z'
      cases e
      cases r1; cases r2
      cases neg with
      | true => rw [hc]; exact op_notin_str pins s σ H _ _ v u Q I rx ry ⟨_, _, rfl, rfl, q⟩
      | false => rw [hc]; exact op_in_str pins s σ H _ _ v u Q I rx ry ⟨_, _, rfl, rfl, q⟩
    · cases e
  · rename_i hstr
    split at e
    · rename_i p ys e1 e2
      split at e
      · rename_i ps e3
        split at e
        · rename_i hs
          cases e
          rw [Bool.and_eq_true] at hs
          obtain ⟨as, h1, _⟩ := reads_of I rs _ _ _ _ _ r1 rx e1
          obtain ⟨a, vs, rfl, hsq, rds⟩ := seq_at rs r2 e2
          have c1 := SeqAt.canLay_of_shaped hs.1
          have c2 := SeqAt.canLay_of_shaped hs.2
          have rm := room_in_shaped (xs := ps) hs.1 hu
          have items : ∀ {us : List Value}, Vals vs us → ∃ bs, ReadsAll s.heap us ps bs := fun {us} rv => by
            have g : ∀ (ds : List D) (ws : List V) (us : List Value) (ps : List PyData), RDs X.K H α ds ws → Vals ws us → ds.mapM (Ln.dat S) = some ps → ∃ bs, ReadsAll s.heap us ps bs := by
              intro ds
              induction ds with
              | nil => intro ws us ps r v e; cases r; cases v; rw [mapM_nil e]; exact ⟨_, .nil⟩
              | cons d ds ih =>
                intro ws us ps r v e
                cases r with
                | cons r1 r2 =>
                cases v with
                | cons v1 v2 =>
                obtain ⟨p, ps', g1, g2, rfl⟩ := mapM_cons e
                obtain ⟨_, k1, _⟩ := reads_of I rs _ _ _ _ _ r1 v1 g1
                obtain ⟨_, k2⟩ := ih _ _ _ r2 v2 g2
                exact ⟨_, .cons k1 k2⟩
            exact g ys vs us ps rds rv e3
          cases ry
          rcases hsq with hsq | hsq
          · obtain ⟨its, rv, ⟨o, n, ho, hcl, _, hd⟩, _⟩ := I.list hsq
            obtain ⟨bs, hr⟩ := items rv
            have h2 : Reads s.heap (.ref a) (.list ps) _ := Reads.list ho hcl hd hr
            cases neg with
            | true => rw [hc]; exact SeqAt.notIn_list_reads h2 h1 c2 c1 rm ⟨.bl _, H, I, rfl, q⟩
            | false => rw [hc]; exact SeqAt.in_list_reads h2 h1 c2 c1 rm ⟨.bl _, H, I, rfl, q⟩
          · obtain ⟨its, rv, ⟨o, ho, hcl, n, hd⟩, _⟩ := I.tuple hsq
            obtain ⟨bs, hr⟩ := items rv
            have h2 : Reads s.heap (.ref a) (.tuple ps) _ := Reads.tuple ho hcl hd hr
            have c3 : PyData.canLay0 (.tuple ps) = true := by simpa [PyData.canLay0] using c2
            cases neg with
            | true => rw [hc]; exact SeqAt.notIn_tuple_reads h2 h1 c3 c1 rm ⟨.bl _, H, I, rfl, q⟩
            | false => rw [hc]; exact SeqAt.in_tuple_reads h2 h1 c3 c1 rm ⟨.bl _, H, I, rfl, q⟩
        · cases e
      · cases e
    · cases e
theorem op_cop (c : Ln.Cop) (hu : X.A.units + 65 < cLine) : OpR X (compareOp (copOf c)) (rOB X.K (Ln.cop c)) := by
  intro pins s σ H x y v u Q I rx ry h
  have h' := h
  obtain ⟨α, S, dx, dy, b, rs, r1, r2, e, q⟩ := h
  cases c with
  | eq => exact op_eqs false rfl (by omega) pins s σ H x y v u Q I rx ry ⟨α, S, dx, dy, b, rs, r1, r2, by simpa [Ln.cop] using e, q⟩
  | ne => exact op_eqs true rfl (by omega) pins s σ H x y v u Q I rx ry ⟨α, S, dx, dy, b, rs, r1, r2, by simpa [Ln.cop] using e, q⟩
  | «is» => exact op_iss false rfl pins s σ H x y v u Q I rx ry ⟨α, S, dx, dy, b, rs, r1, r2, by simpa [Ln.cop] using e, q⟩
  | isNot => exact op_iss true rfl pins s σ H x y v u Q I rx ry ⟨α, S, dx, dy, b, rs, r1, r2, by simpa [Ln.cop] using e, q⟩
  | isIn => exact op_ins false rfl hu pins s σ H x y v u Q I rx ry ⟨α, S, dx, dy, b, rs, r1, r2, by simpa [Ln.cop] using e, q⟩
  | notIn => exact op_ins true rfl hu pins s σ H x y v u Q I rx ry ⟨α, S, dx, dy, b, rs, r1, r2, by simpa [Ln.cop] using e, q⟩
  | lt =>
    simp only [Ln.cop] at e
    split at e
    · cases e; cases r1; cases r2
      exact op_lt pins s σ H _ _ v u Q I rx ry ⟨_, _, rfl, rfl, q⟩
    · cases e; cases r1; cases r2
      exact op_lt_str pins s σ H _ _ v u Q I rx ry ⟨_, _, rfl, rfl, q⟩
    · cases e
  | le =>
    simp only [Ln.cop] at e
    split at e
    · cases e; cases r1; cases r2
      exact op_le pins s σ H _ _ v u Q I rx ry ⟨_, _, rfl, rfl, q⟩
    · cases e
  | gt =>
    simp only [Ln.cop] at e
    split at e
    · cases e; cases r1; cases r2
      exact op_gt pins s σ H _ _ v u Q I rx ry ⟨_, _, rfl, rfl, q⟩
    · cases e
  | ge =>
    simp only [Ln.cop] at e
    split at e
    · cases e; cases r1; cases r2
      exact op_ge pins s σ H _ _ v u Q I rx ry ⟨_, _, rfl, rfl, q⟩
    · cases e
end
end LnS

set_option linter.all false
set_option maxRecDepth 100000
/-! Ln: subscripts, slices, isinstance. -/
namespace LnS
open PySem L2 PyProof.Rows
open Ln (D O Store Rho M R Ex)

theorem place_eq : Ln.place = ixN := rfl
theorem atP_eq {α : Type} : @Ln.atP α = @atI α := rfl
theorem bnd_eq (n d : Nat) (o : Option Int) : Ln.bnd n d o = HT.sIx n d o := by cases o <;> rfl
theorem cut_eq (xs : List V) (lo hi : Option Int) : Ln.cut xs lo hi = cutV xs lo hi := by
  unfold Ln.cut cutV
  rw [bnd_eq, bnd_eq]
section
variable {K : Frag} {H : Hp} {α : Al}
theorem RDs.cut {ds : List D} {vs : List V} (r : RDs K H α ds vs) (lo hi : Option Int) : RDs K H α (Ln.cut ds lo hi) (cutV vs lo hi) := by
  rw [← cut_eq]
  unfold Ln.cut
  rw [r.length]
  exact (r.drop _).take _
theorem RDs.atI {ds : List D} {vs : List V} (r : RDs K H α ds vs) {i : Int} {d : D} (e : Ln.atP ds i = some d) : ∃ v, atI vs i = some v ∧ RD K H α d v := by
  unfold Ln.atP at e
  cases h : Ln.place ds.length i with
  | none => rw [h] at e; cases e
  | some j =>
    rw [h] at e
    obtain ⟨v, h1, h2⟩ := r.get e
    refine ⟨v, ?_, h2⟩
    unfold L2.atI
    rw [← r.length, show ixN ds.length i = some j from h]
    exact h1
end
section
variable {X : Cx}
theorem ix_dk (hu : X.A.units + 65 < cLine) {value slice : Expr} {pins : List (Addr × Obj)} {s : Shared} {σ : L2.St} {H : Hp} {α : Al} {S : Store} {dy : D} {x y : V} {v u : Value} {Q : VK} {ks vs : List D} {d : D} (I : Inv X pins σ H s) (rx : RelV x v) (ry : RelV y u)
    (rs : RS X.K H α S) (r1 : RD X.K H α (.dct ks vs) x) (r2 : RD X.K H α dy y) (hk : Ln.isKey dy = true) (e : Ln.lookD dy ks vs = some d) (q : ∀ v H' α', After X.K α H α' H' S → RD X.K H' α' d v → Q v H')
    (hs : subscripted slice false v u = operate [v, u] (getItem v u)) : wpAny (model X.prog X.w) X.A (subscriptTail value slice v u) (EP X pins σ Q) X.xe s := by
  obtain ⟨key, rfl, hkey⟩ := key_at r2 hk
  cases r1 with
  | dct n hH q1 q2 =>
  obtain ⟨e1, _, _⟩ := look_at hkey q1 q2
  obtain ⟨w, h1, h2⟩ := e1 d e
  cases rx
  have g : DGet H _ (kV key) (some w) := h1 ▸ DGet.k hH
  exact tail_any (dict_typeIs I g) PySem.F.slot_dict_getitem.lookup (d_getItem (by omega) I g ry fun w' s' I' rw' => ⟨w, H, I', rw', q _ _ _ (.refl rs) h2⟩) hs
theorem ix_d (hu : X.A.units + 65 < cLine) : IxR X (rO X.K fun x i S => Ln.idxD S x i) := by
  intro value slice pins s σ H x y v u Q I rx ry h hs
  obtain ⟨α, S, dx, dy, d, rs, r1, r2, e, q⟩ := h
  simp only [Ln.idxD] at e
  split at e
  · rename_i i
    cases r2
    split at e
    · rename_i z
      cases r1
      split at e
      · rename_i hz
        rw [Option.map_eq_some_iff] at e
        obtain ⟨c, e, rfl⟩ := e
        exact ix_str value slice pins s σ H _ _ v u Q I rx ry ⟨z, i, c, rfl, rfl, hz, e, q _ _ _ (.refl rs) (.str _)⟩ hs
      · cases e
    · rename_i ks ws
      exact ix_dk hu I rx ry rs r1 (.int _) rfl e q hs
    · rw [Option.bind_eq_some_iff] at e
      obtain ⟨xs, e1, e2⟩ := e
      obtain ⟨a, vs, rfl, hq, rds⟩ := seq_at rs r1 e1
      obtain ⟨w, h1, h2⟩ := rds.atI e2
      rcases hq with hq | hq
      · exact ix_list value slice pins s σ H _ _ v u Q I rx ry ⟨a, vs, i, w, rfl, rfl, hq, h1, q _ _ _ (.refl rs) h2⟩ hs
      · exact ix_tup value slice pins s σ H _ _ v u Q I rx ry ⟨a, vs, i, w, rfl, rfl, hq, h1, q _ _ _ (.refl rs) h2⟩ hs
  · cases r2
    split at e
    · exact ix_dk hu I rx ry rs r1 (.str _) rfl e q hs
    · cases e
  · cases e

/-- slices by values -/
def rSl (K : Frag) : V → Option Int → Option Int → Hp → VK → Prop := fun x lo hi H Q => ∃ α S dx d, RS K H α S ∧ RD K H α dx x ∧ Ln.slcD S dx lo hi = some d ∧ ∀ v H' α', After K α H α' H' S → RD K H' α' d v → Q v H'
theorem sl_d : SlR X (rSl X.K) := by
  intro pins s σ H x v vl vu lo hi sl Q I rx hs pl pu h
  obtain ⟨α, S, dx, d, rs, r1, e, q⟩ := h
  unfold Ln.slcD at e
  split at e
  · rename_i z
    cases r1
    split at e
    · rename_i hz
      cases e
      refine sl_str pins s σ H _ v vl vu lo hi sl Q I rx hs pl pu ⟨z, rfl, hz, ?_⟩
      have e2 : cutS z lo hi = ⟨(Ln.cut z.cps.toList lo hi).toArray⟩ := by
        unfold cutS Ln.cut
        rw [bnd_eq, bnd_eq, Array.length_toList]
        rfl
      rw [e2]
      exact q _ _ _ (.refl rs) (.str _)
    · cases e
  · rename_i xs
    cases e
    have r1' := r1
    cases r1 with
    | tup h1 q1 =>
    rename_i a vs
    refine sl_tupZ pins s σ H _ v vl vu lo hi sl Q I rx hs pl pu ⟨a, vs, rfl, h1.sq, fun z => ?_, fun _ p o ho hp => ?_⟩
    · have e3 : Ln.cut xs lo hi = xs := by
        unfold Ln.cut
        rw [bnd_eq, bnd_eq, q1.length, z.1, z.2, List.drop_zero, ← q1.length, Nat.sub_zero, List.take_length]
      rw [e3] at q
      exact q _ _ _ (.refl rs) r1'
    · obtain ⟨af, rd⟩ := new_tup rs ho hp (q1.cut lo hi)
      exact q _ _ _ af rd
  · rw [Option.map_eq_some_iff] at e
    obtain ⟨xs, e, rfl⟩ := e
    obtain ⟨a, vs, rfl, h1, q1⟩ := lst_at rs r1 e
    refine sl_list pins s σ H _ v vl vu lo hi sl Q I rx hs pl pu ⟨a, vs, rfl, SqL.of h1, fun p hp => ?_⟩
    obtain ⟨af, rd⟩ := new_lst rs hp (q1.cut lo hi)
    exact q _ _ _ af rd
end

/-! ### t[::-1] -/
section
variable {prog : Program} {w : World} {A : Around} {E : Value → Shared → Prop} {s : Shared}
theorem rev_places (n : Nat) : Builtin.Slice.slicePlaces ((n : Int) - 1) (-1) (-1) = n := by
  unfold Builtin.Slice.slicePlaces
  have h1 : ¬ ((-1 : Int) > 0) := by decide
  simp only [h1, if_false]
  have e : (-(-1 : Int)) = 1 := rfl
  rw [e]
  simp only [Int.ediv_one]
  split <;> omega
theorem filterMap_eqs {α β : Type} {f g : α → Option β} : ∀ {l : List α}, (∀ x ∈ l, f x = g x) → l.filterMap f = l.filterMap g
  | [], _ => rfl
  | x :: l, h => by rw [List.filterMap_cons, List.filterMap_cons, h x List.mem_cons_self, filterMap_eqs fun y hy => h y (List.mem_cons_of_mem _ hy)]
theorem rev_pick (xs : Array Value) : ((List.range xs.size).filterMap fun (m : Nat) => xs[((((xs.size : Nat) : Int) - 1) + (m : Int) * (-1)).toNat]?).toArray = xs.toList.reverse.toArray := by
  have e : (List.range xs.size).filterMap (fun (m : Nat) => xs[((((xs.size : Nat) : Int) - 1) + (m : Int) * (-1)).toNat]?) = (List.range xs.size).filterMap fun m => xs[xs.size - 1 - m]? := by
    refine filterMap_eqs fun m hm => ?_
    have := List.mem_range.mp hm
    have e : ((((xs.size : Nat) : Int) - 1) + (m : Int) * (-1)).toNat = xs.size - 1 - m := by omega
    rw [e]
  rw [e, show (fun m => xs[xs.size - 1 - m]?) = (fun k => xs[k]?) ∘ fun m => xs.size - 1 - m from rfl, ← List.filterMap_map, PySem.W.krv_range, List.filterMap_reverse, PySem.W.krv_all]
theorem sliceApplied_rev {sl : Addr} {vl vu vs : Value} {n : Nat} {Q : Int × Int × Nat → Shared → Prop} (hs : s.heap.IsSliceOf sl vl vu vs) (pl : IsPart vl none) (pu : IsPart vu none) (ps : IsPart vs (some (-1)))
    (h : Q ((n : Int) - 1, -1, n) s) : wpAny (model prog w) A (Builtin.Slice.sliceApplied (.ref sl) (pure (n : Int))) Q E s := by
  obtain ⟨os, hos, hcs, hds⟩ := id hs
  unfold Builtin.Slice.sliceApplied Builtin.Slice.sliceFields
  refine wpAny_bind (wpAny_bind (wpAny_field hos hds (x := vl) rfl (wpAny_bind (wpAny_field hos hds (x := vu) rfl (wpAny_bind (wpAny_field hos hds (x := vs) rfl (wpAny_pure ?_)))))))
  refine wpAny_bind (HT.slicePart_ ps ?_)
  show wpAny _ _ (if ((-1 : Int) == 0) = true then _ else _) _ _ s
  rw [if_neg (by decide)]
  refine wpAny_bind (HT.slicePart_ pl (wpAny_bind (HT.slicePart_ pu (wpAny_bind (wpAny_pure ?_)))))
  show wpAny _ _ (pure ((n : Int) - 1, (-1 : Int), Builtin.Slice.slicePlaces ((n : Int) - 1) (-1) (-1))) _ _ s
  rw [rev_places]
  exact wpAny_pure h
theorem getItem_tuple_rev {t sl : Addr} {items : Array Value} {vl vu vs : Value} {Q : Value → Shared → Prop} (ht : IsTup s.heap t items) (hs : s.heap.IsSliceOf sl vl vu vs) (pl : IsPart vl none) (pu : IsPart vu none) (ps : IsPart vs (some (-1)))
    (h : Q (.ref s.heap.objs.size) { s with heap := s.heap.push { cls := .type "tuple", data := .seq items.toList.reverse.toArray } })
    (hsz : items.size ≤ sizeLine) : wpAny (model prog w) A (getItem (.ref t) (.ref sl)) Q E s := by
  have htake : sizeOk (.seq items.toList.reverse.toArray) := by
    show items.toList.reverse.toArray.size ≤ sizeLine
    rw [List.size_toArray, List.length_reverse, Array.length_toList]
    exact hsz
  obtain ⟨os, hos, hcs, hds⟩ := id hs
  have hTs : s.TypeIs (.ref sl) "slice" := ⟨os, hos, hcs⟩
  unfold getItem
  try with_reducible refine wpAny_holding ?_
  first | refine wpAny_bind (wpAny_pure ?_) | skip
  refine wpAny_bind (wpAny_sequenceKey ht.typeIs (by decide) ?_)
  refine wpAny_bind (wpAny_callSpecial?_slot (name := Str.ofString "__getitem__") ht.typeIs PyProof.Rows.slot_tuple_getitem
    (wpAny_call_entry PyProof.Rows.slot_tuple_getitem ht.typeIs entry_tuple_getitem ?_ (args_tuple_getitem _ _)))
  refine wpAny_bind (m := Builtin.Tuple.tupleItemsOf (.ref t)) (tupleItemsOf_ ht ?_)
  refine wpAny_bind (wpAny_typeOf hTs ?_)
  rw [if_pos (by decide)]
  refine wpAny_bind (sliceApplied_rev hs pl pu ps ?_)
  have hno : ¬ ((((items.size : Nat) : Int) - 1 == 0 && (-1 : Int) == 1 && items.size == items.size) = true) := by
    intro q
    rw [Bool.and_eq_true, Bool.and_eq_true] at q
    exact absurd q.1.2 (by decide)
  show wpAny _ _ (if (((items.size : Nat) : Int) - 1 == 0 && (-1 : Int) == 1 && items.size == items.size) = true then _ else _) _ _ s
  rw [if_neg hno, rev_pick]
  first
    | exact wpAny_bind (m := Builtin.Tuple.tupleExact _) (wpAny_newObj_type (wpAny_pure ⟨_, rfl, wpAny_pure h⟩) htake)
    | exact wpAny_bind (m := Builtin.Tuple.tupleExact _) (wpAny_newObj_type (wpAny_bind (wpAny_pure (wpAny_pure ⟨_, rfl, wpAny_pure h⟩))) htake)
    | exact wpAny_bind (wpAny_bind (m := Builtin.Tuple.tupleExact _) (wpAny_newObj_type (wpAny_pure (wpAny_pure ⟨_, rfl, wpAny_pure h⟩)) htake))
    | exact wpAny_bind (wpAny_bind (m := Builtin.Tuple.tupleExact _) (wpAny_newObj_type (wpAny_pure ⟨_, rfl, wpAny_pure h⟩) htake))
end
section
variable {X : Cx}
def tRev (K : Frag) (te : TE) : TE := fun σ H Q => te σ H fun x H1 => ∃ α S dx d, RS K H1 α S ∧ RD K H1 α dx x ∧ Ln.revD S dx = some d ∧ ∀ v H' α', After K α H1 α' H' S → RD K H' α' d v → Q v H'
theorem pe_rev {e : Expr} {te : TE} {k : Nat} {p1 p2 p3 pos : Pos} (he : PE X e te) : PE X (.Subscript e (.Slice none none (some (.UnaryOp .USub (.Constant (.int 1) k p1) p2)) p3) pos) (tRev X.K te) := by
  refine ⟨fun pins s σ H Q I h => ?_⟩
  refine Subscript_ (thn (he.run pins s σ H _ I h) fun v s1 ⟨x, H1, I1, r1, q1⟩ => ?_)
  obtain ⟨α, S, dx, d, rs, rd, e0, q⟩ := q1
  have hst : PO X (some (.UnaryOp .USub (.Constant (.int 1) k p1) p2)) (tPart (tUn (rU fun i => .int (-i)) (tC (.int 1)))) := po_some (pe_un un_neg pe_int)
  refine wpAny_Slice (thn (po_none.run pins s1 σ H1 (fun o H2 => o = none ∧ H2 = H1) I1 ⟨rfl, rfl⟩) fun vl s2 ⟨l, H2, I2, pl, el, e2⟩ => ?_)
  subst el e2
  refine thn (po_none.run pins s2 σ H2 (fun o H3 => o = none ∧ H3 = H2) I2 ⟨rfl, rfl⟩) fun vu s3 ⟨u, H3, I3, pu, eu, e3⟩ => ?_
  subst eu e3
  refine thn (hst.run pins s3 σ H3 (fun o H4 => o = some (-1) ∧ H4 = H3) I3 ⟨1, rfl, -1, rfl, rfl, rfl⟩) fun vs s4 ⟨o, H4, I4, ps, eo, e4⟩ => ?_
  subst eo e4
  have I5 : Inv X pins σ H4 { s4 with heap := s4.heap.push { cls := .type "slice", data := .fields #[vl, vu, vs] } } := I4.kept (t' := s4.toks) fun b ob q => Heap.get?_push_of_some _ q
  have lists : ∀ (xs : List D), Ln.lstOf S dx = some xs → d = .lst xs.reverse →
      wpAny (model X.prog X.w) X.A (subscriptTail e (.Slice none none (some (.UnaryOp .USub (.Constant (.int 1) k p1) p2)) p3) v (.ref s4.heap.objs.size)) (EP X pins σ Q) X.xe { s4 with heap := s4.heap.push { cls := .type "slice", data := .fields #[vl, vu, vs] } } := fun xs e5 ed => by
    subst ed
    obtain ⟨a, ws, rfl, h1, rds⟩ := lst_at rs rd e5
    cases r1
    obtain ⟨its, r, ht, hz⟩ := I5.list (SqL.of h1)
    have hlen := r.length
    refine tail_any (ops := [.ref a, .ref s4.heap.objs.size]) ht.isList.typeIs (PySem.slot_list_getitem.lookup) ?_ (by with_unfolding_all rfl)
    refine wpAny_getItem_list_slice ht.isList (Heap.IsSliceOf.new _ vl vu vs) pl pu ps (by decide) ?_ (by rw [List.size_toArray]; omega)
    rw [PySem.W.krv_pick]
    have hp := I5.hok.fresh (Nat.le_refl _)
    obtain ⟨af, rd'⟩ := new_lst rs hp rds.reverse
    refine ⟨.ref _, _, I5.laid (t' := s4.toks) (o := .lst ws.reverse) (fun b ob q => Heap.get?_push_of_some _ q) (Nat.le_refl _) ?_, rfl, q _ _ _ af rd'⟩
    exact ⟨by rw [List.length_reverse]; exact hz, _, 0, r.reverse, Heap.get?_push_size _ rfl⟩
  show wpAny (model X.prog X.w) X.A (subscriptTail e (.Slice none none (some (.UnaryOp .USub (.Constant (.int 1) k p1) p2)) p3) v (.ref s4.heap.objs.size)) (EP X pins σ Q) X.xe { s4 with heap := s4.heap.push { cls := .type "slice", data := .fields #[vl, vu, vs] } }
  unfold Ln.revD at e0
  split at e0
  · rename_i xs
    cases e0
    cases rd with
    | tup h1 rds =>
    rename_i a ws
    cases r1
    obtain ⟨its, r, ht, hz⟩ := I5.tuple h1.sq
    have hlen := r.length
    refine tail_any (ops := [.ref a, .ref s4.heap.objs.size]) ht.typeIs (PyProof.Rows.slot_tuple_getitem.lookup) ?_ (by with_unfolding_all rfl)
    refine getItem_tuple_rev ht (Heap.IsSliceOf.new _ vl vu vs) pl pu ps ?_ (by rw [List.size_toArray]; omega)
    have hp := I5.hok.fresh (Nat.le_refl _)
    exact end_tup (t' := s4.toks) I5 r.reverse (by rw [List.length_reverse]; exact hz) fun p o ho hp => by
      obtain ⟨af, rd'⟩ := new_tup rs ho hp rds.reverse
      exact q _ _ _ af rd'
  · rw [Option.map_eq_some_iff] at e0
    obtain ⟨xs, e5, ed⟩ := e0
    exact lists xs e5 ed.symm
end
end LnS

set_option linter.all false
set_option maxRecDepth 100000
/-! Ln: the rules for expressions. -/
namespace LnS
open PySem L2 PyProof.Rows
open Ln (D O Store Rho M R Ex)

abbrev JE (X : Cx) (E : XS) (e : Expr) (m : Rho → M D) : Prop := PE X e (TI X.K E m)
abbrev JT (X : Cx) (E : XS) (e : Expr) (m : Rho → M Bool) : Prop := PT X e (TTI X.K E m)
abbrev JA (X : Cx) (E : XS) (es : List Expr) (m : Rho → M (List D)) : Prop := PA X es (TAI X.K E m)

section
variable {X : Cx} {E : XS} {cf : Nat → List D → M D} {pos : Pos}

/-! ### in a row -/
theorem seq1 {K : Frag} {m : Rho → M D} {f : Rho → D → M D} {σ : L2.St} {H : Hp} {Q : VK} (h : TI K E (fun ρ => M.bind (m ρ) (f ρ)) σ H Q) :
    TI K E m σ H fun x H1 => ∃ ρ α S d, RS K H1 α S ∧ RE K H1 α ρ σ ∧ RD K H1 α d x ∧ Pst K E H1 α (f ρ d S) fun d _ H' α' => ∀ v, RD K H' α' d v → Q v H' := by
  obtain ⟨ρ, α, S, rs, re, p⟩ := h
  exact ⟨ρ, α, S, rs, re, p.bind.mono fun d S1 H1 α1 _ ⟨a, p1⟩ v rd => ⟨ρ, α1, S1, d, a.rs, a.re re, rd, p1⟩⟩
theorem seq2 {K : Frag} {m n : Rho → M D} {f : Rho → D → D → M D} {σ : L2.St} {H : Hp} {Q : VK} (h : TI K E (fun ρ => M.bind (m ρ) fun x => M.bind (n ρ) (f ρ x)) σ H Q) :
    TI K E m σ H fun x H1 => TI K E n σ H1 fun y H2 => ∃ ρ α S dx dy, RS K H2 α S ∧ RE K H2 α ρ σ ∧ RD K H2 α dx x ∧ RD K H2 α dy y ∧ Pst K E H2 α (f ρ dx dy S) fun d _ H' α' => ∀ v, RD K H' α' d v → Q v H' := by
  obtain ⟨ρ, α, S, rs, re, p⟩ := h
  refine ⟨ρ, α, S, rs, re, p.bind.mono fun d S1 H1 α1 _ ⟨a, p1⟩ v rd => ?_⟩
  exact ⟨ρ, α1, S1, a.rs, a.re re, p1.bind.mono fun e S2 H2 α2 _ ⟨b, p2⟩ w re2 => ⟨ρ, α2, S2, d, e, b.rs, b.re (a.re re), b.rd rd, re2, p2⟩⟩

/-! ### names, constants -/
theorem pe_never {e : Expr} : PE X e (fun _ _ _ => False) := ⟨fun _ _ _ _ _ _ h => h.elim⟩
theorem je_bad {e : Expr} : JE X E e (Ln.ev cf .bad) := pe_w pe_never fun σ H Q ⟨ρ, α, S, rs, re, p⟩ => p.elim
theorem je_var {e : Expr} {i : Nat} (h : PE X e (tVar i)) : JE X E e (Ln.ev cf (.var i)) := pe_w h fun σ H Q ⟨ρ, α, S, rs, re, p⟩ => by
  simp only [Ln.ev, Ln.getV] at p
  match hd : ρ[i]?, p with
  | some (some d), p =>
    obtain ⟨v, h1, h2⟩ := re.get i d hd
    exact ⟨v, h1, p.ret rs v h2⟩
  | some none, p => exact p.elim
  | none, p => exact p.elim
theorem je_cst {e : Expr} {v : V} {d : D} (h : PE X e (tC v)) (r : ∀ H α, RD X.K H α d v) : JE X E e (Ln.ev cf (.cst d)) := pe_w h fun σ H Q ⟨ρ, α, S, rs, re, p⟩ => by
  simp only [Ln.ev] at p
  exact p.ret rs v (r H α)
theorem je_int {i : Int} {j} : JE X E (.Constant (.int i) j pos) (Ln.ev cf (.cst (.int i))) := je_cst pe_int fun _ _ => .int i
theorem je_bl {b : Bool} {j} : JE X E (.Constant (.bool b) j pos) (Ln.ev cf (.cst (.bl b))) := je_cst pe_bl fun _ _ => .bl b
theorem je_non {j} : JE X E (.Constant .none j pos) (Ln.ev cf (.cst .non)) := je_cst pe_non fun _ _ => .non
theorem je_str {x : Str} {j} : JE X E (.Constant (.str x) j pos) (Ln.ev cf (.cst (.str x))) := je_cst pe_str fun _ _ => .str x

/-! ### operators -/
variable {a b c : Expr} {ia ib ic : Ln.E}
theorem je_bin (o : Ln.Bop) (ha : JE X E a (Ln.ev cf ia)) (hb : JE X E b (Ln.ev cf ib)) : JE X E (.BinOp a (opOf o) b pos) (Ln.ev cf (.bin o ia ib)) :=
  pe_w (pe_op (op_bop o) ha hb) fun σ H Q h => by
    obtain ⟨ρ, α, S, rs, re, p⟩ := seq2 (f := fun ρ x y => M.opt (Ln.bop o x y)) h
    refine ⟨ρ, α, S, rs, re, p.mono fun d S1 H1 α1 _ q v rd => ?_⟩
    obtain ⟨ρ, α, S, rs, re, p⟩ := q v rd
    refine ⟨ρ, α, S, rs, re, p.mono fun d S1 H1 α1 _ q v rd => ?_⟩
    obtain ⟨ρ, α, S, dx, dy, rs, re, r1, r2, p⟩ := q v rd
    obtain ⟨d, e, k⟩ := p.optN
    exact ⟨α, S, dx, dy, d, rs, r1, r2, e, fun v H' α' a r => k H' α' a v r⟩
theorem je_neg (ha : JE X E a (Ln.ev cf ia)) : JE X E (.UnaryOp .USub a pos) (Ln.ev cf (.neg ia)) :=
  pe_w (pe_un un_neg ha) fun σ H Q h => by
    obtain ⟨ρ, α, S, rs, re, p⟩ := seq1 (f := fun ρ x => Ln.negK x) h
    refine ⟨ρ, α, S, rs, re, p.mono fun d S1 H1 α1 _ q v rd => ?_⟩
    obtain ⟨ρ, α, S, d, rs, re, r1, p⟩ := q v rd
    unfold Ln.negK at p
    split at p
    · rename_i i
      cases r1
      exact ⟨i, rfl, p.ret rs _ (.int _)⟩
    · exact p.elim
theorem truth_at {K : Frag} {H : Hp} {α : Al} {S : Store} (rs : RS K H α S) {d : D} {x : V} {k : Bool} (r : RD K H α d x) (e : Ln.truth S d = some k) : TruV K x H k := by
  cases r with
  | non => cases e; rfl
  | bl b => cases e; rfl
  | int i => cases e; rfl
  | str z =>
    simp only [Ln.truth] at e
    split at e
    · rename_i h
      cases e
      refine ⟨h, ?_⟩
      rw [Bool.eq_iff_iff]
      simp
    · cases e
  | tup h q => cases e; exact .inr (.inl ⟨_, h.sq, by rw [q.isEmpty]⟩)
  | wtp h q => cases e
  | lst n h q => cases e; exact .inl ⟨_, SqL.of h, by rw [q.isEmpty]⟩
  | frz h q => cases e
  | dct n h q1 q2 => cases e
  | ref h =>
    simp only [Ln.truth] at e
    split at e
    · rename_i xs hS
      cases e
      obtain ⟨vs, h1, h2⟩ := rs.at_ _ _ _ h hS
      exact .inl ⟨vs, SqL.of h1, by rw [h2.isEmpty]⟩
    · cases e
theorem je_not (ha : JE X E a (Ln.ev cf ia)) : JE X E (.UnaryOp .Not a pos) (Ln.ev cf (.not ia)) :=
  pe_w (pe_notT ha) fun σ H Q h => by
    obtain ⟨ρ, α, S, rs, re, p⟩ := seq1 (f := fun ρ x => M.bind (Ln.truthM x) fun b => M.ret (.bl (!b))) h
    refine ⟨ρ, α, S, rs, re, p.mono fun d S1 H1 α1 _ q v rd => ?_⟩
    obtain ⟨ρ, α, S, d, rs, re, r1, p⟩ := q v rd
    obtain ⟨k, e, k2⟩ := (show Pst _ _ _ _ (M.opt (fun S => Ln.truth S d) S) _ from p.bind).opt rs
    exact ⟨k, truth_at rs r1 e, k2.2.ret rs _ (.bl _)⟩
theorem je_cmp (o : Ln.Cop) (hu : X.A.units + 65 < cLine) (ha : JE X E a (Ln.ev cf ia)) (hb : JE X E b (Ln.ev cf ib)) (hm : behindInMarks (copOf o) b = false) : JE X E (.Compare a [copOf o] [b] pos) (Ln.ev cf (.cmp o ia ib)) :=
  pe_w (pe_cmpR (op_cop o hu) ha hb hm) fun σ H Q h => by
    obtain ⟨ρ, α, S, rs, re, p⟩ := seq2 (f := fun ρ x y => M.bind (M.opt (Ln.cop o x y)) fun k => M.ret (.bl k)) h
    refine ⟨ρ, α, S, rs, re, p.mono fun d S1 H1 α1 _ q v rd => ?_⟩
    obtain ⟨ρ, α, S, rs, re, p⟩ := q v rd
    refine ⟨ρ, α, S, rs, re, p.mono fun d S1 H1 α1 _ q v rd => ?_⟩
    obtain ⟨ρ, α, S, dx, dy, rs, re, r1, r2, p⟩ := q v rd
    obtain ⟨k, e, k2⟩ := p.bind.opt rs
    exact ⟨α, S, dx, dy, k, rs, r1, r2, e, k2.2.ret rs _ (.bl _)⟩
theorem je_chain (o o' : Ln.Cop) (hu : X.A.units + 65 < cLine) (ha : JE X E a (Ln.ev cf ia)) (hb : JE X E b (Ln.ev cf ib)) (hc : JE X E c (Ln.ev cf ic)) (hm : lastMarks [copOf o, copOf o'] [b, c] = false) :
    JE X E (.Compare a [copOf o, copOf o'] [b, c] pos) (Ln.ev cf (.chain o o' ia ib ic)) :=
  pe_w (pe_chain (op_cop o hu) (op_cop o' hu) ha hb hc hm) fun σ H Q h => by
    obtain ⟨ρ, α, S, rs, re, p⟩ := seq2 (f := fun ρ x y => M.bind (M.opt (Ln.cop o x y)) fun k => if k then M.bind (Ln.ev cf ic ρ) fun z => M.bind (M.opt (Ln.cop o' y z)) fun k => M.ret (.bl k) else M.ret (.bl false)) h
    refine ⟨ρ, α, S, rs, re, p.mono fun d S1 H1 α1 _ q v rd => ?_⟩
    obtain ⟨ρ, α, S, rs, re, p⟩ := q v rd
    refine ⟨ρ, α, S, rs, re, p.mono fun d S1 H1 α1 _ q y rd => ?_⟩
    obtain ⟨ρ, α, S, dx, dy, rs, re, r1, r2, p⟩ := q y rd
    obtain ⟨k, e, k2⟩ := p.bind.opt rs
    refine ⟨α, S, dx, dy, k, rs, r1, r2, e, k, rfl, ?_⟩
    replace k2 := k2.2
    split
    · rename_i hk
      rw [if_pos hk] at k2
      refine ⟨ρ, α, S, rs, re, k2.bind.mono fun d S1 H1 α1 _ q z rd => ?_⟩
      obtain ⟨k', e', k3⟩ := q.2.bind.opt q.1.rs
      exact ⟨α1, S1, dy, d, k', q.1.rs, q.1.rd r2, rd, e', k3.2.ret q.1.rs _ (.bl _)⟩
    · rename_i hk
      rw [if_neg hk] at k2
      exact k2.ret rs _ (.bl _)
theorem je_one {op : BoolOp} {m : Rho → M D} (h : JE X E a m) : JE X E (.BoolOp op [a] pos) m := pe_one h
theorem je_and {r : List Expr} (ha : JE X E a (Ln.ev cf ia)) (hb : JE X E (.BoolOp .And (b :: r) pos) (Ln.ev cf ib)) : JE X E (.BoolOp .And (a :: b :: r) pos) (Ln.ev cf (.and ia ib)) :=
  pe_w (pe_and ha hb) fun σ H Q h => by
    obtain ⟨ρ, α, S, rs, re, p⟩ := seq1 (f := fun ρ => Ln.andK (Ln.ev cf ib ρ)) h
    refine ⟨ρ, α, S, rs, re, p.mono fun d S1 H1 α1 _ q v rd => ?_⟩
    obtain ⟨ρ, α, S, d, rs, re, r1, p⟩ := q v rd
    unfold Ln.andK at p
    split at p
    · cases r1; exact ⟨true, rfl, iteT ⟨ρ, α, S, rs, re, p⟩⟩
    · cases r1; exact ⟨false, rfl, iteF (p.ret rs _ (.bl _))⟩
    · exact p.elim
theorem je_or {r : List Expr} (ha : JE X E a (Ln.ev cf ia)) (hb : JE X E (.BoolOp .Or (b :: r) pos) (Ln.ev cf ib)) : JE X E (.BoolOp .Or (a :: b :: r) pos) (Ln.ev cf (.or ia ib)) :=
  pe_w (pe_or ha hb) fun σ H Q h => by
    obtain ⟨ρ, α, S, rs, re, p⟩ := seq1 (f := fun ρ => Ln.orK (Ln.ev cf ib ρ)) h
    refine ⟨ρ, α, S, rs, re, p.mono fun d S1 H1 α1 _ q v rd => ?_⟩
    obtain ⟨ρ, α, S, d, rs, re, r1, p⟩ := q v rd
    unfold Ln.orK at p
    split at p
    · cases r1; exact ⟨true, rfl, iteT (p.ret rs _ (.bl _))⟩
    · cases r1; exact ⟨false, rfl, iteF ⟨ρ, α, S, rs, re, p⟩⟩
    · exact p.elim

/-! ### tests -/
theorem jt_truth (ha : JE X E a (Ln.ev cf ia)) (he : ∀ whole, isTrue a X.env whole = (do let v ← whole; standAt a.pos; holding [v] (truthy v))) : JT X E a (Ln.evT cf ia) :=
  pt_w (pt_truth ha he) fun σ H Q ⟨ρ, α, S, rs, re, p⟩ => by
    refine ⟨ρ, α, S, rs, re, p.bind.mono fun d S1 H1 α1 _ q v rd => ?_⟩
    obtain ⟨k, e, k2⟩ := (show Pst _ _ _ _ (M.opt (fun S => Ln.truth S d) S1) _ from q.2).opt q.1.rs
    exact ⟨k, truth_at q.1.rs rd e, k2⟩
theorem jt_cmp (o : Ln.Cop) (hu : X.A.units + 65 < cLine) (ha : JE X E a (Ln.ev cf ia)) (hb : JE X E b (Ln.ev cf ib)) (hm : behindInMarks (copOf o) b = false) : JT X E (.Compare a [copOf o] [b] pos) (Ln.evT cf (.cmp o ia ib)) :=
  pt_w (pt_cmpR (op_cop o hu) ha hb hm) fun σ H Q ⟨ρ, α, S, rs, re, p⟩ => by
    simp only [Ln.evT, Ln.ev] at p
    refine ⟨ρ, α, S, rs, re, p.bind.bind.mono fun d S1 H1 α1 _ q v rd => ?_⟩
    refine ⟨ρ, α1, S1, q.1.rs, q.1.re re, q.2.bind.mono fun d' S2 H2 α2 _ q2 v2 rd2 => ?_⟩
    obtain ⟨k, e, k2⟩ := q2.2.bind.opt q2.1.rs
    refine ⟨α2, S2, d, d', k, q2.1.rs, q2.1.rd rd, rd2, e, k, rfl, ?_⟩
    have k3 := k2.2.ret k2.1.rs
    obtain ⟨k', e', k4⟩ := (show Pst _ _ _ _ (M.opt (fun S => Ln.truth S (.bl k)) S2) _ from k3.2).opt q2.1.rs
    cases e'
    exact k4
theorem jt_chain (o o' : Ln.Cop) (hu : X.A.units + 65 < cLine) (ha : JE X E a (Ln.ev cf ia)) (hb : JE X E b (Ln.ev cf ib)) (hc : JE X E c (Ln.ev cf ic)) (hm : lastMarks [copOf o, copOf o'] [b, c] = false) :
    JT X E (.Compare a [copOf o, copOf o'] [b, c] pos) (Ln.evT cf (.chain o o' ia ib ic)) :=
  pt_w (pt_chain (op_cop o hu) (op_cop o' hu) ha hb hc hm) fun σ H Q ⟨ρ, α, S, rs, re, p⟩ => by
    simp only [Ln.evT, Ln.ev] at p
    refine ⟨ρ, α, S, rs, re, p.bind.bind.mono fun d S1 H1 α1 _ q v rd => ?_⟩
    refine ⟨ρ, α1, S1, q.1.rs, q.1.re re, q.2.bind.mono fun d' S2 H2 α2 _ q2 v2 rd2 => ?_⟩
    obtain ⟨k, e, k2⟩ := q2.2.bind.opt q2.1.rs
    refine ⟨α2, S2, d, d', k, q2.1.rs, q2.1.rd rd, rd2, e, k, rfl, ?_⟩
    replace k2 := k2.2
    split
    · rename_i hk
      rw [if_pos hk] at k2
      refine ⟨ρ, α2, S2, q2.1.rs, q2.1.re (q.1.re re), k2.bind.mono fun d3 S3 H3 α3 _ q3 z rd3 => ?_⟩
      obtain ⟨k', e', k3⟩ := q3.2.bind.opt q3.1.rs
      refine ⟨α3, S3, d', d3, k', q3.1.rs, q3.1.rd rd2, rd3, e', k', rfl, ?_⟩
      have k4 := k3.2.ret k3.1.rs
      obtain ⟨k5, e5, k6⟩ := (show Pst _ _ _ _ (M.opt (fun S => Ln.truth S (.bl k')) S3) _ from k4.2).opt q3.1.rs
      cases e5
      exact k6
    · rename_i hk
      rw [if_neg hk] at k2
      refine ⟨false, rfl, ?_⟩
      have k4 := k2.ret q2.1.rs
      obtain ⟨k5, e5, k6⟩ := (show Pst _ _ _ _ (M.opt (fun S => Ln.truth S (.bl false)) S2) _ from k4.2).opt q2.1.rs
      cases e5
      exact k6
theorem evT_bl {b : Bool} {S : Store} {C : Bool → Store → Hp → Al → Prop} {K : Frag} {H : Hp} {α : Al} (rs : RS K H α S) (p : Pst K E H α (Ln.truthM (.bl b) S) C) : C b S H α := by
  obtain ⟨k, e, k2⟩ := (show Pst _ _ _ _ (M.opt (fun S => Ln.truth S (.bl b)) S) _ from p).opt rs
  cases e
  exact k2
/-- and, or as tests: both sides tests -/
abbrev JW (X : Cx) (E : XS) (e : Expr) (m : Rho → M Bool) : Prop := PW X e (TTI X.K E m)
theorem pw_w {X : Cx} {e : Expr} {t t' : TT} (h : PW X e t) (k : ∀ σ H Q, t' σ H Q → t σ H Q) : PW X e t' := ⟨fun w pins s σ H Q I q => h.run w pins s σ H Q I (k _ _ _ q)⟩
theorem jw_and1 (ha : JT X E a (Ln.evT cf ia)) : JW X E (.BoolOp .And [a] pos) (Ln.evT cf ia) := pw_and1 ha
theorem jw_or1 (ha : JT X E a (Ln.evT cf ia)) : JW X E (.BoolOp .Or [a] pos) (Ln.evT cf ia) := pw_or1 ha
theorem bind_ok {β γ : Type} {m : M β} {f : β → M γ} {S S1 : Store} {b : β} (h : m S = .ok b S1) : M.bind m f S = f b S1 := by unfold M.bind; rw [h]
theorem bind_exc {β γ : Type} {m : M β} {f : β → M γ} {S S1 : Store} {x : Ex} (h : m S = .exc x S1) : M.bind m f S = .exc x S1 := by unfold M.bind; rw [h]
theorem bind_err {β γ : Type} {m : M β} {f : β → M γ} {S : Store} (h : m S = .err) : M.bind m f S = .err := by unfold M.bind; rw [h]
theorem bind_assoc {β γ δ : Type} {m : M β} {f : β → M γ} {g : γ → M δ} {S : Store} : M.bind (M.bind m f) g S = M.bind m (fun x => M.bind (f x) g) S := by
  unfold M.bind
  cases m S <;> rfl
theorem and_split {ρ : Rho} {S : Store} {C : Bool → Store → Hp → Al → Prop} {K : Frag} {H : Hp} {α : Al} (p : Pst K E H α (Ln.evT cf (.and ia ib) ρ S) C) :
    Pst K E H α (Ln.evT cf ia ρ S) fun k S1 H1 α1 => if k = true then Pst K E H1 α1 (Ln.evT cf ib ρ S1) C else C false S1 H1 α1 := by
  unfold Ln.evT at p ⊢
  simp only [Ln.ev] at p
  cases e : Ln.ev cf ia ρ S with
  | err => rw [bind_err (bind_err e)] at p; exact p.elim
  | exc x S1 => rw [bind_exc (bind_exc e)] at p; rw [bind_exc e]; exact p
  | ok d S1 =>
    rw [bind_ok e, bind_assoc, bind_ok e] at *
    match d, p with
    | .bl true, p => exact fun H1 α1 a => iteT (Pst.move (show Pst K E H α (M.bind (Ln.ev cf ib ρ) Ln.truthM S1) C from p) a)
    | .bl false, p => exact fun H1 α1 a => iteF ((show Pst K E H α (.ok false S1) C from p) H1 α1 a)
    | .non, p => exact p.elim
    | .int _, p => exact p.elim
    | .str _, p => exact p.elim
    | .tup _, p => exact p.elim
    | .lst _, p => exact p.elim
    | .frz _, p => exact p.elim
    | .dct _ _, p => exact p.elim
    | .ref _, p => exact p.elim
theorem or_split {ρ : Rho} {S : Store} {C : Bool → Store → Hp → Al → Prop} {K : Frag} {H : Hp} {α : Al} (p : Pst K E H α (Ln.evT cf (.or ia ib) ρ S) C) :
    Pst K E H α (Ln.evT cf ia ρ S) fun k S1 H1 α1 => if k = true then C true S1 H1 α1 else Pst K E H1 α1 (Ln.evT cf ib ρ S1) C := by
  unfold Ln.evT at p ⊢
  simp only [Ln.ev] at p
  cases e : Ln.ev cf ia ρ S with
  | err => rw [bind_err (bind_err e)] at p; exact p.elim
  | exc x S1 => rw [bind_exc (bind_exc e)] at p; rw [bind_exc e]; exact p
  | ok d S1 =>
    rw [bind_ok e, bind_assoc, bind_ok e] at *
    match d, p with
    | .bl true, p => exact fun H1 α1 a => iteT ((show Pst K E H α (.ok true S1) C from p) H1 α1 a)
    | .bl false, p => exact fun H1 α1 a => iteF (Pst.move (show Pst K E H α (M.bind (Ln.ev cf ib ρ) Ln.truthM S1) C from p) a)
    | .non, p => exact p.elim
    | .int _, p => exact p.elim
    | .str _, p => exact p.elim
    | .tup _, p => exact p.elim
    | .lst _, p => exact p.elim
    | .frz _, p => exact p.elim
    | .dct _ _, p => exact p.elim
    | .ref _, p => exact p.elim
theorem jw_and {r : List Expr} (ha : JT X E a (Ln.evT cf ia)) (hb : JW X E (.BoolOp .And (b :: r) pos) (Ln.evT cf ib)) : JW X E (.BoolOp .And (a :: b :: r) pos) (Ln.evT cf (.and ia ib)) :=
  pw_w (pw_and ha hb) fun σ H Q ⟨ρ, α, S, rs, re, p⟩ =>
    ⟨ρ, α, S, rs, re, (and_split p).mono fun k S1 H1 α1 a q => by
      cases k with
      | true => exact iteT ⟨ρ, α1, S1, a.rs, a.re re, q⟩
      | false => exact iteF q⟩
theorem jw_or {r : List Expr} (ha : JT X E a (Ln.evT cf ia)) (hb : JW X E (.BoolOp .Or (b :: r) pos) (Ln.evT cf ib)) : JW X E (.BoolOp .Or (a :: b :: r) pos) (Ln.evT cf (.or ia ib)) :=
  pw_w (pw_or ha hb) fun σ H Q ⟨ρ, α, S, rs, re, p⟩ =>
    ⟨ρ, α, S, rs, re, (or_split p).mono fun k S1 H1 α1 a q => by
      cases k with
      | true => exact iteT q
      | false => exact iteF ⟨ρ, α1, S1, a.rs, a.re re, q⟩⟩
theorem jt_w {e : Expr} {m : Rho → M Bool} (h : JW X E e m) : JT X E e m := PW.pt h
theorem jt_not (ha : JT X E a (Ln.evT cf ia)) : JT X E (.UnaryOp .Not a pos) (Ln.evT cf (.not ia)) :=
  pt_w (pt_not ha) fun σ H Q ⟨ρ, α, S, rs, re, p⟩ => by
    refine ⟨ρ, α, S, rs, re, ?_⟩
    unfold Ln.evT at p ⊢
    simp only [Ln.ev] at p
    cases e : Ln.ev cf ia ρ S with
    | err => rw [bind_err (bind_err e)] at p; exact p.elim
    | exc x S1 => rw [bind_exc (bind_exc e)] at p; rw [bind_exc e]; exact p
    | ok d S1 =>
      rw [bind_assoc, bind_ok e] at p
      rw [bind_ok e]
      cases e2 : Ln.truthM d S1 with
      | err => rw [bind_err (bind_err e2)] at p; exact p.elim
      | exc x S2 => rw [bind_exc (bind_exc e2)] at p; exact p
      | ok k S2 => rw [bind_assoc, bind_ok e2] at p; exact p

theorem je_ite (hc : JT X E c (Ln.evT cf ic)) (ha : JE X E a (Ln.ev cf ia)) (hb : JE X E b (Ln.ev cf ib)) : JE X E (.IfExp c a b pos) (Ln.ev cf (.ite ic ia ib)) :=
  pe_w (pe_ifExp hc ha hb) fun σ H Q ⟨ρ, α, S, rs, re, p⟩ => by
    refine ⟨ρ, α, S, rs, re, ?_⟩
    simp only [Ln.ev] at p
    unfold Ln.evT
    cases e : Ln.ev cf ic ρ S with
    | err => rw [bind_err e] at p; exact p.elim
    | exc x S1 => rw [bind_exc e] at p; rw [bind_exc e]; exact p
    | ok d S1 =>
      rw [bind_ok e] at p ⊢
      cases e2 : Ln.truthM d S1 with
      | err => rw [bind_err e2] at p; exact p.elim
      | exc x S2 => rw [bind_exc e2] at p; exact p
      | ok k S2 =>
        rw [bind_ok e2] at p
        intro H1 α1 af
        cases k with
        | true => exact iteT ⟨ρ, α1, S2, af.rs, af.re re, p.move af⟩
        | false => exact iteF ⟨ρ, α1, S2, af.rs, af.re re, p.move af⟩

/-! ### arguments, displays -/
variable {es : List Expr} {ies : Ln.Es}
theorem ja_nil : JA X E [] (Ln.evs cf .nil) := pa_w pa_nil fun σ H Q ⟨ρ, α, S, rs, re, p⟩ => by
  simp only [Ln.evs] at p
  exact p.ret rs _ .nil
theorem ja_cons (ha : JE X E a (Ln.ev cf ia)) (hr : JA X E es (Ln.evs cf ies)) (hs : starEach (a :: es) X.env = (false, eval a X.env) :: starEach es X.env := by rfl) : JA X E (a :: es) (Ln.evs cf (.cons ia ies)) :=
  pa_w (pa_cons ha hr hs) fun σ H Q ⟨ρ, α, S, rs, re, p⟩ => by
    simp only [Ln.evs] at p
    refine ⟨ρ, α, S, rs, re, p.bind.mono fun d S1 H1 α1 _ q v rd => ?_⟩
    refine ⟨ρ, α1, S1, q.1.rs, q.1.re re, q.2.bind.mono fun ds S2 H2 α2 _ q2 vs rds => ?_⟩
    exact q2.2.ret q2.1.rs _ (.cons (q2.1.rd rd) rds)
def esLen : Ln.Es → Nat
  | .nil => 0
  | .cons _ es => esLen es + 1
  | .star _ _ => 10000
theorem evs_len : ∀ {ies : Ln.Es} {ρ : Rho} {S S' : Store} {xs : List D}, esLen ies ≤ 1000 → Ln.evs cf ies ρ S = .ok xs S' → xs.length = esLen ies
  | .star _ _, _, _, _, _, h, _ => absurd h (by simp [esLen])
  | .nil, _, _, _, _, _, e => by simp only [Ln.evs, M.ret] at e; cases e; rfl
  | .cons e1 es, ρ, S, S', xs, hn, e => by
    simp only [Ln.evs] at e
    cases h : Ln.ev cf e1 ρ S with
    | err => rw [bind_err h] at e; cases e
    | exc x S1 => rw [bind_exc h] at e; cases e
    | ok d S1 =>
      rw [bind_ok h] at e
      cases h2 : Ln.evs cf es ρ S1 with
      | err => rw [bind_err h2] at e; cases e
      | exc x S2 => rw [bind_exc h2] at e; cases e
      | ok ds S2 =>
        rw [bind_ok h2] at e
        simp only [M.ret] at e
        cases e
        rw [List.length_cons, evs_len (by simp only [esLen] at hn; omega) h2]; rfl
theorem Pst.bindE {β γ : Type} {K : Frag} {H : Hp} {α : Al} {S : Store} {m : M β} {f : β → M γ} {C : γ → Store → Hp → Al → Prop} (h : Pst K E H α (M.bind m f S) C) :
    Pst K E H α (m S) fun b S1 H1 α1 => m S = .ok b S1 ∧ After K α H α1 H1 S1 ∧ Pst K E H1 α1 (f b S1) C := by
  have p := h.bind
  cases e : m S with
  | ok b S1 => rw [e] at p; exact fun H1 α1 a => ⟨rfl, p H1 α1 a⟩
  | exc x S1 => rw [e] at p; exact p
  | err => rw [e] at p; exact p
theorem je_tup {x1} (h : JA X E es (Ln.evs cf ies)) (hn : esLen ies ≤ 1000 := by decide) : JE X E (.Tuple es x1 pos) (Ln.ev cf (.tup ies)) :=
  pe_w (pe_tupZ h) fun σ H Q ⟨ρ, α, S, rs, re, p⟩ => by
    simp only [Ln.ev] at p
    refine ⟨ρ, α, S, rs, re, p.bindE.mono fun ds S1 H1 α1 _ q vs rds => ⟨?_, fun pp o ho hp => ?_⟩⟩
    · rw [← rds.length, evs_len hn q.1]; exact Nat.le_trans hn (by decide)
    · obtain ⟨af, rd⟩ := new_tup q.2.1.rs ho hp rds
      exact q.2.2.retN af _ rd
theorem je_lst (h : JA X E es (Ln.evs cf ies)) (hn : esLen ies ≤ 1000 := by decide) : JE X E (.List es pos) (Ln.ev cf (.lst ies)) :=
  pe_w (pe_lst h) fun σ H Q ⟨ρ, α, S, rs, re, p⟩ => by
    simp only [Ln.ev] at p
    refine ⟨ρ, α, S, rs, re, p.bindE.mono fun ds S1 H1 α1 _ q vs rds => ⟨?_, fun pp hp => ?_⟩⟩
    · rw [← rds.length, evs_len hn q.1]; exact Nat.le_trans hn (by decide)
    · obtain ⟨af, rd⟩ := new_lst q.2.1.rs hp rds
      exact q.2.2.retN af _ rd
theorem je_lstM (h : JA X E es (Ln.evs cf ies)) (hn : esLen ies ≤ 1000 := by decide) : JE X E (.List es pos) (Ln.ev cf (.lstM ies)) :=
  pe_w (pe_lst h) fun σ H Q ⟨ρ, α, S, rs, re, p⟩ => by
    simp only [Ln.ev] at p
    refine ⟨ρ, α, S, rs, re, p.bindE.mono fun ds S1 H1 α1 _ q vs rds => ⟨?_, fun pp hp => ?_⟩⟩
    · rw [← rds.length, evs_len hn q.1]; exact Nat.le_trans hn (by decide)
    · obtain ⟨af, rd⟩ := q.2.1.rs |> fun r => After.alloc r hp rds
      exact (show ∀ H' α', After X.K α1 H1 α' H' (S1 ++ [.lst ds]) → _ from q.2.2) _ _ af _ rd
theorem ja_star {sp : Pos} (ha : JE X E a (Ln.ev cf ia)) (hr : JA X E es (Ln.evs cf ies)) (hs : starEach (.Starred a sp :: es) X.env = (true, eval a X.env) :: starEach es X.env := by rfl) : JA X E (.Starred a sp :: es) (Ln.evs cf (.star ia ies)) :=
  pa_w (StX.pa_star ha hr hs) fun σ H Q ⟨ρ, α, S, rs, re, p⟩ => by
    simp only [Ln.evs] at p
    refine ⟨ρ, α, S, rs, re, p.bind.mono fun d S1 H1 α1 _ q v rd => ?_⟩
    have items : ∀ {ys : List D} {vs : List V}, Pst X.K E H1 α1 (M.bind (M.ret ys) (fun ys => M.bind (Ln.evs cf ies ρ) fun xs => M.ret (ys ++ xs)) S1) (fun ds _ H' α' => ∀ vs, RDs X.K H' α' ds vs → Q vs H') → RDs X.K H1 α1 ys vs →
        TAI X.K E (Ln.evs cf ies) σ H1 fun zs H2 => Q (vs ++ zs) H2 := fun {ys vs} p rds =>
      ⟨ρ, α1, S1, q.1.rs, q.1.re re, (show Pst X.K E H1 α1 (M.bind (Ln.evs cf ies ρ) (fun xs => M.ret (ys ++ xs)) S1) _ from p).bind.mono fun ds S2 H2 α2 _ q2 zs rz => q2.2.ret q2.1.rs _ ((q2.1.rds rds).append rz)⟩
    have p1 := q.2
    unfold Ln.starK at p1
    split at p1
    · cases rd with
      | tup h rds => exact ⟨_, _, rfl, .inl h.sq, items p1 rds⟩
    · cases rd with
      | lst n h rds => exact ⟨_, _, rfl, .inr (SqL.of h), items p1 rds⟩
    · exact p1.elim
theorem je_lstS (h : JA X E es (Ln.evs cf ies)) : JE X E (.List es pos) (Ln.ev cf (.lstS ies)) :=
  pe_w (pe_lst h) fun σ H Q ⟨ρ, α, S, rs, re, p⟩ => by
    simp only [Ln.ev] at p
    refine ⟨ρ, α, S, rs, re, p.bind.mono fun ds S1 H1 α1 _ q vs rds => ?_⟩
    have p1 := q.2
    split at p1
    · rename_i hl
      refine ⟨by rw [← rds.length]; exact hl, fun pp hp => ?_⟩
      obtain ⟨af, rd⟩ := new_lst q.1.rs hp rds
      exact p1.retN af _ rd
    · exact p1.elim
theorem je_dct0 : JE X E (.Dict [] [] pos) (Ln.ev cf (.dct .nil .nil)) :=
  pe_w pe_dnewK fun σ H Q ⟨ρ, α, S, rs, re, p⟩ p' hp => by
    simp only [Ln.ev, Ln.evs] at p
    have a := After.new (o := .dK []) rs hp
    refine (show Pst X.K E H α (M.ret (D.dct [] []) S) _ from p).retN a _ (.dct (fun z => ?_) upd_same .nil .nil)
    obtain ⟨o, e, _⟩ := rs.mut z
    rw [hp] at e; cases e

/-! ### freezing; a new list of the store -/
theorem fz_has {α : Al} {a : Addr} (dis : a ∈ α.h → a ∉ α.x) (h : a ∈ α.h) (z : a ∈ α.z) : ¬ α.has a := fun q => q.elim (fun q => q.2 z) fun q => dis h q
theorem fz_at {K : Frag} {H : Hp} {α : Al} {S : Store} {E : XS} {d : D} {v : V} {C : D → Store → Hp → Al → Prop} (rs : RS K H α S) (r : RD K H α d v) (p : Pst K E H α (Ln.fzK d S) C) : ∃ S' α' d', After K α H α' H S' ∧ RD K H α' d' v ∧ C d' S' H α' := by
  cases r with
  | @ref n a h =>
    unfold Ln.fzK at p
    have ha : a ∈ α.h := List.mem_of_getElem? h
    simp only [] at p
    cases eS : S[n]? with
    | none => rw [eS] at p; exact p.elim
    | some o =>
      rw [eS] at p
      have ro := rs.at_ _ _ _ h eS
      have hf := rs.fz _ _ _ h eS
      cases o with
      | lst xs =>
        obtain ⟨vs, h1, h2⟩ := ro
        have af := After.freeze (o' := .fzl xs) rs h eS rfl ⟨vs, h1, h2⟩ fun α' g ⟨ws, e1, e2⟩ => ⟨ws, e1, e2.mono g .refl⟩
        exact ⟨_, _, _, af, .lst (fz_has (af.rs.dis a) ha List.mem_cons_self) h1 (af.rds h2), p _ _ af⟩
      | dct ks ws =>
        obtain ⟨kvs, h1, h2, h3⟩ := ro
        have af := After.freeze (o' := .fzd ks ws) rs h eS rfl ⟨kvs, h1, h2, h3⟩ fun α' g ⟨us, e1, e2, e3⟩ => ⟨us, e1, e2.mono g .refl, e3.mono g .refl⟩
        exact ⟨_, _, _, af, .dct (fz_has (af.rs.dis a) ha List.mem_cons_self) h1 (af.rds h2) (af.rds h3), p _ _ af⟩
      | fzl xs =>
        obtain ⟨vs, h1, h2⟩ := ro
        exact ⟨_, _, _, .refl rs, .lst (fz_has (rs.dis a) ha (hf.mpr rfl)) h1 h2, p _ _ (.refl rs)⟩
      | fzd ks ws =>
        obtain ⟨kvs, h1, h2, h3⟩ := ro
        exact ⟨_, _, _, .refl rs, .dct (fz_has (rs.dis a) ha (hf.mpr rfl)) h1 h2 h3, p _ _ (.refl rs)⟩
  | _ => exact ⟨_, _, _, .refl rs, by constructor <;> assumption, p.ret rs⟩
theorem je_fz (ha : JE X E a (Ln.ev cf ia)) : JE X E a (Ln.ev cf (.fz ia)) := pe_w ha fun σ H Q ⟨ρ, α, S, rs, re, p⟩ => by
  simp only [Ln.ev] at p
  refine ⟨ρ, α, S, rs, re, p.bind.mono fun d S1 H1 α1 _ q v rd => ?_⟩
  obtain ⟨S', α', d', af, rd', k⟩ := fz_at q.1.rs rd q.2
  exact k v rd'
theorem je_repM (ha : JE X E a (Ln.ev cf ia)) (hb : JE X E b (Ln.ev cf ib)) : JE X E (.BinOp a .Mult b pos) (Ln.ev cf (.repM ia ib)) :=
  pe_w (pe_op op_repM ha hb) fun σ H Q h => by
    obtain ⟨ρ, α, S, rs, re, p⟩ := seq2 (f := fun ρ x y => Ln.repK x y) h
    refine ⟨ρ, α, S, rs, re, p.mono fun d S1 H1 α1 _ q v rd => ?_⟩
    obtain ⟨ρ, α, S, rs, re, p⟩ := q v rd
    refine ⟨ρ, α, S, rs, re, p.mono fun d S1 H1 α1 _ q v rd => ?_⟩
    obtain ⟨ρ, α, S, dx, dy, rs, re, r1, r2, p⟩ := q v rd
    unfold Ln.repK at p
    cases e1 : Ln.lstOf S dx with
    | none => rw [e1] at p; exact p.elim
    | some xs =>
      rw [e1] at p
      cases dy with
      | int k =>
        simp only [] at p
        split at p
        · rename_i hc
          rw [Bool.and_eq_true, decide_eq_true_eq] at hc
          exact ⟨α, S, dx, _, rs, r1, r2, xs, k, e1, rfl, hc.1, hc.2, fun v H' α' a r => (show ∀ H' α', After X.K α _ α' H' (S ++ [.lst (List.replicate k.toNat xs).flatten]) → ∀ v, RD X.K H' α' (.ref S.length) v → Q v H' from p) H' α' a v r⟩
        · exact p.elim
      | _ => exact p.elim
/-! ### subscripts -/
theorem je_idx (hu : X.A.units + 65 < cLine) (ha : JE X E a (Ln.ev cf ia)) (hb : JE X E b (Ln.ev cf ib)) (hs : PlainIx b) : JE X E (.Subscript a b pos) (Ln.ev cf (.idx ia ib)) :=
  pe_w (pe_ix (ix_d hu) ha hb hs) fun σ H Q h => by
    obtain ⟨ρ, α, S, rs, re, p⟩ := seq2 (f := fun ρ x k => M.opt fun S => Ln.idxD S x k) h
    refine ⟨ρ, α, S, rs, re, p.mono fun d S1 H1 α1 _ q v rd => ?_⟩
    obtain ⟨ρ, α, S, rs, re, p⟩ := q v rd
    refine ⟨ρ, α, S, rs, re, p.mono fun d S1 H1 α1 _ q v rd => ?_⟩
    obtain ⟨ρ, α, S, dx, dy, rs, re, r1, r2, p⟩ := q v rd
    obtain ⟨d, e, k⟩ := p.optN
    exact ⟨α, S, dx, dy, d, rs, r1, r2, e, fun v H' α' a r => k H' α' a v r⟩
def TOI (K : Frag) (E : XS) (m : Rho → M (Option Int)) : TO := fun σ H Q => ∃ ρ α S, RS K H α S ∧ RE K H α ρ σ ∧ Pst K E H α (m ρ S) fun o _ H' _ => Q o H'
abbrev JO (X : Cx) (E : XS) (e : Option Expr) (m : Rho → M (Option Int)) : Prop := PO X e (TOI X.K E m)
theorem po_w {X : Cx} {e : Option Expr} {t t' : TO} (h : PO X e t) (k : ∀ σ H Q, t' σ H Q → t σ H Q) : PO X e t' := ⟨fun pins s σ H Q I q => h.run pins s σ H Q I (k _ _ _ q)⟩
theorem jo_no : JO X E none (Ln.evo cf .no) := po_w po_none fun σ H Q ⟨ρ, α, S, rs, re, p⟩ => by
  simp only [Ln.evo] at p
  exact p.ret rs
theorem jo_so (ha : JE X E a (Ln.ev cf ia)) : JO X E (some a) (Ln.evo cf (.so ia)) := po_w (po_some ha) fun σ H Q ⟨ρ, α, S, rs, re, p⟩ => by
  simp only [Ln.evo] at p
  refine ⟨ρ, α, S, rs, re, p.bind.mono fun d S1 H1 α1 _ q v rd => ?_⟩
  have p1 := q.2
  unfold Ln.intK at p1
  split at p1
  · cases rd; exact ⟨_, rfl, p1.ret q.1.rs⟩
  · exact p1.elim
theorem je_slc {lo hi : Option Expr} {ilo ihi : Ln.Eo} {p2 : Pos} (ha : JE X E a (Ln.ev cf ia)) (hl : JO X E lo (Ln.evo cf ilo)) (hh : JO X E hi (Ln.evo cf ihi)) : JE X E (.Subscript a (.Slice lo hi none p2) pos) (Ln.ev cf (.slc ia ilo ihi)) :=
  pe_w (pe_slice sl_d ha hl hh) fun σ H Q ⟨ρ, α, S, rs, re, p⟩ => by
    simp only [Ln.ev] at p
    refine ⟨ρ, α, S, rs, re, p.bind.mono fun d S1 H1 α1 _ q v rd => ?_⟩
    refine ⟨ρ, α1, S1, q.1.rs, q.1.re re, q.2.bind.mono fun l S2 H2 α2 _ q2 => ?_⟩
    refine ⟨ρ, α2, S2, q2.1.rs, q2.1.re (q.1.re re), q2.2.bind.mono fun h S3 H3 α3 _ q3 => ?_⟩
    obtain ⟨d', e, k⟩ := q3.2.optN
    exact ⟨α3, S3, d, d', q3.1.rs, q3.1.rd (q2.1.rd rd), e, fun v H' α' a r => k H' α' a v r⟩
theorem je_rev {k : Nat} {p1 p2 p3 : Pos} (ha : JE X E a (Ln.ev cf ia)) : JE X E (.Subscript a (.Slice none none (some (.UnaryOp .USub (.Constant (.int 1) k p1) p2)) p3) pos) (Ln.ev cf (.rev ia)) :=
  pe_w (pe_rev ha) fun σ H Q ⟨ρ, α, S, rs, re, p⟩ => by
    simp only [Ln.ev] at p
    refine ⟨ρ, α, S, rs, re, p.bind.mono fun d S1 H1 α1 _ q v rd => ?_⟩
    obtain ⟨d', e, k⟩ := q.2.optN
    exact ⟨α1, S1, d, d', q.1.rs, rd, e, fun v H' α' a r => k H' α' a v r⟩

/-! ### isinstance -/
def tyName : Ln.Ty → String
  | .int => "int"
  | .bool => "bool"
  | .str => "str"
  | .tuple => "tuple"
  | .list => "list"
  | .dict => "dict"
theorem kit_all (K : Frag) (u t : Ln.Ty) : PySem.W.kitOne K (.type (tyName u)) (.type (tyName t)) = some (decide (u = t) || (decide (u = .bool) && decide (t = .int))) := by
  cases u <;> cases t <;> exact kit_ty (by decide +kernel)
theorem kit_none (K : Frag) (t : Ln.Ty) : PySem.W.kitOne K (.type "NoneType") (.type (tyName t)) = some false := by
  cases t <;> exact kit_ty (by decide +kernel)
theorem ty_at {K : Frag} {H : Hp} {α : Al} {S : Store} (rs : RS K H α S) {d : D} {x : V} {t : Ln.Ty} (r : RD K H α d x) (e : Ln.tyOf S d = some t) : TyX K H x (.type (tyName t)) := by
  cases r with
  | non => cases e
  | bl b => cases e; exact .base (.bl _)
  | int i => cases e; exact .base (.int _)
  | str z => cases e; exact .base (.str _)
  | tup h q =>
    cases e
    rcases h with ⟨o, _, h⟩ | ⟨o, its, n, _, h, hc, _⟩
    · exact .fTuple h
    · exact .kTuple h hc
  | wtp h q => cases e
  | lst n h q => cases e; exact .base (.lst h)
  | frz h q =>
    cases e
    rcases h with ⟨_, h | ⟨o, h⟩⟩ | ⟨o, its, n, h, hc, _⟩
    · exact .base (.lst h)
    · exact .base (.frz h)
    · exact .kList h hc
  | dct n h q1 q2 => cases e; exact .base (.dK h)
  | ref h =>
    simp only [Ln.tyOf] at e
    split at e
    · rename_i xs hS
      cases e
      obtain ⟨vs, h1, h2⟩ := rs.at_ _ _ _ h hS
      exact .base (.lst h1)
    · rename_i ks vs hS
      cases e
      obtain ⟨vs, h1, h2⟩ := rs.at_ _ _ _ h hS
      exact .base (.dK h1)
    · cases e
theorem je_isi {p p2 : Pos} (t : Ln.Ty) {tn : Str} (hg : Gl X "isinstance") (hm : X.mg "isinstance" = none) (ht : bootBuiltins tn = some (.type (tyName t))) (hgt : Gl X tn) (hmt : X.mg tn = none) (ha : JE X E a (Ln.ev cf ia))
    (hn : tn ≠ "__name__" := by decide) (hd : (tn == ("__debug__" : Str)) = false := by decide)
    (he : starEach [a, .Name tn p2] X.env = (false, eval a X.env) :: starEach [.Name tn p2] X.env := by rfl) (hpl : (backTo pos (starEach [.Name tn p2] X.env)).any (·.1) = false := by rfl) :
    JE X E (.Call (.Name "isinstance" p) [a, .Name tn p2] [] pos) (Ln.ev cf (.isi ia t)) :=
  pe_w (pe_callB call_isi hg hm (by decide +kernel) (pa_cons ha (pa_cons (pe_bltn (v := .ty (tyName t)) hgt hmt ht rfl hn hd) pa_nil) he) (he := he) (hpl := hpl)) fun σ H Q ⟨ρ, α, S, rs, re, p⟩ => by
    simp only [Ln.ev] at p
    refine ⟨ρ, α, S, rs, re, p.bind.mono fun d S1 H1 α1 _ q v rd => ?_⟩
    obtain ⟨k, e, k2⟩ := q.2.bind.opt q.1.rs
    have k3 := k2.2.ret q.1.rs
    have non : d = .non ∨ d ≠ .non := by cases d <;> simp
    rcases non with rfl | hnon
    · cases rd
      cases e
      exact ⟨.non, _, _, _, false, rfl, .ty _, .base .non, kit_none X.K t, k3 _ (.bl _)⟩
    · have e' : (Ln.tyOf S1 d).map (fun u => decide (u = t) || (decide (u = .bool) && decide (t = .int))) = some k := by
        unfold Ln.isiD at e
        split at e
        · exact absurd rfl hnon
        · exact e
      rw [Option.map_eq_some_iff] at e'
      obtain ⟨u, e1, e2⟩ := e'
      exact ⟨v, _, _, _, k, rfl, .ty _, ty_at q.1.rs rd e1, by rw [kit_all, e2], k3 _ (.bl _)⟩
end
end LnS

set_option linter.all false
set_option maxRecDepth 100000
/-! Ln: built-ins. -/
namespace LnS
open PySem L2 PyProof.Rows
open Ln (D O Store Rho M R Ex)

/-! ### depth -/
theorem depthAll_le {S : Store} {k : Nat} (ih : ∀ (d : D) (p : PyData), Ln.toP S k d = some p → p.depth ≤ k) : ∀ {ds : List D} {ps : List PyData}, ds.mapM (Ln.toP S k) = some ps → PyData.depthAll ps ≤ k
  | [], _, e => by rw [mapM_nil e]; simp [PyData.depthAll]
  | d :: ds, _, e => by
    obtain ⟨p, ps', e1, e2, rfl⟩ := mapM_cons e
    simp only [PyData.depthAll]
    have h1 := ih d p e1
    have h2 := depthAll_le ih e2
    omega
theorem depthKv_le {n : Nat} : ∀ {ps qs : List PyData}, PyData.depthAll ps ≤ n → PyData.depthAll qs ≤ n → PyData.depthKv (ps.zip qs) ≤ n
  | [], _, _, _ => by simp [PyData.depthKv]
  | _ :: _, [], _, _ => by simp [PyData.depthKv]
  | p :: ps, q :: qs, h1, h2 => by
    simp only [PyData.depthAll] at h1 h2
    simp only [List.zip_cons_cons, PyData.depthKv]
    have := depthKv_le (n := n) (ps := ps) (qs := qs) (by omega) (by omega)
    omega
theorem toP_depth {S : Store} : ∀ (k : Nat) (d : D) (p : PyData), Ln.toP S k d = some p → p.depth ≤ k
  | 0, d, p, e => by cases d <;> simp only [Ln.toP] at e <;> cases e <;> simp [PyData.depth]
  | k + 1, d, p, e => by
    have ih := toP_depth (S := S) k
    have dct : ∀ {ks vs : List D}, ((ks.mapM (Ln.toP S k)).bind fun a => (vs.mapM (Ln.toP S k)).map fun b => PyData.dict (a.zip b)) = some p → p.depth ≤ k + 1 := fun {ks vs} e => by
      cases e1 : ks.mapM (Ln.toP S k) with
      | none => rw [e1] at e; cases e
      | some pa =>
      cases e2 : vs.mapM (Ln.toP S k) with
      | none => rw [e1, e2] at e; cases e
      | some pb =>
      rw [e1, e2] at e
      cases e
      simp only [PyData.depth]
      have := depthKv_le (depthAll_le ih e1) (depthAll_le ih e2)
      omega
    cases d with
    | non => cases e; simp [PyData.depth]
    | bl b => cases e; simp [PyData.depth]
    | int i => cases e; simp [PyData.depth]
    | str x => cases e; simp [PyData.depth]
    | tup xs =>
      simp only [Ln.toP, Option.map_eq_some_iff] at e
      obtain ⟨ps, e, rfl⟩ := e
      have := depthAll_le ih e
      simp only [PyData.depth]; omega
    | lst xs =>
      simp only [Ln.toP, Option.map_eq_some_iff] at e
      obtain ⟨ps, e, rfl⟩ := e
      have := depthAll_le ih e
      simp only [PyData.depth]; omega
    | frz xs => cases e
    | wtp xs => cases e
    | dct ks vs => exact dct e
    | ref n =>
      simp only [Ln.toP] at e
      split at e
      · simp only [Option.map_eq_some_iff] at e
        obtain ⟨ps, e, rfl⟩ := e
        have := depthAll_le ih e
        simp only [PyData.depth]; omega
      · exact dct e
      · cases e

/-- a built-in that leaves the store, by values -/
def rB (K : Frag) (f : Store → List D → Option D) : List V → Hp → VK → Prop := fun vs H Q => ∃ α S ds d, RS K H α S ∧ RDs K H α ds vs ∧ f S ds = some d ∧ ∀ v H' α', After K α H α' H' S → RD K H' α' d v → Q v H'

section
variable {X : Cx}
theorem rds1 {K : Frag} {H : Hp} {α : Al} {d : D} {vs : List V} (r : RDs K H α [d] vs) : ∃ v, vs = [v] ∧ RD K H α d v := by
  cases r with
  | cons r t => cases t; exact ⟨_, rfl, r⟩
theorem rds2 {K : Frag} {H : Hp} {α : Al} {d e : D} {vs : List V} (r : RDs K H α [d, e] vs) : ∃ v w, vs = [v, w] ∧ RD K H α d v ∧ RD K H α e w := by
  cases r with
  | cons r t => obtain ⟨w, rfl, q⟩ := rds1 t; exact ⟨_, w, rfl, r, q⟩
theorem cb_len : CallR X (.builtin "len") (rB X.K Ln.lenF) := by
  intro pins s σ H xs us Q I r h
  obtain ⟨α, S, ds, d, rs, rd, e, q⟩ := h
  unfold Ln.lenF at e
  split at e
  · obtain ⟨v, rfl, rd1⟩ := rds1 rd
    cases rd1
    split at e
    · rename_i hz
      cases e
      exact call_len_str pins s σ H _ us Q I r ⟨_, rfl, hz, q _ _ _ (.refl rs) (.int _)⟩
    · cases e
  · obtain ⟨v, rfl, rd1⟩ := rds1 rd
    rw [Option.map_eq_some_iff] at e
    obtain ⟨ys, e, rfl⟩ := e
    obtain ⟨a, vs, rfl, hq, rds⟩ := seq_at rs rd1 e
    refine call_len_seq pins s σ H _ us Q I r ⟨a, vs, rfl, hq, ?_⟩
    rw [← rds.length]
    exact q _ _ _ (.refl rs) (.int _)
  · cases e
theorem cb_tuple : CallR X (.type "tuple") (rB X.K Ln.tupleF) := by
  intro pins s σ H xs us Q I r h
  obtain ⟨α, S, ds, d, rs, rd, e, q⟩ := h
  unfold Ln.tupleF at e
  split at e
  · obtain ⟨v, rfl, rd1⟩ := rds1 rd
    rw [Option.map_eq_some_iff] at e
    obtain ⟨ys, e, rfl⟩ := e
    obtain ⟨a, vs, rfl, hq, rds⟩ := seq_at rs rd1 e
    refine call_tupleZ pins s σ H _ us Q I r ⟨a, vs, rfl, ?_⟩
    rcases hq with hq | hq
    · refine .inl ⟨hq, fun p o ho hp => ?_⟩
      obtain ⟨af, rd'⟩ := new_tup rs ho hp rds
      exact q _ _ _ af rd'
    · refine .inr ⟨hq, ?_⟩
      have tl : ∀ {b : Addr} {us ws : List V}, SqL X.K H b us → SqT X.K H b ws → False := fun {b us ws} h1 h2 => by
        obtain ⟨_, _, ⟨o, n, e, c, _⟩, _⟩ := I.list h1
        obtain ⟨_, _, ⟨o', e', c', _⟩, _⟩ := I.tuple h2
        rw [e] at e'; cases e'
        rw [c] at c'
        exact absurd c' (by decide)
      cases rd1 with
      | tup h1 h2 => cases e; exact q _ _ _ (.refl rs) (.tup h1 h2)
      | lst n h1 h2 => exact (tl (SqL.of h1) hq).elim
      | frz h1 h2 => exact (tl h1.sq hq).elim
      | ref h1 =>
        simp only [Ln.seqOf] at e
        split at e
        · rename_i ys hS
          obtain ⟨ws, h3, _⟩ := rs.at_ _ _ _ h1 hS
          exact (tl (SqL.of h3) hq).elim
        · cases e
      | _ => simp [Ln.seqOf] at e
  · cases e
theorem cb_list : CallR X (.type "list") (rB X.K Ln.listF) := by
  intro pins s σ H xs us Q I r h
  obtain ⟨α, S, ds, d, rs, rd, e, q⟩ := h
  unfold Ln.listF at e
  split at e
  · obtain ⟨v, rfl, rd1⟩ := rds1 rd
    rw [Option.map_eq_some_iff] at e
    obtain ⟨ys, e, rfl⟩ := e
    obtain ⟨a, vs, rfl, hq, rds⟩ := seq_at rs rd1 e
    refine call_list_of pins s σ H _ us Q I r ⟨a, vs, rfl, hq, fun p hp => ?_⟩
    obtain ⟨af, rd'⟩ := new_lst rs hp rds
    exact q _ _ _ af rd'
  · cases e
theorem cb_all (hc : X.calm = true) : CallR X (.builtin "all") (rB X.K Ln.allF) := by
  intro pins s σ H xs us Q I r h
  obtain ⟨α, S, ds, d, rs, rd, e, q⟩ := h
  unfold Ln.allF at e
  split at e
  · obtain ⟨v, rfl, rd1⟩ := rds1 rd
    simp only [Option.bind_eq_some_iff, Option.map_eq_some_iff] at e
    obtain ⟨ys, e, bs, e2, rfl⟩ := e
    obtain ⟨a, vs, rfl, hq, rds⟩ := lst_at rs rd1 e
    have := rds.boolsD e2
    subst this
    exact cr_all hc pins s σ H _ us Q I r ⟨a, bs, rfl, SqL.of hq, q _ _ _ (.refl rs) (.bl _)⟩
  · cases e
theorem cb_any (hc : X.calm = true) : CallR X (.builtin "any") (rB X.K Ln.anyF) := by
  intro pins s σ H xs us Q I r h
  obtain ⟨α, S, ds, d, rs, rd, e, q⟩ := h
  unfold Ln.anyF at e
  split at e
  · obtain ⟨v, rfl, rd1⟩ := rds1 rd
    simp only [Option.bind_eq_some_iff, Option.map_eq_some_iff] at e
    obtain ⟨ys, e, bs, e2, rfl⟩ := e
    obtain ⟨a, vs, rfl, hq, rds⟩ := lst_at rs rd1 e
    have := rds.boolsD e2
    subst this
    exact cr_any hc pins s σ H _ us Q I r ⟨a, bs, rfl, SqL.of hq, q _ _ _ (.refl rs) (.bl _)⟩
  · cases e
/-- sum(t), t a tuple of ints -/
theorem sum_tup {prog : Program} {w : World} {A : Around} {E : Value → Shared → Prop} {s : Shared} {l : Addr} {its : List Value} {ns : List Int} {Q : Value → Shared → Prop} (hh : A.handled = none) (hl : s.heap.IsTuple l its.toArray) (hi : IntsAre its ns)
    (h : ∀ h' tk t', (∀ b o, s.heap.get? b = some o → h'.get? b = some o) → Q (.int ns.sum t') { s with heap := h', toks := tk }) : wpAny (model prog w) A (call (.builtin "sum") [.ref l]) Q E s := by
  obtain ⟨xs, e⟩ := hi.allInts.items
  have hn : numsOf (intItems xs).toList = ns := by rw [← e]; exact hi.numsOf
  rw [nums_intItems] at hn
  rw [e] at hl
  have hlt : l < s.heap.objs.size := by obtain ⟨_, e, _⟩ := hl; exact Heap.lt_size e
  refine call_sum_walkG (wpAny_pyIter_tuple hl ?_)
  refine ⟨s.heap.objs.size, [s.heap.objs.size, l], [s.heap.objs.size], (intItems xs).size, _, _, numAt xs, rfl, Walks.tuple (A := A.in1) hh _ l (Nat.ne_of_lt hlt) (intItems xs), ⟨⟨_, Heap.get?_push_size _ rfl, rfl, rfl⟩, hl.at fun o e => Heap.get?_push_of_some _ e⟩, fun b hb => ?_, (fun _ _ => intItems_at), fun h' tk t' hk => ?_⟩
  · show b < (s.heap.push _).objs.size
    rw [Heap.size_push]
    rcases List.mem_cons.mp hb with rfl | hb
    · exact Nat.lt_succ_self _
    · rw [List.mem_singleton.mp hb]; exact Nat.lt_succ_of_lt hlt
  · have := h h' tk t' fun b o e => by
      refine hk b o (fun hm => ?_) (Heap.get?_push_of_some _ e)
      rw [List.mem_singleton.mp hm] at e
      exact absurd (Heap.lt_size e) (Nat.lt_irrefl _)
    rw [preSum_eq, List.take_of_length_le (by simp [intItems]), hn]; exact this
theorem cb_sum (hc : X.calm = true) : CallR X (.builtin "sum") (rB X.K Ln.sumF) := by
  intro pins s σ H xs us Q I r h
  obtain ⟨α, S, ds, d, rs, rd, e, q⟩ := h
  unfold Ln.sumF at e
  split at e
  · obtain ⟨v, rfl, rd1⟩ := rds1 rd
    simp only [Option.bind_eq_some_iff, Option.map_eq_some_iff] at e
    obtain ⟨ys, e, bs, e2, rfl⟩ := e
    obtain ⟨a, vs, rfl, hq, rds⟩ := seq_at rs rd1 e
    have := rds.intsD e2
    subst this
    rcases hq with hq | hq
    · exact cr_sum hc pins s σ H _ us Q I r ⟨a, bs, rfl, hq, q _ _ _ (.refl rs) (.int _)⟩
    · obtain ⟨its, rv, hl, _⟩ := I.tuple hq
      rw [Vals.ref1 r]
      exact sum_tup (I.ok.hd hc) hl rv.ints fun h' tk t' hk => ⟨.int _, H, I.kept hk, ⟨_, rfl⟩, q _ _ _ (.refl rs) (.int _)⟩
  · cases e
theorem cb_abs : CallR X (.builtin "abs") (rB X.K Ln.absF) := by
  intro pins s σ H xs us Q I r h
  obtain ⟨α, S, ds, d, rs, rd, e, q⟩ := h
  unfold Ln.absF at e
  split at e
  · obtain ⟨v, rfl, rd1⟩ := rds1 rd
    cases rd1; cases e
    exact call_abs pins s σ H _ us Q I r ⟨_, rfl, q _ _ _ (.refl rs) (.int _)⟩
  · cases e
theorem cb_max (hc : X.calm = true) : CallR X (.builtin "max") (rB X.K Ln.maxF) := by
  intro pins s σ H xs us Q I r h
  obtain ⟨α, S, ds, d, rs, rd, e, q⟩ := h
  unfold Ln.maxF at e
  split at e
  · obtain ⟨v, w, rfl, rd1, rd2⟩ := rds2 rd
    cases rd1; cases rd2; cases e
    exact call_max2 hc pins s σ H _ us Q I r ⟨_, _, rfl, q _ _ _ (.refl rs) (.int _)⟩
  · cases e
theorem cb_min (hc : X.calm = true) : CallR X (.builtin "min") (rB X.K Ln.minF) := by
  intro pins s σ H xs us Q I r h
  obtain ⟨α, S, ds, d, rs, rd, e, q⟩ := h
  unfold Ln.minF at e
  split at e
  · obtain ⟨v, w, rfl, rd1, rd2⟩ := rds2 rd
    cases rd1; cases rd2; cases e
    exact call_min2 hc pins s σ H _ us Q I r ⟨_, _, rfl, q _ _ _ (.refl rs) (.int _)⟩
  · cases e
theorem cb_int : CallR X (.type "int") (rB X.K Ln.intF) := by
  intro pins s σ H xs us Q I r h
  obtain ⟨α, S, ds, d, rs, rd, e, q⟩ := h
  unfold Ln.intF at e
  split at e
  · obtain ⟨v, rfl, rd1⟩ := rds1 rd
    cases rd1; cases e
    exact call_int1 pins s σ H _ us Q I r (.inl ⟨_, rfl, q _ _ _ (.refl rs) (.int _)⟩)
  · obtain ⟨v, rfl, rd1⟩ := rds1 rd
    cases rd1; cases e
    exact call_int1 pins s σ H _ us Q I r (.inr ⟨_, rfl, q _ _ _ (.refl rs) (.int _)⟩)
  · cases e
theorem cb_str : CallR X (.type "str") (rB X.K Ln.strF) := by
  intro pins s σ H xs us Q I r h
  obtain ⟨α, S, ds, d, rs, rd, e, q⟩ := h
  unfold Ln.strF at e
  split at e
  · obtain ⟨v, rfl, rd1⟩ := rds1 rd
    cases rd1
    split at e
    · rename_i hz
      cases e
      exact call_str_int pins s σ H _ us Q I r ⟨_, rfl, hz, q _ _ _ (.refl rs) (.str _)⟩
    · cases e
  · cases e
/-- dict(xs) -/
theorem cb_dict (hc : X.calm = true) : CallR X (.type "dict") (rB X.K Ln.dictF) := by
  intro pins s σ H xs us Q I r h
  obtain ⟨α, S, ds, d, rs, rd, e, q⟩ := h
  unfold Ln.dictF at e
  split at e
  · obtain ⟨v, rfl, rd1⟩ := rds1 rd
    rw [Option.bind_eq_some_iff] at e
    obtain ⟨ys, e1, e2⟩ := e
    rw [Option.map_eq_some_iff] at e2
    obtain ⟨ps, e3, rfl⟩ := e2
    obtain ⟨a, vs, rfl, hH, rds⟩ := lst_at rs rd1 e1
    obtain ⟨as, kvs, rfl, hp, hm⟩ := pairs_at' rds e3
    obtain ⟨m1, m2⟩ := hm (acc := []) (kv0 := []) .nil .nil
    refine call_dictP hc pins s σ H _ us Q I r ⟨a, as, kvs, rfl, SqL.of hH, hp, fun p hp => ?_⟩
    have af := After.new (o := .dK (mergeK [] kvs)) rs hp
    exact q _ _ _ af (.dct (rs.free hp) upd_same (af.rds m1) (af.rds m2))
  · cases e
theorem cb_repr (hg : X.A.guards = some []) (hu : X.A.units + 64 < cLine) : CallR X (.builtin "repr") (rB X.K Ln.reprF) := by
  intro pins s σ H xs us Q I r h
  obtain ⟨α, S, ds, d, rs, rd, e, q⟩ := h
  unfold Ln.reprF at e
  split at e
  · obtain ⟨v, rfl, rd1⟩ := rds1 rd
    rw [Option.bind_eq_some_iff] at e
    obtain ⟨p, e1, e⟩ := e
    split at e
    · rename_i hz
      cases e
      rw [Bool.and_eq_true, decide_eq_true_eq] at hz
      obtain ⟨u, rfl, ru⟩ := r.one
      obtain ⟨as, h1, g1⟩ := reads_of I rs _ _ _ _ _ rd1 ru e1
      have dp := toP_depth _ _ _ e1
      have hd : p.depth ≤ 24 := dp
      have z := q _ _ _ (.refl rs) (.str p.shown)
      have refs : ∀ a, u = .ref a → wpAny (model X.prog X.w) X.A (call (.builtin "repr") [u]) (EP X pins σ Q) X.xe s := fun a ea => by
        subst ea
        exact repr_of_reads' h1 hz.1 (fun _ => g1) hg (by omega) (fun b o e => e) (fun h' u tk hk => ⟨.str _, H, I.kept (t' := tk) hk, ⟨u, rfl⟩, z⟩) hz.2
      cases h1 with
      | none => exact PySem.P.repr_of_none ⟨.str _, H, I.tok _, ⟨_, rfl⟩, by rw [PyData.shown_none] at z; exact z⟩
      | bool b => exact PySem.P.repr_of_bool ⟨.str _, H, I.tok _, ⟨_, rfl⟩, by rw [PyData.shown_bool] at z; exact z⟩
      | int i t => exact PySem.P.repr_of_int (by simpa [PyData.showable] using hz.1) ⟨.str _, H, I.tok _, ⟨_, rfl⟩, by rw [PyData.shown_int] at z; exact z⟩
      | str x t => exact PySem.P.repr_of_str ⟨.str _, H, I.tok _, ⟨_, rfl⟩, by rw [PyData.shown_str] at z; exact z⟩ (by have := hz.2; rw [PyData.shown_str] at this; exact this)
      | list => exact refs _ rfl
      | tuple => exact refs _ rfl
      | dict => exact refs _ rfl
    · cases e
  · cases e
/-! as expressions -/
variable {E : XS} {cf : Nat → List D → M D} {pos p : Pos} {a : Expr} {es : List Expr} {ies : Ln.Es} {x : Str}
theorem tcb_w {f : Store → List D → Option D} {b : Ln.Blt} (hb : ∀ args S, Ln.blt b args S = M.opt (fun S => f S args) S) {σ : L2.St} {H : Hp} {Q : VK} (h : TI X.K E (Ln.ev cf (.blt b ies)) σ H Q) : tCB (rB X.K f) (TAI X.K E (Ln.evs cf ies)) σ H Q := by
  obtain ⟨ρ, α, S, rs, re, p⟩ := h
  simp only [Ln.ev] at p
  refine ⟨ρ, α, S, rs, re, p.bind.mono fun ds S1 H1 α1 _ q vs rd => ?_⟩
  have p1 := q.2
  rw [hb] at p1
  obtain ⟨d, e, k⟩ := p1.optN
  exact ⟨α1, S1, ds, d, q.1.rs, rd, e, fun v H' α' a r => k H' α' a v r⟩
theorem je_bltB {f : Store → List D → Option D} {id : String} (b : Ln.Blt) (hb : ∀ args S, Ln.blt b args S = M.opt (fun S => f S args) S) (hc : CallR X (.builtin id) (rB X.K f)) (hg : Gl X x) (hm : X.mg x = none) (hv : bootBuiltins x = some (.builtin id)) (ha : JA X E (a :: es) (Ln.evs cf ies))
    (hn : x ≠ "__name__" := by decide) (hdb : (x == ("__debug__" : Str)) = false := by decide)
    (he : starEach (a :: es) X.env = (false, eval a X.env) :: starEach es X.env := by rfl) (hpl : (backTo pos (starEach es X.env)).any (·.1) = false := by rfl) : JE X E (.Call (.Name x p) (a :: es) [] pos) (Ln.ev cf (.blt b ies)) :=
  pe_w (pe_callB hc hg hm hv ha hn hdb he hpl) fun σ H Q h => tcb_w hb h
theorem je_bltT {f : Store → List D → Option D} {T : String} (b : Ln.Blt) (hb : ∀ args S, Ln.blt b args S = M.opt (fun S => f S args) S) (hc : CallR X (.type T) (rB X.K f)) (hg : Gl X x) (hm : X.mg x = none) (hv : bootBuiltins x = some (.type T)) (ha : JA X E (a :: es) (Ln.evs cf ies))
    (hn : x ≠ "__name__" := by decide) (hdb : (x == ("__debug__" : Str)) = false := by decide)
    (he : starEach (a :: es) X.env = (false, eval a X.env) :: starEach es X.env := by rfl) (hpl : (backTo pos (starEach es X.env)).any (·.1) = false := by rfl) : JE X E (.Call (.Name x p) (a :: es) [] pos) (Ln.ev cf (.blt b ies)) :=
  pe_w (pe_callTy hc hg hm hv ha hn hdb he hpl) fun σ H Q h => tcb_w hb h
end
end LnS

set_option linter.all false
set_option maxRecDepth 100000
/-! Ln: defs, their calls. -/
namespace LnS
open PySem L2 PyProof.Rows
open Ln (D O Store Rho M R Ex)

/-- a def's promise by positional values, where no repr is under way -/
def FnG (P : Program) (w : World) (K : Frag) (mg : Str → Option Value) (base : Heap) (CX : CXT) (k : Nat) (f : Addr) (sp : Sp) : Prop :=
  ∀ (A : Around) (outer : List Env) (s : Shared) (H : Hp) (us : List Value) (vs : List V) (Q : VK) (E : XK), Room k A → A.guards = some [] → Env0 P w K mg base A outer s H → Vals vs us → sp vs H Q E →
    codeAny (model P w) A (.call (.ref f) ⟨us, []⟩) (CR CX outer P w H s Q E) s
/-- what the evaluator says of a def, as a promise -/
def spI (K : Frag) (g : List D → M D) : Sp := fun vs H Q _ => ∃ α S ds, RS K H α S ∧ RDs K H α ds vs ∧ Pst K X0 H α (g ds S) fun d _ H' α' => ∀ v, RD K H' α' d v → Q v H'

section
variable {X : Cx} {cf : Nat → List D → M D} {pos p : Pos} {a : Expr} {es : List Expr} {ies : Ln.Es} {x : Str} {k : Nat} {f : Addr} {CX : CXT}
theorem run_fnG {pins : List (Addr × Obj)} {σ : L2.St} {H : Hp} {s : Shared} {sp : Sp} {E : XK} {Q : VK} {us : List Value} {vs : List V} (F : FnG X.prog X.w X.K X.mg X.base CX k f sp) (hr : Room k X.A) (hG : X.A.guards = some []) (hx : Passes CX X E) (I : Inv X pins σ H s) (r : Vals vs us) (h : sp vs H Q E) :
    wpAny (model X.prog X.w) X.A (call (.ref f) us) (EP X pins σ Q) X.xe s := by
  refine wpAny_call (codeAny_mono (F X.A X.stack s H us vs Q E hr hG I.env0 r h) fun r s' hq => ?_)
  match r, hq with
  | .error e, hq => exact hx pins σ H s e s' I hq
  | .ok (.ret u), hq => exact I.after hq
theorem args_at {n : Nat} {σ : L2.St} {H : Hp} {Q : VK} (h : TI X.K X0 (Ln.ev cf (.call n ies)) σ H Q) : TAI X.K X0 (Ln.evs cf ies) σ H fun vs H1 => spI X.K (cf n) vs H1 Q E0 := by
  obtain ⟨ρ, α, S, rs, re, q⟩ := h
  simp only [Ln.ev] at q
  exact ⟨ρ, α, S, rs, re, q.bind.mono fun ds S1 H1 α1 _ q vs rds => ⟨α1, S1, ds, q.1.rs, rds, q.2⟩⟩
/-- f(a, ..) -/
theorem je_call (n : Nat) (F : FnG X.prog X.w X.K X.mg X.base CX0 k f (spI X.K (cf n))) (hr : Room k X.A) (hG : X.A.guards = some []) (hg : Gl X x) (hm : X.mg x = some (.ref f)) (hk : PySem.W.keepIn X.K (.ref f) = true) (ha : JA X X0 (a :: es) (Ln.evs cf ies))
    (hdb : (x == ("__debug__" : Str)) = false := by decide) (he : starEach (a :: es) X.env = (false, eval a X.env) :: starEach es X.env := by rfl) (hpl : (backTo pos (starEach es X.env)).any (·.1) = false := by rfl) :
    JE X X0 (.Call (.Name x p) (a :: es) [] pos) (Ln.ev cf (.call n ies)) := by
  refine ⟨fun pins s σ H Q I h => ?_⟩
  refine wpAny_Call_Name_kw (ld_glob I hg hm ?_ hdb)
  refine PySem.W.callWith_K (h₀ := X.base) I.ok.mod.kin hk (thn (ha.run pos pins s σ H _ I (args_at h)) fun us s1 ⟨vs, H1, I1, r, q1⟩ => ⟨I1.kIn, ?_⟩) he hpl
  exact run_fnG F hr hG pass0 I1 r q1
/-- f() -/
theorem je_call0 (n : Nat) (F : FnG X.prog X.w X.K X.mg X.base CX0 k f (spI X.K (cf n))) (hr : Room k X.A) (hG : X.A.guards = some []) (hg : Gl X x) (hm : X.mg x = some (.ref f)) (hk : PySem.W.keepIn X.K (.ref f) = true)
    (hdb : (x == ("__debug__" : Str)) = false := by decide) :
    JE X X0 (.Call (.Name x p) [] [] pos) (Ln.ev cf (.call n .nil)) := by
  refine ⟨fun pins s σ H Q I h => ?_⟩
  refine wpAny_Call_Name_kw (ld_glob I hg hm ?_ hdb)
  obtain ⟨ρ, α, S, rs, re, q⟩ := args_at h
  simp only [Ln.evs] at q
  exact PySem.W.callWith_K0 I.kIn hk (run_fnG F hr hG pass0 I .nil (q.ret rs [] .nil))
/-- f(a, .., *b) -/
theorem je_callS2 (n : Nat) (F : FnG X.prog X.w X.K X.mg X.base CX0 k f (spI X.K (cf n))) (hr : Room k X.A) (hG : X.A.guards = some []) (hg : Gl X x) (hm : X.mg x = some (.ref f)) (hk : PySem.W.keepIn X.K (.ref f) = true) (ha : JA X X0 (a :: es) (Ln.evs cf ies))
    (hdb : (x == ("__debug__" : Str)) = false := by decide) (he : starEach (a :: es) X.env = (false, eval a X.env) :: starEach es X.env := by rfl) (hst : (backTo pos (starEach es X.env)).any (·.1) = true := by rfl) :
    JE X X0 (.Call (.Name x p) (a :: es) [] pos) (Ln.ev cf (.call n ies)) := by
  refine ⟨fun pins s σ H Q I h => ?_⟩
  refine wpAny_Call_Name_kw (ld_glob I hg hm ?_ hdb)
  refine PySem.W.callWith_S2 (h₀ := X.base) I.ok.mod.kin hk (thn (ha.run pos pins s σ H _ I (args_at h)) fun us s1 ⟨vs, H1, I1, r, q1⟩ => ⟨I1.kIn, ?_⟩) he hst
  exact run_fnG F hr hG pass0 I1 r q1
end
end LnS

set_option linter.all false
set_option maxRecDepth 100000
/-! Ln: what is walked; comprehensions. -/
namespace LnS
open PySem L2 PyProof.Rows
open Ln (D O Store Rho M R Ex)

/-- the iterator J walks the items xs, as long as the store lives on from (H1, α1) -/
structure Walk (K : Frag) (H1 : Hp) (α1 : Al) (xs : List D) (J : It) : Prop where
  go : ∀ i H' α' S', After K α1 H1 α' H' S' → i < xs.length → J.go i H'
  stop : ∀ i H' α' S', After K α1 H1 α' H' S' → i = xs.length → J.stop i H'
  yld : ∀ i H' α' S' d x H'', After K α1 H1 α' H' S' → xs[i]? = some d → J.yld i H' x H'' → After K α' H' α' H'' S' ∧ RD K H'' α' d x
def TII (K : Frag) (E : XS) (m : Rho → M (List D)) : L2.TI := fun σ H R => ∃ ρ α S, RS K H α S ∧ RE K H α ρ σ ∧ Pst K E H α (m ρ S) fun xs _ H1 α1 => xs.length ≤ sizeLine → ∀ J, Walk K H1 α1 xs J → R J H1
abbrev JI (X : Cx) (E : XS) (tg iter : Expr) (m : Rho → M (List D)) : Prop := PI X tg iter (TII X.K E m)
theorem pi_w {X : Cx} {tg iter : Expr} {t t' : L2.TI} (h : PI X tg iter t) (k : ∀ σ H R, t' σ H R → t σ H R) : PI X tg iter t' := ⟨fun pins s σ H R I q => h.run pins s σ H R I (k _ _ _ q)⟩

section
variable {K : Frag} {H1 : Hp} {α1 : Al} {xs : List D}
theorem walk_list {a : Addr} {vs : List V} (h : ∀ H' α' S', After K α1 H1 α' H' S' → SqL K H' a vs ∧ RDs K H' α' xs vs) (inj : ∀ H' α' S', After K α1 H1 α' H' S' → True) : Walk K H1 α1 xs (Itl K a) where
  go := fun i H' α' S' af hi => by
    obtain ⟨h1, h2⟩ := h H' α' S' af
    have : i < vs.length := by rw [← h2.length]; exact hi
    exact ⟨vs, vs[i], h1, List.getElem?_eq_getElem this⟩
  stop := fun i H' α' S' af hi => by
    obtain ⟨h1, h2⟩ := h H' α' S' af
    exact ⟨vs, h1, by rw [← h2.length]; exact Nat.le_of_eq hi.symm⟩
  yld := fun i H' α' S' d x H'' af hd hy => by
    obtain ⟨h1, h2⟩ := h H' α' S' af
    obtain ⟨rfl, hy⟩ := hy
    obtain ⟨v, e1, e2⟩ := h2.get hd
    have := (hy vs h1).symm.trans e1
    cases this
    exact ⟨.refl af.rs, e2⟩
theorem walk_tup {a : Addr} {vs : List V} (h : ∀ H' α' S', After K α1 H1 α' H' S' → SqT K H' a vs ∧ RDs K H' α' xs vs) : Walk K H1 α1 xs (Itt K a) where
  go := fun i H' α' S' af hi => by
    obtain ⟨h1, h2⟩ := h H' α' S' af
    have : i < vs.length := by rw [← h2.length]; exact hi
    exact ⟨vs, vs[i], h1, List.getElem?_eq_getElem this⟩
  stop := fun i H' α' S' af hi => by
    obtain ⟨h1, h2⟩ := h H' α' S' af
    exact ⟨vs, h1, by rw [← h2.length]; exact Nat.le_of_eq hi.symm⟩
  yld := fun i H' α' S' d x H'' af hd hy => by
    obtain ⟨h1, h2⟩ := h H' α' S' af
    obtain ⟨rfl, hy⟩ := hy
    obtain ⟨v, e1, e2⟩ := h2.get hd
    have := (hy vs h1).symm.trans e1
    cases this
    exact ⟨.refl af.rs, e2⟩
theorem range_at {lo hi : Int} {i : Nat} {d : D} (h : (Ln.range lo hi)[i]? = some d) : d = .int (lo + i) := by
  unfold Ln.range at h
  rw [List.getElem?_map] at h
  cases e : (List.range (hi - lo).toNat)[i]? with
  | none => rw [e] at h; cases h
  | some j =>
    rw [e] at h
    have hj := List.getElem?_eq_some_iff.mp e
    obtain ⟨h1, h2⟩ := hj
    rw [List.getElem_range] at h2
    cases h
    rw [h2]
theorem range_len {lo hi : Int} : (Ln.range lo hi).length = (hi - lo).toNat := by unfold Ln.range; rw [List.length_map, List.length_range]
theorem walk_rng {lo hi : Int} {n : Nat} (hn : n = (hi - lo).toNat) : Walk K H1 α1 (Ln.range lo hi) (Itr lo n) where
  go := fun i H' α' S' af h => by rw [range_len] at h; show i < n; omega
  stop := fun i H' α' S' af h => by rw [range_len] at h; show n ≤ i; omega
  yld := fun i H' α' S' d x H'' af hd hy => by
    obtain ⟨rfl, rfl⟩ := hy
    rw [range_at hd]
    exact ⟨.refl af.rs, .int _⟩
theorem pairs_len : ∀ (xs ys : List D), (Ln.pairs xs ys).length = min xs.length ys.length
  | [], _ => by simp [Ln.pairs]
  | _ :: _, [] => by simp [Ln.pairs]
  | x :: xs, y :: ys => by simp only [Ln.pairs, List.length_cons, pairs_len xs ys]; omega
theorem pairs_at : ∀ {xs ys : List D} {i : Nat} {d : D}, (Ln.pairs xs ys)[i]? = some d → ∃ x y, xs[i]? = some x ∧ ys[i]? = some y ∧ d = .wtp [x, y]
  | [], _, _, _, h => by simp [Ln.pairs] at h
  | _ :: _, [], _, _, h => by simp [Ln.pairs] at h
  | x :: xs, y :: ys, 0, _, h => by simp [Ln.pairs] at h; exact ⟨x, y, rfl, rfl, h.symm⟩
  | x :: xs, y :: ys, i + 1, d, h => by
    have h' : (Ln.pairs xs ys)[i]? = some d := by simpa [Ln.pairs] using h
    obtain ⟨a, b, h1, h2, h3⟩ := pairs_at h'
    exact ⟨a, b, by simpa using h1, by simpa using h2, h3⟩
theorem numbered_len : ∀ (k : Nat) (xs : List D), (Ln.numbered k xs).length = xs.length
  | _, [] => rfl
  | k, x :: xs => by simp only [Ln.numbered, List.length_cons, numbered_len (k + 1) xs]
theorem numbered_at : ∀ {k : Nat} {xs : List D} {i : Nat} {d : D}, (Ln.numbered k xs)[i]? = some d → ∃ x, xs[i]? = some x ∧ d = .wtp [.int ((k + i : Nat) : Int), x]
  | _, [], _, _, h => by simp [Ln.numbered] at h
  | k, x :: xs, 0, _, h => by simp [Ln.numbered] at h; exact ⟨x, rfl, by rw [← h]; rfl⟩
  | k, x :: xs, i + 1, d, h => by
    have h' : (Ln.numbered (k + 1) xs)[i]? = some d := by simpa [Ln.numbered] using h
    obtain ⟨a, h1, h2⟩ := numbered_at h'
    exact ⟨a, by simpa using h1, by rw [h2, show k + 1 + i = k + (i + 1) by omega]⟩
theorem walk_zipL {a b : Addr} {ys : List D} {vs ws : List V} (h : ∀ H' α' S', After K α1 H1 α' H' S' → SqL K H' a vs ∧ RDs K H' α' xs vs ∧ SqL K H' b ws ∧ RDs K H' α' ys ws) : Walk K H1 α1 (Ln.pairs xs ys) (Itz K a b) where
  go := fun i H' α' S' af hi => by
    obtain ⟨h1, h2, h3, h4⟩ := h H' α' S' af
    rw [pairs_len] at hi
    have l2 := h2.length
    have l4 := h4.length
    exact ⟨vs, ws, vs[i]'(by omega), ws[i]'(by omega), h1, h3, List.getElem?_eq_getElem _, List.getElem?_eq_getElem _⟩
  stop := fun i H' α' S' af hi => by
    obtain ⟨h1, h2, h3, h4⟩ := h H' α' S' af
    rw [pairs_len] at hi
    have l2 := h2.length
    have l4 := h4.length
    exact ⟨vs, ws, h1, h3, by omega⟩
  yld := fun i H' α' S' d x H'' af hd hy => by
    obtain ⟨h1, h2, h3, h4⟩ := h H' α' S' af
    obtain ⟨T, p, q, rfl, hT, rfl, k1, k2⟩ := hy
    obtain ⟨dx, dy, e1, e2, rfl⟩ := pairs_at hd
    obtain ⟨v, f1, f2⟩ := h2.get e1
    obtain ⟨w, g1, g2⟩ := h4.get e2
    have := (k1 vs h1).symm.trans f1
    cases this
    have := (k2 ws h3).symm.trans g1
    cases this
    exact new_wtp af.rs hT (.cons f2 (.cons g2 .nil))
theorem walk_zipT {a b : Addr} {ys : List D} {vs ws : List V} (h : ∀ H' α' S', After K α1 H1 α' H' S' → SqT K H' a vs ∧ RDs K H' α' xs vs ∧ SqT K H' b ws ∧ RDs K H' α' ys ws) : Walk K H1 α1 (Ln.pairs xs ys) (RZ.ItzT K a b) where
  go := fun i H' α' S' af hi => by
    obtain ⟨h1, h2, h3, h4⟩ := h H' α' S' af
    rw [pairs_len] at hi
    have l2 := h2.length
    have l4 := h4.length
    exact ⟨vs, ws, vs[i]'(by omega), ws[i]'(by omega), h1, h3, List.getElem?_eq_getElem _, List.getElem?_eq_getElem _⟩
  stop := fun i H' α' S' af hi => by
    obtain ⟨h1, h2, h3, h4⟩ := h H' α' S' af
    rw [pairs_len] at hi
    have l2 := h2.length
    have l4 := h4.length
    exact ⟨vs, ws, h1, h3, by omega⟩
  yld := fun i H' α' S' d x H'' af hd hy => by
    obtain ⟨h1, h2, h3, h4⟩ := h H' α' S' af
    obtain ⟨T, p, q, rfl, hT, rfl, k1, k2⟩ := hy
    obtain ⟨dx, dy, e1, e2, rfl⟩ := pairs_at hd
    obtain ⟨v, f1, f2⟩ := h2.get e1
    obtain ⟨w, g1, g2⟩ := h4.get e2
    have := (k1 vs h1).symm.trans f1
    cases this
    have := (k2 ws h3).symm.trans g1
    cases this
    exact new_wtp af.rs hT (.cons f2 (.cons g2 .nil))
theorem walk_enum {a : Addr} {vs : List V} (h : ∀ H' α' S', After K α1 H1 α' H' S' → SqL K H' a vs ∧ RDs K H' α' xs vs) : Walk K H1 α1 (Ln.numbered 0 xs) (Ite K a) where
  go := fun i H' α' S' af hi => by
    obtain ⟨h1, h2⟩ := h H' α' S' af
    rw [numbered_len] at hi
    have : i < vs.length := by rw [← h2.length]; exact hi
    exact ⟨vs, vs[i], h1, List.getElem?_eq_getElem this⟩
  stop := fun i H' α' S' af hi => by
    obtain ⟨h1, h2⟩ := h H' α' S' af
    rw [numbered_len] at hi
    exact ⟨vs, h1, by rw [← h2.length]; exact Nat.le_of_eq hi.symm⟩
  yld := fun i H' α' S' d x H'' af hd hy => by
    obtain ⟨h1, h2⟩ := h H' α' S' af
    obtain ⟨T, p, rfl, hT, rfl, k1⟩ := hy
    obtain ⟨dx, e1, rfl⟩ := numbered_at hd
    obtain ⟨v, f1, f2⟩ := h2.get e1
    have := (k1 vs h1).symm.trans f1
    cases this
    rw [Nat.zero_add]
    exact new_wtp af.rs hT (.cons (.int _) (.cons f2 .nil))
end

section
variable {X : Cx} {E : XS} {cf : Nat → List D → M D} {pos p tpos : Pos} {a b tg : Expr} {ia ib : Ln.E} {kk : Nat} {elts : List Expr}
theorem len_seq {pins : List (Addr × Obj)} {σ : L2.St} {H : Hp} {s : Shared} {a : Addr} {vs : List V} (I : Inv X pins σ H s) (h : SqL X.K H a vs ∨ SqT X.K H a vs) : vs.length ≤ sizeLine := by
  rcases h with h | h
  · exact (I.list h).elim fun _ q => q.2.2
  · exact (I.tuple h).elim fun _ q => q.2.2
/-- as PE, the items' number told -/
theorem pi_seq {l : Expr} {tl : TE} (hl : PE X l tl) : PI X tg l (fun σ H R => tl σ H fun x H1 => (∃ a xs, x = .ref a ∧ ((SqL X.K H1 a xs ∧ (xs.length ≤ sizeLine → R (Itl X.K a) H1)) ∨ (SqT X.K H1 a xs ∧ (xs.length ≤ sizeLine → R (Itt X.K a) H1)))) ∨ ∃ z, x = .str z ∧ R (Its z) H1) := by
  refine ⟨fun pins s σ H R I h => ?_⟩
  refine thn (hl.run pins s σ H _ I h) fun v s1 ⟨x, H1, I1, r1, q1⟩ => ?_
  rcases q1 with ⟨a, xs, e, q⟩ | ⟨z, e, q⟩
  case inr =>
    subst e
    obtain ⟨t, e⟩ := r1
    subst e
    cases hz : z.cps.all (· < 128)
    · exact wpAny_pyIter_wide hz (pi_one (tk := s1.toks) I1 _ (turn_str _ z t "str_iterator" (.inr rfl)) ⟨_, Heap.get?_push_size _ rfl, rfl, rfl⟩ q)
    · exact wpAny_pyIter_ascii hz (pi_one (tk := s1.toks) I1 _ (turn_str _ z t "str_ascii_iterator" (.inl rfl)) ⟨_, Heap.get?_push_size _ rfl, rfl, rfl⟩ q)
  subst e
  cases r1
  have one : ∀ b ∈ [s1.heap.objs.size], FpOk X pins H1 b := fun b hb => by
    rw [List.mem_singleton.mp hb]
    exact I1.fpOk (Nat.le_refl _) I1.fresh
  rcases q with ⟨hq, q⟩ | ⟨hq, q⟩
  · obtain ⟨its, rv, pl, hz⟩ := I1.list hq
    exact wpAny_pyIter_list pl.isList ⟨s1.heap.objs.size, [s1.heap.objs.size], _, _, H1, rfl, I1.kept (t' := s1.toks) fun b o e => Heap.get?_push_of_some _ e, turn_list a _, ⟨_, Heap.get?_push_size _ rfl, rfl, rfl⟩, one, q hz⟩
  · obtain ⟨its, rv, pl, hz⟩ := I1.tuple hq
    exact wpAny_pyIter_tuple (show s1.heap.IsTuple a its.toArray from pl) ⟨s1.heap.objs.size, [s1.heap.objs.size], _, _, H1, rfl, I1.kept (t' := s1.toks) fun b o e => Heap.get?_push_of_some _ e, turn_tuple a _, ⟨_, Heap.get?_push_size _ rfl, rfl, rfl⟩, one, q hz⟩
theorem walk_chars {K : Frag} {H1 : Hp} {α1 : Al} {z : Str} : Walk K H1 α1 (Ln.chars z) (Its z) where
  go := fun i H' α' S' af h => by
    unfold Ln.chars at h
    rw [List.length_map, Array.length_toList] at h
    exact h
  stop := fun i H' α' S' af h => by
    unfold Ln.chars at h
    rw [List.length_map, Array.length_toList] at h
    exact Nat.le_of_eq h.symm
  yld := fun i H' α' S' d x H'' af hd hy => by
    obtain ⟨rfl, c, hc, rfl⟩ := hy
    unfold Ln.chars at hd
    rw [List.getElem?_map, Array.getElem?_toList, hc] at hd
    cases hd
    exact ⟨.refl af.rs, .str _⟩
theorem ji_seq (ha : JE X E a (Ln.ev cf ia)) : JI X E tg a (Ln.evi cf (.seq ia)) := pi_w (pi_seq ha) fun σ H R ⟨ρ, α, S, rs, re, q⟩ => by
  simp only [Ln.evi] at q
  refine ⟨ρ, α, S, rs, re, q.bind.mono fun d S1 H1 α1 _ q v rd => ?_⟩
  have p1 := q.2
  unfold Ln.seqK at p1
  split at p1
  · cases rd with
    | tup h rds =>
      have k := p1.ret q.1.rs
      exact .inl ⟨_, _, rfl, .inr ⟨h.sq, fun hz => k (by rw [rds.length]; exact hz) _ (walk_tup fun H' α' S' af => ⟨af.ext.sqT h.sq, af.rds rds⟩)⟩⟩
  · cases rd with
    | lst n h rds =>
      have k := p1.ret q.1.rs
      exact .inl ⟨_, _, rfl, .inl ⟨SqL.of h, fun hz => k (by rw [rds.length]; exact hz) _ (walk_list (fun H' α' S' af => ⟨af.ext.sqL n (SqL.of h), af.rds rds⟩) fun _ _ _ _ => trivial)⟩⟩
  · cases rd with
    | frz h rds =>
      have k := p1.ret q.1.rs
      refine .inl ⟨_, _, rfl, .inl ⟨h.sq, fun hz => k (by rw [rds.length]; exact hz) _ (walk_list (fun H' α' S' af => ⟨?_, af.rds rds⟩) fun _ _ _ _ => trivial)⟩⟩
      have r' := af.rd (RD.frz h rds)
      cases r' with
      | frz h' rds' =>
        rcases h with ⟨n, h⟩ | h
        · exact af.ext.sqL n (.inl h)
        · exact .inr h
  · rename_i z
    split at p1
    · rename_i hz
      cases rd
      have k := p1.ret q.1.rs
      refine .inr ⟨_, rfl, k ?_ _ walk_chars⟩
      unfold Ln.chars
      rw [List.length_map, Array.length_toList]
      exact hz
    · exact p1.elim
  · exact p1.elim
/-- the lengths of all lists and tuples are within the line -/
theorem pa_len {es : List Expr} {t : TA} (h : PA X es t) : PA X es (fun σ H Q => t σ H fun vs H1 => (∀ a xs, (SqL X.K H1 a xs ∨ SqT X.K H1 a xs) → xs.length ≤ sizeLine) → Q vs H1) :=
  ⟨fun pos pins s σ H Q I q => thn (h.run pos pins s σ H _ I q) fun us s1 ⟨vs, H1, I1, r, k⟩ => ⟨vs, H1, I1, r, k fun _ _ z => len_seq I1 z⟩⟩
theorem ji_rng1 (hg : Gl X "range") (hm : X.mg "range" = none) (ha : JE X E a (Ln.ev cf ia)) (hs : starEach [a] X.env = [(false, eval a X.env)] := by rfl) : JI X E tg (.Call (.Name "range" p) [a] [] pos) (Ln.evi cf (.rng1 ia)) :=
  pi_w (pi_range1 hg hm (pa_cons ha pa_nil hs) hs) fun σ H R ⟨ρ, α, S, rs, re, q⟩ => by
    simp only [Ln.evi] at q
    refine ⟨ρ, α, S, rs, re, q.bind.mono fun d S1 H1 α1 _ q v rd => ?_⟩
    have p1 := q.2
    unfold Ln.rngK at p1
    split at p1
    · cases rd
      split at p1
      · rename_i hc
        rw [Bool.and_eq_true, decide_eq_true_eq] at hc
        have h1 := hc.1
        unfold Ln.small62 at h1
        rw [Bool.and_eq_true, decide_eq_true_eq, decide_eq_true_eq] at h1
        refine ⟨_, rfl, h1.1, h1.2, p1.ret q.1.rs (by rw [range_len, Int.sub_zero]; exact hc.2) _ (walk_rng (by rw [Int.sub_zero]))⟩
      · exact p1.elim
    · exact p1.elim
theorem ji_rng2 (hg : Gl X "range") (hm : X.mg "range" = none) (ha : JE X E a (Ln.ev cf ia)) (hb : JE X E b (Ln.ev cf ib)) (hs : starEach [a, b] X.env = [(false, eval a X.env), (false, eval b X.env)] := by rfl)
    (hs2 : starEach [b] X.env = [(false, eval b X.env)] := by rfl) (hs3 : starEach [a, b] X.env = (false, eval a X.env) :: starEach [b] X.env := by rfl) : JI X E tg (.Call (.Name "range" p) [a, b] [] pos) (Ln.evi cf (.rng2 ia ib)) :=
  pi_w (pi_range2 hg hm (pa_cons ha (pa_cons hb pa_nil hs2) hs3) hs hs2) fun σ H R ⟨ρ, α, S, rs, re, q⟩ => by
    simp only [Ln.evi] at q
    refine ⟨ρ, α, S, rs, re, q.bind.mono fun d S1 H1 α1 _ q v rd => ?_⟩
    refine ⟨ρ, α1, S1, q.1.rs, q.1.re re, q.2.bind.mono fun d2 S2 H2 α2 _ q2 v2 rd2 => ?_⟩
    have rd' := q2.1.rd rd
    have p1 := q2.2
    unfold Ln.rng2K at p1
    split at p1
    · cases rd'; cases rd2
      split at p1
      · rename_i hc
        rw [Bool.and_eq_true, Bool.and_eq_true, decide_eq_true_eq] at hc
        have h1 := hc.1.1
        have h2 := hc.1.2
        unfold Ln.small62 at h1 h2
        rw [Bool.and_eq_true, decide_eq_true_eq, decide_eq_true_eq] at h1 h2
        refine ⟨_, _, rfl, ⟨h1.1, h1.2, h2.1, h2.2⟩, p1.ret q2.1.rs (by rw [range_len]; exact hc.2) _ (walk_rng rfl)⟩
      · exact p1.elim
    · exact p1.elim
theorem ji_enum (hg : Gl X "enumerate") (hm : X.mg "enumerate" = none) (ha : JE X E a (Ln.ev cf ia)) (hs : starEach [a] X.env = [(false, eval a X.env)] := by rfl) :
    JI X E (.Tuple elts kk tpos) (.Call (.Name "enumerate" p) [a] [] pos) (Ln.evi cf (.enum ia)) :=
  pi_w (pi_enum hg hm (pa_len (pa_cons ha pa_nil hs)) hs) fun σ H R ⟨ρ, α, S, rs, re, q⟩ => by
    simp only [Ln.evi] at q
    refine ⟨ρ, α, S, rs, re, q.bind.mono fun d S1 H1 α1 _ q v rd hl => ?_⟩
    have p1 := q.2
    unfold Ln.enumK at p1
    split at p1
    · cases rd with
      | lst n h rds =>
      have k := p1.ret q.1.rs (by have := hl _ _ (.inl (SqL.of h)); rw [numbered_len, rds.length]; exact this)
      exact ⟨_, _, rfl, SqL.of h, k _ (walk_enum fun H' α' S' af => ⟨af.ext.sqL n (SqL.of h), af.rds rds⟩)⟩
    · exact p1.elim
end
end LnS

set_option linter.all false
set_option maxRecDepth 100000
/-! Ln: targets, comprehensions. -/
namespace LnS
open PySem L2 PyProof.Rows
open Ln (D O Store Rho M R Ex)

/-! ### targets -/
def tgIdx : Ln.Tg → List Nat
  | .nm i => [i]
  | .tp is => is
/-- what a store to names leaves -/
def Sto (is : List Nat) (σ σ' : L2.St) : Prop := σ'.length = σ.length ∧ ∀ j, j ∉ is → σ'[j]? = σ[j]?
def TGI (K : Frag) (tg : Ln.Tg) : TG := fun v σ H Q => ∃ ρ α S d ρ', RS K H α S ∧ RE K H α ρ σ ∧ RD K H α d v ∧ Ln.setTg ρ tg d = some ρ' ∧ ∀ σ', RE K H α ρ' σ' → Sto (tgIdx tg) σ σ' → Q σ' H
abbrev JG (X : Cx) (e : Expr) (tg : Ln.Tg) : Prop := PG X e (TGI X.K tg)
theorem pg_w {X : Cx} {e : Expr} {t t' : TG} (h : PG X e t) (k : ∀ v σ H Q, t' v σ H Q → t v σ H Q) : PG X e t' := ⟨fun pins s σ H x u Q I r q => h.run pins s σ H x u Q I r (k _ _ _ _ q)⟩
theorem RE.set {K : Frag} {H : Hp} {α : Al} {ρ : Rho} {σ : L2.St} (r : RE K H α ρ σ) {i : Nat} {d : D} {v : V} (q : RD K H α d v) : RE K H α (ρ.set i (some d)) (σ.set i (some v)) := by
  refine ⟨by rw [List.length_set, List.length_set]; exact r.len, fun j e h => ?_⟩
  by_cases hj : i = j
  · subst hj
    have hl := (List.getElem?_eq_some_iff.mp h).1
    rw [List.length_set] at hl
    rw [List.getElem?_set_self hl] at h
    cases h
    exact ⟨v, by rw [List.getElem?_set_self (by rw [← r.len]; exact hl)], q⟩
  · rw [List.getElem?_set_ne hj] at h
    obtain ⟨w, h1, h2⟩ := r.get j e h
    exact ⟨w, by rw [List.getElem?_set_ne hj]; exact h1, h2⟩
theorem Sto.one {σ : L2.St} {i : Nat} {v : Option V} : Sto [i] σ (σ.set i v) := ⟨List.length_set, fun j h => List.getElem?_set_ne (fun z => h (by rw [z]; exact List.mem_singleton.mpr rfl))⟩
theorem jg_nm {X : Cx} {e : Expr} {i : Nat} (h : PG X e (gName i)) : JG X e (.nm i) := pg_w h fun v σ H Q ⟨ρ, α, S, d, ρ', rs, re, rd, e, k⟩ => by
  cases e
  exact k _ (re.set rd) .one
def TGsI (K : Frag) (is : List Nat) : TGs := fun vs σ H Q => ∃ ρ α S ds ρ', RS K H α S ∧ RE K H α ρ σ ∧ RDs K H α ds vs ∧ Ln.setAll ρ is ds = some ρ' ∧ ∀ σ', RE K H α ρ' σ' → Sto is σ σ' → Q σ' H
theorem pgs_w {X : Cx} {es : List Expr} {t t' : TGs} (h : PGs X es t) (k : ∀ v σ H Q, t' v σ H Q → t v σ H Q) : PGs X es t' := ⟨fun pins s σ H x u Q I r q => h.run pins s σ H x u Q I r (k _ _ _ _ q)⟩
theorem jgs_nil {X : Cx} : PGs X [] (TGsI X.K []) := pgs_w pgs_nil fun vs σ H Q ⟨ρ, α, S, ds, ρ', rs, re, rd, e, k⟩ => by
  cases ds with
  | nil => cases rd; cases e; exact ⟨rfl, k _ re ⟨rfl, fun _ _ => rfl⟩⟩
  | cons d ds => cases e
theorem jgs_cons {X : Cx} {e : Expr} {es : List Expr} {i : Nat} {is : List Nat} (h : PG X e (gName i)) (t : PGs X es (TGsI X.K is)) (hs : (assignEach (e :: es) X.env).map (·.2) = assign e X.env :: (assignEach es X.env).map (·.2) := by rfl) : PGs X (e :: es) (TGsI X.K (i :: is)) := pgs_w (pgs_cons h t hs) fun vs σ H Q ⟨ρ, α, S, ds, ρ', rs, re, rd, e, k⟩ => by
  cases ds with
  | nil => cases e
  | cons d ds =>
    cases rd with
    | cons r1 r2 =>
    refine ⟨_, _, rfl, ρ.set i (some d), α, S, ds, ρ', rs, re.set r1, r2, e, fun σ' h1 h2 => k σ' h1 ⟨h2.1.trans List.length_set, fun j hj => ?_⟩⟩
    rw [h2.2 j fun z => hj (List.mem_cons_of_mem _ z)]
    exact List.getElem?_set_ne (fun z => hj (by rw [z]; exact List.mem_cons_self))
theorem setAll_len : ∀ {ρ ρ' : Rho} {is : List Nat} {ds : List D}, Ln.setAll ρ is ds = some ρ' → ds.length = is.length
  | _, _, [], [], _ => rfl
  | _, _, _ :: _, [], e => nomatch e
  | _, _, [], _ :: _, e => nomatch e
  | _, _, _ :: is, _ :: ds, e => by rw [List.length_cons, List.length_cons, setAll_len (is := is) (ds := ds) e]
theorem jg_tp {X : Cx} {es : List Expr} {is : List Nat} {kk : Nat} {pos : Pos} (h : PG X (.Tuple es kk pos) (gTup X.K is.length (TGsI X.K is))) : JG X (.Tuple es kk pos) (.tp is) := pg_w h fun v σ H Q ⟨ρ, α, S, d, ρ', rs, re, rd, e, k⟩ => by
  unfold Ln.setTg at e
  cases rd with
  | wtp h1 rds => exact ⟨_, _, rfl, h1, by rw [← rds.length]; exact setAll_len e, ρ, α, S, _, ρ', rs, re, rds, e, k⟩
  | tup h1 rds => exact ⟨_, _, rfl, h1.sq, by rw [← rds.length]; exact setAll_len e, ρ, α, S, _, ρ', rs, re, rds, e, k⟩
  | _ => cases e

/-! ### the tests of a comprehension -/
abbrev JTs (X : Cx) (E : XS) (ifs : List Expr) (m : Rho → M Bool) : Prop := PTs X ifs (TTI X.K E m)
theorem pts_w {X : Cx} {e : List Expr} {t t' : TT} (h : PTs X e t) (k : ∀ σ H Q, t' σ H Q → t σ H Q) : PTs X e t' := ⟨fun pins s σ H Q I q => h.run pins s σ H Q I (k _ _ _ q)⟩
theorem jts_nil {X : Cx} {E : XS} {cf : Nat → List D → M D} : JTs X E [] (Ln.evts cf .nil) := pts_w pts_nil fun σ H Q ⟨ρ, α, S, rs, re, p⟩ => by
  simp only [Ln.evts] at p
  exact p.ret rs
theorem jts_one {X : Cx} {E : XS} {cf : Nat → List D → M D} {c : Expr} {ic : Ln.E} (h : JT X E c (Ln.evT cf ic)) : JTs X E [c] (Ln.evts cf (.cons ic .nil)) := pts_w (pts_one h) fun σ H Q ⟨ρ, α, S, rs, re, p⟩ => by
  refine ⟨ρ, α, S, rs, re, ?_⟩
  simp only [Ln.evts] at p
  unfold Ln.evT
  cases e : Ln.ev cf ic ρ S with
  | err => rw [bind_err e] at p; exact p.elim
  | exc x S1 => rw [bind_exc e] at p; rw [bind_exc e]; exact p
  | ok d S1 =>
    rw [bind_ok e] at p ⊢
    cases e2 : Ln.truthM d S1 with
    | err => rw [bind_err e2] at p; exact p.elim
    | exc x S2 => rw [bind_exc e2] at p; exact p
    | ok k S2 =>
      rw [bind_ok e2] at p
      cases k <;> exact p

/-! ### comprehensions -/
theorem wipe_get : ∀ {vs : List Nat} {ρ : Rho} {i : Nat} {d : D}, (Ln.wipe ρ vs)[i]? = some (some d) → ρ[i]? = some (some d) ∧ i ∉ vs
  | [], _, _, _, h => ⟨h, by simp⟩
  | v :: vs, ρ, i, d, h => by
    unfold Ln.wipe at h
    by_cases hi : v = i
    · subst hi
      by_cases hv : v < (Ln.wipe ρ vs).length
      · rw [List.getElem?_set_self hv] at h; cases h
      · rw [List.getElem?_eq_none (by rw [List.length_set]; omega)] at h; cases h
    · rw [List.getElem?_set_ne hi] at h
      obtain ⟨h1, h2⟩ := wipe_get h
      exact ⟨h1, by simp only [List.mem_cons, not_or]; exact ⟨fun e => hi e.symm, h2⟩⟩
theorem lnwipe_len : ∀ (vs : List Nat) (ρ : Rho), (Ln.wipe ρ vs).length = ρ.length
  | [], _ => rfl
  | v :: vs, ρ => by unfold Ln.wipe; rw [List.length_set, lnwipe_len vs ρ]
theorem wipe_out' {σ : L2.St} {i : Nat} : ∀ {vs : List Nat}, i ∉ vs → (L2.wipe σ vs)[i]? = σ[i]?
  | [], _ => rfl
  | v :: vs, h => by
    unfold L2.wipe
    rw [List.getElem?_set_ne (fun z => h (by rw [z]; exact List.mem_cons_self))]
    exact wipe_out' fun z => h (List.mem_cons_of_mem _ z)
theorem wipe_in {σ : L2.St} {i : Nat} : ∀ {vs : List Nat}, i ∈ vs → (L2.wipe σ vs)[i]? = if i < σ.length then some none else none
  | v :: vs, h => by
    unfold L2.wipe
    by_cases hv : v = i
    · subst hv
      by_cases hl : v < σ.length
      · rw [List.getElem?_set_self (by rw [L2.wipe_length]; exact hl), if_pos hl]
      · rw [List.getElem?_eq_none (by rw [List.length_set, L2.wipe_length]; omega), if_neg hl]
    · rw [List.getElem?_set_ne hv]
      exact wipe_in ((List.mem_cons.mp h).resolve_left fun z => hv z.symm)
theorem RE.wipe {K : Frag} {H : Hp} {α : Al} {ρ : Rho} {σ : L2.St} (r : RE K H α ρ σ) (vs : List Nat) : RE K H α (Ln.wipe ρ vs) (L2.wipe σ vs) := by
  refine ⟨by rw [lnwipe_len, L2.wipe_length]; exact r.len, fun i d h => ?_⟩
  obtain ⟨h1, h2⟩ := wipe_get h
  obtain ⟨v, e1, e2⟩ := r.get i d h1
  exact ⟨v, by rw [wipe_out' h2]; exact e1, e2⟩
theorem wipe_same {σ σ2 : L2.St} {vs is : List Nat} (h : Sto is (L2.wipe σ vs) σ2) (hs : ∀ i ∈ is, i ∈ vs) : L2.wipe σ2 vs = L2.wipe σ vs := by
  apply List.ext_getElem?
  intro i
  by_cases hi : i ∈ vs
  · rw [wipe_in hi, wipe_in hi]
    have := h.1
    rw [L2.wipe_length] at this
    rw [this]
  · rw [wipe_out' hi, h.2 i fun z => hi (hs i z)]

/-- what is left of a comprehension's work -/
theorem mapO_cons {step : D → M (Option D)} {x : D} {xs : List D} : Ln.mapO step (x :: xs) = M.bind (step x) (fun o => match o with | none => Ln.mapO step xs | some y => M.bind (Ln.mapO step xs) fun ys => M.ret (y :: ys)) := rfl
theorem drop_get {xs : List D} {i : Nat} {d : D} (h : xs[i]? = some d) : xs.drop i = d :: xs.drop (i + 1) := by
  obtain ⟨hi, e⟩ := List.getElem?_eq_some_iff.mp h
  rw [← e]
  exact List.drop_eq_getElem_cons hi

section
variable {X : Cx} {cf : Nat → List D → M D} {pos : Pos} {elt tg iter : Expr} {ifs : List Expr} {scope : Scope} {own : List (Str × Nat)} {itg : Ln.Tg} {iit : Ln.It} {iifs : Ln.Es} {ielt : Ln.E}
/-- the reading of a comprehension from what the evaluator says -/
theorem lc_read {E : XS} {σ : L2.St} {H : Hp} {Q : VK} {vs : List Nat} (hs : ∀ i ∈ tgIdx itg, i ∈ vs) (h : TI X.K E (Ln.ev cf (.lc ielt itg iit iifs vs)) σ H Q) :
    tLc (TII X.K E (Ln.evi cf iit)) (TGI X.K itg) (TTI X.K X0 (Ln.evts cf iifs)) (TI X.K X0 (Ln.ev cf ielt)) vs σ H Q := by
  obtain ⟨ρ, α, S, rs, re, p⟩ := h
  simp only [Ln.ev] at p
  refine ⟨ρ, α, S, rs, re, p.bind.mono fun xs S1 H1 α1 _ q hlen J wk L hL => ?_⟩
  obtain ⟨af, p⟩ := q
  have re1 := af.re re
  -- the state ahead of turn i: what was made so far, what is left to be made
  generalize hstep : Ln.lcK ρ itg vs (fun ρ' => Ln.evts cf iifs ρ') (fun ρ' => Ln.ev cf ielt ρ') = step at p
  have fr : ¬ α1.has L := af.rs.free hL
  let Inv0 : Nat → Hp → Prop := fun i H2 => ∃ α2 S2 acc vacc, After X.K α1 H1 α2 H2 S2 ∧ L ∈ α2.x ∧ H2 L = some (.lst vacc) ∧ RDs X.K H2 α2 acc vacc ∧ acc.length ≤ i ∧ i ≤ xs.length ∧
    Pst X.K E H1 α1 (M.bind (M.nox (Ln.mapO step (xs.drop i))) (fun ys => M.ret (.lst (acc ++ ys))) S2) fun d _ H' α' => ∀ v, RD X.K H' α' d v → Q v H'
  refine ⟨fun i m H2 => m = xs.length - i ∧ Inv0 i H2, ⟨xs.length, rfl, ?_⟩, ?_⟩
  · refine ⟨⟨α1.h, L :: α1.x, α1.z⟩, S1, [], [], ⟨⟨List.prefix_refl _, fun a h => List.mem_cons_of_mem _ h, fun a h => ?_, fun p h n => absurd h n, fun _ h => h⟩, ext_new hL, RS.take af.rs hL⟩, List.mem_cons_self, upd_same, .nil, Nat.le_refl _, Nat.zero_le _, by simpa using p⟩
    rcases List.mem_cons.mp h with z | z
    · rw [z]; exact .inr hL
    · exact .inl z
  · rintro i m H2 ⟨rfl, α2, S2, acc, vacc, a2, hLx, hH, rds, hacc, hi, pi⟩
    have hLh : L ∉ α2.h := fun z => a2.rs.dis L z hLx
    by_cases hlt : i < xs.length
    · -- one more turn
      refine .inr ⟨wk.go i H2 α2 S2 a2 hlt, Inv0 (i + 1), fun H' n => ⟨xs.length - (i + 1), by omega, rfl, n⟩, fun x H' hy => ?_⟩
      obtain ⟨d, hd⟩ : ∃ d, xs[i]? = some d := ⟨xs[i], List.getElem?_eq_getElem hlt⟩
      obtain ⟨ay, rd⟩ := wk.yld i H2 α2 S2 d x H' a2 hd hy
      rw [drop_get hd] at pi
      have a3 := a2.trans ay
      -- what one turn does
      have turn : ∀ {o : Option D} {S4 : Store}, step d S2 = .ok o S4 → Pst X.K E H1 α1 (M.bind (M.nox (Ln.mapO step (xs.drop (i + 1)))) (fun ys => M.ret (.lst (acc ++ o.toList ++ ys))) S4) fun d _ H' α' => ∀ v, RD X.K H' α' d v → Q v H' := fun {o S4} e => by
        have e1 : M.bind (M.nox (Ln.mapO step (d :: xs.drop (i + 1)))) (fun ys => M.ret (D.lst (acc ++ ys))) S2 = M.bind (M.nox (Ln.mapO step (xs.drop (i + 1)))) (fun ys => M.ret (.lst (acc ++ o.toList ++ ys))) S4 := by
          unfold M.bind M.nox
          rw [mapO_cons, bind_ok e]
          cases o with
          | none =>
            simp only [Option.toList_none, List.append_nil]
          | some y =>
            simp only [Option.toList_some, List.append_assoc, List.singleton_append]
            unfold M.bind
            cases Ln.mapO step (xs.drop (i + 1)) S4 <;> rfl
        rw [e1] at pi
        exact pi
      have bad : (step d S2 = .err ∨ ∃ x S4, step d S2 = .exc x S4) → False := fun e => by
        have e1 : M.bind (M.nox (Ln.mapO step (d :: xs.drop (i + 1)))) (fun ys => M.ret (D.lst (acc ++ ys))) S2 = .err := by
          unfold M.bind M.nox
          rw [mapO_cons]
          rcases e with e | ⟨x, S4, e⟩
          · rw [bind_err e]
          · rw [bind_exc e]
        rw [e1] at pi
        exact pi
      have hst : step d = Ln.lcK ρ itg vs (fun ρ' => Ln.evts cf iifs ρ') (fun ρ' => Ln.ev cf ielt ρ') d := by rw [hstep]
      cases et : Ln.setTg (Ln.wipe ρ vs) itg d with
      | none => exact (bad (.inl (by rw [hst]; unfold Ln.lcK; rw [et]; rfl))).elim
      | some ρ' =>
      have hst' : step d = M.bind (Ln.evts cf iifs ρ') fun k => if k then M.bind (Ln.ev cf ielt ρ') fun y => M.ret (some y) else M.ret none := by rw [hst]; unfold Ln.lcK; rw [et]
      refine ⟨Ln.wipe ρ vs, α2, S2, d, ρ', ay.rs, (a3.re re1).wipe vs, rd, et, fun σ' re2 sto => ⟨wipe_same sto hs, ρ', α2, S2, ay.rs, re2, ?_⟩⟩
      cases ek : Ln.evts cf iifs ρ' S2 with
      | err => exact bad (.inl (by rw [hst', bind_err ek]))
      | exc z S4 => exact (bad (.inr ⟨z, S4, by rw [hst', bind_exc ek]⟩)).elim
      | ok k S3 =>
        intro H3 α3 a4
        have a5 := a3.trans a4
        have hL3 : L ∈ α3.x := a4.grow.sx L hLx
        have hH3 : H3 L = some (.lst vacc) := a4.ext.keep L _ (ay.ext.keep L _ hH fun z => absurd z hLh) fun z => absurd z hLh
        cases k with
        | false =>
          refine iteF ⟨α3, S3, acc, vacc, a5, hL3, hH3, a4.rds (ay.rds rds), by omega, hlt, ?_⟩
          have := turn (o := none) (S4 := S3) (by rw [hst', bind_ok ek]; rfl)
          simpa using this
        | true =>
          refine iteT ⟨ρ', α3, S3, a4.rs, a4.re re2, ?_⟩
          cases ee : Ln.ev cf ielt ρ' S3 with
          | err => exact bad (.inl (by rw [hst', bind_ok ek, if_pos rfl, bind_err ee]))
          | exc z S4 => exact (bad (.inr ⟨z, S4, by rw [hst', bind_ok ek, if_pos rfl, bind_exc ee]⟩)).elim
          | ok y S4 =>
            intro H4 α4 a6 v rv
            have hL4 : L ∈ α4.x := a6.grow.sx L hL3
            have hLh3 : L ∉ α3.h := fun z => a4.rs.dis L z hL3
            have hH4 : H4 L = some (.lst vacc) := a6.ext.keep L _ hH3 fun z => absurd z hLh3
            have a7 := a5.trans a6
            have rds4 := a6.rds (a4.rds (ay.rds rds))
            refine ⟨vacc, hH4, by rw [← rds4.length]; omega, α4, S4, acc ++ [y], vacc ++ [v], ⟨a7.grow, ⟨fun a o e hm => ?_⟩, a7.rs.write hH4 hL4⟩, hL4, upd_same, (rds4.append (.cons rv .nil)).map (mp_write hH4 hL4), by rw [List.length_append]; simp only [List.length_singleton]; omega, hlt, ?_⟩
            · rw [upd_ne (ne_of_none e hL)]
              exact a7.ext.keep a o e hm
            · have := turn (o := some y) (S4 := S4) (by rw [hst', bind_ok ek, if_pos rfl, bind_ok ee]; rfl)
              simpa using this
    · -- the end
      refine .inl ⟨wk.stop i H2 α2 S2 a2 (by omega), ?_⟩
      rw [List.drop_eq_nil_of_le (by omega)] at pi
      have e1 : M.bind (M.nox (Ln.mapO step [])) (fun ys => M.ret (D.lst (acc ++ ys))) S2 = .ok (.lst acc) S2 := by
        show R.ok (D.lst (acc ++ [])) S2 = _
        rw [List.append_nil]
      rw [e1] at pi
      have sub : ∀ a ∈ α2.x.filter (fun b => decide (b ≠ L)), a ∈ α2.x := fun a h => (List.mem_filter.mp h).1
      have aE : After X.K α1 H1 ⟨α2.h, α2.x.filter (fun b => decide (b ≠ L)), α2.z⟩ H2 S2 := by
        refine ⟨⟨a2.grow.pre, fun a h => List.mem_filter.mpr ⟨a2.grow.sx a h, decide_eq_true fun z => fr (.inr (z ▸ h))⟩, fun a h => a2.grow.sn a (sub a h), a2.grow.new, a2.grow.zz⟩, ⟨a2.ext.keep⟩, RS.give (h := α2.h) (x := α2.x) sub a2.rs⟩
      refine pi _ _ aE _ (.lst (fun z => ?_) hH (rds.map (mp_give (h := α2.h) (x := α2.x) sub)))
      rcases z with z | z
      · exact hLh z.1
      · exact absurd rfl (of_decide_eq_true (List.mem_filter.mp z).2)
/-- [elt for tg in iter if ..] -/
theorem je_lc {E : XS} (hc : X.calm = true) (hN : X.N.Nodup) (hi : JI X E tg iter (Ln.evi cf iit)) (ok : BlkOk X.N X.env.scope scope own) (hs : ∀ i ∈ tgIdx itg, i ∈ own.map (·.2))
    (hg : ∀ (s : Shared) (H : Hp) (C : Addr) (cl : List (Str × Addr)) (fp : List Addr), JG (X.blk s H scope (compEnvC scope cl C X.env) fp) tg itg)
    (ht : ∀ (s : Shared) (H : Hp) (C : Addr) (cl : List (Str × Addr)) (fp : List Addr), JTs (X.blk s H scope (compEnvC scope cl C X.env) fp) X0 ifs (Ln.evts cf iifs))
    (he : ∀ (s : Shared) (H : Hp) (C : Addr) (cl : List (Str × Addr)) (fp : List Addr), JE (X.blk s H scope (compEnvC scope cl C X.env) fp) X0 elt (Ln.ev cf ielt)) (hf : ∀ x, foldedSetIterable iter X.env x = pure x) :
    JE X E (.ListComp elt [⟨tg, iter, ifs, 0⟩] scope pos) (Ln.ev cf (.lc ielt itg iit iifs (own.map (·.2)))) :=
  pe_w (pe_lc hc hN hi ok hg ht he hf) fun σ H Q h => lc_read hs h
end
end LnS

set_option linter.all false
set_option maxRecDepth 100000
/-! Ln: statements. -/
namespace LnS
open PySem L2 PyProof.Rows
open Ln (D O Store Rho M R Ex)

abbrev JS (X : Cx) (E : XS) (st : Stmt) (m : Rho → M (Ln.Fl × Rho)) : Prop := PS X st (TSI X.K E m)
abbrev JSs (X : Cx) (E : XS) (sts : List Stmt) (m : Rho → M (Ln.Fl × Rho)) : Prop := PSs X sts (TSI X.K E m)

/-! ### targets for what is unpacked -/
theorem pg_or {X : Cx} {e : Expr} {t u : TG} (h1 : PG X e t) (h2 : PG X e u) : PG X e (fun v σ H Q => t v σ H Q ∨ u v σ H Q) :=
  ⟨fun pins s σ H v uu Q I r h => h.elim (h1.run pins s σ H v uu Q I r) (h2.run pins s σ H v uu Q I r)⟩
def TUI (K : Frag) (is : List Nat) : TG := fun v σ H Q => ∃ ρ α S d xs ρ', RS K H α S ∧ RE K H α ρ σ ∧ RD K H α d v ∧ (d = .tup xs ∨ d = .lst xs) ∧ Ln.setAll ρ is xs = some ρ' ∧ ∀ σ', RE K H α ρ' σ' → Q σ' H
theorem jg_un {X : Cx} {es : List Expr} {is : List Nat} {kk : Nat} {pos : Pos} (hc : X.calm = true) (h : PGs X es (TGsI X.K is))
    (hn : (assignEach es X.env).length = is.length := by rfl) (hst : (assignEach es X.env).findIdx? (·.1) = none := by rfl) : PG X (.Tuple es kk pos) (TUI X.K is) := by
  refine pg_w (pg_or (pg_tup hc h hn hst) (pg_unl hc h hn hst)) fun v σ H Q ⟨ρ, α, S, d, xs, ρ', rs, re, rd, hd, e, k⟩ => ?_
  rcases hd with rfl | rfl
  · cases rd with
    | tup h1 rds => exact .inl ⟨_, _, rfl, h1.sq, by rw [← rds.length]; exact setAll_len e, ρ, α, S, _, ρ', rs, re, rds, e, fun σ' h _ => k σ' h⟩
  · cases rd with
    | lst h0 h1 rds => exact .inr ⟨_, _, rfl, .inl (.inl h1), by rw [← rds.length]; exact setAll_len e, ρ, α, S, _, ρ', rs, re, rds, e, fun σ' h _ => k σ' h⟩

section
variable {X : Cx} {E : XS} {cf : Nat → List D → M D} {w : Nat} {pos : Pos} {e : Expr} {ie : Ln.E} {st : Stmt} {rest : List Stmt} {is_ : Ln.Sm} {ir : Ln.Sms}

/-! ### blocks -/
theorem jss_nil : JSs X E [] (Ln.execs cf w .nil) := pss_w pss_nil fun D σ H ⟨ρ, α, S, rs, re, p⟩ => by
  simp only [Ln.execs] at p
  exact p.ret rs σ re
theorem jss_cons (h1 : JS X E st (Ln.exec cf w is_)) (h2 : JSs X E rest (Ln.execs cf w ir)) : JSs X E (st :: rest) (Ln.execs cf w (.cons is_ ir)) := pss_w (pss_cons h1 h2) fun D σ H ⟨ρ, α, S, rs, re, p⟩ => by
  simp only [Ln.execs] at p
  refine ⟨ρ, α, S, rs, re, p.bind.mono fun r S1 H1 α1 _ ⟨a, q⟩ σ' re' => ?_⟩
  obtain ⟨f, ρ'⟩ := r
  cases f with
  | nx => exact ⟨ρ', α1, S1, a.rs, re', q⟩
  | rt d => exact q.ret a.rs σ' re'
  | bk => exact q.ret a.rs σ' re'
  | ct => exact q.ret a.rs σ' re'
/-- a docstring ahead -/
theorem jss_doc {x j p p'} (h2 : JSs X E rest (Ln.execs cf w ir)) : JSs X E (.Expr (.Constant (.str x) j p) p' :: rest) (Ln.execs cf w ir) := pss_w (pss_cons ps_doc h2) fun D σ H h => h

/-! ### small statements -/
theorem js_bad : JS X E st (Ln.exec cf w .bad) := ps_w ps_never fun D σ H ⟨ρ, α, S, rs, re, p⟩ => p.elim

theorem js_pass : JS X E (.Pass pos) (Ln.exec cf w .pass) := ps_w ps_pass fun D σ H ⟨ρ, α, S, rs, re, p⟩ => by
  simp only [Ln.exec] at p
  exact p.ret rs σ re
theorem js_brk : JS X E (.Break pos) (Ln.exec cf w .brk) := ps_w ps_break fun D σ H ⟨ρ, α, S, rs, re, p⟩ => by
  simp only [Ln.exec] at p
  exact p.ret rs σ re
theorem js_cont : JS X E (.Continue pos) (Ln.exec cf w .cont) := ps_w ps_continue fun D σ H ⟨ρ, α, S, rs, re, p⟩ => by
  simp only [Ln.exec] at p
  exact p.ret rs σ re
theorem js_retN : JS X E (.Return none pos) (Ln.exec cf w .retN) := ps_w ps_retN fun D σ H ⟨ρ, α, S, rs, re, p⟩ => by
  simp only [Ln.exec] at p
  exact p.ret rs σ re _ .non
theorem js_ret (he : JE X E e (Ln.ev cf ie)) : JS X E (.Return (some e) pos) (Ln.exec cf w (.ret ie)) := ps_w (ps_ret he) fun D σ H ⟨ρ, α, S, rs, re, p⟩ => by
  simp only [Ln.exec] at p
  exact ⟨ρ, α, S, rs, re, p.bind.mono fun d S1 H1 α1 _ ⟨a, q⟩ v rv => q.ret a.rs σ (a.re re) v rv⟩
theorem js_expr (he : JE X E e (Ln.ev cf ie)) (hs : swapsWith e none pos.line X.env = pure false := by rfl) : JS X E (.Expr e pos) (Ln.exec cf w (.expr ie)) := ps_w (ps_expr he hs) fun D σ H ⟨ρ, α, S, rs, re, p⟩ => by
  simp only [Ln.exec] at p
  exact ⟨ρ, α, S, rs, re, p.bind.mono fun d S1 H1 α1 _ ⟨a, q⟩ v rv => q.ret a.rs σ (a.re re)⟩
theorem set_at {i : Nat} {D : Ends} {σ : L2.St} {H : Hp} (h : TSI X.K E (Ln.exec cf w (.set i ie)) D σ H) : TI X.K E (Ln.ev cf ie) σ H fun x H1 => gName i x σ H1 D.nx := by
  obtain ⟨ρ, α, S, rs, re, p⟩ := h
  simp only [Ln.exec] at p
  exact ⟨ρ, α, S, rs, re, p.bind.mono fun d S1 H1 α1 _ ⟨a, q⟩ v rv => q.ret a.rs (σ.set i (some v)) ((a.re re).set rv)⟩
theorem js_set {i : Nat} {x : Str} {pos' : Pos} (hN : X.N.Nodup) (hi : X.N[i]? = some x) (hx : Loc X.env.scope x) (he : JE X E e (Ln.ev cf ie)) (hs : swapsWith e (some (.Name x pos')) pos.line X.env = pure false := by rfl) (hf : X.fn x = true ∨ X.env.scope.names.lookup x = some .local := by first | exact .inl rfl | exact .inr rfl | assumption) :
    JS X E (.Assign [.Name x pos'] e pos) (Ln.exec cf w (.set i ie)) := ps_w (ps_set hN hi hx he hs hf) fun D σ H h => set_at h
/-- x = [e for ..] in one row, where x is stored while the comprehension's own names are put back -/
theorem js_setLc {i : Nat} {y : Str} {py cpos : Pos} {elt tg iter : Expr} {ifs : List Expr} {scope : Scope} {own : List (Str × Nat)} {itg : Ln.Tg} {iit : Ln.It} {iifs : Ln.Es} {ielt : Ln.E} (hy : X.N[i]? = some y) (hc : X.calm = true) (hN : X.N.Nodup) (hi : JI X E tg iter (Ln.evi cf iit)) (ok : BlkOk X.N X.env.scope scope own) (hs : ∀ i ∈ tgIdx itg, i ∈ own.map (·.2))
    (hg : ∀ (s : Shared) (H : Hp) (C : Addr) (cl : List (Str × Addr)) (fp : List Addr), JG (X.blk s H scope (compEnvC scope cl C X.env) fp) tg itg)
    (ht : ∀ (s : Shared) (H : Hp) (C : Addr) (cl : List (Str × Addr)) (fp : List Addr), JTs (X.blk s H scope (compEnvC scope cl C X.env) fp) X0 ifs (Ln.evts cf iifs))
    (he : ∀ (s : Shared) (H : Hp) (C : Addr) (cl : List (Str × Addr)) (fp : List Addr), JE (X.blk s H scope (compEnvC scope cl C X.env) fp) X0 elt (Ln.ev cf ielt)) (hf : ∀ x, foldedSetIterable iter X.env x = pure x)
    (hyl : X.env.scope.names.lookup y = some .local := by rfl) (hsw : swapsWith (.ListComp elt [⟨tg, iter, ifs, 0⟩] scope cpos) (some (.Name y py)) pos.line X.env = pure true := by rfl) :
    JS X E (.Assign [.Name y py] (.ListComp elt [⟨tg, iter, ifs, 0⟩] scope cpos) pos) (Ln.exec cf w (.set i (.lc ielt itg iit iifs (own.map (·.2))))) :=
  ps_w (ps_setLc hc hN hy hyl hsw hi ok hg ht he hf) fun D σ H h => lc_read hs (set_at h)
theorem js_setT {es : List Expr} {is : List Nat} {kk : Nat} {pt : Pos} (he : JE X E e (Ln.ev cf ie)) (hg : PG X (.Tuple es kk pt) (TUI X.K is)) (hs : swapsWithSole [.Tuple es kk pt] e pos.line X.env = pure false := by rfl) (hw : swappedStores [.Tuple es kk pt] e X.env = pure none := by rfl)
    (h1 : (assignEach [.Tuple es kk pt] X.env).map (·.2) = [assign (.Tuple es kk pt) X.env] := by rfl) : JS X E (.Assign [.Tuple es kk pt] e pos) (Ln.exec cf w (.setT is ie)) := ps_w (ps_asg he hg hs hw h1) fun D σ H ⟨ρ, α, S, rs, re, p⟩ => by
  simp only [Ln.exec] at p
  refine ⟨ρ, α, S, rs, re, p.bind.mono fun d S1 H1 α1 _ ⟨a, q⟩ v rv => ?_⟩
  have go : ∀ xs, (d = .tup xs ∨ d = .lst xs) → TUI X.K is v σ H1 D.nx := fun xs hd => by
    have q' : Pst X.K E H1 α1 ((match Ln.setAll ρ is xs with | some ρ' => M.ret (Ln.Fl.nx, ρ') | none => M.err) S1) fun p _ H' α' => EndsI X.K D p H' α' := by
      rcases hd with rfl | rfl <;> exact q
    cases e1 : Ln.setAll ρ is xs with
    | none => rw [e1] at q'; exact q'.elim
    | some ρ' =>
      rw [e1] at q'
      exact ⟨ρ, α1, S1, d, xs, ρ', a.rs, a.re re, rv, hd, e1, fun σ' re' => q'.ret a.rs σ' re'⟩
  cases d with
  | tup xs => exact go xs (.inl rfl)
  | lst xs => exact go xs (.inr rfl)
  | _ => exact q.elim
theorem setAll2 {ρ ρ' : Rho} {i j : Nat} {xs : List D} (h : Ln.setAll ρ [i, j] xs = some ρ') : ∃ x y, xs = [x, y] ∧ ρ' = (ρ.set i (some x)).set j (some y) := by
  match xs, h with
  | [x, y], h => cases h; exact ⟨x, y, rfl, rfl⟩
theorem setAll3 {ρ ρ' : Rho} {i j k : Nat} {xs : List D} (h : Ln.setAll ρ [i, j, k] xs = some ρ') : ∃ x y z, xs = [x, y, z] ∧ ρ' = ((ρ.set i (some x)).set j (some y)).set k (some z) := by
  match xs, h with
  | [x, y, z], h => cases h; exact ⟨x, y, z, rfl, rfl⟩
theorem js_par2 {i j : Nat} {x y : Str} {a b : Expr} {px py pt : Pos} {kt k2 pt2} {ies : Ln.Es} (hc : X.calm = true) (hN : X.N.Nodup) (hi : X.N[i]? = some x) (hj : X.N[j]? = some y) (hij : i ≠ j)
    (hx : X.env.scope.names.lookup x = some .local) (hy : X.env.scope.names.lookup y = some .local) (ha : JA X E [a, b] (Ln.evs cf ies))
    (hw : swappedStores [.Tuple [.Name x px, .Name y py] kt pt] (.Tuple [a, b] k2 pt2) X.env = pure (some [x, y]))
    (hs : swapsWithSole [.Tuple [.Name x px, .Name y py] kt pt] (.Tuple [a, b] k2 pt2) pos.line X.env = pure false := by rfl) :
    JS X E (.Assign [.Tuple [.Name x px, .Name y py] kt pt] (.Tuple [a, b] k2 pt2) pos) (Ln.exec cf w (.par [i, j] ies)) := ps_w (ps_par hc hN hi hj hij hx hy ha hw hs) fun D σ H ⟨ρ, α, S, rs, re, p⟩ => by
  simp only [Ln.exec] at p
  refine ⟨ρ, α, S, rs, re, p.bind.mono fun ds S1 H1 α1 _ ⟨a, q⟩ vs rv => ?_⟩
  unfold Ln.parK at q
  cases e1 : Ln.setAll ρ [i, j] ds with
  | none => rw [e1] at q; exact q.elim
  | some ρ' =>
    rw [e1] at q
    obtain ⟨d1, d2, rfl, rfl⟩ := setAll2 e1
    obtain ⟨v1, v2, rfl, r1, r2⟩ := rds2 rv
    exact ⟨v1, v2, rfl, q.ret a.rs _ (((a.re re).set r1).set r2)⟩
theorem rds3 {K : Frag} {H : Hp} {α : Al} {d e f : D} {vs : List V} (r : RDs K H α [d, e, f] vs) : ∃ v w z, vs = [v, w, z] ∧ RD K H α d v ∧ RD K H α e w ∧ RD K H α f z := by
  cases r with
  | cons r1 r =>
    obtain ⟨v, w, rfl, r2, r3⟩ := rds2 r
    exact ⟨_, v, w, rfl, r1, r2, r3⟩
theorem js_par3 {i j l : Nat} {x y z : Str} {a b c : Expr} {px py pz pt : Pos} {kt k2 pt2} {ies : Ln.Es} (hc : X.calm = true) (hN : X.N.Nodup) (hi : X.N[i]? = some x) (hj : X.N[j]? = some y) (hl : X.N[l]? = some z) (hij : i ≠ j) (hil : i ≠ l) (hjl : j ≠ l)
    (hx : X.env.scope.names.lookup x = some .local) (hy : X.env.scope.names.lookup y = some .local) (hz : X.env.scope.names.lookup z = some .local) (ha : JA X E [a, b, c] (Ln.evs cf ies))
    (hw : swappedStores [.Tuple [.Name x px, .Name y py, .Name z pz] kt pt] (.Tuple [a, b, c] k2 pt2) X.env = pure (some [x, y, z]))
    (hs : swapsWithSole [.Tuple [.Name x px, .Name y py, .Name z pz] kt pt] (.Tuple [a, b, c] k2 pt2) pos.line X.env = pure false := by rfl) :
    JS X E (.Assign [.Tuple [.Name x px, .Name y py, .Name z pz] kt pt] (.Tuple [a, b, c] k2 pt2) pos) (Ln.exec cf w (.par [i, j, l] ies)) := ps_w (ps_par3 hc hN hi hj hl hij hil hjl hx hy hz ha hw hs) fun D σ H ⟨ρ, α, S, rs, re, p⟩ => by
  simp only [Ln.exec] at p
  refine ⟨ρ, α, S, rs, re, p.bind.mono fun ds S1 H1 α1 _ ⟨a, q⟩ vs rv => ?_⟩
  unfold Ln.parK at q
  cases e1 : Ln.setAll ρ [i, j, l] ds with
  | none => rw [e1] at q; exact q.elim
  | some ρ' =>
    rw [e1] at q
    obtain ⟨d1, d2, d3, rfl, rfl⟩ := setAll3 e1
    obtain ⟨v1, v2, v3, rfl, r1, r2, r3⟩ := rds3 rv
    exact ⟨v1, v2, v3, rfl, q.ret a.rs _ ((((a.re re).set r1).set r2).set r3)⟩
/-- o[i] = e -/
theorem js_setI {o i : Expr} {io ii : Ln.E} {ps : Pos} (ho : JE X E o (Ln.ev cf io)) (hi : JE X E i (Ln.ev cf ii)) (he : JE X E e (Ln.ev cf ie))
    (ha : ∀ v, assign (.Subscript o i ps) X.env v = (do
      let ov ← holding [v] (eval o X.env)
      let iv ← holding [v, ov] (eval i X.env)
      standAt ps
      holding [v, ov, iv] (setItem ov iv v)
      release [v, ov, iv] []) := by intro _; rfl)
    (hs : swapsWithSole [.Subscript o i ps] e pos.line X.env = pure false := by rfl) (hw : swappedStores [.Subscript o i ps] e X.env = pure none := by rfl)
    (h1 : (assignEach [.Subscript o i ps] X.env).map (·.2) = [assign (.Subscript o i ps) X.env] := by rfl) :
    JS X E (.Assign [.Subscript o i ps] e pos) (Ln.exec cf w (.setI io ii ie)) := ps_w (ps_asg he (pg_sub ho hi set_list ha) hs hw h1) fun D σ H ⟨ρ, α, S, rs, re, p⟩ => by
  simp only [Ln.exec] at p
  refine ⟨ρ, α, S, rs, re, p.bind.mono fun d S1 H1 α1 _ ⟨a1, q⟩ v rv => ?_⟩
  refine ⟨ρ, α1, S1, a1.rs, a1.re re, q.bind.mono fun x S2 H2 α2 _ ⟨a2, q⟩ xv rx => ?_⟩
  refine ⟨ρ, α2, S2, a2.rs, a2.re (a1.re re), q.bind.mono fun k S3 H3 α3 _ ⟨a3, q⟩ kv rk => ?_⟩
  have rv3 := a3.rd (a2.rd rv)
  have rx3 := a3.rd rx
  unfold Ln.setIK at q
  cases rx3 with
  | @ref n _ hn =>
    cases rk with
    | int kk =>
      simp only [] at q
      cases eS : S3[n]? with
      | none => rw [eS] at q; exact q.elim
      | some o =>
        rw [eS] at q
        cases o with
        | dct ks vs => exact q.elim
        | fzl xs => exact q.elim
        | fzd ks vs => exact q.elim
        | lst xs =>
          simp only [] at q
          cases ej : Ln.place xs.length kk with
          | none => rw [ej] at q; exact q.elim
          | some j =>
            rw [ej] at q
            obtain ⟨vs, hH, rds⟩ := a3.rs.at_ _ _ _ hn eS
            refine ⟨_, vs, kk, j, rfl, rfl, hH, by rw [← rds.length]; exact ej, ?_⟩
            have rds' : RDs X.K H3 α3 (xs.set j d) (vs.set j v) := RDs.set rv3 j rds
            have af := After.put a3.rs hn eS rfl rds'
            exact q _ _ af σ (af.re (a3.re (a2.re (a1.re re))))
    | _ => exact q.elim
  | _ => cases rk <;> exact q.elim
theorem js_augAdd {i : Nat} {x : Str} {pos' : Pos} (hN : X.N.Nodup) (hi : X.N[i]? = some x) (hx : Loc X.env.scope x) (he : JE X E e (Ln.ev cf ie)) (hf : X.fn x = true ∨ X.env.scope.names.lookup x = some .local := by first | exact .inl rfl | exact .inr rfl | assumption) :
    JS X E (.AugAssign (.Name x pos') .Add e pos) (Ln.exec cf w (.aug i .add ie)) := ps_w (ps_aug hN hi hx he ip_add hf) fun D σ H ⟨ρ, α, S, rs, re, p⟩ => by
  simp only [Ln.exec] at p
  unfold Ln.getV at p
  cases eg : ρ[i]? with
  | none => rw [eg] at p; exact p.bind.elim
  | some o =>
    cases o with
    | none => rw [eg] at p; exact p.bind.elim
    | some d =>
      rw [eg] at p
      obtain ⟨v, e1, rd⟩ := re.get i d eg
      have p1 := (p.bind.ret rs).2.bind
      refine ⟨v, e1, ρ, α, S, rs, re, p1.mono fun y S1 H1 α1 _ ⟨a, q⟩ yv ry => ?_⟩
      have rd1 := a.rd rd
      cases rd1 with
      | int m =>
        cases ry with
        | int n =>
          have q' := q.ret a.rs
          exact ⟨m, n, rfl, rfl, q' _ ((a.re re).set (.int _))⟩
        | _ => exact q.elim
      | _ => cases ry <;> exact q.elim
theorem js_augSub {i : Nat} {x : Str} {pos' : Pos} (hN : X.N.Nodup) (hi : X.N[i]? = some x) (hx : Loc X.env.scope x) (he : JE X E e (Ln.ev cf ie)) (hf : X.fn x = true ∨ X.env.scope.names.lookup x = some .local := by first | exact .inl rfl | exact .inr rfl | assumption) :
    JS X E (.AugAssign (.Name x pos') .Sub e pos) (Ln.exec cf w (.aug i .sub ie)) := ps_w (ps_aug hN hi hx he ip_sub hf) fun D σ H ⟨ρ, α, S, rs, re, p⟩ => by
  simp only [Ln.exec] at p
  unfold Ln.getV at p
  cases eg : ρ[i]? with
  | none => rw [eg] at p; exact p.bind.elim
  | some o =>
    cases o with
    | none => rw [eg] at p; exact p.bind.elim
    | some d =>
      rw [eg] at p
      obtain ⟨v, e1, rd⟩ := re.get i d eg
      have p1 := (p.bind.ret rs).2.bind
      refine ⟨v, e1, ρ, α, S, rs, re, p1.mono fun y S1 H1 α1 _ ⟨a, q⟩ yv ry => ?_⟩
      have rd1 := a.rd rd
      cases rd1 with
      | int m =>
        cases ry with
        | int n =>
          have q' := q.ret a.rs
          exact ⟨m, n, rfl, rfl, q' _ ((a.re re).set (.int _))⟩
        | _ => exact q.elim
      | _ => cases ry <;> exact q.elim
/-! ### branches, loops -/
theorem js_if {c : Expr} {a b : List Stmt} {ic : Ln.E} {ia ib : Ln.Sms} (hc : JT X E c (Ln.evT cf ic)) (ha : JSs X E a (Ln.execs cf w ia)) (hb : JSs X E b (Ln.execs cf w ib)) : JS X E (.If c a b pos) (Ln.exec cf w (.cond ic ia ib)) := ps_w (ps_if hc ha hb) fun D σ H ⟨ρ, α, S, rs, re, p⟩ => by
  simp only [Ln.exec] at p
  refine ⟨ρ, α, S, rs, re, p.bind.mono fun k S1 H1 α1 _ ⟨a, q⟩ => ?_⟩
  cases k with
  | true => exact ⟨ρ, α1, S1, a.rs, a.re re, q⟩
  | false => exact ⟨ρ, α1, S1, a.rs, a.re re, q⟩
theorem js_for {tg iter : Expr} {body : List Stmt} {itg : Ln.Tg} {iit : Ln.It} {ib : Ln.Sms} (hp : PassesOwn (model X.prog X.w) X.A X.env X.xe) (hc : X.calm = true) (hi : JI X E tg iter (Ln.evi cf iit)) (hg : JG X tg itg) (hb : JSs X E body (Ln.execs cf w ib))
    (hs : ∀ x, foldedSetIterable iter X.env x = pure x := by intro _; rfl) : JS X E (.For tg iter body [] pos) (Ln.exec cf w (.loop itg iit ib)) := ps_w (ps_for hp hc hi hg hb hs) fun D σ H ⟨ρ, α, S, rs, re, p⟩ => by
  simp only [Ln.exec] at p
  refine ⟨ρ, α, S, rs, re, p.bind.mono fun xs S1 H1 α1 _ ⟨af, p⟩ hlen J wk => ?_⟩
  generalize hstep : (Ln.loopK itg fun ρ => Ln.execs cf w ib ρ) = step at p
  refine ⟨fun i m σ2 H2 => m = xs.length - i ∧ i ≤ xs.length ∧ ∃ α2 S2 ρ2, After X.K α1 H1 α2 H2 S2 ∧ RE X.K H2 α2 ρ2 σ2 ∧ Pst X.K E H2 α2 (Ln.forL step (xs.drop i) ρ2 S2) fun p _ H' α' => EndsI X.K D p H' α', ⟨xs.length, rfl, Nat.zero_le _, α1, S1, ρ, .refl af.rs, af.re re, by simpa using p⟩, ?_⟩
  rintro i m σ2 H2 ⟨rfl, hi, α2, S2, ρ2, a2, re2, p2⟩
  by_cases hlt : i < xs.length
  · refine .inr ⟨wk.go i H2 α2 S2 a2 hlt, fun σ' H' => i + 1 ≤ xs.length ∧ ∃ α2 S2 ρ2, After X.K α1 H1 α2 H' S2 ∧ RE X.K H' α2 ρ2 σ' ∧ Pst X.K E H' α2 (Ln.forL step (xs.drop (i + 1)) ρ2 S2) fun p _ H' α' => EndsI X.K D p H' α', fun σ' H' n => ⟨xs.length - (i + 1), by omega, rfl, n⟩, fun x H' hy => ?_⟩
    obtain ⟨d, hd⟩ : ∃ d, xs[i]? = some d := ⟨xs[i], List.getElem?_eq_getElem hlt⟩
    obtain ⟨ay, rd⟩ := wk.yld i H2 α2 S2 d x H' a2 hd hy
    rw [drop_get hd] at p2
    unfold Ln.forL at p2
    have p3 := p2.bind.move ay
    have hst : step d ρ2 = match Ln.setTg ρ2 itg d with | some ρ' => Ln.execs cf w ib ρ' | none => M.err := by rw [← hstep]; rfl
    cases et : Ln.setTg ρ2 itg d with
    | none => rw [hst, et] at p3; exact p3.elim
    | some ρ' =>
    rw [hst, et] at p3
    refine ⟨ρ2, α2, S2, d, ρ', ay.rs, ay.re re2, rd, et, fun σ3 re3 _ => ⟨ρ', α2, S2, ay.rs, re3, p3.mono fun r S4 H4 α4 a4 ⟨_, q⟩ σ4 re4 => ?_⟩⟩
    obtain ⟨f, ρ4⟩ := r
    have a5 := (a2.trans ay).trans a4
    cases f with
    | nx => exact ⟨hlt, α4, S4, ρ4, a5, re4, q⟩
    | ct => exact ⟨hlt, α4, S4, ρ4, a5, re4, q⟩
    | bk => exact q.ret a4.rs σ4 re4
    | rt d => exact q.ret a4.rs σ4 re4
  · rw [List.drop_eq_nil_of_le (by omega)] at p2
    exact .inl ⟨wk.stop i H2 α2 S2 a2 (by omega), p2.ret a2.rs σ2 re2⟩
theorem js_while {c : Expr} {body : List Stmt} {ic : Ln.E} {ib : Ln.Sms} (hp : PassesOwn (model X.prog X.w) X.A X.env X.xe) (hc : JT X E c (Ln.evT cf ic)) (hb : JSs X E body (Ln.execs cf w ib)) : JS X E (.While c body [] pos) (Ln.exec cf w (.while ic ib)) := ps_w (ps_while hp hc hb) fun D σ H ⟨ρ, α, S, rs, re, p⟩ => by
  simp only [Ln.exec] at p
  refine ⟨fun m σ2 H2 => ∃ α2 S2 ρ2, RS X.K H2 α2 S2 ∧ RE X.K H2 α2 ρ2 σ2 ∧ Pst X.K E H2 α2 (Ln.whileL (fun ρ => Ln.evT cf ic ρ) (fun ρ => Ln.execs cf w ib ρ) m ρ2 S2) fun p _ H' α' => EndsI X.K D p H' α', ⟨w, α, S, ρ, rs, re, p⟩, ?_⟩
  rintro m σ2 H2 ⟨α2, S2, ρ2, rs2, re2, p2⟩
  cases m with
  | zero => exact p2.elim
  | succ m =>
    unfold Ln.whileL at p2
    refine ⟨ρ2, α2, S2, rs2, re2, p2.bind.mono fun k S3 H3 α3 _ ⟨a3, q⟩ => ?_⟩
    cases k with
    | true =>
      rw [if_pos rfl] at q ⊢
      refine ⟨_, fun σ' H' n => ⟨m, Nat.lt_succ_self _, n⟩, ρ2, α3, S3, a3.rs, a3.re re2, q.bind.mono fun r S4 H4 α4 _ ⟨a4, q⟩ σ4 re4 => ?_⟩
      obtain ⟨f, ρ4⟩ := r
      cases f with
      | nx => exact ⟨α4, S4, ρ4, a4.rs, re4, q⟩
      | ct => exact ⟨α4, S4, ρ4, a4.rs, re4, q⟩
      | bk => exact q.ret a4.rs σ4 re4
      | rt d => exact q.ret a4.rs σ4 re4
    | false =>
      rw [if_neg Bool.false_ne_true] at q ⊢
      exact q.ret a3.rs σ2 (a3.re re2)
end
end LnS

set_option linter.all false
set_option maxRecDepth 100000
/-! Ln: methods; sorted. -/
namespace LnS
open PySem PySem.Spec L2 PyProof.Rows
open Ln (D O Store Rho M R Ex)
section
variable {X : Cx} {E : XS} {cf : Nat → List D → M D} {o a : Expr} {es : List Expr} {io ia : Ln.E} {ies : Ln.Es} {apos cpos : Pos}
/-! ### a method of a tuple -/
def tTM (K : Frag) (r : V → List V → Hp → VK → Prop) (to : TE) (t : TA) : TE := fun σ H Q => to σ H fun x H1 => (∃ p xs, x = .ref p ∧ TupS K H1 p xs) ∧ t σ H1 fun xs H2 => r x xs H2 Q
theorem tupS_is {pins : List (Addr × Obj)} {σ : L2.St} {H : Hp} {s : Shared} {p : Addr} {xs : List V} (I : Inv X pins σ H s) (h : TupS X.K H p xs) :
    s.TypeIs (.ref p) "tuple" ∧ ∀ b, Value.ref p = .ref b → ∃ ob, s.heap.get? b = some ob ∧ ob.dict = none := by
  have two : ∃ ob, s.heap.get? p = some ob ∧ ob.dict = none := by
    rcases h with ⟨o, hd, h⟩ | ⟨o, its, n, hd, hk, _⟩
    · exact ⟨o, (I.hok p _ h).1, hd⟩
    · exact ⟨o, I.kIn p o hk, hd⟩
  obtain ⟨its, _, ht, _⟩ := I.tuple h.sq
  exact ⟨ht.typeIs, fun b e => by cases e; exact two⟩
theorem pe_tm {to : TE} {t : TA} {name : Str} {id : String} {r : V → List V → Hp → VK → Prop} (slot : Slot "tuple" name id) (hty : typeOf (.builtin id) = pure (.type "method_descriptor")) (hm : MtR X id r) (ho : PE X o to) (ha : PA X (a :: es) t)
    (hbase : attributeBase o name X.env (eval o X.env) = eval o X.env := by rfl)
    (hfew : ((backTo cpos (starEach (a :: es) X.env)).all (fun x => !x.1) && (backToKw cpos (keywordEach [] X.env)).all (fun x => x.1.isSome)
      && decide ((a :: es).length + ([] : List Keyword).length + (if ([] : List Keyword).isEmpty then 0 else 1) < 30)) = true := by rfl)
    (hline : (apos.endLine == cpos.line) = true := by rfl) (hs : starEach (a :: es) X.env = (false, eval a X.env) :: starEach es X.env := by rfl) (hplain : (backTo cpos (starEach es X.env)).any (·.1) = false := by rfl) :
    PE X (.Call (.Attribute o name apos) (a :: es) [] cpos) (tTM X.K r to t) :=
  ⟨fun pins s σ H Q I h => wpAny_Call_method_late hbase hfew hline rfl (thn (ho.run pins s σ H _ I h) fun v s1 hx => by
    obtain ⟨x, H1, I1, r1, ⟨p, xs, ex, ht⟩, q1⟩ := hx
    subst ex
    cases r1
    obtain ⟨h1, h2⟩ := tupS_is I1 ht
    refine ⟨"tuple", id, PySem.F.plainAttrs_tuple, slot, hty, h1, h2, ?_⟩
    have hA := ha.run cpos pins s1 σ H1 _ I1 q1
    rw [hs] at hA ⊢
    refine Calls.callWith_builtin (show (false || (backTo cpos (starEach es X.env)).any (·.1)) = false from ?_) (Calls.evalArgs_plain (thn hA fun us s2 hy => ?_))
    · rw [hplain]
      rfl
    · obtain ⟨vs, H2, I2, r2, q2⟩ := hy
      exact hm pins s2 σ H2 (.ref p) vs _ us Q I2 rfl r2 q2)⟩
/-- t.count(x), texts -/
theorem mt_tup_count : MtR X "tuple.count" (fun x xs H Q => ∃ p, ∃ ys : List Str, ∃ z, x = .ref p ∧ xs = [.str z] ∧ SqT X.K H p (ys.map V.str) ∧ Q (.int (ys.count z : Nat)) H) := by
  intro pins s σ H x xs v us Q I rx rs h
  obtain ⟨p, ys, z, ex, ey, hq, q⟩ := h
  subst ex ey
  cases rx
  obtain ⟨u, eu, t, et⟩ := vals1 rs
  subst eu et
  obtain ⟨its, r, pl, hz⟩ := I.tuple hq
  obtain ⟨⟨cls, dd, dt, sl⟩, ho, hc, n, hd⟩ := pl
  simp only at hc hd
  subst hc hd
  refine call_meets PySem.F.slot_tuple_count ⟨_, ho, rfl⟩ PySem.F.entry_tuple_count (PySem.F.args_tuple_count_2 _ _) (SeqAt.tuple_countAt p its.toArray n dd sl (.str z t) (eqU (.str z)))
    ⟨ho, fun w hw => mem_eqAt (x := .str z) ⟨t, rfl⟩ rfl r (flat_strs ys) w (by simpa using hw), ?_⟩
  have ec : ∀ {ys : List Str} {its : List Value}, Vals (ys.map V.str) its → its.countP (eqU (.str z)) = ys.count z := fun {ys} => by
    induction ys with
    | nil => intro its r; cases r; rfl
    | cons y ys ih =>
      intro its r
      cases r with
      | cons r1 r2 =>
        obtain ⟨t', e⟩ := r1
        subst e
        rw [List.countP_cons, ih r2, List.count_cons]
        rfl
  have e2 : its.toArray.toList.countP (eqU (.str z)) = ys.count z := ec r
  refine ⟨.int (ys.count z : Nat), H, I.tok _, ⟨s.toks, ?_⟩, q⟩
  show Value.int ((its.toArray.toList.countP (eqU (.str z)) : Nat) : Int) s.toks = _
  rw [e2]
/-- what the evaluator says of a method's call -/
theorem mth_at {b : Ln.Blt} {σ : L2.St} {H : Hp} {Q : VK} (h : TI X.K E (Ln.ev cf (.mth b io ies)) σ H Q) : TI X.K E (Ln.ev cf io) σ H fun x H1 => ∃ (ρ : Rho) (α : Al) (S : Store) (dx : D), RS X.K H1 α S ∧ RE X.K H1 α ρ σ ∧ RD X.K H1 α dx x ∧ Ln.mthOk b dx S = some () ∧
    TAI X.K E (Ln.evs cf ies) σ H1 fun vs H2 => ∃ (α2 : Al) (S2 : Store) (ds : List D), RS X.K H2 α2 S2 ∧ RD X.K H2 α2 dx x ∧ (∀ (n : Nat) (p : Addr), α.h[n]? = some p → α2.h[n]? = some p) ∧ RDs X.K H2 α2 ds vs ∧ Pst X.K E H2 α2 (Ln.blt b (dx :: ds) S2) fun d _ H' α' => ∀ v, RD X.K H' α' d v → Q v H' := by
  obtain ⟨ρ, α, S, rs, re, p⟩ := h
  simp only [Ln.ev] at p
  refine ⟨ρ, α, S, rs, re, p.bind.mono fun dx S1 H1 α1 _ q v rd => ?_⟩
  obtain ⟨_, e, q2⟩ := q.2.bind.opt q.1.rs
  refine ⟨ρ, α1, S1, dx, q.1.rs, q.1.re re, rd, e, ρ, α1, S1, q.1.rs, q.1.re re, q2.2.bind.mono fun ds S2 H2 α2 _ q3 vs rds => ?_⟩
  exact ⟨α2, S2, ds, q3.1.rs, q3.1.rd rd, fun n p h => q3.1.grow.get h, rds, q3.2⟩
theorem je_tindex (ho : JE X E o (Ln.ev cf io)) (ha : JA X E [a] (Ln.evs cf ies)) (hbase : attributeBase o "index" X.env (eval o X.env) = eval o X.env := by rfl)
    (hfew : ((backTo cpos (starEach [a] X.env)).all (fun x => !x.1) && (backToKw cpos (keywordEach [] X.env)).all (fun x => x.1.isSome)
      && decide ([a].length + ([] : List Keyword).length + (if ([] : List Keyword).isEmpty then 0 else 1) < 30)) = true := by rfl)
    (hline : (apos.endLine == cpos.line) = true := by rfl) (hs : starEach [a] X.env = (false, eval a X.env) :: starEach [] X.env := by rfl) (hplain : (backTo cpos (starEach [] X.env)).any (·.1) = false := by rfl) :
    JE X E (.Call (.Attribute o "index" apos) [a] [] cpos) (Ln.ev cf (.mth .tindex io ies)) :=
  pe_w (pe_tm PySem.F.slot_tuple_index PySem.F.type_tuple_index mt_tup_index ho ha hbase hfew hline hs hplain) fun σ H Q h => by
    obtain ⟨ρ, α, S, rs, re, p⟩ := mth_at h
    refine ⟨ρ, α, S, rs, re, p.mono fun dx S1 H1 α1 _ q v rd => ?_⟩
    obtain ⟨ρ1, α1, S1, dx, rs1, re1, rd1, e, q⟩ := q v rd
    cases rd1 with
    | tup h1 rds =>
      refine ⟨⟨_, _, rfl, h1⟩, ?_⟩
      obtain ⟨ρ2, α2, S2, rs2, re2, q⟩ := q
      refine ⟨ρ2, α2, S2, rs2, re2, q.mono fun ds S3 H3 α3 _ q vs rvs => ?_⟩
      obtain ⟨α4, S4, ds, rs4, rd4, _, rds4, p4⟩ := q vs rvs
      cases rd4 with
      | tup h4 rds5 =>
      obtain ⟨d, e4, p5⟩ := (show Pst _ _ _ _ (M.opt (Ln.blt0 .tindex (_ :: ds)) S4) _ from p4).opt rs4
      simp only [Ln.blt0, Ln.tindexF] at e4
      split at e4
      · rename_i xs z heq
        cases heq
        obtain ⟨v1, rfl, r1⟩ := rds1 rds4
        cases r1
        rw [Option.bind_eq_some_iff] at e4
        obtain ⟨ys, e5, e6⟩ := e4
        split at e6
        · rename_i hz
          cases e6
          have ev := rds5.strsD e5
          rw [ev] at h4
          have hi := List.idxOf_lt_length_of_mem hz
          refine ⟨_, ys, z, ys.idxOf z, rfl, rfl, h4.sq, ?_, fun m hm hc => ?_, p5 _ (.int _)⟩
          · rw [List.getElem?_eq_getElem hi, List.getElem_idxOf]
          · obtain ⟨hl, hc⟩ := List.getElem?_eq_some_iff.mp hc
            have := List.not_of_lt_findIdx (p := (· == z)) (xs := ys) (i := m) hm
            rw [hc] at this
            simp at this
        · cases e6
      · cases e4
    | _ => simp [Ln.mthOk] at e
theorem je_tcount (ho : JE X E o (Ln.ev cf io)) (ha : JA X E [a] (Ln.evs cf ies)) (hbase : attributeBase o "count" X.env (eval o X.env) = eval o X.env := by rfl)
    (hfew : ((backTo cpos (starEach [a] X.env)).all (fun x => !x.1) && (backToKw cpos (keywordEach [] X.env)).all (fun x => x.1.isSome)
      && decide ([a].length + ([] : List Keyword).length + (if ([] : List Keyword).isEmpty then 0 else 1) < 30)) = true := by rfl)
    (hline : (apos.endLine == cpos.line) = true := by rfl) (hs : starEach [a] X.env = (false, eval a X.env) :: starEach [] X.env := by rfl) (hplain : (backTo cpos (starEach [] X.env)).any (·.1) = false := by rfl) :
    JE X E (.Call (.Attribute o "count" apos) [a] [] cpos) (Ln.ev cf (.mth .tcount io ies)) :=
  pe_w (pe_tm PySem.F.slot_tuple_count PySem.F.type_tuple_count mt_tup_count ho ha hbase hfew hline hs hplain) fun σ H Q h => by
    obtain ⟨ρ, α, S, rs, re, p⟩ := mth_at h
    refine ⟨ρ, α, S, rs, re, p.mono fun dx S1 H1 α1 _ q v rd => ?_⟩
    obtain ⟨ρ1, α1, S1, dx, rs1, re1, rd1, e, q⟩ := q v rd
    cases rd1 with
    | tup h1 rds =>
      refine ⟨⟨_, _, rfl, h1⟩, ?_⟩
      obtain ⟨ρ2, α2, S2, rs2, re2, q⟩ := q
      refine ⟨ρ2, α2, S2, rs2, re2, q.mono fun ds S3 H3 α3 _ q vs rvs => ?_⟩
      obtain ⟨α4, S4, ds, rs4, rd4, _, rds4, p4⟩ := q vs rvs
      cases rd4 with
      | tup h4 rds5 =>
      obtain ⟨d, e4, p5⟩ := (show Pst _ _ _ _ (M.opt (Ln.blt0 .tcount (_ :: ds)) S4) _ from p4).opt rs4
      simp only [Ln.blt0, Ln.tcountF] at e4
      split at e4
      · rename_i xs z heq
        cases heq
        obtain ⟨v1, rfl, r1⟩ := rds1 rds4
        cases r1
        rw [Option.map_eq_some_iff] at e4
        obtain ⟨ys, e5, e6⟩ := e4
        cases e6
        have ev := rds5.strsD e5
        rw [ev] at h4
        exact ⟨_, ys, z, rfl, rfl, h4.sq, p5 _ (.int _)⟩
      · cases e4
    | _ => simp [Ln.mthOk] at e
/-! ### methods of a list of the store -/
theorem lstO {K : Frag} {H : Hp} {α : Al} {S : Store} (rs : RS K H α S) {n : Nat} {p : Addr} {xs : List D} (h : α.h[n]? = some p) (e : S[n]? = some (.lst xs)) : ∃ vs, H p = some (.lst vs) ∧ RDs K H α xs vs := rs.at_ n p _ h e
theorem seqIx {i : Int} {n j : Nat} (h : Ln.place n i = some j) : seqIndex? i n = some j := by
  unfold Ln.place at h
  unfold seqIndex?
  by_cases h0 : 0 ≤ i
  · rw [if_pos h0] at h
    have h1 : ¬ i < 0 := by omega
    by_cases h2 : i < n
    · rw [if_pos h2] at h
      simp only [h1, if_false, h0, h2, decide_true, Bool.and_self, if_true]
      exact h
    · rw [if_neg h2] at h; cases h
  · rw [if_neg h0] at h
    have h1 : i < 0 := by omega
    by_cases h2 : -(n : Int) ≤ i
    · rw [if_pos h2] at h
      have h3 : 0 ≤ i + n := by omega
      have h4 : i + n < n := by omega
      simp only [h1, if_true, h3, h4, decide_true, Bool.and_self]
      exact h
    · rw [if_neg h2] at h; cases h
theorem je_upper (ho : JE X E o (Ln.ev cf io)) (hbase : attributeBase o "upper" X.env (eval o X.env) = eval o X.env := by rfl) (hline : (apos.endLine == cpos.line) = true := by rfl) :
    JE X E (.Call (.Attribute o "upper" apos) [] [] cpos) (Ln.ev cf (.mth .upper io .nil)) :=
  pe_w (pe_upper ho hbase hline) fun σ H Q ⟨ρ, α, S, rs, re, p⟩ => by
    simp only [Ln.ev, Ln.evs] at p
    refine ⟨ρ, α, S, rs, re, p.bind.mono fun dx S1 H1 α1 _ q v rd => ?_⟩
    obtain ⟨_, e, q2⟩ := q.2.bind.opt q.1.rs
    cases rd with
    | str x =>
      obtain ⟨d, e4, p5⟩ := (show Pst _ _ _ _ (M.opt (Ln.blt0 .upper [.str x]) S1) _ from q2.2).opt q.1.rs
      simp only [Ln.blt0, Ln.upperF] at e4
      split at e4
      · rename_i hl
        cases e4
        exact ⟨⟨x, rfl⟩, x, rfl, rfl, hl, p5 _ (.str _)⟩
      · cases e4
    | _ => simp [Ln.mthOk] at e
theorem je_join (ho : JE X E o (Ln.ev cf io)) (ha : JE X E a (Ln.ev cf ia)) (hs : starEach [a] X.env = [(false, eval a X.env)] := by rfl) (hbase : attributeBase o "join" X.env (eval o X.env) = eval o X.env := by rfl) (hline : (apos.endLine == cpos.line) = true := by rfl) :
    JE X E (.Call (.Attribute o "join" apos) [a] [] cpos) (Ln.ev cf (.mth .sjoin io (.cons ia .nil))) :=
  pe_w (pe_join ho ha hs hbase hline) fun σ H Q h => by
    obtain ⟨ρ, α, S, rs, re, p⟩ := mth_at h
    refine ⟨ρ, α, S, rs, re, p.mono fun dx S1 H1 α1 _ q v rd => ?_⟩
    obtain ⟨ρ1, α1, S1, dx, rs1, re1, rd1, e, q⟩ := q v rd
    cases rd1 with
    | str z =>
      refine ⟨⟨z, rfl⟩, ?_⟩
      obtain ⟨ρ2, α2, S2, rs2, re2, q⟩ := q
      simp only [Ln.evs] at q
      refine ⟨ρ2, α2, S2, rs2, re2, q.bind.mono fun d S3 H3 α3 _ q v rv => ?_⟩
      obtain ⟨α4, S4, ds, rs4, rd4, _, rds4, p4⟩ := (show Pst _ _ _ _ (M.ret [d] S3) _ from q.2).ret q.1.rs [v] (.cons rv .nil)
      cases rd4
      obtain ⟨d4, e4, p5⟩ := (show Pst _ _ _ _ (M.opt (Ln.blt0 .sjoin (.str z :: ds)) S4) _ from p4).opt rs4
      simp only [Ln.blt0, Ln.joinF] at e4
      split at e4
      · rename_i z' x heq
        cases heq
        obtain ⟨v1, ev, r1⟩ := rds1 rds4
        cases ev
        rw [Option.bind_eq_some_iff] at e4
        obtain ⟨ys, e5, e6⟩ := e4
        rw [Option.bind_eq_some_iff] at e6
        obtain ⟨zs, e6, e7⟩ := e6
        split at e7
        · rename_i hl
          cases e7
          obtain ⟨b, vs, rfl, hq, rds⟩ := seq_at rs4 r1 e5
          have ev := rds.strsD e6
          rw [ev] at hq
          exact ⟨z, b, zs, rfl, rfl, hq, hl, p5 _ (.str _)⟩
        · cases e7
      · cases e4
    | _ => simp [Ln.mthOk] at e
/-- d.get(k, e) -/
theorem je_dget {b : Expr} {ib : Ln.E} (hu : X.A.units + 65 < cLine) (ho : JE X E o (Ln.ev cf io)) (ha : JE X E a (Ln.ev cf ia)) (hb : JE X E b (Ln.ev cf ib)) (hbase : attributeBase o "get" X.env (eval o X.env) = eval o X.env := by rfl)
    (hfew : ((backTo cpos (starEach [a, b] X.env)).all (fun x => !x.1) && (backToKw cpos (keywordEach [] X.env)).all (fun x => x.1.isSome)
      && decide ([a, b].length + ([] : List Keyword).length + (if ([] : List Keyword).isEmpty then 0 else 1) < 30)) = true := by rfl)
    (hline : (apos.endLine == cpos.line) = true := by rfl) (hs : backTo cpos (starEach [a, b] X.env) = [(false, eval a X.env), (false, eval b X.env)] := by rfl) :
    JE X E (.Call (.Attribute o "get" apos) [a, b] [] cpos) (Ln.ev cf (.mth .dget io (.cons ia (.cons ib .nil)))) :=
  pe_w (pe_dget2 (by omega) ho ha hb ⟨hbase, hfew, hline, hs⟩) fun σ H Q h => by
    obtain ⟨ρ, α, S, rs, re, p⟩ := mth_at h
    refine ⟨ρ, α, S, rs, re, p.mono fun dx S1 H1 α1 _ q v rd => ?_⟩
    obtain ⟨ρ1, α1, S1, dx, rs1, re1, rd1, e, q⟩ := q v rd
    cases rd1 with
    | dct n hH q1 q2 =>
      refine ⟨_, rfl, .inl ⟨_, .inl hH⟩, ?_⟩
      obtain ⟨ρ2, α2, S2, rs2, re2, q⟩ := q
      simp only [Ln.evs] at q
      refine ⟨ρ2, α2, S2, rs2, re2, q.bind.mono fun dk S3 H3 α3 _ q v rv => ?_⟩
      refine ⟨ρ2, α3, S3, q.1.rs, q.1.re re2, q.2.bind.bind.mono fun de S4 H4 α4 _ q2 w rw => ?_⟩
      obtain ⟨α5, S5, ds, rs5, rd5, _, rds5, p5⟩ := ((show Pst _ _ _ _ (M.ret [de] S4) _ from q2.2).ret q2.1.rs).2.ret q2.1.rs [v, w] (.cons (q2.1.rd rv) (.cons rw .nil))
      cases rd5 with
      | dct n5 hH5 q15 q25 =>
      obtain ⟨d5, e5, p6⟩ := (show Pst _ _ _ _ (M.opt (Ln.blt0 .dget (_ :: ds)) S5) _ from p5).opt rs5
      simp only [Ln.blt0, Ln.dgetF] at e5
      split at e5
      · rename_i heq
        cases heq
        split at e5
        · rename_i hk
          cases e5
          obtain ⟨v1, v2, ev, r1, r2⟩ := rds2 rds5
          cases ev
          obtain ⟨key, rfl, hkey⟩ := key_at r1 hk
          obtain ⟨l1, l2, _⟩ := look_at hkey q15 q25
          refine ⟨_, DGet.k hH5, p6 _ ?_⟩
          cases e6 : Ln.lookD _ _ _ with
          | none => rw [l2 e6]; exact r2
          | some d6 =>
            obtain ⟨w6, e7, r6⟩ := l1 d6 e6
            rw [e7]
            exact r6
        · cases e5
      · cases e5
    | _ => simp [Ln.mthOk] at e
theorem je_append (ho : JE X E o (Ln.ev cf io)) (ha : JA X E [a] (Ln.evs cf ies)) (hbase : attributeBase o "append" X.env (eval o X.env) = eval o X.env := by rfl)
    (hfew : ((backTo cpos (starEach [a] X.env)).all (fun x => !x.1) && (backToKw cpos (keywordEach [] X.env)).all (fun x => x.1.isSome)
      && decide ([a].length + ([] : List Keyword).length + (if ([] : List Keyword).isEmpty then 0 else 1) < 30)) = true := by rfl)
    (hline : (apos.endLine == cpos.line) = true := by rfl) (hs : starEach [a] X.env = (false, eval a X.env) :: starEach [] X.env := by rfl) (hplain : (backTo cpos (starEach [] X.env)).any (·.1) = false := by rfl) :
    JE X E (.Call (.Attribute o "append" apos) [a] [] cpos) (Ln.ev cf (.mth .append io ies)) :=
  pe_w (pe_bm PySem.F.plainAttrs_list PySem.F.slot_list_append PySem.F.type_list_append mt_append ho ha hbase hfew hline hs hplain) fun σ H Q h => by
    obtain ⟨ρ, α, S, rs, re, p⟩ := mth_at h
    refine ⟨ρ, α, S, rs, re, p.mono fun dx S1 H1 α1 _ q v rd => ?_⟩
    obtain ⟨ρ1, α1, S1, dx, rs1, re1, rd1, e, q⟩ := q v rd
    cases rd1 with
    | @ref n p hn =>
      simp only [Ln.mthOk] at e
      split at e
      · rename_i ys hS
        obtain ⟨vs0, hv0, _⟩ := lstO rs1 hn hS
        refine ⟨.inl ⟨rfl, vs0, SqL.of hv0⟩, ?_⟩
        obtain ⟨ρ2, α2, S2, rs2, re2, q⟩ := q
        refine ⟨ρ2, α2, S2, rs2, re2, q.mono fun ds S3 H3 α3 _ q vs rvs => ?_⟩
        obtain ⟨α4, S4, ds, rs4, rd4, same, rds4, p4⟩ := q vs rvs
        have hn4 := same n p hn
        cases rds4 with
        | nil => exact p4.elim
        | cons r1 rr =>
        cases rr with
        | cons _ _ => exact p4.elim
        | nil =>
        simp only [Ln.blt, Ln.appendF] at p4
        split at p4
        · rename_i xs hS4
          split at p4
          · rename_i hl
            obtain ⟨ws, hw, rw⟩ := lstO rs4 hn4 hS4
            refine ⟨p, ws, _, rfl, rfl, hw, by rw [← rw.length]; exact hl, ?_⟩
            have af := After.put rs4 hn4 hS4 rfl (rw.append (.cons r1 .nil))
            exact (show ∀ H' α', After X.K α4 H3 α' H' (S4.set n (.lst (xs ++ [_]))) → _ from p4) _ _ af _ .non
          · exact p4.elim
        · exact p4.elim
      · cases e
    | _ => simp [Ln.mthOk] at e
theorem je_popAt (ho : JE X E o (Ln.ev cf io)) (ha : JA X E [a] (Ln.evs cf ies)) (hbase : attributeBase o "pop" X.env (eval o X.env) = eval o X.env := by rfl)
    (hfew : ((backTo cpos (starEach [a] X.env)).all (fun x => !x.1) && (backToKw cpos (keywordEach [] X.env)).all (fun x => x.1.isSome)
      && decide ([a].length + ([] : List Keyword).length + (if ([] : List Keyword).isEmpty then 0 else 1) < 30)) = true := by rfl)
    (hline : (apos.endLine == cpos.line) = true := by rfl) (hs : starEach [a] X.env = (false, eval a X.env) :: starEach [] X.env := by rfl) (hplain : (backTo cpos (starEach [] X.env)).any (·.1) = false := by rfl) :
    JE X E (.Call (.Attribute o "pop" apos) [a] [] cpos) (Ln.ev cf (.mth .popAt io ies)) :=
  pe_w (pe_bm PySem.F.plainAttrs_list PySem.F.slot_list_pop PySem.F.type_list_pop mt_popAt ho ha hbase hfew hline hs hplain) fun σ H Q h => by
    obtain ⟨ρ, α, S, rs, re, p⟩ := mth_at h
    refine ⟨ρ, α, S, rs, re, p.mono fun dx S1 H1 α1 _ q v rd => ?_⟩
    obtain ⟨ρ1, α1, S1, dx, rs1, re1, rd1, e, q⟩ := q v rd
    cases rd1 with
    | @ref n p hn =>
      simp only [Ln.mthOk] at e
      split at e
      · rename_i ys hS
        obtain ⟨vs0, hv0, _⟩ := lstO rs1 hn hS
        refine ⟨.inl ⟨rfl, vs0, SqL.of hv0⟩, ?_⟩
        obtain ⟨ρ2, α2, S2, rs2, re2, q⟩ := q
        refine ⟨ρ2, α2, S2, rs2, re2, q.mono fun ds S3 H3 α3 _ q vs rvs => ?_⟩
        obtain ⟨α4, S4, ds, rs4, rd4, same, rds4, p4⟩ := q vs rvs
        have hn4 := same n p hn
        cases rds4 with
        | nil => exact p4.elim
        | cons r1 rr =>
        cases rr with
        | cons _ _ => cases r1 <;> exact p4.elim
        | nil =>
        cases r1 with
        | int i =>
          simp only [Ln.blt, Ln.popAtF] at p4
          split at p4
          · rename_i xs hS4
            split at p4
            · rename_i hl
              split at p4
              · rename_i j hj
                split at p4
                · rename_i y hy
                  obtain ⟨ws, hw, rw⟩ := lstO rs4 hn4 hS4
                  obtain ⟨u, hu, ru⟩ := rw.get hy
                  have h63 : -(2 ^ 63) ≤ i ∧ i < 2 ^ 63 := by
                    unfold Ln.small63 at hl
                    rw [Bool.and_eq_true, decide_eq_true_eq, decide_eq_true_eq] at hl
                    exact hl
                  refine ⟨p, ws, i, j, u, rfl, rfl, hw, h63.1, h63.2, ?_, hu, ?_⟩
                  · rw [← rw.length]
                    exact seqIx hj
                  · have af := After.put rs4 hn4 hS4 rfl (rw.eraseIdx j)
                    exact (show ∀ H' α', After X.K α4 H3 α' H' (S4.set n (.lst (xs.eraseIdx j))) → _ from p4) _ _ af _ (af.rd ru)
                · exact p4.elim
              · exact p4.elim
            · exact p4.elim
          · exact p4.elim
        | _ => exact p4.elim
      · cases e
    | _ => simp [Ln.mthOk] at e
theorem rds_strs {K : Frag} {H : Hp} {α : Al} : ∀ ns : List Str, RDs K H α (ns.map D.str) (ns.map V.str)
  | [] => .nil
  | n :: ns => .cons (.str n) (rds_strs ns)
/-! ### list(x) that the store keeps; sorted -/
theorem je_listM {x : Str} {p : Pos} (hg : Gl X "list") (hm : X.mg "list" = none) (hv : bootBuiltins "list" = some (.type "list")) (ha : JA X E [a] (Ln.evs cf ies))
    (he : starEach [a] X.env = (false, eval a X.env) :: starEach [] X.env := by rfl) (hpl : (backTo cpos (starEach [] X.env)).any (·.1) = false := by rfl) : JE X E (.Call (.Name "list" p) [a] [] cpos) (Ln.ev cf (.blt .listM ies)) :=
  pe_w (pe_callTy call_list_of hg hm hv ha (by decide) (by decide) he hpl) fun σ H Q ⟨ρ, α, S, rs, re, p⟩ => by
    simp only [Ln.ev] at p
    refine ⟨ρ, α, S, rs, re, p.bind.mono fun ds S1 H1 α1 _ q vs rds => ?_⟩
    have p1 := q.2
    cases rds with
    | nil => exact p1.elim
    | cons r1 rr =>
    cases rr with
    | cons _ _ => exact p1.elim
    | nil =>
    simp only [Ln.blt, Ln.listMF] at p1
    split at p1
    · rename_i xs hx
      obtain ⟨b, us, rfl, hq, rx⟩ := seq_at q.1.rs r1 hx
      refine ⟨b, us, rfl, hq, fun l hl => ?_⟩
      obtain ⟨af, rd⟩ := After.alloc q.1.rs hl rx
      exact (show ∀ H' α', After X.K α1 H1 α' H' (S1 ++ [.lst xs]) → _ from p1) _ _ af _ rd
    · exact p1.elim
theorem ltCps_iff : ∀ a b : List Nat, PySem.Spec.ltCps a b = true ↔ a < b
  | [], [] => by simp [PySem.Spec.ltCps]
  | [], _ :: _ => by simp [PySem.Spec.ltCps]
  | _ :: _, [] => by simp [PySem.Spec.ltCps]
  | a :: r, b :: t => by
    rw [List.cons_lt_cons_iff, ← ltCps_iff r t]
    simp [PySem.Spec.ltCps]
theorem leS_iff (x y : Str) : Ln.leS x y = true ↔ x.cps.toList ≤ y.cps.toList := by unfold Ln.leS; simp
theorem leS_trans (a b c : Str) (h1 : Ln.leS a b = true) (h2 : Ln.leS b c = true) : Ln.leS a c = true := by
  rw [leS_iff] at h1 h2 ⊢
  exact List.le_trans h1 h2
theorem leS_total (a b : Str) : (Ln.leS a b || Ln.leS b a) = true := by
  rw [Bool.or_eq_true, leS_iff, leS_iff]
  exact List.le_total _ _
theorem leS_anti (a b : Str) (h1 : Ln.leS a b = true) (h2 : Ln.leS b a = true) : a = b := by
  rw [leS_iff] at h1 h2
  have h := List.le_antisymm h1 h2
  cases a; cases b
  simp only [Str.mk.injEq]
  exact Array.toList_inj.mp h
theorem rising_pw : ∀ (r : List Str) (x : Str), risingS x r = true → (x :: r).Pairwise fun a b => Ln.leS a b = true
  | [], x, _ => List.pairwise_singleton _ _
  | y :: r, x, h => by
    have h' : Spec.ltCps y.cps.toList x.cps.toList = false ∧ risingS y r = true := by simpa [risingS] using h
    have ih := rising_pw r y h'.2
    have hxy : Ln.leS x y = true := by
      rw [leS_iff, ← List.not_lt, ← ltCps_iff, h'.1]
      exact Bool.false_ne_true
    refine List.pairwise_cons.mpr ⟨fun z hz => ?_, ih⟩
    rcases List.mem_cons.mp hz with e | hz
    · rw [e]; exact hxy
    · exact leS_trans _ _ _ hxy ((List.pairwise_cons.mp ih).1 z hz)
theorem sorted_uniq {ys zs : List Str} (h1 : zs.Perm ys) (h2 : sortedS zs = true) : zs = ys.mergeSort Ln.leS := by
  refine List.Perm.eq_of_pairwise (le := fun a b => Ln.leS a b = true) (fun a b _ _ => leS_anti a b) ?_ (List.pairwise_mergeSort leS_trans leS_total ys) (h1.trans (List.mergeSort_perm ys Ln.leS).symm)
  cases zs with
  | nil => exact .nil
  | cons x r => exact rising_pw r x h2
theorem cb_sorted : CallR X (.builtin "sorted") (rB X.K Ln.sortF) := by
  intro pins s σ H xs us Q I r h
  obtain ⟨α, S, ds, d, rs, rd, e, q⟩ := h
  unfold Ln.sortF at e
  split at e
  · obtain ⟨v, rfl, rd1⟩ := rds1 rd
    rw [Option.bind_eq_some_iff] at e
    obtain ⟨ws, e1, e⟩ := e
    rw [Option.bind_eq_some_iff] at e
    obtain ⟨ys, e2, e⟩ := e
    split at e
    · rename_i hl
      cases e
      obtain ⟨b, us2, rfl, h1, rx⟩ := lst_at rs rd1 e1
      have ev := rx.strsD e2
      rw [ev] at h1
      refine cr_sortedS pins s σ H _ us Q I r ⟨b, ys, rfl, SqL.of h1, hl, fun zs p hp hs hn => ?_⟩
      rw [sorted_uniq hp hs]
      obtain ⟨af, rd'⟩ := new_lst rs hn (rds_strs (ys.mergeSort Ln.leS))
      exact q _ _ _ af rd'
    · cases e
  · cases e
end
end LnS

set_option linter.all false
set_option maxRecDepth 100000
/-! Ln: enumerate over a tuple. -/
namespace LnS
open PySem PySem.Spec L2 PyProof.Rows
open AutoSeq1 (wpAny_loadPart')
open Ln (D O Store Rho M R Ex)
theorem meets_enumerate_newT (l : Addr) (items : Array Value) (n : Nat) (dct : Option Addr) (sl : Array (Option Value)) :
    Meets (Builtin.«enumerate.__new__» ⟨[.type "enumerate", .ref l], []⟩) (fun _ R s => s.heap.get? l = some { cls := .type "tuple", dict := dct, data := .seq items n, slots := sl } ∧
      R (.ok (.ret (.ref (s.heap.push { cls := .type "tuple_iterator", data := .fields #[.ref l, .int 0 0] }).objs.size)))
        { s with heap := (s.heap.push { cls := .type "tuple_iterator", data := .fields #[.ref l, .int 0 0] }).push { cls := .type "enumerate", data := .fields #[.none, .bool false, .ref s.heap.objs.size, rawInt 0, .none, .none] } }) :=
  .of_wp fun prog w A R s h => by
    obtain ⟨hp, g, d, tk, os⟩ := s; obtain ⟨hl, h⟩ := h
    have hsub := sub_enumerate
    have hT : Heap.IsTuple (Shared.heap ⟨hp, g, d, tk, os⟩) l items := ⟨_, hl, rfl, n, rfl⟩
    wp_walk using wpAny_loadPart' hl
    refine wpAny_stack_any fun st => wpAny_pure ?_
    split
    · rename_i c _ _ _ _ _
      cases (c == Value.type "enumerate")
      · wp_walk using wpAny_loadPart' hl, wpAny_pyIter_tuple hT
        exact ⟨_, rfl, h⟩
      · wp_walk using wpAny_loadPart' hl, wpAny_pyIter_tuple hT
        exact ⟨_, rfl, h⟩
    · wp_walk using wpAny_loadPart' hl, wpAny_pyIter_tuple hT
      exact ⟨_, rfl, h⟩
theorem call_enumerate_tuple {prog : Program} {w : World} {A : Around} {E : Value → Shared → Prop} {s : Shared} {l : Addr} {items : Array Value} {Q : Value → Shared → Prop} (hT : s.heap.IsTuple l items)
    (h : ∀ h', IsEnum h' (s.heap.objs.size + 1) s.heap.objs.size 0 .none → h'.IsTupleIter s.heap.objs.size l 0 → (∀ b o, s.heap.get? b = some o → h'.get? b = some o) → Q (.ref (s.heap.objs.size + 1)) { s with heap := h' }) :
    wpAny (model prog w) A (call (.type "enumerate") [.ref l]) Q E s := by
  obtain ⟨⟨c, dct, dt, sl⟩, hl, hc, n, hd⟩ := hT
  replace hc : c = .type "tuple" := hc
  replace hd : dt = .seq items n := hd
  subst hc hd
  refine callType_new F.called_enumerate (by decide) (F.typeCall_enumerate_1 _) (F.newCall_enumerate_1 _) (fun obj => F.args_object_init_2 obj _) F.entry_enumerate_new (meets_enumerate_newT l items n dct sl) ⟨hl, ?_⟩
  have hz : (s.heap.push { cls := .type "tuple_iterator", data := .fields #[.ref l, .int 0 0] }).objs.size = s.heap.objs.size + 1 := Heap.size_push ..
  show _ ∧ _
  rw [hz]
  have he := Heap.get?_push_size (s.heap.push { cls := .type "tuple_iterator", data := .fields #[.ref l, .int 0 0] }) (o := { cls := .type "enumerate", data := .fields #[.none, .bool false, .ref s.heap.objs.size, rawInt 0, .none, .none] }) rfl
  rw [hz] at he
  exact ⟨⟨_, he, rfl⟩, h _ he ⟨_, Heap.get?_push_of_some _ (Heap.get?_push_size _ rfl), rfl, rfl⟩ fun b o x => Heap.get?_push_of_some _ (Heap.get?_push_of_some _ x)⟩
theorem enumT_end {prog : Program} {w : World} {A : Around} {E : Value → Shared → Prop} {s : Shared} {e it t : Addr} {i : Nat} {items : Array Value} {old : Value} {Q : Option Value → Shared → Prop} (hh : A.handled = none)
    (he : IsEnum s.heap e it i old) (hit : s.heap.IsTupleIter it t i) (ht : s.heap.IsTuple t items) (hx : items[i]? = none) (hQ : ∀ h', Heap.ExtBut it s.heap h' → Q none { s with heap := h' }) : wpAny (model prog w) A (pyNext (.ref e)) Q E s := by
  have isE : s.TypeIs (.ref e) "enumerate" := ⟨_, he, rfl⟩
  unfold pyNext
  refine wpAny_bind (wpAny_attempt (wpAny_callSpecial?_slot (name := Str.ofString "__next__") isE F.slot_enumerate_next (wpAny_call_entry F.slot_enumerate_next isE F.entry_enumerate_next ?_ (F.args_enumerate_next_1 _))))
  show wpAny _ _ (field (.ref e) 2 >>= _) _ _ s
  refine wpAny_bind (wpAny_field he rfl (x := .ref it) rfl (wpAny_bind (wpAny_nextOf_tuple_end hh hit ht hx fun h' x he' hx' => ?_)))
  obtain ⟨ob, ho, hc⟩ := hx'
  exact wpAny_bind (wpAny_isInstance (T := "StopIteration") (b := true) ⟨ob, ho, hc⟩ isSubtype_stop (wpAny_pure (hQ _ he')))
/-- the tuple at a as it stands at each turn, each item in a new pair -/
def IteT (K : Frag) (a : Addr) : It :=
  ⟨fun i H => ∃ (xs : List V) (x : V), SqT K H a xs ∧ xs[i]? = some x, fun i H v H' => ∃ T x, v = .ref T ∧ H T = none ∧ H' = upd H T (.tup [.int (i : Nat), x]) ∧ ∀ xs, SqT K H a xs → xs[i]? = some x, fun i H => ∃ xs : List V, SqT K H a xs ∧ xs.length ≤ i⟩
theorem turn_enumT {P : Program} {w : World} {K : Frag} {elts : List Expr} {kk : Nat} {tpos : Pos} (a e it : Addr) :
    Turn P w K (.Tuple elts kk tpos) (IteT K a) [e, it] e (fun i h => (∃ old, IsEnum h e it ((i : Nat) : Int) old) ∧ h.IsTupleIter it a i ∧ e ≠ it) where
  mem := by simp
  obj := fun i h ⟨⟨old, he⟩, ⟨o, ho, hc, hd⟩, _⟩ b hb => by
    rcases List.mem_cons.mp hb with z | z
    · rw [z]; exact ⟨_, he, fun v q => nomatch q⟩
    · rw [List.mem_singleton.mp z]; exact ⟨o, ho, fun v q => by rw [hd] at q; cases q⟩
  keep := fun i h h' ⟨⟨old, he⟩, hi, hne⟩ k => ⟨⟨old, k e (by simp) _ he⟩, hi.at fun o q => k it (by simp) o q, hne⟩
  item := by
    intro X hP hw hK hc i pins s σ H E I hf st hg
    subst hP hw hK
    obtain ⟨⟨old, he⟩, hit, hne⟩ := st
    obtain ⟨xs, x, hq, hx⟩ := hg
    obtain ⟨its, rv, p, hz⟩ := I.tuple hq
    obtain ⟨u, hu, ru⟩ := rv.get hx
    have hel : e < s.heap.objs.size := Heap.lt_size he
    have hil : it < s.heap.objs.size := by obtain ⟨_, q, _⟩ := hit; exact Heap.lt_size q
    have hai : a ≠ it := fun z => by
      obtain ⟨o, h1, h2, _⟩ := hit
      obtain ⟨o', h3, h4, _⟩ := p
      rw [z, h1] at h3; cases h3
      rw [h2] at h4; exact absurd h4 (by decide)
    have hea : e ≠ a := fun z => by
      obtain ⟨o', h3, h4, _⟩ := p
      rw [← z, show s.heap.get? e = some _ from he] at h3; cases h3
      exact absurd (show Value.type "enumerate" = Value.type "tuple" from h4) (by decide)
    have hlt : i < its.toArray.size := by
      have := (List.getElem?_eq_some_iff.mp hu).1
      simpa using this
    refine wpAny_pyNext_enum_itemD (Draws.tuple (show X.A.in1.handled = none from I.ok.hd hc) it a hai its.toArray) he ⟨hit, p⟩ hlt hne (by simp [hne, hea]) fun y h' tk hy ho hit' hT hsz hk => ?_
    have hyu : y = u := by
      have : its[i]? = some y := by simpa using hy
      rw [hu] at this
      exact (Option.some.inj this).symm
    subst hyu
    refine ⟨_, rfl, wpAny_letOwnedTupleGo_enum (s := { s with heap := h', toks := tk + 1 }) ho fun h'' he' sb => ?_⟩
    have hT2 := (sb.2 _ (Nat.ne_of_gt hel)).trans hT
    have new : ObjOk X.prog X.w (upd H s.heap.objs.size (.tup [.int (i : Nat), x])) h'' s.heap.objs.size (.tup [.int (i : Nat), x]) :=
      ⟨show 2 ≤ sizeLine by decide, [.int i tk, y], .cons ⟨_, rfl⟩ (.cons ru .nil), ⟨_, hT2, rfl, _, rfl⟩⟩
    have I1 := I.turnedNew (t' := tk + 1) (ch := [e, it]) (fun b ob hb q => (sb.2 b (fun z => hb (by simp [z]))).trans (hk b ob (fun z => hb (by simp [z])) (fun z => hb (by simp [z])) q)) hf (Nat.le_refl _) new
    refine ⟨.ref s.heap.objs.size, _, I1, rfl, ⟨_, x, rfl, I.hok.fresh (Nat.le_refl _), rfl, fun ys hy => by rw [I.tuple_inj hy hq]; exact hx⟩, ⟨⟨y, ?_⟩, hit'.1.at fun o q => (sb.2 it (Ne.symm hne)).trans q, hne⟩, fun b hb => ?_⟩
    · rw [show ((i + 1 : Nat) : Int) = (i : Int) + 1 by omega]; exact he'
    · have hb' : b < s.heap.objs.size := by
        rcases List.mem_cons.mp hb with z | z
        · rw [z]; exact hel
        · rw [List.mem_singleton.mp z]; exact hil
      rw [upd_ne (Nat.ne_of_lt hb')]
      exact (hf b hb).1
  done := by
    intro X hP hw hK hc i pins s σ H E I hf st hg
    subst hP hw hK
    obtain ⟨⟨old, he⟩, hit, hne⟩ := st
    obtain ⟨xs, hq, hx⟩ := hg
    obtain ⟨its, rv, p, hz⟩ := I.tuple hq
    obtain ⟨f0, f1, f2, f3, f4, f5⟩ := hf it (by simp)
    have hn : its.toArray[i]? = none := by
      rw [List.getElem?_toArray, List.getElem?_eq_none]
      rw [← rv.length]; exact hx
    exact enumT_end (I.ok.hd hc) he hit p hn fun h' eb => ⟨rfl, I.turned (t' := s.toks) (fun b o hb q => eb b o hb q) f0 f1 f3 f4 f5⟩
  self := fun A i s Q E ⟨⟨_, he⟩, _⟩ h => wpAny_pyIter_enum he h
theorem pi_enumT {X : Cx} {e : Expr} {ta : TA} {p pos tpos : Pos} {elts : List Expr} {kk : Nat} (hg : Gl X "enumerate") (hm : X.mg "enumerate" = none) (ha : PA X [e] ta) (hs : starEach [e] X.env = [(false, eval e X.env)] := by rfl) :
    PI X (.Tuple elts kk tpos) (.Call (.Name "enumerate" p) [e] [] pos) (fun σ H R => ta σ H fun vs H1 => ∃ a xs, vs = [.ref a] ∧ SqT X.K H1 a xs ∧ R (IteT X.K a) H1) := by
  refine ⟨fun pins s σ H R I h => Call_ (ld_blt I hg hm boot_enumerate (PyProof.Rows.callWith_type1 (thn (ha.run pos pins s σ H _ I h) fun us s1 hx => ?_) hs rfl))⟩
  obtain ⟨vs, H1, I1, r1, a, xs, ex, hq, q⟩ := hx
  subst ex
  obtain ⟨u, eu, ru⟩ := vals1 r1
  subst eu
  cases ru
  obtain ⟨its, rv, pt, hz⟩ := I1.tuple hq
  refine call_enumerate_tuple pt fun h' he hit hk => wpAny_pyIter_enum he ?_
  have I2 := I1.kept (t' := s1.toks) hk
  refine ⟨s1.heap.objs.size + 1, [s1.heap.objs.size + 1, s1.heap.objs.size], _, _, H1, rfl, I2, turn_enumT a (s1.heap.objs.size + 1) s1.heap.objs.size, ⟨⟨.none, he⟩, hit, Nat.succ_ne_self _⟩, fun b hb => ?_, q⟩
  have hle : s1.heap.objs.size ≤ b := by
    rcases List.mem_cons.mp hb with z | z
    · rw [z]; exact Nat.le_add_right _ _
    · rw [List.mem_singleton.mp z]; exact Nat.le_refl _
  exact I1.fpOk hle (I1.hok.fresh hle)
theorem walk_enumT {K : Frag} {H1 : Hp} {α1 : Al} {xs : List D} {a : Addr} {vs : List V} (h : ∀ H' α' S', After K α1 H1 α' H' S' → SqT K H' a vs ∧ RDs K H' α' xs vs) : Walk K H1 α1 (Ln.numbered 0 xs) (IteT K a) where
  go := fun i H' α' S' af hi => by
    obtain ⟨h1, h2⟩ := h H' α' S' af
    rw [numbered_len] at hi
    have : i < vs.length := by rw [← h2.length]; exact hi
    exact ⟨vs, vs[i], h1, List.getElem?_eq_getElem this⟩
  stop := fun i H' α' S' af hi => by
    obtain ⟨h1, h2⟩ := h H' α' S' af
    rw [numbered_len] at hi
    exact ⟨vs, h1, by rw [← h2.length]; exact Nat.le_of_eq hi.symm⟩
  yld := fun i H' α' S' d x H'' af hd hy => by
    obtain ⟨h1, h2⟩ := h H' α' S' af
    obtain ⟨T, p, rfl, hT, rfl, k1⟩ := hy
    obtain ⟨dx, e1, rfl⟩ := numbered_at hd
    obtain ⟨v, f1, f2⟩ := h2.get e1
    have := (k1 vs h1).symm.trans f1
    cases this
    rw [Nat.zero_add]
    exact new_wtp af.rs hT (.cons (.int _) (.cons f2 .nil))
theorem pi_or {X : Cx} {tg e : Expr} {t u : L2.TI} (h1 : PI X tg e t) (h2 : PI X tg e u) : PI X tg e (fun σ H R => t σ H R ∨ u σ H R) := ⟨fun pins s σ H R I h => h.elim (h1.run pins s σ H R I) (h2.run pins s σ H R I)⟩
/-- enumerate over a tuple: the text says which it is -/
theorem ji_enumT {X : Cx} {E : XS} {cf : Nat → List D → M D} {pos p tpos : Pos} {a : Expr} {ia : Ln.E} {kk : Nat} {elts : List Expr} (hg : Gl X "enumerate") (hm : X.mg "enumerate" = none) (ha : JE X E a (Ln.ev cf ia)) (hs : starEach [a] X.env = [(false, eval a X.env)] := by rfl) :
    JI X E (.Tuple elts kk tpos) (.Call (.Name "enumerate" p) [a] [] pos) (Ln.evi cf (.enumT ia)) :=
  pi_w (pi_enumT hg hm (pa_len (pa_cons ha pa_nil hs)) hs) fun σ H R ⟨ρ, α, S, rs, re, q⟩ => by
    simp only [Ln.evi] at q
    refine ⟨ρ, α, S, rs, re, q.bind.mono fun d S1 H1 α1 _ q v rd hl => ?_⟩
    have p1 := q.2
    unfold Ln.enumTK at p1
    split at p1
    · cases rd with
      | tup h rds =>
      have k := p1.ret q.1.rs (by have := hl _ _ (.inr h.sq); rw [numbered_len, rds.length]; exact this)
      exact ⟨_, _, rfl, h.sq, k _ (walk_enumT fun H' α' S' af => ⟨af.ext.sqT h.sq, af.rds rds⟩)⟩
    · exact p1.elim
end LnS

set_option linter.all false
set_option maxRecDepth 100000
/-! Ln: zip over lists and tuples, in any mixture. -/
namespace LnS
open PySem PySem.Spec L2 PyProof.Rows
open Ln (D O Store Rho M R Ex)
def SqB (K : Frag) (t : Bool) (H : Hp) (a : Addr) (xs : List V) : Prop := match t with
  | true => SqT K H a xs
  | false => SqL K H a xs
def ItB (t : Bool) (h : Heap) (it a : Addr) (i : Nat) : Prop := match t with
  | true => h.IsTupleIter it a i
  | false => h.IsListIter it a i
def IsB (t : Bool) (h : Heap) (a : Addr) (its : Array Value) : Prop := match t with
  | true => h.IsTuple a its
  | false => h.IsList a its
theorem drawsB {P : Program} {w : World} {A : Around} (hh : A.handled = none) (t : Bool) (it l : Addr) (hne : l ≠ it) (items : Array Value) :
    Draws P w A it [it, l] items.size (fun i v => items[i]? = some v) (fun i h => ItB t h it l i ∧ IsB t h l items) := by
  cases t with
  | true => exact Draws.tuple hh it l hne items
  | false => exact Draws.list hh it l hne items
section
variable {X : Cx} {pins : List (Addr × Obj)} {σ : L2.St} {H : Hp} {s : Shared}
theorem Inv.sqB (I : Inv X pins σ H s) {t : Bool} {a : Addr} {xs : List V} (h : SqB X.K t H a xs) : ∃ its : List Value, Vals xs its ∧ IsB t s.heap a its.toArray ∧ a < s.heap.objs.size := by
  cases t with
  | true =>
    obtain ⟨its, r, p, _⟩ := I.tuple h
    obtain ⟨o, ho, _⟩ := id p
    exact ⟨its, r, p, Heap.lt_size ho⟩
  | false =>
    obtain ⟨its, r, p, _⟩ := I.list h
    exact ⟨its, r, p.isList, p.lt⟩
theorem Inv.sqB_inj (I : Inv X pins σ H s) {t : Bool} {a : Addr} {xs ys : List V} (h : SqB X.K t H a xs) (h' : SqB X.K t H a ys) : xs = ys := by
  cases t with
  | true => exact I.tuple_inj h h'
  | false => exact I.list_inj h h'
end
theorem ItB.at {t : Bool} {h h' : Heap} {it a : Addr} {i : Nat} (p : ItB t h it a i) (k : ∀ o, h.get? it = some o → h'.get? it = some o) : ItB t h' it a i := by
  cases t with
  | true => exact Heap.IsTupleIter.at p k
  | false => exact Heap.IsListIter.at p k
theorem ItB.obj {t : Bool} {h : Heap} {it a : Addr} {i : Nat} (p : ItB t h it a i) : ∃ o, h.get? it = some o ∧ ∃ vs, o.data = .fields vs := by
  cases t with
  | true => obtain ⟨o, h1, _, h3⟩ := p; exact ⟨o, h1, _, h3⟩
  | false => obtain ⟨o, h1, _, h3⟩ := p; exact ⟨o, h1, _, h3⟩
def newIt (t : Bool) (a : Addr) : Obj := match t with
  | true => { cls := .type "tuple_iterator", data := .fields #[.ref a, .int 0 0] }
  | false => { cls := .type "list_iterator", data := .fields #[.ref a, .int 0 0] }
theorem beginsB (t : Bool) (a : Addr) (items : Array Value) : Begins (.ref a) (newIt t a) fun h => IsB t h a items := by
  cases t with
  | true => exact begins_tuple a items
  | false => exact begins_list a items
theorem newIt_it {t : Bool} {h : Heap} {it a : Addr} (e : h.get? it = some (newIt t a)) : ItB t h it a 0 := by
  cases t with
  | true => exact ⟨_, e, rfl, rfl⟩
  | false => exact ⟨_, e, rfl, rfl⟩
/-- the items of a and b as they stand at each turn, in new pairs -/
def ItzB (K : Frag) (t u : Bool) (a b : Addr) : It :=
  ⟨fun i H => ∃ (xs ys : List V) (x y : V), SqB K t H a xs ∧ SqB K u H b ys ∧ xs[i]? = some x ∧ ys[i]? = some y,
    fun i H v H' => ∃ T x y, v = .ref T ∧ H T = none ∧ H' = upd H T (.tup [x, y]) ∧ (∀ xs, SqB K t H a xs → xs[i]? = some x) ∧ ∀ ys, SqB K u H b ys → ys[i]? = some y,
    fun i H => ∃ xs ys : List V, SqB K t H a xs ∧ SqB K u H b ys ∧ i ≤ xs.length ∧ i ≤ ys.length ∧ (xs.length ≤ i ∨ ys.length ≤ i)⟩
theorem sep_of {z TI TO i1 i2 a b : Addr} (D : ZipApart z TI TO i1 i2 a b) : ZipSep2 z TI TO i1 i2 [i1, a] [i2, b] where
  TIz := D.TIz
  TOz := D.TOz
  TITO := D.TITO
  TIi1 := D.TIi1
  mem1 := by simp
  zf1 := by simp [D.i1z.symm, D.l1z.symm]
  Tf1 := by simp [D.TOi1, D.l1TO.symm]
  TIi2 := D.TIi2
  mem2 := by simp
  zf2 := by simp [D.i2z.symm, D.l2z.symm]
  Tf2 := by simp [D.TOi2, D.l2TO.symm]
  sep1_2 := by simp [D.i12, D.l2i1.symm]
  sep2_1 := by simp [D.i12.symm, D.l1i2.symm]
theorem turn_zipB {P : Program} {w : World} {K : Frag} {elts : List Expr} {kk : Nat} {tpos : Pos} {t u : Bool} {a b z TI TO i1 i2 : Addr} (D : ZipApart z TI TO i1 i2 a b) :
    Turn P w K (.Tuple elts kk tpos) (ItzB K t u a b) [z, TI, TO, i1, i2] z (fun i h => IsZip h z TI TO .none ∧ IsTupOf2 h TI (.ref i1) (.ref i2) ∧ (∃ x y, IsTupOf2 h TO x y) ∧ ItB t h i1 a i ∧ ItB u h i2 b i) where
  mem := by simp
  obj := fun i h st c hc => by
    obtain ⟨hz, hTI, ⟨x, y, hTO⟩, h1, h2⟩ := st
    obtain ⟨o1, e1, _, d1⟩ := h1.obj
    obtain ⟨o2, e2, _, d2⟩ := h2.obj
    have e' : c = z ∨ c = TI ∨ c = TO ∨ c = i1 ∨ c = i2 := by simpa using hc
    rcases e' with q | q | q | q | q
    · rw [q]; exact ⟨_, hz, fun v q => nomatch q⟩
    · rw [q]; exact ⟨_, hTI, fun v q => nomatch q⟩
    · rw [q]; exact ⟨_, hTO, fun v q => nomatch q⟩
    · rw [q]; exact ⟨o1, e1, fun v q => by rw [d1] at q; cases q⟩
    · rw [q]; exact ⟨o2, e2, fun v q => by rw [d2] at q; cases q⟩
  keep := fun i h h' st k => by
    obtain ⟨hz, hTI, ⟨x, y, hTO⟩, h1, h2⟩ := st
    exact ⟨k z (by simp) _ hz, k TI (by simp) _ hTI, ⟨x, y, k TO (by simp) _ hTO⟩, h1.at fun o q => k i1 (by simp) o q, h2.at fun o q => k i2 (by simp) o q⟩
  item := by
    intro X hP hw hK hc i pins s σ H E I hf st hg
    subst hP hw hK
    obtain ⟨hz, hTI, ⟨x0, y0, hTO⟩, h1, h2⟩ := st
    obtain ⟨xs, ys, x, y, hqx, hqy, hx, hy⟩ := hg
    obtain ⟨its, rv, p, _⟩ := Inv.sqB I hqx
    obtain ⟨its2, rv2, p2, _⟩ := Inv.sqB I hqy
    obtain ⟨v1, hu, ru⟩ := rv.get hx
    obtain ⟨v2, hu2, ru2⟩ := rv2.get hy
    have hzl : z < s.heap.objs.size := Heap.lt_size hz
    have l1 : i < its.toArray.size := by have := (List.getElem?_eq_some_iff.mp hu).1; simpa using this
    have l2 : i < its2.toArray.size := by have := (List.getElem?_eq_some_iff.mp hu2).1; simpa using this
    have hh : X.A.in1.handled = none := I.ok.hd hc
    refine wpAny_pyNext_zipD2_item (sep_of D) (drawsB hh t i1 a D.l1i1 its.toArray) (drawsB hh u i2 b D.l2i2 its2.toArray) hz hTI hTO ⟨h1, p⟩ ⟨h2, p2⟩ l1 l2 fun w1 w2 h' tk y1 y2 z' TO' h1' h2' hT hsz hk => ?_
    obtain rfl : w1 = v1 := by have : its[i]? = some w1 := by simpa using y1
                               rw [hu] at this; exact (Option.some.inj this).symm
    obtain rfl : w2 = v2 := by have : its2[i]? = some w2 := by simpa using y2
                               rw [hu2] at this; exact (Option.some.inj this).symm
    refine ⟨_, rfl, wpAny_letOwnedTupleGo_zip (s := { s with heap := h', toks := tk }) z' fun h'' z'' sb => ?_⟩
    have hT2 : h''.get? s.heap.objs.size = some { cls := .type "tuple", data := .seq #[w1, w2] } := (sb.2 _ (Nat.ne_of_gt hzl)).trans hT
    have new : ObjOk X.prog X.w (upd H s.heap.objs.size (.tup [x, y])) h'' s.heap.objs.size (.tup [x, y]) :=
      ⟨by show 2 ≤ sizeLine; decide, [w1, w2], .cons ru (.cons ru2 .nil), ⟨_, hT2, rfl, _, rfl⟩⟩
    have I1 : Inv X pins σ (upd H s.heap.objs.size (.tup [x, y])) { s with heap := h'', toks := tk } :=
      I.turnedNew (t' := tk) (ch := [z, TI, TO, i1, i2]) (fun c o hb q => (sb.2 c (fun q' => hb (by simp [q']))).trans (hk c o (fun q' => hb (by simp [q'])) (fun q' => hb (by simp [q'])) (fun q' => hb (by simp [q'])) (fun q' => hb (by simp [q'])) q)) hf (Nat.le_refl _) new
    refine ⟨.ref s.heap.objs.size, _, I1, rfl, ⟨_, x, y, rfl, I.hok.fresh (Nat.le_refl _), rfl, fun l hl => by rw [Inv.sqB_inj I hl hqx]; exact hx, fun l hl => by rw [Inv.sqB_inj I hl hqy]; exact hy⟩, ⟨z'', ?_, ⟨w1, w2, ?_⟩, ?_, ?_⟩, fun c hcm => ?_⟩
    · exact (sb.2 _ D.TIz).trans (hk _ _ D.TIz D.TITO D.TIi1 D.TIi2 hTI)
    · exact (sb.2 _ D.TOz).trans TO'
    · exact h1'.1.at fun o q => (sb.2 _ D.i1z).trans q
    · exact h2'.1.at fun o q => (sb.2 _ D.i2z).trans q
    · have hlt : c < s.heap.objs.size := by
        obtain ⟨_, e1, _⟩ := h1.obj
        obtain ⟨_, e2, _⟩ := h2.obj
        have e' : c = z ∨ c = TI ∨ c = TO ∨ c = i1 ∨ c = i2 := by simpa using hcm
        rcases e' with q | q | q | q | q
        · rw [q]; exact hzl
        · rw [q]; exact Heap.lt_size hTI
        · rw [q]; exact Heap.lt_size hTO
        · rw [q]; exact Heap.lt_size e1
        · rw [q]; exact Heap.lt_size e2
      rw [upd_ne (Nat.ne_of_lt hlt)]
      exact (hf c hcm).1
  done := by
    intro X hP hw hK hc i pins s σ H E I hf st hg
    subst hP hw hK
    obtain ⟨hz, hTI, ⟨x0, y0, hTO⟩, h1, h2⟩ := st
    obtain ⟨xs, ys, hqx, hqy, le1, le2, hend⟩ := hg
    obtain ⟨its, rv, p, _⟩ := Inv.sqB I hqx
    obtain ⟨its2, rv2, p2, _⟩ := Inv.sqB I hqy
    have l1 := rv.length
    have l2 := rv2.length
    have hh : X.A.in1.handled = none := I.ok.hd hc
    exact wpAny_pyNext_zipD2_end (sep_of D) (drawsB hh t i1 a D.l1i1 its.toArray) (drawsB hh u i2 b D.l2i2 its2.toArray) hz hTI hTO ⟨h1, p⟩ ⟨h2, p2⟩ (by simp; omega) (by simp; omega) (by simp; omega) fun h' tk hk => ⟨rfl, I.turnedL (t' := tk) (ch := [z, TI, TO, i1, i2]) (fun c o hb q =>
      hk c o (fun q' => hb (by simp [q'])) (fun q' => hb (by simp [q'])) (fun q' => hb (by simp [q'])) (fun q' => hb (by simp [q'])) q) hf⟩
  self := fun A i s Q E st h => wpAny_pyIter_zip st.1 h
def iZipB (K : Frag) (ta : TA) : L2.TI := fun σ H R => ta σ H fun vs H1 => ∃ t u a b xs ys, vs = [.ref a, .ref b] ∧ SqB K t H1 a xs ∧ SqB K u H1 b ys ∧ R (ItzB K t u a b) H1
theorem pi_zipB {X : Cx} {e e2 : Expr} {ta : TA} {p pos tpos : Pos} {elts : List Expr} {kk : Nat} (hg : Gl X "zip") (hm : X.mg "zip" = none) (ha : PA X [e, e2] ta)
    (hs : starEach [e, e2] X.env = (false, eval e X.env) :: starEach [e2] X.env := by rfl) (hpl : (backTo pos (starEach [e2] X.env)).any (·.1) = false := by rfl) :
    PI X (.Tuple elts kk tpos) (.Call (.Name "zip" p) [e, e2] [] pos) (iZipB X.K ta) := by
  refine ⟨fun pins s σ H R I h => ?_⟩
  refine Call_ (ld_blt I hg hm PyProof.Rows.boot_zip (PyProof.Rows.callWith_type1 (thn (ha.run pos pins s σ H _ I h) fun us s1 ⟨vs, H1, I1, r1, q1⟩ => ?_) hs hpl))
  obtain ⟨t, u, a, b, xs, ys, ex, hqx, hqy, q⟩ := q1
  subst ex
  cases r1 with
  | cons r rr =>
    cases rr with
    | cons r' rr =>
      cases rr
      cases r
      cases r'
      have fresh5 : ∀ c, c ∈ [s1.heap.objs.size + 4, s1.heap.objs.size + 2, s1.heap.objs.size + 3, s1.heap.objs.size, s1.heap.objs.size + 1] → FpOk X pins H1 c := fun c hcm => by
        have e' : c = s1.heap.objs.size + 4 ∨ c = s1.heap.objs.size + 2 ∨ c = s1.heap.objs.size + 3 ∨ c = s1.heap.objs.size ∨ c = s1.heap.objs.size + 1 := by simpa using hcm
        have hle : s1.heap.objs.size ≤ c := by
          rcases e' with z | z | z | z | z
          · rw [z]; exact Nat.le_add_right _ _
          · rw [z]; exact Nat.le_add_right _ _
          · rw [z]; exact Nat.le_add_right _ _
          · rw [z]; exact Nat.le_refl _
          · rw [z]; exact Nat.le_add_right _ _
        exact I1.fpOk hle (I1.hok.fresh hle)
      obtain ⟨its, rv, p1, lt1⟩ := Inv.sqB I1 hqx
      obtain ⟨its2, rv2, p2, lt2⟩ := Inv.sqB I1 hqy
      refine zip_begins2 (beginsB t a its.toArray) (beginsB u b its2.toArray) p1 p2 fun h' hz hTI hTO h1 h2 hsz hk => wpAny_pyIter_zip hz ?_
      have I2 : Inv X pins σ H1 { s1 with heap := h' } := I1.kept (t' := s1.toks) hk
      exact ⟨s1.heap.objs.size + 4, [s1.heap.objs.size + 4, s1.heap.objs.size + 2, s1.heap.objs.size + 3, s1.heap.objs.size, s1.heap.objs.size + 1], _, _, H1, rfl, I2, turn_zipB (PySem.W.ktu_apart s1.heap.objs.size a b lt1 lt2), ⟨hz, hTI, ⟨_, _, hTO⟩, newIt_it h1, newIt_it h2⟩, fresh5, q⟩
theorem walk_zipB {K : Frag} {H1 : Hp} {α1 : Al} {xs ys : List D} {t u : Bool} {a b : Addr} {vs ws : List V} (h : ∀ H' α' S', After K α1 H1 α' H' S' → SqB K t H' a vs ∧ RDs K H' α' xs vs ∧ SqB K u H' b ws ∧ RDs K H' α' ys ws) : Walk K H1 α1 (Ln.pairs xs ys) (ItzB K t u a b) where
  go := fun i H' α' S' af hi => by
    obtain ⟨h1, h2, h3, h4⟩ := h H' α' S' af
    rw [pairs_len] at hi
    have l2 := h2.length
    have l4 := h4.length
    exact ⟨vs, ws, vs[i]'(by omega), ws[i]'(by omega), h1, h3, List.getElem?_eq_getElem _, List.getElem?_eq_getElem _⟩
  stop := fun i H' α' S' af hi => by
    obtain ⟨h1, h2, h3, h4⟩ := h H' α' S' af
    rw [pairs_len] at hi
    have l2 := h2.length
    have l4 := h4.length
    exact ⟨vs, ws, h1, h3, by omega, by omega, by omega⟩
  yld := fun i H' α' S' d x H'' af hd hy => by
    obtain ⟨h1, h2, h3, h4⟩ := h H' α' S' af
    obtain ⟨T, p, q, rfl, hT, rfl, k1, k2⟩ := hy
    obtain ⟨dx, dy, e1, e2, rfl⟩ := pairs_at hd
    obtain ⟨v, f1, f2⟩ := h2.get e1
    obtain ⟨w, g1, g2⟩ := h4.get e2
    have := (k1 vs h1).symm.trans f1
    cases this
    have := (k2 ws h3).symm.trans g1
    cases this
    exact new_wtp af.rs hT (.cons f2 (.cons g2 .nil))
/-- a list's, a tuple's items, as zip sees them -/
theorem zip_at {K : Frag} {H : Hp} {α : Al} {d : D} {v : V} {xs : List D} (rd : RD K H α d v) (e : Ln.zipOf d = some xs) : ∃ t a vs, v = .ref a ∧ RDs K H α xs vs ∧ SqB K t H a vs ∧ ∀ {H' : Hp} {α' : Al} {S' : Store}, After K α H α' H' S' → SqB K t H' a vs := by
  unfold Ln.zipOf at e
  split at e
  · cases e
    cases rd with
    | tup h rds => exact ⟨true, _, _, rfl, rds, h.sq, fun af => af.ext.sqT h.sq⟩
  · cases e
    cases rd with
    | lst n h rds => exact ⟨false, _, _, rfl, rds, SqL.of h, fun af => af.ext.sqL n (SqL.of h)⟩
  · cases e
theorem SqB.any {K : Frag} {t : Bool} {H : Hp} {a : Addr} {xs : List V} (h : SqB K t H a xs) : SqL K H a xs ∨ SqT K H a xs := by
  cases t with
  | true => exact .inr h
  | false => exact .inl h
theorem ji_zip {X : Cx} {E : XS} {cf : Nat → List D → M D} {pos p tpos : Pos} {a b : Expr} {ia ib : Ln.E} {kk : Nat} {elts : List Expr} (hg : Gl X "zip") (hm : X.mg "zip" = none) (ha : JE X E a (Ln.ev cf ia)) (hb : JE X E b (Ln.ev cf ib)) (hs2 : starEach [b] X.env = (false, eval b X.env) :: starEach [] X.env := by rfl)
    (hs : starEach [a, b] X.env = (false, eval a X.env) :: starEach [b] X.env := by rfl) (hpl : (backTo pos (starEach [b] X.env)).any (·.1) = false := by rfl) :
    JI X E (.Tuple elts kk tpos) (.Call (.Name "zip" p) [a, b] [] pos) (Ln.evi cf (.zip ia ib)) :=
  pi_w (pi_zipB hg hm (pa_len (pa_cons ha (pa_cons hb pa_nil hs2) hs)) hs hpl) fun σ H R ⟨ρ, α, S, rs, re, q⟩ => by
    simp only [Ln.evi] at q
    refine ⟨ρ, α, S, rs, re, q.bind.mono fun d S1 H1 α1 _ q v rd => ?_⟩
    refine ⟨ρ, α1, S1, q.1.rs, q.1.re re, q.2.bind.mono fun d2 S2 H2 α2 _ q2 v2 rd2 => ?_⟩
    have rd' := q2.1.rd rd
    have p1 := q2.2
    unfold Ln.zipK at p1
    intro hl
    cases e1 : Ln.zipOf d with
    | none => rw [e1] at p1; exact p1.elim
    | some xs =>
    cases e2 : Ln.zipOf d2 with
    | none => rw [e1, e2] at p1; exact p1.elim
    | some ys =>
      rw [e1, e2] at p1
      obtain ⟨t, a, vs, rfl, rds, sq, ext⟩ := zip_at rd' e1
      obtain ⟨u, b, ws, rfl, rds2, sq2, ext2⟩ := zip_at rd2 e2
      have k := p1.ret q2.1.rs (by have := hl _ _ sq.any; rw [pairs_len, rds.length]; omega)
      exact ⟨t, u, _, _, _, _, rfl, sq, sq2, k _ (walk_zipB fun H' α' S' af => ⟨ext af, af.rds rds, ext2 af, af.rds rds2⟩)⟩
end LnS

set_option linter.all false
set_option maxRecDepth 100000
/-! Ln: defs by their bodies. -/
namespace LnS
open PySem L2 PyProof.Rows
open Ln (D O Store Rho M R Ex)

theorem re_start {K : Frag} {H : Hp} {α : Al} {ds : List D} {vs : List V} (r : RDs K H α ds vs) (n : Nat) : RE K H α (ds.map some ++ List.replicate (n - ds.length) none) (vs.map some ++ List.replicate (n - vs.length) none) := by
  have hl := r.length
  refine ⟨by simp only [List.length_append, List.length_map, List.length_replicate]; omega, fun i d h => ?_⟩
  by_cases hi : i < ds.length
  · rw [List.getElem?_append_left (by rw [List.length_map]; exact hi), List.getElem?_map] at h
    cases e : ds[i]? with
    | none => rw [e] at h; cases h
    | some x =>
      rw [e] at h; cases h
      obtain ⟨v, e1, e2⟩ := r.get e
      exact ⟨v, by rw [List.getElem?_append_left (by rw [List.length_map]; omega), List.getElem?_map, e1]; rfl, e2⟩
  · rw [List.getElem?_append_right (by rw [List.length_map]; omega)] at h
    have := List.mem_of_getElem? h
    rw [List.mem_replicate] at this
    cases this.2
theorem RDs.split {K : Frag} {H : Hp} {α : Al} : ∀ {ds : List D} {vs : List V} (n : Nat), RDs K H α ds vs → RDs K H α (ds.take n) (vs.take n) ∧ RDs K H α (ds.drop n) (vs.drop n)
  | _, _, 0, r => ⟨.nil, r⟩
  | _, _, _ + 1, .nil => ⟨.nil, .nil⟩
  | _, _, n + 1, .cons a r => ⟨.cons a (RDs.split n r).1, (RDs.split n r).2⟩

/-- a body's promise, told of the evaluator's level -/
def BodyJ (P : Program) (w : World) (K : Frag) (mg : Str → Option Value) (base : Heap) (k : Nat) (f : Addr) (qual : Str) (N : List Str) (st : Stmt) (m : Rho → M (Ln.Fl × Rho)) : Prop :=
  ∀ (cdv : Value) (A : Around) (outer : List Env) (s : Shared) (H : Hp) (E : XK), A.guards = some [] → Room k (A.deeper (envOfC qual (defScope st) s.heap.objs.size f cdv)) →
    JSs (cxOf CX0 P w K mg base N qual (defScope st) f cdv A outer s H E).nox X0 (defBody st) m
/-- the level cf of calls answers for the defs at fs -/
structure Lev (P : Program) (w : World) (K : Frag) (mg : Str → Option Value) (base : Heap) (fs : List Addr) (prog : List Ln.Fn) (wf k : Nat) : Prop where
  ok : ∀ (i : Nat) (f : Addr), fs[i]? = some f → FnG P w K mg base CX0 k f (spI K (Ln.callI prog wf k i))

section
variable {P : Program} {w : World} {K : Frag} {mg : Str → Option Value} {base : Heap} {k wf i : Nat} {f : Addr} {x qual : Str} {st : Stmt} {fd : FuncData} {N ps : List Str} {prog : List Ln.Fn} {fn : Ln.Fn}
theorem body_run {H2 : Hp} {vs : List V} {as : List D} {α : Al} {S : Store} {Q : VK} {X : Cx} (hX : X.K = K) (hs : fn.slots = N.length) (rs : RS K H2 α S) (rds : RDs K H2 α as vs)
    (p : Pst K X0 H2 α (Ln.runBody (Ln.callI prog wf k) wf fn as S) fun d _ H' α' => ∀ v, RD K H' α' d v → Q v H') :
    TSI X.K X0 (Ln.execs (Ln.callI prog wf k) wf fn.body) { nx := fun _ H' => Q .non H', rt := Q } (start N vs) H2 := by
  subst hX
  refine ⟨as.map some ++ List.replicate (fn.slots - as.length) none, α, S, rs, ?_, p.bind.mono fun q S1 H1 α1 _ ⟨a, q'⟩ σ' re' => ?_⟩
  · rw [hs]; exact re_start rds N.length
  · obtain ⟨fl, ρ'⟩ := q
    cases fl with
    | nx => exact q'.ret a.rs _ .non
    | rt d => exact q'.ret a.rs
    | bk => exact q'.elim
    | ct => exact q'.elim
theorem fnG_plain (F : Fun K x qual st f fd) (S : FnScope N ps (defScope st)) (hfn : prog[i]? = some fn) (h1 : fn.arity = ps.length) (h2 : fn.star = false) (h3 : fn.slots = N.length)
    (hb : ∀ (kV doc pm : Value) (an : Option Addr) (cdv ct : Value) (us : List Value), us.length = ps.length → bindArgs (PySem.W.fnOf x qual (defArgs st) (defBody st) (defScope st) .none kV doc pm an cdv ct) ⟨us, []⟩ = pure (ps.zip us))
    (B : BodyJ P w K mg base k f qual N st (Ln.execs (Ln.callI prog wf k) wf fn.body)) : FnG P w K mg base CX0 (k + 1) f (spI K (Ln.callI prog wf (k + 1) i)) := by
  obtain ⟨oc, od, kV, doc, pm, an, cdv, ct, osl, rfl, lk, hcd⟩ := F.ex
  intro A outer s H us vs Q E hr hG e0 r ⟨α, S0, ds, rs, rds, p⟩
  simp only [Ln.callI, hfn, Ln.bindA, h2, h1] at p
  by_cases hl : ds.length = ps.length
  · rw [if_neg Bool.false_ne_true, if_pos hl] at p
    have hlv : vs.length = ps.length := by rw [← rds.length]; exact hl
    have hlu : us.length = ps.length := by rw [← r.length]; exact hlv
    refine StX.run_bnd lk hcd S hr e0 (G := fun xs H2 => xs = vs ∧ H2 = H) (fun A' Ex Q' h => ?_) fun s2 H2 xs ⟨ex, eH⟩ hr' => ?_
    · rw [hb _ _ _ _ _ _ us hlu]
      exact wpAny_pure (h s H vs us e0 .refl rfl (fun _ _ z => z) r hlv ⟨rfl, rfl⟩)
    · subst ex eH
      exact ⟨_, (B cdv A outer s2 _ E hG hr').nox, body_run rfl h3 rs rds p⟩
  · rw [if_neg Bool.false_ne_true, if_neg hl] at p
    exact p.elim
theorem fnG_star {pv : Str} (F : Fun K x qual st f fd) (S : FnScope N (ps ++ [pv]) (defScope st)) (hfn : prog[i]? = some fn) (h1 : fn.arity = ps.length) (h2 : fn.star = true) (h3 : fn.slots = N.length)
    (hb : ∀ (kV doc pm : Value) (an : Option Addr) (cdv ct : Value) (us rest : List Value), us.length = ps.length → bindArgs (PySem.W.fnOf x qual (defArgs st) (defBody st) (defScope st) .none kV doc pm an cdv ct) ⟨us ++ rest, []⟩ = (newTuple rest >>= fun t => pure (ps.zip us ++ [(pv, t)])))
    (B : BodyJ P w K mg base k f qual N st (Ln.execs (Ln.callI prog wf k) wf fn.body)) : FnG P w K mg base CX0 (k + 1) f (spI K (Ln.callI prog wf (k + 1) i)) := by
  obtain ⟨oc, od, kV, doc, pm, an, cdv, ct, osl, rfl, lk, hcd⟩ := F.ex
  intro A outer s H us vs Q E hr hG e0 r ⟨α, S0, ds, rs, rds, p⟩
  simp only [Ln.callI, hfn, Ln.bindA, h2, h1] at p
  by_cases hl : ps.length ≤ ds.length ∧ ds.length ≤ Ln.line
  · rw [if_pos trivial, if_pos hl] at p
    have hlv : ds.length = vs.length := rds.length
    obtain ⟨rd1, rd2⟩ := rds.split ps.length
    have ev : vs = vs.take ps.length ++ vs.drop ps.length := (List.take_append_drop _ _).symm
    rw [ev] at r
    obtain ⟨u1, u2, eu, r1, r2⟩ := StX.vals_split r
    subst eu
    have hw : (vs.take ps.length).length = ps.length := by rw [List.length_take]; omega
    have hl1 : u1.length = ps.length := by rw [← r1.length]; exact hw
    have hz : (vs.drop ps.length).length ≤ sizeLine := by rw [List.length_drop]; have : Ln.line = sizeLine := rfl; omega
    have hl2 : u2.length ≤ sizeLine := by rw [← r2.length]; exact hz
    have hn : H s.heap.objs.size = Option.none := e0.hok.fresh (Nat.le_refl _)
    refine StX.run_bnd lk hcd S hr e0 (G := fun xs H2 => ∃ (p : Addr) (o : Obj), o.dict = Option.none ∧ H p = Option.none ∧ xs = vs.take ps.length ++ [V.ref p] ∧ H2 = upd H p (.frz o (.tup (vs.drop ps.length)))) (fun A' Ex Q' h => ?_) fun s2 H2 xs ⟨q, o, ho, hp, ex, eH⟩ hr' => ?_
    · rw [hb _ _ _ _ _ _ u1 u2 hl1]
      refine wpAny_bind (wpAny_newTuple (wpAny_pure ?_) hl2)
      have new : ObjOk P w (upd H s.heap.objs.size (.frz (tupO u2) (.tup (vs.drop ps.length)))) (s.heap.push (tupO u2)) s.heap.objs.size (.frz (tupO u2) (.tup (vs.drop ps.length))) :=
        ⟨Heap.get?_push_size _ rfl, hz, u2, r2, ⟨_, Heap.get?_push_size _ rfl, rfl, _, rfl⟩⟩
      have un := StX.un_laid (fs := frs outer) (s := s) (o := tupO u2) (u := .frz (tupO u2) (.tup (vs.drop ps.length))) hn
      have z := h _ _ (vs.take ps.length ++ [V.ref s.heap.objs.size]) (u1 ++ [Value.ref s.heap.objs.size]) (StX.env0_laid e0 new) un rfl (fun e s' z => z) (r1.append (.cons rfl .nil))
        (by rw [List.length_append, List.length_append, hw] <;> rfl) ⟨_, _, rfl, hn, rfl, rfl⟩
      rw [List.zip_append hl1.symm] at z
      exact z
    · subst ex eH
      have af := After.new rs (o := .frz o (.tup (vs.drop ps.length))) hp
      exact ⟨_, (B cdv A outer s2 _ E hG hr').nox, body_run rfl h3 af.rs ((af.rds rd1).append (.cons (.tup (.inl ⟨o, ho, upd_same⟩) (af.rds rd2)) .nil)) (p.move af)⟩
  · rw [if_pos trivial, if_neg hl] at p
    exact p.elim
end
end LnS

set_option linter.all false
set_option maxRecDepth 100000
/-! Ln: a law's head. -/
namespace LnS
open PySem PySem.Spec L2 PyProof.Rows
open Ln (D O Store Rho M R Ex)

theorem rds_nums {K : Frag} {H : Hp} {α : Al} : ∀ ns : List Int, RDs K H α (ns.map D.int) (ns.map V.int)
  | [] => .nil
  | n :: ns => .cons (.int n) (rds_nums ns)

theorem law_callG {P : Program} {w : World} {K : Frag} {mg mb : Str → Option Value} {k : Nat} {fa a : Addr} {g : List D → M D} {s₁ : Shared} {vs : List Value} {ns : List Int}
    (KX : K.In s₁.heap) (hns : s₁.heap.Ns mainGlobals mg) (hb : s₁.heap.Ns builtinsNs mb) (hbb : ∀ x : Str, x ≠ "__name__" → mb x = bootBuiltins x) (hlim : s₁.heap.NoLimit) (hg : s₁.gens = #[])
    (ha : s₁.heap.get? a = some { cls := .type "list", data := .seq vs.toArray }) (hi : IntsAre vs ns) (hl : ns.length ≤ sizeLine) (hr : Room k callerA) (hK1 : K.lookup sysModules = none) (hm : ∃ mm, s₁.heap.Ns sysModules mm)
    (F : ∀ base : Heap, K.In base → base.Ns mainGlobals mg → FnG P w K mg base CX0 k fa (spI K g))
    (hsp : ∃ S', g [.frz (ns.map D.int)] [] = .ok (.bl true) S') :
    codeAny (model P w) callerA (.call (.ref fa) ⟨[.ref a], []⟩) (fun r s' => r = .ok (.ret (.bool true)) ∧ OldK s₁.heap s'.heap ∧ s'.os = s₁.os ∧ AllBare s'.gens) s₁ := by
  have rv := vals_ints hi
  have lenV := hi.length
  obtain ⟨mm, o1, es1, ep1, hM1, hM2, hM3⟩ := hm
  have a1 : a ≠ sysModules := fun z => by
    rw [z, hM1] at ha; cases ha
    cases hM2
  let φ : Heap → Prop := fun h => h.get? sysModules = some o1
  have core : ∀ H : Hp, (∀ b, b ≠ sysModules → H b = none ∨ ∃ o xs, H b = some (.frz o (.lst xs))) → H sysModules = some (.ext φ) → Frz K H ⟨[], [], []⟩ a (ns.map V.int) → HOk P w H s₁.heap → (∀ b, H b ≠ none → b = a ∨ b = sysModules) → (H a ≠ none → K.lookup a = none) →
      codeAny (model P w) callerA (.call (.ref fa) ⟨[.ref a], []⟩) (fun r s' => r = .ok (.ret (.bool true)) ∧ OldK s₁.heap s'.heap ∧ s'.os = s₁.os ∧ AllBare s'.gens) s₁ := by
    intro H hO hS1 hS hok hA hK
    have base_of : ∀ {b : Addr} {o : Obj}, s₁.heap.get? b = some o → H b = none → (hidT s₁.heap H).get? b = some o := fun e n => hidT_get e n
    have noA : ∀ {b : Addr} {o : Obj} {es : Array DictEntry} {ep : Nat}, b ≠ sysModules → s₁.heap.get? b = some o → o.data = .dict es ep → H b = none := fun {b o es ep} nb e d => by
      cases q : H b with
      | none => rfl
      | some u =>
        have e' : b = a := (hA b (by rw [q]; simp)).resolve_right nb
        subst e'
        rw [ha] at e; cases e
        have d' : Data.seq vs.toArray _ = Data.dict es ep := d
        cases d'
    have nsK : ∀ {b : Addr} {m : Str → Option Value}, b ≠ sysModules → s₁.heap.Ns b m → (hidT s₁.heap H).Ns b m := fun {b m} nb ⟨o, es, ep, e, d, r⟩ => ⟨o, es, ep, base_of e (noA nb e d), d, r⟩
    have hKb : K.In (hidT s₁.heap H) := fun b o e => base_of (KX b o e) (by
      cases q : H b with
      | none => rfl
      | some u =>
        rcases hA b (by rw [q]; simp) with e' | e'
        · subst e'
          rw [hK (by rw [q]; simp)] at e; cases e
        · subst e'
          rw [hK1] at e; cases e)
    have hMd : Mod K mg (hidT s₁.heap H) := ⟨hKb, nsK (by decide) hns, ⟨mb, nsK (by decide) hb, hbb⟩, let ⟨mc, h1, h2⟩ := hlim; ⟨mc, nsK (by decide) h1, h2⟩⟩
    have e0 : Env0 P w K mg (hidT s₁.heap H) callerA [] s₁ H := ⟨rfl, hMd, fun b o e => of_hidT e, Nat.le_of_eq (hidT_size _ _), trivial, fun b hb => absurd (show b ∈ ([] : List Addr) from hb) (by simp), hok, .of_eq hg⟩
    have sp : spI K g [.ref a] H (fun v H' => v = .bl true ∧ H' sysModules = some (.ext φ)) fun _ _ _ => False := by
      refine ⟨⟨[], [], []⟩, [], [.frz (ns.map D.int)], ⟨⟨φ, hS1⟩, rfl, List.nodup_nil, fun _ h => absurd h (by simp), fun _ h => absurd h (by simp), fun n b o h => by simp at h, fun n b o h => by simp at h, fun _ h => absurd h (by simp)⟩, .cons (.frz hS (rds_nums ns)) .nil, ?_⟩
      obtain ⟨S', e⟩ := hsp
      rw [e]
      intro H' α' af v rv
      cases rv
      exact ⟨rfl, af.ext.keep _ _ hS1 fun z => absurd z (by simp)⟩
    refine codeAny_mono (F _ hKb (nsK (by decide) hns) callerA [] s₁ H [.ref a] [.ref a] _ _ hr rfl e0 (.cons rfl .nil) sp) fun r s' h => ?_
    cases r with
    | error e => exact h.elim
    | ok fl =>
      cases fl with
      | next => exact False.elim h
      | brk => exact False.elim h
      | cont => exact False.elim h
      | ret u =>
        obtain ⟨v, H', os, bare, un, hok', r', q', q2⟩ := h
        subst q'
        obtain rfl : u = Value.bool true := r'
        refine ⟨rfl, OldK.of_keep fun b o e => ?_, os, bare⟩
        by_cases hb1 : b = sysModules
        · subst hb1
          rw [hM1] at e; cases e
          obtain ⟨z, _⟩ := hok' _ _ q2
          exact z
        · cases q : H b with
          | none => exact un.keep b o e q (by intro z; exact absurd (show b ∈ ([] : List Addr) from z) (by simp)) (by simp)
          | some u =>
            rcases hO b hb1 with z | ⟨ob, xs, z⟩
            · rw [q] at z; cases z
            · have z2 := un.frzs b ob _ z
              obtain ⟨e1, _⟩ := hok b _ z
              obtain ⟨e2, _⟩ := hok' b _ z2
              rw [e] at e1; cases e1
              exact e2
  have hext : ∀ H : Hp, ObjOk P w H s₁.heap sysModules (.ext φ) := fun H => ⟨hM1, ⟨o1, hM1⟩, fun h1 h2 p k => k _ p⟩
  cases hk : K.lookup a with
  | some o =>
    have e := KX a o hk
    rw [ha] at e
    cases e
    refine core (fun b => if b = sysModules then some (.ext φ) else none) (fun b nb => .inl (if_neg nb)) (if_pos rfl) (.inr ⟨_, vs.toArray, _, hk, rfl, rfl, rfl, by rw [List.size_toArray, lenV]; exact hl, by simpa using rv⟩) (fun b u z => ?_) (fun b z => ?_) fun z => absurd (if_neg a1) z
    · by_cases hb : b = sysModules
      · subst hb
        have z' := (if_pos rfl).symm.trans z
        cases z'
        exact hext _
      · have z' := (if_neg hb).symm.trans z
        cases z'
    · by_cases hb : b = sysModules
      · exact .inr hb
      · exact absurd (if_neg hb) z
  | none =>
    refine core (fun b => if b = sysModules then some (.ext φ) else if b = a then some (.frz { cls := .type "list", data := .seq vs.toArray } (.lst (ns.map V.int))) else none) (fun b nb => ?_) (if_pos rfl) (.inl ⟨by rintro (z | z) <;> simp at z, .inr ⟨{ cls := .type "list", data := .seq vs.toArray }, (if_neg a1).trans (if_pos rfl)⟩⟩) (fun b u z => ?_) (fun b z => ?_) fun _ => hk
    · by_cases hb : b = a
      · exact .inr ⟨_, _, (if_neg nb).trans (if_pos hb)⟩
      · exact .inl ((if_neg nb).trans (if_neg hb))
    · by_cases hs : b = sysModules
      · subst hs
        have z' := (if_pos rfl).symm.trans z
        cases z'
        exact hext _
      · have z := (if_neg hs).symm.trans z
        by_cases hb : b = a
        · have z' := (if_pos hb).symm.trans z
          cases z'
          subst hb
          exact ⟨ha, by rw [List.length_map]; exact hl, vs, _, rv, ha⟩
        · have z' := (if_neg hb).symm.trans z
          cases z'
    · by_cases hs : b = sysModules
      · exact .inr hs
      · by_cases hb : b = a
        · exact .inl hb
        · exact absurd ((if_neg hs).trans (if_neg hb)) z

theorem walk_ofG {l : PySem.W.OpenLaw} {n k : Nat} {q : Program} {loose : List Str} {XP : (Str → Option Value) → Heap → Prop} {YP : World → Heap → Prop} {d : DefRec} {K : Params → Frag} {g : List D → M D}
    (hn : l.most = some n) (hn2 : n ≤ sizeLine) (hdf : d.params.defaults = []) (hr : Room k callerA) (himp : importsNone q = true)
    (hY : ∀ (w : World) (h : Heap), YP w h → (K w.params).In h) (hK1 : ∀ w : World, (K w.params).lookup sysModules = none)
    (F : ∀ (w : World) (mg : Str → Option Value) (fa : Addr) (h : Heap), (K w.params).In h → h.Ns mainGlobals mg → mg d.name = some (.ref fa) →
      ∀ base : Heap, (K w.params).In base → base.Ns mainGlobals mg → FnG l.prog w (K w.params) mg base CX0 k fa (spI (K w.params) g))
    (hsp : ∀ ns : List Int, ns.length ≤ n → (∀ i ∈ ns, Builtin.Int.intBits i ≤ 1048576) → ∃ S', g [.frz (ns.map D.int)] [] = .ok (.bl true) S') :
    PySem.W.WalkO q loose XP YP l.row.toRowW d [] (fun f vs => PySem.call f vs) := by
  refine Att.attach_callB hn hdf fun w s₀ s₁ mg mb fa o pm cd doc a vs ns G Y ho hd hcd hmg hobj hints hlen hbits hg => ?_
  have KX := hY w _ Y
  obtain ⟨mm, hm, _⟩ := (G.T.seer himp).mods
  exact law_callG KX G.T.g G.T.b G.T.builtins G.T.nolimit hg hobj hints (Nat.le_trans hlen hn2) hr (hK1 w) ⟨mm, hm⟩ (F w mg fa _ KX G.T.g hmg) (hsp ns hlen hbits)
end LnS
namespace LnS
open PySem L2
theorem fn_at {P : Program} {w : World} {K : Frag} {mg : Str → Option Value} {base : Heap} {fs : List Addr} {prog : List Ln.Fn} {wf k i : Nat} {f fa : Addr} {x : Str} (L : Lev P w K mg base fs prog wf k) (h : fs[i]? = some f) (h1 : mg x = some (.ref fa)) (h2 : mg x = some (.ref f)) :
    FnG P w K mg base CX0 k fa (spI K (Ln.callI prog wf k i)) := by
  rw [h1] at h2
  cases h2
  exact L.ok i _ h
end LnS

set_option linter.all false
set_option maxRecDepth 100000
/-! Ln: built-in names. -/
namespace LnS
open PySem
theorem bt_len : bootBuiltins "len" = some (.builtin "len") := by decide +kernel
theorem bt_all : bootBuiltins "all" = some (.builtin "all") := by decide +kernel
theorem bt_any : bootBuiltins "any" = some (.builtin "any") := by decide +kernel
theorem bt_sum : bootBuiltins "sum" = some (.builtin "sum") := by decide +kernel
theorem bt_abs : bootBuiltins "abs" = some (.builtin "abs") := by decide +kernel
theorem bt_max : bootBuiltins "max" = some (.builtin "max") := by decide +kernel
theorem bt_min : bootBuiltins "min" = some (.builtin "min") := by decide +kernel
theorem bt_repr : bootBuiltins "repr" = some (.builtin "repr") := by decide +kernel
theorem bt_tuple : bootBuiltins "tuple" = some (.type "tuple") := by decide +kernel
theorem bt_list : bootBuiltins "list" = some (.type "list") := by decide +kernel
theorem bt_int : bootBuiltins "int" = some (.type "int") := by decide +kernel
theorem bt_bool : bootBuiltins "bool" = some (.type "bool") := by decide +kernel
theorem bt_str : bootBuiltins "str" = some (.type "str") := by decide +kernel
theorem bt_dict : bootBuiltins "dict" = some (.type "dict") := by decide +kernel
theorem bt_sorted : bootBuiltins "sorted" = some (.builtin "sorted") := by decide +kernel
end LnS

set_option linter.all false
/-! Ln: running the evaluator by rewriting; the laws' prelude. -/
namespace Ln
open PySem (Str PyData)

/-! ### rewriting rules -/
theorem rBind {α β : Type} (m : M α) (f : α → M β) (S : Store) : M.bind m f S = match m S with | .ok a s' => f a s' | .exc e s' => .exc e s' | .err => .err := rfl
theorem rRet {α : Type} (a : α) (S : Store) : M.ret a S = .ok a S := rfl
theorem rOpt {α : Type} (f : Store → Option α) (S : Store) : M.opt f S = match f S with | some a => .ok a S | none => .err := rfl
theorem rNox {α : Type} (m : M α) (S : Store) : M.nox m S = match m S with | .ok a s' => .ok a s' | _ => .err := rfl
section
variable {cf : Nat → List D → M D} {w : Nat} {ρ : Rho}
end
theorem tm_bl {b : Bool} {S : Store} : truthM (.bl b) S = .ok b S := rfl
theorem tm_int {i : Int} {S : Store} : truthM (.int i) S = .ok (i != 0) S := rfl
theorem ii_add {a b : Int} : intOp .add a b = some (a + b) := rfl
theorem ii_sub {a b : Int} : intOp .sub a b = some (a - b) := rfl
theorem ii_mul {a b : Int} (h : mulOk a b = true) : intOp .mul a b = some (a * b) := if_pos h
theorem ii_div {a b : Int} (h : divOk b = true) : intOp .fdiv a b = some (a.fdiv b) := if_pos h
theorem ii_mod {a b : Int} (h : b ≠ 0) : intOp .mod a b = some (a.fmod b) := if_pos (by simpa using h)
theorem ii_pow {a b : Int} (h : powOk a b = true) : intOp .pow a b = some (a ^ b.toNat) := if_pos h
theorem bop_ii {o : Bop} {a b : Int} {S : Store} : bop o (.int a) (.int b) S = (intOp o a b).map .int := rfl
theorem mulOk_l {a b : Int} (h1 : -(2 ^ 64) < a) (h2 : a < 2 ^ 64) : mulOk a b = true := by
  unfold mulOk small64
  simp only [Bool.or_eq_true, Bool.and_eq_true, decide_eq_true_eq]
  exact .inl (.inl ⟨h1, h2⟩)
theorem mulOk_r {a b : Int} (h1 : -(2 ^ 64) < b) (h2 : b < 2 ^ 64) : mulOk a b = true := by
  unfold mulOk small64
  simp only [Bool.or_eq_true, Bool.and_eq_true, decide_eq_true_eq]
  exact .inl (.inr ⟨h1, h2⟩)
theorem mod_lo {a b : Int} (h : 0 < b) : 0 ≤ a.fmod b := by rw [Int.fmod_eq_emod_of_nonneg _ (Int.le_of_lt h)]; exact Int.emod_nonneg _ (by omega)
theorem mod_hi {a b : Int} (h : 0 < b) : a.fmod b < b := by rw [Int.fmod_eq_emod_of_nonneg _ (Int.le_of_lt h)]; exact Int.emod_lt_of_pos _ h

/-! ### the prelude's texts -/
def b_stream : Sms :=
  (.cons (.set 2 (.bin .add (.bin .mul (.cst (.int 13)) (.var 1)) (.cst (.int 6))))
  (.cons (.cond (.cmp .lt (.var 1) (.blt .len (.cons (.var 0) .nil)))
  (.cons (.set 2 (.idx (.var 0) (.var 1)))
  .nil) .nil)
  (.cons (.set 3 (.bin .mod (.blt .abs (.cons (.var 2) .nil)) (.bin .pow (.bin .pow (.cst (.int 10)) (.cst (.int 60))) (.cst (.int 11)))))
  (.cons (.set 4 (.bin .mod (.bin .add (.bin .add (.bin .add (.bin .mul (.bin .mod (.var 3) (.cst (.int 2147483579))) (.cst (.int 48271))) (.bin .mul (.cst (.int 92821)) (.var 1))) (.bin .mul (.cst (.int 5)) (.blt .int (.cons (.cmp .lt (.var 2) (.cst (.int 0))) .nil)))) (.cst (.int 29))) (.cst (.int 2147483563))))
  (.cons (.ret (.lstM (.cons (.blt .max (.cons (.cst (.int 0)) (.cons (.bin .add (.bin .sub (.var 3) (.bin .pow (.cst (.int 10)) (.cst (.int 18)))) (.cst (.int 1))) .nil))) (.cons (.var 4) (.cons (.cst (.int 0)) .nil)))))
  .nil)))))
def b_draw : Sms :=
  (.cons (.cond (.cmp .gt (.idx (.var 0) (.cst (.int 0))) (.cst (.int 0)))
  (.cons (.set 2 (.bin .mod (.idx (.var 0) (.cst (.int 0))) (.var 1)))
  (.cons (.setI (.var 0) (.cst (.int 0)) (.bin .fdiv (.idx (.var 0) (.cst (.int 0))) (.var 1)))
  (.cons (.ret (.var 2))
  .nil))) .nil)
  (.cons (.setI (.var 0) (.cst (.int 2)) (.bin .add (.idx (.var 0) (.cst (.int 2))) (.cst (.int 1))))
  (.cons (.set 3 (.bin .mod (.bin .add (.idx (.var 0) (.cst (.int 1))) (.bin .mul (.cst (.int 1000037)) (.idx (.var 0) (.cst (.int 2))))) (.cst (.int 2305843009213693951))))
  (.cons (.set 4 (.bin .mod (.bin .add (.bin .mul (.bin .mod (.bin .mul (.var 3) (.var 3)) (.cst (.int 2305843009213693921))) (.var 3)) (.bin .mul (.cst (.int 7907)) (.idx (.var 0) (.cst (.int 2))))) (.cst (.int 2305843009213693907))))
  (.cons (.ret (.bin .mod (.bin .fdiv (.var 4) (.cst (.int 4099))) (.var 1)))
  .nil)))))
def b_pick (n : Nat) : Sms :=
  (.cons (.ret (.idx (.var 1) (.call n (.cons (.var 0) (.cons (.blt .len (.cons (.var 1) .nil)) .nil)))))
  .nil)

/-- the store holds a stream at n -/
def Strm (n : Nat) (S : Store) : Prop := ∃ a b c : Int, S[n]? = some (.lst [.int a, .int b, .int c])
theorem strm_set {n : Nat} {S : Store} (h : n < S.length) (a b c : Int) : Strm n (S.set n (.lst [.int a, .int b, .int c])) := ⟨a, b, c, List.getElem?_set_self h⟩
theorem callI_s {prog : List Fn} {w k i : Nat} {fn : Fn} {args as : List D} {S : Store} (h : prog[i]? = some fn) (hb : bindA fn args = some as) : callI prog w (k + 1) i args S = runBody (callI prog w k) w fn as S := by
  simp only [callI, h, hb]
section
variable {prog : List Fn} {w k i n : Nat} {S : Store}
/-- _law_draw -/
theorem draw_sp (h : prog[i]? = some ⟨2, false, 5, b_draw⟩) (hs : Strm n S) {t : Int} (h0 : 0 < t) (h1 : t.natAbs.log2 < 9000) :
    ∃ r S', callI prog w (k + 1) i [.ref n, .int t] S = .ok (.int r) S' ∧ 0 ≤ r ∧ r < t ∧ Strm n S' ∧ S'.length = S.length ∧ ∀ m, m ≠ n → S'[m]? = S[m]? := by
  obtain ⟨a, b, c, e⟩ := hs
  have hn : n < S.length := (List.getElem?_eq_some_iff.mp e).1
  rw [callI_s h rfl]
  have hd : divOk t = true := by unfold divOk; simp; omega
  by_cases ha : 0 < a
  · have e1 : runBody (callI prog w k) w ⟨2, false, 5, b_draw⟩ [.ref n, .int t] S = .ok (.int (a.fmod t)) (S.set n (.lst [.int (a.fdiv t), .int b, .int c])) := by
      simp [runBody, b_draw, execs, exec, evT, ev, evs, rBind, rRet, rOpt, getV, idxD, seqOf, e, atP, place, cop, ha, truthM, truth, nextK, bop, intOp, hd, setIK, (show t ≠ 0 by omega)]
    exact ⟨_, _, e1, mod_lo h0, mod_hi h0, strm_set hn _ _ _, List.length_set, fun m hm => List.getElem?_set_ne (fun z => hm z.symm)⟩
  · have one := mod_lo (a := b + 1000037 * (c + 1)) (b := 2305843009213693951) (by decide)
    have one' := mod_hi (a := b + 1000037 * (c + 1)) (b := 2305843009213693951) (by decide)
    generalize hx : (b + 1000037 * (c + 1)).fmod 2305843009213693951 = x at one one'
    have m1 : mulOk x x = true := mulOk_l (by omega) (by omega)
    have y1 := mod_lo (a := x * x) (b := 2305843009213693921) (by decide)
    have y2 := mod_hi (a := x * x) (b := 2305843009213693921) (by decide)
    generalize hy : (x * x).fmod 2305843009213693921 = y at y1 y2
    have m2 : mulOk y x = true := mulOk_r (by omega) (by omega)
    have hset : ∀ o : O, (S.set n o)[n]? = some o := fun o => List.getElem?_set_self hn
    have m3 : ∀ z, mulOk 1000037 z = true := fun z => mulOk_l (by decide) (by decide)
    have m4 : ∀ z, mulOk 7907 z = true := fun z => mulOk_l (by decide) (by decide)
    have e1 : runBody (callI prog w k) w ⟨2, false, 5, b_draw⟩ [.ref n, .int t] S = .ok (.int ((((y * x + 7907 * (c + 1)).fmod 2305843009213693907).fdiv 4099).fmod t)) (S.set n (.lst [.int a, .int b, .int (c + 1)])) := by
      simp [runBody, b_draw, execs, exec, evT, ev, evs, rBind, rRet, rOpt, getV, idxD, seqOf, e, atP, place, cop, ha, truthM, truth, nextK, bop, intOp, setIK, (show t ≠ 0 by omega), hset, m3, hx, m1, hy, m2, m4, (show divOk 4099 = true by decide)]
    exact ⟨_, _, e1, mod_lo h0, mod_hi h0, strm_set hn _ _ _, List.length_set, fun m hm => List.getElem?_set_ne (fun z => hm z.symm)⟩
/-- _law_pick -/
theorem pick_sp {j : Nat} (h : prog[i]? = some ⟨2, false, 5, b_draw⟩) (h2 : prog[j]? = some ⟨2, false, 2, b_pick i⟩) (hs : Strm n S) {ds : List D} (h0 : ds ≠ []) (h1 : ds.length < 1000) :
    ∃ d S', callI prog w (k + 2) j [.ref n, .lst ds] S = .ok d S' ∧ d ∈ ds ∧ Strm n S' ∧ S'.length = S.length ∧ ∀ m, m ≠ n → S'[m]? = S[m]? := by
  have hl : 0 < ds.length := List.length_pos_iff.mpr h0
  obtain ⟨r, S', e, r0, r1, hs', hl', ho⟩ := draw_sp (w := w) (k := k) h hs (t := (ds.length : Int)) (by omega) (by
    rw [Int.natAbs_natCast]
    have := Nat.log2_le_self ds.length
    omega)
  obtain ⟨q, hq⟩ : ∃ q : Nat, r = q := ⟨r.toNat, by omega⟩
  subst hq
  have hr : q < ds.length := by omega
  refine ⟨ds[q], S', ?_, List.getElem_mem hr, hs', hl', ho⟩
  rw [callI_s h2 rfl]
  simp [runBody, b_pick, execs, exec, ev, evs, rBind, rRet, rOpt, getV, blt, blt0, lenF, seqOf, e, idxD, atP, place, hr, List.getElem?_eq_getElem hr, nextK]
/-- _law_stream -/
theorem stream_sp (h : prog[i]? = some ⟨2, false, 5, b_stream⟩) {ns : List Int} {at_ : Nat} :
    ∃ S', callI prog w (k + 1) i [.frz (ns.map D.int), .int at_] S = .ok (.ref S.length) S' ∧ Strm S.length S' ∧ S'.length = S.length + 1 ∧ ∀ m, m < S.length → S'[m]? = S[m]? := by
  have p1 : powOk 10 60 = true := by decide +kernel
  have p2 : powOk (10 ^ 60) 11 = true := by decide +kernel
  have p3 : powOk 10 18 = true := by decide +kernel
  have m1 : ∀ z, mulOk 13 z = true := fun z => mulOk_l (by decide) (by decide)
  have m2 : ∀ z, mulOk 92821 z = true := fun z => mulOk_l (by decide) (by decide)
  have m3 : ∀ z, mulOk 5 z = true := fun z => mulOk_l (by decide) (by decide)
  have m4 : ∀ z, mulOk z 48271 = true := fun z => mulOk_r (by decide) (by decide)
  have n1 : ((10 : Int) ^ 60) ^ 11 ≠ 0 := by decide +kernel
  have fin : (∃ x y : Int, runBody (callI prog w k) w ⟨2, false, 5, b_stream⟩ [.frz (ns.map D.int), .int at_] S = .ok (.ref S.length) (S ++ [.lst [.int x, .int y, .int 0]])) := by
    by_cases hl : at_ < ns.length
    · simp [runBody, b_stream, execs, exec, evT, ev, evs, rBind, rRet, rOpt, getV, nextK, bop, intOp, blt, blt0, absF, intF, maxF, lenF, p1, p2, p3, m1, m2, m3, m4, n1, cop, newO, truthM, truth, seqOf, idxD, atP, place, hl, -Int.reducePow]
    · simp [runBody, b_stream, execs, exec, evT, ev, evs, rBind, rRet, rOpt, getV, nextK, bop, intOp, blt, blt0, absF, intF, maxF, lenF, p1, p2, p3, m1, m2, m3, m4, n1, cop, newO, truthM, truth, seqOf, idxD, atP, place, hl, -Int.reducePow]
  obtain ⟨x, y, e⟩ := fin
  refine ⟨_, (callI_s h rfl).trans e, ⟨x, y, 0, by rw [List.getElem?_append_right (Nat.le_refl _), Nat.sub_self]; rfl⟩, by simp, fun m hm => List.getElem?_append_left hm⟩
end
end Ln
namespace Ln
open PySem (Str PyData)
/-! ### lists -/
section
variable {α β : Type} {S : Store}
theorem mapO_map {step : D → M (Option D)} {g : α → D} {f : α → D} : ∀ {l : List α}, (∀ a ∈ l, step (g a) S = .ok (some (f a)) S) → mapO step (l.map g) S = .ok (l.map f) S
  | [], _ => rfl
  | a :: l, h => by
    simp only [List.map_cons, mapO, rBind, h a List.mem_cons_self]
    rw [mapO_map fun b hb => h b (List.mem_cons_of_mem _ hb)]
    rfl
theorem mapO_filter {step : D → M (Option D)} {g : α → D} {f : α → Option D} : ∀ {l : List α}, (∀ a ∈ l, step (g a) S = .ok (f a) S) → mapO step (l.map g) S = .ok (l.filterMap f) S
  | [], _ => rfl
  | a :: l, h => by
    have ih := mapO_filter (l := l) fun b hb => h b (List.mem_cons_of_mem _ hb)
    simp only [List.map_cons, mapO, rBind, h a List.mem_cons_self, List.filterMap_cons]
    cases f a with
    | none => simp only [ih]
    | some y => simp only [rBind, ih, rRet]
/-- with a store that changes -/
theorem mapO_inv {step : D → M (Option D)} {g : α → D} {I : Store → Prop} {P : α → D → Prop} : ∀ {l : List α} {S : Store}, (∀ a ∈ l, ∀ S, I S → ∃ y S', step (g a) S = .ok (some y) S' ∧ I S' ∧ P a y) → I S →
    ∃ ys S', mapO step (l.map g) S = .ok ys S' ∧ I S' ∧ ys.length = l.length ∧ ∀ y ∈ ys, ∃ a ∈ l, P a y
  | [], S, _, hi => ⟨[], S, rfl, hi, rfl, fun y hy => nomatch hy⟩
  | a :: l, S, h, hi => by
    obtain ⟨y, S1, e1, i1, p1⟩ := h a List.mem_cons_self S hi
    obtain ⟨ys, S2, e2, i2, hl, p2⟩ := mapO_inv (l := l) (fun b hb => h b (List.mem_cons_of_mem _ hb)) i1
    refine ⟨y :: ys, S2, ?_, i2, by simp [hl], fun z hz => ?_⟩
    · simp only [List.map_cons, mapO, rBind, e1, e2, rRet]
    · rcases List.mem_cons.mp hz with rfl | hz
      · exact ⟨a, List.mem_cons_self, p1⟩
      · obtain ⟨b, hb, p⟩ := p2 z hz
        exact ⟨b, List.mem_cons_of_mem _ hb, p⟩
/-- a for by an invariant -/
theorem forL_inv {body : D → Rho → M (Fl × Rho)} {g : α → D} {I : Rho → Store → Prop} : ∀ {l : List α} {ρ : Rho} {S : Store}, (∀ a ∈ l, ∀ ρ S, I ρ S → ∃ ρ' S', body (g a) ρ S = .ok (.nx, ρ') S' ∧ I ρ' S') → I ρ S →
    ∃ ρ' S', forL body (l.map g) ρ S = .ok (.nx, ρ') S' ∧ I ρ' S'
  | [], ρ, S, _, hi => ⟨ρ, S, rfl, hi⟩
  | a :: l, ρ, S, h, hi => by
    obtain ⟨ρ1, S1, e1, i1⟩ := h a List.mem_cons_self ρ S hi
    obtain ⟨ρ2, S2, e2, i2⟩ := forL_inv (l := l) (fun b hb => h b (List.mem_cons_of_mem _ hb)) i1
    exact ⟨ρ2, S2, by simp only [List.map_cons, forL, rBind, e1, e2], i2⟩
/-- a for by an invariant that counts -/
theorem forL_count {body : D → Rho → M (Fl × Rho)} {g : α → D} {I : Nat → Rho → Store → Prop} {l : List α} : ∀ {n : Nat} {r : List α} {ρ : Rho} {S : Store}, l.drop n = r → (∀ i a, l[i]? = some a → ∀ ρ S, I i ρ S → ∃ ρ' S', body (g a) ρ S = .ok (.nx, ρ') S' ∧ I (i + 1) ρ' S') → I n ρ S →
    n ≤ l.length → ∃ ρ' S', forL body (r.map g) ρ S = .ok (.nx, ρ') S' ∧ I l.length ρ' S'
  | n, [], ρ, S, hr, _, hi, hn => by
    have := congrArg List.length hr
    simp at this
    exact ⟨ρ, S, rfl, by rw [show l.length = n by omega]; exact hi⟩
  | n, a :: r, ρ, S, hr, h, hi, hn => by
    have ha : l[n]? = some a := by rw [← List.head?_drop, hr]; rfl
    have hlt : n < l.length := (List.getElem?_eq_some_iff.mp ha).1
    obtain ⟨ρ1, S1, e1, i1⟩ := h n a ha ρ S hi
    have hr' : l.drop (n + 1) = r := by rw [← List.tail_drop, hr]; rfl
    obtain ⟨ρ2, S2, e2, i2⟩ := forL_count (n := n + 1) hr' h i1 hlt
    exact ⟨ρ2, S2, by simp only [List.map_cons, forL, rBind, e1, e2], i2⟩
end
theorem pairs_map {α β : Type} {f : α → D} {g : β → D} : ∀ (xs : List α) (ys : List β), pairs (xs.map f) (ys.map g) = (xs.zip ys).map fun p => .wtp [f p.1, g p.2]
  | [], _ => by simp [pairs]
  | _ :: _, [] => by simp [pairs]
  | x :: xs, y :: ys => by simp [pairs, pairs_map xs ys]
theorem range_0 (n : Nat) : range 0 n = (List.range n).map fun (i : Nat) => .int (i : Int) := by unfold range; simp
theorem ints_map : ∀ xs : List Int, intsD (xs.map .int) = some xs
  | [] => rfl
  | x :: xs => by simp [intsD, ints_map xs]
theorem bools_map : ∀ xs : List Bool, boolsD (xs.map .bl) = some xs
  | [] => rfl
  | x :: xs => by simp [boolsD, bools_map xs]
theorem bools_fun {α : Type} (f : α → Bool) : ∀ l : List α, boolsD (l.map fun a => D.bl (f a)) = some (l.map f)
  | [] => rfl
  | x :: xs => by simp [boolsD, bools_fun f xs]
theorem ints_fun {α : Type} (f : α → Int) : ∀ l : List α, intsD (l.map fun a => D.int (f a)) = some (l.map f)
  | [] => rfl
  | x :: xs => by simp [intsD, ints_fun f xs]
theorem zip_map {α β γ : Type} (f : α → β → γ) : ∀ (xs : List α) (ys : List β), (xs.zip ys).map (fun p => f p.1 p.2) = List.zipWith f xs ys
  | [], _ => by simp
  | _ :: _, [] => by simp
  | x :: xs, y :: ys => by simp [zip_map f xs ys]
theorem mapM_map {α : Type} {S : Store} {k : Nat} {g : α → D} {f : α → PyData} : ∀ {l : List α}, (∀ a ∈ l, toP S k (g a) = some (f a)) → (l.map g).mapM (toP S k) = some (l.map f)
  | [], _ => rfl
  | a :: l, h => by
    rw [List.map_cons, List.mapM_cons, h a List.mem_cons_self, mapM_map fun b hb => h b (List.mem_cons_of_mem _ hb)]
    rfl
theorem toP_int {S : Store} {k : Nat} {i : Int} : toP S k (.int i) = some (.int i) := by cases k <;> rfl

/-! ### texts of values -/
mutual
def cost : PyData → Nat
  | .none => 4
  | .bool _ => 5
  | .int _ => 1921
  | .str x => 10 * x.length + 2
  | .list xs => costs xs + 3
  | .tuple xs => costs xs + 3
  | .dict kvs => costKv kvs + 3
def costs : List PyData → Nat
  | [] => 0
  | x :: xs => cost x + 2 + costs xs
def costKv : List (PyData × PyData) → Nat
  | [] => 0
  | (k, v) :: r => cost k + cost v + 4 + costKv r
end
end Ln

set_option linter.all false
/-! Ln: how long the text of a value is. -/
namespace Ln
open PySem (Str PyData)
mutual
def fine : PyData → Bool
  | .none | .bool _ => true
  | .int i => decide (i.natAbs.log2 < 1920)
  | .str x => PyData.strOk x
  | .list xs | .tuple xs => fines xs
  | .dict kvs => fineKv kvs
def fines : List PyData → Bool
  | [] => true
  | x :: xs => fine x && fines xs
def fineKv : List (PyData × PyData) → Bool
  | [] => true
  | (k, v) :: r => fine k && fine v && fineKv r
end
mutual
theorem fine_showable : ∀ p : PyData, fine p = true → p.showable = true
  | .none, _ => by simp [PyData.showable]
  | .bool _, _ => by simp [PyData.showable]
  | .int i, h => by simpa [PyData.showable, fine] using h
  | .str x, _ => by simp [PyData.showable]
  | .list xs, h => by rw [PyData.showable]; exact fines_showable xs (by simpa [fine] using h)
  | .tuple xs, h => by rw [PyData.showable]; exact fines_showable xs (by simpa [fine] using h)
  | .dict kvs, h => by rw [PyData.showable]; exact fineKv_showable kvs (by simpa [fine] using h)
theorem fines_showable : ∀ xs : List PyData, fines xs = true → PyData.showableAll xs = true
  | [], _ => by simp [PyData.showableAll]
  | x :: xs, h => by
    have h' : fine x = true ∧ fines xs = true := by simpa [fines] using h
    rw [PyData.showableAll, fine_showable x h'.1, fines_showable xs h'.2]; rfl
theorem fineKv_showable : ∀ xs : List (PyData × PyData), fineKv xs = true → PyData.showableKv xs = true
  | [], _ => by simp [PyData.showableKv]
  | (k, v) :: r, h => by
    have h' : (fine k = true ∧ fine v = true) ∧ fineKv r = true := by simpa [fineKv] using h
    rw [PyData.showableKv, fine_showable k h'.1.1, fine_showable v h'.1.2, fineKv_showable r h'.2]; rfl
end
theorem listText_le : ∀ ts : List Str, (PySem.listText ts).length ≤ PySem.piled ts + 2
  | [] => by decide +kernel
  | t :: r => by
    have h := PySem.textFrom_length_pos r 1 (("[" : Str) ++ (if (0 : Nat) > 0 then ", " else "" : String) ++ t) (Nat.succ_pos 0)
    have e : ((("[" : Str) ++ (if (0 : Nat) > 0 then ", " else "" : String) ++ t)).length = 1 + t.length := by
      rw [PySem.strLen_append, PySem.strLen_append]; rfl
    have hX : (PySem.listText (t :: r)).length = (PySem.textFrom 0 "[" (t :: r)).length + 1 := by
      show (PySem.textFrom 0 "[" (t :: r) ++ "]").length = _
      rw [PySem.strLen_append]; rfl
    have hY : (PySem.textFrom 0 "[" (t :: r)).length = (PySem.textFrom 1 (("[" : Str) ++ (if (0 : Nat) > 0 then ", " else "" : String) ++ t) r).length := rfl
    rw [hX, hY, h, e, PySem.piled_cons]; omega
theorem join_le (ts : List Str) : (Str.join ", " ts).length ≤ PySem.piled ts := by
  by_cases h : ts = []
  · subst h; decide +kernel
  · have := PySem.join_length_add ts h
    omega
theorem tupleText_le (ts : List Str) : (PySem.tupleText ts).length ≤ PySem.piled ts + 3 := by
  unfold PySem.tupleText
  rw [PySem.strLen_append, PySem.strLen_append]
  have e1 : ((("(" : String) : Str)).length = 1 := rfl
  have e3 : (((if ts.length == 1 then ",)" else ")" : String) : Str)).length ≤ 2 := by split <;> decide
  have := join_le ts
  omega
theorem dictText_le (ts : List Str) : (PySem.dictText ts).length ≤ PySem.piled ts + 2 := by
  unfold PySem.dictText
  rw [PySem.strLen_append, PySem.strLen_append]
  have e1 : ((("{" : String) : Str)).length = 1 := rfl
  have e3 : ((("}" : String) : Str)).length = 1 := rfl
  have := join_le ts
  omega
mutual
theorem shown_le : ∀ p : PyData, fine p = true → p.shown.length ≤ cost p
  | .none, _ => by simp only [PyData.shown, cost]; decide +kernel
  | .bool b, _ => by simp only [PyData.shown, cost]; cases b <;> decide +kernel
  | .int i, h => by
    simp only [PyData.shown, cost]
    rw [PySem.ofString_length]
    exact PySem.int_text_length_le (k := 1920) (by decide) (by simpa [fine] using h)
  | .str x, h => by
    simp only [PyData.shown, cost]
    refine PySem.StrLaws.reprText_len x fun c hc => ?_
    have h' : PyData.strOk x = true := by simpa [fine] using h
    unfold PyData.strOk at h'
    rw [Array.all_eq_true'] at h'
    have := h' c (Array.mem_toList_iff.mp hc)
    simp only [decide_eq_true_eq] at this
    exact Nat.lt_trans this (by decide)
  | .list xs, h => by
    simp only [PyData.shown, cost]
    have := shownAll_le xs (by simpa [fine] using h)
    have := listText_le (PyData.shownAll xs)
    omega
  | .tuple xs, h => by
    simp only [PyData.shown, cost]
    have := shownAll_le xs (by simpa [fine] using h)
    have := tupleText_le (PyData.shownAll xs)
    omega
  | .dict kvs, h => by
    simp only [PyData.shown, cost]
    have := shownKv_le kvs (by simpa [fine] using h)
    have := dictText_le (PyData.shownKv kvs)
    omega
theorem shownAll_le : ∀ xs : List PyData, fines xs = true → PySem.piled (PyData.shownAll xs) ≤ costs xs
  | [], _ => by simp [PyData.shownAll, costs, PySem.piled]
  | x :: xs, h => by
    have h' : fine x = true ∧ fines xs = true := by simpa [fines] using h
    have h1 := shown_le x h'.1
    have h2 := shownAll_le xs h'.2
    rw [PyData.shownAll, costs, PySem.piled_cons]; omega
theorem shownKv_le : ∀ xs : List (PyData × PyData), fineKv xs = true → PySem.piled (PyData.shownKv xs) ≤ costKv xs
  | [], _ => by simp [PyData.shownKv, costKv, PySem.piled]
  | (k, v) :: r, h => by
    have h' : (fine k = true ∧ fine v = true) ∧ fineKv r = true := by simpa [fineKv] using h
    have h1 := shown_le k h'.1.1
    have h2 := shown_le v h'.1.2
    have h3 := shownKv_le r h'.2
    rw [PyData.shownKv, costKv, PySem.piled_cons, PySem.strLen_append, PySem.strLen_append]
    have e1 : (((": " : String) : Str)).length = 2 := rfl
    omega
end
/-- repr of a value that is small -/
theorem repr_sm {S : Store} {d : D} {p : PyData} (h : dat S d = some p) (f : fine p = true) (c : cost p ≤ line) : reprF S [d] = some (.str p.shown) := by
  show ((dat S d).bind fun d => if d.showable && decide (d.shown.length ≤ line) then some (D.str d.shown) else none) = _
  rw [h]
  have h1 := shown_le p f
  simp only [Option.bind_some, fine_showable p f, Bool.true_and]
  rw [if_pos (decide_eq_true (Nat.le_trans h1 c))]
theorem fines_ints {xs : List Int} (h : ∀ x ∈ xs, x.natAbs.log2 < 1920) : fines (xs.map .int) = true := by
  induction xs with
  | nil => simp [fines]
  | cons x xs ih =>
    rw [List.map_cons, fines, ih fun y hy => h y (List.mem_cons_of_mem _ hy)]
    simp [fine, h x List.mem_cons_self]
theorem costs_ints (xs : List Int) : costs (xs.map .int) = 1923 * xs.length := by
  induction xs with
  | nil => simp [costs]
  | cons x xs ih => rw [List.map_cons, costs, ih, cost, List.length_cons]; omega
theorem dat_ints {S : Store} (xs : List Int) : dat S (.tup (xs.map .int)) = some (.tuple (xs.map .int)) := by
  show ((xs.map D.int).mapM (toP S 23)).map PyData.tuple = _
  rw [mapM_map (f := PyData.int) fun a _ => toP_int]
  rfl
theorem log2_lt {i : Int} {k : Nat} (h : i.natAbs < 2 ^ k) (hk : 0 < k) : i.natAbs.log2 < k := by
  by_cases h0 : i.natAbs = 0
  · rw [h0]; simpa using hk
  · exact (Nat.log2_lt h0).mpr h
theorem shaped_ints (xs : List Int) : PySem.SeqAt.shaped (.tuple (xs.map .int)) = true := by
  have h1 : ∀ xs : List Int, PyData.canLayAll0 (xs.map .int) = true := fun xs => by
    induction xs with
    | nil => simp [PyData.canLayAll0]
    | cons x xs ih => simp [PyData.canLayAll0, PyData.canLay0, ih]
  have h2 : ∀ xs : List Int, PyData.depthAll (xs.map .int) = 0 := fun xs => by
    induction xs with
    | nil => simp [PyData.depthAll]
    | cons x xs ih => simp [PyData.depthAll, PyData.depth, ih]
  simp [PySem.SeqAt.shaped, PyData.canLay0, PyData.depth, h1, h2]
theorem eqvAll_ints : ∀ xs ys : List Int, PyData.eqvAll (xs.map .int) (ys.map .int) = decide (xs = ys)
  | [], [] => by simp [PyData.eqvAll]
  | [], _ :: _ => by simp [PyData.eqvAll]
  | _ :: _, [] => by simp [PyData.eqvAll]
  | x :: xs, y :: ys => by
    rw [List.map_cons, List.map_cons, PyData.eqvAll, eqvAll_ints xs ys]
    by_cases h : x = y <;> by_cases h2 : xs = ys <;> simp [PyData.eqv, h, h2]
theorem eqD_ints {S : Store} (xs ys : List Int) : eqD S (.tup (xs.map .int)) (.tup (ys.map .int)) = some (decide (xs = ys)) := by
  show eqP S _ _ = _
  unfold eqP
  rw [dat_ints, dat_ints]
  simp only [shaped_ints, Bool.and_self, if_true, PyData.eqv, eqvAll_ints]
theorem bindA_star {fn : Fn} {args : List D} (h : fn.star = true) (h2 : fn.arity ≤ args.length ∧ args.length ≤ line) : bindA fn args = some (args.take fn.arity ++ [.tup (args.drop fn.arity)]) := by
  unfold bindA
  rw [if_pos h, if_pos h2]
end Ln

set_option linter.all false
/-! Ln: the evaluator's equations, with the store applied: what a rewriting runs. -/
namespace Ln
open PySem (Str PyData)
/-- what comes behind a result -/
def R.bnd {α β : Type} (r : R α) (f : α → Store → R β) : R β := match r with
  | .ok a s => f a s
  | .exc e s => .exc e s
  | .err => .err
theorem bnd_ok {α β : Type} {a : α} {S : Store} {f : α → Store → R β} : (R.ok a S).bnd f = f a S := id rfl
theorem bnd_exc {α β : Type} {e : Ex} {S : Store} {f : α → Store → R β} : (R.exc e S).bnd f = .exc e S := id rfl
theorem bnd_err {α β : Type} {f : α → Store → R β} : (R.err : R α).bnd f = .err := id rfl
theorem qBindF {α β : Type} (m : M α) (f : α → M β) : M.bind m f = fun S => (m S).bnd f := funext fun S => by unfold M.bind; cases m S <;> rfl
theorem qRet {α : Type} (a : α) (S : Store) : (M.ret a : M α) S = .ok a S := id rfl
theorem qRetF {α : Type} (a : α) : (M.ret a : M α) = fun S => .ok a S := id rfl
theorem qBind {α β : Type} (m : M α) (f : α → M β) (S : Store) : M.bind m f S = (m S).bnd f := by unfold M.bind; cases m S <;> rfl
def mapR {α : Type} (o : Option α) (S : Store) : R α := match o with | some a => .ok a S | none => .err
theorem mapR_some {α : Type} {a : α} {S : Store} : mapR (some a) S = .ok a S := id rfl
theorem qOpt {α : Type} (f : Store → Option α) (S : Store) : M.opt f S = mapR (f S) S := by unfold M.opt mapR; cases f S <;> rfl
theorem mapR_bnd {α β : Type} {o : Option α} {f : α → β} {S : Store} : (mapR o S).bnd (fun k S => .ok (f k) S) = mapR (o.map f) S := by cases o <;> rfl
theorem qOptF {α : Type} (f : Store → Option α) : M.opt f = fun S => mapR (f S) S := funext fun S => qOpt f S
/-- the work of a comprehension, of a for, of a while: opaque to the rewriting -/
def lcM (cf : Nat → List D → M D) (elt : E) (tg : Tg) (ifs : Es) (own : List Nat) (ρ : Rho) (xs : List D) (S : Store) : R D :=
  M.bind (M.nox (mapO (lcK ρ tg own (fun ρ' => evts cf ifs ρ') (fun ρ' => ev cf elt ρ')) xs)) (fun ys => M.ret (.lst ys)) S
def loopM (cf : Nat → List D → M D) (w : Nat) (tg : Tg) (b : Sms) (xs : List D) (ρ : Rho) (S : Store) : R (Fl × Rho) := forL (loopK tg fun ρ => execs cf w b ρ) xs ρ S
def whileM (cf : Nat → List D → M D) (w : Nat) (c : E) (b : Sms) (n : Nat) (ρ : Rho) (S : Store) : R (Fl × Rho) := whileL (fun ρ => evT cf c ρ) (fun ρ => execs cf w b ρ) n ρ S
/-- what comes behind a statement -/
def flowR (r : R (Fl × Rho)) (f : Rho → Store → R (Fl × Rho)) : R (Fl × Rho) := match r with
  | .ok (.nx, ρ) S => f ρ S
  | .ok (g, ρ) S => .ok (g, ρ) S
  | .exc e s => .exc e s
  | .err => .err
theorem flow_nx {ρ : Rho} {S : Store} {f : Rho → Store → R (Fl × Rho)} : flowR (.ok (.nx, ρ) S) f = f ρ S := id rfl
theorem flow_rt {ρ : Rho} {S : Store} {d : D} {f : Rho → Store → R (Fl × Rho)} : flowR (.ok (.rt d, ρ) S) f = .ok (.rt d, ρ) S := id rfl
theorem flow_bk {ρ : Rho} {S : Store} {f : Rho → Store → R (Fl × Rho)} : flowR (.ok (.bk, ρ) S) f = .ok (.bk, ρ) S := id rfl
theorem flow_ct {ρ : Rho} {S : Store} {f : Rho → Store → R (Fl × Rho)} : flowR (.ok (.ct, ρ) S) f = .ok (.ct, ρ) S := id rfl
theorem flow_exc {e : Ex} {S : Store} {f : Rho → Store → R (Fl × Rho)} : flowR (.exc e S) f = .exc e S := id rfl
def endR (r : R (Fl × Rho)) : R D := match r with
  | .ok (.nx, _) S => .ok .non S
  | .ok (.rt d, _) S => .ok d S
  | .ok _ _ => .err
  | .exc e s => .exc e s
  | .err => .err
theorem end_nx {ρ : Rho} {S : Store} : endR (.ok (.nx, ρ) S) = .ok .non S := id rfl
theorem end_rt {ρ : Rho} {S : Store} {d : D} : endR (.ok (.rt d, ρ) S) = .ok d S := id rfl
theorem end_exc {e : Ex} {S : Store} : endR (.exc e S) = .exc e S := id rfl
/-- branches -/
def andR (x : D) (f : R D) (S : Store) : R D := match x with
  | .bl true => f
  | .bl false => .ok (.bl false) S
  | _ => .err
def orR (x : D) (f : R D) (S : Store) : R D := match x with
  | .bl true => .ok (.bl true) S
  | .bl false => f
  | _ => .err
theorem andR_ite {k : Bool} {f : R D} {S : Store} : andR (.bl k) f S = if k = true then f else .ok (.bl false) S := by cases k <;> rfl
theorem orR_ite {k : Bool} {f : R D} {S : Store} : orR (.bl k) f S = if k = true then .ok (.bl true) S else f := by cases k <;> rfl
section
variable {cf : Nat → List D → M D} {w : Nat} {ρ : Rho} {S : Store} {a b c d i : E} {es ks vs : Es}
theorem e_var {i : Nat} : ev cf (.var i) ρ S = getV ρ i S := by simp only [ev]
theorem g_0 {o : D} {r : Rho} : getV (some o :: r) 0 S = .ok o S := id rfl
theorem g_s {o : Option D} {r : Rho} {i : Nat} : getV (o :: r) (i + 1) S = getV r i S := id rfl
theorem e_cst {d : D} : ev cf (.cst d) ρ S = .ok d S := by simp only [ev, M.ret]
theorem e_bin {o : Bop} : ev cf (.bin o a b) ρ S = (ev cf a ρ S).bnd fun x S1 => (ev cf b ρ S1).bnd fun y S2 => mapR (bop o x y S2) S2 := by simp only [ev, qBindF, qOptF]
theorem e_neg : ev cf (.neg a) ρ S = (ev cf a ρ S).bnd fun x S1 => negK x S1 := by simp only [ev, qBindF]
theorem e_not : ev cf (.not a) ρ S = (ev cf a ρ S).bnd fun x S1 => (truthM x S1).bnd fun k S2 => .ok (.bl (!k)) S2 := by simp only [ev, qBindF, qRetF]
theorem e_cmp {o : Cop} : ev cf (.cmp o a b) ρ S = (ev cf a ρ S).bnd fun x S1 => (ev cf b ρ S1).bnd fun y S2 => mapR ((cop o x y S2).map .bl) S2 := by simp only [ev, qBindF, qOptF, qRetF, mapR_bnd]
theorem e_chain {o o' : Cop} : ev cf (.chain o o' a b d) ρ S = (ev cf a ρ S).bnd fun x S1 => (ev cf b ρ S1).bnd fun y S2 => (mapR (cop o x y S2) S2).bnd fun k S3 => if k = true then (ev cf d ρ S3).bnd (fun z S4 => mapR ((cop o' y z S4).map .bl) S4) else .ok (.bl false) S3 := by 
  simp only [ev, qBindF, qOptF, qRetF]
  refine congrArg _ (funext fun x => funext fun S1 => congrArg _ (funext fun y => funext fun S2 => congrArg _ (funext fun k => funext fun S3 => ?_)))
  cases k with
  | true => simp only [if_true, qBindF, qOptF, qRetF, mapR_bnd]
  | false => rfl
theorem e_and : ev cf (.and a b) ρ S = (ev cf a ρ S).bnd fun x S1 => andR x (ev cf b ρ S1) S1 := by 
  simp only [ev, qBindF]
  refine congrArg _ (funext fun x => funext fun S1 => ?_)
  cases x <;> first | rfl | (rename_i k; cases k <;> rfl)
theorem e_or : ev cf (.or a b) ρ S = (ev cf a ρ S).bnd fun x S1 => orR x (ev cf b ρ S1) S1 := by 
  simp only [ev, qBindF]
  refine congrArg _ (funext fun x => funext fun S1 => ?_)
  cases x <;> first | rfl | (rename_i k; cases k <;> rfl)
theorem e_ite : ev cf (.ite c a b) ρ S = (ev cf c ρ S).bnd fun x S1 => (truthM x S1).bnd fun k S2 => if k = true then ev cf a ρ S2 else ev cf b ρ S2 := by 
  simp only [ev, qBindF]
  refine congrArg _ (funext fun x => funext fun S1 => congrArg _ (funext fun k => funext fun S2 => ?_))
  cases k <;> rfl
theorem e_tup : ev cf (.tup es) ρ S = (evs cf es ρ S).bnd fun xs S1 => .ok (.tup xs) S1 := by simp only [ev, qBindF, qRetF]
theorem e_lst : ev cf (.lst es) ρ S = (evs cf es ρ S).bnd fun xs S1 => .ok (.lst xs) S1 := by simp only [ev, qBindF, qRetF]
theorem e_lstM : ev cf (.lstM es) ρ S = (evs cf es ρ S).bnd fun xs S1 => .ok (.ref S1.length) (S1 ++ [.lst xs]) := by simp only [ev, qBindF]; rfl
theorem e_lstS : ev cf (.lstS es) ρ S = (evs cf es ρ S).bnd fun xs S1 => if xs.length ≤ line then .ok (.lst xs) S1 else .err := by 
  simp only [ev, qBindF]
  refine congrArg _ (funext fun x => funext fun S1 => ?_)
  split <;> rfl
theorem e_dct : ev cf (.dct ks vs) ρ S = (evs cf ks ρ S).bnd fun x S1 => (evs cf vs ρ S1).bnd fun y S2 => .ok (.dct x y) S2 := by simp only [ev, qBindF, qRetF]
theorem e_idx : ev cf (.idx a b) ρ S = (ev cf a ρ S).bnd fun x S1 => (ev cf b ρ S1).bnd fun y S2 => mapR (idxD S2 x y) S2 := by simp only [ev, qBindF, qOptF]
theorem e_slc {lo hi : Eo} : ev cf (.slc a lo hi) ρ S = (ev cf a ρ S).bnd fun x S1 => (evo cf lo ρ S1).bnd fun l S2 => (evo cf hi ρ S2).bnd fun h S3 => mapR (slcD S3 x l h) S3 := by simp only [ev, qBindF, qOptF]
theorem e_rev : ev cf (.rev a) ρ S = (ev cf a ρ S).bnd fun x S1 => mapR (revD S1 x) S1 := by simp only [ev, qBindF, qOptF]
theorem e_isi {t : Ty} : ev cf (.isi a t) ρ S = (ev cf a ρ S).bnd fun x S1 => mapR ((isiD S1 t x).map .bl) S1 := by simp only [ev, qBindF, qOptF, qRetF, mapR_bnd]
theorem e_fz : ev cf (.fz a) ρ S = (ev cf a ρ S).bnd fun x S1 => fzK x S1 := by simp only [ev, qBindF]
theorem e_repM : ev cf (.repM a b) ρ S = (ev cf a ρ S).bnd fun x S1 => (ev cf b ρ S1).bnd fun y S2 => repK x y S2 := by simp only [ev, qBindF]
theorem fz_ref {n : Nat} {xs : List D} (h : S[n]? = some (.lst xs)) : fzK (.ref n) S = .ok (.lst xs) (S.set n (.fzl xs)) := by unfold fzK; simp only [h]
theorem fz_refF {n : Nat} {xs : List D} (h : S[n]? = some (.fzl xs)) : fzK (.ref n) S = .ok (.lst xs) S := by unfold fzK; simp only [h]
theorem fz_lst {xs : List D} : fzK (.lst xs) S = .ok (.lst xs) S := id rfl
theorem fz_tup {xs : List D} : fzK (.tup xs) S = .ok (.tup xs) S := id rfl
theorem fz_dct {ks vs : List D} : fzK (.dct ks vs) S = .ok (.dct ks vs) S := id rfl
theorem rep_l {xs : List D} {n : Nat} (h : xs.length * n ≤ line) (h2 : n ≤ line) : repK (.lst xs) (.int (n : Int)) S = .ok (.ref S.length) (S ++ [.lst (List.replicate n xs).flatten]) := by
  unfold repK
  have h1 : small63 (n : Int) = true := by unfold small63; simp; have : line = 2 ^ 24 := rfl; omega
  simp only [lstOf, h1, Int.toNat_natCast, Bool.true_and, decide_eq_true h, if_true]
  rfl
theorem m_dget {ks vs : List D} : mthOk .dget (.dct ks vs) S = some () := id rfl
theorem b_dget {ks vs : List D} {k e : D} (h : isKey k = true) : dgetF S [.dct ks vs, k, e] = some ((lookD k ks vs).getD e) := by unfold dgetF; simp only [h, if_true]
theorem in_dct {ks vs : List D} {k : D} (h : isKey k = true) : inD S k (.dct ks vs) = some (ks.any (keyIs k)) := by unfold inD; simp only [h, if_true]
theorem e_blt {o : Blt} : ev cf (.blt o es) ρ S = (evs cf es ρ S).bnd fun xs S1 => blt o xs S1 := by simp only [ev, qBindF]
theorem e_call {f : Nat} : ev cf (.call f es) ρ S = (evs cf es ρ S).bnd fun xs S1 => cf f xs S1 := by simp only [ev, qBindF]
theorem e_lc {tg : Tg} {it : It} {own : List Nat} : ev cf (.lc a tg it es own) ρ S = (evi cf it ρ S).bnd fun xs S1 => lcM cf a tg es own ρ xs S1 := by simp only [ev]; rw [qBind]; rfl
theorem e_mth {o : Blt} : ev cf (.mth o a es) ρ S = (ev cf a ρ S).bnd fun x S1 => (mapR (mthOk o x S1) S1).bnd fun _ S2 => (evs cf es ρ S2).bnd fun xs S3 => blt o (x :: xs) S3 := by simp only [ev, qBindF, qOptF]
theorem m_tindex {xs : List D} : mthOk .tindex (.tup xs) S = some () := id rfl
theorem m_tcount {xs : List D} : mthOk .tcount (.tup xs) S = some () := id rfl
theorem m_append {n : Nat} {xs : List D} (h : S[n]? = some (.lst xs)) : mthOk .append (.ref n) S = some () := by unfold mthOk; simp only [h]
theorem m_popAt {n : Nat} {xs : List D} (h : S[n]? = some (.lst xs)) : mthOk .popAt (.ref n) S = some () := by unfold mthOk; simp only [h]
theorem m_appendR {n : Nat} {xs : List D} {x : D} (h : S[n]? = some (.lst xs)) (hl : xs.length < line) : appendF [.ref n, x] S = .ok .non (S.set n (.lst (xs ++ [x]))) := by
  unfold appendF
  simp only [h, hl, if_true]
  rfl
theorem l_nil : evs cf .nil ρ S = .ok [] S := by simp only [evs, M.ret]
theorem l_cons : evs cf (.cons a es) ρ S = (ev cf a ρ S).bnd fun x S1 => (evs cf es ρ S1).bnd fun xs S2 => .ok (x :: xs) S2 := by simp only [evs, qBindF, qRetF]
theorem l_star : evs cf (.star a es) ρ S = (ev cf a ρ S).bnd fun x S1 => (starK x S1).bnd fun ys S2 => (evs cf es ρ S2).bnd fun xs S3 => .ok (ys ++ xs) S3 := by simp only [evs, qBindF, qRetF]
theorem t_nil : evts cf .nil ρ S = .ok true S := by simp only [evts, M.ret]
theorem t_cons : evts cf (.cons a es) ρ S = (ev cf a ρ S).bnd fun x S1 => (truthM x S1).bnd fun k S2 => if k = true then evts cf es ρ S2 else .ok false S2 := by 
  simp only [evts, qBindF]
  refine congrArg _ (funext fun x => funext fun S1 => congrArg _ (funext fun k => funext fun S2 => ?_))
  cases k <;> rfl
theorem o_no : evo cf .no ρ S = .ok none S := by simp only [evo, M.ret]
theorem o_so : evo cf (.so a) ρ S = (ev cf a ρ S).bnd fun x S1 => intK x S1 := by simp only [evo, qBindF]
theorem i_seq : evi cf (.seq a) ρ S = (ev cf a ρ S).bnd fun x S1 => seqK x S1 := by simp only [evi, qBindF]
theorem i_rng1 : evi cf (.rng1 a) ρ S = (ev cf a ρ S).bnd fun x S1 => rngK x S1 := by simp only [evi, qBindF]
theorem i_rng2 : evi cf (.rng2 a b) ρ S = (ev cf a ρ S).bnd fun x S1 => (ev cf b ρ S1).bnd fun y S2 => rng2K x y S2 := by simp only [evi, qBindF]
theorem i_zip : evi cf (.zip a b) ρ S = (ev cf a ρ S).bnd fun x S1 => (ev cf b ρ S1).bnd fun y S2 => zipK x y S2 := by simp only [evi, qBindF]
theorem i_enumT : evi cf (.enumT a) ρ S = (ev cf a ρ S).bnd fun x S1 => enumTK x S1 := by simp only [evi, qBindF]
theorem k_enumT {xs : List D} : enumTK (.tup xs) S = .ok (numbered 0 xs) S := id rfl
theorem i_enum : evi cf (.enum a) ρ S = (ev cf a ρ S).bnd fun x S1 => enumK x S1 := by simp only [evi, qBindF]
/-! small parts -/
theorem k_neg {n : Int} : negK (.int n) S = .ok (.int (-n)) S := id rfl
theorem k_int {n : Int} : intK (.int n) S = .ok (some n) S := id rfl
theorem k_seqT {xs : List D} : seqK (.tup xs) S = .ok xs S := id rfl
theorem k_seqL {xs : List D} : seqK (.lst xs) S = .ok xs S := id rfl
theorem k_seqS {z : Str} (h : z.length ≤ line) : seqK (.str z) S = .ok (chars z) S := by unfold seqK; simp only [h, if_true]; rfl
theorem k_seqF {xs : List D} : seqK (.frz xs) S = .ok xs S := id rfl
theorem k_starT {xs : List D} : starK (.tup xs) S = .ok xs S := id rfl
theorem k_starL {xs : List D} : starK (.lst xs) S = .ok xs S := id rfl
theorem k_zipT {xs ys : List D} : zipK (.tup xs) (.tup ys) S = .ok (pairs xs ys) S := id rfl
theorem k_zipL {xs ys : List D} : zipK (.lst xs) (.lst ys) S = .ok (pairs xs ys) S := id rfl
theorem k_zipM {xs ys : List D} : zipK (.lst xs) (.tup ys) S = .ok (pairs xs ys) S := id rfl
theorem k_zipM2 {xs ys : List D} : zipK (.tup xs) (.lst ys) S = .ok (pairs xs ys) S := id rfl
theorem k_enum {xs : List D} : enumK (.lst xs) S = .ok (numbered 0 xs) S := id rfl
theorem k_rng {n : Nat} (h : n ≤ line) : rngK (.int (n : Int)) S = .ok ((List.range n).map fun (i : Nat) => .int (i : Int)) S := by
  unfold rngK
  have h1 : small62 (n : Int) = true := by unfold small62; simp; have : line = 2 ^ 24 := rfl; omega
  simp only [h1, Int.toNat_natCast, Bool.true_and, decide_eq_true h, if_true, range_0]
  rfl
theorem k_rng2 {a b : Nat} (h : a ≤ line) (h2 : b ≤ line) : rng2K (.int (a : Int)) (.int (b : Int)) S = .ok ((List.range (b - a)).map fun (i : Nat) => .int ((a + i : Nat) : Int)) S := by
  unfold rng2K
  have h1 : small62 (a : Int) = true := by unfold small62; simp; have : line = 2 ^ 24 := rfl; omega
  have h3 : small62 (b : Int) = true := by unfold small62; simp; have : line = 2 ^ 24 := rfl; omega
  have h4 : ((b : Int) - a).toNat = b - a := by omega
  simp only [h1, h3, h4, Bool.true_and]
  rw [if_pos (decide_eq_true (by omega))]
  unfold range
  rw [h4]
  simp only [Int.natCast_add]
  rfl
theorem tr_bl {k : Bool} : truthM (.bl k) S = .ok k S := id rfl
theorem tr_int {n : Int} : truthM (.int n) S = .ok (n != 0) S := id rfl
theorem tr_tup {xs : List D} : truthM (.tup xs) S = .ok (!xs.isEmpty) S := id rfl
theorem tr_lst {xs : List D} : truthM (.lst xs) S = .ok (!xs.isEmpty) S := id rfl
theorem b_lenT {xs : List D} : lenF S [.tup xs] = some (.int xs.length) := id rfl
theorem b_lenL {xs : List D} : lenF S [.lst xs] = some (.int xs.length) := id rfl
theorem b_lenF {xs : List D} : lenF S [.frz xs] = some (.int xs.length) := id rfl
theorem b_tupT {xs : List D} : tupleF S [.tup xs] = some (.tup xs) := id rfl
theorem b_tupL {xs : List D} : tupleF S [.lst xs] = some (.tup xs) := id rfl
theorem b_lstT {xs : List D} : listF S [.tup xs] = some (.lst xs) := id rfl
theorem b_lstL {xs : List D} : listF S [.lst xs] = some (.lst xs) := id rfl
theorem b_allL {xs : List D} : allF S [.lst xs] = (boolsD xs).map fun bs => .bl (bs.all id) := id rfl
theorem b_anyL {xs : List D} : anyF S [.lst xs] = (boolsD xs).map fun bs => .bl (bs.any id) := id rfl
theorem b_sumL {xs : List D} : sumF S [.lst xs] = (intsD xs).map fun bs => .int bs.sum := id rfl
theorem b_sumT {xs : List D} : sumF S [.tup xs] = (intsD xs).map fun bs => .int bs.sum := id rfl
theorem b_abs {n : Int} : absF S [.int n] = some (.int (if n < 0 then -n else n)) := id rfl
theorem b_max {m n : Int} : maxF S [.int m, .int n] = some (.int (if n > m then n else m)) := id rfl
theorem b_min {m n : Int} : minF S [.int m, .int n] = some (.int (if n < m then n else m)) := id rfl
theorem b_intI {m : Int} : intF S [.int m] = some (.int m) := id rfl
theorem b_intB {m : Bool} : intF S [.bl m] = some (.int (if m then 1 else 0)) := id rfl
theorem q_ii {m n : Int} : eqD S (.int m) (.int n) = some (decide (m = n)) := id rfl
theorem q_ss {m n : Str} : eqD S (.str m) (.str n) = some (decide (m = n)) := id rfl
/-! statements -/
variable {s : Sm} {r ia ib : Sms}
theorem s_nil : execs cf w .nil ρ S = .ok (.nx, ρ) S := by simp only [execs, M.ret]
theorem s_cons : execs cf w (.cons s r) ρ S = flowR (exec cf w s ρ S) fun ρ' S1 => execs cf w r ρ' S1 := by
  simp only [execs, qBind]
  cases exec cf w s ρ S with
  | ok x S1 => obtain ⟨f, ρ'⟩ := x; cases f <;> rfl
  | _ => rfl
theorem x_expr : exec cf w (.expr a) ρ S = (ev cf a ρ S).bnd fun _ S1 => .ok (.nx, ρ) S1 := by simp only [exec, qBindF, qRetF]
theorem x_set {i : Nat} : exec cf w (.set i a) ρ S = (ev cf a ρ S).bnd fun x S1 => .ok (.nx, ρ.set i (some x)) S1 := by simp only [exec, qBindF, qRetF]
theorem x_setT {is : List Nat} : exec cf w (.setT is a) ρ S = (ev cf a ρ S).bnd fun x S1 => unpK ρ is x S1 := by simp only [exec, qBindF]
theorem x_par {is : List Nat} : exec cf w (.par is es) ρ S = (evs cf es ρ S).bnd fun xs S1 => parK ρ is xs S1 := by simp only [exec, qBindF]
theorem x_setI : exec cf w (.setI a b c) ρ S = (ev cf c ρ S).bnd fun v S1 => (ev cf a ρ S1).bnd fun x S2 => (ev cf b ρ S2).bnd fun k S3 => setIK ρ v x k S3 := by simp only [exec, qBindF]
theorem x_aug {i : Nat} {o : Bop} : exec cf w (.aug i o a) ρ S = (getV ρ i S).bnd fun x S1 => (ev cf a ρ S1).bnd fun y S2 => augK ρ i o x y S2 := by simp only [exec, qBindF]
theorem x_cond : exec cf w (.cond a ia ib) ρ S = (ev cf a ρ S).bnd fun x S1 => (truthM x S1).bnd fun k S2 => if k = true then execs cf w ia ρ S2 else execs cf w ib ρ S2 := by 
  simp only [exec, evT, qBind]
  cases ev cf a ρ S with
  | ok x S1 =>
    simp only [bnd_ok]
    refine congrArg _ (funext fun k => funext fun S2 => ?_)
    cases k <;> rfl
  | _ => rfl
theorem x_loop {tg : Tg} {it : It} : exec cf w (.loop tg it ia) ρ S = (evi cf it ρ S).bnd fun xs S1 => loopM cf w tg ia xs ρ S1 := by simp only [exec, qBind]; rfl
theorem x_while : exec cf w (.while a ia) ρ S = whileM cf w a ia w ρ S := by simp only [exec]; rfl
theorem x_ret : exec cf w (.ret a) ρ S = (ev cf a ρ S).bnd fun x S1 => .ok (.rt x, ρ) S1 := by simp only [exec, qBindF, qRetF]
theorem x_retN : exec cf w .retN ρ S = .ok (.rt .non, ρ) S := by simp only [exec, M.ret]
theorem x_pass : exec cf w .pass ρ S = .ok (.nx, ρ) S := by simp only [exec, M.ret]
theorem x_brk : exec cf w .brk ρ S = .ok (.bk, ρ) S := by simp only [exec, M.ret]
theorem x_cont : exec cf w .cont ρ S = .ok (.ct, ρ) S := by simp only [exec, M.ret]
theorem x_run {fn : Fn} {args : List D} : runBody cf w fn args S = endR (execs cf w fn.body (args.map some ++ List.replicate (fn.slots - args.length) none) S) := by
  simp only [runBody, qBind]
  cases execs cf w fn.body (args.map some ++ List.replicate (fn.slots - args.length) none) S with
  | ok x S1 => obtain ⟨f, ρ'⟩ := x; cases f <;> rfl
  | _ => rfl
/-! comprehensions -/
theorem bnd_congr {α β : Type} {r r' : R α} {f : α → Store → R β} (h : r = r') : r.bnd f = r'.bnd f := by rw [h]
theorem flow_congr {r r' : R (Fl × Rho)} {f : Rho → Store → R (Fl × Rho)} (h : r = r') : flowR r f = flowR r' f := by rw [h]
theorem andR_congr {x x' : D} {f : R D} {S : Store} (h : x = x') : andR x f S = andR x' f S := by rw [h]
theorem orR_congr {x x' : D} {f : R D} {S : Store} (h : x = x') : orR x f S = orR x' f S := by rw [h]

theorem lcM_ok {elt : E} {tg : Tg} {ifs : Es} {own : List Nat} {xs ys : List D} {S' : Store} (h : mapO (lcK ρ tg own (fun ρ' => evts cf ifs ρ') (fun ρ' => ev cf elt ρ')) xs S = .ok ys S') : lcM cf elt tg ifs own ρ xs S = .ok (.lst ys) S' := by
  unfold lcM
  simp only [rBind, rNox, h, rRet]
/-- one turn: no tests -/
theorem turn {α : Type} {elt : E} {tg : Tg} {own : List Nat} {x y : D} {ρ' : Rho} {S' : Store} (h : setTg (wipe ρ own) tg x = some ρ') (e : ev cf elt ρ' S = .ok y S') : lcK ρ tg own (fun ρ' => evts cf .nil ρ') (fun ρ' => ev cf elt ρ') x S = .ok (some y) S' := by
  unfold lcK
  rw [h]
  simp only [rBind, t_nil, if_true, e, rRet]
theorem lcM_map {α : Type} {elt : E} {tg : Tg} {own : List Nat} (g f : α → D) (l : List α) (h : ∀ x ∈ l, ∃ ρ', setTg (wipe ρ own) tg (g x) = some ρ' ∧ ev cf elt ρ' S = .ok (f x) S) : lcM cf elt tg .nil own ρ (l.map g) S = .ok (.lst (l.map f)) S :=
  lcM_ok (mapO_map fun a ha => by obtain ⟨ρ', h1, h2⟩ := h a ha; exact turn (α := Unit) h1 h2)
theorem lcM_id {elt : E} {tg : Tg} {own : List Nat} (f : D → D) (l : List D) (h : ∀ x ∈ l, ∃ ρ', setTg (wipe ρ own) tg x = some ρ' ∧ ev cf elt ρ' S = .ok (f x) S) : lcM cf elt tg .nil own ρ l S = .ok (.lst (l.map f)) S := by
  have := lcM_map (cf := cf) (ρ := ρ) (S := S) id f l h
  rwa [List.map_id] at this
/-- one turn with a test -/
theorem turnT {elt c : E} {tg : Tg} {own : List Nat} {x : D} {k : Bool} {y : D} {ρ' : Rho} (h : setTg (wipe ρ own) tg x = some ρ') (ht : ev cf c ρ' S = .ok (.bl k) S) (e : k = true → ev cf elt ρ' S = .ok y S) : lcK ρ tg own (fun ρ' => evts cf (.cons c .nil) ρ') (fun ρ' => ev cf elt ρ') x S = .ok (if k then some y else none) S := by
  have htt : evts cf (.cons c .nil) ρ' S = .ok k S := by
    rw [t_cons, ht]
    cases k <;> rfl
  unfold lcK
  rw [h]
  cases k with
  | true => simp only [rBind, htt, if_true, e rfl, rRet]
  | false => simp only [rBind, htt, if_false, rRet, Bool.false_eq_true]
theorem lcM_filter {α : Type} {elt c : E} {tg : Tg} {own : List Nat} (g f : α → D) (p : α → Bool) (l : List α) (h : ∀ x ∈ l, ∃ ρ', setTg (wipe ρ own) tg (g x) = some ρ' ∧ ev cf c ρ' S = .ok (.bl (p x)) S ∧ (p x = true → ev cf elt ρ' S = .ok (f x) S)) :
    lcM cf elt tg (.cons c .nil) own ρ (l.map g) S = .ok (.lst ((l.filter p).map f)) S := by
  refine lcM_ok ((mapO_filter (f := fun a => if p a then some (f a) else none) fun a ha => by obtain ⟨ρ', h1, h2, h3⟩ := h a ha; exact turnT h1 h2 h3).trans ?_)
  congr 1
  clear h
  induction l with
  | nil => rfl
  | cons a l ih =>
    simp only [List.filterMap_cons, List.filter_cons]
    cases p a with
    | true => simp only [if_true, List.map_cons, ih]
    | false => simpa using ih
/-! fors -/
theorem loopM_nil {tg : Tg} {b : Sms} : loopM cf w tg b [] ρ S = .ok (.nx, ρ) S := id rfl
theorem loopM_nx {tg : Tg} {b : Sms} {x : D} {xs : List D} {ρ1 ρ2 : Rho} {S1 : Store} (h : setTg ρ tg x = some ρ1) (e : execs cf w b ρ1 S = .ok (.nx, ρ2) S1) : loopM cf w tg b (x :: xs) ρ S = loopM cf w tg b xs ρ2 S1 := by
  unfold loopM
  simp only [forL, rBind, loopK, h, e]
theorem loopM_rt {tg : Tg} {b : Sms} {x d : D} {xs : List D} {ρ1 ρ2 : Rho} {S1 : Store} (h : setTg ρ tg x = some ρ1) (e : execs cf w b ρ1 S = .ok (.rt d, ρ2) S1) : loopM cf w tg b (x :: xs) ρ S = .ok (.rt d, ρ2) S1 := by
  unfold loopM
  simp only [forL, rBind, loopK, h, e, rRet]
theorem loopM_inv {α : Type} {tg : Tg} {b : Sms} (g : α → D) (I : Rho → Store → Prop) (l : List α) (h : ∀ a ∈ l, ∀ ρ S, I ρ S → ∃ ρ' ρ2 S', setTg ρ tg (g a) = some ρ' ∧ execs cf w b ρ' S = .ok (.nx, ρ2) S' ∧ I ρ2 S') (h0 : I ρ S) :
    ∃ ρ' S', loopM cf w tg b (l.map g) ρ S = .ok (.nx, ρ') S' ∧ I ρ' S' :=
  forL_inv (fun a ha ρ S hi => by
    obtain ⟨ρ', ρ2, S', h1, h2, h3⟩ := h a ha ρ S hi
    refine ⟨ρ2, S', ?_, h3⟩
    unfold loopK
    rw [h1]
    exact h2) h0
theorem loopM_fold {α β : Type} {tg : Tg} {b : Sms} (g : α → D) (f : β → α → β) (I : β → Rho → Prop) : ∀ (l : List α) (b0 : β) {ρ : Rho}, (∀ x, ∀ a ∈ l, ∀ ρ, I x ρ → ∃ ρ' ρ2, setTg ρ tg (g a) = some ρ' ∧ execs cf w b ρ' S = .ok (.nx, ρ2) S ∧ I (f x a) ρ2) → I b0 ρ →
    ∃ ρ', loopM cf w tg b (l.map g) ρ S = .ok (.nx, ρ') S ∧ I (l.foldl f b0) ρ'
  | [], b0, ρ, _, h0 => ⟨ρ, rfl, h0⟩
  | a :: l, b0, ρ, h, h0 => by
    obtain ⟨ρ', ρ2, h1, h2, h3⟩ := h b0 a List.mem_cons_self ρ h0
    obtain ⟨ρ3, h4, h5⟩ := loopM_fold g f I l (f b0 a) (fun x c hc => h x c (List.mem_cons_of_mem _ hc)) h3
    refine ⟨ρ3, ?_, h5⟩
    unfold loopM at h4 ⊢
    simp only [List.map_cons, forL, rBind, loopK, h1, h2]
    exact h4
theorem loopM_count {α : Type} {tg : Tg} {b : Sms} (g : α → D) (I : Nat → Rho → Store → Prop) (l : List α) (h : ∀ i a, l[i]? = some a → ∀ ρ S, I i ρ S → ∃ ρ' ρ2 S', setTg ρ tg (g a) = some ρ' ∧ execs cf w b ρ' S = .ok (.nx, ρ2) S' ∧ I (i + 1) ρ2 S') (h0 : I 0 ρ S) :
    ∃ ρ' S', loopM cf w tg b (l.map g) ρ S = .ok (.nx, ρ') S' ∧ I l.length ρ' S' :=
  forL_count (l := l) (n := 0) rfl (fun i a ha ρ S hi => by
    obtain ⟨ρ', ρ2, S', h1, h2, h3⟩ := h i a ha ρ S hi
    refine ⟨ρ2, S', ?_, h3⟩
    unfold loopK
    rw [h1]
    exact h2) h0 (Nat.zero_le _)
/-- a comprehension with a store that changes -/
theorem lcM_inv {α : Type} {elt : E} {tg : Tg} {own : List Nat} (g : α → D) (I : Store → Prop) (P : D → Prop) (l : List α) (h : ∀ a ∈ l, ∀ S, I S → ∃ ρ' y S', setTg (wipe ρ own) tg (g a) = some ρ' ∧ ev cf elt ρ' S = .ok y S' ∧ I S' ∧ P y) (h0 : I S) :
    ∃ ys S', lcM cf elt tg .nil own ρ (l.map g) S = .ok (.lst ys) S' ∧ I S' ∧ ys.length = l.length ∧ ∀ y ∈ ys, P y := by
  obtain ⟨ys, S', e, i, hl, hp⟩ := mapO_inv (step := lcK ρ tg own (fun ρ' => evts cf .nil ρ') (fun ρ' => ev cf elt ρ')) (g := g) (I := I) (P := fun _ y => P y) (l := l) (fun a ha S hi => by
    obtain ⟨ρ', y, S', h1, h2, h3, h4⟩ := h a ha S hi
    exact ⟨y, S', turn (α := Unit) h1 h2, h3, h4⟩) h0
  exact ⟨ys, S', lcM_ok e, i, hl, fun y hy => by obtain ⟨_, _, p⟩ := hp y hy; exact p⟩
theorem dec_eq {α : Type} [DecidableEq α] (a : α) : decide (a = a) = true := decide_eq_true rfl
end
end Ln

namespace K07
open Ln
def b_is_integer : Sms :=
  (.cons (.ret (.and (.isi (.var 0) .int) (.not (.isi (.var 0) .bool))))
  .nil)
def b_common_in : Sms :=
  (.cons (.par [0, 1] (.cons (.blt .abs (.cons (.var 0) .nil)) (.cons (.blt .abs (.cons (.var 1) .nil)) .nil)))
  (.cons (.while (.cmp .gt (.var 1) (.cst (.int 0)))
  (.cons (.par [0, 1] (.cons (.var 1) (.cons (.bin .mod (.var 0) (.var 1)) .nil)))
  .nil))
  (.cons (.ret (.var 0))
  .nil)))
def b_common_of : Sms :=
  (.cons (.set 1 (.cst (.int 0)))
  (.cons (.loop (.nm 2) (.seq (.var 0))
  (.cons (.set 1 (.call 1 (.cons (.var 1) (.cons (.var 2) .nil))))
  .nil))
  (.cons (.ret (.var 1))
  .nil)))
def b_are_integers : Sms :=
  (.cons (.ret (.and (.isi (.var 0) .tuple) (.and (.chain .le .le (.var 1) (.blt .len (.cons (.var 0) .nil)) (.var 2)) (.blt .all (.cons (.lc (.call 0 (.cons (.var 3) .nil)) (.nm 3) (.seq (.var 0)) .nil [3]) .nil)))))
  .nil)
def b_are_rows : Sms :=
  (.cons (.cond (.or (.not (.isi (.var 0) .tuple)) (.or (.cmp .eq (.var 0) (.tup .nil)) (.not (.blt .all (.cons (.lc (.call 3 (.cons (.var 1) (.cons (.cst (.int 1)) (.cons (.cst (.int 60)) .nil)))) (.nm 1) (.seq (.var 0)) .nil [1]) .nil)))))
  (.cons (.ret (.cst (.bl false)))
  .nil) .nil)
  (.cons (.ret (.blt .all (.cons (.lc (.cmp .eq (.blt .len (.cons (.var 1) .nil)) (.blt .len (.cons (.idx (.var 0) (.cst (.int 0))) .nil))) (.nm 1) (.seq (.var 0)) .nil [1]) .nil)))
  .nil))
def b_require_rows : Sms :=
  (.cons (.cond (.not (.call 4 (.cons (.var 0) .nil)))
  (.cons .bad
  .nil) .nil)
  .nil)
def b_primitive : Sms :=
  (.cons (.set 1 (.lc (.var 3) (.nm 3) (.seq (.var 0)) (.cons (.cmp .ne (.var 3) (.cst (.int 0))) .nil) [3]))
  (.cons (.cond (.cmp .eq (.var 1) (.lst .nil))
  (.cons (.ret (.var 0))
  .nil) .nil)
  (.cons (.set 2 (.call 2 (.cons (.var 1) .nil)))
  (.cons (.cond (.cmp .lt (.idx (.var 1) (.cst (.int 0))) (.cst (.int 0)))
  (.cons (.set 2 (.bin .sub (.cst (.int 0)) (.var 2)))
  .nil) .nil)
  (.cons (.ret (.lc (.bin .fdiv (.var 3) (.var 2)) (.nm 3) (.seq (.var 0)) .nil [3]))
  .nil)))))
def b_cleared : Sms :=
  (.cons (.setT [3, 4] (.tup (.cons (.idx (.var 1) (.var 2)) (.cons (.idx (.var 0) (.var 2)) .nil))))
  (.cons (.ret (.call 6 (.cons (.lc (.bin .sub (.bin .mul (.var 3) (.var 5)) (.bin .mul (.var 4) (.var 6))) (.tp [5, 6]) (.zip (.var 0) (.var 1)) .nil [5, 6]) .nil)))
  .nil))
def b_eliminated : Sms :=
  (.cons (.par [2, 3] (.cons (.lst .nil) (.cons (.lc (.blt .list (.cons (.var 7) .nil)) (.nm 7) (.seq (.var 0)) .nil [7]) .nil)))
  (.cons (.loop (.nm 4) (.rng1 (.var 1))
  (.cons (.set 5 (.lc (.var 7) (.nm 7) (.seq (.var 3)) (.cons (.cmp .ne (.idx (.var 7) (.var 4)) (.cst (.int 0))) .nil) [7]))
  (.cons (.cond (.cmp .ne (.var 5) (.lst .nil))
  (.cons (.set 6 (.call 6 (.cons (.idx (.var 5) (.cst (.int 0))) .nil)))
  (.cons (.set 3 (.lc (.call 7 (.cons (.var 7) (.cons (.var 6) (.cons (.var 4) .nil)))) (.nm 7) (.seq (.var 3)) .nil [7]))
  (.cons (.set 2 (.bin .add (.lc (.tup (.cons (.var 8) (.cons (.call 7 (.cons (.var 7) (.cons (.var 6) (.cons (.var 4) .nil)))) .nil))) (.tp [8, 7]) (.seq (.var 2)) .nil [8, 7]) (.lst (.cons (.tup (.cons (.var 4) (.cons (.var 6) .nil))) .nil))))
  .nil))) .nil)
  .nil)))
  (.cons (.ret (.tup (.cons (.var 2) (.cons (.var 3) .nil))))
  .nil)))
def b_reduced_in : Sms :=
  (.cons (.setT [1, 2] (.call 8 (.cons (.var 0) (.cons (.blt .len (.cons (.idx (.var 0) (.cst (.int 0))) .nil)) .nil))))
  (.cons (.ret (.blt .tuple (.cons (.lc (.blt .tuple (.cons (.var 4) .nil)) (.tp [3, 4]) (.seq (.var 1)) .nil [3, 4]) .nil)))
  .nil))
def b_kernel_in : Sms :=
  (.cons (.setT [2, 3] (.call 8 (.cons (.var 0) (.cons (.var 1) .nil))))
  (.cons (.par [4, 5, 6] (.cons (.blt .dict (.cons (.var 2) .nil)) (.cons (.lstM .nil) (.cons (.cst (.int 1)) .nil))))
  (.cons (.loop (.tp [7, 8]) (.seq (.var 2))
  (.cons (.set 6 (.bin .fdiv (.bin .mul (.var 6) (.idx (.var 8) (.var 7))) (.call 1 (.cons (.var 6) (.cons (.idx (.var 8) (.var 7)) .nil)))))
  .nil))
  (.cons (.loop (.nm 9) (.rng1 (.var 1))
  (.cons (.cond (.cmp .notIn (.var 9) (.var 4))
  (.cons (.set 10 (.repM (.lst (.cons (.cst (.int 0)) .nil)) (.var 1)))
  (.cons (.setI (.var 10) (.var 9) (.var 6))
  (.cons (.loop (.tp [7, 8]) (.seq (.var 2))
  (.cons (.setI (.var 10) (.var 7) (.bin .sub (.cst (.int 0)) (.bin .mul (.idx (.var 8) (.var 9)) (.bin .fdiv (.var 6) (.idx (.var 8) (.var 7))))))
  .nil))
  (.cons (.expr (.mth .append (.var 5) (.cons (.fz (.var 10)) .nil)))
  .nil)))) .nil)
  .nil))
  (.cons (.ret (.ite (.cmp .ne (.fz (.var 5)) (.lst .nil)) (.call 9 (.cons (.fz (.var 5)) .nil)) (.tup .nil)))
  .nil)))))
def b_reduced : Sms :=
  (.cons (.expr (.call 5 (.cons (.var 0) .nil)))
  (.cons (.ret (.call 9 (.cons (.var 0) .nil)))
  .nil))
def b_kernel : Sms :=
  (.cons (.expr (.call 5 (.cons (.var 0) .nil)))
  (.cons (.ret (.call 10 (.cons (.var 0) (.cons (.blt .len (.cons (.idx (.var 0) (.cst (.int 0))) .nil)) .nil))))
  .nil))
def b__law_stream : Sms :=
  (.cons (.set 2 (.bin .add (.bin .mul (.cst (.int 13)) (.var 1)) (.cst (.int 6))))
  (.cons (.cond (.cmp .lt (.var 1) (.blt .len (.cons (.var 0) .nil)))
  (.cons (.set 2 (.idx (.var 0) (.var 1)))
  .nil) .nil)
  (.cons (.set 3 (.bin .mod (.blt .abs (.cons (.var 2) .nil)) (.bin .pow (.bin .pow (.cst (.int 10)) (.cst (.int 60))) (.cst (.int 11)))))
  (.cons (.set 4 (.bin .mod (.bin .add (.bin .add (.bin .add (.bin .mul (.bin .mod (.var 3) (.cst (.int 2147483579))) (.cst (.int 48271))) (.bin .mul (.cst (.int 92821)) (.var 1))) (.bin .mul (.cst (.int 5)) (.blt .int (.cons (.cmp .lt (.var 2) (.cst (.int 0))) .nil)))) (.cst (.int 29))) (.cst (.int 2147483563))))
  (.cons (.ret (.lstM (.cons (.blt .max (.cons (.cst (.int 0)) (.cons (.bin .add (.bin .sub (.var 3) (.bin .pow (.cst (.int 10)) (.cst (.int 18)))) (.cst (.int 1))) .nil))) (.cons (.var 4) (.cons (.cst (.int 0)) .nil)))))
  .nil)))))
def b__law_draw : Sms :=
  (.cons (.cond (.cmp .gt (.idx (.var 0) (.cst (.int 0))) (.cst (.int 0)))
  (.cons (.set 2 (.bin .mod (.idx (.var 0) (.cst (.int 0))) (.var 1)))
  (.cons (.setI (.var 0) (.cst (.int 0)) (.bin .fdiv (.idx (.var 0) (.cst (.int 0))) (.var 1)))
  (.cons (.ret (.var 2))
  .nil))) .nil)
  (.cons (.setI (.var 0) (.cst (.int 2)) (.bin .add (.idx (.var 0) (.cst (.int 2))) (.cst (.int 1))))
  (.cons (.set 3 (.bin .mod (.bin .add (.idx (.var 0) (.cst (.int 1))) (.bin .mul (.cst (.int 1000037)) (.idx (.var 0) (.cst (.int 2))))) (.cst (.int 2305843009213693951))))
  (.cons (.set 4 (.bin .mod (.bin .add (.bin .mul (.bin .mod (.bin .mul (.var 3) (.var 3)) (.cst (.int 2305843009213693921))) (.var 3)) (.bin .mul (.cst (.int 7907)) (.idx (.var 0) (.cst (.int 2))))) (.cst (.int 2305843009213693907))))
  (.cons (.ret (.bin .mod (.bin .fdiv (.var 4) (.cst (.int 4099))) (.var 1)))
  .nil)))))
def b__law_pick : Sms :=
  (.cons (.ret (.idx (.var 1) (.call 14 (.cons (.var 0) (.cons (.blt .len (.cons (.var 1) .nil)) .nil)))))
  .nil)
def b__law_dot : Sms :=
  (.cons (.ret (.blt .sum (.cons (.lc (.bin .mul (.var 2) (.var 3)) (.tp [2, 3]) (.zip (.var 0) (.var 1)) .nil [2, 3]) .nil)))
  .nil)
def b__law_common : Sms :=
  (.cons (.while (.cmp .gt (.var 1) (.cst (.int 0)))
  (.cons (.par [0, 1] (.cons (.var 1) (.cons (.bin .mod (.var 0) (.var 1)) .nil)))
  .nil))
  (.cons (.ret (.var 0))
  .nil))
def b__law_rows : Sms :=
  (.cons (.set 3 (.lstM .nil))
  (.cons (.loop (.nm 4) (.rng1 (.var 1))
  (.cons (.set 5 (.call 14 (.cons (.var 0) (.cons (.cst (.int 6)) .nil))))
  (.cons (.set 6 (.blt .tuple (.cons (.lc (.idx (.lst (.cons (.cst (.int 0)) (.cons (.cst (.int 0)) (.cons (.cst (.int 1)) (.cons (.neg (.cst (.int 1))) (.cons (.cst (.int 2)) (.cons (.neg (.cst (.int 3))) (.cons (.cst (.int 4)) (.cons (.bin .sub (.call 14 (.cons (.var 0) (.cons (.cst (.int 40)) .nil))) (.cst (.int 20))) .nil))))))))) (.call 14 (.cons (.var 0) (.cons (.cst (.int 8)) .nil)))) (.nm 8) (.rng1 (.var 2)) .nil [8]) .nil)))
  (.cons (.cond (.and (.cmp .eq (.var 5) (.cst (.int 0))) (.cmp .ne (.var 3) (.lst .nil)))
  (.cons (.set 7 (.idx (.lst (.cons (.cst (.int 2)) (.cons (.neg (.cst (.int 1))) (.cons (.cst (.int 3)) (.cons (.neg (.cst (.int 6))) .nil))))) (.call 14 (.cons (.var 0) (.cons (.cst (.int 4)) .nil)))))
  (.cons (.set 6 (.blt .tuple (.cons (.lc (.bin .mul (.var 7) (.var 9)) (.nm 9) (.seq (.call 15 (.cons (.var 0) (.cons (.var 3) .nil)))) .nil [9]) .nil)))
  .nil)) .nil)
  (.cons (.cond (.and (.cmp .eq (.var 5) (.cst (.int 1))) (.cmp .ne (.var 3) (.lst .nil)))
  (.cons (.set 6 (.blt .tuple (.cons (.lc (.bin .add (.var 10) (.var 11)) (.tp [10, 11]) (.zip (.call 15 (.cons (.var 0) (.cons (.var 3) .nil))) (.call 15 (.cons (.var 0) (.cons (.var 3) .nil)))) .nil [10, 11]) .nil)))
  .nil) .nil)
  (.cons (.cond (.cmp .eq (.var 5) (.cst (.int 2)))
  (.cons (.set 6 (.blt .tuple (.cons (.lc (.bin .mul (.var 9) (.idx (.lst (.cons (.cst (.int 1)) (.cons (.bin .pow (.cst (.int 10)) (.cst (.int 6))) .nil))) (.call 14 (.cons (.var 0) (.cons (.cst (.int 2)) .nil))))) (.nm 9) (.seq (.var 6)) .nil [9]) .nil)))
  .nil) .nil)
  (.cons (.expr (.mth .append (.var 3) (.cons (.var 6) .nil)))
  .nil)))))))
  (.cons (.ret (.blt .tuple (.cons (.var 3) .nil)))
  .nil)))
def b__law_less : Sms :=
  (.cons (.ret (.blt .tuple (.cons (.lc (.bin .sub (.bin .mul (.idx (.var 1) (.var 2)) (.var 3)) (.bin .mul (.idx (.var 0) (.var 2)) (.var 4))) (.tp [3, 4]) (.zip (.var 0) (.var 1)) .nil [3, 4]) .nil)))
  .nil)
def b__law_rank : Sms :=
  (.cons (.par [1, 2] (.cons (.blt .list (.cons (.var 0) .nil)) (.cons (.cst (.int 0)) .nil)))
  (.cons (.loop (.nm 3) (.rng1 (.blt .len (.cons (.idx (.var 0) (.cst (.int 0))) .nil)))
  (.cons (.set 4 (.lc (.var 5) (.nm 5) (.seq (.var 1)) (.cons (.cmp .ne (.idx (.var 5) (.var 3)) (.cst (.int 0))) .nil) [5]))
  (.cons (.cond (.cmp .ne (.var 4) (.lst .nil))
  (.cons (.set 2 (.bin .add (.var 2) (.cst (.int 1))))
  (.cons (.set 1 (.lc (.call 19 (.cons (.var 5) (.cons (.idx (.var 4) (.cst (.int 0))) (.cons (.var 3) .nil)))) (.nm 5) (.seq (.var 1)) .nil [5]))
  .nil)) .nil)
  .nil)))
  (.cons (.ret (.var 2))
  .nil)))
def b__law_pivot : Sms :=
  (.cons (.set 1 (.lc (.var 2) (.tp [2, 3]) (.enumT (.var 0)) (.cons (.cmp .ne (.var 3) (.cst (.int 0))) .nil) [2, 3]))
  (.cons (.ret (.ite (.cmp .ne (.var 1) (.lst .nil)) (.idx (.var 1) (.cst (.int 0))) (.cst .non)))
  .nil))
def b__law_is_reduced : Sms :=
  (.cons (.set 2 (.lc (.call 21 (.cons (.var 1) .nil)) (.nm 1) (.seq (.var 0)) .nil [1]))
  (.cons (.cond (.or (.cmp .isIn (.cst .non) (.var 2)) (.cmp .ne (.lc (.cst (.int 1)) (.tp [6, 7]) (.zip (.var 2) (.slc (.var 2) (.so (.cst (.int 1))) .no)) (.cons (.cmp .ge (.var 6) (.var 7)) .nil) [6, 7]) (.lst .nil)))
  (.cons (.ret (.cst (.bl false)))
  .nil) .nil)
  (.cons (.loop (.tp [1, 3]) (.zip (.var 0) (.var 2))
  (.cons (.set 4 (.cst (.int 0)))
  (.cons (.loop (.nm 5) (.seq (.var 1))
  (.cons (.set 4 (.call 17 (.cons (.var 4) (.cons (.blt .abs (.cons (.var 5) .nil)) .nil))))
  .nil))
  (.cons (.cond (.or (.cmp .le (.idx (.var 1) (.var 3)) (.cst (.int 0))) (.cmp .ne (.var 4) (.cst (.int 1))))
  (.cons (.ret (.cst (.bl false)))
  .nil) .nil)
  (.cons (.cond (.cmp .ne (.blt .len (.cons (.lc (.cst (.int 1)) (.nm 7) (.seq (.var 0)) (.cons (.cmp .ne (.idx (.var 7) (.var 3)) (.cst (.int 0))) .nil) [7]) .nil)) (.cst (.int 1)))
  (.cons (.ret (.cst (.bl false)))
  .nil) .nil)
  .nil)))))
  (.cons (.ret (.cst (.bl true)))
  .nil))))
def b__law_right : Sms :=
  (.cons (.setT [1, 2, 3] (.tup (.cons (.blt .repr (.cons (.var 0) .nil)) (.cons (.call 12 (.cons (.var 0) .nil)) (.cons (.blt .len (.cons (.idx (.var 0) (.cst (.int 0))) .nil)) .nil)))))
  (.cons (.cond (.or (.not (.isi (.var 2) .tuple)) (.cmp .ne (.lc (.cst (.int 1)) (.nm 4) (.seq (.var 2)) (.cons (.not (.isi (.var 4) .tuple)) .nil) [4]) (.lst .nil)))
  (.cons (.ret (.cst (.bl false)))
  .nil) .nil)
  (.cons (.cond (.cmp .ne (.lc (.cst (.int 1)) (.nm 4) (.seq (.var 2)) (.cons (.cmp .ne (.blt .len (.cons (.var 4) .nil)) (.var 3)) .nil) [4]) (.lst .nil))
  (.cons (.ret (.cst (.bl false)))
  .nil) .nil)
  (.cons (.cond (.or (.not (.call 22 (.cons (.var 2) .nil))) (.cmp .ne (.blt .len (.cons (.var 2) .nil)) (.bin .sub (.var 3) (.call 20 (.cons (.var 0) .nil)))))
  (.cons (.ret (.cst (.bl false)))
  .nil) .nil)
  (.cons (.loop (.nm 4) (.seq (.var 0))
  (.cons (.cond (.cmp .ne (.lc (.cst (.int 1)) (.nm 6) (.seq (.var 2)) (.cons (.cmp .ne (.call 16 (.cons (.var 4) (.cons (.var 6) .nil))) (.cst (.int 0))) .nil) [6]) (.lst .nil))
  (.cons (.ret (.cst (.bl false)))
  .nil) .nil)
  .nil))
  (.cons (.set 5 (.ite (.cmp .ne (.var 2) (.tup .nil)) (.call 12 (.cons (.var 2) .nil)) (.call 11 (.cons (.var 0) .nil))))
  (.cons (.cond (.or (.cmp .ne (.blt .repr (.cons (.var 5) .nil)) (.blt .repr (.cons (.call 11 (.cons (.var 0) .nil)) .nil))) (.cmp .ne (.blt .repr (.cons (.call 12 (.cons (.rev (.var 0)) .nil)) .nil)) (.blt .repr (.cons (.var 2) .nil))))
  (.cons (.ret (.cst (.bl false)))
  .nil) .nil)
  (.cons (.ret (.cmp .eq (.blt .repr (.cons (.var 0) .nil)) (.var 1)))
  .nil))))))))
def b_law : Sms :=
  (.cons (.loop (.nm 1) (.rng1 (.blt .max (.cons (.cst (.int 1)) (.cons (.blt .min (.cons (.cst (.int 8)) (.cons (.blt .len (.cons (.var 0) .nil)) .nil))) .nil))))
  (.cons (.set 2 (.call 13 (.cons (.var 0) (.cons (.var 1) .nil))))
  (.cons (.loop (.nm 3) (.rng1 (.cst (.int 5)))
  (.cons (.cond (.not (.call 23 (.cons (.call 18 (.cons (.var 2) (.cons (.bin .add (.cst (.int 1)) (.call 14 (.cons (.var 2) (.cons (.cst (.int 4)) .nil)))) (.cons (.bin .add (.cst (.int 1)) (.call 14 (.cons (.var 2) (.cons (.cst (.int 5)) .nil)))) .nil)))) .nil)))
  (.cons (.ret (.cst (.bl false)))
  .nil) .nil)
  .nil))
  .nil)))
  (.cons (.cond (.cmp .ne (.lst (.cons (.call 12 (.cons (.tup (.cons (.tup (.cons (.cst (.int 1)) (.cons (.cst (.int 1)) (.cons (.cst (.int 0)) .nil)))) (.cons (.tup (.cons (.cst (.int 0)) (.cons (.cst (.int 1)) (.cons (.cst (.int 1)) .nil)))) .nil))) .nil)) (.cons (.call 12 (.cons (.tup (.cons (.tup (.cons (.cst (.int 0)) (.cons (.cst (.int 0)) .nil))) .nil)) .nil)) (.cons (.call 12 (.cons (.tup (.cons (.tup (.cons (.cst (.int 3)) .nil)) .nil)) .nil)) .nil)))) (.lst (.cons (.tup (.cons (.tup (.cons (.cst (.int 1)) (.cons (.neg (.cst (.int 1))) (.cons (.cst (.int 1)) .nil)))) .nil)) (.cons (.tup (.cons (.tup (.cons (.cst (.int 1)) (.cons (.cst (.int 0)) .nil))) (.cons (.tup (.cons (.cst (.int 0)) (.cons (.cst (.int 1)) .nil))) .nil))) (.cons (.tup .nil) .nil)))))
  (.cons (.ret (.cst (.bl false)))
  .nil) .nil)
  (.cons (.set 4 (.tup (.cons (.bin .mul (.tup (.cons (.cst (.int 1)) .nil)) (.cst (.int 60))) .nil)))
  (.cons (.set 5 (.call 12 (.cons (.var 4) .nil)))
  (.cons (.cond (.or (.cmp .ne (.blt .len (.cons (.var 5) .nil)) (.cst (.int 59))) (.or (.cmp .ne (.lc (.cst (.int 1)) (.nm 6) (.seq (.var 5)) (.cons (.cmp .ne (.blt .sum (.cons (.var 6) .nil)) (.cst (.int 0))) .nil) [6]) (.lst .nil)) (.not (.call 22 (.cons (.var 5) .nil)))))
  (.cons (.ret (.cst (.bl false)))
  .nil) .nil)
  (.cons (.ret (.and (.cmp .eq (.call 12 (.cons (.tup (.cons (.tup (.cons (.cst (.int 2)) (.cons (.cst (.int 3)) (.cons (.cst (.int 0)) (.cons (.neg (.cst (.int 6))) .nil))))) .nil)) .nil)) (.call 12 (.cons (.tup (.cons (.tup (.cons (.neg (.cst (.int 4))) (.cons (.neg (.cst (.int 6))) (.cons (.cst (.int 0)) (.cons (.cst (.int 12)) .nil))))) .nil)) .nil))) (.cmp .eq (.call 11 (.cons (.var 5) .nil)) (.var 5))))
  .nil))))))
def prog : List Fn := [
  ⟨1, false, 1, b_is_integer⟩,
  ⟨2, false, 2, b_common_in⟩,
  ⟨1, false, 3, b_common_of⟩,
  ⟨3, false, 4, b_are_integers⟩,
  ⟨1, false, 2, b_are_rows⟩,
  ⟨1, false, 1, b_require_rows⟩,
  ⟨1, false, 4, b_primitive⟩,
  ⟨3, false, 7, b_cleared⟩,
  ⟨2, false, 9, b_eliminated⟩,
  ⟨1, false, 5, b_reduced_in⟩,
  ⟨2, false, 11, b_kernel_in⟩,
  ⟨1, false, 1, b_reduced⟩,
  ⟨1, false, 1, b_kernel⟩,
  ⟨2, false, 5, b__law_stream⟩,
  ⟨2, false, 5, b__law_draw⟩,
  ⟨2, false, 2, b__law_pick⟩,
  ⟨2, false, 4, b__law_dot⟩,
  ⟨2, false, 2, b__law_common⟩,
  ⟨3, false, 12, b__law_rows⟩,
  ⟨3, false, 5, b__law_less⟩,
  ⟨1, false, 6, b__law_rank⟩,
  ⟨1, false, 4, b__law_pivot⟩,
  ⟨1, false, 8, b__law_is_reduced⟩,
  ⟨1, false, 7, b__law_right⟩,
  ⟨1, false, 7, b_law⟩]
section
variable {w k : Nat} {S : Store}
theorem u_is_integer {x0 : D} : callI prog w (k + 1) 0 [x0] S = runBody (callI prog w k) w ⟨1, false, 1, b_is_integer⟩ [x0] S := callI_s rfl rfl
theorem u_common_in {x0 x1 : D} : callI prog w (k + 1) 1 [x0, x1] S = runBody (callI prog w k) w ⟨2, false, 2, b_common_in⟩ [x0, x1] S := callI_s rfl rfl
theorem u_common_of {x0 : D} : callI prog w (k + 1) 2 [x0] S = runBody (callI prog w k) w ⟨1, false, 3, b_common_of⟩ [x0] S := callI_s rfl rfl
theorem u_are_integers {x0 x1 x2 : D} : callI prog w (k + 1) 3 [x0, x1, x2] S = runBody (callI prog w k) w ⟨3, false, 4, b_are_integers⟩ [x0, x1, x2] S := callI_s rfl rfl
theorem u_are_rows {x0 : D} : callI prog w (k + 1) 4 [x0] S = runBody (callI prog w k) w ⟨1, false, 2, b_are_rows⟩ [x0] S := callI_s rfl rfl
theorem u_require_rows {x0 : D} : callI prog w (k + 1) 5 [x0] S = runBody (callI prog w k) w ⟨1, false, 1, b_require_rows⟩ [x0] S := callI_s rfl rfl
theorem u_primitive {x0 : D} : callI prog w (k + 1) 6 [x0] S = runBody (callI prog w k) w ⟨1, false, 4, b_primitive⟩ [x0] S := callI_s rfl rfl
theorem u_cleared {x0 x1 x2 : D} : callI prog w (k + 1) 7 [x0, x1, x2] S = runBody (callI prog w k) w ⟨3, false, 7, b_cleared⟩ [x0, x1, x2] S := callI_s rfl rfl
theorem u_eliminated {x0 x1 : D} : callI prog w (k + 1) 8 [x0, x1] S = runBody (callI prog w k) w ⟨2, false, 9, b_eliminated⟩ [x0, x1] S := callI_s rfl rfl
theorem u_reduced_in {x0 : D} : callI prog w (k + 1) 9 [x0] S = runBody (callI prog w k) w ⟨1, false, 5, b_reduced_in⟩ [x0] S := callI_s rfl rfl
theorem u_kernel_in {x0 x1 : D} : callI prog w (k + 1) 10 [x0, x1] S = runBody (callI prog w k) w ⟨2, false, 11, b_kernel_in⟩ [x0, x1] S := callI_s rfl rfl
theorem u_reduced {x0 : D} : callI prog w (k + 1) 11 [x0] S = runBody (callI prog w k) w ⟨1, false, 1, b_reduced⟩ [x0] S := callI_s rfl rfl
theorem u_kernel {x0 : D} : callI prog w (k + 1) 12 [x0] S = runBody (callI prog w k) w ⟨1, false, 1, b_kernel⟩ [x0] S := callI_s rfl rfl
theorem u__law_stream {x0 x1 : D} : callI prog w (k + 1) 13 [x0, x1] S = runBody (callI prog w k) w ⟨2, false, 5, b__law_stream⟩ [x0, x1] S := callI_s rfl rfl
theorem u__law_draw {x0 x1 : D} : callI prog w (k + 1) 14 [x0, x1] S = runBody (callI prog w k) w ⟨2, false, 5, b__law_draw⟩ [x0, x1] S := callI_s rfl rfl
theorem u__law_pick {x0 x1 : D} : callI prog w (k + 1) 15 [x0, x1] S = runBody (callI prog w k) w ⟨2, false, 2, b__law_pick⟩ [x0, x1] S := callI_s rfl rfl
theorem u__law_dot {x0 x1 : D} : callI prog w (k + 1) 16 [x0, x1] S = runBody (callI prog w k) w ⟨2, false, 4, b__law_dot⟩ [x0, x1] S := callI_s rfl rfl
theorem u__law_common {x0 x1 : D} : callI prog w (k + 1) 17 [x0, x1] S = runBody (callI prog w k) w ⟨2, false, 2, b__law_common⟩ [x0, x1] S := callI_s rfl rfl
theorem u__law_rows {x0 x1 x2 : D} : callI prog w (k + 1) 18 [x0, x1, x2] S = runBody (callI prog w k) w ⟨3, false, 12, b__law_rows⟩ [x0, x1, x2] S := callI_s rfl rfl
theorem u__law_less {x0 x1 x2 : D} : callI prog w (k + 1) 19 [x0, x1, x2] S = runBody (callI prog w k) w ⟨3, false, 5, b__law_less⟩ [x0, x1, x2] S := callI_s rfl rfl
theorem u__law_rank {x0 : D} : callI prog w (k + 1) 20 [x0] S = runBody (callI prog w k) w ⟨1, false, 6, b__law_rank⟩ [x0] S := callI_s rfl rfl
theorem u__law_pivot {x0 : D} : callI prog w (k + 1) 21 [x0] S = runBody (callI prog w k) w ⟨1, false, 4, b__law_pivot⟩ [x0] S := callI_s rfl rfl
theorem u__law_is_reduced {x0 : D} : callI prog w (k + 1) 22 [x0] S = runBody (callI prog w k) w ⟨1, false, 8, b__law_is_reduced⟩ [x0] S := callI_s rfl rfl
theorem u__law_right {x0 : D} : callI prog w (k + 1) 23 [x0] S = runBody (callI prog w k) w ⟨1, false, 7, b__law_right⟩ [x0] S := callI_s rfl rfl
theorem u_law {x0 : D} : callI prog w (k + 1) 24 [x0] S = runBody (callI prog w k) w ⟨1, false, 7, b_law⟩ [x0] S := callI_s rfl rfl
end
end K07

set_option linter.all false
set_option maxRecDepth 10000
/-! The laws' prelude, more of it: while, mixed lists, alphabets, words. -/
namespace Ln
open PySem (PyData Str)
theorem lineB {n : Nat} (h : n ≤ 16000000) : n ≤ line := by have : line = 2 ^ 24 := rfl; omega
theorem erase_perm {α : Type} {l : List α} {t : Nat} (h : t < l.length) : (l[t] :: l.eraseIdx t).Perm l := by
  have e : l = l.take t ++ l[t] :: l.drop (t + 1) := by rw [List.getElem_cons_drop, List.take_append_drop]
  rw [List.eraseIdx_eq_take_drop_succ]
  conv => rhs; rw [e]
  exact List.perm_middle.symm
theorem whileM_inv {cf : Nat → List D → M D} {w : Nat} {c : E} {b : Sms} (I : Nat → Rho → Store → Prop) (J : Rho → Store → Prop)
    (h : ∀ m ρ S, I m ρ S → ∃ k S1, evT cf c ρ S = .ok k S1 ∧ (k = true → ∃ ρ2 S2 m', execs cf w b ρ S1 = .ok (.nx, ρ2) S2 ∧ m' < m ∧ I m' ρ2 S2) ∧ (k = false → J ρ S1)) :
    ∀ (f m : Nat) (ρ : Rho) (S : Store), m < f → I m ρ S → ∃ ρ' S', whileM cf w c b f ρ S = .ok (.nx, ρ') S' ∧ J ρ' S'
  | 0, _, _, _, h0, _ => absurd h0 (Nat.not_lt_zero _)
  | f + 1, m, ρ, S, h0, hi => by
    obtain ⟨k, S1, e1, ht, hf⟩ := h m ρ S hi
    cases k with
    | true =>
      obtain ⟨ρ2, S2, m', e2, hm, hi2⟩ := ht rfl
      obtain ⟨ρ3, S3, e3, hj⟩ := whileM_inv I J h f m' ρ2 S2 (by omega) hi2
      refine ⟨ρ3, S3, ?_, hj⟩
      unfold whileM at e3 ⊢
      simp only [whileL, rBind, e1, if_true, e2]
      exact e3
    | false =>
      refine ⟨ρ, S1, ?_, hf rfl⟩
      unfold whileM
      simp only [whileL, rBind, e1, if_false, Bool.false_eq_true, rRet]
section
variable {prog : List Fn} {w k i j n : Nat} {S : Store}
theorem pickT_sp (h : prog[i]? = some ⟨2, false, 5, b_draw⟩) (h2 : prog[j]? = some ⟨2, false, 2, b_pick i⟩) (hs : Strm n S) {ds : List D} (h0 : ds ≠ []) (h1 : ds.length < 1000) :
    ∃ d S', callI prog w (k + 2) j [.ref n, .tup ds] S = .ok d S' ∧ d ∈ ds ∧ Strm n S' ∧ S'.length = S.length ∧ ∀ m, m ≠ n → S'[m]? = S[m]? := by
  have hl : 0 < ds.length := List.length_pos_iff.mpr h0
  obtain ⟨r, S', e, r0, r1, hs', hl', ho⟩ := draw_sp (w := w) (k := k) h hs (t := (ds.length : Int)) (by omega) (by
    rw [Int.natAbs_natCast]
    have := Nat.log2_le_self ds.length
    omega)
  obtain ⟨q, hq⟩ : ∃ q : Nat, r = q := ⟨r.toNat, by omega⟩
  subst hq
  have hr : q < ds.length := by omega
  refine ⟨ds[q], S', ?_, List.getElem_mem hr, hs', hl', ho⟩
  rw [callI_s h2 rfl]
  simp [b_pick, qOpt, qRet, bnd_ok, bnd_exc, bnd_err, flow_nx, flow_rt, flow_bk, flow_ct, flow_exc, end_nx, end_rt, end_exc, e_var, g_0, g_s, e_cst, e_bin, e_neg, e_not, e_cmp, e_chain, e_and, e_or, e_ite, e_tup, e_lst, e_lstM, e_lstS, e_dct, e_idx, e_slc, e_rev, e_isi, e_fz, e_repM, fz_lst, fz_tup, fz_dct, m_dget, e_blt, e_call, e_mth, m_tindex, m_tcount, e_lc, l_nil, l_cons, l_star, t_nil, t_cons, o_no, o_so, i_seq, i_rng1, i_rng2, i_zip, i_enum, i_enumT, k_enumT, k_neg, k_int, k_seqT, k_seqL, k_seqF, k_starT, k_starL, k_zipT, k_zipL, k_zipM, k_zipM2, k_enum, k_rng, k_rng2, tr_bl, tr_int, tr_tup, tr_lst, s_nil, s_cons, x_expr, x_set, x_setT, x_par, x_setI, x_aug, x_cond, x_loop, x_while, x_ret, x_retN, x_pass, x_brk, x_cont, x_run, b_lenT, b_lenL, b_lenF, b_tupT, b_tupL, b_lstT, b_lstL, b_allL, b_anyL, b_sumL, b_sumT, b_abs, b_max, b_min, b_intI, b_intB, q_ii, q_ss, mapR_some, andR_ite, orR_ite, unpK, parK, augK, setIK, setTg, setAll, wipe, blt, blt0, seqOf, lstOf, cop, bop, intOp, isiD, tyOf, atP, place, Option.map_some, Option.map_none, Option.bind_some, Option.bind_none, e, idxD, hr, List.getElem?_eq_getElem hr]
/-- what may be compared with a list -/
def Dok (d : D) : Prop := ∃ p : PyData, (∀ S, toP S 23 d = some p) ∧ p.canLay0 = true ∧ p.depth ≤ 40
theorem ref_nil {m : Nat} {es : List D} (h : S[m]? = some (.lst es)) (hd : ∀ e ∈ es, Dok e) : eqD S (.ref m) (.lst []) = some es.isEmpty := by
  show eqP S _ _ = _
  have hp : ∃ ps : List PyData, es.mapM (toP S 23) = some ps ∧ PyData.canLayAll0 ps = true ∧ PyData.depthAll ps ≤ 40 ∧ ps.length = es.length := by
    clear h
    induction es with
    | nil => exact ⟨[], rfl, rfl, Nat.zero_le _, rfl⟩
    | cons e es ih =>
      obtain ⟨p, h1, h2, h3⟩ := hd e List.mem_cons_self
      obtain ⟨ps, g1, g2, g3, g4⟩ := ih fun x hx => hd x (List.mem_cons_of_mem _ hx)
      refine ⟨p :: ps, by rw [List.mapM_cons, h1, g1]; rfl, by simp [PyData.canLayAll0, h2, g2], by simp only [PyData.depthAll]; omega, by simp [g4]⟩
  obtain ⟨ps, h1, h2, h3, h4⟩ := hp
  have e1 : dat S (.ref m) = some (.list ps) := by
    show (match S[m]? with | some (O.lst xs) => (xs.mapM (toP S 23)).map PyData.list | some (.dct ks vs) => (ks.mapM (toP S 23)).bind fun a => (vs.mapM (toP S 23)).map fun b => .dict (a.zip b) | _ => none) = _
    rw [h]
    simp only [h1, Option.map_some]
  have e2 : dat S (.lst []) = some (.list []) := rfl
  have sh : PySem.SeqAt.shaped (.list ps) = true := by
    simp [PySem.SeqAt.shaped, PyData.canLay0, h2, PyData.depth]
    omega
  unfold eqP
  rw [e1, e2]
  simp only [sh, show PySem.SeqAt.shaped (.list []) = true by decide, Bool.and_self, if_true]
  cases ps with
  | nil => cases es with
    | nil => rfl
    | cons => simp at h4
  | cons => cases es with
    | nil => simp at h4
    | cons => simp [PyData.eqv, PyData.eqvAll]
def b_mixed (d : Nat) : Sms :=
  (.cons (.par [2, 3] (.cons (.blt .listM (.cons (.var 1) .nil)) (.cons (.lstM .nil) .nil)))
  (.cons (.while (.cmp .ne (.var 2) (.lst .nil))
  (.cons (.expr (.mth .append (.var 3) (.cons (.mth .popAt (.var 2) (.cons (.call d (.cons (.var 0) (.cons (.blt .len (.cons (.var 2) .nil)) .nil))) .nil)) .nil)))
  .nil))
  (.cons (.ret (.var 3))
  .nil)))
theorem mixed_sp (h : prog[i]? = some ⟨2, false, 5, b_draw⟩) (h2 : prog[j]? = some ⟨2, false, 4, b_mixed i⟩) (hs : Strm n S) {ds : List D} (h1 : ds.length < 1000) (hw : ds.length < w) (hd : ∀ d ∈ ds, Dok d) :
    ∃ b fs S', callI prog w (k + 2) j [.ref n, .lst ds] S = .ok (.ref b) S' ∧ S'[b]? = some (.lst fs) ∧ fs.Perm ds ∧ Strm n S' := by
  have hn : n < S.length := by obtain ⟨_, _, _, e⟩ := hs; exact (List.getElem?_eq_some_iff.mp e).1
  have hs2 : Strm n ((S ++ [.lst ds]) ++ [.lst []]) := by
    obtain ⟨a, b, c, e⟩ := hs
    exact ⟨a, b, c, by rw [List.getElem?_append_left (by simp; omega), List.getElem?_append_left hn]; exact e⟩
  have ga : ((S ++ [O.lst ds]) ++ [O.lst []])[S.length]? = some (.lst ds) := by simp
  have gb : ((S ++ [O.lst ds]) ++ [O.lst []])[S.length + 1]? = some (.lst []) := by simp
  obtain ⟨ρ', S', e, fs, hρ, hf, hp, hs'⟩ := whileM_inv (cf := callI prog w (k + 1)) (w := w) (c := .cmp .ne (.var 2) (.lst .nil)) (b := .cons (.expr (.mth .append (.var 3) (.cons (.mth .popAt (.var 2) (.cons (.call i (.cons (.var 0) (.cons (.blt .len (.cons (.var 2) .nil)) .nil))) .nil)) .nil))) .nil)
    (fun m ρ S1 => ∃ es fs, ρ = [some (.ref n), some (.lst ds), some (.ref S.length), some (.ref (S.length + 1))] ∧ S1[S.length]? = some (.lst es) ∧ S1[S.length + 1]? = some (.lst fs) ∧ es.length = m ∧ (fs ++ es).Perm ds ∧ Strm n S1)
    (fun ρ S1 => ∃ fs, ρ = [some (.ref n), some (.lst ds), some (.ref S.length), some (.ref (S.length + 1))] ∧ S1[S.length + 1]? = some (.lst fs) ∧ fs.Perm ds ∧ Strm n S1)
    (fun m ρ S1 hI => by
      obtain ⟨es, fs, rfl, he, hf, rfl, hp, hs1⟩ := hI
      have q := ref_nil he fun x hx => hd x (hp.subset (List.mem_append_right _ hx))
      refine ⟨!es.isEmpty, S1, by unfold evT; simp only [rBind, qOpt, qRet, bnd_ok, bnd_exc, bnd_err, flow_nx, flow_rt, flow_bk, flow_ct, flow_exc, end_nx, end_rt, end_exc, e_var, g_0, g_s, e_cst, e_bin, e_neg, e_not, e_cmp, e_chain, e_and, e_or, e_ite, e_tup, e_lst, e_lstM, e_lstS, e_dct, e_idx, e_slc, e_rev, e_isi, e_fz, e_repM, fz_lst, fz_tup, fz_dct, m_dget, e_blt, e_call, e_mth, m_tindex, m_tcount, e_lc, l_nil, l_cons, l_star, t_nil, t_cons, o_no, o_so, i_seq, i_rng1, i_rng2, i_zip, i_enum, i_enumT, k_enumT, k_neg, k_int, k_seqT, k_seqL, k_seqF, k_starT, k_starL, k_zipT, k_zipL, k_zipM, k_zipM2, k_enum, k_rng, k_rng2, tr_bl, tr_int, tr_tup, tr_lst, s_nil, s_cons, x_expr, x_set, x_setT, x_par, x_setI, x_aug, x_cond, x_loop, x_while, x_ret, x_retN, x_pass, x_brk, x_cont, x_run, b_lenT, b_lenL, b_lenF, b_tupT, b_tupL, b_lstT, b_lstL, b_allL, b_anyL, b_sumL, b_sumT, b_abs, b_max, b_min, b_intI, b_intB, q_ii, q_ss, mapR_some, andR_ite, orR_ite, unpK, parK, augK, setIK, setTg, setAll, wipe, blt, blt0, seqOf, lstOf, cop, bop, intOp, isiD, tyOf, atP, place, Option.map_some, Option.map_none, Option.bind_some, Option.bind_none, eq_self, reduceCtorEq, Int.reduceLE, Int.reduceLT, Int.reduceNeg, Int.reduceEq, Int.reduceToNat, Int.reduceAdd, Int.reduceSub, Nat.reduceLeDiff, reduceIte,  List.flatten_cons, List.flatten_nil, List.length_map, List.map_cons, List.map_nil, List.length_cons, List.length_nil, List.replicate_succ, List.replicate_zero, List.cons_append, List.nil_append, List.append_nil, List.set_cons_zero, List.set_cons_succ, Bool.not_true, Bool.not_false, if_true, if_false, ite_true, ite_false, Bool.false_eq_true, decide_true, decide_false, Bool.or_true, Bool.true_or, Bool.or_false, Bool.false_or, Bool.and_true, Bool.true_and, Bool.and_false, Bool.false_and, decide_eq_true_eq, Nat.reduceAdd, Nat.reduceSub, Nat.zero_add, Function.comp_apply, q], fun hk => ?_, fun hk => ?_⟩
      · have hne : es ≠ [] := by cases es <;> simp at hk ⊢
        have hlen := hp.length_eq
        rw [List.length_append] at hlen
        have hl : 0 < es.length := List.length_pos_iff.mpr hne
        obtain ⟨r, S2, e2, r0, r1, s2, l2, o2⟩ := draw_sp (w := w) (k := k) h hs1 (t := (es.length : Int)) (by omega) (by
          rw [Int.natAbs_natCast]
          have := Nat.log2_le_self es.length
          omega)
        obtain ⟨t, rfl⟩ : ∃ t : Nat, r = t := ⟨r.toNat, by omega⟩
        have ht : t < es.length := by omega
        have he2 : S2[S.length]? = some (.lst es) := (o2 _ (by omega)).trans he
        have hf2 : S2[S.length + 1]? = some (.lst fs) := (o2 _ (by omega)).trans hf
        have la := (List.getElem?_eq_some_iff.mp he2).1
        have lb := (List.getElem?_eq_some_iff.mp hf2).1
        have pop : popAtF [.ref S.length, .int t] S2 = .ok es[t] (S2.set S.length (.lst (es.eraseIdx t))) := by
          unfold popAtF
          have h63 : small63 (t : Int) = true := by unfold small63; simp; omega
          have pl : place es.length (t : Int) = some t := by unfold place; simp [ht]
          simp only [he2, h63, if_true, pl, List.getElem?_eq_getElem ht]
        have hf3 : (S2.set S.length (.lst (es.eraseIdx t)))[S.length + 1]? = some (.lst fs) := by rw [List.getElem?_set_ne (by omega)]; exact hf2
        have ap := m_appendR (S := S2.set S.length (.lst (es.eraseIdx t))) (x := es[t]) hf3 (by have := lineB (n := fs.length + 1) (by omega); omega)
        have ln : lenF S1 [.ref S.length] = some (.int es.length) := by
          show (seqOf S1 (.ref S.length)).map _ = _
          simp only [seqOf, he, Option.map_some]
        refine ⟨_, _, es.length - 1, by simp only [qOpt, qRet, bnd_ok, bnd_exc, bnd_err, flow_nx, flow_rt, flow_bk, flow_ct, flow_exc, end_nx, end_rt, end_exc, e_var, g_0, g_s, e_cst, e_bin, e_neg, e_not, e_cmp, e_chain, e_and, e_or, e_ite, e_tup, e_lst, e_lstM, e_lstS, e_dct, e_idx, e_slc, e_rev, e_isi, e_fz, e_repM, fz_lst, fz_tup, fz_dct, m_dget, e_blt, e_call, e_mth, m_tindex, m_tcount, e_lc, l_nil, l_cons, l_star, t_nil, t_cons, o_no, o_so, i_seq, i_rng1, i_rng2, i_zip, i_enum, i_enumT, k_enumT, k_neg, k_int, k_seqT, k_seqL, k_seqF, k_starT, k_starL, k_zipT, k_zipL, k_zipM, k_zipM2, k_enum, k_rng, k_rng2, tr_bl, tr_int, tr_tup, tr_lst, s_nil, s_cons, x_expr, x_set, x_setT, x_par, x_setI, x_aug, x_cond, x_loop, x_while, x_ret, x_retN, x_pass, x_brk, x_cont, x_run, b_lenT, b_lenL, b_lenF, b_tupT, b_tupL, b_lstT, b_lstL, b_allL, b_anyL, b_sumL, b_sumT, b_abs, b_max, b_min, b_intI, b_intB, q_ii, q_ss, mapR_some, andR_ite, orR_ite, unpK, parK, augK, setIK, setTg, setAll, wipe, blt, blt0, seqOf, lstOf, cop, bop, intOp, isiD, tyOf, atP, place, Option.map_some, Option.map_none, Option.bind_some, Option.bind_none, eq_self, reduceCtorEq, Int.reduceLE, Int.reduceLT, Int.reduceNeg, Int.reduceEq, Int.reduceToNat, Int.reduceAdd, Int.reduceSub, Nat.reduceLeDiff, reduceIte,  List.flatten_cons, List.flatten_nil, List.length_map, List.map_cons, List.map_nil, List.length_cons, List.length_nil, List.replicate_succ, List.replicate_zero, List.cons_append, List.nil_append, List.append_nil, List.set_cons_zero, List.set_cons_succ, Bool.not_true, Bool.not_false, if_true, if_false, ite_true, ite_false, Bool.false_eq_true, decide_true, decide_false, Bool.or_true, Bool.true_or, Bool.or_false, Bool.false_or, Bool.and_true, Bool.true_and, Bool.and_false, Bool.false_and, decide_eq_true_eq, Nat.reduceAdd, Nat.reduceSub, Nat.zero_add, Function.comp_apply, m_append hf, m_popAt he, ln, e2, pop, ap]; rfl, by omega, es.eraseIdx t, fs ++ [es[t]], rfl, ?_, ?_, by rw [List.length_eraseIdx, if_pos ht], ?_, ?_⟩
        · rw [List.getElem?_set_ne (by omega), List.getElem?_set_self la]
        · rw [List.getElem?_set_self (by rw [List.length_set]; exact lb)]
        · have := erase_perm ht
          exact (List.append_assoc fs [es[t]] _ ▸ (List.Perm.append_left fs this)).trans hp
        · obtain ⟨x, y, z, e3⟩ := s2
          exact ⟨x, y, z, by rw [List.getElem?_set_ne (by omega), List.getElem?_set_ne (by omega)]; exact e3⟩
      · have : es = [] := by cases es <;> simp at hk ⊢
        subst this
        exact ⟨fs, rfl, hf, by simpa using hp, hs1⟩)
    w ds.length [some (.ref n), some (.lst ds), some (.ref S.length), some (.ref (S.length + 1))] ((S ++ [.lst ds]) ++ [.lst []]) hw ⟨ds, [], rfl, ga, gb, rfl, by simp, hs2⟩
  subst hρ
  refine ⟨S.length + 1, fs, S', ?_, hf, hp, hs'⟩
  rw [callI_s h2 rfl]
  have lm : listMF [.lst ds] S = .ok (.ref S.length) (S ++ [.lst ds]) := rfl
  simp only [b_mixed, qOpt, qRet, bnd_ok, bnd_exc, bnd_err, flow_nx, flow_rt, flow_bk, flow_ct, flow_exc, end_nx, end_rt, end_exc, e_var, g_0, g_s, e_cst, e_bin, e_neg, e_not, e_cmp, e_chain, e_and, e_or, e_ite, e_tup, e_lst, e_lstM, e_lstS, e_dct, e_idx, e_slc, e_rev, e_isi, e_fz, e_repM, fz_lst, fz_tup, fz_dct, m_dget, e_blt, e_call, e_mth, m_tindex, m_tcount, e_lc, l_nil, l_cons, l_star, t_nil, t_cons, o_no, o_so, i_seq, i_rng1, i_rng2, i_zip, i_enum, i_enumT, k_enumT, k_neg, k_int, k_seqT, k_seqL, k_seqF, k_starT, k_starL, k_zipT, k_zipL, k_zipM, k_zipM2, k_enum, k_rng, k_rng2, tr_bl, tr_int, tr_tup, tr_lst, s_nil, s_cons, x_expr, x_set, x_setT, x_par, x_setI, x_aug, x_cond, x_loop, x_while, x_ret, x_retN, x_pass, x_brk, x_cont, x_run, b_lenT, b_lenL, b_lenF, b_tupT, b_tupL, b_lstT, b_lstL, b_allL, b_anyL, b_sumL, b_sumT, b_abs, b_max, b_min, b_intI, b_intB, q_ii, q_ss, mapR_some, andR_ite, orR_ite, unpK, parK, augK, setIK, setTg, setAll, wipe, blt, blt0, seqOf, lstOf, cop, bop, intOp, isiD, tyOf, atP, place, Option.map_some, Option.map_none, Option.bind_some, Option.bind_none, eq_self, reduceCtorEq, Int.reduceLE, Int.reduceLT, Int.reduceNeg, Int.reduceEq, Int.reduceToNat, Int.reduceAdd, Int.reduceSub, Nat.reduceLeDiff, reduceIte,  List.flatten_cons, List.flatten_nil, List.length_map, List.map_cons, List.map_nil, List.length_cons, List.length_nil, List.replicate_succ, List.replicate_zero, List.cons_append, List.nil_append, List.append_nil, List.set_cons_zero, List.set_cons_succ, Bool.not_true, Bool.not_false, if_true, if_false, ite_true, ite_false, Bool.false_eq_true, decide_true, decide_false, Bool.or_true, Bool.true_or, Bool.or_false, Bool.false_or, Bool.and_true, Bool.true_and, Bool.and_false, Bool.false_and, decide_eq_true_eq, Nat.reduceAdd, Nat.reduceSub, Nat.zero_add, Function.comp_apply, lm, List.length_append, e]
theorem dok_str (x : Str) (h : PyData.strOk x = true) : Dok (.str x) := ⟨.str x, fun _ => rfl, by simpa [PyData.canLay0] using h, Nat.zero_le _⟩
theorem dok_int (x : Int) : Dok (.int x) := ⟨.int x, fun _ => rfl, rfl, Nat.zero_le _⟩
/-! ### alphabets -/
def names : List Str := ["a", "b", "c", "done", "go", "load", "p", "ship", "wait", "x"]
/-- increasing, of the ten names -/
structure Alph (al : List Str) : Prop where
  inc : al.Pairwise fun a b => a.cps.toList < b.cps.toList
  mem : ∀ a ∈ al, a ∈ names
def b_alph (m : Nat) : Sms :=
  (.cons (.set 2 (.lst (.cons (.cst (.str "a")) (.cons (.cst (.str "b")) (.cons (.cst (.str "c")) (.cons (.cst (.str "done")) (.cons (.cst (.str "go")) (.cons (.cst (.str "load")) (.cons (.cst (.str "p")) (.cons (.cst (.str "ship")) (.cons (.cst (.str "wait")) (.cons (.cst (.str "x")) .nil))))))))))))
  (.cons (.ret (.blt .tuple (.cons (.blt .sortS (.cons (.slc (.call m (.cons (.var 0) (.cons (.var 2) .nil))) .no (.so (.var 1))) .nil)) .nil)))
  .nil))
def unS : D → Str
  | .str x => x
  | _ => ""
theorem strs_fun {α : Type} (f : α → Str) : ∀ l : List α, strsD (l.map fun a => D.str (f a)) = some (l.map f)
  | [] => rfl
  | x :: xs => by simp [strsD, strs_fun f xs]
theorem strs_map (l : List Str) : strsD (l.map D.str) = some l := by
  have := strs_fun id l
  simpa using this
theorem leS_iff' (x y : Str) : leS x y = true ↔ x.cps.toList ≤ y.cps.toList := by unfold leS; simp
theorem sort_pw (l : List Str) : (l.mergeSort leS).Pairwise fun a b => a.cps.toList ≤ b.cps.toList := by
  have := List.pairwise_mergeSort (le := leS) (fun a b c h1 h2 => by rw [leS_iff'] at *; exact List.le_trans h1 h2) (fun a b => by rw [Bool.or_eq_true, leS_iff', leS_iff']; exact List.le_total _ _) l
  exact this.imp fun h => (leS_iff' _ _).mp h
theorem alph_sp {m : Nat} (h : prog[i]? = some ⟨2, false, 5, b_draw⟩) (h2 : prog[j]? = some ⟨2, false, 4, b_mixed i⟩) (h3 : prog[m]? = some ⟨2, false, 3, b_alph j⟩) (hw : 20 ≤ w) (hs : Strm n S) {total : Nat} (ht : total ≤ 10) :
    ∃ al S', callI prog w (k + 3) m [.ref n, .int total] S = .ok (.tup (al.map D.str)) S' ∧ Alph al ∧ al.length = total ∧ Strm n S' := by
  obtain ⟨b, fs, S1, e1, g1, hp, s1⟩ := mixed_sp (w := w) (k := k) h h2 hs (ds := names.map D.str) (by decide) (by simp [names]; omega) (fun d hd => by
    obtain ⟨x, hx, rfl⟩ := List.mem_map.mp hd
    refine dok_str x ?_
    have : names.all (fun x => PyData.strOk x) = true := by decide +kernel
    exact List.all_eq_true.mp this x hx)
  have hp2 := hp.map unS
  rw [List.map_map, show (unS ∘ D.str) = id from rfl, List.map_id] at hp2
  have hfs : fs = (fs.map unS).map D.str := by
    rw [List.map_map]
    conv => lhs; rw [← List.map_id fs]
    refine List.map_congr_left fun d hd => ?_
    obtain ⟨x, _, rfl⟩ := List.mem_map.mp (hp.subset hd)
    rfl
  generalize fs.map unS = gs at hp2 hfs
  subst hfs
  have hlen : gs.length = 10 := hp2.length_eq
  have e2 : slcD S1 (.ref b) none (some (total : Int)) = some (.lst ((gs.take total).map D.str)) := by
    have : slcD S1 (.ref b) none (some (total : Int)) = (lstOf S1 (.ref b)).map fun xs => .lst (cut xs none (some (total : Int))) := rfl
    rw [this]
    simp only [lstOf, g1, Option.map_some]
    unfold cut bnd
    simp only [List.length_map, hlen]
    rw [if_neg (by omega), Int.toNat_natCast, Nat.min_eq_left ht, List.drop_zero, Nat.sub_zero, ← List.map_take]
  have e3 : sortF S1 [.lst ((gs.take total).map D.str)] = some (.lst (((gs.take total).mergeSort leS).map D.str)) := by
    show ((lstOf S1 (.lst _)).bind fun xs => (strsD xs).bind fun ys => if ys.length < 64 then some (D.lst ((ys.mergeSort leS).map .str)) else none) = _
    simp only [lstOf, Option.bind_some, strs_map]
    rw [if_pos (by rw [List.length_take]; omega)]
  have pm := List.mergeSort_perm (gs.take total) leS
  have nd : ((gs.take total).mergeSort leS).Nodup := pm.nodup_iff.mpr (((hp2.nodup_iff.mpr (by decide +kernel)).sublist (List.take_sublist _ _)))
  refine ⟨(gs.take total).mergeSort leS, S1, ?_, ⟨?_, fun a ha => ?_⟩, ?_, s1⟩
  · rw [callI_s h3 rfl]
    have e1' : callI prog w (k + 2) j [.ref n, .lst [.str "a", .str "b", .str "c", .str "done", .str "go", .str "load", .str "p", .str "ship", .str "wait", .str "x"]] S = .ok (.ref b) S1 := e1
    simp only [b_alph, qOpt, qRet, bnd_ok, bnd_exc, bnd_err, flow_nx, flow_rt, flow_bk, flow_ct, flow_exc, end_nx, end_rt, end_exc, e_var, g_0, g_s, e_cst, e_bin, e_neg, e_not, e_cmp, e_chain, e_and, e_or, e_ite, e_tup, e_lst, e_lstM, e_lstS, e_dct, e_idx, e_slc, e_rev, e_isi, e_fz, e_repM, fz_lst, fz_tup, fz_dct, m_dget, e_blt, e_call, e_mth, m_tindex, m_tcount, e_lc, l_nil, l_cons, l_star, t_nil, t_cons, o_no, o_so, i_seq, i_rng1, i_rng2, i_zip, i_enum, i_enumT, k_enumT, k_neg, k_int, k_seqT, k_seqL, k_seqF, k_starT, k_starL, k_zipT, k_zipL, k_zipM, k_zipM2, k_enum, k_rng, k_rng2, tr_bl, tr_int, tr_tup, tr_lst, s_nil, s_cons, x_expr, x_set, x_setT, x_par, x_setI, x_aug, x_cond, x_loop, x_while, x_ret, x_retN, x_pass, x_brk, x_cont, x_run, b_lenT, b_lenL, b_lenF, b_tupT, b_tupL, b_lstT, b_lstL, b_allL, b_anyL, b_sumL, b_sumT, b_abs, b_max, b_min, b_intI, b_intB, q_ii, q_ss, mapR_some, andR_ite, orR_ite, unpK, parK, augK, setIK, setTg, setAll, wipe, blt, blt0, seqOf, lstOf, cop, bop, intOp, isiD, tyOf, atP, place, Option.map_some, Option.map_none, Option.bind_some, Option.bind_none, eq_self, reduceCtorEq, Int.reduceLE, Int.reduceLT, Int.reduceNeg, Int.reduceEq, Int.reduceToNat, Int.reduceAdd, Int.reduceSub, Nat.reduceLeDiff, reduceIte,  List.flatten_cons, List.flatten_nil, List.length_map, List.map_cons, List.map_nil, List.length_cons, List.length_nil, List.replicate_succ, List.replicate_zero, List.cons_append, List.nil_append, List.append_nil, List.set_cons_zero, List.set_cons_succ, Bool.not_true, Bool.not_false, if_true, if_false, ite_true, ite_false, Bool.false_eq_true, decide_true, decide_false, Bool.or_true, Bool.true_or, Bool.or_false, Bool.false_or, Bool.and_true, Bool.true_and, Bool.and_false, Bool.false_and, decide_eq_true_eq, Nat.reduceAdd, Nat.reduceSub, Nat.zero_add, Function.comp_apply, e1', e2, e3]
  · have := (sort_pw (gs.take total)).and nd
    refine this.imp fun ⟨h1, h2⟩ => ?_
    refine Classical.byContradiction fun hn => h2 ?_
    have h3 := List.le_antisymm h1 (List.not_lt.mp hn)
    rename_i a b
    cases a; cases b
    exact congrArg PySem.Str.mk (Array.toList_inj.mp h3)
  · exact hp2.subset (List.take_subset _ _ (pm.subset ha))
  · rw [pm.length_eq, List.length_take]; omega
def b_word (p d : Nat) : Sms :=
  (.cons (.ret (.blt .tuple (.cons (.lc (.call p (.cons (.var 0) (.cons (.var 1) .nil))) (.nm 3) (.rng1 (.call d (.cons (.var 0) (.cons (.bin .add (.var 2) (.cst (.int 1))) .nil)))) .nil [3]) .nil)))
  .nil)
theorem word_sp {m : Nat} (h : prog[i]? = some ⟨2, false, 5, b_draw⟩) (h2 : prog[j]? = some ⟨2, false, 2, b_pick i⟩) (h3 : prog[m]? = some ⟨3, false, 4, b_word j i⟩) (hs : Strm n S) {al : List Str} (h0 : al ≠ []) (h1 : al.length < 1000) {high : Nat} (hh : high ≤ 1000) :
    ∃ (ws : List Str) (S' : Store), callI prog w (k + 3) m [.ref n, .tup (al.map D.str), .int high] S = .ok (.tup (ws.map D.str)) S' ∧ ws.length ≤ high ∧ (∀ x ∈ ws, x ∈ al) ∧ Strm n S' := by
  obtain ⟨r, S1, e1, r0, r1, s1, _⟩ := draw_sp (w := w) (k := k + 1) h hs (t := (high : Int) + 1) (by omega) (by
    have := Nat.log2_le_self (high + 1)
    rw [show ((high : Int) + 1).natAbs = high + 1 by omega]
    omega)
  obtain ⟨q, rfl⟩ : ∃ q : Nat, r = q := ⟨r.toNat, by omega⟩
  obtain ⟨ys, S2, e2, s2, hl, hp⟩ := lcM_inv (cf := callI prog w (k + 2)) (ρ := [some (.ref n), some (.tup (al.map D.str)), some (.int high), none]) (S := S1) (elt := .call j (.cons (.var 0) (.cons (.var 1) .nil))) (tg := .nm 3) (own := [3]) (fun i : Nat => D.int i) (Strm n) (fun d => ∃ x ∈ al, d = .str x) (List.range q) (fun _ _ S hS => by
    obtain ⟨d, S', e, hd, s', _⟩ := pickT_sp (w := w) (k := k) h h2 hS (ds := al.map D.str) (by simpa using h0) (by simpa using h1)
    obtain ⟨x, hx, rfl⟩ := List.mem_map.mp hd
    exact ⟨_, _, S', rfl, by simp only [qOpt, qRet, bnd_ok, bnd_exc, bnd_err, flow_nx, flow_rt, flow_bk, flow_ct, flow_exc, end_nx, end_rt, end_exc, e_var, g_0, g_s, e_cst, e_bin, e_neg, e_not, e_cmp, e_chain, e_and, e_or, e_ite, e_tup, e_lst, e_lstM, e_lstS, e_dct, e_idx, e_slc, e_rev, e_isi, e_fz, e_repM, fz_lst, fz_tup, fz_dct, m_dget, e_blt, e_call, e_mth, m_tindex, m_tcount, e_lc, l_nil, l_cons, l_star, t_nil, t_cons, o_no, o_so, i_seq, i_rng1, i_rng2, i_zip, i_enum, i_enumT, k_enumT, k_neg, k_int, k_seqT, k_seqL, k_seqF, k_starT, k_starL, k_zipT, k_zipL, k_zipM, k_zipM2, k_enum, k_rng, k_rng2, tr_bl, tr_int, tr_tup, tr_lst, s_nil, s_cons, x_expr, x_set, x_setT, x_par, x_setI, x_aug, x_cond, x_loop, x_while, x_ret, x_retN, x_pass, x_brk, x_cont, x_run, b_lenT, b_lenL, b_lenF, b_tupT, b_tupL, b_lstT, b_lstL, b_allL, b_anyL, b_sumL, b_sumT, b_abs, b_max, b_min, b_intI, b_intB, q_ii, q_ss, mapR_some, andR_ite, orR_ite, unpK, parK, augK, setIK, setTg, setAll, wipe, blt, blt0, seqOf, lstOf, cop, bop, intOp, isiD, tyOf, atP, place, Option.map_some, Option.map_none, Option.bind_some, Option.bind_none, eq_self, reduceCtorEq, Int.reduceLE, Int.reduceLT, Int.reduceNeg, Int.reduceEq, Int.reduceToNat, Int.reduceAdd, Int.reduceSub, Nat.reduceLeDiff, reduceIte,  List.flatten_cons, List.flatten_nil, List.length_map, List.map_cons, List.map_nil, List.length_cons, List.length_nil, List.replicate_succ, List.replicate_zero, List.cons_append, List.nil_append, List.append_nil, List.set_cons_zero, List.set_cons_succ, Bool.not_true, Bool.not_false, if_true, if_false, ite_true, ite_false, Bool.false_eq_true, decide_true, decide_false, Bool.or_true, Bool.true_or, Bool.or_false, Bool.false_or, Bool.and_true, Bool.true_and, Bool.and_false, Bool.false_and, decide_eq_true_eq, Nat.reduceAdd, Nat.reduceSub, Nat.zero_add, Function.comp_apply, e], s', x, hx, rfl⟩) s1
  have : ∃ ws : List Str, ys = ws.map D.str ∧ ∀ x ∈ ws, x ∈ al := by
    clear e2 hl
    induction ys with
    | nil => exact ⟨[], rfl, by simp⟩
    | cons y ys ih =>
      obtain ⟨x, hx, rfl⟩ := hp y List.mem_cons_self
      obtain ⟨ws, rfl, hws⟩ := ih fun y hy => hp y (List.mem_cons_of_mem _ hy)
      exact ⟨x :: ws, rfl, fun z hz => (List.mem_cons.mp hz).elim (fun e => e ▸ hx) (hws z)⟩
  obtain ⟨ws, rfl, hws⟩ := this
  have hq : q ≤ line := lineB (by omega)
  refine ⟨ws, S2, ?_, by simp at hl; omega, hws, s2⟩
  rw [callI_s h3 rfl]
  simp only [b_word, qOpt, qRet, bnd_ok, bnd_exc, bnd_err, flow_nx, flow_rt, flow_bk, flow_ct, flow_exc, end_nx, end_rt, end_exc, e_var, g_0, g_s, e_cst, e_bin, e_neg, e_not, e_cmp, e_chain, e_and, e_or, e_ite, e_tup, e_lst, e_lstM, e_lstS, e_dct, e_idx, e_slc, e_rev, e_isi, e_fz, e_repM, fz_lst, fz_tup, fz_dct, m_dget, e_blt, e_call, e_mth, m_tindex, m_tcount, e_lc, l_nil, l_cons, l_star, t_nil, t_cons, o_no, o_so, i_seq, i_rng1, i_rng2, i_zip, i_enum, i_enumT, k_enumT, k_neg, k_int, k_seqT, k_seqL, k_seqF, k_starT, k_starL, k_zipT, k_zipL, k_zipM, k_zipM2, k_enum, k_rng, k_rng2, tr_bl, tr_int, tr_tup, tr_lst, s_nil, s_cons, x_expr, x_set, x_setT, x_par, x_setI, x_aug, x_cond, x_loop, x_while, x_ret, x_retN, x_pass, x_brk, x_cont, x_run, b_lenT, b_lenL, b_lenF, b_tupT, b_tupL, b_lstT, b_lstL, b_allL, b_anyL, b_sumL, b_sumT, b_abs, b_max, b_min, b_intI, b_intB, q_ii, q_ss, mapR_some, andR_ite, orR_ite, unpK, parK, augK, setIK, setTg, setAll, wipe, blt, blt0, seqOf, lstOf, cop, bop, intOp, isiD, tyOf, atP, place, Option.map_some, Option.map_none, Option.bind_some, Option.bind_none, eq_self, reduceCtorEq, Int.reduceLE, Int.reduceLT, Int.reduceNeg, Int.reduceEq, Int.reduceToNat, Int.reduceAdd, Int.reduceSub, Nat.reduceLeDiff, reduceIte,  List.flatten_cons, List.flatten_nil, List.length_map, List.map_cons, List.map_nil, List.length_cons, List.length_nil, List.replicate_succ, List.replicate_zero, List.cons_append, List.nil_append, List.append_nil, List.set_cons_zero, List.set_cons_succ, Bool.not_true, Bool.not_false, if_true, if_false, ite_true, ite_false, Bool.false_eq_true, decide_true, decide_false, Bool.or_true, Bool.true_or, Bool.or_false, Bool.false_or, Bool.and_true, Bool.true_and, Bool.and_false, Bool.false_and, decide_eq_true_eq, Nat.reduceAdd, Nat.reduceSub, Nat.zero_add, Function.comp_apply, e1, k_rng hq, e2]
end
end Ln

set_option linter.all false
set_option maxRecDepth 10000
set_option exponentiation.threshold 10000
/-! Euclid; fractions as Rat. -/
namespace Ln
open PySem (PyData Str)
/-- how many turns Euclid may take -/
def mu (a b : Nat) : Nat := if b = 0 then 0 else (a * b).log2 + (if a < b then 2 else 1)
theorem mu_step {a b : Nat} (hb : 0 < b) : mu b (a % b) < mu a b := by
  unfold mu
  rw [if_neg (show ¬ b = 0 by omega)]
  have hr := Nat.mod_lt a hb
  by_cases h0 : a % b = 0
  · rw [if_pos h0]; split <;> omega
  · rw [if_neg h0, if_neg (show ¬ b < a % b by omega)]
    by_cases h : a < b
    · rw [if_pos h, Nat.mod_eq_of_lt h, Nat.mul_comm]; omega
    · rw [if_neg h]
      have h1 : 2 * (a % b) ≤ a := by
        have e := Nat.div_add_mod a b
        have : 1 ≤ a / b := Nat.div_pos (by omega) hb
        have := Nat.mul_le_mul_left b this
        omega
      have h2 : 2 * (b * (a % b)) ≤ a * b := by
        have := Nat.mul_le_mul_left b h1
        rw [Nat.mul_comm a b, ← Nat.mul_assoc, Nat.mul_comm 2 b, Nat.mul_assoc]
        exact this
      have h3 : b * (a % b) ≠ 0 := Nat.mul_ne_zero (by omega) h0
      have h4 : a * b ≠ 0 := by omega
      have h5 : (b * (a % b)).log2 + 1 ≤ (a * b).log2 := by
        rw [Nat.le_log2 h4, Nat.pow_succ]
        have := Nat.log2_self_le h3
        omega
      omega
theorem gcd_step (a b : Nat) : Nat.gcd b (a % b) = Nat.gcd a b := by
  rw [Nat.gcd_comm a b, Nat.gcd_rec b a, Nat.gcd_comm]
theorem fmod_nat (a b : Nat) : (a : Int).fmod (b : Int) = ((a % b : Nat) : Int) := by
  rw [Int.fmod_eq_emod_of_nonneg _ (by omega)]
  rfl
theorem mu_le {a b N : Nat} (ha : a < 2 ^ N) (hb : b < 2 ^ N) : mu a b ≤ 2 * N + 2 := by
  unfold mu
  by_cases h : b = 0
  · rw [if_pos h]; omega
  · rw [if_neg h]
    have : (a * b).log2 ≤ 2 * N := by
      by_cases h0 : a * b = 0
      · rw [h0]; simp
      · have : (a * b).log2 < 2 * N := by
          rw [Nat.log2_lt h0, Nat.two_mul, Nat.pow_add]
          exact Nat.mul_lt_mul'' ha hb
        omega
    split <;> omega
/-- of N bits at most -/
def Bi (N : Nat) (x : Int) : Prop := x.natAbs < 2 ^ N
theorem Bi.up {M N : Nat} {x : Int} (h : Bi M x) (hl : M ≤ N) : Bi N x := Nat.lt_of_lt_of_le h (Nat.pow_le_pow_right (by decide) hl)
theorem Bi.log {N : Nat} {x : Int} (h : Bi N x) (hN : 0 < N) : x.natAbs.log2 < N := log2_lt h hN
theorem Bi.mul {M N : Nat} {x y : Int} (hx : Bi M x) (hy : Bi N y) : Bi (M + N) (x * y) := by
  unfold Bi at *
  rw [Int.natAbs_mul, Nat.pow_add]
  exact Nat.mul_lt_mul'' hx hy
theorem Bi.add {M N : Nat} {x y : Int} (hx : Bi M x) (hy : Bi N y) : Bi (max M N + 1) (x + y) := by
  have hx := hx.up (Nat.le_max_left M N)
  have hy := hy.up (Nat.le_max_right M N)
  unfold Bi at *
  rw [Nat.pow_succ]
  omega
theorem Bi.sub {M N : Nat} {x y : Int} (hx : Bi M x) (hy : Bi N y) : Bi (max M N + 1) (x - y) := by
  have hx := hx.up (Nat.le_max_left M N)
  have hy := hy.up (Nat.le_max_right M N)
  unfold Bi at *
  rw [Nat.pow_succ]
  omega
theorem Bi.neg {M : Nat} {x : Int} (hx : Bi M x) : Bi M (-x) := by unfold Bi at *; rw [Int.natAbs_neg]; exact hx
theorem Bi.nat {M : Nat} {n : Nat} (h : n < 2 ^ M) : Bi M (n : Int) := by unfold Bi; simpa using h
theorem Bi.small {x : Int} (M : Nat) (h : x.natAbs < 2 ^ 60) (hM : 60 ≤ M := by decide) : Bi M x := Bi.up (M := 60) h hM
theorem Bi.mulOk {x y : Int} (hx : Bi 400000 x) (hy : Bi 400000 y) : mulOk x y = true := by
  have h1 := hx.log (by decide)
  have h2 := hy.log (by decide)
  unfold Ln.mulOk
  simp only [Bool.or_eq_true, decide_eq_true_eq]
  right
  omega
theorem Bi.divOk {x : Int} (hx : Bi 9000 x) (h : x ≠ 0) : divOk x = true := by
  have h1 := hx.log (by decide)
  unfold Ln.divOk
  simp only [Bool.and_eq_true, decide_eq_true_eq]
  exact ⟨h, h1⟩
def b_common : Sms :=
  (.cons (.while (.cmp .gt (.var 1) (.cst (.int 0)))
  (.cons (.par [0, 1] (.cons (.var 1) (.cons (.bin .mod (.var 0) (.var 1)) .nil)))
  .nil))
  (.cons (.ret (.var 0))
  .nil))
def b_common_in : Sms :=
  (.cons (.par [0, 1] (.cons (.blt .abs (.cons (.var 0) .nil)) (.cons (.blt .abs (.cons (.var 1) .nil)) .nil)))
  (.cons (.while (.cmp .gt (.var 1) (.cst (.int 0)))
  (.cons (.par [0, 1] (.cons (.var 1) (.cons (.bin .mod (.var 0) (.var 1)) .nil)))
  .nil))
  (.cons (.ret (.var 0))
  .nil)))
def b_fraction (n : Nat) : Sms :=
  (.cons (.set 2 (.call n (.cons (.var 0) (.cons (.var 1) .nil))))
  (.cons (.cond (.cmp .lt (.var 1) (.cst (.int 0)))
  (.cons (.set 2 (.bin .sub (.cst (.int 0)) (.var 2)))
  .nil) .nil)
  (.cons (.ret (.tup (.cons (.bin .fdiv (.var 0) (.var 2)) (.cons (.bin .fdiv (.var 1) (.var 2)) .nil))))
  .nil)))
def b_lowest (n : Nat) : Sms :=
  (.cons (.set 2 (.call n (.cons (.blt .abs (.cons (.var 0) .nil)) (.cons (.blt .abs (.cons (.var 1) .nil)) .nil))))
  (.cons (.cond (.cmp .lt (.var 1) (.cst (.int 0)))
  (.cons (.set 2 (.bin .sub (.cst (.int 0)) (.var 2)))
  .nil) .nil)
  (.cons (.ret (.tup (.cons (.bin .fdiv (.var 0) (.var 2)) (.cons (.bin .fdiv (.var 1) (.var 2)) .nil))))
  .nil)))
def b_plus (n : Nat) : Sms :=
  (.cons (.ret (.call n (.cons (.bin .add (.bin .mul (.idx (.var 0) (.cst (.int 0))) (.idx (.var 1) (.cst (.int 1)))) (.bin .mul (.idx (.var 1) (.cst (.int 0))) (.idx (.var 0) (.cst (.int 1))))) (.cons (.bin .mul (.idx (.var 0) (.cst (.int 1))) (.idx (.var 1) (.cst (.int 1)))) .nil))))
  .nil)
def b_times (n : Nat) : Sms :=
  (.cons (.ret (.call n (.cons (.bin .mul (.idx (.var 0) (.cst (.int 0))) (.idx (.var 1) (.cst (.int 0)))) (.cons (.bin .mul (.idx (.var 0) (.cst (.int 1))) (.idx (.var 1) (.cst (.int 1)))) .nil))))
  .nil)
def fr (x : Rat) : D := .tup [.int x.num, .int x.den]
/-- a fraction of numbers of N bits -/
structure Fb (N : Nat) (x : Rat) : Prop where
  n : Bi N x.num
  d : Bi N (x.den : Int)
theorem Fb.up {M N : Nat} {x : Rat} (h : Fb M x) (hl : M ≤ N) : Fb N x := ⟨h.n.up hl, h.d.up hl⟩
theorem abs_i (n : Int) : (if n < 0 then -n else n) = ((n.natAbs : Nat) : Int) := by omega
/-- the numbers of a fraction -/
theorem frac_pos {p q : Int} (hq : 0 < q) : p.fdiv ((Nat.gcd p.natAbs q.natAbs : Nat) : Int) = (Rat.divInt p q).num ∧ q.fdiv ((Nat.gcd p.natAbs q.natAbs : Nat) : Int) = ((Rat.divInt p q).den : Int) := by
  rw [Rat.num_divInt, Rat.den_divInt, if_neg (by omega), Int.sign_eq_one_of_pos hq, Int.one_mul, Int.fdiv_eq_ediv_of_nonneg _ (by omega), Int.fdiv_eq_ediv_of_nonneg _ (by omega)]
  have e : Nat.gcd p.natAbs q.natAbs = Int.gcd q p := by rw [Int.gcd, Nat.gcd_comm]
  rw [e]
  refine ⟨rfl, ?_⟩
  rw [Int.natCast_ediv, Int.natAbs_of_nonneg (by omega)]
theorem frac_neg {p q : Int} (hq : q < 0) : p.fdiv (0 - ((Nat.gcd p.natAbs q.natAbs : Nat) : Int)) = (Rat.divInt p q).num ∧ q.fdiv (0 - ((Nat.gcd p.natAbs q.natAbs : Nat) : Int)) = ((Rat.divInt p q).den : Int) := by
  have e := Rat.neg_divInt_neg p q
  have h := frac_pos (p := -p) (q := -q) (by omega)
  rw [e, Int.natAbs_neg, Int.natAbs_neg] at h
  rw [Int.zero_sub]
  refine ⟨?_, ?_⟩
  · rw [← h.1, ← Int.neg_fdiv_neg, Int.neg_neg]
  · rw [← h.2, ← Int.neg_fdiv_neg, Int.neg_neg]
section
variable {prog : List Fn} {w k i j n : Nat} {S : Store}
theorem gcd_while {cf : Nat → List D → M D} {a b : Nat} (hm : mu a b < w) : whileM cf w (.cmp .gt (.var 1) (.cst (.int 0))) (.cons (.par [0, 1] (.cons (.var 1) (.cons (.bin .mod (.var 0) (.var 1)) .nil))) .nil) w [some (.int a), some (.int b)] S = .ok (.nx, [some (.int (Nat.gcd a b)), some (.int 0)]) S := by
  obtain ⟨ρ', S', e, rfl, rfl⟩ := whileM_inv (cf := cf) (w := w) (c := .cmp .gt (.var 1) (.cst (.int 0))) (b := .cons (.par [0, 1] (.cons (.var 1) (.cons (.bin .mod (.var 0) (.var 1)) .nil))) .nil)
    (fun m ρ S1 => ∃ x y : Nat, ρ = [some (.int x), some (.int y)] ∧ Nat.gcd x y = Nat.gcd a b ∧ mu x y = m ∧ S1 = S) (fun ρ S1 => ρ = [some (.int (Nat.gcd a b)), some (.int 0)] ∧ S1 = S) (fun m ρ S1 hI => by
      obtain ⟨x, y, rfl, hg, rfl, rfl⟩ := hI
      refine ⟨decide ((0 : Int) < y), S1, by unfold evT; simp only [rBind, qOpt, qRet, bnd_ok, bnd_exc, bnd_err, flow_nx, flow_rt, flow_bk, flow_ct, flow_exc, end_nx, end_rt, end_exc, e_var, g_0, g_s, e_cst, e_bin, e_neg, e_not, e_cmp, e_chain, e_and, e_or, e_ite, e_tup, e_lst, e_lstM, e_lstS, e_dct, e_idx, e_slc, e_rev, e_isi, e_fz, e_repM, fz_lst, fz_tup, fz_dct, m_dget, e_blt, e_call, e_mth, m_tindex, m_tcount, e_lc, l_nil, l_cons, l_star, t_nil, t_cons, o_no, o_so, i_seq, i_rng1, i_rng2, i_zip, i_enum, i_enumT, k_enumT, k_neg, k_int, k_seqT, k_seqL, k_seqF, k_starT, k_starL, k_zipT, k_zipL, k_zipM, k_zipM2, k_enum, k_rng, k_rng2, tr_bl, tr_int, tr_tup, tr_lst, s_nil, s_cons, x_expr, x_set, x_setT, x_par, x_setI, x_aug, x_cond, x_loop, x_while, x_ret, x_retN, x_pass, x_brk, x_cont, x_run, b_lenT, b_lenL, b_lenF, b_tupT, b_tupL, b_lstT, b_lstL, b_allL, b_anyL, b_sumL, b_sumT, b_abs, b_max, b_min, b_intI, b_intB, q_ii, q_ss, mapR_some, andR_ite, orR_ite, unpK, parK, augK, setIK, setTg, setAll, wipe, blt, blt0, seqOf, lstOf, cop, bop, intOp, isiD, tyOf, atP, place, Option.map_some, Option.map_none, Option.bind_some, Option.bind_none, eq_self, reduceCtorEq, Int.reduceLE, Int.reduceLT, Int.reduceNeg, Int.reduceEq, Int.reduceToNat, Int.reduceAdd, Int.reduceSub, Nat.reduceLeDiff, reduceIte,  List.flatten_cons, List.flatten_nil, List.length_map, List.map_cons, List.map_nil, List.length_cons, List.length_nil, List.replicate_succ, List.replicate_zero, List.cons_append, List.nil_append, List.append_nil, List.set_cons_zero, List.set_cons_succ, Bool.not_true, Bool.not_false, if_true, if_false, ite_true, ite_false, Bool.false_eq_true, decide_true, decide_false, Bool.or_true, Bool.true_or, Bool.or_false, Bool.false_or, Bool.and_true, Bool.true_and, Bool.and_false, Bool.false_and, decide_eq_true_eq, Nat.reduceAdd, Nat.reduceSub, Nat.zero_add, Function.comp_apply], fun hk => ?_, fun hk => ?_⟩
      · have hy : 0 < y := by have := of_decide_eq_true hk; omega
        have hne : (y : Int) ≠ 0 := by omega
        have ne2 : ((y : Int) ≠ 0) = True := eq_true hne
        exact ⟨_, _, mu y (x % y), by simp only [qOpt, qRet, bnd_ok, bnd_exc, bnd_err, flow_nx, flow_rt, flow_bk, flow_ct, flow_exc, end_nx, end_rt, end_exc, e_var, g_0, g_s, e_cst, e_bin, e_neg, e_not, e_cmp, e_chain, e_and, e_or, e_ite, e_tup, e_lst, e_lstM, e_lstS, e_dct, e_idx, e_slc, e_rev, e_isi, e_fz, e_repM, fz_lst, fz_tup, fz_dct, m_dget, e_blt, e_call, e_mth, m_tindex, m_tcount, e_lc, l_nil, l_cons, l_star, t_nil, t_cons, o_no, o_so, i_seq, i_rng1, i_rng2, i_zip, i_enum, i_enumT, k_enumT, k_neg, k_int, k_seqT, k_seqL, k_seqF, k_starT, k_starL, k_zipT, k_zipL, k_zipM, k_zipM2, k_enum, k_rng, k_rng2, tr_bl, tr_int, tr_tup, tr_lst, s_nil, s_cons, x_expr, x_set, x_setT, x_par, x_setI, x_aug, x_cond, x_loop, x_while, x_ret, x_retN, x_pass, x_brk, x_cont, x_run, b_lenT, b_lenL, b_lenF, b_tupT, b_tupL, b_lstT, b_lstL, b_allL, b_anyL, b_sumL, b_sumT, b_abs, b_max, b_min, b_intI, b_intB, q_ii, q_ss, mapR_some, andR_ite, orR_ite, unpK, parK, augK, setIK, setTg, setAll, wipe, blt, blt0, seqOf, lstOf, cop, bop, intOp, isiD, tyOf, atP, place, Option.map_some, Option.map_none, Option.bind_some, Option.bind_none, eq_self, reduceCtorEq, Int.reduceLE, Int.reduceLT, Int.reduceNeg, Int.reduceEq, Int.reduceToNat, Int.reduceAdd, Int.reduceSub, Nat.reduceLeDiff, reduceIte,  List.flatten_cons, List.flatten_nil, List.length_map, List.map_cons, List.map_nil, List.length_cons, List.length_nil, List.replicate_succ, List.replicate_zero, List.cons_append, List.nil_append, List.append_nil, List.set_cons_zero, List.set_cons_succ, Bool.not_true, Bool.not_false, if_true, if_false, ite_true, ite_false, Bool.false_eq_true, decide_true, decide_false, Bool.or_true, Bool.true_or, Bool.or_false, Bool.false_or, Bool.and_true, Bool.true_and, Bool.and_false, Bool.false_and, decide_eq_true_eq, Nat.reduceAdd, Nat.reduceSub, Nat.zero_add, Function.comp_apply, ne2, fmod_nat], mu_step hy, y, x % y, rfl, (gcd_step x y).trans hg, rfl, rfl⟩
      · have hy : y = 0 := by have := of_decide_eq_false hk; omega
        subst hy
        rw [Nat.gcd_zero_right] at hg
        subst hg
        exact ⟨rfl, rfl⟩) w (mu a b) _ S hm ⟨a, b, rfl, rfl, rfl, rfl⟩
  exact e
theorem mu_w {a b : Nat} (hw : 1000000 ≤ w) (ha : a < 2 ^ 400000) (hb : b < 2 ^ 400000) : mu a b < w := by
  have := mu_le ha hb
  omega
theorem common_sp (hw : 1000000 ≤ w) (h : prog[i]? = some ⟨2, false, 2, b_common⟩) {a b : Nat} (ha : a < 2 ^ 400000) (hb : b < 2 ^ 400000) : callI prog w (k + 1) i [.int a, .int b] S = .ok (.int (Nat.gcd a b)) S := by
  rw [callI_s h rfl]
  simp only [b_common, qOpt, qRet, bnd_ok, bnd_exc, bnd_err, flow_nx, flow_rt, flow_bk, flow_ct, flow_exc, end_nx, end_rt, end_exc, e_var, g_0, g_s, e_cst, e_bin, e_neg, e_not, e_cmp, e_chain, e_and, e_or, e_ite, e_tup, e_lst, e_lstM, e_lstS, e_dct, e_idx, e_slc, e_rev, e_isi, e_fz, e_repM, fz_lst, fz_tup, fz_dct, m_dget, e_blt, e_call, e_mth, m_tindex, m_tcount, e_lc, l_nil, l_cons, l_star, t_nil, t_cons, o_no, o_so, i_seq, i_rng1, i_rng2, i_zip, i_enum, i_enumT, k_enumT, k_neg, k_int, k_seqT, k_seqL, k_seqF, k_starT, k_starL, k_zipT, k_zipL, k_zipM, k_zipM2, k_enum, k_rng, k_rng2, tr_bl, tr_int, tr_tup, tr_lst, s_nil, s_cons, x_expr, x_set, x_setT, x_par, x_setI, x_aug, x_cond, x_loop, x_while, x_ret, x_retN, x_pass, x_brk, x_cont, x_run, b_lenT, b_lenL, b_lenF, b_tupT, b_tupL, b_lstT, b_lstL, b_allL, b_anyL, b_sumL, b_sumT, b_abs, b_max, b_min, b_intI, b_intB, q_ii, q_ss, mapR_some, andR_ite, orR_ite, unpK, parK, augK, setIK, setTg, setAll, wipe, blt, blt0, seqOf, lstOf, cop, bop, intOp, isiD, tyOf, atP, place, Option.map_some, Option.map_none, Option.bind_some, Option.bind_none, eq_self, reduceCtorEq, Int.reduceLE, Int.reduceLT, Int.reduceNeg, Int.reduceEq, Int.reduceToNat, Int.reduceAdd, Int.reduceSub, Nat.reduceLeDiff, reduceIte,  List.flatten_cons, List.flatten_nil, List.length_map, List.map_cons, List.map_nil, List.length_cons, List.length_nil, List.replicate_succ, List.replicate_zero, List.cons_append, List.nil_append, List.append_nil, List.set_cons_zero, List.set_cons_succ, Bool.not_true, Bool.not_false, if_true, if_false, ite_true, ite_false, Bool.false_eq_true, decide_true, decide_false, Bool.or_true, Bool.true_or, Bool.or_false, Bool.false_or, Bool.and_true, Bool.true_and, Bool.and_false, Bool.false_and, decide_eq_true_eq, Nat.reduceAdd, Nat.reduceSub, Nat.zero_add, Function.comp_apply, gcd_while (mu_w hw ha hb)]
theorem common_in_sp (hw : 1000000 ≤ w) (h : prog[i]? = some ⟨2, false, 2, b_common_in⟩) {a b : Int} (ha : Bi 400000 a) (hb : Bi 400000 b) : callI prog w (k + 1) i [.int a, .int b] S = .ok (.int (Nat.gcd a.natAbs b.natAbs : Nat)) S := by
  rw [callI_s h rfl]
  simp only [b_common_in, qOpt, qRet, bnd_ok, bnd_exc, bnd_err, flow_nx, flow_rt, flow_bk, flow_ct, flow_exc, end_nx, end_rt, end_exc, e_var, g_0, g_s, e_cst, e_bin, e_neg, e_not, e_cmp, e_chain, e_and, e_or, e_ite, e_tup, e_lst, e_lstM, e_lstS, e_dct, e_idx, e_slc, e_rev, e_isi, e_fz, e_repM, fz_lst, fz_tup, fz_dct, m_dget, e_blt, e_call, e_mth, m_tindex, m_tcount, e_lc, l_nil, l_cons, l_star, t_nil, t_cons, o_no, o_so, i_seq, i_rng1, i_rng2, i_zip, i_enum, i_enumT, k_enumT, k_neg, k_int, k_seqT, k_seqL, k_seqF, k_starT, k_starL, k_zipT, k_zipL, k_zipM, k_zipM2, k_enum, k_rng, k_rng2, tr_bl, tr_int, tr_tup, tr_lst, s_nil, s_cons, x_expr, x_set, x_setT, x_par, x_setI, x_aug, x_cond, x_loop, x_while, x_ret, x_retN, x_pass, x_brk, x_cont, x_run, b_lenT, b_lenL, b_lenF, b_tupT, b_tupL, b_lstT, b_lstL, b_allL, b_anyL, b_sumL, b_sumT, b_abs, b_max, b_min, b_intI, b_intB, q_ii, q_ss, mapR_some, andR_ite, orR_ite, unpK, parK, augK, setIK, setTg, setAll, wipe, blt, blt0, seqOf, lstOf, cop, bop, intOp, isiD, tyOf, atP, place, Option.map_some, Option.map_none, Option.bind_some, Option.bind_none, eq_self, reduceCtorEq, Int.reduceLE, Int.reduceLT, Int.reduceNeg, Int.reduceEq, Int.reduceToNat, Int.reduceAdd, Int.reduceSub, Nat.reduceLeDiff, reduceIte,  List.flatten_cons, List.flatten_nil, List.length_map, List.map_cons, List.map_nil, List.length_cons, List.length_nil, List.replicate_succ, List.replicate_zero, List.cons_append, List.nil_append, List.append_nil, List.set_cons_zero, List.set_cons_succ, Bool.not_true, Bool.not_false, if_true, if_false, ite_true, ite_false, Bool.false_eq_true, decide_true, decide_false, Bool.or_true, Bool.true_or, Bool.or_false, Bool.false_or, Bool.and_true, Bool.true_and, Bool.and_false, Bool.false_and, decide_eq_true_eq, Nat.reduceAdd, Nat.reduceSub, Nat.zero_add, Function.comp_apply, abs_i, gcd_while (mu_w hw ha hb)]
theorem gcd_le9 {p q : Int} (hq : q ≠ 0) (h : Bi 9000 q) : divOk ((Nat.gcd p.natAbs q.natAbs : Nat) : Int) = true ∧ divOk (0 - ((Nat.gcd p.natAbs q.natAbs : Nat) : Int)) = true := by
  have h0 : 0 < Nat.gcd p.natAbs q.natAbs := Nat.gcd_pos_of_pos_right _ (by omega)
  have h1 : Nat.gcd p.natAbs q.natAbs ≤ q.natAbs := Nat.le_of_dvd (by omega) (Nat.gcd_dvd_right _ _)
  have h2 : Bi 9000 ((Nat.gcd p.natAbs q.natAbs : Nat) : Int) := .nat (Nat.lt_of_le_of_lt h1 h)
  exact ⟨h2.divOk (by omega), Bi.divOk (by rw [Int.zero_sub]; exact h2.neg) (by omega)⟩
theorem fraction_sp (hw : 1000000 ≤ w) (h : prog[i]? = some ⟨2, false, 2, b_common_in⟩) (h2 : prog[j]? = some ⟨2, false, 3, b_fraction i⟩) {p q : Int} (hp : Bi 400000 p) (hq : Bi 9000 q) (h0 : q ≠ 0) : callI prog w (k + 2) j [.int p, .int q] S = .ok (fr (Rat.divInt p q)) S := by
  have e := common_in_sp (S := S) (k := k) hw h hp (hq.up (by decide))
  obtain ⟨d1, d2⟩ := gcd_le9 (p := p) h0 hq
  rw [callI_s h2 rfl]
  by_cases hn : q < 0
  · obtain ⟨f1, f2⟩ := frac_neg (p := p) hn
    simp only [b_fraction, qOpt, qRet, bnd_ok, bnd_exc, bnd_err, flow_nx, flow_rt, flow_bk, flow_ct, flow_exc, end_nx, end_rt, end_exc, e_var, g_0, g_s, e_cst, e_bin, e_neg, e_not, e_cmp, e_chain, e_and, e_or, e_ite, e_tup, e_lst, e_lstM, e_lstS, e_dct, e_idx, e_slc, e_rev, e_isi, e_fz, e_repM, fz_lst, fz_tup, fz_dct, m_dget, e_blt, e_call, e_mth, m_tindex, m_tcount, e_lc, l_nil, l_cons, l_star, t_nil, t_cons, o_no, o_so, i_seq, i_rng1, i_rng2, i_zip, i_enum, i_enumT, k_enumT, k_neg, k_int, k_seqT, k_seqL, k_seqF, k_starT, k_starL, k_zipT, k_zipL, k_zipM, k_zipM2, k_enum, k_rng, k_rng2, tr_bl, tr_int, tr_tup, tr_lst, s_nil, s_cons, x_expr, x_set, x_setT, x_par, x_setI, x_aug, x_cond, x_loop, x_while, x_ret, x_retN, x_pass, x_brk, x_cont, x_run, b_lenT, b_lenL, b_lenF, b_tupT, b_tupL, b_lstT, b_lstL, b_allL, b_anyL, b_sumL, b_sumT, b_abs, b_max, b_min, b_intI, b_intB, q_ii, q_ss, mapR_some, andR_ite, orR_ite, unpK, parK, augK, setIK, setTg, setAll, wipe, blt, blt0, seqOf, lstOf, cop, bop, intOp, isiD, tyOf, atP, place, Option.map_some, Option.map_none, Option.bind_some, Option.bind_none, eq_self, reduceCtorEq, Int.reduceLE, Int.reduceLT, Int.reduceNeg, Int.reduceEq, Int.reduceToNat, Int.reduceAdd, Int.reduceSub, Nat.reduceLeDiff, reduceIte,  List.flatten_cons, List.flatten_nil, List.length_map, List.map_cons, List.map_nil, List.length_cons, List.length_nil, List.replicate_succ, List.replicate_zero, List.cons_append, List.nil_append, List.append_nil, List.set_cons_zero, List.set_cons_succ, Bool.not_true, Bool.not_false, if_true, if_false, ite_true, ite_false, Bool.false_eq_true, decide_true, decide_false, Bool.or_true, Bool.true_or, Bool.or_false, Bool.false_or, Bool.and_true, Bool.true_and, Bool.and_false, Bool.false_and, decide_eq_true_eq, Nat.reduceAdd, Nat.reduceSub, Nat.zero_add, Function.comp_apply, e, decide_eq_true hn, d2, f1, f2]
    rfl
  · obtain ⟨f1, f2⟩ := frac_pos (p := p) (q := q) (by omega)
    simp only [b_fraction, qOpt, qRet, bnd_ok, bnd_exc, bnd_err, flow_nx, flow_rt, flow_bk, flow_ct, flow_exc, end_nx, end_rt, end_exc, e_var, g_0, g_s, e_cst, e_bin, e_neg, e_not, e_cmp, e_chain, e_and, e_or, e_ite, e_tup, e_lst, e_lstM, e_lstS, e_dct, e_idx, e_slc, e_rev, e_isi, e_fz, e_repM, fz_lst, fz_tup, fz_dct, m_dget, e_blt, e_call, e_mth, m_tindex, m_tcount, e_lc, l_nil, l_cons, l_star, t_nil, t_cons, o_no, o_so, i_seq, i_rng1, i_rng2, i_zip, i_enum, i_enumT, k_enumT, k_neg, k_int, k_seqT, k_seqL, k_seqF, k_starT, k_starL, k_zipT, k_zipL, k_zipM, k_zipM2, k_enum, k_rng, k_rng2, tr_bl, tr_int, tr_tup, tr_lst, s_nil, s_cons, x_expr, x_set, x_setT, x_par, x_setI, x_aug, x_cond, x_loop, x_while, x_ret, x_retN, x_pass, x_brk, x_cont, x_run, b_lenT, b_lenL, b_lenF, b_tupT, b_tupL, b_lstT, b_lstL, b_allL, b_anyL, b_sumL, b_sumT, b_abs, b_max, b_min, b_intI, b_intB, q_ii, q_ss, mapR_some, andR_ite, orR_ite, unpK, parK, augK, setIK, setTg, setAll, wipe, blt, blt0, seqOf, lstOf, cop, bop, intOp, isiD, tyOf, atP, place, Option.map_some, Option.map_none, Option.bind_some, Option.bind_none, eq_self, reduceCtorEq, Int.reduceLE, Int.reduceLT, Int.reduceNeg, Int.reduceEq, Int.reduceToNat, Int.reduceAdd, Int.reduceSub, Nat.reduceLeDiff, reduceIte,  List.flatten_cons, List.flatten_nil, List.length_map, List.map_cons, List.map_nil, List.length_cons, List.length_nil, List.replicate_succ, List.replicate_zero, List.cons_append, List.nil_append, List.append_nil, List.set_cons_zero, List.set_cons_succ, Bool.not_true, Bool.not_false, if_true, if_false, ite_true, ite_false, Bool.false_eq_true, decide_true, decide_false, Bool.or_true, Bool.true_or, Bool.or_false, Bool.false_or, Bool.and_true, Bool.true_and, Bool.and_false, Bool.false_and, decide_eq_true_eq, Nat.reduceAdd, Nat.reduceSub, Nat.zero_add, Function.comp_apply, e, decide_eq_false hn, d1, f1, f2]
    rfl
theorem lowest_sp (hw : 1000000 ≤ w) (h : prog[i]? = some ⟨2, false, 2, b_common⟩) (h2 : prog[j]? = some ⟨2, false, 3, b_lowest i⟩) {p q : Int} (hp : Bi 400000 p) (hq : Bi 9000 q) (h0 : q ≠ 0) : callI prog w (k + 2) j [.int p, .int q] S = .ok (fr (Rat.divInt p q)) S := by
  have e := common_sp (S := S) (k := k) hw h (a := p.natAbs) (b := q.natAbs) hp (hq.up (N := 400000) (by decide))
  obtain ⟨d1, d2⟩ := gcd_le9 (p := p) h0 hq
  rw [callI_s h2 rfl]
  by_cases hn : q < 0
  · obtain ⟨f1, f2⟩ := frac_neg (p := p) hn
    simp only [b_lowest, qOpt, qRet, bnd_ok, bnd_exc, bnd_err, flow_nx, flow_rt, flow_bk, flow_ct, flow_exc, end_nx, end_rt, end_exc, e_var, g_0, g_s, e_cst, e_bin, e_neg, e_not, e_cmp, e_chain, e_and, e_or, e_ite, e_tup, e_lst, e_lstM, e_lstS, e_dct, e_idx, e_slc, e_rev, e_isi, e_fz, e_repM, fz_lst, fz_tup, fz_dct, m_dget, e_blt, e_call, e_mth, m_tindex, m_tcount, e_lc, l_nil, l_cons, l_star, t_nil, t_cons, o_no, o_so, i_seq, i_rng1, i_rng2, i_zip, i_enum, i_enumT, k_enumT, k_neg, k_int, k_seqT, k_seqL, k_seqF, k_starT, k_starL, k_zipT, k_zipL, k_zipM, k_zipM2, k_enum, k_rng, k_rng2, tr_bl, tr_int, tr_tup, tr_lst, s_nil, s_cons, x_expr, x_set, x_setT, x_par, x_setI, x_aug, x_cond, x_loop, x_while, x_ret, x_retN, x_pass, x_brk, x_cont, x_run, b_lenT, b_lenL, b_lenF, b_tupT, b_tupL, b_lstT, b_lstL, b_allL, b_anyL, b_sumL, b_sumT, b_abs, b_max, b_min, b_intI, b_intB, q_ii, q_ss, mapR_some, andR_ite, orR_ite, unpK, parK, augK, setIK, setTg, setAll, wipe, blt, blt0, seqOf, lstOf, cop, bop, intOp, isiD, tyOf, atP, place, Option.map_some, Option.map_none, Option.bind_some, Option.bind_none, eq_self, reduceCtorEq, Int.reduceLE, Int.reduceLT, Int.reduceNeg, Int.reduceEq, Int.reduceToNat, Int.reduceAdd, Int.reduceSub, Nat.reduceLeDiff, reduceIte,  List.flatten_cons, List.flatten_nil, List.length_map, List.map_cons, List.map_nil, List.length_cons, List.length_nil, List.replicate_succ, List.replicate_zero, List.cons_append, List.nil_append, List.append_nil, List.set_cons_zero, List.set_cons_succ, Bool.not_true, Bool.not_false, if_true, if_false, ite_true, ite_false, Bool.false_eq_true, decide_true, decide_false, Bool.or_true, Bool.true_or, Bool.or_false, Bool.false_or, Bool.and_true, Bool.true_and, Bool.and_false, Bool.false_and, decide_eq_true_eq, Nat.reduceAdd, Nat.reduceSub, Nat.zero_add, Function.comp_apply, abs_i, e, decide_eq_true hn, d2, f1, f2]
    rfl
  · obtain ⟨f1, f2⟩ := frac_pos (p := p) (q := q) (by omega)
    simp only [b_lowest, qOpt, qRet, bnd_ok, bnd_exc, bnd_err, flow_nx, flow_rt, flow_bk, flow_ct, flow_exc, end_nx, end_rt, end_exc, e_var, g_0, g_s, e_cst, e_bin, e_neg, e_not, e_cmp, e_chain, e_and, e_or, e_ite, e_tup, e_lst, e_lstM, e_lstS, e_dct, e_idx, e_slc, e_rev, e_isi, e_fz, e_repM, fz_lst, fz_tup, fz_dct, m_dget, e_blt, e_call, e_mth, m_tindex, m_tcount, e_lc, l_nil, l_cons, l_star, t_nil, t_cons, o_no, o_so, i_seq, i_rng1, i_rng2, i_zip, i_enum, i_enumT, k_enumT, k_neg, k_int, k_seqT, k_seqL, k_seqF, k_starT, k_starL, k_zipT, k_zipL, k_zipM, k_zipM2, k_enum, k_rng, k_rng2, tr_bl, tr_int, tr_tup, tr_lst, s_nil, s_cons, x_expr, x_set, x_setT, x_par, x_setI, x_aug, x_cond, x_loop, x_while, x_ret, x_retN, x_pass, x_brk, x_cont, x_run, b_lenT, b_lenL, b_lenF, b_tupT, b_tupL, b_lstT, b_lstL, b_allL, b_anyL, b_sumL, b_sumT, b_abs, b_max, b_min, b_intI, b_intB, q_ii, q_ss, mapR_some, andR_ite, orR_ite, unpK, parK, augK, setIK, setTg, setAll, wipe, blt, blt0, seqOf, lstOf, cop, bop, intOp, isiD, tyOf, atP, place, Option.map_some, Option.map_none, Option.bind_some, Option.bind_none, eq_self, reduceCtorEq, Int.reduceLE, Int.reduceLT, Int.reduceNeg, Int.reduceEq, Int.reduceToNat, Int.reduceAdd, Int.reduceSub, Nat.reduceLeDiff, reduceIte,  List.flatten_cons, List.flatten_nil, List.length_map, List.map_cons, List.map_nil, List.length_cons, List.length_nil, List.replicate_succ, List.replicate_zero, List.cons_append, List.nil_append, List.append_nil, List.set_cons_zero, List.set_cons_succ, Bool.not_true, Bool.not_false, if_true, if_false, ite_true, ite_false, Bool.false_eq_true, decide_true, decide_false, Bool.or_true, Bool.true_or, Bool.or_false, Bool.false_or, Bool.and_true, Bool.true_and, Bool.and_false, Bool.false_and, decide_eq_true_eq, Nat.reduceAdd, Nat.reduceSub, Nat.zero_add, Function.comp_apply, abs_i, e, decide_eq_false hn, d1, f1, f2]
    rfl
theorem rat_add (x y : Rat) : Rat.divInt (x.num * y.den + y.num * x.den) ((x.den : Int) * y.den) = x + y := by
  rw [Rat.add_def', ← Rat.divInt_ofNat, Int.natCast_mul]
theorem rat_mul (x y : Rat) : Rat.divInt (x.num * y.num) ((x.den : Int) * y.den) = x * y := by
  rw [Rat.mul_def', ← Rat.divInt_ofNat, Int.natCast_mul]
theorem den0 (x : Rat) : (x.den : Int) ≠ 0 := by have := x.den_nz; omega
theorem den00 (x y : Rat) : (x.den : Int) * y.den ≠ 0 := Int.mul_ne_zero (den0 x) (den0 y)
theorem fr0 {x : Rat} : idxD S (fr x) (.int 0) = some (.int x.num) := id rfl
theorem fr1 {x : Rat} : idxD S (fr x) (.int 1) = some (.int x.den) := id rfl
theorem plus_sp (hf : ∀ (p q : Int), Bi 400000 p → Bi 9000 q → q ≠ 0 → callI prog w (k + 2) i [.int p, .int q] S = .ok (fr (Rat.divInt p q)) S) (h2 : prog[j]? = some ⟨2, false, 2, b_plus i⟩) {x y : Rat} (hx : Fb 4000 x) (hy : Fb 4000 y) :
    callI prog w (k + 3) j [fr x, fr y] S = .ok (fr (x + y)) S := by
  have e := hf (x.num * y.den + y.num * x.den) ((x.den : Int) * y.den) (((hx.n.mul hy.d).add (hy.n.mul hx.d)).up (by decide)) ((hx.d.mul hy.d).up (by decide)) (den00 x y)
  rw [rat_add] at e
  have m1 := Bi.mulOk (hx.n.up (by decide)) (hy.d.up (by decide))
  have m2 := Bi.mulOk (hy.n.up (by decide)) (hx.d.up (by decide))
  have m3 := Bi.mulOk (hx.d.up (by decide)) (hy.d.up (by decide))
  rw [callI_s h2 rfl]
  simp only [b_plus, qOpt, qRet, bnd_ok, bnd_exc, bnd_err, flow_nx, flow_rt, flow_bk, flow_ct, flow_exc, end_nx, end_rt, end_exc, e_var, g_0, g_s, e_cst, e_bin, e_neg, e_not, e_cmp, e_chain, e_and, e_or, e_ite, e_tup, e_lst, e_lstM, e_lstS, e_dct, e_idx, e_slc, e_rev, e_isi, e_fz, e_repM, fz_lst, fz_tup, fz_dct, m_dget, e_blt, e_call, e_mth, m_tindex, m_tcount, e_lc, l_nil, l_cons, l_star, t_nil, t_cons, o_no, o_so, i_seq, i_rng1, i_rng2, i_zip, i_enum, i_enumT, k_enumT, k_neg, k_int, k_seqT, k_seqL, k_seqF, k_starT, k_starL, k_zipT, k_zipL, k_zipM, k_zipM2, k_enum, k_rng, k_rng2, tr_bl, tr_int, tr_tup, tr_lst, s_nil, s_cons, x_expr, x_set, x_setT, x_par, x_setI, x_aug, x_cond, x_loop, x_while, x_ret, x_retN, x_pass, x_brk, x_cont, x_run, b_lenT, b_lenL, b_lenF, b_tupT, b_tupL, b_lstT, b_lstL, b_allL, b_anyL, b_sumL, b_sumT, b_abs, b_max, b_min, b_intI, b_intB, q_ii, q_ss, mapR_some, andR_ite, orR_ite, unpK, parK, augK, setIK, setTg, setAll, wipe, blt, blt0, seqOf, lstOf, cop, bop, intOp, isiD, tyOf, atP, place, Option.map_some, Option.map_none, Option.bind_some, Option.bind_none, eq_self, reduceCtorEq, Int.reduceLE, Int.reduceLT, Int.reduceNeg, Int.reduceEq, Int.reduceToNat, Int.reduceAdd, Int.reduceSub, Nat.reduceLeDiff, reduceIte,  List.flatten_cons, List.flatten_nil, List.length_map, List.map_cons, List.map_nil, List.length_cons, List.length_nil, List.replicate_succ, List.replicate_zero, List.cons_append, List.nil_append, List.append_nil, List.set_cons_zero, List.set_cons_succ, Bool.not_true, Bool.not_false, if_true, if_false, ite_true, ite_false, Bool.false_eq_true, decide_true, decide_false, Bool.or_true, Bool.true_or, Bool.or_false, Bool.false_or, Bool.and_true, Bool.true_and, Bool.and_false, Bool.false_and, decide_eq_true_eq, Nat.reduceAdd, Nat.reduceSub, Nat.zero_add, Function.comp_apply, fr0, fr1, m1, m2, m3, e]
theorem times_sp (hf : ∀ (p q : Int), Bi 400000 p → Bi 9000 q → q ≠ 0 → callI prog w (k + 2) i [.int p, .int q] S = .ok (fr (Rat.divInt p q)) S) (h2 : prog[j]? = some ⟨2, false, 2, b_times i⟩) {x y : Rat} (hx : Fb 4000 x) (hy : Fb 4000 y) :
    callI prog w (k + 3) j [fr x, fr y] S = .ok (fr (x * y)) S := by
  have e := hf (x.num * y.num) ((x.den : Int) * y.den) ((hx.n.mul hy.n).up (by decide)) ((hx.d.mul hy.d).up (by decide)) (den00 x y)
  rw [rat_mul] at e
  have m1 := Bi.mulOk (hx.n.up (by decide)) (hy.n.up (by decide))
  have m3 := Bi.mulOk (hx.d.up (by decide)) (hy.d.up (by decide))
  rw [callI_s h2 rfl]
  simp only [b_times, qOpt, qRet, bnd_ok, bnd_exc, bnd_err, flow_nx, flow_rt, flow_bk, flow_ct, flow_exc, end_nx, end_rt, end_exc, e_var, g_0, g_s, e_cst, e_bin, e_neg, e_not, e_cmp, e_chain, e_and, e_or, e_ite, e_tup, e_lst, e_lstM, e_lstS, e_dct, e_idx, e_slc, e_rev, e_isi, e_fz, e_repM, fz_lst, fz_tup, fz_dct, m_dget, e_blt, e_call, e_mth, m_tindex, m_tcount, e_lc, l_nil, l_cons, l_star, t_nil, t_cons, o_no, o_so, i_seq, i_rng1, i_rng2, i_zip, i_enum, i_enumT, k_enumT, k_neg, k_int, k_seqT, k_seqL, k_seqF, k_starT, k_starL, k_zipT, k_zipL, k_zipM, k_zipM2, k_enum, k_rng, k_rng2, tr_bl, tr_int, tr_tup, tr_lst, s_nil, s_cons, x_expr, x_set, x_setT, x_par, x_setI, x_aug, x_cond, x_loop, x_while, x_ret, x_retN, x_pass, x_brk, x_cont, x_run, b_lenT, b_lenL, b_lenF, b_tupT, b_tupL, b_lstT, b_lstL, b_allL, b_anyL, b_sumL, b_sumT, b_abs, b_max, b_min, b_intI, b_intB, q_ii, q_ss, mapR_some, andR_ite, orR_ite, unpK, parK, augK, setIK, setTg, setAll, wipe, blt, blt0, seqOf, lstOf, cop, bop, intOp, isiD, tyOf, atP, place, Option.map_some, Option.map_none, Option.bind_some, Option.bind_none, eq_self, reduceCtorEq, Int.reduceLE, Int.reduceLT, Int.reduceNeg, Int.reduceEq, Int.reduceToNat, Int.reduceAdd, Int.reduceSub, Nat.reduceLeDiff, reduceIte,  List.flatten_cons, List.flatten_nil, List.length_map, List.map_cons, List.map_nil, List.length_cons, List.length_nil, List.replicate_succ, List.replicate_zero, List.cons_append, List.nil_append, List.append_nil, List.set_cons_zero, List.set_cons_succ, Bool.not_true, Bool.not_false, if_true, if_false, ite_true, ite_false, Bool.false_eq_true, decide_true, decide_false, Bool.or_true, Bool.true_or, Bool.or_false, Bool.false_or, Bool.and_true, Bool.true_and, Bool.and_false, Bool.false_and, decide_eq_true_eq, Nat.reduceAdd, Nat.reduceSub, Nat.zero_add, Function.comp_apply, fr0, fr1, m1, m3, e]
theorem div_bd {p q : Int} {M N : Nat} (h : Bi M p) (h2 : Bi N q) (h0 : q ≠ 0) : Bi M (Rat.divInt p q).num ∧ Bi N ((Rat.divInt p q).den : Int) := by
  rw [Rat.num_divInt, Rat.den_divInt, if_neg h0]
  refine ⟨?_, ?_⟩
  · unfold Bi at *
    refine Nat.lt_of_le_of_lt ?_ h
    have e : (q.sign * p).natAbs = p.natAbs := by rw [Int.natAbs_mul, Int.natAbs_sign_of_ne_zero h0, Nat.one_mul]
    rw [← e]
    have g : (0 : Int) ≤ (q.gcd p : Int) := by omega
    have dv : (q.gcd p : Int) ∣ q.sign * p := Int.dvd_mul_of_dvd_right (Int.gcd_dvd_right ..)
    rw [Int.natAbs_ediv_of_dvd dv]
    exact Nat.div_le_self _ _
  · unfold Bi at *
    rw [Int.natAbs_natCast]
    exact Nat.lt_of_le_of_lt (Nat.div_le_self _ _) h2
theorem Fb.add {M N : Nat} {x y : Rat} (hx : Fb M x) (hy : Fb N y) : Fb (M + N + 1) (x + y) := by
  rw [← rat_add]
  have := div_bd ((hx.n.mul hy.d).add (hy.n.mul hx.d)) (hx.d.mul hy.d) (den00 x y)
  exact ⟨this.1.up (by omega), this.2.up (by omega)⟩
theorem Fb.mul {M N : Nat} {x y : Rat} (hx : Fb M x) (hy : Fb N y) : Fb (M + N) (x * y) := by
  rw [← rat_mul]
  have := div_bd (hx.n.mul hy.n) (hx.d.mul hy.d) (den00 x y)
  exact ⟨this.1, this.2⟩
theorem Fb.int {N : Nat} {x : Int} (h : Bi N x) (hN : 0 < N) : Fb N (x : Rat) := ⟨h, by
  show (1 : Int).natAbs < 2 ^ N
  exact Nat.one_lt_two_pow (by omega)⟩
theorem Fb.zero {N : Nat} (hN : 0 < N) : Fb N 0 := ⟨Nat.two_pow_pos N, by
  show (1 : Int).natAbs < 2 ^ N
  exact Nat.one_lt_two_pow (by omega)⟩
theorem fr_inj {x y : Rat} (h : fr x = fr y) : x = y := by
  unfold fr at h
  simp only [D.tup.injEq, List.cons.injEq, D.int.injEq, and_true] at h
  exact Rat.ext h.1 (by omega)
end
end Ln

set_option linter.all false
set_option maxRecDepth 10000
set_option exponentiation.threshold 10000
/-! Values of many kinds. -/
namespace Ln
open PySem (PyData Str)
/-- the stream at n was drawn from, all else stands -/
structure Kp (n : Nat) (S S' : Store) : Prop where
  s : Strm n S'
  l : S'.length = S.length
  o : ∀ m, m ≠ n → S'[m]? = S[m]?
theorem Kp.refl {n : Nat} {S : Store} (h : Strm n S) : Kp n S S := ⟨h, rfl, fun _ _ => rfl⟩
theorem Kp.trans {n : Nat} {S S1 S2 : Store} (a : Kp n S S1) (b : Kp n S1 S2) : Kp n S S2 := ⟨b.s, b.l.trans a.l, fun m h => (b.o m h).trans (a.o m h)⟩
/-- data without what can change: ints of N bits, ascii texts, at most K deep -/
inductive Dt (dc : Bool) (N : Nat) : Nat → D → Prop
  | non {k : Nat} : Dt dc N k .non
  | bl {k : Nat} (b : Bool) : Dt dc N k (.bl b)
  | int {k : Nat} {i : Int} : Bi N i → Dt dc N k (.int i)
  | str {k : Nat} {x : Str} : x.length ≤ 3000 + N → (∀ c ∈ x.cps.toList, c < 128) → Dt dc N k (.str x)
  | tup {k : Nat} {xs : List D} : xs.length ≤ 1000 + N → (∀ x ∈ xs, Dt dc N k x) → Dt dc N (k + 1) (.tup xs)
  | lst {k : Nat} {xs : List D} : xs.length ≤ 1000 + N → (∀ x ∈ xs, Dt dc N k x) → Dt dc N (k + 1) (.lst xs)
  | dct {k : Nat} : dc = true → Dt dc N (k + 1) (.dct [] [])
theorem Dt.up {dc : Bool} {M N : Nat} (h : M ≤ N) {k : Nat} {d : D} (r : Dt dc M k d) : Dt dc N k d := by
  induction r with
  | non => exact .non
  | bl b => exact .bl b
  | int hi => exact .int (hi.up h)
  | str h1 h2 => exact .str (by omega) h2
  | tup h1 _ ih => exact .tup (by omega) ih
  | lst h1 _ ih => exact .lst (by omega) ih
  | dct h => exact .dct h
theorem Dt.loose {dc : Bool} {N k : Nat} {d : D} (r : Dt dc N k d) : Dt true N k d := by
  induction r with
  | non => exact .non
  | bl b => exact .bl b
  | int hi => exact .int hi
  | str h1 h2 => exact .str h1 h2
  | tup h1 _ ih => exact .tup h1 ih
  | lst h1 _ ih => exact .lst h1 ih
  | dct h => exact .dct rfl
theorem Dt.deep {dc : Bool} {N k : Nat} {d : D} (r : Dt dc N k d) : ∀ {k' : Nat}, k ≤ k' → Dt dc N k' d := by
  induction r with
  | non => exact fun _ => .non
  | bl b => exact fun _ => .bl b
  | int hi => exact fun _ => .int hi
  | str h1 h2 => exact fun _ => .str h1 h2
  | tup h1 _ ih => intro k' h; obtain ⟨j, rfl⟩ : ∃ j, k' = j + 1 := ⟨k' - 1, by omega⟩; exact .tup h1 fun x hx => ih x hx (by omega)
  | lst h1 _ ih => intro k' h; obtain ⟨j, rfl⟩ : ∃ j, k' = j + 1 := ⟨k' - 1, by omega⟩; exact .lst h1 fun x hx => ih x hx (by omega)
  | dct hd => intro k' h; obtain ⟨j, rfl⟩ : ∃ j, k' = j + 1 := ⟨k' - 1, by omega⟩; exact .dct hd
theorem Dt.int' {dc : Bool} {N k : Nat} {i : Int} (h : i.natAbs < 2 ^ 60) (hN : 60 ≤ N) : Dt dc N k (.int i) := .int (Bi.small N h hN)
theorem asc_ok {x : Str} (h : ∀ c ∈ x.cps.toList, c < 128) : PyData.strOk x = true := by
  unfold PyData.strOk
  rw [← Array.all_toList, List.all_eq_true]
  intro c hc
  have := h c hc
  simp; omega
theorem mapM_ex {k : Nat} : ∀ {xs : List D}, (∀ x ∈ xs, ∃ p : PyData, (∀ S j, k ≤ j → toP S j x = some p) ∧ p.canLay0 = true ∧ p.depth ≤ k) → ∃ ps : List PyData, (∀ S j, k ≤ j → xs.mapM (toP S j) = some ps) ∧ PyData.canLayAll0 ps = true ∧ PyData.depthAll ps ≤ k ∧ ps.length = xs.length
  | [], _ => ⟨[], fun _ _ _ => rfl, rfl, Nat.zero_le _, rfl⟩
  | x :: xs, h => by
    obtain ⟨p, h1, h2, h3⟩ := h x List.mem_cons_self
    obtain ⟨ps, g1, g2, g3, g4⟩ := mapM_ex fun y hy => h y (List.mem_cons_of_mem _ hy)
    refine ⟨p :: ps, fun S j hj => by rw [List.mapM_cons, h1 S j hj, g1 S j hj]; rfl, by simp [PyData.canLayAll0, h2, g2], by simp only [PyData.depthAll]; omega, by simp [g4]⟩
theorem Dt.toP {N k : Nat} {d : D} (r : Dt false N k d) : ∃ p : PyData, (∀ S j, k ≤ j → toP S j d = some p) ∧ p.canLay0 = true ∧ p.depth ≤ k := by
  induction r with
  | non => exact ⟨.none, fun S j _ => by cases j <;> rfl, rfl, Nat.zero_le _⟩
  | bl b => exact ⟨.bool b, fun S j _ => by cases j <;> rfl, rfl, Nat.zero_le _⟩
  | @int k i hi => exact ⟨.int i, fun S j _ => by cases j <;> rfl, rfl, Nat.zero_le _⟩
  | @str k x h1 h2 => exact ⟨.str x, fun S j _ => by cases j <;> rfl, by simpa [PyData.canLay0] using asc_ok h2, Nat.zero_le _⟩
  | @tup k xs h1 _ ih =>
    obtain ⟨ps, g1, g2, g3, g4⟩ := mapM_ex ih
    refine ⟨.tuple ps, fun S j hj => ?_, by simpa [PyData.canLay0] using g2, by simp only [PyData.depth]; omega⟩
    obtain ⟨i, rfl⟩ : ∃ i, j = i + 1 := ⟨j - 1, by omega⟩
    show (xs.mapM (Ln.toP S i)).map PyData.tuple = _
    rw [g1 S i (by omega)]; rfl
  | @lst k xs h1 _ ih =>
    obtain ⟨ps, g1, g2, g3, g4⟩ := mapM_ex ih
    refine ⟨.list ps, fun S j hj => ?_, by simpa [PyData.canLay0] using g2, by simp only [PyData.depth]; omega⟩
    obtain ⟨i, rfl⟩ : ∃ i, j = i + 1 := ⟨j - 1, by omega⟩
    show (xs.mapM (Ln.toP S i)).map PyData.list = _
    rw [g1 S i (by omega)]; rfl
  | dct h => cases h
theorem shaped_of {p : PyData} (h : p.canLay0 = true) (hd : p.depth ≤ 24) : PySem.SeqAt.shaped p = true := by
  simp [PySem.SeqAt.shaped, h]
  omega
/-- values of this kind are compared -/
theorem Dt.eqP {N k N' k' : Nat} {d e : D} (r : Dt false N k d) (r' : Dt false N' k' e) (hk : k ≤ 24) (hk' : k' ≤ 24) : ∃ p q : PyData, (∀ S j, k ≤ j → Ln.toP S j d = some p) ∧ (∀ S j, k' ≤ j → Ln.toP S j e = some q) ∧ ∀ S, eqP S d e = some (PyData.eqv p q) := by
  obtain ⟨p, h1, h2, h3⟩ := r.toP
  obtain ⟨q, g1, g2, g3⟩ := r'.toP
  refine ⟨p, q, h1, g1, fun S => ?_⟩
  unfold Ln.eqP dat
  rw [h1 S Ln.deep hk, g1 S Ln.deep hk']
  simp only [shaped_of h2 (by omega), shaped_of g2 (by omega), Bool.and_self, if_true]
theorem eq_nilT {N k : Nat} {xs : List D} {S : Store} (r : Dt false N k (.tup xs)) (hk : k ≤ 24) : eqD S (.tup xs) (.tup []) = some xs.isEmpty := by
  obtain ⟨p, q, h1, h2, h3⟩ := r.eqP (N' := 0) (k' := 1) (e := .tup []) (.tup (Nat.zero_le _) fun _ h => nomatch h) hk (by decide)
  show Ln.eqP S _ _ = _
  rw [h3]
  have hq : q = .tuple [] := by have := h2 [] 1 (Nat.le_refl _); cases this; rfl
  subst hq
  cases r with
  | tup hl hx =>
    rename_i k
    have e := h1 [] (k + 1) (Nat.le_refl _)
    simp only [Ln.toP, Option.map_eq_some_iff] at e
    obtain ⟨ps, e, rfl⟩ := e
    cases xs with
    | nil => cases e; rfl
    | cons x xs =>
      rw [List.mapM_cons] at e
      cases ps with
      | nil => 
        exfalso
        cases h : Ln.toP [] k x with
        | none => rw [h] at e; cases e
        | some y => cases h' : xs.mapM (Ln.toP [] k) with
          | none => rw [h, h'] at e; cases e
          | some ys => rw [h, h'] at e; cases e
      | cons => simp [PyData.eqv, PyData.eqvAll]
def b_odd (p : Nat) : Sms :=
  (.cons (.set 1 (.lst (.cons (.cst .non) (.cons (.cst (.bl true)) (.cons (.cst (.bl false)) (.cons (.neg (.cst (.int 1))) (.cons (.cst (.int 0)) (.cons (.cst (.int 1)) (.cons (.cst (.int 7)) (.cons (.bin .pow (.cst (.int 10)) (.cst (.int 39))) (.cons (.cst (.str "")) (.cons (.cst (.str "a")) (.cons (.cst (.str "b")) (.cons (.cst (.str "A")) (.cons (.tup .nil) (.cons (.lst .nil) (.cons (.dct .nil .nil) (.cons (.tup (.cons (.cst (.int 0)) .nil)) (.cons (.tup (.cons (.cst (.str "a")) .nil)) (.cons (.lst (.cons (.cst (.int 0)) .nil)) (.cons (.tup (.cons (.tup .nil) .nil)) (.cons (.cst (.str "a b")) .nil))))))))))))))))))))))
  (.cons (.ret (.call p (.cons (.var 0) (.cons (.var 1) .nil))))
  .nil))
def b_bent2 (dr p od : Nat) : Sms :=
  (.cons (.cond (.isi (.var 1) .tuple)
  (.cons (.set 3 (.call dr (.cons (.var 0) (.cons (.bin .add (.blt .len (.cons (.var 1) .nil)) (.cst (.int 1))) .nil))))
  (.cons (.set 4 (.lst (.cons (.blt .list (.cons (.var 1) .nil)) (.cons (.bin .add (.slc (.var 1) .no (.so (.var 3))) (.slc (.var 1) (.so (.bin .add (.var 3) (.cst (.int 1)))) .no)) (.cons (.bin .add (.bin .add (.slc (.var 1) .no (.so (.var 3))) (.tup (.cons (.cst (.int 0)) .nil))) (.slc (.var 1) (.so (.var 3)) .no)) (.cons (.rev (.var 1)) .nil))))))
  (.cons (.ret (.call p (.cons (.var 0) (.cons (.bin .add (.var 4) (.lst (.cons (.bin .add (.var 1) (.slc (.var 1) (.so (.neg (.cst (.int 1)))) .no)) (.cons (.tup (.cons (.var 1) .nil)) (.cons (.tup .nil) (.cons (.bin .add (.bin .add (.slc (.var 1) .no (.so (.var 3))) (.slc (.var 1) .no (.so (.cst (.int 1))))) (.slc (.var 1) (.so (.var 3)) .no)) .nil)))))) .nil))))
  .nil))) .nil)
  (.cons (.cond (.and (.isi (.var 1) .int) (.not (.isi (.var 1) .bool)))
  (.cons (.ret (.call p (.cons (.var 0) (.cons (.lst (.cons (.bin .add (.var 1) (.cst (.int 1))) (.cons (.bin .sub (.var 1) (.cst (.int 1))) (.cons (.bin .sub (.cst (.int 0)) (.var 1)) (.cons (.cmp .eq (.var 1) (.cst (.int 1))) (.cons (.blt .str (.cons (.var 1) .nil)) (.cons (.tup (.cons (.var 1) .nil)) (.cons (.bin .mul (.cst (.int 2)) (.var 1)) .nil)))))))) .nil))))
  .nil) .nil)
  (.cons (.cond (.isi (.var 1) .str)
  (.cons (.ret (.call p (.cons (.var 0) (.cons (.lst (.cons (.bin .add (.var 1) (.cst (.str "a"))) (.cons (.slc (.var 1) (.so (.cst (.int 1))) .no) (.cons (.cst (.str "place")) (.cons (.cst (.str "mixture")) (.cons (.cst (.str "a")) (.cons (.mth .upper (.var 1) .nil) (.cons (.tup (.cons (.var 1) .nil)) (.cons (.cst .non) .nil))))))))) .nil))))
  .nil) .nil)
  (.cons (.ret (.call od (.cons (.var 0) .nil)))
  .nil))))
def b_bent (dr p od se : Nat) : Sms :=
  (.cons (.cond (.and (.isi (.var 1) .tuple) (.and (.cmp .ne (.var 1) (.tup .nil)) (.and (.cmp .gt (.var 2) (.cst (.int 0))) (.cmp .gt (.call dr (.cons (.var 0) (.cons (.cst (.int 4)) .nil))) (.cst (.int 0))))))
  (.cons (.set 3 (.call dr (.cons (.var 0) (.cons (.blt .len (.cons (.var 1) .nil)) .nil))))
  (.cons (.ret (.bin .add (.bin .add (.slc (.var 1) .no (.so (.var 3))) (.tup (.cons (.call se (.cons (.var 0) (.cons (.idx (.var 1) (.var 3)) (.cons (.bin .sub (.var 2) (.cst (.int 1))) .nil)))) .nil))) (.slc (.var 1) (.so (.bin .add (.var 3) (.cst (.int 1)))) .no)))
  .nil)) .nil)
  (b_bent2 dr p od))
section
variable {prog : List Fn} {w k i j m l n : Nat} {S : Store}
theorem drawK (h : prog[i]? = some ⟨2, false, 5, b_draw⟩) (hs : Strm n S) {t : Nat} (h0 : 0 < t) (h1 : t < 2 ^ 1000) :
    ∃ (r : Nat) (S' : Store), callI prog w (k + 1) i [.ref n, .int t] S = .ok (.int r) S' ∧ r < t ∧ Kp n S S' := by
  obtain ⟨r, S', e, r0, r1, a, b, c⟩ := draw_sp (w := w) (k := k) h hs (t := (t : Int)) (by omega) (by
    rw [Int.natAbs_natCast]
    have := (Nat.log2_lt (by omega)).mpr h1
    omega)
  obtain ⟨q, rfl⟩ : ∃ q : Nat, r = q := ⟨r.toNat, by omega⟩
  exact ⟨q, S', e, by omega, a, b, c⟩
theorem pickK (h : prog[i]? = some ⟨2, false, 5, b_draw⟩) (h2 : prog[j]? = some ⟨2, false, 2, b_pick i⟩) (hs : Strm n S) {ds : List D} (h0 : ds ≠ []) (h1 : ds.length < 1000) :
    ∃ d S', callI prog w (k + 2) j [.ref n, .lst ds] S = .ok d S' ∧ d ∈ ds ∧ Kp n S S' := by
  obtain ⟨d, S', e, m, a, b, c⟩ := pick_sp (w := w) (k := k) h h2 hs h0 h1
  exact ⟨d, S', e, m, a, b, c⟩
theorem pickKT (h : prog[i]? = some ⟨2, false, 5, b_draw⟩) (h2 : prog[j]? = some ⟨2, false, 2, b_pick i⟩) (hs : Strm n S) {ds : List D} (h0 : ds ≠ []) (h1 : ds.length < 1000) :
    ∃ d S', callI prog w (k + 2) j [.ref n, .tup ds] S = .ok d S' ∧ d ∈ ds ∧ Kp n S S' := by
  obtain ⟨d, S', e, m, a, b, c⟩ := pickT_sp (w := w) (k := k) h h2 hs h0 h1
  exact ⟨d, S', e, m, a, b, c⟩
theorem odd_sp (h : prog[i]? = some ⟨2, false, 5, b_draw⟩) (h2 : prog[j]? = some ⟨2, false, 2, b_pick i⟩) (h3 : prog[m]? = some ⟨1, false, 2, b_odd j⟩) (hs : Strm n S) :
    ∃ d S', callI prog w (k + 3) m [.ref n] S = .ok d S' ∧ Dt true 200 2 d ∧ Kp n S S' := by
  have p1 : powOk 10 39 = true := by decide +kernel
  obtain ⟨d, S', e, hd, kp⟩ := pickK (w := w) (k := k) h h2 hs (ds := [.non, .bl true, .bl false, .int (-1), .int 0, .int 1, .int 7, .int (10 ^ (39 : Int).toNat), .str "", .str "a", .str "b", .str "A", .tup [], .lst [], .dct [] [], .tup [.int 0], .tup [.str "a"], .lst [.int 0], .tup [.tup []], .str "a b"]) (by simp) (by simp)
  refine ⟨d, S', ?_, ?_, kp⟩
  · rw [callI_s h3 rfl]
    simp only [b_odd, qOpt, qRet, bnd_ok, bnd_exc, bnd_err, flow_nx, flow_rt, flow_bk, flow_ct, flow_exc, end_nx, end_rt, end_exc, e_var, g_0, g_s, e_cst, e_bin, e_neg, e_not, e_cmp, e_chain, e_and, e_or, e_ite, e_tup, e_lst, e_lstM, e_lstS, e_dct, e_idx, e_slc, e_rev, e_isi, e_fz, e_repM, fz_lst, fz_tup, fz_dct, m_dget, e_blt, e_call, e_mth, m_tindex, m_tcount, e_lc, l_nil, l_cons, l_star, t_nil, t_cons, o_no, o_so, i_seq, i_rng1, i_rng2, i_zip, i_enum, i_enumT, k_enumT, k_neg, k_int, k_seqT, k_seqL, k_seqF, k_starT, k_starL, k_zipT, k_zipL, k_zipM, k_zipM2, k_enum, k_rng, k_rng2, tr_bl, tr_int, tr_tup, tr_lst, s_nil, s_cons, x_expr, x_set, x_setT, x_par, x_setI, x_aug, x_cond, x_loop, x_while, x_ret, x_retN, x_pass, x_brk, x_cont, x_run, b_lenT, b_lenL, b_lenF, b_tupT, b_tupL, b_lstT, b_lstL, b_allL, b_anyL, b_sumL, b_sumT, b_abs, b_max, b_min, b_intI, b_intB, q_ii, q_ss, mapR_some, andR_ite, orR_ite, unpK, parK, augK, setIK, setTg, setAll, wipe, blt, blt0, seqOf, lstOf, cop, bop, intOp, isiD, tyOf, atP, place, Option.map_some, Option.map_none, Option.bind_some, Option.bind_none, eq_self, reduceCtorEq, Int.reduceLE, Int.reduceLT, Int.reduceNeg, Int.reduceEq, Int.reduceToNat, Int.reduceAdd, Int.reduceSub, Nat.reduceLeDiff, reduceIte,  List.flatten_cons, List.flatten_nil, List.length_map, List.map_cons, List.map_nil, List.length_cons, List.length_nil, List.replicate_succ, List.replicate_zero, List.cons_append, List.nil_append, List.append_nil, List.set_cons_zero, List.set_cons_succ, Bool.not_true, Bool.not_false, if_true, if_false, ite_true, ite_false, Bool.false_eq_true, decide_true, decide_false, Bool.or_true, Bool.true_or, Bool.or_false, Bool.false_or, Bool.and_true, Bool.true_and, Bool.and_false, Bool.false_and, decide_eq_true_eq, Nat.reduceAdd, Nat.reduceSub, Nat.zero_add, Function.comp_apply, p1]
    simp only [Int.reduceToNat] at e
    rw [e]
    rfl
  · have g : ∀ x ∈ ([.non, .bl true, .bl false, .int (-1), .int 0, .int 1, .int 7, .int (10 ^ (39 : Int).toNat), .str "", .str "a", .str "b", .str "A", .tup [], .lst [], .dct [] [], .tup [.int 0], .tup [.str "a"], .lst [.int 0], .tup [.tup []], .str "a b"] : List D), Dt true 200 2 x := by
      have s : ∀ x : Str, x.length ≤ 3000 → (x.cps.toList.all (· < 128)) = true → ∀ k, Dt true 200 k (.str x) := fun x h1 h2 k => .str (by omega) fun c hc => by have := List.all_eq_true.mp h2 c hc; simpa using this
      have i : ∀ x : Int, x.natAbs < 2 ^ 200 → ∀ k, Dt true 200 k (.int x) := fun x h k => .int h
      intro x hx
      simp only [List.mem_cons, List.not_mem_nil, or_false] at hx
      have t0 : ∀ k, Dt true 200 (k + 1) (.tup []) := fun k => .tup (Nat.zero_le _) fun _ h => nomatch h
      have one : ∀ {P : D → Prop} {y : D}, P y → ∀ x ∈ [y], P x := fun h x hx => by rw [List.mem_singleton.mp hx]; exact h
      rcases hx with rfl | rfl | rfl | rfl | rfl | rfl | rfl | rfl | rfl | rfl | rfl | rfl | rfl | rfl | rfl | rfl | rfl | rfl | rfl | rfl
      · exact .non
      · exact .bl _
      · exact .bl _
      · exact i _ (by decide +kernel) _
      · exact i _ (by decide +kernel) _
      · exact i _ (by decide +kernel) _
      · exact i _ (by decide +kernel) _
      · exact i _ (by decide +kernel) _
      · exact s _ (by decide) (by decide +kernel) _
      · exact s _ (by decide) (by decide +kernel) _
      · exact s _ (by decide) (by decide +kernel) _
      · exact s _ (by decide) (by decide +kernel) _
      · exact t0 1
      · exact .lst (Nat.zero_le _) fun _ h => nomatch h
      · exact .dct rfl
      · exact .tup (by simp) (one (i _ (by decide +kernel) _))
      · exact .tup (by simp) (one (s _ (by decide) (by decide +kernel) _))
      · exact .lst (by simp) (one (i _ (by decide +kernel) _))
      · exact .tup (by simp) (one (t0 0))
      · exact s _ (by decide) (by decide +kernel) _
    exact g d hd
theorem cut_mem {α : Type} {xs : List α} {lo hi : Option Int} : ∀ x ∈ cut xs lo hi, x ∈ xs := fun x hx => List.drop_subset _ _ (List.take_subset _ _ hx)
theorem cut_len {α : Type} {xs : List α} {lo hi : Option Int} : (cut xs lo hi).length ≤ xs.length := by
  unfold cut
  rw [List.length_take, List.length_drop]
  omega
theorem bnd_nat {n d a : Nat} : bnd n d (some (a : Int)) = min a n := by
  show (if (a : Int) < 0 then ((a : Int) + n).toNat else min (a : Int).toNat n) = _
  rw [if_neg (by omega)]
  simp
theorem cut_to {α : Type} {xs : List α} {a : Nat} : cut xs none (some (a : Int)) = xs.take a := by
  unfold cut
  rw [bnd_nat, show bnd xs.length 0 none = 0 from rfl]
  simp only [List.drop_zero, Nat.sub_zero]
  rw [List.take_eq_take_iff]; omega
theorem cut_from {α : Type} {xs : List α} {a : Nat} : cut xs (some (a : Int)) none = xs.drop a := by
  unfold cut
  rw [bnd_nat, show bnd xs.length xs.length none = xs.length from rfl]
  rw [List.take_of_length_le (by rw [List.length_drop]; omega)]
  by_cases h : a ≤ xs.length
  · rw [Nat.min_eq_left h]
  · rw [List.drop_of_length_le (by omega), List.drop_of_length_le (by omega)]
theorem cut_from1 {α : Type} {xs : List α} {a : Nat} : cut xs (some ((a : Int) + 1)) none = xs.drop (a + 1) := cut_from (a := a + 1)
theorem cut_one {α : Type} {xs : List α} : cut xs none (some 1) = xs.take 1 := cut_to (a := 1)
theorem cut_tail {α : Type} {xs : List α} : cut xs (some 1) none = xs.drop 1 := cut_from (a := 1)
theorem cut_last {α : Type} {xs : List α} : cut xs (some (-1)) none = xs.drop (xs.length - 1) := by
  unfold cut bnd
  simp only [show (-1 : Int) < 0 by decide, if_true]
  rw [List.take_of_length_le (by rw [List.length_drop]; omega)]
  congr 1
  omega
theorem add_tt {a b : List D} (h : a.length + b.length ≤ 1000000) (S : Store) : bop .add (.tup a) (.tup b) S = some (.tup (a ++ b)) := by
  have : a.length + b.length ≤ line := lineB (by omega)
  simp only [bop, this, if_true]
theorem add_ll {a b : List D} (h : a.length + b.length ≤ 1000000) (S : Store) : bop .add (.lst a) (.lst b) S = some (.lst (a ++ b)) := by
  have : a.length + b.length ≤ line := lineB (by omega)
  simp only [bop, lstOf, this, if_true]
theorem add_ss {a b : Str} (h : a.length + b.length ≤ 1000000) (S : Store) : bop .add (.str a) (.str b) S = some (.str (a ++ b)) := by
  have : a.length + b.length ≤ line := lineB (by omega)
  simp only [bop, this, if_true]
theorem sl_t {xs : List D} {lo hi : Option Int} (S : Store) : slcD S (.tup xs) lo hi = some (.tup (cut xs lo hi)) := id rfl
theorem int_dt {i : Int} {N k : Nat} (h : Bi 1900 i) : Dt true N k (.str (toString i : String)) := by
  have h1 := PySem.int_text_length_le (a := i) (k := 1900) (by decide) (h.log (by decide))
  refine .str ?_ fun c hc => ?_
  · rw [PySem.ofString_length]; omega
  · rw [Str.ofString_eq_toList] at hc
    simp only [List.mem_map] at hc
    obtain ⟨ch, hch, rfl⟩ := hc
    exact PySem.int_ascii _ _ hch
theorem upper_asc {c : Nat} (h : c < 128) : ∀ e ∈ PySem.Unicode.upperOf c, e < 128 := by
  have : ((List.range 128).all fun c => (PySem.Unicode.upperOf c).all (· < 128)) = true := by decide +kernel
  have := List.all_eq_true.mp this c (List.mem_range.mpr h)
  intro e he
  have := List.all_eq_true.mp this e he
  simpa using this
/-- drawing one of some values that are data -/
theorem pickDt (h : prog[i]? = some ⟨2, false, 5, b_draw⟩) (h2 : prog[j]? = some ⟨2, false, 2, b_pick i⟩) (hs : Strm n S) {ds : List D} {P : D → Prop} (h0 : ds ≠ []) (h1 : ds.length < 1000) (hd : ∀ d ∈ ds, P d) :
    ∃ d S', callI prog w (k + 2) j [.ref n, .lst ds] S = .ok d S' ∧ P d ∧ Kp n S S' := by
  obtain ⟨d, S', e, hm, kp⟩ := pickK (w := w) (k := k) h h2 hs h0 h1
  exact ⟨d, S', e, hd d hm, kp⟩
theorem add_tt' {a b : List D} {S : Store} (h : a.length + b.length ≤ 1000000) : bop .add (.tup a) (.tup b) S = some (.tup (a ++ b)) := add_tt h S
theorem add_ll' {a b : List D} {S : Store} (h : a.length + b.length ≤ 1000000) : bop .add (.lst a) (.lst b) S = some (.lst (a ++ b)) := add_ll h S
theorem rv_t {xs : List D} : revD S (.tup xs) = some (.tup xs.reverse) := id rfl
theorem Dt.items {dc : Bool} {N K : Nat} {xs : List D} (h : Dt dc N (K + 1) (.tup xs)) : xs.length ≤ 1000 + N ∧ ∀ x ∈ xs, Dt dc N K x := by
  cases h with
  | tup h1 h2 => exact ⟨h1, h2⟩
theorem bent_t2 (h : prog[i]? = some ⟨2, false, 5, b_draw⟩) (h2 : prog[j]? = some ⟨2, false, 2, b_pick i⟩) (h3 : prog[m]? = some ⟨1, false, 2, b_odd j⟩) (hs : Strm n S) {K N : Nat} {xs : List D} {dp : D} (hv : Dt false N (K + 1) (.tup xs)) (hN : N ≤ 1800) :
    ∃ d S' ρ, execs (callI prog w (k + 3)) w (b_bent2 i j m) [some (.ref n), some (.tup xs), some dp, none, none] S = .ok (.rt d, ρ) S' ∧ Dt true (N + 1) (K + 2) d ∧ Kp n S S' := by
  obtain ⟨hl, hx⟩ := hv.items
  obtain ⟨a, S1, e1, ha, k1⟩ := drawK (w := w) (k := k + 2) h hs (t := xs.length + 1) (by omega) (by
    refine Nat.lt_of_lt_of_le (show xs.length + 1 < 2 ^ 12 by omega) (Nat.pow_le_pow_right (by decide) (by decide)))
  have up : ∀ x ∈ xs, Dt true (N + 1) (K + 1) x := fun x hx' => ((hx x hx').loose.up (by omega)).deep (by omega)
  have mk : ∀ ys : List D, ys.length ≤ 1001 + N → (∀ y ∈ ys, Dt true (N + 1) (K + 1) y) → Dt true (N + 1) (K + 2) (.tup ys) := fun ys h1 h2 => .tup (by omega) h2
  have ct : ∀ a, ∀ y ∈ xs.take a, Dt true (N + 1) (K + 1) y := fun a y hy => up y (List.take_subset _ _ hy)
  have cd : ∀ a, ∀ y ∈ xs.drop a, Dt true (N + 1) (K + 1) y := fun a y hy => up y (List.drop_subset _ _ hy)
  have i0 : Dt true (N + 1) (K + 1) (.int 0) := .int (by unfold Bi; exact Nat.two_pow_pos _)
  obtain ⟨d, S2, e2, hd, k2⟩ := pickDt (w := w) (k := k + 1) (P := Dt true (N + 1) (K + 2)) h h2 k1.s (ds := [.lst xs, .tup (xs.take a ++ xs.drop (a + 1)), .tup (xs.take a ++ [.int 0] ++ xs.drop a), .tup xs.reverse,
    .tup (xs ++ xs.drop (xs.length - 1)), .tup [.tup xs], .tup [], .tup (xs.take a ++ xs.take 1 ++ xs.drop a)]) (by simp) (by simp) (by
      intro y hy
      simp only [List.mem_cons, List.not_mem_nil, or_false] at hy
      rcases hy with rfl | rfl | rfl | rfl | rfl | rfl | rfl | rfl
      · exact .lst (by omega) up
      · exact mk _ (by simp only [List.length_append, List.length_take, List.length_drop]; omega) fun y hy => (List.mem_append.mp hy).elim (ct _ y) (cd _ y)
      · exact mk _ (by simp only [List.length_append, List.length_take, List.length_drop, List.length_cons, List.length_nil]; omega) fun y hy => by
          simp only [List.mem_append, List.mem_singleton] at hy
          rcases hy with (hy | rfl) | hy
          · exact ct _ y hy
          · exact i0
          · exact cd _ y hy
      · exact mk _ (by rw [List.length_reverse]; omega) fun y hy => up y (List.mem_reverse.mp hy)
      · exact mk _ (by simp only [List.length_append, List.length_drop]; omega) fun y hy => (List.mem_append.mp hy).elim (up y) (cd _ y)
      · exact mk _ (by simp; omega) fun y hy => by rw [List.mem_singleton.mp hy]; exact .tup (by omega) fun x hx' => (hx x hx').loose.up (by omega)
      · exact mk _ (by simp) fun y hy => nomatch hy
      · exact mk _ (by simp only [List.length_append, List.length_take, List.length_drop]; omega) fun y hy => by
          simp only [List.mem_append] at hy
          rcases hy with (hy | hy) | hy
          · exact ct _ y hy
          · exact ct _ y hy
          · exact cd _ y hy)
  have e1' : callI prog w (k + 3) i [.ref n, .int ((xs.length : Int) + 1)] S = .ok (.int a) S1 := e1
  have e2' : callI prog w (k + 3) j [.ref n, .lst [.lst xs, .tup (xs.take a ++ xs.drop (a + 1)), .tup (xs.take a ++ D.int 0 :: xs.drop a), .tup xs.reverse, .tup (xs ++ xs.drop (xs.length - 1)), .tup [.tup xs], .tup [], .tup (xs.take a ++ (xs.take 1 ++ xs.drop a))]] S1 = .ok d S2 := by
    rw [← e2]; simp only [List.append_assoc, List.cons_append, List.nil_append]
  refine ⟨d, S2, [some (.ref n), some (.tup xs), some dp, some (.int a), some (.lst [.lst xs, .tup (xs.take a ++ xs.drop (a + 1)), .tup (xs.take a ++ D.int 0 :: xs.drop a), .tup xs.reverse])], ?_, hd, k1.trans k2⟩
  simp (disch := (try simp only [List.length_append, List.length_cons, List.length_nil, List.length_take, List.length_drop]); omega) only [b_bent2, qOpt, qRet, bnd_ok, bnd_exc, bnd_err, flow_nx, flow_rt, flow_bk, flow_ct, flow_exc, end_nx, end_rt, end_exc, e_var, g_0, g_s, e_cst, e_bin, e_neg, e_not, e_cmp, e_chain, e_and, e_or, e_ite, e_tup, e_lst, e_lstM, e_lstS, e_dct, e_idx, e_slc, e_rev, e_isi, e_fz, e_repM, fz_lst, fz_tup, fz_dct, m_dget, e_blt, e_call, e_mth, m_tindex, m_tcount, e_lc, l_nil, l_cons, l_star, t_nil, t_cons, o_no, o_so, i_seq, i_rng1, i_rng2, i_zip, i_enum, i_enumT, k_enumT, k_neg, k_int, k_seqT, k_seqL, k_seqF, k_starT, k_starL, k_zipT, k_zipL, k_zipM, k_zipM2, k_enum, k_rng, k_rng2, tr_bl, tr_int, tr_tup, tr_lst, s_nil, s_cons, x_expr, x_set, x_setT, x_par, x_setI, x_aug, x_cond, x_loop, x_while, x_ret, x_retN, x_pass, x_brk, x_cont, x_run, b_lenT, b_lenL, b_lenF, b_tupT, b_tupL, b_lstT, b_lstL, b_allL, b_anyL, b_sumL, b_sumT, b_abs, b_max, b_min, b_intI, b_intB, q_ii, q_ss, mapR_some, andR_ite, orR_ite, unpK, parK, augK, setIK, setTg, setAll, wipe, blt, blt0, seqOf, lstOf, cop, isiD, tyOf, atP, place, Option.map_some, Option.map_none, Option.bind_some, Option.bind_none, eq_self, reduceCtorEq, Int.reduceLE, Int.reduceLT, Int.reduceNeg, Int.reduceEq, Int.reduceToNat, Int.reduceAdd, Int.reduceSub, Nat.reduceLeDiff, reduceIte,  List.flatten_cons, List.flatten_nil, List.length_map, List.map_cons, List.map_nil, List.length_cons, List.length_nil, List.replicate_succ, List.replicate_zero, List.cons_append, List.nil_append, List.append_nil, List.set_cons_zero, List.set_cons_succ, Bool.not_true, Bool.not_false, if_true, if_false, ite_true, ite_false, Bool.false_eq_true, decide_true, decide_false, Bool.or_true, Bool.true_or, Bool.or_false, Bool.false_or, Bool.and_true, Bool.true_and, Bool.and_false, Bool.false_and, decide_eq_true_eq, Nat.reduceAdd, Nat.reduceSub, Nat.zero_add, Function.comp_apply, bop_ii, ii_add, e1', sl_t, rv_t, add_tt', add_ll', cut_to, cut_from, cut_from1, cut_one, cut_last, List.append_assoc, e2']
theorem upper_toList (x : Str) : (PySem.Txt.upper x).cps.toList = x.cps.toList.flatMap PySem.Unicode.upperOf := by
  have e : (PySem.Txt.upper x).cps = (x.cps.map fun c => (PySem.Unicode.upperOf c).toArray).flatten := by
    show (x.cps.mapIdx fun _ c => (PySem.Unicode.upperOf c).toArray).flatten = _
    congr 1
    apply Array.ext
    · simp
    · intro i h1 h2; simp
  rw [e]
  simp [Array.toList_flatten, List.flatMap_def, List.map_map, Function.comp_def]
theorem upper_dt {x : Str} {N k : Nat} (h1 : x.length ≤ 3000 + N) (h2 : ∀ c ∈ x.cps.toList, c < 128) : Dt true N k (.str (PySem.Txt.upper x)) := by
  have one : ((List.range 128).all fun c => decide ((PySem.Unicode.upperOf c).length = 1)) = true := by decide +kernel
  have one : ∀ c < 128, (PySem.Unicode.upperOf c).length = 1 := fun c hc => of_decide_eq_true (List.all_eq_true.mp one c (List.mem_range.mpr hc))
  refine .str ?_ fun c hc => ?_
  · refine Nat.le_trans (Nat.le_of_eq ?_) h1
    have e : (PySem.Txt.upper x).length = (PySem.Txt.upper x).cps.toList.length := rfl
    rw [e, upper_toList, show x.length = x.cps.toList.length from rfl]
    generalize x.cps.toList = l at h2
    induction l with
    | nil => rfl
    | cons a l ih =>
      rw [List.flatMap_cons, List.length_append, List.length_cons, one a (h2 a List.mem_cons_self), ih fun c hc => h2 c (List.mem_cons_of_mem _ hc)]
      omega
  · rw [upper_toList, List.mem_flatMap] at hc
    obtain ⟨a, ha, hc⟩ := hc
    exact upper_asc (h2 a ha) c hc
theorem str_dt {N k : Nat} (x : Str) (h1 : x.length ≤ 3000 := by decide) (h2 : (x.cps.toList.all (· < 128)) = true := by decide +kernel) : Dt true N k (.str x) := .str (by omega) fun c hc => by have := List.all_eq_true.mp h2 c hc; simpa using this
theorem bent_sp (h : prog[i]? = some ⟨2, false, 5, b_draw⟩) (h2 : prog[j]? = some ⟨2, false, 2, b_pick i⟩) (h3 : prog[m]? = some ⟨1, false, 2, b_odd j⟩) (h4 : prog[l]? = some ⟨3, false, 5, b_bent i j m l⟩) :
    ∀ (dp : Nat) {S : Store} {v : D} {K N : Nat}, Dt false N K v → 200 ≤ N → N ≤ 1800 → K ≤ 20 → Strm n S → ∃ d S', callI prog w (k + dp + 4) l [.ref n, v, .int dp] S = .ok d S' ∧ Dt true (N + 1) (K + 2) d ∧ Kp n S S' := by
  intro dp
  -- what is no tuple
  have rest : ∀ {k : Nat} {S : Store} {v dp : D} {K N : Nat}, Dt false N K v → (∀ xs, v ≠ .tup xs) → 200 ≤ N → N ≤ 1800 → Strm n S → ∃ d S', callI prog w (k + 4) l [.ref n, v, dp] S = .ok d S' ∧ Dt true (N + 1) (K + 2) d ∧ Kp n S S' := by
    intro k S v dp K N hv hn hN hN' hs
    have odd : ∃ d S', callI prog w (k + 3) m [.ref n] S = .ok d S' ∧ Dt true (N + 1) (K + 2) d ∧ Kp n S S' := by
      obtain ⟨d, S', e, hd, kp⟩ := odd_sp (w := w) (k := k) h h2 h3 hs
      exact ⟨d, S', e, (hd.up (by omega)).deep (by omega), kp⟩
    rw [callI_s h4 rfl]
    cases hv with
    | tup => exact absurd rfl (hn _)
    | dct hd => cases hd
    | non =>
      obtain ⟨d, S', e, hd, kp⟩ := odd
      exact ⟨d, S', by simp only [b_bent, b_bent2, qOpt, qRet, bnd_ok, bnd_exc, bnd_err, flow_nx, flow_rt, flow_bk, flow_ct, flow_exc, end_nx, end_rt, end_exc, e_var, g_0, g_s, e_cst, e_bin, e_neg, e_not, e_cmp, e_chain, e_and, e_or, e_ite, e_tup, e_lst, e_lstM, e_lstS, e_dct, e_idx, e_slc, e_rev, e_isi, e_fz, e_repM, fz_lst, fz_tup, fz_dct, m_dget, e_blt, e_call, e_mth, m_tindex, m_tcount, e_lc, l_nil, l_cons, l_star, t_nil, t_cons, o_no, o_so, i_seq, i_rng1, i_rng2, i_zip, i_enum, i_enumT, k_enumT, k_neg, k_int, k_seqT, k_seqL, k_seqF, k_starT, k_starL, k_zipT, k_zipL, k_zipM, k_zipM2, k_enum, k_rng, k_rng2, tr_bl, tr_int, tr_tup, tr_lst, s_nil, s_cons, x_expr, x_set, x_setT, x_par, x_setI, x_aug, x_cond, x_loop, x_while, x_ret, x_retN, x_pass, x_brk, x_cont, x_run, b_lenT, b_lenL, b_lenF, b_tupT, b_tupL, b_lstT, b_lstL, b_allL, b_anyL, b_sumL, b_sumT, b_abs, b_max, b_min, b_intI, b_intB, q_ii, q_ss, mapR_some, andR_ite, orR_ite, unpK, parK, augK, setIK, setTg, setAll, wipe, blt, blt0, seqOf, lstOf, cop, bop, intOp, isiD, tyOf, atP, place, Option.map_some, Option.map_none, Option.bind_some, Option.bind_none, eq_self, reduceCtorEq, Int.reduceLE, Int.reduceLT, Int.reduceNeg, Int.reduceEq, Int.reduceToNat, Int.reduceAdd, Int.reduceSub, Nat.reduceLeDiff, reduceIte,  List.flatten_cons, List.flatten_nil, List.length_map, List.map_cons, List.map_nil, List.length_cons, List.length_nil, List.replicate_succ, List.replicate_zero, List.cons_append, List.nil_append, List.append_nil, List.set_cons_zero, List.set_cons_succ, Bool.not_true, Bool.not_false, if_true, if_false, ite_true, ite_false, Bool.false_eq_true, decide_true, decide_false, Bool.or_true, Bool.true_or, Bool.or_false, Bool.false_or, Bool.and_true, Bool.true_and, Bool.and_false, Bool.false_and, decide_eq_true_eq, Nat.reduceAdd, Nat.reduceSub, Nat.zero_add, Function.comp_apply, e], hd, kp⟩
    | bl b =>
      obtain ⟨d, S', e, hd, kp⟩ := odd
      exact ⟨d, S', by simp only [b_bent, b_bent2, qOpt, qRet, bnd_ok, bnd_exc, bnd_err, flow_nx, flow_rt, flow_bk, flow_ct, flow_exc, end_nx, end_rt, end_exc, e_var, g_0, g_s, e_cst, e_bin, e_neg, e_not, e_cmp, e_chain, e_and, e_or, e_ite, e_tup, e_lst, e_lstM, e_lstS, e_dct, e_idx, e_slc, e_rev, e_isi, e_fz, e_repM, fz_lst, fz_tup, fz_dct, m_dget, e_blt, e_call, e_mth, m_tindex, m_tcount, e_lc, l_nil, l_cons, l_star, t_nil, t_cons, o_no, o_so, i_seq, i_rng1, i_rng2, i_zip, i_enum, i_enumT, k_enumT, k_neg, k_int, k_seqT, k_seqL, k_seqF, k_starT, k_starL, k_zipT, k_zipL, k_zipM, k_zipM2, k_enum, k_rng, k_rng2, tr_bl, tr_int, tr_tup, tr_lst, s_nil, s_cons, x_expr, x_set, x_setT, x_par, x_setI, x_aug, x_cond, x_loop, x_while, x_ret, x_retN, x_pass, x_brk, x_cont, x_run, b_lenT, b_lenL, b_lenF, b_tupT, b_tupL, b_lstT, b_lstL, b_allL, b_anyL, b_sumL, b_sumT, b_abs, b_max, b_min, b_intI, b_intB, q_ii, q_ss, mapR_some, andR_ite, orR_ite, unpK, parK, augK, setIK, setTg, setAll, wipe, blt, blt0, seqOf, lstOf, cop, bop, intOp, isiD, tyOf, atP, place, Option.map_some, Option.map_none, Option.bind_some, Option.bind_none, eq_self, reduceCtorEq, Int.reduceLE, Int.reduceLT, Int.reduceNeg, Int.reduceEq, Int.reduceToNat, Int.reduceAdd, Int.reduceSub, Nat.reduceLeDiff, reduceIte,  List.flatten_cons, List.flatten_nil, List.length_map, List.map_cons, List.map_nil, List.length_cons, List.length_nil, List.replicate_succ, List.replicate_zero, List.cons_append, List.nil_append, List.append_nil, List.set_cons_zero, List.set_cons_succ, Bool.not_true, Bool.not_false, if_true, if_false, ite_true, ite_false, Bool.false_eq_true, decide_true, decide_false, Bool.or_true, Bool.true_or, Bool.or_false, Bool.false_or, Bool.and_true, Bool.true_and, Bool.and_false, Bool.false_and, decide_eq_true_eq, Nat.reduceAdd, Nat.reduceSub, Nat.zero_add, Function.comp_apply, e], hd, kp⟩
    | lst h1 h2 =>
      obtain ⟨d, S', e, hd, kp⟩ := odd
      exact ⟨d, S', by simp only [b_bent, b_bent2, qOpt, qRet, bnd_ok, bnd_exc, bnd_err, flow_nx, flow_rt, flow_bk, flow_ct, flow_exc, end_nx, end_rt, end_exc, e_var, g_0, g_s, e_cst, e_bin, e_neg, e_not, e_cmp, e_chain, e_and, e_or, e_ite, e_tup, e_lst, e_lstM, e_lstS, e_dct, e_idx, e_slc, e_rev, e_isi, e_fz, e_repM, fz_lst, fz_tup, fz_dct, m_dget, e_blt, e_call, e_mth, m_tindex, m_tcount, e_lc, l_nil, l_cons, l_star, t_nil, t_cons, o_no, o_so, i_seq, i_rng1, i_rng2, i_zip, i_enum, i_enumT, k_enumT, k_neg, k_int, k_seqT, k_seqL, k_seqF, k_starT, k_starL, k_zipT, k_zipL, k_zipM, k_zipM2, k_enum, k_rng, k_rng2, tr_bl, tr_int, tr_tup, tr_lst, s_nil, s_cons, x_expr, x_set, x_setT, x_par, x_setI, x_aug, x_cond, x_loop, x_while, x_ret, x_retN, x_pass, x_brk, x_cont, x_run, b_lenT, b_lenL, b_lenF, b_tupT, b_tupL, b_lstT, b_lstL, b_allL, b_anyL, b_sumL, b_sumT, b_abs, b_max, b_min, b_intI, b_intB, q_ii, q_ss, mapR_some, andR_ite, orR_ite, unpK, parK, augK, setIK, setTg, setAll, wipe, blt, blt0, seqOf, lstOf, cop, bop, intOp, isiD, tyOf, atP, place, Option.map_some, Option.map_none, Option.bind_some, Option.bind_none, eq_self, reduceCtorEq, Int.reduceLE, Int.reduceLT, Int.reduceNeg, Int.reduceEq, Int.reduceToNat, Int.reduceAdd, Int.reduceSub, Nat.reduceLeDiff, reduceIte,  List.flatten_cons, List.flatten_nil, List.length_map, List.map_cons, List.map_nil, List.length_cons, List.length_nil, List.replicate_succ, List.replicate_zero, List.cons_append, List.nil_append, List.append_nil, List.set_cons_zero, List.set_cons_succ, Bool.not_true, Bool.not_false, if_true, if_false, ite_true, ite_false, Bool.false_eq_true, decide_true, decide_false, Bool.or_true, Bool.true_or, Bool.or_false, Bool.false_or, Bool.and_true, Bool.true_and, Bool.and_false, Bool.false_and, decide_eq_true_eq, Nat.reduceAdd, Nat.reduceSub, Nat.zero_add, Function.comp_apply, e], hd, kp⟩
    | @int _ x hx =>
      have p : Bi (N + 1) (x + 1) := (hx.add (Bi.small (x := 1) N (by decide) (by omega))).up (by omega)
      have q : Bi (N + 1) (x - 1) := (hx.sub (Bi.small (x := 1) N (by decide) (by omega))).up (by omega)
      have o : Bi (N + 1) (0 - x) := (Bi.sub (Bi.small (x := 0) N (by decide) (by omega)) hx).up (by omega)
      have r : Bi (N + 1) (2 * x) := by unfold Bi at *; rw [Int.natAbs_mul, Nat.pow_succ, show Int.natAbs 2 = 2 from rfl]; omega
      obtain ⟨d, S', e, hd, kp⟩ := pickDt (w := w) (k := k + 1) (P := Dt true (N + 1) (K + 2)) h h2 hs (ds := [.int (x + 1), .int (x - 1), .int (0 - x), .bl (decide (x = 1)), .str (toString x : String), .tup [.int x], .int (2 * x)]) (by simp) (by simp) (by
        intro y hy
        simp only [List.mem_cons, List.not_mem_nil, or_false] at hy
        rcases hy with rfl | rfl | rfl | rfl | rfl | rfl | rfl
        · exact .int p
        · exact .int q
        · exact .int o
        · exact .bl _
        · exact int_dt (hx.up (by omega))
        · exact .tup (by simp; omega) fun y hy => by rw [List.mem_singleton.mp hy]; exact .int (hx.up (by omega))
        · exact .int r)
      have lg : x.natAbs.log2 < 1920 := (hx.up (N := 1920) (by omega)).log (by decide)
      have m2 : mulOk 2 x = true := mulOk_l (by decide) (by decide)
      exact ⟨d, S', by simp only [b_bent, b_bent2, qOpt, qRet, bnd_ok, bnd_exc, bnd_err, flow_nx, flow_rt, flow_bk, flow_ct, flow_exc, end_nx, end_rt, end_exc, e_var, g_0, g_s, e_cst, e_bin, e_neg, e_not, e_cmp, e_chain, e_and, e_or, e_ite, e_tup, e_lst, e_lstM, e_lstS, e_dct, e_idx, e_slc, e_rev, e_isi, e_fz, e_repM, fz_lst, fz_tup, fz_dct, m_dget, e_blt, e_call, e_mth, m_tindex, m_tcount, e_lc, l_nil, l_cons, l_star, t_nil, t_cons, o_no, o_so, i_seq, i_rng1, i_rng2, i_zip, i_enum, i_enumT, k_enumT, k_neg, k_int, k_seqT, k_seqL, k_seqF, k_starT, k_starL, k_zipT, k_zipL, k_zipM, k_zipM2, k_enum, k_rng, k_rng2, tr_bl, tr_int, tr_tup, tr_lst, s_nil, s_cons, x_expr, x_set, x_setT, x_par, x_setI, x_aug, x_cond, x_loop, x_while, x_ret, x_retN, x_pass, x_brk, x_cont, x_run, b_lenT, b_lenL, b_lenF, b_tupT, b_tupL, b_lstT, b_lstL, b_allL, b_anyL, b_sumL, b_sumT, b_abs, b_max, b_min, b_intI, b_intB, q_ii, q_ss, mapR_some, andR_ite, orR_ite, unpK, parK, augK, setIK, setTg, setAll, wipe, blt, blt0, seqOf, lstOf, cop, bop, intOp, isiD, tyOf, atP, place, Option.map_some, Option.map_none, Option.bind_some, Option.bind_none, eq_self, reduceCtorEq, Int.reduceLE, Int.reduceLT, Int.reduceNeg, Int.reduceEq, Int.reduceToNat, Int.reduceAdd, Int.reduceSub, Nat.reduceLeDiff, reduceIte,  List.flatten_cons, List.flatten_nil, List.length_map, List.map_cons, List.map_nil, List.length_cons, List.length_nil, List.replicate_succ, List.replicate_zero, List.cons_append, List.nil_append, List.append_nil, List.set_cons_zero, List.set_cons_succ, Bool.not_true, Bool.not_false, if_true, if_false, ite_true, ite_false, Bool.false_eq_true, decide_true, decide_false, Bool.or_true, Bool.true_or, Bool.or_false, Bool.false_or, Bool.and_true, Bool.true_and, Bool.and_false, Bool.false_and, decide_eq_true_eq, Nat.reduceAdd, Nat.reduceSub, Nat.zero_add, Function.comp_apply, strF, lg, m2, e], hd, kp⟩
    | @str _ x hx1 hx2 =>
      have s1 : (x ++ ("a" : Str)).length = x.length + 1 := PySem.strLen_append _ _
      obtain ⟨d, S', e, hd, kp⟩ := pickDt (w := w) (k := k + 1) (P := Dt true (N + 1) (K + 2)) h h2 hs (ds := [.str (x ++ ("a" : Str)), .str ⟨(cut x.cps.toList (some 1) none).toArray⟩, .str "place", .str "mixture", .str "a", .str (PySem.Txt.upper x), .tup [.str x], .non]) (by simp) (by simp) (by
        intro y hy
        simp only [List.mem_cons, List.not_mem_nil, or_false] at hy
        rcases hy with rfl | rfl | rfl | rfl | rfl | rfl | rfl | rfl
        · refine .str (by rw [s1]; omega) fun c hc => ?_
          have e : (x ++ ("a" : Str)).cps.toList = x.cps.toList ++ [97] := by
            show (x.cps ++ (("a" : Str)).cps).toList = _
            rw [Array.toList_append]; rfl
          rw [e] at hc
          rcases List.mem_append.mp hc with hc | hc
          · exact hx2 c hc
          · rw [List.mem_singleton.mp hc]; decide
        · refine .str ?_ fun c hc => hx2 c (cut_mem c hc)
          have := cut_len (xs := x.cps.toList) (lo := some 1) (hi := none)
          show (cut x.cps.toList (some 1) none).toArray.size ≤ _
          rw [List.size_toArray]
          have : x.length = x.cps.toList.length := rfl
          omega
        · exact str_dt _
        · exact str_dt _
        · exact str_dt _
        · exact upper_dt (by omega) hx2
        · exact .tup (by simp; omega) fun y hy => by rw [List.mem_singleton.mp hy]; exact .str (by omega) hx2
        · exact .non)
      have l1 : x.length + Str.length "a" ≤ line := lineB (by have : Str.length "a" = 1 := rfl; omega)
      have l2 : x.length ≤ line := lineB (by omega)
      have l3 : x.length ≤ 5592405 := by omega
      have mu : mthOk .upper (.str x) S = some () := rfl
      exact ⟨d, S', by simp only [b_bent, b_bent2, qOpt, qRet, bnd_ok, bnd_exc, bnd_err, flow_nx, flow_rt, flow_bk, flow_ct, flow_exc, end_nx, end_rt, end_exc, e_var, g_0, g_s, e_cst, e_bin, e_neg, e_not, e_cmp, e_chain, e_and, e_or, e_ite, e_tup, e_lst, e_lstM, e_lstS, e_dct, e_idx, e_slc, e_rev, e_isi, e_fz, e_repM, fz_lst, fz_tup, fz_dct, m_dget, e_blt, e_call, e_mth, m_tindex, m_tcount, e_lc, l_nil, l_cons, l_star, t_nil, t_cons, o_no, o_so, i_seq, i_rng1, i_rng2, i_zip, i_enum, i_enumT, k_enumT, k_neg, k_int, k_seqT, k_seqL, k_seqF, k_starT, k_starL, k_zipT, k_zipL, k_zipM, k_zipM2, k_enum, k_rng, k_rng2, tr_bl, tr_int, tr_tup, tr_lst, s_nil, s_cons, x_expr, x_set, x_setT, x_par, x_setI, x_aug, x_cond, x_loop, x_while, x_ret, x_retN, x_pass, x_brk, x_cont, x_run, b_lenT, b_lenL, b_lenF, b_tupT, b_tupL, b_lstT, b_lstL, b_allL, b_anyL, b_sumL, b_sumT, b_abs, b_max, b_min, b_intI, b_intB, q_ii, q_ss, mapR_some, andR_ite, orR_ite, unpK, parK, augK, setIK, setTg, setAll, wipe, blt, blt0, seqOf, lstOf, cop, bop, intOp, isiD, tyOf, atP, place, Option.map_some, Option.map_none, Option.bind_some, Option.bind_none, eq_self, reduceCtorEq, Int.reduceLE, Int.reduceLT, Int.reduceNeg, Int.reduceEq, Int.reduceToNat, Int.reduceAdd, Int.reduceSub, Nat.reduceLeDiff, reduceIte,  List.flatten_cons, List.flatten_nil, List.length_map, List.map_cons, List.map_nil, List.length_cons, List.length_nil, List.replicate_succ, List.replicate_zero, List.cons_append, List.nil_append, List.append_nil, List.set_cons_zero, List.set_cons_succ, Bool.not_true, Bool.not_false, if_true, if_false, ite_true, ite_false, Bool.false_eq_true, decide_true, decide_false, Bool.or_true, Bool.true_or, Bool.or_false, Bool.false_or, Bool.and_true, Bool.true_and, Bool.and_false, Bool.false_and, decide_eq_true_eq, Nat.reduceAdd, Nat.reduceSub, Nat.zero_add, Function.comp_apply, upperF, slcD, mu, l1, l2, l3, e], hd, kp⟩
  have tl : ∀ {k : Nat} {S : Store} {xs : List D} {dp : D} {K N : Nat}, Dt false N (K + 1) (.tup xs) → N ≤ 1800 → Strm n S → ∃ d S' ρ, execs (callI prog w (k + 3)) w (b_bent2 i j m) [some (.ref n), some (.tup xs), some dp, none, none] S = .ok (.rt d, ρ) S' ∧ Dt true (N + 1) (K + 2) d ∧ Kp n S S' :=
    fun hv hN' hs => bent_t2 h h2 h3 hs hv hN'
  have nil : ∀ {S : Store} {v : D} {K N : Nat}, Dt false N K v → K ≤ 20 → ∀ xs, v = .tup xs → eqD S (.tup xs) (.tup []) = some xs.isEmpty := fun hv hK xs e => by subst e; exact eq_nilT hv (by omega)
  induction dp with
  | zero =>
    intro S v K N hv hN hN' hK hs
    by_cases ht : ∀ xs, v ≠ .tup xs
    · exact rest hv ht hN hN' hs
    · simp only [ne_eq, Classical.not_forall, Classical.not_not] at ht
      obtain ⟨xs, rfl⟩ := ht
      have q := nil (S := S) hv hK xs rfl
      obtain ⟨K, rfl⟩ : ∃ j, K = j + 1 := by cases hv; exact ⟨_, rfl⟩
      obtain ⟨d, S', ρ, e, hd, kp⟩ := tl (k := k) (dp := .int (0 : Nat)) hv hN' hs
      refine ⟨d, S', ?_, hd.deep (by omega), kp⟩
      rw [callI_s h4 rfl]
      cases he : xs.isEmpty <;> simp only [b_bent, qOpt, qRet, bnd_ok, bnd_exc, bnd_err, flow_nx, flow_rt, flow_bk, flow_ct, flow_exc, end_nx, end_rt, end_exc, e_var, g_0, g_s, e_cst, e_bin, e_neg, e_not, e_cmp, e_chain, e_and, e_or, e_ite, e_tup, e_lst, e_lstM, e_lstS, e_dct, e_idx, e_slc, e_rev, e_isi, e_fz, e_repM, fz_lst, fz_tup, fz_dct, m_dget, e_blt, e_call, e_mth, m_tindex, m_tcount, e_lc, l_nil, l_cons, l_star, t_nil, t_cons, o_no, o_so, i_seq, i_rng1, i_rng2, i_zip, i_enum, i_enumT, k_enumT, k_neg, k_int, k_seqT, k_seqL, k_seqF, k_starT, k_starL, k_zipT, k_zipL, k_zipM, k_zipM2, k_enum, k_rng, k_rng2, tr_bl, tr_int, tr_tup, tr_lst, s_nil, s_cons, x_expr, x_set, x_setT, x_par, x_setI, x_aug, x_cond, x_loop, x_while, x_ret, x_retN, x_pass, x_brk, x_cont, x_run, b_lenT, b_lenL, b_lenF, b_tupT, b_tupL, b_lstT, b_lstL, b_allL, b_anyL, b_sumL, b_sumT, b_abs, b_max, b_min, b_intI, b_intB, q_ii, q_ss, mapR_some, andR_ite, orR_ite, unpK, parK, augK, setIK, setTg, setAll, wipe, blt, blt0, seqOf, lstOf, cop, bop, intOp, isiD, tyOf, atP, place, Option.map_some, Option.map_none, Option.bind_some, Option.bind_none, eq_self, reduceCtorEq, Int.reduceLE, Int.reduceLT, Int.reduceNeg, Int.reduceEq, Int.reduceToNat, Int.reduceAdd, Int.reduceSub, Nat.reduceLeDiff, reduceIte,  List.flatten_cons, List.flatten_nil, List.length_map, List.map_cons, List.map_nil, List.length_cons, List.length_nil, List.replicate_succ, List.replicate_zero, List.cons_append, List.nil_append, List.append_nil, List.set_cons_zero, List.set_cons_succ, Bool.not_true, Bool.not_false, if_true, if_false, ite_true, ite_false, Bool.false_eq_true, decide_true, decide_false, Bool.or_true, Bool.true_or, Bool.or_false, Bool.false_or, Bool.and_true, Bool.true_and, Bool.and_false, Bool.false_and, decide_eq_true_eq, Nat.reduceAdd, Nat.reduceSub, Nat.zero_add, Function.comp_apply, q, he, Int.natCast_zero, Int.lt_irrefl, Int.cast_ofNat_Int] <;> simp only [Int.cast_ofNat_Int, Int.natCast_zero] at e <;> rw [e] <;> rfl
  | succ dp ih =>
    intro S v K N hv hN hN' hK hs
    by_cases ht : ∀ xs, v ≠ .tup xs
    · exact rest hv ht hN hN' hs
    · simp only [ne_eq, Classical.not_forall, Classical.not_not] at ht
      obtain ⟨xs, rfl⟩ := ht
      have q := nil (S := S) hv hK xs rfl
      obtain ⟨K, rfl⟩ : ∃ j, K = j + 1 := by cases hv; exact ⟨_, rfl⟩
      obtain ⟨hl, hx⟩ := hv.items
      rw [callI_s h4 rfl]
      have pos : decide ((0 : Int) < ((dp : Int) + 1)) = true := decide_eq_true (by omega)
      by_cases he : xs = []
      · obtain ⟨d, S', ρ, e, hd, kp⟩ := tl (k := k + (dp + 1)) (dp := .int ((dp + 1 : Nat) : Int)) hv hN' hs
        refine ⟨d, S', ?_, hd.deep (by omega), kp⟩
        have q' : xs.isEmpty = true := by rw [he]; rfl
        simp only [b_bent, qOpt, qRet, bnd_ok, bnd_exc, bnd_err, flow_nx, flow_rt, flow_bk, flow_ct, flow_exc, end_nx, end_rt, end_exc, e_var, g_0, g_s, e_cst, e_bin, e_neg, e_not, e_cmp, e_chain, e_and, e_or, e_ite, e_tup, e_lst, e_lstM, e_lstS, e_dct, e_idx, e_slc, e_rev, e_isi, e_fz, e_repM, fz_lst, fz_tup, fz_dct, m_dget, e_blt, e_call, e_mth, m_tindex, m_tcount, e_lc, l_nil, l_cons, l_star, t_nil, t_cons, o_no, o_so, i_seq, i_rng1, i_rng2, i_zip, i_enum, i_enumT, k_enumT, k_neg, k_int, k_seqT, k_seqL, k_seqF, k_starT, k_starL, k_zipT, k_zipL, k_zipM, k_zipM2, k_enum, k_rng, k_rng2, tr_bl, tr_int, tr_tup, tr_lst, s_nil, s_cons, x_expr, x_set, x_setT, x_par, x_setI, x_aug, x_cond, x_loop, x_while, x_ret, x_retN, x_pass, x_brk, x_cont, x_run, b_lenT, b_lenL, b_lenF, b_tupT, b_tupL, b_lstT, b_lstL, b_allL, b_anyL, b_sumL, b_sumT, b_abs, b_max, b_min, b_intI, b_intB, q_ii, q_ss, mapR_some, andR_ite, orR_ite, unpK, parK, augK, setIK, setTg, setAll, wipe, blt, blt0, seqOf, lstOf, cop, bop, intOp, isiD, tyOf, atP, place, Option.map_some, Option.map_none, Option.bind_some, Option.bind_none, eq_self, reduceCtorEq, Int.reduceLE, Int.reduceLT, Int.reduceNeg, Int.reduceEq, Int.reduceToNat, Int.reduceAdd, Int.reduceSub, Nat.reduceLeDiff, reduceIte,  List.flatten_cons, List.flatten_nil, List.length_map, List.map_cons, List.map_nil, List.length_cons, List.length_nil, List.replicate_succ, List.replicate_zero, List.cons_append, List.nil_append, List.append_nil, List.set_cons_zero, List.set_cons_succ, Bool.not_true, Bool.not_false, if_true, if_false, ite_true, ite_false, Bool.false_eq_true, decide_true, decide_false, Bool.or_true, Bool.true_or, Bool.or_false, Bool.false_or, Bool.and_true, Bool.true_and, Bool.and_false, Bool.false_and, decide_eq_true_eq, Nat.reduceAdd, Nat.reduceSub, Nat.zero_add, Function.comp_apply, q, q']
        rw [e]; rfl
      · have q' : xs.isEmpty = false := by cases xs with | nil => exact absurd rfl he | cons => rfl
        obtain ⟨r, S1, e1, hr, k1⟩ := drawK (w := w) (k := k + dp + 3) h hs (t := 4) (by decide) (by decide)
        have e1' : callI prog w (k + (dp + 1) + 3) i [.ref n, .int 4] S = .ok (.int r) S1 := e1
        by_cases h0 : r = 0
        · obtain ⟨d, S', ρ, e, hd, kp⟩ := tl (k := k + (dp + 1)) (dp := .int ((dp + 1 : Nat) : Int)) hv hN' k1.s
          refine ⟨d, S', ?_, hd.deep (by omega), k1.trans kp⟩
          subst h0
          simp only [b_bent, qOpt, qRet, bnd_ok, bnd_exc, bnd_err, flow_nx, flow_rt, flow_bk, flow_ct, flow_exc, end_nx, end_rt, end_exc, e_var, g_0, g_s, e_cst, e_bin, e_neg, e_not, e_cmp, e_chain, e_and, e_or, e_ite, e_tup, e_lst, e_lstM, e_lstS, e_dct, e_idx, e_slc, e_rev, e_isi, e_fz, e_repM, fz_lst, fz_tup, fz_dct, m_dget, e_blt, e_call, e_mth, m_tindex, m_tcount, e_lc, l_nil, l_cons, l_star, t_nil, t_cons, o_no, o_so, i_seq, i_rng1, i_rng2, i_zip, i_enum, i_enumT, k_enumT, k_neg, k_int, k_seqT, k_seqL, k_seqF, k_starT, k_starL, k_zipT, k_zipL, k_zipM, k_zipM2, k_enum, k_rng, k_rng2, tr_bl, tr_int, tr_tup, tr_lst, s_nil, s_cons, x_expr, x_set, x_setT, x_par, x_setI, x_aug, x_cond, x_loop, x_while, x_ret, x_retN, x_pass, x_brk, x_cont, x_run, b_lenT, b_lenL, b_lenF, b_tupT, b_tupL, b_lstT, b_lstL, b_allL, b_anyL, b_sumL, b_sumT, b_abs, b_max, b_min, b_intI, b_intB, q_ii, q_ss, mapR_some, andR_ite, orR_ite, unpK, parK, augK, setIK, setTg, setAll, wipe, blt, blt0, seqOf, lstOf, cop, bop, intOp, isiD, tyOf, atP, place, Option.map_some, Option.map_none, Option.bind_some, Option.bind_none, eq_self, reduceCtorEq, Int.reduceLE, Int.reduceLT, Int.reduceNeg, Int.reduceEq, Int.reduceToNat, Int.reduceAdd, Int.reduceSub, Nat.reduceLeDiff, reduceIte,  List.flatten_cons, List.flatten_nil, List.length_map, List.map_cons, List.map_nil, List.length_cons, List.length_nil, List.replicate_succ, List.replicate_zero, List.cons_append, List.nil_append, List.append_nil, List.set_cons_zero, List.set_cons_succ, Bool.not_true, Bool.not_false, if_true, if_false, ite_true, ite_false, Bool.false_eq_true, decide_true, decide_false, Bool.or_true, Bool.true_or, Bool.or_false, Bool.false_or, Bool.and_true, Bool.true_and, Bool.and_false, Bool.false_and, decide_eq_true_eq, Nat.reduceAdd, Nat.reduceSub, Nat.zero_add, Function.comp_apply, q, q', pos, e1', Int.natCast_add, Int.cast_ofNat_Int, Int.lt_irrefl] at e ⊢
          rw [e]; rfl
        · have hr0 : decide ((0 : Int) < (r : Int)) = true := decide_eq_true (by omega)
          obtain ⟨a, S2, e2, ha, k2⟩ := drawK (w := w) (k := k + dp + 3) h k1.s (t := xs.length) (by cases xs <;> simp at he ⊢) (by
            refine Nat.lt_of_lt_of_le (show xs.length < 2 ^ 12 by omega) (Nat.pow_le_pow_right (by decide) (by decide)))
          have e2' : callI prog w (k + (dp + 1) + 3) i [.ref n, .int xs.length] S1 = .ok (.int a) S2 := e2
          obtain ⟨d, S3, e3, hd, k3⟩ := ih (hx _ (List.getElem_mem ha)) hN hN' (by omega) k2.s
          have e3' : callI prog w (k + (dp + 1) + 3) l [.ref n, xs[a], .int dp] S2 = .ok d S3 := e3
          have ix : idxD S2 (.tup xs) (.int a) = some xs[a] := by
            simp only [idxD, seqOf, Option.bind_some, atP, place]
            rw [if_pos (by omega), if_pos (by omega)]
            simp
          have dd : (dp : Int) + 1 - 1 = dp := by omega
          refine ⟨.tup (xs.take a ++ d :: xs.drop (a + 1)), S3, ?_, ?_, (k1.trans k2).trans k3⟩
          · simp (disch := (try simp only [List.length_append, List.length_cons, List.length_nil, List.length_take, List.length_drop]); omega) only [b_bent, qOpt, qRet, bnd_ok, bnd_exc, bnd_err, flow_nx, flow_rt, flow_bk, flow_ct, flow_exc, end_nx, end_rt, end_exc, e_var, g_0, g_s, e_cst, e_bin, e_neg, e_not, e_cmp, e_chain, e_and, e_or, e_ite, e_tup, e_lst, e_lstM, e_lstS, e_dct, e_idx, e_slc, e_rev, e_isi, e_fz, e_repM, fz_lst, fz_tup, fz_dct, m_dget, e_blt, e_call, e_mth, m_tindex, m_tcount, e_lc, l_nil, l_cons, l_star, t_nil, t_cons, o_no, o_so, i_seq, i_rng1, i_rng2, i_zip, i_enum, i_enumT, k_enumT, k_neg, k_int, k_seqT, k_seqL, k_seqF, k_starT, k_starL, k_zipT, k_zipL, k_zipM, k_zipM2, k_enum, k_rng, k_rng2, tr_bl, tr_int, tr_tup, tr_lst, s_nil, s_cons, x_expr, x_set, x_setT, x_par, x_setI, x_aug, x_cond, x_loop, x_while, x_ret, x_retN, x_pass, x_brk, x_cont, x_run, b_lenT, b_lenL, b_lenF, b_tupT, b_tupL, b_lstT, b_lstL, b_allL, b_anyL, b_sumL, b_sumT, b_abs, b_max, b_min, b_intI, b_intB, q_ii, q_ss, mapR_some, andR_ite, orR_ite, unpK, parK, augK, setIK, setTg, setAll, wipe, blt, blt0, seqOf, lstOf, cop, isiD, tyOf, atP, place, Option.map_some, Option.map_none, Option.bind_some, Option.bind_none, eq_self, reduceCtorEq, Int.reduceLE, Int.reduceLT, Int.reduceNeg, Int.reduceEq, Int.reduceToNat, Int.reduceAdd, Int.reduceSub, Nat.reduceLeDiff, reduceIte,  List.flatten_cons, List.flatten_nil, List.length_map, List.map_cons, List.map_nil, List.length_cons, List.length_nil, List.replicate_succ, List.replicate_zero, List.cons_append, List.nil_append, List.append_nil, List.set_cons_zero, List.set_cons_succ, Bool.not_true, Bool.not_false, if_true, if_false, ite_true, ite_false, Bool.false_eq_true, decide_true, decide_false, Bool.or_true, Bool.true_or, Bool.or_false, Bool.false_or, Bool.and_true, Bool.true_and, Bool.and_false, Bool.false_and, decide_eq_true_eq, Nat.reduceAdd, Nat.reduceSub, Nat.zero_add, Function.comp_apply, bop_ii, ii_add, ii_sub, q, q', pos, e1', hr0, e2', ix, e3', sl_t, cut_to, cut_from1, add_tt', Int.natCast_add, Int.cast_ofNat_Int, dd, List.append_assoc]
          · refine .tup (by simp only [List.length_append, List.length_take, List.length_cons, List.length_drop]; omega) fun y hy => ?_
            simp only [List.mem_append, List.mem_cons] at hy
            rcases hy with hy | rfl | hy
            · exact ((hx y (List.take_subset _ _ hy)).loose.up (by omega)).deep (by omega)
            · exact hd
            · exact ((hx y (List.drop_subset _ _ hy)).loose.up (by omega)).deep (by omega)
end
end Ln

set_option linter.all false
set_option maxRecDepth 10000
/-! What values are. -/
namespace Ln
open PySem (PyData Str)
def isI : D → Bool
  | .int _ => true
  | _ => false
/-- an integer of at least so much -/
def isW (m : Int) : D → Bool
  | .int i => decide (m ≤ i)
  | _ => false
def isT : D → Bool
  | .tup _ => true
  | _ => false
def isS : D → Bool
  | .str _ => true
  | _ => false
def b_isint : Sms :=
  (.cons (.ret (.and (.isi (.var 0) .int) (.not (.isi (.var 0) .bool))))
  .nil)
def b_whole : Sms :=
  (.cons (.ret (.and (.isi (.var 0) .int) (.and (.not (.isi (.var 0) .bool)) (.cmp .ge (.var 0) (.var 1)))))
  .nil)
/-- of a kind that isinstance may ask -/
def Kd : D → Prop
  | .wtp _ => False
  | .ref _ => False
  | _ => True
theorem isI_ex {d : D} (h : isI d = true) : ∃ i, d = .int i := by cases d <;> first | exact ⟨_, rfl⟩ | cases h
theorem isT_ex {d : D} (h : isT d = true) : ∃ i, d = .tup i := by cases d <;> first | exact ⟨_, rfl⟩ | cases h
theorem isS_ex {d : D} (h : isS d = true) : ∃ i, d = .str i := by cases d <;> first | exact ⟨_, rfl⟩ | cases h
theorem isI_i {i : Int} : isI (.int i) = true := rfl
theorem Dt.bi {dc : Bool} {N K : Nat} {i : Int} (h : Dt dc N K (.int i)) : Bi N i := by cases h; assumption
theorem Dt.kd {dc : Bool} {N K : Nat} {d : D} (h : Dt dc N K d) : Kd d := by cases h <;> trivial
section
variable {prog : List Fn} {w k i j m l n : Nat} {S : Store} {d : D}
theorem ix0 {a : D} {l : List D} : idxD S (.tup (a :: l)) (.int 0) = some a := by simp [idxD, seqOf, atP, place]
theorem ix1 {a b : D} {l : List D} : idxD S (.tup (a :: b :: l)) (.int 1) = some b := by
  simp only [idxD, seqOf, atP, place, Option.bind_some, List.length_cons]
  rw [if_pos (by decide), if_pos (by omega)]; rfl
theorem ix2 {a b c : D} {l : List D} : idxD S (.tup (a :: b :: c :: l)) (.int 2) = some c := by
  simp only [idxD, seqOf, atP, place, Option.bind_some, List.length_cons]
  rw [if_pos (by decide), if_pos (by omega)]; rfl
theorem ixL0 {a : D} {l : List D} : idxD S (.lst (a :: l)) (.int 0) = some a := by simp [idxD, seqOf, atP, place]
theorem ixL1 {a b : D} {l : List D} : idxD S (.lst (a :: b :: l)) (.int 1) = some b := by
  simp only [idxD, seqOf, atP, place, Option.bind_some, List.length_cons]
  rw [if_pos (by decide), if_pos (by omega)]; rfl
theorem ixL2 {a b c : D} {l : List D} : idxD S (.lst (a :: b :: c :: l)) (.int 2) = some c := by
  simp only [idxD, seqOf, atP, place, Option.bind_some, List.length_cons]
  rw [if_pos (by decide), if_pos (by omega)]; rfl
theorem isi_tup (h : Kd d) : isiD S .tuple d = some (isT d) := by cases d <;> first | rfl | exact h.elim
theorem isi_str (h : Kd d) : isiD S .str d = some (isS d) := by cases d <;> first | rfl | exact h.elim
theorem isint_sp (h : prog[i]? = some ⟨1, false, 1, b_isint⟩) (hd : Kd d) : callI prog w (k + 1) i [d] S = .ok (.bl (isI d)) S := by
  rw [callI_s h rfl]
  cases d <;> first | exact hd.elim | simp only [b_isint, qOpt, qRet, bnd_ok, bnd_exc, bnd_err, flow_nx, flow_rt, flow_bk, flow_ct, flow_exc, end_nx, end_rt, end_exc, e_var, g_0, g_s, e_cst, e_bin, e_neg, e_not, e_cmp, e_chain, e_and, e_or, e_ite, e_tup, e_lst, e_lstM, e_lstS, e_dct, e_idx, e_slc, e_rev, e_isi, e_fz, e_repM, fz_lst, fz_tup, fz_dct, m_dget, e_blt, e_call, e_mth, m_tindex, m_tcount, e_lc, l_nil, l_cons, l_star, t_nil, t_cons, o_no, o_so, i_seq, i_rng1, i_rng2, i_zip, i_enum, i_enumT, k_enumT, k_neg, k_int, k_seqT, k_seqL, k_seqF, k_starT, k_starL, k_zipT, k_zipL, k_zipM, k_zipM2, k_enum, k_rng, k_rng2, tr_bl, tr_int, tr_tup, tr_lst, s_nil, s_cons, x_expr, x_set, x_setT, x_par, x_setI, x_aug, x_cond, x_loop, x_while, x_ret, x_retN, x_pass, x_brk, x_cont, x_run, b_lenT, b_lenL, b_lenF, b_tupT, b_tupL, b_lstT, b_lstL, b_allL, b_anyL, b_sumL, b_sumT, b_abs, b_max, b_min, b_intI, b_intB, q_ii, q_ss, mapR_some, andR_ite, orR_ite, unpK, parK, augK, setIK, setTg, setAll, wipe, blt, blt0, seqOf, lstOf, cop, bop, intOp, isiD, tyOf, atP, place, Option.map_some, Option.map_none, Option.bind_some, Option.bind_none, eq_self, reduceCtorEq, Int.reduceLE, Int.reduceLT, Int.reduceNeg, Int.reduceEq, Int.reduceToNat, Int.reduceAdd, Int.reduceSub, Nat.reduceLeDiff, reduceIte,  List.flatten_cons, List.flatten_nil, List.length_map, List.map_cons, List.map_nil, List.length_cons, List.length_nil, List.replicate_succ, List.replicate_zero, List.cons_append, List.nil_append, List.append_nil, List.set_cons_zero, List.set_cons_succ, Bool.not_true, Bool.not_false, if_true, if_false, ite_true, ite_false, Bool.false_eq_true, decide_true, decide_false, Bool.or_true, Bool.true_or, Bool.or_false, Bool.false_or, Bool.and_true, Bool.true_and, Bool.and_false, Bool.false_and, decide_eq_true_eq, Nat.reduceAdd, Nat.reduceSub, Nat.zero_add, Function.comp_apply, isI]
theorem whole_sp (h : prog[i]? = some ⟨2, false, 2, b_whole⟩) (hd : Kd d) {t : Int} : callI prog w (k + 1) i [d, .int t] S = .ok (.bl (isW t d)) S := by
  rw [callI_s h rfl]
  cases d <;> first | exact hd.elim | simp only [b_whole, qOpt, qRet, bnd_ok, bnd_exc, bnd_err, flow_nx, flow_rt, flow_bk, flow_ct, flow_exc, end_nx, end_rt, end_exc, e_var, g_0, g_s, e_cst, e_bin, e_neg, e_not, e_cmp, e_chain, e_and, e_or, e_ite, e_tup, e_lst, e_lstM, e_lstS, e_dct, e_idx, e_slc, e_rev, e_isi, e_fz, e_repM, fz_lst, fz_tup, fz_dct, m_dget, e_blt, e_call, e_mth, m_tindex, m_tcount, e_lc, l_nil, l_cons, l_star, t_nil, t_cons, o_no, o_so, i_seq, i_rng1, i_rng2, i_zip, i_enum, i_enumT, k_enumT, k_neg, k_int, k_seqT, k_seqL, k_seqF, k_starT, k_starL, k_zipT, k_zipL, k_zipM, k_zipM2, k_enum, k_rng, k_rng2, tr_bl, tr_int, tr_tup, tr_lst, s_nil, s_cons, x_expr, x_set, x_setT, x_par, x_setI, x_aug, x_cond, x_loop, x_while, x_ret, x_retN, x_pass, x_brk, x_cont, x_run, b_lenT, b_lenL, b_lenF, b_tupT, b_tupL, b_lstT, b_lstL, b_allL, b_anyL, b_sumL, b_sumT, b_abs, b_max, b_min, b_intI, b_intB, q_ii, q_ss, mapR_some, andR_ite, orR_ite, unpK, parK, augK, setIK, setTg, setAll, wipe, blt, blt0, seqOf, lstOf, cop, bop, intOp, isiD, tyOf, atP, place, Option.map_some, Option.map_none, Option.bind_some, Option.bind_none, eq_self, reduceCtorEq, Int.reduceLE, Int.reduceLT, Int.reduceNeg, Int.reduceEq, Int.reduceToNat, Int.reduceAdd, Int.reduceSub, Nat.reduceLeDiff, reduceIte,  List.flatten_cons, List.flatten_nil, List.length_map, List.map_cons, List.map_nil, List.length_cons, List.length_nil, List.replicate_succ, List.replicate_zero, List.cons_append, List.nil_append, List.append_nil, List.set_cons_zero, List.set_cons_succ, Bool.not_true, Bool.not_false, if_true, if_false, ite_true, ite_false, Bool.false_eq_true, decide_true, decide_false, Bool.or_true, Bool.true_or, Bool.or_false, Bool.false_or, Bool.and_true, Bool.true_and, Bool.and_false, Bool.false_and, decide_eq_true_eq, Nat.reduceAdd, Nat.reduceSub, Nat.zero_add, Function.comp_apply, isW]
theorem all_bl {xs : List D} (f : D → Bool) : allF S [.lst (xs.map fun d => .bl (f d))] = some (.bl (xs.all f)) := by
  rw [b_allL, bools_fun f xs]
  simp [List.all_map, Function.comp_def]
theorem lcM_id' {cf : Nat → List D → M D} {ρ : Rho} {elt : E} {tg : Tg} {own : List Nat} (f : D → D) (l : List D) (h : ∀ x ∈ l, ∃ ρ', setTg (wipe ρ own) tg x = some ρ' ∧ ev cf elt ρ' S = .ok (f x) S) : lcM cf elt tg .nil own ρ l S = .ok (.lst (l.map f)) S := lcM_id f l h
theorem rep_flat {α : Type} (d : α) : ∀ m : Nat, (List.replicate m [d]).flatten = List.replicate m d
  | 0 => rfl
  | m + 1 => by rw [List.replicate_succ, List.flatten_cons, rep_flat d m, List.replicate_succ]; rfl
/-- [d] * m -/
theorem mul_l1 {m : Nat} (h : m ≤ 1000000) : bop .mul (.lst [d]) (.int m) S = some (.lst (List.replicate m d)) := by
  show (if (small63 (m : Int) && decide ([d].length * (m : Int).toNat ≤ line)) = true then some (D.lst (List.replicate (m : Int).toNat [d]).flatten) else none) = _
  have s63 : small63 (m : Int) = true := by unfold small63; simp; omega
  have ln : [d].length * (m : Int).toNat ≤ line := by
    rw [Int.toNat_natCast, List.length_singleton, Nat.one_mul]
    exact lineB (by omega)
  rw [if_pos (by rw [s63, decide_eq_true ln]; rfl), Int.toNat_natCast, rep_flat]
/-- (d,) * m -/
theorem mul_t1 {m : Nat} (h : m ≤ 1000000) : bop .mul (.tup [d]) (.int m) S = some (.tup (List.replicate m d)) := by
  show (if (decide (-1000000 ≤ (m : Int)) && decide ((m : Int) ≤ 1000000) && decide ([d].length * (m : Int).toNat ≤ 1000000)) = true then some (D.tup (List.replicate (m : Int).toNat [d]).flatten) else none) = _
  rw [if_pos (by rw [decide_eq_true (by omega), decide_eq_true (by omega), decide_eq_true (by simp; omega)]; rfl), Int.toNat_natCast, rep_flat]
end
/-! ### texts of values, equality -/
/-- d's text has c signs at most -/
def Rp (c K : Nat) (d : D) : Prop := ∃ p : PyData, (∀ S j, K ≤ j → toP S j d = some p) ∧ fine p = true ∧ cost p ≤ c
theorem Rp.up {c c' K : Nat} {d : D} (h : Rp c K d) (hc : c ≤ c') : Rp c' K d := let ⟨p, a, b, e⟩ := h; ⟨p, a, b, Nat.le_trans e hc⟩
theorem Rp.bl {K : Nat} (b : Bool) : Rp 5 K (.bl b) := ⟨.bool b, fun S j _ => by cases j <;> rfl, rfl, by simp [cost]⟩
theorem Rp.non {K : Nat} : Rp 4 K .non := ⟨.none, fun S j _ => by cases j <;> rfl, rfl, by simp [cost]⟩
theorem Rp.int {K : Nat} {i : Int} (h : Bi 1900 i) : Rp 1921 K (.int i) := ⟨.int i, fun S j _ => by cases j <;> rfl, by unfold fine; exact decide_eq_true (Nat.lt_trans (h.log (by decide)) (by decide)), by simp [cost]⟩
theorem Rp.str {K : Nat} {x : Str} (h : PyData.strOk x = true) : Rp (10 * x.length + 2) K (.str x) := ⟨.str x, fun S j _ => by cases j <;> rfl, by simpa [fine] using h, by simp [cost]⟩
theorem rp_list {c K : Nat} : ∀ {xs : List D}, (∀ x ∈ xs, Rp c K x) → ∃ ps : List PyData, (∀ S j, K ≤ j → xs.mapM (toP S j) = some ps) ∧ fines ps = true ∧ costs ps ≤ xs.length * (c + 2)
  | [], _ => ⟨[], fun _ _ _ => rfl, rfl, Nat.zero_le _⟩
  | x :: xs, h => by
    obtain ⟨p, a, b, e⟩ := h x List.mem_cons_self
    obtain ⟨ps, a', b', e'⟩ := rp_list fun y hy => h y (List.mem_cons_of_mem _ hy)
    refine ⟨p :: ps, fun S j hj => by rw [List.mapM_cons, a S j hj, a' S j hj]; rfl, by simp [fines, b, b'], ?_⟩
    rw [costs, List.length_cons, Nat.add_mul]
    omega
theorem Rp.tup {c K n : Nat} {xs : List D} (h : ∀ x ∈ xs, Rp c K x) (hn : xs.length ≤ n) : Rp (n * (c + 2) + 3) (K + 1) (.tup xs) := by
  obtain ⟨ps, a, b, e⟩ := rp_list h
  refine ⟨.tuple ps, fun S j hj => ?_, by simpa [fine] using b, ?_⟩
  · obtain ⟨i, rfl⟩ : ∃ i, j = i + 1 := ⟨j - 1, by omega⟩
    show (xs.mapM (toP S i)).map PyData.tuple = _
    rw [a S i (by omega)]; rfl
  · have := Nat.mul_le_mul_right (c + 2) hn
    simp only [cost]; omega
theorem Rp.lst {c K n : Nat} {xs : List D} (h : ∀ x ∈ xs, Rp c K x) (hn : xs.length ≤ n) : Rp (n * (c + 2) + 3) (K + 1) (.lst xs) := by
  obtain ⟨ps, a, b, e⟩ := rp_list h
  refine ⟨.list ps, fun S j hj => ?_, by simpa [fine] using b, ?_⟩
  · obtain ⟨i, rfl⟩ : ∃ i, j = i + 1 := ⟨j - 1, by omega⟩
    show (xs.mapM (toP S i)).map PyData.list = _
    rw [a S i (by omega)]; rfl
  · have := Nat.mul_le_mul_right (c + 2) hn
    simp only [cost]; omega
theorem Rp.repr {c K : Nat} {d : D} (h : Rp c K d) (hc : c ≤ 16000000) (hK : K ≤ 24) : ∃ s : Str, ∀ S, reprF S [d] = some (.str s) := by
  obtain ⟨p, a, b, e⟩ := h
  exact ⟨p.shown, fun S => repr_sm (a S 24 hK) b (lineB (by omega))⟩
theorem Rp.fr {N K : Nat} {x : Rat} (h : Fb N x) (hN : N ≤ 1900) : Rp 3849 (K + 1) (fr x) := (Rp.tup (n := 2) (fun y hy => by
  simp only [List.mem_cons, List.not_mem_nil, or_false] at hy
  rcases hy with rfl | rfl
  · exact Rp.int (h.n.up hN)
  · exact Rp.int (h.d.up hN)) (by simp)).up (by decide)
theorem Rp.iv {K n : Nat} {xs : List Int} (h : ∀ x ∈ xs, Bi 1900 x) (hn : xs.length ≤ n) : Rp (n * 1923 + 3) (K + 1) (.tup (xs.map D.int)) :=
  Rp.tup (c := 1921) (fun y hy => by obtain ⟨x, hx, rfl⟩ := List.mem_map.mp hy; exact Rp.int (h x hx)) (by rw [List.length_map]; exact hn)
/-- what is compared with itself -/
theorem Dt.eq_self {N k : Nat} {d : D} (r : Dt false N k d) (hk : k ≤ 24) (S : Store) : eqD S d d = some true := by
  obtain ⟨p, q, h1, h2, h3⟩ := r.eqP r hk hk
  have e : p = q := by have a := h1 [] k (Nat.le_refl _); have b := h2 [] k (Nat.le_refl _); rw [a] at b; exact Option.some.inj b
  subst e
  obtain ⟨p', g1, g2, _⟩ := r.toP
  have e : p = p' := by have a := h1 [] k (Nat.le_refl _); have b := g1 [] k (Nat.le_refl _); rw [a] at b; exact Option.some.inj b
  subst e
  have q : Ln.eqP S d d = some true := by rw [h3 S, PySem.SeqAt.eqv_refl p g2]
  cases d with
  | int i => show some (decide (i = i)) = _; simp
  | str i => show some (decide (i = i)) = _; simp
  | _ => exact q
theorem Dt.dok {N k : Nat} {d : D} (r : Dt false N k d) (hk : k ≤ 23) : Dok d := by
  obtain ⟨p, h1, h2, h3⟩ := r.toP
  exact ⟨p, fun S => h1 S 23 hk, h2, by omega⟩
theorem eq_nilL {N k : Nat} {xs : List D} {S : Store} (r : Dt false N k (.lst xs)) (hk : k ≤ 24) : eqD S (.lst xs) (.lst []) = some xs.isEmpty := by
  obtain ⟨p, q, h1, h2, h3⟩ := r.eqP (N' := 0) (k' := 1) (e := .lst []) (.lst (Nat.zero_le _) fun _ h => nomatch h) hk (by decide)
  show Ln.eqP S _ _ = _
  rw [h3]
  have hq : q = .list [] := by have := h2 [] 1 (Nat.le_refl _); cases this; rfl
  subst hq
  cases r with
  | lst hl hx =>
    rename_i k
    have e := h1 [] (k + 1) (Nat.le_refl _)
    simp only [Ln.toP, Option.map_eq_some_iff] at e
    obtain ⟨ps, e, rfl⟩ := e
    cases xs with
    | nil => cases e; rfl
    | cons x xs =>
      rw [List.mapM_cons] at e
      cases ps with
      | nil => 
        exfalso
        cases h : Ln.toP [] k x with
        | none => rw [h] at e; cases e
        | some y => cases h' : xs.mapM (Ln.toP [] k) with
          | none => rw [h, h'] at e; cases e
          | some ys => rw [h, h'] at e; cases e
      | cons => simp [PyData.eqv, PyData.eqvAll]
end Ln

set_option linter.all false
set_option maxRecDepth 10000
/-! Reduced rows: plain mathematics. -/
namespace Rr
abbrev Row := List Int
abbrev gt (r : Row) (j : Nat) : Int := r.getD j 0
/-! ### the common divisor -/
def gl (xs : List Int) : Nat := xs.foldl (fun x a => Nat.gcd x a.natAbs) 0
theorem gl_from (x : Nat) : ∀ xs : List Int, xs.foldl (fun x a => Nat.gcd x a.natAbs) x = Nat.gcd x (gl xs)
  | [] => by simp [gl]
  | a :: xs => by
    unfold gl
    rw [List.foldl_cons, List.foldl_cons, gl_from, gl_from (Nat.gcd 0 a.natAbs), Nat.gcd_zero_left, Nat.gcd_assoc]
theorem gl_cons (a : Int) (xs : List Int) : gl (a :: xs) = Nat.gcd a.natAbs (gl xs) := by
  conv => lhs; unfold gl
  rw [List.foldl_cons, gl_from, Nat.gcd_zero_left]
theorem gl_filter : ∀ xs : List Int, gl (xs.filter fun x => !decide (x = 0)) = gl xs
  | [] => rfl
  | a :: xs => by
    by_cases h : a = 0
    · rw [List.filter_cons_of_neg (by simp [h]), gl_filter xs, gl_cons, h]; simp
    · rw [List.filter_cons_of_pos (by simp [h]), gl_cons, gl_cons, gl_filter xs]
theorem gl_mul (d : Int) : ∀ xs : List Int, gl (xs.map (d * ·)) = d.natAbs * gl xs
  | [] => by simp [gl]
  | a :: xs => by rw [List.map_cons, gl_cons, gl_cons, gl_mul d xs, Int.natAbs_mul, Nat.gcd_mul_left]
theorem gl_dvd : ∀ {xs : List Int} {x : Int}, x ∈ xs → (gl xs : Int) ∣ x
  | a :: xs, x, h => by
    rw [gl_cons]
    rcases List.mem_cons.mp h with rfl | h
    · exact Int.dvd_trans (Int.natCast_dvd_natCast.mpr (Nat.gcd_dvd_left _ _)) Int.natAbs_dvd_self
    · exact Int.dvd_trans (Int.natCast_dvd_natCast.mpr (Nat.gcd_dvd_right _ _)) (gl_dvd h)
theorem gl_pos : ∀ {xs : List Int} {x : Int}, x ∈ xs → x ≠ 0 → 0 < gl xs
  | a :: xs, x, h, h0 => by
    rw [gl_cons]
    rcases List.mem_cons.mp h with rfl | h
    · exact Nat.gcd_pos_of_pos_left _ (by omega)
    · exact Nat.gcd_pos_of_pos_right _ (gl_pos h h0)
/-! ### a row divided -/
def pdiv (r : Row) : Int := match r.filter fun x => !decide (x = 0) with
  | [] => 1
  | f :: fs => if f < 0 then 0 - (gl (f :: fs) : Int) else gl (f :: fs)
def prim (r : Row) : Row := match r.filter fun x => !decide (x = 0) with
  | [] => r
  | _ :: _ => r.map fun x => x.fdiv (pdiv r)
theorem gt_map {f : Int → Int} (h : f 0 = 0) (r : Row) (j : Nat) : gt (r.map f) j = f (gt r j) := by
  unfold gt
  rw [List.getD_eq_getElem?_getD, List.getD_eq_getElem?_getD, List.getElem?_map]
  cases r[j]? <;> simp [h]
theorem gt_mem {r : Row} {j : Nat} (h : gt r j ≠ 0) : gt r j ∈ r ∧ j < r.length := by
  unfold gt at *
  rw [List.getD_eq_getElem?_getD] at *
  cases e : r[j]? with
  | none => rw [e] at h; simp at h
  | some x => rw [e] at h; exact ⟨by simpa using List.mem_of_getElem? e, (List.getElem?_eq_some_iff.mp e).1⟩
theorem pdiv_ne (r : Row) : pdiv r ≠ 0 := by
  unfold pdiv
  split
  · decide
  · rename_i f fs e
    have hf : f ∈ r.filter fun x => !decide (x = 0) := by rw [e]; exact List.mem_cons_self
    have h0 : f ≠ 0 := by have := (List.mem_filter.mp hf).2; simpa using this
    have := gl_pos (xs := f :: fs) List.mem_cons_self h0
    split <;> omega
theorem pdiv_abs {r : Row} (h : ∃ j, gt r j ≠ 0) : (pdiv r).natAbs = gl r := by
  obtain ⟨j, h⟩ := h
  have hm := (gt_mem h).1
  have hf : gt r j ∈ r.filter fun x => !decide (x = 0) := List.mem_filter.mpr ⟨hm, by rw [decide_eq_false h]; rfl⟩
  unfold pdiv
  split
  · rename_i e; rw [e] at hf; cases hf
  · rename_i f fs e
    rw [← e, gl_filter]
    split <;> omega
theorem prim_len (r : Row) : (prim r).length = r.length := by
  unfold prim
  split
  · rfl
  · rw [List.length_map]
theorem fdiv_mul_cancel {a b : Int} (h : b ∣ a) (hb : b ≠ 0) : b * a.fdiv b = a := by
  obtain ⟨c, rfl⟩ := h
  rw [Int.mul_fdiv_cancel_left _ hb]
theorem prim_mul (r : Row) (j : Nat) : pdiv r * gt (prim r) j = gt r j := by
  unfold prim
  split
  · rename_i e
    have : pdiv r = 1 := by unfold pdiv; rw [e]
    rw [this]; omega
  · rename_i f fs e
    rw [gt_map (by simp)]
    refine fdiv_mul_cancel ?_ (pdiv_ne r)
    by_cases h : gt r j = 0
    · rw [h]; exact Int.dvd_zero _
    · have := pdiv_abs ⟨j, h⟩
      have d := gl_dvd (gt_mem h).1
      rw [← this] at d
      exact Int.natAbs_dvd.mp d
theorem map_prim (r : Row) : (prim r).map (pdiv r * ·) = r := by
  apply List.ext_getElem
  · rw [List.length_map, prim_len]
  · intro i h1 h2
    have := prim_mul r i
    unfold gt at this
    rw [List.getD_eq_getElem?_getD, List.getD_eq_getElem?_getD, List.getElem?_eq_getElem h2, List.getElem?_eq_getElem (by rw [prim_len]; exact h2)] at this
    rw [List.getElem_map]
    exact this
theorem prim_gl {r : Row} (h : ∃ j, gt r j ≠ 0) : gl (prim r) = 1 := by
  have e := gl_mul (pdiv r) (prim r)
  rw [map_prim, pdiv_abs h] at e
  have : 0 < gl r := by obtain ⟨j, h⟩ := h; exact gl_pos (gt_mem h).1 h
  have e2 : gl r * 1 = gl r * gl (prim r) := by omega
  exact (Nat.eq_of_mul_eq_mul_left this e2).symm
/-- c is the place of the first number other than 0 -/
def Lead (r : Row) (c : Nat) : Prop := gt r c ≠ 0 ∧ ∀ j < c, gt r j = 0
theorem first_lead : ∀ {r : Row} {c : Nat}, Lead r c → ∃ fs, (r.filter fun x => !decide (x = 0)) = gt r c :: fs
  | [], c, h => absurd rfl (show ¬ gt [] c = 0 from h.1)
  | a :: r, 0, h => ⟨_, List.filter_cons_of_pos (by simpa using h.1)⟩
  | a :: r, c + 1, h => by
    have ha : a = 0 := h.2 0 (Nat.succ_pos _)
    obtain ⟨fs, e⟩ := first_lead (r := r) (c := c) ⟨h.1, fun j hj => h.2 (j + 1) (by omega)⟩
    exact ⟨fs, by rw [List.filter_cons_of_neg (by simp [ha]), e]; rfl⟩
theorem prim_lead {r : Row} {c : Nat} (h : Lead r c) : Lead (prim r) c ∧ 0 < gt (prim r) c := by
  have hz : ∀ j, gt r j = 0 ↔ gt (prim r) j = 0 := fun j => by
    have := prim_mul r j
    constructor
    · intro e; rw [e] at this; exact (Int.mul_eq_zero.mp this).resolve_left (pdiv_ne r)
    · intro e; rw [e] at this; omega
  refine ⟨⟨fun e => h.1 ((hz c).mpr e), fun j hj => (hz j).mp (h.2 j hj)⟩, ?_⟩
  obtain ⟨fs, e⟩ := first_lead h
  have pm := prim_mul r c
  have hg := gl_pos (xs := gt r c :: fs) List.mem_cons_self h.1
  by_cases hn : gt r c < 0
  · have hd : pdiv r < 0 := by unfold pdiv; rw [e]; simp only [if_pos hn]; omega
    rcases Int.lt_trichotomy (gt (prim r) c) 0 with h1 | h1 | h1
    · have := Int.mul_pos_of_neg_of_neg hd h1; omega
    · rw [h1] at pm; omega
    · exact h1
  · have hp : 0 < gt r c := by have := h.1; omega
    have hd : 0 < pdiv r := by unfold pdiv; rw [e]; simp only [if_neg hn]; omega
    rcases Int.lt_trichotomy (gt (prim r) c) 0 with h1 | h1 | h1
    · have := Int.mul_neg_of_pos_of_neg hd h1; omega
    · rw [h1] at pm; omega
    · exact h1
/-! ### clearing -/
def clr (r p : Row) (c : Nat) : Row := prim (List.zipWith (fun x y => gt p c * x - gt r c * y) r p)
theorem gt_zip {f : Int → Int → Int} (h : f 0 0 = 0) : ∀ {r p : Row}, r.length = p.length → ∀ j, gt (List.zipWith f r p) j = f (gt r j) (gt p j)
  | [], [], _, j => by simp [gt, h]
  | a :: r, b :: p, e, 0 => rfl
  | a :: r, b :: p, e, j + 1 => gt_zip (r := r) (p := p) h (by simpa using e) j
theorem clr_len {r p : Row} (h : r.length = p.length) (c : Nat) : (clr r p c).length = r.length := by
  unfold clr
  rw [prim_len, List.length_zipWith]; omega
theorem clr_mul {r p : Row} (h : r.length = p.length) (c : Nat) : ∃ d : Int, d ≠ 0 ∧ ∀ j, d * gt (clr r p c) j = gt p c * gt r j - gt r c * gt p j := by
  refine ⟨pdiv (List.zipWith (fun x y => gt p c * x - gt r c * y) r p), pdiv_ne _, fun j => ?_⟩
  unfold clr
  rw [prim_mul, gt_zip (by simp) h]
theorem clr_zero {r p : Row} (h : r.length = p.length) {c j : Nat} (e : gt p c * gt r j = gt r c * gt p j) : gt (clr r p c) j = 0 := by
  obtain ⟨d, d0, hd⟩ := clr_mul h c
  have := hd j
  rw [e] at this
  exact (Int.mul_eq_zero.mp (this.trans (by omega))).resolve_left d0
/-! ### elimination -/
abbrev St := List (Nat × Row) × List Row
def stepE (st : St) (c : Nat) : St := match st.2.filter fun r => !decide (gt r c = 0) with
  | [] => st
  | f :: _ => (st.1.map (fun q => (q.1, clr q.2 (prim f) c)) ++ [(c, prim f)], st.2.map fun r => clr r (prim f) c)
def elimF (rows : List Row) (n : Nat) : St := (List.range n).foldl stepE ([], rows)
/-- reduced rows with the places of their pivots -/
structure Red (n : Nat) (A : List (Nat × Row)) : Prop where
  len : ∀ p ∈ A, p.2.length = n
  lt : ∀ p ∈ A, p.1 < n
  inc : A.Pairwise fun p q => p.1 < q.1
  pos : ∀ p ∈ A, 0 < gt p.2 p.1
  lead : ∀ p ∈ A, ∀ j < p.1, gt p.2 j = 0
  zer : ∀ p ∈ A, ∀ q ∈ A, p.1 ≠ q.1 → gt p.2 q.1 = 0
  prm : ∀ p ∈ A, gl p.2 = 1
structure InvE (n c : Nat) (st : St) : Prop where
  red : Red n st.1
  lt : ∀ p ∈ st.1, p.1 < c
  len : ∀ r ∈ st.2, r.length = n
  zer : ∀ r ∈ st.2, ∀ j < c, gt r j = 0
theorem invE_step {n c : Nat} {st : St} (hc : c < n) (h : InvE n c st) : InvE n (c + 1) (stepE st c) := by
  unfold stepE
  split
  · rename_i e
    refine ⟨h.red, fun p hp => Nat.lt_succ_of_lt (h.lt p hp), h.len, fun r hr j hj => ?_⟩
    by_cases hjc : j = c
    · subst hjc
      have := List.filter_eq_nil_iff.mp e r hr
      simpa using this
    · exact h.zer r hr j (by omega)
  · rename_i f fs e
    have hf : f ∈ st.2 ∧ gt f c ≠ 0 := by
      have : f ∈ st.2.filter fun r => !decide (gt r c = 0) := by rw [e]; exact List.mem_cons_self
      obtain ⟨h1, h2⟩ := List.mem_filter.mp this
      exact ⟨h1, by simpa using h2⟩
    have ld : Lead f c := ⟨hf.2, h.zer f hf.1⟩
    obtain ⟨⟨l1, l2⟩, l3⟩ := prim_lead ld
    have pl : (prim f).length = n := by rw [prim_len]; exact h.len f hf.1
    have pg : gl (prim f) = 1 := prim_gl ⟨c, hf.2⟩
    generalize prim f = p at l1 l2 l3 pl pg
    have ql : ∀ q ∈ st.1, q.2.length = p.length := fun q hq => (h.red.len q hq).trans pl.symm
    have qlead : ∀ q ∈ st.1, Lead (clr q.2 p c) q.1 ∧ 0 < gt (clr q.2 p c) q.1 := fun q hq => by
      have hl : (List.zipWith (fun x y => gt p c * x - gt q.2 c * y) q.2 p).length = _ := List.length_zipWith
      have gz : ∀ j, gt (List.zipWith (fun x y => gt p c * x - gt q.2 c * y) q.2 p) j = gt p c * gt q.2 j - gt q.2 c * gt p j := gt_zip (by simp) (ql q hq)
      refine prim_lead ⟨?_, fun j hj => ?_⟩
      · rw [gz, l2 q.1 (h.lt q hq)]
        have := Int.mul_pos l3 (h.red.pos q hq)
        omega
      · rw [gz, l2 j (by have := h.lt q hq; omega), h.red.lead q hq j hj]; simp
    refine ⟨⟨?_, ?_, ?_, ?_, ?_, ?_, ?_⟩, ?_, ?_, ?_⟩
    all_goals simp only [List.mem_append, List.mem_map, List.mem_singleton]
    · rintro q (⟨q, hq, rfl⟩ | rfl)
      · exact (clr_len (ql q hq) c).trans (h.red.len q hq)
      · exact pl
    · rintro q (⟨q, hq, rfl⟩ | rfl)
      · exact h.red.lt q hq
      · exact hc
    · rw [List.pairwise_append, List.pairwise_map]
      refine ⟨h.red.inc, List.pairwise_singleton _ _, fun a ha b hb => ?_⟩
      obtain ⟨q, hq, rfl⟩ := List.mem_map.mp ha
      rw [List.mem_singleton.mp hb]
      exact h.lt q hq
    · rintro q (⟨q, hq, rfl⟩ | rfl)
      · exact (qlead q hq).2
      · exact l3
    · rintro q (⟨q, hq, rfl⟩ | rfl)
      · exact (qlead q hq).1.2
      · exact l2
    · rintro q (⟨q, hq, rfl⟩ | rfl) q' (⟨q', hq', rfl⟩ | rfl) hne
      · refine clr_zero (ql q hq) ?_
        rw [h.red.zer q hq q' hq' hne, l2 q'.1 (h.lt q' hq')]; simp
      · refine clr_zero (ql q hq) ?_
        exact Int.mul_comm _ _
      · exact l2 q'.1 (h.lt q' hq')
      · exact absurd rfl hne
    · rintro q (⟨q, hq, rfl⟩ | rfl)
      · have gz : ∀ j, gt (List.zipWith (fun x y => gt p c * x - gt q.2 c * y) q.2 p) j = gt p c * gt q.2 j - gt q.2 c * gt p j := gt_zip (by simp) (ql q hq)
        refine prim_gl ⟨q.1, ?_⟩
        rw [gz, l2 q.1 (h.lt q hq)]
        have := Int.mul_pos l3 (h.red.pos q hq)
        omega
      · exact pg
    · rintro q (⟨q, hq, rfl⟩ | rfl)
      · exact Nat.lt_succ_of_lt (h.lt q hq)
      · exact Nat.lt_succ_self c
    · rintro r ⟨r, hr, rfl⟩
      exact (clr_len ((h.len r hr).trans pl.symm) c).trans (h.len r hr)
    · rintro r ⟨r, hr, rfl⟩ j hj
      refine clr_zero ((h.len r hr).trans pl.symm) ?_
      by_cases hjc : j = c
      · subst hjc; exact Int.mul_comm _ _
      · rw [h.zer r hr j (by omega), l2 j (by omega)]; simp
/-- what holds of rows and goes over to what is made of two of them -/
def Closed (n : Nat) (P : Row → Prop) : Prop := ∀ (x y z : Row) (a b d : Int), x.length = n → y.length = n → z.length = n → d ≠ 0 → (∀ j, d * gt z j = a * gt x j + b * gt y j) → P x → P y → P z
theorem closed_step {n c : Nat} {st : St} {P : Row → Prop} (hP : Closed n P) (hc : c < n) (h : InvE n c st) : ((∀ p ∈ st.1, P p.2) ∧ ∀ r ∈ st.2, P r) ↔ ((∀ p ∈ (stepE st c).1, P p.2) ∧ ∀ r ∈ (stepE st c).2, P r) := by
  unfold stepE
  split
  · exact Iff.rfl
  · rename_i f fs e
    have hf : f ∈ st.2 ∧ gt f c ≠ 0 := by
      have : f ∈ st.2.filter fun r => !decide (gt r c = 0) := by rw [e]; exact List.mem_cons_self
      obtain ⟨h1, h2⟩ := List.mem_filter.mp this
      exact ⟨h1, by simpa using h2⟩
    have l3 := (prim_lead (r := f) (c := c) ⟨hf.2, h.zer f hf.1⟩).2
    have fl := h.len f hf.1
    have pl : (prim f).length = n := by rw [prim_len]; exact fl
    have pf : P (prim f) ↔ P f := by
      constructor
      · intro q; exact hP (prim f) (prim f) f (pdiv f) 0 1 pl pl fl (by decide) (fun j => by have := prim_mul f j; omega) q q
      · intro q; exact hP f f (prim f) 1 0 (pdiv f) fl fl pl (pdiv_ne f) (fun j => by have := prim_mul f j; omega) q q
    generalize prim f = p at l3 pl pf
    have cl : ∀ r : Row, r.length = n → P p → (P (clr r p c) ↔ P r) := fun r hr hp => by
      have hl := hr.trans pl.symm
      obtain ⟨d, d0, hd⟩ := clr_mul hl c
      have cn := (clr_len hl c).trans hr
      constructor
      · intro q; exact hP (clr r p c) p r d (gt r c) (gt p c) cn pl hr (by omega) (fun j => by have := hd j; omega) q hp
      · intro q; exact hP r p (clr r p c) (gt p c) (-gt r c) d hr pl cn d0 (fun j => by rw [hd j, Int.neg_mul]; omega) q hp
    simp only [List.mem_append, List.mem_map, List.mem_singleton]
    constructor
    · rintro ⟨h1, h2⟩
      have hp : P p := pf.mpr (h2 f hf.1)
      refine ⟨?_, ?_⟩
      · rintro q (⟨q, hq, rfl⟩ | rfl)
        · exact (cl _ (h.red.len q hq) hp).mpr (h1 q hq)
        · exact hp
      · rintro r ⟨r, hr, rfl⟩
        exact (cl _ (h.len r hr) hp).mpr (h2 r hr)
    · rintro ⟨h1, h2⟩
      have hp : P p := h1 (c, p) (.inr rfl)
      refine ⟨fun q hq => (cl _ (h.red.len q hq) hp).mp (h1 _ (.inl ⟨q, hq, rfl⟩)), fun r hr => (cl _ (h.len r hr) hp).mp (h2 _ ⟨r, hr, rfl⟩)⟩
theorem elim_inv {n : Nat} {P : Row → Prop} (hP : Closed n P) : ∀ (m c : Nat) (st : St), c + m = n → InvE n c st → InvE n n ((List.range' c m).foldl stepE st) ∧ (((∀ p ∈ st.1, P p.2) ∧ ∀ r ∈ st.2, P r) ↔ ((∀ p ∈ ((List.range' c m).foldl stepE st).1, P p.2) ∧ ∀ r ∈ ((List.range' c m).foldl stepE st).2, P r))
  | 0, c, st, e, h => ⟨by obtain rfl : c = n := by omega
                          exact h, Iff.rfl⟩
  | m + 1, c, st, e, h => by
    have hc : c < n := by omega
    have h1 := invE_step hc h
    obtain ⟨a, b⟩ := elim_inv hP m (c + 1) (stepE st c) (by omega) h1
    rw [List.range'_succ, List.foldl_cons]
    exact ⟨a, (closed_step hP hc h).trans b⟩
theorem elim_start {n : Nat} {rows : List Row} (h : ∀ r ∈ rows, r.length = n) : InvE n 0 ([], rows) := ⟨⟨fun _ h => (nomatch h), fun _ h => (nomatch h), .nil, fun _ h => (nomatch h), fun _ h => (nomatch h), fun _ h => (nomatch h), fun _ h => nomatch h⟩, fun _ h => (nomatch h), h, fun _ _ j hj => absurd hj (Nat.not_lt_zero j)⟩
theorem elim_red {n : Nat} {rows : List Row} (h : ∀ r ∈ rows, r.length = n) : InvE n n (elimF rows n) := by
  unfold elimF
  rw [List.range_eq_range']
  exact (elim_inv (P := fun _ => True) (fun _ _ _ _ _ _ _ _ _ _ _ _ _ => trivial) n 0 ([], rows) (by omega) (elim_start h)).1
theorem elim_closed {n : Nat} {rows : List Row} {P : Row → Prop} (hP : Closed n P) (h0 : ∀ r : Row, r.length = n → (∀ j, gt r j = 0) → P r) (h : ∀ r ∈ rows, r.length = n) : (∀ r ∈ rows, P r) ↔ ∀ p ∈ (elimF rows n).1, P p.2 := by
  have hi := elim_red h
  have key := (elim_inv hP n 0 ([], rows) (by omega) (elim_start h)).2
  unfold elimF at *
  rw [List.range_eq_range'] at *
  constructor
  · intro q
    exact (key.mp ⟨fun _ h => (nomatch h), q⟩).1
  · intro q
    refine (key.mpr ⟨q, fun r hr => h0 r (hi.len r hr) fun j => ?_⟩).2
    by_cases hj : j < n
    · exact hi.zer r hr j hj
    · exact Decidable.byContradiction fun z => hj (by have := (gt_mem z).2; rw [hi.len r hr] at this; exact this)
/-! ### sums over reduced rows -/
/-- what a row's numbers are at the pivots, times the rows -/
def sm (A : List (Nat × Row)) (v : Nat → Rat) (j : Nat) : Rat := A.foldr (fun p t => v p.1 / (gt p.2 p.1 : Int) * (gt p.2 j : Int) + t) 0
def Made (A : List (Nat × Row)) (r : Row) : Prop := ∀ j, ((gt r j : Int) : Rat) = sm A (fun i => (gt r i : Int)) j
theorem sm_cons (p : Nat × Row) (A : List (Nat × Row)) (v : Nat → Rat) (j : Nat) : sm (p :: A) v j = v p.1 / (gt p.2 p.1 : Int) * (gt p.2 j : Int) + sm A v j := rfl
theorem sm_lin (a b : Rat) (v u : Nat → Rat) (j : Nat) : ∀ A : List (Nat × Row), sm A (fun i => a * v i + b * u i) j = a * sm A v j + b * sm A u j
  | [] => by simp [sm, Rat.mul_zero, Rat.zero_add]
  | p :: A => by
    rw [sm_cons, sm_cons, sm_cons, sm_lin a b v u j A]
    simp only [Rat.div_def]
    grind
theorem sm_congr {v u : Nat → Rat} (j : Nat) : ∀ A : List (Nat × Row), (∀ p ∈ A, v p.1 = u p.1) → sm A v j = sm A u j
  | [], _ => rfl
  | p :: A, h => by rw [sm_cons, sm_cons, h p List.mem_cons_self, sm_congr j A fun q hq => h q (List.mem_cons_of_mem _ hq)]
theorem sm_zero (j : Nat) : ∀ A : List (Nat × Row), sm A (fun _ => 0) j = 0
  | [] => rfl
  | p :: A => by rw [sm_cons, sm_zero j A]; simp [Rat.div_def, Rat.zero_mul, Rat.zero_add]
theorem made_zero {A : List (Nat × Row)} {r : Row} (h : ∀ j, gt r j = 0) : Made A r := fun j => by
  have e : (fun i => ((gt r i : Int) : Rat)) = fun _ => 0 := funext fun i => by rw [h i]; rfl
  rw [e, sm_zero, h j]; rfl
theorem made_closed (A : List (Nat × Row)) (n : Nat) : Closed n (Made A) := fun x y z a b d _ _ _ d0 e hx hy j => by
  have hd : ((d : Int) : Rat) ≠ 0 := by simpa using d0
  have ez : ∀ j, ((gt z j : Int) : Rat) = (a : Rat) / d * (gt x j : Int) + (b : Rat) / d * (gt y j : Int) := fun j => by
    have q : ((d * gt z j : Int) : Rat) = ((a * gt x j + b * gt y j : Int) : Rat) := by rw [e j]
    simp only [Rat.intCast_mul, Rat.intCast_add] at q
    have : ((gt z j : Int) : Rat) = ((d : Int) : Rat)⁻¹ * (((d : Int) : Rat) * (gt z j : Int)) := by
      rw [← Rat.mul_assoc, Rat.inv_mul_cancel _ hd, Rat.one_mul]
    rw [this, q]
    simp only [Rat.div_def]
    grind
  rw [ez j, hx j, hy j, ← sm_lin]
  exact sm_congr j A fun p _ => (ez p.1).symm
/-- one row alone -/
theorem sm_one {v : Nat → Rat} (j : Nat) : ∀ {A : List (Nat × Row)} {p : Nat × Row}, p ∈ A → A.Pairwise (fun p q => p.1 < q.1) → (∀ q ∈ A, q.1 ≠ p.1 → v q.1 = 0) → sm A v j = v p.1 / (gt p.2 p.1 : Int) * (gt p.2 j : Int)
  | [], _, h, _, _ => nomatch h
  | q :: A, p, h, hp, hz => by
    rw [List.pairwise_cons] at hp
    rw [sm_cons]
    rcases List.mem_cons.mp h with rfl | h
    · have : sm A v j = sm A (fun _ => 0) j := sm_congr j A fun q hq => hz q (List.mem_cons_of_mem _ hq) (Nat.ne_of_gt (hp.1 q hq))
      rw [this, sm_zero, Rat.add_zero]
    · rw [sm_one j h hp.2 fun r hr => hz r (List.mem_cons_of_mem _ hr), hz q List.mem_cons_self (Nat.ne_of_lt (hp.1 p h))]
      simp [Rat.div_def, Rat.zero_mul, Rat.zero_add]
theorem made_self {n : Nat} {A : List (Nat × Row)} (h : Red n A) {p : Nat × Row} (hp : p ∈ A) : Made A p.2 := fun j => by
  rw [sm_one j hp h.inc fun q hq hne => by rw [h.zer p hp q hq (Ne.symm hne)]; rfl]
  have h0 : ((gt p.2 p.1 : Int) : Rat) ≠ 0 := fun z => by have := h.pos p hp; have := Rat.intCast_eq_zero_iff.mp z; omega
  rw [Rat.div_def, Rat.mul_inv_cancel _ h0, Rat.one_mul]
/-- a row made of reduced rows leads at one of their pivots -/
theorem made_lead {n : Nat} {A : List (Nat × Row)} (h : Red n A) {r : Row} (hr : Made A r) {c : Nat} (hl : Lead r c) : ∃ p ∈ A, p.1 = c := by
  refine Classical.byContradiction fun hn => ?_
  have key : ∀ (B : List (Nat × Row)), (∀ p ∈ B, p ∈ A) → sm B (fun i => ((gt r i : Int) : Rat)) c = 0 := fun B => by
    induction B with
    | nil => exact fun _ => rfl
    | cons p B ih =>
      intro hB
      rw [sm_cons, ih fun q hq => hB q (List.mem_cons_of_mem _ hq), Rat.add_zero]
      have hp := hB p List.mem_cons_self
      rcases Nat.lt_trichotomy p.1 c with h1 | h1 | h1
      · rw [hl.2 p.1 h1]; simp [Rat.div_def, Rat.zero_mul]
      · exact absurd ⟨p, hp, h1⟩ hn
      · rw [h.lead p hp c h1]; simp [Rat.mul_zero]
  have := hr c
  rw [key A fun _ h => h] at this
  exact hl.1 (by simpa using this)
theorem asc_ext : ∀ {xs ys : List Nat}, xs.Pairwise (· < ·) → ys.Pairwise (· < ·) → (∀ x, x ∈ xs ↔ x ∈ ys) → xs = ys
  | [], [], _, _, _ => rfl
  | [], y :: ys, _, _, h => nomatch (h y).mpr List.mem_cons_self
  | x :: xs, [], _, _, h => nomatch (h x).mp List.mem_cons_self
  | x :: xs, y :: ys, hx, hy, h => by
    rw [List.pairwise_cons] at hx hy
    have e : x = y := by
      rcases List.mem_cons.mp ((h x).mp List.mem_cons_self) with e | h1
      · exact e
      · rcases List.mem_cons.mp ((h y).mpr List.mem_cons_self) with e | h2
        · exact e.symm
        · have := hy.1 x h1; have := hx.1 y h2; omega
    subst e
    congr 1
    refine asc_ext hx.2 hy.2 fun z => ⟨fun hz => ?_, fun hz => ?_⟩
    · rcases List.mem_cons.mp ((h z).mp (List.mem_cons_of_mem _ hz)) with e | h1
      · have := hx.1 z hz; omega
      · exact h1
    · rcases List.mem_cons.mp ((h z).mpr (List.mem_cons_of_mem _ hz)) with e | h1
      · have := hy.1 z hz; omega
      · exact h1
theorem row_ext {n : Nat} {r s : Row} (h1 : r.length = n) (h2 : s.length = n) (h : ∀ j, gt r j = gt s j) : r = s := by
  apply List.ext_getElem (h1.trans h2.symm)
  intro i a b
  have := h i
  unfold gt at this
  rw [List.getD_eq_getElem?_getD, List.getD_eq_getElem?_getD, List.getElem?_eq_getElem a, List.getElem?_eq_getElem b] at this
  exact this
theorem prop_eq {n : Nat} {r s : Row} {a b : Int} {c : Nat} (h1 : r.length = n) (h2 : s.length = n) (ha : 0 < a) (hb : 0 < b) (h : ∀ j, a * gt r j = b * gt s j) (g1 : gl r = 1) (g2 : gl s = 1) : r = s := by
  have e : r.map (a * ·) = s.map (b * ·) := by
    refine row_ext (n := n) (by rw [List.length_map, h1]) (by rw [List.length_map, h2]) fun j => ?_
    rw [gt_map (by simp), gt_map (by simp), h j]
  have f := congrArg gl e
  rw [gl_mul, gl_mul, g1, g2] at f
  have ab : a = b := by omega
  subst ab
  exact row_ext h1 h2 fun j => Int.eq_of_mul_eq_mul_left (by omega) (h j)
/-- reduced rows are told by what is made of them -/
theorem red_unique {n : Nat} {A B : List (Nat × Row)} (hA : Red n A) (hB : Red n B) (h1 : ∀ p ∈ A, Made B p.2) (h2 : ∀ p ∈ B, Made A p.2) : A = B := by
  have piv : A.map (·.1) = B.map (·.1) := by
    refine asc_ext (List.pairwise_map.mpr hA.inc) (List.pairwise_map.mpr hB.inc) fun c => ⟨fun hc => ?_, fun hc => ?_⟩
    · obtain ⟨p, hp, rfl⟩ := List.mem_map.mp hc
      obtain ⟨q, hq, e⟩ := made_lead hB (h1 p hp) (c := p.1) ⟨by have := hA.pos p hp; omega, hA.lead p hp⟩
      exact List.mem_map.mpr ⟨q, hq, e⟩
    · obtain ⟨p, hp, rfl⟩ := List.mem_map.mp hc
      obtain ⟨q, hq, e⟩ := made_lead hA (h2 p hp) (c := p.1) ⟨by have := hB.pos p hp; omega, hB.lead p hp⟩
      exact List.mem_map.mpr ⟨q, hq, e⟩
  have pair : ∀ p ∈ A, ∀ q ∈ B, p.1 = q.1 → p = q := fun p hp q hq e => by
    have m := h1 p hp
    have one : ∀ j, ((gt p.2 j : Int) : Rat) = ((gt p.2 q.1 : Int) : Rat) / (gt q.2 q.1 : Int) * (gt q.2 j : Int) := fun j => by
      rw [m j]
      refine sm_one j hq hB.inc fun r hr hne => ?_
      have hr' : r.1 ∈ A.map (·.1) := by rw [piv]; exact List.mem_map_of_mem hr
      obtain ⟨s, hs, es⟩ := List.mem_map.mp hr'
      rw [← es, hA.zer p hp s hs (by rw [e, es]; exact Ne.symm hne)]; rfl
    have hq0 : ((gt q.2 q.1 : Int) : Rat) ≠ 0 := fun z => by have := hB.pos q hq; have := Rat.intCast_eq_zero_iff.mp z; omega
    have int : ∀ j, gt q.2 q.1 * gt p.2 j = gt p.2 p.1 * gt q.2 j := fun j => by
      have := one j
      rw [← e] at this hq0 ⊢
      have z : ((gt q.2 p.1 * gt p.2 j : Int) : Rat) = ((gt p.2 p.1 * gt q.2 j : Int) : Rat) := by
        rw [Rat.intCast_mul, Rat.intCast_mul, this, Rat.div_def]
        have c := Rat.mul_inv_cancel _ hq0
        grind
      exact Rat.intCast_inj.mp z
    have er := prop_eq (c := 0) (hA.len p hp) (hB.len q hq) (hB.pos q hq) (hA.pos p hp) int (hA.prm p hp) (hB.prm q hq)
    obtain ⟨p1, p2⟩ := p
    obtain ⟨q1, q2⟩ := q
    simp only at e er
    rw [e, er]
  have len : A.length = B.length := by have := congrArg List.length piv; simpa using this
  apply List.ext_getElem len
  intro i a b
  refine pair _ (List.getElem_mem a) _ (List.getElem_mem b) ?_
  have : (A.map (·.1))[i]'(by simpa using a) = (B.map (·.1))[i]'(by simpa using b) := by congr 1
  simpa using this
end Rr

set_option linter.all false
set_option maxRecDepth 10000
/-! Reduced rows: rank, what is made of them, the same rows. -/
namespace Rr
inductive All2 {α β : Type} (R : α → β → Prop) : List α → List β → Prop
  | nil : All2 R [] []
  | cons {a : α} {b : β} {as : List α} {bs : List β} : R a b → All2 R as bs → All2 R (a :: as) (b :: bs)
def less (r o : Row) (c : Nat) : Row := List.zipWith (fun x y => gt o c * x - gt r c * y) r o
def stepR (st : List Row × Nat) (c : Nat) : List Row × Nat := match st.1.filter fun r => !decide (gt r c = 0) with
  | [] => st
  | f :: _ => (st.1.map fun r => less r f c, st.2 + 1)
def rankF (rows : List Row) (n : Nat) : Nat := ((List.range n).foldl stepR (rows, 0)).2
def Sim (n : Nat) (p l : Row) : Prop := p.length = n ∧ l.length = n ∧ ∃ a b : Int, a ≠ 0 ∧ b ≠ 0 ∧ ∀ j, a * gt p j = b * gt l j
theorem Sim.zero {n : Nat} {p l : Row} (h : Sim n p l) (j : Nat) : gt p j = 0 ↔ gt l j = 0 := by
  obtain ⟨_, _, a, b, ha, hb, e⟩ := h
  have := e j
  constructor
  · intro z; rw [z, Int.mul_zero] at this; exact (Int.mul_eq_zero.mp this.symm).resolve_left hb
  · intro z; rw [z, Int.mul_zero] at this; exact (Int.mul_eq_zero.mp this).resolve_left ha
theorem Sim.less {n : Nat} {p l f g : Row} (c : Nat) (h : Sim n p l) (k : Sim n f g) : Sim n (clr p (prim f) c) (less l g c) := by
  obtain ⟨h1, h2, a, b, ha, hb, e⟩ := h
  obtain ⟨k1, k2, a', b', ha', hb', e'⟩ := k
  have pl : (prim f).length = n := by rw [prim_len]; exact k1
  obtain ⟨d, d0, hd⟩ := clr_mul (h1.trans pl.symm) c
  refine ⟨(clr_len (h1.trans pl.symm) c).trans h1, by unfold Rr.less; rw [List.length_zipWith]; omega, d * pdiv f * a * a', b * b', ?_, Int.mul_ne_zero hb hb', fun j => ?_⟩
  · exact Int.mul_ne_zero (Int.mul_ne_zero (Int.mul_ne_zero d0 (pdiv_ne f)) ha) ha'
  · have q1 := hd j
    have q2 := prim_mul f j
    have q3 := prim_mul f c
    have q4 := e j
    have q5 := e c
    have q6 := e' j
    have q7 := e' c
    unfold Rr.less
    rw [gt_zip (by simp) (h2.trans k2.symm)]
    generalize gt (clr p (prim f) c) j = X at q1 ⊢
    generalize gt (prim f) c = P1 at q1 q3
    generalize gt (prim f) j = P2 at q1 q2
    generalize pdiv f = D at q2 q3 ⊢
    generalize gt p j = pj at q1 q4
    generalize gt p c = pc at q1 q5
    generalize gt l j = lj at q4 ⊢
    generalize gt l c = lc at q5 ⊢
    generalize gt f j = fj at q2 q6
    generalize gt f c = fc at q3 q7
    generalize gt g j = gj at q6 ⊢
    generalize gt g c = gc at q7 ⊢
    have s1 : d * D * a * a' * X = a * a' * D * (P1 * pj - pc * P2) := by rw [← q1]; grind
    have s2 : a * a' * D * (P1 * pj - pc * P2) = (a' * (D * P1)) * (a * pj) - (a * pc) * (a' * (D * P2)) := by grind
    rw [s1, s2, q2, q3, q4, q5, q6, q7]
    grind
theorem sim_filter {n c : Nat} : ∀ {ps ls : List Row}, All2 (Sim n) ps ls → All2 (Sim n) (ps.filter fun r => !decide (gt r c = 0)) (ls.filter fun r => !decide (gt r c = 0))
  | _, _, .nil => .nil
  | _, _, .cons (a := p) (b := l) h t => by
    have ih := sim_filter (c := c) t
    by_cases z : gt p c = 0
    · rw [List.filter_cons_of_neg (by rw [decide_eq_true z]; decide), List.filter_cons_of_neg (by rw [decide_eq_true ((h.zero c).mp z)]; decide)]; exact ih
    · rw [List.filter_cons_of_pos (by rw [decide_eq_false z]; rfl), List.filter_cons_of_pos (by rw [decide_eq_false fun q => z ((h.zero c).mpr q)]; rfl)]; exact .cons h ih
theorem sim_map {n c : Nat} {f g : Row} (k : Sim n f g) : ∀ {ps ls : List Row}, All2 (Sim n) ps ls → All2 (Sim n) (ps.map fun r => clr r (prim f) c) (ls.map fun r => less r g c)
  | _, _, .nil => .nil
  | _, _, .cons h t => .cons (h.less c k) (sim_map k t)
theorem sim_step {n c : Nat} {st : St} {sr : List Row × Nat} (h : All2 (Sim n) st.2 sr.1) (e : st.1.length = sr.2) : All2 (Sim n) (stepE st c).2 (stepR sr c).1 ∧ (stepE st c).1.length = (stepR sr c).2 := by
  have hf := sim_filter (c := c) h
  unfold stepE stepR
  cases e1 : st.2.filter fun r => !decide (gt r c = 0) with
  | nil =>
    rw [e1] at hf
    cases e2 : sr.1.filter fun r => !decide (gt r c = 0) with
    | nil => exact ⟨h, e⟩
    | cons => rw [e2] at hf; cases hf
  | cons f fs =>
    rw [e1] at hf
    cases e2 : sr.1.filter fun r => !decide (gt r c = 0) with
    | nil => rw [e2] at hf; cases hf
    | cons g gs =>
      rw [e2] at hf
      cases hf with
      | cons k _ => exact ⟨sim_map k h, by simp [e]⟩
theorem sim_fold {n : Nat} : ∀ (cs : List Nat) {st : St} {sr : List Row × Nat}, All2 (Sim n) st.2 sr.1 → st.1.length = sr.2 → (cs.foldl stepE st).1.length = (cs.foldl stepR sr).2
  | [], _, _, _, e => e
  | c :: cs, _, _, h, e => by
    obtain ⟨a, b⟩ := sim_step (c := c) h e
    exact sim_fold cs a b
theorem sim_refl {n : Nat} : ∀ {rows : List Row}, (∀ r ∈ rows, r.length = n) → All2 (Sim n) rows rows
  | [], _ => .nil
  | r :: rows, h => .cons ⟨h r List.mem_cons_self, h r List.mem_cons_self, 1, 1, by decide, by decide, fun _ => rfl⟩ (sim_refl fun s hs => h s (List.mem_cons_of_mem _ hs))
theorem rank_eq {n : Nat} {rows : List Row} (h : ∀ r ∈ rows, r.length = n) : (elimF rows n).1.length = rankF rows n := sim_fold _ (sim_refl h) rfl
/-! ### the same reduced rows -/
theorem same_red {n : Nat} {rows rows2 : List Row} (h : ∀ r ∈ rows, r.length = n) (h2 : ∀ r ∈ rows2, r.length = n) (hs : ∀ P : Row → Prop, Closed n P → (∀ r : Row, r.length = n → (∀ j, gt r j = 0) → P r) → ((∀ r ∈ rows, P r) ↔ ∀ r ∈ rows2, P r)) : (elimF rows n).1 = (elimF rows2 n).1 := by
  have rA := (elim_red h).red
  have rB := (elim_red h2).red
  have z : ∀ A (r : Row), r.length = n → (∀ j, gt r j = 0) → Made A r := fun A r _ h => made_zero h
  refine red_unique rA rB ?_ ?_
  · refine (elim_closed (made_closed _ n) (z _) h).mp ((hs _ (made_closed _ n) (z _)).mpr ?_)
    exact (elim_closed (made_closed _ n) (z _) h2).mpr fun p hp => made_self rB hp
  · refine (elim_closed (made_closed _ n) (z _) h2).mp ((hs _ (made_closed _ n) (z _)).mp ?_)
    exact (elim_closed (made_closed _ n) (z _) h).mpr fun p hp => made_self rA hp
theorem made_rows {n : Nat} {rows : List Row} (h : ∀ r ∈ rows, r.length = n) : ∀ r ∈ rows, Made (elimF rows n).1 r :=
  (elim_closed (made_closed _ n) (fun _ _ h => made_zero h) h).mpr fun p hp => made_self (elim_red h).red hp
/-- reduced rows stay -/
theorem red_again {n : Nat} {rows : List Row} (h : ∀ r ∈ rows, r.length = n) : (elimF ((elimF rows n).1.map (·.2)) n).1 = (elimF rows n).1 := by
  have rA := (elim_red h).red
  refine (same_red h (fun r hr => ?_) fun P hP h0 => ?_).symm
  · obtain ⟨p, hp, rfl⟩ := List.mem_map.mp hr; exact rA.len p hp
  · rw [elim_closed hP h0 h]
    exact ⟨fun q r hr => by obtain ⟨p, hp, rfl⟩ := List.mem_map.mp hr; exact q p hp, fun q p hp => q _ (List.mem_map_of_mem hp)⟩
/-! ### made of reduced rows, in integers -/
def scaleF (A : List (Nat × Row)) : Int := A.foldl (fun s p => s * gt p.2 p.1) 1
def factorF (s : Int) (r : Row) (p : Nat × Row) : Int := (s * gt r p.1).fdiv (gt p.2 p.1)
def madeStep (s : Int) (r t : Row) (p : Nat × Row) : Row := List.zipWith (fun x y => x - factorF s r p * y) t p.2
def madeF (A : List (Nat × Row)) (r : Row) : Row := A.foldl (madeStep (scaleF A) r) (r.map (scaleF A * ·))
theorem scale_from : ∀ (A : List (Nat × Row)) (s : Int), ∃ c, A.foldl (fun s p => s * gt p.2 p.1) s = s * c ∧ ∀ p ∈ A, gt p.2 p.1 ∣ c
  | [], s => ⟨1, by simp, fun _ h => nomatch h⟩
  | p :: A, s => by
    obtain ⟨c, e, h⟩ := scale_from A (s * gt p.2 p.1)
    refine ⟨gt p.2 p.1 * c, by rw [List.foldl_cons, e, Int.mul_assoc], fun q hq => ?_⟩
    rcases List.mem_cons.mp hq with rfl | hq
    · exact Int.dvd_mul_right _ _
    · exact Int.dvd_mul_of_dvd_right (h q hq)
theorem scale_dvd {A : List (Nat × Row)} {p : Nat × Row} (hp : p ∈ A) : gt p.2 p.1 ∣ scaleF A := by
  obtain ⟨c, e, h⟩ := scale_from A 1
  unfold scaleF
  rw [e, Int.one_mul]
  exact h p hp
theorem made_fold {n : Nat} {s : Int} {r : Row} : ∀ (A : List (Nat × Row)) (t : Row), t.length = n → (∀ p ∈ A, p.2.length = n) → (∀ p ∈ A, gt p.2 p.1 ≠ 0 ∧ gt p.2 p.1 ∣ s) → (A.foldl (madeStep s r) t).length = n ∧ ∀ j, ((gt (A.foldl (madeStep s r) t) j : Int) : Rat) = (gt t j : Int) - (s : Rat) * sm A (fun i => (gt r i : Int)) j
  | [], t, h, _, _ => ⟨h, fun j => by show _ = _ - _ * (0 : Rat); simp [Rat.mul_zero, Rat.sub_eq_add_neg, Rat.add_zero]⟩
  | p :: A, t, h, hl, hd => by
    have pl := hl p List.mem_cons_self
    have tl : (madeStep s r t p).length = n := by unfold madeStep; rw [List.length_zipWith]; omega
    obtain ⟨e1, e2⟩ := made_fold (s := s) (r := r) A (madeStep s r t p) tl (fun q hq => hl q (List.mem_cons_of_mem _ hq)) (fun q hq => hd q (List.mem_cons_of_mem _ hq))
    refine ⟨e1, fun j => ?_⟩
    rw [List.foldl_cons, e2 j, sm_cons]
    have gz : gt (madeStep s r t p) j = gt t j - factorF s r p * gt p.2 j := by unfold madeStep; rw [gt_zip (by simp) (h.trans pl.symm)]
    rw [gz]
    obtain ⟨p0, pd⟩ := hd p List.mem_cons_self
    have hp0 : ((gt p.2 p.1 : Int) : Rat) ≠ 0 := fun z => p0 (Rat.intCast_eq_zero_iff.mp z)
    have fac : gt p.2 p.1 * factorF s r p = s * gt r p.1 := fdiv_mul_cancel (Int.dvd_mul_of_dvd_left pd) p0
    have facQ : ((gt p.2 p.1 : Int) : Rat) * ((factorF s r p : Int) : Rat) = (s : Rat) * (gt r p.1 : Int) := by rw [← Rat.intCast_mul, ← Rat.intCast_mul, fac]
    have c := Rat.inv_mul_cancel _ hp0
    have fq : ((factorF s r p : Int) : Rat) = ((gt p.2 p.1 : Int) : Rat)⁻¹ * ((s : Rat) * (gt r p.1 : Int)) := by rw [← facQ, ← Rat.mul_assoc, c, Rat.one_mul]
    rw [Rat.intCast_sub, Rat.intCast_mul, fq, Rat.div_def]
    grind
theorem made_zeroF {n : Nat} {A : List (Nat × Row)} {r : Row} (h : Red n A) (hr : r.length = n) (hm : Made A r) : ∀ j, gt (madeF A r) j = 0 := fun j => by
  have := (made_fold (n := n) (s := scaleF A) (r := r) A (r.map (scaleF A * ·)) (by rw [List.length_map]; exact hr) h.len fun p hp => ⟨by have := h.pos p hp; omega, scale_dvd hp⟩).2 j
  rw [gt_map (by simp), ← hm j, Rat.intCast_mul] at this
  have z : ((gt (madeF A r) j : Int) : Rat) = 0 := by unfold madeF; rw [this]; grind
  exact Rat.intCast_eq_zero_iff.mp z
end Rr

set_option linter.all false
/-! Small solutions of equations (Siegel): by counting, no determinants. -/
namespace Rr
theorem pigeon : ∀ (m n : Nat) (g : Nat → Nat), m < n → (∀ k < n, g k < m) → ∃ i j, i < j ∧ j < n ∧ g i = g j
  | 0, n, g, h, hg => absurd (hg 0 h) (Nat.not_lt_zero _)
  | m + 1, 0, g, h, hg => absurd h (by omega)
  | m + 1, n + 1, g, h, hg => by
    by_cases he : ∃ i, i < n ∧ g i = g n
    · obtain ⟨i, h1, h2⟩ := he
      exact ⟨i, n, h1, Nat.lt_succ_self _, h2⟩
    · have hne : ∀ i, i < n → g i ≠ g n := fun i hi z => he ⟨i, hi, z⟩
      have hn := hg n (Nat.lt_succ_self _)
      obtain ⟨i, j, h1, h2, h3⟩ := pigeon m n (fun k => if g k = m then g n else g k) (by omega) (fun k hk => by
        have h1 := hg k (by omega)
        have h2 := hne k hk
        show (if g k = m then g n else g k) < m
        split <;> omega)
      refine ⟨i, j, h1, by omega, ?_⟩
      have e1 := hne i (by omega)
      have e2 := hne j h2
      have h3 : (if g i = m then g n else g i) = if g j = m then g n else g j := h3
      split at h3 <;> split at h3 <;> omega
/-! numbers from digits -/
def enc (Y : Nat) (ys : List Nat) : Nat := ys.foldr (fun y e => y + Y * e) 0
theorem enc_lt {Y : Nat} : ∀ (ys : List Nat), (∀ y ∈ ys, y < Y) → enc Y ys < Y ^ ys.length
  | [], _ => by simp [enc]
  | y :: ys, h => by
    have h1 := enc_lt ys fun z hz => h z (List.mem_cons_of_mem _ hz)
    have h2 := h y List.mem_cons_self
    show y + Y * enc Y ys < Y ^ (ys.length + 1)
    rw [Nat.pow_succ, Nat.mul_comm (Y ^ ys.length)]
    have : Y * (enc Y ys + 1) ≤ Y * Y ^ ys.length := Nat.mul_le_mul_left _ h1
    rw [Nat.mul_add] at this
    omega
theorem enc_inj {Y : Nat} : ∀ {ys zs : List Nat}, ys.length = zs.length → (∀ y ∈ ys, y < Y) → (∀ y ∈ zs, y < Y) → enc Y ys = enc Y zs → ys = zs
  | [], [], _, _, _, _ => rfl
  | y :: ys, z :: zs, hl, h1, h2, e => by
    have a := h1 y List.mem_cons_self
    have b := h2 z List.mem_cons_self
    have e : y + Y * enc Y ys = z + Y * enc Y zs := e
    have em := congrArg (· % Y) e
    have ed := congrArg (· / Y) e
    simp only [Nat.add_mul_mod_self_left, Nat.mod_eq_of_lt a, Nat.mod_eq_of_lt b] at em
    rw [Nat.add_mul_div_left _ _ (by omega), Nat.add_mul_div_left _ _ (by omega), Nat.div_eq_of_lt a, Nat.div_eq_of_lt b] at ed
    rw [em, enc_inj (by simpa using hl) (fun z hz => h1 z (List.mem_cons_of_mem _ hz)) (fun z hz => h2 z (List.mem_cons_of_mem _ hz)) (by omega)]
def digs (Y : Nat) : Nat → Nat → List Nat
  | 0, _ => []
  | n + 1, k => k % Y :: digs Y n (k / Y)
theorem digs_len (Y : Nat) : ∀ (n k : Nat), (digs Y n k).length = n
  | 0, _ => rfl
  | n + 1, k => by simp only [digs, List.length_cons, digs_len Y n]
theorem digs_lt {Y : Nat} (h : 0 < Y) : ∀ (n k : Nat), ∀ y ∈ digs Y n k, y < Y
  | 0, _, y, hy => by cases hy
  | n + 1, k, y, hy => by
    rcases List.mem_cons.mp hy with rfl | hy
    · exact Nat.mod_lt _ h
    · exact digs_lt h n _ y hy
theorem digs_inj {Y : Nat} (h : 0 < Y) : ∀ (n i j : Nat), i < Y ^ n → j < Y ^ n → digs Y n i = digs Y n j → i = j
  | 0, i, j, hi, hj, _ => by simp at hi hj; omega
  | n + 1, i, j, hi, hj, e => by
    simp only [digs, List.cons.injEq] at e
    have q : ∀ {k : Nat}, k < Y ^ (n + 1) → k / Y < Y ^ n := fun {k} hk => Nat.div_lt_of_lt_mul (by rw [Nat.mul_comm, ← Nat.pow_succ]; exact hk)
    have := digs_inj h n _ _ (q hi) (q hj) e.2
    rw [← Nat.mod_add_div i Y, ← Nat.mod_add_div j Y, e.1, this]
/-! sums of products -/
def dotz (r v : Row) : Int := (List.zipWith (· * ·) r v).sum
theorem dotz_cons (x y : Int) (r v : Row) : dotz (x :: r) (y :: v) = x * y + dotz r v := by simp [dotz]
theorem dotz_comm : ∀ (r v : Row), dotz r v = dotz v r
  | [], v => by cases v <;> rfl
  | x :: r, [] => rfl
  | x :: r, y :: v => by rw [dotz_cons, dotz_cons, dotz_comm r v, Int.mul_comm]
theorem dotz_sub : ∀ {r u v : Row}, u.length = v.length → dotz r (List.zipWith (· - ·) u v) = dotz r u - dotz r v
  | [], u, v, h => by simp [dotz]
  | x :: r, [], [], h => by simp [dotz]
  | x :: r, y :: u, z :: v, h => by
    rw [List.zipWith_cons_cons, dotz_cons, dotz_cons, dotz_cons, dotz_sub (by simpa using h), Int.mul_sub]
    omega
theorem dotz_abs {B X : Nat} : ∀ {r v : Row}, r.length = v.length → (∀ x ∈ r, x.natAbs ≤ B) → (∀ x ∈ v, x.natAbs ≤ X) → (dotz r v).natAbs ≤ r.length * B * X
  | [], v, _, _, _ => by simp [dotz]
  | x :: r, y :: v, h, h1, h2 => by
    rw [dotz_cons, List.length_cons, Nat.add_mul, Nat.add_mul, Nat.one_mul]
    have i := dotz_abs (r := r) (v := v) (by simpa using h) (fun z hz => h1 z (List.mem_cons_of_mem _ hz)) (fun z hz => h2 z (List.mem_cons_of_mem _ hz))
    have m : (x * y).natAbs ≤ B * X := by rw [Int.natAbs_mul]; exact Nat.mul_le_mul (h1 x List.mem_cons_self) (h2 y List.mem_cons_self)
    have := Int.natAbs_add_le (x * y) (dotz r v)
    omega
/-- fewer equations than unknowns have a small solution -/
theorem siegel {a : List Row} {N B : Nat} (ha : ∀ r ∈ a, r.length = N ∧ ∀ x ∈ r, x.natAbs ≤ B) (hl : a.length < N) (hB : 1 ≤ B) :
    ∃ m : Row, m.length = N ∧ (∃ x ∈ m, x ≠ 0) ∧ (∀ x ∈ m, x.natAbs ≤ (2 * N * B) ^ a.length) ∧ ∀ r ∈ a, dotz r m = 0 := by
  generalize hX : (2 * N * B) ^ a.length = X
  let u : Nat → Row := fun k => (digs (X + 1) N k).map fun (d : Nat) => (d : Int)
  let c : Nat := N * B * X
  let g : Nat → Nat := fun k => enc (2 * N * B * X + 1) (a.map fun r => (dotz r (u k) + (c : Int)).toNat)
  have ul : ∀ k, (u k).length = N := fun k => by simp only [u, List.length_map, digs_len]
  have ub : ∀ k, ∀ x ∈ u k, x.natAbs ≤ X := fun k x hx => by
    obtain ⟨d, hd, rfl⟩ := List.mem_map.mp hx
    have := digs_lt (Nat.succ_pos X) N k d hd
    simp only [Int.natAbs_natCast]; omega
  have db : ∀ k, ∀ r ∈ a, (dotz r (u k)).natAbs ≤ c := fun k r hr => by
    have := dotz_abs (r := r) (v := u k) (by rw [ul]; exact (ha r hr).1) (ha r hr).2 (ub k)
    rw [(ha r hr).1] at this
    exact this
  have gl : ∀ k, ∀ y ∈ a.map (fun r => (dotz r (u k) + (c : Int)).toNat), y < 2 * N * B * X + 1 := fun k y hy => by
    obtain ⟨r, hr, rfl⟩ := List.mem_map.mp hy
    have := db k r hr
    have e : 2 * N * B * X = 2 * c := by simp only [c]; rw [Nat.mul_assoc, Nat.mul_assoc, Nat.mul_assoc]
    omega
  have big : (2 * N * B * X + 1) ^ a.length < (X + 1) ^ N := by
    have pos : 1 ≤ 2 * N * B := Nat.mul_pos (by omega) hB
    have h1 : 2 * N * B * X + 1 ≤ 2 * N * B * (X + 1) := by rw [Nat.mul_add]; omega
    have h2 : (2 * N * B * X + 1) ^ a.length ≤ (2 * N * B * (X + 1)) ^ a.length := Nat.pow_le_pow_left h1 _
    rw [Nat.mul_pow, hX] at h2
    have h3 : (X + 1) ^ (a.length + 1) ≤ (X + 1) ^ N := Nat.pow_le_pow_right (Nat.succ_pos _) hl
    rw [Nat.pow_succ, Nat.mul_comm] at h3
    have h4 : X * (X + 1) ^ a.length < (X + 1) * (X + 1) ^ a.length := Nat.mul_lt_mul_of_pos_right (Nat.lt_succ_self _) (Nat.pow_pos (Nat.succ_pos _))
    omega
  obtain ⟨i, j, hij, hj, he⟩ := pigeon _ _ g big fun k _ => by
    have := enc_lt _ (gl k)
    rwa [List.length_map] at this
  have ev := enc_inj (by simp) (gl i) (gl j) he
  have eq : ∀ r ∈ a, dotz r (u i) = dotz r (u j) := fun r hr => by
    have := List.map_inj_left.mp ev r hr
    have h1 := db i r hr
    have h2 := db j r hr
    omega
  refine ⟨List.zipWith (· - ·) (u i) (u j), by rw [List.length_zipWith, ul, ul, Nat.min_self], ?_, fun x hx => ?_, fun r hr => by rw [dotz_sub (by rw [ul, ul]), eq r hr, Int.sub_self]⟩
  · refine Classical.byContradiction fun hn => ?_
    have z : ∀ x ∈ List.zipWith (· - ·) (u i) (u j), x = 0 := fun x hx => Classical.byContradiction fun h => hn ⟨x, hx, h⟩
    have same : ∀ {p q : List Nat}, p.length = q.length → (∀ x ∈ List.zipWith (· - ·) (p.map fun (d : Nat) => (d : Int)) (q.map fun (d : Nat) => (d : Int)), x = 0) → p = q := by
      intro p
      induction p with
      | nil => intro q hl _; cases q with
        | nil => rfl
        | cons => simp at hl
      | cons d p ih => intro q hl hz; cases q with
        | nil => simp at hl
        | cons e q =>
          simp only [List.map_cons, List.zipWith_cons_cons] at hz
          have := hz _ List.mem_cons_self
          rw [ih (by simpa using hl) fun x hx => hz x (List.mem_cons_of_mem _ hx), show d = e by omega]
    have := digs_inj (Nat.succ_pos X) N i j (Nat.lt_trans hij hj) hj (same (by rw [digs_len, digs_len]) z)
    omega
  · obtain ⟨t, ht, rfl⟩ := List.getElem_of_mem hx
    rw [List.getElem_zipWith]
    rw [List.length_zipWith, ul, ul] at ht
    have h1 := ub i _ (List.getElem_mem (show t < (u i).length by rw [ul]; omega))
    have h2 := ub j _ (List.getElem_mem (show t < (u j).length by rw [ul]; omega))
    have p : ∀ k, ∀ x ∈ u k, 0 ≤ x := fun k x hx => by
      obtain ⟨d, _, rfl⟩ := List.mem_map.mp hx
      exact Int.natCast_nonneg d
    have h3 := p i _ (List.getElem_mem (show t < (u i).length by rw [ul]; omega))
    have h4 := p j _ (List.getElem_mem (show t < (u j).length by rw [ul]; omega))
    omega
end Rr

set_option linter.all false
/-! Kernels of reduced rows, in plain numbers. -/
namespace Rr
/-! ### sums of rows -/
def lsum (L : List (Int × Row)) (j : Nat) : Int := (L.map fun q => q.1 * gt q.2 j).sum
theorem lsum_cons (q : Int × Row) (L : List (Int × Row)) (j : Nat) : lsum (q :: L) j = q.1 * gt q.2 j + lsum L j := by simp [lsum]
theorem lsum_app (L M : List (Int × Row)) (j : Nat) : lsum (L ++ M) j = lsum L j + lsum M j := by simp [lsum, List.sum_append]
theorem lsum_zero {L : List (Int × Row)} {j : Nat} (h : ∀ q ∈ L, gt q.2 j = 0) : lsum L j = 0 := by
  induction L with
  | nil => rfl
  | cons q L ih => rw [lsum_cons, h q List.mem_cons_self, ih fun r hr => h r (List.mem_cons_of_mem _ hr)]; omega
theorem gt_range (n : Nat) (f : Nat → Int) (j : Nat) : gt ((List.range n).map f) j = if j < n then f j else 0 := by
  show ((List.range n).map f).getD j 0 = _
  rw [List.getD_eq_getElem?_getD]
  by_cases h : j < n
  · rw [List.getElem?_map, List.getElem?_range h, if_pos h]; rfl
  · rw [List.getElem?_eq_none (by simp; omega), if_neg h]; rfl
theorem gt_out {r : Row} {j : Nat} (h : r.length ≤ j) : gt r j = 0 := Decidable.byContradiction fun z => by have := (gt_mem z).2; omega
theorem hull_sum {n : Nat} {P : Row → Prop} (hP : Closed n P) (h0 : ∀ r : Row, r.length = n → (∀ j, gt r j = 0) → P r) : ∀ (L : List (Int × Row)) (z : Row) (d : Int), d ≠ 0 → z.length = n → (∀ q ∈ L, q.2.length = n ∧ P q.2) → (∀ j, d * gt z j = lsum L j) → P z
  | [], z, d, hd, hz, _, e => h0 z hz fun j => (Int.mul_eq_zero.mp (e j)).resolve_left hd
  | q :: L, z, d, hd, hz, h, e => by
    have hL := fun r hr => h r (List.mem_cons_of_mem _ hr)
    have gy : ∀ j, gt ((List.range n).map (lsum L)) j = lsum L j := fun j => by
      rw [gt_range]
      split
      · rfl
      · exact (lsum_zero fun r hr => gt_out (by rw [(hL r hr).1]; omega)).symm
    have py : P ((List.range n).map (lsum L)) := hull_sum hP h0 L _ 1 (by decide) (by simp) hL fun j => by rw [gy j]; omega
    exact hP q.2 _ z q.1 1 d (h q List.mem_cons_self).1 (by simp) hz hd (fun j => by rw [e j, lsum_cons, gy j]; omega) (h q List.mem_cons_self).2 py
/-! ### sums up to a number -/
def sumN : Nat → (Nat → Int) → Int
  | 0, _ => 0
  | n + 1, f => f 0 + sumN n fun j => f (j + 1)
theorem sum_congr : ∀ {n : Nat} {f g : Nat → Int}, (∀ j < n, f j = g j) → sumN n f = sumN n g
  | 0, _, _, _ => rfl
  | n + 1, f, g, h => by unfold sumN; rw [h 0 (by omega), sum_congr fun j hj => h (j + 1) (by omega)]
theorem sum_lin (a b : Int) : ∀ (n : Nat) (f g : Nat → Int), sumN n (fun j => a * f j + b * g j) = a * sumN n f + b * sumN n g
  | 0, _, _ => by simp [sumN]
  | n + 1, f, g => by unfold sumN; rw [sum_lin a b n]; grind
theorem sum_mul (a : Int) (n : Nat) (f : Nat → Int) : sumN n (fun j => a * f j) = a * sumN n f := by
  have := sum_lin a 0 n f fun _ => 0
  simpa using this
theorem sum_zero : ∀ (n : Nat), sumN n (fun _ => 0) = 0
  | 0 => rfl
  | n + 1 => by unfold sumN; rw [sum_zero n]; rfl
theorem sum_one : ∀ {n c : Nat} {f : Nat → Int}, c < n → (∀ j < n, j ≠ c → f j = 0) → sumN n f = f c
  | n + 1, 0, f, _, h => by
    unfold sumN
    rw [sum_congr (g := fun _ => 0) fun j hj => h (j + 1) (by omega) (by omega), sum_zero, Int.add_zero]
  | n + 1, c + 1, f, hc, h => by
    unfold sumN
    rw [h 0 (by omega) (by omega), sum_one (c := c) (f := fun j => f (j + 1)) (by omega) fun j hj hne => h (j + 1) (by omega) (by omega), Int.zero_add]
theorem sum_filter : ∀ (n : Nat) (p : Nat → Bool) (g : Nat → Int), (((List.range n).filter p).map g).sum = sumN n fun j => if p j then g j else 0
  | 0, _, _ => rfl
  | n + 1, p, g => by
    have ih := sum_filter n (fun j => p (j + 1)) fun j => g (j + 1)
    rw [List.range_succ_eq_map, List.filter_cons]
    have e : ((List.filter p (List.map Nat.succ (List.range n))).map g).sum = sumN n fun j => if p (j + 1) then g (j + 1) else 0 := by
      rw [← ih, List.filter_map, List.map_map]; rfl
    show _ = (if p 0 then g 0 else 0) + sumN n fun j => if p (j + 1) then g (j + 1) else 0
    split
    · rename_i h; rw [List.map_cons, List.sum_cons, e]
    · rename_i h; rw [e, Int.zero_add]
theorem dotz_sum : ∀ {n : Nat} {r v : Row}, r.length = n → v.length = n → dotz r v = sumN n fun j => gt r j * gt v j
  | 0, [], [], _, _ => rfl
  | n + 1, x :: r, y :: v, h1, h2 => by
    rw [dotz_cons, dotz_sum (n := n) (by simpa using h1) (by simpa using h2)]
    rfl
theorem dotz_closed {n : Nat} {v : Row} (hv : v.length = n) : Closed n fun r => dotz r v = 0 := fun x y z a b d hx hy hz hd e h1 h2 => by
  simp only [dotz_sum hx hv, dotz_sum hy hv, dotz_sum hz hv] at *
  have : d * sumN n (fun j => gt z j * gt v j) = a * sumN n (fun j => gt x j * gt v j) + b * sumN n (fun j => gt y j * gt v j) :=
    calc d * sumN n (fun j => gt z j * gt v j) = sumN n (fun j => d * (gt z j * gt v j)) := (sum_mul _ _ _).symm
      _ = sumN n (fun j => a * (gt x j * gt v j) + b * (gt y j * gt v j)) := sum_congr fun j _ => by
        have := e j
        grind
      _ = _ := sum_lin _ _ _ _ _
  rw [h1, h2] at this
  exact (Int.mul_eq_zero.mp (this.trans (by omega))).resolve_left hd
theorem dotz_zero {n : Nat} {v : Row} (hv : v.length = n) : ∀ r : Row, r.length = n → (∀ j, gt r j = 0) → dotz r v = 0 := fun r hr h => by
  rw [dotz_sum hr hv, sum_congr (g := fun _ => 0) fun j _ => by rw [h j, Int.zero_mul], sum_zero]
/-! ### the vectors of a kernel -/
def Ker (A : List (Nat × Row)) (x : Row) : Prop := ∀ p ∈ A, dotz p.2 x = 0
def freeB (A : List (Nat × Row)) (f : Nat) : Bool := !(A.any fun p => decide (f = p.1))
def frees (A : List (Nat × Row)) (n : Nat) : List Nat := (List.range n).filter (freeB A)
theorem free_iff {A : List (Nat × Row)} {f : Nat} : freeB A f = true ↔ ∀ p ∈ A, p.1 ≠ f := by
  unfold freeB
  rw [Bool.not_eq_true', List.any_eq_false]
  exact ⟨fun h p hp z => by have := h p hp; simp [z] at this, fun h p hp => by simp only [decide_eq_true_eq]; exact fun z => h p hp z.symm⟩
theorem mem_frees {A : List (Nat × Row)} {n f : Nat} : f ∈ frees A n ↔ f < n ∧ ∀ p ∈ A, p.1 ≠ f := by
  unfold frees
  rw [List.mem_filter, List.mem_range, free_iff]
structure IsVec (s : Int) (A : List (Nat × Row)) (n f : Nat) (v : Row) : Prop where
  len : v.length = n
  at_ : gt v f = s
  piv : ∀ p ∈ A, gt p.2 p.1 * gt v p.1 = -(gt p.2 f * s)
  zer : ∀ j, j ≠ f → (∀ p ∈ A, p.1 ≠ j) → gt v j = 0
section
variable {A : List (Nat × Row)} {n : Nat} {s : Int} {vc : Nat → Row}
theorem vec_ker (hA : Red n A) {f : Nat} {v : Row} (hv : IsVec s A n f v) (hf : f ∈ frees A n) : Ker A v := fun p hp => by
  obtain ⟨f1, f2⟩ := mem_frees.mp hf
  have ne := f2 p hp
  rw [dotz_sum (hA.len p hp) hv.len]
  have e : sumN n (fun j => gt p.2 j * gt v j) = sumN n (fun j => 1 * (if j = f then gt p.2 f * s else 0) + 1 * (if j = p.1 then gt p.2 p.1 * gt v p.1 else 0)) := sum_congr fun j _ => by
    by_cases h1 : j = f
    · subst h1
      rw [if_pos rfl, if_neg (fun z => ne z.symm), hv.at_]; omega
    · by_cases h2 : j = p.1
      · subst h2; rw [if_neg h1, if_pos rfl]; omega
      · rw [if_neg h1, if_neg h2]
        by_cases h3 : ∃ q ∈ A, q.1 = j
        · obtain ⟨q, hq, rfl⟩ := h3
          rw [hA.zer p hp q hq (fun z => h2 z.symm)]; omega
        · rw [hv.zer j h1 fun q hq z => h3 ⟨q, hq, z⟩]; omega
  rw [e, sum_lin, sum_one (c := f) f1 fun j _ h => if_neg h, sum_one (c := p.1) (hA.lt p hp) fun j _ h => if_neg h, if_pos rfl, if_pos rfl, hv.piv p hp]
  omega
/-- what is in the kernel is a sum of the vectors -/
theorem ker_hull (hA : Red n A) (hv : ∀ f ∈ frees A n, IsVec s A n f (vc f)) (hs : s ≠ 0) {x : Row} (hx : x.length = n) (hk : Ker A x) {P : Row → Prop} (hP : Closed n P) (h0 : ∀ r : Row, r.length = n → (∀ j, gt r j = 0) → P r) (hp : ∀ f ∈ frees A n, P (vc f)) : P x := by
  refine hull_sum hP h0 ((frees A n).map fun f => (gt x f, vc f)) x s hs hx (fun q hq => ?_) fun j => ?_
  · obtain ⟨f, hf, rfl⟩ := List.mem_map.mp hq
    exact ⟨(hv f hf).len, hp f hf⟩
  · have e : lsum ((frees A n).map fun f => (gt x f, vc f)) j = sumN n fun f => if freeB A f then gt x f * gt (vc f) j else 0 := by
      unfold lsum frees
      rw [List.map_map, ← sum_filter]; rfl
    rw [e]
    by_cases hj : j < n
    · by_cases h3 : ∃ p ∈ A, p.1 = j
      · obtain ⟨p, hp, rfl⟩ := h3
        have pos := hA.pos p hp
        have e1 : gt p.2 p.1 * sumN n (fun f => if freeB A f then gt x f * gt (vc f) p.1 else 0) = -s * sumN n (fun f => if freeB A f then gt p.2 f * gt x f else 0) := by
          refine (sum_mul _ _ _).symm.trans (Eq.trans ?_ (sum_mul _ _ _))
          refine sum_congr fun f hf => ?_
          by_cases h : freeB A f = true
          · have := (hv f (List.mem_filter.mpr ⟨List.mem_range.mpr hf, h⟩)).piv p hp
            simp only [h, if_true]
            grind
          · simp only [h]; simp
        have e2 := hk p hp
        rw [dotz_sum (hA.len p hp) hx] at e2
        have e3 : sumN n (fun j => gt p.2 j * gt x j) = sumN n (fun j => 1 * (if freeB A j then gt p.2 j * gt x j else 0) + 1 * (if j = p.1 then gt p.2 p.1 * gt x p.1 else 0)) := sum_congr fun j _ => by
          by_cases h2 : j = p.1
          · subst h2
            have : freeB A p.1 = false := Bool.eq_false_iff.mpr fun z => free_iff.mp z p hp rfl
            rw [this, if_pos rfl]; simp
          · rw [if_neg h2]
            by_cases h : freeB A j = true
            · rw [if_pos h]; omega
            · rw [if_neg h]
              obtain ⟨q, hq, hqj⟩ : ∃ q ∈ A, q.1 = j := Classical.byContradiction fun z => h (free_iff.mpr fun q hq e => z ⟨q, hq, e⟩)
              subst hqj
              rw [hA.zer p hp q hq (fun z => h2 z.symm)]; omega
        rw [e3, sum_lin, sum_one (n := n) (c := p.1) (f := fun j => if j = p.1 then gt p.2 p.1 * gt x p.1 else 0) (hA.lt p hp) fun j _ h => if_neg h, if_pos rfl] at e2
        have key : gt p.2 p.1 * (s * gt x p.1) = gt p.2 p.1 * sumN n (fun f => if freeB A f then gt x f * gt (vc f) p.1 else 0) := by rw [e1]; grind
        exact Int.eq_of_mul_eq_mul_left (by omega) key
      · have hf : j ∈ frees A n := mem_frees.mpr ⟨hj, fun p hp z => h3 ⟨p, hp, z⟩⟩
        refine Eq.trans ?_ (sum_one (c := j) hj fun f hf2 hne => ?_).symm
        · rw [if_pos (List.mem_filter.mp hf).2, (hv j hf).at_, Int.mul_comm]
        by_cases h : freeB A f = true
        · rw [if_pos h, (hv f (List.mem_filter.mpr ⟨List.mem_range.mpr hf2, h⟩)).zer j (fun z => hne z.symm) fun p hp z => h3 ⟨p, hp, z⟩, Int.mul_zero]
        · rw [if_neg h]
    · rw [gt_out (by omega : x.length ≤ j), Int.mul_zero]
      refine (sum_zero n).symm.trans (sum_congr fun f hf => Eq.symm ?_)
      by_cases h : freeB A f = true
      · rw [if_pos h, gt_out (r := vc f) (by rw [(hv f (List.mem_filter.mpr ⟨List.mem_range.mpr hf, h⟩)).len]; omega), Int.mul_zero]
      · rw [if_neg h]
end
/-! ### how many -/
theorem bound_all (a : List Row) : ∃ B, 1 ≤ B ∧ ∀ r ∈ a, ∀ x ∈ r, x.natAbs ≤ B := by
  have one : ∀ r : Row, ∃ B, ∀ x ∈ r, x.natAbs ≤ B := fun r => by
    induction r with
    | nil => exact ⟨0, fun _ h => nomatch h⟩
    | cons x r ih =>
      obtain ⟨B, h⟩ := ih
      exact ⟨max B x.natAbs, fun y hy => by
        rcases List.mem_cons.mp hy with rfl | hy
        · omega
        · have := h y hy; omega⟩
  induction a with
  | nil => exact ⟨1, Nat.le_refl _, fun _ h => nomatch h⟩
  | cons r a ih =>
    obtain ⟨B, h1, h⟩ := ih
    obtain ⟨C, hC⟩ := one r
    exact ⟨max B C, by omega, fun s hs x hx => by
      rcases List.mem_cons.mp hs with rfl | hs
      · have := hC x hx; omega
      · have := h s hs x hx; omega⟩
theorem lsum_zip (j : Nat) : ∀ (m : Row) (R : List Row), lsum (m.zip R) j = dotz (R.map fun r => gt r j) m
  | [], R => by cases R <;> simp [lsum, dotz]
  | x :: m, [] => by simp [lsum, dotz]
  | x :: m, r :: R => by rw [List.zip_cons_cons, lsum_cons, List.map_cons, dotz_cons, lsum_zip j m R, Int.mul_comm]
/-- more rows than the reduced ones that they are made of: one is made of others -/
theorem dep {n : Nat} {B : List (Nat × Row)} (R : List Row) (h : ∀ r ∈ R, r.length = n ∧ Made B r) (hl : B.length < R.length) : ∃ L : List (Int × Row), L.map (·.2) = R ∧ (∃ q ∈ L, q.1 ≠ 0) ∧ ∀ j, lsum L j = 0 := by
  obtain ⟨Bd, hB, hb⟩ := bound_all (B.map fun q => R.map fun r => gt r q.1)
  obtain ⟨m, m1, ⟨x, hx, hx0⟩, _, m4⟩ := siegel (a := B.map fun q => R.map fun r => gt r q.1) (N := R.length) (B := Bd) (fun r hr => ⟨by obtain ⟨q, _, rfl⟩ := List.mem_map.mp hr; rw [List.length_map], hb r hr⟩) (by rw [List.length_map]; exact hl) hB
  have e2 : (m.zip R).map (·.2) = R := List.map_snd_zip (by omega)
  have e1 : (m.zip R).map (·.1) = m := List.map_fst_zip (by omega)
  refine ⟨m.zip R, e2, ?_, fun j => ?_⟩
  · rw [← e1] at hx
    obtain ⟨q, hq, rfl⟩ := List.mem_map.mp hx
    exact ⟨q, hq, hx0⟩
  · have len : ∀ q ∈ m.zip R, q.2.length = n ∧ Made B q.2 := fun q hq => h q.2 (by rw [← e2]; exact List.mem_map_of_mem hq)
    have gy : ∀ j, gt ((List.range n).map (lsum (m.zip R))) j = lsum (m.zip R) j := fun j => by
      rw [gt_range]
      split
      · rfl
      · exact (lsum_zero fun r hr => gt_out (by rw [(len r hr).1]; omega)).symm
    have mk : Made B ((List.range n).map (lsum (m.zip R))) := hull_sum (made_closed B n) (fun _ _ h => made_zero h) (m.zip R) _ 1 (by decide) (by simp) len fun j => by rw [gy j]; omega
    have := mk j
    rw [gy j, sm_congr (u := fun _ => 0) j B fun p hp => by rw [gy, lsum_zip, m4 _ (List.mem_map_of_mem hp)]; rfl, sm_zero] at this
    exact Rat.intCast_eq_zero_iff.mp this
end Rr

set_option linter.all false
/-! Kernels of kernels; how many rows; small kernels. -/
namespace Rr
/-! ### how many rows are left -/
def nzr (r : Row) : Bool := r.any fun x => !decide (x = 0)
theorem nzr_iff {r : Row} : nzr r = true ↔ ∃ j, gt r j ≠ 0 := by
  unfold nzr
  rw [List.any_eq_true]
  constructor
  · rintro ⟨x, hx, h⟩
    obtain ⟨i, hi, rfl⟩ := List.getElem_of_mem hx
    refine ⟨i, ?_⟩
    show r.getD i 0 ≠ 0
    rw [List.getD_eq_getElem?_getD, List.getElem?_eq_getElem hi]
    simpa using h
  · rintro ⟨j, h⟩
    exact ⟨_, (gt_mem h).1, by simpa using h⟩
theorem count_map_le {f : Row → Row} {p : Row → Bool} : ∀ {l : List Row}, (∀ r ∈ l, p (f r) = true → p r = true) → (l.map f).countP p ≤ l.countP p
  | [], _ => Nat.le_refl _
  | r :: l, h => by
    have ih := count_map_le fun s hs => h s (List.mem_cons_of_mem _ hs)
    have h0 := h r List.mem_cons_self
    rw [List.map_cons, List.countP_cons, List.countP_cons]
    by_cases h1 : p (f r) = true
    · rw [if_pos h1, if_pos (h0 h1)]; omega
    · rw [if_neg h1]; omega
theorem count_map_lt {f : Row → Row} {p : Row → Bool} : ∀ {l : List Row}, (∀ r ∈ l, p (f r) = true → p r = true) → (∃ r ∈ l, p r = true ∧ p (f r) = false) → (l.map f).countP p + 1 ≤ l.countP p
  | [], _, h => by obtain ⟨_, h, _⟩ := h; cases h
  | r :: l, h, hx => by
    have hl := fun s hs => h s (List.mem_cons_of_mem _ hs)
    have ih := count_map_le hl
    rw [List.map_cons, List.countP_cons, List.countP_cons]
    obtain ⟨s, hs, h1, h2⟩ := hx
    rcases List.mem_cons.mp hs with rfl | hs
    · rw [if_pos h1, if_neg (by rw [h2]; decide)]; omega
    · have := count_map_lt hl ⟨s, hs, h1, h2⟩
      have h0 := h r List.mem_cons_self
      by_cases h3 : p (f r) = true
      · rw [if_pos h3, if_pos (h0 h3)]; omega
      · rw [if_neg h3]; omega
theorem step_nz {n : Nat} {st : St} (h : ∀ r ∈ st.2, r.length = n) (c : Nat) : stepE st c = st ∨ ((stepE st c).1.length = st.1.length + 1 ∧ (stepE st c).2.countP nzr + 1 ≤ st.2.countP nzr) := by
  unfold stepE
  split
  · exact .inl rfl
  · rename_i f fs e
    have hf : f ∈ st.2 ∧ gt f c ≠ 0 := by
      have : f ∈ st.2.filter fun r => !decide (gt r c = 0) := by rw [e]; exact List.mem_cons_self
      exact ⟨(List.mem_filter.mp this).1, by simpa using (List.mem_filter.mp this).2⟩
    refine .inr ⟨by simp, count_map_lt (fun r hr hz => ?_) ⟨f, hf.1, nzr_iff.mpr ⟨c, hf.2⟩, ?_⟩⟩
    · refine nzr_iff.mpr (Classical.byContradiction fun hn => ?_)
      obtain ⟨j, hj⟩ := nzr_iff.mp hz
      have z : ∀ j, gt r j = 0 := fun j => Classical.byContradiction fun q => hn ⟨j, q⟩
      exact hj (clr_zero (by rw [prim_len, h r hr, h f hf.1]) (by rw [z, z]; omega))
    · refine Bool.eq_false_iff.mpr fun hz => ?_
      obtain ⟨j, hj⟩ := nzr_iff.mp hz
      refine hj (clr_zero (by rw [prim_len]) ?_)
      have e1 := prim_mul f c
      have e2 := prim_mul f j
      rw [← e1, ← e2]; grind
theorem step_len {n : Nat} {st : St} (h : ∀ r ∈ st.2, r.length = n) (c : Nat) : ∀ r ∈ (stepE st c).2, r.length = n := by
  unfold stepE
  split
  · exact h
  · rename_i f fs e
    have hf : f ∈ st.2 := by
      have : f ∈ st.2.filter fun r => !decide (gt r c = 0) := by rw [e]; exact List.mem_cons_self
      exact (List.mem_filter.mp this).1
    intro r hr
    obtain ⟨s, hs, rfl⟩ := List.mem_map.mp hr
    rw [clr_len (by rw [prim_len, h s hs, h f hf]), h s hs]
theorem fold_nz {n : Nat} : ∀ (cs : List Nat) (st : St), (∀ r ∈ st.2, r.length = n) → (cs.foldl stepE st).1.length + (cs.foldl stepE st).2.countP nzr ≤ st.1.length + st.2.countP nzr
  | [], st, _ => Nat.le_refl _
  | c :: cs, st, h => by
    have ih := fold_nz cs (stepE st c) (step_len h c)
    rcases step_nz h c with e | ⟨e1, e2⟩
    · rw [List.foldl_cons]; rw [e] at ih ⊢; exact ih
    · rw [List.foldl_cons]; omega
theorem elim_count {n : Nat} {rows : List Row} (h : ∀ r ∈ rows, r.length = n) : (elimF rows n).1.length ≤ rows.length := by
  have := fold_nz (List.range n) ([], rows) h
  have h2 : rows.countP nzr ≤ rows.length := List.countP_le_length
  simp only [List.length_nil] at this
  unfold elimF
  omega
/-! ### sums over rows of one kind -/
theorem lsum_at {L : List (Int × Row)} {q : Int × Row} {j : Nat} : ∀ {M N : List (Int × Row)}, L = M ++ q :: N → (∀ r ∈ M, gt r.2 j = 0) → (∀ r ∈ N, gt r.2 j = 0) → lsum L j = q.1 * gt q.2 j := fun {M N} e h1 h2 => by
  rw [e, lsum_app, lsum_cons, lsum_zero h1, lsum_zero h2]; omega
/-- the coefficient of a row is told at its own place -/
theorem coef_at {ι : Type} {L : List (Int × Row)} {F : List ι} {g : ι → Row} (e : L.map (·.2) = F.map g) (pl : ι → Nat) (h : F.Pairwise fun a b => gt (g a) (pl b) = 0 ∧ gt (g b) (pl a) = 0) {q : Int × Row} (hq : q ∈ L) : ∃ a ∈ F, q.2 = g a ∧ lsum L (pl a) = q.1 * gt (g a) (pl a) := by
  obtain ⟨M, N, rfl⟩ := List.append_of_mem hq
  rw [List.map_append, List.map_cons] at e
  obtain ⟨F1, F2, rfl, e1, e2⟩ := List.map_eq_append_iff.mp e.symm
  obtain ⟨a, F3, rfl, e3, e4⟩ := List.map_eq_cons_iff.mp e2
  refine ⟨a, by simp, e3.symm, ?_⟩
  rw [lsum_at rfl (fun r hr => ?_) (fun r hr => ?_), ← e3]
  · have : r.2 ∈ F1.map g := by rw [e1]; exact List.mem_map_of_mem hr
    obtain ⟨b, hb, e⟩ := List.mem_map.mp this
    rw [← e]
    exact ((List.pairwise_append.mp h).2.2 b hb a List.mem_cons_self).1
  · have : r.2 ∈ F3.map g := by rw [e4]; exact List.mem_map_of_mem hr
    obtain ⟨b, hb, e⟩ := List.mem_map.mp this
    rw [← e]
    exact ((List.pairwise_cons.mp (List.pairwise_append.mp h).2.1).1 b hb).2
theorem red_pw {n : Nat} {A : List (Nat × Row)} (hA : Red n A) : A.Pairwise fun a b => gt a.2 b.1 = 0 ∧ gt b.2 a.1 = 0 :=
  hA.inc.imp_of_mem fun {a b} ha hb h => ⟨hA.zer a ha b hb (Nat.ne_of_lt h), hA.zer b hb a ha (Nat.ne_of_gt h)⟩
/-- reduced rows that are made of as many others are these -/
theorem red_dim {n : Nat} {A C : List (Nat × Row)} (hA : Red n A) (hC : Red n C) (h : ∀ p ∈ A, Made C p.2) (hl : C.length ≤ A.length) : A = C := by
  refine red_unique hA hC h fun c hc => ?_
  obtain ⟨L, e, ⟨q, hq, q0⟩, z⟩ := dep (B := C) (n := n) (A.map (·.2) ++ [c.2]) (fun r hr => by
    rcases List.mem_append.mp hr with hr | hr
    · obtain ⟨p, hp, rfl⟩ := List.mem_map.mp hr; exact ⟨hA.len p hp, h p hp⟩
    · rw [List.mem_singleton.mp hr]; exact ⟨hC.len c hc, made_self hC hc⟩) (by simp; omega)
  obtain ⟨L1, L2, rfl, e1, e2⟩ := List.map_eq_append_iff.mp e
  obtain ⟨d, L3, rfl, e3, e4⟩ := List.map_eq_cons_iff.mp e2
  cases List.map_eq_nil_iff.mp e4
  have zz : ∀ j, lsum L1 j + d.1 * gt c.2 j = 0 := fun j => by
    have := z j
    rw [lsum_app, lsum_cons, e3] at this
    simpa [lsum] using this
  have d0 : d.1 ≠ 0 := fun d0 => by
    have hq1 : q ∈ L1 := by
      rcases List.mem_append.mp hq with hq | hq
      · exact hq
      · rw [List.mem_singleton.mp hq] at q0; exact absurd d0 q0
    obtain ⟨a, ha, e5, e6⟩ := coef_at e1 (fun a : Nat × Row => a.1) (red_pw hA) hq1
    have := zz a.1
    rw [d0, e6] at this
    have pos := hA.pos a ha
    have : q.1 * gt a.2 a.1 = 0 := by omega
    rcases Int.mul_eq_zero.mp this with h | h
    · exact q0 h
    · omega
  refine hull_sum (made_closed A n) (fun _ _ h => made_zero h) L1 c.2 (-d.1) (by omega) (hC.len c hc) (fun r hr => ?_) fun j => by have := zz j; grind
  have : r.2 ∈ A.map (·.2) := by rw [← e1]; exact List.mem_map_of_mem hr
  obtain ⟨p, hp, e⟩ := List.mem_map.mp this
  rw [← e]
  exact ⟨hA.len p hp, made_self hA hp⟩
/-- as many rows as there are reduced ones suffice -/
theorem gen_sub {n : Nat} : ∀ (m : Nat) (rows : List Row), rows.length = m → (∀ r ∈ rows, r.length = n) → ∃ Ch : List Row, (∀ r ∈ Ch, r ∈ rows) ∧ Ch.length = (elimF rows n).1.length ∧ (elimF Ch n).1 = (elimF rows n).1
  | 0, rows, hm, h => ⟨rows, fun _ h => h, by have := elim_count h; omega, rfl⟩
  | m + 1, rows, hm, h => by
    by_cases hc : rows.length = (elimF rows n).1.length
    · exact ⟨rows, fun _ h => h, hc, rfl⟩
    · have hl := elim_count h
      obtain ⟨L, e, ⟨q, hq, q0⟩, z⟩ := dep (n := n) rows (fun r hr => ⟨h r hr, made_rows h r hr⟩) (by omega)
      obtain ⟨M, N, rfl⟩ := List.append_of_mem hq
      rw [List.map_append, List.map_cons] at e
      have sub : ∀ r ∈ (M ++ N).map (·.2), r ∈ rows := fun r hr => by
        rw [← e]
        rw [List.map_append] at hr
        rcases List.mem_append.mp hr with hr | hr
        · exact List.mem_append_left _ hr
        · exact List.mem_append_right _ (List.mem_cons_of_mem _ hr)
      have len2 : ∀ r ∈ (M ++ N).map (·.2), r.length = n := fun r hr => h r (sub r hr)
      have qr : q.2 ∈ rows := by rw [← e]; exact List.mem_append_right _ List.mem_cons_self
      have same : (elimF ((M ++ N).map (·.2)) n).1 = (elimF rows n).1 := same_red len2 h fun P hP h0 => by
        refine ⟨fun hp r hr => ?_, fun hp r hr => hp r (sub r hr)⟩
        have own : P q.2 := by
          refine hull_sum hP h0 (M ++ N) q.2 (-q.1) (by omega) (h q.2 qr) (fun s hs => ⟨len2 _ (List.mem_map_of_mem hs), hp _ (List.mem_map_of_mem hs)⟩) fun j => ?_
          have := z j
          rw [lsum_app, lsum_cons] at this
          rw [lsum_app]; grind
        rw [← e] at hr
        rcases List.mem_append.mp hr with hr | hr
        · exact hp r (by rw [List.map_append]; exact List.mem_append_left _ hr)
        · rcases List.mem_cons.mp hr with rfl | hr
          · exact own
          · exact hp r (by rw [List.map_append]; exact List.mem_append_right _ hr)
      have hm2 : ((M ++ N).map (·.2)).length = m := by
        have := congrArg List.length e
        simp at this ⊢
        omega
      obtain ⟨Ch, c1, c2, c3⟩ := gen_sub m _ hm2 len2
      exact ⟨Ch, fun r hr => sub r (c1 r hr), by rw [c2, same], by rw [c3, same]⟩
/-! ### kernels -/
section
variable {A : List (Nat × Row)} {n : Nat} {s : Int} {vc : Nat → Row}
theorem frees_count (hA : Red n A) : (frees A n).length + A.length = n := by
  have e : (List.range n).filter (fun f => !freeB A f) = A.map (·.1) := by
    refine asc_ext (List.pairwise_lt_range.filter _) (List.pairwise_map.mpr hA.inc) fun x => ?_
    rw [List.mem_filter, List.mem_range]
    constructor
    · rintro ⟨_, h⟩
      refine Classical.byContradiction fun hn => ?_
      have : freeB A x = true := free_iff.mpr fun p hp z => hn (z ▸ List.mem_map_of_mem hp)
      rw [this] at h; cases h
    · intro h
      obtain ⟨p, hp, rfl⟩ := List.mem_map.mp h
      refine ⟨hA.lt p hp, ?_⟩
      rw [Bool.not_eq_true']
      exact Bool.eq_false_iff.mpr fun z => free_iff.mp z p hp rfl
  have h1 := congrArg List.length e
  have h2 : (List.range n).length = (List.range n).countP (freeB A) + (List.range n).countP fun f => !freeB A f := by
    rw [List.length_eq_countP_add_countP (freeB A)]
    congr 2
    funext f
    simp
  rw [List.length_map, ← List.countP_eq_length_filter] at h1
  rw [List.length_range, h1] at h2
  unfold frees
  rw [← List.countP_eq_length_filter]
  omega
/-- the kernel's reduced rows -/
structure IsKer (n : Nat) (A B : List (Nat × Row)) : Prop where
  red : Red n B
  ker : ∀ p ∈ B, Ker A p.2
  all : ∀ x : Row, x.length = n → Ker A x → Made B x
  len : B.length + A.length = n
theorem ker_rows (hA : Red n A) (hv : ∀ f ∈ frees A n, IsVec s A n f (vc f)) (hs : s ≠ 0) : IsKer n A (elimF ((frees A n).map vc) n).1 := by
  have lv : ∀ r ∈ (frees A n).map vc, r.length = n := fun r hr => by obtain ⟨f, hf, rfl⟩ := List.mem_map.mp hr; exact (hv f hf).len
  have rB := (elim_red lv).red
  have mv : ∀ f ∈ frees A n, Made (elimF ((frees A n).map vc) n).1 (vc f) := fun f hf => made_rows lv _ (List.mem_map_of_mem hf)
  refine ⟨rB, fun p hp q hq => ?_, fun x hx hk => ker_hull hA hv hs hx hk (made_closed _ n) (fun _ _ h => made_zero h) mv, ?_⟩
  · have := (elim_closed (P := fun r => dotz r q.2 = 0) (dotz_closed (hA.len q hq)) (dotz_zero (hA.len q hq)) lv).mp (fun r hr => by
      obtain ⟨f, hf, rfl⟩ := List.mem_map.mp hr
      rw [dotz_comm]
      exact vec_ker hA (hv f hf) hf q hq) p hp
    rw [dotz_comm]; exact this
  · have h1 := elim_count lv
    rw [List.length_map] at h1
    have h2 : (frees A n).length ≤ (elimF ((frees A n).map vc) n).1.length := by
      refine Nat.le_of_not_lt fun hl => ?_
      obtain ⟨L, e, ⟨q, hq, q0⟩, z⟩ := dep (n := n) ((frees A n).map vc) (fun r hr => by obtain ⟨f, hf, rfl⟩ := List.mem_map.mp hr; exact ⟨(hv f hf).len, mv f hf⟩) (by rw [List.length_map]; exact hl)
      have pw : (frees A n).Pairwise fun a b => gt (vc a) b = 0 ∧ gt (vc b) a = 0 := by
        have : (frees A n).Pairwise (· < ·) := List.pairwise_lt_range.filter _
        refine this.imp_of_mem fun {a b} ha hb h => ⟨(hv a ha).zer b (Nat.ne_of_gt h) fun p hp z => (mem_frees.mp hb).2 p hp z, (hv b hb).zer a (Nat.ne_of_lt h) fun p hp z => (mem_frees.mp ha).2 p hp z⟩
      obtain ⟨f, hf, e1, e2⟩ := coef_at e (fun f => f) pw hq
      rw [z f, (hv f hf).at_] at e2
      rcases Int.mul_eq_zero.mp e2.symm with h | h
      · exact q0 h
      · exact hs h
    have := frees_count hA
    omega
/-- the kernel of the kernel -/
theorem ker_ker {B C : List (Nat × Row)} (hA : Red n A) (hB : IsKer n A B) (hC : IsKer n B C) : A = C :=
  red_dim hA hC.red (fun p hp => hC.all p.2 (hA.len p hp) fun q hq => by rw [dotz_comm]; exact hB.ker q hq p hp) (by have := hB.len; have := hC.len; omega)
theorem dvd_gl {d : Int} : ∀ {xs : List Int}, (∀ x ∈ xs, d ∣ x) → d ∣ (gl xs : Int)
  | [], _ => by simp [gl]
  | x :: xs, h => by
    rw [gl_cons]
    have h1 := Int.natAbs_dvd_natAbs.mpr (h x List.mem_cons_self)
    have h2 := Int.natAbs_dvd_natAbs.mpr (dvd_gl fun y hy => h y (List.mem_cons_of_mem _ hy))
    rw [Int.natAbs_natCast] at h2
    exact Int.natAbs_dvd_natAbs.mp (by rw [Int.natAbs_natCast]; exact Nat.dvd_gcd h1 h2)
/-- its rows are small -/
theorem ker_small {rows : List Row} {B : List (Nat × Row)} {M : Nat} (h : ∀ r ∈ rows, r.length = n ∧ ∀ x ∈ r, x.natAbs ≤ M) (hM : 1 ≤ M) (hB : IsKer n (elimF rows n).1 B) : ∀ q ∈ B, ∀ j, (gt q.2 j).natAbs ≤ (2 * n * M) ^ (n - 1) := fun q hq => by
  obtain ⟨Ch, c1, c2, c3⟩ := gen_sub _ rows rfl fun r hr => (h r hr).1
  have lC : ∀ r ∈ Ch, r.length = n := fun r hr => (h r (c1 r hr)).1
  obtain ⟨P1, P2, e⟩ := List.append_of_mem hq
  have hn : 0 < n := Nat.lt_of_le_of_lt (Nat.zero_le _) (hB.red.lt q hq)
  let unit : Nat × Row → Row := fun p => (List.range n).map fun j => if j = p.1 then 1 else 0
  have hl : (Ch ++ (P1 ++ P2).map unit).length = n - 1 := by
    have := congrArg List.length e
    simp at this ⊢
    have := hB.len
    omega
  obtain ⟨x, x1, ⟨y, hy, y0⟩, x3, x4⟩ := siegel (a := Ch ++ (P1 ++ P2).map unit) (N := n) (B := M) (fun r hr => by
    rcases List.mem_append.mp hr with hr | hr
    · exact h r (c1 r hr)
    · obtain ⟨p, hp, rfl⟩ := List.mem_map.mp hr
      refine ⟨by simp [unit], fun z hz => ?_⟩
      obtain ⟨j, _, rfl⟩ := List.mem_map.mp hz
      split <;> simp <;> omega) (by rw [hl]; omega) hM
  rw [hl] at x3
  have hk : Ker (elimF rows n).1 x := fun p hp => by
    rw [← c3] at hp
    exact (elim_closed (P := fun r => dotz r x = 0) (dotz_closed x1) (dotz_zero x1) lC).mp (fun r hr => x4 r (List.mem_append_left _ hr)) p hp
  have mx := hB.all x x1 hk
  have zp : ∀ p ∈ B, p.1 ≠ q.1 → gt x p.1 = 0 := fun p hp hne => by
    have hp' : p ∈ P1 ++ P2 := by
      rw [e] at hp
      rcases List.mem_append.mp hp with hp | hp
      · exact List.mem_append_left _ hp
      · rcases List.mem_cons.mp hp with rfl | hp
        · exact absurd rfl hne
        · exact List.mem_append_right _ hp
    have := x4 _ (List.mem_append_right _ (List.mem_map_of_mem (f := unit) hp'))
    rw [dotz_sum (n := n) (by simp [unit]) x1, sum_one (c := p.1) (hB.red.lt p hp) fun j hj hjp => by simp only [unit, gt_range, if_pos hj, if_neg hjp, Int.zero_mul]] at this
    simpa only [unit, gt_range, if_pos (hB.red.lt p hp), if_true, Int.one_mul] using this
  have pos := hB.red.pos q hq
  have ex : ∀ j, gt q.2 q.1 * gt x j = gt x q.1 * gt q.2 j := fun j => by
    have h1 := mx j
    rw [sm_one j hq hB.red.inc fun p hp hne => by rw [zp p hp hne]; rfl] at h1
    have h0 : ((gt q.2 q.1 : Int) : Rat) ≠ 0 := fun z => by have := Rat.intCast_eq_zero_iff.mp z; omega
    have h2 : ((gt q.2 q.1 * gt x j : Int) : Rat) = ((gt x q.1 * gt q.2 j : Int) : Rat) := by
      rw [Rat.intCast_mul, Rat.intCast_mul, h1, Rat.div_def]
      have := Rat.mul_inv_cancel _ h0
      grind
    exact Rat.intCast_inj.mp h2
  have dv : gt q.2 q.1 ∣ gt x q.1 := by
    have : gt q.2 q.1 ∣ (gl (q.2.map (gt x q.1 * ·)) : Int) := dvd_gl fun y hy => by
      obtain ⟨z, hz, rfl⟩ := List.mem_map.mp hy
      obtain ⟨i, hi, rfl⟩ := List.getElem_of_mem hz
      have ei : gt q.2 i = q.2[i] := by show q.2.getD i 0 = _; rw [List.getD_eq_getElem?_getD, List.getElem?_eq_getElem hi]; rfl
      rw [← ei, ← ex i]
      exact ⟨_, rfl⟩
    rw [gl_mul, hB.red.prm q hq, Nat.mul_one] at this
    exact Int.dvd_natAbs.mp this
  obtain ⟨t, ht⟩ := dv
  have xt : ∀ j, gt x j = t * gt q.2 j := fun j => Int.eq_of_mul_eq_mul_left (a := gt q.2 q.1) (by omega) (by rw [ex j, ht]; grind)
  have t0 : t ≠ 0 := fun t0 => by
    obtain ⟨i, hi, rfl⟩ := List.getElem_of_mem hy
    have ei : gt x i = x[i] := by show x.getD i 0 = _; rw [List.getD_eq_getElem?_getD, List.getElem?_eq_getElem hi]; rfl
    rw [← ei, xt i, t0, Int.zero_mul] at y0
    exact y0 rfl
  intro j
  have le : (gt q.2 j).natAbs ≤ (gt x j).natAbs := by
    rw [xt j, Int.natAbs_mul]
    exact Nat.le_mul_of_pos_left _ (by omega)
  refine Nat.le_trans le ?_
  by_cases hj : gt x j = 0
  · rw [hj]; exact Nat.zero_le _
  · exact x3 _ (gt_mem hj).1
end
end Rr

set_option linter.all false
set_option maxRecDepth 10000
set_option exponentiation.threshold 10000
namespace K07
open Ln
open Rr (Row gt gl prim pdiv clr stepE elimF St)
open PySem (PyData Str)
theorem hdraw : prog[14]? = some ⟨2, false, 5, b_draw⟩ := rfl
theorem hpick : prog[15]? = some ⟨2, false, 2, b_pick 14⟩ := rfl
theorem hstream : prog[13]? = some ⟨2, false, 5, b_stream⟩ := rfl
theorem hcommon : prog[17]? = some ⟨2, false, 2, b_common⟩ := rfl
theorem hcommon_in : prog[1]? = some ⟨2, false, 2, b_common_in⟩ := rfl
theorem hisint : prog[0]? = some ⟨1, false, 1, b_isint⟩ := rfl
abbrev iv (xs : List Int) : D := .tup (xs.map D.int)
abbrev il (xs : List Int) : D := .lst (xs.map D.int)
def Br (N : Nat) (r : Row) : Prop := ∀ x ∈ r, Bi N x
theorem Br.up {M N : Nat} {r : Row} (h : Br M r) (hl : M ≤ N) : Br N r := fun x hx => (h x hx).up hl
theorem Br.gt {N : Nat} {r : Row} (h : Br N r) (j : Nat) : Bi N (gt r j) := by
  by_cases z : Rr.gt r j = 0
  · rw [z]; unfold Bi; exact Nat.two_pow_pos N
  · exact h _ (Rr.gt_mem z).1
theorem gl_bi {N : Nat} {r : Row} (h : Br N r) : gl r < 2 ^ N := by
  by_cases z : ∃ j, gt r j ≠ 0
  · obtain ⟨j, hj⟩ := z
    obtain ⟨hm, _⟩ := Rr.gt_mem hj
    have d := Rr.gl_dvd hm
    have hb := h _ hm
    have : gl r ≤ (gt r j).natAbs := Nat.le_of_dvd (by omega) (Int.ofNat_dvd_left.mp d)
    exact Nat.lt_of_le_of_lt this hb
  · have a : ∀ x ∈ r, x = 0 := fun x hx => by
      obtain ⟨i, hi, rfl⟩ := List.getElem_of_mem hx
      refine Decidable.byContradiction fun q => z ⟨i, ?_⟩
      unfold Rr.gt
      rw [List.getD_eq_getElem?_getD, List.getElem?_eq_getElem hi]
      exact q
    have : gl r = 0 := by
      induction r with
      | nil => rfl
      | cons x r ih =>
        rw [Rr.gl_cons, a x List.mem_cons_self, ih (fun y hy => h y (List.mem_cons_of_mem _ hy)) (fun ⟨j, hj⟩ => z ⟨j + 1, hj⟩) fun y hy => a y (List.mem_cons_of_mem _ hy)]; rfl
    rw [this]; exact Nat.two_pow_pos N
theorem prim_br {N : Nat} {r : Row} (h : Br N r) : Br N (prim r) := fun x hx => by
  obtain ⟨i, hi, rfl⟩ := List.getElem_of_mem hx
  have e : (prim r)[i] = gt (prim r) i := by unfold Rr.gt; rw [List.getD_eq_getElem?_getD, List.getElem?_eq_getElem hi]; rfl
  have pm := Rr.prim_mul r i
  have hb := h.gt i
  rw [e]
  unfold Bi at *
  rw [← pm, Int.natAbs_mul] at hb
  have := Rr.pdiv_ne r
  have : 1 ≤ (pdiv r).natAbs := by omega
  exact Nat.lt_of_le_of_lt (Nat.le_trans (by omega) (Nat.mul_le_mul_right _ this)) hb
theorem clr_br {N : Nat} {r p : Row} (hr : Br N r) (hp : Br N p) (c : Nat) : Br (2 * N + 1) (clr r p c) := by
  unfold Rr.clr
  refine prim_br fun x hx => ?_
  obtain ⟨i, hi, rfl⟩ := List.getElem_of_mem hx
  rw [List.getElem_zipWith]
  have l : i < r.length ∧ i < p.length := by rw [List.length_zipWith] at hi; omega
  exact (((hp.gt c).mul (hr _ (List.getElem_mem l.1))).sub ((hr.gt c).mul (hp _ (List.getElem_mem l.2)))).up (by omega)
/-- a state whose numbers are not too great -/
structure Bst (n N : Nat) (st : St) : Prop where
  f : ∀ q ∈ st.1, q.2.length = n ∧ Br N q.2
  l : ∀ r ∈ st.2, r.length = n ∧ Br N r
theorem Bst.up {n M N : Nat} {st : St} (h : Bst n M st) (hl : M ≤ N) : Bst n N st := ⟨fun q hq => ⟨(h.f q hq).1, (h.f q hq).2.up hl⟩, fun q hq => ⟨(h.l q hq).1, (h.l q hq).2.up hl⟩⟩
theorem bst_step {n N : Nat} {st : St} (h : Bst n N st) (c : Nat) : Bst n (2 * N + 1) (stepE st c) := by
  unfold Rr.stepE
  split
  · exact h.up (by omega)
  · rename_i f fs e
    have hf : f ∈ st.2 := by
      have : f ∈ st.2.filter fun r => !decide (gt r c = 0) := by rw [e]; exact List.mem_cons_self
      exact (List.mem_filter.mp this).1
    obtain ⟨fl, fb⟩ := h.l f hf
    have pl := (Rr.prim_len f).trans fl
    have pb := prim_br fb
    refine ⟨fun q hq => ?_, fun r hr => ?_⟩
    · simp only [List.mem_append, List.mem_map, List.mem_singleton] at hq
      rcases hq with ⟨q, hq, rfl⟩ | rfl
      · exact ⟨(Rr.clr_len ((h.f q hq).1.trans pl.symm) c).trans (h.f q hq).1, clr_br (h.f q hq).2 pb c⟩
      · exact ⟨pl, pb.up (by omega)⟩
    · obtain ⟨r', hr', rfl⟩ := List.mem_map.mp hr
      exact ⟨(Rr.clr_len ((h.l r' hr').1.trans pl.symm) c).trans (h.l r' hr').1, clr_br (h.l r' hr').2 pb c⟩
/-- so it is in each column -/
def Oks (n : Nat) : List Nat → St → Prop
  | [], st => Bst n 4000 st
  | c :: cs, st => Bst n 4000 st ∧ Oks n cs (stepE st c)
theorem oks_small {n : Nat} : ∀ (cs : List Nat) (N : Nat) (st : St), Bst n N st → (N + 1) * 2 ^ cs.length ≤ 4001 → Oks n cs st
  | [], N, st, h, hN => h.up (by simp at hN; omega)
  | c :: cs, N, st, h, hN => by
    have e : (2 * N + 1 + 1) * 2 ^ cs.length = (N + 1) * 2 ^ (c :: cs).length := by
      rw [List.length_cons, Nat.pow_succ, show 2 * N + 1 + 1 = (N + 1) * 2 by omega, Nat.mul_assoc, Nat.mul_comm 2]
    have l1 : N + 1 ≤ (N + 1) * 2 ^ (c :: cs).length := Nat.le_mul_of_pos_right _ (Nat.two_pow_pos _)
    exact ⟨h.up (by omega), oks_small cs (2 * N + 1) _ (bst_step h c) (by rw [e]; exact hN)⟩
section
variable {w k n : Nat} {S : Store}
theorem il_dt {N K : Nat} {r : Row} (h : Br N r) (hl : r.length ≤ 1000) : Dt false N (K + 1) (il r) := .lst (by rw [List.length_map]; omega) fun y hy => by
  obtain ⟨x, hx, rfl⟩ := List.mem_map.mp hy
  exact .int (h x hx)
theorem iv_dt {N K : Nat} {r : Row} (h : Br N r) (hl : r.length ≤ 1000) : Dt false N (K + 1) (iv r) := .tup (by rw [List.length_map]; omega) fun y hy => by
  obtain ⟨x, hx, rfl⟩ := List.mem_map.mp hy
  exact .int (h x hx)
theorem s_common_of (hw : 1000000 ≤ w) {r : Row} (h : Br 9000 r) : callI prog w (k + 2) 2 [il r] S = .ok (.int (gl r)) S := by
  obtain ⟨ρ', e, _, o2, rfl⟩ := loopM_fold (cf := callI prog w (k + 1)) (w := w) (S := S) (tg := .nm 2) (b := .cons (.set 1 (.call 1 (.cons (.var 1) (.cons (.var 2) .nil)))) .nil) D.int (fun (x : Nat) (a : Int) => Nat.gcd x a.natAbs)
    (fun x ρ => x < 2 ^ 9000 ∧ ∃ o2, ρ = [some (il r), some (.int (x : Int)), o2]) r 0 (ρ := [some (il r), some (.int 0), none]) (fun x a ha ρ hI => by
      obtain ⟨hx, o2, rfl⟩ := hI
      have hb := h a ha
      have e := common_in_sp (S := S) (k := k) hw hcommon_in (a := x) (b := a) ((Bi.nat hx).up (by decide)) (hb.up (by decide))
      refine ⟨_, [some (il r), some (.int (Nat.gcd x a.natAbs : Nat)), some (.int a)], rfl, by simp only [qOpt, qRet, bnd_ok, bnd_exc, bnd_err, flow_nx, flow_rt, flow_bk, flow_ct, flow_exc, end_nx, end_rt, end_exc, e_var, g_0, g_s, e_cst, e_bin, e_neg, e_not, e_cmp, e_chain, e_and, e_or, e_ite, e_tup, e_lst, e_lstM, e_lstS, e_dct, e_idx, e_slc, e_rev, e_isi, e_fz, e_repM, fz_lst, fz_tup, fz_dct, m_dget, e_blt, e_call, e_mth, m_tindex, m_tcount, e_lc, l_nil, l_cons, l_star, t_nil, t_cons, o_no, o_so, i_seq, i_rng1, i_rng2, i_zip, i_enum, i_enumT, k_enumT, k_neg, k_int, k_seqT, k_seqL, k_seqF, k_starT, k_starL, k_zipT, k_zipL, k_zipM, k_zipM2, k_enum, k_rng, k_rng2, tr_bl, tr_int, tr_tup, tr_lst, s_nil, s_cons, x_expr, x_set, x_setT, x_par, x_setI, x_aug, x_cond, x_loop, x_while, x_ret, x_retN, x_pass, x_brk, x_cont, x_run, b_lenT, b_lenL, b_lenF, b_tupT, b_tupL, b_lstT, b_lstL, b_allL, b_anyL, b_sumL, b_sumT, b_abs, b_max, b_min, b_intI, b_intB, q_ii, q_ss, mapR_some, andR_ite, orR_ite, unpK, parK, augK, setIK, setTg, setAll, wipe, blt, blt0, seqOf, lstOf, cop, bop, intOp, atP, place, Option.map_some, Option.map_none, Option.bind_some, Option.bind_none, eq_self, reduceCtorEq, Int.reduceLE, Int.reduceLT, Int.reduceNeg, Int.reduceEq, Int.reduceToNat, Int.reduceAdd, Int.reduceSub, Nat.reduceLeDiff, reduceIte,  List.flatten_cons, List.flatten_nil, List.length_map, List.map_cons, List.map_nil, List.length_cons, List.length_nil, List.replicate_succ, List.replicate_zero, List.cons_append, List.nil_append, List.append_nil, List.set_cons_zero, List.set_cons_succ, Bool.not_true, Bool.not_false, if_true, if_false, ite_true, ite_false, Bool.false_eq_true, decide_true, decide_false, Bool.or_true, Bool.true_or, Bool.or_false, Bool.false_or, Bool.and_true, Bool.true_and, Bool.and_false, Bool.false_and, decide_eq_true_eq, Nat.reduceAdd, Nat.reduceSub, Nat.zero_add, Function.comp_apply, ix0, ix1, ix2, ixL0, ixL1, ixL2, Int.cast_ofNat_Int, List.all_cons, List.all_nil, id_eq, e, Int.natAbs_natCast], ?_, _, rfl⟩
      by_cases h0 : a = 0
      · subst h0; simpa using hx
      · exact Nat.lt_of_le_of_lt (Nat.le_of_dvd (by omega) (Nat.gcd_dvd_right x a.natAbs)) hb) ⟨Nat.two_pow_pos _, _, rfl⟩
  rw [u_common_of]
  simp only [b_common_of, qOpt, qRet, bnd_ok, bnd_exc, bnd_err, flow_nx, flow_rt, flow_bk, flow_ct, flow_exc, end_nx, end_rt, end_exc, e_var, g_0, g_s, e_cst, e_bin, e_neg, e_not, e_cmp, e_chain, e_and, e_or, e_ite, e_tup, e_lst, e_lstM, e_lstS, e_dct, e_idx, e_slc, e_rev, e_isi, e_fz, e_repM, fz_lst, fz_tup, fz_dct, m_dget, e_blt, e_call, e_mth, m_tindex, m_tcount, e_lc, l_nil, l_cons, l_star, t_nil, t_cons, o_no, o_so, i_seq, i_rng1, i_rng2, i_zip, i_enum, i_enumT, k_enumT, k_neg, k_int, k_seqT, k_seqL, k_seqF, k_starT, k_starL, k_zipT, k_zipL, k_zipM, k_zipM2, k_enum, k_rng, k_rng2, tr_bl, tr_int, tr_tup, tr_lst, s_nil, s_cons, x_expr, x_set, x_setT, x_par, x_setI, x_aug, x_cond, x_loop, x_while, x_ret, x_retN, x_pass, x_brk, x_cont, x_run, b_lenT, b_lenL, b_lenF, b_tupT, b_tupL, b_lstT, b_lstL, b_allL, b_anyL, b_sumL, b_sumT, b_abs, b_max, b_min, b_intI, b_intB, q_ii, q_ss, mapR_some, andR_ite, orR_ite, unpK, parK, augK, setIK, setTg, setAll, wipe, blt, blt0, seqOf, lstOf, cop, bop, intOp, atP, place, Option.map_some, Option.map_none, Option.bind_some, Option.bind_none, eq_self, reduceCtorEq, Int.reduceLE, Int.reduceLT, Int.reduceNeg, Int.reduceEq, Int.reduceToNat, Int.reduceAdd, Int.reduceSub, Nat.reduceLeDiff, reduceIte,  List.flatten_cons, List.flatten_nil, List.length_map, List.map_cons, List.map_nil, List.length_cons, List.length_nil, List.replicate_succ, List.replicate_zero, List.cons_append, List.nil_append, List.append_nil, List.set_cons_zero, List.set_cons_succ, Bool.not_true, Bool.not_false, if_true, if_false, ite_true, ite_false, Bool.false_eq_true, decide_true, decide_false, Bool.or_true, Bool.true_or, Bool.or_false, Bool.false_or, Bool.and_true, Bool.true_and, Bool.and_false, Bool.false_and, decide_eq_true_eq, Nat.reduceAdd, Nat.reduceSub, Nat.zero_add, Function.comp_apply, ix0, ix1, ix2, ixL0, ixL1, ixL2, Int.cast_ofNat_Int, List.all_cons, List.all_nil, id_eq, e]
  rfl
theorem s_primitive (hw : 1000000 ≤ w) {r : Row} (h : Br 8999 r) (hl : r.length ≤ 1000) : callI prog w (k + 3) 6 [il r] S = .ok (il (prim r)) S := by
  have e1 := lcM_filter (cf := callI prog w (k + 2)) (ρ := [some (il r), none, none, none]) (S := S) (elt := .var 3) (c := .cmp .ne (.var 3) (.cst (.int 0))) (tg := .nm 3) (own := [3]) D.int D.int (fun x => !decide (x = 0)) r fun x hx => ⟨_, rfl, by simp only [qOpt, qRet, bnd_ok, bnd_exc, bnd_err, flow_nx, flow_rt, flow_bk, flow_ct, flow_exc, end_nx, end_rt, end_exc, e_var, g_0, g_s, e_cst, e_bin, e_neg, e_not, e_cmp, e_chain, e_and, e_or, e_ite, e_tup, e_lst, e_lstM, e_lstS, e_dct, e_idx, e_slc, e_rev, e_isi, e_fz, e_repM, fz_lst, fz_tup, fz_dct, m_dget, e_blt, e_call, e_mth, m_tindex, m_tcount, e_lc, l_nil, l_cons, l_star, t_nil, t_cons, o_no, o_so, i_seq, i_rng1, i_rng2, i_zip, i_enum, i_enumT, k_enumT, k_neg, k_int, k_seqT, k_seqL, k_seqF, k_starT, k_starL, k_zipT, k_zipL, k_zipM, k_zipM2, k_enum, k_rng, k_rng2, tr_bl, tr_int, tr_tup, tr_lst, s_nil, s_cons, x_expr, x_set, x_setT, x_par, x_setI, x_aug, x_cond, x_loop, x_while, x_ret, x_retN, x_pass, x_brk, x_cont, x_run, b_lenT, b_lenL, b_lenF, b_tupT, b_tupL, b_lstT, b_lstL, b_allL, b_anyL, b_sumL, b_sumT, b_abs, b_max, b_min, b_intI, b_intB, q_ii, q_ss, mapR_some, andR_ite, orR_ite, unpK, parK, augK, setIK, setTg, setAll, wipe, blt, blt0, seqOf, lstOf, cop, bop, intOp, atP, place, Option.map_some, Option.map_none, Option.bind_some, Option.bind_none, eq_self, reduceCtorEq, Int.reduceLE, Int.reduceLT, Int.reduceNeg, Int.reduceEq, Int.reduceToNat, Int.reduceAdd, Int.reduceSub, Nat.reduceLeDiff, reduceIte,  List.flatten_cons, List.flatten_nil, List.length_map, List.map_cons, List.map_nil, List.length_cons, List.length_nil, List.replicate_succ, List.replicate_zero, List.cons_append, List.nil_append, List.append_nil, List.set_cons_zero, List.set_cons_succ, Bool.not_true, Bool.not_false, if_true, if_false, ite_true, ite_false, Bool.false_eq_true, decide_true, decide_false, Bool.or_true, Bool.true_or, Bool.or_false, Bool.false_or, Bool.and_true, Bool.true_and, Bool.and_false, Bool.false_and, decide_eq_true_eq, Nat.reduceAdd, Nat.reduceSub, Nat.zero_add, Function.comp_apply, ix0, ix1, ix2, ixL0, ixL1, ixL2, Int.cast_ofNat_Int, List.all_cons, List.all_nil, id_eq], fun _ => by simp only [qOpt, qRet, bnd_ok, bnd_exc, bnd_err, flow_nx, flow_rt, flow_bk, flow_ct, flow_exc, end_nx, end_rt, end_exc, e_var, g_0, g_s, e_cst, e_bin, e_neg, e_not, e_cmp, e_chain, e_and, e_or, e_ite, e_tup, e_lst, e_lstM, e_lstS, e_dct, e_idx, e_slc, e_rev, e_isi, e_fz, e_repM, fz_lst, fz_tup, fz_dct, m_dget, e_blt, e_call, e_mth, m_tindex, m_tcount, e_lc, l_nil, l_cons, l_star, t_nil, t_cons, o_no, o_so, i_seq, i_rng1, i_rng2, i_zip, i_enum, i_enumT, k_enumT, k_neg, k_int, k_seqT, k_seqL, k_seqF, k_starT, k_starL, k_zipT, k_zipL, k_zipM, k_zipM2, k_enum, k_rng, k_rng2, tr_bl, tr_int, tr_tup, tr_lst, s_nil, s_cons, x_expr, x_set, x_setT, x_par, x_setI, x_aug, x_cond, x_loop, x_while, x_ret, x_retN, x_pass, x_brk, x_cont, x_run, b_lenT, b_lenL, b_lenF, b_tupT, b_tupL, b_lstT, b_lstL, b_allL, b_anyL, b_sumL, b_sumT, b_abs, b_max, b_min, b_intI, b_intB, q_ii, q_ss, mapR_some, andR_ite, orR_ite, unpK, parK, augK, setIK, setTg, setAll, wipe, blt, blt0, seqOf, lstOf, cop, bop, intOp, atP, place, Option.map_some, Option.map_none, Option.bind_some, Option.bind_none, eq_self, reduceCtorEq, Int.reduceLE, Int.reduceLT, Int.reduceNeg, Int.reduceEq, Int.reduceToNat, Int.reduceAdd, Int.reduceSub, Nat.reduceLeDiff, reduceIte,  List.flatten_cons, List.flatten_nil, List.length_map, List.map_cons, List.map_nil, List.length_cons, List.length_nil, List.replicate_succ, List.replicate_zero, List.cons_append, List.nil_append, List.append_nil, List.set_cons_zero, List.set_cons_succ, Bool.not_true, Bool.not_false, if_true, if_false, ite_true, ite_false, Bool.false_eq_true, decide_true, decide_false, Bool.or_true, Bool.true_or, Bool.or_false, Bool.false_or, Bool.and_true, Bool.true_and, Bool.and_false, Bool.false_and, decide_eq_true_eq, Nat.reduceAdd, Nat.reduceSub, Nat.zero_add, Function.comp_apply, ix0, ix1, ix2, ixL0, ixL1, ixL2, Int.cast_ofNat_Int, List.all_cons, List.all_nil, id_eq]⟩
  have fb : Br 8999 (r.filter fun x => !decide (x = 0)) := fun x hx => h x (List.mem_filter.mp hx).1
  have q := eq_nilL (S := S) (il_dt (K := 0) fb (Nat.le_trans (List.length_filter_le _ _) hl)) (by decide)
  have gg := s_common_of (w := w) (k := k) (S := S) hw (fb.up (by decide))
  have gb := gl_bi fb
  have pd : prim r = match r.filter fun x => !decide (x = 0) with | [] => r | _ :: _ => r.map fun x => x.fdiv (pdiv r) := rfl
  have pv : pdiv r = match r.filter fun x => !decide (x = 0) with | [] => 1 | f :: fs => if f < 0 then 0 - (gl (f :: fs) : Int) else gl (f :: fs) := rfl
  have pn := Rr.pdiv_ne r
  rw [u_primitive]
  cases e : r.filter fun x => !decide (x = 0) with
  | nil =>
    rw [e] at e1 q pd
    rw [pd]
    simp only [List.map_nil, List.isEmpty_nil] at e1 q
    simp only [b_primitive, qOpt, qRet, bnd_ok, bnd_exc, bnd_err, flow_nx, flow_rt, flow_bk, flow_ct, flow_exc, end_nx, end_rt, end_exc, e_var, g_0, g_s, e_cst, e_bin, e_neg, e_not, e_cmp, e_chain, e_and, e_or, e_ite, e_tup, e_lst, e_lstM, e_lstS, e_dct, e_idx, e_slc, e_rev, e_isi, e_fz, e_repM, fz_lst, fz_tup, fz_dct, m_dget, e_blt, e_call, e_mth, m_tindex, m_tcount, e_lc, l_nil, l_cons, l_star, t_nil, t_cons, o_no, o_so, i_seq, i_rng1, i_rng2, i_zip, i_enum, i_enumT, k_enumT, k_neg, k_int, k_seqT, k_seqL, k_seqF, k_starT, k_starL, k_zipT, k_zipL, k_zipM, k_zipM2, k_enum, k_rng, k_rng2, tr_bl, tr_int, tr_tup, tr_lst, s_nil, s_cons, x_expr, x_set, x_setT, x_par, x_setI, x_aug, x_cond, x_loop, x_while, x_ret, x_retN, x_pass, x_brk, x_cont, x_run, b_lenT, b_lenL, b_lenF, b_tupT, b_tupL, b_lstT, b_lstL, b_allL, b_anyL, b_sumL, b_sumT, b_abs, b_max, b_min, b_intI, b_intB, q_ii, q_ss, mapR_some, andR_ite, orR_ite, unpK, parK, augK, setIK, setTg, setAll, wipe, blt, blt0, seqOf, lstOf, cop, bop, intOp, atP, place, Option.map_some, Option.map_none, Option.bind_some, Option.bind_none, eq_self, reduceCtorEq, Int.reduceLE, Int.reduceLT, Int.reduceNeg, Int.reduceEq, Int.reduceToNat, Int.reduceAdd, Int.reduceSub, Nat.reduceLeDiff, reduceIte,  List.flatten_cons, List.flatten_nil, List.length_map, List.map_cons, List.map_nil, List.length_cons, List.length_nil, List.replicate_succ, List.replicate_zero, List.cons_append, List.nil_append, List.append_nil, List.set_cons_zero, List.set_cons_succ, Bool.not_true, Bool.not_false, if_true, if_false, ite_true, ite_false, Bool.false_eq_true, decide_true, decide_false, Bool.or_true, Bool.true_or, Bool.or_false, Bool.false_or, Bool.and_true, Bool.true_and, Bool.and_false, Bool.false_and, decide_eq_true_eq, Nat.reduceAdd, Nat.reduceSub, Nat.zero_add, Function.comp_apply, ix0, ix1, ix2, ixL0, ixL1, ixL2, Int.cast_ofNat_Int, List.all_cons, List.all_nil, id_eq, e1, q]
  | cons f fs =>
    rw [e] at e1 q pd pv gg gb
    rw [pd]
    simp only [List.map_cons, List.isEmpty_cons] at e1 q pd pv
    have gg' : callI prog w (k + 2) 2 [.lst (.int f :: fs.map .int)] S = .ok (.int (gl (f :: fs))) S := gg
    by_cases hf : f < 0
    · rw [if_pos hf] at pv
      have dk : divOk (0 - (gl (f :: fs) : Int)) = true := Bi.divOk (by rw [Int.zero_sub]; exact (Bi.nat gb).neg.up (by decide)) (by rw [← pv]; exact pn)
      simp only [b_primitive, qOpt, qRet, bnd_ok, bnd_exc, bnd_err, flow_nx, flow_rt, flow_bk, flow_ct, flow_exc, end_nx, end_rt, end_exc, e_var, g_0, g_s, e_cst, e_bin, e_neg, e_not, e_cmp, e_chain, e_and, e_or, e_ite, e_tup, e_lst, e_lstM, e_lstS, e_dct, e_idx, e_slc, e_rev, e_isi, e_fz, e_repM, fz_lst, fz_tup, fz_dct, m_dget, e_blt, e_call, e_mth, m_tindex, m_tcount, e_lc, l_nil, l_cons, l_star, t_nil, t_cons, o_no, o_so, i_seq, i_rng1, i_rng2, i_zip, i_enum, i_enumT, k_enumT, k_neg, k_int, k_seqT, k_seqL, k_seqF, k_starT, k_starL, k_zipT, k_zipL, k_zipM, k_zipM2, k_enum, k_rng, k_rng2, tr_bl, tr_int, tr_tup, tr_lst, s_nil, s_cons, x_expr, x_set, x_setT, x_par, x_setI, x_aug, x_cond, x_loop, x_while, x_ret, x_retN, x_pass, x_brk, x_cont, x_run, b_lenT, b_lenL, b_lenF, b_tupT, b_tupL, b_lstT, b_lstL, b_allL, b_anyL, b_sumL, b_sumT, b_abs, b_max, b_min, b_intI, b_intB, q_ii, q_ss, mapR_some, andR_ite, orR_ite, unpK, parK, augK, setIK, setTg, setAll, wipe, blt, blt0, seqOf, lstOf, cop, bop, intOp, atP, place, Option.map_some, Option.map_none, Option.bind_some, Option.bind_none, eq_self, reduceCtorEq, Int.reduceLE, Int.reduceLT, Int.reduceNeg, Int.reduceEq, Int.reduceToNat, Int.reduceAdd, Int.reduceSub, Nat.reduceLeDiff, reduceIte,  List.flatten_cons, List.flatten_nil, List.length_map, List.map_cons, List.map_nil, List.length_cons, List.length_nil, List.replicate_succ, List.replicate_zero, List.cons_append, List.nil_append, List.append_nil, List.set_cons_zero, List.set_cons_succ, Bool.not_true, Bool.not_false, if_true, if_false, ite_true, ite_false, Bool.false_eq_true, decide_true, decide_false, Bool.or_true, Bool.true_or, Bool.or_false, Bool.false_or, Bool.and_true, Bool.true_and, Bool.and_false, Bool.false_and, decide_eq_true_eq, Nat.reduceAdd, Nat.reduceSub, Nat.zero_add, Function.comp_apply, ix0, ix1, ix2, ixL0, ixL1, ixL2, Int.cast_ofNat_Int, List.all_cons, List.all_nil, id_eq, e1, q, gg', decide_eq_true hf]
      rw [lcM_map D.int (fun x => D.int (x.fdiv (pdiv r))) r fun x hx => ⟨_, rfl, by simp only [qOpt, qRet, bnd_ok, bnd_exc, bnd_err, flow_nx, flow_rt, flow_bk, flow_ct, flow_exc, end_nx, end_rt, end_exc, e_var, g_0, g_s, e_cst, e_bin, e_neg, e_not, e_cmp, e_chain, e_and, e_or, e_ite, e_tup, e_lst, e_lstM, e_lstS, e_dct, e_idx, e_slc, e_rev, e_isi, e_fz, e_repM, fz_lst, fz_tup, fz_dct, m_dget, e_blt, e_call, e_mth, m_tindex, m_tcount, e_lc, l_nil, l_cons, l_star, t_nil, t_cons, o_no, o_so, i_seq, i_rng1, i_rng2, i_zip, i_enum, i_enumT, k_enumT, k_neg, k_int, k_seqT, k_seqL, k_seqF, k_starT, k_starL, k_zipT, k_zipL, k_zipM, k_zipM2, k_enum, k_rng, k_rng2, tr_bl, tr_int, tr_tup, tr_lst, s_nil, s_cons, x_expr, x_set, x_setT, x_par, x_setI, x_aug, x_cond, x_loop, x_while, x_ret, x_retN, x_pass, x_brk, x_cont, x_run, b_lenT, b_lenL, b_lenF, b_tupT, b_tupL, b_lstT, b_lstL, b_allL, b_anyL, b_sumL, b_sumT, b_abs, b_max, b_min, b_intI, b_intB, q_ii, q_ss, mapR_some, andR_ite, orR_ite, unpK, parK, augK, setIK, setTg, setAll, wipe, blt, blt0, seqOf, lstOf, cop, bop, intOp, atP, place, Option.map_some, Option.map_none, Option.bind_some, Option.bind_none, eq_self, reduceCtorEq, Int.reduceLE, Int.reduceLT, Int.reduceNeg, Int.reduceEq, Int.reduceToNat, Int.reduceAdd, Int.reduceSub, Nat.reduceLeDiff, reduceIte,  List.flatten_cons, List.flatten_nil, List.length_map, List.map_cons, List.map_nil, List.length_cons, List.length_nil, List.replicate_succ, List.replicate_zero, List.cons_append, List.nil_append, List.append_nil, List.set_cons_zero, List.set_cons_succ, Bool.not_true, Bool.not_false, if_true, if_false, ite_true, ite_false, Bool.false_eq_true, decide_true, decide_false, Bool.or_true, Bool.true_or, Bool.or_false, Bool.false_or, Bool.and_true, Bool.true_and, Bool.and_false, Bool.false_and, decide_eq_true_eq, Nat.reduceAdd, Nat.reduceSub, Nat.zero_add, Function.comp_apply, ix0, ix1, ix2, ixL0, ixL1, ixL2, Int.cast_ofNat_Int, List.all_cons, List.all_nil, id_eq, pv, dk]⟩]
      simp only [qOpt, qRet, bnd_ok, bnd_exc, bnd_err, flow_nx, flow_rt, flow_bk, flow_ct, flow_exc, end_nx, end_rt, end_exc, e_var, g_0, g_s, e_cst, e_bin, e_neg, e_not, e_cmp, e_chain, e_and, e_or, e_ite, e_tup, e_lst, e_lstM, e_lstS, e_dct, e_idx, e_slc, e_rev, e_isi, e_fz, e_repM, fz_lst, fz_tup, fz_dct, m_dget, e_blt, e_call, e_mth, m_tindex, m_tcount, e_lc, l_nil, l_cons, l_star, t_nil, t_cons, o_no, o_so, i_seq, i_rng1, i_rng2, i_zip, i_enum, i_enumT, k_enumT, k_neg, k_int, k_seqT, k_seqL, k_seqF, k_starT, k_starL, k_zipT, k_zipL, k_zipM, k_zipM2, k_enum, k_rng, k_rng2, tr_bl, tr_int, tr_tup, tr_lst, s_nil, s_cons, x_expr, x_set, x_setT, x_par, x_setI, x_aug, x_cond, x_loop, x_while, x_ret, x_retN, x_pass, x_brk, x_cont, x_run, b_lenT, b_lenL, b_lenF, b_tupT, b_tupL, b_lstT, b_lstL, b_allL, b_anyL, b_sumL, b_sumT, b_abs, b_max, b_min, b_intI, b_intB, q_ii, q_ss, mapR_some, andR_ite, orR_ite, unpK, parK, augK, setIK, setTg, setAll, wipe, blt, blt0, seqOf, lstOf, cop, bop, intOp, atP, place, Option.map_some, Option.map_none, Option.bind_some, Option.bind_none, eq_self, reduceCtorEq, Int.reduceLE, Int.reduceLT, Int.reduceNeg, Int.reduceEq, Int.reduceToNat, Int.reduceAdd, Int.reduceSub, Nat.reduceLeDiff, reduceIte,  List.flatten_cons, List.flatten_nil, List.length_map, List.map_cons, List.map_nil, List.length_cons, List.length_nil, List.replicate_succ, List.replicate_zero, List.cons_append, List.nil_append, List.append_nil, List.set_cons_zero, List.set_cons_succ, Bool.not_true, Bool.not_false, if_true, if_false, ite_true, ite_false, Bool.false_eq_true, decide_true, decide_false, Bool.or_true, Bool.true_or, Bool.or_false, Bool.false_or, Bool.and_true, Bool.true_and, Bool.and_false, Bool.false_and, decide_eq_true_eq, Nat.reduceAdd, Nat.reduceSub, Nat.zero_add, Function.comp_apply, ix0, ix1, ix2, ixL0, ixL1, ixL2, Int.cast_ofNat_Int, List.all_cons, List.all_nil, id_eq, il, List.map_map, Function.comp_def]
    · rw [if_neg hf] at pv
      have dk : divOk (gl (f :: fs) : Int) = true := Bi.divOk ((Bi.nat gb).up (by decide)) (by rw [← pv]; exact pn)
      simp only [b_primitive, qOpt, qRet, bnd_ok, bnd_exc, bnd_err, flow_nx, flow_rt, flow_bk, flow_ct, flow_exc, end_nx, end_rt, end_exc, e_var, g_0, g_s, e_cst, e_bin, e_neg, e_not, e_cmp, e_chain, e_and, e_or, e_ite, e_tup, e_lst, e_lstM, e_lstS, e_dct, e_idx, e_slc, e_rev, e_isi, e_fz, e_repM, fz_lst, fz_tup, fz_dct, m_dget, e_blt, e_call, e_mth, m_tindex, m_tcount, e_lc, l_nil, l_cons, l_star, t_nil, t_cons, o_no, o_so, i_seq, i_rng1, i_rng2, i_zip, i_enum, i_enumT, k_enumT, k_neg, k_int, k_seqT, k_seqL, k_seqF, k_starT, k_starL, k_zipT, k_zipL, k_zipM, k_zipM2, k_enum, k_rng, k_rng2, tr_bl, tr_int, tr_tup, tr_lst, s_nil, s_cons, x_expr, x_set, x_setT, x_par, x_setI, x_aug, x_cond, x_loop, x_while, x_ret, x_retN, x_pass, x_brk, x_cont, x_run, b_lenT, b_lenL, b_lenF, b_tupT, b_tupL, b_lstT, b_lstL, b_allL, b_anyL, b_sumL, b_sumT, b_abs, b_max, b_min, b_intI, b_intB, q_ii, q_ss, mapR_some, andR_ite, orR_ite, unpK, parK, augK, setIK, setTg, setAll, wipe, blt, blt0, seqOf, lstOf, cop, bop, intOp, atP, place, Option.map_some, Option.map_none, Option.bind_some, Option.bind_none, eq_self, reduceCtorEq, Int.reduceLE, Int.reduceLT, Int.reduceNeg, Int.reduceEq, Int.reduceToNat, Int.reduceAdd, Int.reduceSub, Nat.reduceLeDiff, reduceIte,  List.flatten_cons, List.flatten_nil, List.length_map, List.map_cons, List.map_nil, List.length_cons, List.length_nil, List.replicate_succ, List.replicate_zero, List.cons_append, List.nil_append, List.append_nil, List.set_cons_zero, List.set_cons_succ, Bool.not_true, Bool.not_false, if_true, if_false, ite_true, ite_false, Bool.false_eq_true, decide_true, decide_false, Bool.or_true, Bool.true_or, Bool.or_false, Bool.false_or, Bool.and_true, Bool.true_and, Bool.and_false, Bool.false_and, decide_eq_true_eq, Nat.reduceAdd, Nat.reduceSub, Nat.zero_add, Function.comp_apply, ix0, ix1, ix2, ixL0, ixL1, ixL2, Int.cast_ofNat_Int, List.all_cons, List.all_nil, id_eq, e1, q, gg', decide_eq_false hf]
      rw [lcM_map D.int (fun x => D.int (x.fdiv (pdiv r))) r fun x hx => ⟨_, rfl, by simp only [qOpt, qRet, bnd_ok, bnd_exc, bnd_err, flow_nx, flow_rt, flow_bk, flow_ct, flow_exc, end_nx, end_rt, end_exc, e_var, g_0, g_s, e_cst, e_bin, e_neg, e_not, e_cmp, e_chain, e_and, e_or, e_ite, e_tup, e_lst, e_lstM, e_lstS, e_dct, e_idx, e_slc, e_rev, e_isi, e_fz, e_repM, fz_lst, fz_tup, fz_dct, m_dget, e_blt, e_call, e_mth, m_tindex, m_tcount, e_lc, l_nil, l_cons, l_star, t_nil, t_cons, o_no, o_so, i_seq, i_rng1, i_rng2, i_zip, i_enum, i_enumT, k_enumT, k_neg, k_int, k_seqT, k_seqL, k_seqF, k_starT, k_starL, k_zipT, k_zipL, k_zipM, k_zipM2, k_enum, k_rng, k_rng2, tr_bl, tr_int, tr_tup, tr_lst, s_nil, s_cons, x_expr, x_set, x_setT, x_par, x_setI, x_aug, x_cond, x_loop, x_while, x_ret, x_retN, x_pass, x_brk, x_cont, x_run, b_lenT, b_lenL, b_lenF, b_tupT, b_tupL, b_lstT, b_lstL, b_allL, b_anyL, b_sumL, b_sumT, b_abs, b_max, b_min, b_intI, b_intB, q_ii, q_ss, mapR_some, andR_ite, orR_ite, unpK, parK, augK, setIK, setTg, setAll, wipe, blt, blt0, seqOf, lstOf, cop, bop, intOp, atP, place, Option.map_some, Option.map_none, Option.bind_some, Option.bind_none, eq_self, reduceCtorEq, Int.reduceLE, Int.reduceLT, Int.reduceNeg, Int.reduceEq, Int.reduceToNat, Int.reduceAdd, Int.reduceSub, Nat.reduceLeDiff, reduceIte,  List.flatten_cons, List.flatten_nil, List.length_map, List.map_cons, List.map_nil, List.length_cons, List.length_nil, List.replicate_succ, List.replicate_zero, List.cons_append, List.nil_append, List.append_nil, List.set_cons_zero, List.set_cons_succ, Bool.not_true, Bool.not_false, if_true, if_false, ite_true, ite_false, Bool.false_eq_true, decide_true, decide_false, Bool.or_true, Bool.true_or, Bool.or_false, Bool.false_or, Bool.and_true, Bool.true_and, Bool.and_false, Bool.false_and, decide_eq_true_eq, Nat.reduceAdd, Nat.reduceSub, Nat.zero_add, Function.comp_apply, ix0, ix1, ix2, ixL0, ixL1, ixL2, Int.cast_ofNat_Int, List.all_cons, List.all_nil, id_eq, pv, dk]⟩]
      simp only [qOpt, qRet, bnd_ok, bnd_exc, bnd_err, flow_nx, flow_rt, flow_bk, flow_ct, flow_exc, end_nx, end_rt, end_exc, e_var, g_0, g_s, e_cst, e_bin, e_neg, e_not, e_cmp, e_chain, e_and, e_or, e_ite, e_tup, e_lst, e_lstM, e_lstS, e_dct, e_idx, e_slc, e_rev, e_isi, e_fz, e_repM, fz_lst, fz_tup, fz_dct, m_dget, e_blt, e_call, e_mth, m_tindex, m_tcount, e_lc, l_nil, l_cons, l_star, t_nil, t_cons, o_no, o_so, i_seq, i_rng1, i_rng2, i_zip, i_enum, i_enumT, k_enumT, k_neg, k_int, k_seqT, k_seqL, k_seqF, k_starT, k_starL, k_zipT, k_zipL, k_zipM, k_zipM2, k_enum, k_rng, k_rng2, tr_bl, tr_int, tr_tup, tr_lst, s_nil, s_cons, x_expr, x_set, x_setT, x_par, x_setI, x_aug, x_cond, x_loop, x_while, x_ret, x_retN, x_pass, x_brk, x_cont, x_run, b_lenT, b_lenL, b_lenF, b_tupT, b_tupL, b_lstT, b_lstL, b_allL, b_anyL, b_sumL, b_sumT, b_abs, b_max, b_min, b_intI, b_intB, q_ii, q_ss, mapR_some, andR_ite, orR_ite, unpK, parK, augK, setIK, setTg, setAll, wipe, blt, blt0, seqOf, lstOf, cop, bop, intOp, atP, place, Option.map_some, Option.map_none, Option.bind_some, Option.bind_none, eq_self, reduceCtorEq, Int.reduceLE, Int.reduceLT, Int.reduceNeg, Int.reduceEq, Int.reduceToNat, Int.reduceAdd, Int.reduceSub, Nat.reduceLeDiff, reduceIte,  List.flatten_cons, List.flatten_nil, List.length_map, List.map_cons, List.map_nil, List.length_cons, List.length_nil, List.replicate_succ, List.replicate_zero, List.cons_append, List.nil_append, List.append_nil, List.set_cons_zero, List.set_cons_succ, Bool.not_true, Bool.not_false, if_true, if_false, ite_true, ite_false, Bool.false_eq_true, decide_true, decide_false, Bool.or_true, Bool.true_or, Bool.or_false, Bool.false_or, Bool.and_true, Bool.true_and, Bool.and_false, Bool.false_and, decide_eq_true_eq, Nat.reduceAdd, Nat.reduceSub, Nat.zero_add, Function.comp_apply, ix0, ix1, ix2, ixL0, ixL1, ixL2, Int.cast_ofNat_Int, List.all_cons, List.all_nil, id_eq, il, List.map_map, Function.comp_def]
theorem ix_il {r : Row} {c : Nat} (h : c < r.length) : idxD S (il r) (.int c) = some (.int (gt r c)) := by
  unfold idxD atP place Rr.gt
  simp only [seqOf, Option.bind_some, List.length_map]
  rw [if_pos (by omega), if_pos (by omega)]
  simp [List.getD_eq_getElem?_getD, List.getElem?_eq_getElem h]
theorem ix_iv {r : Row} {c : Nat} (h : c < r.length) : idxD S (iv r) (.int c) = some (.int (gt r c)) := by
  unfold idxD atP place Rr.gt
  simp only [seqOf, Option.bind_some, List.length_map]
  rw [if_pos (by omega), if_pos (by omega)]
  simp [List.getD_eq_getElem?_getD, List.getElem?_eq_getElem h]
theorem zip_ints (g : Int → Int → Int) (xs ys : List Int) : (xs.zip ys).map (fun p => D.int (g p.1 p.2)) = (List.zipWith g xs ys).map D.int := by
  rw [zip_map (fun x y => D.int (g x y)), List.map_zipWith]
theorem s_cleared (hw : 1000000 ≤ w) {r p : Row} {c : Nat} (hr : Br 4000 r) (hp : Br 4000 p) (hl : r.length = p.length) (hl2 : r.length ≤ 1000) (hc : c < r.length) : callI prog w (k + 4) 7 [il r, il p, .int c] S = .ok (il (clr r p c)) S := by
  have e1 := lcM_map (cf := callI prog w (k + 3)) (ρ := [some (il r), some (il p), some (.int c), some (.int (gt p c)), some (.int (gt r c)), none, none]) (S := S) (elt := .bin .sub (.bin .mul (.var 3) (.var 5)) (.bin .mul (.var 4) (.var 6))) (tg := .tp [5, 6]) (own := [5, 6]) (fun q : Int × Int => D.wtp [.int q.1, .int q.2]) (fun q => D.int (gt p c * q.1 - gt r c * q.2)) (r.zip p) fun q hq => ⟨_, rfl, by
    have m1 := Bi.mulOk ((hp.gt c).up (by decide)) ((hr _ (List.of_mem_zip hq).1).up (by decide))
    have m2 := Bi.mulOk ((hr.gt c).up (by decide)) ((hp _ (List.of_mem_zip hq).2).up (by decide))
    simp only [qOpt, qRet, bnd_ok, bnd_exc, bnd_err, flow_nx, flow_rt, flow_bk, flow_ct, flow_exc, end_nx, end_rt, end_exc, e_var, g_0, g_s, e_cst, e_bin, e_neg, e_not, e_cmp, e_chain, e_and, e_or, e_ite, e_tup, e_lst, e_lstM, e_lstS, e_dct, e_idx, e_slc, e_rev, e_isi, e_fz, e_repM, fz_lst, fz_tup, fz_dct, m_dget, e_blt, e_call, e_mth, m_tindex, m_tcount, e_lc, l_nil, l_cons, l_star, t_nil, t_cons, o_no, o_so, i_seq, i_rng1, i_rng2, i_zip, i_enum, i_enumT, k_enumT, k_neg, k_int, k_seqT, k_seqL, k_seqF, k_starT, k_starL, k_zipT, k_zipL, k_zipM, k_zipM2, k_enum, k_rng, k_rng2, tr_bl, tr_int, tr_tup, tr_lst, s_nil, s_cons, x_expr, x_set, x_setT, x_par, x_setI, x_aug, x_cond, x_loop, x_while, x_ret, x_retN, x_pass, x_brk, x_cont, x_run, b_lenT, b_lenL, b_lenF, b_tupT, b_tupL, b_lstT, b_lstL, b_allL, b_anyL, b_sumL, b_sumT, b_abs, b_max, b_min, b_intI, b_intB, q_ii, q_ss, mapR_some, andR_ite, orR_ite, unpK, parK, augK, setIK, setTg, setAll, wipe, blt, blt0, seqOf, lstOf, cop, bop, intOp, atP, place, Option.map_some, Option.map_none, Option.bind_some, Option.bind_none, eq_self, reduceCtorEq, Int.reduceLE, Int.reduceLT, Int.reduceNeg, Int.reduceEq, Int.reduceToNat, Int.reduceAdd, Int.reduceSub, Nat.reduceLeDiff, reduceIte,  List.flatten_cons, List.flatten_nil, List.length_map, List.map_cons, List.map_nil, List.length_cons, List.length_nil, List.replicate_succ, List.replicate_zero, List.cons_append, List.nil_append, List.append_nil, List.set_cons_zero, List.set_cons_succ, Bool.not_true, Bool.not_false, if_true, if_false, ite_true, ite_false, Bool.false_eq_true, decide_true, decide_false, Bool.or_true, Bool.true_or, Bool.or_false, Bool.false_or, Bool.and_true, Bool.true_and, Bool.and_false, Bool.false_and, decide_eq_true_eq, Nat.reduceAdd, Nat.reduceSub, Nat.zero_add, Function.comp_apply, ix0, ix1, ix2, ixL0, ixL1, ixL2, Int.cast_ofNat_Int, List.all_cons, List.all_nil, id_eq, m1, m2]⟩
  have zb : Br 8001 (List.zipWith (fun x y => gt p c * x - gt r c * y) r p) := fun x hx => by
    obtain ⟨i, hi, rfl⟩ := List.getElem_of_mem hx
    rw [List.getElem_zipWith]
    have l : i < r.length ∧ i < p.length := by rw [List.length_zipWith] at hi; omega
    exact (((hp.gt c).mul (hr _ (List.getElem_mem l.1))).sub ((hr.gt c).mul (hp _ (List.getElem_mem l.2)))).up (by decide)
  have pr := s_primitive (w := w) (k := k) (S := S) hw (zb.up (by decide)) (by rw [List.length_zipWith]; omega)
  rw [u_cleared]
  simp only [b_cleared, qOpt, qRet, bnd_ok, bnd_exc, bnd_err, flow_nx, flow_rt, flow_bk, flow_ct, flow_exc, end_nx, end_rt, end_exc, e_var, g_0, g_s, e_cst, e_bin, e_neg, e_not, e_cmp, e_chain, e_and, e_or, e_ite, e_tup, e_lst, e_lstM, e_lstS, e_dct, e_idx, e_slc, e_rev, e_isi, e_fz, e_repM, fz_lst, fz_tup, fz_dct, m_dget, e_blt, e_call, e_mth, m_tindex, m_tcount, e_lc, l_nil, l_cons, l_star, t_nil, t_cons, o_no, o_so, i_seq, i_rng1, i_rng2, i_zip, i_enum, i_enumT, k_enumT, k_neg, k_int, k_seqT, k_seqL, k_seqF, k_starT, k_starL, k_zipT, k_zipL, k_zipM, k_zipM2, k_enum, k_rng, k_rng2, tr_bl, tr_int, tr_tup, tr_lst, s_nil, s_cons, x_expr, x_set, x_setT, x_par, x_setI, x_aug, x_cond, x_loop, x_while, x_ret, x_retN, x_pass, x_brk, x_cont, x_run, b_lenT, b_lenL, b_lenF, b_tupT, b_tupL, b_lstT, b_lstL, b_allL, b_anyL, b_sumL, b_sumT, b_abs, b_max, b_min, b_intI, b_intB, q_ii, q_ss, mapR_some, andR_ite, orR_ite, unpK, parK, augK, setIK, setTg, setAll, wipe, blt, blt0, seqOf, lstOf, cop, bop, intOp, atP, place, Option.map_some, Option.map_none, Option.bind_some, Option.bind_none, eq_self, reduceCtorEq, Int.reduceLE, Int.reduceLT, Int.reduceNeg, Int.reduceEq, Int.reduceToNat, Int.reduceAdd, Int.reduceSub, Nat.reduceLeDiff, reduceIte,  List.flatten_cons, List.flatten_nil, List.length_map, List.map_cons, List.map_nil, List.length_cons, List.length_nil, List.replicate_succ, List.replicate_zero, List.cons_append, List.nil_append, List.append_nil, List.set_cons_zero, List.set_cons_succ, Bool.not_true, Bool.not_false, if_true, if_false, ite_true, ite_false, Bool.false_eq_true, decide_true, decide_false, Bool.or_true, Bool.true_or, Bool.or_false, Bool.false_or, Bool.and_true, Bool.true_and, Bool.and_false, Bool.false_and, decide_eq_true_eq, Nat.reduceAdd, Nat.reduceSub, Nat.zero_add, Function.comp_apply, ix0, ix1, ix2, ixL0, ixL1, ixL2, Int.cast_ofNat_Int, List.all_cons, List.all_nil, id_eq, ix_il hc, ix_il (show c < p.length by omega), pairs_map, e1]
  rw [zip_ints (fun x y => gt p c * x - gt r c * y)]
  simp only [qOpt, qRet, bnd_ok, bnd_exc, bnd_err, flow_nx, flow_rt, flow_bk, flow_ct, flow_exc, end_nx, end_rt, end_exc, e_var, g_0, g_s, e_cst, e_bin, e_neg, e_not, e_cmp, e_chain, e_and, e_or, e_ite, e_tup, e_lst, e_lstM, e_lstS, e_dct, e_idx, e_slc, e_rev, e_isi, e_fz, e_repM, fz_lst, fz_tup, fz_dct, m_dget, e_blt, e_call, e_mth, m_tindex, m_tcount, e_lc, l_nil, l_cons, l_star, t_nil, t_cons, o_no, o_so, i_seq, i_rng1, i_rng2, i_zip, i_enum, i_enumT, k_enumT, k_neg, k_int, k_seqT, k_seqL, k_seqF, k_starT, k_starL, k_zipT, k_zipL, k_zipM, k_zipM2, k_enum, k_rng, k_rng2, tr_bl, tr_int, tr_tup, tr_lst, s_nil, s_cons, x_expr, x_set, x_setT, x_par, x_setI, x_aug, x_cond, x_loop, x_while, x_ret, x_retN, x_pass, x_brk, x_cont, x_run, b_lenT, b_lenL, b_lenF, b_tupT, b_tupL, b_lstT, b_lstL, b_allL, b_anyL, b_sumL, b_sumT, b_abs, b_max, b_min, b_intI, b_intB, q_ii, q_ss, mapR_some, andR_ite, orR_ite, unpK, parK, augK, setIK, setTg, setAll, wipe, blt, blt0, seqOf, lstOf, cop, bop, intOp, atP, place, Option.map_some, Option.map_none, Option.bind_some, Option.bind_none, eq_self, reduceCtorEq, Int.reduceLE, Int.reduceLT, Int.reduceNeg, Int.reduceEq, Int.reduceToNat, Int.reduceAdd, Int.reduceSub, Nat.reduceLeDiff, reduceIte,  List.flatten_cons, List.flatten_nil, List.length_map, List.map_cons, List.map_nil, List.length_cons, List.length_nil, List.replicate_succ, List.replicate_zero, List.cons_append, List.nil_append, List.append_nil, List.set_cons_zero, List.set_cons_succ, Bool.not_true, Bool.not_false, if_true, if_false, ite_true, ite_false, Bool.false_eq_true, decide_true, decide_false, Bool.or_true, Bool.true_or, Bool.or_false, Bool.false_or, Bool.and_true, Bool.true_and, Bool.and_false, Bool.false_and, decide_eq_true_eq, Nat.reduceAdd, Nat.reduceSub, Nat.zero_add, Function.comp_apply, ix0, ix1, ix2, ixL0, ixL1, ixL2, Int.cast_ofNat_Int, List.all_cons, List.all_nil, id_eq, pr, clr]
end
end K07

set_option linter.all false
set_option maxRecDepth 10000
set_option exponentiation.threshold 10000
namespace K07
open Ln
open Rr (Row gt gl prim pdiv clr stepE elimF St)
open PySem (PyData Str)
abbrev pq (q : Nat × Row) : D := .tup [.int q.1, il q.2]
abbrev rv (rows : List Row) : D := .tup (rows.map iv)
def b_el : Sms := match b_eliminated with
  | .cons _ (.cons (.loop _ _ b) _) => b
  | _ => .nil
section
variable {w k n : Nat} {S : Store}
theorem lefts_dt {N K : Nat} {rows : List Row} (h : ∀ r ∈ rows, r.length = n ∧ Br N r) (hn : n ≤ 1000) (hl : rows.length ≤ 1000) : Dt false N (K + 2) (.lst (rows.map il)) := .lst (by rw [List.length_map]; omega) fun y hy => by
  obtain ⟨x, hx, rfl⟩ := List.mem_map.mp hy
  exact il_dt (h x hx).2 (by rw [(h x hx).1]; exact hn)
theorem el_step (hw : 1000000 ≤ w) {st : St} {c : Nat} {v0 v1 o5 o6 : Option D} (h : Bst n 4000 st) (hn : n ≤ 1000) (hc : c < n) (hl : st.2.length ≤ 1000) (hl1 : st.1.length ≤ 1000) :
    ∃ p5 p6, execs (callI prog w (k + 5)) w b_el [v0, v1, some (.lst (st.1.map pq)), some (.lst (st.2.map il)), some (.int c), o5, o6, none, none] S = .ok (.nx, [v0, v1, some (.lst ((stepE st c).1.map pq)), some (.lst ((stepE st c).2.map il)), some (.int c), p5, p6, none, none]) S := by
  have e1 := lcM_filter (cf := callI prog w (k + 5)) (ρ := [v0, v1, some (.lst (st.1.map pq)), some (.lst (st.2.map il)), some (.int c), o5, o6, none, none]) (S := S) (elt := .var 7) (c := .cmp .ne (.idx (.var 7) (.var 4)) (.cst (.int 0))) (tg := .nm 7) (own := [7]) il il (fun r => !decide (gt r c = 0)) st.2 fun r hr => ⟨_, rfl, by
    simp only [qOpt, qRet, bnd_ok, bnd_exc, bnd_err, flow_nx, flow_rt, flow_bk, flow_ct, flow_exc, end_nx, end_rt, end_exc, e_var, g_0, g_s, e_cst, e_bin, e_neg, e_not, e_cmp, e_chain, e_and, e_or, e_ite, e_tup, e_lst, e_lstM, e_lstS, e_dct, e_idx, e_slc, e_rev, e_isi, e_fz, e_repM, fz_lst, fz_tup, fz_dct, m_dget, e_blt, e_call, e_mth, m_tindex, m_tcount, e_lc, l_nil, l_cons, l_star, t_nil, t_cons, o_no, o_so, i_seq, i_rng1, i_rng2, i_zip, i_enum, i_enumT, k_enumT, k_neg, k_int, k_seqT, k_seqL, k_seqF, k_starT, k_starL, k_zipT, k_zipL, k_zipM, k_zipM2, k_enum, k_rng, k_rng2, tr_bl, tr_int, tr_tup, tr_lst, s_nil, s_cons, x_expr, x_set, x_setT, x_par, x_setI, x_aug, x_cond, x_loop, x_while, x_ret, x_retN, x_pass, x_brk, x_cont, x_run, b_lenT, b_lenL, b_lenF, b_tupT, b_tupL, b_lstT, b_lstL, b_allL, b_anyL, b_sumL, b_sumT, b_abs, b_max, b_min, b_intI, b_intB, q_ii, q_ss, mapR_some, andR_ite, orR_ite, unpK, parK, augK, setIK, setTg, setAll, wipe, blt, blt0, seqOf, lstOf, cop, bop, intOp, atP, place, Option.map_some, Option.map_none, Option.bind_some, Option.bind_none, eq_self, reduceCtorEq, Int.reduceLE, Int.reduceLT, Int.reduceNeg, Int.reduceEq, Int.reduceToNat, Int.reduceAdd, Int.reduceSub, Nat.reduceLeDiff, reduceIte,  List.flatten_cons, List.flatten_nil, List.length_map, List.map_cons, List.map_nil, List.length_cons, List.length_nil, List.replicate_succ, List.replicate_zero, List.cons_append, List.nil_append, List.append_nil, List.set_cons_zero, List.set_cons_succ, Bool.not_true, Bool.not_false, if_true, if_false, ite_true, ite_false, Bool.false_eq_true, decide_true, decide_false, Bool.or_true, Bool.true_or, Bool.or_false, Bool.false_or, Bool.and_true, Bool.true_and, Bool.and_false, Bool.false_and, decide_eq_true_eq, Nat.reduceAdd, Nat.reduceSub, Nat.zero_add, Function.comp_apply, ix0, ix1, ix2, ixL0, ixL1, ixL2, Int.cast_ofNat_Int, List.all_cons, List.all_nil, id_eq, ix_il (show c < r.length by rw [(h.l r hr).1]; exact hc)], fun _ => by simp only [qOpt, qRet, bnd_ok, bnd_exc, bnd_err, flow_nx, flow_rt, flow_bk, flow_ct, flow_exc, end_nx, end_rt, end_exc, e_var, g_0, g_s, e_cst, e_bin, e_neg, e_not, e_cmp, e_chain, e_and, e_or, e_ite, e_tup, e_lst, e_lstM, e_lstS, e_dct, e_idx, e_slc, e_rev, e_isi, e_fz, e_repM, fz_lst, fz_tup, fz_dct, m_dget, e_blt, e_call, e_mth, m_tindex, m_tcount, e_lc, l_nil, l_cons, l_star, t_nil, t_cons, o_no, o_so, i_seq, i_rng1, i_rng2, i_zip, i_enum, i_enumT, k_enumT, k_neg, k_int, k_seqT, k_seqL, k_seqF, k_starT, k_starL, k_zipT, k_zipL, k_zipM, k_zipM2, k_enum, k_rng, k_rng2, tr_bl, tr_int, tr_tup, tr_lst, s_nil, s_cons, x_expr, x_set, x_setT, x_par, x_setI, x_aug, x_cond, x_loop, x_while, x_ret, x_retN, x_pass, x_brk, x_cont, x_run, b_lenT, b_lenL, b_lenF, b_tupT, b_tupL, b_lstT, b_lstL, b_allL, b_anyL, b_sumL, b_sumT, b_abs, b_max, b_min, b_intI, b_intB, q_ii, q_ss, mapR_some, andR_ite, orR_ite, unpK, parK, augK, setIK, setTg, setAll, wipe, blt, blt0, seqOf, lstOf, cop, bop, intOp, atP, place, Option.map_some, Option.map_none, Option.bind_some, Option.bind_none, eq_self, reduceCtorEq, Int.reduceLE, Int.reduceLT, Int.reduceNeg, Int.reduceEq, Int.reduceToNat, Int.reduceAdd, Int.reduceSub, Nat.reduceLeDiff, reduceIte,  List.flatten_cons, List.flatten_nil, List.length_map, List.map_cons, List.map_nil, List.length_cons, List.length_nil, List.replicate_succ, List.replicate_zero, List.cons_append, List.nil_append, List.append_nil, List.set_cons_zero, List.set_cons_succ, Bool.not_true, Bool.not_false, if_true, if_false, ite_true, ite_false, Bool.false_eq_true, decide_true, decide_false, Bool.or_true, Bool.true_or, Bool.or_false, Bool.false_or, Bool.and_true, Bool.true_and, Bool.and_false, Bool.false_and, decide_eq_true_eq, Nat.reduceAdd, Nat.reduceSub, Nat.zero_add, Function.comp_apply, ix0, ix1, ix2, ixL0, ixL1, ixL2, Int.cast_ofNat_Int, List.all_cons, List.all_nil, id_eq]⟩
  have fb : ∀ r ∈ st.2.filter (fun r => !decide (gt r c = 0)), r.length = n ∧ Br 4000 r := fun r hr => h.l r (List.mem_filter.mp hr).1
  have q := eq_nilL (S := S) (lefts_dt (K := 0) fb hn (Nat.le_trans (List.length_filter_le _ _) hl)) (by decide)
  have se : stepE st c = match st.2.filter fun r => !decide (gt r c = 0) with | [] => st | f :: _ => (st.1.map (fun q => (q.1, clr q.2 (prim f) c)) ++ [(c, prim f)], st.2.map fun r => clr r (prim f) c) := rfl
  rw [se]
  cases e : st.2.filter fun r => !decide (gt r c = 0) with
  | nil =>
    rw [e] at e1 q
    simp only [List.map_nil, List.isEmpty_nil] at e1 q
    exact ⟨some (.lst []), o6, by simp only [b_el, b_eliminated, qOpt, qRet, bnd_ok, bnd_exc, bnd_err, flow_nx, flow_rt, flow_bk, flow_ct, flow_exc, end_nx, end_rt, end_exc, e_var, g_0, g_s, e_cst, e_bin, e_neg, e_not, e_cmp, e_chain, e_and, e_or, e_ite, e_tup, e_lst, e_lstM, e_lstS, e_dct, e_idx, e_slc, e_rev, e_isi, e_fz, e_repM, fz_lst, fz_tup, fz_dct, m_dget, e_blt, e_call, e_mth, m_tindex, m_tcount, e_lc, l_nil, l_cons, l_star, t_nil, t_cons, o_no, o_so, i_seq, i_rng1, i_rng2, i_zip, i_enum, i_enumT, k_enumT, k_neg, k_int, k_seqT, k_seqL, k_seqF, k_starT, k_starL, k_zipT, k_zipL, k_zipM, k_zipM2, k_enum, k_rng, k_rng2, tr_bl, tr_int, tr_tup, tr_lst, s_nil, s_cons, x_expr, x_set, x_setT, x_par, x_setI, x_aug, x_cond, x_loop, x_while, x_ret, x_retN, x_pass, x_brk, x_cont, x_run, b_lenT, b_lenL, b_lenF, b_tupT, b_tupL, b_lstT, b_lstL, b_allL, b_anyL, b_sumL, b_sumT, b_abs, b_max, b_min, b_intI, b_intB, q_ii, q_ss, mapR_some, andR_ite, orR_ite, unpK, parK, augK, setIK, setTg, setAll, wipe, blt, blt0, seqOf, lstOf, cop, bop, intOp, atP, place, Option.map_some, Option.map_none, Option.bind_some, Option.bind_none, eq_self, reduceCtorEq, Int.reduceLE, Int.reduceLT, Int.reduceNeg, Int.reduceEq, Int.reduceToNat, Int.reduceAdd, Int.reduceSub, Nat.reduceLeDiff, reduceIte,  List.flatten_cons, List.flatten_nil, List.length_map, List.map_cons, List.map_nil, List.length_cons, List.length_nil, List.replicate_succ, List.replicate_zero, List.cons_append, List.nil_append, List.append_nil, List.set_cons_zero, List.set_cons_succ, Bool.not_true, Bool.not_false, if_true, if_false, ite_true, ite_false, Bool.false_eq_true, decide_true, decide_false, Bool.or_true, Bool.true_or, Bool.or_false, Bool.false_or, Bool.and_true, Bool.true_and, Bool.and_false, Bool.false_and, decide_eq_true_eq, Nat.reduceAdd, Nat.reduceSub, Nat.zero_add, Function.comp_apply, ix0, ix1, ix2, ixL0, ixL1, ixL2, Int.cast_ofNat_Int, List.all_cons, List.all_nil, id_eq, e1, q]⟩
  | cons f fs =>
    have hf := fb f (by rw [e]; exact List.mem_cons_self)
    have hp : Br 4000 (prim f) := prim_br hf.2
    have pl : (prim f).length = n := (Rr.prim_len f).trans hf.1
    rw [e] at e1 q
    simp only [List.map_cons, List.isEmpty_cons] at e1 q
    have pr := s_primitive (w := w) (k := k + 2) (S := S) hw (hf.2.up (by decide)) (by rw [hf.1]; exact hn)
    have e2 : ∀ {a5 a6 : Option D}, lcM (callI prog w (k + 5)) (.call 7 (.cons (.var 7) (.cons (.var 6) (.cons (.var 4) .nil)))) (.nm 7) .nil [7] [v0, v1, some (.lst (st.1.map pq)), some (.lst (st.2.map il)), some (.int c), a5, some (il (prim f)), none, none] (st.2.map il) S = .ok (.lst (st.2.map fun r => il (clr r (prim f) c))) S := fun {a5 a6} =>
      lcM_map il (fun r => il (clr r (prim f) c)) st.2 fun r hr => ⟨_, rfl, by
        have hr' := h.l r hr
        simp only [qOpt, qRet, bnd_ok, bnd_exc, bnd_err, flow_nx, flow_rt, flow_bk, flow_ct, flow_exc, end_nx, end_rt, end_exc, e_var, g_0, g_s, e_cst, e_bin, e_neg, e_not, e_cmp, e_chain, e_and, e_or, e_ite, e_tup, e_lst, e_lstM, e_lstS, e_dct, e_idx, e_slc, e_rev, e_isi, e_fz, e_repM, fz_lst, fz_tup, fz_dct, m_dget, e_blt, e_call, e_mth, m_tindex, m_tcount, e_lc, l_nil, l_cons, l_star, t_nil, t_cons, o_no, o_so, i_seq, i_rng1, i_rng2, i_zip, i_enum, i_enumT, k_enumT, k_neg, k_int, k_seqT, k_seqL, k_seqF, k_starT, k_starL, k_zipT, k_zipL, k_zipM, k_zipM2, k_enum, k_rng, k_rng2, tr_bl, tr_int, tr_tup, tr_lst, s_nil, s_cons, x_expr, x_set, x_setT, x_par, x_setI, x_aug, x_cond, x_loop, x_while, x_ret, x_retN, x_pass, x_brk, x_cont, x_run, b_lenT, b_lenL, b_lenF, b_tupT, b_tupL, b_lstT, b_lstL, b_allL, b_anyL, b_sumL, b_sumT, b_abs, b_max, b_min, b_intI, b_intB, q_ii, q_ss, mapR_some, andR_ite, orR_ite, unpK, parK, augK, setIK, setTg, setAll, wipe, blt, blt0, seqOf, lstOf, cop, bop, intOp, atP, place, Option.map_some, Option.map_none, Option.bind_some, Option.bind_none, eq_self, reduceCtorEq, Int.reduceLE, Int.reduceLT, Int.reduceNeg, Int.reduceEq, Int.reduceToNat, Int.reduceAdd, Int.reduceSub, Nat.reduceLeDiff, reduceIte,  List.flatten_cons, List.flatten_nil, List.length_map, List.map_cons, List.map_nil, List.length_cons, List.length_nil, List.replicate_succ, List.replicate_zero, List.cons_append, List.nil_append, List.append_nil, List.set_cons_zero, List.set_cons_succ, Bool.not_true, Bool.not_false, if_true, if_false, ite_true, ite_false, Bool.false_eq_true, decide_true, decide_false, Bool.or_true, Bool.true_or, Bool.or_false, Bool.false_or, Bool.and_true, Bool.true_and, Bool.and_false, Bool.false_and, decide_eq_true_eq, Nat.reduceAdd, Nat.reduceSub, Nat.zero_add, Function.comp_apply, ix0, ix1, ix2, ixL0, ixL1, ixL2, Int.cast_ofNat_Int, List.all_cons, List.all_nil, id_eq, s_cleared (k := k + 1) hw hr'.2 hp (hr'.1.trans pl.symm) (by rw [hr'.1]; exact hn) (by rw [hr'.1]; exact hc)]⟩
    have e3 : ∀ {a3 a5 a6 : Option D}, lcM (callI prog w (k + 5)) (.tup (.cons (.var 8) (.cons (.call 7 (.cons (.var 7) (.cons (.var 6) (.cons (.var 4) .nil)))) .nil))) (.tp [8, 7]) .nil [8, 7] [v0, v1, some (.lst (st.1.map pq)), a3, some (.int c), a5, some (il (prim f)), none, none] (st.1.map pq) S = .ok (.lst (st.1.map fun q => pq (q.1, clr q.2 (prim f) c))) S := fun {a3 a5 a6} =>
      lcM_map pq (fun q => pq (q.1, clr q.2 (prim f) c)) st.1 fun r hr => ⟨_, rfl, by
        have hr' := h.f r hr
        simp only [qOpt, qRet, bnd_ok, bnd_exc, bnd_err, flow_nx, flow_rt, flow_bk, flow_ct, flow_exc, end_nx, end_rt, end_exc, e_var, g_0, g_s, e_cst, e_bin, e_neg, e_not, e_cmp, e_chain, e_and, e_or, e_ite, e_tup, e_lst, e_lstM, e_lstS, e_dct, e_idx, e_slc, e_rev, e_isi, e_fz, e_repM, fz_lst, fz_tup, fz_dct, m_dget, e_blt, e_call, e_mth, m_tindex, m_tcount, e_lc, l_nil, l_cons, l_star, t_nil, t_cons, o_no, o_so, i_seq, i_rng1, i_rng2, i_zip, i_enum, i_enumT, k_enumT, k_neg, k_int, k_seqT, k_seqL, k_seqF, k_starT, k_starL, k_zipT, k_zipL, k_zipM, k_zipM2, k_enum, k_rng, k_rng2, tr_bl, tr_int, tr_tup, tr_lst, s_nil, s_cons, x_expr, x_set, x_setT, x_par, x_setI, x_aug, x_cond, x_loop, x_while, x_ret, x_retN, x_pass, x_brk, x_cont, x_run, b_lenT, b_lenL, b_lenF, b_tupT, b_tupL, b_lstT, b_lstL, b_allL, b_anyL, b_sumL, b_sumT, b_abs, b_max, b_min, b_intI, b_intB, q_ii, q_ss, mapR_some, andR_ite, orR_ite, unpK, parK, augK, setIK, setTg, setAll, wipe, blt, blt0, seqOf, lstOf, cop, bop, intOp, atP, place, Option.map_some, Option.map_none, Option.bind_some, Option.bind_none, eq_self, reduceCtorEq, Int.reduceLE, Int.reduceLT, Int.reduceNeg, Int.reduceEq, Int.reduceToNat, Int.reduceAdd, Int.reduceSub, Nat.reduceLeDiff, reduceIte,  List.flatten_cons, List.flatten_nil, List.length_map, List.map_cons, List.map_nil, List.length_cons, List.length_nil, List.replicate_succ, List.replicate_zero, List.cons_append, List.nil_append, List.append_nil, List.set_cons_zero, List.set_cons_succ, Bool.not_true, Bool.not_false, if_true, if_false, ite_true, ite_false, Bool.false_eq_true, decide_true, decide_false, Bool.or_true, Bool.true_or, Bool.or_false, Bool.false_or, Bool.and_true, Bool.true_and, Bool.and_false, Bool.false_and, decide_eq_true_eq, Nat.reduceAdd, Nat.reduceSub, Nat.zero_add, Function.comp_apply, ix0, ix1, ix2, ixL0, ixL1, ixL2, Int.cast_ofNat_Int, List.all_cons, List.all_nil, id_eq, s_cleared (k := k + 1) hw hr'.2 hp (hr'.1.trans pl.symm) (by rw [hr'.1]; exact hn) (by rw [hr'.1]; exact hc)]⟩
    have ad := fun S => add_ll (a := st.1.map fun q => pq (q.1, clr q.2 (prim f) c)) (b := [.tup [.int c, il (prim f)]]) (by rw [List.length_map, List.length_singleton]; omega) S
    exact ⟨some (.lst (il f :: fs.map il)), some (il (prim f)), by simp only [b_el, b_eliminated, qOpt, qRet, bnd_ok, bnd_exc, bnd_err, flow_nx, flow_rt, flow_bk, flow_ct, flow_exc, end_nx, end_rt, end_exc, e_var, g_0, g_s, e_cst, e_bin, e_neg, e_not, e_cmp, e_chain, e_and, e_or, e_ite, e_tup, e_lst, e_lstM, e_lstS, e_dct, e_idx, e_slc, e_rev, e_isi, e_fz, e_repM, fz_lst, fz_tup, fz_dct, m_dget, e_blt, e_call, e_mth, m_tindex, m_tcount, e_lc, l_nil, l_cons, l_star, t_nil, t_cons, o_no, o_so, i_seq, i_rng1, i_rng2, i_zip, i_enum, i_enumT, k_enumT, k_neg, k_int, k_seqT, k_seqL, k_seqF, k_starT, k_starL, k_zipT, k_zipL, k_zipM, k_zipM2, k_enum, k_rng, k_rng2, tr_bl, tr_int, tr_tup, tr_lst, s_nil, s_cons, x_expr, x_set, x_setT, x_par, x_setI, x_aug, x_cond, x_loop, x_while, x_ret, x_retN, x_pass, x_brk, x_cont, x_run, b_lenT, b_lenL, b_lenF, b_tupT, b_tupL, b_lstT, b_lstL, b_allL, b_anyL, b_sumL, b_sumT, b_abs, b_max, b_min, b_intI, b_intB, q_ii, q_ss, mapR_some, andR_ite, orR_ite, unpK, parK, augK, setIK, setTg, setAll, wipe, blt, blt0, seqOf, lstOf, cop, isiD, tyOf, atP, place, Option.map_some, Option.map_none, Option.bind_some, Option.bind_none, eq_self, reduceCtorEq, Int.reduceLE, Int.reduceLT, Int.reduceNeg, Int.reduceEq, Int.reduceToNat, Int.reduceAdd, Int.reduceSub, Nat.reduceLeDiff, reduceIte,  List.flatten_cons, List.flatten_nil, List.length_map, List.map_cons, List.map_nil, List.length_cons, List.length_nil, List.replicate_succ, List.replicate_zero, List.cons_append, List.nil_append, List.append_nil, List.set_cons_zero, List.set_cons_succ, Bool.not_true, Bool.not_false, if_true, if_false, ite_true, ite_false, Bool.false_eq_true, decide_true, decide_false, Bool.or_true, Bool.true_or, Bool.or_false, Bool.false_or, Bool.and_true, Bool.true_and, Bool.and_false, Bool.false_and, decide_eq_true_eq, Nat.reduceAdd, Nat.reduceSub, Nat.zero_add, Function.comp_apply, ixL0, e1, q, pr, e2 (a6 := none), e3 (a6 := none), ad, List.map_append, List.map_map, Function.comp_def]⟩
theorem el_loop (hw : 1000000 ≤ w) (hn : n ≤ 1000) {v0 v1 : Option D} : ∀ (cs : List Nat) (st : St) (o4 o5 o6 : Option D), Oks n cs st → (∀ c ∈ cs, c < n) → st.2.length ≤ 1000 → st.1.length + cs.length ≤ 1000 →
    ∃ p4 p5 p6, loopM (callI prog w (k + 5)) w (.nm 4) b_el (cs.map fun (i : Nat) => D.int (i : Int)) [v0, v1, some (.lst (st.1.map pq)), some (.lst (st.2.map il)), o4, o5, o6, none, none] S = .ok (.nx, [v0, v1, some (.lst ((cs.foldl stepE st).1.map pq)), some (.lst ((cs.foldl stepE st).2.map il)), p4, p5, p6, none, none]) S
  | [], st, o4, o5, o6, _, _, _, _ => ⟨o4, o5, o6, rfl⟩
  | c :: cs, st, o4, o5, o6, h, hc, hl, hl1 => by
    obtain ⟨p5, p6, e⟩ := el_step (w := w) (k := k) (S := S) hw (v0 := v0) (v1 := v1) (o5 := o5) (o6 := o6) h.1 hn (hc c List.mem_cons_self) hl (by simp at hl1; omega)
    have l2 : (stepE st c).2.length = st.2.length ∧ (stepE st c).1.length ≤ st.1.length + 1 := by
      unfold Rr.stepE
      split
      · exact ⟨rfl, by omega⟩
      · exact ⟨by rw [List.length_map], by simp⟩
    obtain ⟨q4, q5, q6, e2⟩ := el_loop hw hn (v0 := v0) (v1 := v1) cs (stepE st c) (some (.int c)) p5 p6 h.2 (fun d hd => hc d (List.mem_cons_of_mem _ hd)) (by rw [l2.1]; exact hl) (by simp at hl1; omega)
    exact ⟨q4, q5, q6, (loopM_nx (ρ1 := [v0, v1, some (.lst (st.1.map pq)), some (.lst (st.2.map il)), some (.int c), o5, o6, none, none]) rfl e).trans e2⟩
/-- rows that may be reduced -/
structure Rows (n : Nat) (rows : List Row) : Prop where
  len : ∀ r ∈ rows, r.length = n
  n1 : 1 ≤ n
  n60 : n ≤ 60
  m1 : rows ≠ []
  m : rows.length ≤ 900
  b : ∀ r ∈ rows, Br 4000 r
theorem s_eliminated (hw : 1000000 ≤ w) {rows : List Row} (h : Rows n rows) (ok : Oks n (List.range n) ([], rows)) : callI prog w (k + 6) 8 [rv rows, .int n] S = .ok (.tup [.lst ((elimF rows n).1.map pq), .lst ((elimF rows n).2.map il)]) S := by
  have e1 := lcM_map (cf := callI prog w (k + 5)) (ρ := [some (rv rows), some (.int n), none, none, none, none, none, none, none]) (S := S) (elt := .blt .list (.cons (.var 7) .nil)) (tg := .nm 7) (own := [7]) iv il rows fun r hr => ⟨_, rfl, by simp only [qOpt, qRet, bnd_ok, bnd_exc, bnd_err, flow_nx, flow_rt, flow_bk, flow_ct, flow_exc, end_nx, end_rt, end_exc, e_var, g_0, g_s, e_cst, e_bin, e_neg, e_not, e_cmp, e_chain, e_and, e_or, e_ite, e_tup, e_lst, e_lstM, e_lstS, e_dct, e_idx, e_slc, e_rev, e_isi, e_fz, e_repM, fz_lst, fz_tup, fz_dct, m_dget, e_blt, e_call, e_mth, m_tindex, m_tcount, e_lc, l_nil, l_cons, l_star, t_nil, t_cons, o_no, o_so, i_seq, i_rng1, i_rng2, i_zip, i_enum, i_enumT, k_enumT, k_neg, k_int, k_seqT, k_seqL, k_seqF, k_starT, k_starL, k_zipT, k_zipL, k_zipM, k_zipM2, k_enum, k_rng, k_rng2, tr_bl, tr_int, tr_tup, tr_lst, s_nil, s_cons, x_expr, x_set, x_setT, x_par, x_setI, x_aug, x_cond, x_loop, x_while, x_ret, x_retN, x_pass, x_brk, x_cont, x_run, b_lenT, b_lenL, b_lenF, b_tupT, b_tupL, b_lstT, b_lstL, b_allL, b_anyL, b_sumL, b_sumT, b_abs, b_max, b_min, b_intI, b_intB, q_ii, q_ss, mapR_some, andR_ite, orR_ite, unpK, parK, augK, setIK, setTg, setAll, wipe, blt, blt0, seqOf, lstOf, cop, bop, intOp, atP, place, Option.map_some, Option.map_none, Option.bind_some, Option.bind_none, eq_self, reduceCtorEq, Int.reduceLE, Int.reduceLT, Int.reduceNeg, Int.reduceEq, Int.reduceToNat, Int.reduceAdd, Int.reduceSub, Nat.reduceLeDiff, reduceIte,  List.flatten_cons, List.flatten_nil, List.length_map, List.map_cons, List.map_nil, List.length_cons, List.length_nil, List.replicate_succ, List.replicate_zero, List.cons_append, List.nil_append, List.append_nil, List.set_cons_zero, List.set_cons_succ, Bool.not_true, Bool.not_false, if_true, if_false, ite_true, ite_false, Bool.false_eq_true, decide_true, decide_false, Bool.or_true, Bool.true_or, Bool.or_false, Bool.false_or, Bool.and_true, Bool.true_and, Bool.and_false, Bool.false_and, decide_eq_true_eq, Nat.reduceAdd, Nat.reduceSub, Nat.zero_add, Function.comp_apply, ix0, ix1, ix2, ixL0, ixL1, ixL2, Int.cast_ofNat_Int, List.all_cons, List.all_nil, id_eq]⟩
  obtain ⟨p4, p5, p6, e2⟩ := el_loop (w := w) (k := k) (S := S) hw (show n ≤ 1000 by have := h.n60; omega) (v0 := some (rv rows)) (v1 := some (.int n)) (List.range n) ([], rows) none none none ok (fun c hc => List.mem_range.mp hc) (by have := h.m; show rows.length ≤ 1000; omega) (by have := h.n60; simp; omega)
  simp only [b_el, b_eliminated, List.map_nil] at e2
  rw [u_eliminated]
  simp only [b_eliminated, qOpt, qRet, bnd_ok, bnd_exc, bnd_err, flow_nx, flow_rt, flow_bk, flow_ct, flow_exc, end_nx, end_rt, end_exc, e_var, g_0, g_s, e_cst, e_bin, e_neg, e_not, e_cmp, e_chain, e_and, e_or, e_ite, e_tup, e_lst, e_lstM, e_lstS, e_dct, e_idx, e_slc, e_rev, e_isi, e_fz, e_repM, fz_lst, fz_tup, fz_dct, m_dget, e_blt, e_call, e_mth, m_tindex, m_tcount, e_lc, l_nil, l_cons, l_star, t_nil, t_cons, o_no, o_so, i_seq, i_rng1, i_rng2, i_zip, i_enum, i_enumT, k_enumT, k_neg, k_int, k_seqT, k_seqL, k_seqF, k_starT, k_starL, k_zipT, k_zipL, k_zipM, k_zipM2, k_enum, k_rng, k_rng2, tr_bl, tr_int, tr_tup, tr_lst, s_nil, s_cons, x_expr, x_set, x_setT, x_par, x_setI, x_aug, x_cond, x_loop, x_while, x_ret, x_retN, x_pass, x_brk, x_cont, x_run, b_lenT, b_lenL, b_lenF, b_tupT, b_tupL, b_lstT, b_lstL, b_allL, b_anyL, b_sumL, b_sumT, b_abs, b_max, b_min, b_intI, b_intB, q_ii, q_ss, mapR_some, andR_ite, orR_ite, unpK, parK, augK, setIK, setTg, setAll, wipe, blt, blt0, seqOf, lstOf, cop, bop, intOp, atP, place, Option.map_some, Option.map_none, Option.bind_some, Option.bind_none, eq_self, reduceCtorEq, Int.reduceLE, Int.reduceLT, Int.reduceNeg, Int.reduceEq, Int.reduceToNat, Int.reduceAdd, Int.reduceSub, Nat.reduceLeDiff, reduceIte,  List.flatten_cons, List.flatten_nil, List.length_map, List.map_cons, List.map_nil, List.length_cons, List.length_nil, List.replicate_succ, List.replicate_zero, List.cons_append, List.nil_append, List.append_nil, List.set_cons_zero, List.set_cons_succ, Bool.not_true, Bool.not_false, if_true, if_false, ite_true, ite_false, Bool.false_eq_true, decide_true, decide_false, Bool.or_true, Bool.true_or, Bool.or_false, Bool.false_or, Bool.and_true, Bool.true_and, Bool.and_false, Bool.false_and, decide_eq_true_eq, Nat.reduceAdd, Nat.reduceSub, Nat.zero_add, Function.comp_apply, ix0, ix1, ix2, ixL0, ixL1, ixL2, Int.cast_ofNat_Int, List.all_cons, List.all_nil, id_eq, e1, k_rng (n := n) (lineB (by have := h.n60; omega)), e2]
  rfl
theorem s_are_integers {xs : List Int} {a b : Nat} (h1 : a ≤ xs.length) (h2 : xs.length ≤ b) : callI prog w (k + 2) 3 [iv xs, .int a, .int b] S = .ok (.bl true) S := by
  have e1 : ∀ (i : Int) S, callI prog w (k + 1) 0 [.int i] S = .ok (.bl true) S := fun i S => isint_sp hisint (d := .int i) trivial
  have g1 : decide ((a : Int) ≤ xs.length) = true := decide_eq_true (by omega)
  have g2 : decide ((xs.length : Int) ≤ b) = true := decide_eq_true (by omega)
  rw [u_are_integers]
  simp only [b_are_integers, qOpt, qRet, bnd_ok, bnd_exc, bnd_err, flow_nx, flow_rt, flow_bk, flow_ct, flow_exc, end_nx, end_rt, end_exc, e_var, g_0, g_s, e_cst, e_bin, e_neg, e_not, e_cmp, e_chain, e_and, e_or, e_ite, e_tup, e_lst, e_lstM, e_lstS, e_dct, e_idx, e_slc, e_rev, e_isi, e_fz, e_repM, fz_lst, fz_tup, fz_dct, m_dget, e_blt, e_call, e_mth, m_tindex, m_tcount, e_lc, l_nil, l_cons, l_star, t_nil, t_cons, o_no, o_so, i_seq, i_rng1, i_rng2, i_zip, i_enum, i_enumT, k_enumT, k_neg, k_int, k_seqT, k_seqL, k_seqF, k_starT, k_starL, k_zipT, k_zipL, k_zipM, k_zipM2, k_enum, k_rng, k_rng2, tr_bl, tr_int, tr_tup, tr_lst, s_nil, s_cons, x_expr, x_set, x_setT, x_par, x_setI, x_aug, x_cond, x_loop, x_while, x_ret, x_retN, x_pass, x_brk, x_cont, x_run, b_lenT, b_lenL, b_lenF, b_tupT, b_tupL, b_lstT, b_lstL, b_allL, b_anyL, b_sumL, b_sumT, b_abs, b_max, b_min, b_intI, b_intB, q_ii, q_ss, mapR_some, andR_ite, orR_ite, unpK, parK, augK, setIK, setTg, setAll, wipe, blt, blt0, seqOf, lstOf, cop, bop, intOp, atP, place, Option.map_some, Option.map_none, Option.bind_some, Option.bind_none, eq_self, reduceCtorEq, Int.reduceLE, Int.reduceLT, Int.reduceNeg, Int.reduceEq, Int.reduceToNat, Int.reduceAdd, Int.reduceSub, Nat.reduceLeDiff, reduceIte,  List.flatten_cons, List.flatten_nil, List.length_map, List.map_cons, List.map_nil, List.length_cons, List.length_nil, List.replicate_succ, List.replicate_zero, List.cons_append, List.nil_append, List.append_nil, List.set_cons_zero, List.set_cons_succ, Bool.not_true, Bool.not_false, if_true, if_false, ite_true, ite_false, Bool.false_eq_true, decide_true, decide_false, Bool.or_true, Bool.true_or, Bool.or_false, Bool.false_or, Bool.and_true, Bool.true_and, Bool.and_false, Bool.false_and, decide_eq_true_eq, Nat.reduceAdd, Nat.reduceSub, Nat.zero_add, Function.comp_apply, ix0, ix1, ix2, ixL0, ixL1, ixL2, Int.cast_ofNat_Int, List.all_cons, List.all_nil, id_eq, isi_tup (d := iv xs) trivial, isT, g1, g2]
  rw [lcM_map D.int (fun _ => D.bl true) xs fun x hx => ⟨_, rfl, by simp only [qOpt, qRet, bnd_ok, bnd_exc, bnd_err, flow_nx, flow_rt, flow_bk, flow_ct, flow_exc, end_nx, end_rt, end_exc, e_var, g_0, g_s, e_cst, e_bin, e_neg, e_not, e_cmp, e_chain, e_and, e_or, e_ite, e_tup, e_lst, e_lstM, e_lstS, e_dct, e_idx, e_slc, e_rev, e_isi, e_fz, e_repM, fz_lst, fz_tup, fz_dct, m_dget, e_blt, e_call, e_mth, m_tindex, m_tcount, e_lc, l_nil, l_cons, l_star, t_nil, t_cons, o_no, o_so, i_seq, i_rng1, i_rng2, i_zip, i_enum, i_enumT, k_enumT, k_neg, k_int, k_seqT, k_seqL, k_seqF, k_starT, k_starL, k_zipT, k_zipL, k_zipM, k_zipM2, k_enum, k_rng, k_rng2, tr_bl, tr_int, tr_tup, tr_lst, s_nil, s_cons, x_expr, x_set, x_setT, x_par, x_setI, x_aug, x_cond, x_loop, x_while, x_ret, x_retN, x_pass, x_brk, x_cont, x_run, b_lenT, b_lenL, b_lenF, b_tupT, b_tupL, b_lstT, b_lstL, b_allL, b_anyL, b_sumL, b_sumT, b_abs, b_max, b_min, b_intI, b_intB, q_ii, q_ss, mapR_some, andR_ite, orR_ite, unpK, parK, augK, setIK, setTg, setAll, wipe, blt, blt0, seqOf, lstOf, cop, bop, intOp, atP, place, Option.map_some, Option.map_none, Option.bind_some, Option.bind_none, eq_self, reduceCtorEq, Int.reduceLE, Int.reduceLT, Int.reduceNeg, Int.reduceEq, Int.reduceToNat, Int.reduceAdd, Int.reduceSub, Nat.reduceLeDiff, reduceIte,  List.flatten_cons, List.flatten_nil, List.length_map, List.map_cons, List.map_nil, List.length_cons, List.length_nil, List.replicate_succ, List.replicate_zero, List.cons_append, List.nil_append, List.append_nil, List.set_cons_zero, List.set_cons_succ, Bool.not_true, Bool.not_false, if_true, if_false, ite_true, ite_false, Bool.false_eq_true, decide_true, decide_false, Bool.or_true, Bool.true_or, Bool.or_false, Bool.false_or, Bool.and_true, Bool.true_and, Bool.and_false, Bool.false_and, decide_eq_true_eq, Nat.reduceAdd, Nat.reduceSub, Nat.zero_add, Function.comp_apply, ix0, ix1, ix2, ixL0, ixL1, ixL2, Int.cast_ofNat_Int, List.all_cons, List.all_nil, id_eq, e1]⟩]
  simp only [qOpt, qRet, bnd_ok, bnd_exc, bnd_err, flow_nx, flow_rt, flow_bk, flow_ct, flow_exc, end_nx, end_rt, end_exc, e_var, g_0, g_s, e_cst, e_bin, e_neg, e_not, e_cmp, e_chain, e_and, e_or, e_ite, e_tup, e_lst, e_lstM, e_lstS, e_dct, e_idx, e_slc, e_rev, e_isi, e_fz, e_repM, fz_lst, fz_tup, fz_dct, m_dget, e_blt, e_call, e_mth, m_tindex, m_tcount, e_lc, l_nil, l_cons, l_star, t_nil, t_cons, o_no, o_so, i_seq, i_rng1, i_rng2, i_zip, i_enum, i_enumT, k_enumT, k_neg, k_int, k_seqT, k_seqL, k_seqF, k_starT, k_starL, k_zipT, k_zipL, k_zipM, k_zipM2, k_enum, k_rng, k_rng2, tr_bl, tr_int, tr_tup, tr_lst, s_nil, s_cons, x_expr, x_set, x_setT, x_par, x_setI, x_aug, x_cond, x_loop, x_while, x_ret, x_retN, x_pass, x_brk, x_cont, x_run, b_lenT, b_lenL, b_lenF, b_tupT, b_tupL, b_lstT, b_lstL, b_allL, b_anyL, b_sumL, b_sumT, b_abs, b_max, b_min, b_intI, b_intB, q_ii, q_ss, mapR_some, andR_ite, orR_ite, unpK, parK, augK, setIK, setTg, setAll, wipe, blt, blt0, seqOf, lstOf, cop, bop, intOp, atP, place, Option.map_some, Option.map_none, Option.bind_some, Option.bind_none, eq_self, reduceCtorEq, Int.reduceLE, Int.reduceLT, Int.reduceNeg, Int.reduceEq, Int.reduceToNat, Int.reduceAdd, Int.reduceSub, Nat.reduceLeDiff, reduceIte,  List.flatten_cons, List.flatten_nil, List.length_map, List.map_cons, List.map_nil, List.length_cons, List.length_nil, List.replicate_succ, List.replicate_zero, List.cons_append, List.nil_append, List.append_nil, List.set_cons_zero, List.set_cons_succ, Bool.not_true, Bool.not_false, if_true, if_false, ite_true, ite_false, Bool.false_eq_true, decide_true, decide_false, Bool.or_true, Bool.true_or, Bool.or_false, Bool.false_or, Bool.and_true, Bool.true_and, Bool.and_false, Bool.false_and, decide_eq_true_eq, Nat.reduceAdd, Nat.reduceSub, Nat.zero_add, Function.comp_apply, ix0, ix1, ix2, ixL0, ixL1, ixL2, Int.cast_ofNat_Int, List.all_cons, List.all_nil, id_eq, bools_fun (fun _ : Int => true)]
  simp [R.bnd, endR, mapR]
theorem all_true {α : Type} (l : List α) : ((l.map fun _ => true).all id) = true := by simp
theorem rows_dt {rows : List Row} (h : Rows n rows) : Dt false 4000 2 (rv rows) := .tup (by rw [List.length_map]; have := h.m; omega) fun y hy => by
  obtain ⟨x, hx, rfl⟩ := List.mem_map.mp hy
  exact iv_dt (h.b x hx) (by rw [h.len x hx]; have := h.n60; omega)
theorem i0 {rows : List Row} (h0 : rows ≠ []) : ∀ S, idxD S (rv rows) (.int 0) = some (iv (rows.head h0)) := fun S => by
  cases rows with
  | nil => exact absurd rfl h0
  | cons a l => exact ix0
theorem s_are_rows {rows : List Row} (h : Rows n rows) : callI prog w (k + 3) 4 [rv rows] S = .ok (.bl true) S := by
  have nn : eqD S (rv rows) (.tup []) = some false := by
    rw [eq_nilT (rows_dt h) (by decide)]
    have := h.m1
    cases rows with
    | nil => exact absurd rfl this
    | cons => rfl
  have e1 := lcM_map (cf := callI prog w (k + 2)) (ρ := [some (rv rows), none]) (S := S) (elt := .call 3 (.cons (.var 1) (.cons (.cst (.int 1)) (.cons (.cst (.int 60)) .nil)))) (tg := .nm 1) (own := [1]) iv (fun _ => .bl true) rows fun r hr => ⟨_, rfl, by
    have e := s_are_integers (w := w) (k := k) (S := S) (xs := r) (a := 1) (b := 60) (by rw [h.len r hr]; exact h.n1) (by rw [h.len r hr]; exact h.n60)
    have e' : callI prog w (k + 2) 3 [iv r, .int 1, .int 60] S = .ok (.bl true) S := e
    simp only [qOpt, qRet, bnd_ok, bnd_exc, bnd_err, flow_nx, flow_rt, flow_bk, flow_ct, flow_exc, end_nx, end_rt, end_exc, e_var, g_0, g_s, e_cst, e_bin, e_neg, e_not, e_cmp, e_chain, e_and, e_or, e_ite, e_tup, e_lst, e_lstM, e_lstS, e_dct, e_idx, e_slc, e_rev, e_isi, e_fz, e_repM, fz_lst, fz_tup, fz_dct, m_dget, e_blt, e_call, e_mth, m_tindex, m_tcount, e_lc, l_nil, l_cons, l_star, t_nil, t_cons, o_no, o_so, i_seq, i_rng1, i_rng2, i_zip, i_enum, i_enumT, k_enumT, k_neg, k_int, k_seqT, k_seqL, k_seqF, k_starT, k_starL, k_zipT, k_zipL, k_zipM, k_zipM2, k_enum, k_rng, k_rng2, tr_bl, tr_int, tr_tup, tr_lst, s_nil, s_cons, x_expr, x_set, x_setT, x_par, x_setI, x_aug, x_cond, x_loop, x_while, x_ret, x_retN, x_pass, x_brk, x_cont, x_run, b_lenT, b_lenL, b_lenF, b_tupT, b_tupL, b_lstT, b_lstL, b_allL, b_anyL, b_sumL, b_sumT, b_abs, b_max, b_min, b_intI, b_intB, q_ii, q_ss, mapR_some, andR_ite, orR_ite, unpK, parK, augK, setIK, setTg, setAll, wipe, blt, blt0, seqOf, lstOf, cop, bop, intOp, atP, place, Option.map_some, Option.map_none, Option.bind_some, Option.bind_none, eq_self, reduceCtorEq, Int.reduceLE, Int.reduceLT, Int.reduceNeg, Int.reduceEq, Int.reduceToNat, Int.reduceAdd, Int.reduceSub, Nat.reduceLeDiff, reduceIte,  List.flatten_cons, List.flatten_nil, List.length_map, List.map_cons, List.map_nil, List.length_cons, List.length_nil, List.replicate_succ, List.replicate_zero, List.cons_append, List.nil_append, List.append_nil, List.set_cons_zero, List.set_cons_succ, Bool.not_true, Bool.not_false, if_true, if_false, ite_true, ite_false, Bool.false_eq_true, decide_true, decide_false, Bool.or_true, Bool.true_or, Bool.or_false, Bool.false_or, Bool.and_true, Bool.true_and, Bool.and_false, Bool.false_and, decide_eq_true_eq, Nat.reduceAdd, Nat.reduceSub, Nat.zero_add, Function.comp_apply, ix0, ix1, ix2, ixL0, ixL1, ixL2, Int.cast_ofNat_Int, List.all_cons, List.all_nil, id_eq, e']⟩
  have e2 := lcM_map (cf := callI prog w (k + 2)) (ρ := [some (rv rows), none]) (S := S) (elt := .cmp .eq (.blt .len (.cons (.var 1) .nil)) (.blt .len (.cons (.idx (.var 0) (.cst (.int 0))) .nil))) (tg := .nm 1) (own := [1]) iv (fun _ => .bl true) rows fun r hr => ⟨_, rfl, by
    have q : decide (((r.length : Nat) : Int) = ((rows.head h.m1).length : Nat)) = true := decide_eq_true (by rw [h.len r hr, h.len _ (List.head_mem h.m1)])
    simp only [qOpt, qRet, bnd_ok, bnd_exc, bnd_err, flow_nx, flow_rt, flow_bk, flow_ct, flow_exc, end_nx, end_rt, end_exc, e_var, g_0, g_s, e_cst, e_bin, e_neg, e_not, e_cmp, e_chain, e_and, e_or, e_ite, e_tup, e_lst, e_lstM, e_lstS, e_dct, e_idx, e_slc, e_rev, e_isi, e_fz, e_repM, fz_lst, fz_tup, fz_dct, m_dget, e_blt, e_call, e_mth, m_tindex, m_tcount, e_lc, l_nil, l_cons, l_star, t_nil, t_cons, o_no, o_so, i_seq, i_rng1, i_rng2, i_zip, i_enum, i_enumT, k_enumT, k_neg, k_int, k_seqT, k_seqL, k_seqF, k_starT, k_starL, k_zipT, k_zipL, k_zipM, k_zipM2, k_enum, k_rng, k_rng2, tr_bl, tr_int, tr_tup, tr_lst, s_nil, s_cons, x_expr, x_set, x_setT, x_par, x_setI, x_aug, x_cond, x_loop, x_while, x_ret, x_retN, x_pass, x_brk, x_cont, x_run, b_lenT, b_lenL, b_lenF, b_tupT, b_tupL, b_lstT, b_lstL, b_allL, b_anyL, b_sumL, b_sumT, b_abs, b_max, b_min, b_intI, b_intB, q_ii, q_ss, mapR_some, andR_ite, orR_ite, unpK, parK, augK, setIK, setTg, setAll, wipe, blt, blt0, seqOf, lstOf, cop, bop, intOp, atP, place, Option.map_some, Option.map_none, Option.bind_some, Option.bind_none, eq_self, reduceCtorEq, Int.reduceLE, Int.reduceLT, Int.reduceNeg, Int.reduceEq, Int.reduceToNat, Int.reduceAdd, Int.reduceSub, Nat.reduceLeDiff, reduceIte,  List.flatten_cons, List.flatten_nil, List.length_map, List.map_cons, List.map_nil, List.length_cons, List.length_nil, List.replicate_succ, List.replicate_zero, List.cons_append, List.nil_append, List.append_nil, List.set_cons_zero, List.set_cons_succ, Bool.not_true, Bool.not_false, if_true, if_false, ite_true, ite_false, Bool.false_eq_true, decide_true, decide_false, Bool.or_true, Bool.true_or, Bool.or_false, Bool.false_or, Bool.and_true, Bool.true_and, Bool.and_false, Bool.false_and, decide_eq_true_eq, Nat.reduceAdd, Nat.reduceSub, Nat.zero_add, Function.comp_apply, ix0, ix1, ix2, ixL0, ixL1, ixL2, Int.cast_ofNat_Int, List.all_cons, List.all_nil, id_eq, i0 h.m1, q]⟩
  rw [u_are_rows]
  simp only [b_are_rows, qOpt, qRet, bnd_ok, bnd_exc, bnd_err, flow_nx, flow_rt, flow_bk, flow_ct, flow_exc, end_nx, end_rt, end_exc, e_var, g_0, g_s, e_cst, e_bin, e_neg, e_not, e_cmp, e_chain, e_and, e_or, e_ite, e_tup, e_lst, e_lstM, e_lstS, e_dct, e_idx, e_slc, e_rev, e_isi, e_fz, e_repM, fz_lst, fz_tup, fz_dct, m_dget, e_blt, e_call, e_mth, m_tindex, m_tcount, e_lc, l_nil, l_cons, l_star, t_nil, t_cons, o_no, o_so, i_seq, i_rng1, i_rng2, i_zip, i_enum, i_enumT, k_enumT, k_neg, k_int, k_seqT, k_seqL, k_seqF, k_starT, k_starL, k_zipT, k_zipL, k_zipM, k_zipM2, k_enum, k_rng, k_rng2, tr_bl, tr_int, tr_tup, tr_lst, s_nil, s_cons, x_expr, x_set, x_setT, x_par, x_setI, x_aug, x_cond, x_loop, x_while, x_ret, x_retN, x_pass, x_brk, x_cont, x_run, b_lenT, b_lenL, b_lenF, b_tupT, b_tupL, b_lstT, b_lstL, b_allL, b_anyL, b_sumL, b_sumT, b_abs, b_max, b_min, b_intI, b_intB, q_ii, q_ss, mapR_some, andR_ite, orR_ite, unpK, parK, augK, setIK, setTg, setAll, wipe, blt, blt0, seqOf, lstOf, cop, bop, intOp, atP, place, Option.map_some, Option.map_none, Option.bind_some, Option.bind_none, eq_self, reduceCtorEq, Int.reduceLE, Int.reduceLT, Int.reduceNeg, Int.reduceEq, Int.reduceToNat, Int.reduceAdd, Int.reduceSub, Nat.reduceLeDiff, reduceIte,  List.flatten_cons, List.flatten_nil, List.length_map, List.map_cons, List.map_nil, List.length_cons, List.length_nil, List.replicate_succ, List.replicate_zero, List.cons_append, List.nil_append, List.append_nil, List.set_cons_zero, List.set_cons_succ, Bool.not_true, Bool.not_false, if_true, if_false, ite_true, ite_false, Bool.false_eq_true, decide_true, decide_false, Bool.or_true, Bool.true_or, Bool.or_false, Bool.false_or, Bool.and_true, Bool.true_and, Bool.and_false, Bool.false_and, decide_eq_true_eq, Nat.reduceAdd, Nat.reduceSub, Nat.zero_add, Function.comp_apply, ix0, ix1, ix2, ixL0, ixL1, ixL2, Int.cast_ofNat_Int, List.all_cons, List.all_nil, id_eq, isi_tup (d := rv rows) trivial, isT, nn, e1, bools_fun (fun _ : Row => true), all_true, e2]
/-- the reduced rows -/
def redF (rows : List Row) (n : Nat) : List Row := (elimF rows n).1.map (·.2)
theorem s_reduced (hw : 1000000 ≤ w) {rows : List Row} (h : Rows n rows) (ok : Oks n (List.range n) ([], rows)) : callI prog w (k + 8) 11 [rv rows] S = .ok (rv (redF rows n)) S := by
  have e1 := s_eliminated (w := w) (k := k) (S := S) hw h ok
  have hn : (((rows.head h.m1).length : Nat) : Int) = n := by rw [h.len _ (List.head_mem h.m1)]
  have e2 := lcM_map (cf := callI prog w (k + 6)) (ρ := [some (rv rows), some (.lst ((elimF rows n).1.map pq)), some (.lst ((elimF rows n).2.map il)), none, none]) (S := S) (elt := .blt .tuple (.cons (.var 4) .nil)) (tg := .tp [3, 4]) (own := [3, 4]) pq (fun q => iv q.2) (elimF rows n).1 fun r hr => ⟨_, rfl, by simp only [qOpt, qRet, bnd_ok, bnd_exc, bnd_err, flow_nx, flow_rt, flow_bk, flow_ct, flow_exc, end_nx, end_rt, end_exc, e_var, g_0, g_s, e_cst, e_bin, e_neg, e_not, e_cmp, e_chain, e_and, e_or, e_ite, e_tup, e_lst, e_lstM, e_lstS, e_dct, e_idx, e_slc, e_rev, e_isi, e_fz, e_repM, fz_lst, fz_tup, fz_dct, m_dget, e_blt, e_call, e_mth, m_tindex, m_tcount, e_lc, l_nil, l_cons, l_star, t_nil, t_cons, o_no, o_so, i_seq, i_rng1, i_rng2, i_zip, i_enum, i_enumT, k_enumT, k_neg, k_int, k_seqT, k_seqL, k_seqF, k_starT, k_starL, k_zipT, k_zipL, k_zipM, k_zipM2, k_enum, k_rng, k_rng2, tr_bl, tr_int, tr_tup, tr_lst, s_nil, s_cons, x_expr, x_set, x_setT, x_par, x_setI, x_aug, x_cond, x_loop, x_while, x_ret, x_retN, x_pass, x_brk, x_cont, x_run, b_lenT, b_lenL, b_lenF, b_tupT, b_tupL, b_lstT, b_lstL, b_allL, b_anyL, b_sumL, b_sumT, b_abs, b_max, b_min, b_intI, b_intB, q_ii, q_ss, mapR_some, andR_ite, orR_ite, unpK, parK, augK, setIK, setTg, setAll, wipe, blt, blt0, seqOf, lstOf, cop, bop, intOp, atP, place, Option.map_some, Option.map_none, Option.bind_some, Option.bind_none, eq_self, reduceCtorEq, Int.reduceLE, Int.reduceLT, Int.reduceNeg, Int.reduceEq, Int.reduceToNat, Int.reduceAdd, Int.reduceSub, Nat.reduceLeDiff, reduceIte,  List.flatten_cons, List.flatten_nil, List.length_map, List.map_cons, List.map_nil, List.length_cons, List.length_nil, List.replicate_succ, List.replicate_zero, List.cons_append, List.nil_append, List.append_nil, List.set_cons_zero, List.set_cons_succ, Bool.not_true, Bool.not_false, if_true, if_false, ite_true, ite_false, Bool.false_eq_true, decide_true, decide_false, Bool.or_true, Bool.true_or, Bool.or_false, Bool.false_or, Bool.and_true, Bool.true_and, Bool.and_false, Bool.false_and, decide_eq_true_eq, Nat.reduceAdd, Nat.reduceSub, Nat.zero_add, Function.comp_apply, ix0, ix1, ix2, ixL0, ixL1, ixL2, Int.cast_ofNat_Int, List.all_cons, List.all_nil, id_eq]⟩
  have e3 : callI prog w (k + 7) 9 [rv rows] S = .ok (rv (redF rows n)) S := by
    rw [u_reduced_in]
    simp only [b_reduced_in, qOpt, qRet, bnd_ok, bnd_exc, bnd_err, flow_nx, flow_rt, flow_bk, flow_ct, flow_exc, end_nx, end_rt, end_exc, e_var, g_0, g_s, e_cst, e_bin, e_neg, e_not, e_cmp, e_chain, e_and, e_or, e_ite, e_tup, e_lst, e_lstM, e_lstS, e_dct, e_idx, e_slc, e_rev, e_isi, e_fz, e_repM, fz_lst, fz_tup, fz_dct, m_dget, e_blt, e_call, e_mth, m_tindex, m_tcount, e_lc, l_nil, l_cons, l_star, t_nil, t_cons, o_no, o_so, i_seq, i_rng1, i_rng2, i_zip, i_enum, i_enumT, k_enumT, k_neg, k_int, k_seqT, k_seqL, k_seqF, k_starT, k_starL, k_zipT, k_zipL, k_zipM, k_zipM2, k_enum, k_rng, k_rng2, tr_bl, tr_int, tr_tup, tr_lst, s_nil, s_cons, x_expr, x_set, x_setT, x_par, x_setI, x_aug, x_cond, x_loop, x_while, x_ret, x_retN, x_pass, x_brk, x_cont, x_run, b_lenT, b_lenL, b_lenF, b_tupT, b_tupL, b_lstT, b_lstL, b_allL, b_anyL, b_sumL, b_sumT, b_abs, b_max, b_min, b_intI, b_intB, q_ii, q_ss, mapR_some, andR_ite, orR_ite, unpK, parK, augK, setIK, setTg, setAll, wipe, blt, blt0, seqOf, lstOf, cop, bop, intOp, atP, place, Option.map_some, Option.map_none, Option.bind_some, Option.bind_none, eq_self, reduceCtorEq, Int.reduceLE, Int.reduceLT, Int.reduceNeg, Int.reduceEq, Int.reduceToNat, Int.reduceAdd, Int.reduceSub, Nat.reduceLeDiff, reduceIte,  List.flatten_cons, List.flatten_nil, List.length_map, List.map_cons, List.map_nil, List.length_cons, List.length_nil, List.replicate_succ, List.replicate_zero, List.cons_append, List.nil_append, List.append_nil, List.set_cons_zero, List.set_cons_succ, Bool.not_true, Bool.not_false, if_true, if_false, ite_true, ite_false, Bool.false_eq_true, decide_true, decide_false, Bool.or_true, Bool.true_or, Bool.or_false, Bool.false_or, Bool.and_true, Bool.true_and, Bool.and_false, Bool.false_and, decide_eq_true_eq, Nat.reduceAdd, Nat.reduceSub, Nat.zero_add, Function.comp_apply, ix0, ix1, ix2, ixL0, ixL1, ixL2, Int.cast_ofNat_Int, List.all_cons, List.all_nil, id_eq, i0 h.m1, hn, e1, e2]
    show R.ok (D.tup ((elimF rows n).1.map fun q => iv q.2)) S = R.ok (D.tup (((elimF rows n).1.map (·.2)).map iv)) S
    rw [List.map_map]; rfl
  have e4 : callI prog w (k + 7) 5 [rv rows] S = .ok .non S := by
    rw [u_require_rows]
    simp only [b_require_rows, qOpt, qRet, bnd_ok, bnd_exc, bnd_err, flow_nx, flow_rt, flow_bk, flow_ct, flow_exc, end_nx, end_rt, end_exc, e_var, g_0, g_s, e_cst, e_bin, e_neg, e_not, e_cmp, e_chain, e_and, e_or, e_ite, e_tup, e_lst, e_lstM, e_lstS, e_dct, e_idx, e_slc, e_rev, e_isi, e_fz, e_repM, fz_lst, fz_tup, fz_dct, m_dget, e_blt, e_call, e_mth, m_tindex, m_tcount, e_lc, l_nil, l_cons, l_star, t_nil, t_cons, o_no, o_so, i_seq, i_rng1, i_rng2, i_zip, i_enum, i_enumT, k_enumT, k_neg, k_int, k_seqT, k_seqL, k_seqF, k_starT, k_starL, k_zipT, k_zipL, k_zipM, k_zipM2, k_enum, k_rng, k_rng2, tr_bl, tr_int, tr_tup, tr_lst, s_nil, s_cons, x_expr, x_set, x_setT, x_par, x_setI, x_aug, x_cond, x_loop, x_while, x_ret, x_retN, x_pass, x_brk, x_cont, x_run, b_lenT, b_lenL, b_lenF, b_tupT, b_tupL, b_lstT, b_lstL, b_allL, b_anyL, b_sumL, b_sumT, b_abs, b_max, b_min, b_intI, b_intB, q_ii, q_ss, mapR_some, andR_ite, orR_ite, unpK, parK, augK, setIK, setTg, setAll, wipe, blt, blt0, seqOf, lstOf, cop, bop, intOp, atP, place, Option.map_some, Option.map_none, Option.bind_some, Option.bind_none, eq_self, reduceCtorEq, Int.reduceLE, Int.reduceLT, Int.reduceNeg, Int.reduceEq, Int.reduceToNat, Int.reduceAdd, Int.reduceSub, Nat.reduceLeDiff, reduceIte,  List.flatten_cons, List.flatten_nil, List.length_map, List.map_cons, List.map_nil, List.length_cons, List.length_nil, List.replicate_succ, List.replicate_zero, List.cons_append, List.nil_append, List.append_nil, List.set_cons_zero, List.set_cons_succ, Bool.not_true, Bool.not_false, if_true, if_false, ite_true, ite_false, Bool.false_eq_true, decide_true, decide_false, Bool.or_true, Bool.true_or, Bool.or_false, Bool.false_or, Bool.and_true, Bool.true_and, Bool.and_false, Bool.false_and, decide_eq_true_eq, Nat.reduceAdd, Nat.reduceSub, Nat.zero_add, Function.comp_apply, ix0, ix1, ix2, ixL0, ixL1, ixL2, Int.cast_ofNat_Int, List.all_cons, List.all_nil, id_eq, s_are_rows (k := k + 3) h]
  rw [u_reduced]
  simp only [b_reduced, qOpt, qRet, bnd_ok, bnd_exc, bnd_err, flow_nx, flow_rt, flow_bk, flow_ct, flow_exc, end_nx, end_rt, end_exc, e_var, g_0, g_s, e_cst, e_bin, e_neg, e_not, e_cmp, e_chain, e_and, e_or, e_ite, e_tup, e_lst, e_lstM, e_lstS, e_dct, e_idx, e_slc, e_rev, e_isi, e_fz, e_repM, fz_lst, fz_tup, fz_dct, m_dget, e_blt, e_call, e_mth, m_tindex, m_tcount, e_lc, l_nil, l_cons, l_star, t_nil, t_cons, o_no, o_so, i_seq, i_rng1, i_rng2, i_zip, i_enum, i_enumT, k_enumT, k_neg, k_int, k_seqT, k_seqL, k_seqF, k_starT, k_starL, k_zipT, k_zipL, k_zipM, k_zipM2, k_enum, k_rng, k_rng2, tr_bl, tr_int, tr_tup, tr_lst, s_nil, s_cons, x_expr, x_set, x_setT, x_par, x_setI, x_aug, x_cond, x_loop, x_while, x_ret, x_retN, x_pass, x_brk, x_cont, x_run, b_lenT, b_lenL, b_lenF, b_tupT, b_tupL, b_lstT, b_lstL, b_allL, b_anyL, b_sumL, b_sumT, b_abs, b_max, b_min, b_intI, b_intB, q_ii, q_ss, mapR_some, andR_ite, orR_ite, unpK, parK, augK, setIK, setTg, setAll, wipe, blt, blt0, seqOf, lstOf, cop, bop, intOp, atP, place, Option.map_some, Option.map_none, Option.bind_some, Option.bind_none, eq_self, reduceCtorEq, Int.reduceLE, Int.reduceLT, Int.reduceNeg, Int.reduceEq, Int.reduceToNat, Int.reduceAdd, Int.reduceSub, Nat.reduceLeDiff, reduceIte,  List.flatten_cons, List.flatten_nil, List.length_map, List.map_cons, List.map_nil, List.length_cons, List.length_nil, List.replicate_succ, List.replicate_zero, List.cons_append, List.nil_append, List.append_nil, List.set_cons_zero, List.set_cons_succ, Bool.not_true, Bool.not_false, if_true, if_false, ite_true, ite_false, Bool.false_eq_true, decide_true, decide_false, Bool.or_true, Bool.true_or, Bool.or_false, Bool.false_or, Bool.and_true, Bool.true_and, Bool.and_false, Bool.false_and, decide_eq_true_eq, Nat.reduceAdd, Nat.reduceSub, Nat.zero_add, Function.comp_apply, ix0, ix1, ix2, ixL0, ixL1, ixL2, Int.cast_ofNat_Int, List.all_cons, List.all_nil, id_eq, e4, e3]
end
end K07

set_option linter.all false
set_option maxRecDepth 10000
set_option exponentiation.threshold 10000
namespace K07
open Ln
open Rr (Row gt gl prim pdiv clr stepE elimF St less stepR rankF Red Lead)
open PySem (PyData Str)
structure Bsr (n N : Nat) (rows : List Row) : Prop where
  l : ∀ r ∈ rows, r.length = n ∧ Br N r
theorem less_br {N : Nat} {r p : Row} (hr : Br N r) (hp : Br N p) (c : Nat) : Br (2 * N + 1) (less r p c) := by
  intro x hx
  unfold Rr.less at hx
  obtain ⟨i, hi, rfl⟩ := List.getElem_of_mem hx
  rw [List.getElem_zipWith]
  have l : i < r.length ∧ i < p.length := by rw [List.length_zipWith] at hi; omega
  exact (((hp.gt c).mul (hr _ (List.getElem_mem l.1))).sub ((hr.gt c).mul (hp _ (List.getElem_mem l.2)))).up (by omega)
theorem bsr_step {n N : Nat} {st : List Row × Nat} (h : Bsr n N st.1) (c : Nat) : Bsr n (2 * N + 1) (stepR st c).1 := by
  unfold Rr.stepR
  split
  · exact ⟨fun r hr => ⟨(h.l r hr).1, (h.l r hr).2.up (by omega)⟩⟩
  · rename_i f fs e
    have hf : f ∈ st.1 := by
      have : f ∈ st.1.filter fun r => !decide (gt r c = 0) := by rw [e]; exact List.mem_cons_self
      exact (List.mem_filter.mp this).1
    refine ⟨fun r hr => ?_⟩
    obtain ⟨r', hr', rfl⟩ := List.mem_map.mp hr
    exact ⟨by unfold Rr.less; rw [List.length_zipWith, (h.l r' hr').1, (h.l f hf).1]; simp, less_br (h.l r' hr').2 (h.l f hf).2 c⟩
theorem numbered_map {α : Type} {f : α → D} : ∀ (xs : List α) (k : Nat), numbered k (xs.map f) = (xs.zipIdx k).map fun p => D.wtp [.int p.2, f p.1]
  | [], _ => rfl
  | x :: xs, k => by
    rw [List.map_cons, List.zipIdx_cons, List.map_cons, numbered, numbered_map xs (k + 1)]
theorem zip_first : ∀ {r : Row} {c k : Nat}, Lead r c → ∃ fs, ((r.zipIdx k).filter fun p => !decide (p.1 = 0)) = (gt r c, k + c) :: fs
  | [], c, _, h => absurd rfl (show ¬ gt [] c = 0 from h.1)
  | a :: r, 0, k, h => ⟨_, by rw [List.zipIdx_cons, List.filter_cons_of_pos (by show (!decide (a = 0)) = true; rw [decide_eq_false (show ¬ a = 0 from h.1)]; rfl)]; rfl⟩
  | a :: r, c + 1, k, h => by
    have ha : a = 0 := h.2 0 (Nat.succ_pos _)
    obtain ⟨fs, e⟩ := zip_first (r := r) (c := c) (k := k + 1) ⟨h.1, fun j hj => h.2 (j + 1) (by omega)⟩
    exact ⟨fs, by rw [List.zipIdx_cons, List.filter_cons_of_neg (by show ¬ (!decide (a = 0)) = true; rw [decide_eq_true ha]; decide), e, show k + 1 + c = k + (c + 1) by omega]; rfl⟩
section
variable {w k n : Nat} {S : Store}
theorem s_less {r p : Row} {c : Nat} (hr : Br 4000 r) (hp : Br 4000 p) (hl : r.length = p.length) (hc : c < r.length) : callI prog w (k + 1) 19 [iv r, iv p, .int c] S = .ok (iv (less r p c)) S := by
  have e1 := lcM_map (cf := callI prog w k) (ρ := [some (iv r), some (iv p), some (.int c), none, none]) (S := S) (elt := .bin .sub (.bin .mul (.idx (.var 1) (.var 2)) (.var 3)) (.bin .mul (.idx (.var 0) (.var 2)) (.var 4))) (tg := .tp [3, 4]) (own := [3, 4]) (fun q : Int × Int => D.wtp [.int q.1, .int q.2]) (fun q => D.int (gt p c * q.1 - gt r c * q.2)) (r.zip p) fun q hq => ⟨_, rfl, by
    have m1 := Bi.mulOk ((hp.gt c).up (by decide)) ((hr _ (List.of_mem_zip hq).1).up (by decide))
    have m2 := Bi.mulOk ((hr.gt c).up (by decide)) ((hp _ (List.of_mem_zip hq).2).up (by decide))
    simp only [qOpt, qRet, bnd_ok, bnd_exc, bnd_err, flow_nx, flow_rt, flow_bk, flow_ct, flow_exc, end_nx, end_rt, end_exc, e_var, g_0, g_s, e_cst, e_bin, e_neg, e_not, e_cmp, e_chain, e_and, e_or, e_ite, e_tup, e_lst, e_lstM, e_lstS, e_dct, e_idx, e_slc, e_rev, e_isi, e_fz, e_repM, fz_lst, fz_tup, fz_dct, m_dget, e_blt, e_call, e_mth, m_tindex, m_tcount, e_lc, l_nil, l_cons, l_star, t_nil, t_cons, o_no, o_so, i_seq, i_rng1, i_rng2, i_zip, i_enum, i_enumT, k_enumT, k_neg, k_int, k_seqT, k_seqL, k_seqF, k_starT, k_starL, k_zipT, k_zipL, k_zipM, k_zipM2, k_enum, k_rng, k_rng2, tr_bl, tr_int, tr_tup, tr_lst, s_nil, s_cons, x_expr, x_set, x_setT, x_par, x_setI, x_aug, x_cond, x_loop, x_while, x_ret, x_retN, x_pass, x_brk, x_cont, x_run, b_lenT, b_lenL, b_lenF, b_tupT, b_tupL, b_lstT, b_lstL, b_allL, b_anyL, b_sumL, b_sumT, b_abs, b_max, b_min, b_intI, b_intB, q_ii, q_ss, mapR_some, andR_ite, orR_ite, unpK, parK, augK, setIK, setTg, setAll, wipe, blt, blt0, seqOf, lstOf, cop, bop, intOp, atP, place, Option.map_some, Option.map_none, Option.bind_some, Option.bind_none, eq_self, reduceCtorEq, Int.reduceLE, Int.reduceLT, Int.reduceNeg, Int.reduceEq, Int.reduceToNat, Int.reduceAdd, Int.reduceSub, Nat.reduceLeDiff, reduceIte,  List.flatten_cons, List.flatten_nil, List.length_map, List.map_cons, List.map_nil, List.length_cons, List.length_nil, List.replicate_succ, List.replicate_zero, List.cons_append, List.nil_append, List.append_nil, List.set_cons_zero, List.set_cons_succ, Bool.not_true, Bool.not_false, if_true, if_false, ite_true, ite_false, Bool.false_eq_true, decide_true, decide_false, Bool.or_true, Bool.true_or, Bool.or_false, Bool.false_or, Bool.and_true, Bool.true_and, Bool.and_false, Bool.false_and, decide_eq_true_eq, Nat.reduceAdd, Nat.reduceSub, Nat.zero_add, Function.comp_apply, ix0, ix1, ix2, ixL0, ixL1, ixL2, Int.cast_ofNat_Int, List.all_cons, List.all_nil, id_eq, ix_iv hc, ix_iv (show c < p.length by omega), m1, m2]⟩
  rw [u__law_less]
  simp only [b__law_less, qOpt, qRet, bnd_ok, bnd_exc, bnd_err, flow_nx, flow_rt, flow_bk, flow_ct, flow_exc, end_nx, end_rt, end_exc, e_var, g_0, g_s, e_cst, e_bin, e_neg, e_not, e_cmp, e_chain, e_and, e_or, e_ite, e_tup, e_lst, e_lstM, e_lstS, e_dct, e_idx, e_slc, e_rev, e_isi, e_fz, e_repM, fz_lst, fz_tup, fz_dct, m_dget, e_blt, e_call, e_mth, m_tindex, m_tcount, e_lc, l_nil, l_cons, l_star, t_nil, t_cons, o_no, o_so, i_seq, i_rng1, i_rng2, i_zip, i_enum, i_enumT, k_enumT, k_neg, k_int, k_seqT, k_seqL, k_seqF, k_starT, k_starL, k_zipT, k_zipL, k_zipM, k_zipM2, k_enum, k_rng, k_rng2, tr_bl, tr_int, tr_tup, tr_lst, s_nil, s_cons, x_expr, x_set, x_setT, x_par, x_setI, x_aug, x_cond, x_loop, x_while, x_ret, x_retN, x_pass, x_brk, x_cont, x_run, b_lenT, b_lenL, b_lenF, b_tupT, b_tupL, b_lstT, b_lstL, b_allL, b_anyL, b_sumL, b_sumT, b_abs, b_max, b_min, b_intI, b_intB, q_ii, q_ss, mapR_some, andR_ite, orR_ite, unpK, parK, augK, setIK, setTg, setAll, wipe, blt, blt0, seqOf, lstOf, cop, bop, intOp, atP, place, Option.map_some, Option.map_none, Option.bind_some, Option.bind_none, eq_self, reduceCtorEq, Int.reduceLE, Int.reduceLT, Int.reduceNeg, Int.reduceEq, Int.reduceToNat, Int.reduceAdd, Int.reduceSub, Nat.reduceLeDiff, reduceIte,  List.flatten_cons, List.flatten_nil, List.length_map, List.map_cons, List.map_nil, List.length_cons, List.length_nil, List.replicate_succ, List.replicate_zero, List.cons_append, List.nil_append, List.append_nil, List.set_cons_zero, List.set_cons_succ, Bool.not_true, Bool.not_false, if_true, if_false, ite_true, ite_false, Bool.false_eq_true, decide_true, decide_false, Bool.or_true, Bool.true_or, Bool.or_false, Bool.false_or, Bool.and_true, Bool.true_and, Bool.and_false, Bool.false_and, decide_eq_true_eq, Nat.reduceAdd, Nat.reduceSub, Nat.zero_add, Function.comp_apply, ix0, ix1, ix2, ixL0, ixL1, ixL2, Int.cast_ofNat_Int, List.all_cons, List.all_nil, id_eq, pairs_map, e1]
  rw [zip_ints (fun x y => gt p c * x - gt r c * y)]
  rfl
def Okr (n : Nat) : List Nat → List Row × Nat → Prop
  | [], _ => True
  | c :: cs, st => Bsr n 4000 st.1 ∧ Okr n cs (stepR st c)
theorem okr_small : ∀ (cs : List Nat) (N : Nat) (st : List Row × Nat), Bsr n N st.1 → (N + 1) * 2 ^ cs.length ≤ 4001 → Okr n cs st
  | [], N, st, h, hN => trivial
  | c :: cs, N, st, h, hN => by
    have e : (2 * N + 1 + 1) * 2 ^ cs.length = (N + 1) * 2 ^ (c :: cs).length := by
      rw [List.length_cons, Nat.pow_succ, show 2 * N + 1 + 1 = (N + 1) * 2 by omega, Nat.mul_assoc, Nat.mul_comm 2]
    have l1 : N + 1 ≤ (N + 1) * 2 ^ (c :: cs).length := Nat.le_mul_of_pos_right _ (Nat.two_pow_pos _)
    exact ⟨⟨fun r hr => ⟨(h.l r hr).1, (h.l r hr).2.up (by omega)⟩⟩, okr_small cs (2 * N + 1) _ (bsr_step h c) (by rw [e]; exact hN)⟩
def b_rk : Sms := match b__law_rank with
  | .cons _ (.cons (.loop _ _ b) _) => b
  | _ => .nil
theorem rk_loop {v0 : Option D} (hn : n ≤ 1000) : ∀ (cs : List Nat) (st : List Row × Nat) (o3 o4 : Option D), Okr n cs st → (∀ c ∈ cs, c < n) → st.1.length ≤ 1000 →
    ∃ p1 p3 p4, loopM (callI prog w (k + 1)) w (.nm 3) b_rk (cs.map fun (i : Nat) => D.int (i : Int)) [v0, some (.lst (st.1.map iv)), some (.int st.2), o3, o4, none] S = .ok (.nx, [v0, p1, some (.int (cs.foldl stepR st).2), p3, p4, none]) S
  | [], st, o3, o4, _, _, _ => ⟨_, o3, o4, rfl⟩
  | c :: cs, st, o3, o4, h, hc, hl => by
    have hb := h.1.l
    have hcn := hc c List.mem_cons_self
    have e1 := lcM_filter (cf := callI prog w (k + 1)) (ρ := [v0, some (.lst (st.1.map iv)), some (.int st.2), some (.int c), o4, none]) (S := S) (elt := .var 5) (c := .cmp .ne (.idx (.var 5) (.var 3)) (.cst (.int 0))) (tg := .nm 5) (own := [5]) iv iv (fun r => !decide (gt r c = 0)) st.1 fun r hr => ⟨_, rfl, by
      simp only [qOpt, qRet, bnd_ok, bnd_exc, bnd_err, flow_nx, flow_rt, flow_bk, flow_ct, flow_exc, end_nx, end_rt, end_exc, e_var, g_0, g_s, e_cst, e_bin, e_neg, e_not, e_cmp, e_chain, e_and, e_or, e_ite, e_tup, e_lst, e_lstM, e_lstS, e_dct, e_idx, e_slc, e_rev, e_isi, e_fz, e_repM, fz_lst, fz_tup, fz_dct, m_dget, e_blt, e_call, e_mth, m_tindex, m_tcount, e_lc, l_nil, l_cons, l_star, t_nil, t_cons, o_no, o_so, i_seq, i_rng1, i_rng2, i_zip, i_enum, i_enumT, k_enumT, k_neg, k_int, k_seqT, k_seqL, k_seqF, k_starT, k_starL, k_zipT, k_zipL, k_zipM, k_zipM2, k_enum, k_rng, k_rng2, tr_bl, tr_int, tr_tup, tr_lst, s_nil, s_cons, x_expr, x_set, x_setT, x_par, x_setI, x_aug, x_cond, x_loop, x_while, x_ret, x_retN, x_pass, x_brk, x_cont, x_run, b_lenT, b_lenL, b_lenF, b_tupT, b_tupL, b_lstT, b_lstL, b_allL, b_anyL, b_sumL, b_sumT, b_abs, b_max, b_min, b_intI, b_intB, q_ii, q_ss, mapR_some, andR_ite, orR_ite, unpK, parK, augK, setIK, setTg, setAll, wipe, blt, blt0, seqOf, lstOf, cop, bop, intOp, atP, place, Option.map_some, Option.map_none, Option.bind_some, Option.bind_none, eq_self, reduceCtorEq, Int.reduceLE, Int.reduceLT, Int.reduceNeg, Int.reduceEq, Int.reduceToNat, Int.reduceAdd, Int.reduceSub, Nat.reduceLeDiff, reduceIte,  List.flatten_cons, List.flatten_nil, List.length_map, List.map_cons, List.map_nil, List.length_cons, List.length_nil, List.replicate_succ, List.replicate_zero, List.cons_append, List.nil_append, List.append_nil, List.set_cons_zero, List.set_cons_succ, Bool.not_true, Bool.not_false, if_true, if_false, ite_true, ite_false, Bool.false_eq_true, decide_true, decide_false, Bool.or_true, Bool.true_or, Bool.or_false, Bool.false_or, Bool.and_true, Bool.true_and, Bool.and_false, Bool.false_and, decide_eq_true_eq, Nat.reduceAdd, Nat.reduceSub, Nat.zero_add, Function.comp_apply, ix0, ix1, ix2, ixL0, ixL1, ixL2, Int.cast_ofNat_Int, List.all_cons, List.all_nil, id_eq, ix_iv (show c < r.length by rw [(hb r hr).1]; exact hcn)], fun _ => by simp only [qOpt, qRet, bnd_ok, bnd_exc, bnd_err, flow_nx, flow_rt, flow_bk, flow_ct, flow_exc, end_nx, end_rt, end_exc, e_var, g_0, g_s, e_cst, e_bin, e_neg, e_not, e_cmp, e_chain, e_and, e_or, e_ite, e_tup, e_lst, e_lstM, e_lstS, e_dct, e_idx, e_slc, e_rev, e_isi, e_fz, e_repM, fz_lst, fz_tup, fz_dct, m_dget, e_blt, e_call, e_mth, m_tindex, m_tcount, e_lc, l_nil, l_cons, l_star, t_nil, t_cons, o_no, o_so, i_seq, i_rng1, i_rng2, i_zip, i_enum, i_enumT, k_enumT, k_neg, k_int, k_seqT, k_seqL, k_seqF, k_starT, k_starL, k_zipT, k_zipL, k_zipM, k_zipM2, k_enum, k_rng, k_rng2, tr_bl, tr_int, tr_tup, tr_lst, s_nil, s_cons, x_expr, x_set, x_setT, x_par, x_setI, x_aug, x_cond, x_loop, x_while, x_ret, x_retN, x_pass, x_brk, x_cont, x_run, b_lenT, b_lenL, b_lenF, b_tupT, b_tupL, b_lstT, b_lstL, b_allL, b_anyL, b_sumL, b_sumT, b_abs, b_max, b_min, b_intI, b_intB, q_ii, q_ss, mapR_some, andR_ite, orR_ite, unpK, parK, augK, setIK, setTg, setAll, wipe, blt, blt0, seqOf, lstOf, cop, bop, intOp, atP, place, Option.map_some, Option.map_none, Option.bind_some, Option.bind_none, eq_self, reduceCtorEq, Int.reduceLE, Int.reduceLT, Int.reduceNeg, Int.reduceEq, Int.reduceToNat, Int.reduceAdd, Int.reduceSub, Nat.reduceLeDiff, reduceIte,  List.flatten_cons, List.flatten_nil, List.length_map, List.map_cons, List.map_nil, List.length_cons, List.length_nil, List.replicate_succ, List.replicate_zero, List.cons_append, List.nil_append, List.append_nil, List.set_cons_zero, List.set_cons_succ, Bool.not_true, Bool.not_false, if_true, if_false, ite_true, ite_false, Bool.false_eq_true, decide_true, decide_false, Bool.or_true, Bool.true_or, Bool.or_false, Bool.false_or, Bool.and_true, Bool.true_and, Bool.and_false, Bool.false_and, decide_eq_true_eq, Nat.reduceAdd, Nat.reduceSub, Nat.zero_add, Function.comp_apply, ix0, ix1, ix2, ixL0, ixL1, ixL2, Int.cast_ofNat_Int, List.all_cons, List.all_nil, id_eq]⟩
    have fb : ∀ r ∈ st.1.filter (fun r => !decide (gt r c = 0)), r.length = n ∧ Br 4000 r := fun r hr => hb r (List.mem_filter.mp hr).1
    have q := eq_nilL (S := S) (N := 4000) (k := 2) (xs := (st.1.filter (fun r => !decide (gt r c = 0))).map iv) (.lst (by rw [List.length_map]; have := List.length_filter_le (fun r => !decide (gt r c = 0)) st.1; omega) fun y hy => by
      obtain ⟨x, hx, rfl⟩ := List.mem_map.mp hy
      exact iv_dt (fb x hx).2 (by rw [(fb x hx).1]; exact hn)) (by decide)
    have h2 := h.2
    have se : stepR st c = match st.1.filter fun r => !decide (gt r c = 0) with | [] => st | f :: _ => (st.1.map fun r => less r f c, st.2 + 1) := rfl
    rw [List.foldl_cons]
    cases e : st.1.filter fun r => !decide (gt r c = 0) with
    | nil =>
      rw [e] at e1 q se
      simp only [List.map_nil, List.isEmpty_nil] at e1 q se
      rw [se] at h2 ⊢
      obtain ⟨p1, p3, p4, e2⟩ := rk_loop hn (v0 := v0) cs st (some (.int c)) (some (.lst [])) h2 (fun d hd => hc d (List.mem_cons_of_mem _ hd)) hl
      exact ⟨p1, p3, p4, (loopM_nx (ρ1 := [v0, some (.lst (st.1.map iv)), some (.int st.2), some (.int c), o4, none]) rfl (by simp only [b_rk, b__law_rank, qOpt, qRet, bnd_ok, bnd_exc, bnd_err, flow_nx, flow_rt, flow_bk, flow_ct, flow_exc, end_nx, end_rt, end_exc, e_var, g_0, g_s, e_cst, e_bin, e_neg, e_not, e_cmp, e_chain, e_and, e_or, e_ite, e_tup, e_lst, e_lstM, e_lstS, e_dct, e_idx, e_slc, e_rev, e_isi, e_fz, e_repM, fz_lst, fz_tup, fz_dct, m_dget, e_blt, e_call, e_mth, m_tindex, m_tcount, e_lc, l_nil, l_cons, l_star, t_nil, t_cons, o_no, o_so, i_seq, i_rng1, i_rng2, i_zip, i_enum, i_enumT, k_enumT, k_neg, k_int, k_seqT, k_seqL, k_seqF, k_starT, k_starL, k_zipT, k_zipL, k_zipM, k_zipM2, k_enum, k_rng, k_rng2, tr_bl, tr_int, tr_tup, tr_lst, s_nil, s_cons, x_expr, x_set, x_setT, x_par, x_setI, x_aug, x_cond, x_loop, x_while, x_ret, x_retN, x_pass, x_brk, x_cont, x_run, b_lenT, b_lenL, b_lenF, b_tupT, b_tupL, b_lstT, b_lstL, b_allL, b_anyL, b_sumL, b_sumT, b_abs, b_max, b_min, b_intI, b_intB, q_ii, q_ss, mapR_some, andR_ite, orR_ite, unpK, parK, augK, setIK, setTg, setAll, wipe, blt, blt0, seqOf, lstOf, cop, bop, intOp, atP, place, Option.map_some, Option.map_none, Option.bind_some, Option.bind_none, eq_self, reduceCtorEq, Int.reduceLE, Int.reduceLT, Int.reduceNeg, Int.reduceEq, Int.reduceToNat, Int.reduceAdd, Int.reduceSub, Nat.reduceLeDiff, reduceIte,  List.flatten_cons, List.flatten_nil, List.length_map, List.map_cons, List.map_nil, List.length_cons, List.length_nil, List.replicate_succ, List.replicate_zero, List.cons_append, List.nil_append, List.append_nil, List.set_cons_zero, List.set_cons_succ, Bool.not_true, Bool.not_false, if_true, if_false, ite_true, ite_false, Bool.false_eq_true, decide_true, decide_false, Bool.or_true, Bool.true_or, Bool.or_false, Bool.false_or, Bool.and_true, Bool.true_and, Bool.and_false, Bool.false_and, decide_eq_true_eq, Nat.reduceAdd, Nat.reduceSub, Nat.zero_add, Function.comp_apply, ix0, ix1, ix2, ixL0, ixL1, ixL2, Int.cast_ofNat_Int, List.all_cons, List.all_nil, id_eq, e1, q])).trans e2⟩
    | cons f fs =>
      have hf := fb f (by rw [e]; exact List.mem_cons_self)
      rw [e] at e1 q se
      simp only [List.map_cons, List.isEmpty_cons] at e1 q se
      rw [se] at h2 ⊢
      obtain ⟨p1, p3, p4, e2⟩ := rk_loop hn (v0 := v0) cs (st.1.map fun r => less r f c, st.2 + 1) (some (.int c)) (some (.lst (iv f :: fs.map iv))) h2 (fun d hd => hc d (List.mem_cons_of_mem _ hd)) (by rw [List.length_map]; exact hl)
      have e3 : ∀ {a2 : Option D}, lcM (callI prog w (k + 1)) (.call 19 (.cons (.var 5) (.cons (.idx (.var 4) (.cst (.int 0))) (.cons (.var 3) .nil)))) (.nm 5) .nil [5] [v0, some (.lst (st.1.map iv)), a2, some (.int c), some (.lst (iv f :: fs.map iv)), none] (st.1.map iv) S = .ok (.lst (st.1.map fun r => iv (less r f c))) S := fun {a2} =>
        lcM_map iv (fun r => iv (less r f c)) st.1 fun r hr => ⟨_, rfl, by
          have hr' := hb r hr
          simp only [qOpt, qRet, bnd_ok, bnd_exc, bnd_err, flow_nx, flow_rt, flow_bk, flow_ct, flow_exc, end_nx, end_rt, end_exc, e_var, g_0, g_s, e_cst, e_bin, e_neg, e_not, e_cmp, e_chain, e_and, e_or, e_ite, e_tup, e_lst, e_lstM, e_lstS, e_dct, e_idx, e_slc, e_rev, e_isi, e_fz, e_repM, fz_lst, fz_tup, fz_dct, m_dget, e_blt, e_call, e_mth, m_tindex, m_tcount, e_lc, l_nil, l_cons, l_star, t_nil, t_cons, o_no, o_so, i_seq, i_rng1, i_rng2, i_zip, i_enum, i_enumT, k_enumT, k_neg, k_int, k_seqT, k_seqL, k_seqF, k_starT, k_starL, k_zipT, k_zipL, k_zipM, k_zipM2, k_enum, k_rng, k_rng2, tr_bl, tr_int, tr_tup, tr_lst, s_nil, s_cons, x_expr, x_set, x_setT, x_par, x_setI, x_aug, x_cond, x_loop, x_while, x_ret, x_retN, x_pass, x_brk, x_cont, x_run, b_lenT, b_lenL, b_lenF, b_tupT, b_tupL, b_lstT, b_lstL, b_allL, b_anyL, b_sumL, b_sumT, b_abs, b_max, b_min, b_intI, b_intB, q_ii, q_ss, mapR_some, andR_ite, orR_ite, unpK, parK, augK, setIK, setTg, setAll, wipe, blt, blt0, seqOf, lstOf, cop, bop, intOp, atP, place, Option.map_some, Option.map_none, Option.bind_some, Option.bind_none, eq_self, reduceCtorEq, Int.reduceLE, Int.reduceLT, Int.reduceNeg, Int.reduceEq, Int.reduceToNat, Int.reduceAdd, Int.reduceSub, Nat.reduceLeDiff, reduceIte,  List.flatten_cons, List.flatten_nil, List.length_map, List.map_cons, List.map_nil, List.length_cons, List.length_nil, List.replicate_succ, List.replicate_zero, List.cons_append, List.nil_append, List.append_nil, List.set_cons_zero, List.set_cons_succ, Bool.not_true, Bool.not_false, if_true, if_false, ite_true, ite_false, Bool.false_eq_true, decide_true, decide_false, Bool.or_true, Bool.true_or, Bool.or_false, Bool.false_or, Bool.and_true, Bool.true_and, Bool.and_false, Bool.false_and, decide_eq_true_eq, Nat.reduceAdd, Nat.reduceSub, Nat.zero_add, Function.comp_apply, ix0, ix1, ix2, ixL0, ixL1, ixL2, Int.cast_ofNat_Int, List.all_cons, List.all_nil, id_eq, s_less (k := k) hr'.2 hf.2 (hr'.1.trans hf.1.symm) (by rw [hr'.1]; exact hcn)]⟩
      refine ⟨p1, p3, p4, (loopM_nx (ρ1 := [v0, some (.lst (st.1.map iv)), some (.int st.2), some (.int c), o4, none]) rfl ?_).trans e2⟩
      simp only [b_rk, b__law_rank, qOpt, qRet, bnd_ok, bnd_exc, bnd_err, flow_nx, flow_rt, flow_bk, flow_ct, flow_exc, end_nx, end_rt, end_exc, e_var, g_0, g_s, e_cst, e_bin, e_neg, e_not, e_cmp, e_chain, e_and, e_or, e_ite, e_tup, e_lst, e_lstM, e_lstS, e_dct, e_idx, e_slc, e_rev, e_isi, e_fz, e_repM, fz_lst, fz_tup, fz_dct, m_dget, e_blt, e_call, e_mth, m_tindex, m_tcount, e_lc, l_nil, l_cons, l_star, t_nil, t_cons, o_no, o_so, i_seq, i_rng1, i_rng2, i_zip, i_enum, i_enumT, k_enumT, k_neg, k_int, k_seqT, k_seqL, k_seqF, k_starT, k_starL, k_zipT, k_zipL, k_zipM, k_zipM2, k_enum, k_rng, k_rng2, tr_bl, tr_int, tr_tup, tr_lst, s_nil, s_cons, x_expr, x_set, x_setT, x_par, x_setI, x_aug, x_cond, x_loop, x_while, x_ret, x_retN, x_pass, x_brk, x_cont, x_run, b_lenT, b_lenL, b_lenF, b_tupT, b_tupL, b_lstT, b_lstL, b_allL, b_anyL, b_sumL, b_sumT, b_abs, b_max, b_min, b_intI, b_intB, q_ii, q_ss, mapR_some, andR_ite, orR_ite, unpK, parK, augK, setIK, setTg, setAll, wipe, blt, blt0, seqOf, lstOf, cop, bop, intOp, atP, place, Option.map_some, Option.map_none, Option.bind_some, Option.bind_none, eq_self, reduceCtorEq, Int.reduceLE, Int.reduceLT, Int.reduceNeg, Int.reduceEq, Int.reduceToNat, Int.reduceAdd, Int.reduceSub, Nat.reduceLeDiff, reduceIte,  List.flatten_cons, List.flatten_nil, List.length_map, List.map_cons, List.map_nil, List.length_cons, List.length_nil, List.replicate_succ, List.replicate_zero, List.cons_append, List.nil_append, List.append_nil, List.set_cons_zero, List.set_cons_succ, Bool.not_true, Bool.not_false, if_true, if_false, ite_true, ite_false, Bool.false_eq_true, decide_true, decide_false, Bool.or_true, Bool.true_or, Bool.or_false, Bool.false_or, Bool.and_true, Bool.true_and, Bool.and_false, Bool.false_and, decide_eq_true_eq, Nat.reduceAdd, Nat.reduceSub, Nat.zero_add, Function.comp_apply, ix0, ix1, ix2, ixL0, ixL1, ixL2, Int.cast_ofNat_Int, List.all_cons, List.all_nil, id_eq, e1, q, e3, List.map_map, Function.comp_def, Int.natCast_add]
theorem s_rank {rows : List Row} (h : Rows n rows) (ok : Okr n (List.range n) (rows, 0)) : callI prog w (k + 2) 20 [rv rows] S = .ok (.int (rankF rows n)) S := by
  obtain ⟨p1, p3, p4, e⟩ := rk_loop (w := w) (k := k) (S := S) (v0 := some (rv rows)) (show n ≤ 1000 by have := h.n60; omega) (List.range n) (rows, 0) none none ok (fun c hc => List.mem_range.mp hc) (by have := h.m; show rows.length ≤ 1000; omega)
  have hn : (((rows.head h.m1).length : Nat) : Int) = n := by rw [h.len _ (List.head_mem h.m1)]
  simp only [b_rk, b__law_rank, Int.natCast_zero, Int.cast_ofNat_Int] at e
  rw [u__law_rank]
  simp only [b__law_rank, qOpt, qRet, bnd_ok, bnd_exc, bnd_err, flow_nx, flow_rt, flow_bk, flow_ct, flow_exc, end_nx, end_rt, end_exc, e_var, g_0, g_s, e_cst, e_bin, e_neg, e_not, e_cmp, e_chain, e_and, e_or, e_ite, e_tup, e_lst, e_lstM, e_lstS, e_dct, e_idx, e_slc, e_rev, e_isi, e_fz, e_repM, fz_lst, fz_tup, fz_dct, m_dget, e_blt, e_call, e_mth, m_tindex, m_tcount, e_lc, l_nil, l_cons, l_star, t_nil, t_cons, o_no, o_so, i_seq, i_rng1, i_rng2, i_zip, i_enum, i_enumT, k_enumT, k_neg, k_int, k_seqT, k_seqL, k_seqF, k_starT, k_starL, k_zipT, k_zipL, k_zipM, k_zipM2, k_enum, k_rng, k_rng2, tr_bl, tr_int, tr_tup, tr_lst, s_nil, s_cons, x_expr, x_set, x_setT, x_par, x_setI, x_aug, x_cond, x_loop, x_while, x_ret, x_retN, x_pass, x_brk, x_cont, x_run, b_lenT, b_lenL, b_lenF, b_tupT, b_tupL, b_lstT, b_lstL, b_allL, b_anyL, b_sumL, b_sumT, b_abs, b_max, b_min, b_intI, b_intB, q_ii, q_ss, mapR_some, andR_ite, orR_ite, unpK, parK, augK, setIK, setTg, setAll, wipe, blt, blt0, seqOf, lstOf, cop, bop, intOp, atP, place, Option.map_some, Option.map_none, Option.bind_some, Option.bind_none, eq_self, reduceCtorEq, Int.reduceLE, Int.reduceLT, Int.reduceNeg, Int.reduceEq, Int.reduceToNat, Int.reduceAdd, Int.reduceSub, Nat.reduceLeDiff, reduceIte,  List.flatten_cons, List.flatten_nil, List.length_map, List.map_cons, List.map_nil, List.length_cons, List.length_nil, List.replicate_succ, List.replicate_zero, List.cons_append, List.nil_append, List.append_nil, List.set_cons_zero, List.set_cons_succ, Bool.not_true, Bool.not_false, if_true, if_false, ite_true, ite_false, Bool.false_eq_true, decide_true, decide_false, Bool.or_true, Bool.true_or, Bool.or_false, Bool.false_or, Bool.and_true, Bool.true_and, Bool.and_false, Bool.false_and, decide_eq_true_eq, Nat.reduceAdd, Nat.reduceSub, Nat.zero_add, Function.comp_apply, ix0, ix1, ix2, ixL0, ixL1, ixL2, Int.cast_ofNat_Int, List.all_cons, List.all_nil, id_eq, i0 h.m1, hn, k_rng (n := n) (lineB (by have := h.n60; omega)), e]
  rfl
theorem s_pivot {r : Row} {c : Nat} (hb : r.length ≤ 1000) (h : Lead r c) : callI prog w (k + 1) 21 [iv r] S = .ok (.int c) S := by
  have e1 := lcM_filter (cf := callI prog w k) (ρ := [some (iv r), none, none, none]) (S := S) (elt := .var 2) (c := .cmp .ne (.var 3) (.cst (.int 0))) (tg := .tp [2, 3]) (own := [2, 3]) (fun p : Int × Nat => D.wtp [.int p.2, .int p.1]) (fun p => .int p.2) (fun p => !decide (p.1 = 0)) (r.zipIdx 0) fun x hx => ⟨_, rfl, by simp only [qOpt, qRet, bnd_ok, bnd_exc, bnd_err, flow_nx, flow_rt, flow_bk, flow_ct, flow_exc, end_nx, end_rt, end_exc, e_var, g_0, g_s, e_cst, e_bin, e_neg, e_not, e_cmp, e_chain, e_and, e_or, e_ite, e_tup, e_lst, e_lstM, e_lstS, e_dct, e_idx, e_slc, e_rev, e_isi, e_fz, e_repM, fz_lst, fz_tup, fz_dct, m_dget, e_blt, e_call, e_mth, m_tindex, m_tcount, e_lc, l_nil, l_cons, l_star, t_nil, t_cons, o_no, o_so, i_seq, i_rng1, i_rng2, i_zip, i_enum, i_enumT, k_enumT, k_neg, k_int, k_seqT, k_seqL, k_seqF, k_starT, k_starL, k_zipT, k_zipL, k_zipM, k_zipM2, k_enum, k_rng, k_rng2, tr_bl, tr_int, tr_tup, tr_lst, s_nil, s_cons, x_expr, x_set, x_setT, x_par, x_setI, x_aug, x_cond, x_loop, x_while, x_ret, x_retN, x_pass, x_brk, x_cont, x_run, b_lenT, b_lenL, b_lenF, b_tupT, b_tupL, b_lstT, b_lstL, b_allL, b_anyL, b_sumL, b_sumT, b_abs, b_max, b_min, b_intI, b_intB, q_ii, q_ss, mapR_some, andR_ite, orR_ite, unpK, parK, augK, setIK, setTg, setAll, wipe, blt, blt0, seqOf, lstOf, cop, bop, intOp, atP, place, Option.map_some, Option.map_none, Option.bind_some, Option.bind_none, eq_self, reduceCtorEq, Int.reduceLE, Int.reduceLT, Int.reduceNeg, Int.reduceEq, Int.reduceToNat, Int.reduceAdd, Int.reduceSub, Nat.reduceLeDiff, reduceIte,  List.flatten_cons, List.flatten_nil, List.length_map, List.map_cons, List.map_nil, List.length_cons, List.length_nil, List.replicate_succ, List.replicate_zero, List.cons_append, List.nil_append, List.append_nil, List.set_cons_zero, List.set_cons_succ, Bool.not_true, Bool.not_false, if_true, if_false, ite_true, ite_false, Bool.false_eq_true, decide_true, decide_false, Bool.or_true, Bool.true_or, Bool.or_false, Bool.false_or, Bool.and_true, Bool.true_and, Bool.and_false, Bool.false_and, decide_eq_true_eq, Nat.reduceAdd, Nat.reduceSub, Nat.zero_add, Function.comp_apply, ix0, ix1, ix2, ixL0, ixL1, ixL2, Int.cast_ofNat_Int, List.all_cons, List.all_nil, id_eq], fun _ => by simp only [qOpt, qRet, bnd_ok, bnd_exc, bnd_err, flow_nx, flow_rt, flow_bk, flow_ct, flow_exc, end_nx, end_rt, end_exc, e_var, g_0, g_s, e_cst, e_bin, e_neg, e_not, e_cmp, e_chain, e_and, e_or, e_ite, e_tup, e_lst, e_lstM, e_lstS, e_dct, e_idx, e_slc, e_rev, e_isi, e_fz, e_repM, fz_lst, fz_tup, fz_dct, m_dget, e_blt, e_call, e_mth, m_tindex, m_tcount, e_lc, l_nil, l_cons, l_star, t_nil, t_cons, o_no, o_so, i_seq, i_rng1, i_rng2, i_zip, i_enum, i_enumT, k_enumT, k_neg, k_int, k_seqT, k_seqL, k_seqF, k_starT, k_starL, k_zipT, k_zipL, k_zipM, k_zipM2, k_enum, k_rng, k_rng2, tr_bl, tr_int, tr_tup, tr_lst, s_nil, s_cons, x_expr, x_set, x_setT, x_par, x_setI, x_aug, x_cond, x_loop, x_while, x_ret, x_retN, x_pass, x_brk, x_cont, x_run, b_lenT, b_lenL, b_lenF, b_tupT, b_tupL, b_lstT, b_lstL, b_allL, b_anyL, b_sumL, b_sumT, b_abs, b_max, b_min, b_intI, b_intB, q_ii, q_ss, mapR_some, andR_ite, orR_ite, unpK, parK, augK, setIK, setTg, setAll, wipe, blt, blt0, seqOf, lstOf, cop, bop, intOp, atP, place, Option.map_some, Option.map_none, Option.bind_some, Option.bind_none, eq_self, reduceCtorEq, Int.reduceLE, Int.reduceLT, Int.reduceNeg, Int.reduceEq, Int.reduceToNat, Int.reduceAdd, Int.reduceSub, Nat.reduceLeDiff, reduceIte,  List.flatten_cons, List.flatten_nil, List.length_map, List.map_cons, List.map_nil, List.length_cons, List.length_nil, List.replicate_succ, List.replicate_zero, List.cons_append, List.nil_append, List.append_nil, List.set_cons_zero, List.set_cons_succ, Bool.not_true, Bool.not_false, if_true, if_false, ite_true, ite_false, Bool.false_eq_true, decide_true, decide_false, Bool.or_true, Bool.true_or, Bool.or_false, Bool.false_or, Bool.and_true, Bool.true_and, Bool.and_false, Bool.false_and, decide_eq_true_eq, Nat.reduceAdd, Nat.reduceSub, Nat.zero_add, Function.comp_apply, ix0, ix1, ix2, ixL0, ixL1, ixL2, Int.cast_ofNat_Int, List.all_cons, List.all_nil, id_eq]⟩
  obtain ⟨fs, e⟩ := zip_first (k := 0) h
  have len : fs.length ≤ 1000 := by
    have := List.length_filter_le (fun p : Int × Nat => !decide (p.1 = 0)) (r.zipIdx 0)
    rw [e, List.length_cons, List.length_zipIdx] at this
    omega
  have lt : ∀ p ∈ ((gt r c, 0 + c) :: fs : List (Int × Nat)), p.2 < 1000 := fun p hp => by
    rw [← e] at hp
    have hp := (List.mem_filter.mp hp).1
    have := (List.mem_zipIdx hp).2.1
    omega
  have q := eq_nilL (S := S) (N := 100) (k := 1) (xs := ((gt r c, 0 + c) :: fs).map fun p => D.int p.2) (.lst (by simp; omega) fun y hy => by
    obtain ⟨x, hx, rfl⟩ := List.mem_map.mp hy
    exact .int (Bi.small 100 (by have := lt x hx; simp; omega))) (by decide)
  rw [e] at e1
  simp only [List.map_cons, Nat.zero_add, List.isEmpty_cons] at e1 q
  rw [u__law_pivot]
  simp only [b__law_pivot, qOpt, qRet, bnd_ok, bnd_exc, bnd_err, flow_nx, flow_rt, flow_bk, flow_ct, flow_exc, end_nx, end_rt, end_exc, e_var, g_0, g_s, e_cst, e_bin, e_neg, e_not, e_cmp, e_chain, e_and, e_or, e_ite, e_tup, e_lst, e_lstM, e_lstS, e_dct, e_idx, e_slc, e_rev, e_isi, e_fz, e_repM, fz_lst, fz_tup, fz_dct, m_dget, e_blt, e_call, e_mth, m_tindex, m_tcount, e_lc, l_nil, l_cons, l_star, t_nil, t_cons, o_no, o_so, i_seq, i_rng1, i_rng2, i_zip, i_enum, i_enumT, k_enumT, k_neg, k_int, k_seqT, k_seqL, k_seqF, k_starT, k_starL, k_zipT, k_zipL, k_zipM, k_zipM2, k_enum, k_rng, k_rng2, tr_bl, tr_int, tr_tup, tr_lst, s_nil, s_cons, x_expr, x_set, x_setT, x_par, x_setI, x_aug, x_cond, x_loop, x_while, x_ret, x_retN, x_pass, x_brk, x_cont, x_run, b_lenT, b_lenL, b_lenF, b_tupT, b_tupL, b_lstT, b_lstL, b_allL, b_anyL, b_sumL, b_sumT, b_abs, b_max, b_min, b_intI, b_intB, q_ii, q_ss, mapR_some, andR_ite, orR_ite, unpK, parK, augK, setIK, setTg, setAll, wipe, blt, blt0, seqOf, lstOf, cop, bop, intOp, atP, place, Option.map_some, Option.map_none, Option.bind_some, Option.bind_none, eq_self, reduceCtorEq, Int.reduceLE, Int.reduceLT, Int.reduceNeg, Int.reduceEq, Int.reduceToNat, Int.reduceAdd, Int.reduceSub, Nat.reduceLeDiff, reduceIte,  List.flatten_cons, List.flatten_nil, List.length_map, List.map_cons, List.map_nil, List.length_cons, List.length_nil, List.replicate_succ, List.replicate_zero, List.cons_append, List.nil_append, List.append_nil, List.set_cons_zero, List.set_cons_succ, Bool.not_true, Bool.not_false, if_true, if_false, ite_true, ite_false, Bool.false_eq_true, decide_true, decide_false, Bool.or_true, Bool.true_or, Bool.or_false, Bool.false_or, Bool.and_true, Bool.true_and, Bool.and_false, Bool.false_and, decide_eq_true_eq, Nat.reduceAdd, Nat.reduceSub, Nat.zero_add, Function.comp_apply, ix0, ix1, ix2, ixL0, ixL1, ixL2, Int.cast_ofNat_Int, List.all_cons, List.all_nil, id_eq, numbered_map, e1, q]
end
end K07

set_option linter.all false
set_option maxRecDepth 10000
set_option exponentiation.threshold 10000
namespace K07
open Ln
open Rr (Row gt gl prim pdiv clr stepE elimF St less stepR rankF Red Lead scaleF factorF madeStep madeF Made)
open PySem (PyData Str)
/-- reduced rows whose numbers are small -/
structure RedB (n : Nat) (A : List (Nat × Row)) : Prop where
  r : Red n A
  b : ∀ p ∈ A, Br 4000 p.2
  n60 : n ≤ 60
theorem RedB.ld {n : Nat} {A : List (Nat × Row)} (h : RedB n A) {p : Nat × Row} (hp : p ∈ A) : Lead p.2 p.1 := ⟨by have := h.r.pos p hp; omega, h.r.lead p hp⟩
theorem RedB.len {n : Nat} {A : List (Nat × Row)} (h : RedB n A) : A.length ≤ n := by
  have : ∀ (B : List (Nat × Row)), B.Pairwise (fun p q => p.1 < q.1) → (∀ p ∈ B, p.1 < n) → ∀ m, (∀ p ∈ B, m ≤ p.1) → B.length + m ≤ max n m := fun B => by
    induction B with
    | nil => intro _ _ m _; simp; omega
    | cons p B ih =>
      intro hp hl m hm
      rw [List.pairwise_cons] at hp
      have h1 := ih hp.2 (fun q hq => hl q (List.mem_cons_of_mem _ hq)) (p.1 + 1) fun q hq => hp.1 q hq
      have h2 := hl p List.mem_cons_self
      have h3 := hm p List.mem_cons_self
      rw [List.length_cons]; omega
  have := this A h.r.inc h.r.lt 0 fun _ _ => Nat.zero_le _
  omega
theorem zip_asc : ∀ (A : List (Nat × Row)), A.Pairwise (fun p q => p.1 < q.1) → ∀ q ∈ (A.map (·.1)).zip ((A.map (·.1)).drop 1), q.1 < q.2
  | [], _, q, hq => by simp at hq
  | [_], _, q, hq => by simp at hq
  | a :: b :: r, h, q, hq => by
    rw [List.pairwise_cons] at h
    simp only [List.map_cons, List.drop_succ_cons, List.drop_zero, List.zip_cons_cons, List.mem_cons] at hq
    rcases hq with rfl | hq
    · exact h.1 b List.mem_cons_self
    · exact zip_asc (b :: r) h.2 q (by simpa using hq)
theorem one_at : ∀ {A : List (Nat × Row)} {p : Nat × Row}, p ∈ A → A.Pairwise (fun p q => p.1 < q.1) → gt p.2 p.1 ≠ 0 → (∀ q ∈ A, q.1 ≠ p.1 → gt q.2 p.1 = 0) → (A.filter fun q => !decide (gt q.2 p.1 = 0)).length = 1
  | [], _, h, _, _, _ => nomatch h
  | q :: A, p, h, hp, h0, hz => by
    rw [List.pairwise_cons] at hp
    rcases List.mem_cons.mp h with rfl | h
    · rw [List.filter_cons_of_pos (by rw [decide_eq_false h0]; rfl), List.filter_eq_nil_iff.mpr fun q hq => by rw [decide_eq_true (hz q (List.mem_cons_of_mem _ hq) (Nat.ne_of_gt (hp.1 q hq)))]; decide]; rfl
    · rw [List.filter_cons_of_neg (by rw [decide_eq_true (hz q List.mem_cons_self (Nat.ne_of_lt (hp.1 p h)))]; decide)]
      exact one_at h hp.2 h0 fun r hr => hz r (List.mem_cons_of_mem _ hr)
abbrev rr (A : List (Nat × Row)) : D := .tup (A.map fun q => iv q.2)
section
variable {w k n : Nat} {S : Store}
theorem none_in {xs : List Nat} (h : ∀ x ∈ xs, x < 1000) : inD S .non (.lst (xs.map fun x : Nat => D.int x)) = some false := by
  have e1 : dat S .non = some .none := rfl
  have e2 : (xs.map fun x : Nat => D.int x).mapM (dat S) = some (xs.map fun x : Nat => PyData.int x) := by
    show (xs.map fun x : Nat => D.int x).mapM (toP S Ln.deep) = _
    exact mapM_map (g := fun x : Nat => D.int x) (f := fun x : Nat => PyData.int x) fun a _ => toP_int
  have e3 : PyData.canLayAll0 (xs.map fun x : Nat => PyData.int x) = true ∧ PyData.depthAll (xs.map fun x : Nat => PyData.int x) ≤ 1 ∧ ((xs.map fun x : Nat => PyData.int x).any fun z => PyData.eqv z .none) = false := by
    clear h e2
    induction xs with
    | nil => simp [PyData.canLayAll0, PyData.depthAll]
    | cons x xs ih => obtain ⟨a, b, c⟩ := ih; simp [PyData.canLayAll0, PyData.canLay0, a, PyData.depthAll, PyData.depth, b, PyData.eqv] at c ⊢; try exact c
  have e4 : PySem.SeqAt.shaped (.list (xs.map fun x : Nat => PyData.int x)) = true := by
    have h2 := e3.2.1
    generalize (xs.map fun x : Nat => PyData.int x) = ps at e3 h2
    exact shaped_of (by simpa [PyData.canLay0] using e3.1) (by simp only [PyData.depth]; omega)
  have e5 : PySem.SeqAt.shaped .none = true := by decide
  unfold inD
  simp only [e1, seqOf, e2, e4, e5, Bool.and_self, if_true, e3.2.2]
theorem gcd_loop (hw : 1000000 ≤ w) {v0 v1 v2 v3 v6 v7 : Option D} : ∀ (r : Row) (x : Nat) (o5 : Option D), x < 2 ^ 9000 → Br 9000 r → ∃ p5, loopM (callI prog w (k + 1)) w (.nm 5) (.cons (.set 4 (.call 17 (.cons (.var 4) (.cons (.blt .abs (.cons (.var 5) .nil)) .nil)))) .nil) (r.map D.int) [v0, v1, v2, v3, some (.int (x : Int)), o5, v6, v7] S = .ok (.nx, [v0, v1, v2, v3, some (.int (r.foldl (fun x a => Nat.gcd x a.natAbs) x : Nat)), p5, v6, v7]) S
  | [], x, o5, _, _ => ⟨o5, rfl⟩
  | a :: r, x, o5, hx, h => by
    have ha := h a List.mem_cons_self
    have e := common_sp (S := S) (k := k) hw hcommon (a := x) (b := a.natAbs) (Nat.lt_of_lt_of_le hx (Nat.pow_le_pow_right (by decide) (by decide))) (Nat.lt_of_lt_of_le ha (Nat.pow_le_pow_right (by decide) (by decide)))
    have hx' : Nat.gcd x a.natAbs < 2 ^ 9000 := by
      by_cases h0 : a = 0
      · subst h0; simpa using hx
      · exact Nat.lt_of_le_of_lt (Nat.le_of_dvd (by omega) (Nat.gcd_dvd_right x a.natAbs)) ha
    obtain ⟨p5, e2⟩ := gcd_loop hw (v0 := v0) (v1 := v1) (v2 := v2) (v3 := v3) (v6 := v6) (v7 := v7) r (Nat.gcd x a.natAbs) (some (.int a)) hx' fun b hb => h b (List.mem_cons_of_mem _ hb)
    exact ⟨p5, (loopM_nx (ρ1 := [v0, v1, v2, v3, some (.int (x : Int)), some (.int a), v6, v7]) rfl (by simp only [qOpt, qRet, bnd_ok, bnd_exc, bnd_err, flow_nx, flow_rt, flow_bk, flow_ct, flow_exc, end_nx, end_rt, end_exc, e_var, g_0, g_s, e_cst, e_bin, e_neg, e_not, e_cmp, e_chain, e_and, e_or, e_ite, e_tup, e_lst, e_lstM, e_lstS, e_dct, e_idx, e_slc, e_rev, e_isi, e_fz, e_repM, fz_lst, fz_tup, fz_dct, m_dget, e_blt, e_call, e_mth, m_tindex, m_tcount, e_lc, l_nil, l_cons, l_star, t_nil, t_cons, o_no, o_so, i_seq, i_rng1, i_rng2, i_zip, i_enum, i_enumT, k_enumT, k_neg, k_int, k_seqT, k_seqL, k_seqF, k_starT, k_starL, k_zipT, k_zipL, k_zipM, k_zipM2, k_enum, k_rng, k_rng2, tr_bl, tr_int, tr_tup, tr_lst, s_nil, s_cons, x_expr, x_set, x_setT, x_par, x_setI, x_aug, x_cond, x_loop, x_while, x_ret, x_retN, x_pass, x_brk, x_cont, x_run, b_lenT, b_lenL, b_lenF, b_tupT, b_tupL, b_lstT, b_lstL, b_allL, b_anyL, b_sumL, b_sumT, b_abs, b_max, b_min, b_intI, b_intB, q_ii, q_ss, mapR_some, andR_ite, orR_ite, unpK, parK, augK, setIK, setTg, setAll, wipe, blt, blt0, seqOf, lstOf, cop, bop, intOp, atP, place, Option.map_some, Option.map_none, Option.bind_some, Option.bind_none, eq_self, reduceCtorEq, Int.reduceLE, Int.reduceLT, Int.reduceNeg, Int.reduceEq, Int.reduceToNat, Int.reduceAdd, Int.reduceSub, Nat.reduceLeDiff, reduceIte,  List.flatten_cons, List.flatten_nil, List.length_map, List.map_cons, List.map_nil, List.length_cons, List.length_nil, List.replicate_succ, List.replicate_zero, List.cons_append, List.nil_append, List.append_nil, List.set_cons_zero, List.set_cons_succ, Bool.not_true, Bool.not_false, if_true, if_false, ite_true, ite_false, Bool.false_eq_true, decide_true, decide_false, Bool.or_true, Bool.true_or, Bool.or_false, Bool.false_or, Bool.and_true, Bool.true_and, Bool.and_false, Bool.false_and, decide_eq_true_eq, Nat.reduceAdd, Nat.reduceSub, Nat.zero_add, Function.comp_apply, ix0, ix1, ix2, ixL0, ixL1, ixL2, Int.cast_ofNat_Int, List.all_cons, List.all_nil, id_eq, abs_i, e])).trans e2⟩
theorem red_loop (hw : 1000000 ≤ w) {A : List (Nat × Row)} (hA : RedB n A) {v2 : Option D} : ∀ (B : List (Nat × Row)) (o1 o3 o4 o5 : Option D), (∀ p ∈ B, p ∈ A) → ∃ p1 p3 p4 p5, loopM (callI prog w (k + 1)) w (.tp [1, 3]) (match b__law_is_reduced with | .cons _ (.cons _ (.cons (.loop _ _ b) _)) => b | _ => .nil) (B.map fun p => D.wtp [iv p.2, .int p.1]) [some (rr A), o1, v2, o3, o4, o5, none, none] S = .ok (.nx, [some (rr A), p1, v2, p3, p4, p5, none, none]) S
  | [], o1, o3, o4, o5, _ => ⟨o1, o3, o4, o5, rfl⟩
  | p :: B, o1, o3, o4, o5, h => by
    have hp := h p List.mem_cons_self
    obtain ⟨p5, e1⟩ := gcd_loop (w := w) (k := k) (S := S) hw (v0 := some (rr A)) (v1 := some (iv p.2)) (v2 := v2) (v3 := some (.int p.1)) (v6 := none) (v7 := none) p.2 0 o5 (Nat.two_pow_pos _) ((hA.b p hp).up (by decide))
    have g1 : p.2.foldl (fun x a => Nat.gcd x a.natAbs) 0 = 1 := hA.r.prm p hp
    rw [g1] at e1
    obtain ⟨q1, q3, q4, q5, e2⟩ := red_loop hw hA (v2 := v2) B (some (iv p.2)) (some (.int p.1)) (some (.int (1 : Nat))) p5 fun q hq => h q (List.mem_cons_of_mem _ hq)
    have hlt : p.1 < p.2.length := by rw [hA.r.len p hp]; exact hA.r.lt p hp
    have e3 : ∀ {a4 a5 : Option D}, lcM (callI prog w (k + 1)) (.cst (.int 1)) (.nm 7) (.cons (.cmp .ne (.idx (.var 7) (.var 3)) (.cst (.int 0))) .nil) [7] [some (rr A), some (iv p.2), v2, some (.int p.1), a4, a5, none, none] (A.map fun q => iv q.2) S = .ok (.lst ((A.filter fun q => !decide (gt q.2 p.1 = 0)).map fun _ => .int 1)) S := fun {a4 a5} =>
      lcM_filter (fun q : Nat × Row => iv q.2) (fun _ => .int 1) (fun q => !decide (gt q.2 p.1 = 0)) A fun q hq => ⟨_, rfl, by
        simp only [qOpt, qRet, bnd_ok, bnd_exc, bnd_err, flow_nx, flow_rt, flow_bk, flow_ct, flow_exc, end_nx, end_rt, end_exc, e_var, g_0, g_s, e_cst, e_bin, e_neg, e_not, e_cmp, e_chain, e_and, e_or, e_ite, e_tup, e_lst, e_lstM, e_lstS, e_dct, e_idx, e_slc, e_rev, e_isi, e_fz, e_repM, fz_lst, fz_tup, fz_dct, m_dget, e_blt, e_call, e_mth, m_tindex, m_tcount, e_lc, l_nil, l_cons, l_star, t_nil, t_cons, o_no, o_so, i_seq, i_rng1, i_rng2, i_zip, i_enum, i_enumT, k_enumT, k_neg, k_int, k_seqT, k_seqL, k_seqF, k_starT, k_starL, k_zipT, k_zipL, k_zipM, k_zipM2, k_enum, k_rng, k_rng2, tr_bl, tr_int, tr_tup, tr_lst, s_nil, s_cons, x_expr, x_set, x_setT, x_par, x_setI, x_aug, x_cond, x_loop, x_while, x_ret, x_retN, x_pass, x_brk, x_cont, x_run, b_lenT, b_lenL, b_lenF, b_tupT, b_tupL, b_lstT, b_lstL, b_allL, b_anyL, b_sumL, b_sumT, b_abs, b_max, b_min, b_intI, b_intB, q_ii, q_ss, mapR_some, andR_ite, orR_ite, unpK, parK, augK, setIK, setTg, setAll, wipe, blt, blt0, seqOf, lstOf, cop, bop, intOp, atP, place, Option.map_some, Option.map_none, Option.bind_some, Option.bind_none, eq_self, reduceCtorEq, Int.reduceLE, Int.reduceLT, Int.reduceNeg, Int.reduceEq, Int.reduceToNat, Int.reduceAdd, Int.reduceSub, Nat.reduceLeDiff, reduceIte,  List.flatten_cons, List.flatten_nil, List.length_map, List.map_cons, List.map_nil, List.length_cons, List.length_nil, List.replicate_succ, List.replicate_zero, List.cons_append, List.nil_append, List.append_nil, List.set_cons_zero, List.set_cons_succ, Bool.not_true, Bool.not_false, if_true, if_false, ite_true, ite_false, Bool.false_eq_true, decide_true, decide_false, Bool.or_true, Bool.true_or, Bool.or_false, Bool.false_or, Bool.and_true, Bool.true_and, Bool.and_false, Bool.false_and, decide_eq_true_eq, Nat.reduceAdd, Nat.reduceSub, Nat.zero_add, Function.comp_apply, ix0, ix1, ix2, ixL0, ixL1, ixL2, Int.cast_ofNat_Int, List.all_cons, List.all_nil, id_eq, ix_iv (show p.1 < q.2.length by rw [hA.r.len q hq]; exact hA.r.lt p hp)], fun _ => by simp only [qOpt, qRet, bnd_ok, bnd_exc, bnd_err, flow_nx, flow_rt, flow_bk, flow_ct, flow_exc, end_nx, end_rt, end_exc, e_var, g_0, g_s, e_cst, e_bin, e_neg, e_not, e_cmp, e_chain, e_and, e_or, e_ite, e_tup, e_lst, e_lstM, e_lstS, e_dct, e_idx, e_slc, e_rev, e_isi, e_fz, e_repM, fz_lst, fz_tup, fz_dct, m_dget, e_blt, e_call, e_mth, m_tindex, m_tcount, e_lc, l_nil, l_cons, l_star, t_nil, t_cons, o_no, o_so, i_seq, i_rng1, i_rng2, i_zip, i_enum, i_enumT, k_enumT, k_neg, k_int, k_seqT, k_seqL, k_seqF, k_starT, k_starL, k_zipT, k_zipL, k_zipM, k_zipM2, k_enum, k_rng, k_rng2, tr_bl, tr_int, tr_tup, tr_lst, s_nil, s_cons, x_expr, x_set, x_setT, x_par, x_setI, x_aug, x_cond, x_loop, x_while, x_ret, x_retN, x_pass, x_brk, x_cont, x_run, b_lenT, b_lenL, b_lenF, b_tupT, b_tupL, b_lstT, b_lstL, b_allL, b_anyL, b_sumL, b_sumT, b_abs, b_max, b_min, b_intI, b_intB, q_ii, q_ss, mapR_some, andR_ite, orR_ite, unpK, parK, augK, setIK, setTg, setAll, wipe, blt, blt0, seqOf, lstOf, cop, bop, intOp, atP, place, Option.map_some, Option.map_none, Option.bind_some, Option.bind_none, eq_self, reduceCtorEq, Int.reduceLE, Int.reduceLT, Int.reduceNeg, Int.reduceEq, Int.reduceToNat, Int.reduceAdd, Int.reduceSub, Nat.reduceLeDiff, reduceIte,  List.flatten_cons, List.flatten_nil, List.length_map, List.map_cons, List.map_nil, List.length_cons, List.length_nil, List.replicate_succ, List.replicate_zero, List.cons_append, List.nil_append, List.append_nil, List.set_cons_zero, List.set_cons_succ, Bool.not_true, Bool.not_false, if_true, if_false, ite_true, ite_false, Bool.false_eq_true, decide_true, decide_false, Bool.or_true, Bool.true_or, Bool.or_false, Bool.false_or, Bool.and_true, Bool.true_and, Bool.and_false, Bool.false_and, decide_eq_true_eq, Nat.reduceAdd, Nat.reduceSub, Nat.zero_add, Function.comp_apply, ix0, ix1, ix2, ixL0, ixL1, ixL2, Int.cast_ofNat_Int, List.all_cons, List.all_nil, id_eq]⟩
    have l1 := one_at hp hA.r.inc (by have := hA.r.pos p hp; omega) fun q hq hne => hA.r.zer q hq p hp hne
    have pos : decide (gt p.2 p.1 ≤ 0) = false := decide_eq_false (by have := hA.r.pos p hp; omega)
    simp only [Int.natCast_zero] at e1
    refine ⟨q1, q3, q4, q5, (loopM_nx (ρ1 := [some (rr A), some (iv p.2), v2, some (.int p.1), o4, o5, none, none]) rfl ?_).trans e2⟩
    simp only [b__law_is_reduced, qOpt, qRet, bnd_ok, bnd_exc, bnd_err, flow_nx, flow_rt, flow_bk, flow_ct, flow_exc, end_nx, end_rt, end_exc, e_var, g_0, g_s, e_cst, e_bin, e_neg, e_not, e_cmp, e_chain, e_and, e_or, e_ite, e_tup, e_lst, e_lstM, e_lstS, e_dct, e_idx, e_slc, e_rev, e_isi, e_fz, e_repM, fz_lst, fz_tup, fz_dct, m_dget, e_blt, e_call, e_mth, m_tindex, m_tcount, e_lc, l_nil, l_cons, l_star, t_nil, t_cons, o_no, o_so, i_seq, i_rng1, i_rng2, i_zip, i_enum, i_enumT, k_enumT, k_neg, k_int, k_seqT, k_seqL, k_seqF, k_starT, k_starL, k_zipT, k_zipL, k_zipM, k_zipM2, k_enum, k_rng, k_rng2, tr_bl, tr_int, tr_tup, tr_lst, s_nil, s_cons, x_expr, x_set, x_setT, x_par, x_setI, x_aug, x_cond, x_loop, x_while, x_ret, x_retN, x_pass, x_brk, x_cont, x_run, b_lenT, b_lenL, b_lenF, b_tupT, b_tupL, b_lstT, b_lstL, b_allL, b_anyL, b_sumL, b_sumT, b_abs, b_max, b_min, b_intI, b_intB, q_ii, q_ss, mapR_some, andR_ite, orR_ite, unpK, parK, augK, setIK, setTg, setAll, wipe, blt, blt0, seqOf, lstOf, cop, bop, intOp, atP, place, Option.map_some, Option.map_none, Option.bind_some, Option.bind_none, eq_self, reduceCtorEq, Int.reduceLE, Int.reduceLT, Int.reduceNeg, Int.reduceEq, Int.reduceToNat, Int.reduceAdd, Int.reduceSub, Nat.reduceLeDiff, reduceIte,  List.flatten_cons, List.flatten_nil, List.length_map, List.map_cons, List.map_nil, List.length_cons, List.length_nil, List.replicate_succ, List.replicate_zero, List.cons_append, List.nil_append, List.append_nil, List.set_cons_zero, List.set_cons_succ, Bool.not_true, Bool.not_false, if_true, if_false, ite_true, ite_false, Bool.false_eq_true, decide_true, decide_false, Bool.or_true, Bool.true_or, Bool.or_false, Bool.false_or, Bool.and_true, Bool.true_and, Bool.and_false, Bool.false_and, decide_eq_true_eq, Nat.reduceAdd, Nat.reduceSub, Nat.zero_add, Function.comp_apply, ix0, ix1, ix2, ixL0, ixL1, ixL2, Int.cast_ofNat_Int, List.all_cons, List.all_nil, id_eq, e1, ix_iv hlt, pos, e3, l1, Int.natCast_one, decide_true]
theorem s_is_reduced (hw : 1000000 ≤ w) {A : List (Nat × Row)} (hA : RedB n A) : callI prog w (k + 2) 22 [rr A] S = .ok (.bl true) S := by
  have e1 := lcM_map (cf := callI prog w (k + 1)) (ρ := [some (rr A), none, none, none, none, none, none, none]) (S := S) (elt := .call 21 (.cons (.var 1) .nil)) (tg := .nm 1) (own := [1]) (fun q : Nat × Row => iv q.2) (fun q => .int q.1) A fun q hq => ⟨_, rfl, by
    simp only [qOpt, qRet, bnd_ok, bnd_exc, bnd_err, flow_nx, flow_rt, flow_bk, flow_ct, flow_exc, end_nx, end_rt, end_exc, e_var, g_0, g_s, e_cst, e_bin, e_neg, e_not, e_cmp, e_chain, e_and, e_or, e_ite, e_tup, e_lst, e_lstM, e_lstS, e_dct, e_idx, e_slc, e_rev, e_isi, e_fz, e_repM, fz_lst, fz_tup, fz_dct, m_dget, e_blt, e_call, e_mth, m_tindex, m_tcount, e_lc, l_nil, l_cons, l_star, t_nil, t_cons, o_no, o_so, i_seq, i_rng1, i_rng2, i_zip, i_enum, i_enumT, k_enumT, k_neg, k_int, k_seqT, k_seqL, k_seqF, k_starT, k_starL, k_zipT, k_zipL, k_zipM, k_zipM2, k_enum, k_rng, k_rng2, tr_bl, tr_int, tr_tup, tr_lst, s_nil, s_cons, x_expr, x_set, x_setT, x_par, x_setI, x_aug, x_cond, x_loop, x_while, x_ret, x_retN, x_pass, x_brk, x_cont, x_run, b_lenT, b_lenL, b_lenF, b_tupT, b_tupL, b_lstT, b_lstL, b_allL, b_anyL, b_sumL, b_sumT, b_abs, b_max, b_min, b_intI, b_intB, q_ii, q_ss, mapR_some, andR_ite, orR_ite, unpK, parK, augK, setIK, setTg, setAll, wipe, blt, blt0, seqOf, lstOf, cop, bop, intOp, atP, place, Option.map_some, Option.map_none, Option.bind_some, Option.bind_none, eq_self, reduceCtorEq, Int.reduceLE, Int.reduceLT, Int.reduceNeg, Int.reduceEq, Int.reduceToNat, Int.reduceAdd, Int.reduceSub, Nat.reduceLeDiff, reduceIte,  List.flatten_cons, List.flatten_nil, List.length_map, List.map_cons, List.map_nil, List.length_cons, List.length_nil, List.replicate_succ, List.replicate_zero, List.cons_append, List.nil_append, List.append_nil, List.set_cons_zero, List.set_cons_succ, Bool.not_true, Bool.not_false, if_true, if_false, ite_true, ite_false, Bool.false_eq_true, decide_true, decide_false, Bool.or_true, Bool.true_or, Bool.or_false, Bool.false_or, Bool.and_true, Bool.true_and, Bool.and_false, Bool.false_and, decide_eq_true_eq, Nat.reduceAdd, Nat.reduceSub, Nat.zero_add, Function.comp_apply, ix0, ix1, ix2, ixL0, ixL1, ixL2, Int.cast_ofNat_Int, List.all_cons, List.all_nil, id_eq, s_pivot (k := k) (by rw [hA.r.len q hq]; have := hA.n60; omega) (hA.ld hq)]⟩
  have e2 : inD S .non (.lst (A.map fun q => D.int q.1)) = some false := by
    have := none_in (S := S) (xs := A.map (·.1)) fun x hx => by
      obtain ⟨q, hq, rfl⟩ := List.mem_map.mp hx
      have := hA.r.lt q hq; have := hA.n60; omega
    rw [List.map_map] at this
    exact this
  have e3 : lcM (callI prog w (k + 1)) (.cst (.int 1)) (.tp [6, 7]) (.cons (.cmp .ge (.var 6) (.var 7)) .nil) [6, 7] [some (rr A), none, some (.lst (A.map fun q => D.int q.1)), none, none, none, none, none] (pairs (A.map fun q => D.int q.1) (cut (A.map fun q => D.int q.1) (some 1) none)) S = .ok (.lst []) S := by
    rw [cut_tail, show (A.map fun q => D.int q.1) = (A.map (·.1)).map fun x : Nat => D.int x by rw [List.map_map]; rfl, ← List.map_drop, pairs_map]
    have := lcM_filter (cf := callI prog w (k + 1)) (ρ := [some (rr A), none, some (.lst ((A.map (·.1)).map fun x : Nat => D.int x)), none, none, none, none, none]) (S := S) (elt := .cst (.int 1)) (c := .cmp .ge (.var 6) (.var 7)) (tg := .tp [6, 7]) (own := [6, 7]) (fun p : Nat × Nat => D.wtp [.int p.1, .int p.2]) (fun _ => .int 1) (fun _ => false) ((A.map (·.1)).zip ((A.map (·.1)).drop 1)) fun q hq => ⟨_, rfl, by
      have := zip_asc A hA.r.inc q hq
      have d : decide ((q.2 : Int) ≤ q.1) = false := decide_eq_false (by omega)
      simp only [qOpt, qRet, bnd_ok, bnd_exc, bnd_err, flow_nx, flow_rt, flow_bk, flow_ct, flow_exc, end_nx, end_rt, end_exc, e_var, g_0, g_s, e_cst, e_bin, e_neg, e_not, e_cmp, e_chain, e_and, e_or, e_ite, e_tup, e_lst, e_lstM, e_lstS, e_dct, e_idx, e_slc, e_rev, e_isi, e_fz, e_repM, fz_lst, fz_tup, fz_dct, m_dget, e_blt, e_call, e_mth, m_tindex, m_tcount, e_lc, l_nil, l_cons, l_star, t_nil, t_cons, o_no, o_so, i_seq, i_rng1, i_rng2, i_zip, i_enum, i_enumT, k_enumT, k_neg, k_int, k_seqT, k_seqL, k_seqF, k_starT, k_starL, k_zipT, k_zipL, k_zipM, k_zipM2, k_enum, k_rng, k_rng2, tr_bl, tr_int, tr_tup, tr_lst, s_nil, s_cons, x_expr, x_set, x_setT, x_par, x_setI, x_aug, x_cond, x_loop, x_while, x_ret, x_retN, x_pass, x_brk, x_cont, x_run, b_lenT, b_lenL, b_lenF, b_tupT, b_tupL, b_lstT, b_lstL, b_allL, b_anyL, b_sumL, b_sumT, b_abs, b_max, b_min, b_intI, b_intB, q_ii, q_ss, mapR_some, andR_ite, orR_ite, unpK, parK, augK, setIK, setTg, setAll, wipe, blt, blt0, seqOf, lstOf, cop, bop, intOp, atP, place, Option.map_some, Option.map_none, Option.bind_some, Option.bind_none, eq_self, reduceCtorEq, Int.reduceLE, Int.reduceLT, Int.reduceNeg, Int.reduceEq, Int.reduceToNat, Int.reduceAdd, Int.reduceSub, Nat.reduceLeDiff, reduceIte,  List.flatten_cons, List.flatten_nil, List.length_map, List.map_cons, List.map_nil, List.length_cons, List.length_nil, List.replicate_succ, List.replicate_zero, List.cons_append, List.nil_append, List.append_nil, List.set_cons_zero, List.set_cons_succ, Bool.not_true, Bool.not_false, if_true, if_false, ite_true, ite_false, Bool.false_eq_true, decide_true, decide_false, Bool.or_true, Bool.true_or, Bool.or_false, Bool.false_or, Bool.and_true, Bool.true_and, Bool.and_false, Bool.false_and, decide_eq_true_eq, Nat.reduceAdd, Nat.reduceSub, Nat.zero_add, Function.comp_apply, ix0, ix1, ix2, ixL0, ixL1, ixL2, Int.cast_ofNat_Int, List.all_cons, List.all_nil, id_eq, d], fun h => nomatch h⟩
    rw [this]; simp
  have q0 : ∀ S, eqD S (.lst []) (.lst []) = some true := fun S => rfl
  obtain ⟨p1, p3, p4, p5, e4⟩ := red_loop (w := w) (k := k) (S := S) hw hA (v2 := some (.lst (A.map fun q => D.int q.1))) A none none none none fun p h => h
  have zp : pairs (A.map fun q => iv q.2) (A.map fun q => D.int q.1) = A.map fun p => D.wtp [iv p.2, .int p.1] := by
    clear e1 e2 e3 e4 hA
    induction A with
    | nil => rfl
    | cons p A ih => rw [List.map_cons, List.map_cons, List.map_cons, pairs, ih]
  simp only [b__law_is_reduced] at e4
  rw [u__law_is_reduced]
  simp only [b__law_is_reduced, qOpt, qRet, bnd_ok, bnd_exc, bnd_err, flow_nx, flow_rt, flow_bk, flow_ct, flow_exc, end_nx, end_rt, end_exc, e_var, g_0, g_s, e_cst, e_bin, e_neg, e_not, e_cmp, e_chain, e_and, e_or, e_ite, e_tup, e_lst, e_lstM, e_lstS, e_dct, e_idx, e_slc, e_rev, e_isi, e_fz, e_repM, fz_lst, fz_tup, fz_dct, m_dget, e_blt, e_call, e_mth, m_tindex, m_tcount, e_lc, l_nil, l_cons, l_star, t_nil, t_cons, o_no, o_so, i_seq, i_rng1, i_rng2, i_zip, i_enum, i_enumT, k_enumT, k_neg, k_int, k_seqT, k_seqL, k_seqF, k_starT, k_starL, k_zipT, k_zipL, k_zipM, k_zipM2, k_enum, k_rng, k_rng2, tr_bl, tr_int, tr_tup, tr_lst, s_nil, s_cons, x_expr, x_set, x_setT, x_par, x_setI, x_aug, x_cond, x_loop, x_while, x_ret, x_retN, x_pass, x_brk, x_cont, x_run, b_lenT, b_lenL, b_lenF, b_tupT, b_tupL, b_lstT, b_lstL, b_allL, b_anyL, b_sumL, b_sumT, b_abs, b_max, b_min, b_intI, b_intB, q_ii, q_ss, mapR_some, andR_ite, orR_ite, unpK, parK, augK, setIK, setTg, setAll, wipe, blt, blt0, seqOf, lstOf, cop, bop, intOp, atP, place, Option.map_some, Option.map_none, Option.bind_some, Option.bind_none, eq_self, reduceCtorEq, Int.reduceLE, Int.reduceLT, Int.reduceNeg, Int.reduceEq, Int.reduceToNat, Int.reduceAdd, Int.reduceSub, Nat.reduceLeDiff, reduceIte,  List.flatten_cons, List.flatten_nil, List.length_map, List.map_cons, List.map_nil, List.length_cons, List.length_nil, List.replicate_succ, List.replicate_zero, List.cons_append, List.nil_append, List.append_nil, List.set_cons_zero, List.set_cons_succ, Bool.not_true, Bool.not_false, if_true, if_false, ite_true, ite_false, Bool.false_eq_true, decide_true, decide_false, Bool.or_true, Bool.true_or, Bool.or_false, Bool.false_or, Bool.and_true, Bool.true_and, Bool.and_false, Bool.false_and, decide_eq_true_eq, Nat.reduceAdd, Nat.reduceSub, Nat.zero_add, Function.comp_apply, ix0, ix1, ix2, ixL0, ixL1, ixL2, Int.cast_ofNat_Int, List.all_cons, List.all_nil, id_eq, e1, e2, slcD, e3, q0, zp, e4]
end
end K07

set_option linter.all false
set_option maxRecDepth 10000
set_option exponentiation.threshold 10000
namespace K07
open Ln
open Rr (Row gt)
open PySem (PyData Str)
/-- the stream at n was drawn from, the rows stand at m -/
structure Km (n m : Nat) (L : List Row) (S : Store) : Prop where
  s : Strm n S
  r : S[m]? = some (.lst (L.map iv))
  ne : n ≠ m
theorem Km.kp {n m : Nat} {L : List Row} {S S' : Store} (h : Km n m L S) (k : Kp n S S') : Km n m L S' := ⟨k.s, (k.o m h.ne.symm).trans h.r, h.ne⟩
section
variable {w k n m : Nat} {S : Store}
theorem len_ref {xs : List D} (h : S[m]? = some (.lst xs)) : lenF S [.ref m] = some (.int xs.length) := by
  show (seqOf S (.ref m)).map _ = _
  simp only [seqOf, h, Option.map_some]
theorem ix_ref {xs : List D} (h : S[m]? = some (.lst xs)) {i : Nat} (hi : i < xs.length) : idxD S (.ref m) (.int i) = some xs[i] := by
  simp only [idxD, seqOf, h, Option.bind_some, atP, place]
  rw [if_pos (by omega), if_pos (by omega)]
  simp
theorem pickR {i j : Nat} (h : prog[i]? = some ⟨2, false, 5, b_draw⟩) (h2 : prog[j]? = some ⟨2, false, 2, b_pick i⟩) (hs : Strm n S) {xs : List D} (hm : S[m]? = some (.lst xs)) (hne : n ≠ m) (h0 : xs ≠ []) (h1 : xs.length < 1000) :
    ∃ d S', callI prog w (k + 2) j [.ref n, .ref m] S = .ok d S' ∧ d ∈ xs ∧ Kp n S S' := by
  obtain ⟨r, S', e, hr, kp⟩ := drawK (w := w) (k := k) h hs (t := xs.length) (List.length_pos_iff.mpr h0) (by refine Nat.lt_of_lt_of_le (show xs.length < 2 ^ 10 by omega) (Nat.pow_le_pow_right (by decide) (by decide)))
  have hm' : S'[m]? = some (.lst xs) := (kp.o m hne.symm).trans hm
  refine ⟨xs[r], S', ?_, List.getElem_mem hr, kp⟩
  rw [callI_s h2 rfl]
  simp only [b_pick, qOpt, qRet, bnd_ok, bnd_exc, bnd_err, flow_nx, flow_rt, flow_bk, flow_ct, flow_exc, end_nx, end_rt, end_exc, e_var, g_0, g_s, e_cst, e_bin, e_neg, e_not, e_cmp, e_chain, e_and, e_or, e_ite, e_tup, e_lst, e_lstM, e_lstS, e_dct, e_idx, e_slc, e_rev, e_isi, e_fz, e_repM, fz_lst, fz_tup, fz_dct, m_dget, e_blt, e_call, e_mth, m_tindex, m_tcount, e_lc, l_nil, l_cons, l_star, t_nil, t_cons, o_no, o_so, i_seq, i_rng1, i_rng2, i_zip, i_enum, i_enumT, k_enumT, k_neg, k_int, k_seqT, k_seqL, k_seqF, k_starT, k_starL, k_zipT, k_zipL, k_zipM, k_zipM2, k_enum, k_rng, k_rng2, tr_bl, tr_int, tr_tup, tr_lst, s_nil, s_cons, x_expr, x_set, x_setT, x_par, x_setI, x_aug, x_cond, x_loop, x_while, x_ret, x_retN, x_pass, x_brk, x_cont, x_run, b_lenT, b_lenL, b_lenF, b_tupT, b_tupL, b_lstT, b_lstL, b_allL, b_anyL, b_sumL, b_sumT, b_abs, b_max, b_min, b_intI, b_intB, q_ii, q_ss, mapR_some, andR_ite, orR_ite, unpK, parK, augK, setIK, setTg, setAll, wipe, blt, blt0, seqOf, lstOf, cop, bop, intOp, isiD, tyOf, atP, place, Option.map_some, Option.map_none, Option.bind_some, Option.bind_none, eq_self, reduceCtorEq, Int.reduceLE, Int.reduceLT, Int.reduceNeg, Int.reduceEq, Int.reduceToNat, Int.reduceAdd, Int.reduceSub, Nat.reduceLeDiff, reduceIte,  List.flatten_cons, List.flatten_nil, List.length_map, List.map_cons, List.map_nil, List.length_cons, List.length_nil, List.replicate_succ, List.replicate_zero, List.cons_append, List.nil_append, List.append_nil, List.set_cons_zero, List.set_cons_succ, Bool.not_true, Bool.not_false, if_true, if_false, ite_true, ite_false, Bool.false_eq_true, decide_true, decide_false, Bool.or_true, Bool.true_or, Bool.or_false, Bool.false_or, Bool.and_true, Bool.true_and, Bool.and_false, Bool.false_and, decide_eq_true_eq, Nat.reduceAdd, Nat.reduceSub, Nat.zero_add, Function.comp_apply, len_ref hm, e, ix_ref hm' hr]
theorem pick_row (h : Km n m L S) (h0 : L ≠ []) (h1 : L.length < 1000) : ∃ r S', callI prog w (k + 2) 15 [.ref n, .ref m] S = .ok (iv r) S' ∧ r ∈ L ∧ Kp n S S' := by
  obtain ⟨d, S', e, hd, kp⟩ := pickR (w := w) (k := k) hdraw hpick h.s h.r h.ne (by simp [h0]) (by rw [List.length_map]; exact h1)
  obtain ⟨r, hr, rfl⟩ := List.mem_map.mp hd
  exact ⟨r, S', e, hr, kp⟩
/-- fresh numbers -/
theorem s_fresh {N : Nat} {ρ : Rho} (hρ : ρ.length = 12) (h0 : ρ[0]? = some (some (.ref n))) (hs : Strm n S) : ∃ (l : Row) (S' : Store), lcM (callI prog w (k + 1)) (.idx (.lst (.cons (.cst (.int 0)) (.cons (.cst (.int 0)) (.cons (.cst (.int 1)) (.cons (.neg (.cst (.int 1))) (.cons (.cst (.int 2)) (.cons (.neg (.cst (.int 3))) (.cons (.cst (.int 4)) (.cons (.bin .sub (.call 14 (.cons (.var 0) (.cons (.cst (.int 40)) .nil))) (.cst (.int 20))) .nil))))))))) (.call 14 (.cons (.var 0) (.cons (.cst (.int 8)) .nil)))) (.nm 8) .nil [8] ρ ((List.range N).map fun (i : Nat) => .int (i : Int)) S = .ok (.lst (l.map D.int)) S' ∧ l.length = N ∧ Br 5 l ∧ Kp n S S' := by
  obtain ⟨ys, S', e, ⟨kp⟩, hl, hp⟩ := lcM_inv (cf := callI prog w (k + 1)) (ρ := ρ) (S := S) (elt := .idx (.lst (.cons (.cst (.int 0)) (.cons (.cst (.int 0)) (.cons (.cst (.int 1)) (.cons (.neg (.cst (.int 1))) (.cons (.cst (.int 2)) (.cons (.neg (.cst (.int 3))) (.cons (.cst (.int 4)) (.cons (.bin .sub (.call 14 (.cons (.var 0) (.cons (.cst (.int 40)) .nil))) (.cst (.int 20))) .nil))))))))) (.call 14 (.cons (.var 0) (.cons (.cst (.int 8)) .nil)))) (tg := .nm 8) (own := [8]) (fun i : Nat => D.int i) (fun S' => Nonempty (Kp n S S')) (fun y => ∃ x, y = .int x ∧ Bi 5 x) (List.range N) (fun a _ S1 hS => by
    obtain ⟨kS⟩ := hS
    obtain ⟨r, S2, e2, hr, k2⟩ := drawK (w := w) (k := k) hdraw kS.s (t := 40) (by decide) (by decide)
    obtain ⟨q, S3, e3, hq, k3⟩ := drawK (w := w) (k := k) hdraw k2.s (t := 8) (by decide) (by decide)
    have g : ∀ S, getV ((ρ.set 8 none).set 8 (some (D.int a))) 0 S = .ok (.ref n) S := fun S => by
      unfold getV
      rw [List.getElem?_set_ne (by decide), List.getElem?_set_ne (by decide), h0]
      rfl
    have e2' : callI prog w (k + 1) 14 [.ref n, .int 40] S1 = .ok (.int r) S2 := e2
    have e3' : callI prog w (k + 1) 14 [.ref n, .int 8] S2 = .ok (.int q) S3 := e3
    have ix : ∃ x, idxD S3 (.lst [.int 0, .int 0, .int 1, .int (-1), .int 2, .int (-3), .int 4, .int ((r : Int) - 20)]) (.int q) = some (.int x) ∧ Bi 5 x := by
      have sm : ∀ x : Int, x.natAbs < 2 ^ 5 → Bi 5 x := fun x h => h
      match q, hq with
      | 0, _ => exact ⟨0, rfl, sm _ (by decide)⟩
      | 1, _ => exact ⟨0, rfl, sm _ (by decide)⟩
      | 2, _ => exact ⟨1, rfl, sm _ (by decide)⟩
      | 3, _ => exact ⟨-1, rfl, sm _ (by decide)⟩
      | 4, _ => exact ⟨2, rfl, sm _ (by decide)⟩
      | 5, _ => exact ⟨-3, rfl, sm _ (by decide)⟩
      | 6, _ => exact ⟨4, rfl, sm _ (by decide)⟩
      | 7, _ => exact ⟨(r : Int) - 20, rfl, sm _ (by omega)⟩
    obtain ⟨x, ex, bx⟩ := ix
    exact ⟨_, .int x, S3, rfl, by simp only [qOpt, qRet, bnd_ok, bnd_exc, bnd_err, flow_nx, flow_rt, flow_bk, flow_ct, flow_exc, end_nx, end_rt, end_exc, e_var, g_0, g_s, e_cst, e_bin, e_neg, e_not, e_cmp, e_chain, e_and, e_or, e_ite, e_tup, e_lst, e_lstM, e_lstS, e_dct, e_idx, e_slc, e_rev, e_isi, e_fz, e_repM, fz_lst, fz_tup, fz_dct, m_dget, e_blt, e_call, e_mth, m_tindex, m_tcount, e_lc, l_nil, l_cons, l_star, t_nil, t_cons, o_no, o_so, i_seq, i_rng1, i_rng2, i_zip, i_enum, i_enumT, k_enumT, k_neg, k_int, k_seqT, k_seqL, k_seqF, k_starT, k_starL, k_zipT, k_zipL, k_zipM, k_zipM2, k_enum, k_rng, k_rng2, tr_bl, tr_int, tr_tup, tr_lst, s_nil, s_cons, x_expr, x_set, x_setT, x_par, x_setI, x_aug, x_cond, x_loop, x_while, x_ret, x_retN, x_pass, x_brk, x_cont, x_run, b_lenT, b_lenL, b_lenF, b_tupT, b_tupL, b_lstT, b_lstL, b_allL, b_anyL, b_sumL, b_sumT, b_abs, b_max, b_min, b_intI, b_intB, q_ii, q_ss, mapR_some, andR_ite, orR_ite, unpK, parK, augK, setIK, setTg, setAll, wipe, blt, blt0, seqOf, lstOf, cop, isiD, tyOf, atP, place, Option.map_some, Option.map_none, Option.bind_some, Option.bind_none, eq_self, reduceCtorEq, Int.reduceLE, Int.reduceLT, Int.reduceNeg, Int.reduceEq, Int.reduceToNat, Int.reduceAdd, Int.reduceSub, Nat.reduceLeDiff, reduceIte,  List.flatten_cons, List.flatten_nil, List.length_map, List.map_cons, List.map_nil, List.length_cons, List.length_nil, List.replicate_succ, List.replicate_zero, List.cons_append, List.nil_append, List.append_nil, List.set_cons_zero, List.set_cons_succ, Bool.not_true, Bool.not_false, if_true, if_false, ite_true, ite_false, Bool.false_eq_true, decide_true, decide_false, Bool.or_true, Bool.true_or, Bool.or_false, Bool.false_or, Bool.and_true, Bool.true_and, Bool.and_false, Bool.false_and, decide_eq_true_eq, Nat.reduceAdd, Nat.reduceSub, Nat.zero_add, Function.comp_apply, bop_ii, ii_sub, g, e2', e3', ex], ⟨(kS.trans k2).trans k3⟩, x, rfl, bx⟩) ⟨.refl hs⟩
  have : ∃ l : Row, ys = l.map D.int ∧ Br 5 l := by
    clear e hl
    induction ys with
    | nil => exact ⟨[], rfl, fun _ h => nomatch h⟩
    | cons y ys ih =>
      obtain ⟨l, e, h⟩ := ih fun z hz => hp z (List.mem_cons_of_mem _ hz)
      obtain ⟨x, rfl, hx⟩ := hp y List.mem_cons_self
      refine ⟨x :: l, by rw [e]; rfl, fun z hz => ?_⟩
      rcases List.mem_cons.mp hz with rfl | hz
      · exact hx
      · exact h z hz
  obtain ⟨l, rfl, h⟩ := this
  exact ⟨l, S', e, by simpa using hl, h, kp⟩
end
end K07

set_option linter.all false
set_option maxRecDepth 10000
set_option exponentiation.threshold 10000
namespace K07
open Ln
open Rr (Row gt)
open PySem (PyData Str)
def r_c0 : Sm := match b__law_rows with | .cons _ (.cons (.loop _ _ (.cons _ (.cons _ (.cons c _)))) _) => c | _ => .bad
def r_c1 : Sm := match b__law_rows with | .cons _ (.cons (.loop _ _ (.cons _ (.cons _ (.cons _ (.cons c _))))) _) => c | _ => .bad
def r_c2 : Sm := match b__law_rows with | .cons _ (.cons (.loop _ _ (.cons _ (.cons _ (.cons _ (.cons _ (.cons c _)))))) _) => c | _ => .bad
def r_b : Sms := match b__law_rows with | .cons _ (.cons (.loop _ _ b) _) => b | _ => .nil
section
variable {w k n m N : Nat} {S : Store} {L : List Row}
theorem rows_nil (h : Km n m L S) {M : Nat} (hL : ∀ r ∈ L, Br M r ∧ r.length ≤ 1000) : eqD S (.ref m) (.lst []) = some L.isEmpty := by
  rw [ref_nil h.r fun e he => by
    obtain ⟨r, hr, rfl⟩ := List.mem_map.mp he
    exact (iv_dt (K := 0) (hL r hr).1 (hL r hr).2).dok (by decide)]
  cases L <;> rfl
theorem s_c0 {M : Nat} (h : Km n m L S) (hL : ∀ r ∈ L, r.length = N ∧ Br M r) (hN : N ≤ 1000) (hM : M ≤ 4000) (hl : L.length < 1000) {way : Nat} {fr : Row} (hf : fr.length = N ∧ Br 25 fr) {v1 v2 v4 o7 : Option D} :
    ∃ fr' p7 S', exec (callI prog w (k + 2)) w r_c0 [some (.ref n), v1, v2, some (.ref m), v4, some (.int way), some (iv fr), o7, none, none, none, none] S = .ok (.nx, [some (.ref n), v1, v2, some (.ref m), v4, some (.int way), some (iv fr'), p7, none, none, none, none]) S' ∧ fr'.length = N ∧ Br (max 25 (M + 3)) fr' ∧ (way = 2 → fr' = fr) ∧ Km n m L S' := by
  have q := rows_nil h fun r hr => ⟨(hL r hr).2, by rw [(hL r hr).1]; exact hN⟩
  have same : fr.length = N ∧ Br (max 25 (M + 3)) fr ∧ (way = 2 → fr = fr) ∧ Km n m L S := ⟨hf.1, hf.2.up (by omega), fun _ => rfl, h⟩
  by_cases hw : (way : Int) = 0
  · by_cases h0 : L = []
    · have q' : L.isEmpty = true := by rw [h0]; rfl
      exact ⟨fr, o7, S, by simp only [r_c0, b__law_rows, qOpt, qRet, bnd_ok, bnd_exc, bnd_err, flow_nx, flow_rt, flow_bk, flow_ct, flow_exc, end_nx, end_rt, end_exc, e_var, g_0, g_s, e_cst, e_bin, e_neg, e_not, e_cmp, e_chain, e_and, e_or, e_ite, e_tup, e_lst, e_lstM, e_lstS, e_dct, e_idx, e_slc, e_rev, e_isi, e_fz, e_repM, fz_lst, fz_tup, fz_dct, m_dget, e_blt, e_call, e_mth, m_tindex, m_tcount, e_lc, l_nil, l_cons, l_star, t_nil, t_cons, o_no, o_so, i_seq, i_rng1, i_rng2, i_zip, i_enum, i_enumT, k_enumT, k_neg, k_int, k_seqT, k_seqL, k_seqF, k_starT, k_starL, k_zipT, k_zipL, k_zipM, k_zipM2, k_enum, k_rng, k_rng2, tr_bl, tr_int, tr_tup, tr_lst, s_nil, s_cons, x_expr, x_set, x_setT, x_par, x_setI, x_aug, x_cond, x_loop, x_while, x_ret, x_retN, x_pass, x_brk, x_cont, x_run, b_lenT, b_lenL, b_lenF, b_tupT, b_tupL, b_lstT, b_lstL, b_allL, b_anyL, b_sumL, b_sumT, b_abs, b_max, b_min, b_intI, b_intB, q_ii, q_ss, mapR_some, andR_ite, orR_ite, unpK, parK, augK, setIK, setTg, setAll, wipe, blt, blt0, seqOf, lstOf, cop, bop, intOp, atP, place, Option.map_some, Option.map_none, Option.bind_some, Option.bind_none, eq_self, reduceCtorEq, Int.reduceLE, Int.reduceLT, Int.reduceNeg, Int.reduceEq, Int.reduceToNat, Int.reduceAdd, Int.reduceSub, Nat.reduceLeDiff, reduceIte,  List.flatten_cons, List.flatten_nil, List.length_map, List.map_cons, List.map_nil, List.length_cons, List.length_nil, List.replicate_succ, List.replicate_zero, List.cons_append, List.nil_append, List.append_nil, List.set_cons_zero, List.set_cons_succ, Bool.not_true, Bool.not_false, if_true, if_false, ite_true, ite_false, Bool.false_eq_true, decide_true, decide_false, Bool.or_true, Bool.true_or, Bool.or_false, Bool.false_or, Bool.and_true, Bool.true_and, Bool.and_false, Bool.false_and, decide_eq_true_eq, Nat.reduceAdd, Nat.reduceSub, Nat.zero_add, Function.comp_apply, ix0, ix1, ix2, ixL0, ixL1, ixL2, Int.cast_ofNat_Int, List.all_cons, List.all_nil, id_eq, decide_eq_true hw, q, q'], same⟩
    · have q' : L.isEmpty = false := by cases L with | nil => exact absurd rfl h0 | cons => rfl
      obtain ⟨r, S1, e1, hr, k1⟩ := drawK (w := w) (k := k + 1) hdraw h.s (t := 4) (by decide) (by decide)
      obtain ⟨r0, S2, e2, hr0, k2⟩ := pick_row (w := w) (k := k) (h.kp k1) h0 hl
      obtain ⟨f, ef, bf⟩ : ∃ f : Int, (∀ S, idxD S (.lst [.int 2, .int (-1), .int 3, .int (-6)]) (.int r) = some (.int f)) ∧ Bi 3 f := by
        have sm : ∀ x : Int, x.natAbs < 2 ^ 3 → Bi 3 x := fun x h => h
        match r, hr with
        | 0, _ => exact ⟨2, fun _ => rfl, sm _ (by decide)⟩
        | 1, _ => exact ⟨-1, fun _ => rfl, sm _ (by decide)⟩
        | 2, _ => exact ⟨3, fun _ => rfl, sm _ (by decide)⟩
        | 3, _ => exact ⟨-6, fun _ => rfl, sm _ (by decide)⟩
      have hb := hL r0 hr0
      have e3 : ∀ {a6 : Option D}, lcM (callI prog w (k + 2)) (.bin .mul (.var 7) (.var 9)) (.nm 9) .nil [9] [some (.ref n), v1, v2, some (.ref m), v4, some (.int way), a6, some (.int f), none, none, none, none] (r0.map D.int) S2 = .ok (.lst (r0.map fun x => .int (f * x))) S2 := fun {a6} =>
        lcM_map D.int (fun x => .int (f * x)) r0 fun x hx => ⟨_, rfl, by
          have mm := Bi.mulOk (bf.up (by decide)) ((hb.2 x hx).up (by omega))
          simp only [qOpt, qRet, bnd_ok, bnd_exc, bnd_err, flow_nx, flow_rt, flow_bk, flow_ct, flow_exc, end_nx, end_rt, end_exc, e_var, g_0, g_s, e_cst, e_bin, e_neg, e_not, e_cmp, e_chain, e_and, e_or, e_ite, e_tup, e_lst, e_lstM, e_lstS, e_dct, e_idx, e_slc, e_rev, e_isi, e_fz, e_repM, fz_lst, fz_tup, fz_dct, m_dget, e_blt, e_call, e_mth, m_tindex, m_tcount, e_lc, l_nil, l_cons, l_star, t_nil, t_cons, o_no, o_so, i_seq, i_rng1, i_rng2, i_zip, i_enum, i_enumT, k_enumT, k_neg, k_int, k_seqT, k_seqL, k_seqF, k_starT, k_starL, k_zipT, k_zipL, k_zipM, k_zipM2, k_enum, k_rng, k_rng2, tr_bl, tr_int, tr_tup, tr_lst, s_nil, s_cons, x_expr, x_set, x_setT, x_par, x_setI, x_aug, x_cond, x_loop, x_while, x_ret, x_retN, x_pass, x_brk, x_cont, x_run, b_lenT, b_lenL, b_lenF, b_tupT, b_tupL, b_lstT, b_lstL, b_allL, b_anyL, b_sumL, b_sumT, b_abs, b_max, b_min, b_intI, b_intB, q_ii, q_ss, mapR_some, andR_ite, orR_ite, unpK, parK, augK, setIK, setTg, setAll, wipe, blt, blt0, seqOf, lstOf, cop, bop, intOp, atP, place, Option.map_some, Option.map_none, Option.bind_some, Option.bind_none, eq_self, reduceCtorEq, Int.reduceLE, Int.reduceLT, Int.reduceNeg, Int.reduceEq, Int.reduceToNat, Int.reduceAdd, Int.reduceSub, Nat.reduceLeDiff, reduceIte,  List.flatten_cons, List.flatten_nil, List.length_map, List.map_cons, List.map_nil, List.length_cons, List.length_nil, List.replicate_succ, List.replicate_zero, List.cons_append, List.nil_append, List.append_nil, List.set_cons_zero, List.set_cons_succ, Bool.not_true, Bool.not_false, if_true, if_false, ite_true, ite_false, Bool.false_eq_true, decide_true, decide_false, Bool.or_true, Bool.true_or, Bool.or_false, Bool.false_or, Bool.and_true, Bool.true_and, Bool.and_false, Bool.false_and, decide_eq_true_eq, Nat.reduceAdd, Nat.reduceSub, Nat.zero_add, Function.comp_apply, ix0, ix1, ix2, ixL0, ixL1, ixL2, Int.cast_ofNat_Int, List.all_cons, List.all_nil, id_eq, mm]⟩
      have e1' : callI prog w (k + 2) 14 [.ref n, .int 4] S = .ok (.int r) S1 := e1
      refine ⟨r0.map (f * ·), some (.int f), S2, by simp only [r_c0, b__law_rows, qOpt, qRet, bnd_ok, bnd_exc, bnd_err, flow_nx, flow_rt, flow_bk, flow_ct, flow_exc, end_nx, end_rt, end_exc, e_var, g_0, g_s, e_cst, e_bin, e_neg, e_not, e_cmp, e_chain, e_and, e_or, e_ite, e_tup, e_lst, e_lstM, e_lstS, e_dct, e_idx, e_slc, e_rev, e_isi, e_fz, e_repM, fz_lst, fz_tup, fz_dct, m_dget, e_blt, e_call, e_mth, m_tindex, m_tcount, e_lc, l_nil, l_cons, l_star, t_nil, t_cons, o_no, o_so, i_seq, i_rng1, i_rng2, i_zip, i_enum, i_enumT, k_enumT, k_neg, k_int, k_seqT, k_seqL, k_seqF, k_starT, k_starL, k_zipT, k_zipL, k_zipM, k_zipM2, k_enum, k_rng, k_rng2, tr_bl, tr_int, tr_tup, tr_lst, s_nil, s_cons, x_expr, x_set, x_setT, x_par, x_setI, x_aug, x_cond, x_loop, x_while, x_ret, x_retN, x_pass, x_brk, x_cont, x_run, b_lenT, b_lenL, b_lenF, b_tupT, b_tupL, b_lstT, b_lstL, b_allL, b_anyL, b_sumL, b_sumT, b_abs, b_max, b_min, b_intI, b_intB, q_ii, q_ss, mapR_some, andR_ite, orR_ite, unpK, parK, augK, setIK, setTg, setAll, wipe, blt, blt0, seqOf, lstOf, cop, bop, intOp, atP, place, Option.map_some, Option.map_none, Option.bind_some, Option.bind_none, eq_self, reduceCtorEq, Int.reduceLE, Int.reduceLT, Int.reduceNeg, Int.reduceEq, Int.reduceToNat, Int.reduceAdd, Int.reduceSub, Nat.reduceLeDiff, reduceIte,  List.flatten_cons, List.flatten_nil, List.length_map, List.map_cons, List.map_nil, List.length_cons, List.length_nil, List.replicate_succ, List.replicate_zero, List.cons_append, List.nil_append, List.append_nil, List.set_cons_zero, List.set_cons_succ, Bool.not_true, Bool.not_false, if_true, if_false, ite_true, ite_false, Bool.false_eq_true, decide_true, decide_false, Bool.or_true, Bool.true_or, Bool.or_false, Bool.false_or, Bool.and_true, Bool.true_and, Bool.and_false, Bool.false_and, decide_eq_true_eq, Nat.reduceAdd, Nat.reduceSub, Nat.zero_add, Function.comp_apply, ix0, ix1, ix2, ixL0, ixL1, ixL2, Int.cast_ofNat_Int, List.all_cons, List.all_nil, id_eq, decide_eq_true hw, q, q', e1', ef, e2, e3]; rw [iv, List.map_map]; rfl, by rw [List.length_map]; exact hb.1, fun x hx => ?_, fun z => by omega, (h.kp k1).kp k2⟩
      obtain ⟨y, hy, rfl⟩ := List.mem_map.mp hx
      exact (bf.mul (hb.2 y hy)).up (by omega)
  · exact ⟨fr, o7, S, by simp only [r_c0, b__law_rows, qOpt, qRet, bnd_ok, bnd_exc, bnd_err, flow_nx, flow_rt, flow_bk, flow_ct, flow_exc, end_nx, end_rt, end_exc, e_var, g_0, g_s, e_cst, e_bin, e_neg, e_not, e_cmp, e_chain, e_and, e_or, e_ite, e_tup, e_lst, e_lstM, e_lstS, e_dct, e_idx, e_slc, e_rev, e_isi, e_fz, e_repM, fz_lst, fz_tup, fz_dct, m_dget, e_blt, e_call, e_mth, m_tindex, m_tcount, e_lc, l_nil, l_cons, l_star, t_nil, t_cons, o_no, o_so, i_seq, i_rng1, i_rng2, i_zip, i_enum, i_enumT, k_enumT, k_neg, k_int, k_seqT, k_seqL, k_seqF, k_starT, k_starL, k_zipT, k_zipL, k_zipM, k_zipM2, k_enum, k_rng, k_rng2, tr_bl, tr_int, tr_tup, tr_lst, s_nil, s_cons, x_expr, x_set, x_setT, x_par, x_setI, x_aug, x_cond, x_loop, x_while, x_ret, x_retN, x_pass, x_brk, x_cont, x_run, b_lenT, b_lenL, b_lenF, b_tupT, b_tupL, b_lstT, b_lstL, b_allL, b_anyL, b_sumL, b_sumT, b_abs, b_max, b_min, b_intI, b_intB, q_ii, q_ss, mapR_some, andR_ite, orR_ite, unpK, parK, augK, setIK, setTg, setAll, wipe, blt, blt0, seqOf, lstOf, cop, bop, intOp, atP, place, Option.map_some, Option.map_none, Option.bind_some, Option.bind_none, eq_self, reduceCtorEq, Int.reduceLE, Int.reduceLT, Int.reduceNeg, Int.reduceEq, Int.reduceToNat, Int.reduceAdd, Int.reduceSub, Nat.reduceLeDiff, reduceIte,  List.flatten_cons, List.flatten_nil, List.length_map, List.map_cons, List.map_nil, List.length_cons, List.length_nil, List.replicate_succ, List.replicate_zero, List.cons_append, List.nil_append, List.append_nil, List.set_cons_zero, List.set_cons_succ, Bool.not_true, Bool.not_false, if_true, if_false, ite_true, ite_false, Bool.false_eq_true, decide_true, decide_false, Bool.or_true, Bool.true_or, Bool.or_false, Bool.false_or, Bool.and_true, Bool.true_and, Bool.and_false, Bool.false_and, decide_eq_true_eq, Nat.reduceAdd, Nat.reduceSub, Nat.zero_add, Function.comp_apply, ix0, ix1, ix2, ixL0, ixL1, ixL2, Int.cast_ofNat_Int, List.all_cons, List.all_nil, id_eq, decide_eq_false hw], same⟩
theorem s_c1 {M : Nat} (h : Km n m L S) (hL : ∀ r ∈ L, r.length = N ∧ Br M r) (hN : N ≤ 1000) (hl : L.length < 1000) {way : Nat} {fr : Row} (hf : fr.length = N ∧ Br (max 25 (M + 3)) fr) {v1 v2 v4 v7 : Option D} :
    ∃ fr' S', exec (callI prog w (k + 2)) w r_c1 [some (.ref n), v1, v2, some (.ref m), v4, some (.int way), some (iv fr), v7, none, none, none, none] S = .ok (.nx, [some (.ref n), v1, v2, some (.ref m), v4, some (.int way), some (iv fr'), v7, none, none, none, none]) S' ∧ fr'.length = N ∧ Br (max 25 (M + 3)) fr' ∧ (way = 2 → fr' = fr) ∧ Km n m L S' := by
  have q := rows_nil h fun r hr => ⟨(hL r hr).2, by rw [(hL r hr).1]; exact hN⟩
  have same : fr.length = N ∧ Br (max 25 (M + 3)) fr ∧ (way = 2 → fr = fr) ∧ Km n m L S := ⟨hf.1, hf.2, fun _ => rfl, h⟩
  by_cases hw : (way : Int) = 1
  · by_cases h0 : L = []
    · have q' : L.isEmpty = true := by rw [h0]; rfl
      exact ⟨fr, S, by simp only [r_c1, b__law_rows, qOpt, qRet, bnd_ok, bnd_exc, bnd_err, flow_nx, flow_rt, flow_bk, flow_ct, flow_exc, end_nx, end_rt, end_exc, e_var, g_0, g_s, e_cst, e_bin, e_neg, e_not, e_cmp, e_chain, e_and, e_or, e_ite, e_tup, e_lst, e_lstM, e_lstS, e_dct, e_idx, e_slc, e_rev, e_isi, e_fz, e_repM, fz_lst, fz_tup, fz_dct, m_dget, e_blt, e_call, e_mth, m_tindex, m_tcount, e_lc, l_nil, l_cons, l_star, t_nil, t_cons, o_no, o_so, i_seq, i_rng1, i_rng2, i_zip, i_enum, i_enumT, k_enumT, k_neg, k_int, k_seqT, k_seqL, k_seqF, k_starT, k_starL, k_zipT, k_zipL, k_zipM, k_zipM2, k_enum, k_rng, k_rng2, tr_bl, tr_int, tr_tup, tr_lst, s_nil, s_cons, x_expr, x_set, x_setT, x_par, x_setI, x_aug, x_cond, x_loop, x_while, x_ret, x_retN, x_pass, x_brk, x_cont, x_run, b_lenT, b_lenL, b_lenF, b_tupT, b_tupL, b_lstT, b_lstL, b_allL, b_anyL, b_sumL, b_sumT, b_abs, b_max, b_min, b_intI, b_intB, q_ii, q_ss, mapR_some, andR_ite, orR_ite, unpK, parK, augK, setIK, setTg, setAll, wipe, blt, blt0, seqOf, lstOf, cop, bop, intOp, atP, place, Option.map_some, Option.map_none, Option.bind_some, Option.bind_none, eq_self, reduceCtorEq, Int.reduceLE, Int.reduceLT, Int.reduceNeg, Int.reduceEq, Int.reduceToNat, Int.reduceAdd, Int.reduceSub, Nat.reduceLeDiff, reduceIte,  List.flatten_cons, List.flatten_nil, List.length_map, List.map_cons, List.map_nil, List.length_cons, List.length_nil, List.replicate_succ, List.replicate_zero, List.cons_append, List.nil_append, List.append_nil, List.set_cons_zero, List.set_cons_succ, Bool.not_true, Bool.not_false, if_true, if_false, ite_true, ite_false, Bool.false_eq_true, decide_true, decide_false, Bool.or_true, Bool.true_or, Bool.or_false, Bool.false_or, Bool.and_true, Bool.true_and, Bool.and_false, Bool.false_and, decide_eq_true_eq, Nat.reduceAdd, Nat.reduceSub, Nat.zero_add, Function.comp_apply, ix0, ix1, ix2, ixL0, ixL1, ixL2, Int.cast_ofNat_Int, List.all_cons, List.all_nil, id_eq, decide_eq_true hw, q, q'], same⟩
    · have q' : L.isEmpty = false := by cases L with | nil => exact absurd rfl h0 | cons => rfl
      obtain ⟨r, S1, e1, hr, k1⟩ := pick_row (w := w) (k := k) h h0 hl
      obtain ⟨s, S2, e2, hs, k2⟩ := pick_row (w := w) (k := k) (h.kp k1) h0 hl
      have hb := hL r hr
      have hc := hL s hs
      have e3 : ∀ {a6 : Option D}, lcM (callI prog w (k + 2)) (.bin .add (.var 10) (.var 11)) (.tp [10, 11]) .nil [10, 11] [some (.ref n), v1, v2, some (.ref m), v4, some (.int way), a6, v7, none, none, none, none] ((r.zip s).map fun q => D.wtp [.int q.1, .int q.2]) S2 = .ok (.lst ((r.zip s).map fun q => .int (q.1 + q.2))) S2 := fun {a6} =>
        lcM_map (fun q : Int × Int => D.wtp [.int q.1, .int q.2]) (fun q => .int (q.1 + q.2)) (r.zip s) fun x hx => ⟨_, rfl, by simp only [qOpt, qRet, bnd_ok, bnd_exc, bnd_err, flow_nx, flow_rt, flow_bk, flow_ct, flow_exc, end_nx, end_rt, end_exc, e_var, g_0, g_s, e_cst, e_bin, e_neg, e_not, e_cmp, e_chain, e_and, e_or, e_ite, e_tup, e_lst, e_lstM, e_lstS, e_dct, e_idx, e_slc, e_rev, e_isi, e_fz, e_repM, fz_lst, fz_tup, fz_dct, m_dget, e_blt, e_call, e_mth, m_tindex, m_tcount, e_lc, l_nil, l_cons, l_star, t_nil, t_cons, o_no, o_so, i_seq, i_rng1, i_rng2, i_zip, i_enum, i_enumT, k_enumT, k_neg, k_int, k_seqT, k_seqL, k_seqF, k_starT, k_starL, k_zipT, k_zipL, k_zipM, k_zipM2, k_enum, k_rng, k_rng2, tr_bl, tr_int, tr_tup, tr_lst, s_nil, s_cons, x_expr, x_set, x_setT, x_par, x_setI, x_aug, x_cond, x_loop, x_while, x_ret, x_retN, x_pass, x_brk, x_cont, x_run, b_lenT, b_lenL, b_lenF, b_tupT, b_tupL, b_lstT, b_lstL, b_allL, b_anyL, b_sumL, b_sumT, b_abs, b_max, b_min, b_intI, b_intB, q_ii, q_ss, mapR_some, andR_ite, orR_ite, unpK, parK, augK, setIK, setTg, setAll, wipe, blt, blt0, seqOf, lstOf, cop, bop, intOp, atP, place, Option.map_some, Option.map_none, Option.bind_some, Option.bind_none, eq_self, reduceCtorEq, Int.reduceLE, Int.reduceLT, Int.reduceNeg, Int.reduceEq, Int.reduceToNat, Int.reduceAdd, Int.reduceSub, Nat.reduceLeDiff, reduceIte,  List.flatten_cons, List.flatten_nil, List.length_map, List.map_cons, List.map_nil, List.length_cons, List.length_nil, List.replicate_succ, List.replicate_zero, List.cons_append, List.nil_append, List.append_nil, List.set_cons_zero, List.set_cons_succ, Bool.not_true, Bool.not_false, if_true, if_false, ite_true, ite_false, Bool.false_eq_true, decide_true, decide_false, Bool.or_true, Bool.true_or, Bool.or_false, Bool.false_or, Bool.and_true, Bool.true_and, Bool.and_false, Bool.false_and, decide_eq_true_eq, Nat.reduceAdd, Nat.reduceSub, Nat.zero_add, Function.comp_apply, ix0, ix1, ix2, ixL0, ixL1, ixL2, Int.cast_ofNat_Int, List.all_cons, List.all_nil, id_eq]⟩
      refine ⟨List.zipWith (· + ·) r s, S2, ?_, by rw [List.length_zipWith, hb.1, hc.1]; simp, fun x hx => ?_, fun z => by omega, (h.kp k1).kp k2⟩
      · simp only [r_c1, b__law_rows, qOpt, qRet, bnd_ok, bnd_exc, bnd_err, flow_nx, flow_rt, flow_bk, flow_ct, flow_exc, end_nx, end_rt, end_exc, e_var, g_0, g_s, e_cst, e_bin, e_neg, e_not, e_cmp, e_chain, e_and, e_or, e_ite, e_tup, e_lst, e_lstM, e_lstS, e_dct, e_idx, e_slc, e_rev, e_isi, e_fz, e_repM, fz_lst, fz_tup, fz_dct, m_dget, e_blt, e_call, e_mth, m_tindex, m_tcount, e_lc, l_nil, l_cons, l_star, t_nil, t_cons, o_no, o_so, i_seq, i_rng1, i_rng2, i_zip, i_enum, i_enumT, k_enumT, k_neg, k_int, k_seqT, k_seqL, k_seqF, k_starT, k_starL, k_zipT, k_zipL, k_zipM, k_zipM2, k_enum, k_rng, k_rng2, tr_bl, tr_int, tr_tup, tr_lst, s_nil, s_cons, x_expr, x_set, x_setT, x_par, x_setI, x_aug, x_cond, x_loop, x_while, x_ret, x_retN, x_pass, x_brk, x_cont, x_run, b_lenT, b_lenL, b_lenF, b_tupT, b_tupL, b_lstT, b_lstL, b_allL, b_anyL, b_sumL, b_sumT, b_abs, b_max, b_min, b_intI, b_intB, q_ii, q_ss, mapR_some, andR_ite, orR_ite, unpK, parK, augK, setIK, setTg, setAll, wipe, blt, blt0, seqOf, lstOf, cop, bop, intOp, atP, place, Option.map_some, Option.map_none, Option.bind_some, Option.bind_none, eq_self, reduceCtorEq, Int.reduceLE, Int.reduceLT, Int.reduceNeg, Int.reduceEq, Int.reduceToNat, Int.reduceAdd, Int.reduceSub, Nat.reduceLeDiff, reduceIte,  List.flatten_cons, List.flatten_nil, List.length_map, List.map_cons, List.map_nil, List.length_cons, List.length_nil, List.replicate_succ, List.replicate_zero, List.cons_append, List.nil_append, List.append_nil, List.set_cons_zero, List.set_cons_succ, Bool.not_true, Bool.not_false, if_true, if_false, ite_true, ite_false, Bool.false_eq_true, decide_true, decide_false, Bool.or_true, Bool.true_or, Bool.or_false, Bool.false_or, Bool.and_true, Bool.true_and, Bool.and_false, Bool.false_and, decide_eq_true_eq, Nat.reduceAdd, Nat.reduceSub, Nat.zero_add, Function.comp_apply, ix0, ix1, ix2, ixL0, ixL1, ixL2, Int.cast_ofNat_Int, List.all_cons, List.all_nil, id_eq, decide_eq_true hw, q, q', e1, e2, pairs_map, e3]
        rw [zip_ints (fun x y => x + y)]
      · obtain ⟨i, hi, rfl⟩ := List.getElem_of_mem hx
        rw [List.getElem_zipWith]
        exact ((hb.2 _ (List.getElem_mem (by rw [List.length_zipWith] at hi; omega))).add (hc.2 _ (List.getElem_mem (by rw [List.length_zipWith] at hi; omega)))).up (by omega)
  · exact ⟨fr, S, by simp only [r_c1, b__law_rows, qOpt, qRet, bnd_ok, bnd_exc, bnd_err, flow_nx, flow_rt, flow_bk, flow_ct, flow_exc, end_nx, end_rt, end_exc, e_var, g_0, g_s, e_cst, e_bin, e_neg, e_not, e_cmp, e_chain, e_and, e_or, e_ite, e_tup, e_lst, e_lstM, e_lstS, e_dct, e_idx, e_slc, e_rev, e_isi, e_fz, e_repM, fz_lst, fz_tup, fz_dct, m_dget, e_blt, e_call, e_mth, m_tindex, m_tcount, e_lc, l_nil, l_cons, l_star, t_nil, t_cons, o_no, o_so, i_seq, i_rng1, i_rng2, i_zip, i_enum, i_enumT, k_enumT, k_neg, k_int, k_seqT, k_seqL, k_seqF, k_starT, k_starL, k_zipT, k_zipL, k_zipM, k_zipM2, k_enum, k_rng, k_rng2, tr_bl, tr_int, tr_tup, tr_lst, s_nil, s_cons, x_expr, x_set, x_setT, x_par, x_setI, x_aug, x_cond, x_loop, x_while, x_ret, x_retN, x_pass, x_brk, x_cont, x_run, b_lenT, b_lenL, b_lenF, b_tupT, b_tupL, b_lstT, b_lstL, b_allL, b_anyL, b_sumL, b_sumT, b_abs, b_max, b_min, b_intI, b_intB, q_ii, q_ss, mapR_some, andR_ite, orR_ite, unpK, parK, augK, setIK, setTg, setAll, wipe, blt, blt0, seqOf, lstOf, cop, bop, intOp, atP, place, Option.map_some, Option.map_none, Option.bind_some, Option.bind_none, eq_self, reduceCtorEq, Int.reduceLE, Int.reduceLT, Int.reduceNeg, Int.reduceEq, Int.reduceToNat, Int.reduceAdd, Int.reduceSub, Nat.reduceLeDiff, reduceIte,  List.flatten_cons, List.flatten_nil, List.length_map, List.map_cons, List.map_nil, List.length_cons, List.length_nil, List.replicate_succ, List.replicate_zero, List.cons_append, List.nil_append, List.append_nil, List.set_cons_zero, List.set_cons_succ, Bool.not_true, Bool.not_false, if_true, if_false, ite_true, ite_false, Bool.false_eq_true, decide_true, decide_false, Bool.or_true, Bool.true_or, Bool.or_false, Bool.false_or, Bool.and_true, Bool.true_and, Bool.and_false, Bool.false_and, decide_eq_true_eq, Nat.reduceAdd, Nat.reduceSub, Nat.zero_add, Function.comp_apply, ix0, ix1, ix2, ixL0, ixL1, ixL2, Int.cast_ofNat_Int, List.all_cons, List.all_nil, id_eq, decide_eq_false hw], same⟩
theorem s_c2 {M : Nat} (h : Km n m L S) {way : Nat} {fr : Row} (hf : fr.length = N ∧ Br M fr) (h2 : way = 2 → Br 5 fr) (hM : 25 ≤ M) {v1 v2 v4 v7 : Option D} :
    ∃ fr' S', exec (callI prog w (k + 2)) w r_c2 [some (.ref n), v1, v2, some (.ref m), v4, some (.int way), some (iv fr), v7, none, none, none, none] S = .ok (.nx, [some (.ref n), v1, v2, some (.ref m), v4, some (.int way), some (iv fr'), v7, none, none, none, none]) S' ∧ fr'.length = N ∧ Br M fr' ∧ Km n m L S' := by
  by_cases hw : (way : Int) = 2
  · have hb := h2 (by omega)
    have p6 : powOk 10 6 = true := by decide +kernel
    obtain ⟨ys, S', e, hk, hp⟩ : ∃ (ys : Row) (S' : Store), lcM (callI prog w (k + 2)) (.bin .mul (.var 9) (.idx (.lst (.cons (.cst (.int 1)) (.cons (.bin .pow (.cst (.int 10)) (.cst (.int 6))) .nil))) (.call 14 (.cons (.var 0) (.cons (.cst (.int 2)) .nil))))) (.nm 9) .nil [9] [some (.ref n), v1, v2, some (.ref m), v4, some (.int way), some (iv fr), v7, none, none, none, none] (fr.map D.int) S = .ok (.lst (ys.map D.int)) S' ∧ Km n m L S' ∧ ys.length = fr.length ∧ Br 25 ys := by
      obtain ⟨ys, S', e, hk, hl, hp⟩ := lcM_inv (cf := callI prog w (k + 2)) (ρ := [some (.ref n), v1, v2, some (.ref m), v4, some (.int way), some (iv fr), v7, none, none, none, none]) (S := S) (elt := .bin .mul (.var 9) (.idx (.lst (.cons (.cst (.int 1)) (.cons (.bin .pow (.cst (.int 10)) (.cst (.int 6))) .nil))) (.call 14 (.cons (.var 0) (.cons (.cst (.int 2)) .nil))))) (tg := .nm 9) (own := [9]) D.int (fun S' => Km n m L S') (fun y => ∃ x, y = .int x ∧ Bi 25 x) fr (fun a ha S1 hS => by
        obtain ⟨r, S2, e2, hr, k2⟩ := drawK (w := w) (k := k + 1) hdraw hS.s (t := 2) (by decide) (by decide)
        have e2' : callI prog w (k + 2) 14 [.ref n, .int 2] S1 = .ok (.int r) S2 := e2
        obtain ⟨f, ef, bf⟩ : ∃ f : Int, (∀ S, idxD S (.lst [.int 1, .int (10 ^ 6)]) (.int r) = some (.int f)) ∧ Bi 20 f := by
          have sm : ∀ x : Int, x.natAbs < 2 ^ 20 → Bi 20 x := fun x h => h
          match r, hr with
          | 0, _ => exact ⟨1, fun _ => rfl, sm _ (by decide)⟩
          | 1, _ => exact ⟨10 ^ 6, fun _ => rfl, sm _ (by decide)⟩
        have mm := Bi.mulOk ((hb a ha).up (by decide)) (bf.up (by decide))
        exact ⟨_, .int (a * f), S2, rfl, by simp only [qOpt, qRet, bnd_ok, bnd_exc, bnd_err, flow_nx, flow_rt, flow_bk, flow_ct, flow_exc, end_nx, end_rt, end_exc, e_var, g_0, g_s, e_cst, e_bin, e_neg, e_not, e_cmp, e_chain, e_and, e_or, e_ite, e_tup, e_lst, e_lstM, e_lstS, e_dct, e_idx, e_slc, e_rev, e_isi, e_fz, e_repM, fz_lst, fz_tup, fz_dct, m_dget, e_blt, e_call, e_mth, m_tindex, m_tcount, e_lc, l_nil, l_cons, l_star, t_nil, t_cons, o_no, o_so, i_seq, i_rng1, i_rng2, i_zip, i_enum, i_enumT, k_enumT, k_neg, k_int, k_seqT, k_seqL, k_seqF, k_starT, k_starL, k_zipT, k_zipL, k_zipM, k_zipM2, k_enum, k_rng, k_rng2, tr_bl, tr_int, tr_tup, tr_lst, s_nil, s_cons, x_expr, x_set, x_setT, x_par, x_setI, x_aug, x_cond, x_loop, x_while, x_ret, x_retN, x_pass, x_brk, x_cont, x_run, b_lenT, b_lenL, b_lenF, b_tupT, b_tupL, b_lstT, b_lstL, b_allL, b_anyL, b_sumL, b_sumT, b_abs, b_max, b_min, b_intI, b_intB, q_ii, q_ss, mapR_some, andR_ite, orR_ite, unpK, parK, augK, setIK, setTg, setAll, wipe, blt, blt0, seqOf, lstOf, cop, isiD, tyOf, atP, place, Option.map_some, Option.map_none, Option.bind_some, Option.bind_none, eq_self, reduceCtorEq, Int.reduceLE, Int.reduceLT, Int.reduceNeg, Int.reduceEq, Int.reduceToNat, Int.reduceAdd, Int.reduceSub, Nat.reduceLeDiff, reduceIte,  List.flatten_cons, List.flatten_nil, List.length_map, List.map_cons, List.map_nil, List.length_cons, List.length_nil, List.replicate_succ, List.replicate_zero, List.cons_append, List.nil_append, List.append_nil, List.set_cons_zero, List.set_cons_succ, Bool.not_true, Bool.not_false, if_true, if_false, ite_true, ite_false, Bool.false_eq_true, decide_true, decide_false, Bool.or_true, Bool.true_or, Bool.or_false, Bool.false_or, Bool.and_true, Bool.true_and, Bool.and_false, Bool.false_and, decide_eq_true_eq, Nat.reduceAdd, Nat.reduceSub, Nat.zero_add, Function.comp_apply, bop_ii, ii_mul, ii_pow, p6, e2', ef, mm], hS.kp k2, _, rfl, ((hb a ha).mul bf).up (by decide)⟩) h
      have : ∃ l : Row, ys = l.map D.int ∧ Br 25 l := by
        clear e hl
        induction ys with
        | nil => exact ⟨[], rfl, fun _ h => nomatch h⟩
        | cons y ys ih =>
          obtain ⟨l, e, h⟩ := ih fun z hz => hp z (List.mem_cons_of_mem _ hz)
          obtain ⟨x, rfl, hx⟩ := hp y List.mem_cons_self
          refine ⟨x :: l, by rw [e]; rfl, fun z hz => ?_⟩
          rcases List.mem_cons.mp hz with rfl | hz
          · exact hx
          · exact h z hz
      obtain ⟨l, rfl, hb'⟩ := this
      exact ⟨l, S', e, hk, by simpa using hl, hb'⟩
    exact ⟨ys, S', by simp only [r_c2, b__law_rows, qOpt, qRet, bnd_ok, bnd_exc, bnd_err, flow_nx, flow_rt, flow_bk, flow_ct, flow_exc, end_nx, end_rt, end_exc, e_var, g_0, g_s, e_cst, e_bin, e_neg, e_not, e_cmp, e_chain, e_and, e_or, e_ite, e_tup, e_lst, e_lstM, e_lstS, e_dct, e_idx, e_slc, e_rev, e_isi, e_fz, e_repM, fz_lst, fz_tup, fz_dct, m_dget, e_blt, e_call, e_mth, m_tindex, m_tcount, e_lc, l_nil, l_cons, l_star, t_nil, t_cons, o_no, o_so, i_seq, i_rng1, i_rng2, i_zip, i_enum, i_enumT, k_enumT, k_neg, k_int, k_seqT, k_seqL, k_seqF, k_starT, k_starL, k_zipT, k_zipL, k_zipM, k_zipM2, k_enum, k_rng, k_rng2, tr_bl, tr_int, tr_tup, tr_lst, s_nil, s_cons, x_expr, x_set, x_setT, x_par, x_setI, x_aug, x_cond, x_loop, x_while, x_ret, x_retN, x_pass, x_brk, x_cont, x_run, b_lenT, b_lenL, b_lenF, b_tupT, b_tupL, b_lstT, b_lstL, b_allL, b_anyL, b_sumL, b_sumT, b_abs, b_max, b_min, b_intI, b_intB, q_ii, q_ss, mapR_some, andR_ite, orR_ite, unpK, parK, augK, setIK, setTg, setAll, wipe, blt, blt0, seqOf, lstOf, cop, bop, intOp, atP, place, Option.map_some, Option.map_none, Option.bind_some, Option.bind_none, eq_self, reduceCtorEq, Int.reduceLE, Int.reduceLT, Int.reduceNeg, Int.reduceEq, Int.reduceToNat, Int.reduceAdd, Int.reduceSub, Nat.reduceLeDiff, reduceIte,  List.flatten_cons, List.flatten_nil, List.length_map, List.map_cons, List.map_nil, List.length_cons, List.length_nil, List.replicate_succ, List.replicate_zero, List.cons_append, List.nil_append, List.append_nil, List.set_cons_zero, List.set_cons_succ, Bool.not_true, Bool.not_false, if_true, if_false, ite_true, ite_false, Bool.false_eq_true, decide_true, decide_false, Bool.or_true, Bool.true_or, Bool.or_false, Bool.false_or, Bool.and_true, Bool.true_and, Bool.and_false, Bool.false_and, decide_eq_true_eq, Nat.reduceAdd, Nat.reduceSub, Nat.zero_add, Function.comp_apply, ix0, ix1, ix2, ixL0, ixL1, ixL2, Int.cast_ofNat_Int, List.all_cons, List.all_nil, id_eq, decide_eq_true hw, e], hp.1.trans hf.1, hp.2.up hM, hk⟩
  · exact ⟨fr, S, by simp only [r_c2, b__law_rows, qOpt, qRet, bnd_ok, bnd_exc, bnd_err, flow_nx, flow_rt, flow_bk, flow_ct, flow_exc, end_nx, end_rt, end_exc, e_var, g_0, g_s, e_cst, e_bin, e_neg, e_not, e_cmp, e_chain, e_and, e_or, e_ite, e_tup, e_lst, e_lstM, e_lstS, e_dct, e_idx, e_slc, e_rev, e_isi, e_fz, e_repM, fz_lst, fz_tup, fz_dct, m_dget, e_blt, e_call, e_mth, m_tindex, m_tcount, e_lc, l_nil, l_cons, l_star, t_nil, t_cons, o_no, o_so, i_seq, i_rng1, i_rng2, i_zip, i_enum, i_enumT, k_enumT, k_neg, k_int, k_seqT, k_seqL, k_seqF, k_starT, k_starL, k_zipT, k_zipL, k_zipM, k_zipM2, k_enum, k_rng, k_rng2, tr_bl, tr_int, tr_tup, tr_lst, s_nil, s_cons, x_expr, x_set, x_setT, x_par, x_setI, x_aug, x_cond, x_loop, x_while, x_ret, x_retN, x_pass, x_brk, x_cont, x_run, b_lenT, b_lenL, b_lenF, b_tupT, b_tupL, b_lstT, b_lstL, b_allL, b_anyL, b_sumL, b_sumT, b_abs, b_max, b_min, b_intI, b_intB, q_ii, q_ss, mapR_some, andR_ite, orR_ite, unpK, parK, augK, setIK, setTg, setAll, wipe, blt, blt0, seqOf, lstOf, cop, bop, intOp, atP, place, Option.map_some, Option.map_none, Option.bind_some, Option.bind_none, eq_self, reduceCtorEq, Int.reduceLE, Int.reduceLT, Int.reduceNeg, Int.reduceEq, Int.reduceToNat, Int.reduceAdd, Int.reduceSub, Nat.reduceLeDiff, reduceIte,  List.flatten_cons, List.flatten_nil, List.length_map, List.map_cons, List.map_nil, List.length_cons, List.length_nil, List.replicate_succ, List.replicate_zero, List.cons_append, List.nil_append, List.append_nil, List.set_cons_zero, List.set_cons_succ, Bool.not_true, Bool.not_false, if_true, if_false, ite_true, ite_false, Bool.false_eq_true, decide_true, decide_false, Bool.or_true, Bool.true_or, Bool.or_false, Bool.false_or, Bool.and_true, Bool.true_and, Bool.and_false, Bool.false_and, decide_eq_true_eq, Nat.reduceAdd, Nat.reduceSub, Nat.zero_add, Function.comp_apply, ix0, ix1, ix2, ixL0, ixL1, ixL2, Int.cast_ofNat_Int, List.all_cons, List.all_nil, id_eq, decide_eq_false hw], hf.1, hf.2, h⟩
theorem s_rturn {M : Nat} (h : Km n m L S) (hL : ∀ r ∈ L, r.length = N ∧ Br M r) (hN : N ≤ 60) (hM : M ≤ 1000) (hM2 : 25 ≤ M) (hl : L.length < 1000) {v1 v4 o5 o6 o7 : Option D} :
    ∃ fr p5 p6 p7 S', execs (callI prog w (k + 2)) w r_b [some (.ref n), v1, some (.int N), some (.ref m), v4, o5, o6, o7, none, none, none, none] S = .ok (.nx, [some (.ref n), v1, some (.int N), some (.ref m), v4, p5, p6, p7, none, none, none, none]) S' ∧ fr.length = N ∧ Br (M + 3) fr ∧ Km n m (L ++ [fr]) S' := by
  obtain ⟨way, S1, e1, hw, k1⟩ := drawK (w := w) (k := k + 1) hdraw h.s (t := 6) (by decide) (by decide)
  obtain ⟨fr, S2, e2, hf, hb, k2⟩ := s_fresh (w := w) (k := k + 1) (N := N) (ρ := [some (.ref n), v1, some (.int N), some (.ref m), v4, some (.int way), o6, o7, none, none, none, none]) rfl rfl k1.s
  obtain ⟨fr1, p7, S3, e3, l3, b3, w3, h3⟩ := s_c0 (w := w) (k := k) ((h.kp k1).kp k2) hL (by omega) (by omega) hl (way := way) ⟨hf, hb.up (by decide)⟩ (v1 := v1) (v2 := some (.int N)) (v4 := v4) (o7 := o7)
  obtain ⟨fr2, S4, e4, l4, b4, w4, h4⟩ := s_c1 (w := w) (k := k) (M := M) h3 hL (by omega) hl (way := way) ⟨l3, b3⟩ (v1 := v1) (v2 := some (.int N)) (v4 := v4) (v7 := p7)
  obtain ⟨fr3, S5, e5, l5, b5, h5⟩ := s_c2 (w := w) (k := k) (M := max 25 (M + 3)) h4 (way := way) ⟨l4, b4⟩ (fun z => by rw [w4 z, w3 z]; exact hb) (by omega) (v1 := v1) (v2 := some (.int N)) (v4 := v4) (v7 := p7)
  have e1' : callI prog w (k + 2) 14 [.ref n, .int 6] S = .ok (.int way) S1 := e1
  have ap := m_appendR (x := iv fr3) h5.r (by rw [List.length_map]; have := lineB (n := L.length + 1) (by omega); omega)
  have lt := (List.getElem?_eq_some_iff.mp h5.r).1
  refine ⟨fr3, some (.int way), some (iv fr3), p7, S5.set m (.lst (L.map iv ++ [iv fr3])), ?_, l5, b5.up (by omega), ?_, ?_, h5.ne⟩
  · have hb : r_b = .cons (.set 5 (.call 14 (.cons (.var 0) (.cons (.cst (.int 6)) .nil)))) (.cons (.set 6 (.blt .tuple (.cons (.lc (.idx (.lst (.cons (.cst (.int 0)) (.cons (.cst (.int 0)) (.cons (.cst (.int 1)) (.cons (.neg (.cst (.int 1))) (.cons (.cst (.int 2)) (.cons (.neg (.cst (.int 3))) (.cons (.cst (.int 4)) (.cons (.bin .sub (.call 14 (.cons (.var 0) (.cons (.cst (.int 40)) .nil))) (.cst (.int 20))) .nil))))))))) (.call 14 (.cons (.var 0) (.cons (.cst (.int 8)) .nil)))) (.nm 8) (.rng1 (.var 2)) .nil [8]) .nil))) (.cons r_c0 (.cons r_c1 (.cons r_c2 (.cons (.expr (.mth .append (.var 3) (.cons (.var 6) .nil))) .nil))))) := rfl
    rw [hb]
    simp only [qOpt, qRet, bnd_ok, bnd_exc, bnd_err, flow_nx, flow_rt, flow_bk, flow_ct, flow_exc, end_nx, end_rt, end_exc, e_var, g_0, g_s, e_cst, e_bin, e_neg, e_not, e_cmp, e_chain, e_and, e_or, e_ite, e_tup, e_lst, e_lstM, e_lstS, e_dct, e_idx, e_slc, e_rev, e_isi, e_fz, e_repM, fz_lst, fz_tup, fz_dct, m_dget, e_blt, e_call, e_mth, m_tindex, m_tcount, e_lc, l_nil, l_cons, l_star, t_nil, t_cons, o_no, o_so, i_seq, i_rng1, i_rng2, i_zip, i_enum, i_enumT, k_enumT, k_neg, k_int, k_seqT, k_seqL, k_seqF, k_starT, k_starL, k_zipT, k_zipL, k_zipM, k_zipM2, k_enum, k_rng, k_rng2, tr_bl, tr_int, tr_tup, tr_lst, s_nil, s_cons, x_expr, x_set, x_setT, x_par, x_setI, x_aug, x_cond, x_loop, x_while, x_ret, x_retN, x_pass, x_brk, x_cont, x_run, b_lenT, b_lenL, b_lenF, b_tupT, b_tupL, b_lstT, b_lstL, b_allL, b_anyL, b_sumL, b_sumT, b_abs, b_max, b_min, b_intI, b_intB, q_ii, q_ss, mapR_some, andR_ite, orR_ite, unpK, parK, augK, setIK, setTg, setAll, wipe, blt, blt0, seqOf, lstOf, cop, bop, intOp, atP, place, Option.map_some, Option.map_none, Option.bind_some, Option.bind_none, eq_self, reduceCtorEq, Int.reduceLE, Int.reduceLT, Int.reduceNeg, Int.reduceEq, Int.reduceToNat, Int.reduceAdd, Int.reduceSub, Nat.reduceLeDiff, reduceIte,  List.flatten_cons, List.flatten_nil, List.length_map, List.map_cons, List.map_nil, List.length_cons, List.length_nil, List.replicate_succ, List.replicate_zero, List.cons_append, List.nil_append, List.append_nil, List.set_cons_zero, List.set_cons_succ, Bool.not_true, Bool.not_false, if_true, if_false, ite_true, ite_false, Bool.false_eq_true, decide_true, decide_false, Bool.or_true, Bool.true_or, Bool.or_false, Bool.false_or, Bool.and_true, Bool.true_and, Bool.and_false, Bool.false_and, decide_eq_true_eq, Nat.reduceAdd, Nat.reduceSub, Nat.zero_add, Function.comp_apply, ix0, ix1, ix2, ixL0, ixL1, ixL2, Int.cast_ofNat_Int, List.all_cons, List.all_nil, id_eq, e1', k_rng (n := N) (lineB (by omega)), e2, e3, e4, e5, m_append h5.r, ap]
  · obtain ⟨a, b, c, e⟩ := h5.s
    exact ⟨a, b, c, by rw [List.getElem?_set_ne h5.ne.symm]; exact e⟩
  · rw [List.getElem?_set_self lt, List.map_append]; rfl
theorem rows_loop (hN : N ≤ 60) {v1 : Option D} : ∀ (is : List Nat) (L : List Row) (M : Nat) (S : Store) (o4 o5 o6 o7 : Option D), Km n m L S → (∀ r ∈ L, r.length = N ∧ Br M r) → 25 ≤ M → M + 3 * is.length ≤ 1000 → L.length + is.length < 1000 →
    ∃ L' p4 p5 p6 p7 S', loopM (callI prog w (k + 2)) w (.nm 4) r_b (is.map fun (i : Nat) => D.int (i : Int)) [some (.ref n), v1, some (.int N), some (.ref m), o4, o5, o6, o7, none, none, none, none] S = .ok (.nx, [some (.ref n), v1, some (.int N), some (.ref m), p4, p5, p6, p7, none, none, none, none]) S' ∧ Km n m L' S' ∧ L'.length = L.length + is.length ∧ ∀ r ∈ L', r.length = N ∧ Br (M + 3 * is.length) r
  | [], L, M, S, o4, o5, o6, o7, h, hL, _, _, _ => ⟨L, o4, o5, o6, o7, S, rfl, h, rfl, hL⟩
  | i :: is, L, M, S, o4, o5, o6, o7, h, hL, h25, hM, hl => by
    rw [List.length_cons] at hM hl
    obtain ⟨fr, p5, p6, p7, S1, e1, l1, b1, h1⟩ := s_rturn (w := w) (k := k) h hL hN (by omega) h25 (by omega) (v1 := v1) (v4 := some (.int i)) (o5 := o5) (o6 := o6) (o7 := o7)
    obtain ⟨L', q4, q5, q6, q7, S2, e2, h2, l2, b2⟩ := rows_loop hN (v1 := v1) is (L ++ [fr]) (M + 3) S1 (some (.int i)) p5 p6 p7 h1 (fun r hr => by
      rcases List.mem_append.mp hr with hr | hr
      · exact ⟨(hL r hr).1, (hL r hr).2.up (by omega)⟩
      · rw [List.mem_singleton.mp hr]; exact ⟨l1, b1⟩) (by omega) (by omega) (by rw [List.length_append, List.length_singleton]; omega)
    refine ⟨L', q4, q5, q6, q7, S2, (loopM_nx (ρ1 := [some (.ref n), v1, some (.int N), some (.ref m), some (.int i), o5, o6, o7, none, none, none, none]) rfl e1).trans e2, h2, ?_, fun r hr => ⟨(b2 r hr).1, (b2 r hr).2.up (by rw [List.length_cons]; omega)⟩⟩
    rw [l2, List.length_append, List.length_singleton, List.length_cons]; omega
/-- rows are drawn -/
theorem s_rows {many : Nat} (hs : Strm n S) (hm : many ≤ 4) (hN : N ≤ 5) : ∃ (L : List Row) (S' : Store), callI prog w (k + 3) 18 [.ref n, .int many, .int N] S = .ok (rv L) S' ∧ L.length = many ∧ (∀ r ∈ L, r.length = N ∧ Br 37 r) ∧ Strm n S' := by
  have hn : n < S.length := by obtain ⟨_, _, _, e⟩ := hs; exact (List.getElem?_eq_some_iff.mp e).1
  have hk : Km n S.length [] (S ++ [.lst []]) := ⟨by obtain ⟨a, b, c, e⟩ := hs; exact ⟨a, b, c, by rw [List.getElem?_append_left hn]; exact e⟩, by rw [List.getElem?_append_right (Nat.le_refl _), Nat.sub_self]; rfl, by omega⟩
  obtain ⟨L, p4, p5, p6, p7, S', e, h, hl, hb⟩ := rows_loop (w := w) (k := k) (n := n) (m := S.length) (N := N) (by omega) (v1 := some (.int many)) (List.range many) [] 25 (S ++ [.lst []]) none none none none hk (fun _ h => nomatch h) (Nat.le_refl _) (by simp; omega) (by simp; omega)
  refine ⟨L, S', ?_, by simpa using hl, fun r hr => ⟨(hb r hr).1, (hb r hr).2.up (by simp; omega)⟩, h.s⟩
  have tb : tupleF S' [.ref S.length] = some (rv L) := by
    show (seqOf S' (.ref S.length)).map _ = _
    simp only [seqOf, h.r, Option.map_some]
  simp only [r_b, b__law_rows] at e
  rw [u__law_rows]
  simp only [b__law_rows, qOpt, qRet, bnd_ok, bnd_exc, bnd_err, flow_nx, flow_rt, flow_bk, flow_ct, flow_exc, end_nx, end_rt, end_exc, e_var, g_0, g_s, e_cst, e_bin, e_neg, e_not, e_cmp, e_chain, e_and, e_or, e_ite, e_tup, e_lst, e_lstM, e_lstS, e_dct, e_idx, e_slc, e_rev, e_isi, e_fz, e_repM, fz_lst, fz_tup, fz_dct, m_dget, e_blt, e_call, e_mth, m_tindex, m_tcount, e_lc, l_nil, l_cons, l_star, t_nil, t_cons, o_no, o_so, i_seq, i_rng1, i_rng2, i_zip, i_enum, i_enumT, k_enumT, k_neg, k_int, k_seqT, k_seqL, k_seqF, k_starT, k_starL, k_zipT, k_zipL, k_zipM, k_zipM2, k_enum, k_rng, k_rng2, tr_bl, tr_int, tr_tup, tr_lst, s_nil, s_cons, x_expr, x_set, x_setT, x_par, x_setI, x_aug, x_cond, x_loop, x_while, x_ret, x_retN, x_pass, x_brk, x_cont, x_run, b_lenT, b_lenL, b_lenF, b_tupT, b_tupL, b_lstT, b_lstL, b_allL, b_anyL, b_sumL, b_sumT, b_abs, b_max, b_min, b_intI, b_intB, q_ii, q_ss, mapR_some, andR_ite, orR_ite, unpK, parK, augK, setIK, setTg, setAll, wipe, blt, blt0, seqOf, lstOf, cop, bop, intOp, atP, place, Option.map_some, Option.map_none, Option.bind_some, Option.bind_none, eq_self, reduceCtorEq, Int.reduceLE, Int.reduceLT, Int.reduceNeg, Int.reduceEq, Int.reduceToNat, Int.reduceAdd, Int.reduceSub, Nat.reduceLeDiff, reduceIte,  List.flatten_cons, List.flatten_nil, List.length_map, List.map_cons, List.map_nil, List.length_cons, List.length_nil, List.replicate_succ, List.replicate_zero, List.cons_append, List.nil_append, List.append_nil, List.set_cons_zero, List.set_cons_succ, Bool.not_true, Bool.not_false, if_true, if_false, ite_true, ite_false, Bool.false_eq_true, decide_true, decide_false, Bool.or_true, Bool.true_or, Bool.or_false, Bool.false_or, Bool.and_true, Bool.true_and, Bool.and_false, Bool.false_and, decide_eq_true_eq, Nat.reduceAdd, Nat.reduceSub, Nat.zero_add, Function.comp_apply, ix0, ix1, ix2, ixL0, ixL1, ixL2, Int.cast_ofNat_Int, List.all_cons, List.all_nil, id_eq, k_rng (n := many) (lineB (by omega)), e, tb]
end
end K07

set_option linter.all false
set_option maxRecDepth 10000
set_option exponentiation.threshold 10000
namespace K07
open Ln
open Rr (Row gt gl prim pdiv clr stepE elimF St less stepR rankF Red Lead scaleF factorF madeStep madeF Made Closed)
open PySem (PyData Str)
/-! ### reduced rows are not changed -/
theorem prim_same {n c : Nat} {z r : Row} {k : Int} (hz : z.length = n) (hr : r.length = n) (hk : 0 < k) (e : ∀ j, gt z j = k * gt r j) (ld : Lead r c) (pos : 0 < gt r c) (g : gl r = 1) : prim z = r := by
  have lz : Lead z c := ⟨by rw [e]; exact Int.mul_ne_zero (by omega) ld.1, fun j hj => by rw [e, ld.2 j hj]; simp⟩
  obtain ⟨l1, l2⟩ := Rr.prim_lead lz
  have pm := fun j => Rr.prim_mul z j
  have dp : 0 < pdiv z := by
    have h1 := pm c
    rw [e] at h1
    have h2 : 0 < k * gt r c := Int.mul_pos hk pos
    rcases Int.lt_trichotomy (pdiv z) 0 with h | h | h
    · have := Int.mul_neg_of_neg_of_pos h l2; omega
    · exact absurd h (Rr.pdiv_ne z)
    · exact h
  exact Rr.prop_eq (n := n) (c := c) ((Rr.prim_len z).trans hz) hr dp hk (fun j => by rw [pm j, e j]) (Rr.prim_gl ⟨c, lz.1⟩) g
theorem clr_same {n c d : Nat} {r p : Row} (hr : r.length = n) (hp : p.length = n) (h0 : gt r c = 0) (pc : 0 < gt p c) (ld : Lead r d) (pos : 0 < gt r d) (g : gl r = 1) : clr r p c = r := by
  unfold Rr.clr
  refine prim_same (n := n) (c := d) (k := gt p c) (by rw [List.length_zipWith]; omega) hr pc (fun j => ?_) ld pos g
  rw [Rr.gt_zip (by simp) (hr.trans hp.symm), h0]; simp
theorem clr_zeros {n c : Nat} {r p : Row} (hr : r.length = n) (hp : p.length = n) (h : ∀ j, gt p c * gt r j = gt r c * gt p j) : ∀ j, gt (clr r p c) j = 0 := fun j => Rr.clr_zero (hr.trans hp.symm) (h j)
/-- a state of the elimination of reduced rows -/
structure Stay (n c : Nat) (A : List (Nat × Row)) (st : St) : Prop where
  f : ∀ q ∈ st.1, q ∈ A ∧ q.1 < c
  l : ∀ r ∈ st.2, r.length = n ∧ ((∀ j, gt r j = 0) ∨ ∃ p ∈ A, c ≤ p.1 ∧ r = p.2)
theorem stay_step {n c : Nat} {A : List (Nat × Row)} {st : St} (hA : RedB n A) (h : Stay n c A st) : Stay n (c + 1) A (stepE st c) := by
  have ge : ∀ p ∈ A, c ≤ p.1 → gt p.2 c ≠ 0 → p.1 = c := fun p hp h1 h2 => by
    refine Decidable.byContradiction fun q => h2 (hA.r.lead p hp c (by omega))
  unfold Rr.stepE
  split
  · rename_i e
    refine ⟨fun q hq => ⟨(h.f q hq).1, by have := (h.f q hq).2; omega⟩, fun r hr => ⟨(h.l r hr).1, ?_⟩⟩
    rcases (h.l r hr).2 with z | ⟨p, hp, hc, rfl⟩
    · exact .inl z
    · refine .inr ⟨p, hp, ?_, rfl⟩
      have := List.filter_eq_nil_iff.mp e _ hr
      have z : gt p.2 c = 0 := by simpa using this
      refine Decidable.byContradiction fun q => ?_
      have e : p.1 = c := by omega
      have := hA.r.pos p hp
      rw [e] at this; omega
  · rename_i f fs e
    have hf : f ∈ st.2 ∧ gt f c ≠ 0 := by
      have : f ∈ st.2.filter fun r => !decide (gt r c = 0) := by rw [e]; exact List.mem_cons_self
      obtain ⟨h1, h2⟩ := List.mem_filter.mp this
      exact ⟨h1, by simpa using h2⟩
    obtain ⟨p, hp, hc, rfl⟩ : ∃ p ∈ A, c ≤ p.1 ∧ f = p.2 := ((h.l f hf.1).2).resolve_left fun z => hf.2 (z c)
    have pc := ge p hp hc hf.2
    have ppos := hA.r.pos p hp
    have pp : prim p.2 = p.2 := prim_same (n := n) (c := p.1) (k := 1) (hA.r.len p hp) (hA.r.len p hp) (by decide) (fun j => by omega) (hA.ld hp) ppos (hA.r.prm p hp)
    rw [pp]
    rw [pc] at ppos
    refine ⟨fun q hq => ?_, fun r hr => ?_⟩
    · simp only [List.mem_append, List.mem_map, List.mem_singleton] at hq
      rcases hq with ⟨q, hq, rfl⟩ | rfl
      · obtain ⟨qa, qc⟩ := h.f q hq
        have : clr q.2 p.2 c = q.2 := clr_same (n := n) (hA.r.len q qa) (hA.r.len p hp) (by rw [← pc]; exact hA.r.zer q qa p hp (by omega)) ppos (hA.ld qa) (hA.r.pos q qa) (hA.r.prm q qa)
        rw [this]
        exact ⟨qa, by show q.1 < c + 1; omega⟩
      · exact ⟨by rw [← pc]; exact hp, Nat.lt_succ_self c⟩
    · obtain ⟨r', hr', rfl⟩ := List.mem_map.mp hr
      obtain ⟨rl, rc⟩ := h.l r' hr'
      have pl := hA.r.len p hp
      refine ⟨(Rr.clr_len (rl.trans pl.symm) c).trans rl, ?_⟩
      rcases rc with z | ⟨q, hq, hqc, rfl⟩
      · exact .inl (clr_zeros rl pl fun j => by rw [z j, z c]; simp)
      · by_cases hz : gt q.2 c = 0
        · refine .inr ⟨q, hq, ?_, clr_same (n := n) rl pl hz ppos (hA.ld hq) (hA.r.pos q hq) (hA.r.prm q hq)⟩
          refine Decidable.byContradiction fun w => ?_
          have e : q.1 = c := by omega
          have := hA.r.pos q hq
          rw [e] at this; omega
        · have qc := ge q hq hqc hz
          have eq : q.2 = p.2 := by
            refine Decidable.byContradiction fun w => ?_
            have : q = p := by
              have key : ∀ (B : List (Nat × Row)), B.Pairwise (fun p q => p.1 < q.1) → ∀ a ∈ B, ∀ b ∈ B, a.1 = b.1 → a = b := fun B => by
                induction B with
                | nil => intro _ a h; cases h
                | cons x B ih =>
                  intro hB a ha b hb e
                  rw [List.pairwise_cons] at hB
                  rcases List.mem_cons.mp ha with rfl | ha' <;> rcases List.mem_cons.mp hb with rfl | hb'
                  · rfl
                  · have := hB.1 b hb'; omega
                  · have := hB.1 a ha'; omega
                  · exact ih hB.2 a ha' b hb' e
              exact key A hA.r.inc q hq p hp (by omega)
            exact w (by rw [this])
          rw [eq]
          exact .inl (clr_zeros pl pl fun j => rfl)
theorem stay_bst {n c : Nat} {A : List (Nat × Row)} {st : St} (hA : RedB n A) (h : Stay n c A st) : Bst n 4000 st := ⟨fun q hq => ⟨hA.r.len q (h.f q hq).1, hA.b q (h.f q hq).1⟩, fun r hr => ⟨(h.l r hr).1, by
  rcases (h.l r hr).2 with z | ⟨p, hp, _, rfl⟩
  · intro x hx
    obtain ⟨i, hi, rfl⟩ := List.getElem_of_mem hx
    have := z i
    unfold Rr.gt at this
    rw [List.getD_eq_getElem?_getD, List.getElem?_eq_getElem hi] at this
    have e : r[i] = 0 := this
    rw [e]; unfold Bi; exact Nat.two_pow_pos _
  · exact hA.b p hp⟩⟩
theorem stay_oks {n : Nat} {A : List (Nat × Row)} (hA : RedB n A) : ∀ (m c : Nat) (st : St), Stay n c A st → Oks n (List.range' c m) st
  | 0, c, st, h => stay_bst hA h
  | m + 1, c, st, h => by rw [List.range'_succ]; exact ⟨stay_bst hA h, stay_oks hA m (c + 1) _ (stay_step hA h)⟩
theorem again_oks {n : Nat} {A : List (Nat × Row)} (hA : RedB n A) : Oks n (List.range n) ([], A.map (·.2)) := by
  rw [List.range_eq_range']
  exact stay_oks hA n 0 _ ⟨fun _ h => (nomatch h), fun r hr => by
    obtain ⟨p, hp, rfl⟩ := List.mem_map.mp hr
    exact ⟨hA.r.len p hp, .inr ⟨p, hp, Nat.zero_le _, rfl⟩⟩⟩
theorem oks_end {n : Nat} : ∀ (cs : List Nat) (st : St), Oks n cs st → Bst n 4000 (cs.foldl stepE st)
  | [], _, h => h
  | c :: cs, st, h => oks_end cs _ h.2
theorem redB_of {n : Nat} {rows : List Row} (h : Rows n rows) (ok : Oks n (List.range n) ([], rows)) : RedB n (elimF rows n).1 := ⟨(Rr.elim_red h.len).red, fun p hp => ((oks_end _ _ ok).f p hp).2, h.n60⟩
theorem perm_iv {fs : List D} {l : List Row} (h : fs.Perm (l.map iv)) : ∃ l' : List Row, fs = l'.map iv ∧ l'.Perm l := by
  let dec : D → Row := fun d => match d with
    | .tup xs => xs.map fun x => match x with | .int i => i | _ => 0
    | _ => []
  have hd : ∀ x, dec (iv x) = x := fun x => by
    show (x.map D.int).map (fun x => match x with | .int i => i | _ => 0) = x
    rw [List.map_map]
    conv => rhs; rw [← List.map_id x]
    rfl
  refine ⟨fs.map dec, ?_, ?_⟩
  · rw [List.map_map]
    have : ∀ d ∈ fs, (iv ∘ dec) d = d := fun d hd' => by
      obtain ⟨x, _, rfl⟩ := List.mem_map.mp (h.subset hd')
      show iv (dec (iv x)) = _
      rw [hd]
    conv => lhs; rw [← List.map_id fs]
    exact (List.map_congr_left this).symm
  · have := h.map dec
    rw [List.map_map] at this
    have e : l.map (dec ∘ iv) = l := by
      conv => rhs; rw [← List.map_id l]
      exact List.map_congr_left fun x _ => hd x
    rwa [e] at this
end K07

set_option linter.all false
set_option maxRecDepth 10000
set_option exponentiation.threshold 10000
namespace K07
open Ln
open Rr (Row gt gl prim pdiv clr stepE elimF St Red frees freeB IsVec IsKer Ker nzr mem_frees)
/-! ### the least common multiple of the pivots; the vectors -/
def lcmS (s : Int) (p : Nat × Row) : Int := (s * gt p.2 p.1).fdiv ((Nat.gcd s.natAbs (gt p.2 p.1).natAbs : Nat) : Int)
def lcmF (A : List (Nat × Row)) : Int := A.foldl lcmS 1
theorem lcmS_sp {s : Int} {p : Nat × Row} (hs : 0 < s) (hp : 0 < gt p.2 p.1) : 0 < lcmS s p ∧ s ∣ lcmS s p ∧ gt p.2 p.1 ∣ lcmS s p ∧ (lcmS s p).natAbs ≤ (s * gt p.2 p.1).natAbs := by
  unfold lcmS
  obtain ⟨a, rfl⟩ := Int.eq_ofNat_of_zero_le (Int.le_of_lt hs)
  generalize gt p.2 p.1 = x at *
  obtain ⟨b, rfl⟩ := Int.eq_ofNat_of_zero_le (Int.le_of_lt hp)
  have e : ((a : Int) * (b : Int)).fdiv ((Nat.gcd (a : Int).natAbs (b : Int).natAbs : Nat) : Int) = ((Nat.lcm a b : Nat) : Int) := by
    rw [Int.natAbs_natCast, Int.natAbs_natCast, ← Int.natCast_mul, Int.fdiv_eq_ediv_of_nonneg _ (Int.natCast_nonneg _)]
    rfl
  rw [e]
  refine ⟨?_, Int.natCast_dvd_natCast.mpr (Nat.dvd_lcm_left a b), Int.natCast_dvd_natCast.mpr (Nat.dvd_lcm_right a b), ?_⟩
  · have := Nat.lcm_pos (show 0 < a by omega) (show 0 < b by omega); omega
  · rw [← Int.natCast_mul, Int.natAbs_natCast, Int.natAbs_natCast]
    exact Nat.div_le_self _ _
theorem lcm_fold : ∀ (B : List (Nat × Row)) (s : Int), 0 < s → (∀ p ∈ B, 0 < gt p.2 p.1) → 0 < B.foldl lcmS s ∧ s ∣ B.foldl lcmS s ∧ ∀ p ∈ B, gt p.2 p.1 ∣ B.foldl lcmS s
  | [], s, hs, _ => ⟨hs, Int.dvd_refl s, fun _ h => nomatch h⟩
  | p :: B, s, hs, h => by
    obtain ⟨a, b, c, _⟩ := lcmS_sp hs (h p List.mem_cons_self)
    obtain ⟨x, y, z⟩ := lcm_fold B (lcmS s p) a fun q hq => h q (List.mem_cons_of_mem _ hq)
    exact ⟨x, Int.dvd_trans b y, fun q hq => by
      rcases List.mem_cons.mp hq with rfl | hq
      · exact Int.dvd_trans c y
      · exact z q hq⟩
theorem lcm_bits {b : Nat} : ∀ (B : List (Nat × Row)) (s : Int) (M : Nat), 0 < s → (∀ p ∈ B, 0 < gt p.2 p.1 ∧ Br b p.2) → Bi M s → Bi (M + b * B.length) (B.foldl lcmS s)
  | [], s, M, _, _, h => h
  | p :: B, s, M, hs, h, hM => by
    obtain ⟨h1, h2⟩ := h p List.mem_cons_self
    obtain ⟨a, _, _, d⟩ := lcmS_sp hs h1
    have hb : Bi (M + b) (lcmS s p) := Nat.lt_of_le_of_lt d (hM.mul (h2.gt p.1))
    have := lcm_bits B (lcmS s p) (M + b) a (fun q hq => h q (List.mem_cons_of_mem _ hq)) hb
    rw [List.length_cons, Nat.mul_add, Nat.mul_one, Nat.add_comm (b * B.length), ← Nat.add_assoc]
    exact this
def vecS (s : Int) (f : Nat) (v : Row) (p : Nat × Row) : Row := v.set p.1 (0 - gt p.2 f * s.fdiv (gt p.2 p.1))
def vec0 (s : Int) (n f : Nat) : Row := (List.replicate n 0).set f s
def vecF (s : Int) (A : List (Nat × Row)) (n f : Nat) : Row := A.foldl (vecS s f) (vec0 s n f)
def vecsF (A : List (Nat × Row)) (n : Nat) : List Row := (frees A n).map (vecF (lcmF A) A n)
def kerB (A : List (Nat × Row)) (n : Nat) : List (Nat × Row) := (elimF (vecsF A n) n).1
theorem gt_set {v : Row} {i j : Nat} {x : Int} (h : i < v.length) : gt (v.set i x) j = if j = i then x else gt v j := by
  show (v.set i x).getD j 0 = if j = i then x else v.getD j 0
  rw [List.getD_eq_getElem?_getD, List.getD_eq_getElem?_getD]
  by_cases hj : j = i
  · subst hj; rw [List.getElem?_set_self h, if_pos rfl]; rfl
  · rw [List.getElem?_set_ne (Ne.symm hj), if_neg hj]
theorem vec_fold {n f : Nat} {s : Int} : ∀ (B : List (Nat × Row)) (v : Row), v.length = n → (∀ p ∈ B, p.1 < n) → B.Pairwise (fun p q => p.1 < q.1) →
    (B.foldl (vecS s f) v).length = n ∧ (∀ j, (∀ p ∈ B, p.1 ≠ j) → gt (B.foldl (vecS s f) v) j = gt v j) ∧ ∀ p ∈ B, gt (B.foldl (vecS s f) v) p.1 = 0 - gt p.2 f * s.fdiv (gt p.2 p.1)
  | [], v, hv, _, _ => ⟨hv, fun _ _ => rfl, fun _ h => nomatch h⟩
  | p :: B, v, hv, hl, hp => by
    rw [List.pairwise_cons] at hp
    have l1 : (vecS s f v p).length = n := by unfold vecS; rw [List.length_set]; exact hv
    have h0 := hl p List.mem_cons_self
    obtain ⟨a, b, c⟩ := vec_fold B (vecS s f v p) l1 (fun q hq => hl q (List.mem_cons_of_mem _ hq)) hp.2
    refine ⟨a, fun j hj => ?_, fun q hq => ?_⟩
    · rw [List.foldl_cons, b j fun q hq => hj q (List.mem_cons_of_mem _ hq)]
      unfold vecS
      rw [gt_set (by rw [hv]; exact h0), if_neg (fun z => hj p List.mem_cons_self z.symm)]
    · rcases List.mem_cons.mp hq with rfl | hq
      · rw [List.foldl_cons, b q.1 fun r hr => Nat.ne_of_gt (hp.1 r hr)]
        unfold vecS
        rw [gt_set (by rw [hv]; exact h0), if_pos rfl]
      · exact c q hq
theorem vec0_at {s : Int} {n f : Nat} (hf : f < n) (j : Nat) : gt (vec0 s n f) j = if j = f then s else 0 := by
  unfold vec0
  rw [gt_set (by simpa using hf)]
  congr 1
  show (List.replicate n (0 : Int)).getD j 0 = 0
  rw [List.getD_eq_getElem?_getD, List.getElem?_replicate]
  split <;> rfl
theorem vec_is {n f : Nat} {s : Int} {A : List (Nat × Row)} (hA : Red n A) (hf : f ∈ frees A n) (dv : ∀ p ∈ A, gt p.2 p.1 ∣ s) : IsVec s A n f (vecF s A n f) := by
  obtain ⟨f1, f2⟩ := mem_frees.mp hf
  obtain ⟨a, b, c⟩ := vec_fold (n := n) (f := f) (s := s) A (vec0 s n f) (by simp [vec0]) hA.lt hA.inc
  refine ⟨a, ?_, fun p hp => ?_, fun j h1 h2 => ?_⟩
  · exact (b f f2).trans (by rw [vec0_at f1, if_pos rfl])
  · have := c p hp
    have pos := hA.pos p hp
    have e := Rr.fdiv_mul_cancel (dv p hp) (by omega : gt p.2 p.1 ≠ 0)
    show gt p.2 p.1 * gt (A.foldl (vecS s f) (vec0 s n f)) p.1 = _
    rw [this]
    grind
  · exact (b j h2).trans (by rw [vec0_at f1, if_neg h1])
theorem vec_br {n f N b : Nat} {s : Int} {A : List (Nat × Row)} (hA : Red n A) (hf : f ∈ frees A n) (dv : ∀ p ∈ A, gt p.2 p.1 ∣ s) (hs : Bi N s) (hb : ∀ p ∈ A, Br b p.2) : Br (N + b) (vecF s A n f) := fun x hx => by
  have iv := vec_is hA hf dv
  obtain ⟨i, hi, rfl⟩ := List.getElem_of_mem hx
  have ei : gt (vecF s A n f) i = (vecF s A n f)[i] := by show (vecF s A n f).getD i 0 = _; rw [List.getD_eq_getElem?_getD, List.getElem?_eq_getElem hi]; rfl
  rw [← ei]
  by_cases h1 : i = f
  · subst h1; rw [iv.at_]; exact hs.up (by omega)
  · by_cases h2 : ∃ p ∈ A, p.1 = i
    · obtain ⟨p, hp, rfl⟩ := h2
      have e := iv.piv p hp
      have pos := hA.pos p hp
      have le : (gt (vecF s A n f) p.1).natAbs ≤ (gt p.2 f * s).natAbs := by
        have := congrArg Int.natAbs e
        rw [Int.natAbs_mul, Int.natAbs_neg] at this
        rw [← this]
        exact Nat.le_mul_of_pos_left _ (by omega)
      have := ((hb p hp).gt f).mul hs
      rw [Nat.add_comm] at this
      exact Nat.lt_of_le_of_lt le this
    · rw [iv.zer i h1 fun p hp z => h2 ⟨p, hp, z⟩]
      exact Nat.two_pow_pos _
theorem kerB_is {n : Nat} {A : List (Nat × Row)} (hA : Red n A) : IsKer n A (kerB A n) := by
  obtain ⟨a, _, c⟩ := lcm_fold A 1 (by decide) hA.pos
  exact Rr.ker_rows (s := lcmF A) hA (fun f hf => vec_is hA hf c) (by unfold lcmF; omega)
theorem vecs_len {n : Nat} {A : List (Nat × Row)} (hA : Red n A) : ∀ r ∈ vecsF A n, r.length = n := fun r hr => by
  obtain ⟨f, hf, rfl⟩ := List.mem_map.mp hr
  exact (vec_is hA hf (lcm_fold A 1 (by decide) hA.pos).2.2).len
theorem vecs_br {n b : Nat} {A : List (Nat × Row)} (hA : Red n A) (hb : ∀ p ∈ A, Br b p.2) : ∀ r ∈ vecsF A n, Br (1 + b * A.length + b) r := fun r hr => by
  obtain ⟨f, hf, rfl⟩ := List.mem_map.mp hr
  exact vec_br hA hf (lcm_fold A 1 (by decide) hA.pos).2.2 (lcm_bits A 1 1 (by decide) (fun p hp => ⟨hA.pos p hp, hb p hp⟩) (by unfold Bi; decide)) hb
/-! ### sizes -/
theorem nz_zero {st : St} (h : st.2.countP nzr = 0) (c : Nat) : stepE st c = st := by
  unfold Rr.stepE
  split
  · rfl
  · rename_i f fs e
    have hf : f ∈ st.2.filter fun r => !decide (gt r c = 0) := by rw [e]; exact List.mem_cons_self
    have h1 := List.countP_eq_zero.mp h f (List.mem_filter.mp hf).1
    exact absurd (Rr.nzr_iff.mpr ⟨c, by simpa using (List.mem_filter.mp hf).2⟩) h1
theorem nz_zeros {st : St} (h : st.2.countP nzr = 0) : ∀ cs : List Nat, cs.foldl stepE st = st
  | [] => rfl
  | c :: cs => by rw [List.foldl_cons, nz_zero h, nz_zeros h cs]
/-- as many doublings as rows -/
theorem oks_eff {n : Nat} : ∀ (cs : List Nat) (N : Nat) (st : St), Bst n N st → (st.2.countP nzr = 0 ∨ (N + 1) * 2 ^ (st.2.countP nzr - 1) ≤ 4001) → Bst n 4000 (cs.foldl stepE st) → Oks n cs st
  | [], _, _, _, _, h => h
  | c :: cs, N, st, h, hc, hf => by
    have len : ∀ r ∈ st.2, r.length = n := fun r hr => (h.l r hr).1
    by_cases h0 : st.2.countP nzr = 0
    · have e := nz_zeros h0 (c :: cs)
      have es := nz_zero h0 c
      rw [List.foldl_cons] at hf e
      rw [e] at hf
      exact ⟨hf, oks_eff cs 4000 _ (by rw [es]; exact hf) (.inl (by rw [es]; exact h0)) (by rw [e]; exact hf)⟩
    · have hc := hc.resolve_left h0
      have pw := Nat.two_pow_pos (st.2.countP nzr - 1)
      have le : N + 1 ≤ (N + 1) * 2 ^ (st.2.countP nzr - 1) := Nat.le_mul_of_pos_right _ pw
      refine ⟨h.up (by omega), ?_⟩
      rw [List.foldl_cons] at hf
      rcases Rr.step_nz len c with e | ⟨_, e⟩
      · exact oks_eff cs N _ (by rw [e]; exact h) (.inr (by rw [e]; exact hc)) hf
      · refine oks_eff cs (2 * N + 1) _ (bst_step h c) ?_ hf
        by_cases h1 : (stepE st c).2.countP nzr = 0
        · exact .inl h1
        · refine .inr (Nat.le_trans ?_ hc)
          have e2 : (2 * N + 1 + 1) * 2 ^ ((stepE st c).2.countP nzr - 1) = (N + 1) * 2 ^ (stepE st c).2.countP nzr := by
            rw [show 2 * N + 1 + 1 = (N + 1) * 2 by omega, Nat.mul_assoc, ← Nat.pow_succ', show Nat.succ ((stepE st c).2.countP nzr - 1) = (stepE st c).2.countP nzr by omega]
          rw [e2]
          exact Nat.mul_le_mul_left _ (Nat.pow_le_pow_right (by decide) (by omega))
theorem fold_len : ∀ (cs : List Nat) (st : St), st.1.length ≤ (cs.foldl stepE st).1.length
  | [], _ => Nat.le_refl _
  | c :: cs, st => by
    have := fold_len cs (stepE st c)
    rw [List.foldl_cons]
    refine Nat.le_trans ?_ this
    unfold Rr.stepE
    split
    · exact Nat.le_refl _
    · simp
/-- as many doublings as pivots -/
theorem bst_fold {n : Nat} : ∀ (cs : List Nat) (N L : Nat) (st : St), Bst n N st → (cs.foldl stepE st).1.length ≤ st.1.length + L → Bst n ((N + 1) * 2 ^ L) (cs.foldl stepE st)
  | [], N, L, st, h, _ => h.up (Nat.le_trans (Nat.le_succ N) (Nat.le_mul_of_pos_right _ (Nat.two_pow_pos L)))
  | c :: cs, N, L, st, h, hl => by
    have len : ∀ r ∈ st.2, r.length = n := fun r hr => (h.l r hr).1
    rw [List.foldl_cons] at hl ⊢
    rcases Rr.step_nz len c with e | ⟨e, _⟩
    · exact bst_fold cs N L _ (by rw [e]; exact h) (by rw [e] at hl ⊢; exact hl)
    · have := fold_len cs (stepE st c)
      obtain ⟨L', rfl⟩ : ∃ L', L = L' + 1 := ⟨L - 1, by omega⟩
      have := bst_fold cs (2 * N + 1) L' _ (bst_step h c) (by omega)
      rw [show (2 * N + 1 + 1) * 2 ^ L' = (N + 1) * 2 ^ (L' + 1) by rw [Nat.pow_succ, show 2 * N + 1 + 1 = (N + 1) * 2 by omega, Nat.mul_assoc, Nat.mul_comm 2]] at this
      exact this
theorem end_bst {n M : Nat} {rows : List Row} (h : ∀ r ∈ rows, r.length = n) (hb : ∀ p ∈ (elimF rows n).1, Br M p.2) : Bst n M (elimF rows n) := by
  have i := Rr.elim_red h
  refine ⟨fun q hq => ⟨i.red.len q hq, hb q hq⟩, fun r hr => ⟨i.len r hr, fun x hx => ?_⟩⟩
  obtain ⟨j, hj, rfl⟩ := List.getElem_of_mem hx
  have e : gt r j = r[j] := by show r.getD j 0 = _; rw [List.getD_eq_getElem?_getD, List.getElem?_eq_getElem hj]; rfl
  rw [← e, i.zer r hr j (by rw [i.len r hr] at hj; exact hj)]
  exact Nat.two_pow_pos _
end K07

set_option linter.all false
set_option maxRecDepth 10000
set_option exponentiation.threshold 10000
namespace K07
open Ln
open Rr (Row gt gl prim pdiv clr stepE elimF St less stepR rankF Red Lead Made Closed nzr frees IsKer)
open PySem (PyData Str)
/-- small rows -/
structure RowsS (n : Nat) (rows : List Row) : Prop where
  len : ∀ r ∈ rows, r.length = n
  n1 : 1 ≤ n
  n5 : n ≤ 5
  m1 : rows ≠ []
  m : rows.length ≤ 900
  b : ∀ r ∈ rows, Br 50 r
theorem RowsS.r {n : Nat} {rows : List Row} (h : RowsS n rows) : Rows n rows := ⟨h.len, h.n1, by have := h.n5; omega, h.m1, h.m, fun r hr => (h.b r hr).up (by decide)⟩
theorem pow5 {n : Nat} (h : n ≤ 5) : (50 + 1) * 2 ^ n ≤ 4001 := by
  have : 2 ^ n ≤ 2 ^ 5 := Nat.pow_le_pow_right (by decide) h
  have : (2 : Nat) ^ 5 = 32 := rfl
  omega
theorem RowsS.ok {n : Nat} {rows : List Row} (h : RowsS n rows) : Oks n (List.range n) ([], rows) :=
  oks_small _ 50 _ ⟨fun _ h => (nomatch h), fun r hr => ⟨h.len r hr, h.b r hr⟩⟩ (by rw [List.length_range]; exact pow5 h.n5)
theorem RowsS.okr {n : Nat} {rows : List Row} (h : RowsS n rows) : Okr n (List.range n) (rows, 0) :=
  okr_small _ 50 _ ⟨fun r hr => ⟨h.len r hr, h.b r hr⟩⟩ (by rw [List.length_range]; exact pow5 h.n5)
theorem rv_rr (A : List (Nat × Row)) : rv (A.map (·.2)) = rr A := by rw [rv, List.map_map]; rfl
/-! ### the sizes of kernels of small rows -/
theorem br_gt {M : Nat} {r : Row} (h : ∀ j, (gt r j).natAbs < 2 ^ M) : Br M r := fun x hx => by
  obtain ⟨i, hi, rfl⟩ := List.getElem_of_mem hx
  have e : gt r i = r[i] := by show r.getD i 0 = _; rw [List.getD_eq_getElem?_getD, List.getElem?_eq_getElem hi]; rfl
  rw [← e]; exact h i
structure Small (n : Nat) (rows : List Row) : Prop where
  s : RowsS n rows
  b : ∀ r ∈ rows, Br 37 r
  m4 : rows.length ≤ 4
section
variable {n : Nat} {rows : List Row}
abbrev eA (rows : List Row) (n : Nat) : List (Nat × Row) := (elimF rows n).1
theorem Small.red (h : Small n rows) : Red n (eA rows n) := (Rr.elim_red h.s.len).red
theorem Small.k4 (h : Small n rows) : (eA rows n).length ≤ 4 := Nat.le_trans (Rr.elim_count h.s.len) h.m4
theorem Small.ab (h : Small n rows) : ∀ p ∈ eA rows n, Br (38 * 2 ^ (eA rows n).length) p.2 := fun p hp =>
  ((bst_fold (n := n) (List.range n) 37 (eA rows n).length ([], rows) ⟨fun _ h => (nomatch h), fun r hr => ⟨h.s.len r hr, h.b r hr⟩⟩ (by show _ ≤ 0 + _; rw [Nat.zero_add]; exact Nat.le_refl _)).f p hp).2
theorem Small.ab608 (h : Small n rows) : ∀ p ∈ eA rows n, Br 608 p.2 := fun p hp => (h.ab p hp).up (by
  have : 2 ^ (eA rows n).length ≤ 2 ^ 4 := Nat.pow_le_pow_right (by decide) h.k4
  have : (2 : Nat) ^ 4 = 16 := rfl
  omega)
theorem Small.ker (h : Small n rows) : IsKer n (eA rows n) (kerB (eA rows n) n) := kerB_is h.red
theorem Small.kb (h : Small n rows) : ∀ p ∈ kerB (eA rows n) n, Br 165 p.2 := fun p hp => br_gt fun j => by
  have := Rr.ker_small (rows := rows) (M := 2 ^ 37) (fun r hr => ⟨h.s.len r hr, fun x hx => Nat.le_of_lt (h.b r hr x hx)⟩) (by decide) h.ker p hp j
  have n5 := h.s.n5
  have n1 := h.s.n1
  have h1 : 2 * n * 2 ^ 37 ≤ 2 ^ 41 := Nat.le_trans (Nat.mul_le_mul_right _ (show 2 * n ≤ 10 by omega)) (by decide)
  have h2 : (2 * n * 2 ^ 37) ^ (n - 1) ≤ (2 ^ 41) ^ 4 := Nat.le_trans (Nat.pow_le_pow_left h1 _) (Nat.pow_le_pow_right (by decide) (by omega))
  have h3 : ((2 : Nat) ^ 41) ^ 4 < 2 ^ 165 := by rw [← Nat.pow_mul]; exact Nat.pow_lt_pow_right (by decide) (by decide)
  omega
theorem vecs_count {A : List (Nat × Row)} (hA : Red n A) : (vecsF A n).length + A.length = n := by
  unfold vecsF
  rw [List.length_map]; exact Rr.frees_count hA
theorem vecs_oks {A : List (Nat × Row)} {b k : Nat} (hA : Red n A) (hb : ∀ p ∈ A, Br b p.2) (hk : n ≤ A.length + k) (hs : k = 0 ∨ (1 + b * A.length + b + 1) * 2 ^ (k - 1) ≤ 4001) (he : ∀ p ∈ kerB A n, Br 4000 p.2) : Oks n (List.range n) ([], vecsF A n) := by
  have lv := vecs_len hA
  have c1 := vecs_count hA
  have c2 : (vecsF A n).countP nzr ≤ (vecsF A n).length := List.countP_le_length
  refine oks_eff (List.range n) (1 + b * A.length + b) ([], vecsF A n) ⟨fun _ h => (nomatch h), fun r hr => ⟨lv r hr, vecs_br hA hb r hr⟩⟩ ?_ (end_bst lv he)
  show (vecsF A n).countP nzr = 0 ∨ _ * 2 ^ ((vecsF A n).countP nzr - 1) ≤ _
  by_cases h0 : (vecsF A n).countP nzr = 0
  · exact .inl h0
  · refine .inr (Nat.le_trans (Nat.mul_le_mul_left _ (Nat.pow_le_pow_right (by decide) ?_)) (hs.resolve_left (by omega)))
    omega
theorem Small.vok (h : Small n rows) : Oks n (List.range n) ([], vecsF (eA rows n) n) := by
  have n5 := h.s.n5
  have k4 := h.k4
  refine vecs_oks (k := 5 - (eA rows n).length) h.red h.ab (by omega) (.inr ?_) fun p hp => (h.kb p hp).up (by decide)
  generalize (eA rows n).length = k at *
  have : k = 0 ∨ k = 1 ∨ k = 2 ∨ k = 3 ∨ k = 4 := by omega
  rcases this with rfl | rfl | rfl | rfl | rfl <;> decide
theorem Small.back (h : Small n rows) : kerB (kerB (eA rows n) n) n = eA rows n := (Rr.ker_ker h.red h.ker (kerB_is h.ker.red)).symm
theorem Small.vok2 (h : Small n rows) : Oks n (List.range n) ([], vecsF (kerB (eA rows n) n) n) := by
  have n5 := h.s.n5
  have k4 := h.k4
  have hl := h.ker.len
  refine vecs_oks (b := 165) (k := (eA rows n).length) h.ker.red h.kb (by omega) ?_ fun p hp => ?_
  · by_cases h0 : (eA rows n).length = 0
    · exact .inl h0
    · refine .inr (Nat.le_trans (Nat.mul_le_mul_right _ (show 1 + 165 * (kerB (eA rows n) n).length + 165 + 1 ≤ 167 + 165 * (5 - (eA rows n).length) by omega)) ?_)
      generalize (eA rows n).length = k at *
      have : k = 1 ∨ k = 2 ∨ k = 3 ∨ k = 4 := by omega
      rcases this with rfl | rfl | rfl | rfl <;> decide
  · rw [h.back] at hp
    exact (h.ab608 p hp).up (by decide)
end
end K07

set_option linter.all false
set_option maxRecDepth 10000
set_option exponentiation.threshold 10000
namespace K07
open Ln
open Rr (Row gt gl prim pdiv clr stepE elimF St Red frees freeB IsVec IsKer Ker nzr mem_frees)
open PySem (PyData Str)
section
variable {w k n : Nat} {S : Store}
/-! ### the store -/
theorem app_get {S : Store} {x : O} : (S ++ [x])[S.length]? = some x := by simp
theorem app_set {S : Store} {x y : O} : (S ++ [x]).set S.length y = S ++ [y] := by simp
theorem setI_at {ρ : Rho} {S : Store} {m i : Nat} {xs : Row} {x : Int} (h : S[m]? = some (.lst (xs.map D.int))) (hi : i < xs.length) : setIK ρ (.int x) (.ref m) (.int i) S = .ok (.nx, ρ) (S.set m (.lst ((xs.set i x).map D.int))) := by
  have hp : place (xs.map D.int).length (i : Int) = some i := by
    unfold place
    rw [if_pos (Int.natCast_nonneg i), if_pos (by rw [List.length_map]; omega)]
    rfl
  unfold setIK
  simp only [h, hp]
  rw [List.map_set]
theorem pairs_pq (A : List (Nat × Row)) : pairsD (A.map pq) = some (A.map fun p => (D.int p.1, il p.2)) := by
  induction A with
  | nil => rfl
  | cons p A ih => simp only [List.map_cons, pairsD, isKey, if_true, ih, Option.map_some]
theorem merge_new : ∀ (B : List (Nat × Row)) (acc : List (D × D)), B.Pairwise (fun p q => p.1 < q.1) → (∀ p ∈ B, ∀ a ∈ acc, keyIs (.int p.1) a.1 = false) → mergeD acc (B.map fun p => (D.int p.1, il p.2)) = acc ++ B.map fun p => (D.int p.1, il p.2)
  | [], acc, _, _ => by simp [mergeD]
  | p :: B, acc, hp, h => by
    rw [List.pairwise_cons] at hp
    have e : putD acc (.int p.1) (il p.2) = acc ++ [(D.int p.1, il p.2)] := by
      unfold putD
      rw [if_neg]
      rw [List.any_eq_true]
      rintro ⟨a, ha, hk⟩
      rw [h p List.mem_cons_self a ha] at hk; cases hk
    have ih := merge_new B (acc ++ [(D.int p.1, il p.2)]) hp.2 fun q hq a ha => by
      rcases List.mem_append.mp ha with ha | ha
      · exact h q (List.mem_cons_of_mem _ hq) a ha
      · rw [List.mem_singleton.mp ha]
        have := hp.1 q hq
        show decide _ = false
        exact decide_eq_false (by omega)
    show mergeD (putD acc (.int p.1) (il p.2)) _ = _
    rw [e, ih]
    simp
theorem dict_found {A : List (Nat × Row)} (hA : Red n A) (S : Store) : dictF S [.lst (A.map pq)] = some (.dct (A.map fun p => D.int p.1) (A.map fun p => il p.2)) := by
  unfold dictF
  simp only [lstOf, Option.bind_some, pairs_pq, Option.map_some]
  rw [merge_new A [] hA.inc fun _ _ _ h => nomatch h]
  simp only [List.nil_append, List.map_map, Function.comp_def]
theorem any_free (A : List (Nat × Row)) (f : Nat) : (A.map fun p => D.int p.1).any (keyIs (.int f)) = !freeB A f := by
  unfold freeB
  rw [Bool.not_not, List.any_map]
  congr 1
  funext p
  show decide ((f : Int) = (p.1 : Int)) = decide (f = p.1)
  rw [Bool.eq_iff_iff]
  simp only [decide_eq_true_eq]
  omega
/-! ### the loops -/
structure RedS (n : Nat) (A : List (Nat × Row)) : Prop where
  r : Red n A
  b : ∀ p ∈ A, Br 4000 p.2
  n60 : n ≤ 60
def k_sc : Sms := match b_kernel_in with | .cons _ (.cons _ (.cons (.loop _ _ b) _)) => b | _ => .nil
def k_fr : Sms := match b_kernel_in with | .cons _ (.cons _ (.cons _ (.cons (.loop _ _ b) _))) => b | _ => .nil
def k_vc : Sms := match b_kernel_in with | .cons _ (.cons _ (.cons _ (.cons (.loop _ _ (.cons (.cond _ (.cons _ (.cons _ (.cons (.loop _ _ b) _))) _) _)) _))) => b | _ => .nil
theorem len60 {A : List (Nat × Row)} (hA : RedS n A) : A.length ≤ 60 := by
  have := Rr.frees_count hA.r
  have := hA.n60
  omega
theorem sc_loop (hw : 1000000 ≤ w) {A : List (Nat × Row)} (hA : RedS n A) {v0 v1 v2 v3 v4 v5 v9 v10 : Option D} : ∀ (B : List (Nat × Row)) (s : Int) (M : Nat) (o7 o8 : Option D), (∀ p ∈ B, p ∈ A) → 0 < s → Bi M s → M + 4000 * B.length ≤ 300000 →
    ∃ p7 p8, loopM (callI prog w (k + 1)) w (.tp [7, 8]) k_sc (B.map pq) [v0, v1, v2, v3, v4, v5, some (.int s), o7, o8, v9, v10] S = .ok (.nx, [v0, v1, v2, v3, v4, v5, some (.int (B.foldl lcmS s)), p7, p8, v9, v10]) S
  | [], s, M, o7, o8, _, _, _, _ => ⟨o7, o8, rfl⟩
  | p :: B, s, M, o7, o8, h, hs, hM, hl => by
    rw [List.length_cons] at hl
    have hp := h p List.mem_cons_self
    have hb := hA.b p hp
    have pos := hA.r.pos p hp
    obtain ⟨a, _, _, d⟩ := lcmS_sp hs pos
    have h1 : Bi (M + 4000) (lcmS s p) := Nat.lt_of_le_of_lt d (hM.mul (hb.gt p.1))
    obtain ⟨p7, p8, e⟩ := sc_loop hw hA (v0 := v0) (v1 := v1) (v2 := v2) (v3 := v3) (v4 := v4) (v5 := v5) (v9 := v9) (v10 := v10) B (lcmS s p) (M + 4000) (some (.int p.1)) (some (il p.2)) (fun q hq => h q (List.mem_cons_of_mem _ hq)) a h1 (by omega)
    have hg := (hb.gt p.1).up (show 4000 ≤ 400000 by decide)
    have ix := ix_il (S := S) (show p.1 < p.2.length by rw [hA.r.len p hp]; exact hA.r.lt p hp)
    have m := Bi.mulOk (hM.up (show M ≤ 400000 by omega)) hg
    have c := common_in_sp (w := w) (k := k) (S := S) hw hcommon_in (hM.up (show M ≤ 400000 by omega)) hg
    have dv := (gcd_le9 (p := s) (show gt p.2 p.1 ≠ 0 by omega) ((hb.gt p.1).up (by decide))).1
    refine ⟨p7, p8, (loopM_nx (ρ1 := [v0, v1, v2, v3, v4, v5, some (.int s), some (.int p.1), some (il p.2), v9, v10]) rfl ?_).trans e⟩
    simp only [k_sc, b_kernel_in, qOpt, qRet, bnd_ok, bnd_exc, bnd_err, flow_nx, flow_rt, flow_bk, flow_ct, flow_exc, end_nx, end_rt, end_exc, e_var, g_0, g_s, e_cst, e_bin, e_neg, e_not, e_cmp, e_chain, e_and, e_or, e_ite, e_tup, e_lst, e_lstM, e_lstS, e_dct, e_idx, e_slc, e_rev, e_isi, e_fz, e_repM, fz_lst, fz_tup, fz_dct, m_dget, e_blt, e_call, e_mth, m_tindex, m_tcount, e_lc, l_nil, l_cons, l_star, t_nil, t_cons, o_no, o_so, i_seq, i_rng1, i_rng2, i_zip, i_enum, i_enumT, k_enumT, k_neg, k_int, k_seqT, k_seqL, k_seqF, k_starT, k_starL, k_zipT, k_zipL, k_zipM, k_zipM2, k_enum, k_rng, k_rng2, tr_bl, tr_int, tr_tup, tr_lst, s_nil, s_cons, x_expr, x_set, x_setT, x_par, x_setI, x_aug, x_cond, x_loop, x_while, x_ret, x_retN, x_pass, x_brk, x_cont, x_run, b_lenT, b_lenL, b_lenF, b_tupT, b_tupL, b_lstT, b_lstL, b_allL, b_anyL, b_sumL, b_sumT, b_abs, b_max, b_min, b_intI, b_intB, q_ii, q_ss, mapR_some, andR_ite, orR_ite, unpK, parK, augK, setIK, setTg, setAll, wipe, blt, blt0, seqOf, lstOf, cop, bop, intOp, atP, place, Option.map_some, Option.map_none, Option.bind_some, Option.bind_none, eq_self, reduceCtorEq, Int.reduceLE, Int.reduceLT, Int.reduceNeg, Int.reduceEq, Int.reduceToNat, Int.reduceAdd, Int.reduceSub, Nat.reduceLeDiff, reduceIte,  List.flatten_cons, List.flatten_nil, List.length_map, List.map_cons, List.map_nil, List.length_cons, List.length_nil, List.replicate_succ, List.replicate_zero, List.cons_append, List.nil_append, List.append_nil, List.set_cons_zero, List.set_cons_succ, Bool.not_true, Bool.not_false, if_true, if_false, ite_true, ite_false, Bool.false_eq_true, decide_true, decide_false, Bool.or_true, Bool.true_or, Bool.or_false, Bool.false_or, Bool.and_true, Bool.true_and, Bool.and_false, Bool.false_and, decide_eq_true_eq, Nat.reduceAdd, Nat.reduceSub, Nat.zero_add, Function.comp_apply, ix0, ix1, ix2, ixL0, ixL1, ixL2, Int.cast_ofNat_Int, List.all_cons, List.all_nil, id_eq, ix, m, c, dv]
    rfl
theorem vc_loop {A : List (Nat × Row)} (hA : RedS n A) {s : Int} {f : Nat} (hs : Bi 300000 s) (hf : f < n) {v0 v1 v2 v3 v4 v5 : Option D} {S0 : Store} : ∀ (B : List (Nat × Row)) (v : Row) (o7 o8 : Option D), (∀ p ∈ B, p ∈ A) → v.length = n →
    ∃ p7 p8, loopM (callI prog w (k + 1)) w (.tp [7, 8]) k_vc (B.map pq) [v0, v1, v2, v3, v4, v5, some (.int s), o7, o8, some (.int f), some (.ref S0.length)] (S0 ++ [.lst (v.map D.int)]) = .ok (.nx, [v0, v1, v2, v3, v4, v5, some (.int s), p7, p8, some (.int f), some (.ref S0.length)]) (S0 ++ [.lst ((B.foldl (vecS s f) v).map D.int)])
  | [], v, o7, o8, _, _ => ⟨o7, o8, rfl⟩
  | p :: B, v, o7, o8, h, hv => by
    have hp := h p List.mem_cons_self
    have hb := hA.b p hp
    have pos := hA.r.pos p hp
    have lt := hA.r.lt p hp
    obtain ⟨p7, p8, e⟩ := vc_loop hA hs hf (v0 := v0) (v1 := v1) (v2 := v2) (v3 := v3) (v4 := v4) (v5 := v5) (S0 := S0) B (vecS s f v p) (some (.int p.1)) (some (il p.2)) (fun q hq => h q (List.mem_cons_of_mem _ hq)) (by unfold vecS; rw [List.length_set]; exact hv)
    have ix1 := fun S => ix_il (S := S) (show p.1 < p.2.length by rw [hA.r.len p hp]; exact lt)
    have ix2 := fun S => ix_il (S := S) (show f < p.2.length by rw [hA.r.len p hp]; exact hf)
    have dv := Bi.divOk ((hb.gt p.1).up (show 4000 ≤ 9000 by decide)) (show gt p.2 p.1 ≠ 0 by omega)
    have q1 : ∀ S, bop .fdiv (.int s) (.int (gt p.2 p.1)) S = some (.int (s.fdiv (gt p.2 p.1))) := fun S => by simp only [bop, intOp, dv, if_true, Option.map_some]
    have hq : Bi 300000 (s.fdiv (gt p.2 p.1)) := Nat.lt_of_le_of_lt (by
      generalize gt p.2 p.1 = x at pos ⊢
      obtain ⟨y, rfl⟩ := Int.eq_ofNat_of_zero_le (Int.le_of_lt pos)
      rw [Int.fdiv_eq_ediv_of_nonneg _ (Int.natCast_nonneg _)]
      exact Int.natAbs_ediv_le_natAbs _ _) hs
    have m := Bi.mulOk ((hb.gt f).up (show 4000 ≤ 400000 by decide)) (hq.up (show 300000 ≤ 400000 by decide))
    have q2 : ∀ S, bop .mul (.int (gt p.2 f)) (.int (s.fdiv (gt p.2 p.1))) S = some (.int (gt p.2 f * s.fdiv (gt p.2 p.1))) := fun S => by simp only [bop, intOp, m, if_true, Option.map_some]
    have q3 : ∀ x S, bop .sub (.int 0) (.int x) S = some (.int (0 - x)) := fun x S => rfl
    have si : ∀ {ρ : Rho} {x : Int}, setIK ρ (.int x) (.ref S0.length) (.int p.1) (S0 ++ [.lst (v.map D.int)]) = .ok (.nx, ρ) (S0 ++ [.lst ((v.set p.1 x).map D.int)]) := fun {ρ x} => by
      rw [setI_at app_get (by rw [hv]; exact lt), app_set]
    refine ⟨p7, p8, (loopM_nx (ρ1 := [v0, v1, v2, v3, v4, v5, some (.int s), some (.int p.1), some (il p.2), some (.int f), some (.ref S0.length)]) rfl ?_).trans e⟩
    simp only [k_vc, b_kernel_in, qOpt, qRet, bnd_ok, bnd_exc, bnd_err, flow_nx, flow_rt, flow_bk, flow_ct, flow_exc, end_nx, end_rt, end_exc, e_var, g_0, g_s, e_cst, e_bin, e_neg, e_not, e_cmp, e_chain, e_and, e_or, e_ite, e_tup, e_lst, e_lstM, e_lstS, e_dct, e_idx, e_slc, e_rev, e_isi, e_fz, e_repM, fz_lst, fz_tup, fz_dct, m_dget, e_blt, e_call, e_mth, m_tindex, m_tcount, e_lc, l_nil, l_cons, l_star, t_nil, t_cons, o_no, o_so, i_seq, i_rng1, i_rng2, i_zip, i_enum, i_enumT, k_enumT, k_neg, k_int, k_seqT, k_seqL, k_seqF, k_starT, k_starL, k_zipT, k_zipL, k_zipM, k_zipM2, k_enum, k_rng, k_rng2, tr_bl, tr_int, tr_tup, tr_lst, s_nil, s_cons, x_expr, x_set, x_setT, x_par, x_setI, x_aug, x_cond, x_loop, x_while, x_ret, x_retN, x_pass, x_brk, x_cont, x_run, b_lenT, b_lenL, b_lenF, b_tupT, b_tupL, b_lstT, b_lstL, b_allL, b_anyL, b_sumL, b_sumT, b_abs, b_max, b_min, b_intI, b_intB, q_ii, q_ss, mapR_some, andR_ite, orR_ite, unpK, parK, augK, setTg, setAll, wipe, blt, blt0, seqOf, lstOf, cop, atP, place, Option.map_some, Option.map_none, Option.bind_some, Option.bind_none, eq_self, reduceCtorEq, Int.reduceLE, Int.reduceLT, Int.reduceNeg, Int.reduceEq, Int.reduceToNat, Int.reduceAdd, Int.reduceSub, Nat.reduceLeDiff, reduceIte,  List.flatten_cons, List.flatten_nil, List.length_map, List.map_cons, List.map_nil, List.length_cons, List.length_nil, List.replicate_succ, List.replicate_zero, List.cons_append, List.nil_append, List.append_nil, List.set_cons_zero, List.set_cons_succ, Bool.not_true, Bool.not_false, if_true, if_false, ite_true, ite_false, Bool.false_eq_true, decide_true, decide_false, Bool.or_true, Bool.true_or, Bool.or_false, Bool.false_or, Bool.and_true, Bool.true_and, Bool.and_false, Bool.false_and, decide_eq_true_eq, Nat.reduceAdd, Nat.reduceSub, Nat.zero_add, Function.comp_apply, ix0, ix1, ix2, ixL0, ixL1, ixL2, Int.cast_ofNat_Int, List.all_cons, List.all_nil, id_eq, ix1, ix2, q1, q2, q3, si]
    rfl
/-- one column -/
theorem fr_step {A : List (Nat × Row)} (hA : RedS n A) {s : Int} {f m : Nat} {vs : List D} (hs : Bi 300000 s) (hf : f < n) (hm : S[m]? = some (.lst vs)) (hl : vs.length ≤ 1000) {v0 v3 o7 o8 o10 : Option D} :
    ∃ p7 p8 p10 S', execs (callI prog w (k + 1)) w k_fr [v0, some (.int n), some (.lst (A.map pq)), v3, some (.dct (A.map fun p => D.int p.1) (A.map fun p => il p.2)), some (.ref m), some (.int s), o7, o8, some (.int f), o10] S
      = .ok (.nx, [v0, some (.int n), some (.lst (A.map pq)), v3, some (.dct (A.map fun p => D.int p.1) (A.map fun p => il p.2)), some (.ref m), some (.int s), p7, p8, some (.int f), p10]) S' ∧
      S'[m]? = some (.lst (vs ++ if freeB A f then [il (vecF s A n f)] else [])) ∧ S.length ≤ S'.length ∧ ∀ i, i ≠ m → i < S.length → S'[i]? = S[i]? := by
  have hml : m < S.length := (List.getElem?_eq_some_iff.mp hm).1
  have inn : ∀ S, inD S (.int f) (.dct (A.map fun p => D.int p.1) (A.map fun p => il p.2)) = some (!freeB A f) := fun S => by rw [in_dct rfl, any_free]
  by_cases hfr : freeB A f = true
  · have rp : repK (.lst [.int 0]) (.int (n : Int)) S = .ok (.ref S.length) (S ++ [.lst ((List.replicate n (0 : Int)).map D.int)]) := by
      have h60 := hA.n60
      rw [rep_l (by simp; exact lineB (by omega)) (lineB (by omega)), rep_flat, List.map_replicate]
    have si : ∀ {ρ : Rho}, setIK ρ (.int s) (.ref S.length) (.int f) (S ++ [.lst ((List.replicate n (0 : Int)).map D.int)]) = .ok (.nx, ρ) (S ++ [.lst ((vec0 s n f).map D.int)]) := fun {ρ} => by
      rw [setI_at app_get (by simpa using hf), app_set]; rfl
    obtain ⟨p7, p8, e⟩ := vc_loop (w := w) (k := k) hA (s := s) (f := f) hs hf (v0 := v0) (v1 := some (.int n)) (v2 := some (.lst (A.map pq))) (v3 := v3) (v4 := some (.dct (A.map fun p => D.int p.1) (A.map fun p => il p.2))) (v5 := some (.ref m)) (S0 := S) A (vec0 s n f) o7 o8 (fun _ h => h) (by simp [vec0])
    have fz : fzK (.ref S.length) (S ++ [.lst ((A.foldl (vecS s f) (vec0 s n f)).map D.int)]) = .ok (il (vecF s A n f)) (S ++ [.fzl ((vecF s A n f).map D.int)]) := by
      rw [fz_ref app_get, app_set]; rfl
    have g1 : ∀ x : O, (S ++ [x])[m]? = some (.lst vs) := fun x => by rw [List.getElem?_append_left hml]; exact hm
    have mo : ∀ x : O, mthOk .append (.ref m) (S ++ [x]) = some () := fun x => m_append (g1 x)
    have ap := m_appendR (x := il (vecF s A n f)) (g1 (O.fzl ((vecF s A n f).map D.int))) (lineB (n := vs.length + 1) (by omega))
    simp only [k_vc, b_kernel_in] at e
    refine ⟨p7, p8, some (.ref S.length), (S ++ [O.fzl ((vecF s A n f).map D.int)]).set m (.lst (vs ++ [il (vecF s A n f)])), ?_, ?_, ?_, fun i hi hl => ?_⟩
    · simp only [k_fr, b_kernel_in, qOpt, qRet, bnd_ok, bnd_exc, bnd_err, flow_nx, flow_rt, flow_bk, flow_ct, flow_exc, end_nx, end_rt, end_exc, e_var, g_0, g_s, e_cst, e_bin, e_neg, e_not, e_cmp, e_chain, e_and, e_or, e_ite, e_tup, e_lst, e_lstM, e_lstS, e_dct, e_idx, e_slc, e_rev, e_isi, e_fz, e_repM, fz_lst, fz_tup, fz_dct, m_dget, e_blt, e_call, e_mth, m_tindex, m_tcount, e_lc, l_nil, l_cons, l_star, t_nil, t_cons, o_no, o_so, i_seq, i_rng1, i_rng2, i_zip, i_enum, i_enumT, k_enumT, k_neg, k_int, k_seqT, k_seqL, k_seqF, k_starT, k_starL, k_zipT, k_zipL, k_zipM, k_zipM2, k_enum, k_rng, k_rng2, tr_bl, tr_int, tr_tup, tr_lst, s_nil, s_cons, x_expr, x_set, x_setT, x_par, x_setI, x_aug, x_cond, x_loop, x_while, x_ret, x_retN, x_pass, x_brk, x_cont, x_run, b_lenT, b_lenL, b_lenF, b_tupT, b_tupL, b_lstT, b_lstL, b_allL, b_anyL, b_sumL, b_sumT, b_abs, b_max, b_min, b_intI, b_intB, q_ii, q_ss, mapR_some, andR_ite, orR_ite, unpK, parK, augK, setTg, setAll, wipe, blt, blt0, seqOf, lstOf, cop, atP, place, Option.map_some, Option.map_none, Option.bind_some, Option.bind_none, eq_self, reduceCtorEq, Int.reduceLE, Int.reduceLT, Int.reduceNeg, Int.reduceEq, Int.reduceToNat, Int.reduceAdd, Int.reduceSub, Nat.reduceLeDiff, reduceIte,  List.flatten_cons, List.flatten_nil, List.length_map, List.map_cons, List.map_nil, List.length_cons, List.length_nil, List.replicate_succ, List.replicate_zero, List.cons_append, List.nil_append, List.append_nil, List.set_cons_zero, List.set_cons_succ, Bool.not_true, Bool.not_false, if_true, if_false, ite_true, ite_false, Bool.false_eq_true, decide_true, decide_false, Bool.or_true, Bool.true_or, Bool.or_false, Bool.false_or, Bool.and_true, Bool.true_and, Bool.and_false, Bool.false_and, decide_eq_true_eq, Nat.reduceAdd, Nat.reduceSub, Nat.zero_add, Function.comp_apply, ix0, ix1, ix2, ixL0, ixL1, ixL2, Int.cast_ofNat_Int, List.all_cons, List.all_nil, id_eq, inn, hfr, Bool.not_true, Bool.not_false, rp, si, e, fz, mo, ap]
    · rw [if_pos hfr, List.getElem?_set_self (by simp; omega)]
    · simp
    · rw [List.getElem?_set_ne (Ne.symm hi), List.getElem?_append_left hl]
  · have hfr : freeB A f = false := by simpa using hfr
    refine ⟨o7, o8, o10, S, ?_, ?_, Nat.le_refl _, fun _ _ _ => rfl⟩
    · simp only [k_fr, b_kernel_in, qOpt, qRet, bnd_ok, bnd_exc, bnd_err, flow_nx, flow_rt, flow_bk, flow_ct, flow_exc, end_nx, end_rt, end_exc, e_var, g_0, g_s, e_cst, e_bin, e_neg, e_not, e_cmp, e_chain, e_and, e_or, e_ite, e_tup, e_lst, e_lstM, e_lstS, e_dct, e_idx, e_slc, e_rev, e_isi, e_fz, e_repM, fz_lst, fz_tup, fz_dct, m_dget, e_blt, e_call, e_mth, m_tindex, m_tcount, e_lc, l_nil, l_cons, l_star, t_nil, t_cons, o_no, o_so, i_seq, i_rng1, i_rng2, i_zip, i_enum, i_enumT, k_enumT, k_neg, k_int, k_seqT, k_seqL, k_seqF, k_starT, k_starL, k_zipT, k_zipL, k_zipM, k_zipM2, k_enum, k_rng, k_rng2, tr_bl, tr_int, tr_tup, tr_lst, s_nil, s_cons, x_expr, x_set, x_setT, x_par, x_setI, x_aug, x_cond, x_loop, x_while, x_ret, x_retN, x_pass, x_brk, x_cont, x_run, b_lenT, b_lenL, b_lenF, b_tupT, b_tupL, b_lstT, b_lstL, b_allL, b_anyL, b_sumL, b_sumT, b_abs, b_max, b_min, b_intI, b_intB, q_ii, q_ss, mapR_some, andR_ite, orR_ite, unpK, parK, augK, setTg, setAll, wipe, blt, blt0, seqOf, lstOf, cop, atP, place, Option.map_some, Option.map_none, Option.bind_some, Option.bind_none, eq_self, reduceCtorEq, Int.reduceLE, Int.reduceLT, Int.reduceNeg, Int.reduceEq, Int.reduceToNat, Int.reduceAdd, Int.reduceSub, Nat.reduceLeDiff, reduceIte,  List.flatten_cons, List.flatten_nil, List.length_map, List.map_cons, List.map_nil, List.length_cons, List.length_nil, List.replicate_succ, List.replicate_zero, List.cons_append, List.nil_append, List.append_nil, List.set_cons_zero, List.set_cons_succ, Bool.not_true, Bool.not_false, if_true, if_false, ite_true, ite_false, Bool.false_eq_true, decide_true, decide_false, Bool.or_true, Bool.true_or, Bool.or_false, Bool.false_or, Bool.and_true, Bool.true_and, Bool.and_false, Bool.false_and, decide_eq_true_eq, Nat.reduceAdd, Nat.reduceSub, Nat.zero_add, Function.comp_apply, ix0, ix1, ix2, ixL0, ixL1, ixL2, Int.cast_ofNat_Int, List.all_cons, List.all_nil, id_eq, inn, hfr, Bool.not_true, Bool.not_false]
    · rw [hfr]; simpa using hm
theorem fr_loop {A : List (Nat × Row)} (hA : RedS n A) {s : Int} {m : Nat} (hs : Bi 300000 s) {v0 v3 : Option D} : ∀ (cs : List Nat) (vs : List D) (S : Store) (o7 o8 o9 o10 : Option D), (∀ f ∈ cs, f < n) → S[m]? = some (.lst vs) → vs.length + cs.length ≤ 1000 →
    ∃ p7 p8 p9 p10 S', loopM (callI prog w (k + 1)) w (.nm 9) k_fr (cs.map fun (i : Nat) => D.int (i : Int)) [v0, some (.int n), some (.lst (A.map pq)), v3, some (.dct (A.map fun p => D.int p.1) (A.map fun p => il p.2)), some (.ref m), some (.int s), o7, o8, o9, o10] S
      = .ok (.nx, [v0, some (.int n), some (.lst (A.map pq)), v3, some (.dct (A.map fun p => D.int p.1) (A.map fun p => il p.2)), some (.ref m), some (.int s), p7, p8, p9, p10]) S' ∧
      S'[m]? = some (.lst (vs ++ (cs.filter (freeB A)).map fun f => il (vecF s A n f))) ∧ S.length ≤ S'.length ∧ ∀ i, i ≠ m → i < S.length → S'[i]? = S[i]?
  | [], vs, S, o7, o8, o9, o10, _, hm, _ => ⟨o7, o8, o9, o10, S, rfl, by simpa using hm, Nat.le_refl _, fun _ _ _ => rfl⟩
  | f :: cs, vs, S, o7, o8, o9, o10, hf, hm, hl => by
    rw [List.length_cons] at hl
    obtain ⟨p7, p8, p10, S1, e1, m1, l1, k1⟩ := fr_step (w := w) (k := k) hA hs (hf f List.mem_cons_self) hm (by omega) (v0 := v0) (v3 := v3) (o7 := o7) (o8 := o8) (o10 := o10)
    obtain ⟨q7, q8, q9, q10, S2, e2, m2, l2, k2⟩ := fr_loop hA hs (v0 := v0) (v3 := v3) cs _ S1 p7 p8 (some (.int f)) p10 (fun g hg => hf g (List.mem_cons_of_mem _ hg)) m1 (by split <;> simp <;> omega)
    refine ⟨q7, q8, q9, q10, S2, (loopM_nx (ρ1 := [v0, some (.int n), some (.lst (A.map pq)), v3, some (.dct (A.map fun p => D.int p.1) (A.map fun p => il p.2)), some (.ref m), some (.int s), o7, o8, some (.int f), o10]) rfl e1).trans e2, ?_, by omega, fun i h1 h2 => (k2 i h1 (by omega)).trans (k1 i h1 h2)⟩
    rw [m2, List.filter_cons]
    split <;> simp
theorem s_eliminatedL (hw : 1000000 ≤ w) {rows : List Row} (hn : n ≤ 60) (hm : rows.length ≤ 900) (ok : Oks n (List.range n) ([], rows)) : callI prog w (k + 6) 8 [.lst (rows.map il), .int n] S = .ok (.tup [.lst ((elimF rows n).1.map pq), .lst ((elimF rows n).2.map il)]) S := by
  have e1 := lcM_map (cf := callI prog w (k + 5)) (ρ := [some (.lst (rows.map il)), some (.int n), none, none, none, none, none, none, none]) (S := S) (elt := .blt .list (.cons (.var 7) .nil)) (tg := .nm 7) (own := [7]) il il rows fun r hr => ⟨_, rfl, by simp only [qOpt, qRet, bnd_ok, bnd_exc, bnd_err, flow_nx, flow_rt, flow_bk, flow_ct, flow_exc, end_nx, end_rt, end_exc, e_var, g_0, g_s, e_cst, e_bin, e_neg, e_not, e_cmp, e_chain, e_and, e_or, e_ite, e_tup, e_lst, e_lstM, e_lstS, e_dct, e_idx, e_slc, e_rev, e_isi, e_fz, e_repM, fz_lst, fz_tup, fz_dct, m_dget, e_blt, e_call, e_mth, m_tindex, m_tcount, e_lc, l_nil, l_cons, l_star, t_nil, t_cons, o_no, o_so, i_seq, i_rng1, i_rng2, i_zip, i_enum, i_enumT, k_enumT, k_neg, k_int, k_seqT, k_seqL, k_seqF, k_starT, k_starL, k_zipT, k_zipL, k_zipM, k_zipM2, k_enum, k_rng, k_rng2, tr_bl, tr_int, tr_tup, tr_lst, s_nil, s_cons, x_expr, x_set, x_setT, x_par, x_setI, x_aug, x_cond, x_loop, x_while, x_ret, x_retN, x_pass, x_brk, x_cont, x_run, b_lenT, b_lenL, b_lenF, b_tupT, b_tupL, b_lstT, b_lstL, b_allL, b_anyL, b_sumL, b_sumT, b_abs, b_max, b_min, b_intI, b_intB, q_ii, q_ss, mapR_some, andR_ite, orR_ite, unpK, parK, augK, setIK, setTg, setAll, wipe, blt, blt0, seqOf, lstOf, cop, bop, intOp, atP, place, Option.map_some, Option.map_none, Option.bind_some, Option.bind_none, eq_self, reduceCtorEq, Int.reduceLE, Int.reduceLT, Int.reduceNeg, Int.reduceEq, Int.reduceToNat, Int.reduceAdd, Int.reduceSub, Nat.reduceLeDiff, reduceIte,  List.flatten_cons, List.flatten_nil, List.length_map, List.map_cons, List.map_nil, List.length_cons, List.length_nil, List.replicate_succ, List.replicate_zero, List.cons_append, List.nil_append, List.append_nil, List.set_cons_zero, List.set_cons_succ, Bool.not_true, Bool.not_false, if_true, if_false, ite_true, ite_false, Bool.false_eq_true, decide_true, decide_false, Bool.or_true, Bool.true_or, Bool.or_false, Bool.false_or, Bool.and_true, Bool.true_and, Bool.and_false, Bool.false_and, decide_eq_true_eq, Nat.reduceAdd, Nat.reduceSub, Nat.zero_add, Function.comp_apply, ix0, ix1, ix2, ixL0, ixL1, ixL2, Int.cast_ofNat_Int, List.all_cons, List.all_nil, id_eq]⟩
  obtain ⟨p4, p5, p6, e2⟩ := el_loop (w := w) (k := k) (S := S) hw (show n ≤ 1000 by omega) (v0 := some (.lst (rows.map il))) (v1 := some (.int n)) (List.range n) ([], rows) none none none ok (fun c hc => List.mem_range.mp hc) (by show rows.length ≤ 1000; omega) (by simp; omega)
  simp only [b_el, b_eliminated, List.map_nil] at e2
  rw [u_eliminated]
  simp only [b_eliminated, qOpt, qRet, bnd_ok, bnd_exc, bnd_err, flow_nx, flow_rt, flow_bk, flow_ct, flow_exc, end_nx, end_rt, end_exc, e_var, g_0, g_s, e_cst, e_bin, e_neg, e_not, e_cmp, e_chain, e_and, e_or, e_ite, e_tup, e_lst, e_lstM, e_lstS, e_dct, e_idx, e_slc, e_rev, e_isi, e_fz, e_repM, fz_lst, fz_tup, fz_dct, m_dget, e_blt, e_call, e_mth, m_tindex, m_tcount, e_lc, l_nil, l_cons, l_star, t_nil, t_cons, o_no, o_so, i_seq, i_rng1, i_rng2, i_zip, i_enum, i_enumT, k_enumT, k_neg, k_int, k_seqT, k_seqL, k_seqF, k_starT, k_starL, k_zipT, k_zipL, k_zipM, k_zipM2, k_enum, k_rng, k_rng2, tr_bl, tr_int, tr_tup, tr_lst, s_nil, s_cons, x_expr, x_set, x_setT, x_par, x_setI, x_aug, x_cond, x_loop, x_while, x_ret, x_retN, x_pass, x_brk, x_cont, x_run, b_lenT, b_lenL, b_lenF, b_tupT, b_tupL, b_lstT, b_lstL, b_allL, b_anyL, b_sumL, b_sumT, b_abs, b_max, b_min, b_intI, b_intB, q_ii, q_ss, mapR_some, andR_ite, orR_ite, unpK, parK, augK, setIK, setTg, setAll, wipe, blt, blt0, seqOf, lstOf, cop, bop, intOp, atP, place, Option.map_some, Option.map_none, Option.bind_some, Option.bind_none, eq_self, reduceCtorEq, Int.reduceLE, Int.reduceLT, Int.reduceNeg, Int.reduceEq, Int.reduceToNat, Int.reduceAdd, Int.reduceSub, Nat.reduceLeDiff, reduceIte,  List.flatten_cons, List.flatten_nil, List.length_map, List.map_cons, List.map_nil, List.length_cons, List.length_nil, List.replicate_succ, List.replicate_zero, List.cons_append, List.nil_append, List.append_nil, List.set_cons_zero, List.set_cons_succ, Bool.not_true, Bool.not_false, if_true, if_false, ite_true, ite_false, Bool.false_eq_true, decide_true, decide_false, Bool.or_true, Bool.true_or, Bool.or_false, Bool.false_or, Bool.and_true, Bool.true_and, Bool.and_false, Bool.false_and, decide_eq_true_eq, Nat.reduceAdd, Nat.reduceSub, Nat.zero_add, Function.comp_apply, ix0, ix1, ix2, ixL0, ixL1, ixL2, Int.cast_ofNat_Int, List.all_cons, List.all_nil, id_eq, e1, k_rng (n := n) (lineB (by omega)), e2]
  rfl
theorem s_reduced_inL (hw : 1000000 ≤ w) {rows : List Row} (hn : n ≤ 60) (h0 : rows ≠ []) (hr : ∀ r ∈ rows, r.length = n) (hm : rows.length ≤ 900) (ok : Oks n (List.range n) ([], rows)) : callI prog w (k + 7) 9 [.lst (rows.map il)] S = .ok (rr (elimF rows n).1) S := by
  have e1 := s_eliminatedL (w := w) (k := k) (S := S) hw hn hm ok
  have e2 := lcM_map (cf := callI prog w (k + 6)) (ρ := [some (.lst (rows.map il)), some (.lst ((elimF rows n).1.map pq)), some (.lst ((elimF rows n).2.map il)), none, none]) (S := S) (elt := .blt .tuple (.cons (.var 4) .nil)) (tg := .tp [3, 4]) (own := [3, 4]) pq (fun q => iv q.2) (elimF rows n).1 fun r hr => ⟨_, rfl, by simp only [qOpt, qRet, bnd_ok, bnd_exc, bnd_err, flow_nx, flow_rt, flow_bk, flow_ct, flow_exc, end_nx, end_rt, end_exc, e_var, g_0, g_s, e_cst, e_bin, e_neg, e_not, e_cmp, e_chain, e_and, e_or, e_ite, e_tup, e_lst, e_lstM, e_lstS, e_dct, e_idx, e_slc, e_rev, e_isi, e_fz, e_repM, fz_lst, fz_tup, fz_dct, m_dget, e_blt, e_call, e_mth, m_tindex, m_tcount, e_lc, l_nil, l_cons, l_star, t_nil, t_cons, o_no, o_so, i_seq, i_rng1, i_rng2, i_zip, i_enum, i_enumT, k_enumT, k_neg, k_int, k_seqT, k_seqL, k_seqF, k_starT, k_starL, k_zipT, k_zipL, k_zipM, k_zipM2, k_enum, k_rng, k_rng2, tr_bl, tr_int, tr_tup, tr_lst, s_nil, s_cons, x_expr, x_set, x_setT, x_par, x_setI, x_aug, x_cond, x_loop, x_while, x_ret, x_retN, x_pass, x_brk, x_cont, x_run, b_lenT, b_lenL, b_lenF, b_tupT, b_tupL, b_lstT, b_lstL, b_allL, b_anyL, b_sumL, b_sumT, b_abs, b_max, b_min, b_intI, b_intB, q_ii, q_ss, mapR_some, andR_ite, orR_ite, unpK, parK, augK, setIK, setTg, setAll, wipe, blt, blt0, seqOf, lstOf, cop, bop, intOp, atP, place, Option.map_some, Option.map_none, Option.bind_some, Option.bind_none, eq_self, reduceCtorEq, Int.reduceLE, Int.reduceLT, Int.reduceNeg, Int.reduceEq, Int.reduceToNat, Int.reduceAdd, Int.reduceSub, Nat.reduceLeDiff, reduceIte,  List.flatten_cons, List.flatten_nil, List.length_map, List.map_cons, List.map_nil, List.length_cons, List.length_nil, List.replicate_succ, List.replicate_zero, List.cons_append, List.nil_append, List.append_nil, List.set_cons_zero, List.set_cons_succ, Bool.not_true, Bool.not_false, if_true, if_false, ite_true, ite_false, Bool.false_eq_true, decide_true, decide_false, Bool.or_true, Bool.true_or, Bool.or_false, Bool.false_or, Bool.and_true, Bool.true_and, Bool.and_false, Bool.false_and, decide_eq_true_eq, Nat.reduceAdd, Nat.reduceSub, Nat.zero_add, Function.comp_apply, ix0, ix1, ix2, ixL0, ixL1, ixL2, Int.cast_ofNat_Int, List.all_cons, List.all_nil, id_eq]⟩
  have ix : ∀ S, idxD S (.lst (rows.map il)) (.int 0) = some (il (rows.head h0)) := fun S => by
    cases rows with
    | nil => exact absurd rfl h0
    | cons a l => exact ixL0
  have hh : (((rows.head h0).length : Nat) : Int) = n := by rw [hr _ (List.head_mem h0)]
  rw [u_reduced_in]
  simp only [b_reduced_in, qOpt, qRet, bnd_ok, bnd_exc, bnd_err, flow_nx, flow_rt, flow_bk, flow_ct, flow_exc, end_nx, end_rt, end_exc, e_var, g_0, g_s, e_cst, e_bin, e_neg, e_not, e_cmp, e_chain, e_and, e_or, e_ite, e_tup, e_lst, e_lstM, e_lstS, e_dct, e_idx, e_slc, e_rev, e_isi, e_fz, e_repM, fz_lst, fz_tup, fz_dct, m_dget, e_blt, e_call, e_mth, m_tindex, m_tcount, e_lc, l_nil, l_cons, l_star, t_nil, t_cons, o_no, o_so, i_seq, i_rng1, i_rng2, i_zip, i_enum, i_enumT, k_enumT, k_neg, k_int, k_seqT, k_seqL, k_seqF, k_starT, k_starL, k_zipT, k_zipL, k_zipM, k_zipM2, k_enum, k_rng, k_rng2, tr_bl, tr_int, tr_tup, tr_lst, s_nil, s_cons, x_expr, x_set, x_setT, x_par, x_setI, x_aug, x_cond, x_loop, x_while, x_ret, x_retN, x_pass, x_brk, x_cont, x_run, b_lenT, b_lenL, b_lenF, b_tupT, b_tupL, b_lstT, b_lstL, b_allL, b_anyL, b_sumL, b_sumT, b_abs, b_max, b_min, b_intI, b_intB, q_ii, q_ss, mapR_some, andR_ite, orR_ite, unpK, parK, augK, setIK, setTg, setAll, wipe, blt, blt0, seqOf, lstOf, cop, bop, intOp, atP, place, Option.map_some, Option.map_none, Option.bind_some, Option.bind_none, eq_self, reduceCtorEq, Int.reduceLE, Int.reduceLT, Int.reduceNeg, Int.reduceEq, Int.reduceToNat, Int.reduceAdd, Int.reduceSub, Nat.reduceLeDiff, reduceIte,  List.flatten_cons, List.flatten_nil, List.length_map, List.map_cons, List.map_nil, List.length_cons, List.length_nil, List.replicate_succ, List.replicate_zero, List.cons_append, List.nil_append, List.append_nil, List.set_cons_zero, List.set_cons_succ, Bool.not_true, Bool.not_false, if_true, if_false, ite_true, ite_false, Bool.false_eq_true, decide_true, decide_false, Bool.or_true, Bool.true_or, Bool.or_false, Bool.false_or, Bool.and_true, Bool.true_and, Bool.and_false, Bool.false_and, decide_eq_true_eq, Nat.reduceAdd, Nat.reduceSub, Nat.zero_add, Function.comp_apply, ix0, ix1, ix2, ixL0, ixL1, ixL2, Int.cast_ofNat_Int, List.all_cons, List.all_nil, id_eq, ix, hh, e1, e2]
theorem s_kernel_in (hw : 1000000 ≤ w) {rows : List Row} (h : Rows n rows) (ok : Oks n (List.range n) ([], rows)) (hA : RedS n (elimF rows n).1) (okv : Oks n (List.range n) ([], vecsF (elimF rows n).1 n)) :
    ∃ S', callI prog w (k + 8) 10 [rv rows, .int n] S = .ok (rr (kerB (elimF rows n).1 n)) S' ∧ S.length ≤ S'.length ∧ ∀ i < S.length, S'[i]? = S[i]? := by
  have e1 := fun S => s_eliminated (w := w) (k := k + 1) (S := S) hw h ok
  generalize hB : (elimF rows n).1 = A at *
  have l60 := len60 hA
  have n60 := hA.n60
  obtain ⟨pos, _, dv⟩ := lcm_fold A 1 (by decide) hA.r.pos
  obtain ⟨p7, p8, e2⟩ := sc_loop (w := w) (k := k + 6) (S := S ++ [.lst []]) hw hA (v0 := some (rv rows)) (v1 := some (.int n)) (v2 := some (.lst (A.map pq))) (v3 := some (.lst ((elimF rows n).2.map il))) (v4 := some (.dct (A.map fun p => D.int p.1) (A.map fun p => il p.2))) (v5 := some (.ref S.length)) (v9 := none) (v10 := none) A 1 1 none none (fun _ h => h) (by decide) (by unfold Bi; decide) (by omega)
  have hs : Bi 300000 (lcmF A) := (lcm_bits A 1 1 (by decide) (fun p hp => ⟨hA.r.pos p hp, hA.b p hp⟩) (by unfold Bi; decide)).up (by omega)
  obtain ⟨q7, q8, q9, q10, S2, e3, m3, l3, k3⟩ := fr_loop (w := w) (k := k + 6) (n := n) (m := S.length) hA hs (v0 := some (rv rows)) (v3 := some (.lst ((elimF rows n).2.map il))) (List.range n) [] (S ++ [.lst []]) p7 p8 none none (fun f hf => List.mem_range.mp hf) app_get (by simp; omega)
  have ev : (List.map (fun f => il (vecF (lcmF A) A n f)) ((List.range n).filter (freeB A))) = (vecsF A n).map il := by
    unfold vecsF frees
    rw [List.map_map]; rfl
  rw [List.nil_append, ev] at m3
  have vl := vecs_len hA.r
  have vb : ∀ r ∈ vecsF A n, r.length = n ∧ Br 4000 r := fun r hr => by
    cases hc : List.range n with
    | nil => have h0 : n = 0 := by simpa using congrArg List.length hc
             have := h.n1; omega
    | cons c cs => rw [hc] at okv; exact okv.1.l r hr
  have vc := vecs_count hA.r
  have qn := fun S => eq_nilL (S := S) (lefts_dt (K := 0) vb (by omega) (show (vecsF A n).length ≤ 1000 by omega)) (by decide)
  have hml : S.length < S2.length := by simp at l3; omega
  have f1 := fz_ref m3
  have g2 : (S2.set S.length (.fzl ((vecsF A n).map il)))[S.length]? = some (.fzl ((vecsF A n).map il)) := List.getElem?_set_self hml
  have f2 := fz_refF g2
  refine ⟨S2.set S.length (.fzl ((vecsF A n).map il)), ?_, by simp at l3 ⊢; omega, fun i hi => ?_⟩
  · rw [u_kernel_in]
    have e2' : loopM (callI prog w (k + 6 + 1)) w (.tp [7, 8]) k_sc (A.map pq) _ _ = _ := e2
    simp only [k_sc, k_fr, b_kernel_in] at e2 e3
    have e1' : ∀ S, callI prog w (k + 7) 8 [rv rows, .int n] S = .ok (.tup [.lst (A.map pq), .lst ((elimF rows n).2.map il)]) S := e1
    have lc : A.foldl lcmS 1 = lcmF A := rfl
    by_cases hv : vecsF A n = []
    · have hk : kerB A n = [] := by
        have := (kerB_is hA.r).len
        rw [hv, List.length_nil] at vc
        exact List.eq_nil_of_length_eq_zero (by omega)
      simp only [b_kernel_in, qOpt, qRet, bnd_ok, bnd_exc, bnd_err, flow_nx, flow_rt, flow_bk, flow_ct, flow_exc, end_nx, end_rt, end_exc, e_var, g_0, g_s, e_cst, e_bin, e_neg, e_not, e_cmp, e_chain, e_and, e_or, e_ite, e_tup, e_lst, e_lstM, e_lstS, e_dct, e_idx, e_slc, e_rev, e_isi, e_fz, e_repM, fz_lst, fz_tup, fz_dct, m_dget, e_blt, e_call, e_mth, m_tindex, m_tcount, e_lc, l_nil, l_cons, l_star, t_nil, t_cons, o_no, o_so, i_seq, i_rng1, i_rng2, i_zip, i_enum, i_enumT, k_enumT, k_neg, k_int, k_seqT, k_seqL, k_seqF, k_starT, k_starL, k_zipT, k_zipL, k_zipM, k_zipM2, k_enum, k_rng, k_rng2, tr_bl, tr_int, tr_tup, tr_lst, s_nil, s_cons, x_expr, x_set, x_setT, x_par, x_setI, x_aug, x_cond, x_loop, x_while, x_ret, x_retN, x_pass, x_brk, x_cont, x_run, b_lenT, b_lenL, b_lenF, b_tupT, b_tupL, b_lstT, b_lstL, b_allL, b_anyL, b_sumL, b_sumT, b_abs, b_max, b_min, b_intI, b_intB, q_ii, q_ss, mapR_some, andR_ite, orR_ite, unpK, parK, augK, setTg, setAll, wipe, blt, blt0, seqOf, lstOf, cop, atP, place, Option.map_some, Option.map_none, Option.bind_some, Option.bind_none, eq_self, reduceCtorEq, Int.reduceLE, Int.reduceLT, Int.reduceNeg, Int.reduceEq, Int.reduceToNat, Int.reduceAdd, Int.reduceSub, Nat.reduceLeDiff, reduceIte,  List.flatten_cons, List.flatten_nil, List.length_map, List.map_cons, List.map_nil, List.length_cons, List.length_nil, List.replicate_succ, List.replicate_zero, List.cons_append, List.nil_append, List.append_nil, List.set_cons_zero, List.set_cons_succ, Bool.not_true, Bool.not_false, if_true, if_false, ite_true, ite_false, Bool.false_eq_true, decide_true, decide_false, Bool.or_true, Bool.true_or, Bool.or_false, Bool.false_or, Bool.and_true, Bool.true_and, Bool.and_false, Bool.false_and, decide_eq_true_eq, Nat.reduceAdd, Nat.reduceSub, Nat.zero_add, Function.comp_apply, ix0, ix1, ix2, ixL0, ixL1, ixL2, Int.cast_ofNat_Int, List.all_cons, List.all_nil, id_eq, e1', dict_found hA.r, e2, lc, k_rng (n := n) (lineB (by omega)), e3, f1, qn, hv, List.isEmpty_nil, hk]
      rfl
    · have e4 := s_reduced_inL (w := w) (k := k) (S := S2.set S.length (.fzl ((vecsF A n).map il))) hw n60 hv vl (by omega) okv
      have em : ((vecsF A n).map il).isEmpty = false := by
        cases hc : vecsF A n with
        | nil => exact absurd hc hv
        | cons => rfl
      simp only [b_kernel_in, qOpt, qRet, bnd_ok, bnd_exc, bnd_err, flow_nx, flow_rt, flow_bk, flow_ct, flow_exc, end_nx, end_rt, end_exc, e_var, g_0, g_s, e_cst, e_bin, e_neg, e_not, e_cmp, e_chain, e_and, e_or, e_ite, e_tup, e_lst, e_lstM, e_lstS, e_dct, e_idx, e_slc, e_rev, e_isi, e_fz, e_repM, fz_lst, fz_tup, fz_dct, m_dget, e_blt, e_call, e_mth, m_tindex, m_tcount, e_lc, l_nil, l_cons, l_star, t_nil, t_cons, o_no, o_so, i_seq, i_rng1, i_rng2, i_zip, i_enum, i_enumT, k_enumT, k_neg, k_int, k_seqT, k_seqL, k_seqF, k_starT, k_starL, k_zipT, k_zipL, k_zipM, k_zipM2, k_enum, k_rng, k_rng2, tr_bl, tr_int, tr_tup, tr_lst, s_nil, s_cons, x_expr, x_set, x_setT, x_par, x_setI, x_aug, x_cond, x_loop, x_while, x_ret, x_retN, x_pass, x_brk, x_cont, x_run, b_lenT, b_lenL, b_lenF, b_tupT, b_tupL, b_lstT, b_lstL, b_allL, b_anyL, b_sumL, b_sumT, b_abs, b_max, b_min, b_intI, b_intB, q_ii, q_ss, mapR_some, andR_ite, orR_ite, unpK, parK, augK, setTg, setAll, wipe, blt, blt0, seqOf, lstOf, cop, atP, place, Option.map_some, Option.map_none, Option.bind_some, Option.bind_none, eq_self, reduceCtorEq, Int.reduceLE, Int.reduceLT, Int.reduceNeg, Int.reduceEq, Int.reduceToNat, Int.reduceAdd, Int.reduceSub, Nat.reduceLeDiff, reduceIte,  List.flatten_cons, List.flatten_nil, List.length_map, List.map_cons, List.map_nil, List.length_cons, List.length_nil, List.replicate_succ, List.replicate_zero, List.cons_append, List.nil_append, List.append_nil, List.set_cons_zero, List.set_cons_succ, Bool.not_true, Bool.not_false, if_true, if_false, ite_true, ite_false, Bool.false_eq_true, decide_true, decide_false, Bool.or_true, Bool.true_or, Bool.or_false, Bool.false_or, Bool.and_true, Bool.true_and, Bool.and_false, Bool.false_and, decide_eq_true_eq, Nat.reduceAdd, Nat.reduceSub, Nat.zero_add, Function.comp_apply, ix0, ix1, ix2, ixL0, ixL1, ixL2, Int.cast_ofNat_Int, List.all_cons, List.all_nil, id_eq, e1', dict_found hA.r, e2, lc, k_rng (n := n) (lineB (by omega)), e3, f1, qn, em, f2, e4]
      rfl
  · rw [List.getElem?_set_ne (by omega), k3 i (by omega) (by simp; omega), List.getElem?_append_left hi]
theorem s_kernel (hw : 1000000 ≤ w) {rows : List Row} (h : Rows n rows) (ok : Oks n (List.range n) ([], rows)) (hA : RedS n (elimF rows n).1) (okv : Oks n (List.range n) ([], vecsF (elimF rows n).1 n)) :
    ∃ S', callI prog w (k + 9) 12 [rv rows] S = .ok (rr (kerB (elimF rows n).1 n)) S' ∧ S.length ≤ S'.length ∧ ∀ i < S.length, S'[i]? = S[i]? := by
  obtain ⟨S', e, a, b⟩ := s_kernel_in (w := w) (k := k) (S := S) hw h ok hA okv
  have hn : (((rows.head h.m1).length : Nat) : Int) = n := by rw [h.len _ (List.head_mem h.m1)]
  have e4 : callI prog w (k + 8) 5 [rv rows] S = .ok .non S := by
    rw [u_require_rows]
    simp only [b_require_rows, qOpt, qRet, bnd_ok, bnd_exc, bnd_err, flow_nx, flow_rt, flow_bk, flow_ct, flow_exc, end_nx, end_rt, end_exc, e_var, g_0, g_s, e_cst, e_bin, e_neg, e_not, e_cmp, e_chain, e_and, e_or, e_ite, e_tup, e_lst, e_lstM, e_lstS, e_dct, e_idx, e_slc, e_rev, e_isi, e_fz, e_repM, fz_lst, fz_tup, fz_dct, m_dget, e_blt, e_call, e_mth, m_tindex, m_tcount, e_lc, l_nil, l_cons, l_star, t_nil, t_cons, o_no, o_so, i_seq, i_rng1, i_rng2, i_zip, i_enum, i_enumT, k_enumT, k_neg, k_int, k_seqT, k_seqL, k_seqF, k_starT, k_starL, k_zipT, k_zipL, k_zipM, k_zipM2, k_enum, k_rng, k_rng2, tr_bl, tr_int, tr_tup, tr_lst, s_nil, s_cons, x_expr, x_set, x_setT, x_par, x_setI, x_aug, x_cond, x_loop, x_while, x_ret, x_retN, x_pass, x_brk, x_cont, x_run, b_lenT, b_lenL, b_lenF, b_tupT, b_tupL, b_lstT, b_lstL, b_allL, b_anyL, b_sumL, b_sumT, b_abs, b_max, b_min, b_intI, b_intB, q_ii, q_ss, mapR_some, andR_ite, orR_ite, unpK, parK, augK, setIK, setTg, setAll, wipe, blt, blt0, seqOf, lstOf, cop, bop, intOp, atP, place, Option.map_some, Option.map_none, Option.bind_some, Option.bind_none, eq_self, reduceCtorEq, Int.reduceLE, Int.reduceLT, Int.reduceNeg, Int.reduceEq, Int.reduceToNat, Int.reduceAdd, Int.reduceSub, Nat.reduceLeDiff, reduceIte,  List.flatten_cons, List.flatten_nil, List.length_map, List.map_cons, List.map_nil, List.length_cons, List.length_nil, List.replicate_succ, List.replicate_zero, List.cons_append, List.nil_append, List.append_nil, List.set_cons_zero, List.set_cons_succ, Bool.not_true, Bool.not_false, if_true, if_false, ite_true, ite_false, Bool.false_eq_true, decide_true, decide_false, Bool.or_true, Bool.true_or, Bool.or_false, Bool.false_or, Bool.and_true, Bool.true_and, Bool.and_false, Bool.false_and, decide_eq_true_eq, Nat.reduceAdd, Nat.reduceSub, Nat.zero_add, Function.comp_apply, ix0, ix1, ix2, ixL0, ixL1, ixL2, Int.cast_ofNat_Int, List.all_cons, List.all_nil, id_eq, s_are_rows (k := k + 4) h]
  refine ⟨S', ?_, a, b⟩
  rw [u_kernel]
  simp only [b_kernel, qOpt, qRet, bnd_ok, bnd_exc, bnd_err, flow_nx, flow_rt, flow_bk, flow_ct, flow_exc, end_nx, end_rt, end_exc, e_var, g_0, g_s, e_cst, e_bin, e_neg, e_not, e_cmp, e_chain, e_and, e_or, e_ite, e_tup, e_lst, e_lstM, e_lstS, e_dct, e_idx, e_slc, e_rev, e_isi, e_fz, e_repM, fz_lst, fz_tup, fz_dct, m_dget, e_blt, e_call, e_mth, m_tindex, m_tcount, e_lc, l_nil, l_cons, l_star, t_nil, t_cons, o_no, o_so, i_seq, i_rng1, i_rng2, i_zip, i_enum, i_enumT, k_enumT, k_neg, k_int, k_seqT, k_seqL, k_seqF, k_starT, k_starL, k_zipT, k_zipL, k_zipM, k_zipM2, k_enum, k_rng, k_rng2, tr_bl, tr_int, tr_tup, tr_lst, s_nil, s_cons, x_expr, x_set, x_setT, x_par, x_setI, x_aug, x_cond, x_loop, x_while, x_ret, x_retN, x_pass, x_brk, x_cont, x_run, b_lenT, b_lenL, b_lenF, b_tupT, b_tupL, b_lstT, b_lstL, b_allL, b_anyL, b_sumL, b_sumT, b_abs, b_max, b_min, b_intI, b_intB, q_ii, q_ss, mapR_some, andR_ite, orR_ite, unpK, parK, augK, setIK, setTg, setAll, wipe, blt, blt0, seqOf, lstOf, cop, bop, intOp, atP, place, Option.map_some, Option.map_none, Option.bind_some, Option.bind_none, eq_self, reduceCtorEq, Int.reduceLE, Int.reduceLT, Int.reduceNeg, Int.reduceEq, Int.reduceToNat, Int.reduceAdd, Int.reduceSub, Nat.reduceLeDiff, reduceIte,  List.flatten_cons, List.flatten_nil, List.length_map, List.map_cons, List.map_nil, List.length_cons, List.length_nil, List.replicate_succ, List.replicate_zero, List.cons_append, List.nil_append, List.append_nil, List.set_cons_zero, List.set_cons_succ, Bool.not_true, Bool.not_false, if_true, if_false, ite_true, ite_false, Bool.false_eq_true, decide_true, decide_false, Bool.or_true, Bool.true_or, Bool.or_false, Bool.false_or, Bool.and_true, Bool.true_and, Bool.and_false, Bool.false_and, decide_eq_true_eq, Nat.reduceAdd, Nat.reduceSub, Nat.zero_add, Function.comp_apply, ix0, ix1, ix2, ixL0, ixL1, ixL2, Int.cast_ofNat_Int, List.all_cons, List.all_nil, id_eq, e4, i0 h.m1, hn, e]
end
end K07

set_option linter.all false
set_option maxRecDepth 10000
set_option exponentiation.threshold 10000
namespace K07
open Ln
open Rr (Row gt gl prim pdiv clr stepE elimF St less stepR rankF Red Lead Made Closed IsKer Ker dotz)
open PySem (PyData Str)
section
variable {w k n m N : Nat} {S : Store}
theorem repr_rv {rows : List Row} {M : Nat} (hM : M ≤ 1900) (h : ∀ r ∈ rows, r.length ≤ 60 ∧ Br M r) (hl : rows.length ≤ 60) : ∃ s : Str, ∀ S, reprF S [rv rows] = some (.str s) :=
  (Rp.tup (n := 60) (K := 1) (c := 60 * 1923 + 3) (fun y hy => by
    obtain ⟨r, hr, rfl⟩ := List.mem_map.mp hy
    exact Rp.iv (fun x hx => ((h r hr).2 x hx).up hM) (h r hr).1) (by rw [List.length_map]; exact hl)).repr (by decide) (by decide)
theorem empties {cf : Nat → List D → M D} {ρ : Rho} {e c : E} {tg : Tg} {own : List Nat} {α : Type} (g : α → D) (f : α → D) (l : List α) (h : ∀ x ∈ l, ∃ ρ', setTg (wipe ρ own) tg (g x) = some ρ' ∧ ev cf c ρ' S = .ok (.bl false) S) : lcM cf e tg (.cons c .nil) own ρ (l.map g) S = .ok (.lst []) S := by
  have := lcM_filter (cf := cf) (ρ := ρ) (S := S) (elt := e) (c := c) (tg := tg) (own := own) g f (fun _ => false) l fun x hx => by
    obtain ⟨ρ', h1, h2⟩ := h x hx
    exact ⟨ρ', h1, h2, fun h => nomatch h⟩
  rw [this]; simp
theorem ints_of : ∀ xs : List Int, intsD (xs.map D.int) = some xs
  | [] => rfl
  | x :: xs => by simp only [List.map_cons, intsD, ints_of xs, Option.map_some]
theorem s_dot {r v : Row} (hr : Br 400000 r) (hv : Br 400000 v) : callI prog w (k + 1) 16 [iv r, iv v] S = .ok (.int (dotz r v)) S := by
  have e := lcM_map (cf := callI prog w k) (ρ := [some (iv r), some (iv v), none, none]) (S := S) (elt := .bin .mul (.var 2) (.var 3)) (tg := .tp [2, 3]) (own := [2, 3]) (fun q : Int × Int => D.wtp [.int q.1, .int q.2]) (fun q => .int (q.1 * q.2)) (r.zip v) fun q hq => ⟨_, rfl, by
    have m := Bi.mulOk (hr q.1 (List.of_mem_zip hq).1) (hv q.2 (List.of_mem_zip hq).2)
    simp only [qOpt, qRet, bnd_ok, bnd_exc, bnd_err, flow_nx, flow_rt, flow_bk, flow_ct, flow_exc, end_nx, end_rt, end_exc, e_var, g_0, g_s, e_cst, e_bin, e_neg, e_not, e_cmp, e_chain, e_and, e_or, e_ite, e_tup, e_lst, e_lstM, e_lstS, e_dct, e_idx, e_slc, e_rev, e_isi, e_fz, e_repM, fz_lst, fz_tup, fz_dct, m_dget, e_blt, e_call, e_mth, m_tindex, m_tcount, e_lc, l_nil, l_cons, l_star, t_nil, t_cons, o_no, o_so, i_seq, i_rng1, i_rng2, i_zip, i_enum, i_enumT, k_enumT, k_neg, k_int, k_seqT, k_seqL, k_seqF, k_starT, k_starL, k_zipT, k_zipL, k_zipM, k_zipM2, k_enum, k_rng, k_rng2, tr_bl, tr_int, tr_tup, tr_lst, s_nil, s_cons, x_expr, x_set, x_setT, x_par, x_setI, x_aug, x_cond, x_loop, x_while, x_ret, x_retN, x_pass, x_brk, x_cont, x_run, b_lenT, b_lenL, b_lenF, b_tupT, b_tupL, b_lstT, b_lstL, b_allL, b_anyL, b_sumL, b_sumT, b_abs, b_max, b_min, b_intI, b_intB, q_ii, q_ss, mapR_some, andR_ite, orR_ite, unpK, parK, augK, setIK, setTg, setAll, wipe, blt, blt0, seqOf, lstOf, cop, bop, intOp, atP, place, Option.map_some, Option.map_none, Option.bind_some, Option.bind_none, eq_self, reduceCtorEq, Int.reduceLE, Int.reduceLT, Int.reduceNeg, Int.reduceEq, Int.reduceToNat, Int.reduceAdd, Int.reduceSub, Nat.reduceLeDiff, reduceIte,  List.flatten_cons, List.flatten_nil, List.length_map, List.map_cons, List.map_nil, List.length_cons, List.length_nil, List.replicate_succ, List.replicate_zero, List.cons_append, List.nil_append, List.append_nil, List.set_cons_zero, List.set_cons_succ, Bool.not_true, Bool.not_false, if_true, if_false, ite_true, ite_false, Bool.false_eq_true, decide_true, decide_false, Bool.or_true, Bool.true_or, Bool.or_false, Bool.false_or, Bool.and_true, Bool.true_and, Bool.and_false, Bool.false_and, decide_eq_true_eq, Nat.reduceAdd, Nat.reduceSub, Nat.zero_add, Function.comp_apply, ix0, ix1, ix2, ixL0, ixL1, ixL2, Int.cast_ofNat_Int, List.all_cons, List.all_nil, id_eq, m]⟩
  rw [zip_ints (fun x y => x * y)] at e
  rw [u__law_dot]
  simp only [b__law_dot, qOpt, qRet, bnd_ok, bnd_exc, bnd_err, flow_nx, flow_rt, flow_bk, flow_ct, flow_exc, end_nx, end_rt, end_exc, e_var, g_0, g_s, e_cst, e_bin, e_neg, e_not, e_cmp, e_chain, e_and, e_or, e_ite, e_tup, e_lst, e_lstM, e_lstS, e_dct, e_idx, e_slc, e_rev, e_isi, e_fz, e_repM, fz_lst, fz_tup, fz_dct, m_dget, e_blt, e_call, e_mth, m_tindex, m_tcount, e_lc, l_nil, l_cons, l_star, t_nil, t_cons, o_no, o_so, i_seq, i_rng1, i_rng2, i_zip, i_enum, i_enumT, k_enumT, k_neg, k_int, k_seqT, k_seqL, k_seqF, k_starT, k_starL, k_zipT, k_zipL, k_zipM, k_zipM2, k_enum, k_rng, k_rng2, tr_bl, tr_int, tr_tup, tr_lst, s_nil, s_cons, x_expr, x_set, x_setT, x_par, x_setI, x_aug, x_cond, x_loop, x_while, x_ret, x_retN, x_pass, x_brk, x_cont, x_run, b_lenT, b_lenL, b_lenF, b_tupT, b_tupL, b_lstT, b_lstL, b_allL, b_anyL, b_sumL, b_sumT, b_abs, b_max, b_min, b_intI, b_intB, q_ii, q_ss, mapR_some, andR_ite, orR_ite, unpK, parK, augK, setIK, setTg, setAll, wipe, blt, blt0, seqOf, lstOf, cop, bop, intOp, atP, place, Option.map_some, Option.map_none, Option.bind_some, Option.bind_none, eq_self, reduceCtorEq, Int.reduceLE, Int.reduceLT, Int.reduceNeg, Int.reduceEq, Int.reduceToNat, Int.reduceAdd, Int.reduceSub, Nat.reduceLeDiff, reduceIte,  List.flatten_cons, List.flatten_nil, List.length_map, List.map_cons, List.map_nil, List.length_cons, List.length_nil, List.replicate_succ, List.replicate_zero, List.cons_append, List.nil_append, List.append_nil, List.set_cons_zero, List.set_cons_succ, Bool.not_true, Bool.not_false, if_true, if_false, ite_true, ite_false, Bool.false_eq_true, decide_true, decide_false, Bool.or_true, Bool.true_or, Bool.or_false, Bool.false_or, Bool.and_true, Bool.true_and, Bool.and_false, Bool.false_and, decide_eq_true_eq, Nat.reduceAdd, Nat.reduceSub, Nat.zero_add, Function.comp_apply, ix0, ix1, ix2, ixL0, ixL1, ixL2, Int.cast_ofNat_Int, List.all_cons, List.all_nil, id_eq, pairs_map, e, ints_of]
  rfl
theorem Small.rev {rows : List Row} (h : Small N rows) : Small N rows.reverse ∧ eA rows.reverse N = eA rows N := by
  refine ⟨⟨⟨fun r hr => h.s.len r (List.mem_reverse.mp hr), h.s.n1, h.s.n5, by simpa using h.s.m1, by simpa using h.s.m, fun r hr => h.s.b r (List.mem_reverse.mp hr)⟩, fun r hr => h.b r (List.mem_reverse.mp hr), by simpa using h.m4⟩, ?_⟩
  exact Rr.same_red (fun r hr => h.s.len r (List.mem_reverse.mp hr)) h.s.len fun P _ _ => ⟨fun q r hr => q r (List.mem_reverse.mpr hr), fun q r hr => q r (List.mem_reverse.mp hr)⟩
theorem Small.redS {rows : List Row} (h : Small N rows) : RedS N (eA rows N) := ⟨h.red, fun p hp => (h.ab608 p hp).up (by decide), by have := h.s.n5; omega⟩
theorem Small.kredB {rows : List Row} (h : Small N rows) : RedB N (kerB (eA rows N) N) := ⟨h.ker.red, fun p hp => (h.kb p hp).up (by decide), by have := h.s.n5; omega⟩
/-- the kernel of small rows -/
theorem s_ker1 (hw : 1000000 ≤ w) {rows : List Row} (h : Small N rows) : ∃ S', callI prog w (k + 9) 12 [rv rows] S = .ok (rr (kerB (eA rows N) N)) S' ∧ S.length ≤ S'.length ∧ ∀ i < S.length, S'[i]? = S[i]? :=
  s_kernel hw h.s.r h.s.ok h.redS h.vok
/-- the kernel of this kernel -/
theorem s_ker2 (hw : 1000000 ≤ w) {rows : List Row} (h : Small N rows) (h0 : kerB (eA rows N) N ≠ []) : ∃ S', callI prog w (k + 9) 12 [rr (kerB (eA rows N) N)] S = .ok (rr (eA rows N)) S' ∧ S.length ≤ S'.length ∧ ∀ i < S.length, S'[i]? = S[i]? := by
  have hB := h.kredB
  have ag : (elimF ((kerB (eA rows N) N).map (·.2)) N).1 = kerB (eA rows N) N := Rr.red_again (vecs_len h.red)
  have hR : Rows N ((kerB (eA rows N) N).map (·.2)) := ⟨fun r hr => by
    obtain ⟨q, hq, rfl⟩ := List.mem_map.mp hr; exact hB.r.len q hq, h.s.n1, hB.n60, by simp [h0], by rw [List.length_map]; have := hB.len; have := hB.n60; omega, fun r hr => by
    obtain ⟨q, hq, rfl⟩ := List.mem_map.mp hr; exact hB.b q hq⟩
  have := s_kernel (w := w) (k := k) (S := S) hw hR (again_oks hB) (by rw [ag]; exact ⟨hB.r, hB.b, hB.n60⟩) (by rw [ag]; exact h.vok2)
  rw [ag, h.back, rv_rr] at this
  exact this
theorem s_right (hw : 1000000 ≤ w) {rows : List Row} (h : Small N rows) : ∃ S', callI prog w (k + 10) 23 [rv rows] S = .ok (.bl true) S' ∧ S.length ≤ S'.length ∧ ∀ i < S.length, S'[i]? = S[i]? := by
  have n5 := h.s.n5
  have m4 := h.m4
  obtain ⟨S1, e1, l1, k1⟩ := s_ker1 (w := w) (k := k) (S := S) hw h
  have hB := h.kredB
  have hK := h.ker
  have rk := Rr.rank_eq h.s.len
  have e2 := s_rank (w := w) (k := k + 7) (S := S1) h.s.r h.s.okr
  have e3 := s_is_reduced (k := k + 7) (S := S1) hw hB
  obtain ⟨t1, et1⟩ := repr_rv (rows := rows) (M := 37) (by decide) (fun r hr => ⟨by rw [h.s.len r hr]; omega, h.b r hr⟩) (by omega)
  obtain ⟨t2, et2⟩ := repr_rv (rows := (eA rows N).map (·.2)) (M := 1900) (by decide) (fun r hr => by
    obtain ⟨q, hq, rfl⟩ := List.mem_map.mp hr
    exact ⟨by rw [h.red.len q hq]; omega, (h.ab608 q hq).up (by decide)⟩) (by rw [List.length_map]; have := h.k4; omega)
  obtain ⟨t3, et3⟩ := repr_rv (rows := (kerB (eA rows N) N).map (·.2)) (M := 1900) (by decide) (fun r hr => by
    obtain ⟨q, hq, rfl⟩ := List.mem_map.mp hr
    exact ⟨by rw [hK.red.len q hq]; omega, (h.kb q hq).up (by decide)⟩) (by rw [List.length_map]; have := hB.len; omega)
  rw [rv_rr] at et2 et3
  have hA0 : ∀ r ∈ rows, ∀ q ∈ kerB (eA rows N) N, dotz r q.2 = 0 := fun r hr q hq =>
    (Rr.elim_closed (P := fun r => dotz r q.2 = 0) (Rr.dotz_closed (hK.red.len q hq)) (Rr.dotz_zero (hK.red.len q hq)) h.s.len).mpr (fun p hp => hK.ker q hq p hp) r hr
  have hn : (((rows.head h.s.m1).length : Nat) : Int) = N := by rw [h.s.len _ (List.head_mem h.s.m1)]
  have q0 : ∀ S, eqD S (.lst []) (.lst []) = some true := fun S => rfl
  have e4 : ∀ {a5 a6 : Option D} {S : Store} {t : D}, lcM (callI prog w (k + 9)) (.cst (.int 1)) (.nm 4) (.cons (.not (.isi (.var 4) .tuple)) .nil) [4] [some (rv rows), some t, some (rr (kerB (eA rows N) N)), some (.int N), none, a5, a6] ((kerB (eA rows N) N).map fun q => iv q.2) S = .ok (.lst []) S := fun {a5 a6 S t} =>
    empties (fun q : Nat × Row => iv q.2) (fun _ => .int 1) _ fun r hr => ⟨_, rfl, by simp only [qOpt, qRet, bnd_ok, bnd_exc, bnd_err, flow_nx, flow_rt, flow_bk, flow_ct, flow_exc, end_nx, end_rt, end_exc, e_var, g_0, g_s, e_cst, e_bin, e_neg, e_not, e_cmp, e_chain, e_and, e_or, e_ite, e_tup, e_lst, e_lstM, e_lstS, e_dct, e_idx, e_slc, e_rev, e_isi, e_fz, e_repM, fz_lst, fz_tup, fz_dct, m_dget, e_blt, e_call, e_mth, m_tindex, m_tcount, e_lc, l_nil, l_cons, l_star, t_nil, t_cons, o_no, o_so, i_seq, i_rng1, i_rng2, i_zip, i_enum, i_enumT, k_enumT, k_neg, k_int, k_seqT, k_seqL, k_seqF, k_starT, k_starL, k_zipT, k_zipL, k_zipM, k_zipM2, k_enum, k_rng, k_rng2, tr_bl, tr_int, tr_tup, tr_lst, s_nil, s_cons, x_expr, x_set, x_setT, x_par, x_setI, x_aug, x_cond, x_loop, x_while, x_ret, x_retN, x_pass, x_brk, x_cont, x_run, b_lenT, b_lenL, b_lenF, b_tupT, b_tupL, b_lstT, b_lstL, b_allL, b_anyL, b_sumL, b_sumT, b_abs, b_max, b_min, b_intI, b_intB, q_ii, q_ss, mapR_some, andR_ite, orR_ite, unpK, parK, augK, setIK, setTg, setAll, wipe, blt, blt0, seqOf, lstOf, cop, bop, intOp, atP, place, Option.map_some, Option.map_none, Option.bind_some, Option.bind_none, eq_self, reduceCtorEq, Int.reduceLE, Int.reduceLT, Int.reduceNeg, Int.reduceEq, Int.reduceToNat, Int.reduceAdd, Int.reduceSub, Nat.reduceLeDiff, reduceIte,  List.flatten_cons, List.flatten_nil, List.length_map, List.map_cons, List.map_nil, List.length_cons, List.length_nil, List.replicate_succ, List.replicate_zero, List.cons_append, List.nil_append, List.append_nil, List.set_cons_zero, List.set_cons_succ, Bool.not_true, Bool.not_false, if_true, if_false, ite_true, ite_false, Bool.false_eq_true, decide_true, decide_false, Bool.or_true, Bool.true_or, Bool.or_false, Bool.false_or, Bool.and_true, Bool.true_and, Bool.and_false, Bool.false_and, decide_eq_true_eq, Nat.reduceAdd, Nat.reduceSub, Nat.zero_add, Function.comp_apply, ix0, ix1, ix2, ixL0, ixL1, ixL2, Int.cast_ofNat_Int, List.all_cons, List.all_nil, id_eq, isi_tup (d := iv r.2) trivial, isT]⟩
  have e5 : ∀ {a5 a6 : Option D} {S : Store} {t : D}, lcM (callI prog w (k + 9)) (.cst (.int 1)) (.nm 4) (.cons (.cmp .ne (.blt .len (.cons (.var 4) .nil)) (.var 3)) .nil) [4] [some (rv rows), some t, some (rr (kerB (eA rows N) N)), some (.int N), none, a5, a6] ((kerB (eA rows N) N).map fun q => iv q.2) S = .ok (.lst []) S := fun {a5 a6 S t} =>
    empties (fun q : Nat × Row => iv q.2) (fun _ => .int 1) _ fun r hr => ⟨_, rfl, by
      have : decide (((r.2.length : Nat) : Int) = (N : Int)) = true := decide_eq_true (by rw [hK.red.len r hr])
      simp only [qOpt, qRet, bnd_ok, bnd_exc, bnd_err, flow_nx, flow_rt, flow_bk, flow_ct, flow_exc, end_nx, end_rt, end_exc, e_var, g_0, g_s, e_cst, e_bin, e_neg, e_not, e_cmp, e_chain, e_and, e_or, e_ite, e_tup, e_lst, e_lstM, e_lstS, e_dct, e_idx, e_slc, e_rev, e_isi, e_fz, e_repM, fz_lst, fz_tup, fz_dct, m_dget, e_blt, e_call, e_mth, m_tindex, m_tcount, e_lc, l_nil, l_cons, l_star, t_nil, t_cons, o_no, o_so, i_seq, i_rng1, i_rng2, i_zip, i_enum, i_enumT, k_enumT, k_neg, k_int, k_seqT, k_seqL, k_seqF, k_starT, k_starL, k_zipT, k_zipL, k_zipM, k_zipM2, k_enum, k_rng, k_rng2, tr_bl, tr_int, tr_tup, tr_lst, s_nil, s_cons, x_expr, x_set, x_setT, x_par, x_setI, x_aug, x_cond, x_loop, x_while, x_ret, x_retN, x_pass, x_brk, x_cont, x_run, b_lenT, b_lenL, b_lenF, b_tupT, b_tupL, b_lstT, b_lstL, b_allL, b_anyL, b_sumL, b_sumT, b_abs, b_max, b_min, b_intI, b_intB, q_ii, q_ss, mapR_some, andR_ite, orR_ite, unpK, parK, augK, setIK, setTg, setAll, wipe, blt, blt0, seqOf, lstOf, cop, bop, intOp, atP, place, Option.map_some, Option.map_none, Option.bind_some, Option.bind_none, eq_self, reduceCtorEq, Int.reduceLE, Int.reduceLT, Int.reduceNeg, Int.reduceEq, Int.reduceToNat, Int.reduceAdd, Int.reduceSub, Nat.reduceLeDiff, reduceIte,  List.flatten_cons, List.flatten_nil, List.length_map, List.map_cons, List.map_nil, List.length_cons, List.length_nil, List.replicate_succ, List.replicate_zero, List.cons_append, List.nil_append, List.append_nil, List.set_cons_zero, List.set_cons_succ, Bool.not_true, Bool.not_false, if_true, if_false, ite_true, ite_false, Bool.false_eq_true, decide_true, decide_false, Bool.or_true, Bool.true_or, Bool.or_false, Bool.false_or, Bool.and_true, Bool.true_and, Bool.and_false, Bool.false_and, decide_eq_true_eq, Nat.reduceAdd, Nat.reduceSub, Nat.zero_add, Function.comp_apply, ix0, ix1, ix2, ixL0, ixL1, ixL2, Int.cast_ofNat_Int, List.all_cons, List.all_nil, id_eq, this]⟩
  have cnt : ∀ S, bop .sub (.int (N : Int)) (.int ((rankF rows N : Nat) : Int)) S = some (.int (((kerB (eA rows N) N).length : Nat) : Int)) := fun S => by
    have := hK.len
    show some (D.int ((N : Int) - ((rankF rows N : Nat) : Int))) = _
    rw [← rk]
    congr 2
    have : (eA rows N).length = (elimF rows N).1.length := rfl
    omega
  have e6 : ∀ (l : List Row), (∀ r ∈ l, r ∈ rows) → ∀ (a4 : Option D), ∃ p4, loopM (callI prog w (k + 9)) w (.nm 4) (match b__law_right with | .cons _ (.cons _ (.cons _ (.cons _ (.cons (.loop _ _ b) _)))) => b | _ => .nil) (l.map iv) [some (rv rows), some (.str t1), some (rr (kerB (eA rows N) N)), some (.int N), a4, none, none] S1 = .ok (.nx, [some (rv rows), some (.str t1), some (rr (kerB (eA rows N) N)), some (.int N), p4, none, none]) S1 := fun l => by
    induction l with
    | nil => exact fun _ a4 => ⟨a4, rfl⟩
    | cons r l ih =>
      intro hl a4
      obtain ⟨p4, e⟩ := ih (fun x hx => hl x (List.mem_cons_of_mem _ hx)) (some (iv r))
      have hr := hl r List.mem_cons_self
      have e7 : lcM (callI prog w (k + 9)) (.cst (.int 1)) (.nm 6) (.cons (.cmp .ne (.call 16 (.cons (.var 4) (.cons (.var 6) .nil))) (.cst (.int 0))) .nil) [6] [some (rv rows), some (.str t1), some (rr (kerB (eA rows N) N)), some (.int N), some (iv r), none, none] ((kerB (eA rows N) N).map fun q => iv q.2) S1 = .ok (.lst []) S1 :=
        empties (fun q : Nat × Row => iv q.2) (fun _ => .int 1) _ fun q hq => ⟨_, rfl, by
          simp only [qOpt, qRet, bnd_ok, bnd_exc, bnd_err, flow_nx, flow_rt, flow_bk, flow_ct, flow_exc, end_nx, end_rt, end_exc, e_var, g_0, g_s, e_cst, e_bin, e_neg, e_not, e_cmp, e_chain, e_and, e_or, e_ite, e_tup, e_lst, e_lstM, e_lstS, e_dct, e_idx, e_slc, e_rev, e_isi, e_fz, e_repM, fz_lst, fz_tup, fz_dct, m_dget, e_blt, e_call, e_mth, m_tindex, m_tcount, e_lc, l_nil, l_cons, l_star, t_nil, t_cons, o_no, o_so, i_seq, i_rng1, i_rng2, i_zip, i_enum, i_enumT, k_enumT, k_neg, k_int, k_seqT, k_seqL, k_seqF, k_starT, k_starL, k_zipT, k_zipL, k_zipM, k_zipM2, k_enum, k_rng, k_rng2, tr_bl, tr_int, tr_tup, tr_lst, s_nil, s_cons, x_expr, x_set, x_setT, x_par, x_setI, x_aug, x_cond, x_loop, x_while, x_ret, x_retN, x_pass, x_brk, x_cont, x_run, b_lenT, b_lenL, b_lenF, b_tupT, b_tupL, b_lstT, b_lstL, b_allL, b_anyL, b_sumL, b_sumT, b_abs, b_max, b_min, b_intI, b_intB, q_ii, q_ss, mapR_some, andR_ite, orR_ite, unpK, parK, augK, setIK, setTg, setAll, wipe, blt, blt0, seqOf, lstOf, cop, bop, intOp, atP, place, Option.map_some, Option.map_none, Option.bind_some, Option.bind_none, eq_self, reduceCtorEq, Int.reduceLE, Int.reduceLT, Int.reduceNeg, Int.reduceEq, Int.reduceToNat, Int.reduceAdd, Int.reduceSub, Nat.reduceLeDiff, reduceIte,  List.flatten_cons, List.flatten_nil, List.length_map, List.map_cons, List.map_nil, List.length_cons, List.length_nil, List.replicate_succ, List.replicate_zero, List.cons_append, List.nil_append, List.append_nil, List.set_cons_zero, List.set_cons_succ, Bool.not_true, Bool.not_false, if_true, if_false, ite_true, ite_false, Bool.false_eq_true, decide_true, decide_false, Bool.or_true, Bool.true_or, Bool.or_false, Bool.false_or, Bool.and_true, Bool.true_and, Bool.and_false, Bool.false_and, decide_eq_true_eq, Nat.reduceAdd, Nat.reduceSub, Nat.zero_add, Function.comp_apply, ix0, ix1, ix2, ixL0, ixL1, ixL2, Int.cast_ofNat_Int, List.all_cons, List.all_nil, id_eq, s_dot (k := k + 8) (S := S1) ((h.b r hr).up (by decide)) ((h.kb q hq).up (by decide)), hA0 r hr q hq]⟩
      refine ⟨p4, (loopM_nx (ρ1 := [some (rv rows), some (.str t1), some (rr (kerB (eA rows N) N)), some (.int N), some (iv r), none, none]) rfl ?_).trans e⟩
      simp only [b__law_right, qOpt, qRet, bnd_ok, bnd_exc, bnd_err, flow_nx, flow_rt, flow_bk, flow_ct, flow_exc, end_nx, end_rt, end_exc, e_var, g_0, g_s, e_cst, e_bin, e_neg, e_not, e_cmp, e_chain, e_and, e_or, e_ite, e_tup, e_lst, e_lstM, e_lstS, e_dct, e_idx, e_slc, e_rev, e_isi, e_fz, e_repM, fz_lst, fz_tup, fz_dct, m_dget, e_blt, e_call, e_mth, m_tindex, m_tcount, e_lc, l_nil, l_cons, l_star, t_nil, t_cons, o_no, o_so, i_seq, i_rng1, i_rng2, i_zip, i_enum, i_enumT, k_enumT, k_neg, k_int, k_seqT, k_seqL, k_seqF, k_starT, k_starL, k_zipT, k_zipL, k_zipM, k_zipM2, k_enum, k_rng, k_rng2, tr_bl, tr_int, tr_tup, tr_lst, s_nil, s_cons, x_expr, x_set, x_setT, x_par, x_setI, x_aug, x_cond, x_loop, x_while, x_ret, x_retN, x_pass, x_brk, x_cont, x_run, b_lenT, b_lenL, b_lenF, b_tupT, b_tupL, b_lstT, b_lstL, b_allL, b_anyL, b_sumL, b_sumT, b_abs, b_max, b_min, b_intI, b_intB, q_ii, q_ss, mapR_some, andR_ite, orR_ite, unpK, parK, augK, setIK, setTg, setAll, wipe, blt, blt0, seqOf, lstOf, cop, bop, intOp, atP, place, Option.map_some, Option.map_none, Option.bind_some, Option.bind_none, eq_self, reduceCtorEq, Int.reduceLE, Int.reduceLT, Int.reduceNeg, Int.reduceEq, Int.reduceToNat, Int.reduceAdd, Int.reduceSub, Nat.reduceLeDiff, reduceIte,  List.flatten_cons, List.flatten_nil, List.length_map, List.map_cons, List.map_nil, List.length_cons, List.length_nil, List.replicate_succ, List.replicate_zero, List.cons_append, List.nil_append, List.append_nil, List.set_cons_zero, List.set_cons_succ, Bool.not_true, Bool.not_false, if_true, if_false, ite_true, ite_false, Bool.false_eq_true, decide_true, decide_false, Bool.or_true, Bool.true_or, Bool.or_false, Bool.false_or, Bool.and_true, Bool.true_and, Bool.and_false, Bool.false_and, decide_eq_true_eq, Nat.reduceAdd, Nat.reduceSub, Nat.zero_add, Function.comp_apply, ix0, ix1, ix2, ixL0, ixL1, ixL2, Int.cast_ofNat_Int, List.all_cons, List.all_nil, id_eq, e7, q0]
  obtain ⟨p4, e6⟩ := e6 rows (fun _ h => h) none
  simp only [b__law_right] at e6
  have fin : ∀ S, eqD S (rr (kerB (eA rows N) N)) (.tup []) = some (kerB (eA rows N) N).isEmpty := fun S => by
    have := eq_nilT (S := S) (N := 4000) (k := 2) (xs := (kerB (eA rows N) N).map fun q => iv q.2) (.tup (by rw [List.length_map]; have := hB.len; omega) fun y hy => by
      obtain ⟨q, hq, rfl⟩ := List.mem_map.mp hy
      exact iv_dt (hB.b q hq) (by rw [hB.r.len q hq]; omega)) (by decide)
    rw [this]
    cases kerB (eA rows N) N <;> rfl
  -- again
  obtain ⟨S2, e8, l2, k2⟩ : ∃ S2, (if (kerB (eA rows N) N).isEmpty then callI prog w (k + 9) 11 [rv rows] S1 else callI prog w (k + 9) 12 [rr (kerB (eA rows N) N)] S1) = .ok (rr (eA rows N)) S2 ∧ S1.length ≤ S2.length ∧ ∀ i < S1.length, S2[i]? = S1[i]? := by
    by_cases hE : kerB (eA rows N) N = []
    · rw [hE]
      refine ⟨S1, ?_, Nat.le_refl _, fun _ _ => rfl⟩
      have := s_reduced (k := k + 1) (S := S1) hw h.s.r h.s.ok
      unfold redF at this
      rw [rv_rr] at this
      exact this
    · obtain ⟨S2, e, a, b⟩ := s_ker2 (w := w) (k := k) (S := S1) hw h hE
      refine ⟨S2, ?_, a, b⟩
      rw [if_neg (by simpa using hE)]
      exact e
  obtain ⟨hr, hre⟩ := h.rev
  obtain ⟨S3, e9, l3, k3⟩ := s_ker1 (w := w) (k := k) (S := S2) hw hr
  rw [hre] at e9
  have e10 := s_reduced (k := k + 1) (S := S2) hw h.s.r h.s.ok
  unfold redF at e10
  rw [rv_rr] at e10
  have rv' : ∀ S, revD S (rv rows) = some (rv rows.reverse) := fun S => by
    show some (D.tup (rows.map iv).reverse) = _
    rw [← List.map_reverse]
  refine ⟨S3, ?_, by omega, fun i hi => (k3 i (by omega)).trans ((k2 i (by omega)).trans (k1 i hi))⟩
  rw [u__law_right]
  cases hE : (kerB (eA rows N) N).isEmpty with
  | true =>
    rw [hE] at e8
    simp only [if_true] at e8
    simp only [b__law_right, qOpt, qRet, bnd_ok, bnd_exc, bnd_err, flow_nx, flow_rt, flow_bk, flow_ct, flow_exc, end_nx, end_rt, end_exc, e_var, g_0, g_s, e_cst, e_bin, e_neg, e_not, e_cmp, e_chain, e_and, e_or, e_ite, e_tup, e_lst, e_lstM, e_lstS, e_dct, e_idx, e_slc, e_rev, e_isi, e_fz, e_repM, fz_lst, fz_tup, fz_dct, m_dget, e_blt, e_call, e_mth, m_tindex, m_tcount, e_lc, l_nil, l_cons, l_star, t_nil, t_cons, o_no, o_so, i_seq, i_rng1, i_rng2, i_zip, i_enum, i_enumT, k_enumT, k_neg, k_int, k_seqT, k_seqL, k_seqF, k_starT, k_starL, k_zipT, k_zipL, k_zipM, k_zipM2, k_enum, k_rng, k_rng2, tr_bl, tr_int, tr_tup, tr_lst, s_nil, s_cons, x_expr, x_set, x_setT, x_par, x_setI, x_aug, x_cond, x_loop, x_while, x_ret, x_retN, x_pass, x_brk, x_cont, x_run, b_lenT, b_lenL, b_lenF, b_tupT, b_tupL, b_lstT, b_lstL, b_allL, b_anyL, b_sumL, b_sumT, b_abs, b_max, b_min, b_intI, b_intB, q_ii, q_ss, mapR_some, andR_ite, orR_ite, unpK, parK, augK, setIK, setTg, setAll, wipe, blt, blt0, seqOf, lstOf, cop, isiD, tyOf, atP, place, Option.map_some, Option.map_none, Option.bind_some, Option.bind_none, eq_self, reduceCtorEq, Int.reduceLE, Int.reduceLT, Int.reduceNeg, Int.reduceEq, Int.reduceToNat, Int.reduceAdd, Int.reduceSub, Nat.reduceLeDiff, reduceIte,  List.flatten_cons, List.flatten_nil, List.length_map, List.map_cons, List.map_nil, List.length_cons, List.length_nil, List.replicate_succ, List.replicate_zero, List.cons_append, List.nil_append, List.append_nil, List.set_cons_zero, List.set_cons_succ, Bool.not_true, Bool.not_false, if_true, if_false, ite_true, ite_false, Bool.false_eq_true, decide_true, decide_false, Bool.or_true, Bool.true_or, Bool.or_false, Bool.false_or, Bool.and_true, Bool.true_and, Bool.and_false, Bool.false_and, decide_eq_true_eq, Nat.reduceAdd, Nat.reduceSub, Nat.zero_add, Function.comp_apply, isi_tup (d := rr (kerB (eA rows N) N)) trivial, isT, isiD, tyOf, et1, e1, i0 h.s.m1, hn, e4, e5, q0, e3, e2, cnt, e6, fin, hE, e8, et2, e10, rv', e9, et3]
  | false =>
    rw [hE] at e8
    simp only [Bool.false_eq_true, if_false] at e8
    simp only [b__law_right, qOpt, qRet, bnd_ok, bnd_exc, bnd_err, flow_nx, flow_rt, flow_bk, flow_ct, flow_exc, end_nx, end_rt, end_exc, e_var, g_0, g_s, e_cst, e_bin, e_neg, e_not, e_cmp, e_chain, e_and, e_or, e_ite, e_tup, e_lst, e_lstM, e_lstS, e_dct, e_idx, e_slc, e_rev, e_isi, e_fz, e_repM, fz_lst, fz_tup, fz_dct, m_dget, e_blt, e_call, e_mth, m_tindex, m_tcount, e_lc, l_nil, l_cons, l_star, t_nil, t_cons, o_no, o_so, i_seq, i_rng1, i_rng2, i_zip, i_enum, i_enumT, k_enumT, k_neg, k_int, k_seqT, k_seqL, k_seqF, k_starT, k_starL, k_zipT, k_zipL, k_zipM, k_zipM2, k_enum, k_rng, k_rng2, tr_bl, tr_int, tr_tup, tr_lst, s_nil, s_cons, x_expr, x_set, x_setT, x_par, x_setI, x_aug, x_cond, x_loop, x_while, x_ret, x_retN, x_pass, x_brk, x_cont, x_run, b_lenT, b_lenL, b_lenF, b_tupT, b_tupL, b_lstT, b_lstL, b_allL, b_anyL, b_sumL, b_sumT, b_abs, b_max, b_min, b_intI, b_intB, q_ii, q_ss, mapR_some, andR_ite, orR_ite, unpK, parK, augK, setIK, setTg, setAll, wipe, blt, blt0, seqOf, lstOf, cop, isiD, tyOf, atP, place, Option.map_some, Option.map_none, Option.bind_some, Option.bind_none, eq_self, reduceCtorEq, Int.reduceLE, Int.reduceLT, Int.reduceNeg, Int.reduceEq, Int.reduceToNat, Int.reduceAdd, Int.reduceSub, Nat.reduceLeDiff, reduceIte,  List.flatten_cons, List.flatten_nil, List.length_map, List.map_cons, List.map_nil, List.length_cons, List.length_nil, List.replicate_succ, List.replicate_zero, List.cons_append, List.nil_append, List.append_nil, List.set_cons_zero, List.set_cons_succ, Bool.not_true, Bool.not_false, if_true, if_false, ite_true, ite_false, Bool.false_eq_true, decide_true, decide_false, Bool.or_true, Bool.true_or, Bool.or_false, Bool.false_or, Bool.and_true, Bool.true_and, Bool.and_false, Bool.false_and, decide_eq_true_eq, Nat.reduceAdd, Nat.reduceSub, Nat.zero_add, Function.comp_apply, isi_tup (d := rr (kerB (eA rows N) N)) trivial, isT, isiD, tyOf, et1, e1, i0 h.s.m1, hn, e4, e5, q0, e3, e2, cnt, e6, fin, hE, e8, et2, e10, rv', e9, et3]
end
end K07

set_option linter.all false
set_option maxRecDepth 10000
set_option exponentiation.threshold 10000
namespace K07
open Ln
open Rr (Row gt gl prim pdiv clr stepE elimF St Red Lead IsKer Ker dotz nzr)
open PySem (PyData Str)
/-! ### sixty columns: units less units -/
def un (i k : Nat) : Int := if k = i then 1 else 0
theorem un_s (i : Nat) : un i i = 1 := if_pos rfl
theorem un_n {i k : Nat} (h : k ≠ i) : un i k = 0 := if_neg h
theorem unit_prim {f : Row} {c : Nat} (h : Lead f c) (h1 : gt f c = 1 ∨ gt f c = -1) : ∀ k, gt (prim f) k = gt f c * gt f k := fun k => by
  have mem := (Rr.gt_mem h.1).1
  have g1 : gl f = 1 := by
    have d := Rr.gl_dvd mem
    have : (gl f : Int) ∣ 1 := by
      rcases h1 with e | e <;> rw [e] at d
      · exact d
      · exact Int.dvd_neg.mp d
    have := Int.natAbs_dvd_natAbs.mpr this
    exact Nat.dvd_one.mp (by simpa using this)
  have pa := Rr.pdiv_abs ⟨c, h.1⟩
  rw [g1] at pa
  have pp : pdiv f = 1 ∨ pdiv f = -1 := by omega
  have pos := (Rr.prim_lead h).2
  have e1 := Rr.prim_mul f c
  have e2 := Rr.prim_mul f k
  rcases pp with e | e <;> rcases h1 with q | q <;> rw [e] at e1 e2 <;> rw [q] at e1 ⊢ <;> omega
/-- a row that is a unit less a later one, or this turned -/
def IsE (n c j : Nat) (r : Row) : Prop := r.length = n ∧ ∀ k, gt r k = un c k - un j k
def IsS (n c j : Nat) (r : Row) : Prop := r.length = n ∧ ((∀ k, gt r k = un c k - un j k) ∨ ∀ k, gt r k = -(un c k - un j k))
def Chn (n c : Nat) : Nat → List Row → Prop
  | _, [] => True
  | j, r :: rs => IsS n c j r ∧ Chn n c (j + 1) rs
theorem lead_e {n c j : Nat} {r : Row} (h : IsS n c j r) (hj : c < j) : Lead r c ∧ (gt r c = 1 ∨ gt r c = -1) := by
  obtain ⟨_, h | h⟩ := h
  · have e : gt r c = 1 := by rw [h c, un_s, un_n (by omega)]; rfl
    exact ⟨⟨by rw [e]; decide, fun k hk => by rw [h k, un_n (by omega), un_n (by omega)]; rfl⟩, .inl e⟩
  · have e : gt r c = -1 := by rw [h c, un_s, un_n (by omega)]; rfl
    exact ⟨⟨by rw [e]; decide, fun k hk => by rw [h k, un_n (by omega), un_n (by omega)]; rfl⟩, .inr e⟩
theorem prim_e {n c j : Nat} {r : Row} (h : IsS n c j r) (hj : c < j) : IsE n c j (prim r) := by
  obtain ⟨hl, h1⟩ := lead_e h hj
  refine ⟨(Rr.prim_len r).trans h.1, fun k => ?_⟩
  rw [unit_prim hl h1 k]
  obtain ⟨_, h | h⟩ := h
  · rw [h k, h c, un_s, un_n (show c ≠ j by omega)]; omega
  · rw [h k, h c, un_s, un_n (show c ≠ j by omega)]; omega
theorem prim_of {z r : Row} (h : ∀ k, gt z k = gt r k) (hl : z.length = r.length) : z = r := Rr.row_ext rfl hl.symm h
theorem clr_e {n c d j : Nat} {r p : Row} (hr : r.length = n) (hp : p.length = n) (e : (∀ k, gt p c * gt r k - gt r c * gt p k = un d k - un j k) ∨ ∀ k, gt p c * gt r k - gt r c * gt p k = -(un d k - un j k)) (hj : d < j) : IsE n d j (clr r p c) := by
  unfold Rr.clr
  refine prim_e ⟨?_, ?_⟩ hj
  · rw [List.length_zipWith, hr, hp, Nat.min_self]
  · have g := Rr.gt_zip (f := fun x y => gt p c * x - gt r c * y) (by simp) (hr.trans hp.symm)
    exact e.imp (fun e k => (g k).trans (e k)) fun e k => (g k).trans (e k)
structure Wide (n c : Nat) (st : St) : Prop where
  f : ∀ q ∈ st.1, q.1 < c ∧ IsE n q.1 c q.2
  l : ∃ zs rs, st.2 = zs ++ rs ∧ (∀ z ∈ zs, z.length = n ∧ ∀ k, gt z k = 0) ∧ Chn n c (c + 1) rs
theorem chn_mem {n c : Nat} : ∀ {rs : List Row} {j : Nat}, c < j → Chn n c j rs → ∀ r ∈ rs, ∃ j', c < j' ∧ IsS n c j' r
  | r :: rs, j, hj, h, s, hs => by
    rcases List.mem_cons.mp hs with rfl | hs
    · exact ⟨j, hj, h.1⟩
    · exact chn_mem (Nat.lt_succ_of_lt hj) h.2 s hs
theorem un_small (c j k : Nat) : (un c k - un j k).natAbs < 2 := by unfold un; split <;> split <;> decide
theorem wide_bst {n c : Nat} {st : St} (h : Wide n c st) : Bst n 1 st := by
  refine ⟨fun q hq => ⟨(h.f q hq).2.1, br_gt fun k => by rw [(h.f q hq).2.2 k]; exact un_small _ _ _⟩, fun r hr => ?_⟩
  obtain ⟨zs, rs, e, hz, hc⟩ := h.l
  rw [e] at hr
  rcases List.mem_append.mp hr with hr | hr
  · exact ⟨(hz r hr).1, br_gt fun k => by rw [(hz r hr).2 k]; decide⟩
  · obtain ⟨j, _, hl, hs⟩ := chn_mem (Nat.lt_succ_self c) hc r hr
    refine ⟨hl, br_gt fun k => ?_⟩
    rcases hs with hs | hs <;> rw [hs k]
    · exact un_small _ _ _
    · rw [Int.natAbs_neg]; exact un_small _ _ _
theorem chn_step {n c : Nat} {p : Row} (hp : IsE n c (c + 1) p) : ∀ {rs : List Row} {j : Nat}, c + 1 < j → Chn n c j rs → Chn n (c + 1) j (rs.map fun r => clr r p c)
  | [], _, _, _ => trivial
  | r :: rs, j, hj, h => by
    have pc : gt p c = 1 := by rw [hp.2 c, un_s, un_n (show c ≠ c + 1 by omega)]; rfl
    have key : IsE n (c + 1) j (clr r p c) := clr_e h.1.1 hp.1 (h.1.2.imp (fun e k => by rw [pc, e c, e k, hp.2 k, un_s, un_n (show c ≠ j by omega)]; omega) fun e k => by rw [pc, e c, e k, hp.2 k, un_s, un_n (show c ≠ j by omega)]; omega) hj
    exact ⟨⟨key.1, .inl key.2⟩, chn_step hp (by omega) h.2⟩
theorem wide_oks {n : Nat} : ∀ (m c : Nat) (st : St), Wide n c st → Oks n (List.range' c m) st
  | 0, c, st, h => (wide_bst h).up (by decide)
  | m + 1, c, st, h => by
    obtain ⟨zs, rs, e, hz, hc⟩ := h.l
    have zf : ∀ z ∈ zs, nzr z = false := fun z hz' => Bool.eq_false_iff.mpr fun q => by
      obtain ⟨k, hk⟩ := Rr.nzr_iff.mp q
      exact hk ((hz z hz').2 k)
    cases rs with
    | nil =>
      have c0 : st.2.countP nzr = 0 := by
        rw [e, List.append_nil, List.countP_eq_zero]
        exact fun z hz' => by rw [zf z hz']; decide
      exact oks_eff _ 1 st (wide_bst h) (.inl c0) (by rw [nz_zeros c0]; exact (wide_bst h).up (by decide))
    | cons r rs =>
      refine ⟨(wide_bst h).up (by decide), wide_oks m (c + 1) _ ?_⟩
      have lr := lead_e hc.1 (Nat.lt_succ_self c)
      have hp := prim_e hc.1 (Nat.lt_succ_self c)
      have fe : st.2.filter (fun r => !decide (gt r c = 0)) = r :: rs.filter fun r => !decide (gt r c = 0) := by
        rw [e, List.filter_append, List.filter_cons, if_pos (by simpa using lr.1.1)]
        have : zs.filter (fun r => !decide (gt r c = 0)) = [] := List.filter_eq_nil_iff.mpr fun z hz' => by rw [show gt z c = 0 from (hz z hz').2 c]; decide
        rw [this]; rfl
      have se : stepE st c = (st.1.map (fun q => (q.1, clr q.2 (prim r) c)) ++ [(c, prim r)], st.2.map fun x => clr x (prim r) c) := by
        unfold Rr.stepE
        rw [fe]
      rw [se]
      have pc : gt (prim r) c = 1 := by rw [hp.2 c, un_s, un_n (show c ≠ c + 1 by omega)]; rfl
      refine ⟨fun q hq => ?_, zs.map (fun x => clr x (prim r) c) ++ [clr r (prim r) c], rs.map fun x => clr x (prim r) c, ?_, fun z hz' => ?_, chn_step hp (Nat.lt_succ_self _) hc.2⟩
      · rcases List.mem_append.mp hq with hq | hq
        · obtain ⟨q', hq', rfl⟩ := List.mem_map.mp hq
          obtain ⟨h1, h2⟩ := h.f q' hq'
          exact ⟨Nat.lt_succ_of_lt h1, clr_e h2.1 hp.1 (.inl fun k => by rw [pc, h2.2 c, h2.2 k, hp.2 k, un_s, un_n (show c ≠ q'.1 by omega)]; simp only []; omega) (Nat.lt_succ_of_lt h1)⟩
        · rw [List.mem_singleton.mp hq]
          exact ⟨Nat.lt_succ_self c, hp⟩
      · show st.2.map _ = _
        rw [e]; simp
      · rcases List.mem_append.mp hz' with hz' | hz'
        · obtain ⟨z, hz2, rfl⟩ := List.mem_map.mp hz'
          have := hz z hz2
          exact ⟨(Rr.clr_len (this.1.trans hp.1.symm) c).trans this.1, fun k => Rr.clr_zero (this.1.trans hp.1.symm) (by rw [this.2, this.2]; omega)⟩
        · rw [List.mem_singleton.mp hz']
          refine ⟨(Rr.clr_len (hc.1.1.trans hp.1.symm) c).trans hc.1.1, fun k => Rr.clr_zero (hc.1.1.trans hp.1.symm) ?_⟩
          have e1 := Rr.prim_mul r c
          have e2 := Rr.prim_mul r k
          rw [← e1, ← e2]; grind
/-! ### the row of ones -/
def onesR : Row := List.replicate 60 1
def rowU (n : Nat) (s : Int) (c j : Nat) : Row := (List.range n).map fun k => s * (un c k - un j k)
def chB (n c : Nat) : Nat → List Row → Bool
  | _, [] => true
  | j, r :: rs => decide (j < n) && (decide (r = rowU n 1 c j) || decide (r = rowU n (-1) c j)) && chB n c (j + 1) rs
theorem rowU_gt {n c j : Nat} {s : Int} (hc : c < n) (hj : j < n) (k : Nat) : gt (rowU n s c j) k = s * (un c k - un j k) := by
  unfold rowU
  rw [Rr.gt_range]
  split
  · rfl
  · rw [un_n (by omega), un_n (by omega)]; simp
theorem chB_ok {n c : Nat} (hc : c < n) : ∀ {rs : List Row} {j : Nat}, chB n c j rs = true → Chn n c j rs
  | [], _, _ => trivial
  | r :: rs, j, h => by
    unfold chB at h
    rw [Bool.and_eq_true, Bool.and_eq_true, decide_eq_true_eq, Bool.or_eq_true, decide_eq_true_eq, decide_eq_true_eq] at h
    obtain ⟨⟨hj, h1⟩, h2⟩ := h
    refine ⟨?_, chB_ok hc h2⟩
    rcases h1 with rfl | rfl
    · exact ⟨by simp [rowU], .inl fun k => by rw [rowU_gt hc hj]; omega⟩
    · exact ⟨by simp [rowU], .inr fun k => by rw [rowU_gt hc hj]; omega⟩
theorem ones_gt {k : Nat} (h : k < 60) : gt onesR k = 1 := by
  show (List.replicate 60 (1 : Int)).getD k 0 = 1
  rw [List.getD_eq_getElem?_getD, List.getElem?_replicate, if_pos h]; rfl
theorem ones_prim : prim onesR = onesR := by
  have ld : Lead onesR 0 := ⟨by rw [ones_gt (by decide)]; decide, fun j hj => absurd hj (Nat.not_lt_zero j)⟩
  exact prim_of (fun k => by rw [unit_prim ld (.inl (ones_gt (by decide))), ones_gt (by decide), Int.one_mul]) (Rr.prim_len _)
theorem ones_red : (elimF [onesR] 60).1 = [(0, onesR)] := by
  have g0 : gt onesR 0 = 1 := ones_gt (by decide)
  have e1 : stepE ([], [onesR]) 0 = ([(0, onesR)], [clr onesR onesR 0]) := by
    unfold Rr.stepE
    have : [onesR].filter (fun r => !decide (gt r 0 = 0)) = [onesR] := by rw [List.filter_cons, g0]; rfl
    rw [show (([], [onesR]) : St).2.filter (fun r => !decide (gt r 0 = 0)) = [onesR] from this]
    show (([] : List (Nat × Row)) ++ [(0, prim onesR)], [clr onesR (prim onesR) 0]) = _
    rw [ones_prim]
    rfl
  have z : (stepE ([], [onesR]) 0).2.countP nzr = 0 := by
    rw [e1, List.countP_eq_zero]
    intro r hr
    rw [List.mem_singleton.mp hr]
    intro q
    obtain ⟨k, hk⟩ := Rr.nzr_iff.mp q
    exact hk (Rr.clr_zero rfl rfl)
  unfold Rr.elimF
  rw [List.range_eq_range', show (60 : Nat) = 59 + 1 from rfl, List.range'_succ, List.foldl_cons, nz_zeros z, e1]
theorem ones_vecs : chB 60 0 1 (vecsF [(0, onesR)] 60) = true := by decide +kernel
theorem ones_b : Br 1 onesR := fun x hx => by rw [(List.mem_replicate.mp hx).2]; unfold Bi; decide
theorem ones_rows : Rows 60 [onesR] := ⟨fun r hr => by rw [List.mem_singleton.mp hr]; decide, by decide, by decide, by decide, by decide, fun r hr => by rw [List.mem_singleton.mp hr]; exact ones_b.up (by decide)⟩
theorem ones_ok : Oks 60 (List.range 60) ([], [onesR]) := by
  refine oks_eff _ 1 ([], [onesR]) ⟨fun _ h => (nomatch h), fun r hr => ⟨ones_rows.len r hr, by rw [List.mem_singleton.mp hr]; exact ones_b⟩⟩ (.inr ?_) (end_bst ones_rows.len fun p hp => ?_)
  · have : ([onesR] : List Row).countP nzr ≤ 1 := List.countP_le_length
    show (1 + 1) * 2 ^ (([onesR] : List Row).countP nzr - 1) ≤ 4001
    rw [show ([onesR] : List Row).countP nzr - 1 = 0 by omega]
    decide
  · rw [ones_red] at hp
    rw [List.mem_singleton.mp hp]
    exact ones_b.up (by decide)
theorem ones_redS : RedS 60 [(0, onesR)] := by
  have := (Rr.elim_red ones_rows.len).red
  rw [ones_red] at this
  exact ⟨this, fun p hp => by rw [List.mem_singleton.mp hp]; exact ones_b.up (by decide), by decide⟩
theorem ones_vok : Oks 60 (List.range 60) ([], vecsF [(0, onesR)] 60) := by
  rw [List.range_eq_range']
  exact wide_oks 60 0 _ ⟨fun _ h => (nomatch h), [], _, rfl, fun _ h => (nomatch h), chB_ok (by decide) ones_vecs⟩
theorem kerB_redB {n : Nat} {A : List (Nat × Row)} (hA : RedS n A) (ok : Oks n (List.range n) ([], vecsF A n)) : RedB n (kerB A n) := ⟨(kerB_is hA.r).red, fun p hp => ((oks_end _ _ ok).f p hp).2, hA.n60⟩
theorem kerB_len {n : Nat} {A : List (Nat × Row)} (hA : Red n A) : (kerB A n).length = n - A.length := by have := (kerB_is hA).len; omega
@[irreducible] def wideB : List (Nat × Row) := kerB [(0, onesR)] 60
theorem wideB_eq : wideB = kerB [(0, onesR)] 60 := by unfold wideB; rfl
theorem wideB_red : RedB 60 wideB := wideB_eq ▸ kerB_redB ones_redS ones_vok
theorem wideB_ker : IsKer 60 [(0, onesR)] wideB := wideB_eq ▸ kerB_is ones_redS.r
theorem wideB_len : wideB.length = 59 := wideB_eq ▸ kerB_len ones_redS.r
theorem sum_dot : ∀ (n : Nat) (r : Row), r.length = n → r.sum = dotz (List.replicate n 1) r
  | 0, [], _ => rfl
  | n + 1, x :: r, h => by
    rw [List.replicate_succ, Rr.dotz_cons, List.sum_cons, sum_dot n r (by simpa using h)]; omega
theorem wideB_sum : ∀ q ∈ wideB, q.2.sum = 0 := fun q hq => by
  rw [sum_dot 60 q.2 (wideB_red.r.len q hq)]
  exact wideB_ker.ker q hq _ List.mem_cons_self
end K07

set_option linter.all false
set_option maxRecDepth 10000
set_option exponentiation.threshold 10000
namespace K07
open Ln
open Rr (Row gt gl prim pdiv clr stepE elimF St)
open PySem (PyData Str)
section
variable {w k n : Nat} {S : Store}
theorem strm_kp {S S' : Store} (h : Strm n S) (hl : ∀ i < S.length, S'[i]? = S[i]?) : Strm n S' := by
  obtain ⟨a, b, c, e⟩ := h
  exact ⟨a, b, c, (hl n (List.getElem?_eq_some_iff.mp e).1).trans e⟩
theorem s_turn (hw : 1000000 ≤ w) {ns : List Int} {i : Nat} {o2 o3 o4 o5 o6 : Option D} : ∃ ρ' S', execs (callI prog w (k + 11)) w (match b_law with | .cons (.loop _ _ b) _ => b | _ => .nil) [some (.frz (ns.map .int)), some (.int i), o2, o3, o4, o5, o6] S = .ok (.nx, ρ') S' ∧ ∃ o1 o2 o3, ρ' = [some (.frz (ns.map .int)), o1, o2, o3, o4, o5, o6] := by
  obtain ⟨S1, e1, s1, _, _⟩ := stream_sp (w := w) (k := k + 10) (S := S) hstream (ns := ns) (at_ := i)
  generalize S.length = n at e1 s1
  obtain ⟨ρ', S2, e2, ⟨o3', rfl⟩, s2⟩ := loopM_inv (cf := callI prog w (k + 11)) (w := w) (tg := .nm 3) (b := match b_law with | .cons (.loop _ _ (.cons _ (.cons (.loop _ _ b) _))) _ => b | _ => .nil) (fun i : Nat => D.int i) (fun ρ S => (∃ o3, ρ = [some (.frz (ns.map .int)), some (.int i), some (.ref n), o3, o4, o5, o6]) ∧ Strm n S) (List.range 5)
    (ρ := [some (.frz (ns.map .int)), some (.int i), some (.ref n), o3, o4, o5, o6]) (S := S1) (fun j _ ρ S hI => by
      obtain ⟨⟨o3, rfl⟩, hs⟩ := hI
      obtain ⟨m, Sa, ea, hm, ka⟩ := drawK (w := w) (k := k + 10) hdraw hs (t := 4) (by decide) (by decide)
      obtain ⟨N, Sb, eb, hN, kb⟩ := drawK (w := w) (k := k + 10) hdraw ka.s (t := 5) (by decide) (by decide)
      obtain ⟨L, Sc, ec, hl, hb, sc⟩ := s_rows (w := w) (k := k + 8) (many := 1 + m) (N := 1 + N) kb.s (by omega) (by omega)
      obtain ⟨Sd, ed, _, sd⟩ := s_right (w := w) (k := k + 1) (N := 1 + N) (S := Sc) hw (rows := L) ⟨⟨fun r hr => (hb r hr).1, by omega, by omega, fun z => by rw [z, List.length_nil] at hl; omega, by omega, fun r hr => (hb r hr).2.up (by decide)⟩, fun r hr => (hb r hr).2, by omega⟩
      have ea' : callI prog w (k + 11) 14 [.ref n, .int 4] S = .ok (.int m) Sa := ea
      have eb' : callI prog w (k + 11) 14 [.ref n, .int 5] Sa = .ok (.int N) Sb := eb
      have ec' : callI prog w (k + 11) 18 [.ref n, .int (1 + (m : Int)), .int (1 + (N : Int))] Sb = .ok (rv L) Sc := by
        rw [show (1 : Int) + (m : Int) = ((1 + m : Nat) : Int) by omega, show (1 : Int) + (N : Int) = ((1 + N : Nat) : Int) by omega]; exact ec
      exact ⟨_, [some (.frz (ns.map .int)), some (.int i), some (.ref n), some (.int j), o4, o5, o6], Sd, rfl, by simp only [b_law, qOpt, qRet, bnd_ok, bnd_exc, bnd_err, flow_nx, flow_rt, flow_bk, flow_ct, flow_exc, end_nx, end_rt, end_exc, e_var, g_0, g_s, e_cst, e_bin, e_neg, e_not, e_cmp, e_chain, e_and, e_or, e_ite, e_tup, e_lst, e_lstM, e_lstS, e_dct, e_idx, e_slc, e_rev, e_isi, e_fz, e_repM, fz_lst, fz_tup, fz_dct, m_dget, e_blt, e_call, e_mth, m_tindex, m_tcount, e_lc, l_nil, l_cons, l_star, t_nil, t_cons, o_no, o_so, i_seq, i_rng1, i_rng2, i_zip, i_enum, i_enumT, k_enumT, k_neg, k_int, k_seqT, k_seqL, k_seqF, k_starT, k_starL, k_zipT, k_zipL, k_zipM, k_zipM2, k_enum, k_rng, k_rng2, tr_bl, tr_int, tr_tup, tr_lst, s_nil, s_cons, x_expr, x_set, x_setT, x_par, x_setI, x_aug, x_cond, x_loop, x_while, x_ret, x_retN, x_pass, x_brk, x_cont, x_run, b_lenT, b_lenL, b_lenF, b_tupT, b_tupL, b_lstT, b_lstL, b_allL, b_anyL, b_sumL, b_sumT, b_abs, b_max, b_min, b_intI, b_intB, q_ii, q_ss, mapR_some, andR_ite, orR_ite, unpK, parK, augK, setIK, setTg, setAll, wipe, blt, blt0, seqOf, lstOf, cop, bop, intOp, atP, place, Option.map_some, Option.map_none, Option.bind_some, Option.bind_none, eq_self, reduceCtorEq, Int.reduceLE, Int.reduceLT, Int.reduceNeg, Int.reduceEq, Int.reduceToNat, Int.reduceAdd, Int.reduceSub, Nat.reduceLeDiff, reduceIte,  List.flatten_cons, List.flatten_nil, List.length_map, List.map_cons, List.map_nil, List.length_cons, List.length_nil, List.replicate_succ, List.replicate_zero, List.cons_append, List.nil_append, List.append_nil, List.set_cons_zero, List.set_cons_succ, Bool.not_true, Bool.not_false, if_true, if_false, ite_true, ite_false, Bool.false_eq_true, decide_true, decide_false, Bool.or_true, Bool.true_or, Bool.or_false, Bool.false_or, Bool.and_true, Bool.true_and, Bool.and_false, Bool.false_and, decide_eq_true_eq, Nat.reduceAdd, Nat.reduceSub, Nat.zero_add, Function.comp_apply, ix0, ix1, ix2, ixL0, ixL1, ixL2, Int.cast_ofNat_Int, List.all_cons, List.all_nil, id_eq, ea', eb', ec', ed], ⟨_, rfl⟩, strm_kp sc sd⟩) ⟨⟨_, rfl⟩, s1⟩
  simp only [b_law] at e2
  have rg : ∀ S, rngK (.int 5) S = .ok ((List.range 5).map fun (i : Nat) => .int (i : Int)) S := fun S => k_rng (n := 5) (lineB (by decide))
  exact ⟨[some (.frz (ns.map .int)), some (.int i), some (.ref n), o3', o4, o5, o6], S2, by simp only [b_law, qOpt, qRet, bnd_ok, bnd_exc, bnd_err, flow_nx, flow_rt, flow_bk, flow_ct, flow_exc, end_nx, end_rt, end_exc, e_var, g_0, g_s, e_cst, e_bin, e_neg, e_not, e_cmp, e_chain, e_and, e_or, e_ite, e_tup, e_lst, e_lstM, e_lstS, e_dct, e_idx, e_slc, e_rev, e_isi, e_fz, e_repM, fz_lst, fz_tup, fz_dct, m_dget, e_blt, e_call, e_mth, m_tindex, m_tcount, e_lc, l_nil, l_cons, l_star, t_nil, t_cons, o_no, o_so, i_seq, i_rng1, i_rng2, i_zip, i_enum, i_enumT, k_enumT, k_neg, k_int, k_seqT, k_seqL, k_seqF, k_starT, k_starL, k_zipT, k_zipL, k_zipM, k_zipM2, k_enum, k_rng, k_rng2, tr_bl, tr_int, tr_tup, tr_lst, s_nil, s_cons, x_expr, x_set, x_setT, x_par, x_setI, x_aug, x_cond, x_loop, x_while, x_ret, x_retN, x_pass, x_brk, x_cont, x_run, b_lenT, b_lenL, b_lenF, b_tupT, b_tupL, b_lstT, b_lstL, b_allL, b_anyL, b_sumL, b_sumT, b_abs, b_max, b_min, b_intI, b_intB, q_ii, q_ss, mapR_some, andR_ite, orR_ite, unpK, parK, augK, setIK, setTg, setAll, wipe, blt, blt0, seqOf, lstOf, cop, bop, intOp, atP, place, Option.map_some, Option.map_none, Option.bind_some, Option.bind_none, eq_self, reduceCtorEq, Int.reduceLE, Int.reduceLT, Int.reduceNeg, Int.reduceEq, Int.reduceToNat, Int.reduceAdd, Int.reduceSub, Nat.reduceLeDiff, reduceIte,  List.flatten_cons, List.flatten_nil, List.length_map, List.map_cons, List.map_nil, List.length_cons, List.length_nil, List.replicate_succ, List.replicate_zero, List.cons_append, List.nil_append, List.append_nil, List.set_cons_zero, List.set_cons_succ, Bool.not_true, Bool.not_false, if_true, if_false, ite_true, ite_false, Bool.false_eq_true, decide_true, decide_false, Bool.or_true, Bool.true_or, Bool.or_false, Bool.false_or, Bool.and_true, Bool.true_and, Bool.and_false, Bool.false_and, decide_eq_true_eq, Nat.reduceAdd, Nat.reduceSub, Nat.zero_add, Function.comp_apply, ix0, ix1, ix2, ixL0, ixL1, ixL2, Int.cast_ofNat_Int, List.all_cons, List.all_nil, id_eq, e1, rg, e2], _, _, _, rfl⟩
theorem small_of {n : Nat} {rows : List Row} (h1 : 1 ≤ n) (h2 : n ≤ 5) (h3 : rows ≠ []) (h4 : rows.length ≤ 4) (h5 : (rows.all fun r => decide (r.length = n) && r.all fun x => decide (x.natAbs < 2 ^ 37)) = true) : Small n rows := by
  have hb : ∀ r ∈ rows, r.length = n ∧ Br 37 r := fun r hr => by
    have := List.all_eq_true.mp h5 r hr
    rw [Bool.and_eq_true, decide_eq_true_eq] at this
    exact ⟨this.1, fun x hx => (of_decide_eq_true (List.all_eq_true.mp this.2 x hx) : x.natAbs < 2 ^ 37)⟩
  exact ⟨⟨fun r hr => (hb r hr).1, h1, h2, h3, by omega, fun r hr => (hb r hr).2.up (by decide)⟩, fun r hr => (hb r hr).2, h4⟩
theorem ker_due (hw : 1000000 ≤ w) {n : Nat} {rows due : List Row} (h : Small n rows) (e : (kerB (eA rows n) n).map (·.2) = due) (S : Store) : ∃ S', callI prog w (k + 11) 12 [rv rows] S = .ok (rv due) S' := by
  obtain ⟨S', h, _⟩ := s_ker1 (w := w) (k := k + 2) (S := S) hw h
  rw [← rv_rr, e] at h
  exact ⟨S', h⟩
theorem kerB_again {n : Nat} {A : List (Nat × Row)} (hA : Rr.Red n A) : (elimF ((kerB A n).map (·.2)) n).1 = kerB A n := Rr.red_again (vecs_len hA)
theorem ker_wide (hw : 1000000 ≤ w) (S : Store) : ∃ S', callI prog w (k + 11) 12 [rv [onesR]] S = .ok (rr wideB) S' := by
  obtain ⟨S', h, _⟩ := s_kernel (w := w) (k := k + 2) (S := S) hw ones_rows ones_ok (by rw [ones_red]; exact ones_redS) (by rw [ones_red]; exact ones_vok)
  rw [ones_red, ← wideB_eq] at h
  exact ⟨S', h⟩
theorem red_wide (hw : 1000000 ≤ w) (S : Store) : callI prog w (k + 11) 11 [rr wideB] S = .ok (rr wideB) S := by
  have hB := wideB_red
  have hl := wideB_len
  have hR : Rows 60 (wideB.map (·.2)) := ⟨fun r hr => by
    obtain ⟨q, hq, rfl⟩ := List.mem_map.mp hr; exact hB.r.len q hq, by decide, by decide, (fun z => absurd (congrArg List.length z) (by rw [List.length_map, hl]; decide)), by rw [List.length_map, hl]; decide, fun r hr => by
    obtain ⟨q, hq, rfl⟩ := List.mem_map.mp hr; exact hB.b q hq⟩
  have e := s_reduced (w := w) (k := k + 3) (S := S) hw hR (again_oks hB)
  have ag : (elimF (wideB.map (·.2)) 60).1 = wideB := wideB_eq ▸ kerB_again ones_redS.r
  unfold redF at e
  rw [ag, rv_rr] at e
  exact e
theorem pure_law (hw : 1000000 ≤ w) (ns : List Int) : ∃ S, callI prog w (k + 12) 24 [.frz (ns.map D.int)] [] = .ok (.bl true) S := by
  obtain ⟨m, hm, m8⟩ : ∃ m : Nat, (if (if (ns.length : Int) < 8 then (ns.length : Int) else 8) > 1 then (if (ns.length : Int) < 8 then (ns.length : Int) else 8) else 1) = (m : Int) ∧ m ≤ 8 := by
    by_cases h1 : (ns.length : Int) < 8
    · rw [if_pos h1]
      by_cases h2 : (ns.length : Int) > 1
      · rw [if_pos h2]; exact ⟨ns.length, rfl, by omega⟩
      · rw [if_neg h2]; exact ⟨1, rfl, by omega⟩
    · rw [if_neg h1]; exact ⟨8, rfl, by omega⟩
  have e := loopM_inv (cf := callI prog w (k + 11)) (w := w) (tg := .nm 1) (b := match b_law with | .cons (.loop _ _ b) _ => b | _ => .nil) (fun i : Nat => D.int i) (fun ρ _ => ∃ o1 o2 o3, ρ = [some (.frz (ns.map .int)), o1, o2, o3, none, none, none]) (List.range m)
    (ρ := [some (.frz (ns.map .int)), none, none, none, none, none, none]) (S := []) (fun i _ ρ S hI => by
      obtain ⟨o1, o2, o3, rfl⟩ := hI
      obtain ⟨ρ', S', e, hI⟩ := s_turn (w := w) (k := k) hw (ns := ns) (i := i) (S := S) (o2 := o2) (o3 := o3) (o4 := none) (o5 := none) (o6 := none)
      exact ⟨_, ρ', S', rfl, e, hI⟩) ⟨_, _, _, rfl⟩
  obtain ⟨ρ', S0, e, o1, o2, o3, rfl⟩ := e
  simp only [b_law] at e
  obtain ⟨S1, c1⟩ := ker_due (w := w) (k := k) hw (n := 3) (rows := [[1, 1, 0], [0, 1, 1]]) (due := [[1, -1, 1]]) (small_of (by decide) (by decide) (by decide) (by decide) (by decide +kernel)) (by decide +kernel) S0
  obtain ⟨S2, c2⟩ := ker_due (w := w) (k := k) hw (n := 2) (rows := [[0, 0]]) (due := [[1, 0], [0, 1]]) (small_of (by decide) (by decide) (by decide) (by decide) (by decide +kernel)) (by decide +kernel) S1
  obtain ⟨S3, c3⟩ := ker_due (w := w) (k := k) hw (n := 1) (rows := [[3]]) (due := []) (small_of (by decide) (by decide) (by decide) (by decide) (by decide +kernel)) (by decide +kernel) S2
  obtain ⟨S4, c4⟩ := ker_wide (w := w) (k := k) hw S3
  obtain ⟨S5, c5⟩ := ker_due (w := w) (k := k) hw (n := 4) (rows := [[2, 3, 0, -6]]) (due := [[3, 0, 0, 1], [0, 2, 0, 1], [0, 0, 1, 0]]) (small_of (by decide) (by decide) (by decide) (by decide) (by decide +kernel)) (by decide +kernel) S4
  obtain ⟨S6, c6⟩ := ker_due (w := w) (k := k) hw (n := 4) (rows := [[-4, -6, 0, 12]]) (due := [[3, 0, 0, 1], [0, 2, 0, 1], [0, 0, 1, 0]]) (small_of (by decide) (by decide) (by decide) (by decide) (by decide +kernel)) (by decide +kernel) S5
  have c7 := red_wide (w := w) (k := k) hw S6
  simp only [rv, iv, List.map_cons, List.map_nil] at c1 c2 c3 c5 c6
  have ml : ∀ S, bop .mul (.tup [D.int 1]) (.int 60) S = some (iv onesR) := fun S => by
    rw [show iv onesR = .tup (List.replicate 60 (D.int 1)) by unfold onesR iv; rw [List.map_replicate]]
    exact mul_t1 (m := 60) (by decide)
  have tw : D.tup [iv onesR] = rv [onesR] := rfl
  have q1 : ∀ S, eqD S (.lst [.tup [.tup [.int 1, .int (-1), .int 1]], .tup [.tup [.int 1, .int 0], .tup [.int 0, .int 1]], .tup []]) (.lst [.tup [.tup [.int 1, .int (-1), .int 1]], .tup [.tup [.int 1, .int 0], .tup [.int 0, .int 1]], .tup []]) = some true := fun S => rfl
  have q2 : ∀ S, eqD S (.tup [.tup [.int 3, .int 0, .int 0, .int 1], .tup [.int 0, .int 2, .int 0, .int 1], .tup [.int 0, .int 0, .int 1, .int 0]]) (.tup [.tup [.int 3, .int 0, .int 0, .int 1], .tup [.int 0, .int 2, .int 0, .int 1], .tup [.int 0, .int 0, .int 1, .int 0]]) = some true := fun S => rfl
  have q0 : ∀ S, eqD S (.lst []) (.lst []) = some true := fun S => rfl
  have hB := wideB_red
  have q3 : ∀ S, eqD S (rr wideB) (rr wideB) = some true := fun S => by
    refine Dt.eq_self (N := 4000) (k := 2) (.tup (by rw [List.length_map, wideB_len]; decide) fun y hy => ?_) (by decide) S
    obtain ⟨q, hq, rfl⟩ := List.mem_map.mp hy
    exact iv_dt (hB.b q hq) (by rw [hB.r.len q hq]; decide)
  have ln : (((wideB.map fun q => iv q.2).length : Nat) : Int) = 59 := by rw [List.length_map, wideB_len]; rfl
  have u1 : ∀ {o1 o2 o3 o4 : Option D}, lcM (callI prog w (k + 11)) (.cst (.int 1)) (.nm 6) (.cons (.cmp .ne (.blt .sum (.cons (.var 6) .nil)) (.cst (.int 0))) .nil) [6] [some (.frz (ns.map .int)), o1, o2, o3, o4, some (rr wideB), none] (wideB.map fun q => iv q.2) S4 = .ok (.lst []) S4 := fun {o1 o2 o3 o4} =>
    empties (fun q : Nat × Row => iv q.2) (fun _ => .int 1) wideB fun q hq => ⟨_, rfl, by simp only [qOpt, qRet, bnd_ok, bnd_exc, bnd_err, flow_nx, flow_rt, flow_bk, flow_ct, flow_exc, end_nx, end_rt, end_exc, e_var, g_0, g_s, e_cst, e_bin, e_neg, e_not, e_cmp, e_chain, e_and, e_or, e_ite, e_tup, e_lst, e_lstM, e_lstS, e_dct, e_idx, e_slc, e_rev, e_isi, e_fz, e_repM, fz_lst, fz_tup, fz_dct, m_dget, e_blt, e_call, e_mth, m_tindex, m_tcount, e_lc, l_nil, l_cons, l_star, t_nil, t_cons, o_no, o_so, i_seq, i_rng1, i_rng2, i_zip, i_enum, i_enumT, k_enumT, k_neg, k_int, k_seqT, k_seqL, k_seqF, k_starT, k_starL, k_zipT, k_zipL, k_zipM, k_zipM2, k_enum, k_rng, k_rng2, tr_bl, tr_int, tr_tup, tr_lst, s_nil, s_cons, x_expr, x_set, x_setT, x_par, x_setI, x_aug, x_cond, x_loop, x_while, x_ret, x_retN, x_pass, x_brk, x_cont, x_run, b_lenT, b_lenL, b_lenF, b_tupT, b_tupL, b_lstT, b_lstL, b_allL, b_anyL, b_sumL, b_sumT, b_abs, b_max, b_min, b_intI, b_intB, q_ii, q_ss, mapR_some, andR_ite, orR_ite, unpK, parK, augK, setIK, setTg, setAll, wipe, blt, blt0, seqOf, lstOf, cop, bop, intOp, atP, place, Option.map_some, Option.map_none, Option.bind_some, Option.bind_none, eq_self, reduceCtorEq, Int.reduceLE, Int.reduceLT, Int.reduceNeg, Int.reduceEq, Int.reduceToNat, Int.reduceAdd, Int.reduceSub, Nat.reduceLeDiff, reduceIte,  List.flatten_cons, List.flatten_nil, List.length_map, List.map_cons, List.map_nil, List.length_cons, List.length_nil, List.replicate_succ, List.replicate_zero, List.cons_append, List.nil_append, List.append_nil, List.set_cons_zero, List.set_cons_succ, Bool.not_true, Bool.not_false, if_true, if_false, ite_true, ite_false, Bool.false_eq_true, decide_true, decide_false, Bool.or_true, Bool.true_or, Bool.or_false, Bool.false_or, Bool.and_true, Bool.true_and, Bool.and_false, Bool.false_and, decide_eq_true_eq, Nat.reduceAdd, Nat.reduceSub, Nat.zero_add, Function.comp_apply, ix0, ix1, ix2, ixL0, ixL1, ixL2, Int.cast_ofNat_Int, List.all_cons, List.all_nil, id_eq, ints_of, wideB_sum q hq]⟩
  have ir := s_is_reduced (w := w) (k := k + 9) (S := S4) hw hB
  have hl : m ≤ line := lineB (by omega)
  refine ⟨S6, ?_⟩
  rw [u_law]
  have wl := wideB_len
  generalize wideB = W at *
  generalize onesR = O1 at *
  simp only [b_law, qOpt, qRet, bnd_ok, bnd_exc, bnd_err, flow_nx, flow_rt, flow_bk, flow_ct, flow_exc, end_nx, end_rt, end_exc, e_var, g_0, g_s, e_cst, e_bin, e_neg, e_not, e_cmp, e_chain, e_and, e_or, e_ite, e_tup, e_lst, e_lstM, e_lstS, e_dct, e_idx, e_slc, e_rev, e_isi, e_fz, e_repM, fz_lst, fz_tup, fz_dct, m_dget, e_blt, e_call, e_mth, m_tindex, m_tcount, e_lc, l_nil, l_cons, l_star, t_nil, t_cons, o_no, o_so, i_seq, i_rng1, i_rng2, i_zip, i_enum, i_enumT, k_enumT, k_neg, k_int, k_seqT, k_seqL, k_seqF, k_starT, k_starL, k_zipT, k_zipL, k_zipM, k_zipM2, k_enum, k_rng, k_rng2, tr_bl, tr_int, tr_tup, tr_lst, s_nil, s_cons, x_expr, x_set, x_setT, x_par, x_setI, x_aug, x_cond, x_loop, x_while, x_ret, x_retN, x_pass, x_brk, x_cont, x_run, b_lenT, b_lenL, b_lenF, b_tupT, b_tupL, b_lstT, b_lstL, b_allL, b_anyL, b_sumL, b_sumT, b_abs, b_max, b_min, b_intI, b_intB, q_ii, q_ss, mapR_some, andR_ite, orR_ite, unpK, parK, augK, setIK, setTg, setAll, wipe, blt, blt0, seqOf, lstOf, cop, isiD, tyOf, atP, place, Option.map_some, Option.map_none, Option.bind_some, Option.bind_none, eq_self, reduceCtorEq, Int.reduceLE, Int.reduceLT, Int.reduceNeg, Int.reduceEq, Int.reduceToNat, Int.reduceAdd, Int.reduceSub, Nat.reduceLeDiff, reduceIte,  List.flatten_cons, List.flatten_nil, List.length_map, List.map_cons, List.map_nil, List.length_cons, List.length_nil, List.replicate_succ, List.replicate_zero, List.cons_append, List.nil_append, List.append_nil, List.set_cons_zero, List.set_cons_succ, Bool.not_true, Bool.not_false, if_true, if_false, ite_true, ite_false, Bool.false_eq_true, decide_true, decide_false, Bool.or_true, Bool.true_or, Bool.or_false, Bool.false_or, Bool.and_true, Bool.true_and, Bool.and_false, Bool.false_and, decide_eq_true_eq, Nat.reduceAdd, Nat.reduceSub, Nat.zero_add, Function.comp_apply, hm, k_rng hl, e, c1, c2, c3, q1, ml, tw, c4, wl, Int.cast_ofNat_Int, u1, q0, ir, c5, c6, q2, c7, q3]
end
end K07

namespace K07
open PySem L2 PyProof.Rows LnS
def topS (i : Nat) : Stmt := PySem.Challenge.pw_leastnet_k07_kernels.main.body.getD i (.Pass ⟨0, 0, 0, 0⟩)
abbrev st0 : Stmt := topS 4
abbrev N0 : List Str := ["value"]
theorem nd0 : FnScope N0 ["value"] (defScope st0) := ⟨rfl, rfl, rfl, by decide +kernel, rfl, by decide +kernel, by decide +kernel⟩
abbrev st1 : Stmt := topS 7
abbrev N1 : List Str := ["one", "other"]
theorem nd1 : FnScope N1 ["one", "other"] (defScope st1) := ⟨rfl, rfl, rfl, by decide +kernel, rfl, by decide +kernel, by decide +kernel⟩
abbrev st2 : Stmt := topS 8
abbrev N2 : List Str := ["numbers", "found", "number"]
theorem nd2 : FnScope N2 ["numbers"] (defScope st2) := ⟨rfl, rfl, rfl, by decide +kernel, rfl, by decide +kernel, by decide +kernel⟩
abbrev st3 : Stmt := topS 9
abbrev N3 : List Str := ["value", "low", "high", "number"]
theorem nd3 : FnScope N3 ["value", "low", "high"] (defScope st3) := ⟨rfl, rfl, rfl, by decide +kernel, rfl, by decide +kernel, by decide +kernel⟩
abbrev st4 : Stmt := topS 10
abbrev N4 : List Str := ["value", "row"]
theorem nd4 : FnScope N4 ["value"] (defScope st4) := ⟨rfl, rfl, rfl, by decide +kernel, rfl, by decide +kernel, by decide +kernel⟩
abbrev st5 : Stmt := topS 11
abbrev N5 : List Str := ["rows"]
theorem nd5 : FnScope N5 ["rows"] (defScope st5) := ⟨rfl, rfl, rfl, by decide +kernel, rfl, by decide +kernel, by decide +kernel⟩
abbrev st6 : Stmt := topS 12
abbrev N6 : List Str := ["row", "firsts", "common", "number"]
theorem nd6 : FnScope N6 ["row"] (defScope st6) := ⟨rfl, rfl, rfl, by decide +kernel, rfl, by decide +kernel, by decide +kernel⟩
abbrev st7 : Stmt := topS 13
abbrev N7 : List Str := ["row", "pivot", "column", "factor", "number", "one", "other"]
theorem nd7 : FnScope N7 ["row", "pivot", "column"] (defScope st7) := ⟨rfl, rfl, rfl, by decide +kernel, rfl, by decide +kernel, by decide +kernel⟩
abbrev st8 : Stmt := topS 14
abbrev N8 : List Str := ["rows", "columns", "found", "left", "column", "firsts", "pivot", "row", "place"]
theorem nd8 : FnScope N8 ["rows", "columns"] (defScope st8) := ⟨rfl, rfl, rfl, by decide +kernel, rfl, by decide +kernel, by decide +kernel⟩
abbrev st9 : Stmt := topS 15
abbrev N9 : List Str := ["rows", "found", "left", "column", "row"]
theorem nd9 : FnScope N9 ["rows"] (defScope st9) := ⟨rfl, rfl, rfl, by decide +kernel, rfl, by decide +kernel, by decide +kernel⟩
abbrev st10 : Stmt := topS 16
abbrev N10 : List Str := ["rows", "columns", "found", "left", "pivots", "vectors", "scale", "column", "row", "free", "vector"]
theorem nd10 : FnScope N10 ["rows", "columns"] (defScope st10) := ⟨rfl, rfl, rfl, by decide +kernel, rfl, by decide +kernel, by decide +kernel⟩
abbrev st11 : Stmt := topS 17
abbrev N11 : List Str := ["rows"]
theorem nd11 : FnScope N11 ["rows"] (defScope st11) := ⟨rfl, rfl, rfl, by decide +kernel, rfl, by decide +kernel, by decide +kernel⟩
abbrev st12 : Stmt := topS 18
abbrev N12 : List Str := ["rows"]
theorem nd12 : FnScope N12 ["rows"] (defScope st12) := ⟨rfl, rfl, rfl, by decide +kernel, rfl, by decide +kernel, by decide +kernel⟩
abbrev st13 : Stmt := topS 20
abbrev N13 : List Str := ["script", "at", "cell", "great", "mixed"]
theorem nd13 : FnScope N13 ["script", "at"] (defScope st13) := ⟨rfl, rfl, rfl, by decide +kernel, rfl, by decide +kernel, by decide +kernel⟩
abbrev st14 : Stmt := topS 21
abbrev N14 : List Str := ["stream", "total", "found", "one", "two"]
theorem nd14 : FnScope N14 ["stream", "total"] (defScope st14) := ⟨rfl, rfl, rfl, by decide +kernel, rfl, by decide +kernel, by decide +kernel⟩
abbrev st15 : Stmt := topS 22
abbrev N15 : List Str := ["stream", "items"]
theorem nd15 : FnScope N15 ["stream", "items"] (defScope st15) := ⟨rfl, rfl, rfl, by decide +kernel, rfl, by decide +kernel, by decide +kernel⟩
abbrev st16 : Stmt := topS 23
abbrev N16 : List Str := ["one", "other", "left", "right"]
theorem nd16 : FnScope N16 ["one", "other"] (defScope st16) := ⟨rfl, rfl, rfl, by decide +kernel, rfl, by decide +kernel, by decide +kernel⟩
abbrev st17 : Stmt := topS 24
abbrev N17 : List Str := ["one", "other"]
theorem nd17 : FnScope N17 ["one", "other"] (defScope st17) := ⟨rfl, rfl, rfl, by decide +kernel, rfl, by decide +kernel, by decide +kernel⟩
abbrev st18 : Stmt := topS 25
abbrev N18 : List Str := ["stream", "many", "size", "found", "turn", "way", "fresh", "factor", "at", "number", "one", "other"]
theorem nd18 : FnScope N18 ["stream", "many", "size"] (defScope st18) := ⟨rfl, rfl, rfl, by decide +kernel, rfl, by decide +kernel, by decide +kernel⟩
abbrev st19 : Stmt := topS 26
abbrev N19 : List Str := ["row", "other", "column", "one", "two"]
theorem nd19 : FnScope N19 ["row", "other", "column"] (defScope st19) := ⟨rfl, rfl, rfl, by decide +kernel, rfl, by decide +kernel, by decide +kernel⟩
abbrev st20 : Stmt := topS 27
abbrev N20 : List Str := ["rows", "left", "found", "column", "firsts", "row"]
theorem nd20 : FnScope N20 ["rows"] (defScope st20) := ⟨rfl, rfl, rfl, by decide +kernel, rfl, by decide +kernel, by decide +kernel⟩
abbrev st21 : Stmt := topS 28
abbrev N21 : List Str := ["row", "some", "column", "number"]
theorem nd21 : FnScope N21 ["row"] (defScope st21) := ⟨rfl, rfl, rfl, by decide +kernel, rfl, by decide +kernel, by decide +kernel⟩
abbrev st22 : Stmt := topS 29
abbrev N22 : List Str := ["rows", "row", "pivots", "pivot", "common", "number", "one", "other"]
theorem nd22 : FnScope N22 ["rows"] (defScope st22) := ⟨rfl, rfl, rfl, by decide +kernel, rfl, by decide +kernel, by decide +kernel⟩
abbrev st23 : Stmt := topS 30
abbrev N23 : List Str := ["rows", "kept", "found", "columns", "row", "again", "other"]
theorem nd23 : FnScope N23 ["rows"] (defScope st23) := ⟨rfl, rfl, rfl, by decide +kernel, rfl, by decide +kernel, by decide +kernel⟩
abbrev st24 : Stmt := topS 31
abbrev N24 : List Str := ["script", "at", "stream", "turn", "wide", "found", "row"]
theorem nd24 : FnScope N24 ["script"] (defScope st24) := ⟨rfl, rfl, rfl, by decide +kernel, rfl, by decide +kernel, by decide +kernel⟩
def zsc0 : Scope := ({ kind := PySem.ScopeKind.function , names := [ ( PySem.Str.ofString ".0" , PySem.NameKind.local ) , ( PySem.Str.ofString "number" , PySem.NameKind.local ) , ( PySem.Str.ofString "is_integer" , PySem.NameKind.globalImplicit ) ] , isGenerator := false , isCoroutine := false , more := [ ] : PySem.Scope })
theorem zok0 : blkC N3 (defScope st3) zsc0 [("number", 3)] = true := by decide +kernel
def zsc1 : Scope := ({ kind := PySem.ScopeKind.function , names := [ ( PySem.Str.ofString ".0" , PySem.NameKind.local ) , ( PySem.Str.ofString "row" , PySem.NameKind.local ) , ( PySem.Str.ofString "len" , PySem.NameKind.globalImplicit ) , ( PySem.Str.ofString "value" , PySem.NameKind.free ) ] , isGenerator := false , isCoroutine := false , more := [ ] : PySem.Scope })
theorem zok1 : blkC N4 (defScope st4) zsc1 [("row", 1)] = true := by decide +kernel
def zsc2 : Scope := ({ kind := PySem.ScopeKind.function , names := [ ( PySem.Str.ofString ".0" , PySem.NameKind.local ) , ( PySem.Str.ofString "row" , PySem.NameKind.local ) , ( PySem.Str.ofString "are_integers" , PySem.NameKind.globalImplicit ) , ( PySem.Str.ofString "MAX_COLUMNS" , PySem.NameKind.globalImplicit ) ] , isGenerator := false , isCoroutine := false , more := [ ] : PySem.Scope })
theorem zok2 : blkC N4 (defScope st4) zsc2 [("row", 1)] = true := by decide +kernel
def zsc3 : Scope := ({ kind := PySem.ScopeKind.function , names := [ ( PySem.Str.ofString ".0" , PySem.NameKind.local ) , ( PySem.Str.ofString "number" , PySem.NameKind.local ) , ( PySem.Str.ofString "common" , PySem.NameKind.free ) ] , isGenerator := false , isCoroutine := false , more := [ ] : PySem.Scope })
theorem zok3 : blkC N6 (defScope st6) zsc3 [("number", 3)] = true := by decide +kernel
def zsc4 : Scope := ({ kind := PySem.ScopeKind.function , names := [ ( PySem.Str.ofString ".0" , PySem.NameKind.local ) , ( PySem.Str.ofString "number" , PySem.NameKind.local ) ] , isGenerator := false , isCoroutine := false , more := [ ] : PySem.Scope })
theorem zok4 : blkC N6 (defScope st6) zsc4 [("number", 3)] = true := by decide +kernel
def zsc5 : Scope := ({ kind := PySem.ScopeKind.function , names := [ ( PySem.Str.ofString ".0" , PySem.NameKind.local ) , ( PySem.Str.ofString "one" , PySem.NameKind.local ) , ( PySem.Str.ofString "other" , PySem.NameKind.local ) , ( PySem.Str.ofString "factor" , PySem.NameKind.free ) , ( PySem.Str.ofString "number" , PySem.NameKind.free ) ] , isGenerator := false , isCoroutine := false , more := [ ] : PySem.Scope })
theorem zok5 : blkC N7 (defScope st7) zsc5 [("one", 5), ("other", 6)] = true := by decide +kernel
def zsc6 : Scope := ({ kind := PySem.ScopeKind.function , names := [ ( PySem.Str.ofString ".0" , PySem.NameKind.local ) , ( PySem.Str.ofString "place" , PySem.NameKind.local ) , ( PySem.Str.ofString "row" , PySem.NameKind.local ) , ( PySem.Str.ofString "cleared" , PySem.NameKind.globalImplicit ) , ( PySem.Str.ofString "column" , PySem.NameKind.free ) , ( PySem.Str.ofString "pivot" , PySem.NameKind.free ) ] , isGenerator := false , isCoroutine := false , more := [ ] : PySem.Scope })
theorem zok6 : blkC N8 (defScope st8) zsc6 [("place", 8), ("row", 7)] = true := by decide +kernel
def zsc7 : Scope := ({ kind := PySem.ScopeKind.function , names := [ ( PySem.Str.ofString ".0" , PySem.NameKind.local ) , ( PySem.Str.ofString "row" , PySem.NameKind.local ) , ( PySem.Str.ofString "cleared" , PySem.NameKind.globalImplicit ) , ( PySem.Str.ofString "column" , PySem.NameKind.free ) , ( PySem.Str.ofString "pivot" , PySem.NameKind.free ) ] , isGenerator := false , isCoroutine := false , more := [ ] : PySem.Scope })
theorem zok7 : blkC N8 (defScope st8) zsc7 [("row", 7)] = true := by decide +kernel
def zsc8 : Scope := ({ kind := PySem.ScopeKind.function , names := [ ( PySem.Str.ofString ".0" , PySem.NameKind.local ) , ( PySem.Str.ofString "row" , PySem.NameKind.local ) , ( PySem.Str.ofString "column" , PySem.NameKind.free ) ] , isGenerator := false , isCoroutine := false , more := [ ] : PySem.Scope })
theorem zok8 : blkC N8 (defScope st8) zsc8 [("row", 7)] = true := by decide +kernel
def zsc9 : Scope := ({ kind := PySem.ScopeKind.function , names := [ ( PySem.Str.ofString ".0" , PySem.NameKind.local ) , ( PySem.Str.ofString "row" , PySem.NameKind.local ) , ( PySem.Str.ofString "list" , PySem.NameKind.globalImplicit ) ] , isGenerator := false , isCoroutine := false , more := [ ] : PySem.Scope })
theorem zok9 : blkC N8 (defScope st8) zsc9 [("row", 7)] = true := by decide +kernel
def zsc10 : Scope := ({ kind := PySem.ScopeKind.function , names := [ ( PySem.Str.ofString ".0" , PySem.NameKind.local ) , ( PySem.Str.ofString "column" , PySem.NameKind.local ) , ( PySem.Str.ofString "row" , PySem.NameKind.local ) , ( PySem.Str.ofString "tuple" , PySem.NameKind.globalImplicit ) ] , isGenerator := false , isCoroutine := false , more := [ ] : PySem.Scope })
theorem zok10 : blkC N9 (defScope st9) zsc10 [("column", 3), ("row", 4)] = true := by decide +kernel
def zsc11 : Scope := ({ kind := PySem.ScopeKind.function , names := [ ( PySem.Str.ofString ".0" , PySem.NameKind.local ) , ( PySem.Str.ofString "left" , PySem.NameKind.local ) , ( PySem.Str.ofString "right" , PySem.NameKind.local ) ] , isGenerator := false , isCoroutine := false , more := [ ] : PySem.Scope })
theorem zok11 : blkC N16 (defScope st16) zsc11 [("left", 2), ("right", 3)] = true := by decide +kernel
def zsc12 : Scope := ({ kind := PySem.ScopeKind.function , names := [ ( PySem.Str.ofString ".0" , PySem.NameKind.local ) , ( PySem.Str.ofString "number" , PySem.NameKind.local ) , ( PySem.Str.ofString "_law_draw" , PySem.NameKind.globalImplicit ) , ( PySem.Str.ofString "stream" , PySem.NameKind.free ) ] , isGenerator := false , isCoroutine := false , more := [ ] : PySem.Scope })
theorem zok12 : blkC N18 (defScope st18) zsc12 [("number", 9)] = true := by decide +kernel
def zsc13 : Scope := ({ kind := PySem.ScopeKind.function , names := [ ( PySem.Str.ofString ".0" , PySem.NameKind.local ) , ( PySem.Str.ofString "one" , PySem.NameKind.local ) , ( PySem.Str.ofString "other" , PySem.NameKind.local ) ] , isGenerator := false , isCoroutine := false , more := [ ] : PySem.Scope })
theorem zok13 : blkC N18 (defScope st18) zsc13 [("one", 10), ("other", 11)] = true := by decide +kernel
def zsc14 : Scope := ({ kind := PySem.ScopeKind.function , names := [ ( PySem.Str.ofString ".0" , PySem.NameKind.local ) , ( PySem.Str.ofString "number" , PySem.NameKind.local ) , ( PySem.Str.ofString "factor" , PySem.NameKind.free ) ] , isGenerator := false , isCoroutine := false , more := [ ] : PySem.Scope })
theorem zok14 : blkC N18 (defScope st18) zsc14 [("number", 9)] = true := by decide +kernel
def zsc15 : Scope := ({ kind := PySem.ScopeKind.function , names := [ ( PySem.Str.ofString ".0" , PySem.NameKind.local ) , ( PySem.Str.ofString "at" , PySem.NameKind.local ) , ( PySem.Str.ofString "_law_draw" , PySem.NameKind.globalImplicit ) , ( PySem.Str.ofString "stream" , PySem.NameKind.free ) ] , isGenerator := false , isCoroutine := false , more := [ ] : PySem.Scope })
theorem zok15 : blkC N18 (defScope st18) zsc15 [("at", 8)] = true := by decide +kernel
def zsc16 : Scope := ({ kind := PySem.ScopeKind.function , names := [ ( PySem.Str.ofString ".0" , PySem.NameKind.local ) , ( PySem.Str.ofString "one" , PySem.NameKind.local ) , ( PySem.Str.ofString "two" , PySem.NameKind.local ) , ( PySem.Str.ofString "column" , PySem.NameKind.free ) , ( PySem.Str.ofString "other" , PySem.NameKind.free ) , ( PySem.Str.ofString "row" , PySem.NameKind.free ) ] , isGenerator := false , isCoroutine := false , more := [ ] : PySem.Scope })
theorem zok16 : blkC N19 (defScope st19) zsc16 [("one", 3), ("two", 4)] = true := by decide +kernel
def zsc17 : Scope := ({ kind := PySem.ScopeKind.function , names := [ ( PySem.Str.ofString ".0" , PySem.NameKind.local ) , ( PySem.Str.ofString "row" , PySem.NameKind.local ) , ( PySem.Str.ofString "_law_less" , PySem.NameKind.globalImplicit ) , ( PySem.Str.ofString "column" , PySem.NameKind.free ) , ( PySem.Str.ofString "firsts" , PySem.NameKind.free ) ] , isGenerator := false , isCoroutine := false , more := [ ] : PySem.Scope })
theorem zok17 : blkC N20 (defScope st20) zsc17 [("row", 5)] = true := by decide +kernel
def zsc18 : Scope := ({ kind := PySem.ScopeKind.function , names := [ ( PySem.Str.ofString ".0" , PySem.NameKind.local ) , ( PySem.Str.ofString "row" , PySem.NameKind.local ) , ( PySem.Str.ofString "column" , PySem.NameKind.free ) ] , isGenerator := false , isCoroutine := false , more := [ ] : PySem.Scope })
theorem zok18 : blkC N20 (defScope st20) zsc18 [("row", 5)] = true := by decide +kernel
def zsc19 : Scope := ({ kind := PySem.ScopeKind.function , names := [ ( PySem.Str.ofString ".0" , PySem.NameKind.local ) , ( PySem.Str.ofString "column" , PySem.NameKind.local ) , ( PySem.Str.ofString "number" , PySem.NameKind.local ) ] , isGenerator := false , isCoroutine := false , more := [ ] : PySem.Scope })
theorem zok19 : blkC N21 (defScope st21) zsc19 [("column", 2), ("number", 3)] = true := by decide +kernel
def zsc20 : Scope := ({ kind := PySem.ScopeKind.function , names := [ ( PySem.Str.ofString ".0" , PySem.NameKind.local ) , ( PySem.Str.ofString "other" , PySem.NameKind.local ) , ( PySem.Str.ofString "pivot" , PySem.NameKind.free ) ] , isGenerator := false , isCoroutine := false , more := [ ] : PySem.Scope })
theorem zok20 : blkC N22 (defScope st22) zsc20 [("other", 7)] = true := by decide +kernel
def zsc21 : Scope := ({ kind := PySem.ScopeKind.function , names := [ ( PySem.Str.ofString ".0" , PySem.NameKind.local ) , ( PySem.Str.ofString "one" , PySem.NameKind.local ) , ( PySem.Str.ofString "other" , PySem.NameKind.local ) ] , isGenerator := false , isCoroutine := false , more := [ ] : PySem.Scope })
theorem zok21 : blkC N22 (defScope st22) zsc21 [("one", 6), ("other", 7)] = true := by decide +kernel
def zsc22 : Scope := ({ kind := PySem.ScopeKind.function , names := [ ( PySem.Str.ofString ".0" , PySem.NameKind.local ) , ( PySem.Str.ofString "row" , PySem.NameKind.local ) , ( PySem.Str.ofString "_law_pivot" , PySem.NameKind.globalImplicit ) ] , isGenerator := false , isCoroutine := false , more := [ ] : PySem.Scope })
theorem zok22 : blkC N22 (defScope st22) zsc22 [("row", 1)] = true := by decide +kernel
def zsc23 : Scope := ({ kind := PySem.ScopeKind.function , names := [ ( PySem.Str.ofString ".0" , PySem.NameKind.local ) , ( PySem.Str.ofString "other" , PySem.NameKind.local ) , ( PySem.Str.ofString "_law_dot" , PySem.NameKind.globalImplicit ) , ( PySem.Str.ofString "row" , PySem.NameKind.free ) ] , isGenerator := false , isCoroutine := false , more := [ ] : PySem.Scope })
theorem zok23 : blkC N23 (defScope st23) zsc23 [("other", 6)] = true := by decide +kernel
def zsc24 : Scope := ({ kind := PySem.ScopeKind.function , names := [ ( PySem.Str.ofString ".0" , PySem.NameKind.local ) , ( PySem.Str.ofString "row" , PySem.NameKind.local ) , ( PySem.Str.ofString "len" , PySem.NameKind.globalImplicit ) , ( PySem.Str.ofString "columns" , PySem.NameKind.free ) ] , isGenerator := false , isCoroutine := false , more := [ ] : PySem.Scope })
theorem zok24 : blkC N23 (defScope st23) zsc24 [("row", 4)] = true := by decide +kernel
def zsc25 : Scope := ({ kind := PySem.ScopeKind.function , names := [ ( PySem.Str.ofString ".0" , PySem.NameKind.local ) , ( PySem.Str.ofString "row" , PySem.NameKind.local ) , ( PySem.Str.ofString "isinstance" , PySem.NameKind.globalImplicit ) , ( PySem.Str.ofString "tuple" , PySem.NameKind.globalImplicit ) ] , isGenerator := false , isCoroutine := false , more := [ ] : PySem.Scope })
theorem zok25 : blkC N23 (defScope st23) zsc25 [("row", 4)] = true := by decide +kernel
def zsc26 : Scope := ({ kind := PySem.ScopeKind.function , names := [ ( PySem.Str.ofString ".0" , PySem.NameKind.local ) , ( PySem.Str.ofString "row" , PySem.NameKind.local ) , ( PySem.Str.ofString "sum" , PySem.NameKind.globalImplicit ) ] , isGenerator := false , isCoroutine := false , more := [ ] : PySem.Scope })
theorem zok26 : blkC N24 (defScope st24) zsc26 [("row", 6)] = true := by decide +kernel
structure Fx (K : Frag) (mg : Str → Option Value) (a0 a1 a2 a3 a4 a5 a6 a7 a8 a9 a10 a11 a12 a13 a14 a15 a16 a17 a18 a19 a20 a21 a22 a23 a24 : Addr) : Prop where
  g_is_integer : mg "is_integer" = some (.ref a0)
  k_is_integer : PySem.W.keepIn K (.ref a0) = true
  f_is_integer : ∃ fd, Fun K "is_integer" "is_integer" st0 a0 fd
  g_common_in : mg "common_in" = some (.ref a1)
  k_common_in : PySem.W.keepIn K (.ref a1) = true
  f_common_in : ∃ fd, Fun K "common_in" "common_in" st1 a1 fd
  g_common_of : mg "common_of" = some (.ref a2)
  k_common_of : PySem.W.keepIn K (.ref a2) = true
  f_common_of : ∃ fd, Fun K "common_of" "common_of" st2 a2 fd
  g_are_integers : mg "are_integers" = some (.ref a3)
  k_are_integers : PySem.W.keepIn K (.ref a3) = true
  f_are_integers : ∃ fd, Fun K "are_integers" "are_integers" st3 a3 fd
  g_are_rows : mg "are_rows" = some (.ref a4)
  k_are_rows : PySem.W.keepIn K (.ref a4) = true
  f_are_rows : ∃ fd, Fun K "are_rows" "are_rows" st4 a4 fd
  g_require_rows : mg "require_rows" = some (.ref a5)
  k_require_rows : PySem.W.keepIn K (.ref a5) = true
  f_require_rows : ∃ fd, Fun K "require_rows" "require_rows" st5 a5 fd
  g_primitive : mg "primitive" = some (.ref a6)
  k_primitive : PySem.W.keepIn K (.ref a6) = true
  f_primitive : ∃ fd, Fun K "primitive" "primitive" st6 a6 fd
  g_cleared : mg "cleared" = some (.ref a7)
  k_cleared : PySem.W.keepIn K (.ref a7) = true
  f_cleared : ∃ fd, Fun K "cleared" "cleared" st7 a7 fd
  g_eliminated : mg "eliminated" = some (.ref a8)
  k_eliminated : PySem.W.keepIn K (.ref a8) = true
  f_eliminated : ∃ fd, Fun K "eliminated" "eliminated" st8 a8 fd
  g_reduced_in : mg "reduced_in" = some (.ref a9)
  k_reduced_in : PySem.W.keepIn K (.ref a9) = true
  f_reduced_in : ∃ fd, Fun K "reduced_in" "reduced_in" st9 a9 fd
  g_kernel_in : mg "kernel_in" = some (.ref a10)
  k_kernel_in : PySem.W.keepIn K (.ref a10) = true
  f_kernel_in : ∃ fd, Fun K "kernel_in" "kernel_in" st10 a10 fd
  g_reduced : mg "reduced" = some (.ref a11)
  k_reduced : PySem.W.keepIn K (.ref a11) = true
  f_reduced : ∃ fd, Fun K "reduced" "reduced" st11 a11 fd
  g_kernel : mg "kernel" = some (.ref a12)
  k_kernel : PySem.W.keepIn K (.ref a12) = true
  f_kernel : ∃ fd, Fun K "kernel" "kernel" st12 a12 fd
  g__law_stream : mg "_law_stream" = some (.ref a13)
  k__law_stream : PySem.W.keepIn K (.ref a13) = true
  f__law_stream : ∃ fd, Fun K "_law_stream" "_law_stream" st13 a13 fd
  g__law_draw : mg "_law_draw" = some (.ref a14)
  k__law_draw : PySem.W.keepIn K (.ref a14) = true
  f__law_draw : ∃ fd, Fun K "_law_draw" "_law_draw" st14 a14 fd
  g__law_pick : mg "_law_pick" = some (.ref a15)
  k__law_pick : PySem.W.keepIn K (.ref a15) = true
  f__law_pick : ∃ fd, Fun K "_law_pick" "_law_pick" st15 a15 fd
  g__law_dot : mg "_law_dot" = some (.ref a16)
  k__law_dot : PySem.W.keepIn K (.ref a16) = true
  f__law_dot : ∃ fd, Fun K "_law_dot" "_law_dot" st16 a16 fd
  g__law_common : mg "_law_common" = some (.ref a17)
  k__law_common : PySem.W.keepIn K (.ref a17) = true
  f__law_common : ∃ fd, Fun K "_law_common" "_law_common" st17 a17 fd
  g__law_rows : mg "_law_rows" = some (.ref a18)
  k__law_rows : PySem.W.keepIn K (.ref a18) = true
  f__law_rows : ∃ fd, Fun K "_law_rows" "_law_rows" st18 a18 fd
  g__law_less : mg "_law_less" = some (.ref a19)
  k__law_less : PySem.W.keepIn K (.ref a19) = true
  f__law_less : ∃ fd, Fun K "_law_less" "_law_less" st19 a19 fd
  g__law_rank : mg "_law_rank" = some (.ref a20)
  k__law_rank : PySem.W.keepIn K (.ref a20) = true
  f__law_rank : ∃ fd, Fun K "_law_rank" "_law_rank" st20 a20 fd
  g__law_pivot : mg "_law_pivot" = some (.ref a21)
  k__law_pivot : PySem.W.keepIn K (.ref a21) = true
  f__law_pivot : ∃ fd, Fun K "_law_pivot" "_law_pivot" st21 a21 fd
  g__law_is_reduced : mg "_law_is_reduced" = some (.ref a22)
  k__law_is_reduced : PySem.W.keepIn K (.ref a22) = true
  f__law_is_reduced : ∃ fd, Fun K "_law_is_reduced" "_law_is_reduced" st22 a22 fd
  g__law_right : mg "_law_right" = some (.ref a23)
  k__law_right : PySem.W.keepIn K (.ref a23) = true
  f__law_right : ∃ fd, Fun K "_law_right" "_law_right" st23 a23 fd
  g_law : mg "law" = some (.ref a24)
  k_law : PySem.W.keepIn K (.ref a24) = true
  f_law : ∃ fd, Fun K "law" "law" st24 a24 fd
  z_abs : mg "abs" = none
  z_all : mg "all" = none
  z_bool : mg "bool" = none
  z_dict : mg "dict" = none
  z_enumerate : mg "enumerate" = none
  z_int : mg "int" = none
  z_isinstance : mg "isinstance" = none
  z_len : mg "len" = none
  z_list : mg "list" = none
  z_max : mg "max" = none
  z_min : mg "min" = none
  z_range : mg "range" = none
  z_repr : mg "repr" = none
  z_sum : mg "sum" = none
  z_tuple : mg "tuple" = none
  z_zip : mg "zip" = none
  c_MAX_COLUMNS : ∃ t, mg "MAX_COLUMNS" = some (.int 60 t)
set_option maxHeartbeats 8000000
section
variable {P : Program} {w : World} {K : Frag} {mg : Str → Option Value} {base : Heap} {a0 a1 a2 a3 a4 a5 a6 a7 a8 a9 a10 a11 a12 a13 a14 a15 a16 a17 a18 a19 a20 a21 a22 a23 a24 : Addr} {wf k : Nat}
theorem B0 (FX : Fx K mg a0 a1 a2 a3 a4 a5 a6 a7 a8 a9 a10 a11 a12 a13 a14 a15 a16 a17 a18 a19 a20 a21 a22 a23 a24) (L : Lev P w K mg base [a0, a1, a2, a3, a4, a5, a6, a7, a8, a9, a10, a11, a12, a13, a14, a15, a16, a17, a18, a19, a20, a21, a22, a23, a24] prog wf k) : BodyJ P w K mg base k a0 "is_integer" N0 st0 (Ln.execs (Ln.callI prog wf k) wf b_is_integer) := by
  intro cdv A outer s H E hG hr
  have hu : (A.deeper (envOfC "is_integer" (defScope st0) s.heap.objs.size a0 cdv)).units + 65 < cLine := by have := hr.un; omega
  have hu1 : (A.deeper (envOfC "is_integer" (defScope st0) s.heap.objs.size a0 cdv)).units + 64 < cLine := by omega
  obtain ⟨t_MAX_COLUMNS, h_MAX_COLUMNS⟩ := FX.c_MAX_COLUMNS
  exact (jss_cons (js_ret (je_and (je_isi .int (by rfl) FX.z_isinstance bt_int (by rfl) FX.z_int (je_var (pv 0))) (je_one (je_not (je_isi .bool (by rfl) FX.z_isinstance bt_bool (by rfl) FX.z_bool (je_var (pv 0)))))))
      jss_nil)
theorem B1 (FX : Fx K mg a0 a1 a2 a3 a4 a5 a6 a7 a8 a9 a10 a11 a12 a13 a14 a15 a16 a17 a18 a19 a20 a21 a22 a23 a24) (L : Lev P w K mg base [a0, a1, a2, a3, a4, a5, a6, a7, a8, a9, a10, a11, a12, a13, a14, a15, a16, a17, a18, a19, a20, a21, a22, a23, a24] prog wf k) : BodyJ P w K mg base k a1 "common_in" N1 st1 (Ln.execs (Ln.callI prog wf k) wf b_common_in) := by
  intro cdv A outer s H E hG hr
  have hu : (A.deeper (envOfC "common_in" (defScope st1) s.heap.objs.size a1 cdv)).units + 65 < cLine := by have := hr.un; omega
  have hu1 : (A.deeper (envOfC "common_in" (defScope st1) s.heap.objs.size a1 cdv)).units + 64 < cLine := by omega
  obtain ⟨t_MAX_COLUMNS, h_MAX_COLUMNS⟩ := FX.c_MAX_COLUMNS
  exact (jss_cons (js_par2 (i := 0) (j := 1) rfl nd1.nd rfl rfl (by decide) rfl rfl (ja_cons (je_bltB .abs (fun _ _ => rfl) cb_abs (by rfl) FX.z_abs bt_abs (ja_cons (je_var (pv 0)) ja_nil)) (ja_cons (je_bltB .abs (fun _ _ => rfl) cb_abs (by rfl) FX.z_abs bt_abs (ja_cons (je_var (pv 1)) ja_nil)) ja_nil)) (by rfl))
      (jss_cons (js_while PassesOwn.never (jt_cmp .gt hu (je_var (pv 1)) je_int (nomark _))
      (jss_cons (js_par2 (i := 0) (j := 1) rfl nd1.nd rfl rfl (by decide) rfl rfl (ja_cons (je_var (pv 1)) (ja_cons (je_bin .mod (je_var (pv 0)) (je_var (pv 1))) ja_nil)) (by rfl))
      jss_nil))
      (jss_cons (js_ret (je_var (pv 0)))
      jss_nil)))
theorem B2 (FX : Fx K mg a0 a1 a2 a3 a4 a5 a6 a7 a8 a9 a10 a11 a12 a13 a14 a15 a16 a17 a18 a19 a20 a21 a22 a23 a24) (L : Lev P w K mg base [a0, a1, a2, a3, a4, a5, a6, a7, a8, a9, a10, a11, a12, a13, a14, a15, a16, a17, a18, a19, a20, a21, a22, a23, a24] prog wf k) : BodyJ P w K mg base k a2 "common_of" N2 st2 (Ln.execs (Ln.callI prog wf k) wf b_common_of) := by
  intro cdv A outer s H E hG hr
  have hu : (A.deeper (envOfC "common_of" (defScope st2) s.heap.objs.size a2 cdv)).units + 65 < cLine := by have := hr.un; omega
  have hu1 : (A.deeper (envOfC "common_of" (defScope st2) s.heap.objs.size a2 cdv)).units + 64 < cLine := by omega
  obtain ⟨t_MAX_COLUMNS, h_MAX_COLUMNS⟩ := FX.c_MAX_COLUMNS
  exact (jss_cons (js_set (i := 1) nd2.nd rfl (by first | exact .inl rfl | exact .inr rfl) je_int)
      (jss_cons (js_for PassesOwn.never rfl (ji_seq (je_var (pv 0))) (jg_nm (pg_name (i := 2) nd2.nd rfl (by first | exact .inl rfl | exact .inr rfl)))
      (jss_cons (js_set (i := 1) nd2.nd rfl (by first | exact .inl rfl | exact .inr rfl) (je_call 1 (L.ok 1 _ rfl) hr hG (by rfl) FX.g_common_in FX.k_common_in (ja_cons (je_var (pv 1)) (ja_cons (je_var (pv 2)) ja_nil))))
      jss_nil))
      (jss_cons (js_ret (je_var (pv 1)))
      jss_nil)))
theorem B3 (FX : Fx K mg a0 a1 a2 a3 a4 a5 a6 a7 a8 a9 a10 a11 a12 a13 a14 a15 a16 a17 a18 a19 a20 a21 a22 a23 a24) (L : Lev P w K mg base [a0, a1, a2, a3, a4, a5, a6, a7, a8, a9, a10, a11, a12, a13, a14, a15, a16, a17, a18, a19, a20, a21, a22, a23, a24] prog wf k) : BodyJ P w K mg base k a3 "are_integers" N3 st3 (Ln.execs (Ln.callI prog wf k) wf b_are_integers) := by
  intro cdv A outer s H E hG hr
  have hu : (A.deeper (envOfC "are_integers" (defScope st3) s.heap.objs.size a3 cdv)).units + 65 < cLine := by have := hr.un; omega
  have hu1 : (A.deeper (envOfC "are_integers" (defScope st3) s.heap.objs.size a3 cdv)).units + 64 < cLine := by omega
  obtain ⟨t_MAX_COLUMNS, h_MAX_COLUMNS⟩ := FX.c_MAX_COLUMNS
  exact (jss_cons (js_ret (je_and (je_isi .tuple (by rfl) FX.z_isinstance bt_tuple (by rfl) FX.z_tuple (je_var (pv 0))) (je_and (je_chain .le .le hu (je_var (pv 1)) (je_bltB .len (fun _ _ => rfl) cb_len (by rfl) FX.z_len bt_len (ja_cons (je_var (pv 0)) ja_nil)) (je_var (pv 2)) (by with_unfolding_all rfl)) (je_one (je_bltB .all (fun _ _ => rfl) (cb_all rfl) (by rfl) FX.z_all bt_all (ja_cons (je_lc (own := [("number", 3)]) rfl nd3.nd (ji_seq (je_var (pv 0))) (blkOk_by zok0) (by decide) (fun _ _ _ _ _ => (jg_nm (pg_name (i := 3) nd3.nd rfl (by first | exact .inl rfl | exact .inr rfl)))) (fun _ _ _ _ _ => jts_nil) (fun _ _ _ _ _ => (je_call 0 (L.ok 0 _ rfl) hr hG (by rfl) FX.g_is_integer FX.k_is_integer (ja_cons (je_var (pv 3)) ja_nil))) (fun _ => rfl)) ja_nil))))))
      jss_nil)
theorem B4 (FX : Fx K mg a0 a1 a2 a3 a4 a5 a6 a7 a8 a9 a10 a11 a12 a13 a14 a15 a16 a17 a18 a19 a20 a21 a22 a23 a24) (L : Lev P w K mg base [a0, a1, a2, a3, a4, a5, a6, a7, a8, a9, a10, a11, a12, a13, a14, a15, a16, a17, a18, a19, a20, a21, a22, a23, a24] prog wf k) : BodyJ P w K mg base k a4 "are_rows" N4 st4 (Ln.execs (Ln.callI prog wf k) wf b_are_rows) := by
  intro cdv A outer s H E hG hr
  have hu : (A.deeper (envOfC "are_rows" (defScope st4) s.heap.objs.size a4 cdv)).units + 65 < cLine := by have := hr.un; omega
  have hu1 : (A.deeper (envOfC "are_rows" (defScope st4) s.heap.objs.size a4 cdv)).units + 64 < cLine := by omega
  obtain ⟨t_MAX_COLUMNS, h_MAX_COLUMNS⟩ := FX.c_MAX_COLUMNS
  exact (jss_cons (js_if (jt_w (jw_or (jt_not (jt_truth (je_isi .tuple (by rfl) FX.z_isinstance bt_tuple (by rfl) FX.z_tuple (je_var (pv 0))) fun _ => rfl)) (jw_or (jt_cmp .eq hu (je_var (pv 0)) (je_tup ja_nil) (nomark _)) (jw_or1 (jt_not (jt_truth (je_bltB .all (fun _ _ => rfl) (cb_all rfl) (by rfl) FX.z_all bt_all (ja_cons (je_lc (own := [("row", 1)]) rfl nd4.nd (ji_seq (je_var (pv 0))) (blkOk_by zok2) (by decide) (fun _ _ _ _ _ => (jg_nm (pg_name (i := 1) nd4.nd rfl (by first | exact .inl rfl | exact .inr rfl)))) (fun _ _ _ _ _ => jts_nil) (fun _ _ _ _ _ => (je_call 3 (L.ok 3 _ rfl) hr hG (by rfl) FX.g_are_integers FX.k_are_integers (ja_cons (je_var (pv 1)) (ja_cons je_int (ja_cons (je_cst (pe_glob (v := .int 60) (by rfl) h_MAX_COLUMNS ⟨_, rfl⟩) fun _ _ => .int _) ja_nil))))) (fun _ => rfl)) ja_nil)) fun _ => rfl))))))
      (jss_cons (js_ret je_bl)
      jss_nil) jss_nil)
      (jss_cons (js_ret (je_bltB .all (fun _ _ => rfl) (cb_all rfl) (by rfl) FX.z_all bt_all (ja_cons (je_lc (own := [("row", 1)]) rfl nd4.nd (ji_seq (je_var (pv 0))) (blkOk_by zok1) (by decide) (fun _ _ _ _ _ => (jg_nm (pg_name (i := 1) nd4.nd rfl (by first | exact .inl rfl | exact .inr rfl)))) (fun _ _ _ _ _ => jts_nil) (fun _ _ _ _ _ => (je_cmp .eq hu (je_bltB .len (fun _ _ => rfl) cb_len (by rfl) FX.z_len bt_len (ja_cons (je_var (pv 1)) ja_nil)) (je_bltB .len (fun _ _ => rfl) cb_len (by rfl) FX.z_len bt_len (ja_cons (je_idx hu (je_var (pv 0)) je_int (fun _ _ => rfl)) ja_nil)) (nomark _))) (fun _ => rfl)) ja_nil)))
      jss_nil))
theorem B5 (FX : Fx K mg a0 a1 a2 a3 a4 a5 a6 a7 a8 a9 a10 a11 a12 a13 a14 a15 a16 a17 a18 a19 a20 a21 a22 a23 a24) (L : Lev P w K mg base [a0, a1, a2, a3, a4, a5, a6, a7, a8, a9, a10, a11, a12, a13, a14, a15, a16, a17, a18, a19, a20, a21, a22, a23, a24] prog wf k) : BodyJ P w K mg base k a5 "require_rows" N5 st5 (Ln.execs (Ln.callI prog wf k) wf b_require_rows) := by
  intro cdv A outer s H E hG hr
  have hu : (A.deeper (envOfC "require_rows" (defScope st5) s.heap.objs.size a5 cdv)).units + 65 < cLine := by have := hr.un; omega
  have hu1 : (A.deeper (envOfC "require_rows" (defScope st5) s.heap.objs.size a5 cdv)).units + 64 < cLine := by omega
  obtain ⟨t_MAX_COLUMNS, h_MAX_COLUMNS⟩ := FX.c_MAX_COLUMNS
  exact (jss_cons (js_if (jt_not (jt_truth (je_call 4 (L.ok 4 _ rfl) hr hG (by rfl) FX.g_are_rows FX.k_are_rows (ja_cons (je_var (pv 0)) ja_nil)) fun _ => rfl))
      (jss_cons js_bad
      jss_nil) jss_nil)
      jss_nil)
theorem B6 (FX : Fx K mg a0 a1 a2 a3 a4 a5 a6 a7 a8 a9 a10 a11 a12 a13 a14 a15 a16 a17 a18 a19 a20 a21 a22 a23 a24) (L : Lev P w K mg base [a0, a1, a2, a3, a4, a5, a6, a7, a8, a9, a10, a11, a12, a13, a14, a15, a16, a17, a18, a19, a20, a21, a22, a23, a24] prog wf k) : BodyJ P w K mg base k a6 "primitive" N6 st6 (Ln.execs (Ln.callI prog wf k) wf b_primitive) := by
  intro cdv A outer s H E hG hr
  have hu : (A.deeper (envOfC "primitive" (defScope st6) s.heap.objs.size a6 cdv)).units + 65 < cLine := by have := hr.un; omega
  have hu1 : (A.deeper (envOfC "primitive" (defScope st6) s.heap.objs.size a6 cdv)).units + 64 < cLine := by omega
  obtain ⟨t_MAX_COLUMNS, h_MAX_COLUMNS⟩ := FX.c_MAX_COLUMNS
  exact (jss_cons (js_setLc (i := 1) rfl (own := [("number", 3)]) rfl nd6.nd (ji_seq (je_var (pv 0))) (blkOk_by zok4) (by decide) (fun _ _ _ _ _ => (jg_nm (pg_name (i := 3) nd6.nd rfl (by first | exact .inl rfl | exact .inr rfl)))) (fun _ _ _ _ _ => (jts_one (jt_cmp .ne hu (je_var (pv 3)) je_int (nomark _)))) (fun _ _ _ _ _ => (je_var (pv 3))) (fun _ => rfl))
      (jss_cons (js_if (jt_cmp .eq hu (je_var (pv 1)) (je_lst ja_nil) (nomark _))
      (jss_cons (js_ret (je_var (pv 0)))
      jss_nil) jss_nil)
      (jss_cons (js_set (i := 2) nd6.nd rfl (by first | exact .inl rfl | exact .inr rfl) (je_call 2 (L.ok 2 _ rfl) hr hG (by rfl) FX.g_common_of FX.k_common_of (ja_cons (je_var (pv 1)) ja_nil)))
      (jss_cons (js_if (jt_cmp .lt hu (je_idx hu (je_var (pv 1)) je_int (fun _ _ => rfl)) je_int (nomark _))
      (jss_cons (js_set (i := 2) nd6.nd rfl (by first | exact .inl rfl | exact .inr rfl) (je_bin .sub je_int (je_var (pv 2))))
      jss_nil) jss_nil)
      (jss_cons (js_ret (je_lc (own := [("number", 3)]) rfl nd6.nd (ji_seq (je_var (pv 0))) (blkOk_by zok3) (by decide) (fun _ _ _ _ _ => (jg_nm (pg_name (i := 3) nd6.nd rfl (by first | exact .inl rfl | exact .inr rfl)))) (fun _ _ _ _ _ => jts_nil) (fun _ _ _ _ _ => (je_bin .fdiv (je_var (pv 3)) (je_var (pv 2)))) (fun _ => rfl)))
      jss_nil)))))
theorem B7 (FX : Fx K mg a0 a1 a2 a3 a4 a5 a6 a7 a8 a9 a10 a11 a12 a13 a14 a15 a16 a17 a18 a19 a20 a21 a22 a23 a24) (L : Lev P w K mg base [a0, a1, a2, a3, a4, a5, a6, a7, a8, a9, a10, a11, a12, a13, a14, a15, a16, a17, a18, a19, a20, a21, a22, a23, a24] prog wf k) : BodyJ P w K mg base k a7 "cleared" N7 st7 (Ln.execs (Ln.callI prog wf k) wf b_cleared) := by
  intro cdv A outer s H E hG hr
  have hu : (A.deeper (envOfC "cleared" (defScope st7) s.heap.objs.size a7 cdv)).units + 65 < cLine := by have := hr.un; omega
  have hu1 : (A.deeper (envOfC "cleared" (defScope st7) s.heap.objs.size a7 cdv)).units + 64 < cLine := by omega
  obtain ⟨t_MAX_COLUMNS, h_MAX_COLUMNS⟩ := FX.c_MAX_COLUMNS
  exact (jss_cons (js_setT (je_tup (ja_cons (je_idx hu (je_var (pv 1)) (je_var (pv 2)) (fun _ _ => rfl)) (ja_cons (je_idx hu (je_var (pv 0)) (je_var (pv 2)) (fun _ _ => rfl)) ja_nil))) (jg_un rfl (jgs_cons (pg_name (i := 3) nd7.nd rfl (by first | exact .inl rfl | exact .inr rfl)) (jgs_cons (pg_name (i := 4) nd7.nd rfl (by first | exact .inl rfl | exact .inr rfl)) jgs_nil))))
      (jss_cons (js_ret (je_call 6 (L.ok 6 _ rfl) hr hG (by rfl) FX.g_primitive FX.k_primitive (ja_cons (je_lc (own := [("one", 5), ("other", 6)]) rfl nd7.nd (ji_zip (by rfl) FX.z_zip (je_var (pv 0)) (je_var (pv 1))) (blkOk_by zok5) (by decide) (fun _ _ _ _ _ => (jg_tp (pg_tup rfl (jgs_cons (pg_name (i := 5) nd7.nd rfl (by first | exact .inl rfl | exact .inr rfl)) (jgs_cons (pg_name (i := 6) nd7.nd rfl (by first | exact .inl rfl | exact .inr rfl)) jgs_nil))))) (fun _ _ _ _ _ => jts_nil) (fun _ _ _ _ _ => (je_bin .sub (je_bin .mul (je_var (pv 3)) (je_var (pv 5))) (je_bin .mul (je_var (pv 4)) (je_var (pv 6))))) (fun _ => rfl)) ja_nil)))
      jss_nil))
theorem B8 (FX : Fx K mg a0 a1 a2 a3 a4 a5 a6 a7 a8 a9 a10 a11 a12 a13 a14 a15 a16 a17 a18 a19 a20 a21 a22 a23 a24) (L : Lev P w K mg base [a0, a1, a2, a3, a4, a5, a6, a7, a8, a9, a10, a11, a12, a13, a14, a15, a16, a17, a18, a19, a20, a21, a22, a23, a24] prog wf k) : BodyJ P w K mg base k a8 "eliminated" N8 st8 (Ln.execs (Ln.callI prog wf k) wf b_eliminated) := by
  intro cdv A outer s H E hG hr
  have hu : (A.deeper (envOfC "eliminated" (defScope st8) s.heap.objs.size a8 cdv)).units + 65 < cLine := by have := hr.un; omega
  have hu1 : (A.deeper (envOfC "eliminated" (defScope st8) s.heap.objs.size a8 cdv)).units + 64 < cLine := by omega
  obtain ⟨t_MAX_COLUMNS, h_MAX_COLUMNS⟩ := FX.c_MAX_COLUMNS
  exact (jss_cons (js_par2 (i := 2) (j := 3) rfl nd8.nd rfl rfl (by decide) rfl rfl (ja_cons (je_lst ja_nil) (ja_cons (je_lc (own := [("row", 7)]) rfl nd8.nd (ji_seq (je_var (pv 0))) (blkOk_by zok9) (by decide) (fun _ _ _ _ _ => (jg_nm (pg_name (i := 7) nd8.nd rfl (by first | exact .inl rfl | exact .inr rfl)))) (fun _ _ _ _ _ => jts_nil) (fun _ _ _ _ _ => (je_bltT .list (fun _ _ => rfl) cb_list (by rfl) FX.z_list bt_list (ja_cons (je_var (pv 7)) ja_nil))) (fun _ => rfl)) ja_nil)) (by rfl))
      (jss_cons (js_for PassesOwn.never rfl (ji_rng1 (by rfl) FX.z_range (je_var (pv 1))) (jg_nm (pg_name (i := 4) nd8.nd rfl (by first | exact .inl rfl | exact .inr rfl)))
      (jss_cons (js_setLc (i := 5) rfl (own := [("row", 7)]) rfl nd8.nd (ji_seq (je_var (pv 3))) (blkOk_by zok8) (by decide) (fun _ _ _ _ _ => (jg_nm (pg_name (i := 7) nd8.nd rfl (by first | exact .inl rfl | exact .inr rfl)))) (fun _ _ _ _ _ => (jts_one (jt_cmp .ne hu (je_idx hu (je_var (pv 7)) (je_var (pv 4)) (fun _ _ => rfl)) je_int (nomark _)))) (fun _ _ _ _ _ => (je_var (pv 7))) (fun _ => rfl))
      (jss_cons (js_if (jt_cmp .ne hu (je_var (pv 5)) (je_lst ja_nil) (nomark _))
      (jss_cons (js_set (i := 6) nd8.nd rfl (by first | exact .inl rfl | exact .inr rfl) (je_call 6 (L.ok 6 _ rfl) hr hG (by rfl) FX.g_primitive FX.k_primitive (ja_cons (je_idx hu (je_var (pv 5)) je_int (fun _ _ => rfl)) ja_nil)))
      (jss_cons (js_setLc (i := 3) rfl (own := [("row", 7)]) rfl nd8.nd (ji_seq (je_var (pv 3))) (blkOk_by zok7) (by decide) (fun _ _ _ _ _ => (jg_nm (pg_name (i := 7) nd8.nd rfl (by first | exact .inl rfl | exact .inr rfl)))) (fun _ _ _ _ _ => jts_nil) (fun _ _ _ _ _ => (je_call 7 (L.ok 7 _ rfl) hr hG (by rfl) FX.g_cleared FX.k_cleared (ja_cons (je_var (pv 7)) (ja_cons (je_var (pv 6)) (ja_cons (je_var (pv 4)) ja_nil))))) (fun _ => rfl))
      (jss_cons (js_set (i := 2) nd8.nd rfl (by first | exact .inl rfl | exact .inr rfl) (je_bin .add (je_lc (own := [("place", 8), ("row", 7)]) rfl nd8.nd (ji_seq (je_var (pv 2))) (blkOk_by zok6) (by decide) (fun _ _ _ _ _ => (jg_tp (pg_tup rfl (jgs_cons (pg_name (i := 8) nd8.nd rfl (by first | exact .inl rfl | exact .inr rfl)) (jgs_cons (pg_name (i := 7) nd8.nd rfl (by first | exact .inl rfl | exact .inr rfl)) jgs_nil))))) (fun _ _ _ _ _ => jts_nil) (fun _ _ _ _ _ => (je_tup (ja_cons (je_var (pv 8)) (ja_cons (je_call 7 (L.ok 7 _ rfl) hr hG (by rfl) FX.g_cleared FX.k_cleared (ja_cons (je_var (pv 7)) (ja_cons (je_var (pv 6)) (ja_cons (je_var (pv 4)) ja_nil)))) ja_nil)))) (fun _ => rfl)) (je_lst (ja_cons (je_tup (ja_cons (je_var (pv 4)) (ja_cons (je_var (pv 6)) ja_nil))) ja_nil))))
      jss_nil))) jss_nil)
      jss_nil)))
      (jss_cons (js_ret (je_tup (ja_cons (je_var (pv 2)) (ja_cons (je_var (pv 3)) ja_nil))))
      jss_nil)))
theorem B9 (FX : Fx K mg a0 a1 a2 a3 a4 a5 a6 a7 a8 a9 a10 a11 a12 a13 a14 a15 a16 a17 a18 a19 a20 a21 a22 a23 a24) (L : Lev P w K mg base [a0, a1, a2, a3, a4, a5, a6, a7, a8, a9, a10, a11, a12, a13, a14, a15, a16, a17, a18, a19, a20, a21, a22, a23, a24] prog wf k) : BodyJ P w K mg base k a9 "reduced_in" N9 st9 (Ln.execs (Ln.callI prog wf k) wf b_reduced_in) := by
  intro cdv A outer s H E hG hr
  have hu : (A.deeper (envOfC "reduced_in" (defScope st9) s.heap.objs.size a9 cdv)).units + 65 < cLine := by have := hr.un; omega
  have hu1 : (A.deeper (envOfC "reduced_in" (defScope st9) s.heap.objs.size a9 cdv)).units + 64 < cLine := by omega
  obtain ⟨t_MAX_COLUMNS, h_MAX_COLUMNS⟩ := FX.c_MAX_COLUMNS
  exact (jss_cons (js_setT (je_call 8 (L.ok 8 _ rfl) hr hG (by rfl) FX.g_eliminated FX.k_eliminated (ja_cons (je_var (pv 0)) (ja_cons (je_bltB .len (fun _ _ => rfl) cb_len (by rfl) FX.z_len bt_len (ja_cons (je_idx hu (je_var (pv 0)) je_int (fun _ _ => rfl)) ja_nil)) ja_nil))) (jg_un rfl (jgs_cons (pg_name (i := 1) nd9.nd rfl (by first | exact .inl rfl | exact .inr rfl)) (jgs_cons (pg_name (i := 2) nd9.nd rfl (by first | exact .inl rfl | exact .inr rfl)) jgs_nil))))
      (jss_cons (js_ret (je_bltT .tuple (fun _ _ => rfl) cb_tuple (by rfl) FX.z_tuple bt_tuple (ja_cons (je_lc (own := [("column", 3), ("row", 4)]) rfl nd9.nd (ji_seq (je_var (pv 1))) (blkOk_by zok10) (by decide) (fun _ _ _ _ _ => (jg_tp (pg_tup rfl (jgs_cons (pg_name (i := 3) nd9.nd rfl (by first | exact .inl rfl | exact .inr rfl)) (jgs_cons (pg_name (i := 4) nd9.nd rfl (by first | exact .inl rfl | exact .inr rfl)) jgs_nil))))) (fun _ _ _ _ _ => jts_nil) (fun _ _ _ _ _ => (je_bltT .tuple (fun _ _ => rfl) cb_tuple (by rfl) FX.z_tuple bt_tuple (ja_cons (je_var (pv 4)) ja_nil))) (fun _ => rfl)) ja_nil)))
      jss_nil))
theorem B10 (FX : Fx K mg a0 a1 a2 a3 a4 a5 a6 a7 a8 a9 a10 a11 a12 a13 a14 a15 a16 a17 a18 a19 a20 a21 a22 a23 a24) (L : Lev P w K mg base [a0, a1, a2, a3, a4, a5, a6, a7, a8, a9, a10, a11, a12, a13, a14, a15, a16, a17, a18, a19, a20, a21, a22, a23, a24] prog wf k) : BodyJ P w K mg base k a10 "kernel_in" N10 st10 (Ln.execs (Ln.callI prog wf k) wf b_kernel_in) := by
  intro cdv A outer s H E hG hr
  have hu : (A.deeper (envOfC "kernel_in" (defScope st10) s.heap.objs.size a10 cdv)).units + 65 < cLine := by have := hr.un; omega
  have hu1 : (A.deeper (envOfC "kernel_in" (defScope st10) s.heap.objs.size a10 cdv)).units + 64 < cLine := by omega
  obtain ⟨t_MAX_COLUMNS, h_MAX_COLUMNS⟩ := FX.c_MAX_COLUMNS
  exact (jss_cons (js_setT (je_call 8 (L.ok 8 _ rfl) hr hG (by rfl) FX.g_eliminated FX.k_eliminated (ja_cons (je_var (pv 0)) (ja_cons (je_var (pv 1)) ja_nil))) (jg_un rfl (jgs_cons (pg_name (i := 2) nd10.nd rfl (by first | exact .inl rfl | exact .inr rfl)) (jgs_cons (pg_name (i := 3) nd10.nd rfl (by first | exact .inl rfl | exact .inr rfl)) jgs_nil))))
      (jss_cons (js_par3 (i := 4) (j := 5) (l := 6) rfl nd10.nd rfl rfl rfl (by decide) (by decide) (by decide) rfl rfl rfl (ja_cons (je_bltT .dict (fun _ _ => rfl) (cb_dict rfl) (by rfl) FX.z_dict bt_dict (ja_cons (je_var (pv 2)) ja_nil)) (ja_cons (je_lstM ja_nil) (ja_cons je_int ja_nil))) (by rfl))
      (jss_cons (js_for PassesOwn.never rfl (ji_seq (je_var (pv 2))) (jg_tp (pg_tup rfl (jgs_cons (pg_name (i := 7) nd10.nd rfl (by first | exact .inl rfl | exact .inr rfl)) (jgs_cons (pg_name (i := 8) nd10.nd rfl (by first | exact .inl rfl | exact .inr rfl)) jgs_nil))))
      (jss_cons (js_set (i := 6) nd10.nd rfl (by first | exact .inl rfl | exact .inr rfl) (je_bin .fdiv (je_bin .mul (je_var (pv 6)) (je_idx hu (je_var (pv 8)) (je_var (pv 7)) (fun _ _ => rfl))) (je_call 1 (L.ok 1 _ rfl) hr hG (by rfl) FX.g_common_in FX.k_common_in (ja_cons (je_var (pv 6)) (ja_cons (je_idx hu (je_var (pv 8)) (je_var (pv 7)) (fun _ _ => rfl)) ja_nil)))))
      jss_nil))
      (jss_cons (js_for PassesOwn.never rfl (ji_rng1 (by rfl) FX.z_range (je_var (pv 1))) (jg_nm (pg_name (i := 9) nd10.nd rfl (by first | exact .inl rfl | exact .inr rfl)))
      (jss_cons (js_if (jt_cmp .notIn hu (je_var (pv 9)) (je_var (pv 4)) (by rfl))
      (jss_cons (js_set (i := 10) nd10.nd rfl (by first | exact .inl rfl | exact .inr rfl) (je_repM (je_lst (ja_cons je_int ja_nil)) (je_var (pv 1))))
      (jss_cons (js_setI (je_var (pv 10)) (je_var (pv 9)) (je_var (pv 6)))
      (jss_cons (js_for PassesOwn.never rfl (ji_seq (je_var (pv 2))) (jg_tp (pg_tup rfl (jgs_cons (pg_name (i := 7) nd10.nd rfl (by first | exact .inl rfl | exact .inr rfl)) (jgs_cons (pg_name (i := 8) nd10.nd rfl (by first | exact .inl rfl | exact .inr rfl)) jgs_nil))))
      (jss_cons (js_setI (je_var (pv 10)) (je_var (pv 7)) (je_bin .sub je_int (je_bin .mul (je_idx hu (je_var (pv 8)) (je_var (pv 9)) (fun _ _ => rfl)) (je_bin .fdiv (je_var (pv 6)) (je_idx hu (je_var (pv 8)) (je_var (pv 7)) (fun _ _ => rfl))))))
      jss_nil))
      (jss_cons (js_expr (je_append (je_var (pv 5)) (ja_cons (je_fz (je_var (pv 10))) ja_nil)))
      jss_nil)))) jss_nil)
      jss_nil))
      (jss_cons (js_ret (je_ite (jt_cmp .ne hu (je_fz (je_var (pv 5))) (je_lst ja_nil) (nomark _)) (je_call 9 (L.ok 9 _ rfl) hr hG (by rfl) FX.g_reduced_in FX.k_reduced_in (ja_cons (je_fz (je_var (pv 5))) ja_nil)) (je_tup ja_nil)))
      jss_nil)))))
theorem B11 (FX : Fx K mg a0 a1 a2 a3 a4 a5 a6 a7 a8 a9 a10 a11 a12 a13 a14 a15 a16 a17 a18 a19 a20 a21 a22 a23 a24) (L : Lev P w K mg base [a0, a1, a2, a3, a4, a5, a6, a7, a8, a9, a10, a11, a12, a13, a14, a15, a16, a17, a18, a19, a20, a21, a22, a23, a24] prog wf k) : BodyJ P w K mg base k a11 "reduced" N11 st11 (Ln.execs (Ln.callI prog wf k) wf b_reduced) := by
  intro cdv A outer s H E hG hr
  have hu : (A.deeper (envOfC "reduced" (defScope st11) s.heap.objs.size a11 cdv)).units + 65 < cLine := by have := hr.un; omega
  have hu1 : (A.deeper (envOfC "reduced" (defScope st11) s.heap.objs.size a11 cdv)).units + 64 < cLine := by omega
  obtain ⟨t_MAX_COLUMNS, h_MAX_COLUMNS⟩ := FX.c_MAX_COLUMNS
  exact (jss_cons (js_expr (je_call 5 (L.ok 5 _ rfl) hr hG (by rfl) FX.g_require_rows FX.k_require_rows (ja_cons (je_var (pv 0)) ja_nil)))
      (jss_cons (js_ret (je_call 9 (L.ok 9 _ rfl) hr hG (by rfl) FX.g_reduced_in FX.k_reduced_in (ja_cons (je_var (pv 0)) ja_nil)))
      jss_nil))
theorem B12 (FX : Fx K mg a0 a1 a2 a3 a4 a5 a6 a7 a8 a9 a10 a11 a12 a13 a14 a15 a16 a17 a18 a19 a20 a21 a22 a23 a24) (L : Lev P w K mg base [a0, a1, a2, a3, a4, a5, a6, a7, a8, a9, a10, a11, a12, a13, a14, a15, a16, a17, a18, a19, a20, a21, a22, a23, a24] prog wf k) : BodyJ P w K mg base k a12 "kernel" N12 st12 (Ln.execs (Ln.callI prog wf k) wf b_kernel) := by
  intro cdv A outer s H E hG hr
  have hu : (A.deeper (envOfC "kernel" (defScope st12) s.heap.objs.size a12 cdv)).units + 65 < cLine := by have := hr.un; omega
  have hu1 : (A.deeper (envOfC "kernel" (defScope st12) s.heap.objs.size a12 cdv)).units + 64 < cLine := by omega
  obtain ⟨t_MAX_COLUMNS, h_MAX_COLUMNS⟩ := FX.c_MAX_COLUMNS
  exact (jss_cons (js_expr (je_call 5 (L.ok 5 _ rfl) hr hG (by rfl) FX.g_require_rows FX.k_require_rows (ja_cons (je_var (pv 0)) ja_nil)))
      (jss_cons (js_ret (je_call 10 (L.ok 10 _ rfl) hr hG (by rfl) FX.g_kernel_in FX.k_kernel_in (ja_cons (je_var (pv 0)) (ja_cons (je_bltB .len (fun _ _ => rfl) cb_len (by rfl) FX.z_len bt_len (ja_cons (je_idx hu (je_var (pv 0)) je_int (fun _ _ => rfl)) ja_nil)) ja_nil))))
      jss_nil))
theorem B13 (FX : Fx K mg a0 a1 a2 a3 a4 a5 a6 a7 a8 a9 a10 a11 a12 a13 a14 a15 a16 a17 a18 a19 a20 a21 a22 a23 a24) (L : Lev P w K mg base [a0, a1, a2, a3, a4, a5, a6, a7, a8, a9, a10, a11, a12, a13, a14, a15, a16, a17, a18, a19, a20, a21, a22, a23, a24] prog wf k) : BodyJ P w K mg base k a13 "_law_stream" N13 st13 (Ln.execs (Ln.callI prog wf k) wf b__law_stream) := by
  intro cdv A outer s H E hG hr
  have hu : (A.deeper (envOfC "_law_stream" (defScope st13) s.heap.objs.size a13 cdv)).units + 65 < cLine := by have := hr.un; omega
  have hu1 : (A.deeper (envOfC "_law_stream" (defScope st13) s.heap.objs.size a13 cdv)).units + 64 < cLine := by omega
  obtain ⟨t_MAX_COLUMNS, h_MAX_COLUMNS⟩ := FX.c_MAX_COLUMNS
  exact (jss_cons (js_set (i := 2) nd13.nd rfl (by first | exact .inl rfl | exact .inr rfl) (je_bin .add (je_bin .mul je_int (je_var (pv 1))) je_int))
      (jss_cons (js_if (jt_cmp .lt hu (je_var (pv 1)) (je_bltB .len (fun _ _ => rfl) cb_len (by rfl) FX.z_len bt_len (ja_cons (je_var (pv 0)) ja_nil)) (nomark _))
      (jss_cons (js_set (i := 2) nd13.nd rfl (by first | exact .inl rfl | exact .inr rfl) (je_idx hu (je_var (pv 0)) (je_var (pv 1)) (fun _ _ => rfl)))
      jss_nil) jss_nil)
      (jss_cons (js_set (i := 3) nd13.nd rfl (by first | exact .inl rfl | exact .inr rfl) (je_bin .mod (je_bltB .abs (fun _ _ => rfl) cb_abs (by rfl) FX.z_abs bt_abs (ja_cons (je_var (pv 2)) ja_nil)) (je_bin .pow (je_bin .pow je_int je_int) je_int)))
      (jss_cons (js_set (i := 4) nd13.nd rfl (by first | exact .inl rfl | exact .inr rfl) (je_bin .mod (je_bin .add (je_bin .add (je_bin .add (je_bin .mul (je_bin .mod (je_var (pv 3)) je_int) je_int) (je_bin .mul je_int (je_var (pv 1)))) (je_bin .mul je_int (je_bltT .int (fun _ _ => rfl) cb_int (by rfl) FX.z_int bt_int (ja_cons (je_cmp .lt hu (je_var (pv 2)) je_int (nomark _)) ja_nil)))) je_int) je_int))
      (jss_cons (js_ret (je_lstM (ja_cons (je_bltB .max (fun _ _ => rfl) (cb_max rfl) (by rfl) FX.z_max bt_max (ja_cons je_int (ja_cons (je_bin .add (je_bin .sub (je_var (pv 3)) (je_bin .pow je_int je_int)) je_int) ja_nil))) (ja_cons (je_var (pv 4)) (ja_cons je_int ja_nil)))))
      jss_nil)))))
theorem B14 (FX : Fx K mg a0 a1 a2 a3 a4 a5 a6 a7 a8 a9 a10 a11 a12 a13 a14 a15 a16 a17 a18 a19 a20 a21 a22 a23 a24) (L : Lev P w K mg base [a0, a1, a2, a3, a4, a5, a6, a7, a8, a9, a10, a11, a12, a13, a14, a15, a16, a17, a18, a19, a20, a21, a22, a23, a24] prog wf k) : BodyJ P w K mg base k a14 "_law_draw" N14 st14 (Ln.execs (Ln.callI prog wf k) wf b__law_draw) := by
  intro cdv A outer s H E hG hr
  have hu : (A.deeper (envOfC "_law_draw" (defScope st14) s.heap.objs.size a14 cdv)).units + 65 < cLine := by have := hr.un; omega
  have hu1 : (A.deeper (envOfC "_law_draw" (defScope st14) s.heap.objs.size a14 cdv)).units + 64 < cLine := by omega
  obtain ⟨t_MAX_COLUMNS, h_MAX_COLUMNS⟩ := FX.c_MAX_COLUMNS
  exact (jss_cons (js_if (jt_cmp .gt hu (je_idx hu (je_var (pv 0)) je_int (fun _ _ => rfl)) je_int (nomark _))
      (jss_cons (js_set (i := 2) nd14.nd rfl (by first | exact .inl rfl | exact .inr rfl) (je_bin .mod (je_idx hu (je_var (pv 0)) je_int (fun _ _ => rfl)) (je_var (pv 1))))
      (jss_cons (js_setI (je_var (pv 0)) je_int (je_bin .fdiv (je_idx hu (je_var (pv 0)) je_int (fun _ _ => rfl)) (je_var (pv 1))))
      (jss_cons (js_ret (je_var (pv 2)))
      jss_nil))) jss_nil)
      (jss_cons (js_setI (je_var (pv 0)) je_int (je_bin .add (je_idx hu (je_var (pv 0)) je_int (fun _ _ => rfl)) je_int))
      (jss_cons (js_set (i := 3) nd14.nd rfl (by first | exact .inl rfl | exact .inr rfl) (je_bin .mod (je_bin .add (je_idx hu (je_var (pv 0)) je_int (fun _ _ => rfl)) (je_bin .mul je_int (je_idx hu (je_var (pv 0)) je_int (fun _ _ => rfl)))) je_int))
      (jss_cons (js_set (i := 4) nd14.nd rfl (by first | exact .inl rfl | exact .inr rfl) (je_bin .mod (je_bin .add (je_bin .mul (je_bin .mod (je_bin .mul (je_var (pv 3)) (je_var (pv 3))) je_int) (je_var (pv 3))) (je_bin .mul je_int (je_idx hu (je_var (pv 0)) je_int (fun _ _ => rfl)))) je_int))
      (jss_cons (js_ret (je_bin .mod (je_bin .fdiv (je_var (pv 4)) je_int) (je_var (pv 1))))
      jss_nil)))))
theorem B15 (FX : Fx K mg a0 a1 a2 a3 a4 a5 a6 a7 a8 a9 a10 a11 a12 a13 a14 a15 a16 a17 a18 a19 a20 a21 a22 a23 a24) (L : Lev P w K mg base [a0, a1, a2, a3, a4, a5, a6, a7, a8, a9, a10, a11, a12, a13, a14, a15, a16, a17, a18, a19, a20, a21, a22, a23, a24] prog wf k) : BodyJ P w K mg base k a15 "_law_pick" N15 st15 (Ln.execs (Ln.callI prog wf k) wf b__law_pick) := by
  intro cdv A outer s H E hG hr
  have hu : (A.deeper (envOfC "_law_pick" (defScope st15) s.heap.objs.size a15 cdv)).units + 65 < cLine := by have := hr.un; omega
  have hu1 : (A.deeper (envOfC "_law_pick" (defScope st15) s.heap.objs.size a15 cdv)).units + 64 < cLine := by omega
  obtain ⟨t_MAX_COLUMNS, h_MAX_COLUMNS⟩ := FX.c_MAX_COLUMNS
  exact (jss_cons (js_ret (je_idx hu (je_var (pv 1)) (je_call 14 (L.ok 14 _ rfl) hr hG (by rfl) FX.g__law_draw FX.k__law_draw (ja_cons (je_var (pv 0)) (ja_cons (je_bltB .len (fun _ _ => rfl) cb_len (by rfl) FX.z_len bt_len (ja_cons (je_var (pv 1)) ja_nil)) ja_nil))) (fun _ _ => rfl)))
      jss_nil)
theorem B16 (FX : Fx K mg a0 a1 a2 a3 a4 a5 a6 a7 a8 a9 a10 a11 a12 a13 a14 a15 a16 a17 a18 a19 a20 a21 a22 a23 a24) (L : Lev P w K mg base [a0, a1, a2, a3, a4, a5, a6, a7, a8, a9, a10, a11, a12, a13, a14, a15, a16, a17, a18, a19, a20, a21, a22, a23, a24] prog wf k) : BodyJ P w K mg base k a16 "_law_dot" N16 st16 (Ln.execs (Ln.callI prog wf k) wf b__law_dot) := by
  intro cdv A outer s H E hG hr
  have hu : (A.deeper (envOfC "_law_dot" (defScope st16) s.heap.objs.size a16 cdv)).units + 65 < cLine := by have := hr.un; omega
  have hu1 : (A.deeper (envOfC "_law_dot" (defScope st16) s.heap.objs.size a16 cdv)).units + 64 < cLine := by omega
  obtain ⟨t_MAX_COLUMNS, h_MAX_COLUMNS⟩ := FX.c_MAX_COLUMNS
  exact (jss_cons (js_ret (je_bltB .sum (fun _ _ => rfl) (cb_sum rfl) (by rfl) FX.z_sum bt_sum (ja_cons (je_lc (own := [("left", 2), ("right", 3)]) rfl nd16.nd (ji_zip (by rfl) FX.z_zip (je_var (pv 0)) (je_var (pv 1))) (blkOk_by zok11) (by decide) (fun _ _ _ _ _ => (jg_tp (pg_tup rfl (jgs_cons (pg_name (i := 2) nd16.nd rfl (by first | exact .inl rfl | exact .inr rfl)) (jgs_cons (pg_name (i := 3) nd16.nd rfl (by first | exact .inl rfl | exact .inr rfl)) jgs_nil))))) (fun _ _ _ _ _ => jts_nil) (fun _ _ _ _ _ => (je_bin .mul (je_var (pv 2)) (je_var (pv 3)))) (fun _ => rfl)) ja_nil)))
      jss_nil)
theorem B17 (FX : Fx K mg a0 a1 a2 a3 a4 a5 a6 a7 a8 a9 a10 a11 a12 a13 a14 a15 a16 a17 a18 a19 a20 a21 a22 a23 a24) (L : Lev P w K mg base [a0, a1, a2, a3, a4, a5, a6, a7, a8, a9, a10, a11, a12, a13, a14, a15, a16, a17, a18, a19, a20, a21, a22, a23, a24] prog wf k) : BodyJ P w K mg base k a17 "_law_common" N17 st17 (Ln.execs (Ln.callI prog wf k) wf b__law_common) := by
  intro cdv A outer s H E hG hr
  have hu : (A.deeper (envOfC "_law_common" (defScope st17) s.heap.objs.size a17 cdv)).units + 65 < cLine := by have := hr.un; omega
  have hu1 : (A.deeper (envOfC "_law_common" (defScope st17) s.heap.objs.size a17 cdv)).units + 64 < cLine := by omega
  obtain ⟨t_MAX_COLUMNS, h_MAX_COLUMNS⟩ := FX.c_MAX_COLUMNS
  exact (jss_cons (js_while PassesOwn.never (jt_cmp .gt hu (je_var (pv 1)) je_int (nomark _))
      (jss_cons (js_par2 (i := 0) (j := 1) rfl nd17.nd rfl rfl (by decide) rfl rfl (ja_cons (je_var (pv 1)) (ja_cons (je_bin .mod (je_var (pv 0)) (je_var (pv 1))) ja_nil)) (by rfl))
      jss_nil))
      (jss_cons (js_ret (je_var (pv 0)))
      jss_nil))
theorem B18 (FX : Fx K mg a0 a1 a2 a3 a4 a5 a6 a7 a8 a9 a10 a11 a12 a13 a14 a15 a16 a17 a18 a19 a20 a21 a22 a23 a24) (L : Lev P w K mg base [a0, a1, a2, a3, a4, a5, a6, a7, a8, a9, a10, a11, a12, a13, a14, a15, a16, a17, a18, a19, a20, a21, a22, a23, a24] prog wf k) : BodyJ P w K mg base k a18 "_law_rows" N18 st18 (Ln.execs (Ln.callI prog wf k) wf b__law_rows) := by
  intro cdv A outer s H E hG hr
  have hu : (A.deeper (envOfC "_law_rows" (defScope st18) s.heap.objs.size a18 cdv)).units + 65 < cLine := by have := hr.un; omega
  have hu1 : (A.deeper (envOfC "_law_rows" (defScope st18) s.heap.objs.size a18 cdv)).units + 64 < cLine := by omega
  obtain ⟨t_MAX_COLUMNS, h_MAX_COLUMNS⟩ := FX.c_MAX_COLUMNS
  exact (jss_cons (js_set (i := 3) nd18.nd rfl (by first | exact .inl rfl | exact .inr rfl) (je_lstM ja_nil))
      (jss_cons (js_for PassesOwn.never rfl (ji_rng1 (by rfl) FX.z_range (je_var (pv 1))) (jg_nm (pg_name (i := 4) nd18.nd rfl (by first | exact .inl rfl | exact .inr rfl)))
      (jss_cons (js_set (i := 5) nd18.nd rfl (by first | exact .inl rfl | exact .inr rfl) (je_call 14 (L.ok 14 _ rfl) hr hG (by rfl) FX.g__law_draw FX.k__law_draw (ja_cons (je_var (pv 0)) (ja_cons je_int ja_nil))))
      (jss_cons (js_set (i := 6) nd18.nd rfl (by first | exact .inl rfl | exact .inr rfl) (je_bltT .tuple (fun _ _ => rfl) cb_tuple (by rfl) FX.z_tuple bt_tuple (ja_cons (je_lc (own := [("at", 8)]) rfl nd18.nd (ji_rng1 (by rfl) FX.z_range (je_var (pv 2))) (blkOk_by zok15) (by decide) (fun _ _ _ _ _ => (jg_nm (pg_name (i := 8) nd18.nd rfl (by first | exact .inl rfl | exact .inr rfl)))) (fun _ _ _ _ _ => jts_nil) (fun _ _ _ _ _ => (je_idx hu (je_lst (ja_cons je_int (ja_cons je_int (ja_cons je_int (ja_cons (je_neg je_int) (ja_cons je_int (ja_cons (je_neg je_int) (ja_cons je_int (ja_cons (je_bin .sub (je_call 14 (L.ok 14 _ rfl) hr hG (by rfl) FX.g__law_draw FX.k__law_draw (ja_cons (je_var (pv 0)) (ja_cons je_int ja_nil))) je_int) ja_nil))))))))) (je_call 14 (L.ok 14 _ rfl) hr hG (by rfl) FX.g__law_draw FX.k__law_draw (ja_cons (je_var (pv 0)) (ja_cons je_int ja_nil))) (fun _ _ => rfl))) (fun _ => rfl)) ja_nil)))
      (jss_cons (js_if (jt_w (jw_and (jt_cmp .eq hu (je_var (pv 5)) je_int (nomark _)) (jw_and1 (jt_cmp .ne hu (je_var (pv 3)) (je_lst ja_nil) (nomark _)))))
      (jss_cons (js_set (i := 7) nd18.nd rfl (by first | exact .inl rfl | exact .inr rfl) (je_idx hu (je_lst (ja_cons je_int (ja_cons (je_neg je_int) (ja_cons je_int (ja_cons (je_neg je_int) ja_nil))))) (je_call 14 (L.ok 14 _ rfl) hr hG (by rfl) FX.g__law_draw FX.k__law_draw (ja_cons (je_var (pv 0)) (ja_cons je_int ja_nil))) (fun _ _ => rfl)))
      (jss_cons (js_set (i := 6) nd18.nd rfl (by first | exact .inl rfl | exact .inr rfl) (je_bltT .tuple (fun _ _ => rfl) cb_tuple (by rfl) FX.z_tuple bt_tuple (ja_cons (je_lc (own := [("number", 9)]) rfl nd18.nd (ji_seq (je_call 15 (L.ok 15 _ rfl) hr hG (by rfl) FX.g__law_pick FX.k__law_pick (ja_cons (je_var (pv 0)) (ja_cons (je_var (pv 3)) ja_nil)))) (blkOk_by zok14) (by decide) (fun _ _ _ _ _ => (jg_nm (pg_name (i := 9) nd18.nd rfl (by first | exact .inl rfl | exact .inr rfl)))) (fun _ _ _ _ _ => jts_nil) (fun _ _ _ _ _ => (je_bin .mul (je_var (pv 7)) (je_var (pv 9)))) (fun _ => rfl)) ja_nil)))
      jss_nil)) jss_nil)
      (jss_cons (js_if (jt_w (jw_and (jt_cmp .eq hu (je_var (pv 5)) je_int (nomark _)) (jw_and1 (jt_cmp .ne hu (je_var (pv 3)) (je_lst ja_nil) (nomark _)))))
      (jss_cons (js_set (i := 6) nd18.nd rfl (by first | exact .inl rfl | exact .inr rfl) (je_bltT .tuple (fun _ _ => rfl) cb_tuple (by rfl) FX.z_tuple bt_tuple (ja_cons (je_lc (own := [("one", 10), ("other", 11)]) rfl nd18.nd (ji_zip (by rfl) FX.z_zip (je_call 15 (L.ok 15 _ rfl) hr hG (by rfl) FX.g__law_pick FX.k__law_pick (ja_cons (je_var (pv 0)) (ja_cons (je_var (pv 3)) ja_nil))) (je_call 15 (L.ok 15 _ rfl) hr hG (by rfl) FX.g__law_pick FX.k__law_pick (ja_cons (je_var (pv 0)) (ja_cons (je_var (pv 3)) ja_nil)))) (blkOk_by zok13) (by decide) (fun _ _ _ _ _ => (jg_tp (pg_tup rfl (jgs_cons (pg_name (i := 10) nd18.nd rfl (by first | exact .inl rfl | exact .inr rfl)) (jgs_cons (pg_name (i := 11) nd18.nd rfl (by first | exact .inl rfl | exact .inr rfl)) jgs_nil))))) (fun _ _ _ _ _ => jts_nil) (fun _ _ _ _ _ => (je_bin .add (je_var (pv 10)) (je_var (pv 11)))) (fun _ => rfl)) ja_nil)))
      jss_nil) jss_nil)
      (jss_cons (js_if (jt_cmp .eq hu (je_var (pv 5)) je_int (nomark _))
      (jss_cons (js_set (i := 6) nd18.nd rfl (by first | exact .inl rfl | exact .inr rfl) (je_bltT .tuple (fun _ _ => rfl) cb_tuple (by rfl) FX.z_tuple bt_tuple (ja_cons (je_lc (own := [("number", 9)]) rfl nd18.nd (ji_seq (je_var (pv 6))) (blkOk_by zok12) (by decide) (fun _ _ _ _ _ => (jg_nm (pg_name (i := 9) nd18.nd rfl (by first | exact .inl rfl | exact .inr rfl)))) (fun _ _ _ _ _ => jts_nil) (fun _ _ _ _ _ => (je_bin .mul (je_var (pv 9)) (je_idx hu (je_lst (ja_cons je_int (ja_cons (je_bin .pow je_int je_int) ja_nil))) (je_call 14 (L.ok 14 _ rfl) hr hG (by rfl) FX.g__law_draw FX.k__law_draw (ja_cons (je_var (pv 0)) (ja_cons je_int ja_nil))) (fun _ _ => rfl)))) (fun _ => rfl)) ja_nil)))
      jss_nil) jss_nil)
      (jss_cons (js_expr (je_append (je_var (pv 3)) (ja_cons (je_var (pv 6)) ja_nil)))
      jss_nil)))))))
      (jss_cons (js_ret (je_bltT .tuple (fun _ _ => rfl) cb_tuple (by rfl) FX.z_tuple bt_tuple (ja_cons (je_var (pv 3)) ja_nil)))
      jss_nil)))
theorem B19 (FX : Fx K mg a0 a1 a2 a3 a4 a5 a6 a7 a8 a9 a10 a11 a12 a13 a14 a15 a16 a17 a18 a19 a20 a21 a22 a23 a24) (L : Lev P w K mg base [a0, a1, a2, a3, a4, a5, a6, a7, a8, a9, a10, a11, a12, a13, a14, a15, a16, a17, a18, a19, a20, a21, a22, a23, a24] prog wf k) : BodyJ P w K mg base k a19 "_law_less" N19 st19 (Ln.execs (Ln.callI prog wf k) wf b__law_less) := by
  intro cdv A outer s H E hG hr
  have hu : (A.deeper (envOfC "_law_less" (defScope st19) s.heap.objs.size a19 cdv)).units + 65 < cLine := by have := hr.un; omega
  have hu1 : (A.deeper (envOfC "_law_less" (defScope st19) s.heap.objs.size a19 cdv)).units + 64 < cLine := by omega
  obtain ⟨t_MAX_COLUMNS, h_MAX_COLUMNS⟩ := FX.c_MAX_COLUMNS
  exact (jss_cons (js_ret (je_bltT .tuple (fun _ _ => rfl) cb_tuple (by rfl) FX.z_tuple bt_tuple (ja_cons (je_lc (own := [("one", 3), ("two", 4)]) rfl nd19.nd (ji_zip (by rfl) FX.z_zip (je_var (pv 0)) (je_var (pv 1))) (blkOk_by zok16) (by decide) (fun _ _ _ _ _ => (jg_tp (pg_tup rfl (jgs_cons (pg_name (i := 3) nd19.nd rfl (by first | exact .inl rfl | exact .inr rfl)) (jgs_cons (pg_name (i := 4) nd19.nd rfl (by first | exact .inl rfl | exact .inr rfl)) jgs_nil))))) (fun _ _ _ _ _ => jts_nil) (fun _ _ _ _ _ => (je_bin .sub (je_bin .mul (je_idx hu (je_var (pv 1)) (je_var (pv 2)) (fun _ _ => rfl)) (je_var (pv 3))) (je_bin .mul (je_idx hu (je_var (pv 0)) (je_var (pv 2)) (fun _ _ => rfl)) (je_var (pv 4))))) (fun _ => rfl)) ja_nil)))
      jss_nil)
theorem B20 (FX : Fx K mg a0 a1 a2 a3 a4 a5 a6 a7 a8 a9 a10 a11 a12 a13 a14 a15 a16 a17 a18 a19 a20 a21 a22 a23 a24) (L : Lev P w K mg base [a0, a1, a2, a3, a4, a5, a6, a7, a8, a9, a10, a11, a12, a13, a14, a15, a16, a17, a18, a19, a20, a21, a22, a23, a24] prog wf k) : BodyJ P w K mg base k a20 "_law_rank" N20 st20 (Ln.execs (Ln.callI prog wf k) wf b__law_rank) := by
  intro cdv A outer s H E hG hr
  have hu : (A.deeper (envOfC "_law_rank" (defScope st20) s.heap.objs.size a20 cdv)).units + 65 < cLine := by have := hr.un; omega
  have hu1 : (A.deeper (envOfC "_law_rank" (defScope st20) s.heap.objs.size a20 cdv)).units + 64 < cLine := by omega
  obtain ⟨t_MAX_COLUMNS, h_MAX_COLUMNS⟩ := FX.c_MAX_COLUMNS
  exact (jss_cons (js_par2 (i := 1) (j := 2) rfl nd20.nd rfl rfl (by decide) rfl rfl (ja_cons (je_bltT .list (fun _ _ => rfl) cb_list (by rfl) FX.z_list bt_list (ja_cons (je_var (pv 0)) ja_nil)) (ja_cons je_int ja_nil)) (by rfl))
      (jss_cons (js_for PassesOwn.never rfl (ji_rng1 (by rfl) FX.z_range (je_bltB .len (fun _ _ => rfl) cb_len (by rfl) FX.z_len bt_len (ja_cons (je_idx hu (je_var (pv 0)) je_int (fun _ _ => rfl)) ja_nil))) (jg_nm (pg_name (i := 3) nd20.nd rfl (by first | exact .inl rfl | exact .inr rfl)))
      (jss_cons (js_set (i := 4) nd20.nd rfl (by first | exact .inl rfl | exact .inr rfl) (je_lc (own := [("row", 5)]) rfl nd20.nd (ji_seq (je_var (pv 1))) (blkOk_by zok18) (by decide) (fun _ _ _ _ _ => (jg_nm (pg_name (i := 5) nd20.nd rfl (by first | exact .inl rfl | exact .inr rfl)))) (fun _ _ _ _ _ => (jts_one (jt_cmp .ne hu (je_idx hu (je_var (pv 5)) (je_var (pv 3)) (fun _ _ => rfl)) je_int (nomark _)))) (fun _ _ _ _ _ => (je_var (pv 5))) (fun _ => rfl)))
      (jss_cons (js_if (jt_cmp .ne hu (je_var (pv 4)) (je_lst ja_nil) (nomark _))
      (jss_cons (js_set (i := 2) nd20.nd rfl (by first | exact .inl rfl | exact .inr rfl) (je_bin .add (je_var (pv 2)) je_int))
      (jss_cons (js_setLc (i := 1) rfl (own := [("row", 5)]) rfl nd20.nd (ji_seq (je_var (pv 1))) (blkOk_by zok17) (by decide) (fun _ _ _ _ _ => (jg_nm (pg_name (i := 5) nd20.nd rfl (by first | exact .inl rfl | exact .inr rfl)))) (fun _ _ _ _ _ => jts_nil) (fun _ _ _ _ _ => (je_call 19 (L.ok 19 _ rfl) hr hG (by rfl) FX.g__law_less FX.k__law_less (ja_cons (je_var (pv 5)) (ja_cons (je_idx hu (je_var (pv 4)) je_int (fun _ _ => rfl)) (ja_cons (je_var (pv 3)) ja_nil))))) (fun _ => rfl))
      jss_nil)) jss_nil)
      jss_nil)))
      (jss_cons (js_ret (je_var (pv 2)))
      jss_nil)))
theorem B21 (FX : Fx K mg a0 a1 a2 a3 a4 a5 a6 a7 a8 a9 a10 a11 a12 a13 a14 a15 a16 a17 a18 a19 a20 a21 a22 a23 a24) (L : Lev P w K mg base [a0, a1, a2, a3, a4, a5, a6, a7, a8, a9, a10, a11, a12, a13, a14, a15, a16, a17, a18, a19, a20, a21, a22, a23, a24] prog wf k) : BodyJ P w K mg base k a21 "_law_pivot" N21 st21 (Ln.execs (Ln.callI prog wf k) wf b__law_pivot) := by
  intro cdv A outer s H E hG hr
  have hu : (A.deeper (envOfC "_law_pivot" (defScope st21) s.heap.objs.size a21 cdv)).units + 65 < cLine := by have := hr.un; omega
  have hu1 : (A.deeper (envOfC "_law_pivot" (defScope st21) s.heap.objs.size a21 cdv)).units + 64 < cLine := by omega
  obtain ⟨t_MAX_COLUMNS, h_MAX_COLUMNS⟩ := FX.c_MAX_COLUMNS
  exact (jss_cons (js_setLc (i := 1) rfl (own := [("column", 2), ("number", 3)]) rfl nd21.nd (ji_enumT (by rfl) FX.z_enumerate (je_var (pv 0))) (blkOk_by zok19) (by decide) (fun _ _ _ _ _ => (jg_tp (pg_tup rfl (jgs_cons (pg_name (i := 2) nd21.nd rfl (by first | exact .inl rfl | exact .inr rfl)) (jgs_cons (pg_name (i := 3) nd21.nd rfl (by first | exact .inl rfl | exact .inr rfl)) jgs_nil))))) (fun _ _ _ _ _ => (jts_one (jt_cmp .ne hu (je_var (pv 3)) je_int (nomark _)))) (fun _ _ _ _ _ => (je_var (pv 2))) (fun _ => rfl))
      (jss_cons (js_ret (je_ite (jt_cmp .ne hu (je_var (pv 1)) (je_lst ja_nil) (nomark _)) (je_idx hu (je_var (pv 1)) je_int (fun _ _ => rfl)) je_non))
      jss_nil))
theorem B22 (FX : Fx K mg a0 a1 a2 a3 a4 a5 a6 a7 a8 a9 a10 a11 a12 a13 a14 a15 a16 a17 a18 a19 a20 a21 a22 a23 a24) (L : Lev P w K mg base [a0, a1, a2, a3, a4, a5, a6, a7, a8, a9, a10, a11, a12, a13, a14, a15, a16, a17, a18, a19, a20, a21, a22, a23, a24] prog wf k) : BodyJ P w K mg base k a22 "_law_is_reduced" N22 st22 (Ln.execs (Ln.callI prog wf k) wf b__law_is_reduced) := by
  intro cdv A outer s H E hG hr
  have hu : (A.deeper (envOfC "_law_is_reduced" (defScope st22) s.heap.objs.size a22 cdv)).units + 65 < cLine := by have := hr.un; omega
  have hu1 : (A.deeper (envOfC "_law_is_reduced" (defScope st22) s.heap.objs.size a22 cdv)).units + 64 < cLine := by omega
  obtain ⟨t_MAX_COLUMNS, h_MAX_COLUMNS⟩ := FX.c_MAX_COLUMNS
  exact (jss_cons (js_setLc (i := 2) rfl (own := [("row", 1)]) rfl nd22.nd (ji_seq (je_var (pv 0))) (blkOk_by zok22) (by decide) (fun _ _ _ _ _ => (jg_nm (pg_name (i := 1) nd22.nd rfl (by first | exact .inl rfl | exact .inr rfl)))) (fun _ _ _ _ _ => jts_nil) (fun _ _ _ _ _ => (je_call 21 (L.ok 21 _ rfl) hr hG (by rfl) FX.g__law_pivot FX.k__law_pivot (ja_cons (je_var (pv 1)) ja_nil))) (fun _ => rfl))
      (jss_cons (js_if (jt_w (jw_or (jt_cmp .isIn hu je_non (je_var (pv 2)) (by rfl)) (jw_or1 (jt_cmp .ne hu (je_lc (own := [("one", 6), ("other", 7)]) rfl nd22.nd (ji_zip (by rfl) FX.z_zip (je_var (pv 2)) (je_slc (je_var (pv 2)) (jo_so je_int) jo_no)) (blkOk_by zok21) (by decide) (fun _ _ _ _ _ => (jg_tp (pg_tup rfl (jgs_cons (pg_name (i := 6) nd22.nd rfl (by first | exact .inl rfl | exact .inr rfl)) (jgs_cons (pg_name (i := 7) nd22.nd rfl (by first | exact .inl rfl | exact .inr rfl)) jgs_nil))))) (fun _ _ _ _ _ => (jts_one (jt_cmp .ge hu (je_var (pv 6)) (je_var (pv 7)) (nomark _)))) (fun _ _ _ _ _ => je_int) (fun _ => rfl)) (je_lst ja_nil) (nomark _)))))
      (jss_cons (js_ret je_bl)
      jss_nil) jss_nil)
      (jss_cons (js_for PassesOwn.never rfl (ji_zip (by rfl) FX.z_zip (je_var (pv 0)) (je_var (pv 2))) (jg_tp (pg_tup rfl (jgs_cons (pg_name (i := 1) nd22.nd rfl (by first | exact .inl rfl | exact .inr rfl)) (jgs_cons (pg_name (i := 3) nd22.nd rfl (by first | exact .inl rfl | exact .inr rfl)) jgs_nil))))
      (jss_cons (js_set (i := 4) nd22.nd rfl (by first | exact .inl rfl | exact .inr rfl) je_int)
      (jss_cons (js_for PassesOwn.never rfl (ji_seq (je_var (pv 1))) (jg_nm (pg_name (i := 5) nd22.nd rfl (by first | exact .inl rfl | exact .inr rfl)))
      (jss_cons (js_set (i := 4) nd22.nd rfl (by first | exact .inl rfl | exact .inr rfl) (je_call 17 (L.ok 17 _ rfl) hr hG (by rfl) FX.g__law_common FX.k__law_common (ja_cons (je_var (pv 4)) (ja_cons (je_bltB .abs (fun _ _ => rfl) cb_abs (by rfl) FX.z_abs bt_abs (ja_cons (je_var (pv 5)) ja_nil)) ja_nil))))
      jss_nil))
      (jss_cons (js_if (jt_w (jw_or (jt_cmp .le hu (je_idx hu (je_var (pv 1)) (je_var (pv 3)) (fun _ _ => rfl)) je_int (nomark _)) (jw_or1 (jt_cmp .ne hu (je_var (pv 4)) je_int (nomark _)))))
      (jss_cons (js_ret je_bl)
      jss_nil) jss_nil)
      (jss_cons (js_if (jt_cmp .ne hu (je_bltB .len (fun _ _ => rfl) cb_len (by rfl) FX.z_len bt_len (ja_cons (je_lc (own := [("other", 7)]) rfl nd22.nd (ji_seq (je_var (pv 0))) (blkOk_by zok20) (by decide) (fun _ _ _ _ _ => (jg_nm (pg_name (i := 7) nd22.nd rfl (by first | exact .inl rfl | exact .inr rfl)))) (fun _ _ _ _ _ => (jts_one (jt_cmp .ne hu (je_idx hu (je_var (pv 7)) (je_var (pv 3)) (fun _ _ => rfl)) je_int (nomark _)))) (fun _ _ _ _ _ => je_int) (fun _ => rfl)) ja_nil)) je_int (nomark _))
      (jss_cons (js_ret je_bl)
      jss_nil) jss_nil)
      jss_nil)))))
      (jss_cons (js_ret je_bl)
      jss_nil))))
theorem B23 (FX : Fx K mg a0 a1 a2 a3 a4 a5 a6 a7 a8 a9 a10 a11 a12 a13 a14 a15 a16 a17 a18 a19 a20 a21 a22 a23 a24) (L : Lev P w K mg base [a0, a1, a2, a3, a4, a5, a6, a7, a8, a9, a10, a11, a12, a13, a14, a15, a16, a17, a18, a19, a20, a21, a22, a23, a24] prog wf k) : BodyJ P w K mg base k a23 "_law_right" N23 st23 (Ln.execs (Ln.callI prog wf k) wf b__law_right) := by
  intro cdv A outer s H E hG hr
  have hu : (A.deeper (envOfC "_law_right" (defScope st23) s.heap.objs.size a23 cdv)).units + 65 < cLine := by have := hr.un; omega
  have hu1 : (A.deeper (envOfC "_law_right" (defScope st23) s.heap.objs.size a23 cdv)).units + 64 < cLine := by omega
  obtain ⟨t_MAX_COLUMNS, h_MAX_COLUMNS⟩ := FX.c_MAX_COLUMNS
  exact (jss_cons (js_setT (je_tup (ja_cons (je_bltB .repr (fun _ _ => rfl) (cb_repr hG hu1) (by rfl) FX.z_repr bt_repr (ja_cons (je_var (pv 0)) ja_nil)) (ja_cons (je_call 12 (L.ok 12 _ rfl) hr hG (by rfl) FX.g_kernel FX.k_kernel (ja_cons (je_var (pv 0)) ja_nil)) (ja_cons (je_bltB .len (fun _ _ => rfl) cb_len (by rfl) FX.z_len bt_len (ja_cons (je_idx hu (je_var (pv 0)) je_int (fun _ _ => rfl)) ja_nil)) ja_nil)))) (jg_un rfl (jgs_cons (pg_name (i := 1) nd23.nd rfl (by first | exact .inl rfl | exact .inr rfl)) (jgs_cons (pg_name (i := 2) nd23.nd rfl (by first | exact .inl rfl | exact .inr rfl)) (jgs_cons (pg_name (i := 3) nd23.nd rfl (by first | exact .inl rfl | exact .inr rfl)) jgs_nil)))))
      (jss_cons (js_if (jt_w (jw_or (jt_not (jt_truth (je_isi .tuple (by rfl) FX.z_isinstance bt_tuple (by rfl) FX.z_tuple (je_var (pv 2))) fun _ => rfl)) (jw_or1 (jt_cmp .ne hu (je_lc (own := [("row", 4)]) rfl nd23.nd (ji_seq (je_var (pv 2))) (blkOk_by zok25) (by decide) (fun _ _ _ _ _ => (jg_nm (pg_name (i := 4) nd23.nd rfl (by first | exact .inl rfl | exact .inr rfl)))) (fun _ _ _ _ _ => (jts_one (jt_not (jt_truth (je_isi .tuple (by rfl) FX.z_isinstance bt_tuple (by rfl) FX.z_tuple (je_var (pv 4))) fun _ => rfl)))) (fun _ _ _ _ _ => je_int) (fun _ => rfl)) (je_lst ja_nil) (nomark _)))))
      (jss_cons (js_ret je_bl)
      jss_nil) jss_nil)
      (jss_cons (js_if (jt_cmp .ne hu (je_lc (own := [("row", 4)]) rfl nd23.nd (ji_seq (je_var (pv 2))) (blkOk_by zok24) (by decide) (fun _ _ _ _ _ => (jg_nm (pg_name (i := 4) nd23.nd rfl (by first | exact .inl rfl | exact .inr rfl)))) (fun _ _ _ _ _ => (jts_one (jt_cmp .ne hu (je_bltB .len (fun _ _ => rfl) cb_len (by rfl) FX.z_len bt_len (ja_cons (je_var (pv 4)) ja_nil)) (je_var (pv 3)) (nomark _)))) (fun _ _ _ _ _ => je_int) (fun _ => rfl)) (je_lst ja_nil) (nomark _))
      (jss_cons (js_ret je_bl)
      jss_nil) jss_nil)
      (jss_cons (js_if (jt_w (jw_or (jt_not (jt_truth (je_call 22 (L.ok 22 _ rfl) hr hG (by rfl) FX.g__law_is_reduced FX.k__law_is_reduced (ja_cons (je_var (pv 2)) ja_nil)) fun _ => rfl)) (jw_or1 (jt_cmp .ne hu (je_bltB .len (fun _ _ => rfl) cb_len (by rfl) FX.z_len bt_len (ja_cons (je_var (pv 2)) ja_nil)) (je_bin .sub (je_var (pv 3)) (je_call 20 (L.ok 20 _ rfl) hr hG (by rfl) FX.g__law_rank FX.k__law_rank (ja_cons (je_var (pv 0)) ja_nil))) (nomark _)))))
      (jss_cons (js_ret je_bl)
      jss_nil) jss_nil)
      (jss_cons (js_for PassesOwn.never rfl (ji_seq (je_var (pv 0))) (jg_nm (pg_name (i := 4) nd23.nd rfl (by first | exact .inl rfl | exact .inr rfl)))
      (jss_cons (js_if (jt_cmp .ne hu (je_lc (own := [("other", 6)]) rfl nd23.nd (ji_seq (je_var (pv 2))) (blkOk_by zok23) (by decide) (fun _ _ _ _ _ => (jg_nm (pg_name (i := 6) nd23.nd rfl (by first | exact .inl rfl | exact .inr rfl)))) (fun _ _ _ _ _ => (jts_one (jt_cmp .ne hu (je_call 16 (L.ok 16 _ rfl) hr hG (by rfl) FX.g__law_dot FX.k__law_dot (ja_cons (je_var (pv 4)) (ja_cons (je_var (pv 6)) ja_nil))) je_int (nomark _)))) (fun _ _ _ _ _ => je_int) (fun _ => rfl)) (je_lst ja_nil) (nomark _))
      (jss_cons (js_ret je_bl)
      jss_nil) jss_nil)
      jss_nil))
      (jss_cons (js_set (i := 5) nd23.nd rfl (by first | exact .inl rfl | exact .inr rfl) (je_ite (jt_cmp .ne hu (je_var (pv 2)) (je_tup ja_nil) (nomark _)) (je_call 12 (L.ok 12 _ rfl) hr hG (by rfl) FX.g_kernel FX.k_kernel (ja_cons (je_var (pv 2)) ja_nil)) (je_call 11 (L.ok 11 _ rfl) hr hG (by rfl) FX.g_reduced FX.k_reduced (ja_cons (je_var (pv 0)) ja_nil))))
      (jss_cons (js_if (jt_w (jw_or (jt_cmp .ne hu (je_bltB .repr (fun _ _ => rfl) (cb_repr hG hu1) (by rfl) FX.z_repr bt_repr (ja_cons (je_var (pv 5)) ja_nil)) (je_bltB .repr (fun _ _ => rfl) (cb_repr hG hu1) (by rfl) FX.z_repr bt_repr (ja_cons (je_call 11 (L.ok 11 _ rfl) hr hG (by rfl) FX.g_reduced FX.k_reduced (ja_cons (je_var (pv 0)) ja_nil)) ja_nil)) (nomark _)) (jw_or1 (jt_cmp .ne hu (je_bltB .repr (fun _ _ => rfl) (cb_repr hG hu1) (by rfl) FX.z_repr bt_repr (ja_cons (je_call 12 (L.ok 12 _ rfl) hr hG (by rfl) FX.g_kernel FX.k_kernel (ja_cons (je_rev (je_var (pv 0))) ja_nil)) ja_nil)) (je_bltB .repr (fun _ _ => rfl) (cb_repr hG hu1) (by rfl) FX.z_repr bt_repr (ja_cons (je_var (pv 2)) ja_nil)) (nomark _)))))
      (jss_cons (js_ret je_bl)
      jss_nil) jss_nil)
      (jss_cons (js_ret (je_cmp .eq hu (je_bltB .repr (fun _ _ => rfl) (cb_repr hG hu1) (by rfl) FX.z_repr bt_repr (ja_cons (je_var (pv 0)) ja_nil)) (je_var (pv 1)) (nomark _)))
      jss_nil))))))))
theorem B24 (FX : Fx K mg a0 a1 a2 a3 a4 a5 a6 a7 a8 a9 a10 a11 a12 a13 a14 a15 a16 a17 a18 a19 a20 a21 a22 a23 a24) (L : Lev P w K mg base [a0, a1, a2, a3, a4, a5, a6, a7, a8, a9, a10, a11, a12, a13, a14, a15, a16, a17, a18, a19, a20, a21, a22, a23, a24] prog wf k) : BodyJ P w K mg base k a24 "law" N24 st24 (Ln.execs (Ln.callI prog wf k) wf b_law) := by
  intro cdv A outer s H E hG hr
  have hu : (A.deeper (envOfC "law" (defScope st24) s.heap.objs.size a24 cdv)).units + 65 < cLine := by have := hr.un; omega
  have hu1 : (A.deeper (envOfC "law" (defScope st24) s.heap.objs.size a24 cdv)).units + 64 < cLine := by omega
  obtain ⟨t_MAX_COLUMNS, h_MAX_COLUMNS⟩ := FX.c_MAX_COLUMNS
  exact (jss_cons (js_for PassesOwn.never rfl (ji_rng1 (by rfl) FX.z_range (je_bltB .max (fun _ _ => rfl) (cb_max rfl) (by rfl) FX.z_max bt_max (ja_cons je_int (ja_cons (je_bltB .min (fun _ _ => rfl) (cb_min rfl) (by rfl) FX.z_min bt_min (ja_cons je_int (ja_cons (je_bltB .len (fun _ _ => rfl) cb_len (by rfl) FX.z_len bt_len (ja_cons (je_var (pv 0)) ja_nil)) ja_nil))) ja_nil)))) (jg_nm (pg_name (i := 1) nd24.nd rfl (by first | exact .inl rfl | exact .inr rfl)))
      (jss_cons (js_set (i := 2) nd24.nd rfl (by first | exact .inl rfl | exact .inr rfl) (je_call 13 (L.ok 13 _ rfl) hr hG (by rfl) FX.g__law_stream FX.k__law_stream (ja_cons (je_var (pv 0)) (ja_cons (je_var (pv 1)) ja_nil))))
      (jss_cons (js_for PassesOwn.never rfl (ji_rng1 (by rfl) FX.z_range je_int) (jg_nm (pg_name (i := 3) nd24.nd rfl (by first | exact .inl rfl | exact .inr rfl)))
      (jss_cons (js_if (jt_not (jt_truth (je_call 23 (L.ok 23 _ rfl) hr hG (by rfl) FX.g__law_right FX.k__law_right (ja_cons (je_call 18 (L.ok 18 _ rfl) hr hG (by rfl) FX.g__law_rows FX.k__law_rows (ja_cons (je_var (pv 2)) (ja_cons (je_bin .add je_int (je_call 14 (L.ok 14 _ rfl) hr hG (by rfl) FX.g__law_draw FX.k__law_draw (ja_cons (je_var (pv 2)) (ja_cons je_int ja_nil)))) (ja_cons (je_bin .add je_int (je_call 14 (L.ok 14 _ rfl) hr hG (by rfl) FX.g__law_draw FX.k__law_draw (ja_cons (je_var (pv 2)) (ja_cons je_int ja_nil)))) ja_nil)))) ja_nil)) fun _ => rfl))
      (jss_cons (js_ret je_bl)
      jss_nil) jss_nil)
      jss_nil))
      jss_nil)))
      (jss_cons (js_if (jt_cmp .ne hu (je_lst (ja_cons (je_call 12 (L.ok 12 _ rfl) hr hG (by rfl) FX.g_kernel FX.k_kernel (ja_cons (je_tup (ja_cons (je_tup (ja_cons je_int (ja_cons je_int (ja_cons je_int ja_nil)))) (ja_cons (je_tup (ja_cons je_int (ja_cons je_int (ja_cons je_int ja_nil)))) ja_nil))) ja_nil)) (ja_cons (je_call 12 (L.ok 12 _ rfl) hr hG (by rfl) FX.g_kernel FX.k_kernel (ja_cons (je_tup (ja_cons (je_tup (ja_cons je_int (ja_cons je_int ja_nil))) ja_nil)) ja_nil)) (ja_cons (je_call 12 (L.ok 12 _ rfl) hr hG (by rfl) FX.g_kernel FX.k_kernel (ja_cons (je_tup (ja_cons (je_tup (ja_cons je_int ja_nil)) ja_nil)) ja_nil)) ja_nil)))) (je_lst (ja_cons (je_tup (ja_cons (je_tup (ja_cons je_int (ja_cons (je_neg je_int) (ja_cons je_int ja_nil)))) ja_nil)) (ja_cons (je_tup (ja_cons (je_tup (ja_cons je_int (ja_cons je_int ja_nil))) (ja_cons (je_tup (ja_cons je_int (ja_cons je_int ja_nil))) ja_nil))) (ja_cons (je_tup ja_nil) ja_nil)))) (nomark _))
      (jss_cons (js_ret je_bl)
      jss_nil) jss_nil)
      (jss_cons (js_set (i := 4) nd24.nd rfl (by first | exact .inl rfl | exact .inr rfl) (je_tup (ja_cons (je_bin .mul (je_tup (ja_cons je_int ja_nil)) je_int) ja_nil)))
      (jss_cons (js_set (i := 5) nd24.nd rfl (by first | exact .inl rfl | exact .inr rfl) (je_call 12 (L.ok 12 _ rfl) hr hG (by rfl) FX.g_kernel FX.k_kernel (ja_cons (je_var (pv 4)) ja_nil)))
      (jss_cons (js_if (jt_w (jw_or (jt_cmp .ne hu (je_bltB .len (fun _ _ => rfl) cb_len (by rfl) FX.z_len bt_len (ja_cons (je_var (pv 5)) ja_nil)) je_int (nomark _)) (jw_or (jt_cmp .ne hu (je_lc (own := [("row", 6)]) rfl nd24.nd (ji_seq (je_var (pv 5))) (blkOk_by zok26) (by decide) (fun _ _ _ _ _ => (jg_nm (pg_name (i := 6) nd24.nd rfl (by first | exact .inl rfl | exact .inr rfl)))) (fun _ _ _ _ _ => (jts_one (jt_cmp .ne hu (je_bltB .sum (fun _ _ => rfl) (cb_sum rfl) (by rfl) FX.z_sum bt_sum (ja_cons (je_var (pv 6)) ja_nil)) je_int (nomark _)))) (fun _ _ _ _ _ => je_int) (fun _ => rfl)) (je_lst ja_nil) (nomark _)) (jw_or1 (jt_not (jt_truth (je_call 22 (L.ok 22 _ rfl) hr hG (by rfl) FX.g__law_is_reduced FX.k__law_is_reduced (ja_cons (je_var (pv 5)) ja_nil)) fun _ => rfl))))))
      (jss_cons (js_ret je_bl)
      jss_nil) jss_nil)
      (jss_cons (js_ret (je_and (je_cmp .eq hu (je_call 12 (L.ok 12 _ rfl) hr hG (by rfl) FX.g_kernel FX.k_kernel (ja_cons (je_tup (ja_cons (je_tup (ja_cons je_int (ja_cons je_int (ja_cons je_int (ja_cons (je_neg je_int) ja_nil))))) ja_nil)) ja_nil)) (je_call 12 (L.ok 12 _ rfl) hr hG (by rfl) FX.g_kernel FX.k_kernel (ja_cons (je_tup (ja_cons (je_tup (ja_cons (je_neg je_int) (ja_cons (je_neg je_int) (ja_cons je_int (ja_cons je_int ja_nil))))) ja_nil)) ja_nil)) (nomark _)) (je_one (je_cmp .eq hu (je_call 11 (L.ok 11 _ rfl) hr hG (by rfl) FX.g_reduced FX.k_reduced (ja_cons (je_var (pv 5)) ja_nil)) (je_var (pv 5)) (nomark _)))))
      jss_nil))))))
theorem lev (FX : Fx K mg a0 a1 a2 a3 a4 a5 a6 a7 a8 a9 a10 a11 a12 a13 a14 a15 a16 a17 a18 a19 a20 a21 a22 a23 a24) : ∀ k, Lev P w K mg base [a0, a1, a2, a3, a4, a5, a6, a7, a8, a9, a10, a11, a12, a13, a14, a15, a16, a17, a18, a19, a20, a21, a22, a23, a24] prog wf k
  | 0 => ⟨fun i f h A outer s H us vs Q E hr hG e0 r ⟨α, S, ds, rs, rds, p⟩ => p.elim⟩
  | k + 1 => by
    have L := lev FX k
    refine ⟨fun i f h => ?_⟩
    match i, h with
    | 0, rfl => obtain ⟨fd, F⟩ := FX.f_is_integer; exact fnG_plain F nd0 rfl rfl rfl rfl (fun _ _ _ _ _ _ us hl => match us, hl with | [_], _ => rfl) (B0 FX L)
    | 1, rfl => obtain ⟨fd, F⟩ := FX.f_common_in; exact fnG_plain F nd1 rfl rfl rfl rfl (fun _ _ _ _ _ _ us hl => match us, hl with | [_, _], _ => rfl) (B1 FX L)
    | 2, rfl => obtain ⟨fd, F⟩ := FX.f_common_of; exact fnG_plain F nd2 rfl rfl rfl rfl (fun _ _ _ _ _ _ us hl => match us, hl with | [_], _ => rfl) (B2 FX L)
    | 3, rfl => obtain ⟨fd, F⟩ := FX.f_are_integers; exact fnG_plain F nd3 rfl rfl rfl rfl (fun _ _ _ _ _ _ us hl => match us, hl with | [_, _, _], _ => rfl) (B3 FX L)
    | 4, rfl => obtain ⟨fd, F⟩ := FX.f_are_rows; exact fnG_plain F nd4 rfl rfl rfl rfl (fun _ _ _ _ _ _ us hl => match us, hl with | [_], _ => rfl) (B4 FX L)
    | 5, rfl => obtain ⟨fd, F⟩ := FX.f_require_rows; exact fnG_plain F nd5 rfl rfl rfl rfl (fun _ _ _ _ _ _ us hl => match us, hl with | [_], _ => rfl) (B5 FX L)
    | 6, rfl => obtain ⟨fd, F⟩ := FX.f_primitive; exact fnG_plain F nd6 rfl rfl rfl rfl (fun _ _ _ _ _ _ us hl => match us, hl with | [_], _ => rfl) (B6 FX L)
    | 7, rfl => obtain ⟨fd, F⟩ := FX.f_cleared; exact fnG_plain F nd7 rfl rfl rfl rfl (fun _ _ _ _ _ _ us hl => match us, hl with | [_, _, _], _ => rfl) (B7 FX L)
    | 8, rfl => obtain ⟨fd, F⟩ := FX.f_eliminated; exact fnG_plain F nd8 rfl rfl rfl rfl (fun _ _ _ _ _ _ us hl => match us, hl with | [_, _], _ => rfl) (B8 FX L)
    | 9, rfl => obtain ⟨fd, F⟩ := FX.f_reduced_in; exact fnG_plain F nd9 rfl rfl rfl rfl (fun _ _ _ _ _ _ us hl => match us, hl with | [_], _ => rfl) (B9 FX L)
    | 10, rfl => obtain ⟨fd, F⟩ := FX.f_kernel_in; exact fnG_plain F nd10 rfl rfl rfl rfl (fun _ _ _ _ _ _ us hl => match us, hl with | [_, _], _ => rfl) (B10 FX L)
    | 11, rfl => obtain ⟨fd, F⟩ := FX.f_reduced; exact fnG_plain F nd11 rfl rfl rfl rfl (fun _ _ _ _ _ _ us hl => match us, hl with | [_], _ => rfl) (B11 FX L)
    | 12, rfl => obtain ⟨fd, F⟩ := FX.f_kernel; exact fnG_plain F nd12 rfl rfl rfl rfl (fun _ _ _ _ _ _ us hl => match us, hl with | [_], _ => rfl) (B12 FX L)
    | 13, rfl => obtain ⟨fd, F⟩ := FX.f__law_stream; exact fnG_plain F nd13 rfl rfl rfl rfl (fun _ _ _ _ _ _ us hl => match us, hl with | [_, _], _ => rfl) (B13 FX L)
    | 14, rfl => obtain ⟨fd, F⟩ := FX.f__law_draw; exact fnG_plain F nd14 rfl rfl rfl rfl (fun _ _ _ _ _ _ us hl => match us, hl with | [_, _], _ => rfl) (B14 FX L)
    | 15, rfl => obtain ⟨fd, F⟩ := FX.f__law_pick; exact fnG_plain F nd15 rfl rfl rfl rfl (fun _ _ _ _ _ _ us hl => match us, hl with | [_, _], _ => rfl) (B15 FX L)
    | 16, rfl => obtain ⟨fd, F⟩ := FX.f__law_dot; exact fnG_plain F nd16 rfl rfl rfl rfl (fun _ _ _ _ _ _ us hl => match us, hl with | [_, _], _ => rfl) (B16 FX L)
    | 17, rfl => obtain ⟨fd, F⟩ := FX.f__law_common; exact fnG_plain F nd17 rfl rfl rfl rfl (fun _ _ _ _ _ _ us hl => match us, hl with | [_, _], _ => rfl) (B17 FX L)
    | 18, rfl => obtain ⟨fd, F⟩ := FX.f__law_rows; exact fnG_plain F nd18 rfl rfl rfl rfl (fun _ _ _ _ _ _ us hl => match us, hl with | [_, _, _], _ => rfl) (B18 FX L)
    | 19, rfl => obtain ⟨fd, F⟩ := FX.f__law_less; exact fnG_plain F nd19 rfl rfl rfl rfl (fun _ _ _ _ _ _ us hl => match us, hl with | [_, _, _], _ => rfl) (B19 FX L)
    | 20, rfl => obtain ⟨fd, F⟩ := FX.f__law_rank; exact fnG_plain F nd20 rfl rfl rfl rfl (fun _ _ _ _ _ _ us hl => match us, hl with | [_], _ => rfl) (B20 FX L)
    | 21, rfl => obtain ⟨fd, F⟩ := FX.f__law_pivot; exact fnG_plain F nd21 rfl rfl rfl rfl (fun _ _ _ _ _ _ us hl => match us, hl with | [_], _ => rfl) (B21 FX L)
    | 22, rfl => obtain ⟨fd, F⟩ := FX.f__law_is_reduced; exact fnG_plain F nd22 rfl rfl rfl rfl (fun _ _ _ _ _ _ us hl => match us, hl with | [_], _ => rfl) (B22 FX L)
    | 23, rfl => obtain ⟨fd, F⟩ := FX.f__law_right; exact fnG_plain F nd23 rfl rfl rfl rfl (fun _ _ _ _ _ _ us hl => match us, hl with | [_], _ => rfl) (B23 FX L)
    | 24, rfl => obtain ⟨fd, F⟩ := FX.f_law; exact fnG_plain F nd24 rfl rfl rfl rfl (fun _ _ _ _ _ _ us hl => match us, hl with | [_], _ => rfl) (B24 FX L)
    | _ + 25, h => exact nomatch h
end

theorem fx_mk {K : Frag} {h : Heap} {mg : Str → Option Value} (X : K.In h) (G : h.Ns mainGlobals mg) {a0 a1 a2 a3 a4 a5 a6 a7 a8 a9 a10 a11 a12 a13 a14 a15 a16 a17 a18 a19 a20 a21 a22 a23 a24 : Addr}
    {od0 an0 od1 an1 od2 an2 od3 an3 od4 an4 od5 an5 od6 an6 od7 an7 od8 an8 od9 an9 od10 an10 od11 an11 od12 an12 od13 an13 od14 an14 od15 an15 od16 an16 od17 an17 od18 an18 od19 an19 od20 an20 od21 an21 od22 an22 od23 an23 od24 an24 : Option Addr} {sl0 sl1 sl2 sl3 sl4 sl5 sl6 sl7 sl8 sl9 sl10 sl11 sl12 sl13 sl14 sl15 sl16 sl17 sl18 sl19 sl20 sl21 sl22 sl23 sl24 : Array (Option Value)} {oc0 kV0 dc0 pm0 cd0 ct0 oc1 kV1 dc1 pm1 cd1 ct1 oc2 kV2 dc2 pm2 cd2 ct2 oc3 kV3 dc3 pm3 cd3 ct3 oc4 kV4 dc4 pm4 cd4 ct4 oc5 kV5 dc5 pm5 cd5 ct5 oc6 kV6 dc6 pm6 cd6 ct6 oc7 kV7 dc7 pm7 cd7 ct7 oc8 kV8 dc8 pm8 cd8 ct8 oc9 kV9 dc9 pm9 cd9 ct9 oc10 kV10 dc10 pm10 cd10 ct10 oc11 kV11 dc11 pm11 cd11 ct11 oc12 kV12 dc12 pm12 cd12 ct12 oc13 kV13 dc13 pm13 cd13 ct13 oc14 kV14 dc14 pm14 cd14 ct14 oc15 kV15 dc15 pm15 cd15 ct15 oc16 kV16 dc16 pm16 cd16 ct16 oc17 kV17 dc17 pm17 cd17 ct17 oc18 kV18 dc18 pm18 cd18 ct18 oc19 kV19 dc19 pm19 cd19 ct19 oc20 kV20 dc20 pm20 cd20 ct20 oc21 kV21 dc21 pm21 cd21 ct21 oc22 kV22 dc22 pm22 cd22 ct22 oc23 kV23 dc23 pm23 cd23 ct23 oc24 kV24 dc24 pm24 cd24 ct24 : Value} {t0 : Tok}
    (g0 : PySem.W.nsIn K mainGlobals "is_integer" = some (some (.ref a0))) (l0 : K.lookup a0 = some ⟨oc0, od0, .func (PySem.W.fnOf "is_integer" "is_integer" (defArgs st0) (defBody st0) (defScope st0) .none kV0 dc0 pm0 an0 cd0 ct0), sl0⟩) (c0 : PySem.W.codeIn K cd0 "is_integer" = true) (k0 : PySem.W.keepIn K (.ref a0) = true)
    (g1 : PySem.W.nsIn K mainGlobals "common_in" = some (some (.ref a1))) (l1 : K.lookup a1 = some ⟨oc1, od1, .func (PySem.W.fnOf "common_in" "common_in" (defArgs st1) (defBody st1) (defScope st1) .none kV1 dc1 pm1 an1 cd1 ct1), sl1⟩) (c1 : PySem.W.codeIn K cd1 "common_in" = true) (k1 : PySem.W.keepIn K (.ref a1) = true)
    (g2 : PySem.W.nsIn K mainGlobals "common_of" = some (some (.ref a2))) (l2 : K.lookup a2 = some ⟨oc2, od2, .func (PySem.W.fnOf "common_of" "common_of" (defArgs st2) (defBody st2) (defScope st2) .none kV2 dc2 pm2 an2 cd2 ct2), sl2⟩) (c2 : PySem.W.codeIn K cd2 "common_of" = true) (k2 : PySem.W.keepIn K (.ref a2) = true)
    (g3 : PySem.W.nsIn K mainGlobals "are_integers" = some (some (.ref a3))) (l3 : K.lookup a3 = some ⟨oc3, od3, .func (PySem.W.fnOf "are_integers" "are_integers" (defArgs st3) (defBody st3) (defScope st3) .none kV3 dc3 pm3 an3 cd3 ct3), sl3⟩) (c3 : PySem.W.codeIn K cd3 "are_integers" = true) (k3 : PySem.W.keepIn K (.ref a3) = true)
    (g4 : PySem.W.nsIn K mainGlobals "are_rows" = some (some (.ref a4))) (l4 : K.lookup a4 = some ⟨oc4, od4, .func (PySem.W.fnOf "are_rows" "are_rows" (defArgs st4) (defBody st4) (defScope st4) .none kV4 dc4 pm4 an4 cd4 ct4), sl4⟩) (c4 : PySem.W.codeIn K cd4 "are_rows" = true) (k4 : PySem.W.keepIn K (.ref a4) = true)
    (g5 : PySem.W.nsIn K mainGlobals "require_rows" = some (some (.ref a5))) (l5 : K.lookup a5 = some ⟨oc5, od5, .func (PySem.W.fnOf "require_rows" "require_rows" (defArgs st5) (defBody st5) (defScope st5) .none kV5 dc5 pm5 an5 cd5 ct5), sl5⟩) (c5 : PySem.W.codeIn K cd5 "require_rows" = true) (k5 : PySem.W.keepIn K (.ref a5) = true)
    (g6 : PySem.W.nsIn K mainGlobals "primitive" = some (some (.ref a6))) (l6 : K.lookup a6 = some ⟨oc6, od6, .func (PySem.W.fnOf "primitive" "primitive" (defArgs st6) (defBody st6) (defScope st6) .none kV6 dc6 pm6 an6 cd6 ct6), sl6⟩) (c6 : PySem.W.codeIn K cd6 "primitive" = true) (k6 : PySem.W.keepIn K (.ref a6) = true)
    (g7 : PySem.W.nsIn K mainGlobals "cleared" = some (some (.ref a7))) (l7 : K.lookup a7 = some ⟨oc7, od7, .func (PySem.W.fnOf "cleared" "cleared" (defArgs st7) (defBody st7) (defScope st7) .none kV7 dc7 pm7 an7 cd7 ct7), sl7⟩) (c7 : PySem.W.codeIn K cd7 "cleared" = true) (k7 : PySem.W.keepIn K (.ref a7) = true)
    (g8 : PySem.W.nsIn K mainGlobals "eliminated" = some (some (.ref a8))) (l8 : K.lookup a8 = some ⟨oc8, od8, .func (PySem.W.fnOf "eliminated" "eliminated" (defArgs st8) (defBody st8) (defScope st8) .none kV8 dc8 pm8 an8 cd8 ct8), sl8⟩) (c8 : PySem.W.codeIn K cd8 "eliminated" = true) (k8 : PySem.W.keepIn K (.ref a8) = true)
    (g9 : PySem.W.nsIn K mainGlobals "reduced_in" = some (some (.ref a9))) (l9 : K.lookup a9 = some ⟨oc9, od9, .func (PySem.W.fnOf "reduced_in" "reduced_in" (defArgs st9) (defBody st9) (defScope st9) .none kV9 dc9 pm9 an9 cd9 ct9), sl9⟩) (c9 : PySem.W.codeIn K cd9 "reduced_in" = true) (k9 : PySem.W.keepIn K (.ref a9) = true)
    (g10 : PySem.W.nsIn K mainGlobals "kernel_in" = some (some (.ref a10))) (l10 : K.lookup a10 = some ⟨oc10, od10, .func (PySem.W.fnOf "kernel_in" "kernel_in" (defArgs st10) (defBody st10) (defScope st10) .none kV10 dc10 pm10 an10 cd10 ct10), sl10⟩) (c10 : PySem.W.codeIn K cd10 "kernel_in" = true) (k10 : PySem.W.keepIn K (.ref a10) = true)
    (g11 : PySem.W.nsIn K mainGlobals "reduced" = some (some (.ref a11))) (l11 : K.lookup a11 = some ⟨oc11, od11, .func (PySem.W.fnOf "reduced" "reduced" (defArgs st11) (defBody st11) (defScope st11) .none kV11 dc11 pm11 an11 cd11 ct11), sl11⟩) (c11 : PySem.W.codeIn K cd11 "reduced" = true) (k11 : PySem.W.keepIn K (.ref a11) = true)
    (g12 : PySem.W.nsIn K mainGlobals "kernel" = some (some (.ref a12))) (l12 : K.lookup a12 = some ⟨oc12, od12, .func (PySem.W.fnOf "kernel" "kernel" (defArgs st12) (defBody st12) (defScope st12) .none kV12 dc12 pm12 an12 cd12 ct12), sl12⟩) (c12 : PySem.W.codeIn K cd12 "kernel" = true) (k12 : PySem.W.keepIn K (.ref a12) = true)
    (g13 : PySem.W.nsIn K mainGlobals "_law_stream" = some (some (.ref a13))) (l13 : K.lookup a13 = some ⟨oc13, od13, .func (PySem.W.fnOf "_law_stream" "_law_stream" (defArgs st13) (defBody st13) (defScope st13) .none kV13 dc13 pm13 an13 cd13 ct13), sl13⟩) (c13 : PySem.W.codeIn K cd13 "_law_stream" = true) (k13 : PySem.W.keepIn K (.ref a13) = true)
    (g14 : PySem.W.nsIn K mainGlobals "_law_draw" = some (some (.ref a14))) (l14 : K.lookup a14 = some ⟨oc14, od14, .func (PySem.W.fnOf "_law_draw" "_law_draw" (defArgs st14) (defBody st14) (defScope st14) .none kV14 dc14 pm14 an14 cd14 ct14), sl14⟩) (c14 : PySem.W.codeIn K cd14 "_law_draw" = true) (k14 : PySem.W.keepIn K (.ref a14) = true)
    (g15 : PySem.W.nsIn K mainGlobals "_law_pick" = some (some (.ref a15))) (l15 : K.lookup a15 = some ⟨oc15, od15, .func (PySem.W.fnOf "_law_pick" "_law_pick" (defArgs st15) (defBody st15) (defScope st15) .none kV15 dc15 pm15 an15 cd15 ct15), sl15⟩) (c15 : PySem.W.codeIn K cd15 "_law_pick" = true) (k15 : PySem.W.keepIn K (.ref a15) = true)
    (g16 : PySem.W.nsIn K mainGlobals "_law_dot" = some (some (.ref a16))) (l16 : K.lookup a16 = some ⟨oc16, od16, .func (PySem.W.fnOf "_law_dot" "_law_dot" (defArgs st16) (defBody st16) (defScope st16) .none kV16 dc16 pm16 an16 cd16 ct16), sl16⟩) (c16 : PySem.W.codeIn K cd16 "_law_dot" = true) (k16 : PySem.W.keepIn K (.ref a16) = true)
    (g17 : PySem.W.nsIn K mainGlobals "_law_common" = some (some (.ref a17))) (l17 : K.lookup a17 = some ⟨oc17, od17, .func (PySem.W.fnOf "_law_common" "_law_common" (defArgs st17) (defBody st17) (defScope st17) .none kV17 dc17 pm17 an17 cd17 ct17), sl17⟩) (c17 : PySem.W.codeIn K cd17 "_law_common" = true) (k17 : PySem.W.keepIn K (.ref a17) = true)
    (g18 : PySem.W.nsIn K mainGlobals "_law_rows" = some (some (.ref a18))) (l18 : K.lookup a18 = some ⟨oc18, od18, .func (PySem.W.fnOf "_law_rows" "_law_rows" (defArgs st18) (defBody st18) (defScope st18) .none kV18 dc18 pm18 an18 cd18 ct18), sl18⟩) (c18 : PySem.W.codeIn K cd18 "_law_rows" = true) (k18 : PySem.W.keepIn K (.ref a18) = true)
    (g19 : PySem.W.nsIn K mainGlobals "_law_less" = some (some (.ref a19))) (l19 : K.lookup a19 = some ⟨oc19, od19, .func (PySem.W.fnOf "_law_less" "_law_less" (defArgs st19) (defBody st19) (defScope st19) .none kV19 dc19 pm19 an19 cd19 ct19), sl19⟩) (c19 : PySem.W.codeIn K cd19 "_law_less" = true) (k19 : PySem.W.keepIn K (.ref a19) = true)
    (g20 : PySem.W.nsIn K mainGlobals "_law_rank" = some (some (.ref a20))) (l20 : K.lookup a20 = some ⟨oc20, od20, .func (PySem.W.fnOf "_law_rank" "_law_rank" (defArgs st20) (defBody st20) (defScope st20) .none kV20 dc20 pm20 an20 cd20 ct20), sl20⟩) (c20 : PySem.W.codeIn K cd20 "_law_rank" = true) (k20 : PySem.W.keepIn K (.ref a20) = true)
    (g21 : PySem.W.nsIn K mainGlobals "_law_pivot" = some (some (.ref a21))) (l21 : K.lookup a21 = some ⟨oc21, od21, .func (PySem.W.fnOf "_law_pivot" "_law_pivot" (defArgs st21) (defBody st21) (defScope st21) .none kV21 dc21 pm21 an21 cd21 ct21), sl21⟩) (c21 : PySem.W.codeIn K cd21 "_law_pivot" = true) (k21 : PySem.W.keepIn K (.ref a21) = true)
    (g22 : PySem.W.nsIn K mainGlobals "_law_is_reduced" = some (some (.ref a22))) (l22 : K.lookup a22 = some ⟨oc22, od22, .func (PySem.W.fnOf "_law_is_reduced" "_law_is_reduced" (defArgs st22) (defBody st22) (defScope st22) .none kV22 dc22 pm22 an22 cd22 ct22), sl22⟩) (c22 : PySem.W.codeIn K cd22 "_law_is_reduced" = true) (k22 : PySem.W.keepIn K (.ref a22) = true)
    (g23 : PySem.W.nsIn K mainGlobals "_law_right" = some (some (.ref a23))) (l23 : K.lookup a23 = some ⟨oc23, od23, .func (PySem.W.fnOf "_law_right" "_law_right" (defArgs st23) (defBody st23) (defScope st23) .none kV23 dc23 pm23 an23 cd23 ct23), sl23⟩) (c23 : PySem.W.codeIn K cd23 "_law_right" = true) (k23 : PySem.W.keepIn K (.ref a23) = true)
    (g24 : PySem.W.nsIn K mainGlobals "law" = some (some (.ref a24))) (l24 : K.lookup a24 = some ⟨oc24, od24, .func (PySem.W.fnOf "law" "law" (defArgs st24) (defBody st24) (defScope st24) .none kV24 dc24 pm24 an24 cd24 ct24), sl24⟩) (c24 : PySem.W.codeIn K cd24 "law" = true) (k24 : PySem.W.keepIn K (.ref a24) = true)
    (z0 : PySem.W.nsIn K mainGlobals "abs" = some none)
    (z1 : PySem.W.nsIn K mainGlobals "all" = some none)
    (z2 : PySem.W.nsIn K mainGlobals "bool" = some none)
    (z3 : PySem.W.nsIn K mainGlobals "dict" = some none)
    (z4 : PySem.W.nsIn K mainGlobals "enumerate" = some none)
    (z5 : PySem.W.nsIn K mainGlobals "int" = some none)
    (z6 : PySem.W.nsIn K mainGlobals "isinstance" = some none)
    (z7 : PySem.W.nsIn K mainGlobals "len" = some none)
    (z8 : PySem.W.nsIn K mainGlobals "list" = some none)
    (z9 : PySem.W.nsIn K mainGlobals "max" = some none)
    (z10 : PySem.W.nsIn K mainGlobals "min" = some none)
    (z11 : PySem.W.nsIn K mainGlobals "range" = some none)
    (z12 : PySem.W.nsIn K mainGlobals "repr" = some none)
    (z13 : PySem.W.nsIn K mainGlobals "sum" = some none)
    (z14 : PySem.W.nsIn K mainGlobals "tuple" = some none)
    (z15 : PySem.W.nsIn K mainGlobals "zip" = some none)
    (v0 : PySem.W.nsIn K mainGlobals "MAX_COLUMNS" = some (some (.int 60 t0)))
    {P : Program} {w : World} {fa : Addr} (hfa : mg "law" = some (.ref fa)) : ∀ base : Heap, K.In base → base.Ns mainGlobals mg → FnG P w K mg base CX0 30 fa (spI K (Ln.callI prog 1000000 30 24)) := fun base _ _ =>
  fn_at (lev (⟨PySem.W.mg_of X G g0, k0, ⟨_, fun_mk l0 c0 k0⟩, PySem.W.mg_of X G g1, k1, ⟨_, fun_mk l1 c1 k1⟩, PySem.W.mg_of X G g2, k2, ⟨_, fun_mk l2 c2 k2⟩, PySem.W.mg_of X G g3, k3, ⟨_, fun_mk l3 c3 k3⟩, PySem.W.mg_of X G g4, k4, ⟨_, fun_mk l4 c4 k4⟩, PySem.W.mg_of X G g5, k5, ⟨_, fun_mk l5 c5 k5⟩, PySem.W.mg_of X G g6, k6, ⟨_, fun_mk l6 c6 k6⟩, PySem.W.mg_of X G g7, k7, ⟨_, fun_mk l7 c7 k7⟩, PySem.W.mg_of X G g8, k8, ⟨_, fun_mk l8 c8 k8⟩, PySem.W.mg_of X G g9, k9, ⟨_, fun_mk l9 c9 k9⟩, PySem.W.mg_of X G g10, k10, ⟨_, fun_mk l10 c10 k10⟩, PySem.W.mg_of X G g11, k11, ⟨_, fun_mk l11 c11 k11⟩, PySem.W.mg_of X G g12, k12, ⟨_, fun_mk l12 c12 k12⟩, PySem.W.mg_of X G g13, k13, ⟨_, fun_mk l13 c13 k13⟩, PySem.W.mg_of X G g14, k14, ⟨_, fun_mk l14 c14 k14⟩, PySem.W.mg_of X G g15, k15, ⟨_, fun_mk l15 c15 k15⟩, PySem.W.mg_of X G g16, k16, ⟨_, fun_mk l16 c16 k16⟩, PySem.W.mg_of X G g17, k17, ⟨_, fun_mk l17 c17 k17⟩, PySem.W.mg_of X G g18, k18, ⟨_, fun_mk l18 c18 k18⟩, PySem.W.mg_of X G g19, k19, ⟨_, fun_mk l19 c19 k19⟩, PySem.W.mg_of X G g20, k20, ⟨_, fun_mk l20 c20 k20⟩, PySem.W.mg_of X G g21, k21, ⟨_, fun_mk l21 c21 k21⟩, PySem.W.mg_of X G g22, k22, ⟨_, fun_mk l22 c22 k22⟩, PySem.W.mg_of X G g23, k23, ⟨_, fun_mk l23 c23 k23⟩, PySem.W.mg_of X G g24, k24, ⟨_, fun_mk l24 c24 k24⟩, PySem.W.mg_none_of X G z0, PySem.W.mg_none_of X G z1, PySem.W.mg_none_of X G z2, PySem.W.mg_none_of X G z3, PySem.W.mg_none_of X G z4, PySem.W.mg_none_of X G z5, PySem.W.mg_none_of X G z6, PySem.W.mg_none_of X G z7, PySem.W.mg_none_of X G z8, PySem.W.mg_none_of X G z9, PySem.W.mg_none_of X G z10, PySem.W.mg_none_of X G z11, PySem.W.mg_none_of X G z12, PySem.W.mg_none_of X G z13, PySem.W.mg_none_of X G z14, PySem.W.mg_none_of X G z15, ⟨_, PySem.W.mg_of X G v0⟩⟩ : Fx K mg a0 a1 a2 a3 a4 a5 a6 a7 a8 a9 a10 a11 a12 a13 a14 a15 a16 a17 a18 a19 a20 a21 a22 a23 a24) 30) (i := 24) rfl hfa (PySem.W.mg_of X G g24)
end K07
open PySem PySem.W PyProof.Rows
set_option maxHeartbeats 0 in
theorem PySem.Challenge.cw_leastnet_k07_kernels_holds : PySem.Challenge.rw_leastnet_k07_kernels.Holds := by
  w_on; o_law; k_head; (case hw => w_witness2)
  k_fill
  refine LnS.walk_ofG (l := PySem.Challenge.rw_leastnet_k07_kernels) (n := 63) (k := 30) (g := Ln.callI K07.prog 1000000 30 24) rfl (by decide) rfl ⟨rfl, by decide, by decide⟩ (by decide +kernel) (fun w h Y => PySem.W.kIn_of Y) ?K1 ?F (fun ns _ _ => K07.pure_law (k := 18) (by decide) ns)
  case K1 => exact fun w => rfl
  case F =>
    intro w mg fa h KX G hmg
    refine' K07.fx_mk KX G ?fx_g0 ?fx_l0 ?fx_c0 ?fx_k0 ?fx_g1 ?fx_l1 ?fx_c1 ?fx_k1 ?fx_g2 ?fx_l2 ?fx_c2 ?fx_k2 ?fx_g3 ?fx_l3 ?fx_c3 ?fx_k3 ?fx_g4 ?fx_l4 ?fx_c4 ?fx_k4 ?fx_g5 ?fx_l5 ?fx_c5 ?fx_k5 ?fx_g6 ?fx_l6 ?fx_c6 ?fx_k6 ?fx_g7 ?fx_l7 ?fx_c7 ?fx_k7 ?fx_g8 ?fx_l8 ?fx_c8 ?fx_k8 ?fx_g9 ?fx_l9 ?fx_c9 ?fx_k9 ?fx_g10 ?fx_l10 ?fx_c10 ?fx_k10 ?fx_g11 ?fx_l11 ?fx_c11 ?fx_k11 ?fx_g12 ?fx_l12 ?fx_c12 ?fx_k12 ?fx_g13 ?fx_l13 ?fx_c13 ?fx_k13 ?fx_g14 ?fx_l14 ?fx_c14 ?fx_k14 ?fx_g15 ?fx_l15 ?fx_c15 ?fx_k15 ?fx_g16 ?fx_l16 ?fx_c16 ?fx_k16 ?fx_g17 ?fx_l17 ?fx_c17 ?fx_k17 ?fx_g18 ?fx_l18 ?fx_c18 ?fx_k18 ?fx_g19 ?fx_l19 ?fx_c19 ?fx_k19 ?fx_g20 ?fx_l20 ?fx_c20 ?fx_k20 ?fx_g21 ?fx_l21 ?fx_c21 ?fx_k21 ?fx_g22 ?fx_l22 ?fx_c22 ?fx_k22 ?fx_g23 ?fx_l23 ?fx_c23 ?fx_k23 ?fx_g24 ?fx_l24 ?fx_c24 ?fx_k24 ?fx_z0 ?fx_z1 ?fx_z2 ?fx_z3 ?fx_z4 ?fx_z5 ?fx_z6 ?fx_z7 ?fx_z8 ?fx_z9 ?fx_z10 ?fx_z11 ?fx_z12 ?fx_z13 ?fx_z14 ?fx_z15 ?fx_v0 hmg
    (case fx_g0 => k_is)
    (case fx_l0 => k_is)
    (case fx_c0 => k_is)
    (case fx_k0 => k_is)
    (case fx_g1 => k_is)
    (case fx_l1 => k_is)
    (case fx_c1 => k_is)
    (case fx_k1 => k_is)
    (case fx_g2 => k_is)
    (case fx_l2 => k_is)
    (case fx_c2 => k_is)
    (case fx_k2 => k_is)
    (case fx_g3 => k_is)
    (case fx_l3 => k_is)
    (case fx_c3 => k_is)
    (case fx_k3 => k_is)
    (case fx_g4 => k_is)
    (case fx_l4 => k_is)
    (case fx_c4 => k_is)
    (case fx_k4 => k_is)
    (case fx_g5 => k_is)
    (case fx_l5 => k_is)
    (case fx_c5 => k_is)
    (case fx_k5 => k_is)
    (case fx_g6 => k_is)
    (case fx_l6 => k_is)
    (case fx_c6 => k_is)
    (case fx_k6 => k_is)
    (case fx_g7 => k_is)
    (case fx_l7 => k_is)
    (case fx_c7 => k_is)
    (case fx_k7 => k_is)
    (case fx_g8 => k_is)
    (case fx_l8 => k_is)
    (case fx_c8 => k_is)
    (case fx_k8 => k_is)
    (case fx_g9 => k_is)
    (case fx_l9 => k_is)
    (case fx_c9 => k_is)
    (case fx_k9 => k_is)
    (case fx_g10 => k_is)
    (case fx_l10 => k_is)
    (case fx_c10 => k_is)
    (case fx_k10 => k_is)
    (case fx_g11 => k_is)
    (case fx_l11 => k_is)
    (case fx_c11 => k_is)
    (case fx_k11 => k_is)
    (case fx_g12 => k_is)
    (case fx_l12 => k_is)
    (case fx_c12 => k_is)
    (case fx_k12 => k_is)
    (case fx_g13 => k_is)
    (case fx_l13 => k_is)
    (case fx_c13 => k_is)
    (case fx_k13 => k_is)
    (case fx_g14 => k_is)
    (case fx_l14 => k_is)
    (case fx_c14 => k_is)
    (case fx_k14 => k_is)
    (case fx_g15 => k_is)
    (case fx_l15 => k_is)
    (case fx_c15 => k_is)
    (case fx_k15 => k_is)
    (case fx_g16 => k_is)
    (case fx_l16 => k_is)
    (case fx_c16 => k_is)
    (case fx_k16 => k_is)
    (case fx_g17 => k_is)
    (case fx_l17 => k_is)
    (case fx_c17 => k_is)
    (case fx_k17 => k_is)
    (case fx_g18 => k_is)
    (case fx_l18 => k_is)
    (case fx_c18 => k_is)
    (case fx_k18 => k_is)
    (case fx_g19 => k_is)
    (case fx_l19 => k_is)
    (case fx_c19 => k_is)
    (case fx_k19 => k_is)
    (case fx_g20 => k_is)
    (case fx_l20 => k_is)
    (case fx_c20 => k_is)
    (case fx_k20 => k_is)
    (case fx_g21 => k_is)
    (case fx_l21 => k_is)
    (case fx_c21 => k_is)
    (case fx_k21 => k_is)
    (case fx_g22 => k_is)
    (case fx_l22 => k_is)
    (case fx_c22 => k_is)
    (case fx_k22 => k_is)
    (case fx_g23 => k_is)
    (case fx_l23 => k_is)
    (case fx_c23 => k_is)
    (case fx_k23 => k_is)
    (case fx_g24 => k_is)
    (case fx_l24 => k_is)
    (case fx_c24 => k_is)
    (case fx_k24 => k_is)
    (case fx_z0 => k_is)
    (case fx_z1 => k_is)
    (case fx_z2 => k_is)
    (case fx_z3 => k_is)
    (case fx_z4 => k_is)
    (case fx_z5 => k_is)
    (case fx_z6 => k_is)
    (case fx_z7 => k_is)
    (case fx_z8 => k_is)
    (case fx_z9 => k_is)
    (case fx_z10 => k_is)
    (case fx_z11 => k_is)
    (case fx_z12 => k_is)
    (case fx_z13 => k_is)
    (case fx_z14 => k_is)
    (case fx_z15 => k_is)
    (case fx_v0 => k_is)
