import PyProof.Rows.All
import Wide.All
import OpenK.AllK
import Wide.FinOn
import HandS.Deep
import HandS.EndBits
import HandS.ExcBuiltin
import HandS.ExcField
import HandS.ExcInit
import HandS.ExcIs
import HandS.ExcOwn
import HandS.Flow
import HandS.ForExc
import HandS.ForMost
import HandS.IsInst
import HandS.Lambda
import HandS.List
import HandS.NoneIn
import HandS.SetBool
import HandS.SetFor
import HandS.SetTxt0
import HandS.Star
import HandS.Strs
import HandS.Style
import HandS.TryMany
import HandS.TupAny
import HandS.TupMul
import HandS.Wide
import HandS.Words
import HandS.Zip
import KE.GoesMore
import KE.GoesZip
import KE.KExcInit
import PyProof.Ascii
import PyProof.EqLayable
import PyProof.FitsInt
import PyProof.P3Statements
import PyProof.ReprReads
import PyProof.RulesMatch
import PyProof.StrBlockL
import PyProof.StrLawsRepr
import PySem.Challenge.RW_leastnet_k01_alphabets_and_words
set_option Elab.async false
set_option linter.all false
set_option maxRecDepth 100000
set_option linter.all false
/-! Ln: a value-level evaluator for the fragment of Python that the laws use. No heap for tuples; only what is mutated stands in a store. -/
namespace Ln
open PySem (Str PyData)

/-- the name of an error that is held: its object, its dict, its class -/
structure XN where
  a : Nat
  d : Option Nat
  C : Nat
  deriving DecidableEq
inductive D where
  | non | bl (b : Bool) | int (i : Int) | str (x : Str)
  | tup (xs : List D) | lst (xs : List D) | frz (xs : List D) | dct (ks vs : List D)
  /-- an item of zip, of enumerate: only unpacked -/
  | wtp (xs : List D)
  | ref (n : Nat)
  /-- an error that is held, its value's name, its value -/
  | exn (n : XN) (f : Option Str) (v : D)
  deriving Inhabited

inductive O where
  | lst (xs : List D) | dct (ks vs : List D)
  /-- what is no more changed, and known by value -/
  | fzl (xs : List D) | fzd (ks vs : List D)
  deriving Inhabited
def O.isFz : O → Bool
  | .fzl _ => true
  | .fzd _ _ => true
  | _ => false

abbrev Store := List O
abbrev Rho := List (Option D)
structure Ex where
  cls : Nat
  val : D

inductive R (α : Type) where
  | ok (a : α) (s : Store) | exc (e : Ex) (s : Store) | err
abbrev M (α : Type) := Store → R α

namespace M
def ret {α} (a : α) : M α := fun s => .ok a s
def err {α} : M α := fun _ => .err
def bind {α β} (m : M α) (f : α → M β) : M β := fun s => match m s with
  | .ok a s' => f a s'
  | .exc e s' => .exc e s'
  | .err => .err
/-- a result that hangs on the store, which it leaves as it is -/
def opt {α} (f : Store → Option α) : M α := fun s => match f s with
  | some a => .ok a s
  | none => .err
/-- where no exception may leave -/
def nox {α} (m : M α) : M α := fun s => match m s with
  | .ok a s' => .ok a s'
  | _ => .err
end M

/-! ### data -/
/-- what a value is, as plain data, k deep -/
def toP (S : Store) : Nat → D → Option PyData
  | _, .non => some .none
  | _, .bl b => some (.bool b)
  | _, .int i => some (.int i)
  | _, .str x => some (.str x)
  | 0, _ => none
  | k + 1, .tup xs => (xs.mapM (toP S k)).map .tuple
  | k + 1, .lst xs => (xs.mapM (toP S k)).map .list
  | _ + 1, .frz _ => none
  | _ + 1, .wtp _ => none
  | _ + 1, .exn _ _ _ => none
  | k + 1, .dct ks vs => (ks.mapM (toP S k)).bind fun a => (vs.mapM (toP S k)).map fun b => .dict (a.zip b)
  | k + 1, .ref n => match S[n]? with
    | some (.lst xs) => (xs.mapM (toP S k)).map .list
    | some (.dct ks vs) => (ks.mapM (toP S k)).bind fun a => (vs.mapM (toP S k)).map fun b => .dict (a.zip b)
    | _ => none
def deep : Nat := 24
def dat (S : Store) (d : D) : Option PyData := toP S deep d

/-- a list's, a tuple's items -/
def seqOf (S : Store) : D → Option (List D)
  | .tup xs => some xs
  | .lst xs => some xs
  | .frz xs => some xs
  | .ref n => match S[n]? with
    | some (.lst xs) => some xs
    | _ => none
  | _ => none
/-- a list's items -/
def lstOf (S : Store) : D → Option (List D)
  | .lst xs => some xs
  | .ref n => match S[n]? with
    | some (.lst xs) => some xs
    | _ => none
  | _ => none

def line : Nat := 2 ^ 24

def truth (S : Store) : D → Option Bool
  | .non => some false
  | .bl b => some b
  | .int i => some (i != 0)
  | .str x => if x.length ≤ line then some (x.length != 0) else none
  | .tup xs => some (!xs.isEmpty)
  | .lst xs => some (!xs.isEmpty)
  | .ref n => match S[n]? with
    | some (.lst xs) => some (!xs.isEmpty)
    | _ => none
  | _ => none

/-! ### operators -/
inductive Bop where
  | add | sub | mul | fdiv | mod | pow
  deriving DecidableEq
def small64 (a : Int) : Bool := decide (-(2 ^ 64) < a) && decide (a < 2 ^ 64)
def mulOk (a b : Int) : Bool := small64 a || small64 b || decide (a.natAbs.log2 + b.natAbs.log2 < 1000000)
def divOk (b : Int) : Bool := decide (b ≠ 0) && decide (b.natAbs.log2 < 9000)
def powOk (a n : Int) : Bool := decide (0 ≤ n) && decide (((a.natAbs.log2 + 1 : Nat) : Int) * n ≤ 2 ^ 27)
def small63 (a : Int) : Bool := decide (-(2 ^ 63) ≤ a) && decide (a < 2 ^ 63)

def intOp : Bop → Int → Int → Option Int
  | .add, a, b => some (a + b)
  | .sub, a, b => some (a - b)
  | .mul, a, b => if mulOk a b then some (a * b) else none
  | .fdiv, a, b => if divOk b then some (a.fdiv b) else none
  | .mod, a, b => if b ≠ 0 then some (a.fmod b) else none
  | .pow, a, b => if powOk a b then some (a ^ b.toNat) else none

def bop (o : Bop) (x y : D) (S : Store) : Option D :=
  match x, y with
  | .int a, .int b => (intOp o a b).map .int
  | .str a, .str b => match o with
    | .add => if a.length + b.length ≤ line then some (.str (a ++ b)) else none
    | _ => none
  | .tup xs, .tup ys => match o with
    | .add => if xs.length + ys.length ≤ line then some (.tup (xs ++ ys)) else none
    | _ => none
  | .tup xs, .int k => match o with
    | .mul => if decide (-1000000 ≤ k) && decide (k ≤ 1000000) && decide (xs.length * k.toNat ≤ 1000000) then some (.tup (List.replicate k.toNat xs).flatten) else none
    | _ => none
  | x, .int k => match o, lstOf S x with
    | .mul, some xs => if small63 k && decide (xs.length * k.toNat ≤ line) then some (.lst (List.replicate k.toNat xs).flatten) else none
    | _, _ => none
  | x, y => match o, lstOf S x, lstOf S y with
    | .add, some xs, some ys => if xs.length + ys.length ≤ line then some (.lst (xs ++ ys)) else none
    | _, _, _ => none

inductive Cop where
  | eq | ne | lt | le | gt | ge | is | isNot | isIn | notIn
  deriving DecidableEq

def eqP (S : Store) (x y : D) : Option Bool := match dat S x, dat S y with
  | some a, some b => if PySem.SeqAt.shaped a && PySem.SeqAt.shaped b then some (PyData.eqv a b) else none
  | _, _ => none
def eqD (S : Store) (x y : D) : Option Bool := match x, y with
  | .int a, .int b => some (decide (a = b))
  | .str a, .str b => some (decide (a = b))
  | x, y => eqP S x y
/-- x is y, for y None or a bool -/
def isD (x y : D) : Option Bool := match x, y with
  | .non, .non => some true
  | _, .non => some false
  | .bl a, .bl b => some (a == b)
  | _, _ => none
/-! ### dicts -/
def isKey : D → Bool
  | .int _ => true
  | .str _ => true
  | _ => false
def keyIs (k d : D) : Bool := match k, d with
  | .int a, .int b => decide (a = b)
  | .str a, .str b => decide (a = b)
  | _, _ => false
def lookD (k : D) : List D → List D → Option D
  | j :: ks, v :: vs => if keyIs k j then some v else lookD k ks vs
  | _, _ => none
def pairsD : List D → Option (List (D × D))
  | [] => some []
  | .tup [k, v] :: r => if isKey k then (pairsD r).map ((k, v) :: ·) else none
  | _ :: _ => none
def putD (acc : List (D × D)) (k v : D) : List (D × D) :=
  if acc.any (fun p => keyIs k p.1) then acc.map (fun p => if keyIs k p.1 then (p.1, v) else p) else acc ++ [(k, v)]
def mergeD (acc ps : List (D × D)) : List (D × D) := ps.foldl (fun a q => putD a q.1 q.2) acc
def inD (S : Store) (x y : D) : Option Bool := match y with
  | .dct ks _ => if isKey x then some (ks.any (keyIs x)) else none
  | .str b => match x with
    | .str a => some (!(PySem.Builtin.Str.occurrences b a 0 b.length 1).isEmpty)
    | _ => none
  | y => match dat S x, seqOf S y with
    | some a, some ys => match ys.mapM (dat S) with
      | some bs => if PySem.SeqAt.shaped a && PySem.SeqAt.shaped (.list bs) then some (bs.any fun z => PyData.eqv z a) else none
      | none => none
    | _, _ => none

def cop (c : Cop) (x y : D) (S : Store) : Option Bool := match c with
  | .eq => eqD S x y
  | .ne => (eqD S x y).map (!·)
  | .is => isD x y
  | .isNot => (isD x y).map (!·)
  | .isIn => inD S x y
  | .notIn => (inD S x y).map (!·)
  | .lt => match x, y with
    | .int a, .int b => some (decide (a < b))
    | .str a, .str b => some (decide (a.cps.toList < b.cps.toList))
    | _, _ => none
  | .le => match x, y with
    | .int a, .int b => some (decide (a ≤ b))
    | _, _ => none
  | .gt => match x, y with
    | .int a, .int b => some (decide (b < a))
    | _, _ => none
  | .ge => match x, y with
    | .int a, .int b => some (decide (b ≤ a))
    | _, _ => none

/-- an index's place -/
def place (n : Nat) (i : Int) : Option Nat := if 0 ≤ i then (if i < n then some i.toNat else none) else if -(n : Int) ≤ i then some (i + n).toNat else none
def atP {α : Type} (xs : List α) (i : Int) : Option α := (place xs.length i).bind fun j => xs[j]?
/-- a bound of a slice -/
def bnd (n d : Nat) : Option Int → Nat
  | none => d
  | some v => if v < 0 then (v + (n : Int)).toNat else min v.toNat n
def cut {α : Type} (xs : List α) (lo hi : Option Int) : List α := (xs.drop (bnd xs.length 0 lo)).take (bnd xs.length xs.length hi - bnd xs.length 0 lo)

def idxD (S : Store) (x i : D) : Option D := match i with
  | .int i => match x with
    | .str z => if z.length ≤ line then (atP z.cps.toList i).map fun c => .str ⟨#[c]⟩ else none
    | .dct ks vs => lookD (.int i) ks vs
    | x => (seqOf S x).bind fun xs => atP xs i
  | .str z => match x with
    | .dct ks vs => lookD (.str z) ks vs
    | _ => none
  | _ => none
def slcD (S : Store) (x : D) (lo hi : Option Int) : Option D := match x with
  | .str z => if z.length ≤ line then some (.str ⟨(cut z.cps.toList lo hi).toArray⟩) else none
  | .tup xs => some (.tup (cut xs lo hi))
  | x => (lstOf S x).map fun xs => .lst (cut xs lo hi)
def revD (S : Store) (x : D) : Option D := match x with
  | .tup xs => some (.tup xs.reverse)
  | x => (lstOf S x).map fun xs => .lst xs.reverse

inductive Ty where
  | int | bool | str | tuple | list | dict
  deriving DecidableEq
/-- the built-in class -/
def tyOf (S : Store) : D → Option Ty
  | .bl _ => some .bool
  | .int _ => some .int
  | .str _ => some .str
  | .tup _ => some .tuple
  | .lst _ => some .list
  | .frz _ => some .list
  | .dct _ _ => some .dict
  | .ref n => match S[n]? with
    | some (.lst _) => some .list
    | some (.dct _ _) => some .dict
    | _ => none
  | .wtp _ => none
  | .exn _ _ _ => none
  | .non => none
def isiD (S : Store) (t : Ty) (x : D) : Option Bool := match x with
  | .non => some false
  | x => (tyOf S x).map fun u => decide (u = t) || (decide (u = .bool) && decide (t = .int))

/-! ### built-ins -/
def intsD : List D → Option (List Int)
  | [] => some []
  | .int i :: r => (intsD r).map (i :: ·)
  | _ :: _ => none
def boolsD : List D → Option (List Bool)
  | [] => some []
  | .bl b :: r => (boolsD r).map (b :: ·)
  | _ :: _ => none
def strsD : List D → Option (List Str)
  | [] => some []
  | .str x :: r => (strsD r).map (x :: ·)
  | _ :: _ => none

inductive Blt where
  | len | tuple | list | listM | all | any | sum | abs | max | min | int | str | repr
  | append | pop | popAt | upper | tindex | tcount | sortS | sjoin | dict | dget | bindex | bcount | sset
  deriving DecidableEq

def lenF (S : Store) : List D → Option D
  | [.str x] => if x.length ≤ line then some (.int x.length) else none
  | [x] => (seqOf S x).map fun xs => .int xs.length
  | _ => none
def tupleF (S : Store) : List D → Option D
  | [x] => (seqOf S x).map .tup
  | _ => none
def listF (S : Store) : List D → Option D
  | [x] => (seqOf S x).map .lst
  | _ => none
def allF (S : Store) : List D → Option D
  | [x] => (lstOf S x).bind fun xs => (boolsD xs).map fun bs => .bl (bs.all id)
  | _ => none
def anyF (S : Store) : List D → Option D
  | [x] => (lstOf S x).bind fun xs => (boolsD xs).map fun bs => .bl (bs.any id)
  | _ => none
def sumF (S : Store) : List D → Option D
  | [x] => (seqOf S x).bind fun xs => (intsD xs).map fun ns => .int ns.sum
  | _ => none
def absF (_ : Store) : List D → Option D
  | [.int i] => some (.int (if i < 0 then -i else i))
  | _ => none
def maxF (_ : Store) : List D → Option D
  | [.int i, .int j] => some (.int (if j > i then j else i))
  | _ => none
def minF (_ : Store) : List D → Option D
  | [.int i, .int j] => some (.int (if j < i then j else i))
  | _ => none
def intF (_ : Store) : List D → Option D
  | [.int i] => some (.int i)
  | [.bl b] => some (.int (if b then 1 else 0))
  | _ => none
def strF (_ : Store) : List D → Option D
  | [.int i] => if i.natAbs.log2 < 1920 then some (.str (toString i : String)) else none
  | _ => none
def reprF (S : Store) : List D → Option D
  | [x] => (dat S x).bind fun d => if d.showable && decide (d.shown.length ≤ line) then some (.str d.shown) else none
  | _ => none
/-- t.index(x), t.count(x), t a tuple of texts -/
def tindexF (_ : Store) : List D → Option D
  | [.tup xs, .str z] => (strsD xs).bind fun ys => if z ∈ ys then some (.int (ys.idxOf z)) else none
  | _ => none
def tcountF (_ : Store) : List D → Option D
  | [.tup xs, .str z] => (strsD xs).map fun ys => .int (ys.count z)
  | _ => none
def leS (x y : Str) : Bool := decide (x.cps.toList ≤ y.cps.toList)
/-- sorted(xs), xs a list of texts -/
def sortF (S : Store) : List D → Option D
  | [x] => (lstOf S x).bind fun xs => (strsD xs).bind fun ys => if ys.length < 64 then some (.lst ((ys.mergeSort leS).map .str)) else none
  | _ => none
/-- sorted(set(xs)), xs a list or a tuple of texts -/
def ssetF (S : Store) : List D → Option D
  | [x] => (seqOf S x).bind fun xs => (strsD xs).bind fun ys => if ys.length < 64 then some (.lst ((ys.eraseDups.mergeSort leS).map .str)) else none
  | _ => none
/-- x.upper() -/
def upperF (_ : Store) : List D → Option D
  | [.str x] => if x.length ≤ 5592405 then some (.str (PySem.Txt.upper x)) else none
  | _ => none
/-- z.join(xs) -/
def joinF (S : Store) : List D → Option D
  | [.str z, x] => (seqOf S x).bind fun xs => (strsD xs).bind fun ys => if (ys.map (·.length)).sum + ys.length * z.length ≤ 16777216 then some (.str (PySem.Txt.join z ys)) else none
  | _ => none
/-- dict(xs), xs a list of pairs -/
def dictF (S : Store) : List D → Option D
  | [x] => (lstOf S x).bind fun xs => (pairsD xs).map fun ps => .dct ((mergeD [] ps).map (·.1)) ((mergeD [] ps).map (·.2))
  | _ => none
/-- d.get(k, e) -/
def dgetF (_ : Store) : List D → Option D
  | [.dct ks vs, k, e] => if isKey k then some ((lookD k ks vs).getD e) else none
  | _ => none
/-- l.index(x), l.count(x), l a list of truths -/
def bindexF (S : Store) : List D → Option D
  | [x, .bl b] => (lstOf S x).bind fun xs => (boolsD xs).bind fun bs => if b ∈ bs then some (.int (bs.idxOf b)) else none
  | _ => none
def bcountF (S : Store) : List D → Option D
  | [x, .bl b] => (lstOf S x).bind fun xs => (boolsD xs).map fun bs => .int (bs.count b)
  | _ => none
/-- built-ins that leave the store as it is -/
def blt0 (b : Blt) (args : List D) (S : Store) : Option D := match b with
  | .len => lenF S args
  | .tuple => tupleF S args
  | .list => listF S args
  | .all => allF S args
  | .any => anyF S args
  | .sum => sumF S args
  | .abs => absF S args
  | .max => maxF S args
  | .min => minF S args
  | .int => intF S args
  | .str => strF S args
  | .repr => reprF S args
  | .tindex => tindexF S args
  | .tcount => tcountF S args
  | .sortS => sortF S args
  | .upper => upperF S args
  | .sjoin => joinF S args
  | .dict => dictF S args
  | .dget => dgetF S args
  | .bindex => bindexF S args
  | .bcount => bcountF S args
  | .sset => ssetF S args
  | _ => none

def setO (n : Nat) (o : O) : M D := fun s => .ok .non (s.set n o)
def newO (o : O) : M D := fun s => .ok (.ref s.length) (s ++ [o])

def listMF : List D → M D
  | [x] => fun S => match seqOf S x with
    | some xs => newO (.lst xs) S
    | none => .err
  | _ => M.err
def appendF : List D → M D
  | [.ref n, x] => fun S => match S[n]? with
    | some (.lst xs) => if xs.length < line then setO n (.lst (xs ++ [x])) S else .err
    | _ => .err
  | _ => M.err
def popF : List D → M D
  | [.ref n] => fun S => match S[n]? with
    | some (.lst xs) => match xs.getLast? with
      | some y => .ok y (S.set n (.lst xs.dropLast))
      | none => .err
    | _ => .err
  | _ => M.err
def popAtF : List D → M D
  | [.ref n, .int i] => fun S => match S[n]? with
    | some (.lst xs) => if small63 i then match place xs.length i with
      | some j => match xs[j]? with
        | some y => .ok y (S.set n (.lst (xs.eraseIdx j)))
        | none => .err
      | none => .err
      else .err
    | _ => .err
  | _ => M.err
def blt (b : Blt) (args : List D) : M D := match b with
  | .listM => listMF args
  | .append => appendF args
  | .pop => popF args
  | .popAt => popAtF args
  | b => M.opt (blt0 b args)

/-- what is asked of the one whose method is called, ahead of the arguments -/
def mthOk (b : Blt) (x : D) (S : Store) : Option Unit := match b, x with
  | .tindex, .tup _ => some ()
  | .tcount, .tup _ => some ()
  | .upper, .str _ => some ()
  | .sjoin, .str _ => some ()
  | .dget, .dct _ _ => some ()
  | .bindex, x => (lstOf S x).map fun _ => ()
  | .bcount, x => (lstOf S x).map fun _ => ()
  | .append, .ref n => match S[n]? with
    | some (.lst _) => some ()
    | _ => none
  | .pop, .ref n => match S[n]? with
    | some (.lst _) => some ()
    | _ => none
  | .popAt, .ref n => match S[n]? with
    | some (.lst _) => some ()
    | _ => none
  | _, _ => none
/-! ### the text -/
inductive Tg where
  | nm (i : Nat) | tp (is : List Nat)
mutual
inductive E where
  | var (i : Nat) | cst (d : D)
  | bin (o : Bop) (a b : E) | neg (a : E) | not (a : E)
  | cmp (c : Cop) (a b : E) | chain (c c' : Cop) (a b d : E)
  | and (a b : E) | or (a b : E) | ite (c a b : E)
  | tup (es : Es) | lst (es : Es) | lstM (es : Es) | dct (ks vs : Es)
  | idx (a i : E) | slc (a : E) (lo hi : Eo) | rev (a : E)
  | isi (a : E) (t : Ty) | bad | fz (a : E) | repM (a b : E) | addM (a b : E)
  | blt (b : Blt) (es : Es)
  | call (f : Nat) (es : Es) | lstS (es : Es) | mth (b : Blt) (o : E) (es : Es)
  | xval (i : Nat) (n : XN) (f : PySem.Str) | xis (i : Nat) (n : XN) (b : Bool) | lam (g : M D → M D) (b : E)
  | lc (elt : E) (tg : Tg) (it : It) (ifs : Es) (own : List Nat)
inductive Es where
  | nil | cons (e : E) (es : Es) | star (e : E) (es : Es)
inductive Eo where
  | no | so (e : E)
inductive It where
  | seq (e : E) | rng1 (e : E) | rng2 (a b : E) | zip (a b : E) | enum (a : E) | enumT (a : E)
end
mutual
inductive Sm where
  | expr (e : E) | set (i : Nat) (e : E) | setT (is : List Nat) (e : E) | par (is : List Nat) (es : Es)
  | setI (o i e : E) | aug (i : Nat) (o : Bop) (e : E)
  | cond (c : E) (a b : Sms) | loop (tg : Tg) (it : It) (b : Sms) | while (c : E) (b : Sms)
  | ret (e : E) | retN | raise (c : Nat) (e : E) | pass | brk | cont | bad
  | mat (e : E) (cs : Ks)
inductive Sms where
  | nil | cons (s : Sm) (r : Sms)
/-- the cases of a match, texts -/
inductive Ks where
  | nil | cons (x : PySem.Str) (b : Sms) (r : Ks)
end

/-! ### loops -/
inductive Fl where
  | nx | rt (d : D) | bk | ct

def wipe (ρ : Rho) : List Nat → Rho
  | [] => ρ
  | v :: vs => (wipe ρ vs).set v none
def setAll (ρ : Rho) : List Nat → List D → Option Rho
  | [], [] => some ρ
  | i :: is, d :: ds => setAll (ρ.set i (some d)) is ds
  | _, _ => none
def setTg (ρ : Rho) (tg : Tg) (d : D) : Option Rho := match tg with
  | .nm i => some (ρ.set i (some d))
  | .tp is => match d with
    | .tup xs => setAll ρ is xs
    | .wtp xs => setAll ρ is xs
    | _ => none
def mapO (step : D → M (Option D)) : List D → M (List D)
  | [] => M.ret []
  | x :: xs => M.bind (step x) fun o => match o with
    | none => mapO step xs
    | some y => M.bind (mapO step xs) fun ys => M.ret (y :: ys)
def forL (body : D → Rho → M (Fl × Rho)) : List D → Rho → M (Fl × Rho)
  | [], ρ => M.ret (.nx, ρ)
  | x :: xs, ρ => M.bind (body x ρ) fun r => match r.1 with
    | .nx => forL body xs r.2
    | .ct => forL body xs r.2
    | .bk => M.ret (.nx, r.2)
    | .rt d => M.ret (.rt d, r.2)
def whileL (test : Rho → M Bool) (body : Rho → M (Fl × Rho)) : Nat → Rho → M (Fl × Rho)
  | 0, _ => M.err
  | k + 1, ρ => M.bind (test ρ) fun b => if b then M.bind (body ρ) fun r => match r.1 with
      | .nx => whileL test body k r.2
      | .ct => whileL test body k r.2
      | .bk => M.ret (.nx, r.2)
      | .rt d => M.ret (.rt d, r.2)
    else M.ret (.nx, ρ)
def pairs : List D → List D → List D
  | x :: xs, y :: ys => .wtp [x, y] :: pairs xs ys
  | _, _ => []
def numbered : Nat → List D → List D
  | _, [] => []
  | k, x :: xs => .wtp [.int k, x] :: numbered (k + 1) xs
def range (lo hi : Int) : List D := (List.range (hi - lo).toNat).map fun (k : Nat) => D.int (lo + (k : Int))
def small62 (a : Int) : Bool := decide (-(2 ^ 62) ≤ a) && decide (a < 2 ^ 62)

/-! ### the evaluator -/
section
variable (cf : Nat → List D → M D)
def truthM (d : D) : M Bool := M.opt fun S => truth S d
def getV (ρ : Rho) (i : Nat) : M D := match ρ[i]? with
  | some (some d) => M.ret d
  | _ => M.err
def negK : D → M D
  | .int i => M.ret (.int (-i))
  | _ => M.err
def andK (m : M D) : D → M D
  | .bl true => m
  | .bl false => M.ret (.bl false)
  | _ => M.err
def orK (m : M D) : D → M D
  | .bl true => M.ret (.bl true)
  | .bl false => m
  | _ => M.err
def starK : D → M (List D)
  | .tup ys => M.ret ys
  | .lst ys => M.ret ys
  | _ => M.err
def intK : D → M (Option Int)
  | .int i => M.ret (some i)
  | _ => M.err
def chars (x : Str) : List D := x.cps.toList.map fun c => .str ⟨#[c]⟩
def seqK : D → M (List D)
  | .tup xs => M.ret xs
  | .lst xs => M.ret xs
  | .frz xs => M.ret xs
  | .str x => if x.length ≤ line then M.ret (chars x) else M.err
  | _ => M.err
def rngK : D → M (List D)
  | .int n => if small62 n && decide (n.toNat ≤ line) then M.ret (range 0 n) else M.err
  | _ => M.err
def rng2K : D → D → M (List D)
  | .int m, .int n => if small62 m && small62 n && decide ((n - m).toNat ≤ line) then M.ret (range m n) else M.err
  | _, _ => M.err
def zipOf : D → Option (List D)
  | .tup xs => some xs
  | .lst xs => some xs
  | _ => none
def zipK (x y : D) : M (List D) := match zipOf x, zipOf y with
  | some xs, some ys => M.ret (pairs xs ys)
  | _, _ => M.err
def enumK : D → M (List D)
  | .lst xs => M.ret (numbered 0 xs)
  | _ => M.err
def enumTK : D → M (List D)
  | .tup xs => M.ret (numbered 0 xs)
  | _ => M.err
/-- a new list of the store: x * k -/
def repK (x y : D) : M D := fun S => match lstOf S x, y with
  | some xs, .int k => if small63 k && decide (xs.length * k.toNat ≤ line) then newO (.lst (List.replicate k.toNat xs).flatten) S else .err
  | _, _ => .err
/-- a new list of the store: x + y -/
def catK (x y : D) : M D := fun S => match lstOf S x, lstOf S y with
  | some xs, some ys => if xs.length + ys.length ≤ line then newO (.lst (xs ++ ys)) S else .err
  | _, _ => .err
/-- no more changed from here on -/
def fzK : D → M D
  | .ref n => fun S => match S[n]? with
    | some (.lst xs) => .ok (.lst xs) (S.set n (.fzl xs))
    | some (.dct ks vs) => .ok (.dct ks vs) (S.set n (.fzd ks vs))
    | some (.fzl xs) => .ok (.lst xs) S
    | some (.fzd ks vs) => .ok (.dct ks vs) S
    | none => .err
  | d => M.ret d
/-- e.f -/
def xvalK (n : XN) (f : Str) : D → M D
  | .exn n' (some g) v => if n' = n ∧ g = f then M.ret v else M.err
  | _ => M.err
/-- isinstance(e, C) -/
def xisK (n : XN) (b : Bool) : D → M D
  | .exn n' none _ => if n' = n then M.ret (.bl b) else M.err
  | _ => M.err
/-- one turn of a comprehension -/
def lcK (ρ : Rho) (tg : Tg) (own : List Nat) (test : Rho → M Bool) (elt : Rho → M D) (x : D) : M (Option D) := match setTg (wipe ρ own) tg x with
  | some ρ' => M.bind (test ρ') fun k => if k then M.bind (elt ρ') fun y => M.ret (some y) else M.ret none
  | none => M.err
def unpK (ρ : Rho) (is : List Nat) : D → M (Fl × Rho)
  | .tup xs => match setAll ρ is xs with
    | some ρ' => M.ret (.nx, ρ')
    | none => M.err
  | .lst xs => match setAll ρ is xs with
    | some ρ' => M.ret (.nx, ρ')
    | none => M.err
  | _ => M.err
def parK (ρ : Rho) (is : List Nat) (xs : List D) : M (Fl × Rho) := match setAll ρ is xs with
  | some ρ' => M.ret (.nx, ρ')
  | none => M.err
def setIK (ρ : Rho) (v x k : D) : M (Fl × Rho) := fun S => match x, k with
  | .ref n, .int i => match S[n]? with
    | some (.lst xs) => match place xs.length i with
      | some j => .ok (.nx, ρ) (S.set n (.lst (xs.set j v)))
      | none => .err
    | _ => .err
  | _, _ => .err
def augK (ρ : Rho) (i : Nat) (o : Bop) : D → D → M (Fl × Rho)
  | .int a, .int b => match intOp o a b with
    | some k => M.ret (.nx, ρ.set i (some (.int k)))
    | none => M.err
  | _, _ => M.err
def loopK (tg : Tg) (body : Rho → M (Fl × Rho)) (x : D) (ρ : Rho) : M (Fl × Rho) := match setTg ρ tg x with
  | some ρ' => body ρ'
  | none => M.err
def nextK (m : Rho → M (Fl × Rho)) : Fl × Rho → M (Fl × Rho)
  | (.nx, ρ) => m ρ
  | (f, ρ) => M.ret (f, ρ)
mutual
def ev : E → Rho → M D
  | .var i, ρ => getV ρ i
  | .cst d, _ => M.ret d
  | .bin o a b, ρ => M.bind (ev a ρ) fun x => M.bind (ev b ρ) fun y => M.opt (bop o x y)
  | .neg a, ρ => M.bind (ev a ρ) negK
  | .not a, ρ => M.bind (ev a ρ) fun x => M.bind (truthM x) fun b => M.ret (.bl (!b))
  | .cmp c a b, ρ => M.bind (ev a ρ) fun x => M.bind (ev b ρ) fun y => M.bind (M.opt (cop c x y)) fun k => M.ret (.bl k)
  | .chain c c' a b d, ρ => M.bind (ev a ρ) fun x => M.bind (ev b ρ) fun y => M.bind (M.opt (cop c x y)) fun k =>
      if k then M.bind (ev d ρ) fun z => M.bind (M.opt (cop c' y z)) fun k => M.ret (.bl k) else M.ret (.bl false)
  | .and a b, ρ => M.bind (ev a ρ) (andK (ev b ρ))
  | .or a b, ρ => M.bind (ev a ρ) (orK (ev b ρ))
  | .ite c a b, ρ => M.bind (ev c ρ) fun x => M.bind (truthM x) fun k => if k then ev a ρ else ev b ρ
  | .tup es, ρ => M.bind (evs es ρ) fun xs => M.ret (.tup xs)
  | .lst es, ρ => M.bind (evs es ρ) fun xs => M.ret (.lst xs)
  | .lstM es, ρ => M.bind (evs es ρ) fun xs => newO (.lst xs)
  | .dct ks vs, ρ => M.bind (evs ks ρ) fun a => M.bind (evs vs ρ) fun b => M.ret (.dct a b)
  | .idx a i, ρ => M.bind (ev a ρ) fun x => M.bind (ev i ρ) fun k => M.opt fun S => idxD S x k
  | .slc a lo hi, ρ => M.bind (ev a ρ) fun x => M.bind (evo lo ρ) fun l => M.bind (evo hi ρ) fun h => M.opt fun S => slcD S x l h
  | .rev a, ρ => M.bind (ev a ρ) fun x => M.opt fun S => revD S x
  | .isi a t, ρ => M.bind (ev a ρ) fun x => M.bind (M.opt fun S => isiD S t x) fun k => M.ret (.bl k)
  | .bad, _ => M.err
  | .fz a, ρ => M.bind (ev a ρ) fzK
  | .repM a b, ρ => M.bind (ev a ρ) fun x => M.bind (ev b ρ) fun y => repK x y
  | .addM a b, ρ => M.bind (ev a ρ) fun x => M.bind (ev b ρ) fun y => catK x y
  | .xval i n f, ρ => M.bind (getV ρ i) (xvalK n f)
  | .xis i n b, ρ => M.bind (getV ρ i) (xisK n b)
  | .lam g b, ρ => M.nox (g (ev b ρ))
  | .blt b es, ρ => M.bind (evs es ρ) fun xs => blt b xs
  | .call f es, ρ => M.bind (evs es ρ) fun xs => cf f xs
  | .mth b o es, ρ => M.bind (ev o ρ) fun x => M.bind (M.opt (mthOk b x)) fun _ => M.bind (evs es ρ) fun xs => blt b (x :: xs)
  | .lstS es, ρ => M.bind (evs es ρ) fun xs => if xs.length ≤ line then M.ret (.lst xs) else M.err
  | .lc elt tg it ifs own, ρ => M.bind (evi it ρ) fun xs => M.bind (M.nox (mapO (lcK ρ tg own (fun ρ' => evts ifs ρ') (fun ρ' => ev elt ρ')) xs)) fun ys => M.ret (.lst ys)
def evs : Es → Rho → M (List D)
  | .nil, _ => M.ret []
  | .cons e es, ρ => M.bind (ev e ρ) fun x => M.bind (evs es ρ) fun xs => M.ret (x :: xs)
  | .star e es, ρ => M.bind (ev e ρ) fun x => M.bind (starK x) fun ys => M.bind (evs es ρ) fun xs => M.ret (ys ++ xs)
/-- the tests of a comprehension -/
def evts : Es → Rho → M Bool
  | .nil, _ => M.ret true
  | .cons e es, ρ => M.bind (ev e ρ) fun x => M.bind (truthM x) fun k => if k then evts es ρ else M.ret false
  | .star _ _, _ => M.err
def evo : Eo → Rho → M (Option Int)
  | .no, _ => M.ret none
  | .so e, ρ => M.bind (ev e ρ) intK
def evi : It → Rho → M (List D)
  | .seq e, ρ => M.bind (ev e ρ) seqK
  | .rng1 e, ρ => M.bind (ev e ρ) rngK
  | .rng2 a b, ρ => M.bind (ev a ρ) fun x => M.bind (ev b ρ) (rng2K x)
  | .zip a b, ρ => M.bind (ev a ρ) fun x => M.bind (ev b ρ) (zipK x)
  | .enum a, ρ => M.bind (ev a ρ) enumK
  | .enumT a, ρ => M.bind (ev a ρ) enumTK
end
def evT (e : E) (ρ : Rho) : M Bool := M.bind (ev cf e ρ) truthM

variable (w : Nat)
mutual
def exec : Sm → Rho → M (Fl × Rho)
  | .expr e, ρ => M.bind (ev cf e ρ) fun _ => M.ret (.nx, ρ)
  | .set i e, ρ => M.bind (ev cf e ρ) fun x => M.ret (.nx, ρ.set i (some x))
  | .setT is e, ρ => M.bind (ev cf e ρ) (unpK ρ is)
  | .par is es, ρ => M.bind (evs cf es ρ) (parK ρ is)
  | .setI o i e, ρ => M.bind (ev cf e ρ) fun v => M.bind (ev cf o ρ) fun x => M.bind (ev cf i ρ) fun k => setIK ρ v x k
  | .aug i o e, ρ => M.bind (getV ρ i) fun x => M.bind (ev cf e ρ) (augK ρ i o x)
  | .cond c a b, ρ => M.bind (evT cf c ρ) fun k => if k then execs a ρ else execs b ρ
  | .loop tg it b, ρ => M.bind (evi cf it ρ) fun xs => forL (loopK tg fun ρ => execs b ρ) xs ρ
  | .while c b, ρ => whileL (fun ρ => evT cf c ρ) (fun ρ => execs b ρ) w ρ
  | .ret e, ρ => M.bind (ev cf e ρ) fun x => M.ret (.rt x, ρ)
  | .retN, ρ => M.ret (.rt .non, ρ)
  | .raise c e, ρ => M.bind (ev cf e ρ) fun x => fun S => .exc ⟨c, x⟩ S
  | .bad, _ => M.err
  | .pass, ρ => M.ret (.nx, ρ)
  | .brk, ρ => M.ret (.bk, ρ)
  | .cont, ρ => M.ret (.ct, ρ)
  | .mat e cs, ρ => M.bind (ev cf e ρ) fun d => execk cs d ρ
def execs : Sms → Rho → M (Fl × Rho)
  | .nil, ρ => M.ret (.nx, ρ)
  | .cons s r, ρ => M.bind (exec s ρ) (nextK fun ρ => execs r ρ)
def execk : Ks → D → Rho → M (Fl × Rho)
  | .nil, _, ρ => M.ret (.nx, ρ)
  | .cons x b r, d, ρ => match d with
    | .str z => if z = x then execs b ρ else execk r (.str z) ρ
    | _ => M.err
end
end

structure Fn where
  arity : Nat
  star : Bool
  slots : Nat
  body : Sms
/-- the parameters' values -/
def bindA (fn : Fn) (args : List D) : Option (List D) :=
  if fn.star then (if fn.arity ≤ args.length ∧ args.length ≤ line then some (args.take fn.arity ++ [.tup (args.drop fn.arity)]) else none)
  else if args.length = fn.arity then some args else none
def runBody (cf : Nat → List D → M D) (w : Nat) (fn : Fn) (args : List D) : M D :=
  M.bind (execs cf w fn.body (args.map some ++ List.replicate (fn.slots - args.length) none)) fun p => match p.1 with
    | .nx => M.ret .non
    | .rt d => M.ret d
    | _ => M.err
def callI (prog : List Fn) (w : Nat) : Nat → Nat → List D → M D
  | 0, _, _ => M.err
  | k + 1, f, args => match prog[f]? with
    | some fn => match bindA fn args with
      | some as => runBody (callI prog w k) w fn as
      | none => M.err
    | none => M.err
end Ln

set_option linter.all false
set_option maxRecDepth 100000
/-! Ln's soundness: the evaluator's relation to the hand layer's judgements. -/
namespace LnS
open PySem L2
open Ln (D O Store Rho M R Ex)

abbrev Frag := PySem.W.Frag
/-- the tables of code objects that a law's lambdas stand in, and the name that theirs bear -/
class Tbs where
  tabs : List (Addr × Str)
variable [Tbs]

/-- where the store's objects stand (h), and lists that are being made (x) -/
structure Al where
  h : List Addr
  x : List Addr
  /-- those of h that are frozen -/
  z : List Addr
  /-- the tables of code objects, and the name that theirs bear -/
  t : List (Addr × Str)
def Al.has (α : Al) (a : Addr) : Prop := (a ∈ α.h ∧ a ∉ α.z) ∨ a ∈ α.x

/-! ### values -/
/-- a list that is read alone -/
def Frz (K : Frag) (H : Hp) (α : Al) (a : Addr) (vs : List V) : Prop :=
  (¬ α.has a ∧ Rd H a (.lst vs)) ∨ ∃ (o : Obj) (its : Array Value) (n : Nat), K.lookup a = some o ∧ o.cls = .type "list" ∧ o.dict = none ∧ o.data = .seq its n ∧ its.size ≤ sizeLine ∧ Vals vs its.toList
theorem Frz.sq {K : Frag} {H : Hp} {α : Al} {a : Addr} {vs : List V} (h : Frz K H α a vs) : SqL K H a vs := h.imp (·.2) id
/-- a tuple whose object is known to have no dict of its own -/
def TupS (K : Frag) (H : Hp) (a : Addr) (vs : List V) : Prop :=
  (∃ o : Obj, o.dict = none ∧ H a = some (.frz o (.tup vs))) ∨ ∃ (o : Obj) (its : Array Value) (n : Nat), o.dict = none ∧ K.lookup a = some o ∧ o.cls = .type "tuple" ∧ o.data = .seq its n ∧ its.size ≤ sizeLine ∧ Vals vs its.toList
theorem TupS.sq {K : Frag} {H : Hp} {a : Addr} {vs : List V} (h : TupS K H a vs) : SqT K H a vs := h.imp (fun ⟨o, _, e⟩ => .inr ⟨o, e⟩) fun ⟨o, its, n, _, h⟩ => ⟨o, its, n, h⟩
mutual
inductive RD (K : Frag) (H : Hp) (α : Al) : D → V → Prop
  | non : RD K H α .non .non
  | bl (b : Bool) : RD K H α (.bl b) (.bl b)
  | int (i : Int) : RD K H α (.int i) (.int i)
  | str (x : Str) : RD K H α (.str x) (.str x)
  | tup {a : Addr} {xs : List D} {vs : List V} : TupS K H a vs → RDs K H α xs vs → RD K H α (.tup xs) (.ref a)
  | wtp {a : Addr} {xs : List D} {vs : List V} : SqT K H a vs → RDs K H α xs vs → RD K H α (.wtp xs) (.ref a)
  | lst {a : Addr} {xs : List D} {vs : List V} : ¬ α.has a → H a = some (.lst vs) → RDs K H α xs vs → RD K H α (.lst xs) (.ref a)
  | frz {a : Addr} {xs : List D} {vs : List V} : Frz K H α a vs → RDs K H α xs vs → RD K H α (.frz xs) (.ref a)
  | dct {a : Addr} {ks vs : List D} {kvs : List (Key × V)} : ¬ α.has a → H a = some (.dK kvs) → RDs K H α ks (kvs.map fun p => kV p.1) → RDs K H α vs (kvs.map (·.2)) → RD K H α (.dct ks vs) (.ref a)
  | ref {n : Nat} {a : Addr} : α.h[n]? = some a → RD K H α (.ref n) (.ref a)
  | exn0 {n : Ln.XN} {d : D} : n.d = none → RD K H α (.exn n none d) (.ref n.a)
  | exn1 {n : Ln.XN} {f : Str} {d : D} {y : V} {dd : Addr} {fs : List (Str × V)} : n.d = some dd → ¬ α.has dd → H dd = some (.xd fs) → fs.lookup f = some y → RD K H α d y → RD K H α (.exn n (some f) d) (.ref n.a)
inductive RDs (K : Frag) (H : Hp) (α : Al) : List D → List V → Prop
  | nil : RDs K H α [] []
  | cons {d : D} {ds : List D} {v : V} {vs : List V} : RD K H α d v → RDs K H α ds vs → RDs K H α (d :: ds) (v :: vs)
end

/-- what may be relied on: all that is tracked but the mutable things of the store stands -/
structure Ext (α : Al) (H H' : Hp) : Prop where
  keep : ∀ a o, H a = some o → (a ∈ α.h → a ∉ α.z → ¬ Mut (some o)) → (∀ ps, o ≠ .tbl ps) → H' a = some o

/-- free, or a table of code objects -/
def Fr0 (H : Hp) (p : Addr) : Prop := ∀ o, H p = some o → ∃ ps, o = .tbl ps
theorem fr0 {H : Hp} {p : Addr} (h : H p = none) : Fr0 H p := fun o e => by rw [h] at e; cases e
theorem Ext.refl {α : Al} {H : Hp} : Ext α H H := ⟨fun _ _ h _ _ => h⟩
theorem Ext.sqT {K : Frag} {α : Al} {H H' : Hp} (e : Ext α H H') {a : Addr} {xs : List V} (h : SqT K H a xs) : SqT K H' a xs := by
  rcases h with (h | ⟨o, h⟩) | h
  · exact .inl (.inl (e.keep _ _ h (fun _ _ z => z) fun _ z => nomatch z))
  · exact .inl (.inr ⟨o, e.keep _ _ h (fun _ _ z => z) fun _ z => nomatch z⟩)
  · exact .inr h
theorem Ext.tupS {K : Frag} {α : Al} {H H' : Hp} (e : Ext α H H') {a : Addr} {xs : List V} (h : TupS K H a xs) : TupS K H' a xs := h.imp (fun ⟨o, d, q⟩ => ⟨o, d, e.keep _ _ q (fun _ _ z => z) fun _ z => nomatch z⟩) id
theorem Ext.sqL {K : Frag} {α : Al} {H H' : Hp} (e : Ext α H H') {a : Addr} {xs : List V} (n : ¬ α.has a) (h : SqL K H a xs) : SqL K H' a xs := by
  have n' : a ∈ α.h → a ∉ α.z → False := fun z w => n (.inl ⟨z, w⟩)
  rcases h with (h | ⟨o, h⟩) | h
  · exact .inl (.inl (e.keep _ _ h (fun z w => (n' z w).elim) fun _ z => nomatch z))
  · exact .inl (.inr ⟨o, e.keep _ _ h (fun z w => (n' z w).elim) fun _ z => nomatch z⟩)
  · exact .inr h

/-- α grows to α', the new ones were free -/
structure Grow (α : Al) (H : Hp) (α' : Al) : Prop where
  pre : α.h <+: α'.h
  sx : ∀ a ∈ α.x, a ∈ α'.x
  sn : ∀ a ∈ α'.x, a ∈ α.x ∨ Fr0 H a
  new : ∀ p ∈ α'.h, p ∉ α.h → Fr0 H p
  zz : ∀ a ∈ α.z, a ∈ α'.z
  tt : α'.t = α.t
theorem Grow.refl {α : Al} {H : Hp} : Grow α H α := ⟨List.prefix_refl _, fun _ h => h, fun _ h => .inl h, fun p h n => absurd h n, fun _ h => h, rfl⟩
theorem Grow.get {α α' : Al} {H : Hp} (g : Grow α H α') {n : Nat} {a : Addr} (h : α.h[n]? = some a) : α'.h[n]? = some a := by
  obtain ⟨t, e⟩ := g.pre
  rw [← e, List.getElem?_append_left (List.getElem?_eq_some_iff.mp h).1]
  exact h
theorem Grow.notin {α α' : Al} {H : Hp} (g : Grow α H α') {a : Addr} {o : HO} (n : ¬ α.has a) (h : H a = some o) (ho : ∀ ps, o ≠ .tbl ps := by intro ps z; cases z) : ¬ α'.has a := fun q => by
  rcases q with ⟨q, q'⟩ | q
  · obtain ⟨ps, e⟩ := g.new a q (fun z => n (.inl ⟨z, fun w => q' (g.zz a w)⟩)) o h
    exact ho ps e
  · rcases g.sn a q with q | q
    · exact n (.inr q)
    · obtain ⟨ps, e⟩ := q o h
      exact ho ps e

mutual
theorem RD.mono {K : Frag} {H H' : Hp} {α α' : Al} (g : Grow α H α') (e : Ext α H H') : ∀ {d : D} {v : V}, RD K H α d v → RD K H' α' d v
  | _, _, .non => .non
  | _, _, .bl b => .bl b
  | _, _, .int i => .int i
  | _, _, .str x => .str x
  | _, _, .tup h r => .tup (e.tupS h) (RDs.mono g e r)
  | _, _, .wtp h r => .wtp (e.sqT h) (RDs.mono g e r)
  | _, _, .lst n h r => .lst (g.notin n h) (e.keep _ _ h (fun z w => absurd (.inl ⟨z, w⟩) n) fun _ z => nomatch z) (RDs.mono g e r)
  | _, _, .frz h r => .frz (h.imp (fun ⟨n, h⟩ => h.elim (fun h => ⟨g.notin n h, .inl (e.keep _ _ h (fun z w => absurd (.inl ⟨z, w⟩) n) fun _ z => nomatch z)⟩) fun ⟨o, h⟩ => ⟨g.notin n h, .inr ⟨o, e.keep _ _ h (fun z w => absurd (.inl ⟨z, w⟩) n) fun _ z => nomatch z⟩⟩) id) (RDs.mono g e r)
  | _, _, .dct n h r1 r2 => .dct (g.notin n h) (e.keep _ _ h (fun z w => absurd (.inl ⟨z, w⟩) n) fun _ z => nomatch z) (RDs.mono g e r1) (RDs.mono g e r2)
  | _, _, .ref h => .ref (g.get h)
  | _, _, .exn0 h => .exn0 h
  | _, _, .exn1 h n k l r => .exn1 h (g.notin n k) (e.keep _ _ k (fun z w => absurd (.inl ⟨z, w⟩) n) fun _ z => nomatch z) l (RD.mono g e r)
theorem RDs.mono {K : Frag} {H H' : Hp} {α α' : Al} (g : Grow α H α') (e : Ext α H H') : ∀ {ds : List D} {vs : List V}, RDs K H α ds vs → RDs K H' α' ds vs
  | _, _, .nil => .nil
  | _, _, .cons r t => .cons (RD.mono g e r) (RDs.mono g e t)
end

/-! ### the store -/
def RO (K : Frag) (H : Hp) (α : Al) (a : Addr) : O → Prop
  | .lst xs => ∃ vs, H a = some (.lst vs) ∧ RDs K H α xs vs
  | .dct ks vs => ∃ kvs : List (Key × V), H a = some (.dK kvs) ∧ RDs K H α ks (kvs.map fun p => kV p.1) ∧ RDs K H α vs (kvs.map (·.2))
  | .fzl xs => ∃ vs, H a = some (.lst vs) ∧ RDs K H α xs vs
  | .fzd ks vs => ∃ kvs : List (Key × V), H a = some (.dK kvs) ∧ RDs K H α ks (kvs.map fun p => kV p.1) ∧ RDs K H α vs (kvs.map (·.2))
/-- the table of modules is told apart from all that is new; the tables of code objects are right -/
def SysM (T : List (Addr × Str)) (H : Hp) : Prop := (∃ φ, H sysModules = some (.ext φ)) ∧ LamX.Tabs T H
theorem tabs_keep {T : List (Addr × Str)} {H H' : Hp} (t : LamX.Tabs T H) (e : ∀ b o, H b = some o → ((∃ ps, o = .tbl ps) ∨ ∃ φ, o = .ext φ) → H' b = some o) : LamX.Tabs T H' := fun p hp => by
  obtain ⟨ps, h1, h2, h3⟩ := t p hp
  refine ⟨ps, e _ _ h1 (.inl ⟨ps, rfl⟩), h2, fun pos cv hc => ?_⟩
  obtain ⟨c, e1, e2⟩ := h3 pos cv hc
  exact ⟨c, e1, e _ _ e2 (.inr ⟨_, rfl⟩)⟩
/-- what is no mark of ours -/
def Pln (u : HO) : Prop := (∀ φ, u ≠ .ext φ) ∧ ∀ ps, u ≠ .tbl ps
structure RS (K : Frag) (H : Hp) (α : Al) (S : Store) : Prop where
  sm : SysM Tbs.tabs H
  len : α.h.length = S.length
  nd : α.h.Nodup
  dis : ∀ a ∈ α.h, a ∉ α.x
  scr : ∀ a ∈ α.x, ∃ vs, H a = some (.lst vs)
  at_ : ∀ (n : Nat) (a : Addr) (o : O), α.h[n]? = some a → S[n]? = some o → RO K H α a o
  fz : ∀ (n : Nat) (a : Addr) (o : O), α.h[n]? = some a → S[n]? = some o → (a ∈ α.z ↔ o.isFz = true)
  zh : ∀ a ∈ α.z, a ∈ α.h
structure RE (K : Frag) (H : Hp) (α : Al) (ρ : Rho) (σ : L2.St) : Prop where
  len : ρ.length = σ.length
  get : ∀ (i : Nat) (d : D), ρ[i]? = some (some d) → ∃ v, σ[i]? = some (some v) ∧ RD K H α d v
structure After (K : Frag) (α : Al) (H : Hp) (α' : Al) (H' : Hp) (S' : Store) : Prop where
  grow : Grow α H α'
  ext : Ext α H H'
  rs : RS K H' α' S'

theorem SysM.put {T : List (Addr × Str)} {H : Hp} {p : Addr} {o u : HO} (h : SysM T H) (hp : H p = none ∨ (H p = some u ∧ Pln u)) : SysM T (upd H p o) := by
  have key : ∀ b w, H b = some w → ((∃ ps, w = .tbl ps) ∨ ∃ φ, w = .ext φ) → upd H p o b = some w := fun b w e hw => by
    rw [upd_ne (fun z => ?_)]
    · exact e
    · rw [← z, e] at hp
      rcases hp with hp | ⟨hp, n1, n2⟩
      · cases hp
      · cases hp
        rcases hw with ⟨ps, rfl⟩ | ⟨φ, rfl⟩
        · exact n2 ps rfl
        · exact n1 φ rfl
  obtain ⟨⟨φ, e⟩, t⟩ := h
  exact ⟨⟨φ, key _ _ e (.inr ⟨φ, rfl⟩)⟩, tabs_keep t key⟩
theorem RS.mut' {K : Frag} {H : Hp} {α : Al} {S : Store} (r : RS K H α S) {a : Addr} (h : a ∈ α.h ∨ a ∈ α.x) : ∃ o, H a = some o ∧ Mut (some o) ∧ Pln o := by
  rcases h with h | h
  · obtain ⟨n, e⟩ := List.mem_iff_getElem?.mp h
    have hn : n < S.length := by rw [← r.len]; exact (List.getElem?_eq_some_iff.mp e).1
    have q := r.at_ n a S[n] e (List.getElem?_eq_getElem hn)
    cases hS : S[n] with
    | lst xs =>
      rw [hS] at q
      obtain ⟨vs, h, _⟩ := q
      exact ⟨_, h, trivial, fun φ z => (nomatch z), fun φ z => nomatch z⟩
    | dct ks vs =>
      rw [hS] at q
      obtain ⟨kvs, h, _⟩ := q
      exact ⟨_, h, trivial, fun φ z => (nomatch z), fun φ z => nomatch z⟩
    | fzl xs =>
      rw [hS] at q
      obtain ⟨vs, h, _⟩ := q
      exact ⟨_, h, trivial, fun φ z => (nomatch z), fun φ z => nomatch z⟩
    | fzd ks vs =>
      rw [hS] at q
      obtain ⟨kvs, h, _⟩ := q
      exact ⟨_, h, trivial, fun φ z => (nomatch z), fun φ z => nomatch z⟩
  · obtain ⟨vs, h⟩ := r.scr a h
    exact ⟨_, h, trivial, fun φ z => (nomatch z), fun φ z => nomatch z⟩
theorem RS.mut {K : Frag} {H : Hp} {α : Al} {S : Store} (r : RS K H α S) {a : Addr} (h : α.has a) : ∃ o, H a = some o ∧ Mut (some o) ∧ Pln o := r.mut' (h.imp (·.1) id)
theorem RS.free' {K : Frag} {H : Hp} {α : Al} {S : Store} (r : RS K H α S) {a : Addr} (h : H a = none) : ¬ (a ∈ α.h ∨ a ∈ α.x) := fun z => by
  obtain ⟨o, e, _⟩ := r.mut' z
  rw [h] at e; cases e
theorem RS.free {K : Frag} {H : Hp} {α : Al} {S : Store} (r : RS K H α S) {a : Addr} (h : H a = none) : ¬ α.has a := fun z => r.free' h (z.imp (·.1) id)
theorem After.refl {K : Frag} {α : Al} {H : Hp} {S : Store} (r : RS K H α S) : After K α H α H S := ⟨.refl, .refl, r⟩
theorem After.trans {K : Frag} {α α1 α2 : Al} {H H1 H2 : Hp} {S1 S2 : Store} (a : After K α H α1 H1 S1) (b : After K α1 H1 α2 H2 S2) : After K α H α2 H2 S2 where
  grow := by
    have back : ∀ p, Fr0 H1 p → Fr0 H p := fun p q o e => by
      by_cases ht : ∃ ps, o = .tbl ps
      · exact ht
      · by_cases hp : p ∈ α.h
        · obtain ⟨u, e1, _, n⟩ := a.rs.mut' (.inl (a.grow.pre.subset hp))
          obtain ⟨ps, z⟩ := q u e1
          exact absurd z (n.2 ps)
        · exact q o (a.ext.keep p o e (fun z _ => absurd z hp) fun ps z => ht ⟨ps, z⟩)
    refine ⟨a.grow.pre.trans b.grow.pre, fun p hp => b.grow.sx p (a.grow.sx p hp), fun p hp => (b.grow.sn p hp).elim (fun z => a.grow.sn p z) fun z => .inr (back p z), fun p hp hn => ?_, fun p hp => b.grow.zz p (a.grow.zz p hp), b.grow.tt.trans a.grow.tt⟩
    by_cases h1 : p ∈ α1.h
    · exact a.grow.new p h1 hn
    · exact back p (b.grow.new p hp h1)
  ext := ⟨fun c o h hm ht => b.ext.keep c o (a.ext.keep c o h hm ht) (fun hc nz => by
    by_cases h0 : c ∈ α.h
    · exact hm h0 fun z => nz (a.grow.zz c z)
    · obtain ⟨ps, z⟩ := a.grow.new c hc h0 o h
      exact (ht ps z).elim) ht⟩
  rs := b.rs
theorem After.rd {K : Frag} {α α1 : Al} {H H1 : Hp} {S1 : Store} (a : After K α H α1 H1 S1) {d : D} {v : V} (r : RD K H α d v) : RD K H1 α1 d v := r.mono a.grow a.ext
theorem After.rds {K : Frag} {α α1 : Al} {H H1 : Hp} {S1 : Store} (a : After K α H α1 H1 S1) {ds : List D} {vs : List V} (r : RDs K H α ds vs) : RDs K H1 α1 ds vs := r.mono a.grow a.ext
theorem After.re {K : Frag} {α α1 : Al} {H H1 : Hp} {S1 : Store} (a : After K α H α1 H1 S1) {ρ : Rho} {σ : L2.St} (r : RE K H α ρ σ) : RE K H1 α1 ρ σ :=
  ⟨r.len, fun i d h => let ⟨v, h1, h2⟩ := r.get i d h; ⟨v, h1, a.rd h2⟩⟩
theorem RO.mono {K : Frag} {H H' : Hp} {α α' : Al} (g : Grow α H α') (e : Ext α H H') {a : Addr} {o : O} (k : ∀ u, H a = some u → H' a = some u) (r : RO K H α a o) : RO K H' α' a o := by
  cases o with
  | lst xs => obtain ⟨vs, h, q⟩ := r; exact ⟨vs, k _ h, q.mono g e⟩
  | dct ks vs => obtain ⟨kvs, h, q1, q2⟩ := r; exact ⟨kvs, k _ h, q1.mono g e, q2.mono g e⟩
  | fzl xs => obtain ⟨vs, h, q⟩ := r; exact ⟨vs, k _ h, q.mono g e⟩
  | fzd ks vs => obtain ⟨kvs, h, q1, q2⟩ := r; exact ⟨kvs, k _ h, q1.mono g e, q2.mono g e⟩
/-- a new untracked place takes o -/
theorem ext_new {α : Al} {H : Hp} {p : Addr} {o : HO} (h : H p = none) : Ext α H (upd H p o) := ⟨fun a u e _ _ => by rw [upd_ne (ne_of_none e h)]; exact e⟩
theorem scr_new {α : Al} {H : Hp} {p : Addr} {o : HO} (h : H p = none) (r : ∀ a ∈ α.x, ∃ vs, H a = some (.lst vs)) : ∀ a ∈ α.x, ∃ vs, upd H p o a = some (.lst vs) := fun a ha => by
  obtain ⟨vs, e⟩ := r a ha
  exact ⟨vs, by rw [upd_ne (ne_of_none e h)]; exact e⟩
/-- a new object that the store doesn't know -/
theorem After.new {K : Frag} {α : Al} {H : Hp} {S : Store} (r : RS K H α S) {p : Addr} {o : HO} (h : H p = none) : After K α H α (upd H p o) S := by
  refine ⟨.refl, ext_new h, r.sm.put (u := .lst []) (.inl h), r.len, r.nd, r.dis, scr_new h r.scr, fun n a u e1 e2 => ?_, r.fz, r.zh⟩
  · refine (r.at_ n a u e1 e2).mono .refl (ext_new h) fun w hw => ?_
    rw [upd_ne (ne_of_none hw h)]
    exact hw
/-- a new object of the store -/
theorem After.alloc {K : Frag} {α : Al} {H : Hp} {S : Store} (r : RS K H α S) {p : Addr} {xs : List D} {vs : List V} (h : H p = none) (q : RDs K H α xs vs) :
    After K α H ⟨α.h ++ [p], α.x, α.z, α.t⟩ (upd H p (.lst vs)) (S ++ [.lst xs]) ∧ RD K (upd H p (.lst vs)) ⟨α.h ++ [p], α.x, α.z, α.t⟩ (.ref S.length) (.ref p) := by
  have hp : p ∉ α.h := fun z => r.free' h (.inl z)
  have g : Grow α H ⟨α.h ++ [p], α.x, α.z, α.t⟩ := ⟨List.prefix_append _ _, fun _ h => h, fun _ h => .inl h, fun b hb hn => by
    rcases List.mem_append.mp hb with z | z
    · exact absurd z hn
    · rw [List.mem_singleton.mp z]; exact fr0 h, fun _ h => h, rfl⟩
  refine ⟨⟨g, ext_new h, r.sm.put (u := .lst []) (.inl h), ?_, ?_, ?_, scr_new h r.scr, fun n a u e1 e2 => ?_, fun n a u e1 e2 => ?_, fun a ha => List.mem_append_left _ (r.zh a ha)⟩, .ref ?_⟩
  · simp only [List.length_append, r.len]; rfl
  · exact List.nodup_append.mpr ⟨r.nd, by simp, fun a ha b hb => by rw [List.mem_singleton.mp hb]; exact fun z => hp (z ▸ ha)⟩
  · intro a ha
    rcases List.mem_append.mp ha with z | z
    · exact r.dis a z
    · rw [List.mem_singleton.mp z]; exact fun z => r.free' h (.inr z)
  · simp only [] at e1
    by_cases hn : n < S.length
    · rw [List.getElem?_append_left (by rw [r.len]; exact hn)] at e1
      rw [List.getElem?_append_left hn] at e2
      refine (r.at_ n a u e1 e2).mono g (ext_new h) fun w hw => ?_
      rw [upd_ne (ne_of_none hw h)]
      exact hw
    · have hn' : n = S.length := by
        have := (List.getElem?_eq_some_iff.mp e2).1
        rw [List.length_append, List.length_singleton] at this
        omega
      subst hn'
      rw [List.getElem?_append_right (by rw [r.len]; exact Nat.le_refl _), r.len, Nat.sub_self] at e1
      rw [List.getElem?_append_right (Nat.le_refl _), Nat.sub_self] at e2
      cases e1
      cases e2
      exact ⟨vs, upd_same, q.mono g (ext_new h)⟩
  · simp only [] at e1
    by_cases hn : n < S.length
    · rw [List.getElem?_append_left (by rw [r.len]; exact hn)] at e1
      rw [List.getElem?_append_left hn] at e2
      exact r.fz n a u e1 e2
    · have hn' : n = S.length := by
        have := (List.getElem?_eq_some_iff.mp e2).1
        rw [List.length_append, List.length_singleton] at this
        omega
      subst hn'
      rw [List.getElem?_append_right (by rw [r.len]; exact Nat.le_refl _), r.len, Nat.sub_self] at e1
      rw [List.getElem?_append_right (Nat.le_refl _), Nat.sub_self] at e2
      cases e1
      cases e2
      exact ⟨fun z => absurd (r.zh _ z) hp, fun z => nomatch z⟩
  · simp only []
    rw [List.getElem?_append_right (by rw [r.len]; exact Nat.le_refl _), r.len, Nat.sub_self]
    rfl
/-- an object of the store is changed -/
theorem After.put {K : Frag} {α : Al} {H : Hp} {S : Store} (r : RS K H α S) {n : Nat} {p : Addr} {xs : List D} {vs : List V} {o0 : O} (h : α.h[n]? = some p) (hS : S[n]? = some o0) (hf : o0.isFz = false) (q : RDs K H α xs vs) :
    After K α H α (upd H p (.lst vs)) (S.set n (.lst xs)) := by
  have hz : p ∉ α.z := fun z => by rw [(r.fz n p o0 h hS).mp z] at hf; cases hf
  have hm : p ∈ α.h := List.mem_of_getElem? h
  obtain ⟨o0, h0, m0, x0⟩ := r.mut' (.inl hm)
  have e : Ext α H (upd H p (.lst vs)) := ⟨fun a o ho hk _ => by
    by_cases ha : a = p
    · subst ha
      rw [h0] at ho; cases ho
      exact absurd m0 (hk hm hz)
    · rw [upd_ne ha]; exact ho⟩
  refine ⟨.refl, e, r.sm.put (.inr ⟨h0, x0⟩), ?_, r.nd, r.dis, fun a ha => ?_, fun k a u e1 e2 => ?_, fun k a u e1 e2 => ?_, r.zh⟩
  · rw [List.length_set]; exact r.len
  · obtain ⟨ws, e3⟩ := r.scr a ha
    exact ⟨ws, by rw [upd_ne (fun z : a = p => r.dis p hm (z ▸ ha))]; exact e3⟩
  · by_cases hk : k = n
    · subst hk
      have hl := (List.getElem?_eq_some_iff.mp e2).1
      rw [List.length_set] at hl
      rw [List.getElem?_set_self hl] at e2
      rw [h] at e1
      cases e1; cases e2
      exact ⟨vs, upd_same, q.mono .refl e⟩
    · rw [List.getElem?_set_ne (Ne.symm hk)] at e2
      have ha : a ≠ p := fun z => by
        subst z
        have h1 := List.getElem?_eq_some_iff.mp e1
        have h2 := List.getElem?_eq_some_iff.mp h
        exact hk ((List.getElem_inj r.nd).mp (h1.2.trans h2.2.symm))
      refine (r.at_ k a u e1 e2).mono .refl e fun w hw => ?_
      rw [upd_ne ha]
      exact hw
  · by_cases hk : k = n
    · subst hk
      have hl := (List.getElem?_eq_some_iff.mp e2).1
      rw [List.length_set] at hl
      rw [List.getElem?_set_self hl] at e2
      rw [h] at e1
      cases e1; cases e2
      exact ⟨fun z => absurd z hz, fun z => nomatch z⟩
    · rw [List.getElem?_set_ne (Ne.symm hk)] at e2
      exact r.fz k a u e1 e2
/-- an object of the store is frozen -/
theorem After.freeze {K : Frag} {α : Al} {H : Hp} {S : Store} (r : RS K H α S) {n : Nat} {p : Addr} {o o' : O} (h : α.h[n]? = some p) (hS : S[n]? = some o) (hf : o'.isFz = true) (q : RO K H α p o') (hm : ∀ α' : Al, Grow α H α' → RO K H α p o' → RO K H α' p o') :
    After K α H ⟨α.h, α.x, p :: α.z, α.t⟩ H (S.set n o') := by
  have g : Grow α H ⟨α.h, α.x, p :: α.z, α.t⟩ := ⟨List.prefix_refl _, fun _ h => h, fun _ h => .inl h, fun p h n => absurd h n, fun _ h => List.mem_cons_of_mem _ h, rfl⟩
  have ph : p ∈ α.h := List.mem_of_getElem? h
  refine ⟨g, .refl, r.sm, by rw [List.length_set]; exact r.len, r.nd, r.dis, r.scr, fun k a u e1 e2 => ?_, fun k a u e1 e2 => ?_, fun a ha => ?_⟩
  · by_cases hk : k = n
    · subst hk
      have hl := (List.getElem?_eq_some_iff.mp e2).1
      rw [List.length_set] at hl
      rw [List.getElem?_set_self hl] at e2
      simp only [h] at e1
      cases e1; cases e2
      exact hm _ g q
    · rw [List.getElem?_set_ne (Ne.symm hk)] at e2
      exact (r.at_ k a u e1 e2).mono g .refl fun _ h => h
  · by_cases hk : k = n
    · subst hk
      have hl := (List.getElem?_eq_some_iff.mp e2).1
      rw [List.length_set] at hl
      rw [List.getElem?_set_self hl] at e2
      simp only [h] at e1
      cases e1; cases e2
      exact ⟨fun _ => hf, fun _ => List.mem_cons_self⟩
    · rw [List.getElem?_set_ne (Ne.symm hk)] at e2
      have ha : a ≠ p := fun z => by
        subst z
        have h1 := List.getElem?_eq_some_iff.mp e1
        have h2 := List.getElem?_eq_some_iff.mp h
        exact hk ((List.getElem_inj r.nd).mp (h1.2.trans h2.2.symm))
      refine Iff.trans ?_ (r.fz k a u e1 e2)
      exact ⟨fun z => (List.mem_cons.mp z).resolve_left ha, fun z => List.mem_cons_of_mem _ z⟩
  · rcases List.mem_cons.mp ha with z | z
    · rw [z]; exact ph
    · exact r.zh a z

/-! ### a list that is being made -/
/-- what is known of values in (H, α) is known in (H', α') -/
structure Mp (K : Frag) (H : Hp) (α : Al) (H' : Hp) (α' : Al) : Prop where
  t : ∀ a vs, SqT K H a vs → SqT K H' a vs
  ts : ∀ a vs, TupS K H a vs → TupS K H' a vs
  l : ∀ a o, ¬ α.has a → H a = some o → ¬ α'.has a ∧ H' a = some o
  r : α'.h = α.h
  rz : α'.z = α.z
  rt : α'.t = α.t
mutual
theorem RD.map {K : Frag} {H H' : Hp} {α α' : Al} (m : Mp K H α H' α') : ∀ {d : D} {v : V}, RD K H α d v → RD K H' α' d v
  | _, _, .non => .non
  | _, _, .bl b => .bl b
  | _, _, .int i => .int i
  | _, _, .str x => .str x
  | _, _, .tup h r => .tup (m.ts _ _ h) (RDs.map m r)
  | _, _, .wtp h r => .wtp (m.t _ _ h) (RDs.map m r)
  | _, _, .lst n h r => .lst (m.l _ _ n h).1 (m.l _ _ n h).2 (RDs.map m r)
  | _, _, .frz h r => .frz (h.imp (fun ⟨n, h⟩ => h.elim (fun h => ⟨(m.l _ _ n h).1, .inl (m.l _ _ n h).2⟩) fun ⟨o, h⟩ => ⟨(m.l _ _ n h).1, .inr ⟨o, (m.l _ _ n h).2⟩⟩) id) (RDs.map m r)
  | _, _, .dct n h r1 r2 => .dct (m.l _ _ n h).1 (m.l _ _ n h).2 (RDs.map m r1) (RDs.map m r2)
  | _, _, .ref h => .ref (by rw [m.r]; exact h)
  | _, _, .exn0 h => .exn0 h
  | _, _, .exn1 h n k l r => .exn1 h (m.l _ _ n k).1 (m.l _ _ n k).2 l (RD.map m r)
theorem RDs.map {K : Frag} {H H' : Hp} {α α' : Al} (m : Mp K H α H' α') : ∀ {ds : List D} {vs : List V}, RDs K H α ds vs → RDs K H' α' ds vs
  | _, _, .nil => .nil
  | _, _, .cons r t => .cons (RD.map m r) (RDs.map m t)
end
theorem RE.map {K : Frag} {H H' : Hp} {α α' : Al} (m : Mp K H α H' α') {ρ : Rho} {σ : L2.St} (r : RE K H α ρ σ) : RE K H' α' ρ σ :=
  ⟨r.len, fun i d h => let ⟨v, h1, h2⟩ := r.get i d h; ⟨v, h1, h2.map m⟩⟩
theorem RS.map {K : Frag} {H H' : Hp} {α α' : Al} {S : Store} (m : Mp K H α H' α') (r : RS K H α S) (sm : SysM Tbs.tabs H') (dis : ∀ a ∈ α'.h, a ∉ α'.x) (scr : ∀ a ∈ α'.x, ∃ vs, H' a = some (.lst vs)) (k : ∀ a ∈ α.h, H' a = H a) : RS K H' α' S := by
  refine ⟨sm, by rw [m.r]; exact r.len, by rw [m.r]; exact r.nd, dis, scr, fun n a o e1 e2 => ?_, fun n a o e1 e2 => by rw [m.rz]; rw [m.r] at e1; exact r.fz n a o e1 e2, fun a ha => by rw [m.r]; rw [m.rz] at ha; exact r.zh a ha⟩
  rw [m.r] at e1
  have q := r.at_ n a o e1 e2
  have ka := k a (List.mem_of_getElem? e1)
  cases o with
  | lst xs => obtain ⟨vs, h, q⟩ := q; exact ⟨vs, ka.trans h, q.map m⟩
  | dct ks vs => obtain ⟨kvs, h, q1, q2⟩ := q; exact ⟨kvs, ka.trans h, q1.map m, q2.map m⟩
  | fzl xs => obtain ⟨vs, h, q⟩ := q; exact ⟨vs, ka.trans h, q.map m⟩
  | fzd ks vs => obtain ⟨kvs, h, q1, q2⟩ := q; exact ⟨kvs, ka.trans h, q1.map m, q2.map m⟩
section
variable {K : Frag} {H : Hp} {h x z : List Addr} {t : List (Addr × Str)} {S : Store} {p : Addr} {acc vs : List V}
theorem mp_take (hp : H p = none) : Mp K H ⟨h, x, z, t⟩ (upd H p (.lst vs)) ⟨h, p :: x, z, t⟩ where
  t := fun a vs q => (ext_new (α := ⟨[], [], [], []⟩) hp).sqT q
  ts := fun a vs q => (ext_new (α := ⟨[], [], [], []⟩) hp).tupS q
  l := fun a o n e => by
    have ne := ne_of_none e hp
    refine ⟨fun z => ?_, by rw [upd_ne ne]; exact e⟩
    rcases z with z | z
    · exact n (.inl z)
    · rcases List.mem_cons.mp z with z | z
      · exact ne z
      · exact n (.inr z)
  r := rfl
  rz := rfl
  rt := rfl
theorem RS.take (r : RS K H ⟨h, x, z, t⟩ S) (hp : H p = none) : RS K (upd H p (.lst vs)) ⟨h, p :: x, z, t⟩ S := by
  have f := r.free' hp
  refine r.map (mp_take hp) (r.sm.put (u := .lst []) (.inl hp)) (fun a ha z => ?_) (fun a ha => ?_) fun a ha => ?_
  · rcases List.mem_cons.mp z with z | z
    · exact f (.inl (z ▸ ha))
    · exact r.dis a ha z
  · rcases List.mem_cons.mp ha with z | z
    · rw [z]; exact ⟨vs, upd_same⟩
    · exact scr_new hp r.scr a z
  · exact upd_ne (fun z : a = p => f (.inl (z ▸ ha)))
theorem mp_write {α : Al} (hp : H p = some (.lst acc)) (hx : p ∈ α.x) : Mp K H α (upd H p (.lst vs)) α where
  t := fun a ws q => by
    rcases q with (q | ⟨o, q⟩) | q
    · exact .inl (.inl (by rw [upd_ne (ne_of q hp (by intro z; cases z))]; exact q))
    · exact .inl (.inr ⟨o, by rw [upd_ne (ne_of q hp (by intro z; cases z))]; exact q⟩)
    · exact .inr q
  ts := fun a ws q => q.imp (fun ⟨o, d, q⟩ => ⟨o, d, by rw [upd_ne (ne_of q hp (by intro z; cases z))]; exact q⟩) id
  l := fun a o n e => ⟨n, by rw [upd_ne (fun z : a = p => n (.inr (z ▸ hx)))]; exact e⟩
  r := rfl
  rz := rfl
  rt := rfl
theorem RS.write {α : Al} (r : RS K H α S) (hp : H p = some (.lst acc)) (hx : p ∈ α.x) : RS K (upd H p (.lst vs)) α S := by
  refine r.map (mp_write hp hx) (r.sm.put (.inr ⟨hp, fun φ z => (nomatch z), fun φ z => nomatch z⟩)) r.dis (fun a ha => ?_) fun a ha => ?_
  · by_cases e : a = p
    · rw [e]; exact ⟨vs, upd_same⟩
    · rw [upd_ne e]; exact r.scr a ha
  · exact upd_ne (fun z : a = p => r.dis a ha (z ▸ hx))
theorem mp_give {x' : List Addr} (hx : ∀ a ∈ x', a ∈ x) : Mp K H ⟨h, x, z, t⟩ H ⟨h, x', z, t⟩ where
  t := fun _ _ q => q
  ts := fun _ _ q => q
  l := fun a o n e => ⟨fun z => n (z.imp id (hx a)), e⟩
  r := rfl
  rz := rfl
  rt := rfl
theorem RS.give {x' : List Addr} (hx : ∀ a ∈ x', a ∈ x) (r : RS K H ⟨h, x, z, t⟩ S) : RS K H ⟨h, x', z, t⟩ S :=
  r.map (mp_give hx) r.sm (fun a ha z => r.dis a ha (hx a z)) (fun a ha => r.scr a (hx a ha)) fun _ _ => rfl
end

/-! ### what an evaluation is to reach -/
abbrev XS := Ex → Store → Hp → Al → Prop
def X0 : XS := fun _ _ _ _ => False
def Pst {β : Type} (K : Frag) (E : XS) (H : Hp) (α : Al) (r : R β) (C : β → Store → Hp → Al → Prop) : Prop := match r with
  | .ok b S' => ∀ H' α', After K α H α' H' S' → C b S' H' α'
  | .exc e S' => ∀ H' α', After K α H α' H' S' → E e S' H' α'
  | .err => False
section
variable {β γ : Type} {K : Frag} {E : XS} {H : Hp} {α : Al} {S : Store}
theorem Pst.mono {r : R β} {C C' : β → Store → Hp → Al → Prop} (h : Pst K E H α r C) (k : ∀ b S' H' α', After K α H α' H' S' → C b S' H' α' → C' b S' H' α') : Pst K E H α r C' := by
  cases r with
  | ok b S' => exact fun H' α' a => k _ _ _ _ a (h H' α' a)
  | exc e S' => exact h
  | err => exact h
theorem Pst.move {r : R β} {C : β → Store → Hp → Al → Prop} {H1 : Hp} {α1 : Al} {S1 : Store} (h : Pst K E H α r C) (a : After K α H α1 H1 S1) : Pst K E H1 α1 r C := by
  cases r with
  | ok b S' => exact fun H' α' b => h H' α' (a.trans b)
  | exc e S' => exact fun H' α' b => h H' α' (a.trans b)
  | err => exact h
theorem Pst.bind {m : M β} {f : β → M γ} {C : γ → Store → Hp → Al → Prop} (h : Pst K E H α (M.bind m f S) C) : Pst K E H α (m S) fun b S1 H1 α1 => After K α H α1 H1 S1 ∧ Pst K E H1 α1 (f b S1) C := by
  unfold M.bind at h
  cases e : m S with
  | ok b S1 =>
    rw [e] at h
    exact fun H1 α1 a => ⟨a, Pst.move h a⟩
  | exc x S1 => rw [e] at h; exact h
  | err => rw [e] at h; exact h
theorem Pst.opt {f : Store → Option β} {C : β → Store → Hp → Al → Prop} (h : Pst K E H α (M.opt f S) C) (r : RS K H α S) : ∃ b, f S = some b ∧ C b S H α := by
  unfold M.opt at h
  cases e : f S with
  | some b => rw [e] at h; exact ⟨b, rfl, h H α (.refl r)⟩
  | none => rw [e] at h; exact h.elim
theorem Pst.optN {f : Store → Option β} {C : β → Store → Hp → Al → Prop} (h : Pst K E H α (M.opt f S) C) : ∃ b, f S = some b ∧ ∀ H' α', After K α H α' H' S → C b S H' α' := by
  unfold M.opt at h
  cases e : f S with
  | some b => rw [e] at h; exact ⟨b, rfl, h⟩
  | none => rw [e] at h; exact h.elim
theorem Pst.ret {b : β} {C : β → Store → Hp → Al → Prop} (h : Pst K E H α (M.ret b S) C) (r : RS K H α S) : C b S H α := h H α (.refl r)
theorem Pst.retN {b : β} {C : β → Store → Hp → Al → Prop} (h : Pst K E H α (M.ret b S) C) {H' : Hp} {α' : Al} (a : After K α H α' H' S) : C b S H' α' := h H' α' a
end

def TI (K : Frag) (E : XS) (m : Rho → M D) : TE := fun σ H Q => ∃ ρ α S, RS K H α S ∧ RE K H α ρ σ ∧ Pst K E H α (m ρ S) fun d _ H' α' => ∀ v, RD K H' α' d v → Q v H'
def TTI (K : Frag) (E : XS) (m : Rho → M Bool) : TT := fun σ H Q => ∃ ρ α S, RS K H α S ∧ RE K H α ρ σ ∧ Pst K E H α (m ρ S) fun b _ H' _ => Q b H'
def TAI (K : Frag) (E : XS) (m : Rho → M (List D)) : TA := fun σ H Q => ∃ ρ α S, RS K H α S ∧ RE K H α ρ σ ∧ Pst K E H α (m ρ S) fun ds _ H' α' => ∀ vs, RDs K H' α' ds vs → Q vs H'
/-- what is wanted behind a statement -/
def EndsI (K : Frag) (D : Ends) (p : Ln.Fl × Rho) (H' : Hp) (α' : Al) : Prop := ∀ σ', RE K H' α' p.2 σ' → match p.1 with
  | .nx => D.nx σ' H'
  | .bk => D.bk σ' H'
  | .ct => D.ct σ' H'
  | .rt d => ∀ v, RD K H' α' d v → D.rt v H'
def TSI (K : Frag) (E : XS) (m : Rho → M (Ln.Fl × Rho)) : TS := fun D σ H => ∃ ρ α S, RS K H α S ∧ RE K H α ρ σ ∧ Pst K E H α (m ρ S) fun p _ H' α' => EndsI K D p H' α'

theorem pe_w {X : Cx} {e : Expr} {t t' : TE} (h : PE X e t) (k : ∀ σ H Q, t' σ H Q → t σ H Q) : PE X e t' := ⟨fun pins s σ H Q I q => h.run pins s σ H Q I (k _ _ _ q)⟩
theorem pt_w {X : Cx} {e : Expr} {t t' : TT} (h : PT X e t) (k : ∀ σ H Q, t' σ H Q → t σ H Q) : PT X e t' := ⟨fun pins s σ H Q I q => h.run pins s σ H Q I (k _ _ _ q)⟩
theorem pa_w {X : Cx} {e : List Expr} {t t' : TA} (h : PA X e t) (k : ∀ σ H Q, t' σ H Q → t σ H Q) : PA X e t' := ⟨fun pos pins s σ H Q I q => h.run pos pins s σ H Q I (k _ _ _ q)⟩
theorem ps_w {X : Cx} {e : Stmt} {t t' : TS} (h : PS X e t) (k : ∀ D σ H, t' D σ H → t D σ H) : PS X e t' := ⟨fun pins s σ H D I q => h.run pins s σ H D I (k _ _ _ q)⟩
theorem pss_w {X : Cx} {e : List Stmt} {t t' : TS} (h : PSs X e t) (k : ∀ D σ H, t' D σ H → t D σ H) : PSs X e t' := ⟨fun pins s σ H D I q => h.run pins s σ H D I (k _ _ _ q)⟩
end LnS

set_option linter.all false
set_option maxRecDepth 100000
set_option maxHeartbeats 4000000
/-! Ln: tuples that are made here stand with their object known (no dict of their own), so that a method can be asked of them. -/
namespace LnS
open PySem PySem.Spec L2 PyProof.Rows HT
variable [Tbs]
section
variable {X : Cx} {pins : List (Addr × Obj)} {σ : L2.St} {H : Hp} {s : Shared}
def tupO (its : List Value) : Obj := { cls := .type "tuple", data := .seq its.toArray }
/-- what is wanted of a new tuple -/
def NewT (H : Hp) (ys : List V) (Q : VK) : Prop := ∀ (p : Addr) (o : Obj), o.dict = none → H p = none → Q (.ref p) (upd H p (.frz o (.tup ys)))
theorem end_tup {ys : List V} {its : List Value} {t' : Nat} {Q : VK} (I : Inv X pins σ H s) (r : Vals ys its) (hz : ys.length ≤ sizeLine) (q : NewT H ys Q) : EP X pins σ Q (.ref s.heap.objs.size) { s with heap := s.heap.push (tupO its), toks := t' } := by
  have J := I.laid (t' := t') (o := .frz (tupO its) (.tup ys)) (h' := s.heap.push (tupO its)) (a := s.heap.objs.size) (fun b ob e => Heap.get?_push_of_some _ e) (Nat.le_refl _) ⟨Heap.get?_push_size _ rfl, hz, its, r, IsTup.new _ _⟩
  exact ⟨.ref s.heap.objs.size, _, J, rfl, q _ (tupO its) rfl (I.hok.fresh (Nat.le_refl _))⟩
theorem pe_tupZ {es : List Expr} {t : TA} {x1 : Nat} {pos : Pos} (h : PA X es t) : PE X (.Tuple es x1 pos) (fun σ H Q => t σ H fun xs H1 => xs.length ≤ sizeLine ∧ NewT H1 xs Q) :=
  ⟨fun pins s σ H Q I hq => wpAny_Tuple_spliced (thn (h.run pos pins s σ H _ I hq) fun us s1 hx => by
    obtain ⟨xs, H1, I1, r, z, q⟩ := hx
    exact ⟨by rw [← r.length]; exact z, end_tup (t' := s1.toks) I1 r z q⟩)⟩
theorem call_tupleZ : CallR X (.type "tuple") (fun xs H Q => ∃ p ys, xs = [.ref p] ∧ ((SqL X.K H p ys ∧ NewT H ys Q) ∨ (SqT X.K H p ys ∧ Q (.ref p) H))) := by
  intro pins s σ H xs us Q I r h
  obtain ⟨p, ys, ex, h⟩ := h
  subst ex
  obtain ⟨u, eu, rx⟩ := vals1 r
  subst eu
  cases rx
  rcases h with ⟨hq, q⟩ | ⟨hq, q⟩
  · obtain ⟨its, r', pl, hz⟩ := I.list hq
    have hl := r'.length
    exact call_tuple_list pl.isList (fun h' kp => end_tup (t' := s.toks) (I.kept (t' := s.toks) kp) r' hz q) (by rw [List.size_toArray]; omega)
  · obtain ⟨its, r', pl, hz⟩ := I.tuple hq
    exact call_tuple_same pl ⟨.ref p, H, I, rfl, q⟩
theorem op_catZ : OpR X (binaryOp .Add) (fun x y H Q => ∃ a b xs ys, x = .ref a ∧ y = .ref b ∧ SqT X.K H a xs ∧ SqT X.K H b ys ∧ xs.length + ys.length ≤ sizeLine ∧
    (xs = [] → Q (.ref b) H) ∧ (xs ≠ [] → ys = [] → Q (.ref a) H) ∧ (xs ≠ [] → ys ≠ [] → NewT H (xs ++ ys) Q)) := by
  intro pins s σ H x y v u Q I rx ry h
  obtain ⟨a, b, xs, ys, ex, ey, ha, hb, hz, q0, q1, q2⟩ := h
  subst ex ey
  cases rx
  cases ry
  obtain ⟨i1, r1, p1, _⟩ := I.tuple ha
  obtain ⟨i2, r2, p2, _⟩ := I.tuple hb
  by_cases hx : xs = []
  · subst hx
    cases r1
    exact cat_tup0 p1 p2 ⟨.ref b, H, I, rfl, q0 rfl⟩
  · refine HT.cat_tup p1 p2 (fun z => hx (r1.nil_iff.mp z)) (fun z => ⟨.ref a, H, I, rfl, q1 hx (r2.nil_iff.mp z)⟩) (fun z => ?_) (by rw [← r1.length, ← r2.length]; exact hz)
    exact end_tup (t' := s.toks) I (r1.append r2) (by rw [List.length_append]; exact hz) (q2 hx fun e => z (r2.nil_iff.mpr e))
theorem sl_tupZ : SlR X (fun x lo hi H Q => ∃ a xs, x = .ref a ∧ SqT X.K H a xs ∧
    (HT.sIx xs.length 0 lo = 0 ∧ HT.sIx xs.length xs.length hi = xs.length → Q (.ref a) H) ∧ (¬ (HT.sIx xs.length 0 lo = 0 ∧ HT.sIx xs.length xs.length hi = xs.length) → NewT H (cutV xs lo hi) Q)) := by
  intro pins s σ H x v vl vu lo hi sl Q I rx hs pl pu h
  obtain ⟨a, xs, ex, hx, q1, q2⟩ := h
  subst ex
  cases rx
  obtain ⟨its, r, ht, hz⟩ := I.tuple hx
  have hl : its.toArray.size = xs.length := by rw [List.size_toArray]; exact r.length.symm
  refine ⟨"tuple", _, PyProof.Rows.slot_tuple_getitem.lookup, ht.typeIs, ?_⟩
  by_cases hw : HT.sIx xs.length 0 lo = 0 ∧ HT.sIx xs.length xs.length hi = xs.length
  · exact getItem_tuple_whole ht hs pl pu (by rw [hl]; exact hw) ⟨.ref a, H, I, rfl, q1 hw⟩
  · refine HT.getItem_tuple_cut ht hs pl pu (by rw [hl]; exact hw) ?_ (by rw [hl]; exact hz)
    have rc := (r.drop (HT.sIx xs.length 0 lo)).take (HT.sIx xs.length xs.length hi - HT.sIx xs.length 0 lo)
    rw [hl]
    exact end_tup (t' := s.toks) I rc (Nat.le_trans (cutV_length xs lo hi) hz) (q2 hw)
/-! tuple * int -/
theorem tuple_mul_sameZ (l : Addr) (items : Array Value) (n : Nat) (dd : Option Addr) (sl : Array (Option Value)) (x : Int) (u : Tok) (c0 : (decide (x < -(2 ^ 63)) || decide (x ≥ 2 ^ 63)) = false) (c1 : (items.isEmpty || x == 1) = true) :
    Meets (Builtin.«tuple.__mul__» ⟨[.ref l, .int x u], []⟩) (fun _ R s => s.heap.get? l = some { cls := .type "tuple", dict := dd, data := .seq items n, slots := sl } ∧ R (.ok (.ret (Value.ref l))) s) :=
  .of_wp fun prog w A R s h => by
    obtain ⟨hp, g, d, tk, os⟩ := s
    obtain ⟨hl, h⟩ := h
    have f1 := AutoSeq1.idx_int
    wp_walk using wpAny_loadPart' hl
    repeat (first
      | (refine wpAny_ite_false (decide_eq_false (by rw [c0]; exact Bool.false_ne_true)) ?_; wp_walk using wpAny_loadPart' hl)
      | (refine wpAny_ite_true (decide_eq_true c1) ?_; wp_walk using wpAny_loadPart' hl))
    exact ⟨_, rfl, h⟩
theorem tuple_mul_noneZ (l : Addr) (items : Array Value) (n : Nat) (dd : Option Addr) (sl : Array (Option Value)) (x : Int) (u : Tok) (c0 : (decide (x < -(2 ^ 63)) || decide (x ≥ 2 ^ 63)) = false) (c1 : (items.isEmpty || x == 1) = false) (c2 : (decide (x ≤ 0) || items.isEmpty) = true) :
    Meets (Builtin.«tuple.__mul__» ⟨[.ref l, .int x u], []⟩) (fun _ R s => s.heap.get? l = some { cls := .type "tuple", dict := dd, data := .seq items n, slots := sl } ∧
      R (.ok (.ret (Value.ref s.heap.objs.size))) { s with heap := s.heap.push { cls := Value.type "tuple", data := Data.seq #[] }, toks := s.toks }) :=
  .of_wp fun prog w A R s h => by
    obtain ⟨hp, g, d, tk, os⟩ := s
    obtain ⟨hl, h⟩ := h
    have f1 := AutoSeq1.idx_int
    wp_walk using wpAny_loadPart' hl
    repeat (first
      | (refine wpAny_ite_false (decide_eq_false (by rw [c0]; exact Bool.false_ne_true)) ?_; wp_walk using wpAny_loadPart' hl)
      | (refine wpAny_ite_false (decide_eq_false (by rw [c1]; exact Bool.false_ne_true)) ?_; wp_walk using wpAny_loadPart' hl)
      | (refine wpAny_ite_true (decide_eq_true c2) ?_; wp_walk using wpAny_loadPart' hl))
    exact ⟨_, rfl, h⟩
theorem op_repZ : OpR X (binaryOp .Mult) (fun x y H Q => ∃ l k xs, x = .ref l ∧ y = .int k ∧ SqT X.K H l xs ∧ -1000000 ≤ k ∧ k ≤ 1000000 ∧ xs.length * k.toNat ≤ 1000000 ∧
    ((xs = [] ∨ k = 1) → Q (.ref l) H) ∧ NewT H (List.replicate k.toNat xs).flatten Q) := by
  intro pins s σ H x y v u Q I rx ry h
  obtain ⟨l, k, xs, ex, ey, hT, h1, h2, hz, q1, q2⟩ := h
  subst ex ey
  cases rx
  obtain ⟨t, et⟩ := ry
  subst et
  obtain ⟨its, r, ⟨⟨cls, dd, data, sl⟩, ho, hc, n, hd⟩, hs⟩ := I.tuple hT
  simp only at hc hd
  subst hc hd
  have big : (decide (k < -(2 ^ 63)) || decide (k ≥ 2 ^ 63)) = false := by
    rw [decide_eq_false (by omega), decide_eq_false (by omega)]
    rfl
  have hle : its.length = xs.length := r.length.symm
  -- what the method does gives what the operator does
  by_cases hsame : xs = [] ∨ k = 1
  · have c1 : (its.toArray.isEmpty || k == 1) = true := by
      rcases hsame with e | e
      · rw [List.isEmpty_toArray, List.isEmpty_iff.mpr (List.eq_nil_of_length_eq_zero (by rw [hle, e]; rfl))]
        rfl
      · rw [e, show ((1 : Int) == 1) = true from rfl, Bool.or_true]
    exact wpAny_binaryOp_repeat_ref (T := "tuple") (U := "int") (by decide) ⟨_, ho, rfl⟩ (fun s' => typeIs_int s' k t) noFill_tuple_mul F.fills_int_mul F.slot_int_rmul repeat_tuple F.slot_int_index.lookup
      (call_meets F.slot_int_rmul (typeIs_int s k t) F.entry_int_rmul (F.args_int_rmul_2 _ _) (int_rmul_tuple k t l _ n dd sl)
        ⟨ho, rfl, ⟨_, ho, rfl⟩, call_meets F.slot_tuple_mul ⟨_, ho, rfl⟩ F.entry_tuple_mul (F.args_tuple_mul_2 _ _) (tuple_mul_sameZ l _ n dd sl k t big c1) ⟨ho, .ref l, H, I, rfl, q1 hsame⟩⟩)
  · have c1 : (its.toArray.isEmpty || k == 1) = false := by
      rw [List.isEmpty_toArray, show its.isEmpty = false from ?_, Bool.false_or]
      · exact beq_eq_false_iff_ne.mpr fun e => hsame (.inr e)
      · cases its with
        | nil => exact absurd (.inl (List.eq_nil_of_length_eq_zero hle.symm)) hsame
        | cons _ _ => rfl
    have c9 := c1
    rw [Bool.or_eq_false_iff] at c9
    by_cases hk : 2 ≤ k
    · have low : k.toNat * xs.length ≤ 1000000 := by rw [Nat.mul_comm]; exact hz
      have flen : (List.replicate k.toNat its).flatten.length ≤ sizeLine := by
        rw [PyProof.Rows.lm_len_rep_flat, hle, sizeLine_eq]
        omega
      have flen2 : (List.replicate k.toNat xs).flatten.length ≤ sizeLine := by
        rw [PyProof.Rows.lm_len_rep_flat, sizeLine_eq]
        omega
      have hm : ((its.toArray.size : Nat) : Int) * k ≤ 1000000 := by
        rw [List.size_toArray, hle]
        have e : ((xs.length : Nat) : Int) * k = ((xs.length * k.toNat : Nat) : Int) := by rw [Int.natCast_mul, Int.toNat_of_nonneg (by omega)]
        omega
      have c2 : (decide (k ≤ 0) || its.toArray.isEmpty) = false := by rw [c9.1, decide_eq_false (by omega)]; rfl
      have c4 : Builtin.Tuple.tupleTooMany (((its.toArray.size : Nat) : Int) * k) = false := decide_eq_false (by rw [sizeLine_eq]; omega)
      refine wpAny_binaryOp_repeat_ref (T := "tuple") (U := "int") (by decide) ⟨_, ho, rfl⟩ (fun s' => typeIs_int s' k t) noFill_tuple_mul F.fills_int_mul F.slot_int_rmul repeat_tuple F.slot_int_index.lookup
        (call_meets F.slot_int_rmul (typeIs_int s k t) F.entry_int_rmul (F.args_int_rmul_2 _ _) (int_rmul_tuple k t l its.toArray n dd sl)
          ⟨ho, rfl, ⟨_, ho, rfl⟩, call_meets F.slot_tuple_mul ⟨_, ho, rfl⟩ F.entry_tuple_mul (F.args_tuple_mul_2 _ _) (tuple_mulW l its.toArray n dd sl k t big c1 c2 (by omega) c4 (by rw [size_rep]; exact flen)) ⟨ho, ?_⟩⟩)
      rw [size_rep]
      exact end_tup (t' := s.toks) I (r.rep k.toNat) flen2 q2
    · have k0 : k ≤ 0 := by
        have : k ≠ 1 := fun e => hsame (.inr e)
        omega
      refine wpAny_binaryOp_repeat_ref (T := "tuple") (U := "int") (by decide) ⟨_, ho, rfl⟩ (fun s' => typeIs_int s' k t) noFill_tuple_mul F.fills_int_mul F.slot_int_rmul repeat_tuple F.slot_int_index.lookup
        (call_meets F.slot_int_rmul (typeIs_int s k t) F.entry_int_rmul (F.args_int_rmul_2 _ _) (int_rmul_tuple k t l _ n dd sl)
          ⟨ho, rfl, ⟨_, ho, rfl⟩, call_meets F.slot_tuple_mul ⟨_, ho, rfl⟩ F.entry_tuple_mul (F.args_tuple_mul_2 _ _) (tuple_mul_noneZ l _ n dd sl k t big c1 (by rw [decide_eq_true k0]; rfl)) ⟨ho, ?_⟩⟩)
      have e0 : k.toNat = 0 := by omega
      rw [e0] at q2
      exact end_tup (its := []) (t' := s.toks) I .nil (Nat.zero_le _) q2
end
end LnS

set_option linter.all false
set_option maxRecDepth 100000
/-! Ln: the operators' rules. -/
namespace LnS
open PySem L2 PyProof.Rows
open Ln (D O Store Rho M R Ex)
variable [Tbs]

/-! ### lists of related values -/
section
variable {K : Frag} {H : Hp} {α : Al}
theorem RDs.length : ∀ {ds : List D} {vs : List V}, RDs K H α ds vs → ds.length = vs.length
  | _, _, .nil => rfl
  | _, _, .cons _ t => congrArg Nat.succ (RDs.length t)
theorem RDs.append : ∀ {ds es : List D} {vs ws : List V}, RDs K H α ds vs → RDs K H α es ws → RDs K H α (ds ++ es) (vs ++ ws)
  | _, _, _, _, .nil, q => q
  | _, _, _, _, .cons r t, q => .cons r (RDs.append t q)
theorem RDs.get : ∀ {ds : List D} {vs : List V}, RDs K H α ds vs → ∀ {i : Nat} {d : D}, ds[i]? = some d → ∃ v, vs[i]? = some v ∧ RD K H α d v
  | _, _, .cons r t, 0, _, e => by cases e; exact ⟨_, rfl, r⟩
  | _, _, .cons r t, i + 1, _, e => RDs.get t (i := i) (by simpa using e)
  | _, _, .nil, _, _, e => by simp at e
theorem RDs.take : ∀ {ds : List D} {vs : List V} (n : Nat), RDs K H α ds vs → RDs K H α (ds.take n) (vs.take n)
  | _, _, 0, _ => by simp only [List.take_zero]; exact .nil
  | _, _, _ + 1, .nil => .nil
  | _, _, n + 1, .cons r t => .cons r (RDs.take n t)
theorem RDs.drop : ∀ {ds : List D} {vs : List V} (n : Nat), RDs K H α ds vs → RDs K H α (ds.drop n) (vs.drop n)
  | _, _, 0, r => r
  | _, _, _ + 1, .nil => .nil
  | _, _, n + 1, .cons _ t => RDs.drop n t
theorem RDs.rep {ds : List D} {vs : List V} (r : RDs K H α ds vs) : ∀ k : Nat, RDs K H α (List.replicate k ds).flatten (List.replicate k vs).flatten
  | 0 => .nil
  | k + 1 => by rw [List.replicate_succ, List.replicate_succ, List.flatten_cons, List.flatten_cons]; exact r.append (r.rep k)
theorem RDs.reverse : ∀ {ds : List D} {vs : List V}, RDs K H α ds vs → RDs K H α ds.reverse vs.reverse
  | _, _, .nil => .nil
  | _, _, .cons r t => by rw [List.reverse_cons, List.reverse_cons]; exact (RDs.reverse t).append (.cons r .nil)
theorem RDs.set {d : D} {v : V} (q : RD K H α d v) : ∀ {ds : List D} {vs : List V} (i : Nat), RDs K H α ds vs → RDs K H α (ds.set i d) (vs.set i v)
  | _, _, _, .nil => .nil
  | _, _, 0, .cons _ t => .cons q t
  | _, _, i + 1, .cons r t => .cons r (RDs.set q i t)
theorem RDs.eraseIdx : ∀ {ds : List D} {vs : List V} (i : Nat), RDs K H α ds vs → RDs K H α (ds.eraseIdx i) (vs.eraseIdx i)
  | _, _, _, .nil => .nil
  | _, _, 0, .cons _ t => t
  | _, _, i + 1, .cons r t => .cons r (RDs.eraseIdx i t)
theorem RDs.nil_iff {ds : List D} {vs : List V} (r : RDs K H α ds vs) : ds = [] ↔ vs = [] := by cases r <;> simp
theorem RDs.isEmpty {ds : List D} {vs : List V} (r : RDs K H α ds vs) : ds.isEmpty = vs.isEmpty := by cases r <;> rfl
theorem RDs.intsD : ∀ {ds : List D} {vs : List V} {ns : List Int}, RDs K H α ds vs → Ln.intsD ds = some ns → vs = ns.map V.int
  | _, _, _, .nil, e => by cases e; rfl
  | _, _, _, .cons (d := d) r t, e => by
    cases r <;> first
      | (simp only [Ln.intsD, Option.map_eq_some_iff] at e
         obtain ⟨ns', e1, rfl⟩ := e
         rw [RDs.intsD t e1]; rfl)
      | (simp [Ln.intsD] at e)
theorem RDs.boolsD : ∀ {ds : List D} {vs : List V} {ns : List Bool}, RDs K H α ds vs → Ln.boolsD ds = some ns → vs = ns.map V.bl
  | _, _, _, .nil, e => by cases e; rfl
  | _, _, _, .cons (d := d) r t, e => by
    cases r <;> first
      | (simp only [Ln.boolsD, Option.map_eq_some_iff] at e
         obtain ⟨ns', e1, rfl⟩ := e
         rw [RDs.boolsD t e1]; rfl)
      | (simp [Ln.boolsD] at e)
theorem RDs.strsD : ∀ {ds : List D} {vs : List V} {ns : List Str}, RDs K H α ds vs → Ln.strsD ds = some ns → vs = ns.map V.str
  | _, _, _, .nil, e => by cases e; rfl
  | _, _, _, .cons (d := d) r t, e => by
    cases r <;> first
      | (simp only [Ln.strsD, Option.map_eq_some_iff] at e
         obtain ⟨ns', e1, rfl⟩ := e
         rw [RDs.strsD t e1]; rfl)
      | (simp [Ln.strsD] at e)
theorem rds_ints : ∀ ns : List Int, RDs K H α (ns.map D.int) (ns.map V.int)
  | [] => .nil
  | n :: ns => .cons (.int n) (rds_ints ns)

/-- a list's object -/
theorem lst_at {S : Store} (rs : RS K H α S) {d : D} {x : V} {xs : List D} (r : RD K H α d x) (e : Ln.lstOf S d = some xs) : ∃ a vs, x = .ref a ∧ H a = some (.lst vs) ∧ RDs K H α xs vs := by
  cases r <;> simp only [Ln.lstOf] at e <;> try (cases e; done)
  · rename_i n h q; cases e; exact ⟨_, _, rfl, h, q⟩
  · rename_i n a h
    split at e
    · rename_i ys hS
      cases e
      obtain ⟨vs, h1, h2⟩ := rs.at_ n a _ h hS
      exact ⟨a, vs, rfl, h1, h2⟩
    · cases e
theorem seq_at {S : Store} (rs : RS K H α S) {d : D} {x : V} {xs : List D} (r : RD K H α d x) (e : Ln.seqOf S d = some xs) : ∃ a vs, x = .ref a ∧ (SqL K H a vs ∨ SqT K H a vs) ∧ RDs K H α xs vs := by
  cases r <;> simp only [Ln.seqOf] at e <;> try (cases e; done)
  · rename_i h q; cases e; exact ⟨_, _, rfl, .inr h.sq, q⟩
  · rename_i n h q; cases e; exact ⟨_, _, rfl, .inl (SqL.of h), q⟩
  · rename_i h q; cases e; exact ⟨_, _, rfl, .inl h.sq, q⟩
  · rename_i n a h
    split at e
    · rename_i ys hS
      cases e
      obtain ⟨vs, h1, h2⟩ := rs.at_ n a _ h hS
      exact ⟨a, vs, rfl, .inl (SqL.of h1), h2⟩
    · cases e
/-- a new list by value -/
theorem new_lst {S : Store} (rs : RS K H α S) {p : Addr} {xs : List D} {vs : List V} (hp : H p = none) (q : RDs K H α xs vs) : After K α H α (upd H p (.lst vs)) S ∧ RD K (upd H p (.lst vs)) α (.lst xs) (.ref p) := by
  have a := After.new (o := .lst vs) rs hp
  refine ⟨a, .lst (fun z => ?_) upd_same (a.rds q)⟩
  obtain ⟨o, e, _⟩ := rs.mut z
  rw [hp] at e; cases e
theorem new_tup {S : Store} (rs : RS K H α S) {p : Addr} {o : Obj} {xs : List D} {vs : List V} (ho : o.dict = none) (hp : H p = none) (q : RDs K H α xs vs) : After K α H α (upd H p (.frz o (.tup vs))) S ∧ RD K (upd H p (.frz o (.tup vs))) α (.tup xs) (.ref p) := by
  have a := After.new (o := .frz o (.tup vs)) rs hp
  exact ⟨a, .tup (.inl ⟨o, ho, upd_same⟩) (a.rds q)⟩
theorem new_wtp {S : Store} (rs : RS K H α S) {p : Addr} {xs : List D} {vs : List V} (hp : H p = none) (q : RDs K H α xs vs) : After K α H α (upd H p (.tup vs)) S ∧ RD K (upd H p (.tup vs)) α (.wtp xs) (.ref p) := by
  have a := After.new (o := .tup vs) rs hp
  exact ⟨a, .wtp (SqT.of upd_same) (a.rds q)⟩
end

/-! ### binary operators -/
def opOf : Ln.Bop → Operator
  | .add => .Add
  | .sub => .Sub
  | .mul => .Mult
  | .fdiv => .FloorDiv
  | .mod => .Mod
  | .pow => .Pow
/-- an operation that leaves the store, by values -/
def rO (K : Frag) (f : D → D → Store → Option D) : R2 := fun x y H Q => ∃ α S dx dy d, RS K H α S ∧ RD K H α dx x ∧ RD K H α dy y ∧ f dx dy S = some d ∧ ∀ v H' α', After K α H α' H' S → RD K H' α' d v → Q v H'
def rOB (K : Frag) (f : D → D → Store → Option Bool) : R2 := fun x y H Q => ∃ α S dx dy b, RS K H α S ∧ RD K H α dx x ∧ RD K H α dy y ∧ f dx dy S = some b ∧ Q (.bl b) H

theorem op_pow2 {X : Cx} : OpR X (binaryOp .Pow) (rI (fun i j => Ln.powOk i j = true) fun i j => .int (i ^ j.toNat)) := opI fun i j _ _ _ _ _ hc q => by
  unfold Ln.powOk at hc
  rw [Bool.and_eq_true, decide_eq_true_eq, decide_eq_true_eq] at hc
  refine pow_int hc.1 ?_ q
  have b : Builtin.Int.intBits i ≤ i.natAbs.log2 + 1 := by
    unfold Builtin.Int.intBits
    split <;> omega
  have b' : ((Builtin.Int.intBits i : Nat) : Int) * j ≤ ((i.natAbs.log2 + 1 : Nat) : Int) * j := Int.mul_le_mul_of_nonneg_right (by omega) hc.1
  exact Int.le_trans b' hc.2
theorem op_mul2 {X : Cx} : OpR X (binaryOp .Mult) (rI (fun i j => Ln.mulOk i j = true) fun i j => .int (i * j)) := opI fun i j _ _ _ _ _ hc q => by
  unfold Ln.mulOk Ln.small64 at hc
  simp only [Bool.or_eq_true, Bool.and_eq_true, decide_eq_true_eq] at hc
  rcases hc with (h | h) | h
  · exact mul_int q (CMul.ok (.inl h))
  · exact mul_int q (CMul.ok (.inr h))
  · exact mul_int q (CMulW.ok h)
theorem op_fdiv2 {X : Cx} : OpR X (binaryOp .FloorDiv) (rI (fun i j => Ln.divOk j = true) fun i j => .int (i.fdiv j)) := opI fun i j _ _ _ _ _ hc q => by
  unfold Ln.divOk at hc
  rw [Bool.and_eq_true, decide_eq_true_eq, decide_eq_true_eq] at hc
  exact floordiv_int hc.1 q (.inl (PyProof.noPylong_of_log2 hc.2))
theorem op_int {X : Cx} (o : Ln.Bop) {pins : List (Addr × Obj)} {s : Shared} {σ : L2.St} {H : Hp} {a b : Int} {v u : Value} {Q : VK} {k : Int} (I : Inv X pins σ H s) (rx : RelV (.int a) v) (ry : RelV (.int b) u)
    (e : Ln.intOp o a b = some k) (q : Q (.int k) H) : wpAny (model X.prog X.w) X.A (binaryOp (opOf o) v u) (EP X pins σ Q) X.xe s := by
  cases o <;> simp only [Ln.intOp] at e
  · cases e; exact op_add pins s σ H _ _ v u Q I rx ry ⟨a, b, rfl, rfl, q⟩
  · cases e; exact op_sub pins s σ H _ _ v u Q I rx ry ⟨a, b, rfl, rfl, q⟩
  · split at e
    · rename_i h; cases e; exact op_mul2 pins s σ H _ _ v u Q I rx ry ⟨a, b, rfl, rfl, h, q⟩
    · cases e
  · split at e
    · rename_i h; cases e; exact op_fdiv2 pins s σ H _ _ v u Q I rx ry ⟨a, b, rfl, rfl, h, q⟩
    · cases e
  · split at e
    · rename_i h; cases e; exact op_modN pins s σ H _ _ v u Q I rx ry ⟨a, b, rfl, rfl, h, q⟩
    · cases e
  · split at e
    · rename_i h; cases e; exact op_pow2 pins s σ H _ _ v u Q I rx ry ⟨a, b, rfl, rfl, h, q⟩
    · cases e

theorem rep_one {α : Type} (xs : List α) {k : Int} (h : xs = [] ∨ k = 1) : (List.replicate k.toNat xs).flatten = xs := by
  rcases h with rfl | rfl
  · generalize k.toNat = n
    induction n with
    | zero => rfl
    | succ n ih => rw [List.replicate_succ, List.flatten_cons, ih]; rfl
  · show (List.replicate 1 xs).flatten = xs
    simp
theorem op_bop {X : Cx} (o : Ln.Bop) : OpR X (binaryOp (opOf o)) (rO X.K (Ln.bop o)) := by
  intro pins s σ H x y v u Q I rx ry h
  obtain ⟨α, S, dx, dy, d, rs, r1, r2, e, q⟩ := h
  have lists : ∀ {xs ys : List D}, Ln.lstOf S dx = some xs → Ln.lstOf S dy = some ys → o = .add → xs.length + ys.length ≤ Ln.line → d = .lst (xs ++ ys) →
      wpAny (model X.prog X.w) X.A (binaryOp (opOf o) v u) (EP X pins σ Q) X.xe s := fun {xs ys} e1 e2 eo hl ed => by
    subst eo ed
    obtain ⟨a, vs, rfl, h1, q1⟩ := lst_at rs r1 e1
    obtain ⟨b, ws, rfl, h2, q2⟩ := lst_at rs r2 e2
    refine op_cat pins s σ H _ _ v u Q I rx ry ⟨a, b, vs, ws, rfl, rfl, h1, h2, by rw [← q1.length, ← q2.length]; exact hl, fun p hp => ?_⟩
    obtain ⟨af, rd⟩ := new_lst rs hp (q1.append q2)
    exact q _ _ _ af rd
  have listsI : ∀ {xs : List D} {k : Int}, Ln.lstOf S dx = some xs → dy = .int k → o = .mul → Ln.small63 k = true → xs.length * k.toNat ≤ Ln.line → d = .lst (List.replicate k.toNat xs).flatten →
      wpAny (model X.prog X.w) X.A (binaryOp (opOf o) v u) (EP X pins σ Q) X.xe s := fun {xs k} e1 e2 eo hs hl ed => by
    subst eo ed e2
    obtain ⟨a, vs, rfl, h1, q1⟩ := lst_at rs r1 e1
    cases r2
    unfold Ln.small63 at hs
    rw [Bool.and_eq_true, decide_eq_true_eq, decide_eq_true_eq] at hs
    refine op_rep pins s σ H _ _ v u Q I rx ry ⟨a, k, vs, rfl, rfl, h1, hs.1, hs.2, by rw [← q1.length]; exact hl, fun p hp => ?_⟩
    obtain ⟨af, rd⟩ := new_lst rs hp (q1.rep k.toNat)
    exact q _ _ _ af rd
  unfold Ln.bop at e
  split at e
  · -- intsD
    rename_i a b
    cases r1; cases r2
    rw [Option.map_eq_some_iff] at e
    obtain ⟨k, e, rfl⟩ := e
    exact op_int o I rx ry e (q _ _ _ (.refl rs) (.int k))
  · rename_i a b
    cases r1; cases r2
    split at e
    · split at e
      · rename_i hl
        cases e
        exact op_add_str pins s σ H _ _ v u Q I rx ry ⟨a, b, rfl, rfl, hl, q _ _ _ (.refl rs) (.str _)⟩
      · cases e
    · cases e
  · rename_i xs ys
    split at e
    · split at e
      · rename_i hl
        cases e
        have r1' := r1
        have r2' := r2
        cases r1 with
        | tup h1 q1 =>
        cases r2 with
        | tup h2 q2 =>
        rename_i a vs b ws
        refine op_catZ pins s σ H _ _ v u Q I rx ry ⟨_, _, _, _, rfl, rfl, h1.sq, h2.sq, by rw [← q1.length, ← q2.length]; exact hl, fun z => ?_, fun _ z => ?_, fun _ _ p o ho hp => ?_⟩
        · have := q1.nil_iff.mpr z
          subst this
          exact q _ _ _ (.refl rs) r2'
        · have := q2.nil_iff.mpr z
          subst this
          rw [List.append_nil] at q
          exact q _ _ _ (.refl rs) r1'
        · obtain ⟨af, rd⟩ := new_tup rs ho hp (q1.append q2)
          exact q _ _ _ af rd
      · cases e
    · cases e
  · rename_i xs k
    split at e
    · split at e
      · rename_i hc
        cases e
        simp only [Bool.and_eq_true, decide_eq_true_eq] at hc
        have r1' := r1
        cases r1 with
        | tup h1 q1 =>
        cases r2
        refine op_repZ pins s σ H _ _ v u Q I rx ry ⟨_, _, _, rfl, rfl, h1.sq, hc.1.1, hc.1.2, by rw [← q1.length]; exact hc.2, fun z => ?_, fun p o ho hp => ?_⟩
        · rw [rep_one xs (z.imp (fun z => q1.nil_iff.mpr z) id)] at q
          exact q _ _ _ (.refl rs) r1'
        · obtain ⟨af, rd⟩ := new_tup rs ho hp (q1.rep k.toNat)
          exact q _ _ _ af rd
      · cases e
    · cases e
  · rename_i k _ _
    split at e
    · rename_i xs e1
      split at e
      · rename_i hc
        cases e
        rw [Bool.and_eq_true, decide_eq_true_eq] at hc
        exact listsI e1 rfl rfl hc.1 hc.2 rfl
      · cases e
    · cases e
  · split at e
    · rename_i xs ys e1 e2
      split at e
      · rename_i hc
        cases e
        exact lists e1 e2 rfl hc rfl
      · cases e
    · cases e

/-! ### values as data -/
/-- l * k, to be changed -/
theorem op_repM {X : Cx} : OpR X (binaryOp .Mult) (fun x y H Q => ∃ α S dx dy, RS X.K H α S ∧ RD X.K H α dx x ∧ RD X.K H α dy y ∧ ∃ xs k, Ln.lstOf S dx = some xs ∧ dy = .int k ∧ Ln.small63 k = true ∧ xs.length * k.toNat ≤ Ln.line ∧
    ∀ v H' α', After X.K α H α' H' (S ++ [.lst (List.replicate k.toNat xs).flatten]) → RD X.K H' α' (.ref S.length) v → Q v H') := by
  intro pins s σ H x y v u Q I rx ry h
  obtain ⟨α, S, dx, dy, rs, r1, r2, xs, k, e1, e2, hs, hl, q⟩ := h
  subst e2
  obtain ⟨a, vs, rfl, h1, q1⟩ := lst_at rs r1 e1
  cases r2
  unfold Ln.small63 at hs
  rw [Bool.and_eq_true, decide_eq_true_eq, decide_eq_true_eq] at hs
  refine op_rep pins s σ H _ _ v u Q I rx ry ⟨a, k, vs, rfl, rfl, h1, hs.1, hs.2, by rw [← q1.length]; exact hl, fun p hp => ?_⟩
  obtain ⟨af, rd⟩ := After.alloc rs hp (q1.rep k.toNat)
  exact q _ _ _ af rd
/-- l + m, to be changed -/
theorem op_addM {X : Cx} : OpR X (binaryOp .Add) (fun x y H Q => ∃ α S dx dy, RS X.K H α S ∧ RD X.K H α dx x ∧ RD X.K H α dy y ∧ ∃ xs ys, Ln.lstOf S dx = some xs ∧ Ln.lstOf S dy = some ys ∧ xs.length + ys.length ≤ Ln.line ∧
    ∀ v H' α', After X.K α H α' H' (S ++ [.lst (xs ++ ys)]) → RD X.K H' α' (.ref S.length) v → Q v H') := by
  intro pins s σ H x y v u Q I rx ry h
  obtain ⟨α, S, dx, dy, rs, r1, r2, xs, ys, e1, e2, hl, q⟩ := h
  obtain ⟨a, vs, rfl, h1, q1⟩ := lst_at rs r1 e1
  obtain ⟨b, ws, rfl, h2, q2⟩ := lst_at rs r2 e2
  refine op_cat pins s σ H _ _ v u Q I rx ry ⟨a, b, vs, ws, rfl, rfl, h1, h2, by rw [← q1.length, ← q2.length]; exact hl, fun p hp => ?_⟩
  obtain ⟨af, rd⟩ := After.alloc rs hp (q1.append q2)
  exact q _ _ _ af rd
/-! ### dicts -/
section
variable {K : Frag} {H : Hp} {α : Al}
theorem key_at {d : D} {v : V} (r : RD K H α d v) (h : Ln.isKey d = true) : ∃ k : Key, v = kV k ∧ ∀ (j : Key) (e : D), RD K H α e (kV j) → Ln.keyIs d e = decide (j = k) := by
  cases d with
  | int i =>
    cases r
    refine ⟨.inl i, rfl, fun j e re => ?_⟩
    cases j with
    | inl n =>
      have : e = .int n := by cases re; rfl
      subst this
      show decide (i = n) = _
      rw [Bool.eq_iff_iff]
      simp only [decide_eq_true_eq]
      exact ⟨fun h => by rw [h], fun h => (Sum.inl.inj h).symm⟩
    | inr z =>
      have : e = .str z := by cases re; rfl
      subst this
      show false = _
      rw [Bool.eq_iff_iff]
      simp
  | str x =>
    cases r
    refine ⟨.inr x, rfl, fun j e re => ?_⟩
    cases j with
    | inl n =>
      have : e = .int n := by cases re; rfl
      subst this
      show false = _
      rw [Bool.eq_iff_iff]
      simp
    | inr z =>
      have : e = .str z := by cases re; rfl
      subst this
      show decide (x = z) = _
      rw [Bool.eq_iff_iff]
      simp only [decide_eq_true_eq]
      exact ⟨fun h => by rw [h], fun h => (Sum.inr.inj h).symm⟩
  | _ => cases h
theorem look_at {d : D} {k : Key} (hk : ∀ (j : Key) (e : D), RD K H α e (kV j) → Ln.keyIs d e = decide (j = k)) : ∀ {ks vs : List D} {kvs : List (Key × V)}, RDs K H α ks (kvs.map fun p => kV p.1) → RDs K H α vs (kvs.map (·.2)) →
    (∀ e, Ln.lookD d ks vs = some e → ∃ w, valV kvs k = some w ∧ RD K H α e w) ∧ (Ln.lookD d ks vs = none → valV kvs k = none) ∧ ks.any (Ln.keyIs d) = (valV kvs k).isSome := by
  intro ks vs kvs
  induction kvs generalizing ks vs with
  | nil => intro r1 r2; cases r1; cases r2; exact ⟨fun e h => by simp [Ln.lookD] at h, fun _ => rfl, rfl⟩
  | cons p kvs ih =>
    intro r1 r2
    cases r1 with
    | cons a1 b1 =>
    cases r2 with
    | cons a2 b2 =>
    have e1 := hk _ _ a1
    obtain ⟨i1, i2, i3⟩ := ih b1 b2
    simp only [Ln.lookD, List.any_cons, e1]
    by_cases h : p.1 = k
    · simp only [h, decide_true, if_true, Bool.true_or]
      rw [valV_pos h]
      exact ⟨fun e he => ⟨_, rfl, by cases he; exact a2⟩, fun he => (by cases he), rfl⟩
    · simp only [h, decide_false, Bool.false_or]
      rw [valV_neg h]
      exact ⟨fun e he => i1 e (by simpa using he), fun he => i2 (by simpa using he), i3⟩
theorem put_at {d e : D} {k : Key} {v : V} (rk : RD K H α d (kV k)) (hk : ∀ (j : Key) (e : D), RD K H α e (kV j) → Ln.keyIs d e = decide (j = k)) (rv : RD K H α e v) : ∀ {acc : List (D × D)} {kvs : List (Key × V)}, RDs K H α (acc.map (·.1)) (kvs.map fun p => kV p.1) → RDs K H α (acc.map (·.2)) (kvs.map (·.2)) →
    RDs K H α ((Ln.putD acc d e).map (·.1)) ((putK kvs k v).map fun p => kV p.1) ∧ RDs K H α ((Ln.putD acc d e).map (·.2)) ((putK kvs k v).map (·.2)) := by
  intro acc kvs r1 r2
  have any : ∀ {acc : List (D × D)} {kvs : List (Key × V)}, RDs K H α (acc.map (·.1)) (kvs.map fun p => kV p.1) → (acc.any fun p => Ln.keyIs d p.1) = kvs.any fun kv => decide (kv.1 = k) := by
    intro acc kvs r
    induction kvs generalizing acc with
    | nil =>
      cases acc with
      | nil => rfl
      | cons _ _ => cases r
    | cons p kvs ih =>
      cases acc with
      | nil => cases r
      | cons a acc =>
        cases r with
        | cons a1 b1 => rw [List.any_cons, List.any_cons, hk _ _ a1, ih b1]
  have mp : ∀ {acc : List (D × D)} {kvs : List (Key × V)}, RDs K H α (acc.map (·.1)) (kvs.map fun p => kV p.1) → RDs K H α (acc.map (·.2)) (kvs.map (·.2)) →
      RDs K H α ((acc.map fun p => if Ln.keyIs d p.1 then (p.1, e) else p).map (·.1)) ((kvs.map fun kv => if kv.1 = k then (kv.1, v) else kv).map fun p => kV p.1) ∧
      RDs K H α ((acc.map fun p => if Ln.keyIs d p.1 then (p.1, e) else p).map (·.2)) ((kvs.map fun kv => if kv.1 = k then (kv.1, v) else kv).map (·.2)) := by
    intro acc kvs r1 r2
    induction kvs generalizing acc with
    | nil =>
      cases acc with
      | nil => exact ⟨.nil, .nil⟩
      | cons _ _ => cases r1
    | cons p kvs ih =>
      cases acc with
      | nil => cases r1
      | cons a acc =>
        cases r1 with
        | cons a1 b1 =>
        cases r2 with
        | cons a2 b2 =>
        obtain ⟨i1, i2⟩ := ih b1 b2
        simp only [List.map_cons, hk _ _ a1, decide_eq_true_eq]
        by_cases h : p.1 = k
        · rw [if_pos h, if_pos h]
          exact ⟨.cons a1 i1, .cons rv i2⟩
        · rw [if_neg h, if_neg h]
          exact ⟨.cons a1 i1, .cons a2 i2⟩
  unfold Ln.putD putK
  rw [any r1]
  split
  · exact mp r1 r2
  · rw [List.map_append, List.map_append, List.map_append, List.map_append]
    exact ⟨r1.append (.cons rk .nil), r2.append (.cons rv .nil)⟩
theorem pairs_at' {xs : List D} {vs : List V} (r : RDs K H α xs vs) : ∀ {ps : List (D × D)}, Ln.pairsD xs = some ps → ∃ (as : List Addr) (kvs : List (Key × V)), vs = as.map V.ref ∧ Paired (fun p kv => SqT K H p [kV kv.1, kv.2]) as kvs ∧
    ∀ {acc : List (D × D)} {kv0 : List (Key × V)}, RDs K H α (acc.map (·.1)) (kv0.map fun p => kV p.1) → RDs K H α (acc.map (·.2)) (kv0.map (·.2)) →
      RDs K H α ((Ln.mergeD acc ps).map (·.1)) ((mergeK kv0 kvs).map fun p => kV p.1) ∧ RDs K H α ((Ln.mergeD acc ps).map (·.2)) ((mergeK kv0 kvs).map (·.2)) := by
  induction xs generalizing vs with
  | nil =>
    intro ps e
    cases r
    cases e
    exact ⟨[], [], rfl, .nil, fun r1 r2 => ⟨r1, r2⟩⟩
  | cons x xs ih =>
    intro ps e
    cases r with
    | cons r1 r2 =>
    unfold Ln.pairsD at e
    split at e
    · rename_i heq; cases heq
    · rename_i k v r heq
      cases heq
      split at e
      · rename_i hk
        rw [Option.map_eq_some_iff] at e
        obtain ⟨ps', e, rfl⟩ := e
        obtain ⟨as, kvs, rfl, hp, hm⟩ := ih r2 e
        cases r1 with
        | tup h q =>
        cases q with
        | cons q1 q =>
        cases q with
        | cons q2 q =>
        cases q
        obtain ⟨key, rfl, hkey⟩ := key_at q1 hk
        refine ⟨_ :: as, (key, _) :: kvs, rfl, .cons h.sq hp, fun {acc kv0} r1 r2 => ?_⟩
        obtain ⟨i1, i2⟩ := put_at q1 hkey q2 r1 r2
        exact hm i1 i2
      · cases e
    · cases e
end
theorem mapM_nil {α β : Type} {f : α → Option β} {ys : List β} (e : ([] : List α).mapM f = some ys) : ys = [] := by
  simp at e; exact e
theorem mapM_cons {α β : Type} {f : α → Option β} {x : α} {xs : List α} {ys : List β} (e : (x :: xs).mapM f = some ys) : ∃ y ys', f x = some y ∧ xs.mapM f = some ys' ∧ ys = y :: ys' := by
  simp only [List.mapM_cons, Option.bind_eq_bind, Option.pure_def] at e
  cases h1 : f x with
  | none => rw [h1] at e; cases e
  | some y =>
    rw [h1] at e
    cases h2 : xs.mapM f with
    | none => rw [h2] at e; cases e
    | some ys' =>
      rw [h2] at e
      cases e
      exact ⟨y, ys', rfl, rfl, rfl⟩

section
variable {X : Cx} {pins : List (Addr × Obj)} {σ : L2.St} {H : Hp} {s : Shared} {α : Al} {S : Store}
theorem kv_vals {kvs : List (Key × V)} {vs : List (Key × Value)} (r : KV kvs vs) : Vals (kvs.map (·.2)) (vs.map (·.2)) := by
  induction r with
  | nil => exact .nil
  | cons h _ ih => exact .cons h.2 ih
theorem kv_pairs {P : Program} {w : World} {es : List DictEntry} {ws : List (Key × Value)} (p : Pairs (mixKind P w) es ws) : ∀ {kvs : List (Key × V)}, KV kvs ws → Vals (kvs.map fun p => kV p.1) (es.map (·.key)) ∧ Vals (kvs.map (·.2)) (es.map (·.val)) := by
  induction p with
  | nil => intro kvs r; cases r; exact ⟨.nil, .nil⟩
  | cons h1 h2 t ih =>
    intro kvs r
    cases r with
    | cons h r =>
    obtain ⟨i1, i2⟩ := ih r
    refine ⟨.cons ?_ i1, .cons ?_ i2⟩
    · rw [← h.1] at h1
      rcases keyIs_shape h1 with ⟨i, t, e1, e2⟩ | ⟨x, t, e1, e2⟩
      · simp only []
        rw [e1, e2]; exact ⟨t, rfl⟩
      · simp only []
        rw [e1, e2]; exact ⟨t, rfl⟩
    · simp only []
      rw [h2]; exact h.2
theorem mapM_len {α β : Type} {f : α → Option β} : ∀ {xs : List α} {ys : List β}, xs.mapM f = some ys → ys.length = xs.length
  | [], _, e => by rw [mapM_nil e]; rfl
  | x :: xs, _, e => by
    obtain ⟨y, ys', _, e2, rfl⟩ := mapM_cons e
    rw [List.length_cons, List.length_cons, mapM_len e2]
/-- what a value reads as, with the addresses of its lists and dicts: none is the table of modules -/
theorem reads_of (I : Inv X pins σ H s) (rs : RS X.K H α S) : ∀ (k : Nat) (d : D) (v : V) (u : Value) (p : PyData), RD X.K H α d v → RelV v u → Ln.toP S k d = some p → ∃ as, Reads s.heap u p as ∧ sysModules ∉ as := by
  have ns : ∀ {a : Addr} {o : HO}, H a = some o → (∀ φ, o ≠ .ext φ) → a ≠ sysModules := fun {a o} h n z => by
    obtain ⟨φ, e⟩ := rs.sm.1
    rw [z, e] at h
    cases h
    exact n φ rfl
  have seqs : ∀ (k : Nat), (∀ (d : D) (v : V) (u : Value) (p : PyData), RD X.K H α d v → RelV v u → Ln.toP S k d = some p → ∃ as, Reads s.heap u p as ∧ sysModules ∉ as) →
      ∀ (ds : List D) (vs : List V) (us : List Value) (ps : List PyData), RDs X.K H α ds vs → Vals vs us → ds.mapM (Ln.toP S k) = some ps → ∃ as, ReadsAll s.heap us ps as ∧ sysModules ∉ as := by
    intro k ih ds
    induction ds with
    | nil =>
      intro vs us ps r v e
      cases r; cases v
      rw [mapM_nil e]
      exact ⟨[], .nil, by simp⟩
    | cons d ds ihs =>
      intro vs us ps r v e
      cases r with
      | cons r1 r2 =>
      cases v with
      | cons v1 v2 =>
      obtain ⟨p, ps', e1, e2, rfl⟩ := mapM_cons e
      obtain ⟨as, h1, g1⟩ := ih _ _ _ _ r1 v1 e1
      obtain ⟨bs, h2, g2⟩ := ihs _ _ _ r2 v2 e2
      exact ⟨as ++ bs, .cons h1 h2, fun z => (List.mem_append.mp z).elim g1 g2⟩
  have lst : ∀ (k : Nat), (∀ (d : D) (v : V) (u : Value) (p : PyData), RD X.K H α d v → RelV v u → Ln.toP S k d = some p → ∃ as, Reads s.heap u p as ∧ sysModules ∉ as) →
      ∀ (a : Addr) (xs : List D) (vs : List V) (ps : List PyData), H a = some (.lst vs) → RDs X.K H α xs vs → xs.mapM (Ln.toP S k) = some ps → ∃ as, Reads s.heap (.ref a) (.list ps) as ∧ sysModules ∉ as := by
    intro k ih a xs vs ps h r e
    obtain ⟨hz, its, n, rv, ho⟩ := (show ObjOk X.prog X.w H s.heap a (.lst vs) from I.hok a _ h)
    obtain ⟨as, h1, g1⟩ := seqs k ih _ _ _ _ r rv e
    refine ⟨a :: as, Reads.list ho rfl rfl h1, fun z => ?_⟩
    rcases List.mem_cons.mp z with z | z
    · exact ns h (fun φ q => nomatch q) z.symm
    · exact g1 z
  have dct : ∀ (k : Nat), (∀ (d : D) (v : V) (u : Value) (p : PyData), RD X.K H α d v → RelV v u → Ln.toP S k d = some p → ∃ as, Reads s.heap u p as ∧ sysModules ∉ as) →
      ∀ (a : Addr) (ks vs : List D) (kvs : List (Key × V)) (p : PyData), H a = some (.dK kvs) → RDs X.K H α ks (kvs.map fun p => kV p.1) → RDs X.K H α vs (kvs.map (·.2)) →
        ((ks.mapM (Ln.toP S k)).bind fun a => (vs.mapM (Ln.toP S k)).map fun b => PyData.dict (a.zip b)) = some p → ∃ as, Reads s.heap (.ref a) p as ∧ sysModules ∉ as := by
    intro k ih a ks vs kvs p h r1 r2 e
    obtain ⟨hz, hsm, ws, kv, o, es, ep, ho, ex, hd, hko, hp, hn⟩ := (show ObjOk X.prog X.w H s.heap a (.dK kvs) from I.hok a _ h)
    cases e1 : ks.mapM (Ln.toP S k) with
    | none => rw [e1] at e; cases e
    | some pa =>
    cases e2 : vs.mapM (Ln.toP S k) with
    | none => rw [e1, e2] at e; cases e
    | some pb =>
    rw [e1, e2] at e
    cases e
    obtain ⟨v1, v2⟩ := kv_pairs hp kv
    obtain ⟨as, h1, g1⟩ := seqs k ih _ _ _ _ r1 v1 e1
    obtain ⟨bs, h2, g2⟩ := seqs k ih _ _ _ _ r2 v2 e2
    have l1 := mapM_len e1
    have l2 := mapM_len e2
    have l3 := r1.length
    have l4 := r2.length
    rw [List.length_map] at l3 l4
    have z1 : (pa.zip pb).map (·.1) = pa := List.map_fst_zip (by omega)
    have z2 : (pa.zip pb).map (·.2) = pb := List.map_snd_zip (by omega)
    refine ⟨a :: as ++ bs, Reads.dict ho ex.1 hd (by rw [z1]; exact h1) (by rw [z2]; exact h2), fun z => ?_⟩
    rcases List.mem_append.mp z with z | z
    · rcases List.mem_cons.mp z with z | z
      · exact ns h (fun φ q => nomatch q) z.symm
      · exact g1 z
    · exact g2 z
  intro k
  induction k with
  | zero =>
    intro d v u p r rv e
    cases r <;> simp only [Ln.toP] at e <;> (try cases e)
    · cases rv; exact ⟨_, .none, by simp⟩
    · cases rv; exact ⟨_, .bool _, by simp⟩
    · obtain ⟨t, rfl⟩ := rv; exact ⟨_, .int _ _, by simp⟩
    · obtain ⟨t, rfl⟩ := rv; exact ⟨_, .str _ _, by simp⟩
  | succ k ih =>
    intro d v u p r rv e
    cases r with
    | non => cases e; cases rv; exact ⟨_, .none, by simp⟩
    | bl b => cases e; cases rv; exact ⟨_, .bool _, by simp⟩
    | int i => cases e; obtain ⟨t, rfl⟩ := rv; exact ⟨_, .int _ _, by simp⟩
    | str x => cases e; obtain ⟨t, rfl⟩ := rv; exact ⟨_, .str _ _, by simp⟩
    | tup h r =>
      cases rv
      simp only [Ln.toP, Option.map_eq_some_iff] at e
      obtain ⟨ps, e, rfl⟩ := e
      obtain ⟨its, rv, ⟨o, ho, hc, n, hd⟩, _⟩ := I.tuple h.sq
      obtain ⟨as, h1, g1⟩ := seqs k ih _ _ _ _ r rv e
      exact ⟨as, Reads.tuple ho hc hd h1, g1⟩
    | wtp h r => cases e
    | lst n h r =>
      cases rv
      simp only [Ln.toP, Option.map_eq_some_iff] at e
      obtain ⟨ps, e, rfl⟩ := e
      exact lst k ih _ _ _ _ h r e
    | frz h r => cases e
    | exn0 h => cases e
    | exn1 h n k l r => cases e
    | dct n h r1 r2 =>
      cases rv
      exact dct k ih _ _ _ _ _ h r1 r2 e
    | ref h =>
      cases rv
      simp only [Ln.toP] at e
      split at e
      · rename_i xs hS
        obtain ⟨vs, h1, h2⟩ := rs.at_ _ _ _ h hS
        rw [Option.map_eq_some_iff] at e
        obtain ⟨ps, e, rfl⟩ := e
        exact lst k ih _ _ _ _ h1 h2 e
      · rename_i ks vs hS
        obtain ⟨kvs, h1, h2, h3⟩ := rs.at_ _ _ _ h hS
        exact dct k ih _ _ _ _ _ h1 h2 h3 e
      · cases e
end

/-! ### comparisons -/
def copOf : Ln.Cop → CmpOp
  | .eq => .Eq
  | .ne => .NotEq
  | .lt => .Lt
  | .le => .LtE
  | .gt => .Gt
  | .ge => .GtE
  | .is => .Is
  | .isNot => .IsNot
  | .isIn => .In
  | .notIn => .NotIn
theorem eqP_split {S : Store} {x y : D} {b : Bool} (e : Ln.eqP S x y = some b) : ∃ p q, Ln.dat S x = some p ∧ Ln.dat S y = some q ∧ SeqAt.shaped p = true ∧ SeqAt.shaped q = true ∧ b = PyData.eqv p q := by
  unfold Ln.eqP at e
  split at e
  · rename_i p q h1 h2
    split at e
    · rename_i h
      cases e
      rw [Bool.and_eq_true] at h
      exact ⟨p, q, h1, h2, h.1, h.2, rfl⟩
    · cases e
  · cases e
theorem mapM_dat {S : Store} {ys : List D} {ps : List PyData} (e : ys.mapM (Ln.dat S) = some ps) : ys.mapM (Ln.toP S 24) = some ps := e
theorem isD_bool {dx : D} {b : Bool} {y : D} (e : Ln.isD dx y = some b) : (y = .non) ∨ (∃ k, y = .bl k) := by
  cases y <;> simp [Ln.isD] at e ⊢
section
variable {X : Cx}
theorem is_none_any {pins : List (Addr × Obj)} {s : Shared} {σ : L2.St} {H : Hp} {α : Al} {dx : D} {x : V} {v u : Value} {Q : VK} {b : Bool} {c : CmpOp} (neg : Bool) (hc : c = if neg then .IsNot else .Is) (I : Inv X pins σ H s) (r1 : RD X.K H α dx x) (rx : RelV x v) (ry : RelV .non u)
    (e : Ln.isD dx .non = some b) (q : Q (.bl (if neg then !b else b)) H) : wpAny (model X.prog X.w) X.A (compareOp c v u) (EP X pins σ Q) X.xe s := by
  have eb : b = decide (x = .non) := by
    cases r1 <;> simp [Ln.isD] at e <;> simp [e]
  subst eb
  cases neg with
  | true =>
    rw [hc]
    exact op_notN pins s σ H _ _ v u Q I rx ry ⟨rfl, q⟩
  | false =>
    rw [hc]
    exact op_isN pins s σ H _ _ v u Q I rx ry ⟨rfl, q⟩
end

section
variable {X : Cx}
theorem op_eqs (neg : Bool) {c : CmpOp} (hc : c = if neg then .NotEq else .Eq) (hu : X.A.units + 64 < cLine) : OpR X (compareOp c) (rOB X.K fun x y S => (Ln.eqD S x y).map fun b => if neg then !b else b) := by
  intro pins s σ H x y v u Q I rx ry h
  obtain ⟨α, S, dx, dy, b, rs, r1, r2, e, q⟩ := h
  rw [Option.map_eq_some_iff] at e
  obtain ⟨b', e, rfl⟩ := e
  have e : (∃ i j, dx = .int i ∧ dy = .int j ∧ b' = decide (i = j)) ∨ (∃ i j, dx = .str i ∧ dy = .str j ∧ b' = decide (i = j)) ∨ Ln.eqP S dx dy = some b' := by
    unfold Ln.eqD at e
    split at e
    · cases e; exact .inl ⟨_, _, rfl, rfl, rfl⟩
    · cases e; exact .inr (.inl ⟨_, _, rfl, rfl, rfl⟩)
    · exact .inr (.inr e)
  rcases e with ⟨i, j, rfl, rfl, rfl⟩ | ⟨i, j, rfl, rfl, rfl⟩ | e
  · cases r1; cases r2
    cases neg with
    | true => rw [hc]; exact op_ne pins s σ H _ _ v u Q I rx ry ⟨rfl, by simpa using q⟩
    | false => rw [hc]; exact op_eq pins s σ H _ _ v u Q I rx ry ⟨rfl, by simpa using q⟩
  · cases r1; cases r2
    cases neg with
    | true => rw [hc]; exact op_ne pins s σ H _ _ v u Q I rx ry ⟨rfl, by simpa using q⟩
    | false => rw [hc]; exact op_eq pins s σ H _ _ v u Q I rx ry ⟨rfl, by simpa using q⟩
  obtain ⟨p, p', e1, e2, s1, s2, rfl⟩ := eqP_split e
  obtain ⟨as, h1, _⟩ := reads_of I rs _ _ _ _ _ r1 rx e1
  obtain ⟨bs, h2, _⟩ := reads_of I rs _ _ _ _ _ r2 ry e2
  cases neg with
  | true => rw [hc]; exact SeqAt.compareNe_shaped h1 h2 s1 s2 hu ⟨.bl _, H, I, rfl, q⟩
  | false => rw [hc]; exact SeqAt.compareEq_shaped h1 h2 s1 s2 hu ⟨.bl _, H, I, rfl, q⟩
theorem op_iss (neg : Bool) {c : CmpOp} (hc : c = if neg then .IsNot else .Is) : OpR X (compareOp c) (rOB X.K fun x y S => (Ln.isD x y).map fun b => if neg then !b else b) := by
  intro pins s σ H x y v u Q I rx ry h
  obtain ⟨α, S, dx, dy, b, rs, r1, r2, e, q⟩ := h
  rw [Option.map_eq_some_iff] at e
  obtain ⟨b', e, rfl⟩ := e
  rcases isD_bool e with rfl | ⟨k, rfl⟩
  · cases r2
    exact is_none_any neg hc I r1 rx ry e q
  · cases r2
    cases r1 <;> simp [Ln.isD] at e
    subst e
    cases neg with
    | true => rw [hc]; refine op_notBl pins s σ H _ _ v u Q I rx ry ⟨_, _, rfl, rfl, ?_⟩; simpa [Bool.beq_eq_decide_eq] using q
    | false => rw [hc]; refine op_isBl pins s σ H _ _ v u Q I rx ry ⟨_, _, rfl, rfl, ?_⟩; simpa [Bool.beq_eq_decide_eq] using q
theorem op_ins (neg : Bool) {c : CmpOp} (hc : c = if neg then .NotIn else .In) (hu : X.A.units + 65 < cLine) : OpR X (compareOp c) (rOB X.K fun x y S => (Ln.inD S x y).map fun b => if neg then !b else b) := by
  intro pins s σ H x y v u Q I rx ry h
  obtain ⟨α, S, dx, dy, b, rs, r1, r2, e, q⟩ := h
  rw [Option.map_eq_some_iff] at e
  obtain ⟨b', e, rfl⟩ := e
  unfold Ln.inD at e
  split at e
  · rename_i ks ws
    split at e
    · rename_i hk
      cases e
      obtain ⟨key, rfl, hkey⟩ := key_at r1 hk
      cases r2 with
      | dct n hH q1 q2 =>
      cases ry
      obtain ⟨_, _, e3⟩ := look_at hkey q1 q2
      rw [e3] at q
      cases neg with
      | true => rw [hc]; exact d_notIn (by omega) I (DGet.k hH) rx fun s' I' => ⟨.bl _, H, I', rfl, q⟩
      | false => rw [hc]; exact d_in (by omega) I (DGet.k hH) rx fun s' I' => ⟨.bl _, H, I', rfl, q⟩
    · cases e
  · rename_i z
    split at e
    · rename_i z'
      cases e
      cases r1; cases r2
      cases neg with
      | true => rw [hc]; exact op_notin_str pins s σ H _ _ v u Q I rx ry ⟨_, _, rfl, rfl, q⟩
      | false => rw [hc]; exact op_in_str pins s σ H _ _ v u Q I rx ry ⟨_, _, rfl, rfl, q⟩
    · cases e
  · rename_i hstr
    split at e
    · rename_i p ys e1 e2
      split at e
      · rename_i ps e3
        split at e
        · rename_i hs
          cases e
          rw [Bool.and_eq_true] at hs
          obtain ⟨as, h1, _⟩ := reads_of I rs _ _ _ _ _ r1 rx e1
          obtain ⟨a, vs, rfl, hsq, rds⟩ := seq_at rs r2 e2
          have c1 := SeqAt.canLay_of_shaped hs.1
          have c2 := SeqAt.canLay_of_shaped hs.2
          have rm := room_in_shaped (xs := ps) hs.1 hu
          have items : ∀ {us : List Value}, Vals vs us → ∃ bs, ReadsAll s.heap us ps bs := fun {us} rv => by
            have g : ∀ (ds : List D) (ws : List V) (us : List Value) (ps : List PyData), RDs X.K H α ds ws → Vals ws us → ds.mapM (Ln.dat S) = some ps → ∃ bs, ReadsAll s.heap us ps bs := by
              intro ds
              induction ds with
              | nil => intro ws us ps r v e; cases r; cases v; rw [mapM_nil e]; exact ⟨_, .nil⟩
              | cons d ds ih =>
                intro ws us ps r v e
                cases r with
                | cons r1 r2 =>
                cases v with
                | cons v1 v2 =>
                obtain ⟨p, ps', g1, g2, rfl⟩ := mapM_cons e
                obtain ⟨_, k1, _⟩ := reads_of I rs _ _ _ _ _ r1 v1 g1
                obtain ⟨_, k2⟩ := ih _ _ _ r2 v2 g2
                exact ⟨_, .cons k1 k2⟩
            exact g ys vs us ps rds rv e3
          cases ry
          rcases hsq with hsq | hsq
          · obtain ⟨its, rv, ⟨o, n, ho, hcl, _, hd⟩, _⟩ := I.list hsq
            obtain ⟨bs, hr⟩ := items rv
            have h2 : Reads s.heap (.ref a) (.list ps) _ := Reads.list ho hcl hd hr
            cases neg with
            | true => rw [hc]; exact SeqAt.notIn_list_reads h2 h1 c2 c1 rm ⟨.bl _, H, I, rfl, q⟩
            | false => rw [hc]; exact SeqAt.in_list_reads h2 h1 c2 c1 rm ⟨.bl _, H, I, rfl, q⟩
          · obtain ⟨its, rv, ⟨o, ho, hcl, n, hd⟩, _⟩ := I.tuple hsq
            obtain ⟨bs, hr⟩ := items rv
            have h2 : Reads s.heap (.ref a) (.tuple ps) _ := Reads.tuple ho hcl hd hr
            have c3 : PyData.canLay0 (.tuple ps) = true := by simpa [PyData.canLay0] using c2
            cases neg with
            | true => rw [hc]; exact SeqAt.notIn_tuple_reads h2 h1 c3 c1 rm ⟨.bl _, H, I, rfl, q⟩
            | false => rw [hc]; exact SeqAt.in_tuple_reads h2 h1 c3 c1 rm ⟨.bl _, H, I, rfl, q⟩
        · cases e
      · cases e
    · cases e
theorem op_cop (c : Ln.Cop) (hu : X.A.units + 65 < cLine) : OpR X (compareOp (copOf c)) (rOB X.K (Ln.cop c)) := by
  intro pins s σ H x y v u Q I rx ry h
  have h' := h
  obtain ⟨α, S, dx, dy, b, rs, r1, r2, e, q⟩ := h
  cases c with
  | eq => exact op_eqs false rfl (by omega) pins s σ H x y v u Q I rx ry ⟨α, S, dx, dy, b, rs, r1, r2, by simpa [Ln.cop] using e, q⟩
  | ne => exact op_eqs true rfl (by omega) pins s σ H x y v u Q I rx ry ⟨α, S, dx, dy, b, rs, r1, r2, by simpa [Ln.cop] using e, q⟩
  | «is» => exact op_iss false rfl pins s σ H x y v u Q I rx ry ⟨α, S, dx, dy, b, rs, r1, r2, by simpa [Ln.cop] using e, q⟩
  | isNot => exact op_iss true rfl pins s σ H x y v u Q I rx ry ⟨α, S, dx, dy, b, rs, r1, r2, by simpa [Ln.cop] using e, q⟩
  | isIn => exact op_ins false rfl hu pins s σ H x y v u Q I rx ry ⟨α, S, dx, dy, b, rs, r1, r2, by simpa [Ln.cop] using e, q⟩
  | notIn => exact op_ins true rfl hu pins s σ H x y v u Q I rx ry ⟨α, S, dx, dy, b, rs, r1, r2, by simpa [Ln.cop] using e, q⟩
  | lt =>
    simp only [Ln.cop] at e
    split at e
    · cases e; cases r1; cases r2
      exact op_lt pins s σ H _ _ v u Q I rx ry ⟨_, _, rfl, rfl, q⟩
    · cases e; cases r1; cases r2
      exact op_lt_str pins s σ H _ _ v u Q I rx ry ⟨_, _, rfl, rfl, q⟩
    · cases e
  | le =>
    simp only [Ln.cop] at e
    split at e
    · cases e; cases r1; cases r2
      exact op_le pins s σ H _ _ v u Q I rx ry ⟨_, _, rfl, rfl, q⟩
    · cases e
  | gt =>
    simp only [Ln.cop] at e
    split at e
    · cases e; cases r1; cases r2
      exact op_gt pins s σ H _ _ v u Q I rx ry ⟨_, _, rfl, rfl, q⟩
    · cases e
  | ge =>
    simp only [Ln.cop] at e
    split at e
    · cases e; cases r1; cases r2
      exact op_ge pins s σ H _ _ v u Q I rx ry ⟨_, _, rfl, rfl, q⟩
    · cases e
end
end LnS

set_option linter.all false
set_option maxRecDepth 100000
/-! Ln: subscripts, slices, isinstance. -/
namespace LnS
open PySem L2 PyProof.Rows
open Ln (D O Store Rho M R Ex)
variable [Tbs]

theorem place_eq : Ln.place = ixN := rfl
theorem atP_eq {α : Type} : @Ln.atP α = @atI α := rfl
theorem bnd_eq (n d : Nat) (o : Option Int) : Ln.bnd n d o = HT.sIx n d o := by cases o <;> rfl
theorem cut_eq (xs : List V) (lo hi : Option Int) : Ln.cut xs lo hi = cutV xs lo hi := by
  unfold Ln.cut cutV
  rw [bnd_eq, bnd_eq]
section
variable {K : Frag} {H : Hp} {α : Al}
theorem RDs.cut {ds : List D} {vs : List V} (r : RDs K H α ds vs) (lo hi : Option Int) : RDs K H α (Ln.cut ds lo hi) (cutV vs lo hi) := by
  rw [← cut_eq]
  unfold Ln.cut
  rw [r.length]
  exact (r.drop _).take _
theorem RDs.atI {ds : List D} {vs : List V} (r : RDs K H α ds vs) {i : Int} {d : D} (e : Ln.atP ds i = some d) : ∃ v, atI vs i = some v ∧ RD K H α d v := by
  unfold Ln.atP at e
  cases h : Ln.place ds.length i with
  | none => rw [h] at e; cases e
  | some j =>
    rw [h] at e
    obtain ⟨v, h1, h2⟩ := r.get e
    refine ⟨v, ?_, h2⟩
    unfold L2.atI
    rw [← r.length, show ixN ds.length i = some j from h]
    exact h1
end
section
variable {X : Cx}
theorem ix_dk (hu : X.A.units + 65 < cLine) {value slice : Expr} {pins : List (Addr × Obj)} {s : Shared} {σ : L2.St} {H : Hp} {α : Al} {S : Store} {dy : D} {x y : V} {v u : Value} {Q : VK} {ks vs : List D} {d : D} (I : Inv X pins σ H s) (rx : RelV x v) (ry : RelV y u)
    (rs : RS X.K H α S) (r1 : RD X.K H α (.dct ks vs) x) (r2 : RD X.K H α dy y) (hk : Ln.isKey dy = true) (e : Ln.lookD dy ks vs = some d) (q : ∀ v H' α', After X.K α H α' H' S → RD X.K H' α' d v → Q v H')
    (hs : subscripted slice false v u = operate [v, u] (getItem v u)) : wpAny (model X.prog X.w) X.A (subscriptTail value slice v u) (EP X pins σ Q) X.xe s := by
  obtain ⟨key, rfl, hkey⟩ := key_at r2 hk
  cases r1 with
  | dct n hH q1 q2 =>
  obtain ⟨e1, _, _⟩ := look_at hkey q1 q2
  obtain ⟨w, h1, h2⟩ := e1 d e
  cases rx
  have g : DGet H _ (kV key) (some w) := h1 ▸ DGet.k hH
  exact tail_any (dict_typeIs I g) PySem.F.slot_dict_getitem.lookup (d_getItem (by omega) I g ry fun w' s' I' rw' => ⟨w, H, I', rw', q _ _ _ (.refl rs) h2⟩) hs
theorem ix_d (hu : X.A.units + 65 < cLine) : IxR X (rO X.K fun x i S => Ln.idxD S x i) := by
  intro value slice pins s σ H x y v u Q I rx ry h hs
  obtain ⟨α, S, dx, dy, d, rs, r1, r2, e, q⟩ := h
  simp only [Ln.idxD] at e
  split at e
  · rename_i i
    cases r2
    split at e
    · rename_i z
      cases r1
      split at e
      · rename_i hz
        rw [Option.map_eq_some_iff] at e
        obtain ⟨c, e, rfl⟩ := e
        exact ix_str value slice pins s σ H _ _ v u Q I rx ry ⟨z, i, c, rfl, rfl, hz, e, q _ _ _ (.refl rs) (.str _)⟩ hs
      · cases e
    · rename_i ks ws
      exact ix_dk hu I rx ry rs r1 (.int _) rfl e q hs
    · rw [Option.bind_eq_some_iff] at e
      obtain ⟨xs, e1, e2⟩ := e
      obtain ⟨a, vs, rfl, hq, rds⟩ := seq_at rs r1 e1
      obtain ⟨w, h1, h2⟩ := rds.atI e2
      rcases hq with hq | hq
      · exact ix_list value slice pins s σ H _ _ v u Q I rx ry ⟨a, vs, i, w, rfl, rfl, hq, h1, q _ _ _ (.refl rs) h2⟩ hs
      · exact ix_tup value slice pins s σ H _ _ v u Q I rx ry ⟨a, vs, i, w, rfl, rfl, hq, h1, q _ _ _ (.refl rs) h2⟩ hs
  · cases r2
    split at e
    · exact ix_dk hu I rx ry rs r1 (.str _) rfl e q hs
    · cases e
  · cases e

/-- slices by values -/
def rSl (K : Frag) : V → Option Int → Option Int → Hp → VK → Prop := fun x lo hi H Q => ∃ α S dx d, RS K H α S ∧ RD K H α dx x ∧ Ln.slcD S dx lo hi = some d ∧ ∀ v H' α', After K α H α' H' S → RD K H' α' d v → Q v H'
theorem sl_d : SlR X (rSl X.K) := by
  intro pins s σ H x v vl vu lo hi sl Q I rx hs pl pu h
  obtain ⟨α, S, dx, d, rs, r1, e, q⟩ := h
  unfold Ln.slcD at e
  split at e
  · rename_i z
    cases r1
    split at e
    · rename_i hz
      cases e
      refine sl_str pins s σ H _ v vl vu lo hi sl Q I rx hs pl pu ⟨z, rfl, hz, ?_⟩
      have e2 : cutS z lo hi = ⟨(Ln.cut z.cps.toList lo hi).toArray⟩ := by
        unfold cutS Ln.cut
        rw [bnd_eq, bnd_eq, Array.length_toList]
        rfl
      rw [e2]
      exact q _ _ _ (.refl rs) (.str _)
    · cases e
  · rename_i xs
    cases e
    have r1' := r1
    cases r1 with
    | tup h1 q1 =>
    rename_i a vs
    refine sl_tupZ pins s σ H _ v vl vu lo hi sl Q I rx hs pl pu ⟨a, vs, rfl, h1.sq, fun z => ?_, fun _ p o ho hp => ?_⟩
    · have e3 : Ln.cut xs lo hi = xs := by
        unfold Ln.cut
        rw [bnd_eq, bnd_eq, q1.length, z.1, z.2, List.drop_zero, ← q1.length, Nat.sub_zero, List.take_length]
      rw [e3] at q
      exact q _ _ _ (.refl rs) r1'
    · obtain ⟨af, rd⟩ := new_tup rs ho hp (q1.cut lo hi)
      exact q _ _ _ af rd
  · rw [Option.map_eq_some_iff] at e
    obtain ⟨xs, e, rfl⟩ := e
    obtain ⟨a, vs, rfl, h1, q1⟩ := lst_at rs r1 e
    refine sl_list pins s σ H _ v vl vu lo hi sl Q I rx hs pl pu ⟨a, vs, rfl, SqL.of h1, fun p hp => ?_⟩
    obtain ⟨af, rd⟩ := new_lst rs hp (q1.cut lo hi)
    exact q _ _ _ af rd
end

/-! ### t[::-1] -/
section
variable {prog : Program} {w : World} {A : Around} {E : Value → Shared → Prop} {s : Shared}
theorem rev_places (n : Nat) : Builtin.Slice.slicePlaces ((n : Int) - 1) (-1) (-1) = n := by
  unfold Builtin.Slice.slicePlaces
  have h1 : ¬ ((-1 : Int) > 0) := by decide
  simp only [h1, if_false]
  have e : (-(-1 : Int)) = 1 := rfl
  rw [e]
  simp only [Int.ediv_one]
  split <;> omega
theorem filterMap_eqs {α β : Type} {f g : α → Option β} : ∀ {l : List α}, (∀ x ∈ l, f x = g x) → l.filterMap f = l.filterMap g
  | [], _ => rfl
  | x :: l, h => by rw [List.filterMap_cons, List.filterMap_cons, h x List.mem_cons_self, filterMap_eqs fun y hy => h y (List.mem_cons_of_mem _ hy)]
theorem rev_pick (xs : Array Value) : ((List.range xs.size).filterMap fun (m : Nat) => xs[((((xs.size : Nat) : Int) - 1) + (m : Int) * (-1)).toNat]?).toArray = xs.toList.reverse.toArray := by
  have e : (List.range xs.size).filterMap (fun (m : Nat) => xs[((((xs.size : Nat) : Int) - 1) + (m : Int) * (-1)).toNat]?) = (List.range xs.size).filterMap fun m => xs[xs.size - 1 - m]? := by
    refine filterMap_eqs fun m hm => ?_
    have := List.mem_range.mp hm
    have e : ((((xs.size : Nat) : Int) - 1) + (m : Int) * (-1)).toNat = xs.size - 1 - m := by omega
    rw [e]
  rw [e, show (fun m => xs[xs.size - 1 - m]?) = (fun k => xs[k]?) ∘ fun m => xs.size - 1 - m from rfl, ← List.filterMap_map, PySem.W.krv_range, List.filterMap_reverse, PySem.W.krv_all]
theorem sliceApplied_rev {sl : Addr} {vl vu vs : Value} {n : Nat} {Q : Int × Int × Nat → Shared → Prop} (hs : s.heap.IsSliceOf sl vl vu vs) (pl : IsPart vl none) (pu : IsPart vu none) (ps : IsPart vs (some (-1)))
    (h : Q ((n : Int) - 1, -1, n) s) : wpAny (model prog w) A (Builtin.Slice.sliceApplied (.ref sl) (pure (n : Int))) Q E s := by
  obtain ⟨os, hos, hcs, hds⟩ := id hs
  unfold Builtin.Slice.sliceApplied Builtin.Slice.sliceFields
  refine wpAny_bind (wpAny_bind (wpAny_field hos hds (x := vl) rfl (wpAny_bind (wpAny_field hos hds (x := vu) rfl (wpAny_bind (wpAny_field hos hds (x := vs) rfl (wpAny_pure ?_)))))))
  refine wpAny_bind (HT.slicePart_ ps ?_)
  show wpAny _ _ (if ((-1 : Int) == 0) = true then _ else _) _ _ s
  rw [if_neg (by decide)]
  refine wpAny_bind (HT.slicePart_ pl (wpAny_bind (HT.slicePart_ pu (wpAny_bind (wpAny_pure ?_)))))
  show wpAny _ _ (pure ((n : Int) - 1, (-1 : Int), Builtin.Slice.slicePlaces ((n : Int) - 1) (-1) (-1))) _ _ s
  rw [rev_places]
  exact wpAny_pure h
theorem getItem_tuple_rev {t sl : Addr} {items : Array Value} {vl vu vs : Value} {Q : Value → Shared → Prop} (ht : IsTup s.heap t items) (hs : s.heap.IsSliceOf sl vl vu vs) (pl : IsPart vl none) (pu : IsPart vu none) (ps : IsPart vs (some (-1)))
    (h : Q (.ref s.heap.objs.size) { s with heap := s.heap.push { cls := .type "tuple", data := .seq items.toList.reverse.toArray } })
    (hsz : items.size ≤ sizeLine) : wpAny (model prog w) A (getItem (.ref t) (.ref sl)) Q E s := by
  have htake : sizeOk (.seq items.toList.reverse.toArray) := by
    show items.toList.reverse.toArray.size ≤ sizeLine
    rw [List.size_toArray, List.length_reverse, Array.length_toList]
    exact hsz
  obtain ⟨os, hos, hcs, hds⟩ := id hs
  have hTs : s.TypeIs (.ref sl) "slice" := ⟨os, hos, hcs⟩
  unfold getItem
  try with_reducible refine wpAny_holding ?_
  first | refine wpAny_bind (wpAny_pure ?_) | skip
  refine wpAny_bind (wpAny_sequenceKey ht.typeIs (by decide) ?_)
  refine wpAny_bind (wpAny_callSpecial?_slot (name := Str.ofString "__getitem__") ht.typeIs PyProof.Rows.slot_tuple_getitem
    (wpAny_call_entry PyProof.Rows.slot_tuple_getitem ht.typeIs entry_tuple_getitem ?_ (args_tuple_getitem _ _)))
  refine wpAny_bind (m := Builtin.Tuple.tupleItemsOf (.ref t)) (tupleItemsOf_ ht ?_)
  refine wpAny_bind (wpAny_typeOf hTs ?_)
  rw [if_pos (by decide)]
  refine wpAny_bind (sliceApplied_rev hs pl pu ps ?_)
  have hno : ¬ ((((items.size : Nat) : Int) - 1 == 0 && (-1 : Int) == 1 && items.size == items.size) = true) := by
    intro q
    rw [Bool.and_eq_true, Bool.and_eq_true] at q
    exact absurd q.1.2 (by decide)
  show wpAny _ _ (if (((items.size : Nat) : Int) - 1 == 0 && (-1 : Int) == 1 && items.size == items.size) = true then _ else _) _ _ s
  rw [if_neg hno, rev_pick]
  first
    | exact wpAny_bind (m := Builtin.Tuple.tupleExact _) (wpAny_newObj_type (wpAny_pure ⟨_, rfl, wpAny_pure h⟩) htake)
    | exact wpAny_bind (m := Builtin.Tuple.tupleExact _) (wpAny_newObj_type (wpAny_bind (wpAny_pure (wpAny_pure ⟨_, rfl, wpAny_pure h⟩))) htake)
    | exact wpAny_bind (wpAny_bind (m := Builtin.Tuple.tupleExact _) (wpAny_newObj_type (wpAny_pure (wpAny_pure ⟨_, rfl, wpAny_pure h⟩)) htake))
    | exact wpAny_bind (wpAny_bind (m := Builtin.Tuple.tupleExact _) (wpAny_newObj_type (wpAny_pure ⟨_, rfl, wpAny_pure h⟩) htake))
end
section
variable {X : Cx}
def tRev (K : Frag) (te : TE) : TE := fun σ H Q => te σ H fun x H1 => ∃ α S dx d, RS K H1 α S ∧ RD K H1 α dx x ∧ Ln.revD S dx = some d ∧ ∀ v H' α', After K α H1 α' H' S → RD K H' α' d v → Q v H'
theorem pe_rev {e : Expr} {te : TE} {k : Nat} {p1 p2 p3 pos : Pos} (he : PE X e te) : PE X (.Subscript e (.Slice none none (some (.UnaryOp .USub (.Constant (.int 1) k p1) p2)) p3) pos) (tRev X.K te) := by
  refine ⟨fun pins s σ H Q I h => ?_⟩
  refine Subscript_ (thn (he.run pins s σ H _ I h) fun v s1 ⟨x, H1, I1, r1, q1⟩ => ?_)
  obtain ⟨α, S, dx, d, rs, rd, e0, q⟩ := q1
  have hst : PO X (some (.UnaryOp .USub (.Constant (.int 1) k p1) p2)) (tPart (tUn (rU fun i => .int (-i)) (tC (.int 1)))) := po_some (pe_un un_neg pe_int)
  refine wpAny_Slice (thn (po_none.run pins s1 σ H1 (fun o H2 => o = none ∧ H2 = H1) I1 ⟨rfl, rfl⟩) fun vl s2 ⟨l, H2, I2, pl, el, e2⟩ => ?_)
  subst el e2
  refine thn (po_none.run pins s2 σ H2 (fun o H3 => o = none ∧ H3 = H2) I2 ⟨rfl, rfl⟩) fun vu s3 ⟨u, H3, I3, pu, eu, e3⟩ => ?_
  subst eu e3
  refine thn (hst.run pins s3 σ H3 (fun o H4 => o = some (-1) ∧ H4 = H3) I3 ⟨1, rfl, -1, rfl, rfl, rfl⟩) fun vs s4 ⟨o, H4, I4, ps, eo, e4⟩ => ?_
  subst eo e4
  have I5 : Inv X pins σ H4 { s4 with heap := s4.heap.push { cls := .type "slice", data := .fields #[vl, vu, vs] } } := I4.kept (t' := s4.toks) fun b ob q => Heap.get?_push_of_some _ q
  have lists : ∀ (xs : List D), Ln.lstOf S dx = some xs → d = .lst xs.reverse →
      wpAny (model X.prog X.w) X.A (subscriptTail e (.Slice none none (some (.UnaryOp .USub (.Constant (.int 1) k p1) p2)) p3) v (.ref s4.heap.objs.size)) (EP X pins σ Q) X.xe { s4 with heap := s4.heap.push { cls := .type "slice", data := .fields #[vl, vu, vs] } } := fun xs e5 ed => by
    subst ed
    obtain ⟨a, ws, rfl, h1, rds⟩ := lst_at rs rd e5
    cases r1
    obtain ⟨its, r, ht, hz⟩ := I5.list (SqL.of h1)
    have hlen := r.length
    refine tail_any (ops := [.ref a, .ref s4.heap.objs.size]) ht.isList.typeIs (PySem.slot_list_getitem.lookup) ?_ (by with_unfolding_all rfl)
    refine wpAny_getItem_list_slice ht.isList (Heap.IsSliceOf.new _ vl vu vs) pl pu ps (by decide) ?_ (by rw [List.size_toArray]; omega)
    rw [PySem.W.krv_pick]
    have hp := I5.hok.fresh (Nat.le_refl _)
    obtain ⟨af, rd'⟩ := new_lst rs hp rds.reverse
    refine ⟨.ref _, _, I5.laid (t' := s4.toks) (o := .lst ws.reverse) (fun b ob q => Heap.get?_push_of_some _ q) (Nat.le_refl _) ?_, rfl, q _ _ _ af rd'⟩
    exact ⟨by rw [List.length_reverse]; exact hz, _, 0, r.reverse, Heap.get?_push_size _ rfl⟩
  show wpAny (model X.prog X.w) X.A (subscriptTail e (.Slice none none (some (.UnaryOp .USub (.Constant (.int 1) k p1) p2)) p3) v (.ref s4.heap.objs.size)) (EP X pins σ Q) X.xe { s4 with heap := s4.heap.push { cls := .type "slice", data := .fields #[vl, vu, vs] } }
  unfold Ln.revD at e0
  split at e0
  · rename_i xs
    cases e0
    cases rd with
    | tup h1 rds =>
    rename_i a ws
    cases r1
    obtain ⟨its, r, ht, hz⟩ := I5.tuple h1.sq
    have hlen := r.length
    refine tail_any (ops := [.ref a, .ref s4.heap.objs.size]) ht.typeIs (PyProof.Rows.slot_tuple_getitem.lookup) ?_ (by with_unfolding_all rfl)
    refine getItem_tuple_rev ht (Heap.IsSliceOf.new _ vl vu vs) pl pu ps ?_ (by rw [List.size_toArray]; omega)
    have hp := I5.hok.fresh (Nat.le_refl _)
    exact end_tup (t' := s4.toks) I5 r.reverse (by rw [List.length_reverse]; exact hz) fun p o ho hp => by
      obtain ⟨af, rd'⟩ := new_tup rs ho hp rds.reverse
      exact q _ _ _ af rd'
  · rw [Option.map_eq_some_iff] at e0
    obtain ⟨xs, e5, ed⟩ := e0
    exact lists xs e5 ed.symm
end
end LnS

set_option linter.all false
set_option maxRecDepth 100000
/-! Ln: the rules for expressions. -/
namespace LnS
open PySem L2 PyProof.Rows
open Ln (D O Store Rho M R Ex)
variable [Tbs]

abbrev JE (X : Cx) (E : XS) (e : Expr) (m : Rho → M D) : Prop := PE X e (TI X.K E m)
abbrev JT (X : Cx) (E : XS) (e : Expr) (m : Rho → M Bool) : Prop := PT X e (TTI X.K E m)
abbrev JA (X : Cx) (E : XS) (es : List Expr) (m : Rho → M (List D)) : Prop := PA X es (TAI X.K E m)

section
variable {X : Cx} {E : XS} {cf : Nat → List D → M D} {pos : Pos}

/-! ### in a row -/
theorem seq1 {K : Frag} {m : Rho → M D} {f : Rho → D → M D} {σ : L2.St} {H : Hp} {Q : VK} (h : TI K E (fun ρ => M.bind (m ρ) (f ρ)) σ H Q) :
    TI K E m σ H fun x H1 => ∃ ρ α S d, RS K H1 α S ∧ RE K H1 α ρ σ ∧ RD K H1 α d x ∧ Pst K E H1 α (f ρ d S) fun d _ H' α' => ∀ v, RD K H' α' d v → Q v H' := by
  obtain ⟨ρ, α, S, rs, re, p⟩ := h
  exact ⟨ρ, α, S, rs, re, p.bind.mono fun d S1 H1 α1 _ ⟨a, p1⟩ v rd => ⟨ρ, α1, S1, d, a.rs, a.re re, rd, p1⟩⟩
theorem seq2 {K : Frag} {m n : Rho → M D} {f : Rho → D → D → M D} {σ : L2.St} {H : Hp} {Q : VK} (h : TI K E (fun ρ => M.bind (m ρ) fun x => M.bind (n ρ) (f ρ x)) σ H Q) :
    TI K E m σ H fun x H1 => TI K E n σ H1 fun y H2 => ∃ ρ α S dx dy, RS K H2 α S ∧ RE K H2 α ρ σ ∧ RD K H2 α dx x ∧ RD K H2 α dy y ∧ Pst K E H2 α (f ρ dx dy S) fun d _ H' α' => ∀ v, RD K H' α' d v → Q v H' := by
  obtain ⟨ρ, α, S, rs, re, p⟩ := h
  refine ⟨ρ, α, S, rs, re, p.bind.mono fun d S1 H1 α1 _ ⟨a, p1⟩ v rd => ?_⟩
  exact ⟨ρ, α1, S1, a.rs, a.re re, p1.bind.mono fun e S2 H2 α2 _ ⟨b, p2⟩ w re2 => ⟨ρ, α2, S2, d, e, b.rs, b.re (a.re re), b.rd rd, re2, p2⟩⟩

/-! ### names, constants -/
theorem pe_never {e : Expr} : PE X e (fun _ _ _ => False) := ⟨fun _ _ _ _ _ _ h => h.elim⟩
theorem je_bad {e : Expr} : JE X E e (Ln.ev cf .bad) := pe_w pe_never fun σ H Q ⟨ρ, α, S, rs, re, p⟩ => p.elim
theorem je_var {e : Expr} {i : Nat} (h : PE X e (tVar i)) : JE X E e (Ln.ev cf (.var i)) := pe_w h fun σ H Q ⟨ρ, α, S, rs, re, p⟩ => by
  simp only [Ln.ev, Ln.getV] at p
  match hd : ρ[i]?, p with
  | some (some d), p =>
    obtain ⟨v, h1, h2⟩ := re.get i d hd
    exact ⟨v, h1, p.ret rs v h2⟩
  | some none, p => exact p.elim
  | none, p => exact p.elim
theorem je_cst {e : Expr} {v : V} {d : D} (h : PE X e (tC v)) (r : ∀ H α, RD X.K H α d v) : JE X E e (Ln.ev cf (.cst d)) := pe_w h fun σ H Q ⟨ρ, α, S, rs, re, p⟩ => by
  simp only [Ln.ev] at p
  exact p.ret rs v (r H α)
theorem je_int {i : Int} {j} : JE X E (.Constant (.int i) j pos) (Ln.ev cf (.cst (.int i))) := je_cst pe_int fun _ _ => .int i
theorem je_bl {b : Bool} {j} : JE X E (.Constant (.bool b) j pos) (Ln.ev cf (.cst (.bl b))) := je_cst pe_bl fun _ _ => .bl b
theorem je_non {j} : JE X E (.Constant .none j pos) (Ln.ev cf (.cst .non)) := je_cst pe_non fun _ _ => .non
theorem je_str {x : Str} {j} : JE X E (.Constant (.str x) j pos) (Ln.ev cf (.cst (.str x))) := je_cst pe_str fun _ _ => .str x

/-! ### operators -/
variable {a b c : Expr} {ia ib ic : Ln.E}
theorem je_bin (o : Ln.Bop) (ha : JE X E a (Ln.ev cf ia)) (hb : JE X E b (Ln.ev cf ib)) : JE X E (.BinOp a (opOf o) b pos) (Ln.ev cf (.bin o ia ib)) :=
  pe_w (pe_op (op_bop o) ha hb) fun σ H Q h => by
    obtain ⟨ρ, α, S, rs, re, p⟩ := seq2 (f := fun ρ x y => M.opt (Ln.bop o x y)) h
    refine ⟨ρ, α, S, rs, re, p.mono fun d S1 H1 α1 _ q v rd => ?_⟩
    obtain ⟨ρ, α, S, rs, re, p⟩ := q v rd
    refine ⟨ρ, α, S, rs, re, p.mono fun d S1 H1 α1 _ q v rd => ?_⟩
    obtain ⟨ρ, α, S, dx, dy, rs, re, r1, r2, p⟩ := q v rd
    obtain ⟨d, e, k⟩ := p.optN
    exact ⟨α, S, dx, dy, d, rs, r1, r2, e, fun v H' α' a r => k H' α' a v r⟩
theorem je_neg (ha : JE X E a (Ln.ev cf ia)) : JE X E (.UnaryOp .USub a pos) (Ln.ev cf (.neg ia)) :=
  pe_w (pe_un un_neg ha) fun σ H Q h => by
    obtain ⟨ρ, α, S, rs, re, p⟩ := seq1 (f := fun ρ x => Ln.negK x) h
    refine ⟨ρ, α, S, rs, re, p.mono fun d S1 H1 α1 _ q v rd => ?_⟩
    obtain ⟨ρ, α, S, d, rs, re, r1, p⟩ := q v rd
    unfold Ln.negK at p
    split at p
    · rename_i i
      cases r1
      exact ⟨i, rfl, p.ret rs _ (.int _)⟩
    · exact p.elim
theorem truth_at {K : Frag} {H : Hp} {α : Al} {S : Store} (rs : RS K H α S) {d : D} {x : V} {k : Bool} (r : RD K H α d x) (e : Ln.truth S d = some k) : TruV K x H k := by
  cases r with
  | non => cases e; rfl
  | bl b => cases e; rfl
  | int i => cases e; rfl
  | str z =>
    simp only [Ln.truth] at e
    split at e
    · rename_i h
      cases e
      refine ⟨h, ?_⟩
      rw [Bool.eq_iff_iff]
      simp
    · cases e
  | tup h q => cases e; exact .inr (.inl ⟨_, h.sq, by rw [q.isEmpty]⟩)
  | wtp h q => cases e
  | exn0 h => cases e
  | exn1 h n k l r => cases e
  | lst n h q => cases e; exact .inl ⟨_, SqL.of h, by rw [q.isEmpty]⟩
  | frz h q => cases e
  | dct n h q1 q2 => cases e
  | ref h =>
    simp only [Ln.truth] at e
    split at e
    · rename_i xs hS
      cases e
      obtain ⟨vs, h1, h2⟩ := rs.at_ _ _ _ h hS
      exact .inl ⟨vs, SqL.of h1, by rw [h2.isEmpty]⟩
    · cases e
theorem je_not (ha : JE X E a (Ln.ev cf ia)) : JE X E (.UnaryOp .Not a pos) (Ln.ev cf (.not ia)) :=
  pe_w (pe_notT ha) fun σ H Q h => by
    obtain ⟨ρ, α, S, rs, re, p⟩ := seq1 (f := fun ρ x => M.bind (Ln.truthM x) fun b => M.ret (.bl (!b))) h
    refine ⟨ρ, α, S, rs, re, p.mono fun d S1 H1 α1 _ q v rd => ?_⟩
    obtain ⟨ρ, α, S, d, rs, re, r1, p⟩ := q v rd
    obtain ⟨k, e, k2⟩ := (show Pst _ _ _ _ (M.opt (fun S => Ln.truth S d) S) _ from p.bind).opt rs
    exact ⟨k, truth_at rs r1 e, k2.2.ret rs _ (.bl _)⟩
theorem je_cmp (o : Ln.Cop) (hu : X.A.units + 65 < cLine) (ha : JE X E a (Ln.ev cf ia)) (hb : JE X E b (Ln.ev cf ib)) (hm : behindInMarks (copOf o) b = false) : JE X E (.Compare a [copOf o] [b] pos) (Ln.ev cf (.cmp o ia ib)) :=
  pe_w (pe_cmpR (op_cop o hu) ha hb hm) fun σ H Q h => by
    obtain ⟨ρ, α, S, rs, re, p⟩ := seq2 (f := fun ρ x y => M.bind (M.opt (Ln.cop o x y)) fun k => M.ret (.bl k)) h
    refine ⟨ρ, α, S, rs, re, p.mono fun d S1 H1 α1 _ q v rd => ?_⟩
    obtain ⟨ρ, α, S, rs, re, p⟩ := q v rd
    refine ⟨ρ, α, S, rs, re, p.mono fun d S1 H1 α1 _ q v rd => ?_⟩
    obtain ⟨ρ, α, S, dx, dy, rs, re, r1, r2, p⟩ := q v rd
    obtain ⟨k, e, k2⟩ := p.bind.opt rs
    exact ⟨α, S, dx, dy, k, rs, r1, r2, e, k2.2.ret rs _ (.bl _)⟩
theorem je_chain (o o' : Ln.Cop) (hu : X.A.units + 65 < cLine) (ha : JE X E a (Ln.ev cf ia)) (hb : JE X E b (Ln.ev cf ib)) (hc : JE X E c (Ln.ev cf ic)) (hm : lastMarks [copOf o, copOf o'] [b, c] = false) :
    JE X E (.Compare a [copOf o, copOf o'] [b, c] pos) (Ln.ev cf (.chain o o' ia ib ic)) :=
  pe_w (pe_chain (op_cop o hu) (op_cop o' hu) ha hb hc hm) fun σ H Q h => by
    obtain ⟨ρ, α, S, rs, re, p⟩ := seq2 (f := fun ρ x y => M.bind (M.opt (Ln.cop o x y)) fun k => if k then M.bind (Ln.ev cf ic ρ) fun z => M.bind (M.opt (Ln.cop o' y z)) fun k => M.ret (.bl k) else M.ret (.bl false)) h
    refine ⟨ρ, α, S, rs, re, p.mono fun d S1 H1 α1 _ q v rd => ?_⟩
    obtain ⟨ρ, α, S, rs, re, p⟩ := q v rd
    refine ⟨ρ, α, S, rs, re, p.mono fun d S1 H1 α1 _ q y rd => ?_⟩
    obtain ⟨ρ, α, S, dx, dy, rs, re, r1, r2, p⟩ := q y rd
    obtain ⟨k, e, k2⟩ := p.bind.opt rs
    refine ⟨α, S, dx, dy, k, rs, r1, r2, e, k, rfl, ?_⟩
    replace k2 := k2.2
    split
    · rename_i hk
      rw [if_pos hk] at k2
      refine ⟨ρ, α, S, rs, re, k2.bind.mono fun d S1 H1 α1 _ q z rd => ?_⟩
      obtain ⟨k', e', k3⟩ := q.2.bind.opt q.1.rs
      exact ⟨α1, S1, dy, d, k', q.1.rs, q.1.rd r2, rd, e', k3.2.ret q.1.rs _ (.bl _)⟩
    · rename_i hk
      rw [if_neg hk] at k2
      exact k2.ret rs _ (.bl _)
theorem je_one {op : BoolOp} {m : Rho → M D} (h : JE X E a m) : JE X E (.BoolOp op [a] pos) m := pe_one h
theorem je_and {r : List Expr} (ha : JE X E a (Ln.ev cf ia)) (hb : JE X E (.BoolOp .And (b :: r) pos) (Ln.ev cf ib)) : JE X E (.BoolOp .And (a :: b :: r) pos) (Ln.ev cf (.and ia ib)) :=
  pe_w (pe_and ha hb) fun σ H Q h => by
    obtain ⟨ρ, α, S, rs, re, p⟩ := seq1 (f := fun ρ => Ln.andK (Ln.ev cf ib ρ)) h
    refine ⟨ρ, α, S, rs, re, p.mono fun d S1 H1 α1 _ q v rd => ?_⟩
    obtain ⟨ρ, α, S, d, rs, re, r1, p⟩ := q v rd
    unfold Ln.andK at p
    split at p
    · cases r1; exact ⟨true, rfl, iteT ⟨ρ, α, S, rs, re, p⟩⟩
    · cases r1; exact ⟨false, rfl, iteF (p.ret rs _ (.bl _))⟩
    · exact p.elim
theorem je_or {r : List Expr} (ha : JE X E a (Ln.ev cf ia)) (hb : JE X E (.BoolOp .Or (b :: r) pos) (Ln.ev cf ib)) : JE X E (.BoolOp .Or (a :: b :: r) pos) (Ln.ev cf (.or ia ib)) :=
  pe_w (pe_or ha hb) fun σ H Q h => by
    obtain ⟨ρ, α, S, rs, re, p⟩ := seq1 (f := fun ρ => Ln.orK (Ln.ev cf ib ρ)) h
    refine ⟨ρ, α, S, rs, re, p.mono fun d S1 H1 α1 _ q v rd => ?_⟩
    obtain ⟨ρ, α, S, d, rs, re, r1, p⟩ := q v rd
    unfold Ln.orK at p
    split at p
    · cases r1; exact ⟨true, rfl, iteT (p.ret rs _ (.bl _))⟩
    · cases r1; exact ⟨false, rfl, iteF ⟨ρ, α, S, rs, re, p⟩⟩
    · exact p.elim

/-! ### tests -/
theorem jt_truth (ha : JE X E a (Ln.ev cf ia)) (he : ∀ whole, isTrue a X.env whole = (do let v ← whole; standAt a.pos; holding [v] (truthy v))) : JT X E a (Ln.evT cf ia) :=
  pt_w (pt_truth ha he) fun σ H Q ⟨ρ, α, S, rs, re, p⟩ => by
    refine ⟨ρ, α, S, rs, re, p.bind.mono fun d S1 H1 α1 _ q v rd => ?_⟩
    obtain ⟨k, e, k2⟩ := (show Pst _ _ _ _ (M.opt (fun S => Ln.truth S d) S1) _ from q.2).opt q.1.rs
    exact ⟨k, truth_at q.1.rs rd e, k2⟩
theorem jt_cmp (o : Ln.Cop) (hu : X.A.units + 65 < cLine) (ha : JE X E a (Ln.ev cf ia)) (hb : JE X E b (Ln.ev cf ib)) (hm : behindInMarks (copOf o) b = false) : JT X E (.Compare a [copOf o] [b] pos) (Ln.evT cf (.cmp o ia ib)) :=
  pt_w (pt_cmpR (op_cop o hu) ha hb hm) fun σ H Q ⟨ρ, α, S, rs, re, p⟩ => by
    simp only [Ln.evT, Ln.ev] at p
    refine ⟨ρ, α, S, rs, re, p.bind.bind.mono fun d S1 H1 α1 _ q v rd => ?_⟩
    refine ⟨ρ, α1, S1, q.1.rs, q.1.re re, q.2.bind.mono fun d' S2 H2 α2 _ q2 v2 rd2 => ?_⟩
    obtain ⟨k, e, k2⟩ := q2.2.bind.opt q2.1.rs
    refine ⟨α2, S2, d, d', k, q2.1.rs, q2.1.rd rd, rd2, e, k, rfl, ?_⟩
    have k3 := k2.2.ret k2.1.rs
    obtain ⟨k', e', k4⟩ := (show Pst _ _ _ _ (M.opt (fun S => Ln.truth S (.bl k)) S2) _ from k3.2).opt q2.1.rs
    cases e'
    exact k4
theorem jt_chain (o o' : Ln.Cop) (hu : X.A.units + 65 < cLine) (ha : JE X E a (Ln.ev cf ia)) (hb : JE X E b (Ln.ev cf ib)) (hc : JE X E c (Ln.ev cf ic)) (hm : lastMarks [copOf o, copOf o'] [b, c] = false) :
    JT X E (.Compare a [copOf o, copOf o'] [b, c] pos) (Ln.evT cf (.chain o o' ia ib ic)) :=
  pt_w (pt_chain (op_cop o hu) (op_cop o' hu) ha hb hc hm) fun σ H Q ⟨ρ, α, S, rs, re, p⟩ => by
    simp only [Ln.evT, Ln.ev] at p
    refine ⟨ρ, α, S, rs, re, p.bind.bind.mono fun d S1 H1 α1 _ q v rd => ?_⟩
    refine ⟨ρ, α1, S1, q.1.rs, q.1.re re, q.2.bind.mono fun d' S2 H2 α2 _ q2 v2 rd2 => ?_⟩
    obtain ⟨k, e, k2⟩ := q2.2.bind.opt q2.1.rs
    refine ⟨α2, S2, d, d', k, q2.1.rs, q2.1.rd rd, rd2, e, k, rfl, ?_⟩
    replace k2 := k2.2
    split
    · rename_i hk
      rw [if_pos hk] at k2
      refine ⟨ρ, α2, S2, q2.1.rs, q2.1.re (q.1.re re), k2.bind.mono fun d3 S3 H3 α3 _ q3 z rd3 => ?_⟩
      obtain ⟨k', e', k3⟩ := q3.2.bind.opt q3.1.rs
      refine ⟨α3, S3, d', d3, k', q3.1.rs, q3.1.rd rd2, rd3, e', k', rfl, ?_⟩
      have k4 := k3.2.ret k3.1.rs
      obtain ⟨k5, e5, k6⟩ := (show Pst _ _ _ _ (M.opt (fun S => Ln.truth S (.bl k')) S3) _ from k4.2).opt q3.1.rs
      cases e5
      exact k6
    · rename_i hk
      rw [if_neg hk] at k2
      refine ⟨false, rfl, ?_⟩
      have k4 := k2.ret q2.1.rs
      obtain ⟨k5, e5, k6⟩ := (show Pst _ _ _ _ (M.opt (fun S => Ln.truth S (.bl false)) S2) _ from k4.2).opt q2.1.rs
      cases e5
      exact k6
theorem evT_bl {b : Bool} {S : Store} {C : Bool → Store → Hp → Al → Prop} {K : Frag} {H : Hp} {α : Al} (rs : RS K H α S) (p : Pst K E H α (Ln.truthM (.bl b) S) C) : C b S H α := by
  obtain ⟨k, e, k2⟩ := (show Pst _ _ _ _ (M.opt (fun S => Ln.truth S (.bl b)) S) _ from p).opt rs
  cases e
  exact k2
/-- and, or as tests: both sides tests -/
abbrev JW (X : Cx) (E : XS) (e : Expr) (m : Rho → M Bool) : Prop := PW X e (TTI X.K E m)
theorem pw_w {X : Cx} {e : Expr} {t t' : TT} (h : PW X e t) (k : ∀ σ H Q, t' σ H Q → t σ H Q) : PW X e t' := ⟨fun w pins s σ H Q I q => h.run w pins s σ H Q I (k _ _ _ q)⟩
theorem jw_and1 (ha : JT X E a (Ln.evT cf ia)) : JW X E (.BoolOp .And [a] pos) (Ln.evT cf ia) := pw_and1 ha
theorem jw_or1 (ha : JT X E a (Ln.evT cf ia)) : JW X E (.BoolOp .Or [a] pos) (Ln.evT cf ia) := pw_or1 ha
theorem bind_ok {β γ : Type} {m : M β} {f : β → M γ} {S S1 : Store} {b : β} (h : m S = .ok b S1) : M.bind m f S = f b S1 := by unfold M.bind; rw [h]
theorem bind_exc {β γ : Type} {m : M β} {f : β → M γ} {S S1 : Store} {x : Ex} (h : m S = .exc x S1) : M.bind m f S = .exc x S1 := by unfold M.bind; rw [h]
theorem bind_err {β γ : Type} {m : M β} {f : β → M γ} {S : Store} (h : m S = .err) : M.bind m f S = .err := by unfold M.bind; rw [h]
theorem bind_assoc {β γ δ : Type} {m : M β} {f : β → M γ} {g : γ → M δ} {S : Store} : M.bind (M.bind m f) g S = M.bind m (fun x => M.bind (f x) g) S := by
  unfold M.bind
  cases m S <;> rfl
theorem and_split {ρ : Rho} {S : Store} {C : Bool → Store → Hp → Al → Prop} {K : Frag} {H : Hp} {α : Al} (p : Pst K E H α (Ln.evT cf (.and ia ib) ρ S) C) :
    Pst K E H α (Ln.evT cf ia ρ S) fun k S1 H1 α1 => if k = true then Pst K E H1 α1 (Ln.evT cf ib ρ S1) C else C false S1 H1 α1 := by
  unfold Ln.evT at p ⊢
  simp only [Ln.ev] at p
  cases e : Ln.ev cf ia ρ S with
  | err => rw [bind_err (bind_err e)] at p; exact p.elim
  | exc x S1 => rw [bind_exc (bind_exc e)] at p; rw [bind_exc e]; exact p
  | ok d S1 =>
    rw [bind_ok e, bind_assoc, bind_ok e] at *
    match d, p with
    | .bl true, p => exact fun H1 α1 a => iteT (Pst.move (show Pst K E H α (M.bind (Ln.ev cf ib ρ) Ln.truthM S1) C from p) a)
    | .bl false, p => exact fun H1 α1 a => iteF ((show Pst K E H α (.ok false S1) C from p) H1 α1 a)
    | .non, p => exact p.elim
    | .int _, p => exact p.elim
    | .str _, p => exact p.elim
    | .tup _, p => exact p.elim
    | .lst _, p => exact p.elim
    | .frz _, p => exact p.elim
    | .dct _ _, p => exact p.elim
    | .ref _, p => exact p.elim
theorem or_split {ρ : Rho} {S : Store} {C : Bool → Store → Hp → Al → Prop} {K : Frag} {H : Hp} {α : Al} (p : Pst K E H α (Ln.evT cf (.or ia ib) ρ S) C) :
    Pst K E H α (Ln.evT cf ia ρ S) fun k S1 H1 α1 => if k = true then C true S1 H1 α1 else Pst K E H1 α1 (Ln.evT cf ib ρ S1) C := by
  unfold Ln.evT at p ⊢
  simp only [Ln.ev] at p
  cases e : Ln.ev cf ia ρ S with
  | err => rw [bind_err (bind_err e)] at p; exact p.elim
  | exc x S1 => rw [bind_exc (bind_exc e)] at p; rw [bind_exc e]; exact p
  | ok d S1 =>
    rw [bind_ok e, bind_assoc, bind_ok e] at *
    match d, p with
    | .bl true, p => exact fun H1 α1 a => iteT ((show Pst K E H α (.ok true S1) C from p) H1 α1 a)
    | .bl false, p => exact fun H1 α1 a => iteF (Pst.move (show Pst K E H α (M.bind (Ln.ev cf ib ρ) Ln.truthM S1) C from p) a)
    | .non, p => exact p.elim
    | .int _, p => exact p.elim
    | .str _, p => exact p.elim
    | .tup _, p => exact p.elim
    | .lst _, p => exact p.elim
    | .frz _, p => exact p.elim
    | .dct _ _, p => exact p.elim
    | .ref _, p => exact p.elim
theorem jw_and {r : List Expr} (ha : JT X E a (Ln.evT cf ia)) (hb : JW X E (.BoolOp .And (b :: r) pos) (Ln.evT cf ib)) : JW X E (.BoolOp .And (a :: b :: r) pos) (Ln.evT cf (.and ia ib)) :=
  pw_w (pw_and ha hb) fun σ H Q ⟨ρ, α, S, rs, re, p⟩ =>
    ⟨ρ, α, S, rs, re, (and_split p).mono fun k S1 H1 α1 a q => by
      cases k with
      | true => exact iteT ⟨ρ, α1, S1, a.rs, a.re re, q⟩
      | false => exact iteF q⟩
theorem jw_or {r : List Expr} (ha : JT X E a (Ln.evT cf ia)) (hb : JW X E (.BoolOp .Or (b :: r) pos) (Ln.evT cf ib)) : JW X E (.BoolOp .Or (a :: b :: r) pos) (Ln.evT cf (.or ia ib)) :=
  pw_w (pw_or ha hb) fun σ H Q ⟨ρ, α, S, rs, re, p⟩ =>
    ⟨ρ, α, S, rs, re, (or_split p).mono fun k S1 H1 α1 a q => by
      cases k with
      | true => exact iteT q
      | false => exact iteF ⟨ρ, α1, S1, a.rs, a.re re, q⟩⟩
theorem jt_w {e : Expr} {m : Rho → M Bool} (h : JW X E e m) : JT X E e m := PW.pt h
theorem jt_not (ha : JT X E a (Ln.evT cf ia)) : JT X E (.UnaryOp .Not a pos) (Ln.evT cf (.not ia)) :=
  pt_w (pt_not ha) fun σ H Q ⟨ρ, α, S, rs, re, p⟩ => by
    refine ⟨ρ, α, S, rs, re, ?_⟩
    unfold Ln.evT at p ⊢
    simp only [Ln.ev] at p
    cases e : Ln.ev cf ia ρ S with
    | err => rw [bind_err (bind_err e)] at p; exact p.elim
    | exc x S1 => rw [bind_exc (bind_exc e)] at p; rw [bind_exc e]; exact p
    | ok d S1 =>
      rw [bind_assoc, bind_ok e] at p
      rw [bind_ok e]
      cases e2 : Ln.truthM d S1 with
      | err => rw [bind_err (bind_err e2)] at p; exact p.elim
      | exc x S2 => rw [bind_exc (bind_exc e2)] at p; exact p
      | ok k S2 => rw [bind_assoc, bind_ok e2] at p; exact p

theorem je_ite (hc : JT X E c (Ln.evT cf ic)) (ha : JE X E a (Ln.ev cf ia)) (hb : JE X E b (Ln.ev cf ib)) : JE X E (.IfExp c a b pos) (Ln.ev cf (.ite ic ia ib)) :=
  pe_w (pe_ifExp hc ha hb) fun σ H Q ⟨ρ, α, S, rs, re, p⟩ => by
    refine ⟨ρ, α, S, rs, re, ?_⟩
    simp only [Ln.ev] at p
    unfold Ln.evT
    cases e : Ln.ev cf ic ρ S with
    | err => rw [bind_err e] at p; exact p.elim
    | exc x S1 => rw [bind_exc e] at p; rw [bind_exc e]; exact p
    | ok d S1 =>
      rw [bind_ok e] at p ⊢
      cases e2 : Ln.truthM d S1 with
      | err => rw [bind_err e2] at p; exact p.elim
      | exc x S2 => rw [bind_exc e2] at p; exact p
      | ok k S2 =>
        rw [bind_ok e2] at p
        intro H1 α1 af
        cases k with
        | true => exact iteT ⟨ρ, α1, S2, af.rs, af.re re, p.move af⟩
        | false => exact iteF ⟨ρ, α1, S2, af.rs, af.re re, p.move af⟩

/-! ### arguments, displays -/
variable {es : List Expr} {ies : Ln.Es}
theorem ja_nil : JA X E [] (Ln.evs cf .nil) := pa_w pa_nil fun σ H Q ⟨ρ, α, S, rs, re, p⟩ => by
  simp only [Ln.evs] at p
  exact p.ret rs _ .nil
theorem ja_cons (ha : JE X E a (Ln.ev cf ia)) (hr : JA X E es (Ln.evs cf ies)) (hs : starEach (a :: es) X.env = (false, eval a X.env) :: starEach es X.env := by rfl) : JA X E (a :: es) (Ln.evs cf (.cons ia ies)) :=
  pa_w (pa_cons ha hr hs) fun σ H Q ⟨ρ, α, S, rs, re, p⟩ => by
    simp only [Ln.evs] at p
    refine ⟨ρ, α, S, rs, re, p.bind.mono fun d S1 H1 α1 _ q v rd => ?_⟩
    refine ⟨ρ, α1, S1, q.1.rs, q.1.re re, q.2.bind.mono fun ds S2 H2 α2 _ q2 vs rds => ?_⟩
    exact q2.2.ret q2.1.rs _ (.cons (q2.1.rd rd) rds)
def esLen : Ln.Es → Nat
  | .nil => 0
  | .cons _ es => esLen es + 1
  | .star _ _ => 10000
theorem evs_len : ∀ {ies : Ln.Es} {ρ : Rho} {S S' : Store} {xs : List D}, esLen ies ≤ 1000 → Ln.evs cf ies ρ S = .ok xs S' → xs.length = esLen ies
  | .star _ _, _, _, _, _, h, _ => absurd h (by simp [esLen])
  | .nil, _, _, _, _, _, e => by simp only [Ln.evs, M.ret] at e; cases e; rfl
  | .cons e1 es, ρ, S, S', xs, hn, e => by
    simp only [Ln.evs] at e
    cases h : Ln.ev cf e1 ρ S with
    | err => rw [bind_err h] at e; cases e
    | exc x S1 => rw [bind_exc h] at e; cases e
    | ok d S1 =>
      rw [bind_ok h] at e
      cases h2 : Ln.evs cf es ρ S1 with
      | err => rw [bind_err h2] at e; cases e
      | exc x S2 => rw [bind_exc h2] at e; cases e
      | ok ds S2 =>
        rw [bind_ok h2] at e
        simp only [M.ret] at e
        cases e
        rw [List.length_cons, evs_len (by simp only [esLen] at hn; omega) h2]; rfl
theorem Pst.bindE {β γ : Type} {K : Frag} {H : Hp} {α : Al} {S : Store} {m : M β} {f : β → M γ} {C : γ → Store → Hp → Al → Prop} (h : Pst K E H α (M.bind m f S) C) :
    Pst K E H α (m S) fun b S1 H1 α1 => m S = .ok b S1 ∧ After K α H α1 H1 S1 ∧ Pst K E H1 α1 (f b S1) C := by
  have p := h.bind
  cases e : m S with
  | ok b S1 => rw [e] at p; exact fun H1 α1 a => ⟨rfl, p H1 α1 a⟩
  | exc x S1 => rw [e] at p; exact p
  | err => rw [e] at p; exact p
theorem je_tup {x1} (h : JA X E es (Ln.evs cf ies)) (hn : esLen ies ≤ 1000 := by decide) : JE X E (.Tuple es x1 pos) (Ln.ev cf (.tup ies)) :=
  pe_w (pe_tupZ h) fun σ H Q ⟨ρ, α, S, rs, re, p⟩ => by
    simp only [Ln.ev] at p
    refine ⟨ρ, α, S, rs, re, p.bindE.mono fun ds S1 H1 α1 _ q vs rds => ⟨?_, fun pp o ho hp => ?_⟩⟩
    · rw [← rds.length, evs_len hn q.1]; exact Nat.le_trans hn (by decide)
    · obtain ⟨af, rd⟩ := new_tup q.2.1.rs ho hp rds
      exact q.2.2.retN af _ rd
theorem je_lst (h : JA X E es (Ln.evs cf ies)) (hn : esLen ies ≤ 1000 := by decide) : JE X E (.List es pos) (Ln.ev cf (.lst ies)) :=
  pe_w (pe_lst h) fun σ H Q ⟨ρ, α, S, rs, re, p⟩ => by
    simp only [Ln.ev] at p
    refine ⟨ρ, α, S, rs, re, p.bindE.mono fun ds S1 H1 α1 _ q vs rds => ⟨?_, fun pp hp => ?_⟩⟩
    · rw [← rds.length, evs_len hn q.1]; exact Nat.le_trans hn (by decide)
    · obtain ⟨af, rd⟩ := new_lst q.2.1.rs hp rds
      exact q.2.2.retN af _ rd
theorem je_lstM (h : JA X E es (Ln.evs cf ies)) (hn : esLen ies ≤ 1000 := by decide) : JE X E (.List es pos) (Ln.ev cf (.lstM ies)) :=
  pe_w (pe_lst h) fun σ H Q ⟨ρ, α, S, rs, re, p⟩ => by
    simp only [Ln.ev] at p
    refine ⟨ρ, α, S, rs, re, p.bindE.mono fun ds S1 H1 α1 _ q vs rds => ⟨?_, fun pp hp => ?_⟩⟩
    · rw [← rds.length, evs_len hn q.1]; exact Nat.le_trans hn (by decide)
    · obtain ⟨af, rd⟩ := q.2.1.rs |> fun r => After.alloc r hp rds
      exact (show ∀ H' α', After X.K α1 H1 α' H' (S1 ++ [.lst ds]) → _ from q.2.2) _ _ af _ rd
theorem ja_star {sp : Pos} (ha : JE X E a (Ln.ev cf ia)) (hr : JA X E es (Ln.evs cf ies)) (hs : starEach (.Starred a sp :: es) X.env = (true, eval a X.env) :: starEach es X.env := by rfl) : JA X E (.Starred a sp :: es) (Ln.evs cf (.star ia ies)) :=
  pa_w (StX.pa_star ha hr hs) fun σ H Q ⟨ρ, α, S, rs, re, p⟩ => by
    simp only [Ln.evs] at p
    refine ⟨ρ, α, S, rs, re, p.bind.mono fun d S1 H1 α1 _ q v rd => ?_⟩
    have items : ∀ {ys : List D} {vs : List V}, Pst X.K E H1 α1 (M.bind (M.ret ys) (fun ys => M.bind (Ln.evs cf ies ρ) fun xs => M.ret (ys ++ xs)) S1) (fun ds _ H' α' => ∀ vs, RDs X.K H' α' ds vs → Q vs H') → RDs X.K H1 α1 ys vs →
        TAI X.K E (Ln.evs cf ies) σ H1 fun zs H2 => Q (vs ++ zs) H2 := fun {ys vs} p rds =>
      ⟨ρ, α1, S1, q.1.rs, q.1.re re, (show Pst X.K E H1 α1 (M.bind (Ln.evs cf ies ρ) (fun xs => M.ret (ys ++ xs)) S1) _ from p).bind.mono fun ds S2 H2 α2 _ q2 zs rz => q2.2.ret q2.1.rs _ ((q2.1.rds rds).append rz)⟩
    have p1 := q.2
    unfold Ln.starK at p1
    split at p1
    · cases rd with
      | tup h rds => exact ⟨_, _, rfl, .inl h.sq, items p1 rds⟩
    · cases rd with
      | lst n h rds => exact ⟨_, _, rfl, .inr (SqL.of h), items p1 rds⟩
    · exact p1.elim
theorem je_lstS (h : JA X E es (Ln.evs cf ies)) : JE X E (.List es pos) (Ln.ev cf (.lstS ies)) :=
  pe_w (pe_lst h) fun σ H Q ⟨ρ, α, S, rs, re, p⟩ => by
    simp only [Ln.ev] at p
    refine ⟨ρ, α, S, rs, re, p.bind.mono fun ds S1 H1 α1 _ q vs rds => ?_⟩
    have p1 := q.2
    split at p1
    · rename_i hl
      refine ⟨by rw [← rds.length]; exact hl, fun pp hp => ?_⟩
      obtain ⟨af, rd⟩ := new_lst q.1.rs hp rds
      exact p1.retN af _ rd
    · exact p1.elim
theorem je_dct0 : JE X E (.Dict [] [] pos) (Ln.ev cf (.dct .nil .nil)) :=
  pe_w pe_dnewK fun σ H Q ⟨ρ, α, S, rs, re, p⟩ p' hp => by
    simp only [Ln.ev, Ln.evs] at p
    have a := After.new (o := .dK []) rs hp
    refine (show Pst X.K E H α (M.ret (D.dct [] []) S) _ from p).retN a _ (.dct (fun z => ?_) upd_same .nil .nil)
    obtain ⟨o, e, _⟩ := rs.mut z
    rw [hp] at e; cases e

/-! ### freezing; a new list of the store -/
theorem fz_has {α : Al} {a : Addr} (dis : a ∈ α.h → a ∉ α.x) (h : a ∈ α.h) (z : a ∈ α.z) : ¬ α.has a := fun q => q.elim (fun q => q.2 z) fun q => dis h q
theorem fz_at {K : Frag} {H : Hp} {α : Al} {S : Store} {E : XS} {d : D} {v : V} {C : D → Store → Hp → Al → Prop} (rs : RS K H α S) (r : RD K H α d v) (p : Pst K E H α (Ln.fzK d S) C) : ∃ S' α' d', After K α H α' H S' ∧ RD K H α' d' v ∧ C d' S' H α' := by
  cases r with
  | @ref n a h =>
    unfold Ln.fzK at p
    have ha : a ∈ α.h := List.mem_of_getElem? h
    simp only [] at p
    cases eS : S[n]? with
    | none => rw [eS] at p; exact p.elim
    | some o =>
      rw [eS] at p
      have ro := rs.at_ _ _ _ h eS
      have hf := rs.fz _ _ _ h eS
      cases o with
      | lst xs =>
        obtain ⟨vs, h1, h2⟩ := ro
        have af := After.freeze (o' := .fzl xs) rs h eS rfl ⟨vs, h1, h2⟩ fun α' g ⟨ws, e1, e2⟩ => ⟨ws, e1, e2.mono g .refl⟩
        exact ⟨_, _, _, af, .lst (fz_has (af.rs.dis a) ha List.mem_cons_self) h1 (af.rds h2), p _ _ af⟩
      | dct ks ws =>
        obtain ⟨kvs, h1, h2, h3⟩ := ro
        have af := After.freeze (o' := .fzd ks ws) rs h eS rfl ⟨kvs, h1, h2, h3⟩ fun α' g ⟨us, e1, e2, e3⟩ => ⟨us, e1, e2.mono g .refl, e3.mono g .refl⟩
        exact ⟨_, _, _, af, .dct (fz_has (af.rs.dis a) ha List.mem_cons_self) h1 (af.rds h2) (af.rds h3), p _ _ af⟩
      | fzl xs =>
        obtain ⟨vs, h1, h2⟩ := ro
        exact ⟨_, _, _, .refl rs, .lst (fz_has (rs.dis a) ha (hf.mpr rfl)) h1 h2, p _ _ (.refl rs)⟩
      | fzd ks ws =>
        obtain ⟨kvs, h1, h2, h3⟩ := ro
        exact ⟨_, _, _, .refl rs, .dct (fz_has (rs.dis a) ha (hf.mpr rfl)) h1 h2 h3, p _ _ (.refl rs)⟩
  | _ => exact ⟨_, _, _, .refl rs, by constructor <;> assumption, p.ret rs⟩
theorem je_fz (ha : JE X E a (Ln.ev cf ia)) : JE X E a (Ln.ev cf (.fz ia)) := pe_w ha fun σ H Q ⟨ρ, α, S, rs, re, p⟩ => by
  simp only [Ln.ev] at p
  refine ⟨ρ, α, S, rs, re, p.bind.mono fun d S1 H1 α1 _ q v rd => ?_⟩
  obtain ⟨S', α', d', af, rd', k⟩ := fz_at q.1.rs rd q.2
  exact k v rd'
theorem je_repM (ha : JE X E a (Ln.ev cf ia)) (hb : JE X E b (Ln.ev cf ib)) : JE X E (.BinOp a .Mult b pos) (Ln.ev cf (.repM ia ib)) :=
  pe_w (pe_op op_repM ha hb) fun σ H Q h => by
    obtain ⟨ρ, α, S, rs, re, p⟩ := seq2 (f := fun ρ x y => Ln.repK x y) h
    refine ⟨ρ, α, S, rs, re, p.mono fun d S1 H1 α1 _ q v rd => ?_⟩
    obtain ⟨ρ, α, S, rs, re, p⟩ := q v rd
    refine ⟨ρ, α, S, rs, re, p.mono fun d S1 H1 α1 _ q v rd => ?_⟩
    obtain ⟨ρ, α, S, dx, dy, rs, re, r1, r2, p⟩ := q v rd
    unfold Ln.repK at p
    cases e1 : Ln.lstOf S dx with
    | none => rw [e1] at p; exact p.elim
    | some xs =>
      rw [e1] at p
      cases dy with
      | int k =>
        simp only [] at p
        split at p
        · rename_i hc
          rw [Bool.and_eq_true, decide_eq_true_eq] at hc
          exact ⟨α, S, dx, _, rs, r1, r2, xs, k, e1, rfl, hc.1, hc.2, fun v H' α' a r => (show ∀ H' α', After X.K α _ α' H' (S ++ [.lst (List.replicate k.toNat xs).flatten]) → ∀ v, RD X.K H' α' (.ref S.length) v → Q v H' from p) H' α' a v r⟩
        · exact p.elim
      | _ => exact p.elim
theorem je_addM (ha : JE X E a (Ln.ev cf ia)) (hb : JE X E b (Ln.ev cf ib)) : JE X E (.BinOp a .Add b pos) (Ln.ev cf (.addM ia ib)) :=
  pe_w (pe_op op_addM ha hb) fun σ H Q h => by
    obtain ⟨ρ, α, S, rs, re, p⟩ := seq2 (f := fun ρ x y => Ln.catK x y) h
    refine ⟨ρ, α, S, rs, re, p.mono fun d S1 H1 α1 _ q v rd => ?_⟩
    obtain ⟨ρ, α, S, rs, re, p⟩ := q v rd
    refine ⟨ρ, α, S, rs, re, p.mono fun d S1 H1 α1 _ q v rd => ?_⟩
    obtain ⟨ρ, α, S, dx, dy, rs, re, r1, r2, p⟩ := q v rd
    unfold Ln.catK at p
    cases e1 : Ln.lstOf S dx with
    | none => rw [e1] at p; exact p.elim
    | some xs =>
      cases e2 : Ln.lstOf S dy with
      | none => rw [e1, e2] at p; exact p.elim
      | some ys =>
        rw [e1, e2] at p
        simp only [] at p
        split at p
        · rename_i hl
          exact ⟨α, S, dx, dy, rs, r1, r2, xs, ys, e1, e2, hl, fun v H' α' a r => (show ∀ H' α', After X.K α _ α' H' (S ++ [.lst (xs ++ ys)]) → ∀ v, RD X.K H' α' (.ref S.length) v → Q v H' from p) H' α' a v r⟩
        · exact p.elim
/-! ### subscripts -/
theorem je_idx (hu : X.A.units + 65 < cLine) (ha : JE X E a (Ln.ev cf ia)) (hb : JE X E b (Ln.ev cf ib)) (hs : PlainIx b) : JE X E (.Subscript a b pos) (Ln.ev cf (.idx ia ib)) :=
  pe_w (pe_ix (ix_d hu) ha hb hs) fun σ H Q h => by
    obtain ⟨ρ, α, S, rs, re, p⟩ := seq2 (f := fun ρ x k => M.opt fun S => Ln.idxD S x k) h
    refine ⟨ρ, α, S, rs, re, p.mono fun d S1 H1 α1 _ q v rd => ?_⟩
    obtain ⟨ρ, α, S, rs, re, p⟩ := q v rd
    refine ⟨ρ, α, S, rs, re, p.mono fun d S1 H1 α1 _ q v rd => ?_⟩
    obtain ⟨ρ, α, S, dx, dy, rs, re, r1, r2, p⟩ := q v rd
    obtain ⟨d, e, k⟩ := p.optN
    exact ⟨α, S, dx, dy, d, rs, r1, r2, e, fun v H' α' a r => k H' α' a v r⟩
def TOI (K : Frag) (E : XS) (m : Rho → M (Option Int)) : TO := fun σ H Q => ∃ ρ α S, RS K H α S ∧ RE K H α ρ σ ∧ Pst K E H α (m ρ S) fun o _ H' _ => Q o H'
abbrev JO (X : Cx) (E : XS) (e : Option Expr) (m : Rho → M (Option Int)) : Prop := PO X e (TOI X.K E m)
theorem po_w {X : Cx} {e : Option Expr} {t t' : TO} (h : PO X e t) (k : ∀ σ H Q, t' σ H Q → t σ H Q) : PO X e t' := ⟨fun pins s σ H Q I q => h.run pins s σ H Q I (k _ _ _ q)⟩
theorem jo_no : JO X E none (Ln.evo cf .no) := po_w po_none fun σ H Q ⟨ρ, α, S, rs, re, p⟩ => by
  simp only [Ln.evo] at p
  exact p.ret rs
theorem jo_so (ha : JE X E a (Ln.ev cf ia)) : JO X E (some a) (Ln.evo cf (.so ia)) := po_w (po_some ha) fun σ H Q ⟨ρ, α, S, rs, re, p⟩ => by
  simp only [Ln.evo] at p
  refine ⟨ρ, α, S, rs, re, p.bind.mono fun d S1 H1 α1 _ q v rd => ?_⟩
  have p1 := q.2
  unfold Ln.intK at p1
  split at p1
  · cases rd; exact ⟨_, rfl, p1.ret q.1.rs⟩
  · exact p1.elim
theorem je_slc {lo hi : Option Expr} {ilo ihi : Ln.Eo} {p2 : Pos} (ha : JE X E a (Ln.ev cf ia)) (hl : JO X E lo (Ln.evo cf ilo)) (hh : JO X E hi (Ln.evo cf ihi)) : JE X E (.Subscript a (.Slice lo hi none p2) pos) (Ln.ev cf (.slc ia ilo ihi)) :=
  pe_w (pe_slice sl_d ha hl hh) fun σ H Q ⟨ρ, α, S, rs, re, p⟩ => by
    simp only [Ln.ev] at p
    refine ⟨ρ, α, S, rs, re, p.bind.mono fun d S1 H1 α1 _ q v rd => ?_⟩
    refine ⟨ρ, α1, S1, q.1.rs, q.1.re re, q.2.bind.mono fun l S2 H2 α2 _ q2 => ?_⟩
    refine ⟨ρ, α2, S2, q2.1.rs, q2.1.re (q.1.re re), q2.2.bind.mono fun h S3 H3 α3 _ q3 => ?_⟩
    obtain ⟨d', e, k⟩ := q3.2.optN
    exact ⟨α3, S3, d, d', q3.1.rs, q3.1.rd (q2.1.rd rd), e, fun v H' α' a r => k H' α' a v r⟩
theorem je_rev {k : Nat} {p1 p2 p3 : Pos} (ha : JE X E a (Ln.ev cf ia)) : JE X E (.Subscript a (.Slice none none (some (.UnaryOp .USub (.Constant (.int 1) k p1) p2)) p3) pos) (Ln.ev cf (.rev ia)) :=
  pe_w (pe_rev ha) fun σ H Q ⟨ρ, α, S, rs, re, p⟩ => by
    simp only [Ln.ev] at p
    refine ⟨ρ, α, S, rs, re, p.bind.mono fun d S1 H1 α1 _ q v rd => ?_⟩
    obtain ⟨d', e, k⟩ := q.2.optN
    exact ⟨α1, S1, d, d', q.1.rs, rd, e, fun v H' α' a r => k H' α' a v r⟩

/-! ### isinstance -/
def tyName : Ln.Ty → String
  | .int => "int"
  | .bool => "bool"
  | .str => "str"
  | .tuple => "tuple"
  | .list => "list"
  | .dict => "dict"
theorem kit_all (K : Frag) (u t : Ln.Ty) : PySem.W.kitOne K (.type (tyName u)) (.type (tyName t)) = some (decide (u = t) || (decide (u = .bool) && decide (t = .int))) := by
  cases u <;> cases t <;> exact kit_ty (by decide +kernel)
theorem kit_none (K : Frag) (t : Ln.Ty) : PySem.W.kitOne K (.type "NoneType") (.type (tyName t)) = some false := by
  cases t <;> exact kit_ty (by decide +kernel)
theorem ty_at {K : Frag} {H : Hp} {α : Al} {S : Store} (rs : RS K H α S) {d : D} {x : V} {t : Ln.Ty} (r : RD K H α d x) (e : Ln.tyOf S d = some t) : TyX K H x (.type (tyName t)) := by
  cases r with
  | non => cases e
  | bl b => cases e; exact .base (.bl _)
  | int i => cases e; exact .base (.int _)
  | str z => cases e; exact .base (.str _)
  | tup h q =>
    cases e
    rcases h with ⟨o, _, h⟩ | ⟨o, its, n, _, h, hc, _⟩
    · exact .fTuple h
    · exact .kTuple h hc
  | wtp h q => cases e
  | exn0 h => cases e
  | exn1 h n k l r => cases e
  | lst n h q => cases e; exact .base (.lst h)
  | frz h q =>
    cases e
    rcases h with ⟨_, h | ⟨o, h⟩⟩ | ⟨o, its, n, h, hc, _⟩
    · exact .base (.lst h)
    · exact .base (.frz h)
    · exact .kList h hc
  | dct n h q1 q2 => cases e; exact .base (.dK h)
  | ref h =>
    simp only [Ln.tyOf] at e
    split at e
    · rename_i xs hS
      cases e
      obtain ⟨vs, h1, h2⟩ := rs.at_ _ _ _ h hS
      exact .base (.lst h1)
    · rename_i ks vs hS
      cases e
      obtain ⟨vs, h1, h2⟩ := rs.at_ _ _ _ h hS
      exact .base (.dK h1)
    · cases e
theorem je_isi {p p2 : Pos} (t : Ln.Ty) {tn : Str} (hg : Gl X "isinstance") (hm : X.mg "isinstance" = none) (ht : bootBuiltins tn = some (.type (tyName t))) (hgt : Gl X tn) (hmt : X.mg tn = none) (ha : JE X E a (Ln.ev cf ia))
    (hn : tn ≠ "__name__" := by decide) (hd : (tn == ("__debug__" : Str)) = false := by decide)
    (he : starEach [a, .Name tn p2] X.env = (false, eval a X.env) :: starEach [.Name tn p2] X.env := by rfl) (hpl : (backTo pos (starEach [.Name tn p2] X.env)).any (·.1) = false := by rfl) :
    JE X E (.Call (.Name "isinstance" p) [a, .Name tn p2] [] pos) (Ln.ev cf (.isi ia t)) :=
  pe_w (pe_callB call_isi hg hm (by decide +kernel) (pa_cons ha (pa_cons (pe_bltn (v := .ty (tyName t)) hgt hmt ht rfl hn hd) pa_nil) he) (he := he) (hpl := hpl)) fun σ H Q ⟨ρ, α, S, rs, re, p⟩ => by
    simp only [Ln.ev] at p
    refine ⟨ρ, α, S, rs, re, p.bind.mono fun d S1 H1 α1 _ q v rd => ?_⟩
    obtain ⟨k, e, k2⟩ := q.2.bind.opt q.1.rs
    have k3 := k2.2.ret q.1.rs
    have non : d = .non ∨ d ≠ .non := by cases d <;> simp
    rcases non with rfl | hnon
    · cases rd
      cases e
      exact ⟨.non, _, _, _, false, rfl, .ty _, .base .non, kit_none X.K t, k3 _ (.bl _)⟩
    · have e' : (Ln.tyOf S1 d).map (fun u => decide (u = t) || (decide (u = .bool) && decide (t = .int))) = some k := by
        unfold Ln.isiD at e
        split at e
        · exact absurd rfl hnon
        · exact e
      rw [Option.map_eq_some_iff] at e'
      obtain ⟨u, e1, e2⟩ := e'
      exact ⟨v, _, _, _, k, rfl, .ty _, ty_at q.1.rs rd e1, by rw [kit_all, e2], k3 _ (.bl _)⟩
end
end LnS

set_option linter.all false
set_option maxRecDepth 100000
/-! Ln: built-ins. -/
namespace LnS
open PySem L2 PyProof.Rows
open Ln (D O Store Rho M R Ex)
variable [Tbs]

/-! ### depth -/
theorem depthAll_le {S : Store} {k : Nat} (ih : ∀ (d : D) (p : PyData), Ln.toP S k d = some p → p.depth ≤ k) : ∀ {ds : List D} {ps : List PyData}, ds.mapM (Ln.toP S k) = some ps → PyData.depthAll ps ≤ k
  | [], _, e => by rw [mapM_nil e]; simp [PyData.depthAll]
  | d :: ds, _, e => by
    obtain ⟨p, ps', e1, e2, rfl⟩ := mapM_cons e
    simp only [PyData.depthAll]
    have h1 := ih d p e1
    have h2 := depthAll_le ih e2
    omega
theorem depthKv_le {n : Nat} : ∀ {ps qs : List PyData}, PyData.depthAll ps ≤ n → PyData.depthAll qs ≤ n → PyData.depthKv (ps.zip qs) ≤ n
  | [], _, _, _ => by simp [PyData.depthKv]
  | _ :: _, [], _, _ => by simp [PyData.depthKv]
  | p :: ps, q :: qs, h1, h2 => by
    simp only [PyData.depthAll] at h1 h2
    simp only [List.zip_cons_cons, PyData.depthKv]
    have := depthKv_le (n := n) (ps := ps) (qs := qs) (by omega) (by omega)
    omega
theorem toP_depth {S : Store} : ∀ (k : Nat) (d : D) (p : PyData), Ln.toP S k d = some p → p.depth ≤ k
  | 0, d, p, e => by cases d <;> simp only [Ln.toP] at e <;> cases e <;> simp [PyData.depth]
  | k + 1, d, p, e => by
    have ih := toP_depth (S := S) k
    have dct : ∀ {ks vs : List D}, ((ks.mapM (Ln.toP S k)).bind fun a => (vs.mapM (Ln.toP S k)).map fun b => PyData.dict (a.zip b)) = some p → p.depth ≤ k + 1 := fun {ks vs} e => by
      cases e1 : ks.mapM (Ln.toP S k) with
      | none => rw [e1] at e; cases e
      | some pa =>
      cases e2 : vs.mapM (Ln.toP S k) with
      | none => rw [e1, e2] at e; cases e
      | some pb =>
      rw [e1, e2] at e
      cases e
      simp only [PyData.depth]
      have := depthKv_le (depthAll_le ih e1) (depthAll_le ih e2)
      omega
    cases d with
    | non => cases e; simp [PyData.depth]
    | bl b => cases e; simp [PyData.depth]
    | int i => cases e; simp [PyData.depth]
    | str x => cases e; simp [PyData.depth]
    | tup xs =>
      simp only [Ln.toP, Option.map_eq_some_iff] at e
      obtain ⟨ps, e, rfl⟩ := e
      have := depthAll_le ih e
      simp only [PyData.depth]; omega
    | lst xs =>
      simp only [Ln.toP, Option.map_eq_some_iff] at e
      obtain ⟨ps, e, rfl⟩ := e
      have := depthAll_le ih e
      simp only [PyData.depth]; omega
    | frz xs => cases e
    | wtp xs => cases e
    | exn n f v => cases e
    | dct ks vs => exact dct e
    | ref n =>
      simp only [Ln.toP] at e
      split at e
      · simp only [Option.map_eq_some_iff] at e
        obtain ⟨ps, e, rfl⟩ := e
        have := depthAll_le ih e
        simp only [PyData.depth]; omega
      · exact dct e
      · cases e

/-- a built-in that leaves the store, by values -/
def rB (K : Frag) (f : Store → List D → Option D) : List V → Hp → VK → Prop := fun vs H Q => ∃ α S ds d, RS K H α S ∧ RDs K H α ds vs ∧ f S ds = some d ∧ ∀ v H' α', After K α H α' H' S → RD K H' α' d v → Q v H'

section
variable {X : Cx}
theorem rds1 {K : Frag} {H : Hp} {α : Al} {d : D} {vs : List V} (r : RDs K H α [d] vs) : ∃ v, vs = [v] ∧ RD K H α d v := by
  cases r with
  | cons r t => cases t; exact ⟨_, rfl, r⟩
theorem rds2 {K : Frag} {H : Hp} {α : Al} {d e : D} {vs : List V} (r : RDs K H α [d, e] vs) : ∃ v w, vs = [v, w] ∧ RD K H α d v ∧ RD K H α e w := by
  cases r with
  | cons r t => obtain ⟨w, rfl, q⟩ := rds1 t; exact ⟨_, w, rfl, r, q⟩
theorem cb_len : CallR X (.builtin "len") (rB X.K Ln.lenF) := by
  intro pins s σ H xs us Q I r h
  obtain ⟨α, S, ds, d, rs, rd, e, q⟩ := h
  unfold Ln.lenF at e
  split at e
  · obtain ⟨v, rfl, rd1⟩ := rds1 rd
    cases rd1
    split at e
    · rename_i hz
      cases e
      exact call_len_str pins s σ H _ us Q I r ⟨_, rfl, hz, q _ _ _ (.refl rs) (.int _)⟩
    · cases e
  · obtain ⟨v, rfl, rd1⟩ := rds1 rd
    rw [Option.map_eq_some_iff] at e
    obtain ⟨ys, e, rfl⟩ := e
    obtain ⟨a, vs, rfl, hq, rds⟩ := seq_at rs rd1 e
    refine call_len_seq pins s σ H _ us Q I r ⟨a, vs, rfl, hq, ?_⟩
    rw [← rds.length]
    exact q _ _ _ (.refl rs) (.int _)
  · cases e
theorem cb_tuple : CallR X (.type "tuple") (rB X.K Ln.tupleF) := by
  intro pins s σ H xs us Q I r h
  obtain ⟨α, S, ds, d, rs, rd, e, q⟩ := h
  unfold Ln.tupleF at e
  split at e
  · obtain ⟨v, rfl, rd1⟩ := rds1 rd
    rw [Option.map_eq_some_iff] at e
    obtain ⟨ys, e, rfl⟩ := e
    obtain ⟨a, vs, rfl, hq, rds⟩ := seq_at rs rd1 e
    refine call_tupleZ pins s σ H _ us Q I r ⟨a, vs, rfl, ?_⟩
    rcases hq with hq | hq
    · refine .inl ⟨hq, fun p o ho hp => ?_⟩
      obtain ⟨af, rd'⟩ := new_tup rs ho hp rds
      exact q _ _ _ af rd'
    · refine .inr ⟨hq, ?_⟩
      have tl : ∀ {b : Addr} {us ws : List V}, SqL X.K H b us → SqT X.K H b ws → False := fun {b us ws} h1 h2 => by
        obtain ⟨_, _, ⟨o, n, e, c, _⟩, _⟩ := I.list h1
        obtain ⟨_, _, ⟨o', e', c', _⟩, _⟩ := I.tuple h2
        rw [e] at e'; cases e'
        rw [c] at c'
        exact absurd c' (by decide)
      cases rd1 with
      | tup h1 h2 => cases e; exact q _ _ _ (.refl rs) (.tup h1 h2)
      | lst n h1 h2 => exact (tl (SqL.of h1) hq).elim
      | frz h1 h2 => exact (tl h1.sq hq).elim
      | ref h1 =>
        simp only [Ln.seqOf] at e
        split at e
        · rename_i ys hS
          obtain ⟨ws, h3, _⟩ := rs.at_ _ _ _ h1 hS
          exact (tl (SqL.of h3) hq).elim
        · cases e
      | _ => simp [Ln.seqOf] at e
  · cases e
theorem cb_list : CallR X (.type "list") (rB X.K Ln.listF) := by
  intro pins s σ H xs us Q I r h
  obtain ⟨α, S, ds, d, rs, rd, e, q⟩ := h
  unfold Ln.listF at e
  split at e
  · obtain ⟨v, rfl, rd1⟩ := rds1 rd
    rw [Option.map_eq_some_iff] at e
    obtain ⟨ys, e, rfl⟩ := e
    obtain ⟨a, vs, rfl, hq, rds⟩ := seq_at rs rd1 e
    refine call_list_of pins s σ H _ us Q I r ⟨a, vs, rfl, hq, fun p hp => ?_⟩
    obtain ⟨af, rd'⟩ := new_lst rs hp rds
    exact q _ _ _ af rd'
  · cases e
theorem cb_all (hc : X.calm = true) : CallR X (.builtin "all") (rB X.K Ln.allF) := by
  intro pins s σ H xs us Q I r h
  obtain ⟨α, S, ds, d, rs, rd, e, q⟩ := h
  unfold Ln.allF at e
  split at e
  · obtain ⟨v, rfl, rd1⟩ := rds1 rd
    simp only [Option.bind_eq_some_iff, Option.map_eq_some_iff] at e
    obtain ⟨ys, e, bs, e2, rfl⟩ := e
    obtain ⟨a, vs, rfl, hq, rds⟩ := lst_at rs rd1 e
    have := rds.boolsD e2
    subst this
    exact cr_all hc pins s σ H _ us Q I r ⟨a, bs, rfl, SqL.of hq, q _ _ _ (.refl rs) (.bl _)⟩
  · cases e
theorem cb_any (hc : X.calm = true) : CallR X (.builtin "any") (rB X.K Ln.anyF) := by
  intro pins s σ H xs us Q I r h
  obtain ⟨α, S, ds, d, rs, rd, e, q⟩ := h
  unfold Ln.anyF at e
  split at e
  · obtain ⟨v, rfl, rd1⟩ := rds1 rd
    simp only [Option.bind_eq_some_iff, Option.map_eq_some_iff] at e
    obtain ⟨ys, e, bs, e2, rfl⟩ := e
    obtain ⟨a, vs, rfl, hq, rds⟩ := lst_at rs rd1 e
    have := rds.boolsD e2
    subst this
    exact cr_any hc pins s σ H _ us Q I r ⟨a, bs, rfl, SqL.of hq, q _ _ _ (.refl rs) (.bl _)⟩
  · cases e
/-- sum(t), t a tuple of ints -/
theorem sum_tup {prog : Program} {w : World} {A : Around} {E : Value → Shared → Prop} {s : Shared} {l : Addr} {its : List Value} {ns : List Int} {Q : Value → Shared → Prop} (hh : A.handled = none) (hl : s.heap.IsTuple l its.toArray) (hi : IntsAre its ns)
    (h : ∀ h' tk t', (∀ b o, s.heap.get? b = some o → h'.get? b = some o) → Q (.int ns.sum t') { s with heap := h', toks := tk }) : wpAny (model prog w) A (call (.builtin "sum") [.ref l]) Q E s := by
  obtain ⟨xs, e⟩ := hi.allInts.items
  have hn : numsOf (intItems xs).toList = ns := by rw [← e]; exact hi.numsOf
  rw [nums_intItems] at hn
  rw [e] at hl
  have hlt : l < s.heap.objs.size := by obtain ⟨_, e, _⟩ := hl; exact Heap.lt_size e
  refine call_sum_walkG (wpAny_pyIter_tuple hl ?_)
  refine ⟨s.heap.objs.size, [s.heap.objs.size, l], [s.heap.objs.size], (intItems xs).size, _, _, numAt xs, rfl, Walks.tuple (A := A.in1) hh _ l (Nat.ne_of_lt hlt) (intItems xs), ⟨⟨_, Heap.get?_push_size _ rfl, rfl, rfl⟩, hl.at fun o e => Heap.get?_push_of_some _ e⟩, fun b hb => ?_, (fun _ _ => intItems_at), fun h' tk t' hk => ?_⟩
  · show b < (s.heap.push _).objs.size
    rw [Heap.size_push]
    rcases List.mem_cons.mp hb with rfl | hb
    · exact Nat.lt_succ_self _
    · rw [List.mem_singleton.mp hb]; exact Nat.lt_succ_of_lt hlt
  · have := h h' tk t' fun b o e => by
      refine hk b o (fun hm => ?_) (Heap.get?_push_of_some _ e)
      rw [List.mem_singleton.mp hm] at e
      exact absurd (Heap.lt_size e) (Nat.lt_irrefl _)
    rw [preSum_eq, List.take_of_length_le (by simp [intItems]), hn]; exact this
theorem cb_sum (hc : X.calm = true) : CallR X (.builtin "sum") (rB X.K Ln.sumF) := by
  intro pins s σ H xs us Q I r h
  obtain ⟨α, S, ds, d, rs, rd, e, q⟩ := h
  unfold Ln.sumF at e
  split at e
  · obtain ⟨v, rfl, rd1⟩ := rds1 rd
    simp only [Option.bind_eq_some_iff, Option.map_eq_some_iff] at e
    obtain ⟨ys, e, bs, e2, rfl⟩ := e
    obtain ⟨a, vs, rfl, hq, rds⟩ := seq_at rs rd1 e
    have := rds.intsD e2
    subst this
    rcases hq with hq | hq
    · exact cr_sum hc pins s σ H _ us Q I r ⟨a, bs, rfl, hq, q _ _ _ (.refl rs) (.int _)⟩
    · obtain ⟨its, rv, hl, _⟩ := I.tuple hq
      rw [Vals.ref1 r]
      exact sum_tup (I.ok.hd hc) hl rv.ints fun h' tk t' hk => ⟨.int _, H, I.kept hk, ⟨_, rfl⟩, q _ _ _ (.refl rs) (.int _)⟩
  · cases e
theorem cb_abs : CallR X (.builtin "abs") (rB X.K Ln.absF) := by
  intro pins s σ H xs us Q I r h
  obtain ⟨α, S, ds, d, rs, rd, e, q⟩ := h
  unfold Ln.absF at e
  split at e
  · obtain ⟨v, rfl, rd1⟩ := rds1 rd
    cases rd1; cases e
    exact call_abs pins s σ H _ us Q I r ⟨_, rfl, q _ _ _ (.refl rs) (.int _)⟩
  · cases e
theorem cb_max (hc : X.calm = true) : CallR X (.builtin "max") (rB X.K Ln.maxF) := by
  intro pins s σ H xs us Q I r h
  obtain ⟨α, S, ds, d, rs, rd, e, q⟩ := h
  unfold Ln.maxF at e
  split at e
  · obtain ⟨v, w, rfl, rd1, rd2⟩ := rds2 rd
    cases rd1; cases rd2; cases e
    exact call_max2 hc pins s σ H _ us Q I r ⟨_, _, rfl, q _ _ _ (.refl rs) (.int _)⟩
  · cases e
theorem cb_min (hc : X.calm = true) : CallR X (.builtin "min") (rB X.K Ln.minF) := by
  intro pins s σ H xs us Q I r h
  obtain ⟨α, S, ds, d, rs, rd, e, q⟩ := h
  unfold Ln.minF at e
  split at e
  · obtain ⟨v, w, rfl, rd1, rd2⟩ := rds2 rd
    cases rd1; cases rd2; cases e
    exact call_min2 hc pins s σ H _ us Q I r ⟨_, _, rfl, q _ _ _ (.refl rs) (.int _)⟩
  · cases e
theorem cb_int : CallR X (.type "int") (rB X.K Ln.intF) := by
  intro pins s σ H xs us Q I r h
  obtain ⟨α, S, ds, d, rs, rd, e, q⟩ := h
  unfold Ln.intF at e
  split at e
  · obtain ⟨v, rfl, rd1⟩ := rds1 rd
    cases rd1; cases e
    exact call_int1 pins s σ H _ us Q I r (.inl ⟨_, rfl, q _ _ _ (.refl rs) (.int _)⟩)
  · obtain ⟨v, rfl, rd1⟩ := rds1 rd
    cases rd1; cases e
    exact call_int1 pins s σ H _ us Q I r (.inr ⟨_, rfl, q _ _ _ (.refl rs) (.int _)⟩)
  · cases e
theorem cb_str : CallR X (.type "str") (rB X.K Ln.strF) := by
  intro pins s σ H xs us Q I r h
  obtain ⟨α, S, ds, d, rs, rd, e, q⟩ := h
  unfold Ln.strF at e
  split at e
  · obtain ⟨v, rfl, rd1⟩ := rds1 rd
    cases rd1
    split at e
    · rename_i hz
      cases e
      exact call_str_int pins s σ H _ us Q I r ⟨_, rfl, hz, q _ _ _ (.refl rs) (.str _)⟩
    · cases e
  · cases e
/-- dict(xs) -/
theorem cb_dict (hc : X.calm = true) : CallR X (.type "dict") (rB X.K Ln.dictF) := by
  intro pins s σ H xs us Q I r h
  obtain ⟨α, S, ds, d, rs, rd, e, q⟩ := h
  unfold Ln.dictF at e
  split at e
  · obtain ⟨v, rfl, rd1⟩ := rds1 rd
    rw [Option.bind_eq_some_iff] at e
    obtain ⟨ys, e1, e2⟩ := e
    rw [Option.map_eq_some_iff] at e2
    obtain ⟨ps, e3, rfl⟩ := e2
    obtain ⟨a, vs, rfl, hH, rds⟩ := lst_at rs rd1 e1
    obtain ⟨as, kvs, rfl, hp, hm⟩ := pairs_at' rds e3
    obtain ⟨m1, m2⟩ := hm (acc := []) (kv0 := []) .nil .nil
    refine call_dictP hc pins s σ H _ us Q I r ⟨a, as, kvs, rfl, SqL.of hH, hp, fun p hp => ?_⟩
    have af := After.new (o := .dK (mergeK [] kvs)) rs hp
    exact q _ _ _ af (.dct (rs.free hp) upd_same (af.rds m1) (af.rds m2))
  · cases e
theorem cb_repr (hg : X.A.guards = some []) (hu : X.A.units + 64 < cLine) : CallR X (.builtin "repr") (rB X.K Ln.reprF) := by
  intro pins s σ H xs us Q I r h
  obtain ⟨α, S, ds, d, rs, rd, e, q⟩ := h
  unfold Ln.reprF at e
  split at e
  · obtain ⟨v, rfl, rd1⟩ := rds1 rd
    rw [Option.bind_eq_some_iff] at e
    obtain ⟨p, e1, e⟩ := e
    split at e
    · rename_i hz
      cases e
      rw [Bool.and_eq_true, decide_eq_true_eq] at hz
      obtain ⟨u, rfl, ru⟩ := r.one
      obtain ⟨as, h1, g1⟩ := reads_of I rs _ _ _ _ _ rd1 ru e1
      have dp := toP_depth _ _ _ e1
      have hd : p.depth ≤ 24 := dp
      have z := q _ _ _ (.refl rs) (.str p.shown)
      have refs : ∀ a, u = .ref a → wpAny (model X.prog X.w) X.A (call (.builtin "repr") [u]) (EP X pins σ Q) X.xe s := fun a ea => by
        subst ea
        exact repr_of_reads' h1 hz.1 (fun _ => g1) hg (by omega) (fun b o e => e) (fun h' u tk hk => ⟨.str _, H, I.kept (t' := tk) hk, ⟨u, rfl⟩, z⟩) hz.2
      cases h1 with
      | none => exact PySem.P.repr_of_none ⟨.str _, H, I.tok _, ⟨_, rfl⟩, by rw [PyData.shown_none] at z; exact z⟩
      | bool b => exact PySem.P.repr_of_bool ⟨.str _, H, I.tok _, ⟨_, rfl⟩, by rw [PyData.shown_bool] at z; exact z⟩
      | int i t => exact PySem.P.repr_of_int (by simpa [PyData.showable] using hz.1) ⟨.str _, H, I.tok _, ⟨_, rfl⟩, by rw [PyData.shown_int] at z; exact z⟩
      | str x t => exact PySem.P.repr_of_str ⟨.str _, H, I.tok _, ⟨_, rfl⟩, by rw [PyData.shown_str] at z; exact z⟩ (by have := hz.2; rw [PyData.shown_str] at this; exact this)
      | list => exact refs _ rfl
      | tuple => exact refs _ rfl
      | dict => exact refs _ rfl
    · cases e
  · cases e
/-! as expressions -/
variable {E : XS} {cf : Nat → List D → M D} {pos p : Pos} {a : Expr} {es : List Expr} {ies : Ln.Es} {x : Str}
theorem tcb_w {f : Store → List D → Option D} {b : Ln.Blt} (hb : ∀ args S, Ln.blt b args S = M.opt (fun S => f S args) S) {σ : L2.St} {H : Hp} {Q : VK} (h : TI X.K E (Ln.ev cf (.blt b ies)) σ H Q) : tCB (rB X.K f) (TAI X.K E (Ln.evs cf ies)) σ H Q := by
  obtain ⟨ρ, α, S, rs, re, p⟩ := h
  simp only [Ln.ev] at p
  refine ⟨ρ, α, S, rs, re, p.bind.mono fun ds S1 H1 α1 _ q vs rd => ?_⟩
  have p1 := q.2
  rw [hb] at p1
  obtain ⟨d, e, k⟩ := p1.optN
  exact ⟨α1, S1, ds, d, q.1.rs, rd, e, fun v H' α' a r => k H' α' a v r⟩
theorem je_bltB {f : Store → List D → Option D} {id : String} (b : Ln.Blt) (hb : ∀ args S, Ln.blt b args S = M.opt (fun S => f S args) S) (hc : CallR X (.builtin id) (rB X.K f)) (hg : Gl X x) (hm : X.mg x = none) (hv : bootBuiltins x = some (.builtin id)) (ha : JA X E (a :: es) (Ln.evs cf ies))
    (hn : x ≠ "__name__" := by decide) (hdb : (x == ("__debug__" : Str)) = false := by decide)
    (he : starEach (a :: es) X.env = (false, eval a X.env) :: starEach es X.env := by rfl) (hpl : (backTo pos (starEach es X.env)).any (·.1) = false := by rfl) : JE X E (.Call (.Name x p) (a :: es) [] pos) (Ln.ev cf (.blt b ies)) :=
  pe_w (pe_callB hc hg hm hv ha hn hdb he hpl) fun σ H Q h => tcb_w hb h
theorem je_bltT {f : Store → List D → Option D} {T : String} (b : Ln.Blt) (hb : ∀ args S, Ln.blt b args S = M.opt (fun S => f S args) S) (hc : CallR X (.type T) (rB X.K f)) (hg : Gl X x) (hm : X.mg x = none) (hv : bootBuiltins x = some (.type T)) (ha : JA X E (a :: es) (Ln.evs cf ies))
    (hn : x ≠ "__name__" := by decide) (hdb : (x == ("__debug__" : Str)) = false := by decide)
    (he : starEach (a :: es) X.env = (false, eval a X.env) :: starEach es X.env := by rfl) (hpl : (backTo pos (starEach es X.env)).any (·.1) = false := by rfl) : JE X E (.Call (.Name x p) (a :: es) [] pos) (Ln.ev cf (.blt b ies)) :=
  pe_w (pe_callTy hc hg hm hv ha hn hdb he hpl) fun σ H Q h => tcb_w hb h
end
end LnS

set_option linter.all false
set_option maxRecDepth 100000
/-! Ln: defs, their calls. -/
namespace LnS
open PySem L2 PyProof.Rows
open Ln (D O Store Rho M R Ex)
variable [Tbs]

/-- a def's promise by positional values, where no repr is under way -/
def FnG (P : Program) (w : World) (K : Frag) (mg : Str → Option Value) (base : Heap) (CX : CXT) (k : Nat) (f : Addr) (sp : Sp) : Prop :=
  ∀ (A : Around) (outer : List Env) (s : Shared) (H : Hp) (us : List Value) (vs : List V) (Q : VK) (E : XK), Room k A → A.guards = some [] → Env0 P w K mg base A outer s H → Vals vs us → sp vs H Q E →
    codeAny (model P w) A (.call (.ref f) ⟨us, []⟩) (CR CX outer P w H s Q E) s
/-- a class of errors: its object, and the name of the value that its errors keep -/
abbrev Cls := Addr × Option Str
/-- what is raised: the evaluator's error as the layer's -/
def RX (K : Frag) (cs : List Cls) (H : Hp) (α : Al) (e : Ex) (cls : Value) (d : Option Addr) : Prop :=
  ∃ (C : Addr) (f : Option Str), cs[e.cls]? = some (C, f) ∧ cls = .ref C ∧ match f with
    | none => d = none
    | some f => ∃ (dd : Addr) (fs : List (Str × V)) (v : V), d = some dd ∧ H dd = some (.xd fs) ∧ fs.lookup f = some v ∧ RD K H α e.val v
/-- a wish about errors, for the evaluator -/
def xsOf (K : Frag) (cs : List Cls) (EX : XK) : XS := fun e _ H α => ∀ cls d, RX K cs H α e cls d → EX cls d H
/-- the context takes the errors that the evaluator may raise -/
structure Lnk (X : Cx) (cs : List Cls) (E : XS) : Prop where
  ex : ∃ W : WX, Takes X W ∧ ∀ e S H α σ cls d, E e S H α → RX X.K cs H α e cls d → W cls d σ H
theorem lnk0 {X : Cx} {cs : List Cls} : Lnk X cs X0 := ⟨⟨fun _ _ _ _ => False, LamX.takes0, fun _ _ _ _ _ _ _ h => h.elim⟩⟩
theorem Pst.xmono {β : Type} {K : Frag} {E E' : XS} {H : Hp} {α : Al} {r : R β} {C : β → Store → Hp → Al → Prop} (h : Pst K E H α r C) (k : ∀ e S H α, E e S H α → E' e S H α) : Pst K E' H α r C := by
  cases r with
  | ok b S' => exact h
  | exc e S' => exact fun H' α' a => k _ _ _ _ (h H' α' a)
  | err => exact h
/-- what the evaluator says of a def, as a promise -/
def spI (K : Frag) (cs : List Cls) (g : List D → M D) : Sp := fun vs H Q EX => ∃ α S ds, RS K H α S ∧ RDs K H α ds vs ∧ Pst K (xsOf K cs EX) H α (g ds S) fun d _ H' α' => ∀ v, RD K H' α' d v → Q v H'

section
variable {X : Cx} {cf : Nat → List D → M D} {pos p : Pos} {a : Expr} {es : List Expr} {ies : Ln.Es} {x : Str} {k : Nat} {f : Addr} {CX : CXT} {cs : List Cls} {E : XS}
theorem run_fnG {pins : List (Addr × Obj)} {σ : L2.St} {H : Hp} {s : Shared} {sp : Sp} {E : XK} {Q : VK} {us : List Value} {vs : List V} (F : FnG X.prog X.w X.K X.mg X.base CX k f sp) (hr : Room k X.A) (hG : X.A.guards = some []) (hx : Passes CX X E) (I : Inv X pins σ H s) (r : Vals vs us) (h : sp vs H Q E) :
    wpAny (model X.prog X.w) X.A (call (.ref f) us) (EP X pins σ Q) X.xe s := by
  refine wpAny_call (codeAny_mono (F X.A X.stack s H us vs Q E hr hG I.env0 r h) fun r s' hq => ?_)
  match r, hq with
  | .error e, hq => exact hx pins σ H s e s' I hq
  | .ok (.ret u), hq => exact I.after hq
/-- the wish that a call hands on -/
theorem Lnk.pass (lk : Lnk X cs E) : ∃ EX : XK, Passes (L2.CX X.prog X.w) X EX ∧ ∀ e S H α, E e S H α → xsOf X.K cs EX e S H α := by
  obtain ⟨W, tk, hW⟩ := lk.ex
  exact ⟨fun cls d H => ∀ σ, W cls d σ H, passes_call tk fun cls d σ H h => h σ, fun e S H α h cls d r σ => hW e S H α σ cls d h r⟩
theorem args_at {n : Nat} {σ : L2.St} {H : Hp} {Q : VK} {EX : XK} (hE : ∀ e S H α, E e S H α → xsOf X.K cs EX e S H α) (h : TI X.K E (Ln.ev cf (.call n ies)) σ H Q) : TAI X.K E (Ln.evs cf ies) σ H fun vs H1 => spI X.K cs (cf n) vs H1 Q EX := by
  obtain ⟨ρ, α, S, rs, re, q⟩ := h
  simp only [Ln.ev] at q
  exact ⟨ρ, α, S, rs, re, q.bind.mono fun ds S1 H1 α1 _ q vs rds => ⟨α1, S1, ds, q.1.rs, rds, q.2.xmono hE⟩⟩
/-- f(a, ..) -/
theorem je_call (lk : Lnk X cs E) (n : Nat) (F : FnG X.prog X.w X.K X.mg X.base (L2.CX X.prog X.w) k f (spI X.K cs (cf n))) (hr : Room k X.A) (hG : X.A.guards = some []) (hg : Gl X x) (hm : X.mg x = some (.ref f)) (hk : PySem.W.keepIn X.K (.ref f) = true) (ha : JA X E (a :: es) (Ln.evs cf ies))
    (hdb : (x == ("__debug__" : Str)) = false := by decide) (he : starEach (a :: es) X.env = (false, eval a X.env) :: starEach es X.env := by rfl) (hpl : (backTo pos (starEach es X.env)).any (·.1) = false := by rfl) :
    JE X E (.Call (.Name x p) (a :: es) [] pos) (Ln.ev cf (.call n ies)) := by
  obtain ⟨EX, hx, hE⟩ := lk.pass
  refine ⟨fun pins s σ H Q I h => ?_⟩
  refine wpAny_Call_Name_kw (ld_glob I hg hm ?_ hdb)
  refine PySem.W.callWith_K (h₀ := X.base) I.ok.mod.kin hk (thn (ha.run pos pins s σ H _ I (args_at hE h)) fun us s1 ⟨vs, H1, I1, r, q1⟩ => ⟨I1.kIn, ?_⟩) he hpl
  exact run_fnG F hr hG hx I1 r q1
/-- f() -/
theorem je_call0 (lk : Lnk X cs E) (n : Nat) (F : FnG X.prog X.w X.K X.mg X.base (L2.CX X.prog X.w) k f (spI X.K cs (cf n))) (hr : Room k X.A) (hG : X.A.guards = some []) (hg : Gl X x) (hm : X.mg x = some (.ref f)) (hk : PySem.W.keepIn X.K (.ref f) = true)
    (hdb : (x == ("__debug__" : Str)) = false := by decide) :
    JE X E (.Call (.Name x p) [] [] pos) (Ln.ev cf (.call n .nil)) := by
  obtain ⟨EX, hx, hE⟩ := lk.pass
  refine ⟨fun pins s σ H Q I h => ?_⟩
  refine wpAny_Call_Name_kw (ld_glob I hg hm ?_ hdb)
  obtain ⟨ρ, α, S, rs, re, q⟩ := args_at hE h
  simp only [Ln.evs] at q
  exact PySem.W.callWith_K0 I.kIn hk (run_fnG F hr hG hx I .nil (q.ret rs [] .nil))
/-- f(a, .., *b) -/
theorem je_callS2 (lk : Lnk X cs E) (n : Nat) (F : FnG X.prog X.w X.K X.mg X.base (L2.CX X.prog X.w) k f (spI X.K cs (cf n))) (hr : Room k X.A) (hG : X.A.guards = some []) (hg : Gl X x) (hm : X.mg x = some (.ref f)) (hk : PySem.W.keepIn X.K (.ref f) = true) (ha : JA X E (a :: es) (Ln.evs cf ies))
    (hdb : (x == ("__debug__" : Str)) = false := by decide) (he : starEach (a :: es) X.env = (false, eval a X.env) :: starEach es X.env := by rfl) (hst : (backTo pos (starEach es X.env)).any (·.1) = true := by rfl) :
    JE X E (.Call (.Name x p) (a :: es) [] pos) (Ln.ev cf (.call n ies)) := by
  obtain ⟨EX, hx, hE⟩ := lk.pass
  refine ⟨fun pins s σ H Q I h => ?_⟩
  refine wpAny_Call_Name_kw (ld_glob I hg hm ?_ hdb)
  refine PySem.W.callWith_S2 (h₀ := X.base) I.ok.mod.kin hk (thn (ha.run pos pins s σ H _ I (args_at hE h)) fun us s1 ⟨vs, H1, I1, r, q1⟩ => ⟨I1.kIn, ?_⟩) he hst
  exact run_fnG F hr hG hx I1 r q1
end
end LnS

set_option linter.all false
set_option maxRecDepth 100000
/-! Ln: what is walked; comprehensions. -/
namespace LnS
open PySem L2 PyProof.Rows
open Ln (D O Store Rho M R Ex)
variable [Tbs]

/-- the iterator J walks the items xs, as long as the store lives on from (H1, α1) -/
structure Walk (K : Frag) (H1 : Hp) (α1 : Al) (xs : List D) (J : It) : Prop where
  go : ∀ i H' α' S', After K α1 H1 α' H' S' → i < xs.length → J.go i H'
  stop : ∀ i H' α' S', After K α1 H1 α' H' S' → i = xs.length → J.stop i H'
  yld : ∀ i H' α' S' d x H'', After K α1 H1 α' H' S' → xs[i]? = some d → J.yld i H' x H'' → After K α' H' α' H'' S' ∧ RD K H'' α' d x
def TII (K : Frag) (E : XS) (m : Rho → M (List D)) : L2.TI := fun σ H R => ∃ ρ α S, RS K H α S ∧ RE K H α ρ σ ∧ Pst K E H α (m ρ S) fun xs _ H1 α1 => xs.length ≤ sizeLine → ∀ J, Walk K H1 α1 xs J → R J H1
abbrev JI (X : Cx) (E : XS) (tg iter : Expr) (m : Rho → M (List D)) : Prop := PI X tg iter (TII X.K E m)
theorem pi_w {X : Cx} {tg iter : Expr} {t t' : L2.TI} (h : PI X tg iter t) (k : ∀ σ H R, t' σ H R → t σ H R) : PI X tg iter t' := ⟨fun pins s σ H R I q => h.run pins s σ H R I (k _ _ _ q)⟩

section
variable {K : Frag} {H1 : Hp} {α1 : Al} {xs : List D}
theorem walk_list {a : Addr} {vs : List V} (h : ∀ H' α' S', After K α1 H1 α' H' S' → SqL K H' a vs ∧ RDs K H' α' xs vs) (inj : ∀ H' α' S', After K α1 H1 α' H' S' → True) : Walk K H1 α1 xs (Itl K a) where
  go := fun i H' α' S' af hi => by
    obtain ⟨h1, h2⟩ := h H' α' S' af
    have : i < vs.length := by rw [← h2.length]; exact hi
    exact ⟨vs, vs[i], h1, List.getElem?_eq_getElem this⟩
  stop := fun i H' α' S' af hi => by
    obtain ⟨h1, h2⟩ := h H' α' S' af
    exact ⟨vs, h1, by rw [← h2.length]; exact Nat.le_of_eq hi.symm⟩
  yld := fun i H' α' S' d x H'' af hd hy => by
    obtain ⟨h1, h2⟩ := h H' α' S' af
    obtain ⟨rfl, hy⟩ := hy
    obtain ⟨v, e1, e2⟩ := h2.get hd
    have := (hy vs h1).symm.trans e1
    cases this
    exact ⟨.refl af.rs, e2⟩
theorem walk_tup {a : Addr} {vs : List V} (h : ∀ H' α' S', After K α1 H1 α' H' S' → SqT K H' a vs ∧ RDs K H' α' xs vs) : Walk K H1 α1 xs (Itt K a) where
  go := fun i H' α' S' af hi => by
    obtain ⟨h1, h2⟩ := h H' α' S' af
    have : i < vs.length := by rw [← h2.length]; exact hi
    exact ⟨vs, vs[i], h1, List.getElem?_eq_getElem this⟩
  stop := fun i H' α' S' af hi => by
    obtain ⟨h1, h2⟩ := h H' α' S' af
    exact ⟨vs, h1, by rw [← h2.length]; exact Nat.le_of_eq hi.symm⟩
  yld := fun i H' α' S' d x H'' af hd hy => by
    obtain ⟨h1, h2⟩ := h H' α' S' af
    obtain ⟨rfl, hy⟩ := hy
    obtain ⟨v, e1, e2⟩ := h2.get hd
    have := (hy vs h1).symm.trans e1
    cases this
    exact ⟨.refl af.rs, e2⟩
theorem range_at {lo hi : Int} {i : Nat} {d : D} (h : (Ln.range lo hi)[i]? = some d) : d = .int (lo + i) := by
  unfold Ln.range at h
  rw [List.getElem?_map] at h
  cases e : (List.range (hi - lo).toNat)[i]? with
  | none => rw [e] at h; cases h
  | some j =>
    rw [e] at h
    have hj := List.getElem?_eq_some_iff.mp e
    obtain ⟨h1, h2⟩ := hj
    rw [List.getElem_range] at h2
    cases h
    rw [h2]
theorem range_len {lo hi : Int} : (Ln.range lo hi).length = (hi - lo).toNat := by unfold Ln.range; rw [List.length_map, List.length_range]
theorem walk_rng {lo hi : Int} {n : Nat} (hn : n = (hi - lo).toNat) : Walk K H1 α1 (Ln.range lo hi) (Itr lo n) where
  go := fun i H' α' S' af h => by rw [range_len] at h; show i < n; omega
  stop := fun i H' α' S' af h => by rw [range_len] at h; show n ≤ i; omega
  yld := fun i H' α' S' d x H'' af hd hy => by
    obtain ⟨rfl, rfl⟩ := hy
    rw [range_at hd]
    exact ⟨.refl af.rs, .int _⟩
theorem pairs_len : ∀ (xs ys : List D), (Ln.pairs xs ys).length = min xs.length ys.length
  | [], _ => by simp [Ln.pairs]
  | _ :: _, [] => by simp [Ln.pairs]
  | x :: xs, y :: ys => by simp only [Ln.pairs, List.length_cons, pairs_len xs ys]; omega
theorem pairs_at : ∀ {xs ys : List D} {i : Nat} {d : D}, (Ln.pairs xs ys)[i]? = some d → ∃ x y, xs[i]? = some x ∧ ys[i]? = some y ∧ d = .wtp [x, y]
  | [], _, _, _, h => by simp [Ln.pairs] at h
  | _ :: _, [], _, _, h => by simp [Ln.pairs] at h
  | x :: xs, y :: ys, 0, _, h => by simp [Ln.pairs] at h; exact ⟨x, y, rfl, rfl, h.symm⟩
  | x :: xs, y :: ys, i + 1, d, h => by
    have h' : (Ln.pairs xs ys)[i]? = some d := by simpa [Ln.pairs] using h
    obtain ⟨a, b, h1, h2, h3⟩ := pairs_at h'
    exact ⟨a, b, by simpa using h1, by simpa using h2, h3⟩
theorem numbered_len : ∀ (k : Nat) (xs : List D), (Ln.numbered k xs).length = xs.length
  | _, [] => rfl
  | k, x :: xs => by simp only [Ln.numbered, List.length_cons, numbered_len (k + 1) xs]
theorem numbered_at : ∀ {k : Nat} {xs : List D} {i : Nat} {d : D}, (Ln.numbered k xs)[i]? = some d → ∃ x, xs[i]? = some x ∧ d = .wtp [.int ((k + i : Nat) : Int), x]
  | _, [], _, _, h => by simp [Ln.numbered] at h
  | k, x :: xs, 0, _, h => by simp [Ln.numbered] at h; exact ⟨x, rfl, by rw [← h]; rfl⟩
  | k, x :: xs, i + 1, d, h => by
    have h' : (Ln.numbered (k + 1) xs)[i]? = some d := by simpa [Ln.numbered] using h
    obtain ⟨a, h1, h2⟩ := numbered_at h'
    exact ⟨a, by simpa using h1, by rw [h2, show k + 1 + i = k + (i + 1) by omega]⟩
theorem walk_zipL {a b : Addr} {ys : List D} {vs ws : List V} (h : ∀ H' α' S', After K α1 H1 α' H' S' → SqL K H' a vs ∧ RDs K H' α' xs vs ∧ SqL K H' b ws ∧ RDs K H' α' ys ws) : Walk K H1 α1 (Ln.pairs xs ys) (Itz K a b) where
  go := fun i H' α' S' af hi => by
    obtain ⟨h1, h2, h3, h4⟩ := h H' α' S' af
    rw [pairs_len] at hi
    have l2 := h2.length
    have l4 := h4.length
    exact ⟨vs, ws, vs[i]'(by omega), ws[i]'(by omega), h1, h3, List.getElem?_eq_getElem _, List.getElem?_eq_getElem _⟩
  stop := fun i H' α' S' af hi => by
    obtain ⟨h1, h2, h3, h4⟩ := h H' α' S' af
    rw [pairs_len] at hi
    have l2 := h2.length
    have l4 := h4.length
    exact ⟨vs, ws, h1, h3, by omega⟩
  yld := fun i H' α' S' d x H'' af hd hy => by
    obtain ⟨h1, h2, h3, h4⟩ := h H' α' S' af
    obtain ⟨T, p, q, rfl, hT, rfl, k1, k2⟩ := hy
    obtain ⟨dx, dy, e1, e2, rfl⟩ := pairs_at hd
    obtain ⟨v, f1, f2⟩ := h2.get e1
    obtain ⟨w, g1, g2⟩ := h4.get e2
    have := (k1 vs h1).symm.trans f1
    cases this
    have := (k2 ws h3).symm.trans g1
    cases this
    exact new_wtp af.rs hT (.cons f2 (.cons g2 .nil))
theorem walk_zipT {a b : Addr} {ys : List D} {vs ws : List V} (h : ∀ H' α' S', After K α1 H1 α' H' S' → SqT K H' a vs ∧ RDs K H' α' xs vs ∧ SqT K H' b ws ∧ RDs K H' α' ys ws) : Walk K H1 α1 (Ln.pairs xs ys) (RZ.ItzT K a b) where
  go := fun i H' α' S' af hi => by
    obtain ⟨h1, h2, h3, h4⟩ := h H' α' S' af
    rw [pairs_len] at hi
    have l2 := h2.length
    have l4 := h4.length
    exact ⟨vs, ws, vs[i]'(by omega), ws[i]'(by omega), h1, h3, List.getElem?_eq_getElem _, List.getElem?_eq_getElem _⟩
  stop := fun i H' α' S' af hi => by
    obtain ⟨h1, h2, h3, h4⟩ := h H' α' S' af
    rw [pairs_len] at hi
    have l2 := h2.length
    have l4 := h4.length
    exact ⟨vs, ws, h1, h3, by omega⟩
  yld := fun i H' α' S' d x H'' af hd hy => by
    obtain ⟨h1, h2, h3, h4⟩ := h H' α' S' af
    obtain ⟨T, p, q, rfl, hT, rfl, k1, k2⟩ := hy
    obtain ⟨dx, dy, e1, e2, rfl⟩ := pairs_at hd
    obtain ⟨v, f1, f2⟩ := h2.get e1
    obtain ⟨w, g1, g2⟩ := h4.get e2
    have := (k1 vs h1).symm.trans f1
    cases this
    have := (k2 ws h3).symm.trans g1
    cases this
    exact new_wtp af.rs hT (.cons f2 (.cons g2 .nil))
theorem walk_enum {a : Addr} {vs : List V} (h : ∀ H' α' S', After K α1 H1 α' H' S' → SqL K H' a vs ∧ RDs K H' α' xs vs) : Walk K H1 α1 (Ln.numbered 0 xs) (Ite K a) where
  go := fun i H' α' S' af hi => by
    obtain ⟨h1, h2⟩ := h H' α' S' af
    rw [numbered_len] at hi
    have : i < vs.length := by rw [← h2.length]; exact hi
    exact ⟨vs, vs[i], h1, List.getElem?_eq_getElem this⟩
  stop := fun i H' α' S' af hi => by
    obtain ⟨h1, h2⟩ := h H' α' S' af
    rw [numbered_len] at hi
    exact ⟨vs, h1, by rw [← h2.length]; exact Nat.le_of_eq hi.symm⟩
  yld := fun i H' α' S' d x H'' af hd hy => by
    obtain ⟨h1, h2⟩ := h H' α' S' af
    obtain ⟨T, p, rfl, hT, rfl, k1⟩ := hy
    obtain ⟨dx, e1, rfl⟩ := numbered_at hd
    obtain ⟨v, f1, f2⟩ := h2.get e1
    have := (k1 vs h1).symm.trans f1
    cases this
    rw [Nat.zero_add]
    exact new_wtp af.rs hT (.cons (.int _) (.cons f2 .nil))
end

section
variable {X : Cx} {E : XS} {cf : Nat → List D → M D} {pos p tpos : Pos} {a b tg : Expr} {ia ib : Ln.E} {kk : Nat} {elts : List Expr}
theorem len_seq {pins : List (Addr × Obj)} {σ : L2.St} {H : Hp} {s : Shared} {a : Addr} {vs : List V} (I : Inv X pins σ H s) (h : SqL X.K H a vs ∨ SqT X.K H a vs) : vs.length ≤ sizeLine := by
  rcases h with h | h
  · exact (I.list h).elim fun _ q => q.2.2
  · exact (I.tuple h).elim fun _ q => q.2.2
/-- as PE, the items' number told -/
theorem pi_seq {l : Expr} {tl : TE} (hl : PE X l tl) : PI X tg l (fun σ H R => tl σ H fun x H1 => (∃ a xs, x = .ref a ∧ ((SqL X.K H1 a xs ∧ (xs.length ≤ sizeLine → R (Itl X.K a) H1)) ∨ (SqT X.K H1 a xs ∧ (xs.length ≤ sizeLine → R (Itt X.K a) H1)))) ∨ ∃ z, x = .str z ∧ R (Its z) H1) := by
  refine ⟨fun pins s σ H R I h => ?_⟩
  refine thn (hl.run pins s σ H _ I h) fun v s1 ⟨x, H1, I1, r1, q1⟩ => ?_
  rcases q1 with ⟨a, xs, e, q⟩ | ⟨z, e, q⟩
  case inr =>
    subst e
    obtain ⟨t, e⟩ := r1
    subst e
    cases hz : z.cps.all (· < 128)
    · exact wpAny_pyIter_wide hz (pi_one (tk := s1.toks) I1 _ (turn_str _ z t "str_iterator" (.inr rfl)) ⟨_, Heap.get?_push_size _ rfl, rfl, rfl⟩ q)
    · exact wpAny_pyIter_ascii hz (pi_one (tk := s1.toks) I1 _ (turn_str _ z t "str_ascii_iterator" (.inl rfl)) ⟨_, Heap.get?_push_size _ rfl, rfl, rfl⟩ q)
  subst e
  cases r1
  have one : ∀ b ∈ [s1.heap.objs.size], FpOk X pins H1 b := fun b hb => by
    rw [List.mem_singleton.mp hb]
    exact I1.fpOk (Nat.le_refl _) I1.fresh
  rcases q with ⟨hq, q⟩ | ⟨hq, q⟩
  · obtain ⟨its, rv, pl, hz⟩ := I1.list hq
    exact wpAny_pyIter_list pl.isList ⟨s1.heap.objs.size, [s1.heap.objs.size], _, _, H1, rfl, I1.kept (t' := s1.toks) fun b o e => Heap.get?_push_of_some _ e, turn_list a _, ⟨_, Heap.get?_push_size _ rfl, rfl, rfl⟩, one, q hz⟩
  · obtain ⟨its, rv, pl, hz⟩ := I1.tuple hq
    exact wpAny_pyIter_tuple (show s1.heap.IsTuple a its.toArray from pl) ⟨s1.heap.objs.size, [s1.heap.objs.size], _, _, H1, rfl, I1.kept (t' := s1.toks) fun b o e => Heap.get?_push_of_some _ e, turn_tuple a _, ⟨_, Heap.get?_push_size _ rfl, rfl, rfl⟩, one, q hz⟩
theorem walk_chars {K : Frag} {H1 : Hp} {α1 : Al} {z : Str} : Walk K H1 α1 (Ln.chars z) (Its z) where
  go := fun i H' α' S' af h => by
    unfold Ln.chars at h
    rw [List.length_map, Array.length_toList] at h
    exact h
  stop := fun i H' α' S' af h => by
    unfold Ln.chars at h
    rw [List.length_map, Array.length_toList] at h
    exact Nat.le_of_eq h.symm
  yld := fun i H' α' S' d x H'' af hd hy => by
    obtain ⟨rfl, c, hc, rfl⟩ := hy
    unfold Ln.chars at hd
    rw [List.getElem?_map, Array.getElem?_toList, hc] at hd
    cases hd
    exact ⟨.refl af.rs, .str _⟩
theorem ji_seq (ha : JE X E a (Ln.ev cf ia)) : JI X E tg a (Ln.evi cf (.seq ia)) := pi_w (pi_seq ha) fun σ H R ⟨ρ, α, S, rs, re, q⟩ => by
  simp only [Ln.evi] at q
  refine ⟨ρ, α, S, rs, re, q.bind.mono fun d S1 H1 α1 _ q v rd => ?_⟩
  have p1 := q.2
  unfold Ln.seqK at p1
  split at p1
  · cases rd with
    | tup h rds =>
      have k := p1.ret q.1.rs
      exact .inl ⟨_, _, rfl, .inr ⟨h.sq, fun hz => k (by rw [rds.length]; exact hz) _ (walk_tup fun H' α' S' af => ⟨af.ext.sqT h.sq, af.rds rds⟩)⟩⟩
  · cases rd with
    | lst n h rds =>
      have k := p1.ret q.1.rs
      exact .inl ⟨_, _, rfl, .inl ⟨SqL.of h, fun hz => k (by rw [rds.length]; exact hz) _ (walk_list (fun H' α' S' af => ⟨af.ext.sqL n (SqL.of h), af.rds rds⟩) fun _ _ _ _ => trivial)⟩⟩
  · cases rd with
    | frz h rds =>
      have k := p1.ret q.1.rs
      refine .inl ⟨_, _, rfl, .inl ⟨h.sq, fun hz => k (by rw [rds.length]; exact hz) _ (walk_list (fun H' α' S' af => ⟨?_, af.rds rds⟩) fun _ _ _ _ => trivial)⟩⟩
      have r' := af.rd (RD.frz h rds)
      cases r' with
      | frz h' rds' =>
        rcases h with ⟨n, h⟩ | h
        · exact af.ext.sqL n (.inl h)
        · exact .inr h
  · rename_i z
    split at p1
    · rename_i hz
      cases rd
      have k := p1.ret q.1.rs
      refine .inr ⟨_, rfl, k ?_ _ walk_chars⟩
      unfold Ln.chars
      rw [List.length_map, Array.length_toList]
      exact hz
    · exact p1.elim
  · exact p1.elim
/-- the lengths of all lists and tuples are within the line -/
theorem pa_len {es : List Expr} {t : TA} (h : PA X es t) : PA X es (fun σ H Q => t σ H fun vs H1 => (∀ a xs, (SqL X.K H1 a xs ∨ SqT X.K H1 a xs) → xs.length ≤ sizeLine) → Q vs H1) :=
  ⟨fun pos pins s σ H Q I q => thn (h.run pos pins s σ H _ I q) fun us s1 ⟨vs, H1, I1, r, k⟩ => ⟨vs, H1, I1, r, k fun _ _ z => len_seq I1 z⟩⟩
theorem ji_rng1 (hg : Gl X "range") (hm : X.mg "range" = none) (ha : JE X E a (Ln.ev cf ia)) (hs : starEach [a] X.env = [(false, eval a X.env)] := by rfl) : JI X E tg (.Call (.Name "range" p) [a] [] pos) (Ln.evi cf (.rng1 ia)) :=
  pi_w (pi_range1 hg hm (pa_cons ha pa_nil hs) hs) fun σ H R ⟨ρ, α, S, rs, re, q⟩ => by
    simp only [Ln.evi] at q
    refine ⟨ρ, α, S, rs, re, q.bind.mono fun d S1 H1 α1 _ q v rd => ?_⟩
    have p1 := q.2
    unfold Ln.rngK at p1
    split at p1
    · cases rd
      split at p1
      · rename_i hc
        rw [Bool.and_eq_true, decide_eq_true_eq] at hc
        have h1 := hc.1
        unfold Ln.small62 at h1
        rw [Bool.and_eq_true, decide_eq_true_eq, decide_eq_true_eq] at h1
        refine ⟨_, rfl, h1.1, h1.2, p1.ret q.1.rs (by rw [range_len, Int.sub_zero]; exact hc.2) _ (walk_rng (by rw [Int.sub_zero]))⟩
      · exact p1.elim
    · exact p1.elim
theorem ji_rng2 (hg : Gl X "range") (hm : X.mg "range" = none) (ha : JE X E a (Ln.ev cf ia)) (hb : JE X E b (Ln.ev cf ib)) (hs : starEach [a, b] X.env = [(false, eval a X.env), (false, eval b X.env)] := by rfl)
    (hs2 : starEach [b] X.env = [(false, eval b X.env)] := by rfl) (hs3 : starEach [a, b] X.env = (false, eval a X.env) :: starEach [b] X.env := by rfl) : JI X E tg (.Call (.Name "range" p) [a, b] [] pos) (Ln.evi cf (.rng2 ia ib)) :=
  pi_w (pi_range2 hg hm (pa_cons ha (pa_cons hb pa_nil hs2) hs3) hs hs2) fun σ H R ⟨ρ, α, S, rs, re, q⟩ => by
    simp only [Ln.evi] at q
    refine ⟨ρ, α, S, rs, re, q.bind.mono fun d S1 H1 α1 _ q v rd => ?_⟩
    refine ⟨ρ, α1, S1, q.1.rs, q.1.re re, q.2.bind.mono fun d2 S2 H2 α2 _ q2 v2 rd2 => ?_⟩
    have rd' := q2.1.rd rd
    have p1 := q2.2
    unfold Ln.rng2K at p1
    split at p1
    · cases rd'; cases rd2
      split at p1
      · rename_i hc
        rw [Bool.and_eq_true, Bool.and_eq_true, decide_eq_true_eq] at hc
        have h1 := hc.1.1
        have h2 := hc.1.2
        unfold Ln.small62 at h1 h2
        rw [Bool.and_eq_true, decide_eq_true_eq, decide_eq_true_eq] at h1 h2
        refine ⟨_, _, rfl, ⟨h1.1, h1.2, h2.1, h2.2⟩, p1.ret q2.1.rs (by rw [range_len]; exact hc.2) _ (walk_rng rfl)⟩
      · exact p1.elim
    · exact p1.elim
theorem ji_enum (hg : Gl X "enumerate") (hm : X.mg "enumerate" = none) (ha : JE X E a (Ln.ev cf ia)) (hs : starEach [a] X.env = [(false, eval a X.env)] := by rfl) :
    JI X E (.Tuple elts kk tpos) (.Call (.Name "enumerate" p) [a] [] pos) (Ln.evi cf (.enum ia)) :=
  pi_w (pi_enum hg hm (pa_len (pa_cons ha pa_nil hs)) hs) fun σ H R ⟨ρ, α, S, rs, re, q⟩ => by
    simp only [Ln.evi] at q
    refine ⟨ρ, α, S, rs, re, q.bind.mono fun d S1 H1 α1 _ q v rd hl => ?_⟩
    have p1 := q.2
    unfold Ln.enumK at p1
    split at p1
    · cases rd with
      | lst n h rds =>
      have k := p1.ret q.1.rs (by have := hl _ _ (.inl (SqL.of h)); rw [numbered_len, rds.length]; exact this)
      exact ⟨_, _, rfl, SqL.of h, k _ (walk_enum fun H' α' S' af => ⟨af.ext.sqL n (SqL.of h), af.rds rds⟩)⟩
    · exact p1.elim
end
end LnS

set_option linter.all false
set_option maxRecDepth 100000
/-! Ln: targets, comprehensions. -/
namespace LnS
open PySem L2 PyProof.Rows
open Ln (D O Store Rho M R Ex)
variable [Tbs]

/-! ### targets -/
def tgIdx : Ln.Tg → List Nat
  | .nm i => [i]
  | .tp is => is
/-- what a store to names leaves -/
def Sto (is : List Nat) (σ σ' : L2.St) : Prop := σ'.length = σ.length ∧ ∀ j, j ∉ is → σ'[j]? = σ[j]?
def TGI (K : Frag) (tg : Ln.Tg) : TG := fun v σ H Q => ∃ ρ α S d ρ', RS K H α S ∧ RE K H α ρ σ ∧ RD K H α d v ∧ Ln.setTg ρ tg d = some ρ' ∧ ∀ σ', RE K H α ρ' σ' → Sto (tgIdx tg) σ σ' → Q σ' H
abbrev JG (X : Cx) (e : Expr) (tg : Ln.Tg) : Prop := PG X e (TGI X.K tg)
theorem pg_w {X : Cx} {e : Expr} {t t' : TG} (h : PG X e t) (k : ∀ v σ H Q, t' v σ H Q → t v σ H Q) : PG X e t' := ⟨fun pins s σ H x u Q I r q => h.run pins s σ H x u Q I r (k _ _ _ _ q)⟩
theorem RE.set {K : Frag} {H : Hp} {α : Al} {ρ : Rho} {σ : L2.St} (r : RE K H α ρ σ) {i : Nat} {d : D} {v : V} (q : RD K H α d v) : RE K H α (ρ.set i (some d)) (σ.set i (some v)) := by
  refine ⟨by rw [List.length_set, List.length_set]; exact r.len, fun j e h => ?_⟩
  by_cases hj : i = j
  · subst hj
    have hl := (List.getElem?_eq_some_iff.mp h).1
    rw [List.length_set] at hl
    rw [List.getElem?_set_self hl] at h
    cases h
    exact ⟨v, by rw [List.getElem?_set_self (by rw [← r.len]; exact hl)], q⟩
  · rw [List.getElem?_set_ne hj] at h
    obtain ⟨w, h1, h2⟩ := r.get j e h
    exact ⟨w, by rw [List.getElem?_set_ne hj]; exact h1, h2⟩
theorem Sto.one {σ : L2.St} {i : Nat} {v : Option V} : Sto [i] σ (σ.set i v) := ⟨List.length_set, fun j h => List.getElem?_set_ne (fun z => h (by rw [z]; exact List.mem_singleton.mpr rfl))⟩
theorem jg_nm {X : Cx} {e : Expr} {i : Nat} (h : PG X e (gName i)) : JG X e (.nm i) := pg_w h fun v σ H Q ⟨ρ, α, S, d, ρ', rs, re, rd, e, k⟩ => by
  cases e
  exact k _ (re.set rd) .one
def TGsI (K : Frag) (is : List Nat) : TGs := fun vs σ H Q => ∃ ρ α S ds ρ', RS K H α S ∧ RE K H α ρ σ ∧ RDs K H α ds vs ∧ Ln.setAll ρ is ds = some ρ' ∧ ∀ σ', RE K H α ρ' σ' → Sto is σ σ' → Q σ' H
theorem pgs_w {X : Cx} {es : List Expr} {t t' : TGs} (h : PGs X es t) (k : ∀ v σ H Q, t' v σ H Q → t v σ H Q) : PGs X es t' := ⟨fun pins s σ H x u Q I r q => h.run pins s σ H x u Q I r (k _ _ _ _ q)⟩
theorem jgs_nil {X : Cx} : PGs X [] (TGsI X.K []) := pgs_w pgs_nil fun vs σ H Q ⟨ρ, α, S, ds, ρ', rs, re, rd, e, k⟩ => by
  cases ds with
  | nil => cases rd; cases e; exact ⟨rfl, k _ re ⟨rfl, fun _ _ => rfl⟩⟩
  | cons d ds => cases e
theorem jgs_cons {X : Cx} {e : Expr} {es : List Expr} {i : Nat} {is : List Nat} (h : PG X e (gName i)) (t : PGs X es (TGsI X.K is)) (hs : (assignEach (e :: es) X.env).map (·.2) = assign e X.env :: (assignEach es X.env).map (·.2) := by rfl) : PGs X (e :: es) (TGsI X.K (i :: is)) := pgs_w (pgs_cons h t hs) fun vs σ H Q ⟨ρ, α, S, ds, ρ', rs, re, rd, e, k⟩ => by
  cases ds with
  | nil => cases e
  | cons d ds =>
    cases rd with
    | cons r1 r2 =>
    refine ⟨_, _, rfl, ρ.set i (some d), α, S, ds, ρ', rs, re.set r1, r2, e, fun σ' h1 h2 => k σ' h1 ⟨h2.1.trans List.length_set, fun j hj => ?_⟩⟩
    rw [h2.2 j fun z => hj (List.mem_cons_of_mem _ z)]
    exact List.getElem?_set_ne (fun z => hj (by rw [z]; exact List.mem_cons_self))
theorem setAll_len : ∀ {ρ ρ' : Rho} {is : List Nat} {ds : List D}, Ln.setAll ρ is ds = some ρ' → ds.length = is.length
  | _, _, [], [], _ => rfl
  | _, _, _ :: _, [], e => nomatch e
  | _, _, [], _ :: _, e => nomatch e
  | _, _, _ :: is, _ :: ds, e => by rw [List.length_cons, List.length_cons, setAll_len (is := is) (ds := ds) e]
theorem jg_tp {X : Cx} {es : List Expr} {is : List Nat} {kk : Nat} {pos : Pos} (h : PG X (.Tuple es kk pos) (gTup X.K is.length (TGsI X.K is))) : JG X (.Tuple es kk pos) (.tp is) := pg_w h fun v σ H Q ⟨ρ, α, S, d, ρ', rs, re, rd, e, k⟩ => by
  unfold Ln.setTg at e
  cases rd with
  | wtp h1 rds => exact ⟨_, _, rfl, h1, by rw [← rds.length]; exact setAll_len e, ρ, α, S, _, ρ', rs, re, rds, e, k⟩
  | tup h1 rds => exact ⟨_, _, rfl, h1.sq, by rw [← rds.length]; exact setAll_len e, ρ, α, S, _, ρ', rs, re, rds, e, k⟩
  | _ => cases e

/-! ### the tests of a comprehension -/
abbrev JTs (X : Cx) (E : XS) (ifs : List Expr) (m : Rho → M Bool) : Prop := PTs X ifs (TTI X.K E m)
theorem pts_w {X : Cx} {e : List Expr} {t t' : TT} (h : PTs X e t) (k : ∀ σ H Q, t' σ H Q → t σ H Q) : PTs X e t' := ⟨fun pins s σ H Q I q => h.run pins s σ H Q I (k _ _ _ q)⟩
theorem jts_nil {X : Cx} {E : XS} {cf : Nat → List D → M D} : JTs X E [] (Ln.evts cf .nil) := pts_w pts_nil fun σ H Q ⟨ρ, α, S, rs, re, p⟩ => by
  simp only [Ln.evts] at p
  exact p.ret rs
theorem jts_one {X : Cx} {E : XS} {cf : Nat → List D → M D} {c : Expr} {ic : Ln.E} (h : JT X E c (Ln.evT cf ic)) : JTs X E [c] (Ln.evts cf (.cons ic .nil)) := pts_w (pts_one h) fun σ H Q ⟨ρ, α, S, rs, re, p⟩ => by
  refine ⟨ρ, α, S, rs, re, ?_⟩
  simp only [Ln.evts] at p
  unfold Ln.evT
  cases e : Ln.ev cf ic ρ S with
  | err => rw [bind_err e] at p; exact p.elim
  | exc x S1 => rw [bind_exc e] at p; rw [bind_exc e]; exact p
  | ok d S1 =>
    rw [bind_ok e] at p ⊢
    cases e2 : Ln.truthM d S1 with
    | err => rw [bind_err e2] at p; exact p.elim
    | exc x S2 => rw [bind_exc e2] at p; exact p
    | ok k S2 =>
      rw [bind_ok e2] at p
      cases k <;> exact p

/-! ### comprehensions -/
theorem wipe_get : ∀ {vs : List Nat} {ρ : Rho} {i : Nat} {d : D}, (Ln.wipe ρ vs)[i]? = some (some d) → ρ[i]? = some (some d) ∧ i ∉ vs
  | [], _, _, _, h => ⟨h, by simp⟩
  | v :: vs, ρ, i, d, h => by
    unfold Ln.wipe at h
    by_cases hi : v = i
    · subst hi
      by_cases hv : v < (Ln.wipe ρ vs).length
      · rw [List.getElem?_set_self hv] at h; cases h
      · rw [List.getElem?_eq_none (by rw [List.length_set]; omega)] at h; cases h
    · rw [List.getElem?_set_ne hi] at h
      obtain ⟨h1, h2⟩ := wipe_get h
      exact ⟨h1, by simp only [List.mem_cons, not_or]; exact ⟨fun e => hi e.symm, h2⟩⟩
theorem lnwipe_len : ∀ (vs : List Nat) (ρ : Rho), (Ln.wipe ρ vs).length = ρ.length
  | [], _ => rfl
  | v :: vs, ρ => by unfold Ln.wipe; rw [List.length_set, lnwipe_len vs ρ]
theorem wipe_out' {σ : L2.St} {i : Nat} : ∀ {vs : List Nat}, i ∉ vs → (L2.wipe σ vs)[i]? = σ[i]?
  | [], _ => rfl
  | v :: vs, h => by
    unfold L2.wipe
    rw [List.getElem?_set_ne (fun z => h (by rw [z]; exact List.mem_cons_self))]
    exact wipe_out' fun z => h (List.mem_cons_of_mem _ z)
theorem wipe_in {σ : L2.St} {i : Nat} : ∀ {vs : List Nat}, i ∈ vs → (L2.wipe σ vs)[i]? = if i < σ.length then some none else none
  | v :: vs, h => by
    unfold L2.wipe
    by_cases hv : v = i
    · subst hv
      by_cases hl : v < σ.length
      · rw [List.getElem?_set_self (by rw [L2.wipe_length]; exact hl), if_pos hl]
      · rw [List.getElem?_eq_none (by rw [List.length_set, L2.wipe_length]; omega), if_neg hl]
    · rw [List.getElem?_set_ne hv]
      exact wipe_in ((List.mem_cons.mp h).resolve_left fun z => hv z.symm)
theorem RE.wipe {K : Frag} {H : Hp} {α : Al} {ρ : Rho} {σ : L2.St} (r : RE K H α ρ σ) (vs : List Nat) : RE K H α (Ln.wipe ρ vs) (L2.wipe σ vs) := by
  refine ⟨by rw [lnwipe_len, L2.wipe_length]; exact r.len, fun i d h => ?_⟩
  obtain ⟨h1, h2⟩ := wipe_get h
  obtain ⟨v, e1, e2⟩ := r.get i d h1
  exact ⟨v, by rw [wipe_out' h2]; exact e1, e2⟩
theorem wipe_same {σ σ2 : L2.St} {vs is : List Nat} (h : Sto is (L2.wipe σ vs) σ2) (hs : ∀ i ∈ is, i ∈ vs) : L2.wipe σ2 vs = L2.wipe σ vs := by
  apply List.ext_getElem?
  intro i
  by_cases hi : i ∈ vs
  · rw [wipe_in hi, wipe_in hi]
    have := h.1
    rw [L2.wipe_length] at this
    rw [this]
  · rw [wipe_out' hi, h.2 i fun z => hi (hs i z)]

/-- what is left of a comprehension's work -/
theorem mapO_cons {step : D → M (Option D)} {x : D} {xs : List D} : Ln.mapO step (x :: xs) = M.bind (step x) (fun o => match o with | none => Ln.mapO step xs | some y => M.bind (Ln.mapO step xs) fun ys => M.ret (y :: ys)) := rfl
theorem drop_get {xs : List D} {i : Nat} {d : D} (h : xs[i]? = some d) : xs.drop i = d :: xs.drop (i + 1) := by
  obtain ⟨hi, e⟩ := List.getElem?_eq_some_iff.mp h
  rw [← e]
  exact List.drop_eq_getElem_cons hi

section
variable {X : Cx} {cf : Nat → List D → M D} {pos : Pos} {elt tg iter : Expr} {ifs : List Expr} {scope : Scope} {own : List (Str × Nat)} {itg : Ln.Tg} {iit : Ln.It} {iifs : Ln.Es} {ielt : Ln.E}
/-- the reading of a comprehension from what the evaluator says -/
theorem lc_read {E : XS} {σ : L2.St} {H : Hp} {Q : VK} {vs : List Nat} (hs : ∀ i ∈ tgIdx itg, i ∈ vs) (h : TI X.K E (Ln.ev cf (.lc ielt itg iit iifs vs)) σ H Q) :
    tLc (TII X.K E (Ln.evi cf iit)) (TGI X.K itg) (TTI X.K X0 (Ln.evts cf iifs)) (TI X.K X0 (Ln.ev cf ielt)) vs σ H Q := by
  obtain ⟨ρ, α, S, rs, re, p⟩ := h
  simp only [Ln.ev] at p
  refine ⟨ρ, α, S, rs, re, p.bind.mono fun xs S1 H1 α1 _ q hlen J wk L hL => ?_⟩
  obtain ⟨af, p⟩ := q
  have re1 := af.re re
  -- the state ahead of turn i: what was made so far, what is left to be made
  generalize hstep : Ln.lcK ρ itg vs (fun ρ' => Ln.evts cf iifs ρ') (fun ρ' => Ln.ev cf ielt ρ') = step at p
  have fr : ¬ α1.has L := af.rs.free hL
  let Inv0 : Nat → Hp → Prop := fun i H2 => ∃ α2 S2 acc vacc, After X.K α1 H1 α2 H2 S2 ∧ L ∈ α2.x ∧ H2 L = some (.lst vacc) ∧ RDs X.K H2 α2 acc vacc ∧ acc.length ≤ i ∧ i ≤ xs.length ∧
    Pst X.K E H1 α1 (M.bind (M.nox (Ln.mapO step (xs.drop i))) (fun ys => M.ret (.lst (acc ++ ys))) S2) fun d _ H' α' => ∀ v, RD X.K H' α' d v → Q v H'
  refine ⟨fun i m H2 => m = xs.length - i ∧ Inv0 i H2, ⟨xs.length, rfl, ?_⟩, ?_⟩
  · refine ⟨⟨α1.h, L :: α1.x, α1.z, α1.t⟩, S1, [], [], ⟨⟨List.prefix_refl _, fun a h => List.mem_cons_of_mem _ h, fun a h => ?_, fun p h n => absurd h n, fun _ h => h, rfl⟩, ext_new hL, RS.take af.rs hL⟩, List.mem_cons_self, upd_same, .nil, Nat.le_refl _, Nat.zero_le _, by simpa using p⟩
    rcases List.mem_cons.mp h with z | z
    · rw [z]; exact .inr (fr0 hL)
    · exact .inl z
  · rintro i m H2 ⟨rfl, α2, S2, acc, vacc, a2, hLx, hH, rds, hacc, hi, pi⟩
    have hLh : L ∉ α2.h := fun z => a2.rs.dis L z hLx
    by_cases hlt : i < xs.length
    · -- one more turn
      refine .inr ⟨wk.go i H2 α2 S2 a2 hlt, Inv0 (i + 1), fun H' n => ⟨xs.length - (i + 1), by omega, rfl, n⟩, fun x H' hy => ?_⟩
      obtain ⟨d, hd⟩ : ∃ d, xs[i]? = some d := ⟨xs[i], List.getElem?_eq_getElem hlt⟩
      obtain ⟨ay, rd⟩ := wk.yld i H2 α2 S2 d x H' a2 hd hy
      rw [drop_get hd] at pi
      have a3 := a2.trans ay
      -- what one turn does
      have turn : ∀ {o : Option D} {S4 : Store}, step d S2 = .ok o S4 → Pst X.K E H1 α1 (M.bind (M.nox (Ln.mapO step (xs.drop (i + 1)))) (fun ys => M.ret (.lst (acc ++ o.toList ++ ys))) S4) fun d _ H' α' => ∀ v, RD X.K H' α' d v → Q v H' := fun {o S4} e => by
        have e1 : M.bind (M.nox (Ln.mapO step (d :: xs.drop (i + 1)))) (fun ys => M.ret (D.lst (acc ++ ys))) S2 = M.bind (M.nox (Ln.mapO step (xs.drop (i + 1)))) (fun ys => M.ret (.lst (acc ++ o.toList ++ ys))) S4 := by
          unfold M.bind M.nox
          rw [mapO_cons, bind_ok e]
          cases o with
          | none =>
            simp only [Option.toList_none, List.append_nil]
          | some y =>
            simp only [Option.toList_some, List.append_assoc, List.singleton_append]
            unfold M.bind
            cases Ln.mapO step (xs.drop (i + 1)) S4 <;> rfl
        rw [e1] at pi
        exact pi
      have bad : (step d S2 = .err ∨ ∃ x S4, step d S2 = .exc x S4) → False := fun e => by
        have e1 : M.bind (M.nox (Ln.mapO step (d :: xs.drop (i + 1)))) (fun ys => M.ret (D.lst (acc ++ ys))) S2 = .err := by
          unfold M.bind M.nox
          rw [mapO_cons]
          rcases e with e | ⟨x, S4, e⟩
          · rw [bind_err e]
          · rw [bind_exc e]
        rw [e1] at pi
        exact pi
      have hst : step d = Ln.lcK ρ itg vs (fun ρ' => Ln.evts cf iifs ρ') (fun ρ' => Ln.ev cf ielt ρ') d := by rw [hstep]
      cases et : Ln.setTg (Ln.wipe ρ vs) itg d with
      | none => exact (bad (.inl (by rw [hst]; unfold Ln.lcK; rw [et]; rfl))).elim
      | some ρ' =>
      have hst' : step d = M.bind (Ln.evts cf iifs ρ') fun k => if k then M.bind (Ln.ev cf ielt ρ') fun y => M.ret (some y) else M.ret none := by rw [hst]; unfold Ln.lcK; rw [et]
      refine ⟨Ln.wipe ρ vs, α2, S2, d, ρ', ay.rs, (a3.re re1).wipe vs, rd, et, fun σ' re2 sto => ⟨wipe_same sto hs, ρ', α2, S2, ay.rs, re2, ?_⟩⟩
      cases ek : Ln.evts cf iifs ρ' S2 with
      | err => exact bad (.inl (by rw [hst', bind_err ek]))
      | exc z S4 => exact (bad (.inr ⟨z, S4, by rw [hst', bind_exc ek]⟩)).elim
      | ok k S3 =>
        intro H3 α3 a4
        have a5 := a3.trans a4
        have hL3 : L ∈ α3.x := a4.grow.sx L hLx
        have hH3 : H3 L = some (.lst vacc) := a4.ext.keep L _ (ay.ext.keep L _ hH (fun z => absurd z hLh) fun _ z => nomatch z) (fun z => absurd z hLh) fun _ z => nomatch z
        cases k with
        | false =>
          refine iteF ⟨α3, S3, acc, vacc, a5, hL3, hH3, a4.rds (ay.rds rds), by omega, hlt, ?_⟩
          have := turn (o := none) (S4 := S3) (by rw [hst', bind_ok ek]; rfl)
          simpa using this
        | true =>
          refine iteT ⟨ρ', α3, S3, a4.rs, a4.re re2, ?_⟩
          cases ee : Ln.ev cf ielt ρ' S3 with
          | err => exact bad (.inl (by rw [hst', bind_ok ek, if_pos rfl, bind_err ee]))
          | exc z S4 => exact (bad (.inr ⟨z, S4, by rw [hst', bind_ok ek, if_pos rfl, bind_exc ee]⟩)).elim
          | ok y S4 =>
            intro H4 α4 a6 v rv
            have hL4 : L ∈ α4.x := a6.grow.sx L hL3
            have hLh3 : L ∉ α3.h := fun z => a4.rs.dis L z hL3
            have hH4 : H4 L = some (.lst vacc) := a6.ext.keep L _ hH3 (fun z => absurd z hLh3) fun _ z => nomatch z
            have a7 := a5.trans a6
            have rds4 := a6.rds (a4.rds (ay.rds rds))
            refine ⟨vacc, hH4, by rw [← rds4.length]; omega, α4, S4, acc ++ [y], vacc ++ [v], ⟨a7.grow, ⟨fun a o e hm ht => ?_⟩, a7.rs.write hH4 hL4⟩, hL4, upd_same, (rds4.append (.cons rv .nil)).map (mp_write hH4 hL4), by rw [List.length_append]; simp only [List.length_singleton]; omega, hlt, ?_⟩
            · rw [upd_ne (ne_of_none e hL)]
              exact a7.ext.keep a o e hm ht
            · have := turn (o := some y) (S4 := S4) (by rw [hst', bind_ok ek, if_pos rfl, bind_ok ee]; rfl)
              simpa using this
    · -- the end
      refine .inl ⟨wk.stop i H2 α2 S2 a2 (by omega), ?_⟩
      rw [List.drop_eq_nil_of_le (by omega)] at pi
      have e1 : M.bind (M.nox (Ln.mapO step [])) (fun ys => M.ret (D.lst (acc ++ ys))) S2 = .ok (.lst acc) S2 := by
        show R.ok (D.lst (acc ++ [])) S2 = _
        rw [List.append_nil]
      rw [e1] at pi
      have sub : ∀ a ∈ α2.x.filter (fun b => decide (b ≠ L)), a ∈ α2.x := fun a h => (List.mem_filter.mp h).1
      have aE : After X.K α1 H1 ⟨α2.h, α2.x.filter (fun b => decide (b ≠ L)), α2.z, α2.t⟩ H2 S2 := by
        refine ⟨⟨a2.grow.pre, fun a h => List.mem_filter.mpr ⟨a2.grow.sx a h, decide_eq_true fun z => fr (.inr (z ▸ h))⟩, fun a h => a2.grow.sn a (sub a h), a2.grow.new, a2.grow.zz, a2.grow.tt⟩, ⟨a2.ext.keep⟩, RS.give (h := α2.h) (x := α2.x) sub a2.rs⟩
      refine pi _ _ aE _ (.lst (fun z => ?_) hH (rds.map (mp_give (h := α2.h) (x := α2.x) sub)))
      rcases z with z | z
      · exact hLh z.1
      · exact absurd rfl (of_decide_eq_true (List.mem_filter.mp z).2)
/-- [elt for tg in iter if ..] -/
theorem je_lc {E : XS} (hc : X.calm = true) (hN : X.N.Nodup) (hi : JI X E tg iter (Ln.evi cf iit)) (ok : BlkOk X.N X.env.scope scope own) (hs : ∀ i ∈ tgIdx itg, i ∈ own.map (·.2))
    (hg : ∀ (s : Shared) (H : Hp) (C : Addr) (cl : List (Str × Addr)) (fp : List Addr), JG (X.blk s H scope (compEnvC scope cl C X.env) fp) tg itg)
    (ht : ∀ (s : Shared) (H : Hp) (C : Addr) (cl : List (Str × Addr)) (fp : List Addr), JTs (X.blk s H scope (compEnvC scope cl C X.env) fp) X0 ifs (Ln.evts cf iifs))
    (he : ∀ (s : Shared) (H : Hp) (C : Addr) (cl : List (Str × Addr)) (fp : List Addr), JE (X.blk s H scope (compEnvC scope cl C X.env) fp) X0 elt (Ln.ev cf ielt)) (hf : ∀ x, foldedSetIterable iter X.env x = pure x) :
    JE X E (.ListComp elt [⟨tg, iter, ifs, 0⟩] scope pos) (Ln.ev cf (.lc ielt itg iit iifs (own.map (·.2)))) :=
  pe_w (pe_lc hc hN hi ok hg ht he hf) fun σ H Q h => lc_read hs h
end
end LnS

set_option linter.all false
set_option maxRecDepth 100000
/-! Ln: statements. -/
namespace LnS
open PySem L2 PyProof.Rows
open Ln (D O Store Rho M R Ex)
variable [Tbs]

abbrev JS (X : Cx) (E : XS) (st : Stmt) (m : Rho → M (Ln.Fl × Rho)) : Prop := PS X st (TSI X.K E m)
abbrev JSs (X : Cx) (E : XS) (sts : List Stmt) (m : Rho → M (Ln.Fl × Rho)) : Prop := PSs X sts (TSI X.K E m)

/-! ### targets for what is unpacked -/
theorem pg_or {X : Cx} {e : Expr} {t u : TG} (h1 : PG X e t) (h2 : PG X e u) : PG X e (fun v σ H Q => t v σ H Q ∨ u v σ H Q) :=
  ⟨fun pins s σ H v uu Q I r h => h.elim (h1.run pins s σ H v uu Q I r) (h2.run pins s σ H v uu Q I r)⟩
def TUI (K : Frag) (is : List Nat) : TG := fun v σ H Q => ∃ ρ α S d xs ρ', RS K H α S ∧ RE K H α ρ σ ∧ RD K H α d v ∧ (d = .tup xs ∨ d = .lst xs) ∧ Ln.setAll ρ is xs = some ρ' ∧ ∀ σ', RE K H α ρ' σ' → Q σ' H
theorem jg_un {X : Cx} {es : List Expr} {is : List Nat} {kk : Nat} {pos : Pos} (hc : X.calm = true) (h : PGs X es (TGsI X.K is))
    (hn : (assignEach es X.env).length = is.length := by rfl) (hst : (assignEach es X.env).findIdx? (·.1) = none := by rfl) : PG X (.Tuple es kk pos) (TUI X.K is) := by
  refine pg_w (pg_or (pg_tup hc h hn hst) (pg_unl hc h hn hst)) fun v σ H Q ⟨ρ, α, S, d, xs, ρ', rs, re, rd, hd, e, k⟩ => ?_
  rcases hd with rfl | rfl
  · cases rd with
    | tup h1 rds => exact .inl ⟨_, _, rfl, h1.sq, by rw [← rds.length]; exact setAll_len e, ρ, α, S, _, ρ', rs, re, rds, e, fun σ' h _ => k σ' h⟩
  · cases rd with
    | lst h0 h1 rds => exact .inr ⟨_, _, rfl, .inl (.inl h1), by rw [← rds.length]; exact setAll_len e, ρ, α, S, _, ρ', rs, re, rds, e, fun σ' h _ => k σ' h⟩

section
variable {X : Cx} {E : XS} {cf : Nat → List D → M D} {w : Nat} {pos : Pos} {e : Expr} {ie : Ln.E} {st : Stmt} {rest : List Stmt} {is_ : Ln.Sm} {ir : Ln.Sms}

/-! ### blocks -/
theorem jss_nil : JSs X E [] (Ln.execs cf w .nil) := pss_w pss_nil fun D σ H ⟨ρ, α, S, rs, re, p⟩ => by
  simp only [Ln.execs] at p
  exact p.ret rs σ re
theorem jss_cons (h1 : JS X E st (Ln.exec cf w is_)) (h2 : JSs X E rest (Ln.execs cf w ir)) : JSs X E (st :: rest) (Ln.execs cf w (.cons is_ ir)) := pss_w (pss_cons h1 h2) fun D σ H ⟨ρ, α, S, rs, re, p⟩ => by
  simp only [Ln.execs] at p
  refine ⟨ρ, α, S, rs, re, p.bind.mono fun r S1 H1 α1 _ ⟨a, q⟩ σ' re' => ?_⟩
  obtain ⟨f, ρ'⟩ := r
  cases f with
  | nx => exact ⟨ρ', α1, S1, a.rs, re', q⟩
  | rt d => exact q.ret a.rs σ' re'
  | bk => exact q.ret a.rs σ' re'
  | ct => exact q.ret a.rs σ' re'
/-- a docstring ahead -/
theorem jss_doc {x j p p'} (h2 : JSs X E rest (Ln.execs cf w ir)) : JSs X E (.Expr (.Constant (.str x) j p) p' :: rest) (Ln.execs cf w ir) := pss_w (pss_cons ps_doc h2) fun D σ H h => h

/-! ### small statements -/
theorem js_bad : JS X E st (Ln.exec cf w .bad) := ps_w ps_never fun D σ H ⟨ρ, α, S, rs, re, p⟩ => p.elim

theorem js_pass : JS X E (.Pass pos) (Ln.exec cf w .pass) := ps_w ps_pass fun D σ H ⟨ρ, α, S, rs, re, p⟩ => by
  simp only [Ln.exec] at p
  exact p.ret rs σ re
theorem js_brk : JS X E (.Break pos) (Ln.exec cf w .brk) := ps_w ps_break fun D σ H ⟨ρ, α, S, rs, re, p⟩ => by
  simp only [Ln.exec] at p
  exact p.ret rs σ re
theorem js_cont : JS X E (.Continue pos) (Ln.exec cf w .cont) := ps_w ps_continue fun D σ H ⟨ρ, α, S, rs, re, p⟩ => by
  simp only [Ln.exec] at p
  exact p.ret rs σ re
theorem js_retN : JS X E (.Return none pos) (Ln.exec cf w .retN) := ps_w ps_retN fun D σ H ⟨ρ, α, S, rs, re, p⟩ => by
  simp only [Ln.exec] at p
  exact p.ret rs σ re _ .non
theorem js_ret (he : JE X E e (Ln.ev cf ie)) : JS X E (.Return (some e) pos) (Ln.exec cf w (.ret ie)) := ps_w (ps_ret he) fun D σ H ⟨ρ, α, S, rs, re, p⟩ => by
  simp only [Ln.exec] at p
  exact ⟨ρ, α, S, rs, re, p.bind.mono fun d S1 H1 α1 _ ⟨a, q⟩ v rv => q.ret a.rs σ (a.re re) v rv⟩
theorem js_expr (he : JE X E e (Ln.ev cf ie)) (hs : swapsWith e none pos.line X.env = pure false := by rfl) : JS X E (.Expr e pos) (Ln.exec cf w (.expr ie)) := ps_w (ps_expr he hs) fun D σ H ⟨ρ, α, S, rs, re, p⟩ => by
  simp only [Ln.exec] at p
  exact ⟨ρ, α, S, rs, re, p.bind.mono fun d S1 H1 α1 _ ⟨a, q⟩ v rv => q.ret a.rs σ (a.re re)⟩
theorem set_at {i : Nat} {D : Ends} {σ : L2.St} {H : Hp} (h : TSI X.K E (Ln.exec cf w (.set i ie)) D σ H) : TI X.K E (Ln.ev cf ie) σ H fun x H1 => gName i x σ H1 D.nx := by
  obtain ⟨ρ, α, S, rs, re, p⟩ := h
  simp only [Ln.exec] at p
  exact ⟨ρ, α, S, rs, re, p.bind.mono fun d S1 H1 α1 _ ⟨a, q⟩ v rv => q.ret a.rs (σ.set i (some v)) ((a.re re).set rv)⟩
theorem js_set {i : Nat} {x : Str} {pos' : Pos} (hN : X.N.Nodup) (hi : X.N[i]? = some x) (hx : Loc X.env.scope x) (he : JE X E e (Ln.ev cf ie)) (hs : swapsWith e (some (.Name x pos')) pos.line X.env = pure false := by rfl) (hf : X.fn x = true ∨ X.env.scope.names.lookup x = some .local := by first | exact .inl rfl | exact .inr rfl | assumption) :
    JS X E (.Assign [.Name x pos'] e pos) (Ln.exec cf w (.set i ie)) := ps_w (ps_set hN hi hx he hs hf) fun D σ H h => set_at h
/-- x = [e for ..] in one row, where x is stored while the comprehension's own names are put back -/
theorem js_setLc {i : Nat} {y : Str} {py cpos : Pos} {elt tg iter : Expr} {ifs : List Expr} {scope : Scope} {own : List (Str × Nat)} {itg : Ln.Tg} {iit : Ln.It} {iifs : Ln.Es} {ielt : Ln.E} (hy : X.N[i]? = some y) (hc : X.calm = true) (hN : X.N.Nodup) (hi : JI X E tg iter (Ln.evi cf iit)) (ok : BlkOk X.N X.env.scope scope own) (hs : ∀ i ∈ tgIdx itg, i ∈ own.map (·.2))
    (hg : ∀ (s : Shared) (H : Hp) (C : Addr) (cl : List (Str × Addr)) (fp : List Addr), JG (X.blk s H scope (compEnvC scope cl C X.env) fp) tg itg)
    (ht : ∀ (s : Shared) (H : Hp) (C : Addr) (cl : List (Str × Addr)) (fp : List Addr), JTs (X.blk s H scope (compEnvC scope cl C X.env) fp) X0 ifs (Ln.evts cf iifs))
    (he : ∀ (s : Shared) (H : Hp) (C : Addr) (cl : List (Str × Addr)) (fp : List Addr), JE (X.blk s H scope (compEnvC scope cl C X.env) fp) X0 elt (Ln.ev cf ielt)) (hf : ∀ x, foldedSetIterable iter X.env x = pure x)
    (hyl : X.env.scope.names.lookup y = some .local := by rfl) (hsw : swapsWith (.ListComp elt [⟨tg, iter, ifs, 0⟩] scope cpos) (some (.Name y py)) pos.line X.env = pure true := by rfl) :
    JS X E (.Assign [.Name y py] (.ListComp elt [⟨tg, iter, ifs, 0⟩] scope cpos) pos) (Ln.exec cf w (.set i (.lc ielt itg iit iifs (own.map (·.2))))) :=
  ps_w (ps_setLc hc hN hy hyl hsw hi ok hg ht he hf) fun D σ H h => lc_read hs (set_at h)
theorem js_setT {es : List Expr} {is : List Nat} {kk : Nat} {pt : Pos} (he : JE X E e (Ln.ev cf ie)) (hg : PG X (.Tuple es kk pt) (TUI X.K is)) (hs : swapsWithSole [.Tuple es kk pt] e pos.line X.env = pure false := by rfl) (hw : swappedStores [.Tuple es kk pt] e X.env = pure none := by rfl)
    (h1 : (assignEach [.Tuple es kk pt] X.env).map (·.2) = [assign (.Tuple es kk pt) X.env] := by rfl) : JS X E (.Assign [.Tuple es kk pt] e pos) (Ln.exec cf w (.setT is ie)) := ps_w (ps_asg he hg hs hw h1) fun D σ H ⟨ρ, α, S, rs, re, p⟩ => by
  simp only [Ln.exec] at p
  refine ⟨ρ, α, S, rs, re, p.bind.mono fun d S1 H1 α1 _ ⟨a, q⟩ v rv => ?_⟩
  have go : ∀ xs, (d = .tup xs ∨ d = .lst xs) → TUI X.K is v σ H1 D.nx := fun xs hd => by
    have q' : Pst X.K E H1 α1 ((match Ln.setAll ρ is xs with | some ρ' => M.ret (Ln.Fl.nx, ρ') | none => M.err) S1) fun p _ H' α' => EndsI X.K D p H' α' := by
      rcases hd with rfl | rfl <;> exact q
    cases e1 : Ln.setAll ρ is xs with
    | none => rw [e1] at q'; exact q'.elim
    | some ρ' =>
      rw [e1] at q'
      exact ⟨ρ, α1, S1, d, xs, ρ', a.rs, a.re re, rv, hd, e1, fun σ' re' => q'.ret a.rs σ' re'⟩
  cases d with
  | tup xs => exact go xs (.inl rfl)
  | lst xs => exact go xs (.inr rfl)
  | _ => exact q.elim
theorem setAll2 {ρ ρ' : Rho} {i j : Nat} {xs : List D} (h : Ln.setAll ρ [i, j] xs = some ρ') : ∃ x y, xs = [x, y] ∧ ρ' = (ρ.set i (some x)).set j (some y) := by
  match xs, h with
  | [x, y], h => cases h; exact ⟨x, y, rfl, rfl⟩
theorem setAll3 {ρ ρ' : Rho} {i j k : Nat} {xs : List D} (h : Ln.setAll ρ [i, j, k] xs = some ρ') : ∃ x y z, xs = [x, y, z] ∧ ρ' = ((ρ.set i (some x)).set j (some y)).set k (some z) := by
  match xs, h with
  | [x, y, z], h => cases h; exact ⟨x, y, z, rfl, rfl⟩
theorem js_par2 {i j : Nat} {x y : Str} {a b : Expr} {px py pt : Pos} {kt k2 pt2} {ies : Ln.Es} (hc : X.calm = true) (hN : X.N.Nodup) (hi : X.N[i]? = some x) (hj : X.N[j]? = some y) (hij : i ≠ j)
    (hx : X.env.scope.names.lookup x = some .local) (hy : X.env.scope.names.lookup y = some .local) (ha : JA X E [a, b] (Ln.evs cf ies))
    (hw : swappedStores [.Tuple [.Name x px, .Name y py] kt pt] (.Tuple [a, b] k2 pt2) X.env = pure (some [x, y]))
    (hs : swapsWithSole [.Tuple [.Name x px, .Name y py] kt pt] (.Tuple [a, b] k2 pt2) pos.line X.env = pure false := by rfl) :
    JS X E (.Assign [.Tuple [.Name x px, .Name y py] kt pt] (.Tuple [a, b] k2 pt2) pos) (Ln.exec cf w (.par [i, j] ies)) := ps_w (ps_par hc hN hi hj hij hx hy ha hw hs) fun D σ H ⟨ρ, α, S, rs, re, p⟩ => by
  simp only [Ln.exec] at p
  refine ⟨ρ, α, S, rs, re, p.bind.mono fun ds S1 H1 α1 _ ⟨a, q⟩ vs rv => ?_⟩
  unfold Ln.parK at q
  cases e1 : Ln.setAll ρ [i, j] ds with
  | none => rw [e1] at q; exact q.elim
  | some ρ' =>
    rw [e1] at q
    obtain ⟨d1, d2, rfl, rfl⟩ := setAll2 e1
    obtain ⟨v1, v2, rfl, r1, r2⟩ := rds2 rv
    exact ⟨v1, v2, rfl, q.ret a.rs _ (((a.re re).set r1).set r2)⟩
theorem rds3 {K : Frag} {H : Hp} {α : Al} {d e f : D} {vs : List V} (r : RDs K H α [d, e, f] vs) : ∃ v w z, vs = [v, w, z] ∧ RD K H α d v ∧ RD K H α e w ∧ RD K H α f z := by
  cases r with
  | cons r1 r =>
    obtain ⟨v, w, rfl, r2, r3⟩ := rds2 r
    exact ⟨_, v, w, rfl, r1, r2, r3⟩
theorem js_par3 {i j l : Nat} {x y z : Str} {a b c : Expr} {px py pz pt : Pos} {kt k2 pt2} {ies : Ln.Es} (hc : X.calm = true) (hN : X.N.Nodup) (hi : X.N[i]? = some x) (hj : X.N[j]? = some y) (hl : X.N[l]? = some z) (hij : i ≠ j) (hil : i ≠ l) (hjl : j ≠ l)
    (hx : X.env.scope.names.lookup x = some .local) (hy : X.env.scope.names.lookup y = some .local) (hz : X.env.scope.names.lookup z = some .local) (ha : JA X E [a, b, c] (Ln.evs cf ies))
    (hw : swappedStores [.Tuple [.Name x px, .Name y py, .Name z pz] kt pt] (.Tuple [a, b, c] k2 pt2) X.env = pure (some [x, y, z]))
    (hs : swapsWithSole [.Tuple [.Name x px, .Name y py, .Name z pz] kt pt] (.Tuple [a, b, c] k2 pt2) pos.line X.env = pure false := by rfl) :
    JS X E (.Assign [.Tuple [.Name x px, .Name y py, .Name z pz] kt pt] (.Tuple [a, b, c] k2 pt2) pos) (Ln.exec cf w (.par [i, j, l] ies)) := ps_w (ps_par3 hc hN hi hj hl hij hil hjl hx hy hz ha hw hs) fun D σ H ⟨ρ, α, S, rs, re, p⟩ => by
  simp only [Ln.exec] at p
  refine ⟨ρ, α, S, rs, re, p.bind.mono fun ds S1 H1 α1 _ ⟨a, q⟩ vs rv => ?_⟩
  unfold Ln.parK at q
  cases e1 : Ln.setAll ρ [i, j, l] ds with
  | none => rw [e1] at q; exact q.elim
  | some ρ' =>
    rw [e1] at q
    obtain ⟨d1, d2, d3, rfl, rfl⟩ := setAll3 e1
    obtain ⟨v1, v2, v3, rfl, r1, r2, r3⟩ := rds3 rv
    exact ⟨v1, v2, v3, rfl, q.ret a.rs _ ((((a.re re).set r1).set r2).set r3)⟩
/-- o[i] = e -/
theorem js_setI {o i : Expr} {io ii : Ln.E} {ps : Pos} (ho : JE X E o (Ln.ev cf io)) (hi : JE X E i (Ln.ev cf ii)) (he : JE X E e (Ln.ev cf ie))
    (ha : ∀ v, assign (.Subscript o i ps) X.env v = (do
      let ov ← holding [v] (eval o X.env)
      let iv ← holding [v, ov] (eval i X.env)
      standAt ps
      holding [v, ov, iv] (setItem ov iv v)
      release [v, ov, iv] []) := by intro _; rfl)
    (hs : swapsWithSole [.Subscript o i ps] e pos.line X.env = pure false := by rfl) (hw : swappedStores [.Subscript o i ps] e X.env = pure none := by rfl)
    (h1 : (assignEach [.Subscript o i ps] X.env).map (·.2) = [assign (.Subscript o i ps) X.env] := by rfl) :
    JS X E (.Assign [.Subscript o i ps] e pos) (Ln.exec cf w (.setI io ii ie)) := ps_w (ps_asg he (pg_sub ho hi set_list ha) hs hw h1) fun D σ H ⟨ρ, α, S, rs, re, p⟩ => by
  simp only [Ln.exec] at p
  refine ⟨ρ, α, S, rs, re, p.bind.mono fun d S1 H1 α1 _ ⟨a1, q⟩ v rv => ?_⟩
  refine ⟨ρ, α1, S1, a1.rs, a1.re re, q.bind.mono fun x S2 H2 α2 _ ⟨a2, q⟩ xv rx => ?_⟩
  refine ⟨ρ, α2, S2, a2.rs, a2.re (a1.re re), q.bind.mono fun k S3 H3 α3 _ ⟨a3, q⟩ kv rk => ?_⟩
  have rv3 := a3.rd (a2.rd rv)
  have rx3 := a3.rd rx
  unfold Ln.setIK at q
  cases rx3 with
  | @ref n _ hn =>
    cases rk with
    | int kk =>
      simp only [] at q
      cases eS : S3[n]? with
      | none => rw [eS] at q; exact q.elim
      | some o =>
        rw [eS] at q
        cases o with
        | dct ks vs => exact q.elim
        | fzl xs => exact q.elim
        | fzd ks vs => exact q.elim
        | lst xs =>
          simp only [] at q
          cases ej : Ln.place xs.length kk with
          | none => rw [ej] at q; exact q.elim
          | some j =>
            rw [ej] at q
            obtain ⟨vs, hH, rds⟩ := a3.rs.at_ _ _ _ hn eS
            refine ⟨_, vs, kk, j, rfl, rfl, hH, by rw [← rds.length]; exact ej, ?_⟩
            have rds' : RDs X.K H3 α3 (xs.set j d) (vs.set j v) := RDs.set rv3 j rds
            have af := After.put a3.rs hn eS rfl rds'
            exact q _ _ af σ (af.re (a3.re (a2.re (a1.re re))))
    | _ => exact q.elim
  | _ => cases rk <;> exact q.elim
theorem js_augAdd {i : Nat} {x : Str} {pos' : Pos} (hN : X.N.Nodup) (hi : X.N[i]? = some x) (hx : Loc X.env.scope x) (he : JE X E e (Ln.ev cf ie)) (hf : X.fn x = true ∨ X.env.scope.names.lookup x = some .local := by first | exact .inl rfl | exact .inr rfl | assumption) :
    JS X E (.AugAssign (.Name x pos') .Add e pos) (Ln.exec cf w (.aug i .add ie)) := ps_w (ps_aug hN hi hx he ip_add hf) fun D σ H ⟨ρ, α, S, rs, re, p⟩ => by
  simp only [Ln.exec] at p
  unfold Ln.getV at p
  cases eg : ρ[i]? with
  | none => rw [eg] at p; exact p.bind.elim
  | some o =>
    cases o with
    | none => rw [eg] at p; exact p.bind.elim
    | some d =>
      rw [eg] at p
      obtain ⟨v, e1, rd⟩ := re.get i d eg
      have p1 := (p.bind.ret rs).2.bind
      refine ⟨v, e1, ρ, α, S, rs, re, p1.mono fun y S1 H1 α1 _ ⟨a, q⟩ yv ry => ?_⟩
      have rd1 := a.rd rd
      cases rd1 with
      | int m =>
        cases ry with
        | int n =>
          have q' := q.ret a.rs
          exact ⟨m, n, rfl, rfl, q' _ ((a.re re).set (.int _))⟩
        | _ => exact q.elim
      | _ => cases ry <;> exact q.elim
theorem js_augSub {i : Nat} {x : Str} {pos' : Pos} (hN : X.N.Nodup) (hi : X.N[i]? = some x) (hx : Loc X.env.scope x) (he : JE X E e (Ln.ev cf ie)) (hf : X.fn x = true ∨ X.env.scope.names.lookup x = some .local := by first | exact .inl rfl | exact .inr rfl | assumption) :
    JS X E (.AugAssign (.Name x pos') .Sub e pos) (Ln.exec cf w (.aug i .sub ie)) := ps_w (ps_aug hN hi hx he ip_sub hf) fun D σ H ⟨ρ, α, S, rs, re, p⟩ => by
  simp only [Ln.exec] at p
  unfold Ln.getV at p
  cases eg : ρ[i]? with
  | none => rw [eg] at p; exact p.bind.elim
  | some o =>
    cases o with
    | none => rw [eg] at p; exact p.bind.elim
    | some d =>
      rw [eg] at p
      obtain ⟨v, e1, rd⟩ := re.get i d eg
      have p1 := (p.bind.ret rs).2.bind
      refine ⟨v, e1, ρ, α, S, rs, re, p1.mono fun y S1 H1 α1 _ ⟨a, q⟩ yv ry => ?_⟩
      have rd1 := a.rd rd
      cases rd1 with
      | int m =>
        cases ry with
        | int n =>
          have q' := q.ret a.rs
          exact ⟨m, n, rfl, rfl, q' _ ((a.re re).set (.int _))⟩
        | _ => exact q.elim
      | _ => cases ry <;> exact q.elim
/-! ### branches, loops -/
theorem js_if {c : Expr} {a b : List Stmt} {ic : Ln.E} {ia ib : Ln.Sms} (hc : JT X E c (Ln.evT cf ic)) (ha : JSs X E a (Ln.execs cf w ia)) (hb : JSs X E b (Ln.execs cf w ib)) : JS X E (.If c a b pos) (Ln.exec cf w (.cond ic ia ib)) := ps_w (ps_if hc ha hb) fun D σ H ⟨ρ, α, S, rs, re, p⟩ => by
  simp only [Ln.exec] at p
  refine ⟨ρ, α, S, rs, re, p.bind.mono fun k S1 H1 α1 _ ⟨a, q⟩ => ?_⟩
  cases k with
  | true => exact ⟨ρ, α1, S1, a.rs, a.re re, q⟩
  | false => exact ⟨ρ, α1, S1, a.rs, a.re re, q⟩
theorem js_for {tg iter : Expr} {body : List Stmt} {itg : Ln.Tg} {iit : Ln.It} {ib : Ln.Sms} (hp : PassesOwn (model X.prog X.w) X.A X.env X.xe) (hc : X.calm = true) (hi : JI X E tg iter (Ln.evi cf iit)) (hg : JG X tg itg) (hb : JSs X E body (Ln.execs cf w ib))
    (hs : ∀ x, foldedSetIterable iter X.env x = pure x := by intro _; rfl) : JS X E (.For tg iter body [] pos) (Ln.exec cf w (.loop itg iit ib)) := ps_w (ps_for hp hc hi hg hb hs) fun D σ H ⟨ρ, α, S, rs, re, p⟩ => by
  simp only [Ln.exec] at p
  refine ⟨ρ, α, S, rs, re, p.bind.mono fun xs S1 H1 α1 _ ⟨af, p⟩ hlen J wk => ?_⟩
  generalize hstep : (Ln.loopK itg fun ρ => Ln.execs cf w ib ρ) = step at p
  refine ⟨fun i m σ2 H2 => m = xs.length - i ∧ i ≤ xs.length ∧ ∃ α2 S2 ρ2, After X.K α1 H1 α2 H2 S2 ∧ RE X.K H2 α2 ρ2 σ2 ∧ Pst X.K E H2 α2 (Ln.forL step (xs.drop i) ρ2 S2) fun p _ H' α' => EndsI X.K D p H' α', ⟨xs.length, rfl, Nat.zero_le _, α1, S1, ρ, .refl af.rs, af.re re, by simpa using p⟩, ?_⟩
  rintro i m σ2 H2 ⟨rfl, hi, α2, S2, ρ2, a2, re2, p2⟩
  by_cases hlt : i < xs.length
  · refine .inr ⟨wk.go i H2 α2 S2 a2 hlt, fun σ' H' => i + 1 ≤ xs.length ∧ ∃ α2 S2 ρ2, After X.K α1 H1 α2 H' S2 ∧ RE X.K H' α2 ρ2 σ' ∧ Pst X.K E H' α2 (Ln.forL step (xs.drop (i + 1)) ρ2 S2) fun p _ H' α' => EndsI X.K D p H' α', fun σ' H' n => ⟨xs.length - (i + 1), by omega, rfl, n⟩, fun x H' hy => ?_⟩
    obtain ⟨d, hd⟩ : ∃ d, xs[i]? = some d := ⟨xs[i], List.getElem?_eq_getElem hlt⟩
    obtain ⟨ay, rd⟩ := wk.yld i H2 α2 S2 d x H' a2 hd hy
    rw [drop_get hd] at p2
    unfold Ln.forL at p2
    have p3 := p2.bind.move ay
    have hst : step d ρ2 = match Ln.setTg ρ2 itg d with | some ρ' => Ln.execs cf w ib ρ' | none => M.err := by rw [← hstep]; rfl
    cases et : Ln.setTg ρ2 itg d with
    | none => rw [hst, et] at p3; exact p3.elim
    | some ρ' =>
    rw [hst, et] at p3
    refine ⟨ρ2, α2, S2, d, ρ', ay.rs, ay.re re2, rd, et, fun σ3 re3 _ => ⟨ρ', α2, S2, ay.rs, re3, p3.mono fun r S4 H4 α4 a4 ⟨_, q⟩ σ4 re4 => ?_⟩⟩
    obtain ⟨f, ρ4⟩ := r
    have a5 := (a2.trans ay).trans a4
    cases f with
    | nx => exact ⟨hlt, α4, S4, ρ4, a5, re4, q⟩
    | ct => exact ⟨hlt, α4, S4, ρ4, a5, re4, q⟩
    | bk => exact q.ret a4.rs σ4 re4
    | rt d => exact q.ret a4.rs σ4 re4
  · rw [List.drop_eq_nil_of_le (by omega)] at p2
    exact .inl ⟨wk.stop i H2 α2 S2 a2 (by omega), p2.ret a2.rs σ2 re2⟩
theorem js_while {c : Expr} {body : List Stmt} {ic : Ln.E} {ib : Ln.Sms} (hp : PassesOwn (model X.prog X.w) X.A X.env X.xe) (hc : JT X E c (Ln.evT cf ic)) (hb : JSs X E body (Ln.execs cf w ib)) : JS X E (.While c body [] pos) (Ln.exec cf w (.while ic ib)) := ps_w (ps_while hp hc hb) fun D σ H ⟨ρ, α, S, rs, re, p⟩ => by
  simp only [Ln.exec] at p
  refine ⟨fun m σ2 H2 => ∃ α2 S2 ρ2, RS X.K H2 α2 S2 ∧ RE X.K H2 α2 ρ2 σ2 ∧ Pst X.K E H2 α2 (Ln.whileL (fun ρ => Ln.evT cf ic ρ) (fun ρ => Ln.execs cf w ib ρ) m ρ2 S2) fun p _ H' α' => EndsI X.K D p H' α', ⟨w, α, S, ρ, rs, re, p⟩, ?_⟩
  rintro m σ2 H2 ⟨α2, S2, ρ2, rs2, re2, p2⟩
  cases m with
  | zero => exact p2.elim
  | succ m =>
    unfold Ln.whileL at p2
    refine ⟨ρ2, α2, S2, rs2, re2, p2.bind.mono fun k S3 H3 α3 _ ⟨a3, q⟩ => ?_⟩
    cases k with
    | true =>
      rw [if_pos rfl] at q ⊢
      refine ⟨_, fun σ' H' n => ⟨m, Nat.lt_succ_self _, n⟩, ρ2, α3, S3, a3.rs, a3.re re2, q.bind.mono fun r S4 H4 α4 _ ⟨a4, q⟩ σ4 re4 => ?_⟩
      obtain ⟨f, ρ4⟩ := r
      cases f with
      | nx => exact ⟨α4, S4, ρ4, a4.rs, re4, q⟩
      | ct => exact ⟨α4, S4, ρ4, a4.rs, re4, q⟩
      | bk => exact q.ret a4.rs σ4 re4
      | rt d => exact q.ret a4.rs σ4 re4
    | false =>
      rw [if_neg Bool.false_ne_true] at q ⊢
      exact q.ret a3.rs σ2 (a3.re re2)
end
end LnS

set_option linter.all false
set_option maxRecDepth 100000
/-! Ln: match, by written texts. -/
namespace LnS
open PySem L2 PyProof.Rows
open Ln (D O Store Rho M R Ex)
variable [Tbs]
section
variable {X : Cx} {E : XS} {cf : Nat → List D → M D} {w : Nat} {pos : Pos} {e : Expr} {ie : Ln.E}
/-- the cases of a match, behind its subject -/
structure JK (X : Cx) (E : XS) (cs : List MatchCase) (m : D → Rho → M (Ln.Fl × Rho)) : Prop where
  run : ∀ (pins : List (Addr × Obj)) (s : Shared) (σ : L2.St) (H : Hp) (D : Ends) (d : Ln.D) (v : V) (u : Value) (first : Bool) (ρ : Rho) (α : Al) (S : Store), Inv X pins σ H s → RelV v u → RD X.K H α d v → RS X.K H α S → RE X.K H α ρ σ →
    Pst X.K E H α (m d ρ S) (fun p _ H' α' => EndsI X.K D p H' α') → wpAny (model X.prog X.w) X.A (matchCases cs X.env u first) (SP X pins D) X.xe s
theorem jk_nil : JK X E [] (Ln.execk cf w .nil) := ⟨fun pins s σ H D d v u first ρ α S I rv rd rs re p => by
  simp only [Ln.execk] at p
  exact wpAny_matchCases_nil ⟨σ, H, I, p.ret rs σ re⟩⟩
theorem jk_cons {x : Str} {k : Nat} {p1 p2 : Pos} {body : List Stmt} {ib : Ln.Sms} {rest : List MatchCase} {ir : Ln.Ks} (hu : X.A.units + 65 < cLine) (hb : JSs X E body (Ln.execs cf w ib)) (hr : JK X E rest (Ln.execk cf w ir)) :
    JK X E (⟨.MatchValue (.Constant (.str x) k p1) p2, none, body⟩ :: rest) (Ln.execk cf w (.cons x ib ir)) := ⟨fun pins s σ H D d v u first ρ α S I rv rd rs re p => by
  simp only [Ln.execk] at p
  cases d with
  | str z =>
    have rd' := rd
    cases rd
    refine wpAny_matchCases_cons (wpAny_matchPattern_Value ?_)
    refine thn ((pe_str (X := X) (x := x)).run pins s σ H (fun y H' => y = .str x ∧ H' = H) I ⟨rfl, rfl⟩) fun c s1 ⟨y, H1, I1, ry, ey, eh⟩ => ?_
    subst ey eh
    refine thn (op_eqs false rfl (by omega) pins s1 σ H1 (.str z) (.str x) u c (fun y H' => y = .bl (decide (z = x)) ∧ H' = H1) I1 rv ry ⟨α, S, .str z, .str x, decide (z = x), rs, rd', .str _, by simp [Ln.eqD], rfl, rfl⟩) fun b s2 ⟨y, H2, I2, rb, ey, eh⟩ => ?_
    subst ey eh
    cases rb
    refine wpAny_truthy_bool ?_
    have p : Pst X.K E H2 α ((if z = x then Ln.execs cf w ib ρ else Ln.execk cf w ir (.str z) ρ) S) (fun p _ H' α' => EndsI X.K D p H' α') := p
    by_cases hz : z = x
    · rw [if_pos hz] at p
      simp only [hz, decide_true, if_true]
      exact wpAny_assignInOrder_none (hb.run pins s2 σ H2 D I2 ⟨ρ, α, S, rs, re, p⟩)
    · rw [if_neg hz] at p
      simp only [hz, decide_false, Bool.false_eq_true, if_false]
      exact hr.run pins s2 σ H2 D (.str z) (.str z) u false ρ α S I2 rv rd' rs re p
  | _ => exact p.elim⟩
theorem js_mat {cs : List MatchCase} {ics : Ln.Ks} (he : JE X E e (Ln.ev cf ie)) (hk : JK X E cs (Ln.execk cf w ics)) : JS X E (.Match e cs pos) (Ln.exec cf w (.mat ie ics)) := ⟨fun pins s σ H D I ⟨ρ, α, S, rs, re, p⟩ => by
  simp only [Ln.exec] at p
  refine wpAny_Match (thn (he.run pins s σ H (fun v H1 => ∃ d α1 S1, RS X.K H1 α1 S1 ∧ RE X.K H1 α1 ρ σ ∧ RD X.K H1 α1 d v ∧ Pst X.K E H1 α1 (Ln.execk cf w ics d ρ S1) fun p _ H' α' => EndsI X.K D p H' α') I ⟨ρ, α, S, rs, re, p.bind.mono fun d S1 H1 α1 _ ⟨a, q⟩ v rv => ⟨d, α1, S1, a.rs, a.re re, rv, q⟩⟩) fun u s1 ⟨v, H1, I1, rv, d, α1, S1, rs1, re1, rd, q⟩ => ?_)
  exact hk.run pins s1 σ H1 D d v u true ρ α1 S1 I1 rv rd rs1 re1 q⟩
end
end LnS

set_option linter.all false
set_option maxRecDepth 100000
/-! Ln: methods; sorted. -/
namespace LnS
open PySem PySem.Spec L2 PyProof.Rows
open Ln (D O Store Rho M R Ex)
variable [Tbs]
section
variable {X : Cx} {E : XS} {cf : Nat → List D → M D} {o a : Expr} {es : List Expr} {io ia : Ln.E} {ies : Ln.Es} {apos cpos : Pos}
/-! ### a method of a tuple -/
def tTM (K : Frag) (r : V → List V → Hp → VK → Prop) (to : TE) (t : TA) : TE := fun σ H Q => to σ H fun x H1 => (∃ p xs, x = .ref p ∧ TupS K H1 p xs) ∧ t σ H1 fun xs H2 => r x xs H2 Q
theorem tupS_is {pins : List (Addr × Obj)} {σ : L2.St} {H : Hp} {s : Shared} {p : Addr} {xs : List V} (I : Inv X pins σ H s) (h : TupS X.K H p xs) :
    s.TypeIs (.ref p) "tuple" ∧ ∀ b, Value.ref p = .ref b → ∃ ob, s.heap.get? b = some ob ∧ ob.dict = none := by
  have two : ∃ ob, s.heap.get? p = some ob ∧ ob.dict = none := by
    rcases h with ⟨o, hd, h⟩ | ⟨o, its, n, hd, hk, _⟩
    · exact ⟨o, (I.hok p _ h).1, hd⟩
    · exact ⟨o, I.kIn p o hk, hd⟩
  obtain ⟨its, _, ht, _⟩ := I.tuple h.sq
  exact ⟨ht.typeIs, fun b e => by cases e; exact two⟩
theorem pe_tm {to : TE} {t : TA} {name : Str} {id : String} {r : V → List V → Hp → VK → Prop} (slot : Slot "tuple" name id) (hty : typeOf (.builtin id) = pure (.type "method_descriptor")) (hm : MtR X id r) (ho : PE X o to) (ha : PA X (a :: es) t)
    (hbase : attributeBase o name X.env (eval o X.env) = eval o X.env := by rfl)
    (hfew : ((backTo cpos (starEach (a :: es) X.env)).all (fun x => !x.1) && (backToKw cpos (keywordEach [] X.env)).all (fun x => x.1.isSome)
      && decide ((a :: es).length + ([] : List Keyword).length + (if ([] : List Keyword).isEmpty then 0 else 1) < 30)) = true := by rfl)
    (hline : (apos.endLine == cpos.line) = true := by rfl) (hs : starEach (a :: es) X.env = (false, eval a X.env) :: starEach es X.env := by rfl) (hplain : (backTo cpos (starEach es X.env)).any (·.1) = false := by rfl) :
    PE X (.Call (.Attribute o name apos) (a :: es) [] cpos) (tTM X.K r to t) :=
  ⟨fun pins s σ H Q I h => wpAny_Call_method_late hbase hfew hline rfl (thn (ho.run pins s σ H _ I h) fun v s1 hx => by
    obtain ⟨x, H1, I1, r1, ⟨p, xs, ex, ht⟩, q1⟩ := hx
    subst ex
    cases r1
    obtain ⟨h1, h2⟩ := tupS_is I1 ht
    refine ⟨"tuple", id, PySem.F.plainAttrs_tuple, slot, hty, h1, h2, ?_⟩
    have hA := ha.run cpos pins s1 σ H1 _ I1 q1
    rw [hs] at hA ⊢
    refine Calls.callWith_builtin (show (false || (backTo cpos (starEach es X.env)).any (·.1)) = false from ?_) (Calls.evalArgs_plain (thn hA fun us s2 hy => ?_))
    · rw [hplain]
      rfl
    · obtain ⟨vs, H2, I2, r2, q2⟩ := hy
      exact hm pins s2 σ H2 (.ref p) vs _ us Q I2 rfl r2 q2)⟩
/-- t.count(x), texts -/
theorem mt_tup_count : MtR X "tuple.count" (fun x xs H Q => ∃ p, ∃ ys : List Str, ∃ z, x = .ref p ∧ xs = [.str z] ∧ SqT X.K H p (ys.map V.str) ∧ Q (.int (ys.count z : Nat)) H) := by
  intro pins s σ H x xs v us Q I rx rs h
  obtain ⟨p, ys, z, ex, ey, hq, q⟩ := h
  subst ex ey
  cases rx
  obtain ⟨u, eu, t, et⟩ := vals1 rs
  subst eu et
  obtain ⟨its, r, pl, hz⟩ := I.tuple hq
  obtain ⟨⟨cls, dd, dt, sl⟩, ho, hc, n, hd⟩ := pl
  simp only at hc hd
  subst hc hd
  refine call_meets PySem.F.slot_tuple_count ⟨_, ho, rfl⟩ PySem.F.entry_tuple_count (PySem.F.args_tuple_count_2 _ _) (SeqAt.tuple_countAt p its.toArray n dd sl (.str z t) (eqU (.str z)))
    ⟨ho, fun w hw => mem_eqAt (x := .str z) ⟨t, rfl⟩ rfl r (flat_strs ys) w (by simpa using hw), ?_⟩
  have ec : ∀ {ys : List Str} {its : List Value}, Vals (ys.map V.str) its → its.countP (eqU (.str z)) = ys.count z := fun {ys} => by
    induction ys with
    | nil => intro its r; cases r; rfl
    | cons y ys ih =>
      intro its r
      cases r with
      | cons r1 r2 =>
        obtain ⟨t', e⟩ := r1
        subst e
        rw [List.countP_cons, ih r2, List.count_cons]
        rfl
  have e2 : its.toArray.toList.countP (eqU (.str z)) = ys.count z := ec r
  refine ⟨.int (ys.count z : Nat), H, I.tok _, ⟨s.toks, ?_⟩, q⟩
  show Value.int ((its.toArray.toList.countP (eqU (.str z)) : Nat) : Int) s.toks = _
  rw [e2]
/-- what the evaluator says of a method's call -/
theorem mth_at {b : Ln.Blt} {σ : L2.St} {H : Hp} {Q : VK} (h : TI X.K E (Ln.ev cf (.mth b io ies)) σ H Q) : TI X.K E (Ln.ev cf io) σ H fun x H1 => ∃ (ρ : Rho) (α : Al) (S : Store) (dx : D), RS X.K H1 α S ∧ RE X.K H1 α ρ σ ∧ RD X.K H1 α dx x ∧ Ln.mthOk b dx S = some () ∧
    TAI X.K E (Ln.evs cf ies) σ H1 fun vs H2 => ∃ (α2 : Al) (S2 : Store) (ds : List D), RS X.K H2 α2 S2 ∧ RD X.K H2 α2 dx x ∧ (∀ (n : Nat) (p : Addr), α.h[n]? = some p → α2.h[n]? = some p) ∧ RDs X.K H2 α2 ds vs ∧ Pst X.K E H2 α2 (Ln.blt b (dx :: ds) S2) fun d _ H' α' => ∀ v, RD X.K H' α' d v → Q v H' := by
  obtain ⟨ρ, α, S, rs, re, p⟩ := h
  simp only [Ln.ev] at p
  refine ⟨ρ, α, S, rs, re, p.bind.mono fun dx S1 H1 α1 _ q v rd => ?_⟩
  obtain ⟨_, e, q2⟩ := q.2.bind.opt q.1.rs
  refine ⟨ρ, α1, S1, dx, q.1.rs, q.1.re re, rd, e, ρ, α1, S1, q.1.rs, q.1.re re, q2.2.bind.mono fun ds S2 H2 α2 _ q3 vs rds => ?_⟩
  exact ⟨α2, S2, ds, q3.1.rs, q3.1.rd rd, fun n p h => q3.1.grow.get h, rds, q3.2⟩
theorem je_tindex (ho : JE X E o (Ln.ev cf io)) (ha : JA X E [a] (Ln.evs cf ies)) (hbase : attributeBase o "index" X.env (eval o X.env) = eval o X.env := by rfl)
    (hfew : ((backTo cpos (starEach [a] X.env)).all (fun x => !x.1) && (backToKw cpos (keywordEach [] X.env)).all (fun x => x.1.isSome)
      && decide ([a].length + ([] : List Keyword).length + (if ([] : List Keyword).isEmpty then 0 else 1) < 30)) = true := by rfl)
    (hline : (apos.endLine == cpos.line) = true := by rfl) (hs : starEach [a] X.env = (false, eval a X.env) :: starEach [] X.env := by rfl) (hplain : (backTo cpos (starEach [] X.env)).any (·.1) = false := by rfl) :
    JE X E (.Call (.Attribute o "index" apos) [a] [] cpos) (Ln.ev cf (.mth .tindex io ies)) :=
  pe_w (pe_tm PySem.F.slot_tuple_index PySem.F.type_tuple_index mt_tup_index ho ha hbase hfew hline hs hplain) fun σ H Q h => by
    obtain ⟨ρ, α, S, rs, re, p⟩ := mth_at h
    refine ⟨ρ, α, S, rs, re, p.mono fun dx S1 H1 α1 _ q v rd => ?_⟩
    obtain ⟨ρ1, α1, S1, dx, rs1, re1, rd1, e, q⟩ := q v rd
    cases rd1 with
    | tup h1 rds =>
      refine ⟨⟨_, _, rfl, h1⟩, ?_⟩
      obtain ⟨ρ2, α2, S2, rs2, re2, q⟩ := q
      refine ⟨ρ2, α2, S2, rs2, re2, q.mono fun ds S3 H3 α3 _ q vs rvs => ?_⟩
      obtain ⟨α4, S4, ds, rs4, rd4, _, rds4, p4⟩ := q vs rvs
      cases rd4 with
      | tup h4 rds5 =>
      obtain ⟨d, e4, p5⟩ := (show Pst _ _ _ _ (M.opt (Ln.blt0 .tindex (_ :: ds)) S4) _ from p4).opt rs4
      simp only [Ln.blt0, Ln.tindexF] at e4
      split at e4
      · rename_i xs z heq
        cases heq
        obtain ⟨v1, rfl, r1⟩ := rds1 rds4
        cases r1
        rw [Option.bind_eq_some_iff] at e4
        obtain ⟨ys, e5, e6⟩ := e4
        split at e6
        · rename_i hz
          cases e6
          have ev := rds5.strsD e5
          rw [ev] at h4
          have hi := List.idxOf_lt_length_of_mem hz
          refine ⟨_, ys, z, ys.idxOf z, rfl, rfl, h4.sq, ?_, fun m hm hc => ?_, p5 _ (.int _)⟩
          · rw [List.getElem?_eq_getElem hi, List.getElem_idxOf]
          · obtain ⟨hl, hc⟩ := List.getElem?_eq_some_iff.mp hc
            have := List.not_of_lt_findIdx (p := (· == z)) (xs := ys) (i := m) hm
            rw [hc] at this
            simp at this
        · cases e6
      · cases e4
    | _ => simp [Ln.mthOk] at e
theorem je_tcount (ho : JE X E o (Ln.ev cf io)) (ha : JA X E [a] (Ln.evs cf ies)) (hbase : attributeBase o "count" X.env (eval o X.env) = eval o X.env := by rfl)
    (hfew : ((backTo cpos (starEach [a] X.env)).all (fun x => !x.1) && (backToKw cpos (keywordEach [] X.env)).all (fun x => x.1.isSome)
      && decide ([a].length + ([] : List Keyword).length + (if ([] : List Keyword).isEmpty then 0 else 1) < 30)) = true := by rfl)
    (hline : (apos.endLine == cpos.line) = true := by rfl) (hs : starEach [a] X.env = (false, eval a X.env) :: starEach [] X.env := by rfl) (hplain : (backTo cpos (starEach [] X.env)).any (·.1) = false := by rfl) :
    JE X E (.Call (.Attribute o "count" apos) [a] [] cpos) (Ln.ev cf (.mth .tcount io ies)) :=
  pe_w (pe_tm PySem.F.slot_tuple_count PySem.F.type_tuple_count mt_tup_count ho ha hbase hfew hline hs hplain) fun σ H Q h => by
    obtain ⟨ρ, α, S, rs, re, p⟩ := mth_at h
    refine ⟨ρ, α, S, rs, re, p.mono fun dx S1 H1 α1 _ q v rd => ?_⟩
    obtain ⟨ρ1, α1, S1, dx, rs1, re1, rd1, e, q⟩ := q v rd
    cases rd1 with
    | tup h1 rds =>
      refine ⟨⟨_, _, rfl, h1⟩, ?_⟩
      obtain ⟨ρ2, α2, S2, rs2, re2, q⟩ := q
      refine ⟨ρ2, α2, S2, rs2, re2, q.mono fun ds S3 H3 α3 _ q vs rvs => ?_⟩
      obtain ⟨α4, S4, ds, rs4, rd4, _, rds4, p4⟩ := q vs rvs
      cases rd4 with
      | tup h4 rds5 =>
      obtain ⟨d, e4, p5⟩ := (show Pst _ _ _ _ (M.opt (Ln.blt0 .tcount (_ :: ds)) S4) _ from p4).opt rs4
      simp only [Ln.blt0, Ln.tcountF] at e4
      split at e4
      · rename_i xs z heq
        cases heq
        obtain ⟨v1, rfl, r1⟩ := rds1 rds4
        cases r1
        rw [Option.map_eq_some_iff] at e4
        obtain ⟨ys, e5, e6⟩ := e4
        cases e6
        have ev := rds5.strsD e5
        rw [ev] at h4
        exact ⟨_, ys, z, rfl, rfl, h4.sq, p5 _ (.int _)⟩
      · cases e4
    | _ => simp [Ln.mthOk] at e
/-! ### methods of a list of the store -/
theorem lstO {K : Frag} {H : Hp} {α : Al} {S : Store} (rs : RS K H α S) {n : Nat} {p : Addr} {xs : List D} (h : α.h[n]? = some p) (e : S[n]? = some (.lst xs)) : ∃ vs, H p = some (.lst vs) ∧ RDs K H α xs vs := rs.at_ n p _ h e
theorem seqIx {i : Int} {n j : Nat} (h : Ln.place n i = some j) : seqIndex? i n = some j := by
  unfold Ln.place at h
  unfold seqIndex?
  by_cases h0 : 0 ≤ i
  · rw [if_pos h0] at h
    have h1 : ¬ i < 0 := by omega
    by_cases h2 : i < n
    · rw [if_pos h2] at h
      simp only [h1, if_false, h0, h2, decide_true, Bool.and_self, if_true]
      exact h
    · rw [if_neg h2] at h; cases h
  · rw [if_neg h0] at h
    have h1 : i < 0 := by omega
    by_cases h2 : -(n : Int) ≤ i
    · rw [if_pos h2] at h
      have h3 : 0 ≤ i + n := by omega
      have h4 : i + n < n := by omega
      simp only [h1, if_true, h3, h4, decide_true, Bool.and_self]
      exact h
    · rw [if_neg h2] at h; cases h
theorem je_upper (ho : JE X E o (Ln.ev cf io)) (hbase : attributeBase o "upper" X.env (eval o X.env) = eval o X.env := by rfl) (hline : (apos.endLine == cpos.line) = true := by rfl) :
    JE X E (.Call (.Attribute o "upper" apos) [] [] cpos) (Ln.ev cf (.mth .upper io .nil)) :=
  pe_w (pe_upper ho hbase hline) fun σ H Q ⟨ρ, α, S, rs, re, p⟩ => by
    simp only [Ln.ev, Ln.evs] at p
    refine ⟨ρ, α, S, rs, re, p.bind.mono fun dx S1 H1 α1 _ q v rd => ?_⟩
    obtain ⟨_, e, q2⟩ := q.2.bind.opt q.1.rs
    cases rd with
    | str x =>
      obtain ⟨d, e4, p5⟩ := (show Pst _ _ _ _ (M.opt (Ln.blt0 .upper [.str x]) S1) _ from q2.2).opt q.1.rs
      simp only [Ln.blt0, Ln.upperF] at e4
      split at e4
      · rename_i hl
        cases e4
        exact ⟨⟨x, rfl⟩, x, rfl, rfl, hl, p5 _ (.str _)⟩
      · cases e4
    | _ => simp [Ln.mthOk] at e
theorem je_join (ho : JE X E o (Ln.ev cf io)) (ha : JE X E a (Ln.ev cf ia)) (hs : starEach [a] X.env = [(false, eval a X.env)] := by rfl) (hbase : attributeBase o "join" X.env (eval o X.env) = eval o X.env := by rfl) (hline : (apos.endLine == cpos.line) = true := by rfl) :
    JE X E (.Call (.Attribute o "join" apos) [a] [] cpos) (Ln.ev cf (.mth .sjoin io (.cons ia .nil))) :=
  pe_w (pe_join ho ha hs hbase hline) fun σ H Q h => by
    obtain ⟨ρ, α, S, rs, re, p⟩ := mth_at h
    refine ⟨ρ, α, S, rs, re, p.mono fun dx S1 H1 α1 _ q v rd => ?_⟩
    obtain ⟨ρ1, α1, S1, dx, rs1, re1, rd1, e, q⟩ := q v rd
    cases rd1 with
    | str z =>
      refine ⟨⟨z, rfl⟩, ?_⟩
      obtain ⟨ρ2, α2, S2, rs2, re2, q⟩ := q
      simp only [Ln.evs] at q
      refine ⟨ρ2, α2, S2, rs2, re2, q.bind.mono fun d S3 H3 α3 _ q v rv => ?_⟩
      obtain ⟨α4, S4, ds, rs4, rd4, _, rds4, p4⟩ := (show Pst _ _ _ _ (M.ret [d] S3) _ from q.2).ret q.1.rs [v] (.cons rv .nil)
      cases rd4
      obtain ⟨d4, e4, p5⟩ := (show Pst _ _ _ _ (M.opt (Ln.blt0 .sjoin (.str z :: ds)) S4) _ from p4).opt rs4
      simp only [Ln.blt0, Ln.joinF] at e4
      split at e4
      · rename_i z' x heq
        cases heq
        obtain ⟨v1, ev, r1⟩ := rds1 rds4
        cases ev
        rw [Option.bind_eq_some_iff] at e4
        obtain ⟨ys, e5, e6⟩ := e4
        rw [Option.bind_eq_some_iff] at e6
        obtain ⟨zs, e6, e7⟩ := e6
        split at e7
        · rename_i hl
          cases e7
          obtain ⟨b, vs, rfl, hq, rds⟩ := seq_at rs4 r1 e5
          have ev := rds.strsD e6
          rw [ev] at hq
          exact ⟨z, b, zs, rfl, rfl, hq, hl, p5 _ (.str _)⟩
        · cases e7
      · cases e4
    | _ => simp [Ln.mthOk] at e
/-- d.get(k, e) -/
theorem je_dget {b : Expr} {ib : Ln.E} (hu : X.A.units + 65 < cLine) (ho : JE X E o (Ln.ev cf io)) (ha : JE X E a (Ln.ev cf ia)) (hb : JE X E b (Ln.ev cf ib)) (hbase : attributeBase o "get" X.env (eval o X.env) = eval o X.env := by rfl)
    (hfew : ((backTo cpos (starEach [a, b] X.env)).all (fun x => !x.1) && (backToKw cpos (keywordEach [] X.env)).all (fun x => x.1.isSome)
      && decide ([a, b].length + ([] : List Keyword).length + (if ([] : List Keyword).isEmpty then 0 else 1) < 30)) = true := by rfl)
    (hline : (apos.endLine == cpos.line) = true := by rfl) (hs : backTo cpos (starEach [a, b] X.env) = [(false, eval a X.env), (false, eval b X.env)] := by rfl) :
    JE X E (.Call (.Attribute o "get" apos) [a, b] [] cpos) (Ln.ev cf (.mth .dget io (.cons ia (.cons ib .nil)))) :=
  pe_w (pe_dget2 (by omega) ho ha hb ⟨hbase, hfew, hline, hs⟩) fun σ H Q h => by
    obtain ⟨ρ, α, S, rs, re, p⟩ := mth_at h
    refine ⟨ρ, α, S, rs, re, p.mono fun dx S1 H1 α1 _ q v rd => ?_⟩
    obtain ⟨ρ1, α1, S1, dx, rs1, re1, rd1, e, q⟩ := q v rd
    cases rd1 with
    | dct n hH q1 q2 =>
      refine ⟨_, rfl, .inl ⟨_, .inl hH⟩, ?_⟩
      obtain ⟨ρ2, α2, S2, rs2, re2, q⟩ := q
      simp only [Ln.evs] at q
      refine ⟨ρ2, α2, S2, rs2, re2, q.bind.mono fun dk S3 H3 α3 _ q v rv => ?_⟩
      refine ⟨ρ2, α3, S3, q.1.rs, q.1.re re2, q.2.bind.bind.mono fun de S4 H4 α4 _ q2 w rw => ?_⟩
      obtain ⟨α5, S5, ds, rs5, rd5, _, rds5, p5⟩ := ((show Pst _ _ _ _ (M.ret [de] S4) _ from q2.2).ret q2.1.rs).2.ret q2.1.rs [v, w] (.cons (q2.1.rd rv) (.cons rw .nil))
      cases rd5 with
      | dct n5 hH5 q15 q25 =>
      obtain ⟨d5, e5, p6⟩ := (show Pst _ _ _ _ (M.opt (Ln.blt0 .dget (_ :: ds)) S5) _ from p5).opt rs5
      simp only [Ln.blt0, Ln.dgetF] at e5
      split at e5
      · rename_i heq
        cases heq
        split at e5
        · rename_i hk
          cases e5
          obtain ⟨v1, v2, ev, r1, r2⟩ := rds2 rds5
          cases ev
          obtain ⟨key, rfl, hkey⟩ := key_at r1 hk
          obtain ⟨l1, l2, _⟩ := look_at hkey q15 q25
          refine ⟨_, DGet.k hH5, p6 _ ?_⟩
          cases e6 : Ln.lookD _ _ _ with
          | none => rw [l2 e6]; exact r2
          | some d6 =>
            obtain ⟨w6, e7, r6⟩ := l1 d6 e6
            rw [e7]
            exact r6
        · cases e5
      · cases e5
    | _ => simp [Ln.mthOk] at e
theorem je_append (ho : JE X E o (Ln.ev cf io)) (ha : JA X E [a] (Ln.evs cf ies)) (hbase : attributeBase o "append" X.env (eval o X.env) = eval o X.env := by rfl)
    (hfew : ((backTo cpos (starEach [a] X.env)).all (fun x => !x.1) && (backToKw cpos (keywordEach [] X.env)).all (fun x => x.1.isSome)
      && decide ([a].length + ([] : List Keyword).length + (if ([] : List Keyword).isEmpty then 0 else 1) < 30)) = true := by rfl)
    (hline : (apos.endLine == cpos.line) = true := by rfl) (hs : starEach [a] X.env = (false, eval a X.env) :: starEach [] X.env := by rfl) (hplain : (backTo cpos (starEach [] X.env)).any (·.1) = false := by rfl) :
    JE X E (.Call (.Attribute o "append" apos) [a] [] cpos) (Ln.ev cf (.mth .append io ies)) :=
  pe_w (pe_bm PySem.F.plainAttrs_list PySem.F.slot_list_append PySem.F.type_list_append mt_append ho ha hbase hfew hline hs hplain) fun σ H Q h => by
    obtain ⟨ρ, α, S, rs, re, p⟩ := mth_at h
    refine ⟨ρ, α, S, rs, re, p.mono fun dx S1 H1 α1 _ q v rd => ?_⟩
    obtain ⟨ρ1, α1, S1, dx, rs1, re1, rd1, e, q⟩ := q v rd
    cases rd1 with
    | @ref n p hn =>
      simp only [Ln.mthOk] at e
      split at e
      · rename_i ys hS
        obtain ⟨vs0, hv0, _⟩ := lstO rs1 hn hS
        refine ⟨.inl ⟨rfl, vs0, SqL.of hv0⟩, ?_⟩
        obtain ⟨ρ2, α2, S2, rs2, re2, q⟩ := q
        refine ⟨ρ2, α2, S2, rs2, re2, q.mono fun ds S3 H3 α3 _ q vs rvs => ?_⟩
        obtain ⟨α4, S4, ds, rs4, rd4, same, rds4, p4⟩ := q vs rvs
        have hn4 := same n p hn
        cases rds4 with
        | nil => exact p4.elim
        | cons r1 rr =>
        cases rr with
        | cons _ _ => exact p4.elim
        | nil =>
        simp only [Ln.blt, Ln.appendF] at p4
        split at p4
        · rename_i xs hS4
          split at p4
          · rename_i hl
            obtain ⟨ws, hw, rw⟩ := lstO rs4 hn4 hS4
            refine ⟨p, ws, _, rfl, rfl, hw, by rw [← rw.length]; exact hl, ?_⟩
            have af := After.put rs4 hn4 hS4 rfl (rw.append (.cons r1 .nil))
            exact (show ∀ H' α', After X.K α4 H3 α' H' (S4.set n (.lst (xs ++ [_]))) → _ from p4) _ _ af _ .non
          · exact p4.elim
        · exact p4.elim
      · cases e
    | _ => simp [Ln.mthOk] at e
theorem je_popAt (ho : JE X E o (Ln.ev cf io)) (ha : JA X E [a] (Ln.evs cf ies)) (hbase : attributeBase o "pop" X.env (eval o X.env) = eval o X.env := by rfl)
    (hfew : ((backTo cpos (starEach [a] X.env)).all (fun x => !x.1) && (backToKw cpos (keywordEach [] X.env)).all (fun x => x.1.isSome)
      && decide ([a].length + ([] : List Keyword).length + (if ([] : List Keyword).isEmpty then 0 else 1) < 30)) = true := by rfl)
    (hline : (apos.endLine == cpos.line) = true := by rfl) (hs : starEach [a] X.env = (false, eval a X.env) :: starEach [] X.env := by rfl) (hplain : (backTo cpos (starEach [] X.env)).any (·.1) = false := by rfl) :
    JE X E (.Call (.Attribute o "pop" apos) [a] [] cpos) (Ln.ev cf (.mth .popAt io ies)) :=
  pe_w (pe_bm PySem.F.plainAttrs_list PySem.F.slot_list_pop PySem.F.type_list_pop mt_popAt ho ha hbase hfew hline hs hplain) fun σ H Q h => by
    obtain ⟨ρ, α, S, rs, re, p⟩ := mth_at h
    refine ⟨ρ, α, S, rs, re, p.mono fun dx S1 H1 α1 _ q v rd => ?_⟩
    obtain ⟨ρ1, α1, S1, dx, rs1, re1, rd1, e, q⟩ := q v rd
    cases rd1 with
    | @ref n p hn =>
      simp only [Ln.mthOk] at e
      split at e
      · rename_i ys hS
        obtain ⟨vs0, hv0, _⟩ := lstO rs1 hn hS
        refine ⟨.inl ⟨rfl, vs0, SqL.of hv0⟩, ?_⟩
        obtain ⟨ρ2, α2, S2, rs2, re2, q⟩ := q
        refine ⟨ρ2, α2, S2, rs2, re2, q.mono fun ds S3 H3 α3 _ q vs rvs => ?_⟩
        obtain ⟨α4, S4, ds, rs4, rd4, same, rds4, p4⟩ := q vs rvs
        have hn4 := same n p hn
        cases rds4 with
        | nil => exact p4.elim
        | cons r1 rr =>
        cases rr with
        | cons _ _ => cases r1 <;> exact p4.elim
        | nil =>
        cases r1 with
        | int i =>
          simp only [Ln.blt, Ln.popAtF] at p4
          split at p4
          · rename_i xs hS4
            split at p4
            · rename_i hl
              split at p4
              · rename_i j hj
                split at p4
                · rename_i y hy
                  obtain ⟨ws, hw, rw⟩ := lstO rs4 hn4 hS4
                  obtain ⟨u, hu, ru⟩ := rw.get hy
                  have h63 : -(2 ^ 63) ≤ i ∧ i < 2 ^ 63 := by
                    unfold Ln.small63 at hl
                    rw [Bool.and_eq_true, decide_eq_true_eq, decide_eq_true_eq] at hl
                    exact hl
                  refine ⟨p, ws, i, j, u, rfl, rfl, hw, h63.1, h63.2, ?_, hu, ?_⟩
                  · rw [← rw.length]
                    exact seqIx hj
                  · have af := After.put rs4 hn4 hS4 rfl (rw.eraseIdx j)
                    exact (show ∀ H' α', After X.K α4 H3 α' H' (S4.set n (.lst (xs.eraseIdx j))) → _ from p4) _ _ af _ (af.rd ru)
                · exact p4.elim
              · exact p4.elim
            · exact p4.elim
          · exact p4.elim
        | _ => exact p4.elim
      · cases e
    | _ => simp [Ln.mthOk] at e
theorem rds_strs {K : Frag} {H : Hp} {α : Al} : ∀ ns : List Str, RDs K H α (ns.map D.str) (ns.map V.str)
  | [] => .nil
  | n :: ns => .cons (.str n) (rds_strs ns)
/-! ### list(x) that the store keeps; sorted -/
theorem je_listM {x : Str} {p : Pos} (hg : Gl X "list") (hm : X.mg "list" = none) (hv : bootBuiltins "list" = some (.type "list")) (ha : JA X E [a] (Ln.evs cf ies))
    (he : starEach [a] X.env = (false, eval a X.env) :: starEach [] X.env := by rfl) (hpl : (backTo cpos (starEach [] X.env)).any (·.1) = false := by rfl) : JE X E (.Call (.Name "list" p) [a] [] cpos) (Ln.ev cf (.blt .listM ies)) :=
  pe_w (pe_callTy call_list_of hg hm hv ha (by decide) (by decide) he hpl) fun σ H Q ⟨ρ, α, S, rs, re, p⟩ => by
    simp only [Ln.ev] at p
    refine ⟨ρ, α, S, rs, re, p.bind.mono fun ds S1 H1 α1 _ q vs rds => ?_⟩
    have p1 := q.2
    cases rds with
    | nil => exact p1.elim
    | cons r1 rr =>
    cases rr with
    | cons _ _ => exact p1.elim
    | nil =>
    simp only [Ln.blt, Ln.listMF] at p1
    split at p1
    · rename_i xs hx
      obtain ⟨b, us, rfl, hq, rx⟩ := seq_at q.1.rs r1 hx
      refine ⟨b, us, rfl, hq, fun l hl => ?_⟩
      obtain ⟨af, rd⟩ := After.alloc q.1.rs hl rx
      exact (show ∀ H' α', After X.K α1 H1 α' H' (S1 ++ [.lst xs]) → _ from p1) _ _ af _ rd
    · exact p1.elim
theorem ltCps_iff : ∀ a b : List Nat, PySem.Spec.ltCps a b = true ↔ a < b
  | [], [] => by simp [PySem.Spec.ltCps]
  | [], _ :: _ => by simp [PySem.Spec.ltCps]
  | _ :: _, [] => by simp [PySem.Spec.ltCps]
  | a :: r, b :: t => by
    rw [List.cons_lt_cons_iff, ← ltCps_iff r t]
    simp [PySem.Spec.ltCps]
theorem leS_iff (x y : Str) : Ln.leS x y = true ↔ x.cps.toList ≤ y.cps.toList := by unfold Ln.leS; simp
theorem leS_trans (a b c : Str) (h1 : Ln.leS a b = true) (h2 : Ln.leS b c = true) : Ln.leS a c = true := by
  rw [leS_iff] at h1 h2 ⊢
  exact List.le_trans h1 h2
theorem leS_total (a b : Str) : (Ln.leS a b || Ln.leS b a) = true := by
  rw [Bool.or_eq_true, leS_iff, leS_iff]
  exact List.le_total _ _
theorem leS_anti (a b : Str) (h1 : Ln.leS a b = true) (h2 : Ln.leS b a = true) : a = b := by
  rw [leS_iff] at h1 h2
  have h := List.le_antisymm h1 h2
  cases a; cases b
  simp only [Str.mk.injEq]
  exact Array.toList_inj.mp h
theorem rising_pw : ∀ (r : List Str) (x : Str), risingS x r = true → (x :: r).Pairwise fun a b => Ln.leS a b = true
  | [], x, _ => List.pairwise_singleton _ _
  | y :: r, x, h => by
    have h' : Spec.ltCps y.cps.toList x.cps.toList = false ∧ risingS y r = true := by simpa [risingS] using h
    have ih := rising_pw r y h'.2
    have hxy : Ln.leS x y = true := by
      rw [leS_iff, ← List.not_lt, ← ltCps_iff, h'.1]
      exact Bool.false_ne_true
    refine List.pairwise_cons.mpr ⟨fun z hz => ?_, ih⟩
    rcases List.mem_cons.mp hz with e | hz
    · rw [e]; exact hxy
    · exact leS_trans _ _ _ hxy ((List.pairwise_cons.mp ih).1 z hz)
theorem sorted_uniq {ys zs : List Str} (h1 : zs.Perm ys) (h2 : sortedS zs = true) : zs = ys.mergeSort Ln.leS := by
  refine List.Perm.eq_of_pairwise (le := fun a b => Ln.leS a b = true) (fun a b _ _ => leS_anti a b) ?_ (List.pairwise_mergeSort leS_trans leS_total ys) (h1.trans (List.mergeSort_perm ys Ln.leS).symm)
  cases zs with
  | nil => exact .nil
  | cons x r => exact rising_pw r x h2
theorem cb_sorted : CallR X (.builtin "sorted") (rB X.K Ln.sortF) := by
  intro pins s σ H xs us Q I r h
  obtain ⟨α, S, ds, d, rs, rd, e, q⟩ := h
  unfold Ln.sortF at e
  split at e
  · obtain ⟨v, rfl, rd1⟩ := rds1 rd
    rw [Option.bind_eq_some_iff] at e
    obtain ⟨ws, e1, e⟩ := e
    rw [Option.bind_eq_some_iff] at e
    obtain ⟨ys, e2, e⟩ := e
    split at e
    · rename_i hl
      cases e
      obtain ⟨b, us2, rfl, h1, rx⟩ := lst_at rs rd1 e1
      have ev := rx.strsD e2
      rw [ev] at h1
      refine cr_sortedS pins s σ H _ us Q I r ⟨b, ys, rfl, SqL.of h1, hl, fun zs p hp hs hn => ?_⟩
      rw [sorted_uniq hp hs]
      obtain ⟨af, rd'⟩ := new_lst rs hn (rds_strs (ys.mergeSort Ln.leS))
      exact q _ _ _ af rd'
    · cases e
  · cases e
end
end LnS

set_option linter.all false
set_option maxRecDepth 100000
/-! Ln: enumerate over a tuple. -/
namespace LnS
open PySem PySem.Spec L2 PyProof.Rows
open AutoSeq1 (wpAny_loadPart')
open Ln (D O Store Rho M R Ex)
variable [Tbs]
theorem meets_enumerate_newT (l : Addr) (items : Array Value) (n : Nat) (dct : Option Addr) (sl : Array (Option Value)) :
    Meets (Builtin.«enumerate.__new__» ⟨[.type "enumerate", .ref l], []⟩) (fun _ R s => s.heap.get? l = some { cls := .type "tuple", dict := dct, data := .seq items n, slots := sl } ∧
      R (.ok (.ret (.ref (s.heap.push { cls := .type "tuple_iterator", data := .fields #[.ref l, .int 0 0] }).objs.size)))
        { s with heap := (s.heap.push { cls := .type "tuple_iterator", data := .fields #[.ref l, .int 0 0] }).push { cls := .type "enumerate", data := .fields #[.none, .bool false, .ref s.heap.objs.size, rawInt 0, .none, .none] } }) :=
  .of_wp fun prog w A R s h => by
    obtain ⟨hp, g, d, tk, os⟩ := s; obtain ⟨hl, h⟩ := h
    have hsub := sub_enumerate
    have hT : Heap.IsTuple (Shared.heap ⟨hp, g, d, tk, os⟩) l items := ⟨_, hl, rfl, n, rfl⟩
    wp_walk using wpAny_loadPart' hl
    refine wpAny_stack_any fun st => wpAny_pure ?_
    split
    · rename_i c _ _ _ _ _
      cases (c == Value.type "enumerate")
      · wp_walk using wpAny_loadPart' hl, wpAny_pyIter_tuple hT
        exact ⟨_, rfl, h⟩
      · wp_walk using wpAny_loadPart' hl, wpAny_pyIter_tuple hT
        exact ⟨_, rfl, h⟩
    · wp_walk using wpAny_loadPart' hl, wpAny_pyIter_tuple hT
      exact ⟨_, rfl, h⟩
theorem call_enumerate_tuple {prog : Program} {w : World} {A : Around} {E : Value → Shared → Prop} {s : Shared} {l : Addr} {items : Array Value} {Q : Value → Shared → Prop} (hT : s.heap.IsTuple l items)
    (h : ∀ h', IsEnum h' (s.heap.objs.size + 1) s.heap.objs.size 0 .none → h'.IsTupleIter s.heap.objs.size l 0 → (∀ b o, s.heap.get? b = some o → h'.get? b = some o) → Q (.ref (s.heap.objs.size + 1)) { s with heap := h' }) :
    wpAny (model prog w) A (call (.type "enumerate") [.ref l]) Q E s := by
  obtain ⟨⟨c, dct, dt, sl⟩, hl, hc, n, hd⟩ := hT
  replace hc : c = .type "tuple" := hc
  replace hd : dt = .seq items n := hd
  subst hc hd
  refine callType_new F.called_enumerate (by decide) (F.typeCall_enumerate_1 _) (F.newCall_enumerate_1 _) (fun obj => F.args_object_init_2 obj _) F.entry_enumerate_new (meets_enumerate_newT l items n dct sl) ⟨hl, ?_⟩
  have hz : (s.heap.push { cls := .type "tuple_iterator", data := .fields #[.ref l, .int 0 0] }).objs.size = s.heap.objs.size + 1 := Heap.size_push ..
  show _ ∧ _
  rw [hz]
  have he := Heap.get?_push_size (s.heap.push { cls := .type "tuple_iterator", data := .fields #[.ref l, .int 0 0] }) (o := { cls := .type "enumerate", data := .fields #[.none, .bool false, .ref s.heap.objs.size, rawInt 0, .none, .none] }) rfl
  rw [hz] at he
  exact ⟨⟨_, he, rfl⟩, h _ he ⟨_, Heap.get?_push_of_some _ (Heap.get?_push_size _ rfl), rfl, rfl⟩ fun b o x => Heap.get?_push_of_some _ (Heap.get?_push_of_some _ x)⟩
theorem enumT_end {prog : Program} {w : World} {A : Around} {E : Value → Shared → Prop} {s : Shared} {e it t : Addr} {i : Nat} {items : Array Value} {old : Value} {Q : Option Value → Shared → Prop} (hh : A.handled = none)
    (he : IsEnum s.heap e it i old) (hit : s.heap.IsTupleIter it t i) (ht : s.heap.IsTuple t items) (hx : items[i]? = none) (hQ : ∀ h', Heap.ExtBut it s.heap h' → Q none { s with heap := h' }) : wpAny (model prog w) A (pyNext (.ref e)) Q E s := by
  have isE : s.TypeIs (.ref e) "enumerate" := ⟨_, he, rfl⟩
  unfold pyNext
  refine wpAny_bind (wpAny_attempt (wpAny_callSpecial?_slot (name := Str.ofString "__next__") isE F.slot_enumerate_next (wpAny_call_entry F.slot_enumerate_next isE F.entry_enumerate_next ?_ (F.args_enumerate_next_1 _))))
  show wpAny _ _ (field (.ref e) 2 >>= _) _ _ s
  refine wpAny_bind (wpAny_field he rfl (x := .ref it) rfl (wpAny_bind (wpAny_nextOf_tuple_end hh hit ht hx fun h' x he' hx' => ?_)))
  obtain ⟨ob, ho, hc⟩ := hx'
  exact wpAny_bind (wpAny_isInstance (T := "StopIteration") (b := true) ⟨ob, ho, hc⟩ isSubtype_stop (wpAny_pure (hQ _ he')))
/-- the tuple at a as it stands at each turn, each item in a new pair -/
def IteT (K : Frag) (a : Addr) : It :=
  ⟨fun i H => ∃ (xs : List V) (x : V), SqT K H a xs ∧ xs[i]? = some x, fun i H v H' => ∃ T x, v = .ref T ∧ H T = none ∧ H' = upd H T (.tup [.int (i : Nat), x]) ∧ ∀ xs, SqT K H a xs → xs[i]? = some x, fun i H => ∃ xs : List V, SqT K H a xs ∧ xs.length ≤ i⟩
theorem turn_enumT {P : Program} {w : World} {K : Frag} {elts : List Expr} {kk : Nat} {tpos : Pos} (a e it : Addr) :
    Turn P w K (.Tuple elts kk tpos) (IteT K a) [e, it] e (fun i h => (∃ old, IsEnum h e it ((i : Nat) : Int) old) ∧ h.IsTupleIter it a i ∧ e ≠ it) where
  mem := by simp
  obj := fun i h ⟨⟨old, he⟩, ⟨o, ho, hc, hd⟩, _⟩ b hb => by
    rcases List.mem_cons.mp hb with z | z
    · rw [z]; exact ⟨_, he, fun v q => nomatch q⟩
    · rw [List.mem_singleton.mp z]; exact ⟨o, ho, fun v q => by rw [hd] at q; cases q⟩
  keep := fun i h h' ⟨⟨old, he⟩, hi, hne⟩ k => ⟨⟨old, k e (by simp) _ he⟩, hi.at fun o q => k it (by simp) o q, hne⟩
  item := by
    intro X hP hw hK hc i pins s σ H E I hf st hg
    subst hP hw hK
    obtain ⟨⟨old, he⟩, hit, hne⟩ := st
    obtain ⟨xs, x, hq, hx⟩ := hg
    obtain ⟨its, rv, p, hz⟩ := I.tuple hq
    obtain ⟨u, hu, ru⟩ := rv.get hx
    have hel : e < s.heap.objs.size := Heap.lt_size he
    have hil : it < s.heap.objs.size := by obtain ⟨_, q, _⟩ := hit; exact Heap.lt_size q
    have hai : a ≠ it := fun z => by
      obtain ⟨o, h1, h2, _⟩ := hit
      obtain ⟨o', h3, h4, _⟩ := p
      rw [z, h1] at h3; cases h3
      rw [h2] at h4; exact absurd h4 (by decide)
    have hea : e ≠ a := fun z => by
      obtain ⟨o', h3, h4, _⟩ := p
      rw [← z, show s.heap.get? e = some _ from he] at h3; cases h3
      exact absurd (show Value.type "enumerate" = Value.type "tuple" from h4) (by decide)
    have hlt : i < its.toArray.size := by
      have := (List.getElem?_eq_some_iff.mp hu).1
      simpa using this
    refine wpAny_pyNext_enum_itemD (Draws.tuple (show X.A.in1.handled = none from I.ok.hd hc) it a hai its.toArray) he ⟨hit, p⟩ hlt hne (by simp [hne, hea]) fun y h' tk hy ho hit' hT hsz hk => ?_
    have hyu : y = u := by
      have : its[i]? = some y := by simpa using hy
      rw [hu] at this
      exact (Option.some.inj this).symm
    subst hyu
    refine ⟨_, rfl, wpAny_letOwnedTupleGo_enum (s := { s with heap := h', toks := tk + 1 }) ho fun h'' he' sb => ?_⟩
    have hT2 := (sb.2 _ (Nat.ne_of_gt hel)).trans hT
    have new : ObjOk X.prog X.w (upd H s.heap.objs.size (.tup [.int (i : Nat), x])) h'' s.heap.objs.size (.tup [.int (i : Nat), x]) :=
      ⟨show 2 ≤ sizeLine by decide, [.int i tk, y], .cons ⟨_, rfl⟩ (.cons ru .nil), ⟨_, hT2, rfl, _, rfl⟩⟩
    have I1 := I.turnedNew (t' := tk + 1) (ch := [e, it]) (fun b ob hb q => (sb.2 b (fun z => hb (by simp [z]))).trans (hk b ob (fun z => hb (by simp [z])) (fun z => hb (by simp [z])) q)) hf (Nat.le_refl _) new
    refine ⟨.ref s.heap.objs.size, _, I1, rfl, ⟨_, x, rfl, I.hok.fresh (Nat.le_refl _), rfl, fun ys hy => by rw [I.tuple_inj hy hq]; exact hx⟩, ⟨⟨y, ?_⟩, hit'.1.at fun o q => (sb.2 it (Ne.symm hne)).trans q, hne⟩, fun b hb => ?_⟩
    · rw [show ((i + 1 : Nat) : Int) = (i : Int) + 1 by omega]; exact he'
    · have hb' : b < s.heap.objs.size := by
        rcases List.mem_cons.mp hb with z | z
        · rw [z]; exact hel
        · rw [List.mem_singleton.mp z]; exact hil
      rw [upd_ne (Nat.ne_of_lt hb')]
      exact (hf b hb).1
  done := by
    intro X hP hw hK hc i pins s σ H E I hf st hg
    subst hP hw hK
    obtain ⟨⟨old, he⟩, hit, hne⟩ := st
    obtain ⟨xs, hq, hx⟩ := hg
    obtain ⟨its, rv, p, hz⟩ := I.tuple hq
    obtain ⟨f0, f1, f2, f3, f4, f5⟩ := hf it (by simp)
    have hn : its.toArray[i]? = none := by
      rw [List.getElem?_toArray, List.getElem?_eq_none]
      rw [← rv.length]; exact hx
    exact enumT_end (I.ok.hd hc) he hit p hn fun h' eb => ⟨rfl, I.turned (t' := s.toks) (fun b o hb q => eb b o hb q) f0 f1 f3 f4 f5⟩
  self := fun A i s Q E ⟨⟨_, he⟩, _⟩ h => wpAny_pyIter_enum he h
theorem pi_enumT {X : Cx} {e : Expr} {ta : TA} {p pos tpos : Pos} {elts : List Expr} {kk : Nat} (hg : Gl X "enumerate") (hm : X.mg "enumerate" = none) (ha : PA X [e] ta) (hs : starEach [e] X.env = [(false, eval e X.env)] := by rfl) :
    PI X (.Tuple elts kk tpos) (.Call (.Name "enumerate" p) [e] [] pos) (fun σ H R => ta σ H fun vs H1 => ∃ a xs, vs = [.ref a] ∧ SqT X.K H1 a xs ∧ R (IteT X.K a) H1) := by
  refine ⟨fun pins s σ H R I h => Call_ (ld_blt I hg hm boot_enumerate (PyProof.Rows.callWith_type1 (thn (ha.run pos pins s σ H _ I h) fun us s1 hx => ?_) hs rfl))⟩
  obtain ⟨vs, H1, I1, r1, a, xs, ex, hq, q⟩ := hx
  subst ex
  obtain ⟨u, eu, ru⟩ := vals1 r1
  subst eu
  cases ru
  obtain ⟨its, rv, pt, hz⟩ := I1.tuple hq
  refine call_enumerate_tuple pt fun h' he hit hk => wpAny_pyIter_enum he ?_
  have I2 := I1.kept (t' := s1.toks) hk
  refine ⟨s1.heap.objs.size + 1, [s1.heap.objs.size + 1, s1.heap.objs.size], _, _, H1, rfl, I2, turn_enumT a (s1.heap.objs.size + 1) s1.heap.objs.size, ⟨⟨.none, he⟩, hit, Nat.succ_ne_self _⟩, fun b hb => ?_, q⟩
  have hle : s1.heap.objs.size ≤ b := by
    rcases List.mem_cons.mp hb with z | z
    · rw [z]; exact Nat.le_add_right _ _
    · rw [List.mem_singleton.mp z]; exact Nat.le_refl _
  exact I1.fpOk hle (I1.hok.fresh hle)
theorem walk_enumT {K : Frag} {H1 : Hp} {α1 : Al} {xs : List D} {a : Addr} {vs : List V} (h : ∀ H' α' S', After K α1 H1 α' H' S' → SqT K H' a vs ∧ RDs K H' α' xs vs) : Walk K H1 α1 (Ln.numbered 0 xs) (IteT K a) where
  go := fun i H' α' S' af hi => by
    obtain ⟨h1, h2⟩ := h H' α' S' af
    rw [numbered_len] at hi
    have : i < vs.length := by rw [← h2.length]; exact hi
    exact ⟨vs, vs[i], h1, List.getElem?_eq_getElem this⟩
  stop := fun i H' α' S' af hi => by
    obtain ⟨h1, h2⟩ := h H' α' S' af
    rw [numbered_len] at hi
    exact ⟨vs, h1, by rw [← h2.length]; exact Nat.le_of_eq hi.symm⟩
  yld := fun i H' α' S' d x H'' af hd hy => by
    obtain ⟨h1, h2⟩ := h H' α' S' af
    obtain ⟨T, p, rfl, hT, rfl, k1⟩ := hy
    obtain ⟨dx, e1, rfl⟩ := numbered_at hd
    obtain ⟨v, f1, f2⟩ := h2.get e1
    have := (k1 vs h1).symm.trans f1
    cases this
    rw [Nat.zero_add]
    exact new_wtp af.rs hT (.cons (.int _) (.cons f2 .nil))
theorem pi_or {X : Cx} {tg e : Expr} {t u : L2.TI} (h1 : PI X tg e t) (h2 : PI X tg e u) : PI X tg e (fun σ H R => t σ H R ∨ u σ H R) := ⟨fun pins s σ H R I h => h.elim (h1.run pins s σ H R I) (h2.run pins s σ H R I)⟩
/-- enumerate over a tuple: the text says which it is -/
theorem ji_enumT {X : Cx} {E : XS} {cf : Nat → List D → M D} {pos p tpos : Pos} {a : Expr} {ia : Ln.E} {kk : Nat} {elts : List Expr} (hg : Gl X "enumerate") (hm : X.mg "enumerate" = none) (ha : JE X E a (Ln.ev cf ia)) (hs : starEach [a] X.env = [(false, eval a X.env)] := by rfl) :
    JI X E (.Tuple elts kk tpos) (.Call (.Name "enumerate" p) [a] [] pos) (Ln.evi cf (.enumT ia)) :=
  pi_w (pi_enumT hg hm (pa_len (pa_cons ha pa_nil hs)) hs) fun σ H R ⟨ρ, α, S, rs, re, q⟩ => by
    simp only [Ln.evi] at q
    refine ⟨ρ, α, S, rs, re, q.bind.mono fun d S1 H1 α1 _ q v rd hl => ?_⟩
    have p1 := q.2
    unfold Ln.enumTK at p1
    split at p1
    · cases rd with
      | tup h rds =>
      have k := p1.ret q.1.rs (by have := hl _ _ (.inr h.sq); rw [numbered_len, rds.length]; exact this)
      exact ⟨_, _, rfl, h.sq, k _ (walk_enumT fun H' α' S' af => ⟨af.ext.sqT h.sq, af.rds rds⟩)⟩
    · exact p1.elim
end LnS

set_option linter.all false
set_option maxRecDepth 100000
/-! Ln: zip over lists and tuples, in any mixture. -/
namespace LnS
open PySem PySem.Spec L2 PyProof.Rows
open Ln (D O Store Rho M R Ex)
variable [Tbs]
def SqB (K : Frag) (t : Bool) (H : Hp) (a : Addr) (xs : List V) : Prop := match t with
  | true => SqT K H a xs
  | false => SqL K H a xs
def ItB (t : Bool) (h : Heap) (it a : Addr) (i : Nat) : Prop := match t with
  | true => h.IsTupleIter it a i
  | false => h.IsListIter it a i
def IsB (t : Bool) (h : Heap) (a : Addr) (its : Array Value) : Prop := match t with
  | true => h.IsTuple a its
  | false => h.IsList a its
theorem drawsB {P : Program} {w : World} {A : Around} (hh : A.handled = none) (t : Bool) (it l : Addr) (hne : l ≠ it) (items : Array Value) :
    Draws P w A it [it, l] items.size (fun i v => items[i]? = some v) (fun i h => ItB t h it l i ∧ IsB t h l items) := by
  cases t with
  | true => exact Draws.tuple hh it l hne items
  | false => exact Draws.list hh it l hne items
section
variable {X : Cx} {pins : List (Addr × Obj)} {σ : L2.St} {H : Hp} {s : Shared}
theorem Inv.sqB (I : Inv X pins σ H s) {t : Bool} {a : Addr} {xs : List V} (h : SqB X.K t H a xs) : ∃ its : List Value, Vals xs its ∧ IsB t s.heap a its.toArray ∧ a < s.heap.objs.size := by
  cases t with
  | true =>
    obtain ⟨its, r, p, _⟩ := I.tuple h
    obtain ⟨o, ho, _⟩ := id p
    exact ⟨its, r, p, Heap.lt_size ho⟩
  | false =>
    obtain ⟨its, r, p, _⟩ := I.list h
    exact ⟨its, r, p.isList, p.lt⟩
theorem Inv.sqB_inj (I : Inv X pins σ H s) {t : Bool} {a : Addr} {xs ys : List V} (h : SqB X.K t H a xs) (h' : SqB X.K t H a ys) : xs = ys := by
  cases t with
  | true => exact I.tuple_inj h h'
  | false => exact I.list_inj h h'
end
theorem ItB.at {t : Bool} {h h' : Heap} {it a : Addr} {i : Nat} (p : ItB t h it a i) (k : ∀ o, h.get? it = some o → h'.get? it = some o) : ItB t h' it a i := by
  cases t with
  | true => exact Heap.IsTupleIter.at p k
  | false => exact Heap.IsListIter.at p k
theorem ItB.obj {t : Bool} {h : Heap} {it a : Addr} {i : Nat} (p : ItB t h it a i) : ∃ o, h.get? it = some o ∧ ∃ vs, o.data = .fields vs := by
  cases t with
  | true => obtain ⟨o, h1, _, h3⟩ := p; exact ⟨o, h1, _, h3⟩
  | false => obtain ⟨o, h1, _, h3⟩ := p; exact ⟨o, h1, _, h3⟩
def newIt (t : Bool) (a : Addr) : Obj := match t with
  | true => { cls := .type "tuple_iterator", data := .fields #[.ref a, .int 0 0] }
  | false => { cls := .type "list_iterator", data := .fields #[.ref a, .int 0 0] }
theorem beginsB (t : Bool) (a : Addr) (items : Array Value) : Begins (.ref a) (newIt t a) fun h => IsB t h a items := by
  cases t with
  | true => exact begins_tuple a items
  | false => exact begins_list a items
theorem newIt_it {t : Bool} {h : Heap} {it a : Addr} (e : h.get? it = some (newIt t a)) : ItB t h it a 0 := by
  cases t with
  | true => exact ⟨_, e, rfl, rfl⟩
  | false => exact ⟨_, e, rfl, rfl⟩
/-- the items of a and b as they stand at each turn, in new pairs -/
def ItzB (K : Frag) (t u : Bool) (a b : Addr) : It :=
  ⟨fun i H => ∃ (xs ys : List V) (x y : V), SqB K t H a xs ∧ SqB K u H b ys ∧ xs[i]? = some x ∧ ys[i]? = some y,
    fun i H v H' => ∃ T x y, v = .ref T ∧ H T = none ∧ H' = upd H T (.tup [x, y]) ∧ (∀ xs, SqB K t H a xs → xs[i]? = some x) ∧ ∀ ys, SqB K u H b ys → ys[i]? = some y,
    fun i H => ∃ xs ys : List V, SqB K t H a xs ∧ SqB K u H b ys ∧ i ≤ xs.length ∧ i ≤ ys.length ∧ (xs.length ≤ i ∨ ys.length ≤ i)⟩
theorem sep_of {z TI TO i1 i2 a b : Addr} (D : ZipApart z TI TO i1 i2 a b) : ZipSep2 z TI TO i1 i2 [i1, a] [i2, b] where
  TIz := D.TIz
  TOz := D.TOz
  TITO := D.TITO
  TIi1 := D.TIi1
  mem1 := by simp
  zf1 := by simp [D.i1z.symm, D.l1z.symm]
  Tf1 := by simp [D.TOi1, D.l1TO.symm]
  TIi2 := D.TIi2
  mem2 := by simp
  zf2 := by simp [D.i2z.symm, D.l2z.symm]
  Tf2 := by simp [D.TOi2, D.l2TO.symm]
  sep1_2 := by simp [D.i12, D.l2i1.symm]
  sep2_1 := by simp [D.i12.symm, D.l1i2.symm]
theorem turn_zipB {P : Program} {w : World} {K : Frag} {elts : List Expr} {kk : Nat} {tpos : Pos} {t u : Bool} {a b z TI TO i1 i2 : Addr} (D : ZipApart z TI TO i1 i2 a b) :
    Turn P w K (.Tuple elts kk tpos) (ItzB K t u a b) [z, TI, TO, i1, i2] z (fun i h => IsZip h z TI TO .none ∧ IsTupOf2 h TI (.ref i1) (.ref i2) ∧ (∃ x y, IsTupOf2 h TO x y) ∧ ItB t h i1 a i ∧ ItB u h i2 b i) where
  mem := by simp
  obj := fun i h st c hc => by
    obtain ⟨hz, hTI, ⟨x, y, hTO⟩, h1, h2⟩ := st
    obtain ⟨o1, e1, _, d1⟩ := h1.obj
    obtain ⟨o2, e2, _, d2⟩ := h2.obj
    have e' : c = z ∨ c = TI ∨ c = TO ∨ c = i1 ∨ c = i2 := by simpa using hc
    rcases e' with q | q | q | q | q
    · rw [q]; exact ⟨_, hz, fun v q => nomatch q⟩
    · rw [q]; exact ⟨_, hTI, fun v q => nomatch q⟩
    · rw [q]; exact ⟨_, hTO, fun v q => nomatch q⟩
    · rw [q]; exact ⟨o1, e1, fun v q => by rw [d1] at q; cases q⟩
    · rw [q]; exact ⟨o2, e2, fun v q => by rw [d2] at q; cases q⟩
  keep := fun i h h' st k => by
    obtain ⟨hz, hTI, ⟨x, y, hTO⟩, h1, h2⟩ := st
    exact ⟨k z (by simp) _ hz, k TI (by simp) _ hTI, ⟨x, y, k TO (by simp) _ hTO⟩, h1.at fun o q => k i1 (by simp) o q, h2.at fun o q => k i2 (by simp) o q⟩
  item := by
    intro X hP hw hK hc i pins s σ H E I hf st hg
    subst hP hw hK
    obtain ⟨hz, hTI, ⟨x0, y0, hTO⟩, h1, h2⟩ := st
    obtain ⟨xs, ys, x, y, hqx, hqy, hx, hy⟩ := hg
    obtain ⟨its, rv, p, _⟩ := Inv.sqB I hqx
    obtain ⟨its2, rv2, p2, _⟩ := Inv.sqB I hqy
    obtain ⟨v1, hu, ru⟩ := rv.get hx
    obtain ⟨v2, hu2, ru2⟩ := rv2.get hy
    have hzl : z < s.heap.objs.size := Heap.lt_size hz
    have l1 : i < its.toArray.size := by have := (List.getElem?_eq_some_iff.mp hu).1; simpa using this
    have l2 : i < its2.toArray.size := by have := (List.getElem?_eq_some_iff.mp hu2).1; simpa using this
    have hh : X.A.in1.handled = none := I.ok.hd hc
    refine wpAny_pyNext_zipD2_item (sep_of D) (drawsB hh t i1 a D.l1i1 its.toArray) (drawsB hh u i2 b D.l2i2 its2.toArray) hz hTI hTO ⟨h1, p⟩ ⟨h2, p2⟩ l1 l2 fun w1 w2 h' tk y1 y2 z' TO' h1' h2' hT hsz hk => ?_
    obtain rfl : w1 = v1 := by have : its[i]? = some w1 := by simpa using y1
                               rw [hu] at this; exact (Option.some.inj this).symm
    obtain rfl : w2 = v2 := by have : its2[i]? = some w2 := by simpa using y2
                               rw [hu2] at this; exact (Option.some.inj this).symm
    refine ⟨_, rfl, wpAny_letOwnedTupleGo_zip (s := { s with heap := h', toks := tk }) z' fun h'' z'' sb => ?_⟩
    have hT2 : h''.get? s.heap.objs.size = some { cls := .type "tuple", data := .seq #[w1, w2] } := (sb.2 _ (Nat.ne_of_gt hzl)).trans hT
    have new : ObjOk X.prog X.w (upd H s.heap.objs.size (.tup [x, y])) h'' s.heap.objs.size (.tup [x, y]) :=
      ⟨by show 2 ≤ sizeLine; decide, [w1, w2], .cons ru (.cons ru2 .nil), ⟨_, hT2, rfl, _, rfl⟩⟩
    have I1 : Inv X pins σ (upd H s.heap.objs.size (.tup [x, y])) { s with heap := h'', toks := tk } :=
      I.turnedNew (t' := tk) (ch := [z, TI, TO, i1, i2]) (fun c o hb q => (sb.2 c (fun q' => hb (by simp [q']))).trans (hk c o (fun q' => hb (by simp [q'])) (fun q' => hb (by simp [q'])) (fun q' => hb (by simp [q'])) (fun q' => hb (by simp [q'])) q)) hf (Nat.le_refl _) new
    refine ⟨.ref s.heap.objs.size, _, I1, rfl, ⟨_, x, y, rfl, I.hok.fresh (Nat.le_refl _), rfl, fun l hl => by rw [Inv.sqB_inj I hl hqx]; exact hx, fun l hl => by rw [Inv.sqB_inj I hl hqy]; exact hy⟩, ⟨z'', ?_, ⟨w1, w2, ?_⟩, ?_, ?_⟩, fun c hcm => ?_⟩
    · exact (sb.2 _ D.TIz).trans (hk _ _ D.TIz D.TITO D.TIi1 D.TIi2 hTI)
    · exact (sb.2 _ D.TOz).trans TO'
    · exact h1'.1.at fun o q => (sb.2 _ D.i1z).trans q
    · exact h2'.1.at fun o q => (sb.2 _ D.i2z).trans q
    · have hlt : c < s.heap.objs.size := by
        obtain ⟨_, e1, _⟩ := h1.obj
        obtain ⟨_, e2, _⟩ := h2.obj
        have e' : c = z ∨ c = TI ∨ c = TO ∨ c = i1 ∨ c = i2 := by simpa using hcm
        rcases e' with q | q | q | q | q
        · rw [q]; exact hzl
        · rw [q]; exact Heap.lt_size hTI
        · rw [q]; exact Heap.lt_size hTO
        · rw [q]; exact Heap.lt_size e1
        · rw [q]; exact Heap.lt_size e2
      rw [upd_ne (Nat.ne_of_lt hlt)]
      exact (hf c hcm).1
  done := by
    intro X hP hw hK hc i pins s σ H E I hf st hg
    subst hP hw hK
    obtain ⟨hz, hTI, ⟨x0, y0, hTO⟩, h1, h2⟩ := st
    obtain ⟨xs, ys, hqx, hqy, le1, le2, hend⟩ := hg
    obtain ⟨its, rv, p, _⟩ := Inv.sqB I hqx
    obtain ⟨its2, rv2, p2, _⟩ := Inv.sqB I hqy
    have l1 := rv.length
    have l2 := rv2.length
    have hh : X.A.in1.handled = none := I.ok.hd hc
    exact wpAny_pyNext_zipD2_end (sep_of D) (drawsB hh t i1 a D.l1i1 its.toArray) (drawsB hh u i2 b D.l2i2 its2.toArray) hz hTI hTO ⟨h1, p⟩ ⟨h2, p2⟩ (by simp; omega) (by simp; omega) (by simp; omega) fun h' tk hk => ⟨rfl, I.turnedL (t' := tk) (ch := [z, TI, TO, i1, i2]) (fun c o hb q =>
      hk c o (fun q' => hb (by simp [q'])) (fun q' => hb (by simp [q'])) (fun q' => hb (by simp [q'])) (fun q' => hb (by simp [q'])) q) hf⟩
  self := fun A i s Q E st h => wpAny_pyIter_zip st.1 h
def iZipB (K : Frag) (ta : TA) : L2.TI := fun σ H R => ta σ H fun vs H1 => ∃ t u a b xs ys, vs = [.ref a, .ref b] ∧ SqB K t H1 a xs ∧ SqB K u H1 b ys ∧ R (ItzB K t u a b) H1
theorem pi_zipB {X : Cx} {e e2 : Expr} {ta : TA} {p pos tpos : Pos} {elts : List Expr} {kk : Nat} (hg : Gl X "zip") (hm : X.mg "zip" = none) (ha : PA X [e, e2] ta)
    (hs : starEach [e, e2] X.env = (false, eval e X.env) :: starEach [e2] X.env := by rfl) (hpl : (backTo pos (starEach [e2] X.env)).any (·.1) = false := by rfl) :
    PI X (.Tuple elts kk tpos) (.Call (.Name "zip" p) [e, e2] [] pos) (iZipB X.K ta) := by
  refine ⟨fun pins s σ H R I h => ?_⟩
  refine Call_ (ld_blt I hg hm PyProof.Rows.boot_zip (PyProof.Rows.callWith_type1 (thn (ha.run pos pins s σ H _ I h) fun us s1 ⟨vs, H1, I1, r1, q1⟩ => ?_) hs hpl))
  obtain ⟨t, u, a, b, xs, ys, ex, hqx, hqy, q⟩ := q1
  subst ex
  cases r1 with
  | cons r rr =>
    cases rr with
    | cons r' rr =>
      cases rr
      cases r
      cases r'
      have fresh5 : ∀ c, c ∈ [s1.heap.objs.size + 4, s1.heap.objs.size + 2, s1.heap.objs.size + 3, s1.heap.objs.size, s1.heap.objs.size + 1] → FpOk X pins H1 c := fun c hcm => by
        have e' : c = s1.heap.objs.size + 4 ∨ c = s1.heap.objs.size + 2 ∨ c = s1.heap.objs.size + 3 ∨ c = s1.heap.objs.size ∨ c = s1.heap.objs.size + 1 := by simpa using hcm
        have hle : s1.heap.objs.size ≤ c := by
          rcases e' with z | z | z | z | z
          · rw [z]; exact Nat.le_add_right _ _
          · rw [z]; exact Nat.le_add_right _ _
          · rw [z]; exact Nat.le_add_right _ _
          · rw [z]; exact Nat.le_refl _
          · rw [z]; exact Nat.le_add_right _ _
        exact I1.fpOk hle (I1.hok.fresh hle)
      obtain ⟨its, rv, p1, lt1⟩ := Inv.sqB I1 hqx
      obtain ⟨its2, rv2, p2, lt2⟩ := Inv.sqB I1 hqy
      refine zip_begins2 (beginsB t a its.toArray) (beginsB u b its2.toArray) p1 p2 fun h' hz hTI hTO h1 h2 hsz hk => wpAny_pyIter_zip hz ?_
      have I2 : Inv X pins σ H1 { s1 with heap := h' } := I1.kept (t' := s1.toks) hk
      exact ⟨s1.heap.objs.size + 4, [s1.heap.objs.size + 4, s1.heap.objs.size + 2, s1.heap.objs.size + 3, s1.heap.objs.size, s1.heap.objs.size + 1], _, _, H1, rfl, I2, turn_zipB (PySem.W.ktu_apart s1.heap.objs.size a b lt1 lt2), ⟨hz, hTI, ⟨_, _, hTO⟩, newIt_it h1, newIt_it h2⟩, fresh5, q⟩
theorem walk_zipB {K : Frag} {H1 : Hp} {α1 : Al} {xs ys : List D} {t u : Bool} {a b : Addr} {vs ws : List V} (h : ∀ H' α' S', After K α1 H1 α' H' S' → SqB K t H' a vs ∧ RDs K H' α' xs vs ∧ SqB K u H' b ws ∧ RDs K H' α' ys ws) : Walk K H1 α1 (Ln.pairs xs ys) (ItzB K t u a b) where
  go := fun i H' α' S' af hi => by
    obtain ⟨h1, h2, h3, h4⟩ := h H' α' S' af
    rw [pairs_len] at hi
    have l2 := h2.length
    have l4 := h4.length
    exact ⟨vs, ws, vs[i]'(by omega), ws[i]'(by omega), h1, h3, List.getElem?_eq_getElem _, List.getElem?_eq_getElem _⟩
  stop := fun i H' α' S' af hi => by
    obtain ⟨h1, h2, h3, h4⟩ := h H' α' S' af
    rw [pairs_len] at hi
    have l2 := h2.length
    have l4 := h4.length
    exact ⟨vs, ws, h1, h3, by omega, by omega, by omega⟩
  yld := fun i H' α' S' d x H'' af hd hy => by
    obtain ⟨h1, h2, h3, h4⟩ := h H' α' S' af
    obtain ⟨T, p, q, rfl, hT, rfl, k1, k2⟩ := hy
    obtain ⟨dx, dy, e1, e2, rfl⟩ := pairs_at hd
    obtain ⟨v, f1, f2⟩ := h2.get e1
    obtain ⟨w, g1, g2⟩ := h4.get e2
    have := (k1 vs h1).symm.trans f1
    cases this
    have := (k2 ws h3).symm.trans g1
    cases this
    exact new_wtp af.rs hT (.cons f2 (.cons g2 .nil))
/-- a list's, a tuple's items, as zip sees them -/
theorem zip_at {K : Frag} {H : Hp} {α : Al} {d : D} {v : V} {xs : List D} (rd : RD K H α d v) (e : Ln.zipOf d = some xs) : ∃ t a vs, v = .ref a ∧ RDs K H α xs vs ∧ SqB K t H a vs ∧ ∀ {H' : Hp} {α' : Al} {S' : Store}, After K α H α' H' S' → SqB K t H' a vs := by
  unfold Ln.zipOf at e
  split at e
  · cases e
    cases rd with
    | tup h rds => exact ⟨true, _, _, rfl, rds, h.sq, fun af => af.ext.sqT h.sq⟩
  · cases e
    cases rd with
    | lst n h rds => exact ⟨false, _, _, rfl, rds, SqL.of h, fun af => af.ext.sqL n (SqL.of h)⟩
  · cases e
theorem SqB.any {K : Frag} {t : Bool} {H : Hp} {a : Addr} {xs : List V} (h : SqB K t H a xs) : SqL K H a xs ∨ SqT K H a xs := by
  cases t with
  | true => exact .inr h
  | false => exact .inl h
theorem ji_zip {X : Cx} {E : XS} {cf : Nat → List D → M D} {pos p tpos : Pos} {a b : Expr} {ia ib : Ln.E} {kk : Nat} {elts : List Expr} (hg : Gl X "zip") (hm : X.mg "zip" = none) (ha : JE X E a (Ln.ev cf ia)) (hb : JE X E b (Ln.ev cf ib)) (hs2 : starEach [b] X.env = (false, eval b X.env) :: starEach [] X.env := by rfl)
    (hs : starEach [a, b] X.env = (false, eval a X.env) :: starEach [b] X.env := by rfl) (hpl : (backTo pos (starEach [b] X.env)).any (·.1) = false := by rfl) :
    JI X E (.Tuple elts kk tpos) (.Call (.Name "zip" p) [a, b] [] pos) (Ln.evi cf (.zip ia ib)) :=
  pi_w (pi_zipB hg hm (pa_len (pa_cons ha (pa_cons hb pa_nil hs2) hs)) hs hpl) fun σ H R ⟨ρ, α, S, rs, re, q⟩ => by
    simp only [Ln.evi] at q
    refine ⟨ρ, α, S, rs, re, q.bind.mono fun d S1 H1 α1 _ q v rd => ?_⟩
    refine ⟨ρ, α1, S1, q.1.rs, q.1.re re, q.2.bind.mono fun d2 S2 H2 α2 _ q2 v2 rd2 => ?_⟩
    have rd' := q2.1.rd rd
    have p1 := q2.2
    unfold Ln.zipK at p1
    intro hl
    cases e1 : Ln.zipOf d with
    | none => rw [e1] at p1; exact p1.elim
    | some xs =>
    cases e2 : Ln.zipOf d2 with
    | none => rw [e1, e2] at p1; exact p1.elim
    | some ys =>
      rw [e1, e2] at p1
      obtain ⟨t, a, vs, rfl, rds, sq, ext⟩ := zip_at rd' e1
      obtain ⟨u, b, ws, rfl, rds2, sq2, ext2⟩ := zip_at rd2 e2
      have k := p1.ret q2.1.rs (by have := hl _ _ sq.any; rw [pairs_len, rds.length]; omega)
      exact ⟨t, u, _, _, _, _, rfl, sq, sq2, k _ (walk_zipB fun H' α' S' af => ⟨ext af, af.rds rds, ext2 af, af.rds rds2⟩)⟩
end LnS

set_option linter.all false
set_option maxRecDepth 100000
/-! Ln: defs by their bodies. -/
namespace LnS
open PySem L2 PyProof.Rows
open Ln (D O Store Rho M R Ex)
variable [Tbs]

theorem re_start {K : Frag} {H : Hp} {α : Al} {ds : List D} {vs : List V} (r : RDs K H α ds vs) (n : Nat) : RE K H α (ds.map some ++ List.replicate (n - ds.length) none) (vs.map some ++ List.replicate (n - vs.length) none) := by
  have hl := r.length
  refine ⟨by simp only [List.length_append, List.length_map, List.length_replicate]; omega, fun i d h => ?_⟩
  by_cases hi : i < ds.length
  · rw [List.getElem?_append_left (by rw [List.length_map]; exact hi), List.getElem?_map] at h
    cases e : ds[i]? with
    | none => rw [e] at h; cases h
    | some x =>
      rw [e] at h; cases h
      obtain ⟨v, e1, e2⟩ := r.get e
      exact ⟨v, by rw [List.getElem?_append_left (by rw [List.length_map]; omega), List.getElem?_map, e1]; rfl, e2⟩
  · rw [List.getElem?_append_right (by rw [List.length_map]; omega)] at h
    have := List.mem_of_getElem? h
    rw [List.mem_replicate] at this
    cases this.2
theorem RDs.split {K : Frag} {H : Hp} {α : Al} : ∀ {ds : List D} {vs : List V} (n : Nat), RDs K H α ds vs → RDs K H α (ds.take n) (vs.take n) ∧ RDs K H α (ds.drop n) (vs.drop n)
  | _, _, 0, r => ⟨.nil, r⟩
  | _, _, _ + 1, .nil => ⟨.nil, .nil⟩
  | _, _, n + 1, .cons a r => ⟨.cons a (RDs.split n r).1, (RDs.split n r).2⟩

/-- the def's code object -/
def CodeK (K : Frag) (f : Addr) (cdv : Value) : Prop := ∃ (oc : Value) (od : Option Addr) (fd : FuncData) (osl : Array (Option Value)), K.lookup f = some ⟨oc, od, .func fd, osl⟩ ∧ fd.code = cdv
/-- a body's promise, told of the evaluator's level -/
def BodyJ (P : Program) (w : World) (K : Frag) (cs : List Cls) (mg : Str → Option Value) (base : Heap) (k : Nat) (f : Addr) (qual : Str) (N : List Str) (st : Stmt) (m : Rho → M (Ln.Fl × Rho)) : Prop :=
  ∀ (cdv : Value) (A : Around) (outer : List Env) (s : Shared) (H : Hp) (E : XK), A.guards = some [] → Room (3 * k + 2) (A.deeper (envOfC qual (defScope st) s.heap.objs.size f cdv)) → CodeK K f cdv →
    JSs (cxOf (L2.CX P w) P w K mg base N qual (defScope st) f cdv A outer s H E) (xsOf K cs E) (defBody st) m
/-- in a def's body -/
theorem lnk_fn {P : Program} {w : World} {K : Frag} {mg : Str → Option Value} {base : Heap} {N : List Str} {qual : Str} {sc : Scope} {f : Addr} {cdv : Value} {A : Around} {outer : List Env} {s : Shared} {H : Hp} {E : XK} {cs : List Cls} :
    Lnk (cxOf (L2.CX P w) P w K mg base N qual sc f cdv A outer s H E) cs (xsOf K cs E) := ⟨⟨fun cls d _ H => E cls d H, takes_of rfl rfl rfl rfl, fun e S H α σ cls d h r => h cls d r⟩⟩
theorem own_fn {P : Program} {w : World} {K : Frag} {mg : Str → Option Value} {base : Heap} {N : List Str} {qual : Str} {sc : Scope} {f : Addr} {cdv : Value} {A : Around} {outer : List Env} {s : Shared} {H : Hp} {E : XK} :
    PassesOwn (model (cxOf (L2.CX P w) P w K mg base N qual sc f cdv A outer s H E).prog (cxOf (L2.CX P w) P w K mg base N qual sc f cdv A outer s H E).w) (cxOf (L2.CX P w) P w K mg base N qual sc f cdv A outer s H E).A (cxOf (L2.CX P w) P w K mg base N qual sc f cdv A outer s H E).env (cxOf (L2.CX P w) P w K mg base N qual sc f cdv A outer s H E).xe := passes_of rfl
/-- the level cf of calls answers for the defs at fs -/
structure Lev (P : Program) (w : World) (K : Frag) (cs : List Cls) (mg : Str → Option Value) (base : Heap) (fs : List Addr) (prog : List Ln.Fn) (wf k : Nat) : Prop where
  ok : ∀ (i : Nat) (f : Addr), fs[i]? = some f → FnG P w K mg base (L2.CX P w) (3 * k) f (spI K cs (Ln.callI prog wf k i))

section
variable {P : Program} {w : World} {K : Frag} {mg : Str → Option Value} {base : Heap} {k wf i : Nat} {f : Addr} {x qual : Str} {st : Stmt} {fd : FuncData} {N ps : List Str} {prog : List Ln.Fn} {fn : Ln.Fn} {cs : List Cls}
theorem body_run {E : XS} {H2 : Hp} {vs : List V} {as : List D} {α : Al} {S : Store} {Q : VK} {X : Cx} (hX : X.K = K) (hs : fn.slots = N.length) (rs : RS K H2 α S) (rds : RDs K H2 α as vs)
    (p : Pst K E H2 α (Ln.runBody (Ln.callI prog wf k) wf fn as S) fun d _ H' α' => ∀ v, RD K H' α' d v → Q v H') :
    TSI X.K E (Ln.execs (Ln.callI prog wf k) wf fn.body) { nx := fun _ H' => Q .non H', rt := Q } (start N vs) H2 := by
  subst hX
  refine ⟨as.map some ++ List.replicate (fn.slots - as.length) none, α, S, rs, ?_, p.bind.mono fun q S1 H1 α1 _ ⟨a, q'⟩ σ' re' => ?_⟩
  · rw [hs]; exact re_start rds N.length
  · obtain ⟨fl, ρ'⟩ := q
    cases fl with
    | nx => exact q'.ret a.rs _ .non
    | rt d => exact q'.ret a.rs
    | bk => exact q'.elim
    | ct => exact q'.elim
theorem fnG_plain (F : Fun K x qual st f fd) (S : FnScope N ps (defScope st)) (hfn : prog[i]? = some fn) (h1 : fn.arity = ps.length) (h2 : fn.star = false) (h3 : fn.slots = N.length)
    (hb : ∀ (kV doc pm : Value) (an : Option Addr) (cdv ct : Value) (us : List Value), us.length = ps.length → bindArgs (PySem.W.fnOf x qual (defArgs st) (defBody st) (defScope st) .none kV doc pm an cdv ct) ⟨us, []⟩ = pure (ps.zip us))
    (B : BodyJ P w K cs mg base k f qual N st (Ln.execs (Ln.callI prog wf k) wf fn.body)) : FnG P w K mg base (L2.CX P w) (3 * (k + 1)) f (spI K cs (Ln.callI prog wf (k + 1) i)) := by
  obtain ⟨oc, od, kV, doc, pm, an, cdv, ct, osl, rfl, lk, hcd⟩ := F.ex
  intro A outer s H us vs Q E hr hG e0 r ⟨α, S0, ds, rs, rds, p⟩
  simp only [Ln.callI, hfn, Ln.bindA, h2, h1] at p
  by_cases hl : ds.length = ps.length
  · rw [if_neg Bool.false_ne_true, if_pos hl] at p
    have hlv : vs.length = ps.length := by rw [← rds.length]; exact hl
    have hlu : us.length = ps.length := by rw [← r.length]; exact hlv
    refine StX.run_bnd lk hcd S (show Room (3 * k + 2 + 1) A from hr) e0 (G := fun xs H2 => xs = vs ∧ H2 = H) (fun A' Ex Q' h => ?_) fun s2 H2 xs ⟨ex, eH⟩ hr' => ?_
    · rw [hb _ _ _ _ _ _ us hlu]
      exact wpAny_pure (h s H vs us e0 .refl rfl (fun _ _ z => z) r hlv ⟨rfl, rfl⟩)
    · subst ex eH
      exact ⟨_, (B cdv A outer s2 _ E hG hr' ⟨_, _, _, _, lk, rfl⟩), body_run rfl h3 rs rds p⟩
  · rw [if_neg Bool.false_ne_true, if_neg hl] at p
    exact p.elim
theorem fnG_star {pv : Str} (F : Fun K x qual st f fd) (S : FnScope N (ps ++ [pv]) (defScope st)) (hfn : prog[i]? = some fn) (h1 : fn.arity = ps.length) (h2 : fn.star = true) (h3 : fn.slots = N.length)
    (hb : ∀ (kV doc pm : Value) (an : Option Addr) (cdv ct : Value) (us rest : List Value), us.length = ps.length → bindArgs (PySem.W.fnOf x qual (defArgs st) (defBody st) (defScope st) .none kV doc pm an cdv ct) ⟨us ++ rest, []⟩ = (newTuple rest >>= fun t => pure (ps.zip us ++ [(pv, t)])))
    (B : BodyJ P w K cs mg base k f qual N st (Ln.execs (Ln.callI prog wf k) wf fn.body)) : FnG P w K mg base (L2.CX P w) (3 * (k + 1)) f (spI K cs (Ln.callI prog wf (k + 1) i)) := by
  obtain ⟨oc, od, kV, doc, pm, an, cdv, ct, osl, rfl, lk, hcd⟩ := F.ex
  intro A outer s H us vs Q E hr hG e0 r ⟨α, S0, ds, rs, rds, p⟩
  simp only [Ln.callI, hfn, Ln.bindA, h2, h1] at p
  by_cases hl : ps.length ≤ ds.length ∧ ds.length ≤ Ln.line
  · rw [if_pos trivial, if_pos hl] at p
    have hlv : ds.length = vs.length := rds.length
    obtain ⟨rd1, rd2⟩ := rds.split ps.length
    have ev : vs = vs.take ps.length ++ vs.drop ps.length := (List.take_append_drop _ _).symm
    rw [ev] at r
    obtain ⟨u1, u2, eu, r1, r2⟩ := StX.vals_split r
    subst eu
    have hw : (vs.take ps.length).length = ps.length := by rw [List.length_take]; omega
    have hl1 : u1.length = ps.length := by rw [← r1.length]; exact hw
    have hz : (vs.drop ps.length).length ≤ sizeLine := by rw [List.length_drop]; have : Ln.line = sizeLine := rfl; omega
    have hl2 : u2.length ≤ sizeLine := by rw [← r2.length]; exact hz
    have hn : H s.heap.objs.size = Option.none := e0.hok.fresh (Nat.le_refl _)
    refine StX.run_bnd lk hcd S (show Room (3 * k + 2 + 1) A from hr) e0 (G := fun xs H2 => ∃ (p : Addr) (o : Obj), o.dict = Option.none ∧ H p = Option.none ∧ xs = vs.take ps.length ++ [V.ref p] ∧ H2 = upd H p (.frz o (.tup (vs.drop ps.length)))) (fun A' Ex Q' h => ?_) fun s2 H2 xs ⟨q, o, ho, hp, ex, eH⟩ hr' => ?_
    · rw [hb _ _ _ _ _ _ u1 u2 hl1]
      refine wpAny_bind (wpAny_newTuple (wpAny_pure ?_) hl2)
      have new : ObjOk P w (upd H s.heap.objs.size (.frz (tupO u2) (.tup (vs.drop ps.length)))) (s.heap.push (tupO u2)) s.heap.objs.size (.frz (tupO u2) (.tup (vs.drop ps.length))) :=
        ⟨Heap.get?_push_size _ rfl, hz, u2, r2, ⟨_, Heap.get?_push_size _ rfl, rfl, _, rfl⟩⟩
      have un := StX.un_laid (fs := frs outer) (s := s) (o := tupO u2) (u := .frz (tupO u2) (.tup (vs.drop ps.length))) hn
      have z := h _ _ (vs.take ps.length ++ [V.ref s.heap.objs.size]) (u1 ++ [Value.ref s.heap.objs.size]) (StX.env0_laid e0 new) un rfl (fun e s' => StX.cxUp outer s H _ _ E e s' un (fun b o q => Heap.get?_push_of_some _ q) rfl) (r1.append (.cons rfl .nil))
        (by rw [List.length_append, List.length_append, hw] <;> rfl) ⟨_, _, rfl, hn, rfl, rfl⟩
      rw [List.zip_append hl1.symm] at z
      exact z
    · subst ex eH
      have af := After.new rs (o := .frz o (.tup (vs.drop ps.length))) hp
      exact ⟨_, (B cdv A outer s2 _ E hG hr' ⟨_, _, _, _, lk, rfl⟩), body_run rfl h3 af.rs ((af.rds rd1).append (.cons (.tup (.inl ⟨o, ho, upd_same⟩) (af.rds rd2)) .nil)) (p.move af)⟩
  · rw [if_pos trivial, if_neg hl] at p
    exact p.elim
end
end LnS

set_option linter.all false
set_option maxRecDepth 100000
/-! Ln: a law's head. -/
namespace LnS
open PySem PySem.Spec L2 PyProof.Rows
open Ln (D O Store Rho M R Ex)
variable [Tbs]

theorem rds_nums {K : Frag} {H : Hp} {α : Al} : ∀ ns : List Int, RDs K H α (ns.map D.int) (ns.map V.int)
  | [] => .nil
  | n :: ns => .cons (.int n) (rds_nums ns)

/-- a def's code object, its table, the name that the lambdas in it bear -/
abbrev Tb := Addr × Addr × Str
theorem law_callG {P : Program} {w : World} {K : Frag} {mg mb : Str → Option Value} {k : Nat} {fa a : Addr} {cs : List Cls} {g : List D → M D} {s₁ : Shared} {vs : List Value} {ns : List Int} {tabs : List Tb}
    (hTb : Tbs.tabs = tabs.map (·.2)) (hT : ∀ t ∈ tabs, PySem.W.CodeHd s₁.heap t.1 t.2.1 ∧ s₁.heap.get? t.2.1 = some (PySem.W.tabObj #[]) ∧ K.lookup t.2.1 = none)
    (hbm : ∃ bm ob, mg "__builtins__" = some (.ref bm) ∧ bm ≠ builtinsNs ∧ s₁.heap.get? bm = some ob ∧ ob.cls = .type "module" ∧ ob.dict = some builtinsNs ∧ ob.data = .plain)
    (KX : K.In s₁.heap) (hns : s₁.heap.Ns mainGlobals mg) (hb : s₁.heap.Ns builtinsNs mb) (hbb : ∀ x : Str, x ≠ "__name__" → mb x = bootBuiltins x) (hlim : s₁.heap.NoLimit) (hg : s₁.gens = #[])
    (ha : s₁.heap.get? a = some { cls := .type "list", data := .seq vs.toArray }) (hi : IntsAre vs ns) (hl : ns.length ≤ sizeLine) (hr : Room k callerA) (hK1 : K.lookup sysModules = none) (hm : ∃ mm, s₁.heap.Ns sysModules mm)
    (F : ∀ base : Heap, K.In base → base.Ns mainGlobals mg → (∀ t ∈ tabs, LamX.TabB base mg t.1 t.2.1) → FnG P w K mg base (L2.CX P w) k fa (spI K cs g))
    (hsp : ∃ S', g [.frz (ns.map D.int)] [] = .ok (.bl true) S') :
    codeAny (model P w) callerA (.call (.ref fa) ⟨[.ref a], []⟩) (fun r s' => r = .ok (.ret (.bool true)) ∧ OldK s₁.heap s'.heap ∧ s'.os = s₁.os ∧ AllBare s'.gens) s₁ := by
  have rv := vals_ints hi
  have lenV := hi.length
  obtain ⟨mm, o1, es1, ep1, hM1, hM2, hM3⟩ := hm
  have a1 : a ≠ sysModules := fun z => by
    rw [z, hM1] at ha; cases ha
    cases hM2
  let φ : Heap → Prop := fun h => h.get? sysModules = some o1
  let PS : List Addr := tabs.map fun t => t.2.1
  have atP : ∀ b ∈ PS, s₁.heap.get? b = some (PySem.W.tabObj #[]) ∧ K.lookup b = none := fun b hb => by
    obtain ⟨t, ht, rfl⟩ := List.mem_map.mp hb
    exact (hT t ht).2
  have notP : ∀ {b : Addr} {o : Obj}, s₁.heap.get? b = some o → o.cls ≠ .none → b ∉ PS := fun {b o} e n hb => by
    rw [(atP b hb).1] at e; cases e
    exact n rfl
  have aP : a ∉ PS := notP ha (by simp)
  have sP : sysModules ∉ PS := fun z => by
    have := (atP _ z).1
    rw [hM1] at this; cases this
    cases hM2
  let H : Hp := fun b => if b = sysModules then some (.ext φ) else if b ∈ PS then some (.tbl #[]) else if b = a ∧ K.lookup a = none then some (.frz { cls := .type "list", data := .seq vs.toArray } (.lst (ns.map V.int))) else none
  have hS1 : H sysModules = some (.ext φ) := if_pos rfl
  have hSt : ∀ b ∈ PS, H b = some (.tbl #[]) := fun b hb => (if_neg (fun z : b = sysModules => sP (z ▸ hb))).trans (if_pos hb)
  have hO : ∀ b, b ≠ sysModules → b ∉ PS → H b = none ∨ (b = a ∧ K.lookup a = none ∧ H b = some (.frz { cls := .type "list", data := .seq vs.toArray } (.lst (ns.map V.int)))) := fun b n1 n2 => by
    by_cases h : b = a ∧ K.lookup a = none
    · exact .inr ⟨h.1, h.2, (if_neg n1).trans ((if_neg n2).trans (if_pos h))⟩
    · exact .inl ((if_neg n1).trans ((if_neg n2).trans (if_neg h)))
  have none_ : ∀ {b : Addr} {o : Obj}, s₁.heap.get? b = some o → o.cls ≠ .none → b ≠ sysModules → o.cls ≠ .type "list" → H b = none := fun {b o} e n1 n2 n3 => by
    rcases hO b n2 (notP e n1) with h | ⟨h, _, _⟩
    · exact h
    · rw [h, ha] at e; cases e
      exact absurd rfl n3
  have noA : ∀ {b : Addr} {o : Obj} {es : Array DictEntry} {ep : Nat}, b ≠ sysModules → s₁.heap.get? b = some o → o.data = .dict es ep → H b = none := fun {b o es ep} nb e d => by
    have nP : b ∉ PS := fun hb => by
      rw [(atP b hb).1] at e; cases e
      cases d
    rcases hO b nb nP with h | ⟨h, _, _⟩
    · exact h
    · rw [h, ha] at e; cases e
      cases d
  have base_of : ∀ {b : Addr} {o : Obj}, s₁.heap.get? b = some o → H b = none → (hidT s₁.heap H).get? b = some o := fun e n => hidT_get e n
  have nsK : ∀ {b : Addr} {m : Str → Option Value}, b ≠ sysModules → s₁.heap.Ns b m → (hidT s₁.heap H).Ns b m := fun {b m} nb ⟨o, es, ep, e, d, r⟩ => ⟨o, es, ep, base_of e (noA nb e d), d, r⟩
  have hok : HOk P w H s₁.heap := fun b u z => by
    by_cases hs : b = sysModules
    · subst hs
      rw [hS1] at z; cases z
      exact ⟨hM1, ⟨o1, hM1⟩, fun h1 h2 p k => k _ p⟩
    · by_cases hp : b ∈ PS
      · rw [hSt b hp] at z; cases z
        exact (atP b hp).1
      · rcases hO b hs hp with h | ⟨h1, _, h2⟩
        · rw [h] at z; cases z
        · rw [h2] at z; cases z
          subst h1
          exact ⟨ha, by rw [List.length_map]; exact hl, vs, _, rv, ha⟩
  have hS : Frz K H ⟨[], [], [], []⟩ a (ns.map V.int) := by
    cases hk : K.lookup a with
    | some o =>
      have e := KX a o hk
      rw [ha] at e
      cases e
      exact .inr ⟨_, vs.toArray, _, hk, rfl, rfl, rfl, by rw [List.size_toArray, lenV]; exact hl, by simpa using rv⟩
    | none =>
      rcases hO a a1 aP with h | ⟨_, _, h⟩
      · have z : H a = some _ := (if_neg a1).trans ((if_neg aP).trans (if_pos ⟨rfl, hk⟩))
        rw [h] at z; cases z
      · exact .inl ⟨by rintro (z | z) <;> simp at z, .inr ⟨_, h⟩⟩
  have hKb : K.In (hidT s₁.heap H) := fun b o e => base_of (KX b o e) (by
    by_cases hs : b = sysModules
    · subst hs
      rw [hK1] at e; cases e
    · by_cases hp : b ∈ PS
      · rw [(atP b hp).2] at e; cases e
      · rcases hO b hs hp with h | ⟨h1, h2, _⟩
        · exact h
        · rw [h1, h2] at e; cases e)
  have hMd : Mod K mg (hidT s₁.heap H) := ⟨hKb, nsK (by decide) hns, ⟨mb, nsK (by decide) hb, hbb⟩, let ⟨mc, h1, h2⟩ := hlim; ⟨mc, nsK (by decide) h1, h2⟩⟩
  have e0 : Env0 P w K mg (hidT s₁.heap H) callerA [] s₁ H := ⟨rfl, hMd, fun b o e => of_hidT e, Nat.le_of_eq (hidT_size _ _), trivial, fun b hb => absurd (show b ∈ ([] : List Addr) from hb) (by simp), hok, .of_eq hg⟩
  have tb : ∀ t ∈ tabs, LamX.TabB (hidT s₁.heap H) mg t.1 t.2.1 := fun t ht => by
    have hP : t.2.1 ∈ PS := List.mem_map_of_mem ht
    obtain ⟨⟨o, v1, file, tf, flags, tg, inF, text, tt, e, c1, c2, r⟩, hp, _⟩ := hT t ht
    obtain ⟨bm, ob, b1, b2, b3, b4, b5, b6⟩ := hbm
    obtain ⟨oG, esG, epG, eG, dG, _⟩ := hns
    have nd : ∀ {b : Addr} {o : Obj}, s₁.heap.get? b = some o → (∀ es ep, o.data ≠ .dict es ep) → b ≠ sysModules := fun {b o} e n z => by
      rw [z, hM1] at e; cases e
      exact n _ _ hM2
    refine ⟨⟨o, v1, file, tf, flags, tg, inF, text, tt, base_of e (none_ e (by rw [c1]; simp) (nd e fun es ep z => by rw [c2] at z; cases z) (by rw [c1]; simp)), c1, c2, r⟩, ⟨bm, ob, b1, b2, fun z => ?_, fun z => ?_, base_of b3 (none_ b3 (by rw [b4]; simp) (nd b3 fun es ep z => by rw [b6] at z; cases z) (by rw [b4]; simp)), b4, b5, b6⟩, fun z => ?_⟩
    · rw [z, eG] at b3; cases b3
      rw [dG] at b6; cases b6
    · rw [z, hp] at b3; cases b3
      cases b6
    · rw [← z, eG] at hp; cases hp
      cases dG
  have sp : spI K cs g [.ref a] H (fun v H' => v = .bl true ∧ H' sysModules = some (.ext φ) ∧ ∀ b ∈ PS, ∃ ps, H' b = some (.tbl ps)) fun _ _ _ => False := by
    refine ⟨⟨[], [], [], []⟩, [], [.frz (ns.map D.int)], ⟨⟨⟨φ, hS1⟩, ?_⟩, rfl, List.nodup_nil, fun _ h => absurd h (by simp), fun _ h => absurd h (by simp), fun n b o h => by simp at h, fun n b o h => by simp at h, fun _ h => absurd h (by simp)⟩, .cons (.frz hS (rds_nums ns)) .nil, ?_⟩
    · rw [hTb]
      intro p hp
      obtain ⟨t, ht, rfl⟩ := List.mem_map.mp hp
      exact LamX.TabS.nil (hSt _ (List.mem_map_of_mem ht))
    obtain ⟨S', e⟩ := hsp
    rw [e]
    intro H' α' af v rv
    cases rv
    refine ⟨rfl, af.ext.keep _ _ hS1 (fun z => absurd z (by simp)) (fun _ z => nomatch z), fun b hb => ?_⟩
    obtain ⟨t, ht, rfl⟩ := List.mem_map.mp hb
    obtain ⟨ps, e2, _⟩ := af.rs.sm.2 t.2 (by rw [hTb]; exact List.mem_map_of_mem ht)
    exact ⟨ps, e2⟩
  refine codeAny_mono (F _ hKb (nsK (by decide) hns) tb callerA [] s₁ H [.ref a] [.ref a] _ _ hr rfl e0 (.cons rfl .nil) sp) fun r s' h => ?_
  cases r with
  | error e =>
    obtain ⟨_, _, _, _, _, _, _, _, _, _, _, _, z⟩ := (show L2.CX P w [] H s₁ (fun _ _ _ => False) e s' from h)
    exact z.elim
  | ok fl =>
    cases fl with
    | next => exact False.elim h
    | brk => exact False.elim h
    | cont => exact False.elim h
    | ret u =>
      obtain ⟨v, H', os, bare, un, hok', r', q', q2, q3⟩ := h
      subst q'
      obtain rfl : u = Value.bool true := r'
      have kp : ∀ b o, b ∉ PS → s₁.heap.get? b = some o → s'.heap.get? b = some o := fun b o hp e => by
        by_cases hb1 : b = sysModules
        · subst hb1
          rw [hM1] at e; cases e
          obtain ⟨z, _⟩ := hok' _ _ q2
          exact z
        · rcases hO b hb1 hp with q | ⟨_, _, q⟩
          · exact un.keep b o e q (by intro z; exact absurd (show b ∈ ([] : List Addr) from z) (by simp)) (by simp)
          · have z2 := un.frzs b _ _ q
            obtain ⟨e1, _⟩ := hok b _ q
            obtain ⟨e2, _⟩ := hok' b _ z2
            rw [e] at e1; cases e1
            exact e2
      have gr : ∀ b ∈ PS, ∃ ps, s'.heap.get? b = some (PySem.W.tabObj ps) := fun b hb => by
        obtain ⟨ps, e⟩ := q3 b hb
        exact ⟨ps, hok' b _ e⟩
      refine ⟨rfl, ⟨fun b o e => ?_, fun b o e => ?_⟩, os, bare⟩
      · by_cases hp : b ∈ PS
        · obtain ⟨ps, e2⟩ := gr b hp
          have e3 := (atP b hp).1
          rw [e] at e3; cases e3
          obtain ⟨t, ht, rfl⟩ := List.mem_map.mp hp
          exact .inr (.inl ⟨((hT t ht).1.tab (hT t ht).2.1).isCodeTable, rfl, #[], ps, rfl, by rw [Array.empty_append]; exact e2⟩)
        · exact .inl (kp b o hp e)
      · by_cases hp : b ∈ PS
        · obtain ⟨ps, e2⟩ := gr b hp
          exact ⟨_, e2⟩
        · exact ⟨o, kp b o hp e⟩

omit [Tbs] in
theorem tabIn_of {K : Frag} {x : Str} {f c P : Addr} {oc oc2 : Value} {od od2 : Option Addr} {fd : FuncData} {sl sl2 : Array (Option Value)} {vs : Array Value} (h1 : PySem.W.nsIn K mainGlobals x = some (some (.ref f))) (h2 : K.lookup f = some ⟨oc, od, .func fd, sl⟩)
    (h3 : fd.code = .ref c) (h4 : K.lookup c = some ⟨oc2, od2, .fields vs, sl2⟩) (h5 : vs[11]? = some (.ref P)) : PySem.W.tabIn K x = some (c, P) := by
  unfold PySem.W.tabIn
  simp only [h1, h2, h3, h4, h5]
/-- the names of the defs that make lambdas, their tables -/
def TabsK (K : Frag) (q : Program) : List Str → List Tb → Prop
  | x :: xs, t :: ts => (PySem.W.tabIn K x = some (t.1, t.2.1) ∧ (∃ d, (recsOf q).find? (fun e => e.name == x) = some d) ∧ K.lookup t.2.1 = none) ∧ TabsK K q xs ts
  | _, [] => True
  | [], _ :: _ => False
theorem TabsK.at {K : Frag} {q : Program} : ∀ {xs : List Str} {ts : List Tb}, TabsK K q xs ts → ∀ t ∈ ts, ∃ x, PySem.W.tabIn K x = some (t.1, t.2.1) ∧ (∃ d, (recsOf q).find? (fun e => e.name == x) = some d) ∧ K.lookup t.2.1 = none
  | x :: _, _ :: _, h, _, .head _ => ⟨x, h.1⟩
  | _ :: _, _ :: _, h, t, .tail _ m => TabsK.at h.2 t m
  | [], _ :: _, h, _, _ => h.elim
  | _, [], _, _, m => nomatch m
omit [Tbs] in
theorem walk_ofG [T : Tbs] {l : PySem.W.OpenLaw} {n k : Nat} {q : Program} {loose : List Str} {XP : (Str → Option Value) → Heap → Prop} {YP : World → Heap → Prop} {d : DefRec} {K : Params → Frag} {cs : List Cls} {g : List D → M D} {tabs : List Tb}
    (tn : List Str) (hTb : Tbs.tabs = tabs.map (·.2)) (hT : ∀ w : World, TabsK (K w.params) q tn tabs)
    (hn : l.most = some n) (hn2 : n ≤ sizeLine) (hdf : d.params.defaults = []) (hr : Room k callerA) (himp : importsNone q = true)
    (hY : ∀ (w : World) (h : Heap), YP w h → (K w.params).In h) (hK1 : ∀ w : World, (K w.params).lookup sysModules = none)
    (F : ∀ (w : World) (mg : Str → Option Value) (fa : Addr) (h : Heap), (K w.params).In h → h.Ns mainGlobals mg → mg d.name = some (.ref fa) →
      ∀ base : Heap, (K w.params).In base → base.Ns mainGlobals mg → (∀ t ∈ tabs, LamX.TabB base mg t.1 t.2.1) → FnG l.prog w (K w.params) mg base (L2.CX l.prog w) k fa (spI (K w.params) cs g))
    (hsp : ∀ ns : List Int, ns.length ≤ n → (∀ i ∈ ns, Builtin.Int.intBits i ≤ 1048576) → ∃ S', g [.frz (ns.map D.int)] [] = .ok (.bl true) S') :
    PySem.W.WalkO q loose XP YP l.row.toRowW d [] (fun f vs => PySem.call f vs) := by
  refine Att.attach_callB hn hdf fun w s₀ s₁ mg mb fa o pm cd doc a vs ns G Y ho hd hcd hmg hobj hints hlen hbits hg => ?_
  have KX := hY w _ Y
  obtain ⟨mm, hm, _⟩ := (G.T.seer himp).mods
  refine law_callG hTb (fun t ht => ?_) G.T.bmain KX G.T.g G.T.b G.T.builtins G.T.nolimit hg hobj hints (Nat.le_trans hlen hn2) hr (hK1 w) ⟨mm, hm⟩ (F w mg fa _ KX G.T.g hmg) (hsp ns hlen hbits)
  obtain ⟨x, h1, ⟨d2, h2⟩, h3⟩ := (hT w).at t ht
  obtain ⟨h4, h5⟩ := PySem.W.tab_of G.T KX h2 h1
  exact ⟨h4, h5, h3⟩
end LnS
namespace LnS
open PySem L2
variable [Tbs]
theorem fn_at {P : Program} {w : World} {K : Frag} {mg : Str → Option Value} {base : Heap} {fs : List Addr} {prog : List Ln.Fn} {wf k i : Nat} {f fa : Addr} {x : Str} {cs : List Cls} (L : Lev P w K cs mg base fs prog wf k) (h : fs[i]? = some f) (h1 : mg x = some (.ref fa)) (h2 : mg x = some (.ref f)) :
    FnG P w K mg base (L2.CX P w) (3 * k) fa (spI K cs (Ln.callI prog wf k i)) := by
  rw [h1] at h2
  cases h2
  exact L.ok i _ h
end LnS

set_option linter.all false
set_option maxRecDepth 100000
/-! Ln: built-in names. -/
namespace LnS
open PySem
variable [Tbs]
theorem bt_len : bootBuiltins "len" = some (.builtin "len") := by decide +kernel
theorem bt_all : bootBuiltins "all" = some (.builtin "all") := by decide +kernel
theorem bt_any : bootBuiltins "any" = some (.builtin "any") := by decide +kernel
theorem bt_sum : bootBuiltins "sum" = some (.builtin "sum") := by decide +kernel
theorem bt_abs : bootBuiltins "abs" = some (.builtin "abs") := by decide +kernel
theorem bt_max : bootBuiltins "max" = some (.builtin "max") := by decide +kernel
theorem bt_min : bootBuiltins "min" = some (.builtin "min") := by decide +kernel
theorem bt_repr : bootBuiltins "repr" = some (.builtin "repr") := by decide +kernel
theorem bt_tuple : bootBuiltins "tuple" = some (.type "tuple") := by decide +kernel
theorem bt_list : bootBuiltins "list" = some (.type "list") := by decide +kernel
theorem bt_int : bootBuiltins "int" = some (.type "int") := by decide +kernel
theorem bt_bool : bootBuiltins "bool" = some (.type "bool") := by decide +kernel
theorem bt_str : bootBuiltins "str" = some (.type "str") := by decide +kernel
theorem bt_dict : bootBuiltins "dict" = some (.type "dict") := by decide +kernel
theorem bt_sorted : bootBuiltins "sorted" = some (.builtin "sorted") := by decide +kernel
end LnS

set_option linter.all false
set_option maxRecDepth 100000
/-! Ln: errors that are raised. -/
namespace LnS
open PySem PySem.Spec L2 PyProof.Rows
open Ln (D O Store Rho M R Ex)
variable [Tbs]
section
variable {X : Cx} {E : XS} {cf : Nat → List D → M D} {w i : Nat} {cs : List Cls} {p p2 pos pos' : Pos} {x m : Str} {j : Nat} {C : Addr}
/-- raise C("..") -/
theorem js_raiseT {B newId initId : String} {bmB : List Value} (lk : Lnk X cs E) (hc : X.calm = true) (hC : cs[i]? = some (C, none)) (F : ExcBaseFacts B newId initId bmB) (q : PySem.W.excIn X.K C bmB newId = true) (gC : X.mg x = some (.ref C)) (kC : PySem.W.keepIn X.K (.ref C) = true) (r : Raises X (.ref C)) (hg : Gl X x)
    (hdb : (x == ("__debug__" : Str)) = false := by decide) :
    JS X E (.Raise (some (.Call (.Name x p) [.Constant (.str m) j p2] [] pos)) none pos') (Ln.exec cf w (.raise i (.cst .non))) := by
  obtain ⟨W, tk, hW⟩ := lk.ex
  refine ps_w (ps_raise hc tk (pmk_own F q gC kC r hg hdb)) fun D σ H ⟨ρ, α, S, rs, re, p⟩ => ?_
  exact hW ⟨i, .non⟩ S H α σ (.ref C) none (p H α (.refl rs)) ⟨C, none, hC, rfl, rfl⟩
end
/-! ### a class over a built-in one, whose __init__ keeps a value -/
/-- what the written part says of it: f the value's name -/
structure OexB (K : Frag) (C : Addr) (bmB : List Value) (newId : String) (f : Str) : Prop where
  ini : PySem.W.excInitIn K C bmB newId = true
  ov : PySem.W.excOver K C bmB = true
  tk : PySem.W.takerIn K C f = some none
  hd : PySem.W.hasDictIn K C = true
  sa : PySem.W.findIn K (.ref C) "__setattr__" = some (some (.builtin "object.__setattr__"))
  exC : PySem.W.subIn K (.ref C) (.type "BaseException") = some true
  tyC : PySem.W.typeIn K (.ref C) = some (.type "type")
  kC : PySem.W.keepIn K (.ref C) = true
section
variable {X : Cx} {pins : List (Addr × Obj)} {σ : L2.St} {H : Hp} {s : Shared} {a C : Addr} {f : Str} {y : V} {u : Value} {E : Value → Shared → Prop} {A : Around} {B newId initId : String} {bmB : List Value}
/-- self.f = y, the first value that an error keeps -/
theorem keep_first {Q : Unit → Shared → Prop} (T : OexB X.K C bmB newId f) (SF : StoreFacts B bmB "object.__setattr__" "object") (I : Inv X pins σ H s) (e : H a = some (exo a C none)) (ry : RelV y u)
    (h : ∀ dx s', H dx = none → dx ≠ a → Inv X pins σ (upd (upd H dx (exd dx [(f, y)])) a (exo a C (some dx))) s' → Q () s') : wpAny (model X.prog X.w) A (setAttr (.ref a) f u) Q E s := by
  obtain ⟨t1, ho⟩ := exo_at I.hok e
  obtain ⟨hp, g, d, t, os⟩ := s
  obtain ⟨cd, hcd, hhd⟩ := PySem.W.any_some T.hd
  have J : PySem.W.InstAt hp a { cls := .ref C, dict := none, data := .fields #[.ref t1, .none, .none, .none, .bool false, .none] } C none := ⟨ho, rfl, rfl, trivial⟩
  refine PySem.W.set_plain I.kIn J T.sa ?_
  refine PySem.W.osa_openX SF I.kIn J T.ov T.tk fun b => ?_
  show wpAny _ _ (Builtin.ObjectAttr.storeInOwnDict (.ref a) (.ref C) (.str f t) f u b) _ _ _
  have hcls : PySem.W.Looks (model X.prog X.w) hp (classData C) cd := PySem.W.looks_clsIn I.kIn hcd
  have hxs : a ≠ hp.objs.size := Nat.ne_of_lt (Heap.lt_size ho)
  obtain ⟨nm, bs, mro, ns, qn, hdd, sn, sb, ab, col, del⟩ := cd
  dsimp only at hhd
  subst hhd
  have fin : ∀ (h' : Heap) (tk' : Nat), h'.Ns1 hp.objs.size (fun y => if y = f then some u else none) → (∀ b o, b ≠ a → hp.get? b = some o → h'.get? b = some o) → h'.get? a = some { cls := .ref C, dict := some hp.objs.size, data := .fields #[.ref t1, .none, .none, .none, .bool false, .none] } →
      Q () ⟨h', g, d, tk', os⟩ := fun h' tk' hn k hx => by
    have hnd : H hp.objs.size = none := I.hok.fresh (Nat.le_refl _)
    have old : ∀ {b : Addr} {o : Obj}, hp.get? b = some o → b ≠ hp.objs.size := fun q => Nat.ne_of_lt (Heap.lt_size q)
    have nota : ∀ {b : Addr}, H b = none → b ≠ a := fun {b} n z => by rw [z, e] at n; cases n
    refine h hp.objs.size _ hnd hxs.symm (I.un (t' := tk') ⟨fun b o q n _ _ => k b o (nota n) q, fun b o q n _ _ => ⟨o.slots, k b o (nota n) q⟩, fun b o q n _ => by rw [upd_ne (nota n), upd_ne (old q)]; exact n, fun b o q _ => ?_,
      fun b xs q => by rw [upd_ne (at_ne e q exo_tup), upd_ne (ne_of_none q hnd)]; exact q, fun b o v q => by rw [upd_ne (at_ne e q exo_frz), upd_ne (ne_of_none q hnd)]; exact q, fun b ps q => ⟨#[], by rw [upd_ne (at_ne e q exo_tbl), upd_ne (ne_of_none q hnd), q]; simp⟩⟩ fun b o q => ?_)
    · by_cases hb : b = a
      · exact ⟨_, by rw [hb]; exact hx⟩
      · exact ⟨o, k b o hb q⟩
    · by_cases hb : b = a
      · subst hb
        rw [upd_same] at q; cases q
        exact exo_ok hx
      · rw [upd_ne hb] at q
        by_cases hd : b = hp.objs.size
        · subst hd
          rw [upd_same] at q; cases q
          exact exd_ok hn (relO_put (fs := []) ry fun g => True.intro)
        · rw [upd_ne hd] at q
          exact (I.hok b o q).stay (fun c v hc z => k c v (by
              rcases hc with hc | hc
              · rw [hc]; exact hb
              · exact at_ne e hc exo_own) z)
            (fun c hc => by rw [upd_ne (at_ne e hc exo_own), upd_ne (ne_of_none hc hnd)]; exact hc) (fun c xs hc => by rw [upd_ne (at_ne e hc exo_tup), upd_ne (ne_of_none hc hnd)]; exact hc)
  unfold Builtin.ObjectAttr.storeInOwnDict Builtin.ObjectAttr.ownDictForStores
  repeat (first | with_reducible refine HandSPX.store_in_new ?_ ?_ | with_reducible refine wpAny_loadPart_at ho ?_ | with_reducible refine hcls.at ?_ | wp_step)
  · exact ⟨_, #[], _, (Heap.get?_update_ne _ _ _ _ hxs.symm).trans (Heap.get?_push_at rfl rfl), rfl, fun e he => absurd he (by simp), fun _ => rfl⟩
  · intro h' tk' hn' hs
    have hx1 : (hp.push { cls := .type "dict", data := .dict #[] }).get? a = some { cls := .ref C, dict := none, data := .fields #[.ref t1, .none, .none, .none, .bool false, .none] } := Heap.get?_push_of_some _ ho
    refine fin h' tk' hn' (fun b o hb q => ?_) ?_
    · exact (hs.2 b (Nat.ne_of_lt (Heap.lt_size q))).trans ((Heap.get?_update_ne _ _ _ _ hb).trans (Heap.get?_push_of_some _ q))
    · exact (hs.2 a hxs).trans (Heap.get?_update_self _ hx1 rfl)
end

/-- an __init__ that calls the base's and keeps its value -/
def iniS : Stmt → Stmt
  | .ClassDef (body := b) .. => b.getD 0 (.Pass ⟨0, 0, 0, 0⟩)
  | s => s
def tIni (C : Addr) : TE := fun σ H Q => ∃ a, σ[0]? = some (some (.ref a)) ∧ H a = some (exo a C none) ∧ Q .non H
def tKeep (C : Addr) (f : Str) : TS := fun D σ H => ∃ (a : Addr) (y : V), σ[0]? = some (some (.ref a)) ∧ σ[1]? = some (some y) ∧ H a = some (exo a C none) ∧
  ∀ dx, H dx = none → dx ≠ a → D.nx σ (upd (upd H dx (exd dx [(f, y)])) a (exo a C (some dx)))
def spIni (C : Addr) (f : Str) : Sp := fun vs H Q _ => ∃ (a : Addr) (y : V), vs = [.ref a, y] ∧ H a = some (exo a C none) ∧
  ∀ dx, H dx = none → dx ≠ a → Q .non (upd (upd H dx (exd dx [(f, y)])) a (exo a C (some dx)))
section
variable {X : Cx} {C : Addr} {f x sf m : Str} {j : Nat} {p p1 p2 p3 p4 p5 p6 p7 p8 q1 q2 : Pos} {B newId initId : String} {bmB : List Value} {Bs : Str}
theorem pe_ini {pl : Sem Bool} (T : OexB X.K C bmB newId f) (FB : ExcBaseFacts B newId initId bmB) (hg : Gl X Bs) (hm : X.mg Bs = none) (hbb : bootBuiltins Bs = some (.type B)) (hB : typeOf (.type B) = pure (.type "type")) (hst : Manifest.isStub B = false)
    (hfi : PySem.W.findCls X.K (.type B) (.type "type") "__init__" = some (.val (.builtin initId))) (hN : X.N[0]? = some sf) (hv : Vis X.env.scope sf)
    (hn : Bs ≠ "__name__" := by decide) (hd : (Bs == ("__debug__" : Str)) = false := by decide) (hh : PySem.W.handedIn (.builtin initId) = true := by decide +kernel)
    (hsd : (sf == ("__debug__" : Str)) = false := by decide) (hsc : (sf == ("__classdict__" : Str)) = false := by decide)
    (hc : eval (.Call (.Attribute (.Name Bs p1) "__init__" p2) [.Name sf q1, .Constant (.str m) j q2] [] p3) X.env = (do
      let ov ← eval (.Name Bs p1) X.env
      standAt p2.atName
      let (f, first) ← holding [ov] (getMethod ov "__init__" pl)
      callWith p3 f first (backTo p3 (starEach [.Name sf q1, .Constant (.str m) j q2] X.env)) (backToKw p3 (keywordEach [] X.env))) := by rfl) :
    PE X (.Call (.Attribute (.Name Bs p1) "__init__" p2) [.Name sf q1, .Constant (.str m) j q2] [] p3) (tIni C) := by
  refine ⟨fun pins s σ H Q I ⟨a, hs, e, q⟩ => ?_⟩
  refine PySem.W.methodCall_KW (ld_blt I hg hm hbb ?_ hn hd) hc
  obtain ⟨mF, frF⟩ := I.fr
  refine PySem.W.method_type frF I.ok.mod.kin hB hst hfi hh ?_
  show wpAny _ _ (callWith p3 (Value.builtin initId) [] (backTo p3 (starEach [.Name sf q1, .Constant (.str m) j q2] X.env)) []) _ _ _
  have hpa : PA X [.Name sf q1, .Constant (.str m) j q2] (tCons (tVar 0) (tCons (tC (.str m)) tNil)) := pa_cons (pe_var hN hv hsd hsc) (pa_cons pe_str pa_nil)
  refine PyProof.Rows.callWith_method1 (thn (hpa.run p3 pins _ σ H (fun vs H1 => vs = [V.ref a, V.str m] ∧ H = H1) (I.tok _) ⟨.ref a, hs, rfl, rfl⟩) fun us s1 hh1 => ?_) rfl rfl
  obtain ⟨vs, H1, I1, r1, ev, eH⟩ := hh1
  subst ev
  rw [← eH] at I1
  cases r1 with
  | cons ra r1 =>
    cases ra
    obtain ⟨nm, N', qn, bs, bm, hdct, sn, sub, ab, col, dd, k0, k1, k2, k3, k5, hC, hT⟩ := PySem.W.excInit_of I1.kIn T.ini
    obtain ⟨t1, ho⟩ := exo_at I1.hok e
    obtain ⟨hp, g, d, t, os⟩ := s1
    refine wpAny_call (PySem.HandSPX.init_base FB hT hC ho (by rw [← r1.length]; show 1 ≤ sizeLine; rw [sizeLine_eq]; omega) fun h' t2 k hx => ?_)
    have J := I1.write (t' := t) (x := a) (e := a) (o := exo a C none) (by rw [e]; exact True.intro) (.inl rfl) k ⟨_, hx⟩ (exo_ok hx)
    have eu : upd H a (exo a C none) = H := by
      funext b
      by_cases hb : b = a
      · rw [hb, upd_same, e]
      · rw [upd_ne hb]
    rw [eu] at J
    exact ⟨.non, H, J, rfl, q⟩
theorem ps_keep1 (T : OexB X.K C bmB newId f) (SF : StoreFacts B bmB "object.__setattr__" "object") (hN : X.N[0]? = some sf) (hN1 : X.N[1]? = some x) (hv : Vis X.env.scope sf) (hv1 : Vis X.env.scope x)
    (hsd : (sf == ("__debug__" : Str)) = false := by decide) (hsc : (sf == ("__classdict__" : Str)) = false := by decide) (hxd : (x == ("__debug__" : Str)) = false := by decide) (hxc : (x == ("__classdict__" : Str)) = false := by decide)
    (hs : swapsWith (.Name x p7) (some (.Attribute (.Name sf p5) f p6)) p8.line X.env = pure false := by rfl) :
    PS X (.Assign [.Attribute (.Name sf p5) f p6] (.Name x p7) p8) (tKeep C f) := by
  refine ⟨fun pins s σ H D I ⟨a, y, e0, e1, e, q⟩ => ?_⟩
  refine plainObj_wpAny_Assign_Attribute (thn ((pe_var hN1 hv1 hxd hxc).run pins s σ H (fun v H1 => v = y ∧ H = H1) I ⟨y, e1, rfl, rfl⟩) fun v s1 ⟨y', H1, I1, r1, ey, eH⟩ => ?_) hs
  subst ey
  rw [← eH] at I1
  refine thn ((pe_var hN hv hsd hsc).run pins s1 σ H (fun v H1 => v = .ref a ∧ H = H1) I1 ⟨.ref a, e0, rfl, rfl⟩) fun u s2 ⟨x', H2, I2, r2, ex, eH2⟩ => ?_
  subst ex
  rw [← eH2] at I2
  obtain rfl : u = Value.ref a := r2
  exact keep_first T SF I2 e r1 fun dx s' n ne J => ⟨σ, _, J, q dx n ne⟩
end

/-! ### an error with a value, made and raised -/
/-- the written part's facts of a class whose errors keep a value -/
structure OexF (P : Program) (w : World) (K : Frag) (mg : Str → Option Value) (base : Heap) (C : Addr) (x f : Str) (k : Nat) : Prop where
  ini : ∃ (B newId initId : String) (bmB : List Value) (fI : Addr) (fd : FuncData) (sf y : Str), OexB K C bmB newId f ∧ Nonempty (ExcBaseFacts B newId initId bmB) ∧ PySem.W.findIn K (.ref C) "__init__" = some (some (.ref fI)) ∧
    PySem.W.typeIn K (.ref fI) = some (.type "function") ∧ FnOk P w K mg base CX0 k fI fd [sf, y] (spIni C f) ∧ Binds K fd [sf, y] []
  nm : mg x = some (.ref C)
section
variable {P : Program} {w : World} {K : Frag} {mg : Str → Option Value} {base : Heap} {C fI : Addr} {f sf x m Bs qual : Str} {st : Stmt} {fd : FuncData} {j k : Nat} {p1 p2 p3 p4 p5 p6 p7 p8 q1 q2 : Pos} {B newId initId : String} {bmB : List Value}
theorem ini_fn (T : OexB K C bmB newId f) (FB : ExcBaseFacts B newId initId bmB) (SF : StoreFacts B bmB "object.__setattr__" "object") (F : Fun K "__init__" qual st fI fd) (S : FnScope [sf, x] [sf, x] (defScope st))
    (hb : defBody st = [.Expr (.Call (.Attribute (.Name Bs p1) "__init__" p2) [.Name sf q1, .Constant (.str m) j q2] [] p3) p4, .Assign [.Attribute (.Name sf p5) f p6] (.Name x p7) p8])
    (hg : (defScope st).names.lookup Bs = some .globalImplicit) (hm : mg Bs = none) (hbb : bootBuiltins Bs = some (.type B)) (hB : typeOf (.type B) = pure (.type "type")) (hst : Manifest.isStub B = false)
    (hfi : PySem.W.findCls K (.type B) (.type "type") "__init__" = some (.val (.builtin initId))) (hn : Bs ≠ "__name__") (hd : (Bs == ("__debug__" : Str)) = false) (hh : PySem.W.handedIn (.builtin initId) = true)
    (hsd : (sf == ("__debug__" : Str)) = false) (hsc : (sf == ("__classdict__" : Str)) = false) (hxd : (x == ("__debug__" : Str)) = false) (hxc : (x == ("__classdict__" : Str)) = false)
    (hc : ∀ env : Env, ∃ pl : Sem Bool, eval (.Call (.Attribute (.Name Bs p1) "__init__" p2) [.Name sf q1, .Constant (.str m) j q2] [] p3) env = (do
      let ov ← eval (.Name Bs p1) env
      standAt p2.atName
      let (f, first) ← holding [ov] (getMethod ov "__init__" pl)
      callWith p3 f first (backTo p3 (starEach [.Name sf q1, .Constant (.str m) j q2] env)) (backToKw p3 (keywordEach [] env))))
    (hsw : ∀ env : Env, swapsWith (.Name x p7) (some (.Attribute (.Name sf p5) f p6)) p8.line env = pure false) (hsw0 : ∀ env : Env, swapsWith (.Call (.Attribute (.Name Bs p1) "__init__" p2) [.Name sf q1, .Constant (.str m) j q2] [] p3) none p4.line env = pure false) :
    FnOk P w K mg base CX0 (k + 1) fI fd [sf, x] (spIni C f) := by
  refine F.ok S (fun vs H Q E ⟨a, y, e, _⟩ => by rw [e]; rfl) fun cdv A outer s H vs Q E hr ⟨a, y, e, e1, q⟩ => ?_
  subst e
  have vis : ∀ z ∈ [sf, x], Vis (defScope st) z := fun z hz => (S.par z hz).elim .inl fun k => .inr (.inl k)
  have hX0 : (cxOf CX0 P w K mg base [sf, x] qual (defScope st) fI cdv A outer s H E).nox.N[0]? = some sf := rfl
  have hX1 : (cxOf CX0 P w K mg base [sf, x] qual (defScope st) fI cdv A outer s H E).nox.N[1]? = some x := rfl
  rw [hb]
  obtain ⟨pl, hc⟩ := hc (cxOf CX0 P w K mg base [sf, x] qual (defScope st) fI cdv A outer s H E).nox.env
  refine ⟨_, pss_cons (ps_expr (pe_ini (pl := pl) (C := C) T FB hg hm hbb hB hst hfi hX0 (vis sf (by simp)) hn hd hh hsd hsc hc) (hsw0 _)) (pss_one (ps_keep1 T SF hX0 hX1 (vis sf (by simp)) (vis x (by simp)) hsd hsc hxd hxc (hsw _))), ?_⟩
  exact ⟨a, rfl, e1, a, y, rfl, rfl, e1, q⟩
end
section
variable {X : Cx} {C : Addr} {x f : Str} {k : Nat} {p pos : Pos} {e : Expr} {ta : TA}
theorem pmk_val (T : OexF X.prog X.w X.K X.mg X.base C x f k) (hr : Room (k + 1) X.A) (hg : Gl X x) (ha : PA X [e] ta) (hdb : (x == ("__debug__" : Str)) = false := by decide) (he : starEach [e] X.env = (false, eval e X.env) :: starEach [] X.env := by rfl) :
    PMk X (.Call (.Name x p) [e] [] pos) (fun σ H Q => ta σ H fun vs H1 => ∃ y, vs = [y] ∧ ∀ d, H1 d = none → Q (.ref C) (some d) (upd H1 d (.xd [(f, y)]))) := by
  intro pins s σ H Q I h
  obtain ⟨⟨B, newId, initId, bmB, fI, fd, sf, yy, T1, ⟨FB⟩, iC, tI, F1, hb⟩, hm⟩ := T
  refine wpAny_Call_Name_kw (ld_glob I hg hm ?_ hdb)
  refine PySem.W.callWith_K (h₀ := X.base) I.ok.mod.kin T1.kC (thn (ha.run pos pins s σ H _ I h) fun us s1 ⟨vs, H1, I1, r1, y, ey, q1⟩ => ⟨I1.kIn, ?_⟩) he rfl
  subst ey
  have hlen : us.length = 1 := by rw [← r1.length]; rfl
  show wpAny _ _ (call (.ref C) us) _ _ _
  obtain ⟨hp, g, dr, tk, os⟩ := s1
  obtain ⟨nm, N', qn, bs, bm, hdct, sn, sub, ab, col, dd, k0, k1, k2, k3, k5, hC, hT⟩ := PySem.W.excInit_of I1.kIn T1.ini
  obtain ⟨a, ea⟩ : ∃ a, a = hp.objs.size + 1 := ⟨_, rfl⟩
  have hsz : hp.objs.size ≤ a := by omega
  have fr : H1 a = none := I1.hok.fresh hsz
  obtain ⟨h2, e2⟩ : ∃ h2, h2 = (hp.push (PySem.W.kdv_tup us)).push (PySem.HandSPX.excO C hp.objs.size) := ⟨_, rfl⟩
  have kk : ∀ b o, hp.get? b = some o → h2.get? b = some o := fun b o z => by rw [e2]; exact Heap.get?_push_of_some _ (Heap.get?_push_of_some _ z)
  have at_a : h2.get? a = some (PySem.HandSPX.excO C hp.objs.size) := by subst e2 ea; heap_get
  have I2 : Inv X pins σ (upd H1 a (exo a C none)) ⟨h2, g, dr, tk, os⟩ := I1.laid (t' := tk) (a := a) (o := exo a C none) (h' := h2) kk hsz (exo_ok at_a)
  have r2 : Vals [V.ref a, y] (Value.ref a :: us) := .cons rfl r1
  have hz : us.length ≤ sizeLine := by rw [hlen, sizeLine_eq]; omega
  have bT : BindsTo ⟨h2, g, dr, tk, os⟩ fd ⟨Value.ref a :: us, []⟩ ([sf, yy].zip (Value.ref a :: us)) := by
    have z := hb ⟨h2, g, dr, tk, os⟩ (Value.ref a :: us) I2.kIn (by rw [List.append_nil, List.length_cons, hlen]; rfl)
    rw [List.append_nil] at z
    exact z
  have hcall := F1.run (X.A.under (.builtin "type.__call__" ⟨.ref C :: us, []⟩)) X.stack ⟨h2, g, dr, tk, os⟩ (upd H1 a (exo a C none)) ⟨Value.ref a :: us, []⟩ (Value.ref a :: us) [V.ref a, y]
    (fun v H3 => v = .non ∧ ∃ d, H1 d = none ∧ d ≠ a ∧ H3 = upd (upd (upd H1 a (exo a C none)) d (exd d [(f, y)])) a (exo a C (some d))) (fun _ _ _ => False) (hr.make C us []) (I2.env0.make C us []) bT r2
    ⟨a, y, rfl, upd_same, fun d n ne => ⟨rfl, d, by rw [upd_ne ne] at n; exact n, ne, rfl⟩⟩
  subst e2 ea
  refine wpAny_call (PySem.HandSPX.call_own FB hT hC (PySem.W.looks_findIn I1.kIn iC) (fun self => PySem.W.bind_fn I1.kIn self tI) hz (codeAny_mono hcall fun r s' z => ?_))
  match r, z with
  | .error er, z => exact (show False from z).elim
  | .ok (.ret u), z =>
    obtain ⟨v, H3, os3, bare3, un3, hok3, rv, ev, d, nd, da, eH3⟩ := z
    subst ev eH3
    obtain ⟨h3, g3, d3, t3, os'⟩ := s'
    have eE : upd (del (upd (upd (upd H1 (hp.objs.size + 1) (exo (hp.objs.size + 1) C none)) d (exd d [(f, y)])) (hp.objs.size + 1) (exo (hp.objs.size + 1) C (some d))) (hp.objs.size + 1)) d (.xd [(f, y)]) = upd H1 d (.xd [(f, y)]) := by
      funext b
      by_cases hb1 : b = d
      · rw [hb1, upd_same, upd_same]
      · rw [upd_ne hb1, upd_ne hb1]
        by_cases hb2 : b = hp.objs.size + 1
        · rw [hb2, del_same]; exact fr.symm
        · rw [del_ne hb2, upd_ne hb2, upd_ne hb1, upd_ne hb2]
    refine ⟨rv, mk_end (raises_own T1.exC T1.tyC) I1 hsz kk un3 hok3 os3 bare3 upd_same (by rw [upd_ne da, upd_same]) nd ?_⟩
    rw [eE]
    exact q1 d nd
  | .ok .next, z => exact False.elim z
  | .ok .brk, z => exact False.elim z
  | .ok .cont, z => exact False.elim z
end
section
variable {X : Cx} {E : XS} {cf : Nat → List D → M D} {w i k : Nat} {cs : List Cls} {p pos pos' : Pos} {x f : Str} {C : Addr} {e : Expr} {ie : Ln.E}
/-- raise C(e) -/
theorem js_raiseV (lk : Lnk X cs E) (hc : X.calm = true) (hC : cs[i]? = some (C, some f)) (T : OexF X.prog X.w X.K X.mg X.base C x f k) (hr : Room (k + 1) X.A) (hg : Gl X x) (ha : JA X E [e] (Ln.evs cf (.cons ie .nil)))
    (hdb : (x == ("__debug__" : Str)) = false := by decide) (hst : starEach [e] X.env = (false, eval e X.env) :: starEach [] X.env := by rfl) :
    JS X E (.Raise (some (.Call (.Name x p) [e] [] pos)) none pos') (Ln.exec cf w (.raise i ie)) := by
  obtain ⟨W, tk, hW⟩ := lk.ex
  refine ps_w (ps_raise hc tk (pmk_val T hr hg ha hdb hst)) fun D σ H ⟨ρ, α, S, rs, re, p⟩ => ?_
  simp only [Ln.exec] at p
  refine ⟨ρ, α, S, rs, re, ?_⟩
  have h := p.bind
  simp only [Ln.evs]
  unfold M.bind
  cases e1 : Ln.ev cf ie ρ S with
  | ok d S1 =>
    rw [e1] at h
    intro H1 α1 a vs rv
    cases rv with
    | cons r1 r2 =>
      cases r2
      rename_i v
      refine ⟨v, rfl, fun dd n => ?_⟩
      obtain ⟨_, q⟩ := h H1 α1 a
      have af := After.new a.rs (o := .xd [(f, v)]) n
      exact hW ⟨i, d⟩ S1 _ α1 σ (.ref C) (some dd) (q _ _ af) ⟨C, some f, hC, rfl, dd, [(f, v)], v, rfl, upd_same, by simp [List.lookup], af.rd r1⟩
  | exc x S1 => rw [e1] at h; exact h
  | err => rw [e1] at h; exact h
end
end LnS

set_option linter.all false
/-! Ln: what a law's catcher of errors computes. -/
namespace Ln
open PySem (Str)
/-- one and the same for every name that the error may have -/
noncomputable def hrun (m : XN → M D) : M D := fun S => @ite _ (∀ n, m n S = m ⟨0, none, 0⟩ S) (Classical.propDecidable _) (m ⟨0, none, 0⟩ S) .err
/-- a suite's slots, x the error -/
def hst (slots : Nat) (s : Option Nat) (x : D) : Rho := match s with
  | none => List.replicate slots none
  | some i => (List.replicate slots none).set i (some x)
/-- a suite, x the error -/
def hnd (w slots : Nat) (s : Option Nat) (b : Sms) (x : D) : M D := M.bind (execs (fun _ _ => M.err) w b (hst slots s x)) fun p => match p.1 with
  | .rt d => M.ret d
  | _ => M.err
/-- the clauses: the classes that each takes, the slot of its name, its suite -/
abbrev Clz := List (List Nat × Option Nat × (Nat → XN → Sms))
noncomputable def clz (w slots : Nat) (fl : Nat → Option Str) : Clz → Ex → M D
  | [], _ => M.err
  | c :: r, e => if e.cls ∈ c.1 then hrun fun n => hnd w slots c.2.1 (c.2.2 e.cls n) (.exn n (fl e.cls) e.val) else clz w slots fl r e
/-- try: a() or return a() / except ..: ..; post: what is returned where no error came -/
noncomputable def catch_ (w slots : Nat) (fl : Nat → Option Str) (post : D → D) (cl : Clz) (m : M D) : M D := fun S => match m S with
  | .ok d S' => .ok (post d) S'
  | .exc e S' => clz w slots fl cl e S'
  | .err => .err
theorem hrun_eq {m : XN → M D} {S : Store} {r : R D} (h : ∀ n, m n S = r) : hrun m S = r := by
  unfold hrun
  rw [if_pos fun n => (h n).trans (h ⟨0, none, 0⟩).symm]
  exact h _
end Ln

set_option linter.all false
set_option maxRecDepth 100000
/-! Ln: try with several clauses, with or without a name; what a law's catcher gives. -/
namespace LnS
open PySem PySem.Spec L2 PyProof.Rows
open Ln (D O Store Rho M R Ex)
variable [Tbs]
/-- a clause: its class, its name's slot, what its suite comes to -/
structure Cz where
  c : Value
  s : Option Nat
  ts : Addr → Value → Option Addr → TS
def cutS (s : Option Nat) (D : Ends) : Ends := match s with
  | none => D
  | some i => { nx := fun σ H => D.nx (σ.set i none) H, rt := D.rt, bk := fun σ H => D.bk (σ.set i none) H, ct := fun σ H => D.ct (σ.set i none) H }
def putS (s : Option Nat) (a : Addr) (σ : L2.St) : L2.St := match s with
  | none => σ
  | some i => σ.set i (some (.ref a))
def wCz (K : Frag) (N : Nat) (Wout : WX) (D : Ends) : List Cz → WX
  | [] => Wout
  | z :: r => fun cls d σ H => ∃ b, PySem.W.exmOne K cls z.c = some b ∧ (b = true → σ.length = N → ∀ a, H a = none → z.ts a cls d (cutS z.s D) (putS z.s a σ) H) ∧ (b = false → wCz K N Wout D r cls d σ H)
abbrev SuiteOk (X : Cx) (st : List Stmt) (ts : Addr → Value → Option Addr → TS) : Prop :=
  ∀ (a : Addr) (oe : Obj) (cls : Value) (d : Option Addr) (pn : List (Addr × Obj)), Zc cls d oe → (∃ vs, oe.data = .fields vs) → PSs (X.suite a ((a, oe) :: pn)) st (ts a cls d)
inductive CzOk (X : Cx) : List ExceptHandler → List Cz → Prop
  | nil : CzOk X [] []
  | plain {x : Str} {c : Value} {ts : Addr → Value → Option Addr → TS} {b₀ : Stmt} {st : List Stmt} {p1 p2 : Pos} {hds : List ExceptHandler} {l : List Cz} (hc : Names X x c) (hs : SuiteOk X (b₀ :: st) ts) (r : CzOk X hds l) :
      CzOk X (.ExceptHandler (some (.Name x p1)) none (b₀ :: st) p2 :: hds) (⟨c, none, ts⟩ :: l)
  | named {x n : Str} {i : Nat} {c : Value} {ts : Addr → Value → Option Addr → TS} {b₀ : Stmt} {st : List Stmt} {p1 p2 : Pos} {hds : List ExceptHandler} {l : List Cz} (hc : Names X x c) (hN : X.N.Nodup) (hi : X.N[i]? = some n) (hn : X.env.kindOf n = some .local)
      (hs : SuiteOk X (b₀ :: st) ts) (r : CzOk X hds l) : CzOk X (.ExceptHandler (some (.Name x p1)) (some n) (b₀ :: st) p2 :: hds) (⟨c, some i, ts⟩ :: l)
section
variable {X : Cx} {body : List Stmt} {h₀ : ExceptHandler} {hds : List ExceptHandler} {l : List Cz} {pos : Pos} {tb : WX → TS} {Wout : WX}
theorem ps_tryC (hs : X.stack = X.env :: X.outer) (hf : X.env.frame = some X.env.locals) (tk : Takes X Wout)
    (hb : ∀ (W : WX) (pn : List (Addr × Obj)) (xe : Value → Shared → Prop), Takes (X.tr pn xe) W → PassesOwn (model X.prog X.w) X.A X.env xe → PSs (X.tr pn xe) body (tb W))
    (hh : CzOk X (h₀ :: hds) l) : PS X (.Try body (h₀ :: hds) [] [] pos) (fun D σ H => tb (wCz X.K X.N.length Wout D l) D σ H) := by
  refine ⟨fun pins s σ H D I q => wpAny_Try_except ?_⟩
  have okX := I.ok
  have frX : X.A.frames = some (X.env :: X.outer) := by rw [okX.frames, hs]
  let catch_ : Value → Shared → Prop := fun e s₁ => wpAny (model X.prog X.w) X.A (noteFrame e X.env) (fun _ s₂ => wpAny (model X.prog X.w) X.A (setFlight e none) (fun _ s₃ =>
    wpAny (model X.prog X.w) X.A (handleBy e X.env (h₀ :: hds)) (SP X pins D) X.xe s₃) X.xe s₂) X.xe s₁
  refine wpAny_mono ((hb (wCz X.K X.N.length Wout D l) (X.pn ++ pins) catch_ (fun u s' xx => ?_) PassesOwn.looking).run [] s σ H D (I.toTry _) q) (fun fl s1 z => ?_) (fun _ _ z => z)
  · obtain ⟨a, B, sI, _, σ', H', cls, d, rfl, J0, nb, up, sky0, na, os, ag, w⟩ := xx
    have J := J0.ofTry okX
    have sky : Sky B (X.env :: X.outer) a (Zc cls d) X.env.locals s'.heap := by rw [← hs]; exact sky0
    show wpAny (model X.prog X.w) X.A (noteFrame (.ref a) X.env) _ _ _
    refine Sky.land Zc.steady frX hf sky fun hA fl up1 => ?_
    have JA1 : Inv X pins σ' H' { s' with heap := hA } := J.landed nb fl.1 (up.trans up1) os ag
    obtain ⟨o1, v1, g1, z1, f1⟩ := fl.there
    have nfr : a ∉ frs (X.env :: X.outer) := fun hm => by
      obtain ⟨_, o', e', hnf⟩ := fl.2.2.1.mem hm
      rw [g1] at e'; cases e'
      exact hnf _ f1
    have nL : a ≠ X.env.locals := fun z => nfr (List.mem_filterMap.mpr ⟨X.env, List.mem_cons_self, by rw [hf, z]⟩)
    have nF : a ∉ X.fs := fun hm => by
      obtain ⟨e, he, q⟩ := List.mem_filterMap.mp hm
      exact nfr (List.mem_filterMap.mpr ⟨e, List.mem_cons_of_mem _ he, q⟩)
    have S1 := JA1.suite g1 f1 na nL nF
    have LM : ∀ {c : Value} {b : Bool}, PySem.W.exmOne X.K cls c = some b → _ := fun {c b} e =>
      PySem.W.exm_one (M := model X.prog X.w) (h := hA) JA1.kIn (fun A Q E s k q => wpAny_typeOf_ref (k _ _ g1) (by rw [z1.1]; exact q) : PySem.W.Looks (model X.prog X.w) hA (typeOf (.ref a)) cls) e
    have named : ∀ {x : Str} {c : Value} {np : Pos} {Q E : Value → Shared → Prop}, Names X x c → Q c { s' with heap := hA } → wpAny (model X.prog X.w) (X.A.mark (some (.ref a))) (eval (.Name x np) X.env) Q E { s' with heap := hA } := fun {x c np Q E} hc q => by
      obtain ⟨hg, hdbg, hm | ⟨hm, hv, hnn⟩⟩ := hc
      · exact ld_glob (X := X.suite a ((a, o1) :: (X.pn ++ pins))) S1 hg hm q hdbg
      · exact ld_blt (X := X.suite a ((a, o1) :: (X.pn ++ pins))) S1 hg hm hv q hnn hdbg
    have go : ∀ {hd2 : List ExceptHandler} {l2 : List Cz}, CzOk X hd2 l2 → wCz X.K X.N.length Wout D l2 cls d σ' H' → wpAny (model X.prog X.w) X.A (handleBy (.ref a) X.env hd2) (SP X pins D) X.xe { s' with heap := hA } := by
      intro hd2 l2 k
      induction k with
      | nil =>
        intro w
        refine wpAny_handleBy_nil ?_
        obtain ⟨_, _, _, o2, v2, T, _, _, g2, _, d2, e2, _⟩ := id fl
        unfold PySem.passOn
        refine wpAny_bind (wpAny_field g2 d2 e2 ?_)
        rw [if_neg (show ¬ ((Value.ref T == Value.none) = true) from by simp)]
        have out : wpAny (model X.prog X.w) X.A (setFlight (.ref a) X.env.frame) (fun _ s4 => wpAny (model X.prog X.w) X.A (throw (.ref a) : Sem Flow) (SP X pins D) X.xe s4) X.xe { s' with heap := hA } := by
          rw [hf]
          exact HandSPX.setFlight_upZ fl fun hB fB up2 => wpAny_throw (tk _ _ ⟨a, B, sI, pins, σ', H', cls, d, rfl, J, nb, (up.trans up1).trans up2, .inr (.inr (by rw [hs]; exact fB)), na, os, ag, w⟩)
        first
          | exact wpAny_bind (wpAny_pure (wpAny_bind out))
          | exact wpAny_bind out
      | @plain x c ts b₀ st p1 p2 hd3 l3 hc hsu _ ih =>
        intro ⟨b, e, yes, no⟩
        refine wpAny_handleBy_cons (codeAny_handlers_test (named hc ((LM e).here ?_))) (by intro q; cases q)
        cases b with
        | false => exact ih (no rfl)
        | true =>
          refine codeAny_handlers_suite (HandSPX.lands_againZ fl fun hB fB up2 => ?_)
          have J2 : Inv X pins σ' H' { s' with heap := hB } := J.landed nb fB.1 ((up.trans up1).trans up2) os ag
          obtain ⟨o2, v2, g2, z2, d2⟩ := fB.there
          refine wpAny_mono ((hsu a o2 cls d (X.pn ++ pins) z2 ⟨_, d2⟩).run [] _ _ H' _ (J2.suite g2 d2 na nL nF) (yes rfl J.len a na)) (fun f s6 z => ?_) (fun _ _ z => False.elim z)
          cases f with
          | ret u => obtain ⟨v6, σ6, H6, S6, r6, q6⟩ := z; exact ⟨_, _, _, S6.unsuite okX, r6, q6⟩
          | next => obtain ⟨σ6, H6, S6, q6⟩ := z; exact ⟨_, _, S6.unsuite okX, q6⟩
          | brk => obtain ⟨σ6, H6, S6, q6⟩ := z; exact ⟨_, _, S6.unsuite okX, q6⟩
          | cont => obtain ⟨σ6, H6, S6, q6⟩ := z; exact ⟨_, _, S6.unsuite okX, q6⟩
      | @named x n i c ts b₀ st p1 p2 hd3 l3 hc hN hi hn hsu _ ih =>
        intro ⟨b, e, yes, no⟩
        refine wpAny_handleBy_cons (codeAny_handlers_test (named hc ((LM e).here ?_))) (by intro q; cases q)
        cases b with
        | false => exact ih (no rfl)
        | true =>
          refine codeAny_handlers_suite_as (HandSPX.lands_againZ fl fun hB fB up2 => ?_)
          have J2 : Inv X pins σ' H' { s' with heap := hB } := J.landed nb fB.1 ((up.trans up1).trans up2) os ag
          obtain ⟨o2, v2, g2, z2, d2⟩ := fB.there
          refine store_ok (X := X.suite a ((a, o2) :: (X.pn ++ pins))) (v := .ref a) (J2.suite g2 d2 na nL nF) hN hi (.inl hn) rfl (fun s5 S5 => ?_) (.inr hn)
          refine wpAny_mono ((hsu a o2 cls d (X.pn ++ pins) z2 ⟨_, d2⟩).run [] s5 _ H' _ S5 (yes rfl J.len a na)) (fun f s6 z => ?_) (fun _ _ z => False.elim z)
          have fin : ∀ {σ6 : L2.St} {H6 : Hp} {Q : Shared → Prop}, Inv (X.suite a ((a, o2) :: (X.pn ++ pins))) [] σ6 H6 s6 → (∀ s7, Inv X pins (σ6.set i none) H6 s7 → Q s7) →
              wpAny (model X.prog X.w) X.A (do bindName X.env n .none; unbindBehindTheSuite X.env n p2) (fun _ s7 => Q s7) X.xe s6 := fun {σ6 H6 Q} S6 hq => gone_ok (S6.unsuite okX) hN hi hn hq
          cases f with
          | ret u => obtain ⟨v6, σ6, H6, S6, r6, q6⟩ := z; exact fin S6 fun s7 J7 => ⟨_, _, _, J7, r6, q6⟩
          | next => obtain ⟨σ6, H6, S6, q6⟩ := z; exact fin S6 fun s7 J7 => ⟨_, _, J7, q6⟩
          | brk => obtain ⟨σ6, H6, S6, q6⟩ := z; exact fin S6 fun s7 J7 => ⟨_, _, J7, q6⟩
          | cont => obtain ⟨σ6, H6, S6, q6⟩ := z; exact fin S6 fun s7 J7 => ⟨_, _, J7, q6⟩
    exact go hh w
  · cases fl with
    | ret u => obtain ⟨v, σ', H', J', r, q⟩ := z; exact ⟨v, σ', H', J'.ofTry okX, r, q⟩
    | next => obtain ⟨σ', H', J', q⟩ := z; exact wpAny_execs_nil ⟨σ', H', J'.ofTry okX, q⟩
    | brk => obtain ⟨σ', H', J', q⟩ := z; exact ⟨σ', H', J'.ofTry okX, q⟩
    | cont => obtain ⟨σ', H', J', q⟩ := z; exact ⟨σ', H', J'.ofTry okX, q⟩
end

/-! ### catchers -/
/-- the clauses of a catcher, told of the evaluator -/
inductive ClOk (X : Cx) (cs : List Cls) (w : Nat) : List ExceptHandler → Ln.Clz → Prop
  | nil : ClOk X cs w [] []
  | plain {x : Str} {c : Value} {cov : List Nat} {h : Nat → Ln.XN → Ln.Sms} {b₀ : Stmt} {st : List Stmt} {p1 p2 : Pos} {hds : List ExceptHandler} {l : Ln.Clz} (hc : Names X x c) (hx : ∀ k C f, cs[k]? = some (C, f) → PySem.W.exmOne X.K (.ref C) c = some (decide (k ∈ cov)))
      (hs : ∀ k C f, cs[k]? = some (C, f) → k ∈ cov → ∀ (n : Ln.XN) (oe : Obj) (pn : List (Addr × Obj)), n.C = C → (f = none → n.d = none) → Zc (.ref C) n.d oe → (∃ vs, oe.data = .fields vs) → JSs (X.suite n.a ((n.a, oe) :: pn)) X0 (b₀ :: st) (Ln.execs (fun _ _ => M.err) w (h k n)))
      (r : ClOk X cs w hds l) : ClOk X cs w (.ExceptHandler (some (.Name x p1)) none (b₀ :: st) p2 :: hds) ((cov, none, h) :: l)
  | named {x n : Str} {i : Nat} {c : Value} {cov : List Nat} {h : Nat → Ln.XN → Ln.Sms} {b₀ : Stmt} {st : List Stmt} {p1 p2 : Pos} {hds : List ExceptHandler} {l : Ln.Clz} (hc : Names X x c) (hN : X.N.Nodup) (hi : X.N[i]? = some n) (hn : X.env.kindOf n = some .local) (hx : ∀ k C f, cs[k]? = some (C, f) → PySem.W.exmOne X.K (.ref C) c = some (decide (k ∈ cov)))
      (hs : ∀ k C f, cs[k]? = some (C, f) → k ∈ cov → ∀ (n : Ln.XN) (oe : Obj) (pn : List (Addr × Obj)), n.C = C → (f = none → n.d = none) → Zc (.ref C) n.d oe → (∃ vs, oe.data = .fields vs) → JSs (X.suite n.a ((n.a, oe) :: pn)) X0 (b₀ :: st) (Ln.execs (fun _ _ => M.err) w (h k n)))
      (r : ClOk X cs w hds l) : ClOk X cs w (.ExceptHandler (some (.Name x p1)) (some n) (b₀ :: st) p2 :: hds) ((cov, some i, h) :: l)
def tsCl (K : Frag) (cs : List Cls) (w : Nat) (cov : List Nat) (h : Nat → Ln.XN → Ln.Sms) (a : Addr) (cls : Value) (d : Option Addr) : TS := fun D σ H =>
  ∃ (k : Nat) (C : Addr) (f : Option Str), cs[k]? = some (C, f) ∧ k ∈ cov ∧ cls = .ref C ∧ (f = none → d = none) ∧ TSI K X0 (Ln.execs (fun _ _ => M.err) w (h k ⟨a, d, C⟩)) D σ H
section
variable {X : Cx} {cs : List Cls} {w : Nat}
theorem suite_cl {cov : List Nat} {h : Nat → Ln.XN → Ln.Sms} {st : List Stmt}
    (hs : ∀ k C f, cs[k]? = some (C, f) → k ∈ cov → ∀ (n : Ln.XN) (oe : Obj) (pn : List (Addr × Obj)), n.C = C → (f = none → n.d = none) → Zc (.ref C) n.d oe → (∃ vs, oe.data = .fields vs) → JSs (X.suite n.a ((n.a, oe) :: pn)) X0 st (Ln.execs (fun _ _ => M.err) w (h k n))) :
    SuiteOk X st (tsCl X.K cs w cov h) := fun a oe cls d pn hz hf => ⟨fun pins s σ H D I ⟨k, C, f, hk, hm, ec, hd, t⟩ => by
  subst ec
  exact (hs k C f hk hm ⟨a, d, C⟩ oe pn rfl hd hz hf).run pins s σ H D I t⟩
theorem rs_xd {K : Frag} {H : Hp} {α : Al} {S : Store} (r : RS K H α S) {a : Addr} {fs : List (Str × V)} (e : H a = some (.xd fs)) : ¬ α.has a := fun z => by
  obtain ⟨o, e2, m, _⟩ := r.mut z
  rw [e] at e2; cases e2
  exact m
/-- one clause that takes the error -/
theorem cl_one {K : Frag} {N : Nat} {fl : Nat → Option Str} {s : Option Nat} {cov : List Nat} {h : Nat → Ln.XN → Ln.Sms} {e : Ex} {S : Store} {H : Hp} {α : Al} {cls : Value} {d : Option Addr} {σ : L2.St} {D : Ends} {Q : VK}
    (hfl : ∀ k C f, cs[k]? = some (C, f) → fl k = f) (hm : e.cls ∈ cov) (rs : RS K H α S) (rx : RX K cs H α e cls d) (hQ : ∀ v H', Q v H' → D.rt v H')
    (p : Pst K X0 H α (Ln.hrun (fun n => Ln.hnd w N s (h e.cls n) (.exn n (fl e.cls) e.val)) S) fun x _ H' α' => ∀ v, RD K H' α' x v → Q v H') (hl : σ.length = N) (a : Addr) :
    tsCl K cs w cov h a cls d (cutS s D) (putS s a σ) H := by
  obtain ⟨C, f, hk, ec, hv⟩ := rx
  have hd : f = none → d = none := fun z => by subst z; exact hv
  have rd : RD K H α (.exn ⟨a, d, C⟩ (fl e.cls) e.val) (.ref a) := by
    rw [hfl _ _ _ hk]
    cases f with
    | none => exact .exn0 (n := ⟨a, d, C⟩) hv
    | some f =>
      obtain ⟨dd, fs, v, e1, e2, e3, e4⟩ := hv
      exact .exn1 (n := ⟨a, d, C⟩) e1 (rs_xd rs e2) e2 e3 e4
  unfold Ln.hrun at p
  split at p
  · rename_i hu
    rw [← hu ⟨a, d, C⟩] at p
    refine ⟨e.cls, C, f, hk, hm, ec, hd, Ln.hst N s (.exn ⟨a, d, C⟩ (fl e.cls) e.val), α, S, rs, ?_, p.bind.mono fun q S1 H1 α1 _ ⟨af, z⟩ σ' re' => ?_⟩
    · cases s with
      | none =>
        refine ⟨by simp only [Ln.hst, List.length_replicate]; exact hl.symm, fun i x z => ?_⟩
        simp only [Ln.hst] at z
        have := List.mem_of_getElem? z
        rw [List.mem_replicate] at this
        cases this.2
      | some j =>
        refine ⟨by simp only [Ln.hst, putS, List.length_set, List.length_replicate]; exact hl.symm, fun i x z => ?_⟩
        simp only [Ln.hst] at z
        by_cases hij : j = i
        · subst hij
          have hj : j < (List.replicate N (none : Option Ln.D)).length := by
            have := (List.getElem?_eq_some_iff.mp z).1
            simpa using this
          rw [List.getElem?_set_self hj] at z
          cases z
          refine ⟨.ref a, ?_, rd⟩
          show (σ.set j (some (V.ref a)))[j]? = _
          rw [List.getElem?_set_self (by rw [hl]; simpa using hj)]
        · rw [List.getElem?_set_ne hij] at z
          have := List.mem_of_getElem? z
          rw [List.mem_replicate] at this
          cases this.2
    · obtain ⟨fl', ρ'⟩ := q
      cases fl' with
      | rt x =>
        have y := z.ret af.rs
        intro v rv
        have : D.rt v H1 := hQ v H1 (y v rv)
        cases s <;> exact this
      | nx => exact z.elim
      | bk => exact z.elim
      | ct => exact z.elim
  · exact p.elim
theorem cl_ok {fl : Nat → Option Str} {hds : List ExceptHandler} {cl : Ln.Clz} (hfl : ∀ k C f, cs[k]? = some (C, f) → fl k = f) (h : ClOk X cs w hds cl) : ∃ l, CzOk X hds l ∧ ∀ (D : Ends) (Q : VK) (e : Ex) (S : Store) (H : Hp) (α : Al) (cls : Value) (d : Option Addr) (σ : L2.St),
    (∀ v H', Q v H' → D.rt v H') → RS X.K H α S → RX X.K cs H α e cls d → Pst X.K X0 H α (Ln.clz w X.N.length fl cl e S) (fun x _ H' α' => ∀ v, RD X.K H' α' x v → Q v H') → wCz X.K X.N.length (fun _ _ _ _ => False) D l cls d σ H := by
  induction h with
  | nil => exact ⟨[], .nil, fun D Q e S H α cls d σ _ _ _ p => p.elim⟩
  | @plain x c cov h b₀ st p1 p2 hds l hc hx hs r ih =>
    obtain ⟨l2, h2, k2⟩ := ih
    refine ⟨_, .plain hc (suite_cl hs) h2, fun D Q e S H α cls d σ hQ rs rx p => ?_⟩
    obtain ⟨C, f, hk, ec, hv⟩ := id rx
    subst ec
    refine ⟨_, hx _ _ _ hk, fun hb hl a _ => ?_, fun hb => ?_⟩
    · have hm := of_decide_eq_true hb
      rw [Ln.clz, if_pos hm] at p
      exact cl_one hfl hm rs rx hQ p hl a
    · rw [Ln.clz, if_neg (of_decide_eq_false hb)] at p
      exact k2 D Q e S H α _ d σ hQ rs rx p
  | @named x n i c cov h b₀ st p1 p2 hds l hc hN hi hn hx hs r ih =>
    obtain ⟨l2, h2, k2⟩ := ih
    refine ⟨_, .named hc hN hi hn (suite_cl hs) h2, fun D Q e S H α cls d σ hQ rs rx p => ?_⟩
    obtain ⟨C, f, hk, ec, hv⟩ := id rx
    subst ec
    refine ⟨_, hx _ _ _ hk, fun hb hl a _ => ?_, fun hb => ?_⟩
    · have hm := of_decide_eq_true hb
      rw [Ln.clz, if_pos hm] at p
      exact cl_one hfl hm rs rx hQ p hl a
    · rw [Ln.clz, if_neg (of_decide_eq_false hb)] at p
      exact k2 D Q e S H α _ d σ hQ rs rx p
end
end LnS

set_option linter.all false
set_option maxRecDepth 100000
/-! Ln: a lambda handed to a catcher. -/
namespace LnS
open PySem PySem.Spec L2 PyProof.Rows
open Ln (D O Store Rho M R Ex)
variable [Tbs]
/-- what a catcher makes of the lambda's reading -/
def TTc (K : Frag) (cs : List Cls) (g : M D → M D) : (XK → Hp → VK → Prop) → Hp → VK → Prop := fun tl H Q =>
  ∃ (m : M D) (α : Al) (S : Store), RS K H α S ∧ Pst K X0 H α (g m S) (fun d _ H' α' => ∀ v, RD K H' α' d v → Q v H') ∧
    ∀ (E : XK) (Q' : VK), Pst K (xsOf K cs E) H α (m S) (fun d _ H' α' => ∀ v, RD K H' α' d v → Q' v H') → tl E H Q'
section
variable {X : Cx} {cs : List Cls} {w : Nat} {Ng : List Str} {x a q m : Str} {sg : Scope} {g : Addr} {cdg : Value} {j : Nat} {fl : Nat → Option Str} {h₀ : ExceptHandler} {hds : List ExceptHandler} {cl : Ln.Clz} {p1 p2 p3 p4 p5 p6 : Pos}
/-- try: a() / except ..: .. / return m -/
theorem catch_expr (hfl : ∀ k C f, cs[k]? = some (C, f) → fl k = f) (h0 : ∀ f : Addr, (L2.start Ng [V.ref f])[0]? = some (some (V.ref f)))
    (hcl : ∀ (s : Shared) (H : Hp), ClOk (cxOf C8.CX0 X.prog X.w X.K X.mg X.base Ng x sg g cdg X.A X.stack s H C8.E0).nox cs w (h₀ :: hds) cl)
    (hsw : ∀ env : Env, swapsWith (.Call (.Name a p1) [] [] p2) none p3.line env = pure false) :
    LamX.GivesTo X Ng x sg g cdg [.Try [.Expr (.Call (.Name a p1) [] [] p2) p3] (h₀ :: hds) [] [] p4, .Return (some (.Constant (.str m) j p5)) p6] a q (TTc X.K cs (Ln.catch_ w Ng.length fl (fun _ => .str m) cl)) := by
  intro f c' s H Q tl act hc ⟨mm, α, S, rs, p, ht⟩
  obtain ⟨l, hl, hw⟩ := cl_ok hfl (hcl s H)
  refine ⟨_, pss_cons (ps_tryC (X := (cxOf C8.CX0 X.prog X.w X.K X.mg X.base Ng x sg g cdg X.A X.stack s H C8.E0).nox)
      (tb := fun W D σ H => ∃ Ech : XK, (∀ cls d σ' H', Ech cls d H' → W cls d σ' H') ∧ σ[0]? = some (some (.ref f)) ∧ H c' = some (LamX.CodeO c' q) ∧ tl Ech H (fun _ H' => D.nx σ H'))
      rfl rfl LamX.takes0 (fun W pn xe tk _ => ?_) hl) (pss_one (ps_ret pe_str)), ?_⟩
  · refine ⟨fun pins s' σ H' D I ⟨Ech, hW, h1, h2, h3⟩ => ?_⟩
    have hp := act W pn xe Ech p1 p2 tk hW
    have hq := pss_one (ps_expr (pos := p3) hp (hsw _))
    exact hq.run pins s' σ H' D I ⟨h1, h2, h3⟩
  · refine ⟨fun cls d H' => ∀ σ', wCz X.K Ng.length (fun _ _ _ _ => False) { nx := fun σ H => Q (.str m) H, rt := Q } l cls d σ' H', fun cls d σ' H' z => z σ', h0 f, hc, ht _ _ ?_⟩
    unfold Ln.catch_ at p
    cases e1 : mm S with
    | ok d S' =>
      rw [e1] at p
      exact fun H' α' af v rv => p H' α' af _ (.str m)
    | exc e S' =>
      rw [e1] at p
      exact fun H' α' af cls d rx σ' => hw _ Q e S' H' α' cls d σ' (fun _ _ z => z) af.rs rx (Pst.move p af)
    | err => rw [e1] at p; exact p.elim
/-- try: return a() / except ..: .. -/
theorem catch_ret (hfl : ∀ k C f, cs[k]? = some (C, f) → fl k = f) (h0 : ∀ f : Addr, (L2.start Ng [V.ref f])[0]? = some (some (V.ref f)))
    (hcl : ∀ (s : Shared) (H : Hp), ClOk (cxOf C8.CX0 X.prog X.w X.K X.mg X.base Ng x sg g cdg X.A X.stack s H C8.E0).nox cs w (h₀ :: hds) cl) :
    LamX.GivesTo X Ng x sg g cdg [.Try [.Return (some (.Call (.Name a p1) [] [] p2)) p3] (h₀ :: hds) [] [] p4] a q (TTc X.K cs (Ln.catch_ w Ng.length fl id cl)) := by
  intro f c' s H Q tl act hc ⟨mm, α, S, rs, p, ht⟩
  obtain ⟨l, hl, hw⟩ := cl_ok hfl (hcl s H)
  refine ⟨_, pss_one (ps_tryC (X := (cxOf C8.CX0 X.prog X.w X.K X.mg X.base Ng x sg g cdg X.A X.stack s H C8.E0).nox)
      (tb := fun W D σ H => ∃ Ech : XK, (∀ cls d σ' H', Ech cls d H' → W cls d σ' H') ∧ σ[0]? = some (some (.ref f)) ∧ H c' = some (LamX.CodeO c' q) ∧ tl Ech H D.rt)
      rfl rfl LamX.takes0 (fun W pn xe tk _ => ?_) hl), ?_⟩
  · refine ⟨fun pins s' σ H' D I ⟨Ech, hW, h1, h2, h3⟩ => ?_⟩
    have hp := act W pn xe Ech p1 p2 tk hW
    have hq := pss_one (ps_ret (pos := p3) hp)
    exact hq.run pins s' σ H' D I ⟨h1, h2, h3⟩
  · refine ⟨fun cls d H' => ∀ σ', wCz X.K Ng.length (fun _ _ _ _ => False) { nx := fun _ H' => Q .non H', rt := Q } l cls d σ' H', fun cls d σ' H' z => z σ', h0 f, hc, ht _ _ ?_⟩
    unfold Ln.catch_ at p
    cases e1 : mm S with
    | ok d S' =>
      rw [e1] at p
      exact fun H' α' af v rv => p H' α' af _ rv
    | exc e S' =>
      rw [e1] at p
      exact fun H' α' af cls d rx σ' => hw _ Q e S' H' α' cls d σ' (fun _ _ z => z) af.rs rx (Pst.move p af)
    | err => rw [e1] at p; exact p.elim
end
/-- tables have grown, codes of lambdas are new: what is known is known still -/
theorem after_lam {K : Frag} {H H1 : Hp} {α : Al} {S : Store} (rs : RS K H α S) (e : LamX.ExtN H H1) (t : LamX.Tabs Tbs.tabs H1) : After K α H α H1 S := by
  have ex : Ext α H H1 := ⟨fun a o h _ ht => e a o h fun ps z => ht ps z⟩
  have kp : ∀ a ∈ α.h, ∀ u, H a = some u → H1 a = some u := fun a ha u h => by
    obtain ⟨o, h2, _, n⟩ := rs.mut' (.inl ha)
    rw [h] at h2; cases h2
    exact e a _ h n.2
  refine ⟨.refl, ex, ⟨?_, t⟩, rs.len, rs.nd, rs.dis, fun a ha => ?_, fun n a o e1 e2 => ?_, rs.fz, rs.zh⟩
  · obtain ⟨φ, h⟩ := rs.sm.1
    exact ⟨φ, e _ _ h fun ps z => nomatch z⟩
  · obtain ⟨vs, h⟩ := rs.scr a ha
    exact ⟨vs, e _ _ h fun ps z => nomatch z⟩
  · exact (rs.at_ n a o e1 e2).mono .refl ex (kp a (List.mem_of_getElem? e1))
/-- a(), a the lambda, in the def that got it -/
theorem act_lam {X : Cx} {pins : List (Addr × Obj)} {σ : L2.St} {H : Hp} {s : Shared} {Ng : List Str} {qg : Str} {sg : Scope} {g f c' : Addr} {cdg pm ctv : Value} {params : Arguments} {body : Expr} {scope : Scope} {k : Nat} {a : Str} {pn : List (Addr × Obj)}
    {xe : Value → Shared → Prop} {W : WX} {E : XK} {tb : TE} {p1 p2 : Pos} (I : Inv X pins σ H s) (L : LamX.LamS X.env.scope scope)
    (hf : s.heap.get? f = some (PySem.W.kla_obj "<lambda>" (X.env.qual ++ "<lambda>") params body scope (cloFrom X.env.cells scope.names []) pm c' ctv)) (hfn : H f = none) (hfr : f ∉ frs X.stack)
    (hbind : bindArgs (PySem.W.kla_fn "<lambda>" (X.env.qual ++ "<lambda>") params body scope (cloFrom X.env.cells scope.names []) pm (.ref c') ctv) ⟨[], []⟩ = pure []) (hG : X.A.guards = some [])
    (tk : Takes ((cxOf C8.CX0 X.prog X.w X.K X.mg X.base Ng qg sg g cdg X.A X.stack s H C8.E0).tr pn xe) W) (hW : ∀ cls d σ' H', E cls d H' → W cls d σ' H') (hr : Room (k + 1) (X.A.deeper (envOfC qg sg s.heap.objs.size g cdg)))
    (hbody : ∀ (A : Around) (outer : List Env) (s : Shared) (H : Hp), A.guards = some [] → Room k (A.deeper (LamX.lamEnv X scope s.heap.objs.size f c')) → PE (LamX.lamCx X A outer s H E scope f c') body tb)
    (hN : Ng[0]? = some a) (hv : Vis sg a) (hd : (a == ("__debug__" : Str)) = false) (hcd : (a == ("__classdict__" : Str)) = false) :
    PE ((cxOf C8.CX0 X.prog X.w X.K X.mg X.base Ng qg sg g cdg X.A X.stack s H C8.E0).tr pn xe) (.Call (.Name a p1) [] [] p2)
      (fun σZ HZ Q => σZ[0]? = some (some (.ref f)) ∧ HZ c' = some (LamX.CodeO c' (X.env.qual ++ "<lambda>")) ∧ tb σ HZ Q) := by
  refine ⟨fun pz z σZ HZ Q IZ ⟨h0, h1, h2⟩ => ?_⟩
  refine wpAny_Call_Name_kw (thn ((pe_var (pos := p1) (i := 0) hN hv hd hcd).run pz z σZ HZ (fun v H1 => v = .ref f ∧ HZ = H1) IZ ⟨.ref f, h0, rfl, rfl⟩) fun u y ⟨v, H1, I1, r1, ev, eH⟩ => ?_)
  subst ev
  rw [← eH] at I1
  obtain rfl : u = Value.ref f := r1
  have at_f := I1.base.keep f _ hf hfn hfr fun z => nomatch (show f ∈ ([] : List Addr) from z)
  have un : Un (frs X.stack) [] H HZ s.heap y.heap := I1.base
  obtain ⟨⟨oc, vs, t, g1, g2, g3⟩, _, _⟩ := I1.hok c' _ h1
  have rc : codeAny (model X.prog X.w) (X.A.deeper (envOfC qg sg s.heap.objs.size g cdg)) (.call (.ref f) ⟨[], []⟩) (CR (L2.CX X.prog X.w) (envOfC qg sg s.heap.objs.size g cdg :: X.stack) X.prog X.w HZ y Q E) y := by
    refine PySem.W.kla_callFunE hr.depth at_f rfl L.co L.gen rfl ⟨c', oc, vs, t, rfl, g1, g2, g3⟩ ?_
    rw [hbind]
    refine wpAny_pure (wpAny_newFunctionEnv (fun n hn => (L.own n hn).2) (fun n hn => absurd hn (by simp)) (fun h₁ hns hsb => ⟨I1.nolimit.fresh _ hsb, ?_⟩) L.kind)
    have kp : ∀ b o, y.heap.get? b = some o → h₁.get? b = some o := fun b o e => hsb.extBut b o (Nat.ne_of_lt (Heap.lt_size e)) (Heap.get?_push_of_some _ e)
    have J := LamX.lam_start2 (A := X.A.deeper (envOfC qg sg s.heap.objs.size g cdg)) (outer := envOfC qg sg s.heap.objs.size g cdg :: X.stack) (E := E) (f := f) (c' := c') (tk := y.toks + ([] : List (Str × Value)).length) I L I1.env0 hr.hd un hns kp
    refine PySem.W.kla_codeExpr (wpAny_mono ((hbody (X.A.deeper (envOfC qg sg s.heap.objs.size g cdg)) (envOfC qg sg s.heap.objs.size g cdg :: X.stack) y HZ hG (hr.deeper _)).run [] _ _ HZ Q J h2) (fun v s' ⟨w', H', J', rv, q⟩ => ?_) fun e s' hq => hq)
    exact ⟨w', H', J'.os, J'.bare, J'.base, J'.hok, rv, q⟩
  have hx : Passes (L2.CX X.prog X.w) ((cxOf C8.CX0 X.prog X.w X.K X.mg X.base Ng qg sg g cdg X.A X.stack s H C8.E0).tr pn xe) E := passes_call tk hW
  refine PySem.W.callWith_F0 ⟨_, _, _, _, at_f⟩ (wpAny_call (codeAny_mono rc fun r s' hq => ?_))
  match r, hq with
  | .error e, hq => exact hx pz σZ HZ y e s' I1 hq
  | .ok (.ret u), hq => exact I1.after hq
  | .ok .next, hq => exact False.elim hq
  | .ok .brk, hq => exact False.elim hq
  | .ok .cont, hq => exact False.elim hq
/-- of a def that makes lambdas: its code object, that one's table -/
def LamD (K : Frag) (mg : Str → Option Value) (base : Heap) (f : Addr) (q : Str) : Prop := ∃ c P : Addr, (∀ cdv, CodeK K f cdv → cdv = .ref c) ∧ LamX.TabB base mg c P ∧ (P, q) ∈ Tbs.tabs ∧ ∀ p ∈ Tbs.tabs, p.1 = P → p.2 = q
section
variable {X : Cx} {E : XS} {cf : Nat → List D → M D} {cs : List Cls}
/-- x(lambda: body), x a catcher -/
theorem je_lam {g : M D → M D} {x a : Str} {ga f0 : Addr} {k : Nat} {st : Stmt} {fd : FuncData} {Ng : List Str} {params : Arguments} {body : Expr} {scope : Scope} {p lpos pos : Pos} {ib : Ln.E}
    (hg : Gl X x) (hm : X.mg x = some (.ref ga)) (hk : PySem.W.keepIn X.K (.ref ga) = true) (F : Fun X.K x x st ga fd) (Sg : FnScope Ng [a] (defScope st)) (hNg : Ng[0]? = some a) (hva : Vis (defScope st) a)
    (hbd : ∀ (kV doc pm : Value) (an : Option Addr) (cdv ct : Value) (us : List Value), us.length = [a].length → bindArgs (PySem.W.fnOf x x (defArgs st) (defBody st) (defScope st) .none kV doc pm an cdv ct) ⟨us, []⟩ = pure ([a].zip us))
    (hG : ∀ cdg : Value, LamX.GivesTo X Ng x (defScope st) ga cdg (defBody st) a (X.env.qual ++ "<lambda>") (TTc X.K cs g))
    (hck : CodeK X.K f0 X.env.code) (hL : LamD X.K X.mg X.base f0 (X.env.qual ++ "<lambda>")) (hr : Room (k + 2) X.A) (hGu : X.A.guards = some []) (L : LamX.LamS X.env.scope scope) (hdef : defaultsOf params X.env = ([], []))
    (hbind : ∀ (q : Str) (cl : List (Str × Addr)) (pm cv ctv : Value), bindArgs (PySem.W.kla_fn "<lambda>" q params body scope cl pm cv ctv) ⟨[], []⟩ = pure [])
    (hbody : ∀ (A : Around) (outer : List Env) (s : Shared) (H : Hp) (E : XK) (f c' : Addr), A.guards = some [] → Room k (A.deeper (LamX.lamEnv X scope s.heap.objs.size f c')) → JE (LamX.lamCx X A outer s H E scope f c') (xsOf X.K cs E) body (Ln.ev cf ib))
    (hdb : (x == ("__debug__" : Str)) = false := by decide) (hd : (a == ("__debug__" : Str)) = false := by decide) (hcd : (a == ("__classdict__" : Str)) = false := by decide) :
    JE X E (.Call (.Name x p) [.Lambda params body scope lpos] [] pos) (Ln.ev cf (.lam g ib)) := by
  have B := Fun.binds F hbd
  obtain ⟨oc, od, kV, doc, pm, an, cdv, ct, osl, rfl, lk, hcg⟩ := F.ex
  obtain ⟨c, P, hc, TB, hmT, hu⟩ := hL
  refine ⟨fun pins s σ H Q I ⟨ρ, α, S, rs, re, p⟩ => ?_⟩
  refine wpAny_Call_Name_kw (ld_glob I hg hm ?_ hdb)
  refine PySem.W.callWith_K (h₀ := X.base) I.ok.mod.kin hk ?_ (by rfl) (by rfl)
  show wpAny _ _ (spliced ((false, eval (.Lambda params body scope lpos) X.env) :: backTo pos (starEach [] X.env))) _ _ s
  refine Calls.spliced_cons (LamX.lam_make2 I TB (hc _ hck) hmT hu rs.sm.2 hdef (L.has I.ok) fun f c' pm' ctv H1 s1 I1 eN T1 hf hfn hfr hco => ?_)
  have af := after_lam rs eN T1
  refine Calls.spliced_nil ⟨I1.kIn, wpAny_call (codeAny_mono (R := CR C8.CX0 X.stack X.prog X.w H1 s1 Q C8.E0) (LamX.run_ofS (N := Ng) (ps := [a]) (us := [.ref f]) (vs := [.ref f]) lk hcg Sg hr I1.env0 (B s1 [.ref f] I1.kIn rfl) (.cons rfl .nil) rfl fun hr' => ?_) fun r s2 hq => ?_)⟩
  · have hT : TTc X.K cs g (fun E H' Q' => TI X.K (xsOf X.K cs E) (Ln.ev cf ib) σ H' Q') H1 Q := by
      refine ⟨Ln.ev cf ib ρ, α, S, af.rs, ?_, fun E' Q' h => ⟨ρ, α, S, af.rs, af.re re, h⟩⟩
      simp only [Ln.ev, M.nox] at p
      cases e1 : g (Ln.ev cf ib ρ) S with
      | ok d S' =>
        rw [e1] at p
        exact fun H' α' a' => p H' α' (af.trans a')
      | exc x S' => rw [e1] at p; exact p.elim
      | err => rw [e1] at p; exact p.elim
    obtain ⟨t', ht', hq'⟩ := hG cdv f c' s1 H1 Q (fun E H' Q' => TI X.K (xsOf X.K cs E) (Ln.ev cf ib) σ H' Q') (fun W pn xe E p1 p2 tk hW => act_lam I1 L hf hfn hfr (hbind _ _ _ _ _) hGu tk hW hr' (fun A outer s H gA hr2 => hbody A outer s H E f c' gA hr2) hNg hva hd hcd) hco hT
    exact ⟨t', ht'.nox, hq'⟩
  · match r, hq with
    | .error e, hq => exact (show False from hq).elim
    | .ok (.ret u), hq => exact I1.after hq
    | .ok .next, hq => exact False.elim hq
    | .ok .brk, hq => exact False.elim hq
    | .ok .cont, hq => exact False.elim hq
end
end LnS
namespace LnS
open PySem PySem.Spec L2 PyProof.Rows
open Ln (D O Store Rho M R Ex)
variable [Tbs]
theorem hu65 {k : Nat} {A : Around} (r : Room k A) : A.units + 65 < cLine := by have := r.un; omega
theorem hu64 {k : Nat} {A : Around} (r : Room k A) : A.units + 64 < cLine := by have := r.un; omega
/-- in a lambda's body -/
theorem lnk_lam {X : Cx} {A : Around} {outer : List Env} {s : Shared} {H : Hp} {E : XK} {scope : Scope} {f c' : Addr} {cs : List Cls} :
    Lnk (LamX.lamCx X A outer s H E scope f c') cs (xsOf X.K cs E) := ⟨⟨fun cls d _ H => E cls d H, takes_of rfl rfl rfl rfl, fun e S H α σ cls d h r => h cls d r⟩⟩
end LnS

set_option linter.all false
set_option maxRecDepth 100000
/-! Ln: an error that is held: e.f, isinstance(e, C); list.index, list.count of truths. -/
namespace LnS
open PySem PySem.Spec L2 PyProof.Rows
open Ln (D O Store Rho M R Ex)
variable [Tbs]
theorem flat_bls (bs : List Bool) : (bs.map V.bl).all flatV = true := by
  induction bs with
  | nil => rfl
  | cons b bs ih => rw [List.map_cons, List.all_cons, ih]; rfl
section
variable {X : Cx} {E : XS} {cf : Nat → List D → M D} {o a : Expr} {es : List Expr} {io ia : Ln.E} {ies : Ln.Es} {apos cpos : Pos}
/-- l.count(b), truths -/
theorem mt_bcount : MtR X "list.count" (fun x xs H Q => ∃ p, ∃ ys : List Bool, ∃ b, x = .ref p ∧ xs = [.bl b] ∧ SqL X.K H p (ys.map V.bl) ∧ Q (.int (ys.count b : Nat)) H) := by
  intro pins s σ H x xs v us Q I rx rs ⟨p, ys, b, ex, ey, hq, q⟩
  subst ex ey
  cases rx
  obtain ⟨u, rfl, ru⟩ := rs.one
  obtain ⟨its, r, ⟨⟨cls, dd, data, sl⟩, n, ho, hc, hdn, hd⟩, hlen⟩ := I.list hq
  simp only at hc hd
  subst hc hd
  obtain rfl : u = Value.bool b := ru
  refine call_meets PySem.F.slot_list_count ⟨_, ho, rfl⟩ PySem.F.entry_list_count (PySem.F.args_list_count_2 _ _) (SeqAt.list_countAt p its.toArray n dd sl (.bool b) (eqU (.bl b)))
    ⟨ho, fun w hw => mem_eqAt (x := .bl b) rfl rfl r (flat_bls ys) w (by simpa using hw), ?_⟩
  have ec : ∀ {ys : List Bool} {its : List Value}, Vals (ys.map V.bl) its → its.countP (eqU (.bl b)) = ys.count b := fun {ys} => by
    induction ys with
    | nil => intro its r; cases r; rfl
    | cons y ys ih =>
      intro its r
      cases r with
      | cons r1 r2 =>
        rename_i w ws
        obtain rfl : w = Value.bool y := r1
        rw [List.countP_cons, ih r2, List.count_cons]
        rfl
  have e2 : its.toArray.toList.countP (eqU (.bl b)) = ys.count b := ec r
  refine ⟨.int (ys.count b : Nat), H, I.tok _, ⟨s.toks, ?_⟩, q⟩
  show Value.int ((its.toArray.toList.countP (eqU (.bl b)) : Nat) : Int) s.toks = _
  rw [e2]
theorem je_bcount (ho : JE X E o (Ln.ev cf io)) (ha : JA X E [a] (Ln.evs cf ies)) (hbase : attributeBase o "count" X.env (eval o X.env) = eval o X.env := by rfl)
    (hfew : ((backTo cpos (starEach [a] X.env)).all (fun x => !x.1) && (backToKw cpos (keywordEach [] X.env)).all (fun x => x.1.isSome)
      && decide ([a].length + ([] : List Keyword).length + (if ([] : List Keyword).isEmpty then 0 else 1) < 30)) = true := by rfl)
    (hline : (apos.endLine == cpos.line) = true := by rfl) (hs : starEach [a] X.env = (false, eval a X.env) :: starEach [] X.env := by rfl) (hplain : (backTo cpos (starEach [] X.env)).any (·.1) = false := by rfl) :
    JE X E (.Call (.Attribute o "count" apos) [a] [] cpos) (Ln.ev cf (.mth .bcount io ies)) :=
  pe_w (pe_bm PySem.F.plainAttrs_list PySem.F.slot_list_count PySem.F.type_list_count mt_bcount ho ha hbase hfew hline hs hplain) fun σ H Q h => by
    obtain ⟨ρ, α, S, rs, re, p⟩ := mth_at h
    refine ⟨ρ, α, S, rs, re, p.mono fun dx S1 H1 α1 _ q v rd => ?_⟩
    obtain ⟨ρ1, α1, S1, dx, rs1, re1, rd1, e, q⟩ := q v rd
    simp only [Ln.mthOk, Option.map_eq_some_iff] at e
    obtain ⟨ys, e, _⟩ := e
    obtain ⟨p0, vs0, rfl, hv0, _⟩ := lst_at rs1 rd1 e
    refine ⟨.inl ⟨rfl, vs0, SqL.of hv0⟩, ?_⟩
    obtain ⟨ρ2, α2, S2, rs2, re2, q⟩ := q
    refine ⟨ρ2, α2, S2, rs2, re2, q.mono fun ds S3 H3 α3 _ q vs rvs => ?_⟩
    obtain ⟨α4, S4, ds, rs4, rd4, _, rds4, p4⟩ := q vs rvs
    obtain ⟨d, e4, p5⟩ := (show Pst _ _ _ _ (M.opt (Ln.blt0 .bcount (_ :: ds)) S4) _ from p4).opt rs4
    simp only [Ln.blt0] at e4
    unfold Ln.bcountF at e4
    split at e4
    · rename_i x b heq
      cases heq
      simp only [Option.bind_eq_some_iff, Option.map_eq_some_iff] at e4
      obtain ⟨xs, e5, bs, e6, rfl⟩ := e4
      obtain ⟨v1, rfl, r1⟩ := rds1 rds4
      cases r1
      obtain ⟨p1, ws, e7, hq, rws⟩ := lst_at rs4 rd4 e5
      cases e7
      have := rws.boolsD e6
      subst this
      exact ⟨_, bs, b, rfl, rfl, SqL.of hq, p5 _ (.int _)⟩
    · cases e4
theorem je_bindex (ho : JE X E o (Ln.ev cf io)) (ha : JA X E [a] (Ln.evs cf ies)) (hbase : attributeBase o "index" X.env (eval o X.env) = eval o X.env := by rfl)
    (hfew : ((backTo cpos (starEach [a] X.env)).all (fun x => !x.1) && (backToKw cpos (keywordEach [] X.env)).all (fun x => x.1.isSome)
      && decide ([a].length + ([] : List Keyword).length + (if ([] : List Keyword).isEmpty then 0 else 1) < 30)) = true := by rfl)
    (hline : (apos.endLine == cpos.line) = true := by rfl) (hs : starEach [a] X.env = (false, eval a X.env) :: starEach [] X.env := by rfl) (hplain : (backTo cpos (starEach [] X.env)).any (·.1) = false := by rfl) :
    JE X E (.Call (.Attribute o "index" apos) [a] [] cpos) (Ln.ev cf (.mth .bindex io ies)) :=
  pe_w (pe_bm PySem.F.plainAttrs_list PySem.F.slot_list_index PySem.F.type_list_index mt_index ho ha hbase hfew hline hs hplain) fun σ H Q h => by
    obtain ⟨ρ, α, S, rs, re, p⟩ := mth_at h
    refine ⟨ρ, α, S, rs, re, p.mono fun dx S1 H1 α1 _ q v rd => ?_⟩
    obtain ⟨ρ1, α1, S1, dx, rs1, re1, rd1, e, q⟩ := q v rd
    simp only [Ln.mthOk, Option.map_eq_some_iff] at e
    obtain ⟨ys, e, _⟩ := e
    obtain ⟨p0, vs0, rfl, hv0, _⟩ := lst_at rs1 rd1 e
    refine ⟨.inl ⟨rfl, vs0, SqL.of hv0⟩, ?_⟩
    obtain ⟨ρ2, α2, S2, rs2, re2, q⟩ := q
    refine ⟨ρ2, α2, S2, rs2, re2, q.mono fun ds S3 H3 α3 _ q vs rvs => ?_⟩
    obtain ⟨α4, S4, ds, rs4, rd4, _, rds4, p4⟩ := q vs rvs
    obtain ⟨d, e4, p5⟩ := (show Pst _ _ _ _ (M.opt (Ln.blt0 .bindex (_ :: ds)) S4) _ from p4).opt rs4
    simp only [Ln.blt0] at e4
    unfold Ln.bindexF at e4
    split at e4
    · rename_i x b heq
      cases heq
      simp only [Option.bind_eq_some_iff] at e4
      obtain ⟨xs, e5, bs, e6, e8⟩ := e4
      split at e8
      · rename_i hb
        cases e8
        obtain ⟨v1, rfl, r1⟩ := rds1 rds4
        cases r1
        obtain ⟨p1, ws, e7, hq, rws⟩ := lst_at rs4 rd4 e5
        cases e7
        have := rws.boolsD e6
        subst this
        have hi := List.idxOf_lt_length_of_mem hb
        refine ⟨_, bs.map V.bl, .bl b, bs.idxOf b, .bl b, rfl, rfl, SqL.of hq, rfl, flat_bls bs, ?_, by simp [eqV], fun m z hm hz => ?_, p5 _ (.int _)⟩
        · rw [List.getElem?_map, List.getElem?_eq_getElem hi, List.getElem_idxOf]; rfl
        · rw [List.getElem?_map, Option.map_eq_some_iff] at hz
          obtain ⟨c, hc, rfl⟩ := hz
          obtain ⟨hl, hc⟩ := List.getElem?_eq_some_iff.mp hc
          have := List.not_of_lt_findIdx (p := (· == b)) (xs := bs) (i := m) hm
          rw [hc] at this
          simpa [eqV] using this
      · cases e8
    · cases e4
end
section
variable {X : Cx} {E : XS} {cf : Nat → List D → M D} {n : Ln.XN} {oe : Obj} {pn : List (Addr × Obj)} {i : Nat} {x f : Str} {p1 p2 p3 p4 : Pos}
/-- e.f -/
theorem je_xval (T : XfC X.K n.C) (hno : PySem.W.findIn X.K (.ref n.C) f = some none) (hz : Zc (.ref n.C) n.d oe) (hf : ∃ vs, oe.data = .fields vs) (hN : X.N[i]? = some x) (hv : Vis X.env.scope x)
    (hd : (x == ("__debug__" : Str)) = false := by decide) (hcd : (x == ("__classdict__" : Str)) = false := by decide) (hb : attributeBase (.Name x p1) f X.env (eval (.Name x p1) X.env) = eval (.Name x p1) X.env := by rfl) :
    JE (X.suite n.a ((n.a, oe) :: pn)) E (.Attribute (.Name x p1) f p2) (Ln.ev cf (.xval i n f)) :=
  pe_w (pe_xf T hno hz hf (pe_var (X := X.suite n.a ((n.a, oe) :: pn)) (i := i) hN hv hd hcd) hb) fun σ H Q ⟨ρ, α, S, rs, re, p⟩ => by
    simp only [Ln.ev] at p
    unfold Ln.getV at p
    split at p
    · rename_i d hd
      obtain ⟨v, e1, r⟩ := re.get i d hd
      replace p : Pst _ _ _ _ (Ln.xvalK n f d S) _ := p
      unfold Ln.xvalK at p
      split at p
      · split at p
        · rename_i hq
          obtain ⟨rfl, rfl⟩ := hq
          cases r with
          | exn1 h1 h2 h3 h4 h5 => exact ⟨_, e1, rfl, rfl, _, _, _, h1, h3, h4, p.ret rs _ h5⟩
        · exact p.elim
      · exact p.elim
    · exact p.elim
/-- isinstance(e, C) -/
theorem je_xis {y : Str} {Cc : Addr} {b : Bool} (T : ExcC X.K n.C) (hk : PySem.W.kitOne X.K (.ref n.C) (.ref Cc) = some b) (hz : Zc (.ref n.C) n.d oe) (hf : ∃ vs, oe.data = .fields vs) (hN : X.N[i]? = some x) (hv : Vis X.env.scope x)
    (hg : Gl X "isinstance") (hm : X.mg "isinstance" = none) (hgc : Gl X y) (hmc : X.mg y = some (.ref Cc))
    (hd : (x == ("__debug__" : Str)) = false := by decide) (hcd : (x == ("__classdict__" : Str)) = false := by decide) (hyd : (y == ("__debug__" : Str)) = false := by decide)
    (he : starEach [.Name x p1, .Name y p2] X.env = (false, eval (.Name x p1) X.env) :: starEach [.Name y p2] X.env := by rfl) (hpl : (backTo p4 (starEach [.Name y p2] X.env)).any (·.1) = false := by rfl) :
    JE (X.suite n.a ((n.a, oe) :: pn)) E (.Call (.Name "isinstance" p3) [.Name x p1, .Name y p2] [] p4) (Ln.ev cf (.xis i n b)) := by
  by_cases hdn : n.d = none
  · rw [hdn] at hz
    refine pe_w (pe_callB (X := X.suite n.a ((n.a, oe) :: pn)) (call_isE T hz hf) hg hm (by decide +kernel) (pa_cons (pe_var (X := X.suite n.a ((n.a, oe) :: pn)) (i := i) hN hv hd hcd) (pa_cons (pe_glob (X := X.suite n.a ((n.a, oe) :: pn)) (v := .ref Cc) hgc hmc rfl hyd) pa_nil) he) (he := he) (hpl := hpl)) fun σ H Q ⟨ρ, α, S, rs, re, p⟩ => ?_
    simp only [Ln.ev] at p
    unfold Ln.getV at p
    split at p
    · rename_i d hd
      obtain ⟨v, e1, r⟩ := re.get i d hd
      replace p : Pst _ _ _ _ (Ln.xisK n b d S) _ := p
      unfold Ln.xisK at p
      split at p
      · split at p
        · rename_i hq
          subst hq
          cases r with
          | exn0 h1 => exact ⟨_, e1, .ref Cc, .ref Cc, b, rfl, fun u hu => hu, hk, p.ret rs _ (.bl b)⟩
        · exact p.elim
      · exact p.elim
    · exact p.elim
  · refine ⟨fun pins s σ H Q I ⟨ρ, α, S, rs, re, p⟩ => ?_⟩
    simp only [Ln.ev] at p
    unfold Ln.getV at p
    split at p
    · rename_i d hd
      obtain ⟨v, e1, r⟩ := re.get i d hd
      replace p : Pst _ _ _ _ (Ln.xisK n b d S) _ := p
      unfold Ln.xisK at p
      split at p
      · split at p
        · rename_i hq
          subst hq
          cases r with
          | exn0 h1 => exact absurd h1 hdn
        · exact p.elim
      · exact p.elim
    · exact p.elim
end
end LnS

set_option linter.all false
set_option maxRecDepth 100000
/-! Ln: sets of texts, sorted at once. -/
namespace LnS
open PySem PySem.Spec L2 PyProof.Rows PySem.Froz
open Ln (D O Store Rho M R Ex)
section
variable {P : Program} {w : World} {A : Around} {E : Value → Shared → Prop} {s : Shared}
/-- the payload of a set that holds the texts l -/
structure TxR (P : Program) (w : World) (d : SD) (l : List Str) : Prop where
  tx : TxOk P w d l
  nd : l.Nodup
  ris : Ris d.2.2.place.toList
  led : w.params.followText "set-order" = true ∨ d.2.2.led = true
theorem txr_new : TxR P w (#[], 0, .fresh 0 0 (!w.params.followText "set-order")) [] := ⟨.nil rfl, List.nodup_nil, List.Pairwise.nil, by
  show _ ∨ (!w.params.followText "set-order") = true
  cases w.params.followText "set-order"
  · exact .inr rfl
  · exact .inl rfl⟩
theorem addTx_ris {h : Int} {v : Value} {d : SD} (r : Ris d.2.2.place.toList) : Ris (addTx h v d).2.2.place.toList ∧ (addTx h v d).2.2.led = d.2.2.led := by
  obtain ⟨es, ep, t⟩ := d
  have h1 := layNew_ris t es h v r
  have h2 := layNew_led t es h v
  unfold addTx tailTx
  dsimp only
  generalize layNew t es h v = L at h1 h2 ⊢
  have h3 : Ris (if L.2.1.plain = true then { L.2.1 with plain := false } else L.2.1).place.toList ∧ (if L.2.1.plain = true then { L.2.1 with plain := false } else L.2.1).led = t.led := by
    split
    · exact ⟨h1, h2⟩
    · exact ⟨h1, h2⟩
  generalize (if L.2.1.plain = true then { L.2.1 with plain := false } else L.2.1) = T at h3 ⊢
  split
  · exact ⟨relayAll_ris _ _ _, (relayAll_led _ _ _).trans h3.2⟩
  · exact h3
theorem TxR.add {d : SD} {l : List Str} {k : Str} (u : Tok) (r : TxR P w d l) (hk : k ∉ l) : TxR P w (addTx (hashStr w k) (.str k u) d) (k :: l) :=
  ⟨add_ok u r.tx, List.nodup_cons.mpr ⟨hk, r.nd⟩, (addTx_ris r.ris).1, by rw [(addTx_ris r.ris).2]; exact r.led⟩
/-- one is added, be it new or not -/
theorem add_txt {a : Addr} {d : SD} {l : List Str} {k : Str} {u : Tok} {Q : Bool → Shared → Prop} (ho : s.heap.get? a = some (sObj "set" d)) (r : TxR P w d l) (hb : l.length + 1 < scanBound)
    (h : ∀ b h' d', Heap.SameBut a s.heap h' → h'.get? a = some (sObj "set" d') → TxR P w d' (if k ∈ l then l else k :: l) → Q b { s with heap := h' }) : wpAny (model P w) A (setAddHashed a (.str k u) (hashStr w k)) Q E s := by
  by_cases hk : k ∈ l
  · have z := h false s.heap d (Heap.SameBut.refl a s.heap) ho (by rw [if_pos hk]; exact r)
    obtain ⟨es, ep, t⟩ := d
    have hd : (sObj "set" (es, ep, t)).data = .set es ep t := rfl
    have hel : ElemsOf (strKind P w) es.toList := r.tx.el
    have hkey : (strKind P w).is k (.str k u) = true := is_str k u
    have hsz : es.size = l.length := r.tx.sz
    unfold setAddHashed setAddHashedIn
    refine wpAny_holding (wpAny_bind (wpAny_setState_of ho hd r.tx.fit ?_))
    dsimp only
    rw [byScan_of rfl (by omega) hel]
    simp only [↓reduceIte]
    unfold setAddByScan
    refine wpAny_bind ?_
    refine wpAny_bind (wpAny_rule ?_)
    refine wpAny_bind (wpAny_setScan_of (knd := strKind P w) (k := k) hkey ho hd r.tx.fit hel ?_)
    cases hfi : List.findIdx? (fun e => (strKind P w).is k e.2) es.toList with
    | some j =>
      dsimp only
      exact wpAny_pure (wpAny_pure z)
    | none =>
      obtain ⟨e, he, q⟩ := (r.tx.mem k).mp hk
      have c := List.findIdx?_eq_none_iff.mp hfi e he
      rw [q] at c
      cases c
  · refine add_x ho r.tx hk hb (h true _ _ ?_ (get_upd _ ho rfl) (by rw [if_neg hk]; exact r.add u hk))
    exact ⟨(Heap.size_update ..), fun b hb => Heap.get?_update_other _ _ (Ne.symm hb)⟩
theorem strs_of : ∀ (l : List (Int × Value)), (∀ e ∈ l, ∃ k u, e.2 = Value.str k u) → ∃ ys : List Str, StrsAre (l.map (·.2)) ys ∧ ∀ k, k ∈ ys ↔ ∃ e ∈ l, (strKind P w).is k e.2 = true
  | [], _ => ⟨[], .nil, fun k => by simp⟩
  | e :: l, h => by
    obtain ⟨k, u, hk⟩ := h e List.mem_cons_self
    obtain ⟨ys, h1, h2⟩ := strs_of l fun e he => h e (List.mem_cons_of_mem _ he)
    refine ⟨k :: ys, by rw [List.map_cons, hk]; exact .cons k u h1, fun x => ?_⟩
    have he : (strKind P w).is x e.2 = true ↔ x = k := by
      rw [hk]
      show (k == x) = true ↔ _
      rw [beq_iff_eq]
      exact eq_comm
    constructor
    · intro hm
      rcases List.mem_cons.mp hm with z | z
      · exact ⟨e, List.mem_cons_self, he.mpr z⟩
      · obtain ⟨e', h3, h4⟩ := (h2 x).mp z
        exact ⟨e', List.mem_cons_of_mem _ h3, h4⟩
    · rintro ⟨e', h3, h4⟩
      rcases List.mem_cons.mp h3 with z | z
      · rw [z] at h4
        exact List.mem_cons.mpr (.inl (he.mp h4))
      · exact List.mem_cons_of_mem _ ((h2 x).mpr ⟨e', z, h4⟩)
theorem nodup_perm {α : Type} [DecidableEq α] : ∀ (l ys : List α), l.Nodup → (∀ x ∈ l, x ∈ ys) → ys.length = l.length → ys.Perm l
  | [], ys, _, _, hl => by rw [List.length_eq_zero_iff.mp hl]
  | x :: r, ys, nd, hm, hl => by
    obtain ⟨n1, n2⟩ := List.nodup_cons.mp nd
    have hx := hm x List.mem_cons_self
    have p := List.perm_cons_erase hx
    refine p.trans (.cons x (nodup_perm r (ys.erase x) n2 (fun y hy => ?_) ?_))
    · exact (List.mem_erase_of_ne (fun z : y = x => n1 (by rw [← z]; exact hy))).mpr (hm y (List.mem_cons_of_mem _ hy))
    · rw [List.length_erase_of_mem hx, hl]; rfl
theorem perm_strs : ∀ {vs us : List Value} {ys : List Str}, StrsAre us ys → vs.Perm us → ∃ zs, StrsAre vs zs ∧ zs.Perm ys := fun {vs us ys} h p => by
  induction p generalizing ys with
  | nil => cases h; exact ⟨[], .nil, .refl _⟩
  | cons x p ih =>
    cases h with
    | cons k u h =>
      obtain ⟨zs, h1, h2⟩ := ih h
      exact ⟨k :: zs, .cons k u h1, .cons k h2⟩
  | swap x y l =>
    cases h with
    | cons k u h =>
      cases h with
      | cons k' u' h => exact ⟨k' :: k :: _, .cons k' u' (.cons k u h), .swap k k' _⟩
  | trans p1 p2 ih1 ih2 =>
    obtain ⟨zs, h1, h2⟩ := ih2 h
    obtain ⟨z2, h3, h4⟩ := ih1 h1
    exact ⟨z2, h3, h4.trans h2⟩
/-- sorted(a set of texts) -/
theorem sorted_txt {a : Addr} {d : SD} {l : List Str} {Q : Value → Shared → Prop} (ho : s.heap.get? a = some (sObj "set" d)) (r : TxR P w d l) (hh : A.handled = none) (h64 : l.length < 64)
    (hQ : ∀ s' p (out : Array Value) (c : Nat) (zs : List Str), (∀ b o, s.heap.get? b = some o → s'.heap.get? b = some o) → s'.gens = s.gens → s'.os = s.os → s.heap.objs.size ≤ p →
      s'.heap.get? p = some (seqObj "list" out c) → StrsAre out.toList zs → zs.Perm l → sortedS zs = true → Q (.ref p) s') :
    wpAny (model P w) A (call (.builtin "sorted") [.ref a]) Q E s := by
  obtain ⟨es, ep, t⟩ := d
  have hsz : es.size = l.length := r.tx.sz
  have hsb : es.size < scanBound := by rw [hsz]; exact Nat.lt_trans h64 (by decide)
  obtain ⟨ys, hy1, hy2⟩ := strs_of (P := P) (w := w) es.toList fun e he => by
    obtain ⟨⟨k, h1, _⟩, _⟩ := r.tx.el e he
    have h1 : Value.isStrOf k e.2 = true := h1
    cases hv : e.2 with
    | str k' u => exact ⟨k', u, rfl⟩
    | _ => rw [hv] at h1; exact absurd h1 Bool.false_ne_true
  have pl : ys.Perm l := nodup_perm l ys r.nd (fun x hx => (hy2 x).mpr ((r.tx.mem x).mp hx)) (by rw [← hy1.length, List.length_map, Array.length_toList]; exact hsz)
  refine Calls.call_function_entry kind_sorted plain_sorted entry_sorted (args_sorted1 _) ?_
  unfold Builtin.«sorted»
  refine wpAny_bind (m := checkCount "sorted" 1 1 _) (wpAny_pure ?_)
  refine wpAny_bind (collect_set (A := A.in1) hh ⟨_, ho, rfl, rfl⟩ r.tx.fit hsb r.ris r.led fun s1 vs k1 hz g1 o1 pm => ?_)
  obtain ⟨zs, hS, pz⟩ := perm_strs hy1 pm
  have hvl : vs.length < 64 := by rw [hS.length, (pz.trans pl).length_eq]; exact h64
  refine wpAny_bind (wpAny_newList ?_ (by rw [sizeLine_eq]; omega))
  have hoL : (s1.heap.push (seqObj "list" vs.toArray 0)).get? s1.heap.objs.size = some (seqObj "list" vs.toArray 0) := Heap.get?_push_size _ rfl
  refine wpAny_bind (wpAny_holding (wpAny_call_entry slot_list_sort ⟨_, hoL, rfl⟩ entry_list_sort (list_sort_treeK strKind_oneLt hoL hS.keysOf (fun v₁ v₂ rest e => keyKind_strs (by rw [← e]; exact hS)) hvl fun st' a1 a2 => ⟨_, rfl, ?_⟩) (args_list_sort _)))
  obtain ⟨ss', h1, h2, h3⟩ := sorted_out_str hS a1 a2
  obtain ⟨c, hc⟩ := sortedHeap_at (vs := vs) (out := (arrOf st').map (·.2)) hoL
  refine wpAny_pure ⟨_, rfl, hQ _ s1.heap.objs.size _ c ss' (fun b u e => ?_) g1 o1 hz hc h1 ((h2.trans pz).trans pl) h3⟩
  have q := k1 b u e
  have hlt := Heap.lt_size q
  show (sortedHeap (s1.heap.push (seqObj "list" vs.toArray 0)) s1.heap.objs.size vs _).get? b = some u
  rw [sortedHeap_old (Nat.ne_of_lt hlt) (by rw [size_push']; exact Nat.lt_succ_of_lt hlt)]
  exact Heap.get?_push_of_some _ q
/-- at a: a set of just the texts xs -/
def HasT (P : Program) (w : World) (h : Heap) (a : Addr) (xs : List Str) : Prop := ∃ (d : SD) (l : List Str), h.get? a = some (sObj "set" d) ∧ TxR P w d l ∧ (∀ x, x ∈ l ↔ x ∈ xs) ∧ l.length ≤ xs.length
theorem HasT.at {h h' : Heap} {a : Addr} {xs : List Str} (x : HasT P w h a xs) (k : ∀ o, h.get? a = some o → h'.get? a = some o) : HasT P w h' a xs := by
  obtain ⟨d, l, h1, r⟩ := x
  exact ⟨d, l, k _ h1, r⟩
theorem hasT_new {h : Heap} {a : Addr} (ho : h.get? a = some { cls := .type "set", dict := none, data := .set #[] 0 (.fresh 0 0 (!w.params.followText "set-order")) }) : HasT P w h a [] := ⟨(#[], 0, .fresh 0 0 (!w.params.followText "set-order")), [], ho, txr_new, fun x => Iff.rfl, Nat.le_refl _⟩
/-- set.add of a text -/
theorem hasT_add {a : Addr} {xs : List Str} {k : Str} {u : Tok} {Q : Bool → Shared → Prop} (R : HasT P w s.heap a xs) (hb : xs.length + 1 < scanBound)
    (h : ∀ b h', Heap.SameBut a s.heap h' → HasT P w h' a (xs ++ [k]) → Q b { s with heap := h' }) : wpAny (model P w) A (setAddHashed a (.str k u) (hashStr w k)) Q E s := by
  obtain ⟨d, l, ho, r, hm, hl⟩ := R
  refine add_txt ho r (by omega) fun b h' d' sb ho' r' => h b h' sb ⟨d', _, ho', r', fun x => ?_, ?_⟩
  · rw [List.mem_append, List.mem_singleton, ← hm x]
    by_cases hk : k ∈ l
    · rw [if_pos hk]
      exact ⟨.inl, fun z => z.elim id fun e => e ▸ hk⟩
    · rw [if_neg hk, List.mem_cons]
      exact or_comm
  · rw [List.length_append]
    by_cases hk : k ∈ l
    · rw [if_pos hk]; simp; omega
    · rw [if_neg hk]; simp; omega
theorem upd_txt {I : Addr} {fp wr : List Addr} {G : Array GenState → Array GenState → Prop} {n : Nat} {Pv : Nat → Value → Prop} {St : Nat → Shared → Prop} {R : Result → Shared → Prop}
    (W : WalksS P w A.in1 I fp wr G n Pv St) (S : Addr) (hSf : S ∉ fp) (xs : List Str) (hn : n = xs.length) (hb : xs.length + 1 < scanBound) (hval : ∀ i v, Pv i v → ∃ k t, xs[i]? = some k ∧ v = .str k t) :
    ∀ (k i : Nat) (s : Shared), n - i = k → i ≤ n → St i s → HasT P w s.heap S (xs.take i) → (∀ s', Moved (S :: wr) G s s' → HasT P w s'.heap S xs → R (.ok (.ret .none)) s') →
      codeAny (model P w) A (.builtin "set.update.loop" ⟨[.ref S, .ref I], []⟩) R s := by
  have hSw : S ∉ wr := fun h => hSf (W.sub _ h)
  have hsub : ∀ b ∈ wr, b ∈ S :: wr := fun b hb => List.mem_cons_of_mem _ hb
  intro k
  induction k with
  | zero =>
    intro i s hk' hi hst hS hR
    obtain rfl : i = n := by omega
    refine codeAny_builtin PyProof.Rows.F.entry_set_update_loop ?_
    rw [Around.under_plainId PyProof.Rows.F.plain_set_update_loop _]
    show wpAny _ A.in1 (pyNext (.ref I) >>= _) _ _ s
    refine wpAny_bind (W.done s _ _ hst fun s' hm => ?_)
    show wpAny _ A.in1 (ret Value.none) _ _ s'
    rw [List.take_of_length_le (by omega)] at hS
    exact wpAny_pure (hR s' (hm.mono hsub) (hS.at fun o e => hm.heap S o hSw e))
  | succ k ih =>
    intro i s hk' hi hst hS hR
    have hlt : i < n := by omega
    refine codeAny_builtin PyProof.Rows.F.entry_set_update_loop ?_
    rw [Around.under_plainId PyProof.Rows.F.plain_set_update_loop _]
    show wpAny _ A.in1 (pyNext (.ref I) >>= _) _ _ s
    refine wpAny_bind (W.item i s _ _ hlt hst fun v s' hP hst' hm => ?_)
    obtain ⟨z, t, hz, rfl⟩ := hval i v hP
    have hS' : HasT P w s'.heap S (xs.take i) := hS.at fun o e => hm.heap S o hSw e
    show wpAny _ A.in1 (holding [Value.str z t] (setAdd S (.str z t)) >>= _) _ _ s'
    refine wpAny_bind (wpAny_holding ?_)
    unfold setAdd
    refine wpAny_holding ?_
    refine wpAny_bind ((strKind P w).pyHash (is_str z t) ?_)
    refine hasT_add (s := { s' with toks := s'.toks + 1 }) hS' (by rw [List.length_take]; omega) fun b h' hsb hS2 => ?_
    have hS3 : HasT P w h' S (xs.take (i + 1)) := by rw [List.take_add_one, hz]; exact hS2
    refine wpAny_pure ⟨plainId_quiet PyProof.Rows.F.plain_set_update_loop _, ih (i + 1) _ (by omega) hlt (W.frame _ s' _ _ hst' (Nat.le_succ _) fun b hb o e => ?_) hS3 fun s'' hm'' hS'' => ?_⟩
    · rw [hsb.2 b (fun h : b = S => hSf (by rw [← h]; exact hb))]; exact e
    · refine hR s'' (Moved.trans W.gtrans ((hm.mono hsub).then_heap (Nat.le_succ _) fun b o hb e => ?_) hm'') hS''
      rw [hsb.2 b (fun h : b = S => hb (by rw [h]; exact List.mem_cons_self))]; exact e
abbrev emptyS (w : World) : Obj := { cls := .type "set", dict := none, data := .set #[] 0 (.fresh 0 0 (!w.params.followText "set-order")) }
theorem strs_item : ∀ {vs : List Value} {ys : List Str}, StrsAre vs ys → ∀ (i : Nat) (v : Value), vs[i]? = some v → ∃ k t, ys[i]? = some k ∧ v = .str k t
  | _, _, .nil, i, v, h => by simp at h
  | _, _, .cons k u r, 0, v, h => by
    simp only [List.getElem?_cons_zero, Option.some.injEq] at h
    exact ⟨k, u, rfl, h.symm⟩
  | _, _, .cons k u r, i + 1, v, h => by
    simp only [List.getElem?_cons_succ] at h ⊢
    exact strs_item r i v h
set_option maxHeartbeats 3200000 in
/-- set(a list of texts) -/
theorem set_of_list {l : Addr} {items : Array Value} {xs : List Str} {Q : Value → Shared → Prop} (hh : A.handled = none) (hl : s.heap.IsList l items) (hi : StrsAre items.toList xs) (hb : xs.length + 1 < scanBound)
    (h : ∀ (h' : Heap) (tk : Nat), HasT P w h' s.heap.objs.size xs → (∀ b o, s.heap.get? b = some o → h'.get? b = some o) → Q (.ref s.heap.objs.size) { s with heap := h', toks := tk }) :
    wpAny (model P w) A (call (.type "set") [.ref l]) Q E s := by
  have hlen : items.size = xs.length := by rw [← hi.length, Array.length_toList]
  obtain ⟨c, tl, hmro⟩ := PySem.F.called_set.mro
  have k1 := PySem.F.called_set.made
  have k2 := PySem.F.called_set.sub
  refine wpAny_call (codeAny_of_tree (show wpAny _ _ (callAny (.type "set") _) _ _ _ from wpAny_pure ⟨Code.quiet_builtin _ (by decide +kernel), codeAny_builtin PySem.F.entry_type_call ?_⟩))
  rw [Around.under_plain (weight_type_call_type "set" [.ref l] []) rfl]
  have k3 := PySem.F.called_set.notType
  have k4 := PySem.F.called_set.canCreate
  have k5 := PySem.F.typeCall_set_1 (.ref l)
  repeat (any_goals (first | assumption | wp_step))
  refine codeAny_mono (code_set_led1 (.ref l) (E := E) (Q₁ := fun ob s1 => ob = .ref s.heap.objs.size ∧ s1 = { s with heap := s.heap.push (emptyS w) }) ⟨rfl, rfl⟩) fun r s1 hr => ?_
  match r, hr with
  | .error e, hr => exact hr
  | .ok .next, hr => exact hr.elim
  | .ok .brk, hr => exact hr.elim
  | .ok .cont, hr => exact hr.elim
  | .ok (.ret ob), ⟨e1, e2⟩ =>
  subst e1 e2
  have at_s : (s.heap.push (emptyS w)).get? s.heap.objs.size = some (emptyS w) := Heap.get?_push_size _ rfl
  have hT : Shared.TypeIs { s with heap := s.heap.push (emptyS w) } (.ref s.heap.objs.size) "set" := ⟨_, at_s, rfl⟩
  have k6 := PySem.F.called_set.init.lookup
  have k7 := PySem.F.called_set.init.bind (.ref s.heap.objs.size)
  repeat (any_goals (first | assumption | wp_step))
  refine codeAny_mono (codeAny_call_builtin (R := wants (fun r s2 => r = .none ∧ ∃ h' tk, s2 = { s with heap := h', toks := tk } ∧ HasT P w h' s.heap.objs.size xs ∧ ∀ b o, s.heap.get? b = some o → h'.get? b = some o) E)
    PySem.F.called_set.init.plain PySem.F.entry_set_init (check_set_init_1 hT ?_)) fun r2 s2 hr2 => ?_
  · obtain ⟨⟨ocls, odict, odata, oslots⟩, hol, hcl, nl, hdl⟩ := hl
    simp only at hcl hdl
    subst hcl hdl
    have lt_l : l < s.heap.objs.size := Heap.lt_size hol
    have at_l : (s.heap.push (emptyS w)).get? l = some { cls := .type "list", dict := odict, data := .seq items nl, slots := oslots } := Heap.get?_push_of_some _ hol
    have k8 := PySem.F.sub_list_set
    have k9 := PySem.F.sub_list_frozenset
    have ne : (Value.type "list" == Value.type "dict") = false := by decide
    have isl : (s.heap.push (emptyS w)).IsList l items := ⟨_, at_l, rfl, nl, rfl⟩
    unfold Builtin.«set.__init__» noKeywords Builtin.Frozenset.updateFrom
    generalize hPI : pyIter = PI
    wp_walk
    subst hPI
    refine wpAny_pyIter_list isl (wpAny_bind (wpAny_runValue ?_))
    have zz : (s.heap.push (emptyS w)).objs.size = s.heap.objs.size + 1 := Heap.size_push ..
    have ne1 : l ≠ (s.heap.push (emptyS w)).objs.size := by rw [zz]; exact Nat.ne_of_lt (Nat.lt_succ_of_lt lt_l)
    have ne2 : s.heap.objs.size ∉ [(s.heap.push (emptyS w)).objs.size, l] := by
      simp only [List.mem_cons, List.not_mem_nil, or_false, not_or]
      exact ⟨by rw [zz]; exact Nat.ne_of_lt (Nat.lt_succ_self _), Nat.ne_of_gt lt_l⟩
    refine upd_txt ((Walks.list (show A.in1.in1.in1.handled = none by simp [hh]) _ l ne1 items).toS) s.heap.objs.size ne2 xs hlen hb (fun i v hv => strs_item hi i v (by rw [Array.getElem?_toList]; exact hv)) (items.size - 0) 0 _ (by omega) (Nat.zero_le _)
      ⟨⟨_, Heap.get?_push_size _ rfl, rfl, rfl⟩, isl.push _⟩ (by rw [List.take_zero]; exact hasT_new (Heap.get?_push_of_some _ at_s)) fun s' hm hS' => ?_
    obtain ⟨h', g2, d', tk', os'⟩ := s'
    have eg : g2 = s.gens := hm.gens
    have ed : d' = s.drawn := hm.drawn
    have eo : os' = s.os := hm.os
    subst eg ed eo
    show wpAny _ _ _ _ _ _
    refine wpAny_pure (show wpAny _ _ (ret Value.none) _ _ _ from wpAny_pure ⟨rfl, h', tk', rfl, hS', fun b o e => ?_⟩)
    have := Heap.lt_size e
    exact hm.heap b o (by simp only [List.mem_cons, List.not_mem_nil, or_false, not_or]; exact ⟨Nat.ne_of_lt this, by rw [zz]; exact Nat.ne_of_lt (Nat.lt_succ_of_lt this)⟩) (Heap.get?_push_of_some _ (Heap.get?_push_of_some _ e))
  · match r2, hr2 with
    | .error e, hr2 => exact hr2
    | .ok .next, hr2 => exact hr2.elim
    | .ok .brk, hr2 => exact hr2.elim
    | .ok .cont, hr2 => exact hr2.elim
    | .ok (.ret r), ⟨e3, h', tk, e4, hS', hk'⟩ =>
      subst e3 e4
      repeat (any_goals (first | assumption | wp_step))
      exact h _ _ hS' hk'
set_option maxHeartbeats 3200000 in
/-- set(a tuple of texts) -/
theorem set_of_tuple {l : Addr} {items : Array Value} {xs : List Str} {Q : Value → Shared → Prop} (hh : A.handled = none) (hl : s.heap.IsTuple l items) (hi : StrsAre items.toList xs) (hb : xs.length + 1 < scanBound)
    (h : ∀ (h' : Heap) (tk : Nat), HasT P w h' s.heap.objs.size xs → (∀ b o, s.heap.get? b = some o → h'.get? b = some o) → Q (.ref s.heap.objs.size) { s with heap := h', toks := tk }) :
    wpAny (model P w) A (call (.type "set") [.ref l]) Q E s := by
  have hlen : items.size = xs.length := by rw [← hi.length, Array.length_toList]
  obtain ⟨c, tl, hmro⟩ := PySem.F.called_set.mro
  have k1 := PySem.F.called_set.made
  have k2 := PySem.F.called_set.sub
  refine wpAny_call (codeAny_of_tree (show wpAny _ _ (callAny (.type "set") _) _ _ _ from wpAny_pure ⟨Code.quiet_builtin _ (by decide +kernel), codeAny_builtin PySem.F.entry_type_call ?_⟩))
  rw [Around.under_plain (weight_type_call_type "set" [.ref l] []) rfl]
  have k3 := PySem.F.called_set.notType
  have k4 := PySem.F.called_set.canCreate
  have k5 := PySem.F.typeCall_set_1 (.ref l)
  repeat (any_goals (first | assumption | wp_step))
  refine codeAny_mono (code_set_led1 (.ref l) (E := E) (Q₁ := fun ob s1 => ob = .ref s.heap.objs.size ∧ s1 = { s with heap := s.heap.push (emptyS w) }) ⟨rfl, rfl⟩) fun r s1 hr => ?_
  match r, hr with
  | .error e, hr => exact hr
  | .ok .next, hr => exact hr.elim
  | .ok .brk, hr => exact hr.elim
  | .ok .cont, hr => exact hr.elim
  | .ok (.ret ob), ⟨e1, e2⟩ =>
  subst e1 e2
  have at_s : (s.heap.push (emptyS w)).get? s.heap.objs.size = some (emptyS w) := Heap.get?_push_size _ rfl
  have hT : Shared.TypeIs { s with heap := s.heap.push (emptyS w) } (.ref s.heap.objs.size) "set" := ⟨_, at_s, rfl⟩
  have k6 := PySem.F.called_set.init.lookup
  have k7 := PySem.F.called_set.init.bind (.ref s.heap.objs.size)
  repeat (any_goals (first | assumption | wp_step))
  refine codeAny_mono (codeAny_call_builtin (R := wants (fun r s2 => r = .none ∧ ∃ h' tk, s2 = { s with heap := h', toks := tk } ∧ HasT P w h' s.heap.objs.size xs ∧ ∀ b o, s.heap.get? b = some o → h'.get? b = some o) E)
    PySem.F.called_set.init.plain PySem.F.entry_set_init (check_set_init_1 hT ?_)) fun r2 s2 hr2 => ?_
  · obtain ⟨⟨ocls, odict, odata, oslots⟩, hol, hcl, nl, hdl⟩ := hl
    simp only at hcl hdl
    subst hcl hdl
    have lt_l : l < s.heap.objs.size := Heap.lt_size hol
    have at_l : (s.heap.push (emptyS w)).get? l = some { cls := .type "tuple", dict := odict, data := .seq items nl, slots := oslots } := Heap.get?_push_of_some _ hol
    have k8 := PySem.F.sub_tuple_set
    have k9 := PySem.F.sub_tuple_frozenset
    have ne : (Value.type "tuple" == Value.type "dict") = false := by decide
    have isl : (s.heap.push (emptyS w)).IsTuple l items := ⟨_, at_l, rfl, nl, rfl⟩
    unfold Builtin.«set.__init__» noKeywords Builtin.Frozenset.updateFrom
    generalize hPI : pyIter = PI
    wp_walk
    subst hPI
    refine wpAny_pyIter_tuple isl (wpAny_bind (wpAny_runValue ?_))
    have zz : (s.heap.push (emptyS w)).objs.size = s.heap.objs.size + 1 := Heap.size_push ..
    have ne1 : l ≠ (s.heap.push (emptyS w)).objs.size := by rw [zz]; exact Nat.ne_of_lt (Nat.lt_succ_of_lt lt_l)
    have ne2 : s.heap.objs.size ∉ [(s.heap.push (emptyS w)).objs.size, l] := by
      simp only [List.mem_cons, List.not_mem_nil, or_false, not_or]
      exact ⟨by rw [zz]; exact Nat.ne_of_lt (Nat.lt_succ_self _), Nat.ne_of_gt lt_l⟩
    refine upd_txt ((Walks.tuple (show A.in1.in1.in1.handled = none by simp [hh]) _ l ne1 items).toS) s.heap.objs.size ne2 xs hlen hb (fun i v hv => strs_item hi i v (by rw [Array.getElem?_toList]; exact hv)) (items.size - 0) 0 _ (by omega) (Nat.zero_le _)
      ⟨⟨_, Heap.get?_push_size _ rfl, rfl, rfl⟩, isl.push _⟩ (by rw [List.take_zero]; exact hasT_new (Heap.get?_push_of_some _ at_s)) fun s' hm hS' => ?_
    obtain ⟨h', g2, d', tk', os'⟩ := s'
    have eg : g2 = s.gens := hm.gens
    have ed : d' = s.drawn := hm.drawn
    have eo : os' = s.os := hm.os
    subst eg ed eo
    show wpAny _ _ _ _ _ _
    refine wpAny_pure (show wpAny _ _ (ret Value.none) _ _ _ from wpAny_pure ⟨rfl, h', tk', rfl, hS', fun b o e => ?_⟩)
    have := Heap.lt_size e
    exact hm.heap b o (by simp only [List.mem_cons, List.not_mem_nil, or_false, not_or]; exact ⟨Nat.ne_of_lt this, by rw [zz]; exact Nat.ne_of_lt (Nat.lt_succ_of_lt this)⟩) (Heap.get?_push_of_some _ (Heap.get?_push_of_some _ e))
  · match r2, hr2 with
    | .error e, hr2 => exact hr2
    | .ok .next, hr2 => exact hr2.elim
    | .ok .brk, hr2 => exact hr2.elim
    | .ok .cont, hr2 => exact hr2.elim
    | .ok (.ret r), ⟨e3, h', tk, e4, hS', hk'⟩ =>
      subst e3 e4
      repeat (any_goals (first | assumption | wp_step))
      exact h _ _ hS' hk'
end
end LnS

set_option linter.all false
set_option maxRecDepth 100000
namespace LnS
open PySem PySem.Spec L2 PyProof.Rows PySem.Froz
open Ln (D O Store Rho M R Ex)
section
variable {X : Cx} {a : Expr} {t : TA} {p1 p2 q1 q2 : Pos}
/-- sorted(set(a)), a list or a tuple of texts -/
def rSset (K : Frag) : List V → Hp → VK → Prop := fun vs H Q => ∃ (b : Addr) (xs : List Str), vs = [.ref b] ∧ (SqL K H b (xs.map V.str) ∨ SqT K H b (xs.map V.str)) ∧ xs.length < 64 ∧
  ∀ (zs : List Str) (p : Addr), zs.Nodup → (∀ x, x ∈ zs ↔ x ∈ xs) → sortedS zs = true → H p = none → Q (.ref p) (upd H p (.lst (zs.map V.str)))
/-- the end: a new list of texts -/
theorem ended_txt {pins : List (Addr × Obj)} {σ : L2.St} {H : Hp} {s s' : Shared} {p : Addr} {out : Array Value} {c : Nat} {zs : List Str} {Q : VK} (I : Inv X pins σ H s) (k : ∀ b o, s.heap.get? b = some o → s'.heap.get? b = some o) (g : s'.gens = s.gens) (o : s'.os = s.os) (hp : s.heap.objs.size ≤ p)
    (hg : s'.heap.get? p = some (seqObj "list" out c)) (hS : StrsAre out.toList zs) (hl : zs.length < 64) (q : H p = none → Q (.ref p) (upd H p (.lst (zs.map V.str)))) : EP X pins σ Q (.ref p) s' := by
  have hn : H p = none := I.hok.fresh hp
  have hlen : (zs.map V.str).length ≤ sizeLine := by rw [List.length_map]; exact small64 hl
  have J : Inv X pins σ (upd H p (.lst (zs.map V.str))) { s with heap := s'.heap, gens := s'.gens, drawn := s'.drawn, toks := s'.toks } :=
    I.call (ch := []) (Un.laid k hp hn) (I.hok.laid k hp ⟨hlen, out.toList, c, vals_of_strs hS, hg⟩) (by rw [g]; exact I.bare) (fun _ z => nomatch z)
  have e : s' = { s with heap := s'.heap, gens := s'.gens, drawn := s'.drawn, toks := s'.toks } := by
    cases s'
    cases s
    cases o
    rfl
  exact ⟨.ref p, _, by rw [e]; exact J, rfl, q hn⟩
theorem pe_sset (hc : X.calm = true) (g1 : Gl X "sorted") (m1 : X.mg "sorted" = none) (g2 : Gl X "set") (m2 : X.mg "set" = none) (ha : PA X [a] t) (he : starEach [a] X.env = (false, eval a X.env) :: starEach [] X.env := by rfl) :
    PE X (.Call (.Name "sorted" p1) [.Call (.Name "set" q1) [a] [] q2] [] p2) (tCB (rSset X.K) t) := by
  refine ⟨fun pins s σ H Q I h => ?_⟩
  refine wpAny_Call_Name_kw (ld_blt I g1 m1 (u := .builtin "sorted") (by decide +kernel) ?_)
  refine PyProof.Rows.callWith_builtin1 ?_ rfl rfl
  show wpAny _ _ (spliced ((false, eval (.Call (.Name "set" q1) [a] [] q2) X.env) :: backTo p2 (starEach [] X.env))) _ _ s
  refine Calls.spliced_cons (wpAny_Call_Name_kw (ld_blt I g2 m2 (u := .type "set") (by decide +kernel) ?_))
  refine PyProof.Rows.callWith_type1 (thn (ha.run q2 pins s σ H _ I h) fun us s1 ⟨vs, H1, I1, r1, b, xs, ev, hq, h64, q⟩ => ?_) he rfl
  subst ev
  rw [Vals.ref1 r1]
  have hh := I1.ok.hd hc
  have fin : ∀ (h' : Heap) (tk : Nat), HasT X.prog X.w h' s1.heap.objs.size xs → (∀ b o, s1.heap.get? b = some o → h'.get? b = some o) →
      wpAny (model X.prog X.w) X.A (call (.builtin "sorted") [.ref s1.heap.objs.size]) (EP X pins σ Q) X.xe { s1 with heap := h', toks := tk } := fun h' tk ⟨d, l, ho, r, hm, hl⟩ k => by
    refine sorted_txt (s := { s1 with heap := h', toks := tk }) ho r hh (Nat.lt_of_le_of_lt hl h64) fun s' p out c zs k2 g2 o2 hp hg hS pm hs => ?_
    have lt : s1.heap.objs.size ≤ h'.objs.size := Nat.le_of_lt (Heap.lt_size ho)
    exact ended_txt I1 (fun b o e => k2 b o (k b o e)) g2 o2 (Nat.le_trans lt hp) hg hS (by rw [pm.length_eq]; exact Nat.lt_of_le_of_lt hl h64) (q zs p (pm.nodup_iff.mpr r.nd) (fun x => pm.mem_iff.trans (hm x)) hs)
  have hb : xs.length + 1 < scanBound := Nat.lt_trans (Nat.succ_lt_succ h64) (by decide)
  rcases hq with hq | hq
  · obtain ⟨its, rv, hl, _⟩ := I1.list hq
    exact set_of_list hh hl.isList rv.strs hb fun h' tk hT k => Calls.spliced_nil (fin h' tk hT k)
  · obtain ⟨its, rv, hl, _⟩ := I1.tuple hq
    exact set_of_tuple hh hl rv.strs hb fun h' tk hT k => Calls.spliced_nil (fin h' tk hT k)
end

end LnS

set_option linter.all false
set_option maxRecDepth 100000
set_option maxHeartbeats 2000000
/-! Ln: set comprehensions of texts, sorted at once. -/
namespace LnS
open PySem PySem.Spec L2 PyProof.Rows PySem.Froz
/-- a set of texts, tracked -/
def STx (P : Program) (w : World) (a : Addr) (xs : List Str) : HO := .ext fun h => HasT P w h a xs
theorem stx_ok {P : Program} {w : World} {H : Hp} {h : Heap} {a : Addr} {xs : List Str} (R : HasT P w h a xs) : ObjOk P w H h a (STx P w a xs) := by
  obtain ⟨d, l, ho, r⟩ := id R
  exact ⟨R, ⟨_, ho⟩, fun h1 h2 z k => HasT.at z fun o e => k _ e⟩
section
variable {X : Cx}
theorem stx_get {pins : List (Addr × Obj)} {σ : L2.St} {H : Hp} {s : Shared} {a : Addr} {xs : List Str} (I : Inv X pins σ H s) (e : H a = some (STx X.prog X.w a xs)) : HasT X.prog X.w s.heap a xs := (I.hok a _ e).1
/-- found.add(a text) -/
theorem stx_add {pins : List (Addr × Obj)} {σ : L2.St} {H : Hp} {s : Shared} {E : Value → Shared → Prop} {D : Addr} {xs : List Str} {c : Str} {u : Tok} {Q : Value → Shared → Prop} (I : Inv X pins σ H s) (e : H D = some (STx X.prog X.w D xs)) (hb : xs.length + 1 < scanBound)
    (h : ∀ s', Inv X pins σ (upd H D (STx X.prog X.w D (xs ++ [c]))) s' → Q .none s') : wpAny (model X.prog X.w) X.A (call (.builtin "set.add") [.ref D, .str c u]) Q E s := by
  have R := stx_get I e
  obtain ⟨d, l, ho, _⟩ := id R
  have hT : s.TypeIs (.ref D) "set" := ⟨_, ho, rfl⟩
  refine wpAny_call_entry PySem.F.slot_set_add hT PySem.F.entry_set_add ?_ (PySem.F.args_set_add_2 _ _)
  unfold Builtin.«set.add» Builtin.Frozenset.oneOther
  simp only [List.isEmpty_nil, bind_assoc]
  unfold Builtin.Frozenset.addrOf setAdd
  refine wpAny_bind (wpAny_pure ?_)
  try dsimp only
  refine wpAny_bind (wpAny_holding (wpAny_bind ((strKind X.prog X.w).pyHash (is_str c u) ?_)))
  refine hasT_add (s := { s with toks := s.toks + 1 }) R hb fun b h' sb new => ?_
  obtain ⟨d2, l2, ho2, _⟩ := id new
  show wpAny _ _ (ret Value.none) _ _ _
  exact wpAny_pure ⟨_, rfl, h _ (I.write (e := D) (t' := s.toks + 1) (by rw [e]; trivial) (.inl rfl) (fun b u hb hu => (sb.2 b hb).trans hu) ⟨_, ho2⟩ (stx_ok new))⟩
def rSortT (P : Program) (w : World) : List V → Hp → VK → Prop := fun vs H Q => ∃ (a : Addr) (xs : List Str), vs = [.ref a] ∧ H a = some (STx P w a xs) ∧ xs.length < 64 ∧
  ∀ (zs : List Str) (p : Addr), zs.Nodup → (∀ x, x ∈ zs ↔ x ∈ xs) → sortedS zs = true → H p = none → Q (.ref p) (upd H p (.lst (zs.map V.str)))
theorem cr_sortT (hc : X.calm = true) : CallR X (.builtin "sorted") (rSortT X.prog X.w) := by
  intro pins s σ H vs us Q I r ⟨a, xs, ev, e, h64, q⟩
  subst ev
  rw [Vals.ref1 r]
  obtain ⟨d, l, ho, rr, hm, hl⟩ := stx_get I e
  exact sorted_txt ho rr (I.ok.hd hc) (Nat.lt_of_le_of_lt hl h64) fun s' p out c zs k2 g2 o2 hp hg hS pm hs =>
    ended_txt I k2 g2 o2 hp hg hS (by rw [pm.length_eq]; exact Nat.lt_of_le_of_lt hl h64) (q zs p (pm.nodup_iff.mpr rr.nd) (fun x => pm.mem_iff.trans (hm x)) hs)
end
section
variable {X : Cx}
/-- {elt for target in iter if ..}, elt a text: D the new set -/
def tScT (P : Program) (w : World) (wi : L2.TI) (g : TG) (tt : TT) (te : TE) (vs : List Nat) : TE := fun σ H Q => wi σ H fun J H1 => ∀ D, H1 D = none → ∃ W : Nat → Nat → Hp → Prop, (∃ m, W 0 m (upd H1 D (STx P w D []))) ∧ ∀ i m H, W i m H →
  (J.stop i H ∧ Q (.ref D) H) ∨ (J.go i H ∧ ∃ Nx : Hp → Prop, (∀ H', Nx H' → ∃ m', m' < m ∧ W (i + 1) m' H') ∧ ∀ x H', J.yld i H x H' → g x (wipe σ vs) H' fun σ2 H2 => wipe σ2 vs = wipe σ vs ∧ tt σ2 H2 fun b H3 =>
    if b = true then te σ2 H3 fun y H4 => ∃ (c : Str) (xs : List Str), y = .str c ∧ H4 D = some (STx P w D xs) ∧ xs.length + 1 < scanBound ∧ Nx (upd H4 D (STx P w D (xs ++ [c]))) else Nx H3)
theorem pe_scT {elt tg iter : Expr} {ifs : List Expr} {scope : Scope} {own : List (Str × Nat)} {pos : Pos} {wi : L2.TI} {g : TG} {tt : TT} {te : TE} (hc : X.calm = true) (hN : X.N.Nodup) (hi : PI X tg iter wi) (ok : BlkOk X.N X.env.scope scope own)
    (hg : ∀ (s : Shared) (H : Hp) (C : Addr) (cl : List (Str × Addr)) (fp : List Addr), PG (X.blk s H scope (compEnvC scope cl C X.env) fp) tg g) (ht : ∀ (s : Shared) (H : Hp) (C : Addr) (cl : List (Str × Addr)) (fp : List Addr), PTs (X.blk s H scope (compEnvC scope cl C X.env) fp) ifs tt)
    (he : ∀ (s : Shared) (H : Hp) (C : Addr) (cl : List (Str × Addr)) (fp : List Addr), PE (X.blk s H scope (compEnvC scope cl C X.env) fp) elt te) (hs : ∀ x, foldedSetIterable iter X.env x = pure x := by intro _; rfl) :
    PE X (.SetComp elt [⟨tg, iter, ifs, 0⟩] scope pos) (tScT X.prog X.w wi g tt te (own.map (·.2))) := by
  refine ⟨fun pins s σ H Q I h => ?_⟩
  have fr : ∀ y ∈ scope.names, y.2 = .free → ∃ c, X.env.cells.lookup y.1 = some c := fun y hy e => (ok.free y hy e).elim (fun k => I.ok.has _ (.inl k)) fun k => I.ok.has _ (.inr k)
  rw [PpSet.eval_SetComp]
  refine wpAny_comprehension_free (use := none) rfl hs (closure_ok fr) ok.kind (fun y hy e => by rw [ok.uniq y hy, e]) (thn (hi.run pins s σ H _ I h) fun xv s1 hx => thn hx fun itv s2 ⟨it, fp, tn, J, H2, e, I2, T, st2, f2, q⟩ => ?_)
  subst e
  refine PpSet.newSet_ok (newEnv_comp ?_)
  obtain ⟨D, hD⟩ : ∃ D, s2.heap.objs.size = D := ⟨_, rfl⟩
  have dn : H2 D = none := I2.hok.fresh (Nat.le_of_eq hD)
  obtain ⟨W, ⟨m0, w0⟩, turn⟩ := q D dn
  rw [hD]
  obtain ⟨s3, hs3⟩ : ∃ s3 : Shared, { s2 with heap := s2.heap.push (emptyS X.w) } = s3 := ⟨_, rfl⟩
  obtain ⟨H3, hH3⟩ : ∃ H3, upd H2 D (STx X.prog X.w D []) = H3 := ⟨_, rfl⟩
  have h3 : s3.heap = s2.heap.push (emptyS X.w) := by rw [← hs3]
  have I3 : Inv X pins σ H3 s3 := by
    rw [← hs3, ← hH3]
    exact I2.laid (t' := s2.toks) (fun b o e => Heap.get?_push_of_some _ e) (Nat.le_of_eq hD) (stx_ok (by rw [← hD]; exact hasT_new (Heap.get?_push_size _ rfl)))
  rw [hH3] at w0
  have lt2 : ∀ b ∈ fp, b < s2.heap.objs.size := fun b hb => by
    obtain ⟨o, e, _⟩ := T.obj _ _ st2 b hb
    exact Heap.lt_size e
  have f3 : ∀ b ∈ fp, FpOk X pins H3 b ∧ b < s3.heap.objs.size := fun b hb => by
    have lt := lt2 b hb
    refine ⟨⟨?_, (f2 b hb).2⟩, by rw [h3, Heap.size_push]; exact Nat.lt_succ_of_lt lt⟩
    rw [← hH3, upd_ne (by rw [← hD]; exact Nat.ne_of_lt lt)]
    exact (f2 b hb).1
  have nfp : ∀ b ∈ fp, H3 b = none := fun b hb => (f3 b hb).1.1
  have st3 : tn 0 s3.heap := T.keep _ _ _ st2 fun b _ o e => by rw [h3]; exact Heap.get?_push_of_some _ e
  have I4 := block_start I3 ok hN f3
  show codeAny _ _ (.compStart (.SetComp elt [⟨tg, iter, ifs, 0⟩] scope pos) 0 (.ref it) (.ref D) (compEnvC scope (cellsFrom ({ s2 with heap := s2.heap.push (emptyS X.w) } : Shared).heap.objs.size.succ scope.names (cloFrom X.env.cells scope.names [])) ({ s2 with heap := s2.heap.push (emptyS X.w) } : Shared).heap.objs.size X.env)) (compPost (model X.prog X.w) X.A X.xe none (EP X pins σ Q) (.ref D) ({ s2 with heap := s2.heap.push (emptyS X.w) } : Shared).heap.objs.size) { ({ s2 with heap := s2.heap.push (emptyS X.w) } : Shared) with heap := pushCells (({ s2 with heap := s2.heap.push (emptyS X.w) } : Shared).heap.push { cls := .type "dict", data := .dict #[] }) scope.names }
  rw [hs3]
  have pg := hg s3 H3 s3.heap.objs.size (cellsFrom (s3.heap.objs.size + 1) scope.names (cloFrom X.env.cells scope.names [])) fp
  have pt := ht s3 H3 s3.heap.objs.size (cellsFrom (s3.heap.objs.size + 1) scope.names (cloFrom X.env.cells scope.names [])) fp
  have pe := he s3 H3 s3.heap.objs.size (cellsFrom (s3.heap.objs.size + 1) scope.names (cloFrom X.env.cells scope.names [])) fp
  generalize hce : compEnvC scope (cellsFrom (s3.heap.objs.size + 1) scope.names (cloFrom X.env.cells scope.names [])) s3.heap.objs.size X.env = ce at I4 pg pt pe ⊢
  have cL : ce.locals = s3.heap.objs.size := by subst hce; rfl
  generalize hs4 : ({ s3 with heap := pushCells (s3.heap.push { cls := .type "dict", data := .dict #[] }) scope.names } : Shared) = s4 at I4 ⊢
  have st4 : tn 0 s4.heap := T.keep _ _ _ st3 fun b _ o e => by rw [← hs4]; exact pushCells_keeps _ _ _ _ (Heap.get?_push_of_some _ e)
  have fpok : ∀ {σ' : L2.St} {H' : Hp} {s' : Shared}, Inv (X.blk s3 H3 scope ce fp) [] σ' H' s' → (∀ b ∈ fp, H' b = none) → ∀ b ∈ fp, FpOk (X.blk s3 H3 scope ce fp) [] H' b := fun {σ' H' s'} J' hn b hb =>
    ⟨hn b hb, (J'.ok.exf b hb).1, J'.ok.exfs b hb, .inl hb, fun x c e => (J'.ok.exf b hb).2 x c e, fun p hp => absurd (show p ∈ ([] : List (Addr × Obj)) ++ [] from hp) (by simp)⟩
  have loop : codeAny (model X.prog X.w) X.A (.compLoop (.SetComp elt [⟨tg, iter, ifs, 0⟩] scope pos) 0 (.ref it) (.ref D) ce) (compPost (model X.prog X.w) X.A X.xe none (EP X pins σ Q) (.ref D) s3.heap.objs.size) s4 := by
    refine PpSet.compLoopS_any (fun n s' => ∃ i H', Inv (X.blk s3 H3 scope ce fp) [] (wipe σ (own.map (·.2))) H' s' ∧ tn i s'.heap ∧ (∀ b ∈ fp, H' b = none) ∧ W i n H') ?_ m0 ⟨0, H3, I4, st4, nfp, w0⟩
    rintro n s5 ⟨i, H5, I5, st5, n5, w5⟩
    rcases turn i n H5 w5 with ⟨stop, qq⟩ | ⟨go, Nx, hNx, step⟩
    · refine thnF (T.done (X.blk s3 H3 scope ce fp) rfl rfl rfl hc i [] s5 _ H5 (fun _ _ => False) I5 (fpok I5 n5) st5 stop) fun r s6 ⟨hr, I6⟩ => ?_
      subst hr
      have I7 : Inv X pins σ H5 s6 := I3.call' (ch := fp) I6.os I6.base I6.hok I6.bare fun b hb => ⟨(f3 b hb).1.2.2.2.1, (f3 b hb).1.2.1, (f3 b hb).1.2.2.2.2.1, (f3 b hb).1.2.2.2.2.2⟩
      have nC : H5 s3.heap.objs.size = none := by
        have z : H5 ce.locals = none := I6.free
        rw [cL] at z
        exact z
      obtain ⟨m, hn, _⟩ := I6.loc
      have hn : s6.heap.Ns ce.locals m := hn
      rw [cL] at hn
      obtain ⟨f0, f1, f2, f3, f4, f5⟩ := I3.fpOk (Nat.le_refl _) nC
      exact ⟨m, hn, fun h'' sb => ⟨.ref D, H5, I7.turned (t' := s6.toks) (fun b o hb e => (sb.2 b hb).trans e) f0 f1 f3 f4 f5, rfl, qq⟩⟩
    · refine thnF (T.item (X.blk s3 H3 scope ce fp) rfl rfl rfl hc i [] s5 _ H5 (fun _ _ => False) I5 (fpok I5 n5) st5 go) fun r s6 ⟨u, hr, h6⟩ => ?_
      subst hr
      refine thnF h6 fun _ s7 ⟨x, H7, I7, r7, y7, st7, n7⟩ => ?_
      have I7' := I7.pinned (fpok I7 n7) (T.obj _ _ st7)
      refine thnF (pg.run _ s7 _ H7 x u _ I7' r7 (step x H7 y7)) fun _ s8 ⟨σ8, H8, I8, hw8, q8⟩ => thnF (pt.run _ s8 σ8 H8 _ I8 q8) fun b s9 ⟨H9, I9, q9⟩ => ?_
      have fin : ∀ {s' : Shared} {H' : Hp}, Inv (X.blk s3 H3 scope ce fp) ([] ++ pinsAt fp s7.heap) σ8 H' s' → Nx H' → ∃ m, m < n ∧ ∃ i H', Inv (X.blk s3 H3 scope ce fp) [] (wipe σ (own.map (·.2))) H' s' ∧ tn i s'.heap ∧ (∀ b ∈ fp, H' b = none) ∧ W i m H' := fun {s' H'} J' nx => by
        obtain ⟨m', hm, w'⟩ := hNx H' nx
        have pin' : ∀ b ∈ fp, ∀ o, s7.heap.get? b = some o → s'.heap.get? b = some o ∧ H' b = none := fun b hb o e =>
          let z := J'.pin (b, o) (List.mem_append_right _ (List.mem_append_right _ (mem_pinsAt hb e)))
          ⟨z.1, z.2.1⟩
        refine ⟨m', hm, i + 1, H', (J'.unpinned (pins := [])).weak (by rw [← hw8, wipe_length]) (fun j v e => ?_), T.keep _ _ _ st7 fun b hb o e => (pin' b hb o e).1, fun b hb => ?_, w'⟩
        · rw [← hw8] at e
          exact (wipe_some e).1
        · obtain ⟨o, e, _⟩ := T.obj _ _ st7 b hb
          exact (pin' b hb o e).2
      cases b with
      | false =>
        simp only [Bool.false_eq_true, if_false] at q9 ⊢
        exact fin I9 q9
      | true =>
        simp only [if_true] at q9 ⊢
        refine thnF (pe.run _ s9 σ8 H9 _ I9 q9) fun z s10 ⟨yv, H10, I10, r10, c, xs, ey, hD10, hz10, nx⟩ => ?_
        subst ey
        obtain ⟨tk, ez⟩ := r10
        subst ez
        exact stx_add (X := X.blk s3 H3 scope ce fp) I10 hD10 hz10 fun s11 I11 => fin I11 nx
  exact PpSet.codeAny_compStart_set loop (T.self X.A 0 _ _ _ st4 loop)
end
end LnS

set_option linter.all false
set_option maxRecDepth 100000
/-! Ln: sorted(set(x)), sorted({a for a in x}), texts. -/
namespace LnS
open PySem PySem.Spec L2 PyProof.Rows PySem.Froz
open Ln (D O Store Rho M R Ex)
variable [Tbs]
theorem nodup_dedup : ∀ (n : Nat) (l : List Str), l.length ≤ n → l.eraseDups.Nodup
  | _, [], _ => by simp
  | 0, _ :: _, h => absurd h (by simp)
  | n + 1, x :: r, h => by
    rw [List.eraseDups_cons]
    refine List.nodup_cons.mpr ⟨fun z => ?_, nodup_dedup n _ (Nat.le_trans (List.length_filter_le _ _) (by simpa using h))⟩
    rw [List.mem_eraseDups, List.mem_filter] at z
    simp at z
theorem nodup_same {α : Type} [DecidableEq α] : ∀ (l ys : List α), l.Nodup → ys.Nodup → (∀ x, x ∈ l ↔ x ∈ ys) → ys.Perm l
  | [], ys, _, _, h => by
    cases ys with
    | nil => exact .refl _
    | cons y r => exact absurd ((h y).mpr List.mem_cons_self) List.not_mem_nil
  | x :: r, ys, nd, nd2, h => by
    obtain ⟨n1, n2⟩ := List.nodup_cons.mp nd
    have hx := (h x).mp List.mem_cons_self
    refine (List.perm_cons_erase hx).trans (.cons x (nodup_same r (ys.erase x) n2 (nd2.erase x) fun y => ?_))
    rw [nd2.mem_erase_iff, ← h y]
    constructor
    · intro hy
      exact ⟨fun z => n1 (by rw [← z]; exact hy), List.mem_cons_of_mem _ hy⟩
    · rintro ⟨z, hy⟩
      exact (List.mem_cons.mp hy).resolve_left z
theorem dedup_sorted {xs zs : List Str} (nd : zs.Nodup) (hm : ∀ x, x ∈ zs ↔ x ∈ xs) (hs : sortedS zs = true) : zs = xs.eraseDups.mergeSort Ln.leS :=
  sorted_uniq (nodup_same _ _ (nodup_dedup _ xs (Nat.le_refl _)) nd fun x => by rw [hm, List.mem_eraseDups]) hs
section
variable {X : Cx} {E : XS} {cf : Nat → List D → M D} {a : Expr} {ia : Ln.E} {p1 p2 q1 q2 : Pos}
/-- what the evaluator says of it -/
theorem sset_at {σ : L2.St} {H : Hp} {Q : VK} (h : TI X.K E (Ln.ev cf (.blt .sset (.cons ia .nil))) σ H Q) : TI X.K E (Ln.ev cf ia) σ H fun v H1 => ∃ (b : Addr) (xs : List Str), v = .ref b ∧ (SqL X.K H1 b (xs.map V.str) ∨ SqT X.K H1 b (xs.map V.str)) ∧ xs.length < 64 ∧
    ∃ (α : Al) (S : Store), RS X.K H1 α S ∧ ∀ (zs : List Str) (p : Addr) (H2 : Hp), zs.Nodup → (∀ x, x ∈ zs ↔ x ∈ xs) → sortedS zs = true → After X.K α H1 α H2 S → H2 p = none → Q (.ref p) (upd H2 p (.lst (zs.map V.str))) := by
  obtain ⟨ρ, α, S, rs, re, p⟩ := h
  simp only [Ln.ev, Ln.evs] at p
  refine ⟨ρ, α, S, rs, re, p.bind.bind.mono fun d S1 H1 α1 _ ⟨af, q⟩ v rd => ?_⟩
  obtain ⟨_, q⟩ := (show Pst X.K E H1 α1 (M.bind (M.ret []) (fun xs => M.ret (d :: xs)) S1) _ from q) H1 α1 (.refl af.rs)
  obtain ⟨e, he, k⟩ := (show Pst X.K E H1 α1 (M.opt (Ln.blt0 .sset [d]) S1) _ from q).optN
  simp only [Ln.blt0, Ln.ssetF, Option.bind_eq_some_iff] at he
  obtain ⟨ds, e1, ys, e2, e3⟩ := he
  split at e3
  · rename_i hl
    cases e3
    obtain ⟨b, vs, rfl, hq, rds⟩ := seq_at af.rs rd e1
    have ev := rds.strsD e2
    subst ev
    refine ⟨b, ys, rfl, hq, hl, α1, S1, af.rs, fun zs p H2 nd hm hs a2 hp => ?_⟩
    rw [dedup_sorted nd hm hs]
    obtain ⟨a3, rd'⟩ := new_lst a2.rs hp (rds_strs (ys.eraseDups.mergeSort Ln.leS))
    exact k _ _ (a2.trans a3) _ rd'
  · cases e3
/-- sorted(set(a)) -/
theorem je_sset (hc : X.calm = true) (g1 : Gl X "sorted") (m1 : X.mg "sorted" = none) (g2 : Gl X "set") (m2 : X.mg "set" = none) (ha : JE X E a (Ln.ev cf ia)) (he : starEach [a] X.env = (false, eval a X.env) :: starEach [] X.env := by rfl) :
    JE X E (.Call (.Name "sorted" p1) [.Call (.Name "set" q1) [a] [] q2] [] p2) (Ln.ev cf (.blt .sset (.cons ia .nil))) :=
  pe_w (pe_sset hc g1 m1 g2 m2 (pa_cons ha pa_nil he) he) fun σ H Q h => by
    obtain ⟨ρ, α, S, rs, re, p⟩ := sset_at h
    refine ⟨ρ, α, S, rs, re, p.mono fun d S1 H1 α1 _ q v rd => ?_⟩
    obtain ⟨b, xs, e, hq, h64, α2, S2, rs2, k⟩ := q v rd
    subst e
    exact ⟨b, xs, rfl, hq, h64, fun zs p nd hm hs hp => k zs p H1 nd hm hs (.refl rs2) hp⟩
/-- sorted({x for x in a}) -/
theorem je_ssetC {scope : Scope} {x : Str} {j : Nat} {pe pt q : Pos} (hc : X.calm = true) (hN : X.N.Nodup) (g1 : Gl X "sorted") (m1 : X.mg "sorted" = none) (ok : BlkOk X.N X.env.scope scope [(x, j)])
    (hg : ∀ (s : Shared) (H : Hp) (C : Addr) (cl : List (Str × Addr)) (fp : List Addr), PG (X.blk s H scope (compEnvC scope cl C X.env) fp) (.Name x pt) (gName j))
    (hel : ∀ (s : Shared) (H : Hp) (C : Addr) (cl : List (Str × Addr)) (fp : List Addr), PE (X.blk s H scope (compEnvC scope cl C X.env) fp) (.Name x pe) (tVar j)) (ha : JE X E a (Ln.ev cf ia)) (hf : ∀ y, foldedSetIterable a X.env y = pure y)
    (he : starEach [.SetComp (.Name x pe) [⟨.Name x pt, a, [], 0⟩] scope q] X.env = (false, eval (.SetComp (.Name x pe) [⟨.Name x pt, a, [], 0⟩] scope q) X.env) :: starEach [] X.env := by rfl) :
    JE X E (.Call (.Name "sorted" p1) [.SetComp (.Name x pe) [⟨.Name x pt, a, [], 0⟩] scope q] [] p2) (Ln.ev cf (.blt .sset (.cons ia .nil))) := by
  have hj : X.N[j]? = some x := ok.ix (x, j) List.mem_cons_self
  have hp := pe_callB (cr_sortT hc) g1 m1 (p := p1) (pos := p2) (by decide +kernel) (pa_cons (pe_scT (pos := q) (elt := .Name x pe) (tg := .Name x pt) (ifs := []) (own := [(x, j)]) (te := tVar j) (g := gName j) (tt := tYes) hc hN (pi_seq ha) ok hg (fun s H C cl fp => pts_nil) hel hf) pa_nil he) (he := he) (hpl := rfl)
  refine ⟨fun pins s σ H Q I h => hp.run pins s σ H Q I ?_⟩
  have hl : j < σ.length := by rw [I.len]; exact (List.getElem?_eq_some_iff.mp hj).1
  obtain ⟨ρ, α, S, rs, re, p⟩ := sset_at h
  refine ⟨ρ, α, S, rs, re, p.mono fun d S1 H1 α1 _ qq v rd => ?_⟩
  obtain ⟨b, xs, e, hq, h64, α2, S2, rs2, k⟩ := qq v rd
  subst e
  have hv : ∀ {i : Nat} (hi : i < xs.length), (xs.map V.str)[i]? = some (V.str xs[i]) := fun {i} hi => by rw [List.getElem?_map, List.getElem?_eq_getElem hi]; rfl
  have hb : xs.length + 1 < scanBound := Nat.lt_trans (Nat.succ_lt_succ h64) (by decide)
  -- the turns, whatever is walked
  have body : ∀ (J : L2.It), (∀ (D : Addr) (o : HO) (i : Nat), H1 D = none → i < xs.length → J.go i (upd H1 D o)) → (∀ (D : Addr) (o : HO) (i : Nat) (y : V) (H' : Hp) (hi : i < xs.length), H1 D = none → J.yld i (upd H1 D o) y H' → H' = upd H1 D o ∧ y = .str xs[i]) → (∀ (D : Addr) (o : HO), H1 D = none → J.stop xs.length (upd H1 D o)) →
      ∀ D, H1 D = none → ∃ W : Nat → Nat → Hp → Prop, (∃ m, W 0 m (upd H1 D (STx X.prog X.w D []))) ∧ ∀ i m H, W i m H →
        (J.stop i H ∧ rSortT X.prog X.w [.ref D] H Q) ∨ (J.go i H ∧ ∃ Nx : Hp → Prop, (∀ H', Nx H' → ∃ m', m' < m ∧ W (i + 1) m' H') ∧ ∀ y H', J.yld i H y H' → gName j y (L2.wipe σ [j]) H' fun σ2 H2 => L2.wipe σ2 [j] = L2.wipe σ [j] ∧ tYes σ2 H2 fun b H3 =>
          if b = true then tVar j σ2 H3 fun y H4 => ∃ (c : Str) (zs : List Str), y = .str c ∧ H4 D = some (STx X.prog X.w D zs) ∧ zs.length + 1 < scanBound ∧ Nx (upd H4 D (STx X.prog X.w D (zs ++ [c]))) else Nx H3) := by
    intro J hgo hyl hst D hD
    refine ⟨fun i m H' => m = xs.length - i ∧ i ≤ xs.length ∧ H' = upd H1 D (STx X.prog X.w D (xs.take i)), ⟨_, rfl, Nat.zero_le _, by rw [List.take_zero]⟩, ?_⟩
    rintro i m H' ⟨rfl, hi, rfl⟩
    by_cases hlt : i < xs.length
    · refine .inr ⟨hgo D _ i hD hlt, fun H' => H' = upd H1 D (STx X.prog X.w D (xs.take (i + 1))), fun H' e => ⟨xs.length - (i + 1), by omega, rfl, hlt, e⟩, fun y H' hy => ?_⟩
      obtain ⟨e1, e2⟩ := hyl D _ i y H' hlt hD hy
      subst e1 e2
      refine ⟨wipe_same Sto.one (by simp), ?_⟩
      unfold tYes
      dsimp only
      rw [if_pos rfl]
      refine ⟨.str xs[i], List.getElem?_set_self (by rw [L2.wipe_length]; exact hl), xs[i], xs.take i, rfl, upd_same, by rw [List.length_take]; omega, ?_⟩
      show upd (upd H1 D _) D _ = _
      rw [List.take_add_one, List.getElem?_eq_getElem hlt]
      funext c
      by_cases hc : c = D
      · rw [hc, upd_same, upd_same]; rfl
      · rw [upd_ne hc, upd_ne hc, upd_ne hc]
    · obtain rfl : i = xs.length := by omega
      refine .inl ⟨hst D _ hD, D, xs, rfl, by rw [List.take_length]; exact upd_same, h64, fun zs p nd hm hs hn => k zs p _ nd hm hs (After.new rs2 hD) hn⟩
  have sqL : ∀ (D : Addr) (o : HO), H1 D = none → SqL X.K H1 b (xs.map V.str) → SqL X.K (upd H1 D o) b (xs.map V.str) := fun D o hD h => (ext_new (α := ⟨[], [], [], []⟩) hD).sqL (fun z => by rcases z with ⟨z, _⟩ | z <;> simp at z) h
  have sqT : ∀ (D : Addr) (o : HO), H1 D = none → SqT X.K H1 b (xs.map V.str) → SqT X.K (upd H1 D o) b (xs.map V.str) := fun D o hD h => (ext_new (α := ⟨[], [], [], []⟩) hD).sqT h
  refine .inl ⟨b, xs.map V.str, rfl, ?_⟩
  rcases hq with hq | hq
  · refine .inl ⟨hq, fun _ => body _ (fun D o i hD hi => ⟨_, _, sqL D o hD hq, hv hi⟩) (fun D o i y H' hi hD ⟨e, hy⟩ => ⟨e, ?_⟩) fun D o hD => ⟨_, sqL D o hD hq, by rw [List.length_map]; exact Nat.le_refl _⟩⟩
    have := hy _ (sqL D o hD hq)
    rw [hv hi] at this
    exact (Option.some.inj this).symm
  · refine .inr ⟨hq, fun _ => body _ (fun D o i hD hi => ⟨_, _, sqT D o hD hq, hv hi⟩) (fun D o i y H' hi hD ⟨e, hy⟩ => ⟨e, ?_⟩) fun D o hD => ⟨_, sqT D o hD hq, by rw [List.length_map]; exact Nat.le_refl _⟩⟩
    have := hy _ (sqT D o hD hq)
    rw [hv hi] at this
    exact (Option.some.inj this).symm
end
end LnS

set_option linter.all false
/-! Ln: running the evaluator by rewriting; the laws' prelude. -/
namespace Ln
open PySem (Str PyData)

/-! ### rewriting rules -/
theorem rBind {α β : Type} (m : M α) (f : α → M β) (S : Store) : M.bind m f S = match m S with | .ok a s' => f a s' | .exc e s' => .exc e s' | .err => .err := rfl
theorem rRet {α : Type} (a : α) (S : Store) : M.ret a S = .ok a S := rfl
theorem rOpt {α : Type} (f : Store → Option α) (S : Store) : M.opt f S = match f S with | some a => .ok a S | none => .err := rfl
theorem rNox {α : Type} (m : M α) (S : Store) : M.nox m S = match m S with | .ok a s' => .ok a s' | _ => .err := rfl
section
variable {cf : Nat → List D → M D} {w : Nat} {ρ : Rho}
end
theorem tm_bl {b : Bool} {S : Store} : truthM (.bl b) S = .ok b S := rfl
theorem tm_int {i : Int} {S : Store} : truthM (.int i) S = .ok (i != 0) S := rfl
theorem ii_add {a b : Int} : intOp .add a b = some (a + b) := rfl
theorem ii_sub {a b : Int} : intOp .sub a b = some (a - b) := rfl
theorem ii_mul {a b : Int} (h : mulOk a b = true) : intOp .mul a b = some (a * b) := if_pos h
theorem ii_div {a b : Int} (h : divOk b = true) : intOp .fdiv a b = some (a.fdiv b) := if_pos h
theorem ii_mod {a b : Int} (h : b ≠ 0) : intOp .mod a b = some (a.fmod b) := if_pos (by simpa using h)
theorem ii_pow {a b : Int} (h : powOk a b = true) : intOp .pow a b = some (a ^ b.toNat) := if_pos h
theorem bop_ii {o : Bop} {a b : Int} {S : Store} : bop o (.int a) (.int b) S = (intOp o a b).map .int := rfl
theorem mulOk_l {a b : Int} (h1 : -(2 ^ 64) < a) (h2 : a < 2 ^ 64) : mulOk a b = true := by
  unfold mulOk small64
  simp only [Bool.or_eq_true, Bool.and_eq_true, decide_eq_true_eq]
  exact .inl (.inl ⟨h1, h2⟩)
theorem mulOk_r {a b : Int} (h1 : -(2 ^ 64) < b) (h2 : b < 2 ^ 64) : mulOk a b = true := by
  unfold mulOk small64
  simp only [Bool.or_eq_true, Bool.and_eq_true, decide_eq_true_eq]
  exact .inl (.inr ⟨h1, h2⟩)
theorem mod_lo {a b : Int} (h : 0 < b) : 0 ≤ a.fmod b := by rw [Int.fmod_eq_emod_of_nonneg _ (Int.le_of_lt h)]; exact Int.emod_nonneg _ (by omega)
theorem mod_hi {a b : Int} (h : 0 < b) : a.fmod b < b := by rw [Int.fmod_eq_emod_of_nonneg _ (Int.le_of_lt h)]; exact Int.emod_lt_of_pos _ h

/-! ### the prelude's texts -/
def b_stream : Sms :=
  (.cons (.set 2 (.bin .add (.bin .mul (.cst (.int 13)) (.var 1)) (.cst (.int 6))))
  (.cons (.cond (.cmp .lt (.var 1) (.blt .len (.cons (.var 0) .nil)))
  (.cons (.set 2 (.idx (.var 0) (.var 1)))
  .nil) .nil)
  (.cons (.set 3 (.bin .mod (.blt .abs (.cons (.var 2) .nil)) (.bin .pow (.bin .pow (.cst (.int 10)) (.cst (.int 60))) (.cst (.int 11)))))
  (.cons (.set 4 (.bin .mod (.bin .add (.bin .add (.bin .add (.bin .mul (.bin .mod (.var 3) (.cst (.int 2147483579))) (.cst (.int 48271))) (.bin .mul (.cst (.int 92821)) (.var 1))) (.bin .mul (.cst (.int 5)) (.blt .int (.cons (.cmp .lt (.var 2) (.cst (.int 0))) .nil)))) (.cst (.int 29))) (.cst (.int 2147483563))))
  (.cons (.ret (.lstM (.cons (.blt .max (.cons (.cst (.int 0)) (.cons (.bin .add (.bin .sub (.var 3) (.bin .pow (.cst (.int 10)) (.cst (.int 18)))) (.cst (.int 1))) .nil))) (.cons (.var 4) (.cons (.cst (.int 0)) .nil)))))
  .nil)))))
def b_draw : Sms :=
  (.cons (.cond (.cmp .gt (.idx (.var 0) (.cst (.int 0))) (.cst (.int 0)))
  (.cons (.set 2 (.bin .mod (.idx (.var 0) (.cst (.int 0))) (.var 1)))
  (.cons (.setI (.var 0) (.cst (.int 0)) (.bin .fdiv (.idx (.var 0) (.cst (.int 0))) (.var 1)))
  (.cons (.ret (.var 2))
  .nil))) .nil)
  (.cons (.setI (.var 0) (.cst (.int 2)) (.bin .add (.idx (.var 0) (.cst (.int 2))) (.cst (.int 1))))
  (.cons (.set 3 (.bin .mod (.bin .add (.idx (.var 0) (.cst (.int 1))) (.bin .mul (.cst (.int 1000037)) (.idx (.var 0) (.cst (.int 2))))) (.cst (.int 2305843009213693951))))
  (.cons (.set 4 (.bin .mod (.bin .add (.bin .mul (.bin .mod (.bin .mul (.var 3) (.var 3)) (.cst (.int 2305843009213693921))) (.var 3)) (.bin .mul (.cst (.int 7907)) (.idx (.var 0) (.cst (.int 2))))) (.cst (.int 2305843009213693907))))
  (.cons (.ret (.bin .mod (.bin .fdiv (.var 4) (.cst (.int 4099))) (.var 1)))
  .nil)))))
def b_pick (n : Nat) : Sms :=
  (.cons (.ret (.idx (.var 1) (.call n (.cons (.var 0) (.cons (.blt .len (.cons (.var 1) .nil)) .nil)))))
  .nil)

/-- the store holds a stream at n -/
def Strm (n : Nat) (S : Store) : Prop := ∃ a b c : Int, S[n]? = some (.lst [.int a, .int b, .int c])
theorem strm_set {n : Nat} {S : Store} (h : n < S.length) (a b c : Int) : Strm n (S.set n (.lst [.int a, .int b, .int c])) := ⟨a, b, c, List.getElem?_set_self h⟩
theorem callI_s {prog : List Fn} {w k i : Nat} {fn : Fn} {args as : List D} {S : Store} (h : prog[i]? = some fn) (hb : bindA fn args = some as) : callI prog w (k + 1) i args S = runBody (callI prog w k) w fn as S := by
  simp only [callI, h, hb]
section
variable {prog : List Fn} {w k i n : Nat} {S : Store}
/-- _law_draw -/
theorem draw_sp (h : prog[i]? = some ⟨2, false, 5, b_draw⟩) (hs : Strm n S) {t : Int} (h0 : 0 < t) (h1 : t.natAbs.log2 < 9000) :
    ∃ r S', callI prog w (k + 1) i [.ref n, .int t] S = .ok (.int r) S' ∧ 0 ≤ r ∧ r < t ∧ Strm n S' ∧ S'.length = S.length ∧ ∀ m, m ≠ n → S'[m]? = S[m]? := by
  obtain ⟨a, b, c, e⟩ := hs
  have hn : n < S.length := (List.getElem?_eq_some_iff.mp e).1
  rw [callI_s h rfl]
  have hd : divOk t = true := by unfold divOk; simp; omega
  by_cases ha : 0 < a
  · have e1 : runBody (callI prog w k) w ⟨2, false, 5, b_draw⟩ [.ref n, .int t] S = .ok (.int (a.fmod t)) (S.set n (.lst [.int (a.fdiv t), .int b, .int c])) := by
      simp [runBody, b_draw, execs, exec, evT, ev, evs, rBind, rRet, rOpt, getV, idxD, seqOf, e, atP, place, cop, ha, truthM, truth, nextK, bop, intOp, hd, setIK, (show t ≠ 0 by omega)]
    exact ⟨_, _, e1, mod_lo h0, mod_hi h0, strm_set hn _ _ _, List.length_set, fun m hm => List.getElem?_set_ne (fun z => hm z.symm)⟩
  · have one := mod_lo (a := b + 1000037 * (c + 1)) (b := 2305843009213693951) (by decide)
    have one' := mod_hi (a := b + 1000037 * (c + 1)) (b := 2305843009213693951) (by decide)
    generalize hx : (b + 1000037 * (c + 1)).fmod 2305843009213693951 = x at one one'
    have m1 : mulOk x x = true := mulOk_l (by omega) (by omega)
    have y1 := mod_lo (a := x * x) (b := 2305843009213693921) (by decide)
    have y2 := mod_hi (a := x * x) (b := 2305843009213693921) (by decide)
    generalize hy : (x * x).fmod 2305843009213693921 = y at y1 y2
    have m2 : mulOk y x = true := mulOk_r (by omega) (by omega)
    have hset : ∀ o : O, (S.set n o)[n]? = some o := fun o => List.getElem?_set_self hn
    have m3 : ∀ z, mulOk 1000037 z = true := fun z => mulOk_l (by decide) (by decide)
    have m4 : ∀ z, mulOk 7907 z = true := fun z => mulOk_l (by decide) (by decide)
    have e1 : runBody (callI prog w k) w ⟨2, false, 5, b_draw⟩ [.ref n, .int t] S = .ok (.int ((((y * x + 7907 * (c + 1)).fmod 2305843009213693907).fdiv 4099).fmod t)) (S.set n (.lst [.int a, .int b, .int (c + 1)])) := by
      simp [runBody, b_draw, execs, exec, evT, ev, evs, rBind, rRet, rOpt, getV, idxD, seqOf, e, atP, place, cop, ha, truthM, truth, nextK, bop, intOp, setIK, (show t ≠ 0 by omega), hset, m3, hx, m1, hy, m2, m4, (show divOk 4099 = true by decide)]
    exact ⟨_, _, e1, mod_lo h0, mod_hi h0, strm_set hn _ _ _, List.length_set, fun m hm => List.getElem?_set_ne (fun z => hm z.symm)⟩
/-- _law_pick -/
theorem pick_sp {j : Nat} (h : prog[i]? = some ⟨2, false, 5, b_draw⟩) (h2 : prog[j]? = some ⟨2, false, 2, b_pick i⟩) (hs : Strm n S) {ds : List D} (h0 : ds ≠ []) (h1 : ds.length < 1000) :
    ∃ d S', callI prog w (k + 2) j [.ref n, .lst ds] S = .ok d S' ∧ d ∈ ds ∧ Strm n S' ∧ S'.length = S.length ∧ ∀ m, m ≠ n → S'[m]? = S[m]? := by
  have hl : 0 < ds.length := List.length_pos_iff.mpr h0
  obtain ⟨r, S', e, r0, r1, hs', hl', ho⟩ := draw_sp (w := w) (k := k) h hs (t := (ds.length : Int)) (by omega) (by
    rw [Int.natAbs_natCast]
    have := Nat.log2_le_self ds.length
    omega)
  obtain ⟨q, hq⟩ : ∃ q : Nat, r = q := ⟨r.toNat, by omega⟩
  subst hq
  have hr : q < ds.length := by omega
  refine ⟨ds[q], S', ?_, List.getElem_mem hr, hs', hl', ho⟩
  rw [callI_s h2 rfl]
  simp [runBody, b_pick, execs, exec, ev, evs, rBind, rRet, rOpt, getV, blt, blt0, lenF, seqOf, e, idxD, atP, place, hr, List.getElem?_eq_getElem hr, nextK]
/-- _law_stream -/
theorem stream_sp (h : prog[i]? = some ⟨2, false, 5, b_stream⟩) {ns : List Int} {at_ : Nat} :
    ∃ S', callI prog w (k + 1) i [.frz (ns.map D.int), .int at_] S = .ok (.ref S.length) S' ∧ Strm S.length S' ∧ S'.length = S.length + 1 ∧ ∀ m, m < S.length → S'[m]? = S[m]? := by
  have p1 : powOk 10 60 = true := by decide +kernel
  have p2 : powOk (10 ^ 60) 11 = true := by decide +kernel
  have p3 : powOk 10 18 = true := by decide +kernel
  have m1 : ∀ z, mulOk 13 z = true := fun z => mulOk_l (by decide) (by decide)
  have m2 : ∀ z, mulOk 92821 z = true := fun z => mulOk_l (by decide) (by decide)
  have m3 : ∀ z, mulOk 5 z = true := fun z => mulOk_l (by decide) (by decide)
  have m4 : ∀ z, mulOk z 48271 = true := fun z => mulOk_r (by decide) (by decide)
  have n1 : ((10 : Int) ^ 60) ^ 11 ≠ 0 := by decide +kernel
  have fin : (∃ x y : Int, runBody (callI prog w k) w ⟨2, false, 5, b_stream⟩ [.frz (ns.map D.int), .int at_] S = .ok (.ref S.length) (S ++ [.lst [.int x, .int y, .int 0]])) := by
    by_cases hl : at_ < ns.length
    · simp [runBody, b_stream, execs, exec, evT, ev, evs, rBind, rRet, rOpt, getV, nextK, bop, intOp, blt, blt0, absF, intF, maxF, lenF, p1, p2, p3, m1, m2, m3, m4, n1, cop, newO, truthM, truth, seqOf, idxD, atP, place, hl, -Int.reducePow]
    · simp [runBody, b_stream, execs, exec, evT, ev, evs, rBind, rRet, rOpt, getV, nextK, bop, intOp, blt, blt0, absF, intF, maxF, lenF, p1, p2, p3, m1, m2, m3, m4, n1, cop, newO, truthM, truth, seqOf, idxD, atP, place, hl, -Int.reducePow]
  obtain ⟨x, y, e⟩ := fin
  refine ⟨_, (callI_s h rfl).trans e, ⟨x, y, 0, by rw [List.getElem?_append_right (Nat.le_refl _), Nat.sub_self]; rfl⟩, by simp, fun m hm => List.getElem?_append_left hm⟩
end
end Ln
namespace Ln
open PySem (Str PyData)
/-! ### lists -/
section
variable {α β : Type} {S : Store}
theorem mapO_map {step : D → M (Option D)} {g : α → D} {f : α → D} : ∀ {l : List α}, (∀ a ∈ l, step (g a) S = .ok (some (f a)) S) → mapO step (l.map g) S = .ok (l.map f) S
  | [], _ => rfl
  | a :: l, h => by
    simp only [List.map_cons, mapO, rBind, h a List.mem_cons_self]
    rw [mapO_map fun b hb => h b (List.mem_cons_of_mem _ hb)]
    rfl
theorem mapO_filter {step : D → M (Option D)} {g : α → D} {f : α → Option D} : ∀ {l : List α}, (∀ a ∈ l, step (g a) S = .ok (f a) S) → mapO step (l.map g) S = .ok (l.filterMap f) S
  | [], _ => rfl
  | a :: l, h => by
    have ih := mapO_filter (l := l) fun b hb => h b (List.mem_cons_of_mem _ hb)
    simp only [List.map_cons, mapO, rBind, h a List.mem_cons_self, List.filterMap_cons]
    cases f a with
    | none => simp only [ih]
    | some y => simp only [rBind, ih, rRet]
/-- with a store that changes -/
theorem mapO_inv {step : D → M (Option D)} {g : α → D} {I : Store → Prop} {P : α → D → Prop} : ∀ {l : List α} {S : Store}, (∀ a ∈ l, ∀ S, I S → ∃ y S', step (g a) S = .ok (some y) S' ∧ I S' ∧ P a y) → I S →
    ∃ ys S', mapO step (l.map g) S = .ok ys S' ∧ I S' ∧ ys.length = l.length ∧ ∀ y ∈ ys, ∃ a ∈ l, P a y
  | [], S, _, hi => ⟨[], S, rfl, hi, rfl, fun y hy => nomatch hy⟩
  | a :: l, S, h, hi => by
    obtain ⟨y, S1, e1, i1, p1⟩ := h a List.mem_cons_self S hi
    obtain ⟨ys, S2, e2, i2, hl, p2⟩ := mapO_inv (l := l) (fun b hb => h b (List.mem_cons_of_mem _ hb)) i1
    refine ⟨y :: ys, S2, ?_, i2, by simp [hl], fun z hz => ?_⟩
    · simp only [List.map_cons, mapO, rBind, e1, e2, rRet]
    · rcases List.mem_cons.mp hz with rfl | hz
      · exact ⟨a, List.mem_cons_self, p1⟩
      · obtain ⟨b, hb, p⟩ := p2 z hz
        exact ⟨b, List.mem_cons_of_mem _ hb, p⟩
/-- a for by an invariant -/
theorem forL_inv {body : D → Rho → M (Fl × Rho)} {g : α → D} {I : Rho → Store → Prop} : ∀ {l : List α} {ρ : Rho} {S : Store}, (∀ a ∈ l, ∀ ρ S, I ρ S → ∃ ρ' S', body (g a) ρ S = .ok (.nx, ρ') S' ∧ I ρ' S') → I ρ S →
    ∃ ρ' S', forL body (l.map g) ρ S = .ok (.nx, ρ') S' ∧ I ρ' S'
  | [], ρ, S, _, hi => ⟨ρ, S, rfl, hi⟩
  | a :: l, ρ, S, h, hi => by
    obtain ⟨ρ1, S1, e1, i1⟩ := h a List.mem_cons_self ρ S hi
    obtain ⟨ρ2, S2, e2, i2⟩ := forL_inv (l := l) (fun b hb => h b (List.mem_cons_of_mem _ hb)) i1
    exact ⟨ρ2, S2, by simp only [List.map_cons, forL, rBind, e1, e2], i2⟩
/-- a for by an invariant that counts -/
theorem forL_count {body : D → Rho → M (Fl × Rho)} {g : α → D} {I : Nat → Rho → Store → Prop} {l : List α} : ∀ {n : Nat} {r : List α} {ρ : Rho} {S : Store}, l.drop n = r → (∀ i a, l[i]? = some a → ∀ ρ S, I i ρ S → ∃ ρ' S', body (g a) ρ S = .ok (.nx, ρ') S' ∧ I (i + 1) ρ' S') → I n ρ S →
    n ≤ l.length → ∃ ρ' S', forL body (r.map g) ρ S = .ok (.nx, ρ') S' ∧ I l.length ρ' S'
  | n, [], ρ, S, hr, _, hi, hn => by
    have := congrArg List.length hr
    simp at this
    exact ⟨ρ, S, rfl, by rw [show l.length = n by omega]; exact hi⟩
  | n, a :: r, ρ, S, hr, h, hi, hn => by
    have ha : l[n]? = some a := by rw [← List.head?_drop, hr]; rfl
    have hlt : n < l.length := (List.getElem?_eq_some_iff.mp ha).1
    obtain ⟨ρ1, S1, e1, i1⟩ := h n a ha ρ S hi
    have hr' : l.drop (n + 1) = r := by rw [← List.tail_drop, hr]; rfl
    obtain ⟨ρ2, S2, e2, i2⟩ := forL_count (n := n + 1) hr' h i1 hlt
    exact ⟨ρ2, S2, by simp only [List.map_cons, forL, rBind, e1, e2], i2⟩
end
theorem pairs_map {α β : Type} {f : α → D} {g : β → D} : ∀ (xs : List α) (ys : List β), pairs (xs.map f) (ys.map g) = (xs.zip ys).map fun p => .wtp [f p.1, g p.2]
  | [], _ => by simp [pairs]
  | _ :: _, [] => by simp [pairs]
  | x :: xs, y :: ys => by simp [pairs, pairs_map xs ys]
theorem range_0 (n : Nat) : range 0 n = (List.range n).map fun (i : Nat) => .int (i : Int) := by unfold range; simp
theorem ints_map : ∀ xs : List Int, intsD (xs.map .int) = some xs
  | [] => rfl
  | x :: xs => by simp [intsD, ints_map xs]
theorem bools_map : ∀ xs : List Bool, boolsD (xs.map .bl) = some xs
  | [] => rfl
  | x :: xs => by simp [boolsD, bools_map xs]
theorem bools_fun {α : Type} (f : α → Bool) : ∀ l : List α, boolsD (l.map fun a => D.bl (f a)) = some (l.map f)
  | [] => rfl
  | x :: xs => by simp [boolsD, bools_fun f xs]
theorem ints_fun {α : Type} (f : α → Int) : ∀ l : List α, intsD (l.map fun a => D.int (f a)) = some (l.map f)
  | [] => rfl
  | x :: xs => by simp [intsD, ints_fun f xs]
theorem zip_map {α β γ : Type} (f : α → β → γ) : ∀ (xs : List α) (ys : List β), (xs.zip ys).map (fun p => f p.1 p.2) = List.zipWith f xs ys
  | [], _ => by simp
  | _ :: _, [] => by simp
  | x :: xs, y :: ys => by simp [zip_map f xs ys]
theorem mapM_map {α : Type} {S : Store} {k : Nat} {g : α → D} {f : α → PyData} : ∀ {l : List α}, (∀ a ∈ l, toP S k (g a) = some (f a)) → (l.map g).mapM (toP S k) = some (l.map f)
  | [], _ => rfl
  | a :: l, h => by
    rw [List.map_cons, List.mapM_cons, h a List.mem_cons_self, mapM_map fun b hb => h b (List.mem_cons_of_mem _ hb)]
    rfl
theorem toP_int {S : Store} {k : Nat} {i : Int} : toP S k (.int i) = some (.int i) := by cases k <;> rfl

/-! ### texts of values -/
mutual
def cost : PyData → Nat
  | .none => 4
  | .bool _ => 5
  | .int _ => 1921
  | .str x => 10 * x.length + 2
  | .list xs => costs xs + 3
  | .tuple xs => costs xs + 3
  | .dict kvs => costKv kvs + 3
def costs : List PyData → Nat
  | [] => 0
  | x :: xs => cost x + 2 + costs xs
def costKv : List (PyData × PyData) → Nat
  | [] => 0
  | (k, v) :: r => cost k + cost v + 4 + costKv r
end
end Ln

set_option linter.all false
/-! Ln: how long the text of a value is. -/
namespace Ln
open PySem (Str PyData)
mutual
def fine : PyData → Bool
  | .none | .bool _ => true
  | .int i => decide (i.natAbs.log2 < 1920)
  | .str x => PyData.strOk x
  | .list xs | .tuple xs => fines xs
  | .dict kvs => fineKv kvs
def fines : List PyData → Bool
  | [] => true
  | x :: xs => fine x && fines xs
def fineKv : List (PyData × PyData) → Bool
  | [] => true
  | (k, v) :: r => fine k && fine v && fineKv r
end
mutual
theorem fine_showable : ∀ p : PyData, fine p = true → p.showable = true
  | .none, _ => by simp [PyData.showable]
  | .bool _, _ => by simp [PyData.showable]
  | .int i, h => by simpa [PyData.showable, fine] using h
  | .str x, _ => by simp [PyData.showable]
  | .list xs, h => by rw [PyData.showable]; exact fines_showable xs (by simpa [fine] using h)
  | .tuple xs, h => by rw [PyData.showable]; exact fines_showable xs (by simpa [fine] using h)
  | .dict kvs, h => by rw [PyData.showable]; exact fineKv_showable kvs (by simpa [fine] using h)
theorem fines_showable : ∀ xs : List PyData, fines xs = true → PyData.showableAll xs = true
  | [], _ => by simp [PyData.showableAll]
  | x :: xs, h => by
    have h' : fine x = true ∧ fines xs = true := by simpa [fines] using h
    rw [PyData.showableAll, fine_showable x h'.1, fines_showable xs h'.2]; rfl
theorem fineKv_showable : ∀ xs : List (PyData × PyData), fineKv xs = true → PyData.showableKv xs = true
  | [], _ => by simp [PyData.showableKv]
  | (k, v) :: r, h => by
    have h' : (fine k = true ∧ fine v = true) ∧ fineKv r = true := by simpa [fineKv] using h
    rw [PyData.showableKv, fine_showable k h'.1.1, fine_showable v h'.1.2, fineKv_showable r h'.2]; rfl
end
theorem listText_le : ∀ ts : List Str, (PySem.listText ts).length ≤ PySem.piled ts + 2
  | [] => by decide +kernel
  | t :: r => by
    have h := PySem.textFrom_length_pos r 1 (("[" : Str) ++ (if (0 : Nat) > 0 then ", " else "" : String) ++ t) (Nat.succ_pos 0)
    have e : ((("[" : Str) ++ (if (0 : Nat) > 0 then ", " else "" : String) ++ t)).length = 1 + t.length := by
      rw [PySem.strLen_append, PySem.strLen_append]; rfl
    have hX : (PySem.listText (t :: r)).length = (PySem.textFrom 0 "[" (t :: r)).length + 1 := by
      show (PySem.textFrom 0 "[" (t :: r) ++ "]").length = _
      rw [PySem.strLen_append]; rfl
    have hY : (PySem.textFrom 0 "[" (t :: r)).length = (PySem.textFrom 1 (("[" : Str) ++ (if (0 : Nat) > 0 then ", " else "" : String) ++ t) r).length := rfl
    rw [hX, hY, h, e, PySem.piled_cons]; omega
theorem join_le (ts : List Str) : (Str.join ", " ts).length ≤ PySem.piled ts := by
  by_cases h : ts = []
  · subst h; decide +kernel
  · have := PySem.join_length_add ts h
    omega
theorem tupleText_le (ts : List Str) : (PySem.tupleText ts).length ≤ PySem.piled ts + 3 := by
  unfold PySem.tupleText
  rw [PySem.strLen_append, PySem.strLen_append]
  have e1 : ((("(" : String) : Str)).length = 1 := rfl
  have e3 : (((if ts.length == 1 then ",)" else ")" : String) : Str)).length ≤ 2 := by split <;> decide
  have := join_le ts
  omega
theorem dictText_le (ts : List Str) : (PySem.dictText ts).length ≤ PySem.piled ts + 2 := by
  unfold PySem.dictText
  rw [PySem.strLen_append, PySem.strLen_append]
  have e1 : ((("{" : String) : Str)).length = 1 := rfl
  have e3 : ((("}" : String) : Str)).length = 1 := rfl
  have := join_le ts
  omega
mutual
theorem shown_le : ∀ p : PyData, fine p = true → p.shown.length ≤ cost p
  | .none, _ => by simp only [PyData.shown, cost]; decide +kernel
  | .bool b, _ => by simp only [PyData.shown, cost]; cases b <;> decide +kernel
  | .int i, h => by
    simp only [PyData.shown, cost]
    rw [PySem.ofString_length]
    exact PySem.int_text_length_le (k := 1920) (by decide) (by simpa [fine] using h)
  | .str x, h => by
    simp only [PyData.shown, cost]
    refine PySem.StrLaws.reprText_len x fun c hc => ?_
    have h' : PyData.strOk x = true := by simpa [fine] using h
    unfold PyData.strOk at h'
    rw [Array.all_eq_true'] at h'
    have := h' c (Array.mem_toList_iff.mp hc)
    simp only [decide_eq_true_eq] at this
    exact Nat.lt_trans this (by decide)
  | .list xs, h => by
    simp only [PyData.shown, cost]
    have := shownAll_le xs (by simpa [fine] using h)
    have := listText_le (PyData.shownAll xs)
    omega
  | .tuple xs, h => by
    simp only [PyData.shown, cost]
    have := shownAll_le xs (by simpa [fine] using h)
    have := tupleText_le (PyData.shownAll xs)
    omega
  | .dict kvs, h => by
    simp only [PyData.shown, cost]
    have := shownKv_le kvs (by simpa [fine] using h)
    have := dictText_le (PyData.shownKv kvs)
    omega
theorem shownAll_le : ∀ xs : List PyData, fines xs = true → PySem.piled (PyData.shownAll xs) ≤ costs xs
  | [], _ => by simp [PyData.shownAll, costs, PySem.piled]
  | x :: xs, h => by
    have h' : fine x = true ∧ fines xs = true := by simpa [fines] using h
    have h1 := shown_le x h'.1
    have h2 := shownAll_le xs h'.2
    rw [PyData.shownAll, costs, PySem.piled_cons]; omega
theorem shownKv_le : ∀ xs : List (PyData × PyData), fineKv xs = true → PySem.piled (PyData.shownKv xs) ≤ costKv xs
  | [], _ => by simp [PyData.shownKv, costKv, PySem.piled]
  | (k, v) :: r, h => by
    have h' : (fine k = true ∧ fine v = true) ∧ fineKv r = true := by simpa [fineKv] using h
    have h1 := shown_le k h'.1.1
    have h2 := shown_le v h'.1.2
    have h3 := shownKv_le r h'.2
    rw [PyData.shownKv, costKv, PySem.piled_cons, PySem.strLen_append, PySem.strLen_append]
    have e1 : (((": " : String) : Str)).length = 2 := rfl
    omega
end
/-- repr of a value that is small -/
theorem repr_sm {S : Store} {d : D} {p : PyData} (h : dat S d = some p) (f : fine p = true) (c : cost p ≤ line) : reprF S [d] = some (.str p.shown) := by
  show ((dat S d).bind fun d => if d.showable && decide (d.shown.length ≤ line) then some (D.str d.shown) else none) = _
  rw [h]
  have h1 := shown_le p f
  simp only [Option.bind_some, fine_showable p f, Bool.true_and]
  rw [if_pos (decide_eq_true (Nat.le_trans h1 c))]
theorem fines_ints {xs : List Int} (h : ∀ x ∈ xs, x.natAbs.log2 < 1920) : fines (xs.map .int) = true := by
  induction xs with
  | nil => simp [fines]
  | cons x xs ih =>
    rw [List.map_cons, fines, ih fun y hy => h y (List.mem_cons_of_mem _ hy)]
    simp [fine, h x List.mem_cons_self]
theorem costs_ints (xs : List Int) : costs (xs.map .int) = 1923 * xs.length := by
  induction xs with
  | nil => simp [costs]
  | cons x xs ih => rw [List.map_cons, costs, ih, cost, List.length_cons]; omega
theorem dat_ints {S : Store} (xs : List Int) : dat S (.tup (xs.map .int)) = some (.tuple (xs.map .int)) := by
  show ((xs.map D.int).mapM (toP S 23)).map PyData.tuple = _
  rw [mapM_map (f := PyData.int) fun a _ => toP_int]
  rfl
theorem log2_lt {i : Int} {k : Nat} (h : i.natAbs < 2 ^ k) (hk : 0 < k) : i.natAbs.log2 < k := by
  by_cases h0 : i.natAbs = 0
  · rw [h0]; simpa using hk
  · exact (Nat.log2_lt h0).mpr h
theorem shaped_ints (xs : List Int) : PySem.SeqAt.shaped (.tuple (xs.map .int)) = true := by
  have h1 : ∀ xs : List Int, PyData.canLayAll0 (xs.map .int) = true := fun xs => by
    induction xs with
    | nil => simp [PyData.canLayAll0]
    | cons x xs ih => simp [PyData.canLayAll0, PyData.canLay0, ih]
  have h2 : ∀ xs : List Int, PyData.depthAll (xs.map .int) = 0 := fun xs => by
    induction xs with
    | nil => simp [PyData.depthAll]
    | cons x xs ih => simp [PyData.depthAll, PyData.depth, ih]
  simp [PySem.SeqAt.shaped, PyData.canLay0, PyData.depth, h1, h2]
theorem eqvAll_ints : ∀ xs ys : List Int, PyData.eqvAll (xs.map .int) (ys.map .int) = decide (xs = ys)
  | [], [] => by simp [PyData.eqvAll]
  | [], _ :: _ => by simp [PyData.eqvAll]
  | _ :: _, [] => by simp [PyData.eqvAll]
  | x :: xs, y :: ys => by
    rw [List.map_cons, List.map_cons, PyData.eqvAll, eqvAll_ints xs ys]
    by_cases h : x = y <;> by_cases h2 : xs = ys <;> simp [PyData.eqv, h, h2]
theorem eqD_ints {S : Store} (xs ys : List Int) : eqD S (.tup (xs.map .int)) (.tup (ys.map .int)) = some (decide (xs = ys)) := by
  show eqP S _ _ = _
  unfold eqP
  rw [dat_ints, dat_ints]
  simp only [shaped_ints, Bool.and_self, if_true, PyData.eqv, eqvAll_ints]
theorem bindA_star {fn : Fn} {args : List D} (h : fn.star = true) (h2 : fn.arity ≤ args.length ∧ args.length ≤ line) : bindA fn args = some (args.take fn.arity ++ [.tup (args.drop fn.arity)]) := by
  unfold bindA
  rw [if_pos h, if_pos h2]
end Ln

set_option linter.all false
/-! Ln: the evaluator's equations, with the store applied: what a rewriting runs. -/
namespace Ln
open PySem (Str PyData)
/-- what comes behind a result -/
def R.bnd {α β : Type} (r : R α) (f : α → Store → R β) : R β := match r with
  | .ok a s => f a s
  | .exc e s => .exc e s
  | .err => .err
theorem bnd_ok {α β : Type} {a : α} {S : Store} {f : α → Store → R β} : (R.ok a S).bnd f = f a S := id rfl
theorem bnd_exc {α β : Type} {e : Ex} {S : Store} {f : α → Store → R β} : (R.exc e S).bnd f = .exc e S := id rfl
theorem bnd_err {α β : Type} {f : α → Store → R β} : (R.err : R α).bnd f = .err := id rfl
theorem qBindF {α β : Type} (m : M α) (f : α → M β) : M.bind m f = fun S => (m S).bnd f := funext fun S => by unfold M.bind; cases m S <;> rfl
theorem qRet {α : Type} (a : α) (S : Store) : (M.ret a : M α) S = .ok a S := id rfl
theorem qRetF {α : Type} (a : α) : (M.ret a : M α) = fun S => .ok a S := id rfl
theorem qBind {α β : Type} (m : M α) (f : α → M β) (S : Store) : M.bind m f S = (m S).bnd f := by unfold M.bind; cases m S <;> rfl
def mapR {α : Type} (o : Option α) (S : Store) : R α := match o with | some a => .ok a S | none => .err
theorem mapR_some {α : Type} {a : α} {S : Store} : mapR (some a) S = .ok a S := id rfl
theorem qOpt {α : Type} (f : Store → Option α) (S : Store) : M.opt f S = mapR (f S) S := by unfold M.opt mapR; cases f S <;> rfl
theorem mapR_bnd {α β : Type} {o : Option α} {f : α → β} {S : Store} : (mapR o S).bnd (fun k S => .ok (f k) S) = mapR (o.map f) S := by cases o <;> rfl
theorem qOptF {α : Type} (f : Store → Option α) : M.opt f = fun S => mapR (f S) S := funext fun S => qOpt f S
/-- the work of a comprehension, of a for, of a while: opaque to the rewriting -/
def lcM (cf : Nat → List D → M D) (elt : E) (tg : Tg) (ifs : Es) (own : List Nat) (ρ : Rho) (xs : List D) (S : Store) : R D :=
  M.bind (M.nox (mapO (lcK ρ tg own (fun ρ' => evts cf ifs ρ') (fun ρ' => ev cf elt ρ')) xs)) (fun ys => M.ret (.lst ys)) S
def loopM (cf : Nat → List D → M D) (w : Nat) (tg : Tg) (b : Sms) (xs : List D) (ρ : Rho) (S : Store) : R (Fl × Rho) := forL (loopK tg fun ρ => execs cf w b ρ) xs ρ S
def whileM (cf : Nat → List D → M D) (w : Nat) (c : E) (b : Sms) (n : Nat) (ρ : Rho) (S : Store) : R (Fl × Rho) := whileL (fun ρ => evT cf c ρ) (fun ρ => execs cf w b ρ) n ρ S
/-- what comes behind a statement -/
def flowR (r : R (Fl × Rho)) (f : Rho → Store → R (Fl × Rho)) : R (Fl × Rho) := match r with
  | .ok (.nx, ρ) S => f ρ S
  | .ok (g, ρ) S => .ok (g, ρ) S
  | .exc e s => .exc e s
  | .err => .err
theorem flow_nx {ρ : Rho} {S : Store} {f : Rho → Store → R (Fl × Rho)} : flowR (.ok (.nx, ρ) S) f = f ρ S := id rfl
theorem flow_rt {ρ : Rho} {S : Store} {d : D} {f : Rho → Store → R (Fl × Rho)} : flowR (.ok (.rt d, ρ) S) f = .ok (.rt d, ρ) S := id rfl
theorem flow_bk {ρ : Rho} {S : Store} {f : Rho → Store → R (Fl × Rho)} : flowR (.ok (.bk, ρ) S) f = .ok (.bk, ρ) S := id rfl
theorem flow_ct {ρ : Rho} {S : Store} {f : Rho → Store → R (Fl × Rho)} : flowR (.ok (.ct, ρ) S) f = .ok (.ct, ρ) S := id rfl
theorem flow_exc {e : Ex} {S : Store} {f : Rho → Store → R (Fl × Rho)} : flowR (.exc e S) f = .exc e S := id rfl
def endR (r : R (Fl × Rho)) : R D := match r with
  | .ok (.nx, _) S => .ok .non S
  | .ok (.rt d, _) S => .ok d S
  | .ok _ _ => .err
  | .exc e s => .exc e s
  | .err => .err
theorem end_nx {ρ : Rho} {S : Store} : endR (.ok (.nx, ρ) S) = .ok .non S := id rfl
theorem end_rt {ρ : Rho} {S : Store} {d : D} : endR (.ok (.rt d, ρ) S) = .ok d S := id rfl
theorem end_exc {e : Ex} {S : Store} : endR (.exc e S) = .exc e S := id rfl
/-- branches -/
def andR (x : D) (f : R D) (S : Store) : R D := match x with
  | .bl true => f
  | .bl false => .ok (.bl false) S
  | _ => .err
def orR (x : D) (f : R D) (S : Store) : R D := match x with
  | .bl true => .ok (.bl true) S
  | .bl false => f
  | _ => .err
theorem andR_ite {k : Bool} {f : R D} {S : Store} : andR (.bl k) f S = if k = true then f else .ok (.bl false) S := by cases k <;> rfl
theorem orR_ite {k : Bool} {f : R D} {S : Store} : orR (.bl k) f S = if k = true then .ok (.bl true) S else f := by cases k <;> rfl
section
variable {cf : Nat → List D → M D} {w : Nat} {ρ : Rho} {S : Store} {a b c d i : E} {es ks vs : Es}
theorem e_var {i : Nat} : ev cf (.var i) ρ S = getV ρ i S := by simp only [ev]
theorem g_0 {o : D} {r : Rho} : getV (some o :: r) 0 S = .ok o S := id rfl
theorem g_s {o : Option D} {r : Rho} {i : Nat} : getV (o :: r) (i + 1) S = getV r i S := id rfl
theorem e_cst {d : D} : ev cf (.cst d) ρ S = .ok d S := by simp only [ev, M.ret]
theorem e_bin {o : Bop} : ev cf (.bin o a b) ρ S = (ev cf a ρ S).bnd fun x S1 => (ev cf b ρ S1).bnd fun y S2 => mapR (bop o x y S2) S2 := by simp only [ev, qBindF, qOptF]
theorem e_neg : ev cf (.neg a) ρ S = (ev cf a ρ S).bnd fun x S1 => negK x S1 := by simp only [ev, qBindF]
theorem e_not : ev cf (.not a) ρ S = (ev cf a ρ S).bnd fun x S1 => (truthM x S1).bnd fun k S2 => .ok (.bl (!k)) S2 := by simp only [ev, qBindF, qRetF]
theorem e_cmp {o : Cop} : ev cf (.cmp o a b) ρ S = (ev cf a ρ S).bnd fun x S1 => (ev cf b ρ S1).bnd fun y S2 => mapR ((cop o x y S2).map .bl) S2 := by simp only [ev, qBindF, qOptF, qRetF, mapR_bnd]
theorem e_chain {o o' : Cop} : ev cf (.chain o o' a b d) ρ S = (ev cf a ρ S).bnd fun x S1 => (ev cf b ρ S1).bnd fun y S2 => (mapR (cop o x y S2) S2).bnd fun k S3 => if k = true then (ev cf d ρ S3).bnd (fun z S4 => mapR ((cop o' y z S4).map .bl) S4) else .ok (.bl false) S3 := by 
  simp only [ev, qBindF, qOptF, qRetF]
  refine congrArg _ (funext fun x => funext fun S1 => congrArg _ (funext fun y => funext fun S2 => congrArg _ (funext fun k => funext fun S3 => ?_)))
  cases k with
  | true => simp only [if_true, qBindF, qOptF, qRetF, mapR_bnd]
  | false => rfl
theorem e_and : ev cf (.and a b) ρ S = (ev cf a ρ S).bnd fun x S1 => andR x (ev cf b ρ S1) S1 := by 
  simp only [ev, qBindF]
  refine congrArg _ (funext fun x => funext fun S1 => ?_)
  cases x <;> first | rfl | (rename_i k; cases k <;> rfl)
theorem e_or : ev cf (.or a b) ρ S = (ev cf a ρ S).bnd fun x S1 => orR x (ev cf b ρ S1) S1 := by 
  simp only [ev, qBindF]
  refine congrArg _ (funext fun x => funext fun S1 => ?_)
  cases x <;> first | rfl | (rename_i k; cases k <;> rfl)
theorem e_ite : ev cf (.ite c a b) ρ S = (ev cf c ρ S).bnd fun x S1 => (truthM x S1).bnd fun k S2 => if k = true then ev cf a ρ S2 else ev cf b ρ S2 := by 
  simp only [ev, qBindF]
  refine congrArg _ (funext fun x => funext fun S1 => congrArg _ (funext fun k => funext fun S2 => ?_))
  cases k <;> rfl
theorem e_tup : ev cf (.tup es) ρ S = (evs cf es ρ S).bnd fun xs S1 => .ok (.tup xs) S1 := by simp only [ev, qBindF, qRetF]
theorem e_lst : ev cf (.lst es) ρ S = (evs cf es ρ S).bnd fun xs S1 => .ok (.lst xs) S1 := by simp only [ev, qBindF, qRetF]
theorem e_lstM : ev cf (.lstM es) ρ S = (evs cf es ρ S).bnd fun xs S1 => .ok (.ref S1.length) (S1 ++ [.lst xs]) := by simp only [ev, qBindF]; rfl
theorem e_lstS : ev cf (.lstS es) ρ S = (evs cf es ρ S).bnd fun xs S1 => if xs.length ≤ line then .ok (.lst xs) S1 else .err := by 
  simp only [ev, qBindF]
  refine congrArg _ (funext fun x => funext fun S1 => ?_)
  split <;> rfl
theorem e_dct : ev cf (.dct ks vs) ρ S = (evs cf ks ρ S).bnd fun x S1 => (evs cf vs ρ S1).bnd fun y S2 => .ok (.dct x y) S2 := by simp only [ev, qBindF, qRetF]
theorem e_idx : ev cf (.idx a b) ρ S = (ev cf a ρ S).bnd fun x S1 => (ev cf b ρ S1).bnd fun y S2 => mapR (idxD S2 x y) S2 := by simp only [ev, qBindF, qOptF]
theorem e_slc {lo hi : Eo} : ev cf (.slc a lo hi) ρ S = (ev cf a ρ S).bnd fun x S1 => (evo cf lo ρ S1).bnd fun l S2 => (evo cf hi ρ S2).bnd fun h S3 => mapR (slcD S3 x l h) S3 := by simp only [ev, qBindF, qOptF]
theorem e_rev : ev cf (.rev a) ρ S = (ev cf a ρ S).bnd fun x S1 => mapR (revD S1 x) S1 := by simp only [ev, qBindF, qOptF]
theorem e_isi {t : Ty} : ev cf (.isi a t) ρ S = (ev cf a ρ S).bnd fun x S1 => mapR ((isiD S1 t x).map .bl) S1 := by simp only [ev, qBindF, qOptF, qRetF, mapR_bnd]
theorem e_fz : ev cf (.fz a) ρ S = (ev cf a ρ S).bnd fun x S1 => fzK x S1 := by simp only [ev, qBindF]
theorem e_repM : ev cf (.repM a b) ρ S = (ev cf a ρ S).bnd fun x S1 => (ev cf b ρ S1).bnd fun y S2 => repK x y S2 := by simp only [ev, qBindF]
theorem e_addM : ev cf (.addM a b) ρ S = (ev cf a ρ S).bnd fun x S1 => (ev cf b ρ S1).bnd fun y S2 => catK x y S2 := by simp only [ev, qBindF]
theorem cat_rl {n : Nat} {xs ys : List D} (h : S[n]? = some (.lst xs)) (hl : xs.length + ys.length ≤ line) : catK (.ref n) (.lst ys) S = .ok (.ref S.length) (S ++ [.lst (xs ++ ys)]) := by
  unfold catK
  simp only [lstOf, h, hl, if_true]
  rfl
theorem fz_ref {n : Nat} {xs : List D} (h : S[n]? = some (.lst xs)) : fzK (.ref n) S = .ok (.lst xs) (S.set n (.fzl xs)) := by unfold fzK; simp only [h]
theorem fz_refF {n : Nat} {xs : List D} (h : S[n]? = some (.fzl xs)) : fzK (.ref n) S = .ok (.lst xs) S := by unfold fzK; simp only [h]
theorem fz_lst {xs : List D} : fzK (.lst xs) S = .ok (.lst xs) S := id rfl
theorem fz_tup {xs : List D} : fzK (.tup xs) S = .ok (.tup xs) S := id rfl
theorem fz_dct {ks vs : List D} : fzK (.dct ks vs) S = .ok (.dct ks vs) S := id rfl
theorem rep_l {xs : List D} {n : Nat} (h : xs.length * n ≤ line) (h2 : n ≤ line) : repK (.lst xs) (.int (n : Int)) S = .ok (.ref S.length) (S ++ [.lst (List.replicate n xs).flatten]) := by
  unfold repK
  have h1 : small63 (n : Int) = true := by unfold small63; simp; have : line = 2 ^ 24 := rfl; omega
  simp only [lstOf, h1, Int.toNat_natCast, Bool.true_and, decide_eq_true h, if_true]
  rfl
theorem m_dget {ks vs : List D} : mthOk .dget (.dct ks vs) S = some () := id rfl
theorem b_dget {ks vs : List D} {k e : D} (h : isKey k = true) : dgetF S [.dct ks vs, k, e] = some ((lookD k ks vs).getD e) := by unfold dgetF; simp only [h, if_true]
theorem in_dct {ks vs : List D} {k : D} (h : isKey k = true) : inD S k (.dct ks vs) = some (ks.any (keyIs k)) := by unfold inD; simp only [h, if_true]
theorem e_blt {o : Blt} : ev cf (.blt o es) ρ S = (evs cf es ρ S).bnd fun xs S1 => blt o xs S1 := by simp only [ev, qBindF]
theorem e_call {f : Nat} : ev cf (.call f es) ρ S = (evs cf es ρ S).bnd fun xs S1 => cf f xs S1 := by simp only [ev, qBindF]
theorem e_lc {tg : Tg} {it : It} {own : List Nat} : ev cf (.lc a tg it es own) ρ S = (evi cf it ρ S).bnd fun xs S1 => lcM cf a tg es own ρ xs S1 := by simp only [ev]; rw [qBind]; rfl
theorem e_mth {o : Blt} : ev cf (.mth o a es) ρ S = (ev cf a ρ S).bnd fun x S1 => (mapR (mthOk o x S1) S1).bnd fun _ S2 => (evs cf es ρ S2).bnd fun xs S3 => blt o (x :: xs) S3 := by simp only [ev, qBindF, qOptF]
theorem m_tindex {xs : List D} : mthOk .tindex (.tup xs) S = some () := id rfl
theorem m_tcount {xs : List D} : mthOk .tcount (.tup xs) S = some () := id rfl
theorem m_append {n : Nat} {xs : List D} (h : S[n]? = some (.lst xs)) : mthOk .append (.ref n) S = some () := by unfold mthOk; simp only [h]
theorem m_popAt {n : Nat} {xs : List D} (h : S[n]? = some (.lst xs)) : mthOk .popAt (.ref n) S = some () := by unfold mthOk; simp only [h]
theorem m_appendR {n : Nat} {xs : List D} {x : D} (h : S[n]? = some (.lst xs)) (hl : xs.length < line) : appendF [.ref n, x] S = .ok .non (S.set n (.lst (xs ++ [x]))) := by
  unfold appendF
  simp only [h, hl, if_true]
  rfl
theorem l_nil : evs cf .nil ρ S = .ok [] S := by simp only [evs, M.ret]
theorem l_cons : evs cf (.cons a es) ρ S = (ev cf a ρ S).bnd fun x S1 => (evs cf es ρ S1).bnd fun xs S2 => .ok (x :: xs) S2 := by simp only [evs, qBindF, qRetF]
theorem l_star : evs cf (.star a es) ρ S = (ev cf a ρ S).bnd fun x S1 => (starK x S1).bnd fun ys S2 => (evs cf es ρ S2).bnd fun xs S3 => .ok (ys ++ xs) S3 := by simp only [evs, qBindF, qRetF]
theorem t_nil : evts cf .nil ρ S = .ok true S := by simp only [evts, M.ret]
theorem t_cons : evts cf (.cons a es) ρ S = (ev cf a ρ S).bnd fun x S1 => (truthM x S1).bnd fun k S2 => if k = true then evts cf es ρ S2 else .ok false S2 := by 
  simp only [evts, qBindF]
  refine congrArg _ (funext fun x => funext fun S1 => congrArg _ (funext fun k => funext fun S2 => ?_))
  cases k <;> rfl
theorem o_no : evo cf .no ρ S = .ok none S := by simp only [evo, M.ret]
theorem o_so : evo cf (.so a) ρ S = (ev cf a ρ S).bnd fun x S1 => intK x S1 := by simp only [evo, qBindF]
theorem i_seq : evi cf (.seq a) ρ S = (ev cf a ρ S).bnd fun x S1 => seqK x S1 := by simp only [evi, qBindF]
theorem i_rng1 : evi cf (.rng1 a) ρ S = (ev cf a ρ S).bnd fun x S1 => rngK x S1 := by simp only [evi, qBindF]
theorem i_rng2 : evi cf (.rng2 a b) ρ S = (ev cf a ρ S).bnd fun x S1 => (ev cf b ρ S1).bnd fun y S2 => rng2K x y S2 := by simp only [evi, qBindF]
theorem i_zip : evi cf (.zip a b) ρ S = (ev cf a ρ S).bnd fun x S1 => (ev cf b ρ S1).bnd fun y S2 => zipK x y S2 := by simp only [evi, qBindF]
theorem i_enumT : evi cf (.enumT a) ρ S = (ev cf a ρ S).bnd fun x S1 => enumTK x S1 := by simp only [evi, qBindF]
theorem k_enumT {xs : List D} : enumTK (.tup xs) S = .ok (numbered 0 xs) S := id rfl
theorem i_enum : evi cf (.enum a) ρ S = (ev cf a ρ S).bnd fun x S1 => enumK x S1 := by simp only [evi, qBindF]
/-! small parts -/
theorem k_neg {n : Int} : negK (.int n) S = .ok (.int (-n)) S := id rfl
theorem k_int {n : Int} : intK (.int n) S = .ok (some n) S := id rfl
theorem k_seqT {xs : List D} : seqK (.tup xs) S = .ok xs S := id rfl
theorem k_seqL {xs : List D} : seqK (.lst xs) S = .ok xs S := id rfl
theorem k_seqS {z : Str} (h : z.length ≤ line) : seqK (.str z) S = .ok (chars z) S := by unfold seqK; simp only [h, if_true]; rfl
theorem k_seqF {xs : List D} : seqK (.frz xs) S = .ok xs S := id rfl
theorem k_starT {xs : List D} : starK (.tup xs) S = .ok xs S := id rfl
theorem k_starL {xs : List D} : starK (.lst xs) S = .ok xs S := id rfl
theorem k_zipT {xs ys : List D} : zipK (.tup xs) (.tup ys) S = .ok (pairs xs ys) S := id rfl
theorem k_zipL {xs ys : List D} : zipK (.lst xs) (.lst ys) S = .ok (pairs xs ys) S := id rfl
theorem k_zipM {xs ys : List D} : zipK (.lst xs) (.tup ys) S = .ok (pairs xs ys) S := id rfl
theorem k_zipM2 {xs ys : List D} : zipK (.tup xs) (.lst ys) S = .ok (pairs xs ys) S := id rfl
theorem k_enum {xs : List D} : enumK (.lst xs) S = .ok (numbered 0 xs) S := id rfl
theorem k_rng {n : Nat} (h : n ≤ line) : rngK (.int (n : Int)) S = .ok ((List.range n).map fun (i : Nat) => .int (i : Int)) S := by
  unfold rngK
  have h1 : small62 (n : Int) = true := by unfold small62; simp; have : line = 2 ^ 24 := rfl; omega
  simp only [h1, Int.toNat_natCast, Bool.true_and, decide_eq_true h, if_true, range_0]
  rfl
theorem k_rng2 {a b : Nat} (h : a ≤ line) (h2 : b ≤ line) : rng2K (.int (a : Int)) (.int (b : Int)) S = .ok ((List.range (b - a)).map fun (i : Nat) => .int ((a + i : Nat) : Int)) S := by
  unfold rng2K
  have h1 : small62 (a : Int) = true := by unfold small62; simp; have : line = 2 ^ 24 := rfl; omega
  have h3 : small62 (b : Int) = true := by unfold small62; simp; have : line = 2 ^ 24 := rfl; omega
  have h4 : ((b : Int) - a).toNat = b - a := by omega
  simp only [h1, h3, h4, Bool.true_and]
  rw [if_pos (decide_eq_true (by omega))]
  unfold range
  rw [h4]
  simp only [Int.natCast_add]
  rfl
theorem tr_bl {k : Bool} : truthM (.bl k) S = .ok k S := id rfl
theorem tr_int {n : Int} : truthM (.int n) S = .ok (n != 0) S := id rfl
theorem tr_tup {xs : List D} : truthM (.tup xs) S = .ok (!xs.isEmpty) S := id rfl
theorem tr_lst {xs : List D} : truthM (.lst xs) S = .ok (!xs.isEmpty) S := id rfl
theorem b_lenT {xs : List D} : lenF S [.tup xs] = some (.int xs.length) := id rfl
theorem b_lenL {xs : List D} : lenF S [.lst xs] = some (.int xs.length) := id rfl
theorem b_lenF {xs : List D} : lenF S [.frz xs] = some (.int xs.length) := id rfl
theorem b_tupT {xs : List D} : tupleF S [.tup xs] = some (.tup xs) := id rfl
theorem b_tupL {xs : List D} : tupleF S [.lst xs] = some (.tup xs) := id rfl
theorem b_lstT {xs : List D} : listF S [.tup xs] = some (.lst xs) := id rfl
theorem b_lstL {xs : List D} : listF S [.lst xs] = some (.lst xs) := id rfl
theorem b_allL {xs : List D} : allF S [.lst xs] = (boolsD xs).map fun bs => .bl (bs.all id) := id rfl
theorem b_anyL {xs : List D} : anyF S [.lst xs] = (boolsD xs).map fun bs => .bl (bs.any id) := id rfl
theorem b_sumL {xs : List D} : sumF S [.lst xs] = (intsD xs).map fun bs => .int bs.sum := id rfl
theorem b_sumT {xs : List D} : sumF S [.tup xs] = (intsD xs).map fun bs => .int bs.sum := id rfl
theorem b_abs {n : Int} : absF S [.int n] = some (.int (if n < 0 then -n else n)) := id rfl
theorem b_max {m n : Int} : maxF S [.int m, .int n] = some (.int (if n > m then n else m)) := id rfl
theorem b_min {m n : Int} : minF S [.int m, .int n] = some (.int (if n < m then n else m)) := id rfl
theorem b_intI {m : Int} : intF S [.int m] = some (.int m) := id rfl
theorem b_intB {m : Bool} : intF S [.bl m] = some (.int (if m then 1 else 0)) := id rfl
theorem q_ii {m n : Int} : eqD S (.int m) (.int n) = some (decide (m = n)) := id rfl
theorem q_ss {m n : Str} : eqD S (.str m) (.str n) = some (decide (m = n)) := id rfl
/-! statements -/
variable {s : Sm} {r ia ib : Sms}
theorem s_nil : execs cf w .nil ρ S = .ok (.nx, ρ) S := by simp only [execs, M.ret]
theorem s_cons : execs cf w (.cons s r) ρ S = flowR (exec cf w s ρ S) fun ρ' S1 => execs cf w r ρ' S1 := by
  simp only [execs, qBind]
  cases exec cf w s ρ S with
  | ok x S1 => obtain ⟨f, ρ'⟩ := x; cases f <;> rfl
  | _ => rfl
theorem x_expr : exec cf w (.expr a) ρ S = (ev cf a ρ S).bnd fun _ S1 => .ok (.nx, ρ) S1 := by simp only [exec, qBindF, qRetF]
theorem x_set {i : Nat} : exec cf w (.set i a) ρ S = (ev cf a ρ S).bnd fun x S1 => .ok (.nx, ρ.set i (some x)) S1 := by simp only [exec, qBindF, qRetF]
theorem x_setT {is : List Nat} : exec cf w (.setT is a) ρ S = (ev cf a ρ S).bnd fun x S1 => unpK ρ is x S1 := by simp only [exec, qBindF]
theorem x_par {is : List Nat} : exec cf w (.par is es) ρ S = (evs cf es ρ S).bnd fun xs S1 => parK ρ is xs S1 := by simp only [exec, qBindF]
theorem x_setI : exec cf w (.setI a b c) ρ S = (ev cf c ρ S).bnd fun v S1 => (ev cf a ρ S1).bnd fun x S2 => (ev cf b ρ S2).bnd fun k S3 => setIK ρ v x k S3 := by simp only [exec, qBindF]
theorem x_aug {i : Nat} {o : Bop} : exec cf w (.aug i o a) ρ S = (getV ρ i S).bnd fun x S1 => (ev cf a ρ S1).bnd fun y S2 => augK ρ i o x y S2 := by simp only [exec, qBindF]
theorem x_cond : exec cf w (.cond a ia ib) ρ S = (ev cf a ρ S).bnd fun x S1 => (truthM x S1).bnd fun k S2 => if k = true then execs cf w ia ρ S2 else execs cf w ib ρ S2 := by 
  simp only [exec, evT, qBind]
  cases ev cf a ρ S with
  | ok x S1 =>
    simp only [bnd_ok]
    refine congrArg _ (funext fun k => funext fun S2 => ?_)
    cases k <;> rfl
  | _ => rfl
theorem x_loop {tg : Tg} {it : It} : exec cf w (.loop tg it ia) ρ S = (evi cf it ρ S).bnd fun xs S1 => loopM cf w tg ia xs ρ S1 := by simp only [exec, qBind]; rfl
theorem x_while : exec cf w (.while a ia) ρ S = whileM cf w a ia w ρ S := by simp only [exec]; rfl
theorem x_ret : exec cf w (.ret a) ρ S = (ev cf a ρ S).bnd fun x S1 => .ok (.rt x, ρ) S1 := by simp only [exec, qBindF, qRetF]
theorem x_retN : exec cf w .retN ρ S = .ok (.rt .non, ρ) S := by simp only [exec, M.ret]
theorem x_pass : exec cf w .pass ρ S = .ok (.nx, ρ) S := by simp only [exec, M.ret]
theorem x_brk : exec cf w .brk ρ S = .ok (.bk, ρ) S := by simp only [exec, M.ret]
theorem x_cont : exec cf w .cont ρ S = .ok (.ct, ρ) S := by simp only [exec, M.ret]
theorem x_mat {cs : Ks} : exec cf w (.mat a cs) ρ S = (ev cf a ρ S).bnd fun x S1 => execk cf w cs x ρ S1 := by simp only [exec, qBindF]
theorem mk_nil {d : D} : execk cf w .nil d ρ S = .ok (.nx, ρ) S := by simp only [execk, M.ret]
theorem mk_cons {x z : Str} {cs : Ks} : execk cf w (.cons x ia cs) (.str z) ρ S = if z = x then execs cf w ia ρ S else execk cf w cs (.str z) ρ S := by simp only [execk]; split <;> rfl
theorem x_run {fn : Fn} {args : List D} : runBody cf w fn args S = endR (execs cf w fn.body (args.map some ++ List.replicate (fn.slots - args.length) none) S) := by
  simp only [runBody, qBind]
  cases execs cf w fn.body (args.map some ++ List.replicate (fn.slots - args.length) none) S with
  | ok x S1 => obtain ⟨f, ρ'⟩ := x; cases f <;> rfl
  | _ => rfl
/-! comprehensions -/
theorem bnd_congr {α β : Type} {r r' : R α} {f : α → Store → R β} (h : r = r') : r.bnd f = r'.bnd f := by rw [h]
theorem flow_congr {r r' : R (Fl × Rho)} {f : Rho → Store → R (Fl × Rho)} (h : r = r') : flowR r f = flowR r' f := by rw [h]
theorem andR_congr {x x' : D} {f : R D} {S : Store} (h : x = x') : andR x f S = andR x' f S := by rw [h]
theorem orR_congr {x x' : D} {f : R D} {S : Store} (h : x = x') : orR x f S = orR x' f S := by rw [h]

theorem lcM_ok {elt : E} {tg : Tg} {ifs : Es} {own : List Nat} {xs ys : List D} {S' : Store} (h : mapO (lcK ρ tg own (fun ρ' => evts cf ifs ρ') (fun ρ' => ev cf elt ρ')) xs S = .ok ys S') : lcM cf elt tg ifs own ρ xs S = .ok (.lst ys) S' := by
  unfold lcM
  simp only [rBind, rNox, h, rRet]
/-- one turn: no tests -/
theorem turn {α : Type} {elt : E} {tg : Tg} {own : List Nat} {x y : D} {ρ' : Rho} {S' : Store} (h : setTg (wipe ρ own) tg x = some ρ') (e : ev cf elt ρ' S = .ok y S') : lcK ρ tg own (fun ρ' => evts cf .nil ρ') (fun ρ' => ev cf elt ρ') x S = .ok (some y) S' := by
  unfold lcK
  rw [h]
  simp only [rBind, t_nil, if_true, e, rRet]
theorem lcM_map {α : Type} {elt : E} {tg : Tg} {own : List Nat} (g f : α → D) (l : List α) (h : ∀ x ∈ l, ∃ ρ', setTg (wipe ρ own) tg (g x) = some ρ' ∧ ev cf elt ρ' S = .ok (f x) S) : lcM cf elt tg .nil own ρ (l.map g) S = .ok (.lst (l.map f)) S :=
  lcM_ok (mapO_map fun a ha => by obtain ⟨ρ', h1, h2⟩ := h a ha; exact turn (α := Unit) h1 h2)
theorem lcM_id {elt : E} {tg : Tg} {own : List Nat} (f : D → D) (l : List D) (h : ∀ x ∈ l, ∃ ρ', setTg (wipe ρ own) tg x = some ρ' ∧ ev cf elt ρ' S = .ok (f x) S) : lcM cf elt tg .nil own ρ l S = .ok (.lst (l.map f)) S := by
  have := lcM_map (cf := cf) (ρ := ρ) (S := S) id f l h
  rwa [List.map_id] at this
/-- one turn with a test -/
theorem turnT {elt c : E} {tg : Tg} {own : List Nat} {x : D} {k : Bool} {y : D} {ρ' : Rho} (h : setTg (wipe ρ own) tg x = some ρ') (ht : ev cf c ρ' S = .ok (.bl k) S) (e : k = true → ev cf elt ρ' S = .ok y S) : lcK ρ tg own (fun ρ' => evts cf (.cons c .nil) ρ') (fun ρ' => ev cf elt ρ') x S = .ok (if k then some y else none) S := by
  have htt : evts cf (.cons c .nil) ρ' S = .ok k S := by
    rw [t_cons, ht]
    cases k <;> rfl
  unfold lcK
  rw [h]
  cases k with
  | true => simp only [rBind, htt, if_true, e rfl, rRet]
  | false => simp only [rBind, htt, if_false, rRet, Bool.false_eq_true]
theorem lcM_filter {α : Type} {elt c : E} {tg : Tg} {own : List Nat} (g f : α → D) (p : α → Bool) (l : List α) (h : ∀ x ∈ l, ∃ ρ', setTg (wipe ρ own) tg (g x) = some ρ' ∧ ev cf c ρ' S = .ok (.bl (p x)) S ∧ (p x = true → ev cf elt ρ' S = .ok (f x) S)) :
    lcM cf elt tg (.cons c .nil) own ρ (l.map g) S = .ok (.lst ((l.filter p).map f)) S := by
  refine lcM_ok ((mapO_filter (f := fun a => if p a then some (f a) else none) fun a ha => by obtain ⟨ρ', h1, h2, h3⟩ := h a ha; exact turnT h1 h2 h3).trans ?_)
  congr 1
  clear h
  induction l with
  | nil => rfl
  | cons a l ih =>
    simp only [List.filterMap_cons, List.filter_cons]
    cases p a with
    | true => simp only [if_true, List.map_cons, ih]
    | false => simpa using ih
/-! fors -/
theorem loopM_nil {tg : Tg} {b : Sms} : loopM cf w tg b [] ρ S = .ok (.nx, ρ) S := id rfl
theorem loopM_nx {tg : Tg} {b : Sms} {x : D} {xs : List D} {ρ1 ρ2 : Rho} {S1 : Store} (h : setTg ρ tg x = some ρ1) (e : execs cf w b ρ1 S = .ok (.nx, ρ2) S1) : loopM cf w tg b (x :: xs) ρ S = loopM cf w tg b xs ρ2 S1 := by
  unfold loopM
  simp only [forL, rBind, loopK, h, e]
theorem loopM_rt {tg : Tg} {b : Sms} {x d : D} {xs : List D} {ρ1 ρ2 : Rho} {S1 : Store} (h : setTg ρ tg x = some ρ1) (e : execs cf w b ρ1 S = .ok (.rt d, ρ2) S1) : loopM cf w tg b (x :: xs) ρ S = .ok (.rt d, ρ2) S1 := by
  unfold loopM
  simp only [forL, rBind, loopK, h, e, rRet]
theorem loopM_inv {α : Type} {tg : Tg} {b : Sms} (g : α → D) (I : Rho → Store → Prop) (l : List α) (h : ∀ a ∈ l, ∀ ρ S, I ρ S → ∃ ρ' ρ2 S', setTg ρ tg (g a) = some ρ' ∧ execs cf w b ρ' S = .ok (.nx, ρ2) S' ∧ I ρ2 S') (h0 : I ρ S) :
    ∃ ρ' S', loopM cf w tg b (l.map g) ρ S = .ok (.nx, ρ') S' ∧ I ρ' S' :=
  forL_inv (fun a ha ρ S hi => by
    obtain ⟨ρ', ρ2, S', h1, h2, h3⟩ := h a ha ρ S hi
    refine ⟨ρ2, S', ?_, h3⟩
    unfold loopK
    rw [h1]
    exact h2) h0
theorem loopM_fold {α β : Type} {tg : Tg} {b : Sms} (g : α → D) (f : β → α → β) (I : β → Rho → Prop) : ∀ (l : List α) (b0 : β) {ρ : Rho}, (∀ x, ∀ a ∈ l, ∀ ρ, I x ρ → ∃ ρ' ρ2, setTg ρ tg (g a) = some ρ' ∧ execs cf w b ρ' S = .ok (.nx, ρ2) S ∧ I (f x a) ρ2) → I b0 ρ →
    ∃ ρ', loopM cf w tg b (l.map g) ρ S = .ok (.nx, ρ') S ∧ I (l.foldl f b0) ρ'
  | [], b0, ρ, _, h0 => ⟨ρ, rfl, h0⟩
  | a :: l, b0, ρ, h, h0 => by
    obtain ⟨ρ', ρ2, h1, h2, h3⟩ := h b0 a List.mem_cons_self ρ h0
    obtain ⟨ρ3, h4, h5⟩ := loopM_fold g f I l (f b0 a) (fun x c hc => h x c (List.mem_cons_of_mem _ hc)) h3
    refine ⟨ρ3, ?_, h5⟩
    unfold loopM at h4 ⊢
    simp only [List.map_cons, forL, rBind, loopK, h1, h2]
    exact h4
theorem loopM_count {α : Type} {tg : Tg} {b : Sms} (g : α → D) (I : Nat → Rho → Store → Prop) (l : List α) (h : ∀ i a, l[i]? = some a → ∀ ρ S, I i ρ S → ∃ ρ' ρ2 S', setTg ρ tg (g a) = some ρ' ∧ execs cf w b ρ' S = .ok (.nx, ρ2) S' ∧ I (i + 1) ρ2 S') (h0 : I 0 ρ S) :
    ∃ ρ' S', loopM cf w tg b (l.map g) ρ S = .ok (.nx, ρ') S' ∧ I l.length ρ' S' :=
  forL_count (l := l) (n := 0) rfl (fun i a ha ρ S hi => by
    obtain ⟨ρ', ρ2, S', h1, h2, h3⟩ := h i a ha ρ S hi
    refine ⟨ρ2, S', ?_, h3⟩
    unfold loopK
    rw [h1]
    exact h2) h0 (Nat.zero_le _)
/-- a comprehension with a store that changes -/
theorem lcM_inv {α : Type} {elt : E} {tg : Tg} {own : List Nat} (g : α → D) (I : Store → Prop) (P : D → Prop) (l : List α) (h : ∀ a ∈ l, ∀ S, I S → ∃ ρ' y S', setTg (wipe ρ own) tg (g a) = some ρ' ∧ ev cf elt ρ' S = .ok y S' ∧ I S' ∧ P y) (h0 : I S) :
    ∃ ys S', lcM cf elt tg .nil own ρ (l.map g) S = .ok (.lst ys) S' ∧ I S' ∧ ys.length = l.length ∧ ∀ y ∈ ys, P y := by
  obtain ⟨ys, S', e, i, hl, hp⟩ := mapO_inv (step := lcK ρ tg own (fun ρ' => evts cf .nil ρ') (fun ρ' => ev cf elt ρ')) (g := g) (I := I) (P := fun _ y => P y) (l := l) (fun a ha S hi => by
    obtain ⟨ρ', y, S', h1, h2, h3, h4⟩ := h a ha S hi
    exact ⟨y, S', turn (α := Unit) h1 h2, h3, h4⟩) h0
  exact ⟨ys, S', lcM_ok e, i, hl, fun y hy => by obtain ⟨_, _, p⟩ := hp y hy; exact p⟩
theorem dec_eq {α : Type} [DecidableEq α] (a : α) : decide (a = a) = true := decide_eq_true rfl
end
end Ln

namespace K01
open Ln
def b_is_action : Sms :=
  (.cons (.cond (.or (.not (.isi (.var 0) .str)) (.not (.chain .le .le (.cst (.int 1)) (.blt .len (.cons (.var 0) .nil)) (.cst (.int 8)))))
  (.cons (.ret (.cst (.bl false)))
  .nil) .nil)
  (.cons (.ret (.blt .all (.cons (.lc (.cmp .isIn (.var 1) (.cst (.str "abcdefghijklmnopqrstuvwxyz"))) (.nm 1) (.seq (.var 0)) .nil [1]) .nil)))
  .nil))
def b_is_alphabet : Sms :=
  (.cons (.cond (.or (.not (.isi (.var 0) .tuple)) (.not (.chain .le .le (.cst (.int 1)) (.blt .len (.cons (.var 0) .nil)) (.cst (.int 5)))))
  (.cons (.ret (.cst (.bl false)))
  .nil) .nil)
  (.cons (.cond (.not (.blt .all (.cons (.lc (.call 0 (.cons (.var 1) .nil)) (.nm 1) (.seq (.var 0)) .nil [1]) .nil)))
  (.cons (.ret (.cst (.bl false)))
  .nil) .nil)
  (.cons (.ret (.blt .all (.cons (.lc (.cmp .lt (.var 2) (.var 3)) (.tp [2, 3]) (.zip (.var 0) (.slc (.var 0) (.so (.cst (.int 1))) .no)) .nil [2, 3]) .nil)))
  .nil)))
def b_is_word_of : Sms :=
  (.cons (.ret (.and (.isi (.var 1) .tuple) (.blt .all (.cons (.lc (.and (.isi (.var 2) .str) (.cmp .isIn (.var 2) (.var 0))) (.nm 2) (.seq (.var 1)) .nil [2]) .nil))))
  .nil)
def b_counts_in : Sms :=
  (.cons (.ret (.blt .tuple (.cons (.lc (.mth .tcount (.var 1) (.cons (.var 2) .nil)) (.nm 2) (.seq (.var 0)) .nil [2]) .nil)))
  .nil)
def b_require_alphabet : Sms :=
  (.cons (.cond (.not (.call 1 (.cons (.var 0) .nil)))
  (.cons (.raise 1 (.cst .non))
  .nil) .nil)
  .nil)
def b_require_word : Sms :=
  (.cons (.cond (.or (.not (.call 2 (.cons (.var 0) (.cons (.var 1) .nil)))) (.cmp .gt (.blt .len (.cons (.var 1) .nil)) (.cst (.int 200))))
  (.cons (.raise 2 (.cst .non))
  .nil) .nil)
  .nil)
def b_make_alphabet : Sms :=
  (.cons (.ret (.call 7 (.cons (.var 0) .nil)))
  .nil)
def b_alphabet_from : Sms :=
  (.cons (.cond (.or (.not (.isi (.var 0) .tuple)) (.not (.blt .all (.cons (.lc (.call 0 (.cons (.var 2) .nil)) (.nm 2) (.seq (.var 0)) .nil [2]) .nil))))
  (.cons (.raise 1 (.cst .non))
  .nil) .nil)
  (.cons (.set 1 (.blt .tuple (.cons (.blt .sset (.cons (.var 0) .nil)) .nil)))
  (.cons (.expr (.call 4 (.cons (.var 1) .nil)))
  (.cons (.ret (.var 1))
  .nil))))
def b_is_word : Sms :=
  (.cons (.expr (.call 4 (.cons (.var 0) .nil)))
  (.cons (.ret (.call 2 (.cons (.var 0) (.cons (.var 1) .nil))))
  .nil))
def b_counts_of : Sms :=
  (.cons (.expr (.call 4 (.cons (.var 0) .nil)))
  (.cons (.expr (.call 5 (.cons (.var 0) (.cons (.var 1) .nil))))
  (.cons (.ret (.call 3 (.cons (.var 0) (.cons (.var 1) .nil))))
  .nil)))
def b__law_stream : Sms :=
  (.cons (.set 2 (.bin .add (.bin .mul (.cst (.int 13)) (.var 1)) (.cst (.int 6))))
  (.cons (.cond (.cmp .lt (.var 1) (.blt .len (.cons (.var 0) .nil)))
  (.cons (.set 2 (.idx (.var 0) (.var 1)))
  .nil) .nil)
  (.cons (.set 3 (.bin .mod (.blt .abs (.cons (.var 2) .nil)) (.bin .pow (.bin .pow (.cst (.int 10)) (.cst (.int 60))) (.cst (.int 11)))))
  (.cons (.set 4 (.bin .mod (.bin .add (.bin .add (.bin .add (.bin .mul (.bin .mod (.var 3) (.cst (.int 2147483579))) (.cst (.int 48271))) (.bin .mul (.cst (.int 92821)) (.var 1))) (.bin .mul (.cst (.int 5)) (.blt .int (.cons (.cmp .lt (.var 2) (.cst (.int 0))) .nil)))) (.cst (.int 29))) (.cst (.int 2147483563))))
  (.cons (.ret (.lstM (.cons (.blt .max (.cons (.cst (.int 0)) (.cons (.bin .add (.bin .sub (.var 3) (.bin .pow (.cst (.int 10)) (.cst (.int 18)))) (.cst (.int 1))) .nil))) (.cons (.var 4) (.cons (.cst (.int 0)) .nil)))))
  .nil)))))
def b__law_draw : Sms :=
  (.cons (.cond (.cmp .gt (.idx (.var 0) (.cst (.int 0))) (.cst (.int 0)))
  (.cons (.set 2 (.bin .mod (.idx (.var 0) (.cst (.int 0))) (.var 1)))
  (.cons (.setI (.var 0) (.cst (.int 0)) (.bin .fdiv (.idx (.var 0) (.cst (.int 0))) (.var 1)))
  (.cons (.ret (.var 2))
  .nil))) .nil)
  (.cons (.setI (.var 0) (.cst (.int 2)) (.bin .add (.idx (.var 0) (.cst (.int 2))) (.cst (.int 1))))
  (.cons (.set 3 (.bin .mod (.bin .add (.idx (.var 0) (.cst (.int 1))) (.bin .mul (.cst (.int 1000037)) (.idx (.var 0) (.cst (.int 2))))) (.cst (.int 2305843009213693951))))
  (.cons (.set 4 (.bin .mod (.bin .add (.bin .mul (.bin .mod (.bin .mul (.var 3) (.var 3)) (.cst (.int 2305843009213693921))) (.var 3)) (.bin .mul (.cst (.int 7907)) (.idx (.var 0) (.cst (.int 2))))) (.cst (.int 2305843009213693907))))
  (.cons (.ret (.bin .mod (.bin .fdiv (.var 4) (.cst (.int 4099))) (.var 1)))
  .nil)))))
def b__law_pick : Sms :=
  (.cons (.ret (.idx (.var 1) (.call 11 (.cons (.var 0) (.cons (.blt .len (.cons (.var 1) .nil)) .nil)))))
  .nil)
def b__law_mixed : Sms :=
  (.cons (.par [2, 3] (.cons (.blt .listM (.cons (.var 1) .nil)) (.cons (.lstM .nil) .nil)))
  (.cons (.while (.cmp .ne (.var 2) (.lst .nil))
  (.cons (.expr (.mth .append (.var 3) (.cons (.mth .popAt (.var 2) (.cons (.call 11 (.cons (.var 0) (.cons (.blt .len (.cons (.var 2) .nil)) .nil))) .nil)) .nil)))
  .nil))
  (.cons (.ret (.var 3))
  .nil)))
def b__law_word : Sms :=
  (.cons (.ret (.blt .tuple (.cons (.lc (.call 12 (.cons (.var 0) (.cons (.var 1) .nil))) (.nm 3) (.rng1 (.call 11 (.cons (.var 0) (.cons (.bin .add (.var 2) (.cst (.int 1))) .nil)))) .nil [3]) .nil)))
  .nil)
def b__law_is_word : Sms :=
  (.cons (.cond (.not (.isi (.var 1) .tuple))
  (.cons (.ret (.cst (.bl false)))
  .nil) .nil)
  (.cons (.ret (.cmp .eq (.lc (.cst (.int 1)) (.nm 2) (.seq (.var 1)) (.cons (.or (.not (.isi (.var 2) .str)) (.cmp .notIn (.var 2) (.var 0))) .nil) [2]) (.lst .nil)))
  .nil))
def b__law_odd : Sms :=
  (.cons (.set 1 (.lst (.cons (.cst .non) (.cons (.cst (.bl true)) (.cons (.cst (.bl false)) (.cons (.neg (.cst (.int 1))) (.cons (.cst (.int 0)) (.cons (.cst (.int 1)) (.cons (.cst (.int 7)) (.cons (.bin .pow (.cst (.int 10)) (.cst (.int 39))) (.cons (.cst (.str "")) (.cons (.cst (.str "a")) (.cons (.cst (.str "b")) (.cons (.cst (.str "A")) (.cons (.tup .nil) (.cons (.lst .nil) (.cons (.dct .nil .nil) (.cons (.tup (.cons (.cst (.int 0)) .nil)) (.cons (.tup (.cons (.cst (.str "a")) .nil)) (.cons (.lst (.cons (.cst (.int 0)) .nil)) (.cons (.tup (.cons (.tup .nil) .nil)) (.cons (.cst (.str "a b")) .nil))))))))))))))))))))))
  (.cons (.ret (.call 12 (.cons (.var 0) (.cons (.var 1) .nil))))
  .nil))
def b__law_bent : Sms :=
  (.cons (.cond (.and (.isi (.var 1) .tuple) (.and (.cmp .ne (.var 1) (.tup .nil)) (.and (.cmp .gt (.var 2) (.cst (.int 0))) (.cmp .gt (.call 11 (.cons (.var 0) (.cons (.cst (.int 4)) .nil))) (.cst (.int 0))))))
  (.cons (.set 3 (.call 11 (.cons (.var 0) (.cons (.blt .len (.cons (.var 1) .nil)) .nil))))
  (.cons (.ret (.bin .add (.bin .add (.slc (.var 1) .no (.so (.var 3))) (.tup (.cons (.call 17 (.cons (.var 0) (.cons (.idx (.var 1) (.var 3)) (.cons (.bin .sub (.var 2) (.cst (.int 1))) .nil)))) .nil))) (.slc (.var 1) (.so (.bin .add (.var 3) (.cst (.int 1)))) .no)))
  .nil)) .nil)
  (.cons (.cond (.isi (.var 1) .tuple)
  (.cons (.set 3 (.call 11 (.cons (.var 0) (.cons (.bin .add (.blt .len (.cons (.var 1) .nil)) (.cst (.int 1))) .nil))))
  (.cons (.set 4 (.lst (.cons (.blt .list (.cons (.var 1) .nil)) (.cons (.bin .add (.slc (.var 1) .no (.so (.var 3))) (.slc (.var 1) (.so (.bin .add (.var 3) (.cst (.int 1)))) .no)) (.cons (.bin .add (.bin .add (.slc (.var 1) .no (.so (.var 3))) (.tup (.cons (.cst (.int 0)) .nil))) (.slc (.var 1) (.so (.var 3)) .no)) (.cons (.rev (.var 1)) .nil))))))
  (.cons (.ret (.call 12 (.cons (.var 0) (.cons (.bin .add (.var 4) (.lst (.cons (.bin .add (.var 1) (.slc (.var 1) (.so (.neg (.cst (.int 1)))) .no)) (.cons (.tup (.cons (.var 1) .nil)) (.cons (.tup .nil) (.cons (.bin .add (.bin .add (.slc (.var 1) .no (.so (.var 3))) (.slc (.var 1) .no (.so (.cst (.int 1))))) (.slc (.var 1) (.so (.var 3)) .no)) .nil)))))) .nil))))
  .nil))) .nil)
  (.cons (.cond (.and (.isi (.var 1) .int) (.not (.isi (.var 1) .bool)))
  (.cons (.ret (.call 12 (.cons (.var 0) (.cons (.lst (.cons (.bin .add (.var 1) (.cst (.int 1))) (.cons (.bin .sub (.var 1) (.cst (.int 1))) (.cons (.bin .sub (.cst (.int 0)) (.var 1)) (.cons (.cmp .eq (.var 1) (.cst (.int 1))) (.cons (.blt .str (.cons (.var 1) .nil)) (.cons (.tup (.cons (.var 1) .nil)) (.cons (.bin .mul (.cst (.int 2)) (.var 1)) .nil)))))))) .nil))))
  .nil) .nil)
  (.cons (.cond (.isi (.var 1) .str)
  (.cons (.ret (.call 12 (.cons (.var 0) (.cons (.lst (.cons (.bin .add (.var 1) (.cst (.str "a"))) (.cons (.slc (.var 1) (.so (.cst (.int 1))) .no) (.cons (.cst (.str "place")) (.cons (.cst (.str "mixture")) (.cons (.cst (.str "a")) (.cons (.mth .upper (.var 1) .nil) (.cons (.tup (.cons (.var 1) .nil)) (.cons (.cst .non) .nil))))))))) .nil))))
  .nil) .nil)
  (.cons (.ret (.call 16 (.cons (.var 0) .nil)))
  .nil)))))
def b__law_is_action : Sms :=
  (.cons (.cond (.or (.not (.isi (.var 0) .str)) (.not (.chain .le .le (.cst (.int 1)) (.blt .len (.cons (.var 0) .nil)) (.cst (.int 8)))))
  (.cons (.ret (.cst (.bl false)))
  .nil) .nil)
  (.cons (.ret (.cmp .eq (.lc (.cst (.int 1)) (.nm 1) (.seq (.var 0)) (.cons (.cmp .notIn (.var 1) (.cst (.str "abcdefghijklmnopqrstuvwxyz"))) .nil) [1]) (.lst .nil)))
  .nil))
def b__law_is_alphabet : Sms :=
  (.cons (.cond (.or (.not (.isi (.var 0) .tuple)) (.not (.chain .le .le (.cst (.int 1)) (.blt .len (.cons (.var 0) .nil)) (.cst (.int 5)))))
  (.cons (.ret (.cst (.bl false)))
  .nil) .nil)
  (.cons (.cond (.cmp .ne (.lc (.cst (.int 1)) (.nm 1) (.seq (.var 0)) (.cons (.not (.call 18 (.cons (.var 1) .nil))) .nil) [1]) (.lst .nil))
  (.cons (.ret (.cst (.bl false)))
  .nil) .nil)
  (.cons (.ret (.cmp .eq (.blt .list (.cons (.var 0) .nil)) (.blt .sset (.cons (.var 0) .nil))))
  .nil)))
def b__law_actions : Sms :=
  (.cons (.set 1 (.cst (.str "abcdefghijklmnopqrstuvwxyz")))
  (.cons (.set 2 (.lstM .nil))
  (.cons (.loop (.nm 3) (.rng1 (.bin .add (.cst (.int 1)) (.call 11 (.cons (.var 0) (.cons (.cst (.int 5)) .nil)))))
  (.cons (.set 4 (.mth .sjoin (.cst (.str "")) (.cons (.lc (.idx (.var 1) (.call 11 (.cons (.var 0) (.cons (.cst (.int 26)) .nil)))) (.nm 5) (.rng1 (.bin .add (.cst (.int 1)) (.call 11 (.cons (.var 0) (.cons (.cst (.int 8)) .nil))))) .nil [5]) .nil)))
  (.cons (.cond (.cmp .notIn (.var 4) (.var 2))
  (.cons (.expr (.mth .append (.var 2) (.cons (.var 4) .nil)))
  .nil) .nil)
  .nil)))
  (.cons (.ret (.var 2))
  .nil))))
def b__law_alphabet_right : Sms :=
  (.cons (.set 2 (.blt .tuple (.cons (.blt .sortS (.cons (.var 1) .nil)) .nil)))
  (.cons (.set 3 (.call 13 (.cons (.var 0) (.cons (.bin .add (.var 1) (.slc (.var 1) .no (.so (.call 11 (.cons (.var 0) (.cons (.cst (.int 3)) .nil)))))) .nil))))
  (.cons (.cond (.or (.cmp .ne (.blt .repr (.cons (.call 7 (.cons (.blt .tuple (.cons (.var 3) .nil)) .nil)) .nil)) (.blt .repr (.cons (.var 2) .nil))) (.cmp .gt (.blt .len (.cons (.var 2) .nil)) (.cst (.int 5))))
  (.cons (.ret (.cst (.bl false)))
  .nil) .nil)
  (.cons (.par [4, 5] (.cons (.idx (.var 3) (.cst (.int 0))) (.cons (.idx (.var 3) (.neg (.cst (.int 1)))) .nil)))
  (.cons (.cond (.or (.cmp .ne (.call 6 (.cons (.var 4) .nil)) (.tup (.cons (.var 4) .nil))) (.cmp .ne (.call 6 (.cons (.var 5) (.cons (.var 4) (.cons (.var 5) .nil)))) (.blt .tuple (.cons (.blt .sset (.cons (.lst (.cons (.var 4) (.cons (.var 5) .nil))) .nil)) .nil))))
  (.cons (.ret (.cst (.bl false)))
  .nil) .nil)
  (.cons (.set 6 (.lst (.cons (.var 2) (.cons (.blt .list (.cons (.var 2) .nil)) (.cons (.bin .add (.var 2) (.slc (.var 2) (.so (.neg (.cst (.int 1)))) .no)) (.cons (.rev (.var 2)) (.cons (.bin .add (.var 2) (.tup (.cons (.cst (.str "zzzzzzzzz")) .nil))) (.cons (.tup (.cons (.var 2) .nil)) (.cons (.bin .add (.var 2) (.tup (.cons (.cst (.int 1)) .nil))) (.cons (.blt .tuple (.cons (.var 3) .nil)) (.cons (.tup .nil) .nil)))))))))))
  (.cons (.set 6 (.bin .add (.var 6) (.lst (.cons (.tup (.cons (.cst (.str "a")) (.cons (.cst (.str "b")) (.cons (.cst (.str "c")) (.cons (.cst (.str "d")) (.cons (.cst (.str "e")) (.cons (.cst (.str "f")) .nil))))))) (.cons (.tup (.cons (.cst (.str "")) .nil)) (.cons (.tup (.cons (.cst (.str "a")) (.cons (.cst (.str "a")) .nil))) (.cons (.tup (.cons (.cst (.str "A")) .nil)) (.cons (.tup (.cons (.cst (.str "a b")) .nil)) (.cons (.tup (.cons (.cst (.str "a1")) .nil)) (.cons (.cst (.str "a")) (.cons (.cst (.str "abc")) (.cons (.cst .non) .nil))))))))))))
  (.cons (.loop (.nm 7) (.rng1 (.cst (.int 8)))
  (.cons (.set 6 (.bin .add (.var 6) (.lst (.cons (.call 17 (.cons (.var 0) (.cons (.var 2) (.cons (.cst (.int 2)) .nil)))) (.cons (.call 16 (.cons (.var 0) .nil)) .nil)))))
  .nil))
  (.cons (.ret (.cmp .eq (.lc (.var 8) (.nm 8) (.seq (.var 6)) (.cons (.cmp .ne (.blt .repr (.cons (.call 1 (.cons (.var 8) .nil)) .nil)) (.blt .repr (.cons (.call 19 (.cons (.var 8) .nil)) .nil))) .nil) [8]) (.lst .nil)))
  .nil)))))))))
def b__law_words_right : Sms :=
  (.cons (.set 2 (.call 14 (.cons (.var 0) (.cons (.var 1) (.cons (.cst (.int 12)) .nil)))))
  (.cons (.set 3 (.bin .mul (.bin .add (.var 2) (.slc (.var 1) .no (.so (.cst (.int 1))))) (.bin .add (.cst (.int 1)) (.bin .fdiv (.cst (.int 200)) (.bin .add (.blt .len (.cons (.var 2) .nil)) (.cst (.int 1)))))))
  (.cons (.loop (.nm 4) (.seq (.tup (.cons (.var 2) (.cons (.tup .nil) (.cons (.var 1) (.cons (.slc (.var 3) .no (.so (.cst (.int 200)))) (.cons (.slc (.var 3) .no (.so (.cst (.int 199)))) .nil)))))))
  (.cons (.par [5, 6] (.cons (.blt .repr (.cons (.var 4) .nil)) (.cons (.call 9 (.cons (.var 1) (.cons (.var 4) .nil))) .nil)))
  (.cons (.cond (.cmp .ne (.blt .repr (.cons (.var 6) .nil)) (.blt .repr (.cons (.blt .tuple (.cons (.lc (.blt .len (.cons (.lc (.cst (.int 1)) (.nm 10) (.seq (.var 4)) (.cons (.cmp .eq (.var 10) (.var 9)) .nil) [10]) .nil)) (.nm 9) (.seq (.var 1)) .nil [9]) .nil)) .nil)))
  (.cons (.ret (.cst (.bl false)))
  .nil) .nil)
  (.cons (.cond (.or (.cmp .ne (.blt .repr (.cons (.var 4) .nil)) (.var 5)) (.or (.cmp .ne (.blt .sum (.cons (.var 6) .nil)) (.blt .len (.cons (.var 4) .nil))) (.cmp .isNot (.call 8 (.cons (.var 1) (.cons (.var 4) .nil))) (.cst (.bl true)))))
  (.cons (.ret (.cst (.bl false)))
  .nil) .nil)
  .nil))))
  (.cons (.set 7 (.lst (.cons (.bin .mul (.var 3) (.cst (.int 2))) (.cons (.blt .list (.cons (.var 2) .nil)) (.cons (.bin .add (.var 2) (.tup (.cons (.cst (.str "zzz")) .nil))) (.cons (.bin .add (.var 2) (.tup (.cons (.cst (.int 0)) .nil))) (.cons (.tup (.cons (.var 1) .nil)) (.cons (.cst (.str "a")) (.cons (.idx (.var 1) (.cst (.int 0))) (.cons (.cst .non) (.cons (.rev (.var 2)) (.cons (.dct .nil .nil) .nil))))))))))))
  (.cons (.loop (.nm 8) (.rng1 (.cst (.int 6)))
  (.cons (.set 7 (.bin .add (.var 7) (.lst (.cons (.call 17 (.cons (.var 0) (.cons (.var 2) (.cons (.cst (.int 2)) .nil)))) (.cons (.call 16 (.cons (.var 0) .nil)) .nil)))))
  .nil))
  (.cons (.ret (.cmp .eq (.lc (.var 11) (.nm 11) (.seq (.var 7)) (.cons (.cmp .ne (.blt .repr (.cons (.call 8 (.cons (.var 1) (.cons (.var 11) .nil))) .nil)) (.blt .repr (.cons (.call 15 (.cons (.var 1) (.cons (.var 11) .nil))) .nil))) .nil) [11]) (.lst .nil)))
  .nil))))))
def b_law : Sms :=
  (.cons (.cond (.cmp .ne (.lst (.cons (.cst (.int 5)) (.cons (.cst (.int 200)) .nil))) (.lst (.cons (.cst (.int 5)) (.cons (.cst (.int 200)) .nil))))
  (.cons (.ret (.cst (.bl false)))
  .nil) .nil)
  (.cons (.loop (.nm 1) (.rng1 (.blt .max (.cons (.cst (.int 1)) (.cons (.blt .min (.cons (.cst (.int 8)) (.cons (.blt .len (.cons (.var 0) .nil)) .nil))) .nil))))
  (.cons (.set 2 (.call 10 (.cons (.var 0) (.cons (.var 1) .nil))))
  (.cons (.set 3 (.call 20 (.cons (.var 2) .nil)))
  (.cons (.cond (.or (.not (.call 21 (.cons (.var 2) (.cons (.var 3) .nil)))) (.not (.call 22 (.cons (.var 2) (.cons (.blt .tuple (.cons (.blt .sortS (.cons (.var 3) .nil)) .nil)) .nil)))))
  (.cons (.ret (.cst (.bl false)))
  .nil) .nil)
  .nil))))
  (.cons (.cond (.or (.cmp .ne (.call 6 (.cons (.cst (.str "x")) (.cons (.cst (.str "a")) (.cons (.cst (.str "b")) .nil)))) (.tup (.cons (.cst (.str "a")) (.cons (.cst (.str "b")) (.cons (.cst (.str "x")) .nil))))) (.cmp .ne (.call 9 (.cons (.tup (.cons (.cst (.str "a")) (.cons (.cst (.str "x")) .nil))) (.cons (.tup .nil) .nil))) (.tup (.cons (.cst (.int 0)) (.cons (.cst (.int 0)) .nil)))))
  (.cons (.ret (.cst (.bl false)))
  .nil) .nil)
  (.cons (.set 4 (.lst (.cons (.call 1 (.cons (.tup (.cons (.cst (.str "a")) (.cons (.cst (.str "b")) (.cons (.cst (.str "c")) (.cons (.cst (.str "d")) (.cons (.cst (.str "e")) .nil)))))) .nil)) (.cons (.call 1 (.cons (.tup (.cons (.cst (.str "abcdefgh")) .nil)) .nil)) (.cons (.call 1 (.cons (.tup (.cons (.cst (.str "abcdefghi")) .nil)) .nil)) .nil)))))
  (.cons (.ret (.and (.cmp .eq (.var 4) (.lst (.cons (.cst (.bl true)) (.cons (.cst (.bl true)) (.cons (.cst (.bl false)) .nil))))) (.cmp .eq (.call 6 (.cons (.cst (.str "b")) (.cons (.cst (.str "b")) (.cons (.cst (.str "b")) .nil)))) (.tup (.cons (.cst (.str "b")) .nil)))))
  .nil)))))
def prog : List Fn := [
  ⟨1, false, 2, b_is_action⟩,
  ⟨1, false, 4, b_is_alphabet⟩,
  ⟨2, false, 3, b_is_word_of⟩,
  ⟨2, false, 3, b_counts_in⟩,
  ⟨1, false, 1, b_require_alphabet⟩,
  ⟨2, false, 2, b_require_word⟩,
  ⟨0, true, 1, b_make_alphabet⟩,
  ⟨1, false, 3, b_alphabet_from⟩,
  ⟨2, false, 2, b_is_word⟩,
  ⟨2, false, 2, b_counts_of⟩,
  ⟨2, false, 5, b__law_stream⟩,
  ⟨2, false, 5, b__law_draw⟩,
  ⟨2, false, 2, b__law_pick⟩,
  ⟨2, false, 4, b__law_mixed⟩,
  ⟨3, false, 4, b__law_word⟩,
  ⟨2, false, 3, b__law_is_word⟩,
  ⟨1, false, 2, b__law_odd⟩,
  ⟨3, false, 5, b__law_bent⟩,
  ⟨1, false, 2, b__law_is_action⟩,
  ⟨1, false, 2, b__law_is_alphabet⟩,
  ⟨1, false, 6, b__law_actions⟩,
  ⟨2, false, 9, b__law_alphabet_right⟩,
  ⟨2, false, 12, b__law_words_right⟩,
  ⟨1, false, 5, b_law⟩]
section
variable {w k : Nat} {S : Store}
theorem u_is_action {x0 : D} : callI prog w (k + 1) 0 [x0] S = runBody (callI prog w k) w ⟨1, false, 2, b_is_action⟩ [x0] S := callI_s rfl rfl
theorem u_is_alphabet {x0 : D} : callI prog w (k + 1) 1 [x0] S = runBody (callI prog w k) w ⟨1, false, 4, b_is_alphabet⟩ [x0] S := callI_s rfl rfl
theorem u_is_word_of {x0 x1 : D} : callI prog w (k + 1) 2 [x0, x1] S = runBody (callI prog w k) w ⟨2, false, 3, b_is_word_of⟩ [x0, x1] S := callI_s rfl rfl
theorem u_counts_in {x0 x1 : D} : callI prog w (k + 1) 3 [x0, x1] S = runBody (callI prog w k) w ⟨2, false, 3, b_counts_in⟩ [x0, x1] S := callI_s rfl rfl
theorem u_require_alphabet {x0 : D} : callI prog w (k + 1) 4 [x0] S = runBody (callI prog w k) w ⟨1, false, 1, b_require_alphabet⟩ [x0] S := callI_s rfl rfl
theorem u_require_word {x0 x1 : D} : callI prog w (k + 1) 5 [x0, x1] S = runBody (callI prog w k) w ⟨2, false, 2, b_require_word⟩ [x0, x1] S := callI_s rfl rfl
theorem u_make_alphabet {r : List D} (h : r.length ≤ line) : callI prog w (k + 1) 6 r S = runBody (callI prog w k) w ⟨0, true, 1, b_make_alphabet⟩ [.tup r] S := callI_s rfl (bindA_star rfl ⟨Nat.zero_le _, h⟩)
theorem u_alphabet_from {x0 : D} : callI prog w (k + 1) 7 [x0] S = runBody (callI prog w k) w ⟨1, false, 3, b_alphabet_from⟩ [x0] S := callI_s rfl rfl
theorem u_is_word {x0 x1 : D} : callI prog w (k + 1) 8 [x0, x1] S = runBody (callI prog w k) w ⟨2, false, 2, b_is_word⟩ [x0, x1] S := callI_s rfl rfl
theorem u_counts_of {x0 x1 : D} : callI prog w (k + 1) 9 [x0, x1] S = runBody (callI prog w k) w ⟨2, false, 2, b_counts_of⟩ [x0, x1] S := callI_s rfl rfl
theorem u__law_stream {x0 x1 : D} : callI prog w (k + 1) 10 [x0, x1] S = runBody (callI prog w k) w ⟨2, false, 5, b__law_stream⟩ [x0, x1] S := callI_s rfl rfl
theorem u__law_draw {x0 x1 : D} : callI prog w (k + 1) 11 [x0, x1] S = runBody (callI prog w k) w ⟨2, false, 5, b__law_draw⟩ [x0, x1] S := callI_s rfl rfl
theorem u__law_pick {x0 x1 : D} : callI prog w (k + 1) 12 [x0, x1] S = runBody (callI prog w k) w ⟨2, false, 2, b__law_pick⟩ [x0, x1] S := callI_s rfl rfl
theorem u__law_mixed {x0 x1 : D} : callI prog w (k + 1) 13 [x0, x1] S = runBody (callI prog w k) w ⟨2, false, 4, b__law_mixed⟩ [x0, x1] S := callI_s rfl rfl
theorem u__law_word {x0 x1 x2 : D} : callI prog w (k + 1) 14 [x0, x1, x2] S = runBody (callI prog w k) w ⟨3, false, 4, b__law_word⟩ [x0, x1, x2] S := callI_s rfl rfl
theorem u__law_is_word {x0 x1 : D} : callI prog w (k + 1) 15 [x0, x1] S = runBody (callI prog w k) w ⟨2, false, 3, b__law_is_word⟩ [x0, x1] S := callI_s rfl rfl
theorem u__law_odd {x0 : D} : callI prog w (k + 1) 16 [x0] S = runBody (callI prog w k) w ⟨1, false, 2, b__law_odd⟩ [x0] S := callI_s rfl rfl
theorem u__law_bent {x0 x1 x2 : D} : callI prog w (k + 1) 17 [x0, x1, x2] S = runBody (callI prog w k) w ⟨3, false, 5, b__law_bent⟩ [x0, x1, x2] S := callI_s rfl rfl
theorem u__law_is_action {x0 : D} : callI prog w (k + 1) 18 [x0] S = runBody (callI prog w k) w ⟨1, false, 2, b__law_is_action⟩ [x0] S := callI_s rfl rfl
theorem u__law_is_alphabet {x0 : D} : callI prog w (k + 1) 19 [x0] S = runBody (callI prog w k) w ⟨1, false, 2, b__law_is_alphabet⟩ [x0] S := callI_s rfl rfl
theorem u__law_actions {x0 : D} : callI prog w (k + 1) 20 [x0] S = runBody (callI prog w k) w ⟨1, false, 6, b__law_actions⟩ [x0] S := callI_s rfl rfl
theorem u__law_alphabet_right {x0 x1 : D} : callI prog w (k + 1) 21 [x0, x1] S = runBody (callI prog w k) w ⟨2, false, 9, b__law_alphabet_right⟩ [x0, x1] S := callI_s rfl rfl
theorem u__law_words_right {x0 x1 : D} : callI prog w (k + 1) 22 [x0, x1] S = runBody (callI prog w k) w ⟨2, false, 12, b__law_words_right⟩ [x0, x1] S := callI_s rfl rfl
theorem u_law {x0 : D} : callI prog w (k + 1) 23 [x0] S = runBody (callI prog w k) w ⟨1, false, 5, b_law⟩ [x0] S := callI_s rfl rfl
end
end K01

set_option linter.all false
set_option maxRecDepth 10000
/-! The laws' prelude, more of it: while, mixed lists, alphabets, words. -/
namespace Ln
open PySem (PyData Str)
theorem lineB {n : Nat} (h : n ≤ 16000000) : n ≤ line := by have : line = 2 ^ 24 := rfl; omega
theorem erase_perm {α : Type} {l : List α} {t : Nat} (h : t < l.length) : (l[t] :: l.eraseIdx t).Perm l := by
  have e : l = l.take t ++ l[t] :: l.drop (t + 1) := by rw [List.getElem_cons_drop, List.take_append_drop]
  rw [List.eraseIdx_eq_take_drop_succ]
  conv => rhs; rw [e]
  exact List.perm_middle.symm
theorem whileM_inv {cf : Nat → List D → M D} {w : Nat} {c : E} {b : Sms} (I : Nat → Rho → Store → Prop) (J : Rho → Store → Prop)
    (h : ∀ m ρ S, I m ρ S → ∃ k S1, evT cf c ρ S = .ok k S1 ∧ (k = true → ∃ ρ2 S2 m', execs cf w b ρ S1 = .ok (.nx, ρ2) S2 ∧ m' < m ∧ I m' ρ2 S2) ∧ (k = false → J ρ S1)) :
    ∀ (f m : Nat) (ρ : Rho) (S : Store), m < f → I m ρ S → ∃ ρ' S', whileM cf w c b f ρ S = .ok (.nx, ρ') S' ∧ J ρ' S'
  | 0, _, _, _, h0, _ => absurd h0 (Nat.not_lt_zero _)
  | f + 1, m, ρ, S, h0, hi => by
    obtain ⟨k, S1, e1, ht, hf⟩ := h m ρ S hi
    cases k with
    | true =>
      obtain ⟨ρ2, S2, m', e2, hm, hi2⟩ := ht rfl
      obtain ⟨ρ3, S3, e3, hj⟩ := whileM_inv I J h f m' ρ2 S2 (by omega) hi2
      refine ⟨ρ3, S3, ?_, hj⟩
      unfold whileM at e3 ⊢
      simp only [whileL, rBind, e1, if_true, e2]
      exact e3
    | false =>
      refine ⟨ρ, S1, ?_, hf rfl⟩
      unfold whileM
      simp only [whileL, rBind, e1, if_false, Bool.false_eq_true, rRet]
section
variable {prog : List Fn} {w k i j n : Nat} {S : Store}
theorem pickT_sp (h : prog[i]? = some ⟨2, false, 5, b_draw⟩) (h2 : prog[j]? = some ⟨2, false, 2, b_pick i⟩) (hs : Strm n S) {ds : List D} (h0 : ds ≠ []) (h1 : ds.length < 1000) :
    ∃ d S', callI prog w (k + 2) j [.ref n, .tup ds] S = .ok d S' ∧ d ∈ ds ∧ Strm n S' ∧ S'.length = S.length ∧ ∀ m, m ≠ n → S'[m]? = S[m]? := by
  have hl : 0 < ds.length := List.length_pos_iff.mpr h0
  obtain ⟨r, S', e, r0, r1, hs', hl', ho⟩ := draw_sp (w := w) (k := k) h hs (t := (ds.length : Int)) (by omega) (by
    rw [Int.natAbs_natCast]
    have := Nat.log2_le_self ds.length
    omega)
  obtain ⟨q, hq⟩ : ∃ q : Nat, r = q := ⟨r.toNat, by omega⟩
  subst hq
  have hr : q < ds.length := by omega
  refine ⟨ds[q], S', ?_, List.getElem_mem hr, hs', hl', ho⟩
  rw [callI_s h2 rfl]
  simp [b_pick, qOpt, qRet, bnd_ok, bnd_exc, bnd_err, flow_nx, flow_rt, flow_bk, flow_ct, flow_exc, end_nx, end_rt, end_exc, e_var, g_0, g_s, e_cst, e_bin, e_neg, e_not, e_cmp, e_chain, e_and, e_or, e_ite, e_tup, e_lst, e_lstM, e_lstS, e_dct, e_idx, e_slc, e_rev, e_isi, e_fz, e_repM, e_addM, fz_lst, fz_tup, fz_dct, m_dget, e_blt, e_call, e_mth, m_tindex, m_tcount, e_lc, l_nil, l_cons, l_star, t_nil, t_cons, o_no, o_so, i_seq, i_rng1, i_rng2, i_zip, i_enum, i_enumT, k_enumT, k_neg, k_int, k_seqT, k_seqL, k_seqF, k_starT, k_starL, k_zipT, k_zipL, k_zipM, k_zipM2, k_enum, k_rng, k_rng2, tr_bl, tr_int, tr_tup, tr_lst, s_nil, s_cons, x_expr, x_set, x_setT, x_par, x_setI, x_aug, x_cond, x_loop, x_while, x_ret, x_retN, x_pass, x_brk, x_mat, mk_nil, mk_cons, x_cont, x_run, b_lenT, b_lenL, b_lenF, b_tupT, b_tupL, b_lstT, b_lstL, b_allL, b_anyL, b_sumL, b_sumT, b_abs, b_max, b_min, b_intI, b_intB, q_ii, q_ss, mapR_some, andR_ite, orR_ite, unpK, parK, augK, setIK, setTg, setAll, wipe, blt, blt0, seqOf, lstOf, cop, bop, intOp, isiD, tyOf, atP, place, Option.map_some, Option.map_none, Option.bind_some, Option.bind_none, e, idxD, hr, List.getElem?_eq_getElem hr]
/-- what may be compared with a list -/
def Dok (d : D) : Prop := ∃ p : PyData, (∀ S, toP S 23 d = some p) ∧ p.canLay0 = true ∧ p.depth ≤ 40
theorem ref_nil {m : Nat} {es : List D} (h : S[m]? = some (.lst es)) (hd : ∀ e ∈ es, Dok e) : eqD S (.ref m) (.lst []) = some es.isEmpty := by
  show eqP S _ _ = _
  have hp : ∃ ps : List PyData, es.mapM (toP S 23) = some ps ∧ PyData.canLayAll0 ps = true ∧ PyData.depthAll ps ≤ 40 ∧ ps.length = es.length := by
    clear h
    induction es with
    | nil => exact ⟨[], rfl, rfl, Nat.zero_le _, rfl⟩
    | cons e es ih =>
      obtain ⟨p, h1, h2, h3⟩ := hd e List.mem_cons_self
      obtain ⟨ps, g1, g2, g3, g4⟩ := ih fun x hx => hd x (List.mem_cons_of_mem _ hx)
      refine ⟨p :: ps, by rw [List.mapM_cons, h1, g1]; rfl, by simp [PyData.canLayAll0, h2, g2], by simp only [PyData.depthAll]; omega, by simp [g4]⟩
  obtain ⟨ps, h1, h2, h3, h4⟩ := hp
  have e1 : dat S (.ref m) = some (.list ps) := by
    show (match S[m]? with | some (O.lst xs) => (xs.mapM (toP S 23)).map PyData.list | some (.dct ks vs) => (ks.mapM (toP S 23)).bind fun a => (vs.mapM (toP S 23)).map fun b => .dict (a.zip b) | _ => none) = _
    rw [h]
    simp only [h1, Option.map_some]
  have e2 : dat S (.lst []) = some (.list []) := rfl
  have sh : PySem.SeqAt.shaped (.list ps) = true := by
    simp [PySem.SeqAt.shaped, PyData.canLay0, h2, PyData.depth]
    omega
  unfold eqP
  rw [e1, e2]
  simp only [sh, show PySem.SeqAt.shaped (.list []) = true by decide, Bool.and_self, if_true]
  cases ps with
  | nil => cases es with
    | nil => rfl
    | cons => simp at h4
  | cons => cases es with
    | nil => simp at h4
    | cons => simp [PyData.eqv, PyData.eqvAll]
def b_mixed (d : Nat) : Sms :=
  (.cons (.par [2, 3] (.cons (.blt .listM (.cons (.var 1) .nil)) (.cons (.lstM .nil) .nil)))
  (.cons (.while (.cmp .ne (.var 2) (.lst .nil))
  (.cons (.expr (.mth .append (.var 3) (.cons (.mth .popAt (.var 2) (.cons (.call d (.cons (.var 0) (.cons (.blt .len (.cons (.var 2) .nil)) .nil))) .nil)) .nil)))
  .nil))
  (.cons (.ret (.var 3))
  .nil)))
theorem mixed_sp (h : prog[i]? = some ⟨2, false, 5, b_draw⟩) (h2 : prog[j]? = some ⟨2, false, 4, b_mixed i⟩) (hs : Strm n S) {ds : List D} (h1 : ds.length < 1000) (hw : ds.length < w) (hd : ∀ d ∈ ds, Dok d) :
    ∃ b fs S', callI prog w (k + 2) j [.ref n, .lst ds] S = .ok (.ref b) S' ∧ S'[b]? = some (.lst fs) ∧ fs.Perm ds ∧ Strm n S' := by
  have hn : n < S.length := by obtain ⟨_, _, _, e⟩ := hs; exact (List.getElem?_eq_some_iff.mp e).1
  have hs2 : Strm n ((S ++ [.lst ds]) ++ [.lst []]) := by
    obtain ⟨a, b, c, e⟩ := hs
    exact ⟨a, b, c, by rw [List.getElem?_append_left (by simp; omega), List.getElem?_append_left hn]; exact e⟩
  have ga : ((S ++ [O.lst ds]) ++ [O.lst []])[S.length]? = some (.lst ds) := by simp
  have gb : ((S ++ [O.lst ds]) ++ [O.lst []])[S.length + 1]? = some (.lst []) := by simp
  obtain ⟨ρ', S', e, fs, hρ, hf, hp, hs'⟩ := whileM_inv (cf := callI prog w (k + 1)) (w := w) (c := .cmp .ne (.var 2) (.lst .nil)) (b := .cons (.expr (.mth .append (.var 3) (.cons (.mth .popAt (.var 2) (.cons (.call i (.cons (.var 0) (.cons (.blt .len (.cons (.var 2) .nil)) .nil))) .nil)) .nil))) .nil)
    (fun m ρ S1 => ∃ es fs, ρ = [some (.ref n), some (.lst ds), some (.ref S.length), some (.ref (S.length + 1))] ∧ S1[S.length]? = some (.lst es) ∧ S1[S.length + 1]? = some (.lst fs) ∧ es.length = m ∧ (fs ++ es).Perm ds ∧ Strm n S1)
    (fun ρ S1 => ∃ fs, ρ = [some (.ref n), some (.lst ds), some (.ref S.length), some (.ref (S.length + 1))] ∧ S1[S.length + 1]? = some (.lst fs) ∧ fs.Perm ds ∧ Strm n S1)
    (fun m ρ S1 hI => by
      obtain ⟨es, fs, rfl, he, hf, rfl, hp, hs1⟩ := hI
      have q := ref_nil he fun x hx => hd x (hp.subset (List.mem_append_right _ hx))
      refine ⟨!es.isEmpty, S1, by unfold evT; simp only [rBind, qOpt, qRet, bnd_ok, bnd_exc, bnd_err, flow_nx, flow_rt, flow_bk, flow_ct, flow_exc, end_nx, end_rt, end_exc, e_var, g_0, g_s, e_cst, e_bin, e_neg, e_not, e_cmp, e_chain, e_and, e_or, e_ite, e_tup, e_lst, e_lstM, e_lstS, e_dct, e_idx, e_slc, e_rev, e_isi, e_fz, e_repM, e_addM, fz_lst, fz_tup, fz_dct, m_dget, e_blt, e_call, e_mth, m_tindex, m_tcount, e_lc, l_nil, l_cons, l_star, t_nil, t_cons, o_no, o_so, i_seq, i_rng1, i_rng2, i_zip, i_enum, i_enumT, k_enumT, k_neg, k_int, k_seqT, k_seqL, k_seqF, k_starT, k_starL, k_zipT, k_zipL, k_zipM, k_zipM2, k_enum, k_rng, k_rng2, tr_bl, tr_int, tr_tup, tr_lst, s_nil, s_cons, x_expr, x_set, x_setT, x_par, x_setI, x_aug, x_cond, x_loop, x_while, x_ret, x_retN, x_pass, x_brk, x_mat, mk_nil, mk_cons, x_cont, x_run, b_lenT, b_lenL, b_lenF, b_tupT, b_tupL, b_lstT, b_lstL, b_allL, b_anyL, b_sumL, b_sumT, b_abs, b_max, b_min, b_intI, b_intB, q_ii, q_ss, mapR_some, andR_ite, orR_ite, unpK, parK, augK, setIK, setTg, setAll, wipe, blt, blt0, seqOf, lstOf, cop, bop, intOp, isiD, tyOf, atP, place, Option.map_some, Option.map_none, Option.bind_some, Option.bind_none, eq_self, reduceCtorEq, Int.reduceLE, Int.reduceLT, Int.reduceNeg, Int.reduceEq, Int.reduceToNat, Int.reduceAdd, Int.reduceSub, Nat.reduceLeDiff, reduceIte,  List.flatten_cons, List.flatten_nil, List.length_map, List.map_cons, List.map_nil, List.length_cons, List.length_nil, List.replicate_succ, List.replicate_zero, List.cons_append, List.nil_append, List.append_nil, List.set_cons_zero, List.set_cons_succ, Bool.not_true, Bool.not_false, if_true, if_false, ite_true, ite_false, Bool.false_eq_true, decide_true, decide_false, Bool.or_true, Bool.true_or, Bool.or_false, Bool.false_or, Bool.and_true, Bool.true_and, Bool.and_false, Bool.false_and, decide_eq_true_eq, Nat.reduceAdd, Nat.reduceSub, Nat.zero_add, Function.comp_apply, q], fun hk => ?_, fun hk => ?_⟩
      · have hne : es ≠ [] := by cases es <;> simp at hk ⊢
        have hlen := hp.length_eq
        rw [List.length_append] at hlen
        have hl : 0 < es.length := List.length_pos_iff.mpr hne
        obtain ⟨r, S2, e2, r0, r1, s2, l2, o2⟩ := draw_sp (w := w) (k := k) h hs1 (t := (es.length : Int)) (by omega) (by
          rw [Int.natAbs_natCast]
          have := Nat.log2_le_self es.length
          omega)
        obtain ⟨t, rfl⟩ : ∃ t : Nat, r = t := ⟨r.toNat, by omega⟩
        have ht : t < es.length := by omega
        have he2 : S2[S.length]? = some (.lst es) := (o2 _ (by omega)).trans he
        have hf2 : S2[S.length + 1]? = some (.lst fs) := (o2 _ (by omega)).trans hf
        have la := (List.getElem?_eq_some_iff.mp he2).1
        have lb := (List.getElem?_eq_some_iff.mp hf2).1
        have pop : popAtF [.ref S.length, .int t] S2 = .ok es[t] (S2.set S.length (.lst (es.eraseIdx t))) := by
          unfold popAtF
          have h63 : small63 (t : Int) = true := by unfold small63; simp; omega
          have pl : place es.length (t : Int) = some t := by unfold place; simp [ht]
          simp only [he2, h63, if_true, pl, List.getElem?_eq_getElem ht]
        have hf3 : (S2.set S.length (.lst (es.eraseIdx t)))[S.length + 1]? = some (.lst fs) := by rw [List.getElem?_set_ne (by omega)]; exact hf2
        have ap := m_appendR (S := S2.set S.length (.lst (es.eraseIdx t))) (x := es[t]) hf3 (by have := lineB (n := fs.length + 1) (by omega); omega)
        have ln : lenF S1 [.ref S.length] = some (.int es.length) := by
          show (seqOf S1 (.ref S.length)).map _ = _
          simp only [seqOf, he, Option.map_some]
        refine ⟨_, _, es.length - 1, by simp only [qOpt, qRet, bnd_ok, bnd_exc, bnd_err, flow_nx, flow_rt, flow_bk, flow_ct, flow_exc, end_nx, end_rt, end_exc, e_var, g_0, g_s, e_cst, e_bin, e_neg, e_not, e_cmp, e_chain, e_and, e_or, e_ite, e_tup, e_lst, e_lstM, e_lstS, e_dct, e_idx, e_slc, e_rev, e_isi, e_fz, e_repM, e_addM, fz_lst, fz_tup, fz_dct, m_dget, e_blt, e_call, e_mth, m_tindex, m_tcount, e_lc, l_nil, l_cons, l_star, t_nil, t_cons, o_no, o_so, i_seq, i_rng1, i_rng2, i_zip, i_enum, i_enumT, k_enumT, k_neg, k_int, k_seqT, k_seqL, k_seqF, k_starT, k_starL, k_zipT, k_zipL, k_zipM, k_zipM2, k_enum, k_rng, k_rng2, tr_bl, tr_int, tr_tup, tr_lst, s_nil, s_cons, x_expr, x_set, x_setT, x_par, x_setI, x_aug, x_cond, x_loop, x_while, x_ret, x_retN, x_pass, x_brk, x_mat, mk_nil, mk_cons, x_cont, x_run, b_lenT, b_lenL, b_lenF, b_tupT, b_tupL, b_lstT, b_lstL, b_allL, b_anyL, b_sumL, b_sumT, b_abs, b_max, b_min, b_intI, b_intB, q_ii, q_ss, mapR_some, andR_ite, orR_ite, unpK, parK, augK, setIK, setTg, setAll, wipe, blt, blt0, seqOf, lstOf, cop, bop, intOp, isiD, tyOf, atP, place, Option.map_some, Option.map_none, Option.bind_some, Option.bind_none, eq_self, reduceCtorEq, Int.reduceLE, Int.reduceLT, Int.reduceNeg, Int.reduceEq, Int.reduceToNat, Int.reduceAdd, Int.reduceSub, Nat.reduceLeDiff, reduceIte,  List.flatten_cons, List.flatten_nil, List.length_map, List.map_cons, List.map_nil, List.length_cons, List.length_nil, List.replicate_succ, List.replicate_zero, List.cons_append, List.nil_append, List.append_nil, List.set_cons_zero, List.set_cons_succ, Bool.not_true, Bool.not_false, if_true, if_false, ite_true, ite_false, Bool.false_eq_true, decide_true, decide_false, Bool.or_true, Bool.true_or, Bool.or_false, Bool.false_or, Bool.and_true, Bool.true_and, Bool.and_false, Bool.false_and, decide_eq_true_eq, Nat.reduceAdd, Nat.reduceSub, Nat.zero_add, Function.comp_apply, m_append hf, m_popAt he, ln, e2, pop, ap]; rfl, by omega, es.eraseIdx t, fs ++ [es[t]], rfl, ?_, ?_, by rw [List.length_eraseIdx, if_pos ht], ?_, ?_⟩
        · rw [List.getElem?_set_ne (by omega), List.getElem?_set_self la]
        · rw [List.getElem?_set_self (by rw [List.length_set]; exact lb)]
        · have := erase_perm ht
          exact (List.append_assoc fs [es[t]] _ ▸ (List.Perm.append_left fs this)).trans hp
        · obtain ⟨x, y, z, e3⟩ := s2
          exact ⟨x, y, z, by rw [List.getElem?_set_ne (by omega), List.getElem?_set_ne (by omega)]; exact e3⟩
      · have : es = [] := by cases es <;> simp at hk ⊢
        subst this
        exact ⟨fs, rfl, hf, by simpa using hp, hs1⟩)
    w ds.length [some (.ref n), some (.lst ds), some (.ref S.length), some (.ref (S.length + 1))] ((S ++ [.lst ds]) ++ [.lst []]) hw ⟨ds, [], rfl, ga, gb, rfl, by simp, hs2⟩
  subst hρ
  refine ⟨S.length + 1, fs, S', ?_, hf, hp, hs'⟩
  rw [callI_s h2 rfl]
  have lm : listMF [.lst ds] S = .ok (.ref S.length) (S ++ [.lst ds]) := rfl
  simp only [b_mixed, qOpt, qRet, bnd_ok, bnd_exc, bnd_err, flow_nx, flow_rt, flow_bk, flow_ct, flow_exc, end_nx, end_rt, end_exc, e_var, g_0, g_s, e_cst, e_bin, e_neg, e_not, e_cmp, e_chain, e_and, e_or, e_ite, e_tup, e_lst, e_lstM, e_lstS, e_dct, e_idx, e_slc, e_rev, e_isi, e_fz, e_repM, e_addM, fz_lst, fz_tup, fz_dct, m_dget, e_blt, e_call, e_mth, m_tindex, m_tcount, e_lc, l_nil, l_cons, l_star, t_nil, t_cons, o_no, o_so, i_seq, i_rng1, i_rng2, i_zip, i_enum, i_enumT, k_enumT, k_neg, k_int, k_seqT, k_seqL, k_seqF, k_starT, k_starL, k_zipT, k_zipL, k_zipM, k_zipM2, k_enum, k_rng, k_rng2, tr_bl, tr_int, tr_tup, tr_lst, s_nil, s_cons, x_expr, x_set, x_setT, x_par, x_setI, x_aug, x_cond, x_loop, x_while, x_ret, x_retN, x_pass, x_brk, x_mat, mk_nil, mk_cons, x_cont, x_run, b_lenT, b_lenL, b_lenF, b_tupT, b_tupL, b_lstT, b_lstL, b_allL, b_anyL, b_sumL, b_sumT, b_abs, b_max, b_min, b_intI, b_intB, q_ii, q_ss, mapR_some, andR_ite, orR_ite, unpK, parK, augK, setIK, setTg, setAll, wipe, blt, blt0, seqOf, lstOf, cop, bop, intOp, isiD, tyOf, atP, place, Option.map_some, Option.map_none, Option.bind_some, Option.bind_none, eq_self, reduceCtorEq, Int.reduceLE, Int.reduceLT, Int.reduceNeg, Int.reduceEq, Int.reduceToNat, Int.reduceAdd, Int.reduceSub, Nat.reduceLeDiff, reduceIte,  List.flatten_cons, List.flatten_nil, List.length_map, List.map_cons, List.map_nil, List.length_cons, List.length_nil, List.replicate_succ, List.replicate_zero, List.cons_append, List.nil_append, List.append_nil, List.set_cons_zero, List.set_cons_succ, Bool.not_true, Bool.not_false, if_true, if_false, ite_true, ite_false, Bool.false_eq_true, decide_true, decide_false, Bool.or_true, Bool.true_or, Bool.or_false, Bool.false_or, Bool.and_true, Bool.true_and, Bool.and_false, Bool.false_and, decide_eq_true_eq, Nat.reduceAdd, Nat.reduceSub, Nat.zero_add, Function.comp_apply, lm, List.length_append, e]
theorem dok_str (x : Str) (h : PyData.strOk x = true) : Dok (.str x) := ⟨.str x, fun _ => rfl, by simpa [PyData.canLay0] using h, Nat.zero_le _⟩
theorem dok_int (x : Int) : Dok (.int x) := ⟨.int x, fun _ => rfl, rfl, Nat.zero_le _⟩
/-! ### alphabets -/
def names : List Str := ["a", "b", "c", "done", "go", "load", "p", "ship", "wait", "x"]
/-- increasing, of the ten names -/
structure Alph (al : List Str) : Prop where
  inc : al.Pairwise fun a b => a.cps.toList < b.cps.toList
  mem : ∀ a ∈ al, a ∈ names
def b_alph (m : Nat) : Sms :=
  (.cons (.set 2 (.lst (.cons (.cst (.str "a")) (.cons (.cst (.str "b")) (.cons (.cst (.str "c")) (.cons (.cst (.str "done")) (.cons (.cst (.str "go")) (.cons (.cst (.str "load")) (.cons (.cst (.str "p")) (.cons (.cst (.str "ship")) (.cons (.cst (.str "wait")) (.cons (.cst (.str "x")) .nil))))))))))))
  (.cons (.ret (.blt .tuple (.cons (.blt .sortS (.cons (.slc (.call m (.cons (.var 0) (.cons (.var 2) .nil))) .no (.so (.var 1))) .nil)) .nil)))
  .nil))
def unS : D → Str
  | .str x => x
  | _ => ""
theorem strs_fun {α : Type} (f : α → Str) : ∀ l : List α, strsD (l.map fun a => D.str (f a)) = some (l.map f)
  | [] => rfl
  | x :: xs => by simp [strsD, strs_fun f xs]
theorem strs_map (l : List Str) : strsD (l.map D.str) = some l := by
  have := strs_fun id l
  simpa using this
theorem leS_iff' (x y : Str) : leS x y = true ↔ x.cps.toList ≤ y.cps.toList := by unfold leS; simp
theorem sort_pw (l : List Str) : (l.mergeSort leS).Pairwise fun a b => a.cps.toList ≤ b.cps.toList := by
  have := List.pairwise_mergeSort (le := leS) (fun a b c h1 h2 => by rw [leS_iff'] at *; exact List.le_trans h1 h2) (fun a b => by rw [Bool.or_eq_true, leS_iff', leS_iff']; exact List.le_total _ _) l
  exact this.imp fun h => (leS_iff' _ _).mp h
theorem alph_sp {m : Nat} (h : prog[i]? = some ⟨2, false, 5, b_draw⟩) (h2 : prog[j]? = some ⟨2, false, 4, b_mixed i⟩) (h3 : prog[m]? = some ⟨2, false, 3, b_alph j⟩) (hw : 20 ≤ w) (hs : Strm n S) {total : Nat} (ht : total ≤ 10) :
    ∃ al S', callI prog w (k + 3) m [.ref n, .int total] S = .ok (.tup (al.map D.str)) S' ∧ Alph al ∧ al.length = total ∧ Strm n S' := by
  obtain ⟨b, fs, S1, e1, g1, hp, s1⟩ := mixed_sp (w := w) (k := k) h h2 hs (ds := names.map D.str) (by decide) (by simp [names]; omega) (fun d hd => by
    obtain ⟨x, hx, rfl⟩ := List.mem_map.mp hd
    refine dok_str x ?_
    have : names.all (fun x => PyData.strOk x) = true := by decide +kernel
    exact List.all_eq_true.mp this x hx)
  have hp2 := hp.map unS
  rw [List.map_map, show (unS ∘ D.str) = id from rfl, List.map_id] at hp2
  have hfs : fs = (fs.map unS).map D.str := by
    rw [List.map_map]
    conv => lhs; rw [← List.map_id fs]
    refine List.map_congr_left fun d hd => ?_
    obtain ⟨x, _, rfl⟩ := List.mem_map.mp (hp.subset hd)
    rfl
  generalize fs.map unS = gs at hp2 hfs
  subst hfs
  have hlen : gs.length = 10 := hp2.length_eq
  have e2 : slcD S1 (.ref b) none (some (total : Int)) = some (.lst ((gs.take total).map D.str)) := by
    have : slcD S1 (.ref b) none (some (total : Int)) = (lstOf S1 (.ref b)).map fun xs => .lst (cut xs none (some (total : Int))) := rfl
    rw [this]
    simp only [lstOf, g1, Option.map_some]
    unfold cut bnd
    simp only [List.length_map, hlen]
    rw [if_neg (by omega), Int.toNat_natCast, Nat.min_eq_left ht, List.drop_zero, Nat.sub_zero, ← List.map_take]
  have e3 : sortF S1 [.lst ((gs.take total).map D.str)] = some (.lst (((gs.take total).mergeSort leS).map D.str)) := by
    show ((lstOf S1 (.lst _)).bind fun xs => (strsD xs).bind fun ys => if ys.length < 64 then some (D.lst ((ys.mergeSort leS).map .str)) else none) = _
    simp only [lstOf, Option.bind_some, strs_map]
    rw [if_pos (by rw [List.length_take]; omega)]
  have pm := List.mergeSort_perm (gs.take total) leS
  have nd : ((gs.take total).mergeSort leS).Nodup := pm.nodup_iff.mpr (((hp2.nodup_iff.mpr (by decide +kernel)).sublist (List.take_sublist _ _)))
  refine ⟨(gs.take total).mergeSort leS, S1, ?_, ⟨?_, fun a ha => ?_⟩, ?_, s1⟩
  · rw [callI_s h3 rfl]
    have e1' : callI prog w (k + 2) j [.ref n, .lst [.str "a", .str "b", .str "c", .str "done", .str "go", .str "load", .str "p", .str "ship", .str "wait", .str "x"]] S = .ok (.ref b) S1 := e1
    simp only [b_alph, qOpt, qRet, bnd_ok, bnd_exc, bnd_err, flow_nx, flow_rt, flow_bk, flow_ct, flow_exc, end_nx, end_rt, end_exc, e_var, g_0, g_s, e_cst, e_bin, e_neg, e_not, e_cmp, e_chain, e_and, e_or, e_ite, e_tup, e_lst, e_lstM, e_lstS, e_dct, e_idx, e_slc, e_rev, e_isi, e_fz, e_repM, e_addM, fz_lst, fz_tup, fz_dct, m_dget, e_blt, e_call, e_mth, m_tindex, m_tcount, e_lc, l_nil, l_cons, l_star, t_nil, t_cons, o_no, o_so, i_seq, i_rng1, i_rng2, i_zip, i_enum, i_enumT, k_enumT, k_neg, k_int, k_seqT, k_seqL, k_seqF, k_starT, k_starL, k_zipT, k_zipL, k_zipM, k_zipM2, k_enum, k_rng, k_rng2, tr_bl, tr_int, tr_tup, tr_lst, s_nil, s_cons, x_expr, x_set, x_setT, x_par, x_setI, x_aug, x_cond, x_loop, x_while, x_ret, x_retN, x_pass, x_brk, x_mat, mk_nil, mk_cons, x_cont, x_run, b_lenT, b_lenL, b_lenF, b_tupT, b_tupL, b_lstT, b_lstL, b_allL, b_anyL, b_sumL, b_sumT, b_abs, b_max, b_min, b_intI, b_intB, q_ii, q_ss, mapR_some, andR_ite, orR_ite, unpK, parK, augK, setIK, setTg, setAll, wipe, blt, blt0, seqOf, lstOf, cop, bop, intOp, isiD, tyOf, atP, place, Option.map_some, Option.map_none, Option.bind_some, Option.bind_none, eq_self, reduceCtorEq, Int.reduceLE, Int.reduceLT, Int.reduceNeg, Int.reduceEq, Int.reduceToNat, Int.reduceAdd, Int.reduceSub, Nat.reduceLeDiff, reduceIte,  List.flatten_cons, List.flatten_nil, List.length_map, List.map_cons, List.map_nil, List.length_cons, List.length_nil, List.replicate_succ, List.replicate_zero, List.cons_append, List.nil_append, List.append_nil, List.set_cons_zero, List.set_cons_succ, Bool.not_true, Bool.not_false, if_true, if_false, ite_true, ite_false, Bool.false_eq_true, decide_true, decide_false, Bool.or_true, Bool.true_or, Bool.or_false, Bool.false_or, Bool.and_true, Bool.true_and, Bool.and_false, Bool.false_and, decide_eq_true_eq, Nat.reduceAdd, Nat.reduceSub, Nat.zero_add, Function.comp_apply, e1', e2, e3]
  · have := (sort_pw (gs.take total)).and nd
    refine this.imp fun ⟨h1, h2⟩ => ?_
    refine Classical.byContradiction fun hn => h2 ?_
    have h3 := List.le_antisymm h1 (List.not_lt.mp hn)
    rename_i a b
    cases a; cases b
    exact congrArg PySem.Str.mk (Array.toList_inj.mp h3)
  · exact hp2.subset (List.take_subset _ _ (pm.subset ha))
  · rw [pm.length_eq, List.length_take]; omega
def b_word (p d : Nat) : Sms :=
  (.cons (.ret (.blt .tuple (.cons (.lc (.call p (.cons (.var 0) (.cons (.var 1) .nil))) (.nm 3) (.rng1 (.call d (.cons (.var 0) (.cons (.bin .add (.var 2) (.cst (.int 1))) .nil)))) .nil [3]) .nil)))
  .nil)
theorem word_sp {m : Nat} (h : prog[i]? = some ⟨2, false, 5, b_draw⟩) (h2 : prog[j]? = some ⟨2, false, 2, b_pick i⟩) (h3 : prog[m]? = some ⟨3, false, 4, b_word j i⟩) (hs : Strm n S) {al : List Str} (h0 : al ≠ []) (h1 : al.length < 1000) {high : Nat} (hh : high ≤ 1000) :
    ∃ (ws : List Str) (S' : Store), callI prog w (k + 3) m [.ref n, .tup (al.map D.str), .int high] S = .ok (.tup (ws.map D.str)) S' ∧ ws.length ≤ high ∧ (∀ x ∈ ws, x ∈ al) ∧ Strm n S' := by
  obtain ⟨r, S1, e1, r0, r1, s1, _⟩ := draw_sp (w := w) (k := k + 1) h hs (t := (high : Int) + 1) (by omega) (by
    have := Nat.log2_le_self (high + 1)
    rw [show ((high : Int) + 1).natAbs = high + 1 by omega]
    omega)
  obtain ⟨q, rfl⟩ : ∃ q : Nat, r = q := ⟨r.toNat, by omega⟩
  obtain ⟨ys, S2, e2, s2, hl, hp⟩ := lcM_inv (cf := callI prog w (k + 2)) (ρ := [some (.ref n), some (.tup (al.map D.str)), some (.int high), none]) (S := S1) (elt := .call j (.cons (.var 0) (.cons (.var 1) .nil))) (tg := .nm 3) (own := [3]) (fun i : Nat => D.int i) (Strm n) (fun d => ∃ x ∈ al, d = .str x) (List.range q) (fun _ _ S hS => by
    obtain ⟨d, S', e, hd, s', _⟩ := pickT_sp (w := w) (k := k) h h2 hS (ds := al.map D.str) (by simpa using h0) (by simpa using h1)
    obtain ⟨x, hx, rfl⟩ := List.mem_map.mp hd
    exact ⟨_, _, S', rfl, by simp only [qOpt, qRet, bnd_ok, bnd_exc, bnd_err, flow_nx, flow_rt, flow_bk, flow_ct, flow_exc, end_nx, end_rt, end_exc, e_var, g_0, g_s, e_cst, e_bin, e_neg, e_not, e_cmp, e_chain, e_and, e_or, e_ite, e_tup, e_lst, e_lstM, e_lstS, e_dct, e_idx, e_slc, e_rev, e_isi, e_fz, e_repM, e_addM, fz_lst, fz_tup, fz_dct, m_dget, e_blt, e_call, e_mth, m_tindex, m_tcount, e_lc, l_nil, l_cons, l_star, t_nil, t_cons, o_no, o_so, i_seq, i_rng1, i_rng2, i_zip, i_enum, i_enumT, k_enumT, k_neg, k_int, k_seqT, k_seqL, k_seqF, k_starT, k_starL, k_zipT, k_zipL, k_zipM, k_zipM2, k_enum, k_rng, k_rng2, tr_bl, tr_int, tr_tup, tr_lst, s_nil, s_cons, x_expr, x_set, x_setT, x_par, x_setI, x_aug, x_cond, x_loop, x_while, x_ret, x_retN, x_pass, x_brk, x_mat, mk_nil, mk_cons, x_cont, x_run, b_lenT, b_lenL, b_lenF, b_tupT, b_tupL, b_lstT, b_lstL, b_allL, b_anyL, b_sumL, b_sumT, b_abs, b_max, b_min, b_intI, b_intB, q_ii, q_ss, mapR_some, andR_ite, orR_ite, unpK, parK, augK, setIK, setTg, setAll, wipe, blt, blt0, seqOf, lstOf, cop, bop, intOp, isiD, tyOf, atP, place, Option.map_some, Option.map_none, Option.bind_some, Option.bind_none, eq_self, reduceCtorEq, Int.reduceLE, Int.reduceLT, Int.reduceNeg, Int.reduceEq, Int.reduceToNat, Int.reduceAdd, Int.reduceSub, Nat.reduceLeDiff, reduceIte,  List.flatten_cons, List.flatten_nil, List.length_map, List.map_cons, List.map_nil, List.length_cons, List.length_nil, List.replicate_succ, List.replicate_zero, List.cons_append, List.nil_append, List.append_nil, List.set_cons_zero, List.set_cons_succ, Bool.not_true, Bool.not_false, if_true, if_false, ite_true, ite_false, Bool.false_eq_true, decide_true, decide_false, Bool.or_true, Bool.true_or, Bool.or_false, Bool.false_or, Bool.and_true, Bool.true_and, Bool.and_false, Bool.false_and, decide_eq_true_eq, Nat.reduceAdd, Nat.reduceSub, Nat.zero_add, Function.comp_apply, e], s', x, hx, rfl⟩) s1
  have : ∃ ws : List Str, ys = ws.map D.str ∧ ∀ x ∈ ws, x ∈ al := by
    clear e2 hl
    induction ys with
    | nil => exact ⟨[], rfl, by simp⟩
    | cons y ys ih =>
      obtain ⟨x, hx, rfl⟩ := hp y List.mem_cons_self
      obtain ⟨ws, rfl, hws⟩ := ih fun y hy => hp y (List.mem_cons_of_mem _ hy)
      exact ⟨x :: ws, rfl, fun z hz => (List.mem_cons.mp hz).elim (fun e => e ▸ hx) (hws z)⟩
  obtain ⟨ws, rfl, hws⟩ := this
  have hq : q ≤ line := lineB (by omega)
  refine ⟨ws, S2, ?_, by simp at hl; omega, hws, s2⟩
  rw [callI_s h3 rfl]
  simp only [b_word, qOpt, qRet, bnd_ok, bnd_exc, bnd_err, flow_nx, flow_rt, flow_bk, flow_ct, flow_exc, end_nx, end_rt, end_exc, e_var, g_0, g_s, e_cst, e_bin, e_neg, e_not, e_cmp, e_chain, e_and, e_or, e_ite, e_tup, e_lst, e_lstM, e_lstS, e_dct, e_idx, e_slc, e_rev, e_isi, e_fz, e_repM, e_addM, fz_lst, fz_tup, fz_dct, m_dget, e_blt, e_call, e_mth, m_tindex, m_tcount, e_lc, l_nil, l_cons, l_star, t_nil, t_cons, o_no, o_so, i_seq, i_rng1, i_rng2, i_zip, i_enum, i_enumT, k_enumT, k_neg, k_int, k_seqT, k_seqL, k_seqF, k_starT, k_starL, k_zipT, k_zipL, k_zipM, k_zipM2, k_enum, k_rng, k_rng2, tr_bl, tr_int, tr_tup, tr_lst, s_nil, s_cons, x_expr, x_set, x_setT, x_par, x_setI, x_aug, x_cond, x_loop, x_while, x_ret, x_retN, x_pass, x_brk, x_mat, mk_nil, mk_cons, x_cont, x_run, b_lenT, b_lenL, b_lenF, b_tupT, b_tupL, b_lstT, b_lstL, b_allL, b_anyL, b_sumL, b_sumT, b_abs, b_max, b_min, b_intI, b_intB, q_ii, q_ss, mapR_some, andR_ite, orR_ite, unpK, parK, augK, setIK, setTg, setAll, wipe, blt, blt0, seqOf, lstOf, cop, bop, intOp, isiD, tyOf, atP, place, Option.map_some, Option.map_none, Option.bind_some, Option.bind_none, eq_self, reduceCtorEq, Int.reduceLE, Int.reduceLT, Int.reduceNeg, Int.reduceEq, Int.reduceToNat, Int.reduceAdd, Int.reduceSub, Nat.reduceLeDiff, reduceIte,  List.flatten_cons, List.flatten_nil, List.length_map, List.map_cons, List.map_nil, List.length_cons, List.length_nil, List.replicate_succ, List.replicate_zero, List.cons_append, List.nil_append, List.append_nil, List.set_cons_zero, List.set_cons_succ, Bool.not_true, Bool.not_false, if_true, if_false, ite_true, ite_false, Bool.false_eq_true, decide_true, decide_false, Bool.or_true, Bool.true_or, Bool.or_false, Bool.false_or, Bool.and_true, Bool.true_and, Bool.and_false, Bool.false_and, decide_eq_true_eq, Nat.reduceAdd, Nat.reduceSub, Nat.zero_add, Function.comp_apply, e1, k_rng hq, e2]
end
end Ln

set_option linter.all false
set_option maxRecDepth 10000
set_option exponentiation.threshold 10000
/-! Euclid; fractions as Rat. -/
namespace Ln
open PySem (PyData Str)
/-- how many turns Euclid may take -/
def mu (a b : Nat) : Nat := if b = 0 then 0 else (a * b).log2 + (if a < b then 2 else 1)
theorem mu_step {a b : Nat} (hb : 0 < b) : mu b (a % b) < mu a b := by
  unfold mu
  rw [if_neg (show ¬ b = 0 by omega)]
  have hr := Nat.mod_lt a hb
  by_cases h0 : a % b = 0
  · rw [if_pos h0]; split <;> omega
  · rw [if_neg h0, if_neg (show ¬ b < a % b by omega)]
    by_cases h : a < b
    · rw [if_pos h, Nat.mod_eq_of_lt h, Nat.mul_comm]; omega
    · rw [if_neg h]
      have h1 : 2 * (a % b) ≤ a := by
        have e := Nat.div_add_mod a b
        have : 1 ≤ a / b := Nat.div_pos (by omega) hb
        have := Nat.mul_le_mul_left b this
        omega
      have h2 : 2 * (b * (a % b)) ≤ a * b := by
        have := Nat.mul_le_mul_left b h1
        rw [Nat.mul_comm a b, ← Nat.mul_assoc, Nat.mul_comm 2 b, Nat.mul_assoc]
        exact this
      have h3 : b * (a % b) ≠ 0 := Nat.mul_ne_zero (by omega) h0
      have h4 : a * b ≠ 0 := by omega
      have h5 : (b * (a % b)).log2 + 1 ≤ (a * b).log2 := by
        rw [Nat.le_log2 h4, Nat.pow_succ]
        have := Nat.log2_self_le h3
        omega
      omega
theorem gcd_step (a b : Nat) : Nat.gcd b (a % b) = Nat.gcd a b := by
  rw [Nat.gcd_comm a b, Nat.gcd_rec b a, Nat.gcd_comm]
theorem fmod_nat (a b : Nat) : (a : Int).fmod (b : Int) = ((a % b : Nat) : Int) := by
  rw [Int.fmod_eq_emod_of_nonneg _ (by omega)]
  rfl
theorem mu_le {a b N : Nat} (ha : a < 2 ^ N) (hb : b < 2 ^ N) : mu a b ≤ 2 * N + 2 := by
  unfold mu
  by_cases h : b = 0
  · rw [if_pos h]; omega
  · rw [if_neg h]
    have : (a * b).log2 ≤ 2 * N := by
      by_cases h0 : a * b = 0
      · rw [h0]; simp
      · have : (a * b).log2 < 2 * N := by
          rw [Nat.log2_lt h0, Nat.two_mul, Nat.pow_add]
          exact Nat.mul_lt_mul'' ha hb
        omega
    split <;> omega
/-- of N bits at most -/
def Bi (N : Nat) (x : Int) : Prop := x.natAbs < 2 ^ N
theorem Bi.up {M N : Nat} {x : Int} (h : Bi M x) (hl : M ≤ N) : Bi N x := Nat.lt_of_lt_of_le h (Nat.pow_le_pow_right (by decide) hl)
theorem Bi.log {N : Nat} {x : Int} (h : Bi N x) (hN : 0 < N) : x.natAbs.log2 < N := log2_lt h hN
theorem Bi.mul {M N : Nat} {x y : Int} (hx : Bi M x) (hy : Bi N y) : Bi (M + N) (x * y) := by
  unfold Bi at *
  rw [Int.natAbs_mul, Nat.pow_add]
  exact Nat.mul_lt_mul'' hx hy
theorem Bi.add {M N : Nat} {x y : Int} (hx : Bi M x) (hy : Bi N y) : Bi (max M N + 1) (x + y) := by
  have hx := hx.up (Nat.le_max_left M N)
  have hy := hy.up (Nat.le_max_right M N)
  unfold Bi at *
  rw [Nat.pow_succ]
  omega
theorem Bi.sub {M N : Nat} {x y : Int} (hx : Bi M x) (hy : Bi N y) : Bi (max M N + 1) (x - y) := by
  have hx := hx.up (Nat.le_max_left M N)
  have hy := hy.up (Nat.le_max_right M N)
  unfold Bi at *
  rw [Nat.pow_succ]
  omega
theorem Bi.neg {M : Nat} {x : Int} (hx : Bi M x) : Bi M (-x) := by unfold Bi at *; rw [Int.natAbs_neg]; exact hx
theorem Bi.nat {M : Nat} {n : Nat} (h : n < 2 ^ M) : Bi M (n : Int) := by unfold Bi; simpa using h
theorem Bi.small {x : Int} (M : Nat) (h : x.natAbs < 2 ^ 60) (hM : 60 ≤ M := by decide) : Bi M x := Bi.up (M := 60) h hM
theorem Bi.mulOk {x y : Int} (hx : Bi 400000 x) (hy : Bi 400000 y) : mulOk x y = true := by
  have h1 := hx.log (by decide)
  have h2 := hy.log (by decide)
  unfold Ln.mulOk
  simp only [Bool.or_eq_true, decide_eq_true_eq]
  right
  omega
theorem Bi.divOk {x : Int} (hx : Bi 9000 x) (h : x ≠ 0) : divOk x = true := by
  have h1 := hx.log (by decide)
  unfold Ln.divOk
  simp only [Bool.and_eq_true, decide_eq_true_eq]
  exact ⟨h, h1⟩
def b_common : Sms :=
  (.cons (.while (.cmp .gt (.var 1) (.cst (.int 0)))
  (.cons (.par [0, 1] (.cons (.var 1) (.cons (.bin .mod (.var 0) (.var 1)) .nil)))
  .nil))
  (.cons (.ret (.var 0))
  .nil))
def b_common_in : Sms :=
  (.cons (.par [0, 1] (.cons (.blt .abs (.cons (.var 0) .nil)) (.cons (.blt .abs (.cons (.var 1) .nil)) .nil)))
  (.cons (.while (.cmp .gt (.var 1) (.cst (.int 0)))
  (.cons (.par [0, 1] (.cons (.var 1) (.cons (.bin .mod (.var 0) (.var 1)) .nil)))
  .nil))
  (.cons (.ret (.var 0))
  .nil)))
def b_fraction (n : Nat) : Sms :=
  (.cons (.set 2 (.call n (.cons (.var 0) (.cons (.var 1) .nil))))
  (.cons (.cond (.cmp .lt (.var 1) (.cst (.int 0)))
  (.cons (.set 2 (.bin .sub (.cst (.int 0)) (.var 2)))
  .nil) .nil)
  (.cons (.ret (.tup (.cons (.bin .fdiv (.var 0) (.var 2)) (.cons (.bin .fdiv (.var 1) (.var 2)) .nil))))
  .nil)))
def b_lowest (n : Nat) : Sms :=
  (.cons (.set 2 (.call n (.cons (.blt .abs (.cons (.var 0) .nil)) (.cons (.blt .abs (.cons (.var 1) .nil)) .nil))))
  (.cons (.cond (.cmp .lt (.var 1) (.cst (.int 0)))
  (.cons (.set 2 (.bin .sub (.cst (.int 0)) (.var 2)))
  .nil) .nil)
  (.cons (.ret (.tup (.cons (.bin .fdiv (.var 0) (.var 2)) (.cons (.bin .fdiv (.var 1) (.var 2)) .nil))))
  .nil)))
def b_plus (n : Nat) : Sms :=
  (.cons (.ret (.call n (.cons (.bin .add (.bin .mul (.idx (.var 0) (.cst (.int 0))) (.idx (.var 1) (.cst (.int 1)))) (.bin .mul (.idx (.var 1) (.cst (.int 0))) (.idx (.var 0) (.cst (.int 1))))) (.cons (.bin .mul (.idx (.var 0) (.cst (.int 1))) (.idx (.var 1) (.cst (.int 1)))) .nil))))
  .nil)
def b_times (n : Nat) : Sms :=
  (.cons (.ret (.call n (.cons (.bin .mul (.idx (.var 0) (.cst (.int 0))) (.idx (.var 1) (.cst (.int 0)))) (.cons (.bin .mul (.idx (.var 0) (.cst (.int 1))) (.idx (.var 1) (.cst (.int 1)))) .nil))))
  .nil)
def fr (x : Rat) : D := .tup [.int x.num, .int x.den]
/-- a fraction of numbers of N bits -/
structure Fb (N : Nat) (x : Rat) : Prop where
  n : Bi N x.num
  d : Bi N (x.den : Int)
theorem Fb.up {M N : Nat} {x : Rat} (h : Fb M x) (hl : M ≤ N) : Fb N x := ⟨h.n.up hl, h.d.up hl⟩
theorem abs_i (n : Int) : (if n < 0 then -n else n) = ((n.natAbs : Nat) : Int) := by omega
/-- the numbers of a fraction -/
theorem frac_pos {p q : Int} (hq : 0 < q) : p.fdiv ((Nat.gcd p.natAbs q.natAbs : Nat) : Int) = (Rat.divInt p q).num ∧ q.fdiv ((Nat.gcd p.natAbs q.natAbs : Nat) : Int) = ((Rat.divInt p q).den : Int) := by
  rw [Rat.num_divInt, Rat.den_divInt, if_neg (by omega), Int.sign_eq_one_of_pos hq, Int.one_mul, Int.fdiv_eq_ediv_of_nonneg _ (by omega), Int.fdiv_eq_ediv_of_nonneg _ (by omega)]
  have e : Nat.gcd p.natAbs q.natAbs = Int.gcd q p := by rw [Int.gcd, Nat.gcd_comm]
  rw [e]
  refine ⟨rfl, ?_⟩
  rw [Int.natCast_ediv, Int.natAbs_of_nonneg (by omega)]
theorem frac_neg {p q : Int} (hq : q < 0) : p.fdiv (0 - ((Nat.gcd p.natAbs q.natAbs : Nat) : Int)) = (Rat.divInt p q).num ∧ q.fdiv (0 - ((Nat.gcd p.natAbs q.natAbs : Nat) : Int)) = ((Rat.divInt p q).den : Int) := by
  have e := Rat.neg_divInt_neg p q
  have h := frac_pos (p := -p) (q := -q) (by omega)
  rw [e, Int.natAbs_neg, Int.natAbs_neg] at h
  rw [Int.zero_sub]
  refine ⟨?_, ?_⟩
  · rw [← h.1, ← Int.neg_fdiv_neg, Int.neg_neg]
  · rw [← h.2, ← Int.neg_fdiv_neg, Int.neg_neg]
section
variable {prog : List Fn} {w k i j n : Nat} {S : Store}
theorem gcd_while {cf : Nat → List D → M D} {a b : Nat} (hm : mu a b < w) : whileM cf w (.cmp .gt (.var 1) (.cst (.int 0))) (.cons (.par [0, 1] (.cons (.var 1) (.cons (.bin .mod (.var 0) (.var 1)) .nil))) .nil) w [some (.int a), some (.int b)] S = .ok (.nx, [some (.int (Nat.gcd a b)), some (.int 0)]) S := by
  obtain ⟨ρ', S', e, rfl, rfl⟩ := whileM_inv (cf := cf) (w := w) (c := .cmp .gt (.var 1) (.cst (.int 0))) (b := .cons (.par [0, 1] (.cons (.var 1) (.cons (.bin .mod (.var 0) (.var 1)) .nil))) .nil)
    (fun m ρ S1 => ∃ x y : Nat, ρ = [some (.int x), some (.int y)] ∧ Nat.gcd x y = Nat.gcd a b ∧ mu x y = m ∧ S1 = S) (fun ρ S1 => ρ = [some (.int (Nat.gcd a b)), some (.int 0)] ∧ S1 = S) (fun m ρ S1 hI => by
      obtain ⟨x, y, rfl, hg, rfl, rfl⟩ := hI
      refine ⟨decide ((0 : Int) < y), S1, by unfold evT; simp only [rBind, qOpt, qRet, bnd_ok, bnd_exc, bnd_err, flow_nx, flow_rt, flow_bk, flow_ct, flow_exc, end_nx, end_rt, end_exc, e_var, g_0, g_s, e_cst, e_bin, e_neg, e_not, e_cmp, e_chain, e_and, e_or, e_ite, e_tup, e_lst, e_lstM, e_lstS, e_dct, e_idx, e_slc, e_rev, e_isi, e_fz, e_repM, e_addM, fz_lst, fz_tup, fz_dct, m_dget, e_blt, e_call, e_mth, m_tindex, m_tcount, e_lc, l_nil, l_cons, l_star, t_nil, t_cons, o_no, o_so, i_seq, i_rng1, i_rng2, i_zip, i_enum, i_enumT, k_enumT, k_neg, k_int, k_seqT, k_seqL, k_seqF, k_starT, k_starL, k_zipT, k_zipL, k_zipM, k_zipM2, k_enum, k_rng, k_rng2, tr_bl, tr_int, tr_tup, tr_lst, s_nil, s_cons, x_expr, x_set, x_setT, x_par, x_setI, x_aug, x_cond, x_loop, x_while, x_ret, x_retN, x_pass, x_brk, x_mat, mk_nil, mk_cons, x_cont, x_run, b_lenT, b_lenL, b_lenF, b_tupT, b_tupL, b_lstT, b_lstL, b_allL, b_anyL, b_sumL, b_sumT, b_abs, b_max, b_min, b_intI, b_intB, q_ii, q_ss, mapR_some, andR_ite, orR_ite, unpK, parK, augK, setIK, setTg, setAll, wipe, blt, blt0, seqOf, lstOf, cop, bop, intOp, isiD, tyOf, atP, place, Option.map_some, Option.map_none, Option.bind_some, Option.bind_none, eq_self, reduceCtorEq, Int.reduceLE, Int.reduceLT, Int.reduceNeg, Int.reduceEq, Int.reduceToNat, Int.reduceAdd, Int.reduceSub, Nat.reduceLeDiff, reduceIte,  List.flatten_cons, List.flatten_nil, List.length_map, List.map_cons, List.map_nil, List.length_cons, List.length_nil, List.replicate_succ, List.replicate_zero, List.cons_append, List.nil_append, List.append_nil, List.set_cons_zero, List.set_cons_succ, Bool.not_true, Bool.not_false, if_true, if_false, ite_true, ite_false, Bool.false_eq_true, decide_true, decide_false, Bool.or_true, Bool.true_or, Bool.or_false, Bool.false_or, Bool.and_true, Bool.true_and, Bool.and_false, Bool.false_and, decide_eq_true_eq, Nat.reduceAdd, Nat.reduceSub, Nat.zero_add, Function.comp_apply], fun hk => ?_, fun hk => ?_⟩
      · have hy : 0 < y := by have := of_decide_eq_true hk; omega
        have hne : (y : Int) ≠ 0 := by omega
        have ne2 : ((y : Int) ≠ 0) = True := eq_true hne
        exact ⟨_, _, mu y (x % y), by simp only [qOpt, qRet, bnd_ok, bnd_exc, bnd_err, flow_nx, flow_rt, flow_bk, flow_ct, flow_exc, end_nx, end_rt, end_exc, e_var, g_0, g_s, e_cst, e_bin, e_neg, e_not, e_cmp, e_chain, e_and, e_or, e_ite, e_tup, e_lst, e_lstM, e_lstS, e_dct, e_idx, e_slc, e_rev, e_isi, e_fz, e_repM, e_addM, fz_lst, fz_tup, fz_dct, m_dget, e_blt, e_call, e_mth, m_tindex, m_tcount, e_lc, l_nil, l_cons, l_star, t_nil, t_cons, o_no, o_so, i_seq, i_rng1, i_rng2, i_zip, i_enum, i_enumT, k_enumT, k_neg, k_int, k_seqT, k_seqL, k_seqF, k_starT, k_starL, k_zipT, k_zipL, k_zipM, k_zipM2, k_enum, k_rng, k_rng2, tr_bl, tr_int, tr_tup, tr_lst, s_nil, s_cons, x_expr, x_set, x_setT, x_par, x_setI, x_aug, x_cond, x_loop, x_while, x_ret, x_retN, x_pass, x_brk, x_mat, mk_nil, mk_cons, x_cont, x_run, b_lenT, b_lenL, b_lenF, b_tupT, b_tupL, b_lstT, b_lstL, b_allL, b_anyL, b_sumL, b_sumT, b_abs, b_max, b_min, b_intI, b_intB, q_ii, q_ss, mapR_some, andR_ite, orR_ite, unpK, parK, augK, setIK, setTg, setAll, wipe, blt, blt0, seqOf, lstOf, cop, bop, intOp, isiD, tyOf, atP, place, Option.map_some, Option.map_none, Option.bind_some, Option.bind_none, eq_self, reduceCtorEq, Int.reduceLE, Int.reduceLT, Int.reduceNeg, Int.reduceEq, Int.reduceToNat, Int.reduceAdd, Int.reduceSub, Nat.reduceLeDiff, reduceIte,  List.flatten_cons, List.flatten_nil, List.length_map, List.map_cons, List.map_nil, List.length_cons, List.length_nil, List.replicate_succ, List.replicate_zero, List.cons_append, List.nil_append, List.append_nil, List.set_cons_zero, List.set_cons_succ, Bool.not_true, Bool.not_false, if_true, if_false, ite_true, ite_false, Bool.false_eq_true, decide_true, decide_false, Bool.or_true, Bool.true_or, Bool.or_false, Bool.false_or, Bool.and_true, Bool.true_and, Bool.and_false, Bool.false_and, decide_eq_true_eq, Nat.reduceAdd, Nat.reduceSub, Nat.zero_add, Function.comp_apply, ne2, fmod_nat], mu_step hy, y, x % y, rfl, (gcd_step x y).trans hg, rfl, rfl⟩
      · have hy : y = 0 := by have := of_decide_eq_false hk; omega
        subst hy
        rw [Nat.gcd_zero_right] at hg
        subst hg
        exact ⟨rfl, rfl⟩) w (mu a b) _ S hm ⟨a, b, rfl, rfl, rfl, rfl⟩
  exact e
theorem mu_w {a b : Nat} (hw : 1000000 ≤ w) (ha : a < 2 ^ 400000) (hb : b < 2 ^ 400000) : mu a b < w := by
  have := mu_le ha hb
  omega
theorem common_sp (hw : 1000000 ≤ w) (h : prog[i]? = some ⟨2, false, 2, b_common⟩) {a b : Nat} (ha : a < 2 ^ 400000) (hb : b < 2 ^ 400000) : callI prog w (k + 1) i [.int a, .int b] S = .ok (.int (Nat.gcd a b)) S := by
  rw [callI_s h rfl]
  simp only [b_common, qOpt, qRet, bnd_ok, bnd_exc, bnd_err, flow_nx, flow_rt, flow_bk, flow_ct, flow_exc, end_nx, end_rt, end_exc, e_var, g_0, g_s, e_cst, e_bin, e_neg, e_not, e_cmp, e_chain, e_and, e_or, e_ite, e_tup, e_lst, e_lstM, e_lstS, e_dct, e_idx, e_slc, e_rev, e_isi, e_fz, e_repM, e_addM, fz_lst, fz_tup, fz_dct, m_dget, e_blt, e_call, e_mth, m_tindex, m_tcount, e_lc, l_nil, l_cons, l_star, t_nil, t_cons, o_no, o_so, i_seq, i_rng1, i_rng2, i_zip, i_enum, i_enumT, k_enumT, k_neg, k_int, k_seqT, k_seqL, k_seqF, k_starT, k_starL, k_zipT, k_zipL, k_zipM, k_zipM2, k_enum, k_rng, k_rng2, tr_bl, tr_int, tr_tup, tr_lst, s_nil, s_cons, x_expr, x_set, x_setT, x_par, x_setI, x_aug, x_cond, x_loop, x_while, x_ret, x_retN, x_pass, x_brk, x_mat, mk_nil, mk_cons, x_cont, x_run, b_lenT, b_lenL, b_lenF, b_tupT, b_tupL, b_lstT, b_lstL, b_allL, b_anyL, b_sumL, b_sumT, b_abs, b_max, b_min, b_intI, b_intB, q_ii, q_ss, mapR_some, andR_ite, orR_ite, unpK, parK, augK, setIK, setTg, setAll, wipe, blt, blt0, seqOf, lstOf, cop, bop, intOp, isiD, tyOf, atP, place, Option.map_some, Option.map_none, Option.bind_some, Option.bind_none, eq_self, reduceCtorEq, Int.reduceLE, Int.reduceLT, Int.reduceNeg, Int.reduceEq, Int.reduceToNat, Int.reduceAdd, Int.reduceSub, Nat.reduceLeDiff, reduceIte,  List.flatten_cons, List.flatten_nil, List.length_map, List.map_cons, List.map_nil, List.length_cons, List.length_nil, List.replicate_succ, List.replicate_zero, List.cons_append, List.nil_append, List.append_nil, List.set_cons_zero, List.set_cons_succ, Bool.not_true, Bool.not_false, if_true, if_false, ite_true, ite_false, Bool.false_eq_true, decide_true, decide_false, Bool.or_true, Bool.true_or, Bool.or_false, Bool.false_or, Bool.and_true, Bool.true_and, Bool.and_false, Bool.false_and, decide_eq_true_eq, Nat.reduceAdd, Nat.reduceSub, Nat.zero_add, Function.comp_apply, gcd_while (mu_w hw ha hb)]
theorem common_in_sp (hw : 1000000 ≤ w) (h : prog[i]? = some ⟨2, false, 2, b_common_in⟩) {a b : Int} (ha : Bi 400000 a) (hb : Bi 400000 b) : callI prog w (k + 1) i [.int a, .int b] S = .ok (.int (Nat.gcd a.natAbs b.natAbs : Nat)) S := by
  rw [callI_s h rfl]
  simp only [b_common_in, qOpt, qRet, bnd_ok, bnd_exc, bnd_err, flow_nx, flow_rt, flow_bk, flow_ct, flow_exc, end_nx, end_rt, end_exc, e_var, g_0, g_s, e_cst, e_bin, e_neg, e_not, e_cmp, e_chain, e_and, e_or, e_ite, e_tup, e_lst, e_lstM, e_lstS, e_dct, e_idx, e_slc, e_rev, e_isi, e_fz, e_repM, e_addM, fz_lst, fz_tup, fz_dct, m_dget, e_blt, e_call, e_mth, m_tindex, m_tcount, e_lc, l_nil, l_cons, l_star, t_nil, t_cons, o_no, o_so, i_seq, i_rng1, i_rng2, i_zip, i_enum, i_enumT, k_enumT, k_neg, k_int, k_seqT, k_seqL, k_seqF, k_starT, k_starL, k_zipT, k_zipL, k_zipM, k_zipM2, k_enum, k_rng, k_rng2, tr_bl, tr_int, tr_tup, tr_lst, s_nil, s_cons, x_expr, x_set, x_setT, x_par, x_setI, x_aug, x_cond, x_loop, x_while, x_ret, x_retN, x_pass, x_brk, x_mat, mk_nil, mk_cons, x_cont, x_run, b_lenT, b_lenL, b_lenF, b_tupT, b_tupL, b_lstT, b_lstL, b_allL, b_anyL, b_sumL, b_sumT, b_abs, b_max, b_min, b_intI, b_intB, q_ii, q_ss, mapR_some, andR_ite, orR_ite, unpK, parK, augK, setIK, setTg, setAll, wipe, blt, blt0, seqOf, lstOf, cop, bop, intOp, isiD, tyOf, atP, place, Option.map_some, Option.map_none, Option.bind_some, Option.bind_none, eq_self, reduceCtorEq, Int.reduceLE, Int.reduceLT, Int.reduceNeg, Int.reduceEq, Int.reduceToNat, Int.reduceAdd, Int.reduceSub, Nat.reduceLeDiff, reduceIte,  List.flatten_cons, List.flatten_nil, List.length_map, List.map_cons, List.map_nil, List.length_cons, List.length_nil, List.replicate_succ, List.replicate_zero, List.cons_append, List.nil_append, List.append_nil, List.set_cons_zero, List.set_cons_succ, Bool.not_true, Bool.not_false, if_true, if_false, ite_true, ite_false, Bool.false_eq_true, decide_true, decide_false, Bool.or_true, Bool.true_or, Bool.or_false, Bool.false_or, Bool.and_true, Bool.true_and, Bool.and_false, Bool.false_and, decide_eq_true_eq, Nat.reduceAdd, Nat.reduceSub, Nat.zero_add, Function.comp_apply, abs_i, gcd_while (mu_w hw ha hb)]
theorem gcd_le9 {p q : Int} (hq : q ≠ 0) (h : Bi 9000 q) : divOk ((Nat.gcd p.natAbs q.natAbs : Nat) : Int) = true ∧ divOk (0 - ((Nat.gcd p.natAbs q.natAbs : Nat) : Int)) = true := by
  have h0 : 0 < Nat.gcd p.natAbs q.natAbs := Nat.gcd_pos_of_pos_right _ (by omega)
  have h1 : Nat.gcd p.natAbs q.natAbs ≤ q.natAbs := Nat.le_of_dvd (by omega) (Nat.gcd_dvd_right _ _)
  have h2 : Bi 9000 ((Nat.gcd p.natAbs q.natAbs : Nat) : Int) := .nat (Nat.lt_of_le_of_lt h1 h)
  exact ⟨h2.divOk (by omega), Bi.divOk (by rw [Int.zero_sub]; exact h2.neg) (by omega)⟩
theorem fraction_sp (hw : 1000000 ≤ w) (h : prog[i]? = some ⟨2, false, 2, b_common_in⟩) (h2 : prog[j]? = some ⟨2, false, 3, b_fraction i⟩) {p q : Int} (hp : Bi 400000 p) (hq : Bi 9000 q) (h0 : q ≠ 0) : callI prog w (k + 2) j [.int p, .int q] S = .ok (fr (Rat.divInt p q)) S := by
  have e := common_in_sp (S := S) (k := k) hw h hp (hq.up (by decide))
  obtain ⟨d1, d2⟩ := gcd_le9 (p := p) h0 hq
  rw [callI_s h2 rfl]
  by_cases hn : q < 0
  · obtain ⟨f1, f2⟩ := frac_neg (p := p) hn
    simp only [b_fraction, qOpt, qRet, bnd_ok, bnd_exc, bnd_err, flow_nx, flow_rt, flow_bk, flow_ct, flow_exc, end_nx, end_rt, end_exc, e_var, g_0, g_s, e_cst, e_bin, e_neg, e_not, e_cmp, e_chain, e_and, e_or, e_ite, e_tup, e_lst, e_lstM, e_lstS, e_dct, e_idx, e_slc, e_rev, e_isi, e_fz, e_repM, e_addM, fz_lst, fz_tup, fz_dct, m_dget, e_blt, e_call, e_mth, m_tindex, m_tcount, e_lc, l_nil, l_cons, l_star, t_nil, t_cons, o_no, o_so, i_seq, i_rng1, i_rng2, i_zip, i_enum, i_enumT, k_enumT, k_neg, k_int, k_seqT, k_seqL, k_seqF, k_starT, k_starL, k_zipT, k_zipL, k_zipM, k_zipM2, k_enum, k_rng, k_rng2, tr_bl, tr_int, tr_tup, tr_lst, s_nil, s_cons, x_expr, x_set, x_setT, x_par, x_setI, x_aug, x_cond, x_loop, x_while, x_ret, x_retN, x_pass, x_brk, x_mat, mk_nil, mk_cons, x_cont, x_run, b_lenT, b_lenL, b_lenF, b_tupT, b_tupL, b_lstT, b_lstL, b_allL, b_anyL, b_sumL, b_sumT, b_abs, b_max, b_min, b_intI, b_intB, q_ii, q_ss, mapR_some, andR_ite, orR_ite, unpK, parK, augK, setIK, setTg, setAll, wipe, blt, blt0, seqOf, lstOf, cop, bop, intOp, isiD, tyOf, atP, place, Option.map_some, Option.map_none, Option.bind_some, Option.bind_none, eq_self, reduceCtorEq, Int.reduceLE, Int.reduceLT, Int.reduceNeg, Int.reduceEq, Int.reduceToNat, Int.reduceAdd, Int.reduceSub, Nat.reduceLeDiff, reduceIte,  List.flatten_cons, List.flatten_nil, List.length_map, List.map_cons, List.map_nil, List.length_cons, List.length_nil, List.replicate_succ, List.replicate_zero, List.cons_append, List.nil_append, List.append_nil, List.set_cons_zero, List.set_cons_succ, Bool.not_true, Bool.not_false, if_true, if_false, ite_true, ite_false, Bool.false_eq_true, decide_true, decide_false, Bool.or_true, Bool.true_or, Bool.or_false, Bool.false_or, Bool.and_true, Bool.true_and, Bool.and_false, Bool.false_and, decide_eq_true_eq, Nat.reduceAdd, Nat.reduceSub, Nat.zero_add, Function.comp_apply, e, decide_eq_true hn, d2, f1, f2]
    rfl
  · obtain ⟨f1, f2⟩ := frac_pos (p := p) (q := q) (by omega)
    simp only [b_fraction, qOpt, qRet, bnd_ok, bnd_exc, bnd_err, flow_nx, flow_rt, flow_bk, flow_ct, flow_exc, end_nx, end_rt, end_exc, e_var, g_0, g_s, e_cst, e_bin, e_neg, e_not, e_cmp, e_chain, e_and, e_or, e_ite, e_tup, e_lst, e_lstM, e_lstS, e_dct, e_idx, e_slc, e_rev, e_isi, e_fz, e_repM, e_addM, fz_lst, fz_tup, fz_dct, m_dget, e_blt, e_call, e_mth, m_tindex, m_tcount, e_lc, l_nil, l_cons, l_star, t_nil, t_cons, o_no, o_so, i_seq, i_rng1, i_rng2, i_zip, i_enum, i_enumT, k_enumT, k_neg, k_int, k_seqT, k_seqL, k_seqF, k_starT, k_starL, k_zipT, k_zipL, k_zipM, k_zipM2, k_enum, k_rng, k_rng2, tr_bl, tr_int, tr_tup, tr_lst, s_nil, s_cons, x_expr, x_set, x_setT, x_par, x_setI, x_aug, x_cond, x_loop, x_while, x_ret, x_retN, x_pass, x_brk, x_mat, mk_nil, mk_cons, x_cont, x_run, b_lenT, b_lenL, b_lenF, b_tupT, b_tupL, b_lstT, b_lstL, b_allL, b_anyL, b_sumL, b_sumT, b_abs, b_max, b_min, b_intI, b_intB, q_ii, q_ss, mapR_some, andR_ite, orR_ite, unpK, parK, augK, setIK, setTg, setAll, wipe, blt, blt0, seqOf, lstOf, cop, bop, intOp, isiD, tyOf, atP, place, Option.map_some, Option.map_none, Option.bind_some, Option.bind_none, eq_self, reduceCtorEq, Int.reduceLE, Int.reduceLT, Int.reduceNeg, Int.reduceEq, Int.reduceToNat, Int.reduceAdd, Int.reduceSub, Nat.reduceLeDiff, reduceIte,  List.flatten_cons, List.flatten_nil, List.length_map, List.map_cons, List.map_nil, List.length_cons, List.length_nil, List.replicate_succ, List.replicate_zero, List.cons_append, List.nil_append, List.append_nil, List.set_cons_zero, List.set_cons_succ, Bool.not_true, Bool.not_false, if_true, if_false, ite_true, ite_false, Bool.false_eq_true, decide_true, decide_false, Bool.or_true, Bool.true_or, Bool.or_false, Bool.false_or, Bool.and_true, Bool.true_and, Bool.and_false, Bool.false_and, decide_eq_true_eq, Nat.reduceAdd, Nat.reduceSub, Nat.zero_add, Function.comp_apply, e, decide_eq_false hn, d1, f1, f2]
    rfl
theorem lowest_sp (hw : 1000000 ≤ w) (h : prog[i]? = some ⟨2, false, 2, b_common⟩) (h2 : prog[j]? = some ⟨2, false, 3, b_lowest i⟩) {p q : Int} (hp : Bi 400000 p) (hq : Bi 9000 q) (h0 : q ≠ 0) : callI prog w (k + 2) j [.int p, .int q] S = .ok (fr (Rat.divInt p q)) S := by
  have e := common_sp (S := S) (k := k) hw h (a := p.natAbs) (b := q.natAbs) hp (hq.up (N := 400000) (by decide))
  obtain ⟨d1, d2⟩ := gcd_le9 (p := p) h0 hq
  rw [callI_s h2 rfl]
  by_cases hn : q < 0
  · obtain ⟨f1, f2⟩ := frac_neg (p := p) hn
    simp only [b_lowest, qOpt, qRet, bnd_ok, bnd_exc, bnd_err, flow_nx, flow_rt, flow_bk, flow_ct, flow_exc, end_nx, end_rt, end_exc, e_var, g_0, g_s, e_cst, e_bin, e_neg, e_not, e_cmp, e_chain, e_and, e_or, e_ite, e_tup, e_lst, e_lstM, e_lstS, e_dct, e_idx, e_slc, e_rev, e_isi, e_fz, e_repM, e_addM, fz_lst, fz_tup, fz_dct, m_dget, e_blt, e_call, e_mth, m_tindex, m_tcount, e_lc, l_nil, l_cons, l_star, t_nil, t_cons, o_no, o_so, i_seq, i_rng1, i_rng2, i_zip, i_enum, i_enumT, k_enumT, k_neg, k_int, k_seqT, k_seqL, k_seqF, k_starT, k_starL, k_zipT, k_zipL, k_zipM, k_zipM2, k_enum, k_rng, k_rng2, tr_bl, tr_int, tr_tup, tr_lst, s_nil, s_cons, x_expr, x_set, x_setT, x_par, x_setI, x_aug, x_cond, x_loop, x_while, x_ret, x_retN, x_pass, x_brk, x_mat, mk_nil, mk_cons, x_cont, x_run, b_lenT, b_lenL, b_lenF, b_tupT, b_tupL, b_lstT, b_lstL, b_allL, b_anyL, b_sumL, b_sumT, b_abs, b_max, b_min, b_intI, b_intB, q_ii, q_ss, mapR_some, andR_ite, orR_ite, unpK, parK, augK, setIK, setTg, setAll, wipe, blt, blt0, seqOf, lstOf, cop, bop, intOp, isiD, tyOf, atP, place, Option.map_some, Option.map_none, Option.bind_some, Option.bind_none, eq_self, reduceCtorEq, Int.reduceLE, Int.reduceLT, Int.reduceNeg, Int.reduceEq, Int.reduceToNat, Int.reduceAdd, Int.reduceSub, Nat.reduceLeDiff, reduceIte,  List.flatten_cons, List.flatten_nil, List.length_map, List.map_cons, List.map_nil, List.length_cons, List.length_nil, List.replicate_succ, List.replicate_zero, List.cons_append, List.nil_append, List.append_nil, List.set_cons_zero, List.set_cons_succ, Bool.not_true, Bool.not_false, if_true, if_false, ite_true, ite_false, Bool.false_eq_true, decide_true, decide_false, Bool.or_true, Bool.true_or, Bool.or_false, Bool.false_or, Bool.and_true, Bool.true_and, Bool.and_false, Bool.false_and, decide_eq_true_eq, Nat.reduceAdd, Nat.reduceSub, Nat.zero_add, Function.comp_apply, abs_i, e, decide_eq_true hn, d2, f1, f2]
    rfl
  · obtain ⟨f1, f2⟩ := frac_pos (p := p) (q := q) (by omega)
    simp only [b_lowest, qOpt, qRet, bnd_ok, bnd_exc, bnd_err, flow_nx, flow_rt, flow_bk, flow_ct, flow_exc, end_nx, end_rt, end_exc, e_var, g_0, g_s, e_cst, e_bin, e_neg, e_not, e_cmp, e_chain, e_and, e_or, e_ite, e_tup, e_lst, e_lstM, e_lstS, e_dct, e_idx, e_slc, e_rev, e_isi, e_fz, e_repM, e_addM, fz_lst, fz_tup, fz_dct, m_dget, e_blt, e_call, e_mth, m_tindex, m_tcount, e_lc, l_nil, l_cons, l_star, t_nil, t_cons, o_no, o_so, i_seq, i_rng1, i_rng2, i_zip, i_enum, i_enumT, k_enumT, k_neg, k_int, k_seqT, k_seqL, k_seqF, k_starT, k_starL, k_zipT, k_zipL, k_zipM, k_zipM2, k_enum, k_rng, k_rng2, tr_bl, tr_int, tr_tup, tr_lst, s_nil, s_cons, x_expr, x_set, x_setT, x_par, x_setI, x_aug, x_cond, x_loop, x_while, x_ret, x_retN, x_pass, x_brk, x_mat, mk_nil, mk_cons, x_cont, x_run, b_lenT, b_lenL, b_lenF, b_tupT, b_tupL, b_lstT, b_lstL, b_allL, b_anyL, b_sumL, b_sumT, b_abs, b_max, b_min, b_intI, b_intB, q_ii, q_ss, mapR_some, andR_ite, orR_ite, unpK, parK, augK, setIK, setTg, setAll, wipe, blt, blt0, seqOf, lstOf, cop, bop, intOp, isiD, tyOf, atP, place, Option.map_some, Option.map_none, Option.bind_some, Option.bind_none, eq_self, reduceCtorEq, Int.reduceLE, Int.reduceLT, Int.reduceNeg, Int.reduceEq, Int.reduceToNat, Int.reduceAdd, Int.reduceSub, Nat.reduceLeDiff, reduceIte,  List.flatten_cons, List.flatten_nil, List.length_map, List.map_cons, List.map_nil, List.length_cons, List.length_nil, List.replicate_succ, List.replicate_zero, List.cons_append, List.nil_append, List.append_nil, List.set_cons_zero, List.set_cons_succ, Bool.not_true, Bool.not_false, if_true, if_false, ite_true, ite_false, Bool.false_eq_true, decide_true, decide_false, Bool.or_true, Bool.true_or, Bool.or_false, Bool.false_or, Bool.and_true, Bool.true_and, Bool.and_false, Bool.false_and, decide_eq_true_eq, Nat.reduceAdd, Nat.reduceSub, Nat.zero_add, Function.comp_apply, abs_i, e, decide_eq_false hn, d1, f1, f2]
    rfl
theorem rat_add (x y : Rat) : Rat.divInt (x.num * y.den + y.num * x.den) ((x.den : Int) * y.den) = x + y := by
  rw [Rat.add_def', ← Rat.divInt_ofNat, Int.natCast_mul]
theorem rat_mul (x y : Rat) : Rat.divInt (x.num * y.num) ((x.den : Int) * y.den) = x * y := by
  rw [Rat.mul_def', ← Rat.divInt_ofNat, Int.natCast_mul]
theorem den0 (x : Rat) : (x.den : Int) ≠ 0 := by have := x.den_nz; omega
theorem den00 (x y : Rat) : (x.den : Int) * y.den ≠ 0 := Int.mul_ne_zero (den0 x) (den0 y)
theorem fr0 {x : Rat} : idxD S (fr x) (.int 0) = some (.int x.num) := id rfl
theorem fr1 {x : Rat} : idxD S (fr x) (.int 1) = some (.int x.den) := id rfl
theorem plus_sp (hf : ∀ (p q : Int), Bi 400000 p → Bi 9000 q → q ≠ 0 → callI prog w (k + 2) i [.int p, .int q] S = .ok (fr (Rat.divInt p q)) S) (h2 : prog[j]? = some ⟨2, false, 2, b_plus i⟩) {x y : Rat} (hx : Fb 4000 x) (hy : Fb 4000 y) :
    callI prog w (k + 3) j [fr x, fr y] S = .ok (fr (x + y)) S := by
  have e := hf (x.num * y.den + y.num * x.den) ((x.den : Int) * y.den) (((hx.n.mul hy.d).add (hy.n.mul hx.d)).up (by decide)) ((hx.d.mul hy.d).up (by decide)) (den00 x y)
  rw [rat_add] at e
  have m1 := Bi.mulOk (hx.n.up (by decide)) (hy.d.up (by decide))
  have m2 := Bi.mulOk (hy.n.up (by decide)) (hx.d.up (by decide))
  have m3 := Bi.mulOk (hx.d.up (by decide)) (hy.d.up (by decide))
  rw [callI_s h2 rfl]
  simp only [b_plus, qOpt, qRet, bnd_ok, bnd_exc, bnd_err, flow_nx, flow_rt, flow_bk, flow_ct, flow_exc, end_nx, end_rt, end_exc, e_var, g_0, g_s, e_cst, e_bin, e_neg, e_not, e_cmp, e_chain, e_and, e_or, e_ite, e_tup, e_lst, e_lstM, e_lstS, e_dct, e_idx, e_slc, e_rev, e_isi, e_fz, e_repM, e_addM, fz_lst, fz_tup, fz_dct, m_dget, e_blt, e_call, e_mth, m_tindex, m_tcount, e_lc, l_nil, l_cons, l_star, t_nil, t_cons, o_no, o_so, i_seq, i_rng1, i_rng2, i_zip, i_enum, i_enumT, k_enumT, k_neg, k_int, k_seqT, k_seqL, k_seqF, k_starT, k_starL, k_zipT, k_zipL, k_zipM, k_zipM2, k_enum, k_rng, k_rng2, tr_bl, tr_int, tr_tup, tr_lst, s_nil, s_cons, x_expr, x_set, x_setT, x_par, x_setI, x_aug, x_cond, x_loop, x_while, x_ret, x_retN, x_pass, x_brk, x_mat, mk_nil, mk_cons, x_cont, x_run, b_lenT, b_lenL, b_lenF, b_tupT, b_tupL, b_lstT, b_lstL, b_allL, b_anyL, b_sumL, b_sumT, b_abs, b_max, b_min, b_intI, b_intB, q_ii, q_ss, mapR_some, andR_ite, orR_ite, unpK, parK, augK, setIK, setTg, setAll, wipe, blt, blt0, seqOf, lstOf, cop, bop, intOp, isiD, tyOf, atP, place, Option.map_some, Option.map_none, Option.bind_some, Option.bind_none, eq_self, reduceCtorEq, Int.reduceLE, Int.reduceLT, Int.reduceNeg, Int.reduceEq, Int.reduceToNat, Int.reduceAdd, Int.reduceSub, Nat.reduceLeDiff, reduceIte,  List.flatten_cons, List.flatten_nil, List.length_map, List.map_cons, List.map_nil, List.length_cons, List.length_nil, List.replicate_succ, List.replicate_zero, List.cons_append, List.nil_append, List.append_nil, List.set_cons_zero, List.set_cons_succ, Bool.not_true, Bool.not_false, if_true, if_false, ite_true, ite_false, Bool.false_eq_true, decide_true, decide_false, Bool.or_true, Bool.true_or, Bool.or_false, Bool.false_or, Bool.and_true, Bool.true_and, Bool.and_false, Bool.false_and, decide_eq_true_eq, Nat.reduceAdd, Nat.reduceSub, Nat.zero_add, Function.comp_apply, fr0, fr1, m1, m2, m3, e]
theorem times_sp (hf : ∀ (p q : Int), Bi 400000 p → Bi 9000 q → q ≠ 0 → callI prog w (k + 2) i [.int p, .int q] S = .ok (fr (Rat.divInt p q)) S) (h2 : prog[j]? = some ⟨2, false, 2, b_times i⟩) {x y : Rat} (hx : Fb 4000 x) (hy : Fb 4000 y) :
    callI prog w (k + 3) j [fr x, fr y] S = .ok (fr (x * y)) S := by
  have e := hf (x.num * y.num) ((x.den : Int) * y.den) ((hx.n.mul hy.n).up (by decide)) ((hx.d.mul hy.d).up (by decide)) (den00 x y)
  rw [rat_mul] at e
  have m1 := Bi.mulOk (hx.n.up (by decide)) (hy.n.up (by decide))
  have m3 := Bi.mulOk (hx.d.up (by decide)) (hy.d.up (by decide))
  rw [callI_s h2 rfl]
  simp only [b_times, qOpt, qRet, bnd_ok, bnd_exc, bnd_err, flow_nx, flow_rt, flow_bk, flow_ct, flow_exc, end_nx, end_rt, end_exc, e_var, g_0, g_s, e_cst, e_bin, e_neg, e_not, e_cmp, e_chain, e_and, e_or, e_ite, e_tup, e_lst, e_lstM, e_lstS, e_dct, e_idx, e_slc, e_rev, e_isi, e_fz, e_repM, e_addM, fz_lst, fz_tup, fz_dct, m_dget, e_blt, e_call, e_mth, m_tindex, m_tcount, e_lc, l_nil, l_cons, l_star, t_nil, t_cons, o_no, o_so, i_seq, i_rng1, i_rng2, i_zip, i_enum, i_enumT, k_enumT, k_neg, k_int, k_seqT, k_seqL, k_seqF, k_starT, k_starL, k_zipT, k_zipL, k_zipM, k_zipM2, k_enum, k_rng, k_rng2, tr_bl, tr_int, tr_tup, tr_lst, s_nil, s_cons, x_expr, x_set, x_setT, x_par, x_setI, x_aug, x_cond, x_loop, x_while, x_ret, x_retN, x_pass, x_brk, x_mat, mk_nil, mk_cons, x_cont, x_run, b_lenT, b_lenL, b_lenF, b_tupT, b_tupL, b_lstT, b_lstL, b_allL, b_anyL, b_sumL, b_sumT, b_abs, b_max, b_min, b_intI, b_intB, q_ii, q_ss, mapR_some, andR_ite, orR_ite, unpK, parK, augK, setIK, setTg, setAll, wipe, blt, blt0, seqOf, lstOf, cop, bop, intOp, isiD, tyOf, atP, place, Option.map_some, Option.map_none, Option.bind_some, Option.bind_none, eq_self, reduceCtorEq, Int.reduceLE, Int.reduceLT, Int.reduceNeg, Int.reduceEq, Int.reduceToNat, Int.reduceAdd, Int.reduceSub, Nat.reduceLeDiff, reduceIte,  List.flatten_cons, List.flatten_nil, List.length_map, List.map_cons, List.map_nil, List.length_cons, List.length_nil, List.replicate_succ, List.replicate_zero, List.cons_append, List.nil_append, List.append_nil, List.set_cons_zero, List.set_cons_succ, Bool.not_true, Bool.not_false, if_true, if_false, ite_true, ite_false, Bool.false_eq_true, decide_true, decide_false, Bool.or_true, Bool.true_or, Bool.or_false, Bool.false_or, Bool.and_true, Bool.true_and, Bool.and_false, Bool.false_and, decide_eq_true_eq, Nat.reduceAdd, Nat.reduceSub, Nat.zero_add, Function.comp_apply, fr0, fr1, m1, m3, e]
theorem div_bd {p q : Int} {M N : Nat} (h : Bi M p) (h2 : Bi N q) (h0 : q ≠ 0) : Bi M (Rat.divInt p q).num ∧ Bi N ((Rat.divInt p q).den : Int) := by
  rw [Rat.num_divInt, Rat.den_divInt, if_neg h0]
  refine ⟨?_, ?_⟩
  · unfold Bi at *
    refine Nat.lt_of_le_of_lt ?_ h
    have e : (q.sign * p).natAbs = p.natAbs := by rw [Int.natAbs_mul, Int.natAbs_sign_of_ne_zero h0, Nat.one_mul]
    rw [← e]
    have g : (0 : Int) ≤ (q.gcd p : Int) := by omega
    have dv : (q.gcd p : Int) ∣ q.sign * p := Int.dvd_mul_of_dvd_right (Int.gcd_dvd_right ..)
    rw [Int.natAbs_ediv_of_dvd dv]
    exact Nat.div_le_self _ _
  · unfold Bi at *
    rw [Int.natAbs_natCast]
    exact Nat.lt_of_le_of_lt (Nat.div_le_self _ _) h2
theorem Fb.add {M N : Nat} {x y : Rat} (hx : Fb M x) (hy : Fb N y) : Fb (M + N + 1) (x + y) := by
  rw [← rat_add]
  have := div_bd ((hx.n.mul hy.d).add (hy.n.mul hx.d)) (hx.d.mul hy.d) (den00 x y)
  exact ⟨this.1.up (by omega), this.2.up (by omega)⟩
theorem Fb.mul {M N : Nat} {x y : Rat} (hx : Fb M x) (hy : Fb N y) : Fb (M + N) (x * y) := by
  rw [← rat_mul]
  have := div_bd (hx.n.mul hy.n) (hx.d.mul hy.d) (den00 x y)
  exact ⟨this.1, this.2⟩
theorem Fb.int {N : Nat} {x : Int} (h : Bi N x) (hN : 0 < N) : Fb N (x : Rat) := ⟨h, by
  show (1 : Int).natAbs < 2 ^ N
  exact Nat.one_lt_two_pow (by omega)⟩
theorem Fb.zero {N : Nat} (hN : 0 < N) : Fb N 0 := ⟨Nat.two_pow_pos N, by
  show (1 : Int).natAbs < 2 ^ N
  exact Nat.one_lt_two_pow (by omega)⟩
theorem fr_inj {x y : Rat} (h : fr x = fr y) : x = y := by
  unfold fr at h
  simp only [D.tup.injEq, List.cons.injEq, D.int.injEq, and_true] at h
  exact Rat.ext h.1 (by omega)
end
end Ln

set_option linter.all false
set_option maxRecDepth 10000
set_option exponentiation.threshold 10000
/-! Values of many kinds. -/
namespace Ln
open PySem (PyData Str)
/-- the stream at n was drawn from, all else stands -/
structure Kp (n : Nat) (S S' : Store) : Prop where
  s : Strm n S'
  l : S'.length = S.length
  o : ∀ m, m ≠ n → S'[m]? = S[m]?
theorem Kp.refl {n : Nat} {S : Store} (h : Strm n S) : Kp n S S := ⟨h, rfl, fun _ _ => rfl⟩
theorem Kp.trans {n : Nat} {S S1 S2 : Store} (a : Kp n S S1) (b : Kp n S1 S2) : Kp n S S2 := ⟨b.s, b.l.trans a.l, fun m h => (b.o m h).trans (a.o m h)⟩
/-- data without what can change: ints of N bits, ascii texts, at most K deep -/
inductive Dt (dc : Bool) (N : Nat) : Nat → D → Prop
  | non {k : Nat} : Dt dc N k .non
  | bl {k : Nat} (b : Bool) : Dt dc N k (.bl b)
  | int {k : Nat} {i : Int} : Bi N i → Dt dc N k (.int i)
  | str {k : Nat} {x : Str} : x.length ≤ 3000 + N → (∀ c ∈ x.cps.toList, c < 128) → Dt dc N k (.str x)
  | tup {k : Nat} {xs : List D} : xs.length ≤ 1000 + N → (∀ x ∈ xs, Dt dc N k x) → Dt dc N (k + 1) (.tup xs)
  | lst {k : Nat} {xs : List D} : xs.length ≤ 1000 + N → (∀ x ∈ xs, Dt dc N k x) → Dt dc N (k + 1) (.lst xs)
  | dct {k : Nat} : dc = true → Dt dc N (k + 1) (.dct [] [])
theorem Dt.up {dc : Bool} {M N : Nat} (h : M ≤ N) {k : Nat} {d : D} (r : Dt dc M k d) : Dt dc N k d := by
  induction r with
  | non => exact .non
  | bl b => exact .bl b
  | int hi => exact .int (hi.up h)
  | str h1 h2 => exact .str (by omega) h2
  | tup h1 _ ih => exact .tup (by omega) ih
  | lst h1 _ ih => exact .lst (by omega) ih
  | dct h => exact .dct h
theorem Dt.loose {dc : Bool} {N k : Nat} {d : D} (r : Dt dc N k d) : Dt true N k d := by
  induction r with
  | non => exact .non
  | bl b => exact .bl b
  | int hi => exact .int hi
  | str h1 h2 => exact .str h1 h2
  | tup h1 _ ih => exact .tup h1 ih
  | lst h1 _ ih => exact .lst h1 ih
  | dct h => exact .dct rfl
theorem Dt.deep {dc : Bool} {N k : Nat} {d : D} (r : Dt dc N k d) : ∀ {k' : Nat}, k ≤ k' → Dt dc N k' d := by
  induction r with
  | non => exact fun _ => .non
  | bl b => exact fun _ => .bl b
  | int hi => exact fun _ => .int hi
  | str h1 h2 => exact fun _ => .str h1 h2
  | tup h1 _ ih => intro k' h; obtain ⟨j, rfl⟩ : ∃ j, k' = j + 1 := ⟨k' - 1, by omega⟩; exact .tup h1 fun x hx => ih x hx (by omega)
  | lst h1 _ ih => intro k' h; obtain ⟨j, rfl⟩ : ∃ j, k' = j + 1 := ⟨k' - 1, by omega⟩; exact .lst h1 fun x hx => ih x hx (by omega)
  | dct hd => intro k' h; obtain ⟨j, rfl⟩ : ∃ j, k' = j + 1 := ⟨k' - 1, by omega⟩; exact .dct hd
theorem Dt.int' {dc : Bool} {N k : Nat} {i : Int} (h : i.natAbs < 2 ^ 60) (hN : 60 ≤ N) : Dt dc N k (.int i) := .int (Bi.small N h hN)
theorem asc_ok {x : Str} (h : ∀ c ∈ x.cps.toList, c < 128) : PyData.strOk x = true := by
  unfold PyData.strOk
  rw [← Array.all_toList, List.all_eq_true]
  intro c hc
  have := h c hc
  simp; omega
theorem mapM_ex {k : Nat} : ∀ {xs : List D}, (∀ x ∈ xs, ∃ p : PyData, (∀ S j, k ≤ j → toP S j x = some p) ∧ p.canLay0 = true ∧ p.depth ≤ k) → ∃ ps : List PyData, (∀ S j, k ≤ j → xs.mapM (toP S j) = some ps) ∧ PyData.canLayAll0 ps = true ∧ PyData.depthAll ps ≤ k ∧ ps.length = xs.length
  | [], _ => ⟨[], fun _ _ _ => rfl, rfl, Nat.zero_le _, rfl⟩
  | x :: xs, h => by
    obtain ⟨p, h1, h2, h3⟩ := h x List.mem_cons_self
    obtain ⟨ps, g1, g2, g3, g4⟩ := mapM_ex fun y hy => h y (List.mem_cons_of_mem _ hy)
    refine ⟨p :: ps, fun S j hj => by rw [List.mapM_cons, h1 S j hj, g1 S j hj]; rfl, by simp [PyData.canLayAll0, h2, g2], by simp only [PyData.depthAll]; omega, by simp [g4]⟩
theorem Dt.toP {N k : Nat} {d : D} (r : Dt false N k d) : ∃ p : PyData, (∀ S j, k ≤ j → toP S j d = some p) ∧ p.canLay0 = true ∧ p.depth ≤ k := by
  induction r with
  | non => exact ⟨.none, fun S j _ => by cases j <;> rfl, rfl, Nat.zero_le _⟩
  | bl b => exact ⟨.bool b, fun S j _ => by cases j <;> rfl, rfl, Nat.zero_le _⟩
  | @int k i hi => exact ⟨.int i, fun S j _ => by cases j <;> rfl, rfl, Nat.zero_le _⟩
  | @str k x h1 h2 => exact ⟨.str x, fun S j _ => by cases j <;> rfl, by simpa [PyData.canLay0] using asc_ok h2, Nat.zero_le _⟩
  | @tup k xs h1 _ ih =>
    obtain ⟨ps, g1, g2, g3, g4⟩ := mapM_ex ih
    refine ⟨.tuple ps, fun S j hj => ?_, by simpa [PyData.canLay0] using g2, by simp only [PyData.depth]; omega⟩
    obtain ⟨i, rfl⟩ : ∃ i, j = i + 1 := ⟨j - 1, by omega⟩
    show (xs.mapM (Ln.toP S i)).map PyData.tuple = _
    rw [g1 S i (by omega)]; rfl
  | @lst k xs h1 _ ih =>
    obtain ⟨ps, g1, g2, g3, g4⟩ := mapM_ex ih
    refine ⟨.list ps, fun S j hj => ?_, by simpa [PyData.canLay0] using g2, by simp only [PyData.depth]; omega⟩
    obtain ⟨i, rfl⟩ : ∃ i, j = i + 1 := ⟨j - 1, by omega⟩
    show (xs.mapM (Ln.toP S i)).map PyData.list = _
    rw [g1 S i (by omega)]; rfl
  | dct h => cases h
theorem shaped_of {p : PyData} (h : p.canLay0 = true) (hd : p.depth ≤ 24) : PySem.SeqAt.shaped p = true := by
  simp [PySem.SeqAt.shaped, h]
  omega
/-- values of this kind are compared -/
theorem Dt.eqP {N k N' k' : Nat} {d e : D} (r : Dt false N k d) (r' : Dt false N' k' e) (hk : k ≤ 24) (hk' : k' ≤ 24) : ∃ p q : PyData, (∀ S j, k ≤ j → Ln.toP S j d = some p) ∧ (∀ S j, k' ≤ j → Ln.toP S j e = some q) ∧ ∀ S, eqP S d e = some (PyData.eqv p q) := by
  obtain ⟨p, h1, h2, h3⟩ := r.toP
  obtain ⟨q, g1, g2, g3⟩ := r'.toP
  refine ⟨p, q, h1, g1, fun S => ?_⟩
  unfold Ln.eqP dat
  rw [h1 S Ln.deep hk, g1 S Ln.deep hk']
  simp only [shaped_of h2 (by omega), shaped_of g2 (by omega), Bool.and_self, if_true]
theorem eq_nilT {N k : Nat} {xs : List D} {S : Store} (r : Dt false N k (.tup xs)) (hk : k ≤ 24) : eqD S (.tup xs) (.tup []) = some xs.isEmpty := by
  obtain ⟨p, q, h1, h2, h3⟩ := r.eqP (N' := 0) (k' := 1) (e := .tup []) (.tup (Nat.zero_le _) fun _ h => nomatch h) hk (by decide)
  show Ln.eqP S _ _ = _
  rw [h3]
  have hq : q = .tuple [] := by have := h2 [] 1 (Nat.le_refl _); cases this; rfl
  subst hq
  cases r with
  | tup hl hx =>
    rename_i k
    have e := h1 [] (k + 1) (Nat.le_refl _)
    simp only [Ln.toP, Option.map_eq_some_iff] at e
    obtain ⟨ps, e, rfl⟩ := e
    cases xs with
    | nil => cases e; rfl
    | cons x xs =>
      rw [List.mapM_cons] at e
      cases ps with
      | nil => 
        exfalso
        cases h : Ln.toP [] k x with
        | none => rw [h] at e; cases e
        | some y => cases h' : xs.mapM (Ln.toP [] k) with
          | none => rw [h, h'] at e; cases e
          | some ys => rw [h, h'] at e; cases e
      | cons => simp [PyData.eqv, PyData.eqvAll]
def b_odd (p : Nat) : Sms :=
  (.cons (.set 1 (.lst (.cons (.cst .non) (.cons (.cst (.bl true)) (.cons (.cst (.bl false)) (.cons (.neg (.cst (.int 1))) (.cons (.cst (.int 0)) (.cons (.cst (.int 1)) (.cons (.cst (.int 7)) (.cons (.bin .pow (.cst (.int 10)) (.cst (.int 39))) (.cons (.cst (.str "")) (.cons (.cst (.str "a")) (.cons (.cst (.str "b")) (.cons (.cst (.str "A")) (.cons (.tup .nil) (.cons (.lst .nil) (.cons (.dct .nil .nil) (.cons (.tup (.cons (.cst (.int 0)) .nil)) (.cons (.tup (.cons (.cst (.str "a")) .nil)) (.cons (.lst (.cons (.cst (.int 0)) .nil)) (.cons (.tup (.cons (.tup .nil) .nil)) (.cons (.cst (.str "a b")) .nil))))))))))))))))))))))
  (.cons (.ret (.call p (.cons (.var 0) (.cons (.var 1) .nil))))
  .nil))
def b_bent2 (dr p od : Nat) : Sms :=
  (.cons (.cond (.isi (.var 1) .tuple)
  (.cons (.set 3 (.call dr (.cons (.var 0) (.cons (.bin .add (.blt .len (.cons (.var 1) .nil)) (.cst (.int 1))) .nil))))
  (.cons (.set 4 (.lst (.cons (.blt .list (.cons (.var 1) .nil)) (.cons (.bin .add (.slc (.var 1) .no (.so (.var 3))) (.slc (.var 1) (.so (.bin .add (.var 3) (.cst (.int 1)))) .no)) (.cons (.bin .add (.bin .add (.slc (.var 1) .no (.so (.var 3))) (.tup (.cons (.cst (.int 0)) .nil))) (.slc (.var 1) (.so (.var 3)) .no)) (.cons (.rev (.var 1)) .nil))))))
  (.cons (.ret (.call p (.cons (.var 0) (.cons (.bin .add (.var 4) (.lst (.cons (.bin .add (.var 1) (.slc (.var 1) (.so (.neg (.cst (.int 1)))) .no)) (.cons (.tup (.cons (.var 1) .nil)) (.cons (.tup .nil) (.cons (.bin .add (.bin .add (.slc (.var 1) .no (.so (.var 3))) (.slc (.var 1) .no (.so (.cst (.int 1))))) (.slc (.var 1) (.so (.var 3)) .no)) .nil)))))) .nil))))
  .nil))) .nil)
  (.cons (.cond (.and (.isi (.var 1) .int) (.not (.isi (.var 1) .bool)))
  (.cons (.ret (.call p (.cons (.var 0) (.cons (.lst (.cons (.bin .add (.var 1) (.cst (.int 1))) (.cons (.bin .sub (.var 1) (.cst (.int 1))) (.cons (.bin .sub (.cst (.int 0)) (.var 1)) (.cons (.cmp .eq (.var 1) (.cst (.int 1))) (.cons (.blt .str (.cons (.var 1) .nil)) (.cons (.tup (.cons (.var 1) .nil)) (.cons (.bin .mul (.cst (.int 2)) (.var 1)) .nil)))))))) .nil))))
  .nil) .nil)
  (.cons (.cond (.isi (.var 1) .str)
  (.cons (.ret (.call p (.cons (.var 0) (.cons (.lst (.cons (.bin .add (.var 1) (.cst (.str "a"))) (.cons (.slc (.var 1) (.so (.cst (.int 1))) .no) (.cons (.cst (.str "place")) (.cons (.cst (.str "mixture")) (.cons (.cst (.str "a")) (.cons (.mth .upper (.var 1) .nil) (.cons (.tup (.cons (.var 1) .nil)) (.cons (.cst .non) .nil))))))))) .nil))))
  .nil) .nil)
  (.cons (.ret (.call od (.cons (.var 0) .nil)))
  .nil))))
def b_bent (dr p od se : Nat) : Sms :=
  (.cons (.cond (.and (.isi (.var 1) .tuple) (.and (.cmp .ne (.var 1) (.tup .nil)) (.and (.cmp .gt (.var 2) (.cst (.int 0))) (.cmp .gt (.call dr (.cons (.var 0) (.cons (.cst (.int 4)) .nil))) (.cst (.int 0))))))
  (.cons (.set 3 (.call dr (.cons (.var 0) (.cons (.blt .len (.cons (.var 1) .nil)) .nil))))
  (.cons (.ret (.bin .add (.bin .add (.slc (.var 1) .no (.so (.var 3))) (.tup (.cons (.call se (.cons (.var 0) (.cons (.idx (.var 1) (.var 3)) (.cons (.bin .sub (.var 2) (.cst (.int 1))) .nil)))) .nil))) (.slc (.var 1) (.so (.bin .add (.var 3) (.cst (.int 1)))) .no)))
  .nil)) .nil)
  (b_bent2 dr p od))
section
variable {prog : List Fn} {w k i j m l n : Nat} {S : Store}
theorem drawK (h : prog[i]? = some ⟨2, false, 5, b_draw⟩) (hs : Strm n S) {t : Nat} (h0 : 0 < t) (h1 : t < 2 ^ 1000) :
    ∃ (r : Nat) (S' : Store), callI prog w (k + 1) i [.ref n, .int t] S = .ok (.int r) S' ∧ r < t ∧ Kp n S S' := by
  obtain ⟨r, S', e, r0, r1, a, b, c⟩ := draw_sp (w := w) (k := k) h hs (t := (t : Int)) (by omega) (by
    rw [Int.natAbs_natCast]
    have := (Nat.log2_lt (by omega)).mpr h1
    omega)
  obtain ⟨q, rfl⟩ : ∃ q : Nat, r = q := ⟨r.toNat, by omega⟩
  exact ⟨q, S', e, by omega, a, b, c⟩
theorem pickK (h : prog[i]? = some ⟨2, false, 5, b_draw⟩) (h2 : prog[j]? = some ⟨2, false, 2, b_pick i⟩) (hs : Strm n S) {ds : List D} (h0 : ds ≠ []) (h1 : ds.length < 1000) :
    ∃ d S', callI prog w (k + 2) j [.ref n, .lst ds] S = .ok d S' ∧ d ∈ ds ∧ Kp n S S' := by
  obtain ⟨d, S', e, m, a, b, c⟩ := pick_sp (w := w) (k := k) h h2 hs h0 h1
  exact ⟨d, S', e, m, a, b, c⟩
theorem pickKT (h : prog[i]? = some ⟨2, false, 5, b_draw⟩) (h2 : prog[j]? = some ⟨2, false, 2, b_pick i⟩) (hs : Strm n S) {ds : List D} (h0 : ds ≠ []) (h1 : ds.length < 1000) :
    ∃ d S', callI prog w (k + 2) j [.ref n, .tup ds] S = .ok d S' ∧ d ∈ ds ∧ Kp n S S' := by
  obtain ⟨d, S', e, m, a, b, c⟩ := pickT_sp (w := w) (k := k) h h2 hs h0 h1
  exact ⟨d, S', e, m, a, b, c⟩
theorem odd_sp (h : prog[i]? = some ⟨2, false, 5, b_draw⟩) (h2 : prog[j]? = some ⟨2, false, 2, b_pick i⟩) (h3 : prog[m]? = some ⟨1, false, 2, b_odd j⟩) (hs : Strm n S) :
    ∃ d S', callI prog w (k + 3) m [.ref n] S = .ok d S' ∧ Dt true 200 2 d ∧ Kp n S S' := by
  have p1 : powOk 10 39 = true := by decide +kernel
  obtain ⟨d, S', e, hd, kp⟩ := pickK (w := w) (k := k) h h2 hs (ds := [.non, .bl true, .bl false, .int (-1), .int 0, .int 1, .int 7, .int (10 ^ (39 : Int).toNat), .str "", .str "a", .str "b", .str "A", .tup [], .lst [], .dct [] [], .tup [.int 0], .tup [.str "a"], .lst [.int 0], .tup [.tup []], .str "a b"]) (by simp) (by simp)
  refine ⟨d, S', ?_, ?_, kp⟩
  · rw [callI_s h3 rfl]
    simp only [b_odd, qOpt, qRet, bnd_ok, bnd_exc, bnd_err, flow_nx, flow_rt, flow_bk, flow_ct, flow_exc, end_nx, end_rt, end_exc, e_var, g_0, g_s, e_cst, e_bin, e_neg, e_not, e_cmp, e_chain, e_and, e_or, e_ite, e_tup, e_lst, e_lstM, e_lstS, e_dct, e_idx, e_slc, e_rev, e_isi, e_fz, e_repM, e_addM, fz_lst, fz_tup, fz_dct, m_dget, e_blt, e_call, e_mth, m_tindex, m_tcount, e_lc, l_nil, l_cons, l_star, t_nil, t_cons, o_no, o_so, i_seq, i_rng1, i_rng2, i_zip, i_enum, i_enumT, k_enumT, k_neg, k_int, k_seqT, k_seqL, k_seqF, k_starT, k_starL, k_zipT, k_zipL, k_zipM, k_zipM2, k_enum, k_rng, k_rng2, tr_bl, tr_int, tr_tup, tr_lst, s_nil, s_cons, x_expr, x_set, x_setT, x_par, x_setI, x_aug, x_cond, x_loop, x_while, x_ret, x_retN, x_pass, x_brk, x_mat, mk_nil, mk_cons, x_cont, x_run, b_lenT, b_lenL, b_lenF, b_tupT, b_tupL, b_lstT, b_lstL, b_allL, b_anyL, b_sumL, b_sumT, b_abs, b_max, b_min, b_intI, b_intB, q_ii, q_ss, mapR_some, andR_ite, orR_ite, unpK, parK, augK, setIK, setTg, setAll, wipe, blt, blt0, seqOf, lstOf, cop, bop, intOp, isiD, tyOf, atP, place, Option.map_some, Option.map_none, Option.bind_some, Option.bind_none, eq_self, reduceCtorEq, Int.reduceLE, Int.reduceLT, Int.reduceNeg, Int.reduceEq, Int.reduceToNat, Int.reduceAdd, Int.reduceSub, Nat.reduceLeDiff, reduceIte,  List.flatten_cons, List.flatten_nil, List.length_map, List.map_cons, List.map_nil, List.length_cons, List.length_nil, List.replicate_succ, List.replicate_zero, List.cons_append, List.nil_append, List.append_nil, List.set_cons_zero, List.set_cons_succ, Bool.not_true, Bool.not_false, if_true, if_false, ite_true, ite_false, Bool.false_eq_true, decide_true, decide_false, Bool.or_true, Bool.true_or, Bool.or_false, Bool.false_or, Bool.and_true, Bool.true_and, Bool.and_false, Bool.false_and, decide_eq_true_eq, Nat.reduceAdd, Nat.reduceSub, Nat.zero_add, Function.comp_apply, p1]
    simp only [Int.reduceToNat] at e
    rw [e]
    rfl
  · have g : ∀ x ∈ ([.non, .bl true, .bl false, .int (-1), .int 0, .int 1, .int 7, .int (10 ^ (39 : Int).toNat), .str "", .str "a", .str "b", .str "A", .tup [], .lst [], .dct [] [], .tup [.int 0], .tup [.str "a"], .lst [.int 0], .tup [.tup []], .str "a b"] : List D), Dt true 200 2 x := by
      have s : ∀ x : Str, x.length ≤ 3000 → (x.cps.toList.all (· < 128)) = true → ∀ k, Dt true 200 k (.str x) := fun x h1 h2 k => .str (by omega) fun c hc => by have := List.all_eq_true.mp h2 c hc; simpa using this
      have i : ∀ x : Int, x.natAbs < 2 ^ 200 → ∀ k, Dt true 200 k (.int x) := fun x h k => .int h
      intro x hx
      simp only [List.mem_cons, List.not_mem_nil, or_false] at hx
      have t0 : ∀ k, Dt true 200 (k + 1) (.tup []) := fun k => .tup (Nat.zero_le _) fun _ h => nomatch h
      have one : ∀ {P : D → Prop} {y : D}, P y → ∀ x ∈ [y], P x := fun h x hx => by rw [List.mem_singleton.mp hx]; exact h
      rcases hx with rfl | rfl | rfl | rfl | rfl | rfl | rfl | rfl | rfl | rfl | rfl | rfl | rfl | rfl | rfl | rfl | rfl | rfl | rfl | rfl
      · exact .non
      · exact .bl _
      · exact .bl _
      · exact i _ (by decide +kernel) _
      · exact i _ (by decide +kernel) _
      · exact i _ (by decide +kernel) _
      · exact i _ (by decide +kernel) _
      · exact i _ (by decide +kernel) _
      · exact s _ (by decide) (by decide +kernel) _
      · exact s _ (by decide) (by decide +kernel) _
      · exact s _ (by decide) (by decide +kernel) _
      · exact s _ (by decide) (by decide +kernel) _
      · exact t0 1
      · exact .lst (Nat.zero_le _) fun _ h => nomatch h
      · exact .dct rfl
      · exact .tup (by simp) (one (i _ (by decide +kernel) _))
      · exact .tup (by simp) (one (s _ (by decide) (by decide +kernel) _))
      · exact .lst (by simp) (one (i _ (by decide +kernel) _))
      · exact .tup (by simp) (one (t0 0))
      · exact s _ (by decide) (by decide +kernel) _
    exact g d hd
theorem cut_mem {α : Type} {xs : List α} {lo hi : Option Int} : ∀ x ∈ cut xs lo hi, x ∈ xs := fun x hx => List.drop_subset _ _ (List.take_subset _ _ hx)
theorem cut_len {α : Type} {xs : List α} {lo hi : Option Int} : (cut xs lo hi).length ≤ xs.length := by
  unfold cut
  rw [List.length_take, List.length_drop]
  omega
theorem bnd_nat {n d a : Nat} : bnd n d (some (a : Int)) = min a n := by
  show (if (a : Int) < 0 then ((a : Int) + n).toNat else min (a : Int).toNat n) = _
  rw [if_neg (by omega)]
  simp
theorem cut_to {α : Type} {xs : List α} {a : Nat} : cut xs none (some (a : Int)) = xs.take a := by
  unfold cut
  rw [bnd_nat, show bnd xs.length 0 none = 0 from rfl]
  simp only [List.drop_zero, Nat.sub_zero]
  rw [List.take_eq_take_iff]; omega
theorem cut_from {α : Type} {xs : List α} {a : Nat} : cut xs (some (a : Int)) none = xs.drop a := by
  unfold cut
  rw [bnd_nat, show bnd xs.length xs.length none = xs.length from rfl]
  rw [List.take_of_length_le (by rw [List.length_drop]; omega)]
  by_cases h : a ≤ xs.length
  · rw [Nat.min_eq_left h]
  · rw [List.drop_of_length_le (by omega), List.drop_of_length_le (by omega)]
theorem cut_from1 {α : Type} {xs : List α} {a : Nat} : cut xs (some ((a : Int) + 1)) none = xs.drop (a + 1) := cut_from (a := a + 1)
theorem cut_one {α : Type} {xs : List α} : cut xs none (some 1) = xs.take 1 := cut_to (a := 1)
theorem cut_tail {α : Type} {xs : List α} : cut xs (some 1) none = xs.drop 1 := cut_from (a := 1)
theorem cut_last {α : Type} {xs : List α} : cut xs (some (-1)) none = xs.drop (xs.length - 1) := by
  unfold cut bnd
  simp only [show (-1 : Int) < 0 by decide, if_true]
  rw [List.take_of_length_le (by rw [List.length_drop]; omega)]
  congr 1
  omega
theorem add_tt {a b : List D} (h : a.length + b.length ≤ 1000000) (S : Store) : bop .add (.tup a) (.tup b) S = some (.tup (a ++ b)) := by
  have : a.length + b.length ≤ line := lineB (by omega)
  simp only [bop, this, if_true]
theorem add_ll {a b : List D} (h : a.length + b.length ≤ 1000000) (S : Store) : bop .add (.lst a) (.lst b) S = some (.lst (a ++ b)) := by
  have : a.length + b.length ≤ line := lineB (by omega)
  simp only [bop, lstOf, this, if_true]
theorem add_ss {a b : Str} (h : a.length + b.length ≤ 1000000) (S : Store) : bop .add (.str a) (.str b) S = some (.str (a ++ b)) := by
  have : a.length + b.length ≤ line := lineB (by omega)
  simp only [bop, this, if_true]
theorem sl_t {xs : List D} {lo hi : Option Int} (S : Store) : slcD S (.tup xs) lo hi = some (.tup (cut xs lo hi)) := id rfl
theorem int_dt {i : Int} {N k : Nat} (h : Bi 1900 i) : Dt true N k (.str (toString i : String)) := by
  have h1 := PySem.int_text_length_le (a := i) (k := 1900) (by decide) (h.log (by decide))
  refine .str ?_ fun c hc => ?_
  · rw [PySem.ofString_length]; omega
  · rw [Str.ofString_eq_toList] at hc
    simp only [List.mem_map] at hc
    obtain ⟨ch, hch, rfl⟩ := hc
    exact PySem.int_ascii _ _ hch
theorem upper_asc {c : Nat} (h : c < 128) : ∀ e ∈ PySem.Unicode.upperOf c, e < 128 := by
  have : ((List.range 128).all fun c => (PySem.Unicode.upperOf c).all (· < 128)) = true := by decide +kernel
  have := List.all_eq_true.mp this c (List.mem_range.mpr h)
  intro e he
  have := List.all_eq_true.mp this e he
  simpa using this
/-- drawing one of some values that are data -/
theorem pickDt (h : prog[i]? = some ⟨2, false, 5, b_draw⟩) (h2 : prog[j]? = some ⟨2, false, 2, b_pick i⟩) (hs : Strm n S) {ds : List D} {P : D → Prop} (h0 : ds ≠ []) (h1 : ds.length < 1000) (hd : ∀ d ∈ ds, P d) :
    ∃ d S', callI prog w (k + 2) j [.ref n, .lst ds] S = .ok d S' ∧ P d ∧ Kp n S S' := by
  obtain ⟨d, S', e, hm, kp⟩ := pickK (w := w) (k := k) h h2 hs h0 h1
  exact ⟨d, S', e, hd d hm, kp⟩
theorem add_tt' {a b : List D} {S : Store} (h : a.length + b.length ≤ 1000000) : bop .add (.tup a) (.tup b) S = some (.tup (a ++ b)) := add_tt h S
theorem add_ll' {a b : List D} {S : Store} (h : a.length + b.length ≤ 1000000) : bop .add (.lst a) (.lst b) S = some (.lst (a ++ b)) := add_ll h S
theorem rv_t {xs : List D} : revD S (.tup xs) = some (.tup xs.reverse) := id rfl
theorem Dt.items {dc : Bool} {N K : Nat} {xs : List D} (h : Dt dc N (K + 1) (.tup xs)) : xs.length ≤ 1000 + N ∧ ∀ x ∈ xs, Dt dc N K x := by
  cases h with
  | tup h1 h2 => exact ⟨h1, h2⟩
theorem bent_t2 (h : prog[i]? = some ⟨2, false, 5, b_draw⟩) (h2 : prog[j]? = some ⟨2, false, 2, b_pick i⟩) (h3 : prog[m]? = some ⟨1, false, 2, b_odd j⟩) (hs : Strm n S) {K N : Nat} {xs : List D} {dp : D} (hv : Dt false N (K + 1) (.tup xs)) (hN : N ≤ 1800) :
    ∃ d S' ρ, execs (callI prog w (k + 3)) w (b_bent2 i j m) [some (.ref n), some (.tup xs), some dp, none, none] S = .ok (.rt d, ρ) S' ∧ Dt true (N + 1) (K + 2) d ∧ Kp n S S' := by
  obtain ⟨hl, hx⟩ := hv.items
  obtain ⟨a, S1, e1, ha, k1⟩ := drawK (w := w) (k := k + 2) h hs (t := xs.length + 1) (by omega) (by
    refine Nat.lt_of_lt_of_le (show xs.length + 1 < 2 ^ 12 by omega) (Nat.pow_le_pow_right (by decide) (by decide)))
  have up : ∀ x ∈ xs, Dt true (N + 1) (K + 1) x := fun x hx' => ((hx x hx').loose.up (by omega)).deep (by omega)
  have mk : ∀ ys : List D, ys.length ≤ 1001 + N → (∀ y ∈ ys, Dt true (N + 1) (K + 1) y) → Dt true (N + 1) (K + 2) (.tup ys) := fun ys h1 h2 => .tup (by omega) h2
  have ct : ∀ a, ∀ y ∈ xs.take a, Dt true (N + 1) (K + 1) y := fun a y hy => up y (List.take_subset _ _ hy)
  have cd : ∀ a, ∀ y ∈ xs.drop a, Dt true (N + 1) (K + 1) y := fun a y hy => up y (List.drop_subset _ _ hy)
  have i0 : Dt true (N + 1) (K + 1) (.int 0) := .int (by unfold Bi; exact Nat.two_pow_pos _)
  obtain ⟨d, S2, e2, hd, k2⟩ := pickDt (w := w) (k := k + 1) (P := Dt true (N + 1) (K + 2)) h h2 k1.s (ds := [.lst xs, .tup (xs.take a ++ xs.drop (a + 1)), .tup (xs.take a ++ [.int 0] ++ xs.drop a), .tup xs.reverse,
    .tup (xs ++ xs.drop (xs.length - 1)), .tup [.tup xs], .tup [], .tup (xs.take a ++ xs.take 1 ++ xs.drop a)]) (by simp) (by simp) (by
      intro y hy
      simp only [List.mem_cons, List.not_mem_nil, or_false] at hy
      rcases hy with rfl | rfl | rfl | rfl | rfl | rfl | rfl | rfl
      · exact .lst (by omega) up
      · exact mk _ (by simp only [List.length_append, List.length_take, List.length_drop]; omega) fun y hy => (List.mem_append.mp hy).elim (ct _ y) (cd _ y)
      · exact mk _ (by simp only [List.length_append, List.length_take, List.length_drop, List.length_cons, List.length_nil]; omega) fun y hy => by
          simp only [List.mem_append, List.mem_singleton] at hy
          rcases hy with (hy | rfl) | hy
          · exact ct _ y hy
          · exact i0
          · exact cd _ y hy
      · exact mk _ (by rw [List.length_reverse]; omega) fun y hy => up y (List.mem_reverse.mp hy)
      · exact mk _ (by simp only [List.length_append, List.length_drop]; omega) fun y hy => (List.mem_append.mp hy).elim (up y) (cd _ y)
      · exact mk _ (by simp; omega) fun y hy => by rw [List.mem_singleton.mp hy]; exact .tup (by omega) fun x hx' => (hx x hx').loose.up (by omega)
      · exact mk _ (by simp) fun y hy => nomatch hy
      · exact mk _ (by simp only [List.length_append, List.length_take, List.length_drop]; omega) fun y hy => by
          simp only [List.mem_append] at hy
          rcases hy with (hy | hy) | hy
          · exact ct _ y hy
          · exact ct _ y hy
          · exact cd _ y hy)
  have e1' : callI prog w (k + 3) i [.ref n, .int ((xs.length : Int) + 1)] S = .ok (.int a) S1 := e1
  have e2' : callI prog w (k + 3) j [.ref n, .lst [.lst xs, .tup (xs.take a ++ xs.drop (a + 1)), .tup (xs.take a ++ D.int 0 :: xs.drop a), .tup xs.reverse, .tup (xs ++ xs.drop (xs.length - 1)), .tup [.tup xs], .tup [], .tup (xs.take a ++ (xs.take 1 ++ xs.drop a))]] S1 = .ok d S2 := by
    rw [← e2]; simp only [List.append_assoc, List.cons_append, List.nil_append]
  refine ⟨d, S2, [some (.ref n), some (.tup xs), some dp, some (.int a), some (.lst [.lst xs, .tup (xs.take a ++ xs.drop (a + 1)), .tup (xs.take a ++ D.int 0 :: xs.drop a), .tup xs.reverse])], ?_, hd, k1.trans k2⟩
  simp (disch := (try simp only [List.length_append, List.length_cons, List.length_nil, List.length_take, List.length_drop]); omega) only [b_bent2, qOpt, qRet, bnd_ok, bnd_exc, bnd_err, flow_nx, flow_rt, flow_bk, flow_ct, flow_exc, end_nx, end_rt, end_exc, e_var, g_0, g_s, e_cst, e_bin, e_neg, e_not, e_cmp, e_chain, e_and, e_or, e_ite, e_tup, e_lst, e_lstM, e_lstS, e_dct, e_idx, e_slc, e_rev, e_isi, e_fz, e_repM, e_addM, fz_lst, fz_tup, fz_dct, m_dget, e_blt, e_call, e_mth, m_tindex, m_tcount, e_lc, l_nil, l_cons, l_star, t_nil, t_cons, o_no, o_so, i_seq, i_rng1, i_rng2, i_zip, i_enum, i_enumT, k_enumT, k_neg, k_int, k_seqT, k_seqL, k_seqF, k_starT, k_starL, k_zipT, k_zipL, k_zipM, k_zipM2, k_enum, k_rng, k_rng2, tr_bl, tr_int, tr_tup, tr_lst, s_nil, s_cons, x_expr, x_set, x_setT, x_par, x_setI, x_aug, x_cond, x_loop, x_while, x_ret, x_retN, x_pass, x_brk, x_mat, mk_nil, mk_cons, x_cont, x_run, b_lenT, b_lenL, b_lenF, b_tupT, b_tupL, b_lstT, b_lstL, b_allL, b_anyL, b_sumL, b_sumT, b_abs, b_max, b_min, b_intI, b_intB, q_ii, q_ss, mapR_some, andR_ite, orR_ite, unpK, parK, augK, setIK, setTg, setAll, wipe, blt, blt0, seqOf, lstOf, cop, isiD, tyOf, atP, place, Option.map_some, Option.map_none, Option.bind_some, Option.bind_none, eq_self, reduceCtorEq, Int.reduceLE, Int.reduceLT, Int.reduceNeg, Int.reduceEq, Int.reduceToNat, Int.reduceAdd, Int.reduceSub, Nat.reduceLeDiff, reduceIte,  List.flatten_cons, List.flatten_nil, List.length_map, List.map_cons, List.map_nil, List.length_cons, List.length_nil, List.replicate_succ, List.replicate_zero, List.cons_append, List.nil_append, List.append_nil, List.set_cons_zero, List.set_cons_succ, Bool.not_true, Bool.not_false, if_true, if_false, ite_true, ite_false, Bool.false_eq_true, decide_true, decide_false, Bool.or_true, Bool.true_or, Bool.or_false, Bool.false_or, Bool.and_true, Bool.true_and, Bool.and_false, Bool.false_and, decide_eq_true_eq, Nat.reduceAdd, Nat.reduceSub, Nat.zero_add, Function.comp_apply, bop_ii, ii_add, e1', sl_t, rv_t, add_tt', add_ll', cut_to, cut_from, cut_from1, cut_one, cut_last, List.append_assoc, e2']
theorem upper_toList (x : Str) : (PySem.Txt.upper x).cps.toList = x.cps.toList.flatMap PySem.Unicode.upperOf := by
  have e : (PySem.Txt.upper x).cps = (x.cps.map fun c => (PySem.Unicode.upperOf c).toArray).flatten := by
    show (x.cps.mapIdx fun _ c => (PySem.Unicode.upperOf c).toArray).flatten = _
    congr 1
    apply Array.ext
    · simp
    · intro i h1 h2; simp
  rw [e]
  simp [Array.toList_flatten, List.flatMap_def, List.map_map, Function.comp_def]
theorem upper_dt {x : Str} {N k : Nat} (h1 : x.length ≤ 3000 + N) (h2 : ∀ c ∈ x.cps.toList, c < 128) : Dt true N k (.str (PySem.Txt.upper x)) := by
  have one : ((List.range 128).all fun c => decide ((PySem.Unicode.upperOf c).length = 1)) = true := by decide +kernel
  have one : ∀ c < 128, (PySem.Unicode.upperOf c).length = 1 := fun c hc => of_decide_eq_true (List.all_eq_true.mp one c (List.mem_range.mpr hc))
  refine .str ?_ fun c hc => ?_
  · refine Nat.le_trans (Nat.le_of_eq ?_) h1
    have e : (PySem.Txt.upper x).length = (PySem.Txt.upper x).cps.toList.length := rfl
    rw [e, upper_toList, show x.length = x.cps.toList.length from rfl]
    generalize x.cps.toList = l at h2
    induction l with
    | nil => rfl
    | cons a l ih =>
      rw [List.flatMap_cons, List.length_append, List.length_cons, one a (h2 a List.mem_cons_self), ih fun c hc => h2 c (List.mem_cons_of_mem _ hc)]
      omega
  · rw [upper_toList, List.mem_flatMap] at hc
    obtain ⟨a, ha, hc⟩ := hc
    exact upper_asc (h2 a ha) c hc
theorem str_dt {N k : Nat} (x : Str) (h1 : x.length ≤ 3000 := by decide) (h2 : (x.cps.toList.all (· < 128)) = true := by decide +kernel) : Dt true N k (.str x) := .str (by omega) fun c hc => by have := List.all_eq_true.mp h2 c hc; simpa using this
theorem bent_sp (h : prog[i]? = some ⟨2, false, 5, b_draw⟩) (h2 : prog[j]? = some ⟨2, false, 2, b_pick i⟩) (h3 : prog[m]? = some ⟨1, false, 2, b_odd j⟩) (h4 : prog[l]? = some ⟨3, false, 5, b_bent i j m l⟩) :
    ∀ (dp : Nat) {S : Store} {v : D} {K N : Nat}, Dt false N K v → 200 ≤ N → N ≤ 1800 → K ≤ 20 → Strm n S → ∃ d S', callI prog w (k + dp + 4) l [.ref n, v, .int dp] S = .ok d S' ∧ Dt true (N + 1) (K + 2) d ∧ Kp n S S' := by
  intro dp
  -- what is no tuple
  have rest : ∀ {k : Nat} {S : Store} {v dp : D} {K N : Nat}, Dt false N K v → (∀ xs, v ≠ .tup xs) → 200 ≤ N → N ≤ 1800 → Strm n S → ∃ d S', callI prog w (k + 4) l [.ref n, v, dp] S = .ok d S' ∧ Dt true (N + 1) (K + 2) d ∧ Kp n S S' := by
    intro k S v dp K N hv hn hN hN' hs
    have odd : ∃ d S', callI prog w (k + 3) m [.ref n] S = .ok d S' ∧ Dt true (N + 1) (K + 2) d ∧ Kp n S S' := by
      obtain ⟨d, S', e, hd, kp⟩ := odd_sp (w := w) (k := k) h h2 h3 hs
      exact ⟨d, S', e, (hd.up (by omega)).deep (by omega), kp⟩
    rw [callI_s h4 rfl]
    cases hv with
    | tup => exact absurd rfl (hn _)
    | dct hd => cases hd
    | non =>
      obtain ⟨d, S', e, hd, kp⟩ := odd
      exact ⟨d, S', by simp only [b_bent, b_bent2, qOpt, qRet, bnd_ok, bnd_exc, bnd_err, flow_nx, flow_rt, flow_bk, flow_ct, flow_exc, end_nx, end_rt, end_exc, e_var, g_0, g_s, e_cst, e_bin, e_neg, e_not, e_cmp, e_chain, e_and, e_or, e_ite, e_tup, e_lst, e_lstM, e_lstS, e_dct, e_idx, e_slc, e_rev, e_isi, e_fz, e_repM, e_addM, fz_lst, fz_tup, fz_dct, m_dget, e_blt, e_call, e_mth, m_tindex, m_tcount, e_lc, l_nil, l_cons, l_star, t_nil, t_cons, o_no, o_so, i_seq, i_rng1, i_rng2, i_zip, i_enum, i_enumT, k_enumT, k_neg, k_int, k_seqT, k_seqL, k_seqF, k_starT, k_starL, k_zipT, k_zipL, k_zipM, k_zipM2, k_enum, k_rng, k_rng2, tr_bl, tr_int, tr_tup, tr_lst, s_nil, s_cons, x_expr, x_set, x_setT, x_par, x_setI, x_aug, x_cond, x_loop, x_while, x_ret, x_retN, x_pass, x_brk, x_mat, mk_nil, mk_cons, x_cont, x_run, b_lenT, b_lenL, b_lenF, b_tupT, b_tupL, b_lstT, b_lstL, b_allL, b_anyL, b_sumL, b_sumT, b_abs, b_max, b_min, b_intI, b_intB, q_ii, q_ss, mapR_some, andR_ite, orR_ite, unpK, parK, augK, setIK, setTg, setAll, wipe, blt, blt0, seqOf, lstOf, cop, bop, intOp, isiD, tyOf, atP, place, Option.map_some, Option.map_none, Option.bind_some, Option.bind_none, eq_self, reduceCtorEq, Int.reduceLE, Int.reduceLT, Int.reduceNeg, Int.reduceEq, Int.reduceToNat, Int.reduceAdd, Int.reduceSub, Nat.reduceLeDiff, reduceIte,  List.flatten_cons, List.flatten_nil, List.length_map, List.map_cons, List.map_nil, List.length_cons, List.length_nil, List.replicate_succ, List.replicate_zero, List.cons_append, List.nil_append, List.append_nil, List.set_cons_zero, List.set_cons_succ, Bool.not_true, Bool.not_false, if_true, if_false, ite_true, ite_false, Bool.false_eq_true, decide_true, decide_false, Bool.or_true, Bool.true_or, Bool.or_false, Bool.false_or, Bool.and_true, Bool.true_and, Bool.and_false, Bool.false_and, decide_eq_true_eq, Nat.reduceAdd, Nat.reduceSub, Nat.zero_add, Function.comp_apply, e], hd, kp⟩
    | bl b =>
      obtain ⟨d, S', e, hd, kp⟩ := odd
      exact ⟨d, S', by simp only [b_bent, b_bent2, qOpt, qRet, bnd_ok, bnd_exc, bnd_err, flow_nx, flow_rt, flow_bk, flow_ct, flow_exc, end_nx, end_rt, end_exc, e_var, g_0, g_s, e_cst, e_bin, e_neg, e_not, e_cmp, e_chain, e_and, e_or, e_ite, e_tup, e_lst, e_lstM, e_lstS, e_dct, e_idx, e_slc, e_rev, e_isi, e_fz, e_repM, e_addM, fz_lst, fz_tup, fz_dct, m_dget, e_blt, e_call, e_mth, m_tindex, m_tcount, e_lc, l_nil, l_cons, l_star, t_nil, t_cons, o_no, o_so, i_seq, i_rng1, i_rng2, i_zip, i_enum, i_enumT, k_enumT, k_neg, k_int, k_seqT, k_seqL, k_seqF, k_starT, k_starL, k_zipT, k_zipL, k_zipM, k_zipM2, k_enum, k_rng, k_rng2, tr_bl, tr_int, tr_tup, tr_lst, s_nil, s_cons, x_expr, x_set, x_setT, x_par, x_setI, x_aug, x_cond, x_loop, x_while, x_ret, x_retN, x_pass, x_brk, x_mat, mk_nil, mk_cons, x_cont, x_run, b_lenT, b_lenL, b_lenF, b_tupT, b_tupL, b_lstT, b_lstL, b_allL, b_anyL, b_sumL, b_sumT, b_abs, b_max, b_min, b_intI, b_intB, q_ii, q_ss, mapR_some, andR_ite, orR_ite, unpK, parK, augK, setIK, setTg, setAll, wipe, blt, blt0, seqOf, lstOf, cop, bop, intOp, isiD, tyOf, atP, place, Option.map_some, Option.map_none, Option.bind_some, Option.bind_none, eq_self, reduceCtorEq, Int.reduceLE, Int.reduceLT, Int.reduceNeg, Int.reduceEq, Int.reduceToNat, Int.reduceAdd, Int.reduceSub, Nat.reduceLeDiff, reduceIte,  List.flatten_cons, List.flatten_nil, List.length_map, List.map_cons, List.map_nil, List.length_cons, List.length_nil, List.replicate_succ, List.replicate_zero, List.cons_append, List.nil_append, List.append_nil, List.set_cons_zero, List.set_cons_succ, Bool.not_true, Bool.not_false, if_true, if_false, ite_true, ite_false, Bool.false_eq_true, decide_true, decide_false, Bool.or_true, Bool.true_or, Bool.or_false, Bool.false_or, Bool.and_true, Bool.true_and, Bool.and_false, Bool.false_and, decide_eq_true_eq, Nat.reduceAdd, Nat.reduceSub, Nat.zero_add, Function.comp_apply, e], hd, kp⟩
    | lst h1 h2 =>
      obtain ⟨d, S', e, hd, kp⟩ := odd
      exact ⟨d, S', by simp only [b_bent, b_bent2, qOpt, qRet, bnd_ok, bnd_exc, bnd_err, flow_nx, flow_rt, flow_bk, flow_ct, flow_exc, end_nx, end_rt, end_exc, e_var, g_0, g_s, e_cst, e_bin, e_neg, e_not, e_cmp, e_chain, e_and, e_or, e_ite, e_tup, e_lst, e_lstM, e_lstS, e_dct, e_idx, e_slc, e_rev, e_isi, e_fz, e_repM, e_addM, fz_lst, fz_tup, fz_dct, m_dget, e_blt, e_call, e_mth, m_tindex, m_tcount, e_lc, l_nil, l_cons, l_star, t_nil, t_cons, o_no, o_so, i_seq, i_rng1, i_rng2, i_zip, i_enum, i_enumT, k_enumT, k_neg, k_int, k_seqT, k_seqL, k_seqF, k_starT, k_starL, k_zipT, k_zipL, k_zipM, k_zipM2, k_enum, k_rng, k_rng2, tr_bl, tr_int, tr_tup, tr_lst, s_nil, s_cons, x_expr, x_set, x_setT, x_par, x_setI, x_aug, x_cond, x_loop, x_while, x_ret, x_retN, x_pass, x_brk, x_mat, mk_nil, mk_cons, x_cont, x_run, b_lenT, b_lenL, b_lenF, b_tupT, b_tupL, b_lstT, b_lstL, b_allL, b_anyL, b_sumL, b_sumT, b_abs, b_max, b_min, b_intI, b_intB, q_ii, q_ss, mapR_some, andR_ite, orR_ite, unpK, parK, augK, setIK, setTg, setAll, wipe, blt, blt0, seqOf, lstOf, cop, bop, intOp, isiD, tyOf, atP, place, Option.map_some, Option.map_none, Option.bind_some, Option.bind_none, eq_self, reduceCtorEq, Int.reduceLE, Int.reduceLT, Int.reduceNeg, Int.reduceEq, Int.reduceToNat, Int.reduceAdd, Int.reduceSub, Nat.reduceLeDiff, reduceIte,  List.flatten_cons, List.flatten_nil, List.length_map, List.map_cons, List.map_nil, List.length_cons, List.length_nil, List.replicate_succ, List.replicate_zero, List.cons_append, List.nil_append, List.append_nil, List.set_cons_zero, List.set_cons_succ, Bool.not_true, Bool.not_false, if_true, if_false, ite_true, ite_false, Bool.false_eq_true, decide_true, decide_false, Bool.or_true, Bool.true_or, Bool.or_false, Bool.false_or, Bool.and_true, Bool.true_and, Bool.and_false, Bool.false_and, decide_eq_true_eq, Nat.reduceAdd, Nat.reduceSub, Nat.zero_add, Function.comp_apply, e], hd, kp⟩
    | @int _ x hx =>
      have p : Bi (N + 1) (x + 1) := (hx.add (Bi.small (x := 1) N (by decide) (by omega))).up (by omega)
      have q : Bi (N + 1) (x - 1) := (hx.sub (Bi.small (x := 1) N (by decide) (by omega))).up (by omega)
      have o : Bi (N + 1) (0 - x) := (Bi.sub (Bi.small (x := 0) N (by decide) (by omega)) hx).up (by omega)
      have r : Bi (N + 1) (2 * x) := by unfold Bi at *; rw [Int.natAbs_mul, Nat.pow_succ, show Int.natAbs 2 = 2 from rfl]; omega
      obtain ⟨d, S', e, hd, kp⟩ := pickDt (w := w) (k := k + 1) (P := Dt true (N + 1) (K + 2)) h h2 hs (ds := [.int (x + 1), .int (x - 1), .int (0 - x), .bl (decide (x = 1)), .str (toString x : String), .tup [.int x], .int (2 * x)]) (by simp) (by simp) (by
        intro y hy
        simp only [List.mem_cons, List.not_mem_nil, or_false] at hy
        rcases hy with rfl | rfl | rfl | rfl | rfl | rfl | rfl
        · exact .int p
        · exact .int q
        · exact .int o
        · exact .bl _
        · exact int_dt (hx.up (by omega))
        · exact .tup (by simp; omega) fun y hy => by rw [List.mem_singleton.mp hy]; exact .int (hx.up (by omega))
        · exact .int r)
      have lg : x.natAbs.log2 < 1920 := (hx.up (N := 1920) (by omega)).log (by decide)
      have m2 : mulOk 2 x = true := mulOk_l (by decide) (by decide)
      exact ⟨d, S', by simp only [b_bent, b_bent2, qOpt, qRet, bnd_ok, bnd_exc, bnd_err, flow_nx, flow_rt, flow_bk, flow_ct, flow_exc, end_nx, end_rt, end_exc, e_var, g_0, g_s, e_cst, e_bin, e_neg, e_not, e_cmp, e_chain, e_and, e_or, e_ite, e_tup, e_lst, e_lstM, e_lstS, e_dct, e_idx, e_slc, e_rev, e_isi, e_fz, e_repM, e_addM, fz_lst, fz_tup, fz_dct, m_dget, e_blt, e_call, e_mth, m_tindex, m_tcount, e_lc, l_nil, l_cons, l_star, t_nil, t_cons, o_no, o_so, i_seq, i_rng1, i_rng2, i_zip, i_enum, i_enumT, k_enumT, k_neg, k_int, k_seqT, k_seqL, k_seqF, k_starT, k_starL, k_zipT, k_zipL, k_zipM, k_zipM2, k_enum, k_rng, k_rng2, tr_bl, tr_int, tr_tup, tr_lst, s_nil, s_cons, x_expr, x_set, x_setT, x_par, x_setI, x_aug, x_cond, x_loop, x_while, x_ret, x_retN, x_pass, x_brk, x_mat, mk_nil, mk_cons, x_cont, x_run, b_lenT, b_lenL, b_lenF, b_tupT, b_tupL, b_lstT, b_lstL, b_allL, b_anyL, b_sumL, b_sumT, b_abs, b_max, b_min, b_intI, b_intB, q_ii, q_ss, mapR_some, andR_ite, orR_ite, unpK, parK, augK, setIK, setTg, setAll, wipe, blt, blt0, seqOf, lstOf, cop, bop, intOp, isiD, tyOf, atP, place, Option.map_some, Option.map_none, Option.bind_some, Option.bind_none, eq_self, reduceCtorEq, Int.reduceLE, Int.reduceLT, Int.reduceNeg, Int.reduceEq, Int.reduceToNat, Int.reduceAdd, Int.reduceSub, Nat.reduceLeDiff, reduceIte,  List.flatten_cons, List.flatten_nil, List.length_map, List.map_cons, List.map_nil, List.length_cons, List.length_nil, List.replicate_succ, List.replicate_zero, List.cons_append, List.nil_append, List.append_nil, List.set_cons_zero, List.set_cons_succ, Bool.not_true, Bool.not_false, if_true, if_false, ite_true, ite_false, Bool.false_eq_true, decide_true, decide_false, Bool.or_true, Bool.true_or, Bool.or_false, Bool.false_or, Bool.and_true, Bool.true_and, Bool.and_false, Bool.false_and, decide_eq_true_eq, Nat.reduceAdd, Nat.reduceSub, Nat.zero_add, Function.comp_apply, strF, lg, m2, e], hd, kp⟩
    | @str _ x hx1 hx2 =>
      have s1 : (x ++ ("a" : Str)).length = x.length + 1 := PySem.strLen_append _ _
      obtain ⟨d, S', e, hd, kp⟩ := pickDt (w := w) (k := k + 1) (P := Dt true (N + 1) (K + 2)) h h2 hs (ds := [.str (x ++ ("a" : Str)), .str ⟨(cut x.cps.toList (some 1) none).toArray⟩, .str "place", .str "mixture", .str "a", .str (PySem.Txt.upper x), .tup [.str x], .non]) (by simp) (by simp) (by
        intro y hy
        simp only [List.mem_cons, List.not_mem_nil, or_false] at hy
        rcases hy with rfl | rfl | rfl | rfl | rfl | rfl | rfl | rfl
        · refine .str (by rw [s1]; omega) fun c hc => ?_
          have e : (x ++ ("a" : Str)).cps.toList = x.cps.toList ++ [97] := by
            show (x.cps ++ (("a" : Str)).cps).toList = _
            rw [Array.toList_append]; rfl
          rw [e] at hc
          rcases List.mem_append.mp hc with hc | hc
          · exact hx2 c hc
          · rw [List.mem_singleton.mp hc]; decide
        · refine .str ?_ fun c hc => hx2 c (cut_mem c hc)
          have := cut_len (xs := x.cps.toList) (lo := some 1) (hi := none)
          show (cut x.cps.toList (some 1) none).toArray.size ≤ _
          rw [List.size_toArray]
          have : x.length = x.cps.toList.length := rfl
          omega
        · exact str_dt _
        · exact str_dt _
        · exact str_dt _
        · exact upper_dt (by omega) hx2
        · exact .tup (by simp; omega) fun y hy => by rw [List.mem_singleton.mp hy]; exact .str (by omega) hx2
        · exact .non)
      have l1 : x.length + Str.length "a" ≤ line := lineB (by have : Str.length "a" = 1 := rfl; omega)
      have l2 : x.length ≤ line := lineB (by omega)
      have l3 : x.length ≤ 5592405 := by omega
      have mu : mthOk .upper (.str x) S = some () := rfl
      exact ⟨d, S', by simp only [b_bent, b_bent2, qOpt, qRet, bnd_ok, bnd_exc, bnd_err, flow_nx, flow_rt, flow_bk, flow_ct, flow_exc, end_nx, end_rt, end_exc, e_var, g_0, g_s, e_cst, e_bin, e_neg, e_not, e_cmp, e_chain, e_and, e_or, e_ite, e_tup, e_lst, e_lstM, e_lstS, e_dct, e_idx, e_slc, e_rev, e_isi, e_fz, e_repM, e_addM, fz_lst, fz_tup, fz_dct, m_dget, e_blt, e_call, e_mth, m_tindex, m_tcount, e_lc, l_nil, l_cons, l_star, t_nil, t_cons, o_no, o_so, i_seq, i_rng1, i_rng2, i_zip, i_enum, i_enumT, k_enumT, k_neg, k_int, k_seqT, k_seqL, k_seqF, k_starT, k_starL, k_zipT, k_zipL, k_zipM, k_zipM2, k_enum, k_rng, k_rng2, tr_bl, tr_int, tr_tup, tr_lst, s_nil, s_cons, x_expr, x_set, x_setT, x_par, x_setI, x_aug, x_cond, x_loop, x_while, x_ret, x_retN, x_pass, x_brk, x_mat, mk_nil, mk_cons, x_cont, x_run, b_lenT, b_lenL, b_lenF, b_tupT, b_tupL, b_lstT, b_lstL, b_allL, b_anyL, b_sumL, b_sumT, b_abs, b_max, b_min, b_intI, b_intB, q_ii, q_ss, mapR_some, andR_ite, orR_ite, unpK, parK, augK, setIK, setTg, setAll, wipe, blt, blt0, seqOf, lstOf, cop, bop, intOp, isiD, tyOf, atP, place, Option.map_some, Option.map_none, Option.bind_some, Option.bind_none, eq_self, reduceCtorEq, Int.reduceLE, Int.reduceLT, Int.reduceNeg, Int.reduceEq, Int.reduceToNat, Int.reduceAdd, Int.reduceSub, Nat.reduceLeDiff, reduceIte,  List.flatten_cons, List.flatten_nil, List.length_map, List.map_cons, List.map_nil, List.length_cons, List.length_nil, List.replicate_succ, List.replicate_zero, List.cons_append, List.nil_append, List.append_nil, List.set_cons_zero, List.set_cons_succ, Bool.not_true, Bool.not_false, if_true, if_false, ite_true, ite_false, Bool.false_eq_true, decide_true, decide_false, Bool.or_true, Bool.true_or, Bool.or_false, Bool.false_or, Bool.and_true, Bool.true_and, Bool.and_false, Bool.false_and, decide_eq_true_eq, Nat.reduceAdd, Nat.reduceSub, Nat.zero_add, Function.comp_apply, upperF, slcD, mu, l1, l2, l3, e], hd, kp⟩
  have tl : ∀ {k : Nat} {S : Store} {xs : List D} {dp : D} {K N : Nat}, Dt false N (K + 1) (.tup xs) → N ≤ 1800 → Strm n S → ∃ d S' ρ, execs (callI prog w (k + 3)) w (b_bent2 i j m) [some (.ref n), some (.tup xs), some dp, none, none] S = .ok (.rt d, ρ) S' ∧ Dt true (N + 1) (K + 2) d ∧ Kp n S S' :=
    fun hv hN' hs => bent_t2 h h2 h3 hs hv hN'
  have nil : ∀ {S : Store} {v : D} {K N : Nat}, Dt false N K v → K ≤ 20 → ∀ xs, v = .tup xs → eqD S (.tup xs) (.tup []) = some xs.isEmpty := fun hv hK xs e => by subst e; exact eq_nilT hv (by omega)
  induction dp with
  | zero =>
    intro S v K N hv hN hN' hK hs
    by_cases ht : ∀ xs, v ≠ .tup xs
    · exact rest hv ht hN hN' hs
    · simp only [ne_eq, Classical.not_forall, Classical.not_not] at ht
      obtain ⟨xs, rfl⟩ := ht
      have q := nil (S := S) hv hK xs rfl
      obtain ⟨K, rfl⟩ : ∃ j, K = j + 1 := by cases hv; exact ⟨_, rfl⟩
      obtain ⟨d, S', ρ, e, hd, kp⟩ := tl (k := k) (dp := .int (0 : Nat)) hv hN' hs
      refine ⟨d, S', ?_, hd.deep (by omega), kp⟩
      rw [callI_s h4 rfl]
      cases he : xs.isEmpty <;> simp only [b_bent, qOpt, qRet, bnd_ok, bnd_exc, bnd_err, flow_nx, flow_rt, flow_bk, flow_ct, flow_exc, end_nx, end_rt, end_exc, e_var, g_0, g_s, e_cst, e_bin, e_neg, e_not, e_cmp, e_chain, e_and, e_or, e_ite, e_tup, e_lst, e_lstM, e_lstS, e_dct, e_idx, e_slc, e_rev, e_isi, e_fz, e_repM, e_addM, fz_lst, fz_tup, fz_dct, m_dget, e_blt, e_call, e_mth, m_tindex, m_tcount, e_lc, l_nil, l_cons, l_star, t_nil, t_cons, o_no, o_so, i_seq, i_rng1, i_rng2, i_zip, i_enum, i_enumT, k_enumT, k_neg, k_int, k_seqT, k_seqL, k_seqF, k_starT, k_starL, k_zipT, k_zipL, k_zipM, k_zipM2, k_enum, k_rng, k_rng2, tr_bl, tr_int, tr_tup, tr_lst, s_nil, s_cons, x_expr, x_set, x_setT, x_par, x_setI, x_aug, x_cond, x_loop, x_while, x_ret, x_retN, x_pass, x_brk, x_mat, mk_nil, mk_cons, x_cont, x_run, b_lenT, b_lenL, b_lenF, b_tupT, b_tupL, b_lstT, b_lstL, b_allL, b_anyL, b_sumL, b_sumT, b_abs, b_max, b_min, b_intI, b_intB, q_ii, q_ss, mapR_some, andR_ite, orR_ite, unpK, parK, augK, setIK, setTg, setAll, wipe, blt, blt0, seqOf, lstOf, cop, bop, intOp, isiD, tyOf, atP, place, Option.map_some, Option.map_none, Option.bind_some, Option.bind_none, eq_self, reduceCtorEq, Int.reduceLE, Int.reduceLT, Int.reduceNeg, Int.reduceEq, Int.reduceToNat, Int.reduceAdd, Int.reduceSub, Nat.reduceLeDiff, reduceIte,  List.flatten_cons, List.flatten_nil, List.length_map, List.map_cons, List.map_nil, List.length_cons, List.length_nil, List.replicate_succ, List.replicate_zero, List.cons_append, List.nil_append, List.append_nil, List.set_cons_zero, List.set_cons_succ, Bool.not_true, Bool.not_false, if_true, if_false, ite_true, ite_false, Bool.false_eq_true, decide_true, decide_false, Bool.or_true, Bool.true_or, Bool.or_false, Bool.false_or, Bool.and_true, Bool.true_and, Bool.and_false, Bool.false_and, decide_eq_true_eq, Nat.reduceAdd, Nat.reduceSub, Nat.zero_add, Function.comp_apply, q, he, Int.natCast_zero, Int.lt_irrefl, Int.cast_ofNat_Int] <;> simp only [Int.cast_ofNat_Int, Int.natCast_zero] at e <;> rw [e] <;> rfl
  | succ dp ih =>
    intro S v K N hv hN hN' hK hs
    by_cases ht : ∀ xs, v ≠ .tup xs
    · exact rest hv ht hN hN' hs
    · simp only [ne_eq, Classical.not_forall, Classical.not_not] at ht
      obtain ⟨xs, rfl⟩ := ht
      have q := nil (S := S) hv hK xs rfl
      obtain ⟨K, rfl⟩ : ∃ j, K = j + 1 := by cases hv; exact ⟨_, rfl⟩
      obtain ⟨hl, hx⟩ := hv.items
      rw [callI_s h4 rfl]
      have pos : decide ((0 : Int) < ((dp : Int) + 1)) = true := decide_eq_true (by omega)
      by_cases he : xs = []
      · obtain ⟨d, S', ρ, e, hd, kp⟩ := tl (k := k + (dp + 1)) (dp := .int ((dp + 1 : Nat) : Int)) hv hN' hs
        refine ⟨d, S', ?_, hd.deep (by omega), kp⟩
        have q' : xs.isEmpty = true := by rw [he]; rfl
        simp only [b_bent, qOpt, qRet, bnd_ok, bnd_exc, bnd_err, flow_nx, flow_rt, flow_bk, flow_ct, flow_exc, end_nx, end_rt, end_exc, e_var, g_0, g_s, e_cst, e_bin, e_neg, e_not, e_cmp, e_chain, e_and, e_or, e_ite, e_tup, e_lst, e_lstM, e_lstS, e_dct, e_idx, e_slc, e_rev, e_isi, e_fz, e_repM, e_addM, fz_lst, fz_tup, fz_dct, m_dget, e_blt, e_call, e_mth, m_tindex, m_tcount, e_lc, l_nil, l_cons, l_star, t_nil, t_cons, o_no, o_so, i_seq, i_rng1, i_rng2, i_zip, i_enum, i_enumT, k_enumT, k_neg, k_int, k_seqT, k_seqL, k_seqF, k_starT, k_starL, k_zipT, k_zipL, k_zipM, k_zipM2, k_enum, k_rng, k_rng2, tr_bl, tr_int, tr_tup, tr_lst, s_nil, s_cons, x_expr, x_set, x_setT, x_par, x_setI, x_aug, x_cond, x_loop, x_while, x_ret, x_retN, x_pass, x_brk, x_mat, mk_nil, mk_cons, x_cont, x_run, b_lenT, b_lenL, b_lenF, b_tupT, b_tupL, b_lstT, b_lstL, b_allL, b_anyL, b_sumL, b_sumT, b_abs, b_max, b_min, b_intI, b_intB, q_ii, q_ss, mapR_some, andR_ite, orR_ite, unpK, parK, augK, setIK, setTg, setAll, wipe, blt, blt0, seqOf, lstOf, cop, bop, intOp, isiD, tyOf, atP, place, Option.map_some, Option.map_none, Option.bind_some, Option.bind_none, eq_self, reduceCtorEq, Int.reduceLE, Int.reduceLT, Int.reduceNeg, Int.reduceEq, Int.reduceToNat, Int.reduceAdd, Int.reduceSub, Nat.reduceLeDiff, reduceIte,  List.flatten_cons, List.flatten_nil, List.length_map, List.map_cons, List.map_nil, List.length_cons, List.length_nil, List.replicate_succ, List.replicate_zero, List.cons_append, List.nil_append, List.append_nil, List.set_cons_zero, List.set_cons_succ, Bool.not_true, Bool.not_false, if_true, if_false, ite_true, ite_false, Bool.false_eq_true, decide_true, decide_false, Bool.or_true, Bool.true_or, Bool.or_false, Bool.false_or, Bool.and_true, Bool.true_and, Bool.and_false, Bool.false_and, decide_eq_true_eq, Nat.reduceAdd, Nat.reduceSub, Nat.zero_add, Function.comp_apply, q, q']
        rw [e]; rfl
      · have q' : xs.isEmpty = false := by cases xs with | nil => exact absurd rfl he | cons => rfl
        obtain ⟨r, S1, e1, hr, k1⟩ := drawK (w := w) (k := k + dp + 3) h hs (t := 4) (by decide) (by decide)
        have e1' : callI prog w (k + (dp + 1) + 3) i [.ref n, .int 4] S = .ok (.int r) S1 := e1
        by_cases h0 : r = 0
        · obtain ⟨d, S', ρ, e, hd, kp⟩ := tl (k := k + (dp + 1)) (dp := .int ((dp + 1 : Nat) : Int)) hv hN' k1.s
          refine ⟨d, S', ?_, hd.deep (by omega), k1.trans kp⟩
          subst h0
          simp only [b_bent, qOpt, qRet, bnd_ok, bnd_exc, bnd_err, flow_nx, flow_rt, flow_bk, flow_ct, flow_exc, end_nx, end_rt, end_exc, e_var, g_0, g_s, e_cst, e_bin, e_neg, e_not, e_cmp, e_chain, e_and, e_or, e_ite, e_tup, e_lst, e_lstM, e_lstS, e_dct, e_idx, e_slc, e_rev, e_isi, e_fz, e_repM, e_addM, fz_lst, fz_tup, fz_dct, m_dget, e_blt, e_call, e_mth, m_tindex, m_tcount, e_lc, l_nil, l_cons, l_star, t_nil, t_cons, o_no, o_so, i_seq, i_rng1, i_rng2, i_zip, i_enum, i_enumT, k_enumT, k_neg, k_int, k_seqT, k_seqL, k_seqF, k_starT, k_starL, k_zipT, k_zipL, k_zipM, k_zipM2, k_enum, k_rng, k_rng2, tr_bl, tr_int, tr_tup, tr_lst, s_nil, s_cons, x_expr, x_set, x_setT, x_par, x_setI, x_aug, x_cond, x_loop, x_while, x_ret, x_retN, x_pass, x_brk, x_mat, mk_nil, mk_cons, x_cont, x_run, b_lenT, b_lenL, b_lenF, b_tupT, b_tupL, b_lstT, b_lstL, b_allL, b_anyL, b_sumL, b_sumT, b_abs, b_max, b_min, b_intI, b_intB, q_ii, q_ss, mapR_some, andR_ite, orR_ite, unpK, parK, augK, setIK, setTg, setAll, wipe, blt, blt0, seqOf, lstOf, cop, bop, intOp, isiD, tyOf, atP, place, Option.map_some, Option.map_none, Option.bind_some, Option.bind_none, eq_self, reduceCtorEq, Int.reduceLE, Int.reduceLT, Int.reduceNeg, Int.reduceEq, Int.reduceToNat, Int.reduceAdd, Int.reduceSub, Nat.reduceLeDiff, reduceIte,  List.flatten_cons, List.flatten_nil, List.length_map, List.map_cons, List.map_nil, List.length_cons, List.length_nil, List.replicate_succ, List.replicate_zero, List.cons_append, List.nil_append, List.append_nil, List.set_cons_zero, List.set_cons_succ, Bool.not_true, Bool.not_false, if_true, if_false, ite_true, ite_false, Bool.false_eq_true, decide_true, decide_false, Bool.or_true, Bool.true_or, Bool.or_false, Bool.false_or, Bool.and_true, Bool.true_and, Bool.and_false, Bool.false_and, decide_eq_true_eq, Nat.reduceAdd, Nat.reduceSub, Nat.zero_add, Function.comp_apply, q, q', pos, e1', Int.natCast_add, Int.cast_ofNat_Int, Int.lt_irrefl] at e ⊢
          rw [e]; rfl
        · have hr0 : decide ((0 : Int) < (r : Int)) = true := decide_eq_true (by omega)
          obtain ⟨a, S2, e2, ha, k2⟩ := drawK (w := w) (k := k + dp + 3) h k1.s (t := xs.length) (by cases xs <;> simp at he ⊢) (by
            refine Nat.lt_of_lt_of_le (show xs.length < 2 ^ 12 by omega) (Nat.pow_le_pow_right (by decide) (by decide)))
          have e2' : callI prog w (k + (dp + 1) + 3) i [.ref n, .int xs.length] S1 = .ok (.int a) S2 := e2
          obtain ⟨d, S3, e3, hd, k3⟩ := ih (hx _ (List.getElem_mem ha)) hN hN' (by omega) k2.s
          have e3' : callI prog w (k + (dp + 1) + 3) l [.ref n, xs[a], .int dp] S2 = .ok d S3 := e3
          have ix : idxD S2 (.tup xs) (.int a) = some xs[a] := by
            simp only [idxD, seqOf, Option.bind_some, atP, place]
            rw [if_pos (by omega), if_pos (by omega)]
            simp
          have dd : (dp : Int) + 1 - 1 = dp := by omega
          refine ⟨.tup (xs.take a ++ d :: xs.drop (a + 1)), S3, ?_, ?_, (k1.trans k2).trans k3⟩
          · simp (disch := (try simp only [List.length_append, List.length_cons, List.length_nil, List.length_take, List.length_drop]); omega) only [b_bent, qOpt, qRet, bnd_ok, bnd_exc, bnd_err, flow_nx, flow_rt, flow_bk, flow_ct, flow_exc, end_nx, end_rt, end_exc, e_var, g_0, g_s, e_cst, e_bin, e_neg, e_not, e_cmp, e_chain, e_and, e_or, e_ite, e_tup, e_lst, e_lstM, e_lstS, e_dct, e_idx, e_slc, e_rev, e_isi, e_fz, e_repM, e_addM, fz_lst, fz_tup, fz_dct, m_dget, e_blt, e_call, e_mth, m_tindex, m_tcount, e_lc, l_nil, l_cons, l_star, t_nil, t_cons, o_no, o_so, i_seq, i_rng1, i_rng2, i_zip, i_enum, i_enumT, k_enumT, k_neg, k_int, k_seqT, k_seqL, k_seqF, k_starT, k_starL, k_zipT, k_zipL, k_zipM, k_zipM2, k_enum, k_rng, k_rng2, tr_bl, tr_int, tr_tup, tr_lst, s_nil, s_cons, x_expr, x_set, x_setT, x_par, x_setI, x_aug, x_cond, x_loop, x_while, x_ret, x_retN, x_pass, x_brk, x_mat, mk_nil, mk_cons, x_cont, x_run, b_lenT, b_lenL, b_lenF, b_tupT, b_tupL, b_lstT, b_lstL, b_allL, b_anyL, b_sumL, b_sumT, b_abs, b_max, b_min, b_intI, b_intB, q_ii, q_ss, mapR_some, andR_ite, orR_ite, unpK, parK, augK, setIK, setTg, setAll, wipe, blt, blt0, seqOf, lstOf, cop, isiD, tyOf, atP, place, Option.map_some, Option.map_none, Option.bind_some, Option.bind_none, eq_self, reduceCtorEq, Int.reduceLE, Int.reduceLT, Int.reduceNeg, Int.reduceEq, Int.reduceToNat, Int.reduceAdd, Int.reduceSub, Nat.reduceLeDiff, reduceIte,  List.flatten_cons, List.flatten_nil, List.length_map, List.map_cons, List.map_nil, List.length_cons, List.length_nil, List.replicate_succ, List.replicate_zero, List.cons_append, List.nil_append, List.append_nil, List.set_cons_zero, List.set_cons_succ, Bool.not_true, Bool.not_false, if_true, if_false, ite_true, ite_false, Bool.false_eq_true, decide_true, decide_false, Bool.or_true, Bool.true_or, Bool.or_false, Bool.false_or, Bool.and_true, Bool.true_and, Bool.and_false, Bool.false_and, decide_eq_true_eq, Nat.reduceAdd, Nat.reduceSub, Nat.zero_add, Function.comp_apply, bop_ii, ii_add, ii_sub, q, q', pos, e1', hr0, e2', ix, e3', sl_t, cut_to, cut_from1, add_tt', Int.natCast_add, Int.cast_ofNat_Int, dd, List.append_assoc]
          · refine .tup (by simp only [List.length_append, List.length_take, List.length_cons, List.length_drop]; omega) fun y hy => ?_
            simp only [List.mem_append, List.mem_cons] at hy
            rcases hy with hy | rfl | hy
            · exact ((hx y (List.take_subset _ _ hy)).loose.up (by omega)).deep (by omega)
            · exact hd
            · exact ((hx y (List.drop_subset _ _ hy)).loose.up (by omega)).deep (by omega)
end
end Ln

set_option linter.all false
set_option maxRecDepth 10000
namespace K01
open Ln
open PySem (PyData Str)
abbrev sv (xs : List Str) : D := .tup (xs.map D.str)
theorem hdraw : prog[11]? = some ⟨2, false, 5, b_draw⟩ := rfl
theorem hpick : prog[12]? = some ⟨2, false, 2, b_pick 11⟩ := rfl
theorem hstream : prog[10]? = some ⟨2, false, 5, b_stream⟩ := rfl
theorem le_line {n : Nat} (h : n ≤ 1000000) : n ≤ line := by have : line = 2 ^ 24 := rfl; omega
/-- the values that are told apart: nothing of the store in them -/
inductive Vv : D → Prop
  | non : Vv .non
  | bl (b : Bool) : Vv (.bl b)
  | int (i : Int) : Vv (.int i)
  | str {x : Str} (h : x.length ≤ 10000) (ok : PyData.strOk x = true) : Vv (.str x)
  | tup {xs : List D} (h : ∀ x ∈ xs, Vv x) (hl : xs.length ≤ 10000) : Vv (.tup xs)
  | lst {xs : List D} (h : ∀ x ∈ xs, Vv x) (hl : xs.length ≤ 10000) : Vv (.lst xs)
  | dct : Vv (.dct [] [])
/-- a small letter -/
def low (c : Nat) : Bool := !(PySem.Builtin.Str.occurrences "abcdefghijklmnopqrstuvwxyz" ⟨#[c]⟩ 0 (Str.length "abcdefghijklmnopqrstuvwxyz") 1).isEmpty
def actS (x : Str) : Bool := decide (1 ≤ x.length) && decide (x.length ≤ 8) && x.cps.toList.all low
def actD : D → Bool
  | .str x => actS x
  | _ => false
section
variable {w k : Nat} {S : Store}
theorem ones_ok {α : Type} : ∀ l : List α, PyData.canLayAll0 (l.map fun _ => PyData.int 1) = true ∧ PyData.depthAll (l.map fun _ => PyData.int 1) ≤ 0
  | [] => by simp [PyData.canLayAll0, PyData.depthAll]
  | x :: l => by
    obtain ⟨h1, h2⟩ := ones_ok l
    refine ⟨by simp [PyData.canLayAll0, PyData.canLay0, h1], ?_⟩
    simp [PyData.depthAll, PyData.depth]; omega
theorem ones_toP {α : Type} : ∀ l : List α, (l.map fun _ => D.int 1).mapM (toP S 23) = some (l.map fun _ => PyData.int 1)
  | [] => by simp
  | x :: l => by simp only [List.map_cons, List.mapM_cons, toP, ones_toP l]; rfl
theorem ones_nil {α : Type} (l : List α) : eqD S (.lst (l.map fun _ => D.int 1)) (.lst []) = some l.isEmpty := by
  show eqP S _ _ = _
  have d1 : dat S (.lst (l.map fun _ => D.int 1)) = some (.list (l.map fun _ => .int 1)) := by
    show toP S 24 (.lst _) = _
    simp only [toP, ones_toP, Option.map_some]
  have d2 : dat S (.lst []) = some (.list []) := rfl
  obtain ⟨h1, h2⟩ := ones_ok l
  have sh : PySem.SeqAt.shaped (.list (l.map fun _ => .int 1)) = true := by
    unfold PySem.SeqAt.shaped
    simp [PyData.canLay0, h1, PyData.depth]
    omega
  have sh2 : PySem.SeqAt.shaped (.list []) = true := by decide
  unfold eqP
  simp only [d1, d2, sh, sh2, Bool.and_self, if_true]
  cases l <;> simp [PyData.eqv, PyData.eqvAll]
theorem bl_of {x : Str} (h1 : 1 ≤ x.length) (h2 : x.length ≤ 8) : actS x = x.cps.toList.all low := by
  unfold actS
  rw [decide_eq_true h1, decide_eq_true h2]
  rfl
theorem bl_no {x : Str} (h : ¬ (1 ≤ x.length ∧ x.length ≤ 8)) : actS x = false := by
  unfold actS
  by_cases h1 : 1 ≤ x.length
  · rw [decide_eq_false (fun z => h ⟨h1, z⟩)]; simp
  · rw [decide_eq_false h1]; simp
theorem s_is_action {d : D} (h : Vv d) : callI prog w (k + 1) 0 [d] S = .ok (.bl (actD d)) S := by
  rw [u_is_action]
  cases h with
  | str hl0 ok =>
    rename_i x
    have hl : x.length ≤ line := le_line (by omega)
    by_cases h1 : 1 ≤ x.length
    · have g1 : decide ((1 : Int) ≤ x.length) = true := decide_eq_true (by omega)
      by_cases h2 : x.length ≤ 8
      · have g2 : decide ((x.length : Int) ≤ 8) = true := decide_eq_true (by omega)
        simp only [b_is_action, qOpt, qRet, bnd_ok, bnd_exc, bnd_err, flow_nx, flow_rt, flow_bk, flow_ct, flow_exc, end_nx, end_rt, end_exc, e_var, g_0, g_s, e_cst, e_bin, e_neg, e_not, e_cmp, e_chain, e_and, e_or, e_ite, e_tup, e_lst, e_lstM, e_lstS, e_dct, e_idx, e_slc, e_rev, e_isi, e_fz, e_repM, e_addM, fz_lst, fz_tup, fz_dct, m_dget, e_blt, e_call, e_mth, m_tindex, m_tcount, e_lc, l_nil, l_cons, l_star, t_nil, t_cons, o_no, o_so, i_seq, i_rng1, i_rng2, i_zip, i_enum, i_enumT, k_enumT, k_neg, k_int, k_seqT, k_seqL, k_seqF, k_starT, k_starL, k_zipT, k_zipL, k_zipM, k_zipM2, k_enum, k_rng, k_rng2, tr_bl, tr_int, tr_tup, tr_lst, s_nil, s_cons, x_expr, x_set, x_setT, x_par, x_setI, x_aug, x_cond, x_loop, x_while, x_ret, x_retN, x_pass, x_brk, x_mat, mk_nil, mk_cons, x_cont, x_run, b_lenT, b_lenL, b_lenF, b_tupT, b_tupL, b_lstT, b_lstL, b_allL, b_anyL, b_sumL, b_sumT, b_abs, b_max, b_min, b_intI, b_intB, q_ii, q_ss, mapR_some, andR_ite, orR_ite, unpK, parK, augK, setIK, setTg, setAll, wipe, blt, blt0, seqOf, lstOf, cop, bop, intOp, isiD, tyOf, atP, place, Option.map_some, Option.map_none, Option.bind_some, Option.bind_none, eq_self, reduceCtorEq, Int.reduceLE, Int.reduceLT, Int.reduceNeg, Int.reduceEq, Int.reduceToNat, Int.reduceAdd, Int.reduceSub, Nat.reduceLeDiff, reduceIte,  List.flatten_cons, List.flatten_nil, List.length_map, List.map_cons, List.map_nil, List.length_cons, List.length_nil, List.replicate_succ, List.replicate_zero, List.cons_append, List.nil_append, List.append_nil, List.set_cons_zero, List.set_cons_succ, Bool.not_true, Bool.not_false, if_true, if_false, ite_true, ite_false, Bool.false_eq_true, decide_true, decide_false, Bool.or_true, Bool.true_or, Bool.or_false, Bool.false_or, Bool.and_true, Bool.true_and, Bool.and_false, Bool.false_and, decide_eq_true_eq, Nat.reduceAdd, Nat.reduceSub, Nat.zero_add, Function.comp_apply, lenF, hl, g1, g2, k_seqS hl, chars]
        rw [lcM_map (fun c => D.str ⟨#[c]⟩) (fun c => D.bl (low c)) x.cps.toList fun c hc => ⟨_, rfl, by simp only [qOpt, qRet, bnd_ok, bnd_exc, bnd_err, flow_nx, flow_rt, flow_bk, flow_ct, flow_exc, end_nx, end_rt, end_exc, e_var, g_0, g_s, e_cst, e_bin, e_neg, e_not, e_cmp, e_chain, e_and, e_or, e_ite, e_tup, e_lst, e_lstM, e_lstS, e_dct, e_idx, e_slc, e_rev, e_isi, e_fz, e_repM, e_addM, fz_lst, fz_tup, fz_dct, m_dget, e_blt, e_call, e_mth, m_tindex, m_tcount, e_lc, l_nil, l_cons, l_star, t_nil, t_cons, o_no, o_so, i_seq, i_rng1, i_rng2, i_zip, i_enum, i_enumT, k_enumT, k_neg, k_int, k_seqT, k_seqL, k_seqF, k_starT, k_starL, k_zipT, k_zipL, k_zipM, k_zipM2, k_enum, k_rng, k_rng2, tr_bl, tr_int, tr_tup, tr_lst, s_nil, s_cons, x_expr, x_set, x_setT, x_par, x_setI, x_aug, x_cond, x_loop, x_while, x_ret, x_retN, x_pass, x_brk, x_mat, mk_nil, mk_cons, x_cont, x_run, b_lenT, b_lenL, b_lenF, b_tupT, b_tupL, b_lstT, b_lstL, b_allL, b_anyL, b_sumL, b_sumT, b_abs, b_max, b_min, b_intI, b_intB, q_ii, q_ss, mapR_some, andR_ite, orR_ite, unpK, parK, augK, setIK, setTg, setAll, wipe, blt, blt0, seqOf, lstOf, cop, bop, intOp, isiD, tyOf, atP, place, Option.map_some, Option.map_none, Option.bind_some, Option.bind_none, eq_self, reduceCtorEq, Int.reduceLE, Int.reduceLT, Int.reduceNeg, Int.reduceEq, Int.reduceToNat, Int.reduceAdd, Int.reduceSub, Nat.reduceLeDiff, reduceIte,  List.flatten_cons, List.flatten_nil, List.length_map, List.map_cons, List.map_nil, List.length_cons, List.length_nil, List.replicate_succ, List.replicate_zero, List.cons_append, List.nil_append, List.append_nil, List.set_cons_zero, List.set_cons_succ, Bool.not_true, Bool.not_false, if_true, if_false, ite_true, ite_false, Bool.false_eq_true, decide_true, decide_false, Bool.or_true, Bool.true_or, Bool.or_false, Bool.false_or, Bool.and_true, Bool.true_and, Bool.and_false, Bool.false_and, decide_eq_true_eq, Nat.reduceAdd, Nat.reduceSub, Nat.zero_add, Function.comp_apply, inD]; rfl⟩]
        simp only [qOpt, qRet, bnd_ok, bnd_exc, bnd_err, flow_nx, flow_rt, flow_bk, flow_ct, flow_exc, end_nx, end_rt, end_exc, e_var, g_0, g_s, e_cst, e_bin, e_neg, e_not, e_cmp, e_chain, e_and, e_or, e_ite, e_tup, e_lst, e_lstM, e_lstS, e_dct, e_idx, e_slc, e_rev, e_isi, e_fz, e_repM, e_addM, fz_lst, fz_tup, fz_dct, m_dget, e_blt, e_call, e_mth, m_tindex, m_tcount, e_lc, l_nil, l_cons, l_star, t_nil, t_cons, o_no, o_so, i_seq, i_rng1, i_rng2, i_zip, i_enum, i_enumT, k_enumT, k_neg, k_int, k_seqT, k_seqL, k_seqF, k_starT, k_starL, k_zipT, k_zipL, k_zipM, k_zipM2, k_enum, k_rng, k_rng2, tr_bl, tr_int, tr_tup, tr_lst, s_nil, s_cons, x_expr, x_set, x_setT, x_par, x_setI, x_aug, x_cond, x_loop, x_while, x_ret, x_retN, x_pass, x_brk, x_mat, mk_nil, mk_cons, x_cont, x_run, b_lenT, b_lenL, b_lenF, b_tupT, b_tupL, b_lstT, b_lstL, b_allL, b_anyL, b_sumL, b_sumT, b_abs, b_max, b_min, b_intI, b_intB, q_ii, q_ss, mapR_some, andR_ite, orR_ite, unpK, parK, augK, setIK, setTg, setAll, wipe, blt, blt0, seqOf, lstOf, cop, bop, intOp, isiD, tyOf, atP, place, Option.map_some, Option.map_none, Option.bind_some, Option.bind_none, eq_self, reduceCtorEq, Int.reduceLE, Int.reduceLT, Int.reduceNeg, Int.reduceEq, Int.reduceToNat, Int.reduceAdd, Int.reduceSub, Nat.reduceLeDiff, reduceIte,  List.flatten_cons, List.flatten_nil, List.length_map, List.map_cons, List.map_nil, List.length_cons, List.length_nil, List.replicate_succ, List.replicate_zero, List.cons_append, List.nil_append, List.append_nil, List.set_cons_zero, List.set_cons_succ, Bool.not_true, Bool.not_false, if_true, if_false, ite_true, ite_false, Bool.false_eq_true, decide_true, decide_false, Bool.or_true, Bool.true_or, Bool.or_false, Bool.false_or, Bool.and_true, Bool.true_and, Bool.and_false, Bool.false_and, decide_eq_true_eq, Nat.reduceAdd, Nat.reduceSub, Nat.zero_add, Function.comp_apply, bools_fun (fun c => low c), actD, bl_of h1 h2]
        simp
      · have g2 : decide ((x.length : Int) ≤ 8) = false := decide_eq_false (by omega)
        simp only [b_is_action, qOpt, qRet, bnd_ok, bnd_exc, bnd_err, flow_nx, flow_rt, flow_bk, flow_ct, flow_exc, end_nx, end_rt, end_exc, e_var, g_0, g_s, e_cst, e_bin, e_neg, e_not, e_cmp, e_chain, e_and, e_or, e_ite, e_tup, e_lst, e_lstM, e_lstS, e_dct, e_idx, e_slc, e_rev, e_isi, e_fz, e_repM, e_addM, fz_lst, fz_tup, fz_dct, m_dget, e_blt, e_call, e_mth, m_tindex, m_tcount, e_lc, l_nil, l_cons, l_star, t_nil, t_cons, o_no, o_so, i_seq, i_rng1, i_rng2, i_zip, i_enum, i_enumT, k_enumT, k_neg, k_int, k_seqT, k_seqL, k_seqF, k_starT, k_starL, k_zipT, k_zipL, k_zipM, k_zipM2, k_enum, k_rng, k_rng2, tr_bl, tr_int, tr_tup, tr_lst, s_nil, s_cons, x_expr, x_set, x_setT, x_par, x_setI, x_aug, x_cond, x_loop, x_while, x_ret, x_retN, x_pass, x_brk, x_mat, mk_nil, mk_cons, x_cont, x_run, b_lenT, b_lenL, b_lenF, b_tupT, b_tupL, b_lstT, b_lstL, b_allL, b_anyL, b_sumL, b_sumT, b_abs, b_max, b_min, b_intI, b_intB, q_ii, q_ss, mapR_some, andR_ite, orR_ite, unpK, parK, augK, setIK, setTg, setAll, wipe, blt, blt0, seqOf, lstOf, cop, bop, intOp, isiD, tyOf, atP, place, Option.map_some, Option.map_none, Option.bind_some, Option.bind_none, eq_self, reduceCtorEq, Int.reduceLE, Int.reduceLT, Int.reduceNeg, Int.reduceEq, Int.reduceToNat, Int.reduceAdd, Int.reduceSub, Nat.reduceLeDiff, reduceIte,  List.flatten_cons, List.flatten_nil, List.length_map, List.map_cons, List.map_nil, List.length_cons, List.length_nil, List.replicate_succ, List.replicate_zero, List.cons_append, List.nil_append, List.append_nil, List.set_cons_zero, List.set_cons_succ, Bool.not_true, Bool.not_false, if_true, if_false, ite_true, ite_false, Bool.false_eq_true, decide_true, decide_false, Bool.or_true, Bool.true_or, Bool.or_false, Bool.false_or, Bool.and_true, Bool.true_and, Bool.and_false, Bool.false_and, decide_eq_true_eq, Nat.reduceAdd, Nat.reduceSub, Nat.zero_add, Function.comp_apply, lenF, hl, g1, g2, actD, bl_no (fun z => h2 z.2)]
    · have g1 : decide ((1 : Int) ≤ x.length) = false := decide_eq_false (by omega)
      simp only [b_is_action, qOpt, qRet, bnd_ok, bnd_exc, bnd_err, flow_nx, flow_rt, flow_bk, flow_ct, flow_exc, end_nx, end_rt, end_exc, e_var, g_0, g_s, e_cst, e_bin, e_neg, e_not, e_cmp, e_chain, e_and, e_or, e_ite, e_tup, e_lst, e_lstM, e_lstS, e_dct, e_idx, e_slc, e_rev, e_isi, e_fz, e_repM, e_addM, fz_lst, fz_tup, fz_dct, m_dget, e_blt, e_call, e_mth, m_tindex, m_tcount, e_lc, l_nil, l_cons, l_star, t_nil, t_cons, o_no, o_so, i_seq, i_rng1, i_rng2, i_zip, i_enum, i_enumT, k_enumT, k_neg, k_int, k_seqT, k_seqL, k_seqF, k_starT, k_starL, k_zipT, k_zipL, k_zipM, k_zipM2, k_enum, k_rng, k_rng2, tr_bl, tr_int, tr_tup, tr_lst, s_nil, s_cons, x_expr, x_set, x_setT, x_par, x_setI, x_aug, x_cond, x_loop, x_while, x_ret, x_retN, x_pass, x_brk, x_mat, mk_nil, mk_cons, x_cont, x_run, b_lenT, b_lenL, b_lenF, b_tupT, b_tupL, b_lstT, b_lstL, b_allL, b_anyL, b_sumL, b_sumT, b_abs, b_max, b_min, b_intI, b_intB, q_ii, q_ss, mapR_some, andR_ite, orR_ite, unpK, parK, augK, setIK, setTg, setAll, wipe, blt, blt0, seqOf, lstOf, cop, bop, intOp, isiD, tyOf, atP, place, Option.map_some, Option.map_none, Option.bind_some, Option.bind_none, eq_self, reduceCtorEq, Int.reduceLE, Int.reduceLT, Int.reduceNeg, Int.reduceEq, Int.reduceToNat, Int.reduceAdd, Int.reduceSub, Nat.reduceLeDiff, reduceIte,  List.flatten_cons, List.flatten_nil, List.length_map, List.map_cons, List.map_nil, List.length_cons, List.length_nil, List.replicate_succ, List.replicate_zero, List.cons_append, List.nil_append, List.append_nil, List.set_cons_zero, List.set_cons_succ, Bool.not_true, Bool.not_false, if_true, if_false, ite_true, ite_false, Bool.false_eq_true, decide_true, decide_false, Bool.or_true, Bool.true_or, Bool.or_false, Bool.false_or, Bool.and_true, Bool.true_and, Bool.and_false, Bool.false_and, decide_eq_true_eq, Nat.reduceAdd, Nat.reduceSub, Nat.zero_add, Function.comp_apply, lenF, hl, g1, actD, bl_no (fun z => h1 z.1)]
  | _ => simp only [b_is_action, qOpt, qRet, bnd_ok, bnd_exc, bnd_err, flow_nx, flow_rt, flow_bk, flow_ct, flow_exc, end_nx, end_rt, end_exc, e_var, g_0, g_s, e_cst, e_bin, e_neg, e_not, e_cmp, e_chain, e_and, e_or, e_ite, e_tup, e_lst, e_lstM, e_lstS, e_dct, e_idx, e_slc, e_rev, e_isi, e_fz, e_repM, e_addM, fz_lst, fz_tup, fz_dct, m_dget, e_blt, e_call, e_mth, m_tindex, m_tcount, e_lc, l_nil, l_cons, l_star, t_nil, t_cons, o_no, o_so, i_seq, i_rng1, i_rng2, i_zip, i_enum, i_enumT, k_enumT, k_neg, k_int, k_seqT, k_seqL, k_seqF, k_starT, k_starL, k_zipT, k_zipL, k_zipM, k_zipM2, k_enum, k_rng, k_rng2, tr_bl, tr_int, tr_tup, tr_lst, s_nil, s_cons, x_expr, x_set, x_setT, x_par, x_setI, x_aug, x_cond, x_loop, x_while, x_ret, x_retN, x_pass, x_brk, x_mat, mk_nil, mk_cons, x_cont, x_run, b_lenT, b_lenL, b_lenF, b_tupT, b_tupL, b_lstT, b_lstL, b_allL, b_anyL, b_sumL, b_sumT, b_abs, b_max, b_min, b_intI, b_intB, q_ii, q_ss, mapR_some, andR_ite, orR_ite, unpK, parK, augK, setIK, setTg, setAll, wipe, blt, blt0, seqOf, lstOf, cop, bop, intOp, isiD, tyOf, atP, place, Option.map_some, Option.map_none, Option.bind_some, Option.bind_none, eq_self, reduceCtorEq, Int.reduceLE, Int.reduceLT, Int.reduceNeg, Int.reduceEq, Int.reduceToNat, Int.reduceAdd, Int.reduceSub, Nat.reduceLeDiff, reduceIte,  List.flatten_cons, List.flatten_nil, List.length_map, List.map_cons, List.map_nil, List.length_cons, List.length_nil, List.replicate_succ, List.replicate_zero, List.cons_append, List.nil_append, List.append_nil, List.set_cons_zero, List.set_cons_succ, Bool.not_true, Bool.not_false, if_true, if_false, ite_true, ite_false, Bool.false_eq_true, decide_true, decide_false, Bool.or_true, Bool.true_or, Bool.or_false, Bool.false_or, Bool.and_true, Bool.true_and, Bool.and_false, Bool.false_and, decide_eq_true_eq, Nat.reduceAdd, Nat.reduceSub, Nat.zero_add, Function.comp_apply, actD]
theorem s_law_is_action {d : D} (h : Vv d) : callI prog w (k + 1) 18 [d] S = .ok (.bl (actD d)) S := by
  rw [u__law_is_action]
  cases h with
  | str hl0 ok =>
    rename_i x
    have hl : x.length ≤ line := le_line (by omega)
    by_cases h1 : 1 ≤ x.length
    · have g1 : decide ((1 : Int) ≤ x.length) = true := decide_eq_true (by omega)
      by_cases h2 : x.length ≤ 8
      · have g2 : decide ((x.length : Int) ≤ 8) = true := decide_eq_true (by omega)
        simp only [b__law_is_action, qOpt, qRet, bnd_ok, bnd_exc, bnd_err, flow_nx, flow_rt, flow_bk, flow_ct, flow_exc, end_nx, end_rt, end_exc, e_var, g_0, g_s, e_cst, e_bin, e_neg, e_not, e_cmp, e_chain, e_and, e_or, e_ite, e_tup, e_lst, e_lstM, e_lstS, e_dct, e_idx, e_slc, e_rev, e_isi, e_fz, e_repM, e_addM, fz_lst, fz_tup, fz_dct, m_dget, e_blt, e_call, e_mth, m_tindex, m_tcount, e_lc, l_nil, l_cons, l_star, t_nil, t_cons, o_no, o_so, i_seq, i_rng1, i_rng2, i_zip, i_enum, i_enumT, k_enumT, k_neg, k_int, k_seqT, k_seqL, k_seqF, k_starT, k_starL, k_zipT, k_zipL, k_zipM, k_zipM2, k_enum, k_rng, k_rng2, tr_bl, tr_int, tr_tup, tr_lst, s_nil, s_cons, x_expr, x_set, x_setT, x_par, x_setI, x_aug, x_cond, x_loop, x_while, x_ret, x_retN, x_pass, x_brk, x_mat, mk_nil, mk_cons, x_cont, x_run, b_lenT, b_lenL, b_lenF, b_tupT, b_tupL, b_lstT, b_lstL, b_allL, b_anyL, b_sumL, b_sumT, b_abs, b_max, b_min, b_intI, b_intB, q_ii, q_ss, mapR_some, andR_ite, orR_ite, unpK, parK, augK, setIK, setTg, setAll, wipe, blt, blt0, seqOf, lstOf, cop, bop, intOp, isiD, tyOf, atP, place, Option.map_some, Option.map_none, Option.bind_some, Option.bind_none, eq_self, reduceCtorEq, Int.reduceLE, Int.reduceLT, Int.reduceNeg, Int.reduceEq, Int.reduceToNat, Int.reduceAdd, Int.reduceSub, Nat.reduceLeDiff, reduceIte,  List.flatten_cons, List.flatten_nil, List.length_map, List.map_cons, List.map_nil, List.length_cons, List.length_nil, List.replicate_succ, List.replicate_zero, List.cons_append, List.nil_append, List.append_nil, List.set_cons_zero, List.set_cons_succ, Bool.not_true, Bool.not_false, if_true, if_false, ite_true, ite_false, Bool.false_eq_true, decide_true, decide_false, Bool.or_true, Bool.true_or, Bool.or_false, Bool.false_or, Bool.and_true, Bool.true_and, Bool.and_false, Bool.false_and, decide_eq_true_eq, Nat.reduceAdd, Nat.reduceSub, Nat.zero_add, Function.comp_apply, lenF, hl, g1, g2, k_seqS hl, chars]
        rw [lcM_filter (fun c => D.str ⟨#[c]⟩) (fun _ => D.int 1) (fun c => !low c) x.cps.toList fun c hc => ⟨_, rfl, by simp only [qOpt, qRet, bnd_ok, bnd_exc, bnd_err, flow_nx, flow_rt, flow_bk, flow_ct, flow_exc, end_nx, end_rt, end_exc, e_var, g_0, g_s, e_cst, e_bin, e_neg, e_not, e_cmp, e_chain, e_and, e_or, e_ite, e_tup, e_lst, e_lstM, e_lstS, e_dct, e_idx, e_slc, e_rev, e_isi, e_fz, e_repM, e_addM, fz_lst, fz_tup, fz_dct, m_dget, e_blt, e_call, e_mth, m_tindex, m_tcount, e_lc, l_nil, l_cons, l_star, t_nil, t_cons, o_no, o_so, i_seq, i_rng1, i_rng2, i_zip, i_enum, i_enumT, k_enumT, k_neg, k_int, k_seqT, k_seqL, k_seqF, k_starT, k_starL, k_zipT, k_zipL, k_zipM, k_zipM2, k_enum, k_rng, k_rng2, tr_bl, tr_int, tr_tup, tr_lst, s_nil, s_cons, x_expr, x_set, x_setT, x_par, x_setI, x_aug, x_cond, x_loop, x_while, x_ret, x_retN, x_pass, x_brk, x_mat, mk_nil, mk_cons, x_cont, x_run, b_lenT, b_lenL, b_lenF, b_tupT, b_tupL, b_lstT, b_lstL, b_allL, b_anyL, b_sumL, b_sumT, b_abs, b_max, b_min, b_intI, b_intB, q_ii, q_ss, mapR_some, andR_ite, orR_ite, unpK, parK, augK, setIK, setTg, setAll, wipe, blt, blt0, seqOf, lstOf, cop, bop, intOp, isiD, tyOf, atP, place, Option.map_some, Option.map_none, Option.bind_some, Option.bind_none, eq_self, reduceCtorEq, Int.reduceLE, Int.reduceLT, Int.reduceNeg, Int.reduceEq, Int.reduceToNat, Int.reduceAdd, Int.reduceSub, Nat.reduceLeDiff, reduceIte,  List.flatten_cons, List.flatten_nil, List.length_map, List.map_cons, List.map_nil, List.length_cons, List.length_nil, List.replicate_succ, List.replicate_zero, List.cons_append, List.nil_append, List.append_nil, List.set_cons_zero, List.set_cons_succ, Bool.not_true, Bool.not_false, if_true, if_false, ite_true, ite_false, Bool.false_eq_true, decide_true, decide_false, Bool.or_true, Bool.true_or, Bool.or_false, Bool.false_or, Bool.and_true, Bool.true_and, Bool.and_false, Bool.false_and, decide_eq_true_eq, Nat.reduceAdd, Nat.reduceSub, Nat.zero_add, Function.comp_apply, inD]; rfl, fun _ => by simp only [qOpt, qRet, bnd_ok, bnd_exc, bnd_err, flow_nx, flow_rt, flow_bk, flow_ct, flow_exc, end_nx, end_rt, end_exc, e_var, g_0, g_s, e_cst, e_bin, e_neg, e_not, e_cmp, e_chain, e_and, e_or, e_ite, e_tup, e_lst, e_lstM, e_lstS, e_dct, e_idx, e_slc, e_rev, e_isi, e_fz, e_repM, e_addM, fz_lst, fz_tup, fz_dct, m_dget, e_blt, e_call, e_mth, m_tindex, m_tcount, e_lc, l_nil, l_cons, l_star, t_nil, t_cons, o_no, o_so, i_seq, i_rng1, i_rng2, i_zip, i_enum, i_enumT, k_enumT, k_neg, k_int, k_seqT, k_seqL, k_seqF, k_starT, k_starL, k_zipT, k_zipL, k_zipM, k_zipM2, k_enum, k_rng, k_rng2, tr_bl, tr_int, tr_tup, tr_lst, s_nil, s_cons, x_expr, x_set, x_setT, x_par, x_setI, x_aug, x_cond, x_loop, x_while, x_ret, x_retN, x_pass, x_brk, x_mat, mk_nil, mk_cons, x_cont, x_run, b_lenT, b_lenL, b_lenF, b_tupT, b_tupL, b_lstT, b_lstL, b_allL, b_anyL, b_sumL, b_sumT, b_abs, b_max, b_min, b_intI, b_intB, q_ii, q_ss, mapR_some, andR_ite, orR_ite, unpK, parK, augK, setIK, setTg, setAll, wipe, blt, blt0, seqOf, lstOf, cop, bop, intOp, isiD, tyOf, atP, place, Option.map_some, Option.map_none, Option.bind_some, Option.bind_none, eq_self, reduceCtorEq, Int.reduceLE, Int.reduceLT, Int.reduceNeg, Int.reduceEq, Int.reduceToNat, Int.reduceAdd, Int.reduceSub, Nat.reduceLeDiff, reduceIte,  List.flatten_cons, List.flatten_nil, List.length_map, List.map_cons, List.map_nil, List.length_cons, List.length_nil, List.replicate_succ, List.replicate_zero, List.cons_append, List.nil_append, List.append_nil, List.set_cons_zero, List.set_cons_succ, Bool.not_true, Bool.not_false, if_true, if_false, ite_true, ite_false, Bool.false_eq_true, decide_true, decide_false, Bool.or_true, Bool.true_or, Bool.or_false, Bool.false_or, Bool.and_true, Bool.true_and, Bool.and_false, Bool.false_and, decide_eq_true_eq, Nat.reduceAdd, Nat.reduceSub, Nat.zero_add, Function.comp_apply]⟩]
        have q : eqD S (.lst ((x.cps.toList.filter fun c => !low c).map fun _ => .int 1)) (.lst []) = some (x.cps.toList.all low) := by
          rw [ones_nil]
          congr 1
          rw [Bool.eq_iff_iff, List.isEmpty_iff, List.filter_eq_nil_iff, List.all_eq_true]
          simp
        simp only [qOpt, qRet, bnd_ok, bnd_exc, bnd_err, flow_nx, flow_rt, flow_bk, flow_ct, flow_exc, end_nx, end_rt, end_exc, e_var, g_0, g_s, e_cst, e_bin, e_neg, e_not, e_cmp, e_chain, e_and, e_or, e_ite, e_tup, e_lst, e_lstM, e_lstS, e_dct, e_idx, e_slc, e_rev, e_isi, e_fz, e_repM, e_addM, fz_lst, fz_tup, fz_dct, m_dget, e_blt, e_call, e_mth, m_tindex, m_tcount, e_lc, l_nil, l_cons, l_star, t_nil, t_cons, o_no, o_so, i_seq, i_rng1, i_rng2, i_zip, i_enum, i_enumT, k_enumT, k_neg, k_int, k_seqT, k_seqL, k_seqF, k_starT, k_starL, k_zipT, k_zipL, k_zipM, k_zipM2, k_enum, k_rng, k_rng2, tr_bl, tr_int, tr_tup, tr_lst, s_nil, s_cons, x_expr, x_set, x_setT, x_par, x_setI, x_aug, x_cond, x_loop, x_while, x_ret, x_retN, x_pass, x_brk, x_mat, mk_nil, mk_cons, x_cont, x_run, b_lenT, b_lenL, b_lenF, b_tupT, b_tupL, b_lstT, b_lstL, b_allL, b_anyL, b_sumL, b_sumT, b_abs, b_max, b_min, b_intI, b_intB, q_ii, q_ss, mapR_some, andR_ite, orR_ite, unpK, parK, augK, setIK, setTg, setAll, wipe, blt, blt0, seqOf, lstOf, cop, bop, intOp, isiD, tyOf, atP, place, Option.map_some, Option.map_none, Option.bind_some, Option.bind_none, eq_self, reduceCtorEq, Int.reduceLE, Int.reduceLT, Int.reduceNeg, Int.reduceEq, Int.reduceToNat, Int.reduceAdd, Int.reduceSub, Nat.reduceLeDiff, reduceIte,  List.flatten_cons, List.flatten_nil, List.length_map, List.map_cons, List.map_nil, List.length_cons, List.length_nil, List.replicate_succ, List.replicate_zero, List.cons_append, List.nil_append, List.append_nil, List.set_cons_zero, List.set_cons_succ, Bool.not_true, Bool.not_false, if_true, if_false, ite_true, ite_false, Bool.false_eq_true, decide_true, decide_false, Bool.or_true, Bool.true_or, Bool.or_false, Bool.false_or, Bool.and_true, Bool.true_and, Bool.and_false, Bool.false_and, decide_eq_true_eq, Nat.reduceAdd, Nat.reduceSub, Nat.zero_add, Function.comp_apply, actD, bl_of h1 h2, q]
      · have g2 : decide ((x.length : Int) ≤ 8) = false := decide_eq_false (by omega)
        simp only [b__law_is_action, qOpt, qRet, bnd_ok, bnd_exc, bnd_err, flow_nx, flow_rt, flow_bk, flow_ct, flow_exc, end_nx, end_rt, end_exc, e_var, g_0, g_s, e_cst, e_bin, e_neg, e_not, e_cmp, e_chain, e_and, e_or, e_ite, e_tup, e_lst, e_lstM, e_lstS, e_dct, e_idx, e_slc, e_rev, e_isi, e_fz, e_repM, e_addM, fz_lst, fz_tup, fz_dct, m_dget, e_blt, e_call, e_mth, m_tindex, m_tcount, e_lc, l_nil, l_cons, l_star, t_nil, t_cons, o_no, o_so, i_seq, i_rng1, i_rng2, i_zip, i_enum, i_enumT, k_enumT, k_neg, k_int, k_seqT, k_seqL, k_seqF, k_starT, k_starL, k_zipT, k_zipL, k_zipM, k_zipM2, k_enum, k_rng, k_rng2, tr_bl, tr_int, tr_tup, tr_lst, s_nil, s_cons, x_expr, x_set, x_setT, x_par, x_setI, x_aug, x_cond, x_loop, x_while, x_ret, x_retN, x_pass, x_brk, x_mat, mk_nil, mk_cons, x_cont, x_run, b_lenT, b_lenL, b_lenF, b_tupT, b_tupL, b_lstT, b_lstL, b_allL, b_anyL, b_sumL, b_sumT, b_abs, b_max, b_min, b_intI, b_intB, q_ii, q_ss, mapR_some, andR_ite, orR_ite, unpK, parK, augK, setIK, setTg, setAll, wipe, blt, blt0, seqOf, lstOf, cop, bop, intOp, isiD, tyOf, atP, place, Option.map_some, Option.map_none, Option.bind_some, Option.bind_none, eq_self, reduceCtorEq, Int.reduceLE, Int.reduceLT, Int.reduceNeg, Int.reduceEq, Int.reduceToNat, Int.reduceAdd, Int.reduceSub, Nat.reduceLeDiff, reduceIte,  List.flatten_cons, List.flatten_nil, List.length_map, List.map_cons, List.map_nil, List.length_cons, List.length_nil, List.replicate_succ, List.replicate_zero, List.cons_append, List.nil_append, List.append_nil, List.set_cons_zero, List.set_cons_succ, Bool.not_true, Bool.not_false, if_true, if_false, ite_true, ite_false, Bool.false_eq_true, decide_true, decide_false, Bool.or_true, Bool.true_or, Bool.or_false, Bool.false_or, Bool.and_true, Bool.true_and, Bool.and_false, Bool.false_and, decide_eq_true_eq, Nat.reduceAdd, Nat.reduceSub, Nat.zero_add, Function.comp_apply, lenF, hl, g1, g2, actD, bl_no (fun z => h2 z.2)]
    · have g1 : decide ((1 : Int) ≤ x.length) = false := decide_eq_false (by omega)
      simp only [b__law_is_action, qOpt, qRet, bnd_ok, bnd_exc, bnd_err, flow_nx, flow_rt, flow_bk, flow_ct, flow_exc, end_nx, end_rt, end_exc, e_var, g_0, g_s, e_cst, e_bin, e_neg, e_not, e_cmp, e_chain, e_and, e_or, e_ite, e_tup, e_lst, e_lstM, e_lstS, e_dct, e_idx, e_slc, e_rev, e_isi, e_fz, e_repM, e_addM, fz_lst, fz_tup, fz_dct, m_dget, e_blt, e_call, e_mth, m_tindex, m_tcount, e_lc, l_nil, l_cons, l_star, t_nil, t_cons, o_no, o_so, i_seq, i_rng1, i_rng2, i_zip, i_enum, i_enumT, k_enumT, k_neg, k_int, k_seqT, k_seqL, k_seqF, k_starT, k_starL, k_zipT, k_zipL, k_zipM, k_zipM2, k_enum, k_rng, k_rng2, tr_bl, tr_int, tr_tup, tr_lst, s_nil, s_cons, x_expr, x_set, x_setT, x_par, x_setI, x_aug, x_cond, x_loop, x_while, x_ret, x_retN, x_pass, x_brk, x_mat, mk_nil, mk_cons, x_cont, x_run, b_lenT, b_lenL, b_lenF, b_tupT, b_tupL, b_lstT, b_lstL, b_allL, b_anyL, b_sumL, b_sumT, b_abs, b_max, b_min, b_intI, b_intB, q_ii, q_ss, mapR_some, andR_ite, orR_ite, unpK, parK, augK, setIK, setTg, setAll, wipe, blt, blt0, seqOf, lstOf, cop, bop, intOp, isiD, tyOf, atP, place, Option.map_some, Option.map_none, Option.bind_some, Option.bind_none, eq_self, reduceCtorEq, Int.reduceLE, Int.reduceLT, Int.reduceNeg, Int.reduceEq, Int.reduceToNat, Int.reduceAdd, Int.reduceSub, Nat.reduceLeDiff, reduceIte,  List.flatten_cons, List.flatten_nil, List.length_map, List.map_cons, List.map_nil, List.length_cons, List.length_nil, List.replicate_succ, List.replicate_zero, List.cons_append, List.nil_append, List.append_nil, List.set_cons_zero, List.set_cons_succ, Bool.not_true, Bool.not_false, if_true, if_false, ite_true, ite_false, Bool.false_eq_true, decide_true, decide_false, Bool.or_true, Bool.true_or, Bool.or_false, Bool.false_or, Bool.and_true, Bool.true_and, Bool.and_false, Bool.false_and, decide_eq_true_eq, Nat.reduceAdd, Nat.reduceSub, Nat.zero_add, Function.comp_apply, lenF, hl, g1, actD, bl_no (fun z => h1 z.1)]
  | _ => simp only [b__law_is_action, qOpt, qRet, bnd_ok, bnd_exc, bnd_err, flow_nx, flow_rt, flow_bk, flow_ct, flow_exc, end_nx, end_rt, end_exc, e_var, g_0, g_s, e_cst, e_bin, e_neg, e_not, e_cmp, e_chain, e_and, e_or, e_ite, e_tup, e_lst, e_lstM, e_lstS, e_dct, e_idx, e_slc, e_rev, e_isi, e_fz, e_repM, e_addM, fz_lst, fz_tup, fz_dct, m_dget, e_blt, e_call, e_mth, m_tindex, m_tcount, e_lc, l_nil, l_cons, l_star, t_nil, t_cons, o_no, o_so, i_seq, i_rng1, i_rng2, i_zip, i_enum, i_enumT, k_enumT, k_neg, k_int, k_seqT, k_seqL, k_seqF, k_starT, k_starL, k_zipT, k_zipL, k_zipM, k_zipM2, k_enum, k_rng, k_rng2, tr_bl, tr_int, tr_tup, tr_lst, s_nil, s_cons, x_expr, x_set, x_setT, x_par, x_setI, x_aug, x_cond, x_loop, x_while, x_ret, x_retN, x_pass, x_brk, x_mat, mk_nil, mk_cons, x_cont, x_run, b_lenT, b_lenL, b_lenF, b_tupT, b_tupL, b_lstT, b_lstL, b_allL, b_anyL, b_sumL, b_sumT, b_abs, b_max, b_min, b_intI, b_intB, q_ii, q_ss, mapR_some, andR_ite, orR_ite, unpK, parK, augK, setIK, setTg, setAll, wipe, blt, blt0, seqOf, lstOf, cop, bop, intOp, isiD, tyOf, atP, place, Option.map_some, Option.map_none, Option.bind_some, Option.bind_none, eq_self, reduceCtorEq, Int.reduceLE, Int.reduceLT, Int.reduceNeg, Int.reduceEq, Int.reduceToNat, Int.reduceAdd, Int.reduceSub, Nat.reduceLeDiff, reduceIte,  List.flatten_cons, List.flatten_nil, List.length_map, List.map_cons, List.map_nil, List.length_cons, List.length_nil, List.replicate_succ, List.replicate_zero, List.cons_append, List.nil_append, List.append_nil, List.set_cons_zero, List.set_cons_succ, Bool.not_true, Bool.not_false, if_true, if_false, ite_true, ite_false, Bool.false_eq_true, decide_true, decide_false, Bool.or_true, Bool.true_or, Bool.or_false, Bool.false_or, Bool.and_true, Bool.true_and, Bool.and_false, Bool.false_and, decide_eq_true_eq, Nat.reduceAdd, Nat.reduceSub, Nat.zero_add, Function.comp_apply, actD]
end
end K01

set_option linter.all false
set_option maxRecDepth 10000
namespace K01
open Ln
open PySem (PyData Str)
theorem drop1 {α : Type} (xs : List α) : cut xs (some 1) none = xs.drop 1 := by
  unfold cut bnd
  simp only [show ¬ ((1 : Int) < 0) by decide, if_false, show (1 : Int).toNat = 1 from rfl]
  cases xs with
  | nil => rfl
  | cons x xs =>
    rw [show min 1 (x :: xs).length = 1 by simp]
    simp
def ascP (l : List Str) : Bool := (l.zip (l.drop 1)).all fun p => decide (p.1.cps.toList < p.2.cps.toList)
def ascF (xs : List D) : Bool := match strsD xs with
  | some ys => ascP ys
  | none => false
def alphF : D → Bool
  | .tup xs => decide (1 ≤ xs.length) && decide (xs.length ≤ 5) && xs.all actD && ascF xs
  | _ => false
theorem strs_act : ∀ {xs : List D}, xs.all actD = true → ∃ ys : List Str, xs = ys.map .str ∧ strsD xs = some ys
  | [], _ => ⟨[], rfl, rfl⟩
  | x :: xs, h => by
    rw [List.all_cons, Bool.and_eq_true] at h
    obtain ⟨ys, e1, e2⟩ := strs_act h.2
    cases x with
    | str z => exact ⟨z :: ys, by rw [e1]; rfl, by simp only [strsD, e2, Option.map_some]⟩
    | _ => exact absurd h.1 Bool.false_ne_true
theorem pairs_strs : ∀ (xs ys : List Str), pairs (xs.map .str) (ys.map .str) = (xs.zip ys).map fun p => D.wtp [.str p.1, .str p.2]
  | [], _ => rfl
  | _ :: _, [] => rfl
  | x :: xs, y :: ys => by simp only [List.map_cons, List.zip_cons_cons, pairs, pairs_strs xs ys]
section
variable {w k : Nat} {S : Store}
theorem s_is_alphabet {d : D} (h : Vv d) : callI prog w (k + 2) 1 [d] S = .ok (.bl (alphF d)) S := by
  rw [u_is_alphabet]
  cases h with
  | tup hx hl =>
    rename_i xs
    by_cases h1 : 1 ≤ xs.length
    · have g1 : decide ((1 : Int) ≤ xs.length) = true := decide_eq_true (by omega)
      by_cases h2 : xs.length ≤ 5
      · have g2 : decide ((xs.length : Int) ≤ 5) = true := decide_eq_true (by omega)
        simp only [b_is_alphabet, qOpt, qRet, bnd_ok, bnd_exc, bnd_err, flow_nx, flow_rt, flow_bk, flow_ct, flow_exc, end_nx, end_rt, end_exc, e_var, g_0, g_s, e_cst, e_bin, e_neg, e_not, e_cmp, e_chain, e_and, e_or, e_ite, e_tup, e_lst, e_lstM, e_lstS, e_dct, e_idx, e_slc, e_rev, e_isi, e_fz, e_repM, e_addM, fz_lst, fz_tup, fz_dct, m_dget, e_blt, e_call, e_mth, m_tindex, m_tcount, e_lc, l_nil, l_cons, l_star, t_nil, t_cons, o_no, o_so, i_seq, i_rng1, i_rng2, i_zip, i_enum, i_enumT, k_enumT, k_neg, k_int, k_seqT, k_seqL, k_seqF, k_starT, k_starL, k_zipT, k_zipL, k_zipM, k_zipM2, k_enum, k_rng, k_rng2, tr_bl, tr_int, tr_tup, tr_lst, s_nil, s_cons, x_expr, x_set, x_setT, x_par, x_setI, x_aug, x_cond, x_loop, x_while, x_ret, x_retN, x_pass, x_brk, x_mat, mk_nil, mk_cons, x_cont, x_run, b_lenT, b_lenL, b_lenF, b_tupT, b_tupL, b_lstT, b_lstL, b_allL, b_anyL, b_sumL, b_sumT, b_abs, b_max, b_min, b_intI, b_intB, q_ii, q_ss, mapR_some, andR_ite, orR_ite, unpK, parK, augK, setIK, setTg, setAll, wipe, blt, blt0, seqOf, lstOf, cop, bop, intOp, isiD, tyOf, atP, place, Option.map_some, Option.map_none, Option.bind_some, Option.bind_none, eq_self, reduceCtorEq, Int.reduceLE, Int.reduceLT, Int.reduceNeg, Int.reduceEq, Int.reduceToNat, Int.reduceAdd, Int.reduceSub, Nat.reduceLeDiff, reduceIte,  List.flatten_cons, List.flatten_nil, List.length_map, List.map_cons, List.map_nil, List.length_cons, List.length_nil, List.replicate_succ, List.replicate_zero, List.cons_append, List.nil_append, List.append_nil, List.set_cons_zero, List.set_cons_succ, Bool.not_true, Bool.not_false, if_true, if_false, ite_true, ite_false, Bool.false_eq_true, decide_true, decide_false, Bool.or_true, Bool.true_or, Bool.or_false, Bool.false_or, Bool.and_true, Bool.true_and, Bool.and_false, Bool.false_and, decide_eq_true_eq, Nat.reduceAdd, Nat.reduceSub, Nat.zero_add, Function.comp_apply, lenF, g1, g2]
        rw [lcM_id (fun d => D.bl (actD d)) xs fun d hd => ⟨_, rfl, by simp only [qOpt, qRet, bnd_ok, bnd_exc, bnd_err, flow_nx, flow_rt, flow_bk, flow_ct, flow_exc, end_nx, end_rt, end_exc, e_var, g_0, g_s, e_cst, e_bin, e_neg, e_not, e_cmp, e_chain, e_and, e_or, e_ite, e_tup, e_lst, e_lstM, e_lstS, e_dct, e_idx, e_slc, e_rev, e_isi, e_fz, e_repM, e_addM, fz_lst, fz_tup, fz_dct, m_dget, e_blt, e_call, e_mth, m_tindex, m_tcount, e_lc, l_nil, l_cons, l_star, t_nil, t_cons, o_no, o_so, i_seq, i_rng1, i_rng2, i_zip, i_enum, i_enumT, k_enumT, k_neg, k_int, k_seqT, k_seqL, k_seqF, k_starT, k_starL, k_zipT, k_zipL, k_zipM, k_zipM2, k_enum, k_rng, k_rng2, tr_bl, tr_int, tr_tup, tr_lst, s_nil, s_cons, x_expr, x_set, x_setT, x_par, x_setI, x_aug, x_cond, x_loop, x_while, x_ret, x_retN, x_pass, x_brk, x_mat, mk_nil, mk_cons, x_cont, x_run, b_lenT, b_lenL, b_lenF, b_tupT, b_tupL, b_lstT, b_lstL, b_allL, b_anyL, b_sumL, b_sumT, b_abs, b_max, b_min, b_intI, b_intB, q_ii, q_ss, mapR_some, andR_ite, orR_ite, unpK, parK, augK, setIK, setTg, setAll, wipe, blt, blt0, seqOf, lstOf, cop, bop, intOp, isiD, tyOf, atP, place, Option.map_some, Option.map_none, Option.bind_some, Option.bind_none, eq_self, reduceCtorEq, Int.reduceLE, Int.reduceLT, Int.reduceNeg, Int.reduceEq, Int.reduceToNat, Int.reduceAdd, Int.reduceSub, Nat.reduceLeDiff, reduceIte,  List.flatten_cons, List.flatten_nil, List.length_map, List.map_cons, List.map_nil, List.length_cons, List.length_nil, List.replicate_succ, List.replicate_zero, List.cons_append, List.nil_append, List.append_nil, List.set_cons_zero, List.set_cons_succ, Bool.not_true, Bool.not_false, if_true, if_false, ite_true, ite_false, Bool.false_eq_true, decide_true, decide_false, Bool.or_true, Bool.true_or, Bool.or_false, Bool.false_or, Bool.and_true, Bool.true_and, Bool.and_false, Bool.false_and, decide_eq_true_eq, Nat.reduceAdd, Nat.reduceSub, Nat.zero_add, Function.comp_apply, s_is_action (hx d hd)]⟩]
        by_cases ha : xs.all actD = true
        · obtain ⟨ys, e1, e2⟩ := strs_act ha
          have b1 : boolsD (xs.map fun d => D.bl (actD d)) = some (xs.map actD) := bools_fun actD xs
          have b2 : (xs.map actD).all id = true := by rw [List.all_map]; exact ha
          simp only [qOpt, qRet, bnd_ok, bnd_exc, bnd_err, flow_nx, flow_rt, flow_bk, flow_ct, flow_exc, end_nx, end_rt, end_exc, e_var, g_0, g_s, e_cst, e_bin, e_neg, e_not, e_cmp, e_chain, e_and, e_or, e_ite, e_tup, e_lst, e_lstM, e_lstS, e_dct, e_idx, e_slc, e_rev, e_isi, e_fz, e_repM, e_addM, fz_lst, fz_tup, fz_dct, m_dget, e_blt, e_call, e_mth, m_tindex, m_tcount, e_lc, l_nil, l_cons, l_star, t_nil, t_cons, o_no, o_so, i_seq, i_rng1, i_rng2, i_zip, i_enum, i_enumT, k_enumT, k_neg, k_int, k_seqT, k_seqL, k_seqF, k_starT, k_starL, k_zipT, k_zipL, k_zipM, k_zipM2, k_enum, k_rng, k_rng2, tr_bl, tr_int, tr_tup, tr_lst, s_nil, s_cons, x_expr, x_set, x_setT, x_par, x_setI, x_aug, x_cond, x_loop, x_while, x_ret, x_retN, x_pass, x_brk, x_mat, mk_nil, mk_cons, x_cont, x_run, b_lenT, b_lenL, b_lenF, b_tupT, b_tupL, b_lstT, b_lstL, b_allL, b_anyL, b_sumL, b_sumT, b_abs, b_max, b_min, b_intI, b_intB, q_ii, q_ss, mapR_some, andR_ite, orR_ite, unpK, parK, augK, setIK, setTg, setAll, wipe, blt, blt0, seqOf, lstOf, cop, bop, intOp, isiD, tyOf, atP, place, Option.map_some, Option.map_none, Option.bind_some, Option.bind_none, eq_self, reduceCtorEq, Int.reduceLE, Int.reduceLT, Int.reduceNeg, Int.reduceEq, Int.reduceToNat, Int.reduceAdd, Int.reduceSub, Nat.reduceLeDiff, reduceIte,  List.flatten_cons, List.flatten_nil, List.length_map, List.map_cons, List.map_nil, List.length_cons, List.length_nil, List.replicate_succ, List.replicate_zero, List.cons_append, List.nil_append, List.append_nil, List.set_cons_zero, List.set_cons_succ, Bool.not_true, Bool.not_false, if_true, if_false, ite_true, ite_false, Bool.false_eq_true, decide_true, decide_false, Bool.or_true, Bool.true_or, Bool.or_false, Bool.false_or, Bool.and_true, Bool.true_and, Bool.and_false, Bool.false_and, decide_eq_true_eq, Nat.reduceAdd, Nat.reduceSub, Nat.zero_add, Function.comp_apply, b1, b2, slcD, drop1]
          rw [e1, ← List.map_drop, pairs_strs]
          rw [lcM_map (fun p : Str × Str => D.wtp [.str p.1, .str p.2]) (fun p => D.bl (decide (p.1.cps.toList < p.2.cps.toList))) (ys.zip (ys.drop 1)) fun p hp => ⟨_, rfl, by simp only [qOpt, qRet, bnd_ok, bnd_exc, bnd_err, flow_nx, flow_rt, flow_bk, flow_ct, flow_exc, end_nx, end_rt, end_exc, e_var, g_0, g_s, e_cst, e_bin, e_neg, e_not, e_cmp, e_chain, e_and, e_or, e_ite, e_tup, e_lst, e_lstM, e_lstS, e_dct, e_idx, e_slc, e_rev, e_isi, e_fz, e_repM, e_addM, fz_lst, fz_tup, fz_dct, m_dget, e_blt, e_call, e_mth, m_tindex, m_tcount, e_lc, l_nil, l_cons, l_star, t_nil, t_cons, o_no, o_so, i_seq, i_rng1, i_rng2, i_zip, i_enum, i_enumT, k_enumT, k_neg, k_int, k_seqT, k_seqL, k_seqF, k_starT, k_starL, k_zipT, k_zipL, k_zipM, k_zipM2, k_enum, k_rng, k_rng2, tr_bl, tr_int, tr_tup, tr_lst, s_nil, s_cons, x_expr, x_set, x_setT, x_par, x_setI, x_aug, x_cond, x_loop, x_while, x_ret, x_retN, x_pass, x_brk, x_mat, mk_nil, mk_cons, x_cont, x_run, b_lenT, b_lenL, b_lenF, b_tupT, b_tupL, b_lstT, b_lstL, b_allL, b_anyL, b_sumL, b_sumT, b_abs, b_max, b_min, b_intI, b_intB, q_ii, q_ss, mapR_some, andR_ite, orR_ite, unpK, parK, augK, setIK, setTg, setAll, wipe, blt, blt0, seqOf, lstOf, cop, bop, intOp, isiD, tyOf, atP, place, Option.map_some, Option.map_none, Option.bind_some, Option.bind_none, eq_self, reduceCtorEq, Int.reduceLE, Int.reduceLT, Int.reduceNeg, Int.reduceEq, Int.reduceToNat, Int.reduceAdd, Int.reduceSub, Nat.reduceLeDiff, reduceIte,  List.flatten_cons, List.flatten_nil, List.length_map, List.map_cons, List.map_nil, List.length_cons, List.length_nil, List.replicate_succ, List.replicate_zero, List.cons_append, List.nil_append, List.append_nil, List.set_cons_zero, List.set_cons_succ, Bool.not_true, Bool.not_false, if_true, if_false, ite_true, ite_false, Bool.false_eq_true, decide_true, decide_false, Bool.or_true, Bool.true_or, Bool.or_false, Bool.false_or, Bool.and_true, Bool.true_and, Bool.and_false, Bool.false_and, decide_eq_true_eq, Nat.reduceAdd, Nat.reduceSub, Nat.zero_add, Function.comp_apply]⟩]
          have b3 : ∀ l : List (Str × Str), boolsD (l.map fun p => D.bl (decide (p.1.cps.toList < p.2.cps.toList))) = some (l.map fun p => decide (p.1.cps.toList < p.2.cps.toList)) := fun l => bools_fun (fun p : Str × Str => decide (p.1.cps.toList < p.2.cps.toList)) l
          simp only [qOpt, qRet, bnd_ok, bnd_exc, bnd_err, flow_nx, flow_rt, flow_bk, flow_ct, flow_exc, end_nx, end_rt, end_exc, e_var, g_0, g_s, e_cst, e_bin, e_neg, e_not, e_cmp, e_chain, e_and, e_or, e_ite, e_tup, e_lst, e_lstM, e_lstS, e_dct, e_idx, e_slc, e_rev, e_isi, e_fz, e_repM, e_addM, fz_lst, fz_tup, fz_dct, m_dget, e_blt, e_call, e_mth, m_tindex, m_tcount, e_lc, l_nil, l_cons, l_star, t_nil, t_cons, o_no, o_so, i_seq, i_rng1, i_rng2, i_zip, i_enum, i_enumT, k_enumT, k_neg, k_int, k_seqT, k_seqL, k_seqF, k_starT, k_starL, k_zipT, k_zipL, k_zipM, k_zipM2, k_enum, k_rng, k_rng2, tr_bl, tr_int, tr_tup, tr_lst, s_nil, s_cons, x_expr, x_set, x_setT, x_par, x_setI, x_aug, x_cond, x_loop, x_while, x_ret, x_retN, x_pass, x_brk, x_mat, mk_nil, mk_cons, x_cont, x_run, b_lenT, b_lenL, b_lenF, b_tupT, b_tupL, b_lstT, b_lstL, b_allL, b_anyL, b_sumL, b_sumT, b_abs, b_max, b_min, b_intI, b_intB, q_ii, q_ss, mapR_some, andR_ite, orR_ite, unpK, parK, augK, setIK, setTg, setAll, wipe, blt, blt0, seqOf, lstOf, cop, bop, intOp, isiD, tyOf, atP, place, Option.map_some, Option.map_none, Option.bind_some, Option.bind_none, eq_self, reduceCtorEq, Int.reduceLE, Int.reduceLT, Int.reduceNeg, Int.reduceEq, Int.reduceToNat, Int.reduceAdd, Int.reduceSub, Nat.reduceLeDiff, reduceIte,  List.flatten_cons, List.flatten_nil, List.length_map, List.map_cons, List.map_nil, List.length_cons, List.length_nil, List.replicate_succ, List.replicate_zero, List.cons_append, List.nil_append, List.append_nil, List.set_cons_zero, List.set_cons_succ, Bool.not_true, Bool.not_false, if_true, if_false, ite_true, ite_false, Bool.false_eq_true, decide_true, decide_false, Bool.or_true, Bool.true_or, Bool.or_false, Bool.false_or, Bool.and_true, Bool.true_and, Bool.and_false, Bool.false_and, decide_eq_true_eq, Nat.reduceAdd, Nat.reduceSub, Nat.zero_add, Function.comp_apply, b3]
          rw [← e1]
          simp only [alphF, decide_eq_true h1, decide_eq_true h2, ha, ascF, e2, ascP, List.all_map, Bool.true_and]
          rfl
        · have b1 : boolsD (xs.map fun d => D.bl (actD d)) = some (xs.map actD) := bools_fun actD xs
          have b2 : (xs.map actD).all id = false := by rw [List.all_map]; exact eq_false_of_ne_true ha
          have b4 : xs.all actD = false := eq_false_of_ne_true ha
          simp only [qOpt, qRet, bnd_ok, bnd_exc, bnd_err, flow_nx, flow_rt, flow_bk, flow_ct, flow_exc, end_nx, end_rt, end_exc, e_var, g_0, g_s, e_cst, e_bin, e_neg, e_not, e_cmp, e_chain, e_and, e_or, e_ite, e_tup, e_lst, e_lstM, e_lstS, e_dct, e_idx, e_slc, e_rev, e_isi, e_fz, e_repM, e_addM, fz_lst, fz_tup, fz_dct, m_dget, e_blt, e_call, e_mth, m_tindex, m_tcount, e_lc, l_nil, l_cons, l_star, t_nil, t_cons, o_no, o_so, i_seq, i_rng1, i_rng2, i_zip, i_enum, i_enumT, k_enumT, k_neg, k_int, k_seqT, k_seqL, k_seqF, k_starT, k_starL, k_zipT, k_zipL, k_zipM, k_zipM2, k_enum, k_rng, k_rng2, tr_bl, tr_int, tr_tup, tr_lst, s_nil, s_cons, x_expr, x_set, x_setT, x_par, x_setI, x_aug, x_cond, x_loop, x_while, x_ret, x_retN, x_pass, x_brk, x_mat, mk_nil, mk_cons, x_cont, x_run, b_lenT, b_lenL, b_lenF, b_tupT, b_tupL, b_lstT, b_lstL, b_allL, b_anyL, b_sumL, b_sumT, b_abs, b_max, b_min, b_intI, b_intB, q_ii, q_ss, mapR_some, andR_ite, orR_ite, unpK, parK, augK, setIK, setTg, setAll, wipe, blt, blt0, seqOf, lstOf, cop, bop, intOp, isiD, tyOf, atP, place, Option.map_some, Option.map_none, Option.bind_some, Option.bind_none, eq_self, reduceCtorEq, Int.reduceLE, Int.reduceLT, Int.reduceNeg, Int.reduceEq, Int.reduceToNat, Int.reduceAdd, Int.reduceSub, Nat.reduceLeDiff, reduceIte,  List.flatten_cons, List.flatten_nil, List.length_map, List.map_cons, List.map_nil, List.length_cons, List.length_nil, List.replicate_succ, List.replicate_zero, List.cons_append, List.nil_append, List.append_nil, List.set_cons_zero, List.set_cons_succ, Bool.not_true, Bool.not_false, if_true, if_false, ite_true, ite_false, Bool.false_eq_true, decide_true, decide_false, Bool.or_true, Bool.true_or, Bool.or_false, Bool.false_or, Bool.and_true, Bool.true_and, Bool.and_false, Bool.false_and, decide_eq_true_eq, Nat.reduceAdd, Nat.reduceSub, Nat.zero_add, Function.comp_apply, b1, b2, alphF, b4]
      · have g2 : decide ((xs.length : Int) ≤ 5) = false := decide_eq_false (by omega)
        simp only [b_is_alphabet, qOpt, qRet, bnd_ok, bnd_exc, bnd_err, flow_nx, flow_rt, flow_bk, flow_ct, flow_exc, end_nx, end_rt, end_exc, e_var, g_0, g_s, e_cst, e_bin, e_neg, e_not, e_cmp, e_chain, e_and, e_or, e_ite, e_tup, e_lst, e_lstM, e_lstS, e_dct, e_idx, e_slc, e_rev, e_isi, e_fz, e_repM, e_addM, fz_lst, fz_tup, fz_dct, m_dget, e_blt, e_call, e_mth, m_tindex, m_tcount, e_lc, l_nil, l_cons, l_star, t_nil, t_cons, o_no, o_so, i_seq, i_rng1, i_rng2, i_zip, i_enum, i_enumT, k_enumT, k_neg, k_int, k_seqT, k_seqL, k_seqF, k_starT, k_starL, k_zipT, k_zipL, k_zipM, k_zipM2, k_enum, k_rng, k_rng2, tr_bl, tr_int, tr_tup, tr_lst, s_nil, s_cons, x_expr, x_set, x_setT, x_par, x_setI, x_aug, x_cond, x_loop, x_while, x_ret, x_retN, x_pass, x_brk, x_mat, mk_nil, mk_cons, x_cont, x_run, b_lenT, b_lenL, b_lenF, b_tupT, b_tupL, b_lstT, b_lstL, b_allL, b_anyL, b_sumL, b_sumT, b_abs, b_max, b_min, b_intI, b_intB, q_ii, q_ss, mapR_some, andR_ite, orR_ite, unpK, parK, augK, setIK, setTg, setAll, wipe, blt, blt0, seqOf, lstOf, cop, bop, intOp, isiD, tyOf, atP, place, Option.map_some, Option.map_none, Option.bind_some, Option.bind_none, eq_self, reduceCtorEq, Int.reduceLE, Int.reduceLT, Int.reduceNeg, Int.reduceEq, Int.reduceToNat, Int.reduceAdd, Int.reduceSub, Nat.reduceLeDiff, reduceIte,  List.flatten_cons, List.flatten_nil, List.length_map, List.map_cons, List.map_nil, List.length_cons, List.length_nil, List.replicate_succ, List.replicate_zero, List.cons_append, List.nil_append, List.append_nil, List.set_cons_zero, List.set_cons_succ, Bool.not_true, Bool.not_false, if_true, if_false, ite_true, ite_false, Bool.false_eq_true, decide_true, decide_false, Bool.or_true, Bool.true_or, Bool.or_false, Bool.false_or, Bool.and_true, Bool.true_and, Bool.and_false, Bool.false_and, decide_eq_true_eq, Nat.reduceAdd, Nat.reduceSub, Nat.zero_add, Function.comp_apply, lenF, g1, g2, alphF, decide_eq_false h2]
    · have g1 : decide ((1 : Int) ≤ xs.length) = false := decide_eq_false (by omega)
      simp only [b_is_alphabet, qOpt, qRet, bnd_ok, bnd_exc, bnd_err, flow_nx, flow_rt, flow_bk, flow_ct, flow_exc, end_nx, end_rt, end_exc, e_var, g_0, g_s, e_cst, e_bin, e_neg, e_not, e_cmp, e_chain, e_and, e_or, e_ite, e_tup, e_lst, e_lstM, e_lstS, e_dct, e_idx, e_slc, e_rev, e_isi, e_fz, e_repM, e_addM, fz_lst, fz_tup, fz_dct, m_dget, e_blt, e_call, e_mth, m_tindex, m_tcount, e_lc, l_nil, l_cons, l_star, t_nil, t_cons, o_no, o_so, i_seq, i_rng1, i_rng2, i_zip, i_enum, i_enumT, k_enumT, k_neg, k_int, k_seqT, k_seqL, k_seqF, k_starT, k_starL, k_zipT, k_zipL, k_zipM, k_zipM2, k_enum, k_rng, k_rng2, tr_bl, tr_int, tr_tup, tr_lst, s_nil, s_cons, x_expr, x_set, x_setT, x_par, x_setI, x_aug, x_cond, x_loop, x_while, x_ret, x_retN, x_pass, x_brk, x_mat, mk_nil, mk_cons, x_cont, x_run, b_lenT, b_lenL, b_lenF, b_tupT, b_tupL, b_lstT, b_lstL, b_allL, b_anyL, b_sumL, b_sumT, b_abs, b_max, b_min, b_intI, b_intB, q_ii, q_ss, mapR_some, andR_ite, orR_ite, unpK, parK, augK, setIK, setTg, setAll, wipe, blt, blt0, seqOf, lstOf, cop, bop, intOp, isiD, tyOf, atP, place, Option.map_some, Option.map_none, Option.bind_some, Option.bind_none, eq_self, reduceCtorEq, Int.reduceLE, Int.reduceLT, Int.reduceNeg, Int.reduceEq, Int.reduceToNat, Int.reduceAdd, Int.reduceSub, Nat.reduceLeDiff, reduceIte,  List.flatten_cons, List.flatten_nil, List.length_map, List.map_cons, List.map_nil, List.length_cons, List.length_nil, List.replicate_succ, List.replicate_zero, List.cons_append, List.nil_append, List.append_nil, List.set_cons_zero, List.set_cons_succ, Bool.not_true, Bool.not_false, if_true, if_false, ite_true, ite_false, Bool.false_eq_true, decide_true, decide_false, Bool.or_true, Bool.true_or, Bool.or_false, Bool.false_or, Bool.and_true, Bool.true_and, Bool.and_false, Bool.false_and, decide_eq_true_eq, Nat.reduceAdd, Nat.reduceSub, Nat.zero_add, Function.comp_apply, lenF, g1, alphF, decide_eq_false h1]
  | _ => simp only [b_is_alphabet, qOpt, qRet, bnd_ok, bnd_exc, bnd_err, flow_nx, flow_rt, flow_bk, flow_ct, flow_exc, end_nx, end_rt, end_exc, e_var, g_0, g_s, e_cst, e_bin, e_neg, e_not, e_cmp, e_chain, e_and, e_or, e_ite, e_tup, e_lst, e_lstM, e_lstS, e_dct, e_idx, e_slc, e_rev, e_isi, e_fz, e_repM, e_addM, fz_lst, fz_tup, fz_dct, m_dget, e_blt, e_call, e_mth, m_tindex, m_tcount, e_lc, l_nil, l_cons, l_star, t_nil, t_cons, o_no, o_so, i_seq, i_rng1, i_rng2, i_zip, i_enum, i_enumT, k_enumT, k_neg, k_int, k_seqT, k_seqL, k_seqF, k_starT, k_starL, k_zipT, k_zipL, k_zipM, k_zipM2, k_enum, k_rng, k_rng2, tr_bl, tr_int, tr_tup, tr_lst, s_nil, s_cons, x_expr, x_set, x_setT, x_par, x_setI, x_aug, x_cond, x_loop, x_while, x_ret, x_retN, x_pass, x_brk, x_mat, mk_nil, mk_cons, x_cont, x_run, b_lenT, b_lenL, b_lenF, b_tupT, b_tupL, b_lstT, b_lstL, b_allL, b_anyL, b_sumL, b_sumT, b_abs, b_max, b_min, b_intI, b_intB, q_ii, q_ss, mapR_some, andR_ite, orR_ite, unpK, parK, augK, setIK, setTg, setAll, wipe, blt, blt0, seqOf, lstOf, cop, bop, intOp, isiD, tyOf, atP, place, Option.map_some, Option.map_none, Option.bind_some, Option.bind_none, eq_self, reduceCtorEq, Int.reduceLE, Int.reduceLT, Int.reduceNeg, Int.reduceEq, Int.reduceToNat, Int.reduceAdd, Int.reduceSub, Nat.reduceLeDiff, reduceIte,  List.flatten_cons, List.flatten_nil, List.length_map, List.map_cons, List.map_nil, List.length_cons, List.length_nil, List.replicate_succ, List.replicate_zero, List.cons_append, List.nil_append, List.append_nil, List.set_cons_zero, List.set_cons_succ, Bool.not_true, Bool.not_false, if_true, if_false, ite_true, ite_false, Bool.false_eq_true, decide_true, decide_false, Bool.or_true, Bool.true_or, Bool.or_false, Bool.false_or, Bool.and_true, Bool.true_and, Bool.and_false, Bool.false_and, decide_eq_true_eq, Nat.reduceAdd, Nat.reduceSub, Nat.zero_add, Function.comp_apply, alphF]
end
end K01

set_option linter.all false
set_option maxRecDepth 10000
namespace K01
open Ln
open PySem (PyData Str)
theorem strs_toP {S : Store} : ∀ (k : Nat) (xs : List Str), (xs.map D.str).mapM (toP S k) = some (xs.map PyData.str)
  | k, [] => by simp
  | k, x :: xs => by
    have e : toP S k (.str x) = some (.str x) := by cases k <;> simp [toP]
    simp only [List.map_cons, List.mapM_cons, e, strs_toP k xs]; rfl
theorem strs_lay : ∀ xs : List Str, (∀ x ∈ xs, PyData.strOk x = true) → PyData.canLayAll0 (xs.map .str) = true ∧ PyData.depthAll (xs.map .str) ≤ 0
  | [], _ => by simp [PyData.canLayAll0, PyData.depthAll]
  | x :: xs, h => by
    obtain ⟨h1, h2⟩ := strs_lay xs fun y hy => h y (List.mem_cons_of_mem _ hy)
    have hx := h x List.mem_cons_self
    refine ⟨by simp [PyData.canLayAll0, PyData.canLay0, h1, hx], ?_⟩
    simp [PyData.depthAll, PyData.depth]; omega
theorem strs_eqv : ∀ xs ys : List Str, PyData.eqvAll (xs.map .str) (ys.map .str) = decide (xs = ys)
  | [], [] => by simp [PyData.eqvAll]
  | [], _ :: _ => by simp [PyData.eqvAll]
  | _ :: _, [] => by simp [PyData.eqvAll]
  | x :: xs, y :: ys => by
    have e : (x == y) = decide (x = y) := by by_cases z : x = y <;> simp [z]
    simp [PyData.eqvAll, PyData.eqv, strs_eqv xs ys, e]
theorem eq_strsL {S : Store} {xs ys : List Str} (hx : ∀ x ∈ xs, PyData.strOk x = true) (hy : ∀ x ∈ ys, PyData.strOk x = true) : eqD S (.lst (xs.map .str)) (.lst (ys.map .str)) = some (decide (xs = ys)) := by
  show eqP S _ _ = _
  have d : ∀ zs : List Str, dat S (.lst (zs.map .str)) = some (.list (zs.map .str)) := fun zs => by
    show toP S 24 (.lst _) = _
    simp only [toP, strs_toP, Option.map_some]
  have sh : ∀ zs : List Str, (∀ x ∈ zs, PyData.strOk x = true) → PySem.SeqAt.shaped (.list (zs.map .str)) = true := fun zs h => by
    obtain ⟨h1, h2⟩ := strs_lay zs h
    unfold PySem.SeqAt.shaped
    simp [PyData.canLay0, h1, PyData.depth]
    omega
  unfold eqP
  simp only [d, sh xs hx, sh ys hy, Bool.and_self, if_true]
  simp [PyData.eqv, strs_eqv]
theorem ltS_iff {a b : Str} : (a.cps.toList < b.cps.toList) ↔ (leS a b = true ∧ a ≠ b) := by
  unfold leS
  rw [decide_eq_true_eq]
  constructor
  · intro h
    refine ⟨List.le_of_lt h, fun e => ?_⟩
    rw [e] at h
    exact List.lt_irrefl _ h
  · rintro ⟨h, n⟩
    refine Decidable.byContradiction fun z => n ?_
    have h2 := List.le_antisymm h (List.not_lt.mp z)
    cases a; cases b
    simp only [Str.mk.injEq]
    exact Array.toList_inj.mp h2
theorem asc_pw : ∀ ys : List Str, ascP ys = true ↔ ys.Pairwise fun a b => a.cps.toList < b.cps.toList
  | [] => by simp [ascP]
  | [x] => by simp [ascP]
  | x :: y :: r => by
    have ih := asc_pw (y :: r)
    have e : ascP (x :: y :: r) = (decide (x.cps.toList < y.cps.toList) && ascP (y :: r)) := by simp [ascP]
    rw [e, Bool.and_eq_true, ih, decide_eq_true_eq]
    constructor
    · rintro ⟨h1, h2⟩
      refine List.pairwise_cons.mpr ⟨fun z hz => ?_, h2⟩
      rcases List.mem_cons.mp hz with rfl | hz
      · exact h1
      · exact List.lt_trans h1 ((List.pairwise_cons.mp h2).1 z hz)
    · intro h
      obtain ⟨h1, h2⟩ := List.pairwise_cons.mp h
      exact ⟨h1 y List.mem_cons_self, h2⟩
theorem dedup_id : ∀ ys : List Str, ys.Nodup → ys.eraseDups = ys
  | [], _ => by simp
  | x :: r, h => by
    obtain ⟨h1, h2⟩ := List.nodup_cons.mp h
    rw [List.eraseDups_cons]
    have e : r.filter (fun b => !b == x) = r := List.filter_eq_self.mpr fun b hb => by
      have : b ≠ x := fun z => h1 (z ▸ hb)
      simpa using this
    rw [e, dedup_id r h2]
theorem dedup_nd : ∀ (n : Nat) (l : List Str), l.length ≤ n → l.eraseDups.Nodup
  | _, [], _ => by simp
  | 0, _ :: _, h => absurd h (by simp)
  | n + 1, x :: r, h => by
    rw [List.eraseDups_cons]
    refine List.nodup_cons.mpr ⟨fun z => ?_, dedup_nd n _ (Nat.le_trans (List.length_filter_le _ _) (by simpa using h))⟩
    rw [List.mem_eraseDups, List.mem_filter] at z
    simp at z
theorem leS_tr (a b c : Str) (h1 : leS a b = true) (h2 : leS b c = true) : leS a c = true := by
  unfold leS at *
  rw [decide_eq_true_eq] at *
  exact List.le_trans h1 h2
theorem leS_tot (a b : Str) : (leS a b || leS b a) = true := by
  unfold leS
  rw [Bool.or_eq_true, decide_eq_true_eq, decide_eq_true_eq]
  exact List.le_total _ _
/-- ascending exactly if it is what a sorted set of it is -/
theorem asc_sset (ys : List Str) : ascP ys = decide (ys = ys.eraseDups.mergeSort leS) := by
  rw [Bool.eq_iff_iff, asc_pw, decide_eq_true_eq]
  constructor
  · intro h
    have nd : ys.Nodup := h.imp fun {a b} z => (ltS_iff.mp z).2
    rw [dedup_id ys nd, List.mergeSort_of_pairwise (h.imp fun {a b} z => (ltS_iff.mp z).1)]
  · intro h
    have pm := List.mergeSort_perm ys.eraseDups leS
    have nd : ys.Nodup := by rw [h]; exact pm.nodup_iff.mpr (dedup_nd _ ys (Nat.le_refl _))
    have so : ys.Pairwise fun a b => leS a b = true := by
      have := List.pairwise_mergeSort leS_tr leS_tot ys.eraseDups
      rw [← h] at this
      exact this
    exact (so.and nd).imp fun {a b} z => ltS_iff.mpr z
section
variable {w k : Nat} {S : Store}
theorem s_law_is_alphabet {d : D} (h : Vv d) : callI prog w (k + 2) 19 [d] S = .ok (.bl (alphF d)) S := by
  rw [u__law_is_alphabet]
  cases h with
  | tup hx hl =>
    rename_i xs
    by_cases h1 : 1 ≤ xs.length
    · have g1 : decide ((1 : Int) ≤ xs.length) = true := decide_eq_true (by omega)
      by_cases h2 : xs.length ≤ 5
      · have g2 : decide ((xs.length : Int) ≤ 5) = true := decide_eq_true (by omega)
        have lc := lcM_filter (cf := callI prog w (k + 1)) (ρ := [some (.tup xs), none]) (S := S) (elt := .cst (.int 1)) (c := .not (.call 18 (.cons (.var 1) .nil))) (tg := .nm 1) (own := [1]) id (fun _ => D.int 1) (fun d => !actD d) xs fun d hd => ⟨_, rfl, by simp only [qOpt, qRet, bnd_ok, bnd_exc, bnd_err, flow_nx, flow_rt, flow_bk, flow_ct, flow_exc, end_nx, end_rt, end_exc, e_var, g_0, g_s, e_cst, e_bin, e_neg, e_not, e_cmp, e_chain, e_and, e_or, e_ite, e_tup, e_lst, e_lstM, e_lstS, e_dct, e_idx, e_slc, e_rev, e_isi, e_fz, e_repM, e_addM, fz_lst, fz_tup, fz_dct, m_dget, e_blt, e_call, e_mth, m_tindex, m_tcount, e_lc, l_nil, l_cons, l_star, t_nil, t_cons, o_no, o_so, i_seq, i_rng1, i_rng2, i_zip, i_enum, i_enumT, k_enumT, k_neg, k_int, k_seqT, k_seqL, k_seqF, k_starT, k_starL, k_zipT, k_zipL, k_zipM, k_zipM2, k_enum, k_rng, k_rng2, tr_bl, tr_int, tr_tup, tr_lst, s_nil, s_cons, x_expr, x_set, x_setT, x_par, x_setI, x_aug, x_cond, x_loop, x_while, x_ret, x_retN, x_pass, x_brk, x_mat, mk_nil, mk_cons, x_cont, x_run, b_lenT, b_lenL, b_lenF, b_tupT, b_tupL, b_lstT, b_lstL, b_allL, b_anyL, b_sumL, b_sumT, b_abs, b_max, b_min, b_intI, b_intB, q_ii, q_ss, mapR_some, andR_ite, orR_ite, unpK, parK, augK, setIK, setTg, setAll, wipe, blt, blt0, seqOf, lstOf, cop, bop, intOp, isiD, tyOf, atP, place, Option.map_some, Option.map_none, Option.bind_some, Option.bind_none, eq_self, reduceCtorEq, Int.reduceLE, Int.reduceLT, Int.reduceNeg, Int.reduceEq, Int.reduceToNat, Int.reduceAdd, Int.reduceSub, Nat.reduceLeDiff, reduceIte,  List.flatten_cons, List.flatten_nil, List.length_map, List.map_cons, List.map_nil, List.length_cons, List.length_nil, List.replicate_succ, List.replicate_zero, List.cons_append, List.nil_append, List.append_nil, List.set_cons_zero, List.set_cons_succ, Bool.not_true, Bool.not_false, if_true, if_false, ite_true, ite_false, Bool.false_eq_true, decide_true, decide_false, Bool.or_true, Bool.true_or, Bool.or_false, Bool.false_or, Bool.and_true, Bool.true_and, Bool.and_false, Bool.false_and, decide_eq_true_eq, Nat.reduceAdd, Nat.reduceSub, Nat.zero_add, Function.comp_apply, id_eq, s_law_is_action (hx d hd)], fun _ => by simp only [qOpt, qRet, bnd_ok, bnd_exc, bnd_err, flow_nx, flow_rt, flow_bk, flow_ct, flow_exc, end_nx, end_rt, end_exc, e_var, g_0, g_s, e_cst, e_bin, e_neg, e_not, e_cmp, e_chain, e_and, e_or, e_ite, e_tup, e_lst, e_lstM, e_lstS, e_dct, e_idx, e_slc, e_rev, e_isi, e_fz, e_repM, e_addM, fz_lst, fz_tup, fz_dct, m_dget, e_blt, e_call, e_mth, m_tindex, m_tcount, e_lc, l_nil, l_cons, l_star, t_nil, t_cons, o_no, o_so, i_seq, i_rng1, i_rng2, i_zip, i_enum, i_enumT, k_enumT, k_neg, k_int, k_seqT, k_seqL, k_seqF, k_starT, k_starL, k_zipT, k_zipL, k_zipM, k_zipM2, k_enum, k_rng, k_rng2, tr_bl, tr_int, tr_tup, tr_lst, s_nil, s_cons, x_expr, x_set, x_setT, x_par, x_setI, x_aug, x_cond, x_loop, x_while, x_ret, x_retN, x_pass, x_brk, x_mat, mk_nil, mk_cons, x_cont, x_run, b_lenT, b_lenL, b_lenF, b_tupT, b_tupL, b_lstT, b_lstL, b_allL, b_anyL, b_sumL, b_sumT, b_abs, b_max, b_min, b_intI, b_intB, q_ii, q_ss, mapR_some, andR_ite, orR_ite, unpK, parK, augK, setIK, setTg, setAll, wipe, blt, blt0, seqOf, lstOf, cop, bop, intOp, isiD, tyOf, atP, place, Option.map_some, Option.map_none, Option.bind_some, Option.bind_none, eq_self, reduceCtorEq, Int.reduceLE, Int.reduceLT, Int.reduceNeg, Int.reduceEq, Int.reduceToNat, Int.reduceAdd, Int.reduceSub, Nat.reduceLeDiff, reduceIte,  List.flatten_cons, List.flatten_nil, List.length_map, List.map_cons, List.map_nil, List.length_cons, List.length_nil, List.replicate_succ, List.replicate_zero, List.cons_append, List.nil_append, List.append_nil, List.set_cons_zero, List.set_cons_succ, Bool.not_true, Bool.not_false, if_true, if_false, ite_true, ite_false, Bool.false_eq_true, decide_true, decide_false, Bool.or_true, Bool.true_or, Bool.or_false, Bool.false_or, Bool.and_true, Bool.true_and, Bool.and_false, Bool.false_and, decide_eq_true_eq, Nat.reduceAdd, Nat.reduceSub, Nat.zero_add, Function.comp_apply]⟩
        rw [List.map_id] at lc
        have q := ones_nil (S := S) (xs.filter fun d => !actD d)
        have qn : (eqD S (.lst ((xs.filter fun d => !actD d).map fun _ => D.int 1)) (.lst [])).map (!·) = some (!xs.all actD) := by
          rw [q, Option.map_some]
          congr 2
          rw [Bool.eq_iff_iff, List.isEmpty_iff, List.filter_eq_nil_iff, List.all_eq_true]
          simp
        simp only [b__law_is_alphabet, qOpt, qRet, bnd_ok, bnd_exc, bnd_err, flow_nx, flow_rt, flow_bk, flow_ct, flow_exc, end_nx, end_rt, end_exc, e_var, g_0, g_s, e_cst, e_bin, e_neg, e_not, e_cmp, e_chain, e_and, e_or, e_ite, e_tup, e_lst, e_lstM, e_lstS, e_dct, e_idx, e_slc, e_rev, e_isi, e_fz, e_repM, e_addM, fz_lst, fz_tup, fz_dct, m_dget, e_blt, e_call, e_mth, m_tindex, m_tcount, e_lc, l_nil, l_cons, l_star, t_nil, t_cons, o_no, o_so, i_seq, i_rng1, i_rng2, i_zip, i_enum, i_enumT, k_enumT, k_neg, k_int, k_seqT, k_seqL, k_seqF, k_starT, k_starL, k_zipT, k_zipL, k_zipM, k_zipM2, k_enum, k_rng, k_rng2, tr_bl, tr_int, tr_tup, tr_lst, s_nil, s_cons, x_expr, x_set, x_setT, x_par, x_setI, x_aug, x_cond, x_loop, x_while, x_ret, x_retN, x_pass, x_brk, x_mat, mk_nil, mk_cons, x_cont, x_run, b_lenT, b_lenL, b_lenF, b_tupT, b_tupL, b_lstT, b_lstL, b_allL, b_anyL, b_sumL, b_sumT, b_abs, b_max, b_min, b_intI, b_intB, q_ii, q_ss, mapR_some, andR_ite, orR_ite, unpK, parK, augK, setIK, setTg, setAll, wipe, blt, blt0, seqOf, lstOf, cop, bop, intOp, isiD, tyOf, atP, place, Option.map_some, Option.map_none, Option.bind_some, Option.bind_none, eq_self, reduceCtorEq, Int.reduceLE, Int.reduceLT, Int.reduceNeg, Int.reduceEq, Int.reduceToNat, Int.reduceAdd, Int.reduceSub, Nat.reduceLeDiff, reduceIte,  List.flatten_cons, List.flatten_nil, List.length_map, List.map_cons, List.map_nil, List.length_cons, List.length_nil, List.replicate_succ, List.replicate_zero, List.cons_append, List.nil_append, List.append_nil, List.set_cons_zero, List.set_cons_succ, Bool.not_true, Bool.not_false, if_true, if_false, ite_true, ite_false, Bool.false_eq_true, decide_true, decide_false, Bool.or_true, Bool.true_or, Bool.or_false, Bool.false_or, Bool.and_true, Bool.true_and, Bool.and_false, Bool.false_and, decide_eq_true_eq, Nat.reduceAdd, Nat.reduceSub, Nat.zero_add, Function.comp_apply, lenF, g1, g2, lc, qn]
        by_cases ha : xs.all actD = true
        · obtain ⟨ys, e1, e2⟩ := strs_act ha
          have hk : ∀ x ∈ ys, PyData.strOk x = true := fun x hm => by
            have := hx (.str x) (by rw [e1]; exact List.mem_map_of_mem hm)
            cases this with
            | str h ok => exact ok
          have hk2 : ∀ x ∈ ys.eraseDups.mergeSort leS, PyData.strOk x = true := fun x hm => hk x (by rw [List.mem_mergeSort, List.mem_eraseDups] at hm; exact hm)
          have ss : ∀ S, ssetF S [.tup xs] = some (.lst ((ys.eraseDups.mergeSort leS).map .str)) := fun S => by
            have : ys.length < 64 := by rw [e1, List.length_map] at h2; omega
            simp only [ssetF, seqOf, Option.bind_some, e2, if_pos this]
          simp only [qOpt, qRet, bnd_ok, bnd_exc, bnd_err, flow_nx, flow_rt, flow_bk, flow_ct, flow_exc, end_nx, end_rt, end_exc, e_var, g_0, g_s, e_cst, e_bin, e_neg, e_not, e_cmp, e_chain, e_and, e_or, e_ite, e_tup, e_lst, e_lstM, e_lstS, e_dct, e_idx, e_slc, e_rev, e_isi, e_fz, e_repM, e_addM, fz_lst, fz_tup, fz_dct, m_dget, e_blt, e_call, e_mth, m_tindex, m_tcount, e_lc, l_nil, l_cons, l_star, t_nil, t_cons, o_no, o_so, i_seq, i_rng1, i_rng2, i_zip, i_enum, i_enumT, k_enumT, k_neg, k_int, k_seqT, k_seqL, k_seqF, k_starT, k_starL, k_zipT, k_zipL, k_zipM, k_zipM2, k_enum, k_rng, k_rng2, tr_bl, tr_int, tr_tup, tr_lst, s_nil, s_cons, x_expr, x_set, x_setT, x_par, x_setI, x_aug, x_cond, x_loop, x_while, x_ret, x_retN, x_pass, x_brk, x_mat, mk_nil, mk_cons, x_cont, x_run, b_lenT, b_lenL, b_lenF, b_tupT, b_tupL, b_lstT, b_lstL, b_allL, b_anyL, b_sumL, b_sumT, b_abs, b_max, b_min, b_intI, b_intB, q_ii, q_ss, mapR_some, andR_ite, orR_ite, unpK, parK, augK, setIK, setTg, setAll, wipe, blt, blt0, seqOf, lstOf, cop, bop, intOp, isiD, tyOf, atP, place, Option.map_some, Option.map_none, Option.bind_some, Option.bind_none, eq_self, reduceCtorEq, Int.reduceLE, Int.reduceLT, Int.reduceNeg, Int.reduceEq, Int.reduceToNat, Int.reduceAdd, Int.reduceSub, Nat.reduceLeDiff, reduceIte,  List.flatten_cons, List.flatten_nil, List.length_map, List.map_cons, List.map_nil, List.length_cons, List.length_nil, List.replicate_succ, List.replicate_zero, List.cons_append, List.nil_append, List.append_nil, List.set_cons_zero, List.set_cons_succ, Bool.not_true, Bool.not_false, if_true, if_false, ite_true, ite_false, Bool.false_eq_true, decide_true, decide_false, Bool.or_true, Bool.true_or, Bool.or_false, Bool.false_or, Bool.and_true, Bool.true_and, Bool.and_false, Bool.false_and, decide_eq_true_eq, Nat.reduceAdd, Nat.reduceSub, Nat.zero_add, Function.comp_apply, ha, ss]
          have e3 : ∀ S, eqD S (.lst xs) (.lst ((ys.eraseDups.mergeSort leS).map .str)) = some (ascP ys) := fun S => by rw [e1, eq_strsL hk hk2, ← asc_sset]
          simp only [qOpt, qRet, bnd_ok, bnd_exc, bnd_err, flow_nx, flow_rt, flow_bk, flow_ct, flow_exc, end_nx, end_rt, end_exc, e_var, g_0, g_s, e_cst, e_bin, e_neg, e_not, e_cmp, e_chain, e_and, e_or, e_ite, e_tup, e_lst, e_lstM, e_lstS, e_dct, e_idx, e_slc, e_rev, e_isi, e_fz, e_repM, e_addM, fz_lst, fz_tup, fz_dct, m_dget, e_blt, e_call, e_mth, m_tindex, m_tcount, e_lc, l_nil, l_cons, l_star, t_nil, t_cons, o_no, o_so, i_seq, i_rng1, i_rng2, i_zip, i_enum, i_enumT, k_enumT, k_neg, k_int, k_seqT, k_seqL, k_seqF, k_starT, k_starL, k_zipT, k_zipL, k_zipM, k_zipM2, k_enum, k_rng, k_rng2, tr_bl, tr_int, tr_tup, tr_lst, s_nil, s_cons, x_expr, x_set, x_setT, x_par, x_setI, x_aug, x_cond, x_loop, x_while, x_ret, x_retN, x_pass, x_brk, x_mat, mk_nil, mk_cons, x_cont, x_run, b_lenT, b_lenL, b_lenF, b_tupT, b_tupL, b_lstT, b_lstL, b_allL, b_anyL, b_sumL, b_sumT, b_abs, b_max, b_min, b_intI, b_intB, q_ii, q_ss, mapR_some, andR_ite, orR_ite, unpK, parK, augK, setIK, setTg, setAll, wipe, blt, blt0, seqOf, lstOf, cop, bop, intOp, isiD, tyOf, atP, place, Option.map_some, Option.map_none, Option.bind_some, Option.bind_none, eq_self, reduceCtorEq, Int.reduceLE, Int.reduceLT, Int.reduceNeg, Int.reduceEq, Int.reduceToNat, Int.reduceAdd, Int.reduceSub, Nat.reduceLeDiff, reduceIte,  List.flatten_cons, List.flatten_nil, List.length_map, List.map_cons, List.map_nil, List.length_cons, List.length_nil, List.replicate_succ, List.replicate_zero, List.cons_append, List.nil_append, List.append_nil, List.set_cons_zero, List.set_cons_succ, Bool.not_true, Bool.not_false, if_true, if_false, ite_true, ite_false, Bool.false_eq_true, decide_true, decide_false, Bool.or_true, Bool.true_or, Bool.or_false, Bool.false_or, Bool.and_true, Bool.true_and, Bool.and_false, Bool.false_and, decide_eq_true_eq, Nat.reduceAdd, Nat.reduceSub, Nat.zero_add, Function.comp_apply, e3]
          simp only [alphF, decide_eq_true h1, decide_eq_true h2, ha, ascF, e2, Bool.true_and]
        · have b4 : xs.all actD = false := eq_false_of_ne_true ha
          simp only [qOpt, qRet, bnd_ok, bnd_exc, bnd_err, flow_nx, flow_rt, flow_bk, flow_ct, flow_exc, end_nx, end_rt, end_exc, e_var, g_0, g_s, e_cst, e_bin, e_neg, e_not, e_cmp, e_chain, e_and, e_or, e_ite, e_tup, e_lst, e_lstM, e_lstS, e_dct, e_idx, e_slc, e_rev, e_isi, e_fz, e_repM, e_addM, fz_lst, fz_tup, fz_dct, m_dget, e_blt, e_call, e_mth, m_tindex, m_tcount, e_lc, l_nil, l_cons, l_star, t_nil, t_cons, o_no, o_so, i_seq, i_rng1, i_rng2, i_zip, i_enum, i_enumT, k_enumT, k_neg, k_int, k_seqT, k_seqL, k_seqF, k_starT, k_starL, k_zipT, k_zipL, k_zipM, k_zipM2, k_enum, k_rng, k_rng2, tr_bl, tr_int, tr_tup, tr_lst, s_nil, s_cons, x_expr, x_set, x_setT, x_par, x_setI, x_aug, x_cond, x_loop, x_while, x_ret, x_retN, x_pass, x_brk, x_mat, mk_nil, mk_cons, x_cont, x_run, b_lenT, b_lenL, b_lenF, b_tupT, b_tupL, b_lstT, b_lstL, b_allL, b_anyL, b_sumL, b_sumT, b_abs, b_max, b_min, b_intI, b_intB, q_ii, q_ss, mapR_some, andR_ite, orR_ite, unpK, parK, augK, setIK, setTg, setAll, wipe, blt, blt0, seqOf, lstOf, cop, bop, intOp, isiD, tyOf, atP, place, Option.map_some, Option.map_none, Option.bind_some, Option.bind_none, eq_self, reduceCtorEq, Int.reduceLE, Int.reduceLT, Int.reduceNeg, Int.reduceEq, Int.reduceToNat, Int.reduceAdd, Int.reduceSub, Nat.reduceLeDiff, reduceIte,  List.flatten_cons, List.flatten_nil, List.length_map, List.map_cons, List.map_nil, List.length_cons, List.length_nil, List.replicate_succ, List.replicate_zero, List.cons_append, List.nil_append, List.append_nil, List.set_cons_zero, List.set_cons_succ, Bool.not_true, Bool.not_false, if_true, if_false, ite_true, ite_false, Bool.false_eq_true, decide_true, decide_false, Bool.or_true, Bool.true_or, Bool.or_false, Bool.false_or, Bool.and_true, Bool.true_and, Bool.and_false, Bool.false_and, decide_eq_true_eq, Nat.reduceAdd, Nat.reduceSub, Nat.zero_add, Function.comp_apply, b4, alphF]
      · have g2 : decide ((xs.length : Int) ≤ 5) = false := decide_eq_false (by omega)
        simp only [b__law_is_alphabet, qOpt, qRet, bnd_ok, bnd_exc, bnd_err, flow_nx, flow_rt, flow_bk, flow_ct, flow_exc, end_nx, end_rt, end_exc, e_var, g_0, g_s, e_cst, e_bin, e_neg, e_not, e_cmp, e_chain, e_and, e_or, e_ite, e_tup, e_lst, e_lstM, e_lstS, e_dct, e_idx, e_slc, e_rev, e_isi, e_fz, e_repM, e_addM, fz_lst, fz_tup, fz_dct, m_dget, e_blt, e_call, e_mth, m_tindex, m_tcount, e_lc, l_nil, l_cons, l_star, t_nil, t_cons, o_no, o_so, i_seq, i_rng1, i_rng2, i_zip, i_enum, i_enumT, k_enumT, k_neg, k_int, k_seqT, k_seqL, k_seqF, k_starT, k_starL, k_zipT, k_zipL, k_zipM, k_zipM2, k_enum, k_rng, k_rng2, tr_bl, tr_int, tr_tup, tr_lst, s_nil, s_cons, x_expr, x_set, x_setT, x_par, x_setI, x_aug, x_cond, x_loop, x_while, x_ret, x_retN, x_pass, x_brk, x_mat, mk_nil, mk_cons, x_cont, x_run, b_lenT, b_lenL, b_lenF, b_tupT, b_tupL, b_lstT, b_lstL, b_allL, b_anyL, b_sumL, b_sumT, b_abs, b_max, b_min, b_intI, b_intB, q_ii, q_ss, mapR_some, andR_ite, orR_ite, unpK, parK, augK, setIK, setTg, setAll, wipe, blt, blt0, seqOf, lstOf, cop, bop, intOp, isiD, tyOf, atP, place, Option.map_some, Option.map_none, Option.bind_some, Option.bind_none, eq_self, reduceCtorEq, Int.reduceLE, Int.reduceLT, Int.reduceNeg, Int.reduceEq, Int.reduceToNat, Int.reduceAdd, Int.reduceSub, Nat.reduceLeDiff, reduceIte,  List.flatten_cons, List.flatten_nil, List.length_map, List.map_cons, List.map_nil, List.length_cons, List.length_nil, List.replicate_succ, List.replicate_zero, List.cons_append, List.nil_append, List.append_nil, List.set_cons_zero, List.set_cons_succ, Bool.not_true, Bool.not_false, if_true, if_false, ite_true, ite_false, Bool.false_eq_true, decide_true, decide_false, Bool.or_true, Bool.true_or, Bool.or_false, Bool.false_or, Bool.and_true, Bool.true_and, Bool.and_false, Bool.false_and, decide_eq_true_eq, Nat.reduceAdd, Nat.reduceSub, Nat.zero_add, Function.comp_apply, lenF, g1, g2, alphF, decide_eq_false h2]
    · have g1 : decide ((1 : Int) ≤ xs.length) = false := decide_eq_false (by omega)
      simp only [b__law_is_alphabet, qOpt, qRet, bnd_ok, bnd_exc, bnd_err, flow_nx, flow_rt, flow_bk, flow_ct, flow_exc, end_nx, end_rt, end_exc, e_var, g_0, g_s, e_cst, e_bin, e_neg, e_not, e_cmp, e_chain, e_and, e_or, e_ite, e_tup, e_lst, e_lstM, e_lstS, e_dct, e_idx, e_slc, e_rev, e_isi, e_fz, e_repM, e_addM, fz_lst, fz_tup, fz_dct, m_dget, e_blt, e_call, e_mth, m_tindex, m_tcount, e_lc, l_nil, l_cons, l_star, t_nil, t_cons, o_no, o_so, i_seq, i_rng1, i_rng2, i_zip, i_enum, i_enumT, k_enumT, k_neg, k_int, k_seqT, k_seqL, k_seqF, k_starT, k_starL, k_zipT, k_zipL, k_zipM, k_zipM2, k_enum, k_rng, k_rng2, tr_bl, tr_int, tr_tup, tr_lst, s_nil, s_cons, x_expr, x_set, x_setT, x_par, x_setI, x_aug, x_cond, x_loop, x_while, x_ret, x_retN, x_pass, x_brk, x_mat, mk_nil, mk_cons, x_cont, x_run, b_lenT, b_lenL, b_lenF, b_tupT, b_tupL, b_lstT, b_lstL, b_allL, b_anyL, b_sumL, b_sumT, b_abs, b_max, b_min, b_intI, b_intB, q_ii, q_ss, mapR_some, andR_ite, orR_ite, unpK, parK, augK, setIK, setTg, setAll, wipe, blt, blt0, seqOf, lstOf, cop, bop, intOp, isiD, tyOf, atP, place, Option.map_some, Option.map_none, Option.bind_some, Option.bind_none, eq_self, reduceCtorEq, Int.reduceLE, Int.reduceLT, Int.reduceNeg, Int.reduceEq, Int.reduceToNat, Int.reduceAdd, Int.reduceSub, Nat.reduceLeDiff, reduceIte,  List.flatten_cons, List.flatten_nil, List.length_map, List.map_cons, List.map_nil, List.length_cons, List.length_nil, List.replicate_succ, List.replicate_zero, List.cons_append, List.nil_append, List.append_nil, List.set_cons_zero, List.set_cons_succ, Bool.not_true, Bool.not_false, if_true, if_false, ite_true, ite_false, Bool.false_eq_true, decide_true, decide_false, Bool.or_true, Bool.true_or, Bool.or_false, Bool.false_or, Bool.and_true, Bool.true_and, Bool.and_false, Bool.false_and, decide_eq_true_eq, Nat.reduceAdd, Nat.reduceSub, Nat.zero_add, Function.comp_apply, lenF, g1, alphF, decide_eq_false h1]
  | _ => simp only [b__law_is_alphabet, qOpt, qRet, bnd_ok, bnd_exc, bnd_err, flow_nx, flow_rt, flow_bk, flow_ct, flow_exc, end_nx, end_rt, end_exc, e_var, g_0, g_s, e_cst, e_bin, e_neg, e_not, e_cmp, e_chain, e_and, e_or, e_ite, e_tup, e_lst, e_lstM, e_lstS, e_dct, e_idx, e_slc, e_rev, e_isi, e_fz, e_repM, e_addM, fz_lst, fz_tup, fz_dct, m_dget, e_blt, e_call, e_mth, m_tindex, m_tcount, e_lc, l_nil, l_cons, l_star, t_nil, t_cons, o_no, o_so, i_seq, i_rng1, i_rng2, i_zip, i_enum, i_enumT, k_enumT, k_neg, k_int, k_seqT, k_seqL, k_seqF, k_starT, k_starL, k_zipT, k_zipL, k_zipM, k_zipM2, k_enum, k_rng, k_rng2, tr_bl, tr_int, tr_tup, tr_lst, s_nil, s_cons, x_expr, x_set, x_setT, x_par, x_setI, x_aug, x_cond, x_loop, x_while, x_ret, x_retN, x_pass, x_brk, x_mat, mk_nil, mk_cons, x_cont, x_run, b_lenT, b_lenL, b_lenF, b_tupT, b_tupL, b_lstT, b_lstL, b_allL, b_anyL, b_sumL, b_sumT, b_abs, b_max, b_min, b_intI, b_intB, q_ii, q_ss, mapR_some, andR_ite, orR_ite, unpK, parK, augK, setIK, setTg, setAll, wipe, blt, blt0, seqOf, lstOf, cop, bop, intOp, isiD, tyOf, atP, place, Option.map_some, Option.map_none, Option.bind_some, Option.bind_none, eq_self, reduceCtorEq, Int.reduceLE, Int.reduceLT, Int.reduceNeg, Int.reduceEq, Int.reduceToNat, Int.reduceAdd, Int.reduceSub, Nat.reduceLeDiff, reduceIte,  List.flatten_cons, List.flatten_nil, List.length_map, List.map_cons, List.map_nil, List.length_cons, List.length_nil, List.replicate_succ, List.replicate_zero, List.cons_append, List.nil_append, List.append_nil, List.set_cons_zero, List.set_cons_succ, Bool.not_true, Bool.not_false, if_true, if_false, ite_true, ite_false, Bool.false_eq_true, decide_true, decide_false, Bool.or_true, Bool.true_or, Bool.or_false, Bool.false_or, Bool.and_true, Bool.true_and, Bool.and_false, Bool.false_and, decide_eq_true_eq, Nat.reduceAdd, Nat.reduceSub, Nat.zero_add, Function.comp_apply, alphF]
end
end K01

set_option linter.all false
set_option maxRecDepth 10000
namespace K01
open Ln
open PySem (PyData Str)
theorem shaped_str {x : Str} (h : PyData.strOk x = true) : PySem.SeqAt.shaped (.str x) = true := by
  simp [PySem.SeqAt.shaped, PyData.canLay0, PyData.depth, h]
theorem shaped_strs {xs : List Str} (h : ∀ x ∈ xs, PyData.strOk x = true) : PySem.SeqAt.shaped (.list (xs.map .str)) = true := by
  have h1 : ∀ xs : List Str, (∀ x ∈ xs, PyData.strOk x = true) → PyData.canLayAll0 (xs.map .str) = true := fun xs h => by
    induction xs with
    | nil => simp [PyData.canLayAll0]
    | cons x xs ih => simp [PyData.canLayAll0, PyData.canLay0, ih fun y hy => h y (List.mem_cons_of_mem _ hy), h x List.mem_cons_self]
  have h2 : ∀ xs : List Str, PyData.depthAll (xs.map .str) = 0 := fun xs => by
    induction xs with
    | nil => simp [PyData.depthAll]
    | cons x xs ih => simp [PyData.depthAll, PyData.depth, ih]
  simp [PySem.SeqAt.shaped, PyData.canLay0, PyData.depth, h1 xs h, h2]
theorem toP_str {S : Store} {k : Nat} {x : Str} : toP S k (.str x) = some (.str x) := by cases k <;> rfl
theorem inS {S : Store} {x : Str} {al : List Str} (h : ∀ a ∈ al, PyData.strOk a = true) (hx : PyData.strOk x = true) : inD S (.str x) (sv al) = some (decide (x ∈ al)) := by
  have e : (al.map D.str).mapM (dat S) = some (al.map .str) := mapM_map (k := 24) fun a _ => toP_str
  unfold inD
  simp only [show dat S (.str x) = some (.str x) from rfl, seqOf, e, shaped_str hx, shaped_strs h, Bool.and_self, if_true, Option.some.injEq, List.any_map]
  rw [Bool.eq_iff_iff, List.any_eq_true, decide_eq_true_eq]
  constructor
  · rintro ⟨y, hy, q⟩
    have : y = x := by simpa [PyData.eqv] using q
    exact this ▸ hy
  · intro hm
    exact ⟨x, hm, by simp [PyData.eqv]⟩
def inA (al : List Str) : D → Bool
  | .str x => decide (x ∈ al)
  | _ => false
def wordF (al : List Str) : D → Bool
  | .tup xs => xs.all (inA al)
  | _ => false
section
variable {w k : Nat} {S : Store} {al : List Str}
theorem s_is_word_of (ho : ∀ a ∈ al, PyData.strOk a = true) {d : D} (h : Vv d) : callI prog w (k + 1) 2 [sv al, d] S = .ok (.bl (wordF al d)) S := by
  rw [u_is_word_of]
  cases h with
  | tup hx hl =>
    rename_i xs
    simp only [b_is_word_of, qOpt, qRet, bnd_ok, bnd_exc, bnd_err, flow_nx, flow_rt, flow_bk, flow_ct, flow_exc, end_nx, end_rt, end_exc, e_var, g_0, g_s, e_cst, e_bin, e_neg, e_not, e_cmp, e_chain, e_and, e_or, e_ite, e_tup, e_lst, e_lstM, e_lstS, e_dct, e_idx, e_slc, e_rev, e_isi, e_fz, e_repM, e_addM, fz_lst, fz_tup, fz_dct, m_dget, e_blt, e_call, e_mth, m_tindex, m_tcount, e_lc, l_nil, l_cons, l_star, t_nil, t_cons, o_no, o_so, i_seq, i_rng1, i_rng2, i_zip, i_enum, i_enumT, k_enumT, k_neg, k_int, k_seqT, k_seqL, k_seqF, k_starT, k_starL, k_zipT, k_zipL, k_zipM, k_zipM2, k_enum, k_rng, k_rng2, tr_bl, tr_int, tr_tup, tr_lst, s_nil, s_cons, x_expr, x_set, x_setT, x_par, x_setI, x_aug, x_cond, x_loop, x_while, x_ret, x_retN, x_pass, x_brk, x_mat, mk_nil, mk_cons, x_cont, x_run, b_lenT, b_lenL, b_lenF, b_tupT, b_tupL, b_lstT, b_lstL, b_allL, b_anyL, b_sumL, b_sumT, b_abs, b_max, b_min, b_intI, b_intB, q_ii, q_ss, mapR_some, andR_ite, orR_ite, unpK, parK, augK, setIK, setTg, setAll, wipe, blt, blt0, seqOf, lstOf, cop, bop, intOp, isiD, tyOf, atP, place, Option.map_some, Option.map_none, Option.bind_some, Option.bind_none, eq_self, reduceCtorEq, Int.reduceLE, Int.reduceLT, Int.reduceNeg, Int.reduceEq, Int.reduceToNat, Int.reduceAdd, Int.reduceSub, Nat.reduceLeDiff, reduceIte,  List.flatten_cons, List.flatten_nil, List.length_map, List.map_cons, List.map_nil, List.length_cons, List.length_nil, List.replicate_succ, List.replicate_zero, List.cons_append, List.nil_append, List.append_nil, List.set_cons_zero, List.set_cons_succ, Bool.not_true, Bool.not_false, if_true, if_false, ite_true, ite_false, Bool.false_eq_true, decide_true, decide_false, Bool.or_true, Bool.true_or, Bool.or_false, Bool.false_or, Bool.and_true, Bool.true_and, Bool.and_false, Bool.false_and, decide_eq_true_eq, Nat.reduceAdd, Nat.reduceSub, Nat.zero_add, Function.comp_apply]
    rw [lcM_id (fun d => D.bl (inA al d)) xs fun d hd => ⟨_, rfl, by
      cases hx d hd with
      | str hs ok => simp only [qOpt, qRet, bnd_ok, bnd_exc, bnd_err, flow_nx, flow_rt, flow_bk, flow_ct, flow_exc, end_nx, end_rt, end_exc, e_var, g_0, g_s, e_cst, e_bin, e_neg, e_not, e_cmp, e_chain, e_and, e_or, e_ite, e_tup, e_lst, e_lstM, e_lstS, e_dct, e_idx, e_slc, e_rev, e_isi, e_fz, e_repM, e_addM, fz_lst, fz_tup, fz_dct, m_dget, e_blt, e_call, e_mth, m_tindex, m_tcount, e_lc, l_nil, l_cons, l_star, t_nil, t_cons, o_no, o_so, i_seq, i_rng1, i_rng2, i_zip, i_enum, i_enumT, k_enumT, k_neg, k_int, k_seqT, k_seqL, k_seqF, k_starT, k_starL, k_zipT, k_zipL, k_zipM, k_zipM2, k_enum, k_rng, k_rng2, tr_bl, tr_int, tr_tup, tr_lst, s_nil, s_cons, x_expr, x_set, x_setT, x_par, x_setI, x_aug, x_cond, x_loop, x_while, x_ret, x_retN, x_pass, x_brk, x_mat, mk_nil, mk_cons, x_cont, x_run, b_lenT, b_lenL, b_lenF, b_tupT, b_tupL, b_lstT, b_lstL, b_allL, b_anyL, b_sumL, b_sumT, b_abs, b_max, b_min, b_intI, b_intB, q_ii, q_ss, mapR_some, andR_ite, orR_ite, unpK, parK, augK, setIK, setTg, setAll, wipe, blt, blt0, seqOf, lstOf, cop, bop, intOp, isiD, tyOf, atP, place, Option.map_some, Option.map_none, Option.bind_some, Option.bind_none, eq_self, reduceCtorEq, Int.reduceLE, Int.reduceLT, Int.reduceNeg, Int.reduceEq, Int.reduceToNat, Int.reduceAdd, Int.reduceSub, Nat.reduceLeDiff, reduceIte,  List.flatten_cons, List.flatten_nil, List.length_map, List.map_cons, List.map_nil, List.length_cons, List.length_nil, List.replicate_succ, List.replicate_zero, List.cons_append, List.nil_append, List.append_nil, List.set_cons_zero, List.set_cons_succ, Bool.not_true, Bool.not_false, if_true, if_false, ite_true, ite_false, Bool.false_eq_true, decide_true, decide_false, Bool.or_true, Bool.true_or, Bool.or_false, Bool.false_or, Bool.and_true, Bool.true_and, Bool.and_false, Bool.false_and, decide_eq_true_eq, Nat.reduceAdd, Nat.reduceSub, Nat.zero_add, Function.comp_apply, inS ho ok, inA]
      | _ => simp only [qOpt, qRet, bnd_ok, bnd_exc, bnd_err, flow_nx, flow_rt, flow_bk, flow_ct, flow_exc, end_nx, end_rt, end_exc, e_var, g_0, g_s, e_cst, e_bin, e_neg, e_not, e_cmp, e_chain, e_and, e_or, e_ite, e_tup, e_lst, e_lstM, e_lstS, e_dct, e_idx, e_slc, e_rev, e_isi, e_fz, e_repM, e_addM, fz_lst, fz_tup, fz_dct, m_dget, e_blt, e_call, e_mth, m_tindex, m_tcount, e_lc, l_nil, l_cons, l_star, t_nil, t_cons, o_no, o_so, i_seq, i_rng1, i_rng2, i_zip, i_enum, i_enumT, k_enumT, k_neg, k_int, k_seqT, k_seqL, k_seqF, k_starT, k_starL, k_zipT, k_zipL, k_zipM, k_zipM2, k_enum, k_rng, k_rng2, tr_bl, tr_int, tr_tup, tr_lst, s_nil, s_cons, x_expr, x_set, x_setT, x_par, x_setI, x_aug, x_cond, x_loop, x_while, x_ret, x_retN, x_pass, x_brk, x_mat, mk_nil, mk_cons, x_cont, x_run, b_lenT, b_lenL, b_lenF, b_tupT, b_tupL, b_lstT, b_lstL, b_allL, b_anyL, b_sumL, b_sumT, b_abs, b_max, b_min, b_intI, b_intB, q_ii, q_ss, mapR_some, andR_ite, orR_ite, unpK, parK, augK, setIK, setTg, setAll, wipe, blt, blt0, seqOf, lstOf, cop, bop, intOp, isiD, tyOf, atP, place, Option.map_some, Option.map_none, Option.bind_some, Option.bind_none, eq_self, reduceCtorEq, Int.reduceLE, Int.reduceLT, Int.reduceNeg, Int.reduceEq, Int.reduceToNat, Int.reduceAdd, Int.reduceSub, Nat.reduceLeDiff, reduceIte,  List.flatten_cons, List.flatten_nil, List.length_map, List.map_cons, List.map_nil, List.length_cons, List.length_nil, List.replicate_succ, List.replicate_zero, List.cons_append, List.nil_append, List.append_nil, List.set_cons_zero, List.set_cons_succ, Bool.not_true, Bool.not_false, if_true, if_false, ite_true, ite_false, Bool.false_eq_true, decide_true, decide_false, Bool.or_true, Bool.true_or, Bool.or_false, Bool.false_or, Bool.and_true, Bool.true_and, Bool.and_false, Bool.false_and, decide_eq_true_eq, Nat.reduceAdd, Nat.reduceSub, Nat.zero_add, Function.comp_apply, inA]⟩]
    have b1 : boolsD (xs.map fun d => D.bl (inA al d)) = some (xs.map (inA al)) := bools_fun (inA al) xs
    simp only [qOpt, qRet, bnd_ok, bnd_exc, bnd_err, flow_nx, flow_rt, flow_bk, flow_ct, flow_exc, end_nx, end_rt, end_exc, e_var, g_0, g_s, e_cst, e_bin, e_neg, e_not, e_cmp, e_chain, e_and, e_or, e_ite, e_tup, e_lst, e_lstM, e_lstS, e_dct, e_idx, e_slc, e_rev, e_isi, e_fz, e_repM, e_addM, fz_lst, fz_tup, fz_dct, m_dget, e_blt, e_call, e_mth, m_tindex, m_tcount, e_lc, l_nil, l_cons, l_star, t_nil, t_cons, o_no, o_so, i_seq, i_rng1, i_rng2, i_zip, i_enum, i_enumT, k_enumT, k_neg, k_int, k_seqT, k_seqL, k_seqF, k_starT, k_starL, k_zipT, k_zipL, k_zipM, k_zipM2, k_enum, k_rng, k_rng2, tr_bl, tr_int, tr_tup, tr_lst, s_nil, s_cons, x_expr, x_set, x_setT, x_par, x_setI, x_aug, x_cond, x_loop, x_while, x_ret, x_retN, x_pass, x_brk, x_mat, mk_nil, mk_cons, x_cont, x_run, b_lenT, b_lenL, b_lenF, b_tupT, b_tupL, b_lstT, b_lstL, b_allL, b_anyL, b_sumL, b_sumT, b_abs, b_max, b_min, b_intI, b_intB, q_ii, q_ss, mapR_some, andR_ite, orR_ite, unpK, parK, augK, setIK, setTg, setAll, wipe, blt, blt0, seqOf, lstOf, cop, bop, intOp, isiD, tyOf, atP, place, Option.map_some, Option.map_none, Option.bind_some, Option.bind_none, eq_self, reduceCtorEq, Int.reduceLE, Int.reduceLT, Int.reduceNeg, Int.reduceEq, Int.reduceToNat, Int.reduceAdd, Int.reduceSub, Nat.reduceLeDiff, reduceIte,  List.flatten_cons, List.flatten_nil, List.length_map, List.map_cons, List.map_nil, List.length_cons, List.length_nil, List.replicate_succ, List.replicate_zero, List.cons_append, List.nil_append, List.append_nil, List.set_cons_zero, List.set_cons_succ, Bool.not_true, Bool.not_false, if_true, if_false, ite_true, ite_false, Bool.false_eq_true, decide_true, decide_false, Bool.or_true, Bool.true_or, Bool.or_false, Bool.false_or, Bool.and_true, Bool.true_and, Bool.and_false, Bool.false_and, decide_eq_true_eq, Nat.reduceAdd, Nat.reduceSub, Nat.zero_add, Function.comp_apply, b1, wordF, List.all_map]
    rfl
  | _ => simp only [b_is_word_of, qOpt, qRet, bnd_ok, bnd_exc, bnd_err, flow_nx, flow_rt, flow_bk, flow_ct, flow_exc, end_nx, end_rt, end_exc, e_var, g_0, g_s, e_cst, e_bin, e_neg, e_not, e_cmp, e_chain, e_and, e_or, e_ite, e_tup, e_lst, e_lstM, e_lstS, e_dct, e_idx, e_slc, e_rev, e_isi, e_fz, e_repM, e_addM, fz_lst, fz_tup, fz_dct, m_dget, e_blt, e_call, e_mth, m_tindex, m_tcount, e_lc, l_nil, l_cons, l_star, t_nil, t_cons, o_no, o_so, i_seq, i_rng1, i_rng2, i_zip, i_enum, i_enumT, k_enumT, k_neg, k_int, k_seqT, k_seqL, k_seqF, k_starT, k_starL, k_zipT, k_zipL, k_zipM, k_zipM2, k_enum, k_rng, k_rng2, tr_bl, tr_int, tr_tup, tr_lst, s_nil, s_cons, x_expr, x_set, x_setT, x_par, x_setI, x_aug, x_cond, x_loop, x_while, x_ret, x_retN, x_pass, x_brk, x_mat, mk_nil, mk_cons, x_cont, x_run, b_lenT, b_lenL, b_lenF, b_tupT, b_tupL, b_lstT, b_lstL, b_allL, b_anyL, b_sumL, b_sumT, b_abs, b_max, b_min, b_intI, b_intB, q_ii, q_ss, mapR_some, andR_ite, orR_ite, unpK, parK, augK, setIK, setTg, setAll, wipe, blt, blt0, seqOf, lstOf, cop, bop, intOp, isiD, tyOf, atP, place, Option.map_some, Option.map_none, Option.bind_some, Option.bind_none, eq_self, reduceCtorEq, Int.reduceLE, Int.reduceLT, Int.reduceNeg, Int.reduceEq, Int.reduceToNat, Int.reduceAdd, Int.reduceSub, Nat.reduceLeDiff, reduceIte,  List.flatten_cons, List.flatten_nil, List.length_map, List.map_cons, List.map_nil, List.length_cons, List.length_nil, List.replicate_succ, List.replicate_zero, List.cons_append, List.nil_append, List.append_nil, List.set_cons_zero, List.set_cons_succ, Bool.not_true, Bool.not_false, if_true, if_false, ite_true, ite_false, Bool.false_eq_true, decide_true, decide_false, Bool.or_true, Bool.true_or, Bool.or_false, Bool.false_or, Bool.and_true, Bool.true_and, Bool.and_false, Bool.false_and, decide_eq_true_eq, Nat.reduceAdd, Nat.reduceSub, Nat.zero_add, Function.comp_apply, wordF]
theorem s_law_is_word (ho : ∀ a ∈ al, PyData.strOk a = true) {d : D} (h : Vv d) : callI prog w (k + 1) 15 [sv al, d] S = .ok (.bl (wordF al d)) S := by
  rw [u__law_is_word]
  cases h with
  | tup hx hl =>
    rename_i xs
    have lc := lcM_filter (cf := callI prog w k) (ρ := [some (sv al), some (.tup xs), none]) (S := S) (elt := .cst (.int 1)) (c := .or (.not (.isi (.var 2) .str)) (.cmp .notIn (.var 2) (.var 0))) (tg := .nm 2) (own := [2]) id (fun _ => D.int 1) (fun d => !inA al d) xs fun d hd => ⟨_, rfl, by
      cases hx d hd with
      | str hs ok => simp only [qOpt, qRet, bnd_ok, bnd_exc, bnd_err, flow_nx, flow_rt, flow_bk, flow_ct, flow_exc, end_nx, end_rt, end_exc, e_var, g_0, g_s, e_cst, e_bin, e_neg, e_not, e_cmp, e_chain, e_and, e_or, e_ite, e_tup, e_lst, e_lstM, e_lstS, e_dct, e_idx, e_slc, e_rev, e_isi, e_fz, e_repM, e_addM, fz_lst, fz_tup, fz_dct, m_dget, e_blt, e_call, e_mth, m_tindex, m_tcount, e_lc, l_nil, l_cons, l_star, t_nil, t_cons, o_no, o_so, i_seq, i_rng1, i_rng2, i_zip, i_enum, i_enumT, k_enumT, k_neg, k_int, k_seqT, k_seqL, k_seqF, k_starT, k_starL, k_zipT, k_zipL, k_zipM, k_zipM2, k_enum, k_rng, k_rng2, tr_bl, tr_int, tr_tup, tr_lst, s_nil, s_cons, x_expr, x_set, x_setT, x_par, x_setI, x_aug, x_cond, x_loop, x_while, x_ret, x_retN, x_pass, x_brk, x_mat, mk_nil, mk_cons, x_cont, x_run, b_lenT, b_lenL, b_lenF, b_tupT, b_tupL, b_lstT, b_lstL, b_allL, b_anyL, b_sumL, b_sumT, b_abs, b_max, b_min, b_intI, b_intB, q_ii, q_ss, mapR_some, andR_ite, orR_ite, unpK, parK, augK, setIK, setTg, setAll, wipe, blt, blt0, seqOf, lstOf, cop, bop, intOp, isiD, tyOf, atP, place, Option.map_some, Option.map_none, Option.bind_some, Option.bind_none, eq_self, reduceCtorEq, Int.reduceLE, Int.reduceLT, Int.reduceNeg, Int.reduceEq, Int.reduceToNat, Int.reduceAdd, Int.reduceSub, Nat.reduceLeDiff, reduceIte,  List.flatten_cons, List.flatten_nil, List.length_map, List.map_cons, List.map_nil, List.length_cons, List.length_nil, List.replicate_succ, List.replicate_zero, List.cons_append, List.nil_append, List.append_nil, List.set_cons_zero, List.set_cons_succ, Bool.not_true, Bool.not_false, if_true, if_false, ite_true, ite_false, Bool.false_eq_true, decide_true, decide_false, Bool.or_true, Bool.true_or, Bool.or_false, Bool.false_or, Bool.and_true, Bool.true_and, Bool.and_false, Bool.false_and, decide_eq_true_eq, Nat.reduceAdd, Nat.reduceSub, Nat.zero_add, Function.comp_apply, id_eq, inS ho ok, inA]
      | _ => simp only [qOpt, qRet, bnd_ok, bnd_exc, bnd_err, flow_nx, flow_rt, flow_bk, flow_ct, flow_exc, end_nx, end_rt, end_exc, e_var, g_0, g_s, e_cst, e_bin, e_neg, e_not, e_cmp, e_chain, e_and, e_or, e_ite, e_tup, e_lst, e_lstM, e_lstS, e_dct, e_idx, e_slc, e_rev, e_isi, e_fz, e_repM, e_addM, fz_lst, fz_tup, fz_dct, m_dget, e_blt, e_call, e_mth, m_tindex, m_tcount, e_lc, l_nil, l_cons, l_star, t_nil, t_cons, o_no, o_so, i_seq, i_rng1, i_rng2, i_zip, i_enum, i_enumT, k_enumT, k_neg, k_int, k_seqT, k_seqL, k_seqF, k_starT, k_starL, k_zipT, k_zipL, k_zipM, k_zipM2, k_enum, k_rng, k_rng2, tr_bl, tr_int, tr_tup, tr_lst, s_nil, s_cons, x_expr, x_set, x_setT, x_par, x_setI, x_aug, x_cond, x_loop, x_while, x_ret, x_retN, x_pass, x_brk, x_mat, mk_nil, mk_cons, x_cont, x_run, b_lenT, b_lenL, b_lenF, b_tupT, b_tupL, b_lstT, b_lstL, b_allL, b_anyL, b_sumL, b_sumT, b_abs, b_max, b_min, b_intI, b_intB, q_ii, q_ss, mapR_some, andR_ite, orR_ite, unpK, parK, augK, setIK, setTg, setAll, wipe, blt, blt0, seqOf, lstOf, cop, bop, intOp, isiD, tyOf, atP, place, Option.map_some, Option.map_none, Option.bind_some, Option.bind_none, eq_self, reduceCtorEq, Int.reduceLE, Int.reduceLT, Int.reduceNeg, Int.reduceEq, Int.reduceToNat, Int.reduceAdd, Int.reduceSub, Nat.reduceLeDiff, reduceIte,  List.flatten_cons, List.flatten_nil, List.length_map, List.map_cons, List.map_nil, List.length_cons, List.length_nil, List.replicate_succ, List.replicate_zero, List.cons_append, List.nil_append, List.append_nil, List.set_cons_zero, List.set_cons_succ, Bool.not_true, Bool.not_false, if_true, if_false, ite_true, ite_false, Bool.false_eq_true, decide_true, decide_false, Bool.or_true, Bool.true_or, Bool.or_false, Bool.false_or, Bool.and_true, Bool.true_and, Bool.and_false, Bool.false_and, decide_eq_true_eq, Nat.reduceAdd, Nat.reduceSub, Nat.zero_add, Function.comp_apply, id_eq, inA], fun _ => by simp only [qOpt, qRet, bnd_ok, bnd_exc, bnd_err, flow_nx, flow_rt, flow_bk, flow_ct, flow_exc, end_nx, end_rt, end_exc, e_var, g_0, g_s, e_cst, e_bin, e_neg, e_not, e_cmp, e_chain, e_and, e_or, e_ite, e_tup, e_lst, e_lstM, e_lstS, e_dct, e_idx, e_slc, e_rev, e_isi, e_fz, e_repM, e_addM, fz_lst, fz_tup, fz_dct, m_dget, e_blt, e_call, e_mth, m_tindex, m_tcount, e_lc, l_nil, l_cons, l_star, t_nil, t_cons, o_no, o_so, i_seq, i_rng1, i_rng2, i_zip, i_enum, i_enumT, k_enumT, k_neg, k_int, k_seqT, k_seqL, k_seqF, k_starT, k_starL, k_zipT, k_zipL, k_zipM, k_zipM2, k_enum, k_rng, k_rng2, tr_bl, tr_int, tr_tup, tr_lst, s_nil, s_cons, x_expr, x_set, x_setT, x_par, x_setI, x_aug, x_cond, x_loop, x_while, x_ret, x_retN, x_pass, x_brk, x_mat, mk_nil, mk_cons, x_cont, x_run, b_lenT, b_lenL, b_lenF, b_tupT, b_tupL, b_lstT, b_lstL, b_allL, b_anyL, b_sumL, b_sumT, b_abs, b_max, b_min, b_intI, b_intB, q_ii, q_ss, mapR_some, andR_ite, orR_ite, unpK, parK, augK, setIK, setTg, setAll, wipe, blt, blt0, seqOf, lstOf, cop, bop, intOp, isiD, tyOf, atP, place, Option.map_some, Option.map_none, Option.bind_some, Option.bind_none, eq_self, reduceCtorEq, Int.reduceLE, Int.reduceLT, Int.reduceNeg, Int.reduceEq, Int.reduceToNat, Int.reduceAdd, Int.reduceSub, Nat.reduceLeDiff, reduceIte,  List.flatten_cons, List.flatten_nil, List.length_map, List.map_cons, List.map_nil, List.length_cons, List.length_nil, List.replicate_succ, List.replicate_zero, List.cons_append, List.nil_append, List.append_nil, List.set_cons_zero, List.set_cons_succ, Bool.not_true, Bool.not_false, if_true, if_false, ite_true, ite_false, Bool.false_eq_true, decide_true, decide_false, Bool.or_true, Bool.true_or, Bool.or_false, Bool.false_or, Bool.and_true, Bool.true_and, Bool.and_false, Bool.false_and, decide_eq_true_eq, Nat.reduceAdd, Nat.reduceSub, Nat.zero_add, Function.comp_apply]⟩
    rw [List.map_id] at lc
    have q := ones_nil (S := S) (xs.filter fun d => !inA al d)
    simp only [b__law_is_word, qOpt, qRet, bnd_ok, bnd_exc, bnd_err, flow_nx, flow_rt, flow_bk, flow_ct, flow_exc, end_nx, end_rt, end_exc, e_var, g_0, g_s, e_cst, e_bin, e_neg, e_not, e_cmp, e_chain, e_and, e_or, e_ite, e_tup, e_lst, e_lstM, e_lstS, e_dct, e_idx, e_slc, e_rev, e_isi, e_fz, e_repM, e_addM, fz_lst, fz_tup, fz_dct, m_dget, e_blt, e_call, e_mth, m_tindex, m_tcount, e_lc, l_nil, l_cons, l_star, t_nil, t_cons, o_no, o_so, i_seq, i_rng1, i_rng2, i_zip, i_enum, i_enumT, k_enumT, k_neg, k_int, k_seqT, k_seqL, k_seqF, k_starT, k_starL, k_zipT, k_zipL, k_zipM, k_zipM2, k_enum, k_rng, k_rng2, tr_bl, tr_int, tr_tup, tr_lst, s_nil, s_cons, x_expr, x_set, x_setT, x_par, x_setI, x_aug, x_cond, x_loop, x_while, x_ret, x_retN, x_pass, x_brk, x_mat, mk_nil, mk_cons, x_cont, x_run, b_lenT, b_lenL, b_lenF, b_tupT, b_tupL, b_lstT, b_lstL, b_allL, b_anyL, b_sumL, b_sumT, b_abs, b_max, b_min, b_intI, b_intB, q_ii, q_ss, mapR_some, andR_ite, orR_ite, unpK, parK, augK, setIK, setTg, setAll, wipe, blt, blt0, seqOf, lstOf, cop, bop, intOp, isiD, tyOf, atP, place, Option.map_some, Option.map_none, Option.bind_some, Option.bind_none, eq_self, reduceCtorEq, Int.reduceLE, Int.reduceLT, Int.reduceNeg, Int.reduceEq, Int.reduceToNat, Int.reduceAdd, Int.reduceSub, Nat.reduceLeDiff, reduceIte,  List.flatten_cons, List.flatten_nil, List.length_map, List.map_cons, List.map_nil, List.length_cons, List.length_nil, List.replicate_succ, List.replicate_zero, List.cons_append, List.nil_append, List.append_nil, List.set_cons_zero, List.set_cons_succ, Bool.not_true, Bool.not_false, if_true, if_false, ite_true, ite_false, Bool.false_eq_true, decide_true, decide_false, Bool.or_true, Bool.true_or, Bool.or_false, Bool.false_or, Bool.and_true, Bool.true_and, Bool.and_false, Bool.false_and, decide_eq_true_eq, Nat.reduceAdd, Nat.reduceSub, Nat.zero_add, Function.comp_apply, lc, q, wordF]
    congr 2
    rw [Bool.eq_iff_iff, List.isEmpty_iff, List.filter_eq_nil_iff, List.all_eq_true]
    simp
  | _ => simp only [b__law_is_word, qOpt, qRet, bnd_ok, bnd_exc, bnd_err, flow_nx, flow_rt, flow_bk, flow_ct, flow_exc, end_nx, end_rt, end_exc, e_var, g_0, g_s, e_cst, e_bin, e_neg, e_not, e_cmp, e_chain, e_and, e_or, e_ite, e_tup, e_lst, e_lstM, e_lstS, e_dct, e_idx, e_slc, e_rev, e_isi, e_fz, e_repM, e_addM, fz_lst, fz_tup, fz_dct, m_dget, e_blt, e_call, e_mth, m_tindex, m_tcount, e_lc, l_nil, l_cons, l_star, t_nil, t_cons, o_no, o_so, i_seq, i_rng1, i_rng2, i_zip, i_enum, i_enumT, k_enumT, k_neg, k_int, k_seqT, k_seqL, k_seqF, k_starT, k_starL, k_zipT, k_zipL, k_zipM, k_zipM2, k_enum, k_rng, k_rng2, tr_bl, tr_int, tr_tup, tr_lst, s_nil, s_cons, x_expr, x_set, x_setT, x_par, x_setI, x_aug, x_cond, x_loop, x_while, x_ret, x_retN, x_pass, x_brk, x_mat, mk_nil, mk_cons, x_cont, x_run, b_lenT, b_lenL, b_lenF, b_tupT, b_tupL, b_lstT, b_lstL, b_allL, b_anyL, b_sumL, b_sumT, b_abs, b_max, b_min, b_intI, b_intB, q_ii, q_ss, mapR_some, andR_ite, orR_ite, unpK, parK, augK, setIK, setTg, setAll, wipe, blt, blt0, seqOf, lstOf, cop, bop, intOp, isiD, tyOf, atP, place, Option.map_some, Option.map_none, Option.bind_some, Option.bind_none, eq_self, reduceCtorEq, Int.reduceLE, Int.reduceLT, Int.reduceNeg, Int.reduceEq, Int.reduceToNat, Int.reduceAdd, Int.reduceSub, Nat.reduceLeDiff, reduceIte,  List.flatten_cons, List.flatten_nil, List.length_map, List.map_cons, List.map_nil, List.length_cons, List.length_nil, List.replicate_succ, List.replicate_zero, List.cons_append, List.nil_append, List.append_nil, List.set_cons_zero, List.set_cons_succ, Bool.not_true, Bool.not_false, if_true, if_false, ite_true, ite_false, Bool.false_eq_true, decide_true, decide_false, Bool.or_true, Bool.true_or, Bool.or_false, Bool.false_or, Bool.and_true, Bool.true_and, Bool.and_false, Bool.false_and, decide_eq_true_eq, Nat.reduceAdd, Nat.reduceSub, Nat.zero_add, Function.comp_apply, wordF]
end
end K01

set_option linter.all false
set_option maxRecDepth 10000
namespace K01
open Ln
open PySem (PyData Str)

abbrev iv (xs : List Int) : D := .tup (xs.map D.int)
structure Al (al : List Str) : Prop where
  ok : ∀ a ∈ al, PyData.strOk a = true
  act : ∀ a ∈ al, actS a = true
  n1 : 1 ≤ al.length
  n5 : al.length ≤ 5
  asc : ascP al = true
theorem strs_sv : ∀ al : List Str, strsD (al.map .str) = some al
  | [] => rfl
  | a :: al => by simp only [List.map_cons, strsD, strs_sv al, Option.map_some]
theorem act_len {a : Str} (h : actS a = true) : a.length ≤ 8 := by
  unfold actS at h
  rw [Bool.and_eq_true, Bool.and_eq_true] at h
  exact of_decide_eq_true h.1.2
theorem vv_act {a : Str} (h : actS a = true) (ok : PyData.strOk a = true) : Vv (.str a) := .str (Nat.le_trans (act_len h) (by decide)) ok
theorem Al.vv {al : List Str} (h : Al al) : Vv (sv al) := .tup (fun x hx => by
  obtain ⟨a, ha, rfl⟩ := List.mem_map.mp hx
  exact vv_act (h.act a ha) (h.ok a ha)) (by rw [List.length_map]; have := h.n5; omega)
theorem Al.alph {al : List Str} (h : Al al) : alphF (sv al) = true := by
  have e : (al.map D.str).all actD = true := by
    rw [List.all_eq_true]
    intro x hx
    obtain ⟨a, ha, rfl⟩ := List.mem_map.mp hx
    exact h.act a ha
  simp only [alphF, List.length_map, decide_eq_true h.n1, decide_eq_true h.n5, e, ascF, strs_sv, h.asc, Bool.and_self]
section
variable {w k : Nat} {S : Store} {al : List Str}
theorem s_require_alphabet (h : Al al) : callI prog w (k + 3) 4 [sv al] S = .ok .non S := by
  rw [u_require_alphabet]
  simp only [b_require_alphabet, qOpt, qRet, bnd_ok, bnd_exc, bnd_err, flow_nx, flow_rt, flow_bk, flow_ct, flow_exc, end_nx, end_rt, end_exc, e_var, g_0, g_s, e_cst, e_bin, e_neg, e_not, e_cmp, e_chain, e_and, e_or, e_ite, e_tup, e_lst, e_lstM, e_lstS, e_dct, e_idx, e_slc, e_rev, e_isi, e_fz, e_repM, e_addM, fz_lst, fz_tup, fz_dct, m_dget, e_blt, e_call, e_mth, m_tindex, m_tcount, e_lc, l_nil, l_cons, l_star, t_nil, t_cons, o_no, o_so, i_seq, i_rng1, i_rng2, i_zip, i_enum, i_enumT, k_enumT, k_neg, k_int, k_seqT, k_seqL, k_seqF, k_starT, k_starL, k_zipT, k_zipL, k_zipM, k_zipM2, k_enum, k_rng, k_rng2, tr_bl, tr_int, tr_tup, tr_lst, s_nil, s_cons, x_expr, x_set, x_setT, x_par, x_setI, x_aug, x_cond, x_loop, x_while, x_ret, x_retN, x_pass, x_brk, x_mat, mk_nil, mk_cons, x_cont, x_run, b_lenT, b_lenL, b_lenF, b_tupT, b_tupL, b_lstT, b_lstL, b_allL, b_anyL, b_sumL, b_sumT, b_abs, b_max, b_min, b_intI, b_intB, q_ii, q_ss, mapR_some, andR_ite, orR_ite, unpK, parK, augK, setIK, setTg, setAll, wipe, blt, blt0, seqOf, lstOf, cop, bop, intOp, isiD, tyOf, atP, place, Option.map_some, Option.map_none, Option.bind_some, Option.bind_none, eq_self, reduceCtorEq, Int.reduceLE, Int.reduceLT, Int.reduceNeg, Int.reduceEq, Int.reduceToNat, Int.reduceAdd, Int.reduceSub, Nat.reduceLeDiff, reduceIte,  List.flatten_cons, List.flatten_nil, List.length_map, List.map_cons, List.map_nil, List.length_cons, List.length_nil, List.replicate_succ, List.replicate_zero, List.cons_append, List.nil_append, List.append_nil, List.set_cons_zero, List.set_cons_succ, Bool.not_true, Bool.not_false, if_true, if_false, ite_true, ite_false, Bool.false_eq_true, decide_true, decide_false, Bool.or_true, Bool.true_or, Bool.or_false, Bool.false_or, Bool.and_true, Bool.true_and, Bool.and_false, Bool.false_and, decide_eq_true_eq, Nat.reduceAdd, Nat.reduceSub, Nat.zero_add, Function.comp_apply, s_is_alphabet h.vv, h.alph]
theorem s_is_word (h : Al al) {d : D} (hd : Vv d) : callI prog w (k + 4) 8 [sv al, d] S = .ok (.bl (wordF al d)) S := by
  rw [u_is_word]
  simp only [b_is_word, qOpt, qRet, bnd_ok, bnd_exc, bnd_err, flow_nx, flow_rt, flow_bk, flow_ct, flow_exc, end_nx, end_rt, end_exc, e_var, g_0, g_s, e_cst, e_bin, e_neg, e_not, e_cmp, e_chain, e_and, e_or, e_ite, e_tup, e_lst, e_lstM, e_lstS, e_dct, e_idx, e_slc, e_rev, e_isi, e_fz, e_repM, e_addM, fz_lst, fz_tup, fz_dct, m_dget, e_blt, e_call, e_mth, m_tindex, m_tcount, e_lc, l_nil, l_cons, l_star, t_nil, t_cons, o_no, o_so, i_seq, i_rng1, i_rng2, i_zip, i_enum, i_enumT, k_enumT, k_neg, k_int, k_seqT, k_seqL, k_seqF, k_starT, k_starL, k_zipT, k_zipL, k_zipM, k_zipM2, k_enum, k_rng, k_rng2, tr_bl, tr_int, tr_tup, tr_lst, s_nil, s_cons, x_expr, x_set, x_setT, x_par, x_setI, x_aug, x_cond, x_loop, x_while, x_ret, x_retN, x_pass, x_brk, x_mat, mk_nil, mk_cons, x_cont, x_run, b_lenT, b_lenL, b_lenF, b_tupT, b_tupL, b_lstT, b_lstL, b_allL, b_anyL, b_sumL, b_sumT, b_abs, b_max, b_min, b_intI, b_intB, q_ii, q_ss, mapR_some, andR_ite, orR_ite, unpK, parK, augK, setIK, setTg, setAll, wipe, blt, blt0, seqOf, lstOf, cop, bop, intOp, isiD, tyOf, atP, place, Option.map_some, Option.map_none, Option.bind_some, Option.bind_none, eq_self, reduceCtorEq, Int.reduceLE, Int.reduceLT, Int.reduceNeg, Int.reduceEq, Int.reduceToNat, Int.reduceAdd, Int.reduceSub, Nat.reduceLeDiff, reduceIte,  List.flatten_cons, List.flatten_nil, List.length_map, List.map_cons, List.map_nil, List.length_cons, List.length_nil, List.replicate_succ, List.replicate_zero, List.cons_append, List.nil_append, List.append_nil, List.set_cons_zero, List.set_cons_succ, Bool.not_true, Bool.not_false, if_true, if_false, ite_true, ite_false, Bool.false_eq_true, decide_true, decide_false, Bool.or_true, Bool.true_or, Bool.or_false, Bool.false_or, Bool.and_true, Bool.true_and, Bool.and_false, Bool.false_and, decide_eq_true_eq, Nat.reduceAdd, Nat.reduceSub, Nat.zero_add, Function.comp_apply, s_require_alphabet h, s_is_word_of h.ok hd]
theorem vv_word (ho : ∀ a ∈ al, PyData.strOk a = true) (hc : ∀ a ∈ al, actS a = true) {ws : List Str} (hw : ∀ x ∈ ws, x ∈ al) (hl : ws.length ≤ 10000) : Vv (sv ws) := .tup (fun x hx => by
  obtain ⟨a, ha, rfl⟩ := List.mem_map.mp hx
  exact vv_act (hc a (hw a ha)) (ho a (hw a ha))) (by rw [List.length_map]; exact hl)
theorem word_of {ws : List Str} (hw : ∀ x ∈ ws, x ∈ al) : wordF al (sv ws) = true := by
  simp only [wordF, List.all_map, List.all_eq_true]
  intro x hx
  exact decide_eq_true (hw x hx)
theorem s_require_word (h : Al al) {ws : List Str} (hw : ∀ x ∈ ws, x ∈ al) (hl : ws.length ≤ 200) : callI prog w (k + 2) 5 [sv al, sv ws] S = .ok .non S := by
  have g : decide ((200 : Int) < ws.length) = false := decide_eq_false (by omega)
  have g2 : decide ((ws.length : Int) > 200) = false := decide_eq_false (by omega)
  rw [u_require_word]
  simp only [b_require_word, qOpt, qRet, bnd_ok, bnd_exc, bnd_err, flow_nx, flow_rt, flow_bk, flow_ct, flow_exc, end_nx, end_rt, end_exc, e_var, g_0, g_s, e_cst, e_bin, e_neg, e_not, e_cmp, e_chain, e_and, e_or, e_ite, e_tup, e_lst, e_lstM, e_lstS, e_dct, e_idx, e_slc, e_rev, e_isi, e_fz, e_repM, e_addM, fz_lst, fz_tup, fz_dct, m_dget, e_blt, e_call, e_mth, m_tindex, m_tcount, e_lc, l_nil, l_cons, l_star, t_nil, t_cons, o_no, o_so, i_seq, i_rng1, i_rng2, i_zip, i_enum, i_enumT, k_enumT, k_neg, k_int, k_seqT, k_seqL, k_seqF, k_starT, k_starL, k_zipT, k_zipL, k_zipM, k_zipM2, k_enum, k_rng, k_rng2, tr_bl, tr_int, tr_tup, tr_lst, s_nil, s_cons, x_expr, x_set, x_setT, x_par, x_setI, x_aug, x_cond, x_loop, x_while, x_ret, x_retN, x_pass, x_brk, x_mat, mk_nil, mk_cons, x_cont, x_run, b_lenT, b_lenL, b_lenF, b_tupT, b_tupL, b_lstT, b_lstL, b_allL, b_anyL, b_sumL, b_sumT, b_abs, b_max, b_min, b_intI, b_intB, q_ii, q_ss, mapR_some, andR_ite, orR_ite, unpK, parK, augK, setIK, setTg, setAll, wipe, blt, blt0, seqOf, lstOf, cop, bop, intOp, isiD, tyOf, atP, place, Option.map_some, Option.map_none, Option.bind_some, Option.bind_none, eq_self, reduceCtorEq, Int.reduceLE, Int.reduceLT, Int.reduceNeg, Int.reduceEq, Int.reduceToNat, Int.reduceAdd, Int.reduceSub, Nat.reduceLeDiff, reduceIte,  List.flatten_cons, List.flatten_nil, List.length_map, List.map_cons, List.map_nil, List.length_cons, List.length_nil, List.replicate_succ, List.replicate_zero, List.cons_append, List.nil_append, List.append_nil, List.set_cons_zero, List.set_cons_succ, Bool.not_true, Bool.not_false, if_true, if_false, ite_true, ite_false, Bool.false_eq_true, decide_true, decide_false, Bool.or_true, Bool.true_or, Bool.or_false, Bool.false_or, Bool.and_true, Bool.true_and, Bool.and_false, Bool.false_and, decide_eq_true_eq, Nat.reduceAdd, Nat.reduceSub, Nat.zero_add, Function.comp_apply, s_is_word_of h.ok (vv_word h.ok h.act hw (by omega)), word_of hw, g, g2]
def cnt (al ws : List Str) : List Int := al.map fun a => (ws.count a : Int)
theorem s_counts_in {ws : List Str} : callI prog w (k + 1) 3 [sv al, sv ws] S = .ok (iv (cnt al ws)) S := by
  rw [u_counts_in]
  simp only [b_counts_in, qOpt, qRet, bnd_ok, bnd_exc, bnd_err, flow_nx, flow_rt, flow_bk, flow_ct, flow_exc, end_nx, end_rt, end_exc, e_var, g_0, g_s, e_cst, e_bin, e_neg, e_not, e_cmp, e_chain, e_and, e_or, e_ite, e_tup, e_lst, e_lstM, e_lstS, e_dct, e_idx, e_slc, e_rev, e_isi, e_fz, e_repM, e_addM, fz_lst, fz_tup, fz_dct, m_dget, e_blt, e_call, e_mth, m_tindex, m_tcount, e_lc, l_nil, l_cons, l_star, t_nil, t_cons, o_no, o_so, i_seq, i_rng1, i_rng2, i_zip, i_enum, i_enumT, k_enumT, k_neg, k_int, k_seqT, k_seqL, k_seqF, k_starT, k_starL, k_zipT, k_zipL, k_zipM, k_zipM2, k_enum, k_rng, k_rng2, tr_bl, tr_int, tr_tup, tr_lst, s_nil, s_cons, x_expr, x_set, x_setT, x_par, x_setI, x_aug, x_cond, x_loop, x_while, x_ret, x_retN, x_pass, x_brk, x_mat, mk_nil, mk_cons, x_cont, x_run, b_lenT, b_lenL, b_lenF, b_tupT, b_tupL, b_lstT, b_lstL, b_allL, b_anyL, b_sumL, b_sumT, b_abs, b_max, b_min, b_intI, b_intB, q_ii, q_ss, mapR_some, andR_ite, orR_ite, unpK, parK, augK, setIK, setTg, setAll, wipe, blt, blt0, seqOf, lstOf, cop, bop, intOp, isiD, tyOf, atP, place, Option.map_some, Option.map_none, Option.bind_some, Option.bind_none, eq_self, reduceCtorEq, Int.reduceLE, Int.reduceLT, Int.reduceNeg, Int.reduceEq, Int.reduceToNat, Int.reduceAdd, Int.reduceSub, Nat.reduceLeDiff, reduceIte,  List.flatten_cons, List.flatten_nil, List.length_map, List.map_cons, List.map_nil, List.length_cons, List.length_nil, List.replicate_succ, List.replicate_zero, List.cons_append, List.nil_append, List.append_nil, List.set_cons_zero, List.set_cons_succ, Bool.not_true, Bool.not_false, if_true, if_false, ite_true, ite_false, Bool.false_eq_true, decide_true, decide_false, Bool.or_true, Bool.true_or, Bool.or_false, Bool.false_or, Bool.and_true, Bool.true_and, Bool.and_false, Bool.false_and, decide_eq_true_eq, Nat.reduceAdd, Nat.reduceSub, Nat.zero_add, Function.comp_apply]
  rw [lcM_map D.str (fun a => D.int (ws.count a)) al fun x hx => ⟨_, rfl, by simp only [qOpt, qRet, bnd_ok, bnd_exc, bnd_err, flow_nx, flow_rt, flow_bk, flow_ct, flow_exc, end_nx, end_rt, end_exc, e_var, g_0, g_s, e_cst, e_bin, e_neg, e_not, e_cmp, e_chain, e_and, e_or, e_ite, e_tup, e_lst, e_lstM, e_lstS, e_dct, e_idx, e_slc, e_rev, e_isi, e_fz, e_repM, e_addM, fz_lst, fz_tup, fz_dct, m_dget, e_blt, e_call, e_mth, m_tindex, m_tcount, e_lc, l_nil, l_cons, l_star, t_nil, t_cons, o_no, o_so, i_seq, i_rng1, i_rng2, i_zip, i_enum, i_enumT, k_enumT, k_neg, k_int, k_seqT, k_seqL, k_seqF, k_starT, k_starL, k_zipT, k_zipL, k_zipM, k_zipM2, k_enum, k_rng, k_rng2, tr_bl, tr_int, tr_tup, tr_lst, s_nil, s_cons, x_expr, x_set, x_setT, x_par, x_setI, x_aug, x_cond, x_loop, x_while, x_ret, x_retN, x_pass, x_brk, x_mat, mk_nil, mk_cons, x_cont, x_run, b_lenT, b_lenL, b_lenF, b_tupT, b_tupL, b_lstT, b_lstL, b_allL, b_anyL, b_sumL, b_sumT, b_abs, b_max, b_min, b_intI, b_intB, q_ii, q_ss, mapR_some, andR_ite, orR_ite, unpK, parK, augK, setIK, setTg, setAll, wipe, blt, blt0, seqOf, lstOf, cop, bop, intOp, isiD, tyOf, atP, place, Option.map_some, Option.map_none, Option.bind_some, Option.bind_none, eq_self, reduceCtorEq, Int.reduceLE, Int.reduceLT, Int.reduceNeg, Int.reduceEq, Int.reduceToNat, Int.reduceAdd, Int.reduceSub, Nat.reduceLeDiff, reduceIte,  List.flatten_cons, List.flatten_nil, List.length_map, List.map_cons, List.map_nil, List.length_cons, List.length_nil, List.replicate_succ, List.replicate_zero, List.cons_append, List.nil_append, List.append_nil, List.set_cons_zero, List.set_cons_succ, Bool.not_true, Bool.not_false, if_true, if_false, ite_true, ite_false, Bool.false_eq_true, decide_true, decide_false, Bool.or_true, Bool.true_or, Bool.or_false, Bool.false_or, Bool.and_true, Bool.true_and, Bool.and_false, Bool.false_and, decide_eq_true_eq, Nat.reduceAdd, Nat.reduceSub, Nat.zero_add, Function.comp_apply, tcountF, strs_map]⟩]
  simp only [qOpt, qRet, bnd_ok, bnd_exc, bnd_err, flow_nx, flow_rt, flow_bk, flow_ct, flow_exc, end_nx, end_rt, end_exc, e_var, g_0, g_s, e_cst, e_bin, e_neg, e_not, e_cmp, e_chain, e_and, e_or, e_ite, e_tup, e_lst, e_lstM, e_lstS, e_dct, e_idx, e_slc, e_rev, e_isi, e_fz, e_repM, e_addM, fz_lst, fz_tup, fz_dct, m_dget, e_blt, e_call, e_mth, m_tindex, m_tcount, e_lc, l_nil, l_cons, l_star, t_nil, t_cons, o_no, o_so, i_seq, i_rng1, i_rng2, i_zip, i_enum, i_enumT, k_enumT, k_neg, k_int, k_seqT, k_seqL, k_seqF, k_starT, k_starL, k_zipT, k_zipL, k_zipM, k_zipM2, k_enum, k_rng, k_rng2, tr_bl, tr_int, tr_tup, tr_lst, s_nil, s_cons, x_expr, x_set, x_setT, x_par, x_setI, x_aug, x_cond, x_loop, x_while, x_ret, x_retN, x_pass, x_brk, x_mat, mk_nil, mk_cons, x_cont, x_run, b_lenT, b_lenL, b_lenF, b_tupT, b_tupL, b_lstT, b_lstL, b_allL, b_anyL, b_sumL, b_sumT, b_abs, b_max, b_min, b_intI, b_intB, q_ii, q_ss, mapR_some, andR_ite, orR_ite, unpK, parK, augK, setIK, setTg, setAll, wipe, blt, blt0, seqOf, lstOf, cop, bop, intOp, isiD, tyOf, atP, place, Option.map_some, Option.map_none, Option.bind_some, Option.bind_none, eq_self, reduceCtorEq, Int.reduceLE, Int.reduceLT, Int.reduceNeg, Int.reduceEq, Int.reduceToNat, Int.reduceAdd, Int.reduceSub, Nat.reduceLeDiff, reduceIte,  List.flatten_cons, List.flatten_nil, List.length_map, List.map_cons, List.map_nil, List.length_cons, List.length_nil, List.replicate_succ, List.replicate_zero, List.cons_append, List.nil_append, List.append_nil, List.set_cons_zero, List.set_cons_succ, Bool.not_true, Bool.not_false, if_true, if_false, ite_true, ite_false, Bool.false_eq_true, decide_true, decide_false, Bool.or_true, Bool.true_or, Bool.or_false, Bool.false_or, Bool.and_true, Bool.true_and, Bool.and_false, Bool.false_and, decide_eq_true_eq, Nat.reduceAdd, Nat.reduceSub, Nat.zero_add, Function.comp_apply, cnt, iv, List.map_map, Function.comp_def]
theorem s_counts_of (h : Al al) {ws : List Str} (hw : ∀ x ∈ ws, x ∈ al) (hl : ws.length ≤ 200) : callI prog w (k + 4) 9 [sv al, sv ws] S = .ok (iv (cnt al ws)) S := by
  rw [u_counts_of]
  simp only [b_counts_of, qOpt, qRet, bnd_ok, bnd_exc, bnd_err, flow_nx, flow_rt, flow_bk, flow_ct, flow_exc, end_nx, end_rt, end_exc, e_var, g_0, g_s, e_cst, e_bin, e_neg, e_not, e_cmp, e_chain, e_and, e_or, e_ite, e_tup, e_lst, e_lstM, e_lstS, e_dct, e_idx, e_slc, e_rev, e_isi, e_fz, e_repM, e_addM, fz_lst, fz_tup, fz_dct, m_dget, e_blt, e_call, e_mth, m_tindex, m_tcount, e_lc, l_nil, l_cons, l_star, t_nil, t_cons, o_no, o_so, i_seq, i_rng1, i_rng2, i_zip, i_enum, i_enumT, k_enumT, k_neg, k_int, k_seqT, k_seqL, k_seqF, k_starT, k_starL, k_zipT, k_zipL, k_zipM, k_zipM2, k_enum, k_rng, k_rng2, tr_bl, tr_int, tr_tup, tr_lst, s_nil, s_cons, x_expr, x_set, x_setT, x_par, x_setI, x_aug, x_cond, x_loop, x_while, x_ret, x_retN, x_pass, x_brk, x_mat, mk_nil, mk_cons, x_cont, x_run, b_lenT, b_lenL, b_lenF, b_tupT, b_tupL, b_lstT, b_lstL, b_allL, b_anyL, b_sumL, b_sumT, b_abs, b_max, b_min, b_intI, b_intB, q_ii, q_ss, mapR_some, andR_ite, orR_ite, unpK, parK, augK, setIK, setTg, setAll, wipe, blt, blt0, seqOf, lstOf, cop, bop, intOp, isiD, tyOf, atP, place, Option.map_some, Option.map_none, Option.bind_some, Option.bind_none, eq_self, reduceCtorEq, Int.reduceLE, Int.reduceLT, Int.reduceNeg, Int.reduceEq, Int.reduceToNat, Int.reduceAdd, Int.reduceSub, Nat.reduceLeDiff, reduceIte,  List.flatten_cons, List.flatten_nil, List.length_map, List.map_cons, List.map_nil, List.length_cons, List.length_nil, List.replicate_succ, List.replicate_zero, List.cons_append, List.nil_append, List.append_nil, List.set_cons_zero, List.set_cons_succ, Bool.not_true, Bool.not_false, if_true, if_false, ite_true, ite_false, Bool.false_eq_true, decide_true, decide_false, Bool.or_true, Bool.true_or, Bool.or_false, Bool.false_or, Bool.and_true, Bool.true_and, Bool.and_false, Bool.false_and, decide_eq_true_eq, Nat.reduceAdd, Nat.reduceSub, Nat.zero_add, Function.comp_apply, s_require_alphabet h, s_require_word h hw hl, s_counts_in]
end
end K01

set_option linter.all false
set_option maxRecDepth 10000
namespace K01
open Ln
open PySem (PyData Str)
theorem hmixed : prog[13]? = some ⟨2, false, 4, b_mixed 11⟩ := rfl
theorem hword : prog[14]? = some ⟨3, false, 4, b_word 12 11⟩ := rfl
theorem hodd : prog[16]? = some ⟨1, false, 2, b_odd 12⟩ := rfl
theorem hbent : prog[17]? = some ⟨3, false, 5, b_bent 11 12 16 17⟩ := rfl
theorem vv_dt {dc : Bool} {N k : Nat} {d : D} (hN : N ≤ 3000) (r : Dt dc N k d) : Vv d := by
  induction r with
  | non => exact .non
  | bl b => exact .bl b
  | int hi => exact .int _
  | str h1 h2 => exact .str (by omega) (asc_ok h2)
  | tup h1 _ ih => exact .tup ih (by omega)
  | lst h1 _ ih => exact .lst ih (by omega)
  | dct h => exact .dct
/-- one to eight small letters -/
structure Wd (x : Str) : Prop where
  n1 : 1 ≤ x.length
  n8 : x.length ≤ 8
  lo : ∀ c ∈ x.cps.toList, 97 ≤ c
  hi : ∀ c ∈ x.cps.toList, c < 123
theorem low_of {c : Nat} (h1 : 97 ≤ c) (h2 : c < 123) : low c = true := by
  have q : ((List.range 26).all fun i => low (97 + i)) = true := by decide +kernel
  have := List.all_eq_true.mp q (c - 97) (List.mem_range.mpr (by omega))
  rwa [show 97 + (c - 97) = c by omega] at this
theorem Wd.act {x : Str} (h : Wd x) : actS x = true := by
  unfold actS
  rw [decide_eq_true h.n1, decide_eq_true h.n8, Bool.and_self, Bool.true_and, List.all_eq_true]
  exact fun c hc => low_of (h.lo c hc) (h.hi c hc)
theorem Wd.ok {x : Str} (h : Wd x) : PyData.strOk x = true := asc_ok fun c hc => by have := h.hi c hc; omega
theorem Wd.dt {N k : Nat} {x : Str} (h : Wd x) : Dt false N k (.str x) := .str (by have := h.n8; omega) fun c hc => by have := h.hi c hc; omega
theorem wds_dt {N k : Nat} {xs : List Str} (h : ∀ x ∈ xs, Wd x) (hl : xs.length ≤ 1000) : Dt false N (k + 1) (sv xs) := .tup (by rw [List.length_map]; omega) fun d hd => by
  obtain ⟨x, hx, rfl⟩ := List.mem_map.mp hd
  exact (h x hx).dt
/-- the drawn ones, sorted, are an alphabet -/
theorem al_sorted {xs : List Str} (h : ∀ x ∈ xs, Wd x) (nd : xs.Nodup) (h1 : 1 ≤ xs.length) (h5 : xs.length ≤ 5) : Al (xs.mergeSort leS) := by
  have m : ∀ x ∈ xs.mergeSort leS, Wd x := fun x hx => h x (List.mem_mergeSort.mp hx)
  refine ⟨fun a ha => (m a ha).ok, fun a ha => (m a ha).act, by rw [List.length_mergeSort]; exact h1, by rw [List.length_mergeSort]; exact h5, ?_⟩
  rw [asc_pw]
  have so := List.pairwise_mergeSort leS_tr leS_tot xs
  have nd' : (xs.mergeSort leS).Nodup := (List.mergeSort_perm xs leS).nodup_iff.mpr nd
  exact (so.and nd').imp fun {a b} z => ltS_iff.mpr z
end K01

set_option linter.all false
set_option maxRecDepth 10000
set_option exponentiation.threshold 10000
namespace K01
open Ln
open PySem (PyData Str)
abbrev sg (c : Nat) : Str := ⟨#[c]⟩
theorem join_sg : ∀ cs : List Nat, PySem.Txt.join "" (cs.map sg) = ⟨cs.toArray⟩ := by
  intro cs
  show PySem.Builtin.Str.glued "" (cs.map sg) = _
  rw [PySem.StrLaws.glued_eq_join]
  have app : ∀ a b : Str, a ++ b = ⟨a.cps ++ b.cps⟩ := fun _ _ => rfl
  induction cs with
  | nil => rfl
  | cons c cs ih =>
    cases cs with
    | nil => rfl
    | cons c2 cs =>
      show sg c ++ "" ++ PySem.Str.join "" ((c2 :: cs).map sg) = _
      rw [ih, app, app]
      have : (Str.cps "") = #[] := by decide +kernel
      simp [this]
theorem sign_at {S : Store} {r : Nat} (h : r < 26) : idxD S (.str "abcdefghijklmnopqrstuvwxyz") (.int r) = some (.str (sg (97 + r))) := by
  have q : ((List.range 26).all fun r => atP (Str.cps "abcdefghijklmnopqrstuvwxyz").toList (r : Int) == some (97 + r)) = true := by decide +kernel
  have := List.all_eq_true.mp q r (List.mem_range.mpr h)
  have e : (Str.length "abcdefghijklmnopqrstuvwxyz") ≤ line := le_line (by decide +kernel)
  unfold idxD
  simp only [if_pos e]
  rw [beq_iff_eq.mp this]
  rfl
theorem strs_sg : ∀ {ys : List D}, (∀ y ∈ ys, ∃ c, 97 ≤ c ∧ c < 123 ∧ y = D.str (sg c)) → ∃ cs : List Nat, strsD ys = some (cs.map sg) ∧ cs.length = ys.length ∧ ∀ c ∈ cs, 97 ≤ c ∧ c < 123
  | [], _ => ⟨[], rfl, rfl, by simp⟩
  | y :: ys, h => by
    obtain ⟨c, c1, c2, rfl⟩ := h y List.mem_cons_self
    obtain ⟨cs, e, l, m⟩ := strs_sg fun y hy => h y (List.mem_cons_of_mem _ hy)
    refine ⟨c :: cs, by simp only [strsD, e, Option.map_some, List.map_cons], by simp [l], fun z hz => ?_⟩
    rcases List.mem_cons.mp hz with rfl | hz
    · exact ⟨c1, c2⟩
    · exact m z hz
section
variable {w k n b : Nat} {S : Store}
theorem wd_of {cs : List Nat} (h : ∀ c ∈ cs, 97 ≤ c ∧ c < 123) (h1 : 1 ≤ cs.length) (h8 : cs.length ≤ 8) : Wd ⟨cs.toArray⟩ :=
  ⟨by simpa [Str.length] using h1, by simpa [Str.length] using h8, fun c hc => (h c (by simpa using hc)).1, fun c hc => (h c (by simpa using hc)).2⟩
/-- a drawn action -/
theorem s_sign (hs : Strm n S) {o2 o3 o4 o5 : Option D} : ∃ x S', ev (callI prog w (k + 1)) (.mth .sjoin (.cst (.str "")) (.cons (.lc (.idx (.var 1) (.call 11 (.cons (.var 0) (.cons (.cst (.int 26)) .nil)))) (.nm 5) (.rng1 (.bin .add (.cst (.int 1)) (.call 11 (.cons (.var 0) (.cons (.cst (.int 8)) .nil))))) .nil [5]) .nil)) [some (.ref n), some (.str "abcdefghijklmnopqrstuvwxyz"), o2, o3, o4, o5] S = .ok (.str x) S' ∧ Wd x ∧ Kp n S S' := by
  obtain ⟨r, S1, e1, r1, k1⟩ := drawK (w := w) (k := k) hdraw hs (t := 8) (by decide) (by decide)
  obtain ⟨ys, S2, e2, k2, hl, hp⟩ := lcM_inv (cf := callI prog w (k + 1)) (ρ := [some (.ref n), some (.str "abcdefghijklmnopqrstuvwxyz"), o2, o3, o4, o5]) (S := S1) (elt := .idx (.var 1) (.call 11 (.cons (.var 0) (.cons (.cst (.int 26)) .nil)))) (tg := .nm 5) (own := [5]) (fun i : Nat => D.int i) (Kp n S) (fun d => ∃ c, 97 ≤ c ∧ c < 123 ∧ d = .str (sg c)) (List.range (1 + r)) (fun _ _ S' hS => by
    obtain ⟨q, S3, e3, q1, k3⟩ := drawK (w := w) (k := k) hdraw hS.s (t := 26) (by decide) (by decide)
    have e3 : callI prog w (k + 1) 11 [.ref n, .int 26] S' = .ok (.int q) S3 := e3
    exact ⟨_, _, S3, rfl, by simp only [qOpt, qRet, bnd_ok, bnd_exc, bnd_err, flow_nx, flow_rt, flow_bk, flow_ct, flow_exc, end_nx, end_rt, end_exc, e_var, g_0, g_s, e_cst, e_bin, e_neg, e_not, e_cmp, e_chain, e_and, e_or, e_ite, e_tup, e_lst, e_lstM, e_lstS, e_dct, e_idx, e_slc, e_rev, e_isi, e_fz, e_repM, e_addM, fz_lst, fz_tup, fz_dct, m_dget, e_blt, e_call, e_mth, m_tindex, m_tcount, e_lc, l_nil, l_cons, l_star, t_nil, t_cons, o_no, o_so, i_seq, i_rng1, i_rng2, i_zip, i_enum, i_enumT, k_enumT, k_neg, k_int, k_seqT, k_seqL, k_seqF, k_starT, k_starL, k_zipT, k_zipL, k_zipM, k_zipM2, k_enum, k_rng, k_rng2, tr_bl, tr_int, tr_tup, tr_lst, s_nil, s_cons, x_expr, x_set, x_setT, x_par, x_setI, x_aug, x_cond, x_loop, x_while, x_ret, x_retN, x_pass, x_brk, x_mat, mk_nil, mk_cons, x_cont, x_run, b_lenT, b_lenL, b_lenF, b_tupT, b_tupL, b_lstT, b_lstL, b_allL, b_anyL, b_sumL, b_sumT, b_abs, b_max, b_min, b_intI, b_intB, q_ii, q_ss, mapR_some, andR_ite, orR_ite, unpK, parK, augK, setIK, setTg, setAll, wipe, blt, blt0, seqOf, lstOf, cop, bop, intOp, isiD, tyOf, atP, place, Option.map_some, Option.map_none, Option.bind_some, Option.bind_none, eq_self, reduceCtorEq, Int.reduceLE, Int.reduceLT, Int.reduceNeg, Int.reduceEq, Int.reduceToNat, Int.reduceAdd, Int.reduceSub, Nat.reduceLeDiff, reduceIte,  List.flatten_cons, List.flatten_nil, List.length_map, List.map_cons, List.map_nil, List.length_cons, List.length_nil, List.replicate_succ, List.replicate_zero, List.cons_append, List.nil_append, List.append_nil, List.set_cons_zero, List.set_cons_succ, Bool.not_true, Bool.not_false, if_true, if_false, ite_true, ite_false, Bool.false_eq_true, decide_true, decide_false, Bool.or_true, Bool.true_or, Bool.or_false, Bool.false_or, Bool.and_true, Bool.true_and, Bool.and_false, Bool.false_and, decide_eq_true_eq, Nat.reduceAdd, Nat.reduceSub, Nat.zero_add, Function.comp_apply, e3, sign_at q1], hS.trans k3, 97 + q, by omega, by omega, rfl⟩) k1
  obtain ⟨cs, f1, f2, f3⟩ := strs_sg hp
  have hl' : cs.length = 1 + r := by rw [f2, hl, List.length_range]
  refine ⟨⟨cs.toArray⟩, S2, ?_, wd_of f3 (by omega) (by omega), k2⟩
  have hq : 1 + r ≤ line := le_line (by omega)
  have ng : ¬ ((1 : Int) + r < 0) := by omega
  have jn : ∀ S, joinF S [.str "", .lst ys] = some (.str ⟨cs.toArray⟩) := fun S => by
    have : ((cs.map sg).map (·.length)).sum + (cs.map sg).length * Str.length "" ≤ 16777216 := by
      rw [List.map_map]
      have : (cs.map ((·.length) ∘ sg)) = List.replicate cs.length 1 := by
        rw [List.map_eq_replicate_iff]
        intro c _
        rfl
      rw [this, List.sum_replicate_nat, List.length_map]
      have : Str.length "" = 0 := by decide +kernel
      rw [this]
      omega
    simp only [joinF, seqOf, Option.bind_some, f1, if_pos this, join_sg]
  have e1 : callI prog w (k + 1) 11 [.ref n, .int 8] S = .ok (.int r) S1 := e1
  have ei : (1 : Int) + r = ((1 + r : Nat) : Int) := by omega
  have mo : ∀ S, mthOk .sjoin (.str "") S = some () := fun _ => rfl
  simp only [qOpt, qRet, bnd_ok, bnd_exc, bnd_err, flow_nx, flow_rt, flow_bk, flow_ct, flow_exc, end_nx, end_rt, end_exc, e_var, g_0, g_s, e_cst, e_bin, e_neg, e_not, e_cmp, e_chain, e_and, e_or, e_ite, e_tup, e_lst, e_lstM, e_lstS, e_dct, e_idx, e_slc, e_rev, e_isi, e_fz, e_repM, e_addM, fz_lst, fz_tup, fz_dct, m_dget, e_blt, e_call, e_mth, m_tindex, m_tcount, e_lc, l_nil, l_cons, l_star, t_nil, t_cons, o_no, o_so, i_seq, i_rng1, i_rng2, i_zip, i_enum, i_enumT, k_enumT, k_neg, k_int, k_seqT, k_seqL, k_seqF, k_starT, k_starL, k_zipT, k_zipL, k_zipM, k_zipM2, k_enum, k_rng, k_rng2, tr_bl, tr_int, tr_tup, tr_lst, s_nil, s_cons, x_expr, x_set, x_setT, x_par, x_setI, x_aug, x_cond, x_loop, x_while, x_ret, x_retN, x_pass, x_brk, x_mat, mk_nil, mk_cons, x_cont, x_run, b_lenT, b_lenL, b_lenF, b_tupT, b_tupL, b_lstT, b_lstL, b_allL, b_anyL, b_sumL, b_sumT, b_abs, b_max, b_min, b_intI, b_intB, q_ii, q_ss, mapR_some, andR_ite, orR_ite, unpK, parK, augK, setIK, setTg, setAll, wipe, blt, blt0, seqOf, lstOf, cop, bop, intOp, isiD, tyOf, atP, place, Option.map_some, Option.map_none, Option.bind_some, Option.bind_none, eq_self, reduceCtorEq, Int.reduceLE, Int.reduceLT, Int.reduceNeg, Int.reduceEq, Int.reduceToNat, Int.reduceAdd, Int.reduceSub, Nat.reduceLeDiff, reduceIte,  List.flatten_cons, List.flatten_nil, List.length_map, List.map_cons, List.map_nil, List.length_cons, List.length_nil, List.replicate_succ, List.replicate_zero, List.cons_append, List.nil_append, List.append_nil, List.set_cons_zero, List.set_cons_succ, Bool.not_true, Bool.not_false, if_true, if_false, ite_true, ite_false, Bool.false_eq_true, decide_true, decide_false, Bool.or_true, Bool.true_or, Bool.or_false, Bool.false_or, Bool.and_true, Bool.true_and, Bool.and_false, Bool.false_and, decide_eq_true_eq, Nat.reduceAdd, Nat.reduceSub, Nat.zero_add, Function.comp_apply, mo, mapR_some, bnd_ok, e1, ei, k_rng hq, e2, jn]
end
end K01

set_option linter.all false
set_option maxRecDepth 10000
set_option exponentiation.threshold 10000
namespace K01
open Ln
open PySem (PyData Str)
theorem inR {S : Store} {b : Nat} {x : Str} {xs : List Str} (hb : S[b]? = some (.lst (xs.map .str))) (h : ∀ a ∈ xs, PyData.strOk a = true) (hx : PyData.strOk x = true) : inD S (.str x) (.ref b) = some (decide (x ∈ xs)) := by
  rw [← inS (S := S) h hx]
  unfold inD
  simp only [seqOf, hb]
abbrev abc : D := .str "abcdefghijklmnopqrstuvwxyz"
abbrev actB : Sms :=
  (.cons (.set 4 (.mth .sjoin (.cst (.str "")) (.cons (.lc (.idx (.var 1) (.call 11 (.cons (.var 0) (.cons (.cst (.int 26)) .nil)))) (.nm 5) (.rng1 (.bin .add (.cst (.int 1)) (.call 11 (.cons (.var 0) (.cons (.cst (.int 8)) .nil))))) .nil [5]) .nil)))
  (.cons (.cond (.cmp .notIn (.var 4) (.var 2))
  (.cons (.expr (.mth .append (.var 2) (.cons (.var 4) .nil)))
  .nil) .nil)
  .nil))
section
variable {w k n b : Nat} {S : Store}
/-- one turn -/
theorem act_turn (hs : Strm n S) (hnb : n ≠ b) {xs : List Str} (hb : S[b]? = some (.lst (xs.map .str))) (hw : ∀ x ∈ xs, Wd x) (nd : xs.Nodup) (hl : xs.length < 100) {o3 o4 o5 : Option D} :
    ∃ (ys : List Str) (o4' : Option D) (S' : Store), execs (callI prog w (k + 1)) w actB [some (.ref n), some abc, some (.ref b), o3, o4, o5] S = .ok (.nx, [some (.ref n), some abc, some (.ref b), o3, o4', o5]) S' ∧ Strm n S' ∧ S'[b]? = some (.lst (ys.map .str)) ∧ S'.length = S.length ∧ (∀ m, m ≠ n → m ≠ b → S'[m]? = S[m]?) ∧
      (∀ x ∈ ys, Wd x) ∧ ys.Nodup ∧ ys.length ≤ xs.length + 1 ∧ 1 ≤ ys.length := by
  obtain ⟨x, S1, e1, hx, k1⟩ := s_sign (w := w) (k := k) hs (o2 := some (.ref b)) (o3 := o3) (o4 := o4) (o5 := o5)
  have hb1 : S1[b]? = some (.lst (xs.map .str)) := by rw [k1.o b (Ne.symm hnb)]; exact hb
  have hi := inR hb1 (fun a ha => (hw a ha).ok) hx.ok
  have s1 : exec (callI prog w (k + 1)) w (.set 4 (.mth .sjoin (.cst (.str "")) (.cons (.lc (.idx (.var 1) (.call 11 (.cons (.var 0) (.cons (.cst (.int 26)) .nil)))) (.nm 5) (.rng1 (.bin .add (.cst (.int 1)) (.call 11 (.cons (.var 0) (.cons (.cst (.int 8)) .nil))))) .nil [5]) .nil))) [some (.ref n), some abc, some (.ref b), o3, o4, o5] S = .ok (.nx, [some (.ref n), some abc, some (.ref b), o3, some (.str x), o5]) S1 := by
    rw [x_set, e1]
    rfl
  unfold actB
  rw [s_cons, s1, flow_nx]
  by_cases h : x ∈ xs
  · have d : decide (x ∈ xs) = true := decide_eq_true h
    refine ⟨xs, some (.str x), S1, ?_, k1.s, hb1, k1.l, fun m hm _ => k1.o m hm, hw, nd, by omega, List.length_pos_iff.mpr fun e => by rw [e] at h; exact absurd h List.not_mem_nil⟩
    simp only [qOpt, qRet, bnd_ok, bnd_exc, bnd_err, flow_nx, flow_rt, flow_bk, flow_ct, flow_exc, end_nx, end_rt, end_exc, e_var, g_0, g_s, e_cst, e_bin, e_neg, e_not, e_cmp, e_chain, e_and, e_or, e_ite, e_tup, e_lst, e_lstM, e_lstS, e_dct, e_idx, e_slc, e_rev, e_isi, e_fz, e_repM, e_addM, fz_lst, fz_tup, fz_dct, m_dget, e_blt, e_call, e_mth, m_tindex, m_tcount, e_lc, l_nil, l_cons, l_star, t_nil, t_cons, o_no, o_so, i_seq, i_rng1, i_rng2, i_zip, i_enum, i_enumT, k_enumT, k_neg, k_int, k_seqT, k_seqL, k_seqF, k_starT, k_starL, k_zipT, k_zipL, k_zipM, k_zipM2, k_enum, k_rng, k_rng2, tr_bl, tr_int, tr_tup, tr_lst, s_nil, s_cons, x_expr, x_set, x_setT, x_par, x_setI, x_aug, x_cond, x_loop, x_while, x_ret, x_retN, x_pass, x_brk, x_mat, mk_nil, mk_cons, x_cont, x_run, b_lenT, b_lenL, b_lenF, b_tupT, b_tupL, b_lstT, b_lstL, b_allL, b_anyL, b_sumL, b_sumT, b_abs, b_max, b_min, b_intI, b_intB, q_ii, q_ss, mapR_some, andR_ite, orR_ite, unpK, parK, augK, setIK, setTg, setAll, wipe, blt, blt0, seqOf, lstOf, cop, bop, intOp, isiD, tyOf, atP, place, Option.map_some, Option.map_none, Option.bind_some, Option.bind_none, eq_self, reduceCtorEq, Int.reduceLE, Int.reduceLT, Int.reduceNeg, Int.reduceEq, Int.reduceToNat, Int.reduceAdd, Int.reduceSub, Nat.reduceLeDiff, reduceIte,  List.flatten_cons, List.flatten_nil, List.length_map, List.map_cons, List.map_nil, List.length_cons, List.length_nil, List.replicate_succ, List.replicate_zero, List.cons_append, List.nil_append, List.append_nil, List.set_cons_zero, List.set_cons_succ, Bool.not_true, Bool.not_false, if_true, if_false, ite_true, ite_false, Bool.false_eq_true, decide_true, decide_false, Bool.or_true, Bool.true_or, Bool.or_false, Bool.false_or, Bool.and_true, Bool.true_and, Bool.and_false, Bool.false_and, decide_eq_true_eq, Nat.reduceAdd, Nat.reduceSub, Nat.zero_add, Function.comp_apply, hi, d]
  · have d : decide (x ∈ xs) = false := decide_eq_false h
    have h1 : (xs.map D.str).length < line := by rw [List.length_map]; exact Nat.lt_of_lt_of_le hl (le_line (by decide))
    refine ⟨xs ++ [x], some (.str x), S1.set b (.lst ((xs ++ [x]).map .str)), ?_, ?_, ?_, by rw [List.length_set]; exact k1.l, fun m hm hm2 => by rw [List.getElem?_set_ne (Ne.symm hm2)]; exact k1.o m hm, ?_, ?_, by simp, by simp⟩
    · simp only [qOpt, qRet, bnd_ok, bnd_exc, bnd_err, flow_nx, flow_rt, flow_bk, flow_ct, flow_exc, end_nx, end_rt, end_exc, e_var, g_0, g_s, e_cst, e_bin, e_neg, e_not, e_cmp, e_chain, e_and, e_or, e_ite, e_tup, e_lst, e_lstM, e_lstS, e_dct, e_idx, e_slc, e_rev, e_isi, e_fz, e_repM, e_addM, fz_lst, fz_tup, fz_dct, m_dget, e_blt, e_call, e_mth, m_tindex, m_tcount, e_lc, l_nil, l_cons, l_star, t_nil, t_cons, o_no, o_so, i_seq, i_rng1, i_rng2, i_zip, i_enum, i_enumT, k_enumT, k_neg, k_int, k_seqT, k_seqL, k_seqF, k_starT, k_starL, k_zipT, k_zipL, k_zipM, k_zipM2, k_enum, k_rng, k_rng2, tr_bl, tr_int, tr_tup, tr_lst, s_nil, s_cons, x_expr, x_set, x_setT, x_par, x_setI, x_aug, x_cond, x_loop, x_while, x_ret, x_retN, x_pass, x_brk, x_mat, mk_nil, mk_cons, x_cont, x_run, b_lenT, b_lenL, b_lenF, b_tupT, b_tupL, b_lstT, b_lstL, b_allL, b_anyL, b_sumL, b_sumT, b_abs, b_max, b_min, b_intI, b_intB, q_ii, q_ss, mapR_some, andR_ite, orR_ite, unpK, parK, augK, setIK, setTg, setAll, wipe, blt, blt0, seqOf, lstOf, cop, bop, intOp, isiD, tyOf, atP, place, Option.map_some, Option.map_none, Option.bind_some, Option.bind_none, eq_self, reduceCtorEq, Int.reduceLE, Int.reduceLT, Int.reduceNeg, Int.reduceEq, Int.reduceToNat, Int.reduceAdd, Int.reduceSub, Nat.reduceLeDiff, reduceIte,  List.flatten_cons, List.flatten_nil, List.length_map, List.map_cons, List.map_nil, List.length_cons, List.length_nil, List.replicate_succ, List.replicate_zero, List.cons_append, List.nil_append, List.append_nil, List.set_cons_zero, List.set_cons_succ, Bool.not_true, Bool.not_false, if_true, if_false, ite_true, ite_false, Bool.false_eq_true, decide_true, decide_false, Bool.or_true, Bool.true_or, Bool.or_false, Bool.false_or, Bool.and_true, Bool.true_and, Bool.and_false, Bool.false_and, decide_eq_true_eq, Nat.reduceAdd, Nat.reduceSub, Nat.zero_add, Function.comp_apply, hi, d, m_append hb1, m_appendR hb1 h1, mapR_some, bnd_ok, List.map_append, List.map_cons, List.map_nil]
    · obtain ⟨a, c, e, q⟩ := k1.s
      exact ⟨a, c, e, by rw [List.getElem?_set_ne (Ne.symm hnb)]; exact q⟩
    · have : b < S1.length := (List.getElem?_eq_some_iff.mp hb1).1
      simp [this]
    · intro y hy
      rcases List.mem_append.mp hy with hy | hy
      · exact hw y hy
      · rw [List.mem_singleton.mp hy]; exact hx
    · exact List.nodup_append.mpr ⟨nd, by simp, fun a ha c hc e => by rw [List.mem_singleton.mp hc] at e; exact h (e ▸ ha)⟩
end
end K01

set_option linter.all false
set_option maxRecDepth 10000
set_option exponentiation.threshold 10000
namespace K01
open Ln
open PySem (PyData Str)
section
variable {prog : List Fn} {w k i j m l n : Nat} {S : Store}
/-- mixed_sp of LnPre, and what else stands in the store -/
theorem mixed_kp (h : prog[i]? = some ⟨2, false, 5, b_draw⟩) (h2 : prog[j]? = some ⟨2, false, 4, b_mixed i⟩) (hs : Strm n S) {ds : List D} (h1 : ds.length < 1000) (hw : ds.length < w) (hd : ∀ d ∈ ds, Dok d) :
    ∃ b fs S', callI prog w (k + 2) j [.ref n, .lst ds] S = .ok (.ref b) S' ∧ S'[b]? = some (.lst fs) ∧ fs.Perm ds ∧ Strm n S' ∧ S.length ≤ b ∧ ∀ m, m ≠ n → m < S.length → S'[m]? = S[m]? := by
  have hn : n < S.length := by obtain ⟨_, _, _, e⟩ := hs; exact (List.getElem?_eq_some_iff.mp e).1
  have hs2 : Strm n ((S ++ [.lst ds]) ++ [.lst []]) := by
    obtain ⟨a, b, c, e⟩ := hs
    exact ⟨a, b, c, by rw [List.getElem?_append_left (by simp; omega), List.getElem?_append_left hn]; exact e⟩
  have ga : ((S ++ [O.lst ds]) ++ [O.lst []])[S.length]? = some (.lst ds) := by simp
  have gb : ((S ++ [O.lst ds]) ++ [O.lst []])[S.length + 1]? = some (.lst []) := by simp
  obtain ⟨ρ', S', e, fs, hρ, hf, hp, hs', hk⟩ := whileM_inv (cf := callI prog w (k + 1)) (w := w) (c := .cmp .ne (.var 2) (.lst .nil)) (b := .cons (.expr (.mth .append (.var 3) (.cons (.mth .popAt (.var 2) (.cons (.call i (.cons (.var 0) (.cons (.blt .len (.cons (.var 2) .nil)) .nil))) .nil)) .nil))) .nil)
    (fun m ρ S1 => ∃ es fs, ρ = [some (.ref n), some (.lst ds), some (.ref S.length), some (.ref (S.length + 1))] ∧ S1[S.length]? = some (.lst es) ∧ S1[S.length + 1]? = some (.lst fs) ∧ es.length = m ∧ (fs ++ es).Perm ds ∧ Strm n S1 ∧ (∀ m, m ≠ n → m < S.length → S1[m]? = S[m]?))
    (fun ρ S1 => ∃ fs, ρ = [some (.ref n), some (.lst ds), some (.ref S.length), some (.ref (S.length + 1))] ∧ S1[S.length + 1]? = some (.lst fs) ∧ fs.Perm ds ∧ Strm n S1 ∧ (∀ m, m ≠ n → m < S.length → S1[m]? = S[m]?))
    (fun m ρ S1 hI => by
      obtain ⟨es, fs, rfl, he, hf, rfl, hp, hs1, hk1⟩ := hI
      have q := ref_nil he fun x hx => hd x (hp.subset (List.mem_append_right _ hx))
      refine ⟨!es.isEmpty, S1, by unfold evT; simp only [rBind, qOpt, qRet, bnd_ok, bnd_exc, bnd_err, flow_nx, flow_rt, flow_bk, flow_ct, flow_exc, end_nx, end_rt, end_exc, e_var, g_0, g_s, e_cst, e_bin, e_neg, e_not, e_cmp, e_chain, e_and, e_or, e_ite, e_tup, e_lst, e_lstM, e_lstS, e_dct, e_idx, e_slc, e_rev, e_isi, e_fz, e_repM, e_addM, fz_lst, fz_tup, fz_dct, m_dget, e_blt, e_call, e_mth, m_tindex, m_tcount, e_lc, l_nil, l_cons, l_star, t_nil, t_cons, o_no, o_so, i_seq, i_rng1, i_rng2, i_zip, i_enum, i_enumT, k_enumT, k_neg, k_int, k_seqT, k_seqL, k_seqF, k_starT, k_starL, k_zipT, k_zipL, k_zipM, k_zipM2, k_enum, k_rng, k_rng2, tr_bl, tr_int, tr_tup, tr_lst, s_nil, s_cons, x_expr, x_set, x_setT, x_par, x_setI, x_aug, x_cond, x_loop, x_while, x_ret, x_retN, x_pass, x_brk, x_mat, mk_nil, mk_cons, x_cont, x_run, b_lenT, b_lenL, b_lenF, b_tupT, b_tupL, b_lstT, b_lstL, b_allL, b_anyL, b_sumL, b_sumT, b_abs, b_max, b_min, b_intI, b_intB, q_ii, q_ss, mapR_some, andR_ite, orR_ite, unpK, parK, augK, setIK, setTg, setAll, wipe, blt, blt0, seqOf, lstOf, cop, bop, intOp, isiD, tyOf, atP, place, Option.map_some, Option.map_none, Option.bind_some, Option.bind_none, eq_self, reduceCtorEq, Int.reduceLE, Int.reduceLT, Int.reduceNeg, Int.reduceEq, Int.reduceToNat, Int.reduceAdd, Int.reduceSub, Nat.reduceLeDiff, reduceIte,  List.flatten_cons, List.flatten_nil, List.length_map, List.map_cons, List.map_nil, List.length_cons, List.length_nil, List.replicate_succ, List.replicate_zero, List.cons_append, List.nil_append, List.append_nil, List.set_cons_zero, List.set_cons_succ, Bool.not_true, Bool.not_false, if_true, if_false, ite_true, ite_false, Bool.false_eq_true, decide_true, decide_false, Bool.or_true, Bool.true_or, Bool.or_false, Bool.false_or, Bool.and_true, Bool.true_and, Bool.and_false, Bool.false_and, decide_eq_true_eq, Nat.reduceAdd, Nat.reduceSub, Nat.zero_add, Function.comp_apply, q], fun hk => ?_, fun hk => ?_⟩
      · have hne : es ≠ [] := by cases es <;> simp at hk ⊢
        have hlen := hp.length_eq
        rw [List.length_append] at hlen
        have hl : 0 < es.length := List.length_pos_iff.mpr hne
        obtain ⟨r, S2, e2, r0, r1, s2, l2, o2⟩ := draw_sp (w := w) (k := k) h hs1 (t := (es.length : Int)) (by omega) (by
          rw [Int.natAbs_natCast]
          have := Nat.log2_le_self es.length
          omega)
        obtain ⟨t, rfl⟩ : ∃ t : Nat, r = t := ⟨r.toNat, by omega⟩
        have ht : t < es.length := by omega
        have he2 : S2[S.length]? = some (.lst es) := (o2 _ (by omega)).trans he
        have hf2 : S2[S.length + 1]? = some (.lst fs) := (o2 _ (by omega)).trans hf
        have la := (List.getElem?_eq_some_iff.mp he2).1
        have lb := (List.getElem?_eq_some_iff.mp hf2).1
        have pop : popAtF [.ref S.length, .int t] S2 = .ok es[t] (S2.set S.length (.lst (es.eraseIdx t))) := by
          unfold popAtF
          have h63 : small63 (t : Int) = true := by unfold small63; simp; omega
          have pl : place es.length (t : Int) = some t := by unfold place; simp [ht]
          simp only [he2, h63, if_true, pl, List.getElem?_eq_getElem ht]
        have hf3 : (S2.set S.length (.lst (es.eraseIdx t)))[S.length + 1]? = some (.lst fs) := by rw [List.getElem?_set_ne (by omega)]; exact hf2
        have ap := m_appendR (S := S2.set S.length (.lst (es.eraseIdx t))) (x := es[t]) hf3 (by have := lineB (n := fs.length + 1) (by omega); omega)
        have ln : lenF S1 [.ref S.length] = some (.int es.length) := by
          show (seqOf S1 (.ref S.length)).map _ = _
          simp only [seqOf, he, Option.map_some]
        refine ⟨_, _, es.length - 1, by simp only [qOpt, qRet, bnd_ok, bnd_exc, bnd_err, flow_nx, flow_rt, flow_bk, flow_ct, flow_exc, end_nx, end_rt, end_exc, e_var, g_0, g_s, e_cst, e_bin, e_neg, e_not, e_cmp, e_chain, e_and, e_or, e_ite, e_tup, e_lst, e_lstM, e_lstS, e_dct, e_idx, e_slc, e_rev, e_isi, e_fz, e_repM, e_addM, fz_lst, fz_tup, fz_dct, m_dget, e_blt, e_call, e_mth, m_tindex, m_tcount, e_lc, l_nil, l_cons, l_star, t_nil, t_cons, o_no, o_so, i_seq, i_rng1, i_rng2, i_zip, i_enum, i_enumT, k_enumT, k_neg, k_int, k_seqT, k_seqL, k_seqF, k_starT, k_starL, k_zipT, k_zipL, k_zipM, k_zipM2, k_enum, k_rng, k_rng2, tr_bl, tr_int, tr_tup, tr_lst, s_nil, s_cons, x_expr, x_set, x_setT, x_par, x_setI, x_aug, x_cond, x_loop, x_while, x_ret, x_retN, x_pass, x_brk, x_mat, mk_nil, mk_cons, x_cont, x_run, b_lenT, b_lenL, b_lenF, b_tupT, b_tupL, b_lstT, b_lstL, b_allL, b_anyL, b_sumL, b_sumT, b_abs, b_max, b_min, b_intI, b_intB, q_ii, q_ss, mapR_some, andR_ite, orR_ite, unpK, parK, augK, setIK, setTg, setAll, wipe, blt, blt0, seqOf, lstOf, cop, bop, intOp, isiD, tyOf, atP, place, Option.map_some, Option.map_none, Option.bind_some, Option.bind_none, eq_self, reduceCtorEq, Int.reduceLE, Int.reduceLT, Int.reduceNeg, Int.reduceEq, Int.reduceToNat, Int.reduceAdd, Int.reduceSub, Nat.reduceLeDiff, reduceIte,  List.flatten_cons, List.flatten_nil, List.length_map, List.map_cons, List.map_nil, List.length_cons, List.length_nil, List.replicate_succ, List.replicate_zero, List.cons_append, List.nil_append, List.append_nil, List.set_cons_zero, List.set_cons_succ, Bool.not_true, Bool.not_false, if_true, if_false, ite_true, ite_false, Bool.false_eq_true, decide_true, decide_false, Bool.or_true, Bool.true_or, Bool.or_false, Bool.false_or, Bool.and_true, Bool.true_and, Bool.and_false, Bool.false_and, decide_eq_true_eq, Nat.reduceAdd, Nat.reduceSub, Nat.zero_add, Function.comp_apply, m_append hf, m_popAt he, ln, e2, pop, ap]; rfl, by omega, es.eraseIdx t, fs ++ [es[t]], rfl, ?_, ?_, by rw [List.length_eraseIdx, if_pos ht], ?_, ?_, fun m hm hm2 => by rw [List.getElem?_set_ne (by omega), List.getElem?_set_ne (by omega)]; exact (o2 m hm).trans (hk1 m hm hm2)⟩
        · rw [List.getElem?_set_ne (by omega), List.getElem?_set_self la]
        · rw [List.getElem?_set_self (by rw [List.length_set]; exact lb)]
        · have := erase_perm ht
          exact (List.append_assoc fs [es[t]] _ ▸ (List.Perm.append_left fs this)).trans hp
        · obtain ⟨x, y, z, e3⟩ := s2
          exact ⟨x, y, z, by rw [List.getElem?_set_ne (by omega), List.getElem?_set_ne (by omega)]; exact e3⟩
      · have : es = [] := by cases es <;> simp at hk ⊢
        subst this
        exact ⟨fs, rfl, hf, by simpa using hp, hs1, hk1⟩)
    w ds.length [some (.ref n), some (.lst ds), some (.ref S.length), some (.ref (S.length + 1))] ((S ++ [.lst ds]) ++ [.lst []]) hw ⟨ds, [], rfl, ga, gb, rfl, by simp, hs2, fun m _ hm => by rw [List.getElem?_append_left (by simp; omega), List.getElem?_append_left hm]⟩
  subst hρ
  refine ⟨S.length + 1, fs, S', ?_, hf, hp, hs', by omega, hk⟩
  rw [callI_s h2 rfl]
  have lm : listMF [.lst ds] S = .ok (.ref S.length) (S ++ [.lst ds]) := rfl
  simp only [b_mixed, qOpt, qRet, bnd_ok, bnd_exc, bnd_err, flow_nx, flow_rt, flow_bk, flow_ct, flow_exc, end_nx, end_rt, end_exc, e_var, g_0, g_s, e_cst, e_bin, e_neg, e_not, e_cmp, e_chain, e_and, e_or, e_ite, e_tup, e_lst, e_lstM, e_lstS, e_dct, e_idx, e_slc, e_rev, e_isi, e_fz, e_repM, e_addM, fz_lst, fz_tup, fz_dct, m_dget, e_blt, e_call, e_mth, m_tindex, m_tcount, e_lc, l_nil, l_cons, l_star, t_nil, t_cons, o_no, o_so, i_seq, i_rng1, i_rng2, i_zip, i_enum, i_enumT, k_enumT, k_neg, k_int, k_seqT, k_seqL, k_seqF, k_starT, k_starL, k_zipT, k_zipL, k_zipM, k_zipM2, k_enum, k_rng, k_rng2, tr_bl, tr_int, tr_tup, tr_lst, s_nil, s_cons, x_expr, x_set, x_setT, x_par, x_setI, x_aug, x_cond, x_loop, x_while, x_ret, x_retN, x_pass, x_brk, x_mat, mk_nil, mk_cons, x_cont, x_run, b_lenT, b_lenL, b_lenF, b_tupT, b_tupL, b_lstT, b_lstL, b_allL, b_anyL, b_sumL, b_sumT, b_abs, b_max, b_min, b_intI, b_intB, q_ii, q_ss, mapR_some, andR_ite, orR_ite, unpK, parK, augK, setIK, setTg, setAll, wipe, blt, blt0, seqOf, lstOf, cop, bop, intOp, isiD, tyOf, atP, place, Option.map_some, Option.map_none, Option.bind_some, Option.bind_none, eq_self, reduceCtorEq, Int.reduceLE, Int.reduceLT, Int.reduceNeg, Int.reduceEq, Int.reduceToNat, Int.reduceAdd, Int.reduceSub, Nat.reduceLeDiff, reduceIte,  List.flatten_cons, List.flatten_nil, List.length_map, List.map_cons, List.map_nil, List.length_cons, List.length_nil, List.replicate_succ, List.replicate_zero, List.cons_append, List.nil_append, List.append_nil, List.set_cons_zero, List.set_cons_succ, Bool.not_true, Bool.not_false, if_true, if_false, ite_true, ite_false, Bool.false_eq_true, decide_true, decide_false, Bool.or_true, Bool.true_or, Bool.or_false, Bool.false_or, Bool.and_true, Bool.true_and, Bool.and_false, Bool.false_and, decide_eq_true_eq, Nat.reduceAdd, Nat.reduceSub, Nat.zero_add, Function.comp_apply, lm, List.length_append, e]
end
end K01

set_option linter.all false
set_option maxRecDepth 10000
set_option exponentiation.threshold 10000
namespace K01
open Ln
open PySem (PyData Str)
section
variable {w k n b : Nat}
theorem act_loop (hnb : n ≠ b) {o5 : Option D} : ∀ (l : List Nat) {xs : List Str} {S : Store} {o3 o4 : Option D}, Strm n S → S[b]? = some (.lst (xs.map .str)) → (∀ x ∈ xs, Wd x) → xs.Nodup → xs.length + l.length ≤ 50 → 1 ≤ xs.length + l.length →
    ∃ (ys : List Str) (o3' o4' : Option D) (S' : Store), loopM (callI prog w (k + 1)) w (.nm 3) actB (l.map fun i => D.int (i : Nat)) [some (.ref n), some abc, some (.ref b), o3, o4, o5] S = .ok (.nx, [some (.ref n), some abc, some (.ref b), o3', o4', o5]) S' ∧ Strm n S' ∧ S'[b]? = some (.lst (ys.map .str)) ∧
      (∀ x ∈ ys, Wd x) ∧ ys.Nodup ∧ ys.length ≤ xs.length + l.length ∧ 1 ≤ ys.length
  | [], xs, S, o3, o4, hs, hb, hw, nd, h5, h1 => ⟨xs, o3, o4, S, loopM_nil, hs, hb, hw, nd, by omega, by simpa using h1⟩
  | a :: l, xs, S, o3, o4, hs, hb, hw, nd, h5, h1 => by
    rw [List.length_cons] at h5
    obtain ⟨ys, o4', S1, e1, hs1, hb1, _, _, hw1, nd1, l1, n1⟩ := act_turn (w := w) (k := k) hs hnb hb hw nd (by omega) (o3 := some (.int a)) (o4 := o4) (o5 := o5)
    obtain ⟨zs, o3'', o4'', S2, e2, hs2, hb2, hw2, nd2, l2, n2⟩ := act_loop hnb l (o5 := o5) (o3 := some (.int a)) (o4 := o4') hs1 hb1 hw1 nd1 (by omega) (by omega)
    exact ⟨zs, o3'', o4'', S2, (loopM_nx rfl e1).trans e2, hs2, hb2, hw2, nd2, by rw [List.length_cons]; omega, n2⟩
variable {S : Store}
theorem s_law_actions (hs : Strm n S) : ∃ (b : Nat) (xs : List Str) (S' : Store), callI prog w (k + 2) 20 [.ref n] S = .ok (.ref b) S' ∧ S'[b]? = some (.lst (xs.map .str)) ∧ n ≠ b ∧ (∀ x ∈ xs, Wd x) ∧ xs.Nodup ∧ xs.length ≤ 5 ∧ 1 ≤ xs.length ∧ Strm n S' := by
  have hn : n < S.length := by obtain ⟨_, _, _, e⟩ := hs; exact (List.getElem?_eq_some_iff.mp e).1
  have hs2 : Strm n (S ++ [.lst []]) := by
    obtain ⟨a, b, c, e⟩ := hs
    exact ⟨a, b, c, by rw [List.getElem?_append_left hn]; exact e⟩
  obtain ⟨r, S1, e1, r1, k1⟩ := drawK (w := w) (k := k) hdraw hs2 (t := 5) (by decide) (by decide)
  have hb1 : S1[S.length]? = some (.lst (([] : List Str).map .str)) := by rw [k1.o _ (by omega)]; simp
  obtain ⟨ys, o3, o4, S2, e2, hs3, hb3, hw3, nd3, l3, n3⟩ := act_loop (w := w) (k := k) (b := S.length) (n := n) (by omega) (o5 := none) (o3 := none) (o4 := none) (List.range (1 + r)) k1.s hb1 (by simp) List.nodup_nil (by simp only [List.length_nil, List.length_range]; omega) (by simp only [List.length_nil, List.length_range]; omega)
  refine ⟨S.length, ys, S2, ?_, hb3, by omega, hw3, nd3, by simp at l3; omega, n3, hs3⟩
  have e1 : callI prog w (k + 1) 11 [.ref n, .int 5] (S ++ [.lst []]) = .ok (.int r) S1 := e1
  have ei : (1 : Int) + r = ((1 + r : Nat) : Int) := by omega
  have hq : 1 + r ≤ line := le_line (by omega)
  unfold actB at e2
  rw [u__law_actions]
  simp only [b__law_actions, qOpt, qRet, bnd_ok, bnd_exc, bnd_err, flow_nx, flow_rt, flow_bk, flow_ct, flow_exc, end_nx, end_rt, end_exc, e_var, g_0, g_s, e_cst, e_bin, e_neg, e_not, e_cmp, e_chain, e_and, e_or, e_ite, e_tup, e_lst, e_lstM, e_lstS, e_dct, e_idx, e_slc, e_rev, e_isi, e_fz, e_repM, e_addM, fz_lst, fz_tup, fz_dct, m_dget, e_blt, e_call, e_mth, m_tindex, m_tcount, e_lc, l_nil, l_cons, l_star, t_nil, t_cons, o_no, o_so, i_seq, i_rng1, i_rng2, i_zip, i_enum, i_enumT, k_enumT, k_neg, k_int, k_seqT, k_seqL, k_seqF, k_starT, k_starL, k_zipT, k_zipL, k_zipM, k_zipM2, k_enum, k_rng, k_rng2, tr_bl, tr_int, tr_tup, tr_lst, s_nil, s_cons, x_expr, x_set, x_setT, x_par, x_setI, x_aug, x_cond, x_loop, x_while, x_ret, x_retN, x_pass, x_brk, x_mat, mk_nil, mk_cons, x_cont, x_run, b_lenT, b_lenL, b_lenF, b_tupT, b_tupL, b_lstT, b_lstL, b_allL, b_anyL, b_sumL, b_sumT, b_abs, b_max, b_min, b_intI, b_intB, q_ii, q_ss, mapR_some, andR_ite, orR_ite, unpK, parK, augK, setIK, setTg, setAll, wipe, blt, blt0, seqOf, lstOf, cop, bop, intOp, isiD, tyOf, atP, place, Option.map_some, Option.map_none, Option.bind_some, Option.bind_none, eq_self, reduceCtorEq, Int.reduceLE, Int.reduceLT, Int.reduceNeg, Int.reduceEq, Int.reduceToNat, Int.reduceAdd, Int.reduceSub, Nat.reduceLeDiff, reduceIte,  List.flatten_cons, List.flatten_nil, List.length_map, List.map_cons, List.map_nil, List.length_cons, List.length_nil, List.replicate_succ, List.replicate_zero, List.cons_append, List.nil_append, List.append_nil, List.set_cons_zero, List.set_cons_succ, Bool.not_true, Bool.not_false, if_true, if_false, ite_true, ite_false, Bool.false_eq_true, decide_true, decide_false, Bool.or_true, Bool.true_or, Bool.or_false, Bool.false_or, Bool.and_true, Bool.true_and, Bool.and_false, Bool.false_and, decide_eq_true_eq, Nat.reduceAdd, Nat.reduceSub, Nat.zero_add, Function.comp_apply, e1, ei, k_rng hq, e2]
end
end K01

set_option linter.all false
set_option maxRecDepth 10000
set_option exponentiation.threshold 10000
namespace K01
open Ln
open PySem (PyData Str)
abbrev srt (xs : List Str) : List Str := xs.eraseDups.mergeSort leS
theorem strs_dok {xs : List Str} : strsD (xs.map .str) = some xs := strs_map xs
theorem wd_srt {xs : List Str} (h : ∀ x ∈ xs, Wd x) : ∀ x ∈ xs.eraseDups, Wd x := fun x hx => h x (List.mem_eraseDups.mp hx)
theorem al_srt {xs : List Str} (h : ∀ x ∈ xs, Wd x) (h1 : 1 ≤ xs.length) (h5 : xs.eraseDups.length ≤ 5) : Al (srt xs) :=
  al_sorted (wd_srt h) (dedup_nd _ xs (Nat.le_refl _)) (by
    cases xs with
    | nil => simp at h1
    | cons x xs => exact List.length_pos_of_mem (List.mem_eraseDups.mpr (List.mem_cons_self (a := x)))) h5
section
variable {w k n b : Nat} {S : Store}
theorem s_alphabet_from {xs : List Str} (h : ∀ x ∈ xs, Wd x) (h1 : 1 ≤ xs.length) (hl : xs.length < 64) (h5 : xs.eraseDups.length ≤ 5) : callI prog w (k + 4) 7 [sv xs] S = .ok (sv (srt xs)) S := by
  rw [u_alphabet_from]
  simp only [b_alphabet_from, qOpt, qRet, bnd_ok, bnd_exc, bnd_err, flow_nx, flow_rt, flow_bk, flow_ct, flow_exc, end_nx, end_rt, end_exc, e_var, g_0, g_s, e_cst, e_bin, e_neg, e_not, e_cmp, e_chain, e_and, e_or, e_ite, e_tup, e_lst, e_lstM, e_lstS, e_dct, e_idx, e_slc, e_rev, e_isi, e_fz, e_repM, e_addM, fz_lst, fz_tup, fz_dct, m_dget, e_blt, e_call, e_mth, m_tindex, m_tcount, e_lc, l_nil, l_cons, l_star, t_nil, t_cons, o_no, o_so, i_seq, i_rng1, i_rng2, i_zip, i_enum, i_enumT, k_enumT, k_neg, k_int, k_seqT, k_seqL, k_seqF, k_starT, k_starL, k_zipT, k_zipL, k_zipM, k_zipM2, k_enum, k_rng, k_rng2, tr_bl, tr_int, tr_tup, tr_lst, s_nil, s_cons, x_expr, x_set, x_setT, x_par, x_setI, x_aug, x_cond, x_loop, x_while, x_ret, x_retN, x_pass, x_brk, x_mat, mk_nil, mk_cons, x_cont, x_run, b_lenT, b_lenL, b_lenF, b_tupT, b_tupL, b_lstT, b_lstL, b_allL, b_anyL, b_sumL, b_sumT, b_abs, b_max, b_min, b_intI, b_intB, q_ii, q_ss, mapR_some, andR_ite, orR_ite, unpK, parK, augK, setIK, setTg, setAll, wipe, blt, blt0, seqOf, lstOf, cop, bop, intOp, isiD, tyOf, atP, place, Option.map_some, Option.map_none, Option.bind_some, Option.bind_none, eq_self, reduceCtorEq, Int.reduceLE, Int.reduceLT, Int.reduceNeg, Int.reduceEq, Int.reduceToNat, Int.reduceAdd, Int.reduceSub, Nat.reduceLeDiff, reduceIte,  List.flatten_cons, List.flatten_nil, List.length_map, List.map_cons, List.map_nil, List.length_cons, List.length_nil, List.replicate_succ, List.replicate_zero, List.cons_append, List.nil_append, List.append_nil, List.set_cons_zero, List.set_cons_succ, Bool.not_true, Bool.not_false, if_true, if_false, ite_true, ite_false, Bool.false_eq_true, decide_true, decide_false, Bool.or_true, Bool.true_or, Bool.or_false, Bool.false_or, Bool.and_true, Bool.true_and, Bool.and_false, Bool.false_and, decide_eq_true_eq, Nat.reduceAdd, Nat.reduceSub, Nat.zero_add, Function.comp_apply]
  rw [lcM_map D.str (fun _ => D.bl true) xs fun x hx => ⟨_, rfl, by
    have := s_is_action (w := w) (k := k + 2) (S := S) (vv_act (h x hx).act (h x hx).ok)
    simp only [qOpt, qRet, bnd_ok, bnd_exc, bnd_err, flow_nx, flow_rt, flow_bk, flow_ct, flow_exc, end_nx, end_rt, end_exc, e_var, g_0, g_s, e_cst, e_bin, e_neg, e_not, e_cmp, e_chain, e_and, e_or, e_ite, e_tup, e_lst, e_lstM, e_lstS, e_dct, e_idx, e_slc, e_rev, e_isi, e_fz, e_repM, e_addM, fz_lst, fz_tup, fz_dct, m_dget, e_blt, e_call, e_mth, m_tindex, m_tcount, e_lc, l_nil, l_cons, l_star, t_nil, t_cons, o_no, o_so, i_seq, i_rng1, i_rng2, i_zip, i_enum, i_enumT, k_enumT, k_neg, k_int, k_seqT, k_seqL, k_seqF, k_starT, k_starL, k_zipT, k_zipL, k_zipM, k_zipM2, k_enum, k_rng, k_rng2, tr_bl, tr_int, tr_tup, tr_lst, s_nil, s_cons, x_expr, x_set, x_setT, x_par, x_setI, x_aug, x_cond, x_loop, x_while, x_ret, x_retN, x_pass, x_brk, x_mat, mk_nil, mk_cons, x_cont, x_run, b_lenT, b_lenL, b_lenF, b_tupT, b_tupL, b_lstT, b_lstL, b_allL, b_anyL, b_sumL, b_sumT, b_abs, b_max, b_min, b_intI, b_intB, q_ii, q_ss, mapR_some, andR_ite, orR_ite, unpK, parK, augK, setIK, setTg, setAll, wipe, blt, blt0, seqOf, lstOf, cop, bop, intOp, isiD, tyOf, atP, place, Option.map_some, Option.map_none, Option.bind_some, Option.bind_none, eq_self, reduceCtorEq, Int.reduceLE, Int.reduceLT, Int.reduceNeg, Int.reduceEq, Int.reduceToNat, Int.reduceAdd, Int.reduceSub, Nat.reduceLeDiff, reduceIte,  List.flatten_cons, List.flatten_nil, List.length_map, List.map_cons, List.map_nil, List.length_cons, List.length_nil, List.replicate_succ, List.replicate_zero, List.cons_append, List.nil_append, List.append_nil, List.set_cons_zero, List.set_cons_succ, Bool.not_true, Bool.not_false, if_true, if_false, ite_true, ite_false, Bool.false_eq_true, decide_true, decide_false, Bool.or_true, Bool.true_or, Bool.or_false, Bool.false_or, Bool.and_true, Bool.true_and, Bool.and_false, Bool.false_and, decide_eq_true_eq, Nat.reduceAdd, Nat.reduceSub, Nat.zero_add, Function.comp_apply, this, actD, (h x hx).act]⟩]
  have b1 : boolsD (xs.map fun _ => D.bl true) = some (xs.map fun _ => true) := bools_fun (fun _ => true) xs
  have b2 : (xs.map fun _ => true).all id = true := by simp
  have ss : ∀ S, ssetF S [sv xs] = some (.lst ((srt xs).map .str)) := fun S => by
    simp only [ssetF, seqOf, Option.bind_some, strs_dok, if_pos hl]
  simp only [qOpt, qRet, bnd_ok, bnd_exc, bnd_err, flow_nx, flow_rt, flow_bk, flow_ct, flow_exc, end_nx, end_rt, end_exc, e_var, g_0, g_s, e_cst, e_bin, e_neg, e_not, e_cmp, e_chain, e_and, e_or, e_ite, e_tup, e_lst, e_lstM, e_lstS, e_dct, e_idx, e_slc, e_rev, e_isi, e_fz, e_repM, e_addM, fz_lst, fz_tup, fz_dct, m_dget, e_blt, e_call, e_mth, m_tindex, m_tcount, e_lc, l_nil, l_cons, l_star, t_nil, t_cons, o_no, o_so, i_seq, i_rng1, i_rng2, i_zip, i_enum, i_enumT, k_enumT, k_neg, k_int, k_seqT, k_seqL, k_seqF, k_starT, k_starL, k_zipT, k_zipL, k_zipM, k_zipM2, k_enum, k_rng, k_rng2, tr_bl, tr_int, tr_tup, tr_lst, s_nil, s_cons, x_expr, x_set, x_setT, x_par, x_setI, x_aug, x_cond, x_loop, x_while, x_ret, x_retN, x_pass, x_brk, x_mat, mk_nil, mk_cons, x_cont, x_run, b_lenT, b_lenL, b_lenF, b_tupT, b_tupL, b_lstT, b_lstL, b_allL, b_anyL, b_sumL, b_sumT, b_abs, b_max, b_min, b_intI, b_intB, q_ii, q_ss, mapR_some, andR_ite, orR_ite, unpK, parK, augK, setIK, setTg, setAll, wipe, blt, blt0, seqOf, lstOf, cop, bop, intOp, isiD, tyOf, atP, place, Option.map_some, Option.map_none, Option.bind_some, Option.bind_none, eq_self, reduceCtorEq, Int.reduceLE, Int.reduceLT, Int.reduceNeg, Int.reduceEq, Int.reduceToNat, Int.reduceAdd, Int.reduceSub, Nat.reduceLeDiff, reduceIte,  List.flatten_cons, List.flatten_nil, List.length_map, List.map_cons, List.map_nil, List.length_cons, List.length_nil, List.replicate_succ, List.replicate_zero, List.cons_append, List.nil_append, List.append_nil, List.set_cons_zero, List.set_cons_succ, Bool.not_true, Bool.not_false, if_true, if_false, ite_true, ite_false, Bool.false_eq_true, decide_true, decide_false, Bool.or_true, Bool.true_or, Bool.or_false, Bool.false_or, Bool.and_true, Bool.true_and, Bool.and_false, Bool.false_and, decide_eq_true_eq, Nat.reduceAdd, Nat.reduceSub, Nat.zero_add, Function.comp_apply, b1, b2, ss, tupleF, seqOf, Option.map_some, s_require_alphabet (al_srt h h1 h5)]
end
end K01

set_option linter.all false
set_option maxRecDepth 10000
set_option exponentiation.threshold 10000
namespace K01
open Ln
open PySem (PyData Str)
def un : D → Str
  | .str x => x
  | _ => ""
/-- a drawn order of texts is texts in an order -/
theorem perm_strs {fs : List D} {l : List Str} (h : fs.Perm (l.map .str)) : ∃ l' : List Str, fs = l'.map .str ∧ l'.Perm l := by
  refine ⟨fs.map un, ?_, ?_⟩
  · rw [List.map_map]
    conv => lhs; rw [← List.map_id fs]
    apply List.map_congr_left
    intro d hd
    obtain ⟨x, _, rfl⟩ := List.mem_map.mp (h.subset hd)
    rfl
  · have := h.map un
    rw [List.map_map] at this
    have e : l.map (un ∘ D.str) = l := by
      conv => rhs; rw [← List.map_id l]
      rfl
    rwa [e] at this
theorem leS_anti {a b : Str} (h1 : leS a b = true) (h2 : leS b a = true) : a = b := by
  rw [leS_iff'] at h1 h2
  have e : a.cps.toList = b.cps.toList := List.le_antisymm h1 h2
  cases a; cases b
  simp only [PySem.Str.mk.injEq] at *
  exact Array.toList_inj.mp e
/-- sorted texts without doubles are told by their members -/
theorem sort_eq {xs ys : List Str} (h1 : xs.Nodup) (h2 : ys.Nodup) (h : ∀ x, x ∈ xs ↔ x ∈ ys) : xs.mergeSort leS = ys.mergeSort leS := by
  have p : xs.Perm ys := (List.perm_ext_iff_of_nodup h1 h2).mpr h
  refine List.Perm.eq_of_pairwise (le := fun a b => leS a b = true) (fun a b _ _ h1 h2 => leS_anti h1 h2) (List.pairwise_mergeSort leS_tr leS_tot xs) (List.pairwise_mergeSort leS_tr leS_tot ys) ?_
  exact (List.mergeSort_perm xs leS).trans (p.trans (List.mergeSort_perm ys leS).symm)
theorem mem_more {more xs : List Str} {d : Nat} (p : more.Perm (xs ++ xs.take d)) (x : Str) : x ∈ more.eraseDups ↔ x ∈ xs := by
  rw [List.mem_eraseDups, p.mem_iff, List.mem_append]
  exact ⟨fun h => h.elim id fun h => List.mem_of_mem_take h, Or.inl⟩
theorem srt_more {more xs : List Str} {d : Nat} (nd : xs.Nodup) (p : more.Perm (xs ++ xs.take d)) : srt more = xs.mergeSort leS := sort_eq (dedup_nd _ _ (Nat.le_refl _)) nd (mem_more p)
theorem len_more {more xs : List Str} {d : Nat} (nd : xs.Nodup) (p : more.Perm (xs ++ xs.take d)) : more.eraseDups.length = xs.length :=
  ((List.perm_ext_iff_of_nodup (dedup_nd _ _ (Nat.le_refl _)) nd).mpr (mem_more p)).length_eq
section
variable {w k n b : Nat} {S : Store}
theorem s_make_alphabet {xs : List Str} (h : ∀ x ∈ xs, Wd x) (h1 : 1 ≤ xs.length) (hl : xs.length < 64) (h5 : xs.eraseDups.length ≤ 5) : callI prog w (k + 5) 6 (xs.map .str) S = .ok (sv (srt xs)) S := by
  rw [u_make_alphabet (by rw [List.length_map]; exact le_line (by omega))]
  simp only [b_make_alphabet, qOpt, qRet, bnd_ok, bnd_exc, bnd_err, flow_nx, flow_rt, flow_bk, flow_ct, flow_exc, end_nx, end_rt, end_exc, e_var, g_0, g_s, e_cst, e_bin, e_neg, e_not, e_cmp, e_chain, e_and, e_or, e_ite, e_tup, e_lst, e_lstM, e_lstS, e_dct, e_idx, e_slc, e_rev, e_isi, e_fz, e_repM, e_addM, fz_lst, fz_tup, fz_dct, m_dget, e_blt, e_call, e_mth, m_tindex, m_tcount, e_lc, l_nil, l_cons, l_star, t_nil, t_cons, o_no, o_so, i_seq, i_rng1, i_rng2, i_zip, i_enum, i_enumT, k_enumT, k_neg, k_int, k_seqT, k_seqL, k_seqF, k_starT, k_starL, k_zipT, k_zipL, k_zipM, k_zipM2, k_enum, k_rng, k_rng2, tr_bl, tr_int, tr_tup, tr_lst, s_nil, s_cons, x_expr, x_set, x_setT, x_par, x_setI, x_aug, x_cond, x_loop, x_while, x_ret, x_retN, x_pass, x_brk, x_mat, mk_nil, mk_cons, x_cont, x_run, b_lenT, b_lenL, b_lenF, b_tupT, b_tupL, b_lstT, b_lstL, b_allL, b_anyL, b_sumL, b_sumT, b_abs, b_max, b_min, b_intI, b_intB, q_ii, q_ss, mapR_some, andR_ite, orR_ite, unpK, parK, augK, setIK, setTg, setAll, wipe, blt, blt0, seqOf, lstOf, cop, bop, intOp, isiD, tyOf, atP, place, Option.map_some, Option.map_none, Option.bind_some, Option.bind_none, eq_self, reduceCtorEq, Int.reduceLE, Int.reduceLT, Int.reduceNeg, Int.reduceEq, Int.reduceToNat, Int.reduceAdd, Int.reduceSub, Nat.reduceLeDiff, reduceIte,  List.flatten_cons, List.flatten_nil, List.length_map, List.map_cons, List.map_nil, List.length_cons, List.length_nil, List.replicate_succ, List.replicate_zero, List.cons_append, List.nil_append, List.append_nil, List.set_cons_zero, List.set_cons_succ, Bool.not_true, Bool.not_false, if_true, if_false, ite_true, ite_false, Bool.false_eq_true, decide_true, decide_false, Bool.or_true, Bool.true_or, Bool.or_false, Bool.false_or, Bool.and_true, Bool.true_and, Bool.and_false, Bool.false_and, decide_eq_true_eq, Nat.reduceAdd, Nat.reduceSub, Nat.zero_add, Function.comp_apply, s_alphabet_from h h1 hl h5]
end
end K01

set_option linter.all false
set_option maxRecDepth 10000
set_option exponentiation.threshold 10000
namespace K01
open Ln
open PySem (PyData Str)
theorem dat_strs {S : Store} (xs : List Str) : dat S (sv xs) = some (.tuple (xs.map .str)) := by
  have e : (xs.map D.str).mapM (toP S 23) = some (xs.map .str) := mapM_map (k := 23) fun a _ => toP_str
  show toP S 24 (.tup _) = _
  simp only [toP, strs_toP, Option.map_some]
theorem fines_strs : ∀ {xs : List Str}, (∀ x ∈ xs, PyData.strOk x = true) → fines (xs.map .str) = true
  | [], _ => rfl
  | x :: xs, h => by
    simp only [List.map_cons, fines, fine, h x List.mem_cons_self, fines_strs fun y hy => h y (List.mem_cons_of_mem _ hy), Bool.and_self]
theorem costs_strs : ∀ {xs : List Str}, (∀ x ∈ xs, x.length ≤ 8) → costs (xs.map .str) ≤ 200 * xs.length
  | [], _ => Nat.le_refl _
  | x :: xs, h => by
    have h1 := h x List.mem_cons_self
    have h2 := costs_strs fun y hy => h y (List.mem_cons_of_mem _ hy)
    simp only [List.map_cons, costs, cost, List.length_cons]
    omega
def rs (xs : List Str) : Str := (PyData.tuple (xs.map .str)).shown
theorem rps {S : Store} {xs : List Str} (h : ∀ x ∈ xs, Wd x) (hl : xs.length ≤ 1000) : reprF S [sv xs] = some (.str (rs xs)) := by
  refine repr_sm (dat_strs xs) ?_ ?_
  · simp only [fine]
    exact fines_strs fun x hx => (h x hx).ok
  · have := costs_strs fun x hx => (h x hx).n8
    simp only [cost]
    exact le_line (by omega)
theorem rpb {S : Store} {b : Bool} : reprF S [.bl b] = some (.str (PyData.bool b).shown) := repr_sm (by rfl) rfl (le_line (by cases b <;> decide))
end K01

set_option linter.all false
set_option maxRecDepth 10000
set_option exponentiation.threshold 10000
namespace K01
open Ln
open PySem (PyData Str)
section
variable {w k n b : Nat} {S : Store}
theorem bent_pair {xs : List Str} (h : ∀ x ∈ xs, Wd x) (hl : xs.length ≤ 1000) (hs : Strm n S) :
    ∃ (d e : D) (S1 S2 : Store), callI prog w (k + 6) 17 [.ref n, sv xs, .int 2] S = .ok d S1 ∧ callI prog w (k + 6) 16 [.ref n] S1 = .ok e S2 ∧ Vv d ∧ Vv e ∧ Kp n S S2 := by
  obtain ⟨d, S1, e1, r1, k1⟩ := bent_sp (w := w) (k := k) hdraw hpick hodd hbent 2 (wds_dt (N := 200) (k := 0) h hl) (by decide) (by decide) (by decide) hs
  obtain ⟨e, S2, e2, r2, k2⟩ := odd_sp (w := w) (k := k + 3) hdraw hpick hodd k1.s
  exact ⟨d, e, S1, S2, e1, e2, vv_dt (by decide) r1, vv_dt (by decide) r2, k1.trans k2⟩
/-- the loop that bends the alphabet -/
theorem bent_loop21 {xs : List Str} (h : ∀ x ∈ xs, Wd x) (hl : xs.length ≤ 1000) {v1 v3 v4 v5 o8 : Option D} : ∀ (l : List Nat) {vs : List D} {S : Store} {o7 : Option D}, Strm n S → (∀ v ∈ vs, Vv v) → vs.length + 2 * l.length ≤ 1000 →
    ∃ (us : List D) (o7' : Option D) (S' : Store), loopM (callI prog w (k + 6)) w (.nm 7) (.cons (.set 6 (.bin .add (.var 6) (.lst (.cons (.call 17 (.cons (.var 0) (.cons (.var 2) (.cons (.cst (.int 2)) .nil)))) (.cons (.call 16 (.cons (.var 0) .nil)) .nil))))) .nil) (l.map fun i => D.int (i : Nat)) [some (.ref n), v1, some (sv xs), v3, v4, v5, some (.lst vs), o7, o8] S = .ok (.nx, [some (.ref n), v1, some (sv xs), v3, v4, v5, some (.lst us), o7', o8]) S' ∧ Kp n S S' ∧ (∀ v ∈ us, Vv v) ∧ us.length ≤ 1000
  | [], vs, S, o7, hs, hv, hn => ⟨vs, o7, S, loopM_nil, Kp.refl hs, hv, by omega⟩
  | a :: l, vs, S, o7, hs, hv, hn => by
    rw [List.length_cons] at hn
    obtain ⟨d, e, S1, S2, e1, e2, r1, r2, k2⟩ := bent_pair (w := w) (k := k) h hl hs
    have ad : vs.length + 2 ≤ line := le_line (by omega)
    obtain ⟨us, o7', S3, e3, k3, hu, hul⟩ := bent_loop21 h hl (v1 := v1) (v3 := v3) (v4 := v4) (v5 := v5) (o8 := o8) l (vs := vs ++ [d, e]) (o7 := some (.int a)) k2.s (fun v hm => by
      rcases List.mem_append.mp hm with hm | hm
      · exact hv v hm
      · rcases List.mem_cons.mp hm with rfl | hm
        · exact r1
        · rw [List.mem_singleton.mp hm]; exact r2) (by simp; omega)
    refine ⟨us, o7', S3, (loopM_nx (ρ1 := [some (.ref n), v1, some (sv xs), v3, v4, v5, some (.lst vs), some (.int a), o8]) (ρ2 := [some (.ref n), v1, some (sv xs), v3, v4, v5, some (.lst (vs ++ [d, e])), some (.int a), o8]) (S1 := S2) rfl ?_).trans e3, k2.trans k3, hu, hul⟩
    simp only [qOpt, qRet, bnd_ok, bnd_exc, bnd_err, flow_nx, flow_rt, flow_bk, flow_ct, flow_exc, end_nx, end_rt, end_exc, e_var, g_0, g_s, e_cst, e_bin, e_neg, e_not, e_cmp, e_chain, e_and, e_or, e_ite, e_tup, e_lst, e_lstM, e_lstS, e_dct, e_idx, e_slc, e_rev, e_isi, e_fz, e_repM, e_addM, fz_lst, fz_tup, fz_dct, m_dget, e_blt, e_call, e_mth, m_tindex, m_tcount, e_lc, l_nil, l_cons, l_star, t_nil, t_cons, o_no, o_so, i_seq, i_rng1, i_rng2, i_zip, i_enum, i_enumT, k_enumT, k_neg, k_int, k_seqT, k_seqL, k_seqF, k_starT, k_starL, k_zipT, k_zipL, k_zipM, k_zipM2, k_enum, k_rng, k_rng2, tr_bl, tr_int, tr_tup, tr_lst, s_nil, s_cons, x_expr, x_set, x_setT, x_par, x_setI, x_aug, x_cond, x_loop, x_while, x_ret, x_retN, x_pass, x_brk, x_mat, mk_nil, mk_cons, x_cont, x_run, b_lenT, b_lenL, b_lenF, b_tupT, b_tupL, b_lstT, b_lstL, b_allL, b_anyL, b_sumL, b_sumT, b_abs, b_max, b_min, b_intI, b_intB, q_ii, q_ss, mapR_some, andR_ite, orR_ite, unpK, parK, augK, setIK, setTg, setAll, wipe, blt, blt0, seqOf, lstOf, cop, bop, intOp, isiD, tyOf, atP, place, Option.map_some, Option.map_none, Option.bind_some, Option.bind_none, eq_self, reduceCtorEq, Int.reduceLE, Int.reduceLT, Int.reduceNeg, Int.reduceEq, Int.reduceToNat, Int.reduceAdd, Int.reduceSub, Nat.reduceLeDiff, reduceIte,  List.flatten_cons, List.flatten_nil, List.length_map, List.map_cons, List.map_nil, List.length_cons, List.length_nil, List.replicate_succ, List.replicate_zero, List.cons_append, List.nil_append, List.append_nil, List.set_cons_zero, List.set_cons_succ, Bool.not_true, Bool.not_false, if_true, if_false, ite_true, ite_false, Bool.false_eq_true, decide_true, decide_false, Bool.or_true, Bool.true_or, Bool.or_false, Bool.false_or, Bool.and_true, Bool.true_and, Bool.and_false, Bool.false_and, decide_eq_true_eq, Nat.reduceAdd, Nat.reduceSub, Nat.zero_add, Function.comp_apply, e1, e2, ad, if_true]
/-- nothing is judged otherwise -/
theorem all_same21 {vs : List D} (hv : ∀ v ∈ vs, Vv v) {v0 v1 v2 v3 v4 v5 o7 o8 : Option D} : lcM (callI prog w (k + 2)) (.var 8) (.nm 8) (.cons (.cmp .ne (.blt .repr (.cons (.call 1 (.cons (.var 8) .nil)) .nil)) (.blt .repr (.cons (.call 19 (.cons (.var 8) .nil)) .nil))) .nil) [8] [v0, v1, v2, v3, v4, v5, some (.lst vs), o7, o8] vs S = .ok (.lst []) S := by
  have lc := lcM_filter (cf := callI prog w (k + 2)) (ρ := [v0, v1, v2, v3, v4, v5, some (.lst vs), o7, o8]) (S := S) (elt := .var 8) (c := .cmp .ne (.blt .repr (.cons (.call 1 (.cons (.var 8) .nil)) .nil)) (.blt .repr (.cons (.call 19 (.cons (.var 8) .nil)) .nil))) (tg := .nm 8) (own := [8]) id id (fun _ => false) vs fun d hd => ⟨_, rfl, by simp only [qOpt, qRet, bnd_ok, bnd_exc, bnd_err, flow_nx, flow_rt, flow_bk, flow_ct, flow_exc, end_nx, end_rt, end_exc, e_var, g_0, g_s, e_cst, e_bin, e_neg, e_not, e_cmp, e_chain, e_and, e_or, e_ite, e_tup, e_lst, e_lstM, e_lstS, e_dct, e_idx, e_slc, e_rev, e_isi, e_fz, e_repM, e_addM, fz_lst, fz_tup, fz_dct, m_dget, e_blt, e_call, e_mth, m_tindex, m_tcount, e_lc, l_nil, l_cons, l_star, t_nil, t_cons, o_no, o_so, i_seq, i_rng1, i_rng2, i_zip, i_enum, i_enumT, k_enumT, k_neg, k_int, k_seqT, k_seqL, k_seqF, k_starT, k_starL, k_zipT, k_zipL, k_zipM, k_zipM2, k_enum, k_rng, k_rng2, tr_bl, tr_int, tr_tup, tr_lst, s_nil, s_cons, x_expr, x_set, x_setT, x_par, x_setI, x_aug, x_cond, x_loop, x_while, x_ret, x_retN, x_pass, x_brk, x_mat, mk_nil, mk_cons, x_cont, x_run, b_lenT, b_lenL, b_lenF, b_tupT, b_tupL, b_lstT, b_lstL, b_allL, b_anyL, b_sumL, b_sumT, b_abs, b_max, b_min, b_intI, b_intB, q_ii, q_ss, mapR_some, andR_ite, orR_ite, unpK, parK, augK, setIK, setTg, setAll, wipe, blt, blt0, seqOf, lstOf, cop, bop, intOp, isiD, tyOf, atP, place, Option.map_some, Option.map_none, Option.bind_some, Option.bind_none, eq_self, reduceCtorEq, Int.reduceLE, Int.reduceLT, Int.reduceNeg, Int.reduceEq, Int.reduceToNat, Int.reduceAdd, Int.reduceSub, Nat.reduceLeDiff, reduceIte,  List.flatten_cons, List.flatten_nil, List.length_map, List.map_cons, List.map_nil, List.length_cons, List.length_nil, List.replicate_succ, List.replicate_zero, List.cons_append, List.nil_append, List.append_nil, List.set_cons_zero, List.set_cons_succ, Bool.not_true, Bool.not_false, if_true, if_false, ite_true, ite_false, Bool.false_eq_true, decide_true, decide_false, Bool.or_true, Bool.true_or, Bool.or_false, Bool.false_or, Bool.and_true, Bool.true_and, Bool.and_false, Bool.false_and, decide_eq_true_eq, Nat.reduceAdd, Nat.reduceSub, Nat.zero_add, Function.comp_apply, id_eq, s_is_alphabet (hv d hd), s_law_is_alphabet (hv d hd), rpb, eqD], fun _ => by simp only [qOpt, qRet, bnd_ok, bnd_exc, bnd_err, flow_nx, flow_rt, flow_bk, flow_ct, flow_exc, end_nx, end_rt, end_exc, e_var, g_0, g_s, e_cst, e_bin, e_neg, e_not, e_cmp, e_chain, e_and, e_or, e_ite, e_tup, e_lst, e_lstM, e_lstS, e_dct, e_idx, e_slc, e_rev, e_isi, e_fz, e_repM, e_addM, fz_lst, fz_tup, fz_dct, m_dget, e_blt, e_call, e_mth, m_tindex, m_tcount, e_lc, l_nil, l_cons, l_star, t_nil, t_cons, o_no, o_so, i_seq, i_rng1, i_rng2, i_zip, i_enum, i_enumT, k_enumT, k_neg, k_int, k_seqT, k_seqL, k_seqF, k_starT, k_starL, k_zipT, k_zipL, k_zipM, k_zipM2, k_enum, k_rng, k_rng2, tr_bl, tr_int, tr_tup, tr_lst, s_nil, s_cons, x_expr, x_set, x_setT, x_par, x_setI, x_aug, x_cond, x_loop, x_while, x_ret, x_retN, x_pass, x_brk, x_mat, mk_nil, mk_cons, x_cont, x_run, b_lenT, b_lenL, b_lenF, b_tupT, b_tupL, b_lstT, b_lstL, b_allL, b_anyL, b_sumL, b_sumT, b_abs, b_max, b_min, b_intI, b_intB, q_ii, q_ss, mapR_some, andR_ite, orR_ite, unpK, parK, augK, setIK, setTg, setAll, wipe, blt, blt0, seqOf, lstOf, cop, bop, intOp, isiD, tyOf, atP, place, Option.map_some, Option.map_none, Option.bind_some, Option.bind_none, eq_self, reduceCtorEq, Int.reduceLE, Int.reduceLT, Int.reduceNeg, Int.reduceEq, Int.reduceToNat, Int.reduceAdd, Int.reduceSub, Nat.reduceLeDiff, reduceIte,  List.flatten_cons, List.flatten_nil, List.length_map, List.map_cons, List.map_nil, List.length_cons, List.length_nil, List.replicate_succ, List.replicate_zero, List.cons_append, List.nil_append, List.append_nil, List.set_cons_zero, List.set_cons_succ, Bool.not_true, Bool.not_false, if_true, if_false, ite_true, ite_false, Bool.false_eq_true, decide_true, decide_false, Bool.or_true, Bool.true_or, Bool.or_false, Bool.false_or, Bool.and_true, Bool.true_and, Bool.and_false, Bool.false_and, decide_eq_true_eq, Nat.reduceAdd, Nat.reduceSub, Nat.zero_add, Function.comp_apply]⟩
  rw [List.map_id, List.map_id, List.filter_eq_nil_iff.mpr (fun _ _ => Bool.false_ne_true)] at lc
  exact lc
end
end K01

set_option linter.all false
set_option maxRecDepth 10000
set_option exponentiation.threshold 10000
namespace K01
open Ln
open PySem (PyData Str)
section
variable {w k n b : Nat} {S : Store}
/-- the loop that bends the word -/
theorem bent_loop22 {xs : List Str} (h : ∀ x ∈ xs, Wd x) (hl : xs.length ≤ 1000) {v1 v3 v4 v5 v6 o9 o10 o11 : Option D} : ∀ (l : List Nat) {vs : List D} {S : Store} {o8 : Option D}, Strm n S → (∀ v ∈ vs, Vv v) → vs.length + 2 * l.length ≤ 1000 →
    ∃ (us : List D) (o8' : Option D) (S' : Store), loopM (callI prog w (k + 6)) w (.nm 8) (.cons (.set 7 (.bin .add (.var 7) (.lst (.cons (.call 17 (.cons (.var 0) (.cons (.var 2) (.cons (.cst (.int 2)) .nil)))) (.cons (.call 16 (.cons (.var 0) .nil)) .nil))))) .nil) (l.map fun i => D.int (i : Nat)) [some (.ref n), v1, some (sv xs), v3, v4, v5, v6, some (.lst vs), o8, o9, o10, o11] S = .ok (.nx, [some (.ref n), v1, some (sv xs), v3, v4, v5, v6, some (.lst us), o8', o9, o10, o11]) S' ∧ Kp n S S' ∧ (∀ v ∈ us, Vv v) ∧ us.length ≤ 1000
  | [], vs, S, o8, hs, hv, hn => ⟨vs, o8, S, loopM_nil, Kp.refl hs, hv, by omega⟩
  | a :: l, vs, S, o8, hs, hv, hn => by
    rw [List.length_cons] at hn
    obtain ⟨d, e, S1, S2, e1, e2, r1, r2, k2⟩ := bent_pair (w := w) (k := k) h hl hs
    have ad : vs.length + 2 ≤ line := le_line (by omega)
    obtain ⟨us, o8', S3, e3, k3, hu, hul⟩ := bent_loop22 h hl (v1 := v1) (v3 := v3) (v4 := v4) (v5 := v5) (v6 := v6) (o9 := o9) (o10 := o10) (o11 := o11) l (vs := vs ++ [d, e]) (o8 := some (.int a)) k2.s (fun v hm => by
      rcases List.mem_append.mp hm with hm | hm
      · exact hv v hm
      · rcases List.mem_cons.mp hm with rfl | hm
        · exact r1
        · rw [List.mem_singleton.mp hm]; exact r2) (by simp; omega)
    refine ⟨us, o8', S3, (loopM_nx (ρ1 := [some (.ref n), v1, some (sv xs), v3, v4, v5, v6, some (.lst vs), some (.int a), o9, o10, o11]) (ρ2 := [some (.ref n), v1, some (sv xs), v3, v4, v5, v6, some (.lst (vs ++ [d, e])), some (.int a), o9, o10, o11]) (S1 := S2) rfl ?_).trans e3, k2.trans k3, hu, hul⟩
    simp only [qOpt, qRet, bnd_ok, bnd_exc, bnd_err, flow_nx, flow_rt, flow_bk, flow_ct, flow_exc, end_nx, end_rt, end_exc, e_var, g_0, g_s, e_cst, e_bin, e_neg, e_not, e_cmp, e_chain, e_and, e_or, e_ite, e_tup, e_lst, e_lstM, e_lstS, e_dct, e_idx, e_slc, e_rev, e_isi, e_fz, e_repM, e_addM, fz_lst, fz_tup, fz_dct, m_dget, e_blt, e_call, e_mth, m_tindex, m_tcount, e_lc, l_nil, l_cons, l_star, t_nil, t_cons, o_no, o_so, i_seq, i_rng1, i_rng2, i_zip, i_enum, i_enumT, k_enumT, k_neg, k_int, k_seqT, k_seqL, k_seqF, k_starT, k_starL, k_zipT, k_zipL, k_zipM, k_zipM2, k_enum, k_rng, k_rng2, tr_bl, tr_int, tr_tup, tr_lst, s_nil, s_cons, x_expr, x_set, x_setT, x_par, x_setI, x_aug, x_cond, x_loop, x_while, x_ret, x_retN, x_pass, x_brk, x_mat, mk_nil, mk_cons, x_cont, x_run, b_lenT, b_lenL, b_lenF, b_tupT, b_tupL, b_lstT, b_lstL, b_allL, b_anyL, b_sumL, b_sumT, b_abs, b_max, b_min, b_intI, b_intB, q_ii, q_ss, mapR_some, andR_ite, orR_ite, unpK, parK, augK, setIK, setTg, setAll, wipe, blt, blt0, seqOf, lstOf, cop, bop, intOp, isiD, tyOf, atP, place, Option.map_some, Option.map_none, Option.bind_some, Option.bind_none, eq_self, reduceCtorEq, Int.reduceLE, Int.reduceLT, Int.reduceNeg, Int.reduceEq, Int.reduceToNat, Int.reduceAdd, Int.reduceSub, Nat.reduceLeDiff, reduceIte,  List.flatten_cons, List.flatten_nil, List.length_map, List.map_cons, List.map_nil, List.length_cons, List.length_nil, List.replicate_succ, List.replicate_zero, List.cons_append, List.nil_append, List.append_nil, List.set_cons_zero, List.set_cons_succ, Bool.not_true, Bool.not_false, if_true, if_false, ite_true, ite_false, Bool.false_eq_true, decide_true, decide_false, Bool.or_true, Bool.true_or, Bool.or_false, Bool.false_or, Bool.and_true, Bool.true_and, Bool.and_false, Bool.false_and, decide_eq_true_eq, Nat.reduceAdd, Nat.reduceSub, Nat.zero_add, Function.comp_apply, e1, e2, ad, if_true]
/-- nothing is judged otherwise -/
theorem all_same22 {al : List Str} (ha : Al al) {vs : List D} (hv : ∀ v ∈ vs, Vv v) {v0 v2 v3 v4 v5 v6 o8 o9 o10 o11 : Option D} : lcM (callI prog w (k + 4)) (.var 11) (.nm 11) (.cons (.cmp .ne (.blt .repr (.cons (.call 8 (.cons (.var 1) (.cons (.var 11) .nil))) .nil)) (.blt .repr (.cons (.call 15 (.cons (.var 1) (.cons (.var 11) .nil))) .nil))) .nil) [11] [v0, some (sv al), v2, v3, v4, v5, v6, some (.lst vs), o8, o9, o10, o11] vs S = .ok (.lst []) S := by
  have lc := lcM_filter (cf := callI prog w (k + 4)) (ρ := [v0, some (sv al), v2, v3, v4, v5, v6, some (.lst vs), o8, o9, o10, o11]) (S := S) (elt := .var 11) (c := .cmp .ne (.blt .repr (.cons (.call 8 (.cons (.var 1) (.cons (.var 11) .nil))) .nil)) (.blt .repr (.cons (.call 15 (.cons (.var 1) (.cons (.var 11) .nil))) .nil))) (tg := .nm 11) (own := [11]) id id (fun _ => false) vs fun d hd => ⟨_, rfl, by simp only [qOpt, qRet, bnd_ok, bnd_exc, bnd_err, flow_nx, flow_rt, flow_bk, flow_ct, flow_exc, end_nx, end_rt, end_exc, e_var, g_0, g_s, e_cst, e_bin, e_neg, e_not, e_cmp, e_chain, e_and, e_or, e_ite, e_tup, e_lst, e_lstM, e_lstS, e_dct, e_idx, e_slc, e_rev, e_isi, e_fz, e_repM, e_addM, fz_lst, fz_tup, fz_dct, m_dget, e_blt, e_call, e_mth, m_tindex, m_tcount, e_lc, l_nil, l_cons, l_star, t_nil, t_cons, o_no, o_so, i_seq, i_rng1, i_rng2, i_zip, i_enum, i_enumT, k_enumT, k_neg, k_int, k_seqT, k_seqL, k_seqF, k_starT, k_starL, k_zipT, k_zipL, k_zipM, k_zipM2, k_enum, k_rng, k_rng2, tr_bl, tr_int, tr_tup, tr_lst, s_nil, s_cons, x_expr, x_set, x_setT, x_par, x_setI, x_aug, x_cond, x_loop, x_while, x_ret, x_retN, x_pass, x_brk, x_mat, mk_nil, mk_cons, x_cont, x_run, b_lenT, b_lenL, b_lenF, b_tupT, b_tupL, b_lstT, b_lstL, b_allL, b_anyL, b_sumL, b_sumT, b_abs, b_max, b_min, b_intI, b_intB, q_ii, q_ss, mapR_some, andR_ite, orR_ite, unpK, parK, augK, setIK, setTg, setAll, wipe, blt, blt0, seqOf, lstOf, cop, bop, intOp, isiD, tyOf, atP, place, Option.map_some, Option.map_none, Option.bind_some, Option.bind_none, eq_self, reduceCtorEq, Int.reduceLE, Int.reduceLT, Int.reduceNeg, Int.reduceEq, Int.reduceToNat, Int.reduceAdd, Int.reduceSub, Nat.reduceLeDiff, reduceIte,  List.flatten_cons, List.flatten_nil, List.length_map, List.map_cons, List.map_nil, List.length_cons, List.length_nil, List.replicate_succ, List.replicate_zero, List.cons_append, List.nil_append, List.append_nil, List.set_cons_zero, List.set_cons_succ, Bool.not_true, Bool.not_false, if_true, if_false, ite_true, ite_false, Bool.false_eq_true, decide_true, decide_false, Bool.or_true, Bool.true_or, Bool.or_false, Bool.false_or, Bool.and_true, Bool.true_and, Bool.and_false, Bool.false_and, decide_eq_true_eq, Nat.reduceAdd, Nat.reduceSub, Nat.zero_add, Function.comp_apply, id_eq, s_is_word ha (hv d hd), s_law_is_word ha.ok (hv d hd), rpb, eqD], fun _ => by simp only [qOpt, qRet, bnd_ok, bnd_exc, bnd_err, flow_nx, flow_rt, flow_bk, flow_ct, flow_exc, end_nx, end_rt, end_exc, e_var, g_0, g_s, e_cst, e_bin, e_neg, e_not, e_cmp, e_chain, e_and, e_or, e_ite, e_tup, e_lst, e_lstM, e_lstS, e_dct, e_idx, e_slc, e_rev, e_isi, e_fz, e_repM, e_addM, fz_lst, fz_tup, fz_dct, m_dget, e_blt, e_call, e_mth, m_tindex, m_tcount, e_lc, l_nil, l_cons, l_star, t_nil, t_cons, o_no, o_so, i_seq, i_rng1, i_rng2, i_zip, i_enum, i_enumT, k_enumT, k_neg, k_int, k_seqT, k_seqL, k_seqF, k_starT, k_starL, k_zipT, k_zipL, k_zipM, k_zipM2, k_enum, k_rng, k_rng2, tr_bl, tr_int, tr_tup, tr_lst, s_nil, s_cons, x_expr, x_set, x_setT, x_par, x_setI, x_aug, x_cond, x_loop, x_while, x_ret, x_retN, x_pass, x_brk, x_mat, mk_nil, mk_cons, x_cont, x_run, b_lenT, b_lenL, b_lenF, b_tupT, b_tupL, b_lstT, b_lstL, b_allL, b_anyL, b_sumL, b_sumT, b_abs, b_max, b_min, b_intI, b_intB, q_ii, q_ss, mapR_some, andR_ite, orR_ite, unpK, parK, augK, setIK, setTg, setAll, wipe, blt, blt0, seqOf, lstOf, cop, bop, intOp, isiD, tyOf, atP, place, Option.map_some, Option.map_none, Option.bind_some, Option.bind_none, eq_self, reduceCtorEq, Int.reduceLE, Int.reduceLT, Int.reduceNeg, Int.reduceEq, Int.reduceToNat, Int.reduceAdd, Int.reduceSub, Nat.reduceLeDiff, reduceIte,  List.flatten_cons, List.flatten_nil, List.length_map, List.map_cons, List.map_nil, List.length_cons, List.length_nil, List.replicate_succ, List.replicate_zero, List.cons_append, List.nil_append, List.append_nil, List.set_cons_zero, List.set_cons_succ, Bool.not_true, Bool.not_false, if_true, if_false, ite_true, ite_false, Bool.false_eq_true, decide_true, decide_false, Bool.or_true, Bool.true_or, Bool.or_false, Bool.false_or, Bool.and_true, Bool.true_and, Bool.and_false, Bool.false_and, decide_eq_true_eq, Nat.reduceAdd, Nat.reduceSub, Nat.zero_add, Function.comp_apply]⟩
  rw [List.map_id, List.map_id, List.filter_eq_nil_iff.mpr (fun _ _ => Bool.false_ne_true)] at lc
  exact lc
end
end K01

set_option linter.all false
set_option maxRecDepth 10000
set_option exponentiation.threshold 10000
namespace K01
open Ln
open PySem (PyData Str)
theorem vv_s {xs : List Str} (h : ∀ x ∈ xs, Wd x) (hl : xs.length ≤ 1000) : Vv (sv xs) := vv_dt (N := 200) (k := 1) (by decide) (wds_dt h hl)
theorem vv_items {xs : List Str} (h : ∀ x ∈ xs, Wd x) : ∀ d ∈ xs.map D.str, Vv d := fun d hd => by
  obtain ⟨x, hx, rfl⟩ := List.mem_map.mp hd
  exact vv_act (h x hx).act (h x hx).ok
theorem vv_lst {xs : List Str} (h : ∀ x ∈ xs, Wd x) (hl : xs.length ≤ 1000) : Vv (.lst (xs.map .str)) := .lst (vv_items h) (by rw [List.length_map]; omega)
theorem vv_app {ds es : List D} (h1 : ∀ d ∈ ds, Vv d) (h2 : ∀ d ∈ es, Vv d) (hl : ds.length + es.length ≤ 10000) : Vv (.tup (ds ++ es)) := .tup (fun d hd => (List.mem_append.mp hd).elim (h1 d) (h2 d)) (by rw [List.length_append]; exact hl)
theorem vv_one {d : D} (h : Vv d) : ∀ e ∈ [d], Vv e := fun e he => by rw [List.mem_singleton.mp he]; exact h
theorem vv_asc {x : Str} (h1 : x.length ≤ 100 := by decide +kernel) (h2 : PyData.strOk x = true := by decide +kernel) : Vv (.str x) := .str (Nat.le_trans h1 (by decide)) h2
theorem vv_fix : ∀ d ∈ [D.tup [.str "a", .str "b", .str "c", .str "d", .str "e", .str "f"], .tup [.str ""], .tup [.str "a", .str "a"], .tup [.str "A"], .tup [.str "a b"], .tup [.str "a1"], .str "a", .str "abc", .non], Vv d := by
  intro d hd
  have s1 : ∀ x ∈ (["a", "b", "c", "d", "e", "f", "", "A", "a b", "a1", "abc"] : List Str), Vv (.str x) := by
    intro x hx
    have q : (["a", "b", "c", "d", "e", "f", "", "A", "a b", "a1", "abc"] : List Str).all (fun x => decide (x.length ≤ 100) && PyData.strOk x) = true := by decide +kernel
    have := List.all_eq_true.mp q x hx
    rw [Bool.and_eq_true] at this
    exact vv_asc (of_decide_eq_true this.1) this.2
  have t1 : ∀ xs : List Str, (∀ x ∈ xs, x ∈ (["a", "b", "c", "d", "e", "f", "", "A", "a b", "a1", "abc"] : List Str)) → xs.length ≤ 10 → Vv (.tup (xs.map .str)) := fun xs h hl => .tup (fun e he => by
    obtain ⟨x, hx, rfl⟩ := List.mem_map.mp he
    exact s1 x (h x hx)) (by rw [List.length_map]; omega)
  simp only [List.mem_cons, List.not_mem_nil, or_false] at hd
  rcases hd with rfl | rfl | rfl | rfl | rfl | rfl | rfl | rfl | rfl
  · exact t1 ["a", "b", "c", "d", "e", "f"] (by decide +kernel) (by decide)
  · exact t1 [""] (by decide +kernel) (by decide)
  · exact t1 ["a", "a"] (by decide +kernel) (by decide)
  · exact t1 ["A"] (by decide +kernel) (by decide)
  · exact t1 ["a b"] (by decide +kernel) (by decide)
  · exact t1 ["a1"] (by decide +kernel) (by decide)
  · exact s1 "a" (by decide +kernel)
  · exact s1 "abc" (by decide +kernel)
  · exact .non
end K01

set_option linter.all false
set_option maxRecDepth 10000
set_option exponentiation.threshold 10000
namespace K01
open Ln
open PySem (PyData Str)
theorem sort_ref {S : Store} {b : Nat} {xs : List Str} (hb : S[b]? = some (.lst (xs.map .str))) (hl : xs.length < 64) : sortF S [.ref b] = some (.lst ((xs.mergeSort leS).map .str)) := by
  simp only [sortF, lstOf, seqOf, hb, Option.bind_some, strs_map, if_pos hl]
theorem slc_ref {S : Store} {b d : Nat} {xs : List Str} (hb : S[b]? = some (.lst (xs.map .str))) : slcD S (.ref b) none (some (d : Int)) = some (.lst ((xs.take d).map .str)) := by
  simp only [slcD, lstOf, hb, Option.map_some, cut_to, List.map_take]
end K01

set_option linter.all false
set_option maxRecDepth 10000
set_option exponentiation.threshold 10000
namespace K01
open Ln
open PySem (PyData Str)
theorem eq_sv {S : Store} {xs ys : List Str} (hx : ∀ x ∈ xs, PyData.strOk x = true) (hy : ∀ x ∈ ys, PyData.strOk x = true) : eqD S (sv xs) (sv ys) = some (decide (xs = ys)) := by
  show eqP S _ _ = _
  have sh : ∀ zs : List Str, (∀ x ∈ zs, PyData.strOk x = true) → PySem.SeqAt.shaped (.tuple (zs.map .str)) = true := fun zs h => by
    obtain ⟨h1, h2⟩ := strs_lay zs h
    unfold PySem.SeqAt.shaped
    simp [PyData.canLay0, h1, PyData.depth]
    omega
  unfold eqP
  simp only [dat_strs, sh xs hx, sh ys hy, Bool.and_self, if_true]
  simp [PyData.eqv, strs_eqv]
theorem srt_one {x : Str} : srt [x] = [x] := by
  show [x].eraseDups.mergeSort leS = _
  rw [dedup_id [x] (by simp), List.mergeSort_singleton]
theorem srt_mem {xs ys : List Str} (h : ∀ x, x ∈ xs ↔ x ∈ ys) : srt xs = srt ys := sort_eq (dedup_nd _ _ (Nat.le_refl _)) (dedup_nd _ _ (Nat.le_refl _)) fun x => by rw [List.mem_eraseDups, List.mem_eraseDups, h x]
theorem dedup_len (l : List Str) : ∀ n, l.length ≤ n → l.eraseDups.length ≤ l.length := by
  intro n
  induction n generalizing l with
  | zero => intro h; cases l with
    | nil => simp
    | cons => simp at h
  | succ n ih =>
    intro h
    cases l with
    | nil => simp
    | cons x r =>
      rw [List.eraseDups_cons, List.length_cons, List.length_cons]
      have l1 := List.length_filter_le (fun b => !b == x) r
      have := ih (r.filter fun b => !b == x) (by simp at h; omega)
      omega
theorem wd_srt2 {xs : List Str} (h : ∀ x ∈ xs, Wd x) : ∀ x ∈ srt xs, Wd x := fun x hx => h x (by rwa [List.mem_mergeSort, List.mem_eraseDups] at hx)
theorem vv_cut {xs : List Str} (h : ∀ x ∈ xs, Wd x) (lo hi : Option Int) : ∀ d ∈ cut (xs.map D.str) lo hi, Vv d := fun d hd => vv_items h d (List.mem_of_mem_drop (List.mem_of_mem_take hd))
theorem cut_len {α : Type} (xs : List α) (lo hi : Option Int) : (cut xs lo hi).length ≤ xs.length := by
  unfold cut
  rw [List.length_take, List.length_drop]
  omega
theorem mul_ge {a b c : Nat} (h : a < b) (h2 : b ≤ c) : a < c := Nat.lt_of_lt_of_le h h2
section
variable {w k n b : Nat} {S : Store}
abbrev vals21 (al more : List Str) : List D :=
  [sv al, .lst (al.map .str), .tup (al.map .str ++ cut (al.map .str) (some (-1)) none), .tup (al.map .str).reverse, .tup (al.map .str ++ [.str "zzzzzzzzz"]), .tup [sv al], .tup (al.map .str ++ [.int 1]), sv more, .tup []]
theorem vals21_vv {al more : List Str} (h : ∀ x ∈ al, Wd x) (h5 : al.length ≤ 5) (hm : ∀ x ∈ more, Wd x) (hl : more.length ≤ 100) : ∀ v ∈ vals21 al more, Vv v := by
  have it := vv_items h
  have l := List.length_map (as := al) D.str
  have z9 : Vv (.str "zzzzzzzzz") := vv_asc
  intro v hv
  simp only [vals21, List.mem_cons, List.not_mem_nil, or_false] at hv
  rcases hv with rfl | rfl | rfl | rfl | rfl | rfl | rfl | rfl | rfl
  · exact vv_s h (by omega)
  · exact vv_lst h (by omega)
  · exact vv_app it (vv_cut h _ _) (by have := cut_len (al.map D.str) (some (-1)) none; omega)
  · exact .tup (fun d hd => it d (List.mem_reverse.mp hd)) (by rw [List.length_reverse]; omega)
  · exact vv_app it (vv_one z9) (by simp; omega)
  · exact .tup (vv_one (vv_s h (by omega))) (by simp)
  · exact vv_app it (vv_one (.int 1)) (by simp; omega)
  · exact vv_s hm (by omega)
  · exact .tup (fun d hd => absurd hd List.not_mem_nil) (by simp)
theorem s_alphabet_right (hw : 20 ≤ w) (hs : Strm n S) (hnb : n ≠ b) {xs : List Str} (hb : S[b]? = some (.lst (xs.map .str))) (hx : ∀ x ∈ xs, Wd x) (nd : xs.Nodup) (h1 : 1 ≤ xs.length) (h5 : xs.length ≤ 5) :
    ∃ S', callI prog w (k + 7) 21 [.ref n, .ref b] S = .ok (.bl true) S' ∧ Strm n S' ∧ S'[b]? = some (.lst (xs.map .str)) := by
  obtain ⟨r, S1, e1, r1, k1⟩ := drawK (w := w) (k := k + 5) hdraw hs (t := 3) (by decide) (by decide)
  have e1 : callI prog w (k + 6) 11 [.ref n, .int 3] S = .ok (.int r) S1 := e1
  have hb1 : S1[b]? = some (.lst (xs.map .str)) := by rw [k1.o b (Ne.symm hnb)]; exact hb
  have lm : (xs ++ xs.take r).length ≤ 10 := by rw [List.length_append, List.length_take]; omega
  have hxm : ∀ x ∈ xs ++ xs.take r, Wd x := fun x h => (List.mem_append.mp h).elim (hx x) fun h => hx x (List.mem_of_mem_take h)
  obtain ⟨c, fs, S2, e2, hc, hp, s2, hcl, kk⟩ := mixed_kp (w := w) (k := k + 4) hdraw hmixed k1.s (ds := (xs ++ xs.take r).map .str) (by rw [List.length_map]; omega) (by rw [List.length_map]; omega) (fun d hd => by
    obtain ⟨x, h, rfl⟩ := List.mem_map.mp hd
    exact dok_str x (hxm x h).ok)
  obtain ⟨more, rfl, pm⟩ := perm_strs hp
  have e2 : callI prog w (k + 6) 13 [.ref n, .lst ((xs ++ xs.take r).map .str)] S1 = .ok (.ref c) S2 := e2
  have hmw : ∀ x ∈ more, Wd x := fun x h => hxm x (pm.subset h)
  have hml : more.length ≤ 10 := by rw [pm.length_eq]; exact lm
  have hm1 : 1 ≤ more.length := by rw [pm.length_eq, List.length_append]; omega
  have hbl : b < S1.length := (List.getElem?_eq_some_iff.mp hb1).1
  have hb2 : S2[b]? = some (.lst (xs.map .str)) := by rw [kk b (Ne.symm hnb) hbl]; exact hb1
  have hsl := slc_ref (d := r) hb1
  have had : bop .add (.ref b) (.lst ((xs.take r).map .str)) S1 = some (.lst ((xs ++ xs.take r).map .str)) := by
    have hl : (xs.map D.str).length + ((xs.take r).map D.str).length ≤ line := by rw [List.length_map, List.length_map, ← List.length_append]; exact le_line (by omega)
    simp only [bop, lstOf, hb1, hl, if_true, List.map_append]
  have e3 := s_alphabet_from (w := w) (k := k + 2) (S := S2) hmw hm1 (by omega) (by rw [len_more nd pm]; exact h5)
  rw [srt_more nd pm] at e3
  have hal := al_sorted hx nd h1 h5
  have hwal : ∀ x ∈ xs.mergeSort leS, Wd x := fun x h => hx x (List.mem_mergeSort.mp h)
  have hal5 : (xs.mergeSort leS).length ≤ 5 := by rw [List.length_mergeSort]; exact h5
  have es : sortF S [.ref b] = some (.lst ((xs.mergeSort leS).map .str)) := sort_ref hb (by omega)
  generalize hA : xs.mergeSort leS = al at *
  have rp := fun (S : Store) => rps (S := S) hwal (by omega)
  have g5 : decide ((al.length : Int) > 5) = false := decide_eq_false (by omega)
  have t2 : ∀ S : Store, S[c]? = some (.lst (more.map .str)) → tupleF S [.ref c] = some (sv more) := fun S h => by simp only [tupleF, seqOf, h, Option.map_some]
  obtain ⟨one, rest, hmo⟩ : ∃ one rest, more = one :: rest := by cases more with
    | nil => simp at hm1
    | cons a r => exact ⟨a, r, rfl⟩
  obtain ⟨last, hla⟩ : ∃ last, more.getLast? = some last := by rw [hmo]; exact ⟨_, List.getLast?_eq_some_getLast (by simp)⟩
  have hone : Wd one := hmw one (by rw [hmo]; exact List.mem_cons_self)
  have hlast : Wd last := hmw last (List.mem_of_getLast? hla)
  have i0 : idxD S2 (.ref c) (.int 0) = some (.str one) := by
    unfold idxD
    simp only [seqOf, hc, Option.bind_some, hmo, List.map_cons]
    unfold atP place
    simp
  have i1 : idxD S2 (.ref c) (.int (-1)) = some (.str last) := by
    unfold idxD
    simp only [seqOf, hc, Option.bind_some]
    unfold atP place
    rw [if_neg (by decide), if_pos (by rw [List.length_map]; omega), Option.bind_some]
    rw [List.getLast?_eq_getElem?] at hla
    have : ((-1 : Int) + ((more.map D.str).length : Nat)).toNat = more.length - 1 := by rw [List.length_map]; omega
    rw [this, List.getElem?_map, hla]
    rfl
  have w1 : ∀ x ∈ [one], Wd x := fun x h => by rw [List.mem_singleton.mp h]; exact hone
  have w3 : ∀ x ∈ [last, one, last], Wd x := fun x h => by
    simp only [List.mem_cons, List.not_mem_nil, or_false] at h
    rcases h with rfl | rfl | rfl <;> assumption
  have w2 : ∀ x ∈ [one, last], Wd x := fun x h => by
    simp only [List.mem_cons, List.not_mem_nil, or_false] at h
    rcases h with rfl | rfl <;> assumption
  have m1 := fun S : Store => s_make_alphabet (w := w) (k := k + 1) (S := S) w1 (Nat.le_of_ble_eq_true rfl) (Nat.lt_of_lt_of_le (m := 2) (Nat.le_of_ble_eq_true rfl) (by decide)) (Nat.le_trans (dedup_len _ _ (Nat.le_refl _)) (Nat.le_of_ble_eq_true rfl))
  have m3 := fun S : Store => s_make_alphabet (w := w) (k := k + 1) (S := S) w3 (Nat.le_of_ble_eq_true rfl) (Nat.lt_of_lt_of_le (m := 4) (Nat.le_of_ble_eq_true rfl) (by decide)) (Nat.le_trans (dedup_len _ _ (Nat.le_refl _)) (Nat.le_of_ble_eq_true rfl))
  rw [srt_one] at m1
  rw [srt_mem (ys := [one, last]) (fun x => by simp only [List.mem_cons, List.not_mem_nil, or_false]; exact ⟨fun h => by rcases h with h | h | h <;> simp [h], fun h => by rcases h with h | h <;> simp [h]⟩)] at m3
  simp only [sv, List.map_cons, List.map_nil] at m1 m3
  have q1 := fun S : Store => eq_sv (S := S) (xs := [one]) (ys := [one]) (fun x h => (w1 x h).ok) (fun x h => (w1 x h).ok)
  have q3 := fun S : Store => eq_sv (S := S) (xs := srt [one, last]) (ys := srt [one, last]) (fun x h => (wd_srt2 w2 x h).ok) (fun x h => (wd_srt2 w2 x h).ok)
  simp only [sv, List.map_cons, List.map_nil] at q1
  have ss : ∀ S : Store, ssetF S [.lst [.str one, .str last]] = some (.lst ((srt [one, last]).map .str)) := fun S => by
    have := strs_map [one, last]
    simp only [List.map_cons, List.map_nil] at this
    simp only [ssetF, seqOf, Option.bind_some, this]
    rfl
  have vs0 := vals21_vv hwal hal5 hmw (by omega)
  obtain ⟨us, o7, S3, e4, k3, hu, _⟩ := bent_loop21 (w := w) (k := k) (n := n) (xs := al) hwal (by omega) (v1 := some (.ref b)) (v3 := some (.ref c)) (v4 := some (.str one)) (v5 := some (.str last)) (o8 := none) (List.range 8) (o7 := none) (S := S2)
    (vs := vals21 al more ++ [D.tup [.str "a", .str "b", .str "c", .str "d", .str "e", .str "f"], .tup [.str ""], .tup [.str "a", .str "a"], .tup [.str "A"], .tup [.str "a b"], .tup [.str "a1"], .str "a", .str "abc", .non]) s2
    (fun v hv => (List.mem_append.mp hv).elim (vs0 v) (vv_fix v)) (by simp)
  have r8 : ∀ S, rngK (.int 8) S = .ok ((List.range 8).map fun (i : Nat) => .int i) S := fun S => k_rng (n := 8) (le_line (by decide))
  have e5 := all_same21 (w := w) (k := k + 4) (S := S3) hu (v0 := some (.ref n)) (v1 := some (.ref b)) (v2 := some (sv al)) (v3 := some (.ref c)) (v4 := some (.str one)) (v5 := some (.str last)) (o7 := o7) (o8 := none)
  refine ⟨S3, ?_, k3.s, by rw [k3.o b (Ne.symm hnb)]; exact hb2⟩
  have nl : ∀ S, eqD S (.lst []) (.lst []) = some true := fun _ => rfl
  have la : (al.map D.str).length ≤ 5 := by rw [List.length_map]; exact hal5
  have l1 : ∀ ys : List D, ys.length ≤ 10 → (al.map D.str).length + ys.length ≤ line := fun ys h => le_line (by omega)
  have l2 := l1 _ (Nat.le_trans (cut_len (al.map D.str) (some (-1)) none) (by omega))
  have l3 := l1 [D.str "zzzzzzzzz"] (by decide)
  have l4 := l1 [D.int 1] (by decide)
  simp only [List.length_map, List.length_cons, List.length_nil] at l2 l3 l4
  have t1 : exec (callI prog w (k + 6)) w (.set 3 (.call 13 (.cons (.var 0) (.cons (.bin .add (.var 1) (.slc (.var 1) .no (.so (.call 11 (.cons (.var 0) (.cons (.cst (.int 3)) .nil)))))) .nil)))) [some (.ref n), some (.ref b), some (sv al), none, none, none, none, none, none] S = .ok (.nx, [some (.ref n), some (.ref b), some (sv al), some (.ref c), none, none, none, none, none]) S2 := by
    simp only [qOpt, qRet, bnd_ok, bnd_exc, bnd_err, flow_nx, flow_rt, flow_bk, flow_ct, flow_exc, end_nx, end_rt, end_exc, e_var, g_0, g_s, e_cst, e_bin, e_neg, e_not, e_cmp, e_chain, e_and, e_or, e_ite, e_tup, e_lst, e_lstM, e_lstS, e_dct, e_idx, e_slc, e_rev, e_isi, e_fz, e_repM, e_addM, fz_lst, fz_tup, fz_dct, m_dget, e_blt, e_call, e_mth, m_tindex, m_tcount, e_lc, l_nil, l_cons, l_star, t_nil, t_cons, o_no, o_so, i_seq, i_rng1, i_rng2, i_zip, i_enum, i_enumT, k_enumT, k_neg, k_int, k_seqT, k_seqL, k_seqF, k_starT, k_starL, k_zipT, k_zipL, k_zipM, k_zipM2, k_enum, k_rng, k_rng2, tr_bl, tr_int, tr_tup, tr_lst, s_nil, s_cons, x_expr, x_set, x_setT, x_par, x_setI, x_aug, x_cond, x_loop, x_while, x_ret, x_retN, x_pass, x_brk, x_mat, mk_nil, mk_cons, x_cont, x_run, b_lenT, b_lenL, b_lenF, b_tupT, b_tupL, b_lstT, b_lstL, b_allL, b_anyL, b_sumL, b_sumT, b_abs, b_max, b_min, b_intI, b_intB, q_ii, q_ss, mapR_some, andR_ite, orR_ite, unpK, parK, augK, setIK, setTg, setAll, wipe, blt, blt0, seqOf, lstOf, cop, isiD, tyOf, atP, place, Option.map_some, Option.map_none, Option.bind_some, Option.bind_none, eq_self, reduceCtorEq, Int.reduceLE, Int.reduceLT, Int.reduceNeg, Int.reduceEq, Int.reduceToNat, Int.reduceAdd, Int.reduceSub, Nat.reduceLeDiff, reduceIte,  List.flatten_cons, List.flatten_nil, List.length_map, List.map_cons, List.map_nil, List.length_cons, List.length_nil, List.replicate_succ, List.replicate_zero, List.cons_append, List.nil_append, List.append_nil, List.set_cons_zero, List.set_cons_succ, Bool.not_true, Bool.not_false, if_true, if_false, ite_true, ite_false, Bool.false_eq_true, decide_true, decide_false, Bool.or_true, Bool.true_or, Bool.or_false, Bool.false_or, Bool.and_true, Bool.true_and, Bool.and_false, Bool.false_and, decide_eq_true_eq, Nat.reduceAdd, Nat.reduceSub, Nat.zero_add, Function.comp_apply, e1, hsl, had, e2]
  have l18 : 18 ≤ line := le_line (by decide)
  simp only [vals21, List.cons_append, List.nil_append] at e4
  have t0 : exec (callI prog w (k + 6)) w (.set 2 (.blt .tuple (.cons (.blt .sortS (.cons (.var 1) .nil)) .nil))) [some (.ref n), some (.ref b), none, none, none, none, none, none, none] S = .ok (.nx, [some (.ref n), some (.ref b), some (sv al), none, none, none, none, none, none]) S := by
    simp only [qOpt, qRet, bnd_ok, bnd_exc, bnd_err, flow_nx, flow_rt, flow_bk, flow_ct, flow_exc, end_nx, end_rt, end_exc, e_var, g_0, g_s, e_cst, e_bin, e_neg, e_not, e_cmp, e_chain, e_and, e_or, e_ite, e_tup, e_lst, e_lstM, e_lstS, e_dct, e_idx, e_slc, e_rev, e_isi, e_fz, e_repM, e_addM, fz_lst, fz_tup, fz_dct, m_dget, e_blt, e_call, e_mth, m_tindex, m_tcount, e_lc, l_nil, l_cons, l_star, t_nil, t_cons, o_no, o_so, i_seq, i_rng1, i_rng2, i_zip, i_enum, i_enumT, k_enumT, k_neg, k_int, k_seqT, k_seqL, k_seqF, k_starT, k_starL, k_zipT, k_zipL, k_zipM, k_zipM2, k_enum, k_rng, k_rng2, tr_bl, tr_int, tr_tup, tr_lst, s_nil, s_cons, x_expr, x_set, x_setT, x_par, x_setI, x_aug, x_cond, x_loop, x_while, x_ret, x_retN, x_pass, x_brk, x_mat, mk_nil, mk_cons, x_cont, x_run, b_lenT, b_lenL, b_lenF, b_tupT, b_tupL, b_lstT, b_lstL, b_allL, b_anyL, b_sumL, b_sumT, b_abs, b_max, b_min, b_intI, b_intB, q_ii, q_ss, mapR_some, andR_ite, orR_ite, unpK, parK, augK, setIK, setTg, setAll, wipe, blt, blt0, seqOf, lstOf, cop, bop, intOp, isiD, tyOf, atP, place, Option.map_some, Option.map_none, Option.bind_some, Option.bind_none, eq_self, reduceCtorEq, Int.reduceLE, Int.reduceLT, Int.reduceNeg, Int.reduceEq, Int.reduceToNat, Int.reduceAdd, Int.reduceSub, Nat.reduceLeDiff, reduceIte,  List.flatten_cons, List.flatten_nil, List.length_map, List.map_cons, List.map_nil, List.length_cons, List.length_nil, List.replicate_succ, List.replicate_zero, List.cons_append, List.nil_append, List.append_nil, List.set_cons_zero, List.set_cons_succ, Bool.not_true, Bool.not_false, if_true, if_false, ite_true, ite_false, Bool.false_eq_true, decide_true, decide_false, Bool.or_true, Bool.true_or, Bool.or_false, Bool.false_or, Bool.and_true, Bool.true_and, Bool.and_false, Bool.false_and, decide_eq_true_eq, Nat.reduceAdd, Nat.reduceSub, Nat.zero_add, Function.comp_apply, es, tupleF, seqOf]
  rw [u__law_alphabet_right, x_run]
  show endR (execs (callI prog w (k + 6)) w b__law_alphabet_right [some (.ref n), some (.ref b), none, none, none, none, none, none, none] S) = _
  unfold b__law_alphabet_right
  rw [s_cons, t0, flow_nx, s_cons, t1, flow_nx]
  simp only [qOpt, qRet, bnd_ok, bnd_exc, bnd_err, flow_nx, flow_rt, flow_bk, flow_ct, flow_exc, end_nx, end_rt, end_exc, e_var, g_0, g_s, e_cst, e_bin, e_neg, e_not, e_cmp, e_chain, e_and, e_or, e_ite, e_tup, e_lst, e_lstM, e_lstS, e_dct, e_idx, e_slc, e_rev, e_isi, e_fz, e_repM, e_addM, fz_lst, fz_tup, fz_dct, m_dget, e_blt, e_call, e_mth, m_tindex, m_tcount, e_lc, l_nil, l_cons, l_star, t_nil, t_cons, o_no, o_so, i_seq, i_rng1, i_rng2, i_zip, i_enum, i_enumT, k_enumT, k_neg, k_int, k_seqT, k_seqL, k_seqF, k_starT, k_starL, k_zipT, k_zipL, k_zipM, k_zipM2, k_enum, k_rng, k_rng2, tr_bl, tr_int, tr_tup, tr_lst, s_nil, s_cons, x_expr, x_set, x_setT, x_par, x_setI, x_aug, x_cond, x_loop, x_while, x_ret, x_retN, x_pass, x_brk, x_mat, mk_nil, mk_cons, x_cont, x_run, b_lenT, b_lenL, b_lenF, b_tupT, b_tupL, b_lstT, b_lstL, b_allL, b_anyL, b_sumL, b_sumT, b_abs, b_max, b_min, b_intI, b_intB, q_ii, q_ss, mapR_some, andR_ite, orR_ite, unpK, parK, augK, setIK, setTg, setAll, wipe, blt, blt0, seqOf, lstOf, cop, bop, intOp, isiD, tyOf, atP, place, Option.map_some, Option.map_none, Option.bind_some, Option.bind_none, eq_self, reduceCtorEq, Int.reduceLE, Int.reduceLT, Int.reduceNeg, Int.reduceEq, Int.reduceToNat, Int.reduceAdd, Int.reduceSub, Nat.reduceLeDiff, reduceIte,  List.flatten_cons, List.flatten_nil, List.length_map, List.map_cons, List.map_nil, List.length_cons, List.length_nil, List.replicate_succ, List.replicate_zero, List.cons_append, List.nil_append, List.append_nil, List.set_cons_zero, List.set_cons_succ, Bool.not_true, Bool.not_false, if_true, if_false, ite_true, ite_false, Bool.false_eq_true, decide_true, decide_false, Bool.or_true, Bool.true_or, Bool.or_false, Bool.false_or, Bool.and_true, Bool.true_and, Bool.and_false, Bool.false_and, decide_eq_true_eq, Nat.reduceAdd, Nat.reduceSub, Nat.zero_add, Function.comp_apply, t2 S2 hc, e3, rp, dec_eq, g5, i0, i1, m1, m3, q1, q3, ss, listF, revD, sl_t, l2, l3, l4, l18, r8, e4, e5, nl]
end
end K01

set_option linter.all false
set_option maxRecDepth 10000
set_option exponentiation.threshold 10000
namespace K01
open Ln
open PySem (PyData Str)
theorem cnt_sum : ∀ (al ws : List Str), al.Nodup → (∀ x ∈ ws, x ∈ al) → (cnt al ws).sum = (ws.length : Int)
  | al, [], _, _ => by
    have : cnt al [] = List.replicate al.length 0 := by
      unfold cnt
      rw [List.map_eq_replicate_iff]
      intro a _
      simp
    rw [this]
    induction al.length with
    | zero => rfl
    | succ n ih => rw [List.replicate_succ, List.sum_cons]; simpa using ih
  | al, x :: ws, nd, h => by
    have ih := cnt_sum al ws nd fun y hy => h y (List.mem_cons_of_mem _ hy)
    have hx := h x List.mem_cons_self
    rw [List.length_cons]
    have key : ∀ al : List Str, al.Nodup → (cnt al (x :: ws)).sum = (cnt al ws).sum + if x ∈ al then 1 else 0 := by
      intro al nd
      induction al with
      | nil => simp [cnt]
      | cons a r ih =>
        obtain ⟨n1, n2⟩ := List.nodup_cons.mp nd
        have ih := ih n2
        unfold cnt at ih ⊢
        rw [List.map_cons, List.map_cons, List.sum_cons, List.sum_cons, ih, List.count_cons]
        by_cases e : x = a
        · subst e
          rw [if_neg n1]
          simp
          omega
        · have e2 : (x == a) = false := by simpa using e
          rw [e2]
          by_cases m : x ∈ r
          · simp [m, e]; omega
          · simp [m, e]
    rw [key al nd, if_pos hx, ih]
    omega
theorem filt_cnt {xs : List Str} {a : Str} : (xs.filter fun x => decide (x = a)).length = xs.count a := by
  rw [List.count_eq_countP, List.countP_eq_length_filter]
  congr 2
theorem rpn {al ws : List Str} (h : ws.length ≤ 1000) (hl : al.length ≤ 10) : ∃ t, ∀ S, reprF S [iv (cnt al ws)] = some (.str t) := by
  refine ⟨_, fun S => repr_sm (dat_ints _) ?_ ?_⟩
  · simp only [fine]
    refine fines_ints fun x hx => ?_
    obtain ⟨a, _, rfl⟩ := List.mem_map.mp hx
    have := List.count_le_length (a := a) (l := ws)
    refine log2_lt (Nat.lt_of_le_of_lt (show ((ws.count a : Nat) : Int).natAbs ≤ 1000 by omega) (by decide +kernel)) (by decide)
  · simp only [cost, costs_ints]
    have : (cnt al ws).length = al.length := by simp [cnt]
    exact le_line (by omega)
def fits (al ws : List Str) : Prop := (∀ x ∈ ws, x ∈ al) ∧ ws.length ≤ 200
theorem Al.nd {al : List Str} (h : Al al) : al.Nodup := ((asc_pw al).mp h.asc).imp fun {a b} z => (ltS_iff.mp z).2
abbrev turnB : Sms :=
  (.cons (.par [5, 6] (.cons (.blt .repr (.cons (.var 4) .nil)) (.cons (.call 9 (.cons (.var 1) (.cons (.var 4) .nil))) .nil)))
  (.cons (.cond (.cmp .ne (.blt .repr (.cons (.var 6) .nil)) (.blt .repr (.cons (.blt .tuple (.cons (.lc (.blt .len (.cons (.lc (.cst (.int 1)) (.nm 10) (.seq (.var 4)) (.cons (.cmp .eq (.var 10) (.var 9)) .nil) [10]) .nil)) (.nm 9) (.seq (.var 1)) .nil [9]) .nil)) .nil)))
  (.cons (.ret (.cst (.bl false)))
  .nil) .nil)
  (.cons (.cond (.or (.cmp .ne (.blt .repr (.cons (.var 4) .nil)) (.var 5)) (.or (.cmp .ne (.blt .sum (.cons (.var 6) .nil)) (.blt .len (.cons (.var 4) .nil))) (.cmp .isNot (.call 8 (.cons (.var 1) (.cons (.var 4) .nil))) (.cst (.bl true)))))
  (.cons (.ret (.cst (.bl false)))
  .nil) .nil)
  .nil)))
section
variable {w k n b : Nat} {S : Store} {al : List Str}
theorem s_word_turn (h : Al al) (hw : ∀ x ∈ al, Wd x) {ws : List Str} (hf : fits al ws) {v0 v2 v3 o5 o6 o7 o8 o9 o10 o11 : Option D} :
    ∃ x5 x6, execs (callI prog w (k + 6)) w turnB [v0, some (sv al), v2, v3, some (sv ws), o5, o6, o7, o8, o9, o10, o11] S = .ok (.nx, [v0, some (sv al), v2, v3, some (sv ws), x5, x6, o7, o8, o9, o10, o11]) S := by
  have e1 := s_counts_of (w := w) (k := k + 2) (S := S) h hf.1 hf.2
  have e2 := s_is_word (w := w) (k := k + 2) (S := S) h (vv_word h.ok h.act hf.1 (by have := hf.2; omega))
  rw [word_of hf.1] at e2
  obtain ⟨t, r⟩ := rpn (al := al) (ws := ws) (by have := hf.2; omega) (by have := h.n5; omega)
  have rp := rps (S := S) (xs := ws) (fun x hx => hw x (hf.1 x hx)) (by have := hf.2; omega)
  have su : intsD ((cnt al ws).map D.int) = some (cnt al ws) := ints_map _
  have cs := cnt_sum al ws h.nd hf.1
  have lc : ∀ x5 x6, lcM (callI prog w (k + 6)) (.blt .len (.cons (.lc (.cst (.int 1)) (.nm 10) (.seq (.var 4)) (.cons (.cmp .eq (.var 10) (.var 9)) .nil) [10]) .nil)) (.nm 9) .nil [9] [v0, some (sv al), v2, v3, some (sv ws), x5, x6, o7, o8, o9, o10, o11] (al.map D.str) S = .ok (.lst ((cnt al ws).map D.int)) S := fun x5 x6 => by
    have := lcM_map (cf := callI prog w (k + 6)) (S := S) (elt := .blt .len (.cons (.lc (.cst (.int 1)) (.nm 10) (.seq (.var 4)) (.cons (.cmp .eq (.var 10) (.var 9)) .nil) [10]) .nil)) (tg := .nm 9) (own := [9]) (ρ := [v0, some (sv al), v2, v3, some (sv ws), x5, x6, o7, o8, o9, o10, o11]) D.str (fun a => D.int (ws.count a)) al fun a ha => ⟨_, rfl, by
      have := lcM_filter (cf := callI prog w (k + 6)) (S := S) (elt := .cst (.int 1)) (c := .cmp .eq (.var 10) (.var 9)) (tg := .nm 10) (own := [10]) (ρ := [v0, some (sv al), v2, v3, some (sv ws), x5, x6, o7, o8, some (.str a), o10, o11]) D.str (fun _ => D.int 1) (fun x => decide (x = a)) ws fun x hx => ⟨_, rfl, by simp only [qOpt, qRet, bnd_ok, bnd_exc, bnd_err, flow_nx, flow_rt, flow_bk, flow_ct, flow_exc, end_nx, end_rt, end_exc, e_var, g_0, g_s, e_cst, e_bin, e_neg, e_not, e_cmp, e_chain, e_and, e_or, e_ite, e_tup, e_lst, e_lstM, e_lstS, e_dct, e_idx, e_slc, e_rev, e_isi, e_fz, e_repM, e_addM, fz_lst, fz_tup, fz_dct, m_dget, e_blt, e_call, e_mth, m_tindex, m_tcount, e_lc, l_nil, l_cons, l_star, t_nil, t_cons, o_no, o_so, i_seq, i_rng1, i_rng2, i_zip, i_enum, i_enumT, k_enumT, k_neg, k_int, k_seqT, k_seqL, k_seqF, k_starT, k_starL, k_zipT, k_zipL, k_zipM, k_zipM2, k_enum, k_rng, k_rng2, tr_bl, tr_int, tr_tup, tr_lst, s_nil, s_cons, x_expr, x_set, x_setT, x_par, x_setI, x_aug, x_cond, x_loop, x_while, x_ret, x_retN, x_pass, x_brk, x_mat, mk_nil, mk_cons, x_cont, x_run, b_lenT, b_lenL, b_lenF, b_tupT, b_tupL, b_lstT, b_lstL, b_allL, b_anyL, b_sumL, b_sumT, b_abs, b_max, b_min, b_intI, b_intB, q_ii, q_ss, mapR_some, andR_ite, orR_ite, unpK, parK, augK, setIK, setTg, setAll, wipe, blt, blt0, seqOf, lstOf, cop, bop, intOp, isiD, tyOf, atP, place, Option.map_some, Option.map_none, Option.bind_some, Option.bind_none, eq_self, reduceCtorEq, Int.reduceLE, Int.reduceLT, Int.reduceNeg, Int.reduceEq, Int.reduceToNat, Int.reduceAdd, Int.reduceSub, Nat.reduceLeDiff, reduceIte,  List.flatten_cons, List.flatten_nil, List.length_map, List.map_cons, List.map_nil, List.length_cons, List.length_nil, List.replicate_succ, List.replicate_zero, List.cons_append, List.nil_append, List.append_nil, List.set_cons_zero, List.set_cons_succ, Bool.not_true, Bool.not_false, if_true, if_false, ite_true, ite_false, Bool.false_eq_true, decide_true, decide_false, Bool.or_true, Bool.true_or, Bool.or_false, Bool.false_or, Bool.and_true, Bool.true_and, Bool.and_false, Bool.false_and, decide_eq_true_eq, Nat.reduceAdd, Nat.reduceSub, Nat.zero_add, Function.comp_apply], fun _ => by simp only [qOpt, qRet, bnd_ok, bnd_exc, bnd_err, flow_nx, flow_rt, flow_bk, flow_ct, flow_exc, end_nx, end_rt, end_exc, e_var, g_0, g_s, e_cst, e_bin, e_neg, e_not, e_cmp, e_chain, e_and, e_or, e_ite, e_tup, e_lst, e_lstM, e_lstS, e_dct, e_idx, e_slc, e_rev, e_isi, e_fz, e_repM, e_addM, fz_lst, fz_tup, fz_dct, m_dget, e_blt, e_call, e_mth, m_tindex, m_tcount, e_lc, l_nil, l_cons, l_star, t_nil, t_cons, o_no, o_so, i_seq, i_rng1, i_rng2, i_zip, i_enum, i_enumT, k_enumT, k_neg, k_int, k_seqT, k_seqL, k_seqF, k_starT, k_starL, k_zipT, k_zipL, k_zipM, k_zipM2, k_enum, k_rng, k_rng2, tr_bl, tr_int, tr_tup, tr_lst, s_nil, s_cons, x_expr, x_set, x_setT, x_par, x_setI, x_aug, x_cond, x_loop, x_while, x_ret, x_retN, x_pass, x_brk, x_mat, mk_nil, mk_cons, x_cont, x_run, b_lenT, b_lenL, b_lenF, b_tupT, b_tupL, b_lstT, b_lstL, b_allL, b_anyL, b_sumL, b_sumT, b_abs, b_max, b_min, b_intI, b_intB, q_ii, q_ss, mapR_some, andR_ite, orR_ite, unpK, parK, augK, setIK, setTg, setAll, wipe, blt, blt0, seqOf, lstOf, cop, bop, intOp, isiD, tyOf, atP, place, Option.map_some, Option.map_none, Option.bind_some, Option.bind_none, eq_self, reduceCtorEq, Int.reduceLE, Int.reduceLT, Int.reduceNeg, Int.reduceEq, Int.reduceToNat, Int.reduceAdd, Int.reduceSub, Nat.reduceLeDiff, reduceIte,  List.flatten_cons, List.flatten_nil, List.length_map, List.map_cons, List.map_nil, List.length_cons, List.length_nil, List.replicate_succ, List.replicate_zero, List.cons_append, List.nil_append, List.append_nil, List.set_cons_zero, List.set_cons_succ, Bool.not_true, Bool.not_false, if_true, if_false, ite_true, ite_false, Bool.false_eq_true, decide_true, decide_false, Bool.or_true, Bool.true_or, Bool.or_false, Bool.false_or, Bool.and_true, Bool.true_and, Bool.and_false, Bool.false_and, decide_eq_true_eq, Nat.reduceAdd, Nat.reduceSub, Nat.zero_add, Function.comp_apply]⟩
      simp only [qOpt, qRet, bnd_ok, bnd_exc, bnd_err, flow_nx, flow_rt, flow_bk, flow_ct, flow_exc, end_nx, end_rt, end_exc, e_var, g_0, g_s, e_cst, e_bin, e_neg, e_not, e_cmp, e_chain, e_and, e_or, e_ite, e_tup, e_lst, e_lstM, e_lstS, e_dct, e_idx, e_slc, e_rev, e_isi, e_fz, e_repM, e_addM, fz_lst, fz_tup, fz_dct, m_dget, e_blt, e_call, e_mth, m_tindex, m_tcount, e_lc, l_nil, l_cons, l_star, t_nil, t_cons, o_no, o_so, i_seq, i_rng1, i_rng2, i_zip, i_enum, i_enumT, k_enumT, k_neg, k_int, k_seqT, k_seqL, k_seqF, k_starT, k_starL, k_zipT, k_zipL, k_zipM, k_zipM2, k_enum, k_rng, k_rng2, tr_bl, tr_int, tr_tup, tr_lst, s_nil, s_cons, x_expr, x_set, x_setT, x_par, x_setI, x_aug, x_cond, x_loop, x_while, x_ret, x_retN, x_pass, x_brk, x_mat, mk_nil, mk_cons, x_cont, x_run, b_lenT, b_lenL, b_lenF, b_tupT, b_tupL, b_lstT, b_lstL, b_allL, b_anyL, b_sumL, b_sumT, b_abs, b_max, b_min, b_intI, b_intB, q_ii, q_ss, mapR_some, andR_ite, orR_ite, unpK, parK, augK, setIK, setTg, setAll, wipe, blt, blt0, seqOf, lstOf, cop, bop, intOp, isiD, tyOf, atP, place, Option.map_some, Option.map_none, Option.bind_some, Option.bind_none, eq_self, reduceCtorEq, Int.reduceLE, Int.reduceLT, Int.reduceNeg, Int.reduceEq, Int.reduceToNat, Int.reduceAdd, Int.reduceSub, Nat.reduceLeDiff, reduceIte,  List.flatten_cons, List.flatten_nil, List.length_map, List.map_cons, List.map_nil, List.length_cons, List.length_nil, List.replicate_succ, List.replicate_zero, List.cons_append, List.nil_append, List.append_nil, List.set_cons_zero, List.set_cons_succ, Bool.not_true, Bool.not_false, if_true, if_false, ite_true, ite_false, Bool.false_eq_true, decide_true, decide_false, Bool.or_true, Bool.true_or, Bool.or_false, Bool.false_or, Bool.and_true, Bool.true_and, Bool.and_false, Bool.false_and, decide_eq_true_eq, Nat.reduceAdd, Nat.reduceSub, Nat.zero_add, Function.comp_apply, this, lenF, filt_cnt]⟩
    rw [this]
    simp only [cnt, List.map_map, Function.comp_def]
  refine ⟨some (.str (rs ws)), some (iv (cnt al ws)), ?_⟩
  simp only [turnB, qOpt, qRet, bnd_ok, bnd_exc, bnd_err, flow_nx, flow_rt, flow_bk, flow_ct, flow_exc, end_nx, end_rt, end_exc, e_var, g_0, g_s, e_cst, e_bin, e_neg, e_not, e_cmp, e_chain, e_and, e_or, e_ite, e_tup, e_lst, e_lstM, e_lstS, e_dct, e_idx, e_slc, e_rev, e_isi, e_fz, e_repM, e_addM, fz_lst, fz_tup, fz_dct, m_dget, e_blt, e_call, e_mth, m_tindex, m_tcount, e_lc, l_nil, l_cons, l_star, t_nil, t_cons, o_no, o_so, i_seq, i_rng1, i_rng2, i_zip, i_enum, i_enumT, k_enumT, k_neg, k_int, k_seqT, k_seqL, k_seqF, k_starT, k_starL, k_zipT, k_zipL, k_zipM, k_zipM2, k_enum, k_rng, k_rng2, tr_bl, tr_int, tr_tup, tr_lst, s_nil, s_cons, x_expr, x_set, x_setT, x_par, x_setI, x_aug, x_cond, x_loop, x_while, x_ret, x_retN, x_pass, x_brk, x_mat, mk_nil, mk_cons, x_cont, x_run, b_lenT, b_lenL, b_lenF, b_tupT, b_tupL, b_lstT, b_lstL, b_allL, b_anyL, b_sumL, b_sumT, b_abs, b_max, b_min, b_intI, b_intB, q_ii, q_ss, mapR_some, andR_ite, orR_ite, unpK, parK, augK, setIK, setTg, setAll, wipe, blt, blt0, seqOf, lstOf, cop, bop, intOp, isiD, tyOf, atP, place, Option.map_some, Option.map_none, Option.bind_some, Option.bind_none, eq_self, reduceCtorEq, Int.reduceLE, Int.reduceLT, Int.reduceNeg, Int.reduceEq, Int.reduceToNat, Int.reduceAdd, Int.reduceSub, Nat.reduceLeDiff, reduceIte,  List.flatten_cons, List.flatten_nil, List.length_map, List.map_cons, List.map_nil, List.length_cons, List.length_nil, List.replicate_succ, List.replicate_zero, List.cons_append, List.nil_append, List.append_nil, List.set_cons_zero, List.set_cons_succ, Bool.not_true, Bool.not_false, if_true, if_false, ite_true, ite_false, Bool.false_eq_true, decide_true, decide_false, Bool.or_true, Bool.true_or, Bool.or_false, Bool.false_or, Bool.and_true, Bool.true_and, Bool.and_false, Bool.false_and, decide_eq_true_eq, Nat.reduceAdd, Nat.reduceSub, Nat.zero_add, Function.comp_apply, rp, e1, r, lc, tupleF, seqOf, dec_eq, su, cs, e2, isD, lenF, beq_self_eq_true]
end
end K01

set_option linter.all false
set_option maxRecDepth 10000
set_option exponentiation.threshold 10000
namespace K01
open Ln
open PySem (PyData Str)
def rept {α : Type} (m : Nat) (xs : List α) : List α := (List.replicate m xs).flatten
theorem rept_map {α β : Type} (f : α → β) (m : Nat) (xs : List α) : (List.replicate m (xs.map f)).flatten = (rept m xs).map f := by
  unfold rept
  rw [List.map_flatten, List.map_replicate]
theorem rept_len {α : Type} (m : Nat) (xs : List α) : (rept m xs).length = m * xs.length := by
  unfold rept
  simp
theorem rept_mem {α : Type} {m : Nat} {xs : List α} {x : α} (h : x ∈ rept m xs) : x ∈ xs := by
  unfold rept at h
  obtain ⟨l, hl, hx⟩ := List.mem_flatten.mp h
  exact (List.mem_replicate.mp hl).2 ▸ hx
theorem mul_tup {S : Store} {xs : List Str} {m : Nat} (h : m ≤ 1000000) (h2 : xs.length * m ≤ 1000000) : bop .mul (sv xs) (.int (m : Int)) S = some (sv (rept m xs)) := by
  have c : (decide (-1000000 ≤ (m : Int)) && decide ((m : Int) ≤ 1000000) && decide ((xs.map D.str).length * (m : Int).toNat ≤ 1000000)) = true := by
    simp only [Bool.and_eq_true, decide_eq_true_eq, List.length_map, Int.toNat_natCast]
    omega
  show (if (decide (-1000000 ≤ (m : Int)) && decide ((m : Int) ≤ 1000000) && decide ((xs.map D.str).length * (m : Int).toNat ≤ 1000000)) = true then some (D.tup (List.replicate (m : Int).toNat (xs.map D.str)).flatten) else none) = _
  rw [if_pos c, Int.toNat_natCast, rept_map]
theorem add_tup {S : Store} {xs ys : List D} (h : xs.length + ys.length ≤ line) : bop .add (.tup xs) (.tup ys) S = some (.tup (xs ++ ys)) := if_pos h
theorem sl_pre {S : Store} {xs : List Str} {j : Nat} : slcD S (sv xs) none (some (j : Int)) = some (sv (xs.take j)) := by
  rw [sl_t, cut_to, ← List.map_take]
abbrev vals22 (al ws long : List Str) (a : Str) : List D :=
  [sv (rept 2 long), .lst (ws.map .str), .tup (ws.map .str ++ [.str "zzz"]), .tup (ws.map .str ++ [.int 0]), .tup [sv al], .str "a", .str a, .non, .tup (ws.map .str).reverse, .dct [] []]
theorem vals22_vv {al ws long : List Str} {a : Str} (h : ∀ x ∈ al, Wd x) (h5 : al.length ≤ 5) (hm : ∀ x ∈ ws, Wd x) (hl : ws.length ≤ 100) (hg : ∀ x ∈ long, Wd x) (hgl : long.length ≤ 300) (ha : Wd a) : ∀ v ∈ vals22 al ws long a, Vv v := by
  have it := vv_items hm
  have l := List.length_map (as := ws) D.str
  have z3 : Vv (.str "zzz") := vv_asc
  have za : Vv (.str "a") := vv_asc
  intro v hv
  simp only [vals22, List.mem_cons, List.not_mem_nil, or_false] at hv
  rcases hv with rfl | rfl | rfl | rfl | rfl | rfl | rfl | rfl | rfl | rfl
  · exact vv_s (fun x hx => hg x (rept_mem hx)) (by rw [rept_len]; omega)
  · exact vv_lst hm (by omega)
  · exact vv_app it (vv_one z3) (by simp; omega)
  · exact vv_app it (vv_one (.int 0)) (by simp; omega)
  · exact .tup (vv_one (vv_s h (by omega))) (by simp)
  · exact za
  · exact vv_act ha.act ha.ok
  · exact .non
  · exact .tup (fun d hd => it d (List.mem_reverse.mp hd)) (by rw [List.length_reverse]; omega)
  · exact .dct
section
variable {w k n b : Nat} {S : Store} {al : List Str}
theorem word_loop (h : Al al) (hw : ∀ x ∈ al, Wd x) {v0 v2 v3 o7 o8 o9 o10 o11 : Option D} : ∀ (l : List (List Str)) {o4 o5 o6 : Option D}, (∀ ws ∈ l, fits al ws) →
    ∃ o4' o5' o6', loopM (callI prog w (k + 6)) w (.nm 4) turnB (l.map sv) [v0, some (sv al), v2, v3, o4, o5, o6, o7, o8, o9, o10, o11] S = .ok (.nx, [v0, some (sv al), v2, v3, o4', o5', o6', o7, o8, o9, o10, o11]) S
  | [], o4, o5, o6, _ => ⟨o4, o5, o6, loopM_nil⟩
  | ws :: l, o4, o5, o6, hf => by
    obtain ⟨x5, x6, e⟩ := s_word_turn (w := w) (k := k) (S := S) h hw (hf ws List.mem_cons_self) (v0 := v0) (v2 := v2) (v3 := v3) (o5 := o5) (o6 := o6) (o7 := o7) (o8 := o8) (o9 := o9) (o10 := o10) (o11 := o11)
    obtain ⟨o4', o5', o6', e2⟩ := word_loop h hw l (o4 := some (sv ws)) (o5 := x5) (o6 := x6) (v0 := v0) (v2 := v2) (v3 := v3) (o7 := o7) (o8 := o8) (o9 := o9) (o10 := o10) (o11 := o11) fun x hx => hf x (List.mem_cons_of_mem _ hx)
    exact ⟨o4', o5', o6', (loopM_nx rfl e).trans e2⟩
theorem s_words_right (hs : Strm n S) (h : Al al) (hw : ∀ x ∈ al, Wd x) : ∃ S', callI prog w (k + 7) 22 [.ref n, sv al] S = .ok (.bl true) S' ∧ Strm n S' := by
  have n5 := h.n5
  have n1 := h.n1
  obtain ⟨ws, S1, e1, l1, m1, s1⟩ := word_sp (w := w) (k := k + 3) hdraw hpick hword hs (al := al) (fun e => by rw [e] at n1; simp at n1) (by omega) (high := 12) (by decide)
  have e1 : callI prog w (k + 6) 14 [.ref n, sv al, .int 12] S = .ok (sv ws) S1 := e1
  obtain ⟨a, r, ha⟩ : ∃ a r, al = a :: r := by cases al with
    | nil => simp at n1
    | cons a r => exact ⟨a, r, rfl⟩
  have haw : Wd a := hw a (by rw [ha]; exact List.mem_cons_self)
  have ham : a ∈ al := by rw [ha]; exact List.mem_cons_self
  have sl1 : slcD S1 (sv al) none (some 1) = some (sv [a]) := by
    rw [show (1 : Int) = ((1 : Nat) : Int) from rfl, sl_pre, ha]
    rfl
  obtain ⟨N, hN⟩ : ∃ N : Nat, N = 1 + 200 / (ws.length + 1) := ⟨_, rfl⟩
  have n2 : N * (ws.length + 1) ≤ 213 := by
    rw [hN, Nat.add_mul]
    have := Nat.div_mul_le_self 200 (ws.length + 1)
    omega
  have n3 : 200 < N * (ws.length + 1) := by
    have := Nat.lt_div_mul_add (a := 200) (b := ws.length + 1) (by omega)
    rw [hN, Nat.add_mul]
    omega
  have n4 : N ≤ 201 := by
    have := Nat.div_le_self 200 (ws.length + 1)
    omega
  have dv : intOp .fdiv 200 ((ws.length : Int) + 1) = some ((200 / (ws.length + 1) : Nat) : Int) := by
    have d : divOk ((ws.length : Int) + 1) = true := by
      unfold divOk
      have : ((ws.length : Int) + 1).natAbs = ws.length + 1 := by omega
      rw [this]
      have := Nat.log2_le_self (ws.length + 1)
      simp
      omega
    rw [ii_div d, Int.fdiv_eq_ediv_of_nonneg _ (by omega)]
    rfl
  have ad : (ws.map D.str).length + 1 ≤ line := by rw [List.length_map]; exact le_line (by omega)
  have mu := fun S : Store => mul_tup (S := S) (xs := ws ++ [a]) (m := N) (by omega) (by rw [List.length_append, List.length_singleton, Nat.mul_comm]; omega)
  obtain ⟨long, hlg⟩ : ∃ long, long = rept N (ws ++ [a]) := ⟨_, rfl⟩
  rw [← hlg] at mu
  have lm : ∀ x ∈ long, x ∈ al := fun x hx => by
    rw [hlg] at hx
    rcases List.mem_append.mp (rept_mem hx) with hx | hx
    · exact m1 x hx
    · rw [List.mem_singleton.mp hx]; exact ham
  have ll : long.length ≤ 300 := by rw [hlg, rept_len, List.length_append, List.length_singleton]; omega
  have ff : ∀ x ∈ [ws, [], al, long.take 200, long.take 199], fits al x := fun x hx => by
    simp only [List.mem_cons, List.not_mem_nil, or_false] at hx
    rcases hx with rfl | rfl | rfl | rfl | rfl
    · exact ⟨m1, by omega⟩
    · exact ⟨fun _ h => absurd h List.not_mem_nil, by simp⟩
    · exact ⟨fun _ h => h, by omega⟩
    · exact ⟨fun x hx => lm x (List.mem_of_mem_take hx), by rw [List.length_take]; omega⟩
    · exact ⟨fun x hx => lm x (List.mem_of_mem_take hx), by rw [List.length_take]; omega⟩
  obtain ⟨o4, o5, o6, e2⟩ := word_loop (w := w) (k := k) (S := S1) h hw [ws, [], al, long.take 200, long.take 199] (o4 := none) (o5 := none) (o6 := none) (v0 := some (.ref n)) (v2 := some (sv ws)) (v3 := some (sv long)) (o7 := none) (o8 := none) (o9 := none) (o10 := none) (o11 := none) ff
  have mu2 : ∀ S, bop .mul (sv long) (.int 2) S = some (sv (rept 2 long)) := fun S : Store => mul_tup (S := S) (xs := long) (m := 2) (by decide) (by omega)
  have hsl : ∀ j : Nat, slcD S1 (sv long) none (some (j : Int)) = some (sv (long.take j)) := fun j => sl_pre
  have s200 : slcD S1 (sv long) none (some 200) = some (sv (long.take 200)) := hsl 200
  have s199 : slcD S1 (sv long) none (some 199) = some (sv (long.take 199)) := hsl 199
  have i0 : ∀ S, idxD S (sv al) (.int 0) = some (.str a) := fun S => by rw [ha]; simp [idxD, seqOf, atP, place]
  have vs0 := vals22_vv (al := al) (ws := ws) (long := long) hw n5 (fun x hx => hw x (m1 x hx)) (by omega) (fun x hx => hw x (lm x hx)) ll haw
  obtain ⟨us, o8, S3, e4, k3, hu, _⟩ := bent_loop22 (w := w) (k := k) (n := n) (xs := ws) (fun x hx => hw x (m1 x hx)) (by omega) (v1 := some (sv al)) (v3 := some (sv long)) (v4 := o4) (v5 := o5) (v6 := o6) (o9 := none) (o10 := none) (o11 := none) (List.range 6) (o8 := none) (S := S1) s1 vs0 (by simp)
  have r6 : ∀ S, rngK (.int 6) S = .ok ((List.range 6).map fun (i : Nat) => .int i) S := fun S => k_rng (n := 6) (le_line (by decide))
  have e5 := all_same22 (w := w) (k := k + 2) (S := S3) h hu (v0 := some (.ref n)) (v2 := some (sv ws)) (v3 := some (sv long)) (v4 := o4) (v5 := o5) (v6 := o6) (o8 := o8) (o9 := none) (o10 := none) (o11 := none)
  refine ⟨S3, ?_, k3.s⟩
  have nl : ∀ S, eqD S (.lst []) (.lst []) = some true := fun _ => rfl
  have eN : (1 : Int) + ((200 / (ws.length + 1) : Nat) : Int) = (N : Int) := by omega
  have t0 : exec (callI prog w (k + 6)) w (.set 2 (.call 14 (.cons (.var 0) (.cons (.var 1) (.cons (.cst (.int 12)) .nil))))) [some (.ref n), some (sv al), none, none, none, none, none, none, none, none, none, none] S = .ok (.nx, [some (.ref n), some (sv al), some (sv ws), none, none, none, none, none, none, none, none, none]) S1 := by
    simp only [qOpt, qRet, bnd_ok, bnd_exc, bnd_err, flow_nx, flow_rt, flow_bk, flow_ct, flow_exc, end_nx, end_rt, end_exc, e_var, g_0, g_s, e_cst, e_bin, e_neg, e_not, e_cmp, e_chain, e_and, e_or, e_ite, e_tup, e_lst, e_lstM, e_lstS, e_dct, e_idx, e_slc, e_rev, e_isi, e_fz, e_repM, e_addM, fz_lst, fz_tup, fz_dct, m_dget, e_blt, e_call, e_mth, m_tindex, m_tcount, e_lc, l_nil, l_cons, l_star, t_nil, t_cons, o_no, o_so, i_seq, i_rng1, i_rng2, i_zip, i_enum, i_enumT, k_enumT, k_neg, k_int, k_seqT, k_seqL, k_seqF, k_starT, k_starL, k_zipT, k_zipL, k_zipM, k_zipM2, k_enum, k_rng, k_rng2, tr_bl, tr_int, tr_tup, tr_lst, s_nil, s_cons, x_expr, x_set, x_setT, x_par, x_setI, x_aug, x_cond, x_loop, x_while, x_ret, x_retN, x_pass, x_brk, x_mat, mk_nil, mk_cons, x_cont, x_run, b_lenT, b_lenL, b_lenF, b_tupT, b_tupL, b_lstT, b_lstL, b_allL, b_anyL, b_sumL, b_sumT, b_abs, b_max, b_min, b_intI, b_intB, q_ii, q_ss, mapR_some, andR_ite, orR_ite, unpK, parK, augK, setIK, setTg, setAll, wipe, blt, blt0, seqOf, lstOf, cop, bop, intOp, isiD, tyOf, atP, place, Option.map_some, Option.map_none, Option.bind_some, Option.bind_none, eq_self, reduceCtorEq, Int.reduceLE, Int.reduceLT, Int.reduceNeg, Int.reduceEq, Int.reduceToNat, Int.reduceAdd, Int.reduceSub, Nat.reduceLeDiff, reduceIte,  List.flatten_cons, List.flatten_nil, List.length_map, List.map_cons, List.map_nil, List.length_cons, List.length_nil, List.replicate_succ, List.replicate_zero, List.cons_append, List.nil_append, List.append_nil, List.set_cons_zero, List.set_cons_succ, Bool.not_true, Bool.not_false, if_true, if_false, ite_true, ite_false, Bool.false_eq_true, decide_true, decide_false, Bool.or_true, Bool.true_or, Bool.or_false, Bool.false_or, Bool.and_true, Bool.true_and, Bool.and_false, Bool.false_and, decide_eq_true_eq, Nat.reduceAdd, Nat.reduceSub, Nat.zero_add, Function.comp_apply, e1]
  have t1 : exec (callI prog w (k + 6)) w (.set 3 (.bin .mul (.bin .add (.var 2) (.slc (.var 1) .no (.so (.cst (.int 1))))) (.bin .add (.cst (.int 1)) (.bin .fdiv (.cst (.int 200)) (.bin .add (.blt .len (.cons (.var 2) .nil)) (.cst (.int 1))))))) [some (.ref n), some (sv al), some (sv ws), none, none, none, none, none, none, none, none, none] S1 = .ok (.nx, [some (.ref n), some (sv al), some (sv ws), some (sv long), none, none, none, none, none, none, none, none]) S1 := by
    have c1 : bop .add (sv ws) (sv [a]) S1 = some (sv (ws ++ [a])) := by rw [add_tup ad, ← List.map_append]
    have c2 : ∀ (x y : Int) S, bop .add (.int x) (.int y) S = some (.int (x + y)) := fun _ _ _ => rfl
    have c3 : bop .fdiv (.int 200) (.int ((ws.length : Int) + 1)) S1 = some (.int ((200 / (ws.length + 1) : Nat) : Int)) := by rw [bop_ii, dv]; rfl
    simp only [qOpt, qRet, bnd_ok, bnd_exc, bnd_err, flow_nx, flow_rt, flow_bk, flow_ct, flow_exc, end_nx, end_rt, end_exc, e_var, g_0, g_s, e_cst, e_bin, e_neg, e_not, e_cmp, e_chain, e_and, e_or, e_ite, e_tup, e_lst, e_lstM, e_lstS, e_dct, e_idx, e_slc, e_rev, e_isi, e_fz, e_repM, e_addM, fz_lst, fz_tup, fz_dct, m_dget, e_blt, e_call, e_mth, m_tindex, m_tcount, e_lc, l_nil, l_cons, l_star, t_nil, t_cons, o_no, o_so, i_seq, i_rng1, i_rng2, i_zip, i_enum, i_enumT, k_enumT, k_neg, k_int, k_seqT, k_seqL, k_seqF, k_starT, k_starL, k_zipT, k_zipL, k_zipM, k_zipM2, k_enum, k_rng, k_rng2, tr_bl, tr_int, tr_tup, tr_lst, s_nil, s_cons, x_expr, x_set, x_setT, x_par, x_setI, x_aug, x_cond, x_loop, x_while, x_ret, x_retN, x_pass, x_brk, x_mat, mk_nil, mk_cons, x_cont, x_run, b_lenT, b_lenL, b_lenF, b_tupT, b_tupL, b_lstT, b_lstL, b_allL, b_anyL, b_sumL, b_sumT, b_abs, b_max, b_min, b_intI, b_intB, q_ii, q_ss, mapR_some, andR_ite, orR_ite, unpK, parK, augK, setIK, setTg, setAll, wipe, blt, blt0, seqOf, lstOf, cop, isiD, tyOf, atP, place, Option.map_some, Option.map_none, Option.bind_some, Option.bind_none, eq_self, reduceCtorEq, Int.reduceLE, Int.reduceLT, Int.reduceNeg, Int.reduceEq, Int.reduceToNat, Int.reduceAdd, Int.reduceSub, Nat.reduceLeDiff, reduceIte,  List.flatten_cons, List.flatten_nil, List.length_map, List.map_cons, List.map_nil, List.length_cons, List.length_nil, List.replicate_succ, List.replicate_zero, List.cons_append, List.nil_append, List.append_nil, List.set_cons_zero, List.set_cons_succ, Bool.not_true, Bool.not_false, if_true, if_false, ite_true, ite_false, Bool.false_eq_true, decide_true, decide_false, Bool.or_true, Bool.true_or, Bool.or_false, Bool.false_or, Bool.and_true, Bool.true_and, Bool.and_false, Bool.false_and, decide_eq_true_eq, Nat.reduceAdd, Nat.reduceSub, Nat.zero_add, Function.comp_apply, sl1, c1, c2, lenF, c3, eN, mu]
  have t2 : exec (callI prog w (k + 6)) w (.loop (.nm 4) (.seq (.tup (.cons (.var 2) (.cons (.tup .nil) (.cons (.var 1) (.cons (.slc (.var 3) .no (.so (.cst (.int 200)))) (.cons (.slc (.var 3) .no (.so (.cst (.int 199)))) .nil))))))) turnB) [some (.ref n), some (sv al), some (sv ws), some (sv long), none, none, none, none, none, none, none, none] S1 = .ok (.nx, [some (.ref n), some (sv al), some (sv ws), some (sv long), o4, o5, o6, none, none, none, none, none]) S1 := by
    have e2 : loopM (callI prog w (k + 6)) w (.nm 4) turnB [sv ws, .tup [], sv al, sv (long.take 200), sv (long.take 199)] [some (.ref n), some (sv al), some (sv ws), some (sv long), none, none, none, none, none, none, none, none] S1 = _ := e2
    rw [x_loop]
    simp only [qOpt, qRet, bnd_ok, bnd_exc, bnd_err, flow_nx, flow_rt, flow_bk, flow_ct, flow_exc, end_nx, end_rt, end_exc, e_var, g_0, g_s, e_cst, e_bin, e_neg, e_not, e_cmp, e_chain, e_and, e_or, e_ite, e_tup, e_lst, e_lstM, e_lstS, e_dct, e_idx, e_slc, e_rev, e_isi, e_fz, e_repM, e_addM, fz_lst, fz_tup, fz_dct, m_dget, e_blt, e_call, e_mth, m_tindex, m_tcount, e_lc, l_nil, l_cons, l_star, t_nil, t_cons, o_no, o_so, i_seq, i_rng1, i_rng2, i_zip, i_enum, i_enumT, k_enumT, k_neg, k_int, k_seqT, k_seqL, k_seqF, k_starT, k_starL, k_zipT, k_zipL, k_zipM, k_zipM2, k_enum, k_rng, k_rng2, tr_bl, tr_int, tr_tup, tr_lst, s_nil, s_cons, x_expr, x_set, x_setT, x_par, x_setI, x_aug, x_cond, x_loop, x_while, x_ret, x_retN, x_pass, x_brk, x_mat, mk_nil, mk_cons, x_cont, x_run, b_lenT, b_lenL, b_lenF, b_tupT, b_tupL, b_lstT, b_lstL, b_allL, b_anyL, b_sumL, b_sumT, b_abs, b_max, b_min, b_intI, b_intB, q_ii, q_ss, mapR_some, andR_ite, orR_ite, unpK, parK, augK, setIK, setTg, setAll, wipe, blt, blt0, seqOf, lstOf, cop, isiD, tyOf, atP, place, Option.map_some, Option.map_none, Option.bind_some, Option.bind_none, eq_self, reduceCtorEq, Int.reduceLE, Int.reduceLT, Int.reduceNeg, Int.reduceEq, Int.reduceToNat, Int.reduceAdd, Int.reduceSub, Nat.reduceLeDiff, reduceIte,  List.flatten_cons, List.flatten_nil, List.length_map, List.map_cons, List.map_nil, List.length_cons, List.length_nil, List.replicate_succ, List.replicate_zero, List.cons_append, List.nil_append, List.append_nil, List.set_cons_zero, List.set_cons_succ, Bool.not_true, Bool.not_false, if_true, if_false, ite_true, ite_false, Bool.false_eq_true, decide_true, decide_false, Bool.or_true, Bool.true_or, Bool.or_false, Bool.false_or, Bool.and_true, Bool.true_and, Bool.and_false, Bool.false_and, decide_eq_true_eq, Nat.reduceAdd, Nat.reduceSub, Nat.zero_add, Function.comp_apply, s200, s199]
    exact e2
  have ad2 : (ws.map D.str).length + 1 ≤ line := ad
  rw [List.length_map] at ad
  rw [u__law_words_right, x_run]
  show endR (execs (callI prog w (k + 6)) w b__law_words_right [some (.ref n), some (sv al), none, none, none, none, none, none, none, none, none, none] S) = _
  unfold b__law_words_right
  rw [s_cons, t0, flow_nx, s_cons, t1, flow_nx, s_cons, t2, flow_nx]
  have c4 := fun S : Store => add_tup (S := S) (xs := ws.map D.str) (ys := [.str "zzz"]) ad2
  have c5 := fun S : Store => add_tup (S := S) (xs := ws.map D.str) (ys := [.int 0]) ad2
  simp only [qOpt, qRet, bnd_ok, bnd_exc, bnd_err, flow_nx, flow_rt, flow_bk, flow_ct, flow_exc, end_nx, end_rt, end_exc, e_var, g_0, g_s, e_cst, e_bin, e_neg, e_not, e_cmp, e_chain, e_and, e_or, e_ite, e_tup, e_lst, e_lstM, e_lstS, e_dct, e_idx, e_slc, e_rev, e_isi, e_fz, e_repM, e_addM, fz_lst, fz_tup, fz_dct, m_dget, e_blt, e_call, e_mth, m_tindex, m_tcount, e_lc, l_nil, l_cons, l_star, t_nil, t_cons, o_no, o_so, i_seq, i_rng1, i_rng2, i_zip, i_enum, i_enumT, k_enumT, k_neg, k_int, k_seqT, k_seqL, k_seqF, k_starT, k_starL, k_zipT, k_zipL, k_zipM, k_zipM2, k_enum, k_rng, k_rng2, tr_bl, tr_int, tr_tup, tr_lst, s_nil, s_cons, x_expr, x_set, x_setT, x_par, x_setI, x_aug, x_cond, x_loop, x_while, x_ret, x_retN, x_pass, x_brk, x_mat, mk_nil, mk_cons, x_cont, x_run, b_lenT, b_lenL, b_lenF, b_tupT, b_tupL, b_lstT, b_lstL, b_allL, b_anyL, b_sumL, b_sumT, b_abs, b_max, b_min, b_intI, b_intB, q_ii, q_ss, mapR_some, andR_ite, orR_ite, unpK, parK, augK, setIK, setTg, setAll, wipe, blt, blt0, seqOf, lstOf, cop, isiD, tyOf, atP, place, Option.map_some, Option.map_none, Option.bind_some, Option.bind_none, eq_self, reduceCtorEq, Int.reduceLE, Int.reduceLT, Int.reduceNeg, Int.reduceEq, Int.reduceToNat, Int.reduceAdd, Int.reduceSub, Nat.reduceLeDiff, reduceIte,  List.flatten_cons, List.flatten_nil, List.length_map, List.map_cons, List.map_nil, List.length_cons, List.length_nil, List.replicate_succ, List.replicate_zero, List.cons_append, List.nil_append, List.append_nil, List.set_cons_zero, List.set_cons_succ, Bool.not_true, Bool.not_false, if_true, if_false, ite_true, ite_false, Bool.false_eq_true, decide_true, decide_false, Bool.or_true, Bool.true_or, Bool.or_false, Bool.false_or, Bool.and_true, Bool.true_and, Bool.and_false, Bool.false_and, decide_eq_true_eq, Nat.reduceAdd, Nat.reduceSub, Nat.zero_add, Function.comp_apply, mu2, c4, c5, i0, listF, revD, r6, e4, e5, nl]
end
end K01

set_option linter.all false
set_option maxRecDepth 10000
set_option exponentiation.threshold 10000
namespace K01
open Ln
open PySem (PyData Str)
section
variable {w k n b : Nat} {S : Store}
abbrev lawB : Sms := match b_law with | .cons _ (.cons (.loop _ _ b) _) => b | _ => .nil
/-- one turn of the law's for -/
theorem s_turn (hw : 20 ≤ w) {ns : List Int} {i : Nat} {S : Store} {o2 o3 o4 : Option D} :
    ∃ o2' o3' S', execs (callI prog w (k + 7)) w lawB [some (.frz (ns.map .int)), some (.int i), o2, o3, o4] S = .ok (.nx, [some (.frz (ns.map .int)), some (.int i), o2', o3', o4]) S' := by
  obtain ⟨S1, e1, s1, _⟩ := stream_sp (w := w) (k := k + 6) hstream (ns := ns) (at_ := i) (S := S)
  generalize S.length = n at e1 s1
  have e1 : callI prog w (k + 7) 10 [.frz (ns.map .int), .int i] S = .ok (.ref n) S1 := e1
  obtain ⟨b, xs, S2, e2, hb, hnb, hx, nd, h5, h1, s2⟩ := s_law_actions (w := w) (k := k + 5) s1
  obtain ⟨S3, e3, s3, hb3⟩ := s_alphabet_right (w := w) (k := k) hw s2 hnb hb hx nd h1 h5
  obtain ⟨S4, e4, s4⟩ := s_words_right (w := w) (k := k) s3 (al_sorted hx nd h1 h5) fun x h => hx x (List.mem_mergeSort.mp h)
  have es : sortF S3 [.ref b] = some (.lst ((xs.mergeSort leS).map .str)) := sort_ref hb3 (by omega)
  refine ⟨some (.ref n), some (.ref b), S4, ?_⟩
  simp only [lawB, b_law, qOpt, qRet, bnd_ok, bnd_exc, bnd_err, flow_nx, flow_rt, flow_bk, flow_ct, flow_exc, end_nx, end_rt, end_exc, e_var, g_0, g_s, e_cst, e_bin, e_neg, e_not, e_cmp, e_chain, e_and, e_or, e_ite, e_tup, e_lst, e_lstM, e_lstS, e_dct, e_idx, e_slc, e_rev, e_isi, e_fz, e_repM, e_addM, fz_lst, fz_tup, fz_dct, m_dget, e_blt, e_call, e_mth, m_tindex, m_tcount, e_lc, l_nil, l_cons, l_star, t_nil, t_cons, o_no, o_so, i_seq, i_rng1, i_rng2, i_zip, i_enum, i_enumT, k_enumT, k_neg, k_int, k_seqT, k_seqL, k_seqF, k_starT, k_starL, k_zipT, k_zipL, k_zipM, k_zipM2, k_enum, k_rng, k_rng2, tr_bl, tr_int, tr_tup, tr_lst, s_nil, s_cons, x_expr, x_set, x_setT, x_par, x_setI, x_aug, x_cond, x_loop, x_while, x_ret, x_retN, x_pass, x_brk, x_mat, mk_nil, mk_cons, x_cont, x_run, b_lenT, b_lenL, b_lenF, b_tupT, b_tupL, b_lstT, b_lstL, b_allL, b_anyL, b_sumL, b_sumT, b_abs, b_max, b_min, b_intI, b_intB, q_ii, q_ss, mapR_some, andR_ite, orR_ite, unpK, parK, augK, setIK, setTg, setAll, wipe, blt, blt0, seqOf, lstOf, cop, bop, intOp, isiD, tyOf, atP, place, Option.map_some, Option.map_none, Option.bind_some, Option.bind_none, eq_self, reduceCtorEq, Int.reduceLE, Int.reduceLT, Int.reduceNeg, Int.reduceEq, Int.reduceToNat, Int.reduceAdd, Int.reduceSub, Nat.reduceLeDiff, reduceIte,  List.flatten_cons, List.flatten_nil, List.length_map, List.map_cons, List.map_nil, List.length_cons, List.length_nil, List.replicate_succ, List.replicate_zero, List.cons_append, List.nil_append, List.append_nil, List.set_cons_zero, List.set_cons_succ, Bool.not_true, Bool.not_false, if_true, if_false, ite_true, ite_false, Bool.false_eq_true, decide_true, decide_false, Bool.or_true, Bool.true_or, Bool.or_false, Bool.false_or, Bool.and_true, Bool.true_and, Bool.and_false, Bool.false_and, decide_eq_true_eq, Nat.reduceAdd, Nat.reduceSub, Nat.zero_add, Function.comp_apply, e1, e2, e3, es, e4]
theorem wd_of_all {xs : List Str} (h : xs.all (fun x => decide (1 ≤ x.length) && decide (x.length ≤ 8) && x.cps.toList.all fun c => decide (97 ≤ c) && decide (c < 123)) = true) : ∀ x ∈ xs, Wd x := fun x hx => by
  have := List.all_eq_true.mp h x hx
  simp only [Bool.and_eq_true, decide_eq_true_eq, List.all_eq_true] at this
  exact ⟨this.1.1, this.1.2, fun c hc => (this.2 c hc).1, fun c hc => (this.2 c hc).2⟩
theorem srt_is {xs ys : List Str} (h1 : ys.Pairwise fun a b => leS a b = true) (h2 : ys.Nodup) (h : ∀ x, x ∈ xs.eraseDups ↔ x ∈ ys) : srt xs = ys := by
  rw [show srt xs = ys.mergeSort leS from sort_eq (dedup_nd _ _ (Nat.le_refl _)) h2 h, List.mergeSort_of_pairwise h1]
theorem vv_strs {xs : List Str} (h : xs.all (fun x => decide (x.length ≤ 100) && PyData.strOk x) = true) (hl : xs.length ≤ 100) : Vv (sv xs) := .tup (fun d hd => by
  obtain ⟨x, hx, rfl⟩ := List.mem_map.mp hd
  have := List.all_eq_true.mp h x hx
  simp only [Bool.and_eq_true, decide_eq_true_eq] at this
  exact .str (by omega) this.2) (by rw [List.length_map]; omega)
theorem pure_law (hw : 20 ≤ w) (ns : List Int) : ∃ S, callI prog w (k + 8) 23 [.frz (ns.map D.int)] [] = .ok (.bl true) S := by
  obtain ⟨m, hm, m8⟩ : ∃ m : Nat, (if (if (ns.length : Int) < 8 then (ns.length : Int) else 8) > 1 then (if (ns.length : Int) < 8 then (ns.length : Int) else 8) else 1) = (m : Int) ∧ m ≤ 8 := by
    by_cases h1 : (ns.length : Int) < 8
    · rw [if_pos h1]
      by_cases h2 : (ns.length : Int) > 1
      · rw [if_pos h2]; exact ⟨ns.length, rfl, by omega⟩
      · rw [if_neg h2]; exact ⟨1, rfl, by omega⟩
    · rw [if_neg h1]; exact ⟨8, rfl, by omega⟩
  have e := loopM_inv (cf := callI prog w (k + 7)) (w := w) (tg := .nm 1) (b := lawB) (fun i : Nat => D.int i) (fun ρ _ => ∃ o1 o2 o3 o4, ρ = [some (.frz (ns.map .int)), o1, o2, o3, o4]) (List.range m)
    (ρ := [some (.frz (ns.map .int)), none, none, none, none]) (S := []) (fun i _ ρ S hI => by
      obtain ⟨o1, o2, o3, o4, rfl⟩ := hI
      obtain ⟨o2', o3', S', e⟩ := s_turn (w := w) (k := k) hw (ns := ns) (i := i) (S := S) (o2 := o2) (o3 := o3) (o4 := o4)
      exact ⟨_, _, S', rfl, e, _, _, _, _, rfl⟩) ⟨_, _, _, _, rfl⟩
  obtain ⟨ρ', S', e, o1, o2, o3, o4, rfl⟩ := e
  have hl : m ≤ line := le_line (by omega)
  have wx : ∀ x ∈ (["x", "a", "b"] : List Str), Wd x := wd_of_all (by decide +kernel)
  have wb : ∀ x ∈ (["b", "b", "b"] : List Str), Wd x := wd_of_all (by decide +kernel)
  have c1 := fun S => s_make_alphabet (w := w) (k := k + 2) (S := S) wx (by decide) (by decide) (by decide +kernel)
  have c2 := fun S => s_make_alphabet (w := w) (k := k + 2) (S := S) wb (by decide) (by decide) (by decide +kernel)
  rw [srt_is (ys := ["a", "b", "x"]) (by decide +kernel) (by decide +kernel) (fun x => by rw [show (["x", "a", "b"] : List Str).eraseDups = (["x", "a", "b"] : List Str) by decide +kernel]; simp only [List.mem_cons, List.not_mem_nil, or_false]; exact ⟨fun h => by rcases h with h | h | h <;> simp [h], fun h => by rcases h with h | h | h <;> simp [h]⟩)] at c1
  rw [srt_is (ys := ["b"]) (by decide +kernel) (by decide +kernel) (fun x => by rw [show (["b", "b", "b"] : List Str).eraseDups = (["b"] : List Str) by decide +kernel])] at c2
  have q1 := fun S => eq_sv (S := S) (xs := ["a", "b", "x"]) (ys := ["a", "b", "x"]) (by decide +kernel) (by decide +kernel)
  have q2 := fun S => eq_sv (S := S) (xs := ["b"]) (ys := ["b"]) (by decide +kernel) (by decide +kernel)
  have al2 : Al ["a", "x"] := ⟨by decide +kernel, by decide +kernel, by decide, by decide, by decide +kernel⟩
  have c3 : ∀ S, callI prog w (k + 7) 9 [.tup [.str "a", .str "x"], .tup []] S = .ok (.tup [.int 0, .int 0]) S := fun S => s_counts_of (w := w) (k := k + 3) (S := S) (ws := []) al2 (fun _ h => absurd h List.not_mem_nil) (by simp)
  have q3 : ∀ S, eqD S (.tup [.int 0, .int 0]) (.tup [.int 0, .int 0]) = some true := fun _ => rfl
  have c4 : ∀ S, callI prog w (k + 7) 1 [.tup [.str "a", .str "b", .str "c", .str "d", .str "e"]] S = .ok (.bl true) S := fun S => (s_is_alphabet (w := w) (k := k + 5) (S := S) (vv_strs (xs := ["a", "b", "c", "d", "e"]) (by decide +kernel) (by decide))).trans (by rw [show alphF (sv ["a", "b", "c", "d", "e"]) = true by decide +kernel])
  have c5 : ∀ S, callI prog w (k + 7) 1 [.tup [.str "abcdefgh"]] S = .ok (.bl true) S := fun S => (s_is_alphabet (w := w) (k := k + 5) (S := S) (vv_strs (xs := ["abcdefgh"]) (by decide +kernel) (by decide))).trans (by rw [show alphF (sv ["abcdefgh"]) = true by decide +kernel])
  have c6 : ∀ S, callI prog w (k + 7) 1 [.tup [.str "abcdefghi"]] S = .ok (.bl false) S := fun S => (s_is_alphabet (w := w) (k := k + 5) (S := S) (vv_strs (xs := ["abcdefghi"]) (by decide +kernel) (by decide))).trans (by rw [show alphF (sv ["abcdefghi"]) = false by decide +kernel])
  have q4 : ∀ S, eqD S (.lst [.bl true, .bl true, .bl false]) (.lst [.bl true, .bl true, .bl false]) = some true := fun _ => rfl
  have q5 : ∀ S, eqD S (.lst [.int 5, .int 200]) (.lst [.int 5, .int 200]) = some true := fun _ => rfl
  simp only [sv, List.map_cons, List.map_nil, decide_true] at c1 c2 q1 q2
  simp only [lawB, b_law] at e
  refine ⟨S', ?_⟩
  rw [u_law]
  simp only [b_law, qOpt, qRet, bnd_ok, bnd_exc, bnd_err, flow_nx, flow_rt, flow_bk, flow_ct, flow_exc, end_nx, end_rt, end_exc, e_var, g_0, g_s, e_cst, e_bin, e_neg, e_not, e_cmp, e_chain, e_and, e_or, e_ite, e_tup, e_lst, e_lstM, e_lstS, e_dct, e_idx, e_slc, e_rev, e_isi, e_fz, e_repM, e_addM, fz_lst, fz_tup, fz_dct, m_dget, e_blt, e_call, e_mth, m_tindex, m_tcount, e_lc, l_nil, l_cons, l_star, t_nil, t_cons, o_no, o_so, i_seq, i_rng1, i_rng2, i_zip, i_enum, i_enumT, k_enumT, k_neg, k_int, k_seqT, k_seqL, k_seqF, k_starT, k_starL, k_zipT, k_zipL, k_zipM, k_zipM2, k_enum, k_rng, k_rng2, tr_bl, tr_int, tr_tup, tr_lst, s_nil, s_cons, x_expr, x_set, x_setT, x_par, x_setI, x_aug, x_cond, x_loop, x_while, x_ret, x_retN, x_pass, x_brk, x_mat, mk_nil, mk_cons, x_cont, x_run, b_lenT, b_lenL, b_lenF, b_tupT, b_tupL, b_lstT, b_lstL, b_allL, b_anyL, b_sumL, b_sumT, b_abs, b_max, b_min, b_intI, b_intB, q_ii, q_ss, mapR_some, andR_ite, orR_ite, unpK, parK, augK, setIK, setTg, setAll, wipe, blt, blt0, seqOf, lstOf, cop, bop, intOp, isiD, tyOf, atP, place, Option.map_some, Option.map_none, Option.bind_some, Option.bind_none, eq_self, reduceCtorEq, Int.reduceLE, Int.reduceLT, Int.reduceNeg, Int.reduceEq, Int.reduceToNat, Int.reduceAdd, Int.reduceSub, Nat.reduceLeDiff, reduceIte,  List.flatten_cons, List.flatten_nil, List.length_map, List.map_cons, List.map_nil, List.length_cons, List.length_nil, List.replicate_succ, List.replicate_zero, List.cons_append, List.nil_append, List.append_nil, List.set_cons_zero, List.set_cons_succ, Bool.not_true, Bool.not_false, if_true, if_false, ite_true, ite_false, Bool.false_eq_true, decide_true, decide_false, Bool.or_true, Bool.true_or, Bool.or_false, Bool.false_or, Bool.and_true, Bool.true_and, Bool.and_false, Bool.false_and, decide_eq_true_eq, Nat.reduceAdd, Nat.reduceSub, Nat.zero_add, Function.comp_apply, q5, lenF, seqOf, List.length_map, hm, k_rng hl, e, c1, q1, c2, q2, c3, q3, c4, c5, c6, q4]
end
end K01

namespace K01
open PySem L2 PyProof.Rows LnS
def topS (i : Nat) : Stmt := PySem.Challenge.pw_leastnet_k01_alphabets_and_words.main.body.getD i (.Pass ⟨0, 0, 0, 0⟩)
abbrev st0 : Stmt := topS 9
abbrev N0 : List Str := ["value", "letter"]
theorem nd0 : FnScope N0 ["value"] (defScope st0) := ⟨rfl, rfl, rfl, by decide +kernel, rfl, by decide +kernel, by decide +kernel⟩
abbrev st1 : Stmt := topS 10
abbrev N1 : List Str := ["value", "action", "one", "other"]
theorem nd1 : FnScope N1 ["value"] (defScope st1) := ⟨rfl, rfl, rfl, by decide +kernel, rfl, by decide +kernel, by decide +kernel⟩
abbrev st2 : Stmt := topS 11
abbrev N2 : List Str := ["alphabet", "value", "action"]
theorem nd2 : FnScope N2 ["alphabet", "value"] (defScope st2) := ⟨rfl, rfl, rfl, by decide +kernel, rfl, by decide +kernel, by decide +kernel⟩
abbrev st3 : Stmt := topS 12
abbrev N3 : List Str := ["alphabet", "word", "action"]
theorem nd3 : FnScope N3 ["alphabet", "word"] (defScope st3) := ⟨rfl, rfl, rfl, by decide +kernel, rfl, by decide +kernel, by decide +kernel⟩
abbrev st4 : Stmt := topS 13
abbrev N4 : List Str := ["value"]
theorem nd4 : FnScope N4 ["value"] (defScope st4) := ⟨rfl, rfl, rfl, by decide +kernel, rfl, by decide +kernel, by decide +kernel⟩
abbrev st5 : Stmt := topS 14
abbrev N5 : List Str := ["alphabet", "word"]
theorem nd5 : FnScope N5 ["alphabet", "word"] (defScope st5) := ⟨rfl, rfl, rfl, by decide +kernel, rfl, by decide +kernel, by decide +kernel⟩
abbrev st6 : Stmt := topS 15
abbrev N6 : List Str := ["actions"]
theorem nd6 : FnScope N6 ["actions"] (defScope st6) := ⟨rfl, rfl, rfl, by decide +kernel, rfl, by decide +kernel, by decide +kernel⟩
abbrev st7 : Stmt := topS 16
abbrev N7 : List Str := ["actions", "found", "action"]
theorem nd7 : FnScope N7 ["actions"] (defScope st7) := ⟨rfl, rfl, rfl, by decide +kernel, rfl, by decide +kernel, by decide +kernel⟩
abbrev st8 : Stmt := topS 17
abbrev N8 : List Str := ["alphabet", "value"]
theorem nd8 : FnScope N8 ["alphabet", "value"] (defScope st8) := ⟨rfl, rfl, rfl, by decide +kernel, rfl, by decide +kernel, by decide +kernel⟩
abbrev st9 : Stmt := topS 18
abbrev N9 : List Str := ["alphabet", "word"]
theorem nd9 : FnScope N9 ["alphabet", "word"] (defScope st9) := ⟨rfl, rfl, rfl, by decide +kernel, rfl, by decide +kernel, by decide +kernel⟩
abbrev st10 : Stmt := topS 20
abbrev N10 : List Str := ["script", "at", "cell", "great", "mixed"]
theorem nd10 : FnScope N10 ["script", "at"] (defScope st10) := ⟨rfl, rfl, rfl, by decide +kernel, rfl, by decide +kernel, by decide +kernel⟩
abbrev st11 : Stmt := topS 21
abbrev N11 : List Str := ["stream", "total", "found", "one", "two"]
theorem nd11 : FnScope N11 ["stream", "total"] (defScope st11) := ⟨rfl, rfl, rfl, by decide +kernel, rfl, by decide +kernel, by decide +kernel⟩
abbrev st12 : Stmt := topS 22
abbrev N12 : List Str := ["stream", "items"]
theorem nd12 : FnScope N12 ["stream", "items"] (defScope st12) := ⟨rfl, rfl, rfl, by decide +kernel, rfl, by decide +kernel, by decide +kernel⟩
abbrev st13 : Stmt := topS 23
abbrev N13 : List Str := ["stream", "items", "left", "found"]
theorem nd13 : FnScope N13 ["stream", "items"] (defScope st13) := ⟨rfl, rfl, rfl, by decide +kernel, rfl, by decide +kernel, by decide +kernel⟩
abbrev st14 : Stmt := topS 24
abbrev N14 : List Str := ["stream", "alphabet", "high", "turn"]
theorem nd14 : FnScope N14 ["stream", "alphabet", "high"] (defScope st14) := ⟨rfl, rfl, rfl, by decide +kernel, rfl, by decide +kernel, by decide +kernel⟩
abbrev st15 : Stmt := topS 25
abbrev N15 : List Str := ["alphabet", "value", "action"]
theorem nd15 : FnScope N15 ["alphabet", "value"] (defScope st15) := ⟨rfl, rfl, rfl, by decide +kernel, rfl, by decide +kernel, by decide +kernel⟩
abbrev st16 : Stmt := topS 26
abbrev N16 : List Str := ["stream", "some"]
theorem nd16 : FnScope N16 ["stream"] (defScope st16) := ⟨rfl, rfl, rfl, by decide +kernel, rfl, by decide +kernel, by decide +kernel⟩
abbrev st17 : Stmt := topS 27
abbrev N17 : List Str := ["stream", "value", "deep", "at", "some"]
theorem nd17 : FnScope N17 ["stream", "value", "deep"] (defScope st17) := ⟨rfl, rfl, rfl, by decide +kernel, rfl, by decide +kernel, by decide +kernel⟩
abbrev st18 : Stmt := topS 28
abbrev N18 : List Str := ["value", "sign"]
theorem nd18 : FnScope N18 ["value"] (defScope st18) := ⟨rfl, rfl, rfl, by decide +kernel, rfl, by decide +kernel, by decide +kernel⟩
abbrev st19 : Stmt := topS 29
abbrev N19 : List Str := ["value", "one"]
theorem nd19 : FnScope N19 ["value"] (defScope st19) := ⟨rfl, rfl, rfl, by decide +kernel, rfl, by decide +kernel, by decide +kernel⟩
abbrev st20 : Stmt := topS 30
abbrev N20 : List Str := ["stream", "signs", "found", "turn", "word", "sign"]
theorem nd20 : FnScope N20 ["stream"] (defScope st20) := ⟨rfl, rfl, rfl, by decide +kernel, rfl, by decide +kernel, by decide +kernel⟩
abbrev st21 : Stmt := topS 31
abbrev N21 : List Str := ["stream", "actions", "due", "more", "one", "last", "values", "turn", "value"]
theorem nd21 : FnScope N21 ["stream", "actions"] (defScope st21) := ⟨rfl, rfl, rfl, by decide +kernel, rfl, by decide +kernel, by decide +kernel⟩
abbrev st22 : Stmt := topS 32
abbrev N22 : List Str := ["stream", "alphabet", "word", "long", "one", "kept", "found", "values", "turn", "name", "action", "value"]
theorem nd22 : FnScope N22 ["stream", "alphabet"] (defScope st22) := ⟨rfl, rfl, rfl, by decide +kernel, rfl, by decide +kernel, by decide +kernel⟩
abbrev st23 : Stmt := topS 33
abbrev N23 : List Str := ["script", "at", "stream", "actions", "told"]
theorem nd23 : FnScope N23 ["script"] (defScope st23) := ⟨rfl, rfl, rfl, by decide +kernel, rfl, by decide +kernel, by decide +kernel⟩
def zsc0 : Scope := ({ kind := PySem.ScopeKind.function , names := [ ( PySem.Str.ofString ".0" , PySem.NameKind.local ) , ( PySem.Str.ofString "letter" , PySem.NameKind.local ) , ( PySem.Str.ofString "LETTERS" , PySem.NameKind.globalImplicit ) ] , isGenerator := false , isCoroutine := false , more := [ ] : PySem.Scope })
theorem zok0 : blkC N0 (defScope st0) zsc0 [("letter", 1)] = true := by decide +kernel
def zsc1 : Scope := ({ kind := PySem.ScopeKind.function , names := [ ( PySem.Str.ofString ".0" , PySem.NameKind.local ) , ( PySem.Str.ofString "one" , PySem.NameKind.local ) , ( PySem.Str.ofString "other" , PySem.NameKind.local ) ] , isGenerator := false , isCoroutine := false , more := [ ] : PySem.Scope })
theorem zok1 : blkC N1 (defScope st1) zsc1 [("one", 2), ("other", 3)] = true := by decide +kernel
def zsc2 : Scope := ({ kind := PySem.ScopeKind.function , names := [ ( PySem.Str.ofString ".0" , PySem.NameKind.local ) , ( PySem.Str.ofString "action" , PySem.NameKind.local ) , ( PySem.Str.ofString "is_action" , PySem.NameKind.globalImplicit ) ] , isGenerator := false , isCoroutine := false , more := [ ] : PySem.Scope })
theorem zok2 : blkC N1 (defScope st1) zsc2 [("action", 1)] = true := by decide +kernel
def zsc3 : Scope := ({ kind := PySem.ScopeKind.function , names := [ ( PySem.Str.ofString ".0" , PySem.NameKind.local ) , ( PySem.Str.ofString "action" , PySem.NameKind.local ) , ( PySem.Str.ofString "isinstance" , PySem.NameKind.globalImplicit ) , ( PySem.Str.ofString "str" , PySem.NameKind.globalImplicit ) , ( PySem.Str.ofString "alphabet" , PySem.NameKind.free ) ] , isGenerator := false , isCoroutine := false , more := [ ] : PySem.Scope })
theorem zok3 : blkC N2 (defScope st2) zsc3 [("action", 2)] = true := by decide +kernel
def zsc4 : Scope := ({ kind := PySem.ScopeKind.function , names := [ ( PySem.Str.ofString ".0" , PySem.NameKind.local ) , ( PySem.Str.ofString "action" , PySem.NameKind.local ) , ( PySem.Str.ofString "word" , PySem.NameKind.free ) ] , isGenerator := false , isCoroutine := false , more := [ ] : PySem.Scope })
theorem zok4 : blkC N3 (defScope st3) zsc4 [("action", 2)] = true := by decide +kernel
def zsc5 : Scope := ({ kind := PySem.ScopeKind.function , names := [ ( PySem.Str.ofString ".0" , PySem.NameKind.local ) , ( PySem.Str.ofString "action" , PySem.NameKind.local ) ] , isGenerator := false , isCoroutine := false , more := [ ] : PySem.Scope })
theorem zok5 : blkC N7 (defScope st7) zsc5 [("action", 2)] = true := by decide +kernel
def zsc6 : Scope := ({ kind := PySem.ScopeKind.function , names := [ ( PySem.Str.ofString ".0" , PySem.NameKind.local ) , ( PySem.Str.ofString "action" , PySem.NameKind.local ) , ( PySem.Str.ofString "is_action" , PySem.NameKind.globalImplicit ) ] , isGenerator := false , isCoroutine := false , more := [ ] : PySem.Scope })
theorem zok6 : blkC N7 (defScope st7) zsc6 [("action", 2)] = true := by decide +kernel
def zsc7 : Scope := ({ kind := PySem.ScopeKind.function , names := [ ( PySem.Str.ofString ".0" , PySem.NameKind.local ) , ( PySem.Str.ofString "turn" , PySem.NameKind.local ) , ( PySem.Str.ofString "_law_pick" , PySem.NameKind.globalImplicit ) , ( PySem.Str.ofString "alphabet" , PySem.NameKind.free ) , ( PySem.Str.ofString "stream" , PySem.NameKind.free ) ] , isGenerator := false , isCoroutine := false , more := [ ] : PySem.Scope })
theorem zok7 : blkC N14 (defScope st14) zsc7 [("turn", 3)] = true := by decide +kernel
def zsc8 : Scope := ({ kind := PySem.ScopeKind.function , names := [ ( PySem.Str.ofString ".0" , PySem.NameKind.local ) , ( PySem.Str.ofString "action" , PySem.NameKind.local ) , ( PySem.Str.ofString "isinstance" , PySem.NameKind.globalImplicit ) , ( PySem.Str.ofString "str" , PySem.NameKind.globalImplicit ) , ( PySem.Str.ofString "alphabet" , PySem.NameKind.free ) ] , isGenerator := false , isCoroutine := false , more := [ ] : PySem.Scope })
theorem zok8 : blkC N15 (defScope st15) zsc8 [("action", 2)] = true := by decide +kernel
def zsc9 : Scope := ({ kind := PySem.ScopeKind.function , names := [ ( PySem.Str.ofString ".0" , PySem.NameKind.local ) , ( PySem.Str.ofString "sign" , PySem.NameKind.local ) ] , isGenerator := false , isCoroutine := false , more := [ ] : PySem.Scope })
theorem zok9 : blkC N18 (defScope st18) zsc9 [("sign", 1)] = true := by decide +kernel
def zsc10 : Scope := ({ kind := PySem.ScopeKind.function , names := [ ( PySem.Str.ofString ".0" , PySem.NameKind.local ) , ( PySem.Str.ofString "one" , PySem.NameKind.local ) , ( PySem.Str.ofString "_law_is_action" , PySem.NameKind.globalImplicit ) ] , isGenerator := false , isCoroutine := false , more := [ ] : PySem.Scope })
theorem zok10 : blkC N19 (defScope st19) zsc10 [("one", 1)] = true := by decide +kernel
def zsc11 : Scope := ({ kind := PySem.ScopeKind.function , names := [ ( PySem.Str.ofString ".0" , PySem.NameKind.local ) , ( PySem.Str.ofString "sign" , PySem.NameKind.local ) , ( PySem.Str.ofString "_law_draw" , PySem.NameKind.globalImplicit ) , ( PySem.Str.ofString "signs" , PySem.NameKind.free ) , ( PySem.Str.ofString "stream" , PySem.NameKind.free ) ] , isGenerator := false , isCoroutine := false , more := [ ] : PySem.Scope })
theorem zok11 : blkC N20 (defScope st20) zsc11 [("sign", 5)] = true := by decide +kernel
def zsc12 : Scope := ({ kind := PySem.ScopeKind.function , names := [ ( PySem.Str.ofString ".0" , PySem.NameKind.local ) , ( PySem.Str.ofString "value" , PySem.NameKind.local ) , ( PySem.Str.ofString "repr" , PySem.NameKind.globalImplicit ) , ( PySem.Str.ofString "is_alphabet" , PySem.NameKind.globalImplicit ) , ( PySem.Str.ofString "_law_is_alphabet" , PySem.NameKind.globalImplicit ) ] , isGenerator := false , isCoroutine := false , more := [ ] : PySem.Scope })
theorem zok12 : blkC N21 (defScope st21) zsc12 [("value", 8)] = true := by decide +kernel
def zsc13 : Scope := ({ kind := PySem.ScopeKind.function , names := [ ( PySem.Str.ofString ".0" , PySem.NameKind.local ) , ( PySem.Str.ofString "value" , PySem.NameKind.local ) , ( PySem.Str.ofString "repr" , PySem.NameKind.globalImplicit ) , ( PySem.Str.ofString "is_word" , PySem.NameKind.globalImplicit ) , ( PySem.Str.ofString "_law_is_word" , PySem.NameKind.globalImplicit ) , ( PySem.Str.ofString "alphabet" , PySem.NameKind.free ) ] , isGenerator := false , isCoroutine := false , more := [ ] : PySem.Scope })
theorem zok13 : blkC N22 (defScope st22) zsc13 [("value", 11)] = true := by decide +kernel
def zsc14 : Scope := ({ kind := PySem.ScopeKind.function , names := [ ( PySem.Str.ofString ".0" , PySem.NameKind.local ) , ( PySem.Str.ofString "name" , PySem.NameKind.cell ) , ( PySem.Str.ofString "len" , PySem.NameKind.globalImplicit ) , ( PySem.Str.ofString "one" , PySem.NameKind.free ) ] , isGenerator := false , isCoroutine := false , more := [ ] : PySem.Scope })
theorem zok14 : blkC N22 (defScope st22) zsc14 [("name", 9)] = true := by decide +kernel
def zsc15 : Scope := ({ kind := PySem.ScopeKind.function , names := [ ( PySem.Str.ofString ".0" , PySem.NameKind.local ) , ( PySem.Str.ofString "action" , PySem.NameKind.local ) , ( PySem.Str.ofString "name" , PySem.NameKind.free ) ] , isGenerator := false , isCoroutine := false , more := [ ] : PySem.Scope })
theorem zok15 : blkC N22 (relS zsc14 (defScope st22)) zsc15 [("action", 10)] = true := by decide +kernel
abbrev sc_NetError : Stmt := iniS (topS 1)
abbrev sc_InvalidAlphabet : Stmt := iniS (topS 2)
abbrev sc_InvalidWord : Stmt := iniS (topS 3)
abbrev cs_ (x_NetError x_InvalidAlphabet x_InvalidWord : Addr) : List Cls := [(x_NetError, none), (x_InvalidAlphabet, none), (x_InvalidWord, none)]
structure Fx [Tbs] (P : Program) (w : World) (K : Frag) (mg : Str → Option Value) (base : Heap) (a0 a1 a2 a3 a4 a5 a6 a7 a8 a9 a10 a11 a12 a13 a14 a15 a16 a17 a18 a19 a20 a21 a22 a23 x_NetError x_InvalidAlphabet x_InvalidWord : Addr) : Prop where
  g_is_action : mg "is_action" = some (.ref a0)
  k_is_action : PySem.W.keepIn K (.ref a0) = true
  f_is_action : ∃ fd, Fun K "is_action" "is_action" st0 a0 fd
  g_is_alphabet : mg "is_alphabet" = some (.ref a1)
  k_is_alphabet : PySem.W.keepIn K (.ref a1) = true
  f_is_alphabet : ∃ fd, Fun K "is_alphabet" "is_alphabet" st1 a1 fd
  g_is_word_of : mg "is_word_of" = some (.ref a2)
  k_is_word_of : PySem.W.keepIn K (.ref a2) = true
  f_is_word_of : ∃ fd, Fun K "is_word_of" "is_word_of" st2 a2 fd
  g_counts_in : mg "counts_in" = some (.ref a3)
  k_counts_in : PySem.W.keepIn K (.ref a3) = true
  f_counts_in : ∃ fd, Fun K "counts_in" "counts_in" st3 a3 fd
  g_require_alphabet : mg "require_alphabet" = some (.ref a4)
  k_require_alphabet : PySem.W.keepIn K (.ref a4) = true
  f_require_alphabet : ∃ fd, Fun K "require_alphabet" "require_alphabet" st4 a4 fd
  g_require_word : mg "require_word" = some (.ref a5)
  k_require_word : PySem.W.keepIn K (.ref a5) = true
  f_require_word : ∃ fd, Fun K "require_word" "require_word" st5 a5 fd
  g_make_alphabet : mg "make_alphabet" = some (.ref a6)
  k_make_alphabet : PySem.W.keepIn K (.ref a6) = true
  f_make_alphabet : ∃ fd, Fun K "make_alphabet" "make_alphabet" st6 a6 fd
  g_alphabet_from : mg "alphabet_from" = some (.ref a7)
  k_alphabet_from : PySem.W.keepIn K (.ref a7) = true
  f_alphabet_from : ∃ fd, Fun K "alphabet_from" "alphabet_from" st7 a7 fd
  g_is_word : mg "is_word" = some (.ref a8)
  k_is_word : PySem.W.keepIn K (.ref a8) = true
  f_is_word : ∃ fd, Fun K "is_word" "is_word" st8 a8 fd
  g_counts_of : mg "counts_of" = some (.ref a9)
  k_counts_of : PySem.W.keepIn K (.ref a9) = true
  f_counts_of : ∃ fd, Fun K "counts_of" "counts_of" st9 a9 fd
  g__law_stream : mg "_law_stream" = some (.ref a10)
  k__law_stream : PySem.W.keepIn K (.ref a10) = true
  f__law_stream : ∃ fd, Fun K "_law_stream" "_law_stream" st10 a10 fd
  g__law_draw : mg "_law_draw" = some (.ref a11)
  k__law_draw : PySem.W.keepIn K (.ref a11) = true
  f__law_draw : ∃ fd, Fun K "_law_draw" "_law_draw" st11 a11 fd
  g__law_pick : mg "_law_pick" = some (.ref a12)
  k__law_pick : PySem.W.keepIn K (.ref a12) = true
  f__law_pick : ∃ fd, Fun K "_law_pick" "_law_pick" st12 a12 fd
  g__law_mixed : mg "_law_mixed" = some (.ref a13)
  k__law_mixed : PySem.W.keepIn K (.ref a13) = true
  f__law_mixed : ∃ fd, Fun K "_law_mixed" "_law_mixed" st13 a13 fd
  g__law_word : mg "_law_word" = some (.ref a14)
  k__law_word : PySem.W.keepIn K (.ref a14) = true
  f__law_word : ∃ fd, Fun K "_law_word" "_law_word" st14 a14 fd
  g__law_is_word : mg "_law_is_word" = some (.ref a15)
  k__law_is_word : PySem.W.keepIn K (.ref a15) = true
  f__law_is_word : ∃ fd, Fun K "_law_is_word" "_law_is_word" st15 a15 fd
  g__law_odd : mg "_law_odd" = some (.ref a16)
  k__law_odd : PySem.W.keepIn K (.ref a16) = true
  f__law_odd : ∃ fd, Fun K "_law_odd" "_law_odd" st16 a16 fd
  g__law_bent : mg "_law_bent" = some (.ref a17)
  k__law_bent : PySem.W.keepIn K (.ref a17) = true
  f__law_bent : ∃ fd, Fun K "_law_bent" "_law_bent" st17 a17 fd
  g__law_is_action : mg "_law_is_action" = some (.ref a18)
  k__law_is_action : PySem.W.keepIn K (.ref a18) = true
  f__law_is_action : ∃ fd, Fun K "_law_is_action" "_law_is_action" st18 a18 fd
  g__law_is_alphabet : mg "_law_is_alphabet" = some (.ref a19)
  k__law_is_alphabet : PySem.W.keepIn K (.ref a19) = true
  f__law_is_alphabet : ∃ fd, Fun K "_law_is_alphabet" "_law_is_alphabet" st19 a19 fd
  g__law_actions : mg "_law_actions" = some (.ref a20)
  k__law_actions : PySem.W.keepIn K (.ref a20) = true
  f__law_actions : ∃ fd, Fun K "_law_actions" "_law_actions" st20 a20 fd
  g__law_alphabet_right : mg "_law_alphabet_right" = some (.ref a21)
  k__law_alphabet_right : PySem.W.keepIn K (.ref a21) = true
  f__law_alphabet_right : ∃ fd, Fun K "_law_alphabet_right" "_law_alphabet_right" st21 a21 fd
  g__law_words_right : mg "_law_words_right" = some (.ref a22)
  k__law_words_right : PySem.W.keepIn K (.ref a22) = true
  f__law_words_right : ∃ fd, Fun K "_law_words_right" "_law_words_right" st22 a22 fd
  g_law : mg "law" = some (.ref a23)
  k_law : PySem.W.keepIn K (.ref a23) = true
  f_law : ∃ fd, Fun K "law" "law" st23 a23 fd
  z_abs : mg "abs" = none
  z_all : mg "all" = none
  z_bool : mg "bool" = none
  z_int : mg "int" = none
  z_isinstance : mg "isinstance" = none
  z_len : mg "len" = none
  z_list : mg "list" = none
  z_max : mg "max" = none
  z_min : mg "min" = none
  z_range : mg "range" = none
  z_repr : mg "repr" = none
  z_set : mg "set" = none
  z_sorted : mg "sorted" = none
  z_str : mg "str" = none
  z_sum : mg "sum" = none
  z_tuple : mg "tuple" = none
  z_zip : mg "zip" = none
  c_LETTERS : ∃ t, mg "LETTERS" = some (.str "abcdefghijklmnopqrstuvwxyz" t)
  c_MAX_ACTIONS : ∃ t, mg "MAX_ACTIONS" = some (.int 5 t)
  c_MAX_LETTERS : ∃ t, mg "MAX_LETTERS" = some (.int 8 t)
  c_MAX_WORD : ∃ t, mg "MAX_WORD" = some (.int 200 t)
  gc_NetError : mg "NetError" = some (.ref x_NetError)
  kc_NetError : PySem.W.keepIn K (.ref x_NetError) = true
  xs_NetError : PySem.W.subIn K (.ref x_NetError) (.type "BaseException") = some true
  xt_NetError : PySem.W.typeIn K (.ref x_NetError) = some (.type "type")
  q_NetError : PySem.W.excIn K x_NetError [.type "ValueError", .type "Exception", .type "BaseException", .type "object"] "ValueError.__new__" = true
  ec_NetError : ExcC K x_NetError
  gc_InvalidAlphabet : mg "InvalidAlphabet" = some (.ref x_InvalidAlphabet)
  kc_InvalidAlphabet : PySem.W.keepIn K (.ref x_InvalidAlphabet) = true
  xs_InvalidAlphabet : PySem.W.subIn K (.ref x_InvalidAlphabet) (.type "BaseException") = some true
  xt_InvalidAlphabet : PySem.W.typeIn K (.ref x_InvalidAlphabet) = some (.type "type")
  q_InvalidAlphabet : PySem.W.excIn K x_InvalidAlphabet [.type "ValueError", .type "Exception", .type "BaseException", .type "object"] "ValueError.__new__" = true
  ec_InvalidAlphabet : ExcC K x_InvalidAlphabet
  gc_InvalidWord : mg "InvalidWord" = some (.ref x_InvalidWord)
  kc_InvalidWord : PySem.W.keepIn K (.ref x_InvalidWord) = true
  xs_InvalidWord : PySem.W.subIn K (.ref x_InvalidWord) (.type "BaseException") = some true
  xt_InvalidWord : PySem.W.typeIn K (.ref x_InvalidWord) = some (.type "type")
  q_InvalidWord : PySem.W.excIn K x_InvalidWord [.type "ValueError", .type "Exception", .type "BaseException", .type "object"] "ValueError.__new__" = true
  ec_InvalidWord : ExcC K x_InvalidWord
set_option maxHeartbeats 8000000
section
variable [Tbs] {P : Program} {w : World} {K : Frag} {mg : Str → Option Value} {base : Heap} {a0 a1 a2 a3 a4 a5 a6 a7 a8 a9 a10 a11 a12 a13 a14 a15 a16 a17 a18 a19 a20 a21 a22 a23 x_NetError x_InvalidAlphabet x_InvalidWord : Addr} {wf k : Nat}
theorem B0 (FX : Fx P w K mg base a0 a1 a2 a3 a4 a5 a6 a7 a8 a9 a10 a11 a12 a13 a14 a15 a16 a17 a18 a19 a20 a21 a22 a23 x_NetError x_InvalidAlphabet x_InvalidWord) (L : Lev P w K (cs_ x_NetError x_InvalidAlphabet x_InvalidWord) mg base [a0, a1, a2, a3, a4, a5, a6, a7, a8, a9, a10, a11, a12, a13, a14, a15, a16, a17, a18, a19, a20, a21, a22, a23] prog wf k) : BodyJ P w K (cs_ x_NetError x_InvalidAlphabet x_InvalidWord) mg base k a0 "is_action" N0 st0 (Ln.execs (Ln.callI prog wf k) wf b_is_action) := by
  intro cdv A outer s H E hG hr2 hck
  have hr := hr2.mono (show 3 * k ≤ 3 * k + 2 by omega)
  have hu : (A.deeper (envOfC "is_action" (defScope st0) s.heap.objs.size a0 cdv)).units + 65 < cLine := by have := hr.un; omega
  have hu1 : (A.deeper (envOfC "is_action" (defScope st0) s.heap.objs.size a0 cdv)).units + 64 < cLine := by omega
  obtain ⟨t_LETTERS, h_LETTERS⟩ := FX.c_LETTERS
  obtain ⟨t_MAX_ACTIONS, h_MAX_ACTIONS⟩ := FX.c_MAX_ACTIONS
  obtain ⟨t_MAX_LETTERS, h_MAX_LETTERS⟩ := FX.c_MAX_LETTERS
  obtain ⟨t_MAX_WORD, h_MAX_WORD⟩ := FX.c_MAX_WORD
  exact (jss_cons (js_if (jt_w (jw_or (jt_not (jt_truth (je_isi .str (by rfl) FX.z_isinstance bt_str (by rfl) FX.z_str (je_var (pv 0))) fun _ => rfl)) (jw_or1 (jt_not (jt_chain .le .le hu je_int (je_bltB .len (fun _ _ => rfl) cb_len (by rfl) FX.z_len bt_len (ja_cons (je_var (pv 0)) ja_nil)) (je_cst (pe_glob (v := .int 8) (by rfl) h_MAX_LETTERS ⟨_, rfl⟩) fun _ _ => .int _) (by with_unfolding_all rfl))))))
      (jss_cons (js_ret je_bl)
      jss_nil) jss_nil)
      (jss_cons (js_ret (je_bltB .all (fun _ _ => rfl) (cb_all rfl) (by rfl) FX.z_all bt_all (ja_cons (je_lc (own := [("letter", 1)]) rfl nd0.nd (ji_seq (je_var (pv 0))) (blkOk_by zok0) (by decide) (fun _ _ _ _ _ => (jg_nm (pg_name (i := 1) nd0.nd rfl (by first | exact .inl rfl | exact .inr rfl)))) (fun _ _ _ _ _ => jts_nil) (fun _ _ _ _ _ => (je_cmp .isIn hu (je_var (pv 1)) (je_cst (pe_glob (v := .str "abcdefghijklmnopqrstuvwxyz") (by rfl) h_LETTERS ⟨_, rfl⟩) fun _ _ => .str _) (by rfl))) (fun _ => rfl)) ja_nil)))
      jss_nil))
theorem B1 (FX : Fx P w K mg base a0 a1 a2 a3 a4 a5 a6 a7 a8 a9 a10 a11 a12 a13 a14 a15 a16 a17 a18 a19 a20 a21 a22 a23 x_NetError x_InvalidAlphabet x_InvalidWord) (L : Lev P w K (cs_ x_NetError x_InvalidAlphabet x_InvalidWord) mg base [a0, a1, a2, a3, a4, a5, a6, a7, a8, a9, a10, a11, a12, a13, a14, a15, a16, a17, a18, a19, a20, a21, a22, a23] prog wf k) : BodyJ P w K (cs_ x_NetError x_InvalidAlphabet x_InvalidWord) mg base k a1 "is_alphabet" N1 st1 (Ln.execs (Ln.callI prog wf k) wf b_is_alphabet) := by
  intro cdv A outer s H E hG hr2 hck
  have hr := hr2.mono (show 3 * k ≤ 3 * k + 2 by omega)
  have hu : (A.deeper (envOfC "is_alphabet" (defScope st1) s.heap.objs.size a1 cdv)).units + 65 < cLine := by have := hr.un; omega
  have hu1 : (A.deeper (envOfC "is_alphabet" (defScope st1) s.heap.objs.size a1 cdv)).units + 64 < cLine := by omega
  obtain ⟨t_LETTERS, h_LETTERS⟩ := FX.c_LETTERS
  obtain ⟨t_MAX_ACTIONS, h_MAX_ACTIONS⟩ := FX.c_MAX_ACTIONS
  obtain ⟨t_MAX_LETTERS, h_MAX_LETTERS⟩ := FX.c_MAX_LETTERS
  obtain ⟨t_MAX_WORD, h_MAX_WORD⟩ := FX.c_MAX_WORD
  exact (jss_cons (js_if (jt_w (jw_or (jt_not (jt_truth (je_isi .tuple (by rfl) FX.z_isinstance bt_tuple (by rfl) FX.z_tuple (je_var (pv 0))) fun _ => rfl)) (jw_or1 (jt_not (jt_chain .le .le hu je_int (je_bltB .len (fun _ _ => rfl) cb_len (by rfl) FX.z_len bt_len (ja_cons (je_var (pv 0)) ja_nil)) (je_cst (pe_glob (v := .int 5) (by rfl) h_MAX_ACTIONS ⟨_, rfl⟩) fun _ _ => .int _) (by with_unfolding_all rfl))))))
      (jss_cons (js_ret je_bl)
      jss_nil) jss_nil)
      (jss_cons (js_if (jt_not (jt_truth (je_bltB .all (fun _ _ => rfl) (cb_all rfl) (by rfl) FX.z_all bt_all (ja_cons (je_lc (own := [("action", 1)]) rfl nd1.nd (ji_seq (je_var (pv 0))) (blkOk_by zok2) (by decide) (fun _ _ _ _ _ => (jg_nm (pg_name (i := 1) nd1.nd rfl (by first | exact .inl rfl | exact .inr rfl)))) (fun _ _ _ _ _ => jts_nil) (fun _ _ _ _ _ => (je_call lnk0 0 (L.ok 0 _ rfl) hr hG (by rfl) FX.g_is_action FX.k_is_action (ja_cons (je_var (pv 1)) ja_nil))) (fun _ => rfl)) ja_nil)) fun _ => rfl))
      (jss_cons (js_ret je_bl)
      jss_nil) jss_nil)
      (jss_cons (js_ret (je_bltB .all (fun _ _ => rfl) (cb_all rfl) (by rfl) FX.z_all bt_all (ja_cons (je_lc (own := [("one", 2), ("other", 3)]) rfl nd1.nd (ji_zip (by rfl) FX.z_zip (je_var (pv 0)) (je_slc (je_var (pv 0)) (jo_so je_int) jo_no)) (blkOk_by zok1) (by decide) (fun _ _ _ _ _ => (jg_tp (pg_tup rfl (jgs_cons (pg_name (i := 2) nd1.nd rfl (by first | exact .inl rfl | exact .inr rfl)) (jgs_cons (pg_name (i := 3) nd1.nd rfl (by first | exact .inl rfl | exact .inr rfl)) jgs_nil))))) (fun _ _ _ _ _ => jts_nil) (fun _ _ _ _ _ => (je_cmp .lt hu (je_var (pv 2)) (je_var (pv 3)) (nomark _))) (fun _ => rfl)) ja_nil)))
      jss_nil)))
theorem B2 (FX : Fx P w K mg base a0 a1 a2 a3 a4 a5 a6 a7 a8 a9 a10 a11 a12 a13 a14 a15 a16 a17 a18 a19 a20 a21 a22 a23 x_NetError x_InvalidAlphabet x_InvalidWord) (L : Lev P w K (cs_ x_NetError x_InvalidAlphabet x_InvalidWord) mg base [a0, a1, a2, a3, a4, a5, a6, a7, a8, a9, a10, a11, a12, a13, a14, a15, a16, a17, a18, a19, a20, a21, a22, a23] prog wf k) : BodyJ P w K (cs_ x_NetError x_InvalidAlphabet x_InvalidWord) mg base k a2 "is_word_of" N2 st2 (Ln.execs (Ln.callI prog wf k) wf b_is_word_of) := by
  intro cdv A outer s H E hG hr2 hck
  have hr := hr2.mono (show 3 * k ≤ 3 * k + 2 by omega)
  have hu : (A.deeper (envOfC "is_word_of" (defScope st2) s.heap.objs.size a2 cdv)).units + 65 < cLine := by have := hr.un; omega
  have hu1 : (A.deeper (envOfC "is_word_of" (defScope st2) s.heap.objs.size a2 cdv)).units + 64 < cLine := by omega
  obtain ⟨t_LETTERS, h_LETTERS⟩ := FX.c_LETTERS
  obtain ⟨t_MAX_ACTIONS, h_MAX_ACTIONS⟩ := FX.c_MAX_ACTIONS
  obtain ⟨t_MAX_LETTERS, h_MAX_LETTERS⟩ := FX.c_MAX_LETTERS
  obtain ⟨t_MAX_WORD, h_MAX_WORD⟩ := FX.c_MAX_WORD
  exact (jss_cons (js_ret (je_and (je_isi .tuple (by rfl) FX.z_isinstance bt_tuple (by rfl) FX.z_tuple (je_var (pv 1))) (je_one (je_bltB .all (fun _ _ => rfl) (cb_all rfl) (by rfl) FX.z_all bt_all (ja_cons (je_lc (own := [("action", 2)]) rfl nd2.nd (ji_seq (je_var (pv 1))) (blkOk_by zok3) (by decide) (fun _ _ _ _ _ => (jg_nm (pg_name (i := 2) nd2.nd rfl (by first | exact .inl rfl | exact .inr rfl)))) (fun _ _ _ _ _ => jts_nil) (fun _ _ _ _ _ => (je_and (je_isi .str (by rfl) FX.z_isinstance bt_str (by rfl) FX.z_str (je_var (pv 2))) (je_one (je_cmp .isIn hu (je_var (pv 2)) (je_var (pv 0)) (by rfl))))) (fun _ => rfl)) ja_nil)))))
      jss_nil)
theorem B3 (FX : Fx P w K mg base a0 a1 a2 a3 a4 a5 a6 a7 a8 a9 a10 a11 a12 a13 a14 a15 a16 a17 a18 a19 a20 a21 a22 a23 x_NetError x_InvalidAlphabet x_InvalidWord) (L : Lev P w K (cs_ x_NetError x_InvalidAlphabet x_InvalidWord) mg base [a0, a1, a2, a3, a4, a5, a6, a7, a8, a9, a10, a11, a12, a13, a14, a15, a16, a17, a18, a19, a20, a21, a22, a23] prog wf k) : BodyJ P w K (cs_ x_NetError x_InvalidAlphabet x_InvalidWord) mg base k a3 "counts_in" N3 st3 (Ln.execs (Ln.callI prog wf k) wf b_counts_in) := by
  intro cdv A outer s H E hG hr2 hck
  have hr := hr2.mono (show 3 * k ≤ 3 * k + 2 by omega)
  have hu : (A.deeper (envOfC "counts_in" (defScope st3) s.heap.objs.size a3 cdv)).units + 65 < cLine := by have := hr.un; omega
  have hu1 : (A.deeper (envOfC "counts_in" (defScope st3) s.heap.objs.size a3 cdv)).units + 64 < cLine := by omega
  obtain ⟨t_LETTERS, h_LETTERS⟩ := FX.c_LETTERS
  obtain ⟨t_MAX_ACTIONS, h_MAX_ACTIONS⟩ := FX.c_MAX_ACTIONS
  obtain ⟨t_MAX_LETTERS, h_MAX_LETTERS⟩ := FX.c_MAX_LETTERS
  obtain ⟨t_MAX_WORD, h_MAX_WORD⟩ := FX.c_MAX_WORD
  exact (jss_cons (js_ret (je_bltT .tuple (fun _ _ => rfl) cb_tuple (by rfl) FX.z_tuple bt_tuple (ja_cons (je_lc (own := [("action", 2)]) rfl nd3.nd (ji_seq (je_var (pv 0))) (blkOk_by zok4) (by decide) (fun _ _ _ _ _ => (jg_nm (pg_name (i := 2) nd3.nd rfl (by first | exact .inl rfl | exact .inr rfl)))) (fun _ _ _ _ _ => jts_nil) (fun _ _ _ _ _ => (je_tcount (je_var (pv 1)) (ja_cons (je_var (pv 2)) ja_nil))) (fun _ => rfl)) ja_nil)))
      jss_nil)
theorem B4 (FX : Fx P w K mg base a0 a1 a2 a3 a4 a5 a6 a7 a8 a9 a10 a11 a12 a13 a14 a15 a16 a17 a18 a19 a20 a21 a22 a23 x_NetError x_InvalidAlphabet x_InvalidWord) (L : Lev P w K (cs_ x_NetError x_InvalidAlphabet x_InvalidWord) mg base [a0, a1, a2, a3, a4, a5, a6, a7, a8, a9, a10, a11, a12, a13, a14, a15, a16, a17, a18, a19, a20, a21, a22, a23] prog wf k) : BodyJ P w K (cs_ x_NetError x_InvalidAlphabet x_InvalidWord) mg base k a4 "require_alphabet" N4 st4 (Ln.execs (Ln.callI prog wf k) wf b_require_alphabet) := by
  intro cdv A outer s H E hG hr2 hck
  have hr := hr2.mono (show 3 * k ≤ 3 * k + 2 by omega)
  have hu : (A.deeper (envOfC "require_alphabet" (defScope st4) s.heap.objs.size a4 cdv)).units + 65 < cLine := by have := hr.un; omega
  have hu1 : (A.deeper (envOfC "require_alphabet" (defScope st4) s.heap.objs.size a4 cdv)).units + 64 < cLine := by omega
  obtain ⟨t_LETTERS, h_LETTERS⟩ := FX.c_LETTERS
  obtain ⟨t_MAX_ACTIONS, h_MAX_ACTIONS⟩ := FX.c_MAX_ACTIONS
  obtain ⟨t_MAX_LETTERS, h_MAX_LETTERS⟩ := FX.c_MAX_LETTERS
  obtain ⟨t_MAX_WORD, h_MAX_WORD⟩ := FX.c_MAX_WORD
  exact (jss_cons (js_if (jt_not (jt_truth (je_call lnk_fn 1 (L.ok 1 _ rfl) hr hG (by rfl) FX.g_is_alphabet FX.k_is_alphabet (ja_cons (je_var (pv 0)) ja_nil)) fun _ => rfl))
      (jss_cons (js_raiseT (i := 1) lnk_fn rfl rfl PySem.F.excBase_ValueError FX.q_InvalidAlphabet FX.gc_InvalidAlphabet FX.kc_InvalidAlphabet (raises_own FX.xs_InvalidAlphabet FX.xt_InvalidAlphabet) (by rfl))
      jss_nil) jss_nil)
      jss_nil)
theorem B5 (FX : Fx P w K mg base a0 a1 a2 a3 a4 a5 a6 a7 a8 a9 a10 a11 a12 a13 a14 a15 a16 a17 a18 a19 a20 a21 a22 a23 x_NetError x_InvalidAlphabet x_InvalidWord) (L : Lev P w K (cs_ x_NetError x_InvalidAlphabet x_InvalidWord) mg base [a0, a1, a2, a3, a4, a5, a6, a7, a8, a9, a10, a11, a12, a13, a14, a15, a16, a17, a18, a19, a20, a21, a22, a23] prog wf k) : BodyJ P w K (cs_ x_NetError x_InvalidAlphabet x_InvalidWord) mg base k a5 "require_word" N5 st5 (Ln.execs (Ln.callI prog wf k) wf b_require_word) := by
  intro cdv A outer s H E hG hr2 hck
  have hr := hr2.mono (show 3 * k ≤ 3 * k + 2 by omega)
  have hu : (A.deeper (envOfC "require_word" (defScope st5) s.heap.objs.size a5 cdv)).units + 65 < cLine := by have := hr.un; omega
  have hu1 : (A.deeper (envOfC "require_word" (defScope st5) s.heap.objs.size a5 cdv)).units + 64 < cLine := by omega
  obtain ⟨t_LETTERS, h_LETTERS⟩ := FX.c_LETTERS
  obtain ⟨t_MAX_ACTIONS, h_MAX_ACTIONS⟩ := FX.c_MAX_ACTIONS
  obtain ⟨t_MAX_LETTERS, h_MAX_LETTERS⟩ := FX.c_MAX_LETTERS
  obtain ⟨t_MAX_WORD, h_MAX_WORD⟩ := FX.c_MAX_WORD
  exact (jss_cons (js_if (jt_w (jw_or (jt_not (jt_truth (je_call lnk_fn 2 (L.ok 2 _ rfl) hr hG (by rfl) FX.g_is_word_of FX.k_is_word_of (ja_cons (je_var (pv 0)) (ja_cons (je_var (pv 1)) ja_nil))) fun _ => rfl)) (jw_or1 (jt_cmp .gt hu (je_bltB .len (fun _ _ => rfl) cb_len (by rfl) FX.z_len bt_len (ja_cons (je_var (pv 1)) ja_nil)) (je_cst (pe_glob (v := .int 200) (by rfl) h_MAX_WORD ⟨_, rfl⟩) fun _ _ => .int _) (nomark _)))))
      (jss_cons (js_raiseT (i := 2) lnk_fn rfl rfl PySem.F.excBase_ValueError FX.q_InvalidWord FX.gc_InvalidWord FX.kc_InvalidWord (raises_own FX.xs_InvalidWord FX.xt_InvalidWord) (by rfl))
      jss_nil) jss_nil)
      jss_nil)
theorem B6 (FX : Fx P w K mg base a0 a1 a2 a3 a4 a5 a6 a7 a8 a9 a10 a11 a12 a13 a14 a15 a16 a17 a18 a19 a20 a21 a22 a23 x_NetError x_InvalidAlphabet x_InvalidWord) (L : Lev P w K (cs_ x_NetError x_InvalidAlphabet x_InvalidWord) mg base [a0, a1, a2, a3, a4, a5, a6, a7, a8, a9, a10, a11, a12, a13, a14, a15, a16, a17, a18, a19, a20, a21, a22, a23] prog wf k) : BodyJ P w K (cs_ x_NetError x_InvalidAlphabet x_InvalidWord) mg base k a6 "make_alphabet" N6 st6 (Ln.execs (Ln.callI prog wf k) wf b_make_alphabet) := by
  intro cdv A outer s H E hG hr2 hck
  have hr := hr2.mono (show 3 * k ≤ 3 * k + 2 by omega)
  have hu : (A.deeper (envOfC "make_alphabet" (defScope st6) s.heap.objs.size a6 cdv)).units + 65 < cLine := by have := hr.un; omega
  have hu1 : (A.deeper (envOfC "make_alphabet" (defScope st6) s.heap.objs.size a6 cdv)).units + 64 < cLine := by omega
  obtain ⟨t_LETTERS, h_LETTERS⟩ := FX.c_LETTERS
  obtain ⟨t_MAX_ACTIONS, h_MAX_ACTIONS⟩ := FX.c_MAX_ACTIONS
  obtain ⟨t_MAX_LETTERS, h_MAX_LETTERS⟩ := FX.c_MAX_LETTERS
  obtain ⟨t_MAX_WORD, h_MAX_WORD⟩ := FX.c_MAX_WORD
  exact (jss_cons (js_ret (je_call lnk_fn 7 (L.ok 7 _ rfl) hr hG (by rfl) FX.g_alphabet_from FX.k_alphabet_from (ja_cons (je_var (pv 0)) ja_nil)))
      jss_nil)
theorem B7 (FX : Fx P w K mg base a0 a1 a2 a3 a4 a5 a6 a7 a8 a9 a10 a11 a12 a13 a14 a15 a16 a17 a18 a19 a20 a21 a22 a23 x_NetError x_InvalidAlphabet x_InvalidWord) (L : Lev P w K (cs_ x_NetError x_InvalidAlphabet x_InvalidWord) mg base [a0, a1, a2, a3, a4, a5, a6, a7, a8, a9, a10, a11, a12, a13, a14, a15, a16, a17, a18, a19, a20, a21, a22, a23] prog wf k) : BodyJ P w K (cs_ x_NetError x_InvalidAlphabet x_InvalidWord) mg base k a7 "alphabet_from" N7 st7 (Ln.execs (Ln.callI prog wf k) wf b_alphabet_from) := by
  intro cdv A outer s H E hG hr2 hck
  have hr := hr2.mono (show 3 * k ≤ 3 * k + 2 by omega)
  have hu : (A.deeper (envOfC "alphabet_from" (defScope st7) s.heap.objs.size a7 cdv)).units + 65 < cLine := by have := hr.un; omega
  have hu1 : (A.deeper (envOfC "alphabet_from" (defScope st7) s.heap.objs.size a7 cdv)).units + 64 < cLine := by omega
  obtain ⟨t_LETTERS, h_LETTERS⟩ := FX.c_LETTERS
  obtain ⟨t_MAX_ACTIONS, h_MAX_ACTIONS⟩ := FX.c_MAX_ACTIONS
  obtain ⟨t_MAX_LETTERS, h_MAX_LETTERS⟩ := FX.c_MAX_LETTERS
  obtain ⟨t_MAX_WORD, h_MAX_WORD⟩ := FX.c_MAX_WORD
  exact (jss_cons (js_if (jt_w (jw_or (jt_not (jt_truth (je_isi .tuple (by rfl) FX.z_isinstance bt_tuple (by rfl) FX.z_tuple (je_var (pv 0))) fun _ => rfl)) (jw_or1 (jt_not (jt_truth (je_bltB .all (fun _ _ => rfl) (cb_all rfl) (by rfl) FX.z_all bt_all (ja_cons (je_lc (own := [("action", 2)]) rfl nd7.nd (ji_seq (je_var (pv 0))) (blkOk_by zok6) (by decide) (fun _ _ _ _ _ => (jg_nm (pg_name (i := 2) nd7.nd rfl (by first | exact .inl rfl | exact .inr rfl)))) (fun _ _ _ _ _ => jts_nil) (fun _ _ _ _ _ => (je_call lnk0 0 (L.ok 0 _ rfl) hr hG (by rfl) FX.g_is_action FX.k_is_action (ja_cons (je_var (pv 2)) ja_nil))) (fun _ => rfl)) ja_nil)) fun _ => rfl)))))
      (jss_cons (js_raiseT (i := 1) lnk_fn rfl rfl PySem.F.excBase_ValueError FX.q_InvalidAlphabet FX.gc_InvalidAlphabet FX.kc_InvalidAlphabet (raises_own FX.xs_InvalidAlphabet FX.xt_InvalidAlphabet) (by rfl))
      jss_nil) jss_nil)
      (jss_cons (js_set (i := 1) nd7.nd rfl (by first | exact .inl rfl | exact .inr rfl) (je_bltT .tuple (fun _ _ => rfl) cb_tuple (by rfl) FX.z_tuple bt_tuple (ja_cons (je_ssetC rfl nd7.nd (by rfl) FX.z_sorted (blkOk_by zok5) (fun _ _ _ _ _ => pg_name (i := 2) nd7.nd rfl (by first | exact .inl rfl | exact .inr rfl)) (fun _ _ _ _ _ => pv 2) (je_var (pv 0)) (fun _ => rfl)) ja_nil)))
      (jss_cons (js_expr (je_call lnk_fn 4 (L.ok 4 _ rfl) hr hG (by rfl) FX.g_require_alphabet FX.k_require_alphabet (ja_cons (je_var (pv 1)) ja_nil)))
      (jss_cons (js_ret (je_var (pv 1)))
      jss_nil))))
theorem B8 (FX : Fx P w K mg base a0 a1 a2 a3 a4 a5 a6 a7 a8 a9 a10 a11 a12 a13 a14 a15 a16 a17 a18 a19 a20 a21 a22 a23 x_NetError x_InvalidAlphabet x_InvalidWord) (L : Lev P w K (cs_ x_NetError x_InvalidAlphabet x_InvalidWord) mg base [a0, a1, a2, a3, a4, a5, a6, a7, a8, a9, a10, a11, a12, a13, a14, a15, a16, a17, a18, a19, a20, a21, a22, a23] prog wf k) : BodyJ P w K (cs_ x_NetError x_InvalidAlphabet x_InvalidWord) mg base k a8 "is_word" N8 st8 (Ln.execs (Ln.callI prog wf k) wf b_is_word) := by
  intro cdv A outer s H E hG hr2 hck
  have hr := hr2.mono (show 3 * k ≤ 3 * k + 2 by omega)
  have hu : (A.deeper (envOfC "is_word" (defScope st8) s.heap.objs.size a8 cdv)).units + 65 < cLine := by have := hr.un; omega
  have hu1 : (A.deeper (envOfC "is_word" (defScope st8) s.heap.objs.size a8 cdv)).units + 64 < cLine := by omega
  obtain ⟨t_LETTERS, h_LETTERS⟩ := FX.c_LETTERS
  obtain ⟨t_MAX_ACTIONS, h_MAX_ACTIONS⟩ := FX.c_MAX_ACTIONS
  obtain ⟨t_MAX_LETTERS, h_MAX_LETTERS⟩ := FX.c_MAX_LETTERS
  obtain ⟨t_MAX_WORD, h_MAX_WORD⟩ := FX.c_MAX_WORD
  exact (jss_cons (js_expr (je_call lnk_fn 4 (L.ok 4 _ rfl) hr hG (by rfl) FX.g_require_alphabet FX.k_require_alphabet (ja_cons (je_var (pv 0)) ja_nil)))
      (jss_cons (js_ret (je_call lnk_fn 2 (L.ok 2 _ rfl) hr hG (by rfl) FX.g_is_word_of FX.k_is_word_of (ja_cons (je_var (pv 0)) (ja_cons (je_var (pv 1)) ja_nil))))
      jss_nil))
theorem B9 (FX : Fx P w K mg base a0 a1 a2 a3 a4 a5 a6 a7 a8 a9 a10 a11 a12 a13 a14 a15 a16 a17 a18 a19 a20 a21 a22 a23 x_NetError x_InvalidAlphabet x_InvalidWord) (L : Lev P w K (cs_ x_NetError x_InvalidAlphabet x_InvalidWord) mg base [a0, a1, a2, a3, a4, a5, a6, a7, a8, a9, a10, a11, a12, a13, a14, a15, a16, a17, a18, a19, a20, a21, a22, a23] prog wf k) : BodyJ P w K (cs_ x_NetError x_InvalidAlphabet x_InvalidWord) mg base k a9 "counts_of" N9 st9 (Ln.execs (Ln.callI prog wf k) wf b_counts_of) := by
  intro cdv A outer s H E hG hr2 hck
  have hr := hr2.mono (show 3 * k ≤ 3 * k + 2 by omega)
  have hu : (A.deeper (envOfC "counts_of" (defScope st9) s.heap.objs.size a9 cdv)).units + 65 < cLine := by have := hr.un; omega
  have hu1 : (A.deeper (envOfC "counts_of" (defScope st9) s.heap.objs.size a9 cdv)).units + 64 < cLine := by omega
  obtain ⟨t_LETTERS, h_LETTERS⟩ := FX.c_LETTERS
  obtain ⟨t_MAX_ACTIONS, h_MAX_ACTIONS⟩ := FX.c_MAX_ACTIONS
  obtain ⟨t_MAX_LETTERS, h_MAX_LETTERS⟩ := FX.c_MAX_LETTERS
  obtain ⟨t_MAX_WORD, h_MAX_WORD⟩ := FX.c_MAX_WORD
  exact (jss_cons (js_expr (je_call lnk_fn 4 (L.ok 4 _ rfl) hr hG (by rfl) FX.g_require_alphabet FX.k_require_alphabet (ja_cons (je_var (pv 0)) ja_nil)))
      (jss_cons (js_expr (je_call lnk_fn 5 (L.ok 5 _ rfl) hr hG (by rfl) FX.g_require_word FX.k_require_word (ja_cons (je_var (pv 0)) (ja_cons (je_var (pv 1)) ja_nil))))
      (jss_cons (js_ret (je_call lnk_fn 3 (L.ok 3 _ rfl) hr hG (by rfl) FX.g_counts_in FX.k_counts_in (ja_cons (je_var (pv 0)) (ja_cons (je_var (pv 1)) ja_nil))))
      jss_nil)))
theorem B10 (FX : Fx P w K mg base a0 a1 a2 a3 a4 a5 a6 a7 a8 a9 a10 a11 a12 a13 a14 a15 a16 a17 a18 a19 a20 a21 a22 a23 x_NetError x_InvalidAlphabet x_InvalidWord) (L : Lev P w K (cs_ x_NetError x_InvalidAlphabet x_InvalidWord) mg base [a0, a1, a2, a3, a4, a5, a6, a7, a8, a9, a10, a11, a12, a13, a14, a15, a16, a17, a18, a19, a20, a21, a22, a23] prog wf k) : BodyJ P w K (cs_ x_NetError x_InvalidAlphabet x_InvalidWord) mg base k a10 "_law_stream" N10 st10 (Ln.execs (Ln.callI prog wf k) wf b__law_stream) := by
  intro cdv A outer s H E hG hr2 hck
  have hr := hr2.mono (show 3 * k ≤ 3 * k + 2 by omega)
  have hu : (A.deeper (envOfC "_law_stream" (defScope st10) s.heap.objs.size a10 cdv)).units + 65 < cLine := by have := hr.un; omega
  have hu1 : (A.deeper (envOfC "_law_stream" (defScope st10) s.heap.objs.size a10 cdv)).units + 64 < cLine := by omega
  obtain ⟨t_LETTERS, h_LETTERS⟩ := FX.c_LETTERS
  obtain ⟨t_MAX_ACTIONS, h_MAX_ACTIONS⟩ := FX.c_MAX_ACTIONS
  obtain ⟨t_MAX_LETTERS, h_MAX_LETTERS⟩ := FX.c_MAX_LETTERS
  obtain ⟨t_MAX_WORD, h_MAX_WORD⟩ := FX.c_MAX_WORD
  exact (jss_cons (js_set (i := 2) nd10.nd rfl (by first | exact .inl rfl | exact .inr rfl) (je_bin .add (je_bin .mul je_int (je_var (pv 1))) je_int))
      (jss_cons (js_if (jt_cmp .lt hu (je_var (pv 1)) (je_bltB .len (fun _ _ => rfl) cb_len (by rfl) FX.z_len bt_len (ja_cons (je_var (pv 0)) ja_nil)) (nomark _))
      (jss_cons (js_set (i := 2) nd10.nd rfl (by first | exact .inl rfl | exact .inr rfl) (je_idx hu (je_var (pv 0)) (je_var (pv 1)) (fun _ _ => rfl)))
      jss_nil) jss_nil)
      (jss_cons (js_set (i := 3) nd10.nd rfl (by first | exact .inl rfl | exact .inr rfl) (je_bin .mod (je_bltB .abs (fun _ _ => rfl) cb_abs (by rfl) FX.z_abs bt_abs (ja_cons (je_var (pv 2)) ja_nil)) (je_bin .pow (je_bin .pow je_int je_int) je_int)))
      (jss_cons (js_set (i := 4) nd10.nd rfl (by first | exact .inl rfl | exact .inr rfl) (je_bin .mod (je_bin .add (je_bin .add (je_bin .add (je_bin .mul (je_bin .mod (je_var (pv 3)) je_int) je_int) (je_bin .mul je_int (je_var (pv 1)))) (je_bin .mul je_int (je_bltT .int (fun _ _ => rfl) cb_int (by rfl) FX.z_int bt_int (ja_cons (je_cmp .lt hu (je_var (pv 2)) je_int (nomark _)) ja_nil)))) je_int) je_int))
      (jss_cons (js_ret (je_lstM (ja_cons (je_bltB .max (fun _ _ => rfl) (cb_max rfl) (by rfl) FX.z_max bt_max (ja_cons je_int (ja_cons (je_bin .add (je_bin .sub (je_var (pv 3)) (je_bin .pow je_int je_int)) je_int) ja_nil))) (ja_cons (je_var (pv 4)) (ja_cons je_int ja_nil)))))
      jss_nil)))))
theorem B11 (FX : Fx P w K mg base a0 a1 a2 a3 a4 a5 a6 a7 a8 a9 a10 a11 a12 a13 a14 a15 a16 a17 a18 a19 a20 a21 a22 a23 x_NetError x_InvalidAlphabet x_InvalidWord) (L : Lev P w K (cs_ x_NetError x_InvalidAlphabet x_InvalidWord) mg base [a0, a1, a2, a3, a4, a5, a6, a7, a8, a9, a10, a11, a12, a13, a14, a15, a16, a17, a18, a19, a20, a21, a22, a23] prog wf k) : BodyJ P w K (cs_ x_NetError x_InvalidAlphabet x_InvalidWord) mg base k a11 "_law_draw" N11 st11 (Ln.execs (Ln.callI prog wf k) wf b__law_draw) := by
  intro cdv A outer s H E hG hr2 hck
  have hr := hr2.mono (show 3 * k ≤ 3 * k + 2 by omega)
  have hu : (A.deeper (envOfC "_law_draw" (defScope st11) s.heap.objs.size a11 cdv)).units + 65 < cLine := by have := hr.un; omega
  have hu1 : (A.deeper (envOfC "_law_draw" (defScope st11) s.heap.objs.size a11 cdv)).units + 64 < cLine := by omega
  obtain ⟨t_LETTERS, h_LETTERS⟩ := FX.c_LETTERS
  obtain ⟨t_MAX_ACTIONS, h_MAX_ACTIONS⟩ := FX.c_MAX_ACTIONS
  obtain ⟨t_MAX_LETTERS, h_MAX_LETTERS⟩ := FX.c_MAX_LETTERS
  obtain ⟨t_MAX_WORD, h_MAX_WORD⟩ := FX.c_MAX_WORD
  exact (jss_cons (js_if (jt_cmp .gt hu (je_idx hu (je_var (pv 0)) je_int (fun _ _ => rfl)) je_int (nomark _))
      (jss_cons (js_set (i := 2) nd11.nd rfl (by first | exact .inl rfl | exact .inr rfl) (je_bin .mod (je_idx hu (je_var (pv 0)) je_int (fun _ _ => rfl)) (je_var (pv 1))))
      (jss_cons (js_setI (je_var (pv 0)) je_int (je_bin .fdiv (je_idx hu (je_var (pv 0)) je_int (fun _ _ => rfl)) (je_var (pv 1))))
      (jss_cons (js_ret (je_var (pv 2)))
      jss_nil))) jss_nil)
      (jss_cons (js_setI (je_var (pv 0)) je_int (je_bin .add (je_idx hu (je_var (pv 0)) je_int (fun _ _ => rfl)) je_int))
      (jss_cons (js_set (i := 3) nd11.nd rfl (by first | exact .inl rfl | exact .inr rfl) (je_bin .mod (je_bin .add (je_idx hu (je_var (pv 0)) je_int (fun _ _ => rfl)) (je_bin .mul je_int (je_idx hu (je_var (pv 0)) je_int (fun _ _ => rfl)))) je_int))
      (jss_cons (js_set (i := 4) nd11.nd rfl (by first | exact .inl rfl | exact .inr rfl) (je_bin .mod (je_bin .add (je_bin .mul (je_bin .mod (je_bin .mul (je_var (pv 3)) (je_var (pv 3))) je_int) (je_var (pv 3))) (je_bin .mul je_int (je_idx hu (je_var (pv 0)) je_int (fun _ _ => rfl)))) je_int))
      (jss_cons (js_ret (je_bin .mod (je_bin .fdiv (je_var (pv 4)) je_int) (je_var (pv 1))))
      jss_nil)))))
theorem B12 (FX : Fx P w K mg base a0 a1 a2 a3 a4 a5 a6 a7 a8 a9 a10 a11 a12 a13 a14 a15 a16 a17 a18 a19 a20 a21 a22 a23 x_NetError x_InvalidAlphabet x_InvalidWord) (L : Lev P w K (cs_ x_NetError x_InvalidAlphabet x_InvalidWord) mg base [a0, a1, a2, a3, a4, a5, a6, a7, a8, a9, a10, a11, a12, a13, a14, a15, a16, a17, a18, a19, a20, a21, a22, a23] prog wf k) : BodyJ P w K (cs_ x_NetError x_InvalidAlphabet x_InvalidWord) mg base k a12 "_law_pick" N12 st12 (Ln.execs (Ln.callI prog wf k) wf b__law_pick) := by
  intro cdv A outer s H E hG hr2 hck
  have hr := hr2.mono (show 3 * k ≤ 3 * k + 2 by omega)
  have hu : (A.deeper (envOfC "_law_pick" (defScope st12) s.heap.objs.size a12 cdv)).units + 65 < cLine := by have := hr.un; omega
  have hu1 : (A.deeper (envOfC "_law_pick" (defScope st12) s.heap.objs.size a12 cdv)).units + 64 < cLine := by omega
  obtain ⟨t_LETTERS, h_LETTERS⟩ := FX.c_LETTERS
  obtain ⟨t_MAX_ACTIONS, h_MAX_ACTIONS⟩ := FX.c_MAX_ACTIONS
  obtain ⟨t_MAX_LETTERS, h_MAX_LETTERS⟩ := FX.c_MAX_LETTERS
  obtain ⟨t_MAX_WORD, h_MAX_WORD⟩ := FX.c_MAX_WORD
  exact (jss_cons (js_ret (je_idx hu (je_var (pv 1)) (je_call lnk_fn 11 (L.ok 11 _ rfl) hr hG (by rfl) FX.g__law_draw FX.k__law_draw (ja_cons (je_var (pv 0)) (ja_cons (je_bltB .len (fun _ _ => rfl) cb_len (by rfl) FX.z_len bt_len (ja_cons (je_var (pv 1)) ja_nil)) ja_nil))) (fun _ _ => rfl)))
      jss_nil)
theorem B13 (FX : Fx P w K mg base a0 a1 a2 a3 a4 a5 a6 a7 a8 a9 a10 a11 a12 a13 a14 a15 a16 a17 a18 a19 a20 a21 a22 a23 x_NetError x_InvalidAlphabet x_InvalidWord) (L : Lev P w K (cs_ x_NetError x_InvalidAlphabet x_InvalidWord) mg base [a0, a1, a2, a3, a4, a5, a6, a7, a8, a9, a10, a11, a12, a13, a14, a15, a16, a17, a18, a19, a20, a21, a22, a23] prog wf k) : BodyJ P w K (cs_ x_NetError x_InvalidAlphabet x_InvalidWord) mg base k a13 "_law_mixed" N13 st13 (Ln.execs (Ln.callI prog wf k) wf b__law_mixed) := by
  intro cdv A outer s H E hG hr2 hck
  have hr := hr2.mono (show 3 * k ≤ 3 * k + 2 by omega)
  have hu : (A.deeper (envOfC "_law_mixed" (defScope st13) s.heap.objs.size a13 cdv)).units + 65 < cLine := by have := hr.un; omega
  have hu1 : (A.deeper (envOfC "_law_mixed" (defScope st13) s.heap.objs.size a13 cdv)).units + 64 < cLine := by omega
  obtain ⟨t_LETTERS, h_LETTERS⟩ := FX.c_LETTERS
  obtain ⟨t_MAX_ACTIONS, h_MAX_ACTIONS⟩ := FX.c_MAX_ACTIONS
  obtain ⟨t_MAX_LETTERS, h_MAX_LETTERS⟩ := FX.c_MAX_LETTERS
  obtain ⟨t_MAX_WORD, h_MAX_WORD⟩ := FX.c_MAX_WORD
  exact (jss_cons (js_par2 (i := 2) (j := 3) rfl nd13.nd rfl rfl (by decide) rfl rfl (ja_cons (je_listM (x := "list") (by rfl) FX.z_list bt_list (ja_cons (je_var (pv 1)) ja_nil)) (ja_cons (je_lstM ja_nil) ja_nil)) (by rfl))
      (jss_cons (js_while own_fn (jt_cmp .ne hu (je_var (pv 2)) (je_lst ja_nil) (nomark _))
      (jss_cons (js_expr (je_append (je_var (pv 3)) (ja_cons (je_popAt (je_var (pv 2)) (ja_cons (je_call lnk_fn 11 (L.ok 11 _ rfl) hr hG (by rfl) FX.g__law_draw FX.k__law_draw (ja_cons (je_var (pv 0)) (ja_cons (je_bltB .len (fun _ _ => rfl) cb_len (by rfl) FX.z_len bt_len (ja_cons (je_var (pv 2)) ja_nil)) ja_nil))) ja_nil)) ja_nil)))
      jss_nil))
      (jss_cons (js_ret (je_var (pv 3)))
      jss_nil)))
theorem B14 (FX : Fx P w K mg base a0 a1 a2 a3 a4 a5 a6 a7 a8 a9 a10 a11 a12 a13 a14 a15 a16 a17 a18 a19 a20 a21 a22 a23 x_NetError x_InvalidAlphabet x_InvalidWord) (L : Lev P w K (cs_ x_NetError x_InvalidAlphabet x_InvalidWord) mg base [a0, a1, a2, a3, a4, a5, a6, a7, a8, a9, a10, a11, a12, a13, a14, a15, a16, a17, a18, a19, a20, a21, a22, a23] prog wf k) : BodyJ P w K (cs_ x_NetError x_InvalidAlphabet x_InvalidWord) mg base k a14 "_law_word" N14 st14 (Ln.execs (Ln.callI prog wf k) wf b__law_word) := by
  intro cdv A outer s H E hG hr2 hck
  have hr := hr2.mono (show 3 * k ≤ 3 * k + 2 by omega)
  have hu : (A.deeper (envOfC "_law_word" (defScope st14) s.heap.objs.size a14 cdv)).units + 65 < cLine := by have := hr.un; omega
  have hu1 : (A.deeper (envOfC "_law_word" (defScope st14) s.heap.objs.size a14 cdv)).units + 64 < cLine := by omega
  obtain ⟨t_LETTERS, h_LETTERS⟩ := FX.c_LETTERS
  obtain ⟨t_MAX_ACTIONS, h_MAX_ACTIONS⟩ := FX.c_MAX_ACTIONS
  obtain ⟨t_MAX_LETTERS, h_MAX_LETTERS⟩ := FX.c_MAX_LETTERS
  obtain ⟨t_MAX_WORD, h_MAX_WORD⟩ := FX.c_MAX_WORD
  exact (jss_cons (js_ret (je_bltT .tuple (fun _ _ => rfl) cb_tuple (by rfl) FX.z_tuple bt_tuple (ja_cons (je_lc (own := [("turn", 3)]) rfl nd14.nd (ji_rng1 (by rfl) FX.z_range (je_call lnk_fn 11 (L.ok 11 _ rfl) hr hG (by rfl) FX.g__law_draw FX.k__law_draw (ja_cons (je_var (pv 0)) (ja_cons (je_bin .add (je_var (pv 2)) je_int) ja_nil)))) (blkOk_by zok7) (by decide) (fun _ _ _ _ _ => (jg_nm (pg_name (i := 3) nd14.nd rfl (by first | exact .inl rfl | exact .inr rfl)))) (fun _ _ _ _ _ => jts_nil) (fun _ _ _ _ _ => (je_call lnk0 12 (L.ok 12 _ rfl) hr hG (by rfl) FX.g__law_pick FX.k__law_pick (ja_cons (je_var (pv 0)) (ja_cons (je_var (pv 1)) ja_nil)))) (fun _ => rfl)) ja_nil)))
      jss_nil)
theorem B15 (FX : Fx P w K mg base a0 a1 a2 a3 a4 a5 a6 a7 a8 a9 a10 a11 a12 a13 a14 a15 a16 a17 a18 a19 a20 a21 a22 a23 x_NetError x_InvalidAlphabet x_InvalidWord) (L : Lev P w K (cs_ x_NetError x_InvalidAlphabet x_InvalidWord) mg base [a0, a1, a2, a3, a4, a5, a6, a7, a8, a9, a10, a11, a12, a13, a14, a15, a16, a17, a18, a19, a20, a21, a22, a23] prog wf k) : BodyJ P w K (cs_ x_NetError x_InvalidAlphabet x_InvalidWord) mg base k a15 "_law_is_word" N15 st15 (Ln.execs (Ln.callI prog wf k) wf b__law_is_word) := by
  intro cdv A outer s H E hG hr2 hck
  have hr := hr2.mono (show 3 * k ≤ 3 * k + 2 by omega)
  have hu : (A.deeper (envOfC "_law_is_word" (defScope st15) s.heap.objs.size a15 cdv)).units + 65 < cLine := by have := hr.un; omega
  have hu1 : (A.deeper (envOfC "_law_is_word" (defScope st15) s.heap.objs.size a15 cdv)).units + 64 < cLine := by omega
  obtain ⟨t_LETTERS, h_LETTERS⟩ := FX.c_LETTERS
  obtain ⟨t_MAX_ACTIONS, h_MAX_ACTIONS⟩ := FX.c_MAX_ACTIONS
  obtain ⟨t_MAX_LETTERS, h_MAX_LETTERS⟩ := FX.c_MAX_LETTERS
  obtain ⟨t_MAX_WORD, h_MAX_WORD⟩ := FX.c_MAX_WORD
  exact (jss_cons (js_if (jt_not (jt_truth (je_isi .tuple (by rfl) FX.z_isinstance bt_tuple (by rfl) FX.z_tuple (je_var (pv 1))) fun _ => rfl))
      (jss_cons (js_ret je_bl)
      jss_nil) jss_nil)
      (jss_cons (js_ret (je_cmp .eq hu (je_lc (own := [("action", 2)]) rfl nd15.nd (ji_seq (je_var (pv 1))) (blkOk_by zok8) (by decide) (fun _ _ _ _ _ => (jg_nm (pg_name (i := 2) nd15.nd rfl (by first | exact .inl rfl | exact .inr rfl)))) (fun _ _ _ _ _ => (jts_one (jt_w (jw_or (jt_not (jt_truth (je_isi .str (by rfl) FX.z_isinstance bt_str (by rfl) FX.z_str (je_var (pv 2))) fun _ => rfl)) (jw_or1 (jt_cmp .notIn hu (je_var (pv 2)) (je_var (pv 0)) (by rfl))))))) (fun _ _ _ _ _ => je_int) (fun _ => rfl)) (je_lst ja_nil) (nomark _)))
      jss_nil))
theorem B16 (FX : Fx P w K mg base a0 a1 a2 a3 a4 a5 a6 a7 a8 a9 a10 a11 a12 a13 a14 a15 a16 a17 a18 a19 a20 a21 a22 a23 x_NetError x_InvalidAlphabet x_InvalidWord) (L : Lev P w K (cs_ x_NetError x_InvalidAlphabet x_InvalidWord) mg base [a0, a1, a2, a3, a4, a5, a6, a7, a8, a9, a10, a11, a12, a13, a14, a15, a16, a17, a18, a19, a20, a21, a22, a23] prog wf k) : BodyJ P w K (cs_ x_NetError x_InvalidAlphabet x_InvalidWord) mg base k a16 "_law_odd" N16 st16 (Ln.execs (Ln.callI prog wf k) wf b__law_odd) := by
  intro cdv A outer s H E hG hr2 hck
  have hr := hr2.mono (show 3 * k ≤ 3 * k + 2 by omega)
  have hu : (A.deeper (envOfC "_law_odd" (defScope st16) s.heap.objs.size a16 cdv)).units + 65 < cLine := by have := hr.un; omega
  have hu1 : (A.deeper (envOfC "_law_odd" (defScope st16) s.heap.objs.size a16 cdv)).units + 64 < cLine := by omega
  obtain ⟨t_LETTERS, h_LETTERS⟩ := FX.c_LETTERS
  obtain ⟨t_MAX_ACTIONS, h_MAX_ACTIONS⟩ := FX.c_MAX_ACTIONS
  obtain ⟨t_MAX_LETTERS, h_MAX_LETTERS⟩ := FX.c_MAX_LETTERS
  obtain ⟨t_MAX_WORD, h_MAX_WORD⟩ := FX.c_MAX_WORD
  exact (jss_cons (js_set (i := 1) nd16.nd rfl (by first | exact .inl rfl | exact .inr rfl) (je_lst (ja_cons je_non (ja_cons je_bl (ja_cons je_bl (ja_cons (je_neg je_int) (ja_cons je_int (ja_cons je_int (ja_cons je_int (ja_cons (je_bin .pow je_int je_int) (ja_cons je_str (ja_cons je_str (ja_cons je_str (ja_cons je_str (ja_cons (je_tup ja_nil) (ja_cons (je_lst ja_nil) (ja_cons je_dct0 (ja_cons (je_tup (ja_cons je_int ja_nil)) (ja_cons (je_tup (ja_cons je_str ja_nil)) (ja_cons (je_lst (ja_cons je_int ja_nil)) (ja_cons (je_tup (ja_cons (je_tup ja_nil) ja_nil)) (ja_cons je_str ja_nil))))))))))))))))))))))
      (jss_cons (js_ret (je_call lnk_fn 12 (L.ok 12 _ rfl) hr hG (by rfl) FX.g__law_pick FX.k__law_pick (ja_cons (je_var (pv 0)) (ja_cons (je_var (pv 1)) ja_nil))))
      jss_nil))
theorem B17 (FX : Fx P w K mg base a0 a1 a2 a3 a4 a5 a6 a7 a8 a9 a10 a11 a12 a13 a14 a15 a16 a17 a18 a19 a20 a21 a22 a23 x_NetError x_InvalidAlphabet x_InvalidWord) (L : Lev P w K (cs_ x_NetError x_InvalidAlphabet x_InvalidWord) mg base [a0, a1, a2, a3, a4, a5, a6, a7, a8, a9, a10, a11, a12, a13, a14, a15, a16, a17, a18, a19, a20, a21, a22, a23] prog wf k) : BodyJ P w K (cs_ x_NetError x_InvalidAlphabet x_InvalidWord) mg base k a17 "_law_bent" N17 st17 (Ln.execs (Ln.callI prog wf k) wf b__law_bent) := by
  intro cdv A outer s H E hG hr2 hck
  have hr := hr2.mono (show 3 * k ≤ 3 * k + 2 by omega)
  have hu : (A.deeper (envOfC "_law_bent" (defScope st17) s.heap.objs.size a17 cdv)).units + 65 < cLine := by have := hr.un; omega
  have hu1 : (A.deeper (envOfC "_law_bent" (defScope st17) s.heap.objs.size a17 cdv)).units + 64 < cLine := by omega
  obtain ⟨t_LETTERS, h_LETTERS⟩ := FX.c_LETTERS
  obtain ⟨t_MAX_ACTIONS, h_MAX_ACTIONS⟩ := FX.c_MAX_ACTIONS
  obtain ⟨t_MAX_LETTERS, h_MAX_LETTERS⟩ := FX.c_MAX_LETTERS
  obtain ⟨t_MAX_WORD, h_MAX_WORD⟩ := FX.c_MAX_WORD
  exact (jss_cons (js_if (jt_w (jw_and (jt_truth (je_isi .tuple (by rfl) FX.z_isinstance bt_tuple (by rfl) FX.z_tuple (je_var (pv 1))) fun _ => rfl) (jw_and (jt_cmp .ne hu (je_var (pv 1)) (je_tup ja_nil) (nomark _)) (jw_and (jt_cmp .gt hu (je_var (pv 2)) je_int (nomark _)) (jw_and1 (jt_cmp .gt hu (je_call lnk_fn 11 (L.ok 11 _ rfl) hr hG (by rfl) FX.g__law_draw FX.k__law_draw (ja_cons (je_var (pv 0)) (ja_cons je_int ja_nil))) je_int (nomark _)))))))
      (jss_cons (js_set (i := 3) nd17.nd rfl (by first | exact .inl rfl | exact .inr rfl) (je_call lnk_fn 11 (L.ok 11 _ rfl) hr hG (by rfl) FX.g__law_draw FX.k__law_draw (ja_cons (je_var (pv 0)) (ja_cons (je_bltB .len (fun _ _ => rfl) cb_len (by rfl) FX.z_len bt_len (ja_cons (je_var (pv 1)) ja_nil)) ja_nil))))
      (jss_cons (js_ret (je_bin .add (je_bin .add (je_slc (je_var (pv 1)) jo_no (jo_so (je_var (pv 3)))) (je_tup (ja_cons (je_call lnk_fn 17 (L.ok 17 _ rfl) hr hG (by rfl) FX.g__law_bent FX.k__law_bent (ja_cons (je_var (pv 0)) (ja_cons (je_idx hu (je_var (pv 1)) (je_var (pv 3)) (fun _ _ => rfl)) (ja_cons (je_bin .sub (je_var (pv 2)) je_int) ja_nil)))) ja_nil))) (je_slc (je_var (pv 1)) (jo_so (je_bin .add (je_var (pv 3)) je_int)) jo_no)))
      jss_nil)) jss_nil)
      (jss_cons (js_if (jt_truth (je_isi .tuple (by rfl) FX.z_isinstance bt_tuple (by rfl) FX.z_tuple (je_var (pv 1))) fun _ => rfl)
      (jss_cons (js_set (i := 3) nd17.nd rfl (by first | exact .inl rfl | exact .inr rfl) (je_call lnk_fn 11 (L.ok 11 _ rfl) hr hG (by rfl) FX.g__law_draw FX.k__law_draw (ja_cons (je_var (pv 0)) (ja_cons (je_bin .add (je_bltB .len (fun _ _ => rfl) cb_len (by rfl) FX.z_len bt_len (ja_cons (je_var (pv 1)) ja_nil)) je_int) ja_nil))))
      (jss_cons (js_set (i := 4) nd17.nd rfl (by first | exact .inl rfl | exact .inr rfl) (je_lst (ja_cons (je_bltT .list (fun _ _ => rfl) cb_list (by rfl) FX.z_list bt_list (ja_cons (je_var (pv 1)) ja_nil)) (ja_cons (je_bin .add (je_slc (je_var (pv 1)) jo_no (jo_so (je_var (pv 3)))) (je_slc (je_var (pv 1)) (jo_so (je_bin .add (je_var (pv 3)) je_int)) jo_no)) (ja_cons (je_bin .add (je_bin .add (je_slc (je_var (pv 1)) jo_no (jo_so (je_var (pv 3)))) (je_tup (ja_cons je_int ja_nil))) (je_slc (je_var (pv 1)) (jo_so (je_var (pv 3))) jo_no)) (ja_cons (je_rev (je_var (pv 1))) ja_nil))))))
      (jss_cons (js_ret (je_call lnk_fn 12 (L.ok 12 _ rfl) hr hG (by rfl) FX.g__law_pick FX.k__law_pick (ja_cons (je_var (pv 0)) (ja_cons (je_bin .add (je_var (pv 4)) (je_lst (ja_cons (je_bin .add (je_var (pv 1)) (je_slc (je_var (pv 1)) (jo_so (je_neg je_int)) jo_no)) (ja_cons (je_tup (ja_cons (je_var (pv 1)) ja_nil)) (ja_cons (je_tup ja_nil) (ja_cons (je_bin .add (je_bin .add (je_slc (je_var (pv 1)) jo_no (jo_so (je_var (pv 3)))) (je_slc (je_var (pv 1)) jo_no (jo_so je_int))) (je_slc (je_var (pv 1)) (jo_so (je_var (pv 3))) jo_no)) ja_nil)))))) ja_nil))))
      jss_nil))) jss_nil)
      (jss_cons (js_if (jt_w (jw_and (jt_truth (je_isi .int (by rfl) FX.z_isinstance bt_int (by rfl) FX.z_int (je_var (pv 1))) fun _ => rfl) (jw_and1 (jt_not (jt_truth (je_isi .bool (by rfl) FX.z_isinstance bt_bool (by rfl) FX.z_bool (je_var (pv 1))) fun _ => rfl)))))
      (jss_cons (js_ret (je_call lnk_fn 12 (L.ok 12 _ rfl) hr hG (by rfl) FX.g__law_pick FX.k__law_pick (ja_cons (je_var (pv 0)) (ja_cons (je_lst (ja_cons (je_bin .add (je_var (pv 1)) je_int) (ja_cons (je_bin .sub (je_var (pv 1)) je_int) (ja_cons (je_bin .sub je_int (je_var (pv 1))) (ja_cons (je_cmp .eq hu (je_var (pv 1)) je_int (nomark _)) (ja_cons (je_bltT .str (fun _ _ => rfl) cb_str (by rfl) FX.z_str bt_str (ja_cons (je_var (pv 1)) ja_nil)) (ja_cons (je_tup (ja_cons (je_var (pv 1)) ja_nil)) (ja_cons (je_bin .mul je_int (je_var (pv 1))) ja_nil)))))))) ja_nil))))
      jss_nil) jss_nil)
      (jss_cons (js_if (jt_truth (je_isi .str (by rfl) FX.z_isinstance bt_str (by rfl) FX.z_str (je_var (pv 1))) fun _ => rfl)
      (jss_cons (js_ret (je_call lnk_fn 12 (L.ok 12 _ rfl) hr hG (by rfl) FX.g__law_pick FX.k__law_pick (ja_cons (je_var (pv 0)) (ja_cons (je_lst (ja_cons (je_bin .add (je_var (pv 1)) je_str) (ja_cons (je_slc (je_var (pv 1)) (jo_so je_int) jo_no) (ja_cons je_str (ja_cons je_str (ja_cons je_str (ja_cons (je_upper (je_var (pv 1))) (ja_cons (je_tup (ja_cons (je_var (pv 1)) ja_nil)) (ja_cons je_non ja_nil))))))))) ja_nil))))
      jss_nil) jss_nil)
      (jss_cons (js_ret (je_call lnk_fn 16 (L.ok 16 _ rfl) hr hG (by rfl) FX.g__law_odd FX.k__law_odd (ja_cons (je_var (pv 0)) ja_nil)))
      jss_nil)))))
theorem B18 (FX : Fx P w K mg base a0 a1 a2 a3 a4 a5 a6 a7 a8 a9 a10 a11 a12 a13 a14 a15 a16 a17 a18 a19 a20 a21 a22 a23 x_NetError x_InvalidAlphabet x_InvalidWord) (L : Lev P w K (cs_ x_NetError x_InvalidAlphabet x_InvalidWord) mg base [a0, a1, a2, a3, a4, a5, a6, a7, a8, a9, a10, a11, a12, a13, a14, a15, a16, a17, a18, a19, a20, a21, a22, a23] prog wf k) : BodyJ P w K (cs_ x_NetError x_InvalidAlphabet x_InvalidWord) mg base k a18 "_law_is_action" N18 st18 (Ln.execs (Ln.callI prog wf k) wf b__law_is_action) := by
  intro cdv A outer s H E hG hr2 hck
  have hr := hr2.mono (show 3 * k ≤ 3 * k + 2 by omega)
  have hu : (A.deeper (envOfC "_law_is_action" (defScope st18) s.heap.objs.size a18 cdv)).units + 65 < cLine := by have := hr.un; omega
  have hu1 : (A.deeper (envOfC "_law_is_action" (defScope st18) s.heap.objs.size a18 cdv)).units + 64 < cLine := by omega
  obtain ⟨t_LETTERS, h_LETTERS⟩ := FX.c_LETTERS
  obtain ⟨t_MAX_ACTIONS, h_MAX_ACTIONS⟩ := FX.c_MAX_ACTIONS
  obtain ⟨t_MAX_LETTERS, h_MAX_LETTERS⟩ := FX.c_MAX_LETTERS
  obtain ⟨t_MAX_WORD, h_MAX_WORD⟩ := FX.c_MAX_WORD
  exact (jss_cons (js_if (jt_w (jw_or (jt_not (jt_truth (je_isi .str (by rfl) FX.z_isinstance bt_str (by rfl) FX.z_str (je_var (pv 0))) fun _ => rfl)) (jw_or1 (jt_not (jt_chain .le .le hu je_int (je_bltB .len (fun _ _ => rfl) cb_len (by rfl) FX.z_len bt_len (ja_cons (je_var (pv 0)) ja_nil)) je_int (by with_unfolding_all rfl))))))
      (jss_cons (js_ret je_bl)
      jss_nil) jss_nil)
      (jss_cons (js_ret (je_cmp .eq hu (je_lc (own := [("sign", 1)]) rfl nd18.nd (ji_seq (je_var (pv 0))) (blkOk_by zok9) (by decide) (fun _ _ _ _ _ => (jg_nm (pg_name (i := 1) nd18.nd rfl (by first | exact .inl rfl | exact .inr rfl)))) (fun _ _ _ _ _ => (jts_one (jt_cmp .notIn hu (je_var (pv 1)) je_str (by rfl)))) (fun _ _ _ _ _ => je_int) (fun _ => rfl)) (je_lst ja_nil) (nomark _)))
      jss_nil))
theorem B19 (FX : Fx P w K mg base a0 a1 a2 a3 a4 a5 a6 a7 a8 a9 a10 a11 a12 a13 a14 a15 a16 a17 a18 a19 a20 a21 a22 a23 x_NetError x_InvalidAlphabet x_InvalidWord) (L : Lev P w K (cs_ x_NetError x_InvalidAlphabet x_InvalidWord) mg base [a0, a1, a2, a3, a4, a5, a6, a7, a8, a9, a10, a11, a12, a13, a14, a15, a16, a17, a18, a19, a20, a21, a22, a23] prog wf k) : BodyJ P w K (cs_ x_NetError x_InvalidAlphabet x_InvalidWord) mg base k a19 "_law_is_alphabet" N19 st19 (Ln.execs (Ln.callI prog wf k) wf b__law_is_alphabet) := by
  intro cdv A outer s H E hG hr2 hck
  have hr := hr2.mono (show 3 * k ≤ 3 * k + 2 by omega)
  have hu : (A.deeper (envOfC "_law_is_alphabet" (defScope st19) s.heap.objs.size a19 cdv)).units + 65 < cLine := by have := hr.un; omega
  have hu1 : (A.deeper (envOfC "_law_is_alphabet" (defScope st19) s.heap.objs.size a19 cdv)).units + 64 < cLine := by omega
  obtain ⟨t_LETTERS, h_LETTERS⟩ := FX.c_LETTERS
  obtain ⟨t_MAX_ACTIONS, h_MAX_ACTIONS⟩ := FX.c_MAX_ACTIONS
  obtain ⟨t_MAX_LETTERS, h_MAX_LETTERS⟩ := FX.c_MAX_LETTERS
  obtain ⟨t_MAX_WORD, h_MAX_WORD⟩ := FX.c_MAX_WORD
  exact (jss_cons (js_if (jt_w (jw_or (jt_not (jt_truth (je_isi .tuple (by rfl) FX.z_isinstance bt_tuple (by rfl) FX.z_tuple (je_var (pv 0))) fun _ => rfl)) (jw_or1 (jt_not (jt_chain .le .le hu je_int (je_bltB .len (fun _ _ => rfl) cb_len (by rfl) FX.z_len bt_len (ja_cons (je_var (pv 0)) ja_nil)) je_int (by with_unfolding_all rfl))))))
      (jss_cons (js_ret je_bl)
      jss_nil) jss_nil)
      (jss_cons (js_if (jt_cmp .ne hu (je_lc (own := [("one", 1)]) rfl nd19.nd (ji_seq (je_var (pv 0))) (blkOk_by zok10) (by decide) (fun _ _ _ _ _ => (jg_nm (pg_name (i := 1) nd19.nd rfl (by first | exact .inl rfl | exact .inr rfl)))) (fun _ _ _ _ _ => (jts_one (jt_not (jt_truth (je_call lnk0 18 (L.ok 18 _ rfl) hr hG (by rfl) FX.g__law_is_action FX.k__law_is_action (ja_cons (je_var (pv 1)) ja_nil)) fun _ => rfl)))) (fun _ _ _ _ _ => je_int) (fun _ => rfl)) (je_lst ja_nil) (nomark _))
      (jss_cons (js_ret je_bl)
      jss_nil) jss_nil)
      (jss_cons (js_ret (je_cmp .eq hu (je_bltT .list (fun _ _ => rfl) cb_list (by rfl) FX.z_list bt_list (ja_cons (je_var (pv 0)) ja_nil)) (je_sset rfl (by rfl) FX.z_sorted (by rfl) FX.z_set (je_var (pv 0))) (nomark _)))
      jss_nil)))
theorem B20 (FX : Fx P w K mg base a0 a1 a2 a3 a4 a5 a6 a7 a8 a9 a10 a11 a12 a13 a14 a15 a16 a17 a18 a19 a20 a21 a22 a23 x_NetError x_InvalidAlphabet x_InvalidWord) (L : Lev P w K (cs_ x_NetError x_InvalidAlphabet x_InvalidWord) mg base [a0, a1, a2, a3, a4, a5, a6, a7, a8, a9, a10, a11, a12, a13, a14, a15, a16, a17, a18, a19, a20, a21, a22, a23] prog wf k) : BodyJ P w K (cs_ x_NetError x_InvalidAlphabet x_InvalidWord) mg base k a20 "_law_actions" N20 st20 (Ln.execs (Ln.callI prog wf k) wf b__law_actions) := by
  intro cdv A outer s H E hG hr2 hck
  have hr := hr2.mono (show 3 * k ≤ 3 * k + 2 by omega)
  have hu : (A.deeper (envOfC "_law_actions" (defScope st20) s.heap.objs.size a20 cdv)).units + 65 < cLine := by have := hr.un; omega
  have hu1 : (A.deeper (envOfC "_law_actions" (defScope st20) s.heap.objs.size a20 cdv)).units + 64 < cLine := by omega
  obtain ⟨t_LETTERS, h_LETTERS⟩ := FX.c_LETTERS
  obtain ⟨t_MAX_ACTIONS, h_MAX_ACTIONS⟩ := FX.c_MAX_ACTIONS
  obtain ⟨t_MAX_LETTERS, h_MAX_LETTERS⟩ := FX.c_MAX_LETTERS
  obtain ⟨t_MAX_WORD, h_MAX_WORD⟩ := FX.c_MAX_WORD
  exact (jss_cons (js_set (i := 1) nd20.nd rfl (by first | exact .inl rfl | exact .inr rfl) je_str)
      (jss_cons (js_set (i := 2) nd20.nd rfl (by first | exact .inl rfl | exact .inr rfl) (je_lstM ja_nil))
      (jss_cons (js_for own_fn rfl (ji_rng1 (by rfl) FX.z_range (je_bin .add je_int (je_call lnk_fn 11 (L.ok 11 _ rfl) hr hG (by rfl) FX.g__law_draw FX.k__law_draw (ja_cons (je_var (pv 0)) (ja_cons je_int ja_nil))))) (jg_nm (pg_name (i := 3) nd20.nd rfl (by first | exact .inl rfl | exact .inr rfl)))
      (jss_cons (js_set (i := 4) nd20.nd rfl (by first | exact .inl rfl | exact .inr rfl) (je_join je_str (je_lc (own := [("sign", 5)]) rfl nd20.nd (ji_rng1 (by rfl) FX.z_range (je_bin .add je_int (je_call lnk_fn 11 (L.ok 11 _ rfl) hr hG (by rfl) FX.g__law_draw FX.k__law_draw (ja_cons (je_var (pv 0)) (ja_cons je_int ja_nil))))) (blkOk_by zok11) (by decide) (fun _ _ _ _ _ => (jg_nm (pg_name (i := 5) nd20.nd rfl (by first | exact .inl rfl | exact .inr rfl)))) (fun _ _ _ _ _ => jts_nil) (fun _ _ _ _ _ => (je_idx hu (je_var (pv 1)) (je_call lnk0 11 (L.ok 11 _ rfl) hr hG (by rfl) FX.g__law_draw FX.k__law_draw (ja_cons (je_var (pv 0)) (ja_cons je_int ja_nil))) (fun _ _ => rfl))) (fun _ => rfl))))
      (jss_cons (js_if (jt_cmp .notIn hu (je_var (pv 4)) (je_var (pv 2)) (by rfl))
      (jss_cons (js_expr (je_append (je_var (pv 2)) (ja_cons (je_var (pv 4)) ja_nil)))
      jss_nil) jss_nil)
      jss_nil)))
      (jss_cons (js_ret (je_var (pv 2)))
      jss_nil))))
theorem B21 (FX : Fx P w K mg base a0 a1 a2 a3 a4 a5 a6 a7 a8 a9 a10 a11 a12 a13 a14 a15 a16 a17 a18 a19 a20 a21 a22 a23 x_NetError x_InvalidAlphabet x_InvalidWord) (L : Lev P w K (cs_ x_NetError x_InvalidAlphabet x_InvalidWord) mg base [a0, a1, a2, a3, a4, a5, a6, a7, a8, a9, a10, a11, a12, a13, a14, a15, a16, a17, a18, a19, a20, a21, a22, a23] prog wf k) : BodyJ P w K (cs_ x_NetError x_InvalidAlphabet x_InvalidWord) mg base k a21 "_law_alphabet_right" N21 st21 (Ln.execs (Ln.callI prog wf k) wf b__law_alphabet_right) := by
  intro cdv A outer s H E hG hr2 hck
  have hr := hr2.mono (show 3 * k ≤ 3 * k + 2 by omega)
  have hu : (A.deeper (envOfC "_law_alphabet_right" (defScope st21) s.heap.objs.size a21 cdv)).units + 65 < cLine := by have := hr.un; omega
  have hu1 : (A.deeper (envOfC "_law_alphabet_right" (defScope st21) s.heap.objs.size a21 cdv)).units + 64 < cLine := by omega
  obtain ⟨t_LETTERS, h_LETTERS⟩ := FX.c_LETTERS
  obtain ⟨t_MAX_ACTIONS, h_MAX_ACTIONS⟩ := FX.c_MAX_ACTIONS
  obtain ⟨t_MAX_LETTERS, h_MAX_LETTERS⟩ := FX.c_MAX_LETTERS
  obtain ⟨t_MAX_WORD, h_MAX_WORD⟩ := FX.c_MAX_WORD
  exact (jss_cons (js_set (i := 2) nd21.nd rfl (by first | exact .inl rfl | exact .inr rfl) (je_bltT .tuple (fun _ _ => rfl) cb_tuple (by rfl) FX.z_tuple bt_tuple (ja_cons (je_bltB .sortS (fun _ _ => rfl) cb_sorted (by rfl) FX.z_sorted bt_sorted (ja_cons (je_var (pv 1)) ja_nil)) ja_nil)))
      (jss_cons (js_set (i := 3) nd21.nd rfl (by first | exact .inl rfl | exact .inr rfl) (je_call lnk_fn 13 (L.ok 13 _ rfl) hr hG (by rfl) FX.g__law_mixed FX.k__law_mixed (ja_cons (je_var (pv 0)) (ja_cons (je_bin .add (je_var (pv 1)) (je_slc (je_var (pv 1)) jo_no (jo_so (je_call lnk_fn 11 (L.ok 11 _ rfl) hr hG (by rfl) FX.g__law_draw FX.k__law_draw (ja_cons (je_var (pv 0)) (ja_cons je_int ja_nil)))))) ja_nil))))
      (jss_cons (js_if (jt_w (jw_or (jt_cmp .ne hu (je_bltB .repr (fun _ _ => rfl) (cb_repr hG hu1) (by rfl) FX.z_repr bt_repr (ja_cons (je_call lnk_fn 7 (L.ok 7 _ rfl) hr hG (by rfl) FX.g_alphabet_from FX.k_alphabet_from (ja_cons (je_bltT .tuple (fun _ _ => rfl) cb_tuple (by rfl) FX.z_tuple bt_tuple (ja_cons (je_var (pv 3)) ja_nil)) ja_nil)) ja_nil)) (je_bltB .repr (fun _ _ => rfl) (cb_repr hG hu1) (by rfl) FX.z_repr bt_repr (ja_cons (je_var (pv 2)) ja_nil)) (nomark _)) (jw_or1 (jt_cmp .gt hu (je_bltB .len (fun _ _ => rfl) cb_len (by rfl) FX.z_len bt_len (ja_cons (je_var (pv 2)) ja_nil)) (je_cst (pe_glob (v := .int 5) (by rfl) h_MAX_ACTIONS ⟨_, rfl⟩) fun _ _ => .int _) (nomark _)))))
      (jss_cons (js_ret je_bl)
      jss_nil) jss_nil)
      (jss_cons (js_par2 (i := 4) (j := 5) rfl nd21.nd rfl rfl (by decide) rfl rfl (ja_cons (je_idx hu (je_var (pv 3)) je_int (fun _ _ => rfl)) (ja_cons (je_idx hu (je_var (pv 3)) (je_neg je_int) (fun _ _ => rfl)) ja_nil)) (by rfl))
      (jss_cons (js_if (jt_w (jw_or (jt_cmp .ne hu (je_call lnk_fn 6 (L.ok 6 _ rfl) hr hG (by rfl) FX.g_make_alphabet FX.k_make_alphabet (ja_cons (je_var (pv 4)) ja_nil)) (je_tup (ja_cons (je_var (pv 4)) ja_nil)) (nomark _)) (jw_or1 (jt_cmp .ne hu (je_call lnk_fn 6 (L.ok 6 _ rfl) hr hG (by rfl) FX.g_make_alphabet FX.k_make_alphabet (ja_cons (je_var (pv 5)) (ja_cons (je_var (pv 4)) (ja_cons (je_var (pv 5)) ja_nil)))) (je_bltT .tuple (fun _ _ => rfl) cb_tuple (by rfl) FX.z_tuple bt_tuple (ja_cons (je_sset rfl (by rfl) FX.z_sorted (by rfl) FX.z_set (je_lst (ja_cons (je_var (pv 4)) (ja_cons (je_var (pv 5)) ja_nil)))) ja_nil)) (nomark _)))))
      (jss_cons (js_ret je_bl)
      jss_nil) jss_nil)
      (jss_cons (js_set (i := 6) nd21.nd rfl (by first | exact .inl rfl | exact .inr rfl) (je_lst (ja_cons (je_var (pv 2)) (ja_cons (je_bltT .list (fun _ _ => rfl) cb_list (by rfl) FX.z_list bt_list (ja_cons (je_var (pv 2)) ja_nil)) (ja_cons (je_bin .add (je_var (pv 2)) (je_slc (je_var (pv 2)) (jo_so (je_neg je_int)) jo_no)) (ja_cons (je_rev (je_var (pv 2))) (ja_cons (je_bin .add (je_var (pv 2)) (je_tup (ja_cons je_str ja_nil))) (ja_cons (je_tup (ja_cons (je_var (pv 2)) ja_nil)) (ja_cons (je_bin .add (je_var (pv 2)) (je_tup (ja_cons je_int ja_nil))) (ja_cons (je_bltT .tuple (fun _ _ => rfl) cb_tuple (by rfl) FX.z_tuple bt_tuple (ja_cons (je_var (pv 3)) ja_nil)) (ja_cons (je_tup ja_nil) ja_nil)))))))))))
      (jss_cons (js_set (i := 6) nd21.nd rfl (by first | exact .inl rfl | exact .inr rfl) (je_bin .add (je_var (pv 6)) (je_lst (ja_cons (je_tup (ja_cons je_str (ja_cons je_str (ja_cons je_str (ja_cons je_str (ja_cons je_str (ja_cons je_str ja_nil))))))) (ja_cons (je_tup (ja_cons je_str ja_nil)) (ja_cons (je_tup (ja_cons je_str (ja_cons je_str ja_nil))) (ja_cons (je_tup (ja_cons je_str ja_nil)) (ja_cons (je_tup (ja_cons je_str ja_nil)) (ja_cons (je_tup (ja_cons je_str ja_nil)) (ja_cons je_str (ja_cons je_str (ja_cons je_non ja_nil))))))))))))
      (jss_cons (js_for own_fn rfl (ji_rng1 (by rfl) FX.z_range je_int) (jg_nm (pg_name (i := 7) nd21.nd rfl (by first | exact .inl rfl | exact .inr rfl)))
      (jss_cons (js_set (i := 6) nd21.nd rfl (by first | exact .inl rfl | exact .inr rfl) (je_bin .add (je_var (pv 6)) (je_lst (ja_cons (je_call lnk_fn 17 (L.ok 17 _ rfl) hr hG (by rfl) FX.g__law_bent FX.k__law_bent (ja_cons (je_var (pv 0)) (ja_cons (je_var (pv 2)) (ja_cons je_int ja_nil)))) (ja_cons (je_call lnk_fn 16 (L.ok 16 _ rfl) hr hG (by rfl) FX.g__law_odd FX.k__law_odd (ja_cons (je_var (pv 0)) ja_nil)) ja_nil)))))
      jss_nil))
      (jss_cons (js_ret (je_cmp .eq hu (je_lc (own := [("value", 8)]) rfl nd21.nd (ji_seq (je_var (pv 6))) (blkOk_by zok12) (by decide) (fun _ _ _ _ _ => (jg_nm (pg_name (i := 8) nd21.nd rfl (by first | exact .inl rfl | exact .inr rfl)))) (fun _ _ _ _ _ => (jts_one (jt_cmp .ne hu (je_bltB .repr (fun _ _ => rfl) (cb_repr hG hu1) (by rfl) FX.z_repr bt_repr (ja_cons (je_call lnk0 1 (L.ok 1 _ rfl) hr hG (by rfl) FX.g_is_alphabet FX.k_is_alphabet (ja_cons (je_var (pv 8)) ja_nil)) ja_nil)) (je_bltB .repr (fun _ _ => rfl) (cb_repr hG hu1) (by rfl) FX.z_repr bt_repr (ja_cons (je_call lnk0 19 (L.ok 19 _ rfl) hr hG (by rfl) FX.g__law_is_alphabet FX.k__law_is_alphabet (ja_cons (je_var (pv 8)) ja_nil)) ja_nil)) (nomark _)))) (fun _ _ _ _ _ => (je_var (pv 8))) (fun _ => rfl)) (je_lst ja_nil) (nomark _)))
      jss_nil)))))))))
theorem B22 (FX : Fx P w K mg base a0 a1 a2 a3 a4 a5 a6 a7 a8 a9 a10 a11 a12 a13 a14 a15 a16 a17 a18 a19 a20 a21 a22 a23 x_NetError x_InvalidAlphabet x_InvalidWord) (L : Lev P w K (cs_ x_NetError x_InvalidAlphabet x_InvalidWord) mg base [a0, a1, a2, a3, a4, a5, a6, a7, a8, a9, a10, a11, a12, a13, a14, a15, a16, a17, a18, a19, a20, a21, a22, a23] prog wf k) : BodyJ P w K (cs_ x_NetError x_InvalidAlphabet x_InvalidWord) mg base k a22 "_law_words_right" N22 st22 (Ln.execs (Ln.callI prog wf k) wf b__law_words_right) := by
  intro cdv A outer s H E hG hr2 hck
  have hr := hr2.mono (show 3 * k ≤ 3 * k + 2 by omega)
  have hu : (A.deeper (envOfC "_law_words_right" (defScope st22) s.heap.objs.size a22 cdv)).units + 65 < cLine := by have := hr.un; omega
  have hu1 : (A.deeper (envOfC "_law_words_right" (defScope st22) s.heap.objs.size a22 cdv)).units + 64 < cLine := by omega
  obtain ⟨t_LETTERS, h_LETTERS⟩ := FX.c_LETTERS
  obtain ⟨t_MAX_ACTIONS, h_MAX_ACTIONS⟩ := FX.c_MAX_ACTIONS
  obtain ⟨t_MAX_LETTERS, h_MAX_LETTERS⟩ := FX.c_MAX_LETTERS
  obtain ⟨t_MAX_WORD, h_MAX_WORD⟩ := FX.c_MAX_WORD
  exact (jss_cons (js_set (i := 2) nd22.nd rfl (by first | exact .inl rfl | exact .inr rfl) (je_call lnk_fn 14 (L.ok 14 _ rfl) hr hG (by rfl) FX.g__law_word FX.k__law_word (ja_cons (je_var (pv 0)) (ja_cons (je_var (pv 1)) (ja_cons je_int ja_nil)))))
      (jss_cons (js_set (i := 3) nd22.nd rfl (by first | exact .inl rfl | exact .inr rfl) (je_bin .mul (je_bin .add (je_var (pv 2)) (je_slc (je_var (pv 1)) jo_no (jo_so je_int))) (je_bin .add je_int (je_bin .fdiv je_int (je_bin .add (je_bltB .len (fun _ _ => rfl) cb_len (by rfl) FX.z_len bt_len (ja_cons (je_var (pv 2)) ja_nil)) je_int)))))
      (jss_cons (js_for own_fn rfl (ji_seq (je_tup (ja_cons (je_var (pv 2)) (ja_cons (je_tup ja_nil) (ja_cons (je_var (pv 1)) (ja_cons (je_slc (je_var (pv 3)) jo_no (jo_so je_int)) (ja_cons (je_slc (je_var (pv 3)) jo_no (jo_so je_int)) ja_nil))))))) (jg_nm (pg_name (i := 4) nd22.nd rfl (by first | exact .inl rfl | exact .inr rfl)))
      (jss_cons (js_par2 (i := 5) (j := 6) rfl nd22.nd rfl rfl (by decide) rfl rfl (ja_cons (je_bltB .repr (fun _ _ => rfl) (cb_repr hG hu1) (by rfl) FX.z_repr bt_repr (ja_cons (je_var (pv 4)) ja_nil)) (ja_cons (je_call lnk_fn 9 (L.ok 9 _ rfl) hr hG (by rfl) FX.g_counts_of FX.k_counts_of (ja_cons (je_var (pv 1)) (ja_cons (je_var (pv 4)) ja_nil))) ja_nil)) (by rfl))
      (jss_cons (js_if (jt_cmp .ne hu (je_bltB .repr (fun _ _ => rfl) (cb_repr hG hu1) (by rfl) FX.z_repr bt_repr (ja_cons (je_var (pv 6)) ja_nil)) (je_bltB .repr (fun _ _ => rfl) (cb_repr hG hu1) (by rfl) FX.z_repr bt_repr (ja_cons (je_bltT .tuple (fun _ _ => rfl) cb_tuple (by rfl) FX.z_tuple bt_tuple (ja_cons (je_lc (own := [("name", 9)]) rfl nd22.nd (ji_seq (je_var (pv 1))) (blkOk_by zok14) (by decide) (fun _ _ _ _ _ => (jg_nm (pg_name (i := 9) nd22.nd rfl (by first | exact .inl rfl | exact .inr rfl)))) (fun _ _ _ _ _ => jts_nil) (fun _ _ _ _ _ => (je_bltB .len (fun _ _ => rfl) cb_len (by rfl) FX.z_len bt_len (ja_cons (je_lc (own := [("action", 10)]) rfl nd22.nd (ji_seq (je_var (pv 4))) (blkOk_by zok15) (by decide) (fun _ _ _ _ _ => (jg_nm (pg_name (i := 10) nd22.nd rfl (by first | exact .inl rfl | exact .inr rfl)))) (fun _ _ _ _ _ => (jts_one (jt_cmp .eq hu (je_var (pv 10)) (je_var (pv 9)) (nomark _)))) (fun _ _ _ _ _ => je_int) (fun _ => rfl)) ja_nil))) (fun _ => rfl)) ja_nil)) ja_nil)) (nomark _))
      (jss_cons (js_ret je_bl)
      jss_nil) jss_nil)
      (jss_cons (js_if (jt_w (jw_or (jt_cmp .ne hu (je_bltB .repr (fun _ _ => rfl) (cb_repr hG hu1) (by rfl) FX.z_repr bt_repr (ja_cons (je_var (pv 4)) ja_nil)) (je_var (pv 5)) (nomark _)) (jw_or (jt_cmp .ne hu (je_bltB .sum (fun _ _ => rfl) (cb_sum rfl) (by rfl) FX.z_sum bt_sum (ja_cons (je_var (pv 6)) ja_nil)) (je_bltB .len (fun _ _ => rfl) cb_len (by rfl) FX.z_len bt_len (ja_cons (je_var (pv 4)) ja_nil)) (nomark _)) (jw_or1 (jt_cmp .isNot hu (je_call lnk_fn 8 (L.ok 8 _ rfl) hr hG (by rfl) FX.g_is_word FX.k_is_word (ja_cons (je_var (pv 1)) (ja_cons (je_var (pv 4)) ja_nil))) je_bl (nomark _))))))
      (jss_cons (js_ret je_bl)
      jss_nil) jss_nil)
      jss_nil))))
      (jss_cons (js_set (i := 7) nd22.nd rfl (by first | exact .inl rfl | exact .inr rfl) (je_lst (ja_cons (je_bin .mul (je_var (pv 3)) je_int) (ja_cons (je_bltT .list (fun _ _ => rfl) cb_list (by rfl) FX.z_list bt_list (ja_cons (je_var (pv 2)) ja_nil)) (ja_cons (je_bin .add (je_var (pv 2)) (je_tup (ja_cons je_str ja_nil))) (ja_cons (je_bin .add (je_var (pv 2)) (je_tup (ja_cons je_int ja_nil))) (ja_cons (je_tup (ja_cons (je_var (pv 1)) ja_nil)) (ja_cons je_str (ja_cons (je_idx hu (je_var (pv 1)) je_int (fun _ _ => rfl)) (ja_cons je_non (ja_cons (je_rev (je_var (pv 2))) (ja_cons je_dct0 ja_nil))))))))))))
      (jss_cons (js_for own_fn rfl (ji_rng1 (by rfl) FX.z_range je_int) (jg_nm (pg_name (i := 8) nd22.nd rfl (by first | exact .inl rfl | exact .inr rfl)))
      (jss_cons (js_set (i := 7) nd22.nd rfl (by first | exact .inl rfl | exact .inr rfl) (je_bin .add (je_var (pv 7)) (je_lst (ja_cons (je_call lnk_fn 17 (L.ok 17 _ rfl) hr hG (by rfl) FX.g__law_bent FX.k__law_bent (ja_cons (je_var (pv 0)) (ja_cons (je_var (pv 2)) (ja_cons je_int ja_nil)))) (ja_cons (je_call lnk_fn 16 (L.ok 16 _ rfl) hr hG (by rfl) FX.g__law_odd FX.k__law_odd (ja_cons (je_var (pv 0)) ja_nil)) ja_nil)))))
      jss_nil))
      (jss_cons (js_ret (je_cmp .eq hu (je_lc (own := [("value", 11)]) rfl nd22.nd (ji_seq (je_var (pv 7))) (blkOk_by zok13) (by decide) (fun _ _ _ _ _ => (jg_nm (pg_name (i := 11) nd22.nd rfl (by first | exact .inl rfl | exact .inr rfl)))) (fun _ _ _ _ _ => (jts_one (jt_cmp .ne hu (je_bltB .repr (fun _ _ => rfl) (cb_repr hG hu1) (by rfl) FX.z_repr bt_repr (ja_cons (je_call lnk0 8 (L.ok 8 _ rfl) hr hG (by rfl) FX.g_is_word FX.k_is_word (ja_cons (je_var (pv 1)) (ja_cons (je_var (pv 11)) ja_nil))) ja_nil)) (je_bltB .repr (fun _ _ => rfl) (cb_repr hG hu1) (by rfl) FX.z_repr bt_repr (ja_cons (je_call lnk0 15 (L.ok 15 _ rfl) hr hG (by rfl) FX.g__law_is_word FX.k__law_is_word (ja_cons (je_var (pv 1)) (ja_cons (je_var (pv 11)) ja_nil))) ja_nil)) (nomark _)))) (fun _ _ _ _ _ => (je_var (pv 11))) (fun _ => rfl)) (je_lst ja_nil) (nomark _)))
      jss_nil))))))
theorem B23 (FX : Fx P w K mg base a0 a1 a2 a3 a4 a5 a6 a7 a8 a9 a10 a11 a12 a13 a14 a15 a16 a17 a18 a19 a20 a21 a22 a23 x_NetError x_InvalidAlphabet x_InvalidWord) (L : Lev P w K (cs_ x_NetError x_InvalidAlphabet x_InvalidWord) mg base [a0, a1, a2, a3, a4, a5, a6, a7, a8, a9, a10, a11, a12, a13, a14, a15, a16, a17, a18, a19, a20, a21, a22, a23] prog wf k) : BodyJ P w K (cs_ x_NetError x_InvalidAlphabet x_InvalidWord) mg base k a23 "law" N23 st23 (Ln.execs (Ln.callI prog wf k) wf b_law) := by
  intro cdv A outer s H E hG hr2 hck
  have hr := hr2.mono (show 3 * k ≤ 3 * k + 2 by omega)
  have hu : (A.deeper (envOfC "law" (defScope st23) s.heap.objs.size a23 cdv)).units + 65 < cLine := by have := hr.un; omega
  have hu1 : (A.deeper (envOfC "law" (defScope st23) s.heap.objs.size a23 cdv)).units + 64 < cLine := by omega
  obtain ⟨t_LETTERS, h_LETTERS⟩ := FX.c_LETTERS
  obtain ⟨t_MAX_ACTIONS, h_MAX_ACTIONS⟩ := FX.c_MAX_ACTIONS
  obtain ⟨t_MAX_LETTERS, h_MAX_LETTERS⟩ := FX.c_MAX_LETTERS
  obtain ⟨t_MAX_WORD, h_MAX_WORD⟩ := FX.c_MAX_WORD
  exact (jss_cons (js_if (jt_cmp .ne hu (je_lst (ja_cons (je_cst (pe_glob (v := .int 5) (by rfl) h_MAX_ACTIONS ⟨_, rfl⟩) fun _ _ => .int _) (ja_cons (je_cst (pe_glob (v := .int 200) (by rfl) h_MAX_WORD ⟨_, rfl⟩) fun _ _ => .int _) ja_nil))) (je_lst (ja_cons je_int (ja_cons je_int ja_nil))) (nomark _))
      (jss_cons (js_ret je_bl)
      jss_nil) jss_nil)
      (jss_cons (js_for own_fn rfl (ji_rng1 (by rfl) FX.z_range (je_bltB .max (fun _ _ => rfl) (cb_max rfl) (by rfl) FX.z_max bt_max (ja_cons je_int (ja_cons (je_bltB .min (fun _ _ => rfl) (cb_min rfl) (by rfl) FX.z_min bt_min (ja_cons je_int (ja_cons (je_bltB .len (fun _ _ => rfl) cb_len (by rfl) FX.z_len bt_len (ja_cons (je_var (pv 0)) ja_nil)) ja_nil))) ja_nil)))) (jg_nm (pg_name (i := 1) nd23.nd rfl (by first | exact .inl rfl | exact .inr rfl)))
      (jss_cons (js_set (i := 2) nd23.nd rfl (by first | exact .inl rfl | exact .inr rfl) (je_call lnk_fn 10 (L.ok 10 _ rfl) hr hG (by rfl) FX.g__law_stream FX.k__law_stream (ja_cons (je_var (pv 0)) (ja_cons (je_var (pv 1)) ja_nil))))
      (jss_cons (js_set (i := 3) nd23.nd rfl (by first | exact .inl rfl | exact .inr rfl) (je_call lnk_fn 20 (L.ok 20 _ rfl) hr hG (by rfl) FX.g__law_actions FX.k__law_actions (ja_cons (je_var (pv 2)) ja_nil)))
      (jss_cons (js_if (jt_w (jw_or (jt_not (jt_truth (je_call lnk_fn 21 (L.ok 21 _ rfl) hr hG (by rfl) FX.g__law_alphabet_right FX.k__law_alphabet_right (ja_cons (je_var (pv 2)) (ja_cons (je_var (pv 3)) ja_nil))) fun _ => rfl)) (jw_or1 (jt_not (jt_truth (je_call lnk_fn 22 (L.ok 22 _ rfl) hr hG (by rfl) FX.g__law_words_right FX.k__law_words_right (ja_cons (je_var (pv 2)) (ja_cons (je_bltT .tuple (fun _ _ => rfl) cb_tuple (by rfl) FX.z_tuple bt_tuple (ja_cons (je_bltB .sortS (fun _ _ => rfl) cb_sorted (by rfl) FX.z_sorted bt_sorted (ja_cons (je_var (pv 3)) ja_nil)) ja_nil)) ja_nil))) fun _ => rfl)))))
      (jss_cons (js_ret je_bl)
      jss_nil) jss_nil)
      jss_nil))))
      (jss_cons (js_if (jt_w (jw_or (jt_cmp .ne hu (je_call lnk_fn 6 (L.ok 6 _ rfl) hr hG (by rfl) FX.g_make_alphabet FX.k_make_alphabet (ja_cons je_str (ja_cons je_str (ja_cons je_str ja_nil)))) (je_tup (ja_cons je_str (ja_cons je_str (ja_cons je_str ja_nil)))) (nomark _)) (jw_or1 (jt_cmp .ne hu (je_call lnk_fn 9 (L.ok 9 _ rfl) hr hG (by rfl) FX.g_counts_of FX.k_counts_of (ja_cons (je_tup (ja_cons je_str (ja_cons je_str ja_nil))) (ja_cons (je_tup ja_nil) ja_nil))) (je_tup (ja_cons je_int (ja_cons je_int ja_nil))) (nomark _)))))
      (jss_cons (js_ret je_bl)
      jss_nil) jss_nil)
      (jss_cons (js_set (i := 4) nd23.nd rfl (by first | exact .inl rfl | exact .inr rfl) (je_lst (ja_cons (je_call lnk_fn 1 (L.ok 1 _ rfl) hr hG (by rfl) FX.g_is_alphabet FX.k_is_alphabet (ja_cons (je_tup (ja_cons je_str (ja_cons je_str (ja_cons je_str (ja_cons je_str (ja_cons je_str ja_nil)))))) ja_nil)) (ja_cons (je_call lnk_fn 1 (L.ok 1 _ rfl) hr hG (by rfl) FX.g_is_alphabet FX.k_is_alphabet (ja_cons (je_tup (ja_cons je_str ja_nil)) ja_nil)) (ja_cons (je_call lnk_fn 1 (L.ok 1 _ rfl) hr hG (by rfl) FX.g_is_alphabet FX.k_is_alphabet (ja_cons (je_tup (ja_cons je_str ja_nil)) ja_nil)) ja_nil)))))
      (jss_cons (js_ret (je_and (je_cmp .eq hu (je_var (pv 4)) (je_lst (ja_cons je_bl (ja_cons je_bl (ja_cons je_bl ja_nil)))) (nomark _)) (je_one (je_cmp .eq hu (je_call lnk_fn 6 (L.ok 6 _ rfl) hr hG (by rfl) FX.g_make_alphabet FX.k_make_alphabet (ja_cons je_str (ja_cons je_str (ja_cons je_str ja_nil)))) (je_tup (ja_cons je_str ja_nil)) (nomark _)))))
      jss_nil)))))
theorem lev (FX : Fx P w K mg base a0 a1 a2 a3 a4 a5 a6 a7 a8 a9 a10 a11 a12 a13 a14 a15 a16 a17 a18 a19 a20 a21 a22 a23 x_NetError x_InvalidAlphabet x_InvalidWord) : ∀ k, Lev P w K (cs_ x_NetError x_InvalidAlphabet x_InvalidWord) mg base [a0, a1, a2, a3, a4, a5, a6, a7, a8, a9, a10, a11, a12, a13, a14, a15, a16, a17, a18, a19, a20, a21, a22, a23] prog wf k
  | 0 => ⟨fun i f h A outer s H us vs Q E hr hG e0 r ⟨α, S, ds, rs, rds, p⟩ => p.elim⟩
  | k + 1 => by
    have L := lev FX k
    refine ⟨fun i f h => ?_⟩
    match i, h with
    | 0, rfl => obtain ⟨fd, F⟩ := FX.f_is_action; exact fnG_plain F nd0 rfl rfl rfl rfl (fun _ _ _ _ _ _ us hl => match us, hl with | [_], _ => rfl) (B0 FX L)
    | 1, rfl => obtain ⟨fd, F⟩ := FX.f_is_alphabet; exact fnG_plain F nd1 rfl rfl rfl rfl (fun _ _ _ _ _ _ us hl => match us, hl with | [_], _ => rfl) (B1 FX L)
    | 2, rfl => obtain ⟨fd, F⟩ := FX.f_is_word_of; exact fnG_plain F nd2 rfl rfl rfl rfl (fun _ _ _ _ _ _ us hl => match us, hl with | [_, _], _ => rfl) (B2 FX L)
    | 3, rfl => obtain ⟨fd, F⟩ := FX.f_counts_in; exact fnG_plain F nd3 rfl rfl rfl rfl (fun _ _ _ _ _ _ us hl => match us, hl with | [_, _], _ => rfl) (B3 FX L)
    | 4, rfl => obtain ⟨fd, F⟩ := FX.f_require_alphabet; exact fnG_plain F nd4 rfl rfl rfl rfl (fun _ _ _ _ _ _ us hl => match us, hl with | [_], _ => rfl) (B4 FX L)
    | 5, rfl => obtain ⟨fd, F⟩ := FX.f_require_word; exact fnG_plain F nd5 rfl rfl rfl rfl (fun _ _ _ _ _ _ us hl => match us, hl with | [_, _], _ => rfl) (B5 FX L)
    | 6, rfl => obtain ⟨fd, F⟩ := FX.f_make_alphabet; exact fnG_star (ps := []) (pv := "actions") F nd6 rfl rfl rfl rfl (fun _ _ _ _ _ _ us rest hl => match us, rest, hl with | [], [], _ => rfl | [], _ :: _, _ => rfl) (B6 FX L)
    | 7, rfl => obtain ⟨fd, F⟩ := FX.f_alphabet_from; exact fnG_plain F nd7 rfl rfl rfl rfl (fun _ _ _ _ _ _ us hl => match us, hl with | [_], _ => rfl) (B7 FX L)
    | 8, rfl => obtain ⟨fd, F⟩ := FX.f_is_word; exact fnG_plain F nd8 rfl rfl rfl rfl (fun _ _ _ _ _ _ us hl => match us, hl with | [_, _], _ => rfl) (B8 FX L)
    | 9, rfl => obtain ⟨fd, F⟩ := FX.f_counts_of; exact fnG_plain F nd9 rfl rfl rfl rfl (fun _ _ _ _ _ _ us hl => match us, hl with | [_, _], _ => rfl) (B9 FX L)
    | 10, rfl => obtain ⟨fd, F⟩ := FX.f__law_stream; exact fnG_plain F nd10 rfl rfl rfl rfl (fun _ _ _ _ _ _ us hl => match us, hl with | [_, _], _ => rfl) (B10 FX L)
    | 11, rfl => obtain ⟨fd, F⟩ := FX.f__law_draw; exact fnG_plain F nd11 rfl rfl rfl rfl (fun _ _ _ _ _ _ us hl => match us, hl with | [_, _], _ => rfl) (B11 FX L)
    | 12, rfl => obtain ⟨fd, F⟩ := FX.f__law_pick; exact fnG_plain F nd12 rfl rfl rfl rfl (fun _ _ _ _ _ _ us hl => match us, hl with | [_, _], _ => rfl) (B12 FX L)
    | 13, rfl => obtain ⟨fd, F⟩ := FX.f__law_mixed; exact fnG_plain F nd13 rfl rfl rfl rfl (fun _ _ _ _ _ _ us hl => match us, hl with | [_, _], _ => rfl) (B13 FX L)
    | 14, rfl => obtain ⟨fd, F⟩ := FX.f__law_word; exact fnG_plain F nd14 rfl rfl rfl rfl (fun _ _ _ _ _ _ us hl => match us, hl with | [_, _, _], _ => rfl) (B14 FX L)
    | 15, rfl => obtain ⟨fd, F⟩ := FX.f__law_is_word; exact fnG_plain F nd15 rfl rfl rfl rfl (fun _ _ _ _ _ _ us hl => match us, hl with | [_, _], _ => rfl) (B15 FX L)
    | 16, rfl => obtain ⟨fd, F⟩ := FX.f__law_odd; exact fnG_plain F nd16 rfl rfl rfl rfl (fun _ _ _ _ _ _ us hl => match us, hl with | [_], _ => rfl) (B16 FX L)
    | 17, rfl => obtain ⟨fd, F⟩ := FX.f__law_bent; exact fnG_plain F nd17 rfl rfl rfl rfl (fun _ _ _ _ _ _ us hl => match us, hl with | [_, _, _], _ => rfl) (B17 FX L)
    | 18, rfl => obtain ⟨fd, F⟩ := FX.f__law_is_action; exact fnG_plain F nd18 rfl rfl rfl rfl (fun _ _ _ _ _ _ us hl => match us, hl with | [_], _ => rfl) (B18 FX L)
    | 19, rfl => obtain ⟨fd, F⟩ := FX.f__law_is_alphabet; exact fnG_plain F nd19 rfl rfl rfl rfl (fun _ _ _ _ _ _ us hl => match us, hl with | [_], _ => rfl) (B19 FX L)
    | 20, rfl => obtain ⟨fd, F⟩ := FX.f__law_actions; exact fnG_plain F nd20 rfl rfl rfl rfl (fun _ _ _ _ _ _ us hl => match us, hl with | [_], _ => rfl) (B20 FX L)
    | 21, rfl => obtain ⟨fd, F⟩ := FX.f__law_alphabet_right; exact fnG_plain F nd21 rfl rfl rfl rfl (fun _ _ _ _ _ _ us hl => match us, hl with | [_, _], _ => rfl) (B21 FX L)
    | 22, rfl => obtain ⟨fd, F⟩ := FX.f__law_words_right; exact fnG_plain F nd22 rfl rfl rfl rfl (fun _ _ _ _ _ _ us hl => match us, hl with | [_, _], _ => rfl) (B22 FX L)
    | 23, rfl => obtain ⟨fd, F⟩ := FX.f_law; exact fnG_plain F nd23 rfl rfl rfl rfl (fun _ _ _ _ _ _ us hl => match us, hl with | [_], _ => rfl) (B23 FX L)
    | _ + 24, h => exact nomatch h
end

theorem fx_mk {T_ : Tbs} {K : Frag} {h : Heap} {mg : Str → Option Value} (X : K.In h) (G : h.Ns mainGlobals mg) {a0 a1 a2 a3 a4 a5 a6 a7 a8 a9 a10 a11 a12 a13 a14 a15 a16 a17 a18 a19 a20 a21 a22 a23 x_NetError x_InvalidAlphabet x_InvalidWord : Addr}
    {od0 an0 od1 an1 od2 an2 od3 an3 od4 an4 od5 an5 od6 an6 od7 an7 od8 an8 od9 an9 od10 an10 od11 an11 od12 an12 od13 an13 od14 an14 od15 an15 od16 an16 od17 an17 od18 an18 od19 an19 od20 an20 od21 an21 od22 an22 od23 an23 : Option Addr} {sl0 sl1 sl2 sl3 sl4 sl5 sl6 sl7 sl8 sl9 sl10 sl11 sl12 sl13 sl14 sl15 sl16 sl17 sl18 sl19 sl20 sl21 sl22 sl23 : Array (Option Value)} {oc0 kV0 dc0 pm0 cd0 ct0 oc1 kV1 dc1 pm1 cd1 ct1 oc2 kV2 dc2 pm2 cd2 ct2 oc3 kV3 dc3 pm3 cd3 ct3 oc4 kV4 dc4 pm4 cd4 ct4 oc5 kV5 dc5 pm5 cd5 ct5 oc6 kV6 dc6 pm6 cd6 ct6 oc7 kV7 dc7 pm7 cd7 ct7 oc8 kV8 dc8 pm8 cd8 ct8 oc9 kV9 dc9 pm9 cd9 ct9 oc10 kV10 dc10 pm10 cd10 ct10 oc11 kV11 dc11 pm11 cd11 ct11 oc12 kV12 dc12 pm12 cd12 ct12 oc13 kV13 dc13 pm13 cd13 ct13 oc14 kV14 dc14 pm14 cd14 ct14 oc15 kV15 dc15 pm15 cd15 ct15 oc16 kV16 dc16 pm16 cd16 ct16 oc17 kV17 dc17 pm17 cd17 ct17 oc18 kV18 dc18 pm18 cd18 ct18 oc19 kV19 dc19 pm19 cd19 ct19 oc20 kV20 dc20 pm20 cd20 ct20 oc21 kV21 dc21 pm21 cd21 ct21 oc22 kV22 dc22 pm22 cd22 ct22 oc23 kV23 dc23 pm23 cd23 ct23 : Value} {t0 t1 t2 t3 : Tok}
    (g0 : PySem.W.nsIn K mainGlobals "is_action" = some (some (.ref a0))) (l0 : K.lookup a0 = some ⟨oc0, od0, .func (PySem.W.fnOf "is_action" "is_action" (defArgs st0) (defBody st0) (defScope st0) .none kV0 dc0 pm0 an0 cd0 ct0), sl0⟩) (c0 : PySem.W.codeIn K cd0 "is_action" = true) (k0 : PySem.W.keepIn K (.ref a0) = true)
    (g1 : PySem.W.nsIn K mainGlobals "is_alphabet" = some (some (.ref a1))) (l1 : K.lookup a1 = some ⟨oc1, od1, .func (PySem.W.fnOf "is_alphabet" "is_alphabet" (defArgs st1) (defBody st1) (defScope st1) .none kV1 dc1 pm1 an1 cd1 ct1), sl1⟩) (c1 : PySem.W.codeIn K cd1 "is_alphabet" = true) (k1 : PySem.W.keepIn K (.ref a1) = true)
    (g2 : PySem.W.nsIn K mainGlobals "is_word_of" = some (some (.ref a2))) (l2 : K.lookup a2 = some ⟨oc2, od2, .func (PySem.W.fnOf "is_word_of" "is_word_of" (defArgs st2) (defBody st2) (defScope st2) .none kV2 dc2 pm2 an2 cd2 ct2), sl2⟩) (c2 : PySem.W.codeIn K cd2 "is_word_of" = true) (k2 : PySem.W.keepIn K (.ref a2) = true)
    (g3 : PySem.W.nsIn K mainGlobals "counts_in" = some (some (.ref a3))) (l3 : K.lookup a3 = some ⟨oc3, od3, .func (PySem.W.fnOf "counts_in" "counts_in" (defArgs st3) (defBody st3) (defScope st3) .none kV3 dc3 pm3 an3 cd3 ct3), sl3⟩) (c3 : PySem.W.codeIn K cd3 "counts_in" = true) (k3 : PySem.W.keepIn K (.ref a3) = true)
    (g4 : PySem.W.nsIn K mainGlobals "require_alphabet" = some (some (.ref a4))) (l4 : K.lookup a4 = some ⟨oc4, od4, .func (PySem.W.fnOf "require_alphabet" "require_alphabet" (defArgs st4) (defBody st4) (defScope st4) .none kV4 dc4 pm4 an4 cd4 ct4), sl4⟩) (c4 : PySem.W.codeIn K cd4 "require_alphabet" = true) (k4 : PySem.W.keepIn K (.ref a4) = true)
    (g5 : PySem.W.nsIn K mainGlobals "require_word" = some (some (.ref a5))) (l5 : K.lookup a5 = some ⟨oc5, od5, .func (PySem.W.fnOf "require_word" "require_word" (defArgs st5) (defBody st5) (defScope st5) .none kV5 dc5 pm5 an5 cd5 ct5), sl5⟩) (c5 : PySem.W.codeIn K cd5 "require_word" = true) (k5 : PySem.W.keepIn K (.ref a5) = true)
    (g6 : PySem.W.nsIn K mainGlobals "make_alphabet" = some (some (.ref a6))) (l6 : K.lookup a6 = some ⟨oc6, od6, .func (PySem.W.fnOf "make_alphabet" "make_alphabet" (defArgs st6) (defBody st6) (defScope st6) .none kV6 dc6 pm6 an6 cd6 ct6), sl6⟩) (c6 : PySem.W.codeIn K cd6 "make_alphabet" = true) (k6 : PySem.W.keepIn K (.ref a6) = true)
    (g7 : PySem.W.nsIn K mainGlobals "alphabet_from" = some (some (.ref a7))) (l7 : K.lookup a7 = some ⟨oc7, od7, .func (PySem.W.fnOf "alphabet_from" "alphabet_from" (defArgs st7) (defBody st7) (defScope st7) .none kV7 dc7 pm7 an7 cd7 ct7), sl7⟩) (c7 : PySem.W.codeIn K cd7 "alphabet_from" = true) (k7 : PySem.W.keepIn K (.ref a7) = true)
    (g8 : PySem.W.nsIn K mainGlobals "is_word" = some (some (.ref a8))) (l8 : K.lookup a8 = some ⟨oc8, od8, .func (PySem.W.fnOf "is_word" "is_word" (defArgs st8) (defBody st8) (defScope st8) .none kV8 dc8 pm8 an8 cd8 ct8), sl8⟩) (c8 : PySem.W.codeIn K cd8 "is_word" = true) (k8 : PySem.W.keepIn K (.ref a8) = true)
    (g9 : PySem.W.nsIn K mainGlobals "counts_of" = some (some (.ref a9))) (l9 : K.lookup a9 = some ⟨oc9, od9, .func (PySem.W.fnOf "counts_of" "counts_of" (defArgs st9) (defBody st9) (defScope st9) .none kV9 dc9 pm9 an9 cd9 ct9), sl9⟩) (c9 : PySem.W.codeIn K cd9 "counts_of" = true) (k9 : PySem.W.keepIn K (.ref a9) = true)
    (g10 : PySem.W.nsIn K mainGlobals "_law_stream" = some (some (.ref a10))) (l10 : K.lookup a10 = some ⟨oc10, od10, .func (PySem.W.fnOf "_law_stream" "_law_stream" (defArgs st10) (defBody st10) (defScope st10) .none kV10 dc10 pm10 an10 cd10 ct10), sl10⟩) (c10 : PySem.W.codeIn K cd10 "_law_stream" = true) (k10 : PySem.W.keepIn K (.ref a10) = true)
    (g11 : PySem.W.nsIn K mainGlobals "_law_draw" = some (some (.ref a11))) (l11 : K.lookup a11 = some ⟨oc11, od11, .func (PySem.W.fnOf "_law_draw" "_law_draw" (defArgs st11) (defBody st11) (defScope st11) .none kV11 dc11 pm11 an11 cd11 ct11), sl11⟩) (c11 : PySem.W.codeIn K cd11 "_law_draw" = true) (k11 : PySem.W.keepIn K (.ref a11) = true)
    (g12 : PySem.W.nsIn K mainGlobals "_law_pick" = some (some (.ref a12))) (l12 : K.lookup a12 = some ⟨oc12, od12, .func (PySem.W.fnOf "_law_pick" "_law_pick" (defArgs st12) (defBody st12) (defScope st12) .none kV12 dc12 pm12 an12 cd12 ct12), sl12⟩) (c12 : PySem.W.codeIn K cd12 "_law_pick" = true) (k12 : PySem.W.keepIn K (.ref a12) = true)
    (g13 : PySem.W.nsIn K mainGlobals "_law_mixed" = some (some (.ref a13))) (l13 : K.lookup a13 = some ⟨oc13, od13, .func (PySem.W.fnOf "_law_mixed" "_law_mixed" (defArgs st13) (defBody st13) (defScope st13) .none kV13 dc13 pm13 an13 cd13 ct13), sl13⟩) (c13 : PySem.W.codeIn K cd13 "_law_mixed" = true) (k13 : PySem.W.keepIn K (.ref a13) = true)
    (g14 : PySem.W.nsIn K mainGlobals "_law_word" = some (some (.ref a14))) (l14 : K.lookup a14 = some ⟨oc14, od14, .func (PySem.W.fnOf "_law_word" "_law_word" (defArgs st14) (defBody st14) (defScope st14) .none kV14 dc14 pm14 an14 cd14 ct14), sl14⟩) (c14 : PySem.W.codeIn K cd14 "_law_word" = true) (k14 : PySem.W.keepIn K (.ref a14) = true)
    (g15 : PySem.W.nsIn K mainGlobals "_law_is_word" = some (some (.ref a15))) (l15 : K.lookup a15 = some ⟨oc15, od15, .func (PySem.W.fnOf "_law_is_word" "_law_is_word" (defArgs st15) (defBody st15) (defScope st15) .none kV15 dc15 pm15 an15 cd15 ct15), sl15⟩) (c15 : PySem.W.codeIn K cd15 "_law_is_word" = true) (k15 : PySem.W.keepIn K (.ref a15) = true)
    (g16 : PySem.W.nsIn K mainGlobals "_law_odd" = some (some (.ref a16))) (l16 : K.lookup a16 = some ⟨oc16, od16, .func (PySem.W.fnOf "_law_odd" "_law_odd" (defArgs st16) (defBody st16) (defScope st16) .none kV16 dc16 pm16 an16 cd16 ct16), sl16⟩) (c16 : PySem.W.codeIn K cd16 "_law_odd" = true) (k16 : PySem.W.keepIn K (.ref a16) = true)
    (g17 : PySem.W.nsIn K mainGlobals "_law_bent" = some (some (.ref a17))) (l17 : K.lookup a17 = some ⟨oc17, od17, .func (PySem.W.fnOf "_law_bent" "_law_bent" (defArgs st17) (defBody st17) (defScope st17) .none kV17 dc17 pm17 an17 cd17 ct17), sl17⟩) (c17 : PySem.W.codeIn K cd17 "_law_bent" = true) (k17 : PySem.W.keepIn K (.ref a17) = true)
    (g18 : PySem.W.nsIn K mainGlobals "_law_is_action" = some (some (.ref a18))) (l18 : K.lookup a18 = some ⟨oc18, od18, .func (PySem.W.fnOf "_law_is_action" "_law_is_action" (defArgs st18) (defBody st18) (defScope st18) .none kV18 dc18 pm18 an18 cd18 ct18), sl18⟩) (c18 : PySem.W.codeIn K cd18 "_law_is_action" = true) (k18 : PySem.W.keepIn K (.ref a18) = true)
    (g19 : PySem.W.nsIn K mainGlobals "_law_is_alphabet" = some (some (.ref a19))) (l19 : K.lookup a19 = some ⟨oc19, od19, .func (PySem.W.fnOf "_law_is_alphabet" "_law_is_alphabet" (defArgs st19) (defBody st19) (defScope st19) .none kV19 dc19 pm19 an19 cd19 ct19), sl19⟩) (c19 : PySem.W.codeIn K cd19 "_law_is_alphabet" = true) (k19 : PySem.W.keepIn K (.ref a19) = true)
    (g20 : PySem.W.nsIn K mainGlobals "_law_actions" = some (some (.ref a20))) (l20 : K.lookup a20 = some ⟨oc20, od20, .func (PySem.W.fnOf "_law_actions" "_law_actions" (defArgs st20) (defBody st20) (defScope st20) .none kV20 dc20 pm20 an20 cd20 ct20), sl20⟩) (c20 : PySem.W.codeIn K cd20 "_law_actions" = true) (k20 : PySem.W.keepIn K (.ref a20) = true)
    (g21 : PySem.W.nsIn K mainGlobals "_law_alphabet_right" = some (some (.ref a21))) (l21 : K.lookup a21 = some ⟨oc21, od21, .func (PySem.W.fnOf "_law_alphabet_right" "_law_alphabet_right" (defArgs st21) (defBody st21) (defScope st21) .none kV21 dc21 pm21 an21 cd21 ct21), sl21⟩) (c21 : PySem.W.codeIn K cd21 "_law_alphabet_right" = true) (k21 : PySem.W.keepIn K (.ref a21) = true)
    (g22 : PySem.W.nsIn K mainGlobals "_law_words_right" = some (some (.ref a22))) (l22 : K.lookup a22 = some ⟨oc22, od22, .func (PySem.W.fnOf "_law_words_right" "_law_words_right" (defArgs st22) (defBody st22) (defScope st22) .none kV22 dc22 pm22 an22 cd22 ct22), sl22⟩) (c22 : PySem.W.codeIn K cd22 "_law_words_right" = true) (k22 : PySem.W.keepIn K (.ref a22) = true)
    (g23 : PySem.W.nsIn K mainGlobals "law" = some (some (.ref a23))) (l23 : K.lookup a23 = some ⟨oc23, od23, .func (PySem.W.fnOf "law" "law" (defArgs st23) (defBody st23) (defScope st23) .none kV23 dc23 pm23 an23 cd23 ct23), sl23⟩) (c23 : PySem.W.codeIn K cd23 "law" = true) (k23 : PySem.W.keepIn K (.ref a23) = true)
    (z0 : PySem.W.nsIn K mainGlobals "abs" = some none)
    (z1 : PySem.W.nsIn K mainGlobals "all" = some none)
    (z2 : PySem.W.nsIn K mainGlobals "bool" = some none)
    (z3 : PySem.W.nsIn K mainGlobals "int" = some none)
    (z4 : PySem.W.nsIn K mainGlobals "isinstance" = some none)
    (z5 : PySem.W.nsIn K mainGlobals "len" = some none)
    (z6 : PySem.W.nsIn K mainGlobals "list" = some none)
    (z7 : PySem.W.nsIn K mainGlobals "max" = some none)
    (z8 : PySem.W.nsIn K mainGlobals "min" = some none)
    (z9 : PySem.W.nsIn K mainGlobals "range" = some none)
    (z10 : PySem.W.nsIn K mainGlobals "repr" = some none)
    (z11 : PySem.W.nsIn K mainGlobals "set" = some none)
    (z12 : PySem.W.nsIn K mainGlobals "sorted" = some none)
    (z13 : PySem.W.nsIn K mainGlobals "str" = some none)
    (z14 : PySem.W.nsIn K mainGlobals "sum" = some none)
    (z15 : PySem.W.nsIn K mainGlobals "tuple" = some none)
    (z16 : PySem.W.nsIn K mainGlobals "zip" = some none)
    (v0 : PySem.W.nsIn K mainGlobals "LETTERS" = some (some (.str "abcdefghijklmnopqrstuvwxyz" t0)))
    (v1 : PySem.W.nsIn K mainGlobals "MAX_ACTIONS" = some (some (.int 5 t1)))
    (v2 : PySem.W.nsIn K mainGlobals "MAX_LETTERS" = some (some (.int 8 t2)))
    (v3 : PySem.W.nsIn K mainGlobals "MAX_WORD" = some (some (.int 200 t3)))
    (gc_NetError : PySem.W.nsIn K mainGlobals "NetError" = some (some (.ref x_NetError)))
    (kc_NetError : PySem.W.keepIn K (.ref x_NetError) = true)
    (xs_NetError : PySem.W.subIn K (.ref x_NetError) (.type "BaseException") = some true)
    (xt_NetError : PySem.W.typeIn K (.ref x_NetError) = some (.type "type"))
    (q_NetError : PySem.W.excIn K x_NetError [.type "ValueError", .type "Exception", .type "BaseException", .type "object"] "ValueError.__new__" = true)
    (ea_NetError : PySem.W.findIn K (.ref x_NetError) "__getattribute__" = some (some (.builtin "BaseException.__getattribute__")))
    (eb_NetError : PySem.W.findIn K (.ref x_NetError) "__getattr__" = some none)
    (ed_NetError : PySem.W.hasDictIn K x_NetError = true)
    (ee_NetError : PySem.W.findIn K (.ref x_NetError) "__class__" = some (some (.builtin "object.__class__")))
    (eh_NetError : PySem.W.mroIn K x_NetError (.type "object") = some true)
    (gc_InvalidAlphabet : PySem.W.nsIn K mainGlobals "InvalidAlphabet" = some (some (.ref x_InvalidAlphabet)))
    (kc_InvalidAlphabet : PySem.W.keepIn K (.ref x_InvalidAlphabet) = true)
    (xs_InvalidAlphabet : PySem.W.subIn K (.ref x_InvalidAlphabet) (.type "BaseException") = some true)
    (xt_InvalidAlphabet : PySem.W.typeIn K (.ref x_InvalidAlphabet) = some (.type "type"))
    (q_InvalidAlphabet : PySem.W.excIn K x_InvalidAlphabet [.type "ValueError", .type "Exception", .type "BaseException", .type "object"] "ValueError.__new__" = true)
    (ea_InvalidAlphabet : PySem.W.findIn K (.ref x_InvalidAlphabet) "__getattribute__" = some (some (.builtin "BaseException.__getattribute__")))
    (eb_InvalidAlphabet : PySem.W.findIn K (.ref x_InvalidAlphabet) "__getattr__" = some none)
    (ed_InvalidAlphabet : PySem.W.hasDictIn K x_InvalidAlphabet = true)
    (ee_InvalidAlphabet : PySem.W.findIn K (.ref x_InvalidAlphabet) "__class__" = some (some (.builtin "object.__class__")))
    (eh_InvalidAlphabet : PySem.W.mroIn K x_InvalidAlphabet (.type "object") = some true)
    (gc_InvalidWord : PySem.W.nsIn K mainGlobals "InvalidWord" = some (some (.ref x_InvalidWord)))
    (kc_InvalidWord : PySem.W.keepIn K (.ref x_InvalidWord) = true)
    (xs_InvalidWord : PySem.W.subIn K (.ref x_InvalidWord) (.type "BaseException") = some true)
    (xt_InvalidWord : PySem.W.typeIn K (.ref x_InvalidWord) = some (.type "type"))
    (q_InvalidWord : PySem.W.excIn K x_InvalidWord [.type "ValueError", .type "Exception", .type "BaseException", .type "object"] "ValueError.__new__" = true)
    (ea_InvalidWord : PySem.W.findIn K (.ref x_InvalidWord) "__getattribute__" = some (some (.builtin "BaseException.__getattribute__")))
    (eb_InvalidWord : PySem.W.findIn K (.ref x_InvalidWord) "__getattr__" = some none)
    (ed_InvalidWord : PySem.W.hasDictIn K x_InvalidWord = true)
    (ee_InvalidWord : PySem.W.findIn K (.ref x_InvalidWord) "__class__" = some (some (.builtin "object.__class__")))
    (eh_InvalidWord : PySem.W.mroIn K x_InvalidWord (.type "object") = some true)
    (exn_ : PySem.W.specialIn K (.builtin "object.__class__") "__get__" = some (some (.builtin "getset_descriptor.__get__"))) (ext_ : PySem.W.takesIn K (.builtin "object.__class__") = some true)
    {P : Program} {w : World} {fa : Addr} (hfa : mg "law" = some (.ref fa)) : ∀ base : Heap, K.In base → base.Ns mainGlobals mg → (∀ t ∈ ([] : List Tb), LamX.TabB base mg t.1 t.2.1) → FnG P w K mg base (L2.CX P w) (3 * 30) fa (spI K (cs_ x_NetError x_InvalidAlphabet x_InvalidWord) (Ln.callI prog 1000000 30 23)) := fun base _ _ tb =>
  fn_at (lev (⟨PySem.W.mg_of X G g0,
    k0,
    ⟨_, fun_mk l0 c0 k0⟩,
    PySem.W.mg_of X G g1,
    k1,
    ⟨_, fun_mk l1 c1 k1⟩,
    PySem.W.mg_of X G g2,
    k2,
    ⟨_, fun_mk l2 c2 k2⟩,
    PySem.W.mg_of X G g3,
    k3,
    ⟨_, fun_mk l3 c3 k3⟩,
    PySem.W.mg_of X G g4,
    k4,
    ⟨_, fun_mk l4 c4 k4⟩,
    PySem.W.mg_of X G g5,
    k5,
    ⟨_, fun_mk l5 c5 k5⟩,
    PySem.W.mg_of X G g6,
    k6,
    ⟨_, fun_mk l6 c6 k6⟩,
    PySem.W.mg_of X G g7,
    k7,
    ⟨_, fun_mk l7 c7 k7⟩,
    PySem.W.mg_of X G g8,
    k8,
    ⟨_, fun_mk l8 c8 k8⟩,
    PySem.W.mg_of X G g9,
    k9,
    ⟨_, fun_mk l9 c9 k9⟩,
    PySem.W.mg_of X G g10,
    k10,
    ⟨_, fun_mk l10 c10 k10⟩,
    PySem.W.mg_of X G g11,
    k11,
    ⟨_, fun_mk l11 c11 k11⟩,
    PySem.W.mg_of X G g12,
    k12,
    ⟨_, fun_mk l12 c12 k12⟩,
    PySem.W.mg_of X G g13,
    k13,
    ⟨_, fun_mk l13 c13 k13⟩,
    PySem.W.mg_of X G g14,
    k14,
    ⟨_, fun_mk l14 c14 k14⟩,
    PySem.W.mg_of X G g15,
    k15,
    ⟨_, fun_mk l15 c15 k15⟩,
    PySem.W.mg_of X G g16,
    k16,
    ⟨_, fun_mk l16 c16 k16⟩,
    PySem.W.mg_of X G g17,
    k17,
    ⟨_, fun_mk l17 c17 k17⟩,
    PySem.W.mg_of X G g18,
    k18,
    ⟨_, fun_mk l18 c18 k18⟩,
    PySem.W.mg_of X G g19,
    k19,
    ⟨_, fun_mk l19 c19 k19⟩,
    PySem.W.mg_of X G g20,
    k20,
    ⟨_, fun_mk l20 c20 k20⟩,
    PySem.W.mg_of X G g21,
    k21,
    ⟨_, fun_mk l21 c21 k21⟩,
    PySem.W.mg_of X G g22,
    k22,
    ⟨_, fun_mk l22 c22 k22⟩,
    PySem.W.mg_of X G g23,
    k23,
    ⟨_, fun_mk l23 c23 k23⟩,
    PySem.W.mg_none_of X G z0,
    PySem.W.mg_none_of X G z1,
    PySem.W.mg_none_of X G z2,
    PySem.W.mg_none_of X G z3,
    PySem.W.mg_none_of X G z4,
    PySem.W.mg_none_of X G z5,
    PySem.W.mg_none_of X G z6,
    PySem.W.mg_none_of X G z7,
    PySem.W.mg_none_of X G z8,
    PySem.W.mg_none_of X G z9,
    PySem.W.mg_none_of X G z10,
    PySem.W.mg_none_of X G z11,
    PySem.W.mg_none_of X G z12,
    PySem.W.mg_none_of X G z13,
    PySem.W.mg_none_of X G z14,
    PySem.W.mg_none_of X G z15,
    PySem.W.mg_none_of X G z16,
    ⟨_, PySem.W.mg_of X G v0⟩,
    ⟨_, PySem.W.mg_of X G v1⟩,
    ⟨_, PySem.W.mg_of X G v2⟩,
    ⟨_, PySem.W.mg_of X G v3⟩,
    PySem.W.mg_of X G gc_NetError,
    kc_NetError,
    xs_NetError,
    xt_NetError,
    q_NetError,
    ⟨ea_NetError, eb_NetError, xs_NetError, ed_NetError, ee_NetError, exn_, ext_, eh_NetError⟩,
    PySem.W.mg_of X G gc_InvalidAlphabet,
    kc_InvalidAlphabet,
    xs_InvalidAlphabet,
    xt_InvalidAlphabet,
    q_InvalidAlphabet,
    ⟨ea_InvalidAlphabet, eb_InvalidAlphabet, xs_InvalidAlphabet, ed_InvalidAlphabet, ee_InvalidAlphabet, exn_, ext_, eh_InvalidAlphabet⟩,
    PySem.W.mg_of X G gc_InvalidWord,
    kc_InvalidWord,
    xs_InvalidWord,
    xt_InvalidWord,
    q_InvalidWord,
    ⟨ea_InvalidWord, eb_InvalidWord, xs_InvalidWord, ed_InvalidWord, ee_InvalidWord, exn_, ext_, eh_InvalidWord⟩⟩ : Fx P w K mg base a0 a1 a2 a3 a4 a5 a6 a7 a8 a9 a10 a11 a12 a13 a14 a15 a16 a17 a18 a19 a20 a21 a22 a23 x_NetError x_InvalidAlphabet x_InvalidWord) 30) (i := 23) rfl hfa (PySem.W.mg_of X G g23)
end K01
open PySem PySem.W PyProof.Rows
set_option maxHeartbeats 0 in
theorem PySem.Challenge.cw_leastnet_k01_alphabets_and_words_holds : PySem.Challenge.rw_leastnet_k01_alphabets_and_words.Holds := by
  w_on; o_law; k_head; (case hw => w_witness2)
  k_fill
  refine LnS.walk_ofG (T := ⟨[]⟩) (l := PySem.Challenge.rw_leastnet_k01_alphabets_and_words) (cs := K01.cs_ ?cx_NetError ?cx_InvalidAlphabet ?cx_InvalidWord) (n := 63) (k := 3 * 30) (g := Ln.callI K01.prog 1000000 30 23) (tabs := []) [] rfl ?TT rfl (by decide) rfl ⟨rfl, by decide, by decide⟩ (by decide +kernel) (fun w h Y => by first | exact PySem.W.kIn_of Y | exact PySem.W.km_in_of Y) ?K1 ?F (fun ns _ _ => K01.pure_law (k := 22) (by decide) ns)
  case TT => exact fun w => trivial
  case K1 => exact fun w => rfl
  case F =>
    intro w mg fa h KX G hmg
    refine' K01.fx_mk KX G ?fx_g0 ?fx_l0 ?fx_c0 ?fx_k0 ?fx_g1 ?fx_l1 ?fx_c1 ?fx_k1 ?fx_g2 ?fx_l2 ?fx_c2 ?fx_k2 ?fx_g3 ?fx_l3 ?fx_c3 ?fx_k3 ?fx_g4 ?fx_l4 ?fx_c4 ?fx_k4 ?fx_g5 ?fx_l5 ?fx_c5 ?fx_k5 ?fx_g6 ?fx_l6 ?fx_c6 ?fx_k6 ?fx_g7 ?fx_l7 ?fx_c7 ?fx_k7 ?fx_g8 ?fx_l8 ?fx_c8 ?fx_k8 ?fx_g9 ?fx_l9 ?fx_c9 ?fx_k9 ?fx_g10 ?fx_l10 ?fx_c10 ?fx_k10 ?fx_g11 ?fx_l11 ?fx_c11 ?fx_k11 ?fx_g12 ?fx_l12 ?fx_c12 ?fx_k12 ?fx_g13 ?fx_l13 ?fx_c13 ?fx_k13 ?fx_g14 ?fx_l14 ?fx_c14 ?fx_k14 ?fx_g15 ?fx_l15 ?fx_c15 ?fx_k15 ?fx_g16 ?fx_l16 ?fx_c16 ?fx_k16 ?fx_g17 ?fx_l17 ?fx_c17 ?fx_k17 ?fx_g18 ?fx_l18 ?fx_c18 ?fx_k18 ?fx_g19 ?fx_l19 ?fx_c19 ?fx_k19 ?fx_g20 ?fx_l20 ?fx_c20 ?fx_k20 ?fx_g21 ?fx_l21 ?fx_c21 ?fx_k21 ?fx_g22 ?fx_l22 ?fx_c22 ?fx_k22 ?fx_g23 ?fx_l23 ?fx_c23 ?fx_k23 ?fx_z0 ?fx_z1 ?fx_z2 ?fx_z3 ?fx_z4 ?fx_z5 ?fx_z6 ?fx_z7 ?fx_z8 ?fx_z9 ?fx_z10 ?fx_z11 ?fx_z12 ?fx_z13 ?fx_z14 ?fx_z15 ?fx_z16 ?fx_v0 ?fx_v1 ?fx_v2 ?fx_v3 ?fx_gc_NetError ?fx_kc_NetError ?fx_xs_NetError ?fx_xt_NetError ?fx_q_NetError ?fx_ea_NetError ?fx_eb_NetError ?fx_ed_NetError ?fx_ee_NetError ?fx_eh_NetError ?fx_gc_InvalidAlphabet ?fx_kc_InvalidAlphabet ?fx_xs_InvalidAlphabet ?fx_xt_InvalidAlphabet ?fx_q_InvalidAlphabet ?fx_ea_InvalidAlphabet ?fx_eb_InvalidAlphabet ?fx_ed_InvalidAlphabet ?fx_ee_InvalidAlphabet ?fx_eh_InvalidAlphabet ?fx_gc_InvalidWord ?fx_kc_InvalidWord ?fx_xs_InvalidWord ?fx_xt_InvalidWord ?fx_q_InvalidWord ?fx_ea_InvalidWord ?fx_eb_InvalidWord ?fx_ed_InvalidWord ?fx_ee_InvalidWord ?fx_eh_InvalidWord ?fx_exn_ ?fx_ext_ hmg
    (case fx_g0 => k_is)
    (case fx_l0 => k_is)
    (case fx_c0 => k_is)
    (case fx_k0 => k_is)
    (case fx_g1 => k_is)
    (case fx_l1 => k_is)
    (case fx_c1 => k_is)
    (case fx_k1 => k_is)
    (case fx_g2 => k_is)
    (case fx_l2 => k_is)
    (case fx_c2 => k_is)
    (case fx_k2 => k_is)
    (case fx_g3 => k_is)
    (case fx_l3 => k_is)
    (case fx_c3 => k_is)
    (case fx_k3 => k_is)
    (case fx_g4 => k_is)
    (case fx_l4 => k_is)
    (case fx_c4 => k_is)
    (case fx_k4 => k_is)
    (case fx_g5 => k_is)
    (case fx_l5 => k_is)
    (case fx_c5 => k_is)
    (case fx_k5 => k_is)
    (case fx_g6 => k_is)
    (case fx_l6 => k_is)
    (case fx_c6 => k_is)
    (case fx_k6 => k_is)
    (case fx_g7 => k_is)
    (case fx_l7 => k_is)
    (case fx_c7 => k_is)
    (case fx_k7 => k_is)
    (case fx_g8 => k_is)
    (case fx_l8 => k_is)
    (case fx_c8 => k_is)
    (case fx_k8 => k_is)
    (case fx_g9 => k_is)
    (case fx_l9 => k_is)
    (case fx_c9 => k_is)
    (case fx_k9 => k_is)
    (case fx_g10 => k_is)
    (case fx_l10 => k_is)
    (case fx_c10 => k_is)
    (case fx_k10 => k_is)
    (case fx_g11 => k_is)
    (case fx_l11 => k_is)
    (case fx_c11 => k_is)
    (case fx_k11 => k_is)
    (case fx_g12 => k_is)
    (case fx_l12 => k_is)
    (case fx_c12 => k_is)
    (case fx_k12 => k_is)
    (case fx_g13 => k_is)
    (case fx_l13 => k_is)
    (case fx_c13 => k_is)
    (case fx_k13 => k_is)
    (case fx_g14 => k_is)
    (case fx_l14 => k_is)
    (case fx_c14 => k_is)
    (case fx_k14 => k_is)
    (case fx_g15 => k_is)
    (case fx_l15 => k_is)
    (case fx_c15 => k_is)
    (case fx_k15 => k_is)
    (case fx_g16 => k_is)
    (case fx_l16 => k_is)
    (case fx_c16 => k_is)
    (case fx_k16 => k_is)
    (case fx_g17 => k_is)
    (case fx_l17 => k_is)
    (case fx_c17 => k_is)
    (case fx_k17 => k_is)
    (case fx_g18 => k_is)
    (case fx_l18 => k_is)
    (case fx_c18 => k_is)
    (case fx_k18 => k_is)
    (case fx_g19 => k_is)
    (case fx_l19 => k_is)
    (case fx_c19 => k_is)
    (case fx_k19 => k_is)
    (case fx_g20 => k_is)
    (case fx_l20 => k_is)
    (case fx_c20 => k_is)
    (case fx_k20 => k_is)
    (case fx_g21 => k_is)
    (case fx_l21 => k_is)
    (case fx_c21 => k_is)
    (case fx_k21 => k_is)
    (case fx_g22 => k_is)
    (case fx_l22 => k_is)
    (case fx_c22 => k_is)
    (case fx_k22 => k_is)
    (case fx_g23 => k_is)
    (case fx_l23 => k_is)
    (case fx_c23 => k_is)
    (case fx_k23 => k_is)
    (case fx_z0 => k_is)
    (case fx_z1 => k_is)
    (case fx_z2 => k_is)
    (case fx_z3 => k_is)
    (case fx_z4 => k_is)
    (case fx_z5 => k_is)
    (case fx_z6 => k_is)
    (case fx_z7 => k_is)
    (case fx_z8 => k_is)
    (case fx_z9 => k_is)
    (case fx_z10 => k_is)
    (case fx_z11 => k_is)
    (case fx_z12 => k_is)
    (case fx_z13 => k_is)
    (case fx_z14 => k_is)
    (case fx_z15 => k_is)
    (case fx_z16 => k_is)
    (case fx_v0 => k_is)
    (case fx_v1 => k_is)
    (case fx_v2 => k_is)
    (case fx_v3 => k_is)
    (case fx_gc_NetError => k_is)
    (case fx_kc_NetError => k_is)
    (case fx_xs_NetError => k_is)
    (case fx_xt_NetError => k_is)
    (case fx_q_NetError => kernel_rfl)
    (case fx_ea_NetError => k_is)
    (case fx_eb_NetError => k_is)
    (case fx_ed_NetError => k_is)
    (case fx_ee_NetError => k_is)
    (case fx_eh_NetError => k_is)
    (case fx_gc_InvalidAlphabet => k_is)
    (case fx_kc_InvalidAlphabet => k_is)
    (case fx_xs_InvalidAlphabet => k_is)
    (case fx_xt_InvalidAlphabet => k_is)
    (case fx_q_InvalidAlphabet => kernel_rfl)
    (case fx_ea_InvalidAlphabet => k_is)
    (case fx_eb_InvalidAlphabet => k_is)
    (case fx_ed_InvalidAlphabet => k_is)
    (case fx_ee_InvalidAlphabet => k_is)
    (case fx_eh_InvalidAlphabet => k_is)
    (case fx_gc_InvalidWord => k_is)
    (case fx_kc_InvalidWord => k_is)
    (case fx_xs_InvalidWord => k_is)
    (case fx_xt_InvalidWord => k_is)
    (case fx_q_InvalidWord => kernel_rfl)
    (case fx_ea_InvalidWord => k_is)
    (case fx_eb_InvalidWord => k_is)
    (case fx_ed_InvalidWord => k_is)
    (case fx_ee_InvalidWord => k_is)
    (case fx_eh_InvalidWord => k_is)
    (case fx_exn_ => k_is)
    (case fx_ext_ => k_is)
