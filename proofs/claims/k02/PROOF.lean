import PyProof.Rows.All
import Wide.All
import OpenK.AllK
import Wide.FinOn
import HandS.Deep
import HandS.EndBits
import HandS.Flow
import HandS.ForExc
import HandS.ForMost
import HandS.IsInst
import HandS.List
import HandS.NoneIn
import HandS.Star
import HandS.Style
import HandS.TupAny
import HandS.TupMul
import HandS.Wide
import HandS.Words
import HandS.Zip
import PyProof.EqLayable
import PyProof.FitsInt
import PyProof.P3Statements
import PyProof.ReprReads
import PyProof.StrLawsRepr
import PySem.Challenge.RW_leastnet_k02_vectors
set_option Elab.async false
set_option linter.all false
set_option maxRecDepth 100000
set_option linter.all false
/-! Ln: a value-level evaluator for the fragment of Python that the laws use. No heap for tuples; only what is mutated stands in a store. -/
namespace Ln
open PySem (Str PyData)

inductive D where
  | non | bl (b : Bool) | int (i : Int) | str (x : Str)
  | tup (xs : List D) | lst (xs : List D) | frz (xs : List D) | dct (ks vs : List D)
  | ref (n : Nat)
  deriving Inhabited

inductive O where
  | lst (xs : List D) | dct (ks vs : List D)
  deriving Inhabited

abbrev Store := List O
abbrev Rho := List (Option D)
structure Ex where
  cls : Nat
  val : D

inductive R (α : Type) where
  | ok (a : α) (s : Store) | exc (e : Ex) (s : Store) | err
abbrev M (α : Type) := Store → R α

namespace M
def ret {α} (a : α) : M α := fun s => .ok a s
def err {α} : M α := fun _ => .err
def bind {α β} (m : M α) (f : α → M β) : M β := fun s => match m s with
  | .ok a s' => f a s'
  | .exc e s' => .exc e s'
  | .err => .err
/-- a result that hangs on the store, which it leaves as it is -/
def opt {α} (f : Store → Option α) : M α := fun s => match f s with
  | some a => .ok a s
  | none => .err
/-- where no exception may leave -/
def nox {α} (m : M α) : M α := fun s => match m s with
  | .ok a s' => .ok a s'
  | _ => .err
end M

/-! ### data -/
/-- what a value is, as plain data, k deep -/
def toP (S : Store) : Nat → D → Option PyData
  | _, .non => some .none
  | _, .bl b => some (.bool b)
  | _, .int i => some (.int i)
  | _, .str x => some (.str x)
  | 0, _ => none
  | k + 1, .tup xs => (xs.mapM (toP S k)).map .tuple
  | k + 1, .lst xs => (xs.mapM (toP S k)).map .list
  | _ + 1, .frz _ => none
  | k + 1, .dct ks vs => (ks.mapM (toP S k)).bind fun a => (vs.mapM (toP S k)).map fun b => .dict (a.zip b)
  | k + 1, .ref n => match S[n]? with
    | some (.lst xs) => (xs.mapM (toP S k)).map .list
    | some (.dct ks vs) => (ks.mapM (toP S k)).bind fun a => (vs.mapM (toP S k)).map fun b => .dict (a.zip b)
    | none => none
def deep : Nat := 24
def dat (S : Store) (d : D) : Option PyData := toP S deep d

/-- a list's, a tuple's items -/
def seqOf (S : Store) : D → Option (List D)
  | .tup xs => some xs
  | .lst xs => some xs
  | .frz xs => some xs
  | .ref n => match S[n]? with
    | some (.lst xs) => some xs
    | _ => none
  | _ => none
/-- a list's items -/
def lstOf (S : Store) : D → Option (List D)
  | .lst xs => some xs
  | .ref n => match S[n]? with
    | some (.lst xs) => some xs
    | _ => none
  | _ => none

def line : Nat := 2 ^ 24

def truth (S : Store) : D → Option Bool
  | .non => some false
  | .bl b => some b
  | .int i => some (i != 0)
  | .str x => if x.length ≤ line then some (x.length != 0) else none
  | .tup xs => some (!xs.isEmpty)
  | .lst xs => some (!xs.isEmpty)
  | .ref n => match S[n]? with
    | some (.lst xs) => some (!xs.isEmpty)
    | _ => none
  | _ => none

/-! ### operators -/
inductive Bop where
  | add | sub | mul | fdiv | mod | pow
  deriving DecidableEq
def small64 (a : Int) : Bool := decide (-(2 ^ 64) < a) && decide (a < 2 ^ 64)
def mulOk (a b : Int) : Bool := small64 a || small64 b || decide (a.natAbs.log2 + b.natAbs.log2 < 1000000)
def divOk (b : Int) : Bool := decide (b ≠ 0) && decide (b.natAbs.log2 < 9000)
def powOk (a n : Int) : Bool := decide (0 ≤ n) && decide (((a.natAbs.log2 + 1 : Nat) : Int) * n ≤ 2 ^ 27)
def small63 (a : Int) : Bool := decide (-(2 ^ 63) ≤ a) && decide (a < 2 ^ 63)

def intOp : Bop → Int → Int → Option Int
  | .add, a, b => some (a + b)
  | .sub, a, b => some (a - b)
  | .mul, a, b => if mulOk a b then some (a * b) else none
  | .fdiv, a, b => if divOk b then some (a.fdiv b) else none
  | .mod, a, b => if b ≠ 0 then some (a.fmod b) else none
  | .pow, a, b => if powOk a b then some (a ^ b.toNat) else none

def bop (o : Bop) (x y : D) (S : Store) : Option D :=
  match x, y with
  | .int a, .int b => (intOp o a b).map .int
  | .str a, .str b => match o with
    | .add => if a.length + b.length ≤ line then some (.str (a ++ b)) else none
    | _ => none
  | .tup xs, .tup ys => match o with
    | .add => if xs.length + ys.length ≤ line then some (.tup (xs ++ ys)) else none
    | _ => none
  | .tup xs, .int k => match o with
    | .mul => if decide (-1000 ≤ k) && decide (k ≤ 1000) && decide (xs.length ≤ 1000) then some (.tup (List.replicate k.toNat xs).flatten) else none
    | _ => none
  | x, .int k => match o, lstOf S x with
    | .mul, some xs => if small63 k && decide (xs.length * k.toNat ≤ line) then some (.lst (List.replicate k.toNat xs).flatten) else none
    | _, _ => none
  | x, y => match o, lstOf S x, lstOf S y with
    | .add, some xs, some ys => if xs.length + ys.length ≤ line then some (.lst (xs ++ ys)) else none
    | _, _, _ => none

inductive Cop where
  | eq | ne | lt | le | gt | ge | is | isNot | isIn | notIn
  deriving DecidableEq

def eqP (S : Store) (x y : D) : Option Bool := match dat S x, dat S y with
  | some a, some b => if PySem.SeqAt.shaped a && PySem.SeqAt.shaped b then some (PyData.eqv a b) else none
  | _, _ => none
def eqD (S : Store) (x y : D) : Option Bool := match x, y with
  | .int a, .int b => some (decide (a = b))
  | .str a, .str b => some (decide (a = b))
  | x, y => eqP S x y
/-- x is y, for y None or a bool -/
def isD (x y : D) : Option Bool := match x, y with
  | .non, .non => some true
  | _, .non => some false
  | .bl a, .bl b => some (a == b)
  | _, _ => none
def inD (S : Store) (x y : D) : Option Bool := match y with
  | .str b => match x with
    | .str a => some (!(PySem.Builtin.Str.occurrences b a 0 b.length 1).isEmpty)
    | _ => none
  | y => match dat S x, seqOf S y with
    | some a, some ys => match ys.mapM (dat S) with
      | some bs => if PySem.SeqAt.shaped a && PySem.SeqAt.shaped (.list bs) then some (bs.any fun z => PyData.eqv z a) else none
      | none => none
    | _, _ => none

def cop (c : Cop) (x y : D) (S : Store) : Option Bool := match c with
  | .eq => eqD S x y
  | .ne => (eqD S x y).map (!·)
  | .is => isD x y
  | .isNot => (isD x y).map (!·)
  | .isIn => inD S x y
  | .notIn => (inD S x y).map (!·)
  | .lt => match x, y with
    | .int a, .int b => some (decide (a < b))
    | .str a, .str b => some (decide (a.cps.toList < b.cps.toList))
    | _, _ => none
  | .le => match x, y with
    | .int a, .int b => some (decide (a ≤ b))
    | _, _ => none
  | .gt => match x, y with
    | .int a, .int b => some (decide (b < a))
    | _, _ => none
  | .ge => match x, y with
    | .int a, .int b => some (decide (b ≤ a))
    | _, _ => none

/-- an index's place -/
def place (n : Nat) (i : Int) : Option Nat := if 0 ≤ i then (if i < n then some i.toNat else none) else if -(n : Int) ≤ i then some (i + n).toNat else none
def atP {α : Type} (xs : List α) (i : Int) : Option α := (place xs.length i).bind fun j => xs[j]?
/-- a bound of a slice -/
def bnd (n d : Nat) : Option Int → Nat
  | none => d
  | some v => if v < 0 then (v + (n : Int)).toNat else min v.toNat n
def cut {α : Type} (xs : List α) (lo hi : Option Int) : List α := (xs.drop (bnd xs.length 0 lo)).take (bnd xs.length xs.length hi - bnd xs.length 0 lo)

def idxD (S : Store) (x i : D) : Option D := match i with
  | .int i => match x with
    | .str z => if z.length ≤ line then (atP z.cps.toList i).map fun c => .str ⟨#[c]⟩ else none
    | x => (seqOf S x).bind fun xs => atP xs i
  | _ => none
def slcD (S : Store) (x : D) (lo hi : Option Int) : Option D := match x with
  | .str z => if z.length ≤ line then some (.str ⟨(cut z.cps.toList lo hi).toArray⟩) else none
  | .tup xs => some (.tup (cut xs lo hi))
  | x => (lstOf S x).map fun xs => .lst (cut xs lo hi)
def revD (S : Store) (x : D) : Option D := match x with
  | .tup xs => some (.tup xs.reverse)
  | x => (lstOf S x).map fun xs => .lst xs.reverse

inductive Ty where
  | int | bool | str | tuple | list | dict
  deriving DecidableEq
/-- the built-in class -/
def tyOf (S : Store) : D → Option Ty
  | .bl _ => some .bool
  | .int _ => some .int
  | .str _ => some .str
  | .tup _ => some .tuple
  | .lst _ => some .list
  | .frz _ => some .list
  | .dct _ _ => some .dict
  | .ref n => match S[n]? with
    | some (.lst _) => some .list
    | some (.dct _ _) => some .dict
    | none => none
  | .non => none
def isiD (S : Store) (t : Ty) (x : D) : Option Bool := match x with
  | .non => some false
  | x => (tyOf S x).map fun u => decide (u = t) || (decide (u = .bool) && decide (t = .int))

/-! ### built-ins -/
def intsD : List D → Option (List Int)
  | [] => some []
  | .int i :: r => (intsD r).map (i :: ·)
  | _ :: _ => none
def boolsD : List D → Option (List Bool)
  | [] => some []
  | .bl b :: r => (boolsD r).map (b :: ·)
  | _ :: _ => none
def strsD : List D → Option (List Str)
  | [] => some []
  | .str x :: r => (strsD r).map (x :: ·)
  | _ :: _ => none

inductive Blt where
  | len | tuple | list | listM | all | any | sum | abs | max | min | int | str | repr
  | append | pop | popAt | upper
  deriving DecidableEq

def lenF (S : Store) : List D → Option D
  | [.str x] => if x.length ≤ line then some (.int x.length) else none
  | [x] => (seqOf S x).map fun xs => .int xs.length
  | _ => none
def tupleF (S : Store) : List D → Option D
  | [x] => (seqOf S x).map .tup
  | _ => none
def listF (S : Store) : List D → Option D
  | [x] => (seqOf S x).map .lst
  | _ => none
def allF (S : Store) : List D → Option D
  | [x] => (lstOf S x).bind fun xs => (boolsD xs).map fun bs => .bl (bs.all id)
  | _ => none
def anyF (S : Store) : List D → Option D
  | [x] => (lstOf S x).bind fun xs => (boolsD xs).map fun bs => .bl (bs.any id)
  | _ => none
def sumF (S : Store) : List D → Option D
  | [x] => (lstOf S x).bind fun xs => (intsD xs).map fun ns => .int ns.sum
  | _ => none
def absF (_ : Store) : List D → Option D
  | [.int i] => some (.int (if i < 0 then -i else i))
  | _ => none
def maxF (_ : Store) : List D → Option D
  | [.int i, .int j] => some (.int (if j > i then j else i))
  | _ => none
def minF (_ : Store) : List D → Option D
  | [.int i, .int j] => some (.int (if j < i then j else i))
  | _ => none
def intF (_ : Store) : List D → Option D
  | [.int i] => some (.int i)
  | [.bl b] => some (.int (if b then 1 else 0))
  | _ => none
def strF (_ : Store) : List D → Option D
  | [.int i] => if i.natAbs.log2 < 1920 then some (.str (toString i : String)) else none
  | _ => none
def reprF (S : Store) : List D → Option D
  | [x] => (dat S x).bind fun d => if d.showable && decide (d.shown.length ≤ line) then some (.str d.shown) else none
  | _ => none
/-- built-ins that leave the store as it is -/
def blt0 (b : Blt) (args : List D) (S : Store) : Option D := match b with
  | .len => lenF S args
  | .tuple => tupleF S args
  | .list => listF S args
  | .all => allF S args
  | .any => anyF S args
  | .sum => sumF S args
  | .abs => absF S args
  | .max => maxF S args
  | .min => minF S args
  | .int => intF S args
  | .str => strF S args
  | .repr => reprF S args
  | _ => none

def setO (n : Nat) (o : O) : M D := fun s => .ok .non (s.set n o)
def newO (o : O) : M D := fun s => .ok (.ref s.length) (s ++ [o])

def listMF : List D → M D
  | [x] => fun S => match seqOf S x with
    | some xs => newO (.lst xs) S
    | none => .err
  | _ => M.err
def appendF : List D → M D
  | [.ref n, x] => fun S => match S[n]? with
    | some (.lst xs) => if xs.length < line then setO n (.lst (xs ++ [x])) S else .err
    | _ => .err
  | _ => M.err
def popF : List D → M D
  | [.ref n] => fun S => match S[n]? with
    | some (.lst xs) => match xs.getLast? with
      | some y => .ok y (S.set n (.lst xs.dropLast))
      | none => .err
    | _ => .err
  | _ => M.err
def popAtF : List D → M D
  | [.ref n, .int i] => fun S => match S[n]? with
    | some (.lst xs) => if small63 i then match place xs.length i with
      | some j => match xs[j]? with
        | some y => .ok y (S.set n (.lst (xs.eraseIdx j)))
        | none => .err
      | none => .err
      else .err
    | _ => .err
  | _ => M.err
def blt (b : Blt) (args : List D) : M D := match b with
  | .listM => listMF args
  | .append => appendF args
  | .pop => popF args
  | .popAt => popAtF args
  | b => M.opt (blt0 b args)

/-! ### the text -/
inductive Tg where
  | nm (i : Nat) | tp (is : List Nat)
mutual
inductive E where
  | var (i : Nat) | cst (d : D)
  | bin (o : Bop) (a b : E) | neg (a : E) | not (a : E)
  | cmp (c : Cop) (a b : E) | chain (c c' : Cop) (a b d : E)
  | and (a b : E) | or (a b : E) | ite (c a b : E)
  | tup (es : Es) | lst (es : Es) | lstM (es : Es) | dct (ks vs : Es)
  | idx (a i : E) | slc (a : E) (lo hi : Eo) | rev (a : E)
  | isi (a : E) (t : Ty) | bad
  | blt (b : Blt) (es : Es)
  | call (f : Nat) (es : Es) | lstS (es : Es)
  | lc (elt : E) (tg : Tg) (it : It) (ifs : Es) (own : List Nat)
inductive Es where
  | nil | cons (e : E) (es : Es) | star (e : E) (es : Es)
inductive Eo where
  | no | so (e : E)
inductive It where
  | seq (e : E) | rng1 (e : E) | rng2 (a b : E) | zip (a b : E) | enum (a : E)
end
mutual
inductive Sm where
  | expr (e : E) | set (i : Nat) (e : E) | setT (is : List Nat) (e : E) | par (is : List Nat) (es : Es)
  | setI (o i e : E) | aug (i : Nat) (o : Bop) (e : E)
  | cond (c : E) (a b : Sms) | loop (tg : Tg) (it : It) (b : Sms) | while (c : E) (b : Sms)
  | ret (e : E) | retN | raise (c : Nat) (e : E) | pass | brk | cont | bad
inductive Sms where
  | nil | cons (s : Sm) (r : Sms)
end

/-! ### loops -/
inductive Fl where
  | nx | rt (d : D) | bk | ct

def wipe (ρ : Rho) : List Nat → Rho
  | [] => ρ
  | v :: vs => (wipe ρ vs).set v none
def setAll (ρ : Rho) : List Nat → List D → Option Rho
  | [], [] => some ρ
  | i :: is, d :: ds => setAll (ρ.set i (some d)) is ds
  | _, _ => none
def setTg (ρ : Rho) (tg : Tg) (d : D) : Option Rho := match tg with
  | .nm i => some (ρ.set i (some d))
  | .tp is => match d with
    | .tup xs => setAll ρ is xs
    | _ => none
def mapO (step : D → M (Option D)) : List D → M (List D)
  | [] => M.ret []
  | x :: xs => M.bind (step x) fun o => match o with
    | none => mapO step xs
    | some y => M.bind (mapO step xs) fun ys => M.ret (y :: ys)
def forL (body : D → Rho → M (Fl × Rho)) : List D → Rho → M (Fl × Rho)
  | [], ρ => M.ret (.nx, ρ)
  | x :: xs, ρ => M.bind (body x ρ) fun r => match r.1 with
    | .nx => forL body xs r.2
    | .ct => forL body xs r.2
    | .bk => M.ret (.nx, r.2)
    | .rt d => M.ret (.rt d, r.2)
def whileL (test : Rho → M Bool) (body : Rho → M (Fl × Rho)) : Nat → Rho → M (Fl × Rho)
  | 0, _ => M.err
  | k + 1, ρ => M.bind (test ρ) fun b => if b then M.bind (body ρ) fun r => match r.1 with
      | .nx => whileL test body k r.2
      | .ct => whileL test body k r.2
      | .bk => M.ret (.nx, r.2)
      | .rt d => M.ret (.rt d, r.2)
    else M.ret (.nx, ρ)
def pairs : List D → List D → List D
  | x :: xs, y :: ys => .tup [x, y] :: pairs xs ys
  | _, _ => []
def numbered : Nat → List D → List D
  | _, [] => []
  | k, x :: xs => .tup [.int k, x] :: numbered (k + 1) xs
def range (lo hi : Int) : List D := (List.range (hi - lo).toNat).map fun (k : Nat) => D.int (lo + (k : Int))
def small62 (a : Int) : Bool := decide (-(2 ^ 62) ≤ a) && decide (a < 2 ^ 62)

/-! ### the evaluator -/
section
variable (cf : Nat → List D → M D)
def truthM (d : D) : M Bool := M.opt fun S => truth S d
def getV (ρ : Rho) (i : Nat) : M D := match ρ[i]? with
  | some (some d) => M.ret d
  | _ => M.err
def negK : D → M D
  | .int i => M.ret (.int (-i))
  | _ => M.err
def andK (m : M D) : D → M D
  | .bl true => m
  | .bl false => M.ret (.bl false)
  | _ => M.err
def orK (m : M D) : D → M D
  | .bl true => M.ret (.bl true)
  | .bl false => m
  | _ => M.err
def starK : D → M (List D)
  | .tup ys => M.ret ys
  | .lst ys => M.ret ys
  | _ => M.err
def intK : D → M (Option Int)
  | .int i => M.ret (some i)
  | _ => M.err
def seqK : D → M (List D)
  | .tup xs => M.ret xs
  | .lst xs => M.ret xs
  | .frz xs => M.ret xs
  | _ => M.err
def rngK : D → M (List D)
  | .int n => if small62 n && decide (n.toNat ≤ line) then M.ret (range 0 n) else M.err
  | _ => M.err
def rng2K : D → D → M (List D)
  | .int m, .int n => if small62 m && small62 n && decide ((n - m).toNat ≤ line) then M.ret (range m n) else M.err
  | _, _ => M.err
def zipK : D → D → M (List D)
  | .tup xs, .tup ys => M.ret (pairs xs ys)
  | .lst xs, .lst ys => M.ret (pairs xs ys)
  | _, _ => M.err
def enumK : D → M (List D)
  | .lst xs => M.ret (numbered 0 xs)
  | _ => M.err
/-- one turn of a comprehension -/
def lcK (ρ : Rho) (tg : Tg) (own : List Nat) (test : Rho → M Bool) (elt : Rho → M D) (x : D) : M (Option D) := match setTg (wipe ρ own) tg x with
  | some ρ' => M.bind (test ρ') fun k => if k then M.bind (elt ρ') fun y => M.ret (some y) else M.ret none
  | none => M.err
def unpK (ρ : Rho) (is : List Nat) : D → M (Fl × Rho)
  | .tup xs => match setAll ρ is xs with
    | some ρ' => M.ret (.nx, ρ')
    | none => M.err
  | .lst xs => match setAll ρ is xs with
    | some ρ' => M.ret (.nx, ρ')
    | none => M.err
  | _ => M.err
def parK (ρ : Rho) (is : List Nat) (xs : List D) : M (Fl × Rho) := match setAll ρ is xs with
  | some ρ' => M.ret (.nx, ρ')
  | none => M.err
def setIK (ρ : Rho) (v x k : D) : M (Fl × Rho) := fun S => match x, k with
  | .ref n, .int i => match S[n]? with
    | some (.lst xs) => match place xs.length i with
      | some j => .ok (.nx, ρ) (S.set n (.lst (xs.set j v)))
      | none => .err
    | _ => .err
  | _, _ => .err
def augK (ρ : Rho) (i : Nat) (o : Bop) : D → D → M (Fl × Rho)
  | .int a, .int b => match intOp o a b with
    | some k => M.ret (.nx, ρ.set i (some (.int k)))
    | none => M.err
  | _, _ => M.err
def loopK (tg : Tg) (body : Rho → M (Fl × Rho)) (x : D) (ρ : Rho) : M (Fl × Rho) := match setTg ρ tg x with
  | some ρ' => body ρ'
  | none => M.err
def nextK (m : Rho → M (Fl × Rho)) : Fl × Rho → M (Fl × Rho)
  | (.nx, ρ) => m ρ
  | (f, ρ) => M.ret (f, ρ)
mutual
def ev : E → Rho → M D
  | .var i, ρ => getV ρ i
  | .cst d, _ => M.ret d
  | .bin o a b, ρ => M.bind (ev a ρ) fun x => M.bind (ev b ρ) fun y => M.opt (bop o x y)
  | .neg a, ρ => M.bind (ev a ρ) negK
  | .not a, ρ => M.bind (ev a ρ) fun x => M.bind (truthM x) fun b => M.ret (.bl (!b))
  | .cmp c a b, ρ => M.bind (ev a ρ) fun x => M.bind (ev b ρ) fun y => M.bind (M.opt (cop c x y)) fun k => M.ret (.bl k)
  | .chain c c' a b d, ρ => M.bind (ev a ρ) fun x => M.bind (ev b ρ) fun y => M.bind (M.opt (cop c x y)) fun k =>
      if k then M.bind (ev d ρ) fun z => M.bind (M.opt (cop c' y z)) fun k => M.ret (.bl k) else M.ret (.bl false)
  | .and a b, ρ => M.bind (ev a ρ) (andK (ev b ρ))
  | .or a b, ρ => M.bind (ev a ρ) (orK (ev b ρ))
  | .ite c a b, ρ => M.bind (ev c ρ) fun x => M.bind (truthM x) fun k => if k then ev a ρ else ev b ρ
  | .tup es, ρ => M.bind (evs es ρ) fun xs => M.ret (.tup xs)
  | .lst es, ρ => M.bind (evs es ρ) fun xs => M.ret (.lst xs)
  | .lstM es, ρ => M.bind (evs es ρ) fun xs => newO (.lst xs)
  | .dct ks vs, ρ => M.bind (evs ks ρ) fun a => M.bind (evs vs ρ) fun b => M.ret (.dct a b)
  | .idx a i, ρ => M.bind (ev a ρ) fun x => M.bind (ev i ρ) fun k => M.opt fun S => idxD S x k
  | .slc a lo hi, ρ => M.bind (ev a ρ) fun x => M.bind (evo lo ρ) fun l => M.bind (evo hi ρ) fun h => M.opt fun S => slcD S x l h
  | .rev a, ρ => M.bind (ev a ρ) fun x => M.opt fun S => revD S x
  | .isi a t, ρ => M.bind (ev a ρ) fun x => M.bind (M.opt fun S => isiD S t x) fun k => M.ret (.bl k)
  | .bad, _ => M.err
  | .blt b es, ρ => M.bind (evs es ρ) fun xs => blt b xs
  | .call f es, ρ => M.bind (evs es ρ) fun xs => cf f xs
  | .lstS es, ρ => M.bind (evs es ρ) fun xs => if xs.length ≤ line then M.ret (.lst xs) else M.err
  | .lc elt tg it ifs own, ρ => M.bind (evi it ρ) fun xs => M.bind (M.nox (mapO (lcK ρ tg own (fun ρ' => evts ifs ρ') (fun ρ' => ev elt ρ')) xs)) fun ys => M.ret (.lst ys)
def evs : Es → Rho → M (List D)
  | .nil, _ => M.ret []
  | .cons e es, ρ => M.bind (ev e ρ) fun x => M.bind (evs es ρ) fun xs => M.ret (x :: xs)
  | .star e es, ρ => M.bind (ev e ρ) fun x => M.bind (starK x) fun ys => M.bind (evs es ρ) fun xs => M.ret (ys ++ xs)
/-- the tests of a comprehension -/
def evts : Es → Rho → M Bool
  | .nil, _ => M.ret true
  | .cons e es, ρ => M.bind (ev e ρ) fun x => M.bind (truthM x) fun k => if k then evts es ρ else M.ret false
  | .star _ _, _ => M.err
def evo : Eo → Rho → M (Option Int)
  | .no, _ => M.ret none
  | .so e, ρ => M.bind (ev e ρ) intK
def evi : It → Rho → M (List D)
  | .seq e, ρ => M.bind (ev e ρ) seqK
  | .rng1 e, ρ => M.bind (ev e ρ) rngK
  | .rng2 a b, ρ => M.bind (ev a ρ) fun x => M.bind (ev b ρ) (rng2K x)
  | .zip a b, ρ => M.bind (ev a ρ) fun x => M.bind (ev b ρ) (zipK x)
  | .enum a, ρ => M.bind (ev a ρ) enumK
end
def evT (e : E) (ρ : Rho) : M Bool := M.bind (ev cf e ρ) truthM

variable (w : Nat)
mutual
def exec : Sm → Rho → M (Fl × Rho)
  | .expr e, ρ => M.bind (ev cf e ρ) fun _ => M.ret (.nx, ρ)
  | .set i e, ρ => M.bind (ev cf e ρ) fun x => M.ret (.nx, ρ.set i (some x))
  | .setT is e, ρ => M.bind (ev cf e ρ) (unpK ρ is)
  | .par is es, ρ => M.bind (evs cf es ρ) (parK ρ is)
  | .setI o i e, ρ => M.bind (ev cf e ρ) fun v => M.bind (ev cf o ρ) fun x => M.bind (ev cf i ρ) fun k => setIK ρ v x k
  | .aug i o e, ρ => M.bind (getV ρ i) fun x => M.bind (ev cf e ρ) (augK ρ i o x)
  | .cond c a b, ρ => M.bind (evT cf c ρ) fun k => if k then execs a ρ else execs b ρ
  | .loop tg it b, ρ => M.bind (evi cf it ρ) fun xs => forL (loopK tg fun ρ => execs b ρ) xs ρ
  | .while c b, ρ => whileL (fun ρ => evT cf c ρ) (fun ρ => execs b ρ) w ρ
  | .ret e, ρ => M.bind (ev cf e ρ) fun x => M.ret (.rt x, ρ)
  | .retN, ρ => M.ret (.rt .non, ρ)
  | .raise c e, ρ => M.bind (ev cf e ρ) fun x => fun S => .exc ⟨c, x⟩ S
  | .bad, _ => M.err
  | .pass, ρ => M.ret (.nx, ρ)
  | .brk, ρ => M.ret (.bk, ρ)
  | .cont, ρ => M.ret (.ct, ρ)
def execs : Sms → Rho → M (Fl × Rho)
  | .nil, ρ => M.ret (.nx, ρ)
  | .cons s r, ρ => M.bind (exec s ρ) (nextK fun ρ => execs r ρ)
end
end

structure Fn where
  arity : Nat
  star : Bool
  slots : Nat
  body : Sms
/-- the parameters' values -/
def bindA (fn : Fn) (args : List D) : Option (List D) :=
  if fn.star then (if fn.arity ≤ args.length ∧ args.length ≤ line then some (args.take fn.arity ++ [.tup (args.drop fn.arity)]) else none)
  else if args.length = fn.arity then some args else none
def runBody (cf : Nat → List D → M D) (w : Nat) (fn : Fn) (args : List D) : M D :=
  M.bind (execs cf w fn.body (args.map some ++ List.replicate (fn.slots - args.length) none)) fun p => match p.1 with
    | .nx => M.ret .non
    | .rt d => M.ret d
    | _ => M.err
def callI (prog : List Fn) (w : Nat) : Nat → Nat → List D → M D
  | 0, _, _ => M.err
  | k + 1, f, args => match prog[f]? with
    | some fn => match bindA fn args with
      | some as => runBody (callI prog w k) w fn as
      | none => M.err
    | none => M.err
end Ln

set_option linter.all false
set_option maxRecDepth 100000
/-! Ln's soundness: the evaluator's relation to the hand layer's judgements. -/
namespace LnS
open PySem L2
open Ln (D O Store Rho M R Ex)

abbrev Frag := PySem.W.Frag

/-- where the store's objects stand (h), and lists that are being made (x) -/
structure Al where
  h : List Addr
  x : List Addr
def Al.has (α : Al) (a : Addr) : Prop := a ∈ α.h ∨ a ∈ α.x

/-! ### values -/
/-- a list that is read alone -/
def Frz (K : Frag) (H : Hp) (α : Al) (a : Addr) (vs : List V) : Prop :=
  (¬ α.has a ∧ Rd H a (.lst vs)) ∨ ∃ (o : Obj) (its : Array Value) (n : Nat), K.lookup a = some o ∧ o.cls = .type "list" ∧ o.dict = none ∧ o.data = .seq its n ∧ its.size ≤ sizeLine ∧ Vals vs its.toList
theorem Frz.sq {K : Frag} {H : Hp} {α : Al} {a : Addr} {vs : List V} (h : Frz K H α a vs) : SqL K H a vs := h.imp (·.2) id
mutual
inductive RD (K : Frag) (H : Hp) (α : Al) : D → V → Prop
  | non : RD K H α .non .non
  | bl (b : Bool) : RD K H α (.bl b) (.bl b)
  | int (i : Int) : RD K H α (.int i) (.int i)
  | str (x : Str) : RD K H α (.str x) (.str x)
  | tup {a : Addr} {xs : List D} {vs : List V} : SqT K H a vs → RDs K H α xs vs → RD K H α (.tup xs) (.ref a)
  | lst {a : Addr} {xs : List D} {vs : List V} : ¬ α.has a → H a = some (.lst vs) → RDs K H α xs vs → RD K H α (.lst xs) (.ref a)
  | frz {a : Addr} {xs : List D} {vs : List V} : Frz K H α a vs → RDs K H α xs vs → RD K H α (.frz xs) (.ref a)
  | dct {a : Addr} {ks vs : List D} {kvs : List (Key × V)} : ¬ α.has a → H a = some (.dK kvs) → RDs K H α ks (kvs.map fun p => kV p.1) → RDs K H α vs (kvs.map (·.2)) → RD K H α (.dct ks vs) (.ref a)
  | ref {n : Nat} {a : Addr} : α.h[n]? = some a → RD K H α (.ref n) (.ref a)
inductive RDs (K : Frag) (H : Hp) (α : Al) : List D → List V → Prop
  | nil : RDs K H α [] []
  | cons {d : D} {ds : List D} {v : V} {vs : List V} : RD K H α d v → RDs K H α ds vs → RDs K H α (d :: ds) (v :: vs)
end

/-- what may be relied on: all that is tracked but the mutable things of the store stands -/
structure Ext (α : Al) (H H' : Hp) : Prop where
  keep : ∀ a o, H a = some o → (a ∈ α.h → ¬ Mut (some o)) → H' a = some o

theorem Ext.refl {α : Al} {H : Hp} : Ext α H H := ⟨fun _ _ h _ => h⟩
theorem Ext.sqT {K : Frag} {α : Al} {H H' : Hp} (e : Ext α H H') {a : Addr} {xs : List V} (h : SqT K H a xs) : SqT K H' a xs := by
  rcases h with (h | ⟨o, h⟩) | h
  · exact .inl (.inl (e.keep _ _ h fun _ z => z))
  · exact .inl (.inr ⟨o, e.keep _ _ h fun _ z => z⟩)
  · exact .inr h
theorem Ext.sqL {K : Frag} {α : Al} {H H' : Hp} (e : Ext α H H') {a : Addr} {xs : List V} (n : ¬ α.has a) (h : SqL K H a xs) : SqL K H' a xs := by
  have n' : a ∉ α.h := fun z => n (.inl z)
  rcases h with (h | ⟨o, h⟩) | h
  · exact .inl (.inl (e.keep _ _ h fun z => absurd z n'))
  · exact .inl (.inr ⟨o, e.keep _ _ h fun z => absurd z n'⟩)
  · exact .inr h

/-- α grows to α', the new ones were free -/
structure Grow (α : Al) (H : Hp) (α' : Al) : Prop where
  pre : α.h <+: α'.h
  sx : ∀ a ∈ α.x, a ∈ α'.x
  sn : ∀ a ∈ α'.x, a ∈ α.x ∨ H a = none
  new : ∀ p ∈ α'.h, p ∉ α.h → H p = none
theorem Grow.refl {α : Al} {H : Hp} : Grow α H α := ⟨List.prefix_refl _, fun _ h => h, fun _ h => .inl h, fun p h n => absurd h n⟩
theorem Grow.get {α α' : Al} {H : Hp} (g : Grow α H α') {n : Nat} {a : Addr} (h : α.h[n]? = some a) : α'.h[n]? = some a := by
  obtain ⟨t, e⟩ := g.pre
  rw [← e, List.getElem?_append_left (List.getElem?_eq_some_iff.mp h).1]
  exact h
theorem Grow.notin {α α' : Al} {H : Hp} (g : Grow α H α') {a : Addr} {o : HO} (n : ¬ α.has a) (h : H a = some o) : ¬ α'.has a := fun q => by
  rcases q with q | q
  · rw [g.new a q fun z => n (.inl z)] at h; cases h
  · rcases g.sn a q with q | q
    · exact n (.inr q)
    · rw [q] at h; cases h

mutual
theorem RD.mono {K : Frag} {H H' : Hp} {α α' : Al} (g : Grow α H α') (e : Ext α H H') : ∀ {d : D} {v : V}, RD K H α d v → RD K H' α' d v
  | _, _, .non => .non
  | _, _, .bl b => .bl b
  | _, _, .int i => .int i
  | _, _, .str x => .str x
  | _, _, .tup h r => .tup (e.sqT h) (RDs.mono g e r)
  | _, _, .lst n h r => .lst (g.notin n h) (e.keep _ _ h fun z => absurd (.inl z) n) (RDs.mono g e r)
  | _, _, .frz h r => .frz (h.imp (fun ⟨n, h⟩ => h.elim (fun h => ⟨g.notin n h, .inl (e.keep _ _ h fun z => absurd (.inl z) n)⟩) fun ⟨o, h⟩ => ⟨g.notin n h, .inr ⟨o, e.keep _ _ h fun z => absurd (.inl z) n⟩⟩) id) (RDs.mono g e r)
  | _, _, .dct n h r1 r2 => .dct (g.notin n h) (e.keep _ _ h fun z => absurd (.inl z) n) (RDs.mono g e r1) (RDs.mono g e r2)
  | _, _, .ref h => .ref (g.get h)
theorem RDs.mono {K : Frag} {H H' : Hp} {α α' : Al} (g : Grow α H α') (e : Ext α H H') : ∀ {ds : List D} {vs : List V}, RDs K H α ds vs → RDs K H' α' ds vs
  | _, _, .nil => .nil
  | _, _, .cons r t => .cons (RD.mono g e r) (RDs.mono g e t)
end

/-! ### the store -/
def RO (K : Frag) (H : Hp) (α : Al) (a : Addr) : O → Prop
  | .lst xs => ∃ vs, H a = some (.lst vs) ∧ RDs K H α xs vs
  | .dct ks vs => ∃ kvs : List (Key × V), H a = some (.dK kvs) ∧ RDs K H α ks (kvs.map fun p => kV p.1) ∧ RDs K H α vs (kvs.map (·.2))
/-- the table of modules is told apart from all that is new -/
def SysM (H : Hp) : Prop := ∃ φ, H sysModules = some (.ext φ)
structure RS (K : Frag) (H : Hp) (α : Al) (S : Store) : Prop where
  sm : SysM H
  len : α.h.length = S.length
  nd : α.h.Nodup
  dis : ∀ a ∈ α.h, a ∉ α.x
  scr : ∀ a ∈ α.x, ∃ vs, H a = some (.lst vs)
  at_ : ∀ (n : Nat) (a : Addr) (o : O), α.h[n]? = some a → S[n]? = some o → RO K H α a o
structure RE (K : Frag) (H : Hp) (α : Al) (ρ : Rho) (σ : L2.St) : Prop where
  len : ρ.length = σ.length
  get : ∀ (i : Nat) (d : D), ρ[i]? = some (some d) → ∃ v, σ[i]? = some (some v) ∧ RD K H α d v
structure After (K : Frag) (α : Al) (H : Hp) (α' : Al) (H' : Hp) (S' : Store) : Prop where
  grow : Grow α H α'
  ext : Ext α H H'
  rs : RS K H' α' S'

theorem SysM.upd {H : Hp} {p : Addr} {o u : HO} (h : SysM H) (hp : H p = none ∨ (H p = some u ∧ ∀ φ, u ≠ .ext φ)) : SysM (upd H p o) := by
  obtain ⟨φ, e⟩ := h
  refine ⟨φ, ?_⟩
  rw [upd_ne (fun z => ?_)]
  · exact e
  · rw [← z, e] at hp
    rcases hp with hp | ⟨hp, n⟩
    · cases hp
    · cases hp; exact n φ rfl
theorem RS.mut {K : Frag} {H : Hp} {α : Al} {S : Store} (r : RS K H α S) {a : Addr} (h : α.has a) : ∃ o, H a = some o ∧ Mut (some o) ∧ ∀ φ, o ≠ .ext φ := by
  rcases h with h | h
  · obtain ⟨n, e⟩ := List.mem_iff_getElem?.mp h
    have hn : n < S.length := by rw [← r.len]; exact (List.getElem?_eq_some_iff.mp e).1
    have q := r.at_ n a S[n] e (List.getElem?_eq_getElem hn)
    cases hS : S[n] with
    | lst xs =>
      rw [hS] at q
      obtain ⟨vs, h, _⟩ := q
      exact ⟨_, h, trivial, fun φ z => nomatch z⟩
    | dct ks vs =>
      rw [hS] at q
      obtain ⟨kvs, h, _⟩ := q
      exact ⟨_, h, trivial, fun φ z => nomatch z⟩
  · obtain ⟨vs, h⟩ := r.scr a h
    exact ⟨_, h, trivial, fun φ z => nomatch z⟩
theorem RS.free {K : Frag} {H : Hp} {α : Al} {S : Store} (r : RS K H α S) {a : Addr} (h : H a = none) : ¬ α.has a := fun z => by
  obtain ⟨o, e, _⟩ := r.mut z
  rw [h] at e; cases e
theorem After.refl {K : Frag} {α : Al} {H : Hp} {S : Store} (r : RS K H α S) : After K α H α H S := ⟨.refl, .refl, r⟩
theorem After.trans {K : Frag} {α α1 α2 : Al} {H H1 H2 : Hp} {S1 S2 : Store} (a : After K α H α1 H1 S1) (b : After K α1 H1 α2 H2 S2) : After K α H α2 H2 S2 where
  grow := by
    have back : ∀ p, H1 p = none → H p = none := fun p q => by
      cases e : H p with
      | none => rfl
      | some o =>
        by_cases hp : p ∈ α.h
        · obtain ⟨u, e1, _⟩ := a.rs.mut (.inl (a.grow.pre.subset hp))
          rw [q] at e1; cases e1
        · have := a.ext.keep p o e fun z => absurd z hp
          rw [q] at this; cases this
    refine ⟨a.grow.pre.trans b.grow.pre, fun p hp => b.grow.sx p (a.grow.sx p hp), fun p hp => (b.grow.sn p hp).elim (fun z => a.grow.sn p z) fun z => .inr (back p z), fun p hp hn => ?_⟩
    by_cases h1 : p ∈ α1.h
    · exact a.grow.new p h1 hn
    · have q := b.grow.new p hp h1
      cases e : H p with
      | none => rfl
      | some o =>
        have := a.ext.keep p o e fun z => absurd z hn
        rw [q] at this
        cases this
  ext := ⟨fun c o h hm => by
    refine b.ext.keep c o (a.ext.keep c o h hm) fun hc => ?_
    by_cases h0 : c ∈ α.h
    · exact hm h0
    · rw [a.grow.new c hc h0] at h
      cases h⟩
  rs := b.rs
theorem After.rd {K : Frag} {α α1 : Al} {H H1 : Hp} {S1 : Store} (a : After K α H α1 H1 S1) {d : D} {v : V} (r : RD K H α d v) : RD K H1 α1 d v := r.mono a.grow a.ext
theorem After.rds {K : Frag} {α α1 : Al} {H H1 : Hp} {S1 : Store} (a : After K α H α1 H1 S1) {ds : List D} {vs : List V} (r : RDs K H α ds vs) : RDs K H1 α1 ds vs := r.mono a.grow a.ext
theorem After.re {K : Frag} {α α1 : Al} {H H1 : Hp} {S1 : Store} (a : After K α H α1 H1 S1) {ρ : Rho} {σ : L2.St} (r : RE K H α ρ σ) : RE K H1 α1 ρ σ :=
  ⟨r.len, fun i d h => let ⟨v, h1, h2⟩ := r.get i d h; ⟨v, h1, a.rd h2⟩⟩
theorem RO.mono {K : Frag} {H H' : Hp} {α α' : Al} (g : Grow α H α') (e : Ext α H H') {a : Addr} {o : O} (k : ∀ u, H a = some u → H' a = some u) (r : RO K H α a o) : RO K H' α' a o := by
  cases o with
  | lst xs => obtain ⟨vs, h, q⟩ := r; exact ⟨vs, k _ h, q.mono g e⟩
  | dct ks vs => obtain ⟨kvs, h, q1, q2⟩ := r; exact ⟨kvs, k _ h, q1.mono g e, q2.mono g e⟩
/-- a new untracked place takes o -/
theorem ext_new {α : Al} {H : Hp} {p : Addr} {o : HO} (h : H p = none) : Ext α H (upd H p o) := ⟨fun a u e _ => by rw [upd_ne (ne_of_none e h)]; exact e⟩
theorem scr_new {α : Al} {H : Hp} {p : Addr} {o : HO} (h : H p = none) (r : ∀ a ∈ α.x, ∃ vs, H a = some (.lst vs)) : ∀ a ∈ α.x, ∃ vs, upd H p o a = some (.lst vs) := fun a ha => by
  obtain ⟨vs, e⟩ := r a ha
  exact ⟨vs, by rw [upd_ne (ne_of_none e h)]; exact e⟩
/-- a new object that the store doesn't know -/
theorem After.new {K : Frag} {α : Al} {H : Hp} {S : Store} (r : RS K H α S) {p : Addr} {o : HO} (h : H p = none) : After K α H α (upd H p o) S := by
  refine ⟨.refl, ext_new h, r.sm.upd (u := .set (fun _ => false) 0) (.inl h), r.len, r.nd, r.dis, scr_new h r.scr, fun n a u e1 e2 => ?_⟩
  refine (r.at_ n a u e1 e2).mono .refl (ext_new h) fun w hw => ?_
  rw [upd_ne (ne_of_none hw h)]
  exact hw
/-- a new object of the store -/
theorem After.alloc {K : Frag} {α : Al} {H : Hp} {S : Store} (r : RS K H α S) {p : Addr} {xs : List D} {vs : List V} (h : H p = none) (q : RDs K H α xs vs) :
    After K α H ⟨α.h ++ [p], α.x⟩ (upd H p (.lst vs)) (S ++ [.lst xs]) ∧ RD K (upd H p (.lst vs)) ⟨α.h ++ [p], α.x⟩ (.ref S.length) (.ref p) := by
  have hp : p ∉ α.h := fun z => r.free h (.inl z)
  have g : Grow α H ⟨α.h ++ [p], α.x⟩ := ⟨List.prefix_append _ _, fun _ h => h, fun _ h => .inl h, fun b hb hn => by
    rcases List.mem_append.mp hb with z | z
    · exact absurd z hn
    · rw [List.mem_singleton.mp z]; exact h⟩
  refine ⟨⟨g, ext_new h, r.sm.upd (u := .set (fun _ => false) 0) (.inl h), ?_, ?_, ?_, scr_new h r.scr, fun n a u e1 e2 => ?_⟩, .ref ?_⟩
  · simp only [List.length_append, r.len]; rfl
  · exact List.nodup_append.mpr ⟨r.nd, by simp, fun a ha b hb => by rw [List.mem_singleton.mp hb]; exact fun z => hp (z ▸ ha)⟩
  · intro a ha
    rcases List.mem_append.mp ha with z | z
    · exact r.dis a z
    · rw [List.mem_singleton.mp z]; exact fun z => r.free h (.inr z)
  · simp only [] at e1
    by_cases hn : n < S.length
    · rw [List.getElem?_append_left (by rw [r.len]; exact hn)] at e1
      rw [List.getElem?_append_left hn] at e2
      refine (r.at_ n a u e1 e2).mono g (ext_new h) fun w hw => ?_
      rw [upd_ne (ne_of_none hw h)]
      exact hw
    · have hn' : n = S.length := by
        have := (List.getElem?_eq_some_iff.mp e2).1
        rw [List.length_append, List.length_singleton] at this
        omega
      subst hn'
      rw [List.getElem?_append_right (by rw [r.len]; exact Nat.le_refl _), r.len, Nat.sub_self] at e1
      rw [List.getElem?_append_right (Nat.le_refl _), Nat.sub_self] at e2
      cases e1
      cases e2
      exact ⟨vs, upd_same, q.mono g (ext_new h)⟩
  · simp only []
    rw [List.getElem?_append_right (by rw [r.len]; exact Nat.le_refl _), r.len, Nat.sub_self]
    rfl
/-- an object of the store is changed -/
theorem After.put {K : Frag} {α : Al} {H : Hp} {S : Store} (r : RS K H α S) {n : Nat} {p : Addr} {xs : List D} {vs : List V} (h : α.h[n]? = some p) (q : RDs K H α xs vs) :
    After K α H α (upd H p (.lst vs)) (S.set n (.lst xs)) := by
  have hm : p ∈ α.h := List.mem_of_getElem? h
  obtain ⟨o0, h0, m0, x0⟩ := r.mut (.inl hm)
  have e : Ext α H (upd H p (.lst vs)) := ⟨fun a o ho hk => by
    by_cases ha : a = p
    · subst ha
      rw [h0] at ho; cases ho
      exact absurd m0 (hk hm)
    · rw [upd_ne ha]; exact ho⟩
  refine ⟨.refl, e, r.sm.upd (.inr ⟨h0, x0⟩), ?_, r.nd, r.dis, fun a ha => ?_, fun k a u e1 e2 => ?_⟩
  · rw [List.length_set]; exact r.len
  · obtain ⟨ws, e3⟩ := r.scr a ha
    exact ⟨ws, by rw [upd_ne (fun z : a = p => r.dis p hm (z ▸ ha))]; exact e3⟩
  · by_cases hk : k = n
    · subst hk
      have hl := (List.getElem?_eq_some_iff.mp e2).1
      rw [List.length_set] at hl
      rw [List.getElem?_set_self hl] at e2
      rw [h] at e1
      cases e1; cases e2
      exact ⟨vs, upd_same, q.mono .refl e⟩
    · rw [List.getElem?_set_ne (Ne.symm hk)] at e2
      have ha : a ≠ p := fun z => by
        subst z
        have h1 := List.getElem?_eq_some_iff.mp e1
        have h2 := List.getElem?_eq_some_iff.mp h
        exact hk ((List.getElem_inj r.nd).mp (h1.2.trans h2.2.symm))
      refine (r.at_ k a u e1 e2).mono .refl e fun w hw => ?_
      rw [upd_ne ha]
      exact hw

/-! ### a list that is being made -/
/-- what is known of values in (H, α) is known in (H', α') -/
structure Mp (K : Frag) (H : Hp) (α : Al) (H' : Hp) (α' : Al) : Prop where
  t : ∀ a vs, SqT K H a vs → SqT K H' a vs
  l : ∀ a o, ¬ α.has a → H a = some o → ¬ α'.has a ∧ H' a = some o
  r : α'.h = α.h
mutual
theorem RD.map {K : Frag} {H H' : Hp} {α α' : Al} (m : Mp K H α H' α') : ∀ {d : D} {v : V}, RD K H α d v → RD K H' α' d v
  | _, _, .non => .non
  | _, _, .bl b => .bl b
  | _, _, .int i => .int i
  | _, _, .str x => .str x
  | _, _, .tup h r => .tup (m.t _ _ h) (RDs.map m r)
  | _, _, .lst n h r => .lst (m.l _ _ n h).1 (m.l _ _ n h).2 (RDs.map m r)
  | _, _, .frz h r => .frz (h.imp (fun ⟨n, h⟩ => h.elim (fun h => ⟨(m.l _ _ n h).1, .inl (m.l _ _ n h).2⟩) fun ⟨o, h⟩ => ⟨(m.l _ _ n h).1, .inr ⟨o, (m.l _ _ n h).2⟩⟩) id) (RDs.map m r)
  | _, _, .dct n h r1 r2 => .dct (m.l _ _ n h).1 (m.l _ _ n h).2 (RDs.map m r1) (RDs.map m r2)
  | _, _, .ref h => .ref (by rw [m.r]; exact h)
theorem RDs.map {K : Frag} {H H' : Hp} {α α' : Al} (m : Mp K H α H' α') : ∀ {ds : List D} {vs : List V}, RDs K H α ds vs → RDs K H' α' ds vs
  | _, _, .nil => .nil
  | _, _, .cons r t => .cons (RD.map m r) (RDs.map m t)
end
theorem RE.map {K : Frag} {H H' : Hp} {α α' : Al} (m : Mp K H α H' α') {ρ : Rho} {σ : L2.St} (r : RE K H α ρ σ) : RE K H' α' ρ σ :=
  ⟨r.len, fun i d h => let ⟨v, h1, h2⟩ := r.get i d h; ⟨v, h1, h2.map m⟩⟩
theorem RS.map {K : Frag} {H H' : Hp} {α α' : Al} {S : Store} (m : Mp K H α H' α') (r : RS K H α S) (sm : SysM H') (dis : ∀ a ∈ α'.h, a ∉ α'.x) (scr : ∀ a ∈ α'.x, ∃ vs, H' a = some (.lst vs)) (k : ∀ a ∈ α.h, H' a = H a) : RS K H' α' S := by
  refine ⟨sm, by rw [m.r]; exact r.len, by rw [m.r]; exact r.nd, dis, scr, fun n a o e1 e2 => ?_⟩
  rw [m.r] at e1
  have q := r.at_ n a o e1 e2
  have ka := k a (List.mem_of_getElem? e1)
  cases o with
  | lst xs => obtain ⟨vs, h, q⟩ := q; exact ⟨vs, ka.trans h, q.map m⟩
  | dct ks vs => obtain ⟨kvs, h, q1, q2⟩ := q; exact ⟨kvs, ka.trans h, q1.map m, q2.map m⟩
section
variable {K : Frag} {H : Hp} {h x : List Addr} {S : Store} {p : Addr} {acc vs : List V}
theorem mp_take (hp : H p = none) : Mp K H ⟨h, x⟩ (upd H p (.lst vs)) ⟨h, p :: x⟩ where
  t := fun a vs q => (ext_new (α := ⟨[], []⟩) hp).sqT q
  l := fun a o n e => by
    have ne := ne_of_none e hp
    refine ⟨fun z => ?_, by rw [upd_ne ne]; exact e⟩
    rcases z with z | z
    · exact n (.inl z)
    · rcases List.mem_cons.mp z with z | z
      · exact ne z
      · exact n (.inr z)
  r := rfl
theorem RS.take (r : RS K H ⟨h, x⟩ S) (hp : H p = none) : RS K (upd H p (.lst vs)) ⟨h, p :: x⟩ S := by
  have f := r.free hp
  refine r.map (mp_take hp) (r.sm.upd (u := .set (fun _ => false) 0) (.inl hp)) (fun a ha z => ?_) (fun a ha => ?_) fun a ha => ?_
  · rcases List.mem_cons.mp z with z | z
    · exact f (.inl (z ▸ ha))
    · exact r.dis a ha z
  · rcases List.mem_cons.mp ha with z | z
    · rw [z]; exact ⟨vs, upd_same⟩
    · exact scr_new hp r.scr a z
  · exact upd_ne (fun z : a = p => f (.inl (z ▸ ha)))
theorem mp_write {α : Al} (hp : H p = some (.lst acc)) (hx : p ∈ α.x) : Mp K H α (upd H p (.lst vs)) α where
  t := fun a ws q => by
    rcases q with (q | ⟨o, q⟩) | q
    · exact .inl (.inl (by rw [upd_ne (ne_of q hp (by intro z; cases z))]; exact q))
    · exact .inl (.inr ⟨o, by rw [upd_ne (ne_of q hp (by intro z; cases z))]; exact q⟩)
    · exact .inr q
  l := fun a o n e => ⟨n, by rw [upd_ne (fun z : a = p => n (.inr (z ▸ hx)))]; exact e⟩
  r := rfl
theorem RS.write {α : Al} (r : RS K H α S) (hp : H p = some (.lst acc)) (hx : p ∈ α.x) : RS K (upd H p (.lst vs)) α S := by
  refine r.map (mp_write hp hx) (r.sm.upd (.inr ⟨hp, fun φ z => nomatch z⟩)) r.dis (fun a ha => ?_) fun a ha => ?_
  · by_cases e : a = p
    · rw [e]; exact ⟨vs, upd_same⟩
    · rw [upd_ne e]; exact r.scr a ha
  · exact upd_ne (fun z : a = p => r.dis a ha (z ▸ hx))
theorem mp_give {x' : List Addr} (hx : ∀ a ∈ x', a ∈ x) : Mp K H ⟨h, x⟩ H ⟨h, x'⟩ where
  t := fun _ _ q => q
  l := fun a o n e => ⟨fun z => n (z.imp id (hx a)), e⟩
  r := rfl
theorem RS.give {x' : List Addr} (hx : ∀ a ∈ x', a ∈ x) (r : RS K H ⟨h, x⟩ S) : RS K H ⟨h, x'⟩ S :=
  r.map (mp_give hx) r.sm (fun a ha z => r.dis a ha (hx a z)) (fun a ha => r.scr a (hx a ha)) fun _ _ => rfl
end

/-! ### what an evaluation is to reach -/
abbrev XS := Ex → Store → Hp → Al → Prop
def X0 : XS := fun _ _ _ _ => False
def Pst {β : Type} (K : Frag) (E : XS) (H : Hp) (α : Al) (r : R β) (C : β → Store → Hp → Al → Prop) : Prop := match r with
  | .ok b S' => ∀ H' α', After K α H α' H' S' → C b S' H' α'
  | .exc e S' => ∀ H' α', After K α H α' H' S' → E e S' H' α'
  | .err => False
section
variable {β γ : Type} {K : Frag} {E : XS} {H : Hp} {α : Al} {S : Store}
theorem Pst.mono {r : R β} {C C' : β → Store → Hp → Al → Prop} (h : Pst K E H α r C) (k : ∀ b S' H' α', After K α H α' H' S' → C b S' H' α' → C' b S' H' α') : Pst K E H α r C' := by
  cases r with
  | ok b S' => exact fun H' α' a => k _ _ _ _ a (h H' α' a)
  | exc e S' => exact h
  | err => exact h
theorem Pst.move {r : R β} {C : β → Store → Hp → Al → Prop} {H1 : Hp} {α1 : Al} {S1 : Store} (h : Pst K E H α r C) (a : After K α H α1 H1 S1) : Pst K E H1 α1 r C := by
  cases r with
  | ok b S' => exact fun H' α' b => h H' α' (a.trans b)
  | exc e S' => exact fun H' α' b => h H' α' (a.trans b)
  | err => exact h
theorem Pst.bind {m : M β} {f : β → M γ} {C : γ → Store → Hp → Al → Prop} (h : Pst K E H α (M.bind m f S) C) : Pst K E H α (m S) fun b S1 H1 α1 => After K α H α1 H1 S1 ∧ Pst K E H1 α1 (f b S1) C := by
  unfold M.bind at h
  cases e : m S with
  | ok b S1 =>
    rw [e] at h
    exact fun H1 α1 a => ⟨a, Pst.move h a⟩
  | exc x S1 => rw [e] at h; exact h
  | err => rw [e] at h; exact h
theorem Pst.opt {f : Store → Option β} {C : β → Store → Hp → Al → Prop} (h : Pst K E H α (M.opt f S) C) (r : RS K H α S) : ∃ b, f S = some b ∧ C b S H α := by
  unfold M.opt at h
  cases e : f S with
  | some b => rw [e] at h; exact ⟨b, rfl, h H α (.refl r)⟩
  | none => rw [e] at h; exact h.elim
theorem Pst.optN {f : Store → Option β} {C : β → Store → Hp → Al → Prop} (h : Pst K E H α (M.opt f S) C) : ∃ b, f S = some b ∧ ∀ H' α', After K α H α' H' S → C b S H' α' := by
  unfold M.opt at h
  cases e : f S with
  | some b => rw [e] at h; exact ⟨b, rfl, h⟩
  | none => rw [e] at h; exact h.elim
theorem Pst.ret {b : β} {C : β → Store → Hp → Al → Prop} (h : Pst K E H α (M.ret b S) C) (r : RS K H α S) : C b S H α := h H α (.refl r)
theorem Pst.retN {b : β} {C : β → Store → Hp → Al → Prop} (h : Pst K E H α (M.ret b S) C) {H' : Hp} {α' : Al} (a : After K α H α' H' S) : C b S H' α' := h H' α' a
end

def TI (K : Frag) (E : XS) (m : Rho → M D) : TE := fun σ H Q => ∃ ρ α S, RS K H α S ∧ RE K H α ρ σ ∧ Pst K E H α (m ρ S) fun d _ H' α' => ∀ v, RD K H' α' d v → Q v H'
def TTI (K : Frag) (E : XS) (m : Rho → M Bool) : TT := fun σ H Q => ∃ ρ α S, RS K H α S ∧ RE K H α ρ σ ∧ Pst K E H α (m ρ S) fun b _ H' _ => Q b H'
def TAI (K : Frag) (E : XS) (m : Rho → M (List D)) : TA := fun σ H Q => ∃ ρ α S, RS K H α S ∧ RE K H α ρ σ ∧ Pst K E H α (m ρ S) fun ds _ H' α' => ∀ vs, RDs K H' α' ds vs → Q vs H'
/-- what is wanted behind a statement -/
def EndsI (K : Frag) (D : Ends) (p : Ln.Fl × Rho) (H' : Hp) (α' : Al) : Prop := ∀ σ', RE K H' α' p.2 σ' → match p.1 with
  | .nx => D.nx σ' H'
  | .bk => D.bk σ' H'
  | .ct => D.ct σ' H'
  | .rt d => ∀ v, RD K H' α' d v → D.rt v H'
def TSI (K : Frag) (E : XS) (m : Rho → M (Ln.Fl × Rho)) : TS := fun D σ H => ∃ ρ α S, RS K H α S ∧ RE K H α ρ σ ∧ Pst K E H α (m ρ S) fun p _ H' α' => EndsI K D p H' α'

theorem pe_w {X : Cx} {e : Expr} {t t' : TE} (h : PE X e t) (k : ∀ σ H Q, t' σ H Q → t σ H Q) : PE X e t' := ⟨fun pins s σ H Q I q => h.run pins s σ H Q I (k _ _ _ q)⟩
theorem pt_w {X : Cx} {e : Expr} {t t' : TT} (h : PT X e t) (k : ∀ σ H Q, t' σ H Q → t σ H Q) : PT X e t' := ⟨fun pins s σ H Q I q => h.run pins s σ H Q I (k _ _ _ q)⟩
theorem pa_w {X : Cx} {e : List Expr} {t t' : TA} (h : PA X e t) (k : ∀ σ H Q, t' σ H Q → t σ H Q) : PA X e t' := ⟨fun pos pins s σ H Q I q => h.run pos pins s σ H Q I (k _ _ _ q)⟩
theorem ps_w {X : Cx} {e : Stmt} {t t' : TS} (h : PS X e t) (k : ∀ D σ H, t' D σ H → t D σ H) : PS X e t' := ⟨fun pins s σ H D I q => h.run pins s σ H D I (k _ _ _ q)⟩
theorem pss_w {X : Cx} {e : List Stmt} {t t' : TS} (h : PSs X e t) (k : ∀ D σ H, t' D σ H → t D σ H) : PSs X e t' := ⟨fun pins s σ H D I q => h.run pins s σ H D I (k _ _ _ q)⟩
end LnS

set_option linter.all false
set_option maxRecDepth 100000
/-! Ln: the operators' rules. -/
namespace LnS
open PySem L2 PyProof.Rows
open Ln (D O Store Rho M R Ex)

/-! ### lists of related values -/
section
variable {K : Frag} {H : Hp} {α : Al}
theorem RDs.length : ∀ {ds : List D} {vs : List V}, RDs K H α ds vs → ds.length = vs.length
  | _, _, .nil => rfl
  | _, _, .cons _ t => congrArg Nat.succ (RDs.length t)
theorem RDs.append : ∀ {ds es : List D} {vs ws : List V}, RDs K H α ds vs → RDs K H α es ws → RDs K H α (ds ++ es) (vs ++ ws)
  | _, _, _, _, .nil, q => q
  | _, _, _, _, .cons r t, q => .cons r (RDs.append t q)
theorem RDs.get : ∀ {ds : List D} {vs : List V}, RDs K H α ds vs → ∀ {i : Nat} {d : D}, ds[i]? = some d → ∃ v, vs[i]? = some v ∧ RD K H α d v
  | _, _, .cons r t, 0, _, e => by cases e; exact ⟨_, rfl, r⟩
  | _, _, .cons r t, i + 1, _, e => RDs.get t (i := i) (by simpa using e)
  | _, _, .nil, _, _, e => by simp at e
theorem RDs.take : ∀ {ds : List D} {vs : List V} (n : Nat), RDs K H α ds vs → RDs K H α (ds.take n) (vs.take n)
  | _, _, 0, _ => by simp only [List.take_zero]; exact .nil
  | _, _, _ + 1, .nil => .nil
  | _, _, n + 1, .cons r t => .cons r (RDs.take n t)
theorem RDs.drop : ∀ {ds : List D} {vs : List V} (n : Nat), RDs K H α ds vs → RDs K H α (ds.drop n) (vs.drop n)
  | _, _, 0, r => r
  | _, _, _ + 1, .nil => .nil
  | _, _, n + 1, .cons _ t => RDs.drop n t
theorem RDs.rep {ds : List D} {vs : List V} (r : RDs K H α ds vs) : ∀ k : Nat, RDs K H α (List.replicate k ds).flatten (List.replicate k vs).flatten
  | 0 => .nil
  | k + 1 => by rw [List.replicate_succ, List.replicate_succ, List.flatten_cons, List.flatten_cons]; exact r.append (r.rep k)
theorem RDs.reverse : ∀ {ds : List D} {vs : List V}, RDs K H α ds vs → RDs K H α ds.reverse vs.reverse
  | _, _, .nil => .nil
  | _, _, .cons r t => by rw [List.reverse_cons, List.reverse_cons]; exact (RDs.reverse t).append (.cons r .nil)
theorem RDs.set {d : D} {v : V} (q : RD K H α d v) : ∀ {ds : List D} {vs : List V} (i : Nat), RDs K H α ds vs → RDs K H α (ds.set i d) (vs.set i v)
  | _, _, _, .nil => .nil
  | _, _, 0, .cons _ t => .cons q t
  | _, _, i + 1, .cons r t => .cons r (RDs.set q i t)
theorem RDs.eraseIdx : ∀ {ds : List D} {vs : List V} (i : Nat), RDs K H α ds vs → RDs K H α (ds.eraseIdx i) (vs.eraseIdx i)
  | _, _, _, .nil => .nil
  | _, _, 0, .cons _ t => t
  | _, _, i + 1, .cons r t => .cons r (RDs.eraseIdx i t)
theorem RDs.nil_iff {ds : List D} {vs : List V} (r : RDs K H α ds vs) : ds = [] ↔ vs = [] := by cases r <;> simp
theorem RDs.isEmpty {ds : List D} {vs : List V} (r : RDs K H α ds vs) : ds.isEmpty = vs.isEmpty := by cases r <;> rfl
theorem RDs.intsD : ∀ {ds : List D} {vs : List V} {ns : List Int}, RDs K H α ds vs → Ln.intsD ds = some ns → vs = ns.map V.int
  | _, _, _, .nil, e => by cases e; rfl
  | _, _, _, .cons (d := d) r t, e => by
    cases r <;> first
      | (simp only [Ln.intsD, Option.map_eq_some_iff] at e
         obtain ⟨ns', e1, rfl⟩ := e
         rw [RDs.intsD t e1]; rfl)
      | (simp [Ln.intsD] at e)
theorem RDs.boolsD : ∀ {ds : List D} {vs : List V} {ns : List Bool}, RDs K H α ds vs → Ln.boolsD ds = some ns → vs = ns.map V.bl
  | _, _, _, .nil, e => by cases e; rfl
  | _, _, _, .cons (d := d) r t, e => by
    cases r <;> first
      | (simp only [Ln.boolsD, Option.map_eq_some_iff] at e
         obtain ⟨ns', e1, rfl⟩ := e
         rw [RDs.boolsD t e1]; rfl)
      | (simp [Ln.boolsD] at e)
theorem RDs.strsD : ∀ {ds : List D} {vs : List V} {ns : List Str}, RDs K H α ds vs → Ln.strsD ds = some ns → vs = ns.map V.str
  | _, _, _, .nil, e => by cases e; rfl
  | _, _, _, .cons (d := d) r t, e => by
    cases r <;> first
      | (simp only [Ln.strsD, Option.map_eq_some_iff] at e
         obtain ⟨ns', e1, rfl⟩ := e
         rw [RDs.strsD t e1]; rfl)
      | (simp [Ln.strsD] at e)
theorem rds_ints : ∀ ns : List Int, RDs K H α (ns.map D.int) (ns.map V.int)
  | [] => .nil
  | n :: ns => .cons (.int n) (rds_ints ns)

/-- a list's object -/
theorem lst_at {S : Store} (rs : RS K H α S) {d : D} {x : V} {xs : List D} (r : RD K H α d x) (e : Ln.lstOf S d = some xs) : ∃ a vs, x = .ref a ∧ H a = some (.lst vs) ∧ RDs K H α xs vs := by
  cases r <;> simp only [Ln.lstOf] at e <;> try (cases e; done)
  · rename_i n h q; cases e; exact ⟨_, _, rfl, h, q⟩
  · rename_i n a h
    split at e
    · rename_i ys hS
      cases e
      obtain ⟨vs, h1, h2⟩ := rs.at_ n a _ h hS
      exact ⟨a, vs, rfl, h1, h2⟩
    · cases e
theorem seq_at {S : Store} (rs : RS K H α S) {d : D} {x : V} {xs : List D} (r : RD K H α d x) (e : Ln.seqOf S d = some xs) : ∃ a vs, x = .ref a ∧ (SqL K H a vs ∨ SqT K H a vs) ∧ RDs K H α xs vs := by
  cases r <;> simp only [Ln.seqOf] at e <;> try (cases e; done)
  · rename_i h q; cases e; exact ⟨_, _, rfl, .inr h, q⟩
  · rename_i n h q; cases e; exact ⟨_, _, rfl, .inl (SqL.of h), q⟩
  · rename_i h q; cases e; exact ⟨_, _, rfl, .inl h.sq, q⟩
  · rename_i n a h
    split at e
    · rename_i ys hS
      cases e
      obtain ⟨vs, h1, h2⟩ := rs.at_ n a _ h hS
      exact ⟨a, vs, rfl, .inl (SqL.of h1), h2⟩
    · cases e
/-- a new list by value -/
theorem new_lst {S : Store} (rs : RS K H α S) {p : Addr} {xs : List D} {vs : List V} (hp : H p = none) (q : RDs K H α xs vs) : After K α H α (upd H p (.lst vs)) S ∧ RD K (upd H p (.lst vs)) α (.lst xs) (.ref p) := by
  have a := After.new (o := .lst vs) rs hp
  refine ⟨a, .lst (fun z => ?_) upd_same (a.rds q)⟩
  obtain ⟨o, e, _⟩ := rs.mut z
  rw [hp] at e; cases e
theorem new_tup {S : Store} (rs : RS K H α S) {p : Addr} {xs : List D} {vs : List V} (hp : H p = none) (q : RDs K H α xs vs) : After K α H α (upd H p (.tup vs)) S ∧ RD K (upd H p (.tup vs)) α (.tup xs) (.ref p) := by
  have a := After.new (o := .tup vs) rs hp
  exact ⟨a, .tup (SqT.of upd_same) (a.rds q)⟩
end

/-! ### binary operators -/
def opOf : Ln.Bop → Operator
  | .add => .Add
  | .sub => .Sub
  | .mul => .Mult
  | .fdiv => .FloorDiv
  | .mod => .Mod
  | .pow => .Pow
/-- an operation that leaves the store, by values -/
def rO (K : Frag) (f : D → D → Store → Option D) : R2 := fun x y H Q => ∃ α S dx dy d, RS K H α S ∧ RD K H α dx x ∧ RD K H α dy y ∧ f dx dy S = some d ∧ ∀ v H' α', After K α H α' H' S → RD K H' α' d v → Q v H'
def rOB (K : Frag) (f : D → D → Store → Option Bool) : R2 := fun x y H Q => ∃ α S dx dy b, RS K H α S ∧ RD K H α dx x ∧ RD K H α dy y ∧ f dx dy S = some b ∧ Q (.bl b) H

theorem op_pow2 {X : Cx} : OpR X (binaryOp .Pow) (rI (fun i j => Ln.powOk i j = true) fun i j => .int (i ^ j.toNat)) := opI fun i j _ _ _ _ _ hc q => by
  unfold Ln.powOk at hc
  rw [Bool.and_eq_true, decide_eq_true_eq, decide_eq_true_eq] at hc
  refine pow_int hc.1 ?_ q
  have b : Builtin.Int.intBits i ≤ i.natAbs.log2 + 1 := by
    unfold Builtin.Int.intBits
    split <;> omega
  have b' : ((Builtin.Int.intBits i : Nat) : Int) * j ≤ ((i.natAbs.log2 + 1 : Nat) : Int) * j := Int.mul_le_mul_of_nonneg_right (by omega) hc.1
  exact Int.le_trans b' hc.2
theorem op_mul2 {X : Cx} : OpR X (binaryOp .Mult) (rI (fun i j => Ln.mulOk i j = true) fun i j => .int (i * j)) := opI fun i j _ _ _ _ _ hc q => by
  unfold Ln.mulOk Ln.small64 at hc
  simp only [Bool.or_eq_true, Bool.and_eq_true, decide_eq_true_eq] at hc
  rcases hc with (h | h) | h
  · exact mul_int q (CMul.ok (.inl h))
  · exact mul_int q (CMul.ok (.inr h))
  · exact mul_int q (CMulW.ok h)
theorem op_fdiv2 {X : Cx} : OpR X (binaryOp .FloorDiv) (rI (fun i j => Ln.divOk j = true) fun i j => .int (i.fdiv j)) := opI fun i j _ _ _ _ _ hc q => by
  unfold Ln.divOk at hc
  rw [Bool.and_eq_true, decide_eq_true_eq, decide_eq_true_eq] at hc
  exact floordiv_int hc.1 q (.inl (PyProof.noPylong_of_log2 hc.2))
theorem op_int {X : Cx} (o : Ln.Bop) {pins : List (Addr × Obj)} {s : Shared} {σ : L2.St} {H : Hp} {a b : Int} {v u : Value} {Q : VK} {k : Int} (I : Inv X pins σ H s) (rx : RelV (.int a) v) (ry : RelV (.int b) u)
    (e : Ln.intOp o a b = some k) (q : Q (.int k) H) : wpAny (model X.prog X.w) X.A (binaryOp (opOf o) v u) (EP X pins σ Q) X.xe s := by
  cases o <;> simp only [Ln.intOp] at e
  · cases e; exact op_add pins s σ H _ _ v u Q I rx ry ⟨a, b, rfl, rfl, q⟩
  · cases e; exact op_sub pins s σ H _ _ v u Q I rx ry ⟨a, b, rfl, rfl, q⟩
  · split at e
    · rename_i h; cases e; exact op_mul2 pins s σ H _ _ v u Q I rx ry ⟨a, b, rfl, rfl, h, q⟩
    · cases e
  · split at e
    · rename_i h; cases e; exact op_fdiv2 pins s σ H _ _ v u Q I rx ry ⟨a, b, rfl, rfl, h, q⟩
    · cases e
  · split at e
    · rename_i h; cases e; exact op_modN pins s σ H _ _ v u Q I rx ry ⟨a, b, rfl, rfl, h, q⟩
    · cases e
  · split at e
    · rename_i h; cases e; exact op_pow2 pins s σ H _ _ v u Q I rx ry ⟨a, b, rfl, rfl, h, q⟩
    · cases e

/-! tuple * int, the cases that HandS leaves: the tuple itself, and the empty one -/
theorem tuple_mul_same (l : Addr) (items : Array Value) (n : Nat) (dd : Option Addr) (sl : Array (Option Value)) (x : Int) (u : Tok) (c0 : (decide (x < -(2 ^ 63)) || decide (x ≥ 2 ^ 63)) = false) (c1 : (items.isEmpty || x == 1) = true) :
    Meets (Builtin.«tuple.__mul__» ⟨[.ref l, .int x u], []⟩) (fun _ R s => s.heap.get? l = some { cls := .type "tuple", dict := dd, data := .seq items n, slots := sl } ∧ R (.ok (.ret (Value.ref l))) s) :=
  .of_wp fun prog w A R s h => by
    obtain ⟨hp, g, d, tk, os⟩ := s
    obtain ⟨hl, h⟩ := h
    have f1 := AutoSeq1.idx_int
    wp_walk using wpAny_loadPart' hl
    repeat (first
      | (refine wpAny_ite_false (decide_eq_false (by rw [c0]; exact Bool.false_ne_true)) ?_; wp_walk using wpAny_loadPart' hl)
      | (refine wpAny_ite_true (decide_eq_true c1) ?_; wp_walk using wpAny_loadPart' hl))
    exact ⟨_, rfl, h⟩
theorem tuple_mul_none (l : Addr) (items : Array Value) (n : Nat) (dd : Option Addr) (sl : Array (Option Value)) (x : Int) (u : Tok) (c0 : (decide (x < -(2 ^ 63)) || decide (x ≥ 2 ^ 63)) = false) (c1 : (items.isEmpty || x == 1) = false) (c2 : (decide (x ≤ 0) || items.isEmpty) = true) :
    Meets (Builtin.«tuple.__mul__» ⟨[.ref l, .int x u], []⟩) (fun _ R s => s.heap.get? l = some { cls := .type "tuple", dict := dd, data := .seq items n, slots := sl } ∧
      R (.ok (.ret (Value.ref s.heap.objs.size))) { s with heap := s.heap.push { cls := Value.type "tuple", data := Data.seq #[] }, toks := s.toks }) :=
  .of_wp fun prog w A R s h => by
    obtain ⟨hp, g, d, tk, os⟩ := s
    obtain ⟨hl, h⟩ := h
    have f1 := AutoSeq1.idx_int
    wp_walk using wpAny_loadPart' hl
    repeat (first
      | (refine wpAny_ite_false (decide_eq_false (by rw [c0]; exact Bool.false_ne_true)) ?_; wp_walk using wpAny_loadPart' hl)
      | (refine wpAny_ite_false (decide_eq_false (by rw [c1]; exact Bool.false_ne_true)) ?_; wp_walk using wpAny_loadPart' hl)
      | (refine wpAny_ite_true (decide_eq_true c2) ?_; wp_walk using wpAny_loadPart' hl))
    exact ⟨_, rfl, h⟩

theorem rep_one {α : Type} (xs : List α) {k : Int} (h : xs = [] ∨ k = 1) : (List.replicate k.toNat xs).flatten = xs := by
  rcases h with rfl | rfl
  · generalize k.toNat = n
    induction n with
    | zero => rfl
    | succ n ih => rw [List.replicate_succ, List.flatten_cons, ih]; rfl
  · show (List.replicate 1 xs).flatten = xs
    simp
theorem op_repT2 {X : Cx} : OpR X (binaryOp .Mult) (fun x y H Q => ∃ l k xs, x = .ref l ∧ y = .int k ∧ SqT X.K H l xs ∧ -1000 ≤ k ∧ k ≤ 1000 ∧ xs.length ≤ 1000 ∧
    ((xs = [] ∨ k = 1) → Q (.ref l) H) ∧ (∀ p, H p = none → Q (.ref p) (upd H p (.tup (List.replicate k.toNat xs).flatten)))) := by
  intro pins s σ H x y v u Q I rx ry h
  obtain ⟨l, k, xs, rfl, rfl, hT, h1, h2, hz, q1, q2⟩ := h
  by_cases hne : xs = []
  · cases rx
    obtain ⟨t, rfl⟩ := ry
    obtain ⟨its, r, ⟨⟨cls, dd, data, sl⟩, ho, hc, n, hd⟩, hs⟩ := I.tuple hT
    simp only at hc hd
    subst hc hd hne
    cases r
    have c0 : (decide (k < -(2 ^ 63)) || decide (k ≥ 2 ^ 63)) = false := by
      rw [decide_eq_false (by omega), decide_eq_false (by omega)] <;> rfl
    refine wpAny_binaryOp_repeat_ref (T := "tuple") (U := "int") (by decide) ⟨_, ho, rfl⟩ (fun s' => typeIs_int s' k t) noFill_tuple_mul F.fills_int_mul F.slot_int_rmul repeat_tuple F.slot_int_index.lookup
      (call_meets F.slot_int_rmul (typeIs_int s k t) F.entry_int_rmul (F.args_int_rmul_2 _ _) (int_rmul_tuple k t l _ n dd sl)
        ⟨ho, rfl, ⟨_, ho, rfl⟩, call_meets F.slot_tuple_mul ⟨_, ho, rfl⟩ F.entry_tuple_mul (F.args_tuple_mul_2 _ _) (tuple_mul_same l _ n dd sl k t c0 rfl) ⟨ho, ?_⟩⟩)
    exact ⟨.ref l, H, I, rfl, q1 (.inl rfl)⟩
  · by_cases hk : 2 ≤ k
    · exact op_repT pins s σ H _ _ v u Q I rx ry ⟨l, k, xs, rfl, rfl, hT, hne, hk, h2, hz, q2⟩
    · cases rx
      obtain ⟨t, rfl⟩ := ry
      obtain ⟨its, r, ⟨⟨cls, dd, data, sl⟩, ho, hc, n, hd⟩, hs⟩ := I.tuple hT
      simp only at hc hd
      subst hc hd
      have hi : its.toArray.isEmpty = false := by
        cases r with
        | nil => exact absurd rfl hne
        | cons a b => simp
      have c0 : (decide (k < -(2 ^ 63)) || decide (k ≥ 2 ^ 63)) = false := by
        rw [decide_eq_false (by omega), decide_eq_false (by omega)] <;> rfl
      by_cases hk1 : k = 1
      · refine wpAny_binaryOp_repeat_ref (T := "tuple") (U := "int") (by decide) ⟨_, ho, rfl⟩ (fun s' => typeIs_int s' k t) noFill_tuple_mul F.fills_int_mul F.slot_int_rmul repeat_tuple F.slot_int_index.lookup
          (call_meets F.slot_int_rmul (typeIs_int s k t) F.entry_int_rmul (F.args_int_rmul_2 _ _) (int_rmul_tuple k t l _ n dd sl)
            ⟨ho, rfl, ⟨_, ho, rfl⟩, call_meets F.slot_tuple_mul ⟨_, ho, rfl⟩ F.entry_tuple_mul (F.args_tuple_mul_2 _ _) (tuple_mul_same l _ n dd sl k t c0 (by rw [hi, hk1]; rfl)) ⟨ho, ?_⟩⟩)
        exact ⟨.ref l, H, I, rfl, q1 (.inr hk1)⟩
      · refine wpAny_binaryOp_repeat_ref (T := "tuple") (U := "int") (by decide) ⟨_, ho, rfl⟩ (fun s' => typeIs_int s' k t) noFill_tuple_mul F.fills_int_mul F.slot_int_rmul repeat_tuple F.slot_int_index.lookup
          (call_meets F.slot_int_rmul (typeIs_int s k t) F.entry_int_rmul (F.args_int_rmul_2 _ _) (int_rmul_tuple k t l _ n dd sl)
            ⟨ho, rfl, ⟨_, ho, rfl⟩, call_meets F.slot_tuple_mul ⟨_, ho, rfl⟩ F.entry_tuple_mul (F.args_tuple_mul_2 _ _) (tuple_mul_none l _ n dd sl k t c0 (by rw [hi, Bool.false_or]; exact beq_eq_false_iff_ne.mpr hk1) (by rw [decide_eq_true (by omega)]; rfl)) ⟨ho, ?_⟩⟩)
        have e0 : k.toNat = 0 := by omega
        have q3 := q2 _ (I.hok.fresh (Nat.le_refl _))
        rw [e0] at q3
        refine ⟨.ref s.heap.objs.size, _, I.laid (t' := s.toks) (o := .tup []) (fun b ob q => Heap.get?_push_of_some _ q) (Nat.le_refl _) ?_, rfl, q3⟩
        exact ⟨Nat.zero_le _, [], .nil, IsTup.new _ _⟩

theorem op_bop {X : Cx} (o : Ln.Bop) : OpR X (binaryOp (opOf o)) (rO X.K (Ln.bop o)) := by
  intro pins s σ H x y v u Q I rx ry h
  obtain ⟨α, S, dx, dy, d, rs, r1, r2, e, q⟩ := h
  have lists : ∀ {xs ys : List D}, Ln.lstOf S dx = some xs → Ln.lstOf S dy = some ys → o = .add → xs.length + ys.length ≤ Ln.line → d = .lst (xs ++ ys) →
      wpAny (model X.prog X.w) X.A (binaryOp (opOf o) v u) (EP X pins σ Q) X.xe s := fun {xs ys} e1 e2 eo hl ed => by
    subst eo ed
    obtain ⟨a, vs, rfl, h1, q1⟩ := lst_at rs r1 e1
    obtain ⟨b, ws, rfl, h2, q2⟩ := lst_at rs r2 e2
    refine op_cat pins s σ H _ _ v u Q I rx ry ⟨a, b, vs, ws, rfl, rfl, h1, h2, by rw [← q1.length, ← q2.length]; exact hl, fun p hp => ?_⟩
    obtain ⟨af, rd⟩ := new_lst rs hp (q1.append q2)
    exact q _ _ _ af rd
  have listsI : ∀ {xs : List D} {k : Int}, Ln.lstOf S dx = some xs → dy = .int k → o = .mul → Ln.small63 k = true → xs.length * k.toNat ≤ Ln.line → d = .lst (List.replicate k.toNat xs).flatten →
      wpAny (model X.prog X.w) X.A (binaryOp (opOf o) v u) (EP X pins σ Q) X.xe s := fun {xs k} e1 e2 eo hs hl ed => by
    subst eo ed e2
    obtain ⟨a, vs, rfl, h1, q1⟩ := lst_at rs r1 e1
    cases r2
    unfold Ln.small63 at hs
    rw [Bool.and_eq_true, decide_eq_true_eq, decide_eq_true_eq] at hs
    refine op_rep pins s σ H _ _ v u Q I rx ry ⟨a, k, vs, rfl, rfl, h1, hs.1, hs.2, by rw [← q1.length]; exact hl, fun p hp => ?_⟩
    obtain ⟨af, rd⟩ := new_lst rs hp (q1.rep k.toNat)
    exact q _ _ _ af rd
  unfold Ln.bop at e
  split at e
  · -- intsD
    rename_i a b
    cases r1; cases r2
    rw [Option.map_eq_some_iff] at e
    obtain ⟨k, e, rfl⟩ := e
    exact op_int o I rx ry e (q _ _ _ (.refl rs) (.int k))
  · rename_i a b
    cases r1; cases r2
    split at e
    · split at e
      · rename_i hl
        cases e
        exact op_add_str pins s σ H _ _ v u Q I rx ry ⟨a, b, rfl, rfl, hl, q _ _ _ (.refl rs) (.str _)⟩
      · cases e
    · cases e
  · rename_i xs ys
    split at e
    · split at e
      · rename_i hl
        cases e
        have r1' := r1
        have r2' := r2
        cases r1 with
        | tup h1 q1 =>
        cases r2 with
        | tup h2 q2 =>
        rename_i a vs b ws
        refine op_catA pins s σ H _ _ v u Q I rx ry ⟨_, _, _, _, rfl, rfl, h1, h2, by rw [← q1.length, ← q2.length]; exact hl, fun z => ?_, fun _ z => ?_, fun _ _ p hp => ?_⟩
        · have := q1.nil_iff.mpr z
          subst this
          exact q _ _ _ (.refl rs) r2'
        · have := q2.nil_iff.mpr z
          subst this
          rw [List.append_nil] at q
          exact q _ _ _ (.refl rs) r1'
        · obtain ⟨af, rd⟩ := new_tup rs hp (q1.append q2)
          exact q _ _ _ af rd
      · cases e
    · cases e
  · rename_i xs k
    split at e
    · split at e
      · rename_i hc
        cases e
        simp only [Bool.and_eq_true, decide_eq_true_eq] at hc
        have r1' := r1
        cases r1 with
        | tup h1 q1 =>
        cases r2
        refine op_repT2 pins s σ H _ _ v u Q I rx ry ⟨_, _, _, rfl, rfl, h1, hc.1.1, hc.1.2, by rw [← q1.length]; exact hc.2, fun z => ?_, fun p hp => ?_⟩
        · rw [rep_one xs (z.imp (fun z => q1.nil_iff.mpr z) id)] at q
          exact q _ _ _ (.refl rs) r1'
        · obtain ⟨af, rd⟩ := new_tup rs hp (q1.rep k.toNat)
          exact q _ _ _ af rd
      · cases e
    · cases e
  · rename_i k _ _
    split at e
    · rename_i xs e1
      split at e
      · rename_i hc
        cases e
        rw [Bool.and_eq_true, decide_eq_true_eq] at hc
        exact listsI e1 rfl rfl hc.1 hc.2 rfl
      · cases e
    · cases e
  · split at e
    · rename_i xs ys e1 e2
      split at e
      · rename_i hc
        cases e
        exact lists e1 e2 rfl hc rfl
      · cases e
    · cases e

/-! ### values as data -/
theorem mapM_nil {α β : Type} {f : α → Option β} {ys : List β} (e : ([] : List α).mapM f = some ys) : ys = [] := by
  simp at e; exact e
theorem mapM_cons {α β : Type} {f : α → Option β} {x : α} {xs : List α} {ys : List β} (e : (x :: xs).mapM f = some ys) : ∃ y ys', f x = some y ∧ xs.mapM f = some ys' ∧ ys = y :: ys' := by
  simp only [List.mapM_cons, Option.bind_eq_bind, Option.pure_def] at e
  cases h1 : f x with
  | none => rw [h1] at e; cases e
  | some y =>
    rw [h1] at e
    cases h2 : xs.mapM f with
    | none => rw [h2] at e; cases e
    | some ys' =>
      rw [h2] at e
      cases e
      exact ⟨y, ys', rfl, rfl, rfl⟩

section
variable {X : Cx} {pins : List (Addr × Obj)} {σ : L2.St} {H : Hp} {s : Shared} {α : Al} {S : Store}
theorem kv_vals {kvs : List (Key × V)} {vs : List (Key × Value)} (r : KV kvs vs) : Vals (kvs.map (·.2)) (vs.map (·.2)) := by
  induction r with
  | nil => exact .nil
  | cons h _ ih => exact .cons h.2 ih
theorem kv_pairs {P : Program} {w : World} {es : List DictEntry} {ws : List (Key × Value)} (p : Pairs (mixKind P w) es ws) : ∀ {kvs : List (Key × V)}, KV kvs ws → Vals (kvs.map fun p => kV p.1) (es.map (·.key)) ∧ Vals (kvs.map (·.2)) (es.map (·.val)) := by
  induction p with
  | nil => intro kvs r; cases r; exact ⟨.nil, .nil⟩
  | cons h1 h2 t ih =>
    intro kvs r
    cases r with
    | cons h r =>
    obtain ⟨i1, i2⟩ := ih r
    refine ⟨.cons ?_ i1, .cons ?_ i2⟩
    · rw [← h.1] at h1
      rcases keyIs_shape h1 with ⟨i, t, e1, e2⟩ | ⟨x, t, e1, e2⟩
      · simp only []
        rw [e1, e2]; exact ⟨t, rfl⟩
      · simp only []
        rw [e1, e2]; exact ⟨t, rfl⟩
    · simp only []
      rw [h2]; exact h.2
theorem mapM_len {α β : Type} {f : α → Option β} : ∀ {xs : List α} {ys : List β}, xs.mapM f = some ys → ys.length = xs.length
  | [], _, e => by rw [mapM_nil e]; rfl
  | x :: xs, _, e => by
    obtain ⟨y, ys', _, e2, rfl⟩ := mapM_cons e
    rw [List.length_cons, List.length_cons, mapM_len e2]
/-- what a value reads as, with the addresses of its lists and dicts: none is the table of modules -/
theorem reads_of (I : Inv X pins σ H s) (rs : RS X.K H α S) : ∀ (k : Nat) (d : D) (v : V) (u : Value) (p : PyData), RD X.K H α d v → RelV v u → Ln.toP S k d = some p → ∃ as, Reads s.heap u p as ∧ sysModules ∉ as := by
  have ns : ∀ {a : Addr} {o : HO}, H a = some o → (∀ φ, o ≠ .ext φ) → a ≠ sysModules := fun {a o} h n z => by
    obtain ⟨φ, e⟩ := rs.sm
    rw [z, e] at h
    cases h
    exact n φ rfl
  have seqs : ∀ (k : Nat), (∀ (d : D) (v : V) (u : Value) (p : PyData), RD X.K H α d v → RelV v u → Ln.toP S k d = some p → ∃ as, Reads s.heap u p as ∧ sysModules ∉ as) →
      ∀ (ds : List D) (vs : List V) (us : List Value) (ps : List PyData), RDs X.K H α ds vs → Vals vs us → ds.mapM (Ln.toP S k) = some ps → ∃ as, ReadsAll s.heap us ps as ∧ sysModules ∉ as := by
    intro k ih ds
    induction ds with
    | nil =>
      intro vs us ps r v e
      cases r; cases v
      rw [mapM_nil e]
      exact ⟨[], .nil, by simp⟩
    | cons d ds ihs =>
      intro vs us ps r v e
      cases r with
      | cons r1 r2 =>
      cases v with
      | cons v1 v2 =>
      obtain ⟨p, ps', e1, e2, rfl⟩ := mapM_cons e
      obtain ⟨as, h1, g1⟩ := ih _ _ _ _ r1 v1 e1
      obtain ⟨bs, h2, g2⟩ := ihs _ _ _ r2 v2 e2
      exact ⟨as ++ bs, .cons h1 h2, fun z => (List.mem_append.mp z).elim g1 g2⟩
  have lst : ∀ (k : Nat), (∀ (d : D) (v : V) (u : Value) (p : PyData), RD X.K H α d v → RelV v u → Ln.toP S k d = some p → ∃ as, Reads s.heap u p as ∧ sysModules ∉ as) →
      ∀ (a : Addr) (xs : List D) (vs : List V) (ps : List PyData), H a = some (.lst vs) → RDs X.K H α xs vs → xs.mapM (Ln.toP S k) = some ps → ∃ as, Reads s.heap (.ref a) (.list ps) as ∧ sysModules ∉ as := by
    intro k ih a xs vs ps h r e
    obtain ⟨hz, its, n, rv, ho⟩ := (show ObjOk X.prog X.w H s.heap a (.lst vs) from I.hok a _ h)
    obtain ⟨as, h1, g1⟩ := seqs k ih _ _ _ _ r rv e
    refine ⟨a :: as, Reads.list ho rfl rfl h1, fun z => ?_⟩
    rcases List.mem_cons.mp z with z | z
    · exact ns h (fun φ q => nomatch q) z.symm
    · exact g1 z
  have dct : ∀ (k : Nat), (∀ (d : D) (v : V) (u : Value) (p : PyData), RD X.K H α d v → RelV v u → Ln.toP S k d = some p → ∃ as, Reads s.heap u p as ∧ sysModules ∉ as) →
      ∀ (a : Addr) (ks vs : List D) (kvs : List (Key × V)) (p : PyData), H a = some (.dK kvs) → RDs X.K H α ks (kvs.map fun p => kV p.1) → RDs X.K H α vs (kvs.map (·.2)) →
        ((ks.mapM (Ln.toP S k)).bind fun a => (vs.mapM (Ln.toP S k)).map fun b => PyData.dict (a.zip b)) = some p → ∃ as, Reads s.heap (.ref a) p as ∧ sysModules ∉ as := by
    intro k ih a ks vs kvs p h r1 r2 e
    obtain ⟨hz, hsm, ws, kv, o, es, ep, ho, ex, hd, hko, hp, hn⟩ := (show ObjOk X.prog X.w H s.heap a (.dK kvs) from I.hok a _ h)
    cases e1 : ks.mapM (Ln.toP S k) with
    | none => rw [e1] at e; cases e
    | some pa =>
    cases e2 : vs.mapM (Ln.toP S k) with
    | none => rw [e1, e2] at e; cases e
    | some pb =>
    rw [e1, e2] at e
    cases e
    obtain ⟨v1, v2⟩ := kv_pairs hp kv
    obtain ⟨as, h1, g1⟩ := seqs k ih _ _ _ _ r1 v1 e1
    obtain ⟨bs, h2, g2⟩ := seqs k ih _ _ _ _ r2 v2 e2
    have l1 := mapM_len e1
    have l2 := mapM_len e2
    have l3 := r1.length
    have l4 := r2.length
    rw [List.length_map] at l3 l4
    have z1 : (pa.zip pb).map (·.1) = pa := List.map_fst_zip (by omega)
    have z2 : (pa.zip pb).map (·.2) = pb := List.map_snd_zip (by omega)
    refine ⟨a :: as ++ bs, Reads.dict ho ex.1 hd (by rw [z1]; exact h1) (by rw [z2]; exact h2), fun z => ?_⟩
    rcases List.mem_append.mp z with z | z
    · rcases List.mem_cons.mp z with z | z
      · exact ns h (fun φ q => nomatch q) z.symm
      · exact g1 z
    · exact g2 z
  intro k
  induction k with
  | zero =>
    intro d v u p r rv e
    cases r <;> simp only [Ln.toP] at e <;> (try cases e)
    · cases rv; exact ⟨_, .none, by simp⟩
    · cases rv; exact ⟨_, .bool _, by simp⟩
    · obtain ⟨t, rfl⟩ := rv; exact ⟨_, .int _ _, by simp⟩
    · obtain ⟨t, rfl⟩ := rv; exact ⟨_, .str _ _, by simp⟩
  | succ k ih =>
    intro d v u p r rv e
    cases r with
    | non => cases e; cases rv; exact ⟨_, .none, by simp⟩
    | bl b => cases e; cases rv; exact ⟨_, .bool _, by simp⟩
    | int i => cases e; obtain ⟨t, rfl⟩ := rv; exact ⟨_, .int _ _, by simp⟩
    | str x => cases e; obtain ⟨t, rfl⟩ := rv; exact ⟨_, .str _ _, by simp⟩
    | tup h r =>
      cases rv
      simp only [Ln.toP, Option.map_eq_some_iff] at e
      obtain ⟨ps, e, rfl⟩ := e
      obtain ⟨its, rv, ⟨o, ho, hc, n, hd⟩, _⟩ := I.tuple h
      obtain ⟨as, h1, g1⟩ := seqs k ih _ _ _ _ r rv e
      exact ⟨as, Reads.tuple ho hc hd h1, g1⟩
    | lst n h r =>
      cases rv
      simp only [Ln.toP, Option.map_eq_some_iff] at e
      obtain ⟨ps, e, rfl⟩ := e
      exact lst k ih _ _ _ _ h r e
    | frz h r => cases e
    | dct n h r1 r2 =>
      cases rv
      exact dct k ih _ _ _ _ _ h r1 r2 e
    | ref h =>
      cases rv
      simp only [Ln.toP] at e
      split at e
      · rename_i xs hS
        obtain ⟨vs, h1, h2⟩ := rs.at_ _ _ _ h hS
        rw [Option.map_eq_some_iff] at e
        obtain ⟨ps, e, rfl⟩ := e
        exact lst k ih _ _ _ _ h1 h2 e
      · rename_i ks vs hS
        obtain ⟨kvs, h1, h2, h3⟩ := rs.at_ _ _ _ h hS
        exact dct k ih _ _ _ _ _ h1 h2 h3 e
      · cases e
end

/-! ### comparisons -/
def copOf : Ln.Cop → CmpOp
  | .eq => .Eq
  | .ne => .NotEq
  | .lt => .Lt
  | .le => .LtE
  | .gt => .Gt
  | .ge => .GtE
  | .is => .Is
  | .isNot => .IsNot
  | .isIn => .In
  | .notIn => .NotIn
theorem eqP_split {S : Store} {x y : D} {b : Bool} (e : Ln.eqP S x y = some b) : ∃ p q, Ln.dat S x = some p ∧ Ln.dat S y = some q ∧ SeqAt.shaped p = true ∧ SeqAt.shaped q = true ∧ b = PyData.eqv p q := by
  unfold Ln.eqP at e
  split at e
  · rename_i p q h1 h2
    split at e
    · rename_i h
      cases e
      rw [Bool.and_eq_true] at h
      exact ⟨p, q, h1, h2, h.1, h.2, rfl⟩
    · cases e
  · cases e
theorem mapM_dat {S : Store} {ys : List D} {ps : List PyData} (e : ys.mapM (Ln.dat S) = some ps) : ys.mapM (Ln.toP S 24) = some ps := e
theorem isD_bool {dx : D} {b : Bool} {y : D} (e : Ln.isD dx y = some b) : (y = .non) ∨ (∃ k, y = .bl k) := by
  cases y <;> simp [Ln.isD] at e ⊢
section
variable {X : Cx}
theorem is_none_any {pins : List (Addr × Obj)} {s : Shared} {σ : L2.St} {H : Hp} {α : Al} {dx : D} {x : V} {v u : Value} {Q : VK} {b : Bool} {c : CmpOp} (neg : Bool) (hc : c = if neg then .IsNot else .Is) (I : Inv X pins σ H s) (r1 : RD X.K H α dx x) (rx : RelV x v) (ry : RelV .non u)
    (e : Ln.isD dx .non = some b) (q : Q (.bl (if neg then !b else b)) H) : wpAny (model X.prog X.w) X.A (compareOp c v u) (EP X pins σ Q) X.xe s := by
  have eb : b = decide (x = .non) := by
    cases r1 <;> simp [Ln.isD] at e <;> simp [e]
  subst eb
  cases neg with
  | true =>
    rw [hc]
    exact op_notN pins s σ H _ _ v u Q I rx ry ⟨rfl, q⟩
  | false =>
    rw [hc]
    exact op_isN pins s σ H _ _ v u Q I rx ry ⟨rfl, q⟩
end

section
variable {X : Cx}
theorem op_eqs (neg : Bool) {c : CmpOp} (hc : c = if neg then .NotEq else .Eq) (hu : X.A.units + 64 < cLine) : OpR X (compareOp c) (rOB X.K fun x y S => (Ln.eqD S x y).map fun b => if neg then !b else b) := by
  intro pins s σ H x y v u Q I rx ry h
  obtain ⟨α, S, dx, dy, b, rs, r1, r2, e, q⟩ := h
  rw [Option.map_eq_some_iff] at e
  obtain ⟨b', e, rfl⟩ := e
  have e : (∃ i j, dx = .int i ∧ dy = .int j ∧ b' = decide (i = j)) ∨ (∃ i j, dx = .str i ∧ dy = .str j ∧ b' = decide (i = j)) ∨ Ln.eqP S dx dy = some b' := by
    unfold Ln.eqD at e
    split at e
    · cases e; exact .inl ⟨_, _, rfl, rfl, rfl⟩
    · cases e; exact .inr (.inl ⟨_, _, rfl, rfl, rfl⟩)
    · exact .inr (.inr e)
  rcases e with ⟨i, j, rfl, rfl, rfl⟩ | ⟨i, j, rfl, rfl, rfl⟩ | e
  · cases r1; cases r2
    cases neg with
    | true => rw [hc]; exact op_ne pins s σ H _ _ v u Q I rx ry ⟨rfl, by simpa using q⟩
    | false => rw [hc]; exact op_eq pins s σ H _ _ v u Q I rx ry ⟨rfl, by simpa using q⟩
  · cases r1; cases r2
    cases neg with
    | true => rw [hc]; exact op_ne pins s σ H _ _ v u Q I rx ry ⟨rfl, by simpa using q⟩
    | false => rw [hc]; exact op_eq pins s σ H _ _ v u Q I rx ry ⟨rfl, by simpa using q⟩
  obtain ⟨p, p', e1, e2, s1, s2, rfl⟩ := eqP_split e
  obtain ⟨as, h1, _⟩ := reads_of I rs _ _ _ _ _ r1 rx e1
  obtain ⟨bs, h2, _⟩ := reads_of I rs _ _ _ _ _ r2 ry e2
  cases neg with
  | true => rw [hc]; exact SeqAt.compareNe_shaped h1 h2 s1 s2 hu ⟨.bl _, H, I, rfl, q⟩
  | false => rw [hc]; exact SeqAt.compareEq_shaped h1 h2 s1 s2 hu ⟨.bl _, H, I, rfl, q⟩
theorem op_iss (neg : Bool) {c : CmpOp} (hc : c = if neg then .IsNot else .Is) : OpR X (compareOp c) (rOB X.K fun x y S => (Ln.isD x y).map fun b => if neg then !b else b) := by
  intro pins s σ H x y v u Q I rx ry h
  obtain ⟨α, S, dx, dy, b, rs, r1, r2, e, q⟩ := h
  rw [Option.map_eq_some_iff] at e
  obtain ⟨b', e, rfl⟩ := e
  rcases isD_bool e with rfl | ⟨k, rfl⟩
  · cases r2
    exact is_none_any neg hc I r1 rx ry e q
  · cases r2
    cases r1 <;> simp [Ln.isD] at e
    subst e
    cases neg with
    | true => rw [hc]; refine op_notBl pins s σ H _ _ v u Q I rx ry ⟨_, _, rfl, rfl, ?_⟩; simpa [Bool.beq_eq_decide_eq] using q
    | false => rw [hc]; refine op_isBl pins s σ H _ _ v u Q I rx ry ⟨_, _, rfl, rfl, ?_⟩; simpa [Bool.beq_eq_decide_eq] using q
theorem op_ins (neg : Bool) {c : CmpOp} (hc : c = if neg then .NotIn else .In) (hu : X.A.units + 65 < cLine) : OpR X (compareOp c) (rOB X.K fun x y S => (Ln.inD S x y).map fun b => if neg then !b else b) := by
  intro pins s σ H x y v u Q I rx ry h
  obtain ⟨α, S, dx, dy, b, rs, r1, r2, e, q⟩ := h
  rw [Option.map_eq_some_iff] at e
  obtain ⟨b', e, rfl⟩ := e
  unfold Ln.inD at e
  split at e
  · rename_i z
    split at e
    · rename_i z'
      cases e
      cases r1; cases r2
      cases neg with
      | true => rw [hc]; exact op_notin_str pins s σ H _ _ v u Q I rx ry ⟨_, _, rfl, rfl, q⟩
      | false => rw [hc]; exact op_in_str pins s σ H _ _ v u Q I rx ry ⟨_, _, rfl, rfl, q⟩
    · cases e
  · rename_i hstr
    split at e
    · rename_i p ys e1 e2
      split at e
      · rename_i ps e3
        split at e
        · rename_i hs
          cases e
          rw [Bool.and_eq_true] at hs
          obtain ⟨as, h1, _⟩ := reads_of I rs _ _ _ _ _ r1 rx e1
          obtain ⟨a, vs, rfl, hsq, rds⟩ := seq_at rs r2 e2
          have c1 := SeqAt.canLay_of_shaped hs.1
          have c2 := SeqAt.canLay_of_shaped hs.2
          have rm := room_in_shaped (xs := ps) hs.1 hu
          have items : ∀ {us : List Value}, Vals vs us → ∃ bs, ReadsAll s.heap us ps bs := fun {us} rv => by
            have g : ∀ (ds : List D) (ws : List V) (us : List Value) (ps : List PyData), RDs X.K H α ds ws → Vals ws us → ds.mapM (Ln.dat S) = some ps → ∃ bs, ReadsAll s.heap us ps bs := by
              intro ds
              induction ds with
              | nil => intro ws us ps r v e; cases r; cases v; rw [mapM_nil e]; exact ⟨_, .nil⟩
              | cons d ds ih =>
                intro ws us ps r v e
                cases r with
                | cons r1 r2 =>
                cases v with
                | cons v1 v2 =>
                obtain ⟨p, ps', g1, g2, rfl⟩ := mapM_cons e
                obtain ⟨_, k1, _⟩ := reads_of I rs _ _ _ _ _ r1 v1 g1
                obtain ⟨_, k2⟩ := ih _ _ _ r2 v2 g2
                exact ⟨_, .cons k1 k2⟩
            exact g ys vs us ps rds rv e3
          cases ry
          rcases hsq with hsq | hsq
          · obtain ⟨its, rv, ⟨o, n, ho, hcl, _, hd⟩, _⟩ := I.list hsq
            obtain ⟨bs, hr⟩ := items rv
            have h2 : Reads s.heap (.ref a) (.list ps) _ := Reads.list ho hcl hd hr
            cases neg with
            | true => rw [hc]; exact SeqAt.notIn_list_reads h2 h1 c2 c1 rm ⟨.bl _, H, I, rfl, q⟩
            | false => rw [hc]; exact SeqAt.in_list_reads h2 h1 c2 c1 rm ⟨.bl _, H, I, rfl, q⟩
          · obtain ⟨its, rv, ⟨o, ho, hcl, n, hd⟩, _⟩ := I.tuple hsq
            obtain ⟨bs, hr⟩ := items rv
            have h2 : Reads s.heap (.ref a) (.tuple ps) _ := Reads.tuple ho hcl hd hr
            have c3 : PyData.canLay0 (.tuple ps) = true := by simpa [PyData.canLay0] using c2
            cases neg with
            | true => rw [hc]; exact SeqAt.notIn_tuple_reads h2 h1 c3 c1 rm ⟨.bl _, H, I, rfl, q⟩
            | false => rw [hc]; exact SeqAt.in_tuple_reads h2 h1 c3 c1 rm ⟨.bl _, H, I, rfl, q⟩
        · cases e
      · cases e
    · cases e
theorem op_cop (c : Ln.Cop) (hu : X.A.units + 65 < cLine) : OpR X (compareOp (copOf c)) (rOB X.K (Ln.cop c)) := by
  intro pins s σ H x y v u Q I rx ry h
  have h' := h
  obtain ⟨α, S, dx, dy, b, rs, r1, r2, e, q⟩ := h
  cases c with
  | eq => exact op_eqs false rfl (by omega) pins s σ H x y v u Q I rx ry ⟨α, S, dx, dy, b, rs, r1, r2, by simpa [Ln.cop] using e, q⟩
  | ne => exact op_eqs true rfl (by omega) pins s σ H x y v u Q I rx ry ⟨α, S, dx, dy, b, rs, r1, r2, by simpa [Ln.cop] using e, q⟩
  | «is» => exact op_iss false rfl pins s σ H x y v u Q I rx ry ⟨α, S, dx, dy, b, rs, r1, r2, by simpa [Ln.cop] using e, q⟩
  | isNot => exact op_iss true rfl pins s σ H x y v u Q I rx ry ⟨α, S, dx, dy, b, rs, r1, r2, by simpa [Ln.cop] using e, q⟩
  | isIn => exact op_ins false rfl hu pins s σ H x y v u Q I rx ry ⟨α, S, dx, dy, b, rs, r1, r2, by simpa [Ln.cop] using e, q⟩
  | notIn => exact op_ins true rfl hu pins s σ H x y v u Q I rx ry ⟨α, S, dx, dy, b, rs, r1, r2, by simpa [Ln.cop] using e, q⟩
  | lt =>
    simp only [Ln.cop] at e
    split at e
    · cases e; cases r1; cases r2
      exact op_lt pins s σ H _ _ v u Q I rx ry ⟨_, _, rfl, rfl, q⟩
    · cases e; cases r1; cases r2
      exact op_lt_str pins s σ H _ _ v u Q I rx ry ⟨_, _, rfl, rfl, q⟩
    · cases e
  | le =>
    simp only [Ln.cop] at e
    split at e
    · cases e; cases r1; cases r2
      exact op_le pins s σ H _ _ v u Q I rx ry ⟨_, _, rfl, rfl, q⟩
    · cases e
  | gt =>
    simp only [Ln.cop] at e
    split at e
    · cases e; cases r1; cases r2
      exact op_gt pins s σ H _ _ v u Q I rx ry ⟨_, _, rfl, rfl, q⟩
    · cases e
  | ge =>
    simp only [Ln.cop] at e
    split at e
    · cases e; cases r1; cases r2
      exact op_ge pins s σ H _ _ v u Q I rx ry ⟨_, _, rfl, rfl, q⟩
    · cases e
end
end LnS

set_option linter.all false
set_option maxRecDepth 100000
/-! Ln: subscripts, slices, isinstance. -/
namespace LnS
open PySem L2 PyProof.Rows
open Ln (D O Store Rho M R Ex)

theorem place_eq : Ln.place = ixN := rfl
theorem atP_eq {α : Type} : @Ln.atP α = @atI α := rfl
theorem bnd_eq (n d : Nat) (o : Option Int) : Ln.bnd n d o = HT.sIx n d o := by cases o <;> rfl
theorem cut_eq (xs : List V) (lo hi : Option Int) : Ln.cut xs lo hi = cutV xs lo hi := by
  unfold Ln.cut cutV
  rw [bnd_eq, bnd_eq]
section
variable {K : Frag} {H : Hp} {α : Al}
theorem RDs.cut {ds : List D} {vs : List V} (r : RDs K H α ds vs) (lo hi : Option Int) : RDs K H α (Ln.cut ds lo hi) (cutV vs lo hi) := by
  rw [← cut_eq]
  unfold Ln.cut
  rw [r.length]
  exact (r.drop _).take _
theorem RDs.atI {ds : List D} {vs : List V} (r : RDs K H α ds vs) {i : Int} {d : D} (e : Ln.atP ds i = some d) : ∃ v, atI vs i = some v ∧ RD K H α d v := by
  unfold Ln.atP at e
  cases h : Ln.place ds.length i with
  | none => rw [h] at e; cases e
  | some j =>
    rw [h] at e
    obtain ⟨v, h1, h2⟩ := r.get e
    refine ⟨v, ?_, h2⟩
    unfold L2.atI
    rw [← r.length, show ixN ds.length i = some j from h]
    exact h1
end
section
variable {X : Cx}
theorem ix_d : IxR X (rO X.K fun x i S => Ln.idxD S x i) := by
  intro value slice pins s σ H x y v u Q I rx ry h hs
  obtain ⟨α, S, dx, dy, d, rs, r1, r2, e, q⟩ := h
  simp only [Ln.idxD] at e
  split at e
  · rename_i i
    cases r2
    split at e
    · rename_i z
      cases r1
      split at e
      · rename_i hz
        rw [Option.map_eq_some_iff] at e
        obtain ⟨c, e, rfl⟩ := e
        exact ix_str value slice pins s σ H _ _ v u Q I rx ry ⟨z, i, c, rfl, rfl, hz, e, q _ _ _ (.refl rs) (.str _)⟩ hs
      · cases e
    · rw [Option.bind_eq_some_iff] at e
      obtain ⟨xs, e1, e2⟩ := e
      obtain ⟨a, vs, rfl, hq, rds⟩ := seq_at rs r1 e1
      obtain ⟨w, h1, h2⟩ := rds.atI e2
      rcases hq with hq | hq
      · exact ix_list value slice pins s σ H _ _ v u Q I rx ry ⟨a, vs, i, w, rfl, rfl, hq, h1, q _ _ _ (.refl rs) h2⟩ hs
      · exact ix_tup value slice pins s σ H _ _ v u Q I rx ry ⟨a, vs, i, w, rfl, rfl, hq, h1, q _ _ _ (.refl rs) h2⟩ hs
  · cases e

/-- slices by values -/
def rSl (K : Frag) : V → Option Int → Option Int → Hp → VK → Prop := fun x lo hi H Q => ∃ α S dx d, RS K H α S ∧ RD K H α dx x ∧ Ln.slcD S dx lo hi = some d ∧ ∀ v H' α', After K α H α' H' S → RD K H' α' d v → Q v H'
theorem sl_d : SlR X (rSl X.K) := by
  intro pins s σ H x v vl vu lo hi sl Q I rx hs pl pu h
  obtain ⟨α, S, dx, d, rs, r1, e, q⟩ := h
  unfold Ln.slcD at e
  split at e
  · rename_i z
    cases r1
    split at e
    · rename_i hz
      cases e
      refine sl_str pins s σ H _ v vl vu lo hi sl Q I rx hs pl pu ⟨z, rfl, hz, ?_⟩
      have e2 : cutS z lo hi = ⟨(Ln.cut z.cps.toList lo hi).toArray⟩ := by
        unfold cutS Ln.cut
        rw [bnd_eq, bnd_eq, Array.length_toList]
        rfl
      rw [e2]
      exact q _ _ _ (.refl rs) (.str _)
    · cases e
  · rename_i xs
    cases e
    have r1' := r1
    cases r1 with
    | tup h1 q1 =>
    rename_i a vs
    refine sl_tupA pins s σ H _ v vl vu lo hi sl Q I rx hs pl pu ⟨a, vs, rfl, h1, fun z => ?_, fun _ p hp => ?_⟩
    · have e3 : Ln.cut xs lo hi = xs := by
        unfold Ln.cut
        rw [bnd_eq, bnd_eq, q1.length, z.1, z.2, List.drop_zero, ← q1.length, Nat.sub_zero, List.take_length]
      rw [e3] at q
      exact q _ _ _ (.refl rs) r1'
    · obtain ⟨af, rd⟩ := new_tup rs hp (q1.cut lo hi)
      exact q _ _ _ af rd
  · rw [Option.map_eq_some_iff] at e
    obtain ⟨xs, e, rfl⟩ := e
    obtain ⟨a, vs, rfl, h1, q1⟩ := lst_at rs r1 e
    refine sl_list pins s σ H _ v vl vu lo hi sl Q I rx hs pl pu ⟨a, vs, rfl, SqL.of h1, fun p hp => ?_⟩
    obtain ⟨af, rd⟩ := new_lst rs hp (q1.cut lo hi)
    exact q _ _ _ af rd
end

/-! ### t[::-1] -/
section
variable {prog : Program} {w : World} {A : Around} {E : Value → Shared → Prop} {s : Shared}
theorem rev_places (n : Nat) : Builtin.Slice.slicePlaces ((n : Int) - 1) (-1) (-1) = n := by
  unfold Builtin.Slice.slicePlaces
  have h1 : ¬ ((-1 : Int) > 0) := by decide
  simp only [h1, if_false]
  have e : (-(-1 : Int)) = 1 := rfl
  rw [e]
  simp only [Int.ediv_one]
  split <;> omega
theorem filterMap_eqs {α β : Type} {f g : α → Option β} : ∀ {l : List α}, (∀ x ∈ l, f x = g x) → l.filterMap f = l.filterMap g
  | [], _ => rfl
  | x :: l, h => by rw [List.filterMap_cons, List.filterMap_cons, h x List.mem_cons_self, filterMap_eqs fun y hy => h y (List.mem_cons_of_mem _ hy)]
theorem rev_pick (xs : Array Value) : ((List.range xs.size).filterMap fun (m : Nat) => xs[((((xs.size : Nat) : Int) - 1) + (m : Int) * (-1)).toNat]?).toArray = xs.toList.reverse.toArray := by
  have e : (List.range xs.size).filterMap (fun (m : Nat) => xs[((((xs.size : Nat) : Int) - 1) + (m : Int) * (-1)).toNat]?) = (List.range xs.size).filterMap fun m => xs[xs.size - 1 - m]? := by
    refine filterMap_eqs fun m hm => ?_
    have := List.mem_range.mp hm
    have e : ((((xs.size : Nat) : Int) - 1) + (m : Int) * (-1)).toNat = xs.size - 1 - m := by omega
    rw [e]
  rw [e, show (fun m => xs[xs.size - 1 - m]?) = (fun k => xs[k]?) ∘ fun m => xs.size - 1 - m from rfl, ← List.filterMap_map, PySem.W.krv_range, List.filterMap_reverse, PySem.W.krv_all]
theorem sliceApplied_rev {sl : Addr} {vl vu vs : Value} {n : Nat} {Q : Int × Int × Nat → Shared → Prop} (hs : s.heap.IsSliceOf sl vl vu vs) (pl : IsPart vl none) (pu : IsPart vu none) (ps : IsPart vs (some (-1)))
    (h : Q ((n : Int) - 1, -1, n) s) : wpAny (model prog w) A (Builtin.Slice.sliceApplied (.ref sl) (pure (n : Int))) Q E s := by
  obtain ⟨os, hos, hcs, hds⟩ := id hs
  unfold Builtin.Slice.sliceApplied Builtin.Slice.sliceFields
  refine wpAny_bind (wpAny_bind (wpAny_field hos hds (x := vl) rfl (wpAny_bind (wpAny_field hos hds (x := vu) rfl (wpAny_bind (wpAny_field hos hds (x := vs) rfl (wpAny_pure ?_)))))))
  refine wpAny_bind (HT.slicePart_ ps ?_)
  show wpAny _ _ (if ((-1 : Int) == 0) = true then _ else _) _ _ s
  rw [if_neg (by decide)]
  refine wpAny_bind (HT.slicePart_ pl (wpAny_bind (HT.slicePart_ pu (wpAny_bind (wpAny_pure ?_)))))
  show wpAny _ _ (pure ((n : Int) - 1, (-1 : Int), Builtin.Slice.slicePlaces ((n : Int) - 1) (-1) (-1))) _ _ s
  rw [rev_places]
  exact wpAny_pure h
theorem getItem_tuple_rev {t sl : Addr} {items : Array Value} {vl vu vs : Value} {Q : Value → Shared → Prop} (ht : IsTup s.heap t items) (hs : s.heap.IsSliceOf sl vl vu vs) (pl : IsPart vl none) (pu : IsPart vu none) (ps : IsPart vs (some (-1)))
    (h : Q (.ref s.heap.objs.size) { s with heap := s.heap.push { cls := .type "tuple", data := .seq items.toList.reverse.toArray } })
    (hsz : items.size ≤ sizeLine) : wpAny (model prog w) A (getItem (.ref t) (.ref sl)) Q E s := by
  have htake : sizeOk (.seq items.toList.reverse.toArray) := by
    show items.toList.reverse.toArray.size ≤ sizeLine
    rw [List.size_toArray, List.length_reverse, Array.length_toList]
    exact hsz
  obtain ⟨os, hos, hcs, hds⟩ := id hs
  have hTs : s.TypeIs (.ref sl) "slice" := ⟨os, hos, hcs⟩
  unfold getItem
  try with_reducible refine wpAny_holding ?_
  first | refine wpAny_bind (wpAny_pure ?_) | skip
  refine wpAny_bind (wpAny_sequenceKey ht.typeIs (by decide) ?_)
  refine wpAny_bind (wpAny_callSpecial?_slot (name := Str.ofString "__getitem__") ht.typeIs PyProof.Rows.slot_tuple_getitem
    (wpAny_call_entry PyProof.Rows.slot_tuple_getitem ht.typeIs entry_tuple_getitem ?_ (args_tuple_getitem _ _)))
  refine wpAny_bind (m := Builtin.Tuple.tupleItemsOf (.ref t)) (tupleItemsOf_ ht ?_)
  refine wpAny_bind (wpAny_typeOf hTs ?_)
  rw [if_pos (by decide)]
  refine wpAny_bind (sliceApplied_rev hs pl pu ps ?_)
  have hno : ¬ ((((items.size : Nat) : Int) - 1 == 0 && (-1 : Int) == 1 && items.size == items.size) = true) := by
    intro q
    rw [Bool.and_eq_true, Bool.and_eq_true] at q
    exact absurd q.1.2 (by decide)
  show wpAny _ _ (if (((items.size : Nat) : Int) - 1 == 0 && (-1 : Int) == 1 && items.size == items.size) = true then _ else _) _ _ s
  rw [if_neg hno, rev_pick]
  first
    | exact wpAny_bind (m := Builtin.Tuple.tupleExact _) (wpAny_newObj_type (wpAny_pure ⟨_, rfl, wpAny_pure h⟩) htake)
    | exact wpAny_bind (m := Builtin.Tuple.tupleExact _) (wpAny_newObj_type (wpAny_bind (wpAny_pure (wpAny_pure ⟨_, rfl, wpAny_pure h⟩))) htake)
    | exact wpAny_bind (wpAny_bind (m := Builtin.Tuple.tupleExact _) (wpAny_newObj_type (wpAny_pure (wpAny_pure ⟨_, rfl, wpAny_pure h⟩)) htake))
    | exact wpAny_bind (wpAny_bind (m := Builtin.Tuple.tupleExact _) (wpAny_newObj_type (wpAny_pure ⟨_, rfl, wpAny_pure h⟩) htake))
end
section
variable {X : Cx}
def tRev (K : Frag) (te : TE) : TE := fun σ H Q => te σ H fun x H1 => ∃ α S dx d, RS K H1 α S ∧ RD K H1 α dx x ∧ Ln.revD S dx = some d ∧ ∀ v H' α', After K α H1 α' H' S → RD K H' α' d v → Q v H'
theorem pe_rev {e : Expr} {te : TE} {k : Nat} {p1 p2 p3 pos : Pos} (he : PE X e te) : PE X (.Subscript e (.Slice none none (some (.UnaryOp .USub (.Constant (.int 1) k p1) p2)) p3) pos) (tRev X.K te) := by
  refine ⟨fun pins s σ H Q I h => ?_⟩
  refine Subscript_ (thn (he.run pins s σ H _ I h) fun v s1 ⟨x, H1, I1, r1, q1⟩ => ?_)
  obtain ⟨α, S, dx, d, rs, rd, e0, q⟩ := q1
  have hst : PO X (some (.UnaryOp .USub (.Constant (.int 1) k p1) p2)) (tPart (tUn (rU fun i => .int (-i)) (tC (.int 1)))) := po_some (pe_un un_neg pe_int)
  refine wpAny_Slice (thn (po_none.run pins s1 σ H1 (fun o H2 => o = none ∧ H2 = H1) I1 ⟨rfl, rfl⟩) fun vl s2 ⟨l, H2, I2, pl, el, e2⟩ => ?_)
  subst el e2
  refine thn (po_none.run pins s2 σ H2 (fun o H3 => o = none ∧ H3 = H2) I2 ⟨rfl, rfl⟩) fun vu s3 ⟨u, H3, I3, pu, eu, e3⟩ => ?_
  subst eu e3
  refine thn (hst.run pins s3 σ H3 (fun o H4 => o = some (-1) ∧ H4 = H3) I3 ⟨1, rfl, -1, rfl, rfl, rfl⟩) fun vs s4 ⟨o, H4, I4, ps, eo, e4⟩ => ?_
  subst eo e4
  have I5 : Inv X pins σ H4 { s4 with heap := s4.heap.push { cls := .type "slice", data := .fields #[vl, vu, vs] } } := I4.kept (t' := s4.toks) fun b ob q => Heap.get?_push_of_some _ q
  have lists : ∀ (xs : List D), Ln.lstOf S dx = some xs → d = .lst xs.reverse →
      wpAny (model X.prog X.w) X.A (subscriptTail e (.Slice none none (some (.UnaryOp .USub (.Constant (.int 1) k p1) p2)) p3) v (.ref s4.heap.objs.size)) (EP X pins σ Q) X.xe { s4 with heap := s4.heap.push { cls := .type "slice", data := .fields #[vl, vu, vs] } } := fun xs e5 ed => by
    subst ed
    obtain ⟨a, ws, rfl, h1, rds⟩ := lst_at rs rd e5
    cases r1
    obtain ⟨its, r, ht, hz⟩ := I5.list (SqL.of h1)
    have hlen := r.length
    refine tail_any (ops := [.ref a, .ref s4.heap.objs.size]) ht.isList.typeIs (PySem.slot_list_getitem.lookup) ?_ (by with_unfolding_all rfl)
    refine wpAny_getItem_list_slice ht.isList (Heap.IsSliceOf.new _ vl vu vs) pl pu ps (by decide) ?_ (by rw [List.size_toArray]; omega)
    rw [PySem.W.krv_pick]
    have hp := I5.hok.fresh (Nat.le_refl _)
    obtain ⟨af, rd'⟩ := new_lst rs hp rds.reverse
    refine ⟨.ref _, _, I5.laid (t' := s4.toks) (o := .lst ws.reverse) (fun b ob q => Heap.get?_push_of_some _ q) (Nat.le_refl _) ?_, rfl, q _ _ _ af rd'⟩
    exact ⟨by rw [List.length_reverse]; exact hz, _, 0, r.reverse, Heap.get?_push_size _ rfl⟩
  show wpAny (model X.prog X.w) X.A (subscriptTail e (.Slice none none (some (.UnaryOp .USub (.Constant (.int 1) k p1) p2)) p3) v (.ref s4.heap.objs.size)) (EP X pins σ Q) X.xe { s4 with heap := s4.heap.push { cls := .type "slice", data := .fields #[vl, vu, vs] } }
  unfold Ln.revD at e0
  split at e0
  · rename_i xs
    cases e0
    cases rd with
    | tup h1 rds =>
    rename_i a ws
    cases r1
    obtain ⟨its, r, ht, hz⟩ := I5.tuple h1
    have hlen := r.length
    refine tail_any (ops := [.ref a, .ref s4.heap.objs.size]) ht.typeIs (PyProof.Rows.slot_tuple_getitem.lookup) ?_ (by with_unfolding_all rfl)
    refine getItem_tuple_rev ht (Heap.IsSliceOf.new _ vl vu vs) pl pu ps ?_ (by rw [List.size_toArray]; omega)
    have hp := I5.hok.fresh (Nat.le_refl _)
    obtain ⟨af, rd'⟩ := new_tup rs hp rds.reverse
    refine ⟨.ref _, _, I5.laid (t' := s4.toks) (o := .tup ws.reverse) (fun b ob q => Heap.get?_push_of_some _ q) (Nat.le_refl _) ?_, rfl, q _ _ _ af rd'⟩
    exact ⟨by rw [List.length_reverse]; exact hz, _, r.reverse, IsTup.new _ _⟩
  · rw [Option.map_eq_some_iff] at e0
    obtain ⟨xs, e5, ed⟩ := e0
    exact lists xs e5 ed.symm
end
end LnS

set_option linter.all false
set_option maxRecDepth 100000
/-! Ln: the rules for expressions. -/
namespace LnS
open PySem L2 PyProof.Rows
open Ln (D O Store Rho M R Ex)

abbrev JE (X : Cx) (E : XS) (e : Expr) (m : Rho → M D) : Prop := PE X e (TI X.K E m)
abbrev JT (X : Cx) (E : XS) (e : Expr) (m : Rho → M Bool) : Prop := PT X e (TTI X.K E m)
abbrev JA (X : Cx) (E : XS) (es : List Expr) (m : Rho → M (List D)) : Prop := PA X es (TAI X.K E m)

section
variable {X : Cx} {E : XS} {cf : Nat → List D → M D} {pos : Pos}

/-! ### in a row -/
theorem seq1 {K : Frag} {m : Rho → M D} {f : Rho → D → M D} {σ : L2.St} {H : Hp} {Q : VK} (h : TI K E (fun ρ => M.bind (m ρ) (f ρ)) σ H Q) :
    TI K E m σ H fun x H1 => ∃ ρ α S d, RS K H1 α S ∧ RE K H1 α ρ σ ∧ RD K H1 α d x ∧ Pst K E H1 α (f ρ d S) fun d _ H' α' => ∀ v, RD K H' α' d v → Q v H' := by
  obtain ⟨ρ, α, S, rs, re, p⟩ := h
  exact ⟨ρ, α, S, rs, re, p.bind.mono fun d S1 H1 α1 _ ⟨a, p1⟩ v rd => ⟨ρ, α1, S1, d, a.rs, a.re re, rd, p1⟩⟩
theorem seq2 {K : Frag} {m n : Rho → M D} {f : Rho → D → D → M D} {σ : L2.St} {H : Hp} {Q : VK} (h : TI K E (fun ρ => M.bind (m ρ) fun x => M.bind (n ρ) (f ρ x)) σ H Q) :
    TI K E m σ H fun x H1 => TI K E n σ H1 fun y H2 => ∃ ρ α S dx dy, RS K H2 α S ∧ RE K H2 α ρ σ ∧ RD K H2 α dx x ∧ RD K H2 α dy y ∧ Pst K E H2 α (f ρ dx dy S) fun d _ H' α' => ∀ v, RD K H' α' d v → Q v H' := by
  obtain ⟨ρ, α, S, rs, re, p⟩ := h
  refine ⟨ρ, α, S, rs, re, p.bind.mono fun d S1 H1 α1 _ ⟨a, p1⟩ v rd => ?_⟩
  exact ⟨ρ, α1, S1, a.rs, a.re re, p1.bind.mono fun e S2 H2 α2 _ ⟨b, p2⟩ w re2 => ⟨ρ, α2, S2, d, e, b.rs, b.re (a.re re), b.rd rd, re2, p2⟩⟩

/-! ### names, constants -/
theorem pe_never {e : Expr} : PE X e (fun _ _ _ => False) := ⟨fun _ _ _ _ _ _ h => h.elim⟩
theorem je_bad {e : Expr} : JE X E e (Ln.ev cf .bad) := pe_w pe_never fun σ H Q ⟨ρ, α, S, rs, re, p⟩ => p.elim
theorem je_var {e : Expr} {i : Nat} (h : PE X e (tVar i)) : JE X E e (Ln.ev cf (.var i)) := pe_w h fun σ H Q ⟨ρ, α, S, rs, re, p⟩ => by
  simp only [Ln.ev, Ln.getV] at p
  match hd : ρ[i]?, p with
  | some (some d), p =>
    obtain ⟨v, h1, h2⟩ := re.get i d hd
    exact ⟨v, h1, p.ret rs v h2⟩
  | some none, p => exact p.elim
  | none, p => exact p.elim
theorem je_cst {e : Expr} {v : V} {d : D} (h : PE X e (tC v)) (r : ∀ H α, RD X.K H α d v) : JE X E e (Ln.ev cf (.cst d)) := pe_w h fun σ H Q ⟨ρ, α, S, rs, re, p⟩ => by
  simp only [Ln.ev] at p
  exact p.ret rs v (r H α)
theorem je_int {i : Int} {j} : JE X E (.Constant (.int i) j pos) (Ln.ev cf (.cst (.int i))) := je_cst pe_int fun _ _ => .int i
theorem je_bl {b : Bool} {j} : JE X E (.Constant (.bool b) j pos) (Ln.ev cf (.cst (.bl b))) := je_cst pe_bl fun _ _ => .bl b
theorem je_non {j} : JE X E (.Constant .none j pos) (Ln.ev cf (.cst .non)) := je_cst pe_non fun _ _ => .non
theorem je_str {x : Str} {j} : JE X E (.Constant (.str x) j pos) (Ln.ev cf (.cst (.str x))) := je_cst pe_str fun _ _ => .str x

/-! ### operators -/
variable {a b c : Expr} {ia ib ic : Ln.E}
theorem je_bin (o : Ln.Bop) (ha : JE X E a (Ln.ev cf ia)) (hb : JE X E b (Ln.ev cf ib)) : JE X E (.BinOp a (opOf o) b pos) (Ln.ev cf (.bin o ia ib)) :=
  pe_w (pe_op (op_bop o) ha hb) fun σ H Q h => by
    obtain ⟨ρ, α, S, rs, re, p⟩ := seq2 (f := fun ρ x y => M.opt (Ln.bop o x y)) h
    refine ⟨ρ, α, S, rs, re, p.mono fun d S1 H1 α1 _ q v rd => ?_⟩
    obtain ⟨ρ, α, S, rs, re, p⟩ := q v rd
    refine ⟨ρ, α, S, rs, re, p.mono fun d S1 H1 α1 _ q v rd => ?_⟩
    obtain ⟨ρ, α, S, dx, dy, rs, re, r1, r2, p⟩ := q v rd
    obtain ⟨d, e, k⟩ := p.optN
    exact ⟨α, S, dx, dy, d, rs, r1, r2, e, fun v H' α' a r => k H' α' a v r⟩
theorem je_neg (ha : JE X E a (Ln.ev cf ia)) : JE X E (.UnaryOp .USub a pos) (Ln.ev cf (.neg ia)) :=
  pe_w (pe_un un_neg ha) fun σ H Q h => by
    obtain ⟨ρ, α, S, rs, re, p⟩ := seq1 (f := fun ρ x => Ln.negK x) h
    refine ⟨ρ, α, S, rs, re, p.mono fun d S1 H1 α1 _ q v rd => ?_⟩
    obtain ⟨ρ, α, S, d, rs, re, r1, p⟩ := q v rd
    unfold Ln.negK at p
    split at p
    · rename_i i
      cases r1
      exact ⟨i, rfl, p.ret rs _ (.int _)⟩
    · exact p.elim
theorem truth_at {K : Frag} {H : Hp} {α : Al} {S : Store} (rs : RS K H α S) {d : D} {x : V} {k : Bool} (r : RD K H α d x) (e : Ln.truth S d = some k) : TruV K x H k := by
  cases r with
  | non => cases e; rfl
  | bl b => cases e; rfl
  | int i => cases e; rfl
  | str z =>
    simp only [Ln.truth] at e
    split at e
    · rename_i h
      cases e
      refine ⟨h, ?_⟩
      rw [Bool.eq_iff_iff]
      simp
    · cases e
  | tup h q => cases e; exact .inr (.inl ⟨_, h, by rw [q.isEmpty]⟩)
  | lst n h q => cases e; exact .inl ⟨_, SqL.of h, by rw [q.isEmpty]⟩
  | frz h q => cases e
  | dct n h q1 q2 => cases e
  | ref h =>
    simp only [Ln.truth] at e
    split at e
    · rename_i xs hS
      cases e
      obtain ⟨vs, h1, h2⟩ := rs.at_ _ _ _ h hS
      exact .inl ⟨vs, SqL.of h1, by rw [h2.isEmpty]⟩
    · cases e
theorem je_not (ha : JE X E a (Ln.ev cf ia)) : JE X E (.UnaryOp .Not a pos) (Ln.ev cf (.not ia)) :=
  pe_w (pe_notT ha) fun σ H Q h => by
    obtain ⟨ρ, α, S, rs, re, p⟩ := seq1 (f := fun ρ x => M.bind (Ln.truthM x) fun b => M.ret (.bl (!b))) h
    refine ⟨ρ, α, S, rs, re, p.mono fun d S1 H1 α1 _ q v rd => ?_⟩
    obtain ⟨ρ, α, S, d, rs, re, r1, p⟩ := q v rd
    obtain ⟨k, e, k2⟩ := (show Pst _ _ _ _ (M.opt (fun S => Ln.truth S d) S) _ from p.bind).opt rs
    exact ⟨k, truth_at rs r1 e, k2.2.ret rs _ (.bl _)⟩
theorem je_cmp (o : Ln.Cop) (hu : X.A.units + 65 < cLine) (ha : JE X E a (Ln.ev cf ia)) (hb : JE X E b (Ln.ev cf ib)) (hm : behindInMarks (copOf o) b = false) : JE X E (.Compare a [copOf o] [b] pos) (Ln.ev cf (.cmp o ia ib)) :=
  pe_w (pe_cmpR (op_cop o hu) ha hb hm) fun σ H Q h => by
    obtain ⟨ρ, α, S, rs, re, p⟩ := seq2 (f := fun ρ x y => M.bind (M.opt (Ln.cop o x y)) fun k => M.ret (.bl k)) h
    refine ⟨ρ, α, S, rs, re, p.mono fun d S1 H1 α1 _ q v rd => ?_⟩
    obtain ⟨ρ, α, S, rs, re, p⟩ := q v rd
    refine ⟨ρ, α, S, rs, re, p.mono fun d S1 H1 α1 _ q v rd => ?_⟩
    obtain ⟨ρ, α, S, dx, dy, rs, re, r1, r2, p⟩ := q v rd
    obtain ⟨k, e, k2⟩ := p.bind.opt rs
    exact ⟨α, S, dx, dy, k, rs, r1, r2, e, k2.2.ret rs _ (.bl _)⟩
theorem je_chain (o o' : Ln.Cop) (hu : X.A.units + 65 < cLine) (ha : JE X E a (Ln.ev cf ia)) (hb : JE X E b (Ln.ev cf ib)) (hc : JE X E c (Ln.ev cf ic)) (hm : lastMarks [copOf o, copOf o'] [b, c] = false) :
    JE X E (.Compare a [copOf o, copOf o'] [b, c] pos) (Ln.ev cf (.chain o o' ia ib ic)) :=
  pe_w (pe_chain (op_cop o hu) (op_cop o' hu) ha hb hc hm) fun σ H Q h => by
    obtain ⟨ρ, α, S, rs, re, p⟩ := seq2 (f := fun ρ x y => M.bind (M.opt (Ln.cop o x y)) fun k => if k then M.bind (Ln.ev cf ic ρ) fun z => M.bind (M.opt (Ln.cop o' y z)) fun k => M.ret (.bl k) else M.ret (.bl false)) h
    refine ⟨ρ, α, S, rs, re, p.mono fun d S1 H1 α1 _ q v rd => ?_⟩
    obtain ⟨ρ, α, S, rs, re, p⟩ := q v rd
    refine ⟨ρ, α, S, rs, re, p.mono fun d S1 H1 α1 _ q y rd => ?_⟩
    obtain ⟨ρ, α, S, dx, dy, rs, re, r1, r2, p⟩ := q y rd
    obtain ⟨k, e, k2⟩ := p.bind.opt rs
    refine ⟨α, S, dx, dy, k, rs, r1, r2, e, k, rfl, ?_⟩
    replace k2 := k2.2
    split
    · rename_i hk
      rw [if_pos hk] at k2
      refine ⟨ρ, α, S, rs, re, k2.bind.mono fun d S1 H1 α1 _ q z rd => ?_⟩
      obtain ⟨k', e', k3⟩ := q.2.bind.opt q.1.rs
      exact ⟨α1, S1, dy, d, k', q.1.rs, q.1.rd r2, rd, e', k3.2.ret q.1.rs _ (.bl _)⟩
    · rename_i hk
      rw [if_neg hk] at k2
      exact k2.ret rs _ (.bl _)
theorem je_one {op : BoolOp} {m : Rho → M D} (h : JE X E a m) : JE X E (.BoolOp op [a] pos) m := pe_one h
theorem je_and {r : List Expr} (ha : JE X E a (Ln.ev cf ia)) (hb : JE X E (.BoolOp .And (b :: r) pos) (Ln.ev cf ib)) : JE X E (.BoolOp .And (a :: b :: r) pos) (Ln.ev cf (.and ia ib)) :=
  pe_w (pe_and ha hb) fun σ H Q h => by
    obtain ⟨ρ, α, S, rs, re, p⟩ := seq1 (f := fun ρ => Ln.andK (Ln.ev cf ib ρ)) h
    refine ⟨ρ, α, S, rs, re, p.mono fun d S1 H1 α1 _ q v rd => ?_⟩
    obtain ⟨ρ, α, S, d, rs, re, r1, p⟩ := q v rd
    unfold Ln.andK at p
    split at p
    · cases r1; exact ⟨true, rfl, iteT ⟨ρ, α, S, rs, re, p⟩⟩
    · cases r1; exact ⟨false, rfl, iteF (p.ret rs _ (.bl _))⟩
    · exact p.elim
theorem je_or {r : List Expr} (ha : JE X E a (Ln.ev cf ia)) (hb : JE X E (.BoolOp .Or (b :: r) pos) (Ln.ev cf ib)) : JE X E (.BoolOp .Or (a :: b :: r) pos) (Ln.ev cf (.or ia ib)) :=
  pe_w (pe_or ha hb) fun σ H Q h => by
    obtain ⟨ρ, α, S, rs, re, p⟩ := seq1 (f := fun ρ => Ln.orK (Ln.ev cf ib ρ)) h
    refine ⟨ρ, α, S, rs, re, p.mono fun d S1 H1 α1 _ q v rd => ?_⟩
    obtain ⟨ρ, α, S, d, rs, re, r1, p⟩ := q v rd
    unfold Ln.orK at p
    split at p
    · cases r1; exact ⟨true, rfl, iteT (p.ret rs _ (.bl _))⟩
    · cases r1; exact ⟨false, rfl, iteF ⟨ρ, α, S, rs, re, p⟩⟩
    · exact p.elim

/-! ### tests -/
theorem jt_truth (ha : JE X E a (Ln.ev cf ia)) (he : ∀ whole, isTrue a X.env whole = (do let v ← whole; standAt a.pos; holding [v] (truthy v))) : JT X E a (Ln.evT cf ia) :=
  pt_w (pt_truth ha he) fun σ H Q ⟨ρ, α, S, rs, re, p⟩ => by
    refine ⟨ρ, α, S, rs, re, p.bind.mono fun d S1 H1 α1 _ q v rd => ?_⟩
    obtain ⟨k, e, k2⟩ := (show Pst _ _ _ _ (M.opt (fun S => Ln.truth S d) S1) _ from q.2).opt q.1.rs
    exact ⟨k, truth_at q.1.rs rd e, k2⟩
theorem jt_cmp (o : Ln.Cop) (hu : X.A.units + 65 < cLine) (ha : JE X E a (Ln.ev cf ia)) (hb : JE X E b (Ln.ev cf ib)) (hm : behindInMarks (copOf o) b = false) : JT X E (.Compare a [copOf o] [b] pos) (Ln.evT cf (.cmp o ia ib)) :=
  pt_w (pt_cmpR (op_cop o hu) ha hb hm) fun σ H Q ⟨ρ, α, S, rs, re, p⟩ => by
    simp only [Ln.evT, Ln.ev] at p
    refine ⟨ρ, α, S, rs, re, p.bind.bind.mono fun d S1 H1 α1 _ q v rd => ?_⟩
    refine ⟨ρ, α1, S1, q.1.rs, q.1.re re, q.2.bind.mono fun d' S2 H2 α2 _ q2 v2 rd2 => ?_⟩
    obtain ⟨k, e, k2⟩ := q2.2.bind.opt q2.1.rs
    refine ⟨α2, S2, d, d', k, q2.1.rs, q2.1.rd rd, rd2, e, k, rfl, ?_⟩
    have k3 := k2.2.ret k2.1.rs
    obtain ⟨k', e', k4⟩ := (show Pst _ _ _ _ (M.opt (fun S => Ln.truth S (.bl k)) S2) _ from k3.2).opt q2.1.rs
    cases e'
    exact k4
theorem jt_chain (o o' : Ln.Cop) (hu : X.A.units + 65 < cLine) (ha : JE X E a (Ln.ev cf ia)) (hb : JE X E b (Ln.ev cf ib)) (hc : JE X E c (Ln.ev cf ic)) (hm : lastMarks [copOf o, copOf o'] [b, c] = false) :
    JT X E (.Compare a [copOf o, copOf o'] [b, c] pos) (Ln.evT cf (.chain o o' ia ib ic)) :=
  pt_w (pt_chain (op_cop o hu) (op_cop o' hu) ha hb hc hm) fun σ H Q ⟨ρ, α, S, rs, re, p⟩ => by
    simp only [Ln.evT, Ln.ev] at p
    refine ⟨ρ, α, S, rs, re, p.bind.bind.mono fun d S1 H1 α1 _ q v rd => ?_⟩
    refine ⟨ρ, α1, S1, q.1.rs, q.1.re re, q.2.bind.mono fun d' S2 H2 α2 _ q2 v2 rd2 => ?_⟩
    obtain ⟨k, e, k2⟩ := q2.2.bind.opt q2.1.rs
    refine ⟨α2, S2, d, d', k, q2.1.rs, q2.1.rd rd, rd2, e, k, rfl, ?_⟩
    replace k2 := k2.2
    split
    · rename_i hk
      rw [if_pos hk] at k2
      refine ⟨ρ, α2, S2, q2.1.rs, q2.1.re (q.1.re re), k2.bind.mono fun d3 S3 H3 α3 _ q3 z rd3 => ?_⟩
      obtain ⟨k', e', k3⟩ := q3.2.bind.opt q3.1.rs
      refine ⟨α3, S3, d', d3, k', q3.1.rs, q3.1.rd rd2, rd3, e', k', rfl, ?_⟩
      have k4 := k3.2.ret k3.1.rs
      obtain ⟨k5, e5, k6⟩ := (show Pst _ _ _ _ (M.opt (fun S => Ln.truth S (.bl k')) S3) _ from k4.2).opt q3.1.rs
      cases e5
      exact k6
    · rename_i hk
      rw [if_neg hk] at k2
      refine ⟨false, rfl, ?_⟩
      have k4 := k2.ret q2.1.rs
      obtain ⟨k5, e5, k6⟩ := (show Pst _ _ _ _ (M.opt (fun S => Ln.truth S (.bl false)) S2) _ from k4.2).opt q2.1.rs
      cases e5
      exact k6
theorem evT_bl {b : Bool} {S : Store} {C : Bool → Store → Hp → Al → Prop} {K : Frag} {H : Hp} {α : Al} (rs : RS K H α S) (p : Pst K E H α (Ln.truthM (.bl b) S) C) : C b S H α := by
  obtain ⟨k, e, k2⟩ := (show Pst _ _ _ _ (M.opt (fun S => Ln.truth S (.bl b)) S) _ from p).opt rs
  cases e
  exact k2
/-- and, or as tests: both sides tests -/
abbrev JW (X : Cx) (E : XS) (e : Expr) (m : Rho → M Bool) : Prop := PW X e (TTI X.K E m)
theorem pw_w {X : Cx} {e : Expr} {t t' : TT} (h : PW X e t) (k : ∀ σ H Q, t' σ H Q → t σ H Q) : PW X e t' := ⟨fun w pins s σ H Q I q => h.run w pins s σ H Q I (k _ _ _ q)⟩
theorem jw_and1 (ha : JT X E a (Ln.evT cf ia)) : JW X E (.BoolOp .And [a] pos) (Ln.evT cf ia) := pw_and1 ha
theorem jw_or1 (ha : JT X E a (Ln.evT cf ia)) : JW X E (.BoolOp .Or [a] pos) (Ln.evT cf ia) := pw_or1 ha
theorem bind_ok {β γ : Type} {m : M β} {f : β → M γ} {S S1 : Store} {b : β} (h : m S = .ok b S1) : M.bind m f S = f b S1 := by unfold M.bind; rw [h]
theorem bind_exc {β γ : Type} {m : M β} {f : β → M γ} {S S1 : Store} {x : Ex} (h : m S = .exc x S1) : M.bind m f S = .exc x S1 := by unfold M.bind; rw [h]
theorem bind_err {β γ : Type} {m : M β} {f : β → M γ} {S : Store} (h : m S = .err) : M.bind m f S = .err := by unfold M.bind; rw [h]
theorem bind_assoc {β γ δ : Type} {m : M β} {f : β → M γ} {g : γ → M δ} {S : Store} : M.bind (M.bind m f) g S = M.bind m (fun x => M.bind (f x) g) S := by
  unfold M.bind
  cases m S <;> rfl
theorem and_split {ρ : Rho} {S : Store} {C : Bool → Store → Hp → Al → Prop} {K : Frag} {H : Hp} {α : Al} (p : Pst K E H α (Ln.evT cf (.and ia ib) ρ S) C) :
    Pst K E H α (Ln.evT cf ia ρ S) fun k S1 H1 α1 => if k = true then Pst K E H1 α1 (Ln.evT cf ib ρ S1) C else C false S1 H1 α1 := by
  unfold Ln.evT at p ⊢
  simp only [Ln.ev] at p
  cases e : Ln.ev cf ia ρ S with
  | err => rw [bind_err (bind_err e)] at p; exact p.elim
  | exc x S1 => rw [bind_exc (bind_exc e)] at p; rw [bind_exc e]; exact p
  | ok d S1 =>
    rw [bind_ok e, bind_assoc, bind_ok e] at *
    match d, p with
    | .bl true, p => exact fun H1 α1 a => iteT (Pst.move (show Pst K E H α (M.bind (Ln.ev cf ib ρ) Ln.truthM S1) C from p) a)
    | .bl false, p => exact fun H1 α1 a => iteF ((show Pst K E H α (.ok false S1) C from p) H1 α1 a)
    | .non, p => exact p.elim
    | .int _, p => exact p.elim
    | .str _, p => exact p.elim
    | .tup _, p => exact p.elim
    | .lst _, p => exact p.elim
    | .frz _, p => exact p.elim
    | .dct _ _, p => exact p.elim
    | .ref _, p => exact p.elim
theorem or_split {ρ : Rho} {S : Store} {C : Bool → Store → Hp → Al → Prop} {K : Frag} {H : Hp} {α : Al} (p : Pst K E H α (Ln.evT cf (.or ia ib) ρ S) C) :
    Pst K E H α (Ln.evT cf ia ρ S) fun k S1 H1 α1 => if k = true then C true S1 H1 α1 else Pst K E H1 α1 (Ln.evT cf ib ρ S1) C := by
  unfold Ln.evT at p ⊢
  simp only [Ln.ev] at p
  cases e : Ln.ev cf ia ρ S with
  | err => rw [bind_err (bind_err e)] at p; exact p.elim
  | exc x S1 => rw [bind_exc (bind_exc e)] at p; rw [bind_exc e]; exact p
  | ok d S1 =>
    rw [bind_ok e, bind_assoc, bind_ok e] at *
    match d, p with
    | .bl true, p => exact fun H1 α1 a => iteT ((show Pst K E H α (.ok true S1) C from p) H1 α1 a)
    | .bl false, p => exact fun H1 α1 a => iteF (Pst.move (show Pst K E H α (M.bind (Ln.ev cf ib ρ) Ln.truthM S1) C from p) a)
    | .non, p => exact p.elim
    | .int _, p => exact p.elim
    | .str _, p => exact p.elim
    | .tup _, p => exact p.elim
    | .lst _, p => exact p.elim
    | .frz _, p => exact p.elim
    | .dct _ _, p => exact p.elim
    | .ref _, p => exact p.elim
theorem jw_and {r : List Expr} (ha : JT X E a (Ln.evT cf ia)) (hb : JW X E (.BoolOp .And (b :: r) pos) (Ln.evT cf ib)) : JW X E (.BoolOp .And (a :: b :: r) pos) (Ln.evT cf (.and ia ib)) :=
  pw_w (pw_and ha hb) fun σ H Q ⟨ρ, α, S, rs, re, p⟩ =>
    ⟨ρ, α, S, rs, re, (and_split p).mono fun k S1 H1 α1 a q => by
      cases k with
      | true => exact iteT ⟨ρ, α1, S1, a.rs, a.re re, q⟩
      | false => exact iteF q⟩
theorem jw_or {r : List Expr} (ha : JT X E a (Ln.evT cf ia)) (hb : JW X E (.BoolOp .Or (b :: r) pos) (Ln.evT cf ib)) : JW X E (.BoolOp .Or (a :: b :: r) pos) (Ln.evT cf (.or ia ib)) :=
  pw_w (pw_or ha hb) fun σ H Q ⟨ρ, α, S, rs, re, p⟩ =>
    ⟨ρ, α, S, rs, re, (or_split p).mono fun k S1 H1 α1 a q => by
      cases k with
      | true => exact iteT q
      | false => exact iteF ⟨ρ, α1, S1, a.rs, a.re re, q⟩⟩
theorem jt_w {e : Expr} {m : Rho → M Bool} (h : JW X E e m) : JT X E e m := PW.pt h
theorem jt_not (ha : JT X E a (Ln.evT cf ia)) : JT X E (.UnaryOp .Not a pos) (Ln.evT cf (.not ia)) :=
  pt_w (pt_not ha) fun σ H Q ⟨ρ, α, S, rs, re, p⟩ => by
    refine ⟨ρ, α, S, rs, re, ?_⟩
    unfold Ln.evT at p ⊢
    simp only [Ln.ev] at p
    cases e : Ln.ev cf ia ρ S with
    | err => rw [bind_err (bind_err e)] at p; exact p.elim
    | exc x S1 => rw [bind_exc (bind_exc e)] at p; rw [bind_exc e]; exact p
    | ok d S1 =>
      rw [bind_assoc, bind_ok e] at p
      rw [bind_ok e]
      cases e2 : Ln.truthM d S1 with
      | err => rw [bind_err (bind_err e2)] at p; exact p.elim
      | exc x S2 => rw [bind_exc (bind_exc e2)] at p; exact p
      | ok k S2 => rw [bind_assoc, bind_ok e2] at p; exact p

theorem je_ite (hc : JT X E c (Ln.evT cf ic)) (ha : JE X E a (Ln.ev cf ia)) (hb : JE X E b (Ln.ev cf ib)) : JE X E (.IfExp c a b pos) (Ln.ev cf (.ite ic ia ib)) :=
  pe_w (pe_ifExp hc ha hb) fun σ H Q ⟨ρ, α, S, rs, re, p⟩ => by
    refine ⟨ρ, α, S, rs, re, ?_⟩
    simp only [Ln.ev] at p
    unfold Ln.evT
    cases e : Ln.ev cf ic ρ S with
    | err => rw [bind_err e] at p; exact p.elim
    | exc x S1 => rw [bind_exc e] at p; rw [bind_exc e]; exact p
    | ok d S1 =>
      rw [bind_ok e] at p ⊢
      cases e2 : Ln.truthM d S1 with
      | err => rw [bind_err e2] at p; exact p.elim
      | exc x S2 => rw [bind_exc e2] at p; exact p
      | ok k S2 =>
        rw [bind_ok e2] at p
        intro H1 α1 af
        cases k with
        | true => exact iteT ⟨ρ, α1, S2, af.rs, af.re re, p.move af⟩
        | false => exact iteF ⟨ρ, α1, S2, af.rs, af.re re, p.move af⟩

/-! ### arguments, displays -/
variable {es : List Expr} {ies : Ln.Es}
theorem ja_nil : JA X E [] (Ln.evs cf .nil) := pa_w pa_nil fun σ H Q ⟨ρ, α, S, rs, re, p⟩ => by
  simp only [Ln.evs] at p
  exact p.ret rs _ .nil
theorem ja_cons (ha : JE X E a (Ln.ev cf ia)) (hr : JA X E es (Ln.evs cf ies)) (hs : starEach (a :: es) X.env = (false, eval a X.env) :: starEach es X.env := by rfl) : JA X E (a :: es) (Ln.evs cf (.cons ia ies)) :=
  pa_w (pa_cons ha hr hs) fun σ H Q ⟨ρ, α, S, rs, re, p⟩ => by
    simp only [Ln.evs] at p
    refine ⟨ρ, α, S, rs, re, p.bind.mono fun d S1 H1 α1 _ q v rd => ?_⟩
    refine ⟨ρ, α1, S1, q.1.rs, q.1.re re, q.2.bind.mono fun ds S2 H2 α2 _ q2 vs rds => ?_⟩
    exact q2.2.ret q2.1.rs _ (.cons (q2.1.rd rd) rds)
def esLen : Ln.Es → Nat
  | .nil => 0
  | .cons _ es => esLen es + 1
  | .star _ _ => 10000
theorem evs_len : ∀ {ies : Ln.Es} {ρ : Rho} {S S' : Store} {xs : List D}, esLen ies ≤ 1000 → Ln.evs cf ies ρ S = .ok xs S' → xs.length = esLen ies
  | .star _ _, _, _, _, _, h, _ => absurd h (by simp [esLen])
  | .nil, _, _, _, _, _, e => by simp only [Ln.evs, M.ret] at e; cases e; rfl
  | .cons e1 es, ρ, S, S', xs, hn, e => by
    simp only [Ln.evs] at e
    cases h : Ln.ev cf e1 ρ S with
    | err => rw [bind_err h] at e; cases e
    | exc x S1 => rw [bind_exc h] at e; cases e
    | ok d S1 =>
      rw [bind_ok h] at e
      cases h2 : Ln.evs cf es ρ S1 with
      | err => rw [bind_err h2] at e; cases e
      | exc x S2 => rw [bind_exc h2] at e; cases e
      | ok ds S2 =>
        rw [bind_ok h2] at e
        simp only [M.ret] at e
        cases e
        rw [List.length_cons, evs_len (by simp only [esLen] at hn; omega) h2]; rfl
theorem Pst.bindE {β γ : Type} {K : Frag} {H : Hp} {α : Al} {S : Store} {m : M β} {f : β → M γ} {C : γ → Store → Hp → Al → Prop} (h : Pst K E H α (M.bind m f S) C) :
    Pst K E H α (m S) fun b S1 H1 α1 => m S = .ok b S1 ∧ After K α H α1 H1 S1 ∧ Pst K E H1 α1 (f b S1) C := by
  have p := h.bind
  cases e : m S with
  | ok b S1 => rw [e] at p; exact fun H1 α1 a => ⟨rfl, p H1 α1 a⟩
  | exc x S1 => rw [e] at p; exact p
  | err => rw [e] at p; exact p
theorem je_tup {x1} (h : JA X E es (Ln.evs cf ies)) (hn : esLen ies ≤ 1000 := by decide) : JE X E (.Tuple es x1 pos) (Ln.ev cf (.tup ies)) :=
  pe_w (pe_tup h) fun σ H Q ⟨ρ, α, S, rs, re, p⟩ => by
    simp only [Ln.ev] at p
    refine ⟨ρ, α, S, rs, re, p.bindE.mono fun ds S1 H1 α1 _ q vs rds => ⟨?_, fun pp hp => ?_⟩⟩
    · rw [← rds.length, evs_len hn q.1]; exact Nat.le_trans hn (by decide)
    · obtain ⟨af, rd⟩ := new_tup q.2.1.rs hp rds
      exact q.2.2.retN af _ rd
theorem je_lst (h : JA X E es (Ln.evs cf ies)) (hn : esLen ies ≤ 1000 := by decide) : JE X E (.List es pos) (Ln.ev cf (.lst ies)) :=
  pe_w (pe_lst h) fun σ H Q ⟨ρ, α, S, rs, re, p⟩ => by
    simp only [Ln.ev] at p
    refine ⟨ρ, α, S, rs, re, p.bindE.mono fun ds S1 H1 α1 _ q vs rds => ⟨?_, fun pp hp => ?_⟩⟩
    · rw [← rds.length, evs_len hn q.1]; exact Nat.le_trans hn (by decide)
    · obtain ⟨af, rd⟩ := new_lst q.2.1.rs hp rds
      exact q.2.2.retN af _ rd
theorem je_lstM (h : JA X E es (Ln.evs cf ies)) (hn : esLen ies ≤ 1000 := by decide) : JE X E (.List es pos) (Ln.ev cf (.lstM ies)) :=
  pe_w (pe_lst h) fun σ H Q ⟨ρ, α, S, rs, re, p⟩ => by
    simp only [Ln.ev] at p
    refine ⟨ρ, α, S, rs, re, p.bindE.mono fun ds S1 H1 α1 _ q vs rds => ⟨?_, fun pp hp => ?_⟩⟩
    · rw [← rds.length, evs_len hn q.1]; exact Nat.le_trans hn (by decide)
    · obtain ⟨af, rd⟩ := q.2.1.rs |> fun r => After.alloc r hp rds
      exact (show ∀ H' α', After X.K α1 H1 α' H' (S1 ++ [.lst ds]) → _ from q.2.2) _ _ af _ rd
theorem ja_star {sp : Pos} (ha : JE X E a (Ln.ev cf ia)) (hr : JA X E es (Ln.evs cf ies)) (hs : starEach (.Starred a sp :: es) X.env = (true, eval a X.env) :: starEach es X.env := by rfl) : JA X E (.Starred a sp :: es) (Ln.evs cf (.star ia ies)) :=
  pa_w (StX.pa_star ha hr hs) fun σ H Q ⟨ρ, α, S, rs, re, p⟩ => by
    simp only [Ln.evs] at p
    refine ⟨ρ, α, S, rs, re, p.bind.mono fun d S1 H1 α1 _ q v rd => ?_⟩
    have items : ∀ {ys : List D} {vs : List V}, Pst X.K E H1 α1 (M.bind (M.ret ys) (fun ys => M.bind (Ln.evs cf ies ρ) fun xs => M.ret (ys ++ xs)) S1) (fun ds _ H' α' => ∀ vs, RDs X.K H' α' ds vs → Q vs H') → RDs X.K H1 α1 ys vs →
        TAI X.K E (Ln.evs cf ies) σ H1 fun zs H2 => Q (vs ++ zs) H2 := fun {ys vs} p rds =>
      ⟨ρ, α1, S1, q.1.rs, q.1.re re, (show Pst X.K E H1 α1 (M.bind (Ln.evs cf ies ρ) (fun xs => M.ret (ys ++ xs)) S1) _ from p).bind.mono fun ds S2 H2 α2 _ q2 zs rz => q2.2.ret q2.1.rs _ ((q2.1.rds rds).append rz)⟩
    have p1 := q.2
    unfold Ln.starK at p1
    split at p1
    · cases rd with
      | tup h rds => exact ⟨_, _, rfl, .inl h, items p1 rds⟩
    · cases rd with
      | lst n h rds => exact ⟨_, _, rfl, .inr (SqL.of h), items p1 rds⟩
    · exact p1.elim
theorem je_lstS (h : JA X E es (Ln.evs cf ies)) : JE X E (.List es pos) (Ln.ev cf (.lstS ies)) :=
  pe_w (pe_lst h) fun σ H Q ⟨ρ, α, S, rs, re, p⟩ => by
    simp only [Ln.ev] at p
    refine ⟨ρ, α, S, rs, re, p.bind.mono fun ds S1 H1 α1 _ q vs rds => ?_⟩
    have p1 := q.2
    split at p1
    · rename_i hl
      refine ⟨by rw [← rds.length]; exact hl, fun pp hp => ?_⟩
      obtain ⟨af, rd⟩ := new_lst q.1.rs hp rds
      exact p1.retN af _ rd
    · exact p1.elim
theorem je_dct0 : JE X E (.Dict [] [] pos) (Ln.ev cf (.dct .nil .nil)) :=
  pe_w pe_dnewK fun σ H Q ⟨ρ, α, S, rs, re, p⟩ p' hp => by
    simp only [Ln.ev, Ln.evs] at p
    have a := After.new (o := .dK []) rs hp
    refine (show Pst X.K E H α (M.ret (D.dct [] []) S) _ from p).retN a _ (.dct (fun z => ?_) upd_same .nil .nil)
    obtain ⟨o, e, _⟩ := rs.mut z
    rw [hp] at e; cases e

/-! ### subscripts -/
theorem je_idx (ha : JE X E a (Ln.ev cf ia)) (hb : JE X E b (Ln.ev cf ib)) (hs : PlainIx b) : JE X E (.Subscript a b pos) (Ln.ev cf (.idx ia ib)) :=
  pe_w (pe_ix ix_d ha hb hs) fun σ H Q h => by
    obtain ⟨ρ, α, S, rs, re, p⟩ := seq2 (f := fun ρ x k => M.opt fun S => Ln.idxD S x k) h
    refine ⟨ρ, α, S, rs, re, p.mono fun d S1 H1 α1 _ q v rd => ?_⟩
    obtain ⟨ρ, α, S, rs, re, p⟩ := q v rd
    refine ⟨ρ, α, S, rs, re, p.mono fun d S1 H1 α1 _ q v rd => ?_⟩
    obtain ⟨ρ, α, S, dx, dy, rs, re, r1, r2, p⟩ := q v rd
    obtain ⟨d, e, k⟩ := p.optN
    exact ⟨α, S, dx, dy, d, rs, r1, r2, e, fun v H' α' a r => k H' α' a v r⟩
def TOI (K : Frag) (E : XS) (m : Rho → M (Option Int)) : TO := fun σ H Q => ∃ ρ α S, RS K H α S ∧ RE K H α ρ σ ∧ Pst K E H α (m ρ S) fun o _ H' _ => Q o H'
abbrev JO (X : Cx) (E : XS) (e : Option Expr) (m : Rho → M (Option Int)) : Prop := PO X e (TOI X.K E m)
theorem po_w {X : Cx} {e : Option Expr} {t t' : TO} (h : PO X e t) (k : ∀ σ H Q, t' σ H Q → t σ H Q) : PO X e t' := ⟨fun pins s σ H Q I q => h.run pins s σ H Q I (k _ _ _ q)⟩
theorem jo_no : JO X E none (Ln.evo cf .no) := po_w po_none fun σ H Q ⟨ρ, α, S, rs, re, p⟩ => by
  simp only [Ln.evo] at p
  exact p.ret rs
theorem jo_so (ha : JE X E a (Ln.ev cf ia)) : JO X E (some a) (Ln.evo cf (.so ia)) := po_w (po_some ha) fun σ H Q ⟨ρ, α, S, rs, re, p⟩ => by
  simp only [Ln.evo] at p
  refine ⟨ρ, α, S, rs, re, p.bind.mono fun d S1 H1 α1 _ q v rd => ?_⟩
  have p1 := q.2
  unfold Ln.intK at p1
  split at p1
  · cases rd; exact ⟨_, rfl, p1.ret q.1.rs⟩
  · exact p1.elim
theorem je_slc {lo hi : Option Expr} {ilo ihi : Ln.Eo} {p2 : Pos} (ha : JE X E a (Ln.ev cf ia)) (hl : JO X E lo (Ln.evo cf ilo)) (hh : JO X E hi (Ln.evo cf ihi)) : JE X E (.Subscript a (.Slice lo hi none p2) pos) (Ln.ev cf (.slc ia ilo ihi)) :=
  pe_w (pe_slice sl_d ha hl hh) fun σ H Q ⟨ρ, α, S, rs, re, p⟩ => by
    simp only [Ln.ev] at p
    refine ⟨ρ, α, S, rs, re, p.bind.mono fun d S1 H1 α1 _ q v rd => ?_⟩
    refine ⟨ρ, α1, S1, q.1.rs, q.1.re re, q.2.bind.mono fun l S2 H2 α2 _ q2 => ?_⟩
    refine ⟨ρ, α2, S2, q2.1.rs, q2.1.re (q.1.re re), q2.2.bind.mono fun h S3 H3 α3 _ q3 => ?_⟩
    obtain ⟨d', e, k⟩ := q3.2.optN
    exact ⟨α3, S3, d, d', q3.1.rs, q3.1.rd (q2.1.rd rd), e, fun v H' α' a r => k H' α' a v r⟩
theorem je_rev {k : Nat} {p1 p2 p3 : Pos} (ha : JE X E a (Ln.ev cf ia)) : JE X E (.Subscript a (.Slice none none (some (.UnaryOp .USub (.Constant (.int 1) k p1) p2)) p3) pos) (Ln.ev cf (.rev ia)) :=
  pe_w (pe_rev ha) fun σ H Q ⟨ρ, α, S, rs, re, p⟩ => by
    simp only [Ln.ev] at p
    refine ⟨ρ, α, S, rs, re, p.bind.mono fun d S1 H1 α1 _ q v rd => ?_⟩
    obtain ⟨d', e, k⟩ := q.2.optN
    exact ⟨α1, S1, d, d', q.1.rs, rd, e, fun v H' α' a r => k H' α' a v r⟩

/-! ### isinstance -/
def tyName : Ln.Ty → String
  | .int => "int"
  | .bool => "bool"
  | .str => "str"
  | .tuple => "tuple"
  | .list => "list"
  | .dict => "dict"
theorem kit_all (K : Frag) (u t : Ln.Ty) : PySem.W.kitOne K (.type (tyName u)) (.type (tyName t)) = some (decide (u = t) || (decide (u = .bool) && decide (t = .int))) := by
  cases u <;> cases t <;> exact kit_ty (by decide +kernel)
theorem kit_none (K : Frag) (t : Ln.Ty) : PySem.W.kitOne K (.type "NoneType") (.type (tyName t)) = some false := by
  cases t <;> exact kit_ty (by decide +kernel)
theorem ty_at {K : Frag} {H : Hp} {α : Al} {S : Store} (rs : RS K H α S) {d : D} {x : V} {t : Ln.Ty} (r : RD K H α d x) (e : Ln.tyOf S d = some t) : TyX K H x (.type (tyName t)) := by
  cases r with
  | non => cases e
  | bl b => cases e; exact .base (.bl _)
  | int i => cases e; exact .base (.int _)
  | str z => cases e; exact .base (.str _)
  | tup h q =>
    cases e
    rcases h with (h | ⟨o, h⟩) | ⟨o, its, n, h, hc, _⟩
    · exact .base (.tup h)
    · exact .fTuple h
    · exact .kTuple h hc
  | lst n h q => cases e; exact .base (.lst h)
  | frz h q =>
    cases e
    rcases h with ⟨_, h | ⟨o, h⟩⟩ | ⟨o, its, n, h, hc, _⟩
    · exact .base (.lst h)
    · exact .base (.frz h)
    · exact .kList h hc
  | dct n h q1 q2 => cases e; exact .base (.dK h)
  | ref h =>
    simp only [Ln.tyOf] at e
    split at e
    · rename_i xs hS
      cases e
      obtain ⟨vs, h1, h2⟩ := rs.at_ _ _ _ h hS
      exact .base (.lst h1)
    · rename_i ks vs hS
      cases e
      obtain ⟨vs, h1, h2⟩ := rs.at_ _ _ _ h hS
      exact .base (.dK h1)
    · cases e
theorem je_isi {p p2 : Pos} (t : Ln.Ty) {tn : Str} (hg : Gl X "isinstance") (hm : X.mg "isinstance" = none) (ht : bootBuiltins tn = some (.type (tyName t))) (hgt : Gl X tn) (hmt : X.mg tn = none) (ha : JE X E a (Ln.ev cf ia))
    (hn : tn ≠ "__name__" := by decide) (hd : (tn == ("__debug__" : Str)) = false := by decide)
    (he : starEach [a, .Name tn p2] X.env = (false, eval a X.env) :: starEach [.Name tn p2] X.env := by rfl) (hpl : (backTo pos (starEach [.Name tn p2] X.env)).any (·.1) = false := by rfl) :
    JE X E (.Call (.Name "isinstance" p) [a, .Name tn p2] [] pos) (Ln.ev cf (.isi ia t)) :=
  pe_w (pe_callB call_isi hg hm (by decide +kernel) (pa_cons ha (pa_cons (pe_bltn (v := .ty (tyName t)) hgt hmt ht rfl hn hd) pa_nil) he) (he := he) (hpl := hpl)) fun σ H Q ⟨ρ, α, S, rs, re, p⟩ => by
    simp only [Ln.ev] at p
    refine ⟨ρ, α, S, rs, re, p.bind.mono fun d S1 H1 α1 _ q v rd => ?_⟩
    obtain ⟨k, e, k2⟩ := q.2.bind.opt q.1.rs
    have k3 := k2.2.ret q.1.rs
    have non : d = .non ∨ d ≠ .non := by cases d <;> simp
    rcases non with rfl | hnon
    · cases rd
      cases e
      exact ⟨.non, _, _, _, false, rfl, .ty _, .base .non, kit_none X.K t, k3 _ (.bl _)⟩
    · have e' : (Ln.tyOf S1 d).map (fun u => decide (u = t) || (decide (u = .bool) && decide (t = .int))) = some k := by
        unfold Ln.isiD at e
        split at e
        · exact absurd rfl hnon
        · exact e
      rw [Option.map_eq_some_iff] at e'
      obtain ⟨u, e1, e2⟩ := e'
      exact ⟨v, _, _, _, k, rfl, .ty _, ty_at q.1.rs rd e1, by rw [kit_all, e2], k3 _ (.bl _)⟩
end
end LnS

set_option linter.all false
set_option maxRecDepth 100000
/-! Ln: built-ins. -/
namespace LnS
open PySem L2 PyProof.Rows
open Ln (D O Store Rho M R Ex)

/-! ### depth -/
theorem depthAll_le {S : Store} {k : Nat} (ih : ∀ (d : D) (p : PyData), Ln.toP S k d = some p → p.depth ≤ k) : ∀ {ds : List D} {ps : List PyData}, ds.mapM (Ln.toP S k) = some ps → PyData.depthAll ps ≤ k
  | [], _, e => by rw [mapM_nil e]; simp [PyData.depthAll]
  | d :: ds, _, e => by
    obtain ⟨p, ps', e1, e2, rfl⟩ := mapM_cons e
    simp only [PyData.depthAll]
    have h1 := ih d p e1
    have h2 := depthAll_le ih e2
    omega
theorem depthKv_le {n : Nat} : ∀ {ps qs : List PyData}, PyData.depthAll ps ≤ n → PyData.depthAll qs ≤ n → PyData.depthKv (ps.zip qs) ≤ n
  | [], _, _, _ => by simp [PyData.depthKv]
  | _ :: _, [], _, _ => by simp [PyData.depthKv]
  | p :: ps, q :: qs, h1, h2 => by
    simp only [PyData.depthAll] at h1 h2
    simp only [List.zip_cons_cons, PyData.depthKv]
    have := depthKv_le (n := n) (ps := ps) (qs := qs) (by omega) (by omega)
    omega
theorem toP_depth {S : Store} : ∀ (k : Nat) (d : D) (p : PyData), Ln.toP S k d = some p → p.depth ≤ k
  | 0, d, p, e => by cases d <;> simp only [Ln.toP] at e <;> cases e <;> simp [PyData.depth]
  | k + 1, d, p, e => by
    have ih := toP_depth (S := S) k
    have dct : ∀ {ks vs : List D}, ((ks.mapM (Ln.toP S k)).bind fun a => (vs.mapM (Ln.toP S k)).map fun b => PyData.dict (a.zip b)) = some p → p.depth ≤ k + 1 := fun {ks vs} e => by
      cases e1 : ks.mapM (Ln.toP S k) with
      | none => rw [e1] at e; cases e
      | some pa =>
      cases e2 : vs.mapM (Ln.toP S k) with
      | none => rw [e1, e2] at e; cases e
      | some pb =>
      rw [e1, e2] at e
      cases e
      simp only [PyData.depth]
      have := depthKv_le (depthAll_le ih e1) (depthAll_le ih e2)
      omega
    cases d with
    | non => cases e; simp [PyData.depth]
    | bl b => cases e; simp [PyData.depth]
    | int i => cases e; simp [PyData.depth]
    | str x => cases e; simp [PyData.depth]
    | tup xs =>
      simp only [Ln.toP, Option.map_eq_some_iff] at e
      obtain ⟨ps, e, rfl⟩ := e
      have := depthAll_le ih e
      simp only [PyData.depth]; omega
    | lst xs =>
      simp only [Ln.toP, Option.map_eq_some_iff] at e
      obtain ⟨ps, e, rfl⟩ := e
      have := depthAll_le ih e
      simp only [PyData.depth]; omega
    | frz xs => cases e
    | dct ks vs => exact dct e
    | ref n =>
      simp only [Ln.toP] at e
      split at e
      · simp only [Option.map_eq_some_iff] at e
        obtain ⟨ps, e, rfl⟩ := e
        have := depthAll_le ih e
        simp only [PyData.depth]; omega
      · exact dct e
      · cases e

/-- a built-in that leaves the store, by values -/
def rB (K : Frag) (f : Store → List D → Option D) : List V → Hp → VK → Prop := fun vs H Q => ∃ α S ds d, RS K H α S ∧ RDs K H α ds vs ∧ f S ds = some d ∧ ∀ v H' α', After K α H α' H' S → RD K H' α' d v → Q v H'

section
variable {X : Cx}
theorem rds1 {K : Frag} {H : Hp} {α : Al} {d : D} {vs : List V} (r : RDs K H α [d] vs) : ∃ v, vs = [v] ∧ RD K H α d v := by
  cases r with
  | cons r t => cases t; exact ⟨_, rfl, r⟩
theorem rds2 {K : Frag} {H : Hp} {α : Al} {d e : D} {vs : List V} (r : RDs K H α [d, e] vs) : ∃ v w, vs = [v, w] ∧ RD K H α d v ∧ RD K H α e w := by
  cases r with
  | cons r t => obtain ⟨w, rfl, q⟩ := rds1 t; exact ⟨_, w, rfl, r, q⟩
theorem cb_len : CallR X (.builtin "len") (rB X.K Ln.lenF) := by
  intro pins s σ H xs us Q I r h
  obtain ⟨α, S, ds, d, rs, rd, e, q⟩ := h
  unfold Ln.lenF at e
  split at e
  · obtain ⟨v, rfl, rd1⟩ := rds1 rd
    cases rd1
    split at e
    · rename_i hz
      cases e
      exact call_len_str pins s σ H _ us Q I r ⟨_, rfl, hz, q _ _ _ (.refl rs) (.int _)⟩
    · cases e
  · obtain ⟨v, rfl, rd1⟩ := rds1 rd
    rw [Option.map_eq_some_iff] at e
    obtain ⟨ys, e, rfl⟩ := e
    obtain ⟨a, vs, rfl, hq, rds⟩ := seq_at rs rd1 e
    refine call_len_seq pins s σ H _ us Q I r ⟨a, vs, rfl, hq, ?_⟩
    rw [← rds.length]
    exact q _ _ _ (.refl rs) (.int _)
  · cases e
theorem cb_tuple : CallR X (.type "tuple") (rB X.K Ln.tupleF) := by
  intro pins s σ H xs us Q I r h
  obtain ⟨α, S, ds, d, rs, rd, e, q⟩ := h
  unfold Ln.tupleF at e
  split at e
  · obtain ⟨v, rfl, rd1⟩ := rds1 rd
    rw [Option.map_eq_some_iff] at e
    obtain ⟨ys, e, rfl⟩ := e
    obtain ⟨a, vs, rfl, hq, rds⟩ := seq_at rs rd1 e
    refine call_tuple_of pins s σ H _ us Q I r ⟨a, vs, rfl, ?_⟩
    rcases hq with hq | hq
    · refine .inl ⟨hq, fun p hp => ?_⟩
      obtain ⟨af, rd'⟩ := new_tup rs hp rds
      exact q _ _ _ af rd'
    · exact .inr ⟨hq, q _ _ _ (.refl rs) (.tup hq rds)⟩
  · cases e
theorem cb_list : CallR X (.type "list") (rB X.K Ln.listF) := by
  intro pins s σ H xs us Q I r h
  obtain ⟨α, S, ds, d, rs, rd, e, q⟩ := h
  unfold Ln.listF at e
  split at e
  · obtain ⟨v, rfl, rd1⟩ := rds1 rd
    rw [Option.map_eq_some_iff] at e
    obtain ⟨ys, e, rfl⟩ := e
    obtain ⟨a, vs, rfl, hq, rds⟩ := seq_at rs rd1 e
    refine call_list_of pins s σ H _ us Q I r ⟨a, vs, rfl, hq, fun p hp => ?_⟩
    obtain ⟨af, rd'⟩ := new_lst rs hp rds
    exact q _ _ _ af rd'
  · cases e
theorem cb_all (hc : X.calm = true) : CallR X (.builtin "all") (rB X.K Ln.allF) := by
  intro pins s σ H xs us Q I r h
  obtain ⟨α, S, ds, d, rs, rd, e, q⟩ := h
  unfold Ln.allF at e
  split at e
  · obtain ⟨v, rfl, rd1⟩ := rds1 rd
    simp only [Option.bind_eq_some_iff, Option.map_eq_some_iff] at e
    obtain ⟨ys, e, bs, e2, rfl⟩ := e
    obtain ⟨a, vs, rfl, hq, rds⟩ := lst_at rs rd1 e
    have := rds.boolsD e2
    subst this
    exact cr_all hc pins s σ H _ us Q I r ⟨a, bs, rfl, SqL.of hq, q _ _ _ (.refl rs) (.bl _)⟩
  · cases e
theorem cb_any (hc : X.calm = true) : CallR X (.builtin "any") (rB X.K Ln.anyF) := by
  intro pins s σ H xs us Q I r h
  obtain ⟨α, S, ds, d, rs, rd, e, q⟩ := h
  unfold Ln.anyF at e
  split at e
  · obtain ⟨v, rfl, rd1⟩ := rds1 rd
    simp only [Option.bind_eq_some_iff, Option.map_eq_some_iff] at e
    obtain ⟨ys, e, bs, e2, rfl⟩ := e
    obtain ⟨a, vs, rfl, hq, rds⟩ := lst_at rs rd1 e
    have := rds.boolsD e2
    subst this
    exact cr_any hc pins s σ H _ us Q I r ⟨a, bs, rfl, SqL.of hq, q _ _ _ (.refl rs) (.bl _)⟩
  · cases e
theorem cb_sum (hc : X.calm = true) : CallR X (.builtin "sum") (rB X.K Ln.sumF) := by
  intro pins s σ H xs us Q I r h
  obtain ⟨α, S, ds, d, rs, rd, e, q⟩ := h
  unfold Ln.sumF at e
  split at e
  · obtain ⟨v, rfl, rd1⟩ := rds1 rd
    simp only [Option.bind_eq_some_iff, Option.map_eq_some_iff] at e
    obtain ⟨ys, e, bs, e2, rfl⟩ := e
    obtain ⟨a, vs, rfl, hq, rds⟩ := lst_at rs rd1 e
    have := rds.intsD e2
    subst this
    exact cr_sum hc pins s σ H _ us Q I r ⟨a, bs, rfl, SqL.of hq, q _ _ _ (.refl rs) (.int _)⟩
  · cases e
theorem cb_abs : CallR X (.builtin "abs") (rB X.K Ln.absF) := by
  intro pins s σ H xs us Q I r h
  obtain ⟨α, S, ds, d, rs, rd, e, q⟩ := h
  unfold Ln.absF at e
  split at e
  · obtain ⟨v, rfl, rd1⟩ := rds1 rd
    cases rd1; cases e
    exact call_abs pins s σ H _ us Q I r ⟨_, rfl, q _ _ _ (.refl rs) (.int _)⟩
  · cases e
theorem cb_max (hc : X.calm = true) : CallR X (.builtin "max") (rB X.K Ln.maxF) := by
  intro pins s σ H xs us Q I r h
  obtain ⟨α, S, ds, d, rs, rd, e, q⟩ := h
  unfold Ln.maxF at e
  split at e
  · obtain ⟨v, w, rfl, rd1, rd2⟩ := rds2 rd
    cases rd1; cases rd2; cases e
    exact call_max2 hc pins s σ H _ us Q I r ⟨_, _, rfl, q _ _ _ (.refl rs) (.int _)⟩
  · cases e
theorem cb_min (hc : X.calm = true) : CallR X (.builtin "min") (rB X.K Ln.minF) := by
  intro pins s σ H xs us Q I r h
  obtain ⟨α, S, ds, d, rs, rd, e, q⟩ := h
  unfold Ln.minF at e
  split at e
  · obtain ⟨v, w, rfl, rd1, rd2⟩ := rds2 rd
    cases rd1; cases rd2; cases e
    exact call_min2 hc pins s σ H _ us Q I r ⟨_, _, rfl, q _ _ _ (.refl rs) (.int _)⟩
  · cases e
theorem cb_int : CallR X (.type "int") (rB X.K Ln.intF) := by
  intro pins s σ H xs us Q I r h
  obtain ⟨α, S, ds, d, rs, rd, e, q⟩ := h
  unfold Ln.intF at e
  split at e
  · obtain ⟨v, rfl, rd1⟩ := rds1 rd
    cases rd1; cases e
    exact call_int1 pins s σ H _ us Q I r (.inl ⟨_, rfl, q _ _ _ (.refl rs) (.int _)⟩)
  · obtain ⟨v, rfl, rd1⟩ := rds1 rd
    cases rd1; cases e
    exact call_int1 pins s σ H _ us Q I r (.inr ⟨_, rfl, q _ _ _ (.refl rs) (.int _)⟩)
  · cases e
theorem cb_str : CallR X (.type "str") (rB X.K Ln.strF) := by
  intro pins s σ H xs us Q I r h
  obtain ⟨α, S, ds, d, rs, rd, e, q⟩ := h
  unfold Ln.strF at e
  split at e
  · obtain ⟨v, rfl, rd1⟩ := rds1 rd
    cases rd1
    split at e
    · rename_i hz
      cases e
      exact call_str_int pins s σ H _ us Q I r ⟨_, rfl, hz, q _ _ _ (.refl rs) (.str _)⟩
    · cases e
  · cases e
theorem cb_repr (hg : X.A.guards = some []) (hu : X.A.units + 64 < cLine) : CallR X (.builtin "repr") (rB X.K Ln.reprF) := by
  intro pins s σ H xs us Q I r h
  obtain ⟨α, S, ds, d, rs, rd, e, q⟩ := h
  unfold Ln.reprF at e
  split at e
  · obtain ⟨v, rfl, rd1⟩ := rds1 rd
    rw [Option.bind_eq_some_iff] at e
    obtain ⟨p, e1, e⟩ := e
    split at e
    · rename_i hz
      cases e
      rw [Bool.and_eq_true, decide_eq_true_eq] at hz
      obtain ⟨u, rfl, ru⟩ := r.one
      obtain ⟨as, h1, g1⟩ := reads_of I rs _ _ _ _ _ rd1 ru e1
      have dp := toP_depth _ _ _ e1
      have hd : p.depth ≤ 24 := dp
      have z := q _ _ _ (.refl rs) (.str p.shown)
      have refs : ∀ a, u = .ref a → wpAny (model X.prog X.w) X.A (call (.builtin "repr") [u]) (EP X pins σ Q) X.xe s := fun a ea => by
        subst ea
        exact repr_of_reads' h1 hz.1 (fun _ => g1) hg (by omega) (fun b o e => e) (fun h' u tk hk => ⟨.str _, H, I.kept (t' := tk) hk, ⟨u, rfl⟩, z⟩) hz.2
      cases h1 with
      | none => exact PySem.P.repr_of_none ⟨.str _, H, I.tok _, ⟨_, rfl⟩, by rw [PyData.shown_none] at z; exact z⟩
      | bool b => exact PySem.P.repr_of_bool ⟨.str _, H, I.tok _, ⟨_, rfl⟩, by rw [PyData.shown_bool] at z; exact z⟩
      | int i t => exact PySem.P.repr_of_int (by simpa [PyData.showable] using hz.1) ⟨.str _, H, I.tok _, ⟨_, rfl⟩, by rw [PyData.shown_int] at z; exact z⟩
      | str x t => exact PySem.P.repr_of_str ⟨.str _, H, I.tok _, ⟨_, rfl⟩, by rw [PyData.shown_str] at z; exact z⟩ (by have := hz.2; rw [PyData.shown_str] at this; exact this)
      | list => exact refs _ rfl
      | tuple => exact refs _ rfl
      | dict => exact refs _ rfl
    · cases e
  · cases e
/-! as expressions -/
variable {E : XS} {cf : Nat → List D → M D} {pos p : Pos} {a : Expr} {es : List Expr} {ies : Ln.Es} {x : Str}
theorem tcb_w {f : Store → List D → Option D} {b : Ln.Blt} (hb : ∀ args S, Ln.blt b args S = M.opt (fun S => f S args) S) {σ : L2.St} {H : Hp} {Q : VK} (h : TI X.K E (Ln.ev cf (.blt b ies)) σ H Q) : tCB (rB X.K f) (TAI X.K E (Ln.evs cf ies)) σ H Q := by
  obtain ⟨ρ, α, S, rs, re, p⟩ := h
  simp only [Ln.ev] at p
  refine ⟨ρ, α, S, rs, re, p.bind.mono fun ds S1 H1 α1 _ q vs rd => ?_⟩
  have p1 := q.2
  rw [hb] at p1
  obtain ⟨d, e, k⟩ := p1.optN
  exact ⟨α1, S1, ds, d, q.1.rs, rd, e, fun v H' α' a r => k H' α' a v r⟩
theorem je_bltB {f : Store → List D → Option D} {id : String} (b : Ln.Blt) (hb : ∀ args S, Ln.blt b args S = M.opt (fun S => f S args) S) (hc : CallR X (.builtin id) (rB X.K f)) (hg : Gl X x) (hm : X.mg x = none) (hv : bootBuiltins x = some (.builtin id)) (ha : JA X E (a :: es) (Ln.evs cf ies))
    (hn : x ≠ "__name__" := by decide) (hdb : (x == ("__debug__" : Str)) = false := by decide)
    (he : starEach (a :: es) X.env = (false, eval a X.env) :: starEach es X.env := by rfl) (hpl : (backTo pos (starEach es X.env)).any (·.1) = false := by rfl) : JE X E (.Call (.Name x p) (a :: es) [] pos) (Ln.ev cf (.blt b ies)) :=
  pe_w (pe_callB hc hg hm hv ha hn hdb he hpl) fun σ H Q h => tcb_w hb h
theorem je_bltT {f : Store → List D → Option D} {T : String} (b : Ln.Blt) (hb : ∀ args S, Ln.blt b args S = M.opt (fun S => f S args) S) (hc : CallR X (.type T) (rB X.K f)) (hg : Gl X x) (hm : X.mg x = none) (hv : bootBuiltins x = some (.type T)) (ha : JA X E (a :: es) (Ln.evs cf ies))
    (hn : x ≠ "__name__" := by decide) (hdb : (x == ("__debug__" : Str)) = false := by decide)
    (he : starEach (a :: es) X.env = (false, eval a X.env) :: starEach es X.env := by rfl) (hpl : (backTo pos (starEach es X.env)).any (·.1) = false := by rfl) : JE X E (.Call (.Name x p) (a :: es) [] pos) (Ln.ev cf (.blt b ies)) :=
  pe_w (pe_callTy hc hg hm hv ha hn hdb he hpl) fun σ H Q h => tcb_w hb h
end
end LnS

set_option linter.all false
set_option maxRecDepth 100000
/-! Ln: defs, their calls. -/
namespace LnS
open PySem L2 PyProof.Rows
open Ln (D O Store Rho M R Ex)

/-- a def's promise by positional values, where no repr is under way -/
def FnG (P : Program) (w : World) (K : Frag) (mg : Str → Option Value) (base : Heap) (CX : CXT) (k : Nat) (f : Addr) (sp : Sp) : Prop :=
  ∀ (A : Around) (outer : List Env) (s : Shared) (H : Hp) (us : List Value) (vs : List V) (Q : VK) (E : XK), Room k A → A.guards = some [] → Env0 P w K mg base A outer s H → Vals vs us → sp vs H Q E →
    codeAny (model P w) A (.call (.ref f) ⟨us, []⟩) (CR CX outer P w H s Q E) s
/-- what the evaluator says of a def, as a promise -/
def spI (K : Frag) (g : List D → M D) : Sp := fun vs H Q _ => ∃ α S ds, RS K H α S ∧ RDs K H α ds vs ∧ Pst K X0 H α (g ds S) fun d _ H' α' => ∀ v, RD K H' α' d v → Q v H'

section
variable {X : Cx} {cf : Nat → List D → M D} {pos p : Pos} {a : Expr} {es : List Expr} {ies : Ln.Es} {x : Str} {k : Nat} {f : Addr} {CX : CXT}
theorem run_fnG {pins : List (Addr × Obj)} {σ : L2.St} {H : Hp} {s : Shared} {sp : Sp} {E : XK} {Q : VK} {us : List Value} {vs : List V} (F : FnG X.prog X.w X.K X.mg X.base CX k f sp) (hr : Room k X.A) (hG : X.A.guards = some []) (hx : Passes CX X E) (I : Inv X pins σ H s) (r : Vals vs us) (h : sp vs H Q E) :
    wpAny (model X.prog X.w) X.A (call (.ref f) us) (EP X pins σ Q) X.xe s := by
  refine wpAny_call (codeAny_mono (F X.A X.stack s H us vs Q E hr hG I.env0 r h) fun r s' hq => ?_)
  match r, hq with
  | .error e, hq => exact hx pins σ H s e s' I hq
  | .ok (.ret u), hq => exact I.after hq
theorem args_at {n : Nat} {σ : L2.St} {H : Hp} {Q : VK} (h : TI X.K X0 (Ln.ev cf (.call n ies)) σ H Q) : TAI X.K X0 (Ln.evs cf ies) σ H fun vs H1 => spI X.K (cf n) vs H1 Q E0 := by
  obtain ⟨ρ, α, S, rs, re, q⟩ := h
  simp only [Ln.ev] at q
  exact ⟨ρ, α, S, rs, re, q.bind.mono fun ds S1 H1 α1 _ q vs rds => ⟨α1, S1, ds, q.1.rs, rds, q.2⟩⟩
/-- f(a, ..) -/
theorem je_call (n : Nat) (F : FnG X.prog X.w X.K X.mg X.base CX0 k f (spI X.K (cf n))) (hr : Room k X.A) (hG : X.A.guards = some []) (hg : Gl X x) (hm : X.mg x = some (.ref f)) (hk : PySem.W.keepIn X.K (.ref f) = true) (ha : JA X X0 (a :: es) (Ln.evs cf ies))
    (hdb : (x == ("__debug__" : Str)) = false := by decide) (he : starEach (a :: es) X.env = (false, eval a X.env) :: starEach es X.env := by rfl) (hpl : (backTo pos (starEach es X.env)).any (·.1) = false := by rfl) :
    JE X X0 (.Call (.Name x p) (a :: es) [] pos) (Ln.ev cf (.call n ies)) := by
  refine ⟨fun pins s σ H Q I h => ?_⟩
  refine wpAny_Call_Name_kw (ld_glob I hg hm ?_ hdb)
  refine PySem.W.callWith_K (h₀ := X.base) I.ok.mod.kin hk (thn (ha.run pos pins s σ H _ I (args_at h)) fun us s1 ⟨vs, H1, I1, r, q1⟩ => ⟨I1.kIn, ?_⟩) he hpl
  exact run_fnG F hr hG pass0 I1 r q1
/-- f(a, .., *b) -/
theorem je_callS2 (n : Nat) (F : FnG X.prog X.w X.K X.mg X.base CX0 k f (spI X.K (cf n))) (hr : Room k X.A) (hG : X.A.guards = some []) (hg : Gl X x) (hm : X.mg x = some (.ref f)) (hk : PySem.W.keepIn X.K (.ref f) = true) (ha : JA X X0 (a :: es) (Ln.evs cf ies))
    (hdb : (x == ("__debug__" : Str)) = false := by decide) (he : starEach (a :: es) X.env = (false, eval a X.env) :: starEach es X.env := by rfl) (hst : (backTo pos (starEach es X.env)).any (·.1) = true := by rfl) :
    JE X X0 (.Call (.Name x p) (a :: es) [] pos) (Ln.ev cf (.call n ies)) := by
  refine ⟨fun pins s σ H Q I h => ?_⟩
  refine wpAny_Call_Name_kw (ld_glob I hg hm ?_ hdb)
  refine PySem.W.callWith_S2 (h₀ := X.base) I.ok.mod.kin hk (thn (ha.run pos pins s σ H _ I (args_at h)) fun us s1 ⟨vs, H1, I1, r, q1⟩ => ⟨I1.kIn, ?_⟩) he hst
  exact run_fnG F hr hG pass0 I1 r q1
end
end LnS

set_option linter.all false
set_option maxRecDepth 100000
/-! Ln: what is walked; comprehensions. -/
namespace LnS
open PySem L2 PyProof.Rows
open Ln (D O Store Rho M R Ex)

/-- the iterator J walks the items xs, as long as the store lives on from (H1, α1) -/
structure Walk (K : Frag) (H1 : Hp) (α1 : Al) (xs : List D) (J : It) : Prop where
  go : ∀ i H' α' S', After K α1 H1 α' H' S' → i < xs.length → J.go i H'
  stop : ∀ i H' α' S', After K α1 H1 α' H' S' → xs.length ≤ i → J.stop i H'
  yld : ∀ i H' α' S' d x H'', After K α1 H1 α' H' S' → xs[i]? = some d → J.yld i H' x H'' → After K α' H' α' H'' S' ∧ RD K H'' α' d x
def TII (K : Frag) (E : XS) (m : Rho → M (List D)) : L2.TI := fun σ H R => ∃ ρ α S, RS K H α S ∧ RE K H α ρ σ ∧ Pst K E H α (m ρ S) fun xs _ H1 α1 => xs.length ≤ sizeLine → ∀ J, Walk K H1 α1 xs J → R J H1
abbrev JI (X : Cx) (E : XS) (tg iter : Expr) (m : Rho → M (List D)) : Prop := PI X tg iter (TII X.K E m)
theorem pi_w {X : Cx} {tg iter : Expr} {t t' : L2.TI} (h : PI X tg iter t) (k : ∀ σ H R, t' σ H R → t σ H R) : PI X tg iter t' := ⟨fun pins s σ H R I q => h.run pins s σ H R I (k _ _ _ q)⟩

section
variable {K : Frag} {H1 : Hp} {α1 : Al} {xs : List D}
theorem walk_list {a : Addr} {vs : List V} (h : ∀ H' α' S', After K α1 H1 α' H' S' → SqL K H' a vs ∧ RDs K H' α' xs vs) (inj : ∀ H' α' S', After K α1 H1 α' H' S' → True) : Walk K H1 α1 xs (Itl K a) where
  go := fun i H' α' S' af hi => by
    obtain ⟨h1, h2⟩ := h H' α' S' af
    have : i < vs.length := by rw [← h2.length]; exact hi
    exact ⟨vs, vs[i], h1, List.getElem?_eq_getElem this⟩
  stop := fun i H' α' S' af hi => by
    obtain ⟨h1, h2⟩ := h H' α' S' af
    exact ⟨vs, h1, by rw [← h2.length]; exact hi⟩
  yld := fun i H' α' S' d x H'' af hd hy => by
    obtain ⟨h1, h2⟩ := h H' α' S' af
    obtain ⟨rfl, hy⟩ := hy
    obtain ⟨v, e1, e2⟩ := h2.get hd
    have := (hy vs h1).symm.trans e1
    cases this
    exact ⟨.refl af.rs, e2⟩
theorem walk_tup {a : Addr} {vs : List V} (h : ∀ H' α' S', After K α1 H1 α' H' S' → SqT K H' a vs ∧ RDs K H' α' xs vs) : Walk K H1 α1 xs (Itt K a) where
  go := fun i H' α' S' af hi => by
    obtain ⟨h1, h2⟩ := h H' α' S' af
    have : i < vs.length := by rw [← h2.length]; exact hi
    exact ⟨vs, vs[i], h1, List.getElem?_eq_getElem this⟩
  stop := fun i H' α' S' af hi => by
    obtain ⟨h1, h2⟩ := h H' α' S' af
    exact ⟨vs, h1, by rw [← h2.length]; exact hi⟩
  yld := fun i H' α' S' d x H'' af hd hy => by
    obtain ⟨h1, h2⟩ := h H' α' S' af
    obtain ⟨rfl, hy⟩ := hy
    obtain ⟨v, e1, e2⟩ := h2.get hd
    have := (hy vs h1).symm.trans e1
    cases this
    exact ⟨.refl af.rs, e2⟩
theorem range_at {lo hi : Int} {i : Nat} {d : D} (h : (Ln.range lo hi)[i]? = some d) : d = .int (lo + i) := by
  unfold Ln.range at h
  rw [List.getElem?_map] at h
  cases e : (List.range (hi - lo).toNat)[i]? with
  | none => rw [e] at h; cases h
  | some j =>
    rw [e] at h
    have hj := List.getElem?_eq_some_iff.mp e
    obtain ⟨h1, h2⟩ := hj
    rw [List.getElem_range] at h2
    cases h
    rw [h2]
theorem range_len {lo hi : Int} : (Ln.range lo hi).length = (hi - lo).toNat := by unfold Ln.range; rw [List.length_map, List.length_range]
theorem walk_rng {lo hi : Int} {n : Nat} (hn : n = (hi - lo).toNat) : Walk K H1 α1 (Ln.range lo hi) (Itr lo n) where
  go := fun i H' α' S' af h => by rw [range_len] at h; show i < n; omega
  stop := fun i H' α' S' af h => by rw [range_len] at h; show n ≤ i; omega
  yld := fun i H' α' S' d x H'' af hd hy => by
    obtain ⟨rfl, rfl⟩ := hy
    rw [range_at hd]
    exact ⟨.refl af.rs, .int _⟩
theorem pairs_len : ∀ (xs ys : List D), (Ln.pairs xs ys).length = min xs.length ys.length
  | [], _ => by simp [Ln.pairs]
  | _ :: _, [] => by simp [Ln.pairs]
  | x :: xs, y :: ys => by simp only [Ln.pairs, List.length_cons, pairs_len xs ys]; omega
theorem pairs_at : ∀ {xs ys : List D} {i : Nat} {d : D}, (Ln.pairs xs ys)[i]? = some d → ∃ x y, xs[i]? = some x ∧ ys[i]? = some y ∧ d = .tup [x, y]
  | [], _, _, _, h => by simp [Ln.pairs] at h
  | _ :: _, [], _, _, h => by simp [Ln.pairs] at h
  | x :: xs, y :: ys, 0, _, h => by simp [Ln.pairs] at h; exact ⟨x, y, rfl, rfl, h.symm⟩
  | x :: xs, y :: ys, i + 1, d, h => by
    have h' : (Ln.pairs xs ys)[i]? = some d := by simpa [Ln.pairs] using h
    obtain ⟨a, b, h1, h2, h3⟩ := pairs_at h'
    exact ⟨a, b, by simpa using h1, by simpa using h2, h3⟩
theorem numbered_len : ∀ (k : Nat) (xs : List D), (Ln.numbered k xs).length = xs.length
  | _, [] => rfl
  | k, x :: xs => by simp only [Ln.numbered, List.length_cons, numbered_len (k + 1) xs]
theorem numbered_at : ∀ {k : Nat} {xs : List D} {i : Nat} {d : D}, (Ln.numbered k xs)[i]? = some d → ∃ x, xs[i]? = some x ∧ d = .tup [.int ((k + i : Nat) : Int), x]
  | _, [], _, _, h => by simp [Ln.numbered] at h
  | k, x :: xs, 0, _, h => by simp [Ln.numbered] at h; exact ⟨x, rfl, by rw [← h]; rfl⟩
  | k, x :: xs, i + 1, d, h => by
    have h' : (Ln.numbered (k + 1) xs)[i]? = some d := by simpa [Ln.numbered] using h
    obtain ⟨a, h1, h2⟩ := numbered_at h'
    exact ⟨a, by simpa using h1, by rw [h2, show k + 1 + i = k + (i + 1) by omega]⟩
theorem walk_zipL {a b : Addr} {ys : List D} {vs ws : List V} (h : ∀ H' α' S', After K α1 H1 α' H' S' → SqL K H' a vs ∧ RDs K H' α' xs vs ∧ SqL K H' b ws ∧ RDs K H' α' ys ws) : Walk K H1 α1 (Ln.pairs xs ys) (Itz K a b) where
  go := fun i H' α' S' af hi => by
    obtain ⟨h1, h2, h3, h4⟩ := h H' α' S' af
    rw [pairs_len] at hi
    have l2 := h2.length
    have l4 := h4.length
    exact ⟨vs, ws, vs[i]'(by omega), ws[i]'(by omega), h1, h3, List.getElem?_eq_getElem _, List.getElem?_eq_getElem _⟩
  stop := fun i H' α' S' af hi => by
    obtain ⟨h1, h2, h3, h4⟩ := h H' α' S' af
    rw [pairs_len] at hi
    have l2 := h2.length
    have l4 := h4.length
    exact ⟨vs, ws, h1, h3, by omega⟩
  yld := fun i H' α' S' d x H'' af hd hy => by
    obtain ⟨h1, h2, h3, h4⟩ := h H' α' S' af
    obtain ⟨T, p, q, rfl, hT, rfl, k1, k2⟩ := hy
    obtain ⟨dx, dy, e1, e2, rfl⟩ := pairs_at hd
    obtain ⟨v, f1, f2⟩ := h2.get e1
    obtain ⟨w, g1, g2⟩ := h4.get e2
    have := (k1 vs h1).symm.trans f1
    cases this
    have := (k2 ws h3).symm.trans g1
    cases this
    exact new_tup af.rs hT (.cons f2 (.cons g2 .nil))
theorem walk_zipT {a b : Addr} {ys : List D} {vs ws : List V} (h : ∀ H' α' S', After K α1 H1 α' H' S' → SqT K H' a vs ∧ RDs K H' α' xs vs ∧ SqT K H' b ws ∧ RDs K H' α' ys ws) : Walk K H1 α1 (Ln.pairs xs ys) (RZ.ItzT K a b) where
  go := fun i H' α' S' af hi => by
    obtain ⟨h1, h2, h3, h4⟩ := h H' α' S' af
    rw [pairs_len] at hi
    have l2 := h2.length
    have l4 := h4.length
    exact ⟨vs, ws, vs[i]'(by omega), ws[i]'(by omega), h1, h3, List.getElem?_eq_getElem _, List.getElem?_eq_getElem _⟩
  stop := fun i H' α' S' af hi => by
    obtain ⟨h1, h2, h3, h4⟩ := h H' α' S' af
    rw [pairs_len] at hi
    have l2 := h2.length
    have l4 := h4.length
    exact ⟨vs, ws, h1, h3, by omega⟩
  yld := fun i H' α' S' d x H'' af hd hy => by
    obtain ⟨h1, h2, h3, h4⟩ := h H' α' S' af
    obtain ⟨T, p, q, rfl, hT, rfl, k1, k2⟩ := hy
    obtain ⟨dx, dy, e1, e2, rfl⟩ := pairs_at hd
    obtain ⟨v, f1, f2⟩ := h2.get e1
    obtain ⟨w, g1, g2⟩ := h4.get e2
    have := (k1 vs h1).symm.trans f1
    cases this
    have := (k2 ws h3).symm.trans g1
    cases this
    exact new_tup af.rs hT (.cons f2 (.cons g2 .nil))
theorem walk_enum {a : Addr} {vs : List V} (h : ∀ H' α' S', After K α1 H1 α' H' S' → SqL K H' a vs ∧ RDs K H' α' xs vs) : Walk K H1 α1 (Ln.numbered 0 xs) (Ite K a) where
  go := fun i H' α' S' af hi => by
    obtain ⟨h1, h2⟩ := h H' α' S' af
    rw [numbered_len] at hi
    have : i < vs.length := by rw [← h2.length]; exact hi
    exact ⟨vs, vs[i], h1, List.getElem?_eq_getElem this⟩
  stop := fun i H' α' S' af hi => by
    obtain ⟨h1, h2⟩ := h H' α' S' af
    rw [numbered_len] at hi
    exact ⟨vs, h1, by rw [← h2.length]; exact hi⟩
  yld := fun i H' α' S' d x H'' af hd hy => by
    obtain ⟨h1, h2⟩ := h H' α' S' af
    obtain ⟨T, p, rfl, hT, rfl, k1⟩ := hy
    obtain ⟨dx, e1, rfl⟩ := numbered_at hd
    obtain ⟨v, f1, f2⟩ := h2.get e1
    have := (k1 vs h1).symm.trans f1
    cases this
    rw [Nat.zero_add]
    exact new_tup af.rs hT (.cons (.int _) (.cons f2 .nil))
end

section
variable {X : Cx} {E : XS} {cf : Nat → List D → M D} {pos p tpos : Pos} {a b tg : Expr} {ia ib : Ln.E} {kk : Nat} {elts : List Expr}
theorem len_seq {pins : List (Addr × Obj)} {σ : L2.St} {H : Hp} {s : Shared} {a : Addr} {vs : List V} (I : Inv X pins σ H s) (h : SqL X.K H a vs ∨ SqT X.K H a vs) : vs.length ≤ sizeLine := by
  rcases h with h | h
  · exact (I.list h).elim fun _ q => q.2.2
  · exact (I.tuple h).elim fun _ q => q.2.2
/-- as PE, the items' number told -/
theorem pi_seq {l : Expr} {tl : TE} (hl : PE X l tl) : PI X tg l (fun σ H R => tl σ H fun x H1 => ∃ a xs, x = .ref a ∧ ((SqL X.K H1 a xs ∧ (xs.length ≤ sizeLine → R (Itl X.K a) H1)) ∨ (SqT X.K H1 a xs ∧ (xs.length ≤ sizeLine → R (Itt X.K a) H1)))) := by
  refine ⟨fun pins s σ H R I h => ?_⟩
  refine thn (hl.run pins s σ H _ I h) fun v s1 ⟨x, H1, I1, r1, q1⟩ => ?_
  obtain ⟨a, xs, e, q⟩ := q1
  subst e
  cases r1
  have one : ∀ b ∈ [s1.heap.objs.size], FpOk X pins H1 b := fun b hb => by
    rw [List.mem_singleton.mp hb]
    exact I1.fpOk (Nat.le_refl _) I1.fresh
  rcases q with ⟨hq, q⟩ | ⟨hq, q⟩
  · obtain ⟨its, rv, pl, hz⟩ := I1.list hq
    exact wpAny_pyIter_list pl.isList ⟨s1.heap.objs.size, [s1.heap.objs.size], _, _, H1, rfl, I1.kept (t' := s1.toks) fun b o e => Heap.get?_push_of_some _ e, turn_list a _, ⟨_, Heap.get?_push_size _ rfl, rfl, rfl⟩, one, q hz⟩
  · obtain ⟨its, rv, pl, hz⟩ := I1.tuple hq
    exact wpAny_pyIter_tuple (show s1.heap.IsTuple a its.toArray from pl) ⟨s1.heap.objs.size, [s1.heap.objs.size], _, _, H1, rfl, I1.kept (t' := s1.toks) fun b o e => Heap.get?_push_of_some _ e, turn_tuple a _, ⟨_, Heap.get?_push_size _ rfl, rfl, rfl⟩, one, q hz⟩
theorem ji_seq (ha : JE X E a (Ln.ev cf ia)) : JI X E tg a (Ln.evi cf (.seq ia)) := pi_w (pi_seq ha) fun σ H R ⟨ρ, α, S, rs, re, q⟩ => by
  simp only [Ln.evi] at q
  refine ⟨ρ, α, S, rs, re, q.bind.mono fun d S1 H1 α1 _ q v rd => ?_⟩
  have p1 := q.2
  unfold Ln.seqK at p1
  split at p1
  · cases rd with
    | tup h rds =>
      have k := p1.ret q.1.rs
      exact ⟨_, _, rfl, .inr ⟨h, fun hz => k (by rw [rds.length]; exact hz) _ (walk_tup fun H' α' S' af => ⟨af.ext.sqT h, af.rds rds⟩)⟩⟩
  · cases rd with
    | lst n h rds =>
      have k := p1.ret q.1.rs
      exact ⟨_, _, rfl, .inl ⟨SqL.of h, fun hz => k (by rw [rds.length]; exact hz) _ (walk_list (fun H' α' S' af => ⟨af.ext.sqL n (SqL.of h), af.rds rds⟩) fun _ _ _ _ => trivial)⟩⟩
  · cases rd with
    | frz h rds =>
      have k := p1.ret q.1.rs
      refine ⟨_, _, rfl, .inl ⟨h.sq, fun hz => k (by rw [rds.length]; exact hz) _ (walk_list (fun H' α' S' af => ⟨?_, af.rds rds⟩) fun _ _ _ _ => trivial)⟩⟩
      have r' := af.rd (RD.frz h rds)
      cases r' with
      | frz h' rds' =>
        rcases h with ⟨n, h⟩ | h
        · exact af.ext.sqL n (.inl h)
        · exact .inr h
  · exact p1.elim
/-- the lengths of all lists and tuples are within the line -/
theorem pa_len {es : List Expr} {t : TA} (h : PA X es t) : PA X es (fun σ H Q => t σ H fun vs H1 => (∀ a xs, (SqL X.K H1 a xs ∨ SqT X.K H1 a xs) → xs.length ≤ sizeLine) → Q vs H1) :=
  ⟨fun pos pins s σ H Q I q => thn (h.run pos pins s σ H _ I q) fun us s1 ⟨vs, H1, I1, r, k⟩ => ⟨vs, H1, I1, r, k fun _ _ z => len_seq I1 z⟩⟩
theorem ji_rng1 (hg : Gl X "range") (hm : X.mg "range" = none) (ha : JE X E a (Ln.ev cf ia)) (hs : starEach [a] X.env = [(false, eval a X.env)] := by rfl) : JI X E tg (.Call (.Name "range" p) [a] [] pos) (Ln.evi cf (.rng1 ia)) :=
  pi_w (pi_range1 hg hm (pa_cons ha pa_nil hs) hs) fun σ H R ⟨ρ, α, S, rs, re, q⟩ => by
    simp only [Ln.evi] at q
    refine ⟨ρ, α, S, rs, re, q.bind.mono fun d S1 H1 α1 _ q v rd => ?_⟩
    have p1 := q.2
    unfold Ln.rngK at p1
    split at p1
    · cases rd
      split at p1
      · rename_i hc
        rw [Bool.and_eq_true, decide_eq_true_eq] at hc
        have h1 := hc.1
        unfold Ln.small62 at h1
        rw [Bool.and_eq_true, decide_eq_true_eq, decide_eq_true_eq] at h1
        refine ⟨_, rfl, h1.1, h1.2, p1.ret q.1.rs (by rw [range_len, Int.sub_zero]; exact hc.2) _ (walk_rng (by rw [Int.sub_zero]))⟩
      · exact p1.elim
    · exact p1.elim
theorem ji_rng2 (hg : Gl X "range") (hm : X.mg "range" = none) (ha : JE X E a (Ln.ev cf ia)) (hb : JE X E b (Ln.ev cf ib)) (hs : starEach [a, b] X.env = [(false, eval a X.env), (false, eval b X.env)] := by rfl)
    (hs2 : starEach [b] X.env = [(false, eval b X.env)] := by rfl) (hs3 : starEach [a, b] X.env = (false, eval a X.env) :: starEach [b] X.env := by rfl) : JI X E tg (.Call (.Name "range" p) [a, b] [] pos) (Ln.evi cf (.rng2 ia ib)) :=
  pi_w (pi_range2 hg hm (pa_cons ha (pa_cons hb pa_nil hs2) hs3) hs hs2) fun σ H R ⟨ρ, α, S, rs, re, q⟩ => by
    simp only [Ln.evi] at q
    refine ⟨ρ, α, S, rs, re, q.bind.mono fun d S1 H1 α1 _ q v rd => ?_⟩
    refine ⟨ρ, α1, S1, q.1.rs, q.1.re re, q.2.bind.mono fun d2 S2 H2 α2 _ q2 v2 rd2 => ?_⟩
    have rd' := q2.1.rd rd
    have p1 := q2.2
    unfold Ln.rng2K at p1
    split at p1
    · cases rd'; cases rd2
      split at p1
      · rename_i hc
        rw [Bool.and_eq_true, Bool.and_eq_true, decide_eq_true_eq] at hc
        have h1 := hc.1.1
        have h2 := hc.1.2
        unfold Ln.small62 at h1 h2
        rw [Bool.and_eq_true, decide_eq_true_eq, decide_eq_true_eq] at h1 h2
        refine ⟨_, _, rfl, ⟨h1.1, h1.2, h2.1, h2.2⟩, p1.ret q2.1.rs (by rw [range_len]; exact hc.2) _ (walk_rng rfl)⟩
      · exact p1.elim
    · exact p1.elim
theorem ji_zip (hg : Gl X "zip") (hm : X.mg "zip" = none) (ha : JE X E a (Ln.ev cf ia)) (hb : JE X E b (Ln.ev cf ib)) (hs2 : starEach [b] X.env = (false, eval b X.env) :: starEach [] X.env := by rfl)
    (hs : starEach [a, b] X.env = (false, eval a X.env) :: starEach [b] X.env := by rfl) (hpl : (backTo pos (starEach [b] X.env)).any (·.1) = false := by rfl) :
    JI X E (.Tuple elts kk tpos) (.Call (.Name "zip" p) [a, b] [] pos) (Ln.evi cf (.zip ia ib)) :=
  pi_w (RZ.pi_zipA hg hm (pa_len (pa_cons ha (pa_cons hb pa_nil hs2) hs)) hs hpl) fun σ H R ⟨ρ, α, S, rs, re, q⟩ => by
    simp only [Ln.evi] at q
    refine ⟨ρ, α, S, rs, re, q.bind.mono fun d S1 H1 α1 _ q v rd => ?_⟩
    refine ⟨ρ, α1, S1, q.1.rs, q.1.re re, q.2.bind.mono fun d2 S2 H2 α2 _ q2 v2 rd2 => ?_⟩
    have rd' := q2.1.rd rd
    have p1 := q2.2
    unfold Ln.zipK at p1
    intro hl
    split at p1
    · cases rd' with
      | tup h rds =>
      cases rd2 with
      | tup h2 rds2 =>
      have k := p1.ret q2.1.rs (by have := hl _ _ (.inr h); rw [pairs_len, rds.length]; omega)
      exact ⟨_, _, _, _, rfl, .inr ⟨h, h2, k _ (walk_zipT fun H' α' S' af => ⟨af.ext.sqT h, af.rds rds, af.ext.sqT h2, af.rds rds2⟩)⟩⟩
    · cases rd' with
      | lst n h rds =>
      cases rd2 with
      | lst n2 h2 rds2 =>
      have k := p1.ret q2.1.rs (by have := hl _ _ (.inl (SqL.of h)); rw [pairs_len, rds.length]; omega)
      exact ⟨_, _, _, _, rfl, .inl ⟨SqL.of h, SqL.of h2, k _ (walk_zipL fun H' α' S' af => ⟨af.ext.sqL n (SqL.of h), af.rds rds, af.ext.sqL n2 (SqL.of h2), af.rds rds2⟩)⟩⟩
    · exact p1.elim
theorem ji_enum (hg : Gl X "enumerate") (hm : X.mg "enumerate" = none) (ha : JE X E a (Ln.ev cf ia)) (hs : starEach [a] X.env = [(false, eval a X.env)] := by rfl) :
    JI X E (.Tuple elts kk tpos) (.Call (.Name "enumerate" p) [a] [] pos) (Ln.evi cf (.enum ia)) :=
  pi_w (pi_enum hg hm (pa_len (pa_cons ha pa_nil hs)) hs) fun σ H R ⟨ρ, α, S, rs, re, q⟩ => by
    simp only [Ln.evi] at q
    refine ⟨ρ, α, S, rs, re, q.bind.mono fun d S1 H1 α1 _ q v rd hl => ?_⟩
    have p1 := q.2
    unfold Ln.enumK at p1
    split at p1
    · cases rd with
      | lst n h rds =>
      have k := p1.ret q.1.rs (by have := hl _ _ (.inl (SqL.of h)); rw [numbered_len, rds.length]; exact this)
      exact ⟨_, _, rfl, SqL.of h, k _ (walk_enum fun H' α' S' af => ⟨af.ext.sqL n (SqL.of h), af.rds rds⟩)⟩
    · exact p1.elim
end
end LnS

set_option linter.all false
set_option maxRecDepth 100000
/-! Ln: targets, comprehensions. -/
namespace LnS
open PySem L2 PyProof.Rows
open Ln (D O Store Rho M R Ex)

/-! ### targets -/
def tgIdx : Ln.Tg → List Nat
  | .nm i => [i]
  | .tp is => is
/-- what a store to names leaves -/
def Sto (is : List Nat) (σ σ' : L2.St) : Prop := σ'.length = σ.length ∧ ∀ j, j ∉ is → σ'[j]? = σ[j]?
def TGI (K : Frag) (tg : Ln.Tg) : TG := fun v σ H Q => ∃ ρ α S d ρ', RS K H α S ∧ RE K H α ρ σ ∧ RD K H α d v ∧ Ln.setTg ρ tg d = some ρ' ∧ ∀ σ', RE K H α ρ' σ' → Sto (tgIdx tg) σ σ' → Q σ' H
abbrev JG (X : Cx) (e : Expr) (tg : Ln.Tg) : Prop := PG X e (TGI X.K tg)
theorem pg_w {X : Cx} {e : Expr} {t t' : TG} (h : PG X e t) (k : ∀ v σ H Q, t' v σ H Q → t v σ H Q) : PG X e t' := ⟨fun pins s σ H x u Q I r q => h.run pins s σ H x u Q I r (k _ _ _ _ q)⟩
theorem RE.set {K : Frag} {H : Hp} {α : Al} {ρ : Rho} {σ : L2.St} (r : RE K H α ρ σ) {i : Nat} {d : D} {v : V} (q : RD K H α d v) : RE K H α (ρ.set i (some d)) (σ.set i (some v)) := by
  refine ⟨by rw [List.length_set, List.length_set]; exact r.len, fun j e h => ?_⟩
  by_cases hj : i = j
  · subst hj
    have hl := (List.getElem?_eq_some_iff.mp h).1
    rw [List.length_set] at hl
    rw [List.getElem?_set_self hl] at h
    cases h
    exact ⟨v, by rw [List.getElem?_set_self (by rw [← r.len]; exact hl)], q⟩
  · rw [List.getElem?_set_ne hj] at h
    obtain ⟨w, h1, h2⟩ := r.get j e h
    exact ⟨w, by rw [List.getElem?_set_ne hj]; exact h1, h2⟩
theorem Sto.one {σ : L2.St} {i : Nat} {v : Option V} : Sto [i] σ (σ.set i v) := ⟨List.length_set, fun j h => List.getElem?_set_ne (fun z => h (by rw [z]; exact List.mem_singleton.mpr rfl))⟩
theorem jg_nm {X : Cx} {e : Expr} {i : Nat} (h : PG X e (gName i)) : JG X e (.nm i) := pg_w h fun v σ H Q ⟨ρ, α, S, d, ρ', rs, re, rd, e, k⟩ => by
  cases e
  exact k _ (re.set rd) .one
def TGsI (K : Frag) (is : List Nat) : TGs := fun vs σ H Q => ∃ ρ α S ds ρ', RS K H α S ∧ RE K H α ρ σ ∧ RDs K H α ds vs ∧ Ln.setAll ρ is ds = some ρ' ∧ ∀ σ', RE K H α ρ' σ' → Sto is σ σ' → Q σ' H
theorem pgs_w {X : Cx} {es : List Expr} {t t' : TGs} (h : PGs X es t) (k : ∀ v σ H Q, t' v σ H Q → t v σ H Q) : PGs X es t' := ⟨fun pins s σ H x u Q I r q => h.run pins s σ H x u Q I r (k _ _ _ _ q)⟩
theorem jgs_nil {X : Cx} : PGs X [] (TGsI X.K []) := pgs_w pgs_nil fun vs σ H Q ⟨ρ, α, S, ds, ρ', rs, re, rd, e, k⟩ => by
  cases ds with
  | nil => cases rd; cases e; exact ⟨rfl, k _ re ⟨rfl, fun _ _ => rfl⟩⟩
  | cons d ds => cases e
theorem jgs_cons {X : Cx} {e : Expr} {es : List Expr} {i : Nat} {is : List Nat} (h : PG X e (gName i)) (t : PGs X es (TGsI X.K is)) (hs : (assignEach (e :: es) X.env).map (·.2) = assign e X.env :: (assignEach es X.env).map (·.2) := by rfl) : PGs X (e :: es) (TGsI X.K (i :: is)) := pgs_w (pgs_cons h t hs) fun vs σ H Q ⟨ρ, α, S, ds, ρ', rs, re, rd, e, k⟩ => by
  cases ds with
  | nil => cases e
  | cons d ds =>
    cases rd with
    | cons r1 r2 =>
    refine ⟨_, _, rfl, ρ.set i (some d), α, S, ds, ρ', rs, re.set r1, r2, e, fun σ' h1 h2 => k σ' h1 ⟨h2.1.trans List.length_set, fun j hj => ?_⟩⟩
    rw [h2.2 j fun z => hj (List.mem_cons_of_mem _ z)]
    exact List.getElem?_set_ne (fun z => hj (by rw [z]; exact List.mem_cons_self))
theorem setAll_len : ∀ {ρ ρ' : Rho} {is : List Nat} {ds : List D}, Ln.setAll ρ is ds = some ρ' → ds.length = is.length
  | _, _, [], [], _ => rfl
  | _, _, _ :: _, [], e => nomatch e
  | _, _, [], _ :: _, e => nomatch e
  | _, _, _ :: is, _ :: ds, e => by rw [List.length_cons, List.length_cons, setAll_len (is := is) (ds := ds) e]
theorem jg_tp {X : Cx} {es : List Expr} {is : List Nat} {kk : Nat} {pos : Pos} (h : PG X (.Tuple es kk pos) (gTup X.K is.length (TGsI X.K is))) : JG X (.Tuple es kk pos) (.tp is) := pg_w h fun v σ H Q ⟨ρ, α, S, d, ρ', rs, re, rd, e, k⟩ => by
  unfold Ln.setTg at e
  cases rd with
  | tup h1 rds => exact ⟨_, _, rfl, h1, by rw [← rds.length]; exact setAll_len e, ρ, α, S, _, ρ', rs, re, rds, e, k⟩
  | _ => cases e

/-! ### the tests of a comprehension -/
abbrev JTs (X : Cx) (E : XS) (ifs : List Expr) (m : Rho → M Bool) : Prop := PTs X ifs (TTI X.K E m)
theorem pts_w {X : Cx} {e : List Expr} {t t' : TT} (h : PTs X e t) (k : ∀ σ H Q, t' σ H Q → t σ H Q) : PTs X e t' := ⟨fun pins s σ H Q I q => h.run pins s σ H Q I (k _ _ _ q)⟩
theorem jts_nil {X : Cx} {E : XS} {cf : Nat → List D → M D} : JTs X E [] (Ln.evts cf .nil) := pts_w pts_nil fun σ H Q ⟨ρ, α, S, rs, re, p⟩ => by
  simp only [Ln.evts] at p
  exact p.ret rs
theorem jts_one {X : Cx} {E : XS} {cf : Nat → List D → M D} {c : Expr} {ic : Ln.E} (h : JT X E c (Ln.evT cf ic)) : JTs X E [c] (Ln.evts cf (.cons ic .nil)) := pts_w (pts_one h) fun σ H Q ⟨ρ, α, S, rs, re, p⟩ => by
  refine ⟨ρ, α, S, rs, re, ?_⟩
  simp only [Ln.evts] at p
  unfold Ln.evT
  cases e : Ln.ev cf ic ρ S with
  | err => rw [bind_err e] at p; exact p.elim
  | exc x S1 => rw [bind_exc e] at p; rw [bind_exc e]; exact p
  | ok d S1 =>
    rw [bind_ok e] at p ⊢
    cases e2 : Ln.truthM d S1 with
    | err => rw [bind_err e2] at p; exact p.elim
    | exc x S2 => rw [bind_exc e2] at p; exact p
    | ok k S2 =>
      rw [bind_ok e2] at p
      cases k <;> exact p

/-! ### comprehensions -/
theorem wipe_get : ∀ {vs : List Nat} {ρ : Rho} {i : Nat} {d : D}, (Ln.wipe ρ vs)[i]? = some (some d) → ρ[i]? = some (some d) ∧ i ∉ vs
  | [], _, _, _, h => ⟨h, by simp⟩
  | v :: vs, ρ, i, d, h => by
    unfold Ln.wipe at h
    by_cases hi : v = i
    · subst hi
      by_cases hv : v < (Ln.wipe ρ vs).length
      · rw [List.getElem?_set_self hv] at h; cases h
      · rw [List.getElem?_eq_none (by rw [List.length_set]; omega)] at h; cases h
    · rw [List.getElem?_set_ne hi] at h
      obtain ⟨h1, h2⟩ := wipe_get h
      exact ⟨h1, by simp only [List.mem_cons, not_or]; exact ⟨fun e => hi e.symm, h2⟩⟩
theorem lnwipe_len : ∀ (vs : List Nat) (ρ : Rho), (Ln.wipe ρ vs).length = ρ.length
  | [], _ => rfl
  | v :: vs, ρ => by unfold Ln.wipe; rw [List.length_set, lnwipe_len vs ρ]
theorem wipe_out' {σ : L2.St} {i : Nat} : ∀ {vs : List Nat}, i ∉ vs → (L2.wipe σ vs)[i]? = σ[i]?
  | [], _ => rfl
  | v :: vs, h => by
    unfold L2.wipe
    rw [List.getElem?_set_ne (fun z => h (by rw [z]; exact List.mem_cons_self))]
    exact wipe_out' fun z => h (List.mem_cons_of_mem _ z)
theorem wipe_in {σ : L2.St} {i : Nat} : ∀ {vs : List Nat}, i ∈ vs → (L2.wipe σ vs)[i]? = if i < σ.length then some none else none
  | v :: vs, h => by
    unfold L2.wipe
    by_cases hv : v = i
    · subst hv
      by_cases hl : v < σ.length
      · rw [List.getElem?_set_self (by rw [L2.wipe_length]; exact hl), if_pos hl]
      · rw [List.getElem?_eq_none (by rw [List.length_set, L2.wipe_length]; omega), if_neg hl]
    · rw [List.getElem?_set_ne hv]
      exact wipe_in ((List.mem_cons.mp h).resolve_left fun z => hv z.symm)
theorem RE.wipe {K : Frag} {H : Hp} {α : Al} {ρ : Rho} {σ : L2.St} (r : RE K H α ρ σ) (vs : List Nat) : RE K H α (Ln.wipe ρ vs) (L2.wipe σ vs) := by
  refine ⟨by rw [lnwipe_len, L2.wipe_length]; exact r.len, fun i d h => ?_⟩
  obtain ⟨h1, h2⟩ := wipe_get h
  obtain ⟨v, e1, e2⟩ := r.get i d h1
  exact ⟨v, by rw [wipe_out' h2]; exact e1, e2⟩
theorem wipe_same {σ σ2 : L2.St} {vs is : List Nat} (h : Sto is (L2.wipe σ vs) σ2) (hs : ∀ i ∈ is, i ∈ vs) : L2.wipe σ2 vs = L2.wipe σ vs := by
  apply List.ext_getElem?
  intro i
  by_cases hi : i ∈ vs
  · rw [wipe_in hi, wipe_in hi]
    have := h.1
    rw [L2.wipe_length] at this
    rw [this]
  · rw [wipe_out' hi, h.2 i fun z => hi (hs i z)]

/-- what is left of a comprehension's work -/
theorem mapO_cons {step : D → M (Option D)} {x : D} {xs : List D} : Ln.mapO step (x :: xs) = M.bind (step x) (fun o => match o with | none => Ln.mapO step xs | some y => M.bind (Ln.mapO step xs) fun ys => M.ret (y :: ys)) := rfl
theorem drop_get {xs : List D} {i : Nat} {d : D} (h : xs[i]? = some d) : xs.drop i = d :: xs.drop (i + 1) := by
  obtain ⟨hi, e⟩ := List.getElem?_eq_some_iff.mp h
  rw [← e]
  exact List.drop_eq_getElem_cons hi

section
variable {X : Cx} {cf : Nat → List D → M D} {pos : Pos} {elt tg iter : Expr} {ifs : List Expr} {scope : Scope} {own : List (Str × Nat)} {itg : Ln.Tg} {iit : Ln.It} {iifs : Ln.Es} {ielt : Ln.E}
/-- the reading of a comprehension from what the evaluator says -/
theorem lc_read {E : XS} {σ : L2.St} {H : Hp} {Q : VK} {vs : List Nat} (hs : ∀ i ∈ tgIdx itg, i ∈ vs) (h : TI X.K E (Ln.ev cf (.lc ielt itg iit iifs vs)) σ H Q) :
    tLc (TII X.K E (Ln.evi cf iit)) (TGI X.K itg) (TTI X.K X0 (Ln.evts cf iifs)) (TI X.K X0 (Ln.ev cf ielt)) vs σ H Q := by
  obtain ⟨ρ, α, S, rs, re, p⟩ := h
  simp only [Ln.ev] at p
  refine ⟨ρ, α, S, rs, re, p.bind.mono fun xs S1 H1 α1 _ q hlen J wk L hL => ?_⟩
  obtain ⟨af, p⟩ := q
  have re1 := af.re re
  -- the state ahead of turn i: what was made so far, what is left to be made
  generalize hstep : Ln.lcK ρ itg vs (fun ρ' => Ln.evts cf iifs ρ') (fun ρ' => Ln.ev cf ielt ρ') = step at p
  have fr : ¬ α1.has L := af.rs.free hL
  let Inv0 : Nat → Hp → Prop := fun i H2 => ∃ α2 S2 acc vacc, After X.K α1 H1 α2 H2 S2 ∧ L ∈ α2.x ∧ H2 L = some (.lst vacc) ∧ RDs X.K H2 α2 acc vacc ∧ acc.length ≤ i ∧ i ≤ xs.length ∧
    Pst X.K E H1 α1 (M.bind (M.nox (Ln.mapO step (xs.drop i))) (fun ys => M.ret (.lst (acc ++ ys))) S2) fun d _ H' α' => ∀ v, RD X.K H' α' d v → Q v H'
  refine ⟨fun i m H2 => m = xs.length - i ∧ Inv0 i H2, ⟨xs.length, rfl, ?_⟩, ?_⟩
  · refine ⟨⟨α1.h, L :: α1.x⟩, S1, [], [], ⟨⟨List.prefix_refl _, fun a h => List.mem_cons_of_mem _ h, fun a h => ?_, fun p h n => absurd h n⟩, ext_new hL, RS.take af.rs hL⟩, List.mem_cons_self, upd_same, .nil, Nat.le_refl _, Nat.zero_le _, by simpa using p⟩
    rcases List.mem_cons.mp h with z | z
    · rw [z]; exact .inr hL
    · exact .inl z
  · rintro i m H2 ⟨rfl, α2, S2, acc, vacc, a2, hLx, hH, rds, hacc, hi, pi⟩
    have hLh : L ∉ α2.h := fun z => a2.rs.dis L z hLx
    by_cases hlt : i < xs.length
    · -- one more turn
      refine .inr ⟨wk.go i H2 α2 S2 a2 hlt, Inv0 (i + 1), fun H' n => ⟨xs.length - (i + 1), by omega, rfl, n⟩, fun x H' hy => ?_⟩
      obtain ⟨d, hd⟩ : ∃ d, xs[i]? = some d := ⟨xs[i], List.getElem?_eq_getElem hlt⟩
      obtain ⟨ay, rd⟩ := wk.yld i H2 α2 S2 d x H' a2 hd hy
      rw [drop_get hd] at pi
      have a3 := a2.trans ay
      -- what one turn does
      have turn : ∀ {o : Option D} {S4 : Store}, step d S2 = .ok o S4 → Pst X.K E H1 α1 (M.bind (M.nox (Ln.mapO step (xs.drop (i + 1)))) (fun ys => M.ret (.lst (acc ++ o.toList ++ ys))) S4) fun d _ H' α' => ∀ v, RD X.K H' α' d v → Q v H' := fun {o S4} e => by
        have e1 : M.bind (M.nox (Ln.mapO step (d :: xs.drop (i + 1)))) (fun ys => M.ret (D.lst (acc ++ ys))) S2 = M.bind (M.nox (Ln.mapO step (xs.drop (i + 1)))) (fun ys => M.ret (.lst (acc ++ o.toList ++ ys))) S4 := by
          unfold M.bind M.nox
          rw [mapO_cons, bind_ok e]
          cases o with
          | none =>
            simp only [Option.toList_none, List.append_nil]
          | some y =>
            simp only [Option.toList_some, List.append_assoc, List.singleton_append]
            unfold M.bind
            cases Ln.mapO step (xs.drop (i + 1)) S4 <;> rfl
        rw [e1] at pi
        exact pi
      have bad : (step d S2 = .err ∨ ∃ x S4, step d S2 = .exc x S4) → False := fun e => by
        have e1 : M.bind (M.nox (Ln.mapO step (d :: xs.drop (i + 1)))) (fun ys => M.ret (D.lst (acc ++ ys))) S2 = .err := by
          unfold M.bind M.nox
          rw [mapO_cons]
          rcases e with e | ⟨x, S4, e⟩
          · rw [bind_err e]
          · rw [bind_exc e]
        rw [e1] at pi
        exact pi
      have hst : step d = Ln.lcK ρ itg vs (fun ρ' => Ln.evts cf iifs ρ') (fun ρ' => Ln.ev cf ielt ρ') d := by rw [hstep]
      cases et : Ln.setTg (Ln.wipe ρ vs) itg d with
      | none => exact (bad (.inl (by rw [hst]; unfold Ln.lcK; rw [et]; rfl))).elim
      | some ρ' =>
      have hst' : step d = M.bind (Ln.evts cf iifs ρ') fun k => if k then M.bind (Ln.ev cf ielt ρ') fun y => M.ret (some y) else M.ret none := by rw [hst]; unfold Ln.lcK; rw [et]
      refine ⟨Ln.wipe ρ vs, α2, S2, d, ρ', ay.rs, (a3.re re1).wipe vs, rd, et, fun σ' re2 sto => ⟨wipe_same sto hs, ρ', α2, S2, ay.rs, re2, ?_⟩⟩
      cases ek : Ln.evts cf iifs ρ' S2 with
      | err => exact bad (.inl (by rw [hst', bind_err ek]))
      | exc z S4 => exact (bad (.inr ⟨z, S4, by rw [hst', bind_exc ek]⟩)).elim
      | ok k S3 =>
        intro H3 α3 a4
        have a5 := a3.trans a4
        have hL3 : L ∈ α3.x := a4.grow.sx L hLx
        have hH3 : H3 L = some (.lst vacc) := a4.ext.keep L _ (ay.ext.keep L _ hH fun z => absurd z hLh) fun z => absurd z hLh
        cases k with
        | false =>
          refine iteF ⟨α3, S3, acc, vacc, a5, hL3, hH3, a4.rds (ay.rds rds), by omega, hlt, ?_⟩
          have := turn (o := none) (S4 := S3) (by rw [hst', bind_ok ek]; rfl)
          simpa using this
        | true =>
          refine iteT ⟨ρ', α3, S3, a4.rs, a4.re re2, ?_⟩
          cases ee : Ln.ev cf ielt ρ' S3 with
          | err => exact bad (.inl (by rw [hst', bind_ok ek, if_pos rfl, bind_err ee]))
          | exc z S4 => exact (bad (.inr ⟨z, S4, by rw [hst', bind_ok ek, if_pos rfl, bind_exc ee]⟩)).elim
          | ok y S4 =>
            intro H4 α4 a6 v rv
            have hL4 : L ∈ α4.x := a6.grow.sx L hL3
            have hLh3 : L ∉ α3.h := fun z => a4.rs.dis L z hL3
            have hH4 : H4 L = some (.lst vacc) := a6.ext.keep L _ hH3 fun z => absurd z hLh3
            have a7 := a5.trans a6
            have rds4 := a6.rds (a4.rds (ay.rds rds))
            refine ⟨vacc, hH4, by rw [← rds4.length]; omega, α4, S4, acc ++ [y], vacc ++ [v], ⟨a7.grow, ⟨fun a o e hm => ?_⟩, a7.rs.write hH4 hL4⟩, hL4, upd_same, (rds4.append (.cons rv .nil)).map (mp_write hH4 hL4), by rw [List.length_append]; simp only [List.length_singleton]; omega, hlt, ?_⟩
            · rw [upd_ne (ne_of_none e hL)]
              exact a7.ext.keep a o e hm
            · have := turn (o := some y) (S4 := S4) (by rw [hst', bind_ok ek, if_pos rfl, bind_ok ee]; rfl)
              simpa using this
    · -- the end
      refine .inl ⟨wk.stop i H2 α2 S2 a2 (by omega), ?_⟩
      rw [List.drop_eq_nil_of_le (by omega)] at pi
      have e1 : M.bind (M.nox (Ln.mapO step [])) (fun ys => M.ret (D.lst (acc ++ ys))) S2 = .ok (.lst acc) S2 := by
        show R.ok (D.lst (acc ++ [])) S2 = _
        rw [List.append_nil]
      rw [e1] at pi
      have sub : ∀ a ∈ α2.x.filter (fun b => decide (b ≠ L)), a ∈ α2.x := fun a h => (List.mem_filter.mp h).1
      have aE : After X.K α1 H1 ⟨α2.h, α2.x.filter (fun b => decide (b ≠ L))⟩ H2 S2 := by
        refine ⟨⟨a2.grow.pre, fun a h => List.mem_filter.mpr ⟨a2.grow.sx a h, decide_eq_true fun z => fr (.inr (z ▸ h))⟩, fun a h => a2.grow.sn a (sub a h), a2.grow.new⟩, ⟨a2.ext.keep⟩, RS.give (h := α2.h) (x := α2.x) sub a2.rs⟩
      refine pi _ _ aE _ (.lst (fun z => ?_) hH (rds.map (mp_give (h := α2.h) (x := α2.x) sub)))
      rcases z with z | z
      · exact hLh z
      · exact absurd rfl (of_decide_eq_true (List.mem_filter.mp z).2)
/-- [elt for tg in iter if ..] -/
theorem je_lc {E : XS} (hc : X.calm = true) (hN : X.N.Nodup) (hi : JI X E tg iter (Ln.evi cf iit)) (ok : BlkOk X.N X.env.scope scope own) (hs : ∀ i ∈ tgIdx itg, i ∈ own.map (·.2))
    (hg : ∀ (s : Shared) (H : Hp) (C : Addr) (cl : List (Str × Addr)) (fp : List Addr), JG (X.blk s H scope (compEnvC scope cl C X.env) fp) tg itg)
    (ht : ∀ (s : Shared) (H : Hp) (C : Addr) (cl : List (Str × Addr)) (fp : List Addr), JTs (X.blk s H scope (compEnvC scope cl C X.env) fp) X0 ifs (Ln.evts cf iifs))
    (he : ∀ (s : Shared) (H : Hp) (C : Addr) (cl : List (Str × Addr)) (fp : List Addr), JE (X.blk s H scope (compEnvC scope cl C X.env) fp) X0 elt (Ln.ev cf ielt)) (hf : ∀ x, foldedSetIterable iter X.env x = pure x) :
    JE X E (.ListComp elt [⟨tg, iter, ifs, 0⟩] scope pos) (Ln.ev cf (.lc ielt itg iit iifs (own.map (·.2)))) :=
  pe_w (pe_lc hc hN hi ok hg ht he hf) fun σ H Q h => lc_read hs h
end
end LnS

set_option linter.all false
set_option maxRecDepth 100000
/-! Ln: statements. -/
namespace LnS
open PySem L2 PyProof.Rows
open Ln (D O Store Rho M R Ex)

abbrev JS (X : Cx) (E : XS) (st : Stmt) (m : Rho → M (Ln.Fl × Rho)) : Prop := PS X st (TSI X.K E m)
abbrev JSs (X : Cx) (E : XS) (sts : List Stmt) (m : Rho → M (Ln.Fl × Rho)) : Prop := PSs X sts (TSI X.K E m)

/-! ### targets for what is unpacked -/
theorem pg_or {X : Cx} {e : Expr} {t u : TG} (h1 : PG X e t) (h2 : PG X e u) : PG X e (fun v σ H Q => t v σ H Q ∨ u v σ H Q) :=
  ⟨fun pins s σ H v uu Q I r h => h.elim (h1.run pins s σ H v uu Q I r) (h2.run pins s σ H v uu Q I r)⟩
def TUI (K : Frag) (is : List Nat) : TG := fun v σ H Q => ∃ ρ α S d xs ρ', RS K H α S ∧ RE K H α ρ σ ∧ RD K H α d v ∧ (d = .tup xs ∨ d = .lst xs) ∧ Ln.setAll ρ is xs = some ρ' ∧ ∀ σ', RE K H α ρ' σ' → Q σ' H
theorem jg_un {X : Cx} {es : List Expr} {is : List Nat} {kk : Nat} {pos : Pos} (hc : X.calm = true) (h : PGs X es (TGsI X.K is))
    (hn : (assignEach es X.env).length = is.length := by rfl) (hst : (assignEach es X.env).findIdx? (·.1) = none := by rfl) : PG X (.Tuple es kk pos) (TUI X.K is) := by
  refine pg_w (pg_or (pg_tup hc h hn hst) (pg_unl hc h hn hst)) fun v σ H Q ⟨ρ, α, S, d, xs, ρ', rs, re, rd, hd, e, k⟩ => ?_
  rcases hd with rfl | rfl
  · cases rd with
    | tup h1 rds => exact .inl ⟨_, _, rfl, h1, by rw [← rds.length]; exact setAll_len e, ρ, α, S, _, ρ', rs, re, rds, e, fun σ' h _ => k σ' h⟩
  · cases rd with
    | lst h0 h1 rds => exact .inr ⟨_, _, rfl, .inl (.inl h1), by rw [← rds.length]; exact setAll_len e, ρ, α, S, _, ρ', rs, re, rds, e, fun σ' h _ => k σ' h⟩

section
variable {X : Cx} {E : XS} {cf : Nat → List D → M D} {w : Nat} {pos : Pos} {e : Expr} {ie : Ln.E} {st : Stmt} {rest : List Stmt} {is_ : Ln.Sm} {ir : Ln.Sms}

/-! ### blocks -/
theorem jss_nil : JSs X E [] (Ln.execs cf w .nil) := pss_w pss_nil fun D σ H ⟨ρ, α, S, rs, re, p⟩ => by
  simp only [Ln.execs] at p
  exact p.ret rs σ re
theorem jss_cons (h1 : JS X E st (Ln.exec cf w is_)) (h2 : JSs X E rest (Ln.execs cf w ir)) : JSs X E (st :: rest) (Ln.execs cf w (.cons is_ ir)) := pss_w (pss_cons h1 h2) fun D σ H ⟨ρ, α, S, rs, re, p⟩ => by
  simp only [Ln.execs] at p
  refine ⟨ρ, α, S, rs, re, p.bind.mono fun r S1 H1 α1 _ ⟨a, q⟩ σ' re' => ?_⟩
  obtain ⟨f, ρ'⟩ := r
  cases f with
  | nx => exact ⟨ρ', α1, S1, a.rs, re', q⟩
  | rt d => exact q.ret a.rs σ' re'
  | bk => exact q.ret a.rs σ' re'
  | ct => exact q.ret a.rs σ' re'
/-- a docstring ahead -/
theorem jss_doc {x j p p'} (h2 : JSs X E rest (Ln.execs cf w ir)) : JSs X E (.Expr (.Constant (.str x) j p) p' :: rest) (Ln.execs cf w ir) := pss_w (pss_cons ps_doc h2) fun D σ H h => h

/-! ### small statements -/
theorem js_bad : JS X E st (Ln.exec cf w .bad) := ps_w ps_never fun D σ H ⟨ρ, α, S, rs, re, p⟩ => p.elim

theorem js_pass : JS X E (.Pass pos) (Ln.exec cf w .pass) := ps_w ps_pass fun D σ H ⟨ρ, α, S, rs, re, p⟩ => by
  simp only [Ln.exec] at p
  exact p.ret rs σ re
theorem js_brk : JS X E (.Break pos) (Ln.exec cf w .brk) := ps_w ps_break fun D σ H ⟨ρ, α, S, rs, re, p⟩ => by
  simp only [Ln.exec] at p
  exact p.ret rs σ re
theorem js_cont : JS X E (.Continue pos) (Ln.exec cf w .cont) := ps_w ps_continue fun D σ H ⟨ρ, α, S, rs, re, p⟩ => by
  simp only [Ln.exec] at p
  exact p.ret rs σ re
theorem js_retN : JS X E (.Return none pos) (Ln.exec cf w .retN) := ps_w ps_retN fun D σ H ⟨ρ, α, S, rs, re, p⟩ => by
  simp only [Ln.exec] at p
  exact p.ret rs σ re _ .non
theorem js_ret (he : JE X E e (Ln.ev cf ie)) : JS X E (.Return (some e) pos) (Ln.exec cf w (.ret ie)) := ps_w (ps_ret he) fun D σ H ⟨ρ, α, S, rs, re, p⟩ => by
  simp only [Ln.exec] at p
  exact ⟨ρ, α, S, rs, re, p.bind.mono fun d S1 H1 α1 _ ⟨a, q⟩ v rv => q.ret a.rs σ (a.re re) v rv⟩
theorem js_expr (he : JE X E e (Ln.ev cf ie)) (hs : swapsWith e none pos.line X.env = pure false := by rfl) : JS X E (.Expr e pos) (Ln.exec cf w (.expr ie)) := ps_w (ps_expr he hs) fun D σ H ⟨ρ, α, S, rs, re, p⟩ => by
  simp only [Ln.exec] at p
  exact ⟨ρ, α, S, rs, re, p.bind.mono fun d S1 H1 α1 _ ⟨a, q⟩ v rv => q.ret a.rs σ (a.re re)⟩
theorem set_at {i : Nat} {D : Ends} {σ : L2.St} {H : Hp} (h : TSI X.K E (Ln.exec cf w (.set i ie)) D σ H) : TI X.K E (Ln.ev cf ie) σ H fun x H1 => gName i x σ H1 D.nx := by
  obtain ⟨ρ, α, S, rs, re, p⟩ := h
  simp only [Ln.exec] at p
  exact ⟨ρ, α, S, rs, re, p.bind.mono fun d S1 H1 α1 _ ⟨a, q⟩ v rv => q.ret a.rs (σ.set i (some v)) ((a.re re).set rv)⟩
theorem js_set {i : Nat} {x : Str} {pos' : Pos} (hN : X.N.Nodup) (hi : X.N[i]? = some x) (hx : Loc X.env.scope x) (he : JE X E e (Ln.ev cf ie)) (hs : swapsWith e (some (.Name x pos')) pos.line X.env = pure false := by rfl) (hf : X.fn x = true ∨ X.env.scope.names.lookup x = some .local := by first | exact .inl rfl | exact .inr rfl | assumption) :
    JS X E (.Assign [.Name x pos'] e pos) (Ln.exec cf w (.set i ie)) := ps_w (ps_set hN hi hx he hs hf) fun D σ H h => set_at h
theorem js_setT {es : List Expr} {is : List Nat} {kk : Nat} {pt : Pos} (he : JE X E e (Ln.ev cf ie)) (hg : PG X (.Tuple es kk pt) (TUI X.K is)) (hs : swapsWithSole [.Tuple es kk pt] e pos.line X.env = pure false := by rfl) (hw : swappedStores [.Tuple es kk pt] e X.env = pure none := by rfl)
    (h1 : (assignEach [.Tuple es kk pt] X.env).map (·.2) = [assign (.Tuple es kk pt) X.env] := by rfl) : JS X E (.Assign [.Tuple es kk pt] e pos) (Ln.exec cf w (.setT is ie)) := ps_w (ps_asg he hg hs hw h1) fun D σ H ⟨ρ, α, S, rs, re, p⟩ => by
  simp only [Ln.exec] at p
  refine ⟨ρ, α, S, rs, re, p.bind.mono fun d S1 H1 α1 _ ⟨a, q⟩ v rv => ?_⟩
  have go : ∀ xs, (d = .tup xs ∨ d = .lst xs) → TUI X.K is v σ H1 D.nx := fun xs hd => by
    have q' : Pst X.K E H1 α1 ((match Ln.setAll ρ is xs with | some ρ' => M.ret (Ln.Fl.nx, ρ') | none => M.err) S1) fun p _ H' α' => EndsI X.K D p H' α' := by
      rcases hd with rfl | rfl <;> exact q
    cases e1 : Ln.setAll ρ is xs with
    | none => rw [e1] at q'; exact q'.elim
    | some ρ' =>
      rw [e1] at q'
      exact ⟨ρ, α1, S1, d, xs, ρ', a.rs, a.re re, rv, hd, e1, fun σ' re' => q'.ret a.rs σ' re'⟩
  cases d with
  | tup xs => exact go xs (.inl rfl)
  | lst xs => exact go xs (.inr rfl)
  | _ => exact q.elim
theorem setAll2 {ρ ρ' : Rho} {i j : Nat} {xs : List D} (h : Ln.setAll ρ [i, j] xs = some ρ') : ∃ x y, xs = [x, y] ∧ ρ' = (ρ.set i (some x)).set j (some y) := by
  match xs, h with
  | [x, y], h => cases h; exact ⟨x, y, rfl, rfl⟩
theorem setAll3 {ρ ρ' : Rho} {i j k : Nat} {xs : List D} (h : Ln.setAll ρ [i, j, k] xs = some ρ') : ∃ x y z, xs = [x, y, z] ∧ ρ' = ((ρ.set i (some x)).set j (some y)).set k (some z) := by
  match xs, h with
  | [x, y, z], h => cases h; exact ⟨x, y, z, rfl, rfl⟩
theorem js_par2 {i j : Nat} {x y : Str} {a b : Expr} {px py pt : Pos} {kt k2 pt2} {ies : Ln.Es} (hc : X.calm = true) (hN : X.N.Nodup) (hi : X.N[i]? = some x) (hj : X.N[j]? = some y) (hij : i ≠ j)
    (hx : X.env.scope.names.lookup x = some .local) (hy : X.env.scope.names.lookup y = some .local) (ha : JA X E [a, b] (Ln.evs cf ies))
    (hw : swappedStores [.Tuple [.Name x px, .Name y py] kt pt] (.Tuple [a, b] k2 pt2) X.env = pure (some [x, y]))
    (hs : swapsWithSole [.Tuple [.Name x px, .Name y py] kt pt] (.Tuple [a, b] k2 pt2) pos.line X.env = pure false := by rfl) :
    JS X E (.Assign [.Tuple [.Name x px, .Name y py] kt pt] (.Tuple [a, b] k2 pt2) pos) (Ln.exec cf w (.par [i, j] ies)) := ps_w (ps_par hc hN hi hj hij hx hy ha hw hs) fun D σ H ⟨ρ, α, S, rs, re, p⟩ => by
  simp only [Ln.exec] at p
  refine ⟨ρ, α, S, rs, re, p.bind.mono fun ds S1 H1 α1 _ ⟨a, q⟩ vs rv => ?_⟩
  unfold Ln.parK at q
  cases e1 : Ln.setAll ρ [i, j] ds with
  | none => rw [e1] at q; exact q.elim
  | some ρ' =>
    rw [e1] at q
    obtain ⟨d1, d2, rfl, rfl⟩ := setAll2 e1
    obtain ⟨v1, v2, rfl, r1, r2⟩ := rds2 rv
    exact ⟨v1, v2, rfl, q.ret a.rs _ (((a.re re).set r1).set r2)⟩
theorem rds3 {K : Frag} {H : Hp} {α : Al} {d e f : D} {vs : List V} (r : RDs K H α [d, e, f] vs) : ∃ v w z, vs = [v, w, z] ∧ RD K H α d v ∧ RD K H α e w ∧ RD K H α f z := by
  cases r with
  | cons r1 r =>
    obtain ⟨v, w, rfl, r2, r3⟩ := rds2 r
    exact ⟨_, v, w, rfl, r1, r2, r3⟩
theorem js_par3 {i j l : Nat} {x y z : Str} {a b c : Expr} {px py pz pt : Pos} {kt k2 pt2} {ies : Ln.Es} (hc : X.calm = true) (hN : X.N.Nodup) (hi : X.N[i]? = some x) (hj : X.N[j]? = some y) (hl : X.N[l]? = some z) (hij : i ≠ j) (hil : i ≠ l) (hjl : j ≠ l)
    (hx : X.env.scope.names.lookup x = some .local) (hy : X.env.scope.names.lookup y = some .local) (hz : X.env.scope.names.lookup z = some .local) (ha : JA X E [a, b, c] (Ln.evs cf ies))
    (hw : swappedStores [.Tuple [.Name x px, .Name y py, .Name z pz] kt pt] (.Tuple [a, b, c] k2 pt2) X.env = pure (some [x, y, z]))
    (hs : swapsWithSole [.Tuple [.Name x px, .Name y py, .Name z pz] kt pt] (.Tuple [a, b, c] k2 pt2) pos.line X.env = pure false := by rfl) :
    JS X E (.Assign [.Tuple [.Name x px, .Name y py, .Name z pz] kt pt] (.Tuple [a, b, c] k2 pt2) pos) (Ln.exec cf w (.par [i, j, l] ies)) := ps_w (ps_par3 hc hN hi hj hl hij hil hjl hx hy hz ha hw hs) fun D σ H ⟨ρ, α, S, rs, re, p⟩ => by
  simp only [Ln.exec] at p
  refine ⟨ρ, α, S, rs, re, p.bind.mono fun ds S1 H1 α1 _ ⟨a, q⟩ vs rv => ?_⟩
  unfold Ln.parK at q
  cases e1 : Ln.setAll ρ [i, j, l] ds with
  | none => rw [e1] at q; exact q.elim
  | some ρ' =>
    rw [e1] at q
    obtain ⟨d1, d2, d3, rfl, rfl⟩ := setAll3 e1
    obtain ⟨v1, v2, v3, rfl, r1, r2, r3⟩ := rds3 rv
    exact ⟨v1, v2, v3, rfl, q.ret a.rs _ ((((a.re re).set r1).set r2).set r3)⟩
/-- o[i] = e -/
theorem js_setI {o i : Expr} {io ii : Ln.E} {ps : Pos} (ho : JE X E o (Ln.ev cf io)) (hi : JE X E i (Ln.ev cf ii)) (he : JE X E e (Ln.ev cf ie))
    (ha : ∀ v, assign (.Subscript o i ps) X.env v = (do
      let ov ← holding [v] (eval o X.env)
      let iv ← holding [v, ov] (eval i X.env)
      standAt ps
      holding [v, ov, iv] (setItem ov iv v)
      release [v, ov, iv] []) := by intro _; rfl)
    (hs : swapsWithSole [.Subscript o i ps] e pos.line X.env = pure false := by rfl) (hw : swappedStores [.Subscript o i ps] e X.env = pure none := by rfl)
    (h1 : (assignEach [.Subscript o i ps] X.env).map (·.2) = [assign (.Subscript o i ps) X.env] := by rfl) :
    JS X E (.Assign [.Subscript o i ps] e pos) (Ln.exec cf w (.setI io ii ie)) := ps_w (ps_asg he (pg_sub ho hi set_list ha) hs hw h1) fun D σ H ⟨ρ, α, S, rs, re, p⟩ => by
  simp only [Ln.exec] at p
  refine ⟨ρ, α, S, rs, re, p.bind.mono fun d S1 H1 α1 _ ⟨a1, q⟩ v rv => ?_⟩
  refine ⟨ρ, α1, S1, a1.rs, a1.re re, q.bind.mono fun x S2 H2 α2 _ ⟨a2, q⟩ xv rx => ?_⟩
  refine ⟨ρ, α2, S2, a2.rs, a2.re (a1.re re), q.bind.mono fun k S3 H3 α3 _ ⟨a3, q⟩ kv rk => ?_⟩
  have rv3 := a3.rd (a2.rd rv)
  have rx3 := a3.rd rx
  unfold Ln.setIK at q
  cases rx3 with
  | @ref n _ hn =>
    cases rk with
    | int kk =>
      simp only [] at q
      cases eS : S3[n]? with
      | none => rw [eS] at q; exact q.elim
      | some o =>
        rw [eS] at q
        cases o with
        | dct ks vs => exact q.elim
        | lst xs =>
          simp only [] at q
          cases ej : Ln.place xs.length kk with
          | none => rw [ej] at q; exact q.elim
          | some j =>
            rw [ej] at q
            obtain ⟨vs, hH, rds⟩ := a3.rs.at_ _ _ _ hn eS
            refine ⟨_, vs, kk, j, rfl, rfl, hH, by rw [← rds.length]; exact ej, ?_⟩
            have rds' : RDs X.K H3 α3 (xs.set j d) (vs.set j v) := RDs.set rv3 j rds
            have af := After.put a3.rs hn rds'
            exact q _ _ af σ (af.re (a3.re (a2.re (a1.re re))))
    | _ => exact q.elim
  | _ => cases rk <;> exact q.elim
theorem js_augAdd {i : Nat} {x : Str} {pos' : Pos} (hN : X.N.Nodup) (hi : X.N[i]? = some x) (hx : Loc X.env.scope x) (he : JE X E e (Ln.ev cf ie)) (hf : X.fn x = true ∨ X.env.scope.names.lookup x = some .local := by first | exact .inl rfl | exact .inr rfl | assumption) :
    JS X E (.AugAssign (.Name x pos') .Add e pos) (Ln.exec cf w (.aug i .add ie)) := ps_w (ps_aug hN hi hx he ip_add hf) fun D σ H ⟨ρ, α, S, rs, re, p⟩ => by
  simp only [Ln.exec] at p
  unfold Ln.getV at p
  cases eg : ρ[i]? with
  | none => rw [eg] at p; exact p.bind.elim
  | some o =>
    cases o with
    | none => rw [eg] at p; exact p.bind.elim
    | some d =>
      rw [eg] at p
      obtain ⟨v, e1, rd⟩ := re.get i d eg
      have p1 := (p.bind.ret rs).2.bind
      refine ⟨v, e1, ρ, α, S, rs, re, p1.mono fun y S1 H1 α1 _ ⟨a, q⟩ yv ry => ?_⟩
      have rd1 := a.rd rd
      cases rd1 with
      | int m =>
        cases ry with
        | int n =>
          have q' := q.ret a.rs
          exact ⟨m, n, rfl, rfl, q' _ ((a.re re).set (.int _))⟩
        | _ => exact q.elim
      | _ => cases ry <;> exact q.elim
theorem js_augSub {i : Nat} {x : Str} {pos' : Pos} (hN : X.N.Nodup) (hi : X.N[i]? = some x) (hx : Loc X.env.scope x) (he : JE X E e (Ln.ev cf ie)) (hf : X.fn x = true ∨ X.env.scope.names.lookup x = some .local := by first | exact .inl rfl | exact .inr rfl | assumption) :
    JS X E (.AugAssign (.Name x pos') .Sub e pos) (Ln.exec cf w (.aug i .sub ie)) := ps_w (ps_aug hN hi hx he ip_sub hf) fun D σ H ⟨ρ, α, S, rs, re, p⟩ => by
  simp only [Ln.exec] at p
  unfold Ln.getV at p
  cases eg : ρ[i]? with
  | none => rw [eg] at p; exact p.bind.elim
  | some o =>
    cases o with
    | none => rw [eg] at p; exact p.bind.elim
    | some d =>
      rw [eg] at p
      obtain ⟨v, e1, rd⟩ := re.get i d eg
      have p1 := (p.bind.ret rs).2.bind
      refine ⟨v, e1, ρ, α, S, rs, re, p1.mono fun y S1 H1 α1 _ ⟨a, q⟩ yv ry => ?_⟩
      have rd1 := a.rd rd
      cases rd1 with
      | int m =>
        cases ry with
        | int n =>
          have q' := q.ret a.rs
          exact ⟨m, n, rfl, rfl, q' _ ((a.re re).set (.int _))⟩
        | _ => exact q.elim
      | _ => cases ry <;> exact q.elim
/-! ### branches, loops -/
theorem js_if {c : Expr} {a b : List Stmt} {ic : Ln.E} {ia ib : Ln.Sms} (hc : JT X E c (Ln.evT cf ic)) (ha : JSs X E a (Ln.execs cf w ia)) (hb : JSs X E b (Ln.execs cf w ib)) : JS X E (.If c a b pos) (Ln.exec cf w (.cond ic ia ib)) := ps_w (ps_if hc ha hb) fun D σ H ⟨ρ, α, S, rs, re, p⟩ => by
  simp only [Ln.exec] at p
  refine ⟨ρ, α, S, rs, re, p.bind.mono fun k S1 H1 α1 _ ⟨a, q⟩ => ?_⟩
  cases k with
  | true => exact ⟨ρ, α1, S1, a.rs, a.re re, q⟩
  | false => exact ⟨ρ, α1, S1, a.rs, a.re re, q⟩
theorem js_for {tg iter : Expr} {body : List Stmt} {itg : Ln.Tg} {iit : Ln.It} {ib : Ln.Sms} (hp : PassesOwn (model X.prog X.w) X.A X.env X.xe) (hc : X.calm = true) (hi : JI X E tg iter (Ln.evi cf iit)) (hg : JG X tg itg) (hb : JSs X E body (Ln.execs cf w ib))
    (hs : ∀ x, foldedSetIterable iter X.env x = pure x := by intro _; rfl) : JS X E (.For tg iter body [] pos) (Ln.exec cf w (.loop itg iit ib)) := ps_w (ps_for hp hc hi hg hb hs) fun D σ H ⟨ρ, α, S, rs, re, p⟩ => by
  simp only [Ln.exec] at p
  refine ⟨ρ, α, S, rs, re, p.bind.mono fun xs S1 H1 α1 _ ⟨af, p⟩ hlen J wk => ?_⟩
  generalize hstep : (Ln.loopK itg fun ρ => Ln.execs cf w ib ρ) = step at p
  refine ⟨fun i m σ2 H2 => m = xs.length - i ∧ i ≤ xs.length ∧ ∃ α2 S2 ρ2, After X.K α1 H1 α2 H2 S2 ∧ RE X.K H2 α2 ρ2 σ2 ∧ Pst X.K E H2 α2 (Ln.forL step (xs.drop i) ρ2 S2) fun p _ H' α' => EndsI X.K D p H' α', ⟨xs.length, rfl, Nat.zero_le _, α1, S1, ρ, .refl af.rs, af.re re, by simpa using p⟩, ?_⟩
  rintro i m σ2 H2 ⟨rfl, hi, α2, S2, ρ2, a2, re2, p2⟩
  by_cases hlt : i < xs.length
  · refine .inr ⟨wk.go i H2 α2 S2 a2 hlt, fun σ' H' => i + 1 ≤ xs.length ∧ ∃ α2 S2 ρ2, After X.K α1 H1 α2 H' S2 ∧ RE X.K H' α2 ρ2 σ' ∧ Pst X.K E H' α2 (Ln.forL step (xs.drop (i + 1)) ρ2 S2) fun p _ H' α' => EndsI X.K D p H' α', fun σ' H' n => ⟨xs.length - (i + 1), by omega, rfl, n⟩, fun x H' hy => ?_⟩
    obtain ⟨d, hd⟩ : ∃ d, xs[i]? = some d := ⟨xs[i], List.getElem?_eq_getElem hlt⟩
    obtain ⟨ay, rd⟩ := wk.yld i H2 α2 S2 d x H' a2 hd hy
    rw [drop_get hd] at p2
    unfold Ln.forL at p2
    have p3 := p2.bind.move ay
    have hst : step d ρ2 = match Ln.setTg ρ2 itg d with | some ρ' => Ln.execs cf w ib ρ' | none => M.err := by rw [← hstep]; rfl
    cases et : Ln.setTg ρ2 itg d with
    | none => rw [hst, et] at p3; exact p3.elim
    | some ρ' =>
    rw [hst, et] at p3
    refine ⟨ρ2, α2, S2, d, ρ', ay.rs, ay.re re2, rd, et, fun σ3 re3 _ => ⟨ρ', α2, S2, ay.rs, re3, p3.mono fun r S4 H4 α4 a4 ⟨_, q⟩ σ4 re4 => ?_⟩⟩
    obtain ⟨f, ρ4⟩ := r
    have a5 := (a2.trans ay).trans a4
    cases f with
    | nx => exact ⟨hlt, α4, S4, ρ4, a5, re4, q⟩
    | ct => exact ⟨hlt, α4, S4, ρ4, a5, re4, q⟩
    | bk => exact q.ret a4.rs σ4 re4
    | rt d => exact q.ret a4.rs σ4 re4
  · rw [List.drop_eq_nil_of_le (by omega)] at p2
    exact .inl ⟨wk.stop i H2 α2 S2 a2 (by omega), p2.ret a2.rs σ2 re2⟩
theorem js_while {c : Expr} {body : List Stmt} {ic : Ln.E} {ib : Ln.Sms} (hp : PassesOwn (model X.prog X.w) X.A X.env X.xe) (hc : JT X E c (Ln.evT cf ic)) (hb : JSs X E body (Ln.execs cf w ib)) : JS X E (.While c body [] pos) (Ln.exec cf w (.while ic ib)) := ps_w (ps_while hp hc hb) fun D σ H ⟨ρ, α, S, rs, re, p⟩ => by
  simp only [Ln.exec] at p
  refine ⟨fun m σ2 H2 => ∃ α2 S2 ρ2, RS X.K H2 α2 S2 ∧ RE X.K H2 α2 ρ2 σ2 ∧ Pst X.K E H2 α2 (Ln.whileL (fun ρ => Ln.evT cf ic ρ) (fun ρ => Ln.execs cf w ib ρ) m ρ2 S2) fun p _ H' α' => EndsI X.K D p H' α', ⟨w, α, S, ρ, rs, re, p⟩, ?_⟩
  rintro m σ2 H2 ⟨α2, S2, ρ2, rs2, re2, p2⟩
  cases m with
  | zero => exact p2.elim
  | succ m =>
    unfold Ln.whileL at p2
    refine ⟨ρ2, α2, S2, rs2, re2, p2.bind.mono fun k S3 H3 α3 _ ⟨a3, q⟩ => ?_⟩
    cases k with
    | true =>
      rw [if_pos rfl] at q ⊢
      refine ⟨_, fun σ' H' n => ⟨m, Nat.lt_succ_self _, n⟩, ρ2, α3, S3, a3.rs, a3.re re2, q.bind.mono fun r S4 H4 α4 _ ⟨a4, q⟩ σ4 re4 => ?_⟩
      obtain ⟨f, ρ4⟩ := r
      cases f with
      | nx => exact ⟨α4, S4, ρ4, a4.rs, re4, q⟩
      | ct => exact ⟨α4, S4, ρ4, a4.rs, re4, q⟩
      | bk => exact q.ret a4.rs σ4 re4
      | rt d => exact q.ret a4.rs σ4 re4
    | false =>
      rw [if_neg Bool.false_ne_true] at q ⊢
      exact q.ret a3.rs σ2 (a3.re re2)
end
end LnS

set_option linter.all false
set_option maxRecDepth 100000
/-! Ln: defs by their bodies. -/
namespace LnS
open PySem L2 PyProof.Rows
open Ln (D O Store Rho M R Ex)

theorem re_start {K : Frag} {H : Hp} {α : Al} {ds : List D} {vs : List V} (r : RDs K H α ds vs) (n : Nat) : RE K H α (ds.map some ++ List.replicate (n - ds.length) none) (vs.map some ++ List.replicate (n - vs.length) none) := by
  have hl := r.length
  refine ⟨by simp only [List.length_append, List.length_map, List.length_replicate]; omega, fun i d h => ?_⟩
  by_cases hi : i < ds.length
  · rw [List.getElem?_append_left (by rw [List.length_map]; exact hi), List.getElem?_map] at h
    cases e : ds[i]? with
    | none => rw [e] at h; cases h
    | some x =>
      rw [e] at h; cases h
      obtain ⟨v, e1, e2⟩ := r.get e
      exact ⟨v, by rw [List.getElem?_append_left (by rw [List.length_map]; omega), List.getElem?_map, e1]; rfl, e2⟩
  · rw [List.getElem?_append_right (by rw [List.length_map]; omega)] at h
    have := List.mem_of_getElem? h
    rw [List.mem_replicate] at this
    cases this.2
theorem RDs.split {K : Frag} {H : Hp} {α : Al} : ∀ {ds : List D} {vs : List V} (n : Nat), RDs K H α ds vs → RDs K H α (ds.take n) (vs.take n) ∧ RDs K H α (ds.drop n) (vs.drop n)
  | _, _, 0, r => ⟨.nil, r⟩
  | _, _, _ + 1, .nil => ⟨.nil, .nil⟩
  | _, _, n + 1, .cons a r => ⟨.cons a (RDs.split n r).1, (RDs.split n r).2⟩

/-- a body's promise, told of the evaluator's level -/
def BodyJ (P : Program) (w : World) (K : Frag) (mg : Str → Option Value) (base : Heap) (k : Nat) (f : Addr) (qual : Str) (N : List Str) (st : Stmt) (m : Rho → M (Ln.Fl × Rho)) : Prop :=
  ∀ (cdv : Value) (A : Around) (outer : List Env) (s : Shared) (H : Hp) (E : XK), A.guards = some [] → Room k (A.deeper (envOfC qual (defScope st) s.heap.objs.size f cdv)) →
    JSs (cxOf CX0 P w K mg base N qual (defScope st) f cdv A outer s H E).nox X0 (defBody st) m
/-- the level cf of calls answers for the defs at fs -/
structure Lev (P : Program) (w : World) (K : Frag) (mg : Str → Option Value) (base : Heap) (fs : List Addr) (prog : List Ln.Fn) (wf k : Nat) : Prop where
  ok : ∀ (i : Nat) (f : Addr), fs[i]? = some f → FnG P w K mg base CX0 k f (spI K (Ln.callI prog wf k i))

section
variable {P : Program} {w : World} {K : Frag} {mg : Str → Option Value} {base : Heap} {k wf i : Nat} {f : Addr} {x qual : Str} {st : Stmt} {fd : FuncData} {N ps : List Str} {prog : List Ln.Fn} {fn : Ln.Fn}
theorem body_run {H2 : Hp} {vs : List V} {as : List D} {α : Al} {S : Store} {Q : VK} {X : Cx} (hX : X.K = K) (hs : fn.slots = N.length) (rs : RS K H2 α S) (rds : RDs K H2 α as vs)
    (p : Pst K X0 H2 α (Ln.runBody (Ln.callI prog wf k) wf fn as S) fun d _ H' α' => ∀ v, RD K H' α' d v → Q v H') :
    TSI X.K X0 (Ln.execs (Ln.callI prog wf k) wf fn.body) { nx := fun _ H' => Q .non H', rt := Q } (start N vs) H2 := by
  subst hX
  refine ⟨as.map some ++ List.replicate (fn.slots - as.length) none, α, S, rs, ?_, p.bind.mono fun q S1 H1 α1 _ ⟨a, q'⟩ σ' re' => ?_⟩
  · rw [hs]; exact re_start rds N.length
  · obtain ⟨fl, ρ'⟩ := q
    cases fl with
    | nx => exact q'.ret a.rs _ .non
    | rt d => exact q'.ret a.rs
    | bk => exact q'.elim
    | ct => exact q'.elim
theorem fnG_plain (F : Fun K x qual st f fd) (S : FnScope N ps (defScope st)) (hfn : prog[i]? = some fn) (h1 : fn.arity = ps.length) (h2 : fn.star = false) (h3 : fn.slots = N.length)
    (hb : ∀ (kV doc pm : Value) (an : Option Addr) (cdv ct : Value) (us : List Value), us.length = ps.length → bindArgs (PySem.W.fnOf x qual (defArgs st) (defBody st) (defScope st) .none kV doc pm an cdv ct) ⟨us, []⟩ = pure (ps.zip us))
    (B : BodyJ P w K mg base k f qual N st (Ln.execs (Ln.callI prog wf k) wf fn.body)) : FnG P w K mg base CX0 (k + 1) f (spI K (Ln.callI prog wf (k + 1) i)) := by
  obtain ⟨oc, od, kV, doc, pm, an, cdv, ct, osl, rfl, lk, hcd⟩ := F.ex
  intro A outer s H us vs Q E hr hG e0 r ⟨α, S0, ds, rs, rds, p⟩
  simp only [Ln.callI, hfn, Ln.bindA, h2, h1] at p
  by_cases hl : ds.length = ps.length
  · rw [if_neg Bool.false_ne_true, if_pos hl] at p
    have hlv : vs.length = ps.length := by rw [← rds.length]; exact hl
    have hlu : us.length = ps.length := by rw [← r.length]; exact hlv
    refine StX.run_bnd lk hcd S hr e0 (G := fun xs H2 => xs = vs ∧ H2 = H) (fun A' Ex Q' h => ?_) fun s2 H2 xs ⟨ex, eH⟩ hr' => ?_
    · rw [hb _ _ _ _ _ _ us hlu]
      exact wpAny_pure (h s H vs us e0 .refl rfl (fun _ _ z => z) r hlv ⟨rfl, rfl⟩)
    · subst ex eH
      exact ⟨_, (B cdv A outer s2 _ E hG hr').nox, body_run rfl h3 rs rds p⟩
  · rw [if_neg Bool.false_ne_true, if_neg hl] at p
    exact p.elim
theorem fnG_star {pv : Str} (F : Fun K x qual st f fd) (S : FnScope N (ps ++ [pv]) (defScope st)) (hfn : prog[i]? = some fn) (h1 : fn.arity = ps.length) (h2 : fn.star = true) (h3 : fn.slots = N.length)
    (hb : ∀ (kV doc pm : Value) (an : Option Addr) (cdv ct : Value) (us rest : List Value), us.length = ps.length → bindArgs (PySem.W.fnOf x qual (defArgs st) (defBody st) (defScope st) .none kV doc pm an cdv ct) ⟨us ++ rest, []⟩ = (newTuple rest >>= fun t => pure (ps.zip us ++ [(pv, t)])))
    (B : BodyJ P w K mg base k f qual N st (Ln.execs (Ln.callI prog wf k) wf fn.body)) : FnG P w K mg base CX0 (k + 1) f (spI K (Ln.callI prog wf (k + 1) i)) := by
  obtain ⟨oc, od, kV, doc, pm, an, cdv, ct, osl, rfl, lk, hcd⟩ := F.ex
  intro A outer s H us vs Q E hr hG e0 r ⟨α, S0, ds, rs, rds, p⟩
  simp only [Ln.callI, hfn, Ln.bindA, h2, h1] at p
  by_cases hl : ps.length ≤ ds.length ∧ ds.length ≤ Ln.line
  · rw [if_pos trivial, if_pos hl] at p
    have hlv : ds.length = vs.length := rds.length
    obtain ⟨rd1, rd2⟩ := rds.split ps.length
    have ev : vs = vs.take ps.length ++ vs.drop ps.length := (List.take_append_drop _ _).symm
    rw [ev] at r
    obtain ⟨u1, u2, eu, r1, r2⟩ := StX.vals_split r
    subst eu
    have hw : (vs.take ps.length).length = ps.length := by rw [List.length_take]; omega
    have hl1 : u1.length = ps.length := by rw [← r1.length]; exact hw
    have hz : (vs.drop ps.length).length ≤ sizeLine := by rw [List.length_drop]; have : Ln.line = sizeLine := rfl; omega
    have hl2 : u2.length ≤ sizeLine := by rw [← r2.length]; exact hz
    have hn : H s.heap.objs.size = Option.none := e0.hok.fresh (Nat.le_refl _)
    refine StX.run_bnd lk hcd S hr e0 (G := fun xs H2 => ∃ p, H p = Option.none ∧ xs = vs.take ps.length ++ [V.ref p] ∧ H2 = upd H p (.tup (vs.drop ps.length))) (fun A' Ex Q' h => ?_) fun s2 H2 xs ⟨q, hp, ex, eH⟩ hr' => ?_
    · rw [hb _ _ _ _ _ _ u1 u2 hl1]
      refine wpAny_bind (wpAny_newTuple (wpAny_pure ?_) hl2)
      have new : ObjOk P w (upd H s.heap.objs.size (.tup (vs.drop ps.length))) (s.heap.push ({ cls := .type "tuple", data := .seq u2.toArray } : Obj)) s.heap.objs.size (.tup (vs.drop ps.length)) := ⟨hz, u2, r2, ⟨_, Heap.get?_push_size _ rfl, rfl, _, rfl⟩⟩
      have un := StX.un_laid (fs := frs outer) (s := s) (o := ({ cls := .type "tuple", data := .seq u2.toArray } : Obj)) (u := .tup (vs.drop ps.length)) hn
      have z := h _ _ (vs.take ps.length ++ [V.ref s.heap.objs.size]) (u1 ++ [Value.ref s.heap.objs.size]) (StX.env0_laid e0 new) un rfl (fun e s' z => z) (r1.append (.cons rfl .nil))
        (by rw [List.length_append, List.length_append, hw] <;> rfl) ⟨_, hn, rfl, rfl⟩
      rw [List.zip_append hl1.symm] at z
      exact z
    · subst ex eH
      have af := After.new rs (o := .tup (vs.drop ps.length)) hp
      exact ⟨_, (B cdv A outer s2 _ E hG hr').nox, body_run rfl h3 af.rs ((af.rds rd1).append (.cons (.tup (.inl (.inl upd_same)) (af.rds rd2)) .nil)) (p.move af)⟩
  · rw [if_pos trivial, if_neg hl] at p
    exact p.elim
end
end LnS

set_option linter.all false
set_option maxRecDepth 100000
/-! Ln: a law's head. -/
namespace LnS
open PySem PySem.Spec L2 PyProof.Rows
open Ln (D O Store Rho M R Ex)

theorem rds_nums {K : Frag} {H : Hp} {α : Al} : ∀ ns : List Int, RDs K H α (ns.map D.int) (ns.map V.int)
  | [] => .nil
  | n :: ns => .cons (.int n) (rds_nums ns)

theorem law_callG {P : Program} {w : World} {K : Frag} {mg mb : Str → Option Value} {k : Nat} {fa a : Addr} {g : List D → M D} {s₁ : Shared} {vs : List Value} {ns : List Int}
    (KX : K.In s₁.heap) (hns : s₁.heap.Ns mainGlobals mg) (hb : s₁.heap.Ns builtinsNs mb) (hbb : ∀ x : Str, x ≠ "__name__" → mb x = bootBuiltins x) (hlim : s₁.heap.NoLimit) (hg : s₁.gens = #[])
    (ha : s₁.heap.get? a = some { cls := .type "list", data := .seq vs.toArray }) (hi : IntsAre vs ns) (hl : ns.length ≤ sizeLine) (hr : Room k callerA) (hK1 : K.lookup sysModules = none) (hm : ∃ mm, s₁.heap.Ns sysModules mm)
    (F : ∀ base : Heap, K.In base → base.Ns mainGlobals mg → FnG P w K mg base CX0 k fa (spI K g))
    (hsp : ∃ S', g [.frz (ns.map D.int)] [] = .ok (.bl true) S') :
    codeAny (model P w) callerA (.call (.ref fa) ⟨[.ref a], []⟩) (fun r s' => r = .ok (.ret (.bool true)) ∧ OldK s₁.heap s'.heap ∧ s'.os = s₁.os ∧ AllBare s'.gens) s₁ := by
  have rv := vals_ints hi
  have lenV := hi.length
  obtain ⟨mm, o1, es1, ep1, hM1, hM2, hM3⟩ := hm
  have a1 : a ≠ sysModules := fun z => by
    rw [z, hM1] at ha; cases ha
    cases hM2
  let φ : Heap → Prop := fun h => h.get? sysModules = some o1
  have core : ∀ H : Hp, (∀ b, b ≠ sysModules → H b = none ∨ ∃ o xs, H b = some (.frz o (.lst xs))) → H sysModules = some (.ext φ) → Frz K H ⟨[], []⟩ a (ns.map V.int) → HOk P w H s₁.heap → (∀ b, H b ≠ none → b = a ∨ b = sysModules) → (H a ≠ none → K.lookup a = none) →
      codeAny (model P w) callerA (.call (.ref fa) ⟨[.ref a], []⟩) (fun r s' => r = .ok (.ret (.bool true)) ∧ OldK s₁.heap s'.heap ∧ s'.os = s₁.os ∧ AllBare s'.gens) s₁ := by
    intro H hO hS1 hS hok hA hK
    have base_of : ∀ {b : Addr} {o : Obj}, s₁.heap.get? b = some o → H b = none → (hidT s₁.heap H).get? b = some o := fun e n => hidT_get e n
    have noA : ∀ {b : Addr} {o : Obj} {es : Array DictEntry} {ep : Nat}, b ≠ sysModules → s₁.heap.get? b = some o → o.data = .dict es ep → H b = none := fun {b o es ep} nb e d => by
      cases q : H b with
      | none => rfl
      | some u =>
        have e' : b = a := (hA b (by rw [q]; simp)).resolve_right nb
        subst e'
        rw [ha] at e; cases e
        have d' : Data.seq vs.toArray _ = Data.dict es ep := d
        cases d'
    have nsK : ∀ {b : Addr} {m : Str → Option Value}, b ≠ sysModules → s₁.heap.Ns b m → (hidT s₁.heap H).Ns b m := fun {b m} nb ⟨o, es, ep, e, d, r⟩ => ⟨o, es, ep, base_of e (noA nb e d), d, r⟩
    have hKb : K.In (hidT s₁.heap H) := fun b o e => base_of (KX b o e) (by
      cases q : H b with
      | none => rfl
      | some u =>
        rcases hA b (by rw [q]; simp) with e' | e'
        · subst e'
          rw [hK (by rw [q]; simp)] at e; cases e
        · subst e'
          rw [hK1] at e; cases e)
    have hMd : Mod K mg (hidT s₁.heap H) := ⟨hKb, nsK (by decide) hns, ⟨mb, nsK (by decide) hb, hbb⟩, let ⟨mc, h1, h2⟩ := hlim; ⟨mc, nsK (by decide) h1, h2⟩⟩
    have e0 : Env0 P w K mg (hidT s₁.heap H) callerA [] s₁ H := ⟨rfl, hMd, fun b o e => of_hidT e, Nat.le_of_eq (hidT_size _ _), trivial, fun b hb => absurd (show b ∈ ([] : List Addr) from hb) (by simp), hok, .of_eq hg⟩
    have sp : spI K g [.ref a] H (fun v H' => v = .bl true ∧ H' sysModules = some (.ext φ)) fun _ _ _ => False := by
      refine ⟨⟨[], []⟩, [], [.frz (ns.map D.int)], ⟨⟨φ, hS1⟩, rfl, List.nodup_nil, fun _ h => absurd h (by simp), fun _ h => absurd h (by simp), fun n b o h => by simp at h⟩, .cons (.frz hS (rds_nums ns)) .nil, ?_⟩
      obtain ⟨S', e⟩ := hsp
      rw [e]
      intro H' α' af v rv
      cases rv
      exact ⟨rfl, af.ext.keep _ _ hS1 fun z => absurd z (by simp)⟩
    refine codeAny_mono (F _ hKb (nsK (by decide) hns) callerA [] s₁ H [.ref a] [.ref a] _ _ hr rfl e0 (.cons rfl .nil) sp) fun r s' h => ?_
    cases r with
    | error e => exact h.elim
    | ok fl =>
      cases fl with
      | next => exact False.elim h
      | brk => exact False.elim h
      | cont => exact False.elim h
      | ret u =>
        obtain ⟨v, H', os, bare, un, hok', r', q', q2⟩ := h
        subst q'
        obtain rfl : u = Value.bool true := r'
        refine ⟨rfl, OldK.of_keep fun b o e => ?_, os, bare⟩
        by_cases hb1 : b = sysModules
        · subst hb1
          rw [hM1] at e; cases e
          obtain ⟨z, _⟩ := hok' _ _ q2
          exact z
        · cases q : H b with
          | none => exact un.keep b o e q (by intro z; exact absurd (show b ∈ ([] : List Addr) from z) (by simp)) (by simp)
          | some u =>
            rcases hO b hb1 with z | ⟨ob, xs, z⟩
            · rw [q] at z; cases z
            · have z2 := un.frzs b ob _ z
              obtain ⟨e1, _⟩ := hok b _ z
              obtain ⟨e2, _⟩ := hok' b _ z2
              rw [e] at e1; cases e1
              exact e2
  have hext : ∀ H : Hp, ObjOk P w H s₁.heap sysModules (.ext φ) := fun H => ⟨hM1, ⟨o1, hM1⟩, fun h1 h2 p k => k _ p⟩
  cases hk : K.lookup a with
  | some o =>
    have e := KX a o hk
    rw [ha] at e
    cases e
    refine core (fun b => if b = sysModules then some (.ext φ) else none) (fun b nb => .inl (if_neg nb)) (if_pos rfl) (.inr ⟨_, vs.toArray, _, hk, rfl, rfl, rfl, by rw [List.size_toArray, lenV]; exact hl, by simpa using rv⟩) (fun b u z => ?_) (fun b z => ?_) fun z => absurd (if_neg a1) z
    · by_cases hb : b = sysModules
      · subst hb
        have z' := (if_pos rfl).symm.trans z
        cases z'
        exact hext _
      · have z' := (if_neg hb).symm.trans z
        cases z'
    · by_cases hb : b = sysModules
      · exact .inr hb
      · exact absurd (if_neg hb) z
  | none =>
    refine core (fun b => if b = sysModules then some (.ext φ) else if b = a then some (.frz { cls := .type "list", data := .seq vs.toArray } (.lst (ns.map V.int))) else none) (fun b nb => ?_) (if_pos rfl) (.inl ⟨by rintro (z | z) <;> simp at z, .inr ⟨{ cls := .type "list", data := .seq vs.toArray }, (if_neg a1).trans (if_pos rfl)⟩⟩) (fun b u z => ?_) (fun b z => ?_) fun _ => hk
    · by_cases hb : b = a
      · exact .inr ⟨_, _, (if_neg nb).trans (if_pos hb)⟩
      · exact .inl ((if_neg nb).trans (if_neg hb))
    · by_cases hs : b = sysModules
      · subst hs
        have z' := (if_pos rfl).symm.trans z
        cases z'
        exact hext _
      · have z := (if_neg hs).symm.trans z
        by_cases hb : b = a
        · have z' := (if_pos hb).symm.trans z
          cases z'
          subst hb
          exact ⟨ha, by rw [List.length_map]; exact hl, vs, _, rv, ha⟩
        · have z' := (if_neg hb).symm.trans z
          cases z'
    · by_cases hs : b = sysModules
      · exact .inr hs
      · by_cases hb : b = a
        · exact .inl hb
        · exact absurd ((if_neg hs).trans (if_neg hb)) z

theorem walk_ofG {l : PySem.W.OpenLaw} {n k : Nat} {q : Program} {loose : List Str} {XP : (Str → Option Value) → Heap → Prop} {YP : World → Heap → Prop} {d : DefRec} {K : Params → Frag} {g : List D → M D}
    (hn : l.most = some n) (hn2 : n ≤ sizeLine) (hdf : d.params.defaults = []) (hr : Room k callerA) (himp : importsNone q = true)
    (hY : ∀ (w : World) (h : Heap), YP w h → (K w.params).In h) (hK1 : ∀ w : World, (K w.params).lookup sysModules = none)
    (F : ∀ (w : World) (mg : Str → Option Value) (fa : Addr) (h : Heap), (K w.params).In h → h.Ns mainGlobals mg → mg d.name = some (.ref fa) →
      ∀ base : Heap, (K w.params).In base → base.Ns mainGlobals mg → FnG l.prog w (K w.params) mg base CX0 k fa (spI (K w.params) g))
    (hsp : ∀ ns : List Int, ns.length ≤ n → (∀ i ∈ ns, Builtin.Int.intBits i ≤ 1048576) → ∃ S', g [.frz (ns.map D.int)] [] = .ok (.bl true) S') :
    PySem.W.WalkO q loose XP YP l.row.toRowW d [] (fun f vs => PySem.call f vs) := by
  refine Att.attach_callB hn hdf fun w s₀ s₁ mg mb fa o pm cd doc a vs ns G Y ho hd hcd hmg hobj hints hlen hbits hg => ?_
  have KX := hY w _ Y
  obtain ⟨mm, hm, _⟩ := (G.T.seer himp).mods
  exact law_callG KX G.T.g G.T.b G.T.builtins G.T.nolimit hg hobj hints (Nat.le_trans hlen hn2) hr (hK1 w) ⟨mm, hm⟩ (F w mg fa _ KX G.T.g hmg) (hsp ns hlen hbits)
end LnS
namespace LnS
open PySem L2
theorem fn_at {P : Program} {w : World} {K : Frag} {mg : Str → Option Value} {base : Heap} {fs : List Addr} {prog : List Ln.Fn} {wf k i : Nat} {f fa : Addr} {x : Str} (L : Lev P w K mg base fs prog wf k) (h : fs[i]? = some f) (h1 : mg x = some (.ref fa)) (h2 : mg x = some (.ref f)) :
    FnG P w K mg base CX0 k fa (spI K (Ln.callI prog wf k i)) := by
  rw [h1] at h2
  cases h2
  exact L.ok i _ h
end LnS

set_option linter.all false
set_option maxRecDepth 100000
/-! Ln: built-in names. -/
namespace LnS
open PySem
theorem bt_len : bootBuiltins "len" = some (.builtin "len") := by decide +kernel
theorem bt_all : bootBuiltins "all" = some (.builtin "all") := by decide +kernel
theorem bt_any : bootBuiltins "any" = some (.builtin "any") := by decide +kernel
theorem bt_sum : bootBuiltins "sum" = some (.builtin "sum") := by decide +kernel
theorem bt_abs : bootBuiltins "abs" = some (.builtin "abs") := by decide +kernel
theorem bt_max : bootBuiltins "max" = some (.builtin "max") := by decide +kernel
theorem bt_min : bootBuiltins "min" = some (.builtin "min") := by decide +kernel
theorem bt_repr : bootBuiltins "repr" = some (.builtin "repr") := by decide +kernel
theorem bt_tuple : bootBuiltins "tuple" = some (.type "tuple") := by decide +kernel
theorem bt_list : bootBuiltins "list" = some (.type "list") := by decide +kernel
theorem bt_int : bootBuiltins "int" = some (.type "int") := by decide +kernel
theorem bt_bool : bootBuiltins "bool" = some (.type "bool") := by decide +kernel
theorem bt_str : bootBuiltins "str" = some (.type "str") := by decide +kernel
theorem bt_dict : bootBuiltins "dict" = some (.type "dict") := by decide +kernel
end LnS

set_option linter.all false
/-! Ln: running the evaluator by rewriting; the laws' prelude. -/
namespace Ln
open PySem (Str PyData)

/-! ### rewriting rules -/
theorem rBind {α β : Type} (m : M α) (f : α → M β) (S : Store) : M.bind m f S = match m S with | .ok a s' => f a s' | .exc e s' => .exc e s' | .err => .err := rfl
theorem rRet {α : Type} (a : α) (S : Store) : M.ret a S = .ok a S := rfl
theorem rOpt {α : Type} (f : Store → Option α) (S : Store) : M.opt f S = match f S with | some a => .ok a S | none => .err := rfl
theorem rNox {α : Type} (m : M α) (S : Store) : M.nox m S = match m S with | .ok a s' => .ok a s' | _ => .err := rfl
section
variable {cf : Nat → List D → M D} {w : Nat} {ρ : Rho}
end
theorem tm_bl {b : Bool} {S : Store} : truthM (.bl b) S = .ok b S := rfl
theorem tm_int {i : Int} {S : Store} : truthM (.int i) S = .ok (i != 0) S := rfl
theorem ii_add {a b : Int} : intOp .add a b = some (a + b) := rfl
theorem ii_sub {a b : Int} : intOp .sub a b = some (a - b) := rfl
theorem ii_mul {a b : Int} (h : mulOk a b = true) : intOp .mul a b = some (a * b) := if_pos h
theorem ii_div {a b : Int} (h : divOk b = true) : intOp .fdiv a b = some (a.fdiv b) := if_pos h
theorem ii_mod {a b : Int} (h : b ≠ 0) : intOp .mod a b = some (a.fmod b) := if_pos (by simpa using h)
theorem ii_pow {a b : Int} (h : powOk a b = true) : intOp .pow a b = some (a ^ b.toNat) := if_pos h
theorem bop_ii {o : Bop} {a b : Int} {S : Store} : bop o (.int a) (.int b) S = (intOp o a b).map .int := rfl
theorem mulOk_l {a b : Int} (h1 : -(2 ^ 64) < a) (h2 : a < 2 ^ 64) : mulOk a b = true := by
  unfold mulOk small64
  simp only [Bool.or_eq_true, Bool.and_eq_true, decide_eq_true_eq]
  exact .inl (.inl ⟨h1, h2⟩)
theorem mulOk_r {a b : Int} (h1 : -(2 ^ 64) < b) (h2 : b < 2 ^ 64) : mulOk a b = true := by
  unfold mulOk small64
  simp only [Bool.or_eq_true, Bool.and_eq_true, decide_eq_true_eq]
  exact .inl (.inr ⟨h1, h2⟩)
theorem mod_lo {a b : Int} (h : 0 < b) : 0 ≤ a.fmod b := by rw [Int.fmod_eq_emod_of_nonneg _ (Int.le_of_lt h)]; exact Int.emod_nonneg _ (by omega)
theorem mod_hi {a b : Int} (h : 0 < b) : a.fmod b < b := by rw [Int.fmod_eq_emod_of_nonneg _ (Int.le_of_lt h)]; exact Int.emod_lt_of_pos _ h

/-! ### the prelude's texts -/
def b_stream : Sms :=
  (.cons (.set 2 (.bin .add (.bin .mul (.cst (.int 13)) (.var 1)) (.cst (.int 6))))
  (.cons (.cond (.cmp .lt (.var 1) (.blt .len (.cons (.var 0) .nil)))
  (.cons (.set 2 (.idx (.var 0) (.var 1)))
  .nil) .nil)
  (.cons (.set 3 (.bin .mod (.blt .abs (.cons (.var 2) .nil)) (.bin .pow (.bin .pow (.cst (.int 10)) (.cst (.int 60))) (.cst (.int 11)))))
  (.cons (.set 4 (.bin .mod (.bin .add (.bin .add (.bin .add (.bin .mul (.bin .mod (.var 3) (.cst (.int 2147483579))) (.cst (.int 48271))) (.bin .mul (.cst (.int 92821)) (.var 1))) (.bin .mul (.cst (.int 5)) (.blt .int (.cons (.cmp .lt (.var 2) (.cst (.int 0))) .nil)))) (.cst (.int 29))) (.cst (.int 2147483563))))
  (.cons (.ret (.lstM (.cons (.blt .max (.cons (.cst (.int 0)) (.cons (.bin .add (.bin .sub (.var 3) (.bin .pow (.cst (.int 10)) (.cst (.int 18)))) (.cst (.int 1))) .nil))) (.cons (.var 4) (.cons (.cst (.int 0)) .nil)))))
  .nil)))))
def b_draw : Sms :=
  (.cons (.cond (.cmp .gt (.idx (.var 0) (.cst (.int 0))) (.cst (.int 0)))
  (.cons (.set 2 (.bin .mod (.idx (.var 0) (.cst (.int 0))) (.var 1)))
  (.cons (.setI (.var 0) (.cst (.int 0)) (.bin .fdiv (.idx (.var 0) (.cst (.int 0))) (.var 1)))
  (.cons (.ret (.var 2))
  .nil))) .nil)
  (.cons (.setI (.var 0) (.cst (.int 2)) (.bin .add (.idx (.var 0) (.cst (.int 2))) (.cst (.int 1))))
  (.cons (.set 3 (.bin .mod (.bin .add (.idx (.var 0) (.cst (.int 1))) (.bin .mul (.cst (.int 1000037)) (.idx (.var 0) (.cst (.int 2))))) (.cst (.int 2305843009213693951))))
  (.cons (.set 4 (.bin .mod (.bin .add (.bin .mul (.bin .mod (.bin .mul (.var 3) (.var 3)) (.cst (.int 2305843009213693921))) (.var 3)) (.bin .mul (.cst (.int 7907)) (.idx (.var 0) (.cst (.int 2))))) (.cst (.int 2305843009213693907))))
  (.cons (.ret (.bin .mod (.bin .fdiv (.var 4) (.cst (.int 4099))) (.var 1)))
  .nil)))))
def b_pick (n : Nat) : Sms :=
  (.cons (.ret (.idx (.var 1) (.call n (.cons (.var 0) (.cons (.blt .len (.cons (.var 1) .nil)) .nil)))))
  .nil)

/-- the store holds a stream at n -/
def Strm (n : Nat) (S : Store) : Prop := ∃ a b c : Int, S[n]? = some (.lst [.int a, .int b, .int c])
theorem strm_set {n : Nat} {S : Store} (h : n < S.length) (a b c : Int) : Strm n (S.set n (.lst [.int a, .int b, .int c])) := ⟨a, b, c, List.getElem?_set_self h⟩
theorem callI_s {prog : List Fn} {w k i : Nat} {fn : Fn} {args as : List D} {S : Store} (h : prog[i]? = some fn) (hb : bindA fn args = some as) : callI prog w (k + 1) i args S = runBody (callI prog w k) w fn as S := by
  simp only [callI, h, hb]
section
variable {prog : List Fn} {w k i n : Nat} {S : Store}
/-- _law_draw -/
theorem draw_sp (h : prog[i]? = some ⟨2, false, 5, b_draw⟩) (hs : Strm n S) {t : Int} (h0 : 0 < t) (h1 : t.natAbs.log2 < 9000) :
    ∃ r S', callI prog w (k + 1) i [.ref n, .int t] S = .ok (.int r) S' ∧ 0 ≤ r ∧ r < t ∧ Strm n S' ∧ S'.length = S.length ∧ ∀ m, m ≠ n → S'[m]? = S[m]? := by
  obtain ⟨a, b, c, e⟩ := hs
  have hn : n < S.length := (List.getElem?_eq_some_iff.mp e).1
  rw [callI_s h rfl]
  have hd : divOk t = true := by unfold divOk; simp; omega
  by_cases ha : 0 < a
  · have e1 : runBody (callI prog w k) w ⟨2, false, 5, b_draw⟩ [.ref n, .int t] S = .ok (.int (a.fmod t)) (S.set n (.lst [.int (a.fdiv t), .int b, .int c])) := by
      simp [runBody, b_draw, execs, exec, evT, ev, evs, rBind, rRet, rOpt, getV, idxD, seqOf, e, atP, place, cop, ha, truthM, truth, nextK, bop, intOp, hd, setIK, (show t ≠ 0 by omega)]
    exact ⟨_, _, e1, mod_lo h0, mod_hi h0, strm_set hn _ _ _, List.length_set, fun m hm => List.getElem?_set_ne (fun z => hm z.symm)⟩
  · have one := mod_lo (a := b + 1000037 * (c + 1)) (b := 2305843009213693951) (by decide)
    have one' := mod_hi (a := b + 1000037 * (c + 1)) (b := 2305843009213693951) (by decide)
    generalize hx : (b + 1000037 * (c + 1)).fmod 2305843009213693951 = x at one one'
    have m1 : mulOk x x = true := mulOk_l (by omega) (by omega)
    have y1 := mod_lo (a := x * x) (b := 2305843009213693921) (by decide)
    have y2 := mod_hi (a := x * x) (b := 2305843009213693921) (by decide)
    generalize hy : (x * x).fmod 2305843009213693921 = y at y1 y2
    have m2 : mulOk y x = true := mulOk_r (by omega) (by omega)
    have hset : ∀ o : O, (S.set n o)[n]? = some o := fun o => List.getElem?_set_self hn
    have m3 : ∀ z, mulOk 1000037 z = true := fun z => mulOk_l (by decide) (by decide)
    have m4 : ∀ z, mulOk 7907 z = true := fun z => mulOk_l (by decide) (by decide)
    have e1 : runBody (callI prog w k) w ⟨2, false, 5, b_draw⟩ [.ref n, .int t] S = .ok (.int ((((y * x + 7907 * (c + 1)).fmod 2305843009213693907).fdiv 4099).fmod t)) (S.set n (.lst [.int a, .int b, .int (c + 1)])) := by
      simp [runBody, b_draw, execs, exec, evT, ev, evs, rBind, rRet, rOpt, getV, idxD, seqOf, e, atP, place, cop, ha, truthM, truth, nextK, bop, intOp, setIK, (show t ≠ 0 by omega), hset, m3, hx, m1, hy, m2, m4, (show divOk 4099 = true by decide)]
    exact ⟨_, _, e1, mod_lo h0, mod_hi h0, strm_set hn _ _ _, List.length_set, fun m hm => List.getElem?_set_ne (fun z => hm z.symm)⟩
/-- _law_pick -/
theorem pick_sp {j : Nat} (h : prog[i]? = some ⟨2, false, 5, b_draw⟩) (h2 : prog[j]? = some ⟨2, false, 2, b_pick i⟩) (hs : Strm n S) {ds : List D} (h0 : ds ≠ []) (h1 : ds.length < 1000) :
    ∃ d S', callI prog w (k + 2) j [.ref n, .lst ds] S = .ok d S' ∧ d ∈ ds ∧ Strm n S' ∧ S'.length = S.length ∧ ∀ m, m ≠ n → S'[m]? = S[m]? := by
  have hl : 0 < ds.length := List.length_pos_iff.mpr h0
  obtain ⟨r, S', e, r0, r1, hs', hl', ho⟩ := draw_sp (w := w) (k := k) h hs (t := (ds.length : Int)) (by omega) (by
    rw [Int.natAbs_natCast]
    have := Nat.log2_le_self ds.length
    omega)
  obtain ⟨q, hq⟩ : ∃ q : Nat, r = q := ⟨r.toNat, by omega⟩
  subst hq
  have hr : q < ds.length := by omega
  refine ⟨ds[q], S', ?_, List.getElem_mem hr, hs', hl', ho⟩
  rw [callI_s h2 rfl]
  simp [runBody, b_pick, execs, exec, ev, evs, rBind, rRet, rOpt, getV, blt, blt0, lenF, seqOf, e, idxD, atP, place, hr, List.getElem?_eq_getElem hr, nextK]
/-- _law_stream -/
theorem stream_sp (h : prog[i]? = some ⟨2, false, 5, b_stream⟩) {ns : List Int} {at_ : Nat} :
    ∃ S', callI prog w (k + 1) i [.frz (ns.map D.int), .int at_] S = .ok (.ref S.length) S' ∧ Strm S.length S' ∧ S'.length = S.length + 1 ∧ ∀ m, m < S.length → S'[m]? = S[m]? := by
  have p1 : powOk 10 60 = true := by decide +kernel
  have p2 : powOk (10 ^ 60) 11 = true := by decide +kernel
  have p3 : powOk 10 18 = true := by decide +kernel
  have m1 : ∀ z, mulOk 13 z = true := fun z => mulOk_l (by decide) (by decide)
  have m2 : ∀ z, mulOk 92821 z = true := fun z => mulOk_l (by decide) (by decide)
  have m3 : ∀ z, mulOk 5 z = true := fun z => mulOk_l (by decide) (by decide)
  have m4 : ∀ z, mulOk z 48271 = true := fun z => mulOk_r (by decide) (by decide)
  have n1 : ((10 : Int) ^ 60) ^ 11 ≠ 0 := by decide +kernel
  have fin : (∃ x y : Int, runBody (callI prog w k) w ⟨2, false, 5, b_stream⟩ [.frz (ns.map D.int), .int at_] S = .ok (.ref S.length) (S ++ [.lst [.int x, .int y, .int 0]])) := by
    by_cases hl : at_ < ns.length
    · simp [runBody, b_stream, execs, exec, evT, ev, evs, rBind, rRet, rOpt, getV, nextK, bop, intOp, blt, blt0, absF, intF, maxF, lenF, p1, p2, p3, m1, m2, m3, m4, n1, cop, newO, truthM, truth, seqOf, idxD, atP, place, hl, -Int.reducePow]
    · simp [runBody, b_stream, execs, exec, evT, ev, evs, rBind, rRet, rOpt, getV, nextK, bop, intOp, blt, blt0, absF, intF, maxF, lenF, p1, p2, p3, m1, m2, m3, m4, n1, cop, newO, truthM, truth, seqOf, idxD, atP, place, hl, -Int.reducePow]
  obtain ⟨x, y, e⟩ := fin
  refine ⟨_, (callI_s h rfl).trans e, ⟨x, y, 0, by rw [List.getElem?_append_right (Nat.le_refl _), Nat.sub_self]; rfl⟩, by simp, fun m hm => List.getElem?_append_left hm⟩
end
end Ln
namespace Ln
open PySem (Str PyData)
/-! ### lists -/
section
variable {α β : Type} {S : Store}
theorem mapO_map {step : D → M (Option D)} {g : α → D} {f : α → D} : ∀ {l : List α}, (∀ a ∈ l, step (g a) S = .ok (some (f a)) S) → mapO step (l.map g) S = .ok (l.map f) S
  | [], _ => rfl
  | a :: l, h => by
    simp only [List.map_cons, mapO, rBind, h a List.mem_cons_self]
    rw [mapO_map fun b hb => h b (List.mem_cons_of_mem _ hb)]
    rfl
theorem mapO_filter {step : D → M (Option D)} {g : α → D} {f : α → Option D} : ∀ {l : List α}, (∀ a ∈ l, step (g a) S = .ok (f a) S) → mapO step (l.map g) S = .ok (l.filterMap f) S
  | [], _ => rfl
  | a :: l, h => by
    have ih := mapO_filter (l := l) fun b hb => h b (List.mem_cons_of_mem _ hb)
    simp only [List.map_cons, mapO, rBind, h a List.mem_cons_self, List.filterMap_cons]
    cases f a with
    | none => simp only [ih]
    | some y => simp only [rBind, ih, rRet]
/-- with a store that changes -/
theorem mapO_inv {step : D → M (Option D)} {g : α → D} {I : Store → Prop} {P : α → D → Prop} : ∀ {l : List α} {S : Store}, (∀ a ∈ l, ∀ S, I S → ∃ y S', step (g a) S = .ok (some y) S' ∧ I S' ∧ P a y) → I S →
    ∃ ys S', mapO step (l.map g) S = .ok ys S' ∧ I S' ∧ ys.length = l.length ∧ ∀ y ∈ ys, ∃ a ∈ l, P a y
  | [], S, _, hi => ⟨[], S, rfl, hi, rfl, fun y hy => nomatch hy⟩
  | a :: l, S, h, hi => by
    obtain ⟨y, S1, e1, i1, p1⟩ := h a List.mem_cons_self S hi
    obtain ⟨ys, S2, e2, i2, hl, p2⟩ := mapO_inv (l := l) (fun b hb => h b (List.mem_cons_of_mem _ hb)) i1
    refine ⟨y :: ys, S2, ?_, i2, by simp [hl], fun z hz => ?_⟩
    · simp only [List.map_cons, mapO, rBind, e1, e2, rRet]
    · rcases List.mem_cons.mp hz with rfl | hz
      · exact ⟨a, List.mem_cons_self, p1⟩
      · obtain ⟨b, hb, p⟩ := p2 z hz
        exact ⟨b, List.mem_cons_of_mem _ hb, p⟩
/-- a for by an invariant -/
theorem forL_inv {body : D → Rho → M (Fl × Rho)} {g : α → D} {I : Rho → Store → Prop} : ∀ {l : List α} {ρ : Rho} {S : Store}, (∀ a ∈ l, ∀ ρ S, I ρ S → ∃ ρ' S', body (g a) ρ S = .ok (.nx, ρ') S' ∧ I ρ' S') → I ρ S →
    ∃ ρ' S', forL body (l.map g) ρ S = .ok (.nx, ρ') S' ∧ I ρ' S'
  | [], ρ, S, _, hi => ⟨ρ, S, rfl, hi⟩
  | a :: l, ρ, S, h, hi => by
    obtain ⟨ρ1, S1, e1, i1⟩ := h a List.mem_cons_self ρ S hi
    obtain ⟨ρ2, S2, e2, i2⟩ := forL_inv (l := l) (fun b hb => h b (List.mem_cons_of_mem _ hb)) i1
    exact ⟨ρ2, S2, by simp only [List.map_cons, forL, rBind, e1, e2], i2⟩
/-- a for by an invariant that counts -/
theorem forL_count {body : D → Rho → M (Fl × Rho)} {g : α → D} {I : Nat → Rho → Store → Prop} {l : List α} : ∀ {n : Nat} {r : List α} {ρ : Rho} {S : Store}, l.drop n = r → (∀ i a, l[i]? = some a → ∀ ρ S, I i ρ S → ∃ ρ' S', body (g a) ρ S = .ok (.nx, ρ') S' ∧ I (i + 1) ρ' S') → I n ρ S →
    n ≤ l.length → ∃ ρ' S', forL body (r.map g) ρ S = .ok (.nx, ρ') S' ∧ I l.length ρ' S'
  | n, [], ρ, S, hr, _, hi, hn => by
    have := congrArg List.length hr
    simp at this
    exact ⟨ρ, S, rfl, by rw [show l.length = n by omega]; exact hi⟩
  | n, a :: r, ρ, S, hr, h, hi, hn => by
    have ha : l[n]? = some a := by rw [← List.head?_drop, hr]; rfl
    have hlt : n < l.length := (List.getElem?_eq_some_iff.mp ha).1
    obtain ⟨ρ1, S1, e1, i1⟩ := h n a ha ρ S hi
    have hr' : l.drop (n + 1) = r := by rw [← List.tail_drop, hr]; rfl
    obtain ⟨ρ2, S2, e2, i2⟩ := forL_count (n := n + 1) hr' h i1 hlt
    exact ⟨ρ2, S2, by simp only [List.map_cons, forL, rBind, e1, e2], i2⟩
end
theorem pairs_map {α β : Type} {f : α → D} {g : β → D} : ∀ (xs : List α) (ys : List β), pairs (xs.map f) (ys.map g) = (xs.zip ys).map fun p => .tup [f p.1, g p.2]
  | [], _ => by simp [pairs]
  | _ :: _, [] => by simp [pairs]
  | x :: xs, y :: ys => by simp [pairs, pairs_map xs ys]
theorem range_0 (n : Nat) : range 0 n = (List.range n).map fun (i : Nat) => .int (i : Int) := by unfold range; simp
theorem ints_map : ∀ xs : List Int, intsD (xs.map .int) = some xs
  | [] => rfl
  | x :: xs => by simp [intsD, ints_map xs]
theorem bools_map : ∀ xs : List Bool, boolsD (xs.map .bl) = some xs
  | [] => rfl
  | x :: xs => by simp [boolsD, bools_map xs]
theorem bools_fun {α : Type} (f : α → Bool) : ∀ l : List α, boolsD (l.map fun a => D.bl (f a)) = some (l.map f)
  | [] => rfl
  | x :: xs => by simp [boolsD, bools_fun f xs]
theorem ints_fun {α : Type} (f : α → Int) : ∀ l : List α, intsD (l.map fun a => D.int (f a)) = some (l.map f)
  | [] => rfl
  | x :: xs => by simp [intsD, ints_fun f xs]
theorem zip_map {α β γ : Type} (f : α → β → γ) : ∀ (xs : List α) (ys : List β), (xs.zip ys).map (fun p => f p.1 p.2) = List.zipWith f xs ys
  | [], _ => by simp
  | _ :: _, [] => by simp
  | x :: xs, y :: ys => by simp [zip_map f xs ys]
theorem mapM_map {α : Type} {S : Store} {k : Nat} {g : α → D} {f : α → PyData} : ∀ {l : List α}, (∀ a ∈ l, toP S k (g a) = some (f a)) → (l.map g).mapM (toP S k) = some (l.map f)
  | [], _ => rfl
  | a :: l, h => by
    rw [List.map_cons, List.mapM_cons, h a List.mem_cons_self, mapM_map fun b hb => h b (List.mem_cons_of_mem _ hb)]
    rfl
theorem toP_int {S : Store} {k : Nat} {i : Int} : toP S k (.int i) = some (.int i) := by cases k <;> rfl

/-! ### texts of values -/
mutual
def cost : PyData → Nat
  | .none => 4
  | .bool _ => 5
  | .int _ => 1921
  | .str x => 10 * x.length + 2
  | .list xs => costs xs + 3
  | .tuple xs => costs xs + 3
  | .dict kvs => costKv kvs + 3
def costs : List PyData → Nat
  | [] => 0
  | x :: xs => cost x + 2 + costs xs
def costKv : List (PyData × PyData) → Nat
  | [] => 0
  | (k, v) :: r => cost k + cost v + 4 + costKv r
end
end Ln

set_option linter.all false
/-! Ln: how long the text of a value is. -/
namespace Ln
open PySem (Str PyData)
mutual
def fine : PyData → Bool
  | .none | .bool _ => true
  | .int i => decide (i.natAbs.log2 < 1920)
  | .str x => PyData.strOk x
  | .list xs | .tuple xs => fines xs
  | .dict kvs => fineKv kvs
def fines : List PyData → Bool
  | [] => true
  | x :: xs => fine x && fines xs
def fineKv : List (PyData × PyData) → Bool
  | [] => true
  | (k, v) :: r => fine k && fine v && fineKv r
end
mutual
theorem fine_showable : ∀ p : PyData, fine p = true → p.showable = true
  | .none, _ => by simp [PyData.showable]
  | .bool _, _ => by simp [PyData.showable]
  | .int i, h => by simpa [PyData.showable, fine] using h
  | .str x, _ => by simp [PyData.showable]
  | .list xs, h => by rw [PyData.showable]; exact fines_showable xs (by simpa [fine] using h)
  | .tuple xs, h => by rw [PyData.showable]; exact fines_showable xs (by simpa [fine] using h)
  | .dict kvs, h => by rw [PyData.showable]; exact fineKv_showable kvs (by simpa [fine] using h)
theorem fines_showable : ∀ xs : List PyData, fines xs = true → PyData.showableAll xs = true
  | [], _ => by simp [PyData.showableAll]
  | x :: xs, h => by
    have h' : fine x = true ∧ fines xs = true := by simpa [fines] using h
    rw [PyData.showableAll, fine_showable x h'.1, fines_showable xs h'.2]; rfl
theorem fineKv_showable : ∀ xs : List (PyData × PyData), fineKv xs = true → PyData.showableKv xs = true
  | [], _ => by simp [PyData.showableKv]
  | (k, v) :: r, h => by
    have h' : (fine k = true ∧ fine v = true) ∧ fineKv r = true := by simpa [fineKv] using h
    rw [PyData.showableKv, fine_showable k h'.1.1, fine_showable v h'.1.2, fineKv_showable r h'.2]; rfl
end
theorem listText_le : ∀ ts : List Str, (PySem.listText ts).length ≤ PySem.piled ts + 2
  | [] => by decide +kernel
  | t :: r => by
    have h := PySem.textFrom_length_pos r 1 (("[" : Str) ++ (if (0 : Nat) > 0 then ", " else "" : String) ++ t) (Nat.succ_pos 0)
    have e : ((("[" : Str) ++ (if (0 : Nat) > 0 then ", " else "" : String) ++ t)).length = 1 + t.length := by
      rw [PySem.strLen_append, PySem.strLen_append]; rfl
    have hX : (PySem.listText (t :: r)).length = (PySem.textFrom 0 "[" (t :: r)).length + 1 := by
      show (PySem.textFrom 0 "[" (t :: r) ++ "]").length = _
      rw [PySem.strLen_append]; rfl
    have hY : (PySem.textFrom 0 "[" (t :: r)).length = (PySem.textFrom 1 (("[" : Str) ++ (if (0 : Nat) > 0 then ", " else "" : String) ++ t) r).length := rfl
    rw [hX, hY, h, e, PySem.piled_cons]; omega
theorem join_le (ts : List Str) : (Str.join ", " ts).length ≤ PySem.piled ts := by
  by_cases h : ts = []
  · subst h; decide +kernel
  · have := PySem.join_length_add ts h
    omega
theorem tupleText_le (ts : List Str) : (PySem.tupleText ts).length ≤ PySem.piled ts + 3 := by
  unfold PySem.tupleText
  rw [PySem.strLen_append, PySem.strLen_append]
  have e1 : ((("(" : String) : Str)).length = 1 := rfl
  have e3 : (((if ts.length == 1 then ",)" else ")" : String) : Str)).length ≤ 2 := by split <;> decide
  have := join_le ts
  omega
theorem dictText_le (ts : List Str) : (PySem.dictText ts).length ≤ PySem.piled ts + 2 := by
  unfold PySem.dictText
  rw [PySem.strLen_append, PySem.strLen_append]
  have e1 : ((("{" : String) : Str)).length = 1 := rfl
  have e3 : ((("}" : String) : Str)).length = 1 := rfl
  have := join_le ts
  omega
mutual
theorem shown_le : ∀ p : PyData, fine p = true → p.shown.length ≤ cost p
  | .none, _ => by simp only [PyData.shown, cost]; decide +kernel
  | .bool b, _ => by simp only [PyData.shown, cost]; cases b <;> decide +kernel
  | .int i, h => by
    simp only [PyData.shown, cost]
    rw [PySem.ofString_length]
    exact PySem.int_text_length_le (k := 1920) (by decide) (by simpa [fine] using h)
  | .str x, h => by
    simp only [PyData.shown, cost]
    refine PySem.StrLaws.reprText_len x fun c hc => ?_
    have h' : PyData.strOk x = true := by simpa [fine] using h
    unfold PyData.strOk at h'
    rw [Array.all_eq_true'] at h'
    have := h' c (Array.mem_toList_iff.mp hc)
    simp only [decide_eq_true_eq] at this
    exact Nat.lt_trans this (by decide)
  | .list xs, h => by
    simp only [PyData.shown, cost]
    have := shownAll_le xs (by simpa [fine] using h)
    have := listText_le (PyData.shownAll xs)
    omega
  | .tuple xs, h => by
    simp only [PyData.shown, cost]
    have := shownAll_le xs (by simpa [fine] using h)
    have := tupleText_le (PyData.shownAll xs)
    omega
  | .dict kvs, h => by
    simp only [PyData.shown, cost]
    have := shownKv_le kvs (by simpa [fine] using h)
    have := dictText_le (PyData.shownKv kvs)
    omega
theorem shownAll_le : ∀ xs : List PyData, fines xs = true → PySem.piled (PyData.shownAll xs) ≤ costs xs
  | [], _ => by simp [PyData.shownAll, costs, PySem.piled]
  | x :: xs, h => by
    have h' : fine x = true ∧ fines xs = true := by simpa [fines] using h
    have h1 := shown_le x h'.1
    have h2 := shownAll_le xs h'.2
    rw [PyData.shownAll, costs, PySem.piled_cons]; omega
theorem shownKv_le : ∀ xs : List (PyData × PyData), fineKv xs = true → PySem.piled (PyData.shownKv xs) ≤ costKv xs
  | [], _ => by simp [PyData.shownKv, costKv, PySem.piled]
  | (k, v) :: r, h => by
    have h' : (fine k = true ∧ fine v = true) ∧ fineKv r = true := by simpa [fineKv] using h
    have h1 := shown_le k h'.1.1
    have h2 := shown_le v h'.1.2
    have h3 := shownKv_le r h'.2
    rw [PyData.shownKv, costKv, PySem.piled_cons, PySem.strLen_append, PySem.strLen_append]
    have e1 : (((": " : String) : Str)).length = 2 := rfl
    omega
end
/-- repr of a value that is small -/
theorem repr_sm {S : Store} {d : D} {p : PyData} (h : dat S d = some p) (f : fine p = true) (c : cost p ≤ line) : reprF S [d] = some (.str p.shown) := by
  show ((dat S d).bind fun d => if d.showable && decide (d.shown.length ≤ line) then some (D.str d.shown) else none) = _
  rw [h]
  have h1 := shown_le p f
  simp only [Option.bind_some, fine_showable p f, Bool.true_and]
  rw [if_pos (decide_eq_true (Nat.le_trans h1 c))]
theorem fines_ints {xs : List Int} (h : ∀ x ∈ xs, x.natAbs.log2 < 1920) : fines (xs.map .int) = true := by
  induction xs with
  | nil => simp [fines]
  | cons x xs ih =>
    rw [List.map_cons, fines, ih fun y hy => h y (List.mem_cons_of_mem _ hy)]
    simp [fine, h x List.mem_cons_self]
theorem costs_ints (xs : List Int) : costs (xs.map .int) = 1923 * xs.length := by
  induction xs with
  | nil => simp [costs]
  | cons x xs ih => rw [List.map_cons, costs, ih, cost, List.length_cons]; omega
theorem dat_ints {S : Store} (xs : List Int) : dat S (.tup (xs.map .int)) = some (.tuple (xs.map .int)) := by
  show ((xs.map D.int).mapM (toP S 23)).map PyData.tuple = _
  rw [mapM_map (f := PyData.int) fun a _ => toP_int]
  rfl
theorem log2_lt {i : Int} {k : Nat} (h : i.natAbs < 2 ^ k) (hk : 0 < k) : i.natAbs.log2 < k := by
  by_cases h0 : i.natAbs = 0
  · rw [h0]; simpa using hk
  · exact (Nat.log2_lt h0).mpr h
theorem shaped_ints (xs : List Int) : PySem.SeqAt.shaped (.tuple (xs.map .int)) = true := by
  have h1 : ∀ xs : List Int, PyData.canLayAll0 (xs.map .int) = true := fun xs => by
    induction xs with
    | nil => simp [PyData.canLayAll0]
    | cons x xs ih => simp [PyData.canLayAll0, PyData.canLay0, ih]
  have h2 : ∀ xs : List Int, PyData.depthAll (xs.map .int) = 0 := fun xs => by
    induction xs with
    | nil => simp [PyData.depthAll]
    | cons x xs ih => simp [PyData.depthAll, PyData.depth, ih]
  simp [PySem.SeqAt.shaped, PyData.canLay0, PyData.depth, h1, h2]
theorem eqvAll_ints : ∀ xs ys : List Int, PyData.eqvAll (xs.map .int) (ys.map .int) = decide (xs = ys)
  | [], [] => by simp [PyData.eqvAll]
  | [], _ :: _ => by simp [PyData.eqvAll]
  | _ :: _, [] => by simp [PyData.eqvAll]
  | x :: xs, y :: ys => by
    rw [List.map_cons, List.map_cons, PyData.eqvAll, eqvAll_ints xs ys]
    by_cases h : x = y <;> by_cases h2 : xs = ys <;> simp [PyData.eqv, h, h2]
theorem eqD_ints {S : Store} (xs ys : List Int) : eqD S (.tup (xs.map .int)) (.tup (ys.map .int)) = some (decide (xs = ys)) := by
  show eqP S _ _ = _
  unfold eqP
  rw [dat_ints, dat_ints]
  simp only [shaped_ints, Bool.and_self, if_true, PyData.eqv, eqvAll_ints]
theorem bindA_star {fn : Fn} {args : List D} (h : fn.star = true) (h2 : fn.arity ≤ args.length ∧ args.length ≤ line) : bindA fn args = some (args.take fn.arity ++ [.tup (args.drop fn.arity)]) := by
  unfold bindA
  rw [if_pos h, if_pos h2]
end Ln

set_option linter.all false
/-! Ln: the evaluator's equations, with the store applied: what a rewriting runs. -/
namespace Ln
open PySem (Str PyData)
/-- what comes behind a result -/
def R.bnd {α β : Type} (r : R α) (f : α → Store → R β) : R β := match r with
  | .ok a s => f a s
  | .exc e s => .exc e s
  | .err => .err
theorem bnd_ok {α β : Type} {a : α} {S : Store} {f : α → Store → R β} : (R.ok a S).bnd f = f a S := id rfl
theorem bnd_exc {α β : Type} {e : Ex} {S : Store} {f : α → Store → R β} : (R.exc e S).bnd f = .exc e S := id rfl
theorem bnd_err {α β : Type} {f : α → Store → R β} : (R.err : R α).bnd f = .err := id rfl
theorem qBindF {α β : Type} (m : M α) (f : α → M β) : M.bind m f = fun S => (m S).bnd f := funext fun S => by unfold M.bind; cases m S <;> rfl
theorem qRet {α : Type} (a : α) (S : Store) : (M.ret a : M α) S = .ok a S := id rfl
theorem qRetF {α : Type} (a : α) : (M.ret a : M α) = fun S => .ok a S := id rfl
theorem qBind {α β : Type} (m : M α) (f : α → M β) (S : Store) : M.bind m f S = (m S).bnd f := by unfold M.bind; cases m S <;> rfl
def mapR {α : Type} (o : Option α) (S : Store) : R α := match o with | some a => .ok a S | none => .err
theorem mapR_some {α : Type} {a : α} {S : Store} : mapR (some a) S = .ok a S := id rfl
theorem qOpt {α : Type} (f : Store → Option α) (S : Store) : M.opt f S = mapR (f S) S := by unfold M.opt mapR; cases f S <;> rfl
theorem mapR_bnd {α β : Type} {o : Option α} {f : α → β} {S : Store} : (mapR o S).bnd (fun k S => .ok (f k) S) = mapR (o.map f) S := by cases o <;> rfl
theorem qOptF {α : Type} (f : Store → Option α) : M.opt f = fun S => mapR (f S) S := funext fun S => qOpt f S
/-- the work of a comprehension, of a for, of a while: opaque to the rewriting -/
def lcM (cf : Nat → List D → M D) (elt : E) (tg : Tg) (ifs : Es) (own : List Nat) (ρ : Rho) (xs : List D) (S : Store) : R D :=
  M.bind (M.nox (mapO (lcK ρ tg own (fun ρ' => evts cf ifs ρ') (fun ρ' => ev cf elt ρ')) xs)) (fun ys => M.ret (.lst ys)) S
def loopM (cf : Nat → List D → M D) (w : Nat) (tg : Tg) (b : Sms) (xs : List D) (ρ : Rho) (S : Store) : R (Fl × Rho) := forL (loopK tg fun ρ => execs cf w b ρ) xs ρ S
def whileM (cf : Nat → List D → M D) (w : Nat) (c : E) (b : Sms) (n : Nat) (ρ : Rho) (S : Store) : R (Fl × Rho) := whileL (fun ρ => evT cf c ρ) (fun ρ => execs cf w b ρ) n ρ S
/-- what comes behind a statement -/
def flowR (r : R (Fl × Rho)) (f : Rho → Store → R (Fl × Rho)) : R (Fl × Rho) := match r with
  | .ok (.nx, ρ) S => f ρ S
  | .ok (g, ρ) S => .ok (g, ρ) S
  | .exc e s => .exc e s
  | .err => .err
theorem flow_nx {ρ : Rho} {S : Store} {f : Rho → Store → R (Fl × Rho)} : flowR (.ok (.nx, ρ) S) f = f ρ S := id rfl
theorem flow_rt {ρ : Rho} {S : Store} {d : D} {f : Rho → Store → R (Fl × Rho)} : flowR (.ok (.rt d, ρ) S) f = .ok (.rt d, ρ) S := id rfl
theorem flow_bk {ρ : Rho} {S : Store} {f : Rho → Store → R (Fl × Rho)} : flowR (.ok (.bk, ρ) S) f = .ok (.bk, ρ) S := id rfl
theorem flow_ct {ρ : Rho} {S : Store} {f : Rho → Store → R (Fl × Rho)} : flowR (.ok (.ct, ρ) S) f = .ok (.ct, ρ) S := id rfl
theorem flow_exc {e : Ex} {S : Store} {f : Rho → Store → R (Fl × Rho)} : flowR (.exc e S) f = .exc e S := id rfl
def endR (r : R (Fl × Rho)) : R D := match r with
  | .ok (.nx, _) S => .ok .non S
  | .ok (.rt d, _) S => .ok d S
  | .ok _ _ => .err
  | .exc e s => .exc e s
  | .err => .err
theorem end_nx {ρ : Rho} {S : Store} : endR (.ok (.nx, ρ) S) = .ok .non S := id rfl
theorem end_rt {ρ : Rho} {S : Store} {d : D} : endR (.ok (.rt d, ρ) S) = .ok d S := id rfl
theorem end_exc {e : Ex} {S : Store} : endR (.exc e S) = .exc e S := id rfl
/-- branches -/
def andR (x : D) (f : R D) (S : Store) : R D := match x with
  | .bl true => f
  | .bl false => .ok (.bl false) S
  | _ => .err
def orR (x : D) (f : R D) (S : Store) : R D := match x with
  | .bl true => .ok (.bl true) S
  | .bl false => f
  | _ => .err
theorem andR_ite {k : Bool} {f : R D} {S : Store} : andR (.bl k) f S = if k = true then f else .ok (.bl false) S := by cases k <;> rfl
theorem orR_ite {k : Bool} {f : R D} {S : Store} : orR (.bl k) f S = if k = true then .ok (.bl true) S else f := by cases k <;> rfl
section
variable {cf : Nat → List D → M D} {w : Nat} {ρ : Rho} {S : Store} {a b c d i : E} {es ks vs : Es}
theorem e_var {i : Nat} : ev cf (.var i) ρ S = getV ρ i S := by simp only [ev]
theorem g_0 {o : D} {r : Rho} : getV (some o :: r) 0 S = .ok o S := id rfl
theorem g_s {o : Option D} {r : Rho} {i : Nat} : getV (o :: r) (i + 1) S = getV r i S := id rfl
theorem e_cst {d : D} : ev cf (.cst d) ρ S = .ok d S := by simp only [ev, M.ret]
theorem e_bin {o : Bop} : ev cf (.bin o a b) ρ S = (ev cf a ρ S).bnd fun x S1 => (ev cf b ρ S1).bnd fun y S2 => mapR (bop o x y S2) S2 := by simp only [ev, qBindF, qOptF]
theorem e_neg : ev cf (.neg a) ρ S = (ev cf a ρ S).bnd fun x S1 => negK x S1 := by simp only [ev, qBindF]
theorem e_not : ev cf (.not a) ρ S = (ev cf a ρ S).bnd fun x S1 => (truthM x S1).bnd fun k S2 => .ok (.bl (!k)) S2 := by simp only [ev, qBindF, qRetF]
theorem e_cmp {o : Cop} : ev cf (.cmp o a b) ρ S = (ev cf a ρ S).bnd fun x S1 => (ev cf b ρ S1).bnd fun y S2 => mapR ((cop o x y S2).map .bl) S2 := by simp only [ev, qBindF, qOptF, qRetF, mapR_bnd]
theorem e_chain {o o' : Cop} : ev cf (.chain o o' a b d) ρ S = (ev cf a ρ S).bnd fun x S1 => (ev cf b ρ S1).bnd fun y S2 => (mapR (cop o x y S2) S2).bnd fun k S3 => if k = true then (ev cf d ρ S3).bnd (fun z S4 => mapR ((cop o' y z S4).map .bl) S4) else .ok (.bl false) S3 := by 
  simp only [ev, qBindF, qOptF, qRetF]
  refine congrArg _ (funext fun x => funext fun S1 => congrArg _ (funext fun y => funext fun S2 => congrArg _ (funext fun k => funext fun S3 => ?_)))
  cases k with
  | true => simp only [if_true, qBindF, qOptF, qRetF, mapR_bnd]
  | false => rfl
theorem e_and : ev cf (.and a b) ρ S = (ev cf a ρ S).bnd fun x S1 => andR x (ev cf b ρ S1) S1 := by 
  simp only [ev, qBindF]
  refine congrArg _ (funext fun x => funext fun S1 => ?_)
  cases x <;> first | rfl | (rename_i k; cases k <;> rfl)
theorem e_or : ev cf (.or a b) ρ S = (ev cf a ρ S).bnd fun x S1 => orR x (ev cf b ρ S1) S1 := by 
  simp only [ev, qBindF]
  refine congrArg _ (funext fun x => funext fun S1 => ?_)
  cases x <;> first | rfl | (rename_i k; cases k <;> rfl)
theorem e_ite : ev cf (.ite c a b) ρ S = (ev cf c ρ S).bnd fun x S1 => (truthM x S1).bnd fun k S2 => if k = true then ev cf a ρ S2 else ev cf b ρ S2 := by 
  simp only [ev, qBindF]
  refine congrArg _ (funext fun x => funext fun S1 => congrArg _ (funext fun k => funext fun S2 => ?_))
  cases k <;> rfl
theorem e_tup : ev cf (.tup es) ρ S = (evs cf es ρ S).bnd fun xs S1 => .ok (.tup xs) S1 := by simp only [ev, qBindF, qRetF]
theorem e_lst : ev cf (.lst es) ρ S = (evs cf es ρ S).bnd fun xs S1 => .ok (.lst xs) S1 := by simp only [ev, qBindF, qRetF]
theorem e_lstM : ev cf (.lstM es) ρ S = (evs cf es ρ S).bnd fun xs S1 => .ok (.ref S1.length) (S1 ++ [.lst xs]) := by simp only [ev, qBindF]; rfl
theorem e_lstS : ev cf (.lstS es) ρ S = (evs cf es ρ S).bnd fun xs S1 => if xs.length ≤ line then .ok (.lst xs) S1 else .err := by 
  simp only [ev, qBindF]
  refine congrArg _ (funext fun x => funext fun S1 => ?_)
  split <;> rfl
theorem e_dct : ev cf (.dct ks vs) ρ S = (evs cf ks ρ S).bnd fun x S1 => (evs cf vs ρ S1).bnd fun y S2 => .ok (.dct x y) S2 := by simp only [ev, qBindF, qRetF]
theorem e_idx : ev cf (.idx a b) ρ S = (ev cf a ρ S).bnd fun x S1 => (ev cf b ρ S1).bnd fun y S2 => mapR (idxD S2 x y) S2 := by simp only [ev, qBindF, qOptF]
theorem e_slc {lo hi : Eo} : ev cf (.slc a lo hi) ρ S = (ev cf a ρ S).bnd fun x S1 => (evo cf lo ρ S1).bnd fun l S2 => (evo cf hi ρ S2).bnd fun h S3 => mapR (slcD S3 x l h) S3 := by simp only [ev, qBindF, qOptF]
theorem e_rev : ev cf (.rev a) ρ S = (ev cf a ρ S).bnd fun x S1 => mapR (revD S1 x) S1 := by simp only [ev, qBindF, qOptF]
theorem e_isi {t : Ty} : ev cf (.isi a t) ρ S = (ev cf a ρ S).bnd fun x S1 => mapR ((isiD S1 t x).map .bl) S1 := by simp only [ev, qBindF, qOptF, qRetF, mapR_bnd]
theorem e_blt {o : Blt} : ev cf (.blt o es) ρ S = (evs cf es ρ S).bnd fun xs S1 => blt o xs S1 := by simp only [ev, qBindF]
theorem e_call {f : Nat} : ev cf (.call f es) ρ S = (evs cf es ρ S).bnd fun xs S1 => cf f xs S1 := by simp only [ev, qBindF]
theorem e_lc {tg : Tg} {it : It} {own : List Nat} : ev cf (.lc a tg it es own) ρ S = (evi cf it ρ S).bnd fun xs S1 => lcM cf a tg es own ρ xs S1 := by simp only [ev]; rw [qBind]; rfl
theorem l_nil : evs cf .nil ρ S = .ok [] S := by simp only [evs, M.ret]
theorem l_cons : evs cf (.cons a es) ρ S = (ev cf a ρ S).bnd fun x S1 => (evs cf es ρ S1).bnd fun xs S2 => .ok (x :: xs) S2 := by simp only [evs, qBindF, qRetF]
theorem l_star : evs cf (.star a es) ρ S = (ev cf a ρ S).bnd fun x S1 => (starK x S1).bnd fun ys S2 => (evs cf es ρ S2).bnd fun xs S3 => .ok (ys ++ xs) S3 := by simp only [evs, qBindF, qRetF]
theorem t_nil : evts cf .nil ρ S = .ok true S := by simp only [evts, M.ret]
theorem t_cons : evts cf (.cons a es) ρ S = (ev cf a ρ S).bnd fun x S1 => (truthM x S1).bnd fun k S2 => if k = true then evts cf es ρ S2 else .ok false S2 := by 
  simp only [evts, qBindF]
  refine congrArg _ (funext fun x => funext fun S1 => congrArg _ (funext fun k => funext fun S2 => ?_))
  cases k <;> rfl
theorem o_no : evo cf .no ρ S = .ok none S := by simp only [evo, M.ret]
theorem o_so : evo cf (.so a) ρ S = (ev cf a ρ S).bnd fun x S1 => intK x S1 := by simp only [evo, qBindF]
theorem i_seq : evi cf (.seq a) ρ S = (ev cf a ρ S).bnd fun x S1 => seqK x S1 := by simp only [evi, qBindF]
theorem i_rng1 : evi cf (.rng1 a) ρ S = (ev cf a ρ S).bnd fun x S1 => rngK x S1 := by simp only [evi, qBindF]
theorem i_rng2 : evi cf (.rng2 a b) ρ S = (ev cf a ρ S).bnd fun x S1 => (ev cf b ρ S1).bnd fun y S2 => rng2K x y S2 := by simp only [evi, qBindF]
theorem i_zip : evi cf (.zip a b) ρ S = (ev cf a ρ S).bnd fun x S1 => (ev cf b ρ S1).bnd fun y S2 => zipK x y S2 := by simp only [evi, qBindF]
theorem i_enum : evi cf (.enum a) ρ S = (ev cf a ρ S).bnd fun x S1 => enumK x S1 := by simp only [evi, qBindF]
/-! small parts -/
theorem k_neg {n : Int} : negK (.int n) S = .ok (.int (-n)) S := id rfl
theorem k_int {n : Int} : intK (.int n) S = .ok (some n) S := id rfl
theorem k_seqT {xs : List D} : seqK (.tup xs) S = .ok xs S := id rfl
theorem k_seqL {xs : List D} : seqK (.lst xs) S = .ok xs S := id rfl
theorem k_seqF {xs : List D} : seqK (.frz xs) S = .ok xs S := id rfl
theorem k_starT {xs : List D} : starK (.tup xs) S = .ok xs S := id rfl
theorem k_starL {xs : List D} : starK (.lst xs) S = .ok xs S := id rfl
theorem k_zipT {xs ys : List D} : zipK (.tup xs) (.tup ys) S = .ok (pairs xs ys) S := id rfl
theorem k_zipL {xs ys : List D} : zipK (.lst xs) (.lst ys) S = .ok (pairs xs ys) S := id rfl
theorem k_enum {xs : List D} : enumK (.lst xs) S = .ok (numbered 0 xs) S := id rfl
theorem k_rng {n : Nat} (h : n ≤ line) : rngK (.int (n : Int)) S = .ok ((List.range n).map fun (i : Nat) => .int (i : Int)) S := by
  unfold rngK
  have h1 : small62 (n : Int) = true := by unfold small62; simp; have : line = 2 ^ 24 := rfl; omega
  simp only [h1, Int.toNat_natCast, Bool.true_and, decide_eq_true h, if_true, range_0]
  rfl
theorem k_rng2 {a b : Nat} (h : a ≤ line) (h2 : b ≤ line) : rng2K (.int (a : Int)) (.int (b : Int)) S = .ok ((List.range (b - a)).map fun (i : Nat) => .int ((a + i : Nat) : Int)) S := by
  unfold rng2K
  have h1 : small62 (a : Int) = true := by unfold small62; simp; have : line = 2 ^ 24 := rfl; omega
  have h3 : small62 (b : Int) = true := by unfold small62; simp; have : line = 2 ^ 24 := rfl; omega
  have h4 : ((b : Int) - a).toNat = b - a := by omega
  simp only [h1, h3, h4, Bool.true_and]
  rw [if_pos (decide_eq_true (by omega))]
  unfold range
  rw [h4]
  simp only [Int.natCast_add]
  rfl
theorem tr_bl {k : Bool} : truthM (.bl k) S = .ok k S := id rfl
theorem tr_int {n : Int} : truthM (.int n) S = .ok (n != 0) S := id rfl
theorem tr_tup {xs : List D} : truthM (.tup xs) S = .ok (!xs.isEmpty) S := id rfl
theorem tr_lst {xs : List D} : truthM (.lst xs) S = .ok (!xs.isEmpty) S := id rfl
theorem b_lenT {xs : List D} : lenF S [.tup xs] = some (.int xs.length) := id rfl
theorem b_lenL {xs : List D} : lenF S [.lst xs] = some (.int xs.length) := id rfl
theorem b_lenF {xs : List D} : lenF S [.frz xs] = some (.int xs.length) := id rfl
theorem b_tupT {xs : List D} : tupleF S [.tup xs] = some (.tup xs) := id rfl
theorem b_tupL {xs : List D} : tupleF S [.lst xs] = some (.tup xs) := id rfl
theorem b_lstT {xs : List D} : listF S [.tup xs] = some (.lst xs) := id rfl
theorem b_lstL {xs : List D} : listF S [.lst xs] = some (.lst xs) := id rfl
theorem b_allL {xs : List D} : allF S [.lst xs] = (boolsD xs).map fun bs => .bl (bs.all id) := id rfl
theorem b_anyL {xs : List D} : anyF S [.lst xs] = (boolsD xs).map fun bs => .bl (bs.any id) := id rfl
theorem b_sumL {xs : List D} : sumF S [.lst xs] = (intsD xs).map fun bs => .int bs.sum := id rfl
theorem b_abs {n : Int} : absF S [.int n] = some (.int (if n < 0 then -n else n)) := id rfl
theorem b_max {m n : Int} : maxF S [.int m, .int n] = some (.int (if n > m then n else m)) := id rfl
theorem b_min {m n : Int} : minF S [.int m, .int n] = some (.int (if n < m then n else m)) := id rfl
theorem b_intI {m : Int} : intF S [.int m] = some (.int m) := id rfl
theorem b_intB {m : Bool} : intF S [.bl m] = some (.int (if m then 1 else 0)) := id rfl
theorem q_ii {m n : Int} : eqD S (.int m) (.int n) = some (decide (m = n)) := id rfl
theorem q_ss {m n : Str} : eqD S (.str m) (.str n) = some (decide (m = n)) := id rfl
/-! statements -/
variable {s : Sm} {r ia ib : Sms}
theorem s_nil : execs cf w .nil ρ S = .ok (.nx, ρ) S := by simp only [execs, M.ret]
theorem s_cons : execs cf w (.cons s r) ρ S = flowR (exec cf w s ρ S) fun ρ' S1 => execs cf w r ρ' S1 := by
  simp only [execs, qBind]
  cases exec cf w s ρ S with
  | ok x S1 => obtain ⟨f, ρ'⟩ := x; cases f <;> rfl
  | _ => rfl
theorem x_expr : exec cf w (.expr a) ρ S = (ev cf a ρ S).bnd fun _ S1 => .ok (.nx, ρ) S1 := by simp only [exec, qBindF, qRetF]
theorem x_set {i : Nat} : exec cf w (.set i a) ρ S = (ev cf a ρ S).bnd fun x S1 => .ok (.nx, ρ.set i (some x)) S1 := by simp only [exec, qBindF, qRetF]
theorem x_setT {is : List Nat} : exec cf w (.setT is a) ρ S = (ev cf a ρ S).bnd fun x S1 => unpK ρ is x S1 := by simp only [exec, qBindF]
theorem x_par {is : List Nat} : exec cf w (.par is es) ρ S = (evs cf es ρ S).bnd fun xs S1 => parK ρ is xs S1 := by simp only [exec, qBindF]
theorem x_setI : exec cf w (.setI a b c) ρ S = (ev cf c ρ S).bnd fun v S1 => (ev cf a ρ S1).bnd fun x S2 => (ev cf b ρ S2).bnd fun k S3 => setIK ρ v x k S3 := by simp only [exec, qBindF]
theorem x_aug {i : Nat} {o : Bop} : exec cf w (.aug i o a) ρ S = (getV ρ i S).bnd fun x S1 => (ev cf a ρ S1).bnd fun y S2 => augK ρ i o x y S2 := by simp only [exec, qBindF]
theorem x_cond : exec cf w (.cond a ia ib) ρ S = (ev cf a ρ S).bnd fun x S1 => (truthM x S1).bnd fun k S2 => if k = true then execs cf w ia ρ S2 else execs cf w ib ρ S2 := by 
  simp only [exec, evT, qBind]
  cases ev cf a ρ S with
  | ok x S1 =>
    simp only [bnd_ok]
    refine congrArg _ (funext fun k => funext fun S2 => ?_)
    cases k <;> rfl
  | _ => rfl
theorem x_loop {tg : Tg} {it : It} : exec cf w (.loop tg it ia) ρ S = (evi cf it ρ S).bnd fun xs S1 => loopM cf w tg ia xs ρ S1 := by simp only [exec, qBind]; rfl
theorem x_while : exec cf w (.while a ia) ρ S = whileM cf w a ia w ρ S := by simp only [exec]; rfl
theorem x_ret : exec cf w (.ret a) ρ S = (ev cf a ρ S).bnd fun x S1 => .ok (.rt x, ρ) S1 := by simp only [exec, qBindF, qRetF]
theorem x_retN : exec cf w .retN ρ S = .ok (.rt .non, ρ) S := by simp only [exec, M.ret]
theorem x_pass : exec cf w .pass ρ S = .ok (.nx, ρ) S := by simp only [exec, M.ret]
theorem x_brk : exec cf w .brk ρ S = .ok (.bk, ρ) S := by simp only [exec, M.ret]
theorem x_cont : exec cf w .cont ρ S = .ok (.ct, ρ) S := by simp only [exec, M.ret]
theorem x_run {fn : Fn} {args : List D} : runBody cf w fn args S = endR (execs cf w fn.body (args.map some ++ List.replicate (fn.slots - args.length) none) S) := by
  simp only [runBody, qBind]
  cases execs cf w fn.body (args.map some ++ List.replicate (fn.slots - args.length) none) S with
  | ok x S1 => obtain ⟨f, ρ'⟩ := x; cases f <;> rfl
  | _ => rfl
/-! comprehensions -/
theorem bnd_congr {α β : Type} {r r' : R α} {f : α → Store → R β} (h : r = r') : r.bnd f = r'.bnd f := by rw [h]
theorem flow_congr {r r' : R (Fl × Rho)} {f : Rho → Store → R (Fl × Rho)} (h : r = r') : flowR r f = flowR r' f := by rw [h]
theorem andR_congr {x x' : D} {f : R D} {S : Store} (h : x = x') : andR x f S = andR x' f S := by rw [h]
theorem orR_congr {x x' : D} {f : R D} {S : Store} (h : x = x') : orR x f S = orR x' f S := by rw [h]

theorem lcM_ok {elt : E} {tg : Tg} {ifs : Es} {own : List Nat} {xs ys : List D} {S' : Store} (h : mapO (lcK ρ tg own (fun ρ' => evts cf ifs ρ') (fun ρ' => ev cf elt ρ')) xs S = .ok ys S') : lcM cf elt tg ifs own ρ xs S = .ok (.lst ys) S' := by
  unfold lcM
  simp only [rBind, rNox, h, rRet]
/-- one turn: no tests -/
theorem turn {α : Type} {elt : E} {tg : Tg} {own : List Nat} {x y : D} {ρ' : Rho} {S' : Store} (h : setTg (wipe ρ own) tg x = some ρ') (e : ev cf elt ρ' S = .ok y S') : lcK ρ tg own (fun ρ' => evts cf .nil ρ') (fun ρ' => ev cf elt ρ') x S = .ok (some y) S' := by
  unfold lcK
  rw [h]
  simp only [rBind, t_nil, if_true, e, rRet]
theorem lcM_map {α : Type} {elt : E} {tg : Tg} {own : List Nat} (g f : α → D) (l : List α) (h : ∀ x ∈ l, ∃ ρ', setTg (wipe ρ own) tg (g x) = some ρ' ∧ ev cf elt ρ' S = .ok (f x) S) : lcM cf elt tg .nil own ρ (l.map g) S = .ok (.lst (l.map f)) S :=
  lcM_ok (mapO_map fun a ha => by obtain ⟨ρ', h1, h2⟩ := h a ha; exact turn (α := Unit) h1 h2)
theorem lcM_id {elt : E} {tg : Tg} {own : List Nat} (f : D → D) (l : List D) (h : ∀ x ∈ l, ∃ ρ', setTg (wipe ρ own) tg x = some ρ' ∧ ev cf elt ρ' S = .ok (f x) S) : lcM cf elt tg .nil own ρ l S = .ok (.lst (l.map f)) S := by
  have := lcM_map (cf := cf) (ρ := ρ) (S := S) id f l h
  rwa [List.map_id] at this
/-- one turn with a test -/
theorem turnT {elt c : E} {tg : Tg} {own : List Nat} {x : D} {k : Bool} {y : D} {ρ' : Rho} (h : setTg (wipe ρ own) tg x = some ρ') (ht : ev cf c ρ' S = .ok (.bl k) S) (e : k = true → ev cf elt ρ' S = .ok y S) : lcK ρ tg own (fun ρ' => evts cf (.cons c .nil) ρ') (fun ρ' => ev cf elt ρ') x S = .ok (if k then some y else none) S := by
  have htt : evts cf (.cons c .nil) ρ' S = .ok k S := by
    rw [t_cons, ht]
    cases k <;> rfl
  unfold lcK
  rw [h]
  cases k with
  | true => simp only [rBind, htt, if_true, e rfl, rRet]
  | false => simp only [rBind, htt, if_false, rRet, Bool.false_eq_true]
theorem lcM_filter {α : Type} {elt c : E} {tg : Tg} {own : List Nat} (g f : α → D) (p : α → Bool) (l : List α) (h : ∀ x ∈ l, ∃ ρ', setTg (wipe ρ own) tg (g x) = some ρ' ∧ ev cf c ρ' S = .ok (.bl (p x)) S ∧ (p x = true → ev cf elt ρ' S = .ok (f x) S)) :
    lcM cf elt tg (.cons c .nil) own ρ (l.map g) S = .ok (.lst ((l.filter p).map f)) S := by
  refine lcM_ok ((mapO_filter (f := fun a => if p a then some (f a) else none) fun a ha => by obtain ⟨ρ', h1, h2, h3⟩ := h a ha; exact turnT h1 h2 h3).trans ?_)
  congr 1
  clear h
  induction l with
  | nil => rfl
  | cons a l ih =>
    simp only [List.filterMap_cons, List.filter_cons]
    cases p a with
    | true => simp only [if_true, List.map_cons, ih]
    | false => simpa using ih
/-! fors -/
theorem loopM_inv {α : Type} {tg : Tg} {b : Sms} (g : α → D) (I : Rho → Store → Prop) (l : List α) (h : ∀ a ∈ l, ∀ ρ S, I ρ S → ∃ ρ' ρ2 S', setTg ρ tg (g a) = some ρ' ∧ execs cf w b ρ' S = .ok (.nx, ρ2) S' ∧ I ρ2 S') (h0 : I ρ S) :
    ∃ ρ' S', loopM cf w tg b (l.map g) ρ S = .ok (.nx, ρ') S' ∧ I ρ' S' :=
  forL_inv (fun a ha ρ S hi => by
    obtain ⟨ρ', ρ2, S', h1, h2, h3⟩ := h a ha ρ S hi
    refine ⟨ρ2, S', ?_, h3⟩
    unfold loopK
    rw [h1]
    exact h2) h0
theorem loopM_fold {α β : Type} {tg : Tg} {b : Sms} (g : α → D) (f : β → α → β) (I : β → Rho → Prop) : ∀ (l : List α) (b0 : β) {ρ : Rho}, (∀ x, ∀ a ∈ l, ∀ ρ, I x ρ → ∃ ρ' ρ2, setTg ρ tg (g a) = some ρ' ∧ execs cf w b ρ' S = .ok (.nx, ρ2) S ∧ I (f x a) ρ2) → I b0 ρ →
    ∃ ρ', loopM cf w tg b (l.map g) ρ S = .ok (.nx, ρ') S ∧ I (l.foldl f b0) ρ'
  | [], b0, ρ, _, h0 => ⟨ρ, rfl, h0⟩
  | a :: l, b0, ρ, h, h0 => by
    obtain ⟨ρ', ρ2, h1, h2, h3⟩ := h b0 a List.mem_cons_self ρ h0
    obtain ⟨ρ3, h4, h5⟩ := loopM_fold g f I l (f b0 a) (fun x c hc => h x c (List.mem_cons_of_mem _ hc)) h3
    refine ⟨ρ3, ?_, h5⟩
    unfold loopM at h4 ⊢
    simp only [List.map_cons, forL, rBind, loopK, h1, h2]
    exact h4
theorem loopM_count {α : Type} {tg : Tg} {b : Sms} (g : α → D) (I : Nat → Rho → Store → Prop) (l : List α) (h : ∀ i a, l[i]? = some a → ∀ ρ S, I i ρ S → ∃ ρ' ρ2 S', setTg ρ tg (g a) = some ρ' ∧ execs cf w b ρ' S = .ok (.nx, ρ2) S' ∧ I (i + 1) ρ2 S') (h0 : I 0 ρ S) :
    ∃ ρ' S', loopM cf w tg b (l.map g) ρ S = .ok (.nx, ρ') S' ∧ I l.length ρ' S' :=
  forL_count (l := l) (n := 0) rfl (fun i a ha ρ S hi => by
    obtain ⟨ρ', ρ2, S', h1, h2, h3⟩ := h i a ha ρ S hi
    refine ⟨ρ2, S', ?_, h3⟩
    unfold loopK
    rw [h1]
    exact h2) h0 (Nat.zero_le _)
/-- a comprehension with a store that changes -/
theorem lcM_inv {α : Type} {elt : E} {tg : Tg} {own : List Nat} (g : α → D) (I : Store → Prop) (P : D → Prop) (l : List α) (h : ∀ a ∈ l, ∀ S, I S → ∃ ρ' y S', setTg (wipe ρ own) tg (g a) = some ρ' ∧ ev cf elt ρ' S = .ok y S' ∧ I S' ∧ P y) (h0 : I S) :
    ∃ ys S', lcM cf elt tg .nil own ρ (l.map g) S = .ok (.lst ys) S' ∧ I S' ∧ ys.length = l.length ∧ ∀ y ∈ ys, P y := by
  obtain ⟨ys, S', e, i, hl, hp⟩ := mapO_inv (step := lcK ρ tg own (fun ρ' => evts cf .nil ρ') (fun ρ' => ev cf elt ρ')) (g := g) (I := I) (P := fun _ y => P y) (l := l) (fun a ha S hi => by
    obtain ⟨ρ', y, S', h1, h2, h3, h4⟩ := h a ha S hi
    exact ⟨y, S', turn (α := Unit) h1 h2, h3, h4⟩) h0
  exact ⟨ys, S', lcM_ok e, i, hl, fun y hy => by obtain ⟨_, _, p⟩ := hp y hy; exact p⟩
theorem dec_eq {α : Type} [DecidableEq α] (a : α) : decide (a = a) = true := decide_eq_true rfl
end
end Ln

namespace K02
open Ln
def b_is_integer : Sms :=
  (.cons (.ret (.and (.isi (.var 0) .int) (.not (.isi (.var 0) .bool))))
  .nil)
def b_is_vector_of : Sms :=
  (.cons (.ret (.and (.isi (.var 1) .tuple) (.and (.cmp .eq (.blt .len (.cons (.var 1) .nil)) (.var 0)) (.blt .all (.cons (.lc (.call 0 (.cons (.var 2) .nil)) (.nm 2) (.seq (.var 1)) .nil [2]) .nil)))))
  .nil)
def b_dot_in : Sms :=
  (.cons (.ret (.blt .sum (.cons (.lc (.bin .mul (.var 2) (.var 3)) (.tp [2, 3]) (.zip (.var 0) (.var 1)) .nil [2, 3]) .nil)))
  .nil)
def b_plus_in : Sms :=
  (.cons (.ret (.blt .tuple (.cons (.lc (.bin .add (.var 2) (.var 3)) (.tp [2, 3]) (.zip (.var 0) (.var 1)) .nil [2, 3]) .nil)))
  .nil)
def b_scaled_in : Sms :=
  (.cons (.ret (.blt .tuple (.cons (.lc (.bin .mul (.var 0) (.var 2)) (.nm 2) (.seq (.var 1)) .nil [2]) .nil)))
  .nil)
def b_require_vectors : Sms :=
  (.cons (.cond (.or (.not (.call 6 (.cons (.var 0) .nil))) (.not (.blt .all (.cons (.lc (.call 1 (.cons (.blt .len (.cons (.var 0) .nil)) (.cons (.var 2) .nil))) (.nm 2) (.seq (.var 1)) .nil [2]) .nil))))
  (.cons .bad
  .nil) .nil)
  .nil)
def b_is_vector : Sms :=
  (.cons (.ret (.and (.isi (.var 0) .tuple) (.and (.chain .le .le (.cst (.int 1)) (.blt .len (.cons (.var 0) .nil)) (.cst (.int 5))) (.call 1 (.cons (.blt .len (.cons (.var 0) .nil)) (.cons (.var 0) .nil))))))
  .nil)
def b_plus : Sms :=
  (.cons (.expr (.call 5 (.cons (.var 0) (.star (.var 1) .nil))))
  (.cons (.set 2 (.var 0))
  (.cons (.loop (.nm 3) (.seq (.var 1))
  (.cons (.set 2 (.call 3 (.cons (.var 2) (.cons (.var 3) .nil))))
  .nil))
  (.cons (.ret (.var 2))
  .nil))))
def b_minus : Sms :=
  (.cons (.expr (.call 5 (.cons (.var 0) (.cons (.var 1) .nil))))
  (.cons (.ret (.blt .tuple (.cons (.lc (.bin .sub (.var 2) (.var 3)) (.tp [2, 3]) (.zip (.var 0) (.var 1)) .nil [2, 3]) .nil)))
  .nil))
def b_times : Sms :=
  (.cons (.cond (.not (.call 0 (.cons (.var 0) .nil)))
  (.cons .bad
  .nil) .nil)
  (.cons (.expr (.call 5 (.cons (.var 1) .nil)))
  (.cons (.ret (.call 4 (.cons (.var 0) (.cons (.var 1) .nil))))
  .nil)))
def b_dot : Sms :=
  (.cons (.expr (.call 5 (.cons (.var 0) (.cons (.var 1) .nil))))
  (.cons (.ret (.call 2 (.cons (.var 0) (.cons (.var 1) .nil))))
  .nil))
def b__law_stream : Sms :=
  (.cons (.set 2 (.bin .add (.bin .mul (.cst (.int 13)) (.var 1)) (.cst (.int 6))))
  (.cons (.cond (.cmp .lt (.var 1) (.blt .len (.cons (.var 0) .nil)))
  (.cons (.set 2 (.idx (.var 0) (.var 1)))
  .nil) .nil)
  (.cons (.set 3 (.bin .mod (.blt .abs (.cons (.var 2) .nil)) (.bin .pow (.bin .pow (.cst (.int 10)) (.cst (.int 60))) (.cst (.int 11)))))
  (.cons (.set 4 (.bin .mod (.bin .add (.bin .add (.bin .add (.bin .mul (.bin .mod (.var 3) (.cst (.int 2147483579))) (.cst (.int 48271))) (.bin .mul (.cst (.int 92821)) (.var 1))) (.bin .mul (.cst (.int 5)) (.blt .int (.cons (.cmp .lt (.var 2) (.cst (.int 0))) .nil)))) (.cst (.int 29))) (.cst (.int 2147483563))))
  (.cons (.ret (.lstM (.cons (.blt .max (.cons (.cst (.int 0)) (.cons (.bin .add (.bin .sub (.var 3) (.bin .pow (.cst (.int 10)) (.cst (.int 18)))) (.cst (.int 1))) .nil))) (.cons (.var 4) (.cons (.cst (.int 0)) .nil)))))
  .nil)))))
def b__law_draw : Sms :=
  (.cons (.cond (.cmp .gt (.idx (.var 0) (.cst (.int 0))) (.cst (.int 0)))
  (.cons (.set 2 (.bin .mod (.idx (.var 0) (.cst (.int 0))) (.var 1)))
  (.cons (.setI (.var 0) (.cst (.int 0)) (.bin .fdiv (.idx (.var 0) (.cst (.int 0))) (.var 1)))
  (.cons (.ret (.var 2))
  .nil))) .nil)
  (.cons (.setI (.var 0) (.cst (.int 2)) (.bin .add (.idx (.var 0) (.cst (.int 2))) (.cst (.int 1))))
  (.cons (.set 3 (.bin .mod (.bin .add (.idx (.var 0) (.cst (.int 1))) (.bin .mul (.cst (.int 1000037)) (.idx (.var 0) (.cst (.int 2))))) (.cst (.int 2305843009213693951))))
  (.cons (.set 4 (.bin .mod (.bin .add (.bin .mul (.bin .mod (.bin .mul (.var 3) (.var 3)) (.cst (.int 2305843009213693921))) (.var 3)) (.bin .mul (.cst (.int 7907)) (.idx (.var 0) (.cst (.int 2))))) (.cst (.int 2305843009213693907))))
  (.cons (.ret (.bin .mod (.bin .fdiv (.var 4) (.cst (.int 4099))) (.var 1)))
  .nil)))))
def b__law_pick : Sms :=
  (.cons (.ret (.idx (.var 1) (.call 12 (.cons (.var 0) (.cons (.blt .len (.cons (.var 1) .nil)) .nil)))))
  .nil)
def b__law_odd : Sms :=
  (.cons (.set 1 (.lst (.cons (.cst .non) (.cons (.cst (.bl true)) (.cons (.cst (.bl false)) (.cons (.neg (.cst (.int 1))) (.cons (.cst (.int 0)) (.cons (.cst (.int 1)) (.cons (.cst (.int 7)) (.cons (.bin .pow (.cst (.int 10)) (.cst (.int 39))) (.cons (.cst (.str "")) (.cons (.cst (.str "a")) (.cons (.cst (.str "b")) (.cons (.cst (.str "A")) (.cons (.tup .nil) (.cons (.lst .nil) (.cons (.dct .nil .nil) (.cons (.tup (.cons (.cst (.int 0)) .nil)) (.cons (.tup (.cons (.cst (.str "a")) .nil)) (.cons (.lst (.cons (.cst (.int 0)) .nil)) (.cons (.tup (.cons (.tup .nil) .nil)) (.cons (.cst (.str "a b")) .nil))))))))))))))))))))))
  (.cons (.ret (.call 13 (.cons (.var 0) (.cons (.var 1) .nil))))
  .nil))
def b__law_bent : Sms :=
  (.cons (.cond (.and (.isi (.var 1) .tuple) (.and (.cmp .ne (.var 1) (.tup .nil)) (.and (.cmp .gt (.var 2) (.cst (.int 0))) (.cmp .gt (.call 12 (.cons (.var 0) (.cons (.cst (.int 4)) .nil))) (.cst (.int 0))))))
  (.cons (.set 3 (.call 12 (.cons (.var 0) (.cons (.blt .len (.cons (.var 1) .nil)) .nil))))
  (.cons (.ret (.bin .add (.bin .add (.slc (.var 1) .no (.so (.var 3))) (.tup (.cons (.call 15 (.cons (.var 0) (.cons (.idx (.var 1) (.var 3)) (.cons (.bin .sub (.var 2) (.cst (.int 1))) .nil)))) .nil))) (.slc (.var 1) (.so (.bin .add (.var 3) (.cst (.int 1)))) .no)))
  .nil)) .nil)
  (.cons (.cond (.isi (.var 1) .tuple)
  (.cons (.set 3 (.call 12 (.cons (.var 0) (.cons (.bin .add (.blt .len (.cons (.var 1) .nil)) (.cst (.int 1))) .nil))))
  (.cons (.set 4 (.lst (.cons (.blt .list (.cons (.var 1) .nil)) (.cons (.bin .add (.slc (.var 1) .no (.so (.var 3))) (.slc (.var 1) (.so (.bin .add (.var 3) (.cst (.int 1)))) .no)) (.cons (.bin .add (.bin .add (.slc (.var 1) .no (.so (.var 3))) (.tup (.cons (.cst (.int 0)) .nil))) (.slc (.var 1) (.so (.var 3)) .no)) (.cons (.rev (.var 1)) .nil))))))
  (.cons (.ret (.call 13 (.cons (.var 0) (.cons (.bin .add (.var 4) (.lst (.cons (.bin .add (.var 1) (.slc (.var 1) (.so (.neg (.cst (.int 1)))) .no)) (.cons (.tup (.cons (.var 1) .nil)) (.cons (.tup .nil) (.cons (.bin .add (.bin .add (.slc (.var 1) .no (.so (.var 3))) (.slc (.var 1) .no (.so (.cst (.int 1))))) (.slc (.var 1) (.so (.var 3)) .no)) .nil)))))) .nil))))
  .nil))) .nil)
  (.cons (.cond (.and (.isi (.var 1) .int) (.not (.isi (.var 1) .bool)))
  (.cons (.ret (.call 13 (.cons (.var 0) (.cons (.lst (.cons (.bin .add (.var 1) (.cst (.int 1))) (.cons (.bin .sub (.var 1) (.cst (.int 1))) (.cons (.bin .sub (.cst (.int 0)) (.var 1)) (.cons (.cmp .eq (.var 1) (.cst (.int 1))) (.cons (.blt .str (.cons (.var 1) .nil)) (.cons (.tup (.cons (.var 1) .nil)) (.cons (.bin .mul (.cst (.int 2)) (.var 1)) .nil)))))))) .nil))))
  .nil) .nil)
  (.cons (.cond (.isi (.var 1) .str)
  (.cons (.ret (.call 13 (.cons (.var 0) (.cons (.lst (.cons (.bin .add (.var 1) (.cst (.str "a"))) (.cons (.slc (.var 1) (.so (.cst (.int 1))) .no) (.cons (.cst (.str "place")) (.cons (.cst (.str "mixture")) (.cons (.cst (.str "a")) (.cons .bad (.cons (.tup (.cons (.var 1) .nil)) (.cons (.cst .non) .nil))))))))) .nil))))
  .nil) .nil)
  (.cons (.ret (.call 14 (.cons (.var 0) .nil)))
  .nil)))))
def b__law_number : Sms :=
  (.cons (.set 1 (.lst (.cons (.bin .sub (.call 12 (.cons (.var 0) (.cons (.cst (.int 9)) .nil))) (.cst (.int 4))) (.cons (.bin .sub (.call 12 (.cons (.var 0) (.cons (.cst (.int 9)) .nil))) (.cst (.int 4))) (.cons (.bin .add (.bin .pow (.cst (.int 10)) (.cst (.int 38))) (.call 12 (.cons (.var 0) (.cons (.cst (.int 99)) .nil)))) (.cons (.bin .sub (.cst (.int 1)) (.bin .pow (.cst (.int 10)) (.cst (.int 39)))) .nil))))))
  (.cons (.ret (.call 13 (.cons (.var 0) (.cons (.var 1) .nil))))
  .nil))
def b__law_vector : Sms :=
  (.cons (.ret (.blt .tuple (.cons (.lc (.call 16 (.cons (.var 0) .nil)) (.nm 2) (.rng1 (.var 1)) .nil [2]) .nil)))
  .nil)
def b__law_is_vector : Sms :=
  (.cons (.cond (.or (.not (.isi (.var 0) .tuple)) (.not (.chain .le .le (.cst (.int 1)) (.blt .len (.cons (.var 0) .nil)) (.cst (.int 5)))))
  (.cons (.ret (.cst (.bl false)))
  .nil) .nil)
  (.cons (.ret (.cmp .eq (.lc (.cst (.int 1)) (.nm 1) (.seq (.var 0)) (.cons (.or (.not (.isi (.var 1) .int)) (.isi (.var 1) .bool)) .nil) [1]) (.lst .nil)))
  .nil))
def b__law_sums_right : Sms :=
  (.cons (.setT [4, 5] (.tup (.cons (.blt .len (.cons (.var 1) .nil)) (.cons (.call 16 (.cons (.var 0) .nil)) .nil))))
  (.cons (.set 7 (.blt .tuple (.cons (.lc (.bin .add (.bin .add (.idx (.var 1) (.var 6)) (.idx (.var 2) (.var 6))) (.idx (.var 3) (.var 6))) (.nm 6) (.rng1 (.var 4)) .nil [6]) .nil)))
  (.cons (.cond (.or (.cmp .ne (.blt .repr (.cons (.call 7 (.cons (.var 1) (.cons (.var 2) (.cons (.var 3) .nil)))) .nil)) (.blt .repr (.cons (.var 7) .nil))) (.cmp .ne (.blt .repr (.cons (.call 7 (.cons (.var 1) .nil)) .nil)) (.blt .repr (.cons (.var 1) .nil))))
  (.cons (.ret (.cst (.bl false)))
  .nil) .nil)
  (.cons (.cond (.cmp .ne (.blt .repr (.cons (.call 8 (.cons (.var 1) (.cons (.var 2) .nil))) .nil)) (.blt .repr (.cons (.blt .tuple (.cons (.lc (.bin .sub (.idx (.var 1) (.var 6)) (.idx (.var 2) (.var 6))) (.nm 6) (.rng1 (.var 4)) .nil [6]) .nil)) .nil)))
  (.cons (.ret (.cst (.bl false)))
  .nil) .nil)
  (.cons (.cond (.cmp .ne (.blt .repr (.cons (.call 9 (.cons (.var 5) (.cons (.var 1) .nil))) .nil)) (.blt .repr (.cons (.blt .tuple (.cons (.lc (.bin .mul (.var 5) (.var 10)) (.nm 10) (.seq (.var 1)) .nil [10]) .nil)) .nil)))
  (.cons (.ret (.cst (.bl false)))
  .nil) .nil)
  (.cons (.set 8 (.cst (.int 0)))
  (.cons (.loop (.nm 6) (.rng1 (.var 4))
  (.cons (.set 8 (.bin .add (.var 8) (.bin .mul (.idx (.var 1) (.var 6)) (.idx (.var 2) (.var 6)))))
  .nil))
  (.cons (.cond (.or (.cmp .ne (.blt .repr (.cons (.call 10 (.cons (.var 1) (.cons (.var 2) .nil))) .nil)) (.blt .repr (.cons (.var 8) .nil))) (.cmp .ne (.call 7 (.cons (.call 8 (.cons (.var 1) (.cons (.var 2) .nil))) (.cons (.var 2) .nil))) (.var 1)))
  (.cons (.ret (.cst (.bl false)))
  .nil) .nil)
  (.cons (.set 9 (.bin .sub (.call 12 (.cons (.var 0) (.cons (.cst (.int 9)) .nil))) (.cst (.int 4))))
  (.cons (.cond (.cmp .ne (.call 10 (.cons (.call 9 (.cons (.var 9) (.cons (.var 1) .nil))) (.cons (.call 7 (.cons (.var 2) (.cons (.var 3) .nil))) .nil))) (.bin .mul (.var 9) (.bin .add (.call 10 (.cons (.var 1) (.cons (.var 2) .nil))) (.call 10 (.cons (.var 1) (.cons (.var 3) .nil))))))
  (.cons (.ret (.cst (.bl false)))
  .nil) .nil)
  (.cons (.ret (.and (.cmp .eq (.call 9 (.cons (.cst (.int 0)) (.cons (.var 1) .nil))) (.bin .mul (.tup (.cons (.cst (.int 0)) .nil)) (.var 4))) (.cmp .eq (.call 7 (.cons (.var 1) (.cons (.var 1) (.cons (.var 1) (.cons (.var 1) .nil))))) (.call 9 (.cons (.cst (.int 4)) (.cons (.var 1) .nil))))))
  .nil)))))))))))
def b_law : Sms :=
  (.cons (.loop (.nm 1) (.rng1 (.blt .max (.cons (.cst (.int 1)) (.cons (.blt .min (.cons (.cst (.int 8)) (.cons (.blt .len (.cons (.var 0) .nil)) .nil))) .nil))))
  (.cons (.set 2 (.call 11 (.cons (.var 0) (.cons (.var 1) .nil))))
  (.cons (.set 3 (.bin .add (.cst (.int 1)) (.call 12 (.cons (.var 2) (.cons (.cst (.int 5)) .nil)))))
  (.cons (.setT [5, 6, 7] (.lc (.call 17 (.cons (.var 2) (.cons (.var 3) .nil))) (.nm 4) (.rng1 (.cst (.int 3))) .nil [4]))
  (.cons (.set 8 (.blt .repr (.cons (.lst (.cons (.var 5) (.cons (.var 6) (.cons (.var 7) .nil)))) .nil)))
  (.cons (.cond (.or (.not (.call 19 (.cons (.var 2) (.cons (.var 5) (.cons (.var 6) (.cons (.var 7) .nil)))))) (.cmp .ne (.blt .repr (.cons (.lst (.cons (.var 5) (.cons (.var 6) (.cons (.var 7) .nil)))) .nil)) (.var 8)))
  (.cons (.ret (.cst (.bl false)))
  .nil) .nil)
  (.cons (.set 9 (.lst (.cons (.var 5) (.cons (.blt .list (.cons (.var 5) .nil)) (.cons (.bin .add (.var 5) (.bin .mul (.tup (.cons (.cst (.int 0)) .nil)) (.cst (.int 5)))) (.cons (.tup .nil) (.cons (.tup (.cons (.var 5) .nil)) (.cons (.bin .add (.var 5) (.tup (.cons (.cst (.bl true)) .nil))) (.cons (.tup (.cons (.cst (.str "1")) .nil)) (.cons (.cst .non) (.cons (.cst (.int 3)) (.cons (.tup (.cons (.cst (.int 0)) (.cons (.cst (.bl false)) .nil))) (.cons (.tup (.cons (.cst .non) .nil)) (.cons (.dct .nil .nil) .nil))))))))))))))
  (.cons (.loop (.nm 4) (.rng1 (.cst (.int 8)))
  (.cons (.set 9 (.bin .add (.var 9) (.lst (.cons (.call 15 (.cons (.var 2) (.cons (.var 5) (.cons (.cst (.int 2)) .nil)))) (.cons (.call 14 (.cons (.var 2) .nil)) .nil)))))
  .nil))
  (.cons (.cond (.cmp .ne (.lc (.var 11) (.nm 11) (.seq (.var 9)) (.cons (.cmp .ne (.blt .repr (.cons (.call 6 (.cons (.var 11) .nil)) .nil)) (.blt .repr (.cons (.call 18 (.cons (.var 11) .nil)) .nil))) .nil) [11]) (.lst .nil))
  (.cons (.ret (.cst (.bl false)))
  .nil) .nil)
  .nil)))))))))
  (.cons (.set 10 (.lst (.cons (.call 7 (.cons (.tup (.cons (.cst (.int 1)) (.cons (.cst (.int 0)) (.cons (.cst (.int 2)) .nil)))) (.cons (.tup (.cons (.cst (.int 0)) (.cons (.neg (.cst (.int 1))) (.cons (.cst (.int 1)) .nil)))) .nil))) (.cons (.call 10 (.cons (.tup (.cons (.cst (.int 1)) (.cons (.cst (.int 2)) (.cons (.cst (.int 3)) .nil)))) (.cons (.tup (.cons (.cst (.int 1)) (.cons (.cst (.int 0)) (.cons (.neg (.cst (.int 1))) .nil)))) .nil))) (.cons (.call 9 (.cons (.cst (.int 3)) (.cons (.tup (.cons (.cst (.int 1)) (.cons (.neg (.cst (.int 2))) .nil))) .nil))) (.cons (.call 8 (.cons (.tup (.cons (.cst (.int 0)) .nil)) (.cons (.tup (.cons (.cst (.int 5)) .nil)) .nil))) .nil))))))
  (.cons (.ret (.and (.cmp .eq (.var 10) (.lst (.cons (.tup (.cons (.cst (.int 1)) (.cons (.neg (.cst (.int 1))) (.cons (.cst (.int 3)) .nil)))) (.cons (.neg (.cst (.int 2))) (.cons (.tup (.cons (.cst (.int 3)) (.cons (.neg (.cst (.int 6))) .nil))) (.cons (.tup (.cons (.neg (.cst (.int 5))) .nil)) .nil)))))) (.and (.cmp .is (.call 6 (.cons (.bin .mul (.tup (.cons (.cst (.int 0)) .nil)) (.cst (.int 5))) .nil)) (.cst (.bl true))) (.cmp .is (.call 6 (.cons (.bin .mul (.tup (.cons (.cst (.int 0)) .nil)) (.cst (.int 6))) .nil)) (.cst (.bl false))))))
  .nil)))
def prog : List Fn := [
  ⟨1, false, 1, b_is_integer⟩,
  ⟨2, false, 3, b_is_vector_of⟩,
  ⟨2, false, 4, b_dot_in⟩,
  ⟨2, false, 4, b_plus_in⟩,
  ⟨2, false, 3, b_scaled_in⟩,
  ⟨1, true, 3, b_require_vectors⟩,
  ⟨1, false, 1, b_is_vector⟩,
  ⟨1, true, 4, b_plus⟩,
  ⟨2, false, 4, b_minus⟩,
  ⟨2, false, 2, b_times⟩,
  ⟨2, false, 2, b_dot⟩,
  ⟨2, false, 5, b__law_stream⟩,
  ⟨2, false, 5, b__law_draw⟩,
  ⟨2, false, 2, b__law_pick⟩,
  ⟨1, false, 2, b__law_odd⟩,
  ⟨3, false, 5, b__law_bent⟩,
  ⟨1, false, 2, b__law_number⟩,
  ⟨2, false, 3, b__law_vector⟩,
  ⟨1, false, 2, b__law_is_vector⟩,
  ⟨4, false, 11, b__law_sums_right⟩,
  ⟨1, false, 12, b_law⟩]
section
variable {w k : Nat} {S : Store}
theorem u_is_integer {x0 : D} : callI prog w (k + 1) 0 [x0] S = runBody (callI prog w k) w ⟨1, false, 1, b_is_integer⟩ [x0] S := callI_s rfl rfl
theorem u_is_vector_of {x0 x1 : D} : callI prog w (k + 1) 1 [x0, x1] S = runBody (callI prog w k) w ⟨2, false, 3, b_is_vector_of⟩ [x0, x1] S := callI_s rfl rfl
theorem u_dot_in {x0 x1 : D} : callI prog w (k + 1) 2 [x0, x1] S = runBody (callI prog w k) w ⟨2, false, 4, b_dot_in⟩ [x0, x1] S := callI_s rfl rfl
theorem u_plus_in {x0 x1 : D} : callI prog w (k + 1) 3 [x0, x1] S = runBody (callI prog w k) w ⟨2, false, 4, b_plus_in⟩ [x0, x1] S := callI_s rfl rfl
theorem u_scaled_in {x0 x1 : D} : callI prog w (k + 1) 4 [x0, x1] S = runBody (callI prog w k) w ⟨2, false, 3, b_scaled_in⟩ [x0, x1] S := callI_s rfl rfl
theorem u_require_vectors {x0 : D} {r : List D} (h : r.length + 1 ≤ line) : callI prog w (k + 1) 5 (x0 :: r) S = runBody (callI prog w k) w ⟨1, true, 3, b_require_vectors⟩ ([x0, .tup r]) S := callI_s rfl (bindA_star rfl ⟨Nat.le_add_left _ _, h⟩)
theorem u_is_vector {x0 : D} : callI prog w (k + 1) 6 [x0] S = runBody (callI prog w k) w ⟨1, false, 1, b_is_vector⟩ [x0] S := callI_s rfl rfl
theorem u_plus {x0 : D} {r : List D} (h : r.length + 1 ≤ line) : callI prog w (k + 1) 7 (x0 :: r) S = runBody (callI prog w k) w ⟨1, true, 4, b_plus⟩ ([x0, .tup r]) S := callI_s rfl (bindA_star rfl ⟨Nat.le_add_left _ _, h⟩)
theorem u_minus {x0 x1 : D} : callI prog w (k + 1) 8 [x0, x1] S = runBody (callI prog w k) w ⟨2, false, 4, b_minus⟩ [x0, x1] S := callI_s rfl rfl
theorem u_times {x0 x1 : D} : callI prog w (k + 1) 9 [x0, x1] S = runBody (callI prog w k) w ⟨2, false, 2, b_times⟩ [x0, x1] S := callI_s rfl rfl
theorem u_dot {x0 x1 : D} : callI prog w (k + 1) 10 [x0, x1] S = runBody (callI prog w k) w ⟨2, false, 2, b_dot⟩ [x0, x1] S := callI_s rfl rfl
theorem u__law_stream {x0 x1 : D} : callI prog w (k + 1) 11 [x0, x1] S = runBody (callI prog w k) w ⟨2, false, 5, b__law_stream⟩ [x0, x1] S := callI_s rfl rfl
theorem u__law_draw {x0 x1 : D} : callI prog w (k + 1) 12 [x0, x1] S = runBody (callI prog w k) w ⟨2, false, 5, b__law_draw⟩ [x0, x1] S := callI_s rfl rfl
theorem u__law_pick {x0 x1 : D} : callI prog w (k + 1) 13 [x0, x1] S = runBody (callI prog w k) w ⟨2, false, 2, b__law_pick⟩ [x0, x1] S := callI_s rfl rfl
theorem u__law_odd {x0 : D} : callI prog w (k + 1) 14 [x0] S = runBody (callI prog w k) w ⟨1, false, 2, b__law_odd⟩ [x0] S := callI_s rfl rfl
theorem u__law_bent {x0 x1 x2 : D} : callI prog w (k + 1) 15 [x0, x1, x2] S = runBody (callI prog w k) w ⟨3, false, 5, b__law_bent⟩ [x0, x1, x2] S := callI_s rfl rfl
theorem u__law_number {x0 : D} : callI prog w (k + 1) 16 [x0] S = runBody (callI prog w k) w ⟨1, false, 2, b__law_number⟩ [x0] S := callI_s rfl rfl
theorem u__law_vector {x0 x1 : D} : callI prog w (k + 1) 17 [x0, x1] S = runBody (callI prog w k) w ⟨2, false, 3, b__law_vector⟩ [x0, x1] S := callI_s rfl rfl
theorem u__law_is_vector {x0 : D} : callI prog w (k + 1) 18 [x0] S = runBody (callI prog w k) w ⟨1, false, 2, b__law_is_vector⟩ [x0] S := callI_s rfl rfl
theorem u__law_sums_right {x0 x1 x2 x3 : D} : callI prog w (k + 1) 19 [x0, x1, x2, x3] S = runBody (callI prog w k) w ⟨4, false, 11, b__law_sums_right⟩ [x0, x1, x2, x3] S := callI_s rfl rfl
theorem u_law {x0 : D} : callI prog w (k + 1) 20 [x0] S = runBody (callI prog w k) w ⟨1, false, 12, b_law⟩ [x0] S := callI_s rfl rfl
end
end K02

set_option linter.all false
set_option maxRecDepth 10000
namespace K02
open Ln
open PySem (PyData)
abbrev iv (xs : List Int) : D := .tup (xs.map D.int)
def plain : D → Bool
  | .ref _ => false
  | _ => true
def isI : D → Bool
  | .int _ => true
  | _ => false
def okd : D → Bool
  | .ref _ => false
  | .tup xs => xs.all plain
  | _ => true
def isV (size : Int) : D → Bool
  | .tup xs => decide ((xs.length : Int) = size) && xs.all isI
  | _ => false
def vec : D → Bool
  | .tup xs => decide (1 ≤ xs.length) && decide (xs.length ≤ 5) && xs.all isI
  | _ => false
section
variable {w k : Nat} {S : Store}
theorem s_is_integer {d : D} (h : plain d = true) : callI prog w (k + 1) 0 [d] S = .ok (.bl (isI d)) S := by
  rw [u_is_integer]
  cases d <;> simp [b_is_integer, isI, plain, qOpt, qRet, bnd_ok, bnd_exc, bnd_err, flow_nx, flow_rt, flow_bk, flow_ct, flow_exc, end_nx, end_rt, end_exc, e_var, g_0, g_s, e_cst, e_bin, e_neg, e_not, e_cmp, e_chain, e_and, e_or, e_ite, e_tup, e_lst, e_lstM, e_lstS, e_dct, e_idx, e_slc, e_rev, e_isi, e_blt, e_call, e_lc, l_nil, l_cons, l_star, t_nil, t_cons, o_no, o_so, i_seq, i_rng1, i_rng2, i_zip, i_enum, k_neg, k_int, k_seqT, k_seqL, k_seqF, k_starT, k_starL, k_zipT, k_zipL, k_enum, k_rng, k_rng2, tr_bl, tr_int, tr_tup, tr_lst, s_nil, s_cons, x_expr, x_set, x_setT, x_par, x_setI, x_aug, x_cond, x_loop, x_while, x_ret, x_retN, x_pass, x_brk, x_cont, x_run, b_lenT, b_lenL, b_lenF, b_tupT, b_tupL, b_lstT, b_lstL, b_allL, b_anyL, b_sumL, b_abs, b_max, b_min, b_intI, b_intB, q_ii, q_ss, mapR_some, andR_ite, orR_ite, unpK, parK, augK, setIK, setTg, setAll, wipe, blt, blt0, seqOf, lstOf, cop, bop, intOp, isiD, tyOf, atP, place, Option.map_some, Option.map_none, Option.bind_some, Option.bind_none] at h ⊢
theorem s_is_vector_of {size : Int} {d : D} (h : okd d = true) : callI prog w (k + 2) 1 [.int size, d] S = .ok (.bl (isV size d)) S := by
  rw [u_is_vector_of]
  cases d with
  | tup xs =>
    simp only [okd, List.all_eq_true] at h
    by_cases hl : (xs.length : Int) = size
    · simp [b_is_vector_of, qOpt, qRet, bnd_ok, bnd_exc, bnd_err, flow_nx, flow_rt, flow_bk, flow_ct, flow_exc, end_nx, end_rt, end_exc, e_var, g_0, g_s, e_cst, e_bin, e_neg, e_not, e_cmp, e_chain, e_and, e_or, e_ite, e_tup, e_lst, e_lstM, e_lstS, e_dct, e_idx, e_slc, e_rev, e_isi, e_blt, e_call, e_lc, l_nil, l_cons, l_star, t_nil, t_cons, o_no, o_so, i_seq, i_rng1, i_rng2, i_zip, i_enum, k_neg, k_int, k_seqT, k_seqL, k_seqF, k_starT, k_starL, k_zipT, k_zipL, k_enum, k_rng, k_rng2, tr_bl, tr_int, tr_tup, tr_lst, s_nil, s_cons, x_expr, x_set, x_setT, x_par, x_setI, x_aug, x_cond, x_loop, x_while, x_ret, x_retN, x_pass, x_brk, x_cont, x_run, b_lenT, b_lenL, b_lenF, b_tupT, b_tupL, b_lstT, b_lstL, b_allL, b_anyL, b_sumL, b_abs, b_max, b_min, b_intI, b_intB, q_ii, q_ss, mapR_some, andR_ite, orR_ite, unpK, parK, augK, setIK, setTg, setAll, wipe, blt, blt0, seqOf, lstOf, cop, bop, intOp, isiD, tyOf, atP, place, Option.map_some, Option.map_none, Option.bind_some, Option.bind_none, lenF, eqD, hl, isV]
      rw [lcM_id (fun d => .bl (isI d)) xs fun x hx => ⟨_, rfl, by simp [qOpt, qRet, bnd_ok, bnd_exc, bnd_err, flow_nx, flow_rt, flow_bk, flow_ct, flow_exc, end_nx, end_rt, end_exc, e_var, g_0, g_s, e_cst, e_bin, e_neg, e_not, e_cmp, e_chain, e_and, e_or, e_ite, e_tup, e_lst, e_lstM, e_lstS, e_dct, e_idx, e_slc, e_rev, e_isi, e_blt, e_call, e_lc, l_nil, l_cons, l_star, t_nil, t_cons, o_no, o_so, i_seq, i_rng1, i_rng2, i_zip, i_enum, k_neg, k_int, k_seqT, k_seqL, k_seqF, k_starT, k_starL, k_zipT, k_zipL, k_enum, k_rng, k_rng2, tr_bl, tr_int, tr_tup, tr_lst, s_nil, s_cons, x_expr, x_set, x_setT, x_par, x_setI, x_aug, x_cond, x_loop, x_while, x_ret, x_retN, x_pass, x_brk, x_cont, x_run, b_lenT, b_lenL, b_lenF, b_tupT, b_tupL, b_lstT, b_lstL, b_allL, b_anyL, b_sumL, b_abs, b_max, b_min, b_intI, b_intB, q_ii, q_ss, mapR_some, andR_ite, orR_ite, unpK, parK, augK, setIK, setTg, setAll, wipe, blt, blt0, seqOf, lstOf, cop, bop, intOp, isiD, tyOf, atP, place, Option.map_some, Option.map_none, Option.bind_some, Option.bind_none, s_is_integer (h x hx)]⟩]
      simp [qOpt, qRet, bnd_ok, bnd_exc, bnd_err, flow_nx, flow_rt, flow_bk, flow_ct, flow_exc, end_nx, end_rt, end_exc, e_var, g_0, g_s, e_cst, e_bin, e_neg, e_not, e_cmp, e_chain, e_and, e_or, e_ite, e_tup, e_lst, e_lstM, e_lstS, e_dct, e_idx, e_slc, e_rev, e_isi, e_blt, e_call, e_lc, l_nil, l_cons, l_star, t_nil, t_cons, o_no, o_so, i_seq, i_rng1, i_rng2, i_zip, i_enum, k_neg, k_int, k_seqT, k_seqL, k_seqF, k_starT, k_starL, k_zipT, k_zipL, k_enum, k_rng, k_rng2, tr_bl, tr_int, tr_tup, tr_lst, s_nil, s_cons, x_expr, x_set, x_setT, x_par, x_setI, x_aug, x_cond, x_loop, x_while, x_ret, x_retN, x_pass, x_brk, x_cont, x_run, b_lenT, b_lenL, b_lenF, b_tupT, b_tupL, b_lstT, b_lstL, b_allL, b_anyL, b_sumL, b_abs, b_max, b_min, b_intI, b_intB, q_ii, q_ss, mapR_some, andR_ite, orR_ite, unpK, parK, augK, setIK, setTg, setAll, wipe, blt, blt0, seqOf, lstOf, cop, bop, intOp, isiD, tyOf, atP, place, Option.map_some, Option.map_none, Option.bind_some, Option.bind_none, allF]
      rw [show (List.map (fun d => D.bl (isI d)) xs) = (xs.map isI).map D.bl by simp, bools_map]
      simp [qOpt, qRet, bnd_ok, bnd_exc, bnd_err, flow_nx, flow_rt, flow_bk, flow_ct, flow_exc, end_nx, end_rt, end_exc, e_var, g_0, g_s, e_cst, e_bin, e_neg, e_not, e_cmp, e_chain, e_and, e_or, e_ite, e_tup, e_lst, e_lstM, e_lstS, e_dct, e_idx, e_slc, e_rev, e_isi, e_blt, e_call, e_lc, l_nil, l_cons, l_star, t_nil, t_cons, o_no, o_so, i_seq, i_rng1, i_rng2, i_zip, i_enum, k_neg, k_int, k_seqT, k_seqL, k_seqF, k_starT, k_starL, k_zipT, k_zipL, k_enum, k_rng, k_rng2, tr_bl, tr_int, tr_tup, tr_lst, s_nil, s_cons, x_expr, x_set, x_setT, x_par, x_setI, x_aug, x_cond, x_loop, x_while, x_ret, x_retN, x_pass, x_brk, x_cont, x_run, b_lenT, b_lenL, b_lenF, b_tupT, b_tupL, b_lstT, b_lstL, b_allL, b_anyL, b_sumL, b_abs, b_max, b_min, b_intI, b_intB, q_ii, q_ss, mapR_some, andR_ite, orR_ite, unpK, parK, augK, setIK, setTg, setAll, wipe, blt, blt0, seqOf, lstOf, cop, bop, intOp, isiD, tyOf, atP, place, Option.map_some, Option.map_none, Option.bind_some, Option.bind_none]
    · simp [b_is_vector_of, qOpt, qRet, bnd_ok, bnd_exc, bnd_err, flow_nx, flow_rt, flow_bk, flow_ct, flow_exc, end_nx, end_rt, end_exc, e_var, g_0, g_s, e_cst, e_bin, e_neg, e_not, e_cmp, e_chain, e_and, e_or, e_ite, e_tup, e_lst, e_lstM, e_lstS, e_dct, e_idx, e_slc, e_rev, e_isi, e_blt, e_call, e_lc, l_nil, l_cons, l_star, t_nil, t_cons, o_no, o_so, i_seq, i_rng1, i_rng2, i_zip, i_enum, k_neg, k_int, k_seqT, k_seqL, k_seqF, k_starT, k_starL, k_zipT, k_zipL, k_enum, k_rng, k_rng2, tr_bl, tr_int, tr_tup, tr_lst, s_nil, s_cons, x_expr, x_set, x_setT, x_par, x_setI, x_aug, x_cond, x_loop, x_while, x_ret, x_retN, x_pass, x_brk, x_cont, x_run, b_lenT, b_lenL, b_lenF, b_tupT, b_tupL, b_lstT, b_lstL, b_allL, b_anyL, b_sumL, b_abs, b_max, b_min, b_intI, b_intB, q_ii, q_ss, mapR_some, andR_ite, orR_ite, unpK, parK, augK, setIK, setTg, setAll, wipe, blt, blt0, seqOf, lstOf, cop, bop, intOp, isiD, tyOf, atP, place, Option.map_some, Option.map_none, Option.bind_some, Option.bind_none, lenF, eqD, hl, isV]
  | _ => simp [b_is_vector_of, isV, okd, qOpt, qRet, bnd_ok, bnd_exc, bnd_err, flow_nx, flow_rt, flow_bk, flow_ct, flow_exc, end_nx, end_rt, end_exc, e_var, g_0, g_s, e_cst, e_bin, e_neg, e_not, e_cmp, e_chain, e_and, e_or, e_ite, e_tup, e_lst, e_lstM, e_lstS, e_dct, e_idx, e_slc, e_rev, e_isi, e_blt, e_call, e_lc, l_nil, l_cons, l_star, t_nil, t_cons, o_no, o_so, i_seq, i_rng1, i_rng2, i_zip, i_enum, k_neg, k_int, k_seqT, k_seqL, k_seqF, k_starT, k_starL, k_zipT, k_zipL, k_enum, k_rng, k_rng2, tr_bl, tr_int, tr_tup, tr_lst, s_nil, s_cons, x_expr, x_set, x_setT, x_par, x_setI, x_aug, x_cond, x_loop, x_while, x_ret, x_retN, x_pass, x_brk, x_cont, x_run, b_lenT, b_lenL, b_lenF, b_tupT, b_tupL, b_lstT, b_lstL, b_allL, b_anyL, b_sumL, b_abs, b_max, b_min, b_intI, b_intB, q_ii, q_ss, mapR_some, andR_ite, orR_ite, unpK, parK, augK, setIK, setTg, setAll, wipe, blt, blt0, seqOf, lstOf, cop, bop, intOp, isiD, tyOf, atP, place, Option.map_some, Option.map_none, Option.bind_some, Option.bind_none] at h ⊢
theorem s_is_vector {d : D} (h : okd d = true) : callI prog w (k + 3) 6 [d] S = .ok (.bl (vec d)) S := by
  rw [u_is_vector]
  cases d with
  | tup xs =>
    have e := s_is_vector_of (w := w) (k := k) (S := S) (size := xs.length) h
    by_cases h1 : 1 ≤ xs.length
    · by_cases h2 : xs.length ≤ 5
      · have h1' : (1 : Int) ≤ xs.length := by omega
        have h2' : (xs.length : Int) ≤ 5 := by omega
        simp [b_is_vector, qOpt, qRet, bnd_ok, bnd_exc, bnd_err, flow_nx, flow_rt, flow_bk, flow_ct, flow_exc, end_nx, end_rt, end_exc, e_var, g_0, g_s, e_cst, e_bin, e_neg, e_not, e_cmp, e_chain, e_and, e_or, e_ite, e_tup, e_lst, e_lstM, e_lstS, e_dct, e_idx, e_slc, e_rev, e_isi, e_blt, e_call, e_lc, l_nil, l_cons, l_star, t_nil, t_cons, o_no, o_so, i_seq, i_rng1, i_rng2, i_zip, i_enum, k_neg, k_int, k_seqT, k_seqL, k_seqF, k_starT, k_starL, k_zipT, k_zipL, k_enum, k_rng, k_rng2, tr_bl, tr_int, tr_tup, tr_lst, s_nil, s_cons, x_expr, x_set, x_setT, x_par, x_setI, x_aug, x_cond, x_loop, x_while, x_ret, x_retN, x_pass, x_brk, x_cont, x_run, b_lenT, b_lenL, b_lenF, b_tupT, b_tupL, b_lstT, b_lstL, b_allL, b_anyL, b_sumL, b_abs, b_max, b_min, b_intI, b_intB, q_ii, q_ss, mapR_some, andR_ite, orR_ite, unpK, parK, augK, setIK, setTg, setAll, wipe, blt, blt0, seqOf, lstOf, cop, bop, intOp, isiD, tyOf, atP, place, Option.map_some, Option.map_none, Option.bind_some, Option.bind_none, lenF, h1, h2, h1', h2', e, vec, isV]
      · have h1' : (1 : Int) ≤ xs.length := by omega
        have h2' : ¬ (xs.length : Int) ≤ 5 := by omega
        simp [b_is_vector, qOpt, qRet, bnd_ok, bnd_exc, bnd_err, flow_nx, flow_rt, flow_bk, flow_ct, flow_exc, end_nx, end_rt, end_exc, e_var, g_0, g_s, e_cst, e_bin, e_neg, e_not, e_cmp, e_chain, e_and, e_or, e_ite, e_tup, e_lst, e_lstM, e_lstS, e_dct, e_idx, e_slc, e_rev, e_isi, e_blt, e_call, e_lc, l_nil, l_cons, l_star, t_nil, t_cons, o_no, o_so, i_seq, i_rng1, i_rng2, i_zip, i_enum, k_neg, k_int, k_seqT, k_seqL, k_seqF, k_starT, k_starL, k_zipT, k_zipL, k_enum, k_rng, k_rng2, tr_bl, tr_int, tr_tup, tr_lst, s_nil, s_cons, x_expr, x_set, x_setT, x_par, x_setI, x_aug, x_cond, x_loop, x_while, x_ret, x_retN, x_pass, x_brk, x_cont, x_run, b_lenT, b_lenL, b_lenF, b_tupT, b_tupL, b_lstT, b_lstL, b_allL, b_anyL, b_sumL, b_abs, b_max, b_min, b_intI, b_intB, q_ii, q_ss, mapR_some, andR_ite, orR_ite, unpK, parK, augK, setIK, setTg, setAll, wipe, blt, blt0, seqOf, lstOf, cop, bop, intOp, isiD, tyOf, atP, place, Option.map_some, Option.map_none, Option.bind_some, Option.bind_none, lenF, h1, h2, h1', h2', vec, isV]
    · have h1' : ¬ (1 : Int) ≤ xs.length := by omega
      simp [b_is_vector, qOpt, qRet, bnd_ok, bnd_exc, bnd_err, flow_nx, flow_rt, flow_bk, flow_ct, flow_exc, end_nx, end_rt, end_exc, e_var, g_0, g_s, e_cst, e_bin, e_neg, e_not, e_cmp, e_chain, e_and, e_or, e_ite, e_tup, e_lst, e_lstM, e_lstS, e_dct, e_idx, e_slc, e_rev, e_isi, e_blt, e_call, e_lc, l_nil, l_cons, l_star, t_nil, t_cons, o_no, o_so, i_seq, i_rng1, i_rng2, i_zip, i_enum, k_neg, k_int, k_seqT, k_seqL, k_seqF, k_starT, k_starL, k_zipT, k_zipL, k_enum, k_rng, k_rng2, tr_bl, tr_int, tr_tup, tr_lst, s_nil, s_cons, x_expr, x_set, x_setT, x_par, x_setI, x_aug, x_cond, x_loop, x_while, x_ret, x_retN, x_pass, x_brk, x_cont, x_run, b_lenT, b_lenL, b_lenF, b_tupT, b_tupL, b_lstT, b_lstL, b_allL, b_anyL, b_sumL, b_abs, b_max, b_min, b_intI, b_intB, q_ii, q_ss, mapR_some, andR_ite, orR_ite, unpK, parK, augK, setIK, setTg, setAll, wipe, blt, blt0, seqOf, lstOf, cop, bop, intOp, isiD, tyOf, atP, place, Option.map_some, Option.map_none, Option.bind_some, Option.bind_none, lenF, h1, h1', vec, isV]
  | _ => simp [b_is_vector, vec, okd, qOpt, qRet, bnd_ok, bnd_exc, bnd_err, flow_nx, flow_rt, flow_bk, flow_ct, flow_exc, end_nx, end_rt, end_exc, e_var, g_0, g_s, e_cst, e_bin, e_neg, e_not, e_cmp, e_chain, e_and, e_or, e_ite, e_tup, e_lst, e_lstM, e_lstS, e_dct, e_idx, e_slc, e_rev, e_isi, e_blt, e_call, e_lc, l_nil, l_cons, l_star, t_nil, t_cons, o_no, o_so, i_seq, i_rng1, i_rng2, i_zip, i_enum, k_neg, k_int, k_seqT, k_seqL, k_seqF, k_starT, k_starL, k_zipT, k_zipL, k_enum, k_rng, k_rng2, tr_bl, tr_int, tr_tup, tr_lst, s_nil, s_cons, x_expr, x_set, x_setT, x_par, x_setI, x_aug, x_cond, x_loop, x_while, x_ret, x_retN, x_pass, x_brk, x_cont, x_run, b_lenT, b_lenL, b_lenF, b_tupT, b_tupL, b_lstT, b_lstL, b_allL, b_anyL, b_sumL, b_abs, b_max, b_min, b_intI, b_intB, q_ii, q_ss, mapR_some, andR_ite, orR_ite, unpK, parK, augK, setIK, setTg, setAll, wipe, blt, blt0, seqOf, lstOf, cop, bop, intOp, isiD, tyOf, atP, place, Option.map_some, Option.map_none, Option.bind_some, Option.bind_none] at h ⊢
theorem s_law_is_vector {d : D} (h : okd d = true) : callI prog w (k + 1) 18 [d] S = .ok (.bl (vec d)) S := by
  rw [u__law_is_vector]
  cases d with
  | tup xs =>
    simp only [okd, List.all_eq_true] at h
    by_cases h1 : 1 ≤ xs.length
    · by_cases h2 : xs.length ≤ 5
      · have h1' : (1 : Int) ≤ xs.length := by omega
        have h2' : (xs.length : Int) ≤ 5 := by omega
        have e := lcM_filter (cf := callI prog w k) (ρ := [some (.tup xs), none]) (S := S) (elt := .cst (.int 1)) (c := .or (.not (.isi (.var 1) .int)) (.isi (.var 1) .bool)) (tg := .nm 1) (own := [1]) id (fun _ => D.int 1) (fun x => !isI x) xs fun x hx => by
          refine ⟨_, rfl, ?_, fun _ => by simp [qOpt, qRet, bnd_ok, bnd_exc, bnd_err, flow_nx, flow_rt, flow_bk, flow_ct, flow_exc, end_nx, end_rt, end_exc, e_var, g_0, g_s, e_cst, e_bin, e_neg, e_not, e_cmp, e_chain, e_and, e_or, e_ite, e_tup, e_lst, e_lstM, e_lstS, e_dct, e_idx, e_slc, e_rev, e_isi, e_blt, e_call, e_lc, l_nil, l_cons, l_star, t_nil, t_cons, o_no, o_so, i_seq, i_rng1, i_rng2, i_zip, i_enum, k_neg, k_int, k_seqT, k_seqL, k_seqF, k_starT, k_starL, k_zipT, k_zipL, k_enum, k_rng, k_rng2, tr_bl, tr_int, tr_tup, tr_lst, s_nil, s_cons, x_expr, x_set, x_setT, x_par, x_setI, x_aug, x_cond, x_loop, x_while, x_ret, x_retN, x_pass, x_brk, x_cont, x_run, b_lenT, b_lenL, b_lenF, b_tupT, b_tupL, b_lstT, b_lstL, b_allL, b_anyL, b_sumL, b_abs, b_max, b_min, b_intI, b_intB, q_ii, q_ss, mapR_some, andR_ite, orR_ite, unpK, parK, augK, setIK, setTg, setAll, wipe, blt, blt0, seqOf, lstOf, cop, bop, intOp, isiD, tyOf, atP, place, Option.map_some, Option.map_none, Option.bind_some, Option.bind_none]⟩
          have := h x hx
          cases x <;> simp [qOpt, qRet, bnd_ok, bnd_exc, bnd_err, flow_nx, flow_rt, flow_bk, flow_ct, flow_exc, end_nx, end_rt, end_exc, e_var, g_0, g_s, e_cst, e_bin, e_neg, e_not, e_cmp, e_chain, e_and, e_or, e_ite, e_tup, e_lst, e_lstM, e_lstS, e_dct, e_idx, e_slc, e_rev, e_isi, e_blt, e_call, e_lc, l_nil, l_cons, l_star, t_nil, t_cons, o_no, o_so, i_seq, i_rng1, i_rng2, i_zip, i_enum, k_neg, k_int, k_seqT, k_seqL, k_seqF, k_starT, k_starL, k_zipT, k_zipL, k_enum, k_rng, k_rng2, tr_bl, tr_int, tr_tup, tr_lst, s_nil, s_cons, x_expr, x_set, x_setT, x_par, x_setI, x_aug, x_cond, x_loop, x_while, x_ret, x_retN, x_pass, x_brk, x_cont, x_run, b_lenT, b_lenL, b_lenF, b_tupT, b_tupL, b_lstT, b_lstL, b_allL, b_anyL, b_sumL, b_abs, b_max, b_min, b_intI, b_intB, q_ii, q_ss, mapR_some, andR_ite, orR_ite, unpK, parK, augK, setIK, setTg, setAll, wipe, blt, blt0, seqOf, lstOf, cop, bop, intOp, isiD, tyOf, atP, place, Option.map_some, Option.map_none, Option.bind_some, Option.bind_none, isI, plain] at this ⊢
        rw [List.map_id] at e
        simp [b__law_is_vector, qOpt, qRet, bnd_ok, bnd_exc, bnd_err, flow_nx, flow_rt, flow_bk, flow_ct, flow_exc, end_nx, end_rt, end_exc, e_var, g_0, g_s, e_cst, e_bin, e_neg, e_not, e_cmp, e_chain, e_and, e_or, e_ite, e_tup, e_lst, e_lstM, e_lstS, e_dct, e_idx, e_slc, e_rev, e_isi, e_blt, e_call, e_lc, l_nil, l_cons, l_star, t_nil, t_cons, o_no, o_so, i_seq, i_rng1, i_rng2, i_zip, i_enum, k_neg, k_int, k_seqT, k_seqL, k_seqF, k_starT, k_starL, k_zipT, k_zipL, k_enum, k_rng, k_rng2, tr_bl, tr_int, tr_tup, tr_lst, s_nil, s_cons, x_expr, x_set, x_setT, x_par, x_setI, x_aug, x_cond, x_loop, x_while, x_ret, x_retN, x_pass, x_brk, x_cont, x_run, b_lenT, b_lenL, b_lenF, b_tupT, b_tupL, b_lstT, b_lstL, b_allL, b_anyL, b_sumL, b_abs, b_max, b_min, b_intI, b_intB, q_ii, q_ss, mapR_some, andR_ite, orR_ite, unpK, parK, augK, setIK, setTg, setAll, wipe, blt, blt0, seqOf, lstOf, cop, bop, intOp, isiD, tyOf, atP, place, Option.map_some, Option.map_none, Option.bind_some, Option.bind_none, lenF, h1, h2, h1', h2', vec, e]
        have e2 : ∀ l : List D, eqD S (.lst (l.map fun _ => D.int 1)) (.lst []) = some (l.isEmpty) := fun l => by
          show eqP S _ _ = _
          unfold eqP
          have d1 : dat S (.lst (l.map fun _ => D.int 1)) = some (.list ((l.map fun _ => (1 : Int)).map .int)) := by
            show ((l.map fun _ => D.int 1).mapM (toP S 23)).map PyData.list = _
            rw [mapM_map (f := fun _ => PyData.int 1) fun a _ => toP_int]
            simp
          have d2 : dat S (.lst []) = some (.list []) := rfl
          have sh := shaped_ints (l.map fun _ => (1 : Int))
          have sh2 : PySem.SeqAt.shaped (.list ((l.map fun _ => (1 : Int)).map PyData.int)) = true := by
            simpa [PySem.SeqAt.shaped, PyData.canLay0, PyData.depth] using sh
          rw [d1, d2]
          simp only [sh2, show PySem.SeqAt.shaped (.list []) = true by decide, Bool.and_self, if_true]
          cases l <;> simp [PyData.eqv, PyData.eqvAll]
        rw [e2]
        simp [qOpt, qRet, bnd_ok, bnd_exc, bnd_err, flow_nx, flow_rt, flow_bk, flow_ct, flow_exc, end_nx, end_rt, end_exc, e_var, g_0, g_s, e_cst, e_bin, e_neg, e_not, e_cmp, e_chain, e_and, e_or, e_ite, e_tup, e_lst, e_lstM, e_lstS, e_dct, e_idx, e_slc, e_rev, e_isi, e_blt, e_call, e_lc, l_nil, l_cons, l_star, t_nil, t_cons, o_no, o_so, i_seq, i_rng1, i_rng2, i_zip, i_enum, k_neg, k_int, k_seqT, k_seqL, k_seqF, k_starT, k_starL, k_zipT, k_zipL, k_enum, k_rng, k_rng2, tr_bl, tr_int, tr_tup, tr_lst, s_nil, s_cons, x_expr, x_set, x_setT, x_par, x_setI, x_aug, x_cond, x_loop, x_while, x_ret, x_retN, x_pass, x_brk, x_cont, x_run, b_lenT, b_lenL, b_lenF, b_tupT, b_tupL, b_lstT, b_lstL, b_allL, b_anyL, b_sumL, b_abs, b_max, b_min, b_intI, b_intB, q_ii, q_ss, mapR_some, andR_ite, orR_ite, unpK, parK, augK, setIK, setTg, setAll, wipe, blt, blt0, seqOf, lstOf, cop, bop, intOp, isiD, tyOf, atP, place, Option.map_some, Option.map_none, Option.bind_some, Option.bind_none]
        rw [Bool.eq_iff_iff]
        simp
      · have h1' : (1 : Int) ≤ xs.length := by omega
        have h2' : ¬ (xs.length : Int) ≤ 5 := by omega
        simp [b__law_is_vector, qOpt, qRet, bnd_ok, bnd_exc, bnd_err, flow_nx, flow_rt, flow_bk, flow_ct, flow_exc, end_nx, end_rt, end_exc, e_var, g_0, g_s, e_cst, e_bin, e_neg, e_not, e_cmp, e_chain, e_and, e_or, e_ite, e_tup, e_lst, e_lstM, e_lstS, e_dct, e_idx, e_slc, e_rev, e_isi, e_blt, e_call, e_lc, l_nil, l_cons, l_star, t_nil, t_cons, o_no, o_so, i_seq, i_rng1, i_rng2, i_zip, i_enum, k_neg, k_int, k_seqT, k_seqL, k_seqF, k_starT, k_starL, k_zipT, k_zipL, k_enum, k_rng, k_rng2, tr_bl, tr_int, tr_tup, tr_lst, s_nil, s_cons, x_expr, x_set, x_setT, x_par, x_setI, x_aug, x_cond, x_loop, x_while, x_ret, x_retN, x_pass, x_brk, x_cont, x_run, b_lenT, b_lenL, b_lenF, b_tupT, b_tupL, b_lstT, b_lstL, b_allL, b_anyL, b_sumL, b_abs, b_max, b_min, b_intI, b_intB, q_ii, q_ss, mapR_some, andR_ite, orR_ite, unpK, parK, augK, setIK, setTg, setAll, wipe, blt, blt0, seqOf, lstOf, cop, bop, intOp, isiD, tyOf, atP, place, Option.map_some, Option.map_none, Option.bind_some, Option.bind_none, lenF, h1, h2, h1', h2', vec]
    · have h1' : ¬ (1 : Int) ≤ xs.length := by omega
      simp [b__law_is_vector, qOpt, qRet, bnd_ok, bnd_exc, bnd_err, flow_nx, flow_rt, flow_bk, flow_ct, flow_exc, end_nx, end_rt, end_exc, e_var, g_0, g_s, e_cst, e_bin, e_neg, e_not, e_cmp, e_chain, e_and, e_or, e_ite, e_tup, e_lst, e_lstM, e_lstS, e_dct, e_idx, e_slc, e_rev, e_isi, e_blt, e_call, e_lc, l_nil, l_cons, l_star, t_nil, t_cons, o_no, o_so, i_seq, i_rng1, i_rng2, i_zip, i_enum, k_neg, k_int, k_seqT, k_seqL, k_seqF, k_starT, k_starL, k_zipT, k_zipL, k_enum, k_rng, k_rng2, tr_bl, tr_int, tr_tup, tr_lst, s_nil, s_cons, x_expr, x_set, x_setT, x_par, x_setI, x_aug, x_cond, x_loop, x_while, x_ret, x_retN, x_pass, x_brk, x_cont, x_run, b_lenT, b_lenL, b_lenF, b_tupT, b_tupL, b_lstT, b_lstL, b_allL, b_anyL, b_sumL, b_abs, b_max, b_min, b_intI, b_intB, q_ii, q_ss, mapR_some, andR_ite, orR_ite, unpK, parK, augK, setIK, setTg, setAll, wipe, blt, blt0, seqOf, lstOf, cop, bop, intOp, isiD, tyOf, atP, place, Option.map_some, Option.map_none, Option.bind_some, Option.bind_none, lenF, h1, h1', vec]
  | _ => simp [b__law_is_vector, vec, okd, qOpt, qRet, bnd_ok, bnd_exc, bnd_err, flow_nx, flow_rt, flow_bk, flow_ct, flow_exc, end_nx, end_rt, end_exc, e_var, g_0, g_s, e_cst, e_bin, e_neg, e_not, e_cmp, e_chain, e_and, e_or, e_ite, e_tup, e_lst, e_lstM, e_lstS, e_dct, e_idx, e_slc, e_rev, e_isi, e_blt, e_call, e_lc, l_nil, l_cons, l_star, t_nil, t_cons, o_no, o_so, i_seq, i_rng1, i_rng2, i_zip, i_enum, k_neg, k_int, k_seqT, k_seqL, k_seqF, k_starT, k_starL, k_zipT, k_zipL, k_enum, k_rng, k_rng2, tr_bl, tr_int, tr_tup, tr_lst, s_nil, s_cons, x_expr, x_set, x_setT, x_par, x_setI, x_aug, x_cond, x_loop, x_while, x_ret, x_retN, x_pass, x_brk, x_cont, x_run, b_lenT, b_lenL, b_lenF, b_tupT, b_tupL, b_lstT, b_lstL, b_allL, b_anyL, b_sumL, b_abs, b_max, b_min, b_intI, b_intB, q_ii, q_ss, mapR_some, andR_ite, orR_ite, unpK, parK, augK, setIK, setTg, setAll, wipe, blt, blt0, seqOf, lstOf, cop, bop, intOp, isiD, tyOf, atP, place, Option.map_some, Option.map_none, Option.bind_some, Option.bind_none] at h ⊢
end
end K02

set_option linter.all false
set_option maxRecDepth 10000
namespace K02
open Ln
open PySem (PyData)
section
variable {w k : Nat} {S : Store}
theorem okd_iv (xs : List Int) : okd (iv xs) = true := by simp [okd, iv, plain]
theorem plain_iv (xs : List Int) : plain (iv xs) = true := rfl
theorem all_isI (xs : List Int) : (xs.map D.int).all isI = true := by simp [isI]
theorem vec_iv {xs : List Int} (h1 : 1 ≤ xs.length) (h2 : xs.length ≤ 5) : vec (iv xs) = true := by simp [vec, h1, h2, isI]
theorem isV_iv (xs ys : List Int) (h : ys.length = xs.length) : isV xs.length (iv ys) = true := by simp [isV, h, isI]
def vadd (xs ys : List Int) : List Int := List.zipWith (· + ·) xs ys
theorem vadd_len {xs ys : List Int} (h : ys.length = xs.length) : (vadd xs ys).length = xs.length := by simp [vadd, h]
theorem s_req {xs : List Int} {l : List (List Int)} (h1 : 1 ≤ xs.length) (h2 : xs.length ≤ 5) (h : ∀ ys ∈ l, ys.length = xs.length) (hl : l.length < 1000) : callI prog w (k + 4) 5 (iv xs :: l.map iv) S = .ok .non S := by
  rw [u_require_vectors (by rw [List.length_map]; show l.length + 1 ≤ 2 ^ 24; omega)]
  have e1 := s_is_vector (w := w) (k := k) (S := S) (okd_iv xs)
  simp [b_require_vectors, qOpt, qRet, bnd_ok, bnd_exc, bnd_err, flow_nx, flow_rt, flow_bk, flow_ct, flow_exc, end_nx, end_rt, end_exc, e_var, g_0, g_s, e_cst, e_bin, e_neg, e_not, e_cmp, e_chain, e_and, e_or, e_ite, e_tup, e_lst, e_lstM, e_lstS, e_dct, e_idx, e_slc, e_rev, e_isi, e_blt, e_call, e_lc, l_nil, l_cons, l_star, t_nil, t_cons, o_no, o_so, i_seq, i_rng1, i_rng2, i_zip, i_enum, k_neg, k_int, k_seqT, k_seqL, k_seqF, k_starT, k_starL, k_zipT, k_zipL, k_enum, k_rng, k_rng2, tr_bl, tr_int, tr_tup, tr_lst, s_nil, s_cons, x_expr, x_set, x_setT, x_par, x_setI, x_aug, x_cond, x_loop, x_while, x_ret, x_retN, x_pass, x_brk, x_cont, x_run, b_lenT, b_lenL, b_lenF, b_tupT, b_tupL, b_lstT, b_lstL, b_allL, b_anyL, b_sumL, b_abs, b_max, b_min, b_intI, b_intB, q_ii, q_ss, mapR_some, andR_ite, orR_ite, unpK, parK, augK, setIK, setTg, setAll, wipe, blt, blt0, seqOf, lstOf, cop, bop, intOp, isiD, tyOf, atP, place, Option.map_some, Option.map_none, Option.bind_some, Option.bind_none, e1, vec_iv h1 h2]
  rw [lcM_map iv (fun _ => D.bl true) l fun ys hy => ⟨_, rfl, by simp [qOpt, qRet, bnd_ok, bnd_exc, bnd_err, flow_nx, flow_rt, flow_bk, flow_ct, flow_exc, end_nx, end_rt, end_exc, e_var, g_0, g_s, e_cst, e_bin, e_neg, e_not, e_cmp, e_chain, e_and, e_or, e_ite, e_tup, e_lst, e_lstM, e_lstS, e_dct, e_idx, e_slc, e_rev, e_isi, e_blt, e_call, e_lc, l_nil, l_cons, l_star, t_nil, t_cons, o_no, o_so, i_seq, i_rng1, i_rng2, i_zip, i_enum, k_neg, k_int, k_seqT, k_seqL, k_seqF, k_starT, k_starL, k_zipT, k_zipL, k_enum, k_rng, k_rng2, tr_bl, tr_int, tr_tup, tr_lst, s_nil, s_cons, x_expr, x_set, x_setT, x_par, x_setI, x_aug, x_cond, x_loop, x_while, x_ret, x_retN, x_pass, x_brk, x_cont, x_run, b_lenT, b_lenL, b_lenF, b_tupT, b_tupL, b_lstT, b_lstL, b_allL, b_anyL, b_sumL, b_abs, b_max, b_min, b_intI, b_intB, q_ii, q_ss, mapR_some, andR_ite, orR_ite, unpK, parK, augK, setIK, setTg, setAll, wipe, blt, blt0, seqOf, lstOf, cop, bop, intOp, isiD, tyOf, atP, place, Option.map_some, Option.map_none, Option.bind_some, Option.bind_none, lenF, s_is_vector_of (k := k + 1) (okd_iv ys), isV_iv xs ys (h ys hy)]⟩]
  simp only [qOpt, qRet, bnd_ok, bnd_exc, bnd_err, flow_nx, flow_rt, flow_bk, flow_ct, flow_exc, end_nx, end_rt, end_exc, e_var, g_0, g_s, e_cst, e_bin, e_neg, e_not, e_cmp, e_chain, e_and, e_or, e_ite, e_tup, e_lst, e_lstM, e_lstS, e_dct, e_idx, e_slc, e_rev, e_isi, e_blt, e_call, e_lc, l_nil, l_cons, l_star, t_nil, t_cons, o_no, o_so, i_seq, i_rng1, i_rng2, i_zip, i_enum, k_neg, k_int, k_seqT, k_seqL, k_seqF, k_starT, k_starL, k_zipT, k_zipL, k_enum, k_rng, k_rng2, tr_bl, tr_int, tr_tup, tr_lst, s_nil, s_cons, x_expr, x_set, x_setT, x_par, x_setI, x_aug, x_cond, x_loop, x_while, x_ret, x_retN, x_pass, x_brk, x_cont, x_run, b_lenT, b_lenL, b_lenF, b_tupT, b_tupL, b_lstT, b_lstL, b_allL, b_anyL, b_sumL, b_abs, b_max, b_min, b_intI, b_intB, q_ii, q_ss, mapR_some, andR_ite, orR_ite, unpK, parK, augK, setIK, setTg, setAll, wipe, blt, blt0, seqOf, lstOf, cop, bop, intOp, isiD, tyOf, atP, place, Option.map_some, Option.map_none, Option.bind_some, Option.bind_none, allF]
  rw [bools_fun (fun _ => true)]
  simp [qOpt, qRet, bnd_ok, bnd_exc, bnd_err, flow_nx, flow_rt, flow_bk, flow_ct, flow_exc, end_nx, end_rt, end_exc, e_var, g_0, g_s, e_cst, e_bin, e_neg, e_not, e_cmp, e_chain, e_and, e_or, e_ite, e_tup, e_lst, e_lstM, e_lstS, e_dct, e_idx, e_slc, e_rev, e_isi, e_blt, e_call, e_lc, l_nil, l_cons, l_star, t_nil, t_cons, o_no, o_so, i_seq, i_rng1, i_rng2, i_zip, i_enum, k_neg, k_int, k_seqT, k_seqL, k_seqF, k_starT, k_starL, k_zipT, k_zipL, k_enum, k_rng, k_rng2, tr_bl, tr_int, tr_tup, tr_lst, s_nil, s_cons, x_expr, x_set, x_setT, x_par, x_setI, x_aug, x_cond, x_loop, x_while, x_ret, x_retN, x_pass, x_brk, x_cont, x_run, b_lenT, b_lenL, b_lenF, b_tupT, b_tupL, b_lstT, b_lstL, b_allL, b_anyL, b_sumL, b_abs, b_max, b_min, b_intI, b_intB, q_ii, q_ss, mapR_some, andR_ite, orR_ite, unpK, parK, augK, setIK, setTg, setAll, wipe, blt, blt0, seqOf, lstOf, cop, bop, intOp, isiD, tyOf, atP, place, Option.map_some, Option.map_none, Option.bind_some, Option.bind_none]
theorem s_plus_in (xs ys : List Int) : callI prog w (k + 1) 3 [iv xs, iv ys] S = .ok (iv (vadd xs ys)) S := by
  rw [u_plus_in]
  simp [b_plus_in, qOpt, qRet, bnd_ok, bnd_exc, bnd_err, flow_nx, flow_rt, flow_bk, flow_ct, flow_exc, end_nx, end_rt, end_exc, e_var, g_0, g_s, e_cst, e_bin, e_neg, e_not, e_cmp, e_chain, e_and, e_or, e_ite, e_tup, e_lst, e_lstM, e_lstS, e_dct, e_idx, e_slc, e_rev, e_isi, e_blt, e_call, e_lc, l_nil, l_cons, l_star, t_nil, t_cons, o_no, o_so, i_seq, i_rng1, i_rng2, i_zip, i_enum, k_neg, k_int, k_seqT, k_seqL, k_seqF, k_starT, k_starL, k_zipT, k_zipL, k_enum, k_rng, k_rng2, tr_bl, tr_int, tr_tup, tr_lst, s_nil, s_cons, x_expr, x_set, x_setT, x_par, x_setI, x_aug, x_cond, x_loop, x_while, x_ret, x_retN, x_pass, x_brk, x_cont, x_run, b_lenT, b_lenL, b_lenF, b_tupT, b_tupL, b_lstT, b_lstL, b_allL, b_anyL, b_sumL, b_abs, b_max, b_min, b_intI, b_intB, q_ii, q_ss, mapR_some, andR_ite, orR_ite, unpK, parK, augK, setIK, setTg, setAll, wipe, blt, blt0, seqOf, lstOf, cop, bop, intOp, isiD, tyOf, atP, place, Option.map_some, Option.map_none, Option.bind_some, Option.bind_none, pairs_map]
  rw [lcM_map (fun p : Int × Int => D.tup [.int p.1, .int p.2]) (fun p => .int (p.1 + p.2)) (xs.zip ys) fun p _ => ⟨_, rfl, by simp [qOpt, qRet, bnd_ok, bnd_exc, bnd_err, flow_nx, flow_rt, flow_bk, flow_ct, flow_exc, end_nx, end_rt, end_exc, e_var, g_0, g_s, e_cst, e_bin, e_neg, e_not, e_cmp, e_chain, e_and, e_or, e_ite, e_tup, e_lst, e_lstM, e_lstS, e_dct, e_idx, e_slc, e_rev, e_isi, e_blt, e_call, e_lc, l_nil, l_cons, l_star, t_nil, t_cons, o_no, o_so, i_seq, i_rng1, i_rng2, i_zip, i_enum, k_neg, k_int, k_seqT, k_seqL, k_seqF, k_starT, k_starL, k_zipT, k_zipL, k_enum, k_rng, k_rng2, tr_bl, tr_int, tr_tup, tr_lst, s_nil, s_cons, x_expr, x_set, x_setT, x_par, x_setI, x_aug, x_cond, x_loop, x_while, x_ret, x_retN, x_pass, x_brk, x_cont, x_run, b_lenT, b_lenL, b_lenF, b_tupT, b_tupL, b_lstT, b_lstL, b_allL, b_anyL, b_sumL, b_abs, b_max, b_min, b_intI, b_intB, q_ii, q_ss, mapR_some, andR_ite, orR_ite, unpK, parK, augK, setIK, setTg, setAll, wipe, blt, blt0, seqOf, lstOf, cop, bop, intOp, isiD, tyOf, atP, place, Option.map_some, Option.map_none, Option.bind_some, Option.bind_none]⟩]
  rw [zip_map (fun x y : Int => D.int (x + y))]
  simp [qOpt, qRet, bnd_ok, bnd_exc, bnd_err, flow_nx, flow_rt, flow_bk, flow_ct, flow_exc, end_nx, end_rt, end_exc, e_var, g_0, g_s, e_cst, e_bin, e_neg, e_not, e_cmp, e_chain, e_and, e_or, e_ite, e_tup, e_lst, e_lstM, e_lstS, e_dct, e_idx, e_slc, e_rev, e_isi, e_blt, e_call, e_lc, l_nil, l_cons, l_star, t_nil, t_cons, o_no, o_so, i_seq, i_rng1, i_rng2, i_zip, i_enum, k_neg, k_int, k_seqT, k_seqL, k_seqF, k_starT, k_starL, k_zipT, k_zipL, k_enum, k_rng, k_rng2, tr_bl, tr_int, tr_tup, tr_lst, s_nil, s_cons, x_expr, x_set, x_setT, x_par, x_setI, x_aug, x_cond, x_loop, x_while, x_ret, x_retN, x_pass, x_brk, x_cont, x_run, b_lenT, b_lenL, b_lenF, b_tupT, b_tupL, b_lstT, b_lstL, b_allL, b_anyL, b_sumL, b_abs, b_max, b_min, b_intI, b_intB, q_ii, q_ss, mapR_some, andR_ite, orR_ite, unpK, parK, augK, setIK, setTg, setAll, wipe, blt, blt0, seqOf, lstOf, cop, bop, intOp, isiD, tyOf, atP, place, Option.map_some, Option.map_none, Option.bind_some, Option.bind_none, tupleF, vadd]
theorem s_plus {xs : List Int} {l : List (List Int)} (h1 : 1 ≤ xs.length) (h2 : xs.length ≤ 5) (h : ∀ ys ∈ l, ys.length = xs.length) (hl : l.length < 1000) : callI prog w (k + 5) 7 (iv xs :: l.map iv) S = .ok (iv (l.foldl vadd xs)) S := by
  rw [u_plus (by rw [List.length_map]; show l.length + 1 ≤ 2 ^ 24; omega)]
  have e1 := s_req (w := w) (k := k) (S := S) h1 h2 h hl
  simp [b_plus, qOpt, qRet, bnd_ok, bnd_exc, bnd_err, flow_nx, flow_rt, flow_bk, flow_ct, flow_exc, end_nx, end_rt, end_exc, e_var, g_0, g_s, e_cst, e_bin, e_neg, e_not, e_cmp, e_chain, e_and, e_or, e_ite, e_tup, e_lst, e_lstM, e_lstS, e_dct, e_idx, e_slc, e_rev, e_isi, e_blt, e_call, e_lc, l_nil, l_cons, l_star, t_nil, t_cons, o_no, o_so, i_seq, i_rng1, i_rng2, i_zip, i_enum, k_neg, k_int, k_seqT, k_seqL, k_seqF, k_starT, k_starL, k_zipT, k_zipL, k_enum, k_rng, k_rng2, tr_bl, tr_int, tr_tup, tr_lst, s_nil, s_cons, x_expr, x_set, x_setT, x_par, x_setI, x_aug, x_cond, x_loop, x_while, x_ret, x_retN, x_pass, x_brk, x_cont, x_run, b_lenT, b_lenL, b_lenF, b_tupT, b_tupL, b_lstT, b_lstL, b_allL, b_anyL, b_sumL, b_abs, b_max, b_min, b_intI, b_intB, q_ii, q_ss, mapR_some, andR_ite, orR_ite, unpK, parK, augK, setIK, setTg, setAll, wipe, blt, blt0, seqOf, lstOf, cop, bop, intOp, isiD, tyOf, atP, place, Option.map_some, Option.map_none, Option.bind_some, Option.bind_none, e1]
  obtain ⟨ρ', e2, o, e3⟩ := loopM_fold (cf := callI prog w (k + 4)) (w := w) (S := S) (tg := .nm 3) (b := .cons (.set 2 (.call 3 (.cons (.var 2) (.cons (.var 3) .nil)))) .nil) iv vadd (fun acc ρ => ∃ o, ρ = [some (iv xs), some (.tup (l.map iv)), some (iv acc), o]) l xs (ρ := [some (iv xs), some (.tup (l.map iv)), some (iv xs), none]) (fun acc ys _ ρ hρ => by
    obtain ⟨o, rfl⟩ := hρ
    exact ⟨_, _, rfl, by simp [qOpt, qRet, bnd_ok, bnd_exc, bnd_err, flow_nx, flow_rt, flow_bk, flow_ct, flow_exc, end_nx, end_rt, end_exc, e_var, g_0, g_s, e_cst, e_bin, e_neg, e_not, e_cmp, e_chain, e_and, e_or, e_ite, e_tup, e_lst, e_lstM, e_lstS, e_dct, e_idx, e_slc, e_rev, e_isi, e_blt, e_call, e_lc, l_nil, l_cons, l_star, t_nil, t_cons, o_no, o_so, i_seq, i_rng1, i_rng2, i_zip, i_enum, k_neg, k_int, k_seqT, k_seqL, k_seqF, k_starT, k_starL, k_zipT, k_zipL, k_enum, k_rng, k_rng2, tr_bl, tr_int, tr_tup, tr_lst, s_nil, s_cons, x_expr, x_set, x_setT, x_par, x_setI, x_aug, x_cond, x_loop, x_while, x_ret, x_retN, x_pass, x_brk, x_cont, x_run, b_lenT, b_lenL, b_lenF, b_tupT, b_tupL, b_lstT, b_lstL, b_allL, b_anyL, b_sumL, b_abs, b_max, b_min, b_intI, b_intB, q_ii, q_ss, mapR_some, andR_ite, orR_ite, unpK, parK, augK, setIK, setTg, setAll, wipe, blt, blt0, seqOf, lstOf, cop, bop, intOp, isiD, tyOf, atP, place, Option.map_some, Option.map_none, Option.bind_some, Option.bind_none, s_plus_in (k := k + 3)]; rfl, _, rfl⟩) ⟨_, rfl⟩
  simp [e2, e3, qOpt, qRet, bnd_ok, bnd_exc, bnd_err, flow_nx, flow_rt, flow_bk, flow_ct, flow_exc, end_nx, end_rt, end_exc, e_var, g_0, g_s, e_cst, e_bin, e_neg, e_not, e_cmp, e_chain, e_and, e_or, e_ite, e_tup, e_lst, e_lstM, e_lstS, e_dct, e_idx, e_slc, e_rev, e_isi, e_blt, e_call, e_lc, l_nil, l_cons, l_star, t_nil, t_cons, o_no, o_so, i_seq, i_rng1, i_rng2, i_zip, i_enum, k_neg, k_int, k_seqT, k_seqL, k_seqF, k_starT, k_starL, k_zipT, k_zipL, k_enum, k_rng, k_rng2, tr_bl, tr_int, tr_tup, tr_lst, s_nil, s_cons, x_expr, x_set, x_setT, x_par, x_setI, x_aug, x_cond, x_loop, x_while, x_ret, x_retN, x_pass, x_brk, x_cont, x_run, b_lenT, b_lenL, b_lenF, b_tupT, b_tupL, b_lstT, b_lstL, b_allL, b_anyL, b_sumL, b_abs, b_max, b_min, b_intI, b_intB, q_ii, q_ss, mapR_some, andR_ite, orR_ite, unpK, parK, augK, setIK, setTg, setAll, wipe, blt, blt0, seqOf, lstOf, cop, bop, intOp, isiD, tyOf, atP, place, Option.map_some, Option.map_none, Option.bind_some, Option.bind_none]
theorem s_minus {xs ys : List Int} (h1 : 1 ≤ xs.length) (h2 : xs.length ≤ 5) (h : ys.length = xs.length) : callI prog w (k + 5) 8 [iv xs, iv ys] S = .ok (iv (List.zipWith (· - ·) xs ys)) S := by
  rw [u_minus]
  have e1 := s_req (w := w) (k := k) (S := S) (l := [ys]) h1 h2 (by simpa using h) (by simp)
  simp only [List.map_cons, List.map_nil] at e1
  simp [b_minus, qOpt, qRet, bnd_ok, bnd_exc, bnd_err, flow_nx, flow_rt, flow_bk, flow_ct, flow_exc, end_nx, end_rt, end_exc, e_var, g_0, g_s, e_cst, e_bin, e_neg, e_not, e_cmp, e_chain, e_and, e_or, e_ite, e_tup, e_lst, e_lstM, e_lstS, e_dct, e_idx, e_slc, e_rev, e_isi, e_blt, e_call, e_lc, l_nil, l_cons, l_star, t_nil, t_cons, o_no, o_so, i_seq, i_rng1, i_rng2, i_zip, i_enum, k_neg, k_int, k_seqT, k_seqL, k_seqF, k_starT, k_starL, k_zipT, k_zipL, k_enum, k_rng, k_rng2, tr_bl, tr_int, tr_tup, tr_lst, s_nil, s_cons, x_expr, x_set, x_setT, x_par, x_setI, x_aug, x_cond, x_loop, x_while, x_ret, x_retN, x_pass, x_brk, x_cont, x_run, b_lenT, b_lenL, b_lenF, b_tupT, b_tupL, b_lstT, b_lstL, b_allL, b_anyL, b_sumL, b_abs, b_max, b_min, b_intI, b_intB, q_ii, q_ss, mapR_some, andR_ite, orR_ite, unpK, parK, augK, setIK, setTg, setAll, wipe, blt, blt0, seqOf, lstOf, cop, bop, intOp, isiD, tyOf, atP, place, Option.map_some, Option.map_none, Option.bind_some, Option.bind_none, e1, pairs_map]
  rw [lcM_map (fun p : Int × Int => D.tup [.int p.1, .int p.2]) (fun p => .int (p.1 - p.2)) (xs.zip ys) fun p _ => ⟨_, rfl, by simp [qOpt, qRet, bnd_ok, bnd_exc, bnd_err, flow_nx, flow_rt, flow_bk, flow_ct, flow_exc, end_nx, end_rt, end_exc, e_var, g_0, g_s, e_cst, e_bin, e_neg, e_not, e_cmp, e_chain, e_and, e_or, e_ite, e_tup, e_lst, e_lstM, e_lstS, e_dct, e_idx, e_slc, e_rev, e_isi, e_blt, e_call, e_lc, l_nil, l_cons, l_star, t_nil, t_cons, o_no, o_so, i_seq, i_rng1, i_rng2, i_zip, i_enum, k_neg, k_int, k_seqT, k_seqL, k_seqF, k_starT, k_starL, k_zipT, k_zipL, k_enum, k_rng, k_rng2, tr_bl, tr_int, tr_tup, tr_lst, s_nil, s_cons, x_expr, x_set, x_setT, x_par, x_setI, x_aug, x_cond, x_loop, x_while, x_ret, x_retN, x_pass, x_brk, x_cont, x_run, b_lenT, b_lenL, b_lenF, b_tupT, b_tupL, b_lstT, b_lstL, b_allL, b_anyL, b_sumL, b_abs, b_max, b_min, b_intI, b_intB, q_ii, q_ss, mapR_some, andR_ite, orR_ite, unpK, parK, augK, setIK, setTg, setAll, wipe, blt, blt0, seqOf, lstOf, cop, bop, intOp, isiD, tyOf, atP, place, Option.map_some, Option.map_none, Option.bind_some, Option.bind_none]⟩]
  rw [zip_map (fun x y : Int => D.int (x - y))]
  simp [qOpt, qRet, bnd_ok, bnd_exc, bnd_err, flow_nx, flow_rt, flow_bk, flow_ct, flow_exc, end_nx, end_rt, end_exc, e_var, g_0, g_s, e_cst, e_bin, e_neg, e_not, e_cmp, e_chain, e_and, e_or, e_ite, e_tup, e_lst, e_lstM, e_lstS, e_dct, e_idx, e_slc, e_rev, e_isi, e_blt, e_call, e_lc, l_nil, l_cons, l_star, t_nil, t_cons, o_no, o_so, i_seq, i_rng1, i_rng2, i_zip, i_enum, k_neg, k_int, k_seqT, k_seqL, k_seqF, k_starT, k_starL, k_zipT, k_zipL, k_enum, k_rng, k_rng2, tr_bl, tr_int, tr_tup, tr_lst, s_nil, s_cons, x_expr, x_set, x_setT, x_par, x_setI, x_aug, x_cond, x_loop, x_while, x_ret, x_retN, x_pass, x_brk, x_cont, x_run, b_lenT, b_lenL, b_lenF, b_tupT, b_tupL, b_lstT, b_lstL, b_allL, b_anyL, b_sumL, b_abs, b_max, b_min, b_intI, b_intB, q_ii, q_ss, mapR_some, andR_ite, orR_ite, unpK, parK, augK, setIK, setTg, setAll, wipe, blt, blt0, seqOf, lstOf, cop, bop, intOp, isiD, tyOf, atP, place, Option.map_some, Option.map_none, Option.bind_some, Option.bind_none, tupleF]
theorem s_times {n : Int} {xs : List Int} (h1 : 1 ≤ xs.length) (h2 : xs.length ≤ 5) (hm : ∀ x ∈ xs, mulOk n x = true) : callI prog w (k + 5) 9 [.int n, iv xs] S = .ok (iv (xs.map (n * ·))) S := by
  rw [u_times]
  have e1 := s_req (w := w) (k := k) (S := S) (l := []) h1 h2 (by simp) (by decide)
  simp only [List.map_nil] at e1
  simp [b_times, qOpt, qRet, bnd_ok, bnd_exc, bnd_err, flow_nx, flow_rt, flow_bk, flow_ct, flow_exc, end_nx, end_rt, end_exc, e_var, g_0, g_s, e_cst, e_bin, e_neg, e_not, e_cmp, e_chain, e_and, e_or, e_ite, e_tup, e_lst, e_lstM, e_lstS, e_dct, e_idx, e_slc, e_rev, e_isi, e_blt, e_call, e_lc, l_nil, l_cons, l_star, t_nil, t_cons, o_no, o_so, i_seq, i_rng1, i_rng2, i_zip, i_enum, k_neg, k_int, k_seqT, k_seqL, k_seqF, k_starT, k_starL, k_zipT, k_zipL, k_enum, k_rng, k_rng2, tr_bl, tr_int, tr_tup, tr_lst, s_nil, s_cons, x_expr, x_set, x_setT, x_par, x_setI, x_aug, x_cond, x_loop, x_while, x_ret, x_retN, x_pass, x_brk, x_cont, x_run, b_lenT, b_lenL, b_lenF, b_tupT, b_tupL, b_lstT, b_lstL, b_allL, b_anyL, b_sumL, b_abs, b_max, b_min, b_intI, b_intB, q_ii, q_ss, mapR_some, andR_ite, orR_ite, unpK, parK, augK, setIK, setTg, setAll, wipe, blt, blt0, seqOf, lstOf, cop, bop, intOp, isiD, tyOf, atP, place, Option.map_some, Option.map_none, Option.bind_some, Option.bind_none, e1, s_is_integer (k := k + 3) (d := .int n) rfl, isI, u_scaled_in, b_scaled_in]
  rw [lcM_map D.int (fun x => .int (n * x)) xs fun x hx => ⟨_, rfl, by simp [qOpt, qRet, bnd_ok, bnd_exc, bnd_err, flow_nx, flow_rt, flow_bk, flow_ct, flow_exc, end_nx, end_rt, end_exc, e_var, g_0, g_s, e_cst, e_bin, e_neg, e_not, e_cmp, e_chain, e_and, e_or, e_ite, e_tup, e_lst, e_lstM, e_lstS, e_dct, e_idx, e_slc, e_rev, e_isi, e_blt, e_call, e_lc, l_nil, l_cons, l_star, t_nil, t_cons, o_no, o_so, i_seq, i_rng1, i_rng2, i_zip, i_enum, k_neg, k_int, k_seqT, k_seqL, k_seqF, k_starT, k_starL, k_zipT, k_zipL, k_enum, k_rng, k_rng2, tr_bl, tr_int, tr_tup, tr_lst, s_nil, s_cons, x_expr, x_set, x_setT, x_par, x_setI, x_aug, x_cond, x_loop, x_while, x_ret, x_retN, x_pass, x_brk, x_cont, x_run, b_lenT, b_lenL, b_lenF, b_tupT, b_tupL, b_lstT, b_lstL, b_allL, b_anyL, b_sumL, b_abs, b_max, b_min, b_intI, b_intB, q_ii, q_ss, mapR_some, andR_ite, orR_ite, unpK, parK, augK, setIK, setTg, setAll, wipe, blt, blt0, seqOf, lstOf, cop, bop, intOp, isiD, tyOf, atP, place, Option.map_some, Option.map_none, Option.bind_some, Option.bind_none, hm x hx]⟩]
  simp [qOpt, qRet, bnd_ok, bnd_exc, bnd_err, flow_nx, flow_rt, flow_bk, flow_ct, flow_exc, end_nx, end_rt, end_exc, e_var, g_0, g_s, e_cst, e_bin, e_neg, e_not, e_cmp, e_chain, e_and, e_or, e_ite, e_tup, e_lst, e_lstM, e_lstS, e_dct, e_idx, e_slc, e_rev, e_isi, e_blt, e_call, e_lc, l_nil, l_cons, l_star, t_nil, t_cons, o_no, o_so, i_seq, i_rng1, i_rng2, i_zip, i_enum, k_neg, k_int, k_seqT, k_seqL, k_seqF, k_starT, k_starL, k_zipT, k_zipL, k_enum, k_rng, k_rng2, tr_bl, tr_int, tr_tup, tr_lst, s_nil, s_cons, x_expr, x_set, x_setT, x_par, x_setI, x_aug, x_cond, x_loop, x_while, x_ret, x_retN, x_pass, x_brk, x_cont, x_run, b_lenT, b_lenL, b_lenF, b_tupT, b_tupL, b_lstT, b_lstL, b_allL, b_anyL, b_sumL, b_abs, b_max, b_min, b_intI, b_intB, q_ii, q_ss, mapR_some, andR_ite, orR_ite, unpK, parK, augK, setIK, setTg, setAll, wipe, blt, blt0, seqOf, lstOf, cop, bop, intOp, isiD, tyOf, atP, place, Option.map_some, Option.map_none, Option.bind_some, Option.bind_none, tupleF]
theorem s_dot {xs ys : List Int} (h1 : 1 ≤ xs.length) (h2 : xs.length ≤ 5) (h : ys.length = xs.length) (hm : ∀ x ∈ xs, ∀ y ∈ ys, mulOk x y = true) : callI prog w (k + 5) 10 [iv xs, iv ys] S = .ok (.int (List.zipWith (· * ·) xs ys).sum) S := by
  rw [u_dot]
  have e1 := s_req (w := w) (k := k) (S := S) (l := [ys]) h1 h2 (by simpa using h) (by simp)
  simp only [List.map_cons, List.map_nil] at e1
  simp [b_dot, qOpt, qRet, bnd_ok, bnd_exc, bnd_err, flow_nx, flow_rt, flow_bk, flow_ct, flow_exc, end_nx, end_rt, end_exc, e_var, g_0, g_s, e_cst, e_bin, e_neg, e_not, e_cmp, e_chain, e_and, e_or, e_ite, e_tup, e_lst, e_lstM, e_lstS, e_dct, e_idx, e_slc, e_rev, e_isi, e_blt, e_call, e_lc, l_nil, l_cons, l_star, t_nil, t_cons, o_no, o_so, i_seq, i_rng1, i_rng2, i_zip, i_enum, k_neg, k_int, k_seqT, k_seqL, k_seqF, k_starT, k_starL, k_zipT, k_zipL, k_enum, k_rng, k_rng2, tr_bl, tr_int, tr_tup, tr_lst, s_nil, s_cons, x_expr, x_set, x_setT, x_par, x_setI, x_aug, x_cond, x_loop, x_while, x_ret, x_retN, x_pass, x_brk, x_cont, x_run, b_lenT, b_lenL, b_lenF, b_tupT, b_tupL, b_lstT, b_lstL, b_allL, b_anyL, b_sumL, b_abs, b_max, b_min, b_intI, b_intB, q_ii, q_ss, mapR_some, andR_ite, orR_ite, unpK, parK, augK, setIK, setTg, setAll, wipe, blt, blt0, seqOf, lstOf, cop, bop, intOp, isiD, tyOf, atP, place, Option.map_some, Option.map_none, Option.bind_some, Option.bind_none, e1, pairs_map, u_dot_in, b_dot_in]
  rw [lcM_map (fun p : Int × Int => D.tup [.int p.1, .int p.2]) (fun p => .int (p.1 * p.2)) (xs.zip ys) fun p hp => ⟨_, rfl, by simp [qOpt, qRet, bnd_ok, bnd_exc, bnd_err, flow_nx, flow_rt, flow_bk, flow_ct, flow_exc, end_nx, end_rt, end_exc, e_var, g_0, g_s, e_cst, e_bin, e_neg, e_not, e_cmp, e_chain, e_and, e_or, e_ite, e_tup, e_lst, e_lstM, e_lstS, e_dct, e_idx, e_slc, e_rev, e_isi, e_blt, e_call, e_lc, l_nil, l_cons, l_star, t_nil, t_cons, o_no, o_so, i_seq, i_rng1, i_rng2, i_zip, i_enum, k_neg, k_int, k_seqT, k_seqL, k_seqF, k_starT, k_starL, k_zipT, k_zipL, k_enum, k_rng, k_rng2, tr_bl, tr_int, tr_tup, tr_lst, s_nil, s_cons, x_expr, x_set, x_setT, x_par, x_setI, x_aug, x_cond, x_loop, x_while, x_ret, x_retN, x_pass, x_brk, x_cont, x_run, b_lenT, b_lenL, b_lenF, b_tupT, b_tupL, b_lstT, b_lstL, b_allL, b_anyL, b_sumL, b_abs, b_max, b_min, b_intI, b_intB, q_ii, q_ss, mapR_some, andR_ite, orR_ite, unpK, parK, augK, setIK, setTg, setAll, wipe, blt, blt0, seqOf, lstOf, cop, bop, intOp, isiD, tyOf, atP, place, Option.map_some, Option.map_none, Option.bind_some, Option.bind_none, hm p.1 (List.of_mem_zip hp).1 p.2 (List.of_mem_zip hp).2]⟩]
  simp only [qOpt, qRet, bnd_ok, bnd_exc, bnd_err, flow_nx, flow_rt, flow_bk, flow_ct, flow_exc, end_nx, end_rt, end_exc, e_var, g_0, g_s, e_cst, e_bin, e_neg, e_not, e_cmp, e_chain, e_and, e_or, e_ite, e_tup, e_lst, e_lstM, e_lstS, e_dct, e_idx, e_slc, e_rev, e_isi, e_blt, e_call, e_lc, l_nil, l_cons, l_star, t_nil, t_cons, o_no, o_so, i_seq, i_rng1, i_rng2, i_zip, i_enum, k_neg, k_int, k_seqT, k_seqL, k_seqF, k_starT, k_starL, k_zipT, k_zipL, k_enum, k_rng, k_rng2, tr_bl, tr_int, tr_tup, tr_lst, s_nil, s_cons, x_expr, x_set, x_setT, x_par, x_setI, x_aug, x_cond, x_loop, x_while, x_ret, x_retN, x_pass, x_brk, x_cont, x_run, b_lenT, b_lenL, b_lenF, b_tupT, b_tupL, b_lstT, b_lstL, b_allL, b_anyL, b_sumL, b_abs, b_max, b_min, b_intI, b_intB, q_ii, q_ss, mapR_some, andR_ite, orR_ite, unpK, parK, augK, setIK, setTg, setAll, wipe, blt, blt0, seqOf, lstOf, cop, bop, intOp, isiD, tyOf, atP, place, Option.map_some, Option.map_none, Option.bind_some, Option.bind_none, sumF]
  rw [ints_fun (fun p : Int × Int => p.1 * p.2), zip_map (fun x y : Int => x * y)]
  simp [qOpt, qRet, bnd_ok, bnd_exc, bnd_err, flow_nx, flow_rt, flow_bk, flow_ct, flow_exc, end_nx, end_rt, end_exc, e_var, g_0, g_s, e_cst, e_bin, e_neg, e_not, e_cmp, e_chain, e_and, e_or, e_ite, e_tup, e_lst, e_lstM, e_lstS, e_dct, e_idx, e_slc, e_rev, e_isi, e_blt, e_call, e_lc, l_nil, l_cons, l_star, t_nil, t_cons, o_no, o_so, i_seq, i_rng1, i_rng2, i_zip, i_enum, k_neg, k_int, k_seqT, k_seqL, k_seqF, k_starT, k_starL, k_zipT, k_zipL, k_enum, k_rng, k_rng2, tr_bl, tr_int, tr_tup, tr_lst, s_nil, s_cons, x_expr, x_set, x_setT, x_par, x_setI, x_aug, x_cond, x_loop, x_while, x_ret, x_retN, x_pass, x_brk, x_cont, x_run, b_lenT, b_lenL, b_lenF, b_tupT, b_tupL, b_lstT, b_lstL, b_allL, b_anyL, b_sumL, b_abs, b_max, b_min, b_intI, b_intB, q_ii, q_ss, mapR_some, andR_ite, orR_ite, unpK, parK, augK, setIK, setTg, setAll, wipe, blt, blt0, seqOf, lstOf, cop, bop, intOp, isiD, tyOf, atP, place, Option.map_some, Option.map_none, Option.bind_some, Option.bind_none]
end
end K02

set_option linter.all false
set_option maxRecDepth 10000
namespace K02
open Ln
open PySem (PyData)
section
variable {w k n : Nat} {S : Store}
theorem hdraw : prog[12]? = some ⟨2, false, 5, b_draw⟩ := rfl
theorem hpick : prog[13]? = some ⟨2, false, 2, b_pick 12⟩ := rfl
theorem hstream : prog[11]? = some ⟨2, false, 5, b_stream⟩ := rfl
theorem s_number (hs : Strm n S) : ∃ x S', callI prog w (k + 3) 16 [.ref n] S = .ok (.int x) S' ∧ x.natAbs < 2 ^ 131 ∧ Strm n S' := by
  obtain ⟨r1, S1, e1, a1, b1, h1, _⟩ := draw_sp (w := w) (k := k + 1) hdraw hs (t := 9) (by decide) (by decide)
  obtain ⟨r2, S2, e2, a2, b2, h2, _⟩ := draw_sp (w := w) (k := k + 1) hdraw h1 (t := 9) (by decide) (by decide)
  obtain ⟨r3, S3, e3, a3, b3, h3, _⟩ := draw_sp (w := w) (k := k + 1) hdraw h2 (t := 99) (by decide) (by decide)
  obtain ⟨d, S4, e4, m4, h4, _⟩ := pick_sp (w := w) (k := k) hdraw hpick h3 (ds := [.int (r1 - 4), .int (r2 - 4), .int (10 ^ 38 + r3), .int (1 - 10 ^ 39)]) (by simp) (by simp)
  have p1 : powOk 10 38 = true := by decide +kernel
  have p2 : powOk 10 39 = true := by decide +kernel
  have e : callI prog w (k + 3) 16 [.ref n] S = .ok d S4 := by
    rw [u__law_number]
    simp [b__law_number, qOpt, qRet, bnd_ok, bnd_exc, bnd_err, flow_nx, flow_rt, flow_bk, flow_ct, flow_exc, end_nx, end_rt, end_exc, e_var, g_0, g_s, e_cst, e_bin, e_neg, e_not, e_cmp, e_chain, e_and, e_or, e_ite, e_tup, e_lst, e_lstM, e_lstS, e_dct, e_idx, e_slc, e_rev, e_isi, e_blt, e_call, e_lc, l_nil, l_cons, l_star, t_nil, t_cons, o_no, o_so, i_seq, i_rng1, i_rng2, i_zip, i_enum, k_neg, k_int, k_seqT, k_seqL, k_seqF, k_starT, k_starL, k_zipT, k_zipL, k_enum, k_rng, k_rng2, tr_bl, tr_int, tr_tup, tr_lst, s_nil, s_cons, x_expr, x_set, x_setT, x_par, x_setI, x_aug, x_cond, x_loop, x_while, x_ret, x_retN, x_pass, x_brk, x_cont, x_run, b_lenT, b_lenL, b_lenF, b_tupT, b_tupL, b_lstT, b_lstL, b_allL, b_anyL, b_sumL, b_abs, b_max, b_min, b_intI, b_intB, q_ii, q_ss, mapR_some, andR_ite, orR_ite, unpK, parK, augK, setIK, setTg, setAll, wipe, blt, blt0, seqOf, lstOf, cop, bop, intOp, isiD, tyOf, atP, place, Option.map_some, Option.map_none, Option.bind_some, Option.bind_none, e1, e2, e3, p1, p2, -Int.reducePow, e4]
  simp only [List.mem_cons, List.not_mem_nil, or_false] at m4
  rcases m4 with rfl | rfl | rfl | rfl
  · exact ⟨_, S4, e, by omega, h4⟩
  · exact ⟨_, S4, e, by omega, h4⟩
  · exact ⟨_, S4, e, by omega, h4⟩
  · exact ⟨_, S4, e, by decide, h4⟩
theorem s_vector {size : Nat} (hz : size ≤ 1000) (hs : Strm n S) : ∃ xs S', callI prog w (k + 4) 17 [.ref n, .int size] S = .ok (iv xs) S' ∧ xs.length = size ∧ (∀ x ∈ xs, x.natAbs < 2 ^ 131) ∧ Strm n S' := by
  have hl : size ≤ line := by have : line = 2 ^ 24 := rfl; omega
  obtain ⟨ys, S', e1, h1, hl1, hp⟩ := lcM_inv (cf := callI prog w (k + 3)) (ρ := [some (.ref n), some (.int size), none]) (S := S) (elt := .call 16 (.cons (.var 0) .nil)) (tg := .nm 2) (own := [2]) (fun i : Nat => D.int i) (Strm n) (fun d => ∃ x : Int, d = .int x ∧ x.natAbs < 2 ^ 131) (List.range size) (fun i _ S hS => by
    obtain ⟨x, S', e, hx, h'⟩ := s_number (w := w) (k := k) hS
    exact ⟨_, _, S', rfl, by simp [qOpt, qRet, bnd_ok, bnd_exc, bnd_err, flow_nx, flow_rt, flow_bk, flow_ct, flow_exc, end_nx, end_rt, end_exc, e_var, g_0, g_s, e_cst, e_bin, e_neg, e_not, e_cmp, e_chain, e_and, e_or, e_ite, e_tup, e_lst, e_lstM, e_lstS, e_dct, e_idx, e_slc, e_rev, e_isi, e_blt, e_call, e_lc, l_nil, l_cons, l_star, t_nil, t_cons, o_no, o_so, i_seq, i_rng1, i_rng2, i_zip, i_enum, k_neg, k_int, k_seqT, k_seqL, k_seqF, k_starT, k_starL, k_zipT, k_zipL, k_enum, k_rng, k_rng2, tr_bl, tr_int, tr_tup, tr_lst, s_nil, s_cons, x_expr, x_set, x_setT, x_par, x_setI, x_aug, x_cond, x_loop, x_while, x_ret, x_retN, x_pass, x_brk, x_cont, x_run, b_lenT, b_lenL, b_lenF, b_tupT, b_tupL, b_lstT, b_lstL, b_allL, b_anyL, b_sumL, b_abs, b_max, b_min, b_intI, b_intB, q_ii, q_ss, mapR_some, andR_ite, orR_ite, unpK, parK, augK, setIK, setTg, setAll, wipe, blt, blt0, seqOf, lstOf, cop, bop, intOp, isiD, tyOf, atP, place, Option.map_some, Option.map_none, Option.bind_some, Option.bind_none, e], h', x, rfl, hx⟩) hs
  have : ∃ xs : List Int, ys = xs.map D.int ∧ ∀ x ∈ xs, x.natAbs < 2 ^ 131 := by
    clear e1 hl1
    induction ys with
    | nil => exact ⟨[], rfl, by simp⟩
    | cons y ys ih =>
      obtain ⟨x, rfl, hx⟩ := hp y List.mem_cons_self
      obtain ⟨xs, rfl, hxs⟩ := ih fun y hy => hp y (List.mem_cons_of_mem _ hy)
      exact ⟨x :: xs, rfl, fun z hz => (List.mem_cons.mp hz).elim (fun e => e ▸ hx) (hxs z)⟩
  obtain ⟨xs, rfl, hxs⟩ := this
  refine ⟨xs, S', ?_, by simpa using hl1, hxs, h1⟩
  rw [u__law_vector]
  simp [b__law_vector, qOpt, qRet, bnd_ok, bnd_exc, bnd_err, flow_nx, flow_rt, flow_bk, flow_ct, flow_exc, end_nx, end_rt, end_exc, e_var, g_0, g_s, e_cst, e_bin, e_neg, e_not, e_cmp, e_chain, e_and, e_or, e_ite, e_tup, e_lst, e_lstM, e_lstS, e_dct, e_idx, e_slc, e_rev, e_isi, e_blt, e_call, e_lc, l_nil, l_cons, l_star, t_nil, t_cons, o_no, o_so, i_seq, i_rng1, i_rng2, i_zip, i_enum, k_neg, k_int, k_seqT, k_seqL, k_seqF, k_starT, k_starL, k_zipT, k_zipL, k_enum, k_rng, k_rng2, tr_bl, tr_int, tr_tup, tr_lst, s_nil, s_cons, x_expr, x_set, x_setT, x_par, x_setI, x_aug, x_cond, x_loop, x_while, x_ret, x_retN, x_pass, x_brk, x_cont, x_run, b_lenT, b_lenL, b_lenF, b_tupT, b_tupL, b_lstT, b_lstL, b_allL, b_anyL, b_sumL, b_abs, b_max, b_min, b_intI, b_intB, q_ii, q_ss, mapR_some, andR_ite, orR_ite, unpK, parK, augK, setIK, setTg, setAll, wipe, blt, blt0, seqOf, lstOf, cop, bop, intOp, isiD, tyOf, atP, place, Option.map_some, Option.map_none, Option.bind_some, Option.bind_none, hl, e1, tupleF]
theorem s_odd (hs : Strm n S) : ∃ d S', callI prog w (k + 3) 14 [.ref n] S = .ok d S' ∧ okd d = true ∧ Strm n S' := by
  obtain ⟨d, S4, e4, m4, h4, _⟩ := pick_sp (w := w) (k := k) hdraw hpick hs (ds := [.non, .bl true, .bl false, .int (-1), .int 0, .int 1, .int 7, .int (10 ^ 39), .str "", .str "a", .str "b", .str "A", .tup [], .lst [], .dct [] [], .tup [.int 0], .tup [.str "a"], .lst [.int 0], .tup [.tup []], .str "a b"]) (by simp) (by decide)
  have p2 : powOk 10 39 = true := by decide +kernel
  refine ⟨d, S4, ?_, ?_, h4⟩
  · rw [u__law_odd]
    simp [b__law_odd, qOpt, qRet, bnd_ok, bnd_exc, bnd_err, flow_nx, flow_rt, flow_bk, flow_ct, flow_exc, end_nx, end_rt, end_exc, e_var, g_0, g_s, e_cst, e_bin, e_neg, e_not, e_cmp, e_chain, e_and, e_or, e_ite, e_tup, e_lst, e_lstM, e_lstS, e_dct, e_idx, e_slc, e_rev, e_isi, e_blt, e_call, e_lc, l_nil, l_cons, l_star, t_nil, t_cons, o_no, o_so, i_seq, i_rng1, i_rng2, i_zip, i_enum, k_neg, k_int, k_seqT, k_seqL, k_seqF, k_starT, k_starL, k_zipT, k_zipL, k_enum, k_rng, k_rng2, tr_bl, tr_int, tr_tup, tr_lst, s_nil, s_cons, x_expr, x_set, x_setT, x_par, x_setI, x_aug, x_cond, x_loop, x_while, x_ret, x_retN, x_pass, x_brk, x_cont, x_run, b_lenT, b_lenL, b_lenF, b_tupT, b_tupL, b_lstT, b_lstL, b_allL, b_anyL, b_sumL, b_abs, b_max, b_min, b_intI, b_intB, q_ii, q_ss, mapR_some, andR_ite, orR_ite, unpK, parK, augK, setIK, setTg, setAll, wipe, blt, blt0, seqOf, lstOf, cop, bop, intOp, isiD, tyOf, atP, place, Option.map_some, Option.map_none, Option.bind_some, Option.bind_none, p2, -Int.reducePow, e4]
  · simp only [List.mem_cons, List.not_mem_nil, or_false] at m4
    rcases m4 with rfl | rfl | rfl | rfl | rfl | rfl | rfl | rfl | rfl | rfl | rfl | rfl | rfl | rfl | rfl | rfl | rfl | rfl | rfl | rfl <;> rfl
end
end K02

set_option linter.all false
set_option maxRecDepth 10000
namespace K02
open Ln
open PySem (PyData)
theorem cut_len {α : Type} (xs : List α) (lo hi : Option Int) : (cut xs lo hi).length ≤ xs.length := by
  unfold cut
  rw [List.length_take, List.length_drop]
  omega
theorem cut_mem {α : Type} {xs : List α} {lo hi : Option Int} {x : α} (h : x ∈ cut xs lo hi) : x ∈ xs := List.mem_of_mem_drop (List.mem_of_mem_take h)
theorem le_line_big {n : Nat} (h : n ≤ 16000000) : n ≤ line := by have : line = 2 ^ 24 := rfl; omega
theorem le_line {n : Nat} (h : n ≤ 1000000) : n ≤ line := by have : line = 2 ^ 24 := rfl; omega
section
variable {w k n : Nat} {S : Store}
theorem okd_plains {xs : List D} (h : ∀ d ∈ xs, plain d = true) : okd (.tup xs) = true := by simpa [okd] using h
theorem s_bent_int {v : Int} {deep : Int} (hv : v.natAbs < 2 ^ 200) (hs : Strm n S) : ∃ d S', callI prog w (k + 3) 15 [.ref n, .int v, .int deep] S = .ok d S' ∧ okd d = true ∧ plain d = true ∧ Strm n S' := by
  have hl : v.natAbs.log2 < 1920 := Nat.lt_of_lt_of_le (log2_lt hv (by decide)) (by decide)
  have m : mulOk 2 v = true := mulOk_l (by decide) (by decide)
  obtain ⟨d, S4, e4, m4, h4, _⟩ := pick_sp (w := w) (k := k) hdraw hpick hs (ds := [.int (v + 1), .int (v - 1), .int (0 - v), .bl (decide (v = 1)), .str (toString v : String), .tup [.int v], .int (2 * v)]) (by simp) (by simp)
  refine ⟨d, S4, ?_, ?_, ?_, h4⟩
  · rw [u__law_bent]
    simp only [Int.zero_sub, show toString v = v.repr from rfl] at e4
    simp [b__law_bent, qOpt, qRet, bnd_ok, bnd_exc, bnd_err, flow_nx, flow_rt, flow_bk, flow_ct, flow_exc, end_nx, end_rt, end_exc, e_var, g_0, g_s, e_cst, e_bin, e_neg, e_not, e_cmp, e_chain, e_and, e_or, e_ite, e_tup, e_lst, e_lstM, e_lstS, e_dct, e_idx, e_slc, e_rev, e_isi, e_blt, e_call, e_lc, l_nil, l_cons, l_star, t_nil, t_cons, o_no, o_so, i_seq, i_rng1, i_rng2, i_zip, i_enum, k_neg, k_int, k_seqT, k_seqL, k_seqF, k_starT, k_starL, k_zipT, k_zipL, k_enum, k_rng, k_rng2, tr_bl, tr_int, tr_tup, tr_lst, s_nil, s_cons, x_expr, x_set, x_setT, x_par, x_setI, x_aug, x_cond, x_loop, x_while, x_ret, x_retN, x_pass, x_brk, x_cont, x_run, b_lenT, b_lenL, b_lenF, b_tupT, b_tupL, b_lstT, b_lstL, b_allL, b_anyL, b_sumL, b_abs, b_max, b_min, b_intI, b_intB, q_ii, q_ss, mapR_some, andR_ite, orR_ite, unpK, parK, augK, setIK, setTg, setAll, wipe, blt, blt0, seqOf, lstOf, cop, bop, intOp, isiD, tyOf, atP, place, Option.map_some, Option.map_none, Option.bind_some, Option.bind_none, m, strF, hl, eqD, e4]
  · simp only [List.mem_cons, List.not_mem_nil, or_false] at m4
    rcases m4 with rfl | rfl | rfl | rfl | rfl | rfl | rfl <;> rfl
  · simp only [List.mem_cons, List.not_mem_nil, or_false] at m4
    rcases m4 with rfl | rfl | rfl | rfl | rfl | rfl | rfl <;> rfl
theorem s_bent_vec {xs : List Int} (h1 : 1 ≤ xs.length) (h2 : xs.length ≤ 5) (hx : ∀ x ∈ xs, x.natAbs < 2 ^ 200) (hs : Strm n S) : ∃ d S', callI prog w (k + 4) 15 [.ref n, iv xs, .int 2] S = .ok d S' ∧ okd d = true ∧ Strm n S' := by
  have hne : ∀ S, eqD S (iv xs) (.tup []) = some false := fun S => by
    have := eqD_ints (S := S) xs []
    rw [List.map_nil] at this
    rw [this]
    cases xs with
    | nil => simp at h1
    | cons => rfl
  have pl : ∀ d ∈ xs.map D.int, plain d = true := fun d hd => by
    obtain ⟨x, _, rfl⟩ := List.mem_map.mp hd
    rfl
  have hlen : (xs.map D.int).length ≤ 5 := by simpa using h2
  have hl0 : (xs.map D.int).length = xs.length := by simp
  obtain ⟨r, S1, e1, r0, r1, s1, _⟩ := draw_sp (w := w) (k := k + 2) hdraw hs (t := 4) (by decide) (by decide)
  by_cases hr : 0 < r
  · obtain ⟨a, S2, e2, a0, a1, s2, _⟩ := draw_sp (w := w) (k := k + 2) hdraw s1 (t := (xs.length : Int)) (by omega) (by
      rw [Int.natAbs_natCast]
      exact Nat.lt_of_le_of_lt (Nat.log2_le_self _) (by omega))
    obtain ⟨q, rfl⟩ : ∃ q : Nat, a = q := ⟨a.toNat, by omega⟩
    have hq : q < xs.length := by omega
    obtain ⟨d, S3, e3, d1, d2, s3⟩ := s_bent_int (w := w) (k := k) (v := xs[q]) (deep := 1) (hx _ (List.getElem_mem hq)) s2
    have cA := cut_len (xs.map D.int) none (some (q : Int))
    have cB := cut_len (xs.map D.int) (some ((q : Int) + 1)) none
    have mA : ∀ x ∈ cut (xs.map D.int) none (some (q : Int)), plain x = true := fun x hx => pl x (cut_mem hx)
    have mB : ∀ x ∈ cut (xs.map D.int) (some ((q : Int) + 1)) none, plain x = true := fun x hx => pl x (cut_mem hx)
    generalize hA : cut (xs.map D.int) none (some (q : Int)) = A at cA mA
    generalize hB : cut (xs.map D.int) (some ((q : Int) + 1)) none = B at cB mB
    have l1 : A.length + 1 ≤ line := le_line (by omega)
    have l2 : A.length + 1 + B.length ≤ line := le_line (by omega)
    have l3 : A.length + (B.length + 1) ≤ line := le_line (by omega)
    refine ⟨.tup (A ++ [d] ++ B), S3, ?_, okd_plains fun x hx => ?_, s3⟩
    · rw [u__law_bent]
      simp [b__law_bent, qOpt, qRet, bnd_ok, bnd_exc, bnd_err, flow_nx, flow_rt, flow_bk, flow_ct, flow_exc, end_nx, end_rt, end_exc, e_var, g_0, g_s, e_cst, e_bin, e_neg, e_not, e_cmp, e_chain, e_and, e_or, e_ite, e_tup, e_lst, e_lstM, e_lstS, e_dct, e_idx, e_slc, e_rev, e_isi, e_blt, e_call, e_lc, l_nil, l_cons, l_star, t_nil, t_cons, o_no, o_so, i_seq, i_rng1, i_rng2, i_zip, i_enum, k_neg, k_int, k_seqT, k_seqL, k_seqF, k_starT, k_starL, k_zipT, k_zipL, k_enum, k_rng, k_rng2, tr_bl, tr_int, tr_tup, tr_lst, s_nil, s_cons, x_expr, x_set, x_setT, x_par, x_setI, x_aug, x_cond, x_loop, x_while, x_ret, x_retN, x_pass, x_brk, x_cont, x_run, b_lenT, b_lenL, b_lenF, b_tupT, b_tupL, b_lstT, b_lstL, b_allL, b_anyL, b_sumL, b_abs, b_max, b_min, b_intI, b_intB, q_ii, q_ss, mapR_some, andR_ite, orR_ite, unpK, parK, augK, setIK, setTg, setAll, wipe, blt, blt0, seqOf, lstOf, cop, bop, intOp, isiD, tyOf, atP, place, Option.map_some, Option.map_none, Option.bind_some, Option.bind_none, hne, e1, hr, lenF, e2, slcD, hA, idxD, hq, e3, hB, l1, l2, l3]
    · simp only [List.mem_append, List.mem_singleton] at hx
      rcases hx with (hx | rfl) | hx
      · exact mA x hx
      · exact d2
      · exact mB x hx
  · obtain ⟨a, S2, e2, a0, a1, s2, _⟩ := draw_sp (w := w) (k := k + 2) hdraw s1 (t := (xs.length : Int) + 1) (by omega) (by
      have := Nat.log2_le_self (xs.length + 1)
      have e : ((xs.length : Int) + 1).natAbs = xs.length + 1 := by omega
      rw [e]
      omega)
    obtain ⟨q, rfl⟩ : ∃ q : Nat, a = q := ⟨a.toNat, by omega⟩
    have cA := cut_len (xs.map D.int) none (some (q : Int))
    have cB := cut_len (xs.map D.int) (some ((q : Int) + 1)) none
    have cC := cut_len (xs.map D.int) (some (q : Int)) none
    have cE := cut_len (xs.map D.int) (some (-1)) none
    have cF := cut_len (xs.map D.int) none (some 1)
    have mA : ∀ x ∈ cut (xs.map D.int) none (some (q : Int)), plain x = true := fun x hx => pl x (cut_mem hx)
    have mB : ∀ x ∈ cut (xs.map D.int) (some ((q : Int) + 1)) none, plain x = true := fun x hx => pl x (cut_mem hx)
    have mC : ∀ x ∈ cut (xs.map D.int) (some (q : Int)) none, plain x = true := fun x hx => pl x (cut_mem hx)
    have mE : ∀ x ∈ cut (xs.map D.int) (some (-1)) none, plain x = true := fun x hx => pl x (cut_mem hx)
    have mF : ∀ x ∈ cut (xs.map D.int) none (some 1), plain x = true := fun x hx => pl x (cut_mem hx)
    generalize hA : cut (xs.map D.int) none (some (q : Int)) = A at cA mA
    generalize hB : cut (xs.map D.int) (some ((q : Int) + 1)) none = B at cB mB
    generalize hC : cut (xs.map D.int) (some (q : Int)) none = C at cC mC
    generalize hE : cut (xs.map D.int) (some (-1)) none = T at cE mE
    generalize hF : cut (xs.map D.int) none (some 1) = F at cF mF
    have l1 : A.length + 1 ≤ line := le_line (by omega)
    have l2 : A.length + 1 + C.length ≤ line := le_line (by omega)
    have l3 : A.length + (C.length + 1) ≤ line := le_line (by omega)
    have l4 : A.length + B.length ≤ line := le_line (by omega)
    have l5 : xs.length + T.length ≤ line := le_line (by omega)
    have l6 : A.length + F.length ≤ line := le_line (by omega)
    have l7 : A.length + F.length + C.length ≤ line := le_line (by omega)
    have l8 : A.length + (F.length + C.length) ≤ line := le_line (by omega)
    have l9 : (8 : Nat) ≤ line := le_line (by omega)
    obtain ⟨d, S3, e3, m3, s3, _⟩ := pick_sp (w := w) (k := k + 1) hdraw hpick s2 (ds := [.lst (xs.map .int), .tup (A ++ B), .tup (A ++ [.int 0] ++ C), .tup (xs.map D.int).reverse, .tup (xs.map .int ++ T), .tup [iv xs], .tup [], .tup (A ++ F ++ C)]) (by simp) (by simp)
    refine ⟨d, S3, ?_, ?_, s3⟩
    · rw [u__law_bent]
      simp only [List.append_assoc, List.cons_append, List.nil_append] at e3
      simp [b__law_bent, qOpt, qRet, bnd_ok, bnd_exc, bnd_err, flow_nx, flow_rt, flow_bk, flow_ct, flow_exc, end_nx, end_rt, end_exc, e_var, g_0, g_s, e_cst, e_bin, e_neg, e_not, e_cmp, e_chain, e_and, e_or, e_ite, e_tup, e_lst, e_lstM, e_lstS, e_dct, e_idx, e_slc, e_rev, e_isi, e_blt, e_call, e_lc, l_nil, l_cons, l_star, t_nil, t_cons, o_no, o_so, i_seq, i_rng1, i_rng2, i_zip, i_enum, k_neg, k_int, k_seqT, k_seqL, k_seqF, k_starT, k_starL, k_zipT, k_zipL, k_enum, k_rng, k_rng2, tr_bl, tr_int, tr_tup, tr_lst, s_nil, s_cons, x_expr, x_set, x_setT, x_par, x_setI, x_aug, x_cond, x_loop, x_while, x_ret, x_retN, x_pass, x_brk, x_cont, x_run, b_lenT, b_lenL, b_lenF, b_tupT, b_tupL, b_lstT, b_lstL, b_allL, b_anyL, b_sumL, b_abs, b_max, b_min, b_intI, b_intB, q_ii, q_ss, mapR_some, andR_ite, orR_ite, unpK, parK, augK, setIK, setTg, setAll, wipe, blt, blt0, seqOf, lstOf, cop, bop, intOp, isiD, tyOf, atP, place, Option.map_some, Option.map_none, Option.bind_some, Option.bind_none, hne, e1, hr, lenF, listF, revD, e2, slcD, hA, hB, hC, hE, hF, l1, l2, l3, l4, l5, l6, l7, l8, l9, e3]
    · simp only [List.mem_cons, List.not_mem_nil, or_false] at m3
      rcases m3 with rfl | rfl | rfl | rfl | rfl | rfl | rfl | rfl
      · rfl
      · refine okd_plains fun x hx => ?_
        rcases List.mem_append.mp hx with hx | hx
        · exact mA x hx
        · exact mB x hx
      · refine okd_plains fun x hx => ?_
        simp only [List.mem_append, List.mem_singleton] at hx
        rcases hx with (hx | rfl) | hx
        · exact mA x hx
        · rfl
        · exact mC x hx
      · exact okd_plains fun x hx => pl x (List.mem_reverse.mp hx)
      · refine okd_plains fun x hx => ?_
        rcases List.mem_append.mp hx with hx | hx
        · exact pl x hx
        · exact mE x hx
      · rfl
      · rfl
      · refine okd_plains fun x hx => ?_
        simp only [List.mem_append] at hx
        rcases hx with (hx | hx) | hx
        · exact mA x hx
        · exact mF x hx
        · exact mC x hx
end
end K02

set_option linter.all false
set_option maxRecDepth 10000
namespace K02
open Ln
open PySem (PyData)
/-! ### plain lists of intsD -/
def Bd (N : Nat) (l : List Int) : Prop := ∀ x ∈ l, x.natAbs < 2 ^ N
theorem mem_zw {f : Int → Int → Int} : ∀ {a b : List Int} {x : Int}, x ∈ List.zipWith f a b → ∃ u ∈ a, ∃ v ∈ b, x = f u v
  | [], _, _, h => by simp at h
  | _ :: _, [], _, h => by simp at h
  | u :: a, v :: b, x, h => by
    rw [List.zipWith_cons_cons] at h
    rcases List.mem_cons.mp h with rfl | h
    · exact ⟨u, List.mem_cons_self, v, List.mem_cons_self, rfl⟩
    · obtain ⟨u', hu, v', hv, e⟩ := mem_zw h
      exact ⟨u', List.mem_cons_of_mem _ hu, v', List.mem_cons_of_mem _ hv, e⟩
theorem Bd.add {N : Nat} {a b : List Int} (ha : Bd N a) (hb : Bd N b) : Bd (N + 1) (List.zipWith (· + ·) a b) := fun x hx => by
  obtain ⟨u, hu, v, hv, rfl⟩ := mem_zw hx
  have := ha u hu
  have := hb v hv
  rw [Nat.pow_succ]
  omega
theorem Bd.sub {N : Nat} {a b : List Int} (ha : Bd N a) (hb : Bd N b) : Bd (N + 1) (List.zipWith (· - ·) a b) := fun x hx => by
  obtain ⟨u, hu, v, hv, rfl⟩ := mem_zw hx
  have := ha u hu
  have := hb v hv
  rw [Nat.pow_succ]
  omega
theorem mul_bd {u v : Int} {N M : Nat} (h1 : u.natAbs < 2 ^ N) (h2 : v.natAbs < 2 ^ M) : (u * v).natAbs < 2 ^ (N + M) := by
  rw [Int.natAbs_mul, Nat.pow_add]
  exact Nat.mul_lt_mul'' h1 h2
theorem Bd.scale {N M : Nat} {n : Int} {a : List Int} (hn : n.natAbs < 2 ^ M) (ha : Bd N a) : Bd (M + N) (a.map (n * ·)) := fun x hx => by
  obtain ⟨u, hu, rfl⟩ := List.mem_map.mp hx
  exact mul_bd hn (ha u hu)
theorem Bd.mul {N M : Nat} {a b : List Int} (ha : Bd N a) (hb : Bd M b) : Bd (N + M) (List.zipWith (· * ·) a b) := fun x hx => by
  obtain ⟨u, hu, v, hv, rfl⟩ := mem_zw hx
  exact mul_bd (ha u hu) (hb v hv)
theorem Bd.up {N M : Nat} {a : List Int} (h : Bd N a) (l : N ≤ M) : Bd M a := fun x hx => Nat.lt_of_lt_of_le (h x hx) (Nat.pow_le_pow_right (by decide) l)
theorem Bd.sum {N : Nat} : ∀ {l : List Int}, Bd N l → l.sum.natAbs ≤ l.length * 2 ^ N
  | [], _ => by simp
  | x :: l, h => by
    have h1 := h x List.mem_cons_self
    have h2 := Bd.sum (l := l) fun y hy => h y (List.mem_cons_of_mem _ hy)
    rw [List.sum_cons, List.length_cons, Nat.add_mul, Nat.one_mul]
    omega
theorem mulOk_sm {x y : Int} {N M : Nat} (hx : x.natAbs < 2 ^ N) (hy : y.natAbs < 2 ^ M) (h1 : N ≤ 10000) (h2 : M ≤ 10000) : mulOk x y = true := by
  have a : x.natAbs.log2 < N + 1 := log2_lt (Nat.lt_of_lt_of_le hx (Nat.pow_le_pow_right (by decide) (Nat.le_succ _))) (Nat.succ_pos _)
  have b : y.natAbs.log2 < M + 1 := log2_lt (Nat.lt_of_lt_of_le hy (Nat.pow_le_pow_right (by decide) (Nat.le_succ _))) (Nat.succ_pos _)
  unfold mulOk
  simp only [Bool.or_eq_true, decide_eq_true_eq]
  exact .inr (by omega)
theorem range_zw (f : Int → Int → Int) : ∀ (a b : List Int), b.length = a.length → (List.range a.length).map (fun i => f (a.getD i 0) (b.getD i 0)) = List.zipWith f a b
  | [], _, _ => by simp
  | _ :: _, [], h => by simp at h
  | x :: a, y :: b, h => by
    have h' : b.length = a.length := by simpa using h
    rw [List.length_cons, List.range_succ_eq_map, List.map_cons, List.map_map, List.zipWith_cons_cons, ← range_zw f a b h']
    rfl
theorem range_dot : ∀ (a b : List Int) (acc : Int), b.length = a.length → (List.range a.length).foldl (fun acc i => acc + a.getD i 0 * b.getD i 0) acc = acc + (List.zipWith (· * ·) a b).sum
  | [], _, _, _ => by simp
  | _ :: _, [], _, h => by simp at h
  | x :: a, y :: b, acc, h => by
    have h' : b.length = a.length := by simpa using h
    rw [List.length_cons, List.range_succ_eq_map, List.foldl_cons, List.foldl_map, List.zipWith_cons_cons, List.sum_cons, ← Int.add_assoc]
    exact range_dot a b _ h'
theorem range_zw3 : ∀ (a b c : List Int), b.length = a.length → c.length = a.length → (List.range a.length).map (fun i => a.getD i 0 + b.getD i 0 + c.getD i 0) = vadd (vadd a b) c
  | [], _, _, _, _ => by simp [vadd]
  | _ :: _, [], _, h, _ => by simp at h
  | _ :: _, _ :: _, [], _, h => by simp at h
  | x :: a, y :: b, z :: c, h, h2 => by
    have h' : b.length = a.length := by simpa using h
    have h2' : c.length = a.length := by simpa using h2
    have ih := range_zw3 a b c h' h2'
    rw [List.length_cons, List.range_succ_eq_map, List.map_cons, List.map_map]
    show _ :: _ = (x + y + z) :: vadd (vadd a b) c
    rw [← ih]
    rfl
theorem sub_add : ∀ (a b : List Int), b.length = a.length → vadd (List.zipWith (· - ·) a b) b = a
  | [], _, _ => by simp [vadd]
  | _ :: _, [], h => by simp at h
  | x :: a, y :: b, h => by
    have h' : b.length = a.length := by simpa using h
    have ih := sub_add a b h'
    show (x - y + y) :: vadd (List.zipWith (· - ·) a b) b = x :: a
    rw [ih, Int.sub_add_cancel]
theorem dot_lin (f : Int) : ∀ (a b c : List Int), b.length = a.length → c.length = a.length → (List.zipWith (· * ·) (a.map (f * ·)) (vadd b c)).sum = f * ((List.zipWith (· * ·) a b).sum + (List.zipWith (· * ·) a c).sum)
  | [], _, _, _, _ => by simp
  | _ :: _, [], _, h, _ => by simp at h
  | _ :: _, _ :: _, [], _, h => by simp at h
  | x :: a, y :: b, z :: c, h, h2 => by
    have h' : b.length = a.length := by simpa using h
    have h2' : c.length = a.length := by simpa using h2
    have ih := dot_lin f a b c h' h2'
    show (f * x * (y + z) + (List.zipWith (· * ·) (a.map (f * ·)) (vadd b c)).sum) = f * ((x * y + (List.zipWith (· * ·) a b).sum) + (x * z + (List.zipWith (· * ·) a c).sum))
    rw [ih]
    simp only [Int.mul_add, Int.mul_assoc]
    omega
theorem four : ∀ a : List Int, vadd (vadd (vadd a a) a) a = a.map (4 * ·)
  | [] => rfl
  | x :: a => by
    show (x + x + x + x) :: vadd (vadd (vadd a a) a) a = 4 * x :: a.map (4 * ·)
    rw [four a, show x + x + x + x = 4 * x by omega]
theorem zeros : ∀ a : List Int, (a.map (0 * ·)) = List.replicate a.length 0
  | [] => rfl
  | x :: a => by
    rw [List.map_cons, zeros a, Int.zero_mul]
    rfl
end K02

set_option linter.all false
set_option maxRecDepth 10000
namespace K02
open Ln
open PySem (PyData)
section
variable {w k n : Nat} {S : Store}
def rs (l : List Int) : PySem.Str := (PyData.tuple (l.map .int)).shown
theorem rp {l : List Int} {N : Nat} (h1 : l.length ≤ 1000) (h2 : Bd N l) (hN : N ≤ 1900) : reprF S [.tup (l.map D.int)] = some (.str (rs l)) := by
  refine repr_sm (dat_ints l) ?_ ?_
  · rw [fine]
    exact fines_ints fun x hx => Nat.lt_of_lt_of_le (log2_lt (Nat.lt_of_lt_of_le (h2 x hx) (Nat.pow_le_pow_right (by decide) (Nat.le_succ N))) (Nat.succ_pos N)) (by omega)
  · rw [cost, costs_ints]
    exact le_line_big (by omega)
theorem rpi {v : Int} {N : Nat} (h : v.natAbs < 2 ^ N) (hN : N ≤ 1900) : reprF S [.int v] = some (.str (PyData.int v).shown) :=
  repr_sm toP_int (by
    rw [fine]
    exact decide_eq_true (Nat.lt_of_lt_of_le (log2_lt (Nat.lt_of_lt_of_le h (Nat.pow_le_pow_right (by decide) (Nat.le_succ N))) (Nat.succ_pos N)) (by omega))) (by rw [cost]; exact le_line_big (by omega))
theorem range_zw3' (a b c : List Int) (h : b.length = a.length) (h2 : c.length = a.length) : (List.range a.length).map (fun i => D.int (a.getD i 0 + b.getD i 0 + c.getD i 0)) = (vadd (vadd a b) c).map D.int := by
  rw [← range_zw3 a b c h h2, List.map_map]
  rfl
theorem range_zw' (f : Int → Int → Int) (a b : List Int) (h : b.length = a.length) : (List.range a.length).map (fun i => D.int (f (a.getD i 0) (b.getD i 0))) = (List.zipWith f a b).map D.int := by
  rw [← range_zw f a b h, List.map_map]
  rfl
theorem at_ {a : List Int} {i : Nat} (h : i < a.length) : (a.map D.int)[i]? = some (.int (a.getD i 0)) := by
  rw [List.getElem?_map, List.getElem?_eq_getElem h, List.getD_eq_getElem?_getD, List.getElem?_eq_getElem h]
  rfl
theorem ix {a : List Int} {i : Nat} (h : i < a.length) : idxD S (.tup (a.map D.int)) (.int i) = some (.int (a.getD i 0)) := by
  have z := at_ h
  simp [idxD, seqOf, atP, place, h] at z ⊢
theorem s_sums {a b c : List Int} (h1 : 1 ≤ a.length) (h2 : a.length ≤ 5) (hb : b.length = a.length) (hc : c.length = a.length) (ba : Bd 131 a) (bb : Bd 131 b) (bc : Bd 131 c) (hs : Strm n S) :
    ∃ S', callI prog w (k + 6) 19 [.ref n, iv a, iv b, iv c] S = .ok (.bl true) S' ∧ Strm n S' := by
  obtain ⟨x, S1, e1, hx, s1⟩ := s_number (w := w) (k := k + 2) hs
  obtain ⟨r, S2, e2, r0, r1, s2, _⟩ := draw_sp (w := w) (k := k + 4) hdraw s1 (t := 9) (by decide) (by decide)
  have lz : (List.zipWith (· - ·) a b).length = a.length := by simp [hb]
  have lv : (vadd b c).length = a.length := by simp [vadd, hb, hc]
  have bP : Bd 134 (vadd (vadd a b) c) := ((ba.add bb).add (bc.up (by decide))).up (by decide)
  have bM : Bd 132 (List.zipWith (· - ·) a b) := ba.sub bb
  have bT : Bd 262 (a.map (x * ·)) := ba.scale hx
  have bD : Bd 262 (List.zipWith (· * ·) a b) := ba.mul bb
  have hlP : (vadd (vadd a b) c).length ≤ 5 := by simp [vadd, hb, hc]; omega
  have p3 := s_plus (w := w) (k := k) (S := S1) (xs := a) (l := [b, c]) h1 h2 (by simp [hb, hc]) (by simp)
  have p1 := s_plus (w := w) (k := k) (S := S1) (xs := a) (l := []) h1 h2 (by simp) (by simp)
  have mi := s_minus (w := w) (k := k) (S := S1) (xs := a) (ys := b) h1 h2 hb
  have ti := s_times (w := w) (k := k) (S := S1) (n := x) (xs := a) h1 h2 (fun y hy => mulOk_sm hx (ba y hy) (by decide) (by decide))
  have dt := s_dot (w := w) (k := k) (S := S1) (xs := a) (ys := b) h1 h2 hb (fun y hy z hz => mulOk_sm (ba y hy) (bb z hz) (by decide) (by decide))
  have pm := s_plus (w := w) (k := k) (S := S1) (xs := List.zipWith (· - ·) a b) (l := [b]) (by omega) (by omega) (by simp [hb]) (by simp)
  simp only [List.map_cons, List.map_nil, List.foldl_cons, List.foldl_nil] at p3 p1 pm
  have sa : vadd (List.zipWith (· - ·) a b) b = a := sub_add a b hb
  rw [sa] at pm
  have hf : (r - 4).natAbs < 2 ^ 3 := by omega
  have ti2 := s_times (w := w) (k := k) (S := S2) (n := r - 4) (xs := a) h1 h2 (fun y hy => mulOk_sm hf (ba y hy) (by decide) (by decide))
  have bT2 : Bd 134 (a.map ((r - 4) * ·)) := ba.scale hf
  have pl2 := s_plus (w := w) (k := k) (S := S2) (xs := b) (l := [c]) (by omega) (by omega) (by simp [hb, hc]) (by simp)
  have bV : Bd 132 (vadd b c) := bb.add bc
  have dt2 := s_dot (w := w) (k := k) (S := S2) (xs := a.map ((r - 4) * ·)) (ys := vadd b c) (by simpa using h1) (by simpa using h2) (by simp [lv]) (fun y hy z hz => mulOk_sm (bT2 y hy) (bV z hz) (by decide) (by decide))
  have dt3 := s_dot (w := w) (k := k) (S := S2) (xs := a) (ys := b) h1 h2 hb (fun y hy z hz => mulOk_sm (ba y hy) (bb z hz) (by decide) (by decide))
  have dt4 := s_dot (w := w) (k := k) (S := S2) (xs := a) (ys := c) h1 h2 hc (fun y hy z hz => mulOk_sm (ba y hy) (bc z hz) (by decide) (by decide))
  rw [dot_lin (r - 4) a b c hb hc] at dt2
  have ti0 := s_times (w := w) (k := k) (S := S2) (n := 0) (xs := a) h1 h2 (fun y hy => mulOk_l (by decide) (by decide))
  have ti4 := s_times (w := w) (k := k) (S := S2) (n := 4) (xs := a) h1 h2 (fun y hy => mulOk_l (by decide) (by decide))
  have p4 := s_plus (w := w) (k := k) (S := S2) (xs := a) (l := [a, a, a]) h1 h2 (by simp) (by simp)
  simp only [List.map_cons, List.map_nil, List.foldl_cons, List.foldl_nil] at pl2 p4
  rw [four] at p4
  rw [zeros] at ti0
  have hl : a.length ≤ line := le_line (by omega)
  have hm : ∀ u : Int, mulOk (r - 4) u = true := fun u => mulOk_l (by omega) (by omega)
  have rt := rp (S := S1) (show (a.map (x * ·)).length ≤ 1000 by simp; omega) bT (by decide)
  have h3 : decide (-1000 ≤ (a.length : Int)) = true := decide_eq_true (by omega)
  have h4 : decide ((a.length : Int) ≤ 1000) = true := decide_eq_true (by omega)
  have h5 : ∀ m : Nat, (List.replicate m [D.int 0]).flatten = (List.replicate m (0 : Int)).map D.int := fun m => by
    induction m with
    | zero => rfl
    | succ m ih => rw [List.replicate_succ, List.flatten_cons, ih]; rfl
  have h6 : decide ((1 : Nat) ≤ 1000) = true := by decide
  refine ⟨S2, ?_, s2⟩
  rw [u__law_sums_right]
  simp only [b__law_sums_right, qOpt, qRet, bnd_ok, bnd_exc, bnd_err, flow_nx, flow_rt, flow_bk, flow_ct, flow_exc, end_nx, end_rt, end_exc, e_var, g_0, g_s, e_cst, e_bin, e_neg, e_not, e_cmp, e_chain, e_and, e_or, e_ite, e_tup, e_lst, e_lstM, e_lstS, e_dct, e_idx, e_slc, e_rev, e_isi, e_blt, e_call, e_lc, l_nil, l_cons, l_star, t_nil, t_cons, o_no, o_so, i_seq, i_rng1, i_rng2, i_zip, i_enum, k_neg, k_int, k_seqT, k_seqL, k_seqF, k_starT, k_starL, k_zipT, k_zipL, k_enum, k_rng, k_rng2, tr_bl, tr_int, tr_tup, tr_lst, s_nil, s_cons, x_expr, x_set, x_setT, x_par, x_setI, x_aug, x_cond, x_loop, x_while, x_ret, x_retN, x_pass, x_brk, x_cont, x_run, b_lenT, b_lenL, b_lenF, b_tupT, b_tupL, b_lstT, b_lstL, b_allL, b_anyL, b_sumL, b_abs, b_max, b_min, b_intI, b_intB, q_ii, q_ss, mapR_some, andR_ite, orR_ite, unpK, parK, augK, setIK, setTg, setAll, wipe, blt, blt0, seqOf, lstOf, cop, bop, intOp, isiD, tyOf, atP, place, Option.map_some, Option.map_none, Option.bind_some, Option.bind_none, eq_self, Int.reduceLE, Int.reduceLT, Int.reduceNeg, Int.reduceEq, Int.reduceToNat, Int.reduceAdd, Int.reduceSub, Nat.reduceLeDiff, reduceIte,  List.flatten_cons, List.flatten_nil, List.length_map, List.map_cons, List.map_nil, List.length_cons, List.length_nil, List.replicate_succ, List.replicate_zero, List.cons_append, List.nil_append, List.append_nil, List.set_cons_zero, List.set_cons_succ, Bool.not_true, Bool.not_false, if_true, if_false, ite_true, ite_false, Bool.false_eq_true, decide_true, decide_false, Bool.or_true, Bool.true_or, Bool.or_false, Bool.false_or, Bool.and_true, Bool.true_and, Bool.and_false, Bool.false_and, decide_eq_true_eq, Nat.reduceAdd, Nat.reduceSub, Nat.zero_add, Function.comp_apply, e1, hl]
  rw [lcM_map (fun i : Nat => D.int i) (fun i => .int (a.getD i 0 + b.getD i 0 + c.getD i 0)) (List.range a.length) fun i hi => by
    have hi : i < a.length := List.mem_range.mp hi
    have hib : i < b.length := by omega
    have hic : i < c.length := by omega
    exact ⟨_, rfl, by simp only [qOpt, qRet, bnd_ok, bnd_exc, bnd_err, flow_nx, flow_rt, flow_bk, flow_ct, flow_exc, end_nx, end_rt, end_exc, e_var, g_0, g_s, e_cst, e_bin, e_neg, e_not, e_cmp, e_chain, e_and, e_or, e_ite, e_tup, e_lst, e_lstM, e_lstS, e_dct, e_idx, e_slc, e_rev, e_isi, e_blt, e_call, e_lc, l_nil, l_cons, l_star, t_nil, t_cons, o_no, o_so, i_seq, i_rng1, i_rng2, i_zip, i_enum, k_neg, k_int, k_seqT, k_seqL, k_seqF, k_starT, k_starL, k_zipT, k_zipL, k_enum, k_rng, k_rng2, tr_bl, tr_int, tr_tup, tr_lst, s_nil, s_cons, x_expr, x_set, x_setT, x_par, x_setI, x_aug, x_cond, x_loop, x_while, x_ret, x_retN, x_pass, x_brk, x_cont, x_run, b_lenT, b_lenL, b_lenF, b_tupT, b_tupL, b_lstT, b_lstL, b_allL, b_anyL, b_sumL, b_abs, b_max, b_min, b_intI, b_intB, q_ii, q_ss, mapR_some, andR_ite, orR_ite, unpK, parK, augK, setIK, setTg, setAll, wipe, blt, blt0, seqOf, lstOf, cop, bop, intOp, isiD, tyOf, atP, place, Option.map_some, Option.map_none, Option.bind_some, Option.bind_none, eq_self, Int.reduceLE, Int.reduceLT, Int.reduceNeg, Int.reduceEq, Int.reduceToNat, Int.reduceAdd, Int.reduceSub, Nat.reduceLeDiff, reduceIte,  List.flatten_cons, List.flatten_nil, List.length_map, List.map_cons, List.map_nil, List.length_cons, List.length_nil, List.replicate_succ, List.replicate_zero, List.cons_append, List.nil_append, List.append_nil, List.set_cons_zero, List.set_cons_succ, Bool.not_true, Bool.not_false, if_true, if_false, ite_true, ite_false, Bool.false_eq_true, decide_true, decide_false, Bool.or_true, Bool.true_or, Bool.or_false, Bool.false_or, Bool.and_true, Bool.true_and, Bool.and_false, Bool.false_and, decide_eq_true_eq, Nat.reduceAdd, Nat.reduceSub, Nat.zero_add, Function.comp_apply, ix hi, ix hib, ix hic]⟩]
  rw [range_zw3' a b c hb hc]
  simp only [qOpt, qRet, bnd_ok, bnd_exc, bnd_err, flow_nx, flow_rt, flow_bk, flow_ct, flow_exc, end_nx, end_rt, end_exc, e_var, g_0, g_s, e_cst, e_bin, e_neg, e_not, e_cmp, e_chain, e_and, e_or, e_ite, e_tup, e_lst, e_lstM, e_lstS, e_dct, e_idx, e_slc, e_rev, e_isi, e_blt, e_call, e_lc, l_nil, l_cons, l_star, t_nil, t_cons, o_no, o_so, i_seq, i_rng1, i_rng2, i_zip, i_enum, k_neg, k_int, k_seqT, k_seqL, k_seqF, k_starT, k_starL, k_zipT, k_zipL, k_enum, k_rng, k_rng2, tr_bl, tr_int, tr_tup, tr_lst, s_nil, s_cons, x_expr, x_set, x_setT, x_par, x_setI, x_aug, x_cond, x_loop, x_while, x_ret, x_retN, x_pass, x_brk, x_cont, x_run, b_lenT, b_lenL, b_lenF, b_tupT, b_tupL, b_lstT, b_lstL, b_allL, b_anyL, b_sumL, b_abs, b_max, b_min, b_intI, b_intB, q_ii, q_ss, mapR_some, andR_ite, orR_ite, unpK, parK, augK, setIK, setTg, setAll, wipe, blt, blt0, seqOf, lstOf, cop, bop, intOp, isiD, tyOf, atP, place, Option.map_some, Option.map_none, Option.bind_some, Option.bind_none, eq_self, Int.reduceLE, Int.reduceLT, Int.reduceNeg, Int.reduceEq, Int.reduceToNat, Int.reduceAdd, Int.reduceSub, Nat.reduceLeDiff, reduceIte,  List.flatten_cons, List.flatten_nil, List.length_map, List.map_cons, List.map_nil, List.length_cons, List.length_nil, List.replicate_succ, List.replicate_zero, List.cons_append, List.nil_append, List.append_nil, List.set_cons_zero, List.set_cons_succ, Bool.not_true, Bool.not_false, if_true, if_false, ite_true, ite_false, Bool.false_eq_true, decide_true, decide_false, Bool.or_true, Bool.true_or, Bool.or_false, Bool.false_or, Bool.and_true, Bool.true_and, Bool.and_false, Bool.false_and, decide_eq_true_eq, Nat.reduceAdd, Nat.reduceSub, Nat.zero_add, Function.comp_apply, p3, p1, rp (show (vadd (vadd a b) c).length ≤ 1000 by omega) bP (by decide), rp (show a.length ≤ 1000 by omega) ba (by decide), mi, hl, rp (show (List.zipWith (· - ·) a b).length ≤ 1000 by omega) bM (by decide)]
  rw [lcM_map (fun i : Nat => D.int i) (fun i => .int (a.getD i 0 - b.getD i 0)) (List.range a.length) fun i hi => by
    have hi : i < a.length := List.mem_range.mp hi
    have hib : i < b.length := by omega
    exact ⟨_, rfl, by simp only [qOpt, qRet, bnd_ok, bnd_exc, bnd_err, flow_nx, flow_rt, flow_bk, flow_ct, flow_exc, end_nx, end_rt, end_exc, e_var, g_0, g_s, e_cst, e_bin, e_neg, e_not, e_cmp, e_chain, e_and, e_or, e_ite, e_tup, e_lst, e_lstM, e_lstS, e_dct, e_idx, e_slc, e_rev, e_isi, e_blt, e_call, e_lc, l_nil, l_cons, l_star, t_nil, t_cons, o_no, o_so, i_seq, i_rng1, i_rng2, i_zip, i_enum, k_neg, k_int, k_seqT, k_seqL, k_seqF, k_starT, k_starL, k_zipT, k_zipL, k_enum, k_rng, k_rng2, tr_bl, tr_int, tr_tup, tr_lst, s_nil, s_cons, x_expr, x_set, x_setT, x_par, x_setI, x_aug, x_cond, x_loop, x_while, x_ret, x_retN, x_pass, x_brk, x_cont, x_run, b_lenT, b_lenL, b_lenF, b_tupT, b_tupL, b_lstT, b_lstL, b_allL, b_anyL, b_sumL, b_abs, b_max, b_min, b_intI, b_intB, q_ii, q_ss, mapR_some, andR_ite, orR_ite, unpK, parK, augK, setIK, setTg, setAll, wipe, blt, blt0, seqOf, lstOf, cop, bop, intOp, isiD, tyOf, atP, place, Option.map_some, Option.map_none, Option.bind_some, Option.bind_none, eq_self, Int.reduceLE, Int.reduceLT, Int.reduceNeg, Int.reduceEq, Int.reduceToNat, Int.reduceAdd, Int.reduceSub, Nat.reduceLeDiff, reduceIte,  List.flatten_cons, List.flatten_nil, List.length_map, List.map_cons, List.map_nil, List.length_cons, List.length_nil, List.replicate_succ, List.replicate_zero, List.cons_append, List.nil_append, List.append_nil, List.set_cons_zero, List.set_cons_succ, Bool.not_true, Bool.not_false, if_true, if_false, ite_true, ite_false, Bool.false_eq_true, decide_true, decide_false, Bool.or_true, Bool.true_or, Bool.or_false, Bool.false_or, Bool.and_true, Bool.true_and, Bool.and_false, Bool.false_and, decide_eq_true_eq, Nat.reduceAdd, Nat.reduceSub, Nat.zero_add, Function.comp_apply, ix hi, ix hib]⟩]
  rw [range_zw' (· - ·) a b hb]
  simp only [qOpt, qRet, bnd_ok, bnd_exc, bnd_err, flow_nx, flow_rt, flow_bk, flow_ct, flow_exc, end_nx, end_rt, end_exc, e_var, g_0, g_s, e_cst, e_bin, e_neg, e_not, e_cmp, e_chain, e_and, e_or, e_ite, e_tup, e_lst, e_lstM, e_lstS, e_dct, e_idx, e_slc, e_rev, e_isi, e_blt, e_call, e_lc, l_nil, l_cons, l_star, t_nil, t_cons, o_no, o_so, i_seq, i_rng1, i_rng2, i_zip, i_enum, k_neg, k_int, k_seqT, k_seqL, k_seqF, k_starT, k_starL, k_zipT, k_zipL, k_enum, k_rng, k_rng2, tr_bl, tr_int, tr_tup, tr_lst, s_nil, s_cons, x_expr, x_set, x_setT, x_par, x_setI, x_aug, x_cond, x_loop, x_while, x_ret, x_retN, x_pass, x_brk, x_cont, x_run, b_lenT, b_lenL, b_lenF, b_tupT, b_tupL, b_lstT, b_lstL, b_allL, b_anyL, b_sumL, b_abs, b_max, b_min, b_intI, b_intB, q_ii, q_ss, mapR_some, andR_ite, orR_ite, unpK, parK, augK, setIK, setTg, setAll, wipe, blt, blt0, seqOf, lstOf, cop, bop, intOp, isiD, tyOf, atP, place, Option.map_some, Option.map_none, Option.bind_some, Option.bind_none, eq_self, Int.reduceLE, Int.reduceLT, Int.reduceNeg, Int.reduceEq, Int.reduceToNat, Int.reduceAdd, Int.reduceSub, Nat.reduceLeDiff, reduceIte,  List.flatten_cons, List.flatten_nil, List.length_map, List.map_cons, List.map_nil, List.length_cons, List.length_nil, List.replicate_succ, List.replicate_zero, List.cons_append, List.nil_append, List.append_nil, List.set_cons_zero, List.set_cons_succ, Bool.not_true, Bool.not_false, if_true, if_false, ite_true, ite_false, Bool.false_eq_true, decide_true, decide_false, Bool.or_true, Bool.true_or, Bool.or_false, Bool.false_or, Bool.and_true, Bool.true_and, Bool.and_false, Bool.false_and, decide_eq_true_eq, Nat.reduceAdd, Nat.reduceSub, Nat.zero_add, Function.comp_apply, rp (show (List.zipWith (· - ·) a b).length ≤ 1000 by omega) bM (by decide), ti, rt]
  rw [lcM_map D.int (fun y => .int (x * y)) a fun y hy => by
    exact ⟨_, rfl, by simp [qOpt, qRet, bnd_ok, bnd_exc, bnd_err, flow_nx, flow_rt, flow_bk, flow_ct, flow_exc, end_nx, end_rt, end_exc, e_var, g_0, g_s, e_cst, e_bin, e_neg, e_not, e_cmp, e_chain, e_and, e_or, e_ite, e_tup, e_lst, e_lstM, e_lstS, e_dct, e_idx, e_slc, e_rev, e_isi, e_blt, e_call, e_lc, l_nil, l_cons, l_star, t_nil, t_cons, o_no, o_so, i_seq, i_rng1, i_rng2, i_zip, i_enum, k_neg, k_int, k_seqT, k_seqL, k_seqF, k_starT, k_starL, k_zipT, k_zipL, k_enum, k_rng, k_rng2, tr_bl, tr_int, tr_tup, tr_lst, s_nil, s_cons, x_expr, x_set, x_setT, x_par, x_setI, x_aug, x_cond, x_loop, x_while, x_ret, x_retN, x_pass, x_brk, x_cont, x_run, b_lenT, b_lenL, b_lenF, b_tupT, b_tupL, b_lstT, b_lstL, b_allL, b_anyL, b_sumL, b_abs, b_max, b_min, b_intI, b_intB, q_ii, q_ss, mapR_some, andR_ite, orR_ite, unpK, parK, augK, setIK, setTg, setAll, wipe, blt, blt0, seqOf, lstOf, cop, bop, intOp, isiD, tyOf, atP, place, Option.map_some, Option.map_none, Option.bind_some, Option.bind_none, mulOk_sm hx (ba y hy) (by decide) (by decide)]⟩]
  have e3 : (List.map (fun y => D.int (x * y)) a) = (a.map (x * ·)).map D.int := by simp
  rw [e3]
  have bS : (List.zipWith (· * ·) a b).sum.natAbs < 2 ^ 300 := by
    have h := Bd.sum bD
    have e : (List.zipWith (· * ·) a b).length = a.length := by simp [hb]
    rw [e] at h
    have h3 : a.length * 2 ^ 262 ≤ 5 * 2 ^ 262 := Nat.mul_le_mul_right _ h2
    exact Nat.lt_of_le_of_lt (Nat.le_trans h h3) (by decide +kernel)
  obtain ⟨ρ', e4, o6, e5⟩ := loopM_fold (cf := callI prog w (k + 5)) (w := w) (S := S1) (tg := .nm 6) (b := .cons (.set 8 (.bin .add (.var 8) (.bin .mul (.idx (.var 1) (.var 6)) (.idx (.var 2) (.var 6))))) .nil) (fun i : Nat => D.int i) (fun acc i => acc + a.getD i 0 * b.getD i 0)
    (fun acc ρ => ∃ o, ρ = [some (D.ref n), some (iv a), some (iv b), some (iv c), some (D.int a.length), some (D.int x), o, some (iv (vadd (vadd a b) c)), some (D.int acc), none, none]) (List.range a.length) 0 (ρ := [some (D.ref n), some (iv a), some (iv b), some (iv c), some (D.int a.length), some (D.int x), none, some (iv (vadd (vadd a b) c)), some (D.int 0), none, none]) (fun acc i hi ρ hρ => by
      obtain ⟨o, rfl⟩ := hρ
      have hi : i < a.length := List.mem_range.mp hi
      have hib : i < b.length := by omega
      have m : mulOk (a.getD i 0) (b.getD i 0) = true := mulOk_sm (N := 131) (M := 131) (ba _ (by rw [List.getD_eq_getElem?_getD, List.getElem?_eq_getElem hi]; exact List.getElem_mem hi)) (bb _ (by rw [List.getD_eq_getElem?_getD, List.getElem?_eq_getElem hib]; exact List.getElem_mem hib)) (by decide) (by decide)
      exact ⟨_, _, rfl, by simp only [qOpt, qRet, bnd_ok, bnd_exc, bnd_err, flow_nx, flow_rt, flow_bk, flow_ct, flow_exc, end_nx, end_rt, end_exc, e_var, g_0, g_s, e_cst, e_bin, e_neg, e_not, e_cmp, e_chain, e_and, e_or, e_ite, e_tup, e_lst, e_lstM, e_lstS, e_dct, e_idx, e_slc, e_rev, e_isi, e_blt, e_call, e_lc, l_nil, l_cons, l_star, t_nil, t_cons, o_no, o_so, i_seq, i_rng1, i_rng2, i_zip, i_enum, k_neg, k_int, k_seqT, k_seqL, k_seqF, k_starT, k_starL, k_zipT, k_zipL, k_enum, k_rng, k_rng2, tr_bl, tr_int, tr_tup, tr_lst, s_nil, s_cons, x_expr, x_set, x_setT, x_par, x_setI, x_aug, x_cond, x_loop, x_while, x_ret, x_retN, x_pass, x_brk, x_cont, x_run, b_lenT, b_lenL, b_lenF, b_tupT, b_tupL, b_lstT, b_lstL, b_allL, b_anyL, b_sumL, b_abs, b_max, b_min, b_intI, b_intB, q_ii, q_ss, mapR_some, andR_ite, orR_ite, unpK, parK, augK, setIK, setTg, setAll, wipe, blt, blt0, seqOf, lstOf, cop, bop, intOp, isiD, tyOf, atP, place, Option.map_some, Option.map_none, Option.bind_some, Option.bind_none, eq_self, Int.reduceLE, Int.reduceLT, Int.reduceNeg, Int.reduceEq, Int.reduceToNat, Int.reduceAdd, Int.reduceSub, Nat.reduceLeDiff, reduceIte,  List.flatten_cons, List.flatten_nil, List.length_map, List.map_cons, List.map_nil, List.length_cons, List.length_nil, List.replicate_succ, List.replicate_zero, List.cons_append, List.nil_append, List.append_nil, List.set_cons_zero, List.set_cons_succ, Bool.not_true, Bool.not_false, if_true, if_false, ite_true, ite_false, Bool.false_eq_true, decide_true, decide_false, Bool.or_true, Bool.true_or, Bool.or_false, Bool.false_or, Bool.and_true, Bool.true_and, Bool.and_false, Bool.false_and, decide_eq_true_eq, Nat.reduceAdd, Nat.reduceSub, Nat.zero_add, Function.comp_apply, ix hi, ix hib, m]; rfl, _, rfl⟩) ⟨_, rfl⟩
  rw [range_dot a b 0 hb, Int.zero_add] at e5
  subst e5
  simp only [qOpt, qRet, bnd_ok, bnd_exc, bnd_err, flow_nx, flow_rt, flow_bk, flow_ct, flow_exc, end_nx, end_rt, end_exc, e_var, g_0, g_s, e_cst, e_bin, e_neg, e_not, e_cmp, e_chain, e_and, e_or, e_ite, e_tup, e_lst, e_lstM, e_lstS, e_dct, e_idx, e_slc, e_rev, e_isi, e_blt, e_call, e_lc, l_nil, l_cons, l_star, t_nil, t_cons, o_no, o_so, i_seq, i_rng1, i_rng2, i_zip, i_enum, k_neg, k_int, k_seqT, k_seqL, k_seqF, k_starT, k_starL, k_zipT, k_zipL, k_enum, k_rng, k_rng2, tr_bl, tr_int, tr_tup, tr_lst, s_nil, s_cons, x_expr, x_set, x_setT, x_par, x_setI, x_aug, x_cond, x_loop, x_while, x_ret, x_retN, x_pass, x_brk, x_cont, x_run, b_lenT, b_lenL, b_lenF, b_tupT, b_tupL, b_lstT, b_lstL, b_allL, b_anyL, b_sumL, b_abs, b_max, b_min, b_intI, b_intB, q_ii, q_ss, mapR_some, andR_ite, orR_ite, unpK, parK, augK, setIK, setTg, setAll, wipe, blt, blt0, seqOf, lstOf, cop, bop, intOp, isiD, tyOf, atP, place, Option.map_some, Option.map_none, Option.bind_some, Option.bind_none, eq_self, Int.reduceLE, Int.reduceLT, Int.reduceNeg, Int.reduceEq, Int.reduceToNat, Int.reduceAdd, Int.reduceSub, Nat.reduceLeDiff, reduceIte,  List.flatten_cons, List.flatten_nil, List.length_map, List.map_cons, List.map_nil, List.length_cons, List.length_nil, List.replicate_succ, List.replicate_zero, List.cons_append, List.nil_append, List.append_nil, List.set_cons_zero, List.set_cons_succ, Bool.not_true, Bool.not_false, if_true, if_false, ite_true, ite_false, Bool.false_eq_true, decide_true, decide_false, Bool.or_true, Bool.true_or, Bool.or_false, Bool.false_or, Bool.and_true, Bool.true_and, Bool.and_false, Bool.false_and, decide_eq_true_eq, Nat.reduceAdd, Nat.reduceSub, Nat.zero_add, Function.comp_apply, rt, hl, e4, dt, rpi bS (by decide), pm, eqD_ints, e2, ti2, pl2, dt2, dt3, dt4, hm, ti0, p4, ti4, mi, h3, h4, h5, h6, Int.toNat_natCast]

end
end K02

set_option linter.all false
set_option maxRecDepth 10000
namespace K02
open Ln
open PySem (PyData)
section
variable {w k n : Nat} {S : Store}
theorem rpb {b : Bool} : reprF S [.bl b] = some (.str (PyData.bool b).shown) := repr_sm (by rfl) rfl (le_line_big (by cases b <;> decide))
def rl (l : List (List Int)) : PySem.Str := (PyData.list (l.map fun a => .tuple (a.map .int))).shown
theorem rpl {a b c : List Int} {N : Nat} (h1 : a.length ≤ 5) (h2 : b.length ≤ 5) (h3 : c.length ≤ 5) (ha : Bd N a) (hb : Bd N b) (hc : Bd N c) (hN : N ≤ 1900) : reprF S [.lst [iv a, iv b, iv c]] = some (.str (rl [a, b, c])) := by
  have f : ∀ l : List Int, Bd N l → fines (l.map .int) = true := fun l h => fines_ints fun x hx => Nat.lt_of_lt_of_le (log2_lt (Nat.lt_of_lt_of_le (h x hx) (Nat.pow_le_pow_right (by decide) (Nat.le_succ N))) (Nat.succ_pos N)) (by omega)
  refine repr_sm (p := .list [.tuple (a.map .int), .tuple (b.map .int), .tuple (c.map .int)]) ?_ ?_ ?_
  · have t : ∀ l : List Int, toP S 23 (iv l) = some (.tuple (l.map .int)) := fun l => by
      show ((l.map D.int).mapM (toP S 22)).map PyData.tuple = _
      rw [mapM_map (f := PyData.int) fun a _ => toP_int]
      rfl
    show ([iv a, iv b, iv c].mapM (toP S 23)).map PyData.list = _
    simp [t]
  · simp [fine, fines, f a ha, f b hb, f c hc]
  · simp only [cost, costs, costs_ints]
    exact le_line_big (by omega)
theorem eq_nil : eqD S (.lst []) (.lst []) = some true := rfl
end
section
variable {w k : Nat}
/-- one turn of the law's for -/
theorem s_turn {ns : List Int} {i : Nat} {S : Store} {o1 o2 o3 o4 o5 o6 o7 o8 o9 o10 o11 : Option D} :
    ∃ ρ' S', execs (callI prog w (k + 7)) w (match b_law with | .cons (.loop _ _ b) _ => b | _ => .nil) [some (.frz (ns.map .int)), some (.int i), o2, o3, o4, o5, o6, o7, o8, o9, o10, o11] S = .ok (.nx, ρ') S' ∧ ∃ o1 o2 o3 o4 o5 o6 o7 o8 o9 o10 o11, ρ' = [some (.frz (ns.map .int)), o1, o2, o3, o4, o5, o6, o7, o8, o9, o10, o11] := by
  obtain ⟨S1, e1, s1, _⟩ := stream_sp (w := w) (k := k + 6) hstream (ns := ns) (at_ := i) (S := S)
  generalize S.length = n at e1 s1
  obtain ⟨r, S2, e2, r0, r1, s2, _⟩ := draw_sp (w := w) (k := k + 6) hdraw s1 (t := 5) (by decide) (by decide)
  obtain ⟨z, hz⟩ : ∃ z : Nat, 1 + r = z := ⟨(1 + r).toNat, by omega⟩
  have z1 : 1 ≤ z := by omega
  have z2 : z ≤ 5 := by omega
  obtain ⟨ys, S3, e3, s3, hl, hp⟩ := lcM_inv (cf := callI prog w (k + 7)) (ρ := [some (.frz (ns.map .int)), some (.int i), some (.ref n), some (.int z), o4, o5, o6, o7, o8, o9, o10, o11]) (S := S2) (elt := .call 17 (.cons (.var 2) (.cons (.var 3) .nil))) (tg := .nm 4) (own := [4]) (fun i : Nat => D.int i) (Strm n) (fun d => ∃ a : List Int, d = iv a ∧ a.length = z ∧ Bd 131 a) (List.range 3) (fun j _ S hS => by
    obtain ⟨a, S', e, ha, hb, h'⟩ := s_vector (w := w) (k := k + 3) (size := z) (by omega) hS
    exact ⟨_, _, S', rfl, by simp only [qOpt, qRet, bnd_ok, bnd_exc, bnd_err, flow_nx, flow_rt, flow_bk, flow_ct, flow_exc, end_nx, end_rt, end_exc, e_var, g_0, g_s, e_cst, e_bin, e_neg, e_not, e_cmp, e_chain, e_and, e_or, e_ite, e_tup, e_lst, e_lstM, e_lstS, e_dct, e_idx, e_slc, e_rev, e_isi, e_blt, e_call, e_lc, l_nil, l_cons, l_star, t_nil, t_cons, o_no, o_so, i_seq, i_rng1, i_rng2, i_zip, i_enum, k_neg, k_int, k_seqT, k_seqL, k_seqF, k_starT, k_starL, k_zipT, k_zipL, k_enum, k_rng, k_rng2, tr_bl, tr_int, tr_tup, tr_lst, s_nil, s_cons, x_expr, x_set, x_setT, x_par, x_setI, x_aug, x_cond, x_loop, x_while, x_ret, x_retN, x_pass, x_brk, x_cont, x_run, b_lenT, b_lenL, b_lenF, b_tupT, b_tupL, b_lstT, b_lstL, b_allL, b_anyL, b_sumL, b_abs, b_max, b_min, b_intI, b_intB, q_ii, q_ss, mapR_some, andR_ite, orR_ite, unpK, parK, augK, setIK, setTg, setAll, wipe, blt, blt0, seqOf, lstOf, cop, bop, intOp, isiD, tyOf, atP, place, Option.map_some, Option.map_none, Option.bind_some, Option.bind_none, eq_self, Int.reduceLE, Int.reduceLT, Int.reduceNeg, Int.reduceEq, Int.reduceToNat, Int.reduceAdd, Int.reduceSub, Nat.reduceLeDiff, reduceIte,  List.flatten_cons, List.flatten_nil, List.length_map, List.map_cons, List.map_nil, List.length_cons, List.length_nil, List.replicate_succ, List.replicate_zero, List.cons_append, List.nil_append, List.append_nil, List.set_cons_zero, List.set_cons_succ, Bool.not_true, Bool.not_false, if_true, if_false, ite_true, ite_false, Bool.false_eq_true, decide_true, decide_false, Bool.or_true, Bool.true_or, Bool.or_false, Bool.false_or, Bool.and_true, Bool.true_and, Bool.and_false, Bool.false_and, decide_eq_true_eq, Nat.reduceAdd, Nat.reduceSub, Nat.zero_add, Function.comp_apply, e], h', a, rfl, ha, hb⟩) s2
  obtain ⟨y1, y2, y3, rfl⟩ : ∃ y1 y2 y3, ys = [y1, y2, y3] := by
    match ys, hl with
    | [a, b, c], _ => exact ⟨a, b, c, rfl⟩
  obtain ⟨a, rfl, ha, ba⟩ := hp y1 (by simp)
  obtain ⟨b, rfl, hb, bb⟩ := hp y2 (by simp)
  obtain ⟨c, rfl, hc, bc⟩ := hp y3 (by simp)
  have rpk : ∀ S, reprF S [.lst [iv a, iv b, iv c]] = some (.str (rl [a, b, c])) := fun S => rpl (by omega) (by omega) (by omega) ba bb bc (by decide)
  obtain ⟨S4, e4, s4⟩ := s_sums (w := w) (k := k + 1) (by omega) (by omega) (by omega) (by omega) ba bb bc s3
  have l1 : a.length + 5 ≤ line := le_line (by omega)
  have l2 : a.length + 1 ≤ line := le_line (by omega)
  have r3 : ∀ S, rngK (.int 3) S = .ok ((List.range 3).map fun (i : Nat) => .int i) S := fun S => k_rng (n := 3) (le_line (by decide))
  have r8 : ∀ S, rngK (.int 8) S = .ok ((List.range 8).map fun (i : Nat) => .int i) S := fun S => k_rng (n := 8) (le_line (by decide))
  have l3 : 5 ≤ line := le_line (by decide)
  obtain ⟨vs0, hvs⟩ : ∃ vs0 : List D, vs0 = [iv a, .lst (a.map .int), .tup (a.map .int ++ [.int 0, .int 0, .int 0, .int 0, .int 0]), .tup [], .tup [iv a], .tup (a.map .int ++ [.bl true]), .tup [.str "1"], .non, .int 3, .tup [.int 0, .bl false], .tup [.non], .dct [] []] := ⟨_, rfl⟩
  have pa : ∀ d ∈ a.map D.int, plain d = true := fun d hd => by
    obtain ⟨x, _, rfl⟩ := List.mem_map.mp hd
    rfl
  have ok0 : ∀ d ∈ vs0, okd d = true := fun d hd => by
    rw [hvs] at hd
    simp only [List.mem_cons, List.not_mem_nil, or_false] at hd
    rcases hd with rfl | rfl | rfl | rfl | rfl | rfl | rfl | rfl | rfl | rfl | rfl | rfl
    · exact okd_iv a
    · rfl
    · refine okd_plains fun x hx => ?_
      rcases List.mem_append.mp hx with hx | hx
      · exact pa x hx
      · simp only [List.mem_cons, List.not_mem_nil, or_false] at hx
        rcases hx with rfl | rfl | rfl | rfl | rfl <;> rfl
    · rfl
    · rfl
    · refine okd_plains fun x hx => ?_
      rcases List.mem_append.mp hx with hx | hx
      · exact pa x hx
      · rw [List.mem_singleton.mp hx]; rfl
    · rfl
    · rfl
    · rfl
    · rfl
    · rfl
    · rfl
  obtain ⟨ρ5, S5, e5, p4, vs, rfl, okv, hvl, s5⟩ := loopM_count (cf := callI prog w (k + 7)) (w := w) (S := S4) (tg := .nm 4) (b := .cons (.set 9 (.bin .add (.var 9) (.lst (.cons (.call 15 (.cons (.var 2) (.cons (.var 5) (.cons (.cst (.int 2)) .nil)))) (.cons (.call 14 (.cons (.var 2) .nil)) .nil))))) .nil)
    (fun i : Nat => D.int i) (fun j ρ S => ∃ o4 vs, ρ = [some (.frz (ns.map .int)), some (.int i), some (.ref n), some (.int z), o4, some (iv a), some (iv b), some (iv c), some (.str (rl [a, b, c])), some (.lst vs), o10, o11] ∧ (∀ d ∈ vs, okd d = true) ∧ vs.length = 12 + 2 * j ∧ Strm n S) (List.range 8)
    (ρ := [some (.frz (ns.map .int)), some (.int i), some (.ref n), some (.int z), o4, some (iv a), some (iv b), some (iv c), some (.str (rl [a, b, c])), some (.lst vs0), o10, o11])
    (fun j x hj ρ S hI => by
      obtain ⟨o4, vs, rfl, hok, hl, hS⟩ := hI
      have hj8 : j < 8 := by simpa using (List.getElem?_eq_some_iff.mp hj).1
      obtain ⟨d1, T1, f1, q1, t1⟩ := s_bent_vec (w := w) (k := k + 3) (xs := a) (by omega) (by omega) (ba.up (by decide)) hS
      obtain ⟨d2, T2, f2, q2, t2⟩ := s_odd (w := w) (k := k + 4) t1
      have l5 : vs.length + 2 ≤ line := le_line (by omega)
      refine ⟨_, _, T2, rfl, by simp only [qOpt, qRet, bnd_ok, bnd_exc, bnd_err, flow_nx, flow_rt, flow_bk, flow_ct, flow_exc, end_nx, end_rt, end_exc, e_var, g_0, g_s, e_cst, e_bin, e_neg, e_not, e_cmp, e_chain, e_and, e_or, e_ite, e_tup, e_lst, e_lstM, e_lstS, e_dct, e_idx, e_slc, e_rev, e_isi, e_blt, e_call, e_lc, l_nil, l_cons, l_star, t_nil, t_cons, o_no, o_so, i_seq, i_rng1, i_rng2, i_zip, i_enum, k_neg, k_int, k_seqT, k_seqL, k_seqF, k_starT, k_starL, k_zipT, k_zipL, k_enum, k_rng, k_rng2, tr_bl, tr_int, tr_tup, tr_lst, s_nil, s_cons, x_expr, x_set, x_setT, x_par, x_setI, x_aug, x_cond, x_loop, x_while, x_ret, x_retN, x_pass, x_brk, x_cont, x_run, b_lenT, b_lenL, b_lenF, b_tupT, b_tupL, b_lstT, b_lstL, b_allL, b_anyL, b_sumL, b_abs, b_max, b_min, b_intI, b_intB, q_ii, q_ss, mapR_some, andR_ite, orR_ite, unpK, parK, augK, setIK, setTg, setAll, wipe, blt, blt0, seqOf, lstOf, cop, bop, intOp, isiD, tyOf, atP, place, Option.map_some, Option.map_none, Option.bind_some, Option.bind_none, eq_self, Int.reduceLE, Int.reduceLT, Int.reduceNeg, Int.reduceEq, Int.reduceToNat, Int.reduceAdd, Int.reduceSub, Nat.reduceLeDiff, reduceIte,  List.flatten_cons, List.flatten_nil, List.length_map, List.map_cons, List.map_nil, List.length_cons, List.length_nil, List.replicate_succ, List.replicate_zero, List.cons_append, List.nil_append, List.append_nil, List.set_cons_zero, List.set_cons_succ, Bool.not_true, Bool.not_false, if_true, if_false, ite_true, ite_false, Bool.false_eq_true, decide_true, decide_false, Bool.or_true, Bool.true_or, Bool.or_false, Bool.false_or, Bool.and_true, Bool.true_and, Bool.and_false, Bool.false_and, decide_eq_true_eq, Nat.reduceAdd, Nat.reduceSub, Nat.zero_add, Function.comp_apply, f1, f2, l5]; rfl, _, _, rfl, fun d hd => ?_, by simp; omega, t2⟩
      rcases List.mem_append.mp hd with hd | hd
      · exact hok d hd
      · simp only [List.mem_cons, List.not_mem_nil, or_false] at hd
        rcases hd with rfl | rfl
        · exact q1
        · exact q2) ⟨_, _, rfl, ok0, by rw [hvs]; rfl, s4⟩
  have e6 := lcM_filter (cf := callI prog w (k + 7)) (ρ := [some (.frz (ns.map .int)), some (.int i), some (.ref n), some (.int z), p4, some (iv a), some (iv b), some (iv c), some (.str (rl [a, b, c])), some (.lst vs), o10, o11]) (S := S5) (elt := .var 11)
    (c := .cmp .ne (.blt .repr (.cons (.call 6 (.cons (.var 11) .nil)) .nil)) (.blt .repr (.cons (.call 18 (.cons (.var 11) .nil)) .nil))) (tg := .nm 11) (own := [11]) id id (fun _ => false) vs (fun d hd => by
      have f1 := s_is_vector (w := w) (k := k + 4) (S := S5) (okv d hd)
      have f2 := s_law_is_vector (w := w) (k := k + 6) (S := S5) (okv d hd)
      exact ⟨_, rfl, by simp only [qOpt, qRet, bnd_ok, bnd_exc, bnd_err, flow_nx, flow_rt, flow_bk, flow_ct, flow_exc, end_nx, end_rt, end_exc, e_var, g_0, g_s, e_cst, e_bin, e_neg, e_not, e_cmp, e_chain, e_and, e_or, e_ite, e_tup, e_lst, e_lstM, e_lstS, e_dct, e_idx, e_slc, e_rev, e_isi, e_blt, e_call, e_lc, l_nil, l_cons, l_star, t_nil, t_cons, o_no, o_so, i_seq, i_rng1, i_rng2, i_zip, i_enum, k_neg, k_int, k_seqT, k_seqL, k_seqF, k_starT, k_starL, k_zipT, k_zipL, k_enum, k_rng, k_rng2, tr_bl, tr_int, tr_tup, tr_lst, s_nil, s_cons, x_expr, x_set, x_setT, x_par, x_setI, x_aug, x_cond, x_loop, x_while, x_ret, x_retN, x_pass, x_brk, x_cont, x_run, b_lenT, b_lenL, b_lenF, b_tupT, b_tupL, b_lstT, b_lstL, b_allL, b_anyL, b_sumL, b_abs, b_max, b_min, b_intI, b_intB, q_ii, q_ss, mapR_some, andR_ite, orR_ite, unpK, parK, augK, setIK, setTg, setAll, wipe, blt, blt0, seqOf, lstOf, cop, bop, intOp, isiD, tyOf, atP, place, Option.map_some, Option.map_none, Option.bind_some, Option.bind_none, eq_self, Int.reduceLE, Int.reduceLT, Int.reduceNeg, Int.reduceEq, Int.reduceToNat, Int.reduceAdd, Int.reduceSub, Nat.reduceLeDiff, reduceIte,  List.flatten_cons, List.flatten_nil, List.length_map, List.map_cons, List.map_nil, List.length_cons, List.length_nil, List.replicate_succ, List.replicate_zero, List.cons_append, List.nil_append, List.append_nil, List.set_cons_zero, List.set_cons_succ, Bool.not_true, Bool.not_false, if_true, if_false, ite_true, ite_false, Bool.false_eq_true, decide_true, decide_false, Bool.or_true, Bool.true_or, Bool.or_false, Bool.false_or, Bool.and_true, Bool.true_and, Bool.and_false, Bool.false_and, decide_eq_true_eq, Nat.reduceAdd, Nat.reduceSub, Nat.zero_add, Function.comp_apply, f1, f2, rpb, id], fun h => nomatch h⟩)
  rw [List.map_id, show vs.filter (fun _ => false) = [] by simp, List.map_nil] at e6
  have fin : execs (callI prog w (k + 7)) w (match b_law with | .cons (.loop _ _ b) _ => b | _ => .nil) [some (.frz (ns.map .int)), some (.int i), o2, o3, o4, o5, o6, o7, o8, o9, o10, o11] S = .ok (.nx, [some (.frz (ns.map .int)), some (.int i), some (.ref n), some (.int z), p4, some (iv a), some (iv b), some (iv c), some (.str (rl [a, b, c])), some (.lst vs), o10, o11]) S5 := by
    subst hvs
    simp only [b_law, qOpt, qRet, bnd_ok, bnd_exc, bnd_err, flow_nx, flow_rt, flow_bk, flow_ct, flow_exc, end_nx, end_rt, end_exc, e_var, g_0, g_s, e_cst, e_bin, e_neg, e_not, e_cmp, e_chain, e_and, e_or, e_ite, e_tup, e_lst, e_lstM, e_lstS, e_dct, e_idx, e_slc, e_rev, e_isi, e_blt, e_call, e_lc, l_nil, l_cons, l_star, t_nil, t_cons, o_no, o_so, i_seq, i_rng1, i_rng2, i_zip, i_enum, k_neg, k_int, k_seqT, k_seqL, k_seqF, k_starT, k_starL, k_zipT, k_zipL, k_enum, k_rng, k_rng2, tr_bl, tr_int, tr_tup, tr_lst, s_nil, s_cons, x_expr, x_set, x_setT, x_par, x_setI, x_aug, x_cond, x_loop, x_while, x_ret, x_retN, x_pass, x_brk, x_cont, x_run, b_lenT, b_lenL, b_lenF, b_tupT, b_tupL, b_lstT, b_lstL, b_allL, b_anyL, b_sumL, b_abs, b_max, b_min, b_intI, b_intB, q_ii, q_ss, mapR_some, andR_ite, orR_ite, unpK, parK, augK, setIK, setTg, setAll, wipe, blt, blt0, seqOf, lstOf, cop, bop, intOp, isiD, tyOf, atP, place, Option.map_some, Option.map_none, Option.bind_some, Option.bind_none, eq_self, Int.reduceLE, Int.reduceLT, Int.reduceNeg, Int.reduceEq, Int.reduceToNat, Int.reduceAdd, Int.reduceSub, Nat.reduceLeDiff, reduceIte,  List.flatten_cons, List.flatten_nil, List.length_map, List.map_cons, List.map_nil, List.length_cons, List.length_nil, List.replicate_succ, List.replicate_zero, List.cons_append, List.nil_append, List.append_nil, List.set_cons_zero, List.set_cons_succ, Bool.not_true, Bool.not_false, if_true, if_false, ite_true, ite_false, Bool.false_eq_true, decide_true, decide_false, Bool.or_true, Bool.true_or, Bool.or_false, Bool.false_or, Bool.and_true, Bool.true_and, Bool.and_false, Bool.false_and, decide_eq_true_eq, Nat.reduceAdd, Nat.reduceSub, Nat.zero_add, Function.comp_apply, e1, e2, hz, r3, r8, e3, rpk, e4, l1, l2, l3, e5, e6, eq_nil]
    done
  exact ⟨_, _, fin, _, _, _, _, _, _, _, _, _, _, _, rfl⟩
end
end K02

set_option linter.all false
set_option maxRecDepth 10000
namespace K02
open Ln
open PySem (PyData)
theorem pure_law {w k : Nat} (ns : List Int) : ∃ S, callI prog w (k + 8) 20 [.frz (ns.map D.int)] [] = .ok (.bl true) S := by
  obtain ⟨m, hm, m8⟩ : ∃ m : Nat, (if (if (ns.length : Int) < 8 then (ns.length : Int) else 8) > 1 then (if (ns.length : Int) < 8 then (ns.length : Int) else 8) else 1) = (m : Int) ∧ m ≤ 8 := by
    by_cases h1 : (ns.length : Int) < 8
    · rw [if_pos h1]
      by_cases h2 : (ns.length : Int) > 1
      · rw [if_pos h2]; exact ⟨ns.length, rfl, by omega⟩
      · rw [if_neg h2]; exact ⟨1, rfl, by omega⟩
    · rw [if_neg h1]; exact ⟨8, rfl, by omega⟩
  have e := loopM_inv (cf := callI prog w (k + 7)) (w := w) (tg := .nm 1) (b := match b_law with | .cons (.loop _ _ b) _ => b | _ => .nil) (fun i : Nat => D.int i) (fun ρ _ => ∃ o1 o2 o3 o4 o5 o6 o7 o8 o9 o10 o11, ρ = [some (.frz (ns.map .int)), o1, o2, o3, o4, o5, o6, o7, o8, o9, o10, o11]) (List.range m)
    (ρ := [some (.frz (ns.map .int)), none, none, none, none, none, none, none, none, none, none, none]) (S := []) (fun i _ ρ S hI => by
      obtain ⟨o1, o2, o3, o4, o5, o6, o7, o8, o9, o10, o11, rfl⟩ := hI
      obtain ⟨ρ', S', e, hI⟩ := s_turn (w := w) (k := k) (ns := ns) (i := i) (S := S) (o1 := o1) (o2 := o2) (o3 := o3) (o4 := o4) (o5 := o5) (o6 := o6) (o7 := o7) (o8 := o8) (o9 := o9) (o10 := o10) (o11 := o11)
      exact ⟨_, ρ', S', rfl, e, hI⟩) ⟨_, _, _, _, _, _, _, _, _, _, _, rfl⟩
  obtain ⟨ρ', S', e, o1, o2, o3, o4, o5, o6, o7, o8, o9, o10, o11, rfl⟩ := e
  simp only [b_law] at e
  have p : callI prog w (k + 7) 7 [.tup [.int 1, .int 0, .int 2], .tup [.int 0, .int (-1), .int 1]] S' = .ok (.tup [.int 1, .int (-1), .int 3]) S' := s_plus (k := k + 2) (xs := [1, 0, 2]) (l := [[0, -1, 1]]) (by decide) (by decide) (by decide) (by decide)
  have d : callI prog w (k + 7) 10 [.tup [.int 1, .int 2, .int 3], .tup [.int 1, .int 0, .int (-1)]] S' = .ok (.int (-2)) S' := s_dot (k := k + 2) (xs := [1, 2, 3]) (ys := [1, 0, -1]) (by decide) (by decide) (by decide) (by decide)
  have t : callI prog w (k + 7) 9 [.int 3, .tup [.int 1, .int (-2)]] S' = .ok (.tup [.int 3, .int (-6)]) S' := s_times (k := k + 2) (n := 3) (xs := [1, -2]) (by decide) (by decide) (by decide)
  have m1 : callI prog w (k + 7) 8 [.tup [.int 0], .tup [.int 5]] S' = .ok (.tup [.int (-5)]) S' := s_minus (k := k + 2) (xs := [0]) (ys := [5]) (by decide) (by decide) (by decide)
  have v5 : callI prog w (k + 7) 6 [.tup [.int 0, .int 0, .int 0, .int 0, .int 0]] S' = .ok (.bl true) S' := s_is_vector (k := k + 4) (d := .tup [.int 0, .int 0, .int 0, .int 0, .int 0]) rfl
  have v6 : callI prog w (k + 7) 6 [.tup [.int 0, .int 0, .int 0, .int 0, .int 0, .int 0]] S' = .ok (.bl false) S' := s_is_vector (k := k + 4) (d := .tup [.int 0, .int 0, .int 0, .int 0, .int 0, .int 0]) rfl
  have q : eqD S' (.lst [.tup [.int 1, .int (-1), .int 3], .int (-2), .tup [.int 3, .int (-6)], .tup [.int (-5)]]) (.lst [.tup [.int 1, .int (-1), .int 3], .int (-2), .tup [.int 3, .int (-6)], .tup [.int (-5)]]) = some true := rfl
  have hl : m ≤ line := le_line (by omega)
  refine ⟨S', ?_⟩
  rw [u_law]
  simp only [b_law, qOpt, qRet, bnd_ok, bnd_exc, bnd_err, flow_nx, flow_rt, flow_bk, flow_ct, flow_exc, end_nx, end_rt, end_exc, e_var, g_0, g_s, e_cst, e_bin, e_neg, e_not, e_cmp, e_chain, e_and, e_or, e_ite, e_tup, e_lst, e_lstM, e_lstS, e_dct, e_idx, e_slc, e_rev, e_isi, e_blt, e_call, e_lc, l_nil, l_cons, l_star, t_nil, t_cons, o_no, o_so, i_seq, i_rng1, i_rng2, i_zip, i_enum, k_neg, k_int, k_seqT, k_seqL, k_seqF, k_starT, k_starL, k_zipT, k_zipL, k_enum, k_rng, k_rng2, tr_bl, tr_int, tr_tup, tr_lst, s_nil, s_cons, x_expr, x_set, x_setT, x_par, x_setI, x_aug, x_cond, x_loop, x_while, x_ret, x_retN, x_pass, x_brk, x_cont, x_run, b_lenT, b_lenL, b_lenF, b_tupT, b_tupL, b_lstT, b_lstL, b_allL, b_anyL, b_sumL, b_abs, b_max, b_min, b_intI, b_intB, q_ii, q_ss, mapR_some, andR_ite, orR_ite, unpK, parK, augK, setIK, setTg, setAll, wipe, blt, blt0, seqOf, lstOf, cop, bop, intOp, isiD, tyOf, atP, place, Option.map_some, Option.map_none, Option.bind_some, Option.bind_none, eq_self, Int.reduceLE, Int.reduceLT, Int.reduceNeg, Int.reduceEq, Int.reduceToNat, Int.reduceAdd, Int.reduceSub, Nat.reduceLeDiff, reduceIte,  List.flatten_cons, List.flatten_nil, List.length_map, List.map_cons, List.map_nil, List.length_cons, List.length_nil, List.replicate_succ, List.replicate_zero, List.cons_append, List.nil_append, List.append_nil, List.set_cons_zero, List.set_cons_succ, Bool.not_true, Bool.not_false, if_true, if_false, ite_true, ite_false, Bool.false_eq_true, decide_true, decide_false, Bool.or_true, Bool.true_or, Bool.or_false, Bool.false_or, Bool.and_true, Bool.true_and, Bool.and_false, Bool.false_and, decide_eq_true_eq, Nat.reduceAdd, Nat.reduceSub, Nat.zero_add, Function.comp_apply, hm, k_rng hl, e, p, d, t, m1, v5, v6, q, isD, beq_self_eq_true]
end K02

namespace K02
open PySem L2 PyProof.Rows LnS
def topS (i : Nat) : Stmt := PySem.Challenge.pw_leastnet_k02_vectors.main.body.getD i (.Pass ⟨0, 0, 0, 0⟩)
abbrev st0 : Stmt := topS 6
abbrev N0 : List Str := ["value"]
theorem nd0 : FnScope N0 ["value"] (defScope st0) := ⟨rfl, rfl, rfl, by decide +kernel, rfl, by decide +kernel, by decide +kernel⟩
abbrev st1 : Stmt := topS 7
abbrev N1 : List Str := ["size", "value", "number"]
theorem nd1 : FnScope N1 ["size", "value"] (defScope st1) := ⟨rfl, rfl, rfl, by decide +kernel, rfl, by decide +kernel, by decide +kernel⟩
abbrev st2 : Stmt := topS 8
abbrev N2 : List Str := ["one", "other", "left", "right"]
theorem nd2 : FnScope N2 ["one", "other"] (defScope st2) := ⟨rfl, rfl, rfl, by decide +kernel, rfl, by decide +kernel, by decide +kernel⟩
abbrev st3 : Stmt := topS 9
abbrev N3 : List Str := ["one", "other", "left", "right"]
theorem nd3 : FnScope N3 ["one", "other"] (defScope st3) := ⟨rfl, rfl, rfl, by decide +kernel, rfl, by decide +kernel, by decide +kernel⟩
abbrev st4 : Stmt := topS 10
abbrev N4 : List Str := ["number", "vector", "entry"]
theorem nd4 : FnScope N4 ["number", "vector"] (defScope st4) := ⟨rfl, rfl, rfl, by decide +kernel, rfl, by decide +kernel, by decide +kernel⟩
abbrev st5 : Stmt := topS 11
abbrev N5 : List Str := ["first", "others", "other"]
theorem nd5 : FnScope N5 ["first", "others"] (defScope st5) := ⟨rfl, rfl, rfl, by decide +kernel, rfl, by decide +kernel, by decide +kernel⟩
abbrev st6 : Stmt := topS 12
abbrev N6 : List Str := ["value"]
theorem nd6 : FnScope N6 ["value"] (defScope st6) := ⟨rfl, rfl, rfl, by decide +kernel, rfl, by decide +kernel, by decide +kernel⟩
abbrev st7 : Stmt := topS 13
abbrev N7 : List Str := ["first", "others", "found", "other"]
theorem nd7 : FnScope N7 ["first", "others"] (defScope st7) := ⟨rfl, rfl, rfl, by decide +kernel, rfl, by decide +kernel, by decide +kernel⟩
abbrev st8 : Stmt := topS 14
abbrev N8 : List Str := ["first", "second", "left", "right"]
theorem nd8 : FnScope N8 ["first", "second"] (defScope st8) := ⟨rfl, rfl, rfl, by decide +kernel, rfl, by decide +kernel, by decide +kernel⟩
abbrev st9 : Stmt := topS 15
abbrev N9 : List Str := ["number", "vector"]
theorem nd9 : FnScope N9 ["number", "vector"] (defScope st9) := ⟨rfl, rfl, rfl, by decide +kernel, rfl, by decide +kernel, by decide +kernel⟩
abbrev st10 : Stmt := topS 16
abbrev N10 : List Str := ["first", "second"]
theorem nd10 : FnScope N10 ["first", "second"] (defScope st10) := ⟨rfl, rfl, rfl, by decide +kernel, rfl, by decide +kernel, by decide +kernel⟩
abbrev st11 : Stmt := topS 18
abbrev N11 : List Str := ["script", "at", "cell", "great", "mixed"]
theorem nd11 : FnScope N11 ["script", "at"] (defScope st11) := ⟨rfl, rfl, rfl, by decide +kernel, rfl, by decide +kernel, by decide +kernel⟩
abbrev st12 : Stmt := topS 19
abbrev N12 : List Str := ["stream", "total", "found", "one", "two"]
theorem nd12 : FnScope N12 ["stream", "total"] (defScope st12) := ⟨rfl, rfl, rfl, by decide +kernel, rfl, by decide +kernel, by decide +kernel⟩
abbrev st13 : Stmt := topS 20
abbrev N13 : List Str := ["stream", "items"]
theorem nd13 : FnScope N13 ["stream", "items"] (defScope st13) := ⟨rfl, rfl, rfl, by decide +kernel, rfl, by decide +kernel, by decide +kernel⟩
abbrev st14 : Stmt := topS 21
abbrev N14 : List Str := ["stream", "some"]
theorem nd14 : FnScope N14 ["stream"] (defScope st14) := ⟨rfl, rfl, rfl, by decide +kernel, rfl, by decide +kernel, by decide +kernel⟩
abbrev st15 : Stmt := topS 22
abbrev N15 : List Str := ["stream", "value", "deep", "at", "some"]
theorem nd15 : FnScope N15 ["stream", "value", "deep"] (defScope st15) := ⟨rfl, rfl, rfl, by decide +kernel, rfl, by decide +kernel, by decide +kernel⟩
abbrev st16 : Stmt := topS 23
abbrev N16 : List Str := ["stream", "some"]
theorem nd16 : FnScope N16 ["stream"] (defScope st16) := ⟨rfl, rfl, rfl, by decide +kernel, rfl, by decide +kernel, by decide +kernel⟩
abbrev st17 : Stmt := topS 24
abbrev N17 : List Str := ["stream", "size", "turn"]
theorem nd17 : FnScope N17 ["stream", "size"] (defScope st17) := ⟨rfl, rfl, rfl, by decide +kernel, rfl, by decide +kernel, by decide +kernel⟩
abbrev st18 : Stmt := topS 25
abbrev N18 : List Str := ["value", "one"]
theorem nd18 : FnScope N18 ["value"] (defScope st18) := ⟨rfl, rfl, rfl, by decide +kernel, rfl, by decide +kernel, by decide +kernel⟩
abbrev st19 : Stmt := topS 26
abbrev N19 : List Str := ["stream", "one", "two", "three", "size", "number", "at", "total", "found", "factor", "entry"]
theorem nd19 : FnScope N19 ["stream", "one", "two", "three"] (defScope st19) := ⟨rfl, rfl, rfl, by decide +kernel, rfl, by decide +kernel, by decide +kernel⟩
abbrev st20 : Stmt := topS 27
abbrev N20 : List Str := ["script", "at", "stream", "size", "turn", "one", "two", "three", "kept", "values", "told", "value"]
theorem nd20 : FnScope N20 ["script"] (defScope st20) := ⟨rfl, rfl, rfl, by decide +kernel, rfl, by decide +kernel, by decide +kernel⟩
def sc0 : Scope := ({ kind := PySem.ScopeKind.function , names := [ ( PySem.Str.ofString ".0" , PySem.NameKind.local ) , ( PySem.Str.ofString "number" , PySem.NameKind.local ) , ( PySem.Str.ofString "is_integer" , PySem.NameKind.globalImplicit ) ] , isGenerator := false , isCoroutine := false , more := [ ] : PySem.Scope })
theorem ok0 : blkC N1 (defScope st1) sc0 [("number", 2)] = true := by decide +kernel
def sc1 : Scope := ({ kind := PySem.ScopeKind.function , names := [ ( PySem.Str.ofString ".0" , PySem.NameKind.local ) , ( PySem.Str.ofString "left" , PySem.NameKind.local ) , ( PySem.Str.ofString "right" , PySem.NameKind.local ) ] , isGenerator := false , isCoroutine := false , more := [ ] : PySem.Scope })
theorem ok1 : blkC N2 (defScope st2) sc1 [("left", 2), ("right", 3)] = true := by decide +kernel
def sc2 : Scope := ({ kind := PySem.ScopeKind.function , names := [ ( PySem.Str.ofString ".0" , PySem.NameKind.local ) , ( PySem.Str.ofString "left" , PySem.NameKind.local ) , ( PySem.Str.ofString "right" , PySem.NameKind.local ) ] , isGenerator := false , isCoroutine := false , more := [ ] : PySem.Scope })
theorem ok2 : blkC N3 (defScope st3) sc2 [("left", 2), ("right", 3)] = true := by decide +kernel
def sc3 : Scope := ({ kind := PySem.ScopeKind.function , names := [ ( PySem.Str.ofString ".0" , PySem.NameKind.local ) , ( PySem.Str.ofString "entry" , PySem.NameKind.local ) , ( PySem.Str.ofString "number" , PySem.NameKind.free ) ] , isGenerator := false , isCoroutine := false , more := [ ] : PySem.Scope })
theorem ok3 : blkC N4 (defScope st4) sc3 [("entry", 2)] = true := by decide +kernel
def sc4 : Scope := ({ kind := PySem.ScopeKind.function , names := [ ( PySem.Str.ofString ".0" , PySem.NameKind.local ) , ( PySem.Str.ofString "other" , PySem.NameKind.local ) , ( PySem.Str.ofString "is_vector_of" , PySem.NameKind.globalImplicit ) , ( PySem.Str.ofString "len" , PySem.NameKind.globalImplicit ) , ( PySem.Str.ofString "first" , PySem.NameKind.free ) ] , isGenerator := false , isCoroutine := false , more := [ ] : PySem.Scope })
theorem ok4 : blkC N5 (defScope st5) sc4 [("other", 2)] = true := by decide +kernel
def sc5 : Scope := ({ kind := PySem.ScopeKind.function , names := [ ( PySem.Str.ofString ".0" , PySem.NameKind.local ) , ( PySem.Str.ofString "left" , PySem.NameKind.local ) , ( PySem.Str.ofString "right" , PySem.NameKind.local ) ] , isGenerator := false , isCoroutine := false , more := [ ] : PySem.Scope })
theorem ok5 : blkC N8 (defScope st8) sc5 [("left", 2), ("right", 3)] = true := by decide +kernel
def sc6 : Scope := ({ kind := PySem.ScopeKind.function , names := [ ( PySem.Str.ofString ".0" , PySem.NameKind.local ) , ( PySem.Str.ofString "turn" , PySem.NameKind.local ) , ( PySem.Str.ofString "_law_number" , PySem.NameKind.globalImplicit ) , ( PySem.Str.ofString "stream" , PySem.NameKind.free ) ] , isGenerator := false , isCoroutine := false , more := [ ] : PySem.Scope })
theorem ok6 : blkC N17 (defScope st17) sc6 [("turn", 2)] = true := by decide +kernel
def sc7 : Scope := ({ kind := PySem.ScopeKind.function , names := [ ( PySem.Str.ofString ".0" , PySem.NameKind.local ) , ( PySem.Str.ofString "one" , PySem.NameKind.local ) , ( PySem.Str.ofString "isinstance" , PySem.NameKind.globalImplicit ) , ( PySem.Str.ofString "int" , PySem.NameKind.globalImplicit ) , ( PySem.Str.ofString "bool" , PySem.NameKind.globalImplicit ) ] , isGenerator := false , isCoroutine := false , more := [ ] : PySem.Scope })
theorem ok7 : blkC N18 (defScope st18) sc7 [("one", 1)] = true := by decide +kernel
def sc8 : Scope := ({ kind := PySem.ScopeKind.function , names := [ ( PySem.Str.ofString ".0" , PySem.NameKind.local ) , ( PySem.Str.ofString "entry" , PySem.NameKind.local ) , ( PySem.Str.ofString "number" , PySem.NameKind.free ) ] , isGenerator := false , isCoroutine := false , more := [ ] : PySem.Scope })
theorem ok8 : blkC N19 (defScope st19) sc8 [("entry", 10)] = true := by decide +kernel
def sc9 : Scope := ({ kind := PySem.ScopeKind.function , names := [ ( PySem.Str.ofString ".0" , PySem.NameKind.local ) , ( PySem.Str.ofString "at" , PySem.NameKind.local ) , ( PySem.Str.ofString "one" , PySem.NameKind.free ) , ( PySem.Str.ofString "two" , PySem.NameKind.free ) ] , isGenerator := false , isCoroutine := false , more := [ ] : PySem.Scope })
theorem ok9 : blkC N19 (defScope st19) sc9 [("at", 6)] = true := by decide +kernel
def sc10 : Scope := ({ kind := PySem.ScopeKind.function , names := [ ( PySem.Str.ofString ".0" , PySem.NameKind.local ) , ( PySem.Str.ofString "at" , PySem.NameKind.local ) , ( PySem.Str.ofString "one" , PySem.NameKind.free ) , ( PySem.Str.ofString "three" , PySem.NameKind.free ) , ( PySem.Str.ofString "two" , PySem.NameKind.free ) ] , isGenerator := false , isCoroutine := false , more := [ ] : PySem.Scope })
theorem ok10 : blkC N19 (defScope st19) sc10 [("at", 6)] = true := by decide +kernel
def sc11 : Scope := ({ kind := PySem.ScopeKind.function , names := [ ( PySem.Str.ofString ".0" , PySem.NameKind.local ) , ( PySem.Str.ofString "value" , PySem.NameKind.local ) , ( PySem.Str.ofString "repr" , PySem.NameKind.globalImplicit ) , ( PySem.Str.ofString "is_vector" , PySem.NameKind.globalImplicit ) , ( PySem.Str.ofString "_law_is_vector" , PySem.NameKind.globalImplicit ) ] , isGenerator := false , isCoroutine := false , more := [ ] : PySem.Scope })
theorem ok11 : blkC N20 (defScope st20) sc11 [("value", 11)] = true := by decide +kernel
def sc12 : Scope := ({ kind := PySem.ScopeKind.function , names := [ ( PySem.Str.ofString ".0" , PySem.NameKind.local ) , ( PySem.Str.ofString "turn" , PySem.NameKind.local ) , ( PySem.Str.ofString "_law_vector" , PySem.NameKind.globalImplicit ) , ( PySem.Str.ofString "size" , PySem.NameKind.free ) , ( PySem.Str.ofString "stream" , PySem.NameKind.free ) ] , isGenerator := false , isCoroutine := false , more := [ ] : PySem.Scope })
theorem ok12 : blkC N20 (defScope st20) sc12 [("turn", 4)] = true := by decide +kernel
structure Fx (K : Frag) (mg : Str → Option Value) (a0 a1 a2 a3 a4 a5 a6 a7 a8 a9 a10 a11 a12 a13 a14 a15 a16 a17 a18 a19 a20 : Addr) : Prop where
  g_is_integer : mg "is_integer" = some (.ref a0)
  k_is_integer : PySem.W.keepIn K (.ref a0) = true
  f_is_integer : ∃ fd, Fun K "is_integer" "is_integer" st0 a0 fd
  g_is_vector_of : mg "is_vector_of" = some (.ref a1)
  k_is_vector_of : PySem.W.keepIn K (.ref a1) = true
  f_is_vector_of : ∃ fd, Fun K "is_vector_of" "is_vector_of" st1 a1 fd
  g_dot_in : mg "dot_in" = some (.ref a2)
  k_dot_in : PySem.W.keepIn K (.ref a2) = true
  f_dot_in : ∃ fd, Fun K "dot_in" "dot_in" st2 a2 fd
  g_plus_in : mg "plus_in" = some (.ref a3)
  k_plus_in : PySem.W.keepIn K (.ref a3) = true
  f_plus_in : ∃ fd, Fun K "plus_in" "plus_in" st3 a3 fd
  g_scaled_in : mg "scaled_in" = some (.ref a4)
  k_scaled_in : PySem.W.keepIn K (.ref a4) = true
  f_scaled_in : ∃ fd, Fun K "scaled_in" "scaled_in" st4 a4 fd
  g_require_vectors : mg "require_vectors" = some (.ref a5)
  k_require_vectors : PySem.W.keepIn K (.ref a5) = true
  f_require_vectors : ∃ fd, Fun K "require_vectors" "require_vectors" st5 a5 fd
  g_is_vector : mg "is_vector" = some (.ref a6)
  k_is_vector : PySem.W.keepIn K (.ref a6) = true
  f_is_vector : ∃ fd, Fun K "is_vector" "is_vector" st6 a6 fd
  g_plus : mg "plus" = some (.ref a7)
  k_plus : PySem.W.keepIn K (.ref a7) = true
  f_plus : ∃ fd, Fun K "plus" "plus" st7 a7 fd
  g_minus : mg "minus" = some (.ref a8)
  k_minus : PySem.W.keepIn K (.ref a8) = true
  f_minus : ∃ fd, Fun K "minus" "minus" st8 a8 fd
  g_times : mg "times" = some (.ref a9)
  k_times : PySem.W.keepIn K (.ref a9) = true
  f_times : ∃ fd, Fun K "times" "times" st9 a9 fd
  g_dot : mg "dot" = some (.ref a10)
  k_dot : PySem.W.keepIn K (.ref a10) = true
  f_dot : ∃ fd, Fun K "dot" "dot" st10 a10 fd
  g__law_stream : mg "_law_stream" = some (.ref a11)
  k__law_stream : PySem.W.keepIn K (.ref a11) = true
  f__law_stream : ∃ fd, Fun K "_law_stream" "_law_stream" st11 a11 fd
  g__law_draw : mg "_law_draw" = some (.ref a12)
  k__law_draw : PySem.W.keepIn K (.ref a12) = true
  f__law_draw : ∃ fd, Fun K "_law_draw" "_law_draw" st12 a12 fd
  g__law_pick : mg "_law_pick" = some (.ref a13)
  k__law_pick : PySem.W.keepIn K (.ref a13) = true
  f__law_pick : ∃ fd, Fun K "_law_pick" "_law_pick" st13 a13 fd
  g__law_odd : mg "_law_odd" = some (.ref a14)
  k__law_odd : PySem.W.keepIn K (.ref a14) = true
  f__law_odd : ∃ fd, Fun K "_law_odd" "_law_odd" st14 a14 fd
  g__law_bent : mg "_law_bent" = some (.ref a15)
  k__law_bent : PySem.W.keepIn K (.ref a15) = true
  f__law_bent : ∃ fd, Fun K "_law_bent" "_law_bent" st15 a15 fd
  g__law_number : mg "_law_number" = some (.ref a16)
  k__law_number : PySem.W.keepIn K (.ref a16) = true
  f__law_number : ∃ fd, Fun K "_law_number" "_law_number" st16 a16 fd
  g__law_vector : mg "_law_vector" = some (.ref a17)
  k__law_vector : PySem.W.keepIn K (.ref a17) = true
  f__law_vector : ∃ fd, Fun K "_law_vector" "_law_vector" st17 a17 fd
  g__law_is_vector : mg "_law_is_vector" = some (.ref a18)
  k__law_is_vector : PySem.W.keepIn K (.ref a18) = true
  f__law_is_vector : ∃ fd, Fun K "_law_is_vector" "_law_is_vector" st18 a18 fd
  g__law_sums_right : mg "_law_sums_right" = some (.ref a19)
  k__law_sums_right : PySem.W.keepIn K (.ref a19) = true
  f__law_sums_right : ∃ fd, Fun K "_law_sums_right" "_law_sums_right" st19 a19 fd
  g_law : mg "law" = some (.ref a20)
  k_law : PySem.W.keepIn K (.ref a20) = true
  f_law : ∃ fd, Fun K "law" "law" st20 a20 fd
  z_abs : mg "abs" = none
  z_all : mg "all" = none
  z_bool : mg "bool" = none
  z_int : mg "int" = none
  z_isinstance : mg "isinstance" = none
  z_len : mg "len" = none
  z_list : mg "list" = none
  z_max : mg "max" = none
  z_min : mg "min" = none
  z_range : mg "range" = none
  z_repr : mg "repr" = none
  z_str : mg "str" = none
  z_sum : mg "sum" = none
  z_tuple : mg "tuple" = none
  z_zip : mg "zip" = none
  c_MAX_ACTIONS : ∃ t, mg "MAX_ACTIONS" = some (.int 5 t)
section
variable {P : Program} {w : World} {K : Frag} {mg : Str → Option Value} {base : Heap} {a0 a1 a2 a3 a4 a5 a6 a7 a8 a9 a10 a11 a12 a13 a14 a15 a16 a17 a18 a19 a20 : Addr} {wf k : Nat}
theorem B0 (FX : Fx K mg a0 a1 a2 a3 a4 a5 a6 a7 a8 a9 a10 a11 a12 a13 a14 a15 a16 a17 a18 a19 a20) (L : Lev P w K mg base [a0, a1, a2, a3, a4, a5, a6, a7, a8, a9, a10, a11, a12, a13, a14, a15, a16, a17, a18, a19, a20] prog wf k) : BodyJ P w K mg base k a0 "is_integer" N0 st0 (Ln.execs (Ln.callI prog wf k) wf b_is_integer) := by
  intro cdv A outer s H E hG hr
  have hu : (A.deeper (envOfC "is_integer" (defScope st0) s.heap.objs.size a0 cdv)).units + 65 < cLine := by have := hr.un; omega
  have hu1 : (A.deeper (envOfC "is_integer" (defScope st0) s.heap.objs.size a0 cdv)).units + 64 < cLine := by omega
  obtain ⟨t_MAX_ACTIONS, h_MAX_ACTIONS⟩ := FX.c_MAX_ACTIONS
  exact (jss_cons (js_ret (je_and (je_isi .int (by rfl) FX.z_isinstance bt_int (by rfl) FX.z_int (je_var (pv 0))) (je_one (je_not (je_isi .bool (by rfl) FX.z_isinstance bt_bool (by rfl) FX.z_bool (je_var (pv 0)))))))
      jss_nil)
theorem B1 (FX : Fx K mg a0 a1 a2 a3 a4 a5 a6 a7 a8 a9 a10 a11 a12 a13 a14 a15 a16 a17 a18 a19 a20) (L : Lev P w K mg base [a0, a1, a2, a3, a4, a5, a6, a7, a8, a9, a10, a11, a12, a13, a14, a15, a16, a17, a18, a19, a20] prog wf k) : BodyJ P w K mg base k a1 "is_vector_of" N1 st1 (Ln.execs (Ln.callI prog wf k) wf b_is_vector_of) := by
  intro cdv A outer s H E hG hr
  have hu : (A.deeper (envOfC "is_vector_of" (defScope st1) s.heap.objs.size a1 cdv)).units + 65 < cLine := by have := hr.un; omega
  have hu1 : (A.deeper (envOfC "is_vector_of" (defScope st1) s.heap.objs.size a1 cdv)).units + 64 < cLine := by omega
  obtain ⟨t_MAX_ACTIONS, h_MAX_ACTIONS⟩ := FX.c_MAX_ACTIONS
  exact (jss_cons (js_ret (je_and (je_isi .tuple (by rfl) FX.z_isinstance bt_tuple (by rfl) FX.z_tuple (je_var (pv 1))) (je_and (je_cmp .eq hu (je_bltB .len (fun _ _ => rfl) cb_len (by rfl) FX.z_len bt_len (ja_cons (je_var (pv 1)) ja_nil)) (je_var (pv 0)) (nomark _)) (je_one (je_bltB .all (fun _ _ => rfl) (cb_all rfl) (by rfl) FX.z_all bt_all (ja_cons (je_lc (own := [("number", 2)]) rfl nd1.nd (ji_seq (je_var (pv 1))) (blkOk_by ok0) (by decide) (fun _ _ _ _ _ => (jg_nm (pg_name (i := 2) nd1.nd rfl (by first | exact .inl rfl | exact .inr rfl)))) (fun _ _ _ _ _ => jts_nil) (fun _ _ _ _ _ => (je_call 0 (L.ok 0 _ rfl) hr hG (by rfl) FX.g_is_integer FX.k_is_integer (ja_cons (je_var (pv 2)) ja_nil))) (fun _ => rfl)) ja_nil))))))
      jss_nil)
theorem B2 (FX : Fx K mg a0 a1 a2 a3 a4 a5 a6 a7 a8 a9 a10 a11 a12 a13 a14 a15 a16 a17 a18 a19 a20) (L : Lev P w K mg base [a0, a1, a2, a3, a4, a5, a6, a7, a8, a9, a10, a11, a12, a13, a14, a15, a16, a17, a18, a19, a20] prog wf k) : BodyJ P w K mg base k a2 "dot_in" N2 st2 (Ln.execs (Ln.callI prog wf k) wf b_dot_in) := by
  intro cdv A outer s H E hG hr
  have hu : (A.deeper (envOfC "dot_in" (defScope st2) s.heap.objs.size a2 cdv)).units + 65 < cLine := by have := hr.un; omega
  have hu1 : (A.deeper (envOfC "dot_in" (defScope st2) s.heap.objs.size a2 cdv)).units + 64 < cLine := by omega
  obtain ⟨t_MAX_ACTIONS, h_MAX_ACTIONS⟩ := FX.c_MAX_ACTIONS
  exact (jss_cons (js_ret (je_bltB .sum (fun _ _ => rfl) (cb_sum rfl) (by rfl) FX.z_sum bt_sum (ja_cons (je_lc (own := [("left", 2), ("right", 3)]) rfl nd2.nd (ji_zip (by rfl) FX.z_zip (je_var (pv 0)) (je_var (pv 1))) (blkOk_by ok1) (by decide) (fun _ _ _ _ _ => (jg_tp (pg_tup rfl (jgs_cons (pg_name (i := 2) nd2.nd rfl (by first | exact .inl rfl | exact .inr rfl)) (jgs_cons (pg_name (i := 3) nd2.nd rfl (by first | exact .inl rfl | exact .inr rfl)) jgs_nil))))) (fun _ _ _ _ _ => jts_nil) (fun _ _ _ _ _ => (je_bin .mul (je_var (pv 2)) (je_var (pv 3)))) (fun _ => rfl)) ja_nil)))
      jss_nil)
theorem B3 (FX : Fx K mg a0 a1 a2 a3 a4 a5 a6 a7 a8 a9 a10 a11 a12 a13 a14 a15 a16 a17 a18 a19 a20) (L : Lev P w K mg base [a0, a1, a2, a3, a4, a5, a6, a7, a8, a9, a10, a11, a12, a13, a14, a15, a16, a17, a18, a19, a20] prog wf k) : BodyJ P w K mg base k a3 "plus_in" N3 st3 (Ln.execs (Ln.callI prog wf k) wf b_plus_in) := by
  intro cdv A outer s H E hG hr
  have hu : (A.deeper (envOfC "plus_in" (defScope st3) s.heap.objs.size a3 cdv)).units + 65 < cLine := by have := hr.un; omega
  have hu1 : (A.deeper (envOfC "plus_in" (defScope st3) s.heap.objs.size a3 cdv)).units + 64 < cLine := by omega
  obtain ⟨t_MAX_ACTIONS, h_MAX_ACTIONS⟩ := FX.c_MAX_ACTIONS
  exact (jss_cons (js_ret (je_bltT .tuple (fun _ _ => rfl) cb_tuple (by rfl) FX.z_tuple bt_tuple (ja_cons (je_lc (own := [("left", 2), ("right", 3)]) rfl nd3.nd (ji_zip (by rfl) FX.z_zip (je_var (pv 0)) (je_var (pv 1))) (blkOk_by ok2) (by decide) (fun _ _ _ _ _ => (jg_tp (pg_tup rfl (jgs_cons (pg_name (i := 2) nd3.nd rfl (by first | exact .inl rfl | exact .inr rfl)) (jgs_cons (pg_name (i := 3) nd3.nd rfl (by first | exact .inl rfl | exact .inr rfl)) jgs_nil))))) (fun _ _ _ _ _ => jts_nil) (fun _ _ _ _ _ => (je_bin .add (je_var (pv 2)) (je_var (pv 3)))) (fun _ => rfl)) ja_nil)))
      jss_nil)
theorem B4 (FX : Fx K mg a0 a1 a2 a3 a4 a5 a6 a7 a8 a9 a10 a11 a12 a13 a14 a15 a16 a17 a18 a19 a20) (L : Lev P w K mg base [a0, a1, a2, a3, a4, a5, a6, a7, a8, a9, a10, a11, a12, a13, a14, a15, a16, a17, a18, a19, a20] prog wf k) : BodyJ P w K mg base k a4 "scaled_in" N4 st4 (Ln.execs (Ln.callI prog wf k) wf b_scaled_in) := by
  intro cdv A outer s H E hG hr
  have hu : (A.deeper (envOfC "scaled_in" (defScope st4) s.heap.objs.size a4 cdv)).units + 65 < cLine := by have := hr.un; omega
  have hu1 : (A.deeper (envOfC "scaled_in" (defScope st4) s.heap.objs.size a4 cdv)).units + 64 < cLine := by omega
  obtain ⟨t_MAX_ACTIONS, h_MAX_ACTIONS⟩ := FX.c_MAX_ACTIONS
  exact (jss_cons (js_ret (je_bltT .tuple (fun _ _ => rfl) cb_tuple (by rfl) FX.z_tuple bt_tuple (ja_cons (je_lc (own := [("entry", 2)]) rfl nd4.nd (ji_seq (je_var (pv 1))) (blkOk_by ok3) (by decide) (fun _ _ _ _ _ => (jg_nm (pg_name (i := 2) nd4.nd rfl (by first | exact .inl rfl | exact .inr rfl)))) (fun _ _ _ _ _ => jts_nil) (fun _ _ _ _ _ => (je_bin .mul (je_var (pv 0)) (je_var (pv 2)))) (fun _ => rfl)) ja_nil)))
      jss_nil)
theorem B5 (FX : Fx K mg a0 a1 a2 a3 a4 a5 a6 a7 a8 a9 a10 a11 a12 a13 a14 a15 a16 a17 a18 a19 a20) (L : Lev P w K mg base [a0, a1, a2, a3, a4, a5, a6, a7, a8, a9, a10, a11, a12, a13, a14, a15, a16, a17, a18, a19, a20] prog wf k) : BodyJ P w K mg base k a5 "require_vectors" N5 st5 (Ln.execs (Ln.callI prog wf k) wf b_require_vectors) := by
  intro cdv A outer s H E hG hr
  have hu : (A.deeper (envOfC "require_vectors" (defScope st5) s.heap.objs.size a5 cdv)).units + 65 < cLine := by have := hr.un; omega
  have hu1 : (A.deeper (envOfC "require_vectors" (defScope st5) s.heap.objs.size a5 cdv)).units + 64 < cLine := by omega
  obtain ⟨t_MAX_ACTIONS, h_MAX_ACTIONS⟩ := FX.c_MAX_ACTIONS
  exact (jss_cons (js_if (jt_w (jw_or (jt_not (jt_truth (je_call 6 (L.ok 6 _ rfl) hr hG (by rfl) FX.g_is_vector FX.k_is_vector (ja_cons (je_var (pv 0)) ja_nil)) fun _ => rfl)) (jw_or1 (jt_not (jt_truth (je_bltB .all (fun _ _ => rfl) (cb_all rfl) (by rfl) FX.z_all bt_all (ja_cons (je_lc (own := [("other", 2)]) rfl nd5.nd (ji_seq (je_var (pv 1))) (blkOk_by ok4) (by decide) (fun _ _ _ _ _ => (jg_nm (pg_name (i := 2) nd5.nd rfl (by first | exact .inl rfl | exact .inr rfl)))) (fun _ _ _ _ _ => jts_nil) (fun _ _ _ _ _ => (je_call 1 (L.ok 1 _ rfl) hr hG (by rfl) FX.g_is_vector_of FX.k_is_vector_of (ja_cons (je_bltB .len (fun _ _ => rfl) cb_len (by rfl) FX.z_len bt_len (ja_cons (je_var (pv 0)) ja_nil)) (ja_cons (je_var (pv 2)) ja_nil)))) (fun _ => rfl)) ja_nil)) fun _ => rfl)))))
      (jss_cons js_bad
      jss_nil) jss_nil)
      jss_nil)
theorem B6 (FX : Fx K mg a0 a1 a2 a3 a4 a5 a6 a7 a8 a9 a10 a11 a12 a13 a14 a15 a16 a17 a18 a19 a20) (L : Lev P w K mg base [a0, a1, a2, a3, a4, a5, a6, a7, a8, a9, a10, a11, a12, a13, a14, a15, a16, a17, a18, a19, a20] prog wf k) : BodyJ P w K mg base k a6 "is_vector" N6 st6 (Ln.execs (Ln.callI prog wf k) wf b_is_vector) := by
  intro cdv A outer s H E hG hr
  have hu : (A.deeper (envOfC "is_vector" (defScope st6) s.heap.objs.size a6 cdv)).units + 65 < cLine := by have := hr.un; omega
  have hu1 : (A.deeper (envOfC "is_vector" (defScope st6) s.heap.objs.size a6 cdv)).units + 64 < cLine := by omega
  obtain ⟨t_MAX_ACTIONS, h_MAX_ACTIONS⟩ := FX.c_MAX_ACTIONS
  exact (jss_cons (js_ret (je_and (je_isi .tuple (by rfl) FX.z_isinstance bt_tuple (by rfl) FX.z_tuple (je_var (pv 0))) (je_and (je_chain .le .le hu je_int (je_bltB .len (fun _ _ => rfl) cb_len (by rfl) FX.z_len bt_len (ja_cons (je_var (pv 0)) ja_nil)) (je_cst (pe_glob (v := .int 5) (by rfl) h_MAX_ACTIONS ⟨_, rfl⟩) fun _ _ => .int _) (by with_unfolding_all rfl)) (je_one (je_call 1 (L.ok 1 _ rfl) hr hG (by rfl) FX.g_is_vector_of FX.k_is_vector_of (ja_cons (je_bltB .len (fun _ _ => rfl) cb_len (by rfl) FX.z_len bt_len (ja_cons (je_var (pv 0)) ja_nil)) (ja_cons (je_var (pv 0)) ja_nil)))))))
      jss_nil)
theorem B7 (FX : Fx K mg a0 a1 a2 a3 a4 a5 a6 a7 a8 a9 a10 a11 a12 a13 a14 a15 a16 a17 a18 a19 a20) (L : Lev P w K mg base [a0, a1, a2, a3, a4, a5, a6, a7, a8, a9, a10, a11, a12, a13, a14, a15, a16, a17, a18, a19, a20] prog wf k) : BodyJ P w K mg base k a7 "plus" N7 st7 (Ln.execs (Ln.callI prog wf k) wf b_plus) := by
  intro cdv A outer s H E hG hr
  have hu : (A.deeper (envOfC "plus" (defScope st7) s.heap.objs.size a7 cdv)).units + 65 < cLine := by have := hr.un; omega
  have hu1 : (A.deeper (envOfC "plus" (defScope st7) s.heap.objs.size a7 cdv)).units + 64 < cLine := by omega
  obtain ⟨t_MAX_ACTIONS, h_MAX_ACTIONS⟩ := FX.c_MAX_ACTIONS
  exact (jss_cons (js_expr (je_callS2 5 (L.ok 5 _ rfl) hr hG (by rfl) FX.g_require_vectors FX.k_require_vectors (ja_cons (je_var (pv 0)) (ja_star (je_var (pv 1)) ja_nil))))
      (jss_cons (js_set (i := 2) nd7.nd rfl (by first | exact .inl rfl | exact .inr rfl) (je_var (pv 0)))
      (jss_cons (js_for PassesOwn.never rfl (ji_seq (je_var (pv 1))) (jg_nm (pg_name (i := 3) nd7.nd rfl (by first | exact .inl rfl | exact .inr rfl)))
      (jss_cons (js_set (i := 2) nd7.nd rfl (by first | exact .inl rfl | exact .inr rfl) (je_call 3 (L.ok 3 _ rfl) hr hG (by rfl) FX.g_plus_in FX.k_plus_in (ja_cons (je_var (pv 2)) (ja_cons (je_var (pv 3)) ja_nil))))
      jss_nil))
      (jss_cons (js_ret (je_var (pv 2)))
      jss_nil))))
theorem B8 (FX : Fx K mg a0 a1 a2 a3 a4 a5 a6 a7 a8 a9 a10 a11 a12 a13 a14 a15 a16 a17 a18 a19 a20) (L : Lev P w K mg base [a0, a1, a2, a3, a4, a5, a6, a7, a8, a9, a10, a11, a12, a13, a14, a15, a16, a17, a18, a19, a20] prog wf k) : BodyJ P w K mg base k a8 "minus" N8 st8 (Ln.execs (Ln.callI prog wf k) wf b_minus) := by
  intro cdv A outer s H E hG hr
  have hu : (A.deeper (envOfC "minus" (defScope st8) s.heap.objs.size a8 cdv)).units + 65 < cLine := by have := hr.un; omega
  have hu1 : (A.deeper (envOfC "minus" (defScope st8) s.heap.objs.size a8 cdv)).units + 64 < cLine := by omega
  obtain ⟨t_MAX_ACTIONS, h_MAX_ACTIONS⟩ := FX.c_MAX_ACTIONS
  exact (jss_cons (js_expr (je_call 5 (L.ok 5 _ rfl) hr hG (by rfl) FX.g_require_vectors FX.k_require_vectors (ja_cons (je_var (pv 0)) (ja_cons (je_var (pv 1)) ja_nil))))
      (jss_cons (js_ret (je_bltT .tuple (fun _ _ => rfl) cb_tuple (by rfl) FX.z_tuple bt_tuple (ja_cons (je_lc (own := [("left", 2), ("right", 3)]) rfl nd8.nd (ji_zip (by rfl) FX.z_zip (je_var (pv 0)) (je_var (pv 1))) (blkOk_by ok5) (by decide) (fun _ _ _ _ _ => (jg_tp (pg_tup rfl (jgs_cons (pg_name (i := 2) nd8.nd rfl (by first | exact .inl rfl | exact .inr rfl)) (jgs_cons (pg_name (i := 3) nd8.nd rfl (by first | exact .inl rfl | exact .inr rfl)) jgs_nil))))) (fun _ _ _ _ _ => jts_nil) (fun _ _ _ _ _ => (je_bin .sub (je_var (pv 2)) (je_var (pv 3)))) (fun _ => rfl)) ja_nil)))
      jss_nil))
theorem B9 (FX : Fx K mg a0 a1 a2 a3 a4 a5 a6 a7 a8 a9 a10 a11 a12 a13 a14 a15 a16 a17 a18 a19 a20) (L : Lev P w K mg base [a0, a1, a2, a3, a4, a5, a6, a7, a8, a9, a10, a11, a12, a13, a14, a15, a16, a17, a18, a19, a20] prog wf k) : BodyJ P w K mg base k a9 "times" N9 st9 (Ln.execs (Ln.callI prog wf k) wf b_times) := by
  intro cdv A outer s H E hG hr
  have hu : (A.deeper (envOfC "times" (defScope st9) s.heap.objs.size a9 cdv)).units + 65 < cLine := by have := hr.un; omega
  have hu1 : (A.deeper (envOfC "times" (defScope st9) s.heap.objs.size a9 cdv)).units + 64 < cLine := by omega
  obtain ⟨t_MAX_ACTIONS, h_MAX_ACTIONS⟩ := FX.c_MAX_ACTIONS
  exact (jss_cons (js_if (jt_not (jt_truth (je_call 0 (L.ok 0 _ rfl) hr hG (by rfl) FX.g_is_integer FX.k_is_integer (ja_cons (je_var (pv 0)) ja_nil)) fun _ => rfl))
      (jss_cons js_bad
      jss_nil) jss_nil)
      (jss_cons (js_expr (je_call 5 (L.ok 5 _ rfl) hr hG (by rfl) FX.g_require_vectors FX.k_require_vectors (ja_cons (je_var (pv 1)) ja_nil)))
      (jss_cons (js_ret (je_call 4 (L.ok 4 _ rfl) hr hG (by rfl) FX.g_scaled_in FX.k_scaled_in (ja_cons (je_var (pv 0)) (ja_cons (je_var (pv 1)) ja_nil))))
      jss_nil)))
theorem B10 (FX : Fx K mg a0 a1 a2 a3 a4 a5 a6 a7 a8 a9 a10 a11 a12 a13 a14 a15 a16 a17 a18 a19 a20) (L : Lev P w K mg base [a0, a1, a2, a3, a4, a5, a6, a7, a8, a9, a10, a11, a12, a13, a14, a15, a16, a17, a18, a19, a20] prog wf k) : BodyJ P w K mg base k a10 "dot" N10 st10 (Ln.execs (Ln.callI prog wf k) wf b_dot) := by
  intro cdv A outer s H E hG hr
  have hu : (A.deeper (envOfC "dot" (defScope st10) s.heap.objs.size a10 cdv)).units + 65 < cLine := by have := hr.un; omega
  have hu1 : (A.deeper (envOfC "dot" (defScope st10) s.heap.objs.size a10 cdv)).units + 64 < cLine := by omega
  obtain ⟨t_MAX_ACTIONS, h_MAX_ACTIONS⟩ := FX.c_MAX_ACTIONS
  exact (jss_cons (js_expr (je_call 5 (L.ok 5 _ rfl) hr hG (by rfl) FX.g_require_vectors FX.k_require_vectors (ja_cons (je_var (pv 0)) (ja_cons (je_var (pv 1)) ja_nil))))
      (jss_cons (js_ret (je_call 2 (L.ok 2 _ rfl) hr hG (by rfl) FX.g_dot_in FX.k_dot_in (ja_cons (je_var (pv 0)) (ja_cons (je_var (pv 1)) ja_nil))))
      jss_nil))
theorem B11 (FX : Fx K mg a0 a1 a2 a3 a4 a5 a6 a7 a8 a9 a10 a11 a12 a13 a14 a15 a16 a17 a18 a19 a20) (L : Lev P w K mg base [a0, a1, a2, a3, a4, a5, a6, a7, a8, a9, a10, a11, a12, a13, a14, a15, a16, a17, a18, a19, a20] prog wf k) : BodyJ P w K mg base k a11 "_law_stream" N11 st11 (Ln.execs (Ln.callI prog wf k) wf b__law_stream) := by
  intro cdv A outer s H E hG hr
  have hu : (A.deeper (envOfC "_law_stream" (defScope st11) s.heap.objs.size a11 cdv)).units + 65 < cLine := by have := hr.un; omega
  have hu1 : (A.deeper (envOfC "_law_stream" (defScope st11) s.heap.objs.size a11 cdv)).units + 64 < cLine := by omega
  obtain ⟨t_MAX_ACTIONS, h_MAX_ACTIONS⟩ := FX.c_MAX_ACTIONS
  exact (jss_cons (js_set (i := 2) nd11.nd rfl (by first | exact .inl rfl | exact .inr rfl) (je_bin .add (je_bin .mul je_int (je_var (pv 1))) je_int))
      (jss_cons (js_if (jt_cmp .lt hu (je_var (pv 1)) (je_bltB .len (fun _ _ => rfl) cb_len (by rfl) FX.z_len bt_len (ja_cons (je_var (pv 0)) ja_nil)) (nomark _))
      (jss_cons (js_set (i := 2) nd11.nd rfl (by first | exact .inl rfl | exact .inr rfl) (je_idx (je_var (pv 0)) (je_var (pv 1)) (fun _ _ => rfl)))
      jss_nil) jss_nil)
      (jss_cons (js_set (i := 3) nd11.nd rfl (by first | exact .inl rfl | exact .inr rfl) (je_bin .mod (je_bltB .abs (fun _ _ => rfl) cb_abs (by rfl) FX.z_abs bt_abs (ja_cons (je_var (pv 2)) ja_nil)) (je_bin .pow (je_bin .pow je_int je_int) je_int)))
      (jss_cons (js_set (i := 4) nd11.nd rfl (by first | exact .inl rfl | exact .inr rfl) (je_bin .mod (je_bin .add (je_bin .add (je_bin .add (je_bin .mul (je_bin .mod (je_var (pv 3)) je_int) je_int) (je_bin .mul je_int (je_var (pv 1)))) (je_bin .mul je_int (je_bltT .int (fun _ _ => rfl) cb_int (by rfl) FX.z_int bt_int (ja_cons (je_cmp .lt hu (je_var (pv 2)) je_int (nomark _)) ja_nil)))) je_int) je_int))
      (jss_cons (js_ret (je_lstM (ja_cons (je_bltB .max (fun _ _ => rfl) (cb_max rfl) (by rfl) FX.z_max bt_max (ja_cons je_int (ja_cons (je_bin .add (je_bin .sub (je_var (pv 3)) (je_bin .pow je_int je_int)) je_int) ja_nil))) (ja_cons (je_var (pv 4)) (ja_cons je_int ja_nil)))))
      jss_nil)))))
theorem B12 (FX : Fx K mg a0 a1 a2 a3 a4 a5 a6 a7 a8 a9 a10 a11 a12 a13 a14 a15 a16 a17 a18 a19 a20) (L : Lev P w K mg base [a0, a1, a2, a3, a4, a5, a6, a7, a8, a9, a10, a11, a12, a13, a14, a15, a16, a17, a18, a19, a20] prog wf k) : BodyJ P w K mg base k a12 "_law_draw" N12 st12 (Ln.execs (Ln.callI prog wf k) wf b__law_draw) := by
  intro cdv A outer s H E hG hr
  have hu : (A.deeper (envOfC "_law_draw" (defScope st12) s.heap.objs.size a12 cdv)).units + 65 < cLine := by have := hr.un; omega
  have hu1 : (A.deeper (envOfC "_law_draw" (defScope st12) s.heap.objs.size a12 cdv)).units + 64 < cLine := by omega
  obtain ⟨t_MAX_ACTIONS, h_MAX_ACTIONS⟩ := FX.c_MAX_ACTIONS
  exact (jss_cons (js_if (jt_cmp .gt hu (je_idx (je_var (pv 0)) je_int (fun _ _ => rfl)) je_int (nomark _))
      (jss_cons (js_set (i := 2) nd12.nd rfl (by first | exact .inl rfl | exact .inr rfl) (je_bin .mod (je_idx (je_var (pv 0)) je_int (fun _ _ => rfl)) (je_var (pv 1))))
      (jss_cons (js_setI (je_var (pv 0)) je_int (je_bin .fdiv (je_idx (je_var (pv 0)) je_int (fun _ _ => rfl)) (je_var (pv 1))))
      (jss_cons (js_ret (je_var (pv 2)))
      jss_nil))) jss_nil)
      (jss_cons (js_setI (je_var (pv 0)) je_int (je_bin .add (je_idx (je_var (pv 0)) je_int (fun _ _ => rfl)) je_int))
      (jss_cons (js_set (i := 3) nd12.nd rfl (by first | exact .inl rfl | exact .inr rfl) (je_bin .mod (je_bin .add (je_idx (je_var (pv 0)) je_int (fun _ _ => rfl)) (je_bin .mul je_int (je_idx (je_var (pv 0)) je_int (fun _ _ => rfl)))) je_int))
      (jss_cons (js_set (i := 4) nd12.nd rfl (by first | exact .inl rfl | exact .inr rfl) (je_bin .mod (je_bin .add (je_bin .mul (je_bin .mod (je_bin .mul (je_var (pv 3)) (je_var (pv 3))) je_int) (je_var (pv 3))) (je_bin .mul je_int (je_idx (je_var (pv 0)) je_int (fun _ _ => rfl)))) je_int))
      (jss_cons (js_ret (je_bin .mod (je_bin .fdiv (je_var (pv 4)) je_int) (je_var (pv 1))))
      jss_nil)))))
theorem B13 (FX : Fx K mg a0 a1 a2 a3 a4 a5 a6 a7 a8 a9 a10 a11 a12 a13 a14 a15 a16 a17 a18 a19 a20) (L : Lev P w K mg base [a0, a1, a2, a3, a4, a5, a6, a7, a8, a9, a10, a11, a12, a13, a14, a15, a16, a17, a18, a19, a20] prog wf k) : BodyJ P w K mg base k a13 "_law_pick" N13 st13 (Ln.execs (Ln.callI prog wf k) wf b__law_pick) := by
  intro cdv A outer s H E hG hr
  have hu : (A.deeper (envOfC "_law_pick" (defScope st13) s.heap.objs.size a13 cdv)).units + 65 < cLine := by have := hr.un; omega
  have hu1 : (A.deeper (envOfC "_law_pick" (defScope st13) s.heap.objs.size a13 cdv)).units + 64 < cLine := by omega
  obtain ⟨t_MAX_ACTIONS, h_MAX_ACTIONS⟩ := FX.c_MAX_ACTIONS
  exact (jss_cons (js_ret (je_idx (je_var (pv 1)) (je_call 12 (L.ok 12 _ rfl) hr hG (by rfl) FX.g__law_draw FX.k__law_draw (ja_cons (je_var (pv 0)) (ja_cons (je_bltB .len (fun _ _ => rfl) cb_len (by rfl) FX.z_len bt_len (ja_cons (je_var (pv 1)) ja_nil)) ja_nil))) (fun _ _ => rfl)))
      jss_nil)
theorem B14 (FX : Fx K mg a0 a1 a2 a3 a4 a5 a6 a7 a8 a9 a10 a11 a12 a13 a14 a15 a16 a17 a18 a19 a20) (L : Lev P w K mg base [a0, a1, a2, a3, a4, a5, a6, a7, a8, a9, a10, a11, a12, a13, a14, a15, a16, a17, a18, a19, a20] prog wf k) : BodyJ P w K mg base k a14 "_law_odd" N14 st14 (Ln.execs (Ln.callI prog wf k) wf b__law_odd) := by
  intro cdv A outer s H E hG hr
  have hu : (A.deeper (envOfC "_law_odd" (defScope st14) s.heap.objs.size a14 cdv)).units + 65 < cLine := by have := hr.un; omega
  have hu1 : (A.deeper (envOfC "_law_odd" (defScope st14) s.heap.objs.size a14 cdv)).units + 64 < cLine := by omega
  obtain ⟨t_MAX_ACTIONS, h_MAX_ACTIONS⟩ := FX.c_MAX_ACTIONS
  exact (jss_cons (js_set (i := 1) nd14.nd rfl (by first | exact .inl rfl | exact .inr rfl) (je_lst (ja_cons je_non (ja_cons je_bl (ja_cons je_bl (ja_cons (je_neg je_int) (ja_cons je_int (ja_cons je_int (ja_cons je_int (ja_cons (je_bin .pow je_int je_int) (ja_cons je_str (ja_cons je_str (ja_cons je_str (ja_cons je_str (ja_cons (je_tup ja_nil) (ja_cons (je_lst ja_nil) (ja_cons je_dct0 (ja_cons (je_tup (ja_cons je_int ja_nil)) (ja_cons (je_tup (ja_cons je_str ja_nil)) (ja_cons (je_lst (ja_cons je_int ja_nil)) (ja_cons (je_tup (ja_cons (je_tup ja_nil) ja_nil)) (ja_cons je_str ja_nil))))))))))))))))))))))
      (jss_cons (js_ret (je_call 13 (L.ok 13 _ rfl) hr hG (by rfl) FX.g__law_pick FX.k__law_pick (ja_cons (je_var (pv 0)) (ja_cons (je_var (pv 1)) ja_nil))))
      jss_nil))
theorem B15 (FX : Fx K mg a0 a1 a2 a3 a4 a5 a6 a7 a8 a9 a10 a11 a12 a13 a14 a15 a16 a17 a18 a19 a20) (L : Lev P w K mg base [a0, a1, a2, a3, a4, a5, a6, a7, a8, a9, a10, a11, a12, a13, a14, a15, a16, a17, a18, a19, a20] prog wf k) : BodyJ P w K mg base k a15 "_law_bent" N15 st15 (Ln.execs (Ln.callI prog wf k) wf b__law_bent) := by
  intro cdv A outer s H E hG hr
  have hu : (A.deeper (envOfC "_law_bent" (defScope st15) s.heap.objs.size a15 cdv)).units + 65 < cLine := by have := hr.un; omega
  have hu1 : (A.deeper (envOfC "_law_bent" (defScope st15) s.heap.objs.size a15 cdv)).units + 64 < cLine := by omega
  obtain ⟨t_MAX_ACTIONS, h_MAX_ACTIONS⟩ := FX.c_MAX_ACTIONS
  exact (jss_cons (js_if (jt_w (jw_and (jt_truth (je_isi .tuple (by rfl) FX.z_isinstance bt_tuple (by rfl) FX.z_tuple (je_var (pv 1))) fun _ => rfl) (jw_and (jt_cmp .ne hu (je_var (pv 1)) (je_tup ja_nil) (nomark _)) (jw_and (jt_cmp .gt hu (je_var (pv 2)) je_int (nomark _)) (jw_and1 (jt_cmp .gt hu (je_call 12 (L.ok 12 _ rfl) hr hG (by rfl) FX.g__law_draw FX.k__law_draw (ja_cons (je_var (pv 0)) (ja_cons je_int ja_nil))) je_int (nomark _)))))))
      (jss_cons (js_set (i := 3) nd15.nd rfl (by first | exact .inl rfl | exact .inr rfl) (je_call 12 (L.ok 12 _ rfl) hr hG (by rfl) FX.g__law_draw FX.k__law_draw (ja_cons (je_var (pv 0)) (ja_cons (je_bltB .len (fun _ _ => rfl) cb_len (by rfl) FX.z_len bt_len (ja_cons (je_var (pv 1)) ja_nil)) ja_nil))))
      (jss_cons (js_ret (je_bin .add (je_bin .add (je_slc (je_var (pv 1)) jo_no (jo_so (je_var (pv 3)))) (je_tup (ja_cons (je_call 15 (L.ok 15 _ rfl) hr hG (by rfl) FX.g__law_bent FX.k__law_bent (ja_cons (je_var (pv 0)) (ja_cons (je_idx (je_var (pv 1)) (je_var (pv 3)) (fun _ _ => rfl)) (ja_cons (je_bin .sub (je_var (pv 2)) je_int) ja_nil)))) ja_nil))) (je_slc (je_var (pv 1)) (jo_so (je_bin .add (je_var (pv 3)) je_int)) jo_no)))
      jss_nil)) jss_nil)
      (jss_cons (js_if (jt_truth (je_isi .tuple (by rfl) FX.z_isinstance bt_tuple (by rfl) FX.z_tuple (je_var (pv 1))) fun _ => rfl)
      (jss_cons (js_set (i := 3) nd15.nd rfl (by first | exact .inl rfl | exact .inr rfl) (je_call 12 (L.ok 12 _ rfl) hr hG (by rfl) FX.g__law_draw FX.k__law_draw (ja_cons (je_var (pv 0)) (ja_cons (je_bin .add (je_bltB .len (fun _ _ => rfl) cb_len (by rfl) FX.z_len bt_len (ja_cons (je_var (pv 1)) ja_nil)) je_int) ja_nil))))
      (jss_cons (js_set (i := 4) nd15.nd rfl (by first | exact .inl rfl | exact .inr rfl) (je_lst (ja_cons (je_bltT .list (fun _ _ => rfl) cb_list (by rfl) FX.z_list bt_list (ja_cons (je_var (pv 1)) ja_nil)) (ja_cons (je_bin .add (je_slc (je_var (pv 1)) jo_no (jo_so (je_var (pv 3)))) (je_slc (je_var (pv 1)) (jo_so (je_bin .add (je_var (pv 3)) je_int)) jo_no)) (ja_cons (je_bin .add (je_bin .add (je_slc (je_var (pv 1)) jo_no (jo_so (je_var (pv 3)))) (je_tup (ja_cons je_int ja_nil))) (je_slc (je_var (pv 1)) (jo_so (je_var (pv 3))) jo_no)) (ja_cons (je_rev (je_var (pv 1))) ja_nil))))))
      (jss_cons (js_ret (je_call 13 (L.ok 13 _ rfl) hr hG (by rfl) FX.g__law_pick FX.k__law_pick (ja_cons (je_var (pv 0)) (ja_cons (je_bin .add (je_var (pv 4)) (je_lst (ja_cons (je_bin .add (je_var (pv 1)) (je_slc (je_var (pv 1)) (jo_so (je_neg je_int)) jo_no)) (ja_cons (je_tup (ja_cons (je_var (pv 1)) ja_nil)) (ja_cons (je_tup ja_nil) (ja_cons (je_bin .add (je_bin .add (je_slc (je_var (pv 1)) jo_no (jo_so (je_var (pv 3)))) (je_slc (je_var (pv 1)) jo_no (jo_so je_int))) (je_slc (je_var (pv 1)) (jo_so (je_var (pv 3))) jo_no)) ja_nil)))))) ja_nil))))
      jss_nil))) jss_nil)
      (jss_cons (js_if (jt_w (jw_and (jt_truth (je_isi .int (by rfl) FX.z_isinstance bt_int (by rfl) FX.z_int (je_var (pv 1))) fun _ => rfl) (jw_and1 (jt_not (jt_truth (je_isi .bool (by rfl) FX.z_isinstance bt_bool (by rfl) FX.z_bool (je_var (pv 1))) fun _ => rfl)))))
      (jss_cons (js_ret (je_call 13 (L.ok 13 _ rfl) hr hG (by rfl) FX.g__law_pick FX.k__law_pick (ja_cons (je_var (pv 0)) (ja_cons (je_lst (ja_cons (je_bin .add (je_var (pv 1)) je_int) (ja_cons (je_bin .sub (je_var (pv 1)) je_int) (ja_cons (je_bin .sub je_int (je_var (pv 1))) (ja_cons (je_cmp .eq hu (je_var (pv 1)) je_int (nomark _)) (ja_cons (je_bltT .str (fun _ _ => rfl) cb_str (by rfl) FX.z_str bt_str (ja_cons (je_var (pv 1)) ja_nil)) (ja_cons (je_tup (ja_cons (je_var (pv 1)) ja_nil)) (ja_cons (je_bin .mul je_int (je_var (pv 1))) ja_nil)))))))) ja_nil))))
      jss_nil) jss_nil)
      (jss_cons (js_if (jt_truth (je_isi .str (by rfl) FX.z_isinstance bt_str (by rfl) FX.z_str (je_var (pv 1))) fun _ => rfl)
      (jss_cons (js_ret (je_call 13 (L.ok 13 _ rfl) hr hG (by rfl) FX.g__law_pick FX.k__law_pick (ja_cons (je_var (pv 0)) (ja_cons (je_lst (ja_cons (je_bin .add (je_var (pv 1)) je_str) (ja_cons (je_slc (je_var (pv 1)) (jo_so je_int) jo_no) (ja_cons je_str (ja_cons je_str (ja_cons je_str (ja_cons je_bad (ja_cons (je_tup (ja_cons (je_var (pv 1)) ja_nil)) (ja_cons je_non ja_nil))))))))) ja_nil))))
      jss_nil) jss_nil)
      (jss_cons (js_ret (je_call 14 (L.ok 14 _ rfl) hr hG (by rfl) FX.g__law_odd FX.k__law_odd (ja_cons (je_var (pv 0)) ja_nil)))
      jss_nil)))))
theorem B16 (FX : Fx K mg a0 a1 a2 a3 a4 a5 a6 a7 a8 a9 a10 a11 a12 a13 a14 a15 a16 a17 a18 a19 a20) (L : Lev P w K mg base [a0, a1, a2, a3, a4, a5, a6, a7, a8, a9, a10, a11, a12, a13, a14, a15, a16, a17, a18, a19, a20] prog wf k) : BodyJ P w K mg base k a16 "_law_number" N16 st16 (Ln.execs (Ln.callI prog wf k) wf b__law_number) := by
  intro cdv A outer s H E hG hr
  have hu : (A.deeper (envOfC "_law_number" (defScope st16) s.heap.objs.size a16 cdv)).units + 65 < cLine := by have := hr.un; omega
  have hu1 : (A.deeper (envOfC "_law_number" (defScope st16) s.heap.objs.size a16 cdv)).units + 64 < cLine := by omega
  obtain ⟨t_MAX_ACTIONS, h_MAX_ACTIONS⟩ := FX.c_MAX_ACTIONS
  exact (jss_cons (js_set (i := 1) nd16.nd rfl (by first | exact .inl rfl | exact .inr rfl) (je_lst (ja_cons (je_bin .sub (je_call 12 (L.ok 12 _ rfl) hr hG (by rfl) FX.g__law_draw FX.k__law_draw (ja_cons (je_var (pv 0)) (ja_cons je_int ja_nil))) je_int) (ja_cons (je_bin .sub (je_call 12 (L.ok 12 _ rfl) hr hG (by rfl) FX.g__law_draw FX.k__law_draw (ja_cons (je_var (pv 0)) (ja_cons je_int ja_nil))) je_int) (ja_cons (je_bin .add (je_bin .pow je_int je_int) (je_call 12 (L.ok 12 _ rfl) hr hG (by rfl) FX.g__law_draw FX.k__law_draw (ja_cons (je_var (pv 0)) (ja_cons je_int ja_nil)))) (ja_cons (je_bin .sub je_int (je_bin .pow je_int je_int)) ja_nil))))))
      (jss_cons (js_ret (je_call 13 (L.ok 13 _ rfl) hr hG (by rfl) FX.g__law_pick FX.k__law_pick (ja_cons (je_var (pv 0)) (ja_cons (je_var (pv 1)) ja_nil))))
      jss_nil))
theorem B17 (FX : Fx K mg a0 a1 a2 a3 a4 a5 a6 a7 a8 a9 a10 a11 a12 a13 a14 a15 a16 a17 a18 a19 a20) (L : Lev P w K mg base [a0, a1, a2, a3, a4, a5, a6, a7, a8, a9, a10, a11, a12, a13, a14, a15, a16, a17, a18, a19, a20] prog wf k) : BodyJ P w K mg base k a17 "_law_vector" N17 st17 (Ln.execs (Ln.callI prog wf k) wf b__law_vector) := by
  intro cdv A outer s H E hG hr
  have hu : (A.deeper (envOfC "_law_vector" (defScope st17) s.heap.objs.size a17 cdv)).units + 65 < cLine := by have := hr.un; omega
  have hu1 : (A.deeper (envOfC "_law_vector" (defScope st17) s.heap.objs.size a17 cdv)).units + 64 < cLine := by omega
  obtain ⟨t_MAX_ACTIONS, h_MAX_ACTIONS⟩ := FX.c_MAX_ACTIONS
  exact (jss_cons (js_ret (je_bltT .tuple (fun _ _ => rfl) cb_tuple (by rfl) FX.z_tuple bt_tuple (ja_cons (je_lc (own := [("turn", 2)]) rfl nd17.nd (ji_rng1 (by rfl) FX.z_range (je_var (pv 1))) (blkOk_by ok6) (by decide) (fun _ _ _ _ _ => (jg_nm (pg_name (i := 2) nd17.nd rfl (by first | exact .inl rfl | exact .inr rfl)))) (fun _ _ _ _ _ => jts_nil) (fun _ _ _ _ _ => (je_call 16 (L.ok 16 _ rfl) hr hG (by rfl) FX.g__law_number FX.k__law_number (ja_cons (je_var (pv 0)) ja_nil))) (fun _ => rfl)) ja_nil)))
      jss_nil)
theorem B18 (FX : Fx K mg a0 a1 a2 a3 a4 a5 a6 a7 a8 a9 a10 a11 a12 a13 a14 a15 a16 a17 a18 a19 a20) (L : Lev P w K mg base [a0, a1, a2, a3, a4, a5, a6, a7, a8, a9, a10, a11, a12, a13, a14, a15, a16, a17, a18, a19, a20] prog wf k) : BodyJ P w K mg base k a18 "_law_is_vector" N18 st18 (Ln.execs (Ln.callI prog wf k) wf b__law_is_vector) := by
  intro cdv A outer s H E hG hr
  have hu : (A.deeper (envOfC "_law_is_vector" (defScope st18) s.heap.objs.size a18 cdv)).units + 65 < cLine := by have := hr.un; omega
  have hu1 : (A.deeper (envOfC "_law_is_vector" (defScope st18) s.heap.objs.size a18 cdv)).units + 64 < cLine := by omega
  obtain ⟨t_MAX_ACTIONS, h_MAX_ACTIONS⟩ := FX.c_MAX_ACTIONS
  exact (jss_cons (js_if (jt_w (jw_or (jt_not (jt_truth (je_isi .tuple (by rfl) FX.z_isinstance bt_tuple (by rfl) FX.z_tuple (je_var (pv 0))) fun _ => rfl)) (jw_or1 (jt_not (jt_chain .le .le hu je_int (je_bltB .len (fun _ _ => rfl) cb_len (by rfl) FX.z_len bt_len (ja_cons (je_var (pv 0)) ja_nil)) je_int (by with_unfolding_all rfl))))))
      (jss_cons (js_ret je_bl)
      jss_nil) jss_nil)
      (jss_cons (js_ret (je_cmp .eq hu (je_lc (own := [("one", 1)]) rfl nd18.nd (ji_seq (je_var (pv 0))) (blkOk_by ok7) (by decide) (fun _ _ _ _ _ => (jg_nm (pg_name (i := 1) nd18.nd rfl (by first | exact .inl rfl | exact .inr rfl)))) (fun _ _ _ _ _ => (jts_one (jt_w (jw_or (jt_not (jt_truth (je_isi .int (by rfl) FX.z_isinstance bt_int (by rfl) FX.z_int (je_var (pv 1))) fun _ => rfl)) (jw_or1 (jt_truth (je_isi .bool (by rfl) FX.z_isinstance bt_bool (by rfl) FX.z_bool (je_var (pv 1))) fun _ => rfl)))))) (fun _ _ _ _ _ => je_int) (fun _ => rfl)) (je_lst ja_nil) (nomark _)))
      jss_nil))
theorem B19 (FX : Fx K mg a0 a1 a2 a3 a4 a5 a6 a7 a8 a9 a10 a11 a12 a13 a14 a15 a16 a17 a18 a19 a20) (L : Lev P w K mg base [a0, a1, a2, a3, a4, a5, a6, a7, a8, a9, a10, a11, a12, a13, a14, a15, a16, a17, a18, a19, a20] prog wf k) : BodyJ P w K mg base k a19 "_law_sums_right" N19 st19 (Ln.execs (Ln.callI prog wf k) wf b__law_sums_right) := by
  intro cdv A outer s H E hG hr
  have hu : (A.deeper (envOfC "_law_sums_right" (defScope st19) s.heap.objs.size a19 cdv)).units + 65 < cLine := by have := hr.un; omega
  have hu1 : (A.deeper (envOfC "_law_sums_right" (defScope st19) s.heap.objs.size a19 cdv)).units + 64 < cLine := by omega
  obtain ⟨t_MAX_ACTIONS, h_MAX_ACTIONS⟩ := FX.c_MAX_ACTIONS
  exact (jss_cons (js_setT (je_tup (ja_cons (je_bltB .len (fun _ _ => rfl) cb_len (by rfl) FX.z_len bt_len (ja_cons (je_var (pv 1)) ja_nil)) (ja_cons (je_call 16 (L.ok 16 _ rfl) hr hG (by rfl) FX.g__law_number FX.k__law_number (ja_cons (je_var (pv 0)) ja_nil)) ja_nil))) (jg_un rfl (jgs_cons (pg_name (i := 4) nd19.nd rfl (by first | exact .inl rfl | exact .inr rfl)) (jgs_cons (pg_name (i := 5) nd19.nd rfl (by first | exact .inl rfl | exact .inr rfl)) jgs_nil))))
      (jss_cons (js_set (i := 7) nd19.nd rfl (by first | exact .inl rfl | exact .inr rfl) (je_bltT .tuple (fun _ _ => rfl) cb_tuple (by rfl) FX.z_tuple bt_tuple (ja_cons (je_lc (own := [("at", 6)]) rfl nd19.nd (ji_rng1 (by rfl) FX.z_range (je_var (pv 4))) (blkOk_by ok10) (by decide) (fun _ _ _ _ _ => (jg_nm (pg_name (i := 6) nd19.nd rfl (by first | exact .inl rfl | exact .inr rfl)))) (fun _ _ _ _ _ => jts_nil) (fun _ _ _ _ _ => (je_bin .add (je_bin .add (je_idx (je_var (pv 1)) (je_var (pv 6)) (fun _ _ => rfl)) (je_idx (je_var (pv 2)) (je_var (pv 6)) (fun _ _ => rfl))) (je_idx (je_var (pv 3)) (je_var (pv 6)) (fun _ _ => rfl)))) (fun _ => rfl)) ja_nil)))
      (jss_cons (js_if (jt_w (jw_or (jt_cmp .ne hu (je_bltB .repr (fun _ _ => rfl) (cb_repr hG hu1) (by rfl) FX.z_repr bt_repr (ja_cons (je_call 7 (L.ok 7 _ rfl) hr hG (by rfl) FX.g_plus FX.k_plus (ja_cons (je_var (pv 1)) (ja_cons (je_var (pv 2)) (ja_cons (je_var (pv 3)) ja_nil)))) ja_nil)) (je_bltB .repr (fun _ _ => rfl) (cb_repr hG hu1) (by rfl) FX.z_repr bt_repr (ja_cons (je_var (pv 7)) ja_nil)) (nomark _)) (jw_or1 (jt_cmp .ne hu (je_bltB .repr (fun _ _ => rfl) (cb_repr hG hu1) (by rfl) FX.z_repr bt_repr (ja_cons (je_call 7 (L.ok 7 _ rfl) hr hG (by rfl) FX.g_plus FX.k_plus (ja_cons (je_var (pv 1)) ja_nil)) ja_nil)) (je_bltB .repr (fun _ _ => rfl) (cb_repr hG hu1) (by rfl) FX.z_repr bt_repr (ja_cons (je_var (pv 1)) ja_nil)) (nomark _)))))
      (jss_cons (js_ret je_bl)
      jss_nil) jss_nil)
      (jss_cons (js_if (jt_cmp .ne hu (je_bltB .repr (fun _ _ => rfl) (cb_repr hG hu1) (by rfl) FX.z_repr bt_repr (ja_cons (je_call 8 (L.ok 8 _ rfl) hr hG (by rfl) FX.g_minus FX.k_minus (ja_cons (je_var (pv 1)) (ja_cons (je_var (pv 2)) ja_nil))) ja_nil)) (je_bltB .repr (fun _ _ => rfl) (cb_repr hG hu1) (by rfl) FX.z_repr bt_repr (ja_cons (je_bltT .tuple (fun _ _ => rfl) cb_tuple (by rfl) FX.z_tuple bt_tuple (ja_cons (je_lc (own := [("at", 6)]) rfl nd19.nd (ji_rng1 (by rfl) FX.z_range (je_var (pv 4))) (blkOk_by ok9) (by decide) (fun _ _ _ _ _ => (jg_nm (pg_name (i := 6) nd19.nd rfl (by first | exact .inl rfl | exact .inr rfl)))) (fun _ _ _ _ _ => jts_nil) (fun _ _ _ _ _ => (je_bin .sub (je_idx (je_var (pv 1)) (je_var (pv 6)) (fun _ _ => rfl)) (je_idx (je_var (pv 2)) (je_var (pv 6)) (fun _ _ => rfl)))) (fun _ => rfl)) ja_nil)) ja_nil)) (nomark _))
      (jss_cons (js_ret je_bl)
      jss_nil) jss_nil)
      (jss_cons (js_if (jt_cmp .ne hu (je_bltB .repr (fun _ _ => rfl) (cb_repr hG hu1) (by rfl) FX.z_repr bt_repr (ja_cons (je_call 9 (L.ok 9 _ rfl) hr hG (by rfl) FX.g_times FX.k_times (ja_cons (je_var (pv 5)) (ja_cons (je_var (pv 1)) ja_nil))) ja_nil)) (je_bltB .repr (fun _ _ => rfl) (cb_repr hG hu1) (by rfl) FX.z_repr bt_repr (ja_cons (je_bltT .tuple (fun _ _ => rfl) cb_tuple (by rfl) FX.z_tuple bt_tuple (ja_cons (je_lc (own := [("entry", 10)]) rfl nd19.nd (ji_seq (je_var (pv 1))) (blkOk_by ok8) (by decide) (fun _ _ _ _ _ => (jg_nm (pg_name (i := 10) nd19.nd rfl (by first | exact .inl rfl | exact .inr rfl)))) (fun _ _ _ _ _ => jts_nil) (fun _ _ _ _ _ => (je_bin .mul (je_var (pv 5)) (je_var (pv 10)))) (fun _ => rfl)) ja_nil)) ja_nil)) (nomark _))
      (jss_cons (js_ret je_bl)
      jss_nil) jss_nil)
      (jss_cons (js_set (i := 8) nd19.nd rfl (by first | exact .inl rfl | exact .inr rfl) je_int)
      (jss_cons (js_for PassesOwn.never rfl (ji_rng1 (by rfl) FX.z_range (je_var (pv 4))) (jg_nm (pg_name (i := 6) nd19.nd rfl (by first | exact .inl rfl | exact .inr rfl)))
      (jss_cons (js_set (i := 8) nd19.nd rfl (by first | exact .inl rfl | exact .inr rfl) (je_bin .add (je_var (pv 8)) (je_bin .mul (je_idx (je_var (pv 1)) (je_var (pv 6)) (fun _ _ => rfl)) (je_idx (je_var (pv 2)) (je_var (pv 6)) (fun _ _ => rfl)))))
      jss_nil))
      (jss_cons (js_if (jt_w (jw_or (jt_cmp .ne hu (je_bltB .repr (fun _ _ => rfl) (cb_repr hG hu1) (by rfl) FX.z_repr bt_repr (ja_cons (je_call 10 (L.ok 10 _ rfl) hr hG (by rfl) FX.g_dot FX.k_dot (ja_cons (je_var (pv 1)) (ja_cons (je_var (pv 2)) ja_nil))) ja_nil)) (je_bltB .repr (fun _ _ => rfl) (cb_repr hG hu1) (by rfl) FX.z_repr bt_repr (ja_cons (je_var (pv 8)) ja_nil)) (nomark _)) (jw_or1 (jt_cmp .ne hu (je_call 7 (L.ok 7 _ rfl) hr hG (by rfl) FX.g_plus FX.k_plus (ja_cons (je_call 8 (L.ok 8 _ rfl) hr hG (by rfl) FX.g_minus FX.k_minus (ja_cons (je_var (pv 1)) (ja_cons (je_var (pv 2)) ja_nil))) (ja_cons (je_var (pv 2)) ja_nil))) (je_var (pv 1)) (nomark _)))))
      (jss_cons (js_ret je_bl)
      jss_nil) jss_nil)
      (jss_cons (js_set (i := 9) nd19.nd rfl (by first | exact .inl rfl | exact .inr rfl) (je_bin .sub (je_call 12 (L.ok 12 _ rfl) hr hG (by rfl) FX.g__law_draw FX.k__law_draw (ja_cons (je_var (pv 0)) (ja_cons je_int ja_nil))) je_int))
      (jss_cons (js_if (jt_cmp .ne hu (je_call 10 (L.ok 10 _ rfl) hr hG (by rfl) FX.g_dot FX.k_dot (ja_cons (je_call 9 (L.ok 9 _ rfl) hr hG (by rfl) FX.g_times FX.k_times (ja_cons (je_var (pv 9)) (ja_cons (je_var (pv 1)) ja_nil))) (ja_cons (je_call 7 (L.ok 7 _ rfl) hr hG (by rfl) FX.g_plus FX.k_plus (ja_cons (je_var (pv 2)) (ja_cons (je_var (pv 3)) ja_nil))) ja_nil))) (je_bin .mul (je_var (pv 9)) (je_bin .add (je_call 10 (L.ok 10 _ rfl) hr hG (by rfl) FX.g_dot FX.k_dot (ja_cons (je_var (pv 1)) (ja_cons (je_var (pv 2)) ja_nil))) (je_call 10 (L.ok 10 _ rfl) hr hG (by rfl) FX.g_dot FX.k_dot (ja_cons (je_var (pv 1)) (ja_cons (je_var (pv 3)) ja_nil))))) (nomark _))
      (jss_cons (js_ret je_bl)
      jss_nil) jss_nil)
      (jss_cons (js_ret (je_and (je_cmp .eq hu (je_call 9 (L.ok 9 _ rfl) hr hG (by rfl) FX.g_times FX.k_times (ja_cons je_int (ja_cons (je_var (pv 1)) ja_nil))) (je_bin .mul (je_tup (ja_cons je_int ja_nil)) (je_var (pv 4))) (nomark _)) (je_one (je_cmp .eq hu (je_call 7 (L.ok 7 _ rfl) hr hG (by rfl) FX.g_plus FX.k_plus (ja_cons (je_var (pv 1)) (ja_cons (je_var (pv 1)) (ja_cons (je_var (pv 1)) (ja_cons (je_var (pv 1)) ja_nil))))) (je_call 9 (L.ok 9 _ rfl) hr hG (by rfl) FX.g_times FX.k_times (ja_cons je_int (ja_cons (je_var (pv 1)) ja_nil))) (nomark _)))))
      jss_nil)))))))))))
theorem B20 (FX : Fx K mg a0 a1 a2 a3 a4 a5 a6 a7 a8 a9 a10 a11 a12 a13 a14 a15 a16 a17 a18 a19 a20) (L : Lev P w K mg base [a0, a1, a2, a3, a4, a5, a6, a7, a8, a9, a10, a11, a12, a13, a14, a15, a16, a17, a18, a19, a20] prog wf k) : BodyJ P w K mg base k a20 "law" N20 st20 (Ln.execs (Ln.callI prog wf k) wf b_law) := by
  intro cdv A outer s H E hG hr
  have hu : (A.deeper (envOfC "law" (defScope st20) s.heap.objs.size a20 cdv)).units + 65 < cLine := by have := hr.un; omega
  have hu1 : (A.deeper (envOfC "law" (defScope st20) s.heap.objs.size a20 cdv)).units + 64 < cLine := by omega
  obtain ⟨t_MAX_ACTIONS, h_MAX_ACTIONS⟩ := FX.c_MAX_ACTIONS
  exact (jss_cons (js_for PassesOwn.never rfl (ji_rng1 (by rfl) FX.z_range (je_bltB .max (fun _ _ => rfl) (cb_max rfl) (by rfl) FX.z_max bt_max (ja_cons je_int (ja_cons (je_bltB .min (fun _ _ => rfl) (cb_min rfl) (by rfl) FX.z_min bt_min (ja_cons je_int (ja_cons (je_bltB .len (fun _ _ => rfl) cb_len (by rfl) FX.z_len bt_len (ja_cons (je_var (pv 0)) ja_nil)) ja_nil))) ja_nil)))) (jg_nm (pg_name (i := 1) nd20.nd rfl (by first | exact .inl rfl | exact .inr rfl)))
      (jss_cons (js_set (i := 2) nd20.nd rfl (by first | exact .inl rfl | exact .inr rfl) (je_call 11 (L.ok 11 _ rfl) hr hG (by rfl) FX.g__law_stream FX.k__law_stream (ja_cons (je_var (pv 0)) (ja_cons (je_var (pv 1)) ja_nil))))
      (jss_cons (js_set (i := 3) nd20.nd rfl (by first | exact .inl rfl | exact .inr rfl) (je_bin .add je_int (je_call 12 (L.ok 12 _ rfl) hr hG (by rfl) FX.g__law_draw FX.k__law_draw (ja_cons (je_var (pv 2)) (ja_cons je_int ja_nil)))))
      (jss_cons (js_setT (je_lc (own := [("turn", 4)]) rfl nd20.nd (ji_rng1 (by rfl) FX.z_range je_int) (blkOk_by ok12) (by decide) (fun _ _ _ _ _ => (jg_nm (pg_name (i := 4) nd20.nd rfl (by first | exact .inl rfl | exact .inr rfl)))) (fun _ _ _ _ _ => jts_nil) (fun _ _ _ _ _ => (je_call 17 (L.ok 17 _ rfl) hr hG (by rfl) FX.g__law_vector FX.k__law_vector (ja_cons (je_var (pv 2)) (ja_cons (je_var (pv 3)) ja_nil)))) (fun _ => rfl)) (jg_un rfl (jgs_cons (pg_name (i := 5) nd20.nd rfl (by first | exact .inl rfl | exact .inr rfl)) (jgs_cons (pg_name (i := 6) nd20.nd rfl (by first | exact .inl rfl | exact .inr rfl)) (jgs_cons (pg_name (i := 7) nd20.nd rfl (by first | exact .inl rfl | exact .inr rfl)) jgs_nil)))))
      (jss_cons (js_set (i := 8) nd20.nd rfl (by first | exact .inl rfl | exact .inr rfl) (je_bltB .repr (fun _ _ => rfl) (cb_repr hG hu1) (by rfl) FX.z_repr bt_repr (ja_cons (je_lst (ja_cons (je_var (pv 5)) (ja_cons (je_var (pv 6)) (ja_cons (je_var (pv 7)) ja_nil)))) ja_nil)))
      (jss_cons (js_if (jt_w (jw_or (jt_not (jt_truth (je_call 19 (L.ok 19 _ rfl) hr hG (by rfl) FX.g__law_sums_right FX.k__law_sums_right (ja_cons (je_var (pv 2)) (ja_cons (je_var (pv 5)) (ja_cons (je_var (pv 6)) (ja_cons (je_var (pv 7)) ja_nil))))) fun _ => rfl)) (jw_or1 (jt_cmp .ne hu (je_bltB .repr (fun _ _ => rfl) (cb_repr hG hu1) (by rfl) FX.z_repr bt_repr (ja_cons (je_lst (ja_cons (je_var (pv 5)) (ja_cons (je_var (pv 6)) (ja_cons (je_var (pv 7)) ja_nil)))) ja_nil)) (je_var (pv 8)) (nomark _)))))
      (jss_cons (js_ret je_bl)
      jss_nil) jss_nil)
      (jss_cons (js_set (i := 9) nd20.nd rfl (by first | exact .inl rfl | exact .inr rfl) (je_lst (ja_cons (je_var (pv 5)) (ja_cons (je_bltT .list (fun _ _ => rfl) cb_list (by rfl) FX.z_list bt_list (ja_cons (je_var (pv 5)) ja_nil)) (ja_cons (je_bin .add (je_var (pv 5)) (je_bin .mul (je_tup (ja_cons je_int ja_nil)) je_int)) (ja_cons (je_tup ja_nil) (ja_cons (je_tup (ja_cons (je_var (pv 5)) ja_nil)) (ja_cons (je_bin .add (je_var (pv 5)) (je_tup (ja_cons je_bl ja_nil))) (ja_cons (je_tup (ja_cons je_str ja_nil)) (ja_cons je_non (ja_cons je_int (ja_cons (je_tup (ja_cons je_int (ja_cons je_bl ja_nil))) (ja_cons (je_tup (ja_cons je_non ja_nil)) (ja_cons je_dct0 ja_nil))))))))))))))
      (jss_cons (js_for PassesOwn.never rfl (ji_rng1 (by rfl) FX.z_range je_int) (jg_nm (pg_name (i := 4) nd20.nd rfl (by first | exact .inl rfl | exact .inr rfl)))
      (jss_cons (js_set (i := 9) nd20.nd rfl (by first | exact .inl rfl | exact .inr rfl) (je_bin .add (je_var (pv 9)) (je_lst (ja_cons (je_call 15 (L.ok 15 _ rfl) hr hG (by rfl) FX.g__law_bent FX.k__law_bent (ja_cons (je_var (pv 2)) (ja_cons (je_var (pv 5)) (ja_cons je_int ja_nil)))) (ja_cons (je_call 14 (L.ok 14 _ rfl) hr hG (by rfl) FX.g__law_odd FX.k__law_odd (ja_cons (je_var (pv 2)) ja_nil)) ja_nil)))))
      jss_nil))
      (jss_cons (js_if (jt_cmp .ne hu (je_lc (own := [("value", 11)]) rfl nd20.nd (ji_seq (je_var (pv 9))) (blkOk_by ok11) (by decide) (fun _ _ _ _ _ => (jg_nm (pg_name (i := 11) nd20.nd rfl (by first | exact .inl rfl | exact .inr rfl)))) (fun _ _ _ _ _ => (jts_one (jt_cmp .ne hu (je_bltB .repr (fun _ _ => rfl) (cb_repr hG hu1) (by rfl) FX.z_repr bt_repr (ja_cons (je_call 6 (L.ok 6 _ rfl) hr hG (by rfl) FX.g_is_vector FX.k_is_vector (ja_cons (je_var (pv 11)) ja_nil)) ja_nil)) (je_bltB .repr (fun _ _ => rfl) (cb_repr hG hu1) (by rfl) FX.z_repr bt_repr (ja_cons (je_call 18 (L.ok 18 _ rfl) hr hG (by rfl) FX.g__law_is_vector FX.k__law_is_vector (ja_cons (je_var (pv 11)) ja_nil)) ja_nil)) (nomark _)))) (fun _ _ _ _ _ => (je_var (pv 11))) (fun _ => rfl)) (je_lst ja_nil) (nomark _))
      (jss_cons (js_ret je_bl)
      jss_nil) jss_nil)
      jss_nil)))))))))
      (jss_cons (js_set (i := 10) nd20.nd rfl (by first | exact .inl rfl | exact .inr rfl) (je_lst (ja_cons (je_call 7 (L.ok 7 _ rfl) hr hG (by rfl) FX.g_plus FX.k_plus (ja_cons (je_tup (ja_cons je_int (ja_cons je_int (ja_cons je_int ja_nil)))) (ja_cons (je_tup (ja_cons je_int (ja_cons (je_neg je_int) (ja_cons je_int ja_nil)))) ja_nil))) (ja_cons (je_call 10 (L.ok 10 _ rfl) hr hG (by rfl) FX.g_dot FX.k_dot (ja_cons (je_tup (ja_cons je_int (ja_cons je_int (ja_cons je_int ja_nil)))) (ja_cons (je_tup (ja_cons je_int (ja_cons je_int (ja_cons (je_neg je_int) ja_nil)))) ja_nil))) (ja_cons (je_call 9 (L.ok 9 _ rfl) hr hG (by rfl) FX.g_times FX.k_times (ja_cons je_int (ja_cons (je_tup (ja_cons je_int (ja_cons (je_neg je_int) ja_nil))) ja_nil))) (ja_cons (je_call 8 (L.ok 8 _ rfl) hr hG (by rfl) FX.g_minus FX.k_minus (ja_cons (je_tup (ja_cons je_int ja_nil)) (ja_cons (je_tup (ja_cons je_int ja_nil)) ja_nil))) ja_nil))))))
      (jss_cons (js_ret (je_and (je_cmp .eq hu (je_var (pv 10)) (je_lst (ja_cons (je_tup (ja_cons je_int (ja_cons (je_neg je_int) (ja_cons je_int ja_nil)))) (ja_cons (je_neg je_int) (ja_cons (je_tup (ja_cons je_int (ja_cons (je_neg je_int) ja_nil))) (ja_cons (je_tup (ja_cons (je_neg je_int) ja_nil)) ja_nil))))) (nomark _)) (je_and (je_cmp .is hu (je_call 6 (L.ok 6 _ rfl) hr hG (by rfl) FX.g_is_vector FX.k_is_vector (ja_cons (je_bin .mul (je_tup (ja_cons je_int ja_nil)) je_int) ja_nil)) je_bl (nomark _)) (je_one (je_cmp .is hu (je_call 6 (L.ok 6 _ rfl) hr hG (by rfl) FX.g_is_vector FX.k_is_vector (ja_cons (je_bin .mul (je_tup (ja_cons je_int ja_nil)) je_int) ja_nil)) je_bl (nomark _))))))
      jss_nil)))
theorem lev (FX : Fx K mg a0 a1 a2 a3 a4 a5 a6 a7 a8 a9 a10 a11 a12 a13 a14 a15 a16 a17 a18 a19 a20) : ∀ k, Lev P w K mg base [a0, a1, a2, a3, a4, a5, a6, a7, a8, a9, a10, a11, a12, a13, a14, a15, a16, a17, a18, a19, a20] prog wf k
  | 0 => ⟨fun i f h A outer s H us vs Q E hr hG e0 r ⟨α, S, ds, rs, rds, p⟩ => p.elim⟩
  | k + 1 => by
    have L := lev FX k
    refine ⟨fun i f h => ?_⟩
    match i, h with
    | 0, rfl => obtain ⟨fd, F⟩ := FX.f_is_integer; exact fnG_plain F nd0 rfl rfl rfl rfl (fun _ _ _ _ _ _ us hl => match us, hl with | [_], _ => rfl) (B0 FX L)
    | 1, rfl => obtain ⟨fd, F⟩ := FX.f_is_vector_of; exact fnG_plain F nd1 rfl rfl rfl rfl (fun _ _ _ _ _ _ us hl => match us, hl with | [_, _], _ => rfl) (B1 FX L)
    | 2, rfl => obtain ⟨fd, F⟩ := FX.f_dot_in; exact fnG_plain F nd2 rfl rfl rfl rfl (fun _ _ _ _ _ _ us hl => match us, hl with | [_, _], _ => rfl) (B2 FX L)
    | 3, rfl => obtain ⟨fd, F⟩ := FX.f_plus_in; exact fnG_plain F nd3 rfl rfl rfl rfl (fun _ _ _ _ _ _ us hl => match us, hl with | [_, _], _ => rfl) (B3 FX L)
    | 4, rfl => obtain ⟨fd, F⟩ := FX.f_scaled_in; exact fnG_plain F nd4 rfl rfl rfl rfl (fun _ _ _ _ _ _ us hl => match us, hl with | [_, _], _ => rfl) (B4 FX L)
    | 5, rfl => obtain ⟨fd, F⟩ := FX.f_require_vectors; exact fnG_star (ps := ["first"]) (pv := "others") F nd5 rfl rfl rfl rfl (fun _ _ _ _ _ _ us rest hl => StX.bind_star1 (B := fun us => bindArgs (PySem.W.fnOf "require_vectors" "require_vectors" (defArgs st5) (defBody st5) (defScope st5) .none _ _ _ _ _ _) ⟨us, []⟩) (fun _ => rfl) (fun _ _ _ => rfl) us rest hl) (B5 FX L)
    | 6, rfl => obtain ⟨fd, F⟩ := FX.f_is_vector; exact fnG_plain F nd6 rfl rfl rfl rfl (fun _ _ _ _ _ _ us hl => match us, hl with | [_], _ => rfl) (B6 FX L)
    | 7, rfl => obtain ⟨fd, F⟩ := FX.f_plus; exact fnG_star (ps := ["first"]) (pv := "others") F nd7 rfl rfl rfl rfl (fun _ _ _ _ _ _ us rest hl => StX.bind_star1 (B := fun us => bindArgs (PySem.W.fnOf "plus" "plus" (defArgs st7) (defBody st7) (defScope st7) .none _ _ _ _ _ _) ⟨us, []⟩) (fun _ => rfl) (fun _ _ _ => rfl) us rest hl) (B7 FX L)
    | 8, rfl => obtain ⟨fd, F⟩ := FX.f_minus; exact fnG_plain F nd8 rfl rfl rfl rfl (fun _ _ _ _ _ _ us hl => match us, hl with | [_, _], _ => rfl) (B8 FX L)
    | 9, rfl => obtain ⟨fd, F⟩ := FX.f_times; exact fnG_plain F nd9 rfl rfl rfl rfl (fun _ _ _ _ _ _ us hl => match us, hl with | [_, _], _ => rfl) (B9 FX L)
    | 10, rfl => obtain ⟨fd, F⟩ := FX.f_dot; exact fnG_plain F nd10 rfl rfl rfl rfl (fun _ _ _ _ _ _ us hl => match us, hl with | [_, _], _ => rfl) (B10 FX L)
    | 11, rfl => obtain ⟨fd, F⟩ := FX.f__law_stream; exact fnG_plain F nd11 rfl rfl rfl rfl (fun _ _ _ _ _ _ us hl => match us, hl with | [_, _], _ => rfl) (B11 FX L)
    | 12, rfl => obtain ⟨fd, F⟩ := FX.f__law_draw; exact fnG_plain F nd12 rfl rfl rfl rfl (fun _ _ _ _ _ _ us hl => match us, hl with | [_, _], _ => rfl) (B12 FX L)
    | 13, rfl => obtain ⟨fd, F⟩ := FX.f__law_pick; exact fnG_plain F nd13 rfl rfl rfl rfl (fun _ _ _ _ _ _ us hl => match us, hl with | [_, _], _ => rfl) (B13 FX L)
    | 14, rfl => obtain ⟨fd, F⟩ := FX.f__law_odd; exact fnG_plain F nd14 rfl rfl rfl rfl (fun _ _ _ _ _ _ us hl => match us, hl with | [_], _ => rfl) (B14 FX L)
    | 15, rfl => obtain ⟨fd, F⟩ := FX.f__law_bent; exact fnG_plain F nd15 rfl rfl rfl rfl (fun _ _ _ _ _ _ us hl => match us, hl with | [_, _, _], _ => rfl) (B15 FX L)
    | 16, rfl => obtain ⟨fd, F⟩ := FX.f__law_number; exact fnG_plain F nd16 rfl rfl rfl rfl (fun _ _ _ _ _ _ us hl => match us, hl with | [_], _ => rfl) (B16 FX L)
    | 17, rfl => obtain ⟨fd, F⟩ := FX.f__law_vector; exact fnG_plain F nd17 rfl rfl rfl rfl (fun _ _ _ _ _ _ us hl => match us, hl with | [_, _], _ => rfl) (B17 FX L)
    | 18, rfl => obtain ⟨fd, F⟩ := FX.f__law_is_vector; exact fnG_plain F nd18 rfl rfl rfl rfl (fun _ _ _ _ _ _ us hl => match us, hl with | [_], _ => rfl) (B18 FX L)
    | 19, rfl => obtain ⟨fd, F⟩ := FX.f__law_sums_right; exact fnG_plain F nd19 rfl rfl rfl rfl (fun _ _ _ _ _ _ us hl => match us, hl with | [_, _, _, _], _ => rfl) (B19 FX L)
    | 20, rfl => obtain ⟨fd, F⟩ := FX.f_law; exact fnG_plain F nd20 rfl rfl rfl rfl (fun _ _ _ _ _ _ us hl => match us, hl with | [_], _ => rfl) (B20 FX L)
    | _ + 21, h => exact nomatch h
end

theorem fx_mk {K : Frag} {h : Heap} {mg : Str → Option Value} (X : K.In h) (G : h.Ns mainGlobals mg) {a0 a1 a2 a3 a4 a5 a6 a7 a8 a9 a10 a11 a12 a13 a14 a15 a16 a17 a18 a19 a20 : Addr}
    {od0 an0 od1 an1 od2 an2 od3 an3 od4 an4 od5 an5 od6 an6 od7 an7 od8 an8 od9 an9 od10 an10 od11 an11 od12 an12 od13 an13 od14 an14 od15 an15 od16 an16 od17 an17 od18 an18 od19 an19 od20 an20 : Option Addr} {sl0 sl1 sl2 sl3 sl4 sl5 sl6 sl7 sl8 sl9 sl10 sl11 sl12 sl13 sl14 sl15 sl16 sl17 sl18 sl19 sl20 : Array (Option Value)} {oc0 kV0 dc0 pm0 cd0 ct0 oc1 kV1 dc1 pm1 cd1 ct1 oc2 kV2 dc2 pm2 cd2 ct2 oc3 kV3 dc3 pm3 cd3 ct3 oc4 kV4 dc4 pm4 cd4 ct4 oc5 kV5 dc5 pm5 cd5 ct5 oc6 kV6 dc6 pm6 cd6 ct6 oc7 kV7 dc7 pm7 cd7 ct7 oc8 kV8 dc8 pm8 cd8 ct8 oc9 kV9 dc9 pm9 cd9 ct9 oc10 kV10 dc10 pm10 cd10 ct10 oc11 kV11 dc11 pm11 cd11 ct11 oc12 kV12 dc12 pm12 cd12 ct12 oc13 kV13 dc13 pm13 cd13 ct13 oc14 kV14 dc14 pm14 cd14 ct14 oc15 kV15 dc15 pm15 cd15 ct15 oc16 kV16 dc16 pm16 cd16 ct16 oc17 kV17 dc17 pm17 cd17 ct17 oc18 kV18 dc18 pm18 cd18 ct18 oc19 kV19 dc19 pm19 cd19 ct19 oc20 kV20 dc20 pm20 cd20 ct20 : Value} {t0 : Tok}
    (g0 : PySem.W.nsIn K mainGlobals "is_integer" = some (some (.ref a0))) (l0 : K.lookup a0 = some ⟨oc0, od0, .func (PySem.W.fnOf "is_integer" "is_integer" (defArgs st0) (defBody st0) (defScope st0) .none kV0 dc0 pm0 an0 cd0 ct0), sl0⟩) (c0 : PySem.W.codeIn K cd0 "is_integer" = true) (k0 : PySem.W.keepIn K (.ref a0) = true)
    (g1 : PySem.W.nsIn K mainGlobals "is_vector_of" = some (some (.ref a1))) (l1 : K.lookup a1 = some ⟨oc1, od1, .func (PySem.W.fnOf "is_vector_of" "is_vector_of" (defArgs st1) (defBody st1) (defScope st1) .none kV1 dc1 pm1 an1 cd1 ct1), sl1⟩) (c1 : PySem.W.codeIn K cd1 "is_vector_of" = true) (k1 : PySem.W.keepIn K (.ref a1) = true)
    (g2 : PySem.W.nsIn K mainGlobals "dot_in" = some (some (.ref a2))) (l2 : K.lookup a2 = some ⟨oc2, od2, .func (PySem.W.fnOf "dot_in" "dot_in" (defArgs st2) (defBody st2) (defScope st2) .none kV2 dc2 pm2 an2 cd2 ct2), sl2⟩) (c2 : PySem.W.codeIn K cd2 "dot_in" = true) (k2 : PySem.W.keepIn K (.ref a2) = true)
    (g3 : PySem.W.nsIn K mainGlobals "plus_in" = some (some (.ref a3))) (l3 : K.lookup a3 = some ⟨oc3, od3, .func (PySem.W.fnOf "plus_in" "plus_in" (defArgs st3) (defBody st3) (defScope st3) .none kV3 dc3 pm3 an3 cd3 ct3), sl3⟩) (c3 : PySem.W.codeIn K cd3 "plus_in" = true) (k3 : PySem.W.keepIn K (.ref a3) = true)
    (g4 : PySem.W.nsIn K mainGlobals "scaled_in" = some (some (.ref a4))) (l4 : K.lookup a4 = some ⟨oc4, od4, .func (PySem.W.fnOf "scaled_in" "scaled_in" (defArgs st4) (defBody st4) (defScope st4) .none kV4 dc4 pm4 an4 cd4 ct4), sl4⟩) (c4 : PySem.W.codeIn K cd4 "scaled_in" = true) (k4 : PySem.W.keepIn K (.ref a4) = true)
    (g5 : PySem.W.nsIn K mainGlobals "require_vectors" = some (some (.ref a5))) (l5 : K.lookup a5 = some ⟨oc5, od5, .func (PySem.W.fnOf "require_vectors" "require_vectors" (defArgs st5) (defBody st5) (defScope st5) .none kV5 dc5 pm5 an5 cd5 ct5), sl5⟩) (c5 : PySem.W.codeIn K cd5 "require_vectors" = true) (k5 : PySem.W.keepIn K (.ref a5) = true)
    (g6 : PySem.W.nsIn K mainGlobals "is_vector" = some (some (.ref a6))) (l6 : K.lookup a6 = some ⟨oc6, od6, .func (PySem.W.fnOf "is_vector" "is_vector" (defArgs st6) (defBody st6) (defScope st6) .none kV6 dc6 pm6 an6 cd6 ct6), sl6⟩) (c6 : PySem.W.codeIn K cd6 "is_vector" = true) (k6 : PySem.W.keepIn K (.ref a6) = true)
    (g7 : PySem.W.nsIn K mainGlobals "plus" = some (some (.ref a7))) (l7 : K.lookup a7 = some ⟨oc7, od7, .func (PySem.W.fnOf "plus" "plus" (defArgs st7) (defBody st7) (defScope st7) .none kV7 dc7 pm7 an7 cd7 ct7), sl7⟩) (c7 : PySem.W.codeIn K cd7 "plus" = true) (k7 : PySem.W.keepIn K (.ref a7) = true)
    (g8 : PySem.W.nsIn K mainGlobals "minus" = some (some (.ref a8))) (l8 : K.lookup a8 = some ⟨oc8, od8, .func (PySem.W.fnOf "minus" "minus" (defArgs st8) (defBody st8) (defScope st8) .none kV8 dc8 pm8 an8 cd8 ct8), sl8⟩) (c8 : PySem.W.codeIn K cd8 "minus" = true) (k8 : PySem.W.keepIn K (.ref a8) = true)
    (g9 : PySem.W.nsIn K mainGlobals "times" = some (some (.ref a9))) (l9 : K.lookup a9 = some ⟨oc9, od9, .func (PySem.W.fnOf "times" "times" (defArgs st9) (defBody st9) (defScope st9) .none kV9 dc9 pm9 an9 cd9 ct9), sl9⟩) (c9 : PySem.W.codeIn K cd9 "times" = true) (k9 : PySem.W.keepIn K (.ref a9) = true)
    (g10 : PySem.W.nsIn K mainGlobals "dot" = some (some (.ref a10))) (l10 : K.lookup a10 = some ⟨oc10, od10, .func (PySem.W.fnOf "dot" "dot" (defArgs st10) (defBody st10) (defScope st10) .none kV10 dc10 pm10 an10 cd10 ct10), sl10⟩) (c10 : PySem.W.codeIn K cd10 "dot" = true) (k10 : PySem.W.keepIn K (.ref a10) = true)
    (g11 : PySem.W.nsIn K mainGlobals "_law_stream" = some (some (.ref a11))) (l11 : K.lookup a11 = some ⟨oc11, od11, .func (PySem.W.fnOf "_law_stream" "_law_stream" (defArgs st11) (defBody st11) (defScope st11) .none kV11 dc11 pm11 an11 cd11 ct11), sl11⟩) (c11 : PySem.W.codeIn K cd11 "_law_stream" = true) (k11 : PySem.W.keepIn K (.ref a11) = true)
    (g12 : PySem.W.nsIn K mainGlobals "_law_draw" = some (some (.ref a12))) (l12 : K.lookup a12 = some ⟨oc12, od12, .func (PySem.W.fnOf "_law_draw" "_law_draw" (defArgs st12) (defBody st12) (defScope st12) .none kV12 dc12 pm12 an12 cd12 ct12), sl12⟩) (c12 : PySem.W.codeIn K cd12 "_law_draw" = true) (k12 : PySem.W.keepIn K (.ref a12) = true)
    (g13 : PySem.W.nsIn K mainGlobals "_law_pick" = some (some (.ref a13))) (l13 : K.lookup a13 = some ⟨oc13, od13, .func (PySem.W.fnOf "_law_pick" "_law_pick" (defArgs st13) (defBody st13) (defScope st13) .none kV13 dc13 pm13 an13 cd13 ct13), sl13⟩) (c13 : PySem.W.codeIn K cd13 "_law_pick" = true) (k13 : PySem.W.keepIn K (.ref a13) = true)
    (g14 : PySem.W.nsIn K mainGlobals "_law_odd" = some (some (.ref a14))) (l14 : K.lookup a14 = some ⟨oc14, od14, .func (PySem.W.fnOf "_law_odd" "_law_odd" (defArgs st14) (defBody st14) (defScope st14) .none kV14 dc14 pm14 an14 cd14 ct14), sl14⟩) (c14 : PySem.W.codeIn K cd14 "_law_odd" = true) (k14 : PySem.W.keepIn K (.ref a14) = true)
    (g15 : PySem.W.nsIn K mainGlobals "_law_bent" = some (some (.ref a15))) (l15 : K.lookup a15 = some ⟨oc15, od15, .func (PySem.W.fnOf "_law_bent" "_law_bent" (defArgs st15) (defBody st15) (defScope st15) .none kV15 dc15 pm15 an15 cd15 ct15), sl15⟩) (c15 : PySem.W.codeIn K cd15 "_law_bent" = true) (k15 : PySem.W.keepIn K (.ref a15) = true)
    (g16 : PySem.W.nsIn K mainGlobals "_law_number" = some (some (.ref a16))) (l16 : K.lookup a16 = some ⟨oc16, od16, .func (PySem.W.fnOf "_law_number" "_law_number" (defArgs st16) (defBody st16) (defScope st16) .none kV16 dc16 pm16 an16 cd16 ct16), sl16⟩) (c16 : PySem.W.codeIn K cd16 "_law_number" = true) (k16 : PySem.W.keepIn K (.ref a16) = true)
    (g17 : PySem.W.nsIn K mainGlobals "_law_vector" = some (some (.ref a17))) (l17 : K.lookup a17 = some ⟨oc17, od17, .func (PySem.W.fnOf "_law_vector" "_law_vector" (defArgs st17) (defBody st17) (defScope st17) .none kV17 dc17 pm17 an17 cd17 ct17), sl17⟩) (c17 : PySem.W.codeIn K cd17 "_law_vector" = true) (k17 : PySem.W.keepIn K (.ref a17) = true)
    (g18 : PySem.W.nsIn K mainGlobals "_law_is_vector" = some (some (.ref a18))) (l18 : K.lookup a18 = some ⟨oc18, od18, .func (PySem.W.fnOf "_law_is_vector" "_law_is_vector" (defArgs st18) (defBody st18) (defScope st18) .none kV18 dc18 pm18 an18 cd18 ct18), sl18⟩) (c18 : PySem.W.codeIn K cd18 "_law_is_vector" = true) (k18 : PySem.W.keepIn K (.ref a18) = true)
    (g19 : PySem.W.nsIn K mainGlobals "_law_sums_right" = some (some (.ref a19))) (l19 : K.lookup a19 = some ⟨oc19, od19, .func (PySem.W.fnOf "_law_sums_right" "_law_sums_right" (defArgs st19) (defBody st19) (defScope st19) .none kV19 dc19 pm19 an19 cd19 ct19), sl19⟩) (c19 : PySem.W.codeIn K cd19 "_law_sums_right" = true) (k19 : PySem.W.keepIn K (.ref a19) = true)
    (g20 : PySem.W.nsIn K mainGlobals "law" = some (some (.ref a20))) (l20 : K.lookup a20 = some ⟨oc20, od20, .func (PySem.W.fnOf "law" "law" (defArgs st20) (defBody st20) (defScope st20) .none kV20 dc20 pm20 an20 cd20 ct20), sl20⟩) (c20 : PySem.W.codeIn K cd20 "law" = true) (k20 : PySem.W.keepIn K (.ref a20) = true)
    (z0 : PySem.W.nsIn K mainGlobals "abs" = some none)
    (z1 : PySem.W.nsIn K mainGlobals "all" = some none)
    (z2 : PySem.W.nsIn K mainGlobals "bool" = some none)
    (z3 : PySem.W.nsIn K mainGlobals "int" = some none)
    (z4 : PySem.W.nsIn K mainGlobals "isinstance" = some none)
    (z5 : PySem.W.nsIn K mainGlobals "len" = some none)
    (z6 : PySem.W.nsIn K mainGlobals "list" = some none)
    (z7 : PySem.W.nsIn K mainGlobals "max" = some none)
    (z8 : PySem.W.nsIn K mainGlobals "min" = some none)
    (z9 : PySem.W.nsIn K mainGlobals "range" = some none)
    (z10 : PySem.W.nsIn K mainGlobals "repr" = some none)
    (z11 : PySem.W.nsIn K mainGlobals "str" = some none)
    (z12 : PySem.W.nsIn K mainGlobals "sum" = some none)
    (z13 : PySem.W.nsIn K mainGlobals "tuple" = some none)
    (z14 : PySem.W.nsIn K mainGlobals "zip" = some none)
    (v0 : PySem.W.nsIn K mainGlobals "MAX_ACTIONS" = some (some (.int 5 t0)))
    {P : Program} {w : World} {fa : Addr} (hfa : mg "law" = some (.ref fa)) : ∀ base : Heap, K.In base → base.Ns mainGlobals mg → FnG P w K mg base CX0 30 fa (spI K (Ln.callI prog 1000000 30 20)) := fun base _ _ =>
  fn_at (lev (⟨PySem.W.mg_of X G g0, k0, ⟨_, fun_mk l0 c0 k0⟩, PySem.W.mg_of X G g1, k1, ⟨_, fun_mk l1 c1 k1⟩, PySem.W.mg_of X G g2, k2, ⟨_, fun_mk l2 c2 k2⟩, PySem.W.mg_of X G g3, k3, ⟨_, fun_mk l3 c3 k3⟩, PySem.W.mg_of X G g4, k4, ⟨_, fun_mk l4 c4 k4⟩, PySem.W.mg_of X G g5, k5, ⟨_, fun_mk l5 c5 k5⟩, PySem.W.mg_of X G g6, k6, ⟨_, fun_mk l6 c6 k6⟩, PySem.W.mg_of X G g7, k7, ⟨_, fun_mk l7 c7 k7⟩, PySem.W.mg_of X G g8, k8, ⟨_, fun_mk l8 c8 k8⟩, PySem.W.mg_of X G g9, k9, ⟨_, fun_mk l9 c9 k9⟩, PySem.W.mg_of X G g10, k10, ⟨_, fun_mk l10 c10 k10⟩, PySem.W.mg_of X G g11, k11, ⟨_, fun_mk l11 c11 k11⟩, PySem.W.mg_of X G g12, k12, ⟨_, fun_mk l12 c12 k12⟩, PySem.W.mg_of X G g13, k13, ⟨_, fun_mk l13 c13 k13⟩, PySem.W.mg_of X G g14, k14, ⟨_, fun_mk l14 c14 k14⟩, PySem.W.mg_of X G g15, k15, ⟨_, fun_mk l15 c15 k15⟩, PySem.W.mg_of X G g16, k16, ⟨_, fun_mk l16 c16 k16⟩, PySem.W.mg_of X G g17, k17, ⟨_, fun_mk l17 c17 k17⟩, PySem.W.mg_of X G g18, k18, ⟨_, fun_mk l18 c18 k18⟩, PySem.W.mg_of X G g19, k19, ⟨_, fun_mk l19 c19 k19⟩, PySem.W.mg_of X G g20, k20, ⟨_, fun_mk l20 c20 k20⟩, PySem.W.mg_none_of X G z0, PySem.W.mg_none_of X G z1, PySem.W.mg_none_of X G z2, PySem.W.mg_none_of X G z3, PySem.W.mg_none_of X G z4, PySem.W.mg_none_of X G z5, PySem.W.mg_none_of X G z6, PySem.W.mg_none_of X G z7, PySem.W.mg_none_of X G z8, PySem.W.mg_none_of X G z9, PySem.W.mg_none_of X G z10, PySem.W.mg_none_of X G z11, PySem.W.mg_none_of X G z12, PySem.W.mg_none_of X G z13, PySem.W.mg_none_of X G z14, ⟨_, PySem.W.mg_of X G v0⟩⟩ : Fx K mg a0 a1 a2 a3 a4 a5 a6 a7 a8 a9 a10 a11 a12 a13 a14 a15 a16 a17 a18 a19 a20) 30) (i := 20) rfl hfa (PySem.W.mg_of X G g20)
end K02
open PySem PySem.W PyProof.Rows
set_option maxHeartbeats 0 in
theorem PySem.Challenge.cw_leastnet_k02_vectors_holds : PySem.Challenge.rw_leastnet_k02_vectors.Holds := by
  w_on; o_law; k_head; (case hw => w_witness2)
  k_fill
  refine LnS.walk_ofG (l := PySem.Challenge.rw_leastnet_k02_vectors) (n := 63) (k := 30) (g := Ln.callI K02.prog 1000000 30 20) rfl (by decide) rfl ⟨rfl, by decide, by decide⟩ (by decide +kernel) (fun w h Y => PySem.W.kIn_of Y) ?K1 ?F (fun ns _ _ => K02.pure_law (k := 22) ns)
  case K1 => exact fun w => rfl
  case F =>
    intro w mg fa h KX G hmg
    refine' K02.fx_mk KX G ?fx_g0 ?fx_l0 ?fx_c0 ?fx_k0 ?fx_g1 ?fx_l1 ?fx_c1 ?fx_k1 ?fx_g2 ?fx_l2 ?fx_c2 ?fx_k2 ?fx_g3 ?fx_l3 ?fx_c3 ?fx_k3 ?fx_g4 ?fx_l4 ?fx_c4 ?fx_k4 ?fx_g5 ?fx_l5 ?fx_c5 ?fx_k5 ?fx_g6 ?fx_l6 ?fx_c6 ?fx_k6 ?fx_g7 ?fx_l7 ?fx_c7 ?fx_k7 ?fx_g8 ?fx_l8 ?fx_c8 ?fx_k8 ?fx_g9 ?fx_l9 ?fx_c9 ?fx_k9 ?fx_g10 ?fx_l10 ?fx_c10 ?fx_k10 ?fx_g11 ?fx_l11 ?fx_c11 ?fx_k11 ?fx_g12 ?fx_l12 ?fx_c12 ?fx_k12 ?fx_g13 ?fx_l13 ?fx_c13 ?fx_k13 ?fx_g14 ?fx_l14 ?fx_c14 ?fx_k14 ?fx_g15 ?fx_l15 ?fx_c15 ?fx_k15 ?fx_g16 ?fx_l16 ?fx_c16 ?fx_k16 ?fx_g17 ?fx_l17 ?fx_c17 ?fx_k17 ?fx_g18 ?fx_l18 ?fx_c18 ?fx_k18 ?fx_g19 ?fx_l19 ?fx_c19 ?fx_k19 ?fx_g20 ?fx_l20 ?fx_c20 ?fx_k20 ?fx_z0 ?fx_z1 ?fx_z2 ?fx_z3 ?fx_z4 ?fx_z5 ?fx_z6 ?fx_z7 ?fx_z8 ?fx_z9 ?fx_z10 ?fx_z11 ?fx_z12 ?fx_z13 ?fx_z14 ?fx_v0 hmg
    (case fx_g0 => k_is)
    (case fx_l0 => k_is)
    (case fx_c0 => k_is)
    (case fx_k0 => k_is)
    (case fx_g1 => k_is)
    (case fx_l1 => k_is)
    (case fx_c1 => k_is)
    (case fx_k1 => k_is)
    (case fx_g2 => k_is)
    (case fx_l2 => k_is)
    (case fx_c2 => k_is)
    (case fx_k2 => k_is)
    (case fx_g3 => k_is)
    (case fx_l3 => k_is)
    (case fx_c3 => k_is)
    (case fx_k3 => k_is)
    (case fx_g4 => k_is)
    (case fx_l4 => k_is)
    (case fx_c4 => k_is)
    (case fx_k4 => k_is)
    (case fx_g5 => k_is)
    (case fx_l5 => k_is)
    (case fx_c5 => k_is)
    (case fx_k5 => k_is)
    (case fx_g6 => k_is)
    (case fx_l6 => k_is)
    (case fx_c6 => k_is)
    (case fx_k6 => k_is)
    (case fx_g7 => k_is)
    (case fx_l7 => k_is)
    (case fx_c7 => k_is)
    (case fx_k7 => k_is)
    (case fx_g8 => k_is)
    (case fx_l8 => k_is)
    (case fx_c8 => k_is)
    (case fx_k8 => k_is)
    (case fx_g9 => k_is)
    (case fx_l9 => k_is)
    (case fx_c9 => k_is)
    (case fx_k9 => k_is)
    (case fx_g10 => k_is)
    (case fx_l10 => k_is)
    (case fx_c10 => k_is)
    (case fx_k10 => k_is)
    (case fx_g11 => k_is)
    (case fx_l11 => k_is)
    (case fx_c11 => k_is)
    (case fx_k11 => k_is)
    (case fx_g12 => k_is)
    (case fx_l12 => k_is)
    (case fx_c12 => k_is)
    (case fx_k12 => k_is)
    (case fx_g13 => k_is)
    (case fx_l13 => k_is)
    (case fx_c13 => k_is)
    (case fx_k13 => k_is)
    (case fx_g14 => k_is)
    (case fx_l14 => k_is)
    (case fx_c14 => k_is)
    (case fx_k14 => k_is)
    (case fx_g15 => k_is)
    (case fx_l15 => k_is)
    (case fx_c15 => k_is)
    (case fx_k15 => k_is)
    (case fx_g16 => k_is)
    (case fx_l16 => k_is)
    (case fx_c16 => k_is)
    (case fx_k16 => k_is)
    (case fx_g17 => k_is)
    (case fx_l17 => k_is)
    (case fx_c17 => k_is)
    (case fx_k17 => k_is)
    (case fx_g18 => k_is)
    (case fx_l18 => k_is)
    (case fx_c18 => k_is)
    (case fx_k18 => k_is)
    (case fx_g19 => k_is)
    (case fx_l19 => k_is)
    (case fx_c19 => k_is)
    (case fx_k19 => k_is)
    (case fx_g20 => k_is)
    (case fx_l20 => k_is)
    (case fx_c20 => k_is)
    (case fx_k20 => k_is)
    (case fx_z0 => k_is)
    (case fx_z1 => k_is)
    (case fx_z2 => k_is)
    (case fx_z3 => k_is)
    (case fx_z4 => k_is)
    (case fx_z5 => k_is)
    (case fx_z6 => k_is)
    (case fx_z7 => k_is)
    (case fx_z8 => k_is)
    (case fx_z9 => k_is)
    (case fx_z10 => k_is)
    (case fx_z11 => k_is)
    (case fx_z12 => k_is)
    (case fx_z13 => k_is)
    (case fx_z14 => k_is)
    (case fx_v0 => k_is)
