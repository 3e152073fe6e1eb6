import PyProof.Rows.All
import Wide.All
import OpenK.AllK
import Wide.FinOn
import HandS.ForMost
import HandS.Exc
import HandS.TryOnly
import HandS.WordsExc
import HandS.Defaults
import HandS.MakeKw
import HandS.MakeKwOnly
import HandS.Property
import HandS.IsInst
import HandS.Deep
import HandS.Conv
import HandS.TupAny
import HandS.Zip
import HandS.SortKw
import HandS.Style
import KE.GoesEnum
import KE.KStateDown
import HandS.Head0
import HandS.Head1
import HandS.Head2
import HandS.HeadEnd
import HandS.HeadHook1
import HandS.HeadHook2
import HandS.ExcInit
import HandS.ExcField
import HandS.ExcSuper
import HandS.TryMany
import KE.KExcInit
import KE.DatumOrd
import PySem.Challenge.RW_anyrowline_k06_refusals_of_made_lines
set_option Elab.async false
set_option linter.all false
set_option maxRecDepth 100007
/-! text ClA -/
/-! The clean language: data, store, codes, and what they do. -/
namespace Cl
open PySem

/-- data: trees for what stays, ref for a live cell of the store -/
inductive D where
  | non | bl (b : Bool) | int (i : Int) | str (s : Str)
  | tup (xs : List D) | lst (xs : List D)
  | obj (c : Nat) (fs : List (Str × D))
  | ref (n : Nat)
  | scr (xs : List D)
  deriving Inhabited

/-- what a live cell holds -/
inductive Cell where
  | lst (xs : List D)
  | ins (c : Nat) (fs : List (Str × D))
  | lck (xs : List D)
  | dead
  deriving Inhabited
abbrev Sto := List Cell
abbrev Env := List (Option D)

inductive R (α : Type) where
  | ok (a : α) (h : Sto)
  | exn (c : Nat) (d : D) (h : Sto)
  | bad

def R.bind {α β : Type} (r : R α) (f : α → Sto → R β) : R β := match r with
  | .ok a h => f a h
  | .exn c d h => .exn c d h
  | .bad => .bad
/-- no exception goes out of here -/
def R.shut {α : Type} (r : R α) : R α := match r with
  | .ok a h => .ok a h
  | _ => .bad

inductive BOp where
  | add | sub | mul | fdiv | mod | pow
  deriving DecidableEq
inductive COp where
  | eq | ne | lt | le | gt | ge | isIn | notIn
  deriving DecidableEq
inductive BI where
  | len | all | any | sum | max | min | tuple | list | int
  deriving DecidableEq
inductive BM where
  | append | pop | extend
  deriving DecidableEq
inductive Ty where
  | int | bool | str | list | tuple
  deriving DecidableEq

/-- targets -/
inductive T where
  | nam (i : Nat)
  | tup (ts : List T)

mutual
inductive E where
  | var (i : Nat)
  | lit (d : D)
  | glo (x : String)
  | bin (o : BOp) (a b : E)
  | neg (a : E)
  | cmp (o : COp) (a b : E)
  | chain (o1 o2 : COp) (a b c : E)
  | isN (a : E) | notN (a : E)
  | not (a : E) | and (es : List E) | or (es : List E)
  | ite (t a b : E)
  | tup (es : List E) | lst (es : List E)
  | ix (a i : E) | slc (a : E) (lo hi : Option E)
  | fld (a : E) (f : Str)
  | prop (c f : Nat) (a : E)
  | call (f : Nat) (es : List E) (ds : List D)
  | callK (f : Nat) (es ks : List E)
  | mk (c f : Nat) (es : List E) (ds : List D)
  | mkK (c f : Nat) (es ks : List E)
  | stop
  | bi (b : BI) (es : List E)
  | bm (m : BM) (o : E) (es : List E)
  | isi (a : E) (ts : List Ty)
  | rngT (t : Bool) (es : List E)
  | comp (tg : T) (it : I) (cond : Option E) (elt : E) (vs : List Nat)
  | new (e : E)
  | frz (e : E)
  | srt (b : Bool) (a : E)
  | isB (n : Bool) (a : E) (b : Bool)
inductive I where
  | seq (e : E)
  | rng (es : List E)
  | enm (e : E)
  | zip (a b : E)
end

/-- what an except clause returns: (tag, the field), the field -/
inductive Hn where
  | tag (s : Str) | val
  deriving DecidableEq
inductive S where
  | asg (t : T) (e : E)
  | setIx (a i e : E)
  | setFld (a : E) (f : Str) (e : E)
  | aug (i : Nat) (o : BOp) (e : E)
  | ret (e : E) | retN
  | ifs (c : E) (a b : List S)
  | for_ (t : T) (it : I) (b : List S)
  | whl (c : E) (b : List S)
  | expr (e : E)
  | brk | cnt | pass
  | stop
  | rse (c f : Nat) (e : E)
  | trA (b : List S) (hs : List (Nat × Hn))

/-! ### values -/
def getC (h : Sto) (n : Nat) : Cell := h.getD n .dead
/-- the items of a list, a tuple -/
def seqOf (h : Sto) : D → Option (List D)
  | .tup xs => some xs
  | .lst xs => some xs
  | .ref n => match getC h n with
    | .lst xs => some xs
    | .lck xs => some xs
    | _ => none
  | _ => none
def lstOf (h : Sto) : D → Option (List D)
  | .lst xs => some xs
  | .ref n => match getC h n with
    | .lst xs => some xs
    | .lck xs => some xs
    | _ => none
  | _ => none
def fldsOf (h : Sto) : D → Option (List (Str × D))
  | .obj _ fs => some fs
  | .ref n => match getC h n with
    | .ins _ fs => some fs
    | _ => none
  | _ => none
def clsOf (h : Sto) : D → Option Nat
  | .obj c _ => some c
  | .ref n => match getC h n with
    | .ins c _ => some c
    | _ => none
  | _ => none
mutual
/-- as plain data -/
def toPy : D → Option PyData
  | .non => some .none
  | .bl b => some (.bool b)
  | .int i => some (.int i)
  | .str s => some (.str s)
  | .tup xs => match toPys xs with
    | some ys => some (.tuple ys)
    | none => none
  | .lst xs => match toPys xs with
    | some ys => some (.list ys)
    | none => none
  | _ => none
def toPys : List D → Option (List PyData)
  | [] => some []
  | d :: ds => match toPy d, toPys ds with
    | some p, some ps => some (p :: ps)
    | _, _ => none
end
def topPy (h : Sto) : D → Option PyData
  | .ref n => match getC h n with
    | .lst xs => toPy (.lst xs)
    | .lck xs => toPy (.lst xs)
    | _ => none
  | d => toPy d
/-- of a form that == serves -/
def shp (p : PyData) : Bool := SeqAt.shaped p
def eqD (h : Sto) (x y : D) : Option Bool := match topPy h x, topPy h y with
  | some p, some q => if shp p && shp q then some (PyData.eqv p q) else none
  | _, _ => none
def inD (h : Sto) (x y : D) : Option Bool := match topPy h x, topPy h y with
  | some p, some (.list qs) => if shp p && shp (.list qs) then some (qs.any fun z => PyData.eqv z p) else none
  | some p, some (.tuple qs) => if shp p && shp (.list qs) then some (qs.any fun z => PyData.eqv z p) else none
  | _, _ => none
/-- truth, of a bool or a sequence -/
def truD (h : Sto) : D → Option Bool
  | .bl b => some b
  | d => match seqOf h d with
    | some xs => some (!xs.isEmpty)
    | none => none
def lim (n : Nat) : Bool := decide (n ≤ sizeLine)
def cutD (xs : List D) (lo hi : Option Int) : List D := (xs.drop (HT.sIx xs.length 0 lo)).take (HT.sIx xs.length xs.length hi - HT.sIx xs.length 0 lo)
def bits64 (i : Int) : Bool := decide (-(2 ^ 64) < i) && decide (i < 2 ^ 64)
def small30 (j : Int) : Bool := decide (0 < j) && decide (j < 1073741824)
def opt {α : Type} (o : Option α) (h : Sto) : R α := match o with
  | some a => .ok a h
  | none => .bad
def ifR {α : Type} (b : Bool) (r : R α) : R α := match b with
  | true => r
  | false => .bad

def binD (o : BOp) (x y : D) (h : Sto) : R D := match o, x, y with
  | .add, .int i, .int j => .ok (.int (i + j)) h
  | .add, .str a, .str b => ifR (lim (a.length + b.length)) (.ok (.str (a ++ b)) h)
  | .add, .tup xs, .tup ys => ifR (lim (xs.length + ys.length)) (.ok (.tup (xs ++ ys)) h)
  | .add, x, y => match lstOf h x, lstOf h y with
    | some xs, some ys => ifR (lim (xs.length + ys.length)) (.ok (.lst (xs ++ ys)) h)
    | _, _ => .bad
  | .sub, .int i, .int j => .ok (.int (i - j)) h
  | .mul, .int i, .int j => ifR (bits64 i || bits64 j) (.ok (.int (i * j)) h)
  | .mul, x, .int k => match lstOf h x with
    | some xs => ifR (decide (-(2 ^ 63) ≤ k) && decide (k < 2 ^ 63) && lim (xs.length * k.toNat)) (.ok (.lst (List.replicate k.toNat xs).flatten) h)
    | none => .bad
  | .fdiv, .int i, .int j => ifR (small30 j) (.ok (.int (i / j)) h)
  | .mod, .int i, .int j => ifR (decide (0 < j)) (.ok (.int (i % j)) h)
  | .pow, .int i, .int j => ifR (decide (0 ≤ j) && decide (j ≤ 1000000) && decide (i.natAbs < 2 ^ 64)) (.ok (.int (i ^ j.toNat)) h)
  | _, _, _ => .bad
def ltS (a b : Str) : Bool := decide (a.cps.toList < b.cps.toList)
def cmpD (o : COp) (x y : D) (h : Sto) : R D := match o with
  | .eq => match eqD h x y with
    | some b => .ok (.bl b) h
    | none => .bad
  | .ne => match eqD h x y with
    | some b => .ok (.bl (!b)) h
    | none => .bad
  | .isIn => match inD h x y with
    | some b => .ok (.bl b) h
    | none => .bad
  | .notIn => match inD h x y with
    | some b => .ok (.bl (!b)) h
    | none => .bad
  | .lt => match x, y with
    | .int i, .int j => .ok (.bl (decide (i < j))) h
    | _, _ => .bad
  | .le => match x, y with
    | .int i, .int j => .ok (.bl (decide (i ≤ j))) h
    | _, _ => .bad
  | .gt => match x, y with
    | .int i, .int j => .ok (.bl (decide (j < i))) h
    | _, _ => .bad
  | .ge => match x, y with
    | .int i, .int j => .ok (.bl (decide (j ≤ i))) h
    | _, _ => .bad
def ixD (x y : D) (h : Sto) : R D := match x, y with
  | .str s, .int i => ifR (lim s.length) (match L2.atI s.cps.toList i with
    | some c => .ok (.str ⟨#[c]⟩) h
    | none => .bad)
  | x, .int i => match seqOf h x with
    | some xs => opt (L2.atI xs i) h
    | none => .bad
  | _, _ => .bad
/-- what type(d) is: its name -/
def tyD (h : Sto) : D → Option String
  | .non => some "NoneType"
  | .bl _ => some "bool"
  | .int _ => some "int"
  | .str _ => some "str"
  | .tup _ => some "tuple"
  | .lst _ => some "list"
  | .ref n => match getC h n with
    | .lst _ => some "list"
    | .lck _ => some "list"
    | _ => none
  | _ => none
def isTy (a : String) : Ty → Bool
  | .int => a == "int" || a == "bool"
  | .bool => a == "bool"
  | .str => a == "str"
  | .list => a == "list"
  | .tuple => a == "tuple"
/-- isinstance(d, (t, ..)) -/
def isTys (h : Sto) (d : D) (ts : List Ty) : Option Bool := match tyD h d with
  | some a => some (ts.any (isTy a))
  | none => none
def intsOf : List D → Option (List Int)
  | [] => some []
  | .int i :: ds => match intsOf ds with
    | some is => some (i :: is)
    | none => none
  | _ => none
def insI (b : Bool) (x : Int) : List Int → List Int
  | [] => [x]
  | y :: ys => match (if b then decide (y ≤ x) else decide (x ≤ y)) with
    | true => x :: y :: ys
    | false => y :: insI b x ys
def sortI (b : Bool) : List Int → List Int
  | [] => []
  | x :: xs => insI b x (sortI b xs)
def blsOf : List D → Option (List Bool)
  | [] => some []
  | .bl b :: ds => match blsOf ds with
    | some bs => some (b :: bs)
    | none => none
  | _ => none
/-- the items of a list, of a tuple -/
def seqI (h : Sto) : D → Option (List D)
  | .tup xs => some xs
  | d => lstOf h d
def maxI : Int → List Int → Int
  | m, [] => m
  | m, x :: xs => maxI (if x > m then x else m) xs
def minI : Int → List Int → Int
  | m, [] => m
  | m, x :: xs => minI (if x < m then x else m) xs
def biD (b : BI) (xs : List D) (h : Sto) : R D := match b, xs with
  | .len, [x] => match x with
    | .str s => ifR (lim s.length) (.ok (.int s.length) h)
    | x => match seqOf h x with
      | some ys => .ok (.int ys.length) h
      | none => .bad
  | .all, [x] => match lstOf h x with
    | some ys => match blsOf ys with
      | some bs => .ok (.bl (bs.all id)) h
      | none => .bad
    | none => .bad
  | .any, [x] => match lstOf h x with
    | some ys => match blsOf ys with
      | some bs => .ok (.bl (bs.any id)) h
      | none => .bad
    | none => .bad
  | .sum, [x] => match lstOf h x with
    | some ys => match intsOf ys with
      | some is => .ok (.int is.sum) h
      | none => .bad
    | none => .bad
  | .max, [x] => match seqI h x with
    | some ys => match intsOf ys with
      | some (i :: is) => .ok (.int (maxI i is)) h
      | _ => .bad
    | none => .bad
  | .max, [.int i, .int j] => .ok (.int (if j > i then j else i)) h
  | .min, [x] => match lstOf h x with
    | some ys => match intsOf ys with
      | some (i :: is) => .ok (.int (minI i is)) h
      | _ => .bad
    | none => .bad
  | .min, [.int i, .int j] => .ok (.int (if j < i then j else i)) h
  | .tuple, [x] => match seqOf h x with
    | some ys => .ok (.tup ys) h
    | none => .bad
  | .list, [x] => match seqOf h x with
    | some ys => .ok (.lst ys) h
    | none => .bad
  | .int, [x] => match x with
    | .int i => .ok (.int i) h
    | .bl b => .ok (.int (if b then 1 else 0)) h
    | _ => .bad
  | _, _ => .bad
/-- x is b, x is not b -/
def isV : Bool → Bool → Bool → Bool
  | true, b, c => !(decide (c = b))
  | false, b, c => decide (c = b)
def isBD (n b : Bool) (x : D) (h : Sto) : R D := match x with
  | .bl c => .ok (.bl (isV n b c)) h
  | _ => .bad
/-- sorted(x, reverse=b), of integers -/
def srtD (b : Bool) (x : D) (h : Sto) : R D := match lstOf h x with
  | some xs => match intsOf xs with
    | some is => .ok (.lst ((sortI b is).map .int)) h
    | none => .bad
  | none => .bad
def bmD (m : BM) (o : D) (xs : List D) (h : Sto) : R D := match o with
  | .ref n => match getC h n with
    | .lst ys => match m, xs with
      | .append, [x] => ifR (decide (ys.length < sizeLine)) (.ok .non (h.set n (.lst (ys ++ [x]))))
      | .pop, [] => match ys[ys.length - 1]? with
        | some y => .ok y (h.set n (.lst ys.dropLast))
        | none => .bad
      | .extend, [x] => match lstOf h x with
        | some zs => ifR (lim (ys.length + zs.length)) (.ok .non (h.set n (.lst (ys ++ zs))))
        | none => .bad
      | _, _ => .bad
    | _ => .bad
  | _ => .bad
def rngD (ds : List D) : Option (Int × Nat) := match ds with
  | [.int j] => if decide (-(2 ^ 62) ≤ j) && decide (j < 2 ^ 62) then some (0, j.toNat) else none
  | [.int i, .int j] => if decide (-(2 ^ 62) ≤ i) && decide (i < 2 ^ 62) && decide (-(2 ^ 62) ≤ j) && decide (j < 2 ^ 62) then some (i, (j - i).toNat) else none
  | _ => none
def rngL (lo : Int) (n : Nat) : List D := (List.range n).map fun i => .int (lo + (i : Nat))
/-- a tuple or a list -/
def sqV (t : Bool) (xs : List D) : D := match t with
  | true => .tup xs
  | false => .lst xs
def setFldL (f : Str) (v : D) : List (Str × D) → List (Str × D)
  | [] => [(f, v)]
  | (g, w) :: r => if g = f then (g, v) :: r else (g, w) :: setFldL f v r
/-- what a for walks: items, the cell that is locked meanwhile -/
def itD (h : Sto) (d : D) : Option (List D × Option Nat) := match d with
  | .tup xs => some (xs, none)
  | .lst xs => some (xs, none)
  | .ref n => match getC h n with
    | .lst xs => some (xs, some n)
    | .lck xs => some (xs, none)
    | _ => none
  | _ => none
def lockN (h : Sto) : Option Nat → Sto
  | none => h
  | some n => match getC h n with
    | .lst xs => h.set n (.lck xs)
    | _ => h
def freeN (h : Sto) : Option Nat → Sto
  | none => h
  | some n => match getC h n with
    | .lck xs => h.set n (.lst xs)
    | _ => h
def enumL : Nat → List D → List D
  | _, [] => []
  | i, x :: xs => .tup [.int (i : Nat), x] :: enumL (i + 1) xs
def zipL : List D → List D → List D
  | x :: xs, y :: ys => .tup [x, y] :: zipL xs ys
  | _, _ => []
def zipD : D → D → Option (List D)
  | .tup xs, .tup ys => some (zipL xs ys)
  | .lst xs, .lst ys => some (zipL xs ys)
  | _, _ => none
mutual
def asgT (t : T) (d : D) (h : Sto) (ρ : Env) : Option Env := match t with
  | .nam i => some (ρ.set i (some d))
  | .tup ts => match d with
    | .tup ds => asgTs ts ds h ρ
    | _ => none
def asgTs (ts : List T) (ds : List D) (h : Sto) (ρ : Env) : Option Env := match ts, ds with
  | [], [] => some ρ
  | t :: ts, d :: ds => match asgT t d h ρ with
    | some ρ1 => asgTs ts ds h ρ1
    | none => none
  | _, _ => none
end
def wipeE (ρ : Env) : List Nat → Env
  | [] => ρ
  | v :: vs => (wipeE ρ vs).set v none

inductive Fl where
  | nx (ρ : Env) | ret (d : D) | brk (ρ : Env) | cnt (ρ : Env)
/-- what the codes lean on: the defs that are called, one level lower too; the constants; a bound of the turns of a while -/
structure Glv where
  call : Nat → List D → Sto → R D
  call1 : Nat → List D → Sto → R D
  con : String → Option D
  turns : Nat
  deep : Bool

def Hn.d : Hn → D → D
  | .tag s, d => .tup [.str s, d]
  | .val, d => d
/-- try .. except C as e: return .., each exception of the body named -/
def tryR (hs : List (Nat × Hn)) : R Fl → R Fl
  | .exn c d h => match hs.lookup c with
    | some k => .ok (.ret (k.d d)) h
    | none => .bad
  | r => r
def compL (f : D → Sto → R (Option D)) : List D → List D → Sto → R (List D)
  | [], acc, h => .ok acc h
  | d :: ds, acc, h => (f d h).bind fun o h1 => match o with
    | none => compL f ds acc h1
    | some y => ifR (decide (acc.length < sizeLine)) (compL f ds (acc ++ [y]) h1)
def forL (f : D → Env → Sto → R Fl) : List D → Env → Sto → R Fl
  | [], ρ, h => .ok (.nx ρ) h
  | d :: ds, ρ, h => (f d ρ h).bind fun fl h1 => match fl with
    | .nx ρ1 => forL f ds ρ1 h1
    | .cnt ρ1 => forL f ds ρ1 h1
    | .brk ρ1 => .ok (.nx ρ1) h1
    | .ret d => .ok (.ret d) h1
def whlN (c : Env → Sto → R Bool) (f : Env → Sto → R Fl) : Nat → Env → Sto → R Fl
  | 0, _, _ => .bad
  | n + 1, ρ, h => (c ρ h).bind fun b h1 => match b with
    | false => .ok (.nx ρ) h1
    | true => (f ρ h1).bind fun fl h2 => match fl with
      | .nx ρ1 => whlN c f n ρ1 h2
      | .cnt ρ1 => whlN c f n ρ1 h2
      | .brk ρ1 => .ok (.nx ρ1) h2
      | .ret d => .ok (.ret d) h2
def freeR (o : Option Nat) : R Fl → R Fl
  | .ok a h => .ok a (freeN h o)
  | .exn c d h => .exn c d (freeN h o)
  | .bad => .bad
def freeL (o : Option Nat) : R (List D) → R (List D)
  | .ok a h => .ok a (freeN h o)
  | .exn c d h => .exn c d (freeN h o)
  | .bad => .bad
/-- a value's truth -/
def tst (r : R D) : R Bool := r.bind fun d h1 => opt (truD h1 d) h1
def newR (r : R D) : R D := r.bind fun d h => match d with
  | .lst xs => .ok (.ref h.length) (h ++ [.lst xs])
  | _ => .bad
/-- a new instance, given to its __init__ -/
def mkR (f : List D → Sto → R D) (c : Nat) (ds : List D) (h : Sto) : R D := (f (.ref h.length :: ds) (h ++ [.ins c []])).bind fun v h2 => match v with
  | .non => .ok (.ref h.length) h2
  | _ => .bad
def frzR (r : R D) : R D := r.bind fun d h => match d with
  | .ref n => match getC h n with
    | .lst xs => .ok (.lst xs) (h.set n .dead)
    | .ins c fs => .ok (.obj c fs) (h.set n .dead)
    | _ => .bad
  | d => .ok d h

section
variable (G : Glv)
mutual
def evE : E → Env → Sto → R D
  | .var i, ρ, h => opt (ρ.getD i none) h
  | .lit d, _, h => .ok d h
  | .glo x, _, h => opt (G.con x) h
  | .bin o a b, ρ, h => (evE a ρ h).bind fun x h1 => (evE b ρ h1).bind fun y h2 => binD o x y h2
  | .neg a, ρ, h => (evE a ρ h).bind fun x h1 => match x with
    | .int i => .ok (.int (-i)) h1
    | _ => .bad
  | .cmp o a b, ρ, h => (evE a ρ h).bind fun x h1 => (evE b ρ h1).bind fun y h2 => cmpD o x y h2
  | .chain o1 o2 a b c, ρ, h => (evE a ρ h).bind fun x h1 => (evE b ρ h1).bind fun y h2 => (cmpD o1 x y h2).bind fun k h3 => match k with
    | .bl true => (evE c ρ h3).bind fun z h4 => cmpD o2 y z h4
    | .bl false => .ok (.bl false) h3
    | _ => .bad
  | .isN a, ρ, h => (evE a ρ h).bind fun x h1 => match x with
    | .non => .ok (.bl true) h1
    | .ref n => match getC h1 n with
      | .dead => .bad
      | _ => .ok (.bl false) h1
    | _ => .ok (.bl false) h1
  | .notN a, ρ, h => (evE a ρ h).bind fun x h1 => match x with
    | .non => .ok (.bl false) h1
    | .ref n => match getC h1 n with
      | .dead => .bad
      | _ => .ok (.bl true) h1
    | _ => .ok (.bl true) h1
  | .not a, ρ, h => (evE a ρ h).bind fun x h1 => match x with
    | .bl b => .ok (.bl (!b)) h1
    | _ => .bad
  | .and es, ρ, h => evAnd es ρ h
  | .or es, ρ, h => evOr es ρ h
  | .ite t a b, ρ, h => (tst (evE t ρ h)).bind fun k h1 => match k with
    | true => evE a ρ h1
    | false => evE b ρ h1
  | .tup es, ρ, h => (evEs es ρ h).bind fun ds h1 => ifR (lim ds.length) (.ok (.tup ds) h1)
  | .lst es, ρ, h => (evEs es ρ h).bind fun ds h1 => ifR (lim ds.length) (.ok (.lst ds) h1)
  | .ix a i, ρ, h => (evE a ρ h).bind fun x h1 => (evE i ρ h1).bind fun y h2 => ixD x y h2
  | .slc a lo hi, ρ, h => (evE a ρ h).bind fun x h1 => (evO lo ρ h1).bind fun l h2 => (evO hi ρ h2).bind fun u h3 => match x with
    | .tup xs => .ok (.tup (cutD xs l u)) h3
    | .scr xs => .ok (.lst (cutD xs l u)) h3
    | x => match lstOf h3 x with
      | some xs => .ok (.lst (cutD xs l u)) h3
      | none => .bad
  | .fld a f, ρ, h => (evE a ρ h).bind fun x h1 => match fldsOf h1 x with
    | some fs => opt (fs.lookup f) h1
    | none => .bad
  | .prop c f a, ρ, h => (evE a ρ h).bind fun x h1 => match clsOf h1 x with
    | some d => ifR (d == c) (G.call1 f [x] h1).shut
    | none => .bad
  | .call f es ds, ρ, h => (evEs es ρ h).bind fun vs h1 => G.call f (vs ++ ds) h1
  | .callK f es ks, ρ, h => (evEs es ρ h).bind fun vs h1 => (evEs ks ρ h1).bind fun us h2 => G.call f (vs ++ us) h2
  | .mk c f es ds, ρ, h => ifR G.deep ((evEs es ρ h).bind fun vs h1 => mkR (G.call1 f) c (vs ++ ds) h1)
  | .mkK c f es ks, ρ, h => ifR G.deep ((evEs es ρ h).bind fun vs h1 => (evEs ks ρ h1).bind fun us h2 => mkR (G.call1 f) c (vs ++ us) h2)
  | .stop, _, _ => .bad
  | .bi b es, ρ, h => (evEs es ρ h).bind fun ds h1 => biD b ds h1
  | .bm m o es, ρ, h => (evE o ρ h).bind fun x h1 => match lstOf h1 x with
    | none => .bad
    | some _ => (evEs es ρ h1).bind fun ds h2 => bmD m x ds h2
  | .isi a ts, ρ, h => (evE a ρ h).bind fun x h1 => match isTys h1 x ts with
    | some b => .ok (.bl b) h1
    | none => .bad
  | .rngT t es, ρ, h => (evEs es ρ h).bind fun ds h1 => match rngD ds with
    | some (lo, n) => ifR (lim n) (.ok (sqV t (rngL lo n)) h1)
    | none => .bad
  | .comp tg it cond elt vs, ρ, h => (evI it ρ h).bind fun p h1 => (freeL p.2 (compL (fun d h2 => match asgT tg d h2 (wipeE ρ vs) with
    | none => .bad
    | some ρ1 => match cond with
      | none => (evE elt ρ1 h2).bind fun y h3 => .ok (some y) h3
      | some c => (tst (evE c ρ1 h2)).bind fun b h3 => match b with
        | true => (evE elt ρ1 h3).bind fun y h4 => .ok (some y) h4
        | false => .ok none h3) p.1 [] (lockN h1 p.2)).shut).bind fun ys h5 => .ok (.lst ys) h5
  | .srt b a, ρ, h => (evE a ρ h).bind fun x h1 => srtD b x h1
  | .isB n a b, ρ, h => (evE a ρ h).bind fun x h1 => isBD n b x h1
  | .new e, ρ, h => newR (evE e ρ h)
  | .frz e, ρ, h => frzR (evE e ρ h)
def evEs : List E → Env → Sto → R (List D)
  | [], _, h => .ok [] h
  | e :: es, ρ, h => (evE e ρ h).bind fun d h1 => (evEs es ρ h1).bind fun ds h2 => .ok (d :: ds) h2
def evO : Option E → Env → Sto → R (Option Int)
  | none, _, h => .ok none h
  | some e, ρ, h => (evE e ρ h).bind fun d h1 => match d with
    | .int i => .ok (some i) h1
    | _ => .bad
/-- and, or as values: True or False, but for the last one -/
def evAnd : List E → Env → Sto → R D
  | [], _, _ => .bad
  | [e], ρ, h => evE e ρ h
  | e :: e2 :: es, ρ, h => (evE e ρ h).bind fun d h1 => match d with
    | .bl true => evAnd (e2 :: es) ρ h1
    | .bl false => .ok (.bl false) h1
    | _ => .bad
def evOr : List E → Env → Sto → R D
  | [], _, _ => .bad
  | [e], ρ, h => evE e ρ h
  | e :: e2 :: es, ρ, h => (evE e ρ h).bind fun d h1 => match d with
    | .bl false => evOr (e2 :: es) ρ h1
    | .bl true => .ok (.bl true) h1
    | _ => .bad
def evI : I → Env → Sto → R (List D × Option Nat)
  | .seq e, ρ, h => (evE e ρ h).bind fun d h1 => opt (itD h1 d) h1
  | .rng es, ρ, h => (evEs es ρ h).bind fun ds h1 => match rngD ds with
    | some (lo, n) => .ok (rngL lo n, none) h1
    | none => .bad
  | .enm e, ρ, h => (evE e ρ h).bind fun d h1 => match itD h1 d with
    | some (xs, o) => .ok (enumL 0 xs, o) h1
    | none => .bad
  | .zip a b, ρ, h => (evE a ρ h).bind fun x h1 => (evE b ρ h1).bind fun y h2 => match zipD x y with
    | some zs => .ok (zs, none) h2
    | none => .bad
end
/-- a turn of a comprehension -/
def compF (tg : T) (cond : Option E) (elt : E) (vs : List Nat) (ρ : Env) (d : D) (h2 : Sto) : R (Option D) := match asgT tg d h2 (wipeE ρ vs) with
  | none => .bad
  | some ρ1 => match cond with
    | none => (evE G elt ρ1 h2).bind fun y h3 => .ok (some y) h3
    | some c => (tst (evE G c ρ1 h2)).bind fun b h3 => match b with
      | true => (evE G elt ρ1 h3).bind fun y h4 => .ok (some y) h4
      | false => .ok none h3
theorem evE_comp (tg : T) (it : I) (cond : Option E) (elt : E) (vs : List Nat) (ρ : Env) (h : Sto) : evE G (.comp tg it cond elt vs) ρ h = (evI G it ρ h).bind fun p h1 => (freeL p.2 (compL (compF G tg cond elt vs ρ) p.1 [] (lockN h1 p.2)).shut).bind fun ys h5 => .ok (.lst ys) h5 := by
  unfold evE
  refine congrArg _ ?_
  funext p h1
  have e : ∀ (f g : D → Sto → R (Option D)), f = g → (freeL p.2 (compL f p.1 [] (lockN h1 p.2)).shut).bind (fun ys h5 => R.ok (D.lst ys) h5) = (freeL p.2 (compL g p.1 [] (lockN h1 p.2)).shut).bind fun ys h5 => R.ok (D.lst ys) h5 := fun f g e => by rw [e]
  refine e _ _ ?_
  funext d h2
  unfold compF
  cases asgT tg d h2 (wipeE ρ vs) with
  | none => rfl
  | some ρ1 => cases cond <;> rfl
def evT (e : E) (ρ : Env) (h : Sto) : R Bool := tst (evE G e ρ h)
mutual
def exS : S → Env → Sto → R Fl
  | .asg t e, ρ, h => (evE G e ρ h).bind fun d h1 => match asgT t d h1 ρ with
    | some ρ1 => .ok (.nx ρ1) h1
    | none => .bad
  | .setIx a i e, ρ, h => (evE G e ρ h).bind fun v h1 => (evE G a ρ h1).bind fun x h2 => (evE G i ρ h2).bind fun y h3 => match x, y with
    | .ref n, .int k => match getC h3 n with
      | .lst xs => match L2.ixN xs.length k with
        | some j => .ok (.nx ρ) (h3.set n (.lst (xs.set j v)))
        | none => .bad
      | _ => .bad
    | _, _ => .bad
  | .setFld a f e, ρ, h => (evE G e ρ h).bind fun v h1 => (evE G a ρ h1).bind fun x h2 => match x with
    | .ref n => match getC h2 n with
      | .ins c fs => ifR (decide (fs.length < 1000)) (.ok (.nx ρ) (h2.set n (.ins c (setFldL f v fs))))
      | _ => .bad
    | _ => .bad
  | .aug i o e, ρ, h => match ρ.getD i none with
    | some x => (evE G e ρ h).bind fun y h1 => match o, x, y with
      | .add, .int a, .int b => .ok (.nx (ρ.set i (some (.int (a + b))))) h1
      | .sub, .int a, .int b => .ok (.nx (ρ.set i (some (.int (a - b))))) h1
      | _, _, _ => .bad
    | none => .bad
  | .ret e, ρ, h => (evE G e ρ h).bind fun d h1 => .ok (.ret d) h1
  | .retN, _, h => .ok (.ret .non) h
  | .ifs c a b, ρ, h => (evT G c ρ h).bind fun k h1 => match k with
    | true => exSs a ρ h1
    | false => exSs b ρ h1
  | .for_ t it b, ρ, h => (evI G it ρ h).bind fun p h1 => freeR p.2 (forL (fun d ρ1 h2 => match asgT t d h2 ρ1 with
    | some ρ2 => exSs b ρ2 h2
    | none => .bad) p.1 ρ (lockN h1 p.2))
  | .whl c b, ρ, h => whlN (fun ρ1 h1 => evT G c ρ1 h1) (fun ρ1 h1 => exSs b ρ1 h1) G.turns ρ h
  | .expr e, ρ, h => (evE G e ρ h).bind fun _ h1 => .ok (.nx ρ) h1
  | .brk, ρ, h => .ok (.brk ρ) h
  | .cnt, ρ, h => .ok (.cnt ρ) h
  | .pass, ρ, h => .ok (.nx ρ) h
  | .stop, ρ, h => .bad
  | .rse c f e, ρ, h => ifR G.deep (match G.call1 f [.non, .non] h with
    | .ok _ _ => (evE G e ρ h).bind fun d h1 => .exn c d h1
    | _ => .bad)
  | .trA b hs, ρ, h => tryR hs (exSs b ρ h)
def exSs : List S → Env → Sto → R Fl
  | [], ρ, h => .ok (.nx ρ) h
  | s :: ss, ρ, h => (exS s ρ h).bind fun fl h1 => match fl with
    | .nx ρ1 => exSs ss ρ1 h1
    | fl => .ok fl h1
end
end
/-- a def: how many parameters, how many names, its body -/
structure Fn where
  np : Nat
  nn : Nat
  body : List S
structure Tbl where
  fn : Nat → Option Fn
  con : String → Option D
  turns : Nat
def startE (nn : Nat) (ds : List D) : Env := ds.map some ++ List.replicate (nn - ds.length) none
def runB (G : Glv) (F : Fn) (ds : List D) (h : Sto) : R D := ifR (decide (ds.length = F.np)) ((exSs G F.body (startE F.nn ds) h).bind fun fl h1 => match fl with
  | .nx _ => .ok .non h1
  | .ret d => .ok d h1
  | _ => .bad)
def callI (Tb : Tbl) : Nat → Nat → List D → Sto → R D
  | 0, _, _, _ => .bad
  | 1, f, ds, h => match Tb.fn f with
    | some F => runB ⟨fun _ _ _ => .bad, fun _ _ _ => .bad, Tb.con, Tb.turns, false⟩ F ds h
    | none => .bad
  | k + 2, f, ds, h => match Tb.fn f with
    | some F => runB ⟨fun f ds h => callI Tb (k + 1) f ds h, fun f ds h => callI Tb k f ds h, Tb.con, Tb.turns, true⟩ F ds h
    | none => .bad
def glv (tb : Tbl) (k : Nat) : Glv := ⟨callI tb k, callI tb (k - 1), tb.con, tb.turns, match k with
  | 0 => false
  | _ + 1 => true⟩
theorem callI_succ (Tb : Tbl) (k f : Nat) (ds : List D) (h : Sto) : callI Tb (k + 1) f ds h = match Tb.fn f with
    | some F => runB (glv Tb k) F ds h
    | none => .bad := by
  cases k with
  | zero => rfl
  | succ k => rfl
end Cl
/-! text ClB -/
set_option maxHeartbeats 1000007
/-! How clean data stand in the abstract heap. -/
namespace Cl
open PySem L2

/-- a world: the written part, where the classes stand, the exceptions' field; temporaries; the abstract heap; where the live cells stand; the store -/
structure Pa where
  K : PySem.W.Frag
  ca : Nat → Addr
  cl : Nat → Bool
  xf : Nat → Str
structure Wd where
  pa : Pa
  T : List Addr
  H : Hp
  ms : List (Option Addr)
  h : Sto
def isLck : Cell → Bool
  | .lck _ => true
  | _ => false
/-- what may change -/
def ow (W : Wd) (a : Addr) : Prop := a ∈ W.T ∨ ∃ n : Nat, W.ms[n]? = some (some a)
def RdL (W : Wd) (a : Addr) (vs : List V) : Prop := (Rd W.H a (.lst vs) ∧ ¬ ow W a) ∨ SqL W.pa.K (fun _ => none) a vs
def RdT (W : Wd) (a : Addr) (vs : List V) : Prop := (Rd W.H a (.tup vs) ∧ ¬ ow W a) ∨ SqT W.pa.K (fun _ => none) a vs
mutual
def Rep (W : Wd) : D → V → Prop
  | .non, v => v = .non
  | .bl b, v => v = .bl b
  | .int i, v => v = .int i
  | .str s, v => v = .str s
  | .tup ds, v => ∃ a vs, v = .ref a ∧ RdT W a vs ∧ RepA W ds vs
  | .lst ds, v => ∃ a vs, v = .ref a ∧ W.H a = some (.lst vs) ∧ ¬ ow W a ∧ RepA W ds vs
  | .scr ds, v => ∃ a vs, v = .ref a ∧ RdL W a vs ∧ RepA W ds vs
  | .obj c fs, v => ∃ a dx gs, v = .ref a ∧ W.H a = some (.ins (W.pa.ca c) dx gs) ∧ ¬ ow W a ∧ W.pa.cl c = true ∧ RepF W fs gs
  | .ref n, v => n < W.ms.length ∧ ∀ a, W.ms[n]? = some (some a) → v = .ref a
def RepA (W : Wd) : List D → List V → Prop
  | [], vs => vs = []
  | d :: ds, vs => ∃ x xs, vs = x :: xs ∧ Rep W d x ∧ RepA W ds xs
def RepF (W : Wd) : List (Str × D) → List (Str × V) → Prop
  | [], gs => gs = []
  | (f, d) :: fs, gs => ∃ x r, gs = (f, x) :: r ∧ Rep W d x ∧ RepF W fs r
end
def CR (W : Wd) (a : Addr) : Cell → Prop
  | .lst xs => ∃ vs, W.H a = some (.lst vs) ∧ RepA W xs vs
  | .lck xs => ∃ vs, W.H a = some (.lst vs) ∧ RepA W xs vs
  | .ins c fs => W.pa.cl c = true ∧ ∃ dx gs, W.H a = some (.ins (W.pa.ca c) dx gs) ∧ RepF W fs gs
  | .dead => False
structure Sm (W : Wd) : Prop where
  len : W.ms.length = W.h.length
  inj : ∀ (i j : Nat) (a : Addr), W.ms[i]? = some (some a) → W.ms[j]? = some (some a) → i = j
  cel : ∀ (n : Nat) (a : Addr), W.ms[n]? = some (some a) → CR W a (getC W.h n)
  ded : ∀ (n : Nat), W.ms[n]? = some none → getC W.h n = .dead
  tmp : ∀ (a : Addr), a ∈ W.T → W.H a ≠ none ∧ ∀ (n : Nat), W.ms[n]? ≠ some (some a)
/-- from one world to a later one -/
structure Go (W W' : Wd) : Prop where
  pa : W'.pa = W.pa
  T : W'.T = W.T
  keep : ∀ (a : Addr) (o : HO), W.H a = some o → ¬ ow W a → W'.H a = some o ∧ ¬ ow W' a
  trk : ∀ (a : Addr) (o : HO), W.H a = some o → ∃ o', W'.H a = some o'
  tmp : ∀ (a : Addr) (o : HO), a ∈ W.T → W.H a = some o → W'.H a = some o
  len : W.ms.length ≤ W'.ms.length
  mono : ∀ (n : Nat) (x : Option Addr), W.ms[n]? = some x → W'.ms[n]? = some x ∨ W'.ms[n]? = some none
  lck : ∀ (n : Nat) (xs : List D), getC W.h n = .lck xs → getC W'.h n = .lck xs ∧ W'.ms[n]? = W.ms[n]? ∧ ∀ (a : Addr) (o : HO), W.ms[n]? = some (some a) → W.H a = some o → W'.H a = some o
/-- what readings lean on -/
structure Le (W W' : Wd) : Prop where
  pa : W'.pa = W.pa
  keep : ∀ (a : Addr) (o : HO), W.H a = some o → ¬ ow W a → W'.H a = some o ∧ ¬ ow W' a
  len : W.ms.length ≤ W'.ms.length
  mono : ∀ (n : Nat) (x : Option Addr), W.ms[n]? = some x → W'.ms[n]? = some x ∨ W'.ms[n]? = some none
theorem Go.le {W W' : Wd} (g : Go W W') : Le W W' := ⟨g.pa, g.keep, g.len, g.mono⟩
theorem Go.refl (W : Wd) : Go W W := ⟨rfl, rfl, fun _ _ h n => ⟨h, n⟩, fun _ o h => ⟨o, h⟩, fun _ _ _ h => h, Nat.le_refl _, fun _ _ h => .inl h, fun _ _ h => ⟨h, rfl, fun _ _ _ h => h⟩⟩
theorem Go.trans {W W1 W2 : Wd} (a : Go W W1) (b : Go W1 W2) : Go W W2 where
  pa := b.pa.trans a.pa
  T := b.T.trans a.T
  keep := fun x o h n => by
    obtain ⟨h1, n1⟩ := a.keep x o h n
    exact b.keep x o h1 n1
  trk := fun x o h => by
    obtain ⟨o1, h1⟩ := a.trk x o h
    exact b.trk x o1 h1
  tmp := fun x o m h => b.tmp x o (by rw [a.T]; exact m) (a.tmp x o m h)
  len := Nat.le_trans a.len b.len
  mono := fun n x h => by
    rcases a.mono n x h with h1 | h1
    · exact b.mono n x h1
    · rcases b.mono n _ h1 with h2 | h2
      · exact .inr h2
      · exact .inr h2
  lck := fun n xs h => by
    obtain ⟨h1, e1, k1⟩ := a.lck n xs h
    obtain ⟨h2, e2, k2⟩ := b.lck n xs h1
    exact ⟨h2, e2.trans e1, fun x o hx ho => k2 x o (by rw [e1]; exact hx) (k1 x o hx ho)⟩
theorem Go.fresh {W W' : Wd} (g : Go W W') {p : Addr} (h : W'.H p = none) : W.H p = none := by
  cases e : W.H p with
  | none => rfl
  | some o =>
    obtain ⟨o', e'⟩ := g.trk p o e
    rw [h] at e'
    cases e'

/-! ### what is read stays -/
theorem Rd.keep {W W' : Wd} (g : Le W W') {a : Addr} {u : HO} (h : Rd W.H a u) (n : ¬ ow W a) : Rd W'.H a u ∧ ¬ ow W' a := by
  rcases h with h | ⟨o, h⟩
  · obtain ⟨h1, n1⟩ := g.keep a _ h n
    exact ⟨.inl h1, n1⟩
  · obtain ⟨h1, n1⟩ := g.keep a _ h n
    exact ⟨.inr ⟨o, h1⟩, n1⟩
mutual
theorem Rep.le {W W' : Wd} (g : Le W W') : ∀ (d : D) (v : V), Rep W d v → Rep W' d v
  | .non, _, h => h
  | .bl _, _, h => h
  | .int _, _, h => h
  | .str _, _, h => h
  | .tup ds, v, h => by
    obtain ⟨a, vs, e, r, q⟩ := h
    refine ⟨a, vs, e, ?_, RepA.le g ds vs q⟩
    rcases r with ⟨r, n⟩ | r
    · exact .inl (Rd.keep g r n)
    · exact .inr (by rw [g.pa]; exact r)
  | .lst ds, v, h => by
    obtain ⟨a, vs, e, r, n, q⟩ := h
    obtain ⟨r1, n1⟩ := g.keep a _ r n
    exact ⟨a, vs, e, r1, n1, RepA.le g ds vs q⟩
  | .scr ds, v, h => by
    obtain ⟨a, vs, e, r, q⟩ := h
    refine ⟨a, vs, e, ?_, RepA.le g ds vs q⟩
    rcases r with ⟨r, n⟩ | r
    · exact .inl (Rd.keep g r n)
    · exact .inr (by rw [g.pa]; exact r)
  | .obj c fs, v, h => by
    obtain ⟨a, dx, gs, e, r, n, l, q⟩ := h
    obtain ⟨r1, n1⟩ := g.keep a _ r n
    exact ⟨a, dx, gs, e, by rw [g.pa]; exact r1, n1, by rw [g.pa]; exact l, RepF.le g fs gs q⟩
  | .ref n, v, h => by
    obtain ⟨l, e⟩ := h
    refine ⟨Nat.lt_of_lt_of_le l g.len, fun a ha => e a ?_⟩
    have hn : ∃ x, W.ms[n]? = some x := ⟨W.ms[n], List.getElem?_eq_getElem l⟩
    obtain ⟨x, hx⟩ := hn
    rcases g.mono n x hx with q | q
    · rw [ha] at q
      rw [hx, ← q]
    · rw [ha] at q
      cases q
theorem RepA.le {W W' : Wd} (g : Le W W') : ∀ (ds : List D) (vs : List V), RepA W ds vs → RepA W' ds vs
  | [], _, h => h
  | d :: ds, vs, h => by
    obtain ⟨x, xs, e, r, q⟩ := h
    exact ⟨x, xs, e, Rep.le g d x r, RepA.le g ds xs q⟩
theorem RepF.le {W W' : Wd} (g : Le W W') : ∀ (fs : List (Str × D)) (gs : List (Str × V)), RepF W fs gs → RepF W' fs gs
  | [], _, h => h
  | (f, d) :: fs, gs, h => by
    obtain ⟨x, r, e, p, q⟩ := h
    exact ⟨x, r, e, Rep.le g d x p, RepF.le g fs r q⟩
end
theorem Rep.go {W W' : Wd} (g : Go W W') (d : D) (v : V) (h : Rep W d v) : Rep W' d v := Rep.le g.le d v h
theorem RepA.go {W W' : Wd} (g : Go W W') (ds : List D) (vs : List V) (h : RepA W ds vs) : RepA W' ds vs := RepA.le g.le ds vs h
theorem RepF.go {W W' : Wd} (g : Go W W') (fs : List (Str × D)) (gs : List (Str × V)) (h : RepF W fs gs) : RepF W' fs gs := RepF.le g.le fs gs h
theorem RepA.length {W : Wd} : ∀ {ds : List D} {vs : List V}, RepA W ds vs → vs.length = ds.length
  | [], _, h => by
    have e : _ = [] := h
    rw [e]
    rfl
  | d :: ds, vs, h => by
    obtain ⟨x, xs, e, r, q⟩ := h
    rw [e, List.length_cons, List.length_cons, RepA.length q]
theorem RepA.get {W : Wd} : ∀ {ds : List D} {vs : List V} {i : Nat} {d : D}, RepA W ds vs → ds[i]? = some d → ∃ v, vs[i]? = some v ∧ Rep W d v
  | [], _, _, _, _, e => by simp at e
  | d :: ds, vs, i, d', h, e => by
    obtain ⟨x, xs, ev, r, q⟩ := h
    subst ev
    cases i with
    | zero =>
      have : d = d' := by simpa using e
      subst this
      exact ⟨x, rfl, r⟩
    | succ i =>
      obtain ⟨v, h1, h2⟩ := RepA.get (i := i) q (by simpa using e)
      exact ⟨v, by simpa using h1, h2⟩
theorem RepA.getV {W : Wd} {ds : List D} {vs : List V} {i : Nat} {v : V} (h : RepA W ds vs) (e : vs[i]? = some v) : ∃ d, ds[i]? = some d ∧ Rep W d v := by
  have hl := h.length
  have hi : i < vs.length := (List.getElem?_eq_some_iff.mp e).1
  have h2 : ds[i]? = some (ds[i]'(by omega)) := List.getElem?_eq_getElem (by omega)
  obtain ⟨v', e', r⟩ := h.get h2
  rw [e] at e'
  cases e'
  exact ⟨_, h2, r⟩
theorem RepA.append {W : Wd} : ∀ {ds es : List D} {vs ws : List V}, RepA W ds vs → RepA W es ws → RepA W (ds ++ es) (vs ++ ws)
  | [], _, _, _, h, q => by
    have e : _ = [] := h
    rw [e]
    exact q
  | d :: ds, es, vs, ws, h, q => by
    obtain ⟨x, xs, e, r, p⟩ := h
    subst e
    exact ⟨x, xs ++ ws, rfl, r, RepA.append p q⟩
theorem RepA.one {W : Wd} {d : D} {v : V} (h : Rep W d v) : RepA W [d] [v] := ⟨v, [], rfl, h, rfl⟩
theorem RepA.take {W : Wd} : ∀ {ds : List D} {vs : List V} (n : Nat), RepA W ds vs → RepA W (ds.take n) (vs.take n)
  | [], vs, n, h => by
    have e : vs = [] := h
    subst e
    simp [RepA]
  | d :: ds, vs, 0, h => by simp [RepA]
  | d :: ds, vs, n + 1, h => by
    obtain ⟨x, xs, e, r, p⟩ := h
    subst e
    exact ⟨x, xs.take n, rfl, r, RepA.take n p⟩
theorem RepA.drop {W : Wd} : ∀ {ds : List D} {vs : List V} (n : Nat), RepA W ds vs → RepA W (ds.drop n) (vs.drop n)
  | [], vs, n, h => by
    have e : vs = [] := h
    subst e
    simp [RepA]
  | d :: ds, vs, 0, h => h
  | d :: ds, vs, n + 1, h => by
    obtain ⟨x, xs, e, r, p⟩ := h
    subst e
    exact RepA.drop n p
theorem RepA.set {W : Wd} {d : D} {v : V} (r : Rep W d v) : ∀ {ds : List D} {vs : List V} (i : Nat), RepA W ds vs → RepA W (ds.set i d) (vs.set i v)
  | [], vs, i, h => by
    have e : vs = [] := h
    subst e
    simp [RepA]
  | x :: ds, vs, 0, h => by
    obtain ⟨y, ys, e, _, p⟩ := h
    subst e
    exact ⟨v, ys, rfl, r, p⟩
  | x :: ds, vs, i + 1, h => by
    obtain ⟨y, ys, e, q, p⟩ := h
    subst e
    exact ⟨y, ys.set i v, rfl, q, RepA.set r i p⟩
theorem RepA.dropLast {W : Wd} {ds : List D} {vs : List V} (h : RepA W ds vs) : RepA W ds.dropLast vs.dropLast := by
  rw [List.dropLast_eq_take, List.dropLast_eq_take, h.length]
  exact h.take _
theorem RepA.ints {W : Wd} : ∀ {is : List Int}, RepA W (is.map D.int) (is.map V.int)
  | [] => rfl
  | i :: is => ⟨.int i, is.map V.int, rfl, rfl, RepA.ints⟩
theorem RepF.lookup {W : Wd} {f : Str} : ∀ {fs : List (Str × D)} {gs : List (Str × V)} {d : D}, RepF W fs gs → fs.lookup f = some d → ∃ v, gs.lookup f = some v ∧ Rep W d v
  | [], _, _, _, e => by cases e
  | (g, d) :: fs, gs, d', h, e => by
    obtain ⟨x, r, eg, p, q⟩ := h
    subst eg
    simp only [List.lookup] at e ⊢
    cases hb : f == g with
    | true =>
      rw [hb] at e
      cases e
      exact ⟨x, rfl, p⟩
    | false =>
      rw [hb] at e
      exact RepF.lookup q e
theorem RepF.length {W : Wd} : ∀ {fs : List (Str × D)} {gs : List (Str × V)}, RepF W fs gs → gs.length = fs.length
  | [], _, h => by
    have e : _ = [] := h
    rw [e]
    rfl
  | (f, d) :: fs, gs, h => by
    obtain ⟨x, r, e, p, q⟩ := h
    rw [e, List.length_cons, List.length_cons, RepF.length q]
theorem RepF.put {W : Wd} {f : Str} {d : D} {v : V} (r : Rep W d v) : ∀ {fs : List (Str × D)} {gs : List (Str × V)}, RepF W fs gs → RepF W (setFldL f d fs) (putF f v gs)
  | [], gs, h => by
    have e : gs = [] := h
    subst e
    exact ⟨v, [], rfl, r, rfl⟩
  | (g, x) :: fs, gs, h => by
    obtain ⟨y, q, e, p, t⟩ := h
    subst e
    unfold setFldL putF
    by_cases hg : g = f
    · rw [if_pos hg, if_pos hg]
      exact ⟨v, q, rfl, r, t⟩
    · rw [if_neg hg, if_neg hg]
      exact ⟨y, putF f v q, rfl, p, RepF.put r t⟩

/-! ### reading sequences -/
theorem SqL.up {K : PySem.W.Frag} {H : Hp} {a : Addr} {xs : List V} (h : SqL K (fun _ => none) a xs) : SqL K H a xs := by
  rcases h with (h | ⟨o, h⟩) | h
  · cases h
  · cases h
  · exact .inr h
theorem SqT.up {K : PySem.W.Frag} {H : Hp} {a : Addr} {xs : List V} (h : SqT K (fun _ => none) a xs) : SqT K H a xs := by
  rcases h with (h | ⟨o, h⟩) | h
  · cases h
  · cases h
  · exact .inr h
theorem RdL.sq {W : Wd} {a : Addr} {vs : List V} (h : RdL W a vs) : SqL W.pa.K W.H a vs := by
  rcases h with ⟨h, _⟩ | h
  · exact .inl h
  · exact SqL.up h
theorem RdT.sq {W : Wd} {a : Addr} {vs : List V} (h : RdT W a vs) : SqT W.pa.K W.H a vs := by
  rcases h with ⟨h, _⟩ | h
  · exact .inl h
  · exact SqT.up h
theorem Sm.at {W : Wd} (s : Sm W) {n : Nat} (hl : n < W.ms.length) (hd : getC W.h n ≠ .dead) : ∃ a, W.ms[n]? = some (some a) ∧ CR W a (getC W.h n) := by
  have e : W.ms[n]? = some W.ms[n] := List.getElem?_eq_getElem hl
  cases q : W.ms[n] with
  | none =>
    rw [q] at e
    exact absurd (s.ded n e) hd
  | some a =>
    rw [q] at e
    exact ⟨a, e, s.cel n a e⟩
/-- a list's items -/
theorem lst_at {W : Wd} (s : Sm W) {d : D} {v : V} {xs : List D} (r : Rep W d v) (e : lstOf W.h d = some xs) : ∃ a vs, v = .ref a ∧ W.H a = some (.lst vs) ∧ RepA W xs vs := by
  cases d with
  | lst ys =>
    cases e
    obtain ⟨a, vs, rfl, h, _, q⟩ := r
    exact ⟨a, vs, rfl, h, q⟩
  | ref n =>
    obtain ⟨l, hv⟩ := r
    cases hc : getC W.h n with
    | lst ys =>
      simp only [lstOf, hc] at e
      cases e
      obtain ⟨a, ea, c⟩ := s.at l (by rw [hc]; intro z; cases z)
      rw [hc] at c
      obtain ⟨vs, h1, h2⟩ := c
      exact ⟨a, vs, hv a ea, h1, h2⟩
    | lck ys =>
      simp only [lstOf, hc] at e
      cases e
      obtain ⟨a, ea, c⟩ := s.at l (by rw [hc]; intro z; cases z)
      rw [hc] at c
      obtain ⟨vs, h1, h2⟩ := c
      exact ⟨a, vs, hv a ea, h1, h2⟩
    | ins c fs =>
      simp only [lstOf, hc] at e
      cases e
    | dead =>
      simp only [lstOf, hc] at e
      cases e
  | _ => cases e
theorem seq_at {W : Wd} (s : Sm W) {d : D} {v : V} {xs : List D} (r : Rep W d v) (e : seqOf W.h d = some xs) : ∃ a vs, v = .ref a ∧ (SqL W.pa.K W.H a vs ∨ SqT W.pa.K W.H a vs) ∧ RepA W xs vs := by
  cases d with
  | tup ys =>
    cases e
    obtain ⟨a, vs, rfl, h, q⟩ := r
    exact ⟨a, vs, rfl, .inr h.sq, q⟩
  | lst ys =>
    obtain ⟨a, vs, h1, h2, h3⟩ := lst_at s (d := .lst ys) r e
    exact ⟨a, vs, h1, .inl (SqL.of h2), h3⟩
  | ref n =>
    obtain ⟨a, vs, h1, h2, h3⟩ := lst_at s (d := .ref n) r (by exact e)
    exact ⟨a, vs, h1, .inl (SqL.of h2), h3⟩
  | _ => cases e
theorem fld_at {W : Wd} (s : Sm W) {d : D} {v : V} {fs : List (Str × D)} (r : Rep W d v) (e : fldsOf W.h d = some fs) : ∃ a c dx gs, v = .ref a ∧ W.H a = some (.ins (W.pa.ca c) dx gs) ∧ W.pa.cl c = true ∧ RepF W fs gs := by
  cases d with
  | obj c ys =>
    cases e
    obtain ⟨a, dx, gs, rfl, h, _, l, q⟩ := r
    exact ⟨a, c, dx, gs, rfl, h, l, q⟩
  | ref n =>
    obtain ⟨l, hv⟩ := r
    cases hc : getC W.h n with
    | ins c ys =>
      simp only [fldsOf, hc] at e
      cases e
      obtain ⟨a, ea, q⟩ := s.at l (by rw [hc]; intro z; cases z)
      rw [hc] at q
      obtain ⟨l, dx, gs, h1, h2⟩ := q
      exact ⟨a, c, dx, gs, hv a ea, h1, l, h2⟩
    | lst ys =>
      simp only [fldsOf, hc] at e
      cases e
    | lck ys =>
      simp only [fldsOf, hc] at e
      cases e
    | dead =>
      simp only [fldsOf, hc] at e
      cases e
  | _ => cases e
mutual
theorem py_at {W : Wd} : ∀ {d : D} {v : V} {p : PyData}, Rep W d v → toPy d = some p → Dp W.pa.K W.H v p
  | .non, v, p, r, e => by
    cases e
    have : v = .non := r
    subst this
    exact .non
  | .bl b, v, p, r, e => by
    cases e
    have : v = .bl b := r
    subst this
    exact .bl b
  | .int i, v, p, r, e => by
    cases e
    have : v = .int i := r
    subst this
    exact .int i
  | .str s, v, p, r, e => by
    cases e
    have : v = .str s := r
    subst this
    exact .str s
  | .tup ds, v, p, r, e => by
    obtain ⟨a, vs, rfl, h, q⟩ := r
    unfold toPy at e
    cases hs : toPys ds with
    | none =>
      rw [hs] at e
      cases e
    | some ys =>
      rw [hs] at e
      cases e
      exact .tup h.sq (pys_at q hs)
  | .lst ds, v, p, r, e => by
    obtain ⟨a, vs, rfl, h, _, q⟩ := r
    unfold toPy at e
    cases hs : toPys ds with
    | none =>
      rw [hs] at e
      cases e
    | some ys =>
      rw [hs] at e
      cases e
      exact .lst (SqL.of h) (pys_at q hs)
  | .obj _ _, _, _, _, e => by
    unfold toPy at e
    cases e
  | .ref _, _, _, _, e => by
    unfold toPy at e
    cases e
  | .scr _, _, _, _, e => by
    unfold toPy at e
    cases e
theorem pys_at {W : Wd} : ∀ {ds : List D} {vs : List V} {ps : List PyData}, RepA W ds vs → toPys ds = some ps → DpAll W.pa.K W.H vs ps
  | [], vs, ps, r, e => by
    unfold toPys at e
    cases e
    have : vs = [] := r
    subst this
    exact .nil
  | d :: ds, vs, ps, r, e => by
    obtain ⟨x, xs, rfl, h, q⟩ := r
    unfold toPys at e
    cases h1 : toPy d with
    | none =>
      rw [h1] at e
      cases e
    | some p =>
      cases h2 : toPys ds with
      | none =>
        rw [h1, h2] at e
        cases e
      | some qs =>
        rw [h1, h2] at e
        cases e
        exact .cons (py_at h h1) (pys_at q h2)
end
theorem top_at {W : Wd} (s : Sm W) {d : D} {v : V} {p : PyData} (r : Rep W d v) (e : topPy W.h d = some p) : Dp W.pa.K W.H v p := by
  cases d with
  | ref n =>
    have key : ∀ xs : List D, lstOf W.h (.ref n) = some xs → toPy (.lst xs) = some p → Dp W.pa.K W.H v p := fun xs h1 h2 => by
      obtain ⟨a, vs, rfl, hs, q⟩ := lst_at s r h1
      unfold toPy at h2
      cases h3 : toPys xs with
      | none =>
        rw [h3] at h2
        cases h2
      | some ys =>
        rw [h3] at h2
        cases h2
        exact .lst (SqL.of hs) (pys_at q h3)
    cases hc : getC W.h n with
    | lst xs =>
      simp only [topPy, hc] at e
      exact key xs (by simp only [lstOf, hc]) e
    | lck xs =>
      simp only [topPy, hc] at e
      exact key xs (by simp only [lstOf, hc]) e
    | ins c fs =>
      simp only [topPy, hc] at e
      cases e
    | dead =>
      simp only [topPy, hc] at e
      cases e
  | _ => exact py_at r e

/-! ### steps of the world -/
theorem Sm.tracked {W : Wd} (s : Sm W) {n : Nat} {a : Addr} (h : W.ms[n]? = some (some a)) : ∃ o, W.H a = some o := by
  have c := s.cel n a h
  cases hc : getC W.h n with
  | lst xs =>
    rw [hc] at c
    obtain ⟨vs, e, _⟩ := c
    exact ⟨_, e⟩
  | lck xs =>
    rw [hc] at c
    obtain ⟨vs, e, _⟩ := c
    exact ⟨_, e⟩
  | ins k fs =>
    rw [hc] at c
    obtain ⟨_, dx, gs, e, _⟩ := c
    exact ⟨_, e⟩
  | dead =>
    rw [hc] at c
    exact c.elim
theorem Sm.owT {W : Wd} (s : Sm W) {a : Addr} (h : ow W a) : ∃ o, W.H a = some o := by
  rcases h with h | ⟨n, h⟩
  · cases e : W.H a with
    | none => exact absurd e (s.tmp a h).1
    | some o => exact ⟨o, rfl⟩
  · exact s.tracked h
def Wd.lay (W : Wd) (p : Addr) (o : HO) : Wd := { W with H := upd W.H p o }
theorem ow_lay {W : Wd} {p a : Addr} {o : HO} : ow (W.lay p o) a ↔ ow W a := Iff.rfl
/-- a new object that stays as it is -/
theorem go_lay {W : Wd} (s : Sm W) {p : Addr} {o : HO} (hp : W.H p = none) : Go W (W.lay p o) where
  pa := rfl
  T := rfl
  keep := fun a u h n => ⟨by
    show upd W.H p o a = some u
    rw [upd_ne (ne_of_none h hp)]
    exact h, n⟩
  trk := fun a u h => ⟨u, by
    show upd W.H p o a = some u
    rw [upd_ne (ne_of_none h hp)]
    exact h⟩
  tmp := fun a u _ h => by
    show upd W.H p o a = some u
    rw [upd_ne (ne_of_none h hp)]
    exact h
  len := Nat.le_refl _
  mono := fun _ _ h => .inl h
  lck := fun _ _ h => ⟨h, rfl, fun a u _ h => by
    show upd W.H p o a = some u
    rw [upd_ne (ne_of_none h hp)]
    exact h⟩
theorem CR.go {W W' : Wd} (g : Go W W') {a : Addr} {c : Cell} (h : CR W a c) (hH : W'.H a = W.H a) : CR W' a c := by
  cases c with
  | lst xs =>
    obtain ⟨vs, e, q⟩ := h
    exact ⟨vs, hH.trans e, RepA.go g _ _ q⟩
  | lck xs =>
    obtain ⟨vs, e, q⟩ := h
    exact ⟨vs, hH.trans e, RepA.go g _ _ q⟩
  | ins k fs =>
    obtain ⟨l, dx, gs, e, q⟩ := h
    exact ⟨by rw [g.pa]; exact l, dx, gs, by rw [g.pa]; exact hH.trans e, RepF.go g _ _ q⟩
  | dead => exact h.elim
theorem sm_lay {W : Wd} (s : Sm W) {p : Addr} {o : HO} (hp : W.H p = none) : Sm (W.lay p o) where
  len := s.len
  inj := s.inj
  cel := fun n a h => by
    obtain ⟨u, hu⟩ := s.tracked h
    exact (s.cel n a h).go (go_lay s hp) (upd_ne (ne_of_none hu hp))
  ded := s.ded
  tmp := fun a h => by
    obtain ⟨h1, h2⟩ := s.tmp a h
    refine ⟨?_, h2⟩
    show upd W.H p o a ≠ none
    cases e : W.H a with
    | none => exact absurd e h1
    | some u =>
      rw [upd_ne (ne_of_none e hp), e]
      intro z
      cases z
theorem not_ow_new {W : Wd} (s : Sm W) {p : Addr} (hp : W.H p = none) : ¬ ow W p := fun h => by
  obtain ⟨o, e⟩ := s.owT h
  rw [hp] at e
  cases e
def Wd.addT (W : Wd) (p : Addr) : Wd := { W with T := p :: W.T }
theorem ow_addT {W : Wd} {p a : Addr} : ow (W.addT p) a ↔ (a = p ∨ ow W a) := by
  constructor
  · rintro (h | h)
    · rcases List.mem_cons.mp (show a ∈ p :: W.T from h) with e | h
      · exact .inl e
      · exact .inr (.inl h)
    · exact .inr (.inr h)
  · rintro (e | h | h)
    · exact .inl (by rw [e]; exact List.mem_cons_self)
    · exact .inl (List.mem_cons_of_mem _ h)
    · exact .inr h
/-- behind a new object, the object itself set apart -/
theorem le_layT {W : Wd} (s : Sm W) {p : Addr} {o : HO} (hp : W.H p = none) : Le W ((W.lay p o).addT p) where
  pa := rfl
  keep := fun a u h n => ⟨by
    show upd W.H p o a = some u
    rw [upd_ne (ne_of_none h hp)]
    exact h, fun q => by
    rcases ow_addT.mp q with q | q
    · exact ne_of_none h hp q
    · exact n q⟩
  len := Nat.le_refl _
  mono := fun _ _ h => .inl h
/-- a new cell -/
def Wd.cell (W : Wd) (p : Addr) (o : HO) (c : Cell) : Wd := { W with H := upd W.H p o, ms := W.ms ++ [some p], h := W.h ++ [c] }
theorem getC_app {h : Sto} {c : Cell} {n : Nat} (hn : n < h.length) : getC (h ++ [c]) n = getC h n := by
  unfold getC
  rw [List.getD_eq_getElem?_getD, List.getD_eq_getElem?_getD, List.getElem?_append_left hn]
theorem getC_new {h : Sto} {c : Cell} : getC (h ++ [c]) h.length = c := by
  unfold getC
  rw [List.getD_eq_getElem?_getD, List.getElem?_append_right (Nat.le_refl _)]
  simp
theorem getC_out {h : Sto} {n : Nat} (hn : h.length ≤ n) : getC h n = .dead := by
  unfold getC
  rw [List.getD_eq_getElem?_getD, List.getElem?_eq_none hn]
  rfl
theorem getC_set {h : Sto} {c : Cell} {n : Nat} (hn : n < h.length) : getC (h.set n c) n = c := by
  unfold getC
  rw [List.getD_eq_getElem?_getD, List.getElem?_set_self hn]
  rfl
theorem getC_ne {h : Sto} {c : Cell} {n m : Nat} (hn : n ≠ m) : getC (h.set n c) m = getC h m := by
  unfold getC
  rw [List.getD_eq_getElem?_getD, List.getD_eq_getElem?_getD, List.getElem?_set_ne hn]
theorem lt_of_getC {h : Sto} {n : Nat} (e : getC h n ≠ .dead) : n < h.length := by
  rcases Nat.lt_or_ge n h.length with h1 | h1
  · exact h1
  · exact absurd (getC_out h1) e
theorem ms_app {ms : List (Option Addr)} {x : Option Addr} {n : Nat} {y : Option Addr} : (ms ++ [x])[n]? = some y ↔ (ms[n]? = some y ∨ (n = ms.length ∧ x = y)) := by
  by_cases h : n < ms.length
  · rw [List.getElem?_append_left h]
    constructor
    · exact .inl
    · rintro (q | ⟨q, _⟩)
      · exact q
      · omega
  · rw [List.getElem?_append_right (by omega)]
    by_cases h2 : n = ms.length
    · subst h2
      simp
    · have e : ms[n]? = none := List.getElem?_eq_none (by omega)
      rw [e, List.getElem?_eq_none (by simp; omega)]
      simp [h2]
theorem go_cell {W : Wd} (s : Sm W) {p : Addr} {o : HO} {c : Cell} (hp : W.H p = none) : Go W (W.cell p o c) where
  pa := rfl
  T := rfl
  keep := fun a u h n => by
    have ne := ne_of_none h hp
    refine ⟨?_, fun q => n ?_⟩
    · show upd W.H p o a = some u
      rw [upd_ne ne]
      exact h
    · rcases q with q | ⟨m, q⟩
      · exact .inl q
      · have q2 : (W.ms ++ [some p])[m]? = some (some a) := q
        rcases ms_app.mp q2 with q3 | ⟨_, q3⟩
        · exact .inr ⟨m, q3⟩
        · cases q3
          exact absurd rfl ne
  trk := fun a u h => ⟨u, by
    show upd W.H p o a = some u
    rw [upd_ne (ne_of_none h hp)]
    exact h⟩
  tmp := fun a u _ h => by
    show upd W.H p o a = some u
    rw [upd_ne (ne_of_none h hp)]
    exact h
  len := by
    show W.ms.length ≤ (W.ms ++ [some p]).length
    simp
  mono := fun n x h => .inl (ms_app.mpr (.inl h))
  lck := fun n xs h => by
    have hm : n < W.h.length := lt_of_getC (by rw [h]; intro z; cases z)
    refine ⟨?_, ?_, fun a u _ h => ?_⟩
    · show getC (W.h ++ [c]) n = .lck xs
      rw [getC_app hm]
      exact h
    · show (W.ms ++ [some p])[n]? = W.ms[n]?
      rw [List.getElem?_append_left (by rw [s.len]; exact hm)]
    · show upd W.H p o a = some u
      rw [upd_ne (ne_of_none h hp)]
      exact h
theorem sm_cell {W : Wd} (s : Sm W) {p : Addr} {o : HO} {c : Cell} (hp : W.H p = none) (hc : CR (W.cell p o c) p c) : Sm (W.cell p o c) where
  len := by
    show (W.ms ++ [some p]).length = (W.h ++ [c]).length
    simp [s.len]
  inj := fun i j a hi hj => by
    rcases ms_app.mp (show (W.ms ++ [some p])[i]? = some (some a) from hi) with h1 | ⟨h1, e1⟩
    · rcases ms_app.mp (show (W.ms ++ [some p])[j]? = some (some a) from hj) with h2 | ⟨h2, e2⟩
      · exact s.inj i j a h1 h2
      · cases e2
        obtain ⟨u, hu⟩ := s.tracked h1
        rw [hp] at hu
        cases hu
    · rcases ms_app.mp (show (W.ms ++ [some p])[j]? = some (some a) from hj) with h2 | ⟨h2, e2⟩
      · cases e1
        obtain ⟨u, hu⟩ := s.tracked h2
        rw [hp] at hu
        cases hu
      · omega
  cel := fun n a h => by
    rcases ms_app.mp (show (W.ms ++ [some p])[n]? = some (some a) from h) with h1 | ⟨h1, e1⟩
    · have hn : n < W.h.length := by rw [← s.len]; exact (List.getElem?_eq_some_iff.mp h1).1
      have e : getC (W.cell p o c).h n = getC W.h n := getC_app hn
      rw [e]
      obtain ⟨u, hu⟩ := s.tracked h1
      exact (s.cel n a h1).go (go_cell s hp) (upd_ne (ne_of_none hu hp))
    · cases e1
      have e : getC (W.cell p o c).h n = c := by
        show getC (W.h ++ [c]) n = c
        rw [h1, s.len, getC_new]
      rw [e]
      exact hc
  ded := fun n h => by
    rcases ms_app.mp (show (W.ms ++ [some p])[n]? = some none from h) with h1 | ⟨_, e1⟩
    · have hn : n < W.h.length := by rw [← s.len]; exact (List.getElem?_eq_some_iff.mp h1).1
      show getC (W.h ++ [c]) n = .dead
      rw [getC_app hn]
      exact s.ded n h1
    · cases e1
  tmp := fun a h => by
    obtain ⟨h1, h2⟩ := s.tmp a h
    refine ⟨?_, fun n q => ?_⟩
    · show upd W.H p o a ≠ none
      cases e : W.H a with
      | none => exact absurd e h1
      | some u =>
        rw [upd_ne (ne_of_none e hp), e]
        intro z
        cases z
    · rcases ms_app.mp (show (W.ms ++ [some p])[n]? = some (some a) from q) with q | ⟨_, q⟩
      · exact h2 n q
      · cases q
        exact h1 hp
/-- a cell's content changes -/
def Wd.put (W : Wd) (n : Nat) (a : Addr) (o : HO) (c : Cell) : Wd := { W with H := upd W.H a o, h := W.h.set n c }
theorem go_put {W : Wd} (s : Sm W) {n : Nat} {a : Addr} {o : HO} {c : Cell} (ha : W.ms[n]? = some (some a)) (hl : isLck (getC W.h n) = false) (hc : isLck c = false) : Go W (W.put n a o c) where
  pa := rfl
  T := rfl
  keep := fun b u h k => by
    have ne : b ≠ a := fun z => k (.inr ⟨n, by rw [z]; exact ha⟩)
    refine ⟨?_, k⟩
    show upd W.H a o b = some u
    rw [upd_ne ne]
    exact h
  trk := fun b u h => by
    by_cases e : b = a
    · exact ⟨o, by rw [e]; exact upd_same⟩
    · exact ⟨u, by
        show upd W.H a o b = some u
        rw [upd_ne e]
        exact h⟩
  tmp := fun b u m h => by
    have ne : b ≠ a := fun z => (s.tmp b m).2 n (by rw [z]; exact ha)
    show upd W.H a o b = some u
    rw [upd_ne ne]
    exact h
  len := Nat.le_refl _
  mono := fun _ _ h => .inl h
  lck := fun m xs h => by
    have hm : n ≠ m := fun z => by
      rw [z, h] at hl
      cases hl
    refine ⟨?_, rfl, fun b u hb hu => ?_⟩
    · show getC (W.h.set n c) m = .lck xs
      rw [getC_ne hm]
      exact h
    · have ne : b ≠ a := fun z => hm (s.inj n m a ha (by rw [← z]; exact hb))
      show upd W.H a o b = some u
      rw [upd_ne ne]
      exact hu
theorem sm_put {W : Wd} (s : Sm W) {n : Nat} {a : Addr} {o : HO} {c : Cell} (ha : W.ms[n]? = some (some a)) (hl : isLck (getC W.h n) = false) (hc : isLck c = false) (hr : CR (W.put n a o c) a c) : Sm (W.put n a o c) where
  len := by
    show W.ms.length = (W.h.set n c).length
    simp [s.len]
  inj := s.inj
  cel := fun m b h => by
    have hn : n < W.h.length := by rw [← s.len]; exact (List.getElem?_eq_some_iff.mp ha).1
    by_cases e : m = n
    · subst e
      have e2 : b = a := by
        have h2 : W.ms[m]? = some (some b) := h
        rw [ha] at h2
        cases h2
        rfl
      subst e2
      have e3 : getC (W.put m b o c).h m = c := getC_set hn
      rw [e3]
      exact hr
    · have e3 : getC (W.put n a o c).h m = getC W.h m := getC_ne (Ne.symm e)
      rw [e3]
      refine (s.cel m b h).go (go_put s ha hl hc) (upd_ne fun z => e ?_)
      exact s.inj m n a (by rw [← z]; exact h) ha
  ded := fun m h => by
    have hm : n ≠ m := fun z => by
      have h2 : W.ms[m]? = some none := h
      rw [← z, ha] at h2
      cases h2
    show getC (W.h.set n c) m = .dead
    rw [getC_ne hm]
    exact s.ded m h
  tmp := fun b h => by
    obtain ⟨h1, h2⟩ := s.tmp b h
    refine ⟨?_, h2⟩
    show upd W.H a o b ≠ none
    by_cases e : b = a
    · rw [e, upd_same]
      intro z
      cases z
    · rw [upd_ne e]
      exact h1
end Cl
/-! text ClC -/
set_option maxHeartbeats 1000007
/-! The codes against the text; what a code says holds of the text: expressions. -/
namespace Cl
open PySem L2

/-! ### names -/
/-- a default value -/
inductive Lt where
  | non | bl (b : Bool) | int (i : Int)
  deriving DecidableEq
def Lt.d : Lt → D
  | .non => .non
  | .bl b => .bl b
  | .int i => .int i
def Lt.v : Lt → L2.V
  | .non => .non
  | .bl b => .bl b
  | .int i => .int i
def litB : D → Lt → Bool
  | .non, .non => true
  | .bl b, .bl c => b == c
  | .int i, .int j => decide (i = j)
  | _, _ => false
def litsB : List D → List (Str × Lt) → Bool
  | [], [] => true
  | d :: ds, q :: qs => litB d q.2 && litsB ds qs
  | _, _ => false

structure Nm where
  fn : Nat → Option Str
  kws : Nat → List (Str × Lt)
  prop : Nat → Option (Nat × Str)
  cls : Nat → Option Str
  ini : Nat → Option Nat
  con : String → Bool
  free : String → Bool
  att : Str → Bool
  exc : Nat → Option (Str × Str)
structure Ct where
  N : List Str
  sc : Scope
  sto : Str → Bool
  blk : Bool := false
def visB (sc : Scope) (x : Str) : Bool := match sc.names.lookup x with
  | some .local => true
  | some .cell => true
  | some .free => true
  | _ => false
def glB (sc : Scope) (x : Str) : Bool := (match sc.names.lookup x with
  | some .globalImplicit => true
  | _ => false) && !(x == ("__debug__" : Str))
def okN (x : Str) : Bool := !(x == ("__debug__" : Str)) && !(x == ("__classdict__" : Str))
def opB : BOp → Operator
  | .add => .Add
  | .sub => .Sub
  | .mul => .Mult
  | .fdiv => .FloorDiv
  | .mod => .Mod
  | .pow => .Pow
def opC : COp → CmpOp
  | .eq => .Eq
  | .ne => .NotEq
  | .lt => .Lt
  | .le => .LtE
  | .gt => .Gt
  | .ge => .GtE
  | .isIn => .In
  | .notIn => .NotIn
def biN : BI → String
  | .len => "len"
  | .all => "all"
  | .any => "any"
  | .sum => "sum"
  | .max => "max"
  | .min => "min"
  | .tuple => "tuple"
  | .list => "list"
  | .int => "int"
def bmN : BM → String
  | .append => "append"
  | .pop => "pop"
  | .extend => "extend"
def tyN : Ty → String
  | .int => "int"
  | .bool => "bool"
  | .str => "str"
  | .list => "list"
  | .tuple => "tuple"
def notSlice : Expr → Bool
  | .Slice _ _ _ _ => false
  | _ => true
def baseOk : Expr → Bool
  | .Call _ [] [] _ => false
  | _ => true
def isLC : Expr → Bool
  | .ListComp _ _ _ _ => true
  | .SetComp _ _ _ _ => true
  | .DictComp _ _ _ _ _ => true
  | _ => false
def isTupE : Expr → Bool
  | .Tuple _ _ _ => true
  | .List _ _ => true
  | _ => false
def isStarE : Expr → Bool
  | .Starred _ _ => true
  | _ => false
def isSetE : Expr → Bool
  | .Set _ _ _ => true
  | _ => false
/-- a name of a built-in thing -/
def bltB (nm : Nm) (sc : Scope) (s : String) (e : Expr) : Bool := match e with
  | .Name x _ => (x == Str.ofString s) && glB sc x && nm.free s
  | _ => false
def blkCt (ct : Ct) (scope : Scope) : Ct where
  N := ct.N
  sc := relS scope ct.sc
  sto := fun x => match (relS scope ct.sc).names.lookup x with
    | some .local => true
    | some .cell => scope.names.lookup x == some .cell
    | _ => false
  blk := true
def ownOf (N : List Str) (vs : List Nat) : List (Str × Nat) := vs.map fun i => (N.getD i Str.empty, i)
mutual
def mtT (ct : Ct) (t : T) (e : Expr) : Bool := match t with
  | .nam i => (match e with
    | .Name x _ => decide (ct.N[i]? = some x) && ct.sto x
    | _ => false)
  | .tup ts => (match e with
    | .Tuple es _ _ => mtTs ct ts es
    | _ => false)
def mtTs (ct : Ct) (ts : List T) (es : List Expr) : Bool := match ts with
  | [] => es.isEmpty
  | t :: ts => (match es with
    | e :: es => !isStarE e && mtT ct t e && mtTs ct ts es
    | [] => false)
end
mutual
def idxIn (t : T) (vs : List Nat) : Bool := match t with
  | .nam i => vs.contains i
  | .tup ts => idxsIn ts vs
def idxsIn (ts : List T) (vs : List Nat) : Bool := match ts with
  | [] => true
  | t :: ts => idxIn t vs && idxsIn ts vs
end
def kwNames : List Keyword → List (Option Str)
  | [] => []
  | ⟨n, _, _⟩ :: r => n :: kwNames r
def kwVals : List Keyword → List Expr
  | [] => []
  | ⟨_, e, _⟩ :: r => e :: kwVals r
def litsOf : List E → Option (List D)
  | [] => some []
  | .lit d :: r => (litsOf r).map (d :: ·)
  | _ => none
def freshE : E → Bool
  | .lst _ => true
  | .bin _ _ _ => true
  | .slc _ _ _ => true
  | .comp _ _ _ _ _ => true
  | .rngT _ _ => true
  | .bi .list _ => true
  | .srt _ _ => true
  | _ => false
/-- its test is its value's truth -/
def tHead : Expr → Bool
  | .UnaryOp .Not _ _ => false
  | .BoolOp _ _ _ => false
  | .IfExp _ _ _ _ => false
  | .Compare _ _ _ _ => false
  | _ => true
def isTupT : Expr → Bool
  | .Tuple _ _ _ => true
  | _ => false
def mtTys (nm : Nm) (sc : Scope) : List Ty → List Expr → Bool
  | [], es => es.isEmpty
  | t :: ts, e :: es => bltB nm sc (tyN t) e && mtTys nm sc ts es
  | _ :: _, [] => false
mutual
def mtE (nm : Nm) (ct : Ct) (c : E) (e : Expr) : Bool := match c with
  | .var i => (match e with
    | .Name x _ => decide (ct.N[i]? = some x) && visB ct.sc x && okN x
    | _ => false)
  | .lit d => (match d, e with
    | .non, .Constant .none _ _ => true
    | .bl b, .Constant (.bool k) _ _ => b == k
    | .int i, .Constant (.int j) _ _ => decide (i = j)
    | .str s, .Constant (.str t) _ _ => decide (s = t)
    | _, _ => false)
  | .glo s => (match e with
    | .Name x _ => decide (x = Str.ofString s) && glB ct.sc x && nm.con s
    | _ => false)
  | .bin o a b => (match e with
    | .BinOp l op r _ => decide (op = opB o) && mtE nm ct a l && mtE nm ct b r
    | _ => false)
  | .neg a => (match e with
    | .UnaryOp .USub l _ => mtE nm ct a l
    | _ => false)
  | .cmp o a b => (match e with
    | .Compare l [op] [r] _ => decide (op = opC o) && !(behindInMarks op r) && mtE nm ct a l && mtE nm ct b r
    | _ => false)
  | .chain o1 o2 a b c => (match e with
    | .Compare l [p1, p2] [m, r] _ => decide (p1 = opC o1) && decide (p2 = opC o2) && !(lastMarks [p1, p2] [m, r]) && mtE nm ct a l && mtE nm ct b m && mtE nm ct c r
    | _ => false)
  | .isN a => (match e with
    | .Compare l [.Is] [.Constant .none _ _] _ => mtE nm ct a l
    | _ => false)
  | .notN a => (match e with
    | .Compare l [.IsNot] [.Constant .none _ _] _ => mtE nm ct a l
    | _ => false)
  | .not a => (match e with
    | .UnaryOp .Not l _ => mtE nm ct a l
    | _ => false)
  | .and cs => (match e with
    | .BoolOp .And es _ => !es.isEmpty && mtEs nm ct cs es
    | _ => false)
  | .or cs => (match e with
    | .BoolOp .Or es _ => !es.isEmpty && mtEs nm ct cs es
    | _ => false)
  | .ite t a b => (match e with
    | .IfExp x y z _ => mtE nm ct t x && mtE nm ct a y && mtE nm ct b z
    | _ => false)
  | .tup cs => (match e with
    | .Tuple es _ _ => mtEs nm ct cs es
    | _ => false)
  | .lst cs => (match e with
    | .List es _ => mtEs nm ct cs es
    | _ => false)
  | .ix a i => (match e with
    | .Subscript x y _ => notSlice y && mtE nm ct a x && mtE nm ct i y
    | _ => false)
  | .slc a lo hi => (match e with
    | .Subscript x (.Slice l h none _) _ => mtE nm ct a x && mtO nm ct lo l && mtO nm ct hi h
    | _ => false)
  | .fld a f => (match e with
    | .Attribute x g _ => decide (f = g) && nm.att f && baseOk x && mtE nm ct a x
    | _ => false)
  | .prop k f a => (match e with
    | .Attribute x g _ => baseOk x && mtE nm ct a x && (match nm.prop f with
      | some (c, y) => decide (y = g) && (c == k)
      | none => false)
    | _ => false)
  | .call f cs ds => (match e with
    | .Call (.Name x _) es [] _ => glB ct.sc x && decide (nm.fn f = some x) && litsB ds (nm.kws f) && mtEs nm ct cs es
    | _ => false)
  | .callK f cs ks => (match e with
    | .Call (.Name x _) (e1 :: es) (k1 :: kws) _ => glB ct.sc x && decide (nm.fn f = some x) && decide (kwNames (k1 :: kws) = (nm.kws f).map fun q => some q.1) && mtEs nm ct cs (e1 :: es) && mtEs nm ct ks (kwVals (k1 :: kws))
    | _ => false)
  | .mk k f cs ds => (match e with
    | .Call (.Name x _) (e1 :: es) [] _ => glB ct.sc x && decide (nm.cls k = some x) && decide (nm.ini f = some k) && litsB ds (nm.kws f) && mtEs nm ct cs (e1 :: es)
    | _ => false)
  | .mkK k f cs ks => (match e with
    | .Call (.Name x _) (e1 :: es) (k1 :: kws) _ => glB ct.sc x && decide (nm.cls k = some x) && decide (nm.ini f = some k) && decide (kwNames (k1 :: kws) = (nm.kws f).map fun q => some q.1) && mtEs nm ct cs (e1 :: es) && mtEs nm ct ks (kwVals (k1 :: kws))
    | _ => false)
  | .stop => true
  | .bi b cs => (match e with
    | .Call g es [] _ => bltB nm ct.sc (biN b) g && mtEs nm ct cs es
    | _ => false)
  | .bm m o cs => (match e with
    | .Call (.Attribute x n p) es [] q => decide (n = Str.ofString (bmN m)) && baseOk x && (p.endLine == q.line) && decide (es.length < 30) && mtE nm ct o x && mtEs nm ct cs es
    | _ => false)
  | .isi a ts => (match e with
    | .Call g [x, y] [] _ => bltB nm ct.sc "isinstance" g && !isStarE x && mtE nm ct a x && (match y with
      | .Tuple es _ _ => (match ts with
        | [_] => false
        | ts => decide (es.length < 30) && mtTys nm ct.sc ts es)
      | y => (match ts with
        | [t] => bltB nm ct.sc (tyN t) y
        | _ => false))
    | _ => false)
  | .rngT t cs => (match e with
    | .Call g [.Call h es [] _] [] _ => bltB nm ct.sc (if t then "tuple" else "list") g && bltB nm ct.sc "range" h && decide (es.length = 1 ∨ es.length = 2) && mtEs nm ct cs es
    | _ => false)
  | .comp tg it cond elt vs => (match e with
    | .ListComp el [⟨tt, ii, ifs, k⟩] scope _ => decide (k = 0) && blkC ct.N ct.sc scope (ownOf ct.N vs) && idxIn tg vs && !isSetE ii && mtI nm ct it tt ii && mtT (blkCt ct scope) tg tt && mtE nm (blkCt ct scope) elt el && (match cond, ifs with
      | none, [] => true
      | some c, [x] => mtE nm (blkCt ct scope) c x
      | _, _ => false)
    | _ => false)
  | .srt b a => (match e with
    | .Call g [x] [⟨some n, .Constant (.bool q) _ _, _⟩] _ => bltB nm ct.sc "sorted" g && (n == Str.ofString "reverse") && (b == q) && !isStarE x && mtE nm ct a x
    | _ => false)
  | .isB n a b => (match e with
    | .Compare l [op] [.Constant (.bool q) _ _] _ => (match n, op with
      | false, .Is => true
      | true, .IsNot => true
      | _, _ => false) && (b == q) && mtE nm ct a l
    | _ => false)
  | .new a => tHead e && freshE a && mtE nm ct a e
  | .frz a => tHead e && mtE nm ct a e
def mtEs (nm : Nm) (ct : Ct) (cs : List E) (es : List Expr) : Bool := match cs with
  | [] => es.isEmpty
  | c :: cs => (match es with
    | e :: es => !isStarE e && mtE nm ct c e && mtEs nm ct cs es
    | [] => false)
def mtO (nm : Nm) (ct : Ct) (c : Option E) (e : Option Expr) : Bool := match c with
  | none => e.isNone
  | some c => (match e with
    | some e => mtE nm ct c e
    | none => false)
def mtI (nm : Nm) (ct : Ct) (it : I) (tg e : Expr) : Bool := match it with
  | .seq c => mtE nm ct c e
  | .rng cs => (match e with
    | .Call g es [] _ => bltB nm ct.sc "range" g && decide (es.length = 1 ∨ es.length = 2) && mtEs nm ct cs es
    | _ => false)
  | .enm c => isTupT tg && (match e with
    | .Call g [x] [] _ => bltB nm ct.sc "enumerate" g && !isStarE x && mtE nm ct c x
    | _ => false)
  | .zip a b => isTupT tg && (match e with
    | .Call g [x, y] [] _ => bltB nm ct.sc "zip" g && !isStarE x && !isStarE y && mtE nm ct a x && mtE nm ct b y
    | _ => false)
end
/-- the code of a comprehension, as it is or as an own list -/
def isCompC : E → Bool
  | .comp _ _ _ _ _ => true
  | .new (.comp _ _ _ _ _) => true
  | _ => false
def isFunK : ScopeKind → Bool
  | .function => true
  | _ => false
/-- name = [..]: swapped, or not -/
def swapY (sc : Scope) (y : Str) (py : Pos) (e : Expr) : Bool := match e with
  | .ListComp _ _ scope p => isFunK sc.kind && (match sc.names.lookup y with
    | some .local => true
    | _ => false) && (py.line == p.line) && !(scope.names.any fun q => q.1 == y && (q.2 == .local || q.2 == .cell))
  | _ => false
def swapN (sc : Scope) (y : Str) (e : Expr) : Bool := match e with
  | .ListComp _ _ _ _ => (match sc.names.lookup y with
    | some .cell => true
    | _ => false)
  | e => !isLC e
/-- what a clause returns -/
def mtHn (n f : Str) (k : Hn) (e : Expr) : Bool := match k, e with
  | .val, .Attribute (.Name m _) g _ => (m == n) && (g == f)
  | .tag s, .Tuple [.Constant (.str t) _ _, .Attribute (.Name m _) g _] _ _ => (s == t) && (m == n) && (g == f)
  | _, _ => false
def mtHs (nm : Nm) (ct : Ct) (hs : List (Nat × Hn)) (hds : List ExceptHandler) : Bool := match hs with
  | [] => hds.isEmpty
  | (c, k) :: hs => (match hds with
    | .ExceptHandler (some (.Name x _)) (some n) [.Return (some e) _] _ :: hds => glB ct.sc x && okN n && (match nm.exc c with
      | some (y, f) => (x == y) && mtHn n f k e
      | none => false) && (match ct.sc.names.lookup n with
      | some .local => true
      | _ => false) && ct.N.contains n && mtHs nm ct hs hds
    | _ => false)
mutual
def mtS (nm : Nm) (ct : Ct) (c : S) (st : Stmt) : Bool := match c with
  | .asg t c => (match st with
    | .Assign [tg] e _ => (match tg with
      | .Name y py => mtT ct t tg && mtE nm ct c e && (swapN ct.sc y e || (isCompC c && swapY ct.sc y py e))
      | .Tuple _ _ _ => mtT ct t tg && mtE nm ct c e && !isTupE e
      | _ => false)
    | _ => false)
  | .setIx a i c => (match st with
    | .Assign [.Subscript x y _] e _ => mtE nm ct a x && notSlice y && mtE nm ct i y && mtE nm ct c e
    | _ => false)
  | .setFld a f c => (match st with
    | .Assign [.Attribute x g _] e _ => decide (f = g) && nm.att f && mtE nm ct a x && mtE nm ct c e
    | _ => false)
  | .aug i o c => (match st with
    | .AugAssign (.Name y _) op e _ => decide (ct.N[i]? = some y) && ct.sto y && mtE nm ct c e && (match o, op with
      | .add, .Add => true
      | .sub, .Sub => true
      | _, _ => false)
    | _ => false)
  | .ret c => (match st with
    | .Return (some e) _ => mtE nm ct c e
    | _ => false)
  | .retN => (match st with
    | .Return none _ => true
    | _ => false)
  | .ifs c a b => (match st with
    | .If e x y _ => mtE nm ct c e && mtSs nm ct a x && mtSs nm ct b y
    | _ => false)
  | .for_ t it b => (match st with
    | .For tg e x [] _ => !isSetE e && mtI nm ct it tg e && mtT ct t tg && mtSs nm ct b x
    | _ => false)
  | .whl c b => (match st with
    | .While e x [] _ => mtE nm ct c e && mtSs nm ct b x
    | _ => false)
  | .expr c => (match st with
    | .Expr e _ => !isLC e && mtE nm ct c e
    | _ => false)
  | .brk => (match st with
    | .Break _ => true
    | _ => false)
  | .cnt => (match st with
    | .Continue _ => true
    | _ => false)
  | .pass => (match st with
    | .Pass _ => true
    | .Expr (.Constant (.str _) _ _) _ => true
    | _ => false)
  | .stop => true
  | .rse c _ a => (match st with
    | .Raise (some (.Call (.Name x _) [e] [] _)) none _ => glB ct.sc x && (match nm.exc c with
      | some (y, _) => x == y
      | none => false) && !isStarE e && mtE nm ct a e
    | _ => false)
  | .trA b hs => (match st with
    | .Try body (h0 :: hds) [] [] _ => !ct.blk && mtSs nm ct b body && mtHs nm ct hs (h0 :: hds)
    | _ => false)
def mtSs (nm : Nm) (ct : Ct) (cs : List S) (st : List Stmt) : Bool := match cs with
  | [] => st.isEmpty
  | c :: cs => (match st with
    | s :: st => mtS nm ct c s && mtSs nm ct cs st
    | [] => false)
end
end Cl
/-! text ClCa -/
set_option maxHeartbeats 2000007
/-! Own exceptions over Exception that keep one field: made, raised. -/
namespace PySem
namespace CEX
open PySem.W PySem.Calls PyProof.Rows PySem.HandSPX PySem.ESX
section
open Builtin Builtin.ObjectAttr
variable {prog : Program} {w : World} {A : Around} {E : Value → Shared → Prop} {R : Result → Shared → Prop} {hp : Heap} {g : Array GenState} {d : Drawn} {t : Nat} {os : OsState}
theorem osa_first {K : W.Frag} {name : Str} {tk : Tok} {v : Value} {x C : Addr} {fv : Array Value} {cd : ClassData}
    (X : K.In hp) (hx : hp.get? x = some { cls := .ref C, data := .fields fv }) (ov : W.excOver K C exTail = true) (hcd : W.clsIn K C = some cd) (hh : cd.hasDict = true) (ht : W.takerIn K C name = some none)
    (hq : ∀ h' tk' dx, (∀ b o, b ≠ x → hp.get? b = some o → h'.get? b = some o) → hp.objs.size ≤ dx → dx ≠ x → h'.get? x = some { cls := .ref C, dict := some dx, data := .fields fv } →
      h'.Ns1 dx (fun y => if y = name then some v else none) → R (.ok (.ret .none)) ⟨h', g, d, tk', os⟩) :
    codeAny (model prog w) A (.call (.builtin "object.__setattr__") ⟨[.ref x, .str name tk, v], []⟩) R ⟨hp, g, d, t, os⟩ := by
  have I : W.InstAt hp x { cls := .ref C, data := .fields fv } C none := ⟨hx, rfl, rfl, trivial⟩
  have hxs : x ≠ hp.objs.size := Nat.ne_of_lt (Heap.lt_size hx)
  refine W.osa_openX (s := ⟨hp, g, d, t, os⟩) F.store_Exception X I ov ht fun b => ?_
  have hcls : W.Looks (model prog w) hp (classData C) cd := W.looks_clsIn X hcd
  obtain ⟨nm, bs, mro, ns, qn, hd, sn, sb, ab, col, del⟩ := cd
  dsimp only at hh
  subst hh
  dsimp only
  unfold storeInOwnDict ownDictForStores
  repeat (first | with_reducible refine HandSPX.store_in_new ?_ ?_ | with_reducible refine wpAny_loadPart_at hx ?_ | with_reducible refine hcls.at ?_ | wp_step)
  · exact ⟨_, #[], _, (Heap.get?_update_ne _ _ _ _ hxs.symm).trans (Heap.get?_push_at rfl rfl), rfl, fun e he => absurd he (by simp), fun _ => rfl⟩
  · intro h' tk' hn' hs
    have hx₁ : (hp.push { cls := .type "dict", data := .dict #[] }).get? x = some { cls := .ref C, data := .fields fv } := Heap.get?_push_of_some _ hx
    refine hq h' tk' hp.objs.size (fun b o hb ho => ?_) (Nat.le_refl _) hxs.symm ?_ hn'
    · exact (hs.2 b (Nat.ne_of_lt (Heap.lt_size ho))).trans ((Heap.get?_update_ne _ _ _ _ hb).trans (Heap.get?_push_of_some _ ho))
    · exact (hs.2 x hxs).trans (Heap.get?_update_self _ hx₁ rfl)
end
end CEX
end PySem
namespace Cl
open PySem PySem.Spec PyProof.Rows L2
/-- what is known of an own exception class at C; fI: its __init__, f: the field that it keeps -/
structure ExF (K : PySem.W.Frag) (C fI : Addr) (f : Str) : Prop where
  q : PySem.W.excInitIn K C PySem.ESX.exTail "Exception.__new__" = true
  ov : PySem.W.excOver K C PySem.ESX.exTail = true
  tk : PySem.W.takerIn K C f = some none
  cl : ∃ cd, PySem.W.clsIn K C = some cd ∧ cd.hasDict = true
  sa : PySem.W.findIn K (.ref C) "__setattr__" = some (some (.builtin "object.__setattr__"))
  exC : PySem.W.subIn K (.ref C) (.type "BaseException") = some true
  tyC : PySem.W.typeIn K (.ref C) = some (.type "type")
  kC : PySem.W.keepIn K (.ref C) = true
  ini : PySem.W.findIn K (.ref C) "__init__" = some (some (.ref fI))
  tI : PySem.W.typeIn K (.ref fI) = some (.type "function")
  no : PySem.W.findIn K (.ref C) f = some none
  xf : XfC K C
def exFB (K : PySem.W.Frag) (C fI : Addr) (f : Str) : Bool :=
  PySem.W.excInitIn K C PySem.ESX.exTail "Exception.__new__" && PySem.W.excOver K C PySem.ESX.exTail && decide (PySem.W.takerIn K C f = some none) &&
  (match PySem.W.clsIn K C with
  | some cd => cd.hasDict
  | none => false) &&
  decide (PySem.W.findIn K (.ref C) "__setattr__" = some (some (.builtin "object.__setattr__"))) && decide (PySem.W.subIn K (.ref C) (.type "BaseException") = some true) &&
  decide (PySem.W.typeIn K (.ref C) = some (.type "type")) && PySem.W.keepIn K (.ref C) && decide (PySem.W.findIn K (.ref C) "__init__" = some (some (.ref fI))) &&
  decide (PySem.W.typeIn K (.ref fI) = some (.type "function")) && decide (PySem.W.findIn K (.ref C) f = some none) && xfB K C
theorem exFB_ok {K : PySem.W.Frag} {C fI : Addr} {f : Str} (h : exFB K C fI f = true) : ExF K C fI f := by
  obtain ⟨h, h12⟩ := Bool.and_eq_true_iff.mp h
  obtain ⟨h, h11⟩ := Bool.and_eq_true_iff.mp h
  obtain ⟨h, h10⟩ := Bool.and_eq_true_iff.mp h
  obtain ⟨h, h9⟩ := Bool.and_eq_true_iff.mp h
  obtain ⟨h, h8⟩ := Bool.and_eq_true_iff.mp h
  obtain ⟨h, h7⟩ := Bool.and_eq_true_iff.mp h
  obtain ⟨h, h6⟩ := Bool.and_eq_true_iff.mp h
  obtain ⟨h, h5⟩ := Bool.and_eq_true_iff.mp h
  obtain ⟨h, h4⟩ := Bool.and_eq_true_iff.mp h
  obtain ⟨h, h3⟩ := Bool.and_eq_true_iff.mp h
  obtain ⟨h1, h2⟩ := Bool.and_eq_true_iff.mp h
  refine ⟨h1, h2, of_decide_eq_true h3, ?_, of_decide_eq_true h5, of_decide_eq_true h6, of_decide_eq_true h7, h8, of_decide_eq_true h9, of_decide_eq_true h10, of_decide_eq_true h11, xfB_ok h12⟩
  cases e : PySem.W.clsIn K C with
  | none => rw [e] at h4; cases h4
  | some cd => rw [e] at h4; exact ⟨cd, rfl, h4⟩
section
variable {X : Cx} {pins : List (Addr × Obj)} {σ : L2.St} {H : Hp} {s : Shared} {a C fI dx : Addr} {f : Str} {y : V} {u : Value} {fs : List (Str × V)} {Q : Unit → Shared → Prop} {E : Value → Shared → Prop} {A : Around}
theorem ost_first (T : ExF X.K C fI f) (I : Inv X pins σ H s) (e : H a = some (exo a C none)) (ry : RelV y u)
    (h : ∀ dx s', H dx = none → dx ≠ a → Inv X pins σ (upd (upd H dx (exd dx [(f, y)])) a (exo a C (some dx))) s' → Q () s') : wpAny (model X.prog X.w) A (setAttr (.ref a) f u) Q E s := by
  obtain ⟨cd, hcl, hdd⟩ := T.cl
  obtain ⟨t1, ho⟩ := exo_at I.hok e
  obtain ⟨hp, g, d, t, os⟩ := s
  refine PySem.W.set_plain I.kIn (ox := { cls := .ref C, dict := none, data := .fields #[.ref t1, .none, .none, .none, .bool false, .none] }) (od := none) ⟨ho, rfl, rfl, trivial⟩ T.sa ?_
  refine PySem.CEX.osa_first I.kIn ho T.ov hcl hdd T.tk (fun h' tk' dx k dn dne hx hn => ?_)
  have hnd : H dx = none := I.hok.fresh dn
  have nd : ∀ {b : Addr} {o : Obj}, hp.get? b = some o → b ≠ dx := fun {b o} q => Nat.ne_of_lt (Nat.lt_of_lt_of_le (Heap.lt_size q) dn)
  have na : ∀ {b : Addr}, H b = none → b ≠ a := fun {b} n z => by
    rw [z, e] at n
    cases n
  have Un1 : Un X.fs [] H (upd (upd H dx (exd dx [(f, y)])) a (exo a C (some dx))) hp h' := {
    keep := fun b o q n _ _ => k b o (na n) q
    slot := fun b o q n _ _ => ⟨o.slots, k b o (na n) q⟩
    free := fun b o q n _ => by rw [upd_ne (na n), upd_ne (nd q)]; exact n
    there := fun b o q _ => by
      by_cases hb : b = a
      · exact ⟨_, by rw [hb]; exact hx⟩
      · exact ⟨o, k b o hb q⟩
    tups := fun b xs q => by rw [upd_ne (at_ne e q exo_tup), upd_ne (ne_of_none q hnd)]; exact q
    frzs := fun b o v q => by rw [upd_ne (at_ne e q exo_frz), upd_ne (ne_of_none q hnd)]; exact q
    tbls := fun b ps q => ⟨#[], by rw [upd_ne (at_ne e q exo_tbl), upd_ne (ne_of_none q hnd), q]; simp⟩ }
  refine h dx _ hnd dne (I.un (t' := tk') Un1 fun b o q => ?_)
  by_cases hb : b = a
  · subst hb
    rw [upd_same] at q
    cases q
    exact exo_ok hx
  · rw [upd_ne hb] at q
    by_cases hd : b = dx
    · subst hd
      rw [upd_same] at q
      cases q
      exact exd_ok hn (relO_put (fs := []) ry fun g => True.intro)
    · rw [upd_ne hd] at q
      exact (I.hok b o q).stay (fun c v hc z => k c v (by
          rcases hc with hc | hc
          · rw [hc]
            exact hb
          · exact at_ne e hc exo_own) z)
        (fun c hc => by rw [upd_ne (at_ne e hc exo_own), upd_ne (ne_of_none hc hnd)]; exact hc) (fun c xs hc => by rw [upd_ne (at_ne e hc exo_tup), upd_ne (ne_of_none hc hnd)]; exact hc)
end
/-- self.f = y in an exception that is made -/
def tFst (K : PySem.W.Frag) (f : Str) (to te : TE) : TS := fun D σ H => te σ H fun y H1 => to σ H1 fun x H2 => ∃ a C fI : Addr, x = .ref a ∧ ExF K C fI f ∧ H2 a = some (exo a C none) ∧
  ∀ dx, H2 dx = none → dx ≠ a → D.nx σ (upd (upd H2 dx (exd dx [(f, y)])) a (exo a C (some dx)))
section
variable {X : Cx} {o e : Expr} {es : List Expr} {to te : TE} {ta : TA} {f : Str} {p p' p1 p2 pos : Pos}
theorem ps_first (ho : PE X o to) (he : PE X e te) (hs : swapsWith e (some (.Attribute o f p')) pos.line X.env = pure false := by rfl) : PS X (.Assign [.Attribute o f p'] e pos) (tFst X.K f to te) := by
  refine ⟨fun pins s σ H D I h => ?_⟩
  refine plainObj_wpAny_Assign_Attribute (thn (he.run pins s σ H _ I h) fun v s1 ⟨y, H1, I1, r1, q1⟩ => thn (ho.run pins s1 σ H1 _ I1 q1) fun u s2 ⟨x, H2, I2, r2, a, C, fI, ex, T, ea, q⟩ => ?_) hs
  subst ex
  obtain rfl : u = Value.ref a := r2
  exact ost_first T I2 ea r1 fun dx s' n ne J => ⟨σ, _, J, q dx n ne⟩
/-- the wish of an exception's __init__ -/
def exSp (C : Addr) (f : Str) : Sp := fun vs H Q _ => ∃ a y, vs = [.ref a, y] ∧ H a = some (exo a C none) ∧ ∀ dx, H dx = none → dx ≠ a → Q .non (upd (upd H dx (exd dx [(f, y)])) a (exo a C (some dx)))
/-- C(y): the exception with its field -/
theorem pmk_first {CX : CXT} {x : Str} {C fI : Addr} {k : Nat} {fd : FuncData} {ps : List Str} (T : ExF X.K C fI f) (F1 : FnOk X.prog X.w X.K X.mg X.base CX k fI fd ps (exSp C f)) (hr : Room (k + 1) X.A) (hb : Binds X.K fd ps [])
    (hx : Passes CX X (fun _ _ _ => False)) (hg : Gl X x) (hm : X.mg x = some (.ref C)) (ha : PA X [e] ta) (hst : isStarE e = false) (hdb : (x == ("__debug__" : Str)) = false) :
    PMk X (.Call (.Name x p) [e] [] pos) (fun σ H Q => ta σ H fun vs H1 => ∃ y, vs = [y] ∧ ∀ d, H1 d = none → Q (.ref C) (some d) (upd H1 d (.xd [(f, y)]))) := by
  intro pins s σ H Q I h
  have he : starEach [e] X.env = (false, eval e X.env) :: starEach [] X.env := by
    cases e <;> first | rfl | cases hst
  refine wpAny_Call_Name_kw (ld_glob I hg hm ?_ hdb)
  refine PySem.W.callWith_K (h₀ := X.base) I.ok.mod.kin T.kC (thn (ha.run pos pins s σ H _ I h) fun us s1 ⟨vs, H1, I1, r1, y, ev, q1⟩ => ⟨I1.kIn, ?_⟩) he (by rfl)
  subst ev
  show wpAny _ _ (call (.ref C) us) _ _ _
  obtain ⟨hp, g, dr, tk, os⟩ := s1
  obtain ⟨nm, N, q, bs, bm, hdct, sn, sub, ab, col, dd, k0, k1, k2, k3, k5, hC, hT⟩ := PySem.W.excInit_of I1.kIn T.q
  have hsz : hp.objs.size ≤ hp.objs.size + 1 := Nat.le_succ _
  have hn : H1 (hp.objs.size + 1) = none := I1.hok.fresh hsz
  have kk : ∀ b o, hp.get? b = some o → ((hp.push (PySem.W.kdv_tup us)).push (PySem.HandSPX.excO C hp.objs.size)).get? b = some o := fun b o e => Heap.get?_push_of_some _ (Heap.get?_push_of_some _ e)
  have hget : ((hp.push (PySem.W.kdv_tup us)).push (PySem.HandSPX.excO C hp.objs.size)).get? (hp.objs.size + 1) = some (PySem.HandSPX.excO C hp.objs.size) := by heap_get
  have I2 : Inv X pins σ (upd H1 (hp.objs.size + 1) (exo (hp.objs.size + 1) C none)) ⟨(hp.push (PySem.W.kdv_tup us)).push (PySem.HandSPX.excO C hp.objs.size), g, dr, tk, os⟩ :=
    I1.laid (t' := tk) (a := hp.objs.size + 1) (o := exo (hp.objs.size + 1) C none) (h' := (hp.push (PySem.W.kdv_tup us)).push (PySem.HandSPX.excO C hp.objs.size)) kk hsz (exo_ok hget)
  have r2 : Vals [V.ref (hp.objs.size + 1), y] (Value.ref (hp.objs.size + 1) :: us ++ []) := .cons rfl (show Vals [y] (us ++ []) by rw [List.append_nil]; exact r1)
  have hq : exSp C f [V.ref (hp.objs.size + 1), y] (upd H1 (hp.objs.size + 1) (exo (hp.objs.size + 1) C none)) (fun v H2 => v = .non ∧ ∃ d, H1 d = none ∧ d ≠ hp.objs.size + 1 ∧ H2 = upd (upd (upd H1 (hp.objs.size + 1) (exo (hp.objs.size + 1) C none)) d (exd d [(f, y)])) (hp.objs.size + 1) (exo (hp.objs.size + 1) C (some d))) (fun _ _ _ => False) :=
    ⟨_, y, rfl, upd_same, fun dx n ne => ⟨rfl, dx, by rw [upd_ne ne] at n; exact n, ne, rfl⟩⟩
  have hl : (Value.ref (hp.objs.size + 1) :: us ++ []).length = ps.length := by
    have e := r2.length
    rw [F1.len _ _ _ _ hq] at e
    exact e.symm
  have hus : us.length ≤ sizeLine := by
    rw [← Paired.length r1, sizeLine_eq]
    simp
  refine wpAny_call (PySem.HandSPX.call_own F.excBase_Exception hT hC (PySem.W.looks_findIn I1.kIn T.ini) (fun self => PySem.W.bind_fn I1.kIn self T.tI) hus
    (codeAny_mono (F1.run _ X.stack _ _ ⟨Value.ref (hp.objs.size + 1) :: us, []⟩ (Value.ref (hp.objs.size + 1) :: us ++ []) _ _ (fun _ _ _ => False) (hr.make C us []) (I2.env0.make C us []) (hb _ (Value.ref (hp.objs.size + 1) :: us) I2.kIn hl) r2 hq) fun r s' hq' => ?_))
  cases r with
  | error er => exact hx pins σ _ _ er s' I2 hq'
  | ok fl =>
    cases fl with
    | ret u =>
      obtain ⟨v, H2, os2, bare2, un2, hok2, rv, ev, d, hd1, hne, e2⟩ := hq'
      subst ev
      subst e2
      obtain ⟨h2, g2, d2, t2, os'⟩ := s'
      have eq : upd (del (upd (upd (upd H1 (hp.objs.size + 1) (exo (hp.objs.size + 1) C none)) d (exd d [(f, y)])) (hp.objs.size + 1) (exo (hp.objs.size + 1) C (some d))) (hp.objs.size + 1)) d (.xd [(f, y)]) = upd H1 d (.xd [(f, y)]) := by
        funext b
        by_cases hb : b = d
        · rw [hb, upd_same, upd_same]
        · rw [upd_ne hb, upd_ne hb]
          by_cases hb2 : b = hp.objs.size + 1
          · rw [hb2, del_same, hn]
          · rw [del_ne hb2, upd_ne hb2, upd_ne hb, upd_ne hb2]
      exact ⟨rv, mk_end (raises_own T.exC T.tyC) I1 hsz kk un2 hok2 os2 bare2 upd_same (by rw [upd_ne hne, upd_same]) hd1 (by rw [eq]; exact q1 d hd1)⟩
    | next => exact False.elim hq'
    | brk => exact False.elim hq'
    | cont => exact False.elim hq'
end
end Cl
/-! text ClCb -/
set_option maxHeartbeats 1000007
/-! max of a tuple of integers. -/
namespace Cl
open PySem PySem.Spec PyProof.Rows L2 PySem.W
theorem maxOf_spec : ∀ (is : List Int) (m : Int), maxOf m is ∈ m :: is ∧ ∀ y, y ∈ m :: is → y ≤ maxOf m is
  | [], m => ⟨by simp [maxOf], fun y h => by simp at h; simp [maxOf, h]⟩
  | x :: xs, m => by
    have ih := maxOf_spec xs (if DatumOrd.lt m x = true then x else m)
    have e0 : maxOf m (x :: xs) = maxOf (if DatumOrd.lt m x = true then x else m) xs := rfl
    have el : (DatumOrd.lt m x = true) = (m < x) := by
      show (decide (m < x) = true) = _
      simp
    rw [e0]
    simp only [el] at ih ⊢
    generalize maxOf (if m < x then x else m) xs = r at ih ⊢
    obtain ⟨i1, i2⟩ := ih
    have i3 := i2 (if m < x then x else m) (by simp)
    refine ⟨?_, fun y hy => ?_⟩
    · rcases List.mem_cons.mp i1 with e | e
      · rw [e]
        split <;> simp
      · simp [e]
    · rcases List.mem_cons.mp hy with rfl | hy
      · split at i3 <;> omega
      · rcases List.mem_cons.mp hy with rfl | hy
        · split at i3 <;> omega
        · exact i2 y (List.mem_cons_of_mem _ hy)
theorem cr_maxT {X : Cx} (hc : X.calm = true) (hu : X.A.units + 65 < cLine) : CallR X (.builtin "max") (fun vs H Q => ∃ (a : Addr) (ns : List Int), vs = [V.ref a] ∧ SqT X.K H a (ns.map V.int) ∧ 0 < ns.length ∧ ∀ m, m ∈ ns → (∀ y, y ∈ ns → y ≤ m) → Q (.int m) H) := by
  intro pins s σ H vs us Q I r h
  obtain ⟨a, ns, rfl, hs, hne, q⟩ := h
  obtain ⟨its, rv, ht, _⟩ := I.tuple hs
  rw [Vals.ref1 r]
  have hi := rv.ints
  cases ns with
  | nil => cases hne
  | cons n ns =>
    obtain ⟨o, ho, hc2, nn, hd⟩ := ht
    have hT : s.heap.IsTuple a its.toArray := ⟨o, ho, hc2, nn, hd⟩
    refine max_tuple_datum (α := Int) (x := n) (xs := ns) (I.ok.hd hc) hT (by simpa using HoldAll.of_ints hi) (by show X.A.units + 1 + 0 < cLine; omega) fun i v h' tk hv hh hk => ?_
    obtain ⟨as, rr⟩ := hh
    have rr : Reads h' v (.int (maxOf n ns)) as := rr
    obtain ⟨m1, m2⟩ := maxOf_spec ns n
    cases rr with
    | int _ t => exact ⟨.int _, H, I.kept hk, ⟨_, rfl⟩, q _ m1 m2⟩
end Cl
/-! text ClD -/
set_option maxHeartbeats 1000007
/-! What a code says holds of the text: the frame, values. -/
namespace Cl
open PySem L2

/-! ### all readings at once -/
def tsE (X : Cx) (e : Expr) : TE := fun σ H Q => ∃ t, PE X e t ∧ t σ H Q
theorem pe_ts {X : Cx} {e : Expr} : PE X e (tsE X e) := ⟨fun pins s σ H Q I ⟨_, h, q⟩ => h.run pins s σ H Q I q⟩
def tsT (X : Cx) (e : Expr) : TT := fun σ H Q => ∃ t, PT X e t ∧ t σ H Q
theorem pt_ts {X : Cx} {e : Expr} : PT X e (tsT X e) := ⟨fun pins s σ H Q I ⟨_, h, q⟩ => h.run pins s σ H Q I q⟩
def tsW (X : Cx) (e : Expr) : TT := fun σ H Q => ∃ t, PW X e t ∧ t σ H Q
theorem pw_ts {X : Cx} {e : Expr} : PW X e (tsW X e) := ⟨fun whole pins s σ H Q I ⟨_, h, q⟩ => h.run whole pins s σ H Q I q⟩
def tsA (X : Cx) (es : List Expr) : TA := fun σ H Q => ∃ t, PA X es t ∧ t σ H Q
theorem pa_ts {X : Cx} {es : List Expr} : PA X es (tsA X es) := ⟨fun pos pins s σ H Q I ⟨_, h, q⟩ => h.run pos pins s σ H Q I q⟩
def tsO (X : Cx) (e : Option Expr) : TO := fun σ H Q => ∃ t, PO X e t ∧ t σ H Q
theorem po_ts {X : Cx} {e : Option Expr} : PO X e (tsO X e) := ⟨fun pins s σ H Q I ⟨_, h, q⟩ => h.run pins s σ H Q I q⟩
def tsG (X : Cx) (e : Expr) : TG := fun v σ H Q => ∃ t, PG X e t ∧ t v σ H Q
theorem pg_ts {X : Cx} {e : Expr} : PG X e (tsG X e) := ⟨fun pins s σ H v u Q I r ⟨_, h, q⟩ => h.run pins s σ H v u Q I r q⟩
def tsI (X : Cx) (tg e : Expr) : TI := fun σ H R => ∃ t, PI X tg e t ∧ t σ H R
theorem pi_ts {X : Cx} {tg e : Expr} : PI X tg e (tsI X tg e) := ⟨fun pins s σ H R I ⟨_, h, q⟩ => h.run pins s σ H R I q⟩
def tsS (X : Cx) (st : Stmt) : TS := fun D σ H => ∃ t, PS X st t ∧ t D σ H
theorem ps_ts {X : Cx} {st : Stmt} : PS X st (tsS X st) := ⟨fun pins s σ H D I ⟨_, h, q⟩ => h.run pins s σ H D I q⟩
def tsSs (X : Cx) (st : List Stmt) : TS := fun D σ H => ∃ t, PSs X st t ∧ t D σ H
theorem pss_ts {X : Cx} {st : List Stmt} : PSs X st (tsSs X st) := ⟨fun pins s σ H D I ⟨_, h, q⟩ => h.run pins s σ H D I q⟩
/-- all rules of an operation by values -/
def rs (X : Cx) (f : Value → Value → Sem Value) : R2 := fun x y H Q => ∃ r, OpR X f r ∧ r x y H Q
theorem op_rs {X : Cx} {f : Value → Value → Sem Value} : OpR X f (rs X f) := fun pins s σ H x y v u Q I rx ry ⟨_, h, q⟩ => h pins s σ H x y v u Q I rx ry q
def ri (X : Cx) : R2 := fun x y H Q => ∃ r, IxR X r ∧ r x y H Q
theorem ix_ri {X : Cx} : IxR X (ri X) := fun value slice pins s σ H x y v u Q I rx ry ⟨_, h, q⟩ => h value slice pins s σ H x y v u Q I rx ry q
def rc (X : Cx) (f : Value) : List V → Hp → VK → Prop := fun xs H Q => ∃ r, CallR X f r ∧ r xs H Q
theorem call_rc {X : Cx} {f : Value} : CallR X f (rc X f) := fun pins s σ H xs us Q I rx ⟨_, h, q⟩ => h pins s σ H xs us Q I rx q
def rl (X : Cx) : V → Option Int → Option Int → Hp → VK → Prop := fun x lo hi H Q => ∃ r, SlR X r ∧ r x lo hi H Q
theorem sl_rl {X : Cx} : SlR X (rl X) := fun pins s σ H x v vl vu lo hi sl Q I rx hs pl pu ⟨_, h, q⟩ => h pins s σ H x v vl vu lo hi sl Q I rx hs pl pu q

theorem R.assoc {α β γ : Type} (r : R α) (f : α → Sto → R β) (g : β → Sto → R γ) : (r.bind f).bind g = r.bind fun a h => (f a h).bind g := by
  cases r <;> rfl
/-! ### what is wanted behind a code -/
def FreshV (W W' : Wd) (d : D) (v : V) : Prop := ∀ xs, d = .lst xs → ∃ p vs W1, v = .ref p ∧ Go W W1 ∧ Sm W1 ∧ W1.H p = none ∧ W' = W1.lay p (.lst vs) ∧ RepA W1 xs vs
theorem FreshV.not {W W' : Wd} {d : D} {v : V} (h : ∀ xs, d ≠ .lst xs) : FreshV W W' d v := fun xs e => absurd e (h xs)
theorem FreshV.back {W W1 W' : Wd} {d : D} {v : V} (g : Go W W1) (h : FreshV W1 W' d v) : FreshV W W' d v := fun xs e => by
  obtain ⟨p, vs, W2, h1, h2, h3⟩ := h xs e
  exact ⟨p, vs, W2, h1, g.trans h2, h3⟩
def PostR {α : Type} (W : Wd) (wx : XK) (r : R α) (P : α → Wd → Prop) : Prop := match r with
  | .ok a h' => ∀ W', Go W W' → Sm W' → W'.h = h' → P a W'
  | .exn c d h' => ∀ W' dx v, Go W W' → Sm W' → W'.h = h' → Rep W' d v → W'.H dx = some (.xd [(W'.pa.xf c, v)]) → ¬ ow W' dx → wx (.ref (W'.pa.ca c)) (some dx) W'.H
  | .bad => False
def PE' (W : Wd) (fr : Bool) (Q : VK) : D → Wd → Prop := fun d W' => ∀ v, Rep W' d v → (fr = true → FreshV W W' d v) → Q v W'.H
theorem PostR.go {α : Type} {W W1 : Wd} {wx : XK} {r : R α} {P : α → Wd → Prop} (g : Go W W1) (h : PostR W wx r P) : PostR W1 wx r P := by
  cases r with
  | ok a h1 => exact fun W' g' s e => h W' (g.trans g') s e
  | exn c d h1 => exact fun W' dx v g' s e r' x n => h W' dx v (g.trans g') s e r' x n
  | bad => exact h
theorem PostR.bind {α β : Type} {W : Wd} {wx : XK} {r : R α} {f : α → Sto → R β} {P : β → Wd → Prop} {P' : α → Wd → Prop} (h : PostR W wx (r.bind f) P)
    (k : ∀ a W1, Go W W1 → Sm W1 → PostR W1 wx (f a W1.h) P → P' a W1) : PostR W wx r P' := by
  cases r with
  | ok a h1 =>
    intro W1 g s e
    subst e
    exact k a W1 g s (PostR.go g h)
  | exn c d h1 => exact h
  | bad => exact h
theorem PostR.imp {α : Type} {W : Wd} {wx : XK} {r : R α} {P P' : α → Wd → Prop} (h : PostR W wx r P) (k : ∀ a W1, Go W W1 → Sm W1 → P a W1 → P' a W1) : PostR W wx r P' := by
  cases r with
  | ok a h1 => exact fun W1 g s e => k a W1 g s (h W1 g s e)
  | exn c d h1 => exact h
  | bad => exact h
/-- the end is here -/
theorem PostR.now {α : Type} {W : Wd} {wx : XK} {a : α} {P : α → Wd → Prop} (s : Sm W) (h : PostR W wx (.ok a W.h) P) : P a W := h W (Go.refl W) s rfl
theorem PostR.to {α : Type} {W W' : Wd} {wx : XK} {a : α} {P : α → Wd → Prop} (h : PostR W wx (.ok a W'.h) P) (g : Go W W') (s : Sm W') : P a W' := h W' g s rfl
theorem PostR.if_ {α : Type} {W : Wd} {wx : XK} {b : Bool} {r : R α} {P : α → Wd → Prop} (h : PostR W wx (ifR b r) P) : b = true ∧ PostR W wx r P := by
  cases b with
  | true => exact ⟨rfl, h⟩
  | false => exact h.elim
theorem PostR.opt_ {α : Type} {W : Wd} {wx : XK} {o : Option α} {h' : Sto} {P : α → Wd → Prop} (h : PostR W wx (opt o h') P) : ∃ a, o = some a ∧ PostR W wx (.ok a h') P := by
  cases o with
  | none => exact h.elim
  | some a => exact ⟨a, rfl, h⟩
def EnvR (W : Wd) (ρ : Env) (σ : L2.St) : Prop := σ.length = ρ.length ∧ ∀ i d, ρ.getD i none = some d → ∃ v, σ[i]? = some (some v) ∧ Rep W d v
theorem EnvR.go {W W' : Wd} {ρ : Env} {σ : L2.St} (g : Go W W') (h : EnvR W ρ σ) : EnvR W' ρ σ := ⟨h.1, fun i d e => by
  obtain ⟨v, h1, h2⟩ := h.2 i d e
  exact ⟨v, h1, h2.go g⟩⟩

/-! ### what is leant on -/
def SpI (tb : Tbl) (pa : Pa) (n f : Nat) : Sp := fun vs H Q E => ∃ W ds, W.pa = pa ∧ W.H = H ∧ Sm W ∧ RepA W ds vs ∧ (∃ F, tb.fn f = some F ∧ ds.length = F.np) ∧ PostR W E (callI tb n f ds W.h) (PE' W false Q)
def SpF (sp : Sp) : Sp := sp
/-- how a def's values are bound: none by name, all keyword-only ones by name -/
structure Bnd (K : PySem.W.Frag) (fd : FuncData) (ps : List Str) (kws : List (Str × Lt)) : Prop where
  dfl : ∃ ds, Vals (kws.map fun q => q.2.v) ds ∧ Binds K fd ps ds
  kw : kws ≠ [] → KBn K fd ps (ps.length - kws.length) (kws.map (·.1)) (fun us ws => us ++ ws) (fun vs zs => vs ++ zs)
structure Facts (P : Program) (w : World) (K : PySem.W.Frag) (mg : Str → Option Value) (base : Heap) (nm : Nm) (tb : Tbl) (pa : Pa) (k : Nat) : Prop where
  fn : ∀ f x, nm.fn f = some x → ∃ a fd ps, mg x = some (.ref a) ∧ PySem.W.keepIn K (.ref a) = true ∧ FnOk P w K mg base (L2.CX P w) k a fd ps (SpI tb pa k f) ∧ Bnd K fd ps (nm.kws f)
  prop : ∀ f c x, nm.prop f = some (c, x) → ∃ p g fd ps, PropOf K (pa.ca c) x p g ∧ Cls K (pa.ca c) ∧ FnOk P w K mg base (L2.CX P w) k g fd ps (SpI tb pa k f) ∧ Binds K fd ps []
  cls : ∀ c x, nm.cls c = some x → mg x = some (.ref (pa.ca c)) ∧ pa.cl c = true ∧ Cls K (pa.ca c)
  ini : ∀ f c, nm.ini f = some c → ∃ g fd ps, Mk K (pa.ca c) g ∧ FnOk P w K mg base (L2.CX P w) k g fd ps (SpI tb pa k f) ∧ Bnd K fd ps (nm.kws f) ∧ (nm.kws f).length + 1 ≤ ps.length ∧ ∀ F, tb.fn f = some F → F.np = ps.length
  con : ∀ s d, nm.con s = true → tb.con s = some d → ∃ u v, mg (Str.ofString s) = some u ∧ RelV v u ∧ ∀ W : Wd, W.pa = pa → Rep W d v
  free : ∀ s, nm.free s = true → mg (Str.ofString s) = none
  att : ∀ f c, nm.att f = true → pa.cl c = true → Cls K (pa.ca c) ∧ NoAttr K (pa.ca c) f
  exc : ∀ c x f, nm.exc c = some (x, f) → mg x = some (.ref (pa.ca c)) ∧ pa.xf c = f ∧ ∃ fI fd ps, ExF K (pa.ca c) fI f ∧ (∀ j, k = j + 1 → FnOk P w K mg base (L2.CX P w) k fI fd ps (exSp (pa.ca c) f)) ∧ Binds K fd ps []
  exm : ∀ c c' q q', nm.exc c = some q → nm.exc c' = some q' → PySem.W.exmOne K (.ref (pa.ca c)) (.ref (pa.ca c')) = some (c == c')
structure Cok (nm : Nm) (tb : Tbl) (pa : Pa) (k : Nat) (wx : XK) (ct : Ct) (X : Cx) : Prop where
  N : X.N = ct.N
  sc : X.env.scope = ct.sc
  nd : ct.N.Nodup
  calm : X.calm = true
  rm : Room k X.A
  K : X.K = pa.K
  tk : Takes X (fun c d _ H => wx c d H)
  pso : PassesOwn (model X.prog X.w) X.A X.env X.xe
  sto : ∀ x, ct.sto x = true → Loc X.env.scope x ∧ (X.fn x = true ∨ X.env.scope.names.lookup x = some .local)
  fx : ∀ j, j ≤ k → Facts X.prog X.w X.K X.mg X.base nm tb pa j
  stk : ct.blk = false → X.stack = X.env :: X.outer ∧ X.env.frame = some X.env.locals
def SndE (nm : Nm) (tb : Tbl) (pa : Pa) (c : E) : Prop := ∀ (k : Nat) (wx : XK) (ct : Ct) (X : Cx), Cok nm tb pa k wx ct X → ∀ (e : Expr), mtE nm ct c e = true → ∀ (W : Wd) (σ : L2.St) (ρ : Env) (Q : VK), W.pa = pa → Sm W → EnvR W ρ σ →
  PostR W wx (evE (glv tb k) c ρ W.h) (PE' W (freshE c) Q) → tsE X e σ W.H Q
def SndT (nm : Nm) (tb : Tbl) (pa : Pa) (c : E) : Prop := ∀ (k : Nat) (wx : XK) (ct : Ct) (X : Cx), Cok nm tb pa k wx ct X → ∀ (e : Expr), mtE nm ct c e = true → ∀ (W : Wd) (σ : L2.St) (ρ : Env) (Q : Bool → Hp → Prop), W.pa = pa → Sm W → EnvR W ρ σ →
  PostR W wx (evT (glv tb k) c ρ W.h) (fun b W' => Q b W'.H) → tsT X e σ W.H Q
def SndEs (nm : Nm) (tb : Tbl) (pa : Pa) (cs : List E) : Prop := ∀ (k : Nat) (wx : XK) (ct : Ct) (X : Cx), Cok nm tb pa k wx ct X → ∀ (es : List Expr), mtEs nm ct cs es = true → ∀ (W : Wd) (σ : L2.St) (ρ : Env) (Q : List V → Hp → Prop), W.pa = pa → Sm W → EnvR W ρ σ →
  PostR W wx (evEs (glv tb k) cs ρ W.h) (fun ds W' => ∀ vs, RepA W' ds vs → Q vs W'.H) → tsA X es σ W.H Q
def SndO (nm : Nm) (tb : Tbl) (pa : Pa) (c : Option E) : Prop := ∀ (k : Nat) (wx : XK) (ct : Ct) (X : Cx), Cok nm tb pa k wx ct X → ∀ (e : Option Expr), mtO nm ct c e = true → ∀ (W : Wd) (σ : L2.St) (ρ : Env) (Q : Option Int → Hp → Prop), W.pa = pa → Sm W → EnvR W ρ σ →
  PostR W wx (evO (glv tb k) c ρ W.h) (fun o W' => Q o W'.H) → tsO X e σ W.H Q
section
variable {nm : Nm} {tb : Tbl} {pa : Pa} {k : Nat} {wx : XK} {ct : Ct} {X : Cx} {W : Wd} {σ : L2.St} {ρ : Env} {Q : VK}
theorem SndE.use {β : Type} {c : E} {e : Expr} {f : D → Sto → R β} {P : β → Wd → Prop} (h : SndE nm tb pa c) (C : Cok nm tb pa k wx ct X) (hm : mtE nm ct c e = true) (hW : W.pa = pa) (s : Sm W) (hr : EnvR W ρ σ)
    (hp : PostR W wx ((evE (glv tb k) c ρ W.h).bind f) P) (kk : ∀ d W1 v, Go W W1 → Sm W1 → Rep W1 d v → PostR W1 wx (f d W1.h) P → Q v W1.H) : tsE X e σ W.H Q :=
  h k wx ct X C e hm W σ ρ Q hW s hr (PostR.bind hp fun d W1 g s1 h1 v r _ => kk d W1 v g s1 r h1)
theorem SndT.use {β : Type} {c : E} {e : Expr} {f : Bool → Sto → R β} {P : β → Wd → Prop} {Q : Bool → Hp → Prop} (h : SndT nm tb pa c) (C : Cok nm tb pa k wx ct X) (hm : mtE nm ct c e = true) (hW : W.pa = pa) (s : Sm W) (hr : EnvR W ρ σ)
    (hp : PostR W wx ((evT (glv tb k) c ρ W.h).bind f) P) (kk : ∀ b W1, Go W W1 → Sm W1 → PostR W1 wx (f b W1.h) P → Q b W1.H) : tsT X e σ W.H Q :=
  h k wx ct X C e hm W σ ρ Q hW s hr (PostR.bind hp fun d W1 g s1 h1 => kk d W1 g s1 h1)
theorem SndEs.use {β : Type} {cs : List E} {es : List Expr} {f : List D → Sto → R β} {P : β → Wd → Prop} {Q : List V → Hp → Prop} (h : SndEs nm tb pa cs) (C : Cok nm tb pa k wx ct X) (hm : mtEs nm ct cs es = true) (hW : W.pa = pa) (s : Sm W) (hr : EnvR W ρ σ)
    (hp : PostR W wx ((evEs (glv tb k) cs ρ W.h).bind f) P) (kk : ∀ ds W1 vs, Go W W1 → Sm W1 → RepA W1 ds vs → PostR W1 wx (f ds W1.h) P → Q vs W1.H) : tsA X es σ W.H Q :=
  h k wx ct X C es hm W σ ρ Q hW s hr (PostR.bind hp fun d W1 g s1 h1 v r => kk d W1 v g s1 r h1)
theorem SndO.use {β : Type} {c : Option E} {e : Option Expr} {f : Option Int → Sto → R β} {P : β → Wd → Prop} {Q : Option Int → Hp → Prop} (h : SndO nm tb pa c) (C : Cok nm tb pa k wx ct X) (hm : mtO nm ct c e = true) (hW : W.pa = pa) (s : Sm W) (hr : EnvR W ρ σ)
    (hp : PostR W wx ((evO (glv tb k) c ρ W.h).bind f) P) (kk : ∀ b W1, Go W W1 → Sm W1 → PostR W1 wx (f b W1.h) P → Q b W1.H) : tsO X e σ W.H Q :=
  h k wx ct X C e hm W σ ρ Q hW s hr (PostR.bind hp fun d W1 g s1 h1 => kk d W1 g s1 h1)
theorem Cok.hu (C : Cok nm tb pa k wx ct X) : X.A.units + 65 < cLine := by
  have := C.rm.un
  omega
theorem Cok.gl (C : Cok nm tb pa k wx ct X) {x : Str} (h : glB ct.sc x = true) : Gl X x ∧ (x == ("__debug__" : Str)) = false := by
  unfold glB at h
  rw [Bool.and_eq_true] at h
  obtain ⟨h1, h2⟩ := h
  refine ⟨?_, by simpa using h2⟩
  show X.env.scope.names.lookup x = some .globalImplicit
  rw [C.sc]
  cases e : ct.sc.names.lookup x with
  | none =>
    rw [e] at h1
    cases h1
  | some q =>
    rw [e] at h1
    cases q <;> first | rfl | cases h1
theorem Cok.vis (C : Cok nm tb pa k wx ct X) {x : Str} (h : visB ct.sc x = true) : Vis X.env.scope x := by
  unfold visB at h
  unfold Vis
  rw [C.sc]
  cases e : ct.sc.names.lookup x with
  | none =>
    rw [e] at h
    cases h
  | some q =>
    rw [e] at h
    cases q <;> first | exact .inl rfl | exact .inr (.inl rfl) | exact .inr (.inr rfl) | cases h
theorem okN_ok {x : Str} (h : okN x = true) : (x == ("__debug__" : Str)) = false ∧ (x == ("__classdict__" : Str)) = false := by
  unfold okN at h
  rw [Bool.and_eq_true] at h
  exact ⟨by simpa using h.1, by simpa using h.2⟩
theorem Cok.blt (C : Cok nm tb pa k wx ct X) {s : String} {e : Expr} (h : bltB nm ct.sc s e = true) : ∃ x p, e = .Name x p ∧ x = Str.ofString s ∧ Gl X x ∧ X.mg x = none := by
  unfold bltB at h
  cases e with
  | Name x p =>
    simp only [Bool.and_eq_true] at h
    obtain ⟨⟨h1, h2⟩, h3⟩ := h
    have e1 : x = Str.ofString s := eq_of_beq h1
    refine ⟨x, p, rfl, e1, (C.gl h2).1, ?_⟩
    rw [e1]
    exact (C.fx 0 (Nat.zero_le _)).free s h3
  | _ => cases h

/-! ### argument lists -/
theorem star_cons {e : Expr} {es : List Expr} {env : PySem.Env} (h : isStarE e = false) : starEach (e :: es) env = (false, eval e env) :: starEach es env := by
  cases e <;> first | rfl | cases h
theorem mtEs_cons {c : E} {cs : List E} {es : List Expr} (h : mtEs nm ct (c :: cs) es = true) : ∃ e r, es = e :: r ∧ isStarE e = false ∧ mtE nm ct c e = true ∧ mtEs nm ct cs r = true := by
  cases es with
  | nil => cases h
  | cons e r =>
    have h2 : (!isStarE e && mtE nm ct c e && mtEs nm ct cs r) = true := h
    simp only [Bool.and_eq_true, Bool.not_eq_true'] at h2
    exact ⟨e, r, rfl, h2.1.1, h2.1.2, h2.2⟩
theorem mtEs_nil {es : List Expr} (h : mtEs nm ct [] es = true) : es = [] := by
  cases es with
  | nil => rfl
  | cons e r => cases h
theorem plain_args {pos : Pos} {env : PySem.Env} : ∀ {cs : List E} {es : List Expr}, mtEs nm ct cs es = true → (backTo pos (starEach es env)).any (·.1) = false ∧ (backTo pos (starEach es env)).all (fun x => !x.1) = true
  | [], es, h => by
    rw [mtEs_nil h]
    exact ⟨rfl, rfl⟩
  | c :: cs, es, h => by
    obtain ⟨e, r, rfl, h1, h2, h3⟩ := mtEs_cons h
    rw [star_cons h1]
    exact plain_args (cs := cs) h3
theorem snd_nil : SndEs nm tb pa [] := fun k wx ct X C es hm W σ ρ Q hW s hr hp => by
  rw [mtEs_nil hm]
  exact ⟨tNil, pa_nil, hp.now s [] rfl⟩
theorem snd_cons {c : E} {cs : List E} (h : SndE nm tb pa c) (hs : SndEs nm tb pa cs) : SndEs nm tb pa (c :: cs) := fun k wx ct X C es hm W σ ρ Q hW s hr hp => by
  obtain ⟨e, r, rfl, h1, h2, h3⟩ := mtEs_cons hm
  refine ⟨tCons (tsE X e) (tsA X r), pa_cons pe_ts pa_ts (star_cons h1), ?_⟩
  refine h.use C h2 hW s hr hp fun d W1 v g1 s1 r1 hp1 => ?_
  refine hs.use C h3 (g1.pa.trans hW) s1 (hr.go g1) hp1 fun ds W2 vs g2 s2 r2 hp2 => ?_
  exact hp2.now s2 (v :: vs) ⟨v, vs, rfl, r1.go g2, r2⟩
theorem snd_none : SndO nm tb pa none := fun k wx ct X C e hm W σ ρ Q hW s hr hp => by
  cases e with
  | none => exact ⟨tNoPart, po_none, hp.now s⟩
  | some e => cases hm
theorem snd_some {c : E} (h : SndE nm tb pa c) : SndO nm tb pa (some c) := fun k wx ct X C e hm W σ ρ Q hW s hr hp => by
  cases e with
  | none => cases hm
  | some e =>
    refine ⟨tPart (tsE X e), po_some pe_ts, ?_⟩
    refine h.use C hm hW s hr hp fun d W1 v g1 s1 r1 hp1 => ?_
    cases d with
    | int i =>
      have : v = .int i := r1
      exact ⟨i, this, hp1.now s1⟩
    | _ => exact hp1.elim

/-! ### new objects -/
theorem RepA.mono {W W' : Wd} (g : Le W W') {ds : List D} {vs : List V} (h : RepA W ds vs) : RepA W' ds vs := RepA.le g ds vs h
/-- a new list at p -/
theorem new_lst (s : Sm W) {p : Addr} {xs : List D} {vs : List V} (hp : W.H p = none) (r : RepA W xs vs) : Go W (W.lay p (.lst vs)) ∧ Sm (W.lay p (.lst vs)) ∧ Rep (W.lay p (.lst vs)) (.lst xs) (.ref p) ∧ FreshV W (W.lay p (.lst vs)) (.lst xs) (.ref p) := by
  refine ⟨go_lay s hp, sm_lay s hp, ⟨p, vs, rfl, upd_same, not_ow_new s hp, r.go (go_lay s hp)⟩, fun ys e => ?_⟩
  cases e
  exact ⟨p, vs, W, rfl, Go.refl W, s, hp, rfl, r⟩
theorem new_tup (s : Sm W) {p : Addr} {xs : List D} {vs : List V} (hp : W.H p = none) (r : RepA W xs vs) : Go W (W.lay p (.tup vs)) ∧ Sm (W.lay p (.tup vs)) ∧ Rep (W.lay p (.tup vs)) (.tup xs) (.ref p) :=
  ⟨go_lay s hp, sm_lay s hp, ⟨p, vs, rfl, .inl ⟨.inl upd_same, not_ow_new s hp⟩, r.go (go_lay s hp)⟩⟩
/-- the end with a new list -/
theorem end_lst {W0 : Wd} {fr : Bool} {xs : List D} {vs : List V} {p : Addr} (s : Sm W) (g : Go W0 W) (h : PostR W wx (.ok (.lst xs) W.h) (PE' W0 fr Q)) (hp : W.H p = none) (r : RepA W xs vs) : Q (.ref p) (upd W.H p (.lst vs)) := by
  obtain ⟨g1, s1, r1, f1⟩ := new_lst s hp r
  exact h (W.lay p (.lst vs)) g1 s1 rfl (.ref p) r1 fun _ => f1.back g
theorem end_tup {W0 : Wd} {fr : Bool} {xs : List D} {vs : List V} {p : Addr} (s : Sm W) (h : PostR W wx (.ok (.tup xs) W.h) (PE' W0 fr Q)) (hp : W.H p = none) (r : RepA W xs vs) : Q (.ref p) (upd W.H p (.tup vs)) := by
  obtain ⟨g1, s1, r1⟩ := new_tup s hp r
  exact h (W.lay p (.tup vs)) g1 s1 rfl (.ref p) r1 fun _ => .not fun ys e => by cases e
/-- the end with a value that is there, no list -/
theorem end_val {W0 : Wd} {fr : Bool} {d : D} {v : V} (s : Sm W) (h : PostR W wx (.ok d W.h) (PE' W0 fr Q)) (r : Rep W d v) (hd : ∀ xs, d ≠ .lst xs) : Q v W.H :=
  h.now s v r fun _ => .not hd
theorem limOk {n : Nat} (h : lim n = true) : n ≤ sizeLine := of_decide_eq_true h
end
end Cl
/-! text ClE -/
set_option maxHeartbeats 1000007
/-! Operations by values. -/
namespace Cl
open PySem L2
section
variable {nm : Nm} {tb : Tbl} {pa : Pa} {k : Nat} {wx : XK} {ct : Ct} {X : Cx} {W W0 : Wd} {σ : L2.St} {ρ : Env} {Q : VK} {fr : Bool}

theorem ints_rep {ds : List D} {is : List Int} (e : intsOf ds = some is) {vs : List V} (r : RepA W ds vs) : vs = is.map V.int := by
  induction ds generalizing is vs with
  | nil =>
    cases e
    have : vs = [] := r
    rw [this]
    rfl
  | cons d ds ih =>
    obtain ⟨x, xs, rfl, r1, r2⟩ := r
    cases d with
    | int i =>
      simp only [intsOf] at e
      cases h : intsOf ds with
      | none =>
        rw [h] at e
        cases e
      | some js =>
        rw [h] at e
        cases e
        have : x = .int i := r1
        rw [this, ih h r2]
        rfl
    | _ => cases e
theorem bls_rep {ds : List D} {bs : List Bool} (e : blsOf ds = some bs) {vs : List V} (r : RepA W ds vs) : vs = bs.map V.bl := by
  induction ds generalizing bs vs with
  | nil =>
    cases e
    have : vs = [] := r
    rw [this]
    rfl
  | cons d ds ih =>
    obtain ⟨x, xs, rfl, r1, r2⟩ := r
    cases d with
    | bl i =>
      simp only [blsOf] at e
      cases h : blsOf ds with
      | none =>
        rw [h] at e
        cases e
      | some js =>
        rw [h] at e
        cases e
        have : x = .bl i := r1
        rw [this, ih h r2]
        rfl
    | _ => cases e
theorem rep_flat {ds : List D} {vs : List V} (r : RepA W ds vs) : ∀ n : Nat, RepA W (List.replicate n ds).flatten (List.replicate n vs).flatten
  | 0 => rfl
  | n + 1 => by
    rw [List.replicate_succ, List.replicate_succ, List.flatten_cons, List.flatten_cons]
    exact r.append (rep_flat r n)
/-- arithmetic -/
theorem bin_ok {o : BOp} {x y : D} {u v : V} (C : Cok nm tb pa k wx ct X) (hW : W.pa = pa) (g : Go W0 W) (s : Sm W) (rx : Rep W x u) (ry : Rep W y v) (hp : PostR W wx (binD o x y W.h) (PE' W0 fr Q)) : rs X (binaryOp (opB o)) u v W.H Q := by
  have hK : X.K = W.pa.K := by rw [C.K, hW]
  have lists : ∀ {x y : D}, Rep W x u → Rep W y v → PostR W wx (match lstOf W.h x, lstOf W.h y with
      | some xs, some ys => ifR (lim (xs.length + ys.length)) (.ok (.lst (xs ++ ys)) W.h)
      | _, _ => .bad) (PE' W0 fr Q) → rs X (binaryOp .Add) u v W.H Q := fun {x y} rx ry hp => by
    cases h1 : lstOf W.h x with
    | none =>
      rw [h1] at hp
      exact hp.elim
    | some xs =>
      cases h2 : lstOf W.h y with
      | none =>
        rw [h1, h2] at hp
        exact hp.elim
      | some ys =>
        rw [h1, h2] at hp
        obtain ⟨hl, hp⟩ := PostR.if_ hp
        obtain ⟨a, vs, rfl, ha, ra⟩ := lst_at s rx h1
        obtain ⟨b, ws, rfl, hb, rb⟩ := lst_at s ry h2
        have e1 := ra.length
        have e2 := rb.length
        exact ⟨_, op_cat, a, b, vs, ws, rfl, rfl, ha, hb, by rw [e1, e2]; exact limOk hl, fun p hp' => end_lst s g hp hp' (ra.append rb)⟩
  cases o with
  | add =>
    cases x with
    | int i =>
      have ex : u = .int i := rx
      cases y with
      | int j =>
        have ey : v = .int j := ry
        subst ex; subst ey
        exact ⟨_, op_add, i, j, rfl, rfl, end_val s hp rfl fun xs e => by cases e⟩
      | _ => exact lists (x := .int i) (by exact rx) (by exact ry) hp
    | str a =>
      have ex : u = .str a := rx
      cases y with
      | str b =>
        have ey : v = .str b := ry
        subst ex; subst ey
        obtain ⟨hl, hp⟩ := PostR.if_ hp
        exact ⟨_, op_add_str, a, b, rfl, rfl, limOk hl, end_val s hp rfl fun xs e => by cases e⟩
      | _ => exact lists (x := .str a) (by exact rx) (by exact ry) hp
    | tup xs =>
      cases y with
      | tup ys =>
        obtain ⟨a, vs, rfl, ha, ra⟩ := rx
        obtain ⟨b, ws, rfl, hb, rb⟩ := ry
        obtain ⟨hl, hp⟩ := PostR.if_ hp
        have e1 := ra.length
        have e2 := rb.length
        refine ⟨_, op_catA, a, b, vs, ws, rfl, rfl, by rw [hK]; exact ha.sq, by rw [hK]; exact hb.sq, by rw [e1, e2]; exact limOk hl, fun z => ?_, fun _ z => ?_, fun _ _ p hp' => end_tup s hp hp' (ra.append rb)⟩
        · rw [z] at e1
          have : xs = [] := List.length_eq_zero_iff.mp e1.symm
          subst this
          exact end_val s hp ⟨b, ws, rfl, hb, rb⟩ fun xs e => by cases e
        · rw [z] at e2
          have : ys = [] := List.length_eq_zero_iff.mp e2.symm
          subst this
          rw [List.append_nil] at hp
          exact end_val s hp ⟨a, vs, rfl, ha, ra⟩ fun xs e => by cases e
      | _ => exact lists (x := .tup xs) (by exact rx) (by exact ry) hp
    | _ => exact lists rx ry hp
  | sub =>
    cases x with
    | int i =>
      cases y with
      | int j =>
        have ex : u = .int i := rx
        have ey : v = .int j := ry
        subst ex; subst ey
        exact ⟨_, op_sub, i, j, rfl, rfl, end_val s hp rfl fun xs e => by cases e⟩
      | _ => exact hp.elim
    | _ => exact hp.elim
  | mul =>
    have rep : ∀ {x : D} {j : Int}, Rep W x u → v = .int j → PostR W wx (match lstOf W.h x with
        | some xs => ifR (decide (-(2 ^ 63) ≤ j) && decide (j < 2 ^ 63) && lim (xs.length * j.toNat)) (.ok (.lst (List.replicate j.toNat xs).flatten) W.h)
        | none => .bad) (PE' W0 fr Q) → rs X (binaryOp .Mult) u v W.H Q := fun {x j} rx ev hp => by
      cases h1 : lstOf W.h x with
      | none =>
        rw [h1] at hp
        exact hp.elim
      | some xs =>
        rw [h1] at hp
        obtain ⟨hl, hp⟩ := PostR.if_ hp
        simp only [Bool.and_eq_true, decide_eq_true_eq] at hl
        obtain ⟨⟨h2, h3⟩, h4⟩ := hl
        obtain ⟨a, vs, rfl, ha, ra⟩ := lst_at s rx h1
        have e1 := ra.length
        exact ⟨_, op_rep, a, j, vs, rfl, ev, ha, h2, h3, by rw [e1]; exact limOk h4, fun p hp' => end_lst s g hp hp' (rep_flat ra _)⟩
    cases y with
    | int j =>
      have ey : v = .int j := ry
      cases x with
      | int i =>
        have ex : u = .int i := rx
        subst ex; subst ey
        obtain ⟨hl, hp⟩ := PostR.if_ hp
        refine ⟨_, op_mul, i, j, rfl, rfl, ?_, end_val s hp rfl fun xs e => by cases e⟩
        rw [Bool.or_eq_true] at hl
        rcases hl with hl | hl
        · unfold bits64 at hl
          simp only [Bool.and_eq_true, decide_eq_true_eq] at hl
          exact .inl hl
        · unfold bits64 at hl
          simp only [Bool.and_eq_true, decide_eq_true_eq] at hl
          exact .inr hl
      | lst ys => exact rep (x := .lst ys) rx ey hp
      | ref n => exact rep (x := .ref n) rx ey hp
      | _ => exact hp.elim
    | _ => cases x <;> exact hp.elim
  | fdiv =>
    cases x with
    | int i =>
      cases y with
      | int j =>
        have ex : u = .int i := rx
        have ey : v = .int j := ry
        subst ex; subst ey
        obtain ⟨hl, hp⟩ := PostR.if_ hp
        unfold small30 at hl
        simp only [Bool.and_eq_true, decide_eq_true_eq] at hl
        exact ⟨_, op_fdiv, i, j, rfl, rfl, hl, end_val s hp rfl fun xs e => by cases e⟩
      | _ => exact hp.elim
    | _ => exact hp.elim
  | mod =>
    cases x with
    | int i =>
      cases y with
      | int j =>
        have ex : u = .int i := rx
        have ey : v = .int j := ry
        subst ex; subst ey
        obtain ⟨hl, hp⟩ := PostR.if_ hp
        exact ⟨_, op_mod, i, j, rfl, rfl, of_decide_eq_true hl, end_val s hp rfl fun xs e => by cases e⟩
      | _ => exact hp.elim
    | _ => exact hp.elim
  | pow =>
    cases x with
    | int i =>
      cases y with
      | int j =>
        have ex : u = .int i := rx
        have ey : v = .int j := ry
        subst ex; subst ey
        obtain ⟨hl, hp⟩ := PostR.if_ hp
        simp only [Bool.and_eq_true, decide_eq_true_eq] at hl
        exact ⟨_, op_pow, i, j, rfl, rfl, ⟨hl.1.1, hl.1.2, hl.2⟩, end_val s hp rfl fun xs e => by cases e⟩
      | _ => exact hp.elim
    | _ => exact hp.elim
/-- comparisons -/
theorem op_inT (hu : X.A.units + 65 < cLine) : OpR X (compareOp .In) (fun x y H Q => ∃ d ds, Dp X.K H x d ∧ Dp X.K H y (.tuple ds) ∧ SeqAt.shaped d = true ∧ SeqAt.shaped (.list ds) = true ∧ Q (.bl (ds.any fun z => PyData.eqv z d)) H) := by
  intro pins s σ H x y v u Q I rx ry h
  obtain ⟨d, ds, hd, he, sd, se, q⟩ := h
  obtain ⟨as, r1⟩ := Dp.reads I d x v hd rx
  obtain ⟨bs, r2⟩ := Dp.reads I (.tuple ds) y u he ry
  have h1 := SeqAt.depth_of_shaped sd
  have h2 : min (PyData.depthAll ds) d.depth ≤ 64 := Nat.le_trans (Nat.min_le_right _ _) h1
  exact SeqAt.in_tuple_reads r2 r1 (SeqAt.canLay_of_shaped se) (SeqAt.canLay_of_shaped sd) (by omega) ⟨.bl _, H, I, rfl, q⟩
theorem op_notInT (hu : X.A.units + 65 < cLine) : OpR X (compareOp .NotIn) (fun x y H Q => ∃ d ds, Dp X.K H x d ∧ Dp X.K H y (.tuple ds) ∧ SeqAt.shaped d = true ∧ SeqAt.shaped (.list ds) = true ∧ Q (.bl (!ds.any fun z => PyData.eqv z d)) H) := by
  intro pins s σ H x y v u Q I rx ry h
  obtain ⟨d, ds, hd, he, sd, se, q⟩ := h
  obtain ⟨as, r1⟩ := Dp.reads I d x v hd rx
  obtain ⟨bs, r2⟩ := Dp.reads I (.tuple ds) y u he ry
  have h1 := SeqAt.depth_of_shaped sd
  have h2 : min (PyData.depthAll ds) d.depth ≤ 64 := Nat.le_trans (Nat.min_le_right _ _) h1
  exact SeqAt.notIn_tuple_reads r2 r1 (SeqAt.canLay_of_shaped se) (SeqAt.canLay_of_shaped sd) (by omega) ⟨.bl _, H, I, rfl, q⟩
theorem eqD_some {h : Sto} {x y : D} {b : Bool} (e : eqD h x y = some b) : ∃ p q, topPy h x = some p ∧ topPy h y = some q ∧ shp p = true ∧ shp q = true ∧ b = PyData.eqv p q := by
  unfold eqD at e
  cases h1 : topPy h x with
  | none =>
    rw [h1] at e
    cases e
  | some p =>
    cases h2 : topPy h y with
    | none =>
      rw [h1, h2] at e
      cases e
    | some q =>
      rw [h1, h2] at e
      simp only at e
      cases h3 : (shp p && shp q) with
      | false =>
        rw [h3] at e
        cases e
      | true =>
        rw [h3] at e
        cases e
        rw [Bool.and_eq_true] at h3
        exact ⟨p, q, rfl, rfl, h3.1, h3.2, rfl⟩
theorem inD_some {h : Sto} {x y : D} {b : Bool} (e : inD h x y = some b) : ∃ p qs, topPy h x = some p ∧ (topPy h y = some (.list qs) ∨ topPy h y = some (.tuple qs)) ∧ shp p = true ∧ shp (.list qs) = true ∧ b = qs.any fun z => PyData.eqv z p := by
  unfold inD at e
  cases h1 : topPy h x with
  | none =>
    rw [h1] at e
    cases e
  | some p =>
    have key : ∀ qs : List PyData, (if (shp p && shp (.list qs)) = true then some (qs.any fun z => PyData.eqv z p) else none) = some b → shp p = true ∧ shp (.list qs) = true ∧ b = qs.any fun z => PyData.eqv z p := fun qs e => by
      cases h3 : (shp p && shp (.list qs)) with
      | false =>
        rw [h3] at e
        cases e
      | true =>
        rw [h3] at e
        cases e
        rw [Bool.and_eq_true] at h3
        exact ⟨h3.1, h3.2, rfl⟩
    cases h2 : topPy h y with
    | none =>
      rw [h1, h2] at e
      cases e
    | some q =>
      rw [h1, h2] at e
      cases q with
      | list qs => exact ⟨p, qs, rfl, .inl rfl, key qs e⟩
      | tuple qs => exact ⟨p, qs, rfl, .inr rfl, key qs e⟩
      | _ => cases e
theorem cmp_ok {o : COp} {x y : D} {u v : V} (C : Cok nm tb pa k wx ct X) (hW : W.pa = pa) (s : Sm W) (rx : Rep W x u) (ry : Rep W y v) {P : D → Wd → Prop} (hp : PostR W wx (cmpD o x y W.h) P) (hq : ∀ b, P (.bl b) W → Q (.bl b) W.H) : rs X (compareOp (opC o)) u v W.H Q := by
  have hK : X.K = W.pa.K := by rw [C.K, hW]
  cases o with
  | eq =>
    simp only [cmpD] at hp
    cases e : eqD W.h x y with
    | none =>
      rw [e] at hp
      exact hp.elim
    | some b =>
      rw [e] at hp
      obtain ⟨p, q, h1, h2, h3, h4, rfl⟩ := eqD_some e
      refine ⟨_, op_eqD (by have := C.hu; omega), p, q, ?_, ?_, h3, h4, hq _ (hp.now s)⟩
      · rw [hK]; exact top_at s rx h1
      · rw [hK]; exact top_at s ry h2
  | ne =>
    simp only [cmpD] at hp
    cases e : eqD W.h x y with
    | none =>
      rw [e] at hp
      exact hp.elim
    | some b =>
      rw [e] at hp
      obtain ⟨p, q, h1, h2, h3, h4, rfl⟩ := eqD_some e
      refine ⟨_, op_neD (by have := C.hu; omega), p, q, ?_, ?_, h3, h4, hq _ (hp.now s)⟩
      · rw [hK]; exact top_at s rx h1
      · rw [hK]; exact top_at s ry h2
  | isIn =>
    simp only [cmpD] at hp
    cases e : inD W.h x y with
    | none =>
      rw [e] at hp
      exact hp.elim
    | some b =>
      rw [e] at hp
      obtain ⟨p, qs, h1, h2, h3, h4, rfl⟩ := inD_some e
      have d1 : Dp X.K W.H u p := by rw [hK]; exact top_at s rx h1
      rcases h2 with h2 | h2
      · exact ⟨_, op_inD C.hu, p, qs, d1, by rw [hK]; exact top_at s ry h2, h3, h4, hq _ (hp.now s)⟩
      · exact ⟨_, op_inT C.hu, p, qs, d1, by rw [hK]; exact top_at s ry h2, h3, h4, hq _ (hp.now s)⟩
  | notIn =>
    simp only [cmpD] at hp
    cases e : inD W.h x y with
    | none =>
      rw [e] at hp
      exact hp.elim
    | some b =>
      rw [e] at hp
      obtain ⟨p, qs, h1, h2, h3, h4, rfl⟩ := inD_some e
      have d1 : Dp X.K W.H u p := by rw [hK]; exact top_at s rx h1
      rcases h2 with h2 | h2
      · exact ⟨_, op_notInD C.hu, p, qs, d1, by rw [hK]; exact top_at s ry h2, h3, h4, hq _ (hp.now s)⟩
      · exact ⟨_, op_notInT C.hu, p, qs, d1, by rw [hK]; exact top_at s ry h2, h3, h4, hq _ (hp.now s)⟩
  | lt =>
    cases x with
    | int i =>
      cases y with
      | int j => exact ⟨_, op_lt, i, j, rx, ry, hq _ (hp.now s)⟩
      | _ => exact hp.elim
    | _ => exact hp.elim
  | le =>
    cases x with
    | int i =>
      cases y with
      | int j => exact ⟨_, op_le, i, j, rx, ry, hq _ (hp.now s)⟩
      | _ => exact hp.elim
    | _ => exact hp.elim
  | gt =>
    cases x with
    | int i =>
      cases y with
      | int j => exact ⟨_, op_gt, i, j, rx, ry, hq _ (hp.now s)⟩
      | _ => exact hp.elim
    | _ => exact hp.elim
  | ge =>
    cases x with
    | int i =>
      cases y with
      | int j => exact ⟨_, op_ge, i, j, rx, ry, hq _ (hp.now s)⟩
      | _ => exact hp.elim
    | _ => exact hp.elim
theorem cmp_bl {o : COp} {x y : D} {h : Sto} {d : D} {h' : Sto} (e : cmpD o x y h = .ok d h') : ∃ b, d = .bl b := by
  cases o with
  | eq =>
    simp only [cmpD] at e
    cases q : eqD h x y <;> rw [q] at e <;> cases e <;> exact ⟨_, rfl⟩
  | ne =>
    simp only [cmpD] at e
    cases q : eqD h x y <;> rw [q] at e <;> cases e <;> exact ⟨_, rfl⟩
  | isIn =>
    simp only [cmpD] at e
    cases q : inD h x y <;> rw [q] at e <;> cases e <;> exact ⟨_, rfl⟩
  | notIn =>
    simp only [cmpD] at e
    cases q : inD h x y <;> rw [q] at e <;> cases e <;> exact ⟨_, rfl⟩
  | _ =>
    cases x <;> first | (cases e; done) | (cases y <;> first | (cases e; done) | (cases e; exact ⟨_, rfl⟩))
/-- subscripts -/
theorem atI_rep {xs : List D} {vs : List V} {i : Int} {d : D} (r : RepA W xs vs) (e : L2.atI xs i = some d) : ∃ v, L2.atI vs i = some v ∧ Rep W d v := by
  unfold L2.atI at e ⊢
  rw [r.length]
  cases h : L2.ixN xs.length i with
  | none =>
    rw [h] at e
    cases e
  | some j =>
    rw [h] at e
    exact r.get (by exact e)
theorem ix_ok {x y : D} {u v : V} (C : Cok nm tb pa k wx ct X) (hW : W.pa = pa) (s : Sm W) (rx : Rep W x u) (ry : Rep W y v) (hp : PostR W wx (ixD x y W.h) (PE' W false Q)) : ri X u v W.H Q := by
  have hK : X.K = W.pa.K := by rw [C.K, hW]
  have seq : ∀ {x : D} {i : Int}, Rep W x u → v = .int i → PostR W wx (match seqOf W.h x with
      | some xs => opt (L2.atI xs i) W.h
      | none => .bad) (PE' W false Q) → ri X u v W.H Q := fun {x i} rx ev hp => by
    cases h1 : seqOf W.h x with
    | none =>
      rw [h1] at hp
      exact hp.elim
    | some xs =>
      rw [h1] at hp
      obtain ⟨d, e, hp⟩ := PostR.opt_ hp
      obtain ⟨a, vs, rfl, hs, r⟩ := seq_at s rx h1
      obtain ⟨w, e2, rw_⟩ := atI_rep r e
      have q := hp.now s w rw_ (fun z => by cases z)
      rcases hs with hs | hs
      · exact ⟨_, ix_list, a, vs, i, w, rfl, ev, by rw [hK]; exact hs, e2, q⟩
      · exact ⟨_, ix_tup, a, vs, i, w, rfl, ev, by rw [hK]; exact hs, e2, q⟩
  cases y with
  | int i =>
    have ev : v = .int i := ry
    cases x with
    | str z =>
      have eu : u = .str z := rx
      obtain ⟨hl, hp⟩ := PostR.if_ hp
      cases e : L2.atI z.cps.toList i with
      | none =>
        rw [e] at hp
        exact hp.elim
      | some c =>
        rw [e] at hp
        exact ⟨_, ix_str, z, i, c, eu, ev, limOk hl, e, hp.now s _ rfl (fun z => by cases z)⟩
    | non => exact seq (x := .non) rx ev hp
    | bl b => exact seq (x := .bl b) rx ev hp
    | int j => exact seq (x := .int j) rx ev hp
    | tup xs => exact seq (x := .tup xs) rx ev hp
    | lst xs => exact seq (x := .lst xs) rx ev hp
    | obj c fs => exact seq (x := .obj c fs) rx ev hp
    | ref n => exact seq (x := .ref n) rx ev hp
    | scr xs => exact seq (x := .scr xs) rx ev hp
  | _ => cases x <;> exact hp.elim
end
end Cl
/-! text ClF -/
set_option maxHeartbeats 1000007
/-! Built-in functions, methods, kinds, truth: by values. -/
namespace Cl
open PySem L2
section
variable {nm : Nm} {tb : Tbl} {pa : Pa} {k : Nat} {wx : XK} {ct : Ct} {X : Cx} {W W0 : Wd} {σ : L2.St} {ρ : Env} {Q : VK} {fr : Bool}
theorem maxI_spec : ∀ (is : List Int) (m : Int), maxI m is ∈ m :: is ∧ ∀ y, y ∈ m :: is → y ≤ maxI m is
  | [], m => ⟨by simp [maxI], fun y h => by simp at h; simp [maxI, h]⟩
  | x :: xs, m => by
    have ih := maxI_spec xs (if x > m then x else m)
    have e0 : maxI m (x :: xs) = maxI (if x > m then x else m) xs := rfl
    rw [e0]
    generalize maxI (if x > m then x else m) xs = r at ih ⊢
    refine ⟨?_, fun y h => ?_⟩
    · rcases List.mem_cons.mp ih.1 with e | h
      · rw [e]
        split
        · exact List.mem_cons_of_mem _ List.mem_cons_self
        · exact List.mem_cons_self
      · exact List.mem_cons_of_mem _ (List.mem_cons_of_mem _ h)
    · have h0 := ih.2 _ List.mem_cons_self
      rcases List.mem_cons.mp h with e | h
      · subst e
        split at h0 <;> omega
      · rcases List.mem_cons.mp h with e | h
        · subst e
          split at h0 <;> omega
        · exact ih.2 y (List.mem_cons_of_mem _ h)
theorem minI_spec : ∀ (is : List Int) (m : Int), minI m is ∈ m :: is ∧ ∀ y, y ∈ m :: is → minI m is ≤ y
  | [], m => ⟨by simp [minI], fun y h => by simp at h; simp [minI, h]⟩
  | x :: xs, m => by
    have ih := minI_spec xs (if x < m then x else m)
    have e0 : minI m (x :: xs) = minI (if x < m then x else m) xs := rfl
    rw [e0]
    generalize minI (if x < m then x else m) xs = r at ih ⊢
    refine ⟨?_, fun y h => ?_⟩
    · rcases List.mem_cons.mp ih.1 with e | h
      · rw [e]
        split
        · exact List.mem_cons_of_mem _ List.mem_cons_self
        · exact List.mem_cons_self
      · exact List.mem_cons_of_mem _ (List.mem_cons_of_mem _ h)
    · have h0 := ih.2 _ List.mem_cons_self
      rcases List.mem_cons.mp h with e | h
      · subst e
        split at h0 <;> omega
      · rcases List.mem_cons.mp h with e | h
        · subst e
          split at h0 <;> omega
        · exact ih.2 y (List.mem_cons_of_mem _ h)
/-- the value that a built-in's name stands for -/
def biV : BI → Value
  | .len => .builtin "len"
  | .all => .builtin "all"
  | .any => .builtin "any"
  | .sum => .builtin "sum"
  | .max => .builtin "max"
  | .min => .builtin "min"
  | .tuple => .type "tuple"
  | .list => .type "list"
  | .int => .type "int"
theorem one_arg' {xs : List D} {vs : List V} {x : D} (r : RepA W [x] vs) : ∃ v, vs = [v] ∧ Rep W x v := by
  obtain ⟨v, ws, e, r1, r2⟩ := r
  have : ws = [] := r2
  subst this
  exact ⟨v, e, r1⟩
theorem two_args {vs : List V} {x y : D} (r : RepA W [x, y] vs) : ∃ v w, vs = [v, w] ∧ Rep W x v ∧ Rep W y w := by
  obtain ⟨v, ws, e, r1, r2⟩ := r
  obtain ⟨w, us, e2, r3, r4⟩ := r2
  have : us = [] := r4
  subst this
  subst e2
  exact ⟨v, w, e, r1, r3⟩
theorem seq_cases {h : Sto} {x : D} {ys : List D} (e : seqOf h x = some ys) : x = .tup ys ∨ lstOf h x = some ys := by
  cases x with
  | tup xs =>
    cases e
    exact .inl rfl
  | lst xs => exact .inr e
  | ref n => exact .inr e
  | _ => cases e
theorem bi_ok {b : BI} {xs : List D} {vs : List V} (C : Cok nm tb pa k wx ct X) (hW : W.pa = pa) (g : Go W0 W) (s : Sm W) (r : RepA W xs vs) (hp : PostR W wx (biD b xs W.h) (PE' W0 fr Q)) : rc X (biV b) vs W.H Q := by
  have hK : X.K = W.pa.K := by rw [C.K, hW]
  have nl : ∀ {d : D} {v : V}, PostR W wx (.ok d W.h) (PE' W0 fr Q) → (∀ xs, d ≠ .lst xs) → Rep W d v → Q v W.H := fun {d} {v} hp hd rv => end_val s hp rv hd
  have lints : ∀ {x : D} {v : V} {is : List Int} {ys : List D}, Rep W x v → lstOf W.h x = some ys → intsOf ys = some is → ∃ a, v = .ref a ∧ SqL X.K W.H a (is.map V.int) := fun rx h1 h2 => by
    obtain ⟨a, ws, rfl, hs, q⟩ := lst_at s rx h1
    refine ⟨a, rfl, ?_⟩
    rw [← ints_rep h2 q]
    exact SqL.of hs
  have lbls : ∀ {x : D} {v : V} {is : List Bool} {ys : List D}, Rep W x v → lstOf W.h x = some ys → blsOf ys = some is → ∃ a, v = .ref a ∧ SqL X.K W.H a (is.map V.bl) := fun rx h1 h2 => by
    obtain ⟨a, ws, rfl, hs, q⟩ := lst_at s rx h1
    refine ⟨a, rfl, ?_⟩
    rw [← bls_rep h2 q]
    exact SqL.of hs
  match xs, r, hp with
  | [], r, hp => cases b <;> exact hp.elim
  | [x], r, hp =>
    obtain ⟨v, rfl, rx⟩ := one_arg' (xs := []) r
    cases b with
    | len =>
      have seq : ∀ {x : D}, Rep W x v → PostR W wx (match seqOf W.h x with
          | some ys => .ok (.int ys.length) W.h
          | none => .bad) (PE' W0 fr Q) → rc X (biV .len) [v] W.H Q := fun {x} rx hp => by
        cases h1 : seqOf W.h x with
        | none =>
          rw [h1] at hp
          exact hp.elim
        | some ys =>
          rw [h1] at hp
          obtain ⟨a, ws, rfl, hs, q⟩ := seq_at s rx h1
          have hl := q.length
          refine ⟨_, call_len, .ref a, ws.length, rfl, ?_, ?_⟩
          · rcases hs with hs | hs
            · exact .inl ⟨ws, by rw [hK]; exact hs, rfl⟩
            · exact .inr ⟨ws, by rw [hK]; exact hs, rfl⟩
          · rw [hl]
            exact nl hp (fun xs e => by cases e) rfl
      cases x with
      | str z =>
        have e : v = .str z := rx
        obtain ⟨hl, hp⟩ := PostR.if_ hp
        exact ⟨_, call_len, .str z, z.length, by rw [e], ⟨limOk hl, rfl⟩, nl hp (fun xs e => by cases e) rfl⟩
      | non => exact seq (x := .non) rx hp
      | bl b => exact seq (x := .bl b) rx hp
      | int j => exact seq (x := .int j) rx hp
      | tup xs => exact seq (x := .tup xs) rx hp
      | lst xs => exact seq (x := .lst xs) rx hp
      | obj c fs => exact seq (x := .obj c fs) rx hp
      | ref n => exact seq (x := .ref n) rx hp
      | scr xs => exact seq (x := .scr xs) rx hp
    | all =>
      simp only [biD] at hp
      cases h1 : lstOf W.h x with
      | none =>
        rw [h1] at hp
        exact hp.elim
      | some ys =>
        rw [h1] at hp
        simp only at hp
        cases h2 : blsOf ys with
        | none =>
          rw [h2] at hp
          exact hp.elim
        | some bs =>
          rw [h2] at hp
          obtain ⟨a, rfl, hs⟩ := lbls rx h1 h2
          exact ⟨_, cr_all C.calm, a, bs, rfl, hs, nl hp (fun xs e => by cases e) rfl⟩
    | any =>
      simp only [biD] at hp
      cases h1 : lstOf W.h x with
      | none =>
        rw [h1] at hp
        exact hp.elim
      | some ys =>
        rw [h1] at hp
        simp only at hp
        cases h2 : blsOf ys with
        | none =>
          rw [h2] at hp
          exact hp.elim
        | some bs =>
          rw [h2] at hp
          obtain ⟨a, rfl, hs⟩ := lbls rx h1 h2
          exact ⟨_, cr_any C.calm, a, bs, rfl, hs, nl hp (fun xs e => by cases e) rfl⟩
    | sum =>
      simp only [biD] at hp
      cases h1 : lstOf W.h x with
      | none =>
        rw [h1] at hp
        exact hp.elim
      | some ys =>
        rw [h1] at hp
        simp only at hp
        cases h2 : intsOf ys with
        | none =>
          rw [h2] at hp
          exact hp.elim
        | some bs =>
          rw [h2] at hp
          obtain ⟨a, rfl, hs⟩ := lints rx h1 h2
          exact ⟨_, cr_sum C.calm, a, bs, rfl, hs, nl hp (fun xs e => by cases e) rfl⟩
    | max =>
      simp only [biD] at hp
      have tup : ∀ ys, x = .tup ys → rc X (biV .max) [v] W.H Q := fun ys ex => by
        subst ex
        have hp : PostR W wx (match intsOf ys with
          | some (i :: is) => .ok (.int (maxI i is)) W.h
          | _ => .bad) (PE' W0 fr Q) := hp
        cases h2 : intsOf ys with
        | none =>
          rw [h2] at hp
          exact hp.elim
        | some bs =>
          rw [h2] at hp
          cases bs with
          | nil => exact hp.elim
          | cons i is =>
            obtain ⟨a, vs, rfl, ht, rr⟩ := rx
            have ev := ints_rep h2 rr
            subst ev
            have hK : X.K = W.pa.K := by rw [C.K, hW]
            refine ⟨_, cr_maxT C.calm C.hu, a, i :: is, rfl, by rw [hK]; exact ht.sq, Nat.succ_pos _, fun m hm hle => ?_⟩
            have sp := maxI_spec is i
            have e : m = maxI i is := Int.le_antisymm (sp.2 m hm) (hle _ sp.1)
            rw [e]
            exact nl hp (fun xs e => by cases e) rfl
      have lst : seqI W.h x = lstOf W.h x → rc X (biV .max) [v] W.H Q := fun es => by
        rw [es] at hp
        cases h1 : lstOf W.h x with
        | none =>
          rw [h1] at hp
          exact hp.elim
        | some ys =>
          rw [h1] at hp
          simp only at hp
          cases h2 : intsOf ys with
          | none =>
            rw [h2] at hp
            exact hp.elim
          | some bs =>
            rw [h2] at hp
            cases bs with
            | nil => exact hp.elim
            | cons i is =>
              obtain ⟨a, rfl, hs⟩ := lints rx h1 h2
              refine ⟨_, cr_max C.calm, a, i :: is, rfl, hs, Nat.succ_pos _, fun m hm hle => ?_⟩
              have sp := maxI_spec is i
              have e : m = maxI i is := Int.le_antisymm (sp.2 m hm) (hle _ sp.1)
              rw [e]
              exact nl hp (fun xs e => by cases e) rfl
      cases x with
      | tup ys => exact tup ys rfl
      | _ => exact lst rfl
    | min =>
      simp only [biD] at hp
      cases h1 : lstOf W.h x with
      | none =>
        rw [h1] at hp
        exact hp.elim
      | some ys =>
        rw [h1] at hp
        simp only at hp
        cases h2 : intsOf ys with
        | none =>
          rw [h2] at hp
          exact hp.elim
        | some bs =>
          rw [h2] at hp
          cases bs with
          | nil => exact hp.elim
          | cons i is =>
            obtain ⟨a, rfl, hs⟩ := lints rx h1 h2
            refine ⟨_, cr_min C.calm, a, i :: is, rfl, hs, Nat.succ_pos _, fun m hm hle => ?_⟩
            have sp := minI_spec is i
            have e : m = minI i is := Int.le_antisymm (hle _ sp.1) (sp.2 m hm)
            rw [e]
            exact nl hp (fun xs e => by cases e) rfl
    | tuple =>
      simp only [biD] at hp
      cases h1 : seqOf W.h x with
      | none =>
        rw [h1] at hp
        exact hp.elim
      | some ys =>
        rw [h1] at hp
        rcases seq_cases h1 with e | h1
        · subst e
          obtain ⟨a, ws, rfl, hs, q⟩ := rx
          exact ⟨_, call_tuple_of, a, ws, rfl, .inr ⟨by rw [hK]; exact hs.sq, nl hp (fun xs e => by cases e) ⟨a, ws, rfl, hs, q⟩⟩⟩
        · obtain ⟨a, ws, rfl, hs, q⟩ := lst_at s rx h1
          exact ⟨_, call_tuple_of, a, ws, rfl, .inl ⟨SqL.of hs, fun l hl => end_tup s hp hl q⟩⟩
    | list =>
      simp only [biD] at hp
      cases h1 : seqOf W.h x with
      | none =>
        rw [h1] at hp
        exact hp.elim
      | some ys =>
        rw [h1] at hp
        obtain ⟨a, ws, rfl, hs, q⟩ := seq_at s rx h1
        exact ⟨_, call_list_of, a, ws, rfl, by rw [hK]; exact hs, fun l hl => end_lst s g hp hl q⟩
    | int =>
      cases x with
      | int i =>
        have e : v = .int i := rx
        exact ⟨_, call_int1, .inl ⟨i, by rw [e], nl hp (fun xs e => by cases e) rfl⟩⟩
      | bl b =>
        have e : v = .bl b := rx
        exact ⟨_, call_int1, .inr ⟨b, by rw [e], nl hp (fun xs e => by cases e) rfl⟩⟩
      | _ => exact hp.elim
  | [x, y], r, hp =>
    obtain ⟨v, w, rfl, rx, ry⟩ := two_args r
    cases b with
    | max =>
      cases x with
      | int i =>
        cases y with
        | int j =>
          have e1 : v = .int i := rx
          have e2 : w = .int j := ry
          exact ⟨_, call_max2 C.calm, i, j, by rw [e1, e2], nl hp (fun xs e => by cases e) rfl⟩
        | _ => exact hp.elim
      | _ => cases y <;> exact hp.elim
    | min =>
      cases x with
      | int i =>
        cases y with
        | int j =>
          have e1 : v = .int i := rx
          have e2 : w = .int j := ry
          exact ⟨_, call_min2 C.calm, i, j, by rw [e1, e2], nl hp (fun xs e => by cases e) rfl⟩
        | _ => exact hp.elim
      | _ => cases y <;> exact hp.elim
    | _ => cases x <;> cases y <;> exact hp.elim
  | x :: y :: z :: ws, r, hp => cases b <;> first | exact hp.elim | (cases x <;> cases y <;> exact hp.elim)
/-- truth -/
theorem tru_at {d : D} {v : V} {b : Bool} (hK : X.K = W.pa.K) (s : Sm W) (r : Rep W d v) (e : truD W.h d = some b) : TruV X.K v W.H b := by
  have seq : ∀ {d : D}, Rep W d v → (match seqOf W.h d with
      | some xs => some (!xs.isEmpty)
      | none => none) = some b → TruV X.K v W.H b := fun {d} r e => by
    cases h1 : seqOf W.h d with
    | none =>
      rw [h1] at e
      cases e
    | some xs =>
      rw [h1] at e
      cases e
      obtain ⟨a, vs, rfl, hs, q⟩ := seq_at s r h1
      have hl := q.length
      have he : (!xs.isEmpty) = (!vs.isEmpty) := by
        cases xs <;> cases vs <;> first | rfl | (simp at hl)
      rcases hs with hs | hs
      · exact .inl ⟨vs, by rw [hK]; exact hs, he⟩
      · exact .inr (.inl ⟨vs, by rw [hK]; exact hs, he⟩)
  cases d with
  | bl c =>
    cases e
    have : v = .bl b := r
    rw [this]
    rfl
  | non => exact seq (d := .non) r e
  | int j => exact seq (d := .int j) r e
  | str z => exact seq (d := .str z) r e
  | tup xs => exact seq (d := .tup xs) r e
  | lst xs => exact seq (d := .lst xs) r e
  | obj c fs => exact seq (d := .obj c fs) r e
  | ref n => exact seq (d := .ref n) r e
  | scr xs => exact seq (d := .scr xs) r e
/-- kinds -/
theorem ty_at {d : D} {v : V} {a : String} (hK : X.K = W.pa.K) (s : Sm W) (r : Rep W d v) (e : tyD W.h d = some a) : TyX X.K W.H v (.type a) := by
  have lst : ∀ {d : D} {xs : List D}, Rep W d v → lstOf W.h d = some xs → TyX X.K W.H v (.type "list") := fun r h => by
    obtain ⟨a, vs, rfl, hs, _⟩ := lst_at s r h
    exact .base (.lst hs)
  cases d with
  | non =>
    cases e
    have : v = .non := r
    rw [this]
    exact .base .non
  | bl b =>
    cases e
    have : v = .bl b := r
    rw [this]
    exact .base (.bl b)
  | int i =>
    cases e
    have : v = .int i := r
    rw [this]
    exact .base (.int i)
  | str z =>
    cases e
    have : v = .str z := r
    rw [this]
    exact .base (.str z)
  | tup xs =>
    cases e
    obtain ⟨p, vs, rfl, hs, _⟩ := r
    rcases hs with ⟨h | ⟨o, h⟩, _⟩ | h
    · exact .base (.tup h)
    · exact .fTuple h
    · rcases h with (h | ⟨o, h⟩) | ⟨o, its, n, lk, c, _⟩
      · cases h
      · cases h
      · exact .kTuple (by rw [hK]; exact lk) c
  | lst xs =>
    cases e
    exact lst (d := .lst xs) r rfl
  | ref n =>
    cases hc : getC W.h n with
    | lst xs =>
      simp only [tyD, hc] at e
      cases e
      exact lst (d := .ref n) (xs := xs) r (by simp only [lstOf, hc])
    | lck xs =>
      simp only [tyD, hc] at e
      cases e
      exact lst (d := .ref n) (xs := xs) r (by simp only [lstOf, hc])
    | _ =>
      simp only [tyD, hc] at e
      cases e
  | _ => cases e
theorem kit_all : ∀ a ∈ (["NoneType", "bool", "int", "str", "tuple", "list"] : List String), ∀ t : Ty, kitB a (tyN t) = some (isTy a t) := by
  intro a ha t
  simp only [List.mem_cons, List.not_mem_nil, or_false] at ha
  rcases ha with rfl | rfl | rfl | rfl | rfl | rfl <;> cases t <;> decide +kernel
theorem tyD_mem {h : Sto} {d : D} {a : String} (e : tyD h d = some a) : a ∈ (["NoneType", "bool", "int", "str", "tuple", "list"] : List String) := by
  cases d with
  | ref n =>
    cases hc : getC h n <;> simp only [tyD, hc] at e <;> cases e <;> decide
  | _ => cases e <;> decide
theorem kitAny_ok {K : PySem.W.Frag} {a : String} (ha : a ∈ (["NoneType", "bool", "int", "str", "tuple", "list"] : List String)) : ∀ ts : List Ty, PySem.W.kitAny K (.type a) (ts.map fun t => .type (tyN t)) = some (ts.any (isTy a))
  | [] => rfl
  | t :: ts => by
    have h := PySem.W.kitAny K (.type a) ((t :: ts).map fun t => .type (tyN t))
    refine kitAny_cons (kit_ty (kit_all a ha t)) (fun e => ?_) fun e => ?_
    · rw [List.any_cons, e, Bool.false_or]
      exact kitAny_ok ha ts
    · rw [List.any_cons, e, Bool.true_or]
/-- methods of lists -/
def bmI : BM → String
  | .append => "list.append"
  | .pop => "list.pop"
  | .extend => "list.extend"
def rb (X : Cx) (id : String) : V → List V → Hp → VK → Prop := fun x xs H Q => ∃ r, MtR X id r ∧ r x xs H Q
theorem mt_rb {id : String} : MtR X id (rb X id) := fun pins s σ H x xs v us Q I rx rv ⟨_, h, q⟩ => h pins s σ H x xs v us Q I rx rv q
theorem put_ok {n : Nat} {a : Addr} {xs : List D} {vs : List V} (s : Sm W) (ha : W.ms[n]? = some (some a)) (hl : isLck (getC W.h n) = false) (r : RepA W xs vs) : Go W (W.put n a (.lst vs) (.lst xs)) ∧ Sm (W.put n a (.lst vs) (.lst xs)) := by
  have g := go_put (o := .lst vs) s ha hl (c := .lst xs) rfl
  exact ⟨g, sm_put s ha hl rfl ⟨vs, upd_same, r.go g⟩⟩
theorem bm_ok {m : BM} {x : D} {xs : List D} {u : V} {vs : List V} (C : Cok nm tb pa k wx ct X) (hW : W.pa = pa) (s : Sm W) (rx : Rep W x u) (r : RepA W xs vs) (hp : PostR W wx (bmD m x xs W.h) (PE' W0 false Q)) : (∃ a ys, u = .ref a ∧ W.H a = some (.lst ys)) ∧ rb X (bmI m) u vs W.H Q := by
  cases x with
  | ref n =>
    obtain ⟨l, hv⟩ := rx
    cases hc : getC W.h n with
    | lst ys =>
      simp only [bmD, hc] at hp
      obtain ⟨a, ea, c⟩ := s.at l (by rw [hc]; intro z; cases z)
      rw [hc] at c
      obtain ⟨ws, h1, h2⟩ := c
      have eu := hv a ea
      have hlk : isLck (getC W.h n) = false := by rw [hc]; rfl
      have hlen := h2.length
      refine ⟨⟨a, ws, eu, h1⟩, ?_⟩
      match m, xs, r, hp with
      | .append, [y], r, hp =>
        obtain ⟨w, rfl, rw_⟩ := one_arg' (xs := []) r
        obtain ⟨hl, hp⟩ := PostR.if_ hp
        have hz := of_decide_eq_true hl
        obtain ⟨g1, s1⟩ := put_ok s ea hlk (h2.append (RepA.one rw_))
        exact ⟨_, mt_append, a, ws, w, eu, rfl, h1, by rw [hlen]; exact hz, hp.to g1 s1 .non rfl fun _ => .not fun xs e => by cases e⟩
      | .pop, [], r, hp =>
        have : vs = [] := r
        subst this
        simp only at hp
        cases hy : ys[ys.length - 1]? with
        | none =>
          rw [hy] at hp
          exact hp.elim
        | some y =>
          rw [hy] at hp
          obtain ⟨w, e1, rw_⟩ := h2.get hy
          obtain ⟨g1, s1⟩ := put_ok s ea hlk h2.dropLast
          refine ⟨_, mt_pop, a, ws, w, eu, rfl, h1, by rw [hlen]; exact e1, hp.to g1 s1 w (rw_.go g1) fun z => by cases z⟩
      | .extend, [y], r, hp =>
        obtain ⟨w, rfl, rw_⟩ := one_arg' (xs := []) r
        simp only at hp
        cases hy : lstOf W.h y with
        | none =>
          rw [hy] at hp
          exact hp.elim
        | some zs =>
          rw [hy] at hp
          obtain ⟨hl, hp⟩ := PostR.if_ hp
          obtain ⟨b, us, rfl, hb, q⟩ := lst_at s rw_ hy
          have hlen2 := q.length
          obtain ⟨g1, s1⟩ := put_ok s ea hlk (h2.append q)
          exact ⟨_, mt_extend, a, b, ws, us, eu, rfl, h1, hb, by rw [hlen, hlen2]; exact limOk hl, hp.to g1 s1 .non rfl fun _ => .not fun xs e => by cases e⟩
      | .append, [], _, hp => exact hp.elim
      | .append, _ :: _ :: _, _, hp => exact hp.elim
      | .pop, _ :: _, _, hp => exact hp.elim
      | .extend, [], _, hp => exact hp.elim
      | .extend, _ :: _ :: _, _, hp => exact hp.elim
    | _ =>
      simp only [bmD, hc] at hp
      exact hp.elim
  | _ => exact hp.elim
end
end Cl
/-! text ClG -/
set_option maxHeartbeats 1000007
/-! What a code says holds of the text: expressions, one by one. -/
namespace Cl
open PySem L2
section
variable {nm : Nm} {tb : Tbl} {pa : Pa}
theorem ba {a b : Bool} (h : (a && b) = true) : a = true ∧ b = true := Bool.and_eq_true_iff.mp h
theorem nb {a : Bool} (h : (!a) = true) : a = false := by simpa using h

theorem snd_var {i : Nat} : SndE nm tb pa (.var i) := fun k wx ct X C e hm W σ ρ Q hW s hr hp => by
  cases e with
  | Name x p =>
    obtain ⟨h, h3⟩ := ba hm
    obtain ⟨h1, h2⟩ := ba h
    have h1 := of_decide_eq_true h1
    obtain ⟨d1, d2⟩ := okN_ok h3
    obtain ⟨d, ed, hp⟩ := PostR.opt_ hp
    obtain ⟨v, e1, r⟩ := hr.2 i d ed
    exact ⟨tVar i, pe_var (by rw [C.N]; exact h1) (C.vis h2) d1 d2, v, e1, hp.now s v r fun z => by cases z⟩
  | _ => cases hm
theorem snd_lit {d : D} : SndE nm tb pa (.lit d) := fun k wx ct X C e hm W σ ρ Q hW s hr hp => by
  cases e with
  | Constant c j p =>
    cases d with
    | non =>
      cases c with
      | none => exact ⟨_, pe_non, hp.now s .non rfl fun z => by cases z⟩
      | _ => cases hm
    | bl b =>
      cases c with
      | bool q =>
        have : b = q := eq_of_beq hm
        subst this
        exact ⟨_, pe_bl, hp.now s (.bl b) rfl fun z => by cases z⟩
      | _ => cases hm
    | int b =>
      cases c with
      | int q =>
        have : b = q := of_decide_eq_true hm
        subst this
        exact ⟨_, pe_int, hp.now s (.int b) rfl fun z => by cases z⟩
      | _ => cases hm
    | str b =>
      cases c with
      | str q =>
        have : b = q := of_decide_eq_true hm
        subst this
        exact ⟨_, pe_str, hp.now s (.str b) rfl fun z => by cases z⟩
      | _ => cases hm
    | _ => cases hm
  | _ => cases d <;> cases hm
theorem snd_glo {x : String} : SndE nm tb pa (.glo x) := fun k wx ct X C e hm W σ ρ Q hW s hr hp => by
  cases e with
  | Name y p =>
    obtain ⟨h, h3⟩ := ba hm
    obtain ⟨h1, h2⟩ := ba h
    have h1 := of_decide_eq_true h1
    obtain ⟨d, ed, hp⟩ := PostR.opt_ hp
    obtain ⟨u, v, e1, r1, r2⟩ := (C.fx k (Nat.le_refl _)).con x d h3 ed
    obtain ⟨g1, g2⟩ := C.gl h2
    exact ⟨_, pe_glob g1 (by rw [h1]; exact e1) r1 g2, hp.now s v (r2 W hW) fun z => by cases z⟩
  | _ => cases hm
theorem snd_bin {o : BOp} {a b : E} (ha : SndE nm tb pa a) (hb : SndE nm tb pa b) : SndE nm tb pa (.bin o a b) := fun k wx ct X C e hm W σ ρ Q hW s hr hp => by
  cases e with
  | BinOp l op r p =>
    obtain ⟨h, h3⟩ := ba hm
    obtain ⟨h1, h2⟩ := ba h
    have h1 := of_decide_eq_true h1
    subst h1
    refine ⟨tOp (rs X (binaryOp (opB o))) (tsE X l) (tsE X r), pe_op op_rs pe_ts pe_ts, ?_⟩
    refine ha.use C h2 hW s hr hp fun x W1 u g1 s1 r1 hp1 => ?_
    refine hb.use C h3 (g1.pa.trans hW) s1 (hr.go g1) hp1 fun y W2 v g2 s2 r2 hp2 => ?_
    exact bin_ok C (g2.pa.trans (g1.pa.trans hW)) (g1.trans g2) s2 (r1.go g2) r2 hp2
  | _ => cases hm
theorem snd_neg {a : E} (ha : SndE nm tb pa a) : SndE nm tb pa (.neg a) := fun k wx ct X C e hm W σ ρ Q hW s hr hp => by
  cases e with
  | UnaryOp op l p =>
    cases op with
    | USub =>
      refine ⟨tUn (rU fun i => .int (-i)) (tsE X l), pe_un un_neg pe_ts, ?_⟩
      refine ha.use C hm hW s hr hp fun x W1 u g1 s1 r1 hp1 => ?_
      cases x with
      | int i => exact ⟨i, r1, hp1.now s1 _ rfl fun z => by cases z⟩
      | _ => exact hp1.elim
    | _ => cases hm
  | _ => cases hm
theorem snd_cmp {o : COp} {a b : E} (ha : SndE nm tb pa a) (hb : SndE nm tb pa b) : SndE nm tb pa (.cmp o a b) := fun k wx ct X C e hm W σ ρ Q hW s hr hp => by
  cases e with
  | Compare l ops rs_ p =>
    match ops, rs_, hm with
    | [op], [r], hm =>
      obtain ⟨h, h4⟩ := ba hm
      obtain ⟨h, h3⟩ := ba h
      obtain ⟨h1, h2⟩ := ba h
      have h1 := of_decide_eq_true h1
      subst h1
      refine ⟨tOp (rs X (compareOp (opC o))) (tsE X l) (tsE X r), pe_cmpR op_rs pe_ts pe_ts (nb h2), ?_⟩
      refine ha.use C h3 hW s hr hp fun x W1 u g1 s1 r1 hp1 => ?_
      refine hb.use C h4 (g1.pa.trans hW) s1 (hr.go g1) hp1 fun y W2 v g2 s2 r2 hp2 => ?_
      exact cmp_ok C (g2.pa.trans (g1.pa.trans hW)) s2 (r1.go g2) r2 hp2 fun b h => h _ rfl fun z => by cases z
    | [], _, hm => cases hm
    | _ :: _ :: _, _, hm => cases hm
    | [_], [], hm => cases hm
    | [_], _ :: _ :: _, hm => cases hm
  | _ => cases hm
theorem snd_chain {o o' : COp} {a b c : E} (ha : SndE nm tb pa a) (hb : SndE nm tb pa b) (hc : SndE nm tb pa c) : SndE nm tb pa (.chain o o' a b c) := fun k wx ct X C e hm W σ ρ Q hW s hr hp => by
  cases e with
  | Compare l ops rs_ p =>
    match ops, rs_, hm with
    | [op, op'], [m, r], hm =>
      obtain ⟨h, h6⟩ := ba hm
      obtain ⟨h, h5⟩ := ba h
      obtain ⟨h, h4⟩ := ba h
      obtain ⟨h, h3⟩ := ba h
      obtain ⟨h1, h2⟩ := ba h
      have h1 := of_decide_eq_true h1
      have h2 := of_decide_eq_true h2
      subst h1
      subst h2
      refine ⟨tChain (rs X (compareOp (opC o))) (rs X (compareOp (opC o'))) (tsE X l) (tsE X m) (tsE X r), pe_chain op_rs op_rs pe_ts pe_ts pe_ts (nb h3), ?_⟩
      refine ha.use C h4 hW s hr hp fun x W1 u g1 s1 r1 hp1 => ?_
      refine hb.use C h5 (g1.pa.trans hW) s1 (hr.go g1) hp1 fun y W2 v g2 s2 r2 hp2 => ?_
      have hW2 := g2.pa.trans (g1.pa.trans hW)
      refine cmp_ok C hW2 s2 (r1.go g2) r2 (P := fun d W3 => PostR W3 wx (match d with
        | .bl true => (evE (glv tb k) c ρ W3.h).bind fun z h4 => cmpD o' y z h4
        | .bl false => .ok (.bl false) W3.h
        | _ => .bad) (PE' W false Q)) (PostR.bind hp2 fun d W3 g3 s3 h3 => h3) fun b h7 => ?_
      refine ⟨b, rfl, ?_⟩
      cases b with
      | true =>
        rw [if_pos rfl]
        refine hc.use C h6 hW2 s2 (hr.go (g1.trans g2)) h7 fun z W3 w g3 s3 r3 hp3 => ?_
        exact cmp_ok C (g3.pa.trans hW2) s3 (r2.go g3) r3 hp3 fun b h => h _ rfl fun z => by cases z
      | false =>
        rw [if_neg Bool.false_ne_true]
        exact PostR.now s2 h7 _ rfl fun z => by cases z
    | [], _, hm => cases hm
    | [_], _, hm => cases hm
    | _ :: _ :: _ :: _, _, hm => cases hm
    | [_, _], [], hm => cases hm
    | [_, _], [_], hm => cases hm
    | [_, _], _ :: _ :: _ :: _, hm => cases hm
  | _ => cases hm
theorem isN_val {d : D} {W : Wd} {v : V} (s : Sm W) (r : Rep W d v) (hd : d ≠ .non) (hn : ∀ n, d = .ref n → getC W.h n ≠ .dead) : v ≠ .non := by
  cases d with
  | non => exact absurd rfl hd
  | bl b => intro z; rw [z] at r; cases r
  | int b => intro z; rw [z] at r; cases r
  | str b => intro z; rw [z] at r; cases r
  | tup b => obtain ⟨a, vs, e, _⟩ := r; rw [e]; intro z; cases z
  | lst b => obtain ⟨a, vs, e, _⟩ := r; rw [e]; intro z; cases z
  | obj c b => obtain ⟨a, dx, gs, e, _⟩ := r; rw [e]; intro z; cases z
  | scr b => obtain ⟨a, vs, e, _⟩ := r; rw [e]; intro z; cases z
  | ref n =>
    obtain ⟨l, hv⟩ := r
    obtain ⟨a, ea, _⟩ := s.at l (hn n rfl)
    rw [hv a ea]
    intro z
    cases z
theorem isN_at {d : D} {W : Wd} {v : V} {wx : XK} {P : D → Wd → Prop} {b b' : Bool} (s : Sm W) (r : Rep W d v)
    (hp : PostR W wx (match d with
    | .non => .ok (.bl b) W.h
    | .ref n => (match getC W.h n with
      | .dead => .bad
      | _ => .ok (.bl b') W.h)
    | _ => .ok (.bl b') W.h) P) : (v = .non ∧ P (.bl b) W) ∨ (v ≠ .non ∧ P (.bl b') W) := by
  cases d with
  | non => exact .inl ⟨r, hp.now s⟩
  | ref n =>
    have key : getC W.h n ≠ .dead → PostR W wx (.ok (.bl b') W.h) P → (v = .non ∧ P (.bl b) W) ∨ (v ≠ .non ∧ P (.bl b') W) := fun hn h =>
      .inr ⟨isN_val (d := .ref n) s r (fun z => by cases z) (fun m z => by cases z; exact hn), h.now s⟩
    cases hc : getC W.h n with
    | dead =>
      simp only [hc] at hp
      exact hp.elim
    | _ =>
      simp only [hc] at hp
      exact key (by rw [hc]; intro z; cases z) hp
  | _ => exact .inr ⟨isN_val s r (fun z => by cases z) (fun m z => by cases z), hp.now s⟩
theorem snd_isN {a : E} (ha : SndE nm tb pa a) : SndE nm tb pa (.isN a) := fun k wx ct X C e hm W σ ρ Q hW s hr hp => by
  cases e with
  | Compare l ops rs_ p =>
    match ops, rs_, hm with
    | [.Is], [.Constant .none j q], hm =>
      refine ⟨_, pe_cmpR op_isN pe_ts pe_non (nomark _), ?_⟩
      refine ha.use C hm hW s hr hp fun x W1 u g1 s1 r1 hp1 => ⟨rfl, ?_⟩
      rcases isN_at s1 r1 hp1 with ⟨e, h⟩ | ⟨e, h⟩
      · rw [decide_eq_true e]
        exact h _ rfl fun z => by cases z
      · rw [decide_eq_false e]
        exact h _ rfl fun z => by cases z
  | _ => cases hm
theorem snd_notN {a : E} (ha : SndE nm tb pa a) : SndE nm tb pa (.notN a) := fun k wx ct X C e hm W σ ρ Q hW s hr hp => by
  cases e with
  | Compare l ops rs_ p =>
    match ops, rs_, hm with
    | [.IsNot], [.Constant .none j q], hm =>
      refine ⟨_, pe_cmpR op_notN pe_ts pe_non (nomark _), ?_⟩
      refine ha.use C hm hW s hr hp fun x W1 u g1 s1 r1 hp1 => ⟨rfl, ?_⟩
      rcases isN_at s1 r1 hp1 with ⟨e, h⟩ | ⟨e, h⟩
      · rw [decide_eq_true e]
        exact h _ rfl fun z => by cases z
      · rw [decide_eq_false e]
        exact h _ rfl fun z => by cases z
  | _ => cases hm
theorem snd_not {a : E} (ha : SndE nm tb pa a) : SndE nm tb pa (.not a) := fun k wx ct X C e hm W σ ρ Q hW s hr hp => by
  cases e with
  | UnaryOp op l p =>
    cases op with
    | Not =>
      refine ⟨tNotV (tsE X l), pe_not pe_ts, ?_⟩
      refine ha.use C hm hW s hr hp fun x W1 u g1 s1 r1 hp1 => ?_
      cases x with
      | bl b => exact ⟨b, r1, hp1.now s1 _ rfl fun z => by cases z⟩
      | _ => exact hp1.elim
    | _ => cases hm
  | _ => cases hm
theorem snd_tup {cs : List E} (h : SndEs nm tb pa cs) : SndE nm tb pa (.tup cs) := fun k wx ct X C e hm W σ ρ Q hW s hr hp => by
  cases e with
  | Tuple es j p =>
    refine ⟨tTup (tsA X es), pe_tup pa_ts, ?_⟩
    refine h.use C hm hW s hr hp fun ds W1 vs g1 s1 r1 hp1 => ?_
    obtain ⟨hl, hp1⟩ := PostR.if_ hp1
    exact ⟨by rw [r1.length]; exact limOk hl, fun q hq => end_tup s1 hp1 hq r1⟩
  | _ => cases hm
theorem snd_lst {cs : List E} (h : SndEs nm tb pa cs) : SndE nm tb pa (.lst cs) := fun k wx ct X C e hm W σ ρ Q hW s hr hp => by
  cases e with
  | List es p =>
    refine ⟨tLst (tsA X es), pe_lst pa_ts, ?_⟩
    refine h.use C hm hW s hr hp fun ds W1 vs g1 s1 r1 hp1 => ?_
    obtain ⟨hl, hp1⟩ := PostR.if_ hp1
    exact ⟨by rw [r1.length]; exact limOk hl, fun q hq => end_lst s1 g1 hp1 hq r1⟩
  | _ => cases hm
theorem plainIx {b : Expr} (h : notSlice b = true) : PlainIx b := by
  cases b <;> first | exact fun _ _ => rfl | cases h
theorem snd_ix {a i : E} (ha : SndE nm tb pa a) (hi : SndE nm tb pa i) : SndE nm tb pa (.ix a i) := fun k wx ct X C e hm W σ ρ Q hW s hr hp => by
  cases e with
  | Subscript l r p =>
    obtain ⟨h, h3⟩ := ba hm
    obtain ⟨h1, h2⟩ := ba h
    refine ⟨tOp (ri X) (tsE X l) (tsE X r), pe_ix ix_ri pe_ts pe_ts (plainIx h1), ?_⟩
    refine ha.use C h2 hW s hr hp fun x W1 u g1 s1 r1 hp1 => ?_
    refine hi.use C h3 (g1.pa.trans hW) s1 (hr.go g1) hp1 fun y W2 v g2 s2 r2 hp2 => ?_
    exact ix_ok C (g2.pa.trans (g1.pa.trans hW)) s2 (r1.go g2) r2 (hp2.imp (P' := PE' W2 false Q) fun d W3 _ _ h v rv _ => h v rv fun z => by cases z)
  | _ => cases hm
theorem cut_rep {W : Wd} {xs : List D} {vs : List V} (r : RepA W xs vs) (lo hi : Option Int) : RepA W (cutD xs lo hi) (cutV vs lo hi) := by
  unfold cutD cutV
  rw [r.length]
  exact (r.drop _).take _
theorem snd_slc {a : E} {lo hi : Option E} (ha : SndE nm tb pa a) (hl : SndO nm tb pa lo) (hh : SndO nm tb pa hi) : SndE nm tb pa (.slc a lo hi) := fun k wx ct X C e hm W σ ρ Q hW s hr hp => by
  cases e with
  | Subscript l r p =>
    cases r with
    | Slice lo' hi' st q =>
      cases st with
      | none =>
        obtain ⟨h, h3⟩ := ba hm
        obtain ⟨h1, h2⟩ := ba h
        refine ⟨tSl (rl X) (tsE X l) (tsO X lo') (tsO X hi'), pe_slice sl_rl pe_ts po_ts po_ts, ?_⟩
        refine ha.use C h1 hW s hr hp fun x W1 u g1 s1 r1 hp1 => ?_
        refine hl.use C h2 (g1.pa.trans hW) s1 (hr.go g1) hp1 fun lo W2 g2 s2 hp2 => ?_
        refine hh.use C h3 (g2.pa.trans (g1.pa.trans hW)) s2 (hr.go (g1.trans g2)) hp2 fun hi W3 g3 s3 hp3 => ?_
        have r3 := r1.go (g2.trans g3)
        have g := (g1.trans g2).trans g3
        have hK : X.K = W3.pa.K := by rw [C.K, g.pa, hW]
        have lst : ∀ {x : D}, Rep W3 x u → PostR W3 wx (match lstOf W3.h x with
            | some xs => .ok (.lst (cutD xs lo hi)) W3.h
            | none => .bad) (PE' W true Q) → rl X u lo hi W3.H Q := fun {x} r3 hp => by
          cases h4 : lstOf W3.h x with
          | none =>
            rw [h4] at hp
            exact hp.elim
          | some xs =>
            rw [h4] at hp
            obtain ⟨b, vs, rfl, hb, q⟩ := lst_at s3 r3 h4
            exact ⟨_, sl_list, b, vs, rfl, SqL.of hb, fun p hp' => end_lst s3 g hp hp' (cut_rep q lo hi)⟩
        cases x with
        | tup xs =>
          obtain ⟨b, vs, rfl, hb, q⟩ := r3
          have hlen := q.length
          refine ⟨_, sl_tupA, b, vs, rfl, by rw [hK]; exact hb.sq, fun z => ?_, fun _ p hp' => end_tup s3 hp3 hp' (cut_rep q lo hi)⟩
          have e : cutD xs lo hi = xs := by
            unfold cutD
            rw [← hlen, z.1, z.2, hlen]
            simp
          simp only [e] at hp3
          exact hp3.now s3 _ ⟨b, vs, rfl, hb, q⟩ fun _ => .not fun xs e => by cases e
        | scr xs =>
          obtain ⟨b, vs, rfl, hb, q⟩ := r3
          exact ⟨_, sl_list, b, vs, rfl, by rw [hK]; exact hb.sq, fun p hp' => end_lst s3 g hp3 hp' (cut_rep q lo hi)⟩
        | lst xs => exact lst (x := .lst xs) r3 hp3
        | ref n => exact lst (x := .ref n) r3 hp3
        | _ => exact hp3.elim
      | some _ => cases hm
    | _ => cases hm
  | _ => cases hm
theorem base_ok {o : Expr} {a : Str} {env : PySem.Env} (h : baseOk o = true) : attributeBase o a env (eval o env) = eval o env := by
  cases o with
  | Call f args kws p =>
    cases args with
    | nil =>
      cases kws with
      | nil => cases h
      | cons _ _ => cases f <;> rfl
    | cons _ _ => cases f <;> rfl
  | _ => rfl
theorem snd_fld {a : E} {f : Str} (ha : SndE nm tb pa a) : SndE nm tb pa (.fld a f) := fun k wx ct X C e hm W σ ρ Q hW s hr hp => by
  cases e with
  | Attribute l g p =>
    obtain ⟨h, h4⟩ := ba hm
    obtain ⟨h, h3⟩ := ba h
    obtain ⟨h1, h2⟩ := ba h
    have h1 := of_decide_eq_true h1
    subst h1
    refine ⟨tFld X.K (tsE X l) f, pe_fld pe_ts (base_ok h3), ?_⟩
    refine ha.use C h4 hW s hr hp fun x W1 u g1 s1 r1 hp1 => ?_
    cases hf : fldsOf W1.h x with
    | none =>
      rw [hf] at hp1
      exact hp1.elim
    | some fs =>
      rw [hf] at hp1
      obtain ⟨b, c, dx, gs, eu, hb, hc, q⟩ := fld_at s1 r1 hf
      obtain ⟨d, ed, hp1⟩ := PostR.opt_ hp1
      obtain ⟨v, ev, rv⟩ := q.lookup ed
      have hpa : W1.pa = pa := g1.pa.trans hW
      obtain ⟨c1, c2⟩ := (C.fx k (Nat.le_refl _)).att f c h2 (by rw [← hpa]; exact hc)
      exact ⟨b, W1.pa.ca c, dx, gs, v, eu, hb, by rw [hpa]; exact c1, by rw [hpa]; exact c2, ev, hp1.now s1 v rv fun z => by cases z⟩
  | _ => cases hm
theorem lits_rep {W : Wd} : ∀ {ds : List D} {qs : List (Str × Lt)}, litsB ds qs = true → RepA W ds (qs.map fun q => q.2.v)
  | [], [], _ => rfl
  | [], _ :: _, h => by cases h
  | _ :: _, [], h => by cases h
  | d :: ds, q :: qs, h => by
    obtain ⟨h1, h2⟩ := ba h
    refine ⟨q.2.v, qs.map fun q => q.2.v, rfl, ?_, lits_rep h2⟩
    cases d with
    | non =>
      cases e : q.2 with
      | non => exact rfl
      | _ => rw [e] at h1; cases h1
    | bl b =>
      cases e : q.2 with
      | bl c =>
        rw [e] at h1
        rw [eq_of_beq h1]
        exact rfl
      | _ => rw [e] at h1; cases h1
    | int b =>
      cases e : q.2 with
      | int c =>
        rw [e] at h1
        have h1 : b = c := of_decide_eq_true h1
        rw [h1]
        exact rfl
      | _ => rw [e] at h1; cases h1
    | _ => cases e : q.2 <;> rw [e] at h1 <;> cases h1
/-- a def is called -/
theorem call_sp {k f : Nat} {W : Wd} {wx : XK} {ds : List D} {vs : List V} {Q : VK} (hW : W.pa = pa) (s : Sm W) (r : RepA W ds vs) (hp : PostR W wx (callI tb k f ds W.h) (PE' W false Q)) : SpI tb pa k f vs W.H Q wx := by
  refine ⟨W, ds, hW, rfl, s, r, ?_, hp⟩
  cases k with
  | zero => exact hp.elim
  | succ k =>
    rw [callI_succ] at hp
    cases hF : tb.fn f with
    | none =>
      rw [hF] at hp
      exact hp.elim
    | some F =>
      rw [hF] at hp
      exact ⟨F, rfl, of_decide_eq_true (PostR.if_ hp).1⟩
theorem PostR.bk {W W0 : Wd} {wx : XK} {r : R D} {Q : VK} (h : PostR W wx r (PE' W0 false Q)) : PostR W wx r (PE' W false Q) := h.imp fun d W2 _ _ h v rv _ => h v rv fun z => by cases z
theorem snd_call {f : Nat} {cs : List E} {ds : List D} (h : SndEs nm tb pa cs) : SndE nm tb pa (.call f cs ds) := fun k wx ct X C e hm W σ ρ Q hW s hr hp => by
  cases e with
  | Call g es kws p =>
    cases kws with
    | cons _ _ => cases g <;> cases hm
    | nil =>
      cases g with
      | Name x q =>
        obtain ⟨h1, h5⟩ := ba hm
        obtain ⟨h1, h4⟩ := ba h1
        obtain ⟨h2, h3⟩ := ba h1
        have h3 := of_decide_eq_true h3
        obtain ⟨g1, g2⟩ := C.gl h2
        obtain ⟨a, fd, ps, hmg, hk, F, hb⟩ := (C.fx k (Nat.le_refl _)).fn f x h3
        obtain ⟨us, hv, hb⟩ := hb.dfl
        have pass : Passes (L2.CX X.prog X.w) X wx := passes_call C.tk fun _ _ _ _ h => h
        have hp : PostR W wx ((evEs (glv tb k) cs ρ W.h).bind fun vs h1 => callI tb k f (vs ++ ds) h1) (PE' W false Q) := hp
        have run : ∀ (vs : List D) (W1 : Wd) (us : List V), Go W W1 → Sm W1 → RepA W1 vs us → PostR W1 wx (callI tb k f (vs ++ ds) W1.h) (PE' W false Q) → SpI tb pa k f (us ++ (nm.kws f).map fun q => q.2.v) W1.H Q wx := fun vs W1 us g1 s1 r1 hp1 =>
          call_sp (g1.pa.trans hW) s1 (r1.append (lits_rep h4)) hp1.bk
        cases es with
        | nil =>
          refine ⟨_, pe_call0 F C.rm g1 hmg hk hb hv pass g2, ?_⟩
          cases cs with
          | nil => exact run [] W [] (Go.refl W) s rfl hp
          | cons c cs => cases h5
        | cons e1 es =>
          cases cs with
          | nil => cases h5
          | cons c cs =>
            obtain ⟨e', r', ee, n1, n2, n3⟩ := mtEs_cons h5
            cases ee
            refine ⟨_, pe_call F C.rm g1 hmg hk hb hv pass pa_ts g2 (star_cons n1) (plain_args n3).1, ?_⟩
            exact h.use C h5 hW s hr hp fun ds W1 vs g1 s1 r1 hp1 => run ds W1 vs g1 s1 r1 hp1
      | _ => cases hm
  | _ => cases hm
/-- the values of keywords -/
def tsK (X : Cx) (kws : List Keyword) : TA := fun σ H Q => ∃ t, PK X kws t ∧ t σ H Q
theorem pk_ts {X : Cx} {kws : List Keyword} : PK X kws (tsK X kws) := ⟨fun pos pins s σ H Q I ⟨_, h, q⟩ => h.run pos pins s σ H Q I q⟩
theorem snd_kws : ∀ {cs : List E}, (∀ c, c ∈ cs → SndE nm tb pa c) → ∀ {k : Nat} {wx : XK} {ct : Ct} {X : Cx}, Cok nm tb pa k wx ct X → ∀ {kws : List Keyword}, mtEs nm ct cs (kwVals kws) = true → ∀ {W : Wd} {σ : L2.St} {ρ : Env} {Q : List V → Hp → Prop}, W.pa = pa → Sm W → EnvR W ρ σ →
    PostR W wx (evEs (glv tb k) cs ρ W.h) (fun ds W' => ∀ vs, RepA W' ds vs → Q vs W'.H) → tsK X kws σ W.H Q
  | [], _, k, wx, ct, X, C, kws, hm, W, σ, ρ, Q, hW, s, hr, hp => by
    cases kws with
    | nil => exact ⟨tNil, pk_nil, hp.now s [] rfl⟩
    | cons kw _ => obtain ⟨_, _, _⟩ := kw; cases hm
  | c :: cs, h, k, wx, ct, X, C, kws, hm, W, σ, ρ, Q, hW, s, hr, hp => by
    cases kws with
    | nil => cases hm
    | cons kw kws =>
      obtain ⟨n, e, p⟩ := kw
      obtain ⟨e', r, ee, h1, h2, h3⟩ := mtEs_cons hm
      have ee : e :: kwVals kws = e' :: r := ee
      cases ee
      refine ⟨tCons (tsE X e) (tsK X kws), pk_cons pe_ts pk_ts, ?_⟩
      refine (h c List.mem_cons_self).use C h2 hW s hr hp fun d W1 v g1 s1 r1 hp1 => ?_
      refine snd_kws (fun x hx => h x (List.mem_cons_of_mem _ hx)) C h3 (g1.pa.trans hW) s1 (hr.go g1) (PostR.bind hp1 fun ds W2 g2 s2 hp2 vs r2 => ?_)
      exact hp2.now s2 (v :: vs) ⟨v, vs, rfl, r1.go g2, r2⟩
theorem kws_all {kws : List Keyword} {ks : List Str} {pos : Pos} {env : PySem.Env} (h : kwNames kws = ks.map some) : (backToKw pos (keywordEach kws env)).all (·.1.isSome) = true ∧ (backToKw pos (keywordEach kws env)).filterMap (·.1) = ks ∧ (backToKw pos (keywordEach kws env)).any (·.1.isNone) = false := by
  induction kws generalizing ks with
  | nil =>
    cases ks with
    | nil => exact ⟨rfl, rfl, rfl⟩
    | cons _ _ => cases h
  | cons kw kws ih =>
    obtain ⟨n, e, p⟩ := kw
    cases ks with
    | nil => cases h
    | cons x ks =>
      have h : n :: kwNames kws = some x :: ks.map some := h
      obtain ⟨rfl, h'⟩ := List.cons.inj h
      obtain ⟨i1, i2, i3⟩ := ih h'
      refine ⟨?_, ?_, ?_⟩
      · show (true && (backToKw pos (keywordEach kws env)).all (·.1.isSome)) = true
        rw [i1]
        rfl
      · show x :: (backToKw pos (keywordEach kws env)).filterMap (·.1) = x :: ks
        rw [i2]
      · show (false || (backToKw pos (keywordEach kws env)).any (·.1.isNone)) = false
        rw [i3]
        rfl
theorem kw_len {kws : List Keyword} : (kwVals kws).length = (kwNames kws).length := by
  induction kws with
  | nil => rfl
  | cons kw kws ih =>
    obtain ⟨n, e, p⟩ := kw
    show (kwVals kws).length + 1 = (kwNames kws).length + 1
    rw [ih]
theorem evEs_len {G : Glv} : ∀ {cs : List E} {ρ : Env} {h h1 : Sto} {ds : List D}, evEs G cs ρ h = .ok ds h1 → ds.length = cs.length
  | [], _, _, _, _, e => by cases e; rfl
  | c :: cs, ρ, h, h1, ds, e => by
    have e : ((evE G c ρ h).bind fun d h1 => (evEs G cs ρ h1).bind fun ds h2 => R.ok (d :: ds) h2) = .ok ds h1 := e
    cases e1 : evE G c ρ h with
    | ok d h2 =>
      rw [e1] at e
      have e : ((evEs G cs ρ h2).bind fun ds h2 => R.ok (d :: ds) h2) = .ok ds h1 := e
      cases e2 : evEs G cs ρ h2 with
      | ok ds2 h3 =>
        rw [e2] at e
        cases e
        rw [List.length_cons, List.length_cons, evEs_len e2]
      | exn _ _ _ => rw [e2] at e; cases e
      | bad => rw [e2] at e; cases e
    | exn _ _ _ => rw [e1] at e; cases e
    | bad => rw [e1] at e; cases e
theorem mtEs_len {ct : Ct} : ∀ {cs : List E} {es : List Expr}, mtEs nm ct cs es = true → cs.length = es.length
  | [], es, h => by rw [mtEs_nil h]; rfl
  | c :: cs, es, h => by
    obtain ⟨e, r, rfl, _, _, h3⟩ := mtEs_cons h
    rw [List.length_cons, List.length_cons, mtEs_len h3]
theorem PostR.bindE {α β : Type} {W : Wd} {wx : XK} {r : R α} {f : α → Sto → R β} {P : β → Wd → Prop} (h : PostR W wx (r.bind f) P) : PostR W wx r (fun a W1 => r = .ok a W1.h ∧ PostR W1 wx (f a W1.h) P) := by
  cases r with
  | ok a h1 =>
    intro W1 g s e
    subst e
    exact ⟨rfl, PostR.go g h⟩
  | exn c d h1 => exact h
  | bad => exact h
theorem kw_m {ks : List E} {ct : Ct} {kws : List Keyword} {qs : List (Str × Lt)} {G : Glv} {ρ : Env} {h h1 : Sto} {ds : List D} {W : Wd} {zs : List V} (h5 : kwNames kws = qs.map fun q => some q.1) (h7 : mtEs nm ct ks (kwVals kws) = true) (e : evEs G ks ρ h = .ok ds h1) (r : RepA W ds zs) : zs.length = (qs.map (·.1)).length := by
  rw [r.length, evEs_len e, mtEs_len h7, kw_len, h5, List.length_map, List.length_map]
theorem snd_callK {f : Nat} {cs ks : List E} (h : SndEs nm tb pa cs) (hk : ∀ c, c ∈ ks → SndE nm tb pa c) : SndE nm tb pa (.callK f cs ks) := fun k wx ct X C e hm W σ ρ Q hW s hr hp => by
  cases e with
  | Call g es kws p =>
    cases g with
    | Name x q =>
      match es, kws, hm with
      | e1 :: es, k1 :: kws, hm =>
        obtain ⟨h1, h7⟩ := ba hm
        obtain ⟨h1, h6⟩ := ba h1
        obtain ⟨h1, h5⟩ := ba h1
        obtain ⟨h2, h3⟩ := ba h1
        have h3 := of_decide_eq_true h3
        have h5 := of_decide_eq_true h5
        obtain ⟨g1, g2⟩ := C.gl h2
        obtain ⟨a, fd, ps, hmg, hkp, F, hb⟩ := (C.fx k (Nat.le_refl _)).fn f x h3
        have pass : Passes (L2.CX X.prog X.w) X wx := passes_call C.tk fun _ _ _ _ h => h
        have hp : PostR W wx ((evEs (glv tb k) cs ρ W.h).bind fun vs h1 => (evEs (glv tb k) ks ρ h1).bind fun us h2 => callI tb k f (vs ++ us) h2) (PE' W false Q) := hp
        have hne : nm.kws f ≠ [] := fun z => by
          rw [z] at h5
          obtain ⟨_, _, _⟩ := k1
          cases h5
        have hkb := hb.kw hne
        obtain ⟨q1, q2, q3⟩ := kws_all (pos := p) (env := X.env) (ks := (nm.kws f).map (·.1)) (by rw [h5, List.map_map]; rfl)
        obtain ⟨c, cs', rfl⟩ : ∃ c cs', cs = c :: cs' := by
          cases cs with
          | nil => cases h6
          | cons c cs => exact ⟨c, cs, rfl⟩
        obtain ⟨e', r', ee, n1, n2, n3⟩ := mtEs_cons h6
        cases ee
        refine ⟨_, pe_callN F C.rm g1 hmg hkp hkb pass (pa_ts (es := e1 :: es)) (pk_ts (kws := k1 :: kws)) q1 q2 g2 (star_cons n1) (by rw [q3, (plain_args h6).1]; rfl), ?_⟩
        refine h.use C h6 hW s hr hp fun vs W1 us g1 s1 r1 hp1 => ?_
        refine snd_kws hk C h7 (g1.pa.trans hW) s1 (hr.go g1) ((PostR.bindE hp1).imp fun us2 W2 g2 s2 hp3 zs r2 => ?_)
        have sp := call_sp (g2.pa.trans (g1.pa.trans hW)) s2 ((r1.go g2).append r2) hp3.2.bk
        have l1 := F.len _ _ _ _ sp
        have l2 := kw_m h5 h7 hp3.1 r2
        rw [List.length_append] at l1
        rw [List.length_map] at l2
        exact ⟨by omega, by rw [List.length_map]; exact l2, sp⟩
      | [], _, hm => cases hm
      | _ :: _, [], hm => cases hm
    | _ => cases hm
  | _ => cases hm
/-- a new instance's world -/
theorem mk_world {W : Wd} (s : Sm W) {x dx : Addr} {c : Nat} (hc : W.pa.cl c = true) (h1 : W.H x = none) (h2 : W.H dx = none) (h3 : dx ≠ x) : ∃ W2, Go W W2 ∧ Sm W2 ∧ W2.H = upd (upd W.H dx (.own x)) x (.ins (W.pa.ca c) dx []) ∧ W2.h = W.h ++ [.ins c []] ∧ Rep W2 (.ref W.h.length) (.ref x) := by
  have g1 : Go W (W.lay dx (.own x)) := go_lay s h2
  have s1 : Sm (W.lay dx (.own x)) := sm_lay s h2
  have hx : (W.lay dx (.own x)).H x = none := by
    show upd W.H dx (.own x) x = none
    rw [upd_ne (Ne.symm h3)]
    exact h1
  have g2 : Go (W.lay dx (.own x)) ((W.lay dx (.own x)).cell x (.ins (W.pa.ca c) dx []) (.ins c [])) := go_cell s1 hx
  have s2 : Sm ((W.lay dx (.own x)).cell x (.ins (W.pa.ca c) dx []) (.ins c [])) := sm_cell s1 hx ⟨hc, dx, [], upd_same, rfl⟩
  refine ⟨_, g1.trans g2, s2, rfl, rfl, ?_, fun a ha => ?_⟩
  · show W.h.length < (W.ms ++ [some x]).length
    rw [List.length_append, s.len]
    simp
  · have ha : (W.ms ++ [some x])[W.h.length]? = some (some a) := ha
    rcases ms_app.mp ha with q | ⟨_, q⟩
    · have := (List.getElem?_eq_some_iff.mp q).1
      rw [s.len] at this
      omega
    · cases q
      rfl
theorem mk_sp {k f c : Nat} {W : Wd} {wx : XK} {ds : List D} {vs : List V} {Q : VK} {x dx : Addr} (hW : W.pa = pa) (s : Sm W) (hc : pa.cl c = true) (r : RepA W ds vs) (hp : PostR W wx (mkR (callI tb k f) c ds W.h) (PE' W false Q)) (h1 : W.H x = none) (h2 : W.H dx = none) (h3 : dx ≠ x) :
    SpI tb pa k f (.ref x :: vs) (upd (upd W.H dx (.own x)) x (.ins (pa.ca c) dx [])) (fun v H2 => v = .non ∧ Q (.ref x) H2) wx := by
  subst hW
  obtain ⟨W2, g, s2, eH, eh, rr⟩ := mk_world s hc h1 h2 h3
  rw [← eH]
  refine call_sp g.pa s2 (ds := .ref W.h.length :: ds) ⟨_, _, rfl, rr, r.go g⟩ ?_
  have hp : PostR W wx ((callI tb k f (.ref W.h.length :: ds) (W.h ++ [.ins c []])).bind fun v h2 => match v with
    | .non => .ok (.ref W.h.length) h2
    | _ => .bad) (PE' W false Q) := hp
  rw [← eh] at hp
  refine PostR.bind (PostR.go g hp) fun d W3 g3 s3 hp3 v rv _ => ?_
  cases d with
  | non => exact ⟨rv, hp3.now s3 _ (rr.go g3) fun z => by cases z⟩
  | _ => exact hp3.elim
theorem snd_mk {c f : Nat} {cs : List E} {ds : List D} (h : SndEs nm tb pa cs) : SndE nm tb pa (.mk c f cs ds) := fun k wx ct X C e hm W σ ρ Q hW s hr hp => by
  cases e with
  | Call g es kws p =>
    cases g with
    | Name x q =>
      match es, kws, hm with
      | e1 :: es, [], hm =>
        obtain ⟨h1, h6⟩ := ba hm
        obtain ⟨h1, h5⟩ := ba h1
        obtain ⟨h1, h4⟩ := ba h1
        obtain ⟨h2, h3⟩ := ba h1
        have h3 := of_decide_eq_true h3
        have h4 := of_decide_eq_true h4
        obtain ⟨g1, g2⟩ := C.gl h2
        have hp0 : PostR W wx (ifR (glv tb k).deep ((evEs (glv tb k) cs ρ W.h).bind fun vs h1 => mkR (callI tb (k - 1) f) c (vs ++ ds) h1)) (PE' W false Q) := hp
        have hp := (PostR.if_ hp0).2
        obtain ⟨c0, cs', rfl⟩ : ∃ c cs', cs = c :: cs' := by
          cases cs with
          | nil => cases h6
          | cons c cs => exact ⟨c, cs, rfl⟩
        obtain ⟨e', r', ee, n1, n2, n3⟩ := mtEs_cons h6
        cases ee
        obtain ⟨m1, m2, m3⟩ := (C.fx k (Nat.le_refl _)).cls c x h3
        cases k with
        | zero => exact (show False from hp0).elim
        | succ k =>
          obtain ⟨a, fd, ps, M, F, hb, _⟩ := (C.fx k (Nat.le_succ _)).ini f c h4
          obtain ⟨us, hv, hb⟩ := hb.dfl
          have pass : Passes (L2.CX X.prog X.w) X wx := passes_call C.tk fun _ _ _ _ h => h
          refine ⟨_, pe_make (by rw [C.K] at M ⊢; exact M) F C.rm g1 m1 hb hv pass pa_ts g2 (star_cons n1) (plain_args n3).1, ?_⟩
          refine h.use C h6 hW s hr hp fun vs W1 us g1 s1 r1 hp1 x dx k1 k2 k3 => ?_
          exact mk_sp (g1.pa.trans hW) s1 m2 (r1.append (lits_rep h5)) hp1.bk k1 k2 k3
      | [], _, hm => cases hm
      | _ :: _, _ :: _, hm => cases hm
    | _ => cases hm
  | _ => cases hm
theorem mkR_len {k f c : Nat} {W : Wd} {wx : XK} {ds : List D} {P : D → Wd → Prop} (hp : PostR W wx (mkR (callI tb k f) c ds W.h) P) : ∃ F, tb.fn f = some F ∧ ds.length + 1 = F.np := by
  unfold mkR at hp
  cases k with
  | zero => exact (show False from hp).elim
  | succ k =>
    rw [callI_succ] at hp
    cases hF : tb.fn f with
    | none =>
      rw [hF] at hp
      exact (show False from hp).elim
    | some F =>
      rw [hF] at hp
      refine ⟨F, rfl, ?_⟩
      unfold runB at hp
      cases hb : decide ((D.ref W.h.length :: ds).length = F.np) with
      | true => exact of_decide_eq_true hb
      | false =>
        simp only [hb] at hp
        exact (show False from hp).elim
theorem snd_mkK {c f : Nat} {cs ks : List E} (h : SndEs nm tb pa cs) (hk : ∀ c, c ∈ ks → SndE nm tb pa c) : SndE nm tb pa (.mkK c f cs ks) := fun k wx ct X C e hm W σ ρ Q hW s hr hp => by
  cases e with
  | Call g es kws p =>
    cases g with
    | Name x q =>
      match es, kws, hm with
      | e1 :: es, k1 :: kws, hm =>
        obtain ⟨h1, h7⟩ := ba hm
        obtain ⟨h1, h6⟩ := ba h1
        obtain ⟨h1, h5⟩ := ba h1
        obtain ⟨h1, h4⟩ := ba h1
        obtain ⟨h2, h3⟩ := ba h1
        have h3 := of_decide_eq_true h3
        have h4 := of_decide_eq_true h4
        have h5 := of_decide_eq_true h5
        obtain ⟨g1, g2⟩ := C.gl h2
        have hp0 : PostR W wx (ifR (glv tb k).deep ((evEs (glv tb k) cs ρ W.h).bind fun vs h1 => (evEs (glv tb k) ks ρ h1).bind fun us h2 => mkR (callI tb (k - 1) f) c (vs ++ us) h2)) (PE' W false Q) := hp
        have hp := (PostR.if_ hp0).2
        have hne : nm.kws f ≠ [] := fun z => by
          rw [z] at h5
          obtain ⟨_, _, _⟩ := k1
          cases h5
        obtain ⟨c0, cs', rfl⟩ : ∃ c cs', cs = c :: cs' := by
          cases cs with
          | nil => cases h6
          | cons c cs => exact ⟨c, cs, rfl⟩
        obtain ⟨e', r', ee, n1, n2, n3⟩ := mtEs_cons h6
        cases ee
        obtain ⟨m1, m2, m3⟩ := (C.fx k (Nat.le_refl _)).cls c x h3
        cases k with
        | zero => exact (show False from hp0).elim
        | succ k =>
          obtain ⟨a, fd, ps, M, F, hb, hlt, hnp⟩ := (C.fx k (Nat.le_succ _)).ini f c h4
          have pass : Passes (L2.CX X.prog X.w) X wx := passes_call C.tk fun _ _ _ _ h => h
          have hkb := hb.kw hne
          obtain ⟨q1, q2, q3⟩ := kws_all (pos := p) (env := X.env) (ks := (nm.kws f).map (·.1)) (by rw [h5, List.map_map]; rfl)
          obtain ⟨n, hn⟩ : ∃ n, ps.length - (nm.kws f).length = n + 1 := ⟨ps.length - (nm.kws f).length - 1, by omega⟩
          rw [hn] at hkb
          refine ⟨_, pe_makeK (n := n) (by rw [C.K] at M ⊢; exact M) F C.rm g1 m1 hkb pass (pa_ts (es := e1 :: es)) (pk_ts (kws := k1 :: kws)) q1 q2 g2 (star_cons n1) (by rw [q3, (plain_args h6).1]; rfl), ?_⟩
          refine h.use C h6 hW s hr hp fun vs W1 us g1 s1 r1 hp1 => ?_
          refine snd_kws hk C h7 (g1.pa.trans hW) s1 (hr.go g1) ((PostR.bindE hp1).imp fun us2 W2 g2 s2 hp3 zs r2 => ?_)
          have l2 := kw_m h5 h7 hp3.1 r2
          obtain ⟨FF, eF, l1⟩ := mkR_len hp3.2
          have l3 := hnp FF eF
          have l4 := r1.length
          have l5 := r2.length
          rw [List.length_append] at l1
          refine ⟨?_, l2, fun x dx k1 k2 k3 => mk_sp (g2.pa.trans (g1.pa.trans hW)) s2 m2 ((r1.go g2).append r2) hp3.2.bk k1 k2 k3⟩
          rw [List.length_map] at l2
          omega
      | [], _, hm => cases hm
      | _ :: _, [], hm => cases hm
    | _ => cases hm
  | _ => cases hm
end
end Cl
/-! text ClH -/
set_option maxHeartbeats 1000007
/-! What a code says holds of the text: tests, and | or, calls of built-ins, own and frozen lists. -/
namespace Cl
open PySem L2
section
variable {nm : Nm} {tb : Tbl} {pa : Pa}
theorem tst_bind {α : Type} (r : R α) (f : α → Sto → R D) : tst (r.bind f) = r.bind fun a h => tst (f a h) := by
  cases r <;> rfl
theorem PostR.tst_ {W : Wd} {wx : XK} {d : D} {P : Bool → Wd → Prop} {h' : Sto} (h : PostR W wx (tst (.ok d h')) P) : ∃ b, truD h' d = some b ∧ PostR W wx (.ok b h') P := PostR.opt_ (o := truD h' d) h
theorem truth_ok {e : Expr} {env : PySem.Env} (h : tHead e = true) : ∀ whole, isTrue e env whole = (do let v ← whole; standAt e.pos; holding [v] (truthy v)) := by
  cases e with
  | UnaryOp op l p => cases op <;> first | exact fun _ => rfl | cases h
  | BoolOp _ _ _ => cases h
  | IfExp _ _ _ _ => cases h
  | Compare _ _ _ _ => cases h
  | _ => exact fun _ => rfl
/-- a test by its value's truth -/
theorem sndT_val {c : E} (h : SndE nm tb pa c) {k : Nat} {wx : XK} {ct : Ct} {X : Cx} (C : Cok nm tb pa k wx ct X) {e : Expr} (ht : tHead e = true) (hm : mtE nm ct c e = true) {W : Wd} {σ : L2.St} {ρ : Env} {Q : Bool → Hp → Prop} (hW : W.pa = pa) (s : Sm W) (hr : EnvR W ρ σ)
    (hp : PostR W wx (evT (glv tb k) c ρ W.h) (fun b W' => Q b W'.H)) : tsT X e σ W.H Q := by
  refine ⟨_, pt_truth pe_ts (truth_ok ht), ?_⟩
  refine h.use C hm hW s hr hp fun d W1 v g1 s1 r1 hp1 => ?_
  obtain ⟨b, eb, hp1⟩ := PostR.opt_ hp1
  exact ⟨b, tru_at (by rw [C.K, g1.pa, hW]) s1 r1 eb, hp1.now s1⟩
theorem PostR.bl {W : Wd} {wx : XK} {d : D} {P : Bool → Wd → Prop} {b : Bool} {v : V} (s : Sm W) (r : Rep W d v) (e : d = .bl b) (h : PostR W wx (opt (truD W.h d) W.h) P) : P b W := by
  subst e
  exact PostR.now s (a := b) h
theorem sndT_cmp {o : COp} {a b : E} (ha : SndE nm tb pa a) (hb : SndE nm tb pa b) : SndT nm tb pa (.cmp o a b) := fun k wx ct X C e hm W σ ρ Q hW s hr hp => by
  cases e with
  | Compare l ops rs_ p =>
    match ops, rs_, hm with
    | [op], [r], hm =>
      obtain ⟨h, h4⟩ := ba hm
      obtain ⟨h, h3⟩ := ba h
      obtain ⟨h1, h2⟩ := ba h
      have h1 := of_decide_eq_true h1
      subst h1
      refine ⟨_, pt_cmpR (op_rs (f := compareOp (opC o))) pe_ts pe_ts (nb h2), ?_⟩
      have hp : PostR W wx ((evE (glv tb k) a ρ W.h).bind fun x h1 => tst ((evE (glv tb k) b ρ h1).bind fun y h2 => cmpD o x y h2)) (fun b W' => Q b W'.H) := by
        rw [← tst_bind]
        exact hp
      refine ha.use C h3 hW s hr hp fun x W1 u g1 s1 r1 hp1 => ?_
      rw [tst_bind] at hp1
      refine hb.use C h4 (g1.pa.trans hW) s1 (hr.go g1) hp1 fun y W2 v g2 s2 r2 hp2 => ?_
      exact cmp_ok C (g2.pa.trans (g1.pa.trans hW)) s2 (r1.go g2) r2 (P := fun d W3 => ∀ b, d = .bl b → Q b W3.H) (PostR.bind hp2 fun d W3 g3 s3 h3 b e => by subst e; exact PostR.now s3 (a := b) h3) fun b h => ⟨b, rfl, h b rfl⟩
    | [], _, hm => cases hm
    | _ :: _ :: _, _, hm => cases hm
    | [_], [], hm => cases hm
    | [_], _ :: _ :: _, hm => cases hm
  | _ => cases hm
theorem sndT_chain {o o' : COp} {a b c : E} (ha : SndE nm tb pa a) (hb : SndE nm tb pa b) (hc : SndE nm tb pa c) : SndT nm tb pa (.chain o o' a b c) := fun k wx ct X C e hm W σ ρ Q hW s hr hp => by
  cases e with
  | Compare l ops rs_ p =>
    match ops, rs_, hm with
    | [op, op'], [m, r], hm =>
      obtain ⟨h, h6⟩ := ba hm
      obtain ⟨h, h5⟩ := ba h
      obtain ⟨h, h4⟩ := ba h
      obtain ⟨h, h3⟩ := ba h
      obtain ⟨h1, h2⟩ := ba h
      have h1 := of_decide_eq_true h1
      have h2 := of_decide_eq_true h2
      subst h1
      subst h2
      refine ⟨_, pt_chain (op_rs (f := compareOp (opC o))) (op_rs (f := compareOp (opC o'))) pe_ts pe_ts pe_ts (nb h3), ?_⟩
      have hp : PostR W wx ((evE (glv tb k) a ρ W.h).bind fun x h1 => tst ((evE (glv tb k) b ρ h1).bind fun y h2 => (cmpD o x y h2).bind fun kk h3 => match kk with
          | .bl true => (evE (glv tb k) c ρ h3).bind fun z h4 => cmpD o' y z h4
          | .bl false => .ok (.bl false) h3
          | _ => .bad)) (fun b W' => Q b W'.H) := by
        rw [← tst_bind]
        exact hp
      refine ha.use C h4 hW s hr hp fun x W1 u g1 s1 r1 hp1 => ?_
      rw [tst_bind] at hp1
      refine hb.use C h5 (g1.pa.trans hW) s1 (hr.go g1) hp1 fun y W2 v g2 s2 r2 hp2 => ?_
      have hW2 := g2.pa.trans (g1.pa.trans hW)
      rw [tst_bind] at hp2
      refine cmp_ok C hW2 s2 (r1.go g2) r2 (P := fun d W3 => PostR W3 wx (tst (match d with
        | .bl true => (evE (glv tb k) c ρ W3.h).bind fun z h4 => cmpD o' y z h4
        | .bl false => .ok (.bl false) W3.h
        | _ => .bad)) (fun b W' => Q b W'.H)) (PostR.bind hp2 fun d W3 g3 s3 h3 => h3) fun b h7 => ?_
      refine ⟨b, rfl, ?_⟩
      cases b with
      | true =>
        rw [if_pos rfl]
        simp only at h7
        rw [tst_bind] at h7
        refine hc.use C h6 hW2 s2 (hr.go (g1.trans g2)) h7 fun z W3 w g3 s3 r3 hp3 => ?_
        exact cmp_ok C (g3.pa.trans hW2) s3 (r2.go g3) r3 (P := fun d W3 => ∀ b, d = .bl b → Q b W3.H) (PostR.bind hp3 fun d W3 g3 s3 h3 b e => by subst e; exact PostR.now s3 (a := b) h3) fun b h => ⟨b, rfl, h b rfl⟩
      | false =>
        rw [if_neg Bool.false_ne_true]
        exact ⟨false, rfl, PostR.now s2 (a := false) h7⟩
    | [], _, hm => cases hm
    | [_], _, hm => cases hm
    | _ :: _ :: _ :: _, _, hm => cases hm
    | [_, _], [], hm => cases hm
    | [_, _], [_], hm => cases hm
    | [_, _], _ :: _ :: _ :: _, hm => cases hm
  | _ => cases hm
theorem sndT_isN {a : E} (ha : SndE nm tb pa a) : SndT nm tb pa (.isN a) := fun k wx ct X C e hm W σ ρ Q hW s hr hp => by
  cases e with
  | Compare l ops rs_ p =>
    match ops, rs_, hm with
    | [.Is], [.Constant .none j q], hm =>
      refine ⟨_, pt_cmpR op_isN pe_ts pe_non (nomark _), ?_⟩
      have hp : PostR W wx ((evE (glv tb k) a ρ W.h).bind fun x h1 => tst (match x with
          | .non => .ok (.bl true) h1
          | .ref n => (match getC h1 n with
            | .dead => .bad
            | _ => .ok (.bl false) h1)
          | _ => .ok (.bl false) h1)) (fun b W' => Q b W'.H) := by
        rw [← tst_bind]
        exact hp
      refine ha.use C hm hW s hr hp fun x W1 u g1 s1 r1 hp1 => ⟨rfl, ?_⟩
      rcases isN_at (P := fun d W3 => ∀ b, d = .bl b → Q b W3.H) s1 r1 (PostR.bind hp1 fun d W3 g3 s3 h3 b e => by subst e; exact PostR.now s3 (a := b) h3) with ⟨e, h⟩ | ⟨e, h⟩
      · rw [decide_eq_true e]
        exact ⟨true, rfl, h true rfl⟩
      · rw [decide_eq_false e]
        exact ⟨false, rfl, h false rfl⟩
  | _ => cases hm
theorem sndT_notN {a : E} (ha : SndE nm tb pa a) : SndT nm tb pa (.notN a) := fun k wx ct X C e hm W σ ρ Q hW s hr hp => by
  cases e with
  | Compare l ops rs_ p =>
    match ops, rs_, hm with
    | [.IsNot], [.Constant .none j q], hm =>
      refine ⟨_, pt_cmpR op_notN pe_ts pe_non (nomark _), ?_⟩
      have hp : PostR W wx ((evE (glv tb k) a ρ W.h).bind fun x h1 => tst (match x with
          | .non => .ok (.bl false) h1
          | .ref n => (match getC h1 n with
            | .dead => .bad
            | _ => .ok (.bl true) h1)
          | _ => .ok (.bl true) h1)) (fun b W' => Q b W'.H) := by
        rw [← tst_bind]
        exact hp
      refine ha.use C hm hW s hr hp fun x W1 u g1 s1 r1 hp1 => ⟨rfl, ?_⟩
      rcases isN_at (P := fun d W3 => ∀ b, d = .bl b → Q b W3.H) s1 r1 (PostR.bind hp1 fun d W3 g3 s3 h3 b e => by subst e; exact PostR.now s3 (a := b) h3) with ⟨e, h⟩ | ⟨e, h⟩
      · rw [decide_eq_true e]
        exact ⟨false, rfl, h false rfl⟩
      · rw [decide_eq_false e]
        exact ⟨true, rfl, h true rfl⟩
  | _ => cases hm
theorem sndT_not {a : E} (ha : SndT nm tb pa a) : SndT nm tb pa (.not a) := fun k wx ct X C e hm W σ ρ Q hW s hr hp => by
  cases e with
  | UnaryOp op l p =>
    cases op with
    | Not =>
      refine ⟨tNot (tsT X l), pt_not pt_ts, ?_⟩
      have hp : PostR W wx ((evE (glv tb k) a ρ W.h).bind fun x h1 => tst (match x with
          | .bl b => .ok (.bl (!b)) h1
          | _ => .bad)) (fun b W' => Q b W'.H) := by
        rw [← tst_bind]
        exact hp
      refine ha k wx ct X C l hm W σ ρ _ hW s hr ?_
      show PostR W wx ((evE (glv tb k) a ρ W.h).bind fun d h1 => opt (truD h1 d) h1) _
      generalize evE (glv tb k) a ρ W.h = r at hp ⊢
      cases r with
      | ok d h1 =>
        cases d with
        | bl b => exact hp
        | _ => exact hp.elim
      | exn c d h1 => exact hp
      | bad => exact hp
    | _ => cases hm
  | _ => cases hm
/-- and, or of tests -/
theorem sndW_and : ∀ {cs : List E}, (∀ c, c ∈ cs → SndT nm tb pa c) → ∀ {k : Nat} {wx : XK} {ct : Ct} {X : Cx}, Cok nm tb pa k wx ct X → ∀ {es : List Expr} {p : Pos}, mtEs nm ct cs es = true → ∀ {W : Wd} {σ : L2.St} {ρ : Env} {Q : Bool → Hp → Prop}, W.pa = pa → Sm W → EnvR W ρ σ →
    PostR W wx (tst (evAnd (glv tb k) cs ρ W.h)) (fun b W' => Q b W'.H) → tsW X (.BoolOp .And es p) σ W.H Q
  | [], _, _, _, _, _, _, _, _, _, _, _, _, _, _, _, _, hp => hp.elim
  | [c], h, k, wx, ct, X, C, es, p, hm, W, σ, ρ, Q, hW, s, hr, hp => by
    obtain ⟨e, r, rfl, n1, n2, n3⟩ := mtEs_cons hm
    rw [mtEs_nil n3]
    exact ⟨tsT X e, pw_and1 pt_ts, h c List.mem_cons_self k wx ct X C e n2 W σ ρ Q hW s hr hp⟩
  | c :: c2 :: cs, h, k, wx, ct, X, C, es, p, hm, W, σ, ρ, Q, hW, s, hr, hp => by
    obtain ⟨e, r, rfl, n1, n2, n3⟩ := mtEs_cons hm
    obtain ⟨e2, r2, rfl, m1, m2, m3⟩ := mtEs_cons n3
    refine ⟨tAnd (tsT X e) (tsW X (.BoolOp .And (e2 :: r2) p)), pw_and pt_ts pw_ts, ?_⟩
    have hp : PostR W wx ((evE (glv tb k) c ρ W.h).bind fun d h1 => tst (match d with
        | .bl true => evAnd (glv tb k) (c2 :: cs) ρ h1
        | .bl false => .ok (.bl false) h1
        | _ => .bad)) (fun b W' => Q b W'.H) := by
      rw [← tst_bind]
      exact hp
    refine h c List.mem_cons_self k wx ct X C e n2 W σ ρ _ hW s hr ?_
    have key : ∀ (b : Bool) (W1 : Wd), Go W W1 → Sm W1 → PostR W1 wx (tst (match (D.bl b) with
        | .bl true => evAnd (glv tb k) (c2 :: cs) ρ W1.h
        | .bl false => .ok (.bl false) W1.h
        | _ => .bad)) (fun b W' => Q b W'.H) → (if b = true then tsW X (.BoolOp .And (e2 :: r2) p) σ W1.H Q else Q false W1.H) := fun b W1 g1 s1 h1 => by
      cases b with
      | true =>
        rw [if_pos rfl]
        exact sndW_and (fun x hx => h x (List.mem_cons_of_mem _ hx)) C n3 (g1.pa.trans hW) s1 (hr.go g1) h1
      | false =>
        rw [if_neg Bool.false_ne_true]
        exact PostR.now s1 (a := false) h1
    show PostR W wx ((evE (glv tb k) c ρ W.h).bind fun d h1 => opt (truD h1 d) h1) _
    generalize evE (glv tb k) c ρ W.h = rr at hp ⊢
    cases rr with
    | ok d h1 =>
      cases d with
      | bl b =>
        intro W1 g1 s1 e1
        subst e1
        exact key b W1 g1 s1 (PostR.go g1 hp)
      | _ => exact hp.elim
    | exn c d h1 => exact hp
    | bad => exact hp
theorem sndW_or : ∀ {cs : List E}, (∀ c, c ∈ cs → SndT nm tb pa c) → ∀ {k : Nat} {wx : XK} {ct : Ct} {X : Cx}, Cok nm tb pa k wx ct X → ∀ {es : List Expr} {p : Pos}, mtEs nm ct cs es = true → ∀ {W : Wd} {σ : L2.St} {ρ : Env} {Q : Bool → Hp → Prop}, W.pa = pa → Sm W → EnvR W ρ σ →
    PostR W wx (tst (evOr (glv tb k) cs ρ W.h)) (fun b W' => Q b W'.H) → tsW X (.BoolOp .Or es p) σ W.H Q
  | [], _, _, _, _, _, _, _, _, _, _, _, _, _, _, _, _, hp => hp.elim
  | [c], h, k, wx, ct, X, C, es, p, hm, W, σ, ρ, Q, hW, s, hr, hp => by
    obtain ⟨e, r, rfl, n1, n2, n3⟩ := mtEs_cons hm
    rw [mtEs_nil n3]
    exact ⟨tsT X e, pw_or1 pt_ts, h c List.mem_cons_self k wx ct X C e n2 W σ ρ Q hW s hr hp⟩
  | c :: c2 :: cs, h, k, wx, ct, X, C, es, p, hm, W, σ, ρ, Q, hW, s, hr, hp => by
    obtain ⟨e, r, rfl, n1, n2, n3⟩ := mtEs_cons hm
    obtain ⟨e2, r2, rfl, m1, m2, m3⟩ := mtEs_cons n3
    refine ⟨tOr (tsT X e) (tsW X (.BoolOp .Or (e2 :: r2) p)), pw_or pt_ts pw_ts, ?_⟩
    have hp : PostR W wx ((evE (glv tb k) c ρ W.h).bind fun d h1 => tst (match d with
        | .bl false => evOr (glv tb k) (c2 :: cs) ρ h1
        | .bl true => .ok (.bl true) h1
        | _ => .bad)) (fun b W' => Q b W'.H) := by
      rw [← tst_bind]
      exact hp
    refine h c List.mem_cons_self k wx ct X C e n2 W σ ρ _ hW s hr ?_
    have key : ∀ (b : Bool) (W1 : Wd), Go W W1 → Sm W1 → PostR W1 wx (tst (match (D.bl b) with
        | .bl false => evOr (glv tb k) (c2 :: cs) ρ W1.h
        | .bl true => .ok (.bl true) W1.h
        | _ => .bad)) (fun b W' => Q b W'.H) → (if b = true then Q true W1.H else tsW X (.BoolOp .Or (e2 :: r2) p) σ W1.H Q) := fun b W1 g1 s1 h1 => by
      cases b with
      | false =>
        rw [if_neg Bool.false_ne_true]
        exact sndW_or (fun x hx => h x (List.mem_cons_of_mem _ hx)) C n3 (g1.pa.trans hW) s1 (hr.go g1) h1
      | true =>
        rw [if_pos rfl]
        exact PostR.now s1 (a := true) h1
    show PostR W wx ((evE (glv tb k) c ρ W.h).bind fun d h1 => opt (truD h1 d) h1) _
    generalize evE (glv tb k) c ρ W.h = rr at hp ⊢
    cases rr with
    | ok d h1 =>
      cases d with
      | bl b =>
        intro W1 g1 s1 e1
        subst e1
        exact key b W1 g1 s1 (PostR.go g1 hp)
      | _ => exact hp.elim
    | exn c d h1 => exact hp
    | bad => exact hp
theorem sndT_and {cs : List E} (h : ∀ c, c ∈ cs → SndT nm tb pa c) : SndT nm tb pa (.and cs) := fun k wx ct X C e hm W σ ρ Q hW s hr hp => by
  cases e with
  | BoolOp op es p =>
    cases op with
    | And => exact ⟨_, (pw_ts (e := .BoolOp .And es p)).pt, sndW_and h C (ba hm).2 hW s hr hp⟩
    | Or => cases hm
  | _ => cases hm
theorem sndT_or {cs : List E} (h : ∀ c, c ∈ cs → SndT nm tb pa c) : SndT nm tb pa (.or cs) := fun k wx ct X C e hm W σ ρ Q hW s hr hp => by
  cases e with
  | BoolOp op es p =>
    cases op with
    | Or => exact ⟨_, (pw_ts (e := .BoolOp .Or es p)).pt, sndW_or h C (ba hm).2 hW s hr hp⟩
    | And => cases hm
  | _ => cases hm
/-- and, or as values -/
theorem sndV_and : ∀ {cs : List E}, (∀ c, c ∈ cs → SndE nm tb pa c) → ∀ {k : Nat} {wx : XK} {ct : Ct} {X : Cx}, Cok nm tb pa k wx ct X → ∀ {es : List Expr} {p : Pos}, mtEs nm ct cs es = true → ∀ {W W0 : Wd} {σ : L2.St} {ρ : Env} {Q : VK}, W.pa = pa → Sm W → EnvR W ρ σ →
    PostR W wx (evAnd (glv tb k) cs ρ W.h) (PE' W0 false Q) → tsE X (.BoolOp .And es p) σ W.H Q
  | [], _, _, _, _, _, _, _, _, _, _, _, _, _, _, _, _, _, hp => hp.elim
  | [c], h, k, wx, ct, X, C, es, p, hm, W, W0, σ, ρ, Q, hW, s, hr, hp => by
    obtain ⟨e, r, rfl, n1, n2, n3⟩ := mtEs_cons hm
    rw [mtEs_nil n3]
    exact ⟨tsE X e, pe_one pe_ts, h c List.mem_cons_self k wx ct X C e n2 W σ ρ Q hW s hr (hp.imp fun d W1 _ _ h v rv _ => h v rv fun z => by cases z)⟩
  | c :: c2 :: cs, h, k, wx, ct, X, C, es, p, hm, W, W0, σ, ρ, Q, hW, s, hr, hp => by
    obtain ⟨e, r, rfl, n1, n2, n3⟩ := mtEs_cons hm
    obtain ⟨e2, r2, rfl, m1, m2, m3⟩ := mtEs_cons n3
    refine ⟨tAndV (tsE X e) (tsE X (.BoolOp .And (e2 :: r2) p)), pe_and pe_ts pe_ts, ?_⟩
    refine (h c List.mem_cons_self).use C n2 hW s hr hp fun d W1 v g1 s1 r1 hp1 => ?_
    cases d with
    | bl b =>
      have e1 : v = .bl b := r1
      refine ⟨b, e1, ?_⟩
      cases b with
      | true =>
        rw [if_pos rfl]
        exact sndV_and (fun x hx => h x (List.mem_cons_of_mem _ hx)) C n3 (g1.pa.trans hW) s1 (hr.go g1) hp1
      | false =>
        rw [if_neg Bool.false_ne_true]
        exact hp1.now s1 _ rfl fun z => by cases z
    | _ => exact hp1.elim
theorem sndV_or : ∀ {cs : List E}, (∀ c, c ∈ cs → SndE nm tb pa c) → ∀ {k : Nat} {wx : XK} {ct : Ct} {X : Cx}, Cok nm tb pa k wx ct X → ∀ {es : List Expr} {p : Pos}, mtEs nm ct cs es = true → ∀ {W W0 : Wd} {σ : L2.St} {ρ : Env} {Q : VK}, W.pa = pa → Sm W → EnvR W ρ σ →
    PostR W wx (evOr (glv tb k) cs ρ W.h) (PE' W0 false Q) → tsE X (.BoolOp .Or es p) σ W.H Q
  | [], _, _, _, _, _, _, _, _, _, _, _, _, _, _, _, _, _, hp => hp.elim
  | [c], h, k, wx, ct, X, C, es, p, hm, W, W0, σ, ρ, Q, hW, s, hr, hp => by
    obtain ⟨e, r, rfl, n1, n2, n3⟩ := mtEs_cons hm
    rw [mtEs_nil n3]
    exact ⟨tsE X e, pe_one pe_ts, h c List.mem_cons_self k wx ct X C e n2 W σ ρ Q hW s hr (hp.imp fun d W1 _ _ h v rv _ => h v rv fun z => by cases z)⟩
  | c :: c2 :: cs, h, k, wx, ct, X, C, es, p, hm, W, W0, σ, ρ, Q, hW, s, hr, hp => by
    obtain ⟨e, r, rfl, n1, n2, n3⟩ := mtEs_cons hm
    obtain ⟨e2, r2, rfl, m1, m2, m3⟩ := mtEs_cons n3
    refine ⟨tOrV (tsE X e) (tsE X (.BoolOp .Or (e2 :: r2) p)), pe_or pe_ts pe_ts, ?_⟩
    refine (h c List.mem_cons_self).use C n2 hW s hr hp fun d W1 v g1 s1 r1 hp1 => ?_
    cases d with
    | bl b =>
      have e1 : v = .bl b := r1
      refine ⟨b, e1, ?_⟩
      cases b with
      | false =>
        rw [if_neg Bool.false_ne_true]
        exact sndV_or (fun x hx => h x (List.mem_cons_of_mem _ hx)) C n3 (g1.pa.trans hW) s1 (hr.go g1) hp1
      | true =>
        rw [if_pos rfl]
        exact hp1.now s1 _ rfl fun z => by cases z
    | _ => exact hp1.elim
theorem snd_and {cs : List E} (h : ∀ c, c ∈ cs → SndE nm tb pa c) : SndE nm tb pa (.and cs) := fun k wx ct X C e hm W σ ρ Q hW s hr hp => by
  cases e with
  | BoolOp op es p =>
    cases op with
    | And => exact sndV_and h C (ba hm).2 hW s hr hp
    | Or => cases hm
  | _ => cases hm
theorem snd_or {cs : List E} (h : ∀ c, c ∈ cs → SndE nm tb pa c) : SndE nm tb pa (.or cs) := fun k wx ct X C e hm W σ ρ Q hW s hr hp => by
  cases e with
  | BoolOp op es p =>
    cases op with
    | Or => exact sndV_or h C (ba hm).2 hW s hr hp
    | And => cases hm
  | _ => cases hm
theorem snd_ite {t a b : E} (ht : SndT nm tb pa t) (ha : SndE nm tb pa a) (hb : SndE nm tb pa b) : SndE nm tb pa (.ite t a b) := fun k wx ct X C e hm W σ ρ Q hW s hr hp => by
  cases e with
  | IfExp x y z p =>
    obtain ⟨h, h3⟩ := ba hm
    obtain ⟨h1, h2⟩ := ba h
    refine ⟨tIf (tsT X x) (tsE X y) (tsE X z), pe_ifExp pt_ts pe_ts pe_ts, ?_⟩
    refine ht.use C h1 hW s hr (f := fun kk h1 => match kk with
      | true => evE (glv tb k) a ρ h1
      | false => evE (glv tb k) b ρ h1) hp fun kk W1 g1 s1 hp1 => ?_
    cases kk with
    | true =>
      rw [if_pos rfl]
      exact ha k wx ct X C y h2 W1 σ ρ Q (g1.pa.trans hW) s1 (hr.go g1) (hp1.imp fun d W2 _ _ h v rv _ => h v rv fun z => by cases z)
    | false =>
      rw [if_neg Bool.false_ne_true]
      exact hb k wx ct X C z h3 W1 σ ρ Q (g1.pa.trans hW) s1 (hr.go g1) (hp1.imp fun d W2 _ _ h v rv _ => h v rv fun z => by cases z)
  | _ => cases hm
end
end Cl
/-! text ClI -/
set_option maxHeartbeats 1000007
/-! What a code says holds of the text: built-ins called, isinstance, methods of lists, properties, own and frozen lists. -/
namespace Cl
open PySem L2
theorem boot_bi (b : BI) : bootBuiltins (Str.ofString (biN b)) = some (biV b) := by
  cases b <;> decide +kernel
theorem boot_ty (t : Ty) : bootBuiltins (Str.ofString (tyN t)) = some (.type (tyN t)) := by
  cases t <;> decide +kernel
theorem boot_isi : bootBuiltins (Str.ofString "isinstance") = some (.builtin "isinstance") := by decide +kernel
theorem nm_bi (b : BI) : Str.ofString (biN b) ≠ "__name__" ∧ (Str.ofString (biN b) == ("__debug__" : Str)) = false := by
  cases b <;> decide +kernel
theorem nm_ty (t : Ty) : Str.ofString (tyN t) ≠ "__name__" ∧ (Str.ofString (tyN t) == ("__debug__" : Str)) = false := by
  cases t <;> decide +kernel
theorem nm_isi : Str.ofString "isinstance" ≠ "__name__" ∧ (Str.ofString "isinstance" == ("__debug__" : Str)) = false := by decide +kernel
section
variable {nm : Nm} {tb : Tbl} {pa : Pa}
theorem snd_bi {b : BI} {cs : List E} (h : SndEs nm tb pa cs) : SndE nm tb pa (.bi b cs) := fun k wx ct X C e hm W σ ρ Q hW s hr hp => by
  cases e with
  | Call g es kws p =>
    cases kws with
    | cons _ _ => cases hm
    | nil =>
      obtain ⟨h1, h2⟩ := ba hm
      obtain ⟨x, q, rfl, hx, g1, g2⟩ := C.blt h1
      have hp : PostR W wx ((evEs (glv tb k) cs ρ W.h).bind fun ds h1 => biD b ds h1) (PE' W (freshE (.bi b cs)) Q) := hp
      cases cs with
      | nil =>
        cases b <;> exact hp.elim
      | cons c cs =>
        obtain ⟨e', r', rfl, n1, n2, n3⟩ := mtEs_cons h2
        have fin : tsA X (e' :: r') σ W.H fun vs H1 => rc X (biV b) vs H1 Q :=
          h.use C h2 hW s hr hp fun ds W1 vs g1 s1 r1 hp1 => bi_ok C (g1.pa.trans hW) g1 s1 r1 hp1
        obtain ⟨m1, m2⟩ := nm_bi b
        subst hx
        have ty : ∀ T : String, biV b = .type T → tsE X (.Call (.Name (Str.ofString (biN b)) q) (e' :: r') [] p) σ W.H Q := fun T hT => by
          refine ⟨_, pe_callTy (T := T) (call_rc (f := .type T)) g1 g2 (by rw [boot_bi, hT]) pa_ts m1 m2 (star_cons n1) (plain_args n3).1, ?_⟩
          rw [hT] at fin
          exact fin
        have bl : ∀ T : String, biV b = .builtin T → tsE X (.Call (.Name (Str.ofString (biN b)) q) (e' :: r') [] p) σ W.H Q := fun T hT => by
          refine ⟨_, pe_callB (id := T) (call_rc (f := .builtin T)) g1 g2 (by rw [boot_bi, hT]) pa_ts m1 m2 (star_cons n1) (plain_args n3).1, ?_⟩
          rw [hT] at fin
          exact fin
        cases b with
        | len => exact bl _ rfl
        | all => exact bl _ rfl
        | any => exact bl _ rfl
        | sum => exact bl _ rfl
        | max => exact bl _ rfl
        | min => exact bl _ rfl
        | tuple => exact ty _ rfl
        | list => exact ty _ rfl
        | int => exact ty _ rfl
  | _ => cases hm
theorem pe_ty {k : Nat} {wx : XK} {ct : Ct} {X : Cx} (C : Cok nm tb pa k wx ct X) {t : Ty} {e : Expr} (h : bltB nm ct.sc (tyN t) e = true) : PE X e (tC (.ty (tyN t))) ∧ isStarE e = false := by
  obtain ⟨x, q, rfl, hx, g1, g2⟩ := C.blt h
  subst hx
  obtain ⟨m1, m2⟩ := nm_ty t
  exact ⟨pe_bltn g1 g2 (boot_ty t) rfl m1 m2, rfl⟩
theorem tys_ok {k : Nat} {wx : XK} {ct : Ct} {X : Cx} (C : Cok nm tb pa k wx ct X) : ∀ {ts : List Ty} {es : List Expr}, mtTys nm ct.sc ts es = true → ∀ {σ : L2.St} {H : Hp} {Q : List V → Hp → Prop}, Q (ts.map fun t => V.ty (tyN t)) H → tsA X es σ H Q
  | [], es, h, σ, H, Q, q => by
    cases es with
    | nil => exact ⟨tNil, pa_nil, q⟩
    | cons _ _ => cases h
  | t :: ts, [], h, _, _, _, _ => by cases h
  | t :: ts, e :: es, h, σ, H, Q, q => by
    obtain ⟨h1, h2⟩ := ba h
    obtain ⟨p1, p2⟩ := pe_ty C h1
    refine ⟨tCons (tC (.ty (tyN t))) (tsA X es), pa_cons p1 pa_ts (star_cons p2), ?_⟩
    exact tys_ok C h2 (Q := fun vs H => Q (.ty (tyN t) :: vs) H) q
theorem tys_len {sc : Scope} : ∀ {ts : List Ty} {es : List Expr}, mtTys nm sc ts es = true → ts.length = es.length
  | [], [], _ => rfl
  | [], _ :: _, h => by cases h
  | _ :: _, [], h => by cases h
  | t :: ts, e :: es, h => congrArg Nat.succ (tys_len (ba h).2)
theorem paired_ty : ∀ ts : List Ty, Paired ClsV (ts.map fun t => V.ty (tyN t)) (ts.map fun t => Value.type (tyN t))
  | [] => .nil
  | t :: ts => .cons (.ty _) (paired_ty ts)
theorem snd_isi {a : E} {ts : List Ty} (ha : SndE nm tb pa a) : SndE nm tb pa (.isi a ts) := fun k wx ct X C e hm W σ ρ Q hW s hr hp => by
  cases e with
  | Call g es kws p =>
    match es, kws, hm with
    | [x, y], [], hm =>
      obtain ⟨h, h3⟩ := ba hm
      obtain ⟨h, h2⟩ := ba h
      obtain ⟨h1, h0⟩ := ba h
      obtain ⟨z, q, rfl, hx, g1, g2⟩ := C.blt h1
      subst hx
      have hp : PostR W wx ((evE (glv tb k) a ρ W.h).bind fun x h1 => match isTys h1 x ts with
          | some b => .ok (.bl b) h1
          | none => .bad) (PE' W false Q) := hp
      have first : ∀ (Q2 : V → Hp → Prop), (∀ v W1 d a, Go W W1 → Sm W1 → Rep W1 d v → tyD W1.h d = some a → PostR W1 wx (.ok (.bl (ts.any (isTy a))) W1.h) (PE' W false Q) → Q2 v W1.H) → tsE X x σ W.H Q2 := fun Q2 kk =>
        ha.use C h2 hW s hr hp fun d W1 v g1 s1 r1 hp1 => by
          unfold isTys at hp1
          cases ht : tyD W1.h d with
          | none =>
            rw [ht] at hp1
            exact hp1.elim
          | some a =>
            rw [ht] at hp1
            exact kk v W1 d a g1 s1 r1 ht hp1
      have hKof : ∀ {W1 : Wd}, Go W W1 → X.K = W1.pa.K := fun g => by rw [C.K, g.pa, hW]
      obtain ⟨m1, m2⟩ := nm_isi
      have sx : ∀ r, starEach (x :: r) X.env = (false, eval x X.env) :: starEach r X.env := fun r => star_cons (nb h0)
      have one : ∀ t : Ty, ts = [t] → bltB nm ct.sc (tyN t) y = true → tsE X (.Call (.Name (Str.ofString "isinstance") q) [x, y] [] p) σ W.H Q := fun t et hy => by
        obtain ⟨p1, p2⟩ := pe_ty C hy
        refine ⟨_, pe_callB call_isi g1 g2 boot_isi (pa_cons pe_ts (pa_cons p1 pa_nil (star_cons p2)) (sx _)) m1 m2 (sx _) (by rw [star_cons p2]; rfl), ?_⟩
        refine first _ fun v W1 d a g1 s1 r1 ht hp1 => ?_
        refine ⟨v, .ty (tyN t), .type a, .type (tyN t), isTy a t, rfl, .ty _, ty_at (hKof g1) s1 r1 ht, kit_ty (kit_all a (tyD_mem ht) t), ?_⟩
        have e : ts.any (isTy a) = isTy a t := by rw [et]; simp
        rw [e] at hp1
        exact PostR.now s1 hp1 _ rfl fun z => by cases z
      cases y with
      | Tuple ys j q2 =>
        have h3 : (decide (ys.length < 30) && mtTys nm ct.sc ts ys) = true := by
          cases ts with
          | nil => exact h3
          | cons t ts =>
            cases ts with
            | nil => cases h3
            | cons _ _ => exact h3
        obtain ⟨hl30, h3⟩ := ba h3
        have hl30 := of_decide_eq_true hl30
        refine ⟨_, pe_callB call_isiT g1 g2 boot_isi (pa_cons pe_ts (pa_cons (pe_tup (pa_ts (es := ys))) pa_nil (star_cons rfl)) (sx _)) m1 m2 (sx _) (by rw [star_cons rfl]; rfl), ?_⟩
        refine first _ fun v W1 d a g1 s1 r1 ht hp1 => ?_
        refine tys_ok C h3 ⟨?_, fun p hp' => ?_⟩
        · rw [List.length_map, tys_len h3]
          exact Nat.le_of_lt (Nat.lt_of_lt_of_le hl30 (by decide))
        · have gl := go_lay (o := .tup (ts.map fun t => V.ty (tyN t))) s1 hp'
          have sl := sm_lay (o := .tup (ts.map fun t => V.ty (tyN t))) s1 hp'
          refine ⟨v, p, ts.map fun t => V.ty (tyN t), .type a, ts.map fun t => Value.type (tyN t), _, rfl, upd_same, paired_ty ts, ty_at (hKof (g1.trans gl)) sl (r1.go gl) ht, kitAny_ok (tyD_mem ht) ts, ?_⟩
          exact hp1 _ gl sl rfl _ rfl fun z => by cases z
      | _ =>
        refine Exists.elim (?_ : ∃ t, ts = [t] ∧ bltB nm ct.sc (tyN t) _ = true) fun t h => one t h.1 h.2
        clear one first hp hm ha
        cases ts with
        | nil => cases h3
        | cons t ts =>
          cases ts with
          | nil => exact ⟨t, rfl, h3⟩
          | cons _ _ => cases h3
    | [], _, hm => cases hm
    | [_], _, hm => cases hm
    | _ :: _ :: _ :: _, _, hm => cases hm
    | [_, _], _ :: _, hm => cases hm
  | _ => cases hm
theorem bm_facts (m : BM) : ∃ T : String, T = "list" ∧ PlainAttrs T ∧ Slot T (Str.ofString (bmN m)) (bmI m) ∧ typeOf (.builtin (bmI m)) = pure (.type "method_descriptor") := by
  cases m
  · exact ⟨_, rfl, PySem.F.plainAttrs_list, PySem.F.slot_list_append, PySem.F.type_list_append⟩
  · exact ⟨_, rfl, PySem.F.plainAttrs_list, PySem.F.slot_list_pop, PySem.F.type_list_pop⟩
  · exact ⟨_, rfl, PySem.F.plainAttrs_list, PySem.F.slot_list_extend, PySem.F.type_list_extend⟩
theorem snd_bm {m : BM} {o : E} {cs : List E} (ho : SndE nm tb pa o) (h : SndEs nm tb pa cs) : SndE nm tb pa (.bm m o cs) := fun k wx ct X C e hm W σ ρ Q hW s hr hp => by
  cases e with
  | Call g es kws cp =>
    cases kws with
    | cons _ _ => cases g <;> cases hm
    | nil =>
      cases g with
      | Attribute x n ap =>
        obtain ⟨hh, h6⟩ := ba hm
        obtain ⟨hh, h5⟩ := ba hh
        obtain ⟨hh, h4⟩ := ba hh
        obtain ⟨hh, h3⟩ := ba hh
        obtain ⟨h1, h2⟩ := ba hh
        have h1 := of_decide_eq_true h1
        have h4 := of_decide_eq_true h4
        subst h1
        obtain ⟨T, hT, pA, sl, ty⟩ := bm_facts m
        have hp : PostR W wx ((evE (glv tb k) o ρ W.h).bind fun x h1 => match lstOf h1 x with
            | none => .bad
            | some _ => (evEs (glv tb k) cs ρ h1).bind fun ds h2 => bmD m x ds h2) (PE' W false Q) := hp
        have hKof : ∀ {W1 : Wd}, Go W W1 → X.K = W1.pa.K := fun g => by rw [C.K, g.pa, hW]
        have tyl : ∀ {W1 : Wd} {d : D} {v : V} {xs : List D}, Go W W1 → Sm W1 → Rep W1 d v → lstOf W1.h d = some xs → tyV X.K T v W1.H := fun g1 s1 r1 hl => by
          obtain ⟨a, vs, rfl, ha, _⟩ := lst_at s1 r1 hl
          exact .inl ⟨hT, vs, SqL.of ha⟩
        cases es with
        | nil =>
          cases cs with
          | cons _ _ => cases h6
          | nil =>
            refine ⟨_, pe_bm0 pA sl ty (mt_rb (id := bmI m)) pe_ts (base_ok h2) h3, ?_⟩
            refine ho.use C h5 hW s hr hp fun d W1 v g1 s1 r1 hp1 => ?_
            cases hl : lstOf W1.h d with
            | none =>
              rw [hl] at hp1
              exact hp1.elim
            | some xs =>
              rw [hl] at hp1
              refine ⟨tyl g1 s1 r1 hl, ?_⟩
              exact (bm_ok C (g1.pa.trans hW) s1 r1 (vs := []) rfl (xs := []) hp1).2
        | cons e1 es =>
          cases cs with
          | nil => cases h6
          | cons c cs =>
            obtain ⟨e', r', ee, n1, n2, n3⟩ := mtEs_cons h6
            cases ee
            have hfew : ((backTo cp (starEach (e1 :: es) X.env)).all (fun x => !x.1) && (backToKw cp (keywordEach [] X.env)).all (fun x => x.1.isSome)
                && decide ((e1 :: es).length + ([] : List Keyword).length + (if ([] : List Keyword).isEmpty then 0 else 1) < 30)) = true := by
              rw [(plain_args h6).2]
              show (true && true && decide ((e1 :: es).length + 0 + 0 < 30)) = true
              exact decide_eq_true h4
            refine ⟨_, pe_bm pA sl ty (mt_rb (id := bmI m)) pe_ts pa_ts (base_ok h2) hfew h3 (star_cons n1) (plain_args n3).1, ?_⟩
            refine ho.use C h5 hW s hr hp fun d W1 v g1 s1 r1 hp1 => ?_
            cases hl : lstOf W1.h d with
            | none =>
              rw [hl] at hp1
              exact hp1.elim
            | some xs =>
              rw [hl] at hp1
              refine ⟨tyl g1 s1 r1 hl, ?_⟩
              exact h.use C h6 (g1.pa.trans hW) s1 (hr.go g1) hp1 fun ds W2 vs g2 s2 r2 hp2 => (bm_ok C (g2.pa.trans (g1.pa.trans hW)) s2 (r1.go g2) r2 hp2).2
      | _ => cases hm
  | _ => cases hm
theorem cls_at {W : Wd} (s : Sm W) {d : D} {v : V} {c : Nat} (r : Rep W d v) (e : clsOf W.h d = some c) : ∃ a dx gs, v = .ref a ∧ W.H a = some (.ins (W.pa.ca c) dx gs) := by
  cases d with
  | obj c' ys =>
    cases e
    obtain ⟨a, dx, gs, rfl, h, _, l, q⟩ := r
    exact ⟨a, dx, gs, rfl, h⟩
  | ref n =>
    obtain ⟨l, hv⟩ := r
    cases hc : getC W.h n with
    | ins c' ys =>
      simp only [clsOf, hc] at e
      cases e
      obtain ⟨a, ea, q⟩ := s.at l (by rw [hc]; intro z; cases z)
      rw [hc] at q
      obtain ⟨l, dx, gs, h1, h2⟩ := q
      exact ⟨a, dx, gs, hv a ea, h1⟩
    | lst ys =>
      simp only [clsOf, hc] at e
      cases e
    | lck ys =>
      simp only [clsOf, hc] at e
      cases e
    | dead =>
      simp only [clsOf, hc] at e
      cases e
  | _ => cases e
theorem PostR.shut_ {α : Type} {W : Wd} {wx wx' : XK} {r : R α} {P : α → Wd → Prop} (h : PostR W wx r.shut P) : PostR W wx' r P := by
  cases r with
  | ok a h' => exact h
  | exn c d h' => exact h.elim
  | bad => exact h
theorem snd_prop {c f : Nat} {a : E} (ha : SndE nm tb pa a) : SndE nm tb pa (.prop c f a) := fun k wx ct X C e hm W σ ρ Q hW s hr hp => by
  cases e with
  | Attribute l g p =>
    obtain ⟨h, h3⟩ := ba hm
    obtain ⟨h1, h2⟩ := ba h
    cases hq : nm.prop f with
    | none =>
      rw [hq] at h3
      cases h3
    | some cy =>
      obtain ⟨c', y⟩ := cy
      rw [hq] at h3
      obtain ⟨e1, e2⟩ := ba h3
      have e1 := of_decide_eq_true e1
      have e2 : c' = c := eq_of_beq e2
      subst e1
      subst e2
      have hp : PostR W wx ((evE (glv tb k) a ρ W.h).bind fun x h1 => match clsOf h1 x with
          | some d => ifR (d == c') (callI tb (k - 1) f [x] h1).shut
          | none => .bad) (PE' W false Q) := hp
      cases k with
      | zero =>
        refine ⟨tFld X.K (tsE X l) y, pe_fld pe_ts (base_ok h1), ?_⟩
        refine ha.use C h2 hW s hr hp fun d W1 v g1 s1 r1 hp1 => ?_
        cases hc : clsOf W1.h d with
        | none =>
          rw [hc] at hp1
          exact hp1.elim
        | some c2 =>
          rw [hc] at hp1
          exact (PostR.if_ hp1).2.elim
      | succ k =>
        obtain ⟨pp, gg, fd, ps, P1, P2, P3, P4⟩ := (C.fx k (Nat.le_succ _)).prop f c' y hq
        refine ⟨_, pe_prop (k := k) (C := pa.ca c') (E := E0) (dvs := []) pe_ts (by rw [C.K] at P2 ⊢; exact P2) (by rw [C.K] at P1 ⊢; exact P1) P3 C.rm P4 .nil passL (base_ok h1), ?_⟩
        refine ha.use C h2 hW s hr hp fun d W1 v g1 s1 r1 hp1 => ?_
        cases hc : clsOf W1.h d with
        | none =>
          rw [hc] at hp1
          exact hp1.elim
        | some c2 =>
          rw [hc] at hp1
          obtain ⟨e3, hq1⟩ := PostR.if_ hp1
          have hp2 : PostR W1 wx (callI tb k f [d] W1.h).shut (PE' W false Q) := hq1
          have e3 : c2 = c' := eq_of_beq e3
          subst e3
          obtain ⟨b, dx, gs, eu, hb⟩ := cls_at s1 r1 hc
          have hpa : W1.pa = pa := g1.pa.trans hW
          refine ⟨b, dx, gs, eu, by rw [← hpa]; exact hb, W1, [d], hpa, rfl, s1, ⟨v, [], by rw [eu], r1, rfl⟩, ?_, PostR.shut_ (hp2.imp fun d W2 _ _ h v rv _ => h v rv fun z => by cases z)⟩
          cases k with
          | zero => exact hp2.elim
          | succ k =>
            rw [callI_succ] at hp2
            cases hF : tb.fn f with
            | none =>
              rw [hF] at hp2
              exact hp2.elim
            | some F =>
              rw [hF] at hp2
              have hp3 := PostR.shut_ (wx' := wx) hp2
              exact ⟨F, rfl, of_decide_eq_true (PostR.if_ hp3).1⟩
  | _ => cases hm
theorem range_n (s : String) : True := trivial
theorem boot_nm (x : String) (h : x = "range" ∨ x = "list" ∨ x = "tuple" ∨ x = "enumerate" ∨ x = "zip") : (Str.ofString x == ("__debug__" : Str)) = false := by
  rcases h with rfl | rfl | rfl | rfl | rfl <;> decide +kernel
theorem rng_at {W : Wd} {ds : List D} {vs : List V} {lo : Int} {n : Nat} (r : RepA W ds vs) (e : rngD ds = some (lo, n)) :
    (∃ j, vs = [.int j] ∧ lo = 0 ∧ n = j.toNat ∧ -(2 ^ 62) ≤ j ∧ j < 2 ^ 62) ∨ (∃ j, vs = [.int lo, .int j] ∧ n = (j - lo).toNat ∧ (-(2 ^ 62) ≤ lo ∧ lo < 2 ^ 62 ∧ -(2 ^ 62) ≤ j ∧ j < 2 ^ 62)) := by
  unfold rngD at e
  split at e
  · rename_i j
    split at e
    · rename_i hh
      cases e
      obtain ⟨h1, h2⟩ := ba hh
      obtain ⟨v, rfl, rv⟩ := one_arg' (xs := []) r
      have : v = .int j := rv
      subst this
      exact .inl ⟨j, rfl, rfl, rfl, of_decide_eq_true h1, of_decide_eq_true h2⟩
    · cases e
  · rename_i i j
    split at e
    · rename_i hh
      cases e
      obtain ⟨hh, h4⟩ := ba hh
      obtain ⟨hh, h3⟩ := ba hh
      obtain ⟨h1, h2⟩ := ba hh
      obtain ⟨v, w, rfl, rv, rw_⟩ := two_args r
      have : v = .int lo := rv
      subst this
      have : w = .int j := rw_
      subst this
      exact .inr ⟨j, rfl, rfl, ⟨of_decide_eq_true h1, of_decide_eq_true h2, of_decide_eq_true h3, of_decide_eq_true h4⟩⟩
    · cases e
  · cases e
theorem rngL_rep {W : Wd} (lo : Int) : ∀ n : Nat, RepA W (rngL lo n) ((List.range n).map fun i => V.int (lo + (i : Nat)))
  | 0 => rfl
  | n + 1 => by
    unfold rngL
    rw [List.range_succ, List.map_append, List.map_append]
    exact (rngL_rep lo n).append (RepA.one rfl)
def sqO (t : Bool) (vs : List V) : HO := match t with
  | true => .tup vs
  | false => .lst vs
theorem end_rng {t : Bool} {lo hi : Int} {n : Nat} {W W0 : Wd} {wx : XK} {Q : VK} (hn : n = (hi - lo).toNat) (g : Go W0 W) (s : Sm W) (hb : -(2 ^ 62) ≤ lo ∧ lo < 2 ^ 62 ∧ -(2 ^ 62) ≤ hi ∧ hi < 2 ^ 62)
    (hp : PostR W wx (ifR (lim n) (.ok (sqV t (rngL lo n)) W.h)) (PE' W0 true Q)) : RgOk lo hi ∧ ∀ q, W.H q = none → Q (.ref q) (upd W.H q (sqO t (rgV lo hi))) := by
  subst hn
  obtain ⟨hl, hp⟩ := PostR.if_ hp
  have hl := limOk hl
  refine ⟨⟨hb.1, hb.2.1, hb.2.2.1, hb.2.2.2, Nat.le_trans hl (by decide)⟩, fun q hq => ?_⟩
  cases t with
  | true => exact end_tup s hp hq (rngL_rep lo _)
  | false => exact end_lst s g hp hq (rngL_rep lo _)
theorem tyB {t : Bool} (h : Bool) : True := trivial
theorem snd_rngT {t : Bool} {cs : List E} (h : ∀ c, c ∈ cs → SndE nm tb pa c) : SndE nm tb pa (.rngT t cs) := fun k wx ct X C e hm W σ ρ Q hW s hr hp => by
  cases e with
  | Call g es kws p =>
    match es, kws, hm with
    | [.Call hh es [] p2], [], hm =>
      obtain ⟨h0, h3⟩ := ba hm
      obtain ⟨h0, hlen⟩ := ba h0
      obtain ⟨h1, h2⟩ := ba h0
      have hlen := of_decide_eq_true hlen
      obtain ⟨x, q, rfl, hx, g1, g2⟩ := C.blt h1
      obtain ⟨x2, q2, rfl, hx2, g3, g4⟩ := C.blt h2
      subst hx2
      have hp : PostR W wx ((evEs (glv tb k) cs ρ W.h).bind fun ds h1 => match rngD ds with
          | some (lo, n) => ifR (lim n) (.ok (sqV t (rngL lo n)) h1)
          | none => .bad) (PE' W true Q) := hp
      have outer : ∀ {te : L2.St → Hp → (Int → Int → Hp → Prop) → Prop}, PRg X (.Call (.Name (Str.ofString "range") q2) es [] p2) te → te σ W.H (fun lo hi H1 => RgOk lo hi ∧ ∀ q, H1 q = none → Q (.ref q) (upd H1 q (sqO t (rgV lo hi)))) → tsE X (.Call (.Name x q) [.Call (.Name (Str.ofString "range") q2) es [] p2] [] p) σ W.H Q := fun {te} hte hh => by
        subst hx
        cases t with
        | true => exact ⟨_, pe_tupRg C.calm g1 g2 hte (star_cons rfl), hh⟩
        | false => exact ⟨_, pe_listRg C.calm g1 g2 hte (star_cons rfl), hh⟩
      cases cs with
      | nil =>
        rw [mtEs_nil h3] at hlen
        rcases hlen with hlen | hlen <;> cases hlen
      | cons c1 cs =>
        obtain ⟨e1, r1, rfl, n1, n2, n3⟩ := mtEs_cons h3
        cases cs with
        | nil =>
          rw [mtEs_nil n3]
          rw [mtEs_nil n3] at outer
          refine outer (prg_1 g3 g4 pe_ts (star_cons n1)) ?_
          unfold evEs evEs at hp
          refine (h c1 List.mem_cons_self).use C n2 hW s hr (by rw [R.assoc] at hp; exact hp) fun d W1 v g1 s1 r1 hp1 => ?_
          have hp1 : PostR W1 wx (match rngD [d] with
            | some (lo, n) => ifR (lim n) (.ok (sqV t (rngL lo n)) W1.h)
            | none => .bad) (PE' W true Q) := hp1
          cases hrg : rngD [d] with
          | none =>
            rw [hrg] at hp1
            exact hp1.elim
          | some ln =>
            obtain ⟨lo, n⟩ := ln
            rw [hrg] at hp1
            rcases rng_at (RepA.one r1) hrg with ⟨j, ev, rfl, rfl, h5, h6⟩ | ⟨j, ev, _⟩
            · cases ev
              exact ⟨j, rfl, end_rng (by rw [Int.sub_zero]) g1 s1 ⟨by omega, by omega, h5, h6⟩ hp1⟩
            · cases ev
        | cons c2 cs =>
          obtain ⟨e2, r2, rfl, m1, m2, m3⟩ := mtEs_cons n3
          cases r2 with
          | cons _ _ =>
            rcases hlen with hlen | hlen
            · cases hlen
            · simp at hlen
          | nil =>
          cases cs with
          | cons _ _ => cases m3
          | nil =>
          refine outer (prg_2 g3 g4 pe_ts pe_ts (star_cons n1) (star_cons m1) (by rw [star_cons m1]; rfl)) ?_
          unfold evEs evEs evEs at hp
          refine (h c1 List.mem_cons_self).use C n2 hW s hr (by rw [R.assoc] at hp; exact hp) fun d W1 v g1 s1 r1 hp1 => ?_
          refine (h c2 (by simp)).use C m2 (g1.pa.trans hW) s1 (hr.go g1) (by rw [R.assoc, R.assoc] at hp1; exact hp1) fun d2 W2 v2 g2 s2 r2 hp2 => ?_
          have hp2 : PostR W2 wx (match rngD [d, d2] with
            | some (lo, n) => ifR (lim n) (.ok (sqV t (rngL lo n)) W2.h)
            | none => .bad) (PE' W true Q) := hp2
          cases hrg : rngD [d, d2] with
          | none =>
            rw [hrg] at hp2
            exact hp2.elim
          | some ln =>
            obtain ⟨lo, n⟩ := ln
            rw [hrg] at hp2
            rcases rng_at (ds := [d, d2]) (vs := [v, v2]) ⟨v, [v2], rfl, r1.go g2, RepA.one r2⟩ hrg with ⟨j, ev, _⟩ | ⟨j, ev, rfl, h5⟩
            · cases ev
            · cases ev
              exact ⟨lo, j, rfl, rfl, end_rng rfl (g1.trans g2) s2 h5 hp2⟩
    | [], _, hm => cases hm
    | a :: _ :: _, _, hm => cases a <;> first | cases hm | (rename_i kw _ <;> cases kw <;> cases hm)
    | [a], _ :: _, hm => cases a <;> first | cases hm | (rename_i kw _ <;> cases kw <;> cases hm)
  | _ => cases hm
end
end Cl
/-! text ClJ -/
set_option maxHeartbeats 1000007
/-! Own and frozen lists; what is walked. -/
namespace Cl
open PySem L2
section
variable {nm : Nm} {tb : Tbl} {pa : Pa}
theorem sm_newcell {W : Wd} (s : Sm W) {p : Addr} {xs : List D} {vs : List V} (hp : W.H p = none) (r : RepA W xs vs) :
    Go W (W.cell p (.lst vs) (.lst xs)) ∧ Sm (W.cell p (.lst vs) (.lst xs)) ∧ Rep (W.cell p (.lst vs) (.lst xs)) (.ref W.h.length) (.ref p) := by
  have g : Go W (W.cell p (.lst vs) (.lst xs)) := go_cell s hp
  refine ⟨g, sm_cell s hp ⟨vs, upd_same, r.go g⟩, ?_, fun a ha => ?_⟩
  · show W.h.length < (W.ms ++ [some p]).length
    rw [List.length_append, s.len]
    simp
  · have ha : (W.ms ++ [some p])[W.h.length]? = some (some a) := ha
    rcases ms_app.mp ha with q | ⟨_, q⟩
    · have := (List.getElem?_eq_some_iff.mp q).1
      rw [s.len] at this
      omega
    · cases q
      rfl
theorem snd_new {a : E} (ha : SndE nm tb pa a) : SndE nm tb pa (.new a) := fun k wx ct X C e hm W σ ρ Q hW s hr hp => by
  obtain ⟨h1, h3⟩ := ba hm
  obtain ⟨h1, h2⟩ := ba h1
  refine ha k wx ct X C e h3 W σ ρ Q hW s hr ?_
  rw [h2]
  have hp : PostR W wx (newR (evE (glv tb k) a ρ W.h)) (PE' W false Q) := hp
  unfold newR at hp
  generalize evE (glv tb k) a ρ W.h = rr at hp ⊢
  cases rr with
  | exn c d h1 => exact hp
  | bad => exact hp
  | ok d h1 =>
    intro W1 g1 s1 e1 v r hf
    subst e1
    cases d with
    | lst xs =>
      obtain ⟨p, vs, W2, rfl, g2, s2, hn, e, r2⟩ := hf rfl xs rfl
      subst e
      obtain ⟨g3, s3, r3⟩ := sm_newcell s2 hn r2
      exact hp (W2.cell p (.lst vs) (.lst xs)) (g2.trans g3) s3 rfl (.ref p) r3 fun z => by cases z
    | _ => exact hp.elim
/-- a cell is given up: from now on it stays -/
def Wd.kill (W : Wd) (n : Nat) : Wd := { W with ms := W.ms.set n none, h := W.h.set n .dead }
theorem kill_ms {W : Wd} {n m : Nat} {a : Addr} : (W.kill n).ms[m]? = some (some a) ↔ (m ≠ n ∧ W.ms[m]? = some (some a)) := by
  show (W.ms.set n none)[m]? = some (some a) ↔ _
  by_cases e : n = m
  · subst e
    by_cases hl : n < W.ms.length
    · rw [List.getElem?_set_self hl]
      constructor
      · intro z; cases z
      · rintro ⟨z, _⟩; exact absurd rfl z
    · have e1 : W.ms[n]? = none := List.getElem?_eq_none (by omega)
      rw [List.set_eq_of_length_le (by omega), e1]
      simp
  · rw [List.getElem?_set_ne e]
    exact ⟨fun h => ⟨Ne.symm e, h⟩, fun h => h.2⟩
theorem ow_kill {W : Wd} {n : Nat} {a : Addr} (h : ow (W.kill n) a) : ow W a := by
  rcases h with h | ⟨m, h⟩
  · exact .inl h
  · exact .inr ⟨m, (kill_ms.mp h).2⟩
theorem go_kill {W : Wd} (s : Sm W) {n : Nat} (hl : isLck (getC W.h n) = false) : Go W (W.kill n) where
  pa := rfl
  T := rfl
  keep := fun a u h k => ⟨h, fun q => k (ow_kill q)⟩
  trk := fun a u h => ⟨u, h⟩
  tmp := fun a u _ h => h
  len := by
    show W.ms.length ≤ (W.ms.set n none).length
    simp
  mono := fun m x h => by
    by_cases e : n = m
    · subst e
      refine .inr ?_
      show (W.ms.set n none)[n]? = some none
      rw [List.getElem?_set_self (List.getElem?_eq_some_iff.mp h).1]
    · refine .inl ?_
      show (W.ms.set n none)[m]? = some x
      rw [List.getElem?_set_ne e]
      exact h
  lck := fun m xs h => by
    have e : n ≠ m := fun z => by
      subst z
      rw [h] at hl
      cases hl
    refine ⟨?_, ?_, fun a u _ h => h⟩
    · show getC (W.h.set n .dead) m = .lck xs
      rw [getC_ne e]
      exact h
    · show (W.ms.set n none)[m]? = W.ms[m]?
      rw [List.getElem?_set_ne e]
theorem sm_kill {W : Wd} (s : Sm W) {n : Nat} (hl : isLck (getC W.h n) = false) : Sm (W.kill n) where
  len := by
    show (W.ms.set n none).length = (W.h.set n .dead).length
    simp [s.len]
  inj := fun i j a hi hj => s.inj i j a (kill_ms.mp hi).2 (kill_ms.mp hj).2
  cel := fun m a h => by
    obtain ⟨e, h⟩ := kill_ms.mp h
    have e2 : getC (W.kill n).h m = getC W.h m := getC_ne (Ne.symm e)
    rw [e2]
    exact (s.cel m a h).go (go_kill s hl) rfl
  ded := fun m h => by
    by_cases e : n = m
    · subst e
      show getC (W.h.set n .dead) n = .dead
      by_cases hl : n < W.h.length
      · exact getC_set hl
      · rw [List.set_eq_of_length_le (by omega)]
        exact getC_out (by omega)
    · have h2 : (W.ms.set n none)[m]? = some none := h
      rw [List.getElem?_set_ne e] at h2
      show getC (W.h.set n .dead) m = .dead
      rw [getC_ne e]
      exact s.ded m h2
  tmp := fun a h => by
    obtain ⟨h1, h2⟩ := s.tmp a h
    exact ⟨h1, fun m q => h2 m (kill_ms.mp q).2⟩
theorem not_ow_kill {W : Wd} (s : Sm W) {n : Nat} {a : Addr} (h : W.ms[n]? = some (some a)) : ¬ ow (W.kill n) a := by
  rintro (q | ⟨m, q⟩)
  · exact (s.tmp a q).2 n h
  · obtain ⟨e, q⟩ := kill_ms.mp q
    exact e (s.inj m n a q h)
theorem snd_frz {a : E} (ha : SndE nm tb pa a) : SndE nm tb pa (.frz a) := fun k wx ct X C e hm W σ ρ Q hW s hr hp => by
  obtain ⟨h1, h3⟩ := ba hm
  have hp : PostR W wx ((evE (glv tb k) a ρ W.h).bind fun d h => match d with
    | .ref n => (match getC h n with
      | .lst xs => .ok (.lst xs) (h.set n .dead)
      | .ins c fs => .ok (.obj c fs) (h.set n .dead)
      | _ => .bad)
    | d => .ok d h) (PE' W false Q) := hp
  refine ha.use C h3 hW s hr hp fun d W1 v g1 s1 r1 hp1 => ?_
  cases d with
  | ref n =>
    obtain ⟨l, hv⟩ := r1
    cases hc : getC W1.h n with
    | lst xs =>
      simp only [hc] at hp1
      have hl : isLck (getC W1.h n) = false := by rw [hc]; rfl
      obtain ⟨b, eb, cb⟩ := s1.at l (by rw [hc]; intro z; cases z)
      rw [hc] at cb
      obtain ⟨vs, c1, c2⟩ := cb
      have gk := go_kill s1 hl
      have ev := hv b eb
      subst ev
      exact hp1 (W1.kill n) gk (sm_kill s1 hl) rfl (.ref b) ⟨b, vs, rfl, c1, not_ow_kill s1 eb, c2.go gk⟩ fun z => by cases z
    | ins c fs =>
      simp only [hc] at hp1
      have hl : isLck (getC W1.h n) = false := by rw [hc]; rfl
      obtain ⟨b, eb, cb⟩ := s1.at l (by rw [hc]; intro z; cases z)
      rw [hc] at cb
      obtain ⟨lc, dx, gs, c1, c2⟩ := cb
      have gk := go_kill s1 hl
      have ev := hv b eb
      subst ev
      exact hp1 (W1.kill n) gk (sm_kill s1 hl) rfl (.ref b) ⟨b, dx, gs, rfl, c1, not_ow_kill s1 eb, lc, c2.go gk⟩ fun z => by cases z
    | lck xs =>
      simp only [hc] at hp1
      exact hp1.elim
    | dead =>
      simp only [hc] at hp1
      exact hp1.elim
  | _ => exact hp1.now s1 v r1 fun z => by cases z
end
end Cl
/-! text ClK -/
set_option maxHeartbeats 2000007
/-! enumerate over a tuple. -/
namespace Cl
open PySem L2
open PySem.AutoSeq1 (wpAny_loadPart')
theorem enum1_makes {v : Value} {o : Obj} {J : Heap → Prop} (B : Begins v o J) :
    Meets (Builtin.«enumerate.__new__» ⟨[.type "enumerate", v], []⟩) (fun _ R s => J s.heap ∧
      R (.ok (.ret (.ref (s.heap.push o).objs.size))) { s with heap := (s.heap.push o).push { cls := .type "enumerate", data := .fields #[.none, .bool false, .ref s.heap.objs.size, rawInt 0, .none, .none] } }) :=
  .of_wp fun prog w A R s h => by
    have e : s = ⟨s.heap, s.gens, s.drawn, s.toks, s.os⟩ := rfl
    generalize s.heap = hp, s.gens = g, s.drawn = d, s.toks = tk, s.os = os at e
    subst e
    have h1 := h.1
    have h := h.2
    have hs := sub_enumerate
    have it : ∀ {A' : Around} {E : Value → Shared → Prop} {Q : Value → Shared → Prop}, Q (.ref hp.objs.size) ⟨hp.push o, g, d, tk, os⟩ → wpAny (model prog w) A' (pyIter v) Q E ⟨hp, g, d, tk, os⟩ := fun q => B.iter prog w _ _ ⟨hp, g, d, tk, os⟩ _ h1 q
    wp_walk using it
    refine wpAny_stack_any fun _ => wpAny_pure ?_; split
    · rename_i c _ _ _ _ _
      cases (c == Value.type "enumerate") <;> (wp_walk using it; exact ⟨_, rfl, h⟩)
    · wp_walk using it; exact ⟨_, rfl, h⟩
section
variable {prog : Program} {w : World} {A : Around} {E : Value → Shared → Prop} {s : Shared}
theorem enum1_call {v : Value} {o : Obj} {J : Heap → Prop} {Q : Value → Shared → Prop} (B : Begins v o J) (h1 : J s.heap)
    (h : ∀ h', IsEnum h' (s.heap.objs.size + 1) s.heap.objs.size 0 .none → h'.get? s.heap.objs.size = some o → (∀ b u, s.heap.get? b = some u → h'.get? b = some u) → Q (.ref (s.heap.objs.size + 1)) { s with heap := h' }) :
    wpAny (model prog w) A (call (.type "enumerate") [v]) Q E s := by
  refine callType_new F.called_enumerate (by decide) (F.typeCall_enumerate_1 _) (F.newCall_enumerate_1 _) (fun obj => F.args_object_init_2 obj _) F.entry_enumerate_new (enum1_makes B) ⟨h1, ?_⟩
  have z : (s.heap.push o).objs.size = s.heap.objs.size + 1 := Heap.size_push _ _
  rw [z]
  have q := Heap.get?_push_size (s.heap.push o) (o := { cls := .type "enumerate", data := .fields #[.none, .bool false, .ref s.heap.objs.size, rawInt 0, .none, .none] }) rfl
  rw [z] at q
  exact ⟨⟨_, q, rfl⟩, h _ q (Heap.get?_push_of_some _ (Heap.get?_push_size _ B.free)) fun b u x => Heap.get?_push_of_some _ (Heap.get?_push_of_some _ x)⟩
end
/-- the tuple at a, its items in new pairs -/
def IteT (K : PySem.W.Frag) (a : Addr) : It where
  go i H := ∃ (xs : List V) (x : V), SqT K H a xs ∧ xs[i]? = some x
  yld i H v H' := ∃ q x, v = .ref q ∧ H q = none ∧ H' = upd H q (.tup [.int (i : Nat), x]) ∧ ∀ xs, SqT K H a xs → xs[i]? = some x
  stop i H := ∃ xs : List V, SqT K H a xs ∧ xs.length = i
theorem enum_apart {h : Heap} {e it a : Addr} {i : Int} {u : Value} {its : Array Value} (he : IsEnum h e it i u) (ht : h.IsTuple a its) : e ≠ a := fun z => by
  subst z
  obtain ⟨⟨c, dd, da, sl⟩, g, q, _⟩ := ht
  rw [show h.get? e = some _ from he] at g
  cases g
  exact absurd (Value.type.inj q) (by decide)
theorem iter_apart {h : Heap} {it a t : Addr} {i : Nat} {its : Array Value} (hi : h.IsTupleIter it t i) (ht : h.IsTuple a its) : a ≠ it := fun z => by
  subst z
  obtain ⟨o, g, q, _⟩ := ht
  obtain ⟨o2, g2, q2, _⟩ := hi
  rw [g] at g2
  cases g2
  rw [q] at q2
  exact absurd (Value.type.inj q2) (by decide)
theorem turn_enumT {P : Program} {w : World} {K : PySem.W.Frag} {elts : List Expr} {kk : Nat} {tpos : Pos} (a e it : Addr) :
    Turn P w K (.Tuple elts kk tpos) (IteT K a) [e, it] e (fun i h => (∃ old, IsEnum h e it ((i : Nat) : Int) old) ∧ h.IsTupleIter it a i ∧ e ≠ it) := by
  refine ⟨List.mem_cons_self, fun i h st b hb => ?_, fun i h h' st k => ?_, ?_, ?_, fun A i s Q E st h => ?_⟩
  · obtain ⟨⟨u, he⟩, ⟨o, ho, _, hd⟩, _⟩ := st
    rcases List.mem_cons.mp hb with rfl | hb
    · exact ⟨_, he, fun v q => nomatch q⟩
    · rw [List.mem_singleton.mp hb]
      exact ⟨o, ho, fun v q => by rw [hd] at q; cases q⟩
  · obtain ⟨⟨u, he⟩, hi, hne⟩ := st
    exact ⟨⟨u, k e List.mem_cons_self _ he⟩, hi.at fun o q => k it (List.mem_cons_of_mem _ List.mem_cons_self) o q, hne⟩
  · intro X hP hw hK hc i pins s σ H E I hf st hg
    subst hP; subst hw; subst hK
    obtain ⟨⟨old, he⟩, hit, hne⟩ := st
    obtain ⟨xs, x, hq, hx⟩ := hg
    obtain ⟨its, rv, p, hz⟩ := I.tuple hq
    have ht : s.heap.IsTuple a its.toArray := p
    obtain ⟨u, hu, ru⟩ := rv.get hx
    have hel : e < s.heap.objs.size := Heap.lt_size he
    have hil : it < s.heap.objs.size := by obtain ⟨_, q, _⟩ := hit; exact Heap.lt_size q
    have Dr := Draws.tuple (prog := X.prog) (w := X.w) (A := X.A.in1) (I.ok.hd hc) it a (iter_apart hit ht) its.toArray
    have hin : i < its.toArray.size := by
      rw [List.size_toArray, ← rv.length]
      exact (List.getElem?_eq_some_iff.mp hx).1
    have hef : e ∉ [it, a] := fun z => by
      rcases List.mem_cons.mp z with z | z
      · exact hne z
      · exact enum_apart he ht (List.mem_singleton.mp z)
    refine wpAny_pyNext_enum_itemD Dr he ⟨hit, ht⟩ hin hne hef fun x' h' tk hx' ho hst' hT hsz hk => ⟨_, rfl, ?_⟩
    have ex : x' = u := by
      have e1 : its.toArray[i]? = some u := by simpa using hu
      rw [e1] at hx'
      cases hx'
      rfl
    subst ex
    refine wpAny_letOwnedTupleGo_enum (s := { s with heap := h', toks := tk + 1 }) ho fun h2 he' sb => ?_
    have hT2 := (sb.2 _ (Nat.ne_of_gt hel)).trans hT
    have new : ObjOk X.prog X.w (upd H s.heap.objs.size (.tup [.int (i : Nat), x])) h2 s.heap.objs.size (.tup [.int (i : Nat), x]) :=
      ⟨(by decide : 2 ≤ sizeLine), [.int i tk, x'], .cons ⟨_, rfl⟩ (.cons ru .nil), ⟨_, hT2, rfl, _, rfl⟩⟩
    have I1 := I.turnedNew (t' := tk + 1) (ch := [e, it]) (fun b ob hb q => (sb.2 b (fun z => hb (by rw [z]; exact List.mem_cons_self))).trans (hk b ob (fun z => hb (by rw [z]; exact List.mem_cons_self)) (fun z => hb (by rw [z]; exact List.mem_cons_of_mem _ List.mem_cons_self)) q)) hf (Nat.le_refl _) new
    refine ⟨.ref s.heap.objs.size, _, I1, rfl, ⟨_, x, rfl, I.hok.fresh (Nat.le_refl _), rfl, fun ys hy => by rw [I.tuple_inj hy hq]; exact hx⟩, ⟨⟨x', ?_⟩, hst'.1.at fun o q => (sb.2 it (Ne.symm hne)).trans q, hne⟩, fun b hb => ?_⟩
    · rw [show ((i + 1 : Nat) : Int) = (i : Int) + 1 by omega]; exact he'
    · have hlt : b < s.heap.objs.size := by
        rcases List.mem_cons.mp hb with z | z
        · rw [z]; exact hel
        · rw [List.mem_singleton.mp z]; exact hil
      rw [upd_ne (Nat.ne_of_lt hlt)]; exact (hf b hb).1
  · intro X hP hw hK hc i pins s σ H E I hf st hg
    subst hP; subst hw; subst hK
    obtain ⟨⟨old, he⟩, hit, hne⟩ := st
    obtain ⟨xs, hq, hx⟩ := hg
    obtain ⟨its, rv, p, hz⟩ := I.tuple hq
    have ht : s.heap.IsTuple a its.toArray := p
    have Dr := Draws.tuple (prog := X.prog) (w := X.w) (A := X.A.in1) (I.ok.hd hc) it a (iter_apart hit ht) its.toArray
    have en : its.toArray.size = i := by rw [List.size_toArray, ← rv.length]; exact hx
    refine wpAny_pyNext_enum_endD Dr he (show s.heap.IsTupleIter it a its.toArray.size ∧ s.heap.IsTuple a its.toArray by rw [en]; exact ⟨hit, ht⟩) fun h' eb => ⟨rfl, ?_⟩
    obtain ⟨f0, f1, f2, f3, f4, f5⟩ := hf it (List.mem_cons_of_mem _ List.mem_cons_self)
    exact I.turned (t' := s.toks) (fun b o hb q => eb b o hb q) f0 f1 f3 f4 f5
  · obtain ⟨⟨u, he⟩, _⟩ := st
    exact wpAny_pyIter_enum he h
def iEnumT (K : PySem.W.Frag) (ta : TA) : TI := fun σ H R => ta σ H fun vs H1 => ∃ a xs, vs = [.ref a] ∧ ((SqL K H1 a xs ∧ R (Ite K a) H1) ∨ (SqT K H1 a xs ∧ R (IteT K a) H1))
theorem pi_enumT {X : Cx} {e : Expr} {ta : TA} {p pos tpos : Pos} {elts : List Expr} {kk : Nat} (hg : Gl X "enumerate") (hm : X.mg "enumerate" = none) (ha : PA X [e] ta) (hs : starEach [e] X.env = [(false, eval e X.env)]) :
    PI X (.Tuple elts kk tpos) (.Call (.Name "enumerate" p) [e] [] pos) (iEnumT X.K ta) := by
  refine ⟨fun pins s σ H R I h => PyProof.Rows.Call_ (ld_blt I hg hm PyProof.Rows.boot_enumerate (PyProof.Rows.callWith_type1 (thn (ha.run pos pins s σ H _ I h) fun us s1 ⟨vs, H1, I1, r1, q1⟩ => ?_) hs rfl))⟩
  obtain ⟨a, xs, ex, q1⟩ := q1
  subst ex
  cases r1 with
  | cons r rr =>
    cases rr; cases r
    rcases q1 with ⟨hq, q⟩ | ⟨hq, q⟩
    · obtain ⟨its, rv, p1, hz⟩ := I1.list hq
      refine call_enumerate_list p1.isList fun h' he hit hsz hk => wpAny_pyIter_enum he ⟨s1.heap.objs.size + 1, [s1.heap.objs.size + 1, s1.heap.objs.size], _, _, H1, rfl, I1.kept (t' := s1.toks) hk, turn_enum a (s1.heap.objs.size + 1) s1.heap.objs.size, ⟨⟨.none, he⟩, hit, Nat.succ_ne_self _⟩, fun b hb => ?_, q⟩
      have hle : s1.heap.objs.size ≤ b := by
        rcases List.mem_cons.mp hb with z | z
        · rw [z]; exact Nat.le_succ _
        · rw [List.mem_singleton.mp z]; exact Nat.le_refl _
      exact I1.fpOk hle (I1.hok.fresh hle)
    · obtain ⟨its, rv, p1, hz⟩ := I1.tuple hq
      refine enum1_call (begins_tuple a its.toArray) (show s1.heap.IsTuple a its.toArray from p1) fun h' he hit hk => wpAny_pyIter_enum he ⟨s1.heap.objs.size + 1, [s1.heap.objs.size + 1, s1.heap.objs.size], _, _, H1, rfl, I1.kept (t' := s1.toks) hk, turn_enumT a (s1.heap.objs.size + 1) s1.heap.objs.size, ⟨⟨.none, he⟩, ⟨_, hit, rfl, rfl⟩, Nat.succ_ne_self _⟩, fun b hb => ?_, q⟩
      have hle : s1.heap.objs.size ≤ b := by
        rcases List.mem_cons.mp hb with z | z
        · rw [z]; exact Nat.le_succ _
        · rw [List.mem_singleton.mp z]; exact Nat.le_refl _
      exact I1.fpOk hle (I1.hok.fresh hle)
end Cl
/-! text ClL -/
set_option maxHeartbeats 1000007
/-! What a loop walks. -/
namespace Cl
open PySem L2
/-- what a walk leans on -/
structure Ke (W W' : Wd) : Prop where
  le : Le W W'
  lck : ∀ (n : Nat) (xs : List D) (a : Addr) (o : HO), getC W.h n = .lck xs → W.ms[n]? = some (some a) → W.H a = some o → W'.H a = some o
theorem Go.ke {W W' : Wd} (g : Go W W') : Ke W W' := ⟨g.le, fun n xs a o h1 h2 h3 => (g.lck n xs h1).2.2 a o h2 h3⟩
theorem Le.trans {W W1 W2 : Wd} (a : Le W W1) (b : Le W1 W2) : Le W W2 where
  pa := b.pa.trans a.pa
  keep := fun x o h n => by
    obtain ⟨h1, n1⟩ := a.keep x o h n
    exact b.keep x o h1 n1
  len := Nat.le_trans a.len b.len
  mono := fun n x h => by
    rcases a.mono n x h with h1 | h1
    · exact b.mono n x h1
    · rcases b.mono n _ h1 with h2 | h2
      · exact .inr h2
      · exact .inr h2
theorem Ke.go {W W1 W2 : Wd} (a : Ke W W1) (s : Sm W) (s1 : Sm W1) (b : Go W1 W2) (c : Go W W1) : Ke W W2 := (c.trans b).ke
def Wd.lock (W : Wd) (o : Option Nat) : Wd := { W with h := lockN W.h o }
def Wd.free (W : Wd) (o : Option Nat) : Wd := { W with h := freeN W.h o }
theorem ow_lock {W : Wd} {o : Option Nat} {a : Addr} : ow (W.lock o) a ↔ ow W a := Iff.rfl
theorem lock_some {W : Wd} {n : Nat} {xs : List D} (e : getC W.h n = .lst xs) : W.lock (some n) = { W with h := W.h.set n (.lck xs) } := by
  unfold Wd.lock lockN
  simp only [e]
theorem free_some {W : Wd} {n : Nat} {xs : List D} (e : getC W.h n = .lck xs) : W.free (some n) = { W with h := W.h.set n (.lst xs) } := by
  unfold Wd.free freeN
  simp only [e]
/-- a cell's kind changes, its place and items don't -/
theorem sm_turn {W : Wd} (s : Sm W) {n : Nat} {c c' : Cell} (e : getC W.h n = c) (hn : c ≠ .dead) (hc : ∀ (a : Addr), CR W a c → CR W a c') : Sm { W with h := W.h.set n c' } where
  len := by
    show W.ms.length = (W.h.set n c').length
    simp [s.len]
  inj := s.inj
  cel := fun m a h => by
    have hl : n < W.h.length := lt_of_getC (by rw [e]; exact hn)
    have key : ∀ {cc : Cell}, CR W a cc → CR { W with h := W.h.set n c' } a cc := fun {cc} q => by
      have le : Le W { W with h := W.h.set n c' } := ⟨rfl, fun _ _ h n => ⟨h, n⟩, Nat.le_refl _, fun _ _ h => .inl h⟩
      cases cc with
      | lst xs => obtain ⟨vs, h1, h2⟩ := q; exact ⟨vs, h1, RepA.le le _ _ h2⟩
      | lck xs => obtain ⟨vs, h1, h2⟩ := q; exact ⟨vs, h1, RepA.le le _ _ h2⟩
      | ins c fs => obtain ⟨l, dx, gs, h1, h2⟩ := q; exact ⟨l, dx, gs, h1, RepF.le le _ _ h2⟩
      | dead => exact q.elim
    have q := s.cel m a h
    show CR _ a (getC (W.h.set n c') m)
    by_cases z : n = m
    · subst z
      rw [getC_set hl]
      rw [e] at q
      exact key (hc a q)
    · rw [getC_ne z]
      exact key q
  ded := fun m h => by
    have hd := s.ded m h
    show getC (W.h.set n c') m = .dead
    by_cases z : n = m
    · subst z
      rw [e] at hd
      exact absurd hd hn
    · rw [getC_ne z]
      exact hd
  tmp := s.tmp
theorem go_lock {W : Wd} {o : Option Nat} : Go W (W.lock o) := by
  cases o with
  | none => exact Go.refl W
  | some n =>
    cases e : getC W.h n with
    | lst xs =>
      rw [lock_some e]
      refine ⟨rfl, rfl, fun _ _ h n => ⟨h, n⟩, fun _ o h => ⟨o, h⟩, fun _ _ _ h => h, Nat.le_refl _, fun _ _ h => .inl h, fun m ys h => ⟨?_, rfl, fun _ _ _ h => h⟩⟩
      show getC (W.h.set n (.lck xs)) m = .lck ys
      have z : n ≠ m := fun z => by
        subst z
        rw [e] at h
        cases h
      rw [getC_ne z]
      exact h
    | _ =>
      have : W.lock (some n) = W := by
        unfold Wd.lock lockN
        simp only [e]
      rw [this]
      exact Go.refl W
theorem sm_lock {W : Wd} (s : Sm W) {o : Option Nat} : Sm (W.lock o) := by
  cases o with
  | none => exact s
  | some n =>
    cases e : getC W.h n with
    | lst xs =>
      rw [lock_some e]
      exact sm_turn s e (by intro z; cases z) fun a h => h
    | _ =>
      have : W.lock (some n) = W := by
        unfold Wd.lock lockN
        simp only [e]
      rw [this]
      exact s
theorem sm_free {W : Wd} (s : Sm W) {o : Option Nat} : Sm (W.free o) := by
  cases o with
  | none => exact s
  | some n =>
    cases e : getC W.h n with
    | lck xs =>
      rw [free_some e]
      exact sm_turn s e (by intro z; cases z) fun a h => h
    | _ =>
      have : W.free (some n) = W := by
        unfold Wd.free freeN
        simp only [e]
      rw [this]
      exact s
theorem le_free {W : Wd} {o : Option Nat} : Le W (W.free o) := ⟨rfl, fun _ _ h n => ⟨h, n⟩, Nat.le_refl _, fun _ _ h => .inl h⟩
/-- a lock is fit -/
def LkOk (h : Sto) (o : Option Nat) : Prop := ∀ n, o = some n → ∃ xs, getC h n = .lst xs
theorem go_free {W W' : Wd} {o : Option Nat} (ok : LkOk W.h o) (g : Go (W.lock o) W') : Go W (W'.free o) := by
  cases o with
  | none => exact g
  | some n =>
    obtain ⟨xs, e⟩ := ok n rfl
    have hl : n < W.h.length := lt_of_getC (by rw [e]; intro z; cases z)
    rw [lock_some e] at g
    have e2 : getC W'.h n = .lck xs := (g.lck n xs (getC_set hl)).1
    rw [free_some e2]
    refine ⟨g.pa, g.T, g.keep, g.trk, g.tmp, g.len, g.mono, fun m ys h => ?_⟩
    have z : n ≠ m := fun z => by
      subst z
      rw [e] at h
      cases h
    obtain ⟨h1, h2⟩ := g.lck m ys (by
      show getC (W.h.set n (.lck xs)) m = .lck ys
      rw [getC_ne z]
      exact h)
    refine ⟨?_, h2⟩
    show getC (W'.h.set n (.lst xs)) m = .lck ys
    rw [getC_ne z]
    exact h1
theorem itD_ok {h : Sto} {d : D} {xs : List D} {o : Option Nat} (e : itD h d = some (xs, o)) : LkOk h o ∧ seqOf h d = some xs := by
  cases d with
  | tup ys => cases e; exact ⟨(fun n z => by cases z), rfl⟩
  | lst ys => cases e; exact ⟨(fun n z => by cases z), rfl⟩
  | ref n =>
    cases hc : getC h n with
    | lst ys =>
      simp only [itD, hc] at e
      cases e
      refine ⟨(fun m z => by cases z; exact ⟨xs, hc⟩), ?_⟩
      simp only [seqOf, hc]
    | lck ys =>
      simp only [itD, hc] at e
      cases e
      refine ⟨(fun m z => by cases z), ?_⟩
      simp only [seqOf, hc]
    | _ =>
      simp only [itD, hc] at e
      cases e
  | _ => cases e
/-- the list, the tuple at a from now on -/
def WkL (W : Wd) (a : Addr) (xs : List D) : Prop := ∀ W', Ke W W' → ∃ vs, SqL W'.pa.K W'.H a vs ∧ RepA W' xs vs
def WkT (W : Wd) (a : Addr) (xs : List D) : Prop := ∀ W', Ke W W' → ∃ vs, SqT W'.pa.K W'.H a vs ∧ RepA W' xs vs
theorem wk_lst {W : Wd} {a : Addr} {vs : List V} {xs : List D} (h : W.H a = some (.lst vs)) (n : ¬ ow W a) (r : RepA W xs vs) : WkL W a xs := fun W' g => ⟨vs, SqL.of (g.le.keep a _ h n).1, RepA.le g.le _ _ r⟩
theorem wk_tup {W : Wd} {a : Addr} {vs : List V} {xs : List D} (h : RdT W a vs) (r : RepA W xs vs) : WkT W a xs := fun W' g => by
  refine ⟨vs, ?_, RepA.le g.le _ _ r⟩
  rcases h with ⟨h, n⟩ | h
  · exact .inl (Rd.keep g.le h n).1
  · have q := SqT.up (H := W'.H) h
    rw [g.le.pa]
    exact q
theorem wk_at {W : Wd} (s : Sm W) {d : D} {v : V} {xs : List D} {o : Option Nat} (r : Rep W d v) (e : itD W.h d = some (xs, o)) : ∃ a vs, v = .ref a ∧ (WkL (W.lock o) a xs ∧ SqL W.pa.K W.H a vs ∨ WkT (W.lock o) a xs ∧ SqT W.pa.K W.H a vs) := by
  cases d with
  | tup ys =>
    cases e
    obtain ⟨a, vs, rfl, h, q⟩ := r
    exact ⟨a, vs, rfl, .inr ⟨wk_tup h q, h.sq⟩⟩
  | lst ys =>
    cases e
    obtain ⟨a, vs, rfl, h, n, q⟩ := r
    exact ⟨a, vs, rfl, .inl ⟨wk_lst h n q, SqL.of h⟩⟩
  | ref n =>
    obtain ⟨l, hv⟩ := r
    cases hc : getC W.h n with
    | lst ys =>
      simp only [itD, hc] at e
      cases e
      obtain ⟨a, ea, q⟩ := s.at l (by rw [hc]; intro z; cases z)
      rw [hc] at q
      obtain ⟨vs, h1, h2⟩ := q
      refine ⟨a, vs, hv a ea, .inl ⟨fun W' g => ⟨vs, SqL.of ?_, ?_⟩, SqL.of h1⟩⟩
      · refine g.lck n xs a _ ?_ ea h1
        rw [lock_some hc]
        exact getC_set (lt_of_getC (by rw [hc]; intro z; cases z))
      · exact RepA.le g.le _ _ (RepA.go go_lock _ _ h2)
    | lck ys =>
      simp only [itD, hc] at e
      cases e
      obtain ⟨a, ea, q⟩ := s.at l (by rw [hc]; intro z; cases z)
      rw [hc] at q
      obtain ⟨vs, h1, h2⟩ := q
      refine ⟨a, vs, hv a ea, .inl ⟨fun W' g => ⟨vs, SqL.of ?_, ?_⟩, SqL.of h1⟩⟩
      · exact g.lck n xs a _ hc ea h1
      · exact RepA.le g.le _ _ h2
    | ins c fs =>
      simp only [itD, hc] at e
      cases e
    | dead =>
      simp only [itD, hc] at e
      cases e
  | _ => cases e
/-- J yields ds -/
structure Yl (W : Wd) (J : It) (ds : List D) : Prop where
  go : ∀ (i : Nat) (d : D), ds[i]? = some d → ∀ W', Ke W W' → Sm W' → J.go i W'.H ∧ ∀ x H', J.yld i W'.H x H' → ∃ W'', Go W' W'' ∧ Sm W'' ∧ W''.H = H' ∧ W''.h = W'.h ∧ Rep W'' d x
  stop : ∀ W', Ke W W' → Sm W' → J.stop ds.length W'.H
theorem rng_get {lo : Int} {n i : Nat} {d : D} (e : (rngL lo n)[i]? = some d) : i < n ∧ d = .int (lo + (i : Nat)) := by
  unfold rngL at e
  rw [List.getElem?_map] at e
  cases h : (List.range n)[i]? with
  | none =>
    rw [h] at e
    cases e
  | some j =>
    rw [h] at e
    obtain ⟨h1, h2⟩ := List.getElem?_eq_some_iff.mp h
    rw [List.length_range] at h1
    rw [List.getElem_range] at h2
    subst h2
    cases e
    exact ⟨h1, rfl⟩
theorem yl_rng {W : Wd} {lo : Int} {n : Nat} : Yl W (Itr lo n) (rngL lo n) where
  go := fun i d e W' g s => by
    obtain ⟨h1, rfl⟩ := rng_get e
    exact ⟨h1, fun x H' h => ⟨W', Go.refl W', s, h.1.symm, rfl, h.2⟩⟩
  stop := fun W' g s => by
    show n ≤ (rngL lo n).length
    unfold rngL
    rw [List.length_map, List.length_range]
    exact Nat.le_refl _
theorem yl_lst {W : Wd} {a : Addr} {xs : List D} (h : WkL W a xs) : Yl W (Itl W.pa.K a) xs where
  go := fun i d e W' g s => by
    obtain ⟨vs, h1, h2⟩ := h W' g
    rw [g.le.pa] at h1
    obtain ⟨v, e1, r⟩ := h2.get e
    refine ⟨⟨vs, v, h1, e1⟩, fun x H' hy => ⟨W', Go.refl W', s, hy.1.symm, rfl, ?_⟩⟩
    have := hy.2 vs h1
    rw [e1] at this
    cases this
    exact r
  stop := fun W' g s => by
    obtain ⟨vs, h1, h2⟩ := h W' g
    rw [g.le.pa] at h1
    exact ⟨vs, h1, Nat.le_of_eq h2.length⟩
theorem yl_tup {W : Wd} {a : Addr} {xs : List D} (h : WkT W a xs) : Yl W (Itt W.pa.K a) xs where
  go := fun i d e W' g s => by
    obtain ⟨vs, h1, h2⟩ := h W' g
    rw [g.le.pa] at h1
    obtain ⟨v, e1, r⟩ := h2.get e
    refine ⟨⟨vs, v, h1, e1⟩, fun x H' hy => ⟨W', Go.refl W', s, hy.1.symm, rfl, ?_⟩⟩
    have := hy.2 vs h1
    rw [e1] at this
    cases this
    exact r
  stop := fun W' g s => by
    obtain ⟨vs, h1, h2⟩ := h W' g
    rw [g.le.pa] at h1
    exact ⟨vs, h1, Nat.le_of_eq h2.length⟩
theorem enumL_get : ∀ {xs : List D} {j i : Nat} {d : D}, (enumL j xs)[i]? = some d → ∃ x, xs[i]? = some x ∧ d = .tup [.int ((j + i : Nat) : Int), x]
  | [], _, _, _, e => by simp [enumL] at e
  | x :: xs, j, 0, d, e => by
    unfold enumL at e
    have : D.tup [.int (j : Nat), x] = d := by simpa using e
    exact ⟨x, rfl, this.symm⟩
  | x :: xs, j, i + 1, d, e => by
    unfold enumL at e
    obtain ⟨y, e1, e2⟩ := enumL_get (xs := xs) (j := j + 1) (i := i) (by simpa using e)
    exact ⟨y, by simpa using e1, by rw [e2, show j + 1 + i = j + (i + 1) by omega]⟩
theorem enumL_length : ∀ (xs : List D) (j : Nat), (enumL j xs).length = xs.length
  | [], _ => rfl
  | x :: xs, j => by
    unfold enumL
    rw [List.length_cons, List.length_cons, enumL_length xs]
theorem new_pair {W : Wd} (s : Sm W) {q : Addr} {x y : D} {v w : V} (hq : W.H q = none) (r1 : Rep W x v) (r2 : Rep W y w) : ∃ W'', Go W W'' ∧ Sm W'' ∧ W''.H = upd W.H q (.tup [v, w]) ∧ W''.h = W.h ∧ Rep W'' (.tup [x, y]) (.ref q) := by
  obtain ⟨g, s1, r⟩ := new_tup (xs := [x, y]) (vs := [v, w]) s hq ⟨v, [w], rfl, r1, RepA.one r2⟩
  exact ⟨_, g, s1, rfl, rfl, r⟩
theorem yl_enm {W : Wd} {a : Addr} {xs : List D} (h : WkL W a xs) : Yl W (Ite W.pa.K a) (enumL 0 xs) where
  go := fun i d e W' g s => by
    obtain ⟨vs, h1, h2⟩ := h W' g
    rw [g.le.pa] at h1
    obtain ⟨x, e0, rfl⟩ := enumL_get e
    obtain ⟨v, e1, r⟩ := h2.get e0
    refine ⟨⟨vs, v, h1, e1⟩, fun y H' ⟨q, z, ey, hq, eH, hz⟩ => ?_⟩
    have := hz vs h1
    rw [e1] at this
    cases this
    subst ey
    subst eH
    rw [Nat.zero_add]
    exact new_pair s hq rfl r
  stop := fun W' g s => by
    obtain ⟨vs, h1, h2⟩ := h W' g
    rw [g.le.pa] at h1
    exact ⟨vs, h1, by rw [enumL_length]; exact Nat.le_of_eq h2.length⟩
theorem yl_enmT {W : Wd} {a : Addr} {xs : List D} (h : WkT W a xs) : Yl W (IteT W.pa.K a) (enumL 0 xs) where
  go := fun i d e W' g s => by
    obtain ⟨vs, h1, h2⟩ := h W' g
    rw [g.le.pa] at h1
    obtain ⟨x, e0, rfl⟩ := enumL_get e
    obtain ⟨v, e1, r⟩ := h2.get e0
    refine ⟨⟨vs, v, h1, e1⟩, fun y H' ⟨q, z, ey, hq, eH, hz⟩ => ?_⟩
    have := hz vs h1
    rw [e1] at this
    cases this
    subst ey
    subst eH
    rw [Nat.zero_add]
    exact new_pair s hq rfl r
  stop := fun W' g s => by
    obtain ⟨vs, h1, h2⟩ := h W' g
    rw [g.le.pa] at h1
    exact ⟨vs, h1, by rw [enumL_length]; exact h2.length⟩
theorem zipL_get : ∀ {xs ys : List D} {i : Nat} {d : D}, (zipL xs ys)[i]? = some d → ∃ x y, xs[i]? = some x ∧ ys[i]? = some y ∧ d = .tup [x, y]
  | [], _, _, _, e => by simp [zipL] at e
  | _ :: _, [], _, _, e => by simp [zipL] at e
  | x :: xs, y :: ys, 0, d, e => by
    unfold zipL at e
    have : D.tup [x, y] = d := by simpa using e
    exact ⟨x, y, rfl, rfl, this.symm⟩
  | x :: xs, y :: ys, i + 1, d, e => by
    unfold zipL at e
    obtain ⟨a, b, e1, e2, e3⟩ := zipL_get (xs := xs) (ys := ys) (i := i) (by simpa using e)
    exact ⟨a, b, by simpa using e1, by simpa using e2, e3⟩
theorem zipL_length : ∀ (xs ys : List D), (zipL xs ys).length = xs.length ∨ (zipL xs ys).length = ys.length
  | [], _ => .inl rfl
  | _ :: _, [] => .inr rfl
  | x :: xs, y :: ys => by
    unfold zipL
    rw [List.length_cons, List.length_cons, List.length_cons]
    rcases zipL_length xs ys with h | h
    · exact .inl (by rw [h])
    · exact .inr (by rw [h])
theorem yl_zip {W : Wd} {a b : Addr} {xs ys : List D} (h : WkL W a xs) (h' : WkL W b ys) : Yl W (Itz W.pa.K a b) (zipL xs ys) where
  go := fun i d e W' g s => by
    obtain ⟨vs, h1, h2⟩ := h W' g
    obtain ⟨ws, k1, k2⟩ := h' W' g
    rw [g.le.pa] at h1 k1
    obtain ⟨x, y, e0, e1, rfl⟩ := zipL_get e
    obtain ⟨v, e2, r⟩ := h2.get e0
    obtain ⟨w, e3, r'⟩ := k2.get e1
    refine ⟨⟨vs, ws, v, w, h1, k1, e2, e3⟩, fun y H' ⟨q, z, u, ey, hq, eH, hz, hu⟩ => ?_⟩
    have := hz vs h1
    rw [e2] at this
    cases this
    have := hu ws k1
    rw [e3] at this
    cases this
    subst ey
    subst eH
    exact new_pair s hq r r'
  stop := fun W' g s => by
    obtain ⟨vs, h1, h2⟩ := h W' g
    obtain ⟨ws, k1, k2⟩ := h' W' g
    rw [g.le.pa] at h1 k1
    refine ⟨vs, ws, h1, k1, ?_⟩
    rcases zipL_length xs ys with z | z
    · exact .inl (by rw [z]; exact Nat.le_of_eq h2.length)
    · exact .inr (by rw [z]; exact Nat.le_of_eq k2.length)
theorem yl_zipT {W : Wd} {a b : Addr} {xs ys : List D} (h : WkT W a xs) (h' : WkT W b ys) : Yl W (RZ.ItzT W.pa.K a b) (zipL xs ys) where
  go := fun i d e W' g s => by
    obtain ⟨vs, h1, h2⟩ := h W' g
    obtain ⟨ws, k1, k2⟩ := h' W' g
    rw [g.le.pa] at h1 k1
    obtain ⟨x, y, e0, e1, rfl⟩ := zipL_get e
    obtain ⟨v, e2, r⟩ := h2.get e0
    obtain ⟨w, e3, r'⟩ := k2.get e1
    refine ⟨⟨vs, ws, v, w, h1, k1, e2, e3⟩, fun y H' ⟨q, z, u, ey, hq, eH, hz, hu⟩ => ?_⟩
    have := hz vs h1
    rw [e2] at this
    cases this
    have := hu ws k1
    rw [e3] at this
    cases this
    subst ey
    subst eH
    exact new_pair s hq r r'
  stop := fun W' g s => by
    obtain ⟨vs, h1, h2⟩ := h W' g
    obtain ⟨ws, k1, k2⟩ := h' W' g
    rw [g.le.pa] at h1 k1
    refine ⟨vs, ws, h1, k1, ?_⟩
    rcases zipL_length xs ys with z | z
    · exact .inl (by rw [z]; exact Nat.le_of_eq h2.length)
    · exact .inr (by rw [z]; exact Nat.le_of_eq k2.length)
def SndI (nm : Nm) (tb : Tbl) (pa : Pa) (c : I) : Prop := ∀ (k : Nat) (wx : XK) (ct : Ct) (X : Cx), Cok nm tb pa k wx ct X → ∀ (tg e : Expr), mtI nm ct c tg e = true → ∀ (W : Wd) (σ : L2.St) (ρ : Env) (Q : It → Hp → Prop), W.pa = pa → Sm W → EnvR W ρ σ →
  PostR W wx (evI (glv tb k) c ρ W.h) (fun p W' => LkOk W'.h p.2 → ∀ J, Yl (W'.lock p.2) J p.1 → Q J W'.H) → tsI X tg e σ W.H Q
section
variable {nm : Nm} {tb : Tbl} {pa : Pa}
theorem lst_walk {W : Wd} (s : Sm W) {d : D} {v : V} {xs : List D} {o : Option Nat} (r : Rep W d v) (e : itD W.h d = some (xs, o)) (hd : ∀ ys, d ≠ .tup ys) : ∃ a vs, v = .ref a ∧ WkL (W.lock o) a xs ∧ SqL W.pa.K W.H a vs := by
  obtain ⟨a, vs, rfl, h⟩ := wk_at s r e
  rcases h with h | h
  · exact ⟨a, vs, rfl, h⟩
  · cases d with
    | tup ys => exact absurd rfl (hd ys)
    | lst ys =>
      cases e
      obtain ⟨b, ws, eb, h1, n, q⟩ := r
      cases eb
      exact ⟨a, ws, rfl, wk_lst h1 n q, SqL.of h1⟩
    | ref n =>
      have e2 : ∃ zs, lstOf W.h (.ref n) = some zs := by
        have := (itD_ok e).2
        exact ⟨xs, this⟩
      obtain ⟨zs, e2⟩ := e2
      obtain ⟨b, ws, eb, h1, q⟩ := lst_at s r e2
      cases eb
      have e3 := (itD_ok e).2
      have e4 : zs = xs := by
        have : seqOf W.h (.ref n) = some zs := e2
        rw [e3] at this
        cases this
        rfl
      subst e4
      refine ⟨a, ws, rfl, fun W' g => ?_, SqL.of h1⟩
      obtain ⟨l, hv⟩ := r
      cases hc : getC W.h n with
      | lst ys =>
        simp only [itD, hc] at e
        cases e
        obtain ⟨b, ea, c⟩ := s.at l (by rw [hc]; intro z; cases z)
        cases hv b ea
        refine ⟨ws, SqL.of (g.lck n zs a _ ?_ ea h1), RepA.le g.le _ _ (RepA.go go_lock _ _ q)⟩
        rw [lock_some hc]
        exact getC_set (lt_of_getC (by rw [hc]; intro z; cases z))
      | lck ys =>
        simp only [itD, hc] at e
        cases e
        obtain ⟨b, ea, c⟩ := s.at l (by rw [hc]; intro z; cases z)
        cases hv b ea
        exact ⟨ws, SqL.of (g.lck n zs a _ hc ea h1), RepA.le g.le _ _ q⟩
      | ins c fs =>
        simp only [itD, hc] at e
        cases e
      | dead =>
        simp only [itD, hc] at e
        cases e
    | _ => cases e
theorem snd_seq {c : E} (h : SndE nm tb pa c) : SndI nm tb pa (.seq c) := fun k wx ct X C tg e hm W σ ρ Q hW s hr hp => by
  have hp : PostR W wx ((evE (glv tb k) c ρ W.h).bind fun d h1 => opt (itD h1 d) h1) (fun p W' => LkOk W'.h p.2 → ∀ J, Yl (W'.lock p.2) J p.1 → Q J W'.H) := hp
  have hm : mtE nm ct c e = true := hm
  have hc : X.K = pa.K := C.K
  cases e0 : evE (glv tb k) c ρ W.h with
  | bad =>
    rw [e0] at hp
    exact hp.elim
  | exn c1 d1 h1 =>
    rw [e0] at hp
    exact ⟨iList X.K (tsE X e), pi_list pe_ts, h k wx ct X C e hm W σ ρ _ hW s hr (by rw [e0]; exact hp)⟩
  | ok d h1 =>
    have key : ∀ P : VK, PostR W wx (.ok d h1) (PE' W (freshE c) P) → tsE X e σ W.H P := fun P hP => h k wx ct X C e hm W σ ρ P hW s hr (by rw [e0]; exact hP)
    rw [e0] at hp
    by_cases hd : ∃ ys, d = .tup ys
    · obtain ⟨ys, rfl⟩ := hd
      refine ⟨iTup X.K (tsE X e), pi_tup pe_ts, key _ fun W1 g1 s1 e1 v r _ => ?_⟩
      subst e1
      obtain ⟨a, vs, rfl, h1, q⟩ := r
      have hp := PostR.to hp g1 s1
      have hK : X.K = W1.pa.K := by rw [hc, g1.pa, hW]
      refine ⟨a, rfl, ⟨vs, by rw [hK]; exact h1.sq⟩, hp (fun n z => by cases z) _ ?_⟩
      rw [hK]
      exact yl_tup (W := W1.lock none) (wk_tup h1 q)
    · refine ⟨iList X.K (tsE X e), pi_list pe_ts, key _ fun W1 g1 s1 e1 v r _ => ?_⟩
      subst e1
      cases ei : itD W1.h d with
      | none =>
        have hp : PostR W wx (opt (itD W1.h d) W1.h) _ := hp
        rw [ei] at hp
        exact hp.elim
      | some p =>
        obtain ⟨xs, o⟩ := p
        have hp : PostR W wx (opt (itD W1.h d) W1.h) _ := hp
        rw [ei] at hp
        have hp := PostR.to hp g1 s1
        obtain ⟨a, vs, rfl, h1, q⟩ := lst_walk s1 r ei fun ys z => hd ⟨ys, z⟩
        have hK : X.K = W1.pa.K := by rw [hc, g1.pa, hW]
        refine ⟨a, rfl, ⟨vs, by rw [hK]; exact q⟩, hp (itD_ok ei).1 _ ?_⟩
        rw [hK]
        exact yl_lst (W := W1.lock o) h1
theorem snd_rng {cs : List E} (h : ∀ c, c ∈ cs → SndE nm tb pa c) : SndI nm tb pa (.rng cs) := fun k wx ct X C tg e hm W σ ρ Q hW s hr hp => by
  cases e with
  | Call g es kws p =>
    cases kws with
    | cons _ _ => cases hm
    | nil =>
      have hm : (bltB nm ct.sc "range" g && decide (es.length = 1 ∨ es.length = 2) && mtEs nm ct cs es) = true := hm
      obtain ⟨h1, h3⟩ := ba hm
      obtain ⟨h1, h2⟩ := ba h1
      have h2 := of_decide_eq_true h2
      obtain ⟨x, q, rfl, hx, g1, g2⟩ := C.blt h1
      subst hx
      have hp : PostR W wx ((evEs (glv tb k) cs ρ W.h).bind fun ds h1 => match rngD ds with
          | some (lo, n) => .ok (rngL lo n, none) h1
          | none => .bad) (fun p W' => LkOk W'.h p.2 → ∀ J, Yl (W'.lock p.2) J p.1 → Q J W'.H) := hp
      cases cs with
      | nil =>
        rw [mtEs_nil h3] at h2
        rcases h2 with h2 | h2 <;> cases h2
      | cons c1 cs =>
        obtain ⟨e1, r1, rfl, n1, n2, n3⟩ := mtEs_cons h3
        cases cs with
        | nil =>
          rw [mtEs_nil n3]
          refine ⟨iRng1 (tCons (tsE X e1) tNil), pi_range1 g1 g2 (pa_cons pe_ts pa_nil (star_cons n1)) (star_cons n1), ?_⟩
          unfold evEs evEs at hp
          refine (h c1 List.mem_cons_self).use C n2 hW s hr (by rw [R.assoc] at hp; exact hp) fun d W1 v g1 s1 r1 hp1 => ?_
          have hp1 : PostR W1 wx (match rngD [d] with
            | some (lo, n) => .ok (rngL lo n, none) W1.h
            | none => .bad) (fun p W' => LkOk W'.h p.2 → ∀ J, Yl (W'.lock p.2) J p.1 → Q J W'.H) := hp1
          cases hrg : rngD [d] with
          | none =>
            rw [hrg] at hp1
            exact hp1.elim
          | some ln =>
            obtain ⟨lo, n⟩ := ln
            rw [hrg] at hp1
            have hq := hp1.now s1 (fun n z => by cases z) _ (yl_rng (W := W1.lock none) (lo := lo) (n := n))
            rcases rng_at (RepA.one r1) hrg with ⟨j, ev, rfl, rfl, h5, h6⟩ | ⟨j, ev, _⟩
            · exact ⟨j, ev, h5, h6, hq⟩
            · cases ev
        | cons c2 cs =>
          obtain ⟨e2, r2, rfl, m1, m2, m3⟩ := mtEs_cons n3
          cases r2 with
          | cons _ _ =>
            rcases h2 with hlen | hlen
            · cases hlen
            · simp at hlen
          | nil =>
          cases cs with
          | cons _ _ => cases m3
          | nil =>
          have e2s : starEach [e2] X.env = [(false, eval e2 X.env)] := star_cons m1
          refine ⟨iRng2 (tCons (tsE X e1) (tCons (tsE X e2) tNil)), pi_range2 g1 g2 (pa_cons pe_ts (pa_cons pe_ts pa_nil (star_cons m1)) (star_cons n1)) (by rw [star_cons n1, e2s]) e2s, ?_⟩
          unfold evEs evEs evEs at hp
          refine (h c1 List.mem_cons_self).use C n2 hW s hr (by rw [R.assoc] at hp; exact hp) fun d W1 v g1 s1 r1 hp1 => ?_
          refine (h c2 (by simp)).use C m2 (g1.pa.trans hW) s1 (hr.go g1) (by rw [R.assoc, R.assoc] at hp1; exact hp1) fun d2 W2 v2 g2 s2 r2 hp2 => ?_
          have hp2 : PostR W2 wx (match rngD [d, d2] with
            | some (lo, n) => .ok (rngL lo n, none) W2.h
            | none => .bad) (fun p W' => LkOk W'.h p.2 → ∀ J, Yl (W'.lock p.2) J p.1 → Q J W'.H) := hp2
          cases hrg : rngD [d, d2] with
          | none =>
            rw [hrg] at hp2
            exact hp2.elim
          | some ln =>
            obtain ⟨lo, n⟩ := ln
            rw [hrg] at hp2
            have hq := hp2.now s2 (fun n z => by cases z) _ (yl_rng (W := W2.lock none) (lo := lo) (n := n))
            rcases rng_at (ds := [d, d2]) (vs := [v, v2]) ⟨v, [v2], rfl, r1.go g2, RepA.one r2⟩ hrg with ⟨j, ev, _⟩ | ⟨j, ev, rfl, h5⟩
            · cases ev
            · exact ⟨lo, j, ev, h5, hq⟩
  | _ => cases hm
theorem snd_enm {c : E} (h : SndE nm tb pa c) : SndI nm tb pa (.enm c) := fun k wx ct X C tg e hm W σ ρ Q hW s hr hp => by
  have hp : PostR W wx ((evE (glv tb k) c ρ W.h).bind fun d h1 => match itD h1 d with
    | some (xs, o) => .ok (enumL 0 xs, o) h1
    | none => .bad) (fun p W' => LkOk W'.h p.2 → ∀ J, Yl (W'.lock p.2) J p.1 → Q J W'.H) := hp
  cases tg with
  | Tuple elts kk tpos =>
    cases e with
    | Call g es kws p =>
      match es, kws, hm with
      | [x], [], hm =>
        obtain ⟨h1, h3⟩ := ba hm
        obtain ⟨h1, h2⟩ := ba h1
        obtain ⟨y, q, rfl, hx, g1, g2⟩ := C.blt h1
        subst hx
        refine ⟨iEnumT X.K (tCons (tsE X x) tNil), pi_enumT g1 g2 (pa_cons pe_ts pa_nil (star_cons (nb h2))) (star_cons (nb h2)), ?_⟩
        refine h.use C h3 hW s hr hp fun d W1 v g1 s1 r1 hp1 => ?_
        have hK : X.K = W1.pa.K := by rw [C.K, g1.pa, hW]
        cases ei : itD W1.h d with
        | none =>
          rw [ei] at hp1
          exact hp1.elim
        | some p =>
          obtain ⟨xs, o⟩ := p
          rw [ei] at hp1
          have hq := hp1.now s1 (itD_ok ei).1
          obtain ⟨a, vs, rfl, hh⟩ := wk_at s1 r1 ei
          refine ⟨a, vs, rfl, ?_⟩
          rcases hh with ⟨hw, hs⟩ | ⟨hw, hs⟩
          · refine .inl ⟨by rw [hK]; exact hs, hq _ ?_⟩
            rw [hK]
            exact yl_enm (W := W1.lock o) hw
          · refine .inr ⟨by rw [hK]; exact hs, hq _ ?_⟩
            rw [hK]
            exact yl_enmT (W := W1.lock o) hw
      | [], _, hm => cases hm
      | _ :: _ :: _, _, hm => cases hm
      | [_], _ :: _, hm => cases hm
    | _ => cases hm
  | _ => cases hm
theorem snd_zip {a b : E} (ha : SndE nm tb pa a) (hb : SndE nm tb pa b) : SndI nm tb pa (.zip a b) := fun k wx ct X C tg e hm W σ ρ Q hW s hr hp => by
  have hp : PostR W wx ((evE (glv tb k) a ρ W.h).bind fun x h1 => (evE (glv tb k) b ρ h1).bind fun y h2 => match zipD x y with
    | some zs => .ok (zs, none) h2
    | none => .bad) (fun p W' => LkOk W'.h p.2 → ∀ J, Yl (W'.lock p.2) J p.1 → Q J W'.H) := hp
  cases tg with
  | Tuple elts kk tpos =>
    cases e with
    | Call g es kws p =>
      match es, kws, hm with
      | [x, y], [], hm =>
        obtain ⟨h1, h5⟩ := ba hm
        obtain ⟨h1, h4⟩ := ba h1
        obtain ⟨h1, h3⟩ := ba h1
        obtain ⟨h1, h2⟩ := ba h1
        obtain ⟨z, q, rfl, hx, g1, g2⟩ := C.blt h1
        subst hx
        have e2s : starEach [y] X.env = [(false, eval y X.env)] := star_cons (nb h3)
        refine ⟨RZ.iZipA X.K (tCons (tsE X x) (tCons (tsE X y) tNil)), RZ.pi_zipA g1 g2 (pa_cons pe_ts (pa_cons pe_ts pa_nil e2s) (star_cons (nb h2))) (star_cons (nb h2)) (by rw [e2s]; rfl), ?_⟩
        refine ha.use C h4 hW s hr hp fun d W1 v g1 s1 r1 hp1 => ?_
        refine hb.use C h5 (g1.pa.trans hW) s1 (hr.go g1) hp1 fun d2 W2 v2 g2 s2 r2 hp2 => ?_
        have hK : X.K = W2.pa.K := by rw [C.K, g2.pa, g1.pa, hW]
        have r1 := r1.go g2
        cases d with
        | tup xs =>
          cases d2 with
          | tup ys =>
            have hq := hp2.now s2 fun n z => by cases z
            obtain ⟨a, vs, rfl, q1, q2⟩ := r1
            obtain ⟨b, ws, rfl, p1, p2⟩ := r2
            refine ⟨a, b, vs, ws, rfl, .inr ⟨by rw [hK]; exact q1.sq, by rw [hK]; exact p1.sq, hq _ ?_⟩⟩
            rw [hK]
            exact yl_zipT (W := W2.lock none) (wk_tup q1 q2) (wk_tup p1 p2)
          | _ => exact hp2.elim
        | lst xs =>
          cases d2 with
          | lst ys =>
            have hq := hp2.now s2 fun n z => by cases z
            obtain ⟨a, vs, rfl, q1, n1, q2⟩ := r1
            obtain ⟨b, ws, rfl, p1, n2, p2⟩ := r2
            refine ⟨a, b, vs, ws, rfl, .inl ⟨SqL.of q1, SqL.of p1, hq _ ?_⟩⟩
            rw [hK]
            exact yl_zip (W := W2.lock none) (wk_lst q1 n1 q2) (wk_lst p1 n2 p2)
          | _ => exact hp2.elim
        | _ => cases d2 <;> exact hp2.elim
      | [], _, hm => cases hm
      | [_], _, hm => cases hm
      | _ :: _ :: _ :: _, _, hm => cases hm
      | [_, _], _ :: _, hm => cases hm
    | _ => cases hm
  | _ => cases hm
end
end Cl
/-! text ClM -/
set_option maxHeartbeats 1000007
/-! Targets; comprehensions. -/
namespace Cl
open PySem L2
section
variable {nm : Nm} {tb : Tbl} {pa : Pa}
theorem asgEach_cons {e : Expr} {es : List Expr} {env : PySem.Env} (h : isStarE e = false) : assignEach (e :: es) env = (false, assign e env) :: assignEach es env := by
  cases e <;> first | rfl | cases h
theorem asgEach_ts {ct : Ct} {env : PySem.Env} : ∀ {ts : List T} {es : List Expr}, mtTs ct ts es = true → (assignEach es env).length = ts.length ∧ (assignEach es env).findIdx? (·.1) = none
  | [], es, h => by
    cases es with
    | nil => exact ⟨rfl, rfl⟩
    | cons _ _ => cases h
  | t :: ts, es, h => by
    cases es with
    | nil => cases h
    | cons e es =>
      obtain ⟨h1, h2⟩ := ba h
      obtain ⟨h1, h3⟩ := ba h1
      rw [asgEach_cons (nb h1)]
      obtain ⟨q1, q2⟩ := asgEach_ts (env := env) h2
      refine ⟨by rw [List.length_cons, List.length_cons, q1], ?_⟩
      rw [List.findIdx?_cons]
      simp only [Bool.false_eq_true, if_false, q2]
      rfl
mutual
def idxT : T → List Nat
  | .nam i => [i]
  | .tup ts => idxTs ts
def idxTs : List T → List Nat
  | [] => []
  | t :: ts => idxT t ++ idxTs ts
end
theorem EnvR.set {W : Wd} {ρ : Env} {σ : L2.St} {i : Nat} {d : D} {v : V} (h : EnvR W ρ σ) (r : Rep W d v) : EnvR W (ρ.set i (some d)) (σ.set i (some v)) := by
  refine ⟨by rw [List.length_set, List.length_set]; exact h.1, fun j x e => ?_⟩
  rw [List.getD_eq_getElem?_getD] at e
  by_cases z : i = j
  · subst z
    by_cases hl : i < ρ.length
    · rw [List.getElem?_set_self hl] at e
      cases e
      exact ⟨v, by rw [List.getElem?_set_self (by rw [h.1]; exact hl)], r⟩
    · rw [List.set_eq_of_length_le (by omega), List.getElem?_eq_none (by omega)] at e
      cases e
  · rw [List.getElem?_set_ne z] at e
    obtain ⟨w, h1, h2⟩ := h.2 j x (by rw [List.getD_eq_getElem?_getD]; exact e)
    exact ⟨w, by rw [List.getElem?_set_ne z]; exact h1, h2⟩
theorem EnvR.wipe {W : Wd} {ρ : Env} {σ : L2.St} (h : EnvR W ρ σ) : ∀ vs : List Nat, EnvR W (wipeE ρ vs) (L2.wipe σ vs)
  | [] => h
  | v :: vs => by
    have q := EnvR.wipe h vs
    unfold wipeE L2.wipe
    refine ⟨by rw [List.length_set, List.length_set]; exact q.1, fun j x e => ?_⟩
    rw [List.getD_eq_getElem?_getD] at e
    by_cases z : v = j
    · subst z
      by_cases hl : v < (wipeE ρ vs).length
      · rw [List.getElem?_set_self hl] at e
        cases e
      · rw [List.set_eq_of_length_le (by omega), List.getElem?_eq_none (by omega)] at e
        cases e
    · rw [List.getElem?_set_ne z] at e
      obtain ⟨w, h1, h2⟩ := q.2 j x (by rw [List.getD_eq_getElem?_getD]; exact e)
      exact ⟨w, by rw [List.getElem?_set_ne z]; exact h1, h2⟩
theorem EnvR.le {W W' : Wd} {ρ : Env} {σ : L2.St} (g : Le W W') (h : EnvR W ρ σ) : EnvR W' ρ σ := ⟨h.1, fun i d e => by
  obtain ⟨v, h1, h2⟩ := h.2 i d e
  exact ⟨v, h1, Rep.le g _ _ h2⟩⟩
theorem wipe_set {σ : L2.St} {i : Nat} {x : Option V} : ∀ {vs : List Nat}, i ∈ vs → L2.wipe (σ.set i x) vs = L2.wipe σ vs
  | [], h => by cases h
  | v :: vs, h => by
    unfold L2.wipe
    by_cases z : i ∈ vs
    · rw [wipe_set z]
    · have e : i = v := by
        rcases List.mem_cons.mp h with e | h
        · exact e
        · exact absurd h z
      subst e
      have key : ∀ {us : List Nat}, i ∉ us → L2.wipe (σ.set i x) us = (L2.wipe σ us).set i x := fun {us} => by
        induction us with
        | nil => exact fun _ => rfl
        | cons u us ih =>
          intro hn
          unfold L2.wipe
          rw [ih fun q => hn (List.mem_cons_of_mem _ q), List.set_comm _ _ fun q => hn (by rw [q]; exact List.mem_cons_self)]
      rw [key z, List.set_set]
def tsGs (X : Cx) (es : List Expr) : TGs := fun vs σ H Q => ∃ t, PGs X es t ∧ t vs σ H Q
theorem pgs_ts {X : Cx} {es : List Expr} : PGs X es (tsGs X es) := ⟨fun pins s σ H vs us Q I r ⟨_, h, q⟩ => h.run pins s σ H vs us Q I r q⟩
mutual
theorem asg_ok : ∀ (t : T) {k : Nat} {wx : XK} {ct : Ct} {X : Cx}, Cok nm tb pa k wx ct X → ∀ {tg : Expr}, mtT ct t tg = true → ∀ {W : Wd} {σ : L2.St} {ρ ρ1 : Env} {d : D} {x : V} {Q : L2.St → Hp → Prop}, W.pa = pa → Sm W → EnvR W ρ σ → Rep W d x →
    asgT t d W.h ρ = some ρ1 → (∀ σ1, EnvR W ρ1 σ1 → (∀ vs, (∀ i ∈ idxT t, i ∈ vs) → L2.wipe σ1 vs = L2.wipe σ vs) → Q σ1 W.H) → tsG X tg x σ W.H Q
  | .nam i, k, wx, ct, X, C, tg, hm, W, σ, ρ, ρ1, d, x, Q, hW, s, hr, r, ha, hq => by
    cases tg with
    | Name y p =>
      obtain ⟨h1, h2⟩ := ba hm
      have h1 := of_decide_eq_true h1
      obtain ⟨l1, l2⟩ := C.sto y h2
      refine ⟨gName i, pg_name (by rw [C.N]; exact C.nd) (by rw [C.N]; exact h1) l1 l2, ?_⟩
      have e : ρ.set i (some d) = ρ1 := Option.some.inj ha
      rw [← e] at hq
      exact hq _ (hr.set r) fun vs hv => wipe_set (hv i List.mem_cons_self)
    | _ => cases hm
  | .tup ts, k, wx, ct, X, C, tg, hm, W, σ, ρ, ρ1, d, x, Q, hW, s, hr, r, ha, hq => by
    cases tg with
    | Tuple es kk p =>
      have hm : mtTs ct ts es = true := hm
      cases d with
      | tup ds =>
        have ha : asgTs ts ds W.h ρ = some ρ1 := ha
        obtain ⟨a, vs, rfl, h1, h2⟩ := r
        have hK : X.K = W.pa.K := by rw [C.K, hW]
        obtain ⟨q1, q2⟩ := asgEach_ts (env := X.env) hm
        have key := asgs_ok ts C hm hW s hr h2 ha (Q := Q) hq
        refine ⟨_, pg_tup (n := ts.length) C.calm (pgs_ts (es := es)) q1 q2, a, vs, rfl, by rw [hK]; exact h1.sq, ?_, key.2⟩
        rw [key.1]
      | _ => cases ha
    | _ => cases hm
theorem asgs_ok : ∀ (ts : List T) {k : Nat} {wx : XK} {ct : Ct} {X : Cx}, Cok nm tb pa k wx ct X → ∀ {es : List Expr}, mtTs ct ts es = true → ∀ {W : Wd} {σ : L2.St} {ρ ρ1 : Env} {ds : List D} {xs : List V} {Q : L2.St → Hp → Prop}, W.pa = pa → Sm W → EnvR W ρ σ → RepA W ds xs →
    asgTs ts ds W.h ρ = some ρ1 → (∀ σ1, EnvR W ρ1 σ1 → (∀ vs, (∀ i ∈ idxTs ts, i ∈ vs) → L2.wipe σ1 vs = L2.wipe σ vs) → Q σ1 W.H) → xs.length = ts.length ∧ tsGs X es xs σ W.H Q
  | [], k, wx, ct, X, C, es, hm, W, σ, ρ, ρ1, ds, xs, Q, hW, s, hr, r, ha, hq => by
    cases es with
    | cons _ _ => cases hm
    | nil =>
      cases ds with
      | cons _ _ => cases ha
      | nil =>
        have e : xs = [] := r
        subst e
        have e : ρ = ρ1 := Option.some.inj ha
        subst e
        exact ⟨rfl, gNil, pgs_nil, rfl, hq σ hr fun _ _ => rfl⟩
  | t :: ts, k, wx, ct, X, C, es, hm, W, σ, ρ, ρ1, ds, xs, Q, hW, s, hr, r, ha, hq => by
    cases es with
    | nil => cases hm
    | cons e es =>
      obtain ⟨h1, h2⟩ := ba hm
      obtain ⟨h1, h3⟩ := ba h1
      cases ds with
      | nil => cases ha
      | cons d ds =>
        obtain ⟨x, xr, rfl, rx, rr⟩ := r
        unfold asgTs at ha
        cases h4 : asgT t d W.h ρ with
        | none =>
          rw [h4] at ha
          cases ha
        | some ρ2 =>
          rw [h4] at ha
          have hlen : ∀ {ts : List T} {ds : List D} {ρ ρ1 : Env} {xs : List V}, asgTs ts ds W.h ρ = some ρ1 → RepA W ds xs → xs.length = ts.length := fun {ts} => by
            induction ts with
            | nil =>
              intro ds ρ ρ1 xs h r
              cases ds with
              | nil =>
                have e : xs = [] := r
                rw [e]
                rfl
              | cons _ _ => cases h
            | cons t ts ih =>
              intro ds ρ ρ1 xs h r
              cases ds with
              | nil => cases h
              | cons d ds =>
                obtain ⟨x, xr, rfl, _, rr⟩ := r
                unfold asgTs at h
                cases h5 : asgT t d W.h ρ with
                | none =>
                  rw [h5] at h
                  cases h
                | some ρ3 =>
                  rw [h5] at h
                  rw [List.length_cons, List.length_cons, ih h rr]
          refine ⟨by rw [List.length_cons, List.length_cons, hlen ha rr], gCons (tsG X e) (tsGs X es), pgs_cons pg_ts pgs_ts (by rw [asgEach_cons (nb h1)]; rfl), x, xr, rfl, ?_⟩
          refine asg_ok t C h3 hW s hr rx h4 fun σ1 hr1 hw1 => ?_
          refine (asgs_ok ts C h2 hW s hr1 rr ha fun σ2 hr2 hw2 => hq σ2 hr2 fun vs hv => ?_).2
          rw [hw2 vs fun i hi => hv i (List.mem_append_right _ hi), hw1 vs fun i hi => hv i (List.mem_append_left _ hi)]
end
end
end Cl
/-! text ClN -/
set_option maxHeartbeats 1000007
/-! Comprehensions. -/
namespace Cl
open PySem L2
theorem fold_ok {e : Expr} {env : PySem.Env} (h : isSetE e = false) (x : Value) : foldedSetIterable e env x = pure x := by
  cases e <;> first | rfl | cases h
section
variable {nm : Nm} {tb : Tbl} {pa : Pa}
theorem relab {scope : Scope} {env : PySem.Env} : relabel scope env = relS scope env.scope := rfl
theorem cok_blk {k : Nat} {wx : XK} {ct : Ct} {X : Cx} (C : Cok nm tb pa k wx ct X) {scope : Scope} (s : Shared) (H : Hp) (c : Addr) (cl : List (Str × Addr)) (fp : List Addr) : Cok nm tb pa k (fun _ _ _ => False) (blkCt ct scope) (X.blk s H scope (compEnvC scope cl c X.env) fp) where
  N := C.N
  sc := by
    show relS scope X.env.scope = relS scope ct.sc
    rw [C.sc]
  nd := C.nd
  calm := C.calm
  rm := C.rm
  K := C.K
  tk := takes0
  pso := PassesOwn.never
  sto := fun x h => by
    have e : (compEnvC scope cl c X.env).scope = relS scope ct.sc := by
      show relS scope X.env.scope = relS scope ct.sc
      rw [C.sc]
    unfold blkCt at h
    simp only at h
    show Loc (compEnvC scope cl c X.env).scope x ∧ ((scope.names.lookup x == some .cell) = true ∨ (compEnvC scope cl c X.env).scope.names.lookup x = some .local)
    rw [e]
    cases hl : (relS scope ct.sc).names.lookup x with
    | none =>
      rw [hl] at h
      cases h
    | some q =>
      rw [hl] at h
      cases q with
      | «local» => exact ⟨.inl hl, .inr rfl⟩
      | cell => exact ⟨.inr hl, .inl h⟩
      | _ => cases h
  fx := C.fx
  stk := fun h => Bool.noConfusion h
/-- the world without the temporary at p -/
def Wd.strip (W : Wd) (p : Addr) (T : List Addr) : Wd := { W with T := T, H := fun a => if a = p then none else W.H a }
theorem strip_some {W : Wd} {p a : Addr} {T : List Addr} {o : HO} : (W.strip p T).H a = some o ↔ (a ≠ p ∧ W.H a = some o) := by
  show (if a = p then none else W.H a) = some o ↔ _
  by_cases e : a = p
  · rw [if_pos e]
    constructor
    · intro z; cases z
    · rintro ⟨z, _⟩; exact absurd e z
  · rw [if_neg e]
    exact ⟨fun h => ⟨e, h⟩, fun h => h.2⟩
theorem ow_strip {W : Wd} {p a : Addr} {T : List Addr} (hT : W.T = p :: T) : ow W a ↔ (a = p ∨ ow (W.strip p T) a) := by
  constructor
  · rintro (h | h)
    · rw [hT] at h
      rcases List.mem_cons.mp h with e | h
      · exact .inl e
      · exact .inr (.inl h)
    · exact .inr (.inr h)
  · rintro (e | h | h)
    · exact .inl (by rw [hT, e]; exact List.mem_cons_self)
    · exact .inl (by rw [hT]; exact List.mem_cons_of_mem _ h)
    · exact .inr h
theorem le_strip {W : Wd} {p : Addr} {T : List Addr} (hT : W.T = p :: T) : Le W (W.strip p T) := by
  refine ⟨rfl, fun a o h n => ?_, Nat.le_refl _, fun _ _ h => .inl h⟩
  have e : a ≠ p := fun z => n ((ow_strip hT).mpr (.inl z))
  exact ⟨strip_some.mpr ⟨e, h⟩, fun q => n ((ow_strip hT).mpr (.inr q))⟩
theorem sm_strip {W : Wd} (s : Sm W) {p : Addr} {T : List Addr} (hT : W.T = p :: T) (hp : p ∉ T) : Sm (W.strip p T) where
  len := s.len
  inj := s.inj
  cel := fun n a h => by
    have q := s.cel n a h
    have e : a ≠ p := fun z => (s.tmp p (by rw [hT]; exact List.mem_cons_self)).2 n (by rw [← z]; exact h)
    have g := le_strip hT
    show CR (W.strip p T) a (getC W.h n)
    cases hc : getC W.h n with
    | lst xs =>
      rw [hc] at q
      obtain ⟨vs, h1, h2⟩ := q
      exact ⟨vs, strip_some.mpr ⟨e, h1⟩, RepA.le g _ _ h2⟩
    | lck xs =>
      rw [hc] at q
      obtain ⟨vs, h1, h2⟩ := q
      exact ⟨vs, strip_some.mpr ⟨e, h1⟩, RepA.le g _ _ h2⟩
    | ins c fs =>
      rw [hc] at q
      obtain ⟨l, dx, gs, h1, h2⟩ := q
      exact ⟨l, dx, gs, strip_some.mpr ⟨e, h1⟩, RepF.le g _ _ h2⟩
    | dead =>
      rw [hc] at q
      exact q.elim
  ded := s.ded
  tmp := fun a h => by
    have e : a ≠ p := fun z => hp (by rw [← z]; exact h)
    obtain ⟨h1, h2⟩ := s.tmp a (by rw [hT]; exact List.mem_cons_of_mem _ h)
    refine ⟨?_, h2⟩
    show (if a = p then none else W.H a) ≠ none
    rw [if_neg e]
    exact h1
theorem go_strip {W W' : Wd} {p : Addr} {T : List Addr} (hT : W.T = p :: T) (hp : p ∉ T) (g : Go W W') : Go (W.strip p T) (W'.strip p T) where
  pa := g.pa
  T := rfl
  keep := fun a o h n => by
    obtain ⟨e, h⟩ := strip_some.mp h
    obtain ⟨h1, n1⟩ := g.keep a o h fun q => by
      rcases (ow_strip hT).mp q with q | q
      · exact e q
      · exact n q
    exact ⟨strip_some.mpr ⟨e, h1⟩, fun q => n1 ((ow_strip (g.T.trans hT)).mpr (.inr q))⟩
  trk := fun a o h => by
    obtain ⟨e, h⟩ := strip_some.mp h
    obtain ⟨o', h1⟩ := g.trk a o h
    exact ⟨o', strip_some.mpr ⟨e, h1⟩⟩
  tmp := fun a o m h => by
    obtain ⟨e, h⟩ := strip_some.mp h
    exact strip_some.mpr ⟨e, g.tmp a o (by rw [hT]; exact List.mem_cons_of_mem _ m) h⟩
  len := g.len
  mono := g.mono
  lck := fun n xs h => by
    obtain ⟨h1, h2, h3⟩ := g.lck n xs h
    refine ⟨h1, h2, fun a o ha h => ?_⟩
    obtain ⟨e, h⟩ := strip_some.mp h
    exact strip_some.mpr ⟨e, h3 a o ha h⟩
theorem ke_strip {W W' : Wd} {p : Addr} (hT : W'.T = p :: W.T) (g : Go W (W'.strip p W.T)) : Ke W W' where
  le := ⟨g.pa, fun a o h n => by
    obtain ⟨h1, n1⟩ := g.keep a o h n
    obtain ⟨e, h1⟩ := strip_some.mp h1
    refine ⟨h1, fun q => ?_⟩
    rcases (ow_strip hT).mp q with q | q
    · exact e q
    · exact n1 q, g.len, g.mono⟩
  lck := fun n xs a o h1 h2 h3 => (strip_some.mp ((g.lck n xs h1).2.2 a o h2 h3)).2
/-- a temporary list changes -/
def Wd.putT (W : Wd) (p : Addr) (o : HO) : Wd := { W with H := upd W.H p o }
theorem putT_strip {W : Wd} {p : Addr} {o : HO} {T : List Addr} : (W.putT p o).strip p T = W.strip p T := by
  unfold Wd.putT Wd.strip
  have e : (fun a => if a = p then none else upd W.H p o a) = fun a => if a = p then none else W.H a := by
    funext a
    by_cases z : a = p
    · rw [if_pos z, if_pos z]
    · rw [if_neg z, if_neg z, upd_ne z]
  simp only [e]
theorem le_putT {W : Wd} {p : Addr} {o : HO} {T : List Addr} (hT : W.T = p :: T) : Le W (W.putT p o) := by
  refine ⟨rfl, fun a u h n => ⟨?_, n⟩, Nat.le_refl _, fun _ _ h => .inl h⟩
  have e : a ≠ p := fun z => n (.inl (by rw [hT, z]; exact List.mem_cons_self))
  show upd W.H p o a = some u
  rw [upd_ne e]
  exact h
theorem sm_putT {W : Wd} (s : Sm W) {p : Addr} {o : HO} {T : List Addr} (hT : W.T = p :: T) : Sm (W.putT p o) where
  len := s.len
  inj := s.inj
  cel := fun n a h => by
    have q := s.cel n a h
    have e : a ≠ p := fun z => (s.tmp p (by rw [hT]; exact List.mem_cons_self)).2 n (by rw [← z]; exact h)
    have g := le_putT (o := o) hT
    have eH : ∀ {u : HO}, W.H a = some u → (W.putT p o).H a = some u := fun {u} h => by
      show upd W.H p o a = some u
      rw [upd_ne e]
      exact h
    show CR (W.putT p o) a (getC W.h n)
    cases hc : getC W.h n with
    | lst xs =>
      rw [hc] at q
      obtain ⟨vs, h1, h2⟩ := q
      exact ⟨vs, eH h1, RepA.le g _ _ h2⟩
    | lck xs =>
      rw [hc] at q
      obtain ⟨vs, h1, h2⟩ := q
      exact ⟨vs, eH h1, RepA.le g _ _ h2⟩
    | ins c fs =>
      rw [hc] at q
      obtain ⟨l, dx, gs, h1, h2⟩ := q
      exact ⟨l, dx, gs, eH h1, RepF.le g _ _ h2⟩
    | dead =>
      rw [hc] at q
      exact q.elim
  ded := s.ded
  tmp := fun a h => by
    obtain ⟨h1, h2⟩ := s.tmp a h
    refine ⟨?_, h2⟩
    show upd W.H p o a ≠ none
    by_cases e : a = p
    · rw [e, upd_same]
      intro z
      cases z
    · rw [upd_ne e]
      exact h1
/-- all blocks of a comprehension -/
def uG (X : Cx) (scope : Scope) (tg : Expr) : TG := fun v σ H Q => ∀ s H0 C cl fp, tsG (X.blk s H0 scope (compEnvC scope cl C X.env) fp) tg v σ H Q
def uT (X : Cx) (scope : Scope) (ifs : List Expr) : TT := fun σ H Q => ∀ s H0 C cl fp, ∃ t, PTs (X.blk s H0 scope (compEnvC scope cl C X.env) fp) ifs t ∧ t σ H Q
def uE (X : Cx) (scope : Scope) (e : Expr) : TE := fun σ H Q => ∀ s H0 C cl fp, tsE (X.blk s H0 scope (compEnvC scope cl C X.env) fp) e σ H Q
theorem pg_u {X : Cx} {scope : Scope} {tg : Expr} {s H0 C cl fp} : PG (X.blk s H0 scope (compEnvC scope cl C X.env) fp) tg (uG X scope tg) := ⟨fun pins s' σ H v u Q I r h => pg_ts.run pins s' σ H v u Q I r (h s H0 C cl fp)⟩
theorem pt_u {X : Cx} {scope : Scope} {ifs : List Expr} {s H0 C cl fp} : PTs (X.blk s H0 scope (compEnvC scope cl C X.env) fp) ifs (uT X scope ifs) := ⟨fun pins s' σ H Q I h => by
  obtain ⟨t, h1, h2⟩ := h s H0 C cl fp
  exact h1.run pins s' σ H Q I h2⟩
theorem pe_u {X : Cx} {scope : Scope} {e : Expr} {s H0 C cl fp} : PE (X.blk s H0 scope (compEnvC scope cl C X.env) fp) e (uE X scope e) := ⟨fun pins s' σ H Q I h => pe_ts.run pins s' σ H Q I (h s H0 C cl fp)⟩
theorem idx_in : ∀ (t : T) {vs : List Nat}, idxIn t vs = true → ∀ i ∈ idxT t, i ∈ vs := by
  intro t
  refine T.rec (motive_1 := fun t => ∀ {vs : List Nat}, idxIn t vs = true → ∀ i ∈ idxT t, i ∈ vs) (motive_2 := fun ts => ∀ {vs : List Nat}, idxsIn ts vs = true → ∀ i ∈ idxTs ts, i ∈ vs) ?_ ?_ ?_ ?_ t
  · intro i vs h j hj
    have h : vs.contains i = true := h
    have hj : j ∈ [i] := hj
    rw [List.mem_singleton.mp hj]
    exact List.contains_iff_mem.mp h
  · intro ts ih vs h j hj
    exact ih (by exact h) j (by exact hj)
  · intro vs h j hj
    cases hj
  · intro t ts ih1 ih2 vs h j hj
    have h : (idxIn t vs && idxsIn ts vs) = true := h
    have hj : j ∈ idxT t ++ idxTs ts := hj
    obtain ⟨h1, h2⟩ := ba h
    rcases List.mem_append.mp hj with hj | hj
    · exact ih1 h1 j hj
    · exact ih2 h2 j hj
theorem own_ix {N : List Str} {vs : List Nat} : (ownOf N vs).map (·.2) = vs := by
  unfold ownOf
  rw [List.map_map]
  exact List.map_id vs
end
end Cl
/-! text ClO -/
set_option maxHeartbeats 1000007
/-! Comprehensions: the loop. -/
namespace Cl
open PySem L2
theorem wipe_sub {σ : L2.St} {us : List Nat} : ∀ {vs : List Nat}, (∀ v ∈ vs, v ∈ us) → L2.wipe (L2.wipe σ vs) us = L2.wipe σ us
  | [], _ => rfl
  | v :: vs, h => by
    show L2.wipe ((L2.wipe σ vs).set v none) us = _
    rw [wipe_set (h v List.mem_cons_self), wipe_sub fun x hx => h x (List.mem_cons_of_mem _ hx)]
theorem CR.le {W W' : Wd} (g : Le W W') {a : Addr} {c : Cell} (h : CR W a c) (hH : W'.H a = W.H a) : CR W' a c := by
  cases c with
  | lst xs =>
    obtain ⟨vs, e, q⟩ := h
    exact ⟨vs, hH.trans e, RepA.le g _ _ q⟩
  | lck xs =>
    obtain ⟨vs, e, q⟩ := h
    exact ⟨vs, hH.trans e, RepA.le g _ _ q⟩
  | ins k fs =>
    obtain ⟨l, dx, gs, e, q⟩ := h
    exact ⟨by rw [g.pa]; exact l, dx, gs, by rw [g.pa]; exact hH.trans e, RepF.le g _ _ q⟩
  | dead => exact h.elim
theorem sm_layT {W : Wd} (s : Sm W) {p : Addr} {o : HO} (hp : W.H p = none) : Sm ((W.lay p o).addT p) where
  len := s.len
  inj := s.inj
  cel := fun n a h => by
    obtain ⟨u, hu⟩ := s.tracked h
    exact (s.cel n a h).le (le_layT s hp) (upd_ne (ne_of_none hu hp))
  ded := s.ded
  tmp := fun a h => by
    rcases List.mem_cons.mp (show a ∈ p :: W.T from h) with e | h
    · subst e
      refine ⟨?_, fun n q => ?_⟩
      · show upd W.H a o a ≠ none
        rw [upd_same]
        intro z
        cases z
      · obtain ⟨u, hu⟩ := s.tracked q
        rw [hp] at hu
        cases hu
    · obtain ⟨h1, h2⟩ := s.tmp a h
      refine ⟨?_, h2⟩
      show upd W.H p o a ≠ none
      cases e : W.H a with
      | none => exact absurd e h1
      | some u =>
        rw [upd_ne (ne_of_none e hp), e]
        intro z
        cases z
theorem layT_strip {W : Wd} {p : Addr} {o : HO} (hp : W.H p = none) : ((W.lay p o).addT p).strip p W.T = W := by
  unfold Wd.strip Wd.addT Wd.lay
  have e : (fun a => if a = p then none else upd W.H p o a) = W.H := by
    funext a
    by_cases z : a = p
    · rw [if_pos z, z, hp]
    · rw [if_neg z, upd_ne z]
  simp only [e]
theorem compL_ok {f : D → Sto → R (Option D)} {d : D} {ds acc ys : List D} {h h5 : Sto} (e : compL f (d :: ds) acc h = .ok ys h5) :
    ∃ o h1, f d h = .ok o h1 ∧ ((o = none ∧ compL f ds acc h1 = .ok ys h5) ∨ ∃ y, o = some y ∧ acc.length < sizeLine ∧ compL f ds (acc ++ [y]) h1 = .ok ys h5) := by
  unfold compL at e
  cases hf : f d h with
  | bad =>
    rw [hf] at e
    cases e
  | exn c x h1 =>
    rw [hf] at e
    cases e
  | ok o h1 =>
    rw [hf] at e
    refine ⟨o, h1, rfl, ?_⟩
    cases o with
    | none => exact .inl ⟨rfl, e⟩
    | some y =>
      have e : ifR (decide (acc.length < sizeLine)) (compL f ds (acc ++ [y]) h1) = .ok ys h5 := e
      cases hb : decide (acc.length < sizeLine) with
      | false =>
        rw [hb] at e
        cases e
      | true =>
        rw [hb] at e
        exact .inr ⟨y, rfl, of_decide_eq_true hb, e⟩
section
variable {nm : Nm} {tb : Tbl} {pa : Pa}
theorem compF_ok {G : Glv} {tg : T} {cond : Option E} {elt : E} {vs : List Nat} {ρ : Env} {d : D} {h2 h6 : Sto} {o : Option D} (e : compF G tg cond elt vs ρ d h2 = R.ok o h6) : ∃ ρ1, asgT tg d h2 (wipeE ρ vs) = some ρ1 ∧
        ((cond = none ∧ ∃ y, evE G elt ρ1 h2 = .ok y h6 ∧ o = some y) ∨ ∃ c b h3, cond = some c ∧ tst (evE G c ρ1 h2) = .ok b h3 ∧ ((b = false ∧ h6 = h3 ∧ o = none) ∨ (b = true ∧ ∃ y, evE G elt ρ1 h3 = .ok y h6 ∧ o = some y))) := by
  unfold compF at e
  cases ha : asgT tg d h2 (wipeE ρ vs) with
  | none =>
    rw [ha] at e
    cases e
  | some ρ1 =>
    rw [ha] at e
    refine ⟨ρ1, rfl, ?_⟩
    cases cond with
    | none =>
      simp only at e
      cases h7 : evE G elt ρ1 h2 with
      | ok y h3 =>
        rw [h7] at e
        cases e
        exact .inl ⟨rfl, y, rfl, rfl⟩
      | exn c x h3 => rw [h7] at e; cases e
      | bad => rw [h7] at e; cases e
    | some c =>
      simp only at e
      cases h7 : tst (evE G c ρ1 h2) with
      | ok b h3 =>
        rw [h7] at e
        refine .inr ⟨c, b, h3, rfl, h7, ?_⟩
        cases b with
        | false =>
          cases e
          exact .inl ⟨rfl, rfl, rfl⟩
        | true =>
          have e : (evE G elt ρ1 h3).bind (fun y h4 => R.ok (some y) h4) = .ok o h6 := e
          cases h8 : evE G elt ρ1 h3 with
          | ok y h4 =>
            rw [h8] at e
            cases e
            exact .inr ⟨rfl, y, rfl, rfl⟩
          | exn c x h3 => rw [h8] at e; cases e
          | bad => rw [h8] at e; cases e
      | exn c x h3 => rw [h7] at e; cases e
      | bad => rw [h7] at e; cases e
theorem comp_ok {tg : T} {it : I} {cond : Option E} {elt : E} {vs : List Nat} (hI : SndI nm tb pa it) (hE : SndE nm tb pa elt) (hC : ∀ c, cond = some c → SndT nm tb pa c) {k : Nat} {wx : XK} {ct : Ct} {X : Cx} (C : Cok nm tb pa k wx ct X)
    {el tt ii : Expr} {ifs : List Expr} {scope : Scope} (mI : mtI nm ct it tt ii = true) (mG : mtT (blkCt ct scope) tg tt = true) (mX : idxIn tg vs = true) (mE : mtE nm (blkCt ct scope) elt el = true)
    (mC : (cond = none ∧ ifs = []) ∨ ∃ c x, cond = some c ∧ ifs = [x] ∧ mtE nm (blkCt ct scope) c x = true) {W : Wd} {σ : L2.St} {ρ : Env} {Q : VK} (hW : W.pa = pa) (s : Sm W) (hr : EnvR W ρ σ) (hp : PostR W wx (evE (glv tb k) (.comp tg it cond elt vs) ρ W.h) (PE' W true Q)) :
    tLc (tsI X tt ii) (uG X scope tt) (uT X scope ifs) (uE X scope el) vs σ W.H Q := by
  rw [evE_comp] at hp
  have fok := @compF_ok (glv tb k) tg cond elt vs ρ
  generalize compF (glv tb k) tg cond elt vs ρ = f at hp fok
  refine hI k wx ct X C tt ii mI W σ ρ _ hW s hr (PostR.bind hp fun p W1 g1 s1 hp1 lk J yl D hD => ?_)
  obtain ⟨xs, o⟩ := p
  simp only at lk yl hp1
  cases hc : compL f xs [] (lockN W1.h o) with
  | bad =>
    rw [hc] at hp1
    cases o <;> exact hp1.elim
  | exn c d h1 =>
    rw [hc] at hp1
    exact hp1.elim
  | ok ys h5 =>
    rw [hc] at hp1
    have hp1 : PostR W1 wx (.ok (.lst ys) (freeN h5 o)) (PE' W true Q) := hp1
    have gl : Go W1 (W1.lock o) := go_lock
    have sl : Sm (W1.lock o) := sm_lock s1
    have hDl : (W1.lock o).H D = none := hD
    have hDT : D ∉ (W1.lock o).T := fun z => (sl.tmp D z).1 hDl
    generalize hWl : W1.lock o = Wl at gl sl hDl hDT yl
    have eH : W1.H = Wl.H := by rw [← hWl]; rfl
    have eh : lockN W1.h o = Wl.h := by rw [← hWl]; rfl
    rw [eh] at hc
    rw [eH]
    have hpl : Wl.pa = pa := by rw [gl.pa, g1.pa, hW]
    have hr1 : EnvR Wl ρ σ := hr.go (g1.trans gl)
    refine ⟨fun i m H' => i ≤ xs.length ∧ m = xs.length - i ∧ ∃ W' acc us, W'.pa = pa ∧ Sm W' ∧ W'.H = H' ∧ W'.T = D :: Wl.T ∧ Go Wl (W'.strip D Wl.T) ∧ H' D = some (.lst us) ∧ RepA W' acc us ∧ EnvR W' (wipeE ρ vs) (L2.wipe σ vs) ∧ compL f (xs.drop i) acc W'.h = .ok ys h5,
      ⟨xs.length, Nat.zero_le _, rfl, (Wl.lay D (.lst [])).addT D, [], [], hpl, sm_layT sl hDl, rfl, rfl, ?_, upd_same, rfl, ?_, hc⟩, ?_⟩
    · rw [layT_strip hDl]
      exact Go.refl Wl
    · exact EnvR.wipe (EnvR.le (le_layT sl hDl) hr1) vs
    · rintro i m H' ⟨hi, hm, W', acc, us, hpa, s', eH', hT, gs, hH, ra, he, hcl⟩
      subst eH'
      have ke : Ke Wl W' := ke_strip hT gs
      by_cases hlt : i < xs.length
      · -- a turn
        have hget : xs[i]? = some xs[i] := List.getElem?_eq_getElem hlt
        rw [List.drop_eq_getElem_cons hlt] at hcl
        obtain ⟨o1, h1, hfd, hnext⟩ := compL_ok hcl
        obtain ⟨ρ1, hasg, hbody⟩ := fok hfd
        obtain ⟨hgo, hyl⟩ := yl.go i _ hget W' ke s'
        refine .inr ⟨hgo, fun H' => (i + 1) ≤ xs.length ∧ ∃ W' acc us, W'.pa = pa ∧ Sm W' ∧ W'.H = H' ∧ W'.T = D :: Wl.T ∧ Go Wl (W'.strip D Wl.T) ∧ H' D = some (.lst us) ∧ RepA W' acc us ∧ EnvR W' (wipeE ρ vs) (L2.wipe σ vs) ∧ compL f (xs.drop (i + 1)) acc W'.h = .ok ys h5,
          fun H' ⟨h1, h2⟩ => ⟨xs.length - (i + 1), by omega, h1, rfl, h2⟩, fun x H2 hy => ?_⟩
        obtain ⟨W2, g2, s2, eH2, eh2, rx⟩ := hyl x H2 hy
        subst eH2
        rw [← eh2] at hasg
        have hpa2 : W2.pa = pa := g2.pa.trans hpa
        have he2 : EnvR W2 (wipeE ρ vs) (L2.wipe σ vs) := he.go g2
        intro sb Hb Cb clb fpb
        have Cb' := cok_blk (scope := scope) C sb Hb Cb clb fpb
        refine asg_ok tg Cb' mG hpa2 s2 he2 rx hasg fun σ1 hr1 hw => ?_
        refine ⟨?_, ?_⟩
        · rw [hw vs (idx_in tg mX)]
          exact wipe_sub fun v h => h
        · -- the end of a turn
          have fin : ∀ {W3 : Wd}, Go W2 W3 → Sm W3 → W3.h = h1 → (o1 = none → (fun H' => (i + 1) ≤ xs.length ∧ ∃ W' acc us, W'.pa = pa ∧ Sm W' ∧ W'.H = H' ∧ W'.T = D :: Wl.T ∧ Go Wl (W'.strip D Wl.T) ∧ H' D = some (.lst us) ∧ RepA W' acc us ∧ EnvR W' (wipeE ρ vs) (L2.wipe σ vs) ∧ compL f (xs.drop (i + 1)) acc W'.h = .ok ys h5) W3.H) ∧
              ∀ y v, o1 = some y → Rep W3 y v → ∃ acc, W3.H D = some (.lst acc) ∧ acc.length < sizeLine ∧ (fun H' => (i + 1) ≤ xs.length ∧ ∃ W' acc us, W'.pa = pa ∧ Sm W' ∧ W'.H = H' ∧ W'.T = D :: Wl.T ∧ Go Wl (W'.strip D Wl.T) ∧ H' D = some (.lst us) ∧ RepA W' acc us ∧ EnvR W' (wipeE ρ vs) (L2.wipe σ vs) ∧ compL f (xs.drop (i + 1)) acc W'.h = .ok ys h5) (upd W3.H D (.lst (acc ++ [v]))) := fun {W3} g3 s3 e3 => by
            subst e3
            have g13 := g2.trans g3
            have hT3 : W3.T = D :: Wl.T := g13.T.trans hT
            have hgs : Go Wl (W3.strip D Wl.T) := gs.trans (go_strip hT hDT g13)
            have hD3 : W3.H D = some (.lst us) := g13.tmp D _ (by rw [hT]; exact List.mem_cons_self) hH
            have hr3 := ra.go g13
            have hpa3 : W3.pa = pa := g13.pa.trans hpa
            refine ⟨fun eo => ?_, fun y v eo rv => ?_⟩
            · rcases hnext with ⟨_, hn⟩ | ⟨y, e, _⟩
              · exact ⟨hlt, W3, acc, us, hpa3, s3, rfl, hT3, hgs, hD3, hr3, he.go g13, hn⟩
              · rw [eo] at e
                cases e
            · rcases hnext with ⟨e, _⟩ | ⟨y', e, hl, hn⟩
              · rw [eo] at e
                cases e
              · rw [eo] at e
                cases e
                have lp := le_putT (o := .lst (us ++ [v])) hT3
                refine ⟨us, hD3, by rw [ra.length]; exact hl, hlt, W3.putT D (.lst (us ++ [v])), acc ++ [y], us ++ [v], hpa3, sm_putT s3 hT3, rfl, hT3, ?_, upd_same, ?_, ?_, hn⟩
                · rw [putT_strip]
                  exact hgs
                · exact (RepA.le lp _ _ hr3).append (RepA.one (Rep.le lp _ _ rv))
                · exact EnvR.le lp (he.go g13)
          intro sb Hb Cb clb fpb
          have Cb' := cok_blk (scope := scope) C sb Hb Cb clb fpb
          have elt_ : ∀ {W3 : Wd} {y : Cl.D}, Go W2 W3 → Sm W3 → evE (glv tb k) elt ρ1 W3.h = .ok y h1 → o1 = some y → uE X scope el σ1 W3.H fun y H4 => ∃ acc, H4 D = some (.lst acc) ∧ acc.length < sizeLine ∧ (fun H' => (i + 1) ≤ xs.length ∧ ∃ W' acc us, W'.pa = pa ∧ Sm W' ∧ W'.H = H' ∧ W'.T = D :: Wl.T ∧ Go Wl (W'.strip D Wl.T) ∧ H' D = some (.lst us) ∧ RepA W' acc us ∧ EnvR W' (wipeE ρ vs) (L2.wipe σ vs) ∧ compL f (xs.drop (i + 1)) acc W'.h = .ok ys h5) (upd H4 D (.lst (acc ++ [y]))) := fun {W3 y} g3 s3 ee eo => by
            intro sb Hb Cb clb fpb
            have Cb' := cok_blk (scope := scope) C sb Hb Cb clb fpb
            refine hE k _ _ _ Cb' el mE W3 σ1 ρ1 _ (g3.pa.trans hpa2) s3 (hr1.go g3) ?_
            rw [ee]
            intro W4 g4 s4 e4 v rv _
            exact (fin (g3.trans g4) s4 e4).2 y v eo rv
          rcases hbody with ⟨ec, y, ee, eo⟩ | ⟨c, b, h3, ec, et, hb⟩
          · rcases mC with ⟨_, em⟩ | ⟨c, x, em, _⟩
            · subst em
              refine ⟨tYes, pts_nil, ?_⟩
              rw [← eh2] at ee
              exact elt_ (Go.refl W2) s2 ee eo
            · rw [ec] at em
              cases em
          · rcases mC with ⟨em, _⟩ | ⟨c', x, em, ei, mC⟩
            · rw [ec] at em
              cases em
            · rw [ec] at em
              cases em
              subst ei
              refine ⟨_, pts_one (pt_ts (e := x)), ?_⟩
              refine hC c ec k _ _ _ Cb' x mC W2 σ1 ρ1 _ hpa2 s2 hr1 ?_
              show PostR W2 _ (tst (evE (glv tb k) c ρ1 W2.h)) _
              rw [eh2, et]
              intro W3 g3 s3 e3
              rcases hb with ⟨eb, e6, eo⟩ | ⟨eb, y, ee, eo⟩
              · subst eb
                simp only [Bool.false_eq_true, if_false]
                exact (fin g3 s3 (by rw [e3, e6])).1 eo
              · subst eb
                simp only [if_true]
                rw [← e3] at ee
                exact elt_ g3 s3 ee eo
      · -- the end
        have ei : i = xs.length := by omega
        subst ei
        rw [List.drop_length] at hcl
        have hcl : R.ok acc W'.h = R.ok ys h5 := hcl
        cases hcl
        refine .inl ⟨yl.stop W' ke s', ?_⟩
        have ss : Sm (W'.strip D Wl.T) := sm_strip s' hT hDT
        have gf : Go W1 ((W'.strip D Wl.T).free o) := go_free lk (by rw [hWl]; exact gs)
        have sf : Sm ((W'.strip D Wl.T).free o) := sm_free ss
        have hn : ((W'.strip D Wl.T).free o).H D = none := by
          show (if D = D then none else W'.H D) = none
          rw [if_pos rfl]
        have rf : RepA ((W'.strip D Wl.T).free o) ys us := RepA.le le_free _ _ (RepA.le (le_strip hT) _ _ ra)
        obtain ⟨q1, q2, q3, q4⟩ := new_lst sf hn rf
        have e : ((((W'.strip D Wl.T).free o)).lay D (.lst us)).H = W'.H := by
          show upd (fun a => if a = D then none else W'.H a) D (.lst us) = W'.H
          funext a
          by_cases z : a = D
          · rw [z, upd_same, hH]
          · rw [upd_ne z, if_neg z]
        have := hp1 _ (gf.trans q1) q2 rfl (.ref D) q3 fun _ => q4.back (g1.trans gf)
        rw [e] at this
        exact this
theorem comp_parts {tg : T} {it : I} {cond : Option E} {elt : E} {vs : List Nat} {ct : Ct} {e : Expr} (h : mtE nm ct (.comp tg it cond elt vs) e = true) : ∃ el tt ii ifs scope p, e = .ListComp el [⟨tt, ii, ifs, 0⟩] scope p ∧
    blkC ct.N ct.sc scope (ownOf ct.N vs) = true ∧ idxIn tg vs = true ∧ isSetE ii = false ∧ mtI nm ct it tt ii = true ∧ mtT (blkCt ct scope) tg tt = true ∧ mtE nm (blkCt ct scope) elt el = true ∧
    ((cond = none ∧ ifs = []) ∨ ∃ c x, cond = some c ∧ ifs = [x] ∧ mtE nm (blkCt ct scope) c x = true) := by
  unfold mtE at h
  cases e with
  | ListComp el gs scope p =>
    match gs, h with
    | [⟨tt, ii, ifs, k⟩], h =>
      obtain ⟨h, h8⟩ := ba h
      obtain ⟨h, h7⟩ := ba h
      obtain ⟨h, h6⟩ := ba h
      obtain ⟨h, h5⟩ := ba h
      obtain ⟨h, h4⟩ := ba h
      obtain ⟨h, h3⟩ := ba h
      obtain ⟨h1, h2⟩ := ba h
      have h1 := of_decide_eq_true h1
      subst h1
      refine ⟨el, tt, ii, ifs, scope, p, rfl, h2, h3, nb h4, h5, h6, h7, ?_⟩
      clear h1 h2 h3 h4 h5 h6 h7
      cases cond with
      | none =>
        cases ifs with
        | nil => exact .inl ⟨rfl, rfl⟩
        | cons _ _ => cases h8
      | some c =>
        match ifs, h8 with
        | [x], h8 => exact .inr ⟨c, x, rfl, rfl, h8⟩
        | [], h8 => cases h8
        | _ :: _ :: _, h8 => cases h8
    | [], h => cases h
    | ⟨_, _, _, _⟩ :: _ :: _, h => cases h
  | _ => cases h
theorem snd_comp {tg : T} {it : I} {cond : Option E} {elt : E} {vs : List Nat} (hI : SndI nm tb pa it) (hE : SndE nm tb pa elt) (hC : ∀ c, cond = some c → SndT nm tb pa c) : SndE nm tb pa (.comp tg it cond elt vs) := fun k wx ct X C e hm W σ ρ Q hW s hr hp => by
  obtain ⟨el, tt, ii, ifs, scope, p, rfl, h2, h3, h4, h5, h6, h7, h8⟩ := comp_parts hm
  have q := comp_ok hI hE hC C h5 h6 h3 h7 h8 hW s hr hp
  refine ⟨_, pe_lc (own := ownOf ct.N vs) (wi := tsI X tt ii) (g := uG X scope tt) (tt := uT X scope ifs) (te := uE X scope el) C.calm (by rw [C.N]; exact C.nd) pi_ts (by rw [C.N, C.sc]; exact blkOk_by h2) (fun _ _ _ _ _ => pg_u) (fun _ _ _ _ _ => pt_u) (fun _ _ _ _ _ => pe_u) (fold_ok h4), ?_⟩
  rw [own_ix]
  exact q
end
end Cl
/-! text ClP -/
set_option maxHeartbeats 1000007
/-! Statements. -/
namespace Cl
open PySem L2
/-- what is wanted behind a statement -/
def PF (D : Ends) : Fl → Wd → Prop
  | .nx ρ, W => ∀ σ, EnvR W ρ σ → D.nx σ W.H
  | .ret d, W => ∀ v, Rep W d v → D.rt v W.H
  | .brk ρ, W => ∀ σ, EnvR W ρ σ → D.bk σ W.H
  | .cnt ρ, W => ∀ σ, EnvR W ρ σ → D.ct σ W.H
def SndS (nm : Nm) (tb : Tbl) (pa : Pa) (c : S) : Prop := ∀ (k : Nat) (wx : XK) (ct : Ct) (X : Cx), Cok nm tb pa k wx ct X → ∀ (st : Stmt), mtS nm ct c st = true → ∀ (W : Wd) (σ : L2.St) (ρ : Env) (D : Ends), W.pa = pa → Sm W → EnvR W ρ σ →
  PostR W wx (exS (glv tb k) c ρ W.h) (PF D) → tsS X st D σ W.H
def SndSs (nm : Nm) (tb : Tbl) (pa : Pa) (c : List S) : Prop := ∀ (k : Nat) (wx : XK) (ct : Ct) (X : Cx), Cok nm tb pa k wx ct X → ∀ (st : List Stmt), mtSs nm ct c st = true → ∀ (W : Wd) (σ : L2.St) (ρ : Env) (D : Ends), W.pa = pa → Sm W → EnvR W ρ σ →
  PostR W wx (exSs (glv tb k) c ρ W.h) (PF D) → tsSs X st D σ W.H
section
variable {nm : Nm} {tb : Tbl} {pa : Pa}
theorem sndS_nil : SndSs nm tb pa [] := fun k wx ct X C st hm W σ ρ D hW s hr hp => by
  cases st with
  | cons _ _ => cases hm
  | nil => exact ⟨tNext, pss_nil, hp.now s σ hr⟩
theorem sndS_cons {c : S} {cs : List S} (h : SndS nm tb pa c) (hs : SndSs nm tb pa cs) : SndSs nm tb pa (c :: cs) := fun k wx ct X C st hm W σ ρ D hW s hr hp => by
  cases st with
  | nil => cases hm
  | cons st rest =>
    obtain ⟨h1, h2⟩ := ba hm
    refine ⟨tSeq (tsS X st) (tsSs X rest), pss_cons ps_ts pss_ts, ?_⟩
    have hp : PostR W wx ((exS (glv tb k) c ρ W.h).bind fun fl h1 => match fl with
      | .nx ρ1 => exSs (glv tb k) cs ρ1 h1
      | fl => .ok fl h1) (PF D) := hp
    refine h k wx ct X C st h1 W σ ρ { D with nx := tsSs X rest D } hW s hr (PostR.bind hp fun fl W1 g1 s1 hp1 => ?_)
    cases fl with
    | nx ρ1 => exact fun σ1 hr1 => hs k wx ct X C rest h2 W1 σ1 ρ1 D (g1.pa.trans hW) s1 hr1 hp1
    | ret d => exact PostR.now (wx := wx) (P := PF D) s1 hp1
    | brk ρ1 => exact PostR.now (wx := wx) (P := PF D) s1 hp1
    | cnt ρ1 => exact PostR.now (wx := wx) (P := PF D) s1 hp1
theorem sndS_pass : SndS nm tb pa .pass := fun k wx ct X C st hm W σ ρ D hW s hr hp => by
  cases st with
  | Pass p => exact ⟨tNext, ps_pass, hp.now s σ hr⟩
  | Expr e p =>
    cases e with
    | Constant c j q =>
      cases c with
      | str x => exact ⟨tNext, ps_doc, hp.now s σ hr⟩
      | _ => cases hm
    | _ => cases hm
  | _ => cases hm
theorem sndS_brk : SndS nm tb pa .brk := fun k wx ct X C st hm W σ ρ D hW s hr hp => by
  cases st with
  | Break p => exact ⟨tBreak, ps_break, hp.now s σ hr⟩
  | _ => cases hm
theorem sndS_cnt : SndS nm tb pa .cnt := fun k wx ct X C st hm W σ ρ D hW s hr hp => by
  cases st with
  | Continue p => exact ⟨tCont, ps_continue, hp.now s σ hr⟩
  | _ => cases hm
theorem sndS_retN : SndS nm tb pa .retN := fun k wx ct X C st hm W σ ρ D hW s hr hp => by
  cases st with
  | Return e p =>
    cases e with
    | none => exact ⟨tRetN, ps_retN, hp.now s .non rfl⟩
    | some e => cases hm
  | _ => cases hm
theorem sndS_ret {c : E} (h : SndE nm tb pa c) : SndS nm tb pa (.ret c) := fun k wx ct X C st hm W σ ρ D hW s hr hp => by
  cases st with
  | Return e p =>
    cases e with
    | none => cases hm
    | some e =>
      refine ⟨tRet (tsE X e), ps_ret pe_ts, ?_⟩
      have hp : PostR W wx ((evE (glv tb k) c ρ W.h).bind fun d h1 => .ok (.ret d) h1) (PF D) := hp
      exact h.use C hm hW s hr hp fun d W1 v g1 s1 r1 hp1 => hp1.now s1 v r1
  | _ => cases hm
theorem isLC_sw {e : Expr} {env : PySem.Env} {t : Option Expr} {l : Nat} (h : isLC e = false) : swapsWith e t l env = pure false := by
  cases e <;> first | rfl | cases h
theorem sndS_expr {c : E} (h : SndE nm tb pa c) : SndS nm tb pa (.expr c) := fun k wx ct X C st hm W σ ρ D hW s hr hp => by
  cases st with
  | Expr e p =>
    obtain ⟨h1, h2⟩ := ba hm
    refine ⟨tDrop (tsE X e), ps_expr pe_ts (isLC_sw (nb h1)), ?_⟩
    have hp : PostR W wx ((evE (glv tb k) c ρ W.h).bind fun d h1 => .ok (.nx ρ) h1) (PF D) := hp
    exact h.use C h2 hW s hr hp fun d W1 v g1 s1 r1 hp1 => hp1.now s1 σ (hr.go g1)
  | _ => cases hm
theorem sndS_if {c : E} {a b : List S} (h : SndT nm tb pa c) (ha : SndSs nm tb pa a) (hb : SndSs nm tb pa b) : SndS nm tb pa (.ifs c a b) := fun k wx ct X C st hm W σ ρ D hW s hr hp => by
  cases st with
  | If e x y p =>
    obtain ⟨h1, h3⟩ := ba hm
    obtain ⟨h1, h2⟩ := ba h1
    refine ⟨tIfS (tsT X e) (tsSs X x) (tsSs X y), ps_if pt_ts pss_ts pss_ts, ?_⟩
    have hp : PostR W wx ((evT (glv tb k) c ρ W.h).bind fun kk h1 => match kk with
      | true => exSs (glv tb k) a ρ h1
      | false => exSs (glv tb k) b ρ h1) (PF D) := hp
    refine h.use C h1 hW s hr hp fun kk W1 g1 s1 hp1 => ?_
    cases kk with
    | true =>
      rw [if_pos rfl]
      exact ha k wx ct X C x h2 W1 σ ρ D (g1.pa.trans hW) s1 (hr.go g1) hp1
    | false =>
      rw [if_neg Bool.false_ne_true]
      exact hb k wx ct X C y h3 W1 σ ρ D (g1.pa.trans hW) s1 (hr.go g1) hp1
  | _ => cases hm
theorem sndS_aug {i : Nat} {o : BOp} {c : E} (h : SndE nm tb pa c) : SndS nm tb pa (.aug i o c) := fun k wx ct X C st hm W σ ρ D hW s hr hp => by
  cases st with
  | AugAssign tg op e p =>
    cases tg with
    | Name y q =>
      obtain ⟨h1, h4⟩ := ba hm
      obtain ⟨h1, h3⟩ := ba h1
      obtain ⟨h1, h2⟩ := ba h1
      have h1 := of_decide_eq_true h1
      obtain ⟨l1, l2⟩ := C.sto y h2
      have hp : PostR W wx (match ρ.getD i none with
        | some x => (evE (glv tb k) c ρ W.h).bind fun y h1 => (match o, x, y with
          | .add, .int a, .int b => .ok (.nx (ρ.set i (some (.int (a + b))))) h1
          | .sub, .int a, .int b => .ok (.nx (ρ.set i (some (.int (a - b))))) h1
          | _, _, _ => .bad)
        | none => .bad) (PF D) := hp
      cases hx : ρ.getD i none with
      | none =>
        rw [hx] at hp
        exact hp.elim
      | some x =>
        rw [hx] at hp
        obtain ⟨v, ev, rv⟩ := hr.2 i x hx
        have hN : X.N.Nodup := by rw [C.N]; exact C.nd
        have hi : X.N[i]? = some y := by rw [C.N]; exact h1
        cases o with
        | add =>
          cases op with
          | Add =>
            refine ⟨_, ps_aug hN hi l1 (pe_ts (e := e)) ip_add l2, v, ev, ?_⟩
            refine h.use C h3 hW s hr hp fun d W1 u g1 s1 r1 hp1 => ?_
            cases x with
            | int a =>
              cases d with
              | int b => exact ⟨a, b, rv, r1, hp1.now s1 _ ((hr.go g1).set rfl)⟩
              | _ => exact hp1.elim
            | _ => exact hp1.elim
          | _ => cases h4
        | sub =>
          cases op with
          | Sub =>
            refine ⟨_, ps_aug hN hi l1 (pe_ts (e := e)) ip_sub l2, v, ev, ?_⟩
            refine h.use C h3 hW s hr hp fun d W1 u g1 s1 r1 hp1 => ?_
            cases x with
            | int a =>
              cases d with
              | int b => exact ⟨a, b, rv, r1, hp1.now s1 _ ((hr.go g1).set rfl)⟩
              | _ => exact hp1.elim
            | _ => exact hp1.elim
          | _ => cases h4
        | _ => cases h4
    | _ => cases hm
  | _ => cases hm
theorem sndS_setIx {a i c : E} (ha : SndE nm tb pa a) (hi : SndE nm tb pa i) (hc : SndE nm tb pa c) : SndS nm tb pa (.setIx a i c) := fun k wx ct X C st hm W σ ρ D hW s hr hp => by
  cases st with
  | Assign tgs e p =>
    match tgs, hm with
    | [.Subscript x y q], hm =>
      obtain ⟨h1, h4⟩ := ba hm
      obtain ⟨h1, h3⟩ := ba h1
      obtain ⟨h1, h2⟩ := ba h1
      refine ⟨_, ps_asg (pe_ts (e := e)) (pg_sub (pe_ts (e := x)) (pe_ts (e := y)) set_list (by cases y <;> first | exact fun _ => rfl | cases h2)) (by cases e <;> rfl) (by rfl) (by rfl), ?_⟩
      have hp : PostR W wx ((evE (glv tb k) c ρ W.h).bind fun v h1 => (evE (glv tb k) a ρ h1).bind fun x h2 => (evE (glv tb k) i ρ h2).bind fun y h3 => match x, y with
        | .ref n, .int j => (match getC h3 n with
          | .lst xs => (match L2.ixN xs.length j with
            | some j => .ok (.nx ρ) (h3.set n (.lst (xs.set j v)))
            | none => .bad)
          | _ => .bad)
        | _, _ => .bad) (PF D) := hp
      refine hc.use C h4 hW s hr hp fun d W1 v g1 s1 r1 hp1 => ?_
      refine ha.use C h1 (g1.pa.trans hW) s1 (hr.go g1) hp1 fun d2 W2 v2 g2 s2 r2 hp2 => ?_
      refine hi.use C h3 (g2.pa.trans (g1.pa.trans hW)) s2 (hr.go (g1.trans g2)) hp2 fun d3 W3 v3 g3 s3 r3 hp3 => ?_
      cases d2 with
      | ref n =>
        cases d3 with
        | int j =>
          simp only at hp3
          cases hcl : getC W3.h n with
          | lst xs =>
            simp only [hcl] at hp3
            cases hj : L2.ixN xs.length j with
            | none =>
              rw [hj] at hp3
              exact hp3.elim
            | some j' =>
              rw [hj] at hp3
              obtain ⟨l, hv⟩ := r2.go g3
              obtain ⟨b, eb, cb⟩ := s3.at l (by rw [hcl]; intro z; cases z)
              rw [hcl] at cb
              obtain ⟨vs, c1, c2⟩ := cb
              have hl : isLck (getC W3.h n) = false := by rw [hcl]; rfl
              have r' : RepA W3 (xs.set j' d) (vs.set j' v) := RepA.set (r1.go (g2.trans g3)) j' c2
              obtain ⟨gp, sp⟩ := put_ok s3 eb hl r'
              refine ⟨b, vs, j, j', hv b eb, r3, c1, by rw [c2.length]; exact hj, ?_⟩
              exact hp3 _ gp sp rfl σ (hr.go (((g1.trans g2).trans g3).trans gp))
          | _ =>
            simp only [hcl] at hp3
            exact hp3.elim
        | _ => exact hp3.elim
      | _ => cases d3 <;> exact hp3.elim
    | [], hm => cases hm
    | t :: _ :: _, hm => cases t <;> cases hm
  | _ => cases hm
theorem put_ins {W : Wd} {n : Nat} {a : Addr} {c : Nat} {fs : List (Str × D)} {dx : Addr} {gs : List (Str × V)} (s : Sm W) (ha : W.ms[n]? = some (some a)) (hl : isLck (getC W.h n) = false) (lc : W.pa.cl c = true) (r : RepF W fs gs) : Go W (W.put n a (.ins (W.pa.ca c) dx gs) (.ins c fs)) ∧ Sm (W.put n a (.ins (W.pa.ca c) dx gs) (.ins c fs)) := by
  have g : Go W (W.put n a (.ins (W.pa.ca c) dx gs) (.ins c fs)) := go_put s ha hl rfl
  exact ⟨g, sm_put s ha hl rfl ⟨lc, dx, gs, upd_same, RepF.go g _ _ r⟩⟩
theorem sndS_setFld {a c : E} {f : Str} (ha : SndE nm tb pa a) (hc : SndE nm tb pa c) : SndS nm tb pa (.setFld a f c) := fun k wx ct X C st hm W σ ρ D hW s hr hp => by
  cases st with
  | Assign tgs e p =>
    match tgs, hm with
    | [.Attribute x g q], hm =>
      obtain ⟨h1, h4⟩ := ba hm
      obtain ⟨h1, h3⟩ := ba h1
      obtain ⟨h1, h2⟩ := ba h1
      have h1 := of_decide_eq_true h1
      subst h1
      refine ⟨_, ps_fld (pe_ts (e := x)) (pe_ts (e := e)) (by cases e <;> rfl), ?_⟩
      have hp : PostR W wx ((evE (glv tb k) c ρ W.h).bind fun v h1 => (evE (glv tb k) a ρ h1).bind fun x h2 => match x with
        | .ref n => (match getC h2 n with
          | .ins c fs => ifR (decide (fs.length < 1000)) (.ok (.nx ρ) (h2.set n (.ins c (setFldL f v fs))))
          | _ => .bad)
        | _ => .bad) (PF D) := hp
      refine hc.use C h4 hW s hr hp fun d W1 v g1 s1 r1 hp1 => ?_
      refine ha.use C h3 (g1.pa.trans hW) s1 (hr.go g1) hp1 fun d2 W2 v2 g2 s2 r2 hp2 => ?_
      cases d2 with
      | ref n =>
        simp only at hp2
        cases hcl : getC W2.h n with
        | ins c' fs =>
          simp only [hcl] at hp2
          obtain ⟨hlen, hp2⟩ := PostR.if_ hp2
          have hlen := of_decide_eq_true hlen
          obtain ⟨l, hv⟩ := r2
          obtain ⟨b, eb, cb⟩ := s2.at l (by rw [hcl]; intro z; cases z)
          rw [hcl] at cb
          obtain ⟨lc, dx, gs, c1, c2⟩ := cb
          have hl : isLck (getC W2.h n) = false := by rw [hcl]; rfl
          have r' : RepF W2 (setFldL f d fs) (putF f v gs) := RepF.put (r1.go g2) c2
          obtain ⟨gp, sp⟩ := put_ins (dx := dx) s2 eb hl lc r'
          have hpa : W2.pa = pa := g2.pa.trans (g1.pa.trans hW)
          obtain ⟨k1, k2⟩ := (C.fx k (Nat.le_refl _)).att f c' h2 (by rw [← hpa]; exact lc)
          refine ⟨b, W2.pa.ca c', dx, gs, hv b eb, c1, by rw [hpa]; exact k1, by rw [hpa]; exact k2, by rw [c2.length]; exact hlen, ?_⟩
          exact hp2 _ gp sp rfl σ (hr.go ((g1.trans g2).trans gp))
        | _ =>
          simp only [hcl] at hp2
          exact hp2.elim
      | _ => exact hp2.elim
    | [], hm => cases hm
    | t :: _ :: _, hm => cases t <;> cases hm
  | _ => cases hm
end
end Cl
/-! text ClQ -/
set_option maxHeartbeats 1000007
/-! Stores, loops. -/
namespace Cl
open PySem L2
section
variable {nm : Nm} {tb : Tbl} {pa : Pa}
/-- a fresh list wanted as an own one -/
theorem new_post {W : Wd} {wx : XK} {r : R D} {Q : VK} (hp : PostR W wx (newR r) (PE' W false Q)) : PostR W wx r (PE' W true Q) := by
  cases r with
  | exn c d h1 => exact hp
  | bad => exact hp
  | ok d h1 =>
    intro W1 g1 s1 e1 v r hf
    subst e1
    cases d with
    | lst xs =>
      obtain ⟨p, vs, W2, rfl, g2, s2, hn, e, r2⟩ := hf rfl xs rfl
      subst e
      obtain ⟨g3, s3, r3⟩ := sm_newcell s2 hn r2
      exact hp (W2.cell p (.lst vs) (.lst xs)) (g2.trans g3) s3 rfl (.ref p) r3 fun z => by cases z
    | _ => exact hp.elim
theorem sw_no {sc : Scope} {env : PySem.Env} {y : Str} {py : Pos} {e : Expr} {l : Nat} (hs : env.scope = sc) (h : swapN sc y e = true) : swapsWith e (some (.Name y py)) l env = pure false := by
  cases e with
  | ListComp el gs scope p =>
    have h : (match sc.names.lookup y with
      | some .cell => true
      | _ => false) = true := h
    have hl : env.kindOf y = some .cell := by
      show env.scope.names.lookup y = some .cell
      rw [hs]
      cases e : sc.names.lookup y with
      | none =>
        rw [e] at h
        cases h
      | some q =>
        rw [e] at h
        cases q <;> first | rfl | cases h
    unfold swapsWith
    simp only [hl]
    show pure (env.blockKind == .function && (some NameKind.cell == some NameKind.local) && _ && _) = pure false
    rw [show (some NameKind.cell == some NameKind.local) = false from by decide, Bool.and_false, Bool.false_and, Bool.false_and]
  | _ => first | rfl | exact isLC_sw (nb h)
theorem sw_yes {sc : Scope} {env : PySem.Env} {y : Str} {py : Pos} {e : Expr} {l : Nat} (hs : env.scope = sc) (h : swapY sc y py e = true) : swapsWith e (some (.Name y py)) l env = pure true ∧ env.scope.names.lookup y = some .local := by
  cases e with
  | ListComp el gs scope p =>
    obtain ⟨h, h4⟩ := ba h
    obtain ⟨h, h3⟩ := ba h
    obtain ⟨h1, h2⟩ := ba h
    have hy : env.scope.names.lookup y = some .local := by
      rw [hs]
      cases e : sc.names.lookup y with
      | none =>
        rw [e] at h2
        cases h2
      | some q =>
        rw [e] at h2
        cases q <;> first | rfl | cases h2
    have hk : env.scope.kind = .function := by
      rw [hs]
      cases e : sc.kind <;> rw [e] at h1 <;> first | rfl | cases h1
    exact ⟨sw_true hk hy h3 (nb h4), hy⟩
  | _ => cases h
theorem isCompC_cases {c : E} (h : isCompC c = true) : (∃ tg it cond elt vs, c = .comp tg it cond elt vs) ∨ ∃ tg it cond elt vs, c = .new (.comp tg it cond elt vs) := by
  unfold isCompC at h
  split at h
  · exact .inl ⟨_, _, _, _, _, rfl⟩
  · exact .inr ⟨_, _, _, _, _, rfl⟩
  · cases h
theorem sndS_asg {t : T} {c : E} (h : SndE nm tb pa c) (hcomp : ∀ tg it cond elt vs, c = .comp tg it cond elt vs ∨ c = .new (.comp tg it cond elt vs) → SndI nm tb pa it ∧ SndE nm tb pa elt ∧ ∀ c, cond = some c → SndT nm tb pa c) : SndS nm tb pa (.asg t c) := fun k wx ct X C st hm W σ ρ D hW s hr hp => by
  have hp : PostR W wx ((evE (glv tb k) c ρ W.h).bind fun d h1 => match asgT t d h1 ρ with
    | some ρ1 => .ok (.nx ρ1) h1
    | none => .bad) (PF D) := hp
  have fin : ∀ {tg : Expr} {d : Cl.D} {W1 : Wd} {v : V}, mtT ct t tg = true → Go W W1 → Sm W1 → Rep W1 d v → PostR W1 wx (match asgT t d W1.h ρ with
    | some ρ1 => R.ok (.nx ρ1) W1.h
    | none => .bad) (PF D) → tsG X tg v σ W1.H D.nx := fun {tg d W1 v} hm g1 s1 r1 hp1 => by
    cases ha : asgT t d W1.h ρ with
    | none =>
      rw [ha] at hp1
      exact hp1.elim
    | some ρ1 =>
      rw [ha] at hp1
      exact asg_ok t C hm (g1.pa.trans hW) s1 (hr.go g1) r1 ha fun σ1 hr1 _ => hp1.now s1 σ1 hr1
  cases st with
  | Assign tgs e p =>
    match tgs, hm with
    | [.Name y py], hm =>
      obtain ⟨h12, h3⟩ := ba hm
      obtain ⟨hT, h2⟩ := ba h12
      cases hn : swapN ct.sc y e with
      | true =>
        refine ⟨tAsg (tsE X e) (tsG X (.Name y py)), ps_asg pe_ts pg_ts (sw_no (l := p.line) C.sc hn) (by cases e <;> rfl) rfl, ?_⟩
        exact h.use C h2 hW s hr hp fun d W1 v g1 s1 r1 hp1 => fin hT g1 s1 r1 hp1
      | false =>
        rw [hn, Bool.false_or] at h3
        obtain ⟨h4, h5⟩ := ba h3
        obtain ⟨q1, q2⟩ := sw_yes (l := p.line) C.sc h5
        -- a list comprehension, stored by its own end
        have use : ∀ {tg it cond elt vs}, (c = .comp tg it cond elt vs ∨ c = .new (.comp tg it cond elt vs)) → mtE nm ct (.comp tg it cond elt vs) e = true → (∀ Q : VK, PostR W wx (evE (glv tb k) c ρ W.h) (PE' W (freshE c) Q) → PostR W wx (evE (glv tb k) (.comp tg it cond elt vs) ρ W.h) (PE' W true Q)) → tsS X (.Assign [.Name y py] e p) D σ W.H := fun {tg it cond elt vs} hc hm' toC => by
          obtain ⟨hI, hE, hC⟩ := hcomp tg it cond elt vs hc
          obtain ⟨el, tt, ii, ifs, scope, p', rfl, k2, k3, k4, k5, k6, k7, k8⟩ := comp_parts hm'
          cases t with
          | tup ts => cases hT
          | nam i =>
            have hT : (decide (ct.N[i]? = some y) && ct.sto y) = true := hT
            obtain ⟨m1, m2⟩ := ba hT
            have m1 := of_decide_eq_true m1
            have key := comp_ok (Q := fun v H1 => gName i v σ H1 D.nx) hI hE hC C k5 k6 k3 k7 k8 hW s hr (toC _ (PostR.bind hp fun d W1 g1 s1 hp1 v r1 _ => by
              have hp1 := hp1.now s1
              exact hp1 _ ((hr.go g1).set r1)))
            refine ⟨_, ps_setLc (i := i) (own := ownOf ct.N vs) (wi := tsI X tt ii) (g := uG X scope tt) (tt := uT X scope ifs) (te := uE X scope el) C.calm (by rw [C.N]; exact C.nd) (by rw [C.N]; exact m1) q2 q1 pi_ts (by rw [C.N, C.sc]; exact blkOk_by k2) (fun _ _ _ _ _ => pg_u) (fun _ _ _ _ _ => pt_u) (fun _ _ _ _ _ => pe_u) (fold_ok k4), ?_⟩
            show tLc _ _ _ _ _ σ W.H _
            rw [own_ix]
            exact key
        rcases isCompC_cases h4 with ⟨tg, it, cond, elt, vs, ec⟩ | ⟨tg, it, cond, elt, vs, ec⟩
        · subst ec
          exact use (.inl rfl) h2 fun Q h => h
        · subst ec
          exact use (.inr rfl) (ba h2).2 fun Q h => new_post h
    | [.Tuple es kk q], hm =>
      obtain ⟨h1, h3⟩ := ba hm
      obtain ⟨h1, h2⟩ := ba h1
      refine ⟨tAsg (tsE X e) (tsG X (.Tuple es kk q)), ps_asg pe_ts pg_ts (by cases e <;> rfl) (by cases e <;> first | rfl | cases h3) rfl, ?_⟩
      exact h.use C h2 hW s hr hp fun d W1 v g1 s1 r1 hp1 => fin h1 g1 s1 r1 hp1
    | [], hm => cases hm
    | a :: _ :: _, hm => cases a <;> cases hm
  | _ => cases hm
theorem PF.le {D : Ends} {fl : Fl} {W W' : Wd} (g : Le W' W) (e : W'.H = W.H) (h : PF D fl W) : PF D fl W' := by
  cases fl with
  | nx ρ =>
    intro σ hr
    rw [e]
    exact h σ (EnvR.le g hr)
  | ret d =>
    intro v r
    rw [e]
    exact h v (Rep.le g _ _ r)
  | brk ρ =>
    intro σ hr
    rw [e]
    exact h σ (EnvR.le g hr)
  | cnt ρ =>
    intro σ hr
    rw [e]
    exact h σ (EnvR.le g hr)
theorem le_free' {W : Wd} {o : Option Nat} : Le (W.free o) W := ⟨rfl, fun _ _ h n => ⟨h, n⟩, Nat.le_refl _, fun _ _ h => .inl h⟩
/-- a walk under a lock -/
theorem post_free {W : Wd} {wx : XK} {o : Option Nat} {r : R Fl} {D : Ends} (lk : LkOk W.h o) (h : PostR W wx (freeR o r) (PF D)) : PostR (W.lock o) wx r (PF D) := by
  cases r with
  | bad => exact h
  | ok fl h1 =>
    intro W' g s e
    subst e
    exact PF.le le_free rfl (h (W'.free o) (go_free lk g) (sm_free s) rfl)
  | exn c d h1 =>
    intro W' dx v g s e r x n
    subst e
    exact h (W'.free o) dx v (go_free lk g) (sm_free s) rfl (Rep.le le_free _ _ r) x n
theorem sndS_for {t : T} {it : I} {b : List S} (hI : SndI nm tb pa it) (hb : SndSs nm tb pa b) : SndS nm tb pa (.for_ t it b) := fun k wx ct X C st hm W σ ρ D hW s hr hp => by
  cases st with
  | For tg e x orelse p =>
    cases orelse with
    | cons _ _ => cases hm
    | nil =>
      obtain ⟨h1, h4⟩ := ba hm
      obtain ⟨h1, h3⟩ := ba h1
      obtain ⟨h1, h2⟩ := ba h1
      have hp : PostR W wx ((evI (glv tb k) it ρ W.h).bind fun p h1 => freeR p.2 (forL (fun d ρ1 h2 => match asgT t d h2 ρ1 with
        | some ρ2 => exSs (glv tb k) b ρ2 h2
        | none => .bad) p.1 ρ (lockN h1 p.2))) (PF D) := hp
      refine ⟨tFor (tsI X tg e) (tsG X tg) (tsSs X x), ps_for C.pso C.calm pi_ts pg_ts pss_ts (fold_ok (nb h1)), ?_⟩
      refine hI k wx ct X C tg e h2 W σ ρ _ hW s hr (PostR.bind hp fun p W1 g1 s1 hp1 lk J yl => ?_)
      obtain ⟨xs, o⟩ := p
      simp only at lk yl hp1
      have hp1 := post_free lk hp1
      have gl : Go W1 (W1.lock o) := go_lock
      have sl : Sm (W1.lock o) := sm_lock s1
      have eh : lockN W1.h o = (W1.lock o).h := rfl
      have eH : W1.H = (W1.lock o).H := rfl
      rw [eh] at hp1
      rw [eH]
      generalize W1.lock o = Wl at hp1 yl gl sl
      have hpl : Wl.pa = pa := gl.pa.trans (g1.pa.trans hW)
      generalize hf : (fun (d : Cl.D) (ρ1 : Env) (h2 : Sto) => match asgT t d h2 ρ1 with
        | some ρ2 => exSs (glv tb k) b ρ2 h2
        | none => .bad) = f at hp1
      refine ⟨fun i m σ' H' => i ≤ xs.length ∧ m = xs.length - i ∧ ∃ W' ρ', Go Wl W' ∧ Sm W' ∧ W'.H = H' ∧ EnvR W' ρ' σ' ∧ PostR W' wx (forL f (xs.drop i) ρ' W'.h) (PF D),
        ⟨xs.length, Nat.zero_le _, rfl, Wl, ρ, Go.refl Wl, sl, rfl, hr.go (g1.trans gl), hp1⟩, ?_⟩
      rintro i m σ' H' ⟨hi, hmm, W', ρ', g', s', eH', hr', hp'⟩
      subst eH'
      by_cases hlt : i < xs.length
      · have hget : xs[i]? = some xs[i] := List.getElem?_eq_getElem hlt
        rw [List.drop_eq_getElem_cons hlt] at hp'
        obtain ⟨hgo, hyl⟩ := yl.go i _ hget W' g'.ke s'
        refine .inr ⟨hgo, fun σ' H' => (i + 1) ≤ xs.length ∧ ∃ W' ρ', Go Wl W' ∧ Sm W' ∧ W'.H = H' ∧ EnvR W' ρ' σ' ∧ PostR W' wx (forL f (xs.drop (i + 1)) ρ' W'.h) (PF D),
          fun σ' H' ⟨k1, k2⟩ => ⟨xs.length - (i + 1), by omega, k1, rfl, k2⟩, fun v H2 hy => ?_⟩
        obtain ⟨W2, g2, s2, eH2, eh2, rv⟩ := hyl v H2 hy
        subst eH2
        have hp2 : PostR W2 wx ((f xs[i] ρ' W2.h).bind fun fl h1 => match fl with
          | .nx ρ1 => forL f (xs.drop (i + 1)) ρ1 h1
          | .cnt ρ1 => forL f (xs.drop (i + 1)) ρ1 h1
          | .brk ρ1 => .ok (.nx ρ1) h1
          | .ret d => .ok (.ret d) h1) (PF D) := by
          rw [eh2]
          exact PostR.go g2 hp'
        have hf2 : f xs[i] ρ' W2.h = match asgT t xs[i] W2.h ρ' with
          | some ρ2 => exSs (glv tb k) b ρ2 W2.h
          | none => .bad := by rw [← hf]
        rw [hf2] at hp2
        cases ha : asgT t xs[i] W2.h ρ' with
        | none =>
          rw [ha] at hp2
          exact hp2.elim
        | some ρ2 =>
          rw [ha] at hp2
          have gl2 := g'.trans g2
          refine asg_ok t C h3 (gl2.pa.trans hpl) s2 (hr'.go g2) rv ha fun σ2 hr2 _ => ?_
          refine hb k wx ct X C x h4 W2 σ2 ρ2 _ (gl2.pa.trans hpl) s2 hr2 (PostR.bind hp2 fun fl W3 g3 s3 hp3 => ?_)
          cases fl with
          | nx ρ3 => exact fun σ3 hr3 => ⟨hlt, W3, ρ3, gl2.trans g3, s3, rfl, hr3, hp3⟩
          | cnt ρ3 => exact fun σ3 hr3 => ⟨hlt, W3, ρ3, gl2.trans g3, s3, rfl, hr3, hp3⟩
          | brk ρ3 => exact PostR.now (wx := wx) (a := Fl.nx ρ3) (P := PF D) s3 hp3
          | ret d => exact PostR.now (wx := wx) (a := Fl.ret d) (P := PF D) s3 hp3
      · have ei : i = xs.length := by omega
        subst ei
        rw [List.drop_length] at hp'
        exact .inl ⟨yl.stop W' g'.ke s', PostR.now (wx := wx) (a := Fl.nx ρ') (P := PF D) s' hp' σ' hr'⟩
  | _ => cases hm
theorem sndS_whl {c : E} {b : List S} (hc : SndT nm tb pa c) (hb : SndSs nm tb pa b) : SndS nm tb pa (.whl c b) := fun k wx ct X C st hm W σ ρ D hW s hr hp => by
  cases st with
  | While e x orelse p =>
    cases orelse with
    | cons _ _ => cases hm
    | nil =>
      obtain ⟨h1, h2⟩ := ba hm
      have hp : PostR W wx (whlN (fun ρ1 h1 => evT (glv tb k) c ρ1 h1) (fun ρ1 h1 => exSs (glv tb k) b ρ1 h1) tb.turns ρ W.h) (PF D) := hp
      refine ⟨tWhile (tsT X e) (tsSs X x), ps_while C.pso pt_ts pss_ts, ?_⟩
      refine ⟨fun m σ' H' => ∃ W' ρ', Go W W' ∧ Sm W' ∧ W'.H = H' ∧ EnvR W' ρ' σ' ∧ PostR W' wx (whlN (fun ρ1 h1 => evT (glv tb k) c ρ1 h1) (fun ρ1 h1 => exSs (glv tb k) b ρ1 h1) m ρ' W'.h) (PF D),
        ⟨tb.turns, W, ρ, Go.refl W, s, rfl, hr, hp⟩, ?_⟩
      rintro m σ' H' ⟨W', ρ', g', s', eH', hr', hp'⟩
      subst eH'
      cases m with
      | zero => exact hp'.elim
      | succ m =>
        have hp' : PostR W' wx ((evT (glv tb k) c ρ' W'.h).bind fun bb h1 => match bb with
          | false => .ok (.nx ρ') h1
          | true => (exSs (glv tb k) b ρ' h1).bind fun fl h2 => match fl with
            | .nx ρ1 => whlN (fun ρ1 h1 => evT (glv tb k) c ρ1 h1) (fun ρ1 h1 => exSs (glv tb k) b ρ1 h1) m ρ1 h2
            | .cnt ρ1 => whlN (fun ρ1 h1 => evT (glv tb k) c ρ1 h1) (fun ρ1 h1 => exSs (glv tb k) b ρ1 h1) m ρ1 h2
            | .brk ρ1 => .ok (.nx ρ1) h2
            | .ret d => .ok (.ret d) h2) (PF D) := hp'
        refine hc.use C h1 (g'.pa.trans hW) s' hr' hp' fun bb W1 g1 s1 hp1 => ?_
        cases bb with
        | false =>
          rw [if_neg Bool.false_ne_true]
          exact PostR.now (wx := wx) (a := Fl.nx ρ') (P := PF D) s1 hp1 σ' (hr'.go g1)
        | true =>
          rw [if_pos rfl]
          refine ⟨fun σ' H' => ∃ W' ρ', Go W W' ∧ Sm W' ∧ W'.H = H' ∧ EnvR W' ρ' σ' ∧ PostR W' wx (whlN (fun ρ1 h1 => evT (glv tb k) c ρ1 h1) (fun ρ1 h1 => exSs (glv tb k) b ρ1 h1) m ρ' W'.h) (PF D), fun σ' H' h => ⟨m, Nat.lt_succ_self m, h⟩, ?_⟩
          refine hb k wx ct X C x h2 W1 σ' ρ' _ (g1.pa.trans (g'.pa.trans hW)) s1 (hr'.go g1) (PostR.bind hp1 fun fl W3 g3 s3 hp3 => ?_)
          cases fl with
          | nx ρ3 => exact fun σ3 hr3 => ⟨W3, ρ3, (g'.trans g1).trans g3, s3, rfl, hr3, hp3⟩
          | cnt ρ3 => exact fun σ3 hr3 => ⟨W3, ρ3, (g'.trans g1).trans g3, s3, rfl, hr3, hp3⟩
          | brk ρ3 => exact PostR.now (wx := wx) (a := Fl.nx ρ3) (P := PF D) s3 hp3
          | ret d => exact PostR.now (wx := wx) (a := Fl.ret d) (P := PF D) s3 hp3
  | _ => cases hm
end
end Cl
/-! text ClQa -/
set_option maxHeartbeats 1000007
/-! sorted of integers. -/
namespace Cl
open PySem L2
theorem ins_perm {b : Bool} {x : Int} : ∀ ys : List Int, (insI b x ys).Perm (x :: ys)
  | [] => List.Perm.refl _
  | y :: ys => by
    unfold insI
    split
    · exact List.Perm.refl _
    · exact ((ins_perm ys).cons y).trans (List.Perm.swap x y ys)
theorem sort_perm {b : Bool} : ∀ xs : List Int, (sortI b xs).Perm xs
  | [] => List.Perm.refl _
  | x :: xs => (ins_perm _).trans ((sort_perm xs).cons x)
def leB (b : Bool) (x y : Int) : Prop := if b then y ≤ x else x ≤ y
theorem ins_ord {b : Bool} {x : Int} : ∀ {ys : List Int}, ys.Pairwise (leB b) → (insI b x ys).Pairwise (leB b)
  | [], _ => List.pairwise_singleton _ _
  | y :: ys, h => by
    obtain ⟨h1, h2⟩ := List.pairwise_cons.mp h
    unfold insI
    cases b with
    | true =>
      simp only [if_true]
      split
      · rename_i e
        have e := of_decide_eq_true e
        refine List.pairwise_cons.mpr ⟨fun z hz => ?_, h⟩
        show z ≤ x
        rcases List.mem_cons.mp hz with rfl | hz
        · exact e
        · exact Int.le_trans (h1 z hz) e
      · rename_i e
        have e := of_decide_eq_false e
        refine List.pairwise_cons.mpr ⟨fun z hz => ?_, ins_ord h2⟩
        show z ≤ y
        rcases List.mem_cons.mp ((ins_perm ys).mem_iff.mp hz) with rfl | hz
        · omega
        · exact h1 z hz
    | false =>
      simp only [Bool.false_eq_true, if_false]
      split
      · rename_i e
        have e := of_decide_eq_true e
        refine List.pairwise_cons.mpr ⟨fun z hz => ?_, h⟩
        show x ≤ z
        rcases List.mem_cons.mp hz with rfl | hz
        · exact e
        · exact Int.le_trans e (h1 z hz)
      · rename_i e
        have e := of_decide_eq_false e
        refine List.pairwise_cons.mpr ⟨fun z hz => ?_, ins_ord h2⟩
        show y ≤ z
        rcases List.mem_cons.mp ((ins_perm ys).mem_iff.mp hz) with rfl | hz
        · omega
        · exact h1 z hz
theorem sort_ord {b : Bool} : ∀ xs : List Int, (sortI b xs).Pairwise (leB b)
  | [] => List.Pairwise.nil
  | x :: xs => ins_ord (sort_ord xs)
theorem leB_anti {b : Bool} {x y : Int} (h : leB b x y) (h2 : leB b y x) : x = y := by
  cases b with
  | true =>
    have h : y ≤ x := h
    have h2 : x ≤ y := h2
    omega
  | false =>
    have h : x ≤ y := h
    have h2 : y ≤ x := h2
    omega
theorem sort_uni {b : Bool} {xs ys : List Int} (p : ys.Perm xs) (o : OrdB b ys) : ys = sortI b xs := by
  refine List.Perm.eq_of_pairwise (le := leB b) (fun x y _ _ => leB_anti) ?_ (sort_ord xs) (p.trans (sort_perm xs).symm)
  cases b with
  | true => exact o
  | false => exact o
section
variable {nm : Nm} {tb : Tbl} {pa : Pa}
theorem boot_sorted : bootBuiltins (Str.ofString "sorted") = some (.builtin "sorted") := by decide +kernel
theorem snd_srt {b : Bool} {a : E} (ha : SndE nm tb pa a) : SndE nm tb pa (.srt b a) := fun k wx ct X C e hm W σ ρ Q hW s hr hp => by
  cases e with
  | Call g es kws p =>
    match es, kws, hm with
    | [x], [⟨some n, .Constant (.bool q) j r, p2⟩], hm =>
      obtain ⟨h1, h5⟩ := ba hm
      obtain ⟨h1, h4⟩ := ba h1
      obtain ⟨h1, h3⟩ := ba h1
      obtain ⟨h1, h2⟩ := ba h1
      obtain ⟨y, q', rfl, hx, g1, g2⟩ := C.blt h1
      have h2 : n = Str.ofString "reverse" := eq_of_beq h2
      have h3 : b = q := eq_of_beq h3
      subst h2
      subst h3
      subst hx
      have st : starEach [x] X.env = (false, eval x X.env) :: starEach [] X.env := star_cons (nb h4)
      refine ⟨_, pe_callBK (id := "sorted") (cr_sortedRev (b := b)) g1 g2 boot_sorted (pa_cons (pe_ts (e := x)) pa_nil st) (pk_cons pe_bl pk_nil) (by decide +kernel) (by decide +kernel) (by rw [st]; rfl) (by rw [st]; rfl), ?_⟩
      refine ha.use C h5 hW s hr hp fun d W1 u g1 s1 r1 hp1 => ?_
      show rSortedKw X.K b [.bl b] [u] [.bl b] W1.H Q
      unfold srtD at hp1
      cases h4 : lstOf W1.h d with
      | none =>
        rw [h4] at hp1
        exact hp1.elim
      | some xs =>
        rw [h4] at hp1
        cases h6 : intsOf xs with
        | none =>
          simp only [h6] at hp1
          exact hp1.elim
        | some is =>
          simp only [h6] at hp1
          obtain ⟨c, vs, rfl, hb, q⟩ := lst_at s1 r1 h4
          obtain rfl := ints_rep h6 q
          refine ⟨c, is, rfl, rfl, SqL.of hb, fun ns' p hp' ho hq => ?_⟩
          rw [sort_uni hp' ho]
          exact end_lst s1 g1 hp1 hq RepA.ints
  | _ => cases hm
end
end Cl
/-! text ClQb -/
set_option maxHeartbeats 1000007
/-! is True, is False. -/
namespace Cl
open PySem L2
section
variable {nm : Nm} {tb : Tbl} {pa : Pa}
theorem isB_at {n b : Bool} {d : D} {W : Wd} {v : V} {wx : XK} {P : D → Wd → Prop} (s : Sm W) (r : Rep W d v) (hp : PostR W wx (isBD n b d W.h) P) : ∃ c : Bool, v = .bl c ∧ P (.bl (isV n b c)) W := by
  cases d with
  | bl c => exact ⟨c, r, hp.now s⟩
  | _ => exact hp.elim
theorem snd_isB {n b : Bool} {a : E} (ha : SndE nm tb pa a) : SndE nm tb pa (.isB n a b) := fun k wx ct X C e hm W σ ρ Q hW s hr hp => by
  cases e with
  | Compare l ops rs_ p =>
    match ops, rs_, hm with
    | [op], [.Constant (.bool q) j r], hm =>
      obtain ⟨h1, h3⟩ := ba hm
      obtain ⟨h1, h2⟩ := ba h1
      have h2 : b = q := eq_of_beq h2
      subst h2
      cases n with
      | false =>
        cases op with
        | Is =>
          refine ⟨_, pe_cmpR op_isBl pe_ts pe_bl (nomark _), ?_⟩
          refine ha.use C h3 hW s hr hp fun x W1 u g1 s1 r1 hp1 => ?_
          obtain ⟨c, e, h⟩ := isB_at (P := PE' W false Q) s1 r1 hp1
          exact ⟨c, b, e, rfl, h _ rfl fun z => by cases z⟩
        | _ => cases h1
      | true =>
        cases op with
        | IsNot =>
          refine ⟨_, pe_cmpR op_notBl pe_ts pe_bl (nomark _), ?_⟩
          refine ha.use C h3 hW s hr hp fun x W1 u g1 s1 r1 hp1 => ?_
          obtain ⟨c, e, h⟩ := isB_at (P := PE' W false Q) s1 r1 hp1
          exact ⟨c, b, e, rfl, h _ rfl fun z => by cases z⟩
        | _ => cases h1
  | _ => cases hm
theorem sndT_isB {n b : Bool} {a : E} (ha : SndE nm tb pa a) : SndT nm tb pa (.isB n a b) := fun k wx ct X C e hm W σ ρ Q hW s hr hp => by
  have hp : PostR W wx ((evE (glv tb k) a ρ W.h).bind fun x h1 => tst (isBD n b x h1)) (fun b W' => Q b W'.H) := by
    rw [← tst_bind]
    exact hp
  cases e with
  | Compare l ops rs_ p =>
    match ops, rs_, hm with
    | [op], [.Constant (.bool q) j r], hm =>
      obtain ⟨h1, h3⟩ := ba hm
      obtain ⟨h1, h2⟩ := ba h1
      have h2 : b = q := eq_of_beq h2
      subst h2
      cases n with
      | false =>
        cases op with
        | Is =>
          refine ⟨_, pt_cmpR op_isBl pe_ts pe_bl (nomark _), ?_⟩
          refine ha.use C h3 hW s hr hp fun x W1 u g1 s1 r1 hp1 => ?_
          obtain ⟨c, e, h⟩ := isB_at (P := fun d W3 => ∀ b, d = .bl b → Q b W3.H) s1 r1 (PostR.bind hp1 fun d W3 g3 s3 h3 b e => by subst e; exact PostR.now s3 (a := b) h3)
          exact ⟨c, b, e, rfl, _, rfl, h _ rfl⟩
        | _ => cases h1
      | true =>
        cases op with
        | IsNot =>
          refine ⟨_, pt_cmpR op_notBl pe_ts pe_bl (nomark _), ?_⟩
          refine ha.use C h3 hW s hr hp fun x W1 u g1 s1 r1 hp1 => ?_
          obtain ⟨c, e, h⟩ := isB_at (P := fun d W3 => ∀ b, d = .bl b → Q b W3.H) s1 r1 (PostR.bind hp1 fun d W3 g3 s3 h3 b e => by subst e; exact PostR.now s3 (a := b) h3)
          exact ⟨c, b, e, rfl, _, rfl, h _ rfl⟩
        | _ => cases h1
  | _ => cases hm
end
end Cl
/-! text ClQd -/
set_option maxHeartbeats 2000007
/-! raise; try with clauses that name the exception. -/
namespace Cl
open PySem PySem.Spec PyProof.Rows L2
/-- what the clauses wish of an exception of the body, one after the other; i: the slot of the name -/
def wAsM (K : PySem.W.Frag) (Wout : WX) (D : Ends) : List (Value × Nat × (Addr → Value → Option Addr → TS)) → WX
  | [] => Wout
  | (c, i, ts) :: r => fun cls d σ H => ∃ b, PySem.W.exmOne K cls c = some b ∧
    (b = true → ∀ a, H a = none → ts a cls d { nx := fun σ' H' => D.nx (σ'.set i none) H', rt := D.rt, bk := fun σ' H' => D.bk (σ'.set i none) H', ct := fun σ' H' => D.ct (σ'.set i none) H' } (σ.set i (some (.ref a))) H) ∧
    (b = false → wAsM K Wout D r cls d σ H)
inductive HdsAs (X : Cx) : List ExceptHandler → List (Value × Nat × (Addr → Value → Option Addr → TS)) → Prop
  | nil : HdsAs X [] []
  | cons {x n : Str} {c : Value} {i : Nat} {ts : Addr → Value → Option Addr → TS} {b₀ : Stmt} {suite : List Stmt} {np pos' : Pos} {hds : List ExceptHandler} {l : List (Value × Nat × (Addr → Value → Option Addr → TS))}
      (hi : X.N[i]? = some n) (hln : X.env.kindOf n = some .local) (hc : Names X x c)
      (hsu : ∀ (a : Addr) (oe : Obj) (cls : Value) (d : Option Addr) (pn : List (Addr × Obj)), Zc cls d oe → (∃ vs, oe.data = .fields vs) → PSs (X.suite a ((a, oe) :: pn)) (b₀ :: suite) (ts a cls d)) (r : HdsAs X hds l) :
      HdsAs X (.ExceptHandler (some (.Name x np)) (some n) (b₀ :: suite) pos' :: hds) ((c, i, ts) :: l)
section
variable {X : Cx} {body : List Stmt} {h₀ : ExceptHandler} {hds : List ExceptHandler} {l : List (Value × Nat × (Addr → Value → Option Addr → TS))} {pos : Pos} {tb : WX → TS} {Wout : WX}
theorem ps_try_asM (hs : X.stack = X.env :: X.outer) (hf : X.env.frame = some X.env.locals) (hN : X.N.Nodup) (tk : Takes X Wout)
    (hb : ∀ (W : WX) (pn : List (Addr × Obj)) (xe : Value → Shared → Prop), Takes (X.tr pn xe) W → PassesOwn (model X.prog X.w) X.A X.env xe → PSs (X.tr pn xe) body (tb W))
    (hh : HdsAs X (h₀ :: hds) l) : PS X (.Try body (h₀ :: hds) [] [] pos) (fun D σ H => tb (wAsM X.K Wout D l) D σ H) := by
  refine ⟨fun pins s σ H D I h => ?_⟩
  have ok := I.ok
  have hfr : X.A.frames = some (X.env :: X.outer) := by rw [ok.frames, hs]
  refine wpAny_Try_except ?_
  refine wpAny_mono ((hb (wAsM X.K Wout D l) (X.pn ++ pins) (fun e s₁ => wpAny (model X.prog X.w) X.A (noteFrame e X.env) (fun _ s₂ => wpAny (model X.prog X.w) X.A (setFlight e none) (fun _ s₃ =>
    wpAny (model X.prog X.w) X.A (handleBy e X.env (h₀ :: hds)) (SP X pins D) X.xe s₃) X.xe s₂) X.xe s₁) (fun u s' xx => ?_) PassesOwn.looking).run [] s σ H D (I.toTry _) h) (fun f s1 hsp => ?_) (fun e s1 he => he)
  · -- the catch
    obtain ⟨a, B, sI, pins', σ', H', cls, d, rfl, J', nb, up, sky, na, os, ag, w⟩ := xx
    have J : Inv X pins σ' H' sI := J'.ofTry ok
    have sky' : Sky B (X.env :: X.outer) a (Zc cls d) X.env.locals s'.heap := by rw [← hs]; exact sky
    show wpAny (model X.prog X.w) X.A (noteFrame (.ref a) X.env) _ _ _
    refine Sky.land Zc.steady hfr hf sky' fun h3 fl3 up3 => ?_
    have J3 : Inv X pins σ' H' { s' with heap := h3 } := J.landed nb fl3.1 (up.trans up3) os ag
    obtain ⟨oe3, vs3, he3, hz3, hd3⟩ := fl3.there
    have notFr : ∀ {h : Heap} {o : Obj} {vs : Array Value}, h.FunFrames B (X.env :: X.outer) → h.get? a = some o → o.data = .fields vs → a ∉ frs (X.env :: X.outer) := fun {h o vs} ff e dd hm => by
      obtain ⟨_, o', e', hnf⟩ := ff.mem hm
      rw [e] at e'; cases e'
      exact hnf _ dd
    have nfr := notFr fl3.2.2.1 he3 hd3
    have nL : a ≠ X.env.locals := fun z => nfr (List.mem_filterMap.mpr ⟨X.env, List.mem_cons_self, by rw [hf, z]⟩)
    have nF : a ∉ X.fs := fun hm => by
      obtain ⟨e, he, q⟩ := List.mem_filterMap.mp hm
      exact nfr (List.mem_filterMap.mpr ⟨e, List.mem_cons_of_mem _ he, q⟩)
    have S3 := J3.suite he3 hd3 na nL nF
    have go : ∀ {hds' : List ExceptHandler} {l' : List (Value × Nat × (Addr → Value → Option Addr → TS))}, HdsAs X hds' l' → wAsM X.K Wout D l' cls d σ' H' →
        wpAny (model X.prog X.w) X.A (handleBy (.ref a) X.env hds') (SP X pins D) X.xe { s' with heap := h3 } := by
      intro hds' l' hk
      induction hk with
      | nil =>
        intro w
        refine wpAny_handleBy_nil ?_
        obtain ⟨k1, k2, k3, oe, vs, T, oT, ts', he, hz, hd, h1, hr⟩ := id fl3
        unfold PySem.passOn
        refine wpAny_bind (wpAny_field he hd h1 ?_)
        rw [if_neg (show ¬ ((Value.ref T == Value.none) = true) from by simp)]
        have fin : wpAny (model X.prog X.w) X.A (setFlight (.ref a) X.env.frame) (fun _ s4 => wpAny (model X.prog X.w) X.A (throw (.ref a) : Sem Flow) (SP X pins D) X.xe s4) X.xe { s' with heap := h3 } := by
          rw [hf]
          refine HandSPX.setFlight_upZ fl3 fun h4 hh4 up4 => wpAny_throw (tk _ _ ?_)
          exact ⟨a, B, sI, pins, σ', H', cls, d, rfl, J, nb, (up.trans up3).trans up4, .inr (.inr (by rw [hs]; exact hh4)), na, os, ag, w⟩
        first
          | exact wpAny_bind (wpAny_pure (wpAny_bind fin))
          | exact wpAny_bind fin
      | @cons x n c i ts b₀ suite np pos' hds2 l2 hi hln hc hsu r ih =>
        intro w
        obtain ⟨b, hb1, hyes, hno⟩ := w
        have hloc : Loc X.env.scope n := .inl hln
        refine wpAny_handleBy_cons (codeAny_handlers_test ?_) (by intro q; cases q)
        have LT : PySem.W.Looks (model X.prog X.w) h3 (typeOf (.ref a)) cls := fun A Q E s k q => wpAny_typeOf_ref (k _ _ he3) (by rw [hz3.1]; exact q)
        have LM := PySem.W.exm_one (M := model X.prog X.w) (J3.kIn) LT hb1
        have test : ∀ {Q : Value → Shared → Prop} {E : Value → Shared → Prop}, Q c { s' with heap := h3 } → wpAny (model X.prog X.w) (X.A.mark (some (.ref a))) (eval (.Name x np) X.env) Q E { s' with heap := h3 } := fun {Q E} q => by
          obtain ⟨hg, hdbg, hm | ⟨hm, hv, hnn⟩⟩ := hc
          · exact ld_glob (X := X.suite a ((a, oe3) :: (X.pn ++ pins))) S3 hg hm q hdbg
          · exact ld_blt (X := X.suite a ((a, oe3) :: (X.pn ++ pins))) S3 hg hm hv q hnn hdbg
        refine test (LM.here ?_)
        cases b with
        | true =>
          refine codeAny_handlers_suite_as ?_
          refine HandSPX.lands_againZ fl3 fun h4 fl4 up4 => ?_
          have J4 : Inv X pins σ' H' { s' with heap := h4 } := J.landed nb fl4.1 ((up.trans up3).trans up4) os ag
          obtain ⟨oe4, vs4, he4, hz4, hd4⟩ := fl4.there
          have S4 := J4.suite he4 hd4 na nL nF
          refine store_ok (X := X.suite a ((a, oe4) :: (X.pn ++ pins))) (v := .ref a) S4 hN hi hloc rfl (fun s5 S5 => ?_) (.inr hln)
          refine wpAny_mono ((hsu a oe4 cls d (X.pn ++ pins) hz4 ⟨_, hd4⟩).run [] s5 _ H' _ S5 (hyes rfl a na)) (fun f s6 hsp => ?_) (fun _ _ z => False.elim z)
          have end_ : ∀ {σ6 : L2.St} {H6 : Hp} {Q : Shared → Prop}, Inv (X.suite a ((a, oe4) :: (X.pn ++ pins))) [] σ6 H6 s6 → (∀ s7, Inv X pins (σ6.set i none) H6 s7 → Q s7) →
              wpAny (model X.prog X.w) X.A (do bindName X.env n .none; unbindBehindTheSuite X.env n pos') (fun _ s7 => Q s7) X.xe s6 := fun {σ6 H6 Q} S6 hq => gone_ok (S6.unsuite ok) hN hi hln hq
          cases f with
          | next =>
            obtain ⟨σ6, H6, S6, q6⟩ := hsp
            exact end_ S6 fun s7 J7 => ⟨_, _, J7, q6⟩
          | brk =>
            obtain ⟨σ6, H6, S6, q6⟩ := hsp
            exact end_ S6 fun s7 J7 => ⟨_, _, J7, q6⟩
          | cont =>
            obtain ⟨σ6, H6, S6, q6⟩ := hsp
            exact end_ S6 fun s7 J7 => ⟨_, _, J7, q6⟩
          | ret u =>
            obtain ⟨v6, σ6, H6, S6, r6, q6⟩ := hsp
            exact end_ S6 fun s7 J7 => ⟨_, _, _, J7, r6, q6⟩
        | false =>
          show wpAny _ X.A (handleBy (.ref a) X.env hds2) _ _ _
          exact ih (hno rfl)
    exact go hh w
  · cases f with
    | next =>
      obtain ⟨σ', H', J', q⟩ := hsp
      exact wpAny_execs_nil ⟨σ', H', J'.ofTry ok, q⟩
    | brk =>
      obtain ⟨σ', H', J', q⟩ := hsp
      exact ⟨σ', H', J'.ofTry ok, q⟩
    | cont =>
      obtain ⟨σ', H', J', q⟩ := hsp
      exact ⟨σ', H', J'.ofTry ok, q⟩
    | ret u =>
      obtain ⟨v, σ', H', J', r, q⟩ := hsp
      exact ⟨v, σ', H', J'.ofTry ok, r, q⟩
end
end Cl
/-! text ClQe -/
set_option maxHeartbeats 2000007
/-! raise; try with clauses that name the exception. -/
namespace Cl
open PySem PySem.Spec PyProof.Rows L2
section
variable {nm : Nm} {tb : Tbl} {pa : Pa}
theorem sndS_rse {c fi : Nat} {a : E} (ha : SndE nm tb pa a) : SndS nm tb pa (.rse c fi a) := fun k wx ct X C st hm W σ ρ D hW s hr hp => by
  cases st with
  | Raise x c' p3 =>
    cases x with
    | none => cases c' <;> cases hm
    | some x =>
      cases x with
      | Call g es kws p2 =>
        cases g with
        | Name x p =>
          match es, kws, c', hm with
          | [e], [], none, hm =>
              obtain ⟨h1, h4⟩ := ba hm
              obtain ⟨h1, h3⟩ := ba h1
              obtain ⟨h1, h2⟩ := ba h1
              obtain ⟨g1, g2⟩ := C.gl h1
              have hp0 : PostR W wx (ifR (glv tb k).deep (match (glv tb k).call1 fi [.non, .non] W.h with
                | .ok _ _ => (evE (glv tb k) a ρ W.h).bind fun d h1 => .exn c d h1
                | _ => .bad)) (PF D) := hp
              match k, C, hp0 with
              | 0, C, hp0 => exact (show False from hp0).elim
              | 1, C, hp0 => exact (show False from hp0).elim
              | k + 2, C, hp0 =>
                have hp := (PostR.if_ hp0).2
                have hp : PostR W wx ((evE (glv tb (k + 2)) a ρ W.h).bind fun d h1 => .exn c d h1) (PF D) := by
                  cases hc : (glv tb (k + 2)).call1 fi [.non, .non] W.h with
                  | ok v h' => rw [hc] at hp; exact hp
                  | exn c' d h' => rw [hc] at hp; exact hp.elim
                  | bad => rw [hc] at hp; exact hp.elim
                cases hx : nm.exc c with
                | none => rw [hx] at h2; cases h2
                | some q =>
                  obtain ⟨y, f⟩ := q
                  rw [hx] at h2
                  have h2 : x = y := eq_of_beq h2
                  subst h2
                  obtain ⟨m1, m2, fI, fd, ps, T, F, hb⟩ := (C.fx (k + 1) (Nat.le_succ _)).exc c x f hx
                  have pass : Passes (L2.CX X.prog X.w) X (fun _ _ _ => False) := passes_call C.tk fun _ _ _ _ h => h.elim
                  refine ⟨_, ps_raise C.calm C.tk (pmk_first T (F k rfl) C.rm hb pass g1 m1 (pa_ts (es := [e])) (nb h3) g2), ?_⟩
                  have one : SndEs nm tb pa [a] := snd_cons ha snd_nil
                  refine one (k + 2) wx ct X C [e] (by show (!isStarE e && mtE nm ct a e && true) = true; rw [h3, h4]; rfl) W σ ρ _ hW s hr ?_
                  have e0 : evEs (glv tb (k + 2)) [a] ρ W.h = (evE (glv tb (k + 2)) a ρ W.h).bind fun d h1 => .ok [d] h1 := rfl
                  show PostR W wx (evEs (glv tb (k + 2)) [a] ρ W.h) _
                  rw [e0]
                  cases hv : evE (glv tb (k + 2)) a ρ W.h with
                  | ok d h1 =>
                    rw [hv] at hp
                    intro W1 g s1 eh vs r
                    obtain ⟨v, vs', rfl, rv, e2⟩ := r
                    have e2 : vs' = [] := e2
                    subst e2
                    refine ⟨v, rfl, fun dx hdx => ?_⟩
                    have hpa : W1.pa = pa := g.pa.trans hW
                    have gl := go_lay (o := .xd [(f, v)]) s1 hdx
                    have sl := sm_lay (o := .xd [(f, v)]) s1 hdx
                    have hno : ¬ ow W1 dx := not_ow_new s1 hdx
                    have fin := hp (W1.lay dx (.xd [(f, v)])) dx v (g.trans gl) sl eh (rv.go gl) (by
                      show upd W1.H dx (.xd [(f, v)]) dx = some (.xd [(W1.pa.xf c, v)])
                      rw [upd_same, hpa, m2]) hno
                    have fin : wx (.ref (W1.pa.ca c)) (some dx) (upd W1.H dx (.xd [(f, v)])) := fin
                    rw [hpa] at fin
                    exact fin
                  | exn c2 d h1 =>
                    rw [hv] at hp
                    exact hp
                  | bad =>
                    rw [hv] at hp
                    exact hp.elim
          | [], _, c', hm => cases c' <;> cases hm
          | _ :: _ :: _, _, c', hm => cases c' <;> cases hm
          | [_], _ :: _, c', hm => cases c' <;> cases hm
          | [_], [], some _, hm => cases hm
        | _ => cases c' <;> cases hm
      | _ => cases c' <;> cases hm
  | _ => cases hm
end
end Cl
/-! text ClQf -/
set_option maxHeartbeats 2000007
/-! raise; try with clauses that name the exception. -/
namespace Cl
open PySem PySem.Spec PyProof.Rows L2
section
variable {nm : Nm} {tb : Tbl} {pa : Pa}
theorem takes_len {X : Cx} {W : WX} (tk : Takes X W) : Takes X (fun c d _ H => ∀ σ, σ.length = X.N.length → W c d σ H) := fun u s' ⟨a, B, sI, pins, σ, H, cls, d, e, I, nb, up, sky, na, os, ag, w⟩ =>
  tk u s' ⟨a, B, sI, pins, σ, H, cls, d, e, I, nb, up, sky, na, os, ag, w σ I.len⟩
/-- what a clause's suite returns -/
def tHn (C : Addr) (f : Str) (i : Nat) (k : Hn) (a : Addr) (cls : Value) (d : Option Addr) : TS := match k with
  | .val => tRet (tXf a cls d C f (tVar i))
  | .tag s => tRet (tTup (tCons (tC (.str s)) (tCons (tXf a cls d C f (tVar i)) tNil)))
theorem suite_val {X : Cx} {C fI a : Addr} {f n : Str} {i : Nat} {oe : Obj} {cls : Value} {d : Option Addr} {pn : List (Addr × Obj)} {p q1 q2 : Pos} (T : ExF X.K C fI f) (hN : X.N[i]? = some n) (hv : Vis X.env.scope n) (d1 : (n == ("__debug__" : Str)) = false) (d2 : (n == ("__classdict__" : Str)) = false)
    (hz : Zc cls d oe) (hf : ∃ vs, oe.data = .fields vs) : PSs (X.suite a ((a, oe) :: pn)) [.Return (some (.Attribute (.Name n q1) f q2)) p] (tHn C f i .val a cls d) :=
  pss_one (ps_ret (pe_xf T.xf T.no hz hf (pe_var (X := X.suite a ((a, oe) :: pn)) hN hv d1 d2) rfl))
theorem suite_tag {X : Cx} {C fI a : Addr} {f n z : Str} {i j1 j2 : Nat} {oe : Obj} {cls : Value} {d : Option Addr} {pn : List (Addr × Obj)} {p q1 q2 q3 q4 : Pos} (T : ExF X.K C fI f) (hN : X.N[i]? = some n) (hv : Vis X.env.scope n) (d1 : (n == ("__debug__" : Str)) = false) (d2 : (n == ("__classdict__" : Str)) = false)
    (hz : Zc cls d oe) (hf : ∃ vs, oe.data = .fields vs) : PSs (X.suite a ((a, oe) :: pn)) [.Return (some (.Tuple [.Constant (.str z) j1 q3, .Attribute (.Name n q1) f q2] j2 q4)) p] (tHn C f i (.tag z) a cls d) :=
  pss_one (ps_ret (pe_tup (pa_cons pe_str (pa_cons (pe_xf T.xf T.no hz hf (pe_var (X := X.suite a ((a, oe) :: pn)) hN hv d1 d2) rfl) pa_nil rfl) rfl)))
theorem tag_one {n f z : Str} {a : Expr} {j : Nat} {q : Pos} (h : mtHn n f (.tag z) (.Tuple [a] j q) = true) : False := by
  unfold mtHn at h
  split at h
  · rename_i _ y
    cases y
  · rename_i _ y
    cases y
  · cases h
theorem tag_three {n f z : Str} {a b c : Expr} {r : List Expr} {j : Nat} {q : Pos} (h : mtHn n f (.tag z) (.Tuple (a :: b :: c :: r) j q) = true) : False := by
  unfold mtHn at h
  split at h
  · rename_i _ y
    cases y
  · rename_i _ y
    cases y
  · cases h
theorem su_two {ct : Ct} {c : Nat} {kk : Hn} {hs : List (Nat × Hn)} {x n : Str} {np p' : Pos} {s1 s2 : Stmt} {r : List Stmt} {hds : List ExceptHandler} (h : mtHs nm ct ((c, kk) :: hs) (.ExceptHandler (some (.Name x np)) (some n) (s1 :: s2 :: r) p' :: hds) = true) : False := by
  cases s1 with
  | Return e p => cases e <;> cases h
  | _ => cases h
theorem hds_ok {k : Nat} {wx : XK} {ct : Ct} {X : Cx} (C : Cok nm tb pa k wx ct X) {D : Ends} : ∀ {hs : List (Nat × Hn)} {hds : List ExceptHandler}, mtHs nm ct hs hds = true → ∃ l, HdsAs X hds l ∧ (∀ c kk, hs.lookup c = some kk → ∃ x f, nm.exc c = some (x, f)) ∧
    ∀ (c : Nat) (kk : Hn) (dx : Addr) (v : V) (H : Hp) (σ : L2.St), hs.lookup c = some kk → σ.length = X.N.length → H dx = some (.xd [(pa.xf c, v)]) →
      (match kk with
      | .val => D.rt v H
      | .tag s => ∀ p, H p = none → D.rt (.ref p) (upd H p (.tup [.str s, v]))) → wAsM X.K (fun c d _ H => wx c d H) D l (.ref (pa.ca c)) (some dx) σ H
  | [], hds, hm => by
    cases hds with
    | nil => exact ⟨[], .nil, ⟨fun (c : Nat) (kk : Hn) (e : List.lookup c [] = some kk) => (by cases e), fun (c : Nat) (kk : Hn) (dx : Addr) (v : V) (H : Hp) (σ : L2.St) (e : List.lookup c [] = some kk) => (by cases e)⟩⟩
    | cons _ _ => cases hm
  | (c, kk) :: hs, hds, hm => by
    cases hds with
    | nil => cases hm
    | cons h0 hds =>
      obtain ⟨ty, nn, su, p'⟩ := h0
      cases ty with
      | none => cases hm
      | some ty =>
        cases ty with
        | Name x np =>
          cases nn with
          | none => cases hm
          | some n =>
            match su, hm with
            | [], hm => cases hm
            | _ :: _ :: _, hm => exact (su_two hm).elim
            | [st0], hm =>
              cases st0 with
              | Return e p =>
                cases e with
                | none => cases hm
                | some e =>
                  obtain ⟨h1, h6⟩ := ba hm
                  obtain ⟨h1, h5⟩ := ba h1
                  obtain ⟨h1, h4⟩ := ba h1
                  obtain ⟨h1, h3⟩ := ba h1
                  obtain ⟨h1, h2⟩ := ba h1
                  obtain ⟨g1, g2⟩ := C.gl h1
                  obtain ⟨d1, d2⟩ := okN_ok h2
                  obtain ⟨l, hl, hex, hw⟩ := hds_ok C (D := D) h6
                  cases hx : nm.exc c with
                  | none => rw [hx] at h3; cases h3
                  | some q =>
                    obtain ⟨y, f⟩ := q
                    rw [hx] at h3
                    obtain ⟨h31, h32⟩ := ba h3
                    have h31 : x = y := eq_of_beq h31
                    subst h31
                    obtain ⟨m1, m2, fI, fd, ps, T, _, _⟩ := (C.fx k (Nat.le_refl _)).exc c x f hx
                    have hloc : ct.sc.names.lookup n = some .local := by
                      cases e : ct.sc.names.lookup n with
                      | none => rw [e] at h4; cases h4
                      | some q =>
                        rw [e] at h4
                        cases q <;> first | rfl | cases h4
                    have hln : X.env.kindOf n = some .local := by
                      unfold Env.kindOf
                      rw [C.sc]
                      exact hloc
                    have hvis : Vis X.env.scope n := C.vis (by unfold visB; rw [hloc])
                    obtain ⟨i, hi, ei⟩ := List.getElem_of_mem (List.contains_iff_mem.mp h5)
                    have hN : X.N[i]? = some n := by
                      rw [C.N, List.getElem?_eq_getElem hi, ei]
                    have xn : X.K = pa.K := C.K
                    refine ⟨(.ref (pa.ca c), i, tHn (pa.ca c) f i kk) :: l, .cons hN hln ⟨g1, g2, .inl m1⟩ (fun a oe cls d pn hz hf => ?_) hl, fun c' k' e => ?_, fun c' k' dx v H σ e hlen hH hk => ?_⟩
                    · cases kk with
                      | val =>
                        cases e with
                        | Attribute b g q2 =>
                          cases b with
                          | Name m q1 =>
                            obtain ⟨a1, a2⟩ := ba h32
                            have a1 : m = n := eq_of_beq a1
                            have a2 : g = f := eq_of_beq a2
                            subst a1
                            subst a2
                            exact suite_val T hN hvis d1 d2 hz hf
                          | _ => cases h32
                        | _ => cases h32
                      | tag z =>
                        cases e with
                        | Tuple es j2 q4 =>
                          match es, h32 with
                          | [], h32 => cases h32
                          | [a'], h32 => exact (tag_one h32).elim
                          | [a', b'], h32 =>
                            cases a' with
                            | Constant c0 j1 q3 =>
                              cases c0 with
                              | str t =>
                                cases b' with
                                | Attribute b0 g q2 =>
                                  cases b0 with
                                  | Name m q1 =>
                                    obtain ⟨a0, a2⟩ := ba h32
                                    obtain ⟨a0, a1⟩ := ba a0
                                    have a0 : z = t := eq_of_beq a0
                                    have a1 : m = n := eq_of_beq a1
                                    have a2 : g = f := eq_of_beq a2
                                    subst a0
                                    subst a1
                                    subst a2
                                    exact suite_tag T hN hvis d1 d2 hz hf
                                  | _ => cases h32
                                | _ => cases h32
                              | _ => cases h32
                            | _ => cases h32
                          | a' :: b' :: _ :: _, h32 => exact (tag_three h32).elim
                        | _ => cases h32
                    · rw [List.lookup_cons] at e
                      cases hc : c' == c with
                      | true => exact ⟨x, f, by rw [eq_of_beq hc]; exact hx⟩
                      | false =>
                        rw [hc] at e
                        exact hex c' k' e
                    · rw [List.lookup_cons] at e
                      have hcx : ∃ q', nm.exc c' = some q' := by
                        cases hc : c' == c with
                        | true => exact ⟨_, by rw [eq_of_beq hc]; exact hx⟩
                        | false =>
                          rw [hc] at e
                          obtain ⟨x', f', h⟩ := hex c' k' e
                          exact ⟨_, h⟩
                      obtain ⟨q', hq'⟩ := hcx
                      have hm1 := (C.fx k (Nat.le_refl _)).exm c' c q' _ hq' hx
                      refine ⟨c' == c, hm1, fun hb a hna => ?_, fun hb => ?_⟩
                      · have hcc : c' = c := eq_of_beq hb
                        subst hcc
                        rw [beq_self_eq_true] at e
                        have e : kk = k' := Option.some.inj e
                        subst e
                        have hv : (σ.set i (some (.ref a)))[i]? = some (some (.ref a)) := by
                          rw [List.getElem?_set_self]
                          rw [hlen, C.N]
                          exact hi
                        rw [m2] at hH
                        have hlk : ([(f, v)] : List (Str × V)).lookup f = some v := by simp [List.lookup]
                        cases kk with
                        | val => exact ⟨_, hv, rfl, rfl, dx, _, v, rfl, hH, hlk, hk⟩
                        | tag z => exact ⟨_, hv, rfl, rfl, dx, _, v, rfl, hH, hlk, by show 2 ≤ sizeLine; decide, fun p hp => hk p hp⟩
                      · rw [hb] at e
                        exact hw c' k' dx v H σ e hlen hH hk
              | _ => cases hm
        | _ => cases hm
end
end Cl
/-! text ClQg -/
set_option maxHeartbeats 2000007
/-! raise; try with clauses that name the exception. -/
namespace Cl
open PySem PySem.Spec PyProof.Rows L2
section
variable {nm : Nm} {tb : Tbl} {pa : Pa}
theorem sndS_trA {b : List S} {hs : List (Nat × Hn)} (hb : SndSs nm tb pa b) : SndS nm tb pa (.trA b hs) := fun k wx ct X C st hm W σ ρ D hW s hr hp => by
  cases st with
  | Try body hds els fin p =>
    match hds, els, fin, hm with
    | h0 :: hds, [], [], hm =>
        obtain ⟨h1, h2⟩ := ba hm
        obtain ⟨h0', h1⟩ := ba h1
        obtain ⟨stk, frm⟩ := C.stk (nb h0')
        obtain ⟨l, hl, hex, hw⟩ := hds_ok C (D := D) h2
        refine ⟨_, ps_try_asM (tb := fun W0 D σ H => ∀ (pn : List (Addr × Obj)) (xe : Value → Shared → Prop), Takes (X.tr pn xe) W0 → PassesOwn (model X.prog X.w) X.A X.env xe → tsSs (X.tr pn xe) body D σ H) stk frm (by rw [C.N]; exact C.nd) C.tk
          (fun W0 pn xe tk ps => ⟨fun pins s σ H D I h => pss_ts.run pins s σ H D I (h pn xe tk ps)⟩) hl, ?_⟩
        intro pn xe tk ps
        have C' : Cok nm tb pa k (fun c d H => ∀ σ : L2.St, σ.length = X.N.length → wAsM X.K (fun c d _ H => wx c d H) D l c d σ H) ct (X.tr pn xe) :=
          { N := C.N, sc := C.sc, nd := C.nd, calm := C.calm, rm := C.rm, K := C.K, tk := takes_len tk, pso := ps, sto := C.sto, fx := C.fx, stk := C.stk }
        refine hb k _ ct (X.tr pn xe) C' body h1 W σ ρ D hW s hr ?_
        have hp : PostR W wx (tryR hs (exSs (glv tb k) b ρ W.h)) (PF D) := hp
        cases hv : exSs (glv tb k) b ρ W.h with
        | ok fl h' =>
          rw [hv] at hp
          exact hp
        | bad =>
          rw [hv] at hp
          exact hp.elim
        | exn c d h' =>
          rw [hv] at hp
          have hp : PostR W wx (match hs.lookup c with
            | some k => .ok (.ret (k.d d)) h'
            | none => .bad) (PF D) := hp
          intro W' dx v g s' eh rv hH hno σ' hlen
          cases hk : hs.lookup c with
          | none =>
            rw [hk] at hp
            exact hp.elim
          | some kk =>
            rw [hk] at hp
            have hpa : W'.pa = pa := g.pa.trans hW
            rw [hpa] at hH ⊢
            refine hw c kk dx v W'.H σ' hk hlen hH ?_
            cases kk with
            | val => exact hp W' g s' eh v rv
            | tag z =>
              intro q hq
              obtain ⟨g1, s1, r1⟩ := new_tup (xs := [.str z, d]) (vs := [.str z, v]) s' hq ⟨.str z, [v], rfl, rfl, v, [], rfl, rv, rfl⟩
              exact hp (W'.lay q (.tup [.str z, v])) (g.trans g1) s1 eh (.ref q) r1
    | [], _, _, hm => cases hm
    | _ :: _, _ :: _, _, hm => cases hm
    | _ :: _, [], _ :: _, hm => cases hm
  | _ => cases hm
end
end Cl
/-! text ClR -/
set_option maxHeartbeats 1000007
/-! Every code. -/
namespace Cl
open PySem L2
theorem pt_ite {X : Cx} {x y z : Expr} {p : Pos} {t u w : TT} (ht : PT X x t) (ha : PT X y u) (hb : PT X z w) : PT X (.IfExp x y z p) (fun σ H Q => t σ H fun b H1 => if b = true then u σ H1 Q else w σ H1 Q) := by
  refine ⟨fun pins s σ H Q I h => ?_⟩
  show wpAny _ _ (isTrue x X.env (eval x X.env) >>= fun b => if b then isTrue y X.env (eval y X.env) else isTrue z X.env (eval z X.env)) _ _ s
  refine wpAny_bind (thn (ht.run pins s σ H _ I h) fun b s1 ⟨H1, I1, q1⟩ => ?_)
  cases b with
  | true => exact ha.run pins s1 σ H1 Q I1 q1
  | false => exact hb.run pins s1 σ H1 Q I1 q1
section
variable {nm : Nm} {tb : Tbl} {pa : Pa}
theorem snd_none' {c : E} (h : ∀ (ct : Ct) (e : Expr), mtE nm ct c e = false) : SndE nm tb pa c ∧ SndT nm tb pa c :=
  ⟨(fun k wx ct X C e hm => by rw [h] at hm; cases hm), (fun k wx ct X C e hm => by rw [h] at hm; cases hm)⟩
theorem sndT_ite {t a b : E} (ht : SndT nm tb pa t) (ha : SndT nm tb pa a) (hb : SndT nm tb pa b) : SndT nm tb pa (.ite t a b) := fun k wx ct X C e hm W σ ρ Q hW s hr hp => by
  cases e with
  | IfExp x y z p =>
    obtain ⟨h, h3⟩ := ba hm
    obtain ⟨h1, h2⟩ := ba h
    refine ⟨_, pt_ite pt_ts pt_ts pt_ts, ?_⟩
    have hp : PostR W wx ((evT (glv tb k) t ρ W.h).bind fun kk h1 => tst (match kk with
      | true => evE (glv tb k) a ρ h1
      | false => evE (glv tb k) b ρ h1)) (fun b W' => Q b W'.H) := by
      have hp : PostR W wx (tst ((evT (glv tb k) t ρ W.h).bind fun kk h1 => match kk with
        | true => evE (glv tb k) a ρ h1
        | false => evE (glv tb k) b ρ h1)) (fun b W' => Q b W'.H) := hp
      rw [tst_bind] at hp
      exact hp
    refine ht.use C h1 hW s hr hp fun kk W1 g1 s1 hp1 => ?_
    cases kk with
    | true =>
      rw [if_pos rfl]
      exact ha k wx ct X C y h2 W1 σ ρ Q (g1.pa.trans hW) s1 (hr.go g1) hp1
    | false =>
      rw [if_neg Bool.false_ne_true]
      exact hb k wx ct X C z h3 W1 σ ρ Q (g1.pa.trans hW) s1 (hr.go g1) hp1
  | _ => cases hm
/-- by value, where the code's form is told to be one whose test is its value's truth -/
theorem both {c : E} (h : SndE nm tb pa c) (ht : ∀ (ct : Ct) (e : Expr), mtE nm ct c e = true → tHead e = true) : SndE nm tb pa c ∧ SndT nm tb pa c :=
  ⟨h, fun k wx ct X C e hm W σ ρ Q hW s hr hp => sndT_val h C (ht ct e hm) hm hW s hr hp⟩
mutual
theorem sndE : ∀ c : E, SndE nm tb pa c ∧ SndT nm tb pa c
  | .var i => both snd_var fun ct e hm => by cases e <;> first | rfl | cases hm
  | .lit d => both snd_lit fun ct e hm => by cases e <;> first | rfl | (cases d <;> cases hm)
  | .glo x => both snd_glo fun ct e hm => by cases e <;> first | rfl | cases hm
  | .bin o a b => both (snd_bin (sndE a).1 (sndE b).1) fun ct e hm => by cases e <;> first | rfl | cases hm
  | .neg a => both (snd_neg (sndE a).1) fun ct e hm => by
    cases e with
    | UnaryOp op l p => cases op <;> first | rfl | cases hm
    | _ => cases hm
  | .cmp o a b => ⟨snd_cmp (sndE a).1 (sndE b).1, sndT_cmp (sndE a).1 (sndE b).1⟩
  | .chain o o' a b c => ⟨snd_chain (sndE a).1 (sndE b).1 (sndE c).1, sndT_chain (sndE a).1 (sndE b).1 (sndE c).1⟩
  | .isN a => ⟨snd_isN (sndE a).1, sndT_isN (sndE a).1⟩
  | .notN a => ⟨snd_notN (sndE a).1, sndT_notN (sndE a).1⟩
  | .not a => ⟨snd_not (sndE a).1, sndT_not (sndE a).2⟩
  | .and cs => ⟨snd_and fun c h => ((sndEs cs).2 c h).1, sndT_and fun c h => ((sndEs cs).2 c h).2⟩
  | .or cs => ⟨snd_or fun c h => ((sndEs cs).2 c h).1, sndT_or fun c h => ((sndEs cs).2 c h).2⟩
  | .ite t a b => ⟨snd_ite (sndE t).2 (sndE a).1 (sndE b).1, sndT_ite (sndE t).2 (sndE a).2 (sndE b).2⟩
  | .tup cs => both (snd_tup (sndEs cs).1) fun ct e hm => by cases e <;> first | rfl | cases hm
  | .lst cs => both (snd_lst (sndEs cs).1) fun ct e hm => by cases e <;> first | rfl | cases hm
  | .ix a i => both (snd_ix (sndE a).1 (sndE i).1) fun ct e hm => by cases e <;> first | rfl | cases hm
  | .slc a lo hi => both (snd_slc (sndE a).1 (sndO lo) (sndO hi)) fun ct e hm => by cases e <;> first | rfl | cases hm
  | .fld a f => both (snd_fld (sndE a).1) fun ct e hm => by cases e <;> first | rfl | cases hm
  | .prop c f a => both (snd_prop (sndE a).1) fun ct e hm => by cases e <;> first | rfl | cases hm
  | .call f cs ds => both (snd_call (sndEs cs).1) fun ct e hm => by cases e <;> first | rfl | cases hm
  | .callK f cs ks => both (snd_callK (sndEs cs).1 fun c h => ((sndEs ks).2 c h).1) fun ct e hm => by cases e <;> first | rfl | cases hm
  | .mk c f cs ds => both (snd_mk (sndEs cs).1) fun ct e hm => by cases e <;> first | rfl | cases hm
  | .mkK c f cs ks => both (snd_mkK (sndEs cs).1 fun c h => ((sndEs ks).2 c h).1) fun ct e hm => by cases e <;> first | rfl | cases hm
  | .stop => ⟨fun k wx ct X C e hm W σ ρ Q hW s hr hp => (show False from hp).elim, fun k wx ct X C e hm W σ ρ Q hW s hr hp => (show False from hp).elim⟩
  | .bi b cs => both (snd_bi (sndEs cs).1) fun ct e hm => by cases e <;> first | rfl | cases hm
  | .bm m o cs => both (snd_bm (sndE o).1 (sndEs cs).1) fun ct e hm => by cases e <;> first | rfl | cases hm
  | .isi a ts => both (snd_isi (sndE a).1) fun ct e hm => by cases e <;> first | rfl | cases hm
  | .rngT t cs => both (snd_rngT fun c h => ((sndEs cs).2 c h).1) fun ct e hm => by cases e <;> first | rfl | cases hm
  | .comp tg it cond elt vs => both (snd_comp (sndI it) (sndE elt).1 fun c h => sndC cond c h) fun ct e hm => by
    obtain ⟨el, tt, ii, ifs, scope, p, rfl, _⟩ := comp_parts hm
    rfl
  | .srt b a => both (snd_srt (sndE a).1) fun ct e hm => by cases e <;> first | rfl | cases hm
  | .isB n a b => ⟨snd_isB (sndE a).1, sndT_isB (sndE a).1⟩
  | .new a => both (snd_new (sndE a).1) fun ct e hm => (ba (ba hm).1).1
  | .frz a => both (snd_frz (sndE a).1) fun ct e hm => (ba hm).1
theorem sndEs : ∀ cs : List E, SndEs nm tb pa cs ∧ ∀ c ∈ cs, SndE nm tb pa c ∧ SndT nm tb pa c
  | [] => ⟨snd_nil, fun c h => by cases h⟩
  | c :: cs => ⟨snd_cons (sndE c).1 (sndEs cs).1, fun x h => by
    rcases List.mem_cons.mp h with e | h
    · rw [e]
      exact sndE c
    · exact (sndEs cs).2 x h⟩
theorem sndO : ∀ c : Option E, SndO nm tb pa c
  | none => snd_none
  | some c => snd_some (sndE c).1
theorem sndC : ∀ (c : Option E) (x : E), c = some x → SndT nm tb pa x
  | none, _, h => by cases h
  | some c, x, h => by
    have e : c = x := Option.some.inj h
    rw [← e]
    exact (sndE c).2
theorem sndI : ∀ c : I, SndI nm tb pa c
  | .seq c => snd_seq (sndE c).1
  | .rng cs => snd_rng fun c h => ((sndEs cs).2 c h).1
  | .enm c => snd_enm (sndE c).1
  | .zip a b => snd_zip (sndE a).1 (sndE b).1
end
mutual
theorem sndS : ∀ c : S, SndS nm tb pa c
  | .asg t c => sndS_asg (sndE c).1 fun tg it cond elt vs h => ⟨sndI it, (sndE elt).1, fun c e => sndC cond c e⟩
  | .setIx a i c => sndS_setIx (sndE a).1 (sndE i).1 (sndE c).1
  | .setFld a f c => sndS_setFld (sndE a).1 (sndE c).1
  | .aug i o c => sndS_aug (sndE c).1
  | .ret c => sndS_ret (sndE c).1
  | .retN => sndS_retN
  | .ifs c a b => sndS_if (sndE c).2 (sndSs a) (sndSs b)
  | .for_ t it b => sndS_for (sndI it) (sndSs b)
  | .whl c b => sndS_whl (sndE c).2 (sndSs b)
  | .expr c => sndS_expr (sndE c).1
  | .brk => sndS_brk
  | .cnt => sndS_cnt
  | .pass => sndS_pass
  | .stop => fun k wx ct X C st hm W σ ρ D hW s hr hp => (show False from hp).elim
  | .rse c f e => sndS_rse (sndE e).1
  | .trA b hs => sndS_trA (sndSs b)
theorem sndSs : ∀ c : List S, SndSs nm tb pa c
  | [] => sndS_nil
  | c :: cs => sndS_cons (sndS c) (sndSs cs)
end
end
end Cl
/-! text ClS -/
set_option maxHeartbeats 1000007
/-! Defs: what each promises, level by level. -/
namespace Cl
open PySem L2
def ctOf (N : List Str) (sc : Scope) : Ct where
  N := N
  sc := sc
  sto := fun x => match sc.names.lookup x with
    | some .local => true
    | some .cell => true
    | _ => false
theorem getD_app {α : Type} {l : List α} {n i : Nat} {d : α} (h : (l.map some ++ List.replicate n none).getD i none = some d) : l[i]? = some d := by
  rw [List.getD_eq_getElem?_getD] at h
  by_cases hl : i < l.length
  · rw [List.getElem?_append_left (by rw [List.length_map]; exact hl), List.getElem?_map, List.getElem?_eq_getElem hl] at h
    rw [List.getElem?_eq_getElem hl]
    exact h
  · rw [List.getElem?_append_right (by rw [List.length_map]; omega)] at h
    rw [List.getElem?_replicate] at h
    split at h <;> cases h
theorem envR_start {W : Wd} {N : List Str} {ds : List D} {vs : List V} (r : RepA W ds vs) : EnvR W (startE N.length ds) (L2.start N vs) := by
  refine ⟨?_, fun i d e => ?_⟩
  · unfold startE L2.start
    rw [List.length_append, List.length_append, List.length_map, List.length_map, List.length_replicate, List.length_replicate, r.length]
  · have e1 := getD_app e
    obtain ⟨v, h1, h2⟩ := r.get e1
    refine ⟨v, ?_, h2⟩
    unfold L2.start
    have hl : i < vs.length := (List.getElem?_eq_some_iff.mp h1).1
    rw [List.getElem?_append_left (by rw [List.length_map]; exact hl), List.getElem?_map, h1]
    rfl
/-- the def f stands at a -/
def IsDef (K : PySem.W.Frag) (nm : Nm) (tb : Tbl) (f : Nat) (a : Addr) (fd : FuncData) (ps : List Str) : Prop :=
  ∃ x qual params body scope dvs kws N F, FunD K x qual params body scope dvs kws a fd ∧ FnScope N ps scope ∧ tb.fn f = some F ∧ F.np = ps.length ∧ F.nn = N.length ∧ mtSs nm (ctOf N scope) F.body body = true
/-- the body of an own exception's __init__: its text, the field kept -/
def exBody (f : Str) (N ps : List Str) (sc : Scope) (body : List Stmt) : Bool := match ps, body with
  | [s, v], [.Assign [.Attribute (.Name x _) g _] (.Name y _) _] => (x == s) && (y == v) && (g == f) && decide (N[0]? = some s) && decide (N[1]? = some v) && visB sc s && visB sc v && okN s && okN v
  | _, _ => false
def IsExI (K : PySem.W.Frag) (f : Str) (a : Addr) (fd : FuncData) (ps : List Str) : Prop :=
  ∃ x qual params body scope dvs kws N, FunD K x qual params body scope dvs kws a fd ∧ FnScope N ps scope ∧ exBody f N ps scope body = true
/-- what the written part says, of no level -/
structure Hd (K : PySem.W.Frag) (mg : Str → Option Value) (nm : Nm) (tb : Tbl) (pa : Pa) : Prop where
  eK : pa.K = K
  fn : ∀ f x, nm.fn f = some x → ∃ a fd ps, mg x = some (.ref a) ∧ PySem.W.keepIn K (.ref a) = true ∧ IsDef K nm tb f a fd ps ∧ Bnd K fd ps (nm.kws f)
  prop : ∀ f c x, nm.prop f = some (c, x) → ∃ p g fd ps, PropOf K (pa.ca c) x p g ∧ Cls K (pa.ca c) ∧ IsDef K nm tb f g fd ps ∧ Binds K fd ps []
  cls : ∀ c x, nm.cls c = some x → mg x = some (.ref (pa.ca c)) ∧ pa.cl c = true ∧ Cls K (pa.ca c)
  ini : ∀ f c, nm.ini f = some c → ∃ g fd ps, Mk K (pa.ca c) g ∧ IsDef K nm tb f g fd ps ∧ Bnd K fd ps (nm.kws f) ∧ (nm.kws f).length + 1 ≤ ps.length
  con : ∀ s d, nm.con s = true → tb.con s = some d → ∃ u v, mg (Str.ofString s) = some u ∧ RelV v u ∧ ∀ W : Wd, W.pa = pa → Rep W d v
  free : ∀ s, nm.free s = true → mg (Str.ofString s) = none
  att : ∀ f c, nm.att f = true → pa.cl c = true → Cls K (pa.ca c) ∧ NoAttr K (pa.ca c) f
  exc : ∀ c x f, nm.exc c = some (x, f) → mg x = some (.ref (pa.ca c)) ∧ pa.xf c = f ∧ ∃ fI fd ps, ExF K (pa.ca c) fI f ∧ IsExI K f fI fd ps ∧ Binds K fd ps []
  exm : ∀ c c' q q', nm.exc c = some q → nm.exc c' = some q' → PySem.W.exmOne K (.ref (pa.ca c)) (.ref (pa.ca c')) = some (c == c')
section
variable {P : Program} {w : World} {K : PySem.W.Frag} {mg : Str → Option Value} {base : Heap} {nm : Nm} {tb : Tbl} {pa : Pa}
theorem sp_len {f : Nat} {a : Addr} {fd : FuncData} {ps : List Str} (h : IsDef K nm tb f a fd ps) {n : Nat} {vs : List V} {H : Hp} {Q : VK} {E : XK} (s : SpI tb pa n f vs H Q E) : vs.length = ps.length := by
  obtain ⟨x, qual, params, body, scope, dvs, kws, N, F, _, _, h1, h2, _⟩ := h
  obtain ⟨W, ds, _, _, _, r, ⟨F', e, l⟩, _⟩ := s
  rw [h1] at e
  cases e
  rw [r.length, l, h2]
theorem fn_ok (hK : pa.K = K) {f : Nat} {a : Addr} {fd : FuncData} {ps : List Str} (h : IsDef K nm tb f a fd ps) {n : Nat} (fx : ∀ j, j < n → Facts P w K mg base nm tb pa j) : FnOk P w K mg base (L2.CX P w) n a fd ps (SpI tb pa n f) := by
  cases n with
  | zero => exact ⟨fun vs H Q E s => sp_len h s, fun A outer s H args us vs Q E _ _ _ _ sp => by
      obtain ⟨W, ds, _, _, _, _, _, hp⟩ := sp
      exact (show False from hp).elim⟩
  | succ n =>
    have hs := h
    obtain ⟨x, qual, params, body, scope, dvs, kws, N, F, hF, S, h1, h2, h3, hm⟩ := h
    refine hF.ok S (fun vs H Q E s => sp_len hs s) fun cdv A outer s H vs Q E hr sp => ?_
    obtain ⟨W, ds, hW, eH, sm, r, ⟨F', e, l⟩, hp⟩ := sp
    rw [h1] at e
    cases e
    subst eH
    have C : Cok nm tb pa n E (ctOf N scope) (cxOf (L2.CX P w) P w K mg base N qual scope a cdv A outer s W.H E) := {
      N := rfl
      sc := rfl
      nd := S.nd
      calm := rfl
      rm := hr
      K := hK.symm
      tk := takes_of rfl rfl rfl rfl
      pso := passes_of rfl
      sto := fun x hx => by
        refine ⟨?_, .inl rfl⟩
        have hx : (match scope.names.lookup x with
          | some .local => true
          | some .cell => true
          | _ => false) = true := hx
        show Loc scope x
        cases e : scope.names.lookup x with
        | none => rw [e] at hx; cases hx
        | some q =>
          rw [e] at hx
          cases q <;> first | exact .inl e | exact .inr e | cases hx
      fx := fun j hj => fx j (Nat.lt_succ_of_le hj)
      stk := fun _ => ⟨rfl, rfl⟩ }
    refine ⟨_, pss_ts, sndSs F.body n E (ctOf N scope) _ C body hm W (L2.start N vs) (startE F.nn ds) _ hW sm (by rw [h3]; exact envR_start r) ?_⟩
    rw [callI_succ, h1] at hp
    have hp := (PostR.if_ hp).2
    refine PostR.bind hp fun fl W1 g1 s1 hp1 => ?_
    cases fl with
    | nx ρ => exact fun σ _ => hp1.now s1 .non rfl fun z => by cases z
    | ret d => exact fun v rv => hp1.now s1 v rv fun z => by cases z
    | brk ρ => exact (show False from hp1).elim
    | cnt ρ => exact (show False from hp1).elim
theorem ex_other {f s v : Str} {N : List Str} {sc : Scope} {st : Stmt} {r : List Stmt} (hn : ∀ a b c, st ≠ .Assign a b c) (h : exBody f N [s, v] sc (st :: r) = true) : False := by
  cases st with
  | Assign a b c => exact hn a b c rfl
  | _ => cases h
theorem ex_more {f s v : Str} {N : List Str} {sc : Scope} {st st2 : Stmt} {r : List Stmt} (h : exBody f N [s, v] sc (st :: st2 :: r) = true) : False := by
  unfold exBody at h
  split at h
  · rename_i _ y
    cases y
  · cases h
theorem ex_tgs {f s v : Str} {N : List Str} {sc : Scope} {a b e : Expr} {tl : List Expr} {q : Pos} (h : exBody f N [s, v] sc [.Assign (a :: b :: tl) e q] = true) : False := by
  unfold exBody at h
  split at h
  · rename_i _ y
    cases y
  · cases h
theorem exi_ok {C a : Addr} {fd : FuncData} {ps : List Str} {f : Str} (T : ExF K C a f) (h : IsExI K f a fd ps) {n : Nat} : FnOk P w K mg base (L2.CX P w) (n + 1) a fd ps (exSp C f) := by
  obtain ⟨x, qual, params, body, scope, dvs, kws, N, hF, S, hb⟩ := h
  obtain ⟨s, v, rfl⟩ : ∃ s v, ps = [s, v] := by
    match ps, hb with
    | [s, v], _ => exact ⟨s, v, rfl⟩
    | [], hb => cases hb
    | [_], hb => cases hb
    | _ :: _ :: _ :: _, hb => cases hb
  cases body with
  | nil => cases hb
  | cons st r =>
    cases st with
    | Assign tgs e q4 =>
      match r, tgs, hb with
      | [], [tg], hb =>
        cases tg with
        | Attribute b g q2 =>
          cases b with
          | Name x0 q1 =>
            cases e with
            | Name y0 q3 =>
                  obtain ⟨hb, h9⟩ := ba hb
                  obtain ⟨hb, h8⟩ := ba hb
                  obtain ⟨hb, h7⟩ := ba hb
                  obtain ⟨hb, h6⟩ := ba hb
                  obtain ⟨hb, h5⟩ := ba hb
                  obtain ⟨hb, h4⟩ := ba hb
                  obtain ⟨hb, h3⟩ := ba hb
                  obtain ⟨h1, h2⟩ := ba hb
                  have h1 : x0 = s := eq_of_beq h1
                  have h2 : y0 = v := eq_of_beq h2
                  have h3 : g = f := eq_of_beq h3
                  have h4 := of_decide_eq_true h4
                  have h5 := of_decide_eq_true h5
                  subst h1
                  subst h2
                  subst h3
                  obtain ⟨a1, a2⟩ := okN_ok h8
                  obtain ⟨b1, b2⟩ := okN_ok h9
                  refine hF.ok S (fun vs H Q E sp => by obtain ⟨a', y, rfl, _⟩ := sp; rfl) fun cdv A outer s H vs Q E hr sp => ?_
                  obtain ⟨a', y, rfl, ea, hq⟩ := sp
                  have vs1 : ∀ {m : Str}, visB scope m = true → Vis scope m := fun {m} hv => by
                    unfold visB at hv
                    unfold Vis
                    cases e : scope.names.lookup m with
                    | none => rw [e] at hv; cases hv
                    | some q => rw [e] at hv; cases q <;> first | (cases hv; done) | simp
                  have hl : 2 ≤ N.length := by
                    have := (List.getElem?_eq_some_iff.mp h5).1
                    omega
                  have g0 : (L2.start N [V.ref a', y])[0]? = some (some (.ref a')) := rfl
                  have g1 : (L2.start N [V.ref a', y])[1]? = some (some y) := rfl
                  exact ⟨_, (pss_one (ps_first (pe_var h4 (vs1 h6) a1 a2) (pe_var h5 (vs1 h7) b1 b2))), ⟨y, g1, ⟨.ref a', g0, a', C, a, rfl, T, ea, fun dx hd hn => hq dx hd hn⟩⟩⟩
            | _ => cases hb
          | _ => cases e <;> cases hb
        | _ => cases e <;> cases hb
      | [], [], hb => cases hb
      | [], _ :: _ :: _, hb => exact (ex_tgs hb).elim
      | _ :: _, _, hb => exact (ex_more hb).elim
    | _ => exact (ex_other (fun _ _ _ z => by cases z) hb).elim
theorem facts_all (h : Hd K mg nm tb pa) : ∀ n, Facts P w K mg base nm tb pa n := by
  intro n
  induction n using Nat.strongRecOn with
  | ind n ih =>
    refine ⟨fun f x e => ?_, fun f c x e => ?_, h.cls, fun f c e => ?_, h.con, h.free, h.att, fun c x f e => ?_, h.exm⟩
    · obtain ⟨a, fd, ps, h1, h2, h3, h4⟩ := h.fn f x e
      exact ⟨a, fd, ps, h1, h2, fn_ok h.eK h3 ih, h4⟩
    · obtain ⟨p, g, fd, ps, h1, h2, h3, h4⟩ := h.prop f c x e
      exact ⟨p, g, fd, ps, h1, h2, fn_ok h.eK h3 ih, h4⟩
    · obtain ⟨g, fd, ps, h1, h2, h3, h4⟩ := h.ini f c e
      refine ⟨g, fd, ps, h1, fn_ok h.eK h2 ih, h3, h4, fun F eF => ?_⟩
      obtain ⟨x, qual, params, body, scope, dvs, kws, N, F', _, _, k1, k2, _⟩ := h2
      rw [k1] at eF
      cases eF
      exact k2
    · obtain ⟨h1, h2, fI, fd, ps, h3, h4, h5⟩ := h.exc c x f e
      exact ⟨h1, h2, fI, fd, ps, h3, fun j ej => by subst ej; exact exi_ok h3 h4, h5⟩
end
end Cl
/-! text ClT -/
set_option maxHeartbeats 1000007
/-! The head: a table of defs, classes, constants; what the run's heap says of it. -/
namespace Cl
open PySem PySem.Spec PyProof.Rows L2
inductive Pl where
  | glo | ini (c : Nat) | prop (c : Nat) | exi (c : Nat)
  deriving DecidableEq
inductive Cv where
  | int (i : Int) | str (s : Str)
def Cv.d : Cv → D
  | .int i => .int i
  | .str s => .str s
structure Df where
  id : Nat
  pl : Pl
  name : Str
  qual : Str
  params : Arguments
  body : List Stmt
  scope : Scope
  N : List Str
  ps : List Str
  kws : List (Str × Lt)
  F : Fn
/-- what stands in a class -/
def clsB (s : Stmt) : List Stmt := match s with
  | .ClassDef _ _ _ b _ _ _ _ _ _ _ => b
  | _ => []
structure Tab where
  defs : List Df
  clss : List (Nat × Str)
  cons : List (String × Cv)
  frees : List String
  atts : List Str
  turns : Nat
  excs : List (Nat × Str × Str) := []
def Tab.at (T : Tab) (f : Nat) : Option Df := T.defs.find? fun d => d.id == f
def Tab.nm (T : Tab) : Nm where
  fn := fun f => match T.at f with
    | some d => (match d.pl with
      | .glo => some d.name
      | _ => none)
    | none => none
  kws := fun f => match T.at f with
    | some d => d.kws
    | none => []
  prop := fun f => match T.at f with
    | some d => (match d.pl with
      | .prop c => some (c, d.name)
      | _ => none)
    | none => none
  cls := fun c => T.clss.lookup c
  ini := fun f => match T.at f with
    | some d => (match d.pl with
      | .ini c => some c
      | _ => none)
    | none => none
  con := fun s => (T.cons.lookup s).isSome
  free := fun s => T.frees.contains s
  att := fun f => T.atts.contains f
  exc := fun c => T.excs.lookup c
def Tab.tb (T : Tab) : Tbl where
  fn := fun f => (T.at f).map (·.F)
  con := fun s => (T.cons.lookup s).map Cv.d
  turns := T.turns
def Tab.ca (T : Tab) (K : PySem.W.Frag) (c : Nat) : Addr := match T.clss.lookup c with
  | some x => He.ga K x
  | none => (match T.excs.lookup c with
    | some q => He.ga K q.1
    | none => 0)
def Tab.pa (T : Tab) (K : PySem.W.Frag) : Pa where
  K := K
  ca := T.ca K
  cl := fun c => (T.clss.lookup c).isSome
  xf := fun c => match T.excs.lookup c with
    | some q => q.2
    | none => Str.empty
/-- the object of a property, its getter -/
def prA (K : PySem.W.Frag) (C : Addr) (f : Str) : Addr := match PySem.W.findIn K (.ref C) f with
  | some (some (.ref p)) => p
  | _ => 0
def gtA (K : PySem.W.Frag) (p : Addr) : Addr := match PySem.W.recIn K p "property" with
  | some (.ref g :: _) => g
  | _ => 0
def Tab.ad (T : Tab) (K : PySem.W.Frag) (d : Df) : Addr := match d.pl with
  | .glo => He.ga K d.name
  | .ini c => He.ma K (T.ca K c) "__init__"
  | .exi c => He.ma K (T.ca K c) "__init__"
  | .prop c => gtA K (prA K (T.ca K c) d.name)
def fnAt (K : PySem.W.Frag) (a : Addr) : He.FnW := match K.lookup a with
  | some ⟨_, _, .func fd, _⟩ => some (fd.name, fd.qualname, fd.params, fd.body, fd.scope, fd.globals, fd.closure, fd.builtins)
  | _ => none
def Df.val (d : Df) : He.FnW := some (d.name, d.qual, d.params, .stmts d.body, d.scope, mainGlobals, [], builtinsNs)
def Df.kv (d : Df) : List (Str × V) := d.kws.map fun q => (q.1, q.2.v)
def dfOk (K : PySem.W.Frag) (a : Addr) (d : Df) : Bool := PySem.W.keepIn K (.ref a) && (match K.lookup a with
  | some ⟨_, _, .func fd, _⟩ => PySem.W.codeIn K fd.code d.qual && (He.dflB K fd.defaults [] && He.kwdB K fd.kwdefaults d.kv)
  | _ => false)
theorem Df.fun_ {K : PySem.W.Frag} {a : Addr} {d : Df} (e : fnAt K a = d.val) (c : dfOk K a d = true) : ∃ fd, FunD K d.name d.qual d.params d.body d.scope [] d.kv a fd := by
  obtain ⟨kp, c⟩ := ba c
  unfold fnAt at e
  cases q : K.lookup a with
  | none => rw [q] at c; cases c
  | some o =>
    rw [q] at c e
    obtain ⟨oc, od, dt, osl⟩ := o
    cases dt with
    | func fd =>
      obtain ⟨n1, n2, n3, n4, n5, n6, n7, n8, n9, n10, n11, n12, n13, n14, n15⟩ := fd
      have c : (PySem.W.codeIn K n13 d.qual && (He.dflB K n8 [] && He.kwdB K n9 d.kv)) = true := c
      obtain ⟨c1, c⟩ := ba c
      obtain ⟨c2, c3⟩ := ba c
      have e : (some (n1, n2, n3, n4, n5, n6, n7, n15) : He.FnW) = d.val := e
      unfold Df.val at e
      injection e with e
      injection e with e1 e
      injection e with e2 e
      injection e with e3 e
      injection e with e4 e
      injection e with e5 e
      injection e with e6 e
      injection e with e7 e8
      subst e1 e2 e3 e4 e5 e6 e7 e8
      exact ⟨_, ⟨oc, od, n8, n9, n10, n11, n12, n13, n14, osl, rfl, q, c1, He.dflB_ok c2, He.kwdB_ok c3⟩, kp⟩
    | _ => cases c
/-- what is looked at -/
def Tab.ex (T : Tab) (K : PySem.W.Frag) : Bool :=
  (T.cons.all fun q => match q.2 with
    | .int i => (He.Fa.int (Str.ofString q.1) i).ok K
    | .str s => (He.Fa.str (Str.ofString q.1) s).ok K) &&
  (T.frees.all fun s => (He.Fa.free (Str.ofString s)).ok K) &&
  (T.clss.all fun q => (He.Fa.glo q.2).ok K && (He.Fa.cls q.2).ok K && T.atts.all fun f => (He.Fa.noat q.2 f).ok K) &&
  (T.defs.all fun d => (match d.pl with
    | .glo => (He.Fa.glo d.name).ok K
    | .ini c => PySem.W.makesIn K (T.ca K c) && (He.eqO (PySem.W.findIn K (.ref (T.ca K c)) "__init__") (some (some (.ref (T.ad K d)))) && (PySem.W.isFn K (.ref (T.ad K d)) && PySem.W.keepIn K (.ref (T.ca K c))))
    | .prop c => He.eqO (PySem.W.findIn K (.ref (T.ca K c)) d.name) (some (some (.ref (prA K (T.ca K c) d.name)))) && (He.eqO (PySem.W.specialIn K (.ref (prA K (T.ca K c) d.name)) "__get__") (some (some (.builtin "property.__get__"))) &&
        (decide (PySem.W.takesIn K (.ref (prA K (T.ca K c) d.name)) = some true) && (match PySem.W.recIn K (prA K (T.ca K c) d.name) "property" with
          | some (.ref g :: _) => decide (g = T.ad K d)
          | _ => false)))
    | .exi c => (match T.excs.lookup c with
      | some q => (He.Fa.glo q.1).ok K && exFB K (T.ca K c) (T.ad K d) q.2
      | none => false)) && dfOk K (T.ad K d) d) &&
  (T.excs.all fun p => T.excs.all fun q => decide (PySem.W.exmOne K (.ref (T.ca K p.1)) (.ref (T.ca K q.1)) = some (p.1 == q.1)))
def Tab.obs (T : Tab) (K : PySem.W.Frag) : He.AlD := (T.ex K, T.defs.map fun d => fnAt K (T.ad K d))
def Tab.val (T : Tab) : He.AlD := (true, T.defs.map Df.val)
def Tab.obsG (T : Tab) (n : Nat) (g : Addr → Option Obj) : He.AlD := T.obs (He.frG g (He.asD g n))
def Tab.hook (T : Tab) (n : Nat) : PySem.W.Hook where
  α := He.AlD
  obs := fun s => T.obsG n s.heap.get?
  val := fun _ => T.val
  says := fun _ h => ∃ K : PySem.W.Frag, K.In h ∧ T.obs K = T.val
  of := fun _ _ e => ⟨_, He.frG_in, e⟩
  keeps := fun _ _ _ ⟨K, hK, c⟩ k => ⟨K, PySem.W.Frag.In.keeps hK k, c⟩
theorem Tab.obs_eq (T : Tab) {n : Nat} {g : Addr → Option Obj} {s : Shared} (h : ∀ a, g a = s.heap.get? a) : T.obsG n g = (T.hook n).obs s := by
  rw [show g = s.heap.get? from funext h]
  rfl
/-- the codes against the text -/
def scB (N ps : List Str) (sc : Scope) : Bool := isFunK sc.kind && !sc.isCoroutine && !sc.isGenerator && decide N.Nodup && decide (N.take ps.length = ps) &&
  (ps.all fun x => match sc.names.lookup x with
    | some .local => true
    | some .cell => true
    | _ => false) && (sc.names.all fun y => match y.2 with
    | .free => false
    | _ => true)
theorem scB_ok {N ps : List Str} {sc : Scope} (h : scB N ps sc = true) : FnScope N ps sc := by
  obtain ⟨h, h7⟩ := ba h
  obtain ⟨h, h6⟩ := ba h
  obtain ⟨h, h5⟩ := ba h
  obtain ⟨h, h4⟩ := ba h
  obtain ⟨h, h3⟩ := ba h
  obtain ⟨h1, h2⟩ := ba h
  refine ⟨?_, nb h2, nb h3, of_decide_eq_true h4, of_decide_eq_true h5, fun x hx => ?_, fun y hy e => ?_⟩
  · cases e : sc.kind <;> rw [e] at h1 <;> first | rfl | cases h1
  · have q := List.all_eq_true.mp h6 x hx
    cases e : sc.names.lookup x with
    | none => rw [e] at q; cases q
    | some k =>
      rw [e] at q
      cases k <;> first | exact .inl rfl | exact .inr rfl | cases q
  · have q := List.all_eq_true.mp h7 y hy
    rw [e] at q
    cases q
def Tab.chkD (T : Tab) : Bool := T.defs.all fun d => scB d.N d.ps d.scope && decide (d.F.np = d.ps.length) && decide (d.F.nn = d.N.length) && decide (d.kws.length + 1 ≤ d.ps.length ∨ d.kws = []) && (match d.pl with
    | .exi _ => true
    | _ => mtSs T.nm (ctOf d.N d.scope) d.F.body d.body) &&
  (match d.pl with
  | .ini c => (T.clss.lookup c).isSome && decide (d.kws.length + 1 ≤ d.ps.length)
  | .prop c => (T.clss.lookup c).isSome && d.kws.isEmpty
  | .exi c => d.kws.isEmpty && (match T.excs.lookup c with
    | some q => exBody q.2 d.N d.ps d.scope d.body
    | none => false)
  | .glo => true)
def Tab.chk (T : Tab) : Bool := T.chkD && T.excs.all fun p => (T.clss.lookup p.1).isNone && T.defs.any fun d => decide (d.pl = .exi p.1)
def BndOk (d : Df) : Prop := ∀ (K : PySem.W.Frag) (a : Addr) (fd : FuncData), FunD K d.name d.qual d.params d.body d.scope [] d.kv a fd → Bnd K fd d.ps d.kws
theorem Tab.at_mem {T : Tab} {f : Nat} {d : Df} (h : T.at f = some d) : d ∈ T.defs := List.mem_of_find?_eq_some h
theorem lookup_mem {α β : Type} [BEq α] [LawfulBEq α] {l : List (α × β)} {a : α} {b : β} (h : l.lookup a = some b) : (a, b) ∈ l := by
  induction l with
  | nil => cases h
  | cons p l ih =>
    obtain ⟨x, y⟩ := p
    rw [List.lookup_cons] at h
    cases e : a == x with
    | true =>
      rw [e] at h
      cases h
      rw [eq_of_beq e]
      exact List.mem_cons_self
    | false =>
      rw [e] at h
      exact List.mem_cons_of_mem _ (ih h)
section
variable {K : PySem.W.Frag} {h : Heap} {mg : Str → Option Value} {T : Tab}
theorem Tab.isDef (hs : T.obs K = T.val) (hc : T.chk = true) {f : Nat} {d : Df} (e : T.at f = some d) (hpl : ∀ c, d.pl ≠ .exi c) : ∃ fd, FunD K d.name d.qual d.params d.body d.scope [] d.kv (T.ad K d) fd ∧ IsDef K T.nm T.tb f (T.ad K d) fd d.ps := by
  have hm := Tab.at_mem e
  have hx : T.ex K = true := congrArg (fun z : He.AlD => z.1) hs
  have hv : T.defs.map (fun d => fnAt K (T.ad K d)) = T.defs.map Df.val := congrArg (fun z : He.AlD => z.2) hs
  have hv1 : fnAt K (T.ad K d) = d.val := List.map_inj_left.mp hv d hm
  have ho := (ba (List.all_eq_true.mp (ba (ba hx).1).2 d hm)).2
  obtain ⟨fd, F⟩ := Df.fun_ hv1 ho
  have q := List.all_eq_true.mp (ba hc).1 d hm
  obtain ⟨q, q6⟩ := ba q
  obtain ⟨q, q5⟩ := ba q
  have q5 : mtSs T.nm (ctOf d.N d.scope) d.F.body d.body = true := by
    cases ep : d.pl with
    | exi c => exact absurd ep (hpl c)
    | _ => rw [ep] at q5; exact q5
  obtain ⟨q, q4⟩ := ba q
  obtain ⟨q, q3⟩ := ba q
  obtain ⟨q1, q2⟩ := ba q
  refine ⟨fd, F, d.name, d.qual, d.params, d.body, d.scope, [], d.kv, d.N, d.F, F, scB_ok q1, ?_, of_decide_eq_true q2, of_decide_eq_true q3, q5⟩
  show (T.at f).map (·.F) = some d.F
  rw [e]
  rfl
theorem Tab.head (X : K.In h) (G : h.Ns mainGlobals mg) (hs : T.obs K = T.val) (hc : T.chk = true) (hb : ∀ d ∈ T.defs, BndOk d) : Hd K mg T.nm T.tb (T.pa K) := by
  have hx : T.ex K = true := congrArg (fun z : He.AlD => z.1) hs
  obtain ⟨x1, x5⟩ := ba hx
  obtain ⟨x1, x4⟩ := ba x1
  obtain ⟨x1, x3⟩ := ba x1
  obtain ⟨x1, x2⟩ := ba x1
  have clsF : ∀ {c : Nat} {x : Str}, T.clss.lookup c = some x → mg x = some (.ref (T.ca K c)) ∧ Cls K (T.ca K c) ∧ ∀ f, T.atts.contains f = true → NoAttr K (T.ca K c) f := fun {c x} e => by
    have q := List.all_eq_true.mp x3 (c, x) (lookup_mem e)
    obtain ⟨q, q3⟩ := ba q
    obtain ⟨q1, q2⟩ := ba q
    have ec : T.ca K c = He.ga K x := by
      unfold Tab.ca
      rw [e]
    rw [ec]
    exact ⟨He.glo_ok X G q1, He.cls_ok q2, fun f hf => He.noat_ok (List.all_eq_true.mp q3 f (List.contains_iff_mem.mp hf))⟩
  refine ⟨rfl, fun f x e => ?_, fun f c x e => ?_, fun c x e => ?_, fun f c e => ?_, fun s d e e2 => ?_, fun s e => ?_, fun f c e1 e2 => ?_, fun c x f e => ?_, fun c c' q q' e1 e2 => ?_⟩
  · have e : (match T.at f with
      | some d => (match d.pl with
        | .glo => some d.name
        | _ => none)
      | none => none) = some x := e
    cases ed : T.at f with
    | none => rw [ed] at e; cases e
    | some d =>
      rw [ed] at e
      simp only at e
      obtain ⟨fd, F, I⟩ := Tab.isDef hs hc ed (fun c z => by rw [z] at e; cases e)
      have hm := Tab.at_mem ed
      have q := (ba (List.all_eq_true.mp x4 d hm)).1
      cases ep : d.pl with
      | glo =>
        rw [ep] at e q
        have e : d.name = x := Option.some.inj e
        have ea : T.ad K d = He.ga K d.name := by
          unfold Tab.ad
          rw [ep]
        refine ⟨T.ad K d, fd, d.ps, ?_, F.kp, I, ?_⟩
        · rw [← e, ea]
          exact He.glo_ok X G q
        · have ek : T.nm.kws f = d.kws := by
            show (match T.at f with
              | some d => d.kws
              | none => []) = d.kws
            rw [ed]
          rw [ek]
          exact hb d hm K _ fd F
      | ini c => rw [ep] at e; cases e
      | prop c => rw [ep] at e; cases e
      | exi c => rw [ep] at e; cases e
  · have e : (match T.at f with
      | some d => (match d.pl with
        | .prop c => some (c, d.name)
        | _ => none)
      | none => none) = some (c, x) := e
    cases ed : T.at f with
    | none => rw [ed] at e; cases e
    | some d =>
      rw [ed] at e
      simp only at e
      obtain ⟨fd, F, I⟩ := Tab.isDef hs hc ed (fun c z => by rw [z] at e; cases e)
      have hm := Tab.at_mem ed
      have q := (ba (List.all_eq_true.mp x4 d hm)).1
      have q2 := (ba (List.all_eq_true.mp (ba hc).1 d hm)).2
      cases ep : d.pl with
      | glo => rw [ep] at e; cases e
      | ini c => rw [ep] at e; cases e
      | exi c => rw [ep] at e; cases e
      | prop c' =>
        rw [ep] at e q q2
        have e : (c', d.name) = (c, x) := Option.some.inj e
        cases e
        obtain ⟨q1, q⟩ := ba q
        obtain ⟨q3, q⟩ := ba q
        obtain ⟨q4, q5⟩ := ba q
        obtain ⟨q6, q7⟩ := ba q2
        obtain ⟨cn, ec⟩ := Option.isSome_iff_exists.mp q6
        have hk : d.kws = [] := List.isEmpty_iff.mp q7
        refine ⟨prA K (T.ca K c) d.name, T.ad K d, fd, d.ps, ⟨He.eqO_ok q1, He.eqO_ok q3, of_decide_eq_true q4, ?_⟩, (clsF ec).2.1, I, ?_⟩
        · have q5 : (match PySem.W.recIn K (prA K (T.ca K c) d.name) "property" with
            | some (.ref g :: _) => decide (g = T.ad K d)
            | _ => false) = true := q5
          split at q5
          · rename_i g rest er
            rw [of_decide_eq_true q5] at er
            exact ⟨rest, er⟩
          · cases q5
        · obtain ⟨ds, hv, hbd⟩ := (hb d hm K _ fd F).dfl
          rw [hk] at hv
          cases hv
          exact hbd
  · obtain ⟨c1, c2, _⟩ := clsF (x := x) e
    exact ⟨c1, by show (T.clss.lookup c).isSome = true; rw [show T.clss.lookup c = some x from e]; rfl, c2⟩
  · have e : (match T.at f with
      | some d => (match d.pl with
        | .ini c => some c
        | _ => none)
      | none => none) = some c := e
    cases ed : T.at f with
    | none => rw [ed] at e; cases e
    | some d =>
      rw [ed] at e
      simp only at e
      obtain ⟨fd, F, I⟩ := Tab.isDef hs hc ed (fun c z => by rw [z] at e; cases e)
      have hm := Tab.at_mem ed
      have q := (ba (List.all_eq_true.mp x4 d hm)).1
      have q2 := (ba (List.all_eq_true.mp (ba hc).1 d hm)).2
      cases ep : d.pl with
      | glo => rw [ep] at e; cases e
      | prop c => rw [ep] at e; cases e
      | exi c => rw [ep] at e; cases e
      | ini c' =>
        rw [ep] at e q q2
        have e : c' = c := Option.some.inj e
        subst e
        obtain ⟨q1, q⟩ := ba q
        obtain ⟨q3, q⟩ := ba q
        obtain ⟨q4, q5⟩ := ba q
        obtain ⟨q6, q7⟩ := ba q2
        have ek : T.nm.kws f = d.kws := by
          show (match T.at f with
            | some d => d.kws
            | none => []) = d.kws
          rw [ed]
        rw [ek]
        exact ⟨T.ad K d, fd, d.ps, ⟨q1, He.eqO_ok q3, q4, q5⟩, I, hb d hm K _ fd F, of_decide_eq_true q7⟩
  · have e2 : (T.cons.lookup s).map Cv.d = some d := e2
    cases ec : T.cons.lookup s with
    | none => rw [ec] at e2; cases e2
    | some v =>
      rw [ec] at e2
      have e2 : v.d = d := Option.some.inj e2
      subst e2
      have q := List.all_eq_true.mp x1 (s, v) (lookup_mem ec)
      cases v with
      | int i =>
        obtain ⟨t, ht⟩ := He.int_ok X G q
        exact ⟨_, .int i, ht, ⟨t, rfl⟩, fun W _ => rfl⟩
      | str z =>
        obtain ⟨t, ht⟩ := He.str_ok X G q
        exact ⟨_, .str z, ht, ⟨t, rfl⟩, fun W _ => rfl⟩
  · exact He.free_ok X G (List.all_eq_true.mp x2 s (List.contains_iff_mem.mp e))
  · obtain ⟨x, ec⟩ := Option.isSome_iff_exists.mp e2
    obtain ⟨_, c2, c3⟩ := clsF ec
    exact ⟨c2, c3 f e1⟩
  · have e : T.excs.lookup c = some (x, f) := e
    have hmem := lookup_mem e
    · have hall := (ba hc).2
      obtain ⟨y1, y2⟩ := ba (List.all_eq_true.mp hall (c, (x, f)) hmem)
      obtain ⟨d, hd, hpl⟩ := List.any_eq_true.mp y2
      have hpl : d.pl = .exi c := of_decide_eq_true hpl
      have hcl : T.clss.lookup c = none := Option.isNone_iff_eq_none.mp y1
      obtain ⟨z1, ho⟩ := ba (List.all_eq_true.mp x4 d hd)
      rw [hpl] at z1
      have z1 : (match T.excs.lookup c with
        | some q => (He.Fa.glo q.1).ok K && exFB K (T.ca K c) (T.ad K d) q.2
        | none => false) = true := z1
      rw [e] at z1
      obtain ⟨z1, z2⟩ := ba z1
      have hca : T.ca K c = He.ga K x := by
        unfold Tab.ca
        rw [hcl, e]
      have hv : T.defs.map (fun d => fnAt K (T.ad K d)) = T.defs.map Df.val := congrArg (fun z : He.AlD => z.2) hs
      have hv1 : fnAt K (T.ad K d) = d.val := List.map_inj_left.mp hv d hd
      obtain ⟨fd, F⟩ := Df.fun_ hv1 ho
      have w0 := List.all_eq_true.mp (ba hc).1 d hd
      obtain ⟨w0, w6⟩ := ba w0
      obtain ⟨w0, w5⟩ := ba w0
      obtain ⟨w0, w4⟩ := ba w0
      obtain ⟨w0, w3⟩ := ba w0
      obtain ⟨w1, w2⟩ := ba w0
      rw [hpl] at w6
      obtain ⟨v1, v2⟩ := ba w6
      have v2 : (match T.excs.lookup c with
        | some q => exBody q.2 d.N d.ps d.scope d.body
        | none => false) = true := v2
      rw [e] at v2
      have hk : d.kws = [] := List.isEmpty_iff.mp v1
      refine ⟨?_, ?_, T.ad K d, fd, d.ps, exFB_ok z2, ⟨d.name, d.qual, d.params, d.body, d.scope, [], d.kv, d.N, F, scB_ok w1, v2⟩, ?_⟩
      · show mg x = some (.ref (T.ca K c))
        rw [hca]
        exact He.glo_ok X G z1
      · show (match T.excs.lookup c with
          | some q => q.2
          | none => Str.empty) = f
        rw [e]
      · obtain ⟨ds, hv, hbd⟩ := (hb d hd K _ fd F).dfl
        rw [hk] at hv
        cases hv
        exact hbd
  · have m1 := lookup_mem (show T.excs.lookup c = some q from e1)
    have m2 := lookup_mem (show T.excs.lookup c' = some q' from e2)
    exact of_decide_eq_true (List.all_eq_true.mp (List.all_eq_true.mp x5 (c, q) m1) (c', q') m2)
end
end Cl
/-! text ClU -/
set_option maxHeartbeats 1000007
/-! A law's end. -/
namespace Cl
open PySem PySem.Spec PyProof.Rows L2
theorem law_sp {K : PySem.W.Frag} {T : Tab} {L i : Nat} {H : Hp} {a : Addr} {ns : List Int} (hS : SqL K H a (ns.map V.int)) (hl : ∃ h', callI T.tb L i [.scr (ns.map D.int)] [] = .ok (.bl true) h') : SpI T.tb (T.pa K) L i [.ref a] H (fun v _ => v = .bl true) fun _ _ _ => False := by
  obtain ⟨h', hl⟩ := hl
  have no : ∀ b, ¬ ow (⟨T.pa K, [], H, [], []⟩ : Wd) b := fun b hb => by
    rcases hb with hb | ⟨n, hb⟩
    · cases hb
    · cases hb
  have s : Sm (⟨T.pa K, [], H, [], []⟩ : Wd) := ⟨rfl, (fun i j a h => by cases h), (fun n a h => by cases h), (fun n h => by cases h), (fun a h => by cases h)⟩
  refine call_sp (W := ⟨T.pa K, [], H, [], []⟩) rfl s (ds := [.scr (ns.map D.int)]) ?_ ?_
  · refine ⟨.ref a, [], rfl, ⟨a, ns.map V.int, rfl, ?_, RepA.ints⟩, rfl⟩
    rcases hS with h | h
    · exact .inl ⟨h, no a⟩
    · exact .inr (.inr h)
  · show PostR _ _ (callI T.tb L i [.scr (ns.map D.int)] []) _
    rw [hl]
    exact fun W' g s' e v r _ => r
/-- of any world -/
def CXa (P : Program) : CXT := fun o H s E u s' => ∃ w, L2.CX P w o H s E u s'
theorem fn_wk {P : Program} {w : World} {K : PySem.W.Frag} {mg : Str → Option Value} {base : Heap} {C1 C2 : CXT} {k : Nat} {f : Addr} {fd : FuncData} {ps : List Str} {sp : Sp} (F : FnOk P w K mg base C1 k f fd ps sp) (h : ∀ o H s E u s', C1 o H s E u s' → C2 o H s E u s') : FnOk P w K mg base C2 k f fd ps sp :=
  ⟨F.len, fun A outer s H args us vs Q E hr he hb hv hs => codeAny_mono (F.run A outer s H args us vs Q E hr he hb hv hs) fun r s' hq => by
    cases r with
    | error e => exact h _ _ _ _ _ _ hq
    | ok fl => cases fl <;> exact hq⟩
theorem law_walk {T : Tab} {L i n : Nat} {dl : Df} {x : Str} {l : PySem.W.OpenLaw} (hat : T.at i = some dl) (hpl : dl.pl = .glo) (hps : dl.ps = [x]) (hkw : dl.kws = []) (hc : T.chk = true) (hb : ∀ d ∈ T.defs, BndOk d)
    (hbind : ∀ (kV doc pm : Value) (an : Option Addr) (cdv ct : Value) (us : List Value), us.length = dl.ps.length → bindArgs (PySem.W.fnOf dl.name dl.qual dl.params dl.body dl.scope .none kV doc pm an cdv ct) ⟨us, []⟩ = pure (dl.ps.zip us))
    (hlaw : ∀ ns : List Int, ns.length ≤ 63 → ∃ h', callI T.tb L i [.scr (ns.map D.int)] [] = .ok (.bl true) h') :
    ∀ (w : World) (mg : Str → Option Value) (fa : Addr) (h : Heap), (T.hook n).says w h → h.Ns mainGlobals mg → mg dl.name = some (.ref fa) →
      ∃ (K : PySem.W.Frag) (fd : FuncData) (sp : Sp), K.In h ∧ (∀ (s : Shared) (u : Value), BindsTo s fd ⟨[u], []⟩ [(x, u)]) ∧
        (∀ (H : Hp) (a : Addr) (ns : List Int), ns.length ≤ 63 → Only H → SqL K H a (ns.map V.int) → sp [.ref a] H (fun v _ => v = .bl true) fun _ _ _ => False) ∧
        ∀ base : Heap, K.In base → base.Ns mainGlobals mg → FnOk l.prog w K mg base (CXa l.prog) L fa fd [x] sp := by
  intro w mg fa h hs G hmg
  obtain ⟨K, KX, hs⟩ := hs
  have hd := Tab.head KX G hs hc hb
  obtain ⟨fd, F, I⟩ := Tab.isDef hs hc hat (fun c z => by rw [hpl] at z; cases z)
  have hx : T.ex K = true := congrArg (fun z : He.AlD => z.1) hs
  have q := (ba (List.all_eq_true.mp (ba (ba hx).1).2 dl (Tab.at_mem hat))).1
  rw [hpl] at q
  have ea : T.ad K dl = fa := by
    have e1 : T.ad K dl = He.ga K dl.name := by
      unfold Tab.ad
      rw [hpl]
    have e2 := He.glo_ok KX G q
    rw [hmg] at e2
    cases e2
    exact e1
  subst ea
  rw [hps] at I
  refine ⟨K, fd, SpI T.tb (T.pa K) L i, KX, fun s u => ?_, fun H a ns hn _ hS => law_sp hS (hlaw ns hn), fun base _ _ => fn_wk (fn_ok (pa := T.pa K) rfl I fun j _ => facts_all hd j) fun _ _ _ _ _ _ h => ⟨w, h⟩⟩
  have hk : dl.kv = [] := by
    unfold Df.kv
    rw [hkw]
    rfl
  have b := FunD.bindsA (ps := dl.ps) F hbind s [u] (by rw [hps]; rfl)
  rw [hps] at b
  exact b
theorem cx_false {P : Program} (H : Hp) (s : Shared) (e : Value) (s' : Shared) : CXa P [] H s (fun _ _ _ => False) e s' → False := fun ⟨w, h⟩ => by
  obtain ⟨a, B, H', cls, d, _, _, _, _, _, _, _, z⟩ := h
  exact z
end Cl
/-! text ClV -/
set_option maxHeartbeats 1000007
/-! Plain proofs over the clean language: what an evaluation ends in. -/
namespace Cl
open PySem
@[irreducible] def Wp {α : Type} (r : R α) (P : α → Sto → Prop) : Prop := match r with
  | .ok a h => P a h
  | _ => False
section
variable {α β : Type} {P : α → Sto → Prop} {G : Glv} {ρ : Env} {h : Sto}
theorem wp_ok {a : α} : Wp (.ok a h) P = P a h := by
  unfold Wp
  rfl
theorem wp_bad : Wp (.bad : R α) P = False := by
  unfold Wp
  rfl
theorem wp_exn {c : Nat} {d : D} : Wp (.exn c d h : R α) P = False := by
  unfold Wp
  rfl
theorem Wp.imp {r : R α} {Q : α → Sto → Prop} (w : Wp r P) (k : ∀ a h, P a h → Q a h) : Wp r Q := by
  cases r with
  | ok a h =>
    rw [wp_ok] at w ⊢
    exact k a h w
  | exn c d h => rw [wp_exn] at w; exact w.elim
  | bad => rw [wp_bad] at w; exact w.elim
theorem Wp.ex {r : R α} (w : Wp r P) : ∃ a h, r = .ok a h ∧ P a h := by
  cases r with
  | ok a h =>
    rw [wp_ok] at w
    exact ⟨a, h, rfl, w⟩
  | exn c d h => rw [wp_exn] at w; exact w.elim
  | bad => rw [wp_bad] at w; exact w.elim
theorem wp_bind {r : R β} {f : β → Sto → R α} : Wp (r.bind f) P = Wp r fun a h => Wp (f a h) P := by
  cases r with
  | ok a h => rw [wp_ok]; rfl
  | exn c d h => rw [wp_exn]; exact wp_exn
  | bad => rw [wp_bad]; exact wp_bad
theorem wp_opt {a : α} : Wp (opt (some a) h) P = P a h := wp_ok
theorem wp_optN : Wp (opt (none : Option α) h) P = False := wp_bad
theorem wp_if {b : Bool} {r : R α} : Wp (ifR b r) P = (b = true ∧ Wp r P) := by
  cases b with
  | true => simp [ifR]
  | false => simp [ifR, wp_bad]
end
section
variable {G : Glv} {ρ : Env} {h : Sto} {P : D → Sto → Prop}
theorem w_var {i : Nat} : Wp (evE G (.var i) ρ h) P = Wp (opt (ρ.getD i none) h) P := rfl
theorem w_lit {d : D} : Wp (evE G (.lit d) ρ h) P = P d h := wp_ok
theorem w_glo {x : String} : Wp (evE G (.glo x) ρ h) P = Wp (opt (G.con x) h) P := rfl
theorem w_bin {o : BOp} {a b : E} : Wp (evE G (.bin o a b) ρ h) P = Wp (evE G a ρ h) fun x h1 => Wp (evE G b ρ h1) fun y h2 => Wp (binD o x y h2) P := by
  show Wp ((evE G a ρ h).bind fun x h1 => (evE G b ρ h1).bind fun y h2 => binD o x y h2) P = _
  simp only [wp_bind]
theorem w_neg {a : E} : Wp (evE G (.neg a) ρ h) P = Wp (evE G a ρ h) fun x h1 => Wp (match x with
    | .int i => .ok (.int (-i)) h1
    | _ => .bad) P := wp_bind
theorem w_cmp {o : COp} {a b : E} : Wp (evE G (.cmp o a b) ρ h) P = Wp (evE G a ρ h) fun x h1 => Wp (evE G b ρ h1) fun y h2 => Wp (cmpD o x y h2) P := by
  show Wp ((evE G a ρ h).bind fun x h1 => (evE G b ρ h1).bind fun y h2 => cmpD o x y h2) P = _
  simp only [wp_bind]
theorem w_chain {o1 o2 : COp} {a b c : E} : Wp (evE G (.chain o1 o2 a b c) ρ h) P = Wp (evE G a ρ h) fun x h1 => Wp (evE G b ρ h1) fun y h2 => Wp (cmpD o1 x y h2) fun k h3 => Wp (match k with
    | .bl true => (evE G c ρ h3).bind fun z h4 => cmpD o2 y z h4
    | .bl false => .ok (.bl false) h3
    | _ => .bad) P := by
  show Wp ((evE G a ρ h).bind fun x h1 => (evE G b ρ h1).bind fun y h2 => (cmpD o1 x y h2).bind fun k h3 => match k with
    | .bl true => (evE G c ρ h3).bind fun z h4 => cmpD o2 y z h4
    | .bl false => .ok (.bl false) h3
    | _ => .bad) P = _
  simp only [wp_bind]
theorem w_isN {a : E} : Wp (evE G (.isN a) ρ h) P = Wp (evE G a ρ h) fun x h1 => Wp (match x with
    | .non => .ok (.bl true) h1
    | .ref n => (match getC h1 n with
      | .dead => .bad
      | _ => .ok (.bl false) h1)
    | _ => .ok (.bl false) h1) P := wp_bind
theorem w_notN {a : E} : Wp (evE G (.notN a) ρ h) P = Wp (evE G a ρ h) fun x h1 => Wp (match x with
    | .non => .ok (.bl false) h1
    | .ref n => (match getC h1 n with
      | .dead => .bad
      | _ => .ok (.bl true) h1)
    | _ => .ok (.bl true) h1) P := wp_bind
theorem w_not {a : E} : Wp (evE G (.not a) ρ h) P = Wp (evE G a ρ h) fun x h1 => Wp (match x with
    | .bl b => .ok (.bl (!b)) h1
    | _ => .bad) P := wp_bind
theorem w_and {es : List E} : Wp (evE G (.and es) ρ h) P = Wp (evAnd G es ρ h) P := rfl
theorem w_or {es : List E} : Wp (evE G (.or es) ρ h) P = Wp (evOr G es ρ h) P := rfl
theorem w_and1 {e : E} : Wp (evAnd G [e] ρ h) P = Wp (evE G e ρ h) P := rfl
theorem w_and2 {e e2 : E} {es : List E} : Wp (evAnd G (e :: e2 :: es) ρ h) P = Wp (evE G e ρ h) fun d h1 => Wp (match d with
    | .bl true => evAnd G (e2 :: es) ρ h1
    | .bl false => .ok (.bl false) h1
    | _ => .bad) P := wp_bind
theorem w_or1 {e : E} : Wp (evOr G [e] ρ h) P = Wp (evE G e ρ h) P := rfl
theorem w_or2 {e e2 : E} {es : List E} : Wp (evOr G (e :: e2 :: es) ρ h) P = Wp (evE G e ρ h) fun d h1 => Wp (match d with
    | .bl false => evOr G (e2 :: es) ρ h1
    | .bl true => .ok (.bl true) h1
    | _ => .bad) P := wp_bind
theorem wp_tst {r : R D} {P : Bool → Sto → Prop} : Wp (tst r) P = Wp r fun d h1 => Wp (opt (truD h1 d) h1) P := wp_bind
theorem w_ite {t a b : E} : Wp (evE G (.ite t a b) ρ h) P = Wp (tst (evE G t ρ h)) fun k h1 => Wp (match k with
    | true => evE G a ρ h1
    | false => evE G b ρ h1) P := wp_bind
theorem w_tup {es : List E} : Wp (evE G (.tup es) ρ h) P = Wp (evEs G es ρ h) fun ds h1 => Wp (ifR (lim ds.length) (.ok (.tup ds) h1)) P := wp_bind
theorem w_lst {es : List E} : Wp (evE G (.lst es) ρ h) P = Wp (evEs G es ρ h) fun ds h1 => Wp (ifR (lim ds.length) (.ok (.lst ds) h1)) P := wp_bind
theorem w_ix {a i : E} : Wp (evE G (.ix a i) ρ h) P = Wp (evE G a ρ h) fun x h1 => Wp (evE G i ρ h1) fun y h2 => Wp (ixD x y h2) P := by
  show Wp ((evE G a ρ h).bind fun x h1 => (evE G i ρ h1).bind fun y h2 => ixD x y h2) P = _
  simp only [wp_bind]
theorem w_slc {a : E} {lo hi : Option E} : Wp (evE G (.slc a lo hi) ρ h) P = Wp (evE G a ρ h) fun x h1 => Wp (evO G lo ρ h1) fun l h2 => Wp (evO G hi ρ h2) fun u h3 => Wp (match x with
    | .tup xs => .ok (.tup (cutD xs l u)) h3
    | .scr xs => .ok (.lst (cutD xs l u)) h3
    | x => (match lstOf h3 x with
      | some xs => .ok (.lst (cutD xs l u)) h3
      | none => .bad)) P := by
  show Wp ((evE G a ρ h).bind fun x h1 => (evO G lo ρ h1).bind fun l h2 => (evO G hi ρ h2).bind fun u h3 => match x with
    | .tup xs => .ok (.tup (cutD xs l u)) h3
    | .scr xs => .ok (.lst (cutD xs l u)) h3
    | x => (match lstOf h3 x with
      | some xs => .ok (.lst (cutD xs l u)) h3
      | none => .bad)) P = _
  simp only [wp_bind]
theorem w_oN {P : Option Int → Sto → Prop} : Wp (evO G none ρ h) P = P none h := wp_ok
theorem w_oS {e : E} {P : Option Int → Sto → Prop} : Wp (evO G (some e) ρ h) P = Wp (evE G e ρ h) fun d h1 => Wp (match d with
    | .int i => .ok (some i) h1
    | _ => .bad) P := wp_bind
theorem w_fld {a : E} {f : Str} : Wp (evE G (.fld a f) ρ h) P = Wp (evE G a ρ h) fun x h1 => Wp (match fldsOf h1 x with
    | some fs => opt (fs.lookup f) h1
    | none => .bad) P := wp_bind
theorem wp_shut {α : Type} {r : R α} {P : α → Sto → Prop} : Wp r.shut P = Wp r P := by
  cases r with
  | ok a h => rfl
  | exn c d h => rw [wp_exn]; exact wp_bad
  | bad => rfl
theorem w_prop {c f : Nat} {a : E} : Wp (evE G (.prop c f a) ρ h) P = Wp (evE G a ρ h) fun x h1 => Wp (match clsOf h1 x with
    | some d => ifR (d == c) (G.call1 f [x] h1).shut
    | none => .bad) P := wp_bind
theorem w_call {f : Nat} {es : List E} {ds : List D} : Wp (evE G (.call f es ds) ρ h) P = Wp (evEs G es ρ h) fun vs h1 => Wp (G.call f (vs ++ ds) h1) P := wp_bind
theorem w_callK {f : Nat} {es ks : List E} : Wp (evE G (.callK f es ks) ρ h) P = Wp (evEs G es ρ h) fun vs h1 => Wp (evEs G ks ρ h1) fun us h2 => Wp (G.call f (vs ++ us) h2) P := by
  show Wp ((evEs G es ρ h).bind fun vs h1 => (evEs G ks ρ h1).bind fun us h2 => G.call f (vs ++ us) h2) P = _
  simp only [wp_bind]
theorem w_mk {c f : Nat} {es : List E} {ds : List D} : Wp (evE G (.mk c f es ds) ρ h) P = (G.deep = true ∧ Wp (evEs G es ρ h) fun vs h1 => Wp (mkR (G.call1 f) c (vs ++ ds) h1) P) := by
  show Wp (ifR G.deep ((evEs G es ρ h).bind fun vs h1 => mkR (G.call1 f) c (vs ++ ds) h1)) P = _
  rw [wp_if, wp_bind]
theorem w_mkK {c f : Nat} {es ks : List E} : Wp (evE G (.mkK c f es ks) ρ h) P = (G.deep = true ∧ Wp (evEs G es ρ h) fun vs h1 => Wp (evEs G ks ρ h1) fun us h2 => Wp (mkR (G.call1 f) c (vs ++ us) h2) P) := by
  show Wp (ifR G.deep ((evEs G es ρ h).bind fun vs h1 => (evEs G ks ρ h1).bind fun us h2 => mkR (G.call1 f) c (vs ++ us) h2)) P = _
  rw [wp_if]
  simp only [wp_bind]
theorem w_mkR {f : List D → Sto → R D} {c : Nat} {ds : List D} : Wp (mkR f c ds h) P = Wp (f (.ref h.length :: ds) (h ++ [.ins c []])) fun v h2 => Wp (match v with
    | .non => .ok (.ref h.length) h2
    | _ => .bad) P := wp_bind
theorem w_bi {b : BI} {es : List E} : Wp (evE G (.bi b es) ρ h) P = Wp (evEs G es ρ h) fun ds h1 => Wp (biD b ds h1) P := wp_bind
theorem w_bm {m : BM} {o : E} {es : List E} : Wp (evE G (.bm m o es) ρ h) P = Wp (evE G o ρ h) fun x h1 => Wp (match lstOf h1 x with
    | none => .bad
    | some _ => (evEs G es ρ h1).bind fun ds h2 => bmD m x ds h2) P := wp_bind
theorem w_isi {a : E} {ts : List Ty} : Wp (evE G (.isi a ts) ρ h) P = Wp (evE G a ρ h) fun x h1 => Wp (match isTys h1 x ts with
    | some b => .ok (.bl b) h1
    | none => .bad) P := wp_bind
theorem w_rngT {t : Bool} {es : List E} : Wp (evE G (.rngT t es) ρ h) P = Wp (evEs G es ρ h) fun ds h1 => Wp (match rngD ds with
    | some (lo, n) => ifR (lim n) (.ok (sqV t (rngL lo n)) h1)
    | none => .bad) P := wp_bind
theorem w_comp {tg : T} {it : I} {cond : Option E} {elt : E} {vs : List Nat} : Wp (evE G (.comp tg it cond elt vs) ρ h) P = Wp (evI G it ρ h) fun p h1 => Wp (compL (compF G tg cond elt vs ρ) p.1 [] (lockN h1 p.2)) fun ys h5 => P (.lst ys) (freeN h5 p.2) := by
  rw [evE_comp, wp_bind]
  congr 1
  funext p h1
  rw [wp_bind]
  cases compL (compF G tg cond elt vs ρ) p.1 [] (lockN h1 p.2) with
  | ok a h => rw [wp_ok]; exact (wp_ok.trans wp_ok)
  | exn c d h => rw [wp_exn]; exact wp_bad
  | bad => rw [wp_bad]; exact wp_bad
theorem w_new {e : E} : Wp (evE G (.new e) ρ h) P = Wp (evE G e ρ h) fun d h => Wp (match d with
    | .lst xs => .ok (.ref h.length) (h ++ [.lst xs])
    | _ => .bad) P := wp_bind
theorem w_frz {e : E} : Wp (evE G (.frz e) ρ h) P = Wp (evE G e ρ h) fun d h => Wp (match d with
    | .ref n => (match getC h n with
      | .lst xs => .ok (.lst xs) (h.set n .dead)
      | .ins c fs => .ok (.obj c fs) (h.set n .dead)
      | _ => .bad)
    | d => .ok d h) P := wp_bind
theorem w_srt {b : Bool} {a : E} : Wp (evE G (.srt b a) ρ h) P = Wp (evE G a ρ h) fun x h1 => Wp (srtD b x h1) P := wp_bind
theorem w_isB {n b : Bool} {a : E} : Wp (evE G (.isB n a b) ρ h) P = Wp (evE G a ρ h) fun x h1 => Wp (isBD n b x h1) P := wp_bind
theorem w_nil {P : List D → Sto → Prop} : Wp (evEs G [] ρ h) P = P [] h := wp_ok
theorem w_cons {e : E} {es : List E} {P : List D → Sto → Prop} : Wp (evEs G (e :: es) ρ h) P = Wp (evE G e ρ h) fun d h1 => Wp (evEs G es ρ h1) fun ds h2 => P (d :: ds) h2 := by
  show Wp ((evE G e ρ h).bind fun d h1 => (evEs G es ρ h1).bind fun ds h2 => .ok (d :: ds) h2) P = _
  simp only [wp_bind, wp_ok]
theorem w_seq {e : E} {P : List D × Option Nat → Sto → Prop} : Wp (evI G (.seq e) ρ h) P = Wp (evE G e ρ h) fun d h1 => Wp (opt (itD h1 d) h1) P := wp_bind
theorem w_rng {es : List E} {P : List D × Option Nat → Sto → Prop} : Wp (evI G (.rng es) ρ h) P = Wp (evEs G es ρ h) fun ds h1 => Wp (match rngD ds with
    | some (lo, n) => .ok (rngL lo n, none) h1
    | none => .bad) P := wp_bind
theorem w_enm {e : E} {P : List D × Option Nat → Sto → Prop} : Wp (evI G (.enm e) ρ h) P = Wp (evE G e ρ h) fun d h1 => Wp (match itD h1 d with
    | some (xs, o) => .ok (enumL 0 xs, o) h1
    | none => .bad) P := wp_bind
theorem w_zip {a b : E} {P : List D × Option Nat → Sto → Prop} : Wp (evI G (.zip a b) ρ h) P = Wp (evE G a ρ h) fun x h1 => Wp (evE G b ρ h1) fun y h2 => Wp (match zipD x y with
    | some zs => .ok (zs, none) h2
    | none => .bad) P := by
  show Wp ((evE G a ρ h).bind fun x h1 => (evE G b ρ h1).bind fun y h2 => match zipD x y with
    | some zs => .ok (zs, none) h2
    | none => .bad) P = _
  simp only [wp_bind]
end
/-! ### statements -/
section
variable {G : Glv} {ρ : Env} {h : Sto} {P : Fl → Sto → Prop}
theorem s_asg {t : T} {e : E} : Wp (exS G (.asg t e) ρ h) P = Wp (evE G e ρ h) fun d h1 => Wp (match asgT t d h1 ρ with
    | some ρ1 => .ok (.nx ρ1) h1
    | none => .bad) P := wp_bind
theorem s_setIx {a i e : E} : Wp (exS G (.setIx a i e) ρ h) P = Wp (evE G e ρ h) fun v h1 => Wp (evE G a ρ h1) fun x h2 => Wp (evE G i ρ h2) fun y h3 => Wp (match x, y with
    | .ref n, .int k => (match getC h3 n with
      | .lst xs => (match L2.ixN xs.length k with
        | some j => .ok (.nx ρ) (h3.set n (.lst (xs.set j v)))
        | none => .bad)
      | _ => .bad)
    | _, _ => .bad) P := by
  show Wp ((evE G e ρ h).bind fun v h1 => (evE G a ρ h1).bind fun x h2 => (evE G i ρ h2).bind fun y h3 => match x, y with
    | .ref n, .int k => (match getC h3 n with
      | .lst xs => (match L2.ixN xs.length k with
        | some j => .ok (.nx ρ) (h3.set n (.lst (xs.set j v)))
        | none => .bad)
      | _ => .bad)
    | _, _ => .bad) P = _
  simp only [wp_bind]
theorem s_setFld {a e : E} {f : Str} : Wp (exS G (.setFld a f e) ρ h) P = Wp (evE G e ρ h) fun v h1 => Wp (evE G a ρ h1) fun x h2 => Wp (match x with
    | .ref n => (match getC h2 n with
      | .ins c fs => ifR (decide (fs.length < 1000)) (.ok (.nx ρ) (h2.set n (.ins c (setFldL f v fs))))
      | _ => .bad)
    | _ => .bad) P := by
  show Wp ((evE G e ρ h).bind fun v h1 => (evE G a ρ h1).bind fun x h2 => match x with
    | .ref n => (match getC h2 n with
      | .ins c fs => ifR (decide (fs.length < 1000)) (.ok (.nx ρ) (h2.set n (.ins c (setFldL f v fs))))
      | _ => .bad)
    | _ => .bad) P = _
  simp only [wp_bind]
theorem s_ret {e : E} : Wp (exS G (.ret e) ρ h) P = Wp (evE G e ρ h) fun d h1 => P (.ret d) h1 := by
  show Wp ((evE G e ρ h).bind fun d h1 => .ok (.ret d) h1) P = _
  simp only [wp_bind, wp_ok]
theorem s_retN : Wp (exS G .retN ρ h) P = P (.ret .non) h := wp_ok
theorem s_if {c : E} {a b : List S} : Wp (exS G (.ifs c a b) ρ h) P = Wp (tst (evE G c ρ h)) fun k h1 => Wp (match k with
    | true => exSs G a ρ h1
    | false => exSs G b ρ h1) P := wp_bind
theorem s_expr {e : E} : Wp (exS G (.expr e) ρ h) P = Wp (evE G e ρ h) fun _ h1 => P (.nx ρ) h1 := by
  show Wp ((evE G e ρ h).bind fun _ h1 => .ok (.nx ρ) h1) P = _
  simp only [wp_bind, wp_ok]
theorem s_brk : Wp (exS G .brk ρ h) P = P (.brk ρ) h := wp_ok
theorem s_cnt : Wp (exS G .cnt ρ h) P = P (.cnt ρ) h := wp_ok
theorem s_pass : Wp (exS G .pass ρ h) P = P (.nx ρ) h := wp_ok
theorem s_nil : Wp (exSs G [] ρ h) P = P (.nx ρ) h := wp_ok
theorem s_cons {s : S} {ss : List S} : Wp (exSs G (s :: ss) ρ h) P = Wp (exS G s ρ h) fun fl h1 => Wp (match fl with
    | .nx ρ1 => exSs G ss ρ1 h1
    | fl => .ok fl h1) P := wp_bind
/-- a turn of a loop -/
def forF (G : Glv) (t : T) (b : List S) (d : D) (ρ : Env) (h : Sto) : R Fl := match asgT t d h ρ with
  | some ρ2 => exSs G b ρ2 h
  | none => .bad
theorem s_for {t : T} {it : I} {b : List S} : Wp (exS G (.for_ t it b) ρ h) P = Wp (evI G it ρ h) fun p h1 => Wp (forL (forF G t b) p.1 ρ (lockN h1 p.2)) fun fl h5 => P fl (freeN h5 p.2) := by
  have e : exS G (.for_ t it b) ρ h = (evI G it ρ h).bind fun p h1 => freeR p.2 (forL (forF G t b) p.1 ρ (lockN h1 p.2)) := rfl
  rw [e, wp_bind]
  congr 1
  funext p h1
  cases forL (forF G t b) p.1 ρ (lockN h1 p.2) with
  | ok a h => rw [wp_ok]; exact wp_ok
  | exn c d h => rw [wp_exn]; exact wp_exn
  | bad => rw [wp_bad]; exact wp_bad
theorem s_whl {c : E} {b : List S} : Wp (exS G (.whl c b) ρ h) P = Wp (whlN (fun ρ1 h1 => evT G c ρ1 h1) (fun ρ1 h1 => exSs G b ρ1 h1) G.turns ρ h) P := rfl
end
theorem wp_run {G : Glv} {F : Fn} {ds : List D} {h : Sto} {P : D → Sto → Prop} : Wp (runB G F ds h) P = (ds.length = F.np ∧ Wp (exSs G F.body (startE F.nn ds) h) fun fl h1 => match fl with
    | .nx _ => P .non h1
    | .ret d => P d h1
    | _ => False) := by
  unfold runB
  rw [wp_if, wp_bind, decide_eq_true_eq]
  congr 2
  funext fl h1
  cases fl <;> first | exact wp_ok | exact wp_bad
/-! ### loops -/
theorem wp_forL {f : D → Env → Sto → R Fl} {P : Fl → Sto → Prop} (Inv : Nat → Env → Sto → Prop) : ∀ {xs : List D} {ρ : Env} {h : Sto} (i0 : Nat), Inv i0 ρ h →
    (∀ i d ρ h, xs[i]? = some d → Inv (i0 + i) ρ h → Wp (f d ρ h) fun fl h1 => match fl with
      | .nx ρ1 => Inv (i0 + i + 1) ρ1 h1
      | .cnt ρ1 => Inv (i0 + i + 1) ρ1 h1
      | .brk ρ1 => P (.nx ρ1) h1
      | .ret d => P (.ret d) h1) → (∀ ρ h, Inv (i0 + xs.length) ρ h → P (.nx ρ) h) → Wp (forL f xs ρ h) P
  | [], ρ, h, i0, h0, _, fin => wp_ok.mpr (fin ρ h h0)
  | x :: xs, ρ, h, i0, h0, step, fin => by
    show Wp ((f x ρ h).bind _) P
    rw [wp_bind]
    refine (step 0 x ρ h rfl h0).imp fun fl h1 q => ?_
    have next : ∀ ρ1, Inv (i0 + 0 + 1) ρ1 h1 → Wp (forL f xs ρ1 h1) P := fun ρ1 q => by
      refine wp_forL Inv (i0 + 1) q (fun i d ρ h e hi => ?_) fun ρ h hi => fin ρ h ?_
      · have := step (i + 1) d ρ h (by simpa using e) (by rw [show i0 + (i + 1) = i0 + 1 + i by omega]; exact hi)
        rw [show i0 + (i + 1) + 1 = i0 + 1 + i + 1 by omega] at this
        exact this
      · rw [List.length_cons, show i0 + (xs.length + 1) = i0 + 1 + xs.length by omega]
        exact hi
    cases fl with
    | nx ρ1 => exact next ρ1 q
    | cnt ρ1 => exact next ρ1 q
    | brk ρ1 => exact wp_ok.mpr q
    | ret d => exact wp_ok.mpr q
theorem wp_compL {f : D → Sto → R (Option D)} {P : List D → Sto → Prop} (Inv : Nat → List D → Sto → Prop) : ∀ {xs : List D} {acc : List D} {h : Sto} (i0 : Nat), Inv i0 acc h →
    (∀ i d acc h, xs[i]? = some d → Inv (i0 + i) acc h → Wp (f d h) fun o h1 => match o with
      | none => Inv (i0 + i + 1) acc h1
      | some y => acc.length < sizeLine ∧ Inv (i0 + i + 1) (acc ++ [y]) h1) → (∀ acc h, Inv (i0 + xs.length) acc h → P acc h) → Wp (compL f xs acc h) P
  | [], acc, h, i0, h0, _, fin => wp_ok.mpr (fin acc h h0)
  | x :: xs, acc, h, i0, h0, step, fin => by
    show Wp ((f x h).bind _) P
    rw [wp_bind]
    refine (step 0 x acc h rfl h0).imp fun o h1 q => ?_
    have next : ∀ acc1, Inv (i0 + 0 + 1) acc1 h1 → Wp (compL f xs acc1 h1) P := fun acc1 q => by
      refine wp_compL Inv (i0 + 1) q (fun i d acc h e hi => ?_) fun acc h hi => fin acc h ?_
      · have := step (i + 1) d acc h (by simpa using e) (by rw [show i0 + (i + 1) = i0 + 1 + i by omega]; exact hi)
        rw [show i0 + (i + 1) + 1 = i0 + 1 + i + 1 by omega] at this
        exact this
      · rw [List.length_cons, show i0 + (xs.length + 1) = i0 + 1 + xs.length by omega]
        exact hi
    cases o with
    | none => exact next acc q
    | some y =>
      show Wp (ifR _ _) P
      rw [wp_if]
      exact ⟨decide_eq_true q.1, next _ q.2⟩
theorem wp_whl {c : Env → Sto → R Bool} {f : Env → Sto → R Fl} {P : Fl → Sto → Prop} (Inv : Nat → Env → Sto → Prop) : ∀ (n m : Nat) {ρ : Env} {h : Sto}, Inv m ρ h → m < n →
    (∀ m ρ h, Inv m ρ h → Wp (c ρ h) fun b h1 => match b with
      | false => P (.nx ρ) h1
      | true => Wp (f ρ h1) fun fl h2 => match fl with
        | .nx ρ1 => ∃ m', m' < m ∧ Inv m' ρ1 h2
        | .cnt ρ1 => ∃ m', m' < m ∧ Inv m' ρ1 h2
        | .brk ρ1 => P (.nx ρ1) h2
        | .ret d => P (.ret d) h2) → Wp (whlN c f n ρ h) P
  | 0, m, ρ, h, _, hl, _ => absurd hl (Nat.not_lt_zero _)
  | n + 1, m, ρ, h, h0, hl, step => by
    show Wp ((c ρ h).bind _) P
    rw [wp_bind]
    refine (step m ρ h h0).imp fun b h1 q => ?_
    cases b with
    | false => exact wp_ok.mpr q
    | true =>
      show Wp ((f ρ h1).bind _) P
      rw [wp_bind]
      refine Wp.imp q fun fl h2 q2 => ?_
      cases fl with
      | nx ρ1 =>
        obtain ⟨m', hm, hi⟩ := q2
        exact wp_whl Inv n m' hi (by omega) step
      | cnt ρ1 =>
        obtain ⟨m', hm, hi⟩ := q2
        exact wp_whl Inv n m' hi (by omega) step
      | brk ρ1 => exact wp_ok.mpr q2
      | ret d => exact wp_ok.mpr q2
end Cl
/-! text ClW -/
set_option maxHeartbeats 1000007
/-! As ClV, exceptions told: Z. -/
namespace Cl
open PySem
@[irreducible] def Wx {α : Type} (Z : Nat → D → Sto → Prop) (r : R α) (P : α → Sto → Prop) : Prop := match r with
  | .ok a h => P a h
  | .exn c d h => Z c d h
  | .bad => False
section
variable {α β : Type} {P : α → Sto → Prop} {Z : Nat → D → Sto → Prop} {G : Glv} {ρ : Env} {h : Sto}
theorem wx_ok {a : α} : Wx Z (.ok a h) P = P a h := by
  unfold Wx
  rfl
theorem wx_bad : Wx Z (.bad : R α) P = False := by
  unfold Wx
  rfl
theorem wx_exn {c : Nat} {d : D} : Wx Z (.exn c d h : R α) P = Z c d h := by
  unfold Wx
  rfl
theorem Wx.imp {r : R α} {Q : α → Sto → Prop} (w : Wx Z r P) (k : ∀ a h, P a h → Q a h) : Wx Z r Q := by
  cases r with
  | ok a h =>
    rw [wx_ok] at w ⊢
    exact k a h w
  | exn c d h => rw [wx_exn] at w ⊢; exact w
  | bad => rw [wx_bad] at w; exact w.elim
theorem Wx.imp2 {r : R α} {Q : α → Sto → Prop} {Y : Nat → D → Sto → Prop} (w : Wx Z r P) (k : ∀ a h, P a h → Q a h) (l : ∀ c d h, Z c d h → Y c d h) : Wx Y r Q := by
  cases r with
  | ok a h =>
    rw [wx_ok] at w ⊢
    exact k a h w
  | exn c d h => rw [wx_exn] at w ⊢; exact l c d h w
  | bad => rw [wx_bad] at w; exact w.elim
/-- no exception: as it was -/
theorem Wp.x {r : R α} {Q : α → Sto → Prop} (w : Wp r P) (k : ∀ a h, P a h → Q a h) : Wx Z r Q := by
  cases r with
  | ok a h =>
    rw [wp_ok] at w
    rw [wx_ok]
    exact k a h w
  | exn c d h => rw [wp_exn] at w; exact w.elim
  | bad => rw [wp_bad] at w; exact w.elim
theorem wx_eq {r : R α} {a : α} {s : Sto} (w : ∀ P : α → Sto → Prop, Wp r P = P a s) : Wx Z r P = P a s := by
  have : Wp r fun a' s' => a' = a ∧ s' = s := by rw [w]; exact ⟨rfl, rfl⟩
  obtain ⟨a', s', e, rfl, rfl⟩ := this.ex
  rw [e, wx_ok]
theorem wx_bind {r : R β} {f : β → Sto → R α} : Wx Z (r.bind f) P = Wx Z r fun a h => Wx Z (f a h) P := by
  cases r with
  | ok a h => rw [wx_ok]; rfl
  | exn c d h => rw [wx_exn]; exact wx_exn
  | bad => rw [wx_bad]; exact wx_bad
theorem wx_opt {a : α} : Wx Z (opt (some a) h) P = P a h := wx_ok
theorem wx_optN : Wx Z (opt (none : Option α) h) P = False := wx_bad
theorem wx_if {b : Bool} {r : R α} : Wx Z (ifR b r) P = (b = true ∧ Wx Z r P) := by
  cases b with
  | true => simp [ifR]
  | false => simp [ifR, wx_bad]
end
section
variable {Z : Nat → D → Sto → Prop} {G : Glv} {ρ : Env} {h : Sto} {P : D → Sto → Prop}
theorem x_var {i : Nat} : Wx Z (evE G (.var i) ρ h) P = Wx Z (opt (ρ.getD i none) h) P := rfl
theorem x_lit {d : D} : Wx Z (evE G (.lit d) ρ h) P = P d h := wx_ok
theorem x_glo {x : String} : Wx Z (evE G (.glo x) ρ h) P = Wx Z (opt (G.con x) h) P := rfl
theorem x_bin {o : BOp} {a b : E} : Wx Z (evE G (.bin o a b) ρ h) P = Wx Z (evE G a ρ h) fun x h1 => Wx Z (evE G b ρ h1) fun y h2 => Wx Z (binD o x y h2) P := by
  show Wx Z ((evE G a ρ h).bind fun x h1 => (evE G b ρ h1).bind fun y h2 => binD o x y h2) P = _
  simp only [wx_bind]
theorem x_neg {a : E} : Wx Z (evE G (.neg a) ρ h) P = Wx Z (evE G a ρ h) fun x h1 => Wx Z (match x with
    | .int i => .ok (.int (-i)) h1
    | _ => .bad) P := wx_bind
theorem x_cmp {o : COp} {a b : E} : Wx Z (evE G (.cmp o a b) ρ h) P = Wx Z (evE G a ρ h) fun x h1 => Wx Z (evE G b ρ h1) fun y h2 => Wx Z (cmpD o x y h2) P := by
  show Wx Z ((evE G a ρ h).bind fun x h1 => (evE G b ρ h1).bind fun y h2 => cmpD o x y h2) P = _
  simp only [wx_bind]
theorem x_chain {o1 o2 : COp} {a b c : E} : Wx Z (evE G (.chain o1 o2 a b c) ρ h) P = Wx Z (evE G a ρ h) fun x h1 => Wx Z (evE G b ρ h1) fun y h2 => Wx Z (cmpD o1 x y h2) fun k h3 => Wx Z (match k with
    | .bl true => (evE G c ρ h3).bind fun z h4 => cmpD o2 y z h4
    | .bl false => .ok (.bl false) h3
    | _ => .bad) P := by
  show Wx Z ((evE G a ρ h).bind fun x h1 => (evE G b ρ h1).bind fun y h2 => (cmpD o1 x y h2).bind fun k h3 => match k with
    | .bl true => (evE G c ρ h3).bind fun z h4 => cmpD o2 y z h4
    | .bl false => .ok (.bl false) h3
    | _ => .bad) P = _
  simp only [wx_bind]
theorem x_isN {a : E} : Wx Z (evE G (.isN a) ρ h) P = Wx Z (evE G a ρ h) fun x h1 => Wx Z (match x with
    | .non => .ok (.bl true) h1
    | .ref n => (match getC h1 n with
      | .dead => .bad
      | _ => .ok (.bl false) h1)
    | _ => .ok (.bl false) h1) P := wx_bind
theorem x_notN {a : E} : Wx Z (evE G (.notN a) ρ h) P = Wx Z (evE G a ρ h) fun x h1 => Wx Z (match x with
    | .non => .ok (.bl false) h1
    | .ref n => (match getC h1 n with
      | .dead => .bad
      | _ => .ok (.bl true) h1)
    | _ => .ok (.bl true) h1) P := wx_bind
theorem x_not {a : E} : Wx Z (evE G (.not a) ρ h) P = Wx Z (evE G a ρ h) fun x h1 => Wx Z (match x with
    | .bl b => .ok (.bl (!b)) h1
    | _ => .bad) P := wx_bind
theorem x_and {es : List E} : Wx Z (evE G (.and es) ρ h) P = Wx Z (evAnd G es ρ h) P := rfl
theorem x_or {es : List E} : Wx Z (evE G (.or es) ρ h) P = Wx Z (evOr G es ρ h) P := rfl
theorem x_and1 {e : E} : Wx Z (evAnd G [e] ρ h) P = Wx Z (evE G e ρ h) P := rfl
theorem x_and2 {e e2 : E} {es : List E} : Wx Z (evAnd G (e :: e2 :: es) ρ h) P = Wx Z (evE G e ρ h) fun d h1 => Wx Z (match d with
    | .bl true => evAnd G (e2 :: es) ρ h1
    | .bl false => .ok (.bl false) h1
    | _ => .bad) P := wx_bind
theorem x_or1 {e : E} : Wx Z (evOr G [e] ρ h) P = Wx Z (evE G e ρ h) P := rfl
theorem x_or2 {e e2 : E} {es : List E} : Wx Z (evOr G (e :: e2 :: es) ρ h) P = Wx Z (evE G e ρ h) fun d h1 => Wx Z (match d with
    | .bl false => evOr G (e2 :: es) ρ h1
    | .bl true => .ok (.bl true) h1
    | _ => .bad) P := wx_bind
theorem wx_tst {r : R D} {P : Bool → Sto → Prop} : Wx Z (tst r) P = Wx Z r fun d h1 => Wx Z (opt (truD h1 d) h1) P := wx_bind
theorem x_ite {t a b : E} : Wx Z (evE G (.ite t a b) ρ h) P = Wx Z (tst (evE G t ρ h)) fun k h1 => Wx Z (match k with
    | true => evE G a ρ h1
    | false => evE G b ρ h1) P := wx_bind
theorem x_tup {es : List E} : Wx Z (evE G (.tup es) ρ h) P = Wx Z (evEs G es ρ h) fun ds h1 => Wx Z (ifR (lim ds.length) (.ok (.tup ds) h1)) P := wx_bind
theorem x_lst {es : List E} : Wx Z (evE G (.lst es) ρ h) P = Wx Z (evEs G es ρ h) fun ds h1 => Wx Z (ifR (lim ds.length) (.ok (.lst ds) h1)) P := wx_bind
theorem x_ix {a i : E} : Wx Z (evE G (.ix a i) ρ h) P = Wx Z (evE G a ρ h) fun x h1 => Wx Z (evE G i ρ h1) fun y h2 => Wx Z (ixD x y h2) P := by
  show Wx Z ((evE G a ρ h).bind fun x h1 => (evE G i ρ h1).bind fun y h2 => ixD x y h2) P = _
  simp only [wx_bind]
theorem x_slc {a : E} {lo hi : Option E} : Wx Z (evE G (.slc a lo hi) ρ h) P = Wx Z (evE G a ρ h) fun x h1 => Wx Z (evO G lo ρ h1) fun l h2 => Wx Z (evO G hi ρ h2) fun u h3 => Wx Z (match x with
    | .tup xs => .ok (.tup (cutD xs l u)) h3
    | .scr xs => .ok (.lst (cutD xs l u)) h3
    | x => (match lstOf h3 x with
      | some xs => .ok (.lst (cutD xs l u)) h3
      | none => .bad)) P := by
  show Wx Z ((evE G a ρ h).bind fun x h1 => (evO G lo ρ h1).bind fun l h2 => (evO G hi ρ h2).bind fun u h3 => match x with
    | .tup xs => .ok (.tup (cutD xs l u)) h3
    | .scr xs => .ok (.lst (cutD xs l u)) h3
    | x => (match lstOf h3 x with
      | some xs => .ok (.lst (cutD xs l u)) h3
      | none => .bad)) P = _
  simp only [wx_bind]
theorem x_oN {P : Option Int → Sto → Prop} : Wx Z (evO G none ρ h) P = P none h := wx_ok
theorem x_oS {e : E} {P : Option Int → Sto → Prop} : Wx Z (evO G (some e) ρ h) P = Wx Z (evE G e ρ h) fun d h1 => Wx Z (match d with
    | .int i => .ok (some i) h1
    | _ => .bad) P := wx_bind
theorem x_fld {a : E} {f : Str} : Wx Z (evE G (.fld a f) ρ h) P = Wx Z (evE G a ρ h) fun x h1 => Wx Z (match fldsOf h1 x with
    | some fs => opt (fs.lookup f) h1
    | none => .bad) P := wx_bind
theorem wx_shut {α : Type} {r : R α} {P : α → Sto → Prop} : Wx Z r.shut P = Wp r P := by
  cases r with
  | ok a h => rw [wp_ok]; exact wx_ok
  | exn c d h => rw [wp_exn]; exact wx_bad
  | bad => rw [wp_bad]; exact wx_bad
theorem x_prop {c f : Nat} {a : E} : Wx Z (evE G (.prop c f a) ρ h) P = Wx Z (evE G a ρ h) fun x h1 => Wx Z (match clsOf h1 x with
    | some d => ifR (d == c) (G.call1 f [x] h1).shut
    | none => .bad) P := wx_bind
theorem x_call {f : Nat} {es : List E} {ds : List D} : Wx Z (evE G (.call f es ds) ρ h) P = Wx Z (evEs G es ρ h) fun vs h1 => Wx Z (G.call f (vs ++ ds) h1) P := wx_bind
theorem x_callK {f : Nat} {es ks : List E} : Wx Z (evE G (.callK f es ks) ρ h) P = Wx Z (evEs G es ρ h) fun vs h1 => Wx Z (evEs G ks ρ h1) fun us h2 => Wx Z (G.call f (vs ++ us) h2) P := by
  show Wx Z ((evEs G es ρ h).bind fun vs h1 => (evEs G ks ρ h1).bind fun us h2 => G.call f (vs ++ us) h2) P = _
  simp only [wx_bind]
theorem x_mk {c f : Nat} {es : List E} {ds : List D} : Wx Z (evE G (.mk c f es ds) ρ h) P = (G.deep = true ∧ Wx Z (evEs G es ρ h) fun vs h1 => Wx Z (mkR (G.call1 f) c (vs ++ ds) h1) P) := by
  show Wx Z (ifR G.deep ((evEs G es ρ h).bind fun vs h1 => mkR (G.call1 f) c (vs ++ ds) h1)) P = _
  rw [wx_if, wx_bind]
theorem x_mkK {c f : Nat} {es ks : List E} : Wx Z (evE G (.mkK c f es ks) ρ h) P = (G.deep = true ∧ Wx Z (evEs G es ρ h) fun vs h1 => Wx Z (evEs G ks ρ h1) fun us h2 => Wx Z (mkR (G.call1 f) c (vs ++ us) h2) P) := by
  show Wx Z (ifR G.deep ((evEs G es ρ h).bind fun vs h1 => (evEs G ks ρ h1).bind fun us h2 => mkR (G.call1 f) c (vs ++ us) h2)) P = _
  rw [wx_if]
  simp only [wx_bind]
theorem x_mkR {f : List D → Sto → R D} {c : Nat} {ds : List D} : Wx Z (mkR f c ds h) P = Wx Z (f (.ref h.length :: ds) (h ++ [.ins c []])) fun v h2 => Wx Z (match v with
    | .non => .ok (.ref h.length) h2
    | _ => .bad) P := wx_bind
theorem x_bi {b : BI} {es : List E} : Wx Z (evE G (.bi b es) ρ h) P = Wx Z (evEs G es ρ h) fun ds h1 => Wx Z (biD b ds h1) P := wx_bind
theorem x_bm {m : BM} {o : E} {es : List E} : Wx Z (evE G (.bm m o es) ρ h) P = Wx Z (evE G o ρ h) fun x h1 => Wx Z (match lstOf h1 x with
    | none => .bad
    | some _ => (evEs G es ρ h1).bind fun ds h2 => bmD m x ds h2) P := wx_bind
theorem x_isi {a : E} {ts : List Ty} : Wx Z (evE G (.isi a ts) ρ h) P = Wx Z (evE G a ρ h) fun x h1 => Wx Z (match isTys h1 x ts with
    | some b => .ok (.bl b) h1
    | none => .bad) P := wx_bind
theorem x_rngT {t : Bool} {es : List E} : Wx Z (evE G (.rngT t es) ρ h) P = Wx Z (evEs G es ρ h) fun ds h1 => Wx Z (match rngD ds with
    | some (lo, n) => ifR (lim n) (.ok (sqV t (rngL lo n)) h1)
    | none => .bad) P := wx_bind
theorem x_comp {tg : T} {it : I} {cond : Option E} {elt : E} {vs : List Nat} : Wx Z (evE G (.comp tg it cond elt vs) ρ h) P = Wx Z (evI G it ρ h) fun p h1 => Wp (compL (compF G tg cond elt vs ρ) p.1 [] (lockN h1 p.2)) fun ys h5 => P (.lst ys) (freeN h5 p.2) := by
  rw [evE_comp, wx_bind]
  congr 1
  funext p h1
  rw [wx_bind]
  cases compL (compF G tg cond elt vs ρ) p.1 [] (lockN h1 p.2) with
  | ok a h => rw [wp_ok]; exact (wx_ok.trans wx_ok)
  | exn c d h => rw [wp_exn]; exact wx_bad
  | bad => rw [wp_bad]; exact wx_bad
theorem x_new {e : E} : Wx Z (evE G (.new e) ρ h) P = Wx Z (evE G e ρ h) fun d h => Wx Z (match d with
    | .lst xs => .ok (.ref h.length) (h ++ [.lst xs])
    | _ => .bad) P := wx_bind
theorem x_frz {e : E} : Wx Z (evE G (.frz e) ρ h) P = Wx Z (evE G e ρ h) fun d h => Wx Z (match d with
    | .ref n => (match getC h n with
      | .lst xs => .ok (.lst xs) (h.set n .dead)
      | .ins c fs => .ok (.obj c fs) (h.set n .dead)
      | _ => .bad)
    | d => .ok d h) P := wx_bind
theorem x_srt {b : Bool} {a : E} : Wx Z (evE G (.srt b a) ρ h) P = Wx Z (evE G a ρ h) fun x h1 => Wx Z (srtD b x h1) P := wx_bind
theorem x_isB {n b : Bool} {a : E} : Wx Z (evE G (.isB n a b) ρ h) P = Wx Z (evE G a ρ h) fun x h1 => Wx Z (isBD n b x h1) P := wx_bind
theorem x_nil {P : List D → Sto → Prop} : Wx Z (evEs G [] ρ h) P = P [] h := wx_ok
theorem x_cons {e : E} {es : List E} {P : List D → Sto → Prop} : Wx Z (evEs G (e :: es) ρ h) P = Wx Z (evE G e ρ h) fun d h1 => Wx Z (evEs G es ρ h1) fun ds h2 => P (d :: ds) h2 := by
  show Wx Z ((evE G e ρ h).bind fun d h1 => (evEs G es ρ h1).bind fun ds h2 => .ok (d :: ds) h2) P = _
  simp only [wx_bind, wx_ok]
theorem x_seq {e : E} {P : List D × Option Nat → Sto → Prop} : Wx Z (evI G (.seq e) ρ h) P = Wx Z (evE G e ρ h) fun d h1 => Wx Z (opt (itD h1 d) h1) P := wx_bind
theorem x_rng {es : List E} {P : List D × Option Nat → Sto → Prop} : Wx Z (evI G (.rng es) ρ h) P = Wx Z (evEs G es ρ h) fun ds h1 => Wx Z (match rngD ds with
    | some (lo, n) => .ok (rngL lo n, none) h1
    | none => .bad) P := wx_bind
theorem x_enm {e : E} {P : List D × Option Nat → Sto → Prop} : Wx Z (evI G (.enm e) ρ h) P = Wx Z (evE G e ρ h) fun d h1 => Wx Z (match itD h1 d with
    | some (xs, o) => .ok (enumL 0 xs, o) h1
    | none => .bad) P := wx_bind
theorem x_zip {a b : E} {P : List D × Option Nat → Sto → Prop} : Wx Z (evI G (.zip a b) ρ h) P = Wx Z (evE G a ρ h) fun x h1 => Wx Z (evE G b ρ h1) fun y h2 => Wx Z (match zipD x y with
    | some zs => .ok (zs, none) h2
    | none => .bad) P := by
  show Wx Z ((evE G a ρ h).bind fun x h1 => (evE G b ρ h1).bind fun y h2 => match zipD x y with
    | some zs => .ok (zs, none) h2
    | none => .bad) P = _
  simp only [wx_bind]
end
/-! ### statements -/
section
variable {Z : Nat → D → Sto → Prop} {G : Glv} {ρ : Env} {h : Sto} {P : Fl → Sto → Prop}
theorem y_asg {t : T} {e : E} : Wx Z (exS G (.asg t e) ρ h) P = Wx Z (evE G e ρ h) fun d h1 => Wx Z (match asgT t d h1 ρ with
    | some ρ1 => .ok (.nx ρ1) h1
    | none => .bad) P := wx_bind
theorem y_setIx {a i e : E} : Wx Z (exS G (.setIx a i e) ρ h) P = Wx Z (evE G e ρ h) fun v h1 => Wx Z (evE G a ρ h1) fun x h2 => Wx Z (evE G i ρ h2) fun y h3 => Wx Z (match x, y with
    | .ref n, .int k => (match getC h3 n with
      | .lst xs => (match L2.ixN xs.length k with
        | some j => .ok (.nx ρ) (h3.set n (.lst (xs.set j v)))
        | none => .bad)
      | _ => .bad)
    | _, _ => .bad) P := by
  show Wx Z ((evE G e ρ h).bind fun v h1 => (evE G a ρ h1).bind fun x h2 => (evE G i ρ h2).bind fun y h3 => match x, y with
    | .ref n, .int k => (match getC h3 n with
      | .lst xs => (match L2.ixN xs.length k with
        | some j => .ok (.nx ρ) (h3.set n (.lst (xs.set j v)))
        | none => .bad)
      | _ => .bad)
    | _, _ => .bad) P = _
  simp only [wx_bind]
theorem y_setFld {a e : E} {f : Str} : Wx Z (exS G (.setFld a f e) ρ h) P = Wx Z (evE G e ρ h) fun v h1 => Wx Z (evE G a ρ h1) fun x h2 => Wx Z (match x with
    | .ref n => (match getC h2 n with
      | .ins c fs => ifR (decide (fs.length < 1000)) (.ok (.nx ρ) (h2.set n (.ins c (setFldL f v fs))))
      | _ => .bad)
    | _ => .bad) P := by
  show Wx Z ((evE G e ρ h).bind fun v h1 => (evE G a ρ h1).bind fun x h2 => match x with
    | .ref n => (match getC h2 n with
      | .ins c fs => ifR (decide (fs.length < 1000)) (.ok (.nx ρ) (h2.set n (.ins c (setFldL f v fs))))
      | _ => .bad)
    | _ => .bad) P = _
  simp only [wx_bind]
theorem y_ret {e : E} : Wx Z (exS G (.ret e) ρ h) P = Wx Z (evE G e ρ h) fun d h1 => P (.ret d) h1 := by
  show Wx Z ((evE G e ρ h).bind fun d h1 => .ok (.ret d) h1) P = _
  simp only [wx_bind, wx_ok]
theorem y_retN : Wx Z (exS G .retN ρ h) P = P (.ret .non) h := wx_ok
theorem y_if {c : E} {a b : List S} : Wx Z (exS G (.ifs c a b) ρ h) P = Wx Z (tst (evE G c ρ h)) fun k h1 => Wx Z (match k with
    | true => exSs G a ρ h1
    | false => exSs G b ρ h1) P := wx_bind
theorem y_expr {e : E} : Wx Z (exS G (.expr e) ρ h) P = Wx Z (evE G e ρ h) fun _ h1 => P (.nx ρ) h1 := by
  show Wx Z ((evE G e ρ h).bind fun _ h1 => .ok (.nx ρ) h1) P = _
  simp only [wx_bind, wx_ok]
theorem y_brk : Wx Z (exS G .brk ρ h) P = P (.brk ρ) h := wx_ok
theorem y_cnt : Wx Z (exS G .cnt ρ h) P = P (.cnt ρ) h := wx_ok
theorem y_pass : Wx Z (exS G .pass ρ h) P = P (.nx ρ) h := wx_ok
theorem y_nil : Wx Z (exSs G [] ρ h) P = P (.nx ρ) h := wx_ok
theorem y_cons {s : S} {ss : List S} : Wx Z (exSs G (s :: ss) ρ h) P = Wx Z (exS G s ρ h) fun fl h1 => Wx Z (match fl with
    | .nx ρ1 => exSs G ss ρ1 h1
    | fl => .ok fl h1) P := wx_bind
theorem y_for {t : T} {it : I} {b : List S} : Wx Z (exS G (.for_ t it b) ρ h) P = Wx Z (evI G it ρ h) fun p h1 => Wx (fun c d h => Z c d (freeN h p.2)) (forL (forF G t b) p.1 ρ (lockN h1 p.2)) fun fl h5 => P fl (freeN h5 p.2) := by
  have e : exS G (.for_ t it b) ρ h = (evI G it ρ h).bind fun p h1 => freeR p.2 (forL (forF G t b) p.1 ρ (lockN h1 p.2)) := rfl
  rw [e, wx_bind]
  congr 1
  funext p h1
  cases forL (forF G t b) p.1 ρ (lockN h1 p.2) with
  | ok a h => rw [wx_ok]; exact wx_ok
  | exn c d h => rw [wx_exn]; exact wx_exn
  | bad => rw [wx_bad]; exact wx_bad
theorem y_whl {c : E} {b : List S} : Wx Z (exS G (.whl c b) ρ h) P = Wx Z (whlN (fun ρ1 h1 => evT G c ρ1 h1) (fun ρ1 h1 => exSs G b ρ1 h1) G.turns ρ h) P := rfl
end
theorem wx_run {Z : Nat → D → Sto → Prop} {G : Glv} {F : Fn} {ds : List D} {h : Sto} {P : D → Sto → Prop} : Wx Z (runB G F ds h) P = (ds.length = F.np ∧ Wx Z (exSs G F.body (startE F.nn ds) h) fun fl h1 => match fl with
    | .nx _ => P .non h1
    | .ret d => P d h1
    | _ => False) := by
  unfold runB
  rw [wx_if, wx_bind, decide_eq_true_eq]
  congr 2
  funext fl h1
  cases fl <;> first | exact wx_ok | exact wx_bad
/-! ### loops -/
theorem wx_forL {Z : Nat → D → Sto → Prop} {f : D → Env → Sto → R Fl} {P : Fl → Sto → Prop} (Inv : Nat → Env → Sto → Prop) : ∀ {xs : List D} {ρ : Env} {h : Sto} (i0 : Nat), Inv i0 ρ h →
    (∀ i d ρ h, xs[i]? = some d → Inv (i0 + i) ρ h → Wx Z (f d ρ h) fun fl h1 => match fl with
      | .nx ρ1 => Inv (i0 + i + 1) ρ1 h1
      | .cnt ρ1 => Inv (i0 + i + 1) ρ1 h1
      | .brk ρ1 => P (.nx ρ1) h1
      | .ret d => P (.ret d) h1) → (∀ ρ h, Inv (i0 + xs.length) ρ h → P (.nx ρ) h) → Wx Z (forL f xs ρ h) P
  | [], ρ, h, i0, h0, _, fin => wx_ok.mpr (fin ρ h h0)
  | x :: xs, ρ, h, i0, h0, step, fin => by
    show Wx Z ((f x ρ h).bind _) P
    rw [wx_bind]
    refine (step 0 x ρ h rfl h0).imp fun fl h1 q => ?_
    have next : ∀ ρ1, Inv (i0 + 0 + 1) ρ1 h1 → Wx Z (forL f xs ρ1 h1) P := fun ρ1 q => by
      refine wx_forL Inv (i0 + 1) q (fun i d ρ h e hi => ?_) fun ρ h hi => fin ρ h ?_
      · have := step (i + 1) d ρ h (by simpa using e) (by rw [show i0 + (i + 1) = i0 + 1 + i by omega]; exact hi)
        rw [show i0 + (i + 1) + 1 = i0 + 1 + i + 1 by omega] at this
        exact this
      · rw [List.length_cons, show i0 + (xs.length + 1) = i0 + 1 + xs.length by omega]
        exact hi
    cases fl with
    | nx ρ1 => exact next ρ1 q
    | cnt ρ1 => exact next ρ1 q
    | brk ρ1 => exact wx_ok.mpr q
    | ret d => exact wx_ok.mpr q
theorem wx_compL {Z : Nat → D → Sto → Prop} {f : D → Sto → R (Option D)} {P : List D → Sto → Prop} (Inv : Nat → List D → Sto → Prop) : ∀ {xs : List D} {acc : List D} {h : Sto} (i0 : Nat), Inv i0 acc h →
    (∀ i d acc h, xs[i]? = some d → Inv (i0 + i) acc h → Wx Z (f d h) fun o h1 => match o with
      | none => Inv (i0 + i + 1) acc h1
      | some y => acc.length < sizeLine ∧ Inv (i0 + i + 1) (acc ++ [y]) h1) → (∀ acc h, Inv (i0 + xs.length) acc h → P acc h) → Wx Z (compL f xs acc h) P
  | [], acc, h, i0, h0, _, fin => wx_ok.mpr (fin acc h h0)
  | x :: xs, acc, h, i0, h0, step, fin => by
    show Wx Z ((f x h).bind _) P
    rw [wx_bind]
    refine (step 0 x acc h rfl h0).imp fun o h1 q => ?_
    have next : ∀ acc1, Inv (i0 + 0 + 1) acc1 h1 → Wx Z (compL f xs acc1 h1) P := fun acc1 q => by
      refine wx_compL Inv (i0 + 1) q (fun i d acc h e hi => ?_) fun acc h hi => fin acc h ?_
      · have := step (i + 1) d acc h (by simpa using e) (by rw [show i0 + (i + 1) = i0 + 1 + i by omega]; exact hi)
        rw [show i0 + (i + 1) + 1 = i0 + 1 + i + 1 by omega] at this
        exact this
      · rw [List.length_cons, show i0 + (xs.length + 1) = i0 + 1 + xs.length by omega]
        exact hi
    cases o with
    | none => exact next acc q
    | some y =>
      show Wx Z (ifR _ _) P
      rw [wx_if]
      exact ⟨decide_eq_true q.1, next _ q.2⟩
theorem wx_whl {Z : Nat → D → Sto → Prop} {c : Env → Sto → R Bool} {f : Env → Sto → R Fl} {P : Fl → Sto → Prop} (Inv : Nat → Env → Sto → Prop) : ∀ (n m : Nat) {ρ : Env} {h : Sto}, Inv m ρ h → m < n →
    (∀ m ρ h, Inv m ρ h → Wx Z (c ρ h) fun b h1 => match b with
      | false => P (.nx ρ) h1
      | true => Wx Z (f ρ h1) fun fl h2 => match fl with
        | .nx ρ1 => ∃ m', m' < m ∧ Inv m' ρ1 h2
        | .cnt ρ1 => ∃ m', m' < m ∧ Inv m' ρ1 h2
        | .brk ρ1 => P (.nx ρ1) h2
        | .ret d => P (.ret d) h2) → Wx Z (whlN c f n ρ h) P
  | 0, m, ρ, h, _, hl, _ => absurd hl (Nat.not_lt_zero _)
  | n + 1, m, ρ, h, h0, hl, step => by
    show Wx Z ((c ρ h).bind _) P
    rw [wx_bind]
    refine (step m ρ h h0).imp fun b h1 q => ?_
    cases b with
    | false => exact wx_ok.mpr q
    | true =>
      show Wx Z ((f ρ h1).bind _) P
      rw [wx_bind]
      refine Wx.imp q fun fl h2 q2 => ?_
      cases fl with
      | nx ρ1 =>
        obtain ⟨m', hm, hi⟩ := q2
        exact wx_whl Inv n m' hi (by omega) step
      | cnt ρ1 =>
        obtain ⟨m', hm, hi⟩ := q2
        exact wx_whl Inv n m' hi (by omega) step
      | brk ρ1 => exact wx_ok.mpr q2
      | ret d => exact wx_ok.mpr q2


section
variable {Z : Nat → D → Sto → Prop} {G : Glv} {ρ : Env} {h : Sto} {P : Fl → Sto → Prop}
theorem y_rse {c f : Nat} {e : E} : Wx Z (exS G (.rse c f e) ρ h) P = (G.deep = true ∧ (∃ v h', G.call1 f [.non, .non] h = .ok v h') ∧ Wx Z (evE G e ρ h) fun d h1 => Z c d h1) := by
  show Wx Z (ifR G.deep (match G.call1 f [.non, .non] h with
    | .ok _ _ => (evE G e ρ h).bind fun d h1 => .exn c d h1
    | _ => .bad)) P = _
  rw [wx_if]
  cases G.call1 f [.non, .non] h with
  | ok v h' => simp only [wx_bind, wx_exn]; simp
  | exn c d h' => simp [wx_bad]
  | bad => simp [wx_bad]
theorem s_trA {b : List S} {hs : List (Nat × Hn)} : Wp (exS G (.trA b hs) ρ h) P = Wx (fun c d h1 => ∃ k, hs.lookup c = some k ∧ P (.ret (k.d d)) h1) (exSs G b ρ h) P := by
  show Wp (tryR hs (exSs G b ρ h)) P = _
  cases exSs G b ρ h with
  | ok fl h' => rw [wx_ok]; exact wp_ok
  | exn c d h' =>
    rw [wx_exn]
    unfold tryR
    dsimp only
    cases hs.lookup c with
    | none => simp [wp_bad]
    | some k => simp [wp_ok]
  | bad => rw [wx_bad]; exact wp_bad
end
end Cl
/-! text K04 -/
set_option maxHeartbeats 4000007
/-! The defs that the law reaches: codes, places in the row. Printed by a program. -/
namespace Cl
open PySem PySem.Spec PyProof.Rows L2
def top (i : Nat) : Stmt := PySem.Challenge.pw_anyrowline_k06_refusals_of_made_lines.main.body.getD i (.Pass ⟨0, 0, 0, 0⟩)
def mth (i j : Nat) : Stmt := (clsB (top i)).getD j (.Pass ⟨0, 0, 0, 0⟩)
abbrev c_Line : Nat := 0
abbrev e_BadValue : Nat := 100
abbrev e_BadTask : Nat := 101
abbrev e_BadPair : Nat := 102
abbrev e_BadModel : Nat := 103
abbrev e_TooMany : Nat := 104
abbrev e_BadState : Nat := 105
abbrev i_law : Nat := 0
abbrev i__law_numbers : Nat := 1
abbrev i__law_case : Nat := 2
abbrev i__law_made : Nat := 3
abbrev i__law_made_fault : Nat := 4
abbrev i__law_take : Nat := 5
abbrev i__law_set : Nat := 6
abbrev i__law_line : Nat := 7
abbrev i__law_loose : Nat := 8
abbrev i_Line___init__ : Nat := 9
abbrev i_BadValue___init__ : Nat := 10
abbrev i_BadTask___init__ : Nat := 11
abbrev i_BadPair___init__ : Nat := 12
abbrev i_BadModel___init__ : Nat := 13
abbrev i_TooMany___init__ : Nat := 14
abbrev i_with_slips : Nat := 15
abbrev i_with_times : Nat := 16
abbrev i_repeated : Nat := 17
abbrev i_free_line : Nat := 18
abbrev i__law_draw : Nat := 19
abbrev i__law_task : Nat := 20
abbrev i__law_pairs_of : Nat := 21
abbrev i__law_model : Nat := 22
abbrev i__law_states : Nat := 23
abbrev i_is_filled : Nat := 24
abbrev i_tasks_with_tuples : Nat := 25
abbrev i_is_sequence : Nat := 26
abbrev i_order_with_tuples : Nat := 27
abbrev i_is_model : Nat := 28
abbrev i_is_state : Nat := 29
abbrev i_BadState___init__ : Nat := 30
abbrev i_is_integer_in : Nat := 31
abbrev i_is_slips : Nat := 32
abbrev i_frozen : Nat := 33
abbrev i_Line_tasks : Nat := 34
abbrev i_Line_order : Nat := 35
abbrev i_Line_models : Nat := 36
abbrev i_Line_states : Nat := 37
abbrev i_Line_start : Nat := 38
abbrev i_is_sequence_of : Nat := 39
abbrev i_Line_slips : Nat := 40
abbrev i_are_below : Nat := 41
abbrev i__law_time : Nat := 42
abbrev i__law_mixed : Nat := 43
abbrev i_is_task : Nat := 44
abbrev i_leads_to : Nat := 45
abbrev i_ascending : Nat := 46
abbrev i_is_integer : Nat := 47
abbrev i__law_wide : Nat := 48
def F_law : Fn := ⟨1, 10, [.asg (.nam 1) (.call i__law_numbers [(.var 0)] []),
    .asg (.nam 2) (.new (.lst [(.lit (.int 0))])),
    .asg (.nam 3) (.call i__law_case [(.var 1), (.var 2)] []),
    .asg (.nam 4) (.call i__law_made [(.var 3), (.lit (.int 0))] []),
    .asg (.nam 5) (.bi .len [(.ix (.var 3) (.lit (.int 0)))]),
    .ifs (.cmp .ne (.call i__law_made_fault [(.lit (.int 0)), (.var 4), (.ix (.lst [(.lit (.int 9)), (.neg (.lit (.int 1))), (.lit (.bl true)), (.lit (.str "0")), (.tup [])]) (.call i__law_take [(.var 1), (.var 2), (.lit (.int 5))] [])), (.lit (.int 0)), (.lit (.int 0))] []) (.tup [(.lit (.str "value")), (.lit (.int 2))])) [.ret (.lit (.bl false))] [],
    .ifs (.cmp .ne (.call i__law_made_fault [(.lit (.int 1)), (.var 4), (.ix (.lst [(.slc (.ix (.var 3) (.lit (.int 0))) (some (.lit (.int 1))) none), (.bin .add (.ix (.var 3) (.lit (.int 0))) (.tup [(.tup [(.lit (.int 1)), (.lit (.int 1))])])), (.lit .non), (.lit (.int 5)), (.lit (.str "ab"))]) (.call i__law_take [(.var 1), (.var 2), (.lit (.int 5))] [])), (.lit (.int 0)), (.lit (.int 0))] []) (.tup [(.lit (.str "value")), (.lit (.int 2))])) [.ret (.lit (.bl false))] [],
    .asg (.nam 6) (.call i__law_take [(.var 1), (.var 2), (.var 5)] []),
    .asg (.nam 7) (.call i__law_set [(.ix (.var 3) (.lit (.int 0))), (.var 6), (.ix (.lst [(.tup [(.lit (.int 2)), (.lit (.int 1))]), (.tup [(.lit (.int 0)), (.lit (.int 10001))]), (.lit .non), (.tup [(.lit (.int 1))]), (.lit (.str "12")), (.tup [(.lit (.bl true)), (.lit (.int 2))])]) (.call i__law_take [(.var 1), (.var 2), (.lit (.int 6))] []))] []),
    .ifs (.or [(.cmp .ne (.call i__law_made_fault [(.lit (.int 1)), (.var 4), (.var 7), (.lit (.int 0)), (.lit (.int 0))] []) (.tup [(.lit (.str "task")), (.var 6)])), (.cmp .ne (.call i__law_made_fault [(.lit (.int 3)), (.var 7), (.ix (.var 3) (.lit (.int 1))), (.ix (.var 3) (.lit (.int 2))), (.lit (.int 9))] []) (.tup [(.lit (.str "task")), (.var 6)]))]) [.ret (.lit (.bl false))] [],
    .asg (.nam 8) (.lst [(.tup []), (.lit .non), (.lit (.int 5)), (.lit (.str "0")), (.tup [(.bi .len [(.ix (.var 3) (.lit (.int 2)))])]), (.tup [(.lit (.int 0)), (.neg (.lit (.int 1)))]), (.tup [(.lit (.bl true))]), (.bi .tuple [(.comp (.nam 9) (.rng [(.lit (.int 41))]) none (.lit (.int 0)) [9])])]),
    .ifs (.cmp .ne (.call i__law_made_fault [(.lit (.int 2)), (.var 4), (.ix (.var 8) (.call i__law_take [(.var 1), (.var 2), (.lit (.int 8))] [])), (.lit (.int 0)), (.lit (.int 0))] []) (.tup [(.lit (.str "value")), (.lit (.int 2))])) [.ret (.lit (.bl false))] [],
    .ifs (.cmp .ne (.call i__law_made_fault [(.lit (.int 3)), (.ix (.var 3) (.lit (.int 0))), (.bin .add (.ix (.var 3) (.lit (.int 1))) (.tup [(.tup [(.lit (.int 0)), (.lit (.int 0))])])), (.lit .non), (.lit (.int 0))] []) (.tup [(.lit (.str "pair")), (.bi .len [(.ix (.var 3) (.lit (.int 1)))])])) [.ret (.lit (.bl false))] [],
    .ifs (.cmp .ne (.call i__law_made_fault [(.lit (.int 3)), (.ix (.var 3) (.lit (.int 0))), (.ix (.var 3) (.lit (.int 1))), (.bin .add (.ix (.var 3) (.lit (.int 2))) (.tup [(.tup [(.var 5)])])), (.lit (.int 0))] []) (.tup [(.lit (.str "model")), (.bi .len [(.ix (.var 3) (.lit (.int 2)))])])) [.ret (.lit (.bl false))] [],
    .ret (.and [(.cmp .eq (.call i__law_made_fault [(.lit (.int 3)), (.ix (.var 3) (.lit (.int 0))), (.ix (.var 3) (.lit (.int 1))), (.ix (.var 3) (.lit (.int 2))), (.lit (.int 9))] []) (.tup [(.lit (.str "value")), (.lit (.int 6))])), (.isN (.call i__law_made_fault [(.lit (.int 3)), (.ix (.var 3) (.lit (.int 0))), (.ix (.var 3) (.lit (.int 1))), (.ix (.var 3) (.lit (.int 2))), (.lit .non)] []))])]⟩
def F__law_numbers : Fn := ⟨1, 6, [.asg (.nam 1) (.new (.lst [])),
    .for_ (.nam 2) (.seq (.slc (.var 0) none (some (.lit (.int 63))))) [.ifs (.cmp .ge (.var 2) (.bin .pow (.lit (.int 10)) (.lit (.int 18)))) [.asg (.nam 3) (.var 2),
    .for_ (.nam 4) (.rng [(.lit (.int 60))]) [.ifs (.cmp .eq (.var 3) (.lit (.int 0))) [.brk] [],
    .expr (.bm .append (.var 1) [(.bin .mod (.bi .int [(.var 3)]) (.lit (.int 997)))]),
    .asg (.nam 3) (.bin .fdiv (.var 3) (.lit (.int 997)))]] [.for_ (.nam 4) (.rng [(.lit (.int 4))]) [.asg (.nam 5) (.bin .mod (.bi .int [(.bin .add (.bin .add (.bin .mul (.var 2) (.lit (.int 48271))) (.bin .mul (.var 4) (.lit (.int 69621)))) (.lit (.int 11)))]) (.lit (.int 2147483647))),
    .expr (.bm .append (.var 1) [(.bin .mod (.bi .int [(.bin .add (.bin .mul (.var 5) (.lit (.int 16807))) (.var 4))]) (.lit (.int 2147483629)))])]]],
    .ifs (.cmp .eq (.bi .len [(.var 1)]) (.lit (.int 0))) [.expr (.bm .append (.var 1) [(.lit (.int 0))])] [],
    .ret (.frz (.var 1))]⟩
def F__law_case : Fn := ⟨2, 3, [.asg (.nam 2) (.call i__law_take [(.var 0), (.var 1), (.lit (.int 4))] []),
    .ifs (.cmp .eq (.var 2) (.lit (.int 0))) [.ret (.call i__law_line [(.var 0), (.var 1), (.lit (.int 6)), (.lit (.int 4)), (.lit (.int 3)), (.lit (.int 3))] [])] [],
    .ifs (.cmp .eq (.var 2) (.lit (.int 1))) [.ret (.call i__law_line [(.var 0), (.var 1), (.lit (.int 4)), (.lit (.int 3)), (.lit (.int 2)), (.lit (.int 4))] [])] [],
    .ifs (.cmp .eq (.var 2) (.lit (.int 2))) [.ret (.call i__law_line [(.var 0), (.var 1), (.lit (.int 3)), (.lit (.int 2)), (.lit (.int 3)), (.lit (.int 2))] [])] [],
    .ret (.call i__law_line [(.var 0), (.var 1), (.lit (.int 12)), (.lit (.int 3)), (.lit (.int 2)), (.lit (.int 8))] [])]⟩
def F__law_made : Fn := ⟨2, 3, [.asg (.nam 2) (.call i__law_loose [(.ix (.var 0) (.lit (.int 0))), (.var 1)] []),
    .ret (.frz (.mkK c_Line i_Line___init__ [(.var 2), (.call i__law_loose [(.ix (.var 0) (.lit (.int 1))), (.bin .add (.var 1) (.lit (.int 1)))] []), (.call i__law_loose [(.ix (.var 0) (.lit (.int 2))), (.var 1)] []), (.call i__law_loose [(.ix (.var 0) (.lit (.int 3))), (.var 1)] []), (.ix (.var 0) (.lit (.int 4)))] [(.ix (.var 0) (.lit (.int 5)))]))]⟩
def F__law_made_fault : Fn := ⟨5, 6, [.trA [.ifs (.cmp .eq (.var 0) (.lit (.int 0))) [.expr (.call i_with_slips [(.var 1), (.var 2)] [])] [.ifs (.cmp .eq (.var 0) (.lit (.int 1))) [.expr (.call i_with_times [(.var 1), (.var 2)] [])] [.ifs (.cmp .eq (.var 0) (.lit (.int 2))) [.expr (.call i_repeated [(.var 1), (.var 2)] [])] [.expr (.callK i_free_line [(.var 1), (.var 2), (.var 3)] [(.var 4)])]]]] [(e_BadValue, (.tag "value")), (e_BadTask, (.tag "task")), (e_BadPair, (.tag "pair")), (e_BadModel, (.tag "model")), (e_TooMany, (.tag "many"))],
    .ret (.lit .non)]⟩
def F__law_take : Fn := ⟨3, 3, [.setIx (.var 1) (.lit (.int 0)) (.bin .add (.ix (.var 1) (.lit (.int 0))) (.lit (.int 1))),
    .ret (.call i__law_draw [(.var 0), (.bin .sub (.ix (.var 1) (.lit (.int 0))) (.lit (.int 1))), (.var 2)] [])]⟩
def F__law_set : Fn := ⟨3, 4, [.asg (.nam 3) (.new (.bi .list [(.var 0)])),
    .setIx (.var 3) (.var 1) (.var 2),
    .ret (.bi .tuple [(.var 3)])]⟩
def F__law_line : Fn := ⟨6, 15, [.asg (.nam 6) (.ix (.lst [(.lit (.int 0)), (.lit (.int 0)), (.lit (.int 1)), (.lit (.int 2))]) (.call i__law_take [(.var 0), (.var 1), (.lit (.int 4))] [])),
    .asg (.nam 7) (.bin .add (.lit (.int 1)) (.call i__law_take [(.var 0), (.var 1), (.var 2)] [])),
    .asg (.nam 8) (.bi .tuple [(.comp (.nam 14) (.rng [(.var 7)]) none (.call i__law_task [(.var 0), (.var 1), (.var 6)] []) [14])]),
    .asg (.nam 9) (.call i__law_pairs_of [(.var 0), (.var 1), (.var 7), (.call i__law_take [(.var 0), (.var 1), (.bin .add (.var 7) (.lit (.int 1)))] [])] []),
    .asg (.nam 10) (.bi .tuple [(.comp (.nam 14) (.rng [(.bin .add (.lit (.int 1)) (.call i__law_take [(.var 0), (.var 1), (.lit (.int 3))] []))]) none (.call i__law_model [(.var 0), (.var 1), (.var 7)] []) [14])]),
    .asg (.nam 11) (.call i__law_states [(.var 0), (.var 1), (.bi .len [(.var 10)]), (.var 3), (.var 4)] []),
    .asg (.nam 12) (.call i__law_take [(.var 0), (.var 1), (.bi .len [(.var 11)])] []),
    .asg (.nam 13) (.ite (.cmp .eq (.call i__law_take [(.var 0), (.var 1), (.lit (.int 5))] []) (.lit (.int 0))) (.lit .non) (.call i__law_take [(.var 0), (.var 1), (.bin .add (.var 5) (.lit (.int 1)))] [])),
    .ret (.tup [(.var 8), (.var 9), (.var 10), (.var 11), (.var 12), (.var 13)])]⟩
def F__law_loose : Fn := ⟨2, 4, [.ifs (.isi (.var 0) [.tuple]) [.asg (.nam 2) (.comp (.nam 3) (.seq (.var 0)) none (.call i__law_loose [(.var 3), (.bin .add (.var 1) (.lit (.int 1)))] []) [3]),
    .ret (.ite (.cmp .eq (.bin .mod (.bi .int [(.var 1)]) (.lit (.int 2))) (.lit (.int 0))) (.var 2) (.bi .tuple [(.var 2)]))] [],
    .ret (.var 0)]⟩
def F_Line___init__ : Fn := ⟨7, 12, [.ifs (.not (.call i_is_filled [(.var 1)] [])) [.rse e_BadValue i_BadValue___init__ (.lit (.int 1))] [],
    .ifs (.cmp .gt (.bi .len [(.var 1)]) (.glo "MOST_TASKS")) [.rse e_TooMany i_TooMany___init__ (.lit (.str "tasks"))] [],
    .asg (.nam 7) (.call i_tasks_with_tuples [(.var 1)] []),
    .ifs (.not (.call i_is_sequence [(.var 2)] [])) [.rse e_BadValue i_BadValue___init__ (.lit (.int 2))] [],
    .ifs (.cmp .gt (.bi .len [(.var 2)]) (.glo "MOST_PAIRS")) [.rse e_TooMany i_TooMany___init__ (.lit (.str "pairs"))] [],
    .asg (.nam 8) (.call i_order_with_tuples [(.var 2), (.bi .len [(.var 1)])] []),
    .ifs (.not (.call i_is_filled [(.var 3)] [])) [.rse e_BadValue i_BadValue___init__ (.lit (.int 3))] [],
    .ifs (.cmp .gt (.bi .len [(.var 3)]) (.glo "MOST_MODELS")) [.rse e_TooMany i_TooMany___init__ (.lit (.str "models"))] [],
    .for_ (.tup [(.nam 9), (.nam 10)]) (.enm (.var 3)) [.ifs (.not (.call i_is_model [(.var 10), (.bi .len [(.var 1)])] [])) [.rse e_BadModel i_BadModel___init__ (.var 9)] []],
    .ifs (.not (.call i_is_filled [(.var 4)] [])) [.rse e_BadValue i_BadValue___init__ (.lit (.int 4))] [],
    .ifs (.cmp .gt (.bi .len [(.var 4)]) (.glo "MOST_STATES")) [.rse e_TooMany i_TooMany___init__ (.lit (.str "states"))] [],
    .for_ (.tup [(.nam 9), (.nam 11)]) (.enm (.var 4)) [.ifs (.not (.call i_is_state [(.var 11), (.bi .len [(.var 3)]), (.bi .len [(.var 4)])] [])) [.rse e_BadState i_BadState___init__ (.var 9)] []],
    .ifs (.not (.call i_is_integer_in [(.var 5), (.lit (.int 0)), (.bin .sub (.bi .len [(.var 4)]) (.lit (.int 1)))] [])) [.rse e_BadValue i_BadValue___init__ (.lit (.int 5))] [],
    .ifs (.not (.call i_is_slips [(.var 6)] [])) [.rse e_BadValue i_BadValue___init__ (.lit (.int 6))] [],
    .setFld (.var 0) "_parts" (.tup [(.var 7), (.var 8), (.call i_frozen [(.var 3)] []), (.call i_frozen [(.var 4)] []), (.var 5), (.var 6)])]⟩
def F_BadValue___init__ : Fn := ⟨2, 2, []⟩
def F_BadTask___init__ : Fn := ⟨2, 2, []⟩
def F_BadPair___init__ : Fn := ⟨2, 2, []⟩
def F_BadModel___init__ : Fn := ⟨2, 2, []⟩
def F_TooMany___init__ : Fn := ⟨2, 2, []⟩
def F_with_slips : Fn := ⟨2, 2, [.ifs (.not (.call i_is_slips [(.var 1)] [])) [.rse e_BadValue i_BadValue___init__ (.lit (.int 2))] [],
    .ret (.frz (.mkK c_Line i_Line___init__ [(.prop c_Line i_Line_tasks (.var 0)), (.prop c_Line i_Line_order (.var 0)), (.prop c_Line i_Line_models (.var 0)), (.prop c_Line i_Line_states (.var 0)), (.prop c_Line i_Line_start (.var 0))] [(.var 1)]))]⟩
def F_with_times : Fn := ⟨2, 2, [.ifs (.not (.call i_is_sequence_of [(.var 1), (.bi .len [(.prop c_Line i_Line_tasks (.var 0))])] [])) [.rse e_BadValue i_BadValue___init__ (.lit (.int 2))] [],
    .ret (.frz (.mkK c_Line i_Line___init__ [(.var 1), (.prop c_Line i_Line_order (.var 0)), (.prop c_Line i_Line_models (.var 0)), (.prop c_Line i_Line_states (.var 0)), (.prop c_Line i_Line_start (.var 0))] [(.prop c_Line i_Line_slips (.var 0))]))]⟩
def F_repeated : Fn := ⟨2, 5, [.ifs (.or [(.not (.call i_is_filled [(.var 1)] [])), (.cmp .gt (.bi .len [(.var 1)]) (.glo "MOST_ROW")), (.not (.call i_are_below [(.var 1), (.bi .len [(.prop c_Line i_Line_models (.var 0))])] []))]) [.rse e_BadValue i_BadValue___init__ (.lit (.int 2))] [],
    .asg (.nam 2) (.new (.lst [])),
    .for_ (.tup [(.nam 3), (.nam 4)]) (.enm (.var 1)) [.expr (.bm .append (.var 2) [(.lst [(.tup [(.var 4), (.ite (.cmp .lt (.bin .add (.var 3) (.lit (.int 1))) (.bi .len [(.var 1)])) (.bin .add (.var 3) (.lit (.int 1))) (.lit (.int 0)))])])])],
    .ret (.frz (.mkK c_Line i_Line___init__ [(.prop c_Line i_Line_tasks (.var 0)), (.prop c_Line i_Line_order (.var 0)), (.prop c_Line i_Line_models (.var 0)), (.frz (.var 2)), (.lit (.int 0))] [(.prop c_Line i_Line_slips (.var 0))]))]⟩
def F_free_line : Fn := ⟨4, 7, [.asg (.nam 4) (.ite (.call i_is_sequence [(.var 2)] []) (.bi .len [(.var 2)]) (.lit (.int 0))),
    .asg (.nam 5) (.comp (.nam 6) (.rng [(.var 4)]) none (.tup [(.var 6), (.lit (.int 0))]) [6]),
    .ret (.frz (.mkK c_Line i_Line___init__ [(.var 0), (.var 1), (.var 2), (.lst [(.var 5)]), (.lit (.int 0))] [(.var 3)]))]⟩
def F__law_draw : Fn := ⟨3, 4, [.ifs (.cmp .lt (.var 1) (.bi .len [(.var 0)])) [.ret (.bin .mod (.bi .int [(.ix (.var 0) (.var 1))]) (.var 2))] [],
    .asg (.nam 3) (.bin .mod (.bi .int [(.bin .add (.bin .add (.bin .mul (.ix (.var 0) (.bin .mod (.bi .int [(.var 1)]) (.bi .len [(.var 0)]))) (.lit (.int 40692))) (.bin .mul (.var 1) (.lit (.int 7919)))) (.lit (.int 3)))]) (.lit (.int 2147483399))),
    .ret (.bin .mod (.bi .int [(.bin .mod (.bi .int [(.bin .add (.bin .mul (.var 3) (.lit (.int 48271))) (.var 1))]) (.lit (.int 2147483647)))]) (.var 2))]⟩
def F__law_task : Fn := ⟨3, 4, [.asg (.nam 3) (.call i__law_time [(.var 0), (.var 1), (.var 2)] []),
    .ifs (.cmp .eq (.call i__law_take [(.var 0), (.var 1), (.lit (.int 2))] []) (.lit (.int 0))) [.ret (.tup [(.var 3), (.var 3)])] [],
    .ret (.tup [(.var 3), (.bi .min [(.lit (.int 10000)), (.bin .add (.var 3) (.call i__law_time [(.var 0), (.var 1), (.var 2)] []))])])]⟩
def F__law_pairs_of : Fn := ⟨4, 10, [.asg (.nam 4) (.call i__law_mixed [(.var 0), (.var 1), (.rngT false [(.var 2)])] []),
    .asg (.nam 5) (.new (.lst [])),
    .for_ (.nam 6) (.rng [(.var 3)]) [.asg (.nam 7) (.call i__law_take [(.var 0), (.var 1), (.var 2)] []),
    .asg (.nam 8) (.call i__law_take [(.var 0), (.var 1), (.var 2)] []),
    .ifs (.cmp .ne (.var 7) (.var 8)) [.asg (.nam 9) (.tup [(.ix (.var 4) (.bi .min [(.var 7), (.var 8)])), (.ix (.var 4) (.bi .max [(.var 7), (.var 8)]))]),
    .ifs (.cmp .notIn (.var 9) (.var 5)) [.expr (.bm .append (.var 5) [(.var 9)])] []] []],
    .ret (.bi .tuple [(.var 5)])]⟩
def F__law_model : Fn := ⟨3, 5, [.asg (.nam 3) (.call i__law_take [(.var 0), (.var 1), (.lit (.int 4))] []),
    .ifs (.cmp .eq (.var 3) (.lit (.int 0))) [.ret (.rngT true [(.var 2)])] [],
    .ret (.bi .tuple [(.comp (.nam 4) (.rng [(.var 2)]) (some (.cmp .gt (.call i__law_take [(.var 0), (.var 1), (.lit (.int 3))] []) (.lit (.int 0)))) (.var 4) [4])])]⟩
def F__law_states : Fn := ⟨5, 11, [.asg (.nam 5) (.bin .add (.lit (.int 1)) (.call i__law_take [(.var 0), (.var 1), (.var 3)] [])),
    .asg (.nam 6) (.new (.lst [])),
    .for_ (.nam 7) (.rng [(.var 5)]) [.asg (.nam 8) (.new (.lst [])),
    .for_ (.nam 9) (.rng [(.bin .add (.lit (.int 1)) (.call i__law_take [(.var 0), (.var 1), (.var 4)] []))]) [.asg (.nam 10) (.tup [(.call i__law_take [(.var 0), (.var 1), (.var 2)] []), (.call i__law_take [(.var 0), (.var 1), (.var 5)] [])]),
    .ifs (.cmp .notIn (.var 10) (.var 8)) [.expr (.bm .append (.var 8) [(.var 10)])] []],
    .expr (.bm .append (.var 6) [(.bi .tuple [(.var 8)])])],
    .ret (.bi .tuple [(.var 6)])]⟩
def F_is_filled : Fn := ⟨1, 1, [.ret (.and [(.call i_is_sequence [(.var 0)] []), (.cmp .gt (.bi .len [(.var 0)]) (.lit (.int 0)))])]⟩
def F_tasks_with_tuples : Fn := ⟨1, 3, [.for_ (.tup [(.nam 1), (.nam 2)]) (.enm (.var 0)) [.ifs (.not (.call i_is_task [(.var 2)] [])) [.rse e_BadTask i_BadTask___init__ (.var 1)] []],
    .ret (.call i_frozen [(.var 0)] [])]⟩
def F_is_sequence : Fn := ⟨1, 1, [.ret (.isi (.var 0) [.list, .tuple])]⟩
def F_order_with_tuples : Fn := ⟨2, 6, [.asg (.nam 2) (.new (.lst [])),
    .for_ (.tup [(.nam 3), (.nam 4)]) (.enm (.var 0)) [.ifs (.or [(.not (.call i_is_sequence_of [(.var 4), (.lit (.int 2))] [])), (.not (.call i_are_below [(.var 4), (.var 1)] [])), (.cmp .eq (.ix (.var 4) (.lit (.int 0))) (.ix (.var 4) (.lit (.int 1))))]) [.rse e_BadPair i_BadPair___init__ (.var 3)] [],
    .asg (.nam 5) (.tup [(.ix (.var 4) (.lit (.int 0))), (.ix (.var 4) (.lit (.int 1)))]),
    .ifs (.or [(.cmp .isIn (.var 5) (.var 2)), (.call i_leads_to [(.var 2), (.ix (.var 5) (.lit (.int 1))), (.ix (.var 5) (.lit (.int 0)))] [])]) [.rse e_BadPair i_BadPair___init__ (.var 3)] [],
    .expr (.bm .append (.var 2) [(.var 5)])],
    .ret (.bi .tuple [(.var 2)])]⟩
def F_is_model : Fn := ⟨2, 2, [.ret (.and [(.call i_are_below [(.var 0), (.var 1)] []), (.call i_ascending [(.var 0)] [])])]⟩
def F_is_state : Fn := ⟨3, 5, [.ifs (.or [(.not (.call i_is_sequence [(.var 0)] [])), (.not (.chain .le .le (.lit (.int 1)) (.bi .len [(.var 0)]) (.glo "MOST_ARCS")))]) [.ret (.lit (.bl false))] [],
    .asg (.nam 3) (.new (.lst [])),
    .for_ (.nam 4) (.seq (.var 0)) [.ifs (.or [(.not (.call i_is_sequence_of [(.var 4), (.lit (.int 2))] [])), (.not (.call i_is_integer_in [(.ix (.var 4) (.lit (.int 0))), (.lit (.int 0)), (.bin .sub (.var 1) (.lit (.int 1)))] []))]) [.ret (.lit (.bl false))] [],
    .ifs (.or [(.not (.call i_is_integer_in [(.ix (.var 4) (.lit (.int 1))), (.lit (.int 0)), (.bin .sub (.var 2) (.lit (.int 1)))] [])), (.cmp .isIn (.tup [(.ix (.var 4) (.lit (.int 0))), (.ix (.var 4) (.lit (.int 1)))]) (.var 3))]) [.ret (.lit (.bl false))] [],
    .expr (.bm .append (.var 3) [(.tup [(.ix (.var 4) (.lit (.int 0))), (.ix (.var 4) (.lit (.int 1)))])])],
    .ret (.lit (.bl true))]⟩
def F_BadState___init__ : Fn := ⟨2, 2, []⟩
def F_is_integer_in : Fn := ⟨3, 3, [.ret (.and [(.call i_is_integer [(.var 0)] []), (.chain .le .le (.var 1) (.var 0) (.var 2))])]⟩
def F_is_slips : Fn := ⟨1, 1, [.ret (.or [(.isN (.var 0)), (.call i_is_integer_in [(.var 0), (.lit (.int 0)), (.glo "MOST_SLIPS")] [])])]⟩
def F_frozen : Fn := ⟨1, 2, [.ifs (.call i_is_sequence [(.var 0)] []) [.ret (.bi .tuple [(.comp (.nam 1) (.seq (.var 0)) none (.call i_frozen [(.var 1)] []) [1])])] [],
    .ret (.var 0)]⟩
def F_Line_tasks : Fn := ⟨1, 1, [.ret (.ix (.fld (.var 0) "_parts") (.lit (.int 0)))]⟩
def F_Line_order : Fn := ⟨1, 1, [.ret (.ix (.fld (.var 0) "_parts") (.lit (.int 1)))]⟩
def F_Line_models : Fn := ⟨1, 1, [.ret (.ix (.fld (.var 0) "_parts") (.lit (.int 2)))]⟩
def F_Line_states : Fn := ⟨1, 1, [.ret (.ix (.fld (.var 0) "_parts") (.lit (.int 3)))]⟩
def F_Line_start : Fn := ⟨1, 1, [.ret (.ix (.fld (.var 0) "_parts") (.lit (.int 4)))]⟩
def F_is_sequence_of : Fn := ⟨2, 2, [.ret (.and [(.call i_is_sequence [(.var 0)] []), (.cmp .eq (.bi .len [(.var 0)]) (.var 1))])]⟩
def F_Line_slips : Fn := ⟨1, 1, [.ret (.ix (.fld (.var 0) "_parts") (.lit (.int 5)))]⟩
def F_are_below : Fn := ⟨2, 3, [.ret (.and [(.call i_is_sequence [(.var 0)] []), (.bi .all [(.comp (.nam 2) (.seq (.var 0)) none (.call i_is_integer_in [(.var 2), (.lit (.int 0)), (.bin .sub (.var 1) (.lit (.int 1)))] []) [2])])])]⟩
def F__law_time : Fn := ⟨3, 3, [.ifs (.cmp .eq (.var 2) (.lit (.int 0))) [.ret (.call i__law_take [(.var 0), (.var 1), (.lit (.int 7))] [])] [],
    .ifs (.cmp .eq (.var 2) (.lit (.int 1))) [.ret (.call i__law_take [(.var 0), (.var 1), (.lit (.int 100))] [])] [],
    .ret (.ix (.lst [(.lit (.int 0)), (.lit (.int 1)), (.lit (.int 10000)), (.call i__law_wide [(.var 0), (.var 1), (.lit (.int 10001))] [])]) (.call i__law_take [(.var 0), (.var 1), (.lit (.int 4))] []))]⟩
def F__law_mixed : Fn := ⟨3, 7, [.asg (.nam 3) (.bi .list [(.var 2)]),
    .asg (.nam 4) (.new (.lst [])),
    .for_ (.nam 5) (.rng [(.bi .len [(.var 2)])]) [.asg (.nam 6) (.call i__law_take [(.var 0), (.var 1), (.bi .len [(.var 3)])] []),
    .expr (.bm .append (.var 4) [(.ix (.var 3) (.var 6))]),
    .asg (.nam 3) (.bin .add (.slc (.var 3) none (some (.var 6))) (.slc (.var 3) (some (.bin .add (.var 6) (.lit (.int 1)))) none))],
    .ret (.frz (.var 4))]⟩
def F_is_task : Fn := ⟨1, 1, [.ifs (.or [(.not (.call i_is_sequence_of [(.var 0), (.lit (.int 2))] [])), (.not (.call i_is_integer_in [(.ix (.var 0) (.lit (.int 0))), (.lit (.int 0)), (.glo "MOST_TIME")] []))]) [.ret (.lit (.bl false))] [],
    .ret (.call i_is_integer_in [(.ix (.var 0) (.lit (.int 1))), (.ix (.var 0) (.lit (.int 0))), (.glo "MOST_TIME")] [])]⟩
def F_leads_to : Fn := ⟨3, 8, [.asg (.nam 3) (.new (.lst [])),
    .asg (.nam 4) (.new (.lst [(.var 1)])),
    .whl (.var 4) [.asg (.nam 5) (.bm .pop (.var 4) []),
    .ifs (.cmp .eq (.var 5) (.var 2)) [.ret (.lit (.bl true))] [],
    .ifs (.cmp .notIn (.var 5) (.var 3)) [.expr (.bm .append (.var 3) [(.var 5)]),
    .expr (.bm .extend (.var 4) [(.comp (.tup [(.nam 6), (.nam 7)]) (.seq (.var 0)) (some (.cmp .eq (.var 6) (.var 5))) (.var 7) [6, 7])])] []],
    .ret (.lit (.bl false))]⟩
def F_ascending : Fn := ⟨1, 2, [.ret (.bi .all [(.comp (.nam 1) (.rng [(.bin .sub (.bi .len [(.var 0)]) (.lit (.int 1)))]) none (.cmp .lt (.ix (.var 0) (.var 1)) (.ix (.var 0) (.bin .add (.var 1) (.lit (.int 1))))) [1])])]⟩
def F_is_integer : Fn := ⟨1, 1, [.ret (.and [(.isi (.var 0) [.int]), (.not (.isi (.var 0) [.bool]))])]⟩
def F__law_wide : Fn := ⟨3, 6, [.asg (.nam 3) (.call i__law_take [(.var 0), (.var 1), (.lit (.int 997))] []),
    .asg (.nam 4) (.call i__law_take [(.var 0), (.var 1), (.lit (.int 997))] []),
    .asg (.nam 5) (.call i__law_take [(.var 0), (.var 1), (.lit (.int 997))] []),
    .ret (.bin .mod (.bi .int [(.bin .add (.bin .add (.bin .mul (.var 3) (.lit (.int 994009))) (.bin .mul (.var 4) (.lit (.int 997)))) (.var 5))]) (.var 2))]⟩
def d_law : Df := { id := i_law, pl := .glo, name := "law", qual := "law", params := defArgs (top 55), body := defBody (top 55), scope := defScope (top 55), N := [("script" : Str), ("row" : Str), ("spot" : Str), ("line" : Str), ("made" : Str), ("count" : Str), ("at" : Str), ("bad" : Str), ("rows" : Str), ("k" : Str)], ps := [("script" : Str)], kws := [], F := F_law }
def d__law_numbers : Df := { id := i__law_numbers, pl := .glo, name := "_law_numbers", qual := "_law_numbers", params := defArgs (top 39), body := defBody (top 39), scope := defScope (top 39), N := [("script" : Str), ("row" : Str), ("cell" : Str), ("left" : Str), ("k" : Str), ("mixed" : Str)], ps := [("script" : Str)], kws := [], F := F__law_numbers }
def d__law_case : Df := { id := i__law_case, pl := .glo, name := "_law_case", qual := "_law_case", params := defArgs (top 54), body := defBody (top 54), scope := defScope (top 54), N := [("row" : Str), ("spot" : Str), ("style" : Str)], ps := [("row" : Str), ("spot" : Str)], kws := [], F := F__law_case }
def d__law_made : Df := { id := i__law_made, pl := .glo, name := "_law_made", qual := "_law_made", params := defArgs (top 52), body := defBody (top 52), scope := defScope (top 52), N := [("line" : Str), ("turn" : Str), ("jobs" : Str)], ps := [("line" : Str), ("turn" : Str)], kws := [], F := F__law_made }
def d__law_made_fault : Df := { id := i__law_made_fault, pl := .glo, name := "_law_made_fault", qual := "_law_made_fault", params := defArgs (top 53), body := defBody (top 53), scope := defScope (top 53), N := [("kind" : Str), ("first" : Str), ("second" : Str), ("third" : Str), ("fourth" : Str), ("error" : Str)], ps := [("kind" : Str), ("first" : Str), ("second" : Str), ("third" : Str), ("fourth" : Str)], kws := [], F := F__law_made_fault }
def d__law_take : Df := { id := i__law_take, pl := .glo, name := "_law_take", qual := "_law_take", params := defArgs (top 41), body := defBody (top 41), scope := defScope (top 41), N := [("row" : Str), ("spot" : Str), ("limit" : Str)], ps := [("row" : Str), ("spot" : Str), ("limit" : Str)], kws := [], F := F__law_take }
def d__law_set : Df := { id := i__law_set, pl := .glo, name := "_law_set", qual := "_law_set", params := defArgs (top 44), body := defBody (top 44), scope := defScope (top 44), N := [("values" : Str), ("at" : Str), ("value" : Str), ("made" : Str)], ps := [("values" : Str), ("at" : Str), ("value" : Str)], kws := [], F := F__law_set }
def d__law_line : Df := { id := i__law_line, pl := .glo, name := "_law_line", qual := "_law_line", params := defArgs (top 51), body := defBody (top 51), scope := defScope (top 51), N := [("row" : Str), ("spot" : Str), ("tasks" : Str), ("wide" : Str), ("many" : Str), ("slips" : Str), ("style" : Str), ("count" : Str), ("jobs" : Str), ("pairs" : Str), ("kinds" : Str), ("states" : Str), ("start" : Str), ("left" : Str), ("k" : Str)], ps := [("row" : Str), ("spot" : Str), ("tasks" : Str), ("wide" : Str), ("many" : Str), ("slips" : Str)], kws := [], F := F__law_line }
def d__law_loose : Df := { id := i__law_loose, pl := .glo, name := "_law_loose", qual := "_law_loose", params := defArgs (top 43), body := defBody (top 43), scope := defScope (top 43), N := [("value" : Str), ("turn" : Str), ("made" : Str), ("one" : Str)], ps := [("value" : Str), ("turn" : Str)], kws := [], F := F__law_loose }
def d_Line___init__ : Df := { id := i_Line___init__, pl := (.ini c_Line), name := "__init__", qual := "Line.__init__", params := defArgs (mth 33 0), body := defBody (mth 33 0), scope := defScope (mth 33 0), N := [("self" : Str), ("tasks" : Str), ("order" : Str), ("models" : Str), ("states" : Str), ("start" : Str), ("slips" : Str), ("fixed_tasks" : Str), ("fixed_order" : Str), ("at" : Str), ("model" : Str), ("state" : Str)], ps := [("self" : Str), ("tasks" : Str), ("order" : Str), ("models" : Str), ("states" : Str), ("start" : Str), ("slips" : Str)], kws := [(("slips" : Str), (.int 0))], F := F_Line___init__ }
def d_BadValue___init__ : Df := { id := i_BadValue___init__, pl := (.exi e_BadValue), name := "__init__", qual := "BadValue.__init__", params := defArgs (mth 10 0), body := defBody (mth 10 0), scope := defScope (mth 10 0), N := [("self" : Str), ("at" : Str)], ps := [("self" : Str), ("at" : Str)], kws := [], F := F_BadValue___init__ }
def d_BadTask___init__ : Df := { id := i_BadTask___init__, pl := (.exi e_BadTask), name := "__init__", qual := "BadTask.__init__", params := defArgs (mth 11 0), body := defBody (mth 11 0), scope := defScope (mth 11 0), N := [("self" : Str), ("at" : Str)], ps := [("self" : Str), ("at" : Str)], kws := [], F := F_BadTask___init__ }
def d_BadPair___init__ : Df := { id := i_BadPair___init__, pl := (.exi e_BadPair), name := "__init__", qual := "BadPair.__init__", params := defArgs (mth 12 0), body := defBody (mth 12 0), scope := defScope (mth 12 0), N := [("self" : Str), ("at" : Str)], ps := [("self" : Str), ("at" : Str)], kws := [], F := F_BadPair___init__ }
def d_BadModel___init__ : Df := { id := i_BadModel___init__, pl := (.exi e_BadModel), name := "__init__", qual := "BadModel.__init__", params := defArgs (mth 13 0), body := defBody (mth 13 0), scope := defScope (mth 13 0), N := [("self" : Str), ("at" : Str)], ps := [("self" : Str), ("at" : Str)], kws := [], F := F_BadModel___init__ }
def d_TooMany___init__ : Df := { id := i_TooMany___init__, pl := (.exi e_TooMany), name := "__init__", qual := "TooMany.__init__", params := defArgs (mth 15 0), body := defBody (mth 15 0), scope := defScope (mth 15 0), N := [("self" : Str), ("word" : Str)], ps := [("self" : Str), ("word" : Str)], kws := [], F := F_TooMany___init__ }
def d_with_slips : Df := { id := i_with_slips, pl := .glo, name := "with_slips", qual := "with_slips", params := defArgs (top 34), body := defBody (top 34), scope := defScope (top 34), N := [("line" : Str), ("slips" : Str)], ps := [("line" : Str), ("slips" : Str)], kws := [], F := F_with_slips }
def d_with_times : Df := { id := i_with_times, pl := .glo, name := "with_times", qual := "with_times", params := defArgs (top 35), body := defBody (top 35), scope := defScope (top 35), N := [("line" : Str), ("tasks" : Str)], ps := [("line" : Str), ("tasks" : Str)], kws := [], F := F_with_times }
def d_repeated : Df := { id := i_repeated, pl := .glo, name := "repeated", qual := "repeated", params := defArgs (top 37), body := defBody (top 37), scope := defScope (top 37), N := [("line" : Str), ("row" : Str), ("states" : Str), ("at" : Str), ("model" : Str)], ps := [("line" : Str), ("row" : Str)], kws := [], F := F_repeated }
def d_free_line : Df := { id := i_free_line, pl := .glo, name := "free_line", qual := "free_line", params := defArgs (top 36), body := defBody (top 36), scope := defScope (top 36), N := [("tasks" : Str), ("order" : Str), ("models" : Str), ("slips" : Str), ("many" : Str), ("state" : Str), ("model" : Str)], ps := [("tasks" : Str), ("order" : Str), ("models" : Str), ("slips" : Str)], kws := [(("slips" : Str), (.int 0))], F := F_free_line }
def d__law_draw : Df := { id := i__law_draw, pl := .glo, name := "_law_draw", qual := "_law_draw", params := defArgs (top 40), body := defBody (top 40), scope := defScope (top 40), N := [("row" : Str), ("at" : Str), ("limit" : Str), ("mixed" : Str)], ps := [("row" : Str), ("at" : Str), ("limit" : Str)], kws := [], F := F__law_draw }
def d__law_task : Df := { id := i__law_task, pl := .glo, name := "_law_task", qual := "_law_task", params := defArgs (top 47), body := defBody (top 47), scope := defScope (top 47), N := [("row" : Str), ("spot" : Str), ("style" : Str), ("usual" : Str)], ps := [("row" : Str), ("spot" : Str), ("style" : Str)], kws := [], F := F__law_task }
def d__law_pairs_of : Df := { id := i__law_pairs_of, pl := .glo, name := "_law_pairs_of", qual := "_law_pairs_of", params := defArgs (top 48), body := defBody (top 48), scope := defScope (top 48), N := [("row" : Str), ("spot" : Str), ("count" : Str), ("many" : Str), ("spots" : Str), ("made" : Str), ("k" : Str), ("one" : Str), ("other" : Str), ("pair" : Str)], ps := [("row" : Str), ("spot" : Str), ("count" : Str), ("many" : Str)], kws := [], F := F__law_pairs_of }
def d__law_model : Df := { id := i__law_model, pl := .glo, name := "_law_model", qual := "_law_model", params := defArgs (top 49), body := defBody (top 49), scope := defScope (top 49), N := [("row" : Str), ("spot" : Str), ("count" : Str), ("style" : Str), ("k" : Str)], ps := [("row" : Str), ("spot" : Str), ("count" : Str)], kws := [], F := F__law_model }
def d__law_states : Df := { id := i__law_states, pl := .glo, name := "_law_states", qual := "_law_states", params := defArgs (top 50), body := defBody (top 50), scope := defScope (top 50), N := [("row" : Str), ("spot" : Str), ("models" : Str), ("wide" : Str), ("many" : Str), ("count" : Str), ("made" : Str), ("k" : Str), ("arcs" : Str), ("j" : Str), ("arc" : Str)], ps := [("row" : Str), ("spot" : Str), ("models" : Str), ("wide" : Str), ("many" : Str)], kws := [], F := F__law_states }
def d_is_filled : Df := { id := i_is_filled, pl := .glo, name := "is_filled", qual := "is_filled", params := defArgs (top 32), body := defBody (top 32), scope := defScope (top 32), N := [("value" : Str)], ps := [("value" : Str)], kws := [], F := F_is_filled }
def d_tasks_with_tuples : Df := { id := i_tasks_with_tuples, pl := .glo, name := "tasks_with_tuples", qual := "tasks_with_tuples", params := defArgs (top 30), body := defBody (top 30), scope := defScope (top 30), N := [("value" : Str), ("at" : Str), ("task" : Str)], ps := [("value" : Str)], kws := [], F := F_tasks_with_tuples }
def d_is_sequence : Df := { id := i_is_sequence, pl := .glo, name := "is_sequence", qual := "is_sequence", params := defArgs (top 3), body := defBody (top 3), scope := defScope (top 3), N := [("value" : Str)], ps := [("value" : Str)], kws := [], F := F_is_sequence }
def d_order_with_tuples : Df := { id := i_order_with_tuples, pl := .glo, name := "order_with_tuples", qual := "order_with_tuples", params := defArgs (top 31), body := defBody (top 31), scope := defScope (top 31), N := [("value" : Str), ("many" : Str), ("pairs" : Str), ("at" : Str), ("pair" : Str), ("fixed" : Str)], ps := [("value" : Str), ("many" : Str)], kws := [], F := F_order_with_tuples }
def d_is_model : Df := { id := i_is_model, pl := .glo, name := "is_model", qual := "is_model", params := defArgs (top 26), body := defBody (top 26), scope := defScope (top 26), N := [("value" : Str), ("many" : Str)], ps := [("value" : Str), ("many" : Str)], kws := [], F := F_is_model }
def d_is_state : Df := { id := i_is_state, pl := .glo, name := "is_state", qual := "is_state", params := defArgs (top 27), body := defBody (top 27), scope := defScope (top 27), N := [("value" : Str), ("models" : Str), ("states" : Str), ("known" : Str), ("arc" : Str)], ps := [("value" : Str), ("models" : Str), ("states" : Str)], kws := [], F := F_is_state }
def d_BadState___init__ : Df := { id := i_BadState___init__, pl := (.exi e_BadState), name := "__init__", qual := "BadState.__init__", params := defArgs (mth 14 0), body := defBody (mth 14 0), scope := defScope (mth 14 0), N := [("self" : Str), ("at" : Str)], ps := [("self" : Str), ("at" : Str)], kws := [], F := F_BadState___init__ }
def d_is_integer_in : Df := { id := i_is_integer_in, pl := .glo, name := "is_integer_in", qual := "is_integer_in", params := defArgs (top 2), body := defBody (top 2), scope := defScope (top 2), N := [("value" : Str), ("least" : Str), ("most" : Str)], ps := [("value" : Str), ("least" : Str), ("most" : Str)], kws := [], F := F_is_integer_in }
def d_is_slips : Df := { id := i_is_slips, pl := .glo, name := "is_slips", qual := "is_slips", params := defArgs (top 28), body := defBody (top 28), scope := defScope (top 28), N := [("value" : Str)], ps := [("value" : Str)], kws := [], F := F_is_slips }
def d_frozen : Df := { id := i_frozen, pl := .glo, name := "frozen", qual := "frozen", params := defArgs (top 5), body := defBody (top 5), scope := defScope (top 5), N := [("value" : Str), ("element" : Str)], ps := [("value" : Str)], kws := [], F := F_frozen }
def d_Line_tasks : Df := { id := i_Line_tasks, pl := (.prop c_Line), name := "tasks", qual := "Line.tasks", params := defArgs (mth 33 1), body := defBody (mth 33 1), scope := defScope (mth 33 1), N := [("self" : Str)], ps := [("self" : Str)], kws := [], F := F_Line_tasks }
def d_Line_order : Df := { id := i_Line_order, pl := (.prop c_Line), name := "order", qual := "Line.order", params := defArgs (mth 33 2), body := defBody (mth 33 2), scope := defScope (mth 33 2), N := [("self" : Str)], ps := [("self" : Str)], kws := [], F := F_Line_order }
def d_Line_models : Df := { id := i_Line_models, pl := (.prop c_Line), name := "models", qual := "Line.models", params := defArgs (mth 33 3), body := defBody (mth 33 3), scope := defScope (mth 33 3), N := [("self" : Str)], ps := [("self" : Str)], kws := [], F := F_Line_models }
def d_Line_states : Df := { id := i_Line_states, pl := (.prop c_Line), name := "states", qual := "Line.states", params := defArgs (mth 33 4), body := defBody (mth 33 4), scope := defScope (mth 33 4), N := [("self" : Str)], ps := [("self" : Str)], kws := [], F := F_Line_states }
def d_Line_start : Df := { id := i_Line_start, pl := (.prop c_Line), name := "start", qual := "Line.start", params := defArgs (mth 33 5), body := defBody (mth 33 5), scope := defScope (mth 33 5), N := [("self" : Str)], ps := [("self" : Str)], kws := [], F := F_Line_start }
def d_is_sequence_of : Df := { id := i_is_sequence_of, pl := .glo, name := "is_sequence_of", qual := "is_sequence_of", params := defArgs (top 4), body := defBody (top 4), scope := defScope (top 4), N := [("value" : Str), ("size" : Str)], ps := [("value" : Str), ("size" : Str)], kws := [], F := F_is_sequence_of }
def d_Line_slips : Df := { id := i_Line_slips, pl := (.prop c_Line), name := "slips", qual := "Line.slips", params := defArgs (mth 33 6), body := defBody (mth 33 6), scope := defScope (mth 33 6), N := [("self" : Str)], ps := [("self" : Str)], kws := [], F := F_Line_slips }
def d_are_below : Df := { id := i_are_below, pl := .glo, name := "are_below", qual := "are_below", params := defArgs (top 7), body := defBody (top 7), scope := defScope (top 7), N := [("value" : Str), ("many" : Str), ("element" : Str)], ps := [("value" : Str), ("many" : Str)], kws := [], F := F_are_below }
def d__law_time : Df := { id := i__law_time, pl := .glo, name := "_law_time", qual := "_law_time", params := defArgs (top 46), body := defBody (top 46), scope := defScope (top 46), N := [("row" : Str), ("spot" : Str), ("style" : Str)], ps := [("row" : Str), ("spot" : Str), ("style" : Str)], kws := [], F := F__law_time }
def d__law_mixed : Df := { id := i__law_mixed, pl := .glo, name := "_law_mixed", qual := "_law_mixed", params := defArgs (top 45), body := defBody (top 45), scope := defScope (top 45), N := [("row" : Str), ("spot" : Str), ("things" : Str), ("left" : Str), ("made" : Str), ("k" : Str), ("at" : Str)], ps := [("row" : Str), ("spot" : Str), ("things" : Str)], kws := [], F := F__law_mixed }
def d_is_task : Df := { id := i_is_task, pl := .glo, name := "is_task", qual := "is_task", params := defArgs (top 25), body := defBody (top 25), scope := defScope (top 25), N := [("value" : Str)], ps := [("value" : Str)], kws := [], F := F_is_task }
def d_leads_to : Df := { id := i_leads_to, pl := .glo, name := "leads_to", qual := "leads_to", params := defArgs (top 29), body := defBody (top 29), scope := defScope (top 29), N := [("pairs" : Str), ("task" : Str), ("goal" : Str), ("passed" : Str), ("waiting" : Str), ("now" : Str), ("before" : Str), ("after" : Str)], ps := [("pairs" : Str), ("task" : Str), ("goal" : Str)], kws := [], F := F_leads_to }
def d_ascending : Df := { id := i_ascending, pl := .glo, name := "ascending", qual := "ascending", params := defArgs (top 6), body := defBody (top 6), scope := defScope (top 6), N := [("row" : Str), ("at" : Str)], ps := [("row" : Str)], kws := [], F := F_ascending }
def d_is_integer : Df := { id := i_is_integer, pl := .glo, name := "is_integer", qual := "is_integer", params := defArgs (top 1), body := defBody (top 1), scope := defScope (top 1), N := [("value" : Str)], ps := [("value" : Str)], kws := [], F := F_is_integer }
def d__law_wide : Df := { id := i__law_wide, pl := .glo, name := "_law_wide", qual := "_law_wide", params := defArgs (top 42), body := defBody (top 42), scope := defScope (top 42), N := [("row" : Str), ("spot" : Str), ("limit" : Str), ("first" : Str), ("second" : Str), ("third" : Str)], ps := [("row" : Str), ("spot" : Str), ("limit" : Str)], kws := [], F := F__law_wide }
def TB : Tab := { defs := [d_law, d__law_numbers, d__law_case, d__law_made, d__law_made_fault, d__law_take, d__law_set, d__law_line, d__law_loose, d_Line___init__, d_BadValue___init__, d_BadTask___init__, d_BadPair___init__, d_BadModel___init__, d_TooMany___init__, d_with_slips, d_with_times, d_repeated, d_free_line, d__law_draw, d__law_task, d__law_pairs_of, d__law_model, d__law_states, d_is_filled, d_tasks_with_tuples, d_is_sequence, d_order_with_tuples, d_is_model, d_is_state, d_BadState___init__, d_is_integer_in, d_is_slips, d_frozen, d_Line_tasks, d_Line_order, d_Line_models, d_Line_states, d_Line_start, d_is_sequence_of, d_Line_slips, d_are_below, d__law_time, d__law_mixed, d_is_task, d_leads_to, d_ascending, d_is_integer, d__law_wide], clss := [(c_Line, ("Line" : Str))], cons := [("MOST_TASKS", .int 24), ("MOST_PAIRS", .int 200), ("MOST_MODELS", .int 8), ("MOST_STATES", .int 60), ("MOST_ROW", .int 40), ("MOST_ARCS", .int 40), ("MOST_SLIPS", .int 8), ("MOST_TIME", .int 10000)], frees := ["len", "tuple", "range", "int", "list", "isinstance", "enumerate", "min", "max", "all", "bool"], atts := [("_parts" : Str)], turns := 10000, excs := [(e_BadValue, ("BadValue" : Str), ("at" : Str)), (e_BadTask, ("BadTask" : Str), ("at" : Str)), (e_BadPair, ("BadPair" : Str), ("at" : Str)), (e_BadModel, ("BadModel" : Str), ("at" : Str)), (e_TooMany, ("TooMany" : Str), ("word" : Str)), (e_BadState, ("BadState" : Str), ("at" : Str))] }
theorem T_chk : TB.chk = true := by decide +kernel
theorem e_law (kV doc pm : Value) (an : Option Addr) (cdv ct : Value) (us : List Value) (hl : us.length = d_law.ps.length) : bindArgs (PySem.W.fnOf d_law.name d_law.qual d_law.params d_law.body d_law.scope .none kV doc pm an cdv ct) ⟨us, []⟩ = pure (d_law.ps.zip us) := match us, hl with
  | [_], _ => rfl
theorem b_law : BndOk d_law := fun K a fd F => ⟨⟨[], .nil, FunD.bindsN F e_law⟩, fun h => absurd rfl h⟩
theorem e__law_numbers (kV doc pm : Value) (an : Option Addr) (cdv ct : Value) (us : List Value) (hl : us.length = d__law_numbers.ps.length) : bindArgs (PySem.W.fnOf d__law_numbers.name d__law_numbers.qual d__law_numbers.params d__law_numbers.body d__law_numbers.scope .none kV doc pm an cdv ct) ⟨us, []⟩ = pure (d__law_numbers.ps.zip us) := match us, hl with
  | [_], _ => rfl
theorem b__law_numbers : BndOk d__law_numbers := fun K a fd F => ⟨⟨[], .nil, FunD.bindsN F e__law_numbers⟩, fun h => absurd rfl h⟩
theorem e__law_case (kV doc pm : Value) (an : Option Addr) (cdv ct : Value) (us : List Value) (hl : us.length = d__law_case.ps.length) : bindArgs (PySem.W.fnOf d__law_case.name d__law_case.qual d__law_case.params d__law_case.body d__law_case.scope .none kV doc pm an cdv ct) ⟨us, []⟩ = pure (d__law_case.ps.zip us) := match us, hl with
  | [_, _], _ => rfl
theorem b__law_case : BndOk d__law_case := fun K a fd F => ⟨⟨[], .nil, FunD.bindsN F e__law_case⟩, fun h => absurd rfl h⟩
theorem e__law_made (kV doc pm : Value) (an : Option Addr) (cdv ct : Value) (us : List Value) (hl : us.length = d__law_made.ps.length) : bindArgs (PySem.W.fnOf d__law_made.name d__law_made.qual d__law_made.params d__law_made.body d__law_made.scope .none kV doc pm an cdv ct) ⟨us, []⟩ = pure (d__law_made.ps.zip us) := match us, hl with
  | [_, _], _ => rfl
theorem b__law_made : BndOk d__law_made := fun K a fd F => ⟨⟨[], .nil, FunD.bindsN F e__law_made⟩, fun h => absurd rfl h⟩
theorem e__law_made_fault (kV doc pm : Value) (an : Option Addr) (cdv ct : Value) (us : List Value) (hl : us.length = d__law_made_fault.ps.length) : bindArgs (PySem.W.fnOf d__law_made_fault.name d__law_made_fault.qual d__law_made_fault.params d__law_made_fault.body d__law_made_fault.scope .none kV doc pm an cdv ct) ⟨us, []⟩ = pure (d__law_made_fault.ps.zip us) := match us, hl with
  | [_, _, _, _, _], _ => rfl
theorem b__law_made_fault : BndOk d__law_made_fault := fun K a fd F => ⟨⟨[], .nil, FunD.bindsN F e__law_made_fault⟩, fun h => absurd rfl h⟩
theorem e__law_take (kV doc pm : Value) (an : Option Addr) (cdv ct : Value) (us : List Value) (hl : us.length = d__law_take.ps.length) : bindArgs (PySem.W.fnOf d__law_take.name d__law_take.qual d__law_take.params d__law_take.body d__law_take.scope .none kV doc pm an cdv ct) ⟨us, []⟩ = pure (d__law_take.ps.zip us) := match us, hl with
  | [_, _, _], _ => rfl
theorem b__law_take : BndOk d__law_take := fun K a fd F => ⟨⟨[], .nil, FunD.bindsN F e__law_take⟩, fun h => absurd rfl h⟩
theorem e__law_set (kV doc pm : Value) (an : Option Addr) (cdv ct : Value) (us : List Value) (hl : us.length = d__law_set.ps.length) : bindArgs (PySem.W.fnOf d__law_set.name d__law_set.qual d__law_set.params d__law_set.body d__law_set.scope .none kV doc pm an cdv ct) ⟨us, []⟩ = pure (d__law_set.ps.zip us) := match us, hl with
  | [_, _, _], _ => rfl
theorem b__law_set : BndOk d__law_set := fun K a fd F => ⟨⟨[], .nil, FunD.bindsN F e__law_set⟩, fun h => absurd rfl h⟩
theorem e__law_line (kV doc pm : Value) (an : Option Addr) (cdv ct : Value) (us : List Value) (hl : us.length = d__law_line.ps.length) : bindArgs (PySem.W.fnOf d__law_line.name d__law_line.qual d__law_line.params d__law_line.body d__law_line.scope .none kV doc pm an cdv ct) ⟨us, []⟩ = pure (d__law_line.ps.zip us) := match us, hl with
  | [_, _, _, _, _, _], _ => rfl
theorem b__law_line : BndOk d__law_line := fun K a fd F => ⟨⟨[], .nil, FunD.bindsN F e__law_line⟩, fun h => absurd rfl h⟩
theorem e__law_loose (kV doc pm : Value) (an : Option Addr) (cdv ct : Value) (us : List Value) (hl : us.length = d__law_loose.ps.length) : bindArgs (PySem.W.fnOf d__law_loose.name d__law_loose.qual d__law_loose.params d__law_loose.body d__law_loose.scope .none kV doc pm an cdv ct) ⟨us, []⟩ = pure (d__law_loose.ps.zip us) := match us, hl with
  | [_, _], _ => rfl
theorem b__law_loose : BndOk d__law_loose := fun K a fd F => ⟨⟨[], .nil, FunD.bindsN F e__law_loose⟩, fun h => absurd rfl h⟩
theorem b_Line___init__ : BndOk d_Line___init__ := fun K a fd F => by
  refine ⟨?_, fun _ => ?_⟩
  · exact F.binds0 6 (by intro h; cases h) rfl (fun D doc pm an cdv ct us ks h1 h2 => match us, ks, h1, h2 with
      | [_, _, _, _, _, _], [_], _, _ => ⟨_, _, _, _, _, _, rfl, rfl, rfl⟩)
  · obtain ⟨mv, h⟩ := F.kbinds0 (ps := d_Line___init__.ps) 6 [("slips" : Str)] [] (fun vs _ zs => vs ++ zs) (by intro h; cases h) (by intro q h; cases h) (fun r1 _ r2 => r1.append r2) (fun D doc pm an cdv ct us mv ws h1 h2 h3 => match us, mv, ws, h1, h2, h3 with
      | [_, _, _, _, _, _], [], [_], _, _, _ => rfl)
    exact h
theorem e_BadValue___init__ (kV doc pm : Value) (an : Option Addr) (cdv ct : Value) (us : List Value) (hl : us.length = d_BadValue___init__.ps.length) : bindArgs (PySem.W.fnOf d_BadValue___init__.name d_BadValue___init__.qual d_BadValue___init__.params d_BadValue___init__.body d_BadValue___init__.scope .none kV doc pm an cdv ct) ⟨us, []⟩ = pure (d_BadValue___init__.ps.zip us) := match us, hl with
  | [_, _], _ => rfl
theorem b_BadValue___init__ : BndOk d_BadValue___init__ := fun K a fd F => ⟨⟨[], .nil, FunD.bindsN F e_BadValue___init__⟩, fun h => absurd rfl h⟩
theorem e_BadTask___init__ (kV doc pm : Value) (an : Option Addr) (cdv ct : Value) (us : List Value) (hl : us.length = d_BadTask___init__.ps.length) : bindArgs (PySem.W.fnOf d_BadTask___init__.name d_BadTask___init__.qual d_BadTask___init__.params d_BadTask___init__.body d_BadTask___init__.scope .none kV doc pm an cdv ct) ⟨us, []⟩ = pure (d_BadTask___init__.ps.zip us) := match us, hl with
  | [_, _], _ => rfl
theorem b_BadTask___init__ : BndOk d_BadTask___init__ := fun K a fd F => ⟨⟨[], .nil, FunD.bindsN F e_BadTask___init__⟩, fun h => absurd rfl h⟩
theorem e_BadPair___init__ (kV doc pm : Value) (an : Option Addr) (cdv ct : Value) (us : List Value) (hl : us.length = d_BadPair___init__.ps.length) : bindArgs (PySem.W.fnOf d_BadPair___init__.name d_BadPair___init__.qual d_BadPair___init__.params d_BadPair___init__.body d_BadPair___init__.scope .none kV doc pm an cdv ct) ⟨us, []⟩ = pure (d_BadPair___init__.ps.zip us) := match us, hl with
  | [_, _], _ => rfl
theorem b_BadPair___init__ : BndOk d_BadPair___init__ := fun K a fd F => ⟨⟨[], .nil, FunD.bindsN F e_BadPair___init__⟩, fun h => absurd rfl h⟩
theorem e_BadModel___init__ (kV doc pm : Value) (an : Option Addr) (cdv ct : Value) (us : List Value) (hl : us.length = d_BadModel___init__.ps.length) : bindArgs (PySem.W.fnOf d_BadModel___init__.name d_BadModel___init__.qual d_BadModel___init__.params d_BadModel___init__.body d_BadModel___init__.scope .none kV doc pm an cdv ct) ⟨us, []⟩ = pure (d_BadModel___init__.ps.zip us) := match us, hl with
  | [_, _], _ => rfl
theorem b_BadModel___init__ : BndOk d_BadModel___init__ := fun K a fd F => ⟨⟨[], .nil, FunD.bindsN F e_BadModel___init__⟩, fun h => absurd rfl h⟩
theorem e_TooMany___init__ (kV doc pm : Value) (an : Option Addr) (cdv ct : Value) (us : List Value) (hl : us.length = d_TooMany___init__.ps.length) : bindArgs (PySem.W.fnOf d_TooMany___init__.name d_TooMany___init__.qual d_TooMany___init__.params d_TooMany___init__.body d_TooMany___init__.scope .none kV doc pm an cdv ct) ⟨us, []⟩ = pure (d_TooMany___init__.ps.zip us) := match us, hl with
  | [_, _], _ => rfl
theorem b_TooMany___init__ : BndOk d_TooMany___init__ := fun K a fd F => ⟨⟨[], .nil, FunD.bindsN F e_TooMany___init__⟩, fun h => absurd rfl h⟩
theorem e_with_slips (kV doc pm : Value) (an : Option Addr) (cdv ct : Value) (us : List Value) (hl : us.length = d_with_slips.ps.length) : bindArgs (PySem.W.fnOf d_with_slips.name d_with_slips.qual d_with_slips.params d_with_slips.body d_with_slips.scope .none kV doc pm an cdv ct) ⟨us, []⟩ = pure (d_with_slips.ps.zip us) := match us, hl with
  | [_, _], _ => rfl
theorem b_with_slips : BndOk d_with_slips := fun K a fd F => ⟨⟨[], .nil, FunD.bindsN F e_with_slips⟩, fun h => absurd rfl h⟩
theorem e_with_times (kV doc pm : Value) (an : Option Addr) (cdv ct : Value) (us : List Value) (hl : us.length = d_with_times.ps.length) : bindArgs (PySem.W.fnOf d_with_times.name d_with_times.qual d_with_times.params d_with_times.body d_with_times.scope .none kV doc pm an cdv ct) ⟨us, []⟩ = pure (d_with_times.ps.zip us) := match us, hl with
  | [_, _], _ => rfl
theorem b_with_times : BndOk d_with_times := fun K a fd F => ⟨⟨[], .nil, FunD.bindsN F e_with_times⟩, fun h => absurd rfl h⟩
theorem e_repeated (kV doc pm : Value) (an : Option Addr) (cdv ct : Value) (us : List Value) (hl : us.length = d_repeated.ps.length) : bindArgs (PySem.W.fnOf d_repeated.name d_repeated.qual d_repeated.params d_repeated.body d_repeated.scope .none kV doc pm an cdv ct) ⟨us, []⟩ = pure (d_repeated.ps.zip us) := match us, hl with
  | [_, _], _ => rfl
theorem b_repeated : BndOk d_repeated := fun K a fd F => ⟨⟨[], .nil, FunD.bindsN F e_repeated⟩, fun h => absurd rfl h⟩
theorem b_free_line : BndOk d_free_line := fun K a fd F => by
  refine ⟨?_, fun _ => ?_⟩
  · exact F.binds0 3 (by intro h; cases h) rfl (fun D doc pm an cdv ct us ks h1 h2 => match us, ks, h1, h2 with
      | [_, _, _], [_], _, _ => ⟨_, _, _, _, _, _, rfl, rfl, rfl⟩)
  · obtain ⟨mv, h⟩ := F.kbinds0 (ps := d_free_line.ps) 3 [("slips" : Str)] [] (fun vs _ zs => vs ++ zs) (by intro h; cases h) (by intro q h; cases h) (fun r1 _ r2 => r1.append r2) (fun D doc pm an cdv ct us mv ws h1 h2 h3 => match us, mv, ws, h1, h2, h3 with
      | [_, _, _], [], [_], _, _, _ => rfl)
    exact h
theorem e__law_draw (kV doc pm : Value) (an : Option Addr) (cdv ct : Value) (us : List Value) (hl : us.length = d__law_draw.ps.length) : bindArgs (PySem.W.fnOf d__law_draw.name d__law_draw.qual d__law_draw.params d__law_draw.body d__law_draw.scope .none kV doc pm an cdv ct) ⟨us, []⟩ = pure (d__law_draw.ps.zip us) := match us, hl with
  | [_, _, _], _ => rfl
theorem b__law_draw : BndOk d__law_draw := fun K a fd F => ⟨⟨[], .nil, FunD.bindsN F e__law_draw⟩, fun h => absurd rfl h⟩
theorem e__law_task (kV doc pm : Value) (an : Option Addr) (cdv ct : Value) (us : List Value) (hl : us.length = d__law_task.ps.length) : bindArgs (PySem.W.fnOf d__law_task.name d__law_task.qual d__law_task.params d__law_task.body d__law_task.scope .none kV doc pm an cdv ct) ⟨us, []⟩ = pure (d__law_task.ps.zip us) := match us, hl with
  | [_, _, _], _ => rfl
theorem b__law_task : BndOk d__law_task := fun K a fd F => ⟨⟨[], .nil, FunD.bindsN F e__law_task⟩, fun h => absurd rfl h⟩
theorem e__law_pairs_of (kV doc pm : Value) (an : Option Addr) (cdv ct : Value) (us : List Value) (hl : us.length = d__law_pairs_of.ps.length) : bindArgs (PySem.W.fnOf d__law_pairs_of.name d__law_pairs_of.qual d__law_pairs_of.params d__law_pairs_of.body d__law_pairs_of.scope .none kV doc pm an cdv ct) ⟨us, []⟩ = pure (d__law_pairs_of.ps.zip us) := match us, hl with
  | [_, _, _, _], _ => rfl
theorem b__law_pairs_of : BndOk d__law_pairs_of := fun K a fd F => ⟨⟨[], .nil, FunD.bindsN F e__law_pairs_of⟩, fun h => absurd rfl h⟩
theorem e__law_model (kV doc pm : Value) (an : Option Addr) (cdv ct : Value) (us : List Value) (hl : us.length = d__law_model.ps.length) : bindArgs (PySem.W.fnOf d__law_model.name d__law_model.qual d__law_model.params d__law_model.body d__law_model.scope .none kV doc pm an cdv ct) ⟨us, []⟩ = pure (d__law_model.ps.zip us) := match us, hl with
  | [_, _, _], _ => rfl
theorem b__law_model : BndOk d__law_model := fun K a fd F => ⟨⟨[], .nil, FunD.bindsN F e__law_model⟩, fun h => absurd rfl h⟩
theorem e__law_states (kV doc pm : Value) (an : Option Addr) (cdv ct : Value) (us : List Value) (hl : us.length = d__law_states.ps.length) : bindArgs (PySem.W.fnOf d__law_states.name d__law_states.qual d__law_states.params d__law_states.body d__law_states.scope .none kV doc pm an cdv ct) ⟨us, []⟩ = pure (d__law_states.ps.zip us) := match us, hl with
  | [_, _, _, _, _], _ => rfl
theorem b__law_states : BndOk d__law_states := fun K a fd F => ⟨⟨[], .nil, FunD.bindsN F e__law_states⟩, fun h => absurd rfl h⟩
theorem e_is_filled (kV doc pm : Value) (an : Option Addr) (cdv ct : Value) (us : List Value) (hl : us.length = d_is_filled.ps.length) : bindArgs (PySem.W.fnOf d_is_filled.name d_is_filled.qual d_is_filled.params d_is_filled.body d_is_filled.scope .none kV doc pm an cdv ct) ⟨us, []⟩ = pure (d_is_filled.ps.zip us) := match us, hl with
  | [_], _ => rfl
theorem b_is_filled : BndOk d_is_filled := fun K a fd F => ⟨⟨[], .nil, FunD.bindsN F e_is_filled⟩, fun h => absurd rfl h⟩
theorem e_tasks_with_tuples (kV doc pm : Value) (an : Option Addr) (cdv ct : Value) (us : List Value) (hl : us.length = d_tasks_with_tuples.ps.length) : bindArgs (PySem.W.fnOf d_tasks_with_tuples.name d_tasks_with_tuples.qual d_tasks_with_tuples.params d_tasks_with_tuples.body d_tasks_with_tuples.scope .none kV doc pm an cdv ct) ⟨us, []⟩ = pure (d_tasks_with_tuples.ps.zip us) := match us, hl with
  | [_], _ => rfl
theorem b_tasks_with_tuples : BndOk d_tasks_with_tuples := fun K a fd F => ⟨⟨[], .nil, FunD.bindsN F e_tasks_with_tuples⟩, fun h => absurd rfl h⟩
theorem e_is_sequence (kV doc pm : Value) (an : Option Addr) (cdv ct : Value) (us : List Value) (hl : us.length = d_is_sequence.ps.length) : bindArgs (PySem.W.fnOf d_is_sequence.name d_is_sequence.qual d_is_sequence.params d_is_sequence.body d_is_sequence.scope .none kV doc pm an cdv ct) ⟨us, []⟩ = pure (d_is_sequence.ps.zip us) := match us, hl with
  | [_], _ => rfl
theorem b_is_sequence : BndOk d_is_sequence := fun K a fd F => ⟨⟨[], .nil, FunD.bindsN F e_is_sequence⟩, fun h => absurd rfl h⟩
theorem e_order_with_tuples (kV doc pm : Value) (an : Option Addr) (cdv ct : Value) (us : List Value) (hl : us.length = d_order_with_tuples.ps.length) : bindArgs (PySem.W.fnOf d_order_with_tuples.name d_order_with_tuples.qual d_order_with_tuples.params d_order_with_tuples.body d_order_with_tuples.scope .none kV doc pm an cdv ct) ⟨us, []⟩ = pure (d_order_with_tuples.ps.zip us) := match us, hl with
  | [_, _], _ => rfl
theorem b_order_with_tuples : BndOk d_order_with_tuples := fun K a fd F => ⟨⟨[], .nil, FunD.bindsN F e_order_with_tuples⟩, fun h => absurd rfl h⟩
theorem e_is_model (kV doc pm : Value) (an : Option Addr) (cdv ct : Value) (us : List Value) (hl : us.length = d_is_model.ps.length) : bindArgs (PySem.W.fnOf d_is_model.name d_is_model.qual d_is_model.params d_is_model.body d_is_model.scope .none kV doc pm an cdv ct) ⟨us, []⟩ = pure (d_is_model.ps.zip us) := match us, hl with
  | [_, _], _ => rfl
theorem b_is_model : BndOk d_is_model := fun K a fd F => ⟨⟨[], .nil, FunD.bindsN F e_is_model⟩, fun h => absurd rfl h⟩
theorem e_is_state (kV doc pm : Value) (an : Option Addr) (cdv ct : Value) (us : List Value) (hl : us.length = d_is_state.ps.length) : bindArgs (PySem.W.fnOf d_is_state.name d_is_state.qual d_is_state.params d_is_state.body d_is_state.scope .none kV doc pm an cdv ct) ⟨us, []⟩ = pure (d_is_state.ps.zip us) := match us, hl with
  | [_, _, _], _ => rfl
theorem b_is_state : BndOk d_is_state := fun K a fd F => ⟨⟨[], .nil, FunD.bindsN F e_is_state⟩, fun h => absurd rfl h⟩
theorem e_BadState___init__ (kV doc pm : Value) (an : Option Addr) (cdv ct : Value) (us : List Value) (hl : us.length = d_BadState___init__.ps.length) : bindArgs (PySem.W.fnOf d_BadState___init__.name d_BadState___init__.qual d_BadState___init__.params d_BadState___init__.body d_BadState___init__.scope .none kV doc pm an cdv ct) ⟨us, []⟩ = pure (d_BadState___init__.ps.zip us) := match us, hl with
  | [_, _], _ => rfl
theorem b_BadState___init__ : BndOk d_BadState___init__ := fun K a fd F => ⟨⟨[], .nil, FunD.bindsN F e_BadState___init__⟩, fun h => absurd rfl h⟩
theorem e_is_integer_in (kV doc pm : Value) (an : Option Addr) (cdv ct : Value) (us : List Value) (hl : us.length = d_is_integer_in.ps.length) : bindArgs (PySem.W.fnOf d_is_integer_in.name d_is_integer_in.qual d_is_integer_in.params d_is_integer_in.body d_is_integer_in.scope .none kV doc pm an cdv ct) ⟨us, []⟩ = pure (d_is_integer_in.ps.zip us) := match us, hl with
  | [_, _, _], _ => rfl
theorem b_is_integer_in : BndOk d_is_integer_in := fun K a fd F => ⟨⟨[], .nil, FunD.bindsN F e_is_integer_in⟩, fun h => absurd rfl h⟩
theorem e_is_slips (kV doc pm : Value) (an : Option Addr) (cdv ct : Value) (us : List Value) (hl : us.length = d_is_slips.ps.length) : bindArgs (PySem.W.fnOf d_is_slips.name d_is_slips.qual d_is_slips.params d_is_slips.body d_is_slips.scope .none kV doc pm an cdv ct) ⟨us, []⟩ = pure (d_is_slips.ps.zip us) := match us, hl with
  | [_], _ => rfl
theorem b_is_slips : BndOk d_is_slips := fun K a fd F => ⟨⟨[], .nil, FunD.bindsN F e_is_slips⟩, fun h => absurd rfl h⟩
theorem e_frozen (kV doc pm : Value) (an : Option Addr) (cdv ct : Value) (us : List Value) (hl : us.length = d_frozen.ps.length) : bindArgs (PySem.W.fnOf d_frozen.name d_frozen.qual d_frozen.params d_frozen.body d_frozen.scope .none kV doc pm an cdv ct) ⟨us, []⟩ = pure (d_frozen.ps.zip us) := match us, hl with
  | [_], _ => rfl
theorem b_frozen : BndOk d_frozen := fun K a fd F => ⟨⟨[], .nil, FunD.bindsN F e_frozen⟩, fun h => absurd rfl h⟩
theorem e_Line_tasks (kV doc pm : Value) (an : Option Addr) (cdv ct : Value) (us : List Value) (hl : us.length = d_Line_tasks.ps.length) : bindArgs (PySem.W.fnOf d_Line_tasks.name d_Line_tasks.qual d_Line_tasks.params d_Line_tasks.body d_Line_tasks.scope .none kV doc pm an cdv ct) ⟨us, []⟩ = pure (d_Line_tasks.ps.zip us) := match us, hl with
  | [_], _ => rfl
theorem b_Line_tasks : BndOk d_Line_tasks := fun K a fd F => ⟨⟨[], .nil, FunD.bindsN F e_Line_tasks⟩, fun h => absurd rfl h⟩
theorem e_Line_order (kV doc pm : Value) (an : Option Addr) (cdv ct : Value) (us : List Value) (hl : us.length = d_Line_order.ps.length) : bindArgs (PySem.W.fnOf d_Line_order.name d_Line_order.qual d_Line_order.params d_Line_order.body d_Line_order.scope .none kV doc pm an cdv ct) ⟨us, []⟩ = pure (d_Line_order.ps.zip us) := match us, hl with
  | [_], _ => rfl
theorem b_Line_order : BndOk d_Line_order := fun K a fd F => ⟨⟨[], .nil, FunD.bindsN F e_Line_order⟩, fun h => absurd rfl h⟩
theorem e_Line_models (kV doc pm : Value) (an : Option Addr) (cdv ct : Value) (us : List Value) (hl : us.length = d_Line_models.ps.length) : bindArgs (PySem.W.fnOf d_Line_models.name d_Line_models.qual d_Line_models.params d_Line_models.body d_Line_models.scope .none kV doc pm an cdv ct) ⟨us, []⟩ = pure (d_Line_models.ps.zip us) := match us, hl with
  | [_], _ => rfl
theorem b_Line_models : BndOk d_Line_models := fun K a fd F => ⟨⟨[], .nil, FunD.bindsN F e_Line_models⟩, fun h => absurd rfl h⟩
theorem e_Line_states (kV doc pm : Value) (an : Option Addr) (cdv ct : Value) (us : List Value) (hl : us.length = d_Line_states.ps.length) : bindArgs (PySem.W.fnOf d_Line_states.name d_Line_states.qual d_Line_states.params d_Line_states.body d_Line_states.scope .none kV doc pm an cdv ct) ⟨us, []⟩ = pure (d_Line_states.ps.zip us) := match us, hl with
  | [_], _ => rfl
theorem b_Line_states : BndOk d_Line_states := fun K a fd F => ⟨⟨[], .nil, FunD.bindsN F e_Line_states⟩, fun h => absurd rfl h⟩
theorem e_Line_start (kV doc pm : Value) (an : Option Addr) (cdv ct : Value) (us : List Value) (hl : us.length = d_Line_start.ps.length) : bindArgs (PySem.W.fnOf d_Line_start.name d_Line_start.qual d_Line_start.params d_Line_start.body d_Line_start.scope .none kV doc pm an cdv ct) ⟨us, []⟩ = pure (d_Line_start.ps.zip us) := match us, hl with
  | [_], _ => rfl
theorem b_Line_start : BndOk d_Line_start := fun K a fd F => ⟨⟨[], .nil, FunD.bindsN F e_Line_start⟩, fun h => absurd rfl h⟩
theorem e_is_sequence_of (kV doc pm : Value) (an : Option Addr) (cdv ct : Value) (us : List Value) (hl : us.length = d_is_sequence_of.ps.length) : bindArgs (PySem.W.fnOf d_is_sequence_of.name d_is_sequence_of.qual d_is_sequence_of.params d_is_sequence_of.body d_is_sequence_of.scope .none kV doc pm an cdv ct) ⟨us, []⟩ = pure (d_is_sequence_of.ps.zip us) := match us, hl with
  | [_, _], _ => rfl
theorem b_is_sequence_of : BndOk d_is_sequence_of := fun K a fd F => ⟨⟨[], .nil, FunD.bindsN F e_is_sequence_of⟩, fun h => absurd rfl h⟩
theorem e_Line_slips (kV doc pm : Value) (an : Option Addr) (cdv ct : Value) (us : List Value) (hl : us.length = d_Line_slips.ps.length) : bindArgs (PySem.W.fnOf d_Line_slips.name d_Line_slips.qual d_Line_slips.params d_Line_slips.body d_Line_slips.scope .none kV doc pm an cdv ct) ⟨us, []⟩ = pure (d_Line_slips.ps.zip us) := match us, hl with
  | [_], _ => rfl
theorem b_Line_slips : BndOk d_Line_slips := fun K a fd F => ⟨⟨[], .nil, FunD.bindsN F e_Line_slips⟩, fun h => absurd rfl h⟩
theorem e_are_below (kV doc pm : Value) (an : Option Addr) (cdv ct : Value) (us : List Value) (hl : us.length = d_are_below.ps.length) : bindArgs (PySem.W.fnOf d_are_below.name d_are_below.qual d_are_below.params d_are_below.body d_are_below.scope .none kV doc pm an cdv ct) ⟨us, []⟩ = pure (d_are_below.ps.zip us) := match us, hl with
  | [_, _], _ => rfl
theorem b_are_below : BndOk d_are_below := fun K a fd F => ⟨⟨[], .nil, FunD.bindsN F e_are_below⟩, fun h => absurd rfl h⟩
theorem e__law_time (kV doc pm : Value) (an : Option Addr) (cdv ct : Value) (us : List Value) (hl : us.length = d__law_time.ps.length) : bindArgs (PySem.W.fnOf d__law_time.name d__law_time.qual d__law_time.params d__law_time.body d__law_time.scope .none kV doc pm an cdv ct) ⟨us, []⟩ = pure (d__law_time.ps.zip us) := match us, hl with
  | [_, _, _], _ => rfl
theorem b__law_time : BndOk d__law_time := fun K a fd F => ⟨⟨[], .nil, FunD.bindsN F e__law_time⟩, fun h => absurd rfl h⟩
theorem e__law_mixed (kV doc pm : Value) (an : Option Addr) (cdv ct : Value) (us : List Value) (hl : us.length = d__law_mixed.ps.length) : bindArgs (PySem.W.fnOf d__law_mixed.name d__law_mixed.qual d__law_mixed.params d__law_mixed.body d__law_mixed.scope .none kV doc pm an cdv ct) ⟨us, []⟩ = pure (d__law_mixed.ps.zip us) := match us, hl with
  | [_, _, _], _ => rfl
theorem b__law_mixed : BndOk d__law_mixed := fun K a fd F => ⟨⟨[], .nil, FunD.bindsN F e__law_mixed⟩, fun h => absurd rfl h⟩
theorem e_is_task (kV doc pm : Value) (an : Option Addr) (cdv ct : Value) (us : List Value) (hl : us.length = d_is_task.ps.length) : bindArgs (PySem.W.fnOf d_is_task.name d_is_task.qual d_is_task.params d_is_task.body d_is_task.scope .none kV doc pm an cdv ct) ⟨us, []⟩ = pure (d_is_task.ps.zip us) := match us, hl with
  | [_], _ => rfl
theorem b_is_task : BndOk d_is_task := fun K a fd F => ⟨⟨[], .nil, FunD.bindsN F e_is_task⟩, fun h => absurd rfl h⟩
theorem e_leads_to (kV doc pm : Value) (an : Option Addr) (cdv ct : Value) (us : List Value) (hl : us.length = d_leads_to.ps.length) : bindArgs (PySem.W.fnOf d_leads_to.name d_leads_to.qual d_leads_to.params d_leads_to.body d_leads_to.scope .none kV doc pm an cdv ct) ⟨us, []⟩ = pure (d_leads_to.ps.zip us) := match us, hl with
  | [_, _, _], _ => rfl
theorem b_leads_to : BndOk d_leads_to := fun K a fd F => ⟨⟨[], .nil, FunD.bindsN F e_leads_to⟩, fun h => absurd rfl h⟩
theorem e_ascending (kV doc pm : Value) (an : Option Addr) (cdv ct : Value) (us : List Value) (hl : us.length = d_ascending.ps.length) : bindArgs (PySem.W.fnOf d_ascending.name d_ascending.qual d_ascending.params d_ascending.body d_ascending.scope .none kV doc pm an cdv ct) ⟨us, []⟩ = pure (d_ascending.ps.zip us) := match us, hl with
  | [_], _ => rfl
theorem b_ascending : BndOk d_ascending := fun K a fd F => ⟨⟨[], .nil, FunD.bindsN F e_ascending⟩, fun h => absurd rfl h⟩
theorem e_is_integer (kV doc pm : Value) (an : Option Addr) (cdv ct : Value) (us : List Value) (hl : us.length = d_is_integer.ps.length) : bindArgs (PySem.W.fnOf d_is_integer.name d_is_integer.qual d_is_integer.params d_is_integer.body d_is_integer.scope .none kV doc pm an cdv ct) ⟨us, []⟩ = pure (d_is_integer.ps.zip us) := match us, hl with
  | [_], _ => rfl
theorem b_is_integer : BndOk d_is_integer := fun K a fd F => ⟨⟨[], .nil, FunD.bindsN F e_is_integer⟩, fun h => absurd rfl h⟩
theorem e__law_wide (kV doc pm : Value) (an : Option Addr) (cdv ct : Value) (us : List Value) (hl : us.length = d__law_wide.ps.length) : bindArgs (PySem.W.fnOf d__law_wide.name d__law_wide.qual d__law_wide.params d__law_wide.body d__law_wide.scope .none kV doc pm an cdv ct) ⟨us, []⟩ = pure (d__law_wide.ps.zip us) := match us, hl with
  | [_, _, _], _ => rfl
theorem b__law_wide : BndOk d__law_wide := fun K a fd F => ⟨⟨[], .nil, FunD.bindsN F e__law_wide⟩, fun h => absurd rfl h⟩
theorem T_bnd : ∀ d ∈ TB.defs, BndOk d := (List.forall_mem_cons.mpr ⟨b_law, (List.forall_mem_cons.mpr ⟨b__law_numbers, (List.forall_mem_cons.mpr ⟨b__law_case, (List.forall_mem_cons.mpr ⟨b__law_made, (List.forall_mem_cons.mpr ⟨b__law_made_fault, (List.forall_mem_cons.mpr ⟨b__law_take, (List.forall_mem_cons.mpr ⟨b__law_set, (List.forall_mem_cons.mpr ⟨b__law_line, (List.forall_mem_cons.mpr ⟨b__law_loose, (List.forall_mem_cons.mpr ⟨b_Line___init__, (List.forall_mem_cons.mpr ⟨b_BadValue___init__, (List.forall_mem_cons.mpr ⟨b_BadTask___init__, (List.forall_mem_cons.mpr ⟨b_BadPair___init__, (List.forall_mem_cons.mpr ⟨b_BadModel___init__, (List.forall_mem_cons.mpr ⟨b_TooMany___init__, (List.forall_mem_cons.mpr ⟨b_with_slips, (List.forall_mem_cons.mpr ⟨b_with_times, (List.forall_mem_cons.mpr ⟨b_repeated, (List.forall_mem_cons.mpr ⟨b_free_line, (List.forall_mem_cons.mpr ⟨b__law_draw, (List.forall_mem_cons.mpr ⟨b__law_task, (List.forall_mem_cons.mpr ⟨b__law_pairs_of, (List.forall_mem_cons.mpr ⟨b__law_model, (List.forall_mem_cons.mpr ⟨b__law_states, (List.forall_mem_cons.mpr ⟨b_is_filled, (List.forall_mem_cons.mpr ⟨b_tasks_with_tuples, (List.forall_mem_cons.mpr ⟨b_is_sequence, (List.forall_mem_cons.mpr ⟨b_order_with_tuples, (List.forall_mem_cons.mpr ⟨b_is_model, (List.forall_mem_cons.mpr ⟨b_is_state, (List.forall_mem_cons.mpr ⟨b_BadState___init__, (List.forall_mem_cons.mpr ⟨b_is_integer_in, (List.forall_mem_cons.mpr ⟨b_is_slips, (List.forall_mem_cons.mpr ⟨b_frozen, (List.forall_mem_cons.mpr ⟨b_Line_tasks, (List.forall_mem_cons.mpr ⟨b_Line_order, (List.forall_mem_cons.mpr ⟨b_Line_models, (List.forall_mem_cons.mpr ⟨b_Line_states, (List.forall_mem_cons.mpr ⟨b_Line_start, (List.forall_mem_cons.mpr ⟨b_is_sequence_of, (List.forall_mem_cons.mpr ⟨b_Line_slips, (List.forall_mem_cons.mpr ⟨b_are_below, (List.forall_mem_cons.mpr ⟨b__law_time, (List.forall_mem_cons.mpr ⟨b__law_mixed, (List.forall_mem_cons.mpr ⟨b_is_task, (List.forall_mem_cons.mpr ⟨b_leads_to, (List.forall_mem_cons.mpr ⟨b_ascending, (List.forall_mem_cons.mpr ⟨b_is_integer, (List.forall_mem_cons.mpr ⟨b__law_wide, (fun d h => by cases h)⟩)⟩)⟩)⟩)⟩)⟩)⟩)⟩)⟩)⟩)⟩)⟩)⟩)⟩)⟩)⟩)⟩)⟩)⟩)⟩)⟩)⟩)⟩)⟩)⟩)⟩)⟩)⟩)⟩)⟩)⟩)⟩)⟩)⟩)⟩)⟩)⟩)⟩)⟩)⟩)⟩)⟩)⟩)⟩)⟩)⟩)⟩)⟩)⟩)
theorem c_law {k : Nat} {ds : List D} {h : Sto} : callI TB.tb (k + 1) i_law ds h = runB (glv TB.tb k) F_law ds h := by
  rw [callI_succ]
  rfl
theorem c__law_numbers {k : Nat} {ds : List D} {h : Sto} : callI TB.tb (k + 1) i__law_numbers ds h = runB (glv TB.tb k) F__law_numbers ds h := by
  rw [callI_succ]
  rfl
theorem c__law_case {k : Nat} {ds : List D} {h : Sto} : callI TB.tb (k + 1) i__law_case ds h = runB (glv TB.tb k) F__law_case ds h := by
  rw [callI_succ]
  rfl
theorem c__law_made {k : Nat} {ds : List D} {h : Sto} : callI TB.tb (k + 1) i__law_made ds h = runB (glv TB.tb k) F__law_made ds h := by
  rw [callI_succ]
  rfl
theorem c__law_made_fault {k : Nat} {ds : List D} {h : Sto} : callI TB.tb (k + 1) i__law_made_fault ds h = runB (glv TB.tb k) F__law_made_fault ds h := by
  rw [callI_succ]
  rfl
theorem c__law_take {k : Nat} {ds : List D} {h : Sto} : callI TB.tb (k + 1) i__law_take ds h = runB (glv TB.tb k) F__law_take ds h := by
  rw [callI_succ]
  rfl
theorem c__law_set {k : Nat} {ds : List D} {h : Sto} : callI TB.tb (k + 1) i__law_set ds h = runB (glv TB.tb k) F__law_set ds h := by
  rw [callI_succ]
  rfl
theorem c__law_line {k : Nat} {ds : List D} {h : Sto} : callI TB.tb (k + 1) i__law_line ds h = runB (glv TB.tb k) F__law_line ds h := by
  rw [callI_succ]
  rfl
theorem c__law_loose {k : Nat} {ds : List D} {h : Sto} : callI TB.tb (k + 1) i__law_loose ds h = runB (glv TB.tb k) F__law_loose ds h := by
  rw [callI_succ]
  rfl
theorem c_Line___init__ {k : Nat} {ds : List D} {h : Sto} : callI TB.tb (k + 1) i_Line___init__ ds h = runB (glv TB.tb k) F_Line___init__ ds h := by
  rw [callI_succ]
  rfl
theorem c_BadValue___init__ {k : Nat} {ds : List D} {h : Sto} : callI TB.tb (k + 1) i_BadValue___init__ ds h = runB (glv TB.tb k) F_BadValue___init__ ds h := by
  rw [callI_succ]
  rfl
theorem c_BadTask___init__ {k : Nat} {ds : List D} {h : Sto} : callI TB.tb (k + 1) i_BadTask___init__ ds h = runB (glv TB.tb k) F_BadTask___init__ ds h := by
  rw [callI_succ]
  rfl
theorem c_BadPair___init__ {k : Nat} {ds : List D} {h : Sto} : callI TB.tb (k + 1) i_BadPair___init__ ds h = runB (glv TB.tb k) F_BadPair___init__ ds h := by
  rw [callI_succ]
  rfl
theorem c_BadModel___init__ {k : Nat} {ds : List D} {h : Sto} : callI TB.tb (k + 1) i_BadModel___init__ ds h = runB (glv TB.tb k) F_BadModel___init__ ds h := by
  rw [callI_succ]
  rfl
theorem c_TooMany___init__ {k : Nat} {ds : List D} {h : Sto} : callI TB.tb (k + 1) i_TooMany___init__ ds h = runB (glv TB.tb k) F_TooMany___init__ ds h := by
  rw [callI_succ]
  rfl
theorem c_with_slips {k : Nat} {ds : List D} {h : Sto} : callI TB.tb (k + 1) i_with_slips ds h = runB (glv TB.tb k) F_with_slips ds h := by
  rw [callI_succ]
  rfl
theorem c_with_times {k : Nat} {ds : List D} {h : Sto} : callI TB.tb (k + 1) i_with_times ds h = runB (glv TB.tb k) F_with_times ds h := by
  rw [callI_succ]
  rfl
theorem c_repeated {k : Nat} {ds : List D} {h : Sto} : callI TB.tb (k + 1) i_repeated ds h = runB (glv TB.tb k) F_repeated ds h := by
  rw [callI_succ]
  rfl
theorem c_free_line {k : Nat} {ds : List D} {h : Sto} : callI TB.tb (k + 1) i_free_line ds h = runB (glv TB.tb k) F_free_line ds h := by
  rw [callI_succ]
  rfl
theorem c__law_draw {k : Nat} {ds : List D} {h : Sto} : callI TB.tb (k + 1) i__law_draw ds h = runB (glv TB.tb k) F__law_draw ds h := by
  rw [callI_succ]
  rfl
theorem c__law_task {k : Nat} {ds : List D} {h : Sto} : callI TB.tb (k + 1) i__law_task ds h = runB (glv TB.tb k) F__law_task ds h := by
  rw [callI_succ]
  rfl
theorem c__law_pairs_of {k : Nat} {ds : List D} {h : Sto} : callI TB.tb (k + 1) i__law_pairs_of ds h = runB (glv TB.tb k) F__law_pairs_of ds h := by
  rw [callI_succ]
  rfl
theorem c__law_model {k : Nat} {ds : List D} {h : Sto} : callI TB.tb (k + 1) i__law_model ds h = runB (glv TB.tb k) F__law_model ds h := by
  rw [callI_succ]
  rfl
theorem c__law_states {k : Nat} {ds : List D} {h : Sto} : callI TB.tb (k + 1) i__law_states ds h = runB (glv TB.tb k) F__law_states ds h := by
  rw [callI_succ]
  rfl
theorem c_is_filled {k : Nat} {ds : List D} {h : Sto} : callI TB.tb (k + 1) i_is_filled ds h = runB (glv TB.tb k) F_is_filled ds h := by
  rw [callI_succ]
  rfl
theorem c_tasks_with_tuples {k : Nat} {ds : List D} {h : Sto} : callI TB.tb (k + 1) i_tasks_with_tuples ds h = runB (glv TB.tb k) F_tasks_with_tuples ds h := by
  rw [callI_succ]
  rfl
theorem c_is_sequence {k : Nat} {ds : List D} {h : Sto} : callI TB.tb (k + 1) i_is_sequence ds h = runB (glv TB.tb k) F_is_sequence ds h := by
  rw [callI_succ]
  rfl
theorem c_order_with_tuples {k : Nat} {ds : List D} {h : Sto} : callI TB.tb (k + 1) i_order_with_tuples ds h = runB (glv TB.tb k) F_order_with_tuples ds h := by
  rw [callI_succ]
  rfl
theorem c_is_model {k : Nat} {ds : List D} {h : Sto} : callI TB.tb (k + 1) i_is_model ds h = runB (glv TB.tb k) F_is_model ds h := by
  rw [callI_succ]
  rfl
theorem c_is_state {k : Nat} {ds : List D} {h : Sto} : callI TB.tb (k + 1) i_is_state ds h = runB (glv TB.tb k) F_is_state ds h := by
  rw [callI_succ]
  rfl
theorem c_BadState___init__ {k : Nat} {ds : List D} {h : Sto} : callI TB.tb (k + 1) i_BadState___init__ ds h = runB (glv TB.tb k) F_BadState___init__ ds h := by
  rw [callI_succ]
  rfl
theorem c_is_integer_in {k : Nat} {ds : List D} {h : Sto} : callI TB.tb (k + 1) i_is_integer_in ds h = runB (glv TB.tb k) F_is_integer_in ds h := by
  rw [callI_succ]
  rfl
theorem c_is_slips {k : Nat} {ds : List D} {h : Sto} : callI TB.tb (k + 1) i_is_slips ds h = runB (glv TB.tb k) F_is_slips ds h := by
  rw [callI_succ]
  rfl
theorem c_frozen {k : Nat} {ds : List D} {h : Sto} : callI TB.tb (k + 1) i_frozen ds h = runB (glv TB.tb k) F_frozen ds h := by
  rw [callI_succ]
  rfl
theorem c_Line_tasks {k : Nat} {ds : List D} {h : Sto} : callI TB.tb (k + 1) i_Line_tasks ds h = runB (glv TB.tb k) F_Line_tasks ds h := by
  rw [callI_succ]
  rfl
theorem c_Line_order {k : Nat} {ds : List D} {h : Sto} : callI TB.tb (k + 1) i_Line_order ds h = runB (glv TB.tb k) F_Line_order ds h := by
  rw [callI_succ]
  rfl
theorem c_Line_models {k : Nat} {ds : List D} {h : Sto} : callI TB.tb (k + 1) i_Line_models ds h = runB (glv TB.tb k) F_Line_models ds h := by
  rw [callI_succ]
  rfl
theorem c_Line_states {k : Nat} {ds : List D} {h : Sto} : callI TB.tb (k + 1) i_Line_states ds h = runB (glv TB.tb k) F_Line_states ds h := by
  rw [callI_succ]
  rfl
theorem c_Line_start {k : Nat} {ds : List D} {h : Sto} : callI TB.tb (k + 1) i_Line_start ds h = runB (glv TB.tb k) F_Line_start ds h := by
  rw [callI_succ]
  rfl
theorem c_is_sequence_of {k : Nat} {ds : List D} {h : Sto} : callI TB.tb (k + 1) i_is_sequence_of ds h = runB (glv TB.tb k) F_is_sequence_of ds h := by
  rw [callI_succ]
  rfl
theorem c_Line_slips {k : Nat} {ds : List D} {h : Sto} : callI TB.tb (k + 1) i_Line_slips ds h = runB (glv TB.tb k) F_Line_slips ds h := by
  rw [callI_succ]
  rfl
theorem c_are_below {k : Nat} {ds : List D} {h : Sto} : callI TB.tb (k + 1) i_are_below ds h = runB (glv TB.tb k) F_are_below ds h := by
  rw [callI_succ]
  rfl
theorem c__law_time {k : Nat} {ds : List D} {h : Sto} : callI TB.tb (k + 1) i__law_time ds h = runB (glv TB.tb k) F__law_time ds h := by
  rw [callI_succ]
  rfl
theorem c__law_mixed {k : Nat} {ds : List D} {h : Sto} : callI TB.tb (k + 1) i__law_mixed ds h = runB (glv TB.tb k) F__law_mixed ds h := by
  rw [callI_succ]
  rfl
theorem c_is_task {k : Nat} {ds : List D} {h : Sto} : callI TB.tb (k + 1) i_is_task ds h = runB (glv TB.tb k) F_is_task ds h := by
  rw [callI_succ]
  rfl
theorem c_leads_to {k : Nat} {ds : List D} {h : Sto} : callI TB.tb (k + 1) i_leads_to ds h = runB (glv TB.tb k) F_leads_to ds h := by
  rw [callI_succ]
  rfl
theorem c_ascending {k : Nat} {ds : List D} {h : Sto} : callI TB.tb (k + 1) i_ascending ds h = runB (glv TB.tb k) F_ascending ds h := by
  rw [callI_succ]
  rfl
theorem c_is_integer {k : Nat} {ds : List D} {h : Sto} : callI TB.tb (k + 1) i_is_integer ds h = runB (glv TB.tb k) F_is_integer ds h := by
  rw [callI_succ]
  rfl
theorem c__law_wide {k : Nat} {ds : List D} {h : Sto} : callI TB.tb (k + 1) i__law_wide ds h = runB (glv TB.tb k) F__law_wide ds h := by
  rw [callI_succ]
  rfl
theorem con_MOST_TASKS : TB.tb.con "MOST_TASKS" = some (Cv.d (.int 24)) := rfl
theorem con_MOST_PAIRS : TB.tb.con "MOST_PAIRS" = some (Cv.d (.int 200)) := rfl
theorem con_MOST_MODELS : TB.tb.con "MOST_MODELS" = some (Cv.d (.int 8)) := rfl
theorem con_MOST_STATES : TB.tb.con "MOST_STATES" = some (Cv.d (.int 60)) := rfl
theorem con_MOST_ROW : TB.tb.con "MOST_ROW" = some (Cv.d (.int 40)) := rfl
theorem con_MOST_ARCS : TB.tb.con "MOST_ARCS" = some (Cv.d (.int 40)) := rfl
theorem con_MOST_SLIPS : TB.tb.con "MOST_SLIPS" = some (Cv.d (.int 8)) := rfl
theorem con_MOST_TIME : TB.tb.con "MOST_TIME" = some (Cv.d (.int 10000)) := rfl
def lo0 : List Str := [("is_integer" : Str), ("is_integer_in" : Str), ("is_sequence" : Str), ("is_sequence_of" : Str), ("frozen" : Str), ("ascending" : Str), ("are_below" : Str), ("RowError" : Str), ("BadValue" : Str), ("BadTask" : Str), ("BadPair" : Str), ("BadModel" : Str), ("BadState" : Str), ("TooMany" : Str), ("MOST_TASKS" : Str), ("MOST_PAIRS" : Str), ("MOST_MODELS" : Str), ("MOST_STATES" : Str), ("MOST_ARCS" : Str), ("MOST_TIME" : Str), ("MOST_SLIPS" : Str), ("MOST_ROW" : Str), ("is_task" : Str), ("is_model" : Str), ("is_state" : Str), ("is_slips" : Str), ("leads_to" : Str), ("tasks_with_tuples" : Str), ("order_with_tuples" : Str), ("is_filled" : Str)]
def lo1 : List Str := [("Line" : Str), ("with_slips" : Str), ("with_times" : Str), ("free_line" : Str), ("repeated" : Str), ("_law_numbers" : Str), ("_law_draw" : Str), ("_law_take" : Str), ("_law_wide" : Str), ("_law_loose" : Str), ("_law_set" : Str), ("_law_mixed" : Str), ("_law_time" : Str), ("_law_task" : Str), ("_law_pairs_of" : Str), ("_law_model" : Str), ("_law_states" : Str), ("_law_line" : Str), ("_law_made" : Str), ("_law_made_fault" : Str), ("_law_case" : Str)]
abbrev loose : List Str := lo0 ++ lo1
abbrev Rw : PySem.W.OpenRow := PySem.W.OpenLaw.row PySem.Challenge.rw_anyrowline_k06_refusals_of_made_lines
abbrev hk : PySem.W.Hook := TB.hook 6
def ob (s : PySem.W.SharedT) : He.AlD := TB.obsG 6 (HandSHeadRun.getT s)
theorem ob_eq (s : PySem.W.SharedT) : ob s = hk.obs s.abs := Tab.obs_eq TB (HandSHeadRun.getT_eq s)
theorem run (w : World) : HandSHeadRun.RunEq Rw (PySem.W.view Rw.prog [55]) hk ob 12000 loose w := by
  intro os
  kernel_rfl
end Cl
/-! text L1 -/
set_option maxHeartbeats 1000007
namespace Cl
open PySem
theorem g_call {tb : Tbl} {k f : Nat} {ds : List D} {h : Sto} : (glv tb k).call f ds h = callI tb k f ds h := rfl
theorem g_call1 {tb : Tbl} {k f : Nat} {ds : List D} {h : Sto} : (glv tb (k + 1)).call1 f ds h = callI tb k f ds h := rfl
theorem g_deep {tb : Tbl} {k : Nat} : (glv tb (k + 1)).deep = true := rfl
theorem g_con {tb : Tbl} {k : Nat} {s : String} : (glv tb k).con s = tb.con s := rfl
/-- the kinds of data, as isinstance asks -/
def kI : Ty → Bool
  | .int => true
  | _ => false
def kB : Ty → Bool
  | .int => true
  | .bool => true
  | _ => false
def kS : Ty → Bool
  | .str => true
  | _ => false
def kT : Ty → Bool
  | .tuple => true
  | _ => false
def kL : Ty → Bool
  | .list => true
  | _ => false
def kN : Ty → Bool
  | _ => false
theorem any_eq {p q : Ty → Bool} (h : ∀ t, p t = q t) (ts : List Ty) : ts.any p = ts.any q := by rw [show p = q from funext h]
section
variable {h : Sto} {ts : List Ty}
theorem ty_int {i : Int} : isTys h (.int i) ts = some (ts.any kI) := congrArg some (any_eq (fun t => by cases t <;> decide +kernel) ts)
theorem ty_bl {b : Bool} : isTys h (.bl b) ts = some (ts.any kB) := congrArg some (any_eq (fun t => by cases t <;> decide +kernel) ts)
theorem ty_str {s : Str} : isTys h (.str s) ts = some (ts.any kS) := congrArg some (any_eq (fun t => by cases t <;> decide +kernel) ts)
theorem ty_tup {xs : List D} : isTys h (.tup xs) ts = some (ts.any kT) := congrArg some (any_eq (fun t => by cases t <;> decide +kernel) ts)
theorem ty_lst {xs : List D} : isTys h (.lst xs) ts = some (ts.any kL) := congrArg some (any_eq (fun t => by cases t <;> decide +kernel) ts)
theorem ty_non : isTys h .non ts = some (ts.any kN) := congrArg some (any_eq (fun t => by cases t <;> decide +kernel) ts)
end
theorem is_integer_int {k : Nat} {i : Int} {h : Sto} {P : D → Sto → Prop} : Wp (callI TB.tb (k + 1) i_is_integer [.int i] h) P = P (.bl true) h := by
  rw [c_is_integer]
  simp -implicitDefEqProofs [F_is_integer, w_var, w_lit, w_glo, w_bin, w_neg, w_cmp, w_chain, w_isN, w_notN, w_not, w_and, w_or, w_and1, w_and2, w_or1, w_or2, wp_tst, w_ite, w_tup, w_lst, w_ix, w_slc, w_oN, w_oS, w_fld, wp_shut, w_prop, w_call, w_callK, w_mk, w_mkK, w_mkR, w_bi, w_bm, w_isi, w_rngT, w_comp, w_new, w_frz, w_srt, w_isB, w_nil, w_cons, w_seq, w_rng, w_enm, w_zip, s_asg, s_setIx, s_setFld, s_ret, s_retN, s_if, s_expr, s_brk, s_cnt, s_pass, s_nil, s_cons, s_for, s_whl, wp_ok, wp_bad, wp_bind, wp_opt, wp_optN, wp_if, wp_run, g_call, g_call1, g_deep, g_con, asgT, asgTs, startE, wipeE, ty_int, kI]
theorem is_integer_in_int {k : Nat} {i a b : Int} {h : Sto} {P : D → Sto → Prop} : Wp (callI TB.tb (k + 2) i_is_integer_in [.int i, .int a, .int b] h) P = P (.bl (decide (a ≤ i) && decide (i ≤ b))) h := by
  rw [c_is_integer_in]
  simp -implicitDefEqProofs [F_is_integer_in, w_var, w_lit, w_glo, w_bin, w_neg, w_cmp, w_chain, w_isN, w_notN, w_not, w_and, w_or, w_and1, w_and2, w_or1, w_or2, wp_tst, w_ite, w_tup, w_lst, w_ix, w_slc, w_oN, w_oS, w_fld, wp_shut, w_prop, w_call, w_callK, w_mk, w_mkK, w_mkR, w_bi, w_bm, w_isi, w_rngT, w_comp, w_new, w_frz, w_srt, w_isB, w_nil, w_cons, w_seq, w_rng, w_enm, w_zip, s_asg, s_setIx, s_setFld, s_ret, s_retN, s_if, s_expr, s_brk, s_cnt, s_pass, s_nil, s_cons, s_for, s_whl, wp_ok, wp_bad, wp_bind, wp_opt, wp_optN, wp_if, wp_run, g_call, g_call1, g_deep, g_con, asgT, asgTs, startE, wipeE, is_integer_int, cmpD]
  by_cases h1 : a ≤ i <;> simp -implicitDefEqProofs [h1, w_var, w_lit, w_glo, w_bin, w_neg, w_cmp, w_chain, w_isN, w_notN, w_not, w_and, w_or, w_and1, w_and2, w_or1, w_or2, wp_tst, w_ite, w_tup, w_lst, w_ix, w_slc, w_oN, w_oS, w_fld, wp_shut, w_prop, w_call, w_callK, w_mk, w_mkK, w_mkR, w_bi, w_bm, w_isi, w_rngT, w_comp, w_new, w_frz, w_srt, w_isB, w_nil, w_cons, w_seq, w_rng, w_enm, w_zip, s_asg, s_setIx, s_setFld, s_ret, s_retN, s_if, s_expr, s_brk, s_cnt, s_pass, s_nil, s_cons, s_for, s_whl, wp_ok, wp_bad, wp_bind, wp_opt, wp_optN, wp_if, wp_run, g_call, g_call1, g_deep, g_con, asgT, asgTs, startE, wipeE]
theorem is_sequence_tup {k : Nat} {xs : List D} {h : Sto} {P : D → Sto → Prop} : Wp (callI TB.tb (k + 1) i_is_sequence [.tup xs] h) P = P (.bl true) h := by
  rw [c_is_sequence]
  simp -implicitDefEqProofs [F_is_sequence, w_var, w_lit, w_glo, w_bin, w_neg, w_cmp, w_chain, w_isN, w_notN, w_not, w_and, w_or, w_and1, w_and2, w_or1, w_or2, wp_tst, w_ite, w_tup, w_lst, w_ix, w_slc, w_oN, w_oS, w_fld, wp_shut, w_prop, w_call, w_callK, w_mk, w_mkK, w_mkR, w_bi, w_bm, w_isi, w_rngT, w_comp, w_new, w_frz, w_srt, w_isB, w_nil, w_cons, w_seq, w_rng, w_enm, w_zip, s_asg, s_setIx, s_setFld, s_ret, s_retN, s_if, s_expr, s_brk, s_cnt, s_pass, s_nil, s_cons, s_for, s_whl, wp_ok, wp_bad, wp_bind, wp_opt, wp_optN, wp_if, wp_run, g_call, g_call1, g_deep, g_con, asgT, asgTs, startE, wipeE, ty_tup, kT]
theorem is_sequence_lst {k : Nat} {xs : List D} {h : Sto} {P : D → Sto → Prop} : Wp (callI TB.tb (k + 1) i_is_sequence [.lst xs] h) P = P (.bl true) h := by
  rw [c_is_sequence]
  simp -implicitDefEqProofs [F_is_sequence, w_var, w_lit, w_glo, w_bin, w_neg, w_cmp, w_chain, w_isN, w_notN, w_not, w_and, w_or, w_and1, w_and2, w_or1, w_or2, wp_tst, w_ite, w_tup, w_lst, w_ix, w_slc, w_oN, w_oS, w_fld, wp_shut, w_prop, w_call, w_callK, w_mk, w_mkK, w_mkR, w_bi, w_bm, w_isi, w_rngT, w_comp, w_new, w_frz, w_srt, w_isB, w_nil, w_cons, w_seq, w_rng, w_enm, w_zip, s_asg, s_setIx, s_setFld, s_ret, s_retN, s_if, s_expr, s_brk, s_cnt, s_pass, s_nil, s_cons, s_for, s_whl, wp_ok, wp_bad, wp_bind, wp_opt, wp_optN, wp_if, wp_run, g_call, g_call1, g_deep, g_con, asgT, asgTs, startE, wipeE, ty_lst, kL]
theorem is_sequence_int {k : Nat} {i : Int} {h : Sto} {P : D → Sto → Prop} : Wp (callI TB.tb (k + 1) i_is_sequence [.int i] h) P = P (.bl false) h := by
  rw [c_is_sequence]
  simp -implicitDefEqProofs [F_is_sequence, w_var, w_lit, w_glo, w_bin, w_neg, w_cmp, w_chain, w_isN, w_notN, w_not, w_and, w_or, w_and1, w_and2, w_or1, w_or2, wp_tst, w_ite, w_tup, w_lst, w_ix, w_slc, w_oN, w_oS, w_fld, wp_shut, w_prop, w_call, w_callK, w_mk, w_mkK, w_mkR, w_bi, w_bm, w_isi, w_rngT, w_comp, w_new, w_frz, w_srt, w_isB, w_nil, w_cons, w_seq, w_rng, w_enm, w_zip, s_asg, s_setIx, s_setFld, s_ret, s_retN, s_if, s_expr, s_brk, s_cnt, s_pass, s_nil, s_cons, s_for, s_whl, wp_ok, wp_bad, wp_bind, wp_opt, wp_optN, wp_if, wp_run, g_call, g_call1, g_deep, g_con, asgT, asgTs, startE, wipeE, ty_int, kI]
/-! ### operations -/
section
variable {h : Sto}
theorem eqD_int {a b : Int} : eqD h (.int a) (.int b) = some (a == b) := by
  simp [eqD, topPy, toPy, shp, SeqAt.shaped, PyData.canLay0, PyData.depth, PyData.eqv]
theorem eq_int {a b : Int} : cmpD .eq (.int a) (.int b) h = .ok (.bl (a == b)) h := by
  simp [cmpD, eqD_int]
theorem ne_int {a b : Int} : cmpD .ne (.int a) (.int b) h = .ok (.bl (!(a == b))) h := by
  simp [cmpD, eqD_int]
theorem tru_bl {b : Bool} : truD h (.bl b) = some b := rfl
theorem tru_lst {xs : List D} : truD h (.lst xs) = some (!xs.isEmpty) := rfl
theorem tru_tup {xs : List D} : truD h (.tup xs) = some (!xs.isEmpty) := rfl
theorem ge_int {a b : Int} : cmpD .ge (.int a) (.int b) h = .ok (.bl (decide (b ≤ a))) h := rfl
theorem lt_int {a b : Int} : cmpD .lt (.int a) (.int b) h = .ok (.bl (decide (a < b))) h := rfl
theorem gt_int {a b : Int} : cmpD .gt (.int a) (.int b) h = .ok (.bl (decide (b < a))) h := rfl
theorem le_int {a b : Int} : cmpD .le (.int a) (.int b) h = .ok (.bl (decide (a ≤ b))) h := rfl
theorem add_int {a b : Int} : binD .add (.int a) (.int b) h = .ok (.int (a + b)) h := rfl
theorem sub_int {a b : Int} : binD .sub (.int a) (.int b) h = .ok (.int (a - b)) h := rfl
theorem mul_int {a b : Int} (hb : bits64 b = true) : binD .mul (.int a) (.int b) h = .ok (.int (a * b)) h := by
  show ifR (bits64 a || bits64 b) _ = _
  rw [hb, Bool.or_true]
  rfl
theorem fdiv_int {a b : Int} (hb : small30 b = true) : binD .fdiv (.int a) (.int b) h = .ok (.int (a / b)) h := by
  show ifR (small30 b) _ = _
  rw [hb]
  rfl
theorem mod_int {a b : Int} (hb : 0 < b) : binD .mod (.int a) (.int b) h = .ok (.int (a % b)) h := by
  show ifR (decide (0 < b)) _ = _
  rw [decide_eq_true hb]
  rfl
theorem int_int {a : Int} : biD .int [.int a] h = .ok (.int a) h := rfl
theorem len_lst {xs : List D} : biD .len [.lst xs] h = .ok (.int xs.length) h := rfl
theorem len_tup {xs : List D} : biD .len [.tup xs] h = .ok (.int xs.length) h := rfl
theorem ix_lst {xs : List D} {i : Int} : ixD (.lst xs) (.int i) h = opt (L2.atI xs i) h := rfl
theorem ix_tup {xs : List D} {i : Int} : ixD (.tup xs) (.int i) h = opt (L2.atI xs i) h := rfl
theorem ix_ref {n : Nat} {xs : List D} {i : Int} (e : getC h n = .lst xs) : ixD (.ref n) (.int i) h = opt (L2.atI xs i) h := by
  show (match seqOf h (.ref n) with
    | some xs => opt (L2.atI xs i) h
    | none => .bad) = _
  simp [seqOf, e]
theorem at_nat {α : Type} {xs : List α} {i : Nat} (hi : i < xs.length) : L2.atI xs (i : Int) = some xs[i] := by
  unfold L2.atI L2.ixN
  rw [if_pos (by omega), if_pos (by omega)]
  simp [hi]
theorem atI_nonneg {α : Type} {xs : List α} {i : Int} (h0 : 0 ≤ i) (hi : i < xs.length) : L2.atI xs i = some (xs[i.toNat]'(by omega)) := by
  have := at_nat (xs := xs) (i := i.toNat) (by omega)
  rw [show ((i.toNat : Nat) : Int) = i by omega] at this
  exact this
end
theorem lim_ok {n : Nat} (h : n ≤ 1000000) : lim n = true := by
  unfold lim
  exact decide_eq_true (Nat.le_trans h (by decide))
/-! ### draws -/
theorem m1 {a : Int} {h : Sto} : binD .mod (.int a) (.int 2147483399) h = .ok (.int (a % 2147483399)) h := mod_int (by decide)
theorem m2 {a : Int} {h : Sto} : binD .mod (.int a) (.int 2147483647) h = .ok (.int (a % 2147483647)) h := mod_int (by decide)
theorem m3 {a : Int} {h : Sto} : binD .mul (.int a) (.int 40692) h = .ok (.int (a * 40692)) h := mul_int (by decide +kernel)
theorem m4 {a : Int} {h : Sto} : binD .mul (.int a) (.int 7919) h = .ok (.int (a * 7919)) h := mul_int (by decide +kernel)
theorem m5 {a : Int} {h : Sto} : binD .mul (.int a) (.int 48271) h = .ok (.int (a * 48271)) h := mul_int (by decide +kernel)
theorem draw_w {k : Nat} {r : List Int} {p : Nat} {limit : Int} {h : Sto} (hr : r ≠ []) (hl : 0 < limit) : Wp (callI TB.tb (k + 1) i__law_draw [.lst (r.map .int), .int p, .int limit] h) fun d h' => h' = h ∧ ∃ v, d = .int v ∧ 0 ≤ v ∧ v < limit := by
  have hn : 0 < r.length := List.length_pos_iff.mpr hr
  have fin : ∀ x : Int, 0 ≤ x % limit ∧ x % limit < limit := fun x => ⟨Int.emod_nonneg _ (by omega), Int.emod_lt_of_pos _ hl⟩
  have ml : ∀ x : Int, binD .mod (.int x) (.int limit) h = .ok (.int (x % limit)) h := fun x => mod_int hl
  rw [c__law_draw]
  simp -implicitDefEqProofs [F__law_draw, w_var, w_lit, w_glo, w_bin, w_neg, w_cmp, w_chain, w_isN, w_notN, w_not, w_and, w_or, w_and1, w_and2, w_or1, w_or2, wp_tst, w_ite, w_tup, w_lst, w_ix, w_slc, w_oN, w_oS, w_fld, wp_shut, w_prop, w_call, w_callK, w_mk, w_mkK, w_mkR, w_bi, w_bm, w_isi, w_rngT, w_comp, w_new, w_frz, w_srt, w_isB, w_nil, w_cons, w_seq, w_rng, w_enm, w_zip, s_asg, s_setIx, s_setFld, s_ret, s_retN, s_if, s_expr, s_brk, s_cnt, s_pass, s_nil, s_cons, s_for, s_whl, wp_ok, wp_bad, wp_bind, wp_opt, wp_optN, wp_if, wp_run, g_call, g_call1, g_deep, g_con, asgT, asgTs, startE, wipeE, len_lst, lt_int, tru_bl]
  by_cases hp : p < r.length
  · have e : L2.atI (r.map D.int) (p : Int) = some (.int r[p]) := by
      rw [at_nat (by rw [List.length_map]; exact hp)]
      simp
    simp -implicitDefEqProofs [hp, e, w_var, w_lit, w_glo, w_bin, w_neg, w_cmp, w_chain, w_isN, w_notN, w_not, w_and, w_or, w_and1, w_and2, w_or1, w_or2, wp_tst, w_ite, w_tup, w_lst, w_ix, w_slc, w_oN, w_oS, w_fld, wp_shut, w_prop, w_call, w_callK, w_mk, w_mkK, w_mkR, w_bi, w_bm, w_isi, w_rngT, w_comp, w_new, w_frz, w_srt, w_isB, w_nil, w_cons, w_seq, w_rng, w_enm, w_zip, s_asg, s_setIx, s_setFld, s_ret, s_retN, s_if, s_expr, s_brk, s_cnt, s_pass, s_nil, s_cons, s_for, s_whl, wp_ok, wp_bad, wp_bind, wp_opt, wp_optN, wp_if, wp_run, g_call, g_call1, g_deep, g_con, asgT, asgTs, startE, wipeE, ix_lst, int_int, ml, fin]
  · have h0 : 0 ≤ (p : Int) % (r.length : Int) := Int.emod_nonneg _ (by omega)
    have h1 : (p : Int) % (r.length : Int) < r.length := Int.emod_lt_of_pos _ (by omega)
    have e : L2.atI (r.map D.int) ((p : Int) % (r.length : Int)) = some (.int (r[((p : Int) % (r.length : Int)).toNat]'(by omega))) := by
      rw [atI_nonneg h0 (by rw [List.length_map]; exact h1)]
      simp
    have hm : ∀ x : Int, binD .mod (.int x) (.int (r.length : Int)) h = .ok (.int (x % r.length)) h := fun x => mod_int (by omega)
    simp -implicitDefEqProofs [hp, hm, e, w_var, w_lit, w_glo, w_bin, w_neg, w_cmp, w_chain, w_isN, w_notN, w_not, w_and, w_or, w_and1, w_and2, w_or1, w_or2, wp_tst, w_ite, w_tup, w_lst, w_ix, w_slc, w_oN, w_oS, w_fld, wp_shut, w_prop, w_call, w_callK, w_mk, w_mkK, w_mkR, w_bi, w_bm, w_isi, w_rngT, w_comp, w_new, w_frz, w_srt, w_isB, w_nil, w_cons, w_seq, w_rng, w_enm, w_zip, s_asg, s_setIx, s_setFld, s_ret, s_retN, s_if, s_expr, s_brk, s_cnt, s_pass, s_nil, s_cons, s_for, s_whl, wp_ok, wp_bad, wp_bind, wp_opt, wp_optN, wp_if, wp_run, g_call, g_call1, g_deep, g_con, asgT, asgTs, startE, wipeE, ix_lst, int_int, len_lst, add_int, m1, m2, m3, m4, m5, ml, fin]
theorem ixN0 {n : Nat} (hn : 0 < n) : L2.ixN n 0 = some 0 := by
  unfold L2.ixN
  rw [if_pos (by omega), if_pos (by omega)]
  rfl
theorem atI0 {x : D} {xs : List D} : L2.atI (x :: xs) 0 = some x := by
  unfold L2.atI
  rw [ixN0 (by simp)]
  rfl
/-- the cell n holds [p] -/
def Sp (n p : Nat) (h : Sto) : Prop := getC h n = .lst [.int (p : Nat)]
theorem Sp.lt {n p : Nat} {h : Sto} (s : Sp n p h) : n < h.length := lt_of_getC (by rw [s]; intro z; cases z)
theorem take_w {k n p : Nat} {r : List Int} {limit : Int} {h : Sto} (hr : r ≠ []) (hl : 0 < limit) (hs : Sp n p h) : Wp (callI TB.tb (k + 2) i__law_take [.lst (r.map .int), .ref n, .int limit] h) fun d h' => h' = h.set n (.lst [.int ((p + 1 : Nat))]) ∧ ∃ v, d = .int v ∧ 0 ≤ v ∧ v < limit := by
  have e1 : getC (h.set n (.lst [.int ((p : Int) + 1)])) n = .lst [.int ((p : Int) + 1)] := getC_set hs.lt
  have e0 : getC h n = .lst [.int (p : Nat)] := hs
  rw [c__law_take]
  simp -implicitDefEqProofs [F__law_take, w_var, w_lit, w_glo, w_bin, w_neg, w_cmp, w_chain, w_isN, w_notN, w_not, w_and, w_or, w_and1, w_and2, w_or1, w_or2, wp_tst, w_ite, w_tup, w_lst, w_ix, w_slc, w_oN, w_oS, w_fld, wp_shut, w_prop, w_call, w_callK, w_mk, w_mkK, w_mkR, w_bi, w_bm, w_isi, w_rngT, w_comp, w_new, w_frz, w_srt, w_isB, w_nil, w_cons, w_seq, w_rng, w_enm, w_zip, s_asg, s_setIx, s_setFld, s_ret, s_retN, s_if, s_expr, s_brk, s_cnt, s_pass, s_nil, s_cons, s_for, s_whl, wp_ok, wp_bad, wp_bind, wp_opt, wp_optN, wp_if, wp_run, g_call, g_call1, g_deep, g_con, asgT, asgTs, startE, wipeE, ix_ref e0, ix_ref e1, atI0, add_int, sub_int, e0, ixN0, L2.ixN]
  refine (draw_w hr hl).imp fun d h' ⟨q1, q2⟩ => ⟨?_, q2⟩
  rw [q1]
def SpE (n : Nat) (h : Sto) : Prop := ∃ p, Sp n p h
theorem SpE.lt {n : Nat} {h : Sto} (s : SpE n h) : n < h.length := let ⟨_, q⟩ := s; q.lt
/-- some draws were taken; new cells may have come -/
structure Dr (n : Nat) (h h' : Sto) : Prop where
  sp : SpE n h'
  len : h.length ≤ h'.length
  kp : ∀ m, m ≠ n → m < h.length → getC h' m = getC h m
theorem Dr.refl {n : Nat} {h : Sto} (s : SpE n h) : Dr n h h := ⟨s, Nat.le_refl _, fun _ _ _ => rfl⟩
theorem Dr.trans {n : Nat} {h h1 h2 : Sto} (a : Dr n h h1) (b : Dr n h1 h2) : Dr n h h2 := ⟨b.sp, Nat.le_trans a.len b.len, fun m e l => (b.kp m e (Nat.lt_of_lt_of_le l a.len)).trans (a.kp m e l)⟩
theorem take_d {k n : Nat} {r : List Int} {limit : Int} {h : Sto} (hr : r ≠ []) (hl : 0 < limit) (hs : SpE n h) : Wp (callI TB.tb (k + 2) i__law_take [.lst (r.map .int), .ref n, .int limit] h) fun d h' => Dr n h h' ∧ ∃ v, d = .int v ∧ 0 ≤ v ∧ v < limit := by
  obtain ⟨p, hs⟩ := hs
  refine (take_w hr hl hs).imp fun d h' ⟨e, q⟩ => ⟨?_, q⟩
  subst e
  exact ⟨⟨p + 1, getC_set hs.lt⟩, by simp, fun m e _ => getC_ne (Ne.symm e)⟩
theorem mul_lit {a b : Int} {h : Sto} (hb : bits64 b = true) : binD .mul (.int a) (.int b) h = .ok (.int (a * b)) h := mul_int hb
theorem wide_d {k n : Nat} {r : List Int} {limit : Int} {h : Sto} (hr : r ≠ []) (hl : 0 < limit) (hs : SpE n h) : Wp (callI TB.tb (k + 3) i__law_wide [.lst (r.map .int), .ref n, .int limit] h) fun d h' => Dr n h h' ∧ ∃ v, d = .int v ∧ 0 ≤ v ∧ v < limit := by
  rw [c__law_wide]
  simp -implicitDefEqProofs [F__law_wide, w_var, w_lit, w_glo, w_bin, w_neg, w_cmp, w_chain, w_isN, w_notN, w_not, w_and, w_or, w_and1, w_and2, w_or1, w_or2, wp_tst, w_ite, w_tup, w_lst, w_ix, w_slc, w_oN, w_oS, w_fld, wp_shut, w_prop, w_call, w_callK, w_mk, w_mkK, w_mkR, w_bi, w_bm, w_isi, w_rngT, w_comp, w_new, w_frz, w_srt, w_isB, w_nil, w_cons, w_seq, w_rng, w_enm, w_zip, s_asg, s_setIx, s_setFld, s_ret, s_retN, s_if, s_expr, s_brk, s_cnt, s_pass, s_nil, s_cons, s_for, s_whl, wp_ok, wp_bad, wp_bind, wp_opt, wp_optN, wp_if, wp_run, g_call, g_call1, g_deep, g_con, asgT, asgTs, startE, wipeE]
  refine (take_d hr (by decide) hs).imp fun d h1 ⟨d1, v1, e1, _, _⟩ => ?_
  subst e1
  refine (take_d hr (by decide) d1.sp).imp fun d h2 ⟨d2, v2, e2, _, _⟩ => ?_
  subst e2
  refine (take_d hr (by decide) d2.sp).imp fun d h3 ⟨d3, v3, e3, _, _⟩ => ?_
  subst e3
  have f1 : ∀ a : Int, binD .mul (.int a) (.int 994009) h3 = .ok (.int (a * 994009)) h3 := fun a => mul_int (by decide +kernel)
  have f2 : ∀ a : Int, binD .mul (.int a) (.int 997) h3 = .ok (.int (a * 997)) h3 := fun a => mul_int (by decide +kernel)
  have f3 : ∀ a : Int, binD .mod (.int a) (.int limit) h3 = .ok (.int (a % limit)) h3 := fun a => mod_int hl
  simp -implicitDefEqProofs [w_var, w_lit, w_glo, w_bin, w_neg, w_cmp, w_chain, w_isN, w_notN, w_not, w_and, w_or, w_and1, w_and2, w_or1, w_or2, wp_tst, w_ite, w_tup, w_lst, w_ix, w_slc, w_oN, w_oS, w_fld, wp_shut, w_prop, w_call, w_callK, w_mk, w_mkK, w_mkR, w_bi, w_bm, w_isi, w_rngT, w_comp, w_new, w_frz, w_srt, w_isB, w_nil, w_cons, w_seq, w_rng, w_enm, w_zip, s_asg, s_setIx, s_setFld, s_ret, s_retN, s_if, s_expr, s_brk, s_cnt, s_pass, s_nil, s_cons, s_for, s_whl, wp_ok, wp_bad, wp_bind, wp_opt, wp_optN, wp_if, wp_run, g_call, g_call1, g_deep, g_con, asgT, asgTs, startE, wipeE, f1, f2, f3, add_int, int_int]
  exact ⟨(d1.trans d2).trans d3, Int.emod_nonneg _ (by omega), Int.emod_lt_of_pos _ hl⟩
/-- a time -/
theorem time_d {k n : Nat} {r : List Int} {style : Int} {h : Sto} (hr : r ≠ []) (hs : SpE n h) : Wp (callI TB.tb (k + 4) i__law_time [.lst (r.map .int), .ref n, .int style] h) fun d h' => Dr n h h' ∧ ∃ v, d = .int v ∧ 0 ≤ v ∧ v ≤ 10000 := by
  rw [c__law_time]
  simp -implicitDefEqProofs [F__law_time, w_var, w_lit, w_glo, w_bin, w_neg, w_cmp, w_chain, w_isN, w_notN, w_not, w_and, w_or, w_and1, w_and2, w_or1, w_or2, wp_tst, w_ite, w_tup, w_lst, w_ix, w_slc, w_oN, w_oS, w_fld, wp_shut, w_prop, w_call, w_callK, w_mk, w_mkK, w_mkR, w_bi, w_bm, w_isi, w_rngT, w_comp, w_new, w_frz, w_srt, w_isB, w_nil, w_cons, w_seq, w_rng, w_enm, w_zip, s_asg, s_setIx, s_setFld, s_ret, s_retN, s_if, s_expr, s_brk, s_cnt, s_pass, s_nil, s_cons, s_for, s_whl, wp_ok, wp_bad, wp_bind, wp_opt, wp_optN, wp_if, wp_run, g_call, g_call1, g_deep, g_con, asgT, asgTs, startE, wipeE, eq_int, tru_bl]
  by_cases h0 : style = 0
  · simp -implicitDefEqProofs [h0, w_var, w_lit, w_glo, w_bin, w_neg, w_cmp, w_chain, w_isN, w_notN, w_not, w_and, w_or, w_and1, w_and2, w_or1, w_or2, wp_tst, w_ite, w_tup, w_lst, w_ix, w_slc, w_oN, w_oS, w_fld, wp_shut, w_prop, w_call, w_callK, w_mk, w_mkK, w_mkR, w_bi, w_bm, w_isi, w_rngT, w_comp, w_new, w_frz, w_srt, w_isB, w_nil, w_cons, w_seq, w_rng, w_enm, w_zip, s_asg, s_setIx, s_setFld, s_ret, s_retN, s_if, s_expr, s_brk, s_cnt, s_pass, s_nil, s_cons, s_for, s_whl, wp_ok, wp_bad, wp_bind, wp_opt, wp_optN, wp_if, wp_run, g_call, g_call1, g_deep, g_con, asgT, asgTs, startE, wipeE]
    refine (take_d hr (by decide) hs).imp fun d h1 ⟨d1, v1, e1, _, _⟩ => ?_
    exact ⟨d1, v1, e1, by omega, by omega⟩
  · have e0 : (style == 0) = false := by simp [h0]
    simp -implicitDefEqProofs [e0, w_var, w_lit, w_glo, w_bin, w_neg, w_cmp, w_chain, w_isN, w_notN, w_not, w_and, w_or, w_and1, w_and2, w_or1, w_or2, wp_tst, w_ite, w_tup, w_lst, w_ix, w_slc, w_oN, w_oS, w_fld, wp_shut, w_prop, w_call, w_callK, w_mk, w_mkK, w_mkR, w_bi, w_bm, w_isi, w_rngT, w_comp, w_new, w_frz, w_srt, w_isB, w_nil, w_cons, w_seq, w_rng, w_enm, w_zip, s_asg, s_setIx, s_setFld, s_ret, s_retN, s_if, s_expr, s_brk, s_cnt, s_pass, s_nil, s_cons, s_for, s_whl, wp_ok, wp_bad, wp_bind, wp_opt, wp_optN, wp_if, wp_run, g_call, g_call1, g_deep, g_con, asgT, asgTs, startE, wipeE, eq_int, tru_bl]
    by_cases h1 : style = 1
    · simp -implicitDefEqProofs [h1, w_var, w_lit, w_glo, w_bin, w_neg, w_cmp, w_chain, w_isN, w_notN, w_not, w_and, w_or, w_and1, w_and2, w_or1, w_or2, wp_tst, w_ite, w_tup, w_lst, w_ix, w_slc, w_oN, w_oS, w_fld, wp_shut, w_prop, w_call, w_callK, w_mk, w_mkK, w_mkR, w_bi, w_bm, w_isi, w_rngT, w_comp, w_new, w_frz, w_srt, w_isB, w_nil, w_cons, w_seq, w_rng, w_enm, w_zip, s_asg, s_setIx, s_setFld, s_ret, s_retN, s_if, s_expr, s_brk, s_cnt, s_pass, s_nil, s_cons, s_for, s_whl, wp_ok, wp_bad, wp_bind, wp_opt, wp_optN, wp_if, wp_run, g_call, g_call1, g_deep, g_con, asgT, asgTs, startE, wipeE]
      refine (take_d hr (by decide) hs).imp fun d h1 ⟨d1, v1, e1, _, _⟩ => ?_
      exact ⟨d1, v1, e1, by omega, by omega⟩
    · have e1 : (style == 1) = false := by simp [h1]
      simp -implicitDefEqProofs [e1, w_var, w_lit, w_glo, w_bin, w_neg, w_cmp, w_chain, w_isN, w_notN, w_not, w_and, w_or, w_and1, w_and2, w_or1, w_or2, wp_tst, w_ite, w_tup, w_lst, w_ix, w_slc, w_oN, w_oS, w_fld, wp_shut, w_prop, w_call, w_callK, w_mk, w_mkK, w_mkR, w_bi, w_bm, w_isi, w_rngT, w_comp, w_new, w_frz, w_srt, w_isB, w_nil, w_cons, w_seq, w_rng, w_enm, w_zip, s_asg, s_setIx, s_setFld, s_ret, s_retN, s_if, s_expr, s_brk, s_cnt, s_pass, s_nil, s_cons, s_for, s_whl, wp_ok, wp_bad, wp_bind, wp_opt, wp_optN, wp_if, wp_run, g_call, g_call1, g_deep, g_con, asgT, asgTs, startE, wipeE, lim_ok]
      refine (wide_d hr (by decide) hs).imp fun d h1 ⟨d1, v1, e1, _, _⟩ => ?_
      subst e1
      refine (take_d hr (by decide) d1.sp).imp fun d h2 ⟨d2, v2, e2, _, _⟩ => ?_
      subst e2
      have hv : v2 = 0 ∨ v2 = 1 ∨ v2 = 2 ∨ v2 = 3 := by omega
      have d3 := d1.trans d2
      rcases hv with rfl | rfl | rfl | rfl
      · exact wp_ok.mpr ⟨d3, 0, rfl, by omega, by omega⟩
      · exact wp_ok.mpr ⟨d3, 1, rfl, by omega, by omega⟩
      · exact wp_ok.mpr ⟨d3, 10000, rfl, by omega, by omega⟩
      · exact wp_ok.mpr ⟨d3, v1, rfl, by omega, by omega⟩
theorem min_int {a b : Int} {h : Sto} : biD .min [.int a, .int b] h = .ok (.int (if b < a then b else a)) h := rfl
theorem max_int {a b : Int} {h : Sto} : biD .max [.int a, .int b] h = .ok (.int (if b > a then b else a)) h := rfl
/-- a task -/
theorem task_d {k n : Nat} {r : List Int} {style : Int} {h : Sto} (hr : r ≠ []) (hs : SpE n h) : Wp (callI TB.tb (k + 5) i__law_task [.lst (r.map .int), .ref n, .int style] h) fun d h' => Dr n h h' ∧ ∃ u v, d = .tup [.int u, .int v] ∧ 0 ≤ u ∧ u ≤ v ∧ v ≤ 10000 := by
  rw [c__law_task]
  simp -implicitDefEqProofs [F__law_task, w_var, w_lit, w_glo, w_bin, w_neg, w_cmp, w_chain, w_isN, w_notN, w_not, w_and, w_or, w_and1, w_and2, w_or1, w_or2, wp_tst, w_ite, w_tup, w_lst, w_ix, w_slc, w_oN, w_oS, w_fld, wp_shut, w_prop, w_call, w_callK, w_mk, w_mkK, w_mkR, w_bi, w_bm, w_isi, w_rngT, w_comp, w_new, w_frz, w_srt, w_isB, w_nil, w_cons, w_seq, w_rng, w_enm, w_zip, s_asg, s_setIx, s_setFld, s_ret, s_retN, s_if, s_expr, s_brk, s_cnt, s_pass, s_nil, s_cons, s_for, s_whl, wp_ok, wp_bad, wp_bind, wp_opt, wp_optN, wp_if, wp_run, g_call, g_call1, g_deep, g_con, asgT, asgTs, startE, wipeE]
  refine (time_d hr hs).imp fun d h1 ⟨d1, u, e1, u0, u1⟩ => ?_
  subst e1
  try simp -implicitDefEqProofs [w_var, w_lit, w_glo, w_bin, w_neg, w_cmp, w_chain, w_isN, w_notN, w_not, w_and, w_or, w_and1, w_and2, w_or1, w_or2, wp_tst, w_ite, w_tup, w_lst, w_ix, w_slc, w_oN, w_oS, w_fld, wp_shut, w_prop, w_call, w_callK, w_mk, w_mkK, w_mkR, w_bi, w_bm, w_isi, w_rngT, w_comp, w_new, w_frz, w_srt, w_isB, w_nil, w_cons, w_seq, w_rng, w_enm, w_zip, s_asg, s_setIx, s_setFld, s_ret, s_retN, s_if, s_expr, s_brk, s_cnt, s_pass, s_nil, s_cons, s_for, s_whl, wp_ok, wp_bad, wp_bind, wp_opt, wp_optN, wp_if, wp_run, g_call, g_call1, g_deep, g_con, asgT, asgTs, startE, wipeE]
  refine (take_d hr (by decide) d1.sp).imp fun d h2 ⟨d2, b, e2, b0, b1⟩ => ?_
  subst e2
  simp -implicitDefEqProofs [w_var, w_lit, w_glo, w_bin, w_neg, w_cmp, w_chain, w_isN, w_notN, w_not, w_and, w_or, w_and1, w_and2, w_or1, w_or2, wp_tst, w_ite, w_tup, w_lst, w_ix, w_slc, w_oN, w_oS, w_fld, wp_shut, w_prop, w_call, w_callK, w_mk, w_mkK, w_mkR, w_bi, w_bm, w_isi, w_rngT, w_comp, w_new, w_frz, w_srt, w_isB, w_nil, w_cons, w_seq, w_rng, w_enm, w_zip, s_asg, s_setIx, s_setFld, s_ret, s_retN, s_if, s_expr, s_brk, s_cnt, s_pass, s_nil, s_cons, s_for, s_whl, wp_ok, wp_bad, wp_bind, wp_opt, wp_optN, wp_if, wp_run, g_call, g_call1, g_deep, g_con, asgT, asgTs, startE, wipeE, eq_int, tru_bl]
  by_cases hb : b = 0
  · simp -implicitDefEqProofs [hb, w_var, w_lit, w_glo, w_bin, w_neg, w_cmp, w_chain, w_isN, w_notN, w_not, w_and, w_or, w_and1, w_and2, w_or1, w_or2, wp_tst, w_ite, w_tup, w_lst, w_ix, w_slc, w_oN, w_oS, w_fld, wp_shut, w_prop, w_call, w_callK, w_mk, w_mkK, w_mkR, w_bi, w_bm, w_isi, w_rngT, w_comp, w_new, w_frz, w_srt, w_isB, w_nil, w_cons, w_seq, w_rng, w_enm, w_zip, s_asg, s_setIx, s_setFld, s_ret, s_retN, s_if, s_expr, s_brk, s_cnt, s_pass, s_nil, s_cons, s_for, s_whl, wp_ok, wp_bad, wp_bind, wp_opt, wp_optN, wp_if, wp_run, g_call, g_call1, g_deep, g_con, asgT, asgTs, startE, wipeE, lim_ok]
    exact ⟨d1.trans d2, u, u, ⟨rfl, rfl⟩, by omega, by omega, by omega⟩
  · have e0 : (b == 0) = false := by simp [hb]
    simp -implicitDefEqProofs [e0, w_var, w_lit, w_glo, w_bin, w_neg, w_cmp, w_chain, w_isN, w_notN, w_not, w_and, w_or, w_and1, w_and2, w_or1, w_or2, wp_tst, w_ite, w_tup, w_lst, w_ix, w_slc, w_oN, w_oS, w_fld, wp_shut, w_prop, w_call, w_callK, w_mk, w_mkK, w_mkR, w_bi, w_bm, w_isi, w_rngT, w_comp, w_new, w_frz, w_srt, w_isB, w_nil, w_cons, w_seq, w_rng, w_enm, w_zip, s_asg, s_setIx, s_setFld, s_ret, s_retN, s_if, s_expr, s_brk, s_cnt, s_pass, s_nil, s_cons, s_for, s_whl, wp_ok, wp_bad, wp_bind, wp_opt, wp_optN, wp_if, wp_run, g_call, g_call1, g_deep, g_con, asgT, asgTs, startE, wipeE, lim_ok]
    refine (time_d hr d2.sp).imp fun d h3 ⟨d3, v, e3, v0, v1⟩ => ?_
    subst e3
    simp -implicitDefEqProofs [w_var, w_lit, w_glo, w_bin, w_neg, w_cmp, w_chain, w_isN, w_notN, w_not, w_and, w_or, w_and1, w_and2, w_or1, w_or2, wp_tst, w_ite, w_tup, w_lst, w_ix, w_slc, w_oN, w_oS, w_fld, wp_shut, w_prop, w_call, w_callK, w_mk, w_mkK, w_mkR, w_bi, w_bm, w_isi, w_rngT, w_comp, w_new, w_frz, w_srt, w_isB, w_nil, w_cons, w_seq, w_rng, w_enm, w_zip, s_asg, s_setIx, s_setFld, s_ret, s_retN, s_if, s_expr, s_brk, s_cnt, s_pass, s_nil, s_cons, s_for, s_whl, wp_ok, wp_bad, wp_bind, wp_opt, wp_optN, wp_if, wp_run, g_call, g_call1, g_deep, g_con, asgT, asgTs, startE, wipeE, lim_ok, add_int, min_int]
    refine ⟨(d1.trans d2).trans d3, _, _, ⟨rfl, rfl⟩, u0, ?_⟩
    split <;> omega
end Cl
/-! text L2 -/
set_option maxHeartbeats 1000007
namespace Cl
open PySem
theorem it_lst {h : Sto} {xs : List D} : itD h (.lst xs) = some (xs, none) := rfl
theorem it_tup {h : Sto} {xs : List D} : itD h (.tup xs) = some (xs, none) := rfl
theorem cut_ints (ns : List Int) (lo hi : Option Int) : ∃ ms : List Int, cutD (ns.map D.int) lo hi = ms.map .int ∧ ms.length ≤ ns.length := by
  refine ⟨(ns.drop (HT.sIx ns.length 0 lo)).take (HT.sIx ns.length ns.length hi - HT.sIx ns.length 0 lo), ?_, ?_⟩
  · unfold cutD
    rw [List.length_map, List.map_take, List.map_drop]
  · simp
    omega
theorem app_w {h : Sto} {n : Nat} {xs : List D} {x : D} {P : D → Sto → Prop} (e : getC h n = .lst xs) (hl : xs.length < sizeLine) : Wp (bmD .append (.ref n) [x] h) P = P .non (h.set n (.lst (xs ++ [x]))) := by
  simp [bmD, e, wp_if, wp_ok, hl]
theorem lst_ref {h : Sto} {n : Nat} {xs : List D} (e : getC h n = .lst xs) : lstOf h (.ref n) = some xs := by
  simp [lstOf, e]
theorem seq_ref {h : Sto} {n : Nat} {xs : List D} (e : getC h n = .lst xs) : seqOf h (.ref n) = some xs := by
  simp [seqOf, e]
theorem len_ref {h : Sto} {n : Nat} {xs : List D} (e : getC h n = .lst xs) : biD .len [.ref n] h = .ok (.int xs.length) h := by
  simp [biD, seqOf, e]
theorem pow_18 {h : Sto} : binD .pow (.int 10) (.int 18) h = .ok (.int 1000000000000000000) h := by
  simp [binD, ifR]
theorem rng_60 : rngD [.int 60] = some (0, 60) := by decide +kernel
theorem rng_4 : rngD [.int 4] = some (0, 4) := by decide +kernel
theorem rng_len (lo : Int) (n : Nat) : (rngL lo n).length = n := by
  unfold rngL
  rw [List.length_map, List.length_range]
theorem sz : 100000 < sizeLine := by decide
theorem md (m : Int) (hm : 0 < m) (a : Int) (h : Sto) : binD .mod (.int a) (.int m) h = .ok (.int (a % m)) h := mod_int hm
theorem ml (m : Int) (hm : bits64 m = true) (a : Int) (h : Sto) : binD .mul (.int a) (.int m) h = .ok (.int (a * m)) h := mul_int hm
theorem fd (m : Int) (hm : small30 m = true) (a : Int) (h : Sto) : binD .fdiv (.int a) (.int m) h = .ok (.int (a / m)) h := fdiv_int hm
theorem getC1 {c : Cell} : getC [c] 0 = c := rfl
theorem map_app (r : List Int) (x : Int) : r.map D.int ++ [.int x] = (r ++ [x]).map .int := by simp
theorem numbers_d {k : Nat} {ns : List Int} (hn : ns.length ≤ 63) : Wp (callI TB.tb (k + 1) i__law_numbers [.scr (ns.map .int)] []) fun d h' => h' = [.dead] ∧ ∃ r : List Int, r ≠ [] ∧ d = .lst (r.map .int) := by
  obtain ⟨ms, em, hm⟩ := cut_ints ns none (some 63)
  have q1 := md 997 (by decide)
  have q2 := fd 997 (by decide +kernel)
  have q3 := ml 48271 (by decide +kernel)
  have q4 := ml 69621 (by decide +kernel)
  have q5 := md 2147483647 (by decide)
  have q6 := ml 16807 (by decide +kernel)
  have q7 := md 2147483629 (by decide)
  have big := sz
  rw [c__law_numbers]
  simp -implicitDefEqProofs [F__law_numbers, w_var, w_lit, w_glo, w_bin, w_neg, w_cmp, w_chain, w_isN, w_notN, w_not, w_and, w_or, w_and1, w_and2, w_or1, w_or2, wp_tst, w_ite, w_tup, w_lst, w_ix, w_slc, w_oN, w_oS, w_fld, wp_shut, w_prop, w_call, w_callK, w_mk, w_mkK, w_mkR, w_bi, w_bm, w_isi, w_rngT, w_comp, w_new, w_frz, w_srt, w_isB, w_nil, w_cons, w_seq, w_rng, w_enm, w_zip, s_asg, s_setIx, s_setFld, s_ret, s_retN, s_if, s_expr, s_brk, s_cnt, s_pass, s_nil, s_cons, s_for, s_whl, wp_ok, wp_bad, wp_bind, wp_opt, wp_optN, wp_if, wp_run, g_call, g_call1, g_deep, g_con, asgT, asgTs, startE, wipeE, lim_ok, it_lst, em, lockN, freeN]
  refine wp_forL (fun i ρ h => ∃ (r : List Int) (a b c d : Option D), ρ = [some (.scr (ns.map .int)), some (.ref 0), a, b, c, d] ∧ h = [.lst (r.map .int)] ∧ r.length ≤ 60 * i) 0 ⟨[], none, none, none, none, rfl, rfl, by simp⟩ ?_ ?_
  · rintro i d ρ h hd ⟨r, a, b, c, e, rfl, rfl, hr⟩
    have hi : i < ms.length := by
      have := (List.getElem?_eq_some_iff.mp hd).1
      simpa using this
    obtain ⟨x, rfl⟩ : ∃ x : Int, d = .int x := by
      rw [List.getElem?_map] at hd
      cases hx : ms[i]? with
      | none => rw [hx] at hd; cases hd
      | some x =>
        rw [hx] at hd
        cases hd
        exact ⟨x, rfl⟩
    refine Wp.imp (P := fun fl h' => ∃ (r' : List Int) (a b c d : Option D), fl = .nx [some (.scr (ns.map .int)), some (.ref 0), a, b, c, d] ∧ h' = [.lst (r'.map .int)] ∧ r'.length ≤ r.length + 60) ?_ ?_
    · unfold forF
      simp -implicitDefEqProofs [w_var, w_lit, w_glo, w_bin, w_neg, w_cmp, w_chain, w_isN, w_notN, w_not, w_and, w_or, w_and1, w_and2, w_or1, w_or2, wp_tst, w_ite, w_tup, w_lst, w_ix, w_slc, w_oN, w_oS, w_fld, wp_shut, w_prop, w_call, w_callK, w_mk, w_mkK, w_mkR, w_bi, w_bm, w_isi, w_rngT, w_comp, w_new, w_frz, w_srt, w_isB, w_nil, w_cons, w_seq, w_rng, w_enm, w_zip, s_asg, s_setIx, s_setFld, s_ret, s_retN, s_if, s_expr, s_brk, s_cnt, s_pass, s_nil, s_cons, s_for, s_whl, wp_ok, wp_bad, wp_bind, wp_opt, wp_optN, wp_if, wp_run, g_call, g_call1, g_deep, g_con, asgT, asgTs, startE, wipeE, pow_18, ge_int, tru_bl]
      by_cases hx : 1000000000000000000 ≤ x
      · simp -implicitDefEqProofs [hx, w_var, w_lit, w_glo, w_bin, w_neg, w_cmp, w_chain, w_isN, w_notN, w_not, w_and, w_or, w_and1, w_and2, w_or1, w_or2, wp_tst, w_ite, w_tup, w_lst, w_ix, w_slc, w_oN, w_oS, w_fld, wp_shut, w_prop, w_call, w_callK, w_mk, w_mkK, w_mkR, w_bi, w_bm, w_isi, w_rngT, w_comp, w_new, w_frz, w_srt, w_isB, w_nil, w_cons, w_seq, w_rng, w_enm, w_zip, s_asg, s_setIx, s_setFld, s_ret, s_retN, s_if, s_expr, s_brk, s_cnt, s_pass, s_nil, s_cons, s_for, s_whl, wp_ok, wp_bad, wp_bind, wp_opt, wp_optN, wp_if, wp_run, g_call, g_call1, g_deep, g_con, asgT, asgTs, startE, wipeE, rng_60, lockN, freeN]
        refine wp_forL (fun i ρ h => ∃ (r' : List Int) (l : Int) (c d : Option D), ρ = [some (.scr (ns.map .int)), some (.ref 0), some (.int x), some (.int l), c, d] ∧ h = [.lst (r'.map .int)] ∧ r'.length ≤ r.length + i) 0 ⟨r, x, c, e, rfl, rfl, by simp⟩ ?_ ?_
        · rintro j d ρ h hj ⟨r', l, c', d', rfl, rfl, hr'⟩
          have hj : j < 60 := by
            have := (List.getElem?_eq_some_iff.mp hj).1
            rw [rng_len] at this
            exact this
          have hl : (r'.map D.int).length < sizeLine := by
            rw [List.length_map]
            omega
          unfold forF
          simp -implicitDefEqProofs [w_var, w_lit, w_glo, w_bin, w_neg, w_cmp, w_chain, w_isN, w_notN, w_not, w_and, w_or, w_and1, w_and2, w_or1, w_or2, wp_tst, w_ite, w_tup, w_lst, w_ix, w_slc, w_oN, w_oS, w_fld, wp_shut, w_prop, w_call, w_callK, w_mk, w_mkK, w_mkR, w_bi, w_bm, w_isi, w_rngT, w_comp, w_new, w_frz, w_srt, w_isB, w_nil, w_cons, w_seq, w_rng, w_enm, w_zip, s_asg, s_setIx, s_setFld, s_ret, s_retN, s_if, s_expr, s_brk, s_cnt, s_pass, s_nil, s_cons, s_for, s_whl, wp_ok, wp_bad, wp_bind, wp_opt, wp_optN, wp_if, wp_run, g_call, g_call1, g_deep, g_con, asgT, asgTs, startE, wipeE, eq_int, tru_bl]
          by_cases h0 : l = 0
          · simp -implicitDefEqProofs [h0, w_var, w_lit, w_glo, w_bin, w_neg, w_cmp, w_chain, w_isN, w_notN, w_not, w_and, w_or, w_and1, w_and2, w_or1, w_or2, wp_tst, w_ite, w_tup, w_lst, w_ix, w_slc, w_oN, w_oS, w_fld, wp_shut, w_prop, w_call, w_callK, w_mk, w_mkK, w_mkR, w_bi, w_bm, w_isi, w_rngT, w_comp, w_new, w_frz, w_srt, w_isB, w_nil, w_cons, w_seq, w_rng, w_enm, w_zip, s_asg, s_setIx, s_setFld, s_ret, s_retN, s_if, s_expr, s_brk, s_cnt, s_pass, s_nil, s_cons, s_for, s_whl, wp_ok, wp_bad, wp_bind, wp_opt, wp_optN, wp_if, wp_run, g_call, g_call1, g_deep, g_con, asgT, asgTs, startE, wipeE]
            exact ⟨r', rfl, by omega⟩
          · have e0 : (l == 0) = false := by simp [h0]
            simp -implicitDefEqProofs [e0, w_var, w_lit, w_glo, w_bin, w_neg, w_cmp, w_chain, w_isN, w_notN, w_not, w_and, w_or, w_and1, w_and2, w_or1, w_or2, wp_tst, w_ite, w_tup, w_lst, w_ix, w_slc, w_oN, w_oS, w_fld, wp_shut, w_prop, w_call, w_callK, w_mk, w_mkK, w_mkR, w_bi, w_bm, w_isi, w_rngT, w_comp, w_new, w_frz, w_srt, w_isB, w_nil, w_cons, w_seq, w_rng, w_enm, w_zip, s_asg, s_setIx, s_setFld, s_ret, s_retN, s_if, s_expr, s_brk, s_cnt, s_pass, s_nil, s_cons, s_for, s_whl, wp_ok, wp_bad, wp_bind, wp_opt, wp_optN, wp_if, wp_run, g_call, g_call1, g_deep, g_con, asgT, asgTs, startE, wipeE, int_int, q1, q2, lst_ref getC1, app_w getC1 hl]
            refine ⟨r' ++ [l % 997], by simp, by simp; omega⟩
        · rintro ρ h ⟨r', l, c', d', rfl, rfl, hr'⟩
          rw [rng_len] at hr'
          simp -implicitDefEqProofs [w_var, w_lit, w_glo, w_bin, w_neg, w_cmp, w_chain, w_isN, w_notN, w_not, w_and, w_or, w_and1, w_and2, w_or1, w_or2, wp_tst, w_ite, w_tup, w_lst, w_ix, w_slc, w_oN, w_oS, w_fld, wp_shut, w_prop, w_call, w_callK, w_mk, w_mkK, w_mkR, w_bi, w_bm, w_isi, w_rngT, w_comp, w_new, w_frz, w_srt, w_isB, w_nil, w_cons, w_seq, w_rng, w_enm, w_zip, s_asg, s_setIx, s_setFld, s_ret, s_retN, s_if, s_expr, s_brk, s_cnt, s_pass, s_nil, s_cons, s_for, s_whl, wp_ok, wp_bad, wp_bind, wp_opt, wp_optN, wp_if, wp_run, g_call, g_call1, g_deep, g_con, asgT, asgTs, startE, wipeE]
          exact ⟨r', rfl, by omega⟩
      · simp -implicitDefEqProofs [hx, w_var, w_lit, w_glo, w_bin, w_neg, w_cmp, w_chain, w_isN, w_notN, w_not, w_and, w_or, w_and1, w_and2, w_or1, w_or2, wp_tst, w_ite, w_tup, w_lst, w_ix, w_slc, w_oN, w_oS, w_fld, wp_shut, w_prop, w_call, w_callK, w_mk, w_mkK, w_mkR, w_bi, w_bm, w_isi, w_rngT, w_comp, w_new, w_frz, w_srt, w_isB, w_nil, w_cons, w_seq, w_rng, w_enm, w_zip, s_asg, s_setIx, s_setFld, s_ret, s_retN, s_if, s_expr, s_brk, s_cnt, s_pass, s_nil, s_cons, s_for, s_whl, wp_ok, wp_bad, wp_bind, wp_opt, wp_optN, wp_if, wp_run, g_call, g_call1, g_deep, g_con, asgT, asgTs, startE, wipeE, rng_4, lockN, freeN]
        refine wp_forL (fun i ρ h => ∃ (r' : List Int) (c d : Option D), ρ = [some (.scr (ns.map .int)), some (.ref 0), some (.int x), b, c, d] ∧ h = [.lst (r'.map .int)] ∧ r'.length ≤ r.length + i) 0 ⟨r, c, e, rfl, rfl, by simp⟩ ?_ ?_
        · rintro j d ρ h hj ⟨r', c', d', rfl, rfl, hr'⟩
          obtain ⟨hj, rfl⟩ := rng_get hj
          have hl : (r'.map D.int).length < sizeLine := by
            rw [List.length_map]
            omega
          unfold forF
          simp -implicitDefEqProofs [w_var, w_lit, w_glo, w_bin, w_neg, w_cmp, w_chain, w_isN, w_notN, w_not, w_and, w_or, w_and1, w_and2, w_or1, w_or2, wp_tst, w_ite, w_tup, w_lst, w_ix, w_slc, w_oN, w_oS, w_fld, wp_shut, w_prop, w_call, w_callK, w_mk, w_mkK, w_mkR, w_bi, w_bm, w_isi, w_rngT, w_comp, w_new, w_frz, w_srt, w_isB, w_nil, w_cons, w_seq, w_rng, w_enm, w_zip, s_asg, s_setIx, s_setFld, s_ret, s_retN, s_if, s_expr, s_brk, s_cnt, s_pass, s_nil, s_cons, s_for, s_whl, wp_ok, wp_bad, wp_bind, wp_opt, wp_optN, wp_if, wp_run, g_call, g_call1, g_deep, g_con, asgT, asgTs, startE, wipeE, int_int, add_int, q3, q4, q5, q6, q7, lst_ref getC1, app_w getC1 hl]
          refine ⟨r' ++ [_], by simp; rfl, by simp; omega⟩
        · rintro ρ h ⟨r', c', d', rfl, rfl, hr'⟩
          rw [rng_len] at hr'
          simp -implicitDefEqProofs [w_var, w_lit, w_glo, w_bin, w_neg, w_cmp, w_chain, w_isN, w_notN, w_not, w_and, w_or, w_and1, w_and2, w_or1, w_or2, wp_tst, w_ite, w_tup, w_lst, w_ix, w_slc, w_oN, w_oS, w_fld, wp_shut, w_prop, w_call, w_callK, w_mk, w_mkK, w_mkR, w_bi, w_bm, w_isi, w_rngT, w_comp, w_new, w_frz, w_srt, w_isB, w_nil, w_cons, w_seq, w_rng, w_enm, w_zip, s_asg, s_setIx, s_setFld, s_ret, s_retN, s_if, s_expr, s_brk, s_cnt, s_pass, s_nil, s_cons, s_for, s_whl, wp_ok, wp_bad, wp_bind, wp_opt, wp_optN, wp_if, wp_run, g_call, g_call1, g_deep, g_con, asgT, asgTs, startE, wipeE]
          exact ⟨r', rfl, by omega⟩
    · rintro fl h' ⟨r', a', b', c', d', rfl, rfl, hr'⟩
      exact ⟨r', a', b', c', d', rfl, rfl, by omega⟩
  · rintro ρ h ⟨r, a, b, c, d, rfl, rfl, hr⟩
    have hl : (r.map D.int).length < sizeLine := by
      rw [List.length_map] at hr ⊢
      omega
    simp -implicitDefEqProofs [w_var, w_lit, w_glo, w_bin, w_neg, w_cmp, w_chain, w_isN, w_notN, w_not, w_and, w_or, w_and1, w_and2, w_or1, w_or2, wp_tst, w_ite, w_tup, w_lst, w_ix, w_slc, w_oN, w_oS, w_fld, wp_shut, w_prop, w_call, w_callK, w_mk, w_mkK, w_mkR, w_bi, w_bm, w_isi, w_rngT, w_comp, w_new, w_frz, w_srt, w_isB, w_nil, w_cons, w_seq, w_rng, w_enm, w_zip, s_asg, s_setIx, s_setFld, s_ret, s_retN, s_if, s_expr, s_brk, s_cnt, s_pass, s_nil, s_cons, s_for, s_whl, wp_ok, wp_bad, wp_bind, wp_opt, wp_optN, wp_if, wp_run, g_call, g_call1, g_deep, g_con, asgT, asgTs, startE, wipeE, getC1, seq_ref getC1, len_ref getC1, eq_int, tru_bl]
    by_cases h0 : r = []
    · subst h0
      have e0 : (((([] : List Int).length : Nat) : Int) == 0) = true := rfl
      have g0 : getC [Cell.lst []] 0 = .lst [] := rfl
      simp -implicitDefEqProofs [e0, w_var, w_lit, w_glo, w_bin, w_neg, w_cmp, w_chain, w_isN, w_notN, w_not, w_and, w_or, w_and1, w_and2, w_or1, w_or2, wp_tst, w_ite, w_tup, w_lst, w_ix, w_slc, w_oN, w_oS, w_fld, wp_shut, w_prop, w_call, w_callK, w_mk, w_mkK, w_mkR, w_bi, w_bm, w_isi, w_rngT, w_comp, w_new, w_frz, w_srt, w_isB, w_nil, w_cons, w_seq, w_rng, w_enm, w_zip, s_asg, s_setIx, s_setFld, s_ret, s_retN, s_if, s_expr, s_brk, s_cnt, s_pass, s_nil, s_cons, s_for, s_whl, wp_ok, wp_bad, wp_bind, wp_opt, wp_optN, wp_if, wp_run, g_call, g_call1, g_deep, g_con, asgT, asgTs, startE, wipeE, lst_ref g0, app_w g0 (show ([] : List D).length < sizeLine from by simp; omega), getC1]
      exact ⟨[0], by simp, rfl⟩
    · have e0 : (((r.length : Nat) : Int) == 0) = false := by simp [h0]
      simp -implicitDefEqProofs [e0, w_var, w_lit, w_glo, w_bin, w_neg, w_cmp, w_chain, w_isN, w_notN, w_not, w_and, w_or, w_and1, w_and2, w_or1, w_or2, wp_tst, w_ite, w_tup, w_lst, w_ix, w_slc, w_oN, w_oS, w_fld, wp_shut, w_prop, w_call, w_callK, w_mk, w_mkK, w_mkR, w_bi, w_bm, w_isi, w_rngT, w_comp, w_new, w_frz, w_srt, w_isB, w_nil, w_cons, w_seq, w_rng, w_enm, w_zip, s_asg, s_setIx, s_setFld, s_ret, s_retN, s_if, s_expr, s_brk, s_cnt, s_pass, s_nil, s_cons, s_for, s_whl, wp_ok, wp_bad, wp_bind, wp_opt, wp_optN, wp_if, wp_run, g_call, g_call1, g_deep, g_con, asgT, asgTs, startE, wipeE, getC1]
      exact ⟨r, h0, rfl⟩
end Cl
/-! text L3 -/
set_option maxHeartbeats 1000007
namespace Cl
open PySem
theorem list_lst {h : Sto} {xs : List D} : biD .list [.lst xs] h = .ok (.lst xs) h := rfl
theorem list_tup {h : Sto} {xs : List D} : biD .list [.tup xs] h = .ok (.lst xs) h := rfl
theorem tuple_lst {h : Sto} {xs : List D} : biD .tuple [.lst xs] h = .ok (.tup xs) h := rfl
theorem tuple_ref {h : Sto} {n : Nat} {xs : List D} (e : getC h n = .lst xs) : biD .tuple [.ref n] h = .ok (.tup xs) h := by
  simp [biD, seqOf, e]
theorem lstOf_lst {h : Sto} {xs : List D} : lstOf h (.lst xs) = some xs := rfl
theorem add_lst {h : Sto} {xs ys : List D} (hl : xs.length + ys.length ≤ 1000000) : binD .add (.lst xs) (.lst ys) h = .ok (.lst (xs ++ ys)) h := by
  simp [binD, lstOf, lim_ok hl, ifR]
theorem sIx_int {n d : Nat} {i : Int} (h0 : 0 ≤ i) (h1 : i ≤ n) : HT.sIx n d (some i) = i.toNat := by
  have e := HT.sIx_nat n d i.toNat
  rw [show ((i.toNat : Nat) : Int) = i by omega] at e
  rw [e]
  omega
theorem cut_to {xs : List D} {i : Int} (h0 : 0 ≤ i) (h1 : i ≤ xs.length) : cutD xs none (some i) = xs.take i.toNat := by
  unfold cutD
  rw [sIx_int h0 h1, HT.sIx_none, Nat.sub_zero, List.drop_zero]
theorem cut_from {xs : List D} {i : Int} (h0 : 0 ≤ i) (h1 : i ≤ xs.length) : cutD xs (some i) none = xs.drop i.toNat := by
  unfold cutD
  rw [sIx_int h0 h1, HT.sIx_none, List.take_of_length_le (by simp)]
theorem at_map {r : List Int} {i : Int} (h0 : 0 ≤ i) (h1 : i < r.length) : L2.atI (r.map D.int) i = some (.int (r[i.toNat]'(by omega))) := by
  rw [atI_nonneg h0 (by rw [List.length_map]; exact h1)]
  simp
theorem perm_mid {α : Type} {L : List α} {i : Nat} (hi : i < L.length) : ([L[i]] ++ (L.take i ++ L.drop (i + 1))).Perm L := by
  have e : L = L.take i ++ L[i] :: L.drop (i + 1) := by
    rw [List.getElem_cons_drop hi, List.take_append_drop]
  have p : (L[i] :: (L.take i ++ L.drop (i + 1))).Perm (L.take i ++ L[i] :: L.drop (i + 1)) := List.perm_middle.symm
  rw [← e] at p
  exact p
/-- a small number -/
structure Few (n : Nat) : Prop where
  le : n ≤ 1000
/-- the things in another order -/
theorem mixed_d {k n : Nat} {r : List Int} {ts : List Int} {h : Sto} (hr : r ≠ []) (ht : Few ts.length) (hs : SpE n h) : Wp (callI TB.tb (k + 3) i__law_mixed [.lst (r.map .int), .ref n, .lst (ts.map .int)] h) fun d h' => Dr n h h' ∧ ∃ qs : List Int, d = .lst (qs.map .int) ∧ qs.Perm ts := by
  have big := sz
  have hn : n < h.length := hs.lt
  have ht := ht.le
  rw [c__law_mixed]
  simp -implicitDefEqProofs [F__law_mixed, w_var, w_lit, w_glo, w_bin, w_neg, w_cmp, w_chain, w_isN, w_notN, w_not, w_and, w_or, w_and1, w_and2, w_or1, w_or2, wp_tst, w_ite, w_tup, w_lst, w_ix, w_slc, w_oN, w_oS, w_fld, wp_shut, w_prop, w_call, w_callK, w_mk, w_mkK, w_mkR, w_bi, w_bm, w_isi, w_rngT, w_comp, w_new, w_frz, w_srt, w_isB, w_nil, w_cons, w_seq, w_rng, w_enm, w_zip, s_asg, s_setIx, s_setFld, s_ret, s_retN, s_if, s_expr, s_brk, s_cnt, s_pass, s_nil, s_cons, s_for, s_whl, wp_ok, wp_bad, wp_bind, wp_opt, wp_optN, wp_if, wp_run, g_call, g_call1, g_deep, g_con, asgT, asgTs, startE, wipeE, list_lst, len_lst, lim_ok, lockN, freeN]
  have er : rngD [.int ts.length] = some (0, ts.length) := by
    simp [rngD]
    omega
  simp -implicitDefEqProofs [er, w_var, w_lit, w_glo, w_bin, w_neg, w_cmp, w_chain, w_isN, w_notN, w_not, w_and, w_or, w_and1, w_and2, w_or1, w_or2, wp_tst, w_ite, w_tup, w_lst, w_ix, w_slc, w_oN, w_oS, w_fld, wp_shut, w_prop, w_call, w_callK, w_mk, w_mkK, w_mkR, w_bi, w_bm, w_isi, w_rngT, w_comp, w_new, w_frz, w_srt, w_isB, w_nil, w_cons, w_seq, w_rng, w_enm, w_zip, s_asg, s_setIx, s_setFld, s_ret, s_retN, s_if, s_expr, s_brk, s_cnt, s_pass, s_nil, s_cons, s_for, s_whl, wp_ok, wp_bad, wp_bind, wp_opt, wp_optN, wp_if, wp_run, g_call, g_call1, g_deep, g_con, asgT, asgTs, startE, wipeE]
  refine wp_forL (fun i ρ h' => ∃ (M L : List Int) (a b : Option D), ρ = [some (.lst (r.map .int)), some (.ref n), some (.lst (ts.map .int)), some (.lst (L.map .int)), some (.ref h.length), a, b] ∧ getC h' h.length = .lst (M.map .int) ∧ Dr n h h' ∧ (M ++ L).Perm ts ∧ M.length = i) 0 ⟨[], ts, none, none, rfl, getC_new, ⟨?_, by simp, fun m _ hm => getC_app hm⟩, List.Perm.refl _, rfl⟩ ?_ ?_
  · obtain ⟨p, hp⟩ := hs
    exact ⟨p, (getC_app hn).trans hp⟩
  · rintro i d ρ h' hd ⟨M, L, a, b, rfl, hM, hD, hP, hi⟩
    have hit : i < ts.length := by
      have := (List.getElem?_eq_some_iff.mp hd).1
      rw [rng_len] at this
      exact this
    have hlen := hP.length_eq
    rw [List.length_append] at hlen
    have hL : 0 < (L.length : Int) := by omega
    unfold forF
    simp -implicitDefEqProofs [w_var, w_lit, w_glo, w_bin, w_neg, w_cmp, w_chain, w_isN, w_notN, w_not, w_and, w_or, w_and1, w_and2, w_or1, w_or2, wp_tst, w_ite, w_tup, w_lst, w_ix, w_slc, w_oN, w_oS, w_fld, wp_shut, w_prop, w_call, w_callK, w_mk, w_mkK, w_mkR, w_bi, w_bm, w_isi, w_rngT, w_comp, w_new, w_frz, w_srt, w_isB, w_nil, w_cons, w_seq, w_rng, w_enm, w_zip, s_asg, s_setIx, s_setFld, s_ret, s_retN, s_if, s_expr, s_brk, s_cnt, s_pass, s_nil, s_cons, s_for, s_whl, wp_ok, wp_bad, wp_bind, wp_opt, wp_optN, wp_if, wp_run, g_call, g_call1, g_deep, g_con, asgT, asgTs, startE, wipeE, len_lst]
    refine (take_d hr hL hD.sp).imp fun d2 h2 ⟨d1, v, e1, v0, v1⟩ => ?_
    subst e1
    have hM2 : getC h2 h.length = .lst (M.map .int) := (d1.kp _ (by omega) (lt_of_getC (by rw [hM]; intro z; cases z))).trans hM
    have hsz : (M.map D.int).length < sizeLine := by
      rw [List.length_map]
      omega
    have hv : v.toNat < L.length := by omega
    have c1 := cut_to (xs := L.map D.int) v0 (by rw [List.length_map]; omega)
    have c2 := cut_from (xs := L.map D.int) (i := v + 1) (by omega) (by rw [List.length_map]; omega)
    have hh : h.length < h2.length := lt_of_getC (by rw [hM2]; intro z; cases z)
    simp -implicitDefEqProofs [w_var, w_lit, w_glo, w_bin, w_neg, w_cmp, w_chain, w_isN, w_notN, w_not, w_and, w_or, w_and1, w_and2, w_or1, w_or2, wp_tst, w_ite, w_tup, w_lst, w_ix, w_slc, w_oN, w_oS, w_fld, wp_shut, w_prop, w_call, w_callK, w_mk, w_mkK, w_mkR, w_bi, w_bm, w_isi, w_rngT, w_comp, w_new, w_frz, w_srt, w_isB, w_nil, w_cons, w_seq, w_rng, w_enm, w_zip, s_asg, s_setIx, s_setFld, s_ret, s_retN, s_if, s_expr, s_brk, s_cnt, s_pass, s_nil, s_cons, s_for, s_whl, wp_ok, wp_bad, wp_bind, wp_opt, wp_optN, wp_if, wp_run, g_call, g_call1, g_deep, g_con, asgT, asgTs, startE, wipeE, lst_ref hM2, ix_lst, at_map v0 v1, app_w hM2 hsz, lstOf_lst, c1, c2, add_int]
    rw [add_lst (by simp; omega), wp_ok]
    refine ⟨M ++ [L[v.toNat]], L.take v.toNat ++ L.drop (v.toNat + 1), ?_, ?_, ?_, ?_, by simp; omega⟩
    · rw [show (v + 1).toNat = v.toNat + 1 by omega]
      simp
    · rw [getC_set hh]
      simp
    · have dd := hD.trans d1
      refine ⟨?_, by simp; exact dd.len, fun m e l => (getC_ne (by omega)).trans (dd.kp m e l)⟩
      obtain ⟨p, hp⟩ := d1.sp
      exact ⟨p, (getC_ne (by omega)).trans hp⟩
    · rw [List.append_assoc]
      exact ((perm_mid hv).append_left M).trans hP
  · rintro ρ h' ⟨M, L, a, b, rfl, hM, hD, hP, hi⟩
    rw [rng_len] at hi
    have hlen := hP.length_eq
    rw [List.length_append] at hlen
    have hL : L = [] := List.length_eq_zero_iff.mp (by omega)
    subst hL
    simp -implicitDefEqProofs [w_var, w_lit, w_glo, w_bin, w_neg, w_cmp, w_chain, w_isN, w_notN, w_not, w_and, w_or, w_and1, w_and2, w_or1, w_or2, wp_tst, w_ite, w_tup, w_lst, w_ix, w_slc, w_oN, w_oS, w_fld, wp_shut, w_prop, w_call, w_callK, w_mk, w_mkK, w_mkR, w_bi, w_bm, w_isi, w_rngT, w_comp, w_new, w_frz, w_srt, w_isB, w_nil, w_cons, w_seq, w_rng, w_enm, w_zip, s_asg, s_setIx, s_setFld, s_ret, s_retN, s_if, s_expr, s_brk, s_cnt, s_pass, s_nil, s_cons, s_for, s_whl, wp_ok, wp_bad, wp_bind, wp_opt, wp_optN, wp_if, wp_run, g_call, g_call1, g_deep, g_con, asgT, asgTs, startE, wipeE, hM]
    refine ⟨⟨?_, by simp; exact hD.len, fun m e l => ?_⟩, M, rfl, by simpa using hP⟩
    · obtain ⟨p, hp⟩ := hD.sp
      exact ⟨p, (getC_ne (by omega)).trans hp⟩
    · rw [getC_ne (by omega)]
      exact hD.kp m e l
end Cl
/-! text L4 -/
set_option maxHeartbeats 1000007
namespace Cl
open PySem
/-- pairs of integers -/
def prD (p : Int × Int) : D := .tup [.int p.1, .int p.2]
def prP (p : Int × Int) : PyData := .tuple [.int p.1, .int p.2]
theorem py_pr (p : Int × Int) : toPy (prD p) = some (prP p) := by
  simp [prD, prP, toPy, toPys]
theorem pys_pr : ∀ ps : List (Int × Int), toPys (ps.map prD) = some (ps.map prP)
  | [] => rfl
  | p :: ps => by
    rw [List.map_cons]
    unfold toPys
    rw [py_pr, pys_pr ps]
    rfl
theorem lay_pr : ∀ ps : List (Int × Int), PyData.canLayAll0 (ps.map prP) = true
  | [] => rfl
  | p :: ps => by
    rw [List.map_cons]
    unfold PyData.canLayAll0
    rw [lay_pr ps]
    simp [prP, PyData.canLay0, PyData.canLayAll0]
theorem dep_pr : ∀ ps : List (Int × Int), PyData.depthAll (ps.map prP) ≤ 1
  | [] => by simp [PyData.depthAll]
  | p :: ps => by
    rw [List.map_cons]
    unfold PyData.depthAll
    have := dep_pr ps
    have h1 : PyData.depth (prP p) = 1 := by simp [prP, PyData.depth, PyData.depthAll]
    rw [h1]
    omega
theorem shp_pr (p : Int × Int) : shp (prP p) = true := by
  simp [shp, SeqAt.shaped, prP, PyData.canLay0, PyData.canLayAll0, PyData.depth, PyData.depthAll]
theorem shp_prs (ps : List (Int × Int)) : shp (.list (ps.map prP)) = true := by
  have := dep_pr ps
  simp [shp, SeqAt.shaped, PyData.canLay0, lay_pr, PyData.depth]
  omega
theorem eqv_pr (p q : Int × Int) : PyData.eqv (prP p) (prP q) = (p == q) := by
  simp [prP, PyData.eqv, PyData.eqvAll]
  rfl
theorem in_prs {h : Sto} {c : Nat} {ps : List (Int × Int)} {p : Int × Int} (e : getC h c = .lst (ps.map prD)) : inD h (prD p) (.ref c) = some (ps.contains p) := by
  have e1 : topPy h (prD p) = some (prP p) := py_pr p
  have e2 : topPy h (.ref c) = some (.list (ps.map prP)) := by
    simp [topPy, e, toPy, pys_pr]
  have e3 : ((ps.map prP).any fun z => PyData.eqv z (prP p)) = ps.contains p := by
    rw [List.any_map, Bool.eq_iff_iff]
    simp [eqv_pr]
  simp only [inD, e1, e2, shp_pr, shp_prs, e3]
  rfl
theorem notIn_prs {h : Sto} {c : Nat} {ps : List (Int × Int)} {p : Int × Int} (e : getC h c = .lst (ps.map prD)) : cmpD .notIn (prD p) (.ref c) h = .ok (.bl (!ps.contains p)) h := by
  simp [cmpD, in_prs e]
theorem isIn_prs {h : Sto} {c : Nat} {ps : List (Int × Int)} {p : Int × Int} (e : getC h c = .lst (ps.map prD)) : cmpD .isIn (prD p) (.ref c) h = .ok (.bl (ps.contains p)) h := by
  simp [cmpD, in_prs e]
/-- 0, .., n - 1 -/
def upto (n : Nat) : List Int := (List.range n).map fun i => ((i : Nat) : Int)
theorem upto_len (n : Nat) : (upto n).length = n := by
  unfold upto
  rw [List.length_map, List.length_range]
theorem rngL_upto (n : Nat) : rngL 0 n = (upto n).map .int := by
  unfold rngL upto
  rw [List.map_map]
  congr 1
  funext i
  simp
theorem mem_upto {n : Nat} {x : Int} : x ∈ upto n ↔ 0 ≤ x ∧ x < n := by
  unfold upto
  rw [List.mem_map]
  constructor
  · rintro ⟨i, hi, rfl⟩
    have := List.mem_range.mp hi
    omega
  · rintro ⟨h0, h1⟩
    exact ⟨x.toNat, List.mem_range.mpr (by omega), by omega⟩
theorem nodup_upto (n : Nat) : (upto n).Nodup := by
  unfold upto
  rw [List.nodup_iff_pairwise_ne, List.pairwise_map]
  exact (List.nodup_range (n := n)).imp fun h => by omega
/-- pairs that close no circle: a rank grows along each -/
structure Ord (count : Nat) (ps : List (Int × Int)) : Prop where
  rank : ∃ f : Int → Nat, (∀ x : Int, 0 ≤ x → x < count → f x < count) ∧ ∀ p ∈ ps, 0 ≤ p.1 ∧ p.1 < count ∧ 0 ≤ p.2 ∧ p.2 < count ∧ f p.1 < f p.2
  nd : ps.Nodup
theorem rng_one {n : Nat} (hn : Few n) : rngD [.int n] = some (0, n) := by
  have := hn.le
  simp [rngD]
  omega
theorem pairs_d {k n : Nat} {r : List Int} {count many : Nat} {h : Sto} (hr : r ≠ []) (hc : 0 < count) (hc2' : Few count) (hm' : Few many) (hs : SpE n h) : Wp (callI TB.tb (k + 4) i__law_pairs_of [.lst (r.map .int), .ref n, .int count, .int many] h) fun d h' => Dr n h h' ∧ ∃ ps : List (Int × Int), d = .tup (ps.map prD) ∧ Ord count ps ∧ ps.length ≤ many := by
  have big := sz
  have hc2 := hc2'.le
  have hm := hm'.le
  have hlim : lim count = true := lim_ok (by omega)
  rw [c__law_pairs_of]
  have r1 := rng_one hc2'
  simp -implicitDefEqProofs [F__law_pairs_of, w_var, w_lit, w_glo, w_bin, w_neg, w_cmp, w_chain, w_isN, w_notN, w_not, w_and, w_or, w_and1, w_and2, w_or1, w_or2, wp_tst, w_ite, w_tup, w_lst, w_ix, w_slc, w_oN, w_oS, w_fld, wp_shut, w_prop, w_call, w_callK, w_mk, w_mkK, w_mkR, w_bi, w_bm, w_isi, w_rngT, w_comp, w_new, w_frz, w_srt, w_isB, w_nil, w_cons, w_seq, w_rng, w_enm, w_zip, s_asg, s_setIx, s_setFld, s_ret, s_retN, s_if, s_expr, s_brk, s_cnt, s_pass, s_nil, s_cons, s_for, s_whl, wp_ok, wp_bad, wp_bind, wp_opt, wp_optN, wp_if, wp_run, g_call, g_call1, g_deep, g_con, asgT, asgTs, startE, wipeE, r1, hlim, sqV]
  rw [rngL_upto]
  have hu : Few (upto count).length := by rw [upto_len]; exact hc2'
  refine (mixed_d (ts := upto count) hr hu hs).imp fun d h1 ⟨d1, qs, e1, hq⟩ => ?_
  subst e1
  have hlq : qs.length = count := by rw [hq.length_eq, upto_len]
  have hnq : qs.Nodup := hq.nodup_iff.mpr (nodup_upto count)
  simp -implicitDefEqProofs [w_var, w_lit, w_glo, w_bin, w_neg, w_cmp, w_chain, w_isN, w_notN, w_not, w_and, w_or, w_and1, w_and2, w_or1, w_or2, wp_tst, w_ite, w_tup, w_lst, w_ix, w_slc, w_oN, w_oS, w_fld, wp_shut, w_prop, w_call, w_callK, w_mk, w_mkK, w_mkR, w_bi, w_bm, w_isi, w_rngT, w_comp, w_new, w_frz, w_srt, w_isB, w_nil, w_cons, w_seq, w_rng, w_enm, w_zip, s_asg, s_setIx, s_setFld, s_ret, s_retN, s_if, s_expr, s_brk, s_cnt, s_pass, s_nil, s_cons, s_for, s_whl, wp_ok, wp_bad, wp_bind, wp_opt, wp_optN, wp_if, wp_run, g_call, g_call1, g_deep, g_con, asgT, asgTs, startE, wipeE, rng_one hm', lockN, freeN, lim_ok]
  refine wp_forL (fun i ρ h' => ∃ (ps : List (Int × Int)) (a b c d : Option D), ρ = [some (.lst (r.map .int)), some (.ref n), some (.int count), some (.int many), some (.lst (qs.map .int)), some (.ref h1.length), a, b, c, d] ∧ getC h' h1.length = .lst (ps.map prD) ∧ Dr n h1 h' ∧
    (∀ p ∈ ps, p.1 ∈ qs ∧ p.2 ∈ qs ∧ qs.idxOf p.1 < qs.idxOf p.2) ∧ ps.Nodup ∧ ps.length ≤ i) 0 ⟨[], none, none, none, none, rfl, getC_new, ⟨?_, by simp, fun m _ hm => getC_app hm⟩, (fun p hp => by cases hp), List.nodup_nil, Nat.le_refl _⟩ ?_ ?_
  · obtain ⟨p, hp⟩ := d1.sp
    exact ⟨p, (getC_app d1.sp.lt).trans hp⟩
  · rintro i d ρ h' hd ⟨ps, a, b, c, e, rfl, hM, hD, hP, hN, hi⟩
    have hit : i < many := by
      have := (List.getElem?_eq_some_iff.mp hd).1
      rw [rng_len] at this
      exact this
    unfold forF
    simp -implicitDefEqProofs [w_var, w_lit, w_glo, w_bin, w_neg, w_cmp, w_chain, w_isN, w_notN, w_not, w_and, w_or, w_and1, w_and2, w_or1, w_or2, wp_tst, w_ite, w_tup, w_lst, w_ix, w_slc, w_oN, w_oS, w_fld, wp_shut, w_prop, w_call, w_callK, w_mk, w_mkK, w_mkR, w_bi, w_bm, w_isi, w_rngT, w_comp, w_new, w_frz, w_srt, w_isB, w_nil, w_cons, w_seq, w_rng, w_enm, w_zip, s_asg, s_setIx, s_setFld, s_ret, s_retN, s_if, s_expr, s_brk, s_cnt, s_pass, s_nil, s_cons, s_for, s_whl, wp_ok, wp_bad, wp_bind, wp_opt, wp_optN, wp_if, wp_run, g_call, g_call1, g_deep, g_con, asgT, asgTs, startE, wipeE]
    refine (take_d hr (by omega) hD.sp).imp fun d2 h2 ⟨dr2, v, e2, v0, v1⟩ => ?_
    subst e2
    try simp -implicitDefEqProofs [w_var, w_lit, w_glo, w_bin, w_neg, w_cmp, w_chain, w_isN, w_notN, w_not, w_and, w_or, w_and1, w_and2, w_or1, w_or2, wp_tst, w_ite, w_tup, w_lst, w_ix, w_slc, w_oN, w_oS, w_fld, wp_shut, w_prop, w_call, w_callK, w_mk, w_mkK, w_mkR, w_bi, w_bm, w_isi, w_rngT, w_comp, w_new, w_frz, w_srt, w_isB, w_nil, w_cons, w_seq, w_rng, w_enm, w_zip, s_asg, s_setIx, s_setFld, s_ret, s_retN, s_if, s_expr, s_brk, s_cnt, s_pass, s_nil, s_cons, s_for, s_whl, wp_ok, wp_bad, wp_bind, wp_opt, wp_optN, wp_if, wp_run, g_call, g_call1, g_deep, g_con, asgT, asgTs, startE, wipeE]
    refine (take_d hr (by omega) dr2.sp).imp fun d3 h3 ⟨dr3, w, e3, w0, w1⟩ => ?_
    subst e3
    have hM3 : getC h3 h1.length = .lst (ps.map prD) := ((dr2.trans dr3).kp _ (by have := d1.sp.lt; omega) (lt_of_getC (by rw [hM]; intro z; cases z))).trans hM
    simp -implicitDefEqProofs [w_var, w_lit, w_glo, w_bin, w_neg, w_cmp, w_chain, w_isN, w_notN, w_not, w_and, w_or, w_and1, w_and2, w_or1, w_or2, wp_tst, w_ite, w_tup, w_lst, w_ix, w_slc, w_oN, w_oS, w_fld, wp_shut, w_prop, w_call, w_callK, w_mk, w_mkK, w_mkR, w_bi, w_bm, w_isi, w_rngT, w_comp, w_new, w_frz, w_srt, w_isB, w_nil, w_cons, w_seq, w_rng, w_enm, w_zip, s_asg, s_setIx, s_setFld, s_ret, s_retN, s_if, s_expr, s_brk, s_cnt, s_pass, s_nil, s_cons, s_for, s_whl, wp_ok, wp_bad, wp_bind, wp_opt, wp_optN, wp_if, wp_run, g_call, g_call1, g_deep, g_con, asgT, asgTs, startE, wipeE, ne_int, tru_bl]
    have dd := hD.trans (dr2.trans dr3)
    have hh : h1.length < h3.length := lt_of_getC (by rw [hM3]; intro z; cases z)
    by_cases hvw : v = w
    · have e0 : (v == w) = true := by simp [hvw]
      simp -implicitDefEqProofs [e0, w_var, w_lit, w_glo, w_bin, w_neg, w_cmp, w_chain, w_isN, w_notN, w_not, w_and, w_or, w_and1, w_and2, w_or1, w_or2, wp_tst, w_ite, w_tup, w_lst, w_ix, w_slc, w_oN, w_oS, w_fld, wp_shut, w_prop, w_call, w_callK, w_mk, w_mkK, w_mkR, w_bi, w_bm, w_isi, w_rngT, w_comp, w_new, w_frz, w_srt, w_isB, w_nil, w_cons, w_seq, w_rng, w_enm, w_zip, s_asg, s_setIx, s_setFld, s_ret, s_retN, s_if, s_expr, s_brk, s_cnt, s_pass, s_nil, s_cons, s_for, s_whl, wp_ok, wp_bad, wp_bind, wp_opt, wp_optN, wp_if, wp_run, g_call, g_call1, g_deep, g_con, asgT, asgTs, startE, wipeE]
      exact ⟨ps, hM3, dd, fun a b => hP (a, b), hN, by omega⟩
    · have e0 : (v == w) = false := by simp [hvw]
      have b1 : 0 ≤ (if w < v then w else v) ∧ (if w < v then w else v) < (qs.length : Int) := by split <;> omega
      have b2 : 0 ≤ (if w > v then w else v) ∧ (if w > v then w else v) < (qs.length : Int) := by split <;> omega
      have b3 : (if w < v then w else v) < (if w > v then w else v) := by split <;> split <;> omega
      have a1 := at_map b1.1 b1.2
      have a2 := at_map b2.1 b2.2
      simp -implicitDefEqProofs [e0, w_var, w_lit, w_glo, w_bin, w_neg, w_cmp, w_chain, w_isN, w_notN, w_not, w_and, w_or, w_and1, w_and2, w_or1, w_or2, wp_tst, w_ite, w_tup, w_lst, w_ix, w_slc, w_oN, w_oS, w_fld, wp_shut, w_prop, w_call, w_callK, w_mk, w_mkK, w_mkR, w_bi, w_bm, w_isi, w_rngT, w_comp, w_new, w_frz, w_srt, w_isB, w_nil, w_cons, w_seq, w_rng, w_enm, w_zip, s_asg, s_setIx, s_setFld, s_ret, s_retN, s_if, s_expr, s_brk, s_cnt, s_pass, s_nil, s_cons, s_for, s_whl, wp_ok, wp_bad, wp_bind, wp_opt, wp_optN, wp_if, wp_run, g_call, g_call1, g_deep, g_con, asgT, asgTs, startE, wipeE]
      rw [min_int, wp_ok, ix_lst, a1, wp_opt, max_int, wp_ok, ix_lst, a2, wp_opt]
      generalize hx : qs[(if w < v then w else v).toNat] = x
      generalize hy : qs[(if w > v then w else v).toNat] = y
      have ix : qs.idxOf x = (if w < v then w else v).toNat := by
        rw [← hx]
        exact hnq.idxOf_getElem _ _
      have iy : qs.idxOf y = (if w > v then w else v).toNat := by
        rw [← hy]
        exact hnq.idxOf_getElem _ _
      have mx : x ∈ qs := by rw [← hx]; exact List.getElem_mem _
      have my : y ∈ qs := by rw [← hy]; exact List.getElem_mem _
      have nI := notIn_prs (p := (x, y)) hM3
      simp only [prD] at nI
      refine ⟨lim_ok (by omega), ?_⟩
      rw [nI, wp_ok, tru_bl, wp_opt]
      have hsz : (ps.map prD).length < sizeLine := by
        rw [List.length_map]
        omega
      cases hc : ps.contains (x, y) with
      | true =>
        simp -implicitDefEqProofs [w_var, w_lit, w_glo, w_bin, w_neg, w_cmp, w_chain, w_isN, w_notN, w_not, w_and, w_or, w_and1, w_and2, w_or1, w_or2, wp_tst, w_ite, w_tup, w_lst, w_ix, w_slc, w_oN, w_oS, w_fld, wp_shut, w_prop, w_call, w_callK, w_mk, w_mkK, w_mkR, w_bi, w_bm, w_isi, w_rngT, w_comp, w_new, w_frz, w_srt, w_isB, w_nil, w_cons, w_seq, w_rng, w_enm, w_zip, s_asg, s_setIx, s_setFld, s_ret, s_retN, s_if, s_expr, s_brk, s_cnt, s_pass, s_nil, s_cons, s_for, s_whl, wp_ok, wp_bad, wp_bind, wp_opt, wp_optN, wp_if, wp_run, g_call, g_call1, g_deep, g_con, asgT, asgTs, startE, wipeE]
        exact ⟨ps, hM3, dd, fun a b => hP (a, b), hN, by omega⟩
      | false =>
        simp -implicitDefEqProofs [w_var, w_lit, w_glo, w_bin, w_neg, w_cmp, w_chain, w_isN, w_notN, w_not, w_and, w_or, w_and1, w_and2, w_or1, w_or2, wp_tst, w_ite, w_tup, w_lst, w_ix, w_slc, w_oN, w_oS, w_fld, wp_shut, w_prop, w_call, w_callK, w_mk, w_mkK, w_mkR, w_bi, w_bm, w_isi, w_rngT, w_comp, w_new, w_frz, w_srt, w_isB, w_nil, w_cons, w_seq, w_rng, w_enm, w_zip, s_asg, s_setIx, s_setFld, s_ret, s_retN, s_if, s_expr, s_brk, s_cnt, s_pass, s_nil, s_cons, s_for, s_whl, wp_ok, wp_bad, wp_bind, wp_opt, wp_optN, wp_if, wp_run, g_call, g_call1, g_deep, g_con, asgT, asgTs, startE, wipeE, lst_ref hM3, app_w hM3 hsz]
        refine ⟨ps ++ [(x, y)], ?_, ⟨?_, by simp; exact dd.len, fun m e l => (getC_ne (by omega)).trans (dd.kp m e l)⟩, ?_, ?_, by simp; omega⟩
        · rw [getC_set hh, List.map_append]
          rfl
        · obtain ⟨p, hp⟩ := dd.sp
          have := d1.sp.lt
          exact ⟨p, (getC_ne (by omega)).trans hp⟩
        · intro a b hab
          rcases List.mem_append.mp hab with hab | hab
          · exact hP (a, b) hab
          · cases List.mem_singleton.mp hab
            exact ⟨mx, my, by rw [ix, iy]; omega⟩
        · rw [List.nodup_append]
          refine ⟨hN, by simp, fun p hp q hq => ?_⟩
          intro e
          rw [List.mem_singleton.mp hq] at e
          rw [e] at hp
          have := List.contains_iff_mem.mpr hp
          rw [hc] at this
          cases this
  · rintro ρ h' ⟨ps, a, b, c, d, rfl, hM, hD, hP, hN, hi⟩
    rw [rng_len] at hi
    simp -implicitDefEqProofs [w_var, w_lit, w_glo, w_bin, w_neg, w_cmp, w_chain, w_isN, w_notN, w_not, w_and, w_or, w_and1, w_and2, w_or1, w_or2, wp_tst, w_ite, w_tup, w_lst, w_ix, w_slc, w_oN, w_oS, w_fld, wp_shut, w_prop, w_call, w_callK, w_mk, w_mkK, w_mkR, w_bi, w_bm, w_isi, w_rngT, w_comp, w_new, w_frz, w_srt, w_isB, w_nil, w_cons, w_seq, w_rng, w_enm, w_zip, s_asg, s_setIx, s_setFld, s_ret, s_retN, s_if, s_expr, s_brk, s_cnt, s_pass, s_nil, s_cons, s_for, s_whl, wp_ok, wp_bad, wp_bind, wp_opt, wp_optN, wp_if, wp_run, g_call, g_call1, g_deep, g_con, asgT, asgTs, startE, wipeE, tuple_ref hM]
    refine ⟨d1.trans ?_, ps, rfl, ⟨⟨qs.idxOf, fun x x0 x1 => ?_, fun p hp => ?_⟩, hN⟩, by simpa using hi⟩
    · exact hD
    · have := List.idxOf_lt_length_of_mem (hq.mem_iff.mpr (mem_upto.mpr ⟨x0, x1⟩))
      show qs.idxOf x < count
      omega
    · obtain ⟨q1, q2, q3⟩ := hP p hp
      have m1 := mem_upto.mp (hq.mem_iff.mp q1)
      have m2 := mem_upto.mp (hq.mem_iff.mp q2)
      exact ⟨m1.1, m1.2, m2.1, m2.2, q3⟩
end Cl
/-! text L5 -/
set_option maxHeartbeats 1000007
namespace Cl
open PySem
/-- a model's tasks: some of 0, .., count - 1, ascending -/
theorem model_d {k n : Nat} {r : List Int} {count : Nat} {h : Sto} (hr : r ≠ []) (hc' : Few count) (hs : SpE n h) : Wp (callI TB.tb (k + 3) i__law_model [.lst (r.map .int), .ref n, .int count] h) fun d h' => Dr n h h' ∧ ∃ ks : List Int, d = .tup (ks.map .int) ∧ ks.Sublist (upto count) := by
  have big := sz
  have hc := hc'.le
  have hlim : lim count = true := lim_ok (by omega)
  have r1 := rng_one hc'
  rw [c__law_model]
  simp -implicitDefEqProofs [F__law_model, w_var, w_lit, w_glo, w_bin, w_neg, w_cmp, w_chain, w_isN, w_notN, w_not, w_and, w_or, w_and1, w_and2, w_or1, w_or2, wp_tst, w_ite, w_tup, w_lst, w_ix, w_slc, w_oN, w_oS, w_fld, wp_shut, w_prop, w_call, w_callK, w_mk, w_mkK, w_mkR, w_bi, w_bm, w_isi, w_rngT, w_comp, w_new, w_frz, w_srt, w_isB, w_nil, w_cons, w_seq, w_rng, w_enm, w_zip, s_asg, s_setIx, s_setFld, s_ret, s_retN, s_if, s_expr, s_brk, s_cnt, s_pass, s_nil, s_cons, s_for, s_whl, wp_ok, wp_bad, wp_bind, wp_opt, wp_optN, wp_if, wp_run, g_call, g_call1, g_deep, g_con, asgT, asgTs, startE, wipeE]
  refine (take_d hr (by decide) hs).imp fun d h1 ⟨d1, v, e1, _, _⟩ => ?_
  subst e1
  simp -implicitDefEqProofs [w_var, w_lit, w_glo, w_bin, w_neg, w_cmp, w_chain, w_isN, w_notN, w_not, w_and, w_or, w_and1, w_and2, w_or1, w_or2, wp_tst, w_ite, w_tup, w_lst, w_ix, w_slc, w_oN, w_oS, w_fld, wp_shut, w_prop, w_call, w_callK, w_mk, w_mkK, w_mkR, w_bi, w_bm, w_isi, w_rngT, w_comp, w_new, w_frz, w_srt, w_isB, w_nil, w_cons, w_seq, w_rng, w_enm, w_zip, s_asg, s_setIx, s_setFld, s_ret, s_retN, s_if, s_expr, s_brk, s_cnt, s_pass, s_nil, s_cons, s_for, s_whl, wp_ok, wp_bad, wp_bind, wp_opt, wp_optN, wp_if, wp_run, g_call, g_call1, g_deep, g_con, asgT, asgTs, startE, wipeE, eq_int, tru_bl]
  cases hv : v == 0 with
  | true =>
    simp -implicitDefEqProofs [w_var, w_lit, w_glo, w_bin, w_neg, w_cmp, w_chain, w_isN, w_notN, w_not, w_and, w_or, w_and1, w_and2, w_or1, w_or2, wp_tst, w_ite, w_tup, w_lst, w_ix, w_slc, w_oN, w_oS, w_fld, wp_shut, w_prop, w_call, w_callK, w_mk, w_mkK, w_mkR, w_bi, w_bm, w_isi, w_rngT, w_comp, w_new, w_frz, w_srt, w_isB, w_nil, w_cons, w_seq, w_rng, w_enm, w_zip, s_asg, s_setIx, s_setFld, s_ret, s_retN, s_if, s_expr, s_brk, s_cnt, s_pass, s_nil, s_cons, s_for, s_whl, wp_ok, wp_bad, wp_bind, wp_opt, wp_optN, wp_if, wp_run, g_call, g_call1, g_deep, g_con, asgT, asgTs, startE, wipeE, r1, hlim, sqV]
    exact ⟨d1, upto count, by rw [rngL_upto], List.Sublist.refl _⟩
  | false =>
    simp -implicitDefEqProofs [w_var, w_lit, w_glo, w_bin, w_neg, w_cmp, w_chain, w_isN, w_notN, w_not, w_and, w_or, w_and1, w_and2, w_or1, w_or2, wp_tst, w_ite, w_tup, w_lst, w_ix, w_slc, w_oN, w_oS, w_fld, wp_shut, w_prop, w_call, w_callK, w_mk, w_mkK, w_mkR, w_bi, w_bm, w_isi, w_rngT, w_comp, w_new, w_frz, w_srt, w_isB, w_nil, w_cons, w_seq, w_rng, w_enm, w_zip, s_asg, s_setIx, s_setFld, s_ret, s_retN, s_if, s_expr, s_brk, s_cnt, s_pass, s_nil, s_cons, s_for, s_whl, wp_ok, wp_bad, wp_bind, wp_opt, wp_optN, wp_if, wp_run, g_call, g_call1, g_deep, g_con, asgT, asgTs, startE, wipeE, r1, lockN, freeN]
    refine wp_compL (fun i acc h' => ∃ ks : List Int, acc = ks.map .int ∧ ks.Sublist ((upto count).take i) ∧ Dr n h1 h') 0 ⟨[], rfl, by simp, Dr.refl d1.sp⟩ ?_ ?_
    · rintro i d acc h' hd ⟨ks, rfl, hS, hD⟩
      obtain ⟨hi, rfl⟩ := rng_get hd
      have hkl := hS.length_le
      rw [List.length_take, upto_len] at hkl
      have hsz : (ks.map D.int).length < sizeLine := by
        rw [List.length_map]
        omega
      have ht : (upto count).take (0 + i + 1) = (upto count).take i ++ [(i : Int)] := by
        have e : (upto count)[i]? = some (i : Int) := by
          unfold upto
          rw [List.getElem?_map, List.getElem?_range hi]
          rfl
        rw [Nat.zero_add, List.take_add_one, e]
        rfl
      unfold compF
      simp -implicitDefEqProofs [w_var, w_lit, w_glo, w_bin, w_neg, w_cmp, w_chain, w_isN, w_notN, w_not, w_and, w_or, w_and1, w_and2, w_or1, w_or2, wp_tst, w_ite, w_tup, w_lst, w_ix, w_slc, w_oN, w_oS, w_fld, wp_shut, w_prop, w_call, w_callK, w_mk, w_mkK, w_mkR, w_bi, w_bm, w_isi, w_rngT, w_comp, w_new, w_frz, w_srt, w_isB, w_nil, w_cons, w_seq, w_rng, w_enm, w_zip, s_asg, s_setIx, s_setFld, s_ret, s_retN, s_if, s_expr, s_brk, s_cnt, s_pass, s_nil, s_cons, s_for, s_whl, wp_ok, wp_bad, wp_bind, wp_opt, wp_optN, wp_if, wp_run, g_call, g_call1, g_deep, g_con, asgT, asgTs, startE, wipeE]
      refine (take_d (limit := 3) hr (by decide) hD.sp).imp fun d2 h2 ⟨d2', w, e2, _, _⟩ => ?_
      subst e2
      simp -implicitDefEqProofs [w_var, w_lit, w_glo, w_bin, w_neg, w_cmp, w_chain, w_isN, w_notN, w_not, w_and, w_or, w_and1, w_and2, w_or1, w_or2, wp_tst, w_ite, w_tup, w_lst, w_ix, w_slc, w_oN, w_oS, w_fld, wp_shut, w_prop, w_call, w_callK, w_mk, w_mkK, w_mkR, w_bi, w_bm, w_isi, w_rngT, w_comp, w_new, w_frz, w_srt, w_isB, w_nil, w_cons, w_seq, w_rng, w_enm, w_zip, s_asg, s_setIx, s_setFld, s_ret, s_retN, s_if, s_expr, s_brk, s_cnt, s_pass, s_nil, s_cons, s_for, s_whl, wp_ok, wp_bad, wp_bind, wp_opt, wp_optN, wp_if, wp_run, g_call, g_call1, g_deep, g_con, asgT, asgTs, startE, wipeE, gt_int, tru_bl]
      have dd := hD.trans d2'
      cases hw : decide (0 < w) with
      | true =>
        simp -implicitDefEqProofs [w_var, w_lit, w_glo, w_bin, w_neg, w_cmp, w_chain, w_isN, w_notN, w_not, w_and, w_or, w_and1, w_and2, w_or1, w_or2, wp_tst, w_ite, w_tup, w_lst, w_ix, w_slc, w_oN, w_oS, w_fld, wp_shut, w_prop, w_call, w_callK, w_mk, w_mkK, w_mkR, w_bi, w_bm, w_isi, w_rngT, w_comp, w_new, w_frz, w_srt, w_isB, w_nil, w_cons, w_seq, w_rng, w_enm, w_zip, s_asg, s_setIx, s_setFld, s_ret, s_retN, s_if, s_expr, s_brk, s_cnt, s_pass, s_nil, s_cons, s_for, s_whl, wp_ok, wp_bad, wp_bind, wp_opt, wp_optN, wp_if, wp_run, g_call, g_call1, g_deep, g_con, asgT, asgTs, startE, wipeE]
        refine ⟨by simpa using hsz, ks ++ [(i : Int)], by simp, ?_, dd⟩
        rw [show i + 1 = 0 + i + 1 by omega, ht]
        rw [Nat.zero_add] at hS
        exact hS.append (List.Sublist.refl _)
      | false =>
        simp -implicitDefEqProofs [w_var, w_lit, w_glo, w_bin, w_neg, w_cmp, w_chain, w_isN, w_notN, w_not, w_and, w_or, w_and1, w_and2, w_or1, w_or2, wp_tst, w_ite, w_tup, w_lst, w_ix, w_slc, w_oN, w_oS, w_fld, wp_shut, w_prop, w_call, w_callK, w_mk, w_mkK, w_mkR, w_bi, w_bm, w_isi, w_rngT, w_comp, w_new, w_frz, w_srt, w_isB, w_nil, w_cons, w_seq, w_rng, w_enm, w_zip, s_asg, s_setIx, s_setFld, s_ret, s_retN, s_if, s_expr, s_brk, s_cnt, s_pass, s_nil, s_cons, s_for, s_whl, wp_ok, wp_bad, wp_bind, wp_opt, wp_optN, wp_if, wp_run, g_call, g_call1, g_deep, g_con, asgT, asgTs, startE, wipeE]
        refine ⟨ks, rfl, ?_, dd⟩
        rw [show i + 1 = 0 + i + 1 by omega, ht]
        rw [Nat.zero_add] at hS
        exact hS.trans (List.sublist_append_left _ _)
    · rintro acc h' ⟨ks, rfl, hS, hD⟩
      rw [rng_len] at hS
      rw [tuple_lst, wp_ok]
      refine ⟨d1.trans hD, ks, rfl, ?_⟩
      rw [List.take_of_length_le (by rw [upto_len]; omega)] at hS
      exact hS
end Cl
/-! text L6 -/
set_option maxHeartbeats 1000007
namespace Cl
open PySem
/-- a state's arcs -/
structure Arcs (models count many : Nat) (as : List (Int × Int)) : Prop where
  rg : ∀ p ∈ as, 0 ≤ p.1 ∧ p.1 < models ∧ 0 ≤ p.2 ∧ p.2 < count
  nd : as.Nodup
  lo : 0 < as.length
  hi : as.length ≤ many
def arcD (as : List (Int × Int)) : D := .tup (as.map prD)
theorem states_d {k n : Nat} {r : List Int} {models wide many : Nat} {h : Sto} (hr : r ≠ []) (hm : 0 < models) (hw : 0 < wide) (hw' : Few wide) (hy : 0 < many) (hy' : Few many) (hs : SpE n h) : Wp (callI TB.tb (k + 3) i__law_states [.lst (r.map .int), .ref n, .int models, .int wide, .int many] h) fun d h' => Dr n h h' ∧ ∃ ss : List (List (Int × Int)), d = .tup (ss.map arcD) ∧ 0 < ss.length ∧ ss.length ≤ wide ∧ ∀ as ∈ ss, Arcs models ss.length many as := by
  have big := sz
  have hw2 := hw'.le
  have hy2 := hy'.le
  rw [c__law_states]
  simp -implicitDefEqProofs [F__law_states, w_var, w_lit, w_glo, w_bin, w_neg, w_cmp, w_chain, w_isN, w_notN, w_not, w_and, w_or, w_and1, w_and2, w_or1, w_or2, wp_tst, w_ite, w_tup, w_lst, w_ix, w_slc, w_oN, w_oS, w_fld, wp_shut, w_prop, w_call, w_callK, w_mk, w_mkK, w_mkR, w_bi, w_bm, w_isi, w_rngT, w_comp, w_new, w_frz, w_srt, w_isB, w_nil, w_cons, w_seq, w_rng, w_enm, w_zip, s_asg, s_setIx, s_setFld, s_ret, s_retN, s_if, s_expr, s_brk, s_cnt, s_pass, s_nil, s_cons, s_for, s_whl, wp_ok, wp_bad, wp_bind, wp_opt, wp_optN, wp_if, wp_run, g_call, g_call1, g_deep, g_con, asgT, asgTs, startE, wipeE]
  refine (take_d hr (by omega) hs).imp fun d h1 ⟨d1, v, e1, v0, v1⟩ => ?_
  subst e1
  obtain ⟨count, hc⟩ : ∃ count : Nat, (1 : Int) + v = count := ⟨(1 + v).toNat, by omega⟩
  have hcf : Few count := ⟨by omega⟩
  simp -implicitDefEqProofs [w_var, w_lit, w_glo, w_bin, w_neg, w_cmp, w_chain, w_isN, w_notN, w_not, w_and, w_or, w_and1, w_and2, w_or1, w_or2, wp_tst, w_ite, w_tup, w_lst, w_ix, w_slc, w_oN, w_oS, w_fld, wp_shut, w_prop, w_call, w_callK, w_mk, w_mkK, w_mkR, w_bi, w_bm, w_isi, w_rngT, w_comp, w_new, w_frz, w_srt, w_isB, w_nil, w_cons, w_seq, w_rng, w_enm, w_zip, s_asg, s_setIx, s_setFld, s_ret, s_retN, s_if, s_expr, s_brk, s_cnt, s_pass, s_nil, s_cons, s_for, s_whl, wp_ok, wp_bad, wp_bind, wp_opt, wp_optN, wp_if, wp_run, g_call, g_call1, g_deep, g_con, asgT, asgTs, startE, wipeE, add_int, hc, rng_one hcf, lockN, freeN, lim_ok]
  refine wp_forL (fun i ρ h' => ∃ (ss : List (List (Int × Int))) (a b c d : Option D), ρ = [some (.lst (r.map .int)), some (.ref n), some (.int models), some (.int wide), some (.int many), some (.int count), some (.ref h1.length), a, b, c, d] ∧ getC h' h1.length = .lst (ss.map arcD) ∧ Dr n h1 h' ∧ ss.length = i ∧ ∀ as ∈ ss, Arcs models count many as) 0
    ⟨[], none, none, none, none, rfl, getC_new, ⟨?_, by simp, fun m _ hm => getC_app hm⟩, rfl, fun as hx => by cases hx⟩ ?_ ?_
  · obtain ⟨p, hp⟩ := d1.sp
    exact ⟨p, (getC_app d1.sp.lt).trans hp⟩
  · rintro i d ρ h' hd ⟨ss, a, b, c, e, rfl, hM, hD, hl, hA⟩
    obtain ⟨hi, rfl⟩ := rng_get hd
    unfold forF
    simp -implicitDefEqProofs [w_var, w_lit, w_glo, w_bin, w_neg, w_cmp, w_chain, w_isN, w_notN, w_not, w_and, w_or, w_and1, w_and2, w_or1, w_or2, wp_tst, w_ite, w_tup, w_lst, w_ix, w_slc, w_oN, w_oS, w_fld, wp_shut, w_prop, w_call, w_callK, w_mk, w_mkK, w_mkR, w_bi, w_bm, w_isi, w_rngT, w_comp, w_new, w_frz, w_srt, w_isB, w_nil, w_cons, w_seq, w_rng, w_enm, w_zip, s_asg, s_setIx, s_setFld, s_ret, s_retN, s_if, s_expr, s_brk, s_cnt, s_pass, s_nil, s_cons, s_for, s_whl, wp_ok, wp_bad, wp_bind, wp_opt, wp_optN, wp_if, wp_run, g_call, g_call1, g_deep, g_con, asgT, asgTs, startE, wipeE, lim_ok]
    have hnl : n < h'.length := hD.sp.lt
    have hcl : h1.length < h'.length := lt_of_getC (by rw [hM]; intro z; cases z)
    have dn : Dr n h' (h' ++ [.lst []]) := by
      refine ⟨?_, by simp, fun m _ hm => getC_app hm⟩
      obtain ⟨p, hp⟩ := hD.sp
      exact ⟨p, (getC_app hnl).trans hp⟩
    refine (take_d (limit := many) hr (by omega) dn.sp).imp fun d2 h2 ⟨d2', u, e2, u0, u1⟩ => ?_
    subst e2
    obtain ⟨m, hmm⟩ : ∃ m : Nat, (1 : Int) + u = m := ⟨(1 + u).toNat, by omega⟩
    have hmf : Few m := ⟨by omega⟩
    have g2 : getC h2 h'.length = .lst [] := (d2'.kp _ (by omega) (by simp)).trans getC_new
    simp -implicitDefEqProofs [w_var, w_lit, w_glo, w_bin, w_neg, w_cmp, w_chain, w_isN, w_notN, w_not, w_and, w_or, w_and1, w_and2, w_or1, w_or2, wp_tst, w_ite, w_tup, w_lst, w_ix, w_slc, w_oN, w_oS, w_fld, wp_shut, w_prop, w_call, w_callK, w_mk, w_mkK, w_mkR, w_bi, w_bm, w_isi, w_rngT, w_comp, w_new, w_frz, w_srt, w_isB, w_nil, w_cons, w_seq, w_rng, w_enm, w_zip, s_asg, s_setIx, s_setFld, s_ret, s_retN, s_if, s_expr, s_brk, s_cnt, s_pass, s_nil, s_cons, s_for, s_whl, wp_ok, wp_bad, wp_bind, wp_opt, wp_optN, wp_if, wp_run, g_call, g_call1, g_deep, g_con, asgT, asgTs, startE, wipeE, add_int, hmm, rng_one hmf, lockN, freeN]
    refine wp_forL (fun j ρ hh => ∃ (as : List (Int × Int)) (a b : Option D), ρ = [some (.lst (r.map .int)), some (.ref n), some (.int models), some (.int wide), some (.int many), some (.int count), some (.ref h1.length), some (.int i), some (.ref h'.length), a, b] ∧ getC hh h'.length = .lst (as.map prD) ∧ Dr n h' hh ∧ (∀ p ∈ as, 0 ≤ p.1 ∧ p.1 < models ∧ 0 ≤ p.2 ∧ p.2 < count) ∧ as.Nodup ∧ as.length ≤ j ∧ (0 < j → 0 < as.length)) 0
      ⟨[], c, e, rfl, g2, dn.trans d2', (fun p hp => by cases hp), List.nodup_nil, Nat.le_refl _, fun z => absurd z (Nat.lt_irrefl _)⟩ ?_ ?_
    · rintro j d ρ hh hj ⟨as, a1, b1, rfl, hB, hE, hR, hN, hl1, hl2⟩
      obtain ⟨hj, rfl⟩ := rng_get hj
      unfold forF
      simp -implicitDefEqProofs [w_var, w_lit, w_glo, w_bin, w_neg, w_cmp, w_chain, w_isN, w_notN, w_not, w_and, w_or, w_and1, w_and2, w_or1, w_or2, wp_tst, w_ite, w_tup, w_lst, w_ix, w_slc, w_oN, w_oS, w_fld, wp_shut, w_prop, w_call, w_callK, w_mk, w_mkK, w_mkR, w_bi, w_bm, w_isi, w_rngT, w_comp, w_new, w_frz, w_srt, w_isB, w_nil, w_cons, w_seq, w_rng, w_enm, w_zip, s_asg, s_setIx, s_setFld, s_ret, s_retN, s_if, s_expr, s_brk, s_cnt, s_pass, s_nil, s_cons, s_for, s_whl, wp_ok, wp_bad, wp_bind, wp_opt, wp_optN, wp_if, wp_run, g_call, g_call1, g_deep, g_con, asgT, asgTs, startE, wipeE]
      refine (take_d (limit := models) hr (by omega) hE.sp).imp fun d3 h3 ⟨d3', x, e3, x0, x1⟩ => ?_
      subst e3
      refine (take_d (limit := count) hr (by omega) d3'.sp).imp fun d4 h4 ⟨d4', y, e4, y0, y1⟩ => ?_
      subst e4
      have dd := hE.trans (d3'.trans d4')
      have hB4 : getC h4 h'.length = .lst (as.map prD) := ((d3'.trans d4').kp _ (by omega) (lt_of_getC (by rw [hB]; intro z; cases z))).trans hB
      have hh4 : h'.length < h4.length := lt_of_getC (by rw [hB4]; intro z; cases z)
      have nI := notIn_prs (p := (x, y)) hB4
      simp only [prD] at nI
      have hsz : (as.map prD).length < sizeLine := by
        rw [List.length_map]
        omega
      simp -implicitDefEqProofs [w_var, w_lit, w_glo, w_bin, w_neg, w_cmp, w_chain, w_isN, w_notN, w_not, w_and, w_or, w_and1, w_and2, w_or1, w_or2, wp_tst, w_ite, w_tup, w_lst, w_ix, w_slc, w_oN, w_oS, w_fld, wp_shut, w_prop, w_call, w_callK, w_mk, w_mkK, w_mkR, w_bi, w_bm, w_isi, w_rngT, w_comp, w_new, w_frz, w_srt, w_isB, w_nil, w_cons, w_seq, w_rng, w_enm, w_zip, s_asg, s_setIx, s_setFld, s_ret, s_retN, s_if, s_expr, s_brk, s_cnt, s_pass, s_nil, s_cons, s_for, s_whl, wp_ok, wp_bad, wp_bind, wp_opt, wp_optN, wp_if, wp_run, g_call, g_call1, g_deep, g_con, asgT, asgTs, startE, wipeE, lim_ok]
      rw [nI, wp_ok, tru_bl, wp_opt]
      cases hc : as.contains (x, y) with
      | true =>
        simp -implicitDefEqProofs [w_var, w_lit, w_glo, w_bin, w_neg, w_cmp, w_chain, w_isN, w_notN, w_not, w_and, w_or, w_and1, w_and2, w_or1, w_or2, wp_tst, w_ite, w_tup, w_lst, w_ix, w_slc, w_oN, w_oS, w_fld, wp_shut, w_prop, w_call, w_callK, w_mk, w_mkK, w_mkR, w_bi, w_bm, w_isi, w_rngT, w_comp, w_new, w_frz, w_srt, w_isB, w_nil, w_cons, w_seq, w_rng, w_enm, w_zip, s_asg, s_setIx, s_setFld, s_ret, s_retN, s_if, s_expr, s_brk, s_cnt, s_pass, s_nil, s_cons, s_for, s_whl, wp_ok, wp_bad, wp_bind, wp_opt, wp_optN, wp_if, wp_run, g_call, g_call1, g_deep, g_con, asgT, asgTs, startE, wipeE]
        refine ⟨as, hB4, dd, fun a b => hR (a, b), hN, by omega, ?_⟩
        cases as with
        | nil => cases hc
        | cons _ _ => simp
      | false =>
        simp -implicitDefEqProofs [w_var, w_lit, w_glo, w_bin, w_neg, w_cmp, w_chain, w_isN, w_notN, w_not, w_and, w_or, w_and1, w_and2, w_or1, w_or2, wp_tst, w_ite, w_tup, w_lst, w_ix, w_slc, w_oN, w_oS, w_fld, wp_shut, w_prop, w_call, w_callK, w_mk, w_mkK, w_mkR, w_bi, w_bm, w_isi, w_rngT, w_comp, w_new, w_frz, w_srt, w_isB, w_nil, w_cons, w_seq, w_rng, w_enm, w_zip, s_asg, s_setIx, s_setFld, s_ret, s_retN, s_if, s_expr, s_brk, s_cnt, s_pass, s_nil, s_cons, s_for, s_whl, wp_ok, wp_bad, wp_bind, wp_opt, wp_optN, wp_if, wp_run, g_call, g_call1, g_deep, g_con, asgT, asgTs, startE, wipeE, lst_ref hB4, app_w hB4 hsz]
        refine ⟨as ++ [(x, y)], ?_, ⟨?_, by simp; exact dd.len, fun m e l => (getC_ne (by omega)).trans (dd.kp m e l)⟩, ?_, ?_, by simp; omega, by simp⟩
        · rw [getC_set hh4, List.map_append]
          rfl
        · obtain ⟨p, hp⟩ := dd.sp
          exact ⟨p, (getC_ne (by omega)).trans hp⟩
        · intro a b hab
          rcases List.mem_append.mp hab with hab | hab
          · exact hR (a, b) hab
          · cases List.mem_singleton.mp hab
            exact ⟨x0, x1, y0, y1⟩
        · rw [List.nodup_append]
          refine ⟨hN, by simp, fun p hp q hq => ?_⟩
          intro e
          rw [List.mem_singleton.mp hq] at e
          rw [e] at hp
          have := List.contains_iff_mem.mpr hp
          rw [hc] at this
          cases this
    · rintro ρ hh ⟨as, a1, b1, rfl, hB, hE, hR, hN, hl1, hl2⟩
      rw [rng_len] at hl1 hl2
      have hMh : getC hh h1.length = .lst (ss.map arcD) := (hE.kp _ (by have := d1.sp.lt; omega) hcl).trans hM
      have hchh : h1.length < hh.length := lt_of_getC (by rw [hMh]; intro z; cases z)
      have hsz : (ss.map arcD).length < sizeLine := by
        rw [List.length_map]
        omega
      have dd := hD.trans hE
      simp -implicitDefEqProofs [w_var, w_lit, w_glo, w_bin, w_neg, w_cmp, w_chain, w_isN, w_notN, w_not, w_and, w_or, w_and1, w_and2, w_or1, w_or2, wp_tst, w_ite, w_tup, w_lst, w_ix, w_slc, w_oN, w_oS, w_fld, wp_shut, w_prop, w_call, w_callK, w_mk, w_mkK, w_mkR, w_bi, w_bm, w_isi, w_rngT, w_comp, w_new, w_frz, w_srt, w_isB, w_nil, w_cons, w_seq, w_rng, w_enm, w_zip, s_asg, s_setIx, s_setFld, s_ret, s_retN, s_if, s_expr, s_brk, s_cnt, s_pass, s_nil, s_cons, s_for, s_whl, wp_ok, wp_bad, wp_bind, wp_opt, wp_optN, wp_if, wp_run, g_call, g_call1, g_deep, g_con, asgT, asgTs, startE, wipeE, tuple_ref hB, lst_ref hMh, app_w hMh hsz]
      refine ⟨ss ++ [as], ?_, ⟨?_, by simp; exact dd.len, fun m e l => (getC_ne (by omega)).trans (dd.kp m e l)⟩, by simp; omega, ?_⟩
      · rw [getC_set hchh, List.map_append]
        rfl
      · obtain ⟨p, hp⟩ := dd.sp
        have := d1.sp.lt
        exact ⟨p, (getC_ne (by omega)).trans hp⟩
      · intro bs hb
        rcases List.mem_append.mp hb with hb | hb
        · exact hA bs hb
        · rw [List.mem_singleton.mp hb]
          exact ⟨hR, hN, by omega, by omega⟩
  · rintro ρ h' ⟨ss, a, b, c, e, rfl, hM, hD, hl, hA⟩
    rw [rng_len] at hl
    simp -implicitDefEqProofs [w_var, w_lit, w_glo, w_bin, w_neg, w_cmp, w_chain, w_isN, w_notN, w_not, w_and, w_or, w_and1, w_and2, w_or1, w_or2, wp_tst, w_ite, w_tup, w_lst, w_ix, w_slc, w_oN, w_oS, w_fld, wp_shut, w_prop, w_call, w_callK, w_mk, w_mkK, w_mkR, w_bi, w_bm, w_isi, w_rngT, w_comp, w_new, w_frz, w_srt, w_isB, w_nil, w_cons, w_seq, w_rng, w_enm, w_zip, s_asg, s_setIx, s_setFld, s_ret, s_retN, s_if, s_expr, s_brk, s_cnt, s_pass, s_nil, s_cons, s_for, s_whl, wp_ok, wp_bad, wp_bind, wp_opt, wp_optN, wp_if, wp_run, g_call, g_call1, g_deep, g_con, asgT, asgTs, startE, wipeE, tuple_ref hM]
    refine ⟨d1.trans hD, ss, rfl, by omega, by omega, fun as ha => ?_⟩
    rw [show ss.length = count by omega]
    exact hA as ha
end Cl
/-! text L7 -/
set_option maxHeartbeats 1000007
namespace Cl
open PySem
def kindD (ks : List Int) : D := .tup (ks.map .int)
def slipD : Option Int → D
  | none => .non
  | some i => .int i
/-- the parts of a line -/
structure Pt where
  jobs : List (Int × Int)
  pairs : List (Int × Int)
  kinds : List (List Int)
  states : List (List (Int × Int))
  start : Int
  slips : Option Int
def Pt.d (p : Pt) : D := .tup [.tup (p.jobs.map prD), .tup (p.pairs.map prD), .tup (p.kinds.map kindD), .tup (p.states.map arcD), .int p.start, slipD p.slips]
structure PtOk (tasks wide many slips : Nat) (p : Pt) : Prop where
  j0 : 0 < p.jobs.length
  j1 : p.jobs.length ≤ tasks
  jt : ∀ j ∈ p.jobs, 0 ≤ j.1 ∧ j.1 ≤ j.2 ∧ j.2 ≤ 10000
  po : Ord p.jobs.length p.pairs
  pl : p.pairs.length ≤ p.jobs.length
  k0 : 0 < p.kinds.length
  k1 : p.kinds.length ≤ 3
  kt : ∀ ks ∈ p.kinds, ks.Sublist (upto p.jobs.length)
  s0 : 0 < p.states.length
  s1 : p.states.length ≤ wide
  st : ∀ as ∈ p.states, Arcs p.kinds.length p.states.length many as
  a0 : 0 ≤ p.start
  a1 : p.start < p.states.length
  sl : ∀ s, p.slips = some s → 0 ≤ s ∧ s ≤ slips
theorem line_d {k n : Nat} {r : List Int} {tasks wide many slips : Nat} {h : Sto} (hr : r ≠ []) (ht : 0 < tasks) (ht' : tasks ≤ 900) (hw : 0 < wide) (hw' : Few wide) (hy : 0 < many) (hy' : Few many) (hs : SpE n h) :
    Wp (callI TB.tb (k + 6) i__law_line [.lst (r.map .int), .ref n, .int tasks, .int wide, .int many, .int slips] h) fun d h' => Dr n h h' ∧ ∃ p : Pt, d = p.d ∧ PtOk tasks wide many slips p := by
  have big := sz
  rw [c__law_line]
  simp -implicitDefEqProofs [F__law_line, w_var, w_lit, w_glo, w_bin, w_neg, w_cmp, w_chain, w_isN, w_notN, w_not, w_and, w_or, w_and1, w_and2, w_or1, w_or2, wp_tst, w_ite, w_tup, w_lst, w_ix, w_slc, w_oN, w_oS, w_fld, wp_shut, w_prop, w_call, w_callK, w_mk, w_mkK, w_mkR, w_bi, w_bm, w_isi, w_rngT, w_comp, w_new, w_frz, w_srt, w_isB, w_nil, w_cons, w_seq, w_rng, w_enm, w_zip, s_asg, s_setIx, s_setFld, s_ret, s_retN, s_if, s_expr, s_brk, s_cnt, s_pass, s_nil, s_cons, s_for, s_whl, wp_ok, wp_bad, wp_bind, wp_opt, wp_optN, wp_if, wp_run, g_call, g_call1, g_deep, g_con, asgT, asgTs, startE, wipeE, lim_ok]
  refine (take_d (limit := 4) hr (by decide) hs).imp fun d h1 ⟨d1, v, e1, v0, v1⟩ => ?_
  subst e1
  obtain ⟨style, hst⟩ : ∃ style : Int, L2.atI [D.int 0, .int 0, .int 1, .int 2] v = some (.int style) := by
    have hv : v = 0 ∨ v = 1 ∨ v = 2 ∨ v = 3 := by omega
    rcases hv with rfl | rfl | rfl | rfl
    · exact ⟨0, rfl⟩
    · exact ⟨0, rfl⟩
    · exact ⟨1, rfl⟩
    · exact ⟨2, rfl⟩
  rw [ix_lst, hst, wp_opt]
  try simp -implicitDefEqProofs [w_var, w_lit, w_glo, w_bin, w_neg, w_cmp, w_chain, w_isN, w_notN, w_not, w_and, w_or, w_and1, w_and2, w_or1, w_or2, wp_tst, w_ite, w_tup, w_lst, w_ix, w_slc, w_oN, w_oS, w_fld, wp_shut, w_prop, w_call, w_callK, w_mk, w_mkK, w_mkR, w_bi, w_bm, w_isi, w_rngT, w_comp, w_new, w_frz, w_srt, w_isB, w_nil, w_cons, w_seq, w_rng, w_enm, w_zip, s_asg, s_setIx, s_setFld, s_ret, s_retN, s_if, s_expr, s_brk, s_cnt, s_pass, s_nil, s_cons, s_for, s_whl, wp_ok, wp_bad, wp_bind, wp_opt, wp_optN, wp_if, wp_run, g_call, g_call1, g_deep, g_con, asgT, asgTs, startE, wipeE]
  refine (take_d (limit := tasks) hr (by omega) d1.sp).imp fun d h2 ⟨d2, u, e2, u0, u1⟩ => ?_
  subst e2
  obtain ⟨count, hc⟩ : ∃ count : Nat, (1 : Int) + u = count := ⟨(1 + u).toNat, by omega⟩
  have hcf : Few count := ⟨by omega⟩
  simp -implicitDefEqProofs [w_var, w_lit, w_glo, w_bin, w_neg, w_cmp, w_chain, w_isN, w_notN, w_not, w_and, w_or, w_and1, w_and2, w_or1, w_or2, wp_tst, w_ite, w_tup, w_lst, w_ix, w_slc, w_oN, w_oS, w_fld, wp_shut, w_prop, w_call, w_callK, w_mk, w_mkK, w_mkR, w_bi, w_bm, w_isi, w_rngT, w_comp, w_new, w_frz, w_srt, w_isB, w_nil, w_cons, w_seq, w_rng, w_enm, w_zip, s_asg, s_setIx, s_setFld, s_ret, s_retN, s_if, s_expr, s_brk, s_cnt, s_pass, s_nil, s_cons, s_for, s_whl, wp_ok, wp_bad, wp_bind, wp_opt, wp_optN, wp_if, wp_run, g_call, g_call1, g_deep, g_con, asgT, asgTs, startE, wipeE, add_int, hc, rng_one hcf, lockN, freeN]
  -- the jobs
  refine wp_compL (fun i acc h' => ∃ js : List (Int × Int), acc = js.map prD ∧ js.length = i ∧ (∀ j ∈ js, 0 ≤ j.1 ∧ j.1 ≤ j.2 ∧ j.2 ≤ 10000) ∧ Dr n h2 h') 0 ⟨[], rfl, rfl, (fun j hj => by cases hj), Dr.refl d2.sp⟩ ?_ ?_
  · rintro i d acc h' hd ⟨js, rfl, hl, hJ, hD⟩
    obtain ⟨hi, rfl⟩ := rng_get hd
    have hsz : (js.map prD).length < sizeLine := by
      rw [List.length_map]
      omega
    unfold compF
    simp -implicitDefEqProofs [w_var, w_lit, w_glo, w_bin, w_neg, w_cmp, w_chain, w_isN, w_notN, w_not, w_and, w_or, w_and1, w_and2, w_or1, w_or2, wp_tst, w_ite, w_tup, w_lst, w_ix, w_slc, w_oN, w_oS, w_fld, wp_shut, w_prop, w_call, w_callK, w_mk, w_mkK, w_mkR, w_bi, w_bm, w_isi, w_rngT, w_comp, w_new, w_frz, w_srt, w_isB, w_nil, w_cons, w_seq, w_rng, w_enm, w_zip, s_asg, s_setIx, s_setFld, s_ret, s_retN, s_if, s_expr, s_brk, s_cnt, s_pass, s_nil, s_cons, s_for, s_whl, wp_ok, wp_bad, wp_bind, wp_opt, wp_optN, wp_if, wp_run, g_call, g_call1, g_deep, g_con, asgT, asgTs, startE, wipeE]
    refine (task_d (style := style) hr hD.sp).imp fun d3 h3 ⟨d3', x, y, e3, x0, xy, y1⟩ => ?_
    subst e3
    refine ⟨by simpa using hsz, js ++ [(x, y)], by simp [prD], by simp; omega, ?_, hD.trans d3'⟩
    intro a b hab
    rcases List.mem_append.mp hab with hab | hab
    · exact hJ (a, b) hab
    · cases List.mem_singleton.mp hab
      exact ⟨x0, xy, y1⟩
  rintro acc h3 ⟨js, rfl, hl, hJ, hD3⟩
  rw [rng_len] at hl
  rw [tuple_lst, wp_ok]
  try simp -implicitDefEqProofs [w_var, w_lit, w_glo, w_bin, w_neg, w_cmp, w_chain, w_isN, w_notN, w_not, w_and, w_or, w_and1, w_and2, w_or1, w_or2, wp_tst, w_ite, w_tup, w_lst, w_ix, w_slc, w_oN, w_oS, w_fld, wp_shut, w_prop, w_call, w_callK, w_mk, w_mkK, w_mkR, w_bi, w_bm, w_isi, w_rngT, w_comp, w_new, w_frz, w_srt, w_isB, w_nil, w_cons, w_seq, w_rng, w_enm, w_zip, s_asg, s_setIx, s_setFld, s_ret, s_retN, s_if, s_expr, s_brk, s_cnt, s_pass, s_nil, s_cons, s_for, s_whl, wp_ok, wp_bad, wp_bind, wp_opt, wp_optN, wp_if, wp_run, g_call, g_call1, g_deep, g_con, asgT, asgTs, startE, wipeE, add_int]
  refine (take_d (limit := (count : Int) + 1) hr (by omega) hD3.sp).imp fun d h4 ⟨d4, m, e4, m0, m1⟩ => ?_
  subst e4
  obtain ⟨mn, hmn⟩ : ∃ mn : Nat, m = mn := ⟨m.toNat, by omega⟩
  subst hmn
  have hmf : Few mn := ⟨by omega⟩
  refine (pairs_d (count := count) (many := mn) hr (by omega) hcf hmf d4.sp).imp fun d h5 ⟨d5, ps, e5, hO, hpl⟩ => ?_
  subst e5
  try simp -implicitDefEqProofs [w_var, w_lit, w_glo, w_bin, w_neg, w_cmp, w_chain, w_isN, w_notN, w_not, w_and, w_or, w_and1, w_and2, w_or1, w_or2, wp_tst, w_ite, w_tup, w_lst, w_ix, w_slc, w_oN, w_oS, w_fld, wp_shut, w_prop, w_call, w_callK, w_mk, w_mkK, w_mkR, w_bi, w_bm, w_isi, w_rngT, w_comp, w_new, w_frz, w_srt, w_isB, w_nil, w_cons, w_seq, w_rng, w_enm, w_zip, s_asg, s_setIx, s_setFld, s_ret, s_retN, s_if, s_expr, s_brk, s_cnt, s_pass, s_nil, s_cons, s_for, s_whl, wp_ok, wp_bad, wp_bind, wp_opt, wp_optN, wp_if, wp_run, g_call, g_call1, g_deep, g_con, asgT, asgTs, startE, wipeE]
  refine (take_d (limit := 3) hr (by decide) d5.sp).imp fun d h6 ⟨d6, w, e6, w0, w1⟩ => ?_
  subst e6
  obtain ⟨kn, hkn⟩ : ∃ kn : Nat, (1 : Int) + w = kn := ⟨(1 + w).toNat, by omega⟩
  have hkf : Few kn := ⟨by omega⟩
  simp -implicitDefEqProofs [w_var, w_lit, w_glo, w_bin, w_neg, w_cmp, w_chain, w_isN, w_notN, w_not, w_and, w_or, w_and1, w_and2, w_or1, w_or2, wp_tst, w_ite, w_tup, w_lst, w_ix, w_slc, w_oN, w_oS, w_fld, wp_shut, w_prop, w_call, w_callK, w_mk, w_mkK, w_mkR, w_bi, w_bm, w_isi, w_rngT, w_comp, w_new, w_frz, w_srt, w_isB, w_nil, w_cons, w_seq, w_rng, w_enm, w_zip, s_asg, s_setIx, s_setFld, s_ret, s_retN, s_if, s_expr, s_brk, s_cnt, s_pass, s_nil, s_cons, s_for, s_whl, wp_ok, wp_bad, wp_bind, wp_opt, wp_optN, wp_if, wp_run, g_call, g_call1, g_deep, g_con, asgT, asgTs, startE, wipeE, add_int, hkn, rng_one hkf, lockN, freeN]
  refine wp_compL (fun i acc h' => ∃ kk : List (List Int), acc = kk.map kindD ∧ kk.length = i ∧ (∀ ks ∈ kk, ks.Sublist (upto count)) ∧ Dr n h6 h') 0 ⟨[], rfl, rfl, (fun j hj => by cases hj), Dr.refl d6.sp⟩ ?_ ?_
  · rintro i d acc h' hd ⟨kk, rfl, hl, hK, hD⟩
    obtain ⟨hi, rfl⟩ := rng_get hd
    have hsz : (kk.map kindD).length < sizeLine := by
      rw [List.length_map]
      omega
    unfold compF
    simp -implicitDefEqProofs [w_var, w_lit, w_glo, w_bin, w_neg, w_cmp, w_chain, w_isN, w_notN, w_not, w_and, w_or, w_and1, w_and2, w_or1, w_or2, wp_tst, w_ite, w_tup, w_lst, w_ix, w_slc, w_oN, w_oS, w_fld, wp_shut, w_prop, w_call, w_callK, w_mk, w_mkK, w_mkR, w_bi, w_bm, w_isi, w_rngT, w_comp, w_new, w_frz, w_srt, w_isB, w_nil, w_cons, w_seq, w_rng, w_enm, w_zip, s_asg, s_setIx, s_setFld, s_ret, s_retN, s_if, s_expr, s_brk, s_cnt, s_pass, s_nil, s_cons, s_for, s_whl, wp_ok, wp_bad, wp_bind, wp_opt, wp_optN, wp_if, wp_run, g_call, g_call1, g_deep, g_con, asgT, asgTs, startE, wipeE]
    refine (model_d (count := count) hr hcf hD.sp).imp fun d7 h7 ⟨d7', ks, e7, hks⟩ => ?_
    subst e7
    refine ⟨by simpa using hsz, kk ++ [ks], by simp [kindD], by simp; omega, ?_, hD.trans d7'⟩
    intro j hj
    rcases List.mem_append.mp hj with hj | hj
    · exact hK j hj
    · rw [List.mem_singleton.mp hj]
      exact hks
  rintro acc h7 ⟨kk, rfl, hkl, hK, hD7⟩
  rw [rng_len] at hkl
  have hkk : kk.length = kn := by omega
  rw [tuple_lst, wp_ok, len_tup, wp_ok, List.length_map, hkk]
  refine (states_d (models := kn) hr (by omega) hw hw' hy hy' hD7.sp).imp fun d h8 ⟨d8, ss, e8, ss0, ss1, hss⟩ => ?_
  subst e8
  rw [len_tup, wp_ok, List.length_map]
  refine (take_d (limit := (ss.length : Int)) hr (by omega) d8.sp).imp fun d h9 ⟨d9, st, e9, st0, st1⟩ => ?_
  subst e9
  refine (take_d (limit := 5) hr (by decide) d9.sp).imp fun d h10 ⟨d10, z, e10, _, _⟩ => ?_
  subst e10
  rw [eq_int, wp_ok, tru_bl, wp_opt]
  have D1 := ((((((((d1.trans d2).trans hD3).trans d4).trans d5).trans d6).trans hD7).trans d8).trans d9).trans d10
  have ok : ∀ sl : Option Int, (∀ s, sl = some s → 0 ≤ s ∧ s ≤ slips) → PtOk tasks wide many slips ⟨js, ps, kk, ss, st, sl⟩ := fun sl hsl => by
    have hjl : js.length = count := by omega
    refine ⟨by show 0 < js.length; omega, by show js.length ≤ tasks; omega, hJ, by show Ord js.length ps; rw [hjl]; exact hO, by show ps.length ≤ js.length; omega, by show 0 < kk.length; omega, by show kk.length ≤ 3; omega, fun ks h => by show ks.Sublist (upto js.length); rw [hjl]; exact hK ks h, ss0, ss1, fun as h => by show Arcs kk.length ss.length many as; rw [hkk]; exact hss as h, st0, st1, hsl⟩
  cases hz : z == 0 with
  | true =>
    simp -implicitDefEqProofs [w_var, w_lit, w_glo, w_bin, w_neg, w_cmp, w_chain, w_isN, w_notN, w_not, w_and, w_or, w_and1, w_and2, w_or1, w_or2, wp_tst, w_ite, w_tup, w_lst, w_ix, w_slc, w_oN, w_oS, w_fld, wp_shut, w_prop, w_call, w_callK, w_mk, w_mkK, w_mkR, w_bi, w_bm, w_isi, w_rngT, w_comp, w_new, w_frz, w_srt, w_isB, w_nil, w_cons, w_seq, w_rng, w_enm, w_zip, s_asg, s_setIx, s_setFld, s_ret, s_retN, s_if, s_expr, s_brk, s_cnt, s_pass, s_nil, s_cons, s_for, s_whl, wp_ok, wp_bad, wp_bind, wp_opt, wp_optN, wp_if, wp_run, g_call, g_call1, g_deep, g_con, asgT, asgTs, startE, wipeE]
    exact ⟨D1, ⟨js, ps, kk, ss, st, none⟩, rfl, ok none fun s h => by cases h⟩
  | false =>
    simp -implicitDefEqProofs [w_var, w_lit, w_glo, w_bin, w_neg, w_cmp, w_chain, w_isN, w_notN, w_not, w_and, w_or, w_and1, w_and2, w_or1, w_or2, wp_tst, w_ite, w_tup, w_lst, w_ix, w_slc, w_oN, w_oS, w_fld, wp_shut, w_prop, w_call, w_callK, w_mk, w_mkK, w_mkR, w_bi, w_bm, w_isi, w_rngT, w_comp, w_new, w_frz, w_srt, w_isB, w_nil, w_cons, w_seq, w_rng, w_enm, w_zip, s_asg, s_setIx, s_setFld, s_ret, s_retN, s_if, s_expr, s_brk, s_cnt, s_pass, s_nil, s_cons, s_for, s_whl, wp_ok, wp_bad, wp_bind, wp_opt, wp_optN, wp_if, wp_run, g_call, g_call1, g_deep, g_con, asgT, asgTs, startE, wipeE, add_int]
    refine (take_d (limit := (slips : Int) + 1) hr (by omega) d10.sp).imp fun d h11 ⟨d11, sl, e11, l0, l1⟩ => ?_
    subst e11
    exact ⟨D1.trans d11, ⟨js, ps, kk, ss, st, some sl⟩, rfl, ok (some sl) fun s h => by cases h; exact ⟨l0, by omega⟩⟩
end Cl
/-! text L8 -/
set_option maxHeartbeats 1000007
namespace Cl
open PySem
def CaseOk (p : Pt) : Prop := ∃ tasks wide many slips : Nat, tasks ≤ 12 ∧ wide ≤ 4 ∧ many ≤ 3 ∧ slips ≤ 8 ∧ PtOk tasks wide many slips p
theorem case_d {k n : Nat} {r : List Int} {h : Sto} (hr : r ≠ []) (hs : SpE n h) :
    Wp (callI TB.tb (k + 7) i__law_case [.lst (r.map .int), .ref n] h) fun d h' => Dr n h h' ∧ ∃ p : Pt, d = p.d ∧ CaseOk p := by
  rw [c__law_case]
  simp -implicitDefEqProofs [F__law_case, w_var, w_lit, w_glo, w_bin, w_neg, w_cmp, w_chain, w_isN, w_notN, w_not, w_and, w_or, w_and1, w_and2, w_or1, w_or2, wp_tst, w_ite, w_tup, w_lst, w_ix, w_slc, w_oN, w_oS, w_fld, wp_shut, w_prop, w_call, w_callK, w_mk, w_mkK, w_mkR, w_bi, w_bm, w_isi, w_rngT, w_comp, w_new, w_frz, w_srt, w_isB, w_nil, w_cons, w_seq, w_rng, w_enm, w_zip, s_asg, s_setIx, s_setFld, s_ret, s_retN, s_if, s_expr, s_brk, s_cnt, s_pass, s_nil, s_cons, s_for, s_whl, wp_ok, wp_bad, wp_bind, wp_opt, wp_optN, wp_if, wp_run, g_call, g_call1, g_deep, g_con, asgT, asgTs, startE, wipeE]
  refine (take_d (limit := 4) hr (by decide) hs).imp fun d h1 ⟨d1, v, e1, v0, v1⟩ => ?_
  subst e1
  have go : ∀ tasks wide many slips : Nat, 0 < tasks → tasks ≤ 12 → 0 < wide → wide ≤ 4 → 0 < many → many ≤ 3 → slips ≤ 8 →
      Wp (callI TB.tb (k + 6) i__law_line [.lst (r.map .int), .ref n, .int tasks, .int wide, .int many, .int slips] h1) fun d h' => Dr n h h' ∧ ∃ p : Pt, d = p.d ∧ CaseOk p := fun tasks wide many slips a1 a2 a3 a4 a5 a6 a7 =>
    (line_d hr a1 (by omega) a3 ⟨by omega⟩ a5 ⟨by omega⟩ d1.sp).imp fun d h2 ⟨d2, p, e, ok⟩ => ⟨d1.trans d2, p, e, tasks, wide, many, slips, a2, a4, a6, a7, ok⟩
  have g1 := go 6 4 3 3 (by decide) (by decide) (by decide) (by decide) (by decide) (by decide) (by decide)
  have g2 := go 4 3 2 4 (by decide) (by decide) (by decide) (by decide) (by decide) (by decide) (by decide)
  have g3 := go 3 2 3 2 (by decide) (by decide) (by decide) (by decide) (by decide) (by decide) (by decide)
  have g4 := go 12 3 2 8 (by decide) (by decide) (by decide) (by decide) (by decide) (by decide) (by decide)
  have hv : v = 0 ∨ v = 1 ∨ v = 2 ∨ v = 3 := by omega
  rcases hv with rfl | rfl | rfl | rfl
  · simp -implicitDefEqProofs [w_var, w_lit, w_glo, w_bin, w_neg, w_cmp, w_chain, w_isN, w_notN, w_not, w_and, w_or, w_and1, w_and2, w_or1, w_or2, wp_tst, w_ite, w_tup, w_lst, w_ix, w_slc, w_oN, w_oS, w_fld, wp_shut, w_prop, w_call, w_callK, w_mk, w_mkK, w_mkR, w_bi, w_bm, w_isi, w_rngT, w_comp, w_new, w_frz, w_srt, w_isB, w_nil, w_cons, w_seq, w_rng, w_enm, w_zip, s_asg, s_setIx, s_setFld, s_ret, s_retN, s_if, s_expr, s_brk, s_cnt, s_pass, s_nil, s_cons, s_for, s_whl, wp_ok, wp_bad, wp_bind, wp_opt, wp_optN, wp_if, wp_run, g_call, g_call1, g_deep, g_con, asgT, asgTs, startE, wipeE, eq_int, tru_bl]
    exact g1
  · simp -implicitDefEqProofs [w_var, w_lit, w_glo, w_bin, w_neg, w_cmp, w_chain, w_isN, w_notN, w_not, w_and, w_or, w_and1, w_and2, w_or1, w_or2, wp_tst, w_ite, w_tup, w_lst, w_ix, w_slc, w_oN, w_oS, w_fld, wp_shut, w_prop, w_call, w_callK, w_mk, w_mkK, w_mkR, w_bi, w_bm, w_isi, w_rngT, w_comp, w_new, w_frz, w_srt, w_isB, w_nil, w_cons, w_seq, w_rng, w_enm, w_zip, s_asg, s_setIx, s_setFld, s_ret, s_retN, s_if, s_expr, s_brk, s_cnt, s_pass, s_nil, s_cons, s_for, s_whl, wp_ok, wp_bad, wp_bind, wp_opt, wp_optN, wp_if, wp_run, g_call, g_call1, g_deep, g_con, asgT, asgTs, startE, wipeE, eq_int, tru_bl]
    exact g2
  · simp -implicitDefEqProofs [w_var, w_lit, w_glo, w_bin, w_neg, w_cmp, w_chain, w_isN, w_notN, w_not, w_and, w_or, w_and1, w_and2, w_or1, w_or2, wp_tst, w_ite, w_tup, w_lst, w_ix, w_slc, w_oN, w_oS, w_fld, wp_shut, w_prop, w_call, w_callK, w_mk, w_mkK, w_mkR, w_bi, w_bm, w_isi, w_rngT, w_comp, w_new, w_frz, w_srt, w_isB, w_nil, w_cons, w_seq, w_rng, w_enm, w_zip, s_asg, s_setIx, s_setFld, s_ret, s_retN, s_if, s_expr, s_brk, s_cnt, s_pass, s_nil, s_cons, s_for, s_whl, wp_ok, wp_bad, wp_bind, wp_opt, wp_optN, wp_if, wp_run, g_call, g_call1, g_deep, g_con, asgT, asgTs, startE, wipeE, eq_int, tru_bl]
    exact g3
  · simp -implicitDefEqProofs [w_var, w_lit, w_glo, w_bin, w_neg, w_cmp, w_chain, w_isN, w_notN, w_not, w_and, w_or, w_and1, w_and2, w_or1, w_or2, wp_tst, w_ite, w_tup, w_lst, w_ix, w_slc, w_oN, w_oS, w_fld, wp_shut, w_prop, w_call, w_callK, w_mk, w_mkK, w_mkR, w_bi, w_bm, w_isi, w_rngT, w_comp, w_new, w_frz, w_srt, w_isB, w_nil, w_cons, w_seq, w_rng, w_enm, w_zip, s_asg, s_setIx, s_setFld, s_ret, s_retN, s_if, s_expr, s_brk, s_cnt, s_pass, s_nil, s_cons, s_for, s_whl, wp_ok, wp_bad, wp_bind, wp_opt, wp_optN, wp_if, wp_run, g_call, g_call1, g_deep, g_con, asgT, asgTs, startE, wipeE, eq_int, tru_bl]
    exact g4
end Cl
/-! text L9 -/
set_option maxHeartbeats 1000007
namespace Cl
open PySem
/-- trees of tuples -/
inductive Tr where
  | non | int (i : Int) | node (ts : List Tr)
mutual
def Tr.d : Tr → D
  | .non => .non
  | .int i => .int i
  | .node ts => .tup (Tr.ds ts)
def Tr.ds : List Tr → List D
  | [] => []
  | t :: ts => t.d :: Tr.ds ts
end
mutual
/-- lists and tuples, turn about -/
def Tr.lo : Tr → Nat → D
  | .non, _ => .non
  | .int i, _ => .int i
  | .node ts, n => if n % 2 = 0 then .lst (Tr.los ts (n + 1)) else .tup (Tr.los ts (n + 1))
def Tr.los : List Tr → Nat → List D
  | [], _ => []
  | t :: ts, n => t.lo n :: Tr.los ts n
end
mutual
def Tr.dp : Tr → Nat
  | .non => 0
  | .int _ => 0
  | .node ts => Tr.dps ts + 1
def Tr.dps : List Tr → Nat
  | [] => 0
  | t :: ts => max t.dp (Tr.dps ts)
end
mutual
def Tr.wd : Tr → Nat
  | .non => 0
  | .int _ => 0
  | .node ts => max ts.length (Tr.wds ts)
def Tr.wds : List Tr → Nat
  | [] => 0
  | t :: ts => max t.wd (Tr.wds ts)
end
theorem Tr.ds_len : ∀ ts : List Tr, (Tr.ds ts).length = ts.length
  | [] => rfl
  | t :: ts => by
    show (Tr.ds ts).length + 1 = ts.length + 1
    rw [Tr.ds_len ts]
theorem Tr.los_len : ∀ (ts : List Tr) (n : Nat), (Tr.los ts n).length = ts.length
  | [], _ => rfl
  | t :: ts, n => by
    show (Tr.los ts n).length + 1 = ts.length + 1
    rw [Tr.los_len ts]
/-- a comprehension over items, each at its own end, the store as it was -/
theorem comp_map {f : D → Sto → R (Option D)} {h : Sto} {P : List D → Sto → Prop} : ∀ {xs ys acc : List D}, xs.length = ys.length → acc.length + xs.length < sizeLine → (∀ (i : Nat) (x y : D), xs[i]? = some x → ys[i]? = some y → Wp (f x h) fun o h1 => o = some y ∧ h1 = h) → P (acc ++ ys) h → Wp (compL f xs acc h) P
  | [], ys, acc, hl, _, _, hp => by
    have : ys = [] := List.length_eq_zero_iff.mp hl.symm
    subst this
    rw [List.append_nil] at hp
    exact wp_ok.mpr hp
  | x :: xs, [], _, hl, _, _, _ => by cases hl
  | x :: xs, y :: ys, acc, hl, hs, hf, hp => by
    show Wp ((f x h).bind _) P
    rw [wp_bind]
    refine (hf 0 x y rfl rfl).imp fun o h1 ⟨eo, eh⟩ => ?_
    subst eo
    subst eh
    show Wp (ifR _ _) P
    rw [wp_if]
    rw [List.length_cons] at hs
    refine ⟨decide_eq_true (by omega), comp_map (by simpa using hl) (by rw [List.length_append]; simp; omega) (fun i x y e1 e2 => hf (i + 1) x y (by simpa using e1) (by simpa using e2)) ?_⟩
    rw [List.append_assoc]
    exact hp
theorem tr_get : ∀ {ts : List Tr} {i : Nat} {x : D}, (Tr.ds ts)[i]? = some x → ∃ t, ts[i]? = some t ∧ x = t.d
  | [], i, x, h => by simp [Tr.ds] at h
  | t :: ts, 0, x, h => by
    have : t.d = x := by simpa [Tr.ds] using h
    exact ⟨t, rfl, this.symm⟩
  | t :: ts, i + 1, x, h => by
    obtain ⟨u, h1, h2⟩ := tr_get (ts := ts) (i := i) (by simpa [Tr.ds] using h)
    exact ⟨u, by simpa using h1, h2⟩
theorem lo_get : ∀ {ts : List Tr} {i n : Nat} {x : D}, (Tr.los ts n)[i]? = some x → ∃ t, ts[i]? = some t ∧ x = t.lo n
  | [], i, n, x, h => by simp [Tr.los] at h
  | t :: ts, 0, n, x, h => by
    have : t.lo n = x := by simpa [Tr.los] using h
    exact ⟨t, rfl, this.symm⟩
  | t :: ts, i + 1, n, x, h => by
    obtain ⟨u, h1, h2⟩ := lo_get (ts := ts) (i := i) (n := n) (by simpa [Tr.los] using h)
    exact ⟨u, by simpa using h1, h2⟩
theorem dp_mem : ∀ {ts : List Tr} {i : Nat} {t : Tr}, ts[i]? = some t → t.dp ≤ Tr.dps ts ∧ t.wd ≤ Tr.wds ts
  | [], i, t, h => by simp at h
  | u :: ts, 0, t, h => by
    have : u = t := by simpa using h
    subst this
    exact ⟨Nat.le_max_left _ _, Nat.le_max_left _ _⟩
  | u :: ts, i + 1, t, h => by
    obtain ⟨h1, h2⟩ := dp_mem (ts := ts) (i := i) (by simpa using h)
    exact ⟨Nat.le_trans h1 (Nat.le_max_right _ _), Nat.le_trans h2 (Nat.le_max_right _ _)⟩
end Cl
/-! text L10 -/
set_option maxHeartbeats 1000007
namespace Cl
open PySem
theorem loose_t : ∀ (d : Nat) (t : Tr) (k n : Nat) {h : Sto}, t.dp ≤ d → t.wd ≤ 1000 → Wp (callI TB.tb (k + d + 1) i__law_loose [t.d, .int n] h) fun x h' => x = t.lo n ∧ h' = h
  | d, .non, k, n, h, _, _ => by
    rw [c__law_loose]
    simp -implicitDefEqProofs [F__law_loose, w_var, w_lit, w_glo, w_bin, w_neg, w_cmp, w_chain, w_isN, w_notN, w_not, w_and, w_or, w_and1, w_and2, w_or1, w_or2, wp_tst, w_ite, w_tup, w_lst, w_ix, w_slc, w_oN, w_oS, w_fld, wp_shut, w_prop, w_call, w_callK, w_mk, w_mkK, w_mkR, w_bi, w_bm, w_isi, w_rngT, w_comp, w_new, w_frz, w_srt, w_isB, w_nil, w_cons, w_seq, w_rng, w_enm, w_zip, s_asg, s_setIx, s_setFld, s_ret, s_retN, s_if, s_expr, s_brk, s_cnt, s_pass, s_nil, s_cons, s_for, s_whl, wp_ok, wp_bad, wp_bind, wp_opt, wp_optN, wp_if, wp_run, g_call, g_call1, g_deep, g_con, asgT, asgTs, startE, wipeE, Tr.d, Tr.lo, ty_non, kN, tru_bl]
  | d, .int i, k, n, h, _, _ => by
    rw [c__law_loose]
    simp -implicitDefEqProofs [F__law_loose, w_var, w_lit, w_glo, w_bin, w_neg, w_cmp, w_chain, w_isN, w_notN, w_not, w_and, w_or, w_and1, w_and2, w_or1, w_or2, wp_tst, w_ite, w_tup, w_lst, w_ix, w_slc, w_oN, w_oS, w_fld, wp_shut, w_prop, w_call, w_callK, w_mk, w_mkK, w_mkR, w_bi, w_bm, w_isi, w_rngT, w_comp, w_new, w_frz, w_srt, w_isB, w_nil, w_cons, w_seq, w_rng, w_enm, w_zip, s_asg, s_setIx, s_setFld, s_ret, s_retN, s_if, s_expr, s_brk, s_cnt, s_pass, s_nil, s_cons, s_for, s_whl, wp_ok, wp_bad, wp_bind, wp_opt, wp_optN, wp_if, wp_run, g_call, g_call1, g_deep, g_con, asgT, asgTs, startE, wipeE, Tr.d, Tr.lo, ty_int, kI, tru_bl]
  | 0, .node ts, k, n, h, hd, _ => by
    unfold Tr.dp at hd
    omega
  | d + 1, .node ts, k, n, h, hd, hw => by
    have big := sz
    unfold Tr.dp at hd
    unfold Tr.wd at hw
    have q := md 2 (by decide)
    rw [c__law_loose]
    simp -implicitDefEqProofs [F__law_loose, w_var, w_lit, w_glo, w_bin, w_neg, w_cmp, w_chain, w_isN, w_notN, w_not, w_and, w_or, w_and1, w_and2, w_or1, w_or2, wp_tst, w_ite, w_tup, w_lst, w_ix, w_slc, w_oN, w_oS, w_fld, wp_shut, w_prop, w_call, w_callK, w_mk, w_mkK, w_mkR, w_bi, w_bm, w_isi, w_rngT, w_comp, w_new, w_frz, w_srt, w_isB, w_nil, w_cons, w_seq, w_rng, w_enm, w_zip, s_asg, s_setIx, s_setFld, s_ret, s_retN, s_if, s_expr, s_brk, s_cnt, s_pass, s_nil, s_cons, s_for, s_whl, wp_ok, wp_bad, wp_bind, wp_opt, wp_optN, wp_if, wp_run, g_call, g_call1, g_deep, g_con, asgT, asgTs, startE, wipeE, Tr.d, ty_tup, kT, tru_bl, it_tup, lockN, freeN]
    refine comp_map (ys := Tr.los ts (n + 1)) (by rw [Tr.ds_len, Tr.los_len]) (by rw [Tr.ds_len]; simp; omega) (fun i x y e1 e2 => ?_) ?_
    · obtain ⟨t, f1, rfl⟩ := tr_get e1
      obtain ⟨t', f2, rfl⟩ := lo_get e2
      rw [f1] at f2
      cases f2
      obtain ⟨m1, m2⟩ := dp_mem f1
      unfold compF
      simp -implicitDefEqProofs [w_var, w_lit, w_glo, w_bin, w_neg, w_cmp, w_chain, w_isN, w_notN, w_not, w_and, w_or, w_and1, w_and2, w_or1, w_or2, wp_tst, w_ite, w_tup, w_lst, w_ix, w_slc, w_oN, w_oS, w_fld, wp_shut, w_prop, w_call, w_callK, w_mk, w_mkK, w_mkR, w_bi, w_bm, w_isi, w_rngT, w_comp, w_new, w_frz, w_srt, w_isB, w_nil, w_cons, w_seq, w_rng, w_enm, w_zip, s_asg, s_setIx, s_setFld, s_ret, s_retN, s_if, s_expr, s_brk, s_cnt, s_pass, s_nil, s_cons, s_for, s_whl, wp_ok, wp_bad, wp_bind, wp_opt, wp_optN, wp_if, wp_run, g_call, g_call1, g_deep, g_con, asgT, asgTs, startE, wipeE, add_int]
      have := loose_t d t k (n + 1) (h := h) (by omega) (by omega)
      rw [show (n : Int) + 1 = ((n + 1 : Nat) : Int) by omega]
      exact this
    · simp -implicitDefEqProofs [w_var, w_lit, w_glo, w_bin, w_neg, w_cmp, w_chain, w_isN, w_notN, w_not, w_and, w_or, w_and1, w_and2, w_or1, w_or2, wp_tst, w_ite, w_tup, w_lst, w_ix, w_slc, w_oN, w_oS, w_fld, wp_shut, w_prop, w_call, w_callK, w_mk, w_mkK, w_mkR, w_bi, w_bm, w_isi, w_rngT, w_comp, w_new, w_frz, w_srt, w_isB, w_nil, w_cons, w_seq, w_rng, w_enm, w_zip, s_asg, s_setIx, s_setFld, s_ret, s_retN, s_if, s_expr, s_brk, s_cnt, s_pass, s_nil, s_cons, s_for, s_whl, wp_ok, wp_bad, wp_bind, wp_opt, wp_optN, wp_if, wp_run, g_call, g_call1, g_deep, g_con, asgT, asgTs, startE, wipeE, int_int, q, eq_int, tru_bl]
      by_cases hn : n % 2 = 0
      · have e0 : ((n : Int) % 2 == 0) = true := by
          have : (n : Int) % 2 = 0 := by omega
          simp [this]
        simp -implicitDefEqProofs [e0, w_var, w_lit, w_glo, w_bin, w_neg, w_cmp, w_chain, w_isN, w_notN, w_not, w_and, w_or, w_and1, w_and2, w_or1, w_or2, wp_tst, w_ite, w_tup, w_lst, w_ix, w_slc, w_oN, w_oS, w_fld, wp_shut, w_prop, w_call, w_callK, w_mk, w_mkK, w_mkR, w_bi, w_bm, w_isi, w_rngT, w_comp, w_new, w_frz, w_srt, w_isB, w_nil, w_cons, w_seq, w_rng, w_enm, w_zip, s_asg, s_setIx, s_setFld, s_ret, s_retN, s_if, s_expr, s_brk, s_cnt, s_pass, s_nil, s_cons, s_for, s_whl, wp_ok, wp_bad, wp_bind, wp_opt, wp_optN, wp_if, wp_run, g_call, g_call1, g_deep, g_con, asgT, asgTs, startE, wipeE, Tr.lo, hn]
      · have e0 : ((n : Int) % 2 == 0) = false := by
          have : ¬ (n : Int) % 2 = 0 := by omega
          simp [this]
        simp -implicitDefEqProofs [e0, w_var, w_lit, w_glo, w_bin, w_neg, w_cmp, w_chain, w_isN, w_notN, w_not, w_and, w_or, w_and1, w_and2, w_or1, w_or2, wp_tst, w_ite, w_tup, w_lst, w_ix, w_slc, w_oN, w_oS, w_fld, wp_shut, w_prop, w_call, w_callK, w_mk, w_mkK, w_mkR, w_bi, w_bm, w_isi, w_rngT, w_comp, w_new, w_frz, w_srt, w_isB, w_nil, w_cons, w_seq, w_rng, w_enm, w_zip, s_asg, s_setIx, s_setFld, s_ret, s_retN, s_if, s_expr, s_brk, s_cnt, s_pass, s_nil, s_cons, s_for, s_whl, wp_ok, wp_bad, wp_bind, wp_opt, wp_optN, wp_if, wp_run, g_call, g_call1, g_deep, g_con, asgT, asgTs, startE, wipeE, Tr.lo, hn, tuple_lst]
theorem is_sequence_non {k : Nat} {h : Sto} {P : D → Sto → Prop} : Wp (callI TB.tb (k + 1) i_is_sequence [.non] h) P = P (.bl false) h := by
  rw [c_is_sequence]
  simp -implicitDefEqProofs [F_is_sequence, w_var, w_lit, w_glo, w_bin, w_neg, w_cmp, w_chain, w_isN, w_notN, w_not, w_and, w_or, w_and1, w_and2, w_or1, w_or2, wp_tst, w_ite, w_tup, w_lst, w_ix, w_slc, w_oN, w_oS, w_fld, wp_shut, w_prop, w_call, w_callK, w_mk, w_mkK, w_mkR, w_bi, w_bm, w_isi, w_rngT, w_comp, w_new, w_frz, w_srt, w_isB, w_nil, w_cons, w_seq, w_rng, w_enm, w_zip, s_asg, s_setIx, s_setFld, s_ret, s_retN, s_if, s_expr, s_brk, s_cnt, s_pass, s_nil, s_cons, s_for, s_whl, wp_ok, wp_bad, wp_bind, wp_opt, wp_optN, wp_if, wp_run, g_call, g_call1, g_deep, g_con, asgT, asgTs, startE, wipeE, ty_non, kN]
theorem frozen_t : ∀ (d : Nat) (t : Tr) (k n : Nat) {h : Sto}, t.dp ≤ d → t.wd ≤ 1000 → Wp (callI TB.tb (k + 1 + d + 1) i_frozen [t.lo n] h) fun x h' => x = t.d ∧ h' = h
  | d, .non, k, n, h, _, _ => by
    rw [c_frozen]
    rw [show k + 1 + d = (k + d) + 1 by omega]
    simp -implicitDefEqProofs [F_frozen, w_var, w_lit, w_glo, w_bin, w_neg, w_cmp, w_chain, w_isN, w_notN, w_not, w_and, w_or, w_and1, w_and2, w_or1, w_or2, wp_tst, w_ite, w_tup, w_lst, w_ix, w_slc, w_oN, w_oS, w_fld, wp_shut, w_prop, w_call, w_callK, w_mk, w_mkK, w_mkR, w_bi, w_bm, w_isi, w_rngT, w_comp, w_new, w_frz, w_srt, w_isB, w_nil, w_cons, w_seq, w_rng, w_enm, w_zip, s_asg, s_setIx, s_setFld, s_ret, s_retN, s_if, s_expr, s_brk, s_cnt, s_pass, s_nil, s_cons, s_for, s_whl, wp_ok, wp_bad, wp_bind, wp_opt, wp_optN, wp_if, wp_run, g_call, g_call1, g_deep, g_con, asgT, asgTs, startE, wipeE, Tr.d, Tr.lo, is_sequence_non, tru_bl]
  | d, .int i, k, n, h, _, _ => by
    rw [c_frozen]
    rw [show k + 1 + d = (k + d) + 1 by omega]
    simp -implicitDefEqProofs [F_frozen, w_var, w_lit, w_glo, w_bin, w_neg, w_cmp, w_chain, w_isN, w_notN, w_not, w_and, w_or, w_and1, w_and2, w_or1, w_or2, wp_tst, w_ite, w_tup, w_lst, w_ix, w_slc, w_oN, w_oS, w_fld, wp_shut, w_prop, w_call, w_callK, w_mk, w_mkK, w_mkR, w_bi, w_bm, w_isi, w_rngT, w_comp, w_new, w_frz, w_srt, w_isB, w_nil, w_cons, w_seq, w_rng, w_enm, w_zip, s_asg, s_setIx, s_setFld, s_ret, s_retN, s_if, s_expr, s_brk, s_cnt, s_pass, s_nil, s_cons, s_for, s_whl, wp_ok, wp_bad, wp_bind, wp_opt, wp_optN, wp_if, wp_run, g_call, g_call1, g_deep, g_con, asgT, asgTs, startE, wipeE, Tr.d, Tr.lo, is_sequence_int, tru_bl]
  | 0, .node ts, k, n, h, hd, _ => by
    unfold Tr.dp at hd
    omega
  | d + 1, .node ts, k, n, h, hd, hw => by
    have big := sz
    unfold Tr.dp at hd
    unfold Tr.wd at hw
    have fin : ∀ h0 : Sto, Wp (compL (compF (glv TB.tb (k + 1 + (d + 1))) (.nam 1) none (.call i_frozen [.var 1] []) [1] [some ((Tr.node ts).lo n), none]) (Tr.los ts (n + 1)) [] h0) fun ys h5 => ys = Tr.ds ts ∧ h5 = h0 := fun h0 => by
      refine comp_map (ys := Tr.ds ts) (by rw [Tr.ds_len, Tr.los_len]) (by rw [Tr.los_len]; simp; omega) (fun i x y e1 e2 => ?_) ⟨rfl, rfl⟩
      obtain ⟨t, f1, rfl⟩ := lo_get e1
      obtain ⟨t', f2, rfl⟩ := tr_get e2
      rw [f1] at f2
      cases f2
      obtain ⟨m1, m2⟩ := dp_mem f1
      unfold compF
      simp -implicitDefEqProofs [w_var, w_lit, w_glo, w_bin, w_neg, w_cmp, w_chain, w_isN, w_notN, w_not, w_and, w_or, w_and1, w_and2, w_or1, w_or2, wp_tst, w_ite, w_tup, w_lst, w_ix, w_slc, w_oN, w_oS, w_fld, wp_shut, w_prop, w_call, w_callK, w_mk, w_mkK, w_mkR, w_bi, w_bm, w_isi, w_rngT, w_comp, w_new, w_frz, w_srt, w_isB, w_nil, w_cons, w_seq, w_rng, w_enm, w_zip, s_asg, s_setIx, s_setFld, s_ret, s_retN, s_if, s_expr, s_brk, s_cnt, s_pass, s_nil, s_cons, s_for, s_whl, wp_ok, wp_bad, wp_bind, wp_opt, wp_optN, wp_if, wp_run, g_call, g_call1, g_deep, g_con, asgT, asgTs, startE, wipeE]
      exact frozen_t d t k (n + 1) (by omega) (by omega)
    rw [c_frozen]
    by_cases hn : n % 2 = 0
    · have el : (Tr.node ts).lo n = .lst (Tr.los ts (n + 1)) := by simp [Tr.lo, hn]
      rw [el] at fin ⊢
      rw [show k + 1 + (d + 1) = (k + d + 1) + 1 by omega] at fin ⊢
      simp -implicitDefEqProofs [F_frozen, w_var, w_lit, w_glo, w_bin, w_neg, w_cmp, w_chain, w_isN, w_notN, w_not, w_and, w_or, w_and1, w_and2, w_or1, w_or2, wp_tst, w_ite, w_tup, w_lst, w_ix, w_slc, w_oN, w_oS, w_fld, wp_shut, w_prop, w_call, w_callK, w_mk, w_mkK, w_mkR, w_bi, w_bm, w_isi, w_rngT, w_comp, w_new, w_frz, w_srt, w_isB, w_nil, w_cons, w_seq, w_rng, w_enm, w_zip, s_asg, s_setIx, s_setFld, s_ret, s_retN, s_if, s_expr, s_brk, s_cnt, s_pass, s_nil, s_cons, s_for, s_whl, wp_ok, wp_bad, wp_bind, wp_opt, wp_optN, wp_if, wp_run, g_call, g_call1, g_deep, g_con, asgT, asgTs, startE, wipeE, is_sequence_lst, tru_bl, it_lst, lockN, freeN]
      refine (fin h).imp fun ys h5 ⟨e1, e2⟩ => ?_
      subst e1
      subst e2
      rw [tuple_lst, wp_ok]
      exact ⟨rfl, rfl⟩
    · have el : (Tr.node ts).lo n = .tup (Tr.los ts (n + 1)) := by simp [Tr.lo, hn]
      rw [el] at fin ⊢
      rw [show k + 1 + (d + 1) = (k + d + 1) + 1 by omega] at fin ⊢
      simp -implicitDefEqProofs [F_frozen, w_var, w_lit, w_glo, w_bin, w_neg, w_cmp, w_chain, w_isN, w_notN, w_not, w_and, w_or, w_and1, w_and2, w_or1, w_or2, wp_tst, w_ite, w_tup, w_lst, w_ix, w_slc, w_oN, w_oS, w_fld, wp_shut, w_prop, w_call, w_callK, w_mk, w_mkK, w_mkR, w_bi, w_bm, w_isi, w_rngT, w_comp, w_new, w_frz, w_srt, w_isB, w_nil, w_cons, w_seq, w_rng, w_enm, w_zip, s_asg, s_setIx, s_setFld, s_ret, s_retN, s_if, s_expr, s_brk, s_cnt, s_pass, s_nil, s_cons, s_for, s_whl, wp_ok, wp_bad, wp_bind, wp_opt, wp_optN, wp_if, wp_run, g_call, g_call1, g_deep, g_con, asgT, asgTs, startE, wipeE, is_sequence_tup, tru_bl, it_tup, lockN, freeN]
      refine (fin h).imp fun ys h5 ⟨e1, e2⟩ => ?_
      subst e1
      subst e2
      rw [tuple_lst, wp_ok]
      exact ⟨rfl, rfl⟩
end Cl
/-! text L11 -/
set_option maxHeartbeats 1000007
namespace Cl
open PySem
end Cl
/-! text L12 -/
set_option maxHeartbeats 1000007
namespace Cl
open PySem
section
variable {h : Sto} {b : Bool} {xs : List D} {k : Nat} {P : D → Sto → Prop}
theorem is_seq_sq : Wp (callI TB.tb (k + 1) i_is_sequence [sqV b xs] h) P = P (.bl true) h := by
  cases b with
  | true => exact is_sequence_tup
  | false => exact is_sequence_lst
theorem len_sq : biD .len [sqV b xs] h = .ok (.int xs.length) h := by cases b <;> rfl
theorem ix_sq {i : Int} : ixD (sqV b xs) (.int i) h = opt (L2.atI xs i) h := by cases b <;> rfl
theorem it_sq : itD h (sqV b xs) = some (xs, none) := by cases b <;> rfl
theorem is_seq_of {n : Int} : Wp (callI TB.tb (k + 2) i_is_sequence_of [sqV b xs, .int n] h) P = P (.bl ((xs.length : Int) == n)) h := by
  rw [c_is_sequence_of]
  simp -implicitDefEqProofs [F_is_sequence_of, w_var, w_lit, w_glo, w_bin, w_neg, w_cmp, w_chain, w_isN, w_notN, w_not, w_and, w_or, w_and1, w_and2, w_or1, w_or2, wp_tst, w_ite, w_tup, w_lst, w_ix, w_slc, w_oN, w_oS, w_fld, wp_shut, w_prop, w_call, w_callK, w_mk, w_mkK, w_mkR, w_bi, w_bm, w_isi, w_rngT, w_comp, w_new, w_frz, w_srt, w_isB, w_nil, w_cons, w_seq, w_rng, w_enm, w_zip, s_asg, s_setIx, s_setFld, s_ret, s_retN, s_if, s_expr, s_brk, s_cnt, s_pass, s_nil, s_cons, s_for, s_whl, wp_ok, wp_bad, wp_bind, wp_opt, wp_optN, wp_if, wp_run, g_call, g_call1, g_deep, g_con, asgT, asgTs, startE, wipeE, is_seq_sq, len_sq, eq_int]
theorem at1 {x y : D} {ys : List D} : L2.atI (x :: y :: ys) 1 = some y := by
  have := at_nat (xs := x :: y :: ys) (i := 1) (by simp)
  simpa using this
theorem is_task_ok {x y : Int} (h0 : 0 ≤ x) (h1 : x ≤ y) (h2 : y ≤ 10000) : Wp (callI TB.tb (k + 3) i_is_task [sqV b [.int x, .int y]] h) P = P (.bl true) h := by
  have c := con_MOST_TIME
  simp only [Cv.d] at c
  rw [c_is_task]
  simp -implicitDefEqProofs [F_is_task, w_var, w_lit, w_glo, w_bin, w_neg, w_cmp, w_chain, w_isN, w_notN, w_not, w_and, w_or, w_and1, w_and2, w_or1, w_or2, wp_tst, w_ite, w_tup, w_lst, w_ix, w_slc, w_oN, w_oS, w_fld, wp_shut, w_prop, w_call, w_callK, w_mk, w_mkK, w_mkR, w_bi, w_bm, w_isi, w_rngT, w_comp, w_new, w_frz, w_srt, w_isB, w_nil, w_cons, w_seq, w_rng, w_enm, w_zip, s_asg, s_setIx, s_setFld, s_ret, s_retN, s_if, s_expr, s_brk, s_cnt, s_pass, s_nil, s_cons, s_for, s_whl, wp_ok, wp_bad, wp_bind, wp_opt, wp_optN, wp_if, wp_run, g_call, g_call1, g_deep, g_con, asgT, asgTs, startE, wipeE, is_seq_of, ix_sq, atI0, at1, c, is_integer_in_int, tru_bl, h0, h1, h2]
  simp -implicitDefEqProofs [show x ≤ 10000 by omega, w_var, w_lit, w_glo, w_bin, w_neg, w_cmp, w_chain, w_isN, w_notN, w_not, w_and, w_or, w_and1, w_and2, w_or1, w_or2, wp_tst, w_ite, w_tup, w_lst, w_ix, w_slc, w_oN, w_oS, w_fld, wp_shut, w_prop, w_call, w_callK, w_mk, w_mkK, w_mkR, w_bi, w_bm, w_isi, w_rngT, w_comp, w_new, w_frz, w_srt, w_isB, w_nil, w_cons, w_seq, w_rng, w_enm, w_zip, s_asg, s_setIx, s_setFld, s_ret, s_retN, s_if, s_expr, s_brk, s_cnt, s_pass, s_nil, s_cons, s_for, s_whl, wp_ok, wp_bad, wp_bind, wp_opt, wp_optN, wp_if, wp_run, g_call, g_call1, g_deep, g_con, asgT, asgTs, startE, wipeE, ix_sq, atI0, at1, c, is_integer_in_int, tru_bl, h0, h1, h2]
theorem bls_true : ∀ n : Nat, blsOf (List.replicate n (D.bl true)) = some (List.replicate n true)
  | 0 => rfl
  | n + 1 => by
    rw [List.replicate_succ, List.replicate_succ]
    simp only [blsOf, bls_true n]
theorem all_true {n : Nat} : biD .all [.lst (List.replicate n (.bl true))] h = .ok (.bl true) h := by
  simp [biD, lstOf, bls_true]
/-- integers below many -/
theorem below_ok {ns : List Int} {many : Int} (hf : Few ns.length) (hn : ∀ x ∈ ns, 0 ≤ x ∧ x < many) : Wp (callI TB.tb (k + 3) i_are_below [sqV b (ns.map .int), .int many] h) fun d h' => d = .bl true ∧ h' = h := by
  have big := sz
  have hl := hf.le
  rw [c_are_below]
  simp -implicitDefEqProofs [F_are_below, w_var, w_lit, w_glo, w_bin, w_neg, w_cmp, w_chain, w_isN, w_notN, w_not, w_and, w_or, w_and1, w_and2, w_or1, w_or2, wp_tst, w_ite, w_tup, w_lst, w_ix, w_slc, w_oN, w_oS, w_fld, wp_shut, w_prop, w_call, w_callK, w_mk, w_mkK, w_mkR, w_bi, w_bm, w_isi, w_rngT, w_comp, w_new, w_frz, w_srt, w_isB, w_nil, w_cons, w_seq, w_rng, w_enm, w_zip, s_asg, s_setIx, s_setFld, s_ret, s_retN, s_if, s_expr, s_brk, s_cnt, s_pass, s_nil, s_cons, s_for, s_whl, wp_ok, wp_bad, wp_bind, wp_opt, wp_optN, wp_if, wp_run, g_call, g_call1, g_deep, g_con, asgT, asgTs, startE, wipeE, is_seq_sq, tru_bl, it_sq, lockN, freeN]
  refine comp_map (ys := List.replicate ns.length (.bl true)) (by simp) (by simp; omega) (fun i x y e1 e2 => ?_) ?_
  · rw [List.getElem?_map] at e1
    cases hx : ns[i]? with
    | none => rw [hx] at e1; cases e1
    | some v =>
      rw [hx] at e1
      cases e1
      have ey : y = .bl true := by
        have := List.mem_of_getElem? e2
        exact (List.mem_replicate.mp this).2
      subst ey
      obtain ⟨v0, v1⟩ := hn v (List.mem_of_getElem? hx)
      unfold compF
      simp -implicitDefEqProofs [w_var, w_lit, w_glo, w_bin, w_neg, w_cmp, w_chain, w_isN, w_notN, w_not, w_and, w_or, w_and1, w_and2, w_or1, w_or2, wp_tst, w_ite, w_tup, w_lst, w_ix, w_slc, w_oN, w_oS, w_fld, wp_shut, w_prop, w_call, w_callK, w_mk, w_mkK, w_mkR, w_bi, w_bm, w_isi, w_rngT, w_comp, w_new, w_frz, w_srt, w_isB, w_nil, w_cons, w_seq, w_rng, w_enm, w_zip, s_asg, s_setIx, s_setFld, s_ret, s_retN, s_if, s_expr, s_brk, s_cnt, s_pass, s_nil, s_cons, s_for, s_whl, wp_ok, wp_bad, wp_bind, wp_opt, wp_optN, wp_if, wp_run, g_call, g_call1, g_deep, g_con, asgT, asgTs, startE, wipeE, sub_int, is_integer_in_int, v0, show v ≤ many - 1 by omega]
  · rw [List.nil_append, all_true, wp_ok]
    exact ⟨rfl, rfl⟩
/-- each less than the next -/
theorem ascending_ok {ns : List Int} (hf : Few ns.length) (hn : ns.Pairwise (· < ·)) : Wp (callI TB.tb (k + 1) i_ascending [sqV b (ns.map .int)] h) fun d h' => d = .bl true ∧ h' = h := by
  have big := sz
  have hl := hf.le
  have hr : rngD [.int ((ns.length : Int) - 1)] = some (0, ns.length - 1) := by
    simp [rngD]
    omega
  rw [c_ascending]
  simp -implicitDefEqProofs [F_ascending, w_var, w_lit, w_glo, w_bin, w_neg, w_cmp, w_chain, w_isN, w_notN, w_not, w_and, w_or, w_and1, w_and2, w_or1, w_or2, wp_tst, w_ite, w_tup, w_lst, w_ix, w_slc, w_oN, w_oS, w_fld, wp_shut, w_prop, w_call, w_callK, w_mk, w_mkK, w_mkR, w_bi, w_bm, w_isi, w_rngT, w_comp, w_new, w_frz, w_srt, w_isB, w_nil, w_cons, w_seq, w_rng, w_enm, w_zip, s_asg, s_setIx, s_setFld, s_ret, s_retN, s_if, s_expr, s_brk, s_cnt, s_pass, s_nil, s_cons, s_for, s_whl, wp_ok, wp_bad, wp_bind, wp_opt, wp_optN, wp_if, wp_run, g_call, g_call1, g_deep, g_con, asgT, asgTs, startE, wipeE, len_sq, sub_int, hr, lockN, freeN]
  refine comp_map (ys := List.replicate (ns.length - 1) (.bl true)) (by rw [rng_len]; simp) (by rw [rng_len]; simp; omega) (fun i x y e1 e2 => ?_) ?_
  · obtain ⟨hi, rfl⟩ := rng_get e1
    have ey : y = .bl true := by
      have := List.mem_of_getElem? e2
      exact (List.mem_replicate.mp this).2
    subst ey
    have a1 := at_map (r := ns) (i := (i : Int)) (by omega) (by omega)
    have a2 := at_map (r := ns) (i := (i : Int) + 1) (by omega) (by omega)
    have lt : ns[(i : Int).toNat]'(by omega) < ns[((i : Int) + 1).toNat]'(by omega) := List.pairwise_iff_getElem.mp hn _ _ _ _ (by omega)
    unfold compF
    simp -implicitDefEqProofs [w_var, w_lit, w_glo, w_bin, w_neg, w_cmp, w_chain, w_isN, w_notN, w_not, w_and, w_or, w_and1, w_and2, w_or1, w_or2, wp_tst, w_ite, w_tup, w_lst, w_ix, w_slc, w_oN, w_oS, w_fld, wp_shut, w_prop, w_call, w_callK, w_mk, w_mkK, w_mkR, w_bi, w_bm, w_isi, w_rngT, w_comp, w_new, w_frz, w_srt, w_isB, w_nil, w_cons, w_seq, w_rng, w_enm, w_zip, s_asg, s_setIx, s_setFld, s_ret, s_retN, s_if, s_expr, s_brk, s_cnt, s_pass, s_nil, s_cons, s_for, s_whl, wp_ok, wp_bad, wp_bind, wp_opt, wp_optN, wp_if, wp_run, g_call, g_call1, g_deep, g_con, asgT, asgTs, startE, wipeE, ix_sq, add_int]
    rw [a1, wp_opt, a2, wp_opt, lt_int, wp_ok]
    simp only [lt, decide_true]
    simp
  · rw [List.nil_append, all_true, wp_ok]
    exact ⟨rfl, rfl⟩
end
end Cl
/-! text L13 -/
set_option maxHeartbeats 1000007
namespace Cl
open PySem
theorem sub_upto {ks : List Int} {n : Nat} (hs : ks.Sublist (upto n)) : ks.length ≤ n ∧ (∀ x ∈ ks, 0 ≤ x ∧ x < n) ∧ ks.Pairwise (· < ·) := by
  refine ⟨?_, fun x hx => mem_upto.mp (hs.subset hx), ?_⟩
  · have := hs.length_le
    rw [upto_len] at this
    exact this
  · refine List.Pairwise.sublist hs ?_
    unfold upto
    rw [List.pairwise_map]
    exact (List.pairwise_lt_range (n := n)).imp fun h => by omega
theorem is_model_ok {k : Nat} {h : Sto} {b : Bool} {ks : List Int} {n : Nat} (hf : Few n) (hs : ks.Sublist (upto n)) : Wp (callI TB.tb (k + 4) i_is_model [sqV b (ks.map .int), .int n] h) fun d h' => d = .bl true ∧ h' = h := by
  obtain ⟨a1, a2, a3⟩ := sub_upto hs
  have hk : Few ks.length := ⟨by have := hf.le; omega⟩
  rw [c_is_model]
  simp -implicitDefEqProofs [F_is_model, w_var, w_lit, w_glo, w_bin, w_neg, w_cmp, w_chain, w_isN, w_notN, w_not, w_and, w_or, w_and1, w_and2, w_or1, w_or2, wp_tst, w_ite, w_tup, w_lst, w_ix, w_slc, w_oN, w_oS, w_fld, wp_shut, w_prop, w_call, w_callK, w_mk, w_mkK, w_mkR, w_bi, w_bm, w_isi, w_rngT, w_comp, w_new, w_frz, w_srt, w_isB, w_nil, w_cons, w_seq, w_rng, w_enm, w_zip, s_asg, s_setIx, s_setFld, s_ret, s_retN, s_if, s_expr, s_brk, s_cnt, s_pass, s_nil, s_cons, s_for, s_whl, wp_ok, wp_bad, wp_bind, wp_opt, wp_optN, wp_if, wp_run, g_call, g_call1, g_deep, g_con, asgT, asgTs, startE, wipeE]
  refine (below_ok hk a2).imp fun d h1 ⟨e1, e2⟩ => ?_
  subst e1
  subst e2
  simp -implicitDefEqProofs [w_var, w_lit, w_glo, w_bin, w_neg, w_cmp, w_chain, w_isN, w_notN, w_not, w_and, w_or, w_and1, w_and2, w_or1, w_or2, wp_tst, w_ite, w_tup, w_lst, w_ix, w_slc, w_oN, w_oS, w_fld, wp_shut, w_prop, w_call, w_callK, w_mk, w_mkK, w_mkR, w_bi, w_bm, w_isi, w_rngT, w_comp, w_new, w_frz, w_srt, w_isB, w_nil, w_cons, w_seq, w_rng, w_enm, w_zip, s_asg, s_setIx, s_setFld, s_ret, s_retN, s_if, s_expr, s_brk, s_cnt, s_pass, s_nil, s_cons, s_for, s_whl, wp_ok, wp_bad, wp_bind, wp_opt, wp_optN, wp_if, wp_run, g_call, g_call1, g_deep, g_con, asgT, asgTs, startE, wipeE]
  exact ascending_ok hk a3
end Cl
/-! text L14 -/
set_option maxHeartbeats 1000007
namespace Cl
open PySem
/-- older cells kept -/
structure Kp (h h' : Sto) : Prop where
  len : h.length ≤ h'.length
  kp : ∀ m, m < h.length → getC h' m = getC h m
theorem Kp.refl (h : Sto) : Kp h h := ⟨Nat.le_refl _, fun _ _ => rfl⟩
theorem Kp.trans {h h1 h2 : Sto} (a : Kp h h1) (b : Kp h1 h2) : Kp h h2 := ⟨Nat.le_trans a.len b.len, fun m l => (b.kp m (Nat.lt_of_lt_of_le l a.len)).trans (a.kp m l)⟩
theorem eqv_int {a b : Int} : PyData.eqv (.int a) (.int b) = (a == b) := by simp [PyData.eqv]
theorem pys_int : ∀ ns : List Int, toPys (ns.map D.int) = some (ns.map PyData.int)
  | [] => rfl
  | n :: ns => by
    rw [List.map_cons]
    unfold toPys
    rw [pys_int ns]
    rfl
theorem lay_int : ∀ ns : List Int, PyData.canLayAll0 (ns.map PyData.int) = true
  | [] => rfl
  | n :: ns => by
    rw [List.map_cons]
    unfold PyData.canLayAll0
    rw [lay_int ns]
    simp [PyData.canLay0]
theorem dep_int : ∀ ns : List Int, PyData.depthAll (ns.map PyData.int) = 0
  | [] => by simp [PyData.depthAll]
  | n :: ns => by
    rw [List.map_cons]
    unfold PyData.depthAll
    rw [dep_int ns]
    simp [PyData.depth]
theorem in_ints {h : Sto} {c : Nat} {ns : List Int} {x : Int} (e : getC h c = .lst (ns.map .int)) : inD h (.int x) (.ref c) = some (ns.contains x) := by
  have e1 : topPy h (.int x) = some (.int x) := rfl
  have e2 : topPy h (.ref c) = some (.list (ns.map PyData.int)) := by
    simp [topPy, e, toPy, pys_int]
  have s1 : shp (.int x) = true := by simp [shp, SeqAt.shaped, PyData.canLay0, PyData.depth]
  have s2 : shp (.list (ns.map PyData.int)) = true := by simp [shp, SeqAt.shaped, PyData.canLay0, lay_int, PyData.depth, dep_int]
  have e3 : ((ns.map PyData.int).any fun z => PyData.eqv z (.int x)) = ns.contains x := by
    rw [List.any_map, Bool.eq_iff_iff]
    simp [eqv_int]
  simp only [inD, e1, e2, s1, s2, e3]
  rfl
theorem notIn_ints {h : Sto} {c : Nat} {ns : List Int} {x : Int} (e : getC h c = .lst (ns.map .int)) : cmpD .notIn (.int x) (.ref c) h = .ok (.bl (!ns.contains x)) h := by
  simp [cmpD, in_ints e]
theorem tru_ref {h : Sto} {c : Nat} {xs : List D} (e : getC h c = .lst xs) : truD h (.ref c) = some (!xs.isEmpty) := by
  simp [truD, seqOf, e]
theorem pop_w {h : Sto} {n : Nat} {xs : List D} {x : D} {P : D → Sto → Prop} (e : getC h n = .lst (xs ++ [x])) : Wp (bmD .pop (.ref n) [] h) P = P x (h.set n (.lst xs)) := by
  simp [bmD, e, wp_ok]
theorem ext_w {h : Sto} {n : Nat} {xs ys : List D} {P : D → Sto → Prop} (e : getC h n = .lst xs) (hl : xs.length + ys.length ≤ 1000000) : Wp (bmD .extend (.ref n) [.lst ys] h) P = P .non (h.set n (.lst (xs ++ ys))) := by
  simp [bmD, e, lstOf, lim_ok hl, wp_if, wp_ok]
/-- pairs whose first is not in Q -/
def outs (ps : List (Int × Int)) (Q : List Int) : Nat := (ps.filter fun p => !Q.contains p.1).length
theorem outs_le (ps : List (Int × Int)) (Q : List Int) : outs ps Q ≤ ps.length := List.length_filter_le _ _
/-- the seconds of the pairs that begin at x -/
def nexts (ps : List (Int × Int)) (x : Int) : List Int := (ps.filter fun p => p.1 == x).map (·.2)
theorem outs_add {Q : List Int} {x : Int} (hx : Q.contains x = false) : ∀ ps : List (Int × Int), outs ps (Q ++ [x]) + (nexts ps x).length = outs ps Q
  | [] => rfl
  | p :: ps => by
    have ih := outs_add hx ps
    unfold outs nexts at ih ⊢
    rw [List.length_map] at ih ⊢
    rw [List.filter_cons, List.filter_cons, List.filter_cons]
    by_cases e : p.1 = x
    · have h1 : (!(Q ++ [x]).contains p.1) = false := by simp [e]
      have h2 : (!Q.contains p.1) = true := by rw [e, hx]; rfl
      have h3 : (p.1 == x) = true := by simp [e]
      rw [h1, h2, h3]
      simp only [Bool.false_eq_true, if_true, if_false, List.length_cons]
      omega
    · have h3 : (p.1 == x) = false := by simp [e]
      have h1 : (!(Q ++ [x]).contains p.1) = (!Q.contains p.1) := by
        congr 1
        rw [Bool.eq_iff_iff]
        simp [e]
      rw [h1, h3]
      cases (!Q.contains p.1) <;> simp only [Bool.false_eq_true, if_true, if_false, List.length_cons] <;> omega
end Cl
/-! text L15 -/
set_option maxHeartbeats 1000007
namespace Cl
open PySem
theorem getC_app2 {h : Sto} {a b : Cell} : getC (h ++ [a, b]) h.length = a ∧ getC (h ++ [a, b]) (h.length + 1) = b := by
  have e : h ++ [a, b] = (h ++ [a]) ++ [b] := by simp
  rw [e]
  refine ⟨(getC_app (by simp)).trans getC_new, ?_⟩
  have := getC_new (h := h ++ [a]) (c := b)
  simpa using this
theorem getC_app3 {h : Sto} {a b : Cell} {m : Nat} (hm : m < h.length) : getC (h ++ [a, b]) m = getC h m := by
  have e : h ++ [a, b] = (h ++ [a]) ++ [b] := by simp
  rw [e]
  exact (getC_app (by simp; omega)).trans (getC_app hm)
theorem w_evT {G : Glv} {c : E} {ρ : Env} {h : Sto} {P : Bool → Sto → Prop} : Wp (evT G c ρ h) P = Wp (tst (evE G c ρ h)) P := rfl
theorem leads_no {k c : Nat} {ps : List (Int × Int)} {f : Int → Nat} {s g : Int} {h : Sto} (hp : getC h c = .lst (ps.map prD)) (hl' : Few ps.length) (hf : ∀ p ∈ ps, f p.1 < f p.2) (hg : f g < f s) :
    Wp (callI TB.tb (k + 1) i_leads_to [.ref c, .int s, .int g] h) fun d h' => d = .bl false ∧ Kp h h' := by
  have big := sz
  have hl := hl'.le
  have hcl : c < h.length := lt_of_getC (by rw [hp]; intro z; cases z)
  rw [c_leads_to]
  simp -implicitDefEqProofs [F_leads_to, w_var, w_lit, w_glo, w_bin, w_neg, w_cmp, w_chain, w_isN, w_notN, w_not, w_and, w_or, w_and1, w_and2, w_or1, w_or2, wp_tst, w_ite, w_tup, w_lst, w_ix, w_slc, w_oN, w_oS, w_fld, wp_shut, w_prop, w_call, w_callK, w_mk, w_mkK, w_mkR, w_bi, w_bm, w_isi, w_rngT, w_comp, w_new, w_frz, w_srt, w_isB, w_nil, w_cons, w_seq, w_rng, w_enm, w_zip, s_asg, s_setIx, s_setFld, s_ret, s_retN, s_if, s_expr, s_brk, s_cnt, s_pass, s_nil, s_cons, s_for, s_whl, wp_ok, wp_bad, wp_bind, wp_opt, wp_optN, wp_if, wp_run, g_call, g_call1, g_deep, g_con, asgT, asgTs, startE, wipeE, lim_ok]
  refine wp_whl (fun m ρ h' => ∃ (Q W : List Int) (x y z : Option D), ρ = [some (.ref c), some (.int s), some (.int g), some (.ref h.length), some (.ref (h.length + 1)), x, y, z] ∧ getC h' h.length = .lst (Q.map .int) ∧ getC h' (h.length + 1) = .lst (W.map .int) ∧ Kp h h' ∧ (∀ x ∈ W, f s ≤ f x) ∧ m = W.length + outs ps Q ∧ Q.length + m ≤ 1 + ps.length) (glv TB.tb k).turns (1 + ps.length) ?_ (show 1 + ps.length < 10000 by omega) ?_
  · refine ⟨[], [s], none, none, none, rfl, ?_, ?_, ⟨by simp, fun m hm => ?_⟩, ?_, ?_, by simp⟩
    · first
        | exact (getC_app2 (h := h)).1
        | exact (getC_app (by simp)).trans getC_new
    · first
        | exact (getC_app2 (h := h)).2
        | (have := getC_new (h := h ++ [Cell.lst []]) (c := .lst [.int s]); simpa using this)
    · first
        | exact getC_app3 hm
        | exact (getC_app (by simp; omega)).trans (getC_app hm)
    · intro x hx
      rw [List.mem_singleton.mp hx]
      exact Nat.le_refl _
    · have e : ps.filter (fun p => !([] : List Int).contains p.1) = ps := List.filter_eq_self.mpr fun p _ => by simp
      unfold outs
      rw [e]
      simp
  · rintro m ρ h' ⟨Q, W, x, y, z, rfl, hQ, hW, hK, hR, hm, hb⟩
    simp -implicitDefEqProofs [w_evT, w_var, w_lit, w_glo, w_bin, w_neg, w_cmp, w_chain, w_isN, w_notN, w_not, w_and, w_or, w_and1, w_and2, w_or1, w_or2, wp_tst, w_ite, w_tup, w_lst, w_ix, w_slc, w_oN, w_oS, w_fld, wp_shut, w_prop, w_call, w_callK, w_mk, w_mkK, w_mkR, w_bi, w_bm, w_isi, w_rngT, w_comp, w_new, w_frz, w_srt, w_isB, w_nil, w_cons, w_seq, w_rng, w_enm, w_zip, s_asg, s_setIx, s_setFld, s_ret, s_retN, s_if, s_expr, s_brk, s_cnt, s_pass, s_nil, s_cons, s_for, s_whl, wp_ok, wp_bad, wp_bind, wp_opt, wp_optN, wp_if, wp_run, g_call, g_call1, g_deep, g_con, asgT, asgTs, startE, wipeE, tru_ref hW]
    rcases List.eq_nil_or_concat W with rfl | ⟨V, w, rfl⟩
    · simp
      exact hK
    · have e0 : (!(V.concat w).isEmpty) = true := by simp
      have hW' : getC h' (h.length + 1) = .lst (V.map .int ++ [.int w]) := by rw [hW]; simp
      have hbl : h.length + 1 < h'.length := lt_of_getC (by rw [hW]; intro z; cases z)
      have hwr : f s ≤ f w := hR w (by simp)
      have hwg : (w == g) = false := by
        simp
        intro e
        rw [e] at hwr
        omega
      rw [e0]
      simp only
      rw [lst_ref hW']
      simp -implicitDefEqProofs [w_var, w_lit, w_glo, w_bin, w_neg, w_cmp, w_chain, w_isN, w_notN, w_not, w_and, w_or, w_and1, w_and2, w_or1, w_or2, wp_tst, w_ite, w_tup, w_lst, w_ix, w_slc, w_oN, w_oS, w_fld, wp_shut, w_prop, w_call, w_callK, w_mk, w_mkK, w_mkR, w_bi, w_bm, w_isi, w_rngT, w_comp, w_new, w_frz, w_srt, w_isB, w_nil, w_cons, w_seq, w_rng, w_enm, w_zip, s_asg, s_setIx, s_setFld, s_ret, s_retN, s_if, s_expr, s_brk, s_cnt, s_pass, s_nil, s_cons, s_for, s_whl, wp_ok, wp_bad, wp_bind, wp_opt, wp_optN, wp_if, wp_run, g_call, g_call1, g_deep, g_con, asgT, asgTs, startE, wipeE]
      rw [pop_w hW']
      simp -implicitDefEqProofs [w_var, w_lit, w_glo, w_bin, w_neg, w_cmp, w_chain, w_isN, w_notN, w_not, w_and, w_or, w_and1, w_and2, w_or1, w_or2, wp_tst, w_ite, w_tup, w_lst, w_ix, w_slc, w_oN, w_oS, w_fld, wp_shut, w_prop, w_call, w_callK, w_mk, w_mkK, w_mkR, w_bi, w_bm, w_isi, w_rngT, w_comp, w_new, w_frz, w_srt, w_isB, w_nil, w_cons, w_seq, w_rng, w_enm, w_zip, s_asg, s_setIx, s_setFld, s_ret, s_retN, s_if, s_expr, s_brk, s_cnt, s_pass, s_nil, s_cons, s_for, s_whl, wp_ok, wp_bad, wp_bind, wp_opt, wp_optN, wp_if, wp_run, g_call, g_call1, g_deep, g_con, asgT, asgTs, startE, wipeE, eq_int, hwg, tru_bl]
      have hQ2 : getC (h'.set (h.length + 1) (.lst (V.map .int))) h.length = .lst (Q.map .int) := (getC_ne (by omega)).trans hQ
      have hV2 : getC (h'.set (h.length + 1) (.lst (V.map .int))) (h.length + 1) = .lst (V.map .int) := getC_set hbl
      have hK2 : Kp h (h'.set (h.length + 1) (.lst (V.map .int))) := ⟨by simp; exact hK.len, fun m l => (getC_ne (by omega)).trans (hK.kp m l)⟩
      have hl2 : (h'.set (h.length + 1) (.lst (V.map D.int))).length = h'.length := by simp
      generalize h'.set (h.length + 1) (.lst (V.map .int)) = h2 at hQ2 hV2 hK2 hl2 ⊢
      rw [notIn_ints hQ2, wp_ok, tru_bl, wp_opt]
      have hRV : ∀ x ∈ V, f s ≤ f x := fun x hx => hR x (by simp [hx])
      rw [List.length_concat] at hm
      cases hc : Q.contains w with
      | true =>
        simp -implicitDefEqProofs [w_var, w_lit, w_glo, w_bin, w_neg, w_cmp, w_chain, w_isN, w_notN, w_not, w_and, w_or, w_and1, w_and2, w_or1, w_or2, wp_tst, w_ite, w_tup, w_lst, w_ix, w_slc, w_oN, w_oS, w_fld, wp_shut, w_prop, w_call, w_callK, w_mk, w_mkK, w_mkR, w_bi, w_bm, w_isi, w_rngT, w_comp, w_new, w_frz, w_srt, w_isB, w_nil, w_cons, w_seq, w_rng, w_enm, w_zip, s_asg, s_setIx, s_setFld, s_ret, s_retN, s_if, s_expr, s_brk, s_cnt, s_pass, s_nil, s_cons, s_for, s_whl, wp_ok, wp_bad, wp_bind, wp_opt, wp_optN, wp_if, wp_run, g_call, g_call1, g_deep, g_con, asgT, asgTs, startE, wipeE]
        exact ⟨V.length + outs ps Q, by omega, Q, hQ2, V, hV2, hK2, hRV, rfl, by omega⟩
      | false =>
        have hsz : (Q.map D.int).length < sizeLine := by
          rw [List.length_map]
          omega
        have hal : h.length < h2.length := by omega
        simp -implicitDefEqProofs [w_var, w_lit, w_glo, w_bin, w_neg, w_cmp, w_chain, w_isN, w_notN, w_not, w_and, w_or, w_and1, w_and2, w_or1, w_or2, wp_tst, w_ite, w_tup, w_lst, w_ix, w_slc, w_oN, w_oS, w_fld, wp_shut, w_prop, w_call, w_callK, w_mk, w_mkK, w_mkR, w_bi, w_bm, w_isi, w_rngT, w_comp, w_new, w_frz, w_srt, w_isB, w_nil, w_cons, w_seq, w_rng, w_enm, w_zip, s_asg, s_setIx, s_setFld, s_ret, s_retN, s_if, s_expr, s_brk, s_cnt, s_pass, s_nil, s_cons, s_for, s_whl, wp_ok, wp_bad, wp_bind, wp_opt, wp_optN, wp_if, wp_run, g_call, g_call1, g_deep, g_con, asgT, asgTs, startE, wipeE, lst_ref hQ2, app_w hQ2 hsz]
        have hQ3 : getC (h2.set h.length (.lst (Q.map D.int ++ [.int w]))) h.length = .lst ((Q ++ [w]).map .int) := by
          rw [getC_set hal]
          simp
        have hV3 : getC (h2.set h.length (.lst (Q.map D.int ++ [.int w]))) (h.length + 1) = .lst (V.map .int) := (getC_ne (by omega)).trans hV2
        have hK3 : Kp h (h2.set h.length (.lst (Q.map D.int ++ [.int w]))) := ⟨by simp; exact hK2.len, fun m l => (getC_ne (by omega)).trans (hK2.kp m l)⟩
        have hl3 : (h2.set h.length (.lst (Q.map D.int ++ [.int w]))).length = h2.length := by simp
        generalize h2.set h.length (.lst (Q.map D.int ++ [.int w])) = h3 at hQ3 hV3 hK3 hl3 ⊢
        have hp3 : getC h3 c = .lst (ps.map prD) := (hK3.kp c hcl).trans hp
        have hc3 : c < h3.length := by omega
        have it3 : itD h3 (.ref c) = some (ps.map prD, some c) := by simp [itD, hp3]
        simp -implicitDefEqProofs [w_var, w_lit, w_glo, w_bin, w_neg, w_cmp, w_chain, w_isN, w_notN, w_not, w_and, w_or, w_and1, w_and2, w_or1, w_or2, wp_tst, w_ite, w_tup, w_lst, w_ix, w_slc, w_oN, w_oS, w_fld, wp_shut, w_prop, w_call, w_callK, w_mk, w_mkK, w_mkR, w_bi, w_bm, w_isi, w_rngT, w_comp, w_new, w_frz, w_srt, w_isB, w_nil, w_cons, w_seq, w_rng, w_enm, w_zip, s_asg, s_setIx, s_setFld, s_ret, s_retN, s_if, s_expr, s_brk, s_cnt, s_pass, s_nil, s_cons, s_for, s_whl, wp_ok, wp_bad, wp_bind, wp_opt, wp_optN, wp_if, wp_run, g_call, g_call1, g_deep, g_con, asgT, asgTs, startE, wipeE, lst_ref hV3, it3, lockN, hp3]
        have hlk : getC (h3.set c (.lck (ps.map prD))) c = .lck (ps.map prD) := getC_set hc3
        refine wp_compL (fun i acc h' => acc = (nexts (ps.take i) w).map .int ∧ h' = h3.set c (.lck (ps.map prD))) 0 ⟨rfl, rfl⟩ ?_ ?_
        · rintro i d acc h' hd ⟨rfl, rfl⟩
          rw [List.getElem?_map] at hd
          cases hpi : ps[i]? with
          | none => rw [hpi] at hd; cases hd
          | some p =>
            rw [hpi] at hd
            cases hd
            have hi : i < ps.length := (List.getElem?_eq_some_iff.mp hpi).1
            have hnx : nexts (ps.take (0 + i + 1)) w = nexts (ps.take (0 + i)) w ++ (if p.1 == w then [p.2] else []) := by
              unfold nexts
              rw [Nat.zero_add, List.take_add_one, hpi]
              rw [List.filter_append, List.map_append]
              congr 1
              cases hpw : p.1 == w <;> simp [hpw]
            have hln : (nexts (ps.take (0 + i)) w).length ≤ ps.length := by
              unfold nexts
              rw [List.length_map]
              refine Nat.le_trans (List.length_filter_le _ _) ?_
              rw [List.length_take]
              omega
            rw [hnx]
            unfold compF prD
            simp -implicitDefEqProofs [w_var, w_lit, w_glo, w_bin, w_neg, w_cmp, w_chain, w_isN, w_notN, w_not, w_and, w_or, w_and1, w_and2, w_or1, w_or2, wp_tst, w_ite, w_tup, w_lst, w_ix, w_slc, w_oN, w_oS, w_fld, wp_shut, w_prop, w_call, w_callK, w_mk, w_mkK, w_mkR, w_bi, w_bm, w_isi, w_rngT, w_comp, w_new, w_frz, w_srt, w_isB, w_nil, w_cons, w_seq, w_rng, w_enm, w_zip, s_asg, s_setIx, s_setFld, s_ret, s_retN, s_if, s_expr, s_brk, s_cnt, s_pass, s_nil, s_cons, s_for, s_whl, wp_ok, wp_bad, wp_bind, wp_opt, wp_optN, wp_if, wp_run, g_call, g_call1, g_deep, g_con, asgT, asgTs, startE, wipeE, eq_int, tru_bl]
            cases hpw : p.1 == w with
            | true =>
              have hpw' : p.1 = w := eq_of_beq hpw
              rw [Nat.zero_add] at hln
              simp -implicitDefEqProofs [w_var, w_lit, w_glo, w_bin, w_neg, w_cmp, w_chain, w_isN, w_notN, w_not, w_and, w_or, w_and1, w_and2, w_or1, w_or2, wp_tst, w_ite, w_tup, w_lst, w_ix, w_slc, w_oN, w_oS, w_fld, wp_shut, w_prop, w_call, w_callK, w_mk, w_mkK, w_mkR, w_bi, w_bm, w_isi, w_rngT, w_comp, w_new, w_frz, w_srt, w_isB, w_nil, w_cons, w_seq, w_rng, w_enm, w_zip, s_asg, s_setIx, s_setFld, s_ret, s_retN, s_if, s_expr, s_brk, s_cnt, s_pass, s_nil, s_cons, s_for, s_whl, wp_ok, wp_bad, wp_bind, wp_opt, wp_optN, wp_if, wp_run, g_call, g_call1, g_deep, g_con, asgT, asgTs, startE, wipeE, hpw']
              omega
            | false =>
              have hpw' : ¬ p.1 = w := by simpa using hpw
              simp -implicitDefEqProofs [w_var, w_lit, w_glo, w_bin, w_neg, w_cmp, w_chain, w_isN, w_notN, w_not, w_and, w_or, w_and1, w_and2, w_or1, w_or2, wp_tst, w_ite, w_tup, w_lst, w_ix, w_slc, w_oN, w_oS, w_fld, wp_shut, w_prop, w_call, w_callK, w_mk, w_mkK, w_mkR, w_bi, w_bm, w_isi, w_rngT, w_comp, w_new, w_frz, w_srt, w_isB, w_nil, w_cons, w_seq, w_rng, w_enm, w_zip, s_asg, s_setIx, s_setFld, s_ret, s_retN, s_if, s_expr, s_brk, s_cnt, s_pass, s_nil, s_cons, s_for, s_whl, wp_ok, wp_bad, wp_bind, wp_opt, wp_optN, wp_if, wp_run, g_call, g_call1, g_deep, g_con, asgT, asgTs, startE, wipeE, hpw']
        · rintro acc h' ⟨rfl, rfl⟩
          have hn : nexts (ps.take (0 + (ps.map prD).length)) w = nexts ps w := by
            rw [List.length_map, Nat.zero_add, List.take_length]
          rw [hn]
          simp only [freeN, hlk]
          have hV4 : getC ((h3.set c (.lck (ps.map prD))).set c (.lst (ps.map prD))) (h.length + 1) = .lst (V.map .int) := by
            rw [getC_ne (by omega), getC_ne (by omega)]
            exact hV3
          have ho := outs_add hc ps
          have hb4 : h.length + 1 < ((h3.set c (.lck (ps.map prD))).set c (.lst (ps.map prD))).length := by
            simp
            omega
          rw [ext_w hV4 (by simp; omega)]
          refine ⟨(V ++ nexts ps w).length + outs ps (Q ++ [w]), by rw [List.length_append]; omega, Q ++ [w], ?_, V ++ nexts ps w, ?_, ⟨by simp; exact hK3.len, fun m l => ?_⟩, ?_, rfl, by simp; omega⟩
          · rw [getC_ne (by omega), getC_ne (by omega), getC_ne (by omega)]
            exact hQ3
          · rw [getC_set hb4]
            simp
          · rw [getC_ne (by omega)]
            by_cases hmc : c = m
            · subst hmc
              rw [getC_set (by simp; exact hc3), hp]
            · rw [getC_ne hmc, getC_ne hmc]
              exact hK3.kp m l
          · intro x hx
            rcases List.mem_append.mp hx with hx | hx
            · exact hRV x hx
            · unfold nexts at hx
              obtain ⟨p, hpm, rfl⟩ := List.mem_map.mp hx
              obtain ⟨q1, q2⟩ := List.mem_filter.mp hpm
              have := hf p q1
              rw [eq_of_beq q2] at this
              omega
end Cl
/-! text L16 -/
set_option maxHeartbeats 1000007
namespace Cl
open PySem
/-- a pair, as a tuple or a list -/
def prS (b : Bool) (p : Int × Int) : D := sqV b [.int p.1, .int p.2]
theorem not_take {α : Type} [BEq α] [LawfulBEq α] {ps : List α} {i : Nat} {p : α} (hN : ps.Nodup) (hp : ps[i]? = some p) : (ps.take i).contains p = false := by
  obtain ⟨hi, e⟩ := List.getElem?_eq_some_iff.mp hp
  cases hc : (ps.take i).contains p with
  | false => rfl
  | true =>
    obtain ⟨j, hj, e2⟩ := List.mem_take_iff_getElem.mp (List.contains_iff_mem.mp hc)
    have := (List.getElem_inj hN).mp (e2.trans e.symm)
    omega
theorem below_pr {k : Nat} {h : Sto} {b : Bool} {p : Int × Int} {count : Nat} (h1 : 0 ≤ p.1 ∧ p.1 < count) (h2 : 0 ≤ p.2 ∧ p.2 < count) : Wp (callI TB.tb (k + 3) i_are_below [sqV b [.int p.1, .int p.2], .int count] h) fun d h' => d = .bl true ∧ h' = h :=
  below_ok (ns := [p.1, p.2]) ⟨by simp⟩ (fun x hx => by
    rcases List.mem_cons.mp hx with rfl | hx
    · exact h1
    · rw [List.mem_singleton.mp hx]
      exact h2)
theorem order_ok {k : Nat} {h : Sto} {b b' : Bool} {ps : List (Int × Int)} {count : Nat} (hO : Ord count ps) (hl' : Few ps.length) :
    Wp (callI TB.tb (k + 4) i_order_with_tuples [sqV b (ps.map (prS b')), .int count] h) fun d h' => d = .tup (ps.map prD) ∧ Kp h h' := by
  obtain ⟨⟨f, _, hf⟩, hN⟩ := hO
  have big := sz
  have hl := hl'.le
  rw [c_order_with_tuples]
  simp -implicitDefEqProofs [F_order_with_tuples, w_var, w_lit, w_glo, w_bin, w_neg, w_cmp, w_chain, w_isN, w_notN, w_not, w_and, w_or, w_and1, w_and2, w_or1, w_or2, wp_tst, w_ite, w_tup, w_lst, w_ix, w_slc, w_oN, w_oS, w_fld, wp_shut, w_prop, w_call, w_callK, w_mk, w_mkK, w_mkR, w_bi, w_bm, w_isi, w_rngT, w_comp, w_new, w_frz, w_srt, w_isB, w_nil, w_cons, w_seq, w_rng, w_enm, w_zip, s_asg, s_setIx, s_setFld, s_ret, s_retN, s_if, s_expr, s_brk, s_cnt, s_pass, s_nil, s_cons, s_for, s_whl, wp_ok, wp_bad, wp_bind, wp_opt, wp_optN, wp_if, wp_run, g_call, g_call1, g_deep, g_con, asgT, asgTs, startE, wipeE, lim_ok, it_sq, lockN, freeN]
  refine wp_forL (fun i ρ h' => ∃ (x y z : Option D), ρ = [some (sqV b (ps.map (prS b'))), some (.int count), some (.ref h.length), x, y, z] ∧ getC h' h.length = .lst ((ps.take i).map prD) ∧ Kp h h') 0 ⟨none, none, none, rfl, by simp [getC_new], ⟨by simp, fun m hm => getC_app hm⟩⟩ ?_ ?_
  · rintro i d ρ h' hd ⟨x, y, z, rfl, hM, hK⟩
    obtain ⟨v, hv, rfl⟩ := enumL_get hd
    rw [List.getElem?_map] at hv
    cases hpi : ps[i]? with
    | none => rw [hpi] at hv; cases hv
    | some p =>
      rw [hpi] at hv
      cases hv
      have hi : i < ps.length := (List.getElem?_eq_some_iff.mp hpi).1
      obtain ⟨q1, q2, q3, q4, q5⟩ := hf p (List.mem_of_getElem? hpi)
      have hne : (p.1 == p.2) = false := by
        simp
        intro e
        rw [e] at q5
        omega
      rw [Nat.zero_add] at hM
      have hnc := not_take hN hpi
      have hcl : h.length < h'.length := lt_of_getC (by rw [hM]; intro z; cases z)
      unfold forF prS
      simp -implicitDefEqProofs [w_var, w_lit, w_glo, w_bin, w_neg, w_cmp, w_chain, w_isN, w_notN, w_not, w_and, w_or, w_and1, w_and2, w_or1, w_or2, wp_tst, w_ite, w_tup, w_lst, w_ix, w_slc, w_oN, w_oS, w_fld, wp_shut, w_prop, w_call, w_callK, w_mk, w_mkK, w_mkR, w_bi, w_bm, w_isi, w_rngT, w_comp, w_new, w_frz, w_srt, w_isB, w_nil, w_cons, w_seq, w_rng, w_enm, w_zip, s_asg, s_setIx, s_setFld, s_ret, s_retN, s_if, s_expr, s_brk, s_cnt, s_pass, s_nil, s_cons, s_for, s_whl, wp_ok, wp_bad, wp_bind, wp_opt, wp_optN, wp_if, wp_run, g_call, g_call1, g_deep, g_con, asgT, asgTs, startE, wipeE, is_seq_of]
      refine (below_pr (b := b') ⟨q1, q2⟩ ⟨q3, q4⟩).imp fun d h1 ⟨e1, e2⟩ => ?_
      subst e1
      subst e2
      simp -implicitDefEqProofs [w_var, w_lit, w_glo, w_bin, w_neg, w_cmp, w_chain, w_isN, w_notN, w_not, w_and, w_or, w_and1, w_and2, w_or1, w_or2, wp_tst, w_ite, w_tup, w_lst, w_ix, w_slc, w_oN, w_oS, w_fld, wp_shut, w_prop, w_call, w_callK, w_mk, w_mkK, w_mkR, w_bi, w_bm, w_isi, w_rngT, w_comp, w_new, w_frz, w_srt, w_isB, w_nil, w_cons, w_seq, w_rng, w_enm, w_zip, s_asg, s_setIx, s_setFld, s_ret, s_retN, s_if, s_expr, s_brk, s_cnt, s_pass, s_nil, s_cons, s_for, s_whl, wp_ok, wp_bad, wp_bind, wp_opt, wp_optN, wp_if, wp_run, g_call, g_call1, g_deep, g_con, asgT, asgTs, startE, wipeE, ix_sq, atI0, at1, eq_int, hne, tru_bl, lim_ok]
      have iI := isIn_prs (p := p) hM
      rw [hnc] at iI
      simp only [prD] at iI
      rw [iI, wp_ok]
      simp -implicitDefEqProofs [w_var, w_lit, w_glo, w_bin, w_neg, w_cmp, w_chain, w_isN, w_notN, w_not, w_and, w_or, w_and1, w_and2, w_or1, w_or2, wp_tst, w_ite, w_tup, w_lst, w_ix, w_slc, w_oN, w_oS, w_fld, wp_shut, w_prop, w_call, w_callK, w_mk, w_mkK, w_mkR, w_bi, w_bm, w_isi, w_rngT, w_comp, w_new, w_frz, w_srt, w_isB, w_nil, w_cons, w_seq, w_rng, w_enm, w_zip, s_asg, s_setIx, s_setFld, s_ret, s_retN, s_if, s_expr, s_brk, s_cnt, s_pass, s_nil, s_cons, s_for, s_whl, wp_ok, wp_bad, wp_bind, wp_opt, wp_optN, wp_if, wp_run, g_call, g_call1, g_deep, g_con, asgT, asgTs, startE, wipeE, ix_tup, atI0, at1]
      refine (leads_no (f := f) (ps := ps.take i) (c := h.length) (h := h1) hM ⟨by rw [List.length_take]; omega⟩ (fun q hq => (hf q (List.mem_of_mem_take hq)).2.2.2.2) q5).imp fun d h2 ⟨e3, hK2⟩ => ?_
      subst e3
      have hM2 : getC h2 h.length = .lst ((ps.take i).map prD) := (hK2.kp _ hcl).trans hM
      have hc2 : h.length < h2.length := Nat.lt_of_lt_of_le hcl hK2.len
      have hsz : ((ps.take i).map prD).length < sizeLine := by
        rw [List.length_map, List.length_take]
        omega
      simp -implicitDefEqProofs [w_var, w_lit, w_glo, w_bin, w_neg, w_cmp, w_chain, w_isN, w_notN, w_not, w_and, w_or, w_and1, w_and2, w_or1, w_or2, wp_tst, w_ite, w_tup, w_lst, w_ix, w_slc, w_oN, w_oS, w_fld, wp_shut, w_prop, w_call, w_callK, w_mk, w_mkK, w_mkR, w_bi, w_bm, w_isi, w_rngT, w_comp, w_new, w_frz, w_srt, w_isB, w_nil, w_cons, w_seq, w_rng, w_enm, w_zip, s_asg, s_setIx, s_setFld, s_ret, s_retN, s_if, s_expr, s_brk, s_cnt, s_pass, s_nil, s_cons, s_for, s_whl, wp_ok, wp_bad, wp_bind, wp_opt, wp_optN, wp_if, wp_run, g_call, g_call1, g_deep, g_con, asgT, asgTs, startE, wipeE, tru_bl, lst_ref hM2, app_w hM2 hsz]
      have hK3 := hK.trans hK2
      refine ⟨?_, ⟨by simp; exact hK3.len, fun m l => (getC_ne (by omega)).trans (hK3.kp m l)⟩⟩
      have ht : ps.take (i + 1) = ps.take i ++ [p] := by
        rw [List.take_add_one, hpi]
        rfl
      rw [getC_set hc2]
      simp only [← List.map_take, ht, List.map_append]
      rfl
  · rintro ρ h' ⟨x, y, z, rfl, hM, hK⟩
    rw [enumL_length, List.length_map, Nat.zero_add, List.take_length] at hM
    simp -implicitDefEqProofs [w_var, w_lit, w_glo, w_bin, w_neg, w_cmp, w_chain, w_isN, w_notN, w_not, w_and, w_or, w_and1, w_and2, w_or1, w_or2, wp_tst, w_ite, w_tup, w_lst, w_ix, w_slc, w_oN, w_oS, w_fld, wp_shut, w_prop, w_call, w_callK, w_mk, w_mkK, w_mkR, w_bi, w_bm, w_isi, w_rngT, w_comp, w_new, w_frz, w_srt, w_isB, w_nil, w_cons, w_seq, w_rng, w_enm, w_zip, s_asg, s_setIx, s_setFld, s_ret, s_retN, s_if, s_expr, s_brk, s_cnt, s_pass, s_nil, s_cons, s_for, s_whl, wp_ok, wp_bad, wp_bind, wp_opt, wp_optN, wp_if, wp_run, g_call, g_call1, g_deep, g_con, asgT, asgTs, startE, wipeE, tuple_ref hM]
    exact hK
end Cl
/-! text L17 -/
set_option maxHeartbeats 1000007
namespace Cl
open PySem
section
variable {k : Nat} {h : Sto}
theorem frozen_int {i : Int} : Wp (callI TB.tb (k + 2) i_frozen [.int i] h) fun x h' => x = .int i ∧ h' = h := by
  rw [c_frozen]
  simp -implicitDefEqProofs [F_frozen, w_var, w_lit, w_glo, w_bin, w_neg, w_cmp, w_chain, w_isN, w_notN, w_not, w_and, w_or, w_and1, w_and2, w_or1, w_or2, wp_tst, w_ite, w_tup, w_lst, w_ix, w_slc, w_oN, w_oS, w_fld, wp_shut, w_prop, w_call, w_callK, w_mk, w_mkK, w_mkR, w_bi, w_bm, w_isi, w_rngT, w_comp, w_new, w_frz, w_srt, w_isB, w_nil, w_cons, w_seq, w_rng, w_enm, w_zip, s_asg, s_setIx, s_setFld, s_ret, s_retN, s_if, s_expr, s_brk, s_cnt, s_pass, s_nil, s_cons, s_for, s_whl, wp_ok, wp_bad, wp_bind, wp_opt, wp_optN, wp_if, wp_run, g_call, g_call1, g_deep, g_con, asgT, asgTs, startE, wipeE, is_sequence_int, tru_bl]
theorem frozen_map {α : Type} {b : Bool} {g f : α → D} {xs : List α} (hs : xs.length ≤ 1000) (hf : ∀ x ∈ xs, ∀ h1, Wp (callI TB.tb (k + 1) i_frozen [g x] h1) fun y h' => y = f x ∧ h' = h1) :
    Wp (callI TB.tb (k + 2) i_frozen [sqV b (xs.map g)] h) fun y h' => y = .tup (xs.map f) ∧ h' = h := by
  have big := sz
  rw [c_frozen]
  simp -implicitDefEqProofs [F_frozen, w_var, w_lit, w_glo, w_bin, w_neg, w_cmp, w_chain, w_isN, w_notN, w_not, w_and, w_or, w_and1, w_and2, w_or1, w_or2, wp_tst, w_ite, w_tup, w_lst, w_ix, w_slc, w_oN, w_oS, w_fld, wp_shut, w_prop, w_call, w_callK, w_mk, w_mkK, w_mkR, w_bi, w_bm, w_isi, w_rngT, w_comp, w_new, w_frz, w_srt, w_isB, w_nil, w_cons, w_seq, w_rng, w_enm, w_zip, s_asg, s_setIx, s_setFld, s_ret, s_retN, s_if, s_expr, s_brk, s_cnt, s_pass, s_nil, s_cons, s_for, s_whl, wp_ok, wp_bad, wp_bind, wp_opt, wp_optN, wp_if, wp_run, g_call, g_call1, g_deep, g_con, asgT, asgTs, startE, wipeE, is_seq_sq, tru_bl, it_sq, lockN, freeN]
  refine comp_map (ys := xs.map f) (by simp) (by simp; omega) (fun i x y e1 e2 => ?_) ?_
  · rw [List.getElem?_map] at e1 e2
    cases hx : xs[i]? with
    | none => rw [hx] at e1; cases e1
    | some v =>
      rw [hx] at e1 e2
      cases e1
      cases e2
      unfold compF
      simp -implicitDefEqProofs [w_var, w_lit, w_glo, w_bin, w_neg, w_cmp, w_chain, w_isN, w_notN, w_not, w_and, w_or, w_and1, w_and2, w_or1, w_or2, wp_tst, w_ite, w_tup, w_lst, w_ix, w_slc, w_oN, w_oS, w_fld, wp_shut, w_prop, w_call, w_callK, w_mk, w_mkK, w_mkR, w_bi, w_bm, w_isi, w_rngT, w_comp, w_new, w_frz, w_srt, w_isB, w_nil, w_cons, w_seq, w_rng, w_enm, w_zip, s_asg, s_setIx, s_setFld, s_ret, s_retN, s_if, s_expr, s_brk, s_cnt, s_pass, s_nil, s_cons, s_for, s_whl, wp_ok, wp_bad, wp_bind, wp_opt, wp_optN, wp_if, wp_run, g_call, g_call1, g_deep, g_con, asgT, asgTs, startE, wipeE]
      exact hf v (List.mem_of_getElem? hx) h
  · rw [List.nil_append, tuple_lst, wp_ok]
    exact ⟨rfl, rfl⟩
theorem frozen_ints {b : Bool} {ns : List Int} (hs : ns.length ≤ 1000) : Wp (callI TB.tb (k + 3) i_frozen [sqV b (ns.map .int)] h) fun y h' => y = .tup (ns.map .int) ∧ h' = h :=
  frozen_map hs fun x _ h1 => frozen_int
theorem frozen_pr {b : Bool} {p : Int × Int} : Wp (callI TB.tb (k + 3) i_frozen [prS b p] h) fun y h' => y = prD p ∧ h' = h :=
  frozen_ints (ns := [p.1, p.2]) (by simp)
theorem frozen_prs {b b' : Bool} {ps : List (Int × Int)} (hs : ps.length ≤ 1000) : Wp (callI TB.tb (k + 4) i_frozen [sqV b (ps.map (prS b'))] h) fun y h' => y = .tup (ps.map prD) ∧ h' = h :=
  frozen_map hs fun x _ h1 => frozen_pr
/-- models -/
def kindS (b : Bool) (ks : List Int) : D := sqV b (ks.map .int)
theorem frozen_kinds {b b' : Bool} {kk : List (List Int)} (hs : kk.length ≤ 1000) (hk : ∀ ks ∈ kk, ks.length ≤ 1000) : Wp (callI TB.tb (k + 4) i_frozen [sqV b (kk.map (kindS b'))] h) fun y h' => y = .tup (kk.map kindD) ∧ h' = h :=
  frozen_map hs fun x hx h1 => frozen_ints (hk x hx)
/-- states -/
def arcS (b b' : Bool) (as : List (Int × Int)) : D := sqV b (as.map (prS b'))
theorem frozen_states {b b' b'' : Bool} {ss : List (List (Int × Int))} (hs : ss.length ≤ 1000) (hk : ∀ as ∈ ss, as.length ≤ 1000) : Wp (callI TB.tb (k + 5) i_frozen [sqV b (ss.map (arcS b' b''))] h) fun y h' => y = .tup (ss.map arcD) ∧ h' = h :=
  frozen_map hs fun x hx h1 => frozen_prs (hk x hx)
theorem tasks_ok {b b' : Bool} {js : List (Int × Int)} (hl' : Few js.length) (hj : ∀ j ∈ js, 0 ≤ j.1 ∧ j.1 ≤ j.2 ∧ j.2 ≤ 10000) :
    Wp (callI TB.tb (k + 5) i_tasks_with_tuples [sqV b (js.map (prS b'))] h) fun d h' => d = .tup (js.map prD) ∧ h' = h := by
  have hl := hl'.le
  rw [c_tasks_with_tuples]
  simp -implicitDefEqProofs [F_tasks_with_tuples, w_var, w_lit, w_glo, w_bin, w_neg, w_cmp, w_chain, w_isN, w_notN, w_not, w_and, w_or, w_and1, w_and2, w_or1, w_or2, wp_tst, w_ite, w_tup, w_lst, w_ix, w_slc, w_oN, w_oS, w_fld, wp_shut, w_prop, w_call, w_callK, w_mk, w_mkK, w_mkR, w_bi, w_bm, w_isi, w_rngT, w_comp, w_new, w_frz, w_srt, w_isB, w_nil, w_cons, w_seq, w_rng, w_enm, w_zip, s_asg, s_setIx, s_setFld, s_ret, s_retN, s_if, s_expr, s_brk, s_cnt, s_pass, s_nil, s_cons, s_for, s_whl, wp_ok, wp_bad, wp_bind, wp_opt, wp_optN, wp_if, wp_run, g_call, g_call1, g_deep, g_con, asgT, asgTs, startE, wipeE, it_sq, lockN, freeN]
  refine wp_forL (fun i ρ h' => ∃ (x y : Option D), ρ = [some (sqV b (js.map (prS b'))), x, y] ∧ h' = h) 0 ⟨none, none, rfl, rfl⟩ ?_ ?_
  · rintro i d ρ h' hd ⟨x, y, rfl, rfl⟩
    obtain ⟨v, hv, rfl⟩ := enumL_get hd
    rw [List.getElem?_map] at hv
    cases hpi : js[i]? with
    | none => rw [hpi] at hv; cases hv
    | some p =>
      rw [hpi] at hv
      cases hv
      obtain ⟨q1, q2, q3⟩ := hj p (List.mem_of_getElem? hpi)
      unfold forF prS
      simp -implicitDefEqProofs [w_var, w_lit, w_glo, w_bin, w_neg, w_cmp, w_chain, w_isN, w_notN, w_not, w_and, w_or, w_and1, w_and2, w_or1, w_or2, wp_tst, w_ite, w_tup, w_lst, w_ix, w_slc, w_oN, w_oS, w_fld, wp_shut, w_prop, w_call, w_callK, w_mk, w_mkK, w_mkR, w_bi, w_bm, w_isi, w_rngT, w_comp, w_new, w_frz, w_srt, w_isB, w_nil, w_cons, w_seq, w_rng, w_enm, w_zip, s_asg, s_setIx, s_setFld, s_ret, s_retN, s_if, s_expr, s_brk, s_cnt, s_pass, s_nil, s_cons, s_for, s_whl, wp_ok, wp_bad, wp_bind, wp_opt, wp_optN, wp_if, wp_run, g_call, g_call1, g_deep, g_con, asgT, asgTs, startE, wipeE, is_task_ok q1 q2 q3, tru_bl]
  · rintro ρ h' ⟨x, y, rfl, rfl⟩
    simp -implicitDefEqProofs [w_var, w_lit, w_glo, w_bin, w_neg, w_cmp, w_chain, w_isN, w_notN, w_not, w_and, w_or, w_and1, w_and2, w_or1, w_or2, wp_tst, w_ite, w_tup, w_lst, w_ix, w_slc, w_oN, w_oS, w_fld, wp_shut, w_prop, w_call, w_callK, w_mk, w_mkK, w_mkR, w_bi, w_bm, w_isi, w_rngT, w_comp, w_new, w_frz, w_srt, w_isB, w_nil, w_cons, w_seq, w_rng, w_enm, w_zip, s_asg, s_setIx, s_setFld, s_ret, s_retN, s_if, s_expr, s_brk, s_cnt, s_pass, s_nil, s_cons, s_for, s_whl, wp_ok, wp_bad, wp_bind, wp_opt, wp_optN, wp_if, wp_run, g_call, g_call1, g_deep, g_con, asgT, asgTs, startE, wipeE]
    exact frozen_prs hl
theorem is_filled_sq {b : Bool} {xs : List D} {P : D → Sto → Prop} : Wp (callI TB.tb (k + 2) i_is_filled [sqV b xs] h) P = P (.bl (decide (0 < (xs.length : Int)))) h := by
  rw [c_is_filled]
  simp -implicitDefEqProofs [F_is_filled, w_var, w_lit, w_glo, w_bin, w_neg, w_cmp, w_chain, w_isN, w_notN, w_not, w_and, w_or, w_and1, w_and2, w_or1, w_or2, wp_tst, w_ite, w_tup, w_lst, w_ix, w_slc, w_oN, w_oS, w_fld, wp_shut, w_prop, w_call, w_callK, w_mk, w_mkK, w_mkR, w_bi, w_bm, w_isi, w_rngT, w_comp, w_new, w_frz, w_srt, w_isB, w_nil, w_cons, w_seq, w_rng, w_enm, w_zip, s_asg, s_setIx, s_setFld, s_ret, s_retN, s_if, s_expr, s_brk, s_cnt, s_pass, s_nil, s_cons, s_for, s_whl, wp_ok, wp_bad, wp_bind, wp_opt, wp_optN, wp_if, wp_run, g_call, g_call1, g_deep, g_con, asgT, asgTs, startE, wipeE, is_seq_sq, len_sq, gt_int]
theorem is_state_ok {b b' : Bool} {as : List (Int × Int)} {models states : Nat} (hA : Arcs models states 40 as) :
    Wp (callI TB.tb (k + 3) i_is_state [arcS b b' as, .int models, .int states] h) fun d h' => d = .bl true ∧ Kp h h' := by
  obtain ⟨hR, hN, hlo, hhi⟩ := hA
  have big := sz
  have c := con_MOST_ARCS
  simp only [Cv.d] at c
  unfold arcS
  rw [c_is_state]
  simp -implicitDefEqProofs [F_is_state, w_var, w_lit, w_glo, w_bin, w_neg, w_cmp, w_chain, w_isN, w_notN, w_not, w_and, w_or, w_and1, w_and2, w_or1, w_or2, wp_tst, w_ite, w_tup, w_lst, w_ix, w_slc, w_oN, w_oS, w_fld, wp_shut, w_prop, w_call, w_callK, w_mk, w_mkK, w_mkR, w_bi, w_bm, w_isi, w_rngT, w_comp, w_new, w_frz, w_srt, w_isB, w_nil, w_cons, w_seq, w_rng, w_enm, w_zip, s_asg, s_setIx, s_setFld, s_ret, s_retN, s_if, s_expr, s_brk, s_cnt, s_pass, s_nil, s_cons, s_for, s_whl, wp_ok, wp_bad, wp_bind, wp_opt, wp_optN, wp_if, wp_run, g_call, g_call1, g_deep, g_con, asgT, asgTs, startE, wipeE, is_seq_sq, len_sq, le_int, c, tru_bl, show (1 : Int) ≤ as.length by omega, show (as.length : Int) ≤ 40 by omega, lim_ok, it_sq, lockN, freeN]
  refine wp_forL (fun i ρ h' => ∃ (x : Option D), ρ = [some (sqV b (as.map (prS b'))), some (.int models), some (.int states), some (.ref h.length), x] ∧ getC h' h.length = .lst ((as.take i).map prD) ∧ Kp h h') 0 ⟨none, rfl, by simp [getC_new], ⟨by simp, fun m hm => getC_app hm⟩⟩ ?_ ?_
  · rintro i d ρ h' hv ⟨x, rfl, hM, hK⟩
    rw [List.getElem?_map] at hv
    cases hpi : as[i]? with
    | none => rw [hpi] at hv; cases hv
    | some p =>
      rw [hpi] at hv
      cases hv
      have hi : i < as.length := (List.getElem?_eq_some_iff.mp hpi).1
      obtain ⟨q1, q2, q3, q4⟩ := hR p (List.mem_of_getElem? hpi)
      rw [Nat.zero_add] at hM
      have hnc := not_take hN hpi
      have hcl : h.length < h'.length := lt_of_getC (by rw [hM]; intro z; cases z)
      unfold forF prS
      simp -implicitDefEqProofs [w_var, w_lit, w_glo, w_bin, w_neg, w_cmp, w_chain, w_isN, w_notN, w_not, w_and, w_or, w_and1, w_and2, w_or1, w_or2, wp_tst, w_ite, w_tup, w_lst, w_ix, w_slc, w_oN, w_oS, w_fld, wp_shut, w_prop, w_call, w_callK, w_mk, w_mkK, w_mkR, w_bi, w_bm, w_isi, w_rngT, w_comp, w_new, w_frz, w_srt, w_isB, w_nil, w_cons, w_seq, w_rng, w_enm, w_zip, s_asg, s_setIx, s_setFld, s_ret, s_retN, s_if, s_expr, s_brk, s_cnt, s_pass, s_nil, s_cons, s_for, s_whl, wp_ok, wp_bad, wp_bind, wp_opt, wp_optN, wp_if, wp_run, g_call, g_call1, g_deep, g_con, asgT, asgTs, startE, wipeE, is_seq_of, ix_sq, atI0, at1, sub_int, is_integer_in_int, q1, q3, show p.1 ≤ (models : Int) - 1 by omega, show p.2 ≤ (states : Int) - 1 by omega, tru_bl, lim_ok]
      have iI := isIn_prs (p := p) hM
      rw [hnc] at iI
      simp only [prD] at iI
      rw [iI, wp_ok]
      have hsz : ((as.take i).map prD).length < sizeLine := by
        rw [List.length_map, List.length_take]
        omega
      simp -implicitDefEqProofs [w_var, w_lit, w_glo, w_bin, w_neg, w_cmp, w_chain, w_isN, w_notN, w_not, w_and, w_or, w_and1, w_and2, w_or1, w_or2, wp_tst, w_ite, w_tup, w_lst, w_ix, w_slc, w_oN, w_oS, w_fld, wp_shut, w_prop, w_call, w_callK, w_mk, w_mkK, w_mkR, w_bi, w_bm, w_isi, w_rngT, w_comp, w_new, w_frz, w_srt, w_isB, w_nil, w_cons, w_seq, w_rng, w_enm, w_zip, s_asg, s_setIx, s_setFld, s_ret, s_retN, s_if, s_expr, s_brk, s_cnt, s_pass, s_nil, s_cons, s_for, s_whl, wp_ok, wp_bad, wp_bind, wp_opt, wp_optN, wp_if, wp_run, g_call, g_call1, g_deep, g_con, asgT, asgTs, startE, wipeE, tru_bl, lst_ref hM, ix_sq, atI0, at1, lim_ok, app_w hM hsz]
      refine ⟨?_, ⟨by simp; exact hK.len, fun m l => (getC_ne (by omega)).trans (hK.kp m l)⟩⟩
      have ht : as.take (i + 1) = as.take i ++ [p] := by
        rw [List.take_add_one, hpi]
        rfl
      rw [getC_set hcl]
      simp only [← List.map_take, ht, List.map_append]
      rfl
  · rintro ρ h' ⟨x, rfl, hM, hK⟩
    simp -implicitDefEqProofs [w_var, w_lit, w_glo, w_bin, w_neg, w_cmp, w_chain, w_isN, w_notN, w_not, w_and, w_or, w_and1, w_and2, w_or1, w_or2, wp_tst, w_ite, w_tup, w_lst, w_ix, w_slc, w_oN, w_oS, w_fld, wp_shut, w_prop, w_call, w_callK, w_mk, w_mkK, w_mkR, w_bi, w_bm, w_isi, w_rngT, w_comp, w_new, w_frz, w_srt, w_isB, w_nil, w_cons, w_seq, w_rng, w_enm, w_zip, s_asg, s_setIx, s_setFld, s_ret, s_retN, s_if, s_expr, s_brk, s_cnt, s_pass, s_nil, s_cons, s_for, s_whl, wp_ok, wp_bad, wp_bind, wp_opt, wp_optN, wp_if, wp_run, g_call, g_call1, g_deep, g_con, asgT, asgTs, startE, wipeE]
    exact hK
theorem is_slips_ok {sl : Option Int} {P : D → Sto → Prop} (hs : ∀ s, sl = some s → 0 ≤ s ∧ s ≤ 8) : Wp (callI TB.tb (k + 3) i_is_slips [slipD sl] h) P = P (.bl true) h := by
  have c := con_MOST_SLIPS
  simp only [Cv.d] at c
  rw [c_is_slips]
  cases sl with
  | none => simp -implicitDefEqProofs [F_is_slips, w_var, w_lit, w_glo, w_bin, w_neg, w_cmp, w_chain, w_isN, w_notN, w_not, w_and, w_or, w_and1, w_and2, w_or1, w_or2, wp_tst, w_ite, w_tup, w_lst, w_ix, w_slc, w_oN, w_oS, w_fld, wp_shut, w_prop, w_call, w_callK, w_mk, w_mkK, w_mkR, w_bi, w_bm, w_isi, w_rngT, w_comp, w_new, w_frz, w_srt, w_isB, w_nil, w_cons, w_seq, w_rng, w_enm, w_zip, s_asg, s_setIx, s_setFld, s_ret, s_retN, s_if, s_expr, s_brk, s_cnt, s_pass, s_nil, s_cons, s_for, s_whl, wp_ok, wp_bad, wp_bind, wp_opt, wp_optN, wp_if, wp_run, g_call, g_call1, g_deep, g_con, asgT, asgTs, startE, wipeE, slipD]
  | some s =>
    obtain ⟨h0, h1⟩ := hs s rfl
    simp -implicitDefEqProofs [F_is_slips, w_var, w_lit, w_glo, w_bin, w_neg, w_cmp, w_chain, w_isN, w_notN, w_not, w_and, w_or, w_and1, w_and2, w_or1, w_or2, wp_tst, w_ite, w_tup, w_lst, w_ix, w_slc, w_oN, w_oS, w_fld, wp_shut, w_prop, w_call, w_callK, w_mk, w_mkK, w_mkR, w_bi, w_bm, w_isi, w_rngT, w_comp, w_new, w_frz, w_srt, w_isB, w_nil, w_cons, w_seq, w_rng, w_enm, w_zip, s_asg, s_setIx, s_setFld, s_ret, s_retN, s_if, s_expr, s_brk, s_cnt, s_pass, s_nil, s_cons, s_for, s_whl, wp_ok, wp_bad, wp_bind, wp_opt, wp_optN, wp_if, wp_run, g_call, g_call1, g_deep, g_con, asgT, asgTs, startE, wipeE, slipD, c, is_integer_in_int, h0, h1]
end
end Cl
/-! text L18 -/
set_option maxHeartbeats 1000007
namespace Cl
open PySem
/-- parts that a line takes -/
structure LnOk (p : Pt) : Prop where
  j0 : 0 < p.jobs.length
  j1 : p.jobs.length ≤ 24
  jt : ∀ j ∈ p.jobs, 0 ≤ j.1 ∧ j.1 ≤ j.2 ∧ j.2 ≤ 10000
  po : Ord p.jobs.length p.pairs
  pl : p.pairs.length ≤ 200
  k0 : 0 < p.kinds.length
  k1 : p.kinds.length ≤ 8
  kt : ∀ ks ∈ p.kinds, ks.Sublist (upto p.jobs.length)
  s0 : 0 < p.states.length
  s1 : p.states.length ≤ 60
  st : ∀ as ∈ p.states, Arcs p.kinds.length p.states.length 40 as
  a0 : 0 ≤ p.start
  a1 : p.start < p.states.length
  sl : ∀ s, p.slips = some s → 0 ≤ s ∧ s ≤ 8
/-- a line's fields -/
def Pt.f (p : Pt) : List (Str × D) := [("_parts", p.d)]
theorem init_ok {k n : Nat} {h : Sto} {b1 b2 b3 b4 b5 b6 b7 b8 b9 : Bool} {p : Pt} (ok : LnOk p) (hn : getC h n = .ins c_Line []) :
    Wp (callI TB.tb (k + 6) i_Line___init__ [.ref n, sqV b1 (p.jobs.map (prS b2)), sqV b3 (p.pairs.map (prS b4)), sqV b5 (p.kinds.map (kindS b6)), sqV b7 (p.states.map (arcS b8 b9)), .int p.start, slipD p.slips] h)
      fun d h' => d = .non ∧ getC h' n = .ins c_Line p.f ∧ h.length ≤ h'.length ∧ ∀ m, m ≠ n → m < h.length → getC h' m = getC h m := by
  have big := sz
  obtain ⟨j0, j1, jt, po, pl, k0, k1, kt, s0, s1, st, a0, a1, sl⟩ := ok
  have cT := con_MOST_TASKS
  have cP := con_MOST_PAIRS
  have cM := con_MOST_MODELS
  have cS := con_MOST_STATES
  simp only [Cv.d] at cT cP cM cS
  have e1 : decide ((24 : Int) < p.jobs.length) = false := by simp; omega
  have e2 : decide ((200 : Int) < p.pairs.length) = false := by simp; omega
  have e3 : decide ((8 : Int) < p.kinds.length) = false := by simp; omega
  have e4 : decide ((60 : Int) < p.states.length) = false := by simp; omega
  have f1 : decide (0 < (p.jobs.length : Int)) = true := by simp; omega
  have f3 : decide (0 < (p.kinds.length : Int)) = true := by simp; omega
  have f4 : decide (0 < (p.states.length : Int)) = true := by simp; omega
  have hnl : n < h.length := lt_of_getC (by rw [hn]; intro z; cases z)
  rw [c_Line___init__]
  unfold F_Line___init__
  simp -implicitDefEqProofs only [w_var, w_lit, w_glo, w_bin, w_neg, w_cmp, w_chain, w_isN, w_notN, w_not, w_and, w_or, w_and1, w_and2, w_or1, w_or2, wp_tst, w_ite, w_tup, w_lst, w_ix, w_slc, w_oN, w_oS, w_fld, wp_shut, w_prop, w_call, w_callK, w_mk, w_mkK, w_mkR, w_bi, w_bm, w_isi, w_rngT, w_comp, w_new, w_frz, w_srt, w_isB, w_nil, w_cons, w_seq, w_rng, w_enm, w_zip, s_asg, s_setIx, s_setFld, s_ret, s_retN, s_if, s_expr, s_brk, s_cnt, s_pass, s_nil, s_cons, s_for, s_whl, wp_ok, wp_bad, wp_bind, wp_opt, wp_optN, wp_if, wp_run, g_call, g_call1, g_deep, g_con, asgT, asgTs, startE, wipeE, is_filled_sq, List.length_map, f1, tru_bl, len_sq, gt_int, cT, e1, Bool.not_true, List.map, List.length, List.replicate, List.append, List.cons_append, List.nil_append, List.getD_cons_zero, List.getD_cons_succ, List.set_cons_zero, List.set_cons_succ, Nat.sub_self, Nat.add_sub_cancel, List.replicate_zero, List.replicate_succ, List.append_nil, List.length_cons, List.length_nil, List.map_cons, List.map_nil]
  refine ⟨trivial, ?_⟩
  simp -implicitDefEqProofs [w_var, w_lit, w_glo, w_bin, w_neg, w_cmp, w_chain, w_isN, w_notN, w_not, w_and, w_or, w_and1, w_and2, w_or1, w_or2, wp_tst, w_ite, w_tup, w_lst, w_ix, w_slc, w_oN, w_oS, w_fld, wp_shut, w_prop, w_call, w_callK, w_mk, w_mkK, w_mkR, w_bi, w_bm, w_isi, w_rngT, w_comp, w_new, w_frz, w_srt, w_isB, w_nil, w_cons, w_seq, w_rng, w_enm, w_zip, s_asg, s_setIx, s_setFld, s_ret, s_retN, s_if, s_expr, s_brk, s_cnt, s_pass, s_nil, s_cons, s_for, s_whl, wp_ok, wp_bad, wp_bind, wp_opt, wp_optN, wp_if, wp_run, g_call, g_call1, g_deep, g_con, asgT, asgTs, startE, wipeE, is_filled_sq, f1, j0, tru_bl, len_sq, gt_int, cT, e1]
  refine (tasks_ok ⟨by omega⟩ jt).imp fun d h1 ⟨q1, q2⟩ => ?_
  subst q1
  subst q2
  simp -implicitDefEqProofs [w_var, w_lit, w_glo, w_bin, w_neg, w_cmp, w_chain, w_isN, w_notN, w_not, w_and, w_or, w_and1, w_and2, w_or1, w_or2, wp_tst, w_ite, w_tup, w_lst, w_ix, w_slc, w_oN, w_oS, w_fld, wp_shut, w_prop, w_call, w_callK, w_mk, w_mkK, w_mkR, w_bi, w_bm, w_isi, w_rngT, w_comp, w_new, w_frz, w_srt, w_isB, w_nil, w_cons, w_seq, w_rng, w_enm, w_zip, s_asg, s_setIx, s_setFld, s_ret, s_retN, s_if, s_expr, s_brk, s_cnt, s_pass, s_nil, s_cons, s_for, s_whl, wp_ok, wp_bad, wp_bind, wp_opt, wp_optN, wp_if, wp_run, g_call, g_call1, g_deep, g_con, asgT, asgTs, startE, wipeE, is_seq_sq, tru_bl, len_sq, gt_int, cP, e2]
  refine (order_ok (b' := b4) po ⟨by omega⟩).imp fun d h2 ⟨q1, K2⟩ => ?_
  subst q1
  simp -implicitDefEqProofs [w_var, w_lit, w_glo, w_bin, w_neg, w_cmp, w_chain, w_isN, w_notN, w_not, w_and, w_or, w_and1, w_and2, w_or1, w_or2, wp_tst, w_ite, w_tup, w_lst, w_ix, w_slc, w_oN, w_oS, w_fld, wp_shut, w_prop, w_call, w_callK, w_mk, w_mkK, w_mkR, w_bi, w_bm, w_isi, w_rngT, w_comp, w_new, w_frz, w_srt, w_isB, w_nil, w_cons, w_seq, w_rng, w_enm, w_zip, s_asg, s_setIx, s_setFld, s_ret, s_retN, s_if, s_expr, s_brk, s_cnt, s_pass, s_nil, s_cons, s_for, s_whl, wp_ok, wp_bad, wp_bind, wp_opt, wp_optN, wp_if, wp_run, g_call, g_call1, g_deep, g_con, asgT, asgTs, startE, wipeE, is_filled_sq, f3, k0, tru_bl, len_sq, gt_int, cM, e3, it_sq, lockN, freeN]
  refine wp_forL (fun i ρ h' => ∃ (x y z : Option D), ρ = [some (.ref n), some (sqV b1 (p.jobs.map (prS b2))), some (sqV b3 (p.pairs.map (prS b4))), some (sqV b5 (p.kinds.map (kindS b6))), some (sqV b7 (p.states.map (arcS b8 b9))), some (.int p.start), some (slipD p.slips), some (.tup (p.jobs.map prD)), some (.tup (p.pairs.map prD)), x, y, z] ∧ h' = h2) 0 ⟨none, none, none, rfl, rfl⟩ ?_ ?_
  · rintro i d ρ h' hd ⟨x, y, z, rfl, rfl⟩
    obtain ⟨v, hv, rfl⟩ := enumL_get hd
    rw [List.getElem?_map] at hv
    cases hpi : p.kinds[i]? with
    | none => rw [hpi] at hv; cases hv
    | some ks =>
      rw [hpi] at hv
      cases hv
      unfold forF kindS
      simp -implicitDefEqProofs [w_var, w_lit, w_glo, w_bin, w_neg, w_cmp, w_chain, w_isN, w_notN, w_not, w_and, w_or, w_and1, w_and2, w_or1, w_or2, wp_tst, w_ite, w_tup, w_lst, w_ix, w_slc, w_oN, w_oS, w_fld, wp_shut, w_prop, w_call, w_callK, w_mk, w_mkK, w_mkR, w_bi, w_bm, w_isi, w_rngT, w_comp, w_new, w_frz, w_srt, w_isB, w_nil, w_cons, w_seq, w_rng, w_enm, w_zip, s_asg, s_setIx, s_setFld, s_ret, s_retN, s_if, s_expr, s_brk, s_cnt, s_pass, s_nil, s_cons, s_for, s_whl, wp_ok, wp_bad, wp_bind, wp_opt, wp_optN, wp_if, wp_run, g_call, g_call1, g_deep, g_con, asgT, asgTs, startE, wipeE, len_sq]
      refine (is_model_ok (b := b6) (n := p.jobs.length) ⟨by omega⟩ (kt ks (List.mem_of_getElem? hpi))).imp fun d h3 ⟨q1, q2⟩ => ?_
      subst q1
      subst q2
      simp -implicitDefEqProofs [w_var, w_lit, w_glo, w_bin, w_neg, w_cmp, w_chain, w_isN, w_notN, w_not, w_and, w_or, w_and1, w_and2, w_or1, w_or2, wp_tst, w_ite, w_tup, w_lst, w_ix, w_slc, w_oN, w_oS, w_fld, wp_shut, w_prop, w_call, w_callK, w_mk, w_mkK, w_mkR, w_bi, w_bm, w_isi, w_rngT, w_comp, w_new, w_frz, w_srt, w_isB, w_nil, w_cons, w_seq, w_rng, w_enm, w_zip, s_asg, s_setIx, s_setFld, s_ret, s_retN, s_if, s_expr, s_brk, s_cnt, s_pass, s_nil, s_cons, s_for, s_whl, wp_ok, wp_bad, wp_bind, wp_opt, wp_optN, wp_if, wp_run, g_call, g_call1, g_deep, g_con, asgT, asgTs, startE, wipeE, tru_bl]
  rintro ρ h3 ⟨x, y, z, rfl, rfl⟩
  simp -implicitDefEqProofs [w_var, w_lit, w_glo, w_bin, w_neg, w_cmp, w_chain, w_isN, w_notN, w_not, w_and, w_or, w_and1, w_and2, w_or1, w_or2, wp_tst, w_ite, w_tup, w_lst, w_ix, w_slc, w_oN, w_oS, w_fld, wp_shut, w_prop, w_call, w_callK, w_mk, w_mkK, w_mkR, w_bi, w_bm, w_isi, w_rngT, w_comp, w_new, w_frz, w_srt, w_isB, w_nil, w_cons, w_seq, w_rng, w_enm, w_zip, s_asg, s_setIx, s_setFld, s_ret, s_retN, s_if, s_expr, s_brk, s_cnt, s_pass, s_nil, s_cons, s_for, s_whl, wp_ok, wp_bad, wp_bind, wp_opt, wp_optN, wp_if, wp_run, g_call, g_call1, g_deep, g_con, asgT, asgTs, startE, wipeE, is_filled_sq, f4, s0, tru_bl, len_sq, gt_int, cS, e4, it_sq, lockN, freeN]
  refine wp_forL (fun i ρ h' => ∃ (x y z : Option D), ρ = [some (.ref n), some (sqV b1 (p.jobs.map (prS b2))), some (sqV b3 (p.pairs.map (prS b4))), some (sqV b5 (p.kinds.map (kindS b6))), some (sqV b7 (p.states.map (arcS b8 b9))), some (.int p.start), some (slipD p.slips), some (.tup (p.jobs.map prD)), some (.tup (p.pairs.map prD)), x, y, z] ∧ Kp h3 h') 0 ⟨x, y, z, rfl, Kp.refl _⟩ ?_ ?_
  · rintro i d ρ h' hd ⟨x, y, z, rfl, hK⟩
    obtain ⟨v, hv, rfl⟩ := enumL_get hd
    rw [List.getElem?_map] at hv
    cases hpi : p.states[i]? with
    | none => rw [hpi] at hv; cases hv
    | some as =>
      rw [hpi] at hv
      cases hv
      unfold forF
      simp -implicitDefEqProofs [w_var, w_lit, w_glo, w_bin, w_neg, w_cmp, w_chain, w_isN, w_notN, w_not, w_and, w_or, w_and1, w_and2, w_or1, w_or2, wp_tst, w_ite, w_tup, w_lst, w_ix, w_slc, w_oN, w_oS, w_fld, wp_shut, w_prop, w_call, w_callK, w_mk, w_mkK, w_mkR, w_bi, w_bm, w_isi, w_rngT, w_comp, w_new, w_frz, w_srt, w_isB, w_nil, w_cons, w_seq, w_rng, w_enm, w_zip, s_asg, s_setIx, s_setFld, s_ret, s_retN, s_if, s_expr, s_brk, s_cnt, s_pass, s_nil, s_cons, s_for, s_whl, wp_ok, wp_bad, wp_bind, wp_opt, wp_optN, wp_if, wp_run, g_call, g_call1, g_deep, g_con, asgT, asgTs, startE, wipeE, len_sq]
      refine (is_state_ok (b := b8) (b' := b9) (st as (List.mem_of_getElem? hpi))).imp fun d h4 ⟨q1, K4⟩ => ?_
      subst q1
      simp -implicitDefEqProofs [w_var, w_lit, w_glo, w_bin, w_neg, w_cmp, w_chain, w_isN, w_notN, w_not, w_and, w_or, w_and1, w_and2, w_or1, w_or2, wp_tst, w_ite, w_tup, w_lst, w_ix, w_slc, w_oN, w_oS, w_fld, wp_shut, w_prop, w_call, w_callK, w_mk, w_mkK, w_mkR, w_bi, w_bm, w_isi, w_rngT, w_comp, w_new, w_frz, w_srt, w_isB, w_nil, w_cons, w_seq, w_rng, w_enm, w_zip, s_asg, s_setIx, s_setFld, s_ret, s_retN, s_if, s_expr, s_brk, s_cnt, s_pass, s_nil, s_cons, s_for, s_whl, wp_ok, wp_bad, wp_bind, wp_opt, wp_optN, wp_if, wp_run, g_call, g_call1, g_deep, g_con, asgT, asgTs, startE, wipeE, tru_bl]
      exact hK.trans K4
  rintro ρ h4 ⟨x, y, z, rfl, hK⟩
  have K4 := K2.trans hK
  simp -implicitDefEqProofs [w_var, w_lit, w_glo, w_bin, w_neg, w_cmp, w_chain, w_isN, w_notN, w_not, w_and, w_or, w_and1, w_and2, w_or1, w_or2, wp_tst, w_ite, w_tup, w_lst, w_ix, w_slc, w_oN, w_oS, w_fld, wp_shut, w_prop, w_call, w_callK, w_mk, w_mkK, w_mkR, w_bi, w_bm, w_isi, w_rngT, w_comp, w_new, w_frz, w_srt, w_isB, w_nil, w_cons, w_seq, w_rng, w_enm, w_zip, s_asg, s_setIx, s_setFld, s_ret, s_retN, s_if, s_expr, s_brk, s_cnt, s_pass, s_nil, s_cons, s_for, s_whl, wp_ok, wp_bad, wp_bind, wp_opt, wp_optN, wp_if, wp_run, g_call, g_call1, g_deep, g_con, asgT, asgTs, startE, wipeE, len_sq, sub_int, is_integer_in_int, a0, show p.start ≤ (p.states.length : Int) - 1 by omega, tru_bl, is_slips_ok sl]
  refine (frozen_kinds (b' := b6) (by omega) (fun ks hk => by have := (sub_upto (kt ks hk)).1; omega)).imp fun d h5 ⟨q1, q2⟩ => ?_
  subst q1
  subst q2
  try simp -implicitDefEqProofs [w_var, w_lit, w_glo, w_bin, w_neg, w_cmp, w_chain, w_isN, w_notN, w_not, w_and, w_or, w_and1, w_and2, w_or1, w_or2, wp_tst, w_ite, w_tup, w_lst, w_ix, w_slc, w_oN, w_oS, w_fld, wp_shut, w_prop, w_call, w_callK, w_mk, w_mkK, w_mkR, w_bi, w_bm, w_isi, w_rngT, w_comp, w_new, w_frz, w_srt, w_isB, w_nil, w_cons, w_seq, w_rng, w_enm, w_zip, s_asg, s_setIx, s_setFld, s_ret, s_retN, s_if, s_expr, s_brk, s_cnt, s_pass, s_nil, s_cons, s_for, s_whl, wp_ok, wp_bad, wp_bind, wp_opt, wp_optN, wp_if, wp_run, g_call, g_call1, g_deep, g_con, asgT, asgTs, startE, wipeE]
  refine (frozen_states (b' := b8) (b'' := b9) (by omega) (fun as hk => by have := (st as hk).hi; omega)).imp fun d h6 ⟨q1, q2⟩ => ?_
  subst q1
  subst q2
  have g := (K4.kp n hnl).trans hn
  have hn4 : n < h6.length := Nat.lt_of_lt_of_le hnl K4.len
  simp -implicitDefEqProofs [w_var, w_lit, w_glo, w_bin, w_neg, w_cmp, w_chain, w_isN, w_notN, w_not, w_and, w_or, w_and1, w_and2, w_or1, w_or2, wp_tst, w_ite, w_tup, w_lst, w_ix, w_slc, w_oN, w_oS, w_fld, wp_shut, w_prop, w_call, w_callK, w_mk, w_mkK, w_mkR, w_bi, w_bm, w_isi, w_rngT, w_comp, w_new, w_frz, w_srt, w_isB, w_nil, w_cons, w_seq, w_rng, w_enm, w_zip, s_asg, s_setIx, s_setFld, s_ret, s_retN, s_if, s_expr, s_brk, s_cnt, s_pass, s_nil, s_cons, s_for, s_whl, wp_ok, wp_bad, wp_bind, wp_opt, wp_optN, wp_if, wp_run, g_call, g_call1, g_deep, g_con, asgT, asgTs, startE, wipeE, lim_ok, g, setFldL]
  refine ⟨?_, K4.len, fun m e l => ?_⟩
  · rw [getC_set hn4]
    rfl
  · rw [getC_ne (Ne.symm e)]
    exact K4.kp m l
end Cl
/-! text L19 -/
set_option maxHeartbeats 1000007
namespace Cl
open PySem
def Pt.o (p : Pt) : D := .obj c_Line p.f
section
variable {k : Nat} {h : Sto} {p : Pt}
theorem parts_look {d : D} : ([(("_parts" : Str), d)] : List (Str × D)).lookup ("_parts" : Str) = some d := by
  simp [List.lookup]
theorem at2 {x y z : D} {ys : List D} : L2.atI (x :: y :: z :: ys) 2 = some z := by
  have := at_nat (xs := x :: y :: z :: ys) (i := 2) (by simp)
  simpa using this
theorem at3 {x y z w : D} {ys : List D} : L2.atI (x :: y :: z :: w :: ys) 3 = some w := by
  have := at_nat (xs := x :: y :: z :: w :: ys) (i := 3) (by simp)
  simpa using this
theorem at4 {x y z w v : D} {ys : List D} : L2.atI (x :: y :: z :: w :: v :: ys) 4 = some v := by
  have := at_nat (xs := x :: y :: z :: w :: v :: ys) (i := 4) (by simp)
  simpa using this
theorem at5 {x y z w v u : D} {ys : List D} : L2.atI (x :: y :: z :: w :: v :: u :: ys) 5 = some u := by
  have := at_nat (xs := x :: y :: z :: w :: v :: u :: ys) (i := 5) (by simp)
  simpa using this
variable {P : D → Sto → Prop}
theorem get_tasks : Wp (callI TB.tb (k + 1) i_Line_tasks [p.o] h) P = P (.tup (p.jobs.map prD)) h := by
  rw [c_Line_tasks]
  simp -implicitDefEqProofs [F_Line_tasks, w_var, w_lit, w_glo, w_bin, w_neg, w_cmp, w_chain, w_isN, w_notN, w_not, w_and, w_or, w_and1, w_and2, w_or1, w_or2, wp_tst, w_ite, w_tup, w_lst, w_ix, w_slc, w_oN, w_oS, w_fld, wp_shut, w_prop, w_call, w_callK, w_mk, w_mkK, w_mkR, w_bi, w_bm, w_isi, w_rngT, w_comp, w_new, w_frz, w_srt, w_isB, w_nil, w_cons, w_seq, w_rng, w_enm, w_zip, s_asg, s_setIx, s_setFld, s_ret, s_retN, s_if, s_expr, s_brk, s_cnt, s_pass, s_nil, s_cons, s_for, s_whl, wp_ok, wp_bad, wp_bind, wp_opt, wp_optN, wp_if, wp_run, g_call, g_call1, g_deep, g_con, asgT, asgTs, startE, wipeE, Pt.o, Pt.f, fldsOf, parts_look, Pt.d, ix_tup, atI0]
theorem get_order : Wp (callI TB.tb (k + 1) i_Line_order [p.o] h) P = P (.tup (p.pairs.map prD)) h := by
  rw [c_Line_order]
  simp -implicitDefEqProofs [F_Line_order, w_var, w_lit, w_glo, w_bin, w_neg, w_cmp, w_chain, w_isN, w_notN, w_not, w_and, w_or, w_and1, w_and2, w_or1, w_or2, wp_tst, w_ite, w_tup, w_lst, w_ix, w_slc, w_oN, w_oS, w_fld, wp_shut, w_prop, w_call, w_callK, w_mk, w_mkK, w_mkR, w_bi, w_bm, w_isi, w_rngT, w_comp, w_new, w_frz, w_srt, w_isB, w_nil, w_cons, w_seq, w_rng, w_enm, w_zip, s_asg, s_setIx, s_setFld, s_ret, s_retN, s_if, s_expr, s_brk, s_cnt, s_pass, s_nil, s_cons, s_for, s_whl, wp_ok, wp_bad, wp_bind, wp_opt, wp_optN, wp_if, wp_run, g_call, g_call1, g_deep, g_con, asgT, asgTs, startE, wipeE, Pt.o, Pt.f, fldsOf, parts_look, Pt.d, ix_tup, at1]
theorem get_models : Wp (callI TB.tb (k + 1) i_Line_models [p.o] h) P = P (.tup (p.kinds.map kindD)) h := by
  rw [c_Line_models]
  simp -implicitDefEqProofs [F_Line_models, w_var, w_lit, w_glo, w_bin, w_neg, w_cmp, w_chain, w_isN, w_notN, w_not, w_and, w_or, w_and1, w_and2, w_or1, w_or2, wp_tst, w_ite, w_tup, w_lst, w_ix, w_slc, w_oN, w_oS, w_fld, wp_shut, w_prop, w_call, w_callK, w_mk, w_mkK, w_mkR, w_bi, w_bm, w_isi, w_rngT, w_comp, w_new, w_frz, w_srt, w_isB, w_nil, w_cons, w_seq, w_rng, w_enm, w_zip, s_asg, s_setIx, s_setFld, s_ret, s_retN, s_if, s_expr, s_brk, s_cnt, s_pass, s_nil, s_cons, s_for, s_whl, wp_ok, wp_bad, wp_bind, wp_opt, wp_optN, wp_if, wp_run, g_call, g_call1, g_deep, g_con, asgT, asgTs, startE, wipeE, Pt.o, Pt.f, fldsOf, parts_look, Pt.d, ix_tup, at2]
theorem get_states : Wp (callI TB.tb (k + 1) i_Line_states [p.o] h) P = P (.tup (p.states.map arcD)) h := by
  rw [c_Line_states]
  simp -implicitDefEqProofs [F_Line_states, w_var, w_lit, w_glo, w_bin, w_neg, w_cmp, w_chain, w_isN, w_notN, w_not, w_and, w_or, w_and1, w_and2, w_or1, w_or2, wp_tst, w_ite, w_tup, w_lst, w_ix, w_slc, w_oN, w_oS, w_fld, wp_shut, w_prop, w_call, w_callK, w_mk, w_mkK, w_mkR, w_bi, w_bm, w_isi, w_rngT, w_comp, w_new, w_frz, w_srt, w_isB, w_nil, w_cons, w_seq, w_rng, w_enm, w_zip, s_asg, s_setIx, s_setFld, s_ret, s_retN, s_if, s_expr, s_brk, s_cnt, s_pass, s_nil, s_cons, s_for, s_whl, wp_ok, wp_bad, wp_bind, wp_opt, wp_optN, wp_if, wp_run, g_call, g_call1, g_deep, g_con, asgT, asgTs, startE, wipeE, Pt.o, Pt.f, fldsOf, parts_look, Pt.d, ix_tup, at3]
theorem get_start : Wp (callI TB.tb (k + 1) i_Line_start [p.o] h) P = P (.int p.start) h := by
  rw [c_Line_start]
  simp -implicitDefEqProofs [F_Line_start, w_var, w_lit, w_glo, w_bin, w_neg, w_cmp, w_chain, w_isN, w_notN, w_not, w_and, w_or, w_and1, w_and2, w_or1, w_or2, wp_tst, w_ite, w_tup, w_lst, w_ix, w_slc, w_oN, w_oS, w_fld, wp_shut, w_prop, w_call, w_callK, w_mk, w_mkK, w_mkR, w_bi, w_bm, w_isi, w_rngT, w_comp, w_new, w_frz, w_srt, w_isB, w_nil, w_cons, w_seq, w_rng, w_enm, w_zip, s_asg, s_setIx, s_setFld, s_ret, s_retN, s_if, s_expr, s_brk, s_cnt, s_pass, s_nil, s_cons, s_for, s_whl, wp_ok, wp_bad, wp_bind, wp_opt, wp_optN, wp_if, wp_run, g_call, g_call1, g_deep, g_con, asgT, asgTs, startE, wipeE, Pt.o, Pt.f, fldsOf, parts_look, Pt.d, ix_tup, at4]
theorem get_slips : Wp (callI TB.tb (k + 1) i_Line_slips [p.o] h) P = P (slipD p.slips) h := by
  rw [c_Line_slips]
  simp -implicitDefEqProofs [F_Line_slips, w_var, w_lit, w_glo, w_bin, w_neg, w_cmp, w_chain, w_isN, w_notN, w_not, w_and, w_or, w_and1, w_and2, w_or1, w_or2, wp_tst, w_ite, w_tup, w_lst, w_ix, w_slc, w_oN, w_oS, w_fld, wp_shut, w_prop, w_call, w_callK, w_mk, w_mkK, w_mkR, w_bi, w_bm, w_isi, w_rngT, w_comp, w_new, w_frz, w_srt, w_isB, w_nil, w_cons, w_seq, w_rng, w_enm, w_zip, s_asg, s_setIx, s_setFld, s_ret, s_retN, s_if, s_expr, s_brk, s_cnt, s_pass, s_nil, s_cons, s_for, s_whl, wp_ok, wp_bad, wp_bind, wp_opt, wp_optN, wp_if, wp_run, g_call, g_call1, g_deep, g_con, asgT, asgTs, startE, wipeE, Pt.o, Pt.f, fldsOf, parts_look, Pt.d, ix_tup, at5]
end
end Cl
/-! text L20 -/
set_option maxHeartbeats 1000007
namespace Cl
open PySem
theorem ds_map {α : Type} (f : α → Tr) : ∀ xs : List α, Tr.ds (xs.map f) = xs.map fun x => (f x).d
  | [] => rfl
  | x :: xs => by
    show (f x).d :: Tr.ds (xs.map f) = _
    rw [ds_map f xs]
    rfl
theorem los_map {α : Type} (f : α → Tr) (n : Nat) : ∀ xs : List α, Tr.los (xs.map f) n = xs.map fun x => (f x).lo n
  | [] => rfl
  | x :: xs => by
    show (f x).lo n :: Tr.los (xs.map f) n = _
    rw [los_map f n xs]
    rfl
theorem dps_map {α : Type} {f : α → Tr} {c : Nat} : ∀ {xs : List α}, (∀ x ∈ xs, (f x).dp ≤ c) → Tr.dps (xs.map f) ≤ c
  | [], _ => Nat.zero_le _
  | x :: xs, h => by
    show max (f x).dp (Tr.dps (xs.map f)) ≤ c
    exact Nat.max_le.mpr ⟨h x (by simp), dps_map fun y hy => h y (by simp [hy])⟩
theorem wds_map {α : Type} {f : α → Tr} {c : Nat} : ∀ {xs : List α}, (∀ x ∈ xs, (f x).wd ≤ c) → Tr.wds (xs.map f) ≤ c
  | [], _ => Nat.zero_le _
  | x :: xs, h => by
    show max (f x).wd (Tr.wds (xs.map f)) ≤ c
    exact Nat.max_le.mpr ⟨h x (by simp), wds_map fun y hy => h y (by simp [hy])⟩
/-- a tree that is not deep and not wide -/
structure Sm3 (c : Nat) (t : Tr) : Prop where
  dp : t.dp ≤ c
  wd : t.wd ≤ 1000
theorem sm_map {α : Type} {f : α → Tr} {c : Nat} {xs : List α} (hl : xs.length ≤ 1000) (h : ∀ x ∈ xs, Sm3 c (f x)) : Sm3 (c + 1) (.node (xs.map f)) := by
  refine ⟨?_, ?_⟩
  · unfold Tr.dp
    have := dps_map (c := c) fun x hx => (h x hx).dp
    omega
  · unfold Tr.wd
    rw [List.length_map]
    exact Nat.max_le.mpr ⟨hl, wds_map fun x hx => (h x hx).wd⟩
theorem sm_int {i : Int} {c : Nat} : Sm3 c (.int i) := ⟨by unfold Tr.dp; omega, by unfold Tr.wd; omega⟩
theorem sm_non {c : Nat} : Sm3 c .non := ⟨by unfold Tr.dp; omega, by unfold Tr.wd; omega⟩
def intsT (ns : List Int) : Tr := .node (ns.map .int)
def prT (p : Int × Int) : Tr := intsT [p.1, p.2]
def prsT (ps : List (Int × Int)) : Tr := .node (ps.map prT)
def kindsT (kk : List (List Int)) : Tr := .node (kk.map intsT)
def statesT (ss : List (List (Int × Int))) : Tr := .node (ss.map prsT)
theorem intsT_d (ns : List Int) : (intsT ns).d = kindD ns := by
  unfold intsT Tr.d
  rw [ds_map]
  rfl
theorem prT_d (p : Int × Int) : (prT p).d = prD p := rfl
theorem prsT_d (ps : List (Int × Int)) : (prsT ps).d = .tup (ps.map prD) := by
  unfold prsT Tr.d
  rw [ds_map]
  rfl
theorem kindsT_d (kk : List (List Int)) : (kindsT kk).d = .tup (kk.map kindD) := by
  unfold kindsT Tr.d
  rw [ds_map]
  simp only [intsT_d]
  first | done | rfl
theorem statesT_d (ss : List (List (Int × Int))) : (statesT ss).d = .tup (ss.map arcD) := by
  unfold statesT Tr.d
  rw [ds_map]
  simp only [prsT_d]
  first | done | rfl
theorem sm_ints {c : Nat} {ns : List Int} (hl : ns.length ≤ 1000) : Sm3 (c + 1) (intsT ns) := sm_map hl fun _ _ => sm_int
theorem sm_pr {c : Nat} {p : Int × Int} : Sm3 (c + 1) (prT p) := sm_ints (by simp)
theorem sm_prs {c : Nat} {ps : List (Int × Int)} (hl : ps.length ≤ 1000) : Sm3 (c + 2) (prsT ps) := sm_map hl fun _ _ => sm_pr
theorem sm_kinds {c : Nat} {kk : List (List Int)} (hl : kk.length ≤ 1000) (hk : ∀ ks ∈ kk, ks.length ≤ 1000) : Sm3 (c + 2) (kindsT kk) := sm_map hl fun ks hx => sm_ints (hk ks hx)
theorem sm_states {c : Nat} {ss : List (List (Int × Int))} (hl : ss.length ≤ 1000) (hk : ∀ as ∈ ss, as.length ≤ 1000) : Sm3 (c + 3) (statesT ss) := sm_map hl fun ks hx => sm_prs (hk ks hx)
/-! lists and tuples turn about -/
theorem intsT_lo (ns : List Int) (n : Nat) : (intsT ns).lo n = kindS (decide (n % 2 = 1)) ns := by
  unfold intsT Tr.lo
  rw [los_map]
  rcases Nat.mod_two_eq_zero_or_one n with e | e <;> simp [e] <;> rfl
theorem prT_lo (p : Int × Int) (n : Nat) : (prT p).lo n = prS (decide (n % 2 = 1)) p := intsT_lo _ _
theorem prsT_lo (ps : List (Int × Int)) (n : Nat) : (prsT ps).lo n = sqV (decide (n % 2 = 1)) (ps.map (prS (decide ((n + 1) % 2 = 1)))) := by
  unfold prsT Tr.lo
  rw [los_map]
  simp only [prT_lo]
  rcases Nat.mod_two_eq_zero_or_one n with e | e <;> simp [e] <;> rfl
theorem kindsT_lo (kk : List (List Int)) (n : Nat) : (kindsT kk).lo n = sqV (decide (n % 2 = 1)) (kk.map (kindS (decide ((n + 1) % 2 = 1)))) := by
  unfold kindsT Tr.lo
  rw [los_map]
  simp only [intsT_lo]
  rcases Nat.mod_two_eq_zero_or_one n with e | e <;> simp [e] <;> rfl
section
variable {k : Nat} {h : Sto}
theorem loose_sm {t : Tr} {d e : D} {n : Nat} (e1 : t.d = d) (e2 : t.lo n = e) (s : Sm3 3 t) : Wp (callI TB.tb (k + 4) i__law_loose [d, .int n] h) fun x h' => x = e ∧ h' = h := by
  subst e1
  subst e2
  exact loose_t 3 t k n s.dp s.wd
end
end Cl
/-! text M0 -/
set_option maxHeartbeats 1000007
namespace Cl
open PySem
theorem case_ln {p : Pt} (c : CaseOk p) : LnOk p := by
  obtain ⟨tasks, wide, many, slips, a1, a2, a3, a4, ok⟩ := c
  obtain ⟨j0, j1, jt, po, pl, k0, k1, kt, s0, s1, st, a0, a1, sl⟩ := ok
  refine ⟨j0, by omega, jt, po, by omega, k0, by omega, kt, s0, by omega, fun as ha => ?_, a0, a1, fun s e => ?_⟩
  · obtain ⟨r, n, l, hh⟩ := st as ha
    exact ⟨r, n, l, by omega⟩
  · have := sl s e
    omega
theorem Kp.sp {n : Nat} {h h' : Sto} (a : Kp h h') (s : SpE n h) : SpE n h' := by
  obtain ⟨p, hp⟩ := s
  exact ⟨p, (a.kp n hp.lt).trans hp⟩
theorem statesT_lo (ss : List (List (Int × Int))) (n : Nat) : (statesT ss).lo n = sqV (decide (n % 2 = 1)) (ss.map (arcS (decide ((n + 1) % 2 = 1)) (decide ((n + 1 + 1) % 2 = 1)))) := by
  unfold statesT Tr.lo
  rw [los_map]
  simp only [prsT_lo]
  rcases Nat.mod_two_eq_zero_or_one n with e | e <;> simp [e] <;> rfl
theorem sm_tasks {p : Pt} (ok : LnOk p) : Sm3 3 (prsT p.jobs) := sm_prs (by have := ok.j1; omega)
theorem sm_order {p : Pt} (ok : LnOk p) : Sm3 3 (prsT p.pairs) := sm_prs (by have := ok.pl; omega)
theorem sm_models {p : Pt} (ok : LnOk p) : Sm3 3 (kindsT p.kinds) := sm_kinds (by have := ok.k1; omega) fun ks hk => by have := (sub_upto (ok.kt ks hk)).1; have := ok.j1; omega
theorem sm_sts {p : Pt} (ok : LnOk p) : Sm3 3 (statesT p.states) := sm_states (by have := ok.s1; omega) fun as hk => by have := (ok.st as hk).hi; omega
/-- a new line of parts of a line -/
theorem mk_d {k : Nat} {h : Sto} {b1 b2 b3 b4 b5 b6 b7 b8 b9 : Bool} {p : Pt} (ok : LnOk p) :
    Wp (callI TB.tb (k + 6) i_Line___init__ [.ref h.length, sqV b1 (p.jobs.map (prS b2)), sqV b3 (p.pairs.map (prS b4)), sqV b5 (p.kinds.map (kindS b6)), sqV b7 (p.states.map (arcS b8 b9)), .int p.start, slipD p.slips] (h ++ [.ins c_Line []]))
      fun d h' => d = .non ∧ getC h' h.length = .ins c_Line p.f ∧ Kp h (h'.set h.length .dead) := by
  have g : getC (h ++ [.ins c_Line []]) h.length = .ins c_Line [] := getC_new
  refine (init_ok ok g).imp fun d h2 ⟨q1, q2, q3, q4⟩ => ?_
  rw [List.length_append, List.length_singleton] at q3
  refine ⟨q1, q2, ⟨by simp; omega, fun m l => ?_⟩⟩
  rw [getC_ne (by omega), q4 m (by omega) (by simp; omega), getC_app l]
theorem prS_t : prS true = prD := rfl
theorem kindS_t : kindS true = kindD := rfl
theorem arcS_t : arcS true true = arcD := rfl
theorem mk_t {k : Nat} {h : Sto} {p : Pt} {ts : D} (ok : LnOk p) (e : ∃ b1 b2, ts = sqV b1 (p.jobs.map (prS b2))) :
    Wp (callI TB.tb (k + 6) i_Line___init__ [.ref h.length, ts, .tup (p.pairs.map prD), .tup (p.kinds.map kindD), .tup (p.states.map arcD), .int p.start, slipD p.slips] (h ++ [.ins c_Line []]))
      fun d h' => d = .non ∧ getC h' h.length = .ins c_Line p.f ∧ Kp h (h'.set h.length .dead) := by
  obtain ⟨b1, b2, rfl⟩ := e
  exact mk_d (b3 := true) (b4 := true) (b5 := true) (b6 := true) (b7 := true) (b8 := true) (b9 := true) ok
theorem cls_o {h : Sto} {p : Pt} : clsOf h p.o = some c_Line := rfl
end Cl
/-! text F1 -/
set_option maxHeartbeats 1000007
namespace Cl
open PySem
/-- the free line's parts -/
def Pt.free (p : Pt) : Pt := { p with states := [(upto p.kinds.length).map fun k => (k, 0)], start := 0 }
theorem free_ok {p : Pt} (ok : LnOk p) : LnOk p.free := by
  obtain ⟨j0, j1, jt, po, pl, k0, k1, kt, s0, s1, st, a0, a1, sl⟩ := ok
  refine ⟨j0, j1, jt, po, pl, k0, k1, kt, by simp [Pt.free], by simp [Pt.free], ?_, by simp [Pt.free], by simp [Pt.free], sl⟩
  intro as ha
  have : as = (upto p.kinds.length).map fun k => (k, 0) := by simpa [Pt.free] using ha
  subst this
  refine ⟨fun q hq => ?_, ?_, by simp [upto_len, Pt.free]; exact k0, by simp [upto_len, Pt.free]; omega⟩
  · obtain ⟨v, hv, rfl⟩ := List.mem_map.mp hq
    have := mem_upto.mp hv
    exact ⟨this.1, this.2, by simp, by simp [Pt.free]⟩
  · rw [List.nodup_iff_pairwise_ne, List.pairwise_map]
    exact (List.nodup_iff_pairwise_ne.mp (nodup_upto p.kinds.length)).imp fun h e => h (by cases e; rfl)
theorem free_d {k : Nat} {h : Sto} {b1 b2 b3 b4 b5 b6 : Bool} {p : Pt} (ok : LnOk p) :
    Wp (callI TB.tb (k + 8) i_free_line [sqV b1 (p.jobs.map (prS b2)), sqV b3 (p.pairs.map (prS b4)), sqV b5 (p.kinds.map (kindS b6)), slipD p.slips] h)
      fun d h' => d = p.free.o ∧ Kp h h' := by
  have big := sz
  have k1 := ok.k1
  have hkf : Few p.kinds.length := ⟨by omega⟩
  rw [c_free_line]
  simp -implicitDefEqProofs [F_free_line, w_var, w_lit, w_glo, w_bin, w_neg, w_cmp, w_chain, w_isN, w_notN, w_not, w_and, w_or, w_and1, w_and2, w_or1, w_or2, wp_tst, w_ite, w_tup, w_lst, w_ix, w_slc, w_oN, w_oS, w_fld, wp_shut, w_prop, w_call, w_callK, w_mk, w_mkK, w_mkR, w_bi, w_bm, w_isi, w_rngT, w_comp, w_new, w_frz, w_srt, w_isB, w_nil, w_cons, w_seq, w_rng, w_enm, w_zip, s_asg, s_setIx, s_setFld, s_ret, s_retN, s_if, s_expr, s_brk, s_cnt, s_pass, s_nil, s_cons, s_for, s_whl, wp_ok, wp_bad, wp_bind, wp_opt, wp_optN, wp_if, wp_run, g_call, g_call1, g_deep, g_con, asgT, asgTs, startE, wipeE, is_seq_sq, tru_bl, len_sq, rng_one hkf, lockN, freeN]
  rw [rngL_upto]
  refine comp_map (ys := ((upto p.kinds.length).map fun k => (k, (0 : Int))).map prD) (by simp) (by simp [upto_len]; omega) (fun i x y e1 e2 => ?_) ?_
  · rw [List.getElem?_map] at e1
    rw [List.map_map, List.getElem?_map] at e2
    cases hx : (upto p.kinds.length)[i]? with
    | none => rw [hx] at e1; cases e1
    | some v =>
      rw [hx] at e1 e2
      cases e1
      cases e2
      unfold compF
      simp -implicitDefEqProofs [w_var, w_lit, w_glo, w_bin, w_neg, w_cmp, w_chain, w_isN, w_notN, w_not, w_and, w_or, w_and1, w_and2, w_or1, w_or2, wp_tst, w_ite, w_tup, w_lst, w_ix, w_slc, w_oN, w_oS, w_fld, wp_shut, w_prop, w_call, w_callK, w_mk, w_mkK, w_mkR, w_bi, w_bm, w_isi, w_rngT, w_comp, w_new, w_frz, w_srt, w_isB, w_nil, w_cons, w_seq, w_rng, w_enm, w_zip, s_asg, s_setIx, s_setFld, s_ret, s_retN, s_if, s_expr, s_brk, s_cnt, s_pass, s_nil, s_cons, s_for, s_whl, wp_ok, wp_bad, wp_bind, wp_opt, wp_optN, wp_if, wp_run, g_call, g_call1, g_deep, g_con, asgT, asgTs, startE, wipeE, lim_ok, prD]
  · have o := free_ok ok
    have g : getC (h ++ [.ins c_Line []]) h.length = .ins c_Line [] := getC_new
    have I := init_ok (k := k) (b1 := b1) (b2 := b2) (b3 := b3) (b4 := b4) (b5 := b5) (b6 := b6) (b7 := false) (b8 := false) (b9 := true) o g
    have e : sqV false (p.free.states.map (arcS false true)) = D.lst [.lst ((upto p.kinds.length).map (prD ∘ fun k => (k, 0)))] := by
      show sqV false [sqV false (((upto p.kinds.length).map fun k => (k, (0 : Int))).map (prS true))] = _
      rw [List.map_map]
      rfl
    rw [e] at I
    simp -implicitDefEqProofs [w_var, w_lit, w_glo, w_bin, w_neg, w_cmp, w_chain, w_isN, w_notN, w_not, w_and, w_or, w_and1, w_and2, w_or1, w_or2, wp_tst, w_ite, w_tup, w_lst, w_ix, w_slc, w_oN, w_oS, w_fld, wp_shut, w_prop, w_call, w_callK, w_mk, w_mkK, w_mkR, w_bi, w_bm, w_isi, w_rngT, w_comp, w_new, w_frz, w_srt, w_isB, w_nil, w_cons, w_seq, w_rng, w_enm, w_zip, s_asg, s_setIx, s_setFld, s_ret, s_retN, s_if, s_expr, s_brk, s_cnt, s_pass, s_nil, s_cons, s_for, s_whl, wp_ok, wp_bad, wp_bind, wp_opt, wp_optN, wp_if, wp_run, g_call, g_call1, g_deep, g_con, asgT, asgTs, startE, wipeE, lim_ok]
    refine I.imp fun d h2 ⟨q1, q2, q3, q4⟩ => ?_
    subst q1
    simp -implicitDefEqProofs [w_var, w_lit, w_glo, w_bin, w_neg, w_cmp, w_chain, w_isN, w_notN, w_not, w_and, w_or, w_and1, w_and2, w_or1, w_or2, wp_tst, w_ite, w_tup, w_lst, w_ix, w_slc, w_oN, w_oS, w_fld, wp_shut, w_prop, w_call, w_callK, w_mk, w_mkK, w_mkR, w_bi, w_bm, w_isi, w_rngT, w_comp, w_new, w_frz, w_srt, w_isB, w_nil, w_cons, w_seq, w_rng, w_enm, w_zip, s_asg, s_setIx, s_setFld, s_ret, s_retN, s_if, s_expr, s_brk, s_cnt, s_pass, s_nil, s_cons, s_for, s_whl, wp_ok, wp_bad, wp_bind, wp_opt, wp_optN, wp_if, wp_run, g_call, g_call1, g_deep, g_con, asgT, asgTs, startE, wipeE, q2]
    rw [List.length_append, List.length_singleton] at q3
    refine ⟨rfl, ⟨by simp; omega, fun m l => ?_⟩⟩
    rw [getC_ne (by omega), q4 m (by omega) (by simp; omega), getC_app l]
theorem free_eq (p : Pt) : p.free.d = .tup [.tup (p.jobs.map prD), .tup (p.pairs.map prD), .tup (p.kinds.map kindD), .tup [.tup ((upto p.kinds.length).map (prD ∘ fun k => (k, 0)))], .int 0, slipD p.slips] := by
  show D.tup [_, _, _, .tup [.tup (((upto p.kinds.length).map fun k => (k, (0 : Int))).map prD)], _, _] = _
  rw [List.map_map]
  rfl
end Cl
/-! text M1 -/
set_option maxHeartbeats 1000007
namespace Cl
open PySem
theorem made_d {k turn : Nat} {h : Sto} {p : Pt} (ok : LnOk p) : Wp (callI TB.tb (k + 8) i__law_made [p.d, .int turn] h) fun d h' => d = p.o ∧ Kp h h' := by
  rw [c__law_made]
  simp -implicitDefEqProofs [F__law_made, w_var, w_lit, w_glo, w_bin, w_neg, w_cmp, w_chain, w_isN, w_notN, w_not, w_and, w_or, w_and1, w_and2, w_or1, w_or2, wp_tst, w_ite, w_tup, w_lst, w_ix, w_slc, w_oN, w_oS, w_fld, wp_shut, w_prop, w_call, w_callK, w_mk, w_mkK, w_mkR, w_bi, w_bm, w_isi, w_rngT, w_comp, w_new, w_frz, w_srt, w_isB, w_nil, w_cons, w_seq, w_rng, w_enm, w_zip, s_asg, s_setIx, s_setFld, s_ret, s_retN, s_if, s_expr, s_brk, s_cnt, s_pass, s_nil, s_cons, s_for, s_whl, wp_ok, wp_bad, wp_bind, wp_opt, wp_optN, wp_if, wp_run, g_call, g_call1, g_deep, g_con, asgT, asgTs, startE, wipeE, Pt.d, ix_tup, atI0]
  refine (loose_sm (n := turn) (prsT_d _) (prsT_lo _ _) (sm_tasks ok)).imp fun d h1 ⟨e1, e2⟩ => ?_
  subst e1
  subst e2
  simp -implicitDefEqProofs [w_var, w_lit, w_glo, w_bin, w_neg, w_cmp, w_chain, w_isN, w_notN, w_not, w_and, w_or, w_and1, w_and2, w_or1, w_or2, wp_tst, w_ite, w_tup, w_lst, w_ix, w_slc, w_oN, w_oS, w_fld, wp_shut, w_prop, w_call, w_callK, w_mk, w_mkK, w_mkR, w_bi, w_bm, w_isi, w_rngT, w_comp, w_new, w_frz, w_srt, w_isB, w_nil, w_cons, w_seq, w_rng, w_enm, w_zip, s_asg, s_setIx, s_setFld, s_ret, s_retN, s_if, s_expr, s_brk, s_cnt, s_pass, s_nil, s_cons, s_for, s_whl, wp_ok, wp_bad, wp_bind, wp_opt, wp_optN, wp_if, wp_run, g_call, g_call1, g_deep, g_con, asgT, asgTs, startE, wipeE, ix_tup, at1, add_int]
  refine (loose_sm (n := turn + 1) (prsT_d _) (prsT_lo _ _) (sm_order ok)).imp fun d h1 ⟨e1, e2⟩ => ?_
  subst e1
  subst e2
  simp -implicitDefEqProofs [w_var, w_lit, w_glo, w_bin, w_neg, w_cmp, w_chain, w_isN, w_notN, w_not, w_and, w_or, w_and1, w_and2, w_or1, w_or2, wp_tst, w_ite, w_tup, w_lst, w_ix, w_slc, w_oN, w_oS, w_fld, wp_shut, w_prop, w_call, w_callK, w_mk, w_mkK, w_mkR, w_bi, w_bm, w_isi, w_rngT, w_comp, w_new, w_frz, w_srt, w_isB, w_nil, w_cons, w_seq, w_rng, w_enm, w_zip, s_asg, s_setIx, s_setFld, s_ret, s_retN, s_if, s_expr, s_brk, s_cnt, s_pass, s_nil, s_cons, s_for, s_whl, wp_ok, wp_bad, wp_bind, wp_opt, wp_optN, wp_if, wp_run, g_call, g_call1, g_deep, g_con, asgT, asgTs, startE, wipeE, ix_tup, at2]
  refine (loose_sm (n := turn) (kindsT_d _) (kindsT_lo _ _) (sm_models ok)).imp fun d h1 ⟨e1, e2⟩ => ?_
  subst e1
  subst e2
  simp -implicitDefEqProofs [w_var, w_lit, w_glo, w_bin, w_neg, w_cmp, w_chain, w_isN, w_notN, w_not, w_and, w_or, w_and1, w_and2, w_or1, w_or2, wp_tst, w_ite, w_tup, w_lst, w_ix, w_slc, w_oN, w_oS, w_fld, wp_shut, w_prop, w_call, w_callK, w_mk, w_mkK, w_mkR, w_bi, w_bm, w_isi, w_rngT, w_comp, w_new, w_frz, w_srt, w_isB, w_nil, w_cons, w_seq, w_rng, w_enm, w_zip, s_asg, s_setIx, s_setFld, s_ret, s_retN, s_if, s_expr, s_brk, s_cnt, s_pass, s_nil, s_cons, s_for, s_whl, wp_ok, wp_bad, wp_bind, wp_opt, wp_optN, wp_if, wp_run, g_call, g_call1, g_deep, g_con, asgT, asgTs, startE, wipeE, ix_tup, at3]
  refine (loose_sm (n := turn) (statesT_d _) (statesT_lo _ _) (sm_sts ok)).imp fun d h1 ⟨e1, e2⟩ => ?_
  subst e1
  subst e2
  simp -implicitDefEqProofs [w_var, w_lit, w_glo, w_bin, w_neg, w_cmp, w_chain, w_isN, w_notN, w_not, w_and, w_or, w_and1, w_and2, w_or1, w_or2, wp_tst, w_ite, w_tup, w_lst, w_ix, w_slc, w_oN, w_oS, w_fld, wp_shut, w_prop, w_call, w_callK, w_mk, w_mkK, w_mkR, w_bi, w_bm, w_isi, w_rngT, w_comp, w_new, w_frz, w_srt, w_isB, w_nil, w_cons, w_seq, w_rng, w_enm, w_zip, s_asg, s_setIx, s_setFld, s_ret, s_retN, s_if, s_expr, s_brk, s_cnt, s_pass, s_nil, s_cons, s_for, s_whl, wp_ok, wp_bad, wp_bind, wp_opt, wp_optN, wp_if, wp_run, g_call, g_call1, g_deep, g_con, asgT, asgTs, startE, wipeE, ix_tup, at4, at5]
  have g : getC (h1 ++ [.ins c_Line []]) h1.length = .ins c_Line [] := getC_new
  refine (init_ok ok g).imp fun d h2 ⟨q1, q2, q3, q4⟩ => ?_
  subst q1
  simp -implicitDefEqProofs [w_var, w_lit, w_glo, w_bin, w_neg, w_cmp, w_chain, w_isN, w_notN, w_not, w_and, w_or, w_and1, w_and2, w_or1, w_or2, wp_tst, w_ite, w_tup, w_lst, w_ix, w_slc, w_oN, w_oS, w_fld, wp_shut, w_prop, w_call, w_callK, w_mk, w_mkK, w_mkR, w_bi, w_bm, w_isi, w_rngT, w_comp, w_new, w_frz, w_srt, w_isB, w_nil, w_cons, w_seq, w_rng, w_enm, w_zip, s_asg, s_setIx, s_setFld, s_ret, s_retN, s_if, s_expr, s_brk, s_cnt, s_pass, s_nil, s_cons, s_for, s_whl, wp_ok, wp_bad, wp_bind, wp_opt, wp_optN, wp_if, wp_run, g_call, g_call1, g_deep, g_con, asgT, asgTs, startE, wipeE, q2]
  rw [List.length_append, List.length_singleton] at q3
  refine ⟨rfl, ⟨by simp; omega, fun m l => ?_⟩⟩
  rw [getC_ne (by omega), q4 m (by omega) (by simp; omega), getC_app l]
end Cl
/-! text R1 -/
set_option maxHeartbeats 1000007
namespace Cl
open PySem
/-- the states of a row again and again -/
def rot (ns : List Int) : List (List (Int × Int)) := (List.range ns.length).map fun i => [(ns.getD i 0, (((i + 1) % ns.length : Nat) : Int))]
theorem rot_len (ns : List Int) : (rot ns).length = ns.length := by simp [rot]
theorem rot_get {ns : List Int} {i : Nat} (hi : i < ns.length) : (rot ns)[i]? = some [(ns.getD i 0, (((i + 1) % ns.length : Nat) : Int))] := by
  unfold rot
  rw [List.getElem?_map, List.getElem?_range hi]
  rfl
def Pt.rot (p : Pt) (ns : List Int) : Pt := { p with states := Cl.rot ns, start := 0 }
theorem rot_ok {p : Pt} {ns : List Int} (ok : LnOk p) (h0 : 0 < ns.length) (h1 : ns.length ≤ 40) (hn : ∀ x ∈ ns, 0 ≤ x ∧ x < p.kinds.length) : LnOk (p.rot ns) := by
  obtain ⟨j0, j1, jt, po, pl, k0, k1, kt, s0, s1, st, a0, a1, sl⟩ := ok
  refine ⟨j0, j1, jt, po, pl, k0, k1, kt, ?_, ?_, ?_, by simp [Pt.rot], ?_, sl⟩
  · show 0 < (Cl.rot ns).length
    rw [rot_len]; exact h0
  · show (Cl.rot ns).length ≤ 60
    rw [rot_len]; omega
  · intro as ha
    show Arcs p.kinds.length (Cl.rot ns).length 40 as
    rw [rot_len]
    obtain ⟨i, hi, rfl⟩ := List.mem_map.mp (show as ∈ Cl.rot ns from ha)
    have hi := List.mem_range.mp hi
    refine ⟨fun q hq => ?_, by simp, by simp, by simp⟩
    rw [List.mem_singleton.mp hq]
    have g : ns.getD i 0 = ns[i] := by simp [List.getD, hi]
    have := hn _ (List.getElem_mem hi)
    refine ⟨by show 0 ≤ ns.getD i 0; rw [g]; exact this.1, by show ns.getD i 0 < _; rw [g]; exact this.2, by show (0 : Int) ≤ ((i + 1) % ns.length : Nat); omega, ?_⟩
    show (((i + 1) % ns.length : Nat) : Int) < ns.length
    have := Nat.mod_lt (i + 1) h0
    omega
  · show (0 : Int) < (Cl.rot ns).length
    rw [rot_len]; omega
theorem repeated_d {k : Nat} {h : Sto} {b : Bool} {p : Pt} {ns : List Int} (ok : LnOk p) (h0 : 0 < ns.length) (h1 : ns.length ≤ 40) (hn : ∀ x ∈ ns, 0 ≤ x ∧ x < p.kinds.length) :
    Wp (callI TB.tb (k + 8) i_repeated [p.o, kindS b ns] h) fun d h' => d = (p.rot ns).o ∧ Kp h h' := by
  have big := sz
  have okr := rot_ok ok h0 h1 hn
  have cR := con_MOST_ROW
  simp only [Cv.d] at cR
  have f1 : decide (0 < (ns.length : Int)) = true := by simp; omega
  have f2 : decide ((40 : Int) < ns.length) = false := by simp; omega
  unfold kindS
  rw [c_repeated]
  simp -implicitDefEqProofs [F_repeated, w_var, w_lit, w_glo, w_bin, w_neg, w_cmp, w_chain, w_isN, w_notN, w_not, w_and, w_or, w_and1, w_and2, w_or1, w_or2, wp_tst, w_ite, w_tup, w_lst, w_ix, w_slc, w_oN, w_oS, w_fld, wp_shut, w_prop, w_call, w_callK, w_mk, w_mkK, w_mkR, w_bi, w_bm, w_isi, w_rngT, w_comp, w_new, w_frz, w_srt, w_isB, w_nil, w_cons, w_seq, w_rng, w_enm, w_zip, s_asg, s_setIx, s_setFld, s_ret, s_retN, s_if, s_expr, s_brk, s_cnt, s_pass, s_nil, s_cons, s_for, s_whl, wp_ok, wp_bad, wp_bind, wp_opt, wp_optN, wp_if, wp_run, g_call, g_call1, g_deep, g_con, asgT, asgTs, startE, wipeE, is_filled_sq, f1, h0, tru_bl, len_sq, gt_int, cR, f2, cls_o, get_models, len_tup]
  refine (below_ok (b := b) ⟨by omega⟩ hn).imp fun d h2 ⟨e1, e2⟩ => ?_
  subst e1
  subst e2
  simp -implicitDefEqProofs [w_var, w_lit, w_glo, w_bin, w_neg, w_cmp, w_chain, w_isN, w_notN, w_not, w_and, w_or, w_and1, w_and2, w_or1, w_or2, wp_tst, w_ite, w_tup, w_lst, w_ix, w_slc, w_oN, w_oS, w_fld, wp_shut, w_prop, w_call, w_callK, w_mk, w_mkK, w_mkR, w_bi, w_bm, w_isi, w_rngT, w_comp, w_new, w_frz, w_srt, w_isB, w_nil, w_cons, w_seq, w_rng, w_enm, w_zip, s_asg, s_setIx, s_setFld, s_ret, s_retN, s_if, s_expr, s_brk, s_cnt, s_pass, s_nil, s_cons, s_for, s_whl, wp_ok, wp_bad, wp_bind, wp_opt, wp_optN, wp_if, wp_run, g_call, g_call1, g_deep, g_con, asgT, asgTs, startE, wipeE, tru_bl, lim_ok, it_sq, lockN, freeN]
  refine wp_forL (fun i ρ h' => ∃ (x y : Option D), ρ = [some p.o, some (sqV b (ns.map .int)), some (.ref h2.length), x, y] ∧ getC h' h2.length = .lst (((rot ns).take i).map (arcS false true)) ∧ Kp h2 h') 0 ⟨none, none, rfl, by simp [getC_new], ⟨by simp, fun m hm => getC_app hm⟩⟩ ?_ ?_
  · rintro i d ρ h' hd ⟨x, y, rfl, hM, hK⟩
    obtain ⟨v, hv, rfl⟩ := enumL_get hd
    rw [List.getElem?_map] at hv
    cases hpi : ns[i]? with
    | none => rw [hpi] at hv; cases hv
    | some w =>
      rw [hpi] at hv
      cases hv
      have hi : i < ns.length := (List.getElem?_eq_some_iff.mp hpi).1
      rw [Nat.zero_add] at hM
      have hcl : h2.length < h'.length := lt_of_getC (by rw [hM]; intro z; cases z)
      have hsz : (((rot ns).take i).map (arcS false true)).length < sizeLine := by
        rw [List.length_map, List.length_take]
        omega
      have hg : ns.getD i 0 = w := by simp [List.getD, hpi]
      have fin : ∀ nx : Int, nx = (((i + 1) % ns.length : Nat) : Int) → getC (h'.set h2.length (.lst (((rot ns).take i).map (arcS false true) ++ [.lst [.tup [.int w, .int nx]]]))) h2.length = .lst (((rot ns).take (0 + i + 1)).map (arcS false true)) := by
        intro nx e
        rw [getC_set hcl, Nat.zero_add, List.take_add_one, rot_get hi, hg, e]
        simp [arcS, prS, sqV]
      have kp : ∀ c, Kp h2 (h'.set h2.length c) := fun c => ⟨by simp; exact hK.len, fun m l => (getC_ne (by omega)).trans (hK.kp m l)⟩
      unfold forF
      simp -implicitDefEqProofs [w_var, w_lit, w_glo, w_bin, w_neg, w_cmp, w_chain, w_isN, w_notN, w_not, w_and, w_or, w_and1, w_and2, w_or1, w_or2, wp_tst, w_ite, w_tup, w_lst, w_ix, w_slc, w_oN, w_oS, w_fld, wp_shut, w_prop, w_call, w_callK, w_mk, w_mkK, w_mkR, w_bi, w_bm, w_isi, w_rngT, w_comp, w_new, w_frz, w_srt, w_isB, w_nil, w_cons, w_seq, w_rng, w_enm, w_zip, s_asg, s_setIx, s_setFld, s_ret, s_retN, s_if, s_expr, s_brk, s_cnt, s_pass, s_nil, s_cons, s_for, s_whl, wp_ok, wp_bad, wp_bind, wp_opt, wp_optN, wp_if, wp_run, g_call, g_call1, g_deep, g_con, asgT, asgTs, startE, wipeE, lst_ref hM, len_sq, add_int, lt_int, tru_bl]
      by_cases hlt : i + 1 < ns.length
      · have e0 : decide (((i : Int) + 1) < ns.length) = true := by simp; omega
        simp -implicitDefEqProofs [e0, w_var, w_lit, w_glo, w_bin, w_neg, w_cmp, w_chain, w_isN, w_notN, w_not, w_and, w_or, w_and1, w_and2, w_or1, w_or2, wp_tst, w_ite, w_tup, w_lst, w_ix, w_slc, w_oN, w_oS, w_fld, wp_shut, w_prop, w_call, w_callK, w_mk, w_mkK, w_mkR, w_bi, w_bm, w_isi, w_rngT, w_comp, w_new, w_frz, w_srt, w_isB, w_nil, w_cons, w_seq, w_rng, w_enm, w_zip, s_asg, s_setIx, s_setFld, s_ret, s_retN, s_if, s_expr, s_brk, s_cnt, s_pass, s_nil, s_cons, s_for, s_whl, wp_ok, wp_bad, wp_bind, wp_opt, wp_optN, wp_if, wp_run, g_call, g_call1, g_deep, g_con, asgT, asgTs, startE, wipeE, lim_ok, add_int, app_w hM hsz]
        refine ⟨?_, kp _⟩
        have := fin (i + 1) (by rw [Nat.mod_eq_of_lt hlt]; simp)
        simpa using this
      · have e0 : decide (((i : Int) + 1) < ns.length) = false := by simp; omega
        simp -implicitDefEqProofs [e0, w_var, w_lit, w_glo, w_bin, w_neg, w_cmp, w_chain, w_isN, w_notN, w_not, w_and, w_or, w_and1, w_and2, w_or1, w_or2, wp_tst, w_ite, w_tup, w_lst, w_ix, w_slc, w_oN, w_oS, w_fld, wp_shut, w_prop, w_call, w_callK, w_mk, w_mkK, w_mkR, w_bi, w_bm, w_isi, w_rngT, w_comp, w_new, w_frz, w_srt, w_isB, w_nil, w_cons, w_seq, w_rng, w_enm, w_zip, s_asg, s_setIx, s_setFld, s_ret, s_retN, s_if, s_expr, s_brk, s_cnt, s_pass, s_nil, s_cons, s_for, s_whl, wp_ok, wp_bad, wp_bind, wp_opt, wp_optN, wp_if, wp_run, g_call, g_call1, g_deep, g_con, asgT, asgTs, startE, wipeE, lim_ok, add_int, app_w hM hsz]
        refine ⟨?_, kp _⟩
        have := fin 0 (by rw [show i + 1 = ns.length by omega, Nat.mod_self]; rfl)
        simpa using this
  · rintro ρ h' ⟨x, y, rfl, hM, hK⟩
    rw [enumL_length, List.length_map, Nat.zero_add, List.take_of_length_le (by rw [rot_len]; omega)] at hM
    simp -implicitDefEqProofs [w_var, w_lit, w_glo, w_bin, w_neg, w_cmp, w_chain, w_isN, w_notN, w_not, w_and, w_or, w_and1, w_and2, w_or1, w_or2, wp_tst, w_ite, w_tup, w_lst, w_ix, w_slc, w_oN, w_oS, w_fld, wp_shut, w_prop, w_call, w_callK, w_mk, w_mkK, w_mkR, w_bi, w_bm, w_isi, w_rngT, w_comp, w_new, w_frz, w_srt, w_isB, w_nil, w_cons, w_seq, w_rng, w_enm, w_zip, s_asg, s_setIx, s_setFld, s_ret, s_retN, s_if, s_expr, s_brk, s_cnt, s_pass, s_nil, s_cons, s_for, s_whl, wp_ok, wp_bad, wp_bind, wp_opt, wp_optN, wp_if, wp_run, g_call, g_call1, g_deep, g_con, asgT, asgTs, startE, wipeE, cls_o, get_tasks, get_order, get_models, get_slips, hM]
    have M := mk_d (k := k) (h := h'.set h2.length .dead) (b1 := true) (b2 := true) (b3 := true) (b4 := true) (b5 := true) (b6 := true) (b7 := false) (b8 := false) (b9 := true) okr
    simp at M
    refine M.imp fun d h3 ⟨q1, q2, q3⟩ => ?_
    subst q1
    simp -implicitDefEqProofs [w_var, w_lit, w_glo, w_bin, w_neg, w_cmp, w_chain, w_isN, w_notN, w_not, w_and, w_or, w_and1, w_and2, w_or1, w_or2, wp_tst, w_ite, w_tup, w_lst, w_ix, w_slc, w_oN, w_oS, w_fld, wp_shut, w_prop, w_call, w_callK, w_mk, w_mkK, w_mkR, w_bi, w_bm, w_isi, w_rngT, w_comp, w_new, w_frz, w_srt, w_isB, w_nil, w_cons, w_seq, w_rng, w_enm, w_zip, s_asg, s_setIx, s_setFld, s_ret, s_retN, s_if, s_expr, s_brk, s_cnt, s_pass, s_nil, s_cons, s_for, s_whl, wp_ok, wp_bad, wp_bind, wp_opt, wp_optN, wp_if, wp_run, g_call, g_call1, g_deep, g_con, asgT, asgTs, startE, wipeE, q2]
    have kp : Kp h2 (h'.set h2.length .dead) := ⟨by simp; exact hK.len, fun m l => (getC_ne (by omega)).trans (hK.kp m l)⟩
    refine ⟨rfl, ?_⟩
    have := kp.trans q3
    simpa using this
end Cl
/-! text W1 -/
set_option maxHeartbeats 1000007
namespace Cl
open PySem
theorem with_slips_d {k : Nat} {h : Sto} {p : Pt} {s : Option Int} (ok : LnOk p) (hs : ∀ v, s = some v → 0 ≤ v ∧ v ≤ 8) :
    Wp (callI TB.tb (k + 8) i_with_slips [p.o, slipD s] h) fun d h' => d = ({ p with slips := s } : Pt).o ∧ Kp h h' := by
  have ok2 : LnOk { p with slips := s } := { ok with sl := hs }
  rw [c_with_slips]
  simp -implicitDefEqProofs [F_with_slips, w_var, w_lit, w_glo, w_bin, w_neg, w_cmp, w_chain, w_isN, w_notN, w_not, w_and, w_or, w_and1, w_and2, w_or1, w_or2, wp_tst, w_ite, w_tup, w_lst, w_ix, w_slc, w_oN, w_oS, w_fld, wp_shut, w_prop, w_call, w_callK, w_mk, w_mkK, w_mkR, w_bi, w_bm, w_isi, w_rngT, w_comp, w_new, w_frz, w_srt, w_isB, w_nil, w_cons, w_seq, w_rng, w_enm, w_zip, s_asg, s_setIx, s_setFld, s_ret, s_retN, s_if, s_expr, s_brk, s_cnt, s_pass, s_nil, s_cons, s_for, s_whl, wp_ok, wp_bad, wp_bind, wp_opt, wp_optN, wp_if, wp_run, g_call, g_call1, g_deep, g_con, asgT, asgTs, startE, wipeE, is_slips_ok hs, tru_bl, cls_o, get_tasks, get_order, get_models, get_states, get_start]
  refine (mk_t ok2 ⟨true, true, rfl⟩).imp fun d h3 ⟨q1, q2, q3⟩ => ?_
  subst q1
  simp -implicitDefEqProofs [w_var, w_lit, w_glo, w_bin, w_neg, w_cmp, w_chain, w_isN, w_notN, w_not, w_and, w_or, w_and1, w_and2, w_or1, w_or2, wp_tst, w_ite, w_tup, w_lst, w_ix, w_slc, w_oN, w_oS, w_fld, wp_shut, w_prop, w_call, w_callK, w_mk, w_mkK, w_mkR, w_bi, w_bm, w_isi, w_rngT, w_comp, w_new, w_frz, w_srt, w_isB, w_nil, w_cons, w_seq, w_rng, w_enm, w_zip, s_asg, s_setIx, s_setFld, s_ret, s_retN, s_if, s_expr, s_brk, s_cnt, s_pass, s_nil, s_cons, s_for, s_whl, wp_ok, wp_bad, wp_bind, wp_opt, wp_optN, wp_if, wp_run, g_call, g_call1, g_deep, g_con, asgT, asgTs, startE, wipeE, q2]
  exact ⟨rfl, q3⟩
theorem with_times_d {k : Nat} {h : Sto} {p : Pt} {b b' : Bool} {js : List (Int × Int)} (ok : LnOk p) (hl : js.length = p.jobs.length) (hj : ∀ j ∈ js, 0 ≤ j.1 ∧ j.1 ≤ j.2 ∧ j.2 ≤ 10000) :
    Wp (callI TB.tb (k + 8) i_with_times [p.o, sqV b (js.map (prS b'))] h) fun d h' => d = ({ p with jobs := js } : Pt).o ∧ Kp h h' := by
  have ok2 : LnOk { p with jobs := js } := { ok with j0 := by show 0 < js.length; rw [hl]; exact ok.j0, j1 := by show js.length ≤ 24; rw [hl]; exact ok.j1, jt := hj, po := by show Ord js.length p.pairs; rw [hl]; exact ok.po, kt := fun ks h => by show ks.Sublist (upto js.length); rw [hl]; exact ok.kt ks h }
  have e0 : ((js.length : Int) == p.jobs.length) = true := by simp [hl]
  rw [c_with_times]
  simp -implicitDefEqProofs [F_with_times, w_var, w_lit, w_glo, w_bin, w_neg, w_cmp, w_chain, w_isN, w_notN, w_not, w_and, w_or, w_and1, w_and2, w_or1, w_or2, wp_tst, w_ite, w_tup, w_lst, w_ix, w_slc, w_oN, w_oS, w_fld, wp_shut, w_prop, w_call, w_callK, w_mk, w_mkK, w_mkR, w_bi, w_bm, w_isi, w_rngT, w_comp, w_new, w_frz, w_srt, w_isB, w_nil, w_cons, w_seq, w_rng, w_enm, w_zip, s_asg, s_setIx, s_setFld, s_ret, s_retN, s_if, s_expr, s_brk, s_cnt, s_pass, s_nil, s_cons, s_for, s_whl, wp_ok, wp_bad, wp_bind, wp_opt, wp_optN, wp_if, wp_run, g_call, g_call1, g_deep, g_con, asgT, asgTs, startE, wipeE, tru_bl, cls_o, get_tasks, get_order, get_models, get_states, get_start, get_slips, len_tup, is_seq_of, e0]
  try simp -implicitDefEqProofs [hl, w_var, w_lit, w_glo, w_bin, w_neg, w_cmp, w_chain, w_isN, w_notN, w_not, w_and, w_or, w_and1, w_and2, w_or1, w_or2, wp_tst, w_ite, w_tup, w_lst, w_ix, w_slc, w_oN, w_oS, w_fld, wp_shut, w_prop, w_call, w_callK, w_mk, w_mkK, w_mkR, w_bi, w_bm, w_isi, w_rngT, w_comp, w_new, w_frz, w_srt, w_isB, w_nil, w_cons, w_seq, w_rng, w_enm, w_zip, s_asg, s_setIx, s_setFld, s_ret, s_retN, s_if, s_expr, s_brk, s_cnt, s_pass, s_nil, s_cons, s_for, s_whl, wp_ok, wp_bad, wp_bind, wp_opt, wp_optN, wp_if, wp_run, g_call, g_call1, g_deep, g_con, asgT, asgTs, startE, wipeE, tru_bl, cls_o, get_tasks, get_order, get_models, get_states, get_start, get_slips, len_tup]
  refine (mk_t ok2 ⟨b, b', rfl⟩).imp fun d h3 ⟨q1, q2, q3⟩ => ?_
  subst q1
  simp -implicitDefEqProofs [w_var, w_lit, w_glo, w_bin, w_neg, w_cmp, w_chain, w_isN, w_notN, w_not, w_and, w_or, w_and1, w_and2, w_or1, w_or2, wp_tst, w_ite, w_tup, w_lst, w_ix, w_slc, w_oN, w_oS, w_fld, wp_shut, w_prop, w_call, w_callK, w_mk, w_mkK, w_mkR, w_bi, w_bm, w_isi, w_rngT, w_comp, w_new, w_frz, w_srt, w_isB, w_nil, w_cons, w_seq, w_rng, w_enm, w_zip, s_asg, s_setIx, s_setFld, s_ret, s_retN, s_if, s_expr, s_brk, s_cnt, s_pass, s_nil, s_cons, s_for, s_whl, wp_ok, wp_bad, wp_bind, wp_opt, wp_optN, wp_if, wp_run, g_call, g_call1, g_deep, g_con, asgT, asgTs, startE, wipeE, q2]
  exact ⟨rfl, q3⟩
end Cl
/-! text P1 -/
set_option maxHeartbeats 1000007
namespace Cl
open PySem
end Cl
/-! text P2 -/
set_option maxHeartbeats 1000007
namespace Cl
open PySem
/-- a comprehension over some data, each at its own end, some left out, the store as it was -/
theorem comp_fil {α : Type} {f : D → Sto → R (Option D)} {g e : α → D} {pr : α → Bool} {h : Sto} {P : List D → Sto → Prop} : ∀ {ps : List α} {acc : List D}, acc.length + ps.length < sizeLine →
    (∀ a ∈ ps, Wp (f (g a) h) fun o h1 => o = (if pr a = true then some (e a) else none) ∧ h1 = h) → P (acc ++ (ps.filter pr).map e) h → Wp (compL f (ps.map g) acc h) P
  | [], acc, _, _, hp => by
    simp only [List.filter_nil, List.map_nil, List.append_nil] at hp
    exact wp_ok.mpr hp
  | a :: ps, acc, hs, hf, hp => by
    show Wp ((f (g a) h).bind _) P
    rw [wp_bind]
    rw [List.length_cons] at hs
    refine (hf a List.mem_cons_self).imp fun o h1 ⟨eo, eh⟩ => ?_
    subst eh
    cases hpa : pr a with
    | true =>
      rw [hpa, if_pos rfl] at eo
      subst eo
      show Wp (ifR _ _) P
      rw [wp_if]
      refine ⟨decide_eq_true (by omega), comp_fil (by rw [List.length_append, List.length_singleton]; omega) (fun b hb => hf b (List.mem_cons_of_mem _ hb)) ?_⟩
      rw [List.filter_cons, hpa, if_pos rfl, List.map_cons] at hp
      rw [List.append_assoc]
      exact hp
    | false =>
      rw [hpa, if_neg Bool.false_ne_true] at eo
      subst eo
      refine comp_fil (by omega) (fun b hb => hf b (List.mem_cons_of_mem _ hb)) ?_
      rw [List.filter_cons, hpa, if_neg Bool.false_ne_true] at hp
      exact hp
/-- .. none left out -/
theorem comp_all {α : Type} {f : D → Sto → R (Option D)} {g e : α → D} {h : Sto} {P : List D → Sto → Prop} {ps : List α} (hs : ps.length < sizeLine)
    (hf : ∀ a ∈ ps, Wp (f (g a) h) fun o h1 => o = some (e a) ∧ h1 = h) (hp : P (ps.map e) h) : Wp (compL f (ps.map g) [] h) P := by
  refine comp_fil (e := e) (pr := fun _ => true) (by simpa using hs) (fun a ha => (hf a ha).imp fun o h1 q => by simpa using q) ?_
  rw [List.nil_append, List.filter_eq_self.mpr fun a _ => rfl]
  exact hp
/-- the number at a place -/
def va (ms : List Int) (i : Int) : Int := ms.getD i.toNat 0
theorem at_va {ms : List Int} {i : Int} (h0 : 0 ≤ i) (h1 : i < ms.length) : L2.atI (ms.map D.int) i = some (.int (va ms i)) := by
  rw [at_map h0 h1]
  unfold va
  have : i.toNat < ms.length := by omega
  simp [List.getD, this]
theorem va_mem {ms : List Int} {i : Int} (h0 : 0 ≤ i) (h1 : i < ms.length) : va ms i ∈ ms := by
  have : i.toNat < ms.length := by omega
  unfold va
  simp [List.getD, this]
theorem va_set {ms : List Int} {i j v : Int} (h0 : 0 ≤ i) (h1 : i < ms.length) (j0 : 0 ≤ j) : va (ms.set i.toNat v) j = if j = i then v else va ms j := by
  unfold va
  by_cases e : j = i
  · subst e
    rw [if_pos rfl]
    have : j.toNat < ms.length := by omega
    simp [List.getD, this]
  · rw [if_neg e]
    have : i.toNat ≠ j.toNat := by omega
    simp [List.getD, List.getElem?_set_ne this]
theorem ixN_in {n : Nat} {i : Int} (h0 : 0 ≤ i) (h1 : i < n) : L2.ixN n i = some i.toNat := by
  unfold L2.ixN
  rw [if_pos (by omega), if_pos (by omega)]
section
variable {h : Sto} {p : Pt}
theorem dx0 : ixD p.d (.int 0) h = .ok (.tup (p.jobs.map prD)) h := by unfold Pt.d; rw [ix_tup, atI0]; rfl
theorem dx1 : ixD p.d (.int 1) h = .ok (.tup (p.pairs.map prD)) h := by unfold Pt.d; rw [ix_tup, at1]; rfl
theorem dx2 : ixD p.d (.int 2) h = .ok (.tup (p.kinds.map kindD)) h := by unfold Pt.d; rw [ix_tup, at2]; rfl
theorem dx3 : ixD p.d (.int 3) h = .ok (.tup (p.states.map arcD)) h := by unfold Pt.d; rw [ix_tup, at3]; rfl
theorem dx4 : ixD p.d (.int 4) h = .ok (.int p.start) h := by unfold Pt.d; rw [ix_tup, at4]; rfl
theorem dx5 : ixD p.d (.int 5) h = .ok (slipD p.slips) h := by unfold Pt.d; rw [ix_tup, at5]; rfl
theorem px0 {q : Int × Int} : ixD (prD q) (.int 0) h = .ok (.int q.1) h := by unfold prD; rw [ix_tup, atI0]; rfl
theorem px1 {q : Int × Int} : ixD (prD q) (.int 1) h = .ok (.int q.2) h := by unfold prD; rw [ix_tup, at1]; rfl
theorem bls_map {α : Type} (q : α → Bool) : ∀ xs : List α, blsOf (xs.map fun x => D.bl (q x)) = some (xs.map q)
  | [] => rfl
  | x :: xs => by
    rw [List.map_cons]
    unfold blsOf
    rw [bls_map q xs]
    rfl
theorem all_map {α : Type} {q : α → Bool} {xs : List α} : biD .all [.lst (xs.map fun x => D.bl (q x))] h = .ok (.bl (xs.all q)) h := by
  simp [biD, lstOf, bls_map, List.all_map, Function.comp_def]
theorem ints_map : ∀ xs : List Int, intsOf (xs.map D.int) = some xs
  | [] => rfl
  | x :: xs => by
    rw [List.map_cons]
    unfold intsOf
    rw [ints_map xs]
theorem max_ints {x : Int} {xs : List Int} : biD .max [.lst (.int x :: xs.map D.int)] h = .ok (.int (maxI x xs)) h := by
  have : intsOf (.int x :: xs.map D.int) = some (x :: xs) := ints_map (x :: xs)
  simp [biD, seqI, lstOf, this]
end
theorem maxI_ge : ∀ (xs : List Int) (m : Int), m ≤ maxI m xs ∧ (∀ x ∈ xs, x ≤ maxI m xs) ∧ (maxI m xs = m ∨ maxI m xs ∈ xs)
  | [], m => ⟨Int.le_refl _, fun x hx => (by cases hx), .inl rfl⟩
  | x :: xs, m => by
    obtain ⟨a, b, c⟩ := maxI_ge xs (if x > m then x else m)
    show m ≤ maxI (if x > m then x else m) xs ∧ (∀ y ∈ x :: xs, y ≤ maxI (if x > m then x else m) xs) ∧ (maxI (if x > m then x else m) xs = m ∨ maxI (if x > m then x else m) xs ∈ x :: xs)
    generalize maxI (if x > m then x else m) xs = w at a b c ⊢
    refine ⟨?_, fun y hy => ?_, ?_⟩
    · split at a <;> omega
    · rcases List.mem_cons.mp hy with rfl | hy
      · split at a <;> omega
      · exact b y hy
    · rcases c with c | c
      · split at c
        · exact .inr (by rw [c]; exact List.mem_cons_self)
        · exact .inl c
      · exact .inr (List.mem_cons_of_mem _ c)
/-- the tasks ahead of a task -/
def befs (ps : List (Int × Int)) (k : Int) : List Int := (ps.filter fun q => q.2 == k).map (·.1)
theorem mem_befs {ps : List (Int × Int)} {k x : Int} : x ∈ befs ps k ↔ (x, k) ∈ ps := by
  unfold befs
  rw [List.mem_map]
  constructor
  · rintro ⟨q, hq, rfl⟩
    obtain ⟨h1, h2⟩ := List.mem_filter.mp hq
    obtain ⟨a, b⟩ := q
    have : b = k := by simpa using h2
    subst this
    exact h1
  · intro h
    exact ⟨(x, k), List.mem_filter.mpr ⟨h, by simp⟩, rfl⟩
/-- a plan that fits -/
structure PlanOk (p : Pt) (stations : Int) (ms : List Int) : Prop where
  len : ms.length = p.jobs.length
  rg : ∀ x ∈ ms, 0 ≤ x ∧ x < stations
  ord : ∀ q ∈ p.pairs, va ms q.1 ≤ va ms q.2
end Cl
/-! text P3 -/
set_option maxHeartbeats 1000007
namespace Cl
open PySem
/-- a plan that is being made -/
structure Half (p : Pt) (stations : Int) (f : Int → Nat) (t : Nat) (k : Nat) (ms : List Int) : Prop where
  len : ms.length = p.jobs.length
  rg : ∀ x ∈ ms, x = -1 ∨ (0 ≤ x ∧ x < stations)
  ord : ∀ q ∈ p.pairs, 0 ≤ va ms q.2 → 0 ≤ va ms q.1 ∧ va ms q.1 ≤ va ms q.2
  go : ∀ x : Int, 0 ≤ x → x < p.jobs.length → (f x < t ∨ (f x = t ∧ x < k)) → 0 ≤ va ms x
end Cl
/-! text P4 -/
set_option maxHeartbeats 1000007
namespace Cl
open PySem
/-- an integer from 0 on below many -/
def okE (many : Int) : D → Bool
  | .int i => decide (0 ≤ i) && decide (i ≤ many - 1)
  | _ => false
/-- a plain value -/
inductive Plain : D → Prop where
  | non : Plain .non
  | bl {b : Bool} : Plain (.bl b)
  | int {i : Int} : Plain (.int i)
  | str {s : Str} : Plain (.str s)
section
variable {k : Nat} {h : Sto} {P : D → Sto → Prop}
theorem is_integer_pl {d : D} (hp : Plain d) : Wp (callI TB.tb (k + 1) i_is_integer [d] h) P = P (.bl (match d with | .int _ => true | _ => false)) h := by
  rw [c_is_integer]
  cases hp <;> simp -implicitDefEqProofs [F_is_integer, w_var, w_lit, w_glo, w_bin, w_neg, w_cmp, w_chain, w_isN, w_notN, w_not, w_and, w_or, w_and1, w_and2, w_or1, w_or2, wp_tst, w_ite, w_tup, w_lst, w_ix, w_slc, w_oN, w_oS, w_fld, wp_shut, w_prop, w_call, w_callK, w_mk, w_mkK, w_mkR, w_bi, w_bm, w_isi, w_rngT, w_comp, w_new, w_frz, w_srt, w_isB, w_nil, w_cons, w_seq, w_rng, w_enm, w_zip, s_asg, s_setIx, s_setFld, s_ret, s_retN, s_if, s_expr, s_brk, s_cnt, s_pass, s_nil, s_cons, s_for, s_whl, wp_ok, wp_bad, wp_bind, wp_opt, wp_optN, wp_if, wp_run, g_call, g_call1, g_deep, g_con, asgT, asgTs, startE, wipeE, ty_int, ty_bl, ty_str, ty_non, kI, kB, kS, kN]
theorem is_integer_in_pl {d : D} {many : Int} (hp : Plain d) : Wp (callI TB.tb (k + 2) i_is_integer_in [d, .int 0, .int (many - 1)] h) P = P (.bl (okE many d)) h := by
  cases hp with
  | int =>
    rw [is_integer_in_int]
    rfl
  | non =>
    rw [c_is_integer_in]
    simp -implicitDefEqProofs [F_is_integer_in, w_var, w_lit, w_glo, w_bin, w_neg, w_cmp, w_chain, w_isN, w_notN, w_not, w_and, w_or, w_and1, w_and2, w_or1, w_or2, wp_tst, w_ite, w_tup, w_lst, w_ix, w_slc, w_oN, w_oS, w_fld, wp_shut, w_prop, w_call, w_callK, w_mk, w_mkK, w_mkR, w_bi, w_bm, w_isi, w_rngT, w_comp, w_new, w_frz, w_srt, w_isB, w_nil, w_cons, w_seq, w_rng, w_enm, w_zip, s_asg, s_setIx, s_setFld, s_ret, s_retN, s_if, s_expr, s_brk, s_cnt, s_pass, s_nil, s_cons, s_for, s_whl, wp_ok, wp_bad, wp_bind, wp_opt, wp_optN, wp_if, wp_run, g_call, g_call1, g_deep, g_con, asgT, asgTs, startE, wipeE, is_integer_pl Plain.non, okE]
  | bl =>
    rw [c_is_integer_in]
    simp -implicitDefEqProofs [F_is_integer_in, w_var, w_lit, w_glo, w_bin, w_neg, w_cmp, w_chain, w_isN, w_notN, w_not, w_and, w_or, w_and1, w_and2, w_or1, w_or2, wp_tst, w_ite, w_tup, w_lst, w_ix, w_slc, w_oN, w_oS, w_fld, wp_shut, w_prop, w_call, w_callK, w_mk, w_mkK, w_mkR, w_bi, w_bm, w_isi, w_rngT, w_comp, w_new, w_frz, w_srt, w_isB, w_nil, w_cons, w_seq, w_rng, w_enm, w_zip, s_asg, s_setIx, s_setFld, s_ret, s_retN, s_if, s_expr, s_brk, s_cnt, s_pass, s_nil, s_cons, s_for, s_whl, wp_ok, wp_bad, wp_bind, wp_opt, wp_optN, wp_if, wp_run, g_call, g_call1, g_deep, g_con, asgT, asgTs, startE, wipeE, is_integer_pl (Plain.bl (b := _)), okE]
  | str =>
    rw [c_is_integer_in]
    simp -implicitDefEqProofs [F_is_integer_in, w_var, w_lit, w_glo, w_bin, w_neg, w_cmp, w_chain, w_isN, w_notN, w_not, w_and, w_or, w_and1, w_and2, w_or1, w_or2, wp_tst, w_ite, w_tup, w_lst, w_ix, w_slc, w_oN, w_oS, w_fld, wp_shut, w_prop, w_call, w_callK, w_mk, w_mkK, w_mkR, w_bi, w_bm, w_isi, w_rngT, w_comp, w_new, w_frz, w_srt, w_isB, w_nil, w_cons, w_seq, w_rng, w_enm, w_zip, s_asg, s_setIx, s_setFld, s_ret, s_retN, s_if, s_expr, s_brk, s_cnt, s_pass, s_nil, s_cons, s_for, s_whl, wp_ok, wp_bad, wp_bind, wp_opt, wp_optN, wp_if, wp_run, g_call, g_call1, g_deep, g_con, asgT, asgTs, startE, wipeE, is_integer_pl (Plain.str (s := _)), okE]
theorem is_seq_pl {d : D} (hp : Plain d) : Wp (callI TB.tb (k + 1) i_is_sequence [d] h) P = P (.bl false) h := by
  rw [c_is_sequence]
  cases hp <;> simp -implicitDefEqProofs [F_is_sequence, w_var, w_lit, w_glo, w_bin, w_neg, w_cmp, w_chain, w_isN, w_notN, w_not, w_and, w_or, w_and1, w_and2, w_or1, w_or2, wp_tst, w_ite, w_tup, w_lst, w_ix, w_slc, w_oN, w_oS, w_fld, wp_shut, w_prop, w_call, w_callK, w_mk, w_mkK, w_mkR, w_bi, w_bm, w_isi, w_rngT, w_comp, w_new, w_frz, w_srt, w_isB, w_nil, w_cons, w_seq, w_rng, w_enm, w_zip, s_asg, s_setIx, s_setFld, s_ret, s_retN, s_if, s_expr, s_brk, s_cnt, s_pass, s_nil, s_cons, s_for, s_whl, wp_ok, wp_bad, wp_bind, wp_opt, wp_optN, wp_if, wp_run, g_call, g_call1, g_deep, g_con, asgT, asgTs, startE, wipeE, ty_int, ty_bl, ty_str, ty_non, kI, kB, kS, kN]
/-- integers below many, of any plain values -/
theorem below_pl {b : Bool} {xs : List D} {many : Int} (hl : xs.length ≤ 1000) (hx : ∀ x ∈ xs, Plain x) : Wp (callI TB.tb (k + 3) i_are_below [sqV b xs, .int many] h) fun d h' => d = .bl (xs.all (okE many)) ∧ h' = h := by
  have big := sz
  rw [c_are_below]
  simp -implicitDefEqProofs [F_are_below, w_var, w_lit, w_glo, w_bin, w_neg, w_cmp, w_chain, w_isN, w_notN, w_not, w_and, w_or, w_and1, w_and2, w_or1, w_or2, wp_tst, w_ite, w_tup, w_lst, w_ix, w_slc, w_oN, w_oS, w_fld, wp_shut, w_prop, w_call, w_callK, w_mk, w_mkK, w_mkR, w_bi, w_bm, w_isi, w_rngT, w_comp, w_new, w_frz, w_srt, w_isB, w_nil, w_cons, w_seq, w_rng, w_enm, w_zip, s_asg, s_setIx, s_setFld, s_ret, s_retN, s_if, s_expr, s_brk, s_cnt, s_pass, s_nil, s_cons, s_for, s_whl, wp_ok, wp_bad, wp_bind, wp_opt, wp_optN, wp_if, wp_run, g_call, g_call1, g_deep, g_con, asgT, asgTs, startE, wipeE, is_seq_sq, tru_bl, it_sq, lockN, freeN]
  have e0 : xs = xs.map id := by simp
  rw [e0]
  refine comp_all (e := fun x => D.bl (okE many x)) (by omega) (fun a ha => ?_) ?_
  · unfold compF
    simp -implicitDefEqProofs [w_var, w_lit, w_glo, w_bin, w_neg, w_cmp, w_chain, w_isN, w_notN, w_not, w_and, w_or, w_and1, w_and2, w_or1, w_or2, wp_tst, w_ite, w_tup, w_lst, w_ix, w_slc, w_oN, w_oS, w_fld, wp_shut, w_prop, w_call, w_callK, w_mk, w_mkK, w_mkR, w_bi, w_bm, w_isi, w_rngT, w_comp, w_new, w_frz, w_srt, w_isB, w_nil, w_cons, w_seq, w_rng, w_enm, w_zip, s_asg, s_setIx, s_setFld, s_ret, s_retN, s_if, s_expr, s_brk, s_cnt, s_pass, s_nil, s_cons, s_for, s_whl, wp_ok, wp_bad, wp_bind, wp_opt, wp_optN, wp_if, wp_run, g_call, g_call1, g_deep, g_con, asgT, asgTs, startE, wipeE, sub_int, is_integer_in_pl (hx a ha)]
  · rw [all_map, wp_ok, List.map_id]
    exact ⟨rfl, rfl⟩
theorem below_not {d : D} {many : Int} (hp : Plain d) : Wp (callI TB.tb (k + 3) i_are_below [d, .int many] h) fun d h' => d = .bl false ∧ h' = h := by
  rw [c_are_below]
  simp -implicitDefEqProofs [F_are_below, w_var, w_lit, w_glo, w_bin, w_neg, w_cmp, w_chain, w_isN, w_notN, w_not, w_and, w_or, w_and1, w_and2, w_or1, w_or2, wp_tst, w_ite, w_tup, w_lst, w_ix, w_slc, w_oN, w_oS, w_fld, wp_shut, w_prop, w_call, w_callK, w_mk, w_mkK, w_mkR, w_bi, w_bm, w_isi, w_rngT, w_comp, w_new, w_frz, w_srt, w_isB, w_nil, w_cons, w_seq, w_rng, w_enm, w_zip, s_asg, s_setIx, s_setFld, s_ret, s_retN, s_if, s_expr, s_brk, s_cnt, s_pass, s_nil, s_cons, s_for, s_whl, wp_ok, wp_bad, wp_bind, wp_opt, wp_optN, wp_if, wp_run, g_call, g_call1, g_deep, g_con, asgT, asgTs, startE, wipeE, is_seq_pl hp]
theorem eqD_bl {a b : Bool} : eqD h (.bl a) (.bl b) = some (a == b) := by
  simp [eqD, topPy, toPy, shp, SeqAt.shaped, PyData.canLay0, PyData.depth, PyData.eqv]
theorem eq_bl {a b : Bool} : cmpD .eq (.bl a) (.bl b) h = .ok (.bl (a == b)) h := by
  simp [cmpD, eqD_bl]
theorem law_set_d {xs : List D} {i : Int} {v : D} (i0 : 0 ≤ i) (i1 : i < xs.length) : Wp (callI TB.tb (k + 1) i__law_set [.tup xs, .int i, v] h) fun d h' => d = .tup (xs.set i.toNat v) ∧ Kp h h' := by
  rw [c__law_set]
  have ij := ixN_in i0 i1
  have g0 : getC (h ++ [.lst xs]) h.length = .lst xs := getC_new
  simp -implicitDefEqProofs [F__law_set, w_var, w_lit, w_glo, w_bin, w_neg, w_cmp, w_chain, w_isN, w_notN, w_not, w_and, w_or, w_and1, w_and2, w_or1, w_or2, wp_tst, w_ite, w_tup, w_lst, w_ix, w_slc, w_oN, w_oS, w_fld, wp_shut, w_prop, w_call, w_callK, w_mk, w_mkK, w_mkR, w_bi, w_bm, w_isi, w_rngT, w_comp, w_new, w_frz, w_srt, w_isB, w_nil, w_cons, w_seq, w_rng, w_enm, w_zip, s_asg, s_setIx, s_setFld, s_ret, s_retN, s_if, s_expr, s_brk, s_cnt, s_pass, s_nil, s_cons, s_for, s_whl, wp_ok, wp_bad, wp_bind, wp_opt, wp_optN, wp_if, wp_run, g_call, g_call1, g_deep, g_con, asgT, asgTs, startE, wipeE, list_tup, g0, ij]
  have g1 : getC ((h ++ [Cell.lst xs]).set h.length (.lst (xs.set i.toNat v))) h.length = .lst (xs.set i.toNat v) := getC_set (by simp)
  have kp : Kp h ((h ++ [Cell.lst xs]).set h.length (.lst (xs.set i.toNat v))) := ⟨by simp, fun m l => (getC_ne (by omega)).trans (getC_app l)⟩
  first
    | (rw [tuple_ref g1, wp_ok]; exact ⟨rfl, kp⟩)
    | (simp at g1 kp
       rw [tuple_ref g1, wp_ok]
       exact ⟨rfl, kp⟩)
end
end Cl
/-! text Y1 -/
set_option maxHeartbeats 1000007
namespace Cl
open PySem
/-- this exception, older cells kept -/
def Re (c0 : Nat) (d0 : D) (h : Sto) : Nat → D → Sto → Prop := fun c d h1 => c = c0 ∧ d = d0 ∧ Kp h h1
/-- an integer from a to b -/
def okB (a b : Int) : D → Bool
  | .int i => decide (a ≤ i) && decide (i ≤ b)
  | _ => false
theorem re_kp {α : Type} {c0 : Nat} {d0 : D} {h h1 : Sto} {r : R α} {P : α → Sto → Prop} (K : Kp h h1) (w : Wx (Re c0 d0 h1) r P) : Wx (Re c0 d0 h) r P :=
  w.imp2 (fun _ _ z => z) fun _ _ _ ⟨a, b, c⟩ => ⟨a, b, K.trans c⟩
section
variable {k : Nat} {h : Sto} {p : Pt} {P : D → Sto → Prop} {Z : Nat → D → Sto → Prop}
theorem re_now {c0 : Nat} {d0 : D} {h1 : Sto} (K : Kp h h1) : Re c0 d0 h c0 d0 h1 := ⟨rfl, rfl, K⟩
theorem is_integer_in_any {d : D} {a b : Int} (hp : Plain d) : Wp (callI TB.tb (k + 2) i_is_integer_in [d, .int a, .int b] h) P = P (.bl (okB a b d)) h := by
  cases hp with
  | int =>
    rw [is_integer_in_int]
    rfl
  | non =>
    rw [c_is_integer_in]
    simp -implicitDefEqProofs [F_is_integer_in, w_var, w_lit, w_glo, w_bin, w_neg, w_cmp, w_chain, w_isN, w_notN, w_not, w_and, w_or, w_and1, w_and2, w_or1, w_or2, wp_tst, w_ite, w_tup, w_lst, w_ix, w_slc, w_oN, w_oS, w_fld, wp_shut, w_prop, w_call, w_callK, w_mk, w_mkK, w_mkR, w_bi, w_bm, w_isi, w_rngT, w_comp, w_new, w_frz, w_srt, w_isB, w_nil, w_cons, w_seq, w_rng, w_enm, w_zip, s_asg, s_setIx, s_setFld, s_ret, s_retN, s_if, s_expr, s_brk, s_cnt, s_pass, s_nil, s_cons, s_for, s_whl, wp_ok, wp_bad, wp_bind, wp_opt, wp_optN, wp_if, wp_run, g_call, g_call1, g_deep, g_con, asgT, asgTs, startE, wipeE, is_integer_pl Plain.non, okB]
  | bl =>
    rw [c_is_integer_in]
    simp -implicitDefEqProofs [F_is_integer_in, w_var, w_lit, w_glo, w_bin, w_neg, w_cmp, w_chain, w_isN, w_notN, w_not, w_and, w_or, w_and1, w_and2, w_or1, w_or2, wp_tst, w_ite, w_tup, w_lst, w_ix, w_slc, w_oN, w_oS, w_fld, wp_shut, w_prop, w_call, w_callK, w_mk, w_mkK, w_mkR, w_bi, w_bm, w_isi, w_rngT, w_comp, w_new, w_frz, w_srt, w_isB, w_nil, w_cons, w_seq, w_rng, w_enm, w_zip, s_asg, s_setIx, s_setFld, s_ret, s_retN, s_if, s_expr, s_brk, s_cnt, s_pass, s_nil, s_cons, s_for, s_whl, wp_ok, wp_bad, wp_bind, wp_opt, wp_optN, wp_if, wp_run, g_call, g_call1, g_deep, g_con, asgT, asgTs, startE, wipeE, is_integer_pl (Plain.bl (b := _)), okB]
  | str =>
    rw [c_is_integer_in]
    simp -implicitDefEqProofs [F_is_integer_in, w_var, w_lit, w_glo, w_bin, w_neg, w_cmp, w_chain, w_isN, w_notN, w_not, w_and, w_or, w_and1, w_and2, w_or1, w_or2, wp_tst, w_ite, w_tup, w_lst, w_ix, w_slc, w_oN, w_oS, w_fld, wp_shut, w_prop, w_call, w_callK, w_mk, w_mkK, w_mkR, w_bi, w_bm, w_isi, w_rngT, w_comp, w_new, w_frz, w_srt, w_isB, w_nil, w_cons, w_seq, w_rng, w_enm, w_zip, s_asg, s_setIx, s_setFld, s_ret, s_retN, s_if, s_expr, s_brk, s_cnt, s_pass, s_nil, s_cons, s_for, s_whl, wp_ok, wp_bad, wp_bind, wp_opt, wp_optN, wp_if, wp_run, g_call, g_call1, g_deep, g_con, asgT, asgTs, startE, wipeE, is_integer_pl (Plain.str (s := _)), okB]
theorem bv_init : (∃ v h', callI TB.tb (k + 1) i_BadValue___init__ [D.non, D.non] h = R.ok v h') = True := by
  refine eq_true ⟨.non, h, ?_⟩
  rw [c_BadValue___init__]
  rfl
theorem bt_init : (∃ v h', callI TB.tb (k + 1) i_BadTask___init__ [D.non, D.non] h = R.ok v h') = True := by
  refine eq_true ⟨.non, h, ?_⟩
  rw [c_BadTask___init__]
  rfl
theorem bp_init : (∃ v h', callI TB.tb (k + 1) i_BadPair___init__ [D.non, D.non] h = R.ok v h') = True := by
  refine eq_true ⟨.non, h, ?_⟩
  rw [c_BadPair___init__]
  rfl
theorem bm_init : (∃ v h', callI TB.tb (k + 1) i_BadModel___init__ [D.non, D.non] h = R.ok v h') = True := by
  refine eq_true ⟨.non, h, ?_⟩
  rw [c_BadModel___init__]
  rfl
theorem seqof_pl {d : D} {n : Int} (hp : Plain d) : Wp (callI TB.tb (k + 2) i_is_sequence_of [d, .int n] h) P = P (.bl false) h := by
  rw [c_is_sequence_of]
  simp -implicitDefEqProofs [F_is_sequence_of, w_var, w_lit, w_glo, w_bin, w_neg, w_cmp, w_chain, w_isN, w_notN, w_not, w_and, w_or, w_and1, w_and2, w_or1, w_or2, wp_tst, w_ite, w_tup, w_lst, w_ix, w_slc, w_oN, w_oS, w_fld, wp_shut, w_prop, w_call, w_callK, w_mk, w_mkK, w_mkR, w_bi, w_bm, w_isi, w_rngT, w_comp, w_new, w_frz, w_srt, w_isB, w_nil, w_cons, w_seq, w_rng, w_enm, w_zip, s_asg, s_setIx, s_setFld, s_ret, s_retN, s_if, s_expr, s_brk, s_cnt, s_pass, s_nil, s_cons, s_for, s_whl, wp_ok, wp_bad, wp_bind, wp_opt, wp_optN, wp_if, wp_run, g_call, g_call1, g_deep, g_con, asgT, asgTs, startE, wipeE, is_seq_pl hp, tru_bl]
theorem seqof_tup {xs : List D} {n : Int} : Wp (callI TB.tb (k + 2) i_is_sequence_of [.tup xs, .int n] h) P = P (.bl ((xs.length : Int) == n)) h := is_seq_of (b := true)
theorem filled_pl {d : D} (hp : Plain d) : Wp (callI TB.tb (k + 2) i_is_filled [d] h) P = P (.bl false) h := by
  rw [c_is_filled]
  simp -implicitDefEqProofs [F_is_filled, w_var, w_lit, w_glo, w_bin, w_neg, w_cmp, w_chain, w_isN, w_notN, w_not, w_and, w_or, w_and1, w_and2, w_or1, w_or2, wp_tst, w_ite, w_tup, w_lst, w_ix, w_slc, w_oN, w_oS, w_fld, wp_shut, w_prop, w_call, w_callK, w_mk, w_mkK, w_mkR, w_bi, w_bm, w_isi, w_rngT, w_comp, w_new, w_frz, w_srt, w_isB, w_nil, w_cons, w_seq, w_rng, w_enm, w_zip, s_asg, s_setIx, s_setFld, s_ret, s_retN, s_if, s_expr, s_brk, s_cnt, s_pass, s_nil, s_cons, s_for, s_whl, wp_ok, wp_bad, wp_bind, wp_opt, wp_optN, wp_if, wp_run, g_call, g_call1, g_deep, g_con, asgT, asgTs, startE, wipeE, is_seq_pl hp, tru_bl]
/-- no task -/
def NoTk (x : D) : Prop := ∀ (k : Nat) (h : Sto) (P : D → Sto → Prop), Wp (callI TB.tb (k + 3) i_is_task [x] h) P = P (.bl false) h
theorem notk_pl {x : D} (hp : Plain x) : NoTk x := fun k h P => by
  rw [c_is_task]
  simp -implicitDefEqProofs [F_is_task, w_var, w_lit, w_glo, w_bin, w_neg, w_cmp, w_chain, w_isN, w_notN, w_not, w_and, w_or, w_and1, w_and2, w_or1, w_or2, wp_tst, w_ite, w_tup, w_lst, w_ix, w_slc, w_oN, w_oS, w_fld, wp_shut, w_prop, w_call, w_callK, w_mk, w_mkK, w_mkR, w_bi, w_bm, w_isi, w_rngT, w_comp, w_new, w_frz, w_srt, w_isB, w_nil, w_cons, w_seq, w_rng, w_enm, w_zip, s_asg, s_setIx, s_setFld, s_ret, s_retN, s_if, s_expr, s_brk, s_cnt, s_pass, s_nil, s_cons, s_for, s_whl, wp_ok, wp_bad, wp_bind, wp_opt, wp_optN, wp_if, wp_run, g_call, g_call1, g_deep, g_con, asgT, asgTs, startE, wipeE, seqof_pl hp, tru_bl]
theorem notk_one {x : D} : NoTk (.tup [x]) := fun k h P => by
  rw [c_is_task]
  simp -implicitDefEqProofs [F_is_task, w_var, w_lit, w_glo, w_bin, w_neg, w_cmp, w_chain, w_isN, w_notN, w_not, w_and, w_or, w_and1, w_and2, w_or1, w_or2, wp_tst, w_ite, w_tup, w_lst, w_ix, w_slc, w_oN, w_oS, w_fld, wp_shut, w_prop, w_call, w_callK, w_mk, w_mkK, w_mkR, w_bi, w_bm, w_isi, w_rngT, w_comp, w_new, w_frz, w_srt, w_isB, w_nil, w_cons, w_seq, w_rng, w_enm, w_zip, s_asg, s_setIx, s_setFld, s_ret, s_retN, s_if, s_expr, s_brk, s_cnt, s_pass, s_nil, s_cons, s_for, s_whl, wp_ok, wp_bad, wp_bind, wp_opt, wp_optN, wp_if, wp_run, g_call, g_call1, g_deep, g_con, asgT, asgTs, startE, wipeE, seqof_tup, tru_bl]
theorem notk_fst {x y : D} (hp : Plain x) (hn : okB 0 10000 x = false) : NoTk (.tup [x, y]) := fun k h P => by
  have c := con_MOST_TIME
  simp only [Cv.d] at c
  rw [c_is_task]
  simp -implicitDefEqProofs [F_is_task, w_var, w_lit, w_glo, w_bin, w_neg, w_cmp, w_chain, w_isN, w_notN, w_not, w_and, w_or, w_and1, w_and2, w_or1, w_or2, wp_tst, w_ite, w_tup, w_lst, w_ix, w_slc, w_oN, w_oS, w_fld, wp_shut, w_prop, w_call, w_callK, w_mk, w_mkK, w_mkR, w_bi, w_bm, w_isi, w_rngT, w_comp, w_new, w_frz, w_srt, w_isB, w_nil, w_cons, w_seq, w_rng, w_enm, w_zip, s_asg, s_setIx, s_setFld, s_ret, s_retN, s_if, s_expr, s_brk, s_cnt, s_pass, s_nil, s_cons, s_for, s_whl, wp_ok, wp_bad, wp_bind, wp_opt, wp_optN, wp_if, wp_run, g_call, g_call1, g_deep, g_con, asgT, asgTs, startE, wipeE, seqof_tup, tru_bl, ix_tup, atI0, at1, c, is_integer_in_any hp, hn]
theorem notk_snd {x y : Int} (h0 : 0 ≤ x) (h1 : x ≤ 10000) (hn : y < x ∨ 10000 < y) : NoTk (.tup [.int x, .int y]) := fun k h P => by
  have c := con_MOST_TIME
  simp only [Cv.d] at c
  rw [c_is_task]
  rcases hn with hn | hn
  · have e : ¬ x ≤ y := by omega
    simp -implicitDefEqProofs [F_is_task, w_var, w_lit, w_glo, w_bin, w_neg, w_cmp, w_chain, w_isN, w_notN, w_not, w_and, w_or, w_and1, w_and2, w_or1, w_or2, wp_tst, w_ite, w_tup, w_lst, w_ix, w_slc, w_oN, w_oS, w_fld, wp_shut, w_prop, w_call, w_callK, w_mk, w_mkK, w_mkR, w_bi, w_bm, w_isi, w_rngT, w_comp, w_new, w_frz, w_srt, w_isB, w_nil, w_cons, w_seq, w_rng, w_enm, w_zip, s_asg, s_setIx, s_setFld, s_ret, s_retN, s_if, s_expr, s_brk, s_cnt, s_pass, s_nil, s_cons, s_for, s_whl, wp_ok, wp_bad, wp_bind, wp_opt, wp_optN, wp_if, wp_run, g_call, g_call1, g_deep, g_con, asgT, asgTs, startE, wipeE, seqof_tup, tru_bl, ix_tup, atI0, at1, c, is_integer_in_int, h0, h1, e]
  · have e : ¬ y ≤ 10000 := by omega
    simp -implicitDefEqProofs [F_is_task, w_var, w_lit, w_glo, w_bin, w_neg, w_cmp, w_chain, w_isN, w_notN, w_not, w_and, w_or, w_and1, w_and2, w_or1, w_or2, wp_tst, w_ite, w_tup, w_lst, w_ix, w_slc, w_oN, w_oS, w_fld, wp_shut, w_prop, w_call, w_callK, w_mk, w_mkK, w_mkR, w_bi, w_bm, w_isi, w_rngT, w_comp, w_new, w_frz, w_srt, w_isB, w_nil, w_cons, w_seq, w_rng, w_enm, w_zip, s_asg, s_setIx, s_setFld, s_ret, s_retN, s_if, s_expr, s_brk, s_cnt, s_pass, s_nil, s_cons, s_for, s_whl, wp_ok, wp_bad, wp_bind, wp_opt, wp_optN, wp_if, wp_run, g_call, g_call1, g_deep, g_con, asgT, asgTs, startE, wipeE, seqof_tup, tru_bl, ix_tup, atI0, at1, c, is_integer_in_int, h0, h1, e]
theorem tasks_bad {js : List (Int × Int)} {i : Nat} {x : D} (hj : ∀ j ∈ js, 0 ≤ j.1 ∧ j.1 ≤ j.2 ∧ j.2 ≤ 10000) (hi : i < js.length) (hx : NoTk x) :
    Wx (Re e_BadTask (.int i) h) (callI TB.tb (k + 5) i_tasks_with_tuples [.tup ((js.map prD).set i x)] h) P := by
  rw [c_tasks_with_tuples]
  simp -implicitDefEqProofs [F_tasks_with_tuples, x_var, x_lit, x_glo, x_bin, x_neg, x_cmp, x_chain, x_isN, x_notN, x_not, x_and, x_or, x_and1, x_and2, x_or1, x_or2, x_ite, x_tup, x_lst, x_ix, x_slc, x_oN, x_oS, x_fld, wx_shut, x_prop, x_call, x_callK, x_mk, x_mkK, x_mkR, x_bi, x_bm, x_isi, x_rngT, x_comp, x_new, x_frz, x_srt, x_isB, x_nil, x_cons, x_seq, x_rng, x_enm, x_zip, y_asg, y_setIx, y_setFld, y_ret, y_retN, y_if, y_expr, y_brk, y_cnt, y_pass, y_nil, y_cons, y_for, y_whl, wx_ok, wx_bad, wx_bind, wx_opt, wx_optN, wx_if, wx_run, g_call, g_call1, g_deep, g_con, asgT, asgTs, startE, wipeE, y_rse, wx_tst, w_var, w_lit, w_glo, w_bin, w_neg, w_cmp, w_chain, w_isN, w_notN, w_not, w_and, w_or, w_and1, w_and2, w_or1, w_or2, wp_tst, w_ite, w_tup, w_lst, w_ix, w_slc, w_oN, w_oS, w_fld, wp_shut, w_prop, w_call, w_callK, w_mk, w_mkK, w_mkR, w_bi, w_bm, w_isi, w_rngT, w_comp, w_new, w_frz, w_srt, w_isB, w_nil, w_cons, w_seq, w_rng, w_enm, w_zip, s_asg, s_setIx, s_setFld, s_ret, s_retN, s_if, s_expr, s_brk, s_cnt, s_pass, s_nil, s_cons, s_for, s_whl, wp_ok, wp_bad, wp_bind, wp_opt, wp_optN, wp_if, wp_run, g_call, g_call1, g_deep, g_con, asgT, asgTs, startE, wipeE, it_tup, lockN, freeN]
  refine wx_forL (fun j ρ h' => j ≤ i ∧ ∃ (x1 x2 : Option D), ρ = [some (.tup ((js.map prD).set i x)), x1, x2] ∧ h' = h) 0 ⟨Nat.zero_le _, none, none, rfl, rfl⟩ ?_ ?_
  · rintro j d ρ h' hd ⟨hji, x1, x2, rfl, rfl⟩
    obtain ⟨v, hv, rfl⟩ := enumL_get hd
    rw [Nat.zero_add] at hji ⊢
    by_cases e : j = i
    · subst e
      rw [List.getElem?_set_self (by simpa using hi)] at hv
      cases hv
      unfold forF
      simp -implicitDefEqProofs [x_var, x_lit, x_glo, x_bin, x_neg, x_cmp, x_chain, x_isN, x_notN, x_not, x_and, x_or, x_and1, x_and2, x_or1, x_or2, x_ite, x_tup, x_lst, x_ix, x_slc, x_oN, x_oS, x_fld, wx_shut, x_prop, x_call, x_callK, x_mk, x_mkK, x_mkR, x_bi, x_bm, x_isi, x_rngT, x_comp, x_new, x_frz, x_srt, x_isB, x_nil, x_cons, x_seq, x_rng, x_enm, x_zip, y_asg, y_setIx, y_setFld, y_ret, y_retN, y_if, y_expr, y_brk, y_cnt, y_pass, y_nil, y_cons, y_for, y_whl, wx_ok, wx_bad, wx_bind, wx_opt, wx_optN, wx_if, wx_run, g_call, g_call1, g_deep, g_con, asgT, asgTs, startE, wipeE, y_rse, wx_tst, w_var, w_lit, w_glo, w_bin, w_neg, w_cmp, w_chain, w_isN, w_notN, w_not, w_and, w_or, w_and1, w_and2, w_or1, w_or2, wp_tst, w_ite, w_tup, w_lst, w_ix, w_slc, w_oN, w_oS, w_fld, wp_shut, w_prop, w_call, w_callK, w_mk, w_mkK, w_mkR, w_bi, w_bm, w_isi, w_rngT, w_comp, w_new, w_frz, w_srt, w_isB, w_nil, w_cons, w_seq, w_rng, w_enm, w_zip, s_asg, s_setIx, s_setFld, s_ret, s_retN, s_if, s_expr, s_brk, s_cnt, s_pass, s_nil, s_cons, s_for, s_whl, wp_ok, wp_bad, wp_bind, wp_opt, wp_optN, wp_if, wp_run, g_call, g_call1, g_deep, g_con, asgT, asgTs, startE, wipeE, wx_eq fun P => hx _ _ P, tru_bl, bt_init]
      exact re_now (Kp.refl _)
    · rw [List.getElem?_set_ne (fun z => e z.symm), List.getElem?_map] at hv
      cases hpi : js[j]? with
      | none => rw [hpi] at hv; cases hv
      | some q =>
        rw [hpi] at hv
        cases hv
        obtain ⟨q1, q2, q3⟩ := hj q (List.mem_of_getElem? hpi)
        have tk : ∀ P : D → Sto → Prop, Wp (callI TB.tb (k + 4) i_is_task [prD q] h') P = P (.bl true) h' := fun P => is_task_ok (k := k + 1) (b := true) q1 q2 q3
        unfold forF
        simp -implicitDefEqProofs [x_var, x_lit, x_glo, x_bin, x_neg, x_cmp, x_chain, x_isN, x_notN, x_not, x_and, x_or, x_and1, x_and2, x_or1, x_or2, x_ite, x_tup, x_lst, x_ix, x_slc, x_oN, x_oS, x_fld, wx_shut, x_prop, x_call, x_callK, x_mk, x_mkK, x_mkR, x_bi, x_bm, x_isi, x_rngT, x_comp, x_new, x_frz, x_srt, x_isB, x_nil, x_cons, x_seq, x_rng, x_enm, x_zip, y_asg, y_setIx, y_setFld, y_ret, y_retN, y_if, y_expr, y_brk, y_cnt, y_pass, y_nil, y_cons, y_for, y_whl, wx_ok, wx_bad, wx_bind, wx_opt, wx_optN, wx_if, wx_run, g_call, g_call1, g_deep, g_con, asgT, asgTs, startE, wipeE, y_rse, wx_tst, w_var, w_lit, w_glo, w_bin, w_neg, w_cmp, w_chain, w_isN, w_notN, w_not, w_and, w_or, w_and1, w_and2, w_or1, w_or2, wp_tst, w_ite, w_tup, w_lst, w_ix, w_slc, w_oN, w_oS, w_fld, wp_shut, w_prop, w_call, w_callK, w_mk, w_mkK, w_mkR, w_bi, w_bm, w_isi, w_rngT, w_comp, w_new, w_frz, w_srt, w_isB, w_nil, w_cons, w_seq, w_rng, w_enm, w_zip, s_asg, s_setIx, s_setFld, s_ret, s_retN, s_if, s_expr, s_brk, s_cnt, s_pass, s_nil, s_cons, s_for, s_whl, wp_ok, wp_bad, wp_bind, wp_opt, wp_optN, wp_if, wp_run, g_call, g_call1, g_deep, g_con, asgT, asgTs, startE, wipeE, wx_eq tk, tru_bl]
        omega
  · rintro ρ h' ⟨hle, x1, x2, rfl, rfl⟩
    exfalso
    rw [enumL_length, List.length_set, List.length_map] at hle
    omega
end
end Cl
/-! text Y2 -/
set_option maxHeartbeats 1000007
namespace Cl
open PySem
section
variable {k n : Nat} {h : Sto} {p : Pt} {P : D → Sto → Prop} {Z : Nat → D → Sto → Prop} {xs : List D}
theorem seqof_x {m : Int} : Wx Z (callI TB.tb (k + 2) i_is_sequence_of [.tup xs, .int m] h) P = P (.bl ((xs.length : Int) == m)) h := wx_eq fun P => seqof_tup
theorem filled_x : Wx Z (callI TB.tb (k + 2) i_is_filled [.tup xs] h) P = P (.bl (decide (0 < (xs.length : Int)))) h := wx_eq fun P => is_filled_sq (b := true)
theorem isq_x : Wx Z (callI TB.tb (k + 1) i_is_sequence [.tup xs] h) P = P (.bl true) h := wx_eq fun P => is_sequence_tup
theorem int_x {i a b : Int} : Wx Z (callI TB.tb (k + 2) i_is_integer_in [.int i, .int a, .int b] h) P = P (.bl (decide (a ≤ i) && decide (i ≤ b))) h := wx_eq fun P => is_integer_in_int
theorem order_bad {ps : List (Int × Int)} {count : Nat} (hO : Ord count ps) (hl' : Few ps.length) (hc : 0 < count) :
    Wx (Re e_BadPair (.int ps.length) h) (callI TB.tb (k + 4) i_order_with_tuples [.tup (ps.map prD ++ [prD (0, 0)]), .int count] h) P := by
  obtain ⟨⟨f, _, hf⟩, hN⟩ := hO
  have big := sz
  have hl := hl'.le
  rw [c_order_with_tuples]
  simp -implicitDefEqProofs [F_order_with_tuples, x_var, x_lit, x_glo, x_bin, x_neg, x_cmp, x_chain, x_isN, x_notN, x_not, x_and, x_or, x_and1, x_and2, x_or1, x_or2, x_ite, x_tup, x_lst, x_ix, x_slc, x_oN, x_oS, x_fld, wx_shut, x_prop, x_call, x_callK, x_mk, x_mkK, x_mkR, x_bi, x_bm, x_isi, x_rngT, x_comp, x_new, x_frz, x_srt, x_isB, x_nil, x_cons, x_seq, x_rng, x_enm, x_zip, y_asg, y_setIx, y_setFld, y_ret, y_retN, y_if, y_expr, y_brk, y_cnt, y_pass, y_nil, y_cons, y_for, y_whl, wx_ok, wx_bad, wx_bind, wx_opt, wx_optN, wx_if, wx_run, g_call, g_call1, g_deep, g_con, asgT, asgTs, startE, wipeE, y_rse, wx_tst, w_var, w_lit, w_glo, w_bin, w_neg, w_cmp, w_chain, w_isN, w_notN, w_not, w_and, w_or, w_and1, w_and2, w_or1, w_or2, wp_tst, w_ite, w_tup, w_lst, w_ix, w_slc, w_oN, w_oS, w_fld, wp_shut, w_prop, w_call, w_callK, w_mk, w_mkK, w_mkR, w_bi, w_bm, w_isi, w_rngT, w_comp, w_new, w_frz, w_srt, w_isB, w_nil, w_cons, w_seq, w_rng, w_enm, w_zip, s_asg, s_setIx, s_setFld, s_ret, s_retN, s_if, s_expr, s_brk, s_cnt, s_pass, s_nil, s_cons, s_for, s_whl, wp_ok, wp_bad, wp_bind, wp_opt, wp_optN, wp_if, wp_run, g_call, g_call1, g_deep, g_con, asgT, asgTs, startE, wipeE, lim_ok, it_tup, lockN, freeN]
  refine wx_forL (fun i ρ h' => i ≤ ps.length ∧ ∃ (x y z : Option D), ρ = [some (.tup (ps.map prD ++ [prD (0, 0)])), some (.int count), some (.ref h.length), x, y, z] ∧ getC h' h.length = .lst ((ps.take i).map prD) ∧ Kp h h') 0 ⟨Nat.zero_le _, none, none, none, rfl, by simp [getC_new], ⟨by simp, fun m hm => getC_app hm⟩⟩ ?_ ?_
  · rintro i d ρ h' hd ⟨hil, x, y, z, rfl, hM, hK⟩
    obtain ⟨v, hv, rfl⟩ := enumL_get hd
    rw [Nat.zero_add] at hil hM ⊢
    by_cases e : i = ps.length
    · subst e
      rw [List.getElem?_append_right (by simp)] at hv
      simp at hv
      subst hv
      have bl : ∀ h, Wp (callI TB.tb (k + 3) i_are_below [.tup [.int 0, .int 0], .int count] h) fun d h' => d = .bl true ∧ h' = h := fun h => below_ok (b := true) (ns := [0, 0]) ⟨by simp⟩ (by simp; omega)
      unfold forF prD
      simp -implicitDefEqProofs [x_var, x_lit, x_glo, x_bin, x_neg, x_cmp, x_chain, x_isN, x_notN, x_not, x_and, x_or, x_and1, x_and2, x_or1, x_or2, x_ite, x_tup, x_lst, x_ix, x_slc, x_oN, x_oS, x_fld, wx_shut, x_prop, x_call, x_callK, x_mk, x_mkK, x_mkR, x_bi, x_bm, x_isi, x_rngT, x_comp, x_new, x_frz, x_srt, x_isB, x_nil, x_cons, x_seq, x_rng, x_enm, x_zip, y_asg, y_setIx, y_setFld, y_ret, y_retN, y_if, y_expr, y_brk, y_cnt, y_pass, y_nil, y_cons, y_for, y_whl, wx_ok, wx_bad, wx_bind, wx_opt, wx_optN, wx_if, wx_run, g_call, g_call1, g_deep, g_con, asgT, asgTs, startE, wipeE, y_rse, wx_tst, w_var, w_lit, w_glo, w_bin, w_neg, w_cmp, w_chain, w_isN, w_notN, w_not, w_and, w_or, w_and1, w_and2, w_or1, w_or2, wp_tst, w_ite, w_tup, w_lst, w_ix, w_slc, w_oN, w_oS, w_fld, wp_shut, w_prop, w_call, w_callK, w_mk, w_mkK, w_mkR, w_bi, w_bm, w_isi, w_rngT, w_comp, w_new, w_frz, w_srt, w_isB, w_nil, w_cons, w_seq, w_rng, w_enm, w_zip, s_asg, s_setIx, s_setFld, s_ret, s_retN, s_if, s_expr, s_brk, s_cnt, s_pass, s_nil, s_cons, s_for, s_whl, wp_ok, wp_bad, wp_bind, wp_opt, wp_optN, wp_if, wp_run, g_call, g_call1, g_deep, g_con, asgT, asgTs, startE, wipeE, seqof_x]
      refine (bl _).x fun d h1 ⟨e1, e2⟩ => ?_
      subst e1
      subst e2
      simp -implicitDefEqProofs [x_var, x_lit, x_glo, x_bin, x_neg, x_cmp, x_chain, x_isN, x_notN, x_not, x_and, x_or, x_and1, x_and2, x_or1, x_or2, x_ite, x_tup, x_lst, x_ix, x_slc, x_oN, x_oS, x_fld, wx_shut, x_prop, x_call, x_callK, x_mk, x_mkK, x_mkR, x_bi, x_bm, x_isi, x_rngT, x_comp, x_new, x_frz, x_srt, x_isB, x_nil, x_cons, x_seq, x_rng, x_enm, x_zip, y_asg, y_setIx, y_setFld, y_ret, y_retN, y_if, y_expr, y_brk, y_cnt, y_pass, y_nil, y_cons, y_for, y_whl, wx_ok, wx_bad, wx_bind, wx_opt, wx_optN, wx_if, wx_run, g_call, g_call1, g_deep, g_con, asgT, asgTs, startE, wipeE, y_rse, wx_tst, w_var, w_lit, w_glo, w_bin, w_neg, w_cmp, w_chain, w_isN, w_notN, w_not, w_and, w_or, w_and1, w_and2, w_or1, w_or2, wp_tst, w_ite, w_tup, w_lst, w_ix, w_slc, w_oN, w_oS, w_fld, wp_shut, w_prop, w_call, w_callK, w_mk, w_mkK, w_mkR, w_bi, w_bm, w_isi, w_rngT, w_comp, w_new, w_frz, w_srt, w_isB, w_nil, w_cons, w_seq, w_rng, w_enm, w_zip, s_asg, s_setIx, s_setFld, s_ret, s_retN, s_if, s_expr, s_brk, s_cnt, s_pass, s_nil, s_cons, s_for, s_whl, wp_ok, wp_bad, wp_bind, wp_opt, wp_optN, wp_if, wp_run, g_call, g_call1, g_deep, g_con, asgT, asgTs, startE, wipeE, ix_tup, atI0, at1, eq_int, tru_bl, bp_init]
      exact re_now hK
    · rw [List.getElem?_append_left (by simp; omega), List.getElem?_map] at hv
      cases hpi : ps[i]? with
      | none => rw [hpi] at hv; cases hv
      | some p =>
        rw [hpi] at hv
        cases hv
        have hi : i < ps.length := (List.getElem?_eq_some_iff.mp hpi).1
        obtain ⟨q1, q2, q3, q4, q5⟩ := hf p (List.mem_of_getElem? hpi)
        have hne : (p.1 == p.2) = false := by
          simp
          intro e
          rw [e] at q5
          omega
        have hnc := not_take hN hpi
        have hcl : h.length < h'.length := lt_of_getC (by rw [hM]; intro z; cases z)
        have bl : ∀ h, Wp (callI TB.tb (k + 3) i_are_below [.tup [.int p.1, .int p.2], .int count] h) fun d h' => d = .bl true ∧ h' = h := fun h => below_pr (b := true) ⟨q1, q2⟩ ⟨q3, q4⟩
        unfold forF prD
        simp -implicitDefEqProofs [x_var, x_lit, x_glo, x_bin, x_neg, x_cmp, x_chain, x_isN, x_notN, x_not, x_and, x_or, x_and1, x_and2, x_or1, x_or2, x_ite, x_tup, x_lst, x_ix, x_slc, x_oN, x_oS, x_fld, wx_shut, x_prop, x_call, x_callK, x_mk, x_mkK, x_mkR, x_bi, x_bm, x_isi, x_rngT, x_comp, x_new, x_frz, x_srt, x_isB, x_nil, x_cons, x_seq, x_rng, x_enm, x_zip, y_asg, y_setIx, y_setFld, y_ret, y_retN, y_if, y_expr, y_brk, y_cnt, y_pass, y_nil, y_cons, y_for, y_whl, wx_ok, wx_bad, wx_bind, wx_opt, wx_optN, wx_if, wx_run, g_call, g_call1, g_deep, g_con, asgT, asgTs, startE, wipeE, y_rse, wx_tst, w_var, w_lit, w_glo, w_bin, w_neg, w_cmp, w_chain, w_isN, w_notN, w_not, w_and, w_or, w_and1, w_and2, w_or1, w_or2, wp_tst, w_ite, w_tup, w_lst, w_ix, w_slc, w_oN, w_oS, w_fld, wp_shut, w_prop, w_call, w_callK, w_mk, w_mkK, w_mkR, w_bi, w_bm, w_isi, w_rngT, w_comp, w_new, w_frz, w_srt, w_isB, w_nil, w_cons, w_seq, w_rng, w_enm, w_zip, s_asg, s_setIx, s_setFld, s_ret, s_retN, s_if, s_expr, s_brk, s_cnt, s_pass, s_nil, s_cons, s_for, s_whl, wp_ok, wp_bad, wp_bind, wp_opt, wp_optN, wp_if, wp_run, g_call, g_call1, g_deep, g_con, asgT, asgTs, startE, wipeE, seqof_x]
        refine (bl _).x fun d h1 ⟨e1, e2⟩ => ?_
        subst e1
        subst e2
        simp -implicitDefEqProofs [x_var, x_lit, x_glo, x_bin, x_neg, x_cmp, x_chain, x_isN, x_notN, x_not, x_and, x_or, x_and1, x_and2, x_or1, x_or2, x_ite, x_tup, x_lst, x_ix, x_slc, x_oN, x_oS, x_fld, wx_shut, x_prop, x_call, x_callK, x_mk, x_mkK, x_mkR, x_bi, x_bm, x_isi, x_rngT, x_comp, x_new, x_frz, x_srt, x_isB, x_nil, x_cons, x_seq, x_rng, x_enm, x_zip, y_asg, y_setIx, y_setFld, y_ret, y_retN, y_if, y_expr, y_brk, y_cnt, y_pass, y_nil, y_cons, y_for, y_whl, wx_ok, wx_bad, wx_bind, wx_opt, wx_optN, wx_if, wx_run, g_call, g_call1, g_deep, g_con, asgT, asgTs, startE, wipeE, y_rse, wx_tst, w_var, w_lit, w_glo, w_bin, w_neg, w_cmp, w_chain, w_isN, w_notN, w_not, w_and, w_or, w_and1, w_and2, w_or1, w_or2, wp_tst, w_ite, w_tup, w_lst, w_ix, w_slc, w_oN, w_oS, w_fld, wp_shut, w_prop, w_call, w_callK, w_mk, w_mkK, w_mkR, w_bi, w_bm, w_isi, w_rngT, w_comp, w_new, w_frz, w_srt, w_isB, w_nil, w_cons, w_seq, w_rng, w_enm, w_zip, s_asg, s_setIx, s_setFld, s_ret, s_retN, s_if, s_expr, s_brk, s_cnt, s_pass, s_nil, s_cons, s_for, s_whl, wp_ok, wp_bad, wp_bind, wp_opt, wp_optN, wp_if, wp_run, g_call, g_call1, g_deep, g_con, asgT, asgTs, startE, wipeE, ix_tup, atI0, at1, eq_int, hne, tru_bl, lim_ok]
        have iI := isIn_prs (p := p) hM
        rw [hnc] at iI
        simp only [prD] at iI
        rw [iI, wx_ok]
        simp -implicitDefEqProofs [x_var, x_lit, x_glo, x_bin, x_neg, x_cmp, x_chain, x_isN, x_notN, x_not, x_and, x_or, x_and1, x_and2, x_or1, x_or2, x_ite, x_tup, x_lst, x_ix, x_slc, x_oN, x_oS, x_fld, wx_shut, x_prop, x_call, x_callK, x_mk, x_mkK, x_mkR, x_bi, x_bm, x_isi, x_rngT, x_comp, x_new, x_frz, x_srt, x_isB, x_nil, x_cons, x_seq, x_rng, x_enm, x_zip, y_asg, y_setIx, y_setFld, y_ret, y_retN, y_if, y_expr, y_brk, y_cnt, y_pass, y_nil, y_cons, y_for, y_whl, wx_ok, wx_bad, wx_bind, wx_opt, wx_optN, wx_if, wx_run, g_call, g_call1, g_deep, g_con, asgT, asgTs, startE, wipeE, y_rse, wx_tst, w_var, w_lit, w_glo, w_bin, w_neg, w_cmp, w_chain, w_isN, w_notN, w_not, w_and, w_or, w_and1, w_and2, w_or1, w_or2, wp_tst, w_ite, w_tup, w_lst, w_ix, w_slc, w_oN, w_oS, w_fld, wp_shut, w_prop, w_call, w_callK, w_mk, w_mkK, w_mkR, w_bi, w_bm, w_isi, w_rngT, w_comp, w_new, w_frz, w_srt, w_isB, w_nil, w_cons, w_seq, w_rng, w_enm, w_zip, s_asg, s_setIx, s_setFld, s_ret, s_retN, s_if, s_expr, s_brk, s_cnt, s_pass, s_nil, s_cons, s_for, s_whl, wp_ok, wp_bad, wp_bind, wp_opt, wp_optN, wp_if, wp_run, g_call, g_call1, g_deep, g_con, asgT, asgTs, startE, wipeE, ix_tup, atI0, at1]
        refine (leads_no (f := f) (ps := ps.take i) (c := h.length) (h := h1) hM ⟨by rw [List.length_take]; omega⟩ (fun q hq => (hf q (List.mem_of_mem_take hq)).2.2.2.2) q5).x fun d h2 ⟨e3, hK2⟩ => ?_
        subst e3
        have hM2 : getC h2 h.length = .lst ((ps.take i).map prD) := (hK2.kp _ hcl).trans hM
        have hc2 : h.length < h2.length := Nat.lt_of_lt_of_le hcl hK2.len
        have hsz : ((ps.take i).map prD).length < sizeLine := by
          rw [List.length_map, List.length_take]
          omega
        have ap : ∀ {x : D} {P : D → Sto → Prop}, Wx (Re e_BadPair (.int ps.length) h) (bmD .append (.ref h.length) [x] h2) P = P .non (h2.set h.length (.lst ((ps.take i).map prD ++ [x]))) := fun {x P} => wx_eq fun P => app_w hM2 hsz
        simp -implicitDefEqProofs [x_var, x_lit, x_glo, x_bin, x_neg, x_cmp, x_chain, x_isN, x_notN, x_not, x_and, x_or, x_and1, x_and2, x_or1, x_or2, x_ite, x_tup, x_lst, x_ix, x_slc, x_oN, x_oS, x_fld, wx_shut, x_prop, x_call, x_callK, x_mk, x_mkK, x_mkR, x_bi, x_bm, x_isi, x_rngT, x_comp, x_new, x_frz, x_srt, x_isB, x_nil, x_cons, x_seq, x_rng, x_enm, x_zip, y_asg, y_setIx, y_setFld, y_ret, y_retN, y_if, y_expr, y_brk, y_cnt, y_pass, y_nil, y_cons, y_for, y_whl, wx_ok, wx_bad, wx_bind, wx_opt, wx_optN, wx_if, wx_run, g_call, g_call1, g_deep, g_con, asgT, asgTs, startE, wipeE, y_rse, wx_tst, w_var, w_lit, w_glo, w_bin, w_neg, w_cmp, w_chain, w_isN, w_notN, w_not, w_and, w_or, w_and1, w_and2, w_or1, w_or2, wp_tst, w_ite, w_tup, w_lst, w_ix, w_slc, w_oN, w_oS, w_fld, wp_shut, w_prop, w_call, w_callK, w_mk, w_mkK, w_mkR, w_bi, w_bm, w_isi, w_rngT, w_comp, w_new, w_frz, w_srt, w_isB, w_nil, w_cons, w_seq, w_rng, w_enm, w_zip, s_asg, s_setIx, s_setFld, s_ret, s_retN, s_if, s_expr, s_brk, s_cnt, s_pass, s_nil, s_cons, s_for, s_whl, wp_ok, wp_bad, wp_bind, wp_opt, wp_optN, wp_if, wp_run, g_call, g_call1, g_deep, g_con, asgT, asgTs, startE, wipeE, tru_bl, lst_ref hM2, ap]
        have hK3 := hK.trans hK2
        refine ⟨by omega, ?_, ⟨by simp; exact hK3.len, fun m l => (getC_ne (by omega)).trans (hK3.kp m l)⟩⟩
        have ht : ps.take (i + 1) = ps.take i ++ [p] := by
          rw [List.take_add_one, hpi]
          rfl
        rw [getC_set hc2]
        simp only [← List.map_take, ht, List.map_append]
        rfl
  · rintro ρ h' ⟨hle, x, y, z, rfl, hM, hK⟩
    exfalso
    rw [enumL_length, List.length_append, List.length_map] at hle
    simp at hle
    omega
theorem init_task {js : List (Int × Int)} {i : Nat} {x o m s a sl : D} (j1 : js.length ≤ 24) (hj : ∀ j ∈ js, 0 ≤ j.1 ∧ j.1 ≤ j.2 ∧ j.2 ≤ 10000) (hi : i < js.length) (hx : NoTk x) :
    Wx (Re e_BadTask (.int i) h) (callI TB.tb (k + 6) i_Line___init__ [.ref n, .tup ((js.map prD).set i x), o, m, s, a, sl] h) P := by
  have cT := con_MOST_TASKS
  simp only [Cv.d] at cT
  have e1 : decide ((24 : Int) < js.length) = false := by simp; omega
  have f1 : decide (0 < (js.length : Int)) = true := by simp; omega
  have j0 : 0 < js.length := by omega
  rw [c_Line___init__]
  simp -implicitDefEqProofs [F_Line___init__, x_var, x_lit, x_glo, x_bin, x_neg, x_cmp, x_chain, x_isN, x_notN, x_not, x_and, x_or, x_and1, x_and2, x_or1, x_or2, x_ite, x_tup, x_lst, x_ix, x_slc, x_oN, x_oS, x_fld, wx_shut, x_prop, x_call, x_callK, x_mk, x_mkK, x_mkR, x_bi, x_bm, x_isi, x_rngT, x_comp, x_new, x_frz, x_srt, x_isB, x_nil, x_cons, x_seq, x_rng, x_enm, x_zip, y_asg, y_setIx, y_setFld, y_ret, y_retN, y_if, y_expr, y_brk, y_cnt, y_pass, y_nil, y_cons, y_for, y_whl, wx_ok, wx_bad, wx_bind, wx_opt, wx_optN, wx_if, wx_run, g_call, g_call1, g_deep, g_con, asgT, asgTs, startE, wipeE, y_rse, wx_tst, w_var, w_lit, w_glo, w_bin, w_neg, w_cmp, w_chain, w_isN, w_notN, w_not, w_and, w_or, w_and1, w_and2, w_or1, w_or2, wp_tst, w_ite, w_tup, w_lst, w_ix, w_slc, w_oN, w_oS, w_fld, wp_shut, w_prop, w_call, w_callK, w_mk, w_mkK, w_mkR, w_bi, w_bm, w_isi, w_rngT, w_comp, w_new, w_frz, w_srt, w_isB, w_nil, w_cons, w_seq, w_rng, w_enm, w_zip, s_asg, s_setIx, s_setFld, s_ret, s_retN, s_if, s_expr, s_brk, s_cnt, s_pass, s_nil, s_cons, s_for, s_whl, wp_ok, wp_bad, wp_bind, wp_opt, wp_optN, wp_if, wp_run, g_call, g_call1, g_deep, g_con, asgT, asgTs, startE, wipeE, filled_x, f1, j0, tru_bl, len_tup, gt_int, cT, e1]
  exact tasks_bad (k := k) hj hi hx
theorem init_pair {m s a sl : D} (ok : LnOk p) (hp : p.pairs.length < 200) :
    Wx (Re e_BadPair (.int p.pairs.length) h) (callI TB.tb (k + 6) i_Line___init__ [.ref n, .tup (p.jobs.map prD), .tup (p.pairs.map prD ++ [prD (0, 0)]), m, s, a, sl] h) P := by
  obtain ⟨j0, j1, jt, po, pl, k0, k1, kt, s0, s1, st, a0, a1, slk⟩ := ok
  have cT := con_MOST_TASKS
  have cP := con_MOST_PAIRS
  simp only [Cv.d] at cT cP
  have e1 : decide ((24 : Int) < p.jobs.length) = false := by simp; omega
  have e2 : decide ((200 : Int) < (p.pairs.length : Int) + 1) = false := decide_eq_false (by omega)
  have f1 : decide (0 < (p.jobs.length : Int)) = true := by simp; omega
  rw [c_Line___init__]
  simp -implicitDefEqProofs [F_Line___init__, x_var, x_lit, x_glo, x_bin, x_neg, x_cmp, x_chain, x_isN, x_notN, x_not, x_and, x_or, x_and1, x_and2, x_or1, x_or2, x_ite, x_tup, x_lst, x_ix, x_slc, x_oN, x_oS, x_fld, wx_shut, x_prop, x_call, x_callK, x_mk, x_mkK, x_mkR, x_bi, x_bm, x_isi, x_rngT, x_comp, x_new, x_frz, x_srt, x_isB, x_nil, x_cons, x_seq, x_rng, x_enm, x_zip, y_asg, y_setIx, y_setFld, y_ret, y_retN, y_if, y_expr, y_brk, y_cnt, y_pass, y_nil, y_cons, y_for, y_whl, wx_ok, wx_bad, wx_bind, wx_opt, wx_optN, wx_if, wx_run, g_call, g_call1, g_deep, g_con, asgT, asgTs, startE, wipeE, y_rse, wx_tst, w_var, w_lit, w_glo, w_bin, w_neg, w_cmp, w_chain, w_isN, w_notN, w_not, w_and, w_or, w_and1, w_and2, w_or1, w_or2, wp_tst, w_ite, w_tup, w_lst, w_ix, w_slc, w_oN, w_oS, w_fld, wp_shut, w_prop, w_call, w_callK, w_mk, w_mkK, w_mkR, w_bi, w_bm, w_isi, w_rngT, w_comp, w_new, w_frz, w_srt, w_isB, w_nil, w_cons, w_seq, w_rng, w_enm, w_zip, s_asg, s_setIx, s_setFld, s_ret, s_retN, s_if, s_expr, s_brk, s_cnt, s_pass, s_nil, s_cons, s_for, s_whl, wp_ok, wp_bad, wp_bind, wp_opt, wp_optN, wp_if, wp_run, g_call, g_call1, g_deep, g_con, asgT, asgTs, startE, wipeE, filled_x, f1, j0, tru_bl, len_tup, gt_int, cT, e1]
  refine (tasks_ok (k := k) (b := true) (b' := true) ⟨by omega⟩ jt).x fun d h1 ⟨q1, q2⟩ => ?_
  subst q1
  subst q2
  simp -implicitDefEqProofs [x_var, x_lit, x_glo, x_bin, x_neg, x_cmp, x_chain, x_isN, x_notN, x_not, x_and, x_or, x_and1, x_and2, x_or1, x_or2, x_ite, x_tup, x_lst, x_ix, x_slc, x_oN, x_oS, x_fld, wx_shut, x_prop, x_call, x_callK, x_mk, x_mkK, x_mkR, x_bi, x_bm, x_isi, x_rngT, x_comp, x_new, x_frz, x_srt, x_isB, x_nil, x_cons, x_seq, x_rng, x_enm, x_zip, y_asg, y_setIx, y_setFld, y_ret, y_retN, y_if, y_expr, y_brk, y_cnt, y_pass, y_nil, y_cons, y_for, y_whl, wx_ok, wx_bad, wx_bind, wx_opt, wx_optN, wx_if, wx_run, g_call, g_call1, g_deep, g_con, asgT, asgTs, startE, wipeE, y_rse, wx_tst, w_var, w_lit, w_glo, w_bin, w_neg, w_cmp, w_chain, w_isN, w_notN, w_not, w_and, w_or, w_and1, w_and2, w_or1, w_or2, wp_tst, w_ite, w_tup, w_lst, w_ix, w_slc, w_oN, w_oS, w_fld, wp_shut, w_prop, w_call, w_callK, w_mk, w_mkK, w_mkR, w_bi, w_bm, w_isi, w_rngT, w_comp, w_new, w_frz, w_srt, w_isB, w_nil, w_cons, w_seq, w_rng, w_enm, w_zip, s_asg, s_setIx, s_setFld, s_ret, s_retN, s_if, s_expr, s_brk, s_cnt, s_pass, s_nil, s_cons, s_for, s_whl, wp_ok, wp_bad, wp_bind, wp_opt, wp_optN, wp_if, wp_run, g_call, g_call1, g_deep, g_con, asgT, asgTs, startE, wipeE, isq_x, tru_bl, len_tup, gt_int, cP, e2]
  exact order_bad (k := k + 1) po ⟨by omega⟩ j0
theorem init_model {s a sl : D} (ok : LnOk p) (hk : p.kinds.length < 8) :
    Wx (Re e_BadModel (.int p.kinds.length) h) (callI TB.tb (k + 6) i_Line___init__ [.ref n, .tup (p.jobs.map prD), .tup (p.pairs.map prD), .tup (p.kinds.map kindD ++ [kindD [(p.jobs.length : Int)]]), s, a, sl] h) P := by
  obtain ⟨j0, j1, jt, po, pl, k0, k1, kt, s0, s1, st, a0, a1, slk⟩ := ok
  have cT := con_MOST_TASKS
  have cP := con_MOST_PAIRS
  have cM := con_MOST_MODELS
  simp only [Cv.d] at cT cP cM
  have e1 : decide ((24 : Int) < p.jobs.length) = false := by simp; omega
  have e2 : decide ((200 : Int) < p.pairs.length) = false := by simp; omega
  have e3 : decide ((8 : Int) < (p.kinds.length : Int) + 1) = false := decide_eq_false (by omega)
  have f1 : decide (0 < (p.jobs.length : Int)) = true := by simp; omega
  have f3 : decide (0 < (p.kinds.length : Int) + 1) = true := decide_eq_true (by omega)
  have f3' : (0 : Int) < (p.kinds.length : Int) + 1 := by omega
  rw [c_Line___init__]
  simp -implicitDefEqProofs [F_Line___init__, x_var, x_lit, x_glo, x_bin, x_neg, x_cmp, x_chain, x_isN, x_notN, x_not, x_and, x_or, x_and1, x_and2, x_or1, x_or2, x_ite, x_tup, x_lst, x_ix, x_slc, x_oN, x_oS, x_fld, wx_shut, x_prop, x_call, x_callK, x_mk, x_mkK, x_mkR, x_bi, x_bm, x_isi, x_rngT, x_comp, x_new, x_frz, x_srt, x_isB, x_nil, x_cons, x_seq, x_rng, x_enm, x_zip, y_asg, y_setIx, y_setFld, y_ret, y_retN, y_if, y_expr, y_brk, y_cnt, y_pass, y_nil, y_cons, y_for, y_whl, wx_ok, wx_bad, wx_bind, wx_opt, wx_optN, wx_if, wx_run, g_call, g_call1, g_deep, g_con, asgT, asgTs, startE, wipeE, y_rse, wx_tst, w_var, w_lit, w_glo, w_bin, w_neg, w_cmp, w_chain, w_isN, w_notN, w_not, w_and, w_or, w_and1, w_and2, w_or1, w_or2, wp_tst, w_ite, w_tup, w_lst, w_ix, w_slc, w_oN, w_oS, w_fld, wp_shut, w_prop, w_call, w_callK, w_mk, w_mkK, w_mkR, w_bi, w_bm, w_isi, w_rngT, w_comp, w_new, w_frz, w_srt, w_isB, w_nil, w_cons, w_seq, w_rng, w_enm, w_zip, s_asg, s_setIx, s_setFld, s_ret, s_retN, s_if, s_expr, s_brk, s_cnt, s_pass, s_nil, s_cons, s_for, s_whl, wp_ok, wp_bad, wp_bind, wp_opt, wp_optN, wp_if, wp_run, g_call, g_call1, g_deep, g_con, asgT, asgTs, startE, wipeE, filled_x, f1, j0, tru_bl, len_tup, gt_int, cT, e1]
  refine (tasks_ok (k := k) (b := true) (b' := true) ⟨by omega⟩ jt).x fun d h1 ⟨q1, q2⟩ => ?_
  subst q1
  subst q2
  simp -implicitDefEqProofs [x_var, x_lit, x_glo, x_bin, x_neg, x_cmp, x_chain, x_isN, x_notN, x_not, x_and, x_or, x_and1, x_and2, x_or1, x_or2, x_ite, x_tup, x_lst, x_ix, x_slc, x_oN, x_oS, x_fld, wx_shut, x_prop, x_call, x_callK, x_mk, x_mkK, x_mkR, x_bi, x_bm, x_isi, x_rngT, x_comp, x_new, x_frz, x_srt, x_isB, x_nil, x_cons, x_seq, x_rng, x_enm, x_zip, y_asg, y_setIx, y_setFld, y_ret, y_retN, y_if, y_expr, y_brk, y_cnt, y_pass, y_nil, y_cons, y_for, y_whl, wx_ok, wx_bad, wx_bind, wx_opt, wx_optN, wx_if, wx_run, g_call, g_call1, g_deep, g_con, asgT, asgTs, startE, wipeE, y_rse, wx_tst, w_var, w_lit, w_glo, w_bin, w_neg, w_cmp, w_chain, w_isN, w_notN, w_not, w_and, w_or, w_and1, w_and2, w_or1, w_or2, wp_tst, w_ite, w_tup, w_lst, w_ix, w_slc, w_oN, w_oS, w_fld, wp_shut, w_prop, w_call, w_callK, w_mk, w_mkK, w_mkR, w_bi, w_bm, w_isi, w_rngT, w_comp, w_new, w_frz, w_srt, w_isB, w_nil, w_cons, w_seq, w_rng, w_enm, w_zip, s_asg, s_setIx, s_setFld, s_ret, s_retN, s_if, s_expr, s_brk, s_cnt, s_pass, s_nil, s_cons, s_for, s_whl, wp_ok, wp_bad, wp_bind, wp_opt, wp_optN, wp_if, wp_run, g_call, g_call1, g_deep, g_con, asgT, asgTs, startE, wipeE, isq_x, tru_bl, len_tup, gt_int, cP, e2]
  refine (order_ok (k := k + 1) (b := true) (b' := true) po ⟨by omega⟩).x fun d h2 ⟨q1, K2⟩ => ?_
  subst q1
  simp -implicitDefEqProofs [x_var, x_lit, x_glo, x_bin, x_neg, x_cmp, x_chain, x_isN, x_notN, x_not, x_and, x_or, x_and1, x_and2, x_or1, x_or2, x_ite, x_tup, x_lst, x_ix, x_slc, x_oN, x_oS, x_fld, wx_shut, x_prop, x_call, x_callK, x_mk, x_mkK, x_mkR, x_bi, x_bm, x_isi, x_rngT, x_comp, x_new, x_frz, x_srt, x_isB, x_nil, x_cons, x_seq, x_rng, x_enm, x_zip, y_asg, y_setIx, y_setFld, y_ret, y_retN, y_if, y_expr, y_brk, y_cnt, y_pass, y_nil, y_cons, y_for, y_whl, wx_ok, wx_bad, wx_bind, wx_opt, wx_optN, wx_if, wx_run, g_call, g_call1, g_deep, g_con, asgT, asgTs, startE, wipeE, y_rse, wx_tst, w_var, w_lit, w_glo, w_bin, w_neg, w_cmp, w_chain, w_isN, w_notN, w_not, w_and, w_or, w_and1, w_and2, w_or1, w_or2, wp_tst, w_ite, w_tup, w_lst, w_ix, w_slc, w_oN, w_oS, w_fld, wp_shut, w_prop, w_call, w_callK, w_mk, w_mkK, w_mkR, w_bi, w_bm, w_isi, w_rngT, w_comp, w_new, w_frz, w_srt, w_isB, w_nil, w_cons, w_seq, w_rng, w_enm, w_zip, s_asg, s_setIx, s_setFld, s_ret, s_retN, s_if, s_expr, s_brk, s_cnt, s_pass, s_nil, s_cons, s_for, s_whl, wp_ok, wp_bad, wp_bind, wp_opt, wp_optN, wp_if, wp_run, g_call, g_call1, g_deep, g_con, asgT, asgTs, startE, wipeE, filled_x, f3, f3', tru_bl, len_tup, gt_int, cM, e3, it_tup, lockN, freeN]
  refine wx_forL (fun i ρ h' => i ≤ p.kinds.length ∧ ∃ (x y z : Option D), ρ = [some (.ref n), some (.tup (p.jobs.map prD)), some (.tup (p.pairs.map prD)), some (.tup (p.kinds.map kindD ++ [kindD [(p.jobs.length : Int)]])), some s, some a, some sl, some (.tup (p.jobs.map prD)), some (.tup (p.pairs.map prD)), x, y, z] ∧ h' = h2) 0 ⟨Nat.zero_le _, none, none, none, rfl, rfl⟩ ?_ ?_
  · rintro i d ρ h' hd ⟨hil, x, y, z, rfl, rfl⟩
    obtain ⟨v, hv, rfl⟩ := enumL_get hd
    rw [Nat.zero_add] at hil ⊢
    by_cases e : i = p.kinds.length
    · subst e
      rw [List.getElem?_append_right (by simp)] at hv
      simp at hv
      subst hv
      have bl : ∀ h, Wp (callI TB.tb (k + 4) i_are_below [.tup [.int p.jobs.length], .int p.jobs.length] h) fun d h' => d = .bl false ∧ h' = h := fun h => (below_pl (k := k + 1) (b := true) (xs := [.int p.jobs.length]) (by simp) (fun x hx => by rw [List.mem_singleton.mp hx]; exact .int)).imp fun d h1 ⟨e1, e2⟩ => ⟨by rw [e1]; simp [okE]; omega, e2⟩
      have im : ∀ h, Wp (callI TB.tb (k + 5) i_is_model [.tup [.int p.jobs.length], .int p.jobs.length] h) fun d h' => d = .bl false ∧ h' = h := fun h => by
        rw [c_is_model]
        simp -implicitDefEqProofs [F_is_model, w_var, w_lit, w_glo, w_bin, w_neg, w_cmp, w_chain, w_isN, w_notN, w_not, w_and, w_or, w_and1, w_and2, w_or1, w_or2, wp_tst, w_ite, w_tup, w_lst, w_ix, w_slc, w_oN, w_oS, w_fld, wp_shut, w_prop, w_call, w_callK, w_mk, w_mkK, w_mkR, w_bi, w_bm, w_isi, w_rngT, w_comp, w_new, w_frz, w_srt, w_isB, w_nil, w_cons, w_seq, w_rng, w_enm, w_zip, s_asg, s_setIx, s_setFld, s_ret, s_retN, s_if, s_expr, s_brk, s_cnt, s_pass, s_nil, s_cons, s_for, s_whl, wp_ok, wp_bad, wp_bind, wp_opt, wp_optN, wp_if, wp_run, g_call, g_call1, g_deep, g_con, asgT, asgTs, startE, wipeE]
        refine (bl _).imp fun d h1 ⟨e1, e2⟩ => ?_
        subst e1
        subst e2
        simp -implicitDefEqProofs [w_var, w_lit, w_glo, w_bin, w_neg, w_cmp, w_chain, w_isN, w_notN, w_not, w_and, w_or, w_and1, w_and2, w_or1, w_or2, wp_tst, w_ite, w_tup, w_lst, w_ix, w_slc, w_oN, w_oS, w_fld, wp_shut, w_prop, w_call, w_callK, w_mk, w_mkK, w_mkR, w_bi, w_bm, w_isi, w_rngT, w_comp, w_new, w_frz, w_srt, w_isB, w_nil, w_cons, w_seq, w_rng, w_enm, w_zip, s_asg, s_setIx, s_setFld, s_ret, s_retN, s_if, s_expr, s_brk, s_cnt, s_pass, s_nil, s_cons, s_for, s_whl, wp_ok, wp_bad, wp_bind, wp_opt, wp_optN, wp_if, wp_run, g_call, g_call1, g_deep, g_con, asgT, asgTs, startE, wipeE, tru_bl]
      unfold forF kindD
      simp -implicitDefEqProofs [x_var, x_lit, x_glo, x_bin, x_neg, x_cmp, x_chain, x_isN, x_notN, x_not, x_and, x_or, x_and1, x_and2, x_or1, x_or2, x_ite, x_tup, x_lst, x_ix, x_slc, x_oN, x_oS, x_fld, wx_shut, x_prop, x_call, x_callK, x_mk, x_mkK, x_mkR, x_bi, x_bm, x_isi, x_rngT, x_comp, x_new, x_frz, x_srt, x_isB, x_nil, x_cons, x_seq, x_rng, x_enm, x_zip, y_asg, y_setIx, y_setFld, y_ret, y_retN, y_if, y_expr, y_brk, y_cnt, y_pass, y_nil, y_cons, y_for, y_whl, wx_ok, wx_bad, wx_bind, wx_opt, wx_optN, wx_if, wx_run, g_call, g_call1, g_deep, g_con, asgT, asgTs, startE, wipeE, y_rse, wx_tst, w_var, w_lit, w_glo, w_bin, w_neg, w_cmp, w_chain, w_isN, w_notN, w_not, w_and, w_or, w_and1, w_and2, w_or1, w_or2, wp_tst, w_ite, w_tup, w_lst, w_ix, w_slc, w_oN, w_oS, w_fld, wp_shut, w_prop, w_call, w_callK, w_mk, w_mkK, w_mkR, w_bi, w_bm, w_isi, w_rngT, w_comp, w_new, w_frz, w_srt, w_isB, w_nil, w_cons, w_seq, w_rng, w_enm, w_zip, s_asg, s_setIx, s_setFld, s_ret, s_retN, s_if, s_expr, s_brk, s_cnt, s_pass, s_nil, s_cons, s_for, s_whl, wp_ok, wp_bad, wp_bind, wp_opt, wp_optN, wp_if, wp_run, g_call, g_call1, g_deep, g_con, asgT, asgTs, startE, wipeE, len_tup]
      refine (im _).x fun d h3 ⟨e1, e2⟩ => ?_
      subst e1
      subst e2
      simp -implicitDefEqProofs [x_var, x_lit, x_glo, x_bin, x_neg, x_cmp, x_chain, x_isN, x_notN, x_not, x_and, x_or, x_and1, x_and2, x_or1, x_or2, x_ite, x_tup, x_lst, x_ix, x_slc, x_oN, x_oS, x_fld, wx_shut, x_prop, x_call, x_callK, x_mk, x_mkK, x_mkR, x_bi, x_bm, x_isi, x_rngT, x_comp, x_new, x_frz, x_srt, x_isB, x_nil, x_cons, x_seq, x_rng, x_enm, x_zip, y_asg, y_setIx, y_setFld, y_ret, y_retN, y_if, y_expr, y_brk, y_cnt, y_pass, y_nil, y_cons, y_for, y_whl, wx_ok, wx_bad, wx_bind, wx_opt, wx_optN, wx_if, wx_run, g_call, g_call1, g_deep, g_con, asgT, asgTs, startE, wipeE, y_rse, wx_tst, w_var, w_lit, w_glo, w_bin, w_neg, w_cmp, w_chain, w_isN, w_notN, w_not, w_and, w_or, w_and1, w_and2, w_or1, w_or2, wp_tst, w_ite, w_tup, w_lst, w_ix, w_slc, w_oN, w_oS, w_fld, wp_shut, w_prop, w_call, w_callK, w_mk, w_mkK, w_mkR, w_bi, w_bm, w_isi, w_rngT, w_comp, w_new, w_frz, w_srt, w_isB, w_nil, w_cons, w_seq, w_rng, w_enm, w_zip, s_asg, s_setIx, s_setFld, s_ret, s_retN, s_if, s_expr, s_brk, s_cnt, s_pass, s_nil, s_cons, s_for, s_whl, wp_ok, wp_bad, wp_bind, wp_opt, wp_optN, wp_if, wp_run, g_call, g_call1, g_deep, g_con, asgT, asgTs, startE, wipeE, tru_bl, bm_init]
      exact re_now K2
    · rw [List.getElem?_append_left (by simp; omega), List.getElem?_map] at hv
      cases hpi : p.kinds[i]? with
      | none => rw [hpi] at hv; cases hv
      | some ks =>
        rw [hpi] at hv
        cases hv
        have im : ∀ h, Wp (callI TB.tb (k + 5) i_is_model [.tup (ks.map .int), .int p.jobs.length] h) fun d h' => d = .bl true ∧ h' = h := fun h => is_model_ok (k := k + 1) (b := true) (n := p.jobs.length) ⟨by omega⟩ (kt ks (List.mem_of_getElem? hpi))
        unfold forF kindD
        simp -implicitDefEqProofs [x_var, x_lit, x_glo, x_bin, x_neg, x_cmp, x_chain, x_isN, x_notN, x_not, x_and, x_or, x_and1, x_and2, x_or1, x_or2, x_ite, x_tup, x_lst, x_ix, x_slc, x_oN, x_oS, x_fld, wx_shut, x_prop, x_call, x_callK, x_mk, x_mkK, x_mkR, x_bi, x_bm, x_isi, x_rngT, x_comp, x_new, x_frz, x_srt, x_isB, x_nil, x_cons, x_seq, x_rng, x_enm, x_zip, y_asg, y_setIx, y_setFld, y_ret, y_retN, y_if, y_expr, y_brk, y_cnt, y_pass, y_nil, y_cons, y_for, y_whl, wx_ok, wx_bad, wx_bind, wx_opt, wx_optN, wx_if, wx_run, g_call, g_call1, g_deep, g_con, asgT, asgTs, startE, wipeE, y_rse, wx_tst, w_var, w_lit, w_glo, w_bin, w_neg, w_cmp, w_chain, w_isN, w_notN, w_not, w_and, w_or, w_and1, w_and2, w_or1, w_or2, wp_tst, w_ite, w_tup, w_lst, w_ix, w_slc, w_oN, w_oS, w_fld, wp_shut, w_prop, w_call, w_callK, w_mk, w_mkK, w_mkR, w_bi, w_bm, w_isi, w_rngT, w_comp, w_new, w_frz, w_srt, w_isB, w_nil, w_cons, w_seq, w_rng, w_enm, w_zip, s_asg, s_setIx, s_setFld, s_ret, s_retN, s_if, s_expr, s_brk, s_cnt, s_pass, s_nil, s_cons, s_for, s_whl, wp_ok, wp_bad, wp_bind, wp_opt, wp_optN, wp_if, wp_run, g_call, g_call1, g_deep, g_con, asgT, asgTs, startE, wipeE, len_tup]
        refine (im _).x fun d h3 ⟨q1, q2⟩ => ?_
        subst q1
        subst q2
        simp -implicitDefEqProofs [x_var, x_lit, x_glo, x_bin, x_neg, x_cmp, x_chain, x_isN, x_notN, x_not, x_and, x_or, x_and1, x_and2, x_or1, x_or2, x_ite, x_tup, x_lst, x_ix, x_slc, x_oN, x_oS, x_fld, wx_shut, x_prop, x_call, x_callK, x_mk, x_mkK, x_mkR, x_bi, x_bm, x_isi, x_rngT, x_comp, x_new, x_frz, x_srt, x_isB, x_nil, x_cons, x_seq, x_rng, x_enm, x_zip, y_asg, y_setIx, y_setFld, y_ret, y_retN, y_if, y_expr, y_brk, y_cnt, y_pass, y_nil, y_cons, y_for, y_whl, wx_ok, wx_bad, wx_bind, wx_opt, wx_optN, wx_if, wx_run, g_call, g_call1, g_deep, g_con, asgT, asgTs, startE, wipeE, y_rse, wx_tst, w_var, w_lit, w_glo, w_bin, w_neg, w_cmp, w_chain, w_isN, w_notN, w_not, w_and, w_or, w_and1, w_and2, w_or1, w_or2, wp_tst, w_ite, w_tup, w_lst, w_ix, w_slc, w_oN, w_oS, w_fld, wp_shut, w_prop, w_call, w_callK, w_mk, w_mkK, w_mkR, w_bi, w_bm, w_isi, w_rngT, w_comp, w_new, w_frz, w_srt, w_isB, w_nil, w_cons, w_seq, w_rng, w_enm, w_zip, s_asg, s_setIx, s_setFld, s_ret, s_retN, s_if, s_expr, s_brk, s_cnt, s_pass, s_nil, s_cons, s_for, s_whl, wp_ok, wp_bad, wp_bind, wp_opt, wp_optN, wp_if, wp_run, g_call, g_call1, g_deep, g_con, asgT, asgTs, startE, wipeE, tru_bl]
        omega
  · rintro ρ h3 ⟨hle, x, y, z, rfl, rfl⟩
    exfalso
    rw [enumL_length, List.length_append, List.length_map] at hle
    simp at hle
    omega
end
end Cl
/-! text Y3 -/
set_option maxHeartbeats 1000007
namespace Cl
open PySem
section
variable {k n : Nat} {h : Sto} {p : Pt} {P : D → Sto → Prop} {Z : Nat → D → Sto → Prop} {xs : List D}
/-- no slips -/
def NoSl (x : D) : Prop := ∀ (k : Nat) (h : Sto) (P : D → Sto → Prop), Wp (callI TB.tb (k + 3) i_is_slips [x] h) P = P (.bl false) h
theorem nosl_int {i : Int} (hn : i < 0 ∨ 8 < i) : NoSl (.int i) := fun k h P => by
  have c := con_MOST_SLIPS
  simp only [Cv.d] at c
  have e : (decide (0 ≤ i) && decide (i ≤ 8)) = false := by
    rcases hn with hn | hn
    · rw [decide_eq_false (by omega), Bool.false_and]
    · rw [decide_eq_false (p := i ≤ 8) (by omega), Bool.and_false]
  rw [c_is_slips]
  simp -implicitDefEqProofs only [F_is_slips, w_var, w_lit, w_glo, w_bin, w_neg, w_cmp, w_chain, w_isN, w_notN, w_not, w_and, w_or, w_and1, w_and2, w_or1, w_or2, wp_tst, w_ite, w_tup, w_lst, w_ix, w_slc, w_oN, w_oS, w_fld, wp_shut, w_prop, w_call, w_callK, w_mk, w_mkK, w_mkR, w_bi, w_bm, w_isi, w_rngT, w_comp, w_new, w_frz, w_srt, w_isB, w_nil, w_cons, w_seq, w_rng, w_enm, w_zip, s_asg, s_setIx, s_setFld, s_ret, s_retN, s_if, s_expr, s_brk, s_cnt, s_pass, s_nil, s_cons, s_for, s_whl, wp_ok, wp_bad, wp_bind, wp_opt, wp_optN, wp_if, wp_run, g_call, g_call1, g_deep, g_con, asgT, asgTs, startE, wipeE, List.map, List.length, List.replicate, List.append, List.cons_append, List.nil_append, List.getD_cons_zero, List.getD_cons_succ, List.set_cons_zero, List.set_cons_succ, Nat.sub_self, Nat.add_sub_cancel, List.replicate_zero, List.replicate_succ, List.append_nil, List.length_cons, List.length_nil, List.map_cons, List.map_nil, c, is_integer_in_int, tru_bl, e]
  simp
theorem nosl_pl {x : D} (hp : Plain x) (hN : x ≠ .non) (hn : okB 0 8 x = false) : NoSl x := fun k h P => by
  have c := con_MOST_SLIPS
  simp only [Cv.d] at c
  rw [c_is_slips]
  cases hp with
  | non => exact absurd rfl hN
  | int => simp -implicitDefEqProofs [F_is_slips, w_var, w_lit, w_glo, w_bin, w_neg, w_cmp, w_chain, w_isN, w_notN, w_not, w_and, w_or, w_and1, w_and2, w_or1, w_or2, wp_tst, w_ite, w_tup, w_lst, w_ix, w_slc, w_oN, w_oS, w_fld, wp_shut, w_prop, w_call, w_callK, w_mk, w_mkK, w_mkR, w_bi, w_bm, w_isi, w_rngT, w_comp, w_new, w_frz, w_srt, w_isB, w_nil, w_cons, w_seq, w_rng, w_enm, w_zip, s_asg, s_setIx, s_setFld, s_ret, s_retN, s_if, s_expr, s_brk, s_cnt, s_pass, s_nil, s_cons, s_for, s_whl, wp_ok, wp_bad, wp_bind, wp_opt, wp_optN, wp_if, wp_run, g_call, g_call1, g_deep, g_con, asgT, asgTs, startE, wipeE, c, is_integer_in_any Plain.int, hn, tru_bl]
  | bl => simp -implicitDefEqProofs [F_is_slips, w_var, w_lit, w_glo, w_bin, w_neg, w_cmp, w_chain, w_isN, w_notN, w_not, w_and, w_or, w_and1, w_and2, w_or1, w_or2, wp_tst, w_ite, w_tup, w_lst, w_ix, w_slc, w_oN, w_oS, w_fld, wp_shut, w_prop, w_call, w_callK, w_mk, w_mkK, w_mkR, w_bi, w_bm, w_isi, w_rngT, w_comp, w_new, w_frz, w_srt, w_isB, w_nil, w_cons, w_seq, w_rng, w_enm, w_zip, s_asg, s_setIx, s_setFld, s_ret, s_retN, s_if, s_expr, s_brk, s_cnt, s_pass, s_nil, s_cons, s_for, s_whl, wp_ok, wp_bad, wp_bind, wp_opt, wp_optN, wp_if, wp_run, g_call, g_call1, g_deep, g_con, asgT, asgTs, startE, wipeE, c, is_integer_in_any (Plain.bl (b := _)), hn, tru_bl]
  | str => simp -implicitDefEqProofs [F_is_slips, w_var, w_lit, w_glo, w_bin, w_neg, w_cmp, w_chain, w_isN, w_notN, w_not, w_and, w_or, w_and1, w_and2, w_or1, w_or2, wp_tst, w_ite, w_tup, w_lst, w_ix, w_slc, w_oN, w_oS, w_fld, wp_shut, w_prop, w_call, w_callK, w_mk, w_mkK, w_mkR, w_bi, w_bm, w_isi, w_rngT, w_comp, w_new, w_frz, w_srt, w_isB, w_nil, w_cons, w_seq, w_rng, w_enm, w_zip, s_asg, s_setIx, s_setFld, s_ret, s_retN, s_if, s_expr, s_brk, s_cnt, s_pass, s_nil, s_cons, s_for, s_whl, wp_ok, wp_bad, wp_bind, wp_opt, wp_optN, wp_if, wp_run, g_call, g_call1, g_deep, g_con, asgT, asgTs, startE, wipeE, c, is_integer_in_any (Plain.str (s := _)), hn, tru_bl]
theorem nosl_tup {xs : List D} : NoSl (.tup xs) := fun k h P => by
  have c := con_MOST_SLIPS
  simp only [Cv.d] at c
  have e1 : ∀ h (P : D → Sto → Prop), Wp (callI TB.tb (k + 1) i_is_integer [.tup xs] h) P = P (.bl false) h := fun h P => by
    rw [c_is_integer]
    simp -implicitDefEqProofs [F_is_integer, w_var, w_lit, w_glo, w_bin, w_neg, w_cmp, w_chain, w_isN, w_notN, w_not, w_and, w_or, w_and1, w_and2, w_or1, w_or2, wp_tst, w_ite, w_tup, w_lst, w_ix, w_slc, w_oN, w_oS, w_fld, wp_shut, w_prop, w_call, w_callK, w_mk, w_mkK, w_mkR, w_bi, w_bm, w_isi, w_rngT, w_comp, w_new, w_frz, w_srt, w_isB, w_nil, w_cons, w_seq, w_rng, w_enm, w_zip, s_asg, s_setIx, s_setFld, s_ret, s_retN, s_if, s_expr, s_brk, s_cnt, s_pass, s_nil, s_cons, s_for, s_whl, wp_ok, wp_bad, wp_bind, wp_opt, wp_optN, wp_if, wp_run, g_call, g_call1, g_deep, g_con, asgT, asgTs, startE, wipeE, ty_tup, kT, tru_bl]
  have e2 : ∀ h (P : D → Sto → Prop) a b, Wp (callI TB.tb (k + 2) i_is_integer_in [.tup xs, .int a, .int b] h) P = P (.bl false) h := fun h P a b => by
    rw [c_is_integer_in]
    simp -implicitDefEqProofs [F_is_integer_in, w_var, w_lit, w_glo, w_bin, w_neg, w_cmp, w_chain, w_isN, w_notN, w_not, w_and, w_or, w_and1, w_and2, w_or1, w_or2, wp_tst, w_ite, w_tup, w_lst, w_ix, w_slc, w_oN, w_oS, w_fld, wp_shut, w_prop, w_call, w_callK, w_mk, w_mkK, w_mkR, w_bi, w_bm, w_isi, w_rngT, w_comp, w_new, w_frz, w_srt, w_isB, w_nil, w_cons, w_seq, w_rng, w_enm, w_zip, s_asg, s_setIx, s_setFld, s_ret, s_retN, s_if, s_expr, s_brk, s_cnt, s_pass, s_nil, s_cons, s_for, s_whl, wp_ok, wp_bad, wp_bind, wp_opt, wp_optN, wp_if, wp_run, g_call, g_call1, g_deep, g_con, asgT, asgTs, startE, wipeE, e1, tru_bl]
  rw [c_is_slips]
  simp -implicitDefEqProofs [F_is_slips, w_var, w_lit, w_glo, w_bin, w_neg, w_cmp, w_chain, w_isN, w_notN, w_not, w_and, w_or, w_and1, w_and2, w_or1, w_or2, wp_tst, w_ite, w_tup, w_lst, w_ix, w_slc, w_oN, w_oS, w_fld, wp_shut, w_prop, w_call, w_callK, w_mk, w_mkK, w_mkR, w_bi, w_bm, w_isi, w_rngT, w_comp, w_new, w_frz, w_srt, w_isB, w_nil, w_cons, w_seq, w_rng, w_enm, w_zip, s_asg, s_setIx, s_setFld, s_ret, s_retN, s_if, s_expr, s_brk, s_cnt, s_pass, s_nil, s_cons, s_for, s_whl, wp_ok, wp_bad, wp_bind, wp_opt, wp_optN, wp_if, wp_run, g_call, g_call1, g_deep, g_con, asgT, asgTs, startE, wipeE, c, e2, tru_bl]
theorem init_slips {x : D} (ok : LnOk p) (hx : NoSl x) :
    Wx (Re e_BadValue (.int 6) h) (callI TB.tb (k + 6) i_Line___init__ [.ref n, .tup (p.jobs.map prD), .tup (p.pairs.map prD), .tup (p.kinds.map kindD), sqV false (p.states.map (arcS false true)), .int p.start, x] h) P := by
  obtain ⟨j0, j1, jt, po, pl, k0, k1, kt, s0, s1, st, a0, a1, sl⟩ := ok
  have cT := con_MOST_TASKS
  have cP := con_MOST_PAIRS
  have cM := con_MOST_MODELS
  have cS := con_MOST_STATES
  simp only [Cv.d] at cT cP cM cS
  have e1 : decide ((24 : Int) < p.jobs.length) = false := by simp; omega
  have e2 : decide ((200 : Int) < p.pairs.length) = false := by simp; omega
  have e3 : decide ((8 : Int) < p.kinds.length) = false := by simp; omega
  have e4 : decide ((60 : Int) < p.states.length) = false := by simp; omega
  have f1 : decide (0 < (p.jobs.length : Int)) = true := by simp; omega
  have f3 : decide (0 < (p.kinds.length : Int)) = true := by simp; omega
  have f4 : decide (0 < (p.states.length : Int)) = true := by simp; omega
  have fil : ∀ {k : Nat} {xs : List D} {h : Sto} {P : D → Sto → Prop}, Wx (Re e_BadValue (.int 6) h) (callI TB.tb (k + 2) i_is_filled [sqV false xs] h) P = P (.bl (decide (0 < (xs.length : Int)))) h := fun {k xs h P} => wx_eq fun P => is_filled_sq (b := false)
  rw [c_Line___init__]
  simp -implicitDefEqProofs [F_Line___init__, x_var, x_lit, x_glo, x_bin, x_neg, x_cmp, x_chain, x_isN, x_notN, x_not, x_and, x_or, x_and1, x_and2, x_or1, x_or2, x_ite, x_tup, x_lst, x_ix, x_slc, x_oN, x_oS, x_fld, wx_shut, x_prop, x_call, x_callK, x_mk, x_mkK, x_mkR, x_bi, x_bm, x_isi, x_rngT, x_comp, x_new, x_frz, x_srt, x_isB, x_nil, x_cons, x_seq, x_rng, x_enm, x_zip, y_asg, y_setIx, y_setFld, y_ret, y_retN, y_if, y_expr, y_brk, y_cnt, y_pass, y_nil, y_cons, y_for, y_whl, wx_ok, wx_bad, wx_bind, wx_opt, wx_optN, wx_if, wx_run, g_call, g_call1, g_deep, g_con, asgT, asgTs, startE, wipeE, y_rse, wx_tst, w_var, w_lit, w_glo, w_bin, w_neg, w_cmp, w_chain, w_isN, w_notN, w_not, w_and, w_or, w_and1, w_and2, w_or1, w_or2, wp_tst, w_ite, w_tup, w_lst, w_ix, w_slc, w_oN, w_oS, w_fld, wp_shut, w_prop, w_call, w_callK, w_mk, w_mkK, w_mkR, w_bi, w_bm, w_isi, w_rngT, w_comp, w_new, w_frz, w_srt, w_isB, w_nil, w_cons, w_seq, w_rng, w_enm, w_zip, s_asg, s_setIx, s_setFld, s_ret, s_retN, s_if, s_expr, s_brk, s_cnt, s_pass, s_nil, s_cons, s_for, s_whl, wp_ok, wp_bad, wp_bind, wp_opt, wp_optN, wp_if, wp_run, g_call, g_call1, g_deep, g_con, asgT, asgTs, startE, wipeE, filled_x, f1, j0, tru_bl, len_tup, gt_int, cT, e1]
  refine (tasks_ok (k := k) (b := true) (b' := true) ⟨by omega⟩ jt).x fun d h1 ⟨q1, q2⟩ => ?_
  subst q1
  subst q2
  simp -implicitDefEqProofs [x_var, x_lit, x_glo, x_bin, x_neg, x_cmp, x_chain, x_isN, x_notN, x_not, x_and, x_or, x_and1, x_and2, x_or1, x_or2, x_ite, x_tup, x_lst, x_ix, x_slc, x_oN, x_oS, x_fld, wx_shut, x_prop, x_call, x_callK, x_mk, x_mkK, x_mkR, x_bi, x_bm, x_isi, x_rngT, x_comp, x_new, x_frz, x_srt, x_isB, x_nil, x_cons, x_seq, x_rng, x_enm, x_zip, y_asg, y_setIx, y_setFld, y_ret, y_retN, y_if, y_expr, y_brk, y_cnt, y_pass, y_nil, y_cons, y_for, y_whl, wx_ok, wx_bad, wx_bind, wx_opt, wx_optN, wx_if, wx_run, g_call, g_call1, g_deep, g_con, asgT, asgTs, startE, wipeE, y_rse, wx_tst, w_var, w_lit, w_glo, w_bin, w_neg, w_cmp, w_chain, w_isN, w_notN, w_not, w_and, w_or, w_and1, w_and2, w_or1, w_or2, wp_tst, w_ite, w_tup, w_lst, w_ix, w_slc, w_oN, w_oS, w_fld, wp_shut, w_prop, w_call, w_callK, w_mk, w_mkK, w_mkR, w_bi, w_bm, w_isi, w_rngT, w_comp, w_new, w_frz, w_srt, w_isB, w_nil, w_cons, w_seq, w_rng, w_enm, w_zip, s_asg, s_setIx, s_setFld, s_ret, s_retN, s_if, s_expr, s_brk, s_cnt, s_pass, s_nil, s_cons, s_for, s_whl, wp_ok, wp_bad, wp_bind, wp_opt, wp_optN, wp_if, wp_run, g_call, g_call1, g_deep, g_con, asgT, asgTs, startE, wipeE, isq_x, tru_bl, len_tup, gt_int, cP, e2]
  refine (order_ok (k := k + 1) (b := true) (b' := true) po ⟨by omega⟩).x fun d h2 ⟨q1, K2⟩ => ?_
  subst q1
  simp -implicitDefEqProofs [x_var, x_lit, x_glo, x_bin, x_neg, x_cmp, x_chain, x_isN, x_notN, x_not, x_and, x_or, x_and1, x_and2, x_or1, x_or2, x_ite, x_tup, x_lst, x_ix, x_slc, x_oN, x_oS, x_fld, wx_shut, x_prop, x_call, x_callK, x_mk, x_mkK, x_mkR, x_bi, x_bm, x_isi, x_rngT, x_comp, x_new, x_frz, x_srt, x_isB, x_nil, x_cons, x_seq, x_rng, x_enm, x_zip, y_asg, y_setIx, y_setFld, y_ret, y_retN, y_if, y_expr, y_brk, y_cnt, y_pass, y_nil, y_cons, y_for, y_whl, wx_ok, wx_bad, wx_bind, wx_opt, wx_optN, wx_if, wx_run, g_call, g_call1, g_deep, g_con, asgT, asgTs, startE, wipeE, y_rse, wx_tst, w_var, w_lit, w_glo, w_bin, w_neg, w_cmp, w_chain, w_isN, w_notN, w_not, w_and, w_or, w_and1, w_and2, w_or1, w_or2, wp_tst, w_ite, w_tup, w_lst, w_ix, w_slc, w_oN, w_oS, w_fld, wp_shut, w_prop, w_call, w_callK, w_mk, w_mkK, w_mkR, w_bi, w_bm, w_isi, w_rngT, w_comp, w_new, w_frz, w_srt, w_isB, w_nil, w_cons, w_seq, w_rng, w_enm, w_zip, s_asg, s_setIx, s_setFld, s_ret, s_retN, s_if, s_expr, s_brk, s_cnt, s_pass, s_nil, s_cons, s_for, s_whl, wp_ok, wp_bad, wp_bind, wp_opt, wp_optN, wp_if, wp_run, g_call, g_call1, g_deep, g_con, asgT, asgTs, startE, wipeE, filled_x, f3, k0, tru_bl, len_tup, gt_int, cM, e3, it_tup, lockN, freeN]
  refine wx_forL (fun i ρ h' => ∃ (x1 y z : Option D), ρ = [some (.ref n), some (.tup (p.jobs.map prD)), some (.tup (p.pairs.map prD)), some (.tup (p.kinds.map kindD)), some (sqV false (p.states.map (arcS false true))), some (.int p.start), some x, some (.tup (p.jobs.map prD)), some (.tup (p.pairs.map prD)), x1, y, z] ∧ h' = h2) 0 ⟨none, none, none, rfl, rfl⟩ ?_ ?_
  · rintro i d ρ h' hd ⟨x1, y, z, rfl, rfl⟩
    obtain ⟨v, hv, rfl⟩ := enumL_get hd
    rw [List.getElem?_map] at hv
    cases hpi : p.kinds[i]? with
    | none => rw [hpi] at hv; cases hv
    | some ks =>
      rw [hpi] at hv
      cases hv
      have im : ∀ h, Wp (callI TB.tb (k + 5) i_is_model [.tup (ks.map .int), .int p.jobs.length] h) fun d h' => d = .bl true ∧ h' = h := fun h => is_model_ok (k := k + 1) (b := true) (n := p.jobs.length) ⟨by omega⟩ (kt ks (List.mem_of_getElem? hpi))
      unfold forF kindD
      simp -implicitDefEqProofs [x_var, x_lit, x_glo, x_bin, x_neg, x_cmp, x_chain, x_isN, x_notN, x_not, x_and, x_or, x_and1, x_and2, x_or1, x_or2, x_ite, x_tup, x_lst, x_ix, x_slc, x_oN, x_oS, x_fld, wx_shut, x_prop, x_call, x_callK, x_mk, x_mkK, x_mkR, x_bi, x_bm, x_isi, x_rngT, x_comp, x_new, x_frz, x_srt, x_isB, x_nil, x_cons, x_seq, x_rng, x_enm, x_zip, y_asg, y_setIx, y_setFld, y_ret, y_retN, y_if, y_expr, y_brk, y_cnt, y_pass, y_nil, y_cons, y_for, y_whl, wx_ok, wx_bad, wx_bind, wx_opt, wx_optN, wx_if, wx_run, g_call, g_call1, g_deep, g_con, asgT, asgTs, startE, wipeE, y_rse, wx_tst, w_var, w_lit, w_glo, w_bin, w_neg, w_cmp, w_chain, w_isN, w_notN, w_not, w_and, w_or, w_and1, w_and2, w_or1, w_or2, wp_tst, w_ite, w_tup, w_lst, w_ix, w_slc, w_oN, w_oS, w_fld, wp_shut, w_prop, w_call, w_callK, w_mk, w_mkK, w_mkR, w_bi, w_bm, w_isi, w_rngT, w_comp, w_new, w_frz, w_srt, w_isB, w_nil, w_cons, w_seq, w_rng, w_enm, w_zip, s_asg, s_setIx, s_setFld, s_ret, s_retN, s_if, s_expr, s_brk, s_cnt, s_pass, s_nil, s_cons, s_for, s_whl, wp_ok, wp_bad, wp_bind, wp_opt, wp_optN, wp_if, wp_run, g_call, g_call1, g_deep, g_con, asgT, asgTs, startE, wipeE, len_tup]
      refine (im _).x fun d h3 ⟨q1, q2⟩ => ?_
      subst q1
      subst q2
      simp -implicitDefEqProofs [x_var, x_lit, x_glo, x_bin, x_neg, x_cmp, x_chain, x_isN, x_notN, x_not, x_and, x_or, x_and1, x_and2, x_or1, x_or2, x_ite, x_tup, x_lst, x_ix, x_slc, x_oN, x_oS, x_fld, wx_shut, x_prop, x_call, x_callK, x_mk, x_mkK, x_mkR, x_bi, x_bm, x_isi, x_rngT, x_comp, x_new, x_frz, x_srt, x_isB, x_nil, x_cons, x_seq, x_rng, x_enm, x_zip, y_asg, y_setIx, y_setFld, y_ret, y_retN, y_if, y_expr, y_brk, y_cnt, y_pass, y_nil, y_cons, y_for, y_whl, wx_ok, wx_bad, wx_bind, wx_opt, wx_optN, wx_if, wx_run, g_call, g_call1, g_deep, g_con, asgT, asgTs, startE, wipeE, y_rse, wx_tst, w_var, w_lit, w_glo, w_bin, w_neg, w_cmp, w_chain, w_isN, w_notN, w_not, w_and, w_or, w_and1, w_and2, w_or1, w_or2, wp_tst, w_ite, w_tup, w_lst, w_ix, w_slc, w_oN, w_oS, w_fld, wp_shut, w_prop, w_call, w_callK, w_mk, w_mkK, w_mkR, w_bi, w_bm, w_isi, w_rngT, w_comp, w_new, w_frz, w_srt, w_isB, w_nil, w_cons, w_seq, w_rng, w_enm, w_zip, s_asg, s_setIx, s_setFld, s_ret, s_retN, s_if, s_expr, s_brk, s_cnt, s_pass, s_nil, s_cons, s_for, s_whl, wp_ok, wp_bad, wp_bind, wp_opt, wp_optN, wp_if, wp_run, g_call, g_call1, g_deep, g_con, asgT, asgTs, startE, wipeE, tru_bl]
  rintro ρ h3 ⟨x1, y, z, rfl, rfl⟩
  have fl : ∀ h (P : D → Sto → Prop), Wp (callI TB.tb (k + 5) i_is_filled [sqV false (p.states.map (arcS false true))] h) P = P (.bl true) h := fun h P => by
    have := is_filled_sq (k := k + 3) (b := false) (xs := p.states.map (arcS false true)) (h := h) (P := P)
    rw [List.length_map, f4] at this
    exact this
  simp -implicitDefEqProofs [x_var, x_lit, x_glo, x_bin, x_neg, x_cmp, x_chain, x_isN, x_notN, x_not, x_and, x_or, x_and1, x_and2, x_or1, x_or2, x_ite, x_tup, x_lst, x_ix, x_slc, x_oN, x_oS, x_fld, wx_shut, x_prop, x_call, x_callK, x_mk, x_mkK, x_mkR, x_bi, x_bm, x_isi, x_rngT, x_comp, x_new, x_frz, x_srt, x_isB, x_nil, x_cons, x_seq, x_rng, x_enm, x_zip, y_asg, y_setIx, y_setFld, y_ret, y_retN, y_if, y_expr, y_brk, y_cnt, y_pass, y_nil, y_cons, y_for, y_whl, wx_ok, wx_bad, wx_bind, wx_opt, wx_optN, wx_if, wx_run, g_call, g_call1, g_deep, g_con, asgT, asgTs, startE, wipeE, y_rse, wx_tst, w_var, w_lit, w_glo, w_bin, w_neg, w_cmp, w_chain, w_isN, w_notN, w_not, w_and, w_or, w_and1, w_and2, w_or1, w_or2, wp_tst, w_ite, w_tup, w_lst, w_ix, w_slc, w_oN, w_oS, w_fld, wp_shut, w_prop, w_call, w_callK, w_mk, w_mkK, w_mkR, w_bi, w_bm, w_isi, w_rngT, w_comp, w_new, w_frz, w_srt, w_isB, w_nil, w_cons, w_seq, w_rng, w_enm, w_zip, s_asg, s_setIx, s_setFld, s_ret, s_retN, s_if, s_expr, s_brk, s_cnt, s_pass, s_nil, s_cons, s_for, s_whl, wp_ok, wp_bad, wp_bind, wp_opt, wp_optN, wp_if, wp_run, g_call, g_call1, g_deep, g_con, asgT, asgTs, startE, wipeE, wx_eq fun P => fl _ P, s0, tru_bl, len_sq, len_tup, gt_int, cS, e4, it_sq, lockN, freeN]
  refine wx_forL (fun i ρ h' => ∃ (x1 y z : Option D), ρ = [some (.ref n), some (.tup (p.jobs.map prD)), some (.tup (p.pairs.map prD)), some (.tup (p.kinds.map kindD)), some (sqV false (p.states.map (arcS false true))), some (.int p.start), some x, some (.tup (p.jobs.map prD)), some (.tup (p.pairs.map prD)), x1, y, z] ∧ Kp h3 h') 0 ⟨x1, y, z, rfl, Kp.refl _⟩ ?_ ?_
  · rintro i d ρ h' hd ⟨x1, y, z, rfl, hK⟩
    obtain ⟨v, hv, rfl⟩ := enumL_get hd
    rw [List.getElem?_map] at hv
    cases hpi : p.states[i]? with
    | none => rw [hpi] at hv; cases hv
    | some as =>
      rw [hpi] at hv
      cases hv
      unfold forF
      simp -implicitDefEqProofs [x_var, x_lit, x_glo, x_bin, x_neg, x_cmp, x_chain, x_isN, x_notN, x_not, x_and, x_or, x_and1, x_and2, x_or1, x_or2, x_ite, x_tup, x_lst, x_ix, x_slc, x_oN, x_oS, x_fld, wx_shut, x_prop, x_call, x_callK, x_mk, x_mkK, x_mkR, x_bi, x_bm, x_isi, x_rngT, x_comp, x_new, x_frz, x_srt, x_isB, x_nil, x_cons, x_seq, x_rng, x_enm, x_zip, y_asg, y_setIx, y_setFld, y_ret, y_retN, y_if, y_expr, y_brk, y_cnt, y_pass, y_nil, y_cons, y_for, y_whl, wx_ok, wx_bad, wx_bind, wx_opt, wx_optN, wx_if, wx_run, g_call, g_call1, g_deep, g_con, asgT, asgTs, startE, wipeE, y_rse, wx_tst, w_var, w_lit, w_glo, w_bin, w_neg, w_cmp, w_chain, w_isN, w_notN, w_not, w_and, w_or, w_and1, w_and2, w_or1, w_or2, wp_tst, w_ite, w_tup, w_lst, w_ix, w_slc, w_oN, w_oS, w_fld, wp_shut, w_prop, w_call, w_callK, w_mk, w_mkK, w_mkR, w_bi, w_bm, w_isi, w_rngT, w_comp, w_new, w_frz, w_srt, w_isB, w_nil, w_cons, w_seq, w_rng, w_enm, w_zip, s_asg, s_setIx, s_setFld, s_ret, s_retN, s_if, s_expr, s_brk, s_cnt, s_pass, s_nil, s_cons, s_for, s_whl, wp_ok, wp_bad, wp_bind, wp_opt, wp_optN, wp_if, wp_run, g_call, g_call1, g_deep, g_con, asgT, asgTs, startE, wipeE, len_sq, len_tup]
      refine (is_state_ok (b := false) (b' := true) (st as (List.mem_of_getElem? hpi))).x fun d h4 ⟨q1, K4⟩ => ?_
      subst q1
      simp -implicitDefEqProofs [x_var, x_lit, x_glo, x_bin, x_neg, x_cmp, x_chain, x_isN, x_notN, x_not, x_and, x_or, x_and1, x_and2, x_or1, x_or2, x_ite, x_tup, x_lst, x_ix, x_slc, x_oN, x_oS, x_fld, wx_shut, x_prop, x_call, x_callK, x_mk, x_mkK, x_mkR, x_bi, x_bm, x_isi, x_rngT, x_comp, x_new, x_frz, x_srt, x_isB, x_nil, x_cons, x_seq, x_rng, x_enm, x_zip, y_asg, y_setIx, y_setFld, y_ret, y_retN, y_if, y_expr, y_brk, y_cnt, y_pass, y_nil, y_cons, y_for, y_whl, wx_ok, wx_bad, wx_bind, wx_opt, wx_optN, wx_if, wx_run, g_call, g_call1, g_deep, g_con, asgT, asgTs, startE, wipeE, y_rse, wx_tst, w_var, w_lit, w_glo, w_bin, w_neg, w_cmp, w_chain, w_isN, w_notN, w_not, w_and, w_or, w_and1, w_and2, w_or1, w_or2, wp_tst, w_ite, w_tup, w_lst, w_ix, w_slc, w_oN, w_oS, w_fld, wp_shut, w_prop, w_call, w_callK, w_mk, w_mkK, w_mkR, w_bi, w_bm, w_isi, w_rngT, w_comp, w_new, w_frz, w_srt, w_isB, w_nil, w_cons, w_seq, w_rng, w_enm, w_zip, s_asg, s_setIx, s_setFld, s_ret, s_retN, s_if, s_expr, s_brk, s_cnt, s_pass, s_nil, s_cons, s_for, s_whl, wp_ok, wp_bad, wp_bind, wp_opt, wp_optN, wp_if, wp_run, g_call, g_call1, g_deep, g_con, asgT, asgTs, startE, wipeE, tru_bl]
      exact hK.trans K4
  rintro ρ h4 ⟨x1, y, z, rfl, hK⟩
  have K4 := K2.trans hK
  have isl : ∀ h (P : D → Sto → Prop), Wp (callI TB.tb (k + 5) i_is_slips [x] h) P = P (.bl false) h := fun h P => hx (k + 2) h P
  have ist : ∀ h (P : D → Sto → Prop), Wp (callI TB.tb (k + 5) i_is_integer_in [.int p.start, .int 0, .int ((p.states.length : Int) - 1)] h) P = P (.bl true) h := fun h P => by
    have := is_integer_in_int (k := k + 3) (i := p.start) (a := 0) (b := (p.states.length : Int) - 1) (h := h) (P := P)
    rw [decide_eq_true a0, decide_eq_true (show p.start ≤ (p.states.length : Int) - 1 by omega)] at this
    exact this
  simp -implicitDefEqProofs [x_var, x_lit, x_glo, x_bin, x_neg, x_cmp, x_chain, x_isN, x_notN, x_not, x_and, x_or, x_and1, x_and2, x_or1, x_or2, x_ite, x_tup, x_lst, x_ix, x_slc, x_oN, x_oS, x_fld, wx_shut, x_prop, x_call, x_callK, x_mk, x_mkK, x_mkR, x_bi, x_bm, x_isi, x_rngT, x_comp, x_new, x_frz, x_srt, x_isB, x_nil, x_cons, x_seq, x_rng, x_enm, x_zip, y_asg, y_setIx, y_setFld, y_ret, y_retN, y_if, y_expr, y_brk, y_cnt, y_pass, y_nil, y_cons, y_for, y_whl, wx_ok, wx_bad, wx_bind, wx_opt, wx_optN, wx_if, wx_run, g_call, g_call1, g_deep, g_con, asgT, asgTs, startE, wipeE, y_rse, wx_tst, w_var, w_lit, w_glo, w_bin, w_neg, w_cmp, w_chain, w_isN, w_notN, w_not, w_and, w_or, w_and1, w_and2, w_or1, w_or2, wp_tst, w_ite, w_tup, w_lst, w_ix, w_slc, w_oN, w_oS, w_fld, wp_shut, w_prop, w_call, w_callK, w_mk, w_mkK, w_mkR, w_bi, w_bm, w_isi, w_rngT, w_comp, w_new, w_frz, w_srt, w_isB, w_nil, w_cons, w_seq, w_rng, w_enm, w_zip, s_asg, s_setIx, s_setFld, s_ret, s_retN, s_if, s_expr, s_brk, s_cnt, s_pass, s_nil, s_cons, s_for, s_whl, wp_ok, wp_bad, wp_bind, wp_opt, wp_optN, wp_if, wp_run, g_call, g_call1, g_deep, g_con, asgT, asgTs, startE, wipeE, len_sq, sub_int, wx_eq fun P => ist _ P, tru_bl, wx_eq fun P => isl _ P, bv_init]
  exact re_now K4
end
end Cl
/-! text Y4 -/
set_option maxHeartbeats 1000007
namespace Cl
open PySem
section
variable {k n : Nat} {h : Sto} {p : Pt} {P : D → Sto → Prop} {Z : Nat → D → Sto → Prop} {xs : List D}
theorem kp_app {c : Cell} : Kp h (h ++ [c]) := ⟨by simp, fun m hm => getC_app hm⟩
theorem slips_bad {x : D} (hx : NoSl x) : Wx (Re e_BadValue (.int 2) h) (callI TB.tb (k + 8) i_with_slips [p.o, x] h) P := by
  rw [c_with_slips]
  simp -implicitDefEqProofs [F_with_slips, x_var, x_lit, x_glo, x_bin, x_neg, x_cmp, x_chain, x_isN, x_notN, x_not, x_and, x_or, x_and1, x_and2, x_or1, x_or2, x_ite, x_tup, x_lst, x_ix, x_slc, x_oN, x_oS, x_fld, wx_shut, x_prop, x_call, x_callK, x_mk, x_mkK, x_mkR, x_bi, x_bm, x_isi, x_rngT, x_comp, x_new, x_frz, x_srt, x_isB, x_nil, x_cons, x_seq, x_rng, x_enm, x_zip, y_asg, y_setIx, y_setFld, y_ret, y_retN, y_if, y_expr, y_brk, y_cnt, y_pass, y_nil, y_cons, y_for, y_whl, wx_ok, wx_bad, wx_bind, wx_opt, wx_optN, wx_if, wx_run, g_call, g_call1, g_deep, g_con, asgT, asgTs, startE, wipeE, y_rse, wx_tst, w_var, w_lit, w_glo, w_bin, w_neg, w_cmp, w_chain, w_isN, w_notN, w_not, w_and, w_or, w_and1, w_and2, w_or1, w_or2, wp_tst, w_ite, w_tup, w_lst, w_ix, w_slc, w_oN, w_oS, w_fld, wp_shut, w_prop, w_call, w_callK, w_mk, w_mkK, w_mkR, w_bi, w_bm, w_isi, w_rngT, w_comp, w_new, w_frz, w_srt, w_isB, w_nil, w_cons, w_seq, w_rng, w_enm, w_zip, s_asg, s_setIx, s_setFld, s_ret, s_retN, s_if, s_expr, s_brk, s_cnt, s_pass, s_nil, s_cons, s_for, s_whl, wp_ok, wp_bad, wp_bind, wp_opt, wp_optN, wp_if, wp_run, g_call, g_call1, g_deep, g_con, asgT, asgTs, startE, wipeE, wx_eq fun P => hx _ _ P, tru_bl, bv_init]
  exact re_now (Kp.refl h)
/-- not so many things -/
def NoSq (m : Nat) (x : D) : Prop := ∀ (k : Nat) (h : Sto) (P : D → Sto → Prop), Wp (callI TB.tb (k + 2) i_is_sequence_of [x, .int m] h) P = P (.bl false) h
theorem nosq_pl {m : Nat} {x : D} (hp : Plain x) : NoSq m x := fun k h P => seqof_pl hp
theorem nosq_tup {m : Nat} (hl : xs.length ≠ m) : NoSq m (.tup xs) := fun k h P => by
  rw [seqof_tup]
  have : ((xs.length : Int) == (m : Int)) = false := by
    simp
    omega
  rw [this]
theorem times_bad {x : D} (hx : NoSq p.jobs.length x) : Wx (Re e_BadValue (.int 2) h) (callI TB.tb (k + 8) i_with_times [p.o, x] h) P := by
  rw [c_with_times]
  simp -implicitDefEqProofs [F_with_times, x_var, x_lit, x_glo, x_bin, x_neg, x_cmp, x_chain, x_isN, x_notN, x_not, x_and, x_or, x_and1, x_and2, x_or1, x_or2, x_ite, x_tup, x_lst, x_ix, x_slc, x_oN, x_oS, x_fld, wx_shut, x_prop, x_call, x_callK, x_mk, x_mkK, x_mkR, x_bi, x_bm, x_isi, x_rngT, x_comp, x_new, x_frz, x_srt, x_isB, x_nil, x_cons, x_seq, x_rng, x_enm, x_zip, y_asg, y_setIx, y_setFld, y_ret, y_retN, y_if, y_expr, y_brk, y_cnt, y_pass, y_nil, y_cons, y_for, y_whl, wx_ok, wx_bad, wx_bind, wx_opt, wx_optN, wx_if, wx_run, g_call, g_call1, g_deep, g_con, asgT, asgTs, startE, wipeE, y_rse, wx_tst, w_var, w_lit, w_glo, w_bin, w_neg, w_cmp, w_chain, w_isN, w_notN, w_not, w_and, w_or, w_and1, w_and2, w_or1, w_or2, wp_tst, w_ite, w_tup, w_lst, w_ix, w_slc, w_oN, w_oS, w_fld, wp_shut, w_prop, w_call, w_callK, w_mk, w_mkK, w_mkR, w_bi, w_bm, w_isi, w_rngT, w_comp, w_new, w_frz, w_srt, w_isB, w_nil, w_cons, w_seq, w_rng, w_enm, w_zip, s_asg, s_setIx, s_setFld, s_ret, s_retN, s_if, s_expr, s_brk, s_cnt, s_pass, s_nil, s_cons, s_for, s_whl, wp_ok, wp_bad, wp_bind, wp_opt, wp_optN, wp_if, wp_run, g_call, g_call1, g_deep, g_con, asgT, asgTs, startE, wipeE, cls_o, get_tasks, len_tup, wx_eq fun P => hx _ _ P, tru_bl, bv_init]
  exact re_now (Kp.refl h)
theorem times_task {i : Nat} {x : D} (ok : LnOk p) (hi : i < p.jobs.length) (hx : NoTk x) : Wx (Re e_BadTask (.int i) h) (callI TB.tb (k + 8) i_with_times [p.o, .tup ((p.jobs.map prD).set i x)] h) P := by
  rw [c_with_times]
  simp -implicitDefEqProofs [F_with_times, x_var, x_lit, x_glo, x_bin, x_neg, x_cmp, x_chain, x_isN, x_notN, x_not, x_and, x_or, x_and1, x_and2, x_or1, x_or2, x_ite, x_tup, x_lst, x_ix, x_slc, x_oN, x_oS, x_fld, wx_shut, x_prop, x_call, x_callK, x_mk, x_mkK, x_mkR, x_bi, x_bm, x_isi, x_rngT, x_comp, x_new, x_frz, x_srt, x_isB, x_nil, x_cons, x_seq, x_rng, x_enm, x_zip, y_asg, y_setIx, y_setFld, y_ret, y_retN, y_if, y_expr, y_brk, y_cnt, y_pass, y_nil, y_cons, y_for, y_whl, wx_ok, wx_bad, wx_bind, wx_opt, wx_optN, wx_if, wx_run, g_call, g_call1, g_deep, g_con, asgT, asgTs, startE, wipeE, y_rse, wx_tst, w_var, w_lit, w_glo, w_bin, w_neg, w_cmp, w_chain, w_isN, w_notN, w_not, w_and, w_or, w_and1, w_and2, w_or1, w_or2, wp_tst, w_ite, w_tup, w_lst, w_ix, w_slc, w_oN, w_oS, w_fld, wp_shut, w_prop, w_call, w_callK, w_mk, w_mkK, w_mkR, w_bi, w_bm, w_isi, w_rngT, w_comp, w_new, w_frz, w_srt, w_isB, w_nil, w_cons, w_seq, w_rng, w_enm, w_zip, s_asg, s_setIx, s_setFld, s_ret, s_retN, s_if, s_expr, s_brk, s_cnt, s_pass, s_nil, s_cons, s_for, s_whl, wp_ok, wp_bad, wp_bind, wp_opt, wp_optN, wp_if, wp_run, g_call, g_call1, g_deep, g_con, asgT, asgTs, startE, wipeE, cls_o, get_tasks, get_order, get_models, get_states, get_start, get_slips, len_tup, seqof_x, tru_bl]
  exact re_kp kp_app (init_task ok.j1 ok.jt hi hx)
theorem rep_1 {x : D} (hx : ∀ (k : Nat) (h : Sto) (P : D → Sto → Prop), Wp (callI TB.tb (k + 2) i_is_filled [x] h) P = P (.bl false) h) : Wx (Re e_BadValue (.int 2) h) (callI TB.tb (k + 8) i_repeated [p.o, x] h) P := by
  rw [c_repeated]
  simp -implicitDefEqProofs [F_repeated, x_var, x_lit, x_glo, x_bin, x_neg, x_cmp, x_chain, x_isN, x_notN, x_not, x_and, x_or, x_and1, x_and2, x_or1, x_or2, x_ite, x_tup, x_lst, x_ix, x_slc, x_oN, x_oS, x_fld, wx_shut, x_prop, x_call, x_callK, x_mk, x_mkK, x_mkR, x_bi, x_bm, x_isi, x_rngT, x_comp, x_new, x_frz, x_srt, x_isB, x_nil, x_cons, x_seq, x_rng, x_enm, x_zip, y_asg, y_setIx, y_setFld, y_ret, y_retN, y_if, y_expr, y_brk, y_cnt, y_pass, y_nil, y_cons, y_for, y_whl, wx_ok, wx_bad, wx_bind, wx_opt, wx_optN, wx_if, wx_run, g_call, g_call1, g_deep, g_con, asgT, asgTs, startE, wipeE, y_rse, wx_tst, w_var, w_lit, w_glo, w_bin, w_neg, w_cmp, w_chain, w_isN, w_notN, w_not, w_and, w_or, w_and1, w_and2, w_or1, w_or2, wp_tst, w_ite, w_tup, w_lst, w_ix, w_slc, w_oN, w_oS, w_fld, wp_shut, w_prop, w_call, w_callK, w_mk, w_mkK, w_mkR, w_bi, w_bm, w_isi, w_rngT, w_comp, w_new, w_frz, w_srt, w_isB, w_nil, w_cons, w_seq, w_rng, w_enm, w_zip, s_asg, s_setIx, s_setFld, s_ret, s_retN, s_if, s_expr, s_brk, s_cnt, s_pass, s_nil, s_cons, s_for, s_whl, wp_ok, wp_bad, wp_bind, wp_opt, wp_optN, wp_if, wp_run, g_call, g_call1, g_deep, g_con, asgT, asgTs, startE, wipeE, wx_eq fun P => hx _ _ P, tru_bl, bv_init]
  exact re_now (Kp.refl h)
theorem rep_2 (hl : 40 < xs.length) : Wx (Re e_BadValue (.int 2) h) (callI TB.tb (k + 8) i_repeated [p.o, .tup xs] h) P := by
  have c := con_MOST_ROW
  simp only [Cv.d] at c
  have f1 : 0 < xs.length := by omega
  have f2 : (40 : Int) < xs.length := by omega
  rw [c_repeated]
  simp -implicitDefEqProofs [F_repeated, x_var, x_lit, x_glo, x_bin, x_neg, x_cmp, x_chain, x_isN, x_notN, x_not, x_and, x_or, x_and1, x_and2, x_or1, x_or2, x_ite, x_tup, x_lst, x_ix, x_slc, x_oN, x_oS, x_fld, wx_shut, x_prop, x_call, x_callK, x_mk, x_mkK, x_mkR, x_bi, x_bm, x_isi, x_rngT, x_comp, x_new, x_frz, x_srt, x_isB, x_nil, x_cons, x_seq, x_rng, x_enm, x_zip, y_asg, y_setIx, y_setFld, y_ret, y_retN, y_if, y_expr, y_brk, y_cnt, y_pass, y_nil, y_cons, y_for, y_whl, wx_ok, wx_bad, wx_bind, wx_opt, wx_optN, wx_if, wx_run, g_call, g_call1, g_deep, g_con, asgT, asgTs, startE, wipeE, y_rse, wx_tst, w_var, w_lit, w_glo, w_bin, w_neg, w_cmp, w_chain, w_isN, w_notN, w_not, w_and, w_or, w_and1, w_and2, w_or1, w_or2, wp_tst, w_ite, w_tup, w_lst, w_ix, w_slc, w_oN, w_oS, w_fld, wp_shut, w_prop, w_call, w_callK, w_mk, w_mkK, w_mkR, w_bi, w_bm, w_isi, w_rngT, w_comp, w_new, w_frz, w_srt, w_isB, w_nil, w_cons, w_seq, w_rng, w_enm, w_zip, s_asg, s_setIx, s_setFld, s_ret, s_retN, s_if, s_expr, s_brk, s_cnt, s_pass, s_nil, s_cons, s_for, s_whl, wp_ok, wp_bad, wp_bind, wp_opt, wp_optN, wp_if, wp_run, g_call, g_call1, g_deep, g_con, asgT, asgTs, startE, wipeE, filled_x, f1, f2, c, len_tup, gt_int, tru_bl, bv_init]
  exact re_now (Kp.refl h)
theorem rep_3 (f1 : 0 < xs.length) (hl : xs.length ≤ 40) (hp : ∀ x ∈ xs, Plain x) (hn : xs.all (okE p.kinds.length) = false) : Wx (Re e_BadValue (.int 2) h) (callI TB.tb (k + 8) i_repeated [p.o, .tup xs] h) P := by
  have c := con_MOST_ROW
  simp only [Cv.d] at c
  have f2 : ¬ (40 : Int) < xs.length := by omega
  have bl : ∀ h, Wp (callI TB.tb (k + 7) i_are_below [.tup xs, .int p.kinds.length] h) fun d h' => d = .bl false ∧ h' = h := fun h => (below_pl (k := k + 4) (b := true) (many := p.kinds.length) (by omega) hp).imp fun d h1 ⟨e1, e2⟩ => ⟨by rw [e1, hn], e2⟩
  rw [c_repeated]
  simp -implicitDefEqProofs [F_repeated, x_var, x_lit, x_glo, x_bin, x_neg, x_cmp, x_chain, x_isN, x_notN, x_not, x_and, x_or, x_and1, x_and2, x_or1, x_or2, x_ite, x_tup, x_lst, x_ix, x_slc, x_oN, x_oS, x_fld, wx_shut, x_prop, x_call, x_callK, x_mk, x_mkK, x_mkR, x_bi, x_bm, x_isi, x_rngT, x_comp, x_new, x_frz, x_srt, x_isB, x_nil, x_cons, x_seq, x_rng, x_enm, x_zip, y_asg, y_setIx, y_setFld, y_ret, y_retN, y_if, y_expr, y_brk, y_cnt, y_pass, y_nil, y_cons, y_for, y_whl, wx_ok, wx_bad, wx_bind, wx_opt, wx_optN, wx_if, wx_run, g_call, g_call1, g_deep, g_con, asgT, asgTs, startE, wipeE, y_rse, wx_tst, w_var, w_lit, w_glo, w_bin, w_neg, w_cmp, w_chain, w_isN, w_notN, w_not, w_and, w_or, w_and1, w_and2, w_or1, w_or2, wp_tst, w_ite, w_tup, w_lst, w_ix, w_slc, w_oN, w_oS, w_fld, wp_shut, w_prop, w_call, w_callK, w_mk, w_mkK, w_mkR, w_bi, w_bm, w_isi, w_rngT, w_comp, w_new, w_frz, w_srt, w_isB, w_nil, w_cons, w_seq, w_rng, w_enm, w_zip, s_asg, s_setIx, s_setFld, s_ret, s_retN, s_if, s_expr, s_brk, s_cnt, s_pass, s_nil, s_cons, s_for, s_whl, wp_ok, wp_bad, wp_bind, wp_opt, wp_optN, wp_if, wp_run, g_call, g_call1, g_deep, g_con, asgT, asgTs, startE, wipeE, filled_x, f1, f2, c, len_tup, gt_int, tru_bl, cls_o, get_models]
  refine (bl _).x fun d h1 ⟨e1, e2⟩ => ?_
  subst e1
  subst e2
  simp -implicitDefEqProofs [x_var, x_lit, x_glo, x_bin, x_neg, x_cmp, x_chain, x_isN, x_notN, x_not, x_and, x_or, x_and1, x_and2, x_or1, x_or2, x_ite, x_tup, x_lst, x_ix, x_slc, x_oN, x_oS, x_fld, wx_shut, x_prop, x_call, x_callK, x_mk, x_mkK, x_mkR, x_bi, x_bm, x_isi, x_rngT, x_comp, x_new, x_frz, x_srt, x_isB, x_nil, x_cons, x_seq, x_rng, x_enm, x_zip, y_asg, y_setIx, y_setFld, y_ret, y_retN, y_if, y_expr, y_brk, y_cnt, y_pass, y_nil, y_cons, y_for, y_whl, wx_ok, wx_bad, wx_bind, wx_opt, wx_optN, wx_if, wx_run, g_call, g_call1, g_deep, g_con, asgT, asgTs, startE, wipeE, y_rse, wx_tst, w_var, w_lit, w_glo, w_bin, w_neg, w_cmp, w_chain, w_isN, w_notN, w_not, w_and, w_or, w_and1, w_and2, w_or1, w_or2, wp_tst, w_ite, w_tup, w_lst, w_ix, w_slc, w_oN, w_oS, w_fld, wp_shut, w_prop, w_call, w_callK, w_mk, w_mkK, w_mkR, w_bi, w_bm, w_isi, w_rngT, w_comp, w_new, w_frz, w_srt, w_isB, w_nil, w_cons, w_seq, w_rng, w_enm, w_zip, s_asg, s_setIx, s_setFld, s_ret, s_retN, s_if, s_expr, s_brk, s_cnt, s_pass, s_nil, s_cons, s_for, s_whl, wp_ok, wp_bad, wp_bind, wp_opt, wp_optN, wp_if, wp_run, g_call, g_call1, g_deep, g_con, asgT, asgTs, startE, wipeE, tru_bl, bv_init]
  exact re_now (Kp.refl _)
theorem rng_0 : rngD [.int 0] = some (0, 0) := rng_one (n := 0) ⟨by omega⟩
theorem free_bad {c0 : Nat} {d0 t o s : D} {ks : List D} (hk : ks.length ≤ 100) (hi : ∀ (st : D) (n : Nat) (h : Sto) (P : D → Sto → Prop), Wx (Re c0 d0 h) (callI TB.tb (k + 6) i_Line___init__ [.ref n, t, o, .tup ks, st, .int 0, s] h) P) :
    Wx (Re c0 d0 h) (callI TB.tb (k + 8) i_free_line [t, o, .tup ks, s] h) P := by
  have big := sz
  have hkf : Few ks.length := ⟨by omega⟩
  rw [c_free_line]
  simp -implicitDefEqProofs [F_free_line, x_var, x_lit, x_glo, x_bin, x_neg, x_cmp, x_chain, x_isN, x_notN, x_not, x_and, x_or, x_and1, x_and2, x_or1, x_or2, x_ite, x_tup, x_lst, x_ix, x_slc, x_oN, x_oS, x_fld, wx_shut, x_prop, x_call, x_callK, x_mk, x_mkK, x_mkR, x_bi, x_bm, x_isi, x_rngT, x_comp, x_new, x_frz, x_srt, x_isB, x_nil, x_cons, x_seq, x_rng, x_enm, x_zip, y_asg, y_setIx, y_setFld, y_ret, y_retN, y_if, y_expr, y_brk, y_cnt, y_pass, y_nil, y_cons, y_for, y_whl, wx_ok, wx_bad, wx_bind, wx_opt, wx_optN, wx_if, wx_run, g_call, g_call1, g_deep, g_con, asgT, asgTs, startE, wipeE, y_rse, wx_tst, w_var, w_lit, w_glo, w_bin, w_neg, w_cmp, w_chain, w_isN, w_notN, w_not, w_and, w_or, w_and1, w_and2, w_or1, w_or2, wp_tst, w_ite, w_tup, w_lst, w_ix, w_slc, w_oN, w_oS, w_fld, wp_shut, w_prop, w_call, w_callK, w_mk, w_mkK, w_mkR, w_bi, w_bm, w_isi, w_rngT, w_comp, w_new, w_frz, w_srt, w_isB, w_nil, w_cons, w_seq, w_rng, w_enm, w_zip, s_asg, s_setIx, s_setFld, s_ret, s_retN, s_if, s_expr, s_brk, s_cnt, s_pass, s_nil, s_cons, s_for, s_whl, wp_ok, wp_bad, wp_bind, wp_opt, wp_optN, wp_if, wp_run, g_call, g_call1, g_deep, g_con, asgT, asgTs, startE, wipeE, isq_x, tru_bl, len_tup, rng_one hkf, lockN, freeN]
  rw [rngL_upto]
  refine comp_map (ys := ((upto ks.length).map fun k => (k, (0 : Int))).map prD) (by simp) (by simp [upto_len]; omega) (fun i x y e1 e2 => ?_) ?_
  · rw [List.getElem?_map] at e1
    rw [List.map_map, List.getElem?_map] at e2
    cases hx : (upto ks.length)[i]? with
    | none => rw [hx] at e1; cases e1
    | some v =>
      rw [hx] at e1 e2
      cases e1
      cases e2
      unfold compF
      simp -implicitDefEqProofs [w_var, w_lit, w_glo, w_bin, w_neg, w_cmp, w_chain, w_isN, w_notN, w_not, w_and, w_or, w_and1, w_and2, w_or1, w_or2, wp_tst, w_ite, w_tup, w_lst, w_ix, w_slc, w_oN, w_oS, w_fld, wp_shut, w_prop, w_call, w_callK, w_mk, w_mkK, w_mkR, w_bi, w_bm, w_isi, w_rngT, w_comp, w_new, w_frz, w_srt, w_isB, w_nil, w_cons, w_seq, w_rng, w_enm, w_zip, s_asg, s_setIx, s_setFld, s_ret, s_retN, s_if, s_expr, s_brk, s_cnt, s_pass, s_nil, s_cons, s_for, s_whl, wp_ok, wp_bad, wp_bind, wp_opt, wp_optN, wp_if, wp_run, g_call, g_call1, g_deep, g_con, asgT, asgTs, startE, wipeE, lim_ok, prD]
  · simp -implicitDefEqProofs [x_var, x_lit, x_glo, x_bin, x_neg, x_cmp, x_chain, x_isN, x_notN, x_not, x_and, x_or, x_and1, x_and2, x_or1, x_or2, x_ite, x_tup, x_lst, x_ix, x_slc, x_oN, x_oS, x_fld, wx_shut, x_prop, x_call, x_callK, x_mk, x_mkK, x_mkR, x_bi, x_bm, x_isi, x_rngT, x_comp, x_new, x_frz, x_srt, x_isB, x_nil, x_cons, x_seq, x_rng, x_enm, x_zip, y_asg, y_setIx, y_setFld, y_ret, y_retN, y_if, y_expr, y_brk, y_cnt, y_pass, y_nil, y_cons, y_for, y_whl, wx_ok, wx_bad, wx_bind, wx_opt, wx_optN, wx_if, wx_run, g_call, g_call1, g_deep, g_con, asgT, asgTs, startE, wipeE, y_rse, wx_tst, w_var, w_lit, w_glo, w_bin, w_neg, w_cmp, w_chain, w_isN, w_notN, w_not, w_and, w_or, w_and1, w_and2, w_or1, w_or2, wp_tst, w_ite, w_tup, w_lst, w_ix, w_slc, w_oN, w_oS, w_fld, wp_shut, w_prop, w_call, w_callK, w_mk, w_mkK, w_mkR, w_bi, w_bm, w_isi, w_rngT, w_comp, w_new, w_frz, w_srt, w_isB, w_nil, w_cons, w_seq, w_rng, w_enm, w_zip, s_asg, s_setIx, s_setFld, s_ret, s_retN, s_if, s_expr, s_brk, s_cnt, s_pass, s_nil, s_cons, s_for, s_whl, wp_ok, wp_bad, wp_bind, wp_opt, wp_optN, wp_if, wp_run, g_call, g_call1, g_deep, g_con, asgT, asgTs, startE, wipeE, lim_ok]
    exact re_kp kp_app (hi _ _ _ _)
theorem free_bad0 {c0 : Nat} {d0 t o s : D} (hi : ∀ (st : D) (n : Nat) (h : Sto) (P : D → Sto → Prop), Wx (Re c0 d0 h) (callI TB.tb (k + 6) i_Line___init__ [.ref n, t, o, .non, st, .int 0, s] h) P) :
    Wx (Re c0 d0 h) (callI TB.tb (k + 8) i_free_line [t, o, .non, s] h) P := by
  have q : ∀ h (P : D → Sto → Prop), Wp (callI TB.tb (k + 7) i_is_sequence [.non] h) P = P (.bl false) h := fun h P => is_seq_pl Plain.non
  rw [c_free_line]
  simp -implicitDefEqProofs [F_free_line, x_var, x_lit, x_glo, x_bin, x_neg, x_cmp, x_chain, x_isN, x_notN, x_not, x_and, x_or, x_and1, x_and2, x_or1, x_or2, x_ite, x_tup, x_lst, x_ix, x_slc, x_oN, x_oS, x_fld, wx_shut, x_prop, x_call, x_callK, x_mk, x_mkK, x_mkR, x_bi, x_bm, x_isi, x_rngT, x_comp, x_new, x_frz, x_srt, x_isB, x_nil, x_cons, x_seq, x_rng, x_enm, x_zip, y_asg, y_setIx, y_setFld, y_ret, y_retN, y_if, y_expr, y_brk, y_cnt, y_pass, y_nil, y_cons, y_for, y_whl, wx_ok, wx_bad, wx_bind, wx_opt, wx_optN, wx_if, wx_run, g_call, g_call1, g_deep, g_con, asgT, asgTs, startE, wipeE, y_rse, wx_tst, w_var, w_lit, w_glo, w_bin, w_neg, w_cmp, w_chain, w_isN, w_notN, w_not, w_and, w_or, w_and1, w_and2, w_or1, w_or2, wp_tst, w_ite, w_tup, w_lst, w_ix, w_slc, w_oN, w_oS, w_fld, wp_shut, w_prop, w_call, w_callK, w_mk, w_mkK, w_mkR, w_bi, w_bm, w_isi, w_rngT, w_comp, w_new, w_frz, w_srt, w_isB, w_nil, w_cons, w_seq, w_rng, w_enm, w_zip, s_asg, s_setIx, s_setFld, s_ret, s_retN, s_if, s_expr, s_brk, s_cnt, s_pass, s_nil, s_cons, s_for, s_whl, wp_ok, wp_bad, wp_bind, wp_opt, wp_optN, wp_if, wp_run, g_call, g_call1, g_deep, g_con, asgT, asgTs, startE, wipeE, wx_eq fun P => q _ P, tru_bl, rng_0, lockN, freeN]
  show Wp (.ok [] h) _
  rw [wp_ok]
  simp -implicitDefEqProofs [x_var, x_lit, x_glo, x_bin, x_neg, x_cmp, x_chain, x_isN, x_notN, x_not, x_and, x_or, x_and1, x_and2, x_or1, x_or2, x_ite, x_tup, x_lst, x_ix, x_slc, x_oN, x_oS, x_fld, wx_shut, x_prop, x_call, x_callK, x_mk, x_mkK, x_mkR, x_bi, x_bm, x_isi, x_rngT, x_comp, x_new, x_frz, x_srt, x_isB, x_nil, x_cons, x_seq, x_rng, x_enm, x_zip, y_asg, y_setIx, y_setFld, y_ret, y_retN, y_if, y_expr, y_brk, y_cnt, y_pass, y_nil, y_cons, y_for, y_whl, wx_ok, wx_bad, wx_bind, wx_opt, wx_optN, wx_if, wx_run, g_call, g_call1, g_deep, g_con, asgT, asgTs, startE, wipeE, y_rse, wx_tst, w_var, w_lit, w_glo, w_bin, w_neg, w_cmp, w_chain, w_isN, w_notN, w_not, w_and, w_or, w_and1, w_and2, w_or1, w_or2, wp_tst, w_ite, w_tup, w_lst, w_ix, w_slc, w_oN, w_oS, w_fld, wp_shut, w_prop, w_call, w_callK, w_mk, w_mkK, w_mkR, w_bi, w_bm, w_isi, w_rngT, w_comp, w_new, w_frz, w_srt, w_isB, w_nil, w_cons, w_seq, w_rng, w_enm, w_zip, s_asg, s_setIx, s_setFld, s_ret, s_retN, s_if, s_expr, s_brk, s_cnt, s_pass, s_nil, s_cons, s_for, s_whl, wp_ok, wp_bad, wp_bind, wp_opt, wp_optN, wp_if, wp_run, g_call, g_call1, g_deep, g_con, asgT, asgTs, startE, wipeE, lim_ok]
  exact re_kp kp_app (hi _ _ _ _)
theorem free_slips {x : D} (ok : LnOk p) (hx : NoSl x) : Wx (Re e_BadValue (.int 6) h) (callI TB.tb (k + 8) i_free_line [.tup (p.jobs.map prD), .tup (p.pairs.map prD), .tup (p.kinds.map kindD), x] h) P := by
  have big := sz
  have k1 := ok.k1
  have hkf : Few p.kinds.length := ⟨by omega⟩
  rw [c_free_line]
  simp -implicitDefEqProofs [F_free_line, x_var, x_lit, x_glo, x_bin, x_neg, x_cmp, x_chain, x_isN, x_notN, x_not, x_and, x_or, x_and1, x_and2, x_or1, x_or2, x_ite, x_tup, x_lst, x_ix, x_slc, x_oN, x_oS, x_fld, wx_shut, x_prop, x_call, x_callK, x_mk, x_mkK, x_mkR, x_bi, x_bm, x_isi, x_rngT, x_comp, x_new, x_frz, x_srt, x_isB, x_nil, x_cons, x_seq, x_rng, x_enm, x_zip, y_asg, y_setIx, y_setFld, y_ret, y_retN, y_if, y_expr, y_brk, y_cnt, y_pass, y_nil, y_cons, y_for, y_whl, wx_ok, wx_bad, wx_bind, wx_opt, wx_optN, wx_if, wx_run, g_call, g_call1, g_deep, g_con, asgT, asgTs, startE, wipeE, y_rse, wx_tst, w_var, w_lit, w_glo, w_bin, w_neg, w_cmp, w_chain, w_isN, w_notN, w_not, w_and, w_or, w_and1, w_and2, w_or1, w_or2, wp_tst, w_ite, w_tup, w_lst, w_ix, w_slc, w_oN, w_oS, w_fld, wp_shut, w_prop, w_call, w_callK, w_mk, w_mkK, w_mkR, w_bi, w_bm, w_isi, w_rngT, w_comp, w_new, w_frz, w_srt, w_isB, w_nil, w_cons, w_seq, w_rng, w_enm, w_zip, s_asg, s_setIx, s_setFld, s_ret, s_retN, s_if, s_expr, s_brk, s_cnt, s_pass, s_nil, s_cons, s_for, s_whl, wp_ok, wp_bad, wp_bind, wp_opt, wp_optN, wp_if, wp_run, g_call, g_call1, g_deep, g_con, asgT, asgTs, startE, wipeE, isq_x, tru_bl, len_tup, rng_one hkf, lockN, freeN]
  rw [rngL_upto]
  refine comp_map (ys := ((upto p.kinds.length).map fun k => (k, (0 : Int))).map prD) (by simp) (by simp [upto_len]; omega) (fun i x y e1 e2 => ?_) ?_
  · rw [List.getElem?_map] at e1
    rw [List.map_map, List.getElem?_map] at e2
    cases hx : (upto p.kinds.length)[i]? with
    | none => rw [hx] at e1; cases e1
    | some v =>
      rw [hx] at e1 e2
      cases e1
      cases e2
      unfold compF
      simp -implicitDefEqProofs [w_var, w_lit, w_glo, w_bin, w_neg, w_cmp, w_chain, w_isN, w_notN, w_not, w_and, w_or, w_and1, w_and2, w_or1, w_or2, wp_tst, w_ite, w_tup, w_lst, w_ix, w_slc, w_oN, w_oS, w_fld, wp_shut, w_prop, w_call, w_callK, w_mk, w_mkK, w_mkR, w_bi, w_bm, w_isi, w_rngT, w_comp, w_new, w_frz, w_srt, w_isB, w_nil, w_cons, w_seq, w_rng, w_enm, w_zip, s_asg, s_setIx, s_setFld, s_ret, s_retN, s_if, s_expr, s_brk, s_cnt, s_pass, s_nil, s_cons, s_for, s_whl, wp_ok, wp_bad, wp_bind, wp_opt, wp_optN, wp_if, wp_run, g_call, g_call1, g_deep, g_con, asgT, asgTs, startE, wipeE, lim_ok, prD]
  · have I := fun (n : Nat) (h : Sto) (P : D → Sto → Prop) => init_slips (k := k) (n := n) (h := h) (P := P) (free_ok ok) hx
    have e : sqV false (p.free.states.map (arcS false true)) = D.lst [.lst ((upto p.kinds.length).map (prD ∘ fun k => (k, 0)))] := by
      show sqV false [sqV false (((upto p.kinds.length).map fun k => (k, (0 : Int))).map (prS true))] = _
      rw [List.map_map]
      rfl
    rw [e] at I
    simp -implicitDefEqProofs [x_var, x_lit, x_glo, x_bin, x_neg, x_cmp, x_chain, x_isN, x_notN, x_not, x_and, x_or, x_and1, x_and2, x_or1, x_or2, x_ite, x_tup, x_lst, x_ix, x_slc, x_oN, x_oS, x_fld, wx_shut, x_prop, x_call, x_callK, x_mk, x_mkK, x_mkR, x_bi, x_bm, x_isi, x_rngT, x_comp, x_new, x_frz, x_srt, x_isB, x_nil, x_cons, x_seq, x_rng, x_enm, x_zip, y_asg, y_setIx, y_setFld, y_ret, y_retN, y_if, y_expr, y_brk, y_cnt, y_pass, y_nil, y_cons, y_for, y_whl, wx_ok, wx_bad, wx_bind, wx_opt, wx_optN, wx_if, wx_run, g_call, g_call1, g_deep, g_con, asgT, asgTs, startE, wipeE, y_rse, wx_tst, w_var, w_lit, w_glo, w_bin, w_neg, w_cmp, w_chain, w_isN, w_notN, w_not, w_and, w_or, w_and1, w_and2, w_or1, w_or2, wp_tst, w_ite, w_tup, w_lst, w_ix, w_slc, w_oN, w_oS, w_fld, wp_shut, w_prop, w_call, w_callK, w_mk, w_mkK, w_mkR, w_bi, w_bm, w_isi, w_rngT, w_comp, w_new, w_frz, w_srt, w_isB, w_nil, w_cons, w_seq, w_rng, w_enm, w_zip, s_asg, s_setIx, s_setFld, s_ret, s_retN, s_if, s_expr, s_brk, s_cnt, s_pass, s_nil, s_cons, s_for, s_whl, wp_ok, wp_bad, wp_bind, wp_opt, wp_optN, wp_if, wp_run, g_call, g_call1, g_deep, g_con, asgT, asgTs, startE, wipeE, lim_ok]
    exact re_kp kp_app (I _ _ _)
/-! the faults as the law tells them -/
inductive Tg : Nat → Str → Prop where
  | v : Tg e_BadValue "value"
  | t : Tg e_BadTask "task"
  | p : Tg e_BadPair "pair"
  | m : Tg e_BadModel "model"
theorem tg_fin {c0 : Nat} {s : Str} {i : Int} (ht : Tg c0 s) : ∀ c d h1, Re c0 (.int i) h c d h1 → ∃ kk, ([(e_BadValue, Hn.tag "value"), (e_BadTask, Hn.tag "task"), (e_BadPair, Hn.tag "pair"), (e_BadModel, Hn.tag "model"), (e_TooMany, Hn.tag "many")] : List (Nat × Hn)).lookup c = some kk ∧ kk.d d = D.tup [.str s, .int i] ∧ Kp h h1 := by
  rintro c d h1 ⟨rfl, rfl, K⟩
  cases ht <;> exact ⟨_, rfl, rfl, K⟩
theorem mf_0 {c0 : Nat} {s : Str} {i : Int} {o x a b : D} (ht : Tg c0 s) (hf : Wx (Re c0 (.int i) h) (callI TB.tb (k + 8) i_with_slips [o, x] h) fun _ _ => False) :
    Wp (callI TB.tb (k + 9) i__law_made_fault [.int 0, o, x, a, b] h) fun d h' => d = .tup [.str s, .int i] ∧ Kp h h' := by
  rw [c__law_made_fault]
  simp -implicitDefEqProofs [F__law_made_fault, w_var, w_lit, w_glo, w_bin, w_neg, w_cmp, w_chain, w_isN, w_notN, w_not, w_and, w_or, w_and1, w_and2, w_or1, w_or2, wp_tst, w_ite, w_tup, w_lst, w_ix, w_slc, w_oN, w_oS, w_fld, wp_shut, w_prop, w_call, w_callK, w_mk, w_mkK, w_mkR, w_bi, w_bm, w_isi, w_rngT, w_comp, w_new, w_frz, w_srt, w_isB, w_nil, w_cons, w_seq, w_rng, w_enm, w_zip, s_asg, s_setIx, s_setFld, s_ret, s_retN, s_if, s_expr, s_brk, s_cnt, s_pass, s_nil, s_cons, s_for, s_whl, wp_ok, wp_bad, wp_bind, wp_opt, wp_optN, wp_if, wp_run, g_call, g_call1, g_deep, g_con, asgT, asgTs, startE, wipeE, s_trA]
  simp -implicitDefEqProofs [x_var, x_lit, x_glo, x_bin, x_neg, x_cmp, x_chain, x_isN, x_notN, x_not, x_and, x_or, x_and1, x_and2, x_or1, x_or2, x_ite, x_tup, x_lst, x_ix, x_slc, x_oN, x_oS, x_fld, wx_shut, x_prop, x_call, x_callK, x_mk, x_mkK, x_mkR, x_bi, x_bm, x_isi, x_rngT, x_comp, x_new, x_frz, x_srt, x_isB, x_nil, x_cons, x_seq, x_rng, x_enm, x_zip, y_asg, y_setIx, y_setFld, y_ret, y_retN, y_if, y_expr, y_brk, y_cnt, y_pass, y_nil, y_cons, y_for, y_whl, wx_ok, wx_bad, wx_bind, wx_opt, wx_optN, wx_if, wx_run, g_call, g_call1, g_deep, g_con, asgT, asgTs, startE, wipeE, y_rse, wx_tst, w_var, w_lit, w_glo, w_bin, w_neg, w_cmp, w_chain, w_isN, w_notN, w_not, w_and, w_or, w_and1, w_and2, w_or1, w_or2, wp_tst, w_ite, w_tup, w_lst, w_ix, w_slc, w_oN, w_oS, w_fld, wp_shut, w_prop, w_call, w_callK, w_mk, w_mkK, w_mkR, w_bi, w_bm, w_isi, w_rngT, w_comp, w_new, w_frz, w_srt, w_isB, w_nil, w_cons, w_seq, w_rng, w_enm, w_zip, s_asg, s_setIx, s_setFld, s_ret, s_retN, s_if, s_expr, s_brk, s_cnt, s_pass, s_nil, s_cons, s_for, s_whl, wp_ok, wp_bad, wp_bind, wp_opt, wp_optN, wp_if, wp_run, g_call, g_call1, g_deep, g_con, asgT, asgTs, startE, wipeE, eq_int, tru_bl]
  exact Wx.imp2 hf (fun _ _ z => z.elim) (by simpa using tg_fin ht)
theorem mf_1 {c0 : Nat} {s : Str} {i : Int} {o x a b : D} (ht : Tg c0 s) (hf : Wx (Re c0 (.int i) h) (callI TB.tb (k + 8) i_with_times [o, x] h) fun _ _ => False) :
    Wp (callI TB.tb (k + 9) i__law_made_fault [.int 1, o, x, a, b] h) fun d h' => d = .tup [.str s, .int i] ∧ Kp h h' := by
  rw [c__law_made_fault]
  simp -implicitDefEqProofs [F__law_made_fault, w_var, w_lit, w_glo, w_bin, w_neg, w_cmp, w_chain, w_isN, w_notN, w_not, w_and, w_or, w_and1, w_and2, w_or1, w_or2, wp_tst, w_ite, w_tup, w_lst, w_ix, w_slc, w_oN, w_oS, w_fld, wp_shut, w_prop, w_call, w_callK, w_mk, w_mkK, w_mkR, w_bi, w_bm, w_isi, w_rngT, w_comp, w_new, w_frz, w_srt, w_isB, w_nil, w_cons, w_seq, w_rng, w_enm, w_zip, s_asg, s_setIx, s_setFld, s_ret, s_retN, s_if, s_expr, s_brk, s_cnt, s_pass, s_nil, s_cons, s_for, s_whl, wp_ok, wp_bad, wp_bind, wp_opt, wp_optN, wp_if, wp_run, g_call, g_call1, g_deep, g_con, asgT, asgTs, startE, wipeE, s_trA]
  simp -implicitDefEqProofs [x_var, x_lit, x_glo, x_bin, x_neg, x_cmp, x_chain, x_isN, x_notN, x_not, x_and, x_or, x_and1, x_and2, x_or1, x_or2, x_ite, x_tup, x_lst, x_ix, x_slc, x_oN, x_oS, x_fld, wx_shut, x_prop, x_call, x_callK, x_mk, x_mkK, x_mkR, x_bi, x_bm, x_isi, x_rngT, x_comp, x_new, x_frz, x_srt, x_isB, x_nil, x_cons, x_seq, x_rng, x_enm, x_zip, y_asg, y_setIx, y_setFld, y_ret, y_retN, y_if, y_expr, y_brk, y_cnt, y_pass, y_nil, y_cons, y_for, y_whl, wx_ok, wx_bad, wx_bind, wx_opt, wx_optN, wx_if, wx_run, g_call, g_call1, g_deep, g_con, asgT, asgTs, startE, wipeE, y_rse, wx_tst, w_var, w_lit, w_glo, w_bin, w_neg, w_cmp, w_chain, w_isN, w_notN, w_not, w_and, w_or, w_and1, w_and2, w_or1, w_or2, wp_tst, w_ite, w_tup, w_lst, w_ix, w_slc, w_oN, w_oS, w_fld, wp_shut, w_prop, w_call, w_callK, w_mk, w_mkK, w_mkR, w_bi, w_bm, w_isi, w_rngT, w_comp, w_new, w_frz, w_srt, w_isB, w_nil, w_cons, w_seq, w_rng, w_enm, w_zip, s_asg, s_setIx, s_setFld, s_ret, s_retN, s_if, s_expr, s_brk, s_cnt, s_pass, s_nil, s_cons, s_for, s_whl, wp_ok, wp_bad, wp_bind, wp_opt, wp_optN, wp_if, wp_run, g_call, g_call1, g_deep, g_con, asgT, asgTs, startE, wipeE, eq_int, tru_bl]
  exact Wx.imp2 hf (fun _ _ z => z.elim) (by simpa using tg_fin ht)
theorem mf_2 {c0 : Nat} {s : Str} {i : Int} {o x a b : D} (ht : Tg c0 s) (hf : Wx (Re c0 (.int i) h) (callI TB.tb (k + 8) i_repeated [o, x] h) fun _ _ => False) :
    Wp (callI TB.tb (k + 9) i__law_made_fault [.int 2, o, x, a, b] h) fun d h' => d = .tup [.str s, .int i] ∧ Kp h h' := by
  rw [c__law_made_fault]
  simp -implicitDefEqProofs [F__law_made_fault, w_var, w_lit, w_glo, w_bin, w_neg, w_cmp, w_chain, w_isN, w_notN, w_not, w_and, w_or, w_and1, w_and2, w_or1, w_or2, wp_tst, w_ite, w_tup, w_lst, w_ix, w_slc, w_oN, w_oS, w_fld, wp_shut, w_prop, w_call, w_callK, w_mk, w_mkK, w_mkR, w_bi, w_bm, w_isi, w_rngT, w_comp, w_new, w_frz, w_srt, w_isB, w_nil, w_cons, w_seq, w_rng, w_enm, w_zip, s_asg, s_setIx, s_setFld, s_ret, s_retN, s_if, s_expr, s_brk, s_cnt, s_pass, s_nil, s_cons, s_for, s_whl, wp_ok, wp_bad, wp_bind, wp_opt, wp_optN, wp_if, wp_run, g_call, g_call1, g_deep, g_con, asgT, asgTs, startE, wipeE, s_trA]
  simp -implicitDefEqProofs [x_var, x_lit, x_glo, x_bin, x_neg, x_cmp, x_chain, x_isN, x_notN, x_not, x_and, x_or, x_and1, x_and2, x_or1, x_or2, x_ite, x_tup, x_lst, x_ix, x_slc, x_oN, x_oS, x_fld, wx_shut, x_prop, x_call, x_callK, x_mk, x_mkK, x_mkR, x_bi, x_bm, x_isi, x_rngT, x_comp, x_new, x_frz, x_srt, x_isB, x_nil, x_cons, x_seq, x_rng, x_enm, x_zip, y_asg, y_setIx, y_setFld, y_ret, y_retN, y_if, y_expr, y_brk, y_cnt, y_pass, y_nil, y_cons, y_for, y_whl, wx_ok, wx_bad, wx_bind, wx_opt, wx_optN, wx_if, wx_run, g_call, g_call1, g_deep, g_con, asgT, asgTs, startE, wipeE, y_rse, wx_tst, w_var, w_lit, w_glo, w_bin, w_neg, w_cmp, w_chain, w_isN, w_notN, w_not, w_and, w_or, w_and1, w_and2, w_or1, w_or2, wp_tst, w_ite, w_tup, w_lst, w_ix, w_slc, w_oN, w_oS, w_fld, wp_shut, w_prop, w_call, w_callK, w_mk, w_mkK, w_mkR, w_bi, w_bm, w_isi, w_rngT, w_comp, w_new, w_frz, w_srt, w_isB, w_nil, w_cons, w_seq, w_rng, w_enm, w_zip, s_asg, s_setIx, s_setFld, s_ret, s_retN, s_if, s_expr, s_brk, s_cnt, s_pass, s_nil, s_cons, s_for, s_whl, wp_ok, wp_bad, wp_bind, wp_opt, wp_optN, wp_if, wp_run, g_call, g_call1, g_deep, g_con, asgT, asgTs, startE, wipeE, eq_int, tru_bl]
  exact Wx.imp2 hf (fun _ _ z => z.elim) (by simpa using tg_fin ht)
theorem mf_3 {c0 : Nat} {s : Str} {i : Int} {o x a b : D} (ht : Tg c0 s) (hf : Wx (Re c0 (.int i) h) (callI TB.tb (k + 8) i_free_line [o, x, a, b] h) fun _ _ => False) :
    Wp (callI TB.tb (k + 9) i__law_made_fault [.int 3, o, x, a, b] h) fun d h' => d = .tup [.str s, .int i] ∧ Kp h h' := by
  rw [c__law_made_fault]
  simp -implicitDefEqProofs [F__law_made_fault, w_var, w_lit, w_glo, w_bin, w_neg, w_cmp, w_chain, w_isN, w_notN, w_not, w_and, w_or, w_and1, w_and2, w_or1, w_or2, wp_tst, w_ite, w_tup, w_lst, w_ix, w_slc, w_oN, w_oS, w_fld, wp_shut, w_prop, w_call, w_callK, w_mk, w_mkK, w_mkR, w_bi, w_bm, w_isi, w_rngT, w_comp, w_new, w_frz, w_srt, w_isB, w_nil, w_cons, w_seq, w_rng, w_enm, w_zip, s_asg, s_setIx, s_setFld, s_ret, s_retN, s_if, s_expr, s_brk, s_cnt, s_pass, s_nil, s_cons, s_for, s_whl, wp_ok, wp_bad, wp_bind, wp_opt, wp_optN, wp_if, wp_run, g_call, g_call1, g_deep, g_con, asgT, asgTs, startE, wipeE, s_trA]
  simp -implicitDefEqProofs [x_var, x_lit, x_glo, x_bin, x_neg, x_cmp, x_chain, x_isN, x_notN, x_not, x_and, x_or, x_and1, x_and2, x_or1, x_or2, x_ite, x_tup, x_lst, x_ix, x_slc, x_oN, x_oS, x_fld, wx_shut, x_prop, x_call, x_callK, x_mk, x_mkK, x_mkR, x_bi, x_bm, x_isi, x_rngT, x_comp, x_new, x_frz, x_srt, x_isB, x_nil, x_cons, x_seq, x_rng, x_enm, x_zip, y_asg, y_setIx, y_setFld, y_ret, y_retN, y_if, y_expr, y_brk, y_cnt, y_pass, y_nil, y_cons, y_for, y_whl, wx_ok, wx_bad, wx_bind, wx_opt, wx_optN, wx_if, wx_run, g_call, g_call1, g_deep, g_con, asgT, asgTs, startE, wipeE, y_rse, wx_tst, w_var, w_lit, w_glo, w_bin, w_neg, w_cmp, w_chain, w_isN, w_notN, w_not, w_and, w_or, w_and1, w_and2, w_or1, w_or2, wp_tst, w_ite, w_tup, w_lst, w_ix, w_slc, w_oN, w_oS, w_fld, wp_shut, w_prop, w_call, w_callK, w_mk, w_mkK, w_mkR, w_bi, w_bm, w_isi, w_rngT, w_comp, w_new, w_frz, w_srt, w_isB, w_nil, w_cons, w_seq, w_rng, w_enm, w_zip, s_asg, s_setIx, s_setFld, s_ret, s_retN, s_if, s_expr, s_brk, s_cnt, s_pass, s_nil, s_cons, s_for, s_whl, wp_ok, wp_bad, wp_bind, wp_opt, wp_optN, wp_if, wp_run, g_call, g_call1, g_deep, g_con, asgT, asgTs, startE, wipeE, eq_int, tru_bl]
  exact Wx.imp2 hf (fun _ _ z => z.elim) (by simpa using tg_fin ht)
theorem mf_ok (ok : LnOk p) : Wp (callI TB.tb (k + 9) i__law_made_fault [.int 3, .tup (p.jobs.map prD), .tup (p.pairs.map prD), .tup (p.kinds.map kindD), .non] h) fun d h' => d = .non ∧ Kp h h' := by
  have ok2 : LnOk { p with slips := none } := { ok with sl := fun s z => by cases z }
  rw [c__law_made_fault]
  simp -implicitDefEqProofs [F__law_made_fault, w_var, w_lit, w_glo, w_bin, w_neg, w_cmp, w_chain, w_isN, w_notN, w_not, w_and, w_or, w_and1, w_and2, w_or1, w_or2, wp_tst, w_ite, w_tup, w_lst, w_ix, w_slc, w_oN, w_oS, w_fld, wp_shut, w_prop, w_call, w_callK, w_mk, w_mkK, w_mkR, w_bi, w_bm, w_isi, w_rngT, w_comp, w_new, w_frz, w_srt, w_isB, w_nil, w_cons, w_seq, w_rng, w_enm, w_zip, s_asg, s_setIx, s_setFld, s_ret, s_retN, s_if, s_expr, s_brk, s_cnt, s_pass, s_nil, s_cons, s_for, s_whl, wp_ok, wp_bad, wp_bind, wp_opt, wp_optN, wp_if, wp_run, g_call, g_call1, g_deep, g_con, asgT, asgTs, startE, wipeE, s_trA]
  simp -implicitDefEqProofs [x_var, x_lit, x_glo, x_bin, x_neg, x_cmp, x_chain, x_isN, x_notN, x_not, x_and, x_or, x_and1, x_and2, x_or1, x_or2, x_ite, x_tup, x_lst, x_ix, x_slc, x_oN, x_oS, x_fld, wx_shut, x_prop, x_call, x_callK, x_mk, x_mkK, x_mkR, x_bi, x_bm, x_isi, x_rngT, x_comp, x_new, x_frz, x_srt, x_isB, x_nil, x_cons, x_seq, x_rng, x_enm, x_zip, y_asg, y_setIx, y_setFld, y_ret, y_retN, y_if, y_expr, y_brk, y_cnt, y_pass, y_nil, y_cons, y_for, y_whl, wx_ok, wx_bad, wx_bind, wx_opt, wx_optN, wx_if, wx_run, g_call, g_call1, g_deep, g_con, asgT, asgTs, startE, wipeE, y_rse, wx_tst, w_var, w_lit, w_glo, w_bin, w_neg, w_cmp, w_chain, w_isN, w_notN, w_not, w_and, w_or, w_and1, w_and2, w_or1, w_or2, wp_tst, w_ite, w_tup, w_lst, w_ix, w_slc, w_oN, w_oS, w_fld, wp_shut, w_prop, w_call, w_callK, w_mk, w_mkK, w_mkR, w_bi, w_bm, w_isi, w_rngT, w_comp, w_new, w_frz, w_srt, w_isB, w_nil, w_cons, w_seq, w_rng, w_enm, w_zip, s_asg, s_setIx, s_setFld, s_ret, s_retN, s_if, s_expr, s_brk, s_cnt, s_pass, s_nil, s_cons, s_for, s_whl, wp_ok, wp_bad, wp_bind, wp_opt, wp_optN, wp_if, wp_run, g_call, g_call1, g_deep, g_con, asgT, asgTs, startE, wipeE, eq_int, tru_bl]
  refine (free_d (k := k) (h := h) (b1 := true) (b2 := true) (b3 := true) (b4 := true) (b5 := true) (b6 := true) ok2).x fun d h1 ⟨e1, K⟩ => ?_
  try simp -implicitDefEqProofs [w_var, w_lit, w_glo, w_bin, w_neg, w_cmp, w_chain, w_isN, w_notN, w_not, w_and, w_or, w_and1, w_and2, w_or1, w_or2, wp_tst, w_ite, w_tup, w_lst, w_ix, w_slc, w_oN, w_oS, w_fld, wp_shut, w_prop, w_call, w_callK, w_mk, w_mkK, w_mkR, w_bi, w_bm, w_isi, w_rngT, w_comp, w_new, w_frz, w_srt, w_isB, w_nil, w_cons, w_seq, w_rng, w_enm, w_zip, s_asg, s_setIx, s_setFld, s_ret, s_retN, s_if, s_expr, s_brk, s_cnt, s_pass, s_nil, s_cons, s_for, s_whl, wp_ok, wp_bad, wp_bind, wp_opt, wp_optN, wp_if, wp_run, g_call, g_call1, g_deep, g_con, asgT, asgTs, startE, wipeE]
  exact K
theorem ne_tag {c0 : Nat} {s : Str} {i : Int} (ht : Tg c0 s) : cmpD .ne (.tup [.str s, .int i]) (.tup [.str s, .int i]) h = .ok (.bl false) h := by
  have e : eqD h (.tup [.str s, .int i]) (.tup [.str s, .int i]) = some true := by
    cases ht <;> simp [eqD, topPy, toPy, toPys, shp, SeqAt.shaped, PyData.canLay0, PyData.canLayAll0, PyData.depth, PyData.depthAll, PyData.eqv, PyData.eqvAll] <;> first | rfl | decide | decide +kernel
  simp [cmpD, e]
theorem eq_tag {c0 : Nat} {s : Str} {i : Int} (ht : Tg c0 s) : cmpD .eq (.tup [.str s, .int i]) (.tup [.str s, .int i]) h = .ok (.bl true) h := by
  have e : eqD h (.tup [.str s, .int i]) (.tup [.str s, .int i]) = some true := by
    cases ht <;> simp [eqD, topPy, toPy, toPys, shp, SeqAt.shaped, PyData.canLay0, PyData.canLayAll0, PyData.depth, PyData.depthAll, PyData.eqv, PyData.eqvAll] <;> first | rfl | decide | decide +kernel
  simp [cmpD, e]
end
end Cl
/-! text C06 -/
set_option maxHeartbeats 1000007
namespace Cl
open PySem
theorem add_tup {h : Sto} {xs ys : List D} (hl : xs.length + ys.length ≤ 1000000) : binD .add (.tup xs) (.tup ys) h = .ok (.tup (xs ++ ys)) h := by
  simp [binD, lim_ok hl, ifR]
theorem law_w {k : Nat} {ns : List Int} (hn : ns.length ≤ 63) : Wp (callI TB.tb (k + 10) i_law [.scr (ns.map .int)] []) fun d _ => d = .bl true := by
  have big := sz
  rw [c_law]
  simp -implicitDefEqProofs [F_law, w_var, w_lit, w_glo, w_bin, w_neg, w_cmp, w_chain, w_isN, w_notN, w_not, w_and, w_or, w_and1, w_and2, w_or1, w_or2, wp_tst, w_ite, w_tup, w_lst, w_ix, w_slc, w_oN, w_oS, w_fld, wp_shut, w_prop, w_call, w_callK, w_mk, w_mkK, w_mkR, w_bi, w_bm, w_isi, w_rngT, w_comp, w_new, w_frz, w_srt, w_isB, w_nil, w_cons, w_seq, w_rng, w_enm, w_zip, s_asg, s_setIx, s_setFld, s_ret, s_retN, s_if, s_expr, s_brk, s_cnt, s_pass, s_nil, s_cons, s_for, s_whl, wp_ok, wp_bad, wp_bind, wp_opt, wp_optN, wp_if, wp_run, g_call, g_call1, g_deep, g_con, asgT, asgTs, startE, wipeE]
  refine (numbers_d hn).imp fun d h1 ⟨e0, r, hr, e1⟩ => ?_
  subst e0
  subst e1
  simp -implicitDefEqProofs [w_var, w_lit, w_glo, w_bin, w_neg, w_cmp, w_chain, w_isN, w_notN, w_not, w_and, w_or, w_and1, w_and2, w_or1, w_or2, wp_tst, w_ite, w_tup, w_lst, w_ix, w_slc, w_oN, w_oS, w_fld, wp_shut, w_prop, w_call, w_callK, w_mk, w_mkK, w_mkR, w_bi, w_bm, w_isi, w_rngT, w_comp, w_new, w_frz, w_srt, w_isB, w_nil, w_cons, w_seq, w_rng, w_enm, w_zip, s_asg, s_setIx, s_setFld, s_ret, s_retN, s_if, s_expr, s_brk, s_cnt, s_pass, s_nil, s_cons, s_for, s_whl, wp_ok, wp_bad, wp_bind, wp_opt, wp_optN, wp_if, wp_run, g_call, g_call1, g_deep, g_con, asgT, asgTs, startE, wipeE, lim_ok]
  have S1 : SpE 1 [Cell.dead, Cell.lst [D.int 0]] := ⟨0, rfl⟩
  refine (case_d (n := 1) hr S1).imp fun d h2 ⟨D2, p, e2, hc⟩ => ?_
  subst e2
  have ok := case_ln hc
  have few : p.jobs.length ≤ 12 ∧ p.pairs.length ≤ 12 ∧ p.kinds.length ≤ 3 := by
    obtain ⟨tasks, wide, many, slips, a1, _, _, _, o⟩ := hc
    have := o.j1
    have := o.pl
    have := o.k1
    omega
  obtain ⟨few1, few2, few3⟩ := few
  have j0 := ok.j0
  have k0 := ok.k0
  try simp -implicitDefEqProofs [w_var, w_lit, w_glo, w_bin, w_neg, w_cmp, w_chain, w_isN, w_notN, w_not, w_and, w_or, w_and1, w_and2, w_or1, w_or2, wp_tst, w_ite, w_tup, w_lst, w_ix, w_slc, w_oN, w_oS, w_fld, wp_shut, w_prop, w_call, w_callK, w_mk, w_mkK, w_mkR, w_bi, w_bm, w_isi, w_rngT, w_comp, w_new, w_frz, w_srt, w_isB, w_nil, w_cons, w_seq, w_rng, w_enm, w_zip, s_asg, s_setIx, s_setFld, s_ret, s_retN, s_if, s_expr, s_brk, s_cnt, s_pass, s_nil, s_cons, s_for, s_whl, wp_ok, wp_bad, wp_bind, wp_opt, wp_optN, wp_if, wp_run, g_call, g_call1, g_deep, g_con, asgT, asgTs, startE, wipeE]
  refine (made_d (turn := 0) ok).imp fun d h3 ⟨e3, K3⟩ => ?_
  subst e3
  have S3 := K3.sp D2.sp
  simp -implicitDefEqProofs [w_var, w_lit, w_glo, w_bin, w_neg, w_cmp, w_chain, w_isN, w_notN, w_not, w_and, w_or, w_and1, w_and2, w_or1, w_or2, wp_tst, w_ite, w_tup, w_lst, w_ix, w_slc, w_oN, w_oS, w_fld, wp_shut, w_prop, w_call, w_callK, w_mk, w_mkK, w_mkR, w_bi, w_bm, w_isi, w_rngT, w_comp, w_new, w_frz, w_srt, w_isB, w_nil, w_cons, w_seq, w_rng, w_enm, w_zip, s_asg, s_setIx, s_setFld, s_ret, s_retN, s_if, s_expr, s_brk, s_cnt, s_pass, s_nil, s_cons, s_for, s_whl, wp_ok, wp_bad, wp_bind, wp_opt, wp_optN, wp_if, wp_run, g_call, g_call1, g_deep, g_con, asgT, asgTs, startE, wipeE, dx0, len_tup, lim_ok]
  refine (take_d (limit := 5) hr (by decide) S3).imp fun d h4 ⟨D4, v, e4, v0, v1⟩ => ?_
  subst e4
  have p1 : ∃ x, L2.atI [D.int 9, .int (-1), .bl true, .str "0", .tup []] v = some x ∧ NoSl x := by
    have hv : v = 0 ∨ v = 1 ∨ v = 2 ∨ v = 3 ∨ v = 4 := by omega
    rcases hv with rfl | rfl | rfl | rfl | rfl
    · exact ⟨_, rfl, nosl_int (by omega)⟩
    · exact ⟨_, rfl, nosl_int (by omega)⟩
    · exact ⟨_, rfl, nosl_pl .bl (by intro z; cases z) rfl⟩
    · exact ⟨_, rfl, nosl_pl .str (by intro z; cases z) rfl⟩
    · exact ⟨_, rfl, nosl_tup⟩
  obtain ⟨x1, hx1, hN1⟩ := p1
  simp -implicitDefEqProofs [w_var, w_lit, w_glo, w_bin, w_neg, w_cmp, w_chain, w_isN, w_notN, w_not, w_and, w_or, w_and1, w_and2, w_or1, w_or2, wp_tst, w_ite, w_tup, w_lst, w_ix, w_slc, w_oN, w_oS, w_fld, wp_shut, w_prop, w_call, w_callK, w_mk, w_mkK, w_mkR, w_bi, w_bm, w_isi, w_rngT, w_comp, w_new, w_frz, w_srt, w_isB, w_nil, w_cons, w_seq, w_rng, w_enm, w_zip, s_asg, s_setIx, s_setFld, s_ret, s_retN, s_if, s_expr, s_brk, s_cnt, s_pass, s_nil, s_cons, s_for, s_whl, wp_ok, wp_bad, wp_bind, wp_opt, wp_optN, wp_if, wp_run, g_call, g_call1, g_deep, g_con, asgT, asgTs, startE, wipeE, ix_lst, hx1]
  refine (mf_0 .v (slips_bad hN1)).imp fun d h5 ⟨e5, K5⟩ => ?_
  subst e5
  have S5 := K5.sp D4.sp
  obtain ⟨X1, hX1, l1⟩ : ∃ X : List D, cutD (p.jobs.map prD) (some 1) none = X ∧ X.length = p.jobs.length - 1 := ⟨_, cut_from (by omega) (by simp; omega), by simp⟩
  obtain ⟨X2, hX2, l2⟩ : ∃ X : List D, (∀ h, binD .add (.tup (p.jobs.map prD)) (.tup [.tup [.int 1, .int 1]]) h = .ok (.tup X) h) ∧ X.length = p.jobs.length + 1 := ⟨_, fun h => add_tup (by simp; omega), by simp⟩
  simp -implicitDefEqProofs [w_var, w_lit, w_glo, w_bin, w_neg, w_cmp, w_chain, w_isN, w_notN, w_not, w_and, w_or, w_and1, w_and2, w_or1, w_or2, wp_tst, w_ite, w_tup, w_lst, w_ix, w_slc, w_oN, w_oS, w_fld, wp_shut, w_prop, w_call, w_callK, w_mk, w_mkK, w_mkR, w_bi, w_bm, w_isi, w_rngT, w_comp, w_new, w_frz, w_srt, w_isB, w_nil, w_cons, w_seq, w_rng, w_enm, w_zip, s_asg, s_setIx, s_setFld, s_ret, s_retN, s_if, s_expr, s_brk, s_cnt, s_pass, s_nil, s_cons, s_for, s_whl, wp_ok, wp_bad, wp_bind, wp_opt, wp_optN, wp_if, wp_run, g_call, g_call1, g_deep, g_con, asgT, asgTs, startE, wipeE, ne_tag Tg.v, tru_bl, lim_ok, dx0, hX1, hX2]
  refine (take_d (limit := 5) hr (by decide) S5).imp fun d h6 ⟨D6, v, e6, v0, v1⟩ => ?_
  subst e6
  have p2 : ∃ x, L2.atI [D.tup X1, .tup X2, .non, .int 5, .str "ab"] v = some x ∧ NoSq p.jobs.length x := by
    have hv : v = 0 ∨ v = 1 ∨ v = 2 ∨ v = 3 ∨ v = 4 := by omega
    rcases hv with rfl | rfl | rfl | rfl | rfl
    · exact ⟨_, rfl, nosq_tup (by omega)⟩
    · exact ⟨_, rfl, nosq_tup (by omega)⟩
    · exact ⟨_, rfl, nosq_pl .non⟩
    · exact ⟨_, rfl, nosq_pl .int⟩
    · exact ⟨_, rfl, nosq_pl .str⟩
  obtain ⟨x2, hx2, hN2⟩ := p2
  simp -implicitDefEqProofs [w_var, w_lit, w_glo, w_bin, w_neg, w_cmp, w_chain, w_isN, w_notN, w_not, w_and, w_or, w_and1, w_and2, w_or1, w_or2, wp_tst, w_ite, w_tup, w_lst, w_ix, w_slc, w_oN, w_oS, w_fld, wp_shut, w_prop, w_call, w_callK, w_mk, w_mkK, w_mkR, w_bi, w_bm, w_isi, w_rngT, w_comp, w_new, w_frz, w_srt, w_isB, w_nil, w_cons, w_seq, w_rng, w_enm, w_zip, s_asg, s_setIx, s_setFld, s_ret, s_retN, s_if, s_expr, s_brk, s_cnt, s_pass, s_nil, s_cons, s_for, s_whl, wp_ok, wp_bad, wp_bind, wp_opt, wp_optN, wp_if, wp_run, g_call, g_call1, g_deep, g_con, asgT, asgTs, startE, wipeE, ix_lst, hx2]
  refine (mf_1 .v (times_bad hN2)).imp fun d h7 ⟨e7, K7⟩ => ?_
  subst e7
  have S7 := K7.sp D6.sp
  simp -implicitDefEqProofs [w_var, w_lit, w_glo, w_bin, w_neg, w_cmp, w_chain, w_isN, w_notN, w_not, w_and, w_or, w_and1, w_and2, w_or1, w_or2, wp_tst, w_ite, w_tup, w_lst, w_ix, w_slc, w_oN, w_oS, w_fld, wp_shut, w_prop, w_call, w_callK, w_mk, w_mkK, w_mkR, w_bi, w_bm, w_isi, w_rngT, w_comp, w_new, w_frz, w_srt, w_isB, w_nil, w_cons, w_seq, w_rng, w_enm, w_zip, s_asg, s_setIx, s_setFld, s_ret, s_retN, s_if, s_expr, s_brk, s_cnt, s_pass, s_nil, s_cons, s_for, s_whl, wp_ok, wp_bad, wp_bind, wp_opt, wp_optN, wp_if, wp_run, g_call, g_call1, g_deep, g_con, asgT, asgTs, startE, wipeE, ne_tag Tg.v, tru_bl, lim_ok]
  -- a task that is none
  refine (take_d (limit := (p.jobs.length : Int)) hr (by omega) S7).imp fun d h8 ⟨D8, at_, e8, a0, a1⟩ => ?_
  subst e8
  obtain ⟨at_, rfl⟩ : ∃ i : Nat, at_ = i := ⟨at_.toNat, by omega⟩
  have a2 : at_ < p.jobs.length := by omega
  simp -implicitDefEqProofs [w_var, w_lit, w_glo, w_bin, w_neg, w_cmp, w_chain, w_isN, w_notN, w_not, w_and, w_or, w_and1, w_and2, w_or1, w_or2, wp_tst, w_ite, w_tup, w_lst, w_ix, w_slc, w_oN, w_oS, w_fld, wp_shut, w_prop, w_call, w_callK, w_mk, w_mkK, w_mkR, w_bi, w_bm, w_isi, w_rngT, w_comp, w_new, w_frz, w_srt, w_isB, w_nil, w_cons, w_seq, w_rng, w_enm, w_zip, s_asg, s_setIx, s_setFld, s_ret, s_retN, s_if, s_expr, s_brk, s_cnt, s_pass, s_nil, s_cons, s_for, s_whl, wp_ok, wp_bad, wp_bind, wp_opt, wp_optN, wp_if, wp_run, g_call, g_call1, g_deep, g_con, asgT, asgTs, startE, wipeE, dx0, lim_ok]
  refine (take_d (limit := 6) hr (by decide) D8.sp).imp fun d h9 ⟨D9, v, e9, v0, v1⟩ => ?_
  subst e9
  have p3 : ∃ x, L2.atI [D.tup [.int 2, .int 1], .tup [.int 0, .int 10001], .non, .tup [.int 1], .str "12", .tup [.bl true, .int 2]] v = some x ∧ NoTk x := by
    have hv : v = 0 ∨ v = 1 ∨ v = 2 ∨ v = 3 ∨ v = 4 ∨ v = 5 := by omega
    rcases hv with rfl | rfl | rfl | rfl | rfl | rfl
    · exact ⟨_, rfl, notk_snd (by omega) (by omega) (by omega)⟩
    · exact ⟨_, rfl, notk_snd (by omega) (by omega) (by omega)⟩
    · exact ⟨_, rfl, notk_pl .non⟩
    · exact ⟨_, rfl, notk_one⟩
    · exact ⟨_, rfl, notk_pl .str⟩
    · exact ⟨_, rfl, notk_fst .bl rfl⟩
  obtain ⟨x3, hx3, hN3⟩ := p3
  simp -implicitDefEqProofs [w_var, w_lit, w_glo, w_bin, w_neg, w_cmp, w_chain, w_isN, w_notN, w_not, w_and, w_or, w_and1, w_and2, w_or1, w_or2, wp_tst, w_ite, w_tup, w_lst, w_ix, w_slc, w_oN, w_oS, w_fld, wp_shut, w_prop, w_call, w_callK, w_mk, w_mkK, w_mkR, w_bi, w_bm, w_isi, w_rngT, w_comp, w_new, w_frz, w_srt, w_isB, w_nil, w_cons, w_seq, w_rng, w_enm, w_zip, s_asg, s_setIx, s_setFld, s_ret, s_retN, s_if, s_expr, s_brk, s_cnt, s_pass, s_nil, s_cons, s_for, s_whl, wp_ok, wp_bad, wp_bind, wp_opt, wp_optN, wp_if, wp_run, g_call, g_call1, g_deep, g_con, asgT, asgTs, startE, wipeE, ix_lst, hx3]
  refine (law_set_d (xs := p.jobs.map prD) (i := (at_ : Int)) (v := x3) (by omega) (by simpa using a2)).imp fun d h10 ⟨e10, K10⟩ => ?_
  subst e10
  rw [Int.toNat_natCast]
  have S10 := K10.sp D9.sp
  try simp -implicitDefEqProofs [w_var, w_lit, w_glo, w_bin, w_neg, w_cmp, w_chain, w_isN, w_notN, w_not, w_and, w_or, w_and1, w_and2, w_or1, w_or2, wp_tst, w_ite, w_tup, w_lst, w_ix, w_slc, w_oN, w_oS, w_fld, wp_shut, w_prop, w_call, w_callK, w_mk, w_mkK, w_mkR, w_bi, w_bm, w_isi, w_rngT, w_comp, w_new, w_frz, w_srt, w_isB, w_nil, w_cons, w_seq, w_rng, w_enm, w_zip, s_asg, s_setIx, s_setFld, s_ret, s_retN, s_if, s_expr, s_brk, s_cnt, s_pass, s_nil, s_cons, s_for, s_whl, wp_ok, wp_bad, wp_bind, wp_opt, wp_optN, wp_if, wp_run, g_call, g_call1, g_deep, g_con, asgT, asgTs, startE, wipeE]
  refine (mf_1 .t (times_task ok a2 hN3)).imp fun d h11 ⟨e11, K11⟩ => ?_
  subst e11
  simp -implicitDefEqProofs [w_var, w_lit, w_glo, w_bin, w_neg, w_cmp, w_chain, w_isN, w_notN, w_not, w_and, w_or, w_and1, w_and2, w_or1, w_or2, wp_tst, w_ite, w_tup, w_lst, w_ix, w_slc, w_oN, w_oS, w_fld, wp_shut, w_prop, w_call, w_callK, w_mk, w_mkK, w_mkR, w_bi, w_bm, w_isi, w_rngT, w_comp, w_new, w_frz, w_srt, w_isB, w_nil, w_cons, w_seq, w_rng, w_enm, w_zip, s_asg, s_setIx, s_setFld, s_ret, s_retN, s_if, s_expr, s_brk, s_cnt, s_pass, s_nil, s_cons, s_for, s_whl, wp_ok, wp_bad, wp_bind, wp_opt, wp_optN, wp_if, wp_run, g_call, g_call1, g_deep, g_con, asgT, asgTs, startE, wipeE, lim_ok, ne_tag Tg.t, tru_bl, dx1, dx2]
  refine (mf_3 .t (free_bad (ks := p.kinds.map kindD) (by simp; omega) fun st n h P => init_task (k := k) ok.j1 ok.jt a2 hN3)).imp fun d h12 ⟨e12, K12⟩ => ?_
  subst e12
  have S12 := K12.sp (K11.sp S10)
  have r41 : rngD [.int 41] = some (0, 41) := rng_one (n := 41) ⟨by omega⟩
  simp -implicitDefEqProofs [w_var, w_lit, w_glo, w_bin, w_neg, w_cmp, w_chain, w_isN, w_notN, w_not, w_and, w_or, w_and1, w_and2, w_or1, w_or2, wp_tst, w_ite, w_tup, w_lst, w_ix, w_slc, w_oN, w_oS, w_fld, wp_shut, w_prop, w_call, w_callK, w_mk, w_mkK, w_mkR, w_bi, w_bm, w_isi, w_rngT, w_comp, w_new, w_frz, w_srt, w_isB, w_nil, w_cons, w_seq, w_rng, w_enm, w_zip, s_asg, s_setIx, s_setFld, s_ret, s_retN, s_if, s_expr, s_brk, s_cnt, s_pass, s_nil, s_cons, s_for, s_whl, wp_ok, wp_bad, wp_bind, wp_opt, wp_optN, wp_if, wp_run, g_call, g_call1, g_deep, g_con, asgT, asgTs, startE, wipeE, lim_ok, ne_tag Tg.t, tru_bl, dx2, len_tup, r41, lockN, freeN]
  rw [show rngL 0 41 = (upto 41).map D.int from rngL_upto 41]
  refine comp_all (e := fun _ => D.int 0) (by simp [upto_len]; omega) (fun a ha => by unfold compF; simp -implicitDefEqProofs [w_var, w_lit, w_glo, w_bin, w_neg, w_cmp, w_chain, w_isN, w_notN, w_not, w_and, w_or, w_and1, w_and2, w_or1, w_or2, wp_tst, w_ite, w_tup, w_lst, w_ix, w_slc, w_oN, w_oS, w_fld, wp_shut, w_prop, w_call, w_callK, w_mk, w_mkK, w_mkR, w_bi, w_bm, w_isi, w_rngT, w_comp, w_new, w_frz, w_srt, w_isB, w_nil, w_cons, w_seq, w_rng, w_enm, w_zip, s_asg, s_setIx, s_setFld, s_ret, s_retN, s_if, s_expr, s_brk, s_cnt, s_pass, s_nil, s_cons, s_for, s_whl, wp_ok, wp_bad, wp_bind, wp_opt, wp_optN, wp_if, wp_run, g_call, g_call1, g_deep, g_con, asgT, asgTs, startE, wipeE]) ?_
  obtain ⟨X4, hX4, l4⟩ : ∃ X : List D, ((upto 41).map fun _ => D.int 0) = X ∧ X.length = 41 := ⟨_, rfl, by simp [upto_len]⟩
  rw [hX4]
  simp -implicitDefEqProofs [w_var, w_lit, w_glo, w_bin, w_neg, w_cmp, w_chain, w_isN, w_notN, w_not, w_and, w_or, w_and1, w_and2, w_or1, w_or2, wp_tst, w_ite, w_tup, w_lst, w_ix, w_slc, w_oN, w_oS, w_fld, wp_shut, w_prop, w_call, w_callK, w_mk, w_mkK, w_mkR, w_bi, w_bm, w_isi, w_rngT, w_comp, w_new, w_frz, w_srt, w_isB, w_nil, w_cons, w_seq, w_rng, w_enm, w_zip, s_asg, s_setIx, s_setFld, s_ret, s_retN, s_if, s_expr, s_brk, s_cnt, s_pass, s_nil, s_cons, s_for, s_whl, wp_ok, wp_bad, wp_bind, wp_opt, wp_optN, wp_if, wp_run, g_call, g_call1, g_deep, g_con, asgT, asgTs, startE, wipeE, tuple_lst, lim_ok]
  refine (take_d (limit := 8) hr (by decide) S12).imp fun d h13 ⟨D13, v, e13, v0, v1⟩ => ?_
  subst e13
  have p4 : ∃ x, L2.atI [D.tup [], .non, .int 5, .str "0", .tup [.int p.kinds.length], .tup [.int 0, .int (-1)], .tup [.bl true], .tup X4] v = some x ∧ ∀ h, Wx (Re e_BadValue (.int 2) h) (callI TB.tb (k + 8) i_repeated [p.o, x] h) fun _ _ => False := by
    have hv : v = 0 ∨ v = 1 ∨ v = 2 ∨ v = 3 ∨ v = 4 ∨ v = 5 ∨ v = 6 ∨ v = 7 := by omega
    rcases hv with rfl | rfl | rfl | rfl | rfl | rfl | rfl | rfl
    · exact ⟨_, rfl, fun h => rep_1 fun k h P => is_filled_sq (b := true) (xs := [])⟩
    · exact ⟨_, rfl, fun h => rep_1 fun k h P => filled_pl .non⟩
    · exact ⟨_, rfl, fun h => rep_1 fun k h P => filled_pl .int⟩
    · exact ⟨_, rfl, fun h => rep_1 fun k h P => filled_pl .str⟩
    · exact ⟨_, rfl, fun h => rep_3 (by simp) (by simp) (fun x hx => by rw [List.mem_singleton.mp hx]; exact .int) (by simp [okE]; omega)⟩
    · exact ⟨_, rfl, fun h => rep_3 (by simp) (by simp) (fun x hx => by
        rcases List.mem_cons.mp hx with rfl | hx
        · exact .int
        · rw [List.mem_singleton.mp hx]
          exact .int) (by simp [okE])⟩
    · exact ⟨_, rfl, fun h => rep_3 (by simp) (by simp) (fun x hx => by rw [List.mem_singleton.mp hx]; exact .bl) (by simp [okE])⟩
    · exact ⟨_, rfl, fun h => rep_2 (by omega)⟩
  obtain ⟨x4, hx4, hN4⟩ := p4
  simp -implicitDefEqProofs [w_var, w_lit, w_glo, w_bin, w_neg, w_cmp, w_chain, w_isN, w_notN, w_not, w_and, w_or, w_and1, w_and2, w_or1, w_or2, wp_tst, w_ite, w_tup, w_lst, w_ix, w_slc, w_oN, w_oS, w_fld, wp_shut, w_prop, w_call, w_callK, w_mk, w_mkK, w_mkR, w_bi, w_bm, w_isi, w_rngT, w_comp, w_new, w_frz, w_srt, w_isB, w_nil, w_cons, w_seq, w_rng, w_enm, w_zip, s_asg, s_setIx, s_setFld, s_ret, s_retN, s_if, s_expr, s_brk, s_cnt, s_pass, s_nil, s_cons, s_for, s_whl, wp_ok, wp_bad, wp_bind, wp_opt, wp_optN, wp_if, wp_run, g_call, g_call1, g_deep, g_con, asgT, asgTs, startE, wipeE, ix_lst, hx4]
  refine (mf_2 .v (hN4 _)).imp fun d h14 ⟨e14, K14⟩ => ?_
  subst e14
  have hX5 : ∀ h, binD .add (.tup (p.pairs.map prD)) (.tup [.tup [.int 0, .int 0]]) h = .ok (.tup (p.pairs.map prD ++ [prD (0, 0)])) h := fun h => add_tup (by simp; omega)
  have hX6 : ∀ h, binD .add (.tup (p.kinds.map kindD)) (.tup [.tup [.int p.jobs.length]]) h = .ok (.tup (p.kinds.map kindD ++ [kindD [(p.jobs.length : Int)]])) h := fun h => add_tup (by simp; omega)
  simp -implicitDefEqProofs [w_var, w_lit, w_glo, w_bin, w_neg, w_cmp, w_chain, w_isN, w_notN, w_not, w_and, w_or, w_and1, w_and2, w_or1, w_or2, wp_tst, w_ite, w_tup, w_lst, w_ix, w_slc, w_oN, w_oS, w_fld, wp_shut, w_prop, w_call, w_callK, w_mk, w_mkK, w_mkR, w_bi, w_bm, w_isi, w_rngT, w_comp, w_new, w_frz, w_srt, w_isB, w_nil, w_cons, w_seq, w_rng, w_enm, w_zip, s_asg, s_setIx, s_setFld, s_ret, s_retN, s_if, s_expr, s_brk, s_cnt, s_pass, s_nil, s_cons, s_for, s_whl, wp_ok, wp_bad, wp_bind, wp_opt, wp_optN, wp_if, wp_run, g_call, g_call1, g_deep, g_con, asgT, asgTs, startE, wipeE, lim_ok, ne_tag Tg.v, tru_bl, dx0, dx1, dx2, len_tup, hX5]
  refine (mf_3 .p (free_bad0 fun st n h P => init_pair (k := k) ok (by omega))).imp fun d h15 ⟨e15, K15⟩ => ?_
  subst e15
  simp -implicitDefEqProofs [w_var, w_lit, w_glo, w_bin, w_neg, w_cmp, w_chain, w_isN, w_notN, w_not, w_and, w_or, w_and1, w_and2, w_or1, w_or2, wp_tst, w_ite, w_tup, w_lst, w_ix, w_slc, w_oN, w_oS, w_fld, wp_shut, w_prop, w_call, w_callK, w_mk, w_mkK, w_mkR, w_bi, w_bm, w_isi, w_rngT, w_comp, w_new, w_frz, w_srt, w_isB, w_nil, w_cons, w_seq, w_rng, w_enm, w_zip, s_asg, s_setIx, s_setFld, s_ret, s_retN, s_if, s_expr, s_brk, s_cnt, s_pass, s_nil, s_cons, s_for, s_whl, wp_ok, wp_bad, wp_bind, wp_opt, wp_optN, wp_if, wp_run, g_call, g_call1, g_deep, g_con, asgT, asgTs, startE, wipeE, lim_ok, ne_tag Tg.p, tru_bl, dx0, dx1, dx2, len_tup, hX6]
  refine (mf_3 .m (free_bad (by simp; omega) fun st n h P => init_model (k := k) ok (by omega))).imp fun d h16 ⟨e16, K16⟩ => ?_
  subst e16
  simp -implicitDefEqProofs [w_var, w_lit, w_glo, w_bin, w_neg, w_cmp, w_chain, w_isN, w_notN, w_not, w_and, w_or, w_and1, w_and2, w_or1, w_or2, wp_tst, w_ite, w_tup, w_lst, w_ix, w_slc, w_oN, w_oS, w_fld, wp_shut, w_prop, w_call, w_callK, w_mk, w_mkK, w_mkR, w_bi, w_bm, w_isi, w_rngT, w_comp, w_new, w_frz, w_srt, w_isB, w_nil, w_cons, w_seq, w_rng, w_enm, w_zip, s_asg, s_setIx, s_setFld, s_ret, s_retN, s_if, s_expr, s_brk, s_cnt, s_pass, s_nil, s_cons, s_for, s_whl, wp_ok, wp_bad, wp_bind, wp_opt, wp_optN, wp_if, wp_run, g_call, g_call1, g_deep, g_con, asgT, asgTs, startE, wipeE, lim_ok, ne_tag Tg.m, tru_bl, dx0, dx1, dx2, len_tup]
  refine (mf_3 .v (free_slips ok (nosl_int (i := 9) (by omega)))).imp fun d h17 ⟨e17, K17⟩ => ?_
  subst e17
  simp -implicitDefEqProofs [w_var, w_lit, w_glo, w_bin, w_neg, w_cmp, w_chain, w_isN, w_notN, w_not, w_and, w_or, w_and1, w_and2, w_or1, w_or2, wp_tst, w_ite, w_tup, w_lst, w_ix, w_slc, w_oN, w_oS, w_fld, wp_shut, w_prop, w_call, w_callK, w_mk, w_mkK, w_mkR, w_bi, w_bm, w_isi, w_rngT, w_comp, w_new, w_frz, w_srt, w_isB, w_nil, w_cons, w_seq, w_rng, w_enm, w_zip, s_asg, s_setIx, s_setFld, s_ret, s_retN, s_if, s_expr, s_brk, s_cnt, s_pass, s_nil, s_cons, s_for, s_whl, wp_ok, wp_bad, wp_bind, wp_opt, wp_optN, wp_if, wp_run, g_call, g_call1, g_deep, g_con, asgT, asgTs, startE, wipeE, lim_ok, eq_tag Tg.v, tru_bl, dx0, dx1, dx2, len_tup]
  refine (mf_ok ok).imp fun d h18 ⟨e18, K18⟩ => ?_
  subst e18
  first | rfl | simp -implicitDefEqProofs [w_var, w_lit, w_glo, w_bin, w_neg, w_cmp, w_chain, w_isN, w_notN, w_not, w_and, w_or, w_and1, w_and2, w_or1, w_or2, wp_tst, w_ite, w_tup, w_lst, w_ix, w_slc, w_oN, w_oS, w_fld, wp_shut, w_prop, w_call, w_callK, w_mk, w_mkK, w_mkR, w_bi, w_bm, w_isi, w_rngT, w_comp, w_new, w_frz, w_srt, w_isB, w_nil, w_cons, w_seq, w_rng, w_enm, w_zip, s_asg, s_setIx, s_setFld, s_ret, s_retN, s_if, s_expr, s_brk, s_cnt, s_pass, s_nil, s_cons, s_for, s_whl, wp_ok, wp_bad, wp_bind, wp_opt, wp_optN, wp_if, wp_run, g_call, g_call1, g_deep, g_con, asgT, asgTs, startE, wipeE]
theorem clean_law (ns : List Int) (h : ns.length ≤ 63) : ∃ h', callI TB.tb 100 i_law [.scr (ns.map .int)] [] = .ok (.bl true) h' := by
  obtain ⟨d, h', e, rfl⟩ := (law_w (k := 90) h).ex
  exact ⟨h', e⟩
end Cl
open PySem PySem.W PySem.Calls PyProof.Rows
theorem PySem.Challenge.cw_anyrowline_k06_refusals_of_made_lines_holds : PySem.Challenge.rw_anyrowline_k06_refusals_of_made_lines.Holds := by
  w_on; o_law
  refine HandSHeadRun.head_any (r := OpenLaw.row PySem.Challenge.rw_anyrowline_k06_refusals_of_made_lines) (q := view (OpenLaw.row PySem.Challenge.rw_anyrowline_k06_refusals_of_made_lines).prog [55]) (H := Cl.hk) (ob := Cl.ob) (M := 12000) (loose := Cl.loose) (d := HandSHeadRun.topDef (OpenLaw.row PySem.Challenge.rw_anyrowline_k06_refusals_of_made_lines).prog 55) (kwd := []) Cl.ob_eq
    (by kernel_rfl) (fun s => by kernel_rfl) Cl.run (by kernel_rfl) (by kernel_rfl) (by kernel_rfl) (by rfl) (by first | assumption | decide +kernel) (by decide +kernel) ⟨rfl, rfl, rfl, rfl, rfl, by decide +kernel⟩ ?hw ?hc
  case hw => w_witness2
  case hc =>
    refine L2.walk_ofE (l := PySem.Challenge.rw_anyrowline_k06_refusals_of_made_lines) (n := 63) (k := 100) (x := "script") (CX := Cl.CXa PySem.Challenge.rw_anyrowline_k06_refusals_of_made_lines.prog) rfl (by decide) (by kernel_rfl) ⟨rfl, by decide, by decide⟩ ?F ?cx
    case F => exact fun w => Cl.law_walk (l := PySem.Challenge.rw_anyrowline_k06_refusals_of_made_lines) (T := Cl.TB) (L := 100) (i := Cl.i_law) (dl := Cl.d_law) rfl rfl rfl rfl Cl.T_chk Cl.T_bnd Cl.e_law Cl.clean_law w
    case cx => exact Cl.cx_false
