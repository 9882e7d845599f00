import PyProof.Rows.All
import Wide.All
import OpenK.AllK
import Wide.FinOn
import HandS.ForList
import HandS.ForMost
import HandS.ForExc
import HandS.WideBits
import HandS.Gcd
import HandS.Style
import HandS.IsInst
import HandS.TupAny
import HandS.TupMul
import HandS.Deep
import HandS.Zip
import HandS.Conv
import HandS.RaiseMore
import HandS.Flow
import HandS.TryOnly
import HandS.Dict
import HandS.WordsExc
import PySem.Challenge.RW_shaftshakes_k34_whole_boxes_and_their_li
set_option Elab.async false
set_option linter.all false
set_option maxRecDepth 100000
/-! Mini: a small language, its data, its store, its evaluator. -/
namespace Mini
open PySem

inductive D where
  | non | bl (b : Bool) | int (i : Int) | str (x : Str) | tup (xs : List D) | ref (n : Nat) | glb (i : Nat)

inductive Cl where
  | lst (xs : List D)
  | frz (xs : List D)
  | dct
  | ins (c : Nat) (fs : List (Str × D))

abbrev Sto := List Cl
abbrev Loc := List (Option D)

inductive Res (α : Type) where
  | ok (a : α) (S : Sto)
  | ex (c : Nat) (fs : List (Str × D)) (S : Sto)
  | no

namespace Res
def bind {α β : Type} (r : Res α) (k : α → Sto → Res β) : Res β := match r with
  | ok a S => k a S
  | ex c fs S => ex c fs S
  | no => no
def sat {α : Type} (r : Res α) (P : α → Sto → Prop) (E : Nat → List (Str × D) → Sto → Prop) : Prop := match r with
  | ok a S => P a S
  | ex c fs S => E c fs S
  | no => False
theorem sat_bind {α β : Type} {r : Res α} {k : α → Sto → Res β} {P : β → Sto → Prop} {E : Nat → List (Str × D) → Sto → Prop} (h : (r.bind k).sat P E) : r.sat (fun a S => (k a S).sat P E) E := by
  cases r <;> exact h
theorem sat_mono {α : Type} {r : Res α} {P P' : α → Sto → Prop} {E E' : Nat → List (Str × D) → Sto → Prop} (h : r.sat P E) (hp : ∀ a S, P a S → P' a S) (he : ∀ c f S, E c f S → E' c f S) : r.sat P' E' := by
  cases r with
  | ok a S => exact hp _ _ h
  | ex c f S => exact he _ _ _ h
  | no => exact h
/-- an exception is nothing here -/
def noex {α : Type} (r : Res α) : Res α := match r with
  | ok a S => ok a S
  | _ => no
theorem sat_noex {α : Type} {r : Res α} {P : α → Sto → Prop} {E E' : Nat → List (Str × D) → Sto → Prop} (h : r.noex.sat P E) : r.sat P E' := by
  cases r with
  | ok a S => exact h
  | ex c f S => exact h.elim
  | no => exact h
end Res

def ofOpt {α : Type} (S : Sto) : Option α → Res α
  | some a => .ok a S
  | none => .no

inductive Bop where | add | sub | mul | fdiv | mod | pow
inductive Cop where | eq | ne | lt | le | gt | ge | is | isnot | isin | notin
inductive Ty where | int | bool | str | tuple | list | dict deriving DecidableEq
inductive Fn where | len | abs | max | min | int | tuple | list | sum | all | any | divmod | gcd | repr | str | isi (t : Ty)
inductive Me where | append | extend | pop | count | index

mutual
inductive Ex where
  | var (i : Nat) | con (d : D) | tup (es : List Ex) | lst (es : List Ex) | dct
  | bin (o : Bop) (a b : Ex) | neg (a : Ex) | not (a : Ex) | and (a b : Ex) | or (a b : Ex)
  | cmp (o : Cop) (a b : Ex) | chain (o o' : Cop) (a b c : Ex) | ite (c a b : Ex)
  | call (f : Nat) (es : List Ex) (perm : Option (List Nat)) | make (c : Nat) (es : List Ex) | fn (g : Fn) (es : List Ex)
  | me (m : Me) (o : Ex) (es : List Ex) | meth (m : Str) (o : Ex) (es : List Ex) | fld (o : Ex) (f : Str)
  | ix (o i : Ex) | sl (o : Ex) (lo hi : Option Ex) | rev (o : Ex)
  | comp (t : Tg) (it : It) (cs : List Ex) (elt : Ex) (own : List Nat) | lrg1 (a : Ex) | lrg2 (a b : Ex)
inductive Tg where
  | nm (i : Nat) | tp (ts : List Tg) | ix (o i : Ex) | fd (o : Ex) (f : Str)
inductive It where
  | val (e : Ex) | rng1 (a : Ex) | rng2 (a b : Ex) | rng3 (a b c : Ex) | zip (a b : Ex) | enum (a : Ex)
end

inductive St where
  | asg (t : Tg) (e : Ex) | par (is : List Nat) (es : List Ex) | aug (i : Nat) (o : Bop) (e : Ex) | augS (a b : Ex) (o : Bop) (e : Ex)
  | ex (e : Ex) | ite (c : Ex) (a b : List St) | for_ (t : Tg) (it : It) (b : List St) | while_ (c : Ex) (b : List St)
  | ret (e : Ex) | ret0 | pass | brk | bad

/-! ### data -/
def lineN : Nat := 16777216
def seqAt (S : Sto) (n : Nat) : Option (List D) := match S[n]? with
  | some (.lst xs) => some xs
  | some (.frz xs) => some xs
  | _ => none
def truth (S : Sto) : D → Option Bool
  | .non => some false
  | .bl b => some b
  | .int i => some (i != 0)
  | .str x => if x.length ≤ lineN then some (x.length != 0) else none
  | .tup xs => some (!xs.isEmpty)
  | .ref n => match seqAt S n with
    | some xs => some (!xs.isEmpty)
    | none => none
  | .glb _ => none

def mapO {α β : Type} (f : α → Option β) : List α → Option (List β)
  | [] => some []
  | x :: xs => match f x, mapO f xs with
    | some d, some ds => some (d :: ds)
    | _, _ => none
def leafD : D → Option PyData
  | .non => some .none
  | .bl b => some (.bool b)
  | .int i => some (.int i)
  | .str x => some (.str x)
  | _ => none
/-- the data that == and repr look at, to a depth -/
def toD (S : Sto) : Nat → D → Option PyData
  | 0, d => leafD d
  | k + 1, d => match d with
    | .tup xs => (mapO (toD S k) xs).map .tuple
    | .ref n => match seqAt S n with
      | some xs => (mapO (toD S k) xs).map .list
      | none => none
    | d => leafD d
end Mini
/-! Mini: the evaluator. -/
namespace Mini
open PySem

/-- a new cell -/
def new (c : Cl) (S : Sto) : Res D := .ok (.ref S.length) (S ++ [c])
def lstAt (S : Sto) (n : Nat) : Option (List D) := match S[n]? with
  | some (.lst xs) => some xs
  | _ => none
def mulOk (i j : Int) : Bool := decide ((Builtin.Int.intBits i : Int) + (Builtin.Int.intBits j : Int) ≤ 134217728)
def divOk (i j : Int) : Bool := j != 0 && !Builtin.divisionGoesByPylong i j
def powOk (i j : Int) : Bool := decide (0 ≤ j) && decide (j ≤ 1000000) && decide (i.natAbs < 2 ^ 64)

def addE (S : Sto) : D → D → Res D
  | .int i, .int j => .ok (.int (i + j)) S
  | .str x, .str y => if x.length + y.length ≤ lineN then .ok (.str (x ++ y)) S else .no
  | .tup xs, .tup ys => if xs.length + ys.length ≤ lineN then .ok (.tup (xs ++ ys)) S else .no
  | .ref a, .ref b => match lstAt S a, lstAt S b with
    | some xs, some ys => if xs.length + ys.length ≤ lineN then new (.lst (xs ++ ys)) S else .no
    | _, _ => .no
  | _, _ => .no
def mulE (S : Sto) : D → D → Res D
  | .int i, .int j => if mulOk i j then .ok (.int (i * j)) S else .no
  | .tup xs, .int k => if !xs.isEmpty && decide (2 ≤ k) && decide (k ≤ 1000) && decide (xs.length ≤ 1000) then .ok (.tup (List.replicate k.toNat xs).flatten) S else .no
  | .ref a, .int k => match lstAt S a with
    | some xs => if decide (-(2 ^ 63) ≤ k) && decide (k < 2 ^ 63) && decide (xs.length * k.toNat ≤ lineN) then new (.lst (List.replicate k.toNat xs).flatten) S else .no
    | _ => .no
  | _, _ => .no
def binE (o : Bop) (a b : D) (S : Sto) : Res D := match o with
  | .add => addE S a b
  | .mul => mulE S a b
  | .sub => match a, b with
    | .int i, .int j => .ok (.int (i - j)) S
    | _, _ => .no
  | .fdiv => match a, b with
    | .int i, .int j => if divOk i j then .ok (.int (i.fdiv j)) S else .no
    | _, _ => .no
  | .mod => match a, b with
    | .int i, .int j => if j != 0 then .ok (.int (i.fmod j)) S else .no
    | _, _ => .no
  | .pow => match a, b with
    | .int i, .int j => if powOk i j then .ok (.int (i ^ j.toNat)) S else .no
    | _, _ => .no

/-- the depth to which data is compared -/
def deepN : Nat := 20
def eqE (S : Sto) (a b : D) : Option Bool := match toD S deepN a, toD S deepN b with
  | some d, some e => if SeqAt.shaped d && SeqAt.shaped e then some (PyData.eqv d e) else none
  | _, _ => none
def isE : D → D → Option Bool
  | .glb _, _ => none
  | .non, .non => some true
  | .bl a, .bl b => some (decide (a = b))
  | .non, _ => none
  | _, .non => some false
  | _, _ => none
def inE (S : Sto) (a b : D) : Option Bool := match toD S deepN a, toD S deepN b with
  | some d, some (.list es) => if SeqAt.shaped d && SeqAt.shaped (.list es) then some (es.any fun z => PyData.eqv z d) else none
  | _, _ => none
def cmpE (o : Cop) (a b : D) (S : Sto) : Option Bool := match o with
  | .eq => eqE S a b
  | .ne => (eqE S a b).map (!·)
  | .is => isE a b
  | .isnot => (isE a b).map (!·)
  | .isin => inE S a b
  | .notin => (inE S a b).map (!·)
  | .lt => match a, b with
    | .int i, .int j => some (decide (i < j))
    | _, _ => none
  | .le => match a, b with
    | .int i, .int j => some (decide (i ≤ j))
    | _, _ => none
  | .gt => match a, b with
    | .int i, .int j => some (decide (j < i))
    | _, _ => none
  | .ge => match a, b with
    | .int i, .int j => some (decide (j ≤ i))
    | _, _ => none

def intsOf : List D → Option (List Int)
  | [] => some []
  | .int i :: r => (intsOf r).map (i :: ·)
  | _ :: _ => none
def boolsOf : List D → Option (List Bool)
  | [] => some []
  | .bl b :: r => (boolsOf r).map (b :: ·)
  | _ :: _ => none
def maxL : List Int → Option Int
  | [] => none
  | x :: xs => some (xs.foldl (fun m y => if y > m then y else m) x)
def minL : List Int → Option Int
  | [] => none
  | x :: xs => some (xs.foldl (fun m y => if y < m then y else m) x)
def tyOf (S : Sto) : D → Option Ty
  | .int _ => some .int
  | .bl _ => some .bool
  | .str _ => some .str
  | .tup _ => some .tuple
  | .ref n => match S[n]? with
    | some (.lst _) => some .list
    | some .dct => some .dict
    | _ => none
  | _ => none
def isiE (S : Sto) (a : D) (t : Ty) : Option Bool := match a with
  | .non => some false
  | a => match tyOf S a with
    | some u => some (decide (u = t) || (decide (u = .bool) && decide (t = .int)))
    | none => none
def fnE (g : Fn) (ds : List D) (S : Sto) : Res D := match g, ds with
  | .len, [.tup xs] => .ok (.int xs.length) S
  | .len, [.ref n] => match seqAt S n with
    | some xs => .ok (.int xs.length) S
    | none => .no
  | .len, [.str x] => if x.length ≤ lineN then .ok (.int x.length) S else .no
  | .abs, [.int i] => .ok (.int (if i < 0 then -i else i)) S
  | .max, [.int i, .int j] => .ok (.int (if j > i then j else i)) S
  | .min, [.int i, .int j] => .ok (.int (if j < i then j else i)) S
  | .max, [.ref n] => match (seqAt S n).bind intsOf with
    | some ns => ofOpt S ((maxL ns).map D.int)
    | none => .no
  | .min, [.ref n] => match (seqAt S n).bind intsOf with
    | some ns => ofOpt S ((minL ns).map D.int)
    | none => .no
  | .int, [.int i] => .ok (.int i) S
  | .int, [.bl b] => .ok (.int (if b then 1 else 0)) S
  | .tuple, [.tup xs] => .ok (.tup xs) S
  | .tuple, [.ref n] => match seqAt S n with
    | some xs => .ok (.tup xs) S
    | none => .no
  | .list, [.tup xs] => new (.lst xs) S
  | .list, [.ref n] => match seqAt S n with
    | some xs => new (.lst xs) S
    | none => .no
  | .sum, [.ref n] => match (seqAt S n).bind intsOf with
    | some ns => .ok (.int ns.sum) S
    | none => .no
  | .all, [.ref n] => match (seqAt S n).bind boolsOf with
    | some bs => .ok (.bl (bs.all id)) S
    | none => .no
  | .any, [.ref n] => match (seqAt S n).bind boolsOf with
    | some bs => .ok (.bl (bs.any id)) S
    | none => .no
  | .divmod, [.int i, .int j] => if decide (0 < j) && decide (j < 1073741824) then .ok (.tup [.int (i / j), .int (i % j)]) S else .no
  | .gcd, [.int i, .int j] => .ok (.int ((Nat.gcd i.natAbs j.natAbs : Nat) : Int)) S
  | .str, [.int i] => if i.natAbs.log2 < 1920 then .ok (.str (Str.ofString (toString i))) S else .no
  | .str, [.str x] => .ok (.str x) S
  | .repr, [d] => match toD S deepN d with
    | some e => if e.showable && decide (e.shown.length ≤ lineN) then .ok (.str e.shown) S else .no
    | none => .no
  | .isi t, [d] => ofOpt S ((isiE S d t).map D.bl)
  | _, _ => .no

def ixE (S : Sto) : D → D → Option D
  | .tup xs, .int i => L2.atI xs i
  | .ref n, .int i => (seqAt S n).bind fun xs => L2.atI xs i
  | _, _ => none
def ixL (S : Sto) : D → D → Option D
  | .ref n, .int i => (lstAt S n).bind fun xs => L2.atI xs i
  | _, _ => none
/-- a slice -/
def cutD (xs : List D) (lo hi : Option Int) : List D := (xs.drop (HT.sIx xs.length 0 lo)).take (HT.sIx xs.length xs.length hi - HT.sIx xs.length 0 lo)
def partI : D → Option Int
  | .int i => some i
  | _ => none
def slE (o : D) (l h : Option Int) (S : Sto) : Res D := match o with
  | .tup xs => .ok (.tup (cutD xs l h)) S
  | .ref n => match seqAt S n with
    | some xs => new (.lst (cutD xs l h)) S
    | none => .no
  | _ => .no
def revE (o : D) (S : Sto) : Res D := match o with
  | .tup xs => .ok (.tup xs.reverse) S
  | .ref n => match lstAt S n with
    | some xs => new (.lst xs.reverse) S
    | none => .no
  | _ => .no
def isLst (S : Sto) : D → Bool
  | .ref n => (lstAt S n).isSome
  | _ => false
def meE (m : Me) (o : D) (ds : List D) (S : Sto) : Res D := match m, o, ds with
  | .append, .ref n, [d] => match lstAt S n with
    | some xs => if xs.length < lineN then .ok .non (S.set n (.lst (xs ++ [d]))) else .no
    | none => .no
  | .extend, .ref n, [.ref k] => match lstAt S n, lstAt S k with
    | some xs, some ys => if xs.length + ys.length ≤ lineN then .ok .non (S.set n (.lst (xs ++ ys))) else .no
    | _, _ => .no
  | .pop, .ref n, [] => match lstAt S n with
    | some xs => match xs[xs.length - 1]? with
      | some d => .ok d (S.set n (.lst xs.dropLast))
      | none => .no
    | none => .no
  | _, _, _ => .no

def negE (x : D) (S : Sto) : Res D := match x with
  | .int i => .ok (.int (-i)) S
  | _ => .no
def fldE (f : Str) (x : D) (S : Sto) : Res D := match x with
  | .ref n => match S[n]? with
    | some (.ins _ fs) => ofOpt S (fs.lookup f)
    | _ => .no
  | _ => .no
def putFs (f : Str) (d : D) : List (Str × D) → List (Str × D)
  | [] => [(f, d)]
  | (g, e) :: r => if g = f then (g, d) :: r else (g, e) :: putFs f d r
/-- what a for walks -/
inductive Stp where | item (d : D) | stop | bad
abbrev Src := Nat → Sto → Stp
def srcL (xs : List D) : Src := fun i _ => match xs[i]? with
  | some d => .item d
  | none => .stop
def srcR (n : Nat) : Src := fun i S => match seqAt S n with
  | some xs => srcL xs i S
  | none => .bad
def rngL (lo : Int) (n : Nat) : Src := fun i _ => if i < n then .item (.int (lo + (i : Int))) else .stop
def rngC (lo c : Int) (n : Nat) : Src := fun i _ => if i < n then .item (.int (lo + (i : Int) * c)) else .stop
def pairS (s t : Src) : Src := fun i S => match s i S, t i S with
  | .item a, .item b => .item (.tup [a, b])
  | .stop, .item _ => .stop
  | .item _, .stop => .stop
  | .stop, .stop => .stop
  | _, _ => .bad
def enumS (s : Src) : Src := fun i S => match s i S with
  | .item a => .item (.tup [.int (i : Int), a])
  | .stop => .stop
  | .bad => .bad
def srcOf (S : Sto) : D → Option Src
  | .tup xs => some (srcL xs)
  | .ref n => match seqAt S n with
    | some _ => some (srcR n)
    | none => none
  | _ => none
def zipOf (S : Sto) : D → D → Option Src
  | .tup xs, .tup ys => some (pairS (srcL xs) (srcL ys))
  | .ref m, .ref n => match seqAt S m, seqAt S n with
    | some _, some _ => some (pairS (srcR m) (srcR n))
    | _, _ => none
  | _, _ => none
def enumOf (S : Sto) : D → Option Src
  | .ref n => match seqAt S n with
    | some _ => some (enumS (srcR n))
    | none => none
  | _ => none
def storeE (x y d : D) (S : Sto) : Option Sto := match x, y with
  | .ref n, .int k => match lstAt S n with
    | some xs => match L2.ixN xs.length k with
      | some j => some (S.set n (.lst (xs.set j d)))
      | none => none
    | none => none
  | _, _ => none
def putE (f : Str) (x d : D) (S : Sto) : Option Sto := match x with
  | .ref n => match S[n]? with
    | some (.ins c fs) => if fs.length < 1000 then some (S.set n (.ins c (putFs f d fs))) else none
    | _ => none
  | _ => none
def seqD (S : Sto) : D → Option (List D)
  | .tup xs => some xs
  | .ref n => seqAt S n
  | _ => none
def ofSto (ρ : Loc) : Option Sto → Res Loc
  | some S => .ok ρ S
  | none => .no
def augE (x y : D) (o : Bop) : Option D := match x, y, o with
  | .int a, .int b, .add => some (.int (a + b))
  | _, _, _ => none
def inR (i : Int) : Bool := decide (-(2 ^ 62) ≤ i) && decide (i < 2 ^ 62)

def rng1E : D → Option Src
  | .int i => if inR i then some (rngL 0 i.toNat) else none
  | _ => none
def rng2E : D → D → Option Src
  | .int i, .int j => if inR i && inR j then some (rngL i (j - i).toNat) else none
  | _, _ => none
def rng3E : D → D → D → Option Src
  | .int i, .int j, .int c => if c = -1 ∧ inR i ∧ inR j then some (rngC i (-1) (i - j).toNat) else none
  | _, _, _ => none

/-- list(range(i, j)) -/
def lrgE (S : Sto) : D → D → Res D
  | .int i, .int j => if inR i && inR j && decide ((j - i).toNat ≤ lineN) then new (.lst ((List.range (j - i).toNat).map fun (k : Nat) => .int (i + (k : Int)))) S else .no
  | _, _ => .no

/-! ### the run -/
structure Pg where
  call : Nat → List D → Sto → Res D
  make : Nat → List D → Sto → Res D
  meth : Str → D → List D → Sto → Res D
  fuel : Nat

inductive Fl where
  | nx (ρ : Loc) | rt (d : D) | bk (ρ : Loc)

/-- a comprehension's turns: the list stands at n -/
def compN (src : Src) (n : Nat) (body : D → Sto → Res (Option D)) : Nat → Nat → Sto → Res D
  | 0, _, _ => .no
  | k + 1, i, S => match src i S with
    | .bad => .no
    | .stop => .ok (.ref n) S
    | .item d => (body d S).bind fun r S1 => match r with
      | none => compN src n body k (i + 1) S1
      | some e => match lstAt S1 n with
        | some ys => if ys.length < lineN then compN src n body k (i + 1) (S1.set n (.lst (ys ++ [e]))) else .no
        | none => .no
def forN (src : Src) (body : D → Sto → Loc → Res Fl) : Nat → Nat → Sto → Loc → Res Fl
  | 0, _, _, _ => .no
  | k + 1, i, S, ρ => match src i S with
    | .bad => .no
    | .stop => .ok (.nx ρ) S
    | .item d => (body d S ρ).bind fun f S1 => match f with
      | .nx ρ1 => forN src body k (i + 1) S1 ρ1
      | .rt e => .ok (.rt e) S1
      | .bk ρ1 => .ok (.nx ρ1) S1
def whileN (c : Loc → Sto → Res Bool) (body : Loc → Sto → Res Fl) : Nat → Loc → Sto → Res Fl
  | 0, _, _ => .no
  | k + 1, ρ, S => (c ρ S).bind fun b S1 => if b then (body ρ S1).bind fun f S2 => match f with
      | .nx ρ1 => whileN c body k ρ1 S2
      | .rt e => .ok (.rt e) S2
      | .bk ρ1 => .ok (.nx ρ1) S2
    else .ok (.nx ρ) S1
def wipeL (ρ : Loc) : List Nat → Loc
  | [] => ρ
  | v :: vs => (wipeL ρ vs).set v none
def permD (ds : List D) : Option (List Nat) → Option (List D)
  | none => some ds
  | some p => p.mapM fun i => ds[i]?

mutual
def evE (p : Pg) : Ex → Loc → Sto → Res D
  | .var i, ρ, S => match ρ[i]? with
    | some (some d) => .ok d S
    | _ => .no
  | .con d, _, S => .ok d S
  | .dct, _, S => new .dct S
  | .tup es, ρ, S => (evEs p es ρ S).bind fun ds S1 => .ok (.tup ds) S1
  | .lst es, ρ, S => (evEs p es ρ S).bind fun ds S1 => new (.lst ds) S1
  | .bin o a b, ρ, S => (evE p a ρ S).bind fun x S1 => (evE p b ρ S1).bind fun y S2 => binE o x y S2
  | .neg a, ρ, S => (evE p a ρ S).bind negE
  | .not a, ρ, S => (evE p a ρ S).bind fun x S1 => ofOpt S1 ((truth S1 x).map fun b => .bl (!b))
  | .and a b, ρ, S => (evE p a ρ S).bind fun x S1 => (ofOpt S1 (truth S1 x)).bind fun t S1 => if t then evE p b ρ S1 else .ok x S1
  | .or a b, ρ, S => (evE p a ρ S).bind fun x S1 => (ofOpt S1 (truth S1 x)).bind fun t S1 => if t then .ok x S1 else evE p b ρ S1
  | .cmp o a b, ρ, S => (evE p a ρ S).bind fun x S1 => (evE p b ρ S1).bind fun y S2 => ofOpt S2 ((cmpE o x y S2).map .bl)
  | .chain o o' a b c, ρ, S => (evE p a ρ S).bind fun x S1 => (evE p b ρ S1).bind fun y S2 => (ofOpt S2 (cmpE o x y S2)).bind fun t S2 =>
      if t then (evE p c ρ S2).bind fun z S3 => ofOpt S3 ((cmpE o' y z S3).map .bl) else .ok (.bl false) S2
  | .ite c a b, ρ, S => (evE p c ρ S).bind fun x S1 => (ofOpt S1 (truth S1 x)).bind fun t S1 => if t then evE p a ρ S1 else evE p b ρ S1
  | .call f es q, ρ, S => (evEs p es ρ S).bind fun ds S1 => (ofOpt S1 (permD ds q)).bind fun ds S1 => p.call f ds S1
  | .make c es, ρ, S => (evEs p es ρ S).bind fun ds S1 => p.make c ds S1
  | .fn g es, ρ, S => (evEs p es ρ S).bind fun ds S1 => fnE g ds S1
  | .me m o es, ρ, S => (evE p o ρ S).bind fun x S1 => if isLst S1 x then (evEs p es ρ S1).bind fun ds S2 => meE m x ds S2 else .no
  | .meth m o es, ρ, S => (evE p o ρ S).bind fun x S1 => (evEs p es ρ S1).bind fun ds S2 => p.meth m x ds S2
  | .fld o f, ρ, S => (evE p o ρ S).bind (fldE f)
  | .ix o i, ρ, S => (evE p o ρ S).bind fun x S1 => (evE p i ρ S1).bind fun y S2 => ofOpt S2 (ixE S2 x y)
  | .sl o lo hi, ρ, S => (evE p o ρ S).bind fun x S1 => (evO p lo ρ S1).bind fun l S2 => (evO p hi ρ S2).bind fun h S3 => slE x l h S3
  | .rev o, ρ, S => (evE p o ρ S).bind fun x S1 => revE x S1
  | .comp t it cs elt own, ρ, S => (evI p it ρ S).bind fun src S1 =>
      compN src S1.length (fun d S => ((asg p t d (wipeL ρ own) S).bind fun ρ1 S1 => (evT p cs ρ1 S1).bind fun b S2 =>
        if b then (evE p elt ρ1 S2).bind fun e S3 => .ok (some e) S3 else .ok none S2).noex) p.fuel 0 (S1 ++ [.lst []])
  | .lrg1 a, ρ, S => (evE p a ρ S).bind fun x S1 => lrgE S1 (.int 0) x
  | .lrg2 a b, ρ, S => (evE p a ρ S).bind fun x S1 => (evE p b ρ S1).bind fun y S2 => lrgE S2 x y
def evEs (p : Pg) : List Ex → Loc → Sto → Res (List D)
  | [], _, S => .ok [] S
  | e :: es, ρ, S => (evE p e ρ S).bind fun d S1 => (evEs p es ρ S1).bind fun ds S2 => .ok (d :: ds) S2
def evO (p : Pg) : Option Ex → Loc → Sto → Res (Option Int)
  | none, _, S => .ok none S
  | some e, ρ, S => (evE p e ρ S).bind fun d S1 => ofOpt S1 ((partI d).map some)
/-- all tests -/
def evT (p : Pg) : List Ex → Loc → Sto → Res Bool
  | [], _, S => .ok true S
  | e :: es, ρ, S => (evE p e ρ S).bind fun d S1 => (ofOpt S1 (truth S1 d)).bind fun b S1 => if b then evT p es ρ S1 else .ok false S1
def evI (p : Pg) : It → Loc → Sto → Res Src
  | .val e, ρ, S => (evE p e ρ S).bind fun x S1 => ofOpt S1 (srcOf S1 x)
  | .rng1 a, ρ, S => (evE p a ρ S).bind fun x S1 => ofOpt S1 (rng1E x)
  | .rng2 a b, ρ, S => (evE p a ρ S).bind fun x S1 => (evE p b ρ S1).bind fun y S2 => ofOpt S2 (rng2E x y)
  | .rng3 a b c, ρ, S => (evE p a ρ S).bind fun x S1 => (evE p b ρ S1).bind fun y S2 => (evE p c ρ S2).bind fun z S3 => ofOpt S3 (rng3E x y z)
  | .zip a b, ρ, S => (evE p a ρ S).bind fun x S1 => (evE p b ρ S1).bind fun y S2 => ofOpt S2 (zipOf S2 x y)
  | .enum a, ρ, S => (evE p a ρ S).bind fun x S1 => ofOpt S1 (enumOf S1 x)
def asg (p : Pg) : Tg → D → Loc → Sto → Res Loc
  | .nm i, d, ρ, S => .ok (ρ.set i (some d)) S
  | .tp ts, d, ρ, S => (ofOpt S (seqD S d)).bind fun xs S => if xs.length = ts.length then asgs p ts xs ρ S else .no
  | .ix o i, d, ρ, S => (evE p o ρ S).bind fun x S1 => (evE p i ρ S1).bind fun y S2 => ofSto ρ (storeE x y d S2)
  | .fd o f, d, ρ, S => (evE p o ρ S).bind fun x S1 => ofSto ρ (putE f x d S1)
def asgs (p : Pg) : List Tg → List D → Loc → Sto → Res Loc
  | [], [], ρ, S => .ok ρ S
  | t :: ts, d :: ds, ρ, S => (asg p t d ρ S).bind fun ρ1 S1 => asgs p ts ds ρ1 S1
  | _, _, _, _ => .no
end

def setsL (ρ : Loc) : List Nat → List D → Loc
  | i :: is, d :: ds => setsL (ρ.set i (some d)) is ds
  | _, _ => ρ
/-- a test's truth -/
def evB (p : Pg) (e : Ex) (ρ : Loc) (S : Sto) : Res Bool := (evE p e ρ S).bind fun d S1 => ofOpt S1 (truth S1 d)
mutual
def evS (p : Pg) : St → Loc → Sto → Res Fl
  | .asg t e, ρ, S => (evE p e ρ S).bind fun d S1 => (asg p t d ρ S1).bind fun ρ1 S2 => .ok (.nx ρ1) S2
  | .par is es, ρ, S => (evEs p es ρ S).bind fun ds S1 => .ok (.nx (setsL ρ is ds)) S1
  | .aug i o e, ρ, S => (evE p (.var i) ρ S).bind fun x S1 => (evE p e ρ S1).bind fun y S2 => (ofOpt S2 (augE x y o)).bind fun z S2 => .ok (.nx (ρ.set i (some z))) S2
  | .augS a b o e, ρ, S => (evE p a ρ S).bind fun x S1 => (evE p b ρ S1).bind fun y S2 => (ofOpt S2 (ixL S2 x y)).bind fun u S2 => (evE p e ρ S2).bind fun v S3 => (ofOpt S3 (augE u v o)).bind fun z S3 => (ofOpt S3 (storeE x y z S3)).bind fun S4 _ => .ok (.nx ρ) S4
  | .ex e, ρ, S => (evE p e ρ S).bind fun _ S1 => .ok (.nx ρ) S1
  | .ite c a b, ρ, S => (evB p c ρ S).bind fun t S1 => if t then evSs p a ρ S1 else evSs p b ρ S1
  | .for_ t it b, ρ, S => (evI p it ρ S).bind fun src S1 => forN src (fun d S ρ => (asg p t d ρ S).bind fun ρ1 S1 => evSs p b ρ1 S1) p.fuel 0 S1 ρ
  | .while_ c b, ρ, S => whileN (evB p c) (evSs p b) p.fuel ρ S
  | .ret e, ρ, S => (evE p e ρ S).bind fun d S1 => .ok (.rt d) S1
  | .ret0, ρ, S => .ok (.rt .non) S
  | .pass, ρ, S => .ok (.nx ρ) S
  | .brk, ρ, S => .ok (.bk ρ) S
  | .bad, _, _ => .no
def evSs (p : Pg) : List St → Loc → Sto → Res Fl
  | [], ρ, S => .ok (.nx ρ) S
  | s :: ss, ρ, S => (evS p s ρ S).bind fun f S1 => match f with
    | .nx ρ1 => evSs p ss ρ1 S1
    | f => .ok f S1
end
/-- a def: how many slots, its body -/
structure Def where
  par : Nat
  slots : Nat
  body : List St
def endD : Fl → Sto → Res D
  | .nx _, S => .ok .non S
  | .rt d, S => .ok d S
  | .bk _, _ => .no
def runD (p : Pg) (d : Def) (ds : List D) (S : Sto) : Res D :=
  if ds.length = d.par then (evSs p d.body (ds.map some ++ List.replicate (d.slots - ds.length) none) S).bind endD else .no
/-- a class: its __init__ -/
structure Clas where
  init : Nat
  meths : List (Str × Nat)
structure Txt where
  defs : List Def
  clss : List Clas
def badPg (fuel : Nat) : Pg := ⟨fun _ _ _ => .no, fun _ _ _ => .no, fun _ _ _ _ => .no, fuel⟩
def nextPg (T : Txt) (p : Pg) : Pg where
  call f ds S := match T.defs[f]? with
    | some d => runD p d ds S
    | none => .no
  make c ds S := match T.clss[c]? with
    | some k => match T.defs[k.init]? with
      | some d => (runD p d (.ref S.length :: ds) (S ++ [.ins c []])).bind fun r S1 => match r with
        | .non => .ok (.ref S.length) S1
        | _ => .no
      | none => .no
    | none => .no
  meth m o ds S := match o with
    | .ref n => match S[n]? with
      | some (.ins c fs) => match (T.clss[c]?).bind (fun k => k.meths.lookup m), fs.lookup m with
        | some f, none => match T.defs[f]? with
          | some d => runD p d (o :: ds) S
          | none => .no
        | _, _ => .no
      | _ => .no
    | _ => .no
  fuel := p.fuel
def pgN (T : Txt) (fuel : Nat) : Nat → Pg
  | 0 => badPg fuel
  | n + 1 => nextPg T (pgN T fuel n)
end Mini
/-! Mini: how data, cells, stores lie in the heap. -/
namespace Mini
open PySem PySem.Spec PyProof.Rows L2

structure Gx where
  K : PySem.W.Frag
  gv : Nat → V
  ca : Nat → Addr
structure Ab where
  μ : Nat → Addr
  S : Sto
  H : Hp

mutual
def Rep (G : Gx) (A : Ab) : D → V → Prop
  | .non, v => v = .non
  | .bl b, v => v = .bl b
  | .int i, v => v = .int i
  | .str x, v => v = .str x
  | .tup ds, v => ∃ a xs, v = .ref a ∧ SqT G.K A.H a xs ∧ RepL G A ds xs
  | .ref n, v => n < A.S.length ∧ v = .ref (A.μ n)
  | .glb i, v => v = G.gv i
def RepL (G : Gx) (A : Ab) : List D → List V → Prop
  | [], xs => xs = []
  | d :: ds, xs => ∃ v vs, xs = v :: vs ∧ Rep G A d v ∧ RepL G A ds vs
end
def RepF (G : Gx) (A : Ab) : List (Str × D) → List (Str × V) → Prop
  | [], xs => xs = []
  | (f, d) :: r, xs => ∃ v vs, xs = (f, v) :: vs ∧ Rep G A d v ∧ RepF G A r vs

/-- a list that is only read: locked, or an object of the module -/
def FzL (K : PySem.W.Frag) (H : Hp) (a : Addr) (xs : List V) : Prop :=
  (∃ ob, H a = some (.frz ob (.lst xs))) ∨
    ∃ (o : Obj) (its : Array Value) (n : Nat), K.lookup a = some o ∧ o.cls = .type "list" ∧ o.dict = none ∧ o.data = .seq its n ∧ its.size ≤ sizeLine ∧ Vals xs its.toList
theorem FzL.sq {K : PySem.W.Frag} {H : Hp} {a : Addr} {xs : List V} (h : FzL K H a xs) : SqL K H a xs := h.elim (fun h => .inl (.inr h)) .inr
def CRep (G : Gx) (A : Ab) (a : Addr) : Cl → Prop
  | .lst ds => ∃ xs, A.H a = some (.lst xs) ∧ RepL G A ds xs
  | .frz ds => ∃ xs, FzL G.K A.H a xs ∧ RepL G A ds xs
  | .dct => ∃ kvs, A.H a = some (.dK kvs)
  | .ins c fs => ∃ dx vs, A.H a = some (.ins (G.ca c) dx vs) ∧ RepF G A fs vs
def wr : Cl → Bool
  | .frz _ => false
  | _ => true
structure HR (G : Gx) (A : Ab) : Prop where
  cell : ∀ n c, A.S[n]? = some c → CRep G A (A.μ n) c
  inj : ∀ i j ci cj, A.S[i]? = some ci → A.S[j]? = some cj → wr ci = true → wr cj = true → A.μ i = A.μ j → i = j
structure Grow (G : Gx) (A B : Ab) : Prop where
  μ : ∀ n, n < A.S.length → B.μ n = A.μ n
  len : A.S.length ≤ B.S.length
  tup : ∀ a xs, SqT G.K A.H a xs → SqT G.K B.H a xs
variable {G : Gx} {A B C : Ab}
theorem Grow.refl : Grow G A A := ⟨fun _ _ => rfl, Nat.le_refl _, fun _ _ h => h⟩
theorem Grow.trans (a : Grow G A B) (b : Grow G B C) : Grow G A C :=
  ⟨fun n h => (b.μ n (Nat.lt_of_lt_of_le h a.len)).trans (a.μ n h), Nat.le_trans a.len b.len, fun x xs h => b.tup x xs (a.tup x xs h)⟩
mutual
theorem Rep.mono (g : Grow G A B) : ∀ {d : D} {v : V}, Rep G A d v → Rep G B d v
  | .non, _, h => h
  | .bl _, _, h => h
  | .int _, _, h => h
  | .str _, _, h => h
  | .glb _, _, h => h
  | .ref n, v, h => by
    obtain ⟨h1, h2⟩ : n < A.S.length ∧ v = .ref (A.μ n) := h
    exact ⟨Nat.lt_of_lt_of_le h1 g.len, by rw [g.μ n h1]; exact h2⟩
  | .tup ds, v, h => by
    obtain ⟨a, xs, e, h1, h2⟩ : ∃ a xs, v = .ref a ∧ SqT G.K A.H a xs ∧ RepL G A ds xs := h
    exact ⟨a, xs, e, g.tup a xs h1, RepL.mono g h2⟩
theorem RepL.mono (g : Grow G A B) : ∀ {ds : List D} {vs : List V}, RepL G A ds vs → RepL G B ds vs
  | [], _, h => h
  | d :: ds, xs, h => by
    obtain ⟨v, vs, e, h1, h2⟩ : ∃ v vs, xs = v :: vs ∧ Rep G A d v ∧ RepL G A ds vs := h
    exact ⟨v, vs, e, Rep.mono g h1, RepL.mono g h2⟩
end
theorem RepF.mono (g : Grow G A B) : ∀ {ds : List (Str × D)} {vs : List (Str × V)}, RepF G A ds vs → RepF G B ds vs
  | [], _, h => h
  | (f, d) :: ds, xs, h => by
    obtain ⟨v, vs, e, h1, h2⟩ : ∃ v vs, xs = (f, v) :: vs ∧ Rep G A d v ∧ RepF G A ds vs := h
    exact ⟨v, vs, e, Rep.mono g h1, RepF.mono g h2⟩
theorem RepL.nil : RepL G A [] [] := rfl
theorem RepL.cons {d : D} {v : V} {ds : List D} {vs : List V} (h : Rep G A d v) (r : RepL G A ds vs) : RepL G A (d :: ds) (v :: vs) := ⟨v, vs, rfl, h, r⟩
theorem RepL.uncons {d : D} {ds : List D} {xs : List V} (h : RepL G A (d :: ds) xs) : ∃ v vs, xs = v :: vs ∧ Rep G A d v ∧ RepL G A ds vs := h
theorem RepL.nil_iff {xs : List V} (h : RepL G A [] xs) : xs = [] := h
theorem RepL.length : ∀ {ds : List D} {vs : List V}, RepL G A ds vs → vs.length = ds.length
  | [], _, h => by rw [RepL.nil_iff h]; rfl
  | _ :: _, _, h => by
    obtain ⟨v, vs, rfl, _, h2⟩ := RepL.uncons h
    simp [RepL.length h2]
theorem RepL.append : ∀ {ds es : List D} {vs ws : List V}, RepL G A ds vs → RepL G A es ws → RepL G A (ds ++ es) (vs ++ ws)
  | [], _, _, _, h, r => by rw [RepL.nil_iff h]; exact r
  | _ :: _, _, _, _, h, r => by
    obtain ⟨v, vs, rfl, h1, h2⟩ := RepL.uncons h
    exact .cons h1 (RepL.append h2 r)
theorem RepL.get : ∀ {ds : List D} {vs : List V} {i : Nat} {d : D}, RepL G A ds vs → ds[i]? = some d → ∃ v, vs[i]? = some v ∧ Rep G A d v
  | [], _, _, _, _, e => by simp at e
  | _ :: _, _, 0, _, h, e => by
    obtain ⟨v, vs, rfl, h1, h2⟩ := RepL.uncons h
    simp at e; subst e
    exact ⟨v, rfl, h1⟩
  | _ :: _, _, i + 1, _, h, e => by
    obtain ⟨v, vs, rfl, h1, h2⟩ := RepL.uncons h
    obtain ⟨w, e1, r⟩ := RepL.get (i := i) h2 (by simpa using e)
    exact ⟨w, by simpa using e1, r⟩
theorem RepL.getV : ∀ {ds : List D} {vs : List V} {i : Nat} {v : V}, RepL G A ds vs → vs[i]? = some v → ∃ d, ds[i]? = some d ∧ Rep G A d v := by
  intro ds vs i v h e
  have hl := h.length
  obtain ⟨h1, h2⟩ := List.getElem?_eq_some_iff.mp e
  have hd : ds[i]? = some (ds[i]'(by omega)) := List.getElem?_eq_getElem (by omega)
  obtain ⟨w, e1, r⟩ := h.get hd
  rw [e] at e1
  cases e1
  exact ⟨_, hd, r⟩
theorem RepL.take : ∀ (n : Nat) {ds : List D} {vs : List V}, RepL G A ds vs → RepL G A (ds.take n) (vs.take n)
  | 0, _, _, _ => by simp; exact RepL.nil
  | _ + 1, [], _, h => by rw [RepL.nil_iff h]; exact RepL.nil
  | n + 1, _ :: _, _, h => by
    obtain ⟨v, vs, rfl, h1, h2⟩ := RepL.uncons h
    exact .cons h1 (RepL.take n h2)
theorem RepL.drop : ∀ (n : Nat) {ds : List D} {vs : List V}, RepL G A ds vs → RepL G A (ds.drop n) (vs.drop n)
  | 0, _, _, h => h
  | _ + 1, [], _, h => by rw [RepL.nil_iff h]; exact RepL.nil
  | n + 1, _ :: _, _, h => by
    obtain ⟨v, vs, rfl, h1, h2⟩ := RepL.uncons h
    exact RepL.drop n h2
theorem RepL.set : ∀ (i : Nat) {ds : List D} {vs : List V} {d : D} {v : V}, Rep G A d v → RepL G A ds vs → RepL G A (ds.set i d) (vs.set i v)
  | _, [], _, _, _, _, h => by rw [RepL.nil_iff h]; simp; exact RepL.nil
  | 0, _ :: _, _, _, _, r, h => by
    obtain ⟨v, vs, rfl, h1, h2⟩ := RepL.uncons h
    exact .cons r h2
  | i + 1, _ :: _, _, _, _, r, h => by
    obtain ⟨v, vs, rfl, h1, h2⟩ := RepL.uncons h
    exact .cons h1 (RepL.set i r h2)
theorem RepL.reverse : ∀ {ds : List D} {vs : List V}, RepL G A ds vs → RepL G A ds.reverse vs.reverse
  | [], _, h => by rw [RepL.nil_iff h]; exact RepL.nil
  | _ :: _, _, h => by
    obtain ⟨v, vs, rfl, h1, h2⟩ := RepL.uncons h
    simp only [List.reverse_cons]
    exact (RepL.reverse h2).append (.cons h1 .nil)
theorem RepL.rep {ds : List D} {vs : List V} (h : RepL G A ds vs) : ∀ k : Nat, RepL G A (List.replicate k ds).flatten (List.replicate k vs).flatten
  | 0 => RepL.nil
  | k + 1 => by
    simp only [List.replicate_succ, List.flatten_cons]
    exact h.append (RepL.rep h k)
theorem RepL.dropLast {ds : List D} {vs : List V} (h : RepL G A ds vs) : RepL G A ds.dropLast vs.dropLast := by
  rw [List.dropLast_eq_take, List.dropLast_eq_take, h.length]
  exact h.take _

/-! ### the abstract state moves -/
theorem sqT_put {K : PySem.W.Frag} {H : Hp} {p a : Addr} {o : HO} {xs : List V} (h : SqT K H a xs) (n : ∀ u, H p = some u → ∀ ys, u ≠ .tup ys ∧ ∀ ob, u ≠ .frz ob (.tup ys)) : SqT K (upd H p o) a xs := by
  rcases h with (h | ⟨ob, h⟩) | h
  · refine .inl (.inl ?_)
    rw [upd_ne fun (e : a = p) => (n _ (by rw [← e]; exact h) xs).1 rfl]
    exact h
  · refine .inl (.inr ⟨ob, ?_⟩)
    rw [upd_ne fun (e : a = p) => (n _ (by rw [← e]; exact h) xs).2 ob rfl]
    exact h
  · exact .inr h
theorem fzL_put {K : PySem.W.Frag} {H : Hp} {p a : Addr} {o : HO} {xs : List V} (h : FzL K H a xs) (n : ∀ u, H p = some u → ∀ ob, u ≠ .frz ob (.lst xs)) : FzL K (upd H p o) a xs := by
  rcases h with ⟨ob, h⟩ | h
  · refine .inl ⟨ob, ?_⟩
    rw [upd_ne fun (e : a = p) => n _ (by rw [← e]; exact h) ob rfl]
    exact h
  · exact .inr h
theorem rw_at {H : Hp} {p a : Addr} {o u : HO} (h : H a = some u) (n : a ≠ p) : upd H p o a = some u := (upd_ne n).trans h
/-- something untracked is laid at p -/
theorem Grow.lay {p : Addr} {o : HO} (hp : A.H p = none) : Grow G A ⟨A.μ, A.S, upd A.H p o⟩ :=
  ⟨fun _ _ => rfl, Nat.le_refl _, fun _ _ h => sqT_put h fun u e => by rw [hp] at e; cases e⟩
theorem CRep.grow {a : Addr} {c : Cl} (g : Grow G A B) (h : CRep G A a c) (e : ∀ o, wr c = true → A.H a = some o → B.H a = some o) (f : ∀ xs, wr c = false → FzL G.K A.H a xs → FzL G.K B.H a xs) : CRep G B a c := by
  cases c with
  | lst ds => obtain ⟨xs, h1, h2⟩ := h; exact ⟨xs, e _ rfl h1, h2.mono g⟩
  | frz ds => obtain ⟨xs, h1, h2⟩ := h; exact ⟨xs, f _ rfl h1, h2.mono g⟩
  | dct => obtain ⟨kvs, h⟩ := h; exact ⟨kvs, e _ rfl h⟩
  | ins c fs => obtain ⟨dx, vs, h1, h2⟩ := h; exact ⟨dx, vs, e _ rfl h1, h2.mono g⟩
theorem HR.lay {p : Addr} {o : HO} (h : HR G A) (hp : A.H p = none) : HR G ⟨A.μ, A.S, upd A.H p o⟩ := by
  exact ⟨fun n c e => (h.cell n c e).grow (.lay hp) (fun o _ q => rw_at q (ne_of_none q hp)) (fun xs _ q => fzL_put q fun u e => by rw [hp] at e; cases e), h.inj⟩
theorem CRep.some {a : Addr} {c : Cl} (h : CRep G A a c) (w : wr c = true) : ∃ o, A.H a = some o := by
  cases c with
  | lst ds => obtain ⟨xs, h1, h2⟩ := h; exact ⟨_, h1⟩
  | frz ds => cases w
  | dct => obtain ⟨kvs, h⟩ := h; exact ⟨_, h⟩
  | ins c fs => obtain ⟨dx, vs, h1, h2⟩ := h; exact ⟨_, h1⟩
/-- a new cell -/
def Ab.add (A : Ab) (p : Addr) (c : Cl) (H : Hp) : Ab := ⟨fun n => if n = A.S.length then p else A.μ n, A.S ++ [c], H⟩
theorem Ab.add_new {p : Addr} {c : Cl} {H : Hp} : (A.add p c H).μ A.S.length = p := if_pos rfl
theorem Ab.add_old {p : Addr} {c : Cl} {H : Hp} {n : Nat} (h : n < A.S.length) : (A.add p c H).μ n = A.μ n := if_neg (Nat.ne_of_lt h)
theorem Grow.add {p : Addr} {c : Cl} {H : Hp} (t : ∀ a xs, SqT G.K A.H a xs → SqT G.K H a xs) : Grow G A (A.add p c H) :=
  ⟨fun n h => Ab.add_old h, by show A.S.length ≤ (A.S ++ [c]).length; simp, t⟩
theorem HR.add {p : Addr} {c : Cl} {H : Hp} (h : HR G A) (hp : A.H p = none) (t : ∀ a xs, SqT G.K A.H a xs → SqT G.K H a xs) (l : ∀ a xs, FzL G.K A.H a xs → FzL G.K H a xs)
    (k : ∀ b o, A.H b = some o → H b = some o) (hc : CRep G (A.add p c H) p c) : HR G (A.add p c H) := by
  have old : ∀ {n : Nat} {e : Cl}, A.S[n]? = some e → n < A.S.length := fun {n e} q => (List.getElem?_eq_some_iff.mp q).1
  have cas : ∀ {n : Nat} {e : Cl}, (A.S ++ [c])[n]? = some e → (A.S[n]? = some e) ∨ (n = A.S.length ∧ e = c) := fun {n e} q => by
    by_cases hn : n < A.S.length
    · rw [List.getElem?_append_left hn] at q; exact .inl q
    · rw [List.getElem?_append_right (by omega)] at q
      by_cases hz : n - A.S.length = 0
      · rw [hz] at q
        refine .inr ⟨by omega, ?_⟩
        simpa using q.symm
      · rw [List.getElem?_eq_none (by simp; omega)] at q; cases q
  refine ⟨fun n e q => ?_, fun i j ci cj qi qj wi wj em => ?_⟩
  · have q : (A.S ++ [c])[n]? = some e := q
    rcases cas q with q | ⟨rfl, rfl⟩
    · rw [Ab.add_old (old q)]
      exact (h.cell n e q).grow (.add t) (fun o _ z => k _ o z) fun xs _ z => l _ xs z
    · rw [Ab.add_new]; exact hc
  · have qi : (A.S ++ [c])[i]? = some ci := qi
    have qj : (A.S ++ [c])[j]? = some cj := qj
    rcases cas qi with qi | ⟨ei, _⟩ <;> rcases cas qj with qj | ⟨ej, _⟩
    · rw [Ab.add_old (old qi), Ab.add_old (old qj)] at em
      exact h.inj i j ci cj qi qj wi wj em
    · rw [ej, Ab.add_old (old qi), Ab.add_new] at em
      obtain ⟨o, z⟩ := (h.cell i ci qi).some wi
      rw [em, hp] at z; cases z
    · rw [ei, Ab.add_old (old qj), Ab.add_new] at em
      obtain ⟨o, z⟩ := (h.cell j cj qj).some wj
      rw [← em, hp] at z; cases z
    · rw [ei, ej]
/-- a new list at p -/
theorem HR.lst {p : Addr} {ds : List D} {xs : List V} (h : HR G A) (hp : A.H p = none) (r : RepL G A ds xs) :
    HR G (A.add p (.lst ds) (upd A.H p (.lst xs))) ∧ Grow G A (A.add p (.lst ds) (upd A.H p (.lst xs))) ∧ Rep G (A.add p (.lst ds) (upd A.H p (.lst xs))) (.ref A.S.length) (.ref p) := by
  have t : ∀ a ys, SqT G.K A.H a ys → SqT G.K (upd A.H p (.lst xs)) a ys := fun a ys q => sqT_put q fun u e => by rw [hp] at e; cases e
  have g : Grow G A (A.add p (.lst ds) (upd A.H p (.lst xs))) := .add t
  refine ⟨h.add hp t (fun a ys q => fzL_put q fun u e => by rw [hp] at e; cases e) (fun b o e => by rw [upd_ne (ne_of_none e hp)]; exact e) ⟨xs, upd_same, r.mono g⟩, g, ?_, ?_⟩
  · show A.S.length < (A.S ++ [Cl.lst ds]).length
    simp
  · rw [Ab.add_new]
/-- a cell written -/
theorem HR.put {n : Nat} {c c' : Cl} {o u : HO} (h : HR G A) (hn : A.S[n]? = some c) (w : wr c = true) (w' : wr c' = true) (ho : A.H (A.μ n) = some o) (nt : ∀ ys, o ≠ .tup ys ∧ ∀ ob, o ≠ .frz ob (.tup ys)) (nl : ∀ ob ys, o ≠ .frz ob (.lst ys))
    (hc : Grow G A ⟨A.μ, A.S.set n c', upd A.H (A.μ n) u⟩ → CRep G ⟨A.μ, A.S.set n c', upd A.H (A.μ n) u⟩ (A.μ n) c') :
    HR G ⟨A.μ, A.S.set n c', upd A.H (A.μ n) u⟩ ∧ Grow G A ⟨A.μ, A.S.set n c', upd A.H (A.μ n) u⟩ := by
  have g : Grow G A ⟨A.μ, A.S.set n c', upd A.H (A.μ n) u⟩ := ⟨fun _ _ => rfl, by show A.S.length ≤ (A.S.set n c').length; simp, fun a ys q => sqT_put q fun z e => by rw [ho] at e; cases e; exact fun ys => nt ys⟩
  have hlt : n < A.S.length := (List.getElem?_eq_some_iff.mp hn).1
  have cas : ∀ {j : Nat} {e : Cl}, (A.S.set n c')[j]? = some e → (j ≠ n ∧ A.S[j]? = some e) ∨ (j = n ∧ e = c') := fun {j e} q => by
    by_cases hj : j = n
    · subst hj
      rw [List.getElem?_set_self hlt] at q
      exact .inr ⟨rfl, (Option.some.inj q).symm⟩
    · rw [List.getElem?_set_ne (Ne.symm hj)] at q
      exact .inl ⟨hj, q⟩
  refine ⟨⟨fun j e q => ?_, fun i j ci cj qi qj wi wj em => ?_⟩, g⟩
  · rcases cas q with ⟨hj, q⟩ | ⟨ej, ec⟩
    · exact (h.cell j e q).grow g (fun o' we z => rw_at z fun em => hj (h.inj j n e c q hn we w em)) fun xs _ z => fzL_put z fun z e ob => by rw [ho] at e; cases e; exact nl ob xs
    · rw [ej, ec]; exact hc g
  · have qi : (A.S.set n c')[i]? = some ci := qi
    have qj : (A.S.set n c')[j]? = some cj := qj
    rcases cas qi with ⟨hi, qi⟩ | ⟨ei, _⟩ <;> rcases cas qj with ⟨hj, qj⟩ | ⟨ej, _⟩
    · exact h.inj i j ci cj qi qj wi wj em
    · rw [ej] at em ⊢
      exact h.inj i n ci c qi hn wi w em
    · rw [ei] at em ⊢
      exact h.inj n j c cj hn qj w wj em
    · rw [ei, ej]
theorem HR.putL {n : Nat} {ds es : List D} {ys : List V} (h : HR G A) (hn : A.S[n]? = some (.lst ds)) (r : RepL G A es ys) :
    HR G ⟨A.μ, A.S.set n (.lst es), upd A.H (A.μ n) (.lst ys)⟩ ∧ Grow G A ⟨A.μ, A.S.set n (.lst es), upd A.H (A.μ n) (.lst ys)⟩ := by
  obtain ⟨xs, h1, h2⟩ : ∃ xs, A.H (A.μ n) = some (.lst xs) ∧ RepL G A ds xs := h.cell n _ hn
  exact h.put hn rfl rfl h1 (fun zs => ⟨(fun e => by cases e), fun ob e => by cases e⟩) (fun ob zs e => by cases e) fun g => ⟨ys, upd_same, r.mono g⟩
theorem HR.lstAt {n : Nat} {ds : List D} (h : HR G A) (hn : lstAt A.S n = some ds) : A.S[n]? = some (.lst ds) ∧ ∃ xs, A.H (A.μ n) = some (.lst xs) ∧ RepL G A ds xs := by
  unfold Mini.lstAt at hn
  split at hn
  · rename_i q
    cases hn
    exact ⟨q, h.cell n _ q⟩
  · cases hn
theorem HR.seqAt {n : Nat} {ds : List D} (h : HR G A) (hn : seqAt A.S n = some ds) : ∃ xs, SqL G.K A.H (A.μ n) xs ∧ RepL G A ds xs := by
  unfold Mini.seqAt at hn
  split at hn
  · rename_i q
    cases hn
    obtain ⟨xs, h1, h2⟩ : ∃ xs, A.H (A.μ n) = some (.lst xs) ∧ RepL G A ds xs := h.cell n _ q
    exact ⟨xs, .of h1, h2⟩
  · rename_i q
    cases hn
    obtain ⟨xs, h1, h2⟩ : ∃ xs, FzL G.K A.H (A.μ n) xs ∧ RepL G A ds xs := h.cell n _ q
    exact ⟨xs, h1.sq, h2⟩
  · cases hn

/-! ### what is wanted behind a run -/
def Fin (G : Gx) (A : Ab) (Q : VK) (d : D) (S : Sto) : Prop := ∀ μ v H, Grow G A ⟨μ, S, H⟩ → HR G ⟨μ, S, H⟩ → Rep G ⟨μ, S, H⟩ d v → Q v H
theorem Fin.at {A B : Ab} {Q : VK} {d : D} (f : Fin G A Q d B.S) {v : V} (g : Grow G A B) (h : HR G B) (r : Rep G B d v) : Q v B.H := f B.μ v B.H g h r
theorem Fin.grow {Q : VK} {d : D} {S : Sto} (f : Fin G A Q d S) (g : Grow G A B) : Fin G B Q d S := fun μ v H g' h r => f μ v H (g.trans g') h r
def XRep (G : Gx) (A : Ab) (fs : List (Str × D)) (dd : Option Addr) : Prop := (fs = [] ∧ dd = none) ∨ ∃ d vs, dd = some d ∧ A.H d = some (.xd vs) ∧ RepF G A fs vs
def XW (G : Gx) (A : Ab) (W : XK) (c : Nat) (fs : List (Str × D)) (S : Sto) : Prop := ∀ μ H dd, Grow G A ⟨μ, S, H⟩ → HR G ⟨μ, S, H⟩ → XRep G ⟨μ, S, H⟩ fs dd → W (.ref (G.ca c)) dd H
theorem XW.grow {W : XK} {c : Nat} {fs : List (Str × D)} {S : Sto} (f : XW G A W c fs S) (g : Grow G A B) : XW G B W c fs S := fun μ H dd g' h r => f μ H dd (g.trans g') h r
structure ER (G : Gx) (A : Ab) (ρ : Loc) (σ : L2.St) : Prop where
  len : σ.length = ρ.length
  get : ∀ (i : Nat) (d : D), ρ[i]? = some (some d) → ∃ v, σ[i]? = some (some v) ∧ Rep G A d v
theorem ER.mono {ρ : Loc} {σ : L2.St} (g : Grow G A B) (e : ER G A ρ σ) : ER G B ρ σ := ⟨e.len, fun i d q => let ⟨v, h1, h2⟩ := e.get i d q; ⟨v, h1, h2.mono g⟩⟩
theorem ER.set {ρ : Loc} {σ : L2.St} {d : D} {v : V} (e : ER G A ρ σ) (i : Nat) (r : Rep G A d v) : ER G A (ρ.set i (some d)) (σ.set i (some v)) := by
  refine ⟨by simp [e.len], fun j d' q => ?_⟩
  by_cases hj : j = i
  · subst hj
    by_cases hl : j < ρ.length
    · rw [List.getElem?_set_self hl] at q
      cases q
      exact ⟨v, by rw [List.getElem?_set_self (by rw [e.len]; exact hl)], r⟩
    · rw [List.getElem?_eq_none (by simp; omega)] at q; cases q
  · rw [List.getElem?_set_ne (Ne.symm hj)] at q
    obtain ⟨w, h1, h2⟩ := e.get j d' q
    exact ⟨w, by rw [List.getElem?_set_ne (Ne.symm hj)]; exact h1, h2⟩
/-- a run's reading -/
def tR (G : Gx) (W : WX) (r : Loc → Sto → Res D) : TE := fun σ H Q => ∃ A ρ, A.H = H ∧ HR G A ∧ ER G A ρ σ ∧ (r ρ A.S).sat (Fin G A Q) (XW G A fun c d H => W c d σ H)
abbrev tE (G : Gx) (p : Pg) (W : WX) (x : Ex) : TE := tR G W (evE p x)
end Mini
set_option maxHeartbeats 2000000
/-! Mini: the operators keep what the evaluator says. -/
namespace Mini
open PySem PySem.Spec PyProof.Rows L2

variable {G : Gx} {A : Ab} {X : Cx}
def rD2 (G : Gx) (f : D → D → Sto → Res D) : R2 := fun x y H Q => ∃ A d e E, A.H = H ∧ HR G A ∧ Rep G A d x ∧ Rep G A e y ∧ (f d e A.S).sat (Fin G A Q) E
def rD1 (G : Gx) (f : D → Sto → Res D) : V → Hp → VK → Prop := fun x H Q => ∃ A d E, A.H = H ∧ HR G A ∧ Rep G A d x ∧ (f d A.S).sat (Fin G A Q) E
def rDs (G : Gx) (f : List D → Sto → Res D) : List V → Hp → VK → Prop := fun xs H Q => ∃ A ds E, A.H = H ∧ HR G A ∧ RepL G A ds xs ∧ (f ds A.S).sat (Fin G A Q) E
theorem lineN_eq : lineN = sizeLine := by rw [sizeLine_eq]; rfl

theorem Fin.tup {ds : List D} {xs : List V} {Q : VK} {p : Addr} (f : Fin G A Q (.tup ds) A.S) (h : HR G A) (r : RepL G A ds xs) (hp : A.H p = none) : Q (.ref p) (upd A.H p (.tup xs)) :=
  f A.μ _ _ (.lay hp) (h.lay hp) ⟨p, xs, rfl, .of upd_same, r.mono (.lay hp)⟩
theorem Fin.lst {ds : List D} {xs : List V} {Q : VK} {p : Addr} (f : Fin G A Q (.ref A.S.length) (A.S ++ [.lst ds])) (h : HR G A) (r : RepL G A ds xs) (hp : A.H p = none) : Q (.ref p) (upd A.H p (.lst xs)) := by
  obtain ⟨h1, h2, h3⟩ := h.lst hp r
  exact f _ _ _ h2 h1 h3
theorem repL_empty {ds : List D} {xs : List V} (r : RepL G A ds xs) : xs = [] ↔ ds = [] := by
  have := r.length
  constructor
  · intro e
    rw [e] at this
    exact List.eq_nil_of_length_eq_zero this.symm
  · intro e
    rw [e] at this
    exact List.eq_nil_of_length_eq_zero this
theorem OpR.of {f : Value → Value → Sem Value} {r r' : R2} (h : OpR X f r) (k : ∀ x y H Q, r' x y H Q → r x y H Q) : OpR X f r' :=
  fun pins s σ H x y v u Q I rx ry q => h pins s σ H x y v u Q I rx ry (k _ _ _ _ q)

theorem sn_add (hK : X.K = G.K) : OpR X (binaryOp .Add) (rD2 G (binE .add)) := by
  intro pins s σ H x y v u Q I rx ry ⟨A, d, e, E, hH, hr, rd, re, h⟩
  subst hH
  cases d with
  | int i =>
    cases e with
    | int j => exact op_add pins s σ _ x y v u Q I rx ry ⟨i, j, rd, re, Fin.at (show Fin G A Q (.int (i + j)) A.S from h) .refl hr rfl⟩
    | _ => exact (show False from h).elim
  | str a =>
    cases e with
    | str b =>
      have h : (if a.length + b.length ≤ lineN then Res.ok (.str (a ++ b)) A.S else .no).sat (Fin G A Q) E := h
      split at h
      · rename_i hz
        exact op_add_str pins s σ _ x y v u Q I rx ry ⟨a, b, rd, re, by rw [← lineN_eq]; exact hz, Fin.at (show Fin G A Q (.str (a ++ b)) A.S from h) .refl hr rfl⟩
      · exact (show False from h).elim
    | _ => exact (show False from h).elim
  | tup ds =>
    cases e with
    | tup es =>
      have h : (if ds.length + es.length ≤ lineN then Res.ok (.tup (ds ++ es)) A.S else .no).sat (Fin G A Q) E := h
      split at h
      · rename_i hz
        have h : Fin G A Q (.tup (ds ++ es)) A.S := h
        obtain ⟨a, xs, e1, h1, r1⟩ := rd
        obtain ⟨b, ys, e2, h2, r2⟩ := re
        refine op_catA pins s σ _ x y v u Q I rx ry ⟨a, b, xs, ys, e1, e2, by rw [hK]; exact h1, by rw [hK]; exact h2, by rw [r1.length, r2.length, ← lineN_eq]; exact hz, fun z => ?_, fun z z2 => ?_, fun _ _ p hp => ?_⟩
        · have : ds = [] := (repL_empty r1).mp z
          subst this
          exact h.at .refl hr ⟨b, ys, rfl, h2, r2⟩
        · have : es = [] := (repL_empty r2).mp z2
          subst this
          rw [List.append_nil] at h
          exact h.at .refl hr ⟨a, xs, rfl, h1, r1⟩
        · exact h.tup hr (r1.append r2) hp
      · exact (show False from h).elim
    | _ => exact (show False from h).elim
  | ref m =>
    cases e with
    | ref n =>
      have h : (match lstAt A.S m, lstAt A.S n with
        | some xs, some ys => if xs.length + ys.length ≤ lineN then new (.lst (xs ++ ys)) A.S else .no
        | _, _ => .no).sat (Fin G A Q) E := h
      cases q1 : lstAt A.S m with
      | none => rw [q1] at h; exact (show False from h).elim
      | some ds =>
        cases q2 : lstAt A.S n with
        | none => rw [q1, q2] at h; exact (show False from h).elim
        | some es =>
          rw [q1, q2] at h
          dsimp only at h
          split at h
          · rename_i hz
            obtain ⟨_, xs, h1, r1⟩ := hr.lstAt q1
            obtain ⟨_, ys, h2, r2⟩ := hr.lstAt q2
            exact op_cat pins s σ _ x y v u Q I rx ry ⟨_, _, xs, ys, rd.2, re.2, h1, h2, by rw [r1.length, r2.length, ← lineN_eq]; exact hz, fun p hp => Fin.lst h hr (r1.append r2) hp⟩
          · exact (show False from h).elim
    | _ => exact (show False from h).elim
  | _ => exact (show False from h).elim

theorem sn_sub : OpR X (binaryOp .Sub) (rD2 G (binE .sub)) := by
  intro pins s σ H x y v u Q I rx ry ⟨A, d, e, E, hH, hr, rd, re, h⟩
  subst hH
  cases d with
  | int i =>
    cases e with
    | int j => exact op_sub pins s σ _ x y v u Q I rx ry ⟨i, j, rd, re, Fin.at (show Fin G A Q (.int (i - j)) A.S from h) .refl hr rfl⟩
    | _ => exact (show False from h).elim
  | _ => cases e <;> exact (show False from h).elim
theorem sn_mod : OpR X (binaryOp .Mod) (rD2 G (binE .mod)) := by
  intro pins s σ H x y v u Q I rx ry ⟨A, d, e, E, hH, hr, rd, re, h⟩
  subst hH
  cases d with
  | int i =>
    cases e with
    | int j =>
      have h : (if j != 0 then Res.ok (.int (i.fmod j)) A.S else .no).sat (Fin G A Q) E := h
      split at h
      · rename_i hj
        exact op_modN pins s σ _ x y v u Q I rx ry ⟨i, j, rd, re, by simpa using hj, Fin.at (show Fin G A Q (.int (i.fmod j)) A.S from h) .refl hr rfl⟩
      · exact (show False from h).elim
    | _ => exact (show False from h).elim
  | _ => cases e <;> exact (show False from h).elim
theorem op_fdivP : OpR X (binaryOp .FloorDiv) (rI (fun i j => j ≠ 0 ∧ Builtin.divisionGoesByPylong i j = false) fun i j => .int (i.fdiv j)) := opI fun _ _ _ _ _ _ _ hc q => floordiv_int hc.1 q (.inl hc.2)
theorem sn_fdiv : OpR X (binaryOp .FloorDiv) (rD2 G (binE .fdiv)) := by
  intro pins s σ H x y v u Q I rx ry ⟨A, d, e, E, hH, hr, rd, re, h⟩
  subst hH
  cases d with
  | int i =>
    cases e with
    | int j =>
      have h : (if divOk i j then Res.ok (.int (i.fdiv j)) A.S else .no).sat (Fin G A Q) E := h
      split at h
      · rename_i hj
        exact op_fdivP pins s σ _ x y v u Q I rx ry ⟨i, j, rd, re, by simpa [divOk] using hj, Fin.at (show Fin G A Q (.int (i.fdiv j)) A.S from h) .refl hr rfl⟩
      · exact (show False from h).elim
    | _ => exact (show False from h).elim
  | _ => cases e <;> exact (show False from h).elim
theorem sn_pow : OpR X (binaryOp .Pow) (rD2 G (binE .pow)) := by
  intro pins s σ H x y v u Q I rx ry ⟨A, d, e, E, hH, hr, rd, re, h⟩
  subst hH
  cases d with
  | int i =>
    cases e with
    | int j =>
      have h : (if powOk i j then Res.ok (.int (i ^ j.toNat)) A.S else .no).sat (Fin G A Q) E := h
      split at h
      · rename_i hj
        refine op_pow pins s σ _ x y v u Q I rx ry ⟨i, j, rd, re, ?_, Fin.at (show Fin G A Q (.int (i ^ j.toNat)) A.S from h) .refl hr rfl⟩
        unfold powOk at hj
        simp only [Bool.and_eq_true, decide_eq_true_eq] at hj
        exact ⟨hj.1.1, hj.1.2, hj.2⟩
      · exact (show False from h).elim
    | _ => exact (show False from h).elim
  | _ => cases e <;> exact (show False from h).elim
theorem sn_mul (hK : X.K = G.K) : OpR X (binaryOp .Mult) (rD2 G (binE .mul)) := by
  intro pins s σ H x y v u Q I rx ry ⟨A, d, e, E, hH, hr, rd, re, h⟩
  subst hH
  cases d with
  | int i =>
    cases e with
    | int j =>
      have h : (if mulOk i j then Res.ok (.int (i * j)) A.S else .no).sat (Fin G A Q) E := h
      split at h
      · rename_i hj
        exact op_mulX pins s σ _ x y v u Q I rx ry ⟨i, j, rd, re, by simpa [mulOk, CMulX] using hj, Fin.at (show Fin G A Q (.int (i * j)) A.S from h) .refl hr rfl⟩
      · exact (show False from h).elim
    | _ => exact (show False from h).elim
  | tup ds =>
    cases e with
    | int k =>
      have h : (if !ds.isEmpty && decide (2 ≤ k) && decide (k ≤ 1000) && decide (ds.length ≤ 1000) then Res.ok (.tup (List.replicate k.toNat ds).flatten) A.S else .no).sat (Fin G A Q) E := h
      split at h
      · rename_i hc
        simp only [Bool.and_eq_true, decide_eq_true_eq, Bool.not_eq_true', List.isEmpty_eq_false_iff] at hc
        obtain ⟨⟨⟨c1, c2⟩, c3⟩, c4⟩ := hc
        obtain ⟨a, xs, e1, h1, r1⟩ := rd
        exact op_repT pins s σ _ x y v u Q I rx ry ⟨a, k, xs, e1, re, by rw [hK]; exact h1, fun z => c1 ((repL_empty r1).mp z), c2, c3, by rw [r1.length]; exact c4, fun p hp => Fin.tup h hr (r1.rep _) hp⟩
      · exact (show False from h).elim
    | _ => exact (show False from h).elim
  | ref m =>
    cases e with
    | int k =>
      have h : (match lstAt A.S m with
        | some xs => if decide (-(2 ^ 63) ≤ k) && decide (k < 2 ^ 63) && decide (xs.length * k.toNat ≤ lineN) then new (.lst (List.replicate k.toNat xs).flatten) A.S else .no
        | _ => .no).sat (Fin G A Q) E := h
      cases q1 : lstAt A.S m with
      | none => rw [q1] at h; exact (show False from h).elim
      | some ds =>
        rw [q1] at h
        dsimp only at h
        split at h
        · rename_i hc
          simp only [Bool.and_eq_true, decide_eq_true_eq] at hc
          obtain ⟨⟨c1, c2⟩, c3⟩ := hc
          obtain ⟨_, xs, h1, r1⟩ := hr.lstAt q1
          exact op_rep pins s σ _ x y v u Q I rx ry ⟨_, k, xs, rd.2, re, h1, c1, c2, by rw [r1.length, ← lineN_eq]; exact c3, fun p hp => Fin.lst h hr (r1.rep _) hp⟩
        · exact (show False from h).elim
    | _ => exact (show False from h).elim
  | _ => cases e <;> exact (show False from h).elim

/-! ### data -/
theorem leaf_dp {d : D} {v : V} {e : PyData} (h : leafD d = some e) (r : Rep G A d v) : Dp G.K A.H v e := by
  cases d with
  | non => cases h; cases (show v = V.non from r); exact .non
  | bl b => cases h; cases (show v = V.bl b from r); exact .bl b
  | int i => cases h; cases (show v = V.int i from r); exact .int i
  | str x => cases h; cases (show v = V.str x from r); exact .str x
  | tup _ => cases h
  | ref _ => cases h
  | glb _ => cases h
theorem dps_of {f : D → Option PyData} (hf : ∀ d v e, f d = some e → Rep G A d v → Dp G.K A.H v e) : ∀ (ds : List D) (vs : List V) (es : List PyData), mapO f ds = some es → RepL G A ds vs → DpAll G.K A.H vs es
  | [], vs, es, h, r => by
    cases h
    rw [RepL.nil_iff r]
    exact .nil
  | d :: ds, vs, es, h, r => by
    obtain ⟨v, ws, rfl, r1, r2⟩ := RepL.uncons r
    unfold mapO at h
    split at h
    · rename_i a b q1 q2
      cases h
      exact .cons (hf d v a q1 r1) (dps_of hf ds ws b q2 r2)
    · cases h
theorem dp_of (hr : HR G A) : ∀ (n : Nat) (d : D) (v : V) (e : PyData), toD A.S n d = some e → Rep G A d v → Dp G.K A.H v e
  | 0, d, v, e, h, r => leaf_dp h r
  | n + 1, d, v, e, h, r => by
    cases d with
    | tup ds =>
      have h : (mapO (toD A.S n) ds).map PyData.tuple = some e := h
      obtain ⟨es, q, rfl⟩ := Option.map_eq_some_iff.mp h
      obtain ⟨a, xs, rfl, h1, r1⟩ := r
      exact .tup h1 (dps_of (fun d v e => dp_of hr n d v e) ds xs es q r1)
    | ref m =>
      have h : (match seqAt A.S m with
        | some xs => (mapO (toD A.S n) xs).map PyData.list
        | none => none) = some e := h
      cases q : seqAt A.S m with
      | none => rw [q] at h; cases h
      | some ds =>
        rw [q] at h
        obtain ⟨es, q2, rfl⟩ := Option.map_eq_some_iff.mp h
        obtain ⟨xs, h1, r1⟩ := hr.seqAt q
        obtain ⟨_, rfl⟩ := r
        exact .lst h1 (dps_of (fun d v e => dp_of hr n d v e) ds xs es q2 r1)
    | non => exact leaf_dp (d := .non) h r
    | bl k => exact leaf_dp (d := .bl k) h r
    | int k => exact leaf_dp (d := .int k) h r
    | str k => exact leaf_dp (d := .str k) h r
    | glb k => exact leaf_dp (d := .glb k) h r
theorem eqE_dp {d e : D} {x y : V} {b : Bool} (hr : HR G A) (rd : Rep G A d x) (re : Rep G A e y) (h : eqE A.S d e = some b) :
    ∃ f g, Dp G.K A.H x f ∧ Dp G.K A.H y g ∧ SeqAt.shaped f = true ∧ SeqAt.shaped g = true ∧ PyData.eqv f g = b := by
  unfold eqE at h
  split at h
  · rename_i f g q1 q2
    split at h
    · rename_i hs
      rw [Bool.and_eq_true] at hs
      exact ⟨f, g, dp_of hr _ d x f q1 rd, dp_of hr _ e y g q2 re, hs.1, hs.2, Option.some.inj h⟩
    · cases h
  · cases h
def rC2 (G : Gx) (f : D → D → Sto → Option Bool) : R2 := fun x y H Q => ∃ A d e, A.H = H ∧ HR G A ∧ Rep G A d x ∧ Rep G A e y ∧ ∃ b, f d e A.S = some b ∧ Q (.bl b) H
theorem sn_eq (hK : X.K = G.K) (hu : X.A.units + 64 < cLine) : OpR X (compareOp .Eq) (rC2 G (cmpE .eq)) := by
  refine OpR.of (op_eqD hu) fun x y H Q ⟨A, d, e, hH, hr, rd, re, b, h, q⟩ => ?_
  subst hH
  obtain ⟨f, g, d1, d2, s1, s2, rfl⟩ := eqE_dp hr rd re (show eqE A.S d e = some b from h)
  exact ⟨f, g, by rw [hK]; exact d1, by rw [hK]; exact d2, s1, s2, q⟩
theorem sn_ne (hK : X.K = G.K) (hu : X.A.units + 64 < cLine) : OpR X (compareOp .NotEq) (rC2 G (cmpE .ne)) := by
  refine OpR.of (op_neD hu) fun x y H Q ⟨A, d, e, hH, hr, rd, re, b, h, q⟩ => ?_
  subst hH
  obtain ⟨c, hc, rfl⟩ := Option.map_eq_some_iff.mp (show (eqE A.S d e).map (!·) = some b from h)
  obtain ⟨f, g, d1, d2, s1, s2, rfl⟩ := eqE_dp hr rd re hc
  exact ⟨f, g, by rw [hK]; exact d1, by rw [hK]; exact d2, s1, s2, q⟩
theorem inE_dp {d e : D} {x y : V} {b : Bool} (hr : HR G A) (rd : Rep G A d x) (re : Rep G A e y) (h : inE A.S d e = some b) :
    ∃ f gs, Dp G.K A.H x f ∧ Dp G.K A.H y (.list gs) ∧ SeqAt.shaped f = true ∧ SeqAt.shaped (.list gs) = true ∧ (gs.any fun z => PyData.eqv z f) = b := by
  unfold inE at h
  split at h
  · rename_i f gs q1 q2
    split at h
    · rename_i hs
      rw [Bool.and_eq_true] at hs
      exact ⟨f, gs, dp_of hr _ d x f q1 rd, dp_of hr _ e y _ q2 re, hs.1, hs.2, Option.some.inj h⟩
    · cases h
  · cases h
theorem sn_in (hK : X.K = G.K) (hu : X.A.units + 65 < cLine) : OpR X (compareOp .In) (rC2 G (cmpE .isin)) := by
  refine OpR.of (op_inD hu) fun x y H Q ⟨A, d, e, hH, hr, rd, re, b, h, q⟩ => ?_
  subst hH
  obtain ⟨f, g, d1, d2, s1, s2, rfl⟩ := inE_dp hr rd re (show inE A.S d e = some b from h)
  exact ⟨f, g, by rw [hK]; exact d1, by rw [hK]; exact d2, s1, s2, q⟩
theorem sn_notin (hK : X.K = G.K) (hu : X.A.units + 65 < cLine) : OpR X (compareOp .NotIn) (rC2 G (cmpE .notin)) := by
  refine OpR.of (op_notInD hu) fun x y H Q ⟨A, d, e, hH, hr, rd, re, b, h, q⟩ => ?_
  subst hH
  obtain ⟨c, hc, rfl⟩ := Option.map_eq_some_iff.mp (show (inE A.S d e).map (!·) = some b from h)
  obtain ⟨f, g, d1, d2, s1, s2, rfl⟩ := inE_dp hr rd re hc
  exact ⟨f, g, by rw [hK]; exact d1, by rw [hK]; exact d2, s1, s2, q⟩
theorem int_cmp {d e : D} {f : Int → Int → Bool} {b : Bool} (h : (match d, e with
    | .int i, .int j => some (f i j)
    | _, _ => none) = some b) : ∃ i j, d = .int i ∧ e = .int j ∧ f i j = b := by
  cases d <;> cases e <;> first | exact ⟨_, _, rfl, rfl, Option.some.inj h⟩ | cases h
theorem sn_lt : OpR X (compareOp .Lt) (rC2 G (cmpE .lt)) := by
  refine OpR.of op_lt fun x y H Q ⟨A, d, e, hH, hr, rd, re, b, h, q⟩ => ?_
  obtain ⟨i, j, rfl, rfl, rfl⟩ := int_cmp (f := fun i j => decide (i < j)) (b := b) h
  exact ⟨i, j, rd, re, q⟩
theorem sn_le : OpR X (compareOp .LtE) (rC2 G (cmpE .le)) := by
  refine OpR.of op_le fun x y H Q ⟨A, d, e, hH, hr, rd, re, b, h, q⟩ => ?_
  obtain ⟨i, j, rfl, rfl, rfl⟩ := int_cmp (f := fun i j => decide (i ≤ j)) (b := b) h
  exact ⟨i, j, rd, re, q⟩
theorem sn_gt : OpR X (compareOp .Gt) (rC2 G (cmpE .gt)) := by
  refine OpR.of op_gt fun x y H Q ⟨A, d, e, hH, hr, rd, re, b, h, q⟩ => ?_
  obtain ⟨i, j, rfl, rfl, rfl⟩ := int_cmp (f := fun i j => decide (j < i)) (b := b) h
  exact ⟨i, j, rd, re, q⟩
theorem sn_ge : OpR X (compareOp .GtE) (rC2 G (cmpE .ge)) := by
  refine OpR.of op_ge fun x y H Q ⟨A, d, e, hH, hr, rd, re, b, h, q⟩ => ?_
  obtain ⟨i, j, rfl, rfl, rfl⟩ := int_cmp (f := fun i j => decide (j ≤ i)) (b := b) h
  exact ⟨i, j, rd, re, q⟩
theorem isE_cases {d e : D} {b : Bool} {x y : V} (rd : Rep G A d x) (re : Rep G A e y) (h : isE d e = some b) : (y = .non ∧ decide (x = .non) = b) ∨ ∃ k l, x = .bl k ∧ y = .bl l ∧ decide (k = l) = b := by
  cases e with
  | non =>
    refine .inl ⟨re, ?_⟩
    cases d with
    | non => cases (show x = V.non from rd); cases (show some true = some b from h); rfl
    | bl k => cases (show x = V.bl k from rd); cases (show some false = some b from h); rfl
    | int k => cases (show x = V.int k from rd); cases (show some false = some b from h); rfl
    | str k => cases (show x = V.str k from rd); cases (show some false = some b from h); rfl
    | tup k => obtain ⟨a, xs, rfl, _⟩ := rd; cases (show some false = some b from h); rfl
    | ref k => obtain ⟨_, rfl⟩ := rd; cases (show some false = some b from h); rfl
    | glb k => cases h
  | bl l =>
    cases d with
    | bl k => cases (show some (decide (k = l)) = some b from h); exact .inr ⟨k, l, rd, re, rfl⟩
    | _ => cases h
  | _ => cases d <;> cases h
theorem sn_is : OpR X (compareOp .Is) (rC2 G (cmpE .is)) := by
  refine OpR.of (OpR.or op_isN op_isBl) fun x y H Q ⟨A, d, e, hH, hr, rd, re, b, h, q⟩ => ?_
  rcases isE_cases rd re h with ⟨h1, rfl⟩ | ⟨k, l, h1, h2, rfl⟩
  · exact .inl ⟨h1, q⟩
  · exact .inr ⟨k, l, h1, h2, q⟩
theorem sn_isnot : OpR X (compareOp .IsNot) (rC2 G (cmpE .isnot)) := by
  refine OpR.of (OpR.or op_notN op_notBl) fun x y H Q ⟨A, d, e, hH, hr, rd, re, b, h, q⟩ => ?_
  obtain ⟨c, hc, rfl⟩ := Option.map_eq_some_iff.mp (show (isE d e).map (!·) = some b from h)
  rcases isE_cases rd re hc with ⟨h1, rfl⟩ | ⟨k, l, h1, h2, rfl⟩
  · exact .inl ⟨h1, q⟩
  · exact .inr ⟨k, l, h1, h2, q⟩
end Mini
set_option maxHeartbeats 2000000
/-! Mini: functions, methods, subscripts keep what the evaluator says. -/
namespace Mini
open PySem PySem.Spec PyProof.Rows L2

variable {G : Gx} {A : Ab} {X : Cx}
theorem CallR.of {f : Value} {r r' : List V → Hp → VK → Prop} (h : CallR X f r) (k : ∀ xs H Q, r' xs H Q → r xs H Q) : CallR X f r' :=
  fun pins s σ H xs us Q I rx q => h pins s σ H xs us Q I rx (k _ _ _ q)
theorem MtR.of {id : String} {r r' : V → List V → Hp → VK → Prop} (h : MtR X id r) (k : ∀ x xs H Q, r' x xs H Q → r x xs H Q) : MtR X id r' :=
  fun pins s σ H x xs v us Q I rx rs q => h pins s σ H x xs v us Q I rx rs (k _ _ _ _ q)
theorem repL1 {d : D} {xs : List V} (r : RepL G A [d] xs) : ∃ v, xs = [v] ∧ Rep G A d v := by
  obtain ⟨v, vs, rfl, h, h2⟩ := RepL.uncons r
  rw [RepL.nil_iff h2]
  exact ⟨v, rfl, h⟩
theorem repL2 {d e : D} {xs : List V} (r : RepL G A [d, e] xs) : ∃ v w, xs = [v, w] ∧ Rep G A d v ∧ Rep G A e w := by
  obtain ⟨v, vs, rfl, h, h2⟩ := RepL.uncons r
  obtain ⟨w, rfl, h3⟩ := repL1 h2
  exact ⟨v, w, rfl, h, h3⟩
theorem RepL.intsOf : ∀ {ds : List D} {xs : List V} {ns : List Int}, RepL G A ds xs → intsOf ds = some ns → xs = ns.map V.int
  | [], _, _, r, h => by cases h; rw [RepL.nil_iff r]; rfl
  | d :: ds, _, _, r, h => by
    obtain ⟨v, vs, rfl, h1, h2⟩ := RepL.uncons r
    cases d with
    | int i =>
      obtain ⟨ms, e, rfl⟩ := Option.map_eq_some_iff.mp (show (Mini.intsOf ds).map (i :: ·) = some _ from h)
      rw [RepL.intsOf h2 e, show v = V.int i from h1]
      rfl
    | _ => cases h
theorem RepL.boolsOf : ∀ {ds : List D} {xs : List V} {ns : List Bool}, RepL G A ds xs → boolsOf ds = some ns → xs = ns.map V.bl
  | [], _, _, r, h => by cases h; rw [RepL.nil_iff r]; rfl
  | d :: ds, _, _, r, h => by
    obtain ⟨v, vs, rfl, h1, h2⟩ := RepL.uncons r
    cases d with
    | bl i =>
      obtain ⟨ms, e, rfl⟩ := Option.map_eq_some_iff.mp (show (Mini.boolsOf ds).map (i :: ·) = some _ from h)
      rw [RepL.boolsOf h2 e, show v = V.bl i from h1]
      rfl
    | _ => cases h
theorem foldl_max (x : Int) : ∀ xs : List Int, (xs.foldl (fun m y => if y > m then y else m) x) ∈ x :: xs ∧ ∀ y ∈ x :: xs, y ≤ xs.foldl (fun m y => if y > m then y else m) x := by
  intro xs
  induction xs generalizing x with
  | nil => simp
  | cons y ys ih =>
    rw [List.foldl_cons]
    by_cases c : y > x
    · rw [if_pos c]
      obtain ⟨h1, h2⟩ := ih y
      have hy := h2 y (by simp)
      refine ⟨List.mem_cons_of_mem _ h1, fun z hz => ?_⟩
      rcases List.mem_cons.mp hz with e | hz
      · omega
      · exact h2 z hz
    · rw [if_neg c]
      obtain ⟨h1, h2⟩ := ih x
      have hx := h2 x (by simp)
      refine ⟨?_, fun z hz => ?_⟩
      · rcases List.mem_cons.mp h1 with e | h
        · rw [e]; simp
        · simp [h]
      · rcases List.mem_cons.mp hz with e | hz
        · omega
        · rcases List.mem_cons.mp hz with e | hz
          · omega
          · exact h2 z (by simp [hz])
theorem foldl_min (x : Int) : ∀ xs : List Int, (xs.foldl (fun m y => if y < m then y else m) x) ∈ x :: xs ∧ ∀ y ∈ x :: xs, xs.foldl (fun m y => if y < m then y else m) x ≤ y := by
  intro xs
  induction xs generalizing x with
  | nil => simp
  | cons y ys ih =>
    rw [List.foldl_cons]
    by_cases c : y < x
    · rw [if_pos c]
      obtain ⟨h1, h2⟩ := ih y
      have hy := h2 y (by simp)
      refine ⟨List.mem_cons_of_mem _ h1, fun z hz => ?_⟩
      rcases List.mem_cons.mp hz with e | hz
      · omega
      · exact h2 z hz
    · rw [if_neg c]
      obtain ⟨h1, h2⟩ := ih x
      have hx := h2 x (by simp)
      refine ⟨?_, fun z hz => ?_⟩
      · rcases List.mem_cons.mp h1 with e | h
        · rw [e]; simp
        · simp [h]
      · rcases List.mem_cons.mp hz with e | hz
        · omega
        · rcases List.mem_cons.mp hz with e | hz
          · omega
          · exact h2 z (by simp [hz])
/-- a function's arguments, one value -/
theorem rDs1 {g : Fn} {xs : List V} {H : Hp} {Q : VK} (h : rDs G (fnE g) xs H Q) (hne : ∀ ds S, (∀ d, ds ≠ [d]) → fnE g ds S = .no) :
    ∃ A d v E, A.H = H ∧ HR G A ∧ xs = [v] ∧ Rep G A d v ∧ (fnE g [d] A.S).sat (Fin G A Q) E := by
  obtain ⟨A, ds, E, hH, hr, r, h⟩ := h
  by_cases hd : ∃ d, ds = [d]
  · obtain ⟨d, rfl⟩ := hd
    obtain ⟨v, rfl, r1⟩ := repL1 r
    exact ⟨A, d, v, E, hH, hr, rfl, r1, h⟩
  · rw [hne ds A.S fun d e => hd ⟨d, e⟩] at h
    exact (show False from h).elim
theorem seq_bind {S : Sto} {n : Nat} {β : Type} {f : List D → Option β} {b : β} (h : (seqAt S n).bind f = some b) : ∃ ds, seqAt S n = some ds ∧ f ds = some b := Option.bind_eq_some_iff.mp h
theorem sn_len (hK : X.K = G.K) : CallR X (.builtin "len") (rDs G (fnE .len)) := by
  refine CallR.of call_len fun xs H Q hw => ?_
  obtain ⟨A, d, v, E, rfl, hr, rfl, rd, h⟩ := rDs1 hw fun ds S hne => by
    cases ds with
    | nil => rfl
    | cons d r => cases r with
      | nil => exact absurd rfl (hne d)
      | cons _ _ => cases d <;> rfl
  cases d with
  | tup ds =>
    obtain ⟨a, ys, rfl, h1, r1⟩ := rd
    exact ⟨_, ds.length, rfl, .inr ⟨ys, by rw [hK]; exact h1, r1.length.symm⟩, Fin.at (show Fin G A Q (.int ds.length) A.S from h) .refl hr rfl⟩
  | ref n =>
    have h : (match seqAt A.S n with
      | some xs => Res.ok (D.int xs.length) A.S
      | none => .no).sat (Fin G A Q) E := h
    cases q : seqAt A.S n with
    | none => rw [q] at h; exact (show False from h).elim
    | some ds =>
      rw [q] at h
      obtain ⟨ys, h1, r1⟩ := hr.seqAt q
      obtain ⟨_, rfl⟩ := rd
      exact ⟨_, ds.length, rfl, .inl ⟨ys, by rw [hK]; exact h1, r1.length.symm⟩, Fin.at (show Fin G A Q (.int ds.length) A.S from h) .refl hr rfl⟩
  | str x =>
    have h : (if x.length ≤ lineN then Res.ok (D.int x.length) A.S else .no).sat (Fin G A Q) E := h
    cases (show v = V.str x from rd)
    split at h
    · rename_i hz
      exact ⟨_, x.length, rfl, ⟨by rw [← lineN_eq]; exact hz, rfl⟩, Fin.at (show Fin G A Q (.int x.length) A.S from h) .refl hr rfl⟩
    · exact (show False from h).elim
  | _ => exact (show False from h).elim
theorem sn_abs : CallR X (.builtin "abs") (rDs G (fnE .abs)) := by
  refine CallR.of call_abs fun xs H Q hw => ?_
  obtain ⟨A, d, v, E, rfl, hr, rfl, rd, h⟩ := rDs1 hw fun ds S hne => by
    cases ds with
    | nil => rfl
    | cons d r => cases r with
      | nil => exact absurd rfl (hne d)
      | cons _ _ => cases d <;> rfl
  cases d with
  | int i => cases (show v = V.int i from rd); exact ⟨i, rfl, Fin.at (show Fin G A Q (.int (if i < 0 then -i else i)) A.S from h) .refl hr rfl⟩
  | _ => exact (show False from h).elim
theorem sn_int : CallR X (.type "int") (rDs G (fnE .int)) := by
  refine CallR.of call_int1 fun xs H Q hw => ?_
  obtain ⟨A, d, v, E, rfl, hr, rfl, rd, h⟩ := rDs1 hw fun ds S hne => by
    cases ds with
    | nil => rfl
    | cons d r => cases r with
      | nil => exact absurd rfl (hne d)
      | cons _ _ => cases d <;> rfl
  cases d with
  | int i => cases (show v = V.int i from rd); exact .inl ⟨i, rfl, Fin.at (show Fin G A Q (.int i) A.S from h) .refl hr rfl⟩
  | bl b => cases (show v = V.bl b from rd); exact .inr ⟨b, rfl, Fin.at (show Fin G A Q (.int (if b then 1 else 0)) A.S from h) .refl hr rfl⟩
  | _ => exact (show False from h).elim
theorem sn_tuple (hK : X.K = G.K) : CallR X (.type "tuple") (rDs G (fnE .tuple)) := by
  refine CallR.of call_tuple_of fun xs H Q hw => ?_
  obtain ⟨A, d, v, E, rfl, hr, rfl, rd, h⟩ := rDs1 hw fun ds S hne => by
    cases ds with
    | nil => rfl
    | cons d r => cases r with
      | nil => exact absurd rfl (hne d)
      | cons _ _ => cases d <;> rfl
  cases d with
  | tup ds =>
    obtain ⟨a, ys, rfl, h1, r1⟩ := rd
    exact ⟨a, ys, rfl, .inr ⟨by rw [hK]; exact h1, Fin.at (show Fin G A Q (.tup ds) A.S from h) .refl hr ⟨a, ys, rfl, h1, r1⟩⟩⟩
  | ref n =>
    have h : (match seqAt A.S n with
      | some xs => Res.ok (D.tup xs) A.S
      | none => .no).sat (Fin G A Q) E := h
    cases q : seqAt A.S n with
    | none => rw [q] at h; exact (show False from h).elim
    | some ds =>
      rw [q] at h
      obtain ⟨ys, h1, r1⟩ := hr.seqAt q
      obtain ⟨_, rfl⟩ := rd
      exact ⟨_, ys, rfl, .inl ⟨by rw [hK]; exact h1, fun p hp => Fin.tup (show Fin G A Q (.tup ds) A.S from h) hr r1 hp⟩⟩
  | _ => exact (show False from h).elim
theorem sn_list (hK : X.K = G.K) : CallR X (.type "list") (rDs G (fnE .list)) := by
  refine CallR.of call_list_of fun xs H Q hw => ?_
  obtain ⟨A, d, v, E, rfl, hr, rfl, rd, h⟩ := rDs1 hw fun ds S hne => by
    cases ds with
    | nil => rfl
    | cons d r => cases r with
      | nil => exact absurd rfl (hne d)
      | cons _ _ => cases d <;> rfl
  cases d with
  | tup ds =>
    obtain ⟨a, ys, rfl, h1, r1⟩ := rd
    exact ⟨a, ys, rfl, .inr (by rw [hK]; exact h1), fun p hp => Fin.lst h hr r1 hp⟩
  | ref n =>
    have h : (match seqAt A.S n with
      | some xs => new (.lst xs) A.S
      | none => .no).sat (Fin G A Q) E := h
    cases q : seqAt A.S n with
    | none => rw [q] at h; exact (show False from h).elim
    | some ds =>
      rw [q] at h
      obtain ⟨ys, h1, r1⟩ := hr.seqAt q
      obtain ⟨_, rfl⟩ := rd
      exact ⟨_, ys, rfl, .inl (by rw [hK]; exact h1), fun p hp => Fin.lst h hr r1 hp⟩
  | _ => exact (show False from h).elim
theorem sn_sum (hK : X.K = G.K) (hc : X.calm = true) : CallR X (.builtin "sum") (rDs G (fnE .sum)) := by
  refine CallR.of (cr_sum hc) fun xs H Q hw => ?_
  obtain ⟨A, d, v, E, rfl, hr, rfl, rd, h⟩ := rDs1 hw fun ds S hne => by
    cases ds with
    | nil => rfl
    | cons d r => cases r with
      | nil => exact absurd rfl (hne d)
      | cons _ _ => cases d <;> rfl
  cases d with
  | ref n =>
    have h : (match (seqAt A.S n).bind intsOf with
      | some ns => Res.ok (D.int ns.sum) A.S
      | none => .no).sat (Fin G A Q) E := h
    cases q : (seqAt A.S n).bind intsOf with
    | none => rw [q] at h; exact (show False from h).elim
    | some ns =>
      rw [q] at h
      obtain ⟨ds, q1, q2⟩ := seq_bind q
      obtain ⟨ys, h1, r1⟩ := hr.seqAt q1
      obtain ⟨_, rfl⟩ := rd
      rw [r1.intsOf q2] at h1
      exact ⟨_, ns, rfl, by rw [hK]; exact h1, Fin.at (show Fin G A Q (.int ns.sum) A.S from h) .refl hr rfl⟩
  | _ => exact (show False from h).elim
theorem sn_all (hK : X.K = G.K) (hc : X.calm = true) : CallR X (.builtin "all") (rDs G (fnE .all)) := by
  refine CallR.of (cr_all hc) fun xs H Q hw => ?_
  obtain ⟨A, d, v, E, rfl, hr, rfl, rd, h⟩ := rDs1 hw fun ds S hne => by
    cases ds with
    | nil => rfl
    | cons d r => cases r with
      | nil => exact absurd rfl (hne d)
      | cons _ _ => cases d <;> rfl
  cases d with
  | ref n =>
    have h : (match (seqAt A.S n).bind boolsOf with
      | some ns => Res.ok (D.bl (ns.all id)) A.S
      | none => .no).sat (Fin G A Q) E := h
    cases q : (seqAt A.S n).bind boolsOf with
    | none => rw [q] at h; exact (show False from h).elim
    | some ns =>
      rw [q] at h
      obtain ⟨ds, q1, q2⟩ := seq_bind q
      obtain ⟨ys, h1, r1⟩ := hr.seqAt q1
      obtain ⟨_, rfl⟩ := rd
      rw [r1.boolsOf q2] at h1
      exact ⟨_, ns, rfl, by rw [hK]; exact h1, Fin.at (show Fin G A Q (.bl (ns.all id)) A.S from h) .refl hr rfl⟩
  | _ => exact (show False from h).elim
theorem sn_any (hK : X.K = G.K) (hc : X.calm = true) : CallR X (.builtin "any") (rDs G (fnE .any)) := by
  refine CallR.of (cr_any hc) fun xs H Q hw => ?_
  obtain ⟨A, d, v, E, rfl, hr, rfl, rd, h⟩ := rDs1 hw fun ds S hne => by
    cases ds with
    | nil => rfl
    | cons d r => cases r with
      | nil => exact absurd rfl (hne d)
      | cons _ _ => cases d <;> rfl
  cases d with
  | ref n =>
    have h : (match (seqAt A.S n).bind boolsOf with
      | some ns => Res.ok (D.bl (ns.any id)) A.S
      | none => .no).sat (Fin G A Q) E := h
    cases q : (seqAt A.S n).bind boolsOf with
    | none => rw [q] at h; exact (show False from h).elim
    | some ns =>
      rw [q] at h
      obtain ⟨ds, q1, q2⟩ := seq_bind q
      obtain ⟨ys, h1, r1⟩ := hr.seqAt q1
      obtain ⟨_, rfl⟩ := rd
      rw [r1.boolsOf q2] at h1
      exact ⟨_, ns, rfl, by rw [hK]; exact h1, Fin.at (show Fin G A Q (.bl (ns.any id)) A.S from h) .refl hr rfl⟩
  | _ => exact (show False from h).elim
theorem max_list {S : Sto} {n : Nat} {Q : VK} {E : Nat → List (Str × D) → Sto → Prop} {f : List Int → Option Int}
    (h : (match (seqAt S n).bind intsOf with
      | some ns => ofOpt S ((f ns).map D.int)
      | none => .no).sat (Fin G A Q) E) : ∃ ds ns m, seqAt S n = some ds ∧ intsOf ds = some ns ∧ f ns = some m ∧ Fin G A Q (.int m) S := by
  cases q : (seqAt S n).bind intsOf with
  | none => rw [q] at h; exact (show False from h).elim
  | some ns =>
    rw [q] at h
    obtain ⟨ds, q1, q2⟩ := seq_bind q
    dsimp only at h
    cases q3 : f ns with
    | none => rw [q3] at h; exact (show False from h).elim
    | some m => rw [q3] at h; exact ⟨ds, ns, m, q1, q2, q3, h⟩
theorem two_or_one {xs : List V} {Q : VK} {E : Nat → List (Str × D) → Sto → Prop} {g : Fn} {ds : List D} (r : RepL G A ds xs) (h : (fnE g ds A.S).sat (Fin G A Q) E)
    (hne : ∀ ds S, (∀ i j, ds ≠ [.int i, .int j]) → (∀ n, ds ≠ [.ref n]) → fnE g ds S = .no) :
    (∃ i j, ds = [.int i, .int j] ∧ xs = [.int i, .int j]) ∨ ∃ n, ds = [.ref n] ∧ n < A.S.length ∧ xs = [.ref (A.μ n)] := by
  by_cases h1 : ∃ i j, ds = [.int i, .int j]
  · obtain ⟨i, j, rfl⟩ := h1
    obtain ⟨v, w, rfl, r1, r2⟩ := repL2 r
    cases (show v = V.int i from r1)
    cases (show w = V.int j from r2)
    exact .inl ⟨i, j, rfl, rfl⟩
  · by_cases h2 : ∃ n, ds = [.ref n]
    · obtain ⟨n, rfl⟩ := h2
      obtain ⟨v, rfl, r1⟩ := repL1 r
      obtain ⟨hn, rfl⟩ := r1
      exact .inr ⟨n, rfl, hn, rfl⟩
    · rw [hne ds A.S (fun i j e => h1 ⟨i, j, e⟩) fun n e => h2 ⟨n, e⟩] at h
      exact (show False from h).elim
theorem sn_max (hK : X.K = G.K) (hc : X.calm = true) : CallR X (.builtin "max") (rDs G (fnE .max)) := by
  refine CallR.of (CallR.or (call_max2 hc) (cr_max hc)) fun xs H Q hw => ?_
  obtain ⟨A, ds, E, rfl, hr, r, h⟩ := hw
  rcases two_or_one r h (fun ds S h1 h2 => by
    match ds with
    | [] => rfl
    | [.ref n] => exact absurd rfl (h2 n)
    | [.int i, .int j] => exact absurd rfl (h1 i j)
    | [.non] | [.bl _] | [.int _] | [.str _] | [.tup _] | [.glb _] => rfl
    | .non :: _ :: _ | .bl _ :: _ :: _ | .str _ :: _ :: _ | .tup _ :: _ :: _ | .glb _ :: _ :: _ | .ref _ :: _ :: _ => rfl
    | .int _ :: .non :: _ | .int _ :: .bl _ :: _ | .int _ :: .str _ :: _ | .int _ :: .tup _ :: _ | .int _ :: .glb _ :: _ | .int _ :: .ref _ :: _ => rfl
    | .int _ :: .int _ :: _ :: _ => rfl) with ⟨i, j, rfl, rfl⟩ | ⟨n, rfl, hn, rfl⟩
  · exact .inl ⟨i, j, rfl, Fin.at (show Fin G A Q (.int (if j > i then j else i)) A.S from h) .refl hr rfl⟩
  · obtain ⟨ds, ns, m, q1, q2, q3, hf⟩ := max_list (f := maxL) h
    obtain ⟨ys, h1, r1⟩ := hr.seqAt q1
    rw [r1.intsOf q2] at h1
    cases ns with
    | nil => cases q3
    | cons x ns =>
      cases q3
      obtain ⟨m1, m2⟩ := foldl_max x ns
      refine .inr ⟨_, x :: ns, rfl, by rw [hK]; exact h1, by simp, fun k hk hl => ?_⟩
      have : k = ns.foldl (fun m y => if y > m then y else m) x := Int.le_antisymm (m2 k hk) (hl _ m1)
      rw [this]
      exact hf.at .refl hr rfl
theorem sn_min (hK : X.K = G.K) (hc : X.calm = true) : CallR X (.builtin "min") (rDs G (fnE .min)) := by
  refine CallR.of (CallR.or (call_min2 hc) (cr_min hc)) fun xs H Q hw => ?_
  obtain ⟨A, ds, E, rfl, hr, r, h⟩ := hw
  rcases two_or_one r h (fun ds S h1 h2 => by
    match ds with
    | [] => rfl
    | [.ref n] => exact absurd rfl (h2 n)
    | [.int i, .int j] => exact absurd rfl (h1 i j)
    | [.non] | [.bl _] | [.int _] | [.str _] | [.tup _] | [.glb _] => rfl
    | .non :: _ :: _ | .bl _ :: _ :: _ | .str _ :: _ :: _ | .tup _ :: _ :: _ | .glb _ :: _ :: _ | .ref _ :: _ :: _ => rfl
    | .int _ :: .non :: _ | .int _ :: .bl _ :: _ | .int _ :: .str _ :: _ | .int _ :: .tup _ :: _ | .int _ :: .glb _ :: _ | .int _ :: .ref _ :: _ => rfl
    | .int _ :: .int _ :: _ :: _ => rfl) with ⟨i, j, rfl, rfl⟩ | ⟨n, rfl, hn, rfl⟩
  · exact .inl ⟨i, j, rfl, Fin.at (show Fin G A Q (.int (if j < i then j else i)) A.S from h) .refl hr rfl⟩
  · obtain ⟨ds, ns, m, q1, q2, q3, hf⟩ := max_list (f := minL) h
    obtain ⟨ys, h1, r1⟩ := hr.seqAt q1
    rw [r1.intsOf q2] at h1
    cases ns with
    | nil => cases q3
    | cons x ns =>
      cases q3
      obtain ⟨m1, m2⟩ := foldl_min x ns
      refine .inr ⟨_, x :: ns, rfl, by rw [hK]; exact h1, by simp, fun k hk hl => ?_⟩
      have : k = ns.foldl (fun m y => if y < m then y else m) x := Int.le_antisymm (hl _ m1) (m2 k hk)
      rw [this]
      exact hf.at .refl hr rfl
theorem two_ints {xs : List V} {Q : VK} {E : Nat → List (Str × D) → Sto → Prop} {g : Fn} {ds : List D} (r : RepL G A ds xs) (h : (fnE g ds A.S).sat (Fin G A Q) E)
    (hne : ∀ ds S, (∀ i j, ds ≠ [.int i, .int j]) → fnE g ds S = .no) : ∃ i j, ds = [.int i, .int j] ∧ xs = [.int i, .int j] := by
  by_cases h1 : ∃ i j, ds = [.int i, .int j]
  · obtain ⟨i, j, rfl⟩ := h1
    obtain ⟨v, w, rfl, r1, r2⟩ := repL2 r
    cases (show v = V.int i from r1)
    cases (show w = V.int j from r2)
    exact ⟨i, j, rfl, rfl⟩
  · rw [hne ds A.S (fun i j e => h1 ⟨i, j, e⟩)] at h
    exact (show False from h).elim
theorem sn_gcd : CallR X (.builtin "math.gcd") (rDs G (fnE .gcd)) := by
  refine CallR.of cr_gcd fun xs H Q hw => ?_
  obtain ⟨A, ds, E, rfl, hr, r, h⟩ := hw
  obtain ⟨i, j, rfl, rfl⟩ := two_ints r h (fun ds S h1 => by
    match ds with
    | [] => rfl
    | [_] => rename_i d; cases d <;> rfl
    | [.int i, .int j] => exact absurd rfl (h1 i j)
    | .non :: _ :: _ | .bl _ :: _ :: _ | .str _ :: _ :: _ | .tup _ :: _ :: _ | .glb _ :: _ :: _ | .ref _ :: _ :: _ => rfl
    | .int _ :: .non :: _ | .int _ :: .bl _ :: _ | .int _ :: .str _ :: _ | .int _ :: .tup _ :: _ | .int _ :: .glb _ :: _ | .int _ :: .ref _ :: _ => rfl
    | .int _ :: .int _ :: _ :: _ => rfl)
  exact ⟨i, j, rfl, Fin.at (show Fin G A Q (.int ((Nat.gcd i.natAbs j.natAbs : Nat) : Int)) A.S from h) .refl hr rfl⟩
theorem sn_divmod : CallR X (.builtin "divmod") (rDs G (fnE .divmod)) := by
  refine CallR.of call_divmod fun xs H Q hw => ?_
  obtain ⟨A, ds, E, rfl, hr, r, h⟩ := hw
  obtain ⟨i, j, rfl, rfl⟩ := two_ints r h (fun ds S h1 => by
    match ds with
    | [] => rfl
    | [_] => rename_i d; cases d <;> rfl
    | [.int i, .int j] => exact absurd rfl (h1 i j)
    | .non :: _ :: _ | .bl _ :: _ :: _ | .str _ :: _ :: _ | .tup _ :: _ :: _ | .glb _ :: _ :: _ | .ref _ :: _ :: _ => rfl
    | .int _ :: .non :: _ | .int _ :: .bl _ :: _ | .int _ :: .str _ :: _ | .int _ :: .tup _ :: _ | .int _ :: .glb _ :: _ | .int _ :: .ref _ :: _ => rfl
    | .int _ :: .int _ :: _ :: _ => rfl)
  have h : (if decide (0 < j) && decide (j < 1073741824) then Res.ok (D.tup [.int (i / j), .int (i % j)]) A.S else .no).sat (Fin G A Q) E := h
  split at h
  · rename_i hc
    simp only [Bool.and_eq_true, decide_eq_true_eq] at hc
    exact ⟨i, j, rfl, hc, fun p hp => Fin.tup h hr (.cons rfl (.cons rfl .nil)) hp⟩
  · exact (show False from h).elim
theorem sn_str : CallR X (.type "str") (rDs G (fnE .str)) := by
  refine CallR.of (CallR.or call_str_int SkE.call_str_str) fun xs H Q hw => ?_
  obtain ⟨A, d, v, E, rfl, hr, rfl, rd, h⟩ := rDs1 hw fun ds S hne => by
    cases ds with
    | nil => rfl
    | cons d r => cases r with
      | nil => exact absurd rfl (hne d)
      | cons _ _ => cases d <;> rfl
  cases d with
  | int i =>
    cases (show v = V.int i from rd)
    have h : (if i.natAbs.log2 < 1920 then Res.ok (D.str (Str.ofString (toString i))) A.S else .no).sat (Fin G A Q) E := h
    split at h
    · rename_i hz
      exact .inl ⟨i, rfl, hz, Fin.at (show Fin G A Q (.str (Str.ofString (toString i))) A.S from h) .refl hr rfl⟩
    · exact (show False from h).elim
  | str x => cases (show v = V.str x from rd); exact .inr ⟨x, rfl, Fin.at (show Fin G A Q (.str x) A.S from h) .refl hr rfl⟩
  | _ => exact (show False from h).elim

/-! ### truth -/
theorem truV_of {d : D} {x : V} {b : Bool} (hr : HR G A) (rd : Rep G A d x) (ht : truth A.S d = some b) : TruV G.K x A.H b := by
  cases d with
  | non => cases (show x = V.non from rd); cases (show some false = some b from ht); rfl
  | bl k => cases (show x = V.bl k from rd); cases (show some k = some b from ht); rfl
  | int i => cases (show x = V.int i from rd); cases (show some (i != 0) = some b from ht); rfl
  | str y =>
    cases (show x = V.str y from rd)
    have ht : (if y.length ≤ lineN then some (y.length != 0) else none) = some b := ht
    split at ht
    · rename_i hz
      cases ht
      refine ⟨by rw [← lineN_eq]; exact hz, ?_⟩
      rw [Bool.eq_iff_iff]
      simp only [bne_iff_ne, ne_eq]
      omega
    · cases ht
  | tup ds =>
    obtain ⟨a, xs, rfl, h1, r1⟩ := rd
    cases (show some (!ds.isEmpty) = some b from ht)
    refine .inr (.inl ⟨xs, h1, ?_⟩)
    cases ds <;> cases xs <;> first | rfl | (have := r1.length; simp at this)
  | ref n =>
    obtain ⟨_, rfl⟩ := rd
    have ht : (match seqAt A.S n with
      | some xs => some (!xs.isEmpty)
      | none => none) = some b := ht
    cases qs : seqAt A.S n with
    | none => rw [qs] at ht; cases ht
    | some ds =>
      rw [qs] at ht
      cases ht
      obtain ⟨xs, h1, r1⟩ := hr.seqAt qs
      refine .inl ⟨xs, h1, ?_⟩
      cases ds <;> cases xs <;> first | rfl | (have := r1.length; simp at this)
  | glb k => cases ht

/-! ### subscripts, slices -/
theorem ixN_len {n m : Nat} {i : Int} (h : n = m) : ixN n i = ixN m i := by rw [h]
theorem RepL.atI {ds : List D} {xs : List V} {i : Int} {d : D} (r : RepL G A ds xs) (h : L2.atI ds i = some d) : ∃ v, L2.atI xs i = some v ∧ Rep G A d v := by
  unfold L2.atI at h ⊢
  obtain ⟨j, h1, h2⟩ := Option.bind_eq_some_iff.mp h
  obtain ⟨v, h3, h4⟩ := r.get h2
  exact ⟨v, by rw [r.length, h1]; exact h3, h4⟩
theorem sn_ix (hK : X.K = G.K) : IxR X (fun x y H Q => ∃ A d e b, A.H = H ∧ HR G A ∧ Rep G A d x ∧ Rep G A e y ∧ ixE A.S d e = some b ∧ Fin G A Q b A.S) := by
  intro value slice pins s σ H x y v u Q I rx ry ⟨A, d, e, b, hH, hr, rd, re, hx, hf⟩ hs
  subst hH
  refine (ix_list.or ix_tup) value slice pins s σ _ x y v u Q I rx ry ?_ hs
  cases e with
  | int i =>
    cases d with
    | tup ds =>
      obtain ⟨a, xs, rfl, h1, r1⟩ := rd
      obtain ⟨w, h2, h3⟩ := r1.atI (show L2.atI ds i = some b from hx)
      exact .inr ⟨a, xs, i, w, rfl, re, by rw [hK]; exact h1, h2, hf.at .refl hr h3⟩
    | ref n =>
      obtain ⟨_, rfl⟩ := rd
      obtain ⟨ds, q1, q2⟩ := seq_bind (show (seqAt A.S n).bind (fun xs => L2.atI xs i) = some b from hx)
      obtain ⟨xs, h1, r1⟩ := hr.seqAt q1
      obtain ⟨w, h2, h3⟩ := r1.atI q2
      exact .inl ⟨_, xs, i, w, rfl, re, by rw [hK]; exact h1, h2, hf.at .refl hr h3⟩
    | _ => cases hx
  | _ => cases d <;> cases hx
theorem RepL.cut {ds : List D} {xs : List V} (r : RepL G A ds xs) (lo hi : Option Int) : RepL G A (cutD ds lo hi) (cutV xs lo hi) := by
  unfold cutD cutV
  rw [r.length]
  exact (r.drop _).take _
theorem sn_sl (hK : X.K = G.K) : SlR X (fun x l h H Q => ∃ A d E, A.H = H ∧ HR G A ∧ Rep G A d x ∧ (slE d l h A.S).sat (Fin G A Q) E) := by
  intro pins s σ H x v vl vu lo hi sl Q I rx hs pl pu ⟨A, d, E, hH, hr, rd, h⟩
  subst hH
  refine (sl_list.or sl_tupA) pins s σ _ x v vl vu lo hi sl Q I rx hs pl pu ?_
  unfold slE at h
  cases d with
  | tup ds =>
    obtain ⟨a, xs, rfl, h1, r1⟩ := rd
    have h : Fin G A Q (.tup (cutD ds lo hi)) A.S := h
    refine .inr ⟨a, xs, rfl, by rw [hK]; exact h1, fun ⟨z1, z2⟩ => ?_, fun _ p hp => Fin.tup h hr (r1.cut lo hi) hp⟩
    have : cutD ds lo hi = ds := by
      unfold cutD
      rw [r1.length] at z1 z2
      rw [z1, z2]
      simp
    rw [this] at h
    exact h.at .refl hr ⟨a, xs, rfl, h1, r1⟩
  | ref n =>
    obtain ⟨_, rfl⟩ := rd
    dsimp only at h
    cases q : seqAt A.S n with
    | none => rw [q] at h; exact (show False from h).elim
    | some ds =>
      rw [q] at h
      obtain ⟨xs, h1, r1⟩ := hr.seqAt q
      exact .inl ⟨_, xs, rfl, by rw [hK]; exact h1, fun p hp => Fin.lst h hr (r1.cut lo hi) hp⟩
  | _ => exact (show False from h).elim

/-! ### methods -/
def rMe (G : Gx) (m : Me) : V → List V → Hp → VK → Prop := fun x xs H Q => ∃ A d ds E, A.H = H ∧ HR G A ∧ Rep G A d x ∧ RepL G A ds xs ∧ (meE m d ds A.S).sat (Fin G A Q) E
theorem me_ref {m : Me} {x : V} {xs : List V} {H : Hp} {Q : VK} (h : rMe G m x xs H Q) : ∃ A n ds E, A.H = H ∧ HR G A ∧ n < A.S.length ∧ x = .ref (A.μ n) ∧ RepL G A ds xs ∧ (meE m (.ref n) ds A.S).sat (Fin G A Q) E := by
  obtain ⟨A, d, ds, E, hH, hr, rd, rs, h⟩ := h
  cases d with
  | ref n => exact ⟨A, n, ds, E, hH, hr, rd.1, rd.2, rs, h⟩
  | _ => cases m <;> exact (show False from h).elim
theorem Fin.put {n : Nat} {ds es : List D} {ys : List V} {Q : VK} {d : D} {v : V} (f : Fin G A Q d (A.S.set n (.lst es))) (h : HR G A) (hn : A.S[n]? = some (.lst ds)) (r : RepL G A es ys) (rv : Rep G A d v) : Q v (upd A.H (A.μ n) (.lst ys)) := by
  obtain ⟨h1, h2⟩ := h.putL hn r
  exact f _ _ _ h2 h1 (rv.mono h2)
theorem sn_append : MtR X "list.append" (rMe G .append) := by
  refine MtR.of (X := X) mt_append fun x xs H Q hw => ?_
  obtain ⟨A, n, ds, E, rfl, hr, hn, rfl, rs, h⟩ := me_ref hw
  match ds, rs, h with
  | [d], rs, h =>
    obtain ⟨v, rfl, rv⟩ := repL1 rs
    have h : (match lstAt A.S n with
      | some xs => if xs.length < lineN then Res.ok D.non (A.S.set n (.lst (xs ++ [d]))) else .no
      | none => .no).sat (Fin G A Q) E := h
    cases q : lstAt A.S n with
    | none => rw [q] at h; exact (show False from h).elim
    | some es =>
      rw [q] at h
      obtain ⟨hS, ys, h1, r1⟩ := hr.lstAt q
      dsimp only at h
      split at h
      · rename_i hz
        exact ⟨_, ys, v, rfl, rfl, h1, by rw [r1.length, ← lineN_eq]; exact hz, Fin.put (v := V.non) h hr hS (r1.append (.cons rv .nil)) rfl⟩
      · exact (show False from h).elim
  | [], _, h => exact (show False from h).elim
  | _ :: _ :: _, _, h => exact (show False from h).elim
theorem sn_extend : MtR X "list.extend" (rMe G .extend) := by
  refine MtR.of (X := X) mt_extend fun x xs H Q hw => ?_
  obtain ⟨A, n, ds, E, rfl, hr, hn, rfl, rs, h⟩ := me_ref hw
  match ds, rs, h with
  | [.ref k], rs, h =>
    obtain ⟨v, rfl, rv⟩ := repL1 rs
    obtain ⟨_, rfl⟩ := rv
    have h : (match lstAt A.S n, lstAt A.S k with
      | some xs, some ys => if xs.length + ys.length ≤ lineN then Res.ok D.non (A.S.set n (.lst (xs ++ ys))) else .no
      | _, _ => .no).sat (Fin G A Q) E := h
    cases q : lstAt A.S n with
    | none => rw [q] at h; exact (show False from h).elim
    | some es =>
      cases q2 : lstAt A.S k with
      | none => rw [q, q2] at h; exact (show False from h).elim
      | some fs =>
        rw [q, q2] at h
        obtain ⟨hS, ys, h1, r1⟩ := hr.lstAt q
        obtain ⟨_, zs, h2, r2⟩ := hr.lstAt q2
        dsimp only at h
        split at h
        · rename_i hz
          exact ⟨_, _, ys, zs, rfl, rfl, h1, h2, by rw [r1.length, r2.length, ← lineN_eq]; exact hz, Fin.put (v := V.non) h hr hS (r1.append r2) rfl⟩
        · exact (show False from h).elim
  | [], _, h => exact (show False from h).elim
  | [.non], _, h | [.bl _], _, h | [.int _], _, h | [.str _], _, h | [.tup _], _, h | [.glb _], _, h => exact (show False from h).elim
  | d :: _ :: _, _, h => cases d <;> exact (show False from h).elim
theorem sn_pop : MtR X "list.pop" (rMe G .pop) := by
  refine MtR.of (X := X) mt_pop fun x xs H Q hw => ?_
  obtain ⟨A, n, ds, E, rfl, hr, hn, rfl, rs, h⟩ := me_ref hw
  match ds, rs, h with
  | [], rs, h =>
    cases RepL.nil_iff rs
    have h : (match lstAt A.S n with
      | some xs => match xs[xs.length - 1]? with
        | some d => Res.ok d (A.S.set n (.lst xs.dropLast))
        | none => .no
      | none => .no).sat (Fin G A Q) E := h
    cases q : lstAt A.S n with
    | none => rw [q] at h; exact (show False from h).elim
    | some es =>
      rw [q] at h
      obtain ⟨hS, ys, h1, r1⟩ := hr.lstAt q
      dsimp only at h
      cases q2 : es[es.length - 1]? with
      | none => rw [q2] at h; exact (show False from h).elim
      | some d =>
        rw [q2] at h
        obtain ⟨v, h2, rv⟩ := r1.get q2
        exact ⟨_, ys, v, rfl, rfl, h1, by rw [r1.length]; exact h2, Fin.put h hr hS r1.dropLast rv⟩
  | _ :: _, _, h => exact (show False from h).elim
end Mini
set_option maxHeartbeats 2000000
/-! Mini: reversed slices, isinstance, repr, stores into lists. -/
namespace Mini
open PySem PySem.Spec PyProof.Rows L2
open PySem.Builtin.Slice in
theorem back_bounds (n : Nat) : sliceAdjust none none (-1) (n : Int) = ((n : Int) - 1, -1) := by
  unfold sliceAdjust
  have h : ((-1 : Int) < 0) := by omega
  simp only [h, if_true]
open PySem.Builtin.Slice in
theorem back_places (n : Nat) : slicePlaces ((n : Int) - 1) (-1) (-1) = n := by
  unfold slicePlaces
  have h : ¬ ((-1 : Int) > 0) := by omega
  simp only [h, if_false]
  by_cases c : (n : Int) - 1 > -1
  · simp only [c, if_true, show (- -1 : Int) = 1 by decide, Int.ediv_one]; omega
  · simp only [c, if_false]; omega
theorem back_pick (xs : Array Value) : ((List.range xs.size).filterMap fun (k : Nat) => xs[(((xs.size : Int) - 1) + (k : Int) * -1).toNat]?).toArray = xs.toList.reverse.toArray := by
  have e : (fun (k : Nat) => xs[(((xs.size : Int) - 1) + (k : Int) * -1).toNat]?) = (xs[·]?) ∘ fun k => xs.size - 1 - k := by
    funext k
    have e1 : (((xs.size : Int) - 1) + (k : Int) * -1).toNat = xs.size - 1 - k := by omega
    show _ = xs[xs.size - 1 - k]?
    rw [e1]
  rw [e, ← List.filterMap_map, PySem.W.krv_range, List.filterMap_reverse, PySem.W.krv_all]
section
variable {prog : Program} {w : World} {A : Around} {E : Value → Shared → Prop} {s : Shared}
theorem applied_back {sl : Addr} {vl vu vs : Value} {n : Nat} {Q : Int × Int × Nat → Shared → Prop} (hs : s.heap.IsSliceOf sl vl vu vs) (pl : IsPart vl none) (pu : IsPart vu none) (ps : IsPart vs (some (-1)))
    (h : Q ((n : Int) - 1, -1, n) s) : wpAny (model prog w) A (Builtin.Slice.sliceApplied (.ref sl) (pure (n : Int))) Q E s := by
  obtain ⟨ob, h1, h2, h3⟩ := id hs
  unfold Builtin.Slice.sliceApplied Builtin.Slice.sliceFields
  refine wpAny_bind (wpAny_bind (wpAny_field h1 h3 (x := vl) rfl (wpAny_bind (wpAny_field h1 h3 (x := vu) rfl (wpAny_bind (wpAny_field h1 h3 (x := vs) rfl (wpAny_pure ?_)))))))
  refine wpAny_bind (HT.slicePart_ ps ?_)
  show wpAny _ _ (if ((-1 : Int) == 0) = true then _ else _) _ _ s
  rw [if_neg (show ¬ ((-1 : Int) == 0) = true by decide)]
  refine wpAny_bind (HT.slicePart_ pl (wpAny_bind (HT.slicePart_ pu (wpAny_bind (wpAny_pure ?_)))))
  show wpAny _ _ (match Builtin.Slice.sliceAdjust none none (-1) (n : Int) with | (a, b) => pure (a, (-1 : Int), Builtin.Slice.slicePlaces a b (-1))) _ _ s
  rw [back_bounds n]
  show wpAny _ _ (pure ((n : Int) - 1, (-1 : Int), Builtin.Slice.slicePlaces ((n : Int) - 1) (-1) (-1))) _ _ s
  rw [back_places]
  exact wpAny_pure h
theorem tuple_back {t sl : Addr} {items : Array Value} {vl vu vs : Value} {Q : Value → Shared → Prop} (ht : IsTup s.heap t items) (hs : s.heap.IsSliceOf sl vl vu vs) (pl : IsPart vl none) (pu : IsPart vu none) (ps : IsPart vs (some (-1)))
    (h : Q (.ref s.heap.objs.size) { s with heap := s.heap.push { cls := .type "tuple", data := .seq items.toList.reverse.toArray } }) (hz : items.size ≤ sizeLine) :
    wpAny (model prog w) A (getItem (.ref t) (.ref sl)) Q E s := by
  have hok : sizeOk (.seq items.toList.reverse.toArray) := by
    show items.toList.reverse.toArray.size ≤ sizeLine
    rw [List.size_toArray, List.length_reverse, Array.length_toList]; exact hz
  have hT : s.TypeIs (.ref sl) "slice" := let ⟨ob, h1, h2, _⟩ := id hs; ⟨ob, h1, h2⟩
  unfold getItem
  try with_reducible refine wpAny_holding ?_
  first | refine wpAny_bind (wpAny_pure ?_) | skip
  refine wpAny_bind (wpAny_sequenceKey ht.typeIs (by decide) ?_)
  refine wpAny_bind (wpAny_callSpecial?_slot (name := Str.ofString "__getitem__") ht.typeIs slot_tuple_getitem (wpAny_call_entry slot_tuple_getitem ht.typeIs entry_tuple_getitem ?_ (args_tuple_getitem _ _)))
  show wpAny _ _ (Builtin.Tuple.tupleItemsOf (.ref t) >>= _) _ _ s
  refine wpAny_bind (tupleItemsOf_ ht (wpAny_bind (wpAny_typeOf hT ?_)))
  rw [if_pos (by decide)]
  refine wpAny_bind (applied_back hs pl pu ps ?_)
  have no : ¬ ((((items.size : Int) - 1) == 0 && (-1 : Int) == 1 && items.size == items.size) = true) := by
    rw [show ((-1 : Int) == 1) = false by decide, Bool.and_false, Bool.false_and]
    exact Bool.false_ne_true
  show wpAny _ _ (if (((items.size : Int) - 1) == 0 && (-1 : Int) == 1 && items.size == items.size) = true then _ else _) _ _ s
  rw [if_neg no, back_pick]
  first
    | exact wpAny_bind (m := Builtin.Tuple.tupleExact _) (wpAny_newObj_type (wpAny_pure ⟨_, rfl, wpAny_pure h⟩) hok)
    | exact wpAny_bind (m := Builtin.Tuple.tupleExact _) (wpAny_newObj_type (wpAny_bind (wpAny_pure (wpAny_pure ⟨_, rfl, wpAny_pure h⟩))) hok)
    | exact wpAny_bind (wpAny_bind (m := Builtin.Tuple.tupleExact _) (wpAny_newObj_type (wpAny_pure (wpAny_pure ⟨_, rfl, wpAny_pure h⟩)) hok))
    | exact wpAny_bind (wpAny_bind (m := Builtin.Tuple.tupleExact _) (wpAny_newObj_type (wpAny_pure ⟨_, rfl, wpAny_pure h⟩) hok))
end
variable {G : Gx} {A : Ab} {X : Cx}
def tRevT (K : PySem.W.Frag) (te : TE) : TE := fun σ H Q => te σ H fun x H1 => ∃ a xs, x = .ref a ∧ SqT K H1 a xs ∧ ∀ p, H1 p = none → Q (.ref p) (upd H1 p (.tup xs.reverse))
/-- the slice [::-1]: its object behind the base's -/
theorem slice_back {e : Expr} {te : TE} {k : Nat} {p1 p2 p3 pos : Pos} {R : V → Hp → VK → Prop} (he : PE X e te)
    (tail : ∀ (pins : List (Addr × Obj)) (s : Shared) (σ : L2.St) (H : Hp) (x : V) (v vl vu vs : Value) (sl : Addr) (Q : VK), Inv X pins σ H s → RelV x v → s.heap.IsSliceOf sl vl vu vs → IsPart vl none → IsPart vu none → IsPart vs (some (-1)) → R x H Q →
      wpAny (model X.prog X.w) X.A (subscriptTail e (.Slice none none (some (.UnaryOp .USub (.Constant (.int 1) k p1) p2)) p3) v (.ref sl)) (EP X pins σ Q) X.xe s) :
    PE X (.Subscript e (.Slice none none (some (.UnaryOp .USub (.Constant (.int 1) k p1) p2)) p3) pos) (fun σ H Q => te σ H fun x H1 => R x H1 Q) := by
  refine ⟨fun pins s σ H Q I h => Subscript_ (thn (he.run pins s σ H _ I h) fun v s1 ⟨x, H1, I1, r1, q1⟩ => ?_)⟩
  have hst : PO X (some (.UnaryOp .USub (.Constant (.int 1) k p1) p2)) (tPart (tUn (rU fun i => .int (-i)) (tC (.int 1)))) := po_some (pe_un un_neg pe_int)
  refine wpAny_Slice (thn (po_none.run pins s1 σ H1 (fun o H2 => o = none ∧ H2 = H1) I1 ⟨rfl, rfl⟩) fun vl s2 ⟨l, H2, I2, pl, el, e2⟩ => ?_)
  subst el e2
  refine thn (po_none.run pins s2 σ H2 (fun o H3 => o = none ∧ H3 = H2) I2 ⟨rfl, rfl⟩) fun vu s3 ⟨u, H3, I3, pu, eu, e3⟩ => ?_
  subst eu e3
  refine thn (hst.run pins s3 σ H3 (fun o H4 => o = some (-1) ∧ H4 = H3) I3 ⟨1, rfl, -1, rfl, rfl, rfl⟩) fun vs s4 ⟨o, H4, I4, ps, eo, e4⟩ => ?_
  subst eo e4
  exact tail pins { s4 with heap := s4.heap.push { cls := .type "slice", data := .fields #[vl, vu, vs] } } σ H4 x v vl vu vs s4.heap.objs.size Q (I4.kept (t' := s4.toks) fun b ob q => Heap.get?_push_of_some _ q) r1 (Heap.IsSliceOf.new _ vl vu vs) pl pu ps q1
def rRevS (G : Gx) : V → Hp → VK → Prop := fun x H Q => ∃ A d E, A.H = H ∧ HR G A ∧ Rep G A d x ∧ (revE d A.S).sat (Fin G A Q) E
theorem sn_rev {e : Expr} {te : TE} {k : Nat} {p1 p2 p3 pos : Pos} (hK : X.K = G.K) (he : PE X e te) :
    PE X (.Subscript e (.Slice none none (some (.UnaryOp .USub (.Constant (.int 1) k p1) p2)) p3) pos) (fun σ H Q => te σ H fun x H1 => rRevS G x H1 Q) := by
  refine slice_back he fun pins s σ H x v vl vu vs sl Q I rx hs pl pu ps ⟨A, d, E, hH, hr, rd, h⟩ => ?_
  subst hH
  cases d with
  | tup ds =>
    obtain ⟨a, xs, rfl, h1, r1⟩ := rd
    cases rx
    rw [← hK] at h1
    obtain ⟨its, rv, ht, hz⟩ := I.tuple h1
    have hl := rv.length
    refine tail_any (ops := [.ref a, .ref sl]) ht.typeIs slot_tuple_getitem.lookup ?_ (by with_unfolding_all rfl)
    refine tuple_back ht hs pl pu ps ?_ (by rw [List.size_toArray]; omega)
    have hp : A.H s.heap.objs.size = none := I.hok.fresh (Nat.le_refl _)
    refine ⟨.ref _, _, I.laid (t' := s.toks) (o := .tup xs.reverse) (fun b ob q => Heap.get?_push_of_some _ q) (Nat.le_refl _) ?_, rfl, Fin.tup (show Fin G A Q (.tup ds.reverse) A.S from h) hr r1.reverse hp⟩
    refine ⟨by rw [List.length_reverse]; exact hz, its.reverse, rv.reverse, ⟨_, Heap.get?_push_size _ rfl, rfl, 0, ?_⟩⟩
    simp
  | ref n =>
    obtain ⟨_, rfl⟩ := rd
    cases rx
    have h : (match lstAt A.S n with
      | some xs => new (.lst xs.reverse) A.S
      | none => .no).sat (Fin G A Q) E := h
    cases q : lstAt A.S n with
    | none => rw [q] at h; exact (show False from h).elim
    | some ds =>
      rw [q] at h
      obtain ⟨_, xs, h1, r1⟩ := hr.lstAt q
      obtain ⟨its, rv, ht, hz⟩ := I.list (SqL.of h1)
      have hl := rv.length
      refine tail_any (ops := [.ref (A.μ n), .ref sl]) ht.isList.typeIs PySem.slot_list_getitem.lookup ?_ (by with_unfolding_all rfl)
      refine wpAny_getItem_list_slice ht.isList hs pl pu ps (by decide) ?_ (by rw [List.size_toArray]; omega)
      rw [PySem.W.krv_pick]
      have hp : A.H s.heap.objs.size = none := I.hok.fresh (Nat.le_refl _)
      refine ⟨.ref _, _, I.laid (t' := s.toks) (o := .lst xs.reverse) (fun b ob q => Heap.get?_push_of_some _ q) (Nat.le_refl _) ?_, rfl, Fin.lst h hr r1.reverse hp⟩
      exact ⟨by rw [List.length_reverse]; exact hz, _, 0, rv.reverse, Heap.get?_push_size _ rfl⟩
  | _ => exact (show False from h).elim

/-! ### isinstance -/
def tyStr : Ty → String
  | .int => "int" | .bool => "bool" | .str => "str" | .tuple => "tuple" | .list => "list" | .dict => "dict"
theorem kit_none (t : Ty) : kitB "NoneType" (tyStr t) = some false := by cases t <;> decide +kernel
theorem kit_tys (u t : Ty) : kitB (tyStr u) (tyStr t) = some (decide (u = t) || (decide (u = .bool) && decide (t = .int))) := by cases u <;> cases t <;> decide +kernel
theorem tyX_of {d : D} {x : V} {u : Ty} (hr : HR G A) (rd : Rep G A d x) (h : tyOf A.S d = some u) : TyX G.K A.H x (.type (tyStr u)) := by
  cases d with
  | int i => cases h; cases (show x = V.int i from rd); exact .base (.int i)
  | bl i => cases h; cases (show x = V.bl i from rd); exact .base (.bl i)
  | str i => cases h; cases (show x = V.str i from rd); exact .base (.str i)
  | tup ds =>
    cases h
    obtain ⟨a, xs, rfl, h1, r1⟩ := rd
    rcases h1 with (h1 | ⟨o, h1⟩) | ⟨o, its, n, k1, k2, k3, k4, k5⟩
    · exact .base (.tup h1)
    · exact .fTuple h1
    · exact .kTuple k1 k2
  | ref n =>
    obtain ⟨_, rfl⟩ := rd
    unfold tyOf at h
    dsimp only at h
    split at h
    · rename_i q
      cases h
      obtain ⟨xs, h1, _⟩ : ∃ xs, A.H (A.μ n) = some (.lst xs) ∧ RepL G A _ xs := hr.cell n _ q
      exact .base (.lst h1)
    · rename_i q
      cases h
      exact (hr.cell n _ q).elim fun _ h => .base (.dK h)
    · cases h
  | non => cases h
  | glb _ => cases h
theorem sn_isi {t : Ty} (hK : X.K = G.K) : CallR X (.builtin "isinstance") (fun xs H Q => ∃ x, xs = [x, .ty (tyStr t)] ∧ rDs G (fnE (.isi t)) [x] H Q) := by
  refine CallR.of call_isi fun xs H Q ⟨x, e, A, ds, E, hH, hr, r, h⟩ => ?_
  subst hH e
  obtain ⟨d, ds', rfl, e2, e3⟩ : ∃ d ds', ds = d :: ds' ∧ Rep G A d x ∧ ds' = [] := by
    cases ds with
    | nil => cases RepL.nil_iff r
    | cons d r2 =>
      obtain ⟨v, vs, e, h1, h2⟩ := RepL.uncons r
      cases e
      refine ⟨d, r2, rfl, h1, ?_⟩
      have := h2.length
      exact List.eq_nil_of_length_eq_zero this.symm
  subst e3
  have h : (ofOpt A.S ((isiE A.S d t).map D.bl)).sat (Fin G A Q) E := h
  cases q : isiE A.S d t with
  | none => rw [q] at h; exact (show False from h).elim
  | some b =>
    rw [q] at h
    have hQ : Q (.bl b) A.H := Fin.at (show Fin G A Q (.bl b) A.S from h) .refl hr rfl
    unfold isiE at q
    split at q
    · cases q
      cases (show x = V.non from e2)
      exact ⟨_, _, .type "NoneType", .type (tyStr t), false, rfl, .ty _, .base .non, kit_ty (kit_none t), hQ⟩
    · split at q
      · rename_i u hu
        cases q
        exact ⟨_, _, .type (tyStr u), .type (tyStr t), _, rfl, .ty _, by rw [hK]; exact tyX_of hr e2 hu, kit_ty (kit_tys u t), hQ⟩
      · cases q

/-! ### repr -/
mutual
theorem depth_dp {H : Hp} {K : PySem.W.Frag} : ∀ (e : PyData) (v : V), Dp K H v e → e.hasDict = false
  | .none, _, _ => by simp only [PyData.hasDict]
  | .bool _, _, _ => by simp only [PyData.hasDict]
  | .int _, _, _ => by simp only [PyData.hasDict]
  | .str _, _, _ => by simp only [PyData.hasDict]
  | .list es, v, h => by cases h with | lst _ h2 => simp only [PyData.hasDict]; exact depths_dp es _ h2
  | .tuple es, v, h => by cases h with | tup _ h2 => simp only [PyData.hasDict]; exact depths_dp es _ h2
  | .dict _, _, h => by cases h
theorem depths_dp {H : Hp} {K : PySem.W.Frag} : ∀ (es : List PyData) (vs : List V), DpAll K H vs es → PyData.hasDictAll es = false
  | [], _, _ => by simp only [PyData.hasDictAll]
  | e :: es, _, h => by
    cases h with
    | cons h1 h2 => simp only [PyData.hasDictAll, depth_dp e _ h1, depths_dp es _ h2, Bool.or_self]
end
theorem mapO_depth {f : D → Option PyData} {n : Nat} (hf : ∀ d e, f d = some e → e.depth ≤ n) : ∀ (ds : List D) (es : List PyData), mapO f ds = some es → PyData.depthAll es ≤ n
  | [], es, h => by cases h; simp [PyData.depthAll]
  | d :: ds, es, h => by
    unfold mapO at h
    split at h
    · rename_i a b q1 q2
      cases h
      have h1 := hf d a q1
      have h2 := mapO_depth hf ds b q2
      simp only [PyData.depthAll]
      omega
    · cases h
theorem leaf_depth {d : D} {e : PyData} (h : leafD d = some e) : e.depth = 0 := by
  cases d <;> cases h <;> simp [PyData.depth]
theorem toD_depth {S : Sto} : ∀ (n : Nat) (d : D) (e : PyData), toD S n d = some e → e.depth ≤ n
  | 0, d, e, h => by rw [leaf_depth h]; exact Nat.le_refl _
  | n + 1, d, e, h => by
    have lf : leafD d = some e → e.depth ≤ n + 1 := fun h => by rw [leaf_depth h]; omega
    cases d with
    | tup ds =>
      have h : (mapO (toD S n) ds).map PyData.tuple = some e := h
      obtain ⟨es, q, rfl⟩ := Option.map_eq_some_iff.mp h
      have := mapO_depth (fun d e => toD_depth n d e) ds es q
      simp only [PyData.depth]
      omega
    | ref m =>
      have h : (match seqAt S m with
        | some xs => (mapO (toD S n) xs).map PyData.list
        | none => none) = some e := h
      cases q : seqAt S m with
      | none => rw [q] at h; cases h
      | some ds =>
        rw [q] at h
        obtain ⟨es, q2, rfl⟩ := Option.map_eq_some_iff.mp h
        have := mapO_depth (fun d e => toD_depth n d e) ds es q2
        simp only [PyData.depth]
        omega
    | non => exact lf h
    | bl _ => exact lf h
    | int _ => exact lf h
    | str _ => exact lf h
    | glb _ => exact lf h
theorem sn_repr (hK : X.K = G.K) (hg : X.A.guards = some []) (hu : X.A.units + 64 < cLine) : CallR X (.builtin "repr") (rDs G (fnE .repr)) := by
  intro pins s σ H xs us Q I rv hw
  obtain ⟨A, d, v, E, rfl, hr, rfl, rd, h⟩ := rDs1 hw fun ds S hne => by
    cases ds with
    | nil => rfl
    | cons d r => cases r with
      | nil => exact absurd rfl (hne d)
      | cons _ _ => cases d <;> rfl
  obtain ⟨u, rfl, ru⟩ := vals1 rv
  have h : (match toD A.S deepN d with
    | some e => if e.showable && decide (e.shown.length ≤ lineN) then Res.ok (D.str e.shown) A.S else .no
    | none => .no).sat (Fin G A Q) E := by
    cases d <;> exact h
  cases q : toD A.S deepN d with
  | none => rw [q] at h; exact (show False from h).elim
  | some e =>
    rw [q] at h
    dsimp only at h
    split at h
    · rename_i hc
      simp only [Bool.and_eq_true, decide_eq_true_eq] at hc
      obtain ⟨c1, c2⟩ := hc
      rw [lineN_eq] at c2
      have hQ : Q (.str e.shown) A.H := Fin.at (show Fin G A Q (.str e.shown) A.S from h) .refl hr rfl
      have dp := dp_of hr _ d v e q rd
      rw [← hK] at dp
      have fin : ∀ h' (tk : Nat), (∀ b o, s.heap.get? b = some o → h'.get? b = some o) → ∀ u, EP X pins σ Q (.str e.shown u) { s with heap := h', toks := tk } := fun h' tk hk u => ⟨.str _, A.H, I.kept hk, ⟨u, rfl⟩, hQ⟩
      have hd := toD_depth _ _ _ q
      have hd2 : deepN = 20 := rfl
      cases v with
      | ref a =>
        obtain rfl : u = Value.ref a := ru
        obtain ⟨as, rr⟩ := Dp.reads I e _ _ dp (show RelV (.ref a) (Value.ref a) from rfl)
        exact repr_of_reads' rr c1 (PyData.noDict_hsm (depth_dp e _ dp)) hg (by omega) (fun _ _ z => z) (fun h' u tk hk => fin h' tk hk u) c2
      | non => cases dp; obtain rfl : u = Value.none := ru; exact PySem.P.repr_of_none (fin s.heap _ (fun _ _ z => z) _)
      | bl b => cases dp; obtain rfl : u = Value.bool b := ru; exact PySem.P.repr_of_bool (fin s.heap _ (fun _ _ z => z) _)
      | int i => cases dp; obtain ⟨t, rfl⟩ := ru; exact PySem.P.repr_of_int (by simpa [PyData.showable] using c1) (fin s.heap _ (fun _ _ z => z) _)
      | str x => cases dp; obtain ⟨t, rfl⟩ := ru; exact PySem.P.repr_of_str (fin s.heap _ (fun _ _ z => z) _) c2
      | _ => cases dp
    · exact (show False from h).elim

/-! ### a list's item stored -/
def rSetD (G : Gx) : TSet := fun o i v H Q => ∃ A n k j d ds, A.H = H ∧ HR G A ∧ n < A.S.length ∧ o = .ref (A.μ n) ∧ i = .int k ∧ Rep G A d v ∧ lstAt A.S n = some ds ∧ ixN ds.length k = some j ∧
  ∀ H', HR G ⟨A.μ, A.S.set n (.lst (ds.set j d)), H'⟩ → Grow G A ⟨A.μ, A.S.set n (.lst (ds.set j d)), H'⟩ → Q H'
theorem sn_set : PSet X (rSetD G) := by
  intro pins s σ H o i v ov iv u Q I ro ri rv ⟨A, n, k, j, d, ds, hH, hr, hn, eo, ei, rd, hl, hj, q⟩
  subst hH
  obtain ⟨hS, xs, h1, r1⟩ := hr.lstAt hl
  obtain ⟨g1, g2⟩ := hr.putL hS (r1.set j rd)
  exact set_list pins s σ _ o i v ov iv u Q I ro ri rv ⟨_, xs, k, j, eo, ei, h1, by rw [r1.length]; exact hj, q _ g1 g2⟩
end Mini
set_option maxHeartbeats 2000000
/-! Mini: what a def promises where no repr is under way (guards = []), its calls, its body. -/
namespace Mini
open PySem PySem.Spec PyProof.Rows L2

structure FnG (P : Program) (w : World) (K : PySem.W.Frag) (mg : Str → Option Value) (base : Heap) (k : Nat) (f : Addr) (fd : FuncData) (ps : List Str) (sp : Sp) : Prop where
  len : ∀ vs H Q E, sp vs H Q E → vs.length = ps.length
  run : ∀ (A : Around) (out : List Env) (s : Shared) (H : Hp) (args : Args) (us : List Value) (vs : List V) (Q : VK) (E : XK), Room k A → A.guards = some [] → Env0 P w K mg base A out s H → BindsTo s fd args (ps.zip us) →
    Vals vs us → sp vs H Q E → codeAny (model P w) A (.call (.ref f) args) (CR (L2.CX P w) out P w H s Q E) s
theorem FnG.mono {P : Program} {w : World} {K : PySem.W.Frag} {mg : Str → Option Value} {base : Heap} {j k : Nat} {f : Addr} {fd : FuncData} {ps : List Str} {sp : Sp} (F : FnG P w K mg base j f fd ps sp) (h : j ≤ k) : FnG P w K mg base k f fd ps sp :=
  ⟨F.len, fun A out s H args us vs Q E hr => F.run A out s H args us vs Q E (hr.mono h)⟩
theorem guards_make {A : Around} {C : Addr} {us : List Value} {kw : List (Str × Value)} (h : A.guards = some []) : (A.under (.builtin "type.__call__" ⟨.ref C :: us, kw⟩)).guards = some [] := by
  show pushGuards (Code.guards (.builtin "type.__call__" ⟨.ref C :: us, kw⟩)) A.guards = some []
  rw [h]
  have : Code.isGuard (.builtin "type.__call__" ⟨.ref C :: us, kw⟩) = false := by
    show guardIds.contains "type.__call__" = false
    decide +kernel
  unfold Code.guards
  rw [this]
  rfl
section
variable {X : Cx} {W : WX} {k : Nat} {f C : Addr} {fd : FuncData} {ps : List Str} {sp : Sp} {pins : List (Addr × Obj)} {σ : L2.St} {H : Hp} {s : Shared} {Q : VK}
/-- how a call's result meets the body's wishes -/
theorem land {us : List Value} {kw : List (Str × Value)} (tk : Takes X W) (I : Inv X pins σ H s) {g : Value}
    (h : codeAny (model X.prog X.w) X.A (.call g ⟨us, kw⟩) (CR (L2.CX X.prog X.w) X.stack X.prog X.w H s Q fun c d H' => W c d σ H') s) : wpAny (model X.prog X.w) X.A (call g us kw) (EP X pins σ Q) X.xe s := by
  refine wpAny_call (codeAny_mono h fun r s' hq => ?_)
  match r, hq with
  | .error e, hq => exact tk e s' (XE.of_call I (fun _ _ _ z => z) hq)
  | .ok (.ret u), hq => exact I.after hq
  | .ok .next, hq => exact hq.elim
  | .ok .brk, hq => exact hq.elim
  | .ok .cont, hq => exact hq.elim
theorem run_g {us : List Value} {vs : List V} (F : FnG X.prog X.w X.K X.mg X.base k f fd ps sp) (hr : Room k X.A) (hg : X.A.guards = some []) (hb : Binds X.K fd ps []) (tk : Takes X W)
    (I : Inv X pins σ H s) (r : Vals vs us) (h : sp vs H Q fun c d H' => W c d σ H') : wpAny (model X.prog X.w) X.A (call (.ref f) us) (EP X pins σ Q) X.xe s := by
  have hl : us.length = ps.length := r.length.symm.trans (F.len _ _ _ _ h)
  have b := hb s us I.kIn (by rw [List.append_nil]; exact hl)
  rw [List.append_nil] at b
  exact land tk I (F.run X.A X.stack s H ⟨us, []⟩ us vs Q _ hr hg I.env0 b r h)
theorem run_gk {us ws zs : List Value} {names : List Str} {vs : List V} (F : FnG X.prog X.w X.K X.mg X.base k f fd ps sp) (hr : Room k X.A) (hg : X.A.guards = some []) (hb : BindsTo s fd ⟨us, names.zip ws⟩ (ps.zip zs)) (tk : Takes X W)
    (I : Inv X pins σ H s) (r : Vals vs zs) (h : sp vs H Q fun c d H' => W c d σ H') : wpAny (model X.prog X.w) X.A (call (.ref f) us (names.zip ws)) (EP X pins σ Q) X.xe s :=
  land tk I (F.run X.A X.stack s H ⟨us, names.zip ws⟩ zs vs Q _ hr hg I.env0 hb r h)
theorem make_g {us : List Value} {vs : List V} (M : Mk X.K C f) (F : FnG X.prog X.w X.K X.mg X.base k f fd ps sp) (hr : Room (k + 1) X.A) (hg : X.A.guards = some []) (hb : Binds X.K fd ps []) (tk : Takes X W) (I : Inv X pins σ H s) (r : Vals vs us)
    (h : ∀ x dx, H x = none → H dx = none → dx ≠ x → sp (.ref x :: vs) (upd (upd H dx (.own x)) x (.ins C dx [])) (fun v H2 => v = .non ∧ Q (.ref x) H2) fun c d H' => W c d σ H') :
    wpAny (model X.prog X.w) X.A (call (.ref C) us) (EP X pins σ Q) X.xe s := by
  have q := h (s.heap.objs.size + 1) s.heap.objs.size (I.hok.fresh (Nat.le_succ _)) (I.hok.fresh (Nat.le_refl _)) (Nat.ne_of_lt (Nat.lt_succ_self _))
  have J := Inv.made (C := C) I
  have r2 : Vals (V.ref (s.heap.objs.size + 1) :: vs) (Value.ref (s.heap.objs.size + 1) :: us) := .cons rfl r
  have hl : (Value.ref (s.heap.objs.size + 1) :: us).length = ps.length := r2.length.symm.trans (F.len _ _ _ _ q)
  have b := hb _ (Value.ref (s.heap.objs.size + 1) :: us) J.kIn (by rw [List.append_nil]; exact hl)
  rw [List.append_nil] at b
  refine wpAny_call (make_map (f := f) I.kIn M.makes M.init (beq_iff_eq.mp M.fn) (codeAny_mono (F.run _ X.stack _ _ ⟨Value.ref (s.heap.objs.size + 1) :: us, []⟩ _ _ _ _ (hr.make C us []) (guards_make hg) (J.env0.make C us []) b r2 q) fun r s' hq => ?_))
  match r, hq with
  | .error e, hq => exact tk e s' (XE.of_call J (fun _ _ _ z => z) hq)
  | .ok (.ret u), hq =>
    obtain ⟨v, H', J3, rv, ev, q3⟩ := J.after hq
    subst ev
    exact ⟨rv, ⟨V.ref (s.heap.objs.size + 1), H', J3, rfl, q3⟩⟩
  | .ok .next, hq => exact hq.elim
  | .ok .brk, hq => exact hq.elim
  | .ok .cont, hq => exact hq.elim
end

/-! ### no stars -/
def noStar : Expr → Bool
  | .Starred _ _ => false
  | _ => true
theorem star_cons {e : Expr} {es : List Expr} {env : Env} (h : noStar e = true) : starEach (e :: es) env = (false, eval e env) :: starEach es env := by
  cases e <;> first | rfl | cases h
theorem star_all : ∀ {es : List Expr} {env : Env} {pos : Pos}, es.all noStar = true → (backTo pos (starEach es env)).any (·.1) = false
  | [], _, _, _ => rfl
  | e :: es, env, pos, h => by
    have h2 : noStar e = true ∧ es.all noStar = true := by simpa using h
    rw [star_cons h2.1]
    show (false || (backTo pos (starEach es env)).any (·.1)) = false
    rw [star_all h2.2]
    rfl
section
variable {X : Cx} {W : WX} {k : Nat} {f C : Addr} {fd : FuncData} {ps : List Str} {sp : Sp} {x m : Str} {p pos apos : Pos} {o : Expr} {es : List Expr} {ta : TE} {t : TA}
/-- f(e, ..) -/
theorem pe_g (F : FnG X.prog X.w X.K X.mg X.base k f fd ps sp) (hr : Room k X.A) (hg : X.A.guards = some []) (gl : Gl X x) (hm : X.mg x = some (.ref f)) (hk : PySem.W.keepIn X.K (.ref f) = true) (hb : Binds X.K fd ps []) (tk : Takes X W)
    (ha : PA X es t) (hz : es = [] → ∀ σ H Q, t σ H Q → Q [] H) (hn : es.all noStar = true) (hdb : (x == ("__debug__" : Str)) = false) : PE X (.Call (.Name x p) es [] pos) (fun σ H Q => t σ H fun vs H1 => sp vs H1 Q fun c d H' => W c d σ H') := by
  refine ⟨fun pins s σ H Q I h => wpAny_Call_Name_kw (ld_glob I gl hm ?_ hdb)⟩
  have A := ha.run pos pins s σ H _ I h
  cases es with
  | nil => exact PySem.W.callWith_K0 I.kIn hk (run_g (us := []) F hr hg hb tk I .nil (hz rfl σ H _ h))
  | cons e es =>
    have h2 : noStar e = true ∧ es.all noStar = true := by simpa using hn
    refine PySem.W.callWith_K (h₀ := X.base) I.ok.mod.kin hk (thn A fun us s1 ⟨vs, H1, I1, r, q⟩ => ⟨I1.kIn, ?_⟩) (star_cons h2.1) (star_all h2.2)
    exact run_g F hr hg hb tk I1 r q
/-- C(e, ..) -/
theorem pe_mkg (M : Mk X.K C f) (F : FnG X.prog X.w X.K X.mg X.base k f fd ps sp) (hr : Room (k + 1) X.A) (hg : X.A.guards = some []) (gl : Gl X x) (hm : X.mg x = some (.ref C)) (hb : Binds X.K fd ps []) (tk : Takes X W)
    (ha : PA X es t) (hz : es = [] → ∀ σ H Q, t σ H Q → Q [] H) (hn : es.all noStar = true) (hdb : (x == ("__debug__" : Str)) = false) :
    PE X (.Call (.Name x p) es [] pos) (fun σ H Q => t σ H fun vs H1 => ∀ y dy, H1 y = none → H1 dy = none → dy ≠ y → sp (.ref y :: vs) (upd (upd H1 dy (.own y)) y (.ins C dy [])) (fun v H2 => v = .non ∧ Q (.ref y) H2) fun c d H' => W c d σ H') := by
  refine ⟨fun pins s σ H Q I h => wpAny_Call_Name_kw (ld_glob I gl hm ?_ hdb)⟩
  have A := ha.run pos pins s σ H _ I h
  cases es with
  | nil => exact PySem.W.callWith_K0 I.kIn M.kp (make_g (us := []) M F hr hg hb tk I .nil (hz rfl σ H _ h))
  | cons e es =>
    have h2 : noStar e = true ∧ es.all noStar = true := by simpa using hn
    refine PySem.W.callWith_K (h₀ := X.base) I.ok.mod.kin M.kp (thn A fun us s1 ⟨vs, H1, I1, r, q⟩ => ⟨I1.kIn, ?_⟩) (star_cons h2.1) (star_all h2.2)
    exact make_g M F hr hg hb tk I1 r q
/-- f(e, .., k = v, ..) -/
theorem pe_gk {kws : List Keyword} {tk' : TA} {names : List Str} {g : List Value → List Value → List Value} {gV : List V → List V → List V} (F : FnG X.prog X.w X.K X.mg X.base k f fd ps sp) (hr : Room k X.A) (hg : X.A.guards = some []) (gl : Gl X x)
    (hm : X.mg x = some (.ref f)) (hk : PySem.W.keepIn X.K (.ref f) = true) (hb : ∀ (s : Shared) (us ws : List Value), us.length = es.length → ws.length = names.length → BindsTo s fd ⟨us, names.zip ws⟩ (ps.zip (g us ws)))
    (hv : ∀ vs us zs ws, Vals vs us → Vals zs ws → Vals (gV vs zs) (g us ws)) (tk : Takes X W) (ha : PA X es t) (hz : es = [] → ∀ σ H Q, t σ H Q → Q [] H) (hkw : PK X kws tk') (hn : es.all noStar = true) (hks : ∀ pos, (backToKw pos (keywordEach kws X.env)).all (·.1.isSome) = true ∧ (backToKw pos (keywordEach kws X.env)).filterMap (·.1) = names)
    (hl1 : ∀ pins s σ H Q, Inv X pins σ H s → t σ H Q → t σ H fun vs H1 => vs.length = es.length ∧ Q vs H1) (hl2 : ∀ pins s σ H Q, Inv X pins σ H s → tk' σ H Q → tk' σ H fun vs H1 => vs.length = names.length ∧ Q vs H1) (hdb : (x == ("__debug__" : Str)) = false) :
    PE X (.Call (.Name x p) es kws pos) (fun σ H Q => t σ H fun vs H1 => tk' σ H1 fun zs H2 => sp (gV vs zs) H2 Q fun c d H' => W c d σ H') := by
  refine ⟨fun pins s σ H Q I h => wpAny_Call_Name_kw (ld_glob I gl hm ?_ hdb)⟩
  have A := ha.run pos pins s σ H _ I (hl1 pins s σ H _ I h)
  have hsome := (hks pos).1
  have hnone : (backToKw pos (keywordEach kws X.env)).any (·.1.isNone) = false := by
    rw [List.any_eq_false]
    intro y hy
    have := List.all_eq_true.mp hsome y hy
    cases z : y.1 <;> simp_all
  have fin : ∀ us s1, AP X pins σ (fun vs H1 => vs.length = es.length ∧ tk' σ H1 fun zs H2 => sp (gV vs zs) H2 Q fun c d H' => W c d σ H') us s1 → wpAny (model X.prog X.w) X.A (evalAll ((backToKw pos (keywordEach kws X.env)).map (·.2)))
      (fun ks s2 => X.K.In s2.heap ∧ wpAny (model X.prog X.w) X.A (call (.ref f) us (((backToKw pos (keywordEach kws X.env)).filterMap (·.1)).zip ks)) (EP X pins σ Q) X.xe s2) X.xe s1 := fun us s1 ⟨vs, H1, I1, r, l1, q⟩ => by
    refine thn (hkw.run pos pins s1 σ H1 _ I1 (hl2 pins s1 σ H1 _ I1 q)) fun ws s2 ⟨zs, H2, I2, rz, l2, q2⟩ => ⟨I2.kIn, ?_⟩
    rw [(hks pos).2]
    exact run_gk F hr hg (hb s2 us ws (r.length.symm.trans l1) (rz.length.symm.trans l2)) tk I2 (hv _ _ _ _ r rz) q2
  cases es with
  | nil =>
    refine PySem.W.callWith_KW0 (h₀ := X.base) I.ok.mod.kin hk hsome ?_ (by rw [hnone]; rfl)
    exact fin [] s ⟨[], H, I, .nil, hz rfl σ H _ (hl1 pins s σ H _ I h)⟩
  | cons e es =>
    have h2 : noStar e = true ∧ es.all noStar = true := by simpa using hn
    refine PySem.W.callWith_KW (h₀ := X.base) I.ok.mod.kin hk hsome (thn A fun us s1 h1 => fin us s1 h1) (by rw [star_all hn, hnone]; rfl) (star_cons h2.1)
end
end Mini
set_option maxHeartbeats 2000000
/-! Mini: expressions, one construct after another. -/
namespace Mini
open PySem PySem.Spec PyProof.Rows L2

variable {G : Gx} {A A0 : Ab} {X : Cx} {W : WX} {p : Pg} {σ : L2.St} {ρ : Loc}
theorem PE.imp {e : Expr} {t t' : TE} (h : PE X e t) (k : ∀ σ H Q, t' σ H Q → t σ H Q) : PE X e t' := ⟨fun pins s σ H Q I q => h.run pins s σ H Q I (k _ _ _ q)⟩
theorem PT.imp {e : Expr} {t t' : TT} (h : PT X e t) (k : ∀ σ H Q, t' σ H Q → t σ H Q) : PT X e t' := ⟨fun pins s σ H Q I q => h.run pins s σ H Q I (k _ _ _ q)⟩
theorem PW.imp {e : Expr} {t t' : TT} (h : PW X e t) (k : ∀ σ H Q, t' σ H Q → t σ H Q) : PW X e t' := ⟨fun wh pins s σ H Q I q => h.run wh pins s σ H Q I (k _ _ _ q)⟩
theorem PA.imp {es : List Expr} {t t' : TA} (h : PA X es t) (k : ∀ σ H Q, t' σ H Q → t σ H Q) : PA X es t' := ⟨fun pos pins s σ H Q I q => h.run pos pins s σ H Q I (k _ _ _ q)⟩

abbrev xw (W : WX) (σ : L2.St) : XK := fun c d H => W c d σ H
def FinL (G : Gx) (A : Ab) (Q : List V → Hp → Prop) (ds : List D) (S : Sto) : Prop := ∀ μ vs H, Grow G A ⟨μ, S, H⟩ → HR G ⟨μ, S, H⟩ → RepL G ⟨μ, S, H⟩ ds vs → Q vs H
def FinB (G : Gx) (A : Ab) (Q : Bool → Hp → Prop) (b : Bool) (S : Sto) : Prop := ∀ μ H, Grow G A ⟨μ, S, H⟩ → HR G ⟨μ, S, H⟩ → Q b H
def tRs (G : Gx) (W : WX) (r : Loc → Sto → Res (List D)) : TA := fun σ H Q => ∃ A ρ, A.H = H ∧ HR G A ∧ ER G A ρ σ ∧ (r ρ A.S).sat (FinL G A Q) (XW G A (xw W σ))
def tRb (G : Gx) (W : WX) (r : Loc → Sto → Res Bool) : TT := fun σ H Q => ∃ A ρ, A.H = H ∧ HR G A ∧ ER G A ρ σ ∧ (r ρ A.S).sat (FinB G A Q) (XW G A (xw W σ))
abbrev tA (G : Gx) (p : Pg) (W : WX) (xs : List Ex) : TA := tRs G W (evEs p xs)
abbrev tT (G : Gx) (p : Pg) (W : WX) (x : Ex) : TT := tRb G W (evB p x)

/-- a run, then what comes of it -/
theorem tR_bind {β : Type} {r : Loc → Sto → Res D} {k : D → Sto → Res β} {P : β → Sto → Prop} {w : XK} {Q : VK} (g0 : Grow G A0 A) (hr : HR G A) (er : ER G A ρ σ) (hw : w = xw W σ) (h : ((r ρ A.S).bind k).sat P (XW G A0 w))
    (hk : ∀ B d v, Grow G A B → HR G B → Rep G B d v → (k d B.S).sat P (XW G A0 w) → Q v B.H) : tR G W r σ A.H Q := by
  subst hw
  exact ⟨A, ρ, rfl, hr, er, Res.sat_mono (Res.sat_bind h) (fun d S q μ v H g h1 r1 => hk ⟨μ, S, H⟩ d v g h1 r1 q) fun _ _ _ z => z.grow g0⟩
theorem tRs_bind {β : Type} {r : Loc → Sto → Res (List D)} {k : List D → Sto → Res β} {P : β → Sto → Prop} {w : XK} {Q : List V → Hp → Prop} (g0 : Grow G A0 A) (hr : HR G A) (er : ER G A ρ σ) (hw : w = xw W σ) (h : ((r ρ A.S).bind k).sat P (XW G A0 w))
    (hk : ∀ B ds vs, Grow G A B → HR G B → RepL G B ds vs → (k ds B.S).sat P (XW G A0 w) → Q vs B.H) : tRs G W r σ A.H Q := by
  subst hw
  exact ⟨A, ρ, rfl, hr, er, Res.sat_mono (Res.sat_bind h) (fun d S q μ v H g h1 r1 => hk ⟨μ, S, H⟩ d v g h1 r1 q) fun _ _ _ z => z.grow g0⟩
theorem tRb_bind {β : Type} {r : Loc → Sto → Res Bool} {k : Bool → Sto → Res β} {P : β → Sto → Prop} {w : XK} {Q : Bool → Hp → Prop} (g0 : Grow G A0 A) (hr : HR G A) (er : ER G A ρ σ) (hw : w = xw W σ) (h : ((r ρ A.S).bind k).sat P (XW G A0 w))
    (hk : ∀ B b, Grow G A B → HR G B → (k b B.S).sat P (XW G A0 w) → Q b B.H) : tRb G W r σ A.H Q := by
  subst hw
  exact ⟨A, ρ, rfl, hr, er, Res.sat_mono (Res.sat_bind h) (fun b S q μ H g h1 => hk ⟨μ, S, H⟩ b g h1 q) fun _ _ _ z => z.grow g0⟩
/-- the last run: its end is the end -/
theorem tR_last {r : Loc → Sto → Res D} {Q : VK} (g0 : Grow G A0 A) (hr : HR G A) (er : ER G A ρ σ) (h : (r ρ A.S).sat (Fin G A0 Q) (XW G A0 (xw W σ))) : tR G W r σ A.H Q :=
  ⟨A, ρ, rfl, hr, er, Res.sat_mono h (fun d S q => q.grow g0) fun _ _ _ z => z.grow g0⟩
theorem FinL.grow {Q : List V → Hp → Prop} {d : List D} {S : Sto} (f : FinL G A0 Q d S) (g : Grow G A0 A) : FinL G A Q d S := fun μ v H g' h r => f μ v H (g.trans g') h r
theorem FinB.grow {Q : Bool → Hp → Prop} {d : Bool} {S : Sto} (f : FinB G A0 Q d S) (g : Grow G A0 A) : FinB G A Q d S := fun μ H g' h => f μ H (g.trans g') h
theorem tRs_last {r : Loc → Sto → Res (List D)} {Q : List V → Hp → Prop} (g0 : Grow G A0 A) (hr : HR G A) (er : ER G A ρ σ) (h : (r ρ A.S).sat (FinL G A0 Q) (XW G A0 (xw W σ))) : tRs G W r σ A.H Q :=
  ⟨A, ρ, rfl, hr, er, Res.sat_mono h (fun d S q => q.grow g0) fun _ _ _ z => z.grow g0⟩
theorem tRb_last {r : Loc → Sto → Res Bool} {Q : Bool → Hp → Prop} (g0 : Grow G A0 A) (hr : HR G A) (er : ER G A ρ σ) (h : (r ρ A.S).sat (FinB G A0 Q) (XW G A0 (xw W σ))) : tRb G W r σ A.H Q :=
  ⟨A, ρ, rfl, hr, er, Res.sat_mono h (fun d S q => q.grow g0) fun _ _ _ z => z.grow g0⟩
theorem sat_opt {α β : Type} {S : Sto} {o : Option α} {k : α → Sto → Res β} {P : β → Sto → Prop} {E : Nat → List (Str × D) → Sto → Prop} (h : ((ofOpt S o).bind k).sat P E) : ∃ a, o = some a ∧ (k a S).sat P E := by
  cases o with
  | none => exact (show False from h).elim
  | some a => exact ⟨a, rfl, h⟩
theorem sat_ofOpt {α β : Type} {S : Sto} {o : Option α} {f : α → β} {P : β → Sto → Prop} {E : Nat → List (Str × D) → Sto → Prop} (h : (ofOpt S (o.map f)).sat P E) : ∃ a, o = some a ∧ P (f a) S := by
  cases o with
  | none => exact (show False from h).elim
  | some a => exact ⟨a, rfl, h⟩
theorem sat_ofOpt' {α : Type} {S : Sto} {o : Option α} {P : α → Sto → Prop} {E : Nat → List (Str × D) → Sto → Prop} (h : (ofOpt S o).sat P E) : ∃ a, o = some a ∧ P a S := by
  cases o with
  | none => exact (show False from h).elim
  | some a => exact ⟨a, rfl, h⟩

/-! ### leaves -/
theorem se_var {i : Nat} {x : Str} {pos : Pos} (hN : X.N[i]? = some x) (hv : Vis X.env.scope x) (hd : (x == ("__debug__" : Str)) = false) (hc : (x == ("__classdict__" : Str)) = false) : PE X (.Name x pos) (tE G p W (.var i)) := by
  refine PE.imp (pe_var hN hv hd hc) fun σ H Q ⟨A, ρ, hH, hr, er, h⟩ => ?_
  subst hH
  have h : (match ρ[i]? with
    | some (some d) => Res.ok d A.S
    | _ => .no).sat (Fin G A Q) (XW G A (xw W σ)) := h
  cases q : ρ[i]? with
  | none => rw [q] at h; exact (show False from h).elim
  | some o =>
    cases o with
    | none => rw [q] at h; exact (show False from h).elim
    | some d =>
      rw [q] at h
      obtain ⟨v, h1, h2⟩ := er.get i d q
      exact ⟨v, h1, Fin.at (show Fin G A Q d A.S from h) .refl hr h2⟩
theorem se_con {e : Expr} {d : D} {v : V} (h : PE X e (tC v)) (r : ∀ A, Rep G A d v) : PE X e (tE G p W (.con d)) := by
  refine PE.imp h fun σ H Q ⟨A, ρ, hH, hr, er, h⟩ => ?_
  subst hH
  exact Fin.at (show Fin G A Q d A.S from h) .refl hr (r A)

/-! ### arguments, displays -/
theorem sa_nil : PA X [] (tA G p W []) := by
  refine PA.imp pa_nil fun σ H Q ⟨A, ρ, hH, hr, er, h⟩ => ?_
  subst hH
  exact (show FinL G A Q [] A.S from h) A.μ [] A.H .refl hr .nil
theorem sa_cons {e : Expr} {es : List Expr} {x : Ex} {xs : List Ex} (hs : noStar e = true) (h1 : PE X e (tE G p W x)) (h2 : PA X es (tA G p W xs)) : PA X (e :: es) (tA G p W (x :: xs)) := by
  refine PA.imp (pa_cons h1 h2 (star_cons hs)) fun σ H Q ⟨A, ρ, hH, hr, er, h⟩ => ?_
  subst hH
  refine tR_bind .refl hr er rfl (show ((evE p x ρ A.S).bind fun d S1 => (evEs p xs ρ S1).bind fun ds S2 => Res.ok (d :: ds) S2).sat _ _ from h) fun B d v g hB rd q => ?_
  refine tRs_bind g hB (er.mono g) rfl q fun C ds vs g2 hC rs q2 => ?_
  exact (show FinL G A Q (d :: ds) C.S from q2) C.μ _ C.H (g.trans g2) hC (.cons (rd.mono g2) rs)
theorem sa_zero {xs : List Ex} {σ : L2.St} {H : Hp} {Q : List V → Hp → Prop} (hx : xs = []) (h : tA G p W xs σ H Q) : Q [] H := by
  obtain ⟨A, ρ, hH, hr, er, h⟩ := h
  subst hx hH
  exact (show FinL G A Q [] A.S from h) A.μ [] A.H .refl hr .nil
theorem evEs_len {p : Pg} : ∀ {xs : List Ex} {ρ : Loc} {S : Sto} {P : List D → Sto → Prop} {E : Nat → List (Str × D) → Sto → Prop}, (evEs p xs ρ S).sat P E → (evEs p xs ρ S).sat (fun ds S' => ds.length = xs.length ∧ P ds S') E
  | [], _, _, _, _, h => ⟨rfl, h⟩
  | x :: xs, ρ, S, P, E, h => by
    have h : ((evE p x ρ S).bind fun d S1 => (evEs p xs ρ S1).bind fun ds S2 => Res.ok (d :: ds) S2).sat P E := h
    show ((evE p x ρ S).bind fun d S1 => (evEs p xs ρ S1).bind fun ds S2 => Res.ok (d :: ds) S2).sat _ E
    cases q : evE p x ρ S with
    | no => rw [q] at h; exact (show False from h).elim
    | ex c f S1 => rw [q] at h; exact h
    | ok d S1 =>
      rw [q] at h
      have h : ((evEs p xs ρ S1).bind fun ds S2 => Res.ok (d :: ds) S2).sat P E := h
      show ((evEs p xs ρ S1).bind fun ds S2 => Res.ok (d :: ds) S2).sat _ E
      have h2 := evEs_len (p := p) (Res.sat_bind h)
      cases q2 : evEs p xs ρ S1 with
      | no => rw [q2] at h2; exact (show False from h2).elim
      | ex c f S2 => rw [q2] at h2; exact h2
      | ok ds S2 =>
        rw [q2] at h2
        obtain ⟨l, h3⟩ := h2
        exact ⟨by simp [show ds.length = xs.length from l], h3⟩
theorem sa_len {xs : List Ex} {σ : L2.St} {H : Hp} {Q : List V → Hp → Prop} (h : tA G p W xs σ H Q) : tA G p W xs σ H fun vs H1 => vs.length = xs.length ∧ Q vs H1 := by
  obtain ⟨A, ρ, hH, hr, er, h⟩ := h
  exact ⟨A, ρ, hH, hr, er, Res.sat_mono (evEs_len h) (fun ds S ⟨l, q⟩ μ vs H g h1 r => ⟨r.length.trans l, q μ vs H g h1 r⟩) fun _ _ _ z => z⟩
theorem se_tup {es : List Expr} {k : Nat} {pos : Pos} {xs : List Ex} (hl : xs.length ≤ 1000) (h : PA X es (tA G p W xs)) : PE X (.Tuple es k pos) (tE G p W (.tup xs)) := by
  refine PE.imp (pe_tup h) fun σ H Q ⟨A, ρ, hH, hr, er, h⟩ => ?_
  subst hH
  refine Exists.elim (sa_len (Q := fun vs H1 => ∀ q, H1 q = none → Q (.ref q) (upd H1 q (.tup vs))) (tRs_bind .refl hr er rfl (show ((evEs p xs ρ A.S).bind fun ds S1 => Res.ok (.tup ds) S1).sat (Fin G A Q) _ from h) fun B ds vs g hB rs q => ?_)) fun B hB => ?_
  · exact fun y hy => Fin.tup (Fin.grow (show Fin G A Q (.tup ds) B.S from q) g) hB rs hy
  · obtain ⟨ρ, h⟩ := hB
    obtain ⟨hH, hr, er, h⟩ := h
    exact ⟨B, ρ, hH, hr, er, Res.sat_mono h (fun ds S q μ vs H g h1 r => ⟨by have := (q μ vs H g h1 r).1; rw [sizeLine_eq]; omega, (q μ vs H g h1 r).2⟩) fun _ _ _ z => z⟩
theorem se_lst {es : List Expr} {pos : Pos} {xs : List Ex} (hl : xs.length ≤ 1000) (h : PA X es (tA G p W xs)) : PE X (.List es pos) (tE G p W (.lst xs)) := by
  refine PE.imp (pe_lst h) fun σ H Q ⟨A, ρ, hH, hr, er, h⟩ => ?_
  subst hH
  refine Exists.elim (sa_len (Q := fun vs H1 => ∀ q, H1 q = none → Q (.ref q) (upd H1 q (.lst vs))) (tRs_bind .refl hr er rfl (show ((evEs p xs ρ A.S).bind fun ds S1 => new (.lst ds) S1).sat (Fin G A Q) _ from h) fun B ds vs g hB rs q => ?_)) fun B hB => ?_
  · exact fun y hy => Fin.lst (Fin.grow (show Fin G A Q (.ref B.S.length) (B.S ++ [.lst ds]) from q) g) hB rs hy
  · obtain ⟨ρ, h⟩ := hB
    obtain ⟨hH, hr, er, h⟩ := h
    exact ⟨B, ρ, hH, hr, er, Res.sat_mono h (fun ds S q μ vs H g h1 r => ⟨by have := (q μ vs H g h1 r).1; rw [sizeLine_eq]; omega, (q μ vs H g h1 r).2⟩) fun _ _ _ z => z⟩

/-! ### operators -/
theorem se_bin {a b : Expr} {x y : Ex} {o : Bop} {op : Operator} {pos : Pos} (ho : OpR X (binaryOp op) (rD2 G (binE o))) (ha : PE X a (tE G p W x)) (hb : PE X b (tE G p W y)) : PE X (.BinOp a op b pos) (tE G p W (.bin o x y)) := by
  refine PE.imp (pe_op ho ha hb) fun σ H Q ⟨A, ρ, hH, hr, er, h⟩ => ?_
  subst hH
  refine tR_bind .refl hr er rfl (show ((evE p x ρ A.S).bind fun d S1 => (evE p y ρ S1).bind fun e S2 => binE o d e S2).sat _ _ from h) fun B d v g hB rd q => ?_
  refine tR_bind g hB (er.mono g) rfl q fun C e u g2 hC re q2 => ?_
  exact ⟨C, d, e, _, rfl, hC, rd.mono g2, re, Res.sat_mono q2 (fun _ _ f => f.grow (g.trans g2)) fun _ _ _ z => z⟩
theorem se_neg {a : Expr} {x : Ex} {pos : Pos} (ha : PE X a (tE G p W x)) : PE X (.UnaryOp .USub a pos) (tE G p W (.neg x)) := by
  refine PE.imp (pe_un un_neg ha) fun σ H Q ⟨A, ρ, hH, hr, er, h⟩ => ?_
  subst hH
  refine tR_bind .refl hr er rfl (show ((evE p x ρ A.S).bind negE).sat _ _ from h) fun B d v g hB rd q => ?_
  cases d with
  | int i => exact ⟨i, rd, Fin.at (Fin.grow (show Fin G A Q (.int (-i)) B.S from q) g) .refl hB rfl⟩
  | _ => exact (show False from q).elim
theorem se_not {a : Expr} {x : Ex} {pos : Pos} (hK : X.K = G.K) (ha : PE X a (tE G p W x)) : PE X (.UnaryOp .Not a pos) (tE G p W (.not x)) := by
  refine PE.imp (pe_notT ha) fun σ H Q ⟨A, ρ, hH, hr, er, h⟩ => ?_
  subst hH
  refine tR_bind .refl hr er rfl (show ((evE p x ρ A.S).bind fun d S1 => ofOpt S1 ((truth S1 d).map fun b => D.bl (!b))).sat _ _ from h) fun B d v g hB rd q => ?_
  obtain ⟨b, hb, f⟩ := sat_ofOpt q
  exact ⟨b, by rw [hK]; exact truV_of hB rd hb, Fin.at (Fin.grow f g) .refl hB rfl⟩
theorem se_and {a b : Expr} {rest : List Expr} {x y : Ex} {pos : Pos} (hK : X.K = G.K) (ha : PE X a (tE G p W x)) (hb : PE X (.BoolOp .And (b :: rest) pos) (tE G p W y)) : PE X (.BoolOp .And (a :: b :: rest) pos) (tE G p W (.and x y)) := by
  refine PE.imp (pe_andT ha hb) fun σ H Q ⟨A, ρ, hH, hr, er, h⟩ => ?_
  subst hH
  refine tR_bind .refl hr er rfl (show ((evE p x ρ A.S).bind fun d S1 => (ofOpt S1 (truth S1 d)).bind fun t S1 => if t then evE p y ρ S1 else Res.ok d S1).sat _ _ from h) fun B d v g hB rd q => ?_
  obtain ⟨t, ht, q⟩ := sat_opt q
  refine ⟨t, by rw [hK]; exact truV_of hB rd ht, ?_⟩
  cases t with
  | true => exact tR_last g hB (er.mono g) q
  | false => exact Fin.at (Fin.grow (show Fin G A Q d B.S from q) g) .refl hB rd
theorem se_or {a b : Expr} {rest : List Expr} {x y : Ex} {pos : Pos} (hK : X.K = G.K) (ha : PE X a (tE G p W x)) (hb : PE X (.BoolOp .Or (b :: rest) pos) (tE G p W y)) : PE X (.BoolOp .Or (a :: b :: rest) pos) (tE G p W (.or x y)) := by
  refine PE.imp (pe_orT ha hb) fun σ H Q ⟨A, ρ, hH, hr, er, h⟩ => ?_
  subst hH
  refine tR_bind .refl hr er rfl (show ((evE p x ρ A.S).bind fun d S1 => (ofOpt S1 (truth S1 d)).bind fun t S1 => if t then Res.ok d S1 else evE p y ρ S1).sat _ _ from h) fun B d v g hB rd q => ?_
  obtain ⟨t, ht, q⟩ := sat_opt q
  refine ⟨t, by rw [hK]; exact truV_of hB rd ht, ?_⟩
  cases t with
  | false => exact tR_last g hB (er.mono g) q
  | true => exact Fin.at (Fin.grow (show Fin G A Q d B.S from q) g) .refl hB rd
theorem se_cmp {a b : Expr} {x y : Ex} {o : Cop} {op : CmpOp} {pos : Pos} (ho : OpR X (compareOp op) (rC2 G (cmpE o))) (hm : behindInMarks op b = false) (ha : PE X a (tE G p W x)) (hb : PE X b (tE G p W y)) : PE X (.Compare a [op] [b] pos) (tE G p W (.cmp o x y)) := by
  refine PE.imp (pe_cmpR ho ha hb hm) fun σ H Q ⟨A, ρ, hH, hr, er, h⟩ => ?_
  subst hH
  refine tR_bind .refl hr er rfl (show ((evE p x ρ A.S).bind fun d S1 => (evE p y ρ S1).bind fun e S2 => ofOpt S2 ((cmpE o d e S2).map D.bl)).sat _ _ from h) fun B d v g hB rd q => ?_
  refine tR_bind g hB (er.mono g) rfl q fun C e u g2 hC re q2 => ?_
  obtain ⟨b, hb, f⟩ := sat_ofOpt q2
  exact ⟨C, d, e, rfl, hC, rd.mono g2, re, b, hb, Fin.at (Fin.grow f (g.trans g2)) .refl hC rfl⟩
theorem se_chain {a b c : Expr} {x y z : Ex} {o o' : Cop} {op op' : CmpOp} {pos : Pos} (ho : OpR X (compareOp op) (rC2 G (cmpE o))) (ho' : OpR X (compareOp op') (rC2 G (cmpE o'))) (hm : ∀ b, behindInMarks op b = false) (hm' : ∀ b, behindInMarks op' b = false)
    (ha : PE X a (tE G p W x)) (hb : PE X b (tE G p W y)) (hc : PE X c (tE G p W z)) : PE X (.Compare a [op, op'] [b, c] pos) (tE G p W (.chain o o' x y z)) := by
  refine PE.imp (pe_chain ho ho' ha hb hc (show behindInMarks op' c = false from hm' c)) fun σ H Q ⟨A, ρ, hH, hr, er, h⟩ => ?_
  subst hH
  refine tR_bind .refl hr er rfl (show ((evE p x ρ A.S).bind fun d S1 => (evE p y ρ S1).bind fun e S2 => (ofOpt S2 (cmpE o d e S2)).bind fun t S2 =>
      if t then (evE p z ρ S2).bind fun f S3 => ofOpt S3 ((cmpE o' e f S3).map D.bl) else Res.ok (.bl false) S2).sat _ _ from h) fun B d v g hB rd q => ?_
  refine tR_bind g hB (er.mono g) rfl q fun C e u g2 hC re q2 => ?_
  obtain ⟨t, ht, q2⟩ := sat_opt q2
  refine ⟨C, d, e, rfl, hC, rd.mono g2, re, t, ht, t, rfl, ?_⟩
  cases t with
  | false => exact Fin.at (Fin.grow (show Fin G A Q (.bl false) C.S from q2) (g.trans g2)) .refl hC rfl
  | true =>
    refine tR_bind (g.trans g2) hC (er.mono (g.trans g2)) rfl q2 fun D' f w g3 hD rf q3 => ?_
    obtain ⟨b, hb, fin⟩ := sat_ofOpt q3
    exact ⟨D', e, f, rfl, hD, re.mono g3, rf, b, hb, Fin.at (Fin.grow fin ((g.trans g2).trans g3)) .refl hD rfl⟩
theorem se_ite {c a b : Expr} {z x y : Ex} {pos : Pos} (hc : PT X c (tT G p W z)) (ha : PE X a (tE G p W x)) (hb : PE X b (tE G p W y)) : PE X (.IfExp c a b pos) (tE G p W (.ite z x y)) := by
  refine PE.imp (pe_ifExp hc ha hb) fun σ H Q ⟨A, ρ, hH, hr, er, h⟩ => ?_
  subst hH
  have e : ∀ S, (evE p (.ite z x y) ρ S) = (evB p z ρ S).bind fun t S1 => if t then evE p x ρ S1 else evE p y ρ S1 := fun S => by
    show ((evE p z ρ S).bind fun d S1 => (ofOpt S1 (truth S1 d)).bind fun t S1 => if t then evE p x ρ S1 else evE p y ρ S1) = ((evE p z ρ S).bind fun d S1 => ofOpt S1 (truth S1 d)).bind _
    cases evE p z ρ S <;> rfl
  rw [e] at h
  refine tRb_bind .refl hr er rfl h fun B t g hB q => ?_
  cases t with
  | true => exact tR_last g hB (er.mono g) q
  | false => exact tR_last g hB (er.mono g) q

/-! ### tests -/
theorem st_plain {e : Expr} {x : Ex} (hK : X.K = G.K) (h : PE X e (tE G p W x)) (he : ∀ whole, isTrue e X.env whole = (do let v ← whole; standAt e.pos; holding [v] (truthy v))) : PT X e (tT G p W x) := by
  refine PT.imp (pt_truth h he) fun σ H Q ⟨A, ρ, hH, hr, er, h⟩ => ?_
  subst hH
  refine tR_bind .refl hr er rfl (show ((evE p x ρ A.S).bind fun d S1 => ofOpt S1 (truth S1 d)).sat _ _ from h) fun B d v g hB rd q => ?_
  obtain ⟨b, hb, f⟩ := sat_ofOpt' q
  exact ⟨b, by rw [hK]; exact truV_of hB rd hb, FinB.grow f g B.μ B.H .refl hB⟩
theorem evB_not {x : Ex} {S : Sto} : evB p (.not x) ρ S = (evB p x ρ S).bind fun b S1 => .ok (!b) S1 := by
  show ((evE p x ρ S).bind fun d S1 => ofOpt S1 ((truth S1 d).map fun b => D.bl (!b))).bind (fun d S1 => ofOpt S1 (truth S1 d)) = ((evE p x ρ S).bind fun d S1 => ofOpt S1 (truth S1 d)).bind _
  cases evE p x ρ S with
  | ok d S1 =>
    show (ofOpt S1 ((truth S1 d).map fun b => D.bl (!b))).bind _ = (ofOpt S1 (truth S1 d)).bind _
    cases truth S1 d <;> rfl
  | _ => rfl
theorem st_not {e : Expr} {x : Ex} {pos : Pos} (h : PT X e (tT G p W x)) : PT X (.UnaryOp .Not e pos) (tT G p W (.not x)) := by
  refine PT.imp (pt_not h) fun σ H Q ⟨A, ρ, hH, hr, er, h⟩ => ?_
  subst hH
  rw [evB_not] at h
  refine tRb_bind .refl hr er rfl h fun B b g hB q => ?_
  exact FinB.grow (show FinB G A Q (!b) B.S from q) g B.μ B.H .refl hB
theorem evB_and {x y : Ex} {S : Sto} : evB p (.and x y) ρ S = (evB p x ρ S).bind fun b S1 => if b then evB p y ρ S1 else .ok false S1 := by
  show ((evE p x ρ S).bind fun d S1 => (ofOpt S1 (truth S1 d)).bind fun t S1 => if t then evE p y ρ S1 else Res.ok d S1).bind (fun d S1 => ofOpt S1 (truth S1 d)) = ((evE p x ρ S).bind fun d S1 => ofOpt S1 (truth S1 d)).bind _
  cases evE p x ρ S with
  | ok d S1 =>
    show ((ofOpt S1 (truth S1 d)).bind fun t S1 => if t then evE p y ρ S1 else Res.ok d S1).bind (fun d S1 => ofOpt S1 (truth S1 d)) = (ofOpt S1 (truth S1 d)).bind _
    cases q : truth S1 d with
    | none => rfl
    | some t =>
      cases t with
      | true => rfl
      | false => show ofOpt S1 (truth S1 d) = _; rw [q]; rfl
  | _ => rfl
theorem evB_or {x y : Ex} {S : Sto} : evB p (.or x y) ρ S = (evB p x ρ S).bind fun b S1 => if b then .ok true S1 else evB p y ρ S1 := by
  show ((evE p x ρ S).bind fun d S1 => (ofOpt S1 (truth S1 d)).bind fun t S1 => if t then Res.ok d S1 else evE p y ρ S1).bind (fun d S1 => ofOpt S1 (truth S1 d)) = ((evE p x ρ S).bind fun d S1 => ofOpt S1 (truth S1 d)).bind _
  cases evE p x ρ S with
  | ok d S1 =>
    show ((ofOpt S1 (truth S1 d)).bind fun t S1 => if t then Res.ok d S1 else evE p y ρ S1).bind (fun d S1 => ofOpt S1 (truth S1 d)) = (ofOpt S1 (truth S1 d)).bind _
    cases q : truth S1 d with
    | none => rfl
    | some t =>
      cases t with
      | false => rfl
      | true => show ofOpt S1 (truth S1 d) = _; rw [q]; rfl
  | _ => rfl
theorem st_and {a b : Expr} {rest : List Expr} {x y : Ex} {pos : Pos} (ha : PT X a (tT G p W x)) (hb : PW X (.BoolOp .And (b :: rest) pos) (tT G p W y)) : PW X (.BoolOp .And (a :: b :: rest) pos) (tT G p W (.and x y)) := by
  refine PW.imp (pw_and ha hb) fun σ H Q ⟨A, ρ, hH, hr, er, h⟩ => ?_
  subst hH
  rw [evB_and] at h
  refine tRb_bind .refl hr er rfl h fun B b g hB q => ?_
  cases b with
  | true => exact tRb_last g hB (er.mono g) q
  | false => exact FinB.grow (show FinB G A Q false B.S from q) g B.μ B.H .refl hB
theorem st_or {a b : Expr} {rest : List Expr} {x y : Ex} {pos : Pos} (ha : PT X a (tT G p W x)) (hb : PW X (.BoolOp .Or (b :: rest) pos) (tT G p W y)) : PW X (.BoolOp .Or (a :: b :: rest) pos) (tT G p W (.or x y)) := by
  refine PW.imp (pw_or ha hb) fun σ H Q ⟨A, ρ, hH, hr, er, h⟩ => ?_
  subst hH
  rw [evB_or] at h
  refine tRb_bind .refl hr er rfl h fun B b g hB q => ?_
  cases b with
  | false => exact tRb_last g hB (er.mono g) q
  | true => exact FinB.grow (show FinB G A Q true B.S from q) g B.μ B.H .refl hB
theorem evB_bl {x : Ex} {S : Sto} {β : Type} {f : Sto → Option Bool} : ((evE p x ρ S).bind fun d S1 => ofOpt S1 (truth S1 d)) = evB p x ρ S := rfl
theorem st_cmp {a b : Expr} {x y : Ex} {o : Cop} {op : CmpOp} {pos : Pos} (ho : OpR X (compareOp op) (rC2 G (cmpE o))) (hm : behindInMarks op b = false) (ha : PE X a (tE G p W x)) (hb : PE X b (tE G p W y)) : PT X (.Compare a [op] [b] pos) (tT G p W (.cmp o x y)) := by
  refine PT.imp (pt_cmpR ho ha hb hm) fun σ H Q ⟨A, ρ, hH, hr, er, h⟩ => ?_
  subst hH
  have h := Res.sat_bind (show ((evE p (.cmp o x y) ρ A.S).bind fun d S1 => ofOpt S1 (truth S1 d)).sat _ _ from h)
  refine tR_bind .refl hr er rfl (show ((evE p x ρ A.S).bind fun d S1 => (evE p y ρ S1).bind fun e S2 => ofOpt S2 ((cmpE o d e S2).map D.bl)).sat _ _ from h) fun B d v g hB rd q => ?_
  refine tR_bind g hB (er.mono g) rfl q fun C e u g2 hC re q2 => ?_
  obtain ⟨b, hb, f⟩ := sat_ofOpt q2
  exact ⟨C, d, e, rfl, hC, rd.mono g2, re, b, hb, b, rfl, FinB.grow (show FinB G A Q b C.S from f) (g.trans g2) C.μ C.H .refl hC⟩
theorem st_chain {a b c : Expr} {x y z : Ex} {o o' : Cop} {op op' : CmpOp} {pos : Pos} (ho : OpR X (compareOp op) (rC2 G (cmpE o))) (ho' : OpR X (compareOp op') (rC2 G (cmpE o'))) (hm : ∀ b, behindInMarks op b = false) (hm' : ∀ b, behindInMarks op' b = false)
    (ha : PE X a (tE G p W x)) (hb : PE X b (tE G p W y)) (hc : PE X c (tE G p W z)) : PT X (.Compare a [op, op'] [b, c] pos) (tT G p W (.chain o o' x y z)) := by
  refine PT.imp (pt_chain ho ho' ha hb hc (show behindInMarks op' c = false from hm' c)) fun σ H Q ⟨A, ρ, hH, hr, er, h⟩ => ?_
  subst hH
  have h := Res.sat_bind (show ((evE p (.chain o o' x y z) ρ A.S).bind fun d S1 => ofOpt S1 (truth S1 d)).sat _ _ from h)
  refine tR_bind .refl hr er rfl (show ((evE p x ρ A.S).bind fun d S1 => (evE p y ρ S1).bind fun e S2 => (ofOpt S2 (cmpE o d e S2)).bind fun t S2 =>
      if t then (evE p z ρ S2).bind fun f S3 => ofOpt S3 ((cmpE o' e f S3).map D.bl) else Res.ok (.bl false) S2).sat _ _ from h) fun B d v g hB rd q => ?_
  refine tR_bind g hB (er.mono g) rfl q fun C e u g2 hC re q2 => ?_
  obtain ⟨t, ht, q2⟩ := sat_opt q2
  refine ⟨C, d, e, rfl, hC, rd.mono g2, re, t, ht, t, rfl, ?_⟩
  cases t with
  | false => exact ⟨false, rfl, FinB.grow (show FinB G A Q false C.S from q2) (g.trans g2) C.μ C.H .refl hC⟩
  | true =>
    refine tR_bind (g.trans g2) hC (er.mono (g.trans g2)) rfl q2 fun D' f w g3 hD rf q3 => ?_
    obtain ⟨b, hb, fin⟩ := sat_ofOpt q3
    exact ⟨D', e, f, rfl, hD, re.mono g3, rf, b, hb, b, rfl, FinB.grow (show FinB G A Q b D'.S from fin) ((g.trans g2).trans g3) D'.μ D'.H .refl hD⟩
end Mini
set_option maxHeartbeats 2000000
/-! Mini: calls, fields, subscripts. -/
namespace Mini
open PySem PySem.Spec PyProof.Rows L2

variable {G : Gx} {A A0 : Ab} {X : Cx} {W : WX} {p : Pg} {σ : L2.St} {ρ : Loc}
/-! ### built-in functions by name -/
theorem se_fn {x : Str} {id : String} {g : Fn} {es : List Expr} {xs : List Ex} {p1 pos : Pos} (hc : CallR X (.builtin id) (rDs G (fnE g))) (gl : Gl X x) (hm : X.mg x = none) (hv : bootBuiltins x = some (.builtin id)) (hn : x ≠ "__name__") (hd : (x == ("__debug__" : Str)) = false)
    (hs : es.all noStar = true) (hne : es ≠ []) (ha : PA X es (tA G p W xs)) : PE X (.Call (.Name x p1) es [] pos) (tE G p W (.fn g xs)) := by
  cases es with
  | nil => exact absurd rfl hne
  | cons e es =>
    have h2 : noStar e = true ∧ es.all noStar = true := by simpa using hs
    refine PE.imp (pe_callB hc gl hm hv ha hn hd (star_cons h2.1) (star_all h2.2)) fun σ H Q ⟨A, ρ, hH, hr, er, h⟩ => ?_
    subst hH
    refine tRs_bind .refl hr er rfl (show ((evEs p xs ρ A.S).bind fun ds S1 => fnE g ds S1).sat _ _ from h) fun B ds vs g hB rs q => ?_
    exact ⟨B, ds, _, rfl, hB, rs, Res.sat_mono q (fun _ _ f => f.grow g) fun _ _ _ z => z⟩
theorem se_fnT {x : Str} {T : String} {g : Fn} {es : List Expr} {xs : List Ex} {p1 pos : Pos} (hc : CallR X (.type T) (rDs G (fnE g))) (gl : Gl X x) (hm : X.mg x = none) (hv : bootBuiltins x = some (.type T)) (hn : x ≠ "__name__") (hd : (x == ("__debug__" : Str)) = false)
    (hs : es.all noStar = true) (hne : es ≠ []) (ha : PA X es (tA G p W xs)) : PE X (.Call (.Name x p1) es [] pos) (tE G p W (.fn g xs)) := by
  cases es with
  | nil => exact absurd rfl hne
  | cons e es =>
    have h2 : noStar e = true ∧ es.all noStar = true := by simpa using hs
    refine PE.imp (pe_callTy hc gl hm hv ha hn hd (star_cons h2.1) (star_all h2.2)) fun σ H Q ⟨A, ρ, hH, hr, er, h⟩ => ?_
    subst hH
    refine tRs_bind .refl hr er rfl (show ((evEs p xs ρ A.S).bind fun ds S1 => fnE g ds S1).sat _ _ from h) fun B ds vs g hB rs q => ?_
    exact ⟨B, ds, _, rfl, hB, rs, Res.sat_mono q (fun _ _ f => f.grow g) fun _ _ _ z => z⟩
theorem se_gcd {x : Str} {es : List Expr} {xs : List Ex} {p1 pos : Pos} (gl : Gl X x) (hm : X.mg x = some (.builtin "math.gcd")) (hd : (x == ("__debug__" : Str)) = false) (hs : es.all noStar = true) (hne : es ≠ []) (ha : PA X es (tA G p W xs)) :
    PE X (.Call (.Name x p1) es [] pos) (tE G p W (.fn .gcd xs)) := by
  cases es with
  | nil => exact absurd rfl hne
  | cons e es =>
    have h2 : noStar e = true ∧ es.all noStar = true := by simpa using hs
    refine PE.imp (pe_callBfun (sn_gcd (G := G)) gl hm ha hd (star_cons h2.1) (star_all h2.2)) fun σ H Q ⟨A, ρ, hH, hr, er, h⟩ => ?_
    subst hH
    refine tRs_bind .refl hr er rfl (show ((evEs p xs ρ A.S).bind fun ds S1 => fnE .gcd ds S1).sat _ _ from h) fun B ds vs g hB rs q => ?_
    exact ⟨B, ds, _, rfl, hB, rs, Res.sat_mono q (fun _ _ f => f.grow g) fun _ _ _ z => z⟩
theorem se_isi {e : Expr} {x : Ex} {t : Ty} {ty : Str} {p1 p2 pos : Pos} (hK : X.K = G.K) (gl : Gl X "isinstance") (hm : X.mg "isinstance" = none) (gt : Gl X ty) (mt : X.mg ty = none) (ht : bootBuiltins ty = some (.type (tyStr t))) (hn : ty ≠ "__name__") (hd : (ty == ("__debug__" : Str)) = false)
    (hs : noStar e = true) (ha : PE X e (tE G p W x)) : PE X (.Call (.Name "isinstance" p1) [e, .Name ty p2] [] pos) (tE G p W (.fn (.isi t) [x])) := by
  have pt : PE X (.Name ty p2) (tC (.ty (tyStr t))) := pe_bltn gt mt ht (show RelV (.ty (tyStr t)) (.type (tyStr t)) from rfl) hn hd
  refine PE.imp (pe_callB (sn_isi (t := t) hK) gl hm (by decide +kernel) (pa_cons ha (pa_cons pt pa_nil rfl) (star_cons hs)) (by decide) (by decide) (star_cons hs) rfl) fun σ H Q ⟨A, ρ, hH, hr, er, h⟩ => ?_
  subst hH
  have h : ((evE p x ρ A.S).bind fun d S1 => fnE (.isi t) [d] S1).sat (Fin G A Q) (XW G A (xw W σ)) := by
    have h : (((evE p x ρ A.S).bind fun d S1 => Res.ok [d] S1).bind fun ds S1 => fnE (.isi t) ds S1).sat (Fin G A Q) (XW G A (xw W σ)) := h
    cases q : evE p x ρ A.S with
    | no => rw [q] at h; exact h
    | ok d S1 => rw [q] at h; exact h
    | ex c f S1 => rw [q] at h; exact h
  refine tR_bind .refl hr er rfl h fun B d v g hB rd q => ?_
  exact ⟨v, rfl, B, [d], _, rfl, hB, .cons rd .nil, Res.sat_mono q (fun _ _ f => f.grow g) fun _ _ _ z => z⟩

/-! ### own defs -/
def spD (G : Gx) (r : List D → Sto → Res D) : Sp := fun vs H Q E => ∃ A ds, A.H = H ∧ HR G A ∧ RepL G A ds vs ∧ (r ds A.S).sat (Fin G A Q) (XW G A E)
theorem se_call {x : Str} {f : Addr} {fd : FuncData} {ps : List Str} {k i : Nat} {es : List Expr} {xs : List Ex} {p1 pos : Pos} (F : FnG X.prog X.w X.K X.mg X.base k f fd ps (spD G (p.call i))) (hr : Room k X.A) (hg : X.A.guards = some []) (gl : Gl X x) (hm : X.mg x = some (.ref f))
    (hk : PySem.W.keepIn X.K (.ref f) = true) (hb : Binds X.K fd ps []) (tk : Takes X W) (hd : (x == ("__debug__" : Str)) = false) (hs : es.all noStar = true) (hl : es = [] → xs = []) (ha : PA X es (tA G p W xs)) : PE X (.Call (.Name x p1) es [] pos) (tE G p W (.call i xs none)) := by
  refine PE.imp (pe_g F hr hg gl hm hk hb tk ha (fun e σ H Q h => sa_zero (hl e) h) hs hd) fun σ H Q ⟨A, ρ, hH, hR, er, h⟩ => ?_
  subst hH
  refine tRs_bind .refl hR er rfl (show ((evEs p xs ρ A.S).bind fun ds S1 => (ofOpt S1 (permD ds none)).bind fun ds S1 => p.call i ds S1).sat _ _ from h) fun B ds vs g hB rs q => ?_
  exact ⟨B, ds, rfl, hB, rs, Res.sat_mono q (fun _ _ f => f.grow g) fun _ _ _ z => z.grow g⟩
/-- the keywords' values -/
theorem sk_nil : PK X [] (tA G p W []) := by
  refine ⟨fun pos pins s σ H Q I ⟨A, ρ, hH, hr, er, h⟩ => pk_nil.run pos pins s σ H Q I ?_⟩
  subst hH
  exact (show FinL G A Q [] A.S from h) A.μ [] A.H .refl hr .nil
theorem sk_cons {e : Expr} {nm : Option Str} {kp : Pos} {kws : List Keyword} {x : Ex} {xs : List Ex} (h1 : PE X e (tE G p W x)) (h2 : PK X kws (tA G p W xs)) : PK X (⟨nm, e, kp⟩ :: kws) (tA G p W (x :: xs)) := by
  refine ⟨fun pos pins s σ H Q I ⟨A, ρ, hH, hr, er, h⟩ => (pk_cons h1 h2).run pos pins s σ H Q I ?_⟩
  subst hH
  refine tR_bind .refl hr er rfl (show ((evE p x ρ A.S).bind fun d S1 => (evEs p xs ρ S1).bind fun ds S2 => Res.ok (d :: ds) S2).sat _ _ from h) fun B d v g hB rd q => ?_
  refine tRs_bind g hB (er.mono g) rfl q fun C ds vs g2 hC rs q2 => ?_
  exact (show FinL G A Q (d :: ds) C.S from q2) C.μ _ C.H (g.trans g2) hC (.cons (rd.mono g2) rs)
def permV {α : Type} (d : α) (xs : List α) (q : List Nat) : List α := q.map fun i => xs.getD i d
theorem evEs_app : ∀ {xs ys : List Ex} {ρ : Loc} {S : Sto}, evEs p (xs ++ ys) ρ S = (evEs p xs ρ S).bind fun ds S1 => (evEs p ys ρ S1).bind fun es S2 => .ok (ds ++ es) S2
  | [], ys, ρ, S => by
    show evEs p ys ρ S = (evEs p ys ρ S).bind fun es S2 => .ok ([] ++ es) S2
    cases evEs p ys ρ S <;> rfl
  | x :: xs, ys, ρ, S => by
    show ((evE p x ρ S).bind fun d S1 => (evEs p (xs ++ ys) ρ S1).bind fun ds S2 => Res.ok (d :: ds) S2) = ((evE p x ρ S).bind fun d S1 => (evEs p xs ρ S1).bind fun ds S2 => Res.ok (d :: ds) S2).bind _
    cases evE p x ρ S with
    | ok d S1 =>
      show ((evEs p (xs ++ ys) ρ S1).bind fun ds S2 => Res.ok (d :: ds) S2) = ((evEs p xs ρ S1).bind fun ds S2 => Res.ok (d :: ds) S2).bind _
      rw [evEs_app]
      cases evEs p xs ρ S1 with
      | ok ds S2 =>
        show ((evEs p ys ρ S2).bind fun es S3 => Res.ok (ds ++ es) S3).bind _ = (evEs p ys ρ S2).bind _
        cases evEs p ys ρ S2 <;> rfl
      | _ => rfl
    | _ => rfl
theorem mapM_get {ds : List D} : ∀ {q : List Nat} {es : List D}, q.mapM (fun i => ds[i]?) = some es → ∀ {vs : List V}, RepL G A ds vs → RepL G A es (permV .non vs q)
  | [], es, h, vs, r => by
    rw [List.mapM_nil] at h
    cases h
    exact .nil
  | i :: q, es, h, vs, r => by
    rw [List.mapM_cons] at h
    obtain ⟨d, h1, h2⟩ := Option.bind_eq_some_iff.mp h
    obtain ⟨fs, h3, h4⟩ := Option.bind_eq_some_iff.mp h2
    cases h4
    obtain ⟨v, h5, h6⟩ := r.get h1
    refine .cons ?_ (mapM_get h3 r)
    show Rep G A d (vs.getD i .non)
    rw [List.getD_eq_getElem?_getD, h5]
    exact h6
theorem Vals.perm {vs : List V} {us : List Value} (r : Vals vs us) : ∀ q : List Nat, Vals (permV .non vs q) (permV .none us q)
  | [] => .nil
  | i :: q => by
    refine .cons ?_ (Vals.perm r q)
    show RelV (vs.getD i .non) (us.getD i .none)
    rw [List.getD_eq_getElem?_getD, List.getD_eq_getElem?_getD]
    cases h : vs[i]? with
    | none => rw [r.none_of h]; rfl
    | some v =>
      obtain ⟨u, h1, h2⟩ := r.get h
      rw [h1]
      exact h2
theorem se_callK {x : Str} {f : Addr} {fd : FuncData} {ps names : List Str} {q : List Nat} {k i : Nat} {es : List Expr} {kws : List Keyword} {xs ys : List Ex} {p1 pos : Pos} (F : FnG X.prog X.w X.K X.mg X.base k f fd ps (spD G (p.call i))) (hr : Room k X.A) (hg : X.A.guards = some []) (gl : Gl X x)
    (hm : X.mg x = some (.ref f)) (hk : PySem.W.keepIn X.K (.ref f) = true) (hb : ∀ (s : Shared) (us ws : List Value), us.length = es.length → ws.length = names.length → BindsTo s fd ⟨us, names.zip ws⟩ (ps.zip (permV .none (us ++ ws) q))) (tk : Takes X W)
    (hd : (x == ("__debug__" : Str)) = false) (hs : es.all noStar = true) (hl : es.length = xs.length) (hl2 : names.length = ys.length) (ha : PA X es (tA G p W xs)) (hkw : PK X kws (tA G p W ys))
    (hks : ∀ pos, (backToKw pos (keywordEach kws X.env)).all (·.1.isSome) = true ∧ (backToKw pos (keywordEach kws X.env)).filterMap (·.1) = names) : PE X (.Call (.Name x p1) es kws pos) (tE G p W (.call i (xs ++ ys) (some q))) := by
  refine PE.imp (pe_gk (g := fun us ws => permV .none (us ++ ws) q) (gV := fun vs zs => permV .non (vs ++ zs) q) F hr hg gl hm hk hb (fun vs us zs ws r1 r2 => Vals.perm (r1.append r2) q) tk ha
    (fun e σ H Q h => sa_zero (List.eq_nil_of_length_eq_zero (by rw [← hl, e]; rfl)) h) hkw hs hks (fun pins s σ H Q I h => by rw [hl]; exact sa_len h) (fun pins s σ H Q I h => by rw [hl2]; exact sa_len h) hd) fun σ H Q ⟨A, ρ, hH, hR, er, h⟩ => ?_
  subst hH
  have h : ((evEs p (xs ++ ys) ρ A.S).bind fun ds S1 => (ofOpt S1 (permD ds (some q))).bind fun ds S1 => p.call i ds S1).sat (Fin G A Q) (XW G A (xw W σ)) := h
  rw [evEs_app] at h
  have h : ((evEs p xs ρ A.S).bind fun ds S1 => (evEs p ys ρ S1).bind fun es S2 => (ofOpt S2 (permD (ds ++ es) (some q))).bind fun ds S1 => p.call i ds S1).sat (Fin G A Q) (XW G A (xw W σ)) := by
    cases q1 : evEs p xs ρ A.S with
    | ok ds S1 =>
      rw [q1] at h
      have h : (((evEs p ys ρ S1).bind fun es S2 => Res.ok (ds ++ es) S2).bind fun ds S1 => (ofOpt S1 (permD ds (some q))).bind fun ds S1 => p.call i ds S1).sat (Fin G A Q) (XW G A (xw W σ)) := h
      show ((evEs p ys ρ S1).bind fun es S2 => (ofOpt S2 (permD (ds ++ es) (some q))).bind fun ds S1 => p.call i ds S1).sat (Fin G A Q) (XW G A (xw W σ))
      cases q2 : evEs p ys ρ S1 with
      | ok es S2 => rw [q2] at h; exact h
      | ex c f S2 => rw [q2] at h; exact h
      | no => rw [q2] at h; exact h
    | ex c f S1 => rw [q1] at h; exact h
    | no => rw [q1] at h; exact h
  refine tRs_bind .refl hR er rfl h fun B ds vs g hB rs h2 => ?_
  refine tRs_bind g hB (er.mono g) rfl h2 fun C es zs g2 hC rs2 h3 => ?_
  obtain ⟨as, ha, h3⟩ := sat_opt h3
  exact ⟨C, as, rfl, hC, mapM_get (show q.mapM (fun i => (ds ++ es)[i]?) = some as from ha) ((rs.mono g2).append rs2), Res.sat_mono h3 (fun _ _ f => f.grow (g.trans g2)) fun _ _ _ z => z.grow (g.trans g2)⟩
/-- a new instance, then its __init__ -/
theorem HR.ins {x dx : Addr} {c : Nat} (h : HR G A) (hx : A.H x = none) (hdx : A.H dx = none) (hne : dx ≠ x) :
    HR G (A.add x (.ins c []) (upd (upd A.H dx (.own x)) x (.ins (G.ca c) dx []))) ∧ Grow G A (A.add x (.ins c []) (upd (upd A.H dx (.own x)) x (.ins (G.ca c) dx []))) := by
  have e1 : upd A.H dx (.own x) x = none := by rw [upd_ne (Ne.symm hne)]; exact hx
  have t : ∀ a ys, SqT G.K A.H a ys → SqT G.K (upd (upd A.H dx (.own x)) x (.ins (G.ca c) dx [])) a ys := fun a ys q => sqT_put (sqT_put q fun u e => by rw [hdx] at e; cases e) fun u e => by rw [e1] at e; cases e
  refine ⟨h.add hx t (fun a ys q => fzL_put (fzL_put q fun u e => by rw [hdx] at e; cases e) fun u e => by rw [e1] at e; cases e) (fun b o e => rw_at (rw_at e (ne_of_none e hdx)) (ne_of_none e hx)) ⟨dx, [], upd_same, rfl⟩, .add t⟩
def initE (r : List D → Sto → Res D) (c : Nat) (ds : List D) (S : Sto) : Res D := (r (.ref S.length :: ds) (S ++ [.ins c []])).bind fun z S1 => match z with
  | .non => .ok (.ref S.length) S1
  | _ => .no
theorem se_make {x : Str} {f C : Addr} {fd : FuncData} {ps : List Str} {k c : Nat} {es : List Expr} {xs : List Ex} {p1 pos : Pos} {r : List D → Sto → Res D} (M : Mk X.K C f) (hC : C = G.ca c) (F : FnG X.prog X.w X.K X.mg X.base k f fd ps (spD G r)) (hp : ∀ ds S, p.make c ds S = initE r c ds S)
    (hr : Room (k + 1) X.A) (hg : X.A.guards = some []) (gl : Gl X x) (hm : X.mg x = some (.ref C)) (hb : Binds X.K fd ps []) (tk : Takes X W) (hd : (x == ("__debug__" : Str)) = false) (hs : es.all noStar = true) (hl : es = [] → xs = []) (ha : PA X es (tA G p W xs)) :
    PE X (.Call (.Name x p1) es [] pos) (tE G p W (.make c xs)) := by
  subst hC
  refine PE.imp (pe_mkg M F hr hg gl hm hb tk ha (fun e σ H Q h => sa_zero (hl e) h) hs hd) fun σ H Q ⟨A, ρ, hH, hR, er, h⟩ => ?_
  subst hH
  refine tRs_bind .refl hR er rfl (show ((evEs p xs ρ A.S).bind fun ds S1 => p.make c ds S1).sat _ _ from h) fun B ds vs g hB rs q => ?_
  intro y dy hy hdy hne
  rw [hp] at q
  obtain ⟨i1, i2⟩ := hB.ins (c := c) hy hdy hne
  refine ⟨B.add y (.ins c []) (upd (upd B.H dy (.own y)) y (.ins (G.ca c) dy [])), .ref B.S.length :: ds, rfl, i1, .cons ⟨by show B.S.length < (B.S ++ [Cl.ins c []]).length; simp, by rw [Ab.add_new]⟩ (rs.mono i2), ?_⟩
  refine Res.sat_mono (Res.sat_bind (show ((r (.ref B.S.length :: ds) (B.S ++ [.ins c []])).bind fun z S1 => match z with
    | .non => Res.ok (D.ref B.S.length) S1
    | _ => .no).sat (Fin G A Q) (XW G A (xw W σ)) from q)) (fun z S1 f => ?_) fun _ _ _ z => (z.grow g).grow i2
  intro μ v H1 g1 h1 rv
  cases z with
  | non =>
    have f : Fin G A Q (.ref B.S.length) S1 := f
    refine ⟨rv, f μ _ H1 ((g.trans i2).trans g1) h1 ⟨?_, ?_⟩⟩
    · have := g1.len
      have e : (B.add y (.ins c []) (upd (upd B.H dy (.own y)) y (.ins (G.ca c) dy []))).S.length = B.S.length + 1 := by
        show (B.S ++ [Cl.ins c []]).length = _
        simp
      omega
    · have := g1.μ B.S.length (by show B.S.length < (B.S ++ [Cl.ins c []]).length; simp)
      rw [this, Ab.add_new]
  | _ => exact (show False from f).elim

/-! ### fields -/
theorem RepF.lookup : ∀ {fs : List (Str × D)} {vs : List (Str × V)} {f : Str} {d : D}, RepF G A fs vs → fs.lookup f = some d → ∃ v, vs.lookup f = some v ∧ Rep G A d v
  | [], _, _, _, _, e => by cases e
  | (g, d') :: fs, vs, f, d, h, e => by
    obtain ⟨v, ws, rfl, h1, h2⟩ : ∃ v ws, vs = (g, v) :: ws ∧ Rep G A d' v ∧ RepF G A fs ws := h
    rw [List.lookup_cons] at e ⊢
    cases hb : f == g with
    | true => rw [hb] at e; cases e; exact ⟨v, rfl, h1⟩
    | false => rw [hb] at e; exact RepF.lookup h2 e
theorem RepF.lookup_none : ∀ {fs : List (Str × D)} {vs : List (Str × V)} {f : Str}, RepF G A fs vs → fs.lookup f = none → vs.lookup f = none
  | [], vs, f, h, e => by
    have : vs = [] := h
    rw [this]; rfl
  | (g, d') :: fs, vs, f, h, e => by
    obtain ⟨v, ws, rfl, h1, h2⟩ : ∃ v ws, vs = (g, v) :: ws ∧ Rep G A d' v ∧ RepF G A fs ws := h
    rw [List.lookup_cons] at e ⊢
    cases hb : f == g with
    | true => rw [hb] at e; cases e
    | false => rw [hb] at e; exact RepF.lookup_none h2 e
theorem se_fld {o : Expr} {x : Ex} {f : Str} {pos : Pos} (hK : X.K = G.K) (hc : ∀ c, Cls X.K (G.ca c) ∧ NoAttr X.K (G.ca c) f) (hb : attributeBase o f X.env (eval o X.env) = eval o X.env) (ho : PE X o (tE G p W x)) : PE X (.Attribute o f pos) (tE G p W (.fld x f)) := by
  refine PE.imp (pe_fld ho hb) fun σ H Q ⟨A, ρ, hH, hr, er, h⟩ => ?_
  subst hH
  refine tR_bind .refl hr er rfl (show ((evE p x ρ A.S).bind (fldE f)).sat _ _ from h) fun B d v g hB rd q => ?_
  cases d with
  | ref n =>
    obtain ⟨_, rfl⟩ := rd
    have q : (match B.S[n]? with
      | some (.ins _ fs) => ofOpt B.S (fs.lookup f)
      | _ => Res.no).sat (Fin G A Q) (XW G A (xw W σ)) := q
    split at q
    · rename_i c fs hn
      obtain ⟨d, hd, fin⟩ := sat_ofOpt' q
      obtain ⟨dx, vs, h1, h2⟩ : ∃ dx vs, B.H (B.μ n) = some (.ins (G.ca c) dx vs) ∧ RepF G B fs vs := hB.cell n _ hn
      obtain ⟨v, h3, h4⟩ := h2.lookup hd
      exact ⟨_, _, dx, vs, v, rfl, h1, (hc c).1, (hc c).2, h3, Fin.at (Fin.grow fin g) .refl hB h4⟩
    · exact (show False from q).elim
  | _ => exact (show False from q).elim

/-! ### subscripts -/
theorem se_ix {a b : Expr} {x y : Ex} {pos : Pos} (hK : X.K = G.K) (hs : PlainIx b) (ha : PE X a (tE G p W x)) (hb : PE X b (tE G p W y)) : PE X (.Subscript a b pos) (tE G p W (.ix x y)) := by
  refine PE.imp (pe_ix (sn_ix hK) ha hb hs) fun σ H Q ⟨A, ρ, hH, hr, er, h⟩ => ?_
  subst hH
  refine tR_bind .refl hr er rfl (show ((evE p x ρ A.S).bind fun d S1 => (evE p y ρ S1).bind fun e S2 => ofOpt S2 (ixE S2 d e)).sat _ _ from h) fun B d v g hB rd q => ?_
  refine tR_bind g hB (er.mono g) rfl q fun C e u g2 hC re q2 => ?_
  obtain ⟨b, hb, f⟩ := sat_ofOpt' q2
  exact ⟨C, d, e, b, rfl, hC, rd.mono g2, re, hb, f.grow (g.trans g2)⟩
/-- a slice's part -/
def tO (G : Gx) (p : Pg) (W : WX) (x : Option Ex) : TO := fun σ H Q => ∃ A ρ, A.H = H ∧ HR G A ∧ ER G A ρ σ ∧ (evO p x ρ A.S).sat (fun o S' => ∀ μ H', Grow G A ⟨μ, S', H'⟩ → HR G ⟨μ, S', H'⟩ → Q o H') (XW G A (xw W σ))
theorem so_none : PO X none (tO G p W none) := by
  refine ⟨fun pins s σ H Q I ⟨A, ρ, hH, hr, er, h⟩ => po_none.run pins s σ H Q I ?_⟩
  subst hH
  exact h A.μ A.H .refl hr
theorem so_some {e : Expr} {x : Ex} (h : PE X e (tE G p W x)) : PO X (some e) (tO G p W (some x)) := by
  refine ⟨fun pins s σ H Q I ⟨A, ρ, hH, hr, er, hw⟩ => (po_some h).run pins s σ H Q I ?_⟩
  subst hH
  refine tR_bind .refl hr er rfl (show ((evE p x ρ A.S).bind fun d S1 => ofOpt S1 ((partI d).map some)).sat _ _ from hw) fun B d v g hB rd q => ?_
  obtain ⟨i, h1, h2⟩ := sat_ofOpt q
  cases d with
  | int j => cases h1; exact ⟨_, rd, h2 B.μ B.H g hB⟩
  | _ => cases h1
theorem tO_bind {β : Type} {x : Option Ex} {k : Option Int → Sto → Res β} {P : β → Sto → Prop} {w : XK} {Q : Option Int → Hp → Prop} (g0 : Grow G A0 A) (hr : HR G A) (er : ER G A ρ σ) (hw : w = xw W σ) (h : ((evO p x ρ A.S).bind k).sat P (XW G A0 w))
    (hk : ∀ B o, Grow G A B → HR G B → (k o B.S).sat P (XW G A0 w) → Q o B.H) : tO G p W x σ A.H Q := by
  subst hw
  exact ⟨A, ρ, rfl, hr, er, Res.sat_mono (Res.sat_bind h) (fun b S q μ H g h1 => hk ⟨μ, S, H⟩ b g h1 q) fun _ _ _ z => z.grow g0⟩
theorem se_sl {a : Expr} {lo hi : Option Expr} {x : Ex} {l h : Option Ex} {p2 pos : Pos} (hK : X.K = G.K) (ha : PE X a (tE G p W x)) (hl : PO X lo (tO G p W l)) (hh : PO X hi (tO G p W h)) : PE X (.Subscript a (.Slice lo hi none p2) pos) (tE G p W (.sl x l h)) := by
  refine PE.imp (pe_slice (sn_sl (G := G) hK) ha hl hh) fun σ H Q ⟨A, ρ, hH, hr, er, hw⟩ => ?_
  subst hH
  refine tR_bind .refl hr er rfl (show ((evE p x ρ A.S).bind fun d S1 => (evO p l ρ S1).bind fun l S2 => (evO p h ρ S2).bind fun h S3 => slE d l h S3).sat _ _ from hw) fun B d v g hB rd q => ?_
  refine tO_bind g hB (er.mono g) rfl q fun C o g2 hC q2 => ?_
  refine tO_bind (g.trans g2) hC (er.mono (g.trans g2)) rfl q2 fun D' o2 g3 hD q3 => ?_
  exact ⟨D', d, _, rfl, hD, (rd.mono g2).mono g3, Res.sat_mono q3 (fun _ _ f => f.grow ((g.trans g2).trans g3)) fun _ _ _ z => z⟩
theorem se_rev {a : Expr} {x : Ex} {k : Nat} {p1 p2 p3 pos : Pos} (hK : X.K = G.K) (ha : PE X a (tE G p W x)) : PE X (.Subscript a (.Slice none none (some (.UnaryOp .USub (.Constant (.int 1) k p1) p2)) p3) pos) (tE G p W (.rev x)) := by
  refine PE.imp (sn_rev (G := G) hK ha) fun σ H Q ⟨A, ρ, hH, hr, er, hw⟩ => ?_
  subst hH
  refine tR_bind .refl hr er rfl (show ((evE p x ρ A.S).bind fun d S1 => revE d S1).sat _ _ from hw) fun B d v g hB rd q => ?_
  exact ⟨B, d, _, rfl, hB, rd, Res.sat_mono q (fun _ _ f => f.grow g) fun _ _ _ z => z⟩

/-! ### methods of lists -/
theorem tyV_list {d : D} {v : V} (hK : X.K = G.K) (hr : HR G A) (rd : Rep G A d v) (h : isLst A.S d = true) : tyV X.K "list" v A.H := by
  cases d with
  | ref n =>
    obtain ⟨_, rfl⟩ := rd
    obtain ⟨ds, h⟩ := Option.isSome_iff_exists.mp (show (lstAt A.S n).isSome = true from h)
    obtain ⟨_, xs, h1, _⟩ := hr.lstAt h
    exact .inl ⟨rfl, xs, .of h1⟩
  | _ => cases h
theorem all_plain : ∀ {es : List Expr} {env : Env} {pos : Pos}, es.all noStar = true → (backTo pos (starEach es env)).all (fun x => !x.1) = true
  | [], _, _, _ => rfl
  | e :: es, env, pos, h => by
    have h2 : noStar e = true ∧ es.all noStar = true := by simpa using h
    rw [star_cons h2.1]
    show (!false && (backTo pos (starEach es env)).all (fun x => !x.1)) = true
    rw [all_plain h2.2]
    rfl
theorem se_me {o : Expr} {x : Ex} {name : Str} {id : String} {m : Me} {es : List Expr} {xs : List Ex} {apos cpos : Pos} (hK : X.K = G.K) (slot : Slot "list" name id) (hty : typeOf (.builtin id) = pure (.type "method_descriptor")) (hm : MtR X id (rMe G m))
    (hb : attributeBase o name X.env (eval o X.env) = eval o X.env) (hline : (apos.endLine == cpos.line) = true) (hs : es.all noStar = true) (hlen : es.length < 29) (hl : es = [] → xs = []) (ho : PE X o (tE G p W x)) (ha : PA X es (tA G p W xs)) :
    PE X (.Call (.Attribute o name apos) es [] cpos) (tE G p W (.me m x xs)) := by
  have key : ∀ {σ H Q}, tE G p W (.me m x xs) σ H Q → tE G p W x σ H fun v H1 => tyV X.K "list" v H1 ∧ tA G p W xs σ H1 fun vs H2 => rMe G m v vs H2 Q := fun {σ H Q} ⟨A, ρ, hH, hr, er, hw⟩ => by
    subst hH
    refine tR_bind .refl hr er rfl (show ((evE p x ρ A.S).bind fun d S1 => if isLst S1 d then (evEs p xs ρ S1).bind fun ds S2 => meE m d ds S2 else .no).sat _ _ from hw) fun B d v g hB rd q => ?_
    split at q
    · rename_i hc
      refine ⟨tyV_list hK hB rd hc, tRs_bind g hB (er.mono g) rfl q fun C ds vs g2 hC rs q2 => ?_⟩
      exact ⟨C, d, ds, _, rfl, hC, rd.mono g2, rs, Res.sat_mono q2 (fun _ _ f => f.grow (g.trans g2)) fun _ _ _ z => z⟩
    · exact (show False from q).elim
  cases es with
  | nil =>
    refine PE.imp (pe_bm0 PySem.F.plainAttrs_list slot hty hm ho hb hline) fun σ H Q h => ?_
    obtain ⟨A, ρ, hH, hr, er, hw⟩ := key h
    exact ⟨A, ρ, hH, hr, er, Res.sat_mono hw (fun d S q μ v H1 g h1 r => ⟨(q μ v H1 g h1 r).1, sa_zero (hl rfl) (q μ v H1 g h1 r).2⟩) fun _ _ _ z => z⟩
  | cons e es =>
    have h2 : noStar e = true ∧ es.all noStar = true := by simpa using hs
    refine PE.imp (pe_bm PySem.F.plainAttrs_list slot hty hm ho ha hb ?_ hline (star_cons h2.1) (star_all h2.2)) fun σ H Q h => key h
    have hk : backToKw cpos (keywordEach [] X.env) = [] := rfl
    rw [all_plain hs, hk]
    simp at hlen ⊢
    omega
end Mini
set_option maxHeartbeats 2000000
/-! Mini: what a loop walks; targets. -/
namespace Mini
open PySem PySem.Spec PyProof.Rows L2

variable {G : Gx} {A A0 : Ab} {X : Cx} {W : WX} {p : Pg} {σ : L2.St} {ρ : Loc}
/-- src tells what J walks -/
def StpOk (G : Gx) (B : Ab) (J : L2.It) (i : Nat) : Stp → Prop
  | .item d => J.go i B.H ∧ ∀ x H', J.yld i B.H x H' → Grow G B ⟨B.μ, B.S, H'⟩ ∧ HR G ⟨B.μ, B.S, H'⟩ ∧ Rep G ⟨B.μ, B.S, H'⟩ d x
  | .stop => J.stop i B.H
  | .bad => True
def SrcOk (G : Gx) (A : Ab) (J : L2.It) (src : Src) : Prop := ∀ B, Grow G A B → HR G B → ∀ i, StpOk G B J i (src i B.S)
def tI (G : Gx) (p : Pg) (W : WX) (it : Mini.It) : TI := fun σ H R => ∃ A ρ, A.H = H ∧ HR G A ∧ ER G A ρ σ ∧
  (evI p it ρ A.S).sat (fun src S' => ∀ μ H' J, Grow G A ⟨μ, S', H'⟩ → HR G ⟨μ, S', H'⟩ → SrcOk G ⟨μ, S', H'⟩ J src → R J H') (XW G A (xw W σ))
/-- an iterable's end -/
def FinI (G : Gx) (A : Ab) (R : L2.It → Hp → Prop) (src : Src) (S : Sto) : Prop := ∀ μ H' J, Grow G A ⟨μ, S, H'⟩ → HR G ⟨μ, S, H'⟩ → SrcOk G ⟨μ, S, H'⟩ J src → R J H'
theorem same_ok {B : Ab} (hB : HR G B) {H' : Hp} (e : H' = B.H) {d : D} {v : V} (r : Rep G B d v) : Grow G B ⟨B.μ, B.S, H'⟩ ∧ HR G ⟨B.μ, B.S, H'⟩ ∧ Rep G ⟨B.μ, B.S, H'⟩ d v := by
  subst e
  exact ⟨.refl, hB, r⟩
theorem src_list {n : Nat} (hA : HR G A) (hn : n < A.S.length) : SrcOk G A (Itl G.K (A.μ n)) (srcR n) := by
  intro B g hB i
  show StpOk G B _ i (match seqAt B.S n with
    | some xs => srcL xs i B.S
    | none => .bad)
  cases q : seqAt B.S n with
  | none => exact True.intro
  | some ds =>
    obtain ⟨xs, h1, h2⟩ := hB.seqAt q
    rw [g.μ n hn] at h1
    show StpOk G B _ i (match ds[i]? with
      | some d => .item d
      | none => .stop)
    cases qi : ds[i]? with
    | none =>
      refine ⟨xs, h1, ?_⟩
      rw [h2.length]
      exact List.getElem?_eq_none_iff.mp qi
    | some d =>
      obtain ⟨x, hx, rx⟩ := h2.get qi
      refine ⟨⟨xs, x, h1, hx⟩, fun y H' ⟨e, hy⟩ => same_ok hB e ?_⟩
      have := hy xs h1
      rw [hx] at this
      cases this
      exact rx
theorem src_tup {ds : List D} {xs : List V} {a : Addr} (ht : SqT G.K A.H a xs) (r : RepL G A ds xs) : SrcOk G A (Itt G.K a) (srcL ds) := by
  intro B g hB i
  have h1 := g.tup a xs ht
  have h2 := r.mono g
  show StpOk G B _ i (match ds[i]? with
    | some d => .item d
    | none => .stop)
  cases qi : ds[i]? with
  | none =>
    refine ⟨xs, h1, ?_⟩
    rw [h2.length]
    exact List.getElem?_eq_none_iff.mp qi
  | some d =>
    obtain ⟨x, hx, rx⟩ := h2.get qi
    refine ⟨⟨xs, x, h1, hx⟩, fun y H' ⟨e, hy⟩ => same_ok hB e ?_⟩
    have := hy xs h1
    rw [hx] at this
    cases this
    exact rx
theorem src_rng {lo : Int} {n : Nat} : SrcOk G A (Itr lo n) (rngL lo n) := by
  intro B g hB i
  show StpOk G B _ i (if i < n then .item (.int (lo + (i : Int))) else .stop)
  split
  · rename_i h
    exact ⟨h, fun y H' ⟨e, hy⟩ => same_ok hB e hy⟩
  · rename_i h
    exact Nat.le_of_not_lt h
theorem src_rngC {lo c : Int} {n : Nat} : SrcOk G A (Itc lo c n) (rngC lo c n) := by
  intro B g hB i
  show StpOk G B _ i (if i < n then .item (.int (lo + (i : Int) * c)) else .stop)
  split
  · rename_i h
    exact ⟨h, fun y H' ⟨e, hy⟩ => same_ok hB e hy⟩
  · rename_i h
    exact Nat.le_of_not_lt h
/-- a list or a tuple, one reading -/
def iLT (K : PySem.W.Frag) (tl : TE) : TI := fun σ H R => tl σ H fun x H1 => ∃ a, x = .ref a ∧ (((∃ xs, SqL K H1 a xs) ∧ R (Itl K a) H1) ∨ ((∃ xs, SqT K H1 a xs) ∧ R (Itt K a) H1))
theorem pi_lt {tg l : Expr} {tl : TE} (hl : PE X l tl) : PI X tg l (iLT X.K tl) := by
  refine ⟨fun pins s σ H R I h => ?_⟩
  refine thn (hl.run pins s σ H _ I h) fun v s1 ⟨x, H1, I1, r1, q1⟩ => ?_
  obtain ⟨a, e, q⟩ := q1
  subst e
  cases r1
  have fr : ∀ b, b ∈ [s1.heap.objs.size] → FpOk X pins H1 b := fun b hb => by
    have e : b = s1.heap.objs.size := by simpa using hb
    subst e
    exact I1.fpOk (Nat.le_refl _) (I1.hok.fresh (Nat.le_refl _))
  rcases q with ⟨⟨xs, hq⟩, q⟩ | ⟨⟨xs, hq⟩, q⟩
  · obtain ⟨its, rv, p, hz⟩ := I1.list hq
    refine wpAny_pyIter_list p.isList ?_
    exact ⟨s1.heap.objs.size, [s1.heap.objs.size], _, _, H1, rfl, I1.kept (t' := s1.toks) fun b o e => Heap.get?_push_of_some _ e, turn_list a _, ⟨_, Heap.get?_push_size _ rfl, rfl, rfl⟩, fr, q⟩
  · obtain ⟨its, rv, p, hz⟩ := I1.tuple hq
    refine wpAny_pyIter_tuple (show s1.heap.IsTuple a its.toArray from p) ?_
    exact ⟨s1.heap.objs.size, [s1.heap.objs.size], _, _, H1, rfl, I1.kept (t' := s1.toks) fun b o e => Heap.get?_push_of_some _ e, turn_tuple a _, ⟨_, Heap.get?_push_size _ rfl, rfl, rfl⟩, fr, q⟩
theorem PI.imp {tg e : Expr} {t t' : TI} (h : PI X tg e t) (k : ∀ σ H Q, t' σ H Q → t σ H Q) : PI X tg e t' := ⟨fun pins s σ H Q I q => h.run pins s σ H Q I (k _ _ _ q)⟩

/-- one argument, two, three: what the list's run gives -/
theorem ev1 {β : Type} {x : Ex} {k : D → Sto → Res β} {S : Sto} {P : β → Sto → Prop} {E : Nat → List (Str × D) → Sto → Prop} (h : ((evE p x ρ S).bind k).sat P E) : (evEs p [x] ρ S).sat (fun ds S' => ∃ d, ds = [d] ∧ (k d S').sat P E) E := by
  show ((evE p x ρ S).bind fun d S1 => (Res.ok [] S1).bind fun ds S2 => Res.ok (d :: ds) S2).sat _ E
  cases q : evE p x ρ S with
  | ok d S1 => rw [q] at h; exact ⟨d, rfl, h⟩
  | ex c f S1 => rw [q] at h; exact h
  | no => rw [q] at h; exact h
theorem evc {β : Type} {x : Ex} {xs : List Ex} {k : D → Sto → Res β} {S : Sto} {P : β → Sto → Prop} {E : Nat → List (Str × D) → Sto → Prop} {P' : D → List D → Sto → Prop} (h : ((evE p x ρ S).bind k).sat P E)
    (hk : ∀ d S1, (k d S1).sat P E → (evEs p xs ρ S1).sat (fun ds S' => P' d ds S') E) : (evEs p (x :: xs) ρ S).sat (fun ds S' => ∃ d es, ds = d :: es ∧ P' d es S') E := by
  show ((evE p x ρ S).bind fun d S1 => (evEs p xs ρ S1).bind fun ds S2 => Res.ok (d :: ds) S2).sat _ E
  cases q : evE p x ρ S with
  | ok d S1 =>
    rw [q] at h
    have h2 := hk d S1 h
    show ((evEs p xs ρ S1).bind fun ds S2 => Res.ok (d :: ds) S2).sat _ E
    cases q2 : evEs p xs ρ S1 with
    | ok ds S2 => rw [q2] at h2; exact ⟨d, ds, rfl, h2⟩
    | ex c f S2 => rw [q2] at h2; exact h2
    | no => rw [q2] at h2; exact h2
  | ex c f S1 => rw [q] at h; exact h
  | no => rw [q] at h; exact h
theorem tA_of {xs : List Ex} {Q : List V → Hp → Prop} (hr : HR G A) (er : ER G A ρ σ) {P : List D → Sto → Prop} (h : (evEs p xs ρ A.S).sat P (XW G A (xw W σ))) (hk : ∀ B ds vs, Grow G A B → HR G B → RepL G B ds vs → P ds B.S → Q vs B.H) : tA G p W xs σ A.H Q :=
  ⟨A, ρ, rfl, hr, er, Res.sat_mono h (fun ds S q μ vs H g h1 r => hk ⟨μ, S, H⟩ ds vs g h1 r q) fun _ _ _ z => z⟩
theorem inR_ok {i : Int} (h : inR i = true) : -(2 ^ 62) ≤ i ∧ i < 2 ^ 62 := by
  unfold inR at h
  rw [Bool.and_eq_true, decide_eq_true_eq, decide_eq_true_eq] at h
  exact h
theorem si_val {tg e : Expr} {x : Ex} (hK : X.K = G.K) (he : PE X e (tE G p W x)) : PI X tg e (tI G p W (.val x)) := by
  refine PI.imp (pi_lt he) fun σ H R ⟨A, ρ, hH, hr, er, h⟩ => ?_
  subst hH
  refine tR_bind .refl hr er rfl (show ((evE p x ρ A.S).bind fun d S1 => ofOpt S1 (srcOf S1 d)).sat _ _ from h) fun B d v g hB rd q => ?_
  obtain ⟨src, hs, f⟩ := sat_ofOpt' q
  cases d with
  | ref n =>
    obtain ⟨h1, rfl⟩ := rd
    have hs : (match seqAt B.S n with
      | some _ => some (srcR n)
      | none => none) = some src := hs
    cases hq : seqAt B.S n with
    | none => rw [hq] at hs; cases hs
    | some ds =>
      rw [hq] at hs
      cases hs
      obtain ⟨xs, h2, h3⟩ := hB.seqAt hq
      rw [hK]
      exact ⟨_, rfl, .inl ⟨⟨xs, h2⟩, f B.μ B.H _ g hB (src_list hB h1)⟩⟩
  | tup ds =>
    obtain ⟨a, xs, rfl, h1, h2⟩ := rd
    have : some (srcL ds) = some src := hs
    cases this
    rw [hK]
    exact ⟨a, rfl, .inr ⟨⟨xs, h1⟩, f B.μ B.H _ g hB (src_tup h1 h2)⟩⟩
  | _ => cases hs
theorem si_rng1 {tg a : Expr} {x : Ex} {p1 pos : Pos} (gl : Gl X "range") (hm : X.mg "range" = none) (hs : noStar a = true) (ha : PA X [a] (tA G p W [x])) : PI X tg (.Call (.Name "range" p1) [a] [] pos) (tI G p W (.rng1 x)) := by
  refine PI.imp (pi_range1 gl hm ha (star_cons hs)) fun σ H R ⟨A, ρ, hH, hr, er, h⟩ => ?_
  subst hH
  refine tA_of hr er (ev1 (show ((evE p x ρ A.S).bind fun d S1 => ofOpt S1 (rng1E d)).sat _ _ from h)) fun B ds vs g hB rs ⟨d, e, q⟩ => ?_
  subst e
  obtain ⟨v, ws, rfl, rv, rn⟩ := rs.uncons
  rw [rn.nil_iff]
  obtain ⟨src, hs, f⟩ := sat_ofOpt' q
  cases d with
  | int i =>
    have hs : (if inR i then some (rngL 0 i.toNat) else none) = some src := hs
    split at hs
    · rename_i hi
      cases hs
      obtain ⟨i1, i2⟩ := inR_ok hi
      exact ⟨i, by rw [show v = .int i from rv], i1, i2, f B.μ B.H _ g hB src_rng⟩
    · cases hs
  | _ => cases hs
theorem si_rng2 {tg a b : Expr} {x y : Ex} {p1 pos : Pos} (gl : Gl X "range") (hm : X.mg "range" = none) (hs : noStar a = true) (hs2 : noStar b = true) (ha : PA X [a, b] (tA G p W [x, y])) : PI X tg (.Call (.Name "range" p1) [a, b] [] pos) (tI G p W (.rng2 x y)) := by
  refine PI.imp (pi_range2 gl hm ha (by rw [star_cons hs, star_cons hs2]; rfl) (star_cons hs2)) fun σ H R ⟨A, ρ, hH, hr, er, h⟩ => ?_
  subst hH
  refine tA_of hr er (evc (show ((evE p x ρ A.S).bind fun d S1 => (evE p y ρ S1).bind fun e S2 => ofOpt S2 (rng2E d e)).sat _ _ from h) fun d S1 z => ev1 z) fun B ds vs g hB rs ⟨d, es, e, d2, e2, q⟩ => ?_
  subst e e2
  obtain ⟨v, ws, rfl, rv, rn⟩ := rs.uncons
  obtain ⟨v2, ws2, rfl, rv2, rn2⟩ := rn.uncons
  rw [rn2.nil_iff]
  obtain ⟨src, hs, f⟩ := sat_ofOpt' q
  cases d with
  | int i =>
    cases d2 with
    | int j =>
      have hs : (if inR i && inR j then some (rngL i (j - i).toNat) else none) = some src := hs
      split at hs
      · rename_i hi
        cases hs
        rw [Bool.and_eq_true] at hi
        obtain ⟨i1, i2⟩ := inR_ok hi.1
        obtain ⟨j1, j2⟩ := inR_ok hi.2
        exact ⟨i, j, by rw [show v = .int i from rv, show v2 = .int j from rv2], ⟨i1, i2, j1, j2⟩, f B.μ B.H _ g hB src_rng⟩
      · cases hs
    | _ => cases hs
  | _ => cases hs
theorem si_rng3 {tg a b c : Expr} {x y z : Ex} {p1 pos : Pos} (gl : Gl X "range") (hm : X.mg "range" = none) (hs : noStar a = true) (hs2 : noStar b = true) (hs3 : noStar c = true) (ha : PA X [a, b, c] (tA G p W [x, y, z])) :
    PI X tg (.Call (.Name "range" p1) [a, b, c] [] pos) (tI G p W (.rng3 x y z)) := by
  refine PI.imp (pi_range3 gl hm ha (star_cons hs) (star_all (by simp [hs2, hs3]))) fun σ H R ⟨A, ρ, hH, hr, er, h⟩ => ?_
  subst hH
  refine tA_of hr er (evc (show ((evE p x ρ A.S).bind fun d S1 => (evE p y ρ S1).bind fun e S2 => (evE p z ρ S2).bind fun u S3 => ofOpt S3 (rng3E d e u)).sat _ _ from h) fun d S1 q => evc q fun e S2 q2 => ev1 q2) fun B ds vs g hB rs ⟨d, es, e, d2, es2, e2, d3, e3, q⟩ => ?_
  subst e e2 e3
  obtain ⟨v, ws, rfl, rv, rn⟩ := rs.uncons
  obtain ⟨v2, ws2, rfl, rv2, rn2⟩ := rn.uncons
  obtain ⟨v3, ws3, rfl, rv3, rn3⟩ := rn2.uncons
  rw [rn3.nil_iff]
  obtain ⟨src, hs, f⟩ := sat_ofOpt' q
  cases d with
  | int i =>
    cases d2 with
    | int j =>
      cases d3 with
      | int c =>
        have hs : (if c = -1 ∧ inR i ∧ inR j then some (rngC i (-1) (i - j).toNat) else none) = some src := hs
        split at hs
        · rename_i hi
          cases hs
          obtain ⟨hc, hi, hj⟩ := hi
          subst hc
          obtain ⟨i1, i2⟩ := inR_ok hi
          obtain ⟨j1, j2⟩ := inR_ok hj
          exact ⟨i, j, -1, _, by rw [show v = .int i from rv, show v2 = .int j from rv2, show v3 = .int (-1) from rv3], RgC.neg i1 i2 j1 j2, f B.μ B.H _ g hB src_rngC⟩
        · cases hs
      | _ => cases hs
    | _ => cases hs
  | _ => cases hs

/-! ### pairs -/
theorem pair_ok {B : Ab} (hB : HR G B) {T : Addr} {x y : V} {d e : D} (hT : B.H T = none) (rx : Rep G B d x) (ry : Rep G B e y) :
    Grow G B ⟨B.μ, B.S, upd B.H T (.tup [x, y])⟩ ∧ HR G ⟨B.μ, B.S, upd B.H T (.tup [x, y])⟩ ∧ Rep G ⟨B.μ, B.S, upd B.H T (.tup [x, y])⟩ (.tup [d, e]) (.ref T) :=
  ⟨.lay hT, hB.lay hT, T, [x, y], rfl, .of upd_same, .cons (rx.mono (.lay hT)) (.cons (ry.mono (.lay hT)) .nil)⟩
theorem src_zipL {m n : Nat} (hA : HR G A) (hm : m < A.S.length) (hn : n < A.S.length) : SrcOk G A (Itz G.K (A.μ m) (A.μ n)) (pairS (srcR m) (srcR n)) := by
  intro B g hB i
  have e : pairS (srcR m) (srcR n) i B.S = (match srcR m i B.S, srcR n i B.S with
    | .item a, .item b => .item (.tup [a, b])
    | .stop, .item _ => .stop
    | .item _, .stop => .stop
    | .stop, .stop => .stop
    | _, _ => .bad) := rfl
  rw [e]
  have key : ∀ k, k < A.S.length → srcR k i B.S = .bad ∨ ∃ ds xs, SqL G.K B.H (A.μ k) xs ∧ RepL G B ds xs ∧ ((∃ d, ds[i]? = some d ∧ srcR k i B.S = .item d) ∨ (ds[i]? = none ∧ srcR k i B.S = .stop)) := by
    intro k hk
    cases q : seqAt B.S k with
    | none => left; show (match seqAt B.S k with
        | some xs => srcL xs i B.S
        | none => .bad) = .bad; rw [q]
    | some ds =>
      right
      obtain ⟨xs, h1, h2⟩ := hB.seqAt q
      rw [g.μ k hk] at h1
      refine ⟨ds, xs, h1, h2, ?_⟩
      have e2 : srcR k i B.S = (match ds[i]? with
        | some d => .item d
        | none => .stop) := by
        show (match seqAt B.S k with
        | some xs => srcL xs i B.S
        | none => .bad) = _
        rw [q]; rfl
      cases qi : ds[i]? with
      | none => right; rw [qi] at e2; exact ⟨rfl, e2⟩
      | some d => left; rw [qi] at e2; exact ⟨d, rfl, e2⟩
  rcases key m hm with z | ⟨ds, xs, h1, r1, ⟨d, k1, z⟩ | ⟨k1, z⟩⟩ <;> rcases key n hn with z2 | ⟨es, ys, h2, r2, ⟨e', k2, z2⟩ | ⟨k2, z2⟩⟩ <;> rw [z, z2]
  · exact True.intro
  · exact True.intro
  · exact True.intro
  · exact True.intro
  · obtain ⟨x, hx, rx⟩ := r1.get k1
    obtain ⟨y, hy, ry⟩ := r2.get k2
    refine ⟨⟨xs, ys, x, y, h1, h2, hx, hy⟩, fun u H' ⟨T, x', y', e1, hT, e2, f1, f2⟩ => ?_⟩
    have := f1 xs h1
    rw [hx] at this; cases this
    have := f2 ys h2
    rw [hy] at this; cases this
    subst e1 e2
    exact pair_ok hB hT rx ry
  · exact ⟨xs, ys, h1, h2, .inr (by rw [r2.length]; exact List.getElem?_eq_none_iff.mp k2)⟩
  · exact True.intro
  · exact ⟨xs, ys, h1, h2, .inl (by rw [r1.length]; exact List.getElem?_eq_none_iff.mp k1)⟩
  · exact ⟨xs, ys, h1, h2, .inl (by rw [r1.length]; exact List.getElem?_eq_none_iff.mp k1)⟩
theorem src_zipT {ds es : List D} {xs ys : List V} {a b : Addr} (ht : SqT G.K A.H a xs) (r : RepL G A ds xs) (ht2 : SqT G.K A.H b ys) (r2 : RepL G A es ys) : SrcOk G A (RZ.ItzT G.K a b) (pairS (srcL ds) (srcL es)) := by
  intro B g hB i
  have h1 := g.tup a xs ht
  have h2 := g.tup b ys ht2
  have r1 := r.mono g
  have r2 := r2.mono g
  have e : pairS (srcL ds) (srcL es) i B.S = (match srcL ds i B.S, srcL es i B.S with
    | .item a, .item b => .item (.tup [a, b])
    | .stop, .item _ => .stop
    | .item _, .stop => .stop
    | .stop, .stop => .stop
    | _, _ => .bad) := rfl
  have e3 : ∀ fs : List D, srcL fs i B.S = (match fs[i]? with
        | some d => .item d
        | none => .stop) := fun _ => rfl
  rw [e, e3, e3]
  cases k1 : ds[i]? with
  | none =>
    cases k2 : es[i]? with
    | none => exact ⟨xs, ys, h1, h2, .inl (by rw [r1.length]; exact List.getElem?_eq_none_iff.mp k1)⟩
    | some e' => exact ⟨xs, ys, h1, h2, .inl (by rw [r1.length]; exact List.getElem?_eq_none_iff.mp k1)⟩
  | some d =>
    cases k2 : es[i]? with
    | none => exact ⟨xs, ys, h1, h2, .inr (by rw [r2.length]; exact List.getElem?_eq_none_iff.mp k2)⟩
    | some e' =>
      obtain ⟨x, hx, rx⟩ := r1.get k1
      obtain ⟨y, hy, ry⟩ := r2.get k2
      refine ⟨⟨xs, ys, x, y, h1, h2, hx, hy⟩, fun u H' ⟨T, x', y', e1, hT, e2, f1, f2⟩ => ?_⟩
      have := f1 xs h1
      rw [hx] at this; cases this
      have := f2 ys h2
      rw [hy] at this; cases this
      subst e1 e2
      exact pair_ok hB hT rx ry
theorem src_enum {n : Nat} (hA : HR G A) (hn : n < A.S.length) : SrcOk G A (Ite G.K (A.μ n)) (enumS (srcR n)) := by
  intro B g hB i
  have e : enumS (srcR n) i B.S = (match srcR n i B.S with
    | .item a => .item (.tup [.int (i : Int), a])
    | .stop => .stop
    | .bad => .bad) := rfl
  rw [e]
  have e2 : srcR n i B.S = (match seqAt B.S n with
    | some xs => srcL xs i B.S
    | none => .bad) := rfl
  rw [e2]
  cases q : seqAt B.S n with
  | none => exact True.intro
  | some ds =>
    obtain ⟨xs, h1, h2⟩ := hB.seqAt q
    rw [g.μ n hn] at h1
    have e3 : srcL ds i B.S = (match ds[i]? with
        | some d => .item d
        | none => .stop) := rfl
    show StpOk G B _ i (match srcL ds i B.S with
    | .item a => .item (.tup [.int (i : Int), a])
    | .stop => .stop
    | .bad => .bad)
    rw [e3]
    cases qi : ds[i]? with
    | none => exact ⟨xs, h1, by rw [h2.length]; exact List.getElem?_eq_none_iff.mp qi⟩
    | some d =>
      obtain ⟨x, hx, rx⟩ := h2.get qi
      refine ⟨⟨xs, x, h1, hx⟩, fun u H' ⟨T, x', e1, hT, e2, f1⟩ => ?_⟩
      have := f1 xs h1
      rw [hx] at this; cases this
      subst e1 e2
      exact pair_ok hB hT (show Rep G B (.int (i : Int)) (.int (i : Nat)) from rfl) rx
theorem seq_some {S : Sto} {n : Nat} {ds : List D} (h : seqAt S n = some ds) : n < S.length := by
  unfold seqAt at h
  cases q : S[n]? with
  | none => rw [q] at h; cases h
  | some c => exact (List.getElem?_eq_some_iff.mp q).1
theorem si_zip {a b : Expr} {x y : Ex} {p1 pos tpos : Pos} {elts : List Expr} {kk : Nat} (hK : X.K = G.K) (gl : Gl X "zip") (hm : X.mg "zip" = none) (hs : noStar a = true) (hs2 : noStar b = true) (ha : PA X [a, b] (tA G p W [x, y])) :
    PI X (.Tuple elts kk tpos) (.Call (.Name "zip" p1) [a, b] [] pos) (tI G p W (.zip x y)) := by
  refine PI.imp (RZ.pi_zipA gl hm ha (star_cons hs) (star_all (by simp [hs2]))) fun σ H R ⟨A, ρ, hH, hr, er, h⟩ => ?_
  subst hH
  refine tA_of hr er (evc (show ((evE p x ρ A.S).bind fun d S1 => (evE p y ρ S1).bind fun e S2 => ofOpt S2 (zipOf S2 d e)).sat _ _ from h) fun d S1 z => ev1 z) fun B ds vs g hB rs ⟨d, es, e, d2, e2, q⟩ => ?_
  subst e e2
  obtain ⟨v, ws, rfl, rv, rn⟩ := rs.uncons
  obtain ⟨v2, ws2, rfl, rv2, rn2⟩ := rn.uncons
  rw [rn2.nil_iff]
  obtain ⟨src, hs, f⟩ := sat_ofOpt' q
  rw [hK]
  cases d with
  | tup ds =>
    cases d2 with
    | tup es =>
      have : some (pairS (srcL ds) (srcL es)) = some src := hs
      cases this
      obtain ⟨a, xs, rfl, h1, r1⟩ := rv
      obtain ⟨b, ys, rfl, h2, r2⟩ := rv2
      exact ⟨a, b, xs, ys, rfl, .inr ⟨h1, h2, f B.μ B.H _ g hB (src_zipT h1 r1 h2 r2)⟩⟩
    | _ => cases hs
  | ref m =>
    cases d2 with
    | ref n =>
      have hs : (match seqAt B.S m, seqAt B.S n with
        | some _, some _ => some (pairS (srcR m) (srcR n))
        | _, _ => none) = some src := hs
      cases q1 : seqAt B.S m with
      | none => rw [q1] at hs; cases hs
      | some ds =>
        cases q2 : seqAt B.S n with
        | none => rw [q1, q2] at hs; cases hs
        | some es =>
          rw [q1, q2] at hs
          cases hs
          obtain ⟨xs, h1, r1⟩ := hB.seqAt q1
          obtain ⟨ys, h2, r2⟩ := hB.seqAt q2
          obtain ⟨m1, rfl⟩ := rv
          obtain ⟨n1, rfl⟩ := rv2
          exact ⟨_, _, xs, ys, rfl, .inl ⟨h1, h2, f B.μ B.H _ g hB (src_zipL hB m1 n1)⟩⟩
    | _ => cases hs
  | _ => cases hs
theorem si_enum {a : Expr} {x : Ex} {p1 pos tpos : Pos} {elts : List Expr} {kk : Nat} (hK : X.K = G.K) (gl : Gl X "enumerate") (hm : X.mg "enumerate" = none) (hs : noStar a = true) (ha : PA X [a] (tA G p W [x])) :
    PI X (.Tuple elts kk tpos) (.Call (.Name "enumerate" p1) [a] [] pos) (tI G p W (.enum x)) := by
  refine PI.imp (pi_enum gl hm ha (star_cons hs)) fun σ H R ⟨A, ρ, hH, hr, er, h⟩ => ?_
  subst hH
  refine tA_of hr er (ev1 (show ((evE p x ρ A.S).bind fun d S1 => ofOpt S1 (enumOf S1 d)).sat _ _ from h)) fun B ds vs g hB rs ⟨d, e, q⟩ => ?_
  subst e
  obtain ⟨v, ws, rfl, rv, rn⟩ := rs.uncons
  rw [rn.nil_iff]
  obtain ⟨src, hs, f⟩ := sat_ofOpt' q
  rw [hK]
  cases d with
  | ref n =>
    have hs : (match seqAt B.S n with
      | some _ => some (enumS (srcR n))
      | none => none) = some src := hs
    cases q1 : seqAt B.S n with
    | none => rw [q1] at hs; cases hs
    | some ds =>
      rw [q1] at hs
      cases hs
      obtain ⟨xs, h1, r1⟩ := hB.seqAt q1
      obtain ⟨m1, rfl⟩ := rv
      exact ⟨_, xs, rfl, h1, f B.μ B.H _ g hB (src_enum hB m1)⟩
  | _ => cases hs
end Mini
set_option maxHeartbeats 2000000
/-! Mini: targets, comprehensions, statements. -/
namespace Mini
open PySem PySem.Spec PyProof.Rows L2

variable {G : Gx} {A A0 : Ab} {X : Cx} {W : WX} {p : Pg} {σ : L2.St} {ρ : Loc}
abbrev W0 : WX := fun _ _ _ _ => False
def XA (G : Gx) (A : Ab) (W : WX) (c : Nat) (fs : List (Str × D)) (S : Sto) : Prop := ∀ σ, XW G A (xw W σ) c fs S
theorem XA.grow {c : Nat} {fs : List (Str × D)} {S : Sto} (f : XA G A W c fs S) {B : Ab} (g : Grow G A B) : XA G B W c fs S := fun σ => (f σ).grow g
mutual
/-- a target whose names are all among vs -/
def tgIn (vs : List Nat) : Tg → Bool
  | .nm i => vs.contains i
  | .tp ts => tgsIn vs ts
  | _ => false
def tgsIn (vs : List Nat) : List Tg → Bool
  | [] => true
  | t :: ts => tgIn vs t && tgsIn vs ts
end
theorem wipe_set : ∀ {vs : List Nat} {σ : L2.St} {i : Nat} {x : Option V}, i ∈ vs → wipe (σ.set i x) vs = wipe σ vs
  | [], _, _, _, h => absurd h (by simp)
  | v :: vs, σ, i, x, h => by
    show (wipe (σ.set i x) vs).set v none = (wipe σ vs).set v none
    by_cases hi : i ∈ vs
    · rw [wipe_set hi]
    · have e : v = i := by simp at h; rcases h with h | h; exact h.symm; exact absurd h hi
      subst e
      have : ∀ (us : List Nat) (τ : L2.St), (wipe (τ.set v x) us).set v none = (wipe τ us).set v none := by
        intro us
        induction us with
        | nil => intro τ; show (τ.set v x).set v none = τ.set v none; rw [List.set_set]
        | cons u us ih =>
          intro τ
          show ((wipe (τ.set v x) us).set u none).set v none = ((wipe τ us).set u none).set v none
          by_cases huv : u = v
          · subst huv; rw [List.set_set, List.set_set]; exact ih τ
          · rw [List.set_comm _ _ huv, List.set_comm _ _ huv, ih τ]
      exact this vs σ
theorem wipe_sub {vs : List Nat} {σ : L2.St} : ∀ us : List Nat, (∀ u ∈ us, u ∈ vs) → wipe (wipe σ us) vs = wipe σ vs
  | [], _ => rfl
  | u :: us, h => by
    show wipe ((wipe σ us).set u none) vs = wipe σ vs
    rw [wipe_set (h u (by simp)), wipe_sub us fun w hw => h w (by simp [hw])]
theorem wipe_wipe {vs : List Nat} {σ : L2.St} : wipe (wipe σ vs) vs = wipe σ vs := wipe_sub vs fun _ h => h
theorem ER.none {i : Nat} (e : ER G A ρ σ) : ER G A (ρ.set i none) (σ.set i none) := by
  refine ⟨by simp [e.len], fun j d' q => ?_⟩
  by_cases hj : j = i
  · subst hj
    by_cases hl : j < ρ.length
    · rw [List.getElem?_set_self hl] at q; cases q
    · rw [List.getElem?_eq_none (by simp; omega)] at q; cases q
  · rw [List.getElem?_set_ne (Ne.symm hj)] at q
    obtain ⟨w, h1, h2⟩ := e.get j d' q
    exact ⟨w, by rw [List.getElem?_set_ne (Ne.symm hj)]; exact h1, h2⟩
theorem ER.wipe (e : ER G A ρ σ) : ∀ vs : List Nat, ER G A (wipeL ρ vs) (L2.wipe σ vs)
  | [] => e
  | v :: vs => (ER.wipe e vs).none

/-! ### targets -/
def tG (G : Gx) (p : Pg) (W : WX) (t : Tg) : TG := fun v σ H Q => ∃ A ρ d, A.H = H ∧ HR G A ∧ ER G A ρ σ ∧ Rep G A d v ∧
  (asg p t d ρ A.S).sat (fun ρ' S' => ∀ μ σ' H', Grow G A ⟨μ, S', H'⟩ → HR G ⟨μ, S', H'⟩ → ER G ⟨μ, S', H'⟩ ρ' σ' → (∀ vs, tgIn vs t = true → wipe σ' vs = wipe σ vs) → Q σ' H') (XA G A W)
def tGs (G : Gx) (p : Pg) (W : WX) (ts : List Tg) : TGs := fun xs σ H Q => ∃ A ρ ds, A.H = H ∧ HR G A ∧ ER G A ρ σ ∧ RepL G A ds xs ∧
  (asgs p ts ds ρ A.S).sat (fun ρ' S' => ∀ μ σ' H', Grow G A ⟨μ, S', H'⟩ → HR G ⟨μ, S', H'⟩ → ER G ⟨μ, S', H'⟩ ρ' σ' → (∀ vs, tgsIn vs ts = true → wipe σ' vs = wipe σ vs) → Q σ' H') (XA G A W)
theorem PG.imp {e : Expr} {t t' : TG} (h : PG X e t) (k : ∀ v σ H Q, t' v σ H Q → t v σ H Q) : PG X e t' := ⟨fun pins s σ H v u Q I r q => h.run pins s σ H v u Q I r (k _ _ _ _ q)⟩
theorem PGs.imp {e : List Expr} {t t' : TGs} (h : PGs X e t) (k : ∀ v σ H Q, t' v σ H Q → t v σ H Q) : PGs X e t' := ⟨fun pins s σ H v u Q I r q => h.run pins s σ H v u Q I r (k _ _ _ _ q)⟩
theorem sg_name {i : Nat} {x : Str} {pos : Pos} (hN : X.N.Nodup) (hi : X.N[i]? = some x) (hx : L2.Loc X.env.scope x) (hf : X.fn x = true ∨ X.env.scope.names.lookup x = some .local) : PG X (.Name x pos) (tG G p W (.nm i)) := by
  refine PG.imp (pg_name hN hi hx hf) fun v σ H Q ⟨A, ρ, d, hH, hr, er, rd, h⟩ => ?_
  subst hH
  exact h A.μ _ A.H .refl hr (er.set i rd) fun vs hv => wipe_set (by simpa [tgIn] using hv)
theorem sgs_nil : PGs X [] (tGs G p W []) := by
  refine PGs.imp pgs_nil fun v σ H Q ⟨A, ρ, ds, hH, hr, er, rd, h⟩ => ?_
  subst hH
  cases ds with
  | nil => exact ⟨rd, h A.μ _ A.H .refl hr er fun _ _ => rfl⟩
  | cons d ds => exact (show False from h).elim
/-- no star among the targets -/
def plainTg : Expr → Bool
  | .Name .. => true
  | .Tuple .. => true
  | .Subscript .. => true
  | .Attribute .. => true
  | _ => false
theorem each_cons {e : Expr} {es : List Expr} {env : Env} (h : plainTg e = true) : assignEach (e :: es) env = (false, assign e env) :: assignEach es env := by
  cases e <;> first | rfl | cases h
theorem sgs_cons {e : Expr} {es : List Expr} {t : Tg} {ts : List Tg} (hp : plainTg e = true) (h1 : PG X e (tG G p W t)) (h2 : PGs X es (tGs G p W ts)) : PGs X (e :: es) (tGs G p W (t :: ts)) := by
  refine PGs.imp (pgs_cons h1 h2 (by rw [each_cons hp]; rfl)) fun xs σ H Q ⟨A, ρ, ds, hH, hr, er, rd, h⟩ => ?_
  subst hH
  cases ds with
  | nil => exact (show False from h).elim
  | cons d ds =>
    obtain ⟨v, r, rfl, rv, rr⟩ := rd.uncons
    refine ⟨v, r, rfl, A, ρ, d, rfl, hr, er, rv, Res.sat_mono (Res.sat_bind (show ((asg p t d ρ A.S).bind fun ρ1 S1 => asgs p ts ds ρ1 S1).sat _ _ from h)) (fun ρ' S' q μ σ' H' g h1 er1 wf => ?_) fun _ _ _ z => z⟩
    refine ⟨⟨μ, S', H'⟩, ρ', ds, rfl, h1, er1, rr.mono g, Res.sat_mono q (fun ρ2 S2 q2 μ2 σ2 H2 g2 h2 er2 wf2 => ?_) fun _ _ _ z => z.grow g⟩
    refine q2 μ2 σ2 H2 (g.trans g2) h2 er2 fun vs hv => ?_
    have hv : (tgIn vs t && tgsIn vs ts) = true := hv
    rw [Bool.and_eq_true] at hv
    rw [wf2 vs hv.2, wf vs hv.1]
theorem each_len : ∀ {es : List Expr} {env : Env}, (assignEach es env).length = es.length
  | [], _ => rfl
  | e :: es, env => by
    have : (assignEach (e :: es) env).length = (assignEach es env).length + 1 := by cases e <;> rfl
    rw [this, each_len]; rfl
theorem each_star : ∀ {es : List Expr} {env : Env}, es.all plainTg = true → (assignEach es env).findIdx? (·.1) = none
  | [], _, _ => rfl
  | e :: es, env, h => by
    have h2 : plainTg e = true ∧ es.all plainTg = true := by simpa using h
    rw [each_cons h2.1, List.findIdx?_cons]
    simp [each_star h2.2]
theorem sg_tup {es : List Expr} {ts : List Tg} {k : Nat} {pos : Pos} (hK : X.K = G.K) (hc : X.calm = true) (hp : es.all plainTg = true) (hl : es.length = ts.length) (h : PGs X es (tGs G p W ts)) : PG X (.Tuple es k pos) (tG G p W (.tp ts)) := by
  have k1 := pg_tup (pos := pos) (k := k) (n := es.length) hc h each_len (each_star hp)
  have k2 := pg_lst (pos := pos) (k := k) (n := es.length) hc h each_len (each_star hp)
  refine PG.imp (t := fun v σ H Q => gTup X.K es.length (tGs G p W ts) v σ H Q ∨ gLst X.K es.length (tGs G p W ts) v σ H Q) ⟨fun pins s σ H v u Q I r q => q.elim (k1.run pins s σ H v u Q I r) (k2.run pins s σ H v u Q I r)⟩ fun v σ H Q ⟨A, ρ, d, hH, hr, er, rd, h⟩ => ?_
  subst hH
  obtain ⟨ds, hd, q⟩ := sat_opt (show ((ofOpt A.S (seqD A.S d)).bind fun xs S => if xs.length = ts.length then asgs p ts xs ρ S else .no).sat _ _ from h)
  split at q
  · rename_i hlen
    rw [hK]
    cases d with
    | tup es' =>
      have : some es' = some ds := hd
      cases this
      obtain ⟨a, xs, rfl, h1, r1⟩ := rd
      exact .inl ⟨a, xs, rfl, h1, by rw [r1.length, hl]; exact hlen, A, ρ, _, rfl, hr, er, r1, q⟩
    | ref n =>
      obtain ⟨n1, rfl⟩ := rd
      obtain ⟨xs, h1, r1⟩ := hr.seqAt hd
      exact .inr ⟨_, xs, rfl, h1, by rw [r1.length, hl]; exact hlen, A, ρ, _, rfl, hr, er, r1, q⟩
    | _ => cases hd
  · exact (show False from q).elim
theorem sg_ix {o i : Expr} {x y : Ex} {pos : Pos} (ho : PE X o (tE G p W x)) (hi : PE X i (tE G p W y))
    (ha : ∀ v, assign (.Subscript o i pos) X.env v = (do
      let ov ← holding [v] (eval o X.env)
      let iv ← holding [v, ov] (eval i X.env)
      standAt pos
      holding [v, ov, iv] (setItem ov iv v)
      release [v, ov, iv] [])) : PG X (.Subscript o i pos) (tG G p W (.ix x y)) := by
  refine PG.imp (pg_sub ho hi (sn_set (G := G)) ha) fun v σ H Q ⟨A, ρ, d, hH, hr, er, rd, h⟩ => ?_
  subst hH
  have h := Res.sat_mono (E' := XW G A (xw W σ)) (show ((evE p x ρ A.S).bind fun x S1 => (evE p y ρ S1).bind fun y S2 => ofSto ρ (storeE x y d S2)).sat _ _ from h) (fun _ _ z => z) fun _ _ _ z => z σ
  refine tR_bind .refl hr er rfl h fun B e u g hB re q => ?_
  refine tR_bind g hB (er.mono g) rfl q fun C f w g2 hC rf q2 => ?_
  cases e with
  | ref n =>
    obtain ⟨n1, rfl⟩ := re
    cases f with
    | int k =>
      have q2 : (ofSto ρ (match lstAt C.S n with
        | some xs => match ixN xs.length k with
          | some j => some (C.S.set n (.lst (xs.set j d)))
          | none => none
        | none => none)).sat _ _ := q2
      cases hl : lstAt C.S n with
      | none => rw [hl] at q2; exact (show False from q2).elim
      | some ds =>
        rw [hl] at q2
        dsimp only at q2
        cases hj : ixN ds.length k with
        | none => rw [hj] at q2; exact (show False from q2).elim
        | some j =>
          rw [hj] at q2
          refine ⟨C, n, k, j, d, ds, rfl, hC, Nat.lt_of_lt_of_le n1 g2.len, by rw [g2.μ n n1], rf, rd.mono (g.trans g2), hl, hj, fun H' hr' g' => ?_⟩
          exact (show ∀ μ σ' H', _ from q2) C.μ σ H' ((g.trans g2).trans g') hr' (er.mono ((g.trans g2).trans g')) fun vs hv => (by cases hv)
    | _ => exact (show False from q2).elim
  | _ => exact (show False from q2).elim

/-! ### comprehensions -/
abbrev tTs (G : Gx) (p : Pg) (W : WX) (cs : List Ex) : TT := tRb G W (evT p cs)
theorem PTs.imp {e : List Expr} {t t' : TT} (h : PTs X e t) (k : ∀ σ H Q, t' σ H Q → t σ H Q) : PTs X e t' := ⟨fun pins s σ H Q I q => h.run pins s σ H Q I (k _ _ _ q)⟩
theorem sts_nil : PTs X [] (tTs G p W []) := by
  refine PTs.imp pts_nil fun σ H Q ⟨A, ρ, hH, hr, er, h⟩ => ?_
  subst hH
  exact (show FinB G A Q true A.S from h) A.μ A.H .refl hr
theorem sts_one {c : Expr} {x : Ex} (h : PT X c (tT G p W x)) : PTs X [c] (tTs G p W [x]) := by
  refine PTs.imp (pts_one h) fun σ H Q ⟨A, ρ, hH, hr, er, h⟩ => ?_
  subst hH
  refine ⟨A, ρ, rfl, hr, er, ?_⟩
  have h : ((evE p x ρ A.S).bind fun d S1 => (ofOpt S1 (truth S1 d)).bind fun b S1 => if b then Res.ok true S1 else .ok false S1).sat (FinB G A Q) (XW G A (xw W σ)) := h
  show ((evE p x ρ A.S).bind fun d S1 => ofOpt S1 (truth S1 d)).sat (FinB G A Q) (XW G A (xw W σ))
  cases q : evE p x ρ A.S with
  | ok d S1 =>
    rw [q] at h
    have h : ((ofOpt S1 (truth S1 d)).bind fun b S1 => if b then Res.ok true S1 else .ok false S1).sat (FinB G A Q) (XW G A (xw W σ)) := h
    obtain ⟨b, hb, h⟩ := sat_opt h
    show (ofOpt S1 (truth S1 d)).sat _ _
    rw [hb]
    cases b <;> exact h
  | ex c f S1 => rw [q] at h; exact h
  | no => rw [q] at h; exact h
theorem comp_lc {t : Tg} {it : Mini.It} {cs : List Ex} {elt : Ex} {own : List Nat} {H : Hp} {Q : VK} (ht : tgIn own t = true) (h : tE G p W (.comp t it cs elt own) σ H Q) :
    tLc (tI G p W it) (tG G p W0 t) (tTs G p W0 cs) (tE G p W0 elt) own σ H Q := by
  obtain ⟨A, ρ, hH, hr, er, h⟩ := h
  subst hH
  refine ⟨A, ρ, rfl, hr, er, Res.sat_mono (Res.sat_bind (show ((evI p it ρ A.S).bind fun src S1 =>
      compN src S1.length (fun d S => ((asg p t d (wipeL ρ own) S).bind fun ρ1 S1 => (evT p cs ρ1 S1).bind fun b S2 =>
        if b then (evE p elt ρ1 S2).bind fun e S3 => .ok (some e) S3 else .ok none S2).noex) p.fuel 0 (S1 ++ [.lst []])).sat _ _ from h)) (fun src S1 f μ1 H1 J g h1 ok D hD => ?_) fun _ _ _ z => z⟩
  generalize hC : (⟨μ1, S1, H1⟩ : Ab) = C at g h1 ok
  have eS : S1 = C.S := by rw [← hC]
  have eH : H1 = C.H := by rw [← hC]
  rw [eS] at f
  rw [eH] at hD ⊢
  obtain ⟨i1, i2, i3⟩ := h1.lst (ds := []) (xs := []) hD .nil
  refine ⟨fun i m H => ∃ B, B.H = H ∧ Grow G (C.add D (.lst []) (upd C.H D (.lst []))) B ∧ HR G B ∧ (compN src C.S.length (fun d S => ((asg p t d (wipeL ρ own) S).bind fun ρ1 S1 => (evT p cs ρ1 S1).bind fun b S2 =>
        if b then (evE p elt ρ1 S2).bind fun e S3 => .ok (some e) S3 else .ok none S2).noex) m i B.S).sat (Fin G A Q) (XW G A (xw W σ)), ⟨p.fuel, _, rfl, .refl, i1, f⟩, ?_⟩
  rintro i m H ⟨B, rfl, gB, hB, f⟩
  have nlt : C.S.length < (C.add D (.lst []) (upd C.H D (.lst []))).S.length := by show C.S.length < (C.S ++ [Cl.lst []]).length; simp
  have μB : B.μ C.S.length = D := by rw [gB.μ _ nlt, Ab.add_new]
  cases m with
  | zero => exact (show False from f).elim
  | succ m =>
    have so := ok B (i2.trans gB) hB i
    unfold compN at f
    cases q : src i B.S with
    | bad => rw [q] at f; exact (show False from f).elim
    | stop =>
      rw [q] at f so
      refine .inl ⟨so, Fin.at (show Fin G A Q (.ref C.S.length) B.S from f) (g.trans (i2.trans gB)) hB ⟨Nat.lt_of_lt_of_le nlt gB.len, by rw [μB]⟩⟩
    | item d =>
      rw [q] at f so
      refine .inr ⟨so.1, _, fun H' hh => ⟨m, Nat.lt_succ_self _, hh⟩, fun x H' hy => ?_⟩
      obtain ⟨gx, hx, rx⟩ := so.2 x H' hy
      have f := Res.sat_bind f
      have f := Res.sat_noex (E' := XA G ⟨B.μ, B.S, H'⟩ W0) f
      have f := Res.sat_bind f
      have g0 : Grow G A ⟨B.μ, B.S, H'⟩ := (g.trans (i2.trans gB)).trans gx
      refine ⟨⟨B.μ, B.S, H'⟩, wipeL ρ own, d, rfl, hx, (er.mono g0).wipe own, rx, Res.sat_mono f (fun ρ1 S2 f μ2 σ2 H2 g2 h2 er2 wf => ⟨by rw [wf own ht]; exact wipe_wipe, ?_⟩) fun _ _ _ z => z⟩
      refine ⟨⟨μ2, S2, H2⟩, ρ1, rfl, h2, er2, Res.sat_mono (Res.sat_bind f) (fun b S3 f μ3 H3 g3 h3 => ?_) fun _ _ _ z => (z σ2).grow g2⟩
      cases b with
      | false => exact ⟨⟨μ3, S3, H3⟩, rfl, (((gB.trans gx).trans g2).trans g3), h3, f⟩
      | true =>
        rw [if_pos rfl]
        refine ⟨⟨μ3, S3, H3⟩, ρ1, rfl, h3, er2.mono g3, Res.sat_mono (Res.sat_bind (show ((evE p elt ρ1 S3).bind fun e S3 => Res.ok (some e) S3).sat _ _ from f)) (fun e S4 f μ4 y H4 g4 h4 ry => ?_) fun _ _ _ z => ((z σ2).grow g2).grow g3⟩
        have f : (match lstAt S4 C.S.length with
          | some ys => if ys.length < lineN then compN src C.S.length _ m (i + 1) (S4.set C.S.length (.lst (ys ++ [e]))) else .no
          | none => .no).sat _ _ := f
        cases hl : lstAt S4 C.S.length with
        | none => rw [hl] at f; exact (show False from f).elim
        | some ys =>
          rw [hl] at f
          dsimp only at f
          split at f
          · rename_i hlt
            obtain ⟨e1, xs, e2, rxs⟩ := HR.lstAt (A := ⟨μ4, S4, H4⟩) h4 hl
            have gg : Grow G B ⟨μ4, S4, H4⟩ := ((gx.trans g2).trans g3).trans g4
            have μ4n : μ4 C.S.length = D := by
              have := gg.μ C.S.length (Nat.lt_of_lt_of_le nlt gB.len)
              rw [show μ4 C.S.length = B.μ C.S.length from this, μB]
            obtain ⟨p1, p2⟩ := HR.putL (A := ⟨μ4, S4, H4⟩) h4 e1 (rxs.append (.cons ry .nil))
            rw [show (⟨μ4, S4, H4⟩ : Ab).μ C.S.length = D from μ4n] at e2 p1 p2
            exact ⟨xs, e2, by rw [rxs.length, ← lineN_eq]; exact hlt, _, rfl, (gB.trans gg).trans p2, p1, f⟩
          · exact (show False from f).elim
/-! ### statements -/
def FinF (G : Gx) (A : Ab) (D : Ends) (f : Fl) (S : Sto) : Prop := match f with
  | .nx ρ => ∀ μ σ' H', Grow G A ⟨μ, S, H'⟩ → HR G ⟨μ, S, H'⟩ → ER G ⟨μ, S, H'⟩ ρ σ' → D.nx σ' H'
  | .rt d => Fin G A D.rt d S
  | .bk ρ => ∀ μ σ' H', Grow G A ⟨μ, S, H'⟩ → HR G ⟨μ, S, H'⟩ → ER G ⟨μ, S, H'⟩ ρ σ' → D.bk σ' H'
theorem FinF.grow {D : Ends} {f : Fl} {S : Sto} (h : FinF G A0 D f S) (g : Grow G A0 A) : FinF G A D f S := by
  cases f with
  | nx ρ => exact fun μ σ' H' g' => h μ σ' H' (g.trans g')
  | rt d => exact Fin.grow (show Fin G A0 D.rt d S from h) g
  | bk ρ => exact fun μ σ' H' g' => h μ σ' H' (g.trans g')
def tSr (G : Gx) (W : WX) (r : Loc → Sto → Res Fl) : TS := fun D σ H => ∃ A ρ, A.H = H ∧ HR G A ∧ ER G A ρ σ ∧ (r ρ A.S).sat (FinF G A D) (XA G A W)
abbrev tS (G : Gx) (p : Pg) (W : WX) (s : Mini.St) : TS := tSr G W (evS p s)
abbrev tSs (G : Gx) (p : Pg) (W : WX) (s : List Mini.St) : TS := tSr G W (evSs p s)
theorem PS.imp {e : Stmt} {t t' : TS} (h : PS X e t) (k : ∀ D σ H, t' D σ H → t D σ H) : PS X e t' := ⟨fun pins s σ H D I q => h.run pins s σ H D I (k _ _ _ q)⟩
theorem PSs.imp {e : List Stmt} {t t' : TS} (h : PSs X e t) (k : ∀ D σ H, t' D σ H → t D σ H) : PSs X e t' := ⟨fun pins s σ H D I q => h.run pins s σ H D I (k _ _ _ q)⟩
theorem xa {α : Type} {r : Res α} {P : α → Sto → Prop} (σ : L2.St) (h : r.sat P (XA G A W)) : r.sat P (XW G A (xw W σ)) := Res.sat_mono h (fun _ _ z => z) fun _ _ _ z => z σ
/-- an expression's run ahead of a statement's rest -/
theorem tS_bind {β : Type} {r : Loc → Sto → Res D} {k : D → Sto → Res β} {P : β → Sto → Prop} {Q : VK} (g0 : Grow G A0 A) (hr : HR G A) (er : ER G A ρ σ) (h : ((r ρ A.S).bind k).sat P (XA G A0 W))
    (hk : ∀ B d v, Grow G A B → HR G B → Rep G B d v → (k d B.S).sat P (XA G A0 W) → Q v B.H) : tR G W r σ A.H Q :=
  ⟨A, ρ, rfl, hr, er, Res.sat_mono (Res.sat_bind h) (fun d S q μ v H g h1 r1 => hk ⟨μ, S, H⟩ d v g h1 r1 q) fun _ _ _ z => (z σ).grow g0⟩
theorem asg_red {tg : Tg} {e : Ex} {A : Ab} {ρ : Loc} {te : TE} {g : TG} {D : Ends} (hr : HR G A) (er : ER G A ρ σ) (h : (evS p (.asg tg e) ρ A.S).sat (FinF G A D) (XA G A W))
    (hte : ∀ Q, tE G p W e σ A.H Q → te σ A.H Q) (hg : ∀ v H Q, tG G p W tg v σ H Q → g v σ H Q) : tAsg te g D σ A.H := by
  refine hte _ (tS_bind .refl hr er (show ((evE p e ρ A.S).bind fun d S1 => (asg p tg d ρ S1).bind fun ρ1 S2 => Res.ok (Fl.nx ρ1) S2).sat _ _ from h) fun B d v gB hB rd q => hg _ _ _ ?_)
  exact ⟨B, ρ, d, rfl, hB, er.mono gB, rd, Res.sat_mono (Res.sat_bind q) (fun ρ' S' f μ σ' H' g1 h1 er1 _ => (show FinF G A D (.nx ρ') S' from f) μ σ' H' (gB.trans g1) h1 er1) fun _ _ _ z => z.grow gB⟩
theorem ss_asg {tg e : Expr} {t : Tg} {x : Ex} {pos : Pos} (he : PE X e (tE G p W x)) (hg : PG X tg (tG G p W t)) (hs : swapsWithSole [tg] e pos.line X.env = pure false) (hw : swappedStores [tg] e X.env = pure none)
    (h1 : (assignEach [tg] X.env).map (·.2) = [assign tg X.env]) : PS X (.Assign [tg] e pos) (tS G p W (.asg t x)) := by
  refine PS.imp (ps_asg he hg hs hw h1) fun D σ H ⟨A, ρ, hH, hr, er, h⟩ => ?_
  subst hH
  exact asg_red hr er h (fun Q q => q) fun v H Q q => q
theorem ss_set {i : Nat} {x : Str} {e : Expr} {y : Ex} {pos' pos : Pos} (hN : X.N.Nodup) (hi : X.N[i]? = some x) (hx : L2.Loc X.env.scope x) (he : PE X e (tE G p W y)) (hs : swapsWith e (some (.Name x pos')) pos.line X.env = pure false)
    (hf : X.fn x = true ∨ X.env.scope.names.lookup x = some .local) : PS X (.Assign [.Name x pos'] e pos) (tS G p W (.asg (.nm i) y)) := by
  refine PS.imp (ps_set hN hi hx he hs hf) fun D σ H ⟨A, ρ, hH, hr, er, h⟩ => ?_
  subst hH
  refine asg_red (g := gName i) hr er h (fun Q q => q) fun v H Q ⟨B, ρ2, d, e1, hB, er2, rd, q⟩ => ?_
  subst e1
  exact q B.μ _ B.H .refl hB (er2.set i rd) fun vs hv => wipe_set (by simpa [tgIn] using hv)
/-- [.. for ..] as a value, as a store -/
theorem se_comp {elt tg iter : Expr} {ifs : List Expr} {scope : Scope} {own : List (Str × Nat)} {pos : Pos} {it : Mini.It} {t : Tg} {cs : List Ex} {x : Ex} (hc : X.calm = true) (hN : X.N.Nodup) (ht : tgIn (own.map (·.2)) t = true) (hi : PI X tg iter (tI G p W it)) (ok : BlkOk X.N X.env.scope scope own)
    (hg : ∀ (s : Shared) (H : Hp) (C : Addr) (cl : List (Str × Addr)) (fp : List Addr), PG (X.blk s H scope (compEnvC scope cl C X.env) fp) tg (tG G p W0 t)) (hts : ∀ (s : Shared) (H : Hp) (C : Addr) (cl : List (Str × Addr)) (fp : List Addr), PTs (X.blk s H scope (compEnvC scope cl C X.env) fp) ifs (tTs G p W0 cs))
    (he : ∀ (s : Shared) (H : Hp) (C : Addr) (cl : List (Str × Addr)) (fp : List Addr), PE (X.blk s H scope (compEnvC scope cl C X.env) fp) elt (tE G p W0 x)) (hs : ∀ x, foldedSetIterable iter X.env x = pure x) :
    PE X (.ListComp elt [⟨tg, iter, ifs, 0⟩] scope pos) (tE G p W (.comp t it cs x (own.map (·.2)))) := PE.imp (pe_lc hc hN hi ok hg hts he hs) fun σ H Q h => comp_lc ht h
theorem ss_setLc {i : Nat} {y : Str} {py : Pos} {elt tg iter : Expr} {ifs : List Expr} {scope : Scope} {own : List (Str × Nat)} {pos spos : Pos} {it : Mini.It} {t : Tg} {cs : List Ex} {x : Ex} (hc : X.calm = true) (hN : X.N.Nodup) (hy : X.N[i]? = some y) (hyl : X.env.scope.names.lookup y = some .local)
    (hsw : swapsWith (.ListComp elt [⟨tg, iter, ifs, 0⟩] scope pos) (some (.Name y py)) spos.line X.env = pure true) (ht : tgIn (own.map (·.2)) t = true) (hi : PI X tg iter (tI G p W it)) (ok : BlkOk X.N X.env.scope scope own)
    (hg : ∀ (s : Shared) (H : Hp) (C : Addr) (cl : List (Str × Addr)) (fp : List Addr), PG (X.blk s H scope (compEnvC scope cl C X.env) fp) tg (tG G p W0 t)) (hts : ∀ (s : Shared) (H : Hp) (C : Addr) (cl : List (Str × Addr)) (fp : List Addr), PTs (X.blk s H scope (compEnvC scope cl C X.env) fp) ifs (tTs G p W0 cs))
    (he : ∀ (s : Shared) (H : Hp) (C : Addr) (cl : List (Str × Addr)) (fp : List Addr), PE (X.blk s H scope (compEnvC scope cl C X.env) fp) elt (tE G p W0 x)) (hs : ∀ x, foldedSetIterable iter X.env x = pure x) :
    PS X (.Assign [.Name y py] (.ListComp elt [⟨tg, iter, ifs, 0⟩] scope pos) spos) (tS G p W (.asg (.nm i) (.comp t it cs x (own.map (·.2))))) := by
  refine PS.imp (ps_setLc hc hN hy hyl hsw hi ok hg hts he hs) fun D σ H ⟨A, ρ, hH, hr, er, h⟩ => ?_
  subst hH
  refine asg_red (g := gName i) hr er h (fun Q q => comp_lc ht q) fun v H Q ⟨B, ρ2, d, e1, hB, er2, rd, q⟩ => ?_
  subst e1
  exact q B.μ _ B.H .refl hB (er2.set i rd) fun vs hv => wipe_set (by simpa [tgIn] using hv)
theorem ss_par {i j : Nat} {x y : Str} {a b : Expr} {u v : Ex} {px py pt pos : Pos} {kt k2 pt2} (hc : X.calm = true) (hN : X.N.Nodup) (hi : X.N[i]? = some x) (hj : X.N[j]? = some y) (hij : i ≠ j)
    (hx : X.env.scope.names.lookup x = some .local) (hy : X.env.scope.names.lookup y = some .local) (ha : PA X [a, b] (tA G p W [u, v]))
    (hw : swappedStores [.Tuple [.Name x px, .Name y py] kt pt] (.Tuple [a, b] k2 pt2) X.env = pure (some [x, y])) :
    PS X (.Assign [.Tuple [.Name x px, .Name y py] kt pt] (.Tuple [a, b] k2 pt2) pos) (tS G p W (.par [i, j] [u, v])) := by
  refine PS.imp (ps_par hc hN hi hj hij hx hy ha hw) fun D σ H ⟨A, ρ, hH, hr, er, h⟩ => ?_
  subst hH
  have h := evEs_len (Res.sat_bind (show ((evEs p [u, v] ρ A.S).bind fun ds S1 => Res.ok (Fl.nx (setsL ρ [i, j] ds)) S1).sat _ _ from h))
  refine ⟨A, ρ, rfl, hr, er, Res.sat_mono h (fun ds S ⟨l, f⟩ μ vs H g h1 r => ?_) fun _ _ _ z => z σ⟩
  match ds, l with
  | [d, e], _ =>
    obtain ⟨v, w, rfl, r1, r2⟩ := repL2 r
    exact ⟨v, w, rfl, (show FinF G A D (.nx ((ρ.set i (some d)).set j (some e))) S from f) μ _ H g h1 (((er.mono g).set i r1).set j r2)⟩
theorem ss_par3 {i j l : Nat} {x y z : Str} {a b c : Expr} {u v t : Ex} {px py pz pt pos : Pos} {kt k2 pt2} (hc : X.calm = true) (hN : X.N.Nodup) (hi : X.N[i]? = some x) (hj : X.N[j]? = some y) (hl : X.N[l]? = some z) (hij : i ≠ j) (hil : i ≠ l) (hjl : j ≠ l)
    (hx : X.env.scope.names.lookup x = some .local) (hy : X.env.scope.names.lookup y = some .local) (hz : X.env.scope.names.lookup z = some .local) (ha : PA X [a, b, c] (tA G p W [u, v, t]))
    (hw : swappedStores [.Tuple [.Name x px, .Name y py, .Name z pz] kt pt] (.Tuple [a, b, c] k2 pt2) X.env = pure (some [x, y, z])) :
    PS X (.Assign [.Tuple [.Name x px, .Name y py, .Name z pz] kt pt] (.Tuple [a, b, c] k2 pt2) pos) (tS G p W (.par [i, j, l] [u, v, t])) := by
  refine PS.imp (ps_par3 hc hN hi hj hl hij hil hjl hx hy hz ha hw) fun D σ H ⟨A, ρ, hH, hr, er, h⟩ => ?_
  subst hH
  have h := evEs_len (Res.sat_bind (show ((evEs p [u, v, t] ρ A.S).bind fun ds S1 => Res.ok (Fl.nx (setsL ρ [i, j, l] ds)) S1).sat _ _ from h))
  refine ⟨A, ρ, rfl, hr, er, Res.sat_mono h (fun ds S ⟨l', f⟩ μ vs H g h1 r => ?_) fun _ _ _ z => z σ⟩
  match ds, l' with
  | [d, e, d3], _ =>
    obtain ⟨v, r', rfl, r1, rr⟩ := r.uncons
    obtain ⟨w, w3, rfl, r2, r3⟩ := repL2 rr
    exact ⟨v, w, w3, rfl, (show FinF G A D (.nx (((ρ.set i (some d)).set j (some e)).set l (some d3))) S from f) μ _ H g h1 ((((er.mono g).set i r1).set j r2).set l r3)⟩
theorem putF_rep {f : Str} {d : D} {v : V} : ∀ {fs : List (Str × D)} {vs : List (Str × V)}, RepF G A fs vs → Rep G A d v → RepF G A (putFs f d fs) (putF f v vs)
  | [], vs, h, r => by
    have e : vs = [] := h
    subst e
    exact ⟨v, [], rfl, r, rfl⟩
  | (g, e) :: fs, vs, h, r => by
    obtain ⟨w, ws, rfl, h1, h2⟩ : ∃ w ws, vs = (g, w) :: ws ∧ Rep G A e w ∧ RepF G A fs ws := h
    unfold putFs putF
    split
    · rename_i hg
      first
        | (rw [if_pos hg]; exact ⟨v, ws, rfl, r, h2⟩)
        | exact ⟨v, ws, rfl, r, h2⟩
    · rename_i hg
      first
        | (rw [if_neg hg]; exact ⟨w, _, rfl, h1, putF_rep h2 r⟩)
        | exact ⟨w, _, rfl, h1, putF_rep h2 r⟩
theorem repF_len : ∀ {fs : List (Str × D)} {vs : List (Str × V)}, RepF G A fs vs → vs.length = fs.length
  | [], vs, h => by
    have e : vs = [] := h
    subst e; rfl
  | (g, e) :: fs, vs, h => by
    obtain ⟨w, ws, rfl, h1, h2⟩ : ∃ w ws, vs = (g, w) :: ws ∧ Rep G A e w ∧ RepF G A fs ws := h
    simp [repF_len h2]
theorem ss_fld {o e : Expr} {x y : Ex} {f : Str} {pos pos' : Pos} (hcl : ∀ c, Cls X.K (G.ca c) ∧ NoAttr X.K (G.ca c) f) (ho : PE X o (tE G p W x)) (he : PE X e (tE G p W y)) (hs : swapsWith e (some (.Attribute o f pos')) pos.line X.env = pure false) :
    PS X (.Assign [.Attribute o f pos'] e pos) (tS G p W (.asg (.fd x f) y)) := by
  refine PS.imp (ps_fld ho he hs) fun D σ H ⟨A, ρ, hH, hr, er, h⟩ => ?_
  subst hH
  refine tS_bind .refl hr er (show ((evE p y ρ A.S).bind fun d S1 => (asg p (.fd x f) d ρ S1).bind fun ρ1 S2 => Res.ok (Fl.nx ρ1) S2).sat _ _ from h) fun B d v gB hB rd q => ?_
  have q := Res.sat_bind q
  refine tS_bind gB hB (er.mono gB) (show ((evE p x ρ B.S).bind fun x S1 => ofSto ρ (putE f x d S1)).sat _ _ from q) fun C e w gC hC re q => ?_
  cases e with
  | ref n =>
    obtain ⟨n1, rfl⟩ := re
    have q : (ofSto ρ (match C.S[n]? with
      | some (.ins c fs) => if fs.length < 1000 then some (C.S.set n (.ins c (putFs f d fs))) else none
      | _ => none)).sat _ _ := q
    split at q
    · rename_i c fs hn
      split at q
      · rename_i hlt
        obtain ⟨dx, vs, h1, h2⟩ : ∃ dx vs, C.H (C.μ n) = some (.ins (G.ca c) dx vs) ∧ RepF G C fs vs := hC.cell n _ hn
        refine ⟨_, _, dx, vs, rfl, h1, (hcl c).1, (hcl c).2, by rw [repF_len h2]; exact hlt, ?_⟩
        obtain ⟨p1, p2⟩ := hC.put (c' := .ins c (putFs f d fs)) (u := .ins (G.ca c) dx (putF f v vs)) hn rfl rfl h1 (fun zs => ⟨(fun e => by cases e), fun ob e => by cases e⟩) (fun ob zs e => by cases e) fun g => ⟨dx, _, upd_same, putF_rep (by
          have : ∀ {fs : List (Str × Mini.D)} {vs : List (Str × V)}, RepF G C fs vs → RepF G ⟨C.μ, C.S.set n (.ins c (putFs f d _)), upd C.H (C.μ n) (.ins (G.ca c) dx (putF f v _))⟩ fs vs := fun h => RepF.mono g h
          exact this h2) ((rd.mono gC).mono g)⟩
        exact (show FinF G A D (.nx ρ) _ from q) C.μ σ _ ((gB.trans gC).trans p2) p1 (er.mono ((gB.trans gC).trans p2))
      · exact (show False from q).elim
    · exact (show False from q).elim
  | _ => exact (show False from q).elim
theorem ss_aug {i : Nat} {x : Str} {e : Expr} {y : Ex} {pos' pos : Pos} (hN : X.N.Nodup) (hi : X.N[i]? = some x) (hx : L2.Loc X.env.scope x) (he : PE X e (tE G p W y)) (hf : X.fn x = true ∨ X.env.scope.names.lookup x = some .local) : PS X (.AugAssign (.Name x pos') .Add e pos) (tS G p W (.aug i .add y)) := by
  refine PS.imp (ps_aug hN hi hx he ip_add hf) fun D σ H ⟨A, ρ, hH, hr, er, h⟩ => ?_
  subst hH
  have h : ((match ρ[i]? with
    | some (some d) => Res.ok d A.S
    | _ => .no).bind fun x S1 => (evE p y ρ S1).bind fun y S2 => (ofOpt S2 (augE x y .add)).bind fun z S2 => Res.ok (Fl.nx (ρ.set i (some z))) S2).sat (FinF G A D) (XA G A W) := h
  cases q : ρ[i]? with
  | none => rw [q] at h; exact (show False from h).elim
  | some o =>
    cases o with
    | none => rw [q] at h; exact (show False from h).elim
    | some d =>
      rw [q] at h
      obtain ⟨v, h1, r1⟩ := er.get i d q
      refine ⟨v, h1, tS_bind .refl hr er (show ((evE p y ρ A.S).bind fun y S2 => (ofOpt S2 (augE d y .add)).bind fun z S2 => Res.ok (Fl.nx (ρ.set i (some z))) S2).sat _ _ from h) fun B e w g hB re q => ?_⟩
      obtain ⟨z, hz, f⟩ := sat_opt q
      cases d with
      | int a =>
        cases e with
        | int b =>
          have : some (Mini.D.int (a + b)) = some z := hz
          cases this
          exact ⟨a, b, r1, re, (show FinF G A D (.nx _) B.S from f) B.μ _ B.H g hB ((er.mono g).set i (show Rep G B (.int (a + b)) (.int (a + b)) from rfl))⟩
        | _ => cases hz
      | _ => cases hz
theorem ss_ex {e : Expr} {x : Ex} {pos : Pos} (he : PE X e (tE G p W x)) (hs : swapsWith e none pos.line X.env = pure false) : PS X (.Expr e pos) (tS G p W (.ex x)) := by
  refine PS.imp (ps_expr he hs) fun D σ H ⟨A, ρ, hH, hr, er, h⟩ => ?_
  subst hH
  exact tS_bind .refl hr er (show ((evE p x ρ A.S).bind fun _ S1 => Res.ok (Fl.nx ρ) S1).sat _ _ from h) fun B d v g hB rd q => (show FinF G A D (.nx ρ) B.S from q) B.μ σ B.H g hB (er.mono g)
theorem ss_ret {e : Expr} {x : Ex} {pos : Pos} (he : PE X e (tE G p W x)) : PS X (.Return (some e) pos) (tS G p W (.ret x)) := by
  refine PS.imp (ps_ret he) fun D σ H ⟨A, ρ, hH, hr, er, h⟩ => ?_
  subst hH
  exact tS_bind .refl hr er (show ((evE p x ρ A.S).bind fun d S1 => Res.ok (Fl.rt d) S1).sat _ _ from h) fun B d v g hB rd q => Fin.at (Fin.grow (show Fin G A D.rt d B.S from q) g) .refl hB rd
theorem ss_retN {pos : Pos} : PS X (.Return none pos) (tS G p W .ret0) := by
  refine PS.imp ps_retN fun D σ H ⟨A, ρ, hH, hr, er, h⟩ => ?_
  subst hH
  exact Fin.at (show Fin G A D.rt .non A.S from h) .refl hr rfl
theorem ss_pass {pos : Pos} : PS X (.Pass pos) (tS G p W .pass) := by
  refine PS.imp ps_pass fun D σ H ⟨A, ρ, hH, hr, er, h⟩ => ?_
  subst hH
  exact (show FinF G A D (.nx ρ) A.S from h) A.μ σ A.H .refl hr er
theorem ss_doc {x : Str} {j : Nat} {pos pos' : Pos} : PS X (.Expr (.Constant (.str x) j pos) pos') (tS G p W .pass) := by
  refine PS.imp ps_doc fun D σ H ⟨A, ρ, hH, hr, er, h⟩ => ?_
  subst hH
  exact (show FinF G A D (.nx ρ) A.S from h) A.μ σ A.H .refl hr er
theorem ss_brk {pos : Pos} : PS X (.Break pos) (tS G p W .brk) := by
  refine PS.imp ps_break fun D σ H ⟨A, ρ, hH, hr, er, h⟩ => ?_
  subst hH
  exact (show FinF G A D (.bk ρ) A.S from h) A.μ σ A.H .refl hr er
theorem ss_bad {st : Stmt} : PS X st (tS G p W .bad) := by
  refine PS.imp ps_never fun D σ H ⟨A, ρ, hH, hr, er, h⟩ => ?_
  exact (show False from h)
theorem sss_nil : PSs X [] (tSs G p W []) := by
  refine PSs.imp pss_nil fun D σ H ⟨A, ρ, hH, hr, er, h⟩ => ?_
  subst hH
  exact (show FinF G A D (.nx ρ) A.S from h) A.μ σ A.H .refl hr er
theorem sss_cons {st : Stmt} {sts : List Stmt} {x : Mini.St} {xs : List Mini.St} (h1 : PS X st (tS G p W x)) (h2 : PSs X sts (tSs G p W xs)) : PSs X (st :: sts) (tSs G p W (x :: xs)) := by
  refine PSs.imp (pss_cons h1 h2) fun D σ H ⟨A, ρ, hH, hr, er, h⟩ => ?_
  subst hH
  refine ⟨A, ρ, rfl, hr, er, Res.sat_mono (Res.sat_bind (show ((evS p x ρ A.S).bind fun f S1 => match f with
    | .nx ρ1 => evSs p xs ρ1 S1
    | f => Res.ok f S1).sat _ _ from h)) (fun f S q => ?_) fun _ _ _ z => z⟩
  cases f with
  | nx ρ1 => exact fun μ σ' H' g h1 er1 => ⟨⟨μ, S, H'⟩, ρ1, rfl, h1, er1, Res.sat_mono q (fun _ _ z => z.grow g) fun _ _ _ z => z.grow g⟩
  | rt d => exact q
  | bk ρ1 => exact q
theorem ss_if {c : Expr} {a b : List Stmt} {x : Ex} {xs ys : List Mini.St} {pos : Pos} (hc : PT X c (tT G p W x)) (ha : PSs X a (tSs G p W xs)) (hb : PSs X b (tSs G p W ys)) : PS X (.If c a b pos) (tS G p W (.ite x xs ys)) := by
  refine PS.imp (ps_if hc ha hb) fun D σ H ⟨A, ρ, hH, hr, er, h⟩ => ?_
  subst hH
  refine ⟨A, ρ, rfl, hr, er, Res.sat_mono (Res.sat_bind (show ((evB p x ρ A.S).bind fun t S1 => if t then evSs p xs ρ S1 else evSs p ys ρ S1).sat _ _ from h)) (fun t S q μ H g h1 => ?_) fun _ _ _ z => z σ⟩
  cases t with
  | true => exact ⟨⟨μ, S, H⟩, ρ, rfl, h1, er.mono g, Res.sat_mono q (fun _ _ z => z.grow g) fun _ _ _ z => z.grow g⟩
  | false => exact ⟨⟨μ, S, H⟩, ρ, rfl, h1, er.mono g, Res.sat_mono q (fun _ _ z => z.grow g) fun _ _ _ z => z.grow g⟩
theorem ss_for {tg iter : Expr} {body : List Stmt} {t : Tg} {it : Mini.It} {xs : List Mini.St} {pos : Pos} (hp : PassesOwn (model X.prog X.w) X.A X.env X.xe) (hc : X.calm = true) (hi : PI X tg iter (tI G p W it)) (hg : PG X tg (tG G p W t)) (hb : PSs X body (tSs G p W xs))
    (hs : ∀ x, foldedSetIterable iter X.env x = pure x) : PS X (.For tg iter body [] pos) (tS G p W (.for_ t it xs)) := by
  refine PS.imp (ps_for hp hc hi hg hb hs) fun D σ H ⟨A, ρ, hH, hr, er, h⟩ => ?_
  subst hH
  refine ⟨A, ρ, rfl, hr, er, Res.sat_mono (Res.sat_bind (show ((evI p it ρ A.S).bind fun src S1 => forN src (fun d S ρ => (asg p t d ρ S).bind fun ρ1 S1 => evSs p xs ρ1 S1) p.fuel 0 S1 ρ).sat _ _ from h)) (fun src S1 f μ1 H1 J g h1 ok => ?_) fun _ _ _ z => z σ⟩
  generalize hC : (⟨μ1, S1, H1⟩ : Ab) = C at g h1 ok
  have eS : S1 = C.S := by rw [← hC]
  have eH : H1 = C.H := by rw [← hC]
  rw [eS] at f
  rw [eH]
  refine ⟨fun i m σ H => ∃ B ρ, B.H = H ∧ Grow G C B ∧ HR G B ∧ ER G B ρ σ ∧ (forN src (fun d S ρ => (asg p t d ρ S).bind fun ρ1 S1 => evSs p xs ρ1 S1) m i B.S ρ).sat (FinF G A D) (XA G A W), ⟨p.fuel, C, ρ, rfl, .refl, h1, er.mono g, f⟩, ?_⟩
  rintro i m σ H ⟨B, ρ, rfl, gB, hB, er, f⟩
  cases m with
  | zero => exact (show False from f).elim
  | succ m =>
    have so := ok B gB hB i
    unfold forN at f
    cases q : src i B.S with
    | bad => rw [q] at f; exact (show False from f).elim
    | stop =>
      rw [q] at f so
      exact .inl ⟨so, (show FinF G A D (.nx ρ) B.S from f) B.μ σ B.H (g.trans gB) hB er⟩
    | item d =>
      rw [q] at f so
      refine .inr ⟨so.1, _, fun σ' H' hh => ⟨m, Nat.lt_succ_self _, hh⟩, fun x H' hy => ?_⟩
      obtain ⟨gx, hx, rx⟩ := so.2 x H' hy
      have f := Res.sat_bind (Res.sat_bind f)
      have g0 : Grow G A ⟨B.μ, B.S, H'⟩ := (g.trans gB).trans gx
      refine ⟨⟨B.μ, B.S, H'⟩, ρ, d, rfl, hx, er.mono gx, rx, Res.sat_mono f (fun ρ1 S2 f μ2 σ2 H2 g2 h2 er2 _ => ?_) fun _ _ _ z => z.grow g0⟩
      refine ⟨⟨μ2, S2, H2⟩, ρ1, rfl, h2, er2, Res.sat_mono f (fun fl S3 f => ?_) fun _ _ _ z => z.grow (g0.trans g2)⟩
      cases fl with
      | nx ρ3 => exact fun μ3 σ3 H3 g3 h3 er3 => ⟨⟨μ3, S3, H3⟩, ρ3, rfl, ((gB.trans gx).trans g2).trans g3, h3, er3, f⟩
      | rt d => exact Fin.grow (show Fin G A D.rt d S3 from f) (g0.trans g2)
      | bk ρ3 => exact fun μ3 σ3 H3 g3 h3 er3 => (show FinF G A D (.nx ρ3) S3 from f) μ3 σ3 H3 ((g0.trans g2).trans g3) h3 er3
theorem ss_while {c : Expr} {body : List Stmt} {x : Ex} {xs : List Mini.St} {pos : Pos} (hp : PassesOwn (model X.prog X.w) X.A X.env X.xe) (hc : PT X c (tT G p W x)) (hb : PSs X body (tSs G p W xs)) : PS X (.While c body [] pos) (tS G p W (.while_ x xs)) := by
  refine PS.imp (ps_while hp hc hb) fun D σ H ⟨A, ρ, hH, hr, er, h⟩ => ?_
  subst hH
  refine ⟨fun m σ H => ∃ B ρ, B.H = H ∧ Grow G A B ∧ HR G B ∧ ER G B ρ σ ∧ (whileN (evB p x) (evSs p xs) m ρ B.S).sat (FinF G A D) (XA G A W), ⟨p.fuel, A, ρ, rfl, .refl, hr, er, h⟩, ?_⟩
  rintro m σ H ⟨B, ρ, rfl, gB, hB, er, f⟩
  cases m with
  | zero => exact (show False from f).elim
  | succ m =>
    unfold whileN at f
    refine ⟨B, ρ, rfl, hB, er, Res.sat_mono (Res.sat_bind f) (fun t S q μ H g h1 => ?_) fun _ _ _ z => (z σ).grow gB⟩
    cases t with
    | false => exact (show FinF G A D (.nx ρ) S from q) μ σ H (gB.trans g) h1 (er.mono g)
    | true =>
      rw [if_pos rfl]
      refine ⟨_, fun σ' H' hh => ⟨m, Nat.lt_succ_self _, hh⟩, ⟨μ, S, H⟩, ρ, rfl, h1, er.mono g, Res.sat_mono (Res.sat_bind q) (fun fl S3 f => ?_) fun _ _ _ z => (z.grow gB).grow g⟩
      cases fl with
      | nx ρ3 => exact fun μ3 σ3 H3 g3 h3 er3 => ⟨⟨μ3, S3, H3⟩, ρ3, rfl, (gB.trans g).trans g3, h3, er3, f⟩
      | rt d => exact Fin.grow (show Fin G A D.rt d S3 from f) (gB.trans g)
      | bk ρ3 => exact fun μ3 σ3 H3 g3 h3 er3 => (show FinF G A D (.nx ρ3) S3 from f) μ3 σ3 H3 ((gB.trans g).trans g3) h3 er3
end Mini
set_option maxHeartbeats 4000000
/-! Mini: list(range(..)), o[i] += e, a dict with one entry, more stores of pairs. -/
namespace Mini
open PySem PySem.Spec PyProof.Rows L2

variable {G : Gx} {A A0 : Ab} {X : Cx} {W : WX} {p : Pg} {σ : L2.St} {ρ : Loc}
theorem repRg {i : Int} : ∀ n : Nat, RepL G A ((List.range n).map fun (k : Nat) => .int (i + (k : Int))) ((List.range n).map fun (k : Nat) => V.int (i + (k : Nat)))
  | 0 => .nil
  | n + 1 => by
    rw [List.range_succ, List.map_append, List.map_append]
    exact (repRg n).append (.cons rfl .nil)
theorem lrg_fin {i j : Int} {Q : VK} {E : Nat → List (Str × D) → Sto → Prop} (hB : HR G A) (q : (lrgE A.S (.int i) (.int j)).sat (Fin G A Q) E) : RgOk i j ∧ ∀ q, A.H q = none → Q (.ref q) (upd A.H q (.lst (rgV i j))) := by
  have q : (if inR i && inR j && decide ((j - i).toNat ≤ lineN) then new (.lst ((List.range (j - i).toNat).map fun (k : Nat) => .int (i + (k : Int)))) A.S else .no).sat (Fin G A Q) E := q
  split at q
  · rename_i hc
    rw [Bool.and_eq_true, Bool.and_eq_true, decide_eq_true_eq] at hc
    obtain ⟨i1, i2⟩ := inR_ok hc.1.1
    obtain ⟨j1, j2⟩ := inR_ok hc.1.2
    exact ⟨⟨i1, i2, j1, j2, hc.2⟩, fun a ha => Fin.lst q hB (repRg _) ha⟩
  · exact q.elim
theorem se_lrg1 {a : Expr} {x : Ex} {p1 p2 pos pos2 : Pos} (hc : X.calm = true) (gl : Gl X "list") (hm : X.mg "list" = none) (gr : Gl X "range") (hr : X.mg "range" = none) (hs : noStar a = true) (ha : PE X a (tE G p W x)) :
    PE X (.Call (.Name "list" p1) [.Call (.Name "range" p2) [a] [] pos2] [] pos) (tE G p W (.lrg1 x)) := by
  refine PE.imp (pe_listRg hc gl hm (prg_1 gr hr ha (star_cons hs)) (star_cons rfl)) fun σ H Q ⟨A, ρ, hH, hR, er, h⟩ => ?_
  subst hH
  refine tR_bind .refl hR er rfl (show ((evE p x ρ A.S).bind fun x S1 => lrgE S1 (.int 0) x).sat _ _ from h) fun B d v g hB rd q => ?_
  cases d with
  | int j =>
    have := lrg_fin (Q := Q) hB (Res.sat_mono q (fun _ _ f => f.grow g) fun _ _ _ z => z)
    exact ⟨j, rd, this.1, this.2⟩
  | _ => exact (show False from q).elim
theorem se_lrg2 {a b : Expr} {x y : Ex} {p1 p2 pos pos2 : Pos} (hc : X.calm = true) (gl : Gl X "list") (hm : X.mg "list" = none) (gr : Gl X "range") (hr : X.mg "range" = none) (hs : noStar a = true) (hs2 : noStar b = true) (ha : PE X a (tE G p W x)) (hb : PE X b (tE G p W y)) :
    PE X (.Call (.Name "list" p1) [.Call (.Name "range" p2) [a, b] [] pos2] [] pos) (tE G p W (.lrg2 x y)) := by
  refine PE.imp (pe_listRg hc gl hm (prg_2 gr hr ha hb (by rw [star_cons hs]) (star_cons hs2) (star_all (by simp [hs2]))) (star_cons rfl)) fun σ H Q ⟨A, ρ, hH, hR, er, h⟩ => ?_
  subst hH
  refine tR_bind .refl hR er rfl (show ((evE p x ρ A.S).bind fun x S1 => (evE p y ρ S1).bind fun y S2 => lrgE S2 x y).sat _ _ from h) fun B d v g hB rd q => ?_
  refine tR_bind g hB (er.mono g) rfl q fun C e u g2 hC re q => ?_
  cases d with
  | int i =>
    cases e with
    | int j =>
      have := lrg_fin (Q := Q) hC (Res.sat_mono q (fun _ _ f => f.grow (g.trans g2)) fun _ _ _ z => z)
      exact ⟨i, j, rd, re, this.1, this.2⟩
    | _ => exact (show False from q).elim
  | _ => exact (show False from q).elim

/-! ### a dict with one entry -/
theorem se_dct1 {x : Str} {k : Nat} {e : Expr} {v : V} {p1 pos : Pos} (he : PE X e (tC v)) : PE X (.Dict [some (.Constant (.str x) k p1)] [e] pos) (tE G p W .dct) := by
  refine PE.imp (pe_disp (pps_cons pe_str he pps_nil) rfl rfl (by simp) (by simp)) fun σ H Q ⟨A, ρ, hH, hr, er, h⟩ => ?_
  subst hH
  intro q hq
  refine ⟨upd_same, [(.inr x, v)], rfl, by simp, ?_⟩
  generalize hkv : mergeK [] [((.inr x : Key), v)] = kvs
  have e2 : upd (upd A.H q (.dK [])) q (.dK kvs) = upd A.H q (.dK kvs) := by
    funext b
    by_cases hb : b = q
    · subst hb; rw [upd_same, upd_same]
    · rw [upd_ne hb, upd_ne hb, upd_ne hb]
  rw [e2]
  have t : ∀ a ys, SqT G.K A.H a ys → SqT G.K (upd A.H q (.dK kvs)) a ys := fun a ys z => sqT_put z fun u e => by rw [hq] at e; cases e
  have g : Grow G A (A.add q .dct (upd A.H q (.dK kvs))) := .add t
  exact (show Fin G A Q (.ref A.S.length) (A.S ++ [.dct]) from h) _ _ _ g (hr.add hq t (fun a ys z => fzL_put z fun u e => by rw [hq] at e; cases e) (fun b o e => by rw [upd_ne (ne_of_none e hq)]; exact e) ⟨_, upd_same⟩) ⟨by show A.S.length < (A.S ++ [Mini.Cl.dct]).length; simp, by show V.ref q = V.ref (if A.S.length = A.S.length then q else _); rw [if_pos rfl]⟩

/-! ### o[i] += e -/
def rIxD (G : Gx) : V → V → Hp → VK → Prop := fun o i H Q => ∃ A d e b, A.H = H ∧ HR G A ∧ Rep G A d o ∧ Rep G A e i ∧ ixL A.S d e = some b ∧ Fin G A Q b A.S
theorem pg_ix : PGet X (rIxD G) := by
  intro pins s σ H o i ov iv Q I ro ri ⟨A, d, e, b, hH, hr, rd, re, hb, f⟩
  subst hH
  cases d with
  | ref n =>
    obtain ⟨_, rfl⟩ := rd
    cases e with
    | int k =>
      have hb : ((lstAt A.S n).bind fun xs => atI xs k) = some b := hb
      cases hl : lstAt A.S n with
      | none => rw [hl] at hb; cases hb
      | some ds =>
        rw [hl] at hb
        have hb : atI ds k = some b := hb
        obtain ⟨_, xs, h1, r1⟩ := hr.lstAt hl
        cases (show i = V.int k from re)
        obtain ⟨t, rfl⟩ := ri
        cases ro
        obtain ⟨its, rv, pl, hz⟩ := I.list (.of h1)
        obtain ⟨j, h1', h2, h3, h4, h5⟩ := atI_get hb
        obtain ⟨x, hx, rx⟩ := r1.get h2
        obtain ⟨w, ew, rw'⟩ := rv.get hx
        have hl1 := rv.length
        have hl2 := r1.length
        have hn := line63
        have fin : EP X pins σ Q w s := ⟨x, A.H, I, rw', Fin.at f .refl hr rx⟩
        by_cases h0 : 0 ≤ k
        · have hj : k.toNat = j := by
            rw [seqIndex_of h0 h5] at h1'
            exact Option.some.inj h1'
          exact wpAny_getItem_list pl.isList h0 (by omega) (by rw [hj]; simpa using ew) fin
        · have hj : (k + (its.toArray.size : Int)).toNat = j := by
            rw [seqIndex_neg (by omega) h4] at h1'
            rw [List.size_toArray, ← hl1, hl2]
            exact Option.some.inj h1'
          exact wpAny_getItem_list_neg pl.isList (by omega) (by rw [List.size_toArray]; omega) (by omega) (by rw [hj]; simpa using ew) fin
    | _ => cases hb
  | _ => cases hb
theorem aug_ix {i : Expr} (h : (match i with
    | .Slice .. => false
    | _ => true) = true) (ov iv new : Value) : augStore i ov iv new = (do holding [new, ov, iv] (setItem ov iv new); release [new, ov, iv] []; pure .next) := by
  cases i <;> first | rfl | cases h
theorem ss_augS {o i e : Expr} {x y z : Ex} {pos tpos : Pos} (ho : PE X o (tE G p W x)) (hi : PE X i (tE G p W y)) (he : PE X e (tE G p W z)) (ha : ∀ ov iv new, augStore i ov iv new = (do holding [new, ov, iv] (setItem ov iv new); release [new, ov, iv] []; pure .next)) :
    PS X (.AugAssign (.Subscript o i tpos) .Add e pos) (tS G p W (.augS x y .add z)) := by
  refine PS.imp (ps_augS ho hi (pg_ix (G := G)) he ip_add (sn_set (G := G)) ha) fun D σ H ⟨A, ρ, hH, hr, er, h⟩ => ?_
  subst hH
  refine tS_bind .refl hr er (show ((evE p x ρ A.S).bind fun x S1 => (evE p y ρ S1).bind fun y S2 => (ofOpt S2 (ixL S2 x y)).bind fun u S2 => (evE p z ρ S2).bind fun v S3 => (ofOpt S3 (augE u v .add)).bind fun z S3 => (ofOpt S3 (storeE x y z S3)).bind fun S4 _ => Res.ok (Fl.nx ρ) S4).sat _ _ from h) fun B d v g hB rd q => ?_
  refine tS_bind g hB (er.mono g) q fun C e w g2 hC re q => ?_
  obtain ⟨u, hu, q⟩ := sat_opt q
  refine ⟨C, d, e, u, rfl, hC, rd.mono g2, re, hu, fun μ uv H1 g3 h3 ru => ?_⟩
  generalize hD : (⟨μ, C.S, H1⟩ : Ab) = C1 at g3 h3 ru
  have eS : C.S = C1.S := by rw [← hD]
  have eH : H1 = C1.H := by rw [← hD]
  rw [eS] at q
  rw [eH]
  refine tS_bind ((g.trans g2).trans g3) h3 (er.mono ((g.trans g2).trans g3)) q fun F f fv g4 hF rf q => ?_
  obtain ⟨zz, hz, q⟩ := sat_opt q
  obtain ⟨S4, hs, q⟩ := sat_opt q
  cases u with
  | int a =>
    cases f with
    | int b =>
      have : some (Mini.D.int (a + b)) = some zz := hz
      cases this
      refine ⟨a, b, ru.mono g4, rf, ?_⟩
      cases d with
      | ref n =>
        obtain ⟨n1, rfl⟩ := rd
        cases e with
        | int k =>
          have hs : (match lstAt F.S n with
            | some xs => match ixN xs.length k with
              | some j => some (F.S.set n (.lst (xs.set j (.int (a + b)))))
              | none => none
            | none => none) = some S4 := hs
          cases hl : lstAt F.S n with
          | none => rw [hl] at hs; cases hs
          | some ds =>
            rw [hl] at hs
            dsimp only at hs
            cases hj : ixN ds.length k with
            | none => rw [hj] at hs; cases hs
            | some j =>
              rw [hj] at hs
              cases hs
              have gg := (g2.trans g3).trans g4
              refine ⟨F, n, k, j, .int (a + b), ds, rfl, hF, Nat.lt_of_lt_of_le n1 gg.len, by rw [gg.μ n n1], re, rfl, hl, hj, fun H' hr' g' => ?_⟩
              have g5 := (g.trans gg).trans g'
              exact (show FinF G A D (.nx ρ) _ from q) F.μ σ H' g5 hr' (er.mono g5)
        | _ => cases hs
      | _ => cases hs
    | _ => cases hz
  | _ => cases hz

/-! ### a pair stored that is not exchanged -/
def swName (env : Env) (line : Nat) : Expr → Option Str
  | .Name id pos => if env.kindOf id == some .local && pos.line == line then some id else none
  | _ => none
theorem tup_fold {ts vs : List Expr} {k k2 : Nat} {pt pt2 : Pos} {env : Env} (h : vs.all (foldedForSure 8) = true) : swappedStores [.Tuple ts k pt] (.Tuple vs k2 pt2) env = pure none := by
  unfold swappedStores
  simp only [h]
  split
  · rfl
  · split
    · rfl
    · split <;> rfl
theorem tup_names {ts vs : List Expr} {k k2 : Nat} {pt pt2 : Pos} {env : Env} (h : ((ts.filterMap (swName env ((ts.head?.map (·.pos.line)).getD 0))).length != ts.length) = true) : swappedStores [.Tuple ts k pt] (.Tuple vs k2 pt2) env = pure none := by
  unfold swappedStores
  simp only []
  split
  · rfl
  · split
    · rfl
    · refine (if_pos ?_).trans rfl
      rw [Bool.or_eq_true]
      left
      refine Eq.trans ?_ h
      congr 3
end Mini
set_option maxHeartbeats 4000000
/-! Mini: from the text to Mini, and that it keeps. -/
namespace Mini
open PySem PySem.Spec PyProof.Rows L2

structure Tab where
  fns : List (Str × Nat)
  kws : List (Nat × Nat × List Str × List Nat)
  cons : List (Str × D)
  blt : List Str
  gcd : List Str
  cls : List (Str × Nat)
  flds : List Str

def badNm (x : Str) : Bool := decide (x = "__debug__") || decide (x = "__classdict__") || decide (x = "__name__")
def visB (sc : Scope) (x : Str) : Bool := match sc.names.lookup x with
  | some .local => true
  | some .cell => true
  | some .free => true
  | _ => false
def glB (sc : Scope) (x : Str) : Bool := match sc.names.lookup x with
  | some .globalImplicit => true
  | _ => false
def locB (sc : Scope) (x : Str) : Bool := match sc.names.lookup x with
  | some .local => true
  | _ => false
def idx (N : List Str) (x : Str) : Option Nat := match N.findIdx? (fun y => decide (y = x)) with
  | some i => if N[i]? = some x then some i else none
  | none => none
def noSet : Expr → Bool
  | .Set .. => false
  | _ => true
def noIn : CmpOp → Bool
  | .In => false
  | .NotIn => false
  | _ => true
def noComp : Expr → Bool
  | .ListComp .. => false
  | .SetComp .. => false
  | .DictComp .. => false
  | _ => true
def plainBase : Expr → Bool
  | .Name .. => true
  | .Attribute .. => true
  | .Subscript .. => true
  | _ => false
def noSlice : Expr → Bool
  | .Slice .. => false
  | _ => true
def bopOf : Operator → Option Bop
  | .Add => some .add | .Sub => some .sub | .Mult => some .mul | .FloorDiv => some .fdiv | .Mod => some .mod | .Pow => some .pow
  | _ => none
def copOf : CmpOp → Cop
  | .Eq => .eq | .NotEq => .ne | .Lt => .lt | .LtE => .le | .Gt => .gt | .GtE => .ge | .Is => .is | .IsNot => .isnot | .In => .isin | .NotIn => .notin
def tyOfN (x : Str) : Option Ty :=
  if x = "int" then some .int else if x = "bool" then some .bool else if x = "str" then some .str else if x = "tuple" then some .tuple else if x = "list" then some .list else if x = "dict" then some .dict else none
def fnOfN (x : Str) : Option Fn :=
  if x = "len" then some .len else if x = "abs" then some .abs else if x = "max" then some .max else if x = "min" then some .min else if x = "int" then some .int else if x = "tuple" then some .tuple
  else if x = "list" then some .list else if x = "sum" then some .sum else if x = "all" then some .all else if x = "any" then some .any else if x = "divmod" then some .divmod else if x = "repr" then some .repr
  else if x = "str" then some .str else none
def meOfN (x : Str) : Option Me := if x = "append" then some .append else if x = "extend" then some .extend else if x = "pop" then some .pop else none
abbrev Rd := Scope → Expr → Option Ex
def cName (T : Tab) (N : List Str) (sc : Scope) (x : Str) : Option Ex :=
  if badNm x then none else if visB sc x then (idx N x).map .var else if glB sc x then (T.cons.lookup x).map .con else none
def cConst : Const → Option Ex
  | .none => some (.con .non)
  | .bool b => some (.con (.bl b))
  | .int i => some (.con (.int i))
  | .str x => some (.con (.str x))
  | _ => none
def cList (r : Rd) (sc : Scope) (es : List Expr) : Option (List Ex) := if es.all noStar then mapO (r sc) es else none
def cCmp (r : Rd) (sc : Scope) (a : Expr) (ops : List CmpOp) (bs : List Expr) : Option Ex := match ops, bs with
  | [o], [b] => if noSet b then match r sc a, r sc b with
    | some x, some y => some (.cmp (copOf o) x y)
    | _, _ => none else none
  | [o, o'], [b, c] => if noIn o && noIn o' then match r sc a, r sc b, r sc c with
    | some x, some y, some z => some (.chain (copOf o) (copOf o') x y z)
    | _, _, _ => none else none
  | _, _ => none
def cOpt (r : Rd) (sc : Scope) : Option Expr → Option (Option Ex)
  | none => some none
  | some e => (r sc e).map some
def cSub (r : Rd) (sc : Scope) (a b : Expr) : Option Ex := match b with
  | .Slice lo hi none _ => match r sc a, cOpt r sc lo, cOpt r sc hi with
    | some x, some l, some h => some (.sl x l h)
    | _, _, _ => none
  | .Slice none none (some (.UnaryOp .USub (.Constant (.int 1) _ _) _)) _ => (r sc a).map .rev
  | .Slice .. => none
  | b => match r sc a, r sc b with
    | some x, some y => some (.ix x y)
    | _, _ => none
def cBlt (T : Tab) (r : Rd) (sc : Scope) (f : Str) (es : List Expr) : Option Ex :=
  if T.gcd.contains f then (if es.isEmpty then none else (cList r sc es).map (.fn .gcd))
  else if !T.blt.contains f then none
  else if f = "isinstance" then match es with
    | [e, .Name ty _] => if badNm ty || !glB sc ty || !T.blt.contains ty || !noStar e then none else match tyOfN ty, r sc e with
      | some t, some x => some (.fn (.isi t) [x])
      | _, _ => none
    | _ => none
  else if es.isEmpty then none else match fnOfN f, cList r sc es with
    | some g, some xs => some (.fn g xs)
    | _, _ => none
def kwNames : List Keyword → Option (List Str)
  | [] => some []
  | ⟨some x, _, _⟩ :: r => (kwNames r).map (x :: ·)
  | _ => none
def kwVals : List Keyword → List Expr
  | [] => []
  | ⟨_, e, _⟩ :: r => e :: kwVals r
def kwFind (i n : Nat) (names : List Str) : List (Nat × Nat × List Str × List Nat) → Option (List Nat)
  | [] => none
  | (j, m, ns, q) :: r => if j = i ∧ m = n ∧ ns = names then some q else kwFind i n names r
def cOwn (T : Tab) (r : Rd) (sc : Scope) (i : Nat) (es : List Expr) (kws : List Keyword) : Option Ex := match kws with
  | [] => (cList r sc es).map (.call i · none)
  | _ => match cList r sc es, mapO (r sc) (kwVals kws), kwNames kws with
    | some xs, some ys, some ns => (kwFind i es.length ns T.kws).map fun q => .call i (xs ++ ys) (some q)
    | _, _, _ => none
def cCall (T : Tab) (r : Rd) (sc : Scope) (f : Expr) (es : List Expr) (kws : List Keyword) (pos : Pos) : Option Ex := match f with
  | .Name x _ => if badNm x || !glB sc x then none else match T.fns.lookup x with
    | some i => cOwn T r sc i es kws
    | none => if !kws.isEmpty then none else match T.cls.lookup x with
      | some c => (cList r sc es).map (.make c)
      | none => cBlt T r sc x es
  | .Attribute o m apos => if !kws.isEmpty || !plainBase o || !(apos.endLine == pos.line) || !decide (es.length < 29) then none else match meOfN m, r sc o, cList r sc es with
    | some g, some x, some xs => some (.me g x xs)
    | _, _, _ => none
  | _ => none
/-- targets -/
def cTg (sx : Str → Bool) (N : List Str) (r : Rd) (sc : Scope) : Nat → Expr → Option Tg
  | 0, _ => none
  | k + 1, e => match e with
    | .Name x _ => if sx x then (idx N x).map .nm else none
    | .Tuple es _ _ => if es.all plainTg then (mapO (cTg sx N r sc k) es).map .tp else none
    | .Subscript o i _ => if noSlice i then match r sc o, r sc i with
      | some x, some y => some (.ix x y)
      | _, _ => none else none
    | _ => none
def cIt (T : Tab) (r : Rd) (sc : Scope) (tup : Bool) (e : Expr) : Option It := match e with
  | .Call (.Name f _) es [] _ =>
    if f = "range" then (if !glB sc f || !T.blt.contains f || !es.all noStar then none else match es with
      | [a] => (r sc a).map .rng1
      | [a, b] => match r sc a, r sc b with
        | some x, some y => some (.rng2 x y)
        | _, _ => none
      | [a, b, c] => match r sc a, r sc b, r sc c with
        | some x, some y, some z => some (.rng3 x y z)
        | _, _, _ => none
      | _ => none)
    else if f = "zip" then (if !glB sc f || !T.blt.contains f || !es.all noStar || !tup then none else match es with
      | [a, b] => match r sc a, r sc b with
        | some x, some y => some (.zip x y)
        | _, _ => none
      | _ => none)
    else if f = "enumerate" then (if !glB sc f || !T.blt.contains f || !es.all noStar || !tup then none else match es with
      | [a] => (r sc a).map .enum
      | _ => none)
    else (r sc e).map .val
  | e => if noSet e then (r sc e).map .val else none
def isTup : Expr → Bool
  | .Tuple .. => true
  | _ => false
def ownOf (N : List Str) : List (Str × NameKind) → List (Str × Nat)
  | [] => []
  | (x, k) :: r => match k, idx N x with
    | .local, some i => (x, i) :: ownOf N r
    | .cell, some i => (x, i) :: ownOf N r
    | _, _ => ownOf N r
/-- what a comprehension's block may store to -/
def sxB (sc scope : Scope) (x : Str) : Bool := match (relS scope sc).names.lookup x with
  | some .local => true
  | some .cell => match scope.names.lookup x with
    | some .cell => true
    | _ => false
  | _ => false
def cComp (T : Tab) (N : List Str) (r : Rd) (sc : Scope) (elt : Expr) (gs : List Comprehension) (scope : Scope) : Option Ex := match gs with
  | [⟨tg, iter, ifs, 0⟩] => if !blkC N sc scope (ownOf N scope.names) then none else
      match cTg (sxB sc scope) N r (relS scope sc) 4 tg, cIt T r sc (isTup tg) iter, r (relS scope sc) elt with
      | some t, some it, some x => if !tgIn ((ownOf N scope.names).map (·.2)) t then none else match ifs with
        | [] => some (.comp t it [] x ((ownOf N scope.names).map (·.2)))
        | [c] => (r (relS scope sc) c).map fun y => .comp t it [y] x ((ownOf N scope.names).map (·.2))
        | _ => none
      | _, _, _ => none
  | _ => none
def cLrg (T : Tab) (r : Rd) (sc : Scope) (f : Expr) (es : List Expr) (kws : List Keyword) : Option Ex := match f, es, kws with
  | .Name l _, [.Call (.Name g _) as [] _], [] => if l = "list" ∧ g = "range" ∧ glB sc l = true ∧ glB sc g = true ∧ T.blt.contains l = true ∧ T.blt.contains g = true ∧ as.all noStar = true then match as with
    | [a] => (r sc a).map .lrg1
    | [a, b] => match r sc a, r sc b with
      | some x, some y => some (.lrg2 x y)
      | _, _ => none
    | _ => none else none
  | _, _, _ => none
def cE1 (T : Tab) (N : List Str) (r : Rd) (sc : Scope) (e : Expr) : Option Ex := match e with
  | .Name x _ => cName T N sc x
  | .Constant c _ _ => cConst c
  | .Tuple es _ _ => (cList r sc es).bind fun xs => if xs.length ≤ 1000 then some (.tup xs) else none
  | .List es _ => (cList r sc es).bind fun xs => if xs.length ≤ 1000 then some (.lst xs) else none
  | .Dict [] [] _ => some .dct
  | .Dict [some (.Constant (.str _) _ _)] [.Constant v _ _] _ => (cConst v).map fun _ => .dct
  | .BinOp a op b _ => match bopOf op, r sc a, r sc b with
    | some o, some x, some y => some (.bin o x y)
    | _, _, _ => none
  | .UnaryOp .USub a _ => (r sc a).map .neg
  | .UnaryOp .Not a _ => (r sc a).map .not
  | .BoolOp _ [a] _ => r sc a
  | .BoolOp .And (a :: b :: rest) p => match r sc a, r sc (.BoolOp .And (b :: rest) p) with
    | some x, some y => some (.and x y)
    | _, _ => none
  | .BoolOp .Or (a :: b :: rest) p => match r sc a, r sc (.BoolOp .Or (b :: rest) p) with
    | some x, some y => some (.or x y)
    | _, _ => none
  | .Compare a ops bs _ => cCmp r sc a ops bs
  | .IfExp c a b _ => match r sc c, r sc a, r sc b with
    | some z, some x, some y => some (.ite z x y)
    | _, _, _ => none
  | .Attribute o f _ => if plainBase o && T.flds.contains f then (r sc o).map (.fld · f) else none
  | .Subscript a b _ => cSub r sc a b
  | .Call f es kws pos => match cLrg T r sc f es kws with
    | some x => some x
    | none => cCall T r sc f es kws pos
  | .ListComp elt gs scope _ => cComp T N r sc elt gs scope
  | _ => none
def cE (T : Tab) (N : List Str) : Nat → Rd
  | 0 => fun _ _ => none
  | n + 1 => cE1 T N (cE T N n)

/-! ### what the context holds -/
structure Gd (T : Tab) (G : Gx) (p : Pg) (X : Cx) (W : WX) : Prop where
  hK : X.K = G.K
  calm : X.calm = true
  nd : X.N.Nodup
  gds : X.A.guards = some []
  units : X.A.units + 65 < cLine
  tk : Takes X W
  fn : ∀ x i, T.fns.lookup x = some i → ∃ k f fd ps, FnG X.prog X.w X.K X.mg X.base k f fd ps (spD G (p.call i)) ∧ Room k X.A ∧ X.mg x = some (.ref f) ∧ PySem.W.keepIn X.K (.ref f) = true ∧ Binds X.K fd ps [] ∧
    ∀ n ns q, (i, n, ns, q) ∈ T.kws → ∀ (s : Shared) (us ws : List Value), us.length = n → ws.length = ns.length → BindsTo s fd ⟨us, ns.zip ws⟩ (ps.zip (permV .none (us ++ ws) q))
  con : ∀ x d, T.cons.lookup x = some d → ∃ v u, X.mg x = some u ∧ RelV v u ∧ ∀ A, Rep G A d v
  blt : ∀ x ∈ T.blt, X.mg x = none
  gcd : ∀ x ∈ T.gcd, X.mg x = some (.builtin "math.gcd")
  cls : ∀ x c, T.cls.lookup x = some c → ∃ k f fd ps r, Mk X.K (G.ca c) f ∧ FnG X.prog X.w X.K X.mg X.base k f fd ps (spD G r) ∧ (∀ ds S, p.make c ds S = initE r c ds S) ∧ Room (k + 1) X.A ∧ X.mg x = some (.ref (G.ca c)) ∧ Binds X.K fd ps []
  fld : ∀ f ∈ T.flds, ∀ c, Cls X.K (G.ca c) ∧ NoAttr X.K (G.ca c) f
variable {T : Tab} {G : Gx} {p : Pg} {X : Cx} {W : WX} {N : List Str}
theorem Gd.blk {s : Shared} {H : Hp} {scope : Scope} {cenv : Env} {fp : List Addr} (g : Gd T G p X W) : Gd T G p (X.blk s H scope cenv fp) W0 :=
  ⟨g.hK, g.calm, g.nd, g.gds, g.units, takes0, g.fn, g.con, g.blt, g.gcd, g.cls, g.fld⟩
def isBool : Expr → Bool
  | .BoolOp .. => true
  | _ => false
structure Kp (G : Gx) (p : Pg) (X : Cx) (W : WX) (e : Expr) (x : Ex) : Prop where
  pe : PE X e (tE G p W x)
  pt : PT X e (tT G p W x)
  pw : isBool e = true → PW X e (tT G p W x)
def OkE (T : Tab) (G : Gx) (p : Pg) (N : List Str) (r : Rd) : Prop := ∀ (X : Cx) (W : WX), Gd T G p X W → X.N = N → ∀ sc e x, X.env.scope = sc → r sc e = some x → Kp G p X W e x
def plainT : Expr → Bool
  | .UnaryOp .Not _ _ => false
  | .BoolOp .. => false
  | .IfExp .. => false
  | .Compare .. => false
  | _ => true
theorem plainT_ok {e : Expr} (h : plainT e = true) (env : Env) (whole : Sem Value) : isTrue e env whole = (do let v ← whole; standAt e.pos; holding [v] (truthy v)) := by
  cases e with
  | UnaryOp op a p => cases op <;> first | rfl | cases h
  | BoolOp => cases h
  | IfExp => cases h
  | Compare => cases h
  | _ => rfl
theorem Kp.plain {e : Expr} {x : Ex} (g : Gd T G p X W) (h : plainT e = true) (pe : PE X e (tE G p W x)) : Kp G p X W e x :=
  ⟨pe, st_plain g.hK pe (plainT_ok h X.env), fun z => by cases e <;> first | cases z; done | cases h⟩
theorem bad_ok {x : Str} (h : badNm x = false) : (x == ("__debug__" : Str)) = false ∧ (x == ("__classdict__" : Str)) = false ∧ x ≠ "__name__" := by
  unfold badNm at h
  simp only [Bool.or_eq_false_iff, decide_eq_false_iff_not] at h
  exact ⟨by simpa using h.1.1, by simpa using h.1.2, h.2⟩
theorem visB_ok {sc : Scope} {x : Str} (h : visB sc x = true) : Vis sc x := by
  unfold visB at h
  split at h <;> rename_i q
  · exact .inl q
  · exact .inr (.inl q)
  · exact .inr (.inr q)
  · cases h
theorem glB_ok {sc : Scope} {x : Str} (h : glB sc x = true) (e : X.env.scope = sc) : Gl X x := by
  unfold glB at h
  split at h
  · rename_i q
    show X.env.scope.names.lookup x = _
    rw [e]; exact q
  · cases h
theorem locB_ok {sc : Scope} {x : Str} (h : locB sc x = true) : sc.names.lookup x = some .local := by
  unfold locB at h
  split at h
  · rename_i q; exact q
  · cases h
theorem idx_ok {x : Str} {i : Nat} (h : idx N x = some i) : N[i]? = some x := by
  unfold idx at h
  split at h
  · split at h
    · rename_i q; cases h; exact q
    · cases h
  · cases h
theorem noSet_ok {op : CmpOp} {b : Expr} (h : noSet b = true) : behindInMarks op b = false := by
  cases b <;> first | rfl | cases h
theorem noIn_ok {op : CmpOp} (h : noIn op = true) (b : Expr) : behindInMarks op b = false := by
  cases op <;> first | (cases h; done) | exact nobehind b (by decide) (by decide)
theorem base_ok {o : Expr} {m : Str} {env : Env} {w : Sem Value} (h : plainBase o = true) : attributeBase o m env w = w := by
  cases o <;> first | rfl | cases h
theorem mapO_cons {α β : Type} {f : α → Option β} {x : α} {xs : List α} {ys : List β} (h : mapO f (x :: xs) = some ys) : ∃ d ds, ys = d :: ds ∧ f x = some d ∧ mapO f xs = some ds := by
  have h : (match f x, mapO f xs with
    | some d, some ds => some (d :: ds)
    | _, _ => none) = some ys := h
  split at h
  · rename_i d ds h1 h2
    cases h
    exact ⟨d, ds, rfl, h1, h2⟩
  · cases h
theorem mapO_len {α β : Type} {f : α → Option β} : ∀ {xs : List α} {ys : List β}, mapO f xs = some ys → xs.length = ys.length
  | [], ys, h => by cases h; rfl
  | x :: xs, ys, h => by
    obtain ⟨d, ds, rfl, _, h2⟩ := mapO_cons h
    simp [mapO_len h2]
section
variable {r : Rd} {sc : Scope}
theorem cl_list (ok : OkE T G p N r) (g : Gd T G p X W) (hN : X.N = N) (hs : X.env.scope = sc) : ∀ {es : List Expr} {xs : List Ex}, es.all noStar = true → mapO (r sc) es = some xs → PA X es (tA G p W xs)
  | [], xs, _, h => by cases h; exact sa_nil
  | e :: es, xs, h0, h => by
    obtain ⟨d, ds, rfl, h1, h2⟩ := mapO_cons h
    have h3 : noStar e = true ∧ es.all noStar = true := by simpa using h0
    exact sa_cons h3.1 (ok X W g hN sc e d hs h1).pe (cl_list ok g hN hs h3.2 h2)
theorem cList_ok (ok : OkE T G p N r) (g : Gd T G p X W) (hN : X.N = N) (hs : X.env.scope = sc) {es : List Expr} {xs : List Ex} (h : cList r sc es = some xs) : es.all noStar = true ∧ es.length = xs.length ∧ PA X es (tA G p W xs) := by
  unfold cList at h
  split at h
  · rename_i h0
    exact ⟨h0, mapO_len h, cl_list ok g hN hs h0 h⟩
  · cases h
theorem cName_ok (g : Gd T G p X W) (hN : X.N = N) (hs : X.env.scope = sc) {x : Str} {pos : Pos} {y : Ex} (h : cName T N sc x = some y) : Kp G p X W (.Name x pos) y := by
  unfold cName at h
  split at h
  · cases h
  · rename_i hb
    obtain ⟨b1, b2, b3⟩ := bad_ok (by simpa using hb)
    split at h
    · rename_i hv
      obtain ⟨i, hi, rfl⟩ := Option.map_eq_some_iff.mp h
      exact .plain g rfl (se_var (by rw [hN]; exact idx_ok hi) (by rw [hs]; exact visB_ok hv) b1 b2)
    · split at h
      · rename_i hg
        obtain ⟨d, hd, rfl⟩ := Option.map_eq_some_iff.mp h
        obtain ⟨v, u, h1, h2, h3⟩ := g.con x d hd
        exact .plain g rfl (se_con (pe_glob (glB_ok hg hs) h1 h2 b1) h3)
      · cases h
theorem cConst_ok (g : Gd T G p X W) {c : Const} {k : Nat} {pos : Pos} {y : Ex} (h : cConst c = some y) : Kp G p X W (.Constant c k pos) y := by
  cases c with
  | none => cases h; exact .plain g rfl (se_con (v := .non) pe_non fun _ => rfl)
  | bool b => cases h; exact .plain g rfl (se_con (v := .bl b) pe_bl fun _ => rfl)
  | int i => cases h; exact .plain g rfl (se_con (v := .int i) pe_int fun _ => rfl)
  | str x => cases h; exact .plain g rfl (se_con (v := .str x) pe_str fun _ => rfl)
  | _ => cases h
theorem cop_ok (g : Gd T G p X W) (o : CmpOp) : OpR X (compareOp o) (rC2 G (cmpE (copOf o))) := by
  have u1 : X.A.units + 64 < cLine := Nat.lt_of_succ_lt g.units
  cases o with
  | Eq => exact sn_eq g.hK u1
  | NotEq => exact sn_ne g.hK u1
  | Lt => exact sn_lt
  | LtE => exact sn_le
  | Gt => exact sn_gt
  | GtE => exact sn_ge
  | Is => exact sn_is
  | IsNot => exact sn_isnot
  | In => exact sn_in g.hK g.units
  | NotIn => exact sn_notin g.hK g.units
theorem bop_ok (g : Gd T G p X W) {op : Operator} {o : Bop} (h : bopOf op = some o) : OpR X (binaryOp op) (rD2 G (binE o)) := by
  cases op <;> cases h
  · exact sn_add g.hK
  · exact sn_sub
  · exact sn_mul g.hK
  · exact sn_mod
  · exact sn_pow
  · exact sn_fdiv
theorem cCmp_ok (ok : OkE T G p N r) (g : Gd T G p X W) (hN : X.N = N) (hs : X.env.scope = sc) {a : Expr} {ops : List CmpOp} {bs : List Expr} {pos : Pos} {y : Ex} (h : cCmp r sc a ops bs = some y) : Kp G p X W (.Compare a ops bs pos) y := by
  unfold cCmp at h
  split at h
  · rename_i o b
    split at h
    · rename_i hb
      split at h
      · rename_i x y' h1 h2
        cases h
        have A := (ok X W g hN sc a _ hs h1).pe
        have B := (ok X W g hN sc b _ hs h2).pe
        exact ⟨se_cmp (cop_ok g o) (noSet_ok hb) A B, st_cmp (cop_ok g o) (noSet_ok hb) A B, fun z => by cases z⟩
      · cases h
    · cases h
  · rename_i o o' b c
    split at h
    · rename_i hb
      split at h
      · rename_i x y' z' h1 h2 h3
        cases h
        rw [Bool.and_eq_true] at hb
        have A := (ok X W g hN sc a _ hs h1).pe
        have B := (ok X W g hN sc b _ hs h2).pe
        have C := (ok X W g hN sc c _ hs h3).pe
        exact ⟨se_chain (cop_ok g o) (cop_ok g o') (noIn_ok hb.1) (noIn_ok hb.2) A B C, st_chain (cop_ok g o) (cop_ok g o') (noIn_ok hb.1) (noIn_ok hb.2) A B C, fun z => by cases z⟩
      · cases h
    · cases h
  · cases h
theorem cOpt_ok (ok : OkE T G p N r) (g : Gd T G p X W) (hN : X.N = N) (hs : X.env.scope = sc) {o : Option Expr} {x : Option Ex} (h : cOpt r sc o = some x) : PO X o (tO G p W x) := by
  cases o with
  | none => cases h; exact so_none
  | some e =>
    obtain ⟨y, hy, rfl⟩ := Option.map_eq_some_iff.mp (show (r sc e).map some = some x from h)
    exact so_some (ok X W g hN sc e y hs hy).pe
theorem ix_plain {b : Expr} (h : noSlice b = true) : PlainIx b := by
  cases b <;> first | (intro o i; rfl) | cases h
theorem cSub_ok (ok : OkE T G p N r) (g : Gd T G p X W) (hN : X.N = N) (hs : X.env.scope = sc) {a b : Expr} {pos : Pos} {y : Ex} (h : cSub r sc a b = some y) : Kp G p X W (.Subscript a b pos) y := by
  unfold cSub at h
  split at h
  · split at h
    · rename_i x l hh h1 h2 h3
      cases h
      exact .plain g rfl (se_sl g.hK (ok X W g hN sc a _ hs h1).pe (cOpt_ok ok g hN hs h2) (cOpt_ok ok g hN hs h3))
    · cases h
  · obtain ⟨x, h1, rfl⟩ := Option.map_eq_some_iff.mp h
    exact .plain g rfl (se_rev g.hK (ok X W g hN sc a _ hs h1).pe)
  · cases h
  · rename_i n1 n2 n3
    split at h
    · rename_i x y' h1 h2
      cases h
      have hb : noSlice b = true := by
        cases b with
        | Slice lo hi st ps => exact absurd rfl (n3 lo hi st ps)
        | _ => rfl
      exact .plain g rfl (se_ix g.hK (ix_plain hb) (ok X W g hN sc a _ hs h1).pe (ok X W g hN sc b _ hs h2).pe)
    · cases h
theorem nt {a b : Bool} (h : ¬ (a || b) = true) : ¬ a = true ∧ ¬ b = true := by cases a <;> cases b <;> simp at h ⊢
theorem nn {a : Bool} (h : ¬ (!a) = true) : a = true := by cases a <;> simp at h ⊢
theorem nf {a : Bool} (h : ¬ a = true) : a = false := by cases a <;> simp at h ⊢
theorem emp_ne {α : Type} {es : List α} (h : ¬ es.isEmpty = true) : es ≠ [] := by
  intro e; subst e; exact h rfl
theorem has_ok {x : Str} {l : List Str} (h : l.contains x = true) : x ∈ l := by simpa using h
theorem cBlt_ok (ok : OkE T G p N r) (g : Gd T G p X W) (hN : X.N = N) (hs : X.env.scope = sc) {f : Str} {es : List Expr} {p1 pos : Pos} {y : Ex} (hb : badNm f = false) (hg : glB sc f = true) (h : cBlt T r sc f es = some y) : Kp G p X W (.Call (.Name f p1) es [] pos) y := by
  obtain ⟨b1, b2, b3⟩ := bad_ok hb
  have gl := glB_ok hg hs
  unfold cBlt at h
  split at h
  · rename_i hgc
    split at h
    · cases h
    · rename_i he
      obtain ⟨xs, h1, rfl⟩ := Option.map_eq_some_iff.mp h
      obtain ⟨c1, c2, c3⟩ := cList_ok ok g hN hs h1
      exact .plain g rfl (se_gcd gl (g.gcd f (has_ok hgc)) b1 c1 (emp_ne he) c3)
  · split at h
    · cases h
    · rename_i hbl
      have hm : X.mg f = none := g.blt f (has_ok (by simpa using hbl))
      split at h
      · rename_i hf
        subst hf
        split at h
        · rename_i e ty p2
          split at h
          · cases h
          · rename_i hc
            obtain ⟨hc, c4⟩ := nt hc
            obtain ⟨hc, c3⟩ := nt hc
            obtain ⟨c1, c2⟩ := nt hc
            split at h
            · rename_i t x h1 h2
              cases h
              obtain ⟨d1, d2, d3⟩ := bad_ok (nf c1)
              refine .plain g rfl (se_isi g.hK gl hm (glB_ok (nn c2) hs) (g.blt ty (has_ok (nn c3))) ?_ d3 d1 (nn c4) (ok X W g hN sc e _ hs h2).pe)
              unfold tyOfN at h1
              split at h1
              · rename_i q; subst q; cases h1; decide +kernel
              · split at h1
                · rename_i q; subst q; cases h1; decide +kernel
                · split at h1
                  · rename_i q; subst q; cases h1; decide +kernel
                  · split at h1
                    · rename_i q; subst q; cases h1; decide +kernel
                    · split at h1
                      · rename_i q; subst q; cases h1; decide +kernel
                      · split at h1
                        · rename_i q; subst q; cases h1; decide +kernel
                        · cases h1
            · cases h
        · cases h
      · split at h
        · cases h
        · rename_i he
          split at h
          · rename_i gg xs h1 h2
            cases h
            obtain ⟨c1, c2, c3⟩ := cList_ok ok g hN hs h2
            have ne := emp_ne he
            refine .plain g rfl ?_
            unfold fnOfN at h1
            by_cases q : f = "len"
            · rw [if_pos q] at h1; subst q; cases h1; exact se_fn (sn_len g.hK) gl hm (by decide +kernel) b3 b1 c1 ne c3
            rw [if_neg q] at h1
            by_cases q : f = "abs"
            · rw [if_pos q] at h1; subst q; cases h1; exact se_fn sn_abs gl hm (by decide +kernel) b3 b1 c1 ne c3
            rw [if_neg q] at h1
            by_cases q : f = "max"
            · rw [if_pos q] at h1; subst q; cases h1; exact se_fn (sn_max g.hK g.calm) gl hm (by decide +kernel) b3 b1 c1 ne c3
            rw [if_neg q] at h1
            by_cases q : f = "min"
            · rw [if_pos q] at h1; subst q; cases h1; exact se_fn (sn_min g.hK g.calm) gl hm (by decide +kernel) b3 b1 c1 ne c3
            rw [if_neg q] at h1
            by_cases q : f = "int"
            · rw [if_pos q] at h1; subst q; cases h1; exact se_fnT sn_int gl hm (by decide +kernel) b3 b1 c1 ne c3
            rw [if_neg q] at h1
            by_cases q : f = "tuple"
            · rw [if_pos q] at h1; subst q; cases h1; exact se_fnT (sn_tuple g.hK) gl hm (by decide +kernel) b3 b1 c1 ne c3
            rw [if_neg q] at h1
            by_cases q : f = "list"
            · rw [if_pos q] at h1; subst q; cases h1; exact se_fnT (sn_list g.hK) gl hm (by decide +kernel) b3 b1 c1 ne c3
            rw [if_neg q] at h1
            by_cases q : f = "sum"
            · rw [if_pos q] at h1; subst q; cases h1; exact se_fn (sn_sum g.hK g.calm) gl hm (by decide +kernel) b3 b1 c1 ne c3
            rw [if_neg q] at h1
            by_cases q : f = "all"
            · rw [if_pos q] at h1; subst q; cases h1; exact se_fn (sn_all g.hK g.calm) gl hm (by decide +kernel) b3 b1 c1 ne c3
            rw [if_neg q] at h1
            by_cases q : f = "any"
            · rw [if_pos q] at h1; subst q; cases h1; exact se_fn (sn_any g.hK g.calm) gl hm (by decide +kernel) b3 b1 c1 ne c3
            rw [if_neg q] at h1
            by_cases q : f = "divmod"
            · rw [if_pos q] at h1; subst q; cases h1; exact se_fn sn_divmod gl hm (by decide +kernel) b3 b1 c1 ne c3
            rw [if_neg q] at h1
            by_cases q : f = "repr"
            · rw [if_pos q] at h1; subst q; cases h1; exact se_fn (sn_repr g.hK g.gds (Nat.lt_of_succ_lt g.units)) gl hm (by decide +kernel) b3 b1 c1 ne c3
            rw [if_neg q] at h1
            by_cases q : f = "str"
            · rw [if_pos q] at h1; subst q; cases h1; exact se_fnT sn_str gl hm (by decide +kernel) b3 b1 c1 ne c3
            rw [if_neg q] at h1
            cases h1
          · cases h
theorem kwNames_ok : ∀ {kws : List Keyword} {ns : List Str} {env : Env} {pos : Pos}, kwNames kws = some ns → (backToKw pos (keywordEach kws env)).all (·.1.isSome) = true ∧ (backToKw pos (keywordEach kws env)).filterMap (·.1) = ns
  | [], ns, _, _, h => by cases h; exact ⟨rfl, rfl⟩
  | ⟨none, e, kp⟩ :: r, ns, _, _, h => by cases h
  | ⟨some x, e, kp⟩ :: r, ns, env, pos, h => by
    obtain ⟨ms, h1, rfl⟩ := Option.map_eq_some_iff.mp (show (kwNames r).map (x :: ·) = some ns from h)
    obtain ⟨i1, i2⟩ := kwNames_ok (env := env) (pos := pos) h1
    constructor
    · show (true && (backToKw pos (keywordEach r env)).all (·.1.isSome)) = true
      rw [i1]; rfl
    · show x :: (backToKw pos (keywordEach r env)).filterMap (·.1) = x :: ms
      rw [i2]
theorem kw_len : ∀ {kws : List Keyword} {ns : List Str}, kwNames kws = some ns → (kwVals kws).length = ns.length
  | [], ns, h => by cases h; rfl
  | ⟨none, e, kp⟩ :: r, ns, h => by cases h
  | ⟨some x, e, kp⟩ :: r, ns, h => by
    obtain ⟨ms, h1, rfl⟩ := Option.map_eq_some_iff.mp (show (kwNames r).map (x :: ·) = some ns from h)
    show (kwVals r).length + 1 = _
    rw [kw_len h1]; rfl
theorem cl_kws (ok : OkE T G p N r) (g : Gd T G p X W) (hN : X.N = N) (hs : X.env.scope = sc) : ∀ {kws : List Keyword} {xs : List Ex}, mapO (r sc) (kwVals kws) = some xs → PK X kws (tA G p W xs)
  | [], xs, h => by cases h; exact sk_nil
  | ⟨nm, e, kp⟩ :: kws, xs, h => by
    obtain ⟨d, ds, rfl, h1, h2⟩ := mapO_cons h
    exact sk_cons (ok X W g hN sc e d hs h1).pe (cl_kws ok g hN hs h2)
theorem kwFind_ok {i n : Nat} {ns : List Str} : ∀ {l : List (Nat × Nat × List Str × List Nat)} {q : List Nat}, kwFind i n ns l = some q → (i, n, ns, q) ∈ l
  | [], q, h => by cases h
  | (j, m, ms, q') :: l, q, h => by
    unfold kwFind at h
    split at h
    · rename_i e
      obtain ⟨rfl, rfl, rfl⟩ := e
      cases h
      exact List.mem_cons_self
    · exact List.mem_cons_of_mem _ (kwFind_ok h)
theorem cOwn_ok (ok : OkE T G p N r) (g : Gd T G p X W) (hN : X.N = N) (hs : X.env.scope = sc) {f : Str} {i : Nat} {es : List Expr} {kws : List Keyword} {p1 pos : Pos} {y : Ex} (hb : badNm f = false) (hg : glB sc f = true) (hf : T.fns.lookup f = some i) (h : cOwn T r sc i es kws = some y) :
    Kp G p X W (.Call (.Name f p1) es kws pos) y := by
  obtain ⟨b1, b2, b3⟩ := bad_ok hb
  have gl := glB_ok hg hs
  obtain ⟨k, fa, fd, ps, F, hr, hm, hk, hbi, hkw⟩ := g.fn f i hf
  unfold cOwn at h
  split at h
  · obtain ⟨xs, h1, rfl⟩ := Option.map_eq_some_iff.mp h
    obtain ⟨c1, c2, c3⟩ := cList_ok ok g hN hs h1
    exact .plain g rfl (se_call F hr g.gds gl hm hk hbi g.tk b1 c1 (fun e => by subst e; cases xs with
      | nil => rfl
      | cons => cases c2) c3)
  · split at h
    · rename_i xs ys ns h1 h2 h3
      obtain ⟨q, h4, rfl⟩ := Option.map_eq_some_iff.mp h
      obtain ⟨c1, c2, c3⟩ := cList_ok ok g hN hs h1
      have l2 : ns.length = ys.length := by rw [← kw_len h3]; exact mapO_len h2
      exact .plain g rfl (se_callK F hr g.gds gl hm hk (hkw es.length ns q (kwFind_ok h4)) g.tk b1 c1 c2 l2 c3 (cl_kws ok g hN hs h2) fun pos => kwNames_ok h3)
    · cases h
theorem me_ok {m : Str} {gg : Me} (h : meOfN m = some gg) : ∃ id, Slot "list" m id ∧ typeOf (.builtin id) = pure (.type "method_descriptor") ∧ ∀ (X : Cx) (G : Gx), MtR X id (rMe G gg) := by
  unfold meOfN at h
  split at h
  · rename_i q; subst q; cases h; exact ⟨"list.append", PySem.F.slot_list_append, PySem.F.type_list_append, fun X G => sn_append⟩
  split at h
  · rename_i q; subst q; cases h; exact ⟨"list.extend", PySem.F.slot_list_extend, PySem.F.type_list_extend, fun X G => sn_extend⟩
  split at h
  · rename_i q; subst q; cases h; exact ⟨"list.pop", PySem.F.slot_list_pop, PySem.F.type_list_pop, fun X G => sn_pop⟩
  · cases h
theorem nil_of {α β : Type} {es : List α} {xs : List β} (h : es.length = xs.length) (e : es = []) : xs = [] := by
  subst e
  cases xs with
  | nil => rfl
  | cons => cases h
theorem cCall_ok (ok : OkE T G p N r) (g : Gd T G p X W) (hN : X.N = N) (hs : X.env.scope = sc) {f : Expr} {es : List Expr} {kws : List Keyword} {pos : Pos} {y : Ex} (h : cCall T r sc f es kws pos = some y) : Kp G p X W (.Call f es kws pos) y := by
  unfold cCall at h
  split at h
  · rename_i x p1
    split at h
    · cases h
    · rename_i hc
      obtain ⟨hb, hg⟩ := nt hc
      have hb := nf hb
      have hg := nn hg
      split at h
      · rename_i i hf
        exact cOwn_ok ok g hN hs hb hg hf h
      · split at h
        · cases h
        · rename_i hk
          have e : kws = [] := by
            cases kws with
            | nil => rfl
            | cons => exact absurd rfl hk
          subst e
          split at h
          · rename_i c hcl
            obtain ⟨xs, h1, rfl⟩ := Option.map_eq_some_iff.mp h
            obtain ⟨c1, c2, c3⟩ := cList_ok ok g hN hs h1
            obtain ⟨k, fa, fd, ps, rr, M, F, hp, hr, hm, hbi⟩ := g.cls x c hcl
            obtain ⟨b1, b2, b3⟩ := bad_ok hb
            exact .plain g rfl (se_make M rfl F hp hr g.gds (glB_ok hg hs) hm hbi g.tk b1 c1 (nil_of c2) c3)
          · exact cBlt_ok ok g hN hs hb hg h
  · rename_i o m apos
    split at h
    · cases h
    · rename_i hc
      obtain ⟨hc, k4⟩ := nt hc
      obtain ⟨hc, k3⟩ := nt hc
      obtain ⟨k1, k2⟩ := nt hc
      have e : kws = [] := by
        cases kws with
        | nil => rfl
        | cons => exact absurd rfl k1
      subst e
      split at h
      · rename_i gg x xs h1 h2 h3
        cases h
        obtain ⟨c1, c2, c3⟩ := cList_ok ok g hN hs h3
        obtain ⟨id, m1, m2, m3⟩ := me_ok h1
        exact .plain g rfl (se_me g.hK m1 m2 (m3 X G) (base_ok (nn k2)) (nn k3) c1 (of_decide_eq_true (nn k4)) (nil_of c2) (ok X W g hN sc o _ hs h2).pe c3)
      · cases h
  · cases h
end
end Mini
set_option maxHeartbeats 4000000
/-! Mini: from the text to Mini: targets, iterables, comprehensions, the whole of an expression. -/
namespace Mini
open PySem PySem.Spec PyProof.Rows L2

variable {T : Tab} {G : Gx} {p : Pg} {X : Cx} {W : WX} {N : List Str} {r : Rd} {sc : Scope}
/-- where a name may be stored -/
def SxOk (X : Cx) (sx : Str → Bool) : Prop := ∀ x, sx x = true → L2.Loc X.env.scope x ∧ (X.fn x = true ∨ X.env.scope.names.lookup x = some .local)
theorem asg_ix {o i : Expr} {pos : Pos} (h : noSlice i = true) (v : Value) : assign (.Subscript o i pos) X.env v = (do
      let ov ← holding [v] (eval o X.env)
      let iv ← holding [v, ov] (eval i X.env)
      standAt pos
      holding [v, ov, iv] (setItem ov iv v)
      release [v, ov, iv] []) := by
  cases i <;> first | rfl | cases h
mutual
theorem cTg_ok {sx : Str → Bool} (ok : OkE T G p N r) (g : Gd T G p X W) (hN : X.N = N) (hs : X.env.scope = sc) (hx : SxOk X sx) : ∀ (k : Nat) {e : Expr} {t : Tg}, cTg sx N r sc k e = some t → PG X e (tG G p W t)
  | 0, e, t, h => by cases h
  | k + 1, e, t, h => by
    unfold cTg at h
    split at h
    · rename_i x pos
      split at h
      · rename_i hsx
        obtain ⟨i, hi, rfl⟩ := Option.map_eq_some_iff.mp h
        obtain ⟨h1, h2⟩ := hx x hsx
        exact sg_name g.nd (by rw [hN]; exact idx_ok hi) h1 h2
      · cases h
    · rename_i es kk pos
      split at h
      · rename_i hp
        obtain ⟨ts, hts, rfl⟩ := Option.map_eq_some_iff.mp h
        exact sg_tup g.hK g.calm hp (mapO_len hts) (cTgs_ok ok g hN hs hx k hp hts)
      · cases h
    · rename_i o i pos
      split at h
      · rename_i hi
        split at h
        · rename_i x y h1 h2
          cases h
          exact sg_ix (ok X W g hN sc o _ hs h1).pe (ok X W g hN sc i _ hs h2).pe (asg_ix hi)
        · cases h
      · cases h
    · cases h
  termination_by k => (k, 0)
theorem cTgs_ok {sx : Str → Bool} (ok : OkE T G p N r) (g : Gd T G p X W) (hN : X.N = N) (hs : X.env.scope = sc) (hx : SxOk X sx) : ∀ (k : Nat) {es : List Expr} {ts : List Tg}, es.all plainTg = true → mapO (cTg sx N r sc k) es = some ts → PGs X es (tGs G p W ts)
  | k, [], ts, _, h => by cases h; exact sgs_nil
  | k, e :: es, ts, hp, h => by
    obtain ⟨d, ds, rfl, h1, h2⟩ := mapO_cons h
    have h3 : plainTg e = true ∧ es.all plainTg = true := by simpa using hp
    exact sgs_cons h3.1 (cTg_ok ok g hN hs hx k h1) (cTgs_ok ok g hN hs hx k h3.2 h2)
  termination_by k es => (k, es.length + 1)
end
theorem all1 {a : Expr} (h : [a].all noStar = true) : noStar a = true := by simpa using h
theorem all2 {a b : Expr} (h : [a, b].all noStar = true) : noStar a = true ∧ noStar b = true := by simpa using h
theorem all3 {a b c : Expr} (h : [a, b, c].all noStar = true) : noStar a = true ∧ noStar b = true ∧ noStar c = true := by simpa using h
theorem fsi_ok {e : Expr} (h : noSet e = true) (x : Value) : foldedSetIterable e X.env x = pure x := by
  cases e <;> first | rfl | cases h
theorem cIt_ok (ok : OkE T G p N r) (g : Gd T G p X W) (hN : X.N = N) (hs : X.env.scope = sc) {tg e : Expr} {it : Mini.It} (h : cIt T r sc (isTup tg) e = some it) : PI X tg e (tI G p W it) ∧ ∀ x, foldedSetIterable e X.env x = pure x := by
  unfold cIt at h
  split at h
  · rename_i f p1 es pos
    refine ⟨?_, fun x => rfl⟩
    split at h
    · rename_i hf
      subst hf
      split at h
      · cases h
      · rename_i hc
        obtain ⟨hc, c3⟩ := nt hc
        obtain ⟨c1, c2⟩ := nt hc
        have gl := glB_ok (nn c1) hs
        have hm := g.blt _ (has_ok (nn c2))
        have c3 := nn c3
        split at h
        · obtain ⟨x, h1, rfl⟩ := Option.map_eq_some_iff.mp h
          have s1 := all1 c3
          exact si_rng1 gl hm s1 (sa_cons s1 (ok X W g hN sc _ _ hs h1).pe sa_nil)
        · split at h
          · rename_i x y h1 h2
            cases h
            obtain ⟨s1, s2⟩ := all2 c3
            exact si_rng2 gl hm s1 s2 (sa_cons s1 (ok X W g hN sc _ _ hs h1).pe (sa_cons s2 (ok X W g hN sc _ _ hs h2).pe sa_nil))
          · cases h
        · split at h
          · rename_i x y z h1 h2 h3
            cases h
            obtain ⟨s1, s2, s3⟩ := all3 c3
            exact si_rng3 gl hm s1 s2 s3 (sa_cons s1 (ok X W g hN sc _ _ hs h1).pe (sa_cons s2 (ok X W g hN sc _ _ hs h2).pe (sa_cons s3 (ok X W g hN sc _ _ hs h3).pe sa_nil)))
          · cases h
        · cases h
    · split at h
      · rename_i hf
        subst hf
        split at h
        · cases h
        · rename_i hc
          obtain ⟨hc, c4⟩ := nt hc
          obtain ⟨hc, c3⟩ := nt hc
          obtain ⟨c1, c2⟩ := nt hc
          have gl := glB_ok (nn c1) hs
          have hm := g.blt _ (has_ok (nn c2))
          have c3 := nn c3
          have c4 := nn c4
          split at h
          · split at h
            · rename_i x y h1 h2
              cases h
              obtain ⟨s1, s2⟩ := all2 c3
              cases tg with
              | Tuple elts kk tp => exact si_zip g.hK gl hm s1 s2 (sa_cons s1 (ok X W g hN sc _ _ hs h1).pe (sa_cons s2 (ok X W g hN sc _ _ hs h2).pe sa_nil))
              | _ => cases c4
            · cases h
          · cases h
      · split at h
        · rename_i hf
          subst hf
          split at h
          · cases h
          · rename_i hc
            obtain ⟨hc, c4⟩ := nt hc
            obtain ⟨hc, c3⟩ := nt hc
            obtain ⟨c1, c2⟩ := nt hc
            have gl := glB_ok (nn c1) hs
            have hm := g.blt _ (has_ok (nn c2))
            have c3 := nn c3
            have c4 := nn c4
            split at h
            · obtain ⟨x, h1, rfl⟩ := Option.map_eq_some_iff.mp h
              have s1 := all1 c3
              cases tg with
              | Tuple elts kk tp => exact si_enum g.hK gl hm s1 (sa_cons s1 (ok X W g hN sc _ _ hs h1).pe sa_nil)
              | _ => cases c4
            · cases h
        · obtain ⟨x, h1, rfl⟩ := Option.map_eq_some_iff.mp h
          exact si_val g.hK (ok X W g hN sc _ _ hs h1).pe
  · split at h
    · rename_i hn
      obtain ⟨x, h1, rfl⟩ := Option.map_eq_some_iff.mp h
      exact ⟨si_val g.hK (ok X W g hN sc _ _ hs h1).pe, fsi_ok hn⟩
    · cases h
theorem sxB_ok {s : Shared} {H : Hp} {scope : Scope} {C : Addr} {cl : List (Str × Addr)} {fp : List Addr} (hs : X.env.scope = sc) : SxOk (X.blk s H scope (compEnvC scope cl C X.env) fp) (sxB sc scope) := by
  intro x h
  unfold sxB at h
  have e : (X.blk s H scope (compEnvC scope cl C X.env) fp).env.scope = relS scope sc := by
    show relabel scope X.env = _
    rw [← hs]; rfl
  rw [e]
  split at h
  · rename_i q
    exact ⟨.inl q, .inr q⟩
  · rename_i q
    split at h
    · rename_i q2
      refine ⟨.inr q, .inl ?_⟩
      show (scope.names.lookup x == some .cell) = true
      rw [q2]; rfl
    · cases h
  · cases h
theorem blk_scope {s : Shared} {H : Hp} {scope : Scope} {C : Addr} {cl : List (Str × Addr)} {fp : List Addr} (hs : X.env.scope = sc) : (X.blk s H scope (compEnvC scope cl C X.env) fp).env.scope = relS scope sc := by
  show relabel scope X.env = _
  rw [← hs]; rfl
/-- what a comprehension's parts are -/
structure CompOk (G : Gx) (p : Pg) (X : Cx) (W : WX) (tg iter elt : Expr) (ifs : List Expr) (scope : Scope) (own : List (Str × Nat)) (t : Tg) (it : Mini.It) (cs : List Ex) (x : Ex) : Prop where
  tin : tgIn (own.map (·.2)) t = true
  pi : PI X tg iter (tI G p W it)
  blk : BlkOk X.N X.env.scope scope own
  pg : ∀ (s : Shared) (H : Hp) (C : Addr) (cl : List (Str × Addr)) (fp : List Addr), PG (X.blk s H scope (compEnvC scope cl C X.env) fp) tg (tG G p W0 t)
  pts : ∀ (s : Shared) (H : Hp) (C : Addr) (cl : List (Str × Addr)) (fp : List Addr), PTs (X.blk s H scope (compEnvC scope cl C X.env) fp) ifs (tTs G p W0 cs)
  pe : ∀ (s : Shared) (H : Hp) (C : Addr) (cl : List (Str × Addr)) (fp : List Addr), PE (X.blk s H scope (compEnvC scope cl C X.env) fp) elt (tE G p W0 x)
  fsi : ∀ x, foldedSetIterable iter X.env x = pure x
theorem cComp_ok (ok : OkE T G p N r) (g : Gd T G p X W) (hN : X.N = N) (hs : X.env.scope = sc) {elt : Expr} {gs : List Comprehension} {scope : Scope} {y : Ex} (h : cComp T N r sc elt gs scope = some y) :
    ∃ tg iter ifs own t it cs x, gs = [⟨tg, iter, ifs, 0⟩] ∧ y = .comp t it cs x (own.map (·.2)) ∧ CompOk G p X W tg iter elt ifs scope own t it cs x := by
  unfold cComp at h
  split at h
  · rename_i tg iter ifs
    split at h
    · cases h
    · rename_i hb
      have hb := nn hb
      split at h
      · rename_i t it x h1 h2 h3
        split at h
        · cases h
        · rename_i ht
          have ht := nn ht
          have bo : BlkOk X.N X.env.scope scope (ownOf N scope.names) := by rw [hN, hs]; exact blkOk_by hb
          obtain ⟨i1, i2⟩ := cIt_ok ok g hN hs h2
          have base : ∀ cs, (∀ (s : Shared) (H : Hp) (C : Addr) (cl : List (Str × Addr)) (fp : List Addr), PTs (X.blk s H scope (compEnvC scope cl C X.env) fp) ifs (tTs G p W0 cs)) → CompOk G p X W tg iter elt ifs scope (ownOf N scope.names) t it cs x := fun cs hcs =>
            ⟨ht, i1, bo, fun s H C cl fp => cTg_ok ok g.blk hN (blk_scope hs) (sxB_ok hs) 4 h1, hcs, fun s H C cl fp => (ok _ _ g.blk hN _ _ _ (blk_scope hs) h3).pe, i2⟩
          split at h
          · cases h
            exact ⟨tg, iter, _, _, t, it, [], x, rfl, rfl, base [] fun s H C cl fp => sts_nil⟩
          · rename_i c
            obtain ⟨z, h4, rfl⟩ := Option.map_eq_some_iff.mp h
            exact ⟨tg, iter, _, _, t, it, [z], x, rfl, rfl, base [z] fun s H C cl fp => sts_one (ok _ _ g.blk hN _ _ _ (blk_scope hs) h4).pt⟩
          · cases h
      · cases h
  · cases h
theorem evB_ite {ρ : Loc} {S : Sto} {c a b : Ex} : evB p (.ite c a b) ρ S = (evB p c ρ S).bind fun t S1 => if t then evB p a ρ S1 else evB p b ρ S1 := by
  show ((evE p c ρ S).bind fun x S1 => (ofOpt S1 (truth S1 x)).bind fun t S1 => if t then evE p a ρ S1 else evE p b ρ S1).bind (fun d S1 => ofOpt S1 (truth S1 d)) = ((evE p c ρ S).bind fun d S1 => ofOpt S1 (truth S1 d)).bind _
  cases evE p c ρ S with
  | ok d S1 =>
    show ((ofOpt S1 (truth S1 d)).bind fun t S1 => if t then evE p a ρ S1 else evE p b ρ S1).bind (fun d S1 => ofOpt S1 (truth S1 d)) = (ofOpt S1 (truth S1 d)).bind _
    cases truth S1 d with
    | none => rfl
    | some t => cases t <;> rfl
  | _ => rfl
theorem st_ite {c a b : Expr} {z x y : Ex} {pos : Pos} (hc : PT X c (tT G p W z)) (ha : PT X a (tT G p W x)) (hb : PT X b (tT G p W y)) : PT X (.IfExp c a b pos) (tT G p W (.ite z x y)) := by
  refine ⟨fun pins s σ H Q I ⟨A, ρ, hH, hr, er, h⟩ => ?_⟩
  subst hH
  rw [evB_ite] at h
  refine PyProof.Rows.isTrue_IfExp (thn (hc.run pins s σ _ _ I (tRb_bind (Q := fun t H1 => if t = true then tT G p W x σ H1 Q else tT G p W y σ H1 Q) .refl hr er rfl h fun B t g hB q => ?_)) fun d s1 ⟨H1, I1, q1⟩ => ?_)
  · cases t with
    | true => exact tRb_last g hB (er.mono g) q
    | false => exact tRb_last g hB (er.mono g) q
  · cases d with
    | true => exact ha.run pins s1 σ H1 Q I1 q1
    | false => exact hb.run pins s1 σ H1 Q I1 q1
theorem se_dct {pos : Pos} : PE X (.Dict [] [] pos) (tE G p W .dct) := by
  refine PE.imp pe_dnewK fun σ H Q ⟨A, ρ, hH, hr, er, h⟩ => ?_
  subst hH
  intro q hq
  have t : ∀ a ys, SqT G.K A.H a ys → SqT G.K (upd A.H q (.dK [])) a ys := fun a ys z => sqT_put z fun u e => by rw [hq] at e; cases e
  have g : Grow G A (A.add q .dct (upd A.H q (.dK []))) := .add t
  exact (show Fin G A Q (.ref A.S.length) (A.S ++ [.dct]) from h) _ _ _ g (hr.add hq t (fun a ys z => fzL_put z fun u e => by rw [hq] at e; cases e) (fun b o e => by rw [upd_ne (ne_of_none e hq)]; exact e) ⟨_, upd_same⟩) ⟨by show A.S.length < (A.S ++ [Mini.Cl.dct]).length; simp, by show V.ref q = V.ref (if A.S.length = A.S.length then q else _); rw [if_pos rfl]⟩
theorem con_any {c : Const} {y : Ex} (h : cConst c = some y) {k : Nat} {pos : Pos} : ∃ v, PE X (.Constant c k pos) (tC v) := by
  cases c with
  | none => exact ⟨_, pe_non⟩
  | bool b => exact ⟨_, pe_bl⟩
  | int i => exact ⟨_, pe_int⟩
  | str x => exact ⟨_, pe_str⟩
  | _ => cases h
theorem cLrg_ok (ok : OkE T G p N r) (g : Gd T G p X W) (hN : X.N = N) (hs : X.env.scope = sc) {f : Expr} {es : List Expr} {kws : List Keyword} {pos : Pos} {y : Ex} (h : cLrg T r sc f es kws = some y) : PE X (.Call f es kws pos) (tE G p W y) := by
  unfold cLrg at h
  split at h
  · split at h
    · rename_i hc
      obtain ⟨rfl, rfl, c1, c2, c3, c4, c5⟩ := hc
      have gl := glB_ok c1 hs
      have gr := glB_ok c2 hs
      have hm := g.blt _ (has_ok c3)
      have hr := g.blt _ (has_ok c4)
      split at h
      · obtain ⟨x, h1, rfl⟩ := Option.map_eq_some_iff.mp h
        exact se_lrg1 g.calm gl hm gr hr (all1 c5) (ok X W g hN sc _ _ hs h1).pe
      · split at h
        · rename_i x y h1 h2
          cases h
          obtain ⟨s1, s2⟩ := all2 c5
          exact se_lrg2 g.calm gl hm gr hr s1 s2 (ok X W g hN sc _ _ hs h1).pe (ok X W g hN sc _ _ hs h2).pe
        · cases h
      · cases h
    · cases h
  · cases h
theorem cE1_ok (ok : OkE T G p N r) : OkE T G p N (cE1 T N r) := by
  intro X W g hN sc e y hs h
  unfold cE1 at h
  split at h
  · exact cName_ok g hN hs h
  · exact cConst_ok g h
  · rename_i es k pos
    obtain ⟨xs, h1, h2⟩ := Option.bind_eq_some_iff.mp h
    split at h2
    · rename_i hl
      cases h2
      exact .plain g rfl (se_tup hl (cList_ok ok g hN hs h1).2.2)
    · cases h2
  · rename_i es pos
    obtain ⟨xs, h1, h2⟩ := Option.bind_eq_some_iff.mp h
    split at h2
    · rename_i hl
      cases h2
      exact .plain g rfl (se_lst hl (cList_ok ok g hN hs h1).2.2)
    · cases h2
  · cases h
    exact .plain g rfl se_dct
  · obtain ⟨z, h1, rfl⟩ := Option.map_eq_some_iff.mp h
    obtain ⟨v, hv⟩ := con_any (X := X) h1
    exact .plain g rfl (se_dct1 hv)
  · split at h
    · rename_i o x z h1 h2 h3
      cases h
      exact .plain g rfl (se_bin (bop_ok g h1) (ok X W g hN sc _ _ hs h2).pe (ok X W g hN sc _ _ hs h3).pe)
    · cases h
  · obtain ⟨x, h1, rfl⟩ := Option.map_eq_some_iff.mp h
    exact .plain g rfl (se_neg (ok X W g hN sc _ _ hs h1).pe)
  · obtain ⟨x, h1, rfl⟩ := Option.map_eq_some_iff.mp h
    have k := ok X W g hN sc _ _ hs h1
    exact ⟨se_not g.hK k.pe, st_not k.pt, fun z => by cases z⟩
  · rename_i op a pos
    have k := ok X W g hN sc _ _ hs h
    cases op with
    | And => exact ⟨pe_one k.pe, (pw_and1 k.pt).pt, fun _ => pw_and1 k.pt⟩
    | Or => exact ⟨pe_one k.pe, (pw_or1 k.pt).pt, fun _ => pw_or1 k.pt⟩
  · split at h
    · rename_i x z h1 h2
      cases h
      have k1 := ok X W g hN sc _ _ hs h1
      have k2 := ok X W g hN sc _ _ hs h2
      exact ⟨se_and g.hK k1.pe k2.pe, (st_and k1.pt (k2.pw rfl)).pt, fun _ => st_and k1.pt (k2.pw rfl)⟩
    · cases h
  · split at h
    · rename_i x z h1 h2
      cases h
      have k1 := ok X W g hN sc _ _ hs h1
      have k2 := ok X W g hN sc _ _ hs h2
      exact ⟨se_or g.hK k1.pe k2.pe, (st_or k1.pt (k2.pw rfl)).pt, fun _ => st_or k1.pt (k2.pw rfl)⟩
    · cases h
  · exact cCmp_ok ok g hN hs h
  · split at h
    · rename_i z x w h1 h2 h3
      cases h
      have k1 := ok X W g hN sc _ _ hs h1
      have k2 := ok X W g hN sc _ _ hs h2
      have k3 := ok X W g hN sc _ _ hs h3
      exact ⟨se_ite k1.pt k2.pe k3.pe, st_ite k1.pt k2.pt k3.pt, fun z => by cases z⟩
    · cases h
  · split at h
    · rename_i hc
      rw [Bool.and_eq_true] at hc
      obtain ⟨x, h1, rfl⟩ := Option.map_eq_some_iff.mp h
      exact .plain g rfl (se_fld g.hK (g.fld _ (has_ok hc.2)) (base_ok hc.1) (ok X W g hN sc _ _ hs h1).pe)
    · cases h
  · exact cSub_ok ok g hN hs h
  · split at h
    · rename_i x h1
      cases h
      exact .plain g rfl (cLrg_ok ok g hN hs h1)
    · exact cCall_ok ok g hN hs h
  · obtain ⟨tg, iter, ifs, own, t, it, cs, x, rfl, rfl, k⟩ := cComp_ok ok g hN hs h
    exact .plain g rfl (se_comp g.calm g.nd k.tin k.pi k.blk k.pg k.pts k.pe k.fsi)
  · cases h
theorem cE_ok : ∀ n, OkE T G p N (cE T N n)
  | 0 => fun _ _ _ _ _ _ _ _ h => by cases h
  | n + 1 => cE1_ok (cE_ok n)
end Mini
set_option maxHeartbeats 4000000
/-! Mini: from the text to Mini: statements. -/
namespace Mini
open PySem PySem.Spec PyProof.Rows L2

def stB (sc : Scope) (x : Str) : Bool := match sc.names.lookup x with
  | some .local => true
  | some .cell => true
  | _ => false
/-- does a comprehension's block store at once -/
def swB (sc scope : Scope) (x : Str) (py lp : Pos) : Bool := locB sc x && py.line == lp.line && !(scope.names.any fun (n, k) => n == x && (k == .local || k == .cell))
def cSet (T : Tab) (N : List Str) (r : Rd) (sc : Scope) (x : Str) (py : Pos) (i : Nat) (e : Expr) : St := match e with
  | .ListComp elt gs scope lp => if swB sc scope x py lp then match cComp T N r sc elt gs scope with
      | some y => .asg (.nm i) y
      | none => .bad else match r sc e with
      | some y => .asg (.nm i) y
      | none => .bad
  | e => if noComp e then match r sc e with
    | some y => .asg (.nm i) y
    | none => .bad else .bad
def cPar (N : List Str) (r : Rd) (sc : Scope) (ts vs : List Expr) : St := match ts, vs with
  | [.Name x px, .Name y py], [a, b] => if !locB sc x || !locB sc y || !(px.line == py.line) || x == y || [a, b].all (foldedForSure 8) || [a, b].all (constantsAlone 8) then .bad else match idx N x, idx N y, cList r sc [a, b] with
    | some i, some j, some [u, v] => .par [i, j] [u, v]
    | _, _, _ => .bad
  | [.Name x px, .Name y py, .Name z pz], [a, b, c] => if !locB sc x || !locB sc y || !locB sc z || !(px.line == py.line) || !(px.line == pz.line) || x == y || x == z || y == z || [a, b, c].all (foldedForSure 8) || [a, b, c].all (constantsAlone 8) then .bad else match idx N x, idx N y, idx N z, cList r sc [a, b, c] with
    | some i, some j, some k, some [u, v, w] => .par [i, j, k] [u, v, w]
    | _, _, _, _ => .bad
  | _, _ => .bad
def swNameS (sc : Scope) (line : Nat) : Expr → Option Str
  | .Name id pos => if sc.names.lookup id == some .local && pos.line == line then some id else none
  | _ => none
def noSwap (sc : Scope) (ts vs : List Expr) : Bool := vs.all (foldedForSure 8) || (ts.filterMap (swNameS sc ((ts.head?.map (·.pos.line)).getD 0))).length != ts.length || !(ts.length == 2 || ts.length == 3) || vs.length != ts.length
def noTup : Expr → Bool
  | .Tuple .. => false
  | _ => true
def cAsg (T : Tab) (N : List Str) (r : Rd) (sc : Scope) (tg e : Expr) : St := match tg with
  | .Name x py => if stB sc x then match idx N x with
      | some i => cSet T N r sc x py i e
      | none => .bad else .bad
  | .Tuple ts _ _ => match e with
    | .Tuple vs _ _ => if noSwap sc ts vs then match cTg (stB sc) N r sc 4 tg, r sc e with
        | some t, some x => .asg t x
        | _, _ => .bad
      else cPar N r sc ts vs
    | e => match cTg (stB sc) N r sc 4 tg, r sc e with
      | some t, some x => .asg t x
      | _, _ => .bad
  | .Subscript .. => match cTg (stB sc) N r sc 4 tg, r sc e with
    | some t, some x => .asg t x
    | _, _ => .bad
  | .Attribute o f _ => if T.flds.contains f then match r sc o, r sc e with
    | some x, some y => .asg (.fd x f) y
    | _, _ => .bad else .bad
  | _ => .bad
def cS (T : Tab) (N : List Str) (r : Rd) (sc : Scope) : Nat → Stmt → St
  | 0, _ => .bad
  | k + 1, st => match st with
    | .Expr (.Constant (.str _) _ _) _ => .pass
    | .Expr e _ => if noComp e then match r sc e with
      | some x => .ex x
      | none => .bad else .bad
    | .Return none _ => .ret0
    | .Return (some e) _ => match r sc e with
      | some x => .ret x
      | none => .bad
    | .Pass _ => .pass
    | .Break _ => .brk
    | .Assign [tg] e _ => cAsg T N r sc tg e
    | .AugAssign (.Name x _) .Add e _ => if stB sc x then match idx N x, r sc e with
      | some i, some y => .aug i .add y
      | _, _ => .bad else .bad
    | .AugAssign (.Subscript o i _) .Add e _ => if noSlice i then match r sc o, r sc i, r sc e with
      | some x, some y, some z => .augS x y .add z
      | _, _, _ => .bad else .bad
    | .If c a b _ => match r sc c with
      | some x => .ite x (a.map (cS T N r sc k)) (b.map (cS T N r sc k))
      | none => .bad
    | .For tg iter b [] _ => match cTg (stB sc) N r sc 4 tg, cIt T r sc (isTup tg) iter with
      | some t, some it => .for_ t it (b.map (cS T N r sc k))
      | _, _ => .bad
    | .While c b [] _ => match r sc c with
      | some x => .while_ x (b.map (cS T N r sc k))
      | none => .bad
    | _ => .bad

structure Gs (T : Tab) (G : Gx) (p : Pg) (X : Cx) (W : WX) : Prop where
  gd : Gd T G p X W
  pass : PassesOwn (model X.prog X.w) X.A X.env X.xe
  fnT : ∀ x, X.fn x = true
  kind : X.env.scope.kind = .function
variable {T : Tab} {G : Gx} {p : Pg} {X : Cx} {W : WX} {N : List Str} {r : Rd} {sc : Scope}
theorem stB_ok (hs : X.env.scope = sc) (hf : ∀ x, X.fn x = true) : SxOk X (stB sc) := by
  intro x h
  unfold stB at h
  rw [hs]
  split at h
  · rename_i q; exact ⟨.inl q, .inl (hf x)⟩
  · rename_i q; exact ⟨.inr q, .inl (hf x)⟩
  · cases h
theorem sw_no {e : Expr} {t : Option Expr} {l : Nat} {env : Env} (h : noComp e = true) : swapsWith e t l env = pure false := by
  cases e <;> first | rfl | cases h
theorem sw_any {e tg : Expr} {l : Nat} {env : Env} (h : ∀ x p, tg ≠ .Name x p) : swapsWith e (some tg) l env = pure false := by
  cases e <;> first | rfl | (cases tg <;> first | rfl | exact absurd rfl (h _ _))
theorem sw_sole {e tg : Expr} {l : Nat} {env : Env} (h : ∀ x p, tg ≠ .Name x p) : swapsWithSole [tg] e l env = pure false := sw_any h
theorem star_no : ∀ {e : Expr}, noStar e = true → ¬ (match e with
    | .Starred .. => true
    | _ => false) = true := by
  intro e h
  cases e <;> first | (intro z; cases z; done) | cases h
theorem sw_comp {elt : Expr} {gs : List Comprehension} {scope : Scope} {lp py : Pos} {x : Str} {l : Nat} (hs : X.env.scope = sc) (hk : X.env.scope.kind = .function) {b : Bool} (h : swB sc scope x py lp = b) : swapsWith (.ListComp elt gs scope lp) (some (.Name x py)) l X.env = pure b := by
  have hb : X.env.blockKind = .function := by unfold Env.blockKind; rw [hk]; rfl
  have hl : (X.env.kindOf x == some NameKind.local) = locB sc x := by
    show (X.env.scope.names.lookup x == some .local) = _
    rw [hs]
    unfold locB
    cases sc.names.lookup x with
    | none => rfl
    | some k => cases k <;> rfl
  unfold swapsWith
  show (pure ((X.env.blockKind == .function && X.env.kindOf x == some .local && py.line == (Expr.ListComp elt gs scope lp).pos.line && !(scope.names.any fun (n, k) => n == x && (k == .local || k == .cell)))) : Sem Bool) = pure b
  rw [hl, hb, ← h]
  rfl
theorem cSet_ok (ok : OkE T G p N r) (hr : ∃ n, r = cE T N n) (g : Gs T G p X W) (hN : X.N = N) (hs : X.env.scope = sc) {x : Str} {py pos : Pos} {i : Nat} {e : Expr} (hx : stB sc x = true) (hi : idx N x = some i) : PS X (.Assign [.Name x py] e pos) (tS G p W (cSet T N r sc x py i e)) := by
  obtain ⟨h1, h2⟩ := stB_ok hs g.fnT x hx
  have hi' : X.N[i]? = some x := by rw [hN]; exact idx_ok hi
  unfold cSet
  split
  · rename_i elt gs scope lp
    split
    · rename_i hsw
      split
      · rename_i y hy
        obtain ⟨tg, iter, ifs, own, t, it, cs, z, rfl, rfl, k⟩ := cComp_ok ok g.gd hN hs hy
        have hl : X.env.scope.names.lookup x = some .local := by
          have hsw := hsw
          unfold swB at hsw
          rw [Bool.and_eq_true, Bool.and_eq_true] at hsw
          rw [hs]
          exact locB_ok hsw.1.1
        exact ss_setLc g.gd.calm g.gd.nd hi' hl (sw_comp hs g.kind hsw) k.tin k.pi k.blk k.pg k.pts k.pe k.fsi
      · exact ss_bad
    · rename_i hsw
      split
      · rename_i y hy
        exact ss_set g.gd.nd hi' h1 (ok X W g.gd hN sc _ _ hs hy).pe (sw_comp hs g.kind (nf hsw)) h2
      · exact ss_bad
  · split
    · rename_i hn
      split
      · rename_i y hy
        exact ss_set g.gd.nd hi' h1 (ok X W g.gd hN sc _ _ hs hy).pe (sw_no hn) h2
      · exact ss_bad
    · exact ss_bad
theorem tup_none {ts : List Expr} {e : Expr} {k : Nat} {pt : Pos} {env : Env} (h : noTup e = true) : swappedStores [.Tuple ts k pt] e env = pure none := by
  cases e <;> first | rfl | cases h
theorem tup_len {ts vs : List Expr} {k k2 : Nat} {pt pt2 : Pos} {env : Env} (h : (!(ts.length == 2 || ts.length == 3) || vs.length != ts.length || env.blockKind != .function) = true) : swappedStores [.Tuple ts k pt] (.Tuple vs k2 pt2) env = pure none := by
  unfold swappedStores
  simp only [h]
  rfl
theorem par_two {x y : Str} {px py pt pt2 : Pos} {a b : Expr} {k k2 : Nat} (hk : X.env.scope.kind = .function) (hx : X.env.scope.names.lookup x = some .local) (hy : X.env.scope.names.lookup y = some .local) (hl : (px.line == py.line) = true) (hxy : (x == y) = false)
    (hs : [a, b].all noStar = true) (hf : [a, b].all (foldedForSure 8) = false) (hc : [a, b].all (constantsAlone 8) = false) : swappedStores [.Tuple [.Name x px, .Name y py] k pt] (.Tuple [a, b] k2 pt2) X.env = pure (some [x, y]) := by
  have hb : X.env.blockKind = .function := by unfold Env.blockKind; rw [hk]; rfl
  have kx : X.env.kindOf x = some .local := hx
  have ky : X.env.kindOf y = some .local := hy
  have hyx : (y == x) = false := by rw [beq_eq_false_iff_ne] at hxy ⊢; exact fun e => hxy e.symm
  have hl2 : (py.line == px.line) = true := by rw [beq_iff_eq] at hl ⊢; exact hl.symm
  have st : ([a, b].any fun | .Starred .. => true | _ => false) = false := by
    have h2 := all2 hs
    have one : ∀ e, noStar e = true → (match e with | .Starred .. => true | _ => false) = false := fun e h => by cases e <;> first | rfl | cases h
    simp only [List.any_cons, List.any_nil]
    rw [one a h2.1, one b h2.2]; rfl
  unfold swappedStores
  simp only [hb, st, hf, hc, List.filterMap_cons, List.filterMap_nil, kx, ky, List.head?_cons, Option.map_some, Option.getD_some, Expr.pos, hl2, List.length_cons, List.length_nil]
  simp [hl2, hxy, hyx, List.eraseDups_cons]
  have h2 := all2 hs
  exact fun z => z.elim (fun z => absurd z (star_no h2.1)) fun z => absurd z (star_no h2.2)
theorem par_three {x y z : Str} {px py pz pt pt2 : Pos} {a b c : Expr} {k k2 : Nat} (hk : X.env.scope.kind = .function) (hx : X.env.scope.names.lookup x = some .local) (hy : X.env.scope.names.lookup y = some .local) (hz : X.env.scope.names.lookup z = some .local)
    (hl : (px.line == py.line) = true) (hl3 : (px.line == pz.line) = true) (hxy : (x == y) = false) (hxz : (x == z) = false) (hyz : (y == z) = false)
    (hs : [a, b, c].all noStar = true) (hf : [a, b, c].all (foldedForSure 8) = false) (hc : [a, b, c].all (constantsAlone 8) = false) : swappedStores [.Tuple [.Name x px, .Name y py, .Name z pz] k pt] (.Tuple [a, b, c] k2 pt2) X.env = pure (some [x, y, z]) := by
  have hb : X.env.blockKind = .function := by unfold Env.blockKind; rw [hk]; rfl
  have kx : X.env.kindOf x = some .local := hx
  have ky : X.env.kindOf y = some .local := hy
  have kz : X.env.kindOf z = some .local := hz
  have sym : ∀ {x y : Str}, (x == y) = false → (y == x) = false := fun h => by rw [beq_eq_false_iff_ne] at h ⊢; exact fun e => h e.symm
  have hl2 : (py.line == px.line) = true := by rw [beq_iff_eq] at hl ⊢; exact hl.symm
  have hl4 : (pz.line == px.line) = true := by rw [beq_iff_eq] at hl3 ⊢; exact hl3.symm
  have st : ([a, b, c].any fun | .Starred .. => true | _ => false) = false := by
    have h2 := all3 hs
    have one : ∀ e, noStar e = true → (match e with | .Starred .. => true | _ => false) = false := fun e h => by cases e <;> first | rfl | cases h
    simp only [List.any_cons, List.any_nil]
    rw [one a h2.1, one b h2.2.1, one c h2.2.2]; rfl
  unfold swappedStores
  simp only [hb, st, hf, hc, List.filterMap_cons, List.filterMap_nil, kx, ky, kz, List.head?_cons, Option.map_some, Option.getD_some, Expr.pos, hl2, hl4, List.length_cons, List.length_nil]
  simp [hl2, hl4, hxy, hxz, hyz, sym hxy, sym hxz, sym hyz, List.eraseDups_cons]
  have h2 := all3 hs
  exact fun z => z.elim (fun z => absurd z (star_no h2.1)) fun z => z.elim (fun z => absurd z (star_no h2.2.1)) fun z => absurd z (star_no h2.2.2)
theorem idx_ne {x y : Str} {i j : Nat} (h1 : N[i]? = some x) (h2 : N[j]? = some y) (h : (x == y) = false) : i ≠ j := by
  intro e
  subst e
  rw [h1] at h2
  cases h2
  simp at h
theorem cPar_ok (ok : OkE T G p N r) (g : Gs T G p X W) (hN : X.N = N) (hs : X.env.scope = sc) {ts vs : List Expr} {k k2 : Nat} {pt pt2 pos : Pos} : PS X (.Assign [.Tuple ts k pt] (.Tuple vs k2 pt2) pos) (tS G p W (cPar N r sc ts vs)) := by
  unfold cPar
  split
  · rename_i x px y py a b
    split
    · exact ss_bad
    · rename_i hc
      obtain ⟨hc, c6⟩ := nt hc
      obtain ⟨hc, c5⟩ := nt hc
      obtain ⟨hc, c4⟩ := nt hc
      obtain ⟨hc, c3⟩ := nt hc
      obtain ⟨c1, c2⟩ := nt hc
      split
      · rename_i i j u v h1 h2 h3
        obtain ⟨d1, d2, d3⟩ := cList_ok ok g.gd hN hs h3
        have lx : X.env.scope.names.lookup x = some .local := by rw [hs]; exact locB_ok (nn c1)
        have ly : X.env.scope.names.lookup y = some .local := by rw [hs]; exact locB_ok (nn c2)
        exact ss_par g.gd.calm g.gd.nd (by rw [hN]; exact idx_ok h1) (by rw [hN]; exact idx_ok h2) (idx_ne (idx_ok h1) (idx_ok h2) (nf c4)) lx ly d3 (par_two g.kind lx ly (nn c3) (nf c4) d1 (nf c5) (nf c6))
      · exact ss_bad
  · rename_i x px y py z pz a b c
    split
    · exact ss_bad
    · rename_i hc
      obtain ⟨hc, c10⟩ := nt hc
      obtain ⟨hc, c9⟩ := nt hc
      obtain ⟨hc, c8⟩ := nt hc
      obtain ⟨hc, c7⟩ := nt hc
      obtain ⟨hc, c6⟩ := nt hc
      obtain ⟨hc, c5⟩ := nt hc
      obtain ⟨hc, c4⟩ := nt hc
      obtain ⟨hc, c3⟩ := nt hc
      obtain ⟨c1, c2⟩ := nt hc
      split
      · rename_i i j l u v w h1 h2 h3 h4
        obtain ⟨d1, d2, d3⟩ := cList_ok ok g.gd hN hs h4
        have lx : X.env.scope.names.lookup x = some .local := by rw [hs]; exact locB_ok (nn c1)
        have ly : X.env.scope.names.lookup y = some .local := by rw [hs]; exact locB_ok (nn c2)
        have lz : X.env.scope.names.lookup z = some .local := by rw [hs]; exact locB_ok (nn c3)
        exact ss_par3 g.gd.calm g.gd.nd (by rw [hN]; exact idx_ok h1) (by rw [hN]; exact idx_ok h2) (by rw [hN]; exact idx_ok h3) (idx_ne (idx_ok h1) (idx_ok h2) (nf c6)) (idx_ne (idx_ok h1) (idx_ok h3) (nf c7)) (idx_ne (idx_ok h2) (idx_ok h3) (nf c8))
          lx ly lz d3 (par_three g.kind lx ly lz (nn c4) (nn c5) (nf c6) (nf c7) (nf c8) d1 (nf c9) (nf c10))
      · exact ss_bad
  · exact ss_bad
theorem noSwap_ok {ts vs : List Expr} {k k2 : Nat} {pt pt2 : Pos} (hs : X.env.scope = sc) (h : noSwap sc ts vs = true) : swappedStores [.Tuple ts k pt] (.Tuple vs k2 pt2) X.env = pure none := by
  unfold noSwap at h
  rw [Bool.or_eq_true, Bool.or_eq_true, Bool.or_eq_true] at h
  rcases h with ((h | h) | h) | h
  · exact tup_fold h
  · refine tup_names ?_
    have : swName X.env ((ts.head?.map (·.pos.line)).getD 0) = swNameS sc ((ts.head?.map (·.pos.line)).getD 0) := by
      funext x
      rw [← hs]
      cases x <;> rfl
    rw [this]
    exact h
  · exact tup_len (by rw [h]; rfl)
  · exact tup_len (by rw [h]; simp)
theorem cAsg_ok (ok : OkE T G p N r) (hr : ∃ n, r = cE T N n) (g : Gs T G p X W) (hN : X.N = N) (hs : X.env.scope = sc) {tg e : Expr} {pos : Pos} : PS X (.Assign [tg] e pos) (tS G p W (cAsg T N r sc tg e)) := by
  have sx := stB_ok hs g.fnT
  unfold cAsg
  split
  · rename_i x py
    split
    · rename_i hx
      split
      · rename_i i hi
        exact cSet_ok ok hr g hN hs hx hi
      · exact ss_bad
    · exact ss_bad
  · rename_i ts k pt
    split
    · rename_i vs k2 pt2
      split
      · rename_i hc
        split
        · rename_i t x h1 h2
          refine ss_asg (ok X W g.gd hN sc _ _ hs h2).pe (cTg_ok ok g.gd hN hs sx 4 h1) (sw_sole (tg := _) fun x p z => Expr.noConfusion z) (noSwap_ok hs hc) rfl
        · exact ss_bad
      · exact cPar_ok ok g hN hs
    · rename_i hn
      split
      · rename_i t x h1 h2
        have hnt : noTup e = true := by
          cases e with
          | Tuple vs k2 pt2 => exact absurd rfl (hn vs k2 pt2)
          | _ => rfl
        exact ss_asg (ok X W g.gd hN sc _ _ hs h2).pe (cTg_ok ok g.gd hN hs sx 4 h1) (sw_sole (tg := _) fun x p z => Expr.noConfusion z) (tup_none hnt) rfl
      · exact ss_bad
  · split
    · rename_i t x h1 h2
      exact ss_asg (ok X W g.gd hN sc _ _ hs h2).pe (cTg_ok ok g.gd hN hs sx 4 h1) (sw_sole (tg := _) fun x p z => Expr.noConfusion z) (by cases e <;> rfl) rfl
    · exact ss_bad
  · split
    · rename_i hf
      split
      · rename_i x y h1 h2
        exact ss_fld (g.gd.fld _ (has_ok hf)) (ok X W g.gd hN sc _ _ hs h1).pe (ok X W g.gd hN sc _ _ hs h2).pe (sw_any fun _ _ z => by cases z)
      · exact ss_bad
    · exact ss_bad
  · exact ss_bad
theorem cSs_ok {f : Stmt → Mini.St} (h : ∀ st, PS X st (tS G p W (f st))) : ∀ sts : List Stmt, PSs X sts (tSs G p W (sts.map f))
  | [] => sss_nil
  | st :: sts => sss_cons (h st) (cSs_ok h sts)
theorem cS_ok (ok : OkE T G p N r) (hr : ∃ n, r = cE T N n) (g : Gs T G p X W) (hN : X.N = N) (hs : X.env.scope = sc) : ∀ (k : Nat) (st : Stmt), PS X st (tS G p W (cS T N r sc k st))
  | 0, _ => ss_bad
  | k + 1, st => by
    have ih := cSs_ok (cS_ok ok hr g hN hs k)
    have sx := stB_ok hs g.fnT
    unfold cS
    split
    · exact ss_doc
    · split
      · rename_i hn
        split
        · rename_i x h1
          exact ss_ex (ok X W g.gd hN sc _ _ hs h1).pe (sw_no hn)
        · exact ss_bad
      · exact ss_bad
    · exact ss_retN
    · split
      · rename_i x h1
        exact ss_ret (ok X W g.gd hN sc _ _ hs h1).pe
      · exact ss_bad
    · exact ss_pass
    · exact ss_brk
    · exact cAsg_ok ok hr g hN hs
    · split
      · rename_i hx
        split
        · rename_i i y h1 h2
          obtain ⟨l1, l2⟩ := sx _ hx
          exact ss_aug g.gd.nd (by rw [hN]; exact idx_ok h1) l1 (ok X W g.gd hN sc _ _ hs h2).pe l2
        · exact ss_bad
      · exact ss_bad
    · split
      · rename_i hi
        split
        · rename_i x y z h1 h2 h3
          exact ss_augS (ok X W g.gd hN sc _ _ hs h1).pe (ok X W g.gd hN sc _ _ hs h2).pe (ok X W g.gd hN sc _ _ hs h3).pe (aug_ix hi)
        · exact ss_bad
      · exact ss_bad
    · split
      · rename_i x h1
        exact ss_if (ok X W g.gd hN sc _ _ hs h1).pt (ih _) (ih _)
      · exact ss_bad
    · split
      · rename_i t it h1 h2
        obtain ⟨i1, i2⟩ := cIt_ok ok g.gd hN hs h2
        exact ss_for g.pass g.gd.calm i1 (cTg_ok ok g.gd hN hs sx 4 h1) (ih _) i2
      · exact ss_bad
    · split
      · rename_i x h1
        exact ss_while g.pass (ok X W g.gd hN sc _ _ hs h1).pt (ih _)
      · exact ss_bad
    · exact ss_bad
end Mini
set_option maxHeartbeats 4000000
/-! Mini: the defs keep what the evaluator says; the law's end. -/
namespace Mini
open PySem PySem.Spec PyProof.Rows L2

/-- a def: its name, its text, its slots, its parameters -/
structure DefT where
  name : Str
  st : Stmt
  N : List Str
  ps : List Str
def fuelE : Nat := 40
def fill (T : Tab) (d : DefT) : Def := ⟨d.ps.length, d.N.length, (defBody d.st).map (cS T d.N (cE T d.N fuelE) (defScope d.st) fuelE)⟩
def scB (N ps : List Str) (sc : Scope) : Bool :=
  (match sc.kind with | .function => true | _ => false) && !sc.isCoroutine && !sc.isGenerator && decide N.Nodup && decide (N.take ps.length = ps) &&
    (ps.all fun x => match sc.names.lookup x with | some .local => true | some .cell => true | _ => false) && sc.names.all fun y => match y.2 with | .free => false | _ => true
theorem scB_ok {N ps : List Str} {sc : Scope} (h : scB N ps sc = true) : FnScope N ps sc := by
  unfold scB at h
  simp only [Bool.and_eq_true, decide_eq_true_eq, Bool.not_eq_true', List.all_eq_true] at h
  obtain ⟨⟨⟨⟨⟨⟨h1, h2⟩, h3⟩, h4⟩, h5⟩, h6⟩, h7⟩ := h
  refine ⟨?_, h2, h3, h4, h5, fun x hx => ?_, fun y hy e => ?_⟩
  · split at h1
    · assumption
    · cases h1
  · have := h6 x hx
    split at this
    · left; assumption
    · right; assumption
    · cases this
  · have := h7 y hy
    rw [e] at this
    cases this
theorem guards_deeper {A : Around} {env : Env} (h : A.guards = some []) : (A.deeper env).guards = some [] := h
section
variable {P : Program} {w : World} {K : PySem.W.Frag} {mg : Str → Option Value} {base : Heap}
/-- a def of the text, by its body -/
theorem fnG_of {x qual : Str} {st : Stmt} {f : Addr} {fd : FuncData} {N ps : List Str} {k : Nat} {sp : Sp} (F : Fun K x qual st f fd) (S : FnScope N ps (defScope st)) (len : ∀ vs H Q E, sp vs H Q E → vs.length = ps.length)
    (hbody : ∀ (cdv : Value) (A : Around) (outer : List Env) (s : Shared) (H : Hp) (vs : List V) (Q : VK) (E : XK), Room k (A.deeper (envOfC qual (defScope st) s.heap.objs.size f cdv)) → A.guards = some [] → sp vs H Q E →
      ∃ t, PSs (cxOf (L2.CX P w) P w K mg base N qual (defScope st) f cdv A outer s H E) (defBody st) t ∧ t { nx := fun _ H' => Q .non H', rt := Q } (start N vs) H) : FnG P w K mg base (k + 1) f fd ps sp := by
  obtain ⟨oc, od, kV, doc, pm, an, cdv, ct, osl, rfl, lk, hcd⟩ := F.ex
  refine ⟨len, fun A out s H args us vs Q E hr hg e0 hb r hsp => ?_⟩
  have keep : ∀ b o, base.get? b = some o → s.heap.get? b = some o := fun b o e => (e0.bs b o e).1
  have kIn := e0.mod.kin.keeps keep
  refine codeAny_call_function hr.depth (kIn _ _ lk) rfl S.co S.gen rfl (PySem.W.codeRec_of kIn hcd) (hb _ _ _ _ ?_)
  refine wpAny_newFunctionEnv_cells S.kind (fun ⟨n, v⟩ hy => (S.par n (List.of_mem_zip hy).1).elim .inl fun q => .inr ⟨q, PySem.W.cellsFrom_some _ _ _ (.inl q)⟩) fun env he s1 x => ?_
  subst he
  refine ⟨(e0.mod.nolimit.keeps keep).keeps x.toInCall.keep, codeAny_func ?_⟩
  obtain ⟨t, ht, hq⟩ := hbody cdv A out s H vs Q E (hr.deeper _) hg hsp
  refine wpAny_mono (ht.run [] s1 (start N vs) H _ (inv_start S hr.hd e0 (len _ _ _ _ hsp) r x) hq) (fun fl s' hs => ?_) fun e s' hs => hs
  cases fl with
  | next =>
    obtain ⟨σ', H', J, q⟩ := hs
    exact ⟨V.non, H', J.os, J.bare, J.base, J.hok, rfl, q⟩
  | ret u =>
    obtain ⟨v, σ', H', J, rv, q⟩ := hs
    exact ⟨v, H', J.os, J.bare, J.base, J.hok, rv, q⟩
  | brk => exact hs.elim fun _ h => h.elim fun _ h => h.2.elim
  | cont => exact hs.elim fun _ h => h.elim fun _ h => h.2.elim
/-- a body in Mini, so its def -/
theorem fnG_mini {G : Gx} {T : Tab} {p : Pg} {d : DefT} {f : Addr} {fd : FuncData} {k : Nat} (F : Fun K d.name d.name d.st f fd) (S : FnScope d.N d.ps (defScope d.st))
    (hg : ∀ (cdv : Value) (A : Around) (outer : List Env) (s : Shared) (H : Hp) (E : XK), Room k (A.deeper (envOfC d.name (defScope d.st) s.heap.objs.size f cdv)) → A.guards = some [] →
      Gd T G p (cxOf (L2.CX P w) P w K mg base d.N d.name (defScope d.st) f cdv A outer s H E) fun c dd _ H' => E c dd H') :
    FnG P w K mg base (k + 1) f fd d.ps (spD G (runD p (fill T d))) := by
  have hle : d.ps.length ≤ d.N.length := by have := congrArg List.length S.pre; rw [List.length_take] at this; omega
  refine fnG_of F S (fun vs H Q E ⟨A, ds, _, _, r, h⟩ => ?_) fun cdv A outer s H vs Q E hr hgd ⟨B, ds, hH, hB, r, h⟩ => ?_
  · unfold runD at h
    split at h
    · rename_i hl
      rw [r.length]; exact hl
    · exact (show False from h).elim
  · unfold runD at h
    split at h
    · rename_i hl
      have hl : ds.length = d.ps.length := hl
      have gs : Gs T G p (cxOf (L2.CX P w) P w K mg base d.N d.name (defScope d.st) f cdv A outer s H E) (fun c dd _ H' => E c dd H') := ⟨hg cdv A outer s H E hr hgd, passes_of (K := fun e s'' => L2.CX P w outer H s E e s'') rfl, fun _ => rfl, S.kind⟩
      refine ⟨_, cSs_ok (cS_ok (cE_ok fuelE) ⟨_, rfl⟩ gs rfl rfl fuelE) (defBody d.st), B, _, hH, hB, ⟨?_, fun i e q => ?_⟩, Res.sat_mono (Res.sat_bind h) (fun fl S' q => ?_) fun _ _ _ z _ => z⟩
      · unfold L2.start
        simp only [List.length_append, List.length_map, List.length_replicate]
        rw [r.length]; rfl
      · have hi : i < ds.length := by
          by_cases hi : i < ds.length
          · exact hi
          · rw [List.getElem?_append_right (by simpa using hi), List.getElem?_replicate] at q
            split at q <;> cases q
        rw [List.getElem?_append_left (by simpa using hi), List.getElem?_map] at q
        cases e1 : ds[i]? with
        | none => rw [e1] at q; cases q
        | some e' =>
          rw [e1] at q
          cases q
          obtain ⟨v, h1, h2⟩ := r.get e1
          refine ⟨v, ?_, h2⟩
          unfold L2.start
          rw [List.getElem?_append_left (by rw [List.length_map, r.length]; exact hi), List.getElem?_map, h1]
          rfl
      · cases fl with
        | nx ρ =>
          have q : Fin G B Q .non S' := q
          exact fun μ σ' H' g h1 _ => q μ _ H' g h1 rfl
        | rt e => exact q
        | bk ρ => exact (show False from q).elim
    · exact (show False from h).elim
end

/-! ### the whole text -/
structure Ftx (K : PySem.W.Frag) (mg : Str → Option Value) (kws : List (Nat × Nat × List Str × List Nat)) (i : Nat) (d : DefT) (f : Addr) (fd : FuncData) : Prop where
  fn : Fun K d.name d.name d.st f fd
  mg : mg d.name = some (.ref f)
  bi : Binds K fd d.ps []
  kw : ∀ n ns q, (i, n, ns, q) ∈ kws → ∀ (s : Shared) (us ws : List Value), us.length = n → ws.length = ns.length → BindsTo s fd ⟨us, ns.zip ws⟩ (d.ps.zip (permV .none (us ++ ws) q))
def Ftxs (K : PySem.W.Frag) (mg : Str → Option Value) (kws : List (Nat × Nat × List Str × List Nat)) : Nat → List DefT → List (Addr × FuncData) → Prop
  | _, [], _ => True
  | i, d :: ds, (f, fd) :: r => Ftx K mg kws i d f fd ∧ Ftxs K mg kws (i + 1) ds r
  | _, _ :: _, [] => False
theorem Ftxs.get {K : PySem.W.Frag} {mg : Str → Option Value} {kws : List (Nat × Nat × List Str × List Nat)} : ∀ {k : Nat} {ds : List DefT} {r : List (Addr × FuncData)} {i : Nat} {d : DefT}, Ftxs K mg kws k ds r → ds[i]? = some d → ∃ f fd, r[i]? = some (f, fd) ∧ Ftx K mg kws (k + i) d f fd
  | _, [], _, _, _, _, e => by simp at e
  | _, _ :: _, [], _, _, h, _ => h.elim
  | k, _ :: _, (f, fd) :: _, 0, _, h, e => by
    simp at e
    subst e
    exact ⟨f, fd, rfl, h.1⟩
  | k, _ :: ds, _ :: r, i + 1, d, h, e => by
    obtain ⟨f, fd, h1, h2⟩ := Ftxs.get (i := i) h.2 (by simpa using e)
    exact ⟨f, fd, by simpa using h1, by rw [show k + (i + 1) = k + 1 + i by omega]; exact h2⟩
/-- the text's own tables agree -/
def tabB (T : Tab) (ds : List DefT) : Bool :=
  (ds.all fun d => scB d.N d.ps (defScope d.st)) && (T.fns.all fun y => match ds[y.2]? with | some d => decide (d.name = y.1) | none => false)
structure Wtx (K : PySem.W.Frag) (mg : Str → Option Value) (T : Tab) (G : Gx) (ds : List DefT) (r : List (Addr × FuncData)) : Prop where
  hK : K = G.K
  tab : tabB T ds = true
  ftx : Ftxs K mg T.kws 0 ds r
  con : ∀ x d, T.cons.lookup x = some d → ∃ v u, mg x = some u ∧ RelV v u ∧ ∀ A, Rep G A d v
  blt : ∀ x ∈ T.blt, mg x = none
  gcd : ∀ x ∈ T.gcd, mg x = some (.builtin "math.gcd")
  cls : T.cls = []
  fld : T.flds = []
def txt (T : Tab) (ds : List DefT) : Txt := ⟨ds.map (fill T), []⟩
theorem lookup_mem' {α : Type} {x : Str} {i : α} : ∀ {l : List (Str × α)}, l.lookup x = some i → (x, i) ∈ l
  | [], h => by cases h
  | (y, j) :: l, h => by
    rw [List.lookup_cons] at h
    cases hb : x == y with
    | true =>
      rw [hb] at h
      cases h
      rw [beq_iff_eq] at hb
      subst hb
      exact List.mem_cons_self
    | false => rw [hb] at h; exact List.mem_cons_of_mem _ (lookup_mem' h)
theorem all_defs {P : Program} {w : World} {K : PySem.W.Frag} {mg : Str → Option Value} {T : Tab} {G : Gx} {ds : List DefT} {r : List (Addr × FuncData)} (Y : Wtx K mg T G ds r) (fuel : Nat) {base : Heap} :
    ∀ (n : Nat) (i : Nat) (d : DefT) (f : Addr) (fd : FuncData), ds[i]? = some d → r[i]? = some (f, fd) → FnG P w K mg base (2 * n) f fd d.ps (spD G ((pgN (txt T ds) fuel n).call i))
  | 0, i, d, f, fd, hd, hr => by
    have no : ∀ vs H Q E, ¬ spD G ((pgN (txt T ds) fuel 0).call i) vs H Q E := fun vs H Q E ⟨_, _, _, _, _, h⟩ => h
    exact ⟨fun vs H Q E h => absurd h (no vs H Q E), fun A out s H args us vs Q E _ _ _ _ _ h => absurd h (no vs H Q E)⟩
  | n + 1, i, d, f, fd, hd, hr => by
    have ih := all_defs (P := P) (w := w) (base := base) Y fuel n
    have tb := Y.tab
    unfold tabB at tb
    rw [Bool.and_eq_true, List.all_eq_true, List.all_eq_true] at tb
    obtain ⟨f', fd', e1, ft⟩ := Y.ftx.get hd
    rw [hr] at e1
    cases e1
    have run : (pgN (txt T ds) fuel (n + 1)).call i = runD (pgN (txt T ds) fuel n) (fill T d) := by
      funext ws S
      show (match (ds.map (fill T))[i]? with
        | some d => runD (pgN (txt T ds) fuel n) d ws S
        | none => .no) = _
      rw [List.getElem?_map, hd]
      rfl
    rw [run]
    refine FnG.mono (fnG_mini (k := 2 * n + 1) ft.fn (scB_ok (tb.1 d (List.mem_of_getElem? hd))) fun cdv A outer s H E hrm hgd => ?_) (by omega)
    refine ⟨Y.hK, rfl, ((scB_ok (tb.1 d (List.mem_of_getElem? hd)))).nd, guards_deeper hgd, ?_, takes_of rfl rfl rfl rfl, fun x j hj => ?_, Y.con, Y.blt, Y.gcd, fun x c h => ?_, fun x h => ?_⟩
    · have := hrm.un
      show (A.deeper _).units + 65 < cLine
      omega
    · have hm := tb.2 _ (lookup_mem' hj)
      cases hq : ds[j]? with
      | none => rw [hq] at hm; cases hm
      | some d2 =>
        rw [hq] at hm
        have hm : d2.name = x := of_decide_eq_true hm
        obtain ⟨f2, fd2, e2, ft2⟩ := Y.ftx.get hq
        refine ⟨2 * n, f2, fd2, d2.ps, ih j d2 f2 fd2 hq e2, hrm.mono (by omega), by rw [← hm]; exact ft2.mg, ft2.fn.kp, ft2.bi, fun m ns q hq2 => ?_⟩
        have := ft2.kw m ns q
        rw [Nat.zero_add] at this
        exact this hq2
    · rw [Y.cls] at h; cases h
    · rw [Y.fld] at h; cases h

/-! ### the end -/
theorem law_callG {P : Program} {w : World} {K : PySem.W.Frag} {mg mb : Str → Option Value} {k : Nat} {fa a : Addr} {fd : FuncData} {x : Str} {sp : Sp} {s₁ : Shared} {vs : List Value} {ns : List Int}
    (KX : K.In s₁.heap) (hns : s₁.heap.Ns mainGlobals mg) (hb : s₁.heap.Ns builtinsNs mb) (hbb : ∀ x : Str, x ≠ "__name__" → mb x = bootBuiltins x) (hlim : s₁.heap.NoLimit) (hg : s₁.gens = #[])
    (ha : s₁.heap.get? a = some { cls := .type "list", data := .seq vs.toArray }) (hi : IntsAre vs ns) (hl : ns.length ≤ sizeLine) (hr : Room k callerA)
    (F : ∀ base : Heap, K.In base → base.Ns mainGlobals mg → FnG P w K mg base k fa fd [x] sp) (hbind : ∀ (s : Shared) (u : Value), BindsTo s fd ⟨[u], []⟩ [(x, u)])
    (hsp : ∀ H : Hp, Only H → SqL K H a (ns.map V.int) → sp [.ref a] H (fun v _ => v = .bl true) fun _ _ _ => False) :
    codeAny (model P w) callerA (.call (.ref fa) ⟨[.ref a], []⟩) (fun r s' => r = .ok (.ret (.bool true)) ∧ OldK s₁.heap s'.heap ∧ s'.os = s₁.os ∧ AllBare s'.gens) s₁ := by
  have rv := vals_ints hi
  have lenV := hi.length
  -- nothing but the script may be tracked at the entry
  have main : ∀ H : Hp, Only H → SqL K H a (ns.map V.int) → HOk P w H s₁.heap → (∀ c, H c ≠ none → c = a) → (H a ≠ none → K.lookup a = none) →
      codeAny (model P w) callerA (.call (.ref fa) ⟨[.ref a], []⟩) (fun r s' => r = .ok (.ret (.bool true)) ∧ OldK s₁.heap s'.heap ∧ s'.os = s₁.os ∧ AllBare s'.gens) s₁ := by
    intro H only sq hok one noK
    have other : ∀ {c : Addr} {u : HO}, H c = some u → c = a := fun {c u} e => one c (by rw [e]; simp)
    have dicts : ∀ {c : Addr} {o : Obj} {es : Array DictEntry} {ep : Nat}, s₁.heap.get? c = some o → o.data = .dict es ep → H c = none := fun {c o es ep} e dd => by
      cases hq : H c with
      | none => rfl
      | some u =>
        cases other hq
        rw [ha] at e
        cases e
        exact nomatch (show Data.seq vs.toArray _ = Data.dict es ep from dd)
    have names : ∀ {c : Addr} {m : Str → Option Value}, s₁.heap.Ns c m → (hidT s₁.heap H).Ns c m := fun {c m} ⟨o, es, ep, e, dd, rest⟩ => ⟨o, es, ep, hidT_get e (dicts e dd), dd, rest⟩
    have inK : K.In (hidT s₁.heap H) := fun c o e => hidT_get (KX c o e) (by
      cases hq : H c with
      | none => rfl
      | some u =>
        cases other hq
        rw [noK (by rw [hq]; simp)] at e
        cases e)
    obtain ⟨mc, lim1, lim2⟩ := hlim
    have e0 : Env0 P w K mg (hidT s₁.heap H) callerA [] s₁ H :=
      ⟨rfl, ⟨inK, names hns, ⟨mb, names hb, hbb⟩, ⟨mc, names lim1, lim2⟩⟩, fun c o e => of_hidT e, Nat.le_of_eq (hidT_size _ _), trivial, (fun c hc => nomatch (show c ∈ ([] : List Addr) from hc)), hok, .of_eq hg⟩
    refine codeAny_mono ((F _ inK (names hns)).run callerA [] s₁ H ⟨[.ref a], []⟩ [.ref a] [.ref a] _ _ hr rfl e0 (hbind s₁ (.ref a)) (.cons rfl .nil) (hsp H only sq)) fun r s' h => ?_
    match r, h with
    | .error e, ⟨_, _, _, _, _, _, _, _, _, _, _, _, no⟩ => exact no.elim
    | .ok .next, h => exact h.elim
    | .ok .brk, h => exact h.elim
    | .ok .cont, h => exact h.elim
    | .ok (.ret u), ⟨v, H', os, bare, un, hok', rel, q⟩ =>
      have q : v = .bl true := q
      subst q
      obtain rfl : u = Value.bool true := rel
      refine ⟨rfl, OldK.of_keep fun c o e => ?_, os, bare⟩
      cases hq : H c with
      | none => exact un.keep c o e hq (fun z => nomatch (show c ∈ ([] : List Addr) from z)) (by simp)
      | some u =>
        rcases only c with z | ⟨ob, xs, z⟩
        · rw [hq] at z; cases z
        · have e1 := (hok c _ z).1
          rw [e] at e1
          cases e1
          exact (hok' c _ (un.frzs c _ _ z)).1
  cases hk : K.lookup a with
  | some o =>
    have e := KX a o hk
    rw [ha] at e
    cases e
    refine main (fun _ => none) (fun _ => .inl rfl) (.inr ⟨_, vs.toArray, _, hk, rfl, rfl, rfl, ?_, by simpa using rv⟩) (fun c u z => nomatch (show (none : Option HO) = some u from z)) (fun c z => absurd rfl z) fun z => absurd rfl z
    rw [List.size_toArray, lenV]
    exact hl
  | none =>
    have at_ : ∀ c, c ≠ a → (fun b => if b = a then some (HO.frz { cls := .type "list", data := .seq vs.toArray } (.lst (ns.map V.int))) else none) c = none := fun c hc => if_neg hc
    refine main (fun b => if b = a then some (HO.frz { cls := .type "list", data := .seq vs.toArray } (.lst (ns.map V.int))) else none) (fun c => ?_) (.inl (.inr ⟨_, if_pos rfl⟩)) (fun c u z => ?_) (fun c z => ?_) fun _ => hk
    · by_cases hc : c = a
      · exact .inr ⟨_, _, if_pos hc⟩
      · exact .inl (at_ c hc)
    · by_cases hc : c = a
      · cases (if_pos hc).symm.trans z
        subst hc
        exact ⟨ha, by rw [List.length_map]; exact hl, vs, _, rv, ha⟩
      · exact nomatch (at_ c hc).symm.trans z
    · by_cases hc : c = a
      · exact hc
      · exact absurd (at_ c hc) z
/-- the script, locked, as the one cell -/
theorem spD_law {G : Gx} {run : List D → Sto → Res D} {H : Hp} {a : Addr} {ns : List Int} (only : Only H) (sq : SqL G.K H a (ns.map V.int)) (h : ∃ S', run [.ref 0] [.frz (ns.map D.int)] = .ok (.bl true) S') : spD G run [.ref a] H (fun v _ => v = .bl true) fun _ _ _ => False := by
  obtain ⟨S', h⟩ := h
  have fz : FzL G.K H a (ns.map V.int) := by
    rcases sq with (z | z) | z
    · rcases only a with e | ⟨ob, xs, e⟩
      · rw [z] at e; cases e
      · rw [z] at e; cases e
    · exact .inl z
    · exact .inr z
  have reps : ∀ ns : List Int, RepL G ⟨fun _ => a, [.frz (ns.map D.int)], H⟩ (ns.map D.int) (ns.map V.int) := fun ns => by
    have : ∀ (S : Sto) (ms : List Int), RepL G ⟨fun _ => a, S, H⟩ (ms.map D.int) (ms.map V.int) := fun S ms => by
      induction ms with
      | nil => exact .nil
      | cons m ms ih => exact .cons rfl ih
    exact this _ ns
  refine ⟨⟨fun _ => a, [.frz (ns.map D.int)], H⟩, [.ref 0], rfl, ⟨fun n c e => ?_, fun i j ci cj ei ej wi wj _ => ?_⟩, .cons ⟨Nat.zero_lt_one, rfl⟩ .nil, ?_⟩
  · have : n = 0 ∧ c = .frz (ns.map D.int) := by
      cases n with
      | zero => simp at e; exact ⟨rfl, e.symm⟩
      | succ n => simp at e
    rw [this.2]
    exact ⟨_, fz, reps ns⟩
  · cases i with
    | zero => simp at ei; subst ei; cases wi
    | succ i => simp at ei
  · rw [h]
    exact fun μ v H' _ _ rv => rv
/-- the goal that k_head leaves -/
theorem walkM {l : PySem.W.OpenLaw} {m k : Nat} {q : Program} {loose : List Str} {XP : (Str → Option Value) → Heap → Prop} {YP : World → Heap → Prop} {d : DefRec} {K : Params → PySem.W.Frag} {run : List D → Sto → Res D} {x : Str}
    (hn : l.most = some m) (hn2 : m ≤ sizeLine) (hdf : d.params.defaults = []) (hr : Room k callerA) (hY : ∀ (w : World) (h : Heap), YP w h → (K w.params).In h)
    (F : ∀ (w : World) (mg : Str → Option Value) (fa : Addr) (h : Heap), (K w.params).In h → h.Ns mainGlobals mg → mg d.name = some (.ref fa) → ∃ (G : Gx) (fd : FuncData), G.K = K w.params ∧ (∀ (s : Shared) (u : Value), BindsTo s fd ⟨[u], []⟩ [(x, u)]) ∧
        ∀ base : Heap, (K w.params).In base → base.Ns mainGlobals mg → FnG l.prog w (K w.params) mg base k fa fd [x] (spD G run))
    (law : ∀ ns : List Int, ns.length ≤ m → ∃ S', run [.ref 0] [.frz (ns.map D.int)] = .ok (.bl true) S') : PySem.W.WalkO q loose XP YP l.row.toRowW d [] (fun f vs => PySem.call f vs) := by
  refine Att.attach_call hn hdf fun w s₀ s₁ mg mb fa o pm cd doc a vs ns E Y ho hd hcd hmg hobj hints hlen hg => ?_
  have KX := hY w _ Y
  obtain ⟨G, fd, eG, hb, hF⟩ := F w mg fa _ KX E.T.g hmg
  exact law_callG KX E.T.g E.T.b E.T.builtins E.T.nolimit hg hobj hints (Nat.le_trans hlen hn2) hr hF hb fun H only sq => spD_law only (by rw [eG]; exact sq) (law ns hlen)
end Mini
/-! Mini: what a run answers, by weakest conditions. -/
namespace Mini
open PySem

structure wp {α : Type} (r : Res α) (P : α → Sto → Prop) : Prop where
  run : r.sat P fun _ _ _ => False
variable {α β : Type} {p : Pg} {ρ : Loc} {S : Sto}
theorem wp_ok {a : α} {P : α → Sto → Prop} : wp (.ok a S) P ↔ P a S := ⟨fun h => h.run, fun h => ⟨h⟩⟩
theorem wp_no {P : α → Sto → Prop} : wp (.no : Res α) P ↔ False := ⟨fun h => h.run, fun h => h.elim⟩
theorem wp_xx {c : Nat} {fs : List (Str × D)} {P : α → Sto → Prop} : wp (.ex c fs S : Res α) P ↔ False := ⟨fun h => h.run, fun h => h.elim⟩
theorem wp_bind {r : Res α} {k : α → Sto → Res β} {P : β → Sto → Prop} : wp (r.bind k) P ↔ wp r fun a S => wp (k a S) P := by
  cases r with
  | ok a S => exact (wp_ok (P := fun a S => wp (k a S) P)).symm
  | ex c f S => exact wp_xx.trans wp_xx.symm
  | no => exact wp_no.trans wp_no.symm
theorem wp_some {a : α} {P : α → Sto → Prop} : wp (ofOpt S (some a)) P ↔ P a S := wp_ok
theorem wp_none {P : α → Sto → Prop} : wp (ofOpt S (none : Option α)) P ↔ False := wp_no
theorem wp_noex {r : Res α} {P : α → Sto → Prop} : wp r.noex P ↔ wp r P := by
  cases r with
  | ok a S => exact Iff.rfl
  | ex c f S => exact wp_no.trans wp_xx.symm
  | no => exact Iff.rfl
theorem wp_ite {c : Prop} [Decidable c] {a b : Res α} {P : α → Sto → Prop} : wp (if c then a else b) P ↔ if c then wp a P else wp b P := by split <;> exact Iff.rfl
theorem wp_mono {r : Res α} {P Q : α → Sto → Prop} (h : wp r P) (k : ∀ a S, P a S → Q a S) : wp r Q := ⟨Res.sat_mono h.run k fun _ _ _ z => z⟩
theorem wp_and {r : Res α} {P Q : α → Sto → Prop} (h : wp r P) (k : wp r Q) : wp r fun a S => P a S ∧ Q a S := by
  cases r with
  | ok a S => exact ⟨⟨h.run, k.run⟩⟩
  | ex => exact h.run.elim
  | no => exact h.run.elim
theorem wp_ex {r : Res α} {P : α → Sto → Prop} (h : wp r P) : ∃ a S, r = .ok a S ∧ P a S := by
  cases r with
  | ok a S => exact ⟨a, S, rfl, h.run⟩
  | ex => exact h.run.elim
  | no => exact h.run.elim
section
variable {P : D → Sto → Prop}
theorem wp_var {i : Nat} : wp (evE p (.var i) ρ S) P ↔ ∃ d, ρ[i]? = some (some d) ∧ P d S := by
  show wp (match ρ[i]? with
  | some (some d) => Res.ok d S
  | _ => .no) P ↔ _
  cases q : ρ[i]? with
  | none => exact ⟨fun h => h.run.elim, fun ⟨d, h, _⟩ => by cases h⟩
  | some o =>
    cases o with
    | none => exact ⟨fun h => h.run.elim, fun ⟨d, h, _⟩ => by cases h⟩
    | some d => exact ⟨fun h => ⟨d, rfl, h.run⟩, fun ⟨d', h, z⟩ => by cases h; exact ⟨z⟩⟩
theorem wp_con {d : D} : wp (evE p (.con d) ρ S) P ↔ P d S := wp_ok
theorem wp_dct : wp (evE p .dct ρ S) P ↔ P (.ref S.length) (S ++ [.dct]) := wp_ok
theorem wp_tup {es : List Ex} : wp (evE p (.tup es) ρ S) P ↔ wp (evEs p es ρ S) fun ds S1 => P (.tup ds) S1 := by
  show wp ((evEs p es ρ S).bind fun ds S1 => Res.ok (.tup ds) S1) P ↔ _
  simp only [wp_bind, wp_ok]
theorem wp_lst {es : List Ex} : wp (evE p (.lst es) ρ S) P ↔ wp (evEs p es ρ S) fun ds S1 => P (.ref S1.length) (S1 ++ [.lst ds]) := by
  show wp ((evEs p es ρ S).bind fun ds S1 => new (.lst ds) S1) P ↔ _
  simp only [wp_bind, new, wp_ok]
theorem wp_bin {o : Bop} {a b : Ex} : wp (evE p (.bin o a b) ρ S) P ↔ wp (evE p a ρ S) fun x S1 => wp (evE p b ρ S1) fun y S2 => wp (binE o x y S2) P := by
  show wp ((evE p a ρ S).bind fun x S1 => (evE p b ρ S1).bind fun y S2 => binE o x y S2) P ↔ _
  simp only [wp_bind]
theorem wp_neg {a : Ex} : wp (evE p (.neg a) ρ S) P ↔ wp (evE p a ρ S) fun x S1 => wp (negE x S1) P := by
  show wp ((evE p a ρ S).bind negE) P ↔ _
  simp only [wp_bind]
theorem wp_not {a : Ex} : wp (evE p (.not a) ρ S) P ↔ wp (evE p a ρ S) fun x S1 => ∃ b, truth S1 x = some b ∧ P (.bl (!b)) S1 := by
  show wp ((evE p a ρ S).bind fun x S1 => ofOpt S1 ((truth S1 x).map fun b => .bl (!b))) P ↔ _
  rw [wp_bind]
  refine ⟨fun h => wp_mono h fun x S1 h => ?_, fun h => wp_mono h fun x S1 h => ?_⟩
  · cases q : truth S1 x with
    | none => rw [q] at h; exact h.run.elim
    | some b => rw [q] at h; exact ⟨b, rfl, h.run⟩
  · obtain ⟨b, q, h⟩ := h
    rw [q]; exact ⟨h⟩
theorem wp_opt {o : Option α} {Q : α → Sto → Prop} : wp (ofOpt S o) Q ↔ ∃ a, o = some a ∧ Q a S := by
  cases o with
  | none => exact ⟨fun h => h.run.elim, fun ⟨a, h, _⟩ => by cases h⟩
  | some a => exact ⟨fun h => ⟨a, rfl, h.run⟩, fun ⟨a', h, z⟩ => by cases h; exact ⟨z⟩⟩
theorem wp_optB {o : Option Bool} {Q : Bool → Sto → Prop} : wp (ofOpt S o) Q ↔ ∃ a, o = some a ∧ Q a S := wp_opt
theorem wp_and_ {a b : Ex} : wp (evE p (.and a b) ρ S) P ↔ wp (evE p a ρ S) fun x S1 => ∃ t, truth S1 x = some t ∧ if t = true then wp (evE p b ρ S1) P else P x S1 := by
  show wp ((evE p a ρ S).bind fun x S1 => (ofOpt S1 (truth S1 x)).bind fun t S1 => if t then evE p b ρ S1 else .ok x S1) P ↔ _
  simp only [wp_bind, wp_opt, wp_ite, wp_ok]
theorem wp_or_ {a b : Ex} : wp (evE p (.or a b) ρ S) P ↔ wp (evE p a ρ S) fun x S1 => ∃ t, truth S1 x = some t ∧ if t = true then P x S1 else wp (evE p b ρ S1) P := by
  show wp ((evE p a ρ S).bind fun x S1 => (ofOpt S1 (truth S1 x)).bind fun t S1 => if t then .ok x S1 else evE p b ρ S1) P ↔ _
  simp only [wp_bind, wp_opt, wp_ite, wp_ok]
theorem wp_map {o : Option α} {f : α → β} {Q : β → Sto → Prop} : wp (ofOpt S (o.map f)) Q ↔ ∃ a, o = some a ∧ Q (f a) S := by
  cases o with
  | none => exact ⟨fun h => h.run.elim, fun ⟨a, h, _⟩ => by cases h⟩
  | some a => exact ⟨fun h => ⟨a, rfl, h.run⟩, fun ⟨a', h, z⟩ => by cases h; exact ⟨z⟩⟩
theorem wp_cmp {o : Cop} {a b : Ex} : wp (evE p (.cmp o a b) ρ S) P ↔ wp (evE p a ρ S) fun x S1 => wp (evE p b ρ S1) fun y S2 => ∃ t, cmpE o x y S2 = some t ∧ P (.bl t) S2 := by
  show wp ((evE p a ρ S).bind fun x S1 => (evE p b ρ S1).bind fun y S2 => ofOpt S2 ((cmpE o x y S2).map .bl)) P ↔ _
  simp only [wp_bind, wp_map]
theorem wp_chain {o o' : Cop} {a b c : Ex} : wp (evE p (.chain o o' a b c) ρ S) P ↔ wp (evE p a ρ S) fun x S1 => wp (evE p b ρ S1) fun y S2 => ∃ t, cmpE o x y S2 = some t ∧
    if t = true then wp (evE p c ρ S2) fun z S3 => ∃ u, cmpE o' y z S3 = some u ∧ P (.bl u) S3 else P (.bl false) S2 := by
  show wp ((evE p a ρ S).bind fun x S1 => (evE p b ρ S1).bind fun y S2 => (ofOpt S2 (cmpE o x y S2)).bind fun t S2 =>
      if t then (evE p c ρ S2).bind fun z S3 => ofOpt S3 ((cmpE o' y z S3).map .bl) else .ok (.bl false) S2) P ↔ _
  simp only [wp_bind, wp_optB, wp_ite, wp_ok, wp_map]
theorem wp_if {c a b : Ex} : wp (evE p (.ite c a b) ρ S) P ↔ wp (evE p c ρ S) fun x S1 => ∃ t, truth S1 x = some t ∧ if t = true then wp (evE p a ρ S1) P else wp (evE p b ρ S1) P := by
  show wp ((evE p c ρ S).bind fun x S1 => (ofOpt S1 (truth S1 x)).bind fun t S1 => if t then evE p a ρ S1 else evE p b ρ S1) P ↔ _
  simp only [wp_bind, wp_opt, wp_ite]
theorem wp_call {f : Nat} {es : List Ex} : wp (evE p (.call f es none) ρ S) P ↔ wp (evEs p es ρ S) fun ds S1 => wp (p.call f ds S1) P := by
  show wp ((evEs p es ρ S).bind fun ds S1 => (ofOpt S1 (permD ds none)).bind fun ds S1 => p.call f ds S1) P ↔ _
  simp only [wp_bind, permD, wp_some]
theorem wp_callK {f : Nat} {es : List Ex} {q : List Nat} : wp (evE p (.call f es (some q)) ρ S) P ↔ wp (evEs p es ρ S) fun ds S1 => ∃ as, (q.mapM fun i => ds[i]?) = some as ∧ wp (p.call f as S1) P := by
  show wp ((evEs p es ρ S).bind fun ds S1 => (ofOpt S1 (permD ds (some q))).bind fun ds S1 => p.call f ds S1) P ↔ _
  simp only [wp_bind, permD, wp_opt]
theorem wp_fn {g : Fn} {es : List Ex} : wp (evE p (.fn g es) ρ S) P ↔ wp (evEs p es ρ S) fun ds S1 => wp (fnE g ds S1) P := by
  show wp ((evEs p es ρ S).bind fun ds S1 => fnE g ds S1) P ↔ _
  simp only [wp_bind]
theorem wp_me {m : Me} {o : Ex} {es : List Ex} : wp (evE p (.me m o es) ρ S) P ↔ wp (evE p o ρ S) fun x S1 => if isLst S1 x = true then wp (evEs p es ρ S1) fun ds S2 => wp (meE m x ds S2) P else False := by
  show wp ((evE p o ρ S).bind fun x S1 => if isLst S1 x then (evEs p es ρ S1).bind fun ds S2 => meE m x ds S2 else .no) P ↔ _
  simp only [wp_bind, wp_ite, wp_no]
theorem wp_fld {o : Ex} {f : Str} : wp (evE p (.fld o f) ρ S) P ↔ wp (evE p o ρ S) fun x S1 => wp (fldE f x S1) P := by
  show wp ((evE p o ρ S).bind (fldE f)) P ↔ _
  simp only [wp_bind]
theorem wp_ix {o i : Ex} : wp (evE p (.ix o i) ρ S) P ↔ wp (evE p o ρ S) fun x S1 => wp (evE p i ρ S1) fun y S2 => ∃ d, ixE S2 x y = some d ∧ P d S2 := by
  show wp ((evE p o ρ S).bind fun x S1 => (evE p i ρ S1).bind fun y S2 => ofOpt S2 (ixE S2 x y)) P ↔ _
  simp only [wp_bind, wp_opt]
theorem wp_oN {Q : Option Int → Sto → Prop} : wp (evO p none ρ S) Q ↔ Q none S := wp_ok
theorem wp_oS {e : Ex} {Q : Option Int → Sto → Prop} : wp (evO p (some e) ρ S) Q ↔ wp (evE p e ρ S) fun d S1 => ∃ i, partI d = some i ∧ Q (some i) S1 := by
  show wp ((evE p e ρ S).bind fun d S1 => ofOpt S1 ((partI d).map some)) Q ↔ _
  simp only [wp_bind, wp_map]
theorem wp_sl {o : Ex} {lo hi : Option Ex} : wp (evE p (.sl o lo hi) ρ S) P ↔ wp (evE p o ρ S) fun x S1 => wp (evO p lo ρ S1) fun l S2 => wp (evO p hi ρ S2) fun h S3 => wp (slE x l h S3) P := by
  show wp ((evE p o ρ S).bind fun x S1 => (evO p lo ρ S1).bind fun l S2 => (evO p hi ρ S2).bind fun h S3 => slE x l h S3) P ↔ _
  simp only [wp_bind]
theorem wp_rev {o : Ex} : wp (evE p (.rev o) ρ S) P ↔ wp (evE p o ρ S) fun x S1 => wp (revE x S1) P := by
  show wp ((evE p o ρ S).bind fun x S1 => revE x S1) P ↔ _
  simp only [wp_bind]
theorem wp_lrg1 {a : Ex} : wp (evE p (.lrg1 a) ρ S) P ↔ wp (evE p a ρ S) fun x S1 => wp (lrgE S1 (.int 0) x) P := by
  show wp ((evE p a ρ S).bind fun x S1 => lrgE S1 (.int 0) x) P ↔ _
  simp only [wp_bind]
theorem wp_lrg2 {a b : Ex} : wp (evE p (.lrg2 a b) ρ S) P ↔ wp (evE p a ρ S) fun x S1 => wp (evE p b ρ S1) fun y S2 => wp (lrgE S2 x y) P := by
  show wp ((evE p a ρ S).bind fun x S1 => (evE p b ρ S1).bind fun y S2 => lrgE S2 x y) P ↔ _
  simp only [wp_bind]
/-- a comprehension's body -/
def bodyC (p : Pg) (t : Tg) (cs : List Ex) (elt : Ex) (ρ : Loc) (d : D) (S : Sto) : Res (Option D) := (asg p t d ρ S).bind fun ρ1 S1 => (evT p cs ρ1 S1).bind fun b S2 => if b then (evE p elt ρ1 S2).bind fun e S3 => .ok (some e) S3 else .ok none S2
theorem wp_comp {t : Tg} {it : It} {cs : List Ex} {elt : Ex} {own : List Nat} : wp (evE p (.comp t it cs elt own) ρ S) P ↔ wp (evI p it ρ S) fun src S1 => wp (compN src S1.length (fun d S => (bodyC p t cs elt (wipeL ρ own) d S).noex) p.fuel 0 (S1 ++ [.lst []])) P := by
  show wp ((evI p it ρ S).bind fun src S1 => compN src S1.length (fun d S => (bodyC p t cs elt (wipeL ρ own) d S).noex) p.fuel 0 (S1 ++ [.lst []])) P ↔ _
  simp only [wp_bind]
end
theorem wp_nil {P : List D → Sto → Prop} : wp (evEs p [] ρ S) P ↔ P [] S := wp_ok
theorem wp_cons {e : Ex} {es : List Ex} {P : List D → Sto → Prop} : wp (evEs p (e :: es) ρ S) P ↔ wp (evE p e ρ S) fun d S1 => wp (evEs p es ρ S1) fun ds S2 => P (d :: ds) S2 := by
  show wp ((evE p e ρ S).bind fun d S1 => (evEs p es ρ S1).bind fun ds S2 => .ok (d :: ds) S2) P ↔ _
  simp only [wp_bind, wp_ok]
theorem wp_tN {P : Bool → Sto → Prop} : wp (evT p [] ρ S) P ↔ P true S := wp_ok
theorem wp_tC {e : Ex} {es : List Ex} {P : Bool → Sto → Prop} : wp (evT p (e :: es) ρ S) P ↔ wp (evE p e ρ S) fun d S1 => ∃ b, truth S1 d = some b ∧ if b = true then wp (evT p es ρ S1) P else P false S1 := by
  show wp ((evE p e ρ S).bind fun d S1 => (ofOpt S1 (truth S1 d)).bind fun b S1 => if b then evT p es ρ S1 else .ok false S1) P ↔ _
  simp only [wp_bind, wp_opt, wp_ite, wp_ok]
section
variable {P : Src → Sto → Prop}
theorem wp_iv {e : Ex} : wp (evI p (.val e) ρ S) P ↔ wp (evE p e ρ S) fun x S1 => ∃ s, srcOf S1 x = some s ∧ P s S1 := by
  show wp ((evE p e ρ S).bind fun x S1 => ofOpt S1 (srcOf S1 x)) P ↔ _
  simp only [wp_bind, wp_opt]
theorem wp_i1 {a : Ex} : wp (evI p (.rng1 a) ρ S) P ↔ wp (evE p a ρ S) fun x S1 => ∃ s, rng1E x = some s ∧ P s S1 := by
  show wp ((evE p a ρ S).bind fun x S1 => ofOpt S1 (rng1E x)) P ↔ _
  simp only [wp_bind, wp_opt]
theorem wp_i2 {a b : Ex} : wp (evI p (.rng2 a b) ρ S) P ↔ wp (evE p a ρ S) fun x S1 => wp (evE p b ρ S1) fun y S2 => ∃ s, rng2E x y = some s ∧ P s S2 := by
  show wp ((evE p a ρ S).bind fun x S1 => (evE p b ρ S1).bind fun y S2 => ofOpt S2 (rng2E x y)) P ↔ _
  simp only [wp_bind, wp_opt]
theorem wp_i3 {a b c : Ex} : wp (evI p (.rng3 a b c) ρ S) P ↔ wp (evE p a ρ S) fun x S1 => wp (evE p b ρ S1) fun y S2 => wp (evE p c ρ S2) fun z S3 => ∃ s, rng3E x y z = some s ∧ P s S3 := by
  show wp ((evE p a ρ S).bind fun x S1 => (evE p b ρ S1).bind fun y S2 => (evE p c ρ S2).bind fun z S3 => ofOpt S3 (rng3E x y z)) P ↔ _
  simp only [wp_bind, wp_opt]
theorem wp_iz {a b : Ex} : wp (evI p (.zip a b) ρ S) P ↔ wp (evE p a ρ S) fun x S1 => wp (evE p b ρ S1) fun y S2 => ∃ s, zipOf S2 x y = some s ∧ P s S2 := by
  show wp ((evE p a ρ S).bind fun x S1 => (evE p b ρ S1).bind fun y S2 => ofOpt S2 (zipOf S2 x y)) P ↔ _
  simp only [wp_bind, wp_opt]
theorem wp_ie {a : Ex} : wp (evI p (.enum a) ρ S) P ↔ wp (evE p a ρ S) fun x S1 => ∃ s, enumOf S1 x = some s ∧ P s S1 := by
  show wp ((evE p a ρ S).bind fun x S1 => ofOpt S1 (enumOf S1 x)) P ↔ _
  simp only [wp_bind, wp_opt]
end
section
variable {P : Loc → Sto → Prop} {d : D}
theorem wp_gn {i : Nat} : wp (asg p (.nm i) d ρ S) P ↔ P (ρ.set i (some d)) S := wp_ok
theorem wp_gt {ts : List Tg} : wp (asg p (.tp ts) d ρ S) P ↔ ∃ xs, seqD S d = some xs ∧ if xs.length = ts.length then wp (asgs p ts xs ρ S) P else False := by
  show wp ((ofOpt S (seqD S d)).bind fun xs S => if xs.length = ts.length then asgs p ts xs ρ S else .no) P ↔ _
  simp only [wp_bind, wp_opt, wp_ite, wp_no]
theorem wp_sto {o : Option Sto} : wp (ofSto ρ o) P ↔ ∃ S', o = some S' ∧ P ρ S' := by
  cases o with
  | none => exact ⟨fun h => h.run.elim, fun ⟨a, h, _⟩ => by cases h⟩
  | some a => exact ⟨fun h => ⟨a, rfl, h.run⟩, fun ⟨a', h, z⟩ => by cases h; exact ⟨z⟩⟩
theorem wp_gi {o i : Ex} : wp (asg p (.ix o i) d ρ S) P ↔ wp (evE p o ρ S) fun x S1 => wp (evE p i ρ S1) fun y S2 => ∃ S3, storeE x y d S2 = some S3 ∧ P ρ S3 := by
  show wp ((evE p o ρ S).bind fun x S1 => (evE p i ρ S1).bind fun y S2 => ofSto ρ (storeE x y d S2)) P ↔ _
  simp only [wp_bind, wp_sto]
theorem wp_gf {o : Ex} {f : Str} : wp (asg p (.fd o f) d ρ S) P ↔ wp (evE p o ρ S) fun x S1 => ∃ S3, putE f x d S1 = some S3 ∧ P ρ S3 := by
  show wp ((evE p o ρ S).bind fun x S1 => ofSto ρ (putE f x d S1)) P ↔ _
  simp only [wp_bind, wp_sto]
theorem wp_gsN : wp (asgs p [] [] ρ S) P ↔ P ρ S := wp_ok
theorem wp_gsC {t : Tg} {ts : List Tg} {ds : List D} : wp (asgs p (t :: ts) (d :: ds) ρ S) P ↔ wp (asg p t d ρ S) fun ρ1 S1 => wp (asgs p ts ds ρ1 S1) P := by
  show wp ((asg p t d ρ S).bind fun ρ1 S1 => asgs p ts ds ρ1 S1) P ↔ _
  simp only [wp_bind]
end
section
variable {P : Fl → Sto → Prop}
theorem wp_B {e : Ex} {Q : Bool → Sto → Prop} : wp (evB p e ρ S) Q ↔ wp (evE p e ρ S) fun d S1 => ∃ b, truth S1 d = some b ∧ Q b S1 := by
  show wp ((evE p e ρ S).bind fun d S1 => ofOpt S1 (truth S1 d)) Q ↔ _
  simp only [wp_bind, wp_opt]
theorem wp_asg {t : Tg} {e : Ex} : wp (evS p (.asg t e) ρ S) P ↔ wp (evE p e ρ S) fun d S1 => wp (asg p t d ρ S1) fun ρ1 S2 => P (.nx ρ1) S2 := by
  show wp ((evE p e ρ S).bind fun d S1 => (asg p t d ρ S1).bind fun ρ1 S2 => .ok (.nx ρ1) S2) P ↔ _
  simp only [wp_bind, wp_ok]
theorem wp_par {is : List Nat} {es : List Ex} : wp (evS p (.par is es) ρ S) P ↔ wp (evEs p es ρ S) fun ds S1 => P (.nx (setsL ρ is ds)) S1 := by
  show wp ((evEs p es ρ S).bind fun ds S1 => .ok (.nx (setsL ρ is ds)) S1) P ↔ _
  simp only [wp_bind, wp_ok]
theorem wp_aug {i : Nat} {o : Bop} {e : Ex} : wp (evS p (.aug i o e) ρ S) P ↔ wp (evE p (.var i) ρ S) fun x S1 => wp (evE p e ρ S1) fun y S2 => ∃ z, augE x y o = some z ∧ P (.nx (ρ.set i (some z))) S2 := by
  show wp ((evE p (.var i) ρ S).bind fun x S1 => (evE p e ρ S1).bind fun y S2 => (ofOpt S2 (augE x y o)).bind fun z S2 => .ok (.nx (ρ.set i (some z))) S2) P ↔ _
  simp only [wp_bind, wp_ok, wp_opt]
theorem wp_augS {a b e : Ex} {o : Bop} : wp (evS p (.augS a b o e) ρ S) P ↔ wp (evE p a ρ S) fun x S1 => wp (evE p b ρ S1) fun y S2 => ∃ u, ixL S2 x y = some u ∧ wp (evE p e ρ S2) fun v S3 => ∃ z, augE u v o = some z ∧ ∃ S4, storeE x y z S3 = some S4 ∧ P (.nx ρ) S4 := by
  show wp ((evE p a ρ S).bind fun x S1 => (evE p b ρ S1).bind fun y S2 => (ofOpt S2 (ixL S2 x y)).bind fun u S2 => (evE p e ρ S2).bind fun v S3 => (ofOpt S3 (augE u v o)).bind fun z S3 => (ofOpt S3 (storeE x y z S3)).bind fun S4 _ => .ok (.nx ρ) S4) P ↔ _
  simp only [wp_bind, wp_ok, wp_opt]
theorem wp_sx {e : Ex} : wp (evS p (.ex e) ρ S) P ↔ wp (evE p e ρ S) fun _ S1 => P (.nx ρ) S1 := by
  show wp ((evE p e ρ S).bind fun _ S1 => .ok (.nx ρ) S1) P ↔ _
  simp only [wp_bind, wp_ok]
theorem wp_sif {c : Ex} {a b : List St} : wp (evS p (.ite c a b) ρ S) P ↔ wp (evE p c ρ S) fun d S1 => ∃ t, truth S1 d = some t ∧ if t = true then wp (evSs p a ρ S1) P else wp (evSs p b ρ S1) P := by
  show wp ((evB p c ρ S).bind fun t S1 => if t then evSs p a ρ S1 else evSs p b ρ S1) P ↔ _
  simp only [wp_bind, wp_B, wp_ite]
theorem wp_for {t : Tg} {it : It} {b : List St} : wp (evS p (.for_ t it b) ρ S) P ↔ wp (evI p it ρ S) fun src S1 => wp (forN src (fun d S ρ => (asg p t d ρ S).bind fun ρ1 S1 => evSs p b ρ1 S1) p.fuel 0 S1 ρ) P := by
  show wp ((evI p it ρ S).bind fun src S1 => forN src (fun d S ρ => (asg p t d ρ S).bind fun ρ1 S1 => evSs p b ρ1 S1) p.fuel 0 S1 ρ) P ↔ _
  simp only [wp_bind]
theorem wp_while {c : Ex} {b : List St} : wp (evS p (.while_ c b) ρ S) P ↔ wp (whileN (evB p c) (evSs p b) p.fuel ρ S) P := Iff.rfl
theorem wp_ret {e : Ex} : wp (evS p (.ret e) ρ S) P ↔ wp (evE p e ρ S) fun d S1 => P (.rt d) S1 := by
  show wp ((evE p e ρ S).bind fun d S1 => .ok (.rt d) S1) P ↔ _
  simp only [wp_bind, wp_ok]
theorem wp_ret0 : wp (evS p .ret0 ρ S) P ↔ P (.rt .non) S := wp_ok
theorem wp_pass : wp (evS p .pass ρ S) P ↔ P (.nx ρ) S := wp_ok
theorem wp_brk : wp (evS p .brk ρ S) P ↔ P (.bk ρ) S := wp_ok
theorem wp_sN : wp (evSs p [] ρ S) P ↔ P (.nx ρ) S := wp_ok
def fl (p : Pg) (ss : List St) (P : Fl → Sto → Prop) : Fl → Sto → Prop := fun f S1 => match f with
  | .nx ρ1 => wp (evSs p ss ρ1 S1) P
  | f => P f S1
theorem wp_sC {s : St} {ss : List St} : wp (evSs p (s :: ss) ρ S) P ↔ wp (evS p s ρ S) (fl p ss P) := by
  show wp ((evS p s ρ S).bind fun f S1 => match f with
    | .nx ρ1 => evSs p ss ρ1 S1
    | f => .ok f S1) P ↔ _
  rw [wp_bind]
  have e : (fun f S1 => wp (match f with
    | .nx ρ1 => evSs p ss ρ1 S1
    | f => Res.ok f S1) P) = fl p ss P := by
    funext f S1
    cases f with
    | nx ρ1 => rfl
    | rt d => exact propext wp_ok
    | bk ρ1 => exact propext wp_ok
  rw [e]
theorem fl_nx {ss : List St} {ρ1 : Loc} : fl p ss P (.nx ρ1) S ↔ wp (evSs p ss ρ1 S) P := Iff.rfl
theorem fl_rt {ss : List St} {d : D} : fl p ss P (.rt d) S ↔ P (.rt d) S := Iff.rfl
theorem fl_bk {ss : List St} {ρ1 : Loc} : fl p ss P (.bk ρ1) S ↔ P (.bk ρ1) S := Iff.rfl
end
def ed (P : D → Sto → Prop) : Fl → Sto → Prop
  | .nx _, S => P .non S
  | .rt d, S => P d S
  | .bk _, _ => False
theorem ed_nx {P : D → Sto → Prop} {ρ1 : Loc} : ed P (.nx ρ1) S ↔ P .non S := Iff.rfl
theorem ed_rt {P : D → Sto → Prop} {d : D} : ed P (.rt d) S ↔ P d S := Iff.rfl
theorem wp_run {d : Def} {ds : List D} {P : D → Sto → Prop} (h : ds.length = d.par) (k : wp (evSs p d.body (ds.map some ++ List.replicate (d.slots - ds.length) none) S) (ed P)) : wp (runD p d ds S) P := by
  unfold runD
  rw [if_pos h, wp_bind]
  refine wp_mono k fun f S h => ?_
  cases f with
  | nx ρ1 => exact wp_ok.mpr h
  | rt d => exact wp_ok.mpr h
  | bk ρ1 => exact h.elim

/-! ### loops -/
theorem compN_wp {src : Src} {n : Nat} {body : D → Sto → Res (Option D)} {P : D → Sto → Prop} (xs : List D) (I : Nat → List D → Sto → Prop) (hs : ∀ i ys S, I i ys S → src i S = srcL xs i S)
    (hb : ∀ i ys S d, I i ys S → xs[i]? = some d → wp (body d S) fun r S1 => match r with
      | none => I (i + 1) ys S1
      | some e => lstAt S1 n = some ys ∧ ys.length < lineN ∧ I (i + 1) (ys ++ [e]) (S1.set n (.lst (ys ++ [e]))))
    (hd : ∀ ys S, I xs.length ys S → P (.ref n) S) : ∀ (k i : Nat) (ys : List D) (S : Sto), i ≤ xs.length → xs.length < i + k → I i ys S → wp (compN src n body k i S) P
  | 0, i, ys, S, h1, h2, _ => by omega
  | k + 1, i, ys, S, h1, h2, hI => by
    unfold compN
    rw [hs i ys S hI]
    unfold srcL
    cases q : xs[i]? with
    | none =>
      have : i = xs.length := by
        have := List.getElem?_eq_none_iff.mp q
        omega
      subst this
      exact wp_ok.mpr (hd ys S hI)
    | some d =>
      have hlt : i < xs.length := (List.getElem?_eq_some_iff.mp q).1
      show wp ((body d S).bind _) P
      rw [wp_bind]
      refine wp_mono (hb i ys S d hI q) fun r S1 h => ?_
      cases r with
      | none => exact compN_wp xs I hs hb hd k (i + 1) ys S1 (by omega) (by omega) h
      | some e =>
        obtain ⟨z1, z2, z3⟩ := h
        show wp (match lstAt S1 n with
          | some ys => if ys.length < lineN then compN src n body k (i + 1) (S1.set n (.lst (ys ++ [e]))) else .no
          | none => .no) P
        rw [z1]
        show wp (if ys.length < lineN then compN src n body k (i + 1) (S1.set n (.lst (ys ++ [e]))) else .no) P
        rw [if_pos z2]
        exact compN_wp xs I hs hb hd k (i + 1) (ys ++ [e]) _ (by omega) (by omega) z3
theorem forN_wp {src : Src} {body : D → Sto → Loc → Res Fl} {P : Fl → Sto → Prop} (xs : List D) (I : Nat → Sto → Loc → Prop) (hs : ∀ i S ρ, I i S ρ → src i S = srcL xs i S)
    (hb : ∀ i S ρ d, I i S ρ → xs[i]? = some d → wp (body d S ρ) fun f S1 => match f with
      | .nx ρ1 => I (i + 1) S1 ρ1
      | .rt e => P (.rt e) S1
      | .bk ρ1 => P (.nx ρ1) S1)
    (hd : ∀ S ρ, I xs.length S ρ → P (.nx ρ) S) : ∀ (k i : Nat) (S : Sto) (ρ : Loc), i ≤ xs.length → xs.length < i + k → I i S ρ → wp (forN src body k i S ρ) P
  | 0, i, S, ρ, h1, h2, _ => by omega
  | k + 1, i, S, ρ, h1, h2, hI => by
    unfold forN
    rw [hs i S ρ hI]
    unfold srcL
    cases q : xs[i]? with
    | none =>
      have : i = xs.length := by
        have := List.getElem?_eq_none_iff.mp q
        omega
      subst this
      exact wp_ok.mpr (hd S ρ hI)
    | some d =>
      have hlt : i < xs.length := (List.getElem?_eq_some_iff.mp q).1
      show wp ((body d S ρ).bind _) P
      rw [wp_bind]
      refine wp_mono (hb i S ρ d hI q) fun f S1 h => ?_
      cases f with
      | nx ρ1 => exact forN_wp xs I hs hb hd k (i + 1) S1 ρ1 (by omega) (by omega) h
      | rt e => exact wp_ok.mpr h
      | bk ρ1 => exact wp_ok.mpr h
theorem whileN_wp {c : Loc → Sto → Res Bool} {body : Loc → Sto → Res Fl} {P : Fl → Sto → Prop} (I : Nat → Loc → Sto → Prop)
    (hb : ∀ m ρ S, I m ρ S → wp (c ρ S) fun b S1 => if b = true then wp (body ρ S1) fun f S2 => match f with
      | .nx ρ1 => ∃ m', m' < m ∧ I m' ρ1 S2
      | .rt e => P (.rt e) S2
      | .bk ρ1 => P (.nx ρ1) S2 else P (.nx ρ) S1) : ∀ (k m : Nat) (ρ : Loc) (S : Sto), m < k → I m ρ S → wp (whileN c body k ρ S) P
  | 0, m, ρ, S, h, _ => by omega
  | k + 1, m, ρ, S, h, hI => by
    unfold whileN
    rw [wp_bind]
    refine wp_mono (hb m ρ S hI) fun b S1 h1 => ?_
    cases b with
    | false => exact wp_ok.mpr h1
    | true =>
      show wp ((body ρ S1).bind _) P
      rw [wp_bind]
      refine wp_mono h1 fun f S2 h2 => ?_
      cases f with
      | nx ρ1 =>
        obtain ⟨m', h3, h4⟩ := h2
        exact whileN_wp I hb k m' ρ1 S2 (by omega) h4
      | rt e => exact wp_ok.mpr h2
      | bk ρ1 => exact wp_ok.mpr h2
theorem rng_srcL {lo : Int} {n : Nat} : rngL lo n = srcL ((List.range n).map fun (i : Nat) => D.int (lo + (i : Int))) := by
  funext i S
  unfold rngL srcL
  rw [List.getElem?_map]
  by_cases h : i < n
  · rw [if_pos h, List.getElem?_eq_getElem (by simpa using h)]
    simp
  · rw [if_neg h, List.getElem?_eq_none (by simp; omega)]
    rfl
end Mini
/-! Mini: stores that only grow; data that may be asked for its type; loops that ask all. -/
namespace Mini
open PySem

def Ext (S S' : Sto) : Prop := ∃ t, S' = S ++ t
theorem Ext.refl {S : Sto} : Ext S S := ⟨[], by simp⟩
theorem Ext.trans {A B C : Sto} (a : Ext A B) (b : Ext B C) : Ext A C := by
  obtain ⟨t, rfl⟩ := a
  obtain ⟨u, rfl⟩ := b
  exact ⟨t ++ u, by simp⟩
theorem Ext.one {S : Sto} {c : Cl} : Ext S (S ++ [c]) := ⟨[c], rfl⟩
theorem Ext.get {A B : Sto} (e : Ext A B) {n : Nat} {c : Cl} (h : A[n]? = some c) : B[n]? = some c := by
  obtain ⟨t, rfl⟩ := e
  rw [List.getElem?_append_left (List.getElem?_eq_some_iff.mp h).1]
  exact h
/-- cells keep their kind -/
def Ge (A B : Sto) : Prop := ∀ n u, tyOf A (.ref n) = some u → tyOf B (.ref n) = some u
theorem Ge.refl {A : Sto} : Ge A A := fun _ _ h => h
theorem Ge.trans {A B C : Sto} (a : Ge A B) (b : Ge B C) : Ge A C := fun n u h => b n u (a n u h)
theorem tyRef {S : Sto} {n : Nat} : tyOf S (.ref n) = match S[n]? with
    | some (.lst _) => some .list
    | some .dct => some .dict
    | _ => none := rfl
theorem Ext.ge {A B : Sto} (e : Ext A B) : Ge A B := fun n u h => by
  rw [tyRef] at h ⊢
  cases q : A[n]? with
  | none => rw [q] at h; cases h
  | some c => rw [e.get q]; rw [q] at h; exact h
theorem Ge.set {A : Sto} {n : Nat} {xs ys : List D} (h : A[n]? = some (.lst xs)) : Ge A (A.set n (.lst ys)) := fun m u hm => by
  rw [tyRef] at hm ⊢
  by_cases e : m = n
  · subst e
    rw [h] at hm
    rw [List.getElem?_set_self (List.getElem?_eq_some_iff.mp h).1]
    exact hm
  · rw [List.getElem?_set_ne (Ne.symm e)]
    exact hm
mutual
/-- data whose type may be asked, to any depth of tuples -/
def okD (S : Sto) : D → Bool
  | .ref n => (tyOf S (.ref n)).isSome
  | .tup xs => decide (xs.length ≤ 1000) && okDs S xs
  | .glb _ => false
  | _ => true
def okDs (S : Sto) : List D → Bool
  | [] => true
  | x :: xs => okD S x && okDs S xs
end
mutual
theorem okD_ge {A B : Sto} (g : Ge A B) : ∀ {d : D}, okD A d = true → okD B d = true
  | .ref n, h => by
    obtain ⟨u, hu⟩ := Option.isSome_iff_exists.mp (show (tyOf A (.ref n)).isSome = true from h)
    show (tyOf B (.ref n)).isSome = true
    rw [g n u hu]; rfl
  | .tup xs, h => by
    have h : (decide (xs.length ≤ 1000) && okDs A xs) = true := h
    rw [Bool.and_eq_true] at h
    show (decide (xs.length ≤ 1000) && okDs B xs) = true
    rw [h.1, okDs_ge g h.2]; rfl
  | .glb _, h => by cases h
  | .non, _ => rfl
  | .bl _, _ => rfl
  | .int _, _ => rfl
  | .str _, _ => rfl
theorem okDs_ge {A B : Sto} (g : Ge A B) : ∀ {ds : List D}, okDs A ds = true → okDs B ds = true
  | [], _ => rfl
  | x :: xs, h => by
    have h : (okD A x && okDs A xs) = true := h
    rw [Bool.and_eq_true] at h
    show (okD B x && okDs B xs) = true
    rw [okD_ge g h.1, okDs_ge g h.2]; rfl
end
theorem okDs_iff {S : Sto} : ∀ {ds : List D}, okDs S ds = true ↔ ∀ d ∈ ds, okD S d = true
  | [] => by simp [okDs]
  | x :: xs => by
    show (okD S x && okDs S xs) = true ↔ _
    rw [Bool.and_eq_true, okDs_iff (ds := xs)]
    simp
theorem okT {S : Sto} {xs : List D} (h : okD S (.tup xs) = true) : xs.length ≤ 1000 ∧ ∀ d ∈ xs, okD S d = true := by
  have h : (decide (xs.length ≤ 1000) && okDs S xs) = true := h
  rw [Bool.and_eq_true, decide_eq_true_eq, okDs_iff] at h
  exact h
theorem okT_mk {S : Sto} {xs : List D} (h : xs.length ≤ 1000) (k : ∀ d ∈ xs, okD S d = true) : okD S (.tup xs) = true := by
  show (decide (xs.length ≤ 1000) && okDs S xs) = true
  rw [Bool.and_eq_true, decide_eq_true_eq, okDs_iff]
  exact ⟨h, k⟩
section
variable {S : Sto} {xs : List D} {i j : Int} {b : Bool} {d : D} {t : Ty} {x : Str}
theorem fn_len : fnE .len [.tup xs] S = .ok (.int xs.length) S := rfl
theorem fn_isi : fnE (.isi t) [d] S = ofOpt S ((isiE S d t).map D.bl) := rfl
theorem fn_gcd : fnE .gcd [.int i, .int j] S = .ok (.int ((Nat.gcd i.natAbs j.natAbs : Nat) : Int)) S := rfl
theorem fn_int : fnE .int [.int i] S = .ok (.int i) S := rfl
theorem fn_intb : fnE .int [.bl b] S = .ok (.int (if b then 1 else 0)) S := rfl
theorem fn_abs : fnE .abs [.int i] S = .ok (.int (if i < 0 then -i else i)) S := rfl
theorem fn_tup : fnE .tuple [.tup xs] S = .ok (.tup xs) S := rfl
theorem fn_lst : fnE .list [.tup xs] S = .ok (.ref S.length) (S ++ [.lst xs]) := rfl
theorem fn_strs : fnE .str [.str x] S = .ok (.str x) S := rfl
end
theorem fn_lenR {S : Sto} {n : Nat} {xs : List D} (h : seqAt S n = some xs) : fnE .len [.ref n] S = .ok (.int xs.length) S := by
  show (match seqAt S n with
    | some xs => Res.ok (D.int xs.length) S
    | none => .no) = _
  rw [h]
theorem fn_tupR {S : Sto} {n : Nat} {xs : List D} (h : seqAt S n = some xs) : fnE .tuple [.ref n] S = .ok (.tup xs) S := by
  show (match seqAt S n with
    | some xs => Res.ok (D.tup xs) S
    | none => .no) = _
  rw [h]
theorem fn_sumR {S : Sto} {n : Nat} {xs : List D} {ns : List Int} (h : seqAt S n = some xs) (h2 : intsOf xs = some ns) : fnE .sum [.ref n] S = .ok (.int ns.sum) S := by
  show (match (seqAt S n).bind intsOf with
    | some ns => Res.ok (D.int ns.sum) S
    | none => .no) = _
  rw [h]
  show (match intsOf xs with
    | some ns => Res.ok (D.int ns.sum) S
    | none => .no) = _
  rw [h2]
theorem fn_divmod {S : Sto} {i j : Int} (h1 : 0 < j) (h2 : j < 1073741824) : fnE .divmod [.int i, .int j] S = .ok (.tup [.int (i / j), .int (i % j)]) S := by
  show (if decide (0 < j) && decide (j < 1073741824) then Res.ok (D.tup [.int (i / j), .int (i % j)]) S else .no) = _
  rw [decide_eq_true h1, decide_eq_true h2]; rfl
theorem fn_str {S : Sto} {i : Int} (h : i.natAbs.log2 < 1920) : fnE .str [.int i] S = .ok (.str (Str.ofString (toString i))) S := if_pos h
theorem intsOf_map : ∀ ns : List Int, intsOf (ns.map D.int) = some ns
  | [] => rfl
  | n :: ns => by
    show (intsOf (ns.map D.int)).map (n :: ·) = _
    rw [intsOf_map ns]; rfl
def isTupD : D → Bool
  | .tup _ => true
  | _ => false
def isIntD : D → Bool
  | .int _ => true
  | .bl _ => true
  | _ => false
def isBlD : D → Bool
  | .bl _ => true
  | _ => false
theorem refTy {S : Sto} {n : Nat} (h : okD S (.ref n) = true) : tyOf S (.ref n) = some .list ∨ tyOf S (.ref n) = some .dict := by
  obtain ⟨u, hu⟩ := Option.isSome_iff_exists.mp (show (tyOf S (.ref n)).isSome = true from h)
  rw [tyRef] at hu ⊢
  cases q : S[n]? with
  | none => rw [q] at hu; cases hu
  | some c => cases c <;> rw [q] at hu <;> first | exact .inl rfl | exact .inr rfl | cases hu
theorem isi_ref {S : Sto} {n : Nat} {t : Ty} : isiE S (.ref n) t = match tyOf S (.ref n) with
    | some u => some (decide (u = t) || (decide (u = .bool) && decide (t = .int)))
    | none => none := rfl
theorem isi_tup {S : Sto} {d : D} (h : okD S d = true) : isiE S d .tuple = some (isTupD d) := by
  cases d with
  | ref n => rcases refTy h with q | q <;> (rw [isi_ref, q]; rfl)
  | glb n => cases h
  | _ => rfl
theorem isi_int {S : Sto} {d : D} (h : okD S d = true) : isiE S d .int = some (isIntD d) := by
  cases d with
  | ref n => rcases refTy h with q | q <;> (rw [isi_ref, q]; rfl)
  | glb n => cases h
  | _ => rfl
theorem isi_bool {S : Sto} {d : D} (h : okD S d = true) : isiE S d .bool = some (isBlD d) := by
  cases d with
  | ref n => rcases refTy h with q | q <;> (rw [isi_ref, q]; rfl)
  | glb n => cases h
  | _ => rfl
theorem eq_int {S : Sto} {a b : Int} : eqE S (.int a) (.int b) = some (decide (a = b)) := by
  have e : eqE S (.int a) (.int b) = some (PyData.eqv (.int a) (.int b)) := rfl
  rw [e]
  congr 1
theorem mid_lst {A t : Sto} {ys : List D} : lstAt (A ++ .lst ys :: t) A.length = some ys := by
  unfold lstAt
  rw [List.getElem?_append_right (Nat.le_refl _)]
  simp
theorem mid_seq {A t : Sto} {ys : List D} : seqAt (A ++ .lst ys :: t) A.length = some ys := by
  unfold seqAt
  rw [List.getElem?_append_right (Nat.le_refl _)]
  simp
theorem mid_set {A t : Sto} {c d : Cl} : (A ++ c :: t).set A.length d = A ++ d :: t := by
  rw [List.set_append_right _ _ (Nat.le_refl _)]
  simp
theorem boolsOf_map {g : D → Bool} : ∀ xs : List D, boolsOf (xs.map fun d => D.bl (g d)) = some (xs.map g)
  | [] => rfl
  | x :: xs => by
    show (boolsOf (xs.map fun d => D.bl (g d))).map (g x :: ·) = _
    rw [boolsOf_map xs]; rfl
theorem lineBig {n : Nat} (h : n ≤ 100000) : n < lineN := Nat.lt_of_le_of_lt h (by decide)
/-- a comprehension that asks each: its list -/
theorem list_comp {p : Pg} {v f : Nat} {it : It} {ρ : Loc} {S : Sto} {P : D → Sto → Prop} {xs : List D} {g : D → D} (hv : v < ρ.length) (hfuel : xs.length < p.fuel) (hlen : xs.length ≤ 1000)
    (hit : wp (evI p it ρ S) fun src S1 => Ext S S1 ∧ ∀ i S', Ext S1 S' → src i S' = srcL xs i S')
    (hf : ∀ d ∈ xs, ∀ S', Ext S S' → wp (p.call f [d] S') fun r S'' => r = g d ∧ Ext S' S'')
    (hP : ∀ A t, Ext S A → P (.ref A.length) (A ++ .lst (xs.map g) :: t)) :
    wp (evE p (.comp (.nm v) it [] (.call f [.var v] none) [v]) ρ S) P := by
  rw [wp_comp]
  refine wp_mono hit fun src S1 ⟨e1, hs⟩ => ?_
  refine compN_wp (n := S1.length) xs (fun i ys S' => ∃ t, S' = S1 ++ .lst ys :: t ∧ ys = (xs.take i).map g) (fun i ys S' ⟨t, e, _⟩ => hs i S' ⟨_, e⟩)
    (fun i ys S' d ⟨t, e, ey⟩ hd => ?_) (fun ys S' ⟨t, e, ey⟩ => ?_) _ 0 [] _ (Nat.zero_le _) (by omega) ⟨[], rfl, by simp⟩
  · rw [wp_noex]
    unfold bodyC
    simp only [wp_bind, wp_gn, wp_tN, if_pos, wp_ok, wp_call, wp_cons, wp_nil, wp_var, if_true]
    refine ⟨d, ?_, ?_⟩
    · show ((wipeL ρ [v]).set v (some d))[v]? = _
      rw [List.getElem?_set_self (by show v < (ρ.set v none).length; simpa using hv)]
    · subst e
      have hlt : i < xs.length := (List.getElem?_eq_some_iff.mp hd).1
      refine wp_mono (hf d (List.mem_of_getElem? hd) _ (e1.trans ⟨_, rfl⟩)) fun r S'' ⟨er, t', et⟩ => ?_
      subst er et
      have ea : S1 ++ Cl.lst ys :: t ++ t' = S1 ++ Cl.lst ys :: (t ++ t') := by simp
      rw [ea]
      refine ⟨mid_lst, lineBig (by rw [ey]; simp; omega), t ++ t', mid_set, ?_⟩
      rw [ey, List.take_add_one, hd]
      simp
  · subst e
    rw [ey, List.take_length]
    exact hP S1 t e1
theorem all_comp {p : Pg} {v f : Nat} {it : It} {ρ : Loc} {S : Sto} {P : D → Sto → Prop} {xs : List D} {g : D → Bool} (hv : v < ρ.length) (hfuel : xs.length < p.fuel) (hlen : xs.length ≤ 1000)
    (hit : wp (evI p it ρ S) fun src S1 => Ext S S1 ∧ ∀ i S', Ext S1 S' → src i S' = srcL xs i S')
    (hf : ∀ d ∈ xs, ∀ S', Ext S S' → wp (p.call f [d] S') fun r S'' => r = .bl (g d) ∧ Ext S' S'')
    (hP : ∀ S', Ext S S' → P (.bl (xs.all g)) S') :
    wp (evE p (.comp (.nm v) it [] (.call f [.var v] none) [v]) ρ S) fun d S1 => wp (fnE .all [d] S1) P := by
  refine list_comp (g := fun d => .bl (g d)) hv hfuel hlen hit hf fun A t e => ?_
  show wp (match (seqAt _ A.length).bind boolsOf with
    | some bs => Res.ok (.bl (bs.all id)) _
    | none => .no) P
  rw [mid_seq]
  show wp (match boolsOf (xs.map fun d => D.bl (g d)) with
    | some bs => Res.ok (.bl (bs.all id)) _
    | none => .no) P
  rw [boolsOf_map]
  refine wp_ok.mpr ?_
  show P (.bl ((xs.map g).all id)) _
  rw [List.all_map]
  exact hP _ (e.trans ⟨_, rfl⟩)
theorem it_tup {p : Pg} {e : Ex} {ρ : Loc} {S : Sto} {xs : List D} (h : wp (evE p e ρ S) fun d S' => d = .tup xs ∧ Ext S S') : wp (evI p (.val e) ρ S) fun src S1 => Ext S S1 ∧ ∀ i S', Ext S1 S' → src i S' = srcL xs i S' := by
  rw [wp_iv]
  refine wp_mono h fun d S' ⟨e1, e2⟩ => ?_
  subst e1
  exact ⟨_, rfl, e2, fun _ _ _ => rfl⟩
/-! ### places, slices -/
section
variable {xs : List D}
theorem atI_n {k : Nat} (h : k < xs.length) : L2.atI xs (k : Int) = xs[k]? := by
  unfold L2.atI L2.ixN
  rw [if_pos (by omega), if_pos (by omega)]
  show xs[((k : Nat) : Int).toNat]? = _
  rw [Int.toNat_natCast]
theorem atI_m1 (h : 1 ≤ xs.length) : L2.atI xs (-1) = xs[xs.length - 1]? := by
  unfold L2.atI L2.ixN
  rw [if_neg (by omega), if_pos (by omega)]
  show xs[(-1 + (xs.length : Int)).toNat]? = _
  rw [show (-1 + (xs.length : Int)).toNat = xs.length - 1 by omega]
theorem cut_to (k : Nat) : cutD xs none (some (k : Int)) = xs.take k := by
  unfold cutD
  rw [HT.sIx_none, HT.sIx_nat]
  simp only [List.drop_zero, Nat.sub_zero]
  by_cases h : k ≤ xs.length
  · rw [Nat.min_eq_left h]
  · rw [Nat.min_eq_right (by omega), List.take_of_length_le (Nat.le_refl _), List.take_of_length_le (by omega)]
theorem cut_from (k : Nat) : cutD xs (some (k : Int)) none = xs.drop k := by
  unfold cutD
  rw [HT.sIx_none, HT.sIx_nat]
  by_cases h : k ≤ xs.length
  · rw [Nat.min_eq_left h, List.take_of_length_le (by rw [List.length_drop]; omega)]
  · rw [Nat.min_eq_right (by omega), List.drop_eq_nil_of_le (Nat.le_refl _), List.drop_eq_nil_of_le (by omega)]
    simp
theorem cut_from1 : cutD xs (some 1) none = xs.drop 1 := cut_from 1
theorem cut_from2 : cutD xs (some 2) none = xs.drop 2 := cut_from 2
theorem cut_to1 : cutD xs none (some 1) = xs.take 1 := cut_to 1
theorem cut_to3 : cutD xs none (some 3) = xs.take 3 := cut_to 3
theorem cut_to6 : cutD xs none (some 6) = xs.take 6 := cut_to 6
theorem sIx_m1 {d : Nat} : HT.sIx xs.length d (some (-1)) = xs.length - 1 := by
  show (if (-1 : Int) < 0 then (-1 + (xs.length : Int)).toNat else min (-1 : Int).toNat xs.length) = _
  rw [if_pos (by decide)]
  omega
theorem cut_m1 : cutD xs none (some (-1)) = xs.take (xs.length - 1) := by
  unfold cutD
  rw [HT.sIx_none, sIx_m1]
  simp
theorem cut_in : cutD xs (some 1) (some (-1)) = (xs.drop 1).take (xs.length - 1 - 1) := by
  unfold cutD
  rw [sIx_m1, show HT.sIx xs.length 0 (some 1) = min 1 xs.length from HT.sIx_nat _ 0 1]
  by_cases h : 1 ≤ xs.length
  · rw [Nat.min_eq_left h]
  · have : xs = [] := List.eq_nil_of_length_eq_zero (by omega)
    subst this
    rfl
end
/-! ### sums and the like that stay small -/
theorem bits_small {i : Int} (h : i.natAbs < 2 ^ 64) : Builtin.Int.intBits i ≤ 64 := by
  unfold Builtin.Int.intBits
  split
  · exact Nat.zero_le _
  · rename_i hi
    have : i.natAbs ≠ 0 := by
      intro e
      apply hi
      have : i = 0 := Int.natAbs_eq_zero.mp e
      rw [this]; rfl
    have := (Nat.log2_lt this (k := 64)).mpr h
    omega
theorem mul_small {i j : Int} (h1 : i.natAbs < 2 ^ 64) (h2 : j.natAbs < 2 ^ 64) : mulOk i j = true := by
  have b1 := bits_small h1
  have b2 := bits_small h2
  unfold mulOk
  rw [decide_eq_true_eq]
  omega
theorem div_small {i j : Int} (h0 : j ≠ 0) (h : j.natAbs < 2 ^ 64) : divOk i j = true := by
  have hj : j.natAbs ≠ 0 := fun e => h0 (Int.natAbs_eq_zero.mp e)
  have hl := (Nat.log2_lt hj (k := 64)).mpr h
  have : Builtin.divisionGoesByPylong i j = false := by
    unfold Builtin.divisionGoesByPylong
    have e : (j == 0) = false := by simpa using h0
    simp only [e, Bool.false_eq_true, if_false]
    have : ¬ (j.natAbs.log2 / 30 + 1 > 300) := by omega
    simp [this]
  unfold divOk
  rw [this]
  simpa using h0
theorem bin_mul {S : Sto} {i j : Int} (h1 : i.natAbs < 2 ^ 64) (h2 : j.natAbs < 2 ^ 64) : binE .mul (.int i) (.int j) S = .ok (.int (i * j)) S := if_pos (mul_small h1 h2)
theorem bin_add {S : Sto} {i j : Int} : binE .add (.int i) (.int j) S = .ok (.int (i + j)) S := rfl
theorem bin_sub {S : Sto} {i j : Int} : binE .sub (.int i) (.int j) S = .ok (.int (i - j)) S := rfl
theorem bin_mod {S : Sto} {i j : Int} (h : 0 < j) : binE .mod (.int i) (.int j) S = .ok (.int (i % j)) S := by
  have h2 : (j != 0) = true := by simp; omega
  show (if j != 0 then Res.ok (D.int (i.fmod j)) S else .no) = _
  rw [if_pos h2, Int.fmod_eq_emod_of_nonneg _ (by omega)]
theorem bin_div {S : Sto} {i j : Int} (h : 0 < j) (h2 : j.natAbs < 2 ^ 64) : binE .fdiv (.int i) (.int j) S = .ok (.int (i / j)) S := by
  show (if divOk i j then Res.ok (D.int (i.fdiv j)) S else .no) = _
  rw [if_pos (div_small (by omega) h2), Int.fdiv_eq_ediv_of_nonneg _ (by omega)]
theorem bin_pow {S : Sto} {i j : Int} (h : powOk i j = true) : binE .pow (.int i) (.int j) S = .ok (.int (i ^ j.toNat)) S := if_pos h
theorem bin_cat {S : Sto} {xs ys : List D} (h : xs.length + ys.length ≤ 100000) : binE .add (.tup xs) (.tup ys) S = .ok (.tup (xs ++ ys)) S := if_pos (Nat.le_of_lt (lineBig h))
theorem bin_catL {S : Sto} {m n : Nat} {xs ys : List D} (h1 : lstAt S m = some xs) (h2 : lstAt S n = some ys) (h : xs.length + ys.length ≤ 100000) : binE .add (.ref m) (.ref n) S = .ok (.ref S.length) (S ++ [.lst (xs ++ ys)]) := by
  show (match lstAt S m, lstAt S n with
    | some xs, some ys => if xs.length + ys.length ≤ lineN then new (.lst (xs ++ ys)) S else .no
    | _, _ => .no) = _
  rw [h1, h2]
  exact if_pos (Nat.le_of_lt (lineBig h))
theorem bin_rep {S : Sto} {xs : List D} {k : Int} (h0 : xs.isEmpty = false) (h1 : 2 ≤ k) (h2 : k ≤ 1000) (h3 : xs.length ≤ 1000) : binE .mul (.tup xs) (.int k) S = .ok (.tup (List.replicate k.toNat xs).flatten) S := by
  show (if !xs.isEmpty && decide (2 ≤ k) && decide (k ≤ 1000) && decide (xs.length ≤ 1000) then Res.ok (D.tup (List.replicate k.toNat xs).flatten) S else .no) = _
  rw [h0, decide_eq_true h1, decide_eq_true h2, decide_eq_true h3]; rfl
theorem bin_repL {S : Sto} {n : Nat} {xs : List D} {k : Int} (h0 : lstAt S n = some xs) (h1 : 0 ≤ k) (h2 : k ≤ 1000) (h3 : xs.length ≤ 50) : binE .mul (.ref n) (.int k) S = .ok (.ref S.length) (S ++ [.lst (List.replicate k.toNat xs).flatten]) := by
  show (match lstAt S n with
    | some xs => if decide (-(2 ^ 63) ≤ k) && decide (k < 2 ^ 63) && decide (xs.length * k.toNat ≤ lineN) then new (.lst (List.replicate k.toNat xs).flatten) S else .no
    | _ => .no) = _
  rw [h0]
  have : xs.length * k.toNat ≤ 50 * 1000 := Nat.mul_le_mul h3 (by omega)
  have a1 : decide (-(2 ^ 63) ≤ k) = true := by rw [decide_eq_true_eq]; omega
  have a2 : decide (k < 2 ^ 63) = true := by rw [decide_eq_true_eq]; omega
  have a3 : decide (xs.length * k.toNat ≤ lineN) = true := by rw [decide_eq_true_eq]; exact Nat.le_of_lt (lineBig (by omega))
  show (if decide (-(2 ^ 63) ≤ k) && decide (k < 2 ^ 63) && decide (xs.length * k.toNat ≤ lineN) then new (.lst (List.replicate k.toNat xs).flatten) S else .no) = _
  rw [a1, a2, a3]; rfl

/-! ### a cell, read and written -/
section
variable {S : Sto} {c : Nat} {xs : List D} {d : D}
theorem seq_c (h : S[c]? = some (.lst xs)) : seqAt S c = some xs := by unfold seqAt; rw [h]
theorem lst_c (h : S[c]? = some (.lst xs)) : lstAt S c = some xs := by unfold lstAt; rw [h]
theorem ix_c {i : Int} (h : S[c]? = some (.lst xs)) : ixE S (.ref c) (.int i) = L2.atI xs i := by
  show (seqAt S c).bind (fun xs => L2.atI xs i) = _
  rw [seq_c h]; rfl
theorem sto_c {k : Int} {j : Nat} (h : S[c]? = some (.lst xs)) (hj : L2.ixN xs.length k = some j) : storeE (.ref c) (.int k) d S = some (S.set c (.lst (xs.set j d))) := by
  show (match lstAt S c with
    | some xs => match L2.ixN xs.length k with
      | some j => some (S.set c (.lst (xs.set j d)))
      | none => none
    | none => none) = _
  rw [lst_c h]
  show (match L2.ixN xs.length k with
      | some j => some (S.set c (.lst (xs.set j d)))
      | none => none) = _
  rw [hj]
theorem at_set {ys : List D} (h : S[c]? = some (.lst xs)) : (S.set c (.lst ys))[c]? = some (.lst ys) := List.getElem?_set_self (List.getElem?_eq_some_iff.mp h).1
theorem isL_c (h : S[c]? = some (.lst xs)) : isLst S (.ref c) = true := by
  show (lstAt S c).isSome = true
  rw [lst_c h]; rfl
theorem app_c (h : S[c]? = some (.lst xs)) (hl : xs.length ≤ 1000) : meE .append (.ref c) [d] S = .ok .non (S.set c (.lst (xs ++ [d]))) := by
  show (match lstAt S c with
    | some xs => if xs.length < lineN then Res.ok D.non (S.set c (.lst (xs ++ [d]))) else .no
    | none => .no) = _
  rw [lst_c h]
  exact if_pos (lineBig (by omega))
end
/-- all but the cell c is as it was, kinds too -/
structure Chg (c : Nat) (A B : Sto) : Prop where
  ge : Ge A B
  len : A.length ≤ B.length
  get : ∀ n x, n ≠ c → A[n]? = some x → B[n]? = some x
theorem Chg.refl {c : Nat} {A : Sto} : Chg c A A := ⟨.refl, Nat.le_refl _, fun _ _ _ h => h⟩
theorem Chg.trans {c : Nat} {A B C : Sto} (a : Chg c A B) (b : Chg c B C) : Chg c A C := ⟨a.ge.trans b.ge, Nat.le_trans a.len b.len, fun n x hn h => b.get n x hn (a.get n x hn h)⟩
theorem Ext.chg {c : Nat} {A B : Sto} (e : Ext A B) : Chg c A B := ⟨e.ge, by obtain ⟨t, rfl⟩ := e; simp, fun n x _ h => e.get h⟩
theorem Chg.set {c : Nat} {A : Sto} {xs ys : List D} (h : A[c]? = some (.lst xs)) : Chg c A (A.set c (.lst ys)) := ⟨.set h, by simp, fun n x hn hx => by rw [List.getElem?_set_ne (Ne.symm hn)]; exact hx⟩
/-- a change of a cell that was not there -/
theorem Chg.new {c d : Nat} {A B : Sto} (h : Chg d A B) (hd : A.length ≤ d) : Chg c A B := ⟨h.ge, h.len, fun n x _ hx => h.get n x (fun e => by
  have := (List.getElem?_eq_some_iff.mp hx).1
  omega) hx⟩
theorem Chg.then {c d : Nat} {A B C : Sto} (a : Chg c A B) (b : Chg d B C) (hd : A.length ≤ d) : Chg c A C := ⟨a.ge.trans b.ge, Nat.le_trans a.len b.len, fun n x hn hx => b.get n x (fun e => by
  have := (List.getElem?_eq_some_iff.mp hx).1
  omega) (a.get n x hn hx)⟩
theorem at_new {A : Sto} {c : Cl} : (A ++ [c])[A.length]? = some c := by simp
/-- the law's well -/
def Well (S : Sto) (c : Nat) (t : Int) : Prop := ∃ a b k : Int, S[c]? = some (.lst [.int a, .int b, .int k]) ∧ 0 ≤ a ∧ 0 ≤ b ∧ b < 4294967296 ∧ 0 ≤ k ∧ k ≤ t
theorem Well.mono {S : Sto} {c : Nat} {t u : Int} (w : Well S c t) (h : t ≤ u) : Well S c u := by
  obtain ⟨a, b, k, h1, h2, h3, h4, h5, h6⟩ := w
  exact ⟨a, b, k, h1, h2, h3, h4, h5, by omega⟩
theorem Well.ext {S S' : Sto} {c : Nat} {t : Int} (w : Well S c t) (e : Ext S S') : Well S' c t := by
  obtain ⟨a, b, k, h1, h⟩ := w
  exact ⟨a, b, k, e.get h1, h⟩
theorem Well.chg {S S' : Sto} {c d : Nat} {t : Int} (w : Well S c t) (e : Chg d S S') (h : c ≠ d) : Well S' c t := by
  obtain ⟨a, b, k, h1, hh⟩ := w
  exact ⟨a, b, k, e.get c _ h h1, hh⟩
theorem Well.lt {S : Sto} {c : Nat} {t : Int} (w : Well S c t) : c < S.length := by
  obtain ⟨a, b, k, h1, h⟩ := w
  exact (List.getElem?_eq_some_iff.mp h1).1
theorem Well.set {S : Sto} {c : Nat} {t a b k : Int} (w : Well S c t) {u : Int} (h1 : 0 ≤ a) (h2 : 0 ≤ b) (h3 : b < 4294967296) (h4 : 0 ≤ k) (h5 : k ≤ u) : Well (S.set c (.lst [.int a, .int b, .int k])) c u := ⟨a, b, k, List.getElem?_set_self w.lt, h1, h2, h3, h4, h5⟩
/-! ### displays all of whose items are alike -/
def AllE (p : Pg) (ρ : Loc) (S : Sto) (Pr : Sto → D → Prop) : List Ex → Prop
  | [] => True
  | e :: es => (∀ S', Ext S S' → wp (evE p e ρ S') fun d S'' => Pr S'' d ∧ Ext S' S'') ∧ AllE p ρ S Pr es
theorem AllE.ext {p : Pg} {ρ : Loc} {Pr : Sto → D → Prop} {S S1 : Sto} (e : Ext S S1) : ∀ {es : List Ex}, AllE p ρ S Pr es → AllE p ρ S1 Pr es
  | [], _ => True.intro
  | _ :: _, h => ⟨fun S' h' => h.1 S' (e.trans h'), AllE.ext e h.2⟩
theorem evEs_all {p : Pg} {ρ : Loc} {Pr : Sto → D → Prop} (mono : ∀ A B d, Ext A B → Pr A d → Pr B d) : ∀ {es : List Ex} {S : Sto}, AllE p ρ S Pr es → wp (evEs p es ρ S) fun ds S' => ds.length = es.length ∧ (∀ d ∈ ds, Pr S' d) ∧ Ext S S'
  | [], S, _ => wp_nil.mpr ⟨rfl, fun _ h => by simp at h, .refl⟩
  | e :: es, S, h => by
    rw [wp_cons]
    refine wp_mono (h.1 S .refl) fun d S1 ⟨h1, e1⟩ => ?_
    refine wp_mono (evEs_all mono (AllE.ext e1 h.2)) fun ds S2 ⟨l, h2, e2⟩ => ⟨by simp [l], fun x hx => ?_, e1.trans e2⟩
    rcases List.mem_cons.mp hx with rfl | hx
    · exact mono _ _ _ e2 h1
    · exact h2 x hx
theorem okD_ext {A B : Sto} {d : D} (e : Ext A B) (h : okD A d = true) : okD B d = true := okD_ge e.ge h
theorem ok_newL {S : Sto} {xs : List D} : okD (S ++ [.lst xs]) (.ref S.length) = true := by
  show (tyOf (S ++ [.lst xs]) (.ref S.length)).isSome = true
  rw [tyRef, at_new]; rfl
theorem ok_newD {S : Sto} : okD (S ++ [.dct]) (.ref S.length) = true := by
  show (tyOf (S ++ [.dct]) (.ref S.length)).isSome = true
  rw [tyRef, at_new]; rfl
end Mini
/-! Mini: more loops (tests, pairs), data that may be compared, wide numbers. -/
namespace Mini
open PySem

/-! ### comprehensions whose body is pure -/
theorem comp_fm {p : Pg} {t : Tg} {it : It} {cs : List Ex} {elt : Ex} {own : List Nat} {ρ : Loc} {S : Sto} {P : D → Sto → Prop} {xs : List D} {g : D → Option D} (hfuel : xs.length < p.fuel) (hlen : xs.length ≤ 100000)
    (hit : wp (evI p it ρ S) fun src S1 => Ext S S1 ∧ ∀ i S', Ext S1 S' → src i S' = srcL xs i S')
    (hf : ∀ d ∈ xs, ∀ S', Ext S S' → wp (bodyC p t cs elt (wipeL ρ own) d S') fun r S'' => r = g d ∧ Ext S' S'')
    (hP : ∀ A t, Ext S A → P (.ref A.length) (A ++ .lst (xs.filterMap g) :: t)) : wp (evE p (.comp t it cs elt own) ρ S) P := by
  rw [wp_comp]
  refine wp_mono hit fun src S1 ⟨e1, hs⟩ => ?_
  refine compN_wp (n := S1.length) xs (fun i ys S' => ∃ t, S' = S1 ++ .lst ys :: t ∧ ys = (xs.take i).filterMap g) (fun i ys S' ⟨t, e, _⟩ => hs i S' ⟨_, e⟩)
    (fun i ys S' d ⟨t, e, ey⟩ hd => ?_) (fun ys S' ⟨t, e, ey⟩ => ?_) _ 0 [] _ (Nat.zero_le _) (by omega) ⟨[], rfl, by simp⟩
  · rw [wp_noex]
    subst e
    have hlt : i < xs.length := (List.getElem?_eq_some_iff.mp hd).1
    refine wp_mono (hf d (List.mem_of_getElem? hd) _ (e1.trans ⟨_, rfl⟩)) fun r S'' ⟨er, t', et⟩ => ?_
    subst er et
    have ea : S1 ++ Cl.lst ys :: t ++ t' = S1 ++ Cl.lst ys :: (t ++ t') := by simp
    rw [ea]
    have step : (xs.take (i + 1)).filterMap g = ys ++ ([d].filterMap g) := by
      rw [List.take_add_one, hd, ey, List.filterMap_append]; rfl
    cases hg : g d with
    | none =>
      refine ⟨t ++ t', rfl, ?_⟩
      rw [step]
      simp [hg]
    | some e =>
      have hy : ys.length ≤ 100000 := by
        have h1 : ys.length ≤ (xs.take i).length := by rw [ey]; exact List.length_filterMap_le _ _
        rw [List.length_take] at h1
        omega
      refine ⟨mid_lst, lineBig hy, t ++ t', mid_set, ?_⟩
      rw [step]
      simp [hg]
  · subst e
    rw [ey, List.take_length]
    exact hP S1 t e1
theorem pair_srcL {xs ys : List D} {i : Nat} {S : Sto} : pairS (srcL xs) (srcL ys) i S = srcL ((xs.zip ys).map fun q => D.tup [q.1, q.2]) i S := by
  have e : pairS (srcL xs) (srcL ys) i S = (match srcL xs i S, srcL ys i S with
    | .item a, .item b => .item (.tup [a, b])
    | .stop, .item _ => .stop
    | .item _, .stop => .stop
    | .stop, .stop => .stop
    | _, _ => .bad) := rfl
  rw [e]
  unfold srcL
  rw [List.getElem?_map, List.zip, List.getElem?_zipWith]
  cases xs[i]? <;> cases ys[i]? <;> rfl
theorem it_zipT {p : Pg} {e e2 : Ex} {ρ : Loc} {S : Sto} {xs ys : List D} (h : wp (evE p e ρ S) fun d S' => d = .tup xs ∧ Ext S S') (h2 : ∀ S', Ext S S' → wp (evE p e2 ρ S') fun d S'' => d = .tup ys ∧ Ext S' S'') :
    wp (evI p (.zip e e2) ρ S) fun src S1 => Ext S S1 ∧ ∀ i S', Ext S1 S' → src i S' = srcL ((xs.zip ys).map fun q => D.tup [q.1, q.2]) i S' := by
  rw [wp_iz]
  refine wp_mono h fun d S' ⟨e1, e2⟩ => ?_
  subst e1
  refine wp_mono (h2 S' e2) fun d S'' ⟨e3, e4⟩ => ?_
  subst e3
  exact ⟨_, rfl, e2.trans e4, fun _ _ _ => pair_srcL⟩
theorem it_rng {p : Pg} {e : Ex} {ρ : Loc} {S : Sto} {n : Nat} (hn : n ≤ 1000000) (h : wp (evE p e ρ S) fun d S' => d = .int (n : Int) ∧ Ext S S') :
    wp (evI p (.rng1 e) ρ S) fun src S1 => Ext S S1 ∧ ∀ i S', Ext S1 S' → src i S' = srcL ((List.range n).map fun (i : Nat) => D.int (0 + (i : Int))) i S' := by
  rw [wp_i1]
  refine wp_mono h fun d S' ⟨e1, e2⟩ => ?_
  subst e1
  have hin : inR (n : Int) = true := by
    unfold inR
    rw [Bool.and_eq_true, decide_eq_true_eq, decide_eq_true_eq]
    omega
  refine ⟨srcL ((List.range n).map fun (i : Nat) => D.int (0 + (i : Int))), ?_, e2, fun _ _ _ => rfl⟩
  show (if inR (n : Int) then some (rngL 0 ((n : Int)).toNat) else none) = _
  rw [if_pos hin, Int.toNat_natCast, rng_srcL]

/-! ### data that may be compared and shown -/
def strB (x : Str) : Bool := PyData.canLay0 (.str x)
/-- to the depth k -/
def plB (S : Sto) : Nat → D → Bool
  | 0, d => match d with
    | .str x => strB x
    | d => (leafD d).isSome
  | k + 1, d => match d with
    | .tup xs => xs.all (plB S k)
    | .ref n => match seqAt S n with
      | some xs => xs.all (plB S k)
      | none => false
    | .str x => strB x
    | d => (leafD d).isSome
def Sh (k : Nat) (e : PyData) : Prop := e.canLay0 = true ∧ e.depth ≤ k
theorem shAll {k : Nat} : ∀ {es : List PyData}, (∀ e ∈ es, Sh k e) → PyData.canLayAll0 es = true ∧ PyData.depthAll es ≤ k
  | [], _ => ⟨by simp [PyData.canLayAll0], by simp [PyData.depthAll]⟩
  | e :: es, h => by
    obtain ⟨h1, h2⟩ := shAll (es := es) fun x hx => h x (by simp [hx])
    obtain ⟨h3, h4⟩ := h e (by simp)
    exact ⟨by simp [PyData.canLayAll0, h1, h3], by simp [PyData.depthAll]; omega⟩
theorem mapO_all {α β : Type} {f : α → Option β} {Pr : β → Prop} : ∀ {xs : List α}, (∀ x ∈ xs, ∃ e, f x = some e ∧ Pr e) → ∃ es, mapO f xs = some es ∧ (∀ e ∈ es, Pr e) ∧ es.length = xs.length
  | [], _ => ⟨[], rfl, fun _ h => by simp at h, rfl⟩
  | x :: xs, h => by
    obtain ⟨e, h1, h2⟩ := h x (by simp)
    obtain ⟨es, h3, h4, h5⟩ := mapO_all (xs := xs) fun y hy => h y (by simp [hy])
    refine ⟨e :: es, ?_, fun y hy => ?_, by simp [h5]⟩
    · show (match f x, mapO f xs with
        | some d, some ds => some (d :: ds)
        | _, _ => none) = _
      rw [h1, h3]
    · rcases List.mem_cons.mp hy with rfl | hy
      · exact h2
      · exact h4 y hy
theorem leaf_sh {d : D} {k : Nat} (hs : ∀ x, d = .str x → strB x = true) (h : (leafD d).isSome = true) : ∃ e, leafD d = some e ∧ Sh k e := by
  cases d with
  | non => exact ⟨_, rfl, by simp [PyData.canLay0], by simp [PyData.depth]⟩
  | bl b => exact ⟨_, rfl, by simp [PyData.canLay0], by simp [PyData.depth]⟩
  | int i => exact ⟨_, rfl, by simp [PyData.canLay0], by simp [PyData.depth]⟩
  | str x => exact ⟨_, rfl, hs x rfl, by simp [PyData.depth]⟩
  | _ => cases h
theorem toD_pl {S : Sto} : ∀ {k j : Nat} {d : D}, plB S k d = true → k ≤ j → ∃ e, toD S j d = some e ∧ Sh k e
  | 0, j, d, h, hj => by
    have key : (leafD d).isSome = true ∧ ∀ x, d = .str x → strB x = true := by
      cases d <;> first | exact ⟨h, fun x e => by cases e⟩ | exact ⟨rfl, fun x e => by cases e; exact h⟩ | (exact absurd h (by simp [plB, leafD]))
    obtain ⟨e, h1, h2⟩ := leaf_sh (k := 0) key.2 key.1
    refine ⟨e, ?_, h2⟩
    cases j with
    | zero => exact h1
    | succ j => cases d <;> first | exact h1 | cases h1
  | k + 1, 0, d, h, hj => by omega
  | k + 1, j + 1, d, h, hj => by
    have lf : (leafD d).isSome = true → (∀ x, d = .str x → strB x = true) → (∀ xs, d ≠ .tup xs) → (∀ n, d ≠ .ref n) → ∃ e, toD S (j + 1) d = some e ∧ Sh (k + 1) e := fun h1 h2 h3 h4 => by
      obtain ⟨e, e1, e2⟩ := leaf_sh (k := k + 1) h2 h1
      refine ⟨e, ?_, e2⟩
      cases d <;> first | exact e1 | exact absurd rfl (h3 _) | exact absurd rfl (h4 _)
    cases d with
    | tup xs =>
      have h : xs.all (plB S k) = true := h
      rw [List.all_eq_true] at h
      obtain ⟨es, h1, h2, _⟩ := mapO_all (f := toD S j) (Pr := Sh k) fun x hx => toD_pl (h x hx) (by omega)
      obtain ⟨h3, h4⟩ := shAll h2
      refine ⟨.tuple es, ?_, by simp [PyData.canLay0, h3], by simp [PyData.depth]; omega⟩
      show (mapO (toD S j) xs).map PyData.tuple = _
      rw [h1]; rfl
    | ref n =>
      have h : (match seqAt S n with
        | some xs => xs.all (plB S k)
        | none => false) = true := h
      cases q : seqAt S n with
      | none => rw [q] at h; cases h
      | some xs =>
        rw [q] at h
        have h : xs.all (plB S k) = true := h
        rw [List.all_eq_true] at h
        obtain ⟨es, h1, h2, _⟩ := mapO_all (f := toD S j) (Pr := Sh k) fun x hx => toD_pl (h x hx) (by omega)
        obtain ⟨h3, h4⟩ := shAll h2
        refine ⟨.list es, ?_, by simp [PyData.canLay0, h3], by simp [PyData.depth]; omega⟩
        show (match seqAt S n with
          | some xs => (mapO (toD S j) xs).map PyData.list
          | none => none) = _
        rw [q]
        show (mapO (toD S j) xs).map PyData.list = _
        rw [h1]; rfl
    | non => exact lf rfl (fun x e => by cases e) (fun _ e => by cases e) fun _ e => by cases e
    | bl b => exact lf rfl (fun x e => by cases e) (fun _ e => by cases e) fun _ e => by cases e
    | int i => exact lf rfl (fun x e => by cases e) (fun _ e => by cases e) fun _ e => by cases e
    | str x => exact lf rfl (fun y e => by cases e; exact h) (fun _ e => by cases e) fun _ e => by cases e
    | glb n => cases h
theorem shaped_of {k : Nat} {e : PyData} (h : Sh k e) (hk : k ≤ 64) : SeqAt.shaped e = true := by
  unfold SeqAt.shaped
  rw [h.1, decide_eq_true (Nat.le_trans h.2 hk)]; rfl
/-- a list against the empty one -/
theorem eq_nil {S : Sto} {m n k : Nat} {xs : List D} (hm : seqAt S m = some xs) (hn : seqAt S n = some []) (hk : k ≤ 19) (hp : ∀ d ∈ xs, plB S k d = true) : eqE S (.ref m) (.ref n) = some xs.isEmpty := by
  have p1 : plB S (k + 1) (.ref m) = true := by
    show (match seqAt S m with
      | some xs => xs.all (plB S k)
      | none => false) = true
    rw [hm]
    exact List.all_eq_true.mpr hp
  obtain ⟨es, h1, h2, hl⟩ := mapO_all (f := toD S 19) (Pr := Sh k) fun x hx => toD_pl (hp x hx) hk
  have t1 : toD S deepN (.ref m) = some (.list es) := by
    show (match seqAt S m with
          | some xs => (mapO (toD S 19) xs).map PyData.list
          | none => none) = _
    rw [hm]
    show (mapO (toD S 19) xs).map PyData.list = _
    rw [h1]; rfl
  have t2 : toD S deepN (.ref n) = some (.list []) := by
    show (match seqAt S n with
          | some xs => (mapO (toD S 19) xs).map PyData.list
          | none => none) = _
    rw [hn]; rfl
  obtain ⟨h3, h4⟩ := shAll h2
  have s1 : SeqAt.shaped (.list es) = true := shaped_of (k := k + 1) ⟨by simp [PyData.canLay0, h3], by simp [PyData.depth]; omega⟩ (by omega)
  have s2 : SeqAt.shaped (.list []) = true := by decide
  unfold eqE
  rw [t1, t2]
  show (if SeqAt.shaped (.list es) && SeqAt.shaped (.list []) then some (PyData.eqv (.list es) (.list [])) else none) = _
  rw [s1, s2]
  show some (PyData.eqv (.list es) (.list [])) = _
  cases es with
  | nil =>
    have : xs = [] := List.eq_nil_of_length_eq_zero hl.symm
    subst this
    simp [PyData.eqv, PyData.eqvAll]
  | cons e es =>
    cases xs with
    | nil => cases hl
    | cons x xs => simp [PyData.eqv, PyData.eqvAll]

/-! ### wide numbers -/
theorem bits_wide {i : Int} (h : i.natAbs < 2 ^ 400) : Builtin.Int.intBits i ≤ 400 := by
  unfold Builtin.Int.intBits
  split
  · exact Nat.zero_le _
  · rename_i hi
    have : i.natAbs ≠ 0 := by
      intro e
      apply hi
      have : i = 0 := Int.natAbs_eq_zero.mp e
      rw [this]; rfl
    have := (Nat.log2_lt this (k := 400)).mpr h
    omega
theorem wide_mul {S : Sto} {i j : Int} (h1 : i.natAbs < 2 ^ 400) (h2 : j.natAbs < 2 ^ 400) : binE .mul (.int i) (.int j) S = .ok (.int (i * j)) S := by
  have b1 := bits_wide h1
  have b2 := bits_wide h2
  refine if_pos ?_
  unfold mulOk
  rw [decide_eq_true_eq]
  omega
theorem wide_div {S : Sto} {i j : Int} (h0 : 0 < j) (h : j.natAbs < 2 ^ 400) : binE .fdiv (.int i) (.int j) S = .ok (.int (i / j)) S := by
  have hj : j.natAbs ≠ 0 := by omega
  have hl := (Nat.log2_lt hj (k := 400)).mpr h
  have h1 : Builtin.divisionGoesByPylong i j = false := by
    unfold Builtin.divisionGoesByPylong
    have e : (j == 0) = false := by simp; omega
    simp only [e, Bool.false_eq_true, if_false]
    have : ¬ (j.natAbs.log2 / 30 + 1 > 300) := by omega
    simp [this]
  have h2 : divOk i j = true := by
    unfold divOk
    rw [h1]
    simp
    omega
  show (if divOk i j then Res.ok (D.int (i.fdiv j)) S else .no) = _
  rw [if_pos h2, Int.fdiv_eq_ediv_of_nonneg _ (by omega)]
end Mini
namespace K34
open PySem Mini
/-- is_whole -/
def b0 : Def := ⟨1, 1, [
    .ret (.and (.fn (.isi .int) [(.var 0)]) (.not (.fn (.isi .bool) [(.var 0)])))]⟩
/-- are_wholes -/
def b1 : Def := ⟨2, 3, [
    .ret (.and (.fn (.isi .tuple) [(.var 0)]) (.and (.cmp .eq (.fn .len [(.var 0)]) (.var 1)) (.fn .all [(.comp (.nm 2) (.val (.var 0)) [] (.call 0 [(.var 2)] none) [2])])))]⟩
/-- is_fraction -/
def b2 : Def := ⟨1, 1, [
    .ret (.and (.call 1 [(.var 0), (.con (.int 2))] none) (.and (.cmp .gt (.ix (.var 0) (.con (.int 1))) (.con (.int 0))) (.cmp .eq (.fn .gcd [(.ix (.var 0) (.con (.int 0))), (.ix (.var 0) (.con (.int 1)))]) (.con (.int 1)))))]⟩
/-- is_amount -/
def b3 : Def := ⟨1, 1, [
    .ret (.and (.call 2 [(.var 0)] none) (.cmp .gt (.ix (.var 0) (.con (.int 0))) (.con (.int 0))))]⟩
/-- is_pace -/
def b4 : Def := ⟨1, 1, [
    .ret (.and (.call 2 [(.var 0)] none) (.cmp .ge (.ix (.var 0) (.con (.int 0))) (.con (.int 0))))]⟩
/-- sign_of -/
def b5 : Def := ⟨1, 1, [
    .ret (.ite (.cmp .gt (.var 0) (.con (.int 0))) (.con (.int 1)) (.ite (.cmp .lt (.var 0) (.con (.int 0))) (.neg (.con (.int 1))) (.con (.int 0))))]⟩
/-- compare_fractions -/
def b6 : Def := ⟨2, 2, [
    .ret (.call 5 [(.bin .sub (.bin .mul (.ix (.var 0) (.con (.int 0))) (.ix (.var 1) (.con (.int 1)))) (.bin .mul (.ix (.var 1) (.con (.int 0))) (.ix (.var 0) (.con (.int 1)))))] none)]⟩
/-- are_discs -/
def b7 : Def := ⟨1, 2, [
    .ret (.and (.fn (.isi .tuple) [(.var 0)]) (.and (.chain .le .le (.con (.int 1)) (.fn .len [(.var 0)]) (.con (.int 8))) (.fn .all [(.comp (.nm 1) (.val (.var 0)) [] (.call 3 [(.var 1)] none) [1])])))]⟩
/-- is_line -/
def b8 : Def := ⟨1, 3, [
    .ite (.or (.not (.fn (.isi .tuple) [(.var 0)])) (.or (.cmp .ne (.fn .len [(.var 0)]) (.con (.int 2))) (.or (.not (.call 7 [(.ix (.var 0) (.con (.int 0)))] none)) (.not (.fn (.isi .tuple) [(.ix (.var 0) (.con (.int 1)))]))))) [
      .ret (.con (.bl false))] [],
    .asg (.nm 1) (.ix (.var 0) (.con (.int 1))),
    .ite (.or (.cmp .ne (.fn .len [(.var 1)]) (.bin .add (.fn .len [(.ix (.var 0) (.con (.int 0)))]) (.con (.int 1)))) (.or (.not (.call 4 [(.ix (.var 1) (.con (.int 0)))] none)) (.not (.call 4 [(.ix (.var 1) (.neg (.con (.int 1))))] none)))) [
      .ret (.con (.bl false))] [],
    .ret (.fn .all [(.comp (.nm 2) (.val (.sl (.var 1) (some (.con (.int 1))) (some (.neg (.con (.int 1)))))) [] (.call 3 [(.var 2)] none) [2])])]⟩
/-- check_line -/
def b9 : Def := ⟨1, 1, [
    .ite (.not (.call 8 [(.var 0)] none)) [
      .bad] []]⟩
/-- are_above -/
def b10 : Def := ⟨2, 4, [
    .ret (.fn .all [(.comp (.tp [(.nm 2), (.nm 3)]) (.zip (.var 0) (.var 1)) [] (.cmp .ge (.call 6 [(.var 2), (.var 3)] none) (.con (.int 0))) [2, 3])])]⟩
/-- is_slower -/
def b11 : Def := ⟨2, 2, [
    .ret (.and (.cmp .eq (.fn .len [(.ix (.var 0) (.con (.int 0)))]) (.fn .len [(.ix (.var 1) (.con (.int 0)))])) (.and (.call 10 [(.ix (.var 0) (.con (.int 0))), (.ix (.var 1) (.con (.int 0)))] none) (.call 10 [(.ix (.var 1) (.con (.int 1))), (.ix (.var 0) (.con (.int 1)))] none)))]⟩
/-- is_box -/
def b12 : Def := ⟨1, 1, [
    .ite (.or (.not (.fn (.isi .tuple) [(.var 0)])) (.or (.cmp .ne (.fn .len [(.var 0)]) (.con (.int 2))) (.or (.not (.call 8 [(.ix (.var 0) (.con (.int 0)))] none)) (.not (.call 8 [(.ix (.var 0) (.con (.int 1)))] none))))) [
      .ret (.con (.bl false))] [],
    .ret (.call 11 [(.ix (.var 0) (.con (.int 0))), (.ix (.var 0) (.con (.int 1)))] none)]⟩
/-- check_box -/
def b13 : Def := ⟨1, 1, [
    .ite (.not (.call 12 [(.var 0)] none)) [
      .bad] []]⟩
/-- is_in_box -/
def b14 : Def := ⟨2, 2, [
    .ex (.call 13 [(.var 0)] none),
    .ex (.call 9 [(.var 1)] none),
    .ret (.and (.call 11 [(.ix (.var 0) (.con (.int 0))), (.var 1)] none) (.call 11 [(.var 1), (.ix (.var 0) (.con (.int 1)))] none))]⟩
/-- _law_spool -/
def b15 : Def := ⟨2, 5, [
    .asg (.nm 2) (.bin .add (.con (.int 51287)) (.bin .mul (.con (.int 7919)) (.var 1))),
    .for_ (.nm 3) (.val (.sl (.var 0) none (some (.con (.int 63))))) [
      .asg (.nm 2) (.bin .mod (.fn .int [(.bin .add (.bin .add (.bin .mul (.var 2) (.con (.int 28657))) (.bin .mod (.fn .int [(.var 3)]) (.con (.int 1610612741)))) (.con (.int 41)))]) (.con (.int 2147483549)))],
    .asg (.nm 3) (.ite (.cmp .lt (.var 1) (.fn .len [(.var 0)])) (.fn .int [(.ix (.var 0) (.var 1))]) (.con (.int 0))),
    .asg (.nm 4) (.ite (.cmp .ge (.fn .abs [(.var 3)]) (.bin .pow (.con (.int 10)) (.con (.int 18)))) (.bin .fdiv (.fn .abs [(.var 3)]) (.con (.int 2))) (.con (.int 0))),
    .ret (.lst [(.var 4), (.bin .add (.var 2) (.bin .mul (.con (.int 17)) (.bin .mod (.fn .int [(.var 3)]) (.con (.int 120000007))))), (.con (.int 0))])]⟩
/-- _law_wind -/
def b16 : Def := ⟨2, 4, [
    .ite (.cmp .gt (.ix (.var 0) (.con (.int 0))) (.con (.int 0))) [
      .asg (.tp [(.ix (.var 0) (.con (.int 0))), (.nm 3)]) (.fn .divmod [(.ix (.var 0) (.con (.int 0))), (.var 1)]),
      .ret (.var 3)] [],
    .asg (.ix (.var 0) (.con (.int 2))) (.bin .add (.ix (.var 0) (.con (.int 2))) (.con (.int 1))),
    .asg (.nm 2) (.bin .mod (.fn .int [(.bin .add (.bin .add (.ix (.var 0) (.con (.int 1))) (.bin .mul (.con (.int 60293)) (.ix (.var 0) (.con (.int 2))))) (.con (.int 7)))]) (.con (.int 2147483549))),
    .asg (.ix (.var 0) (.con (.int 1))) (.bin .mod (.fn .int [(.bin .add (.bin .mul (.var 2) (.bin .add (.bin .mod (.fn .int [(.var 2)]) (.con (.int 5059))) (.con (.int 17417)))) (.bin .mul (.con (.int 19)) (.ix (.var 0) (.con (.int 2)))))]) (.con (.int 2147483549))),
    .ret (.bin .mod (.fn .int [(.bin .fdiv (.ix (.var 0) (.con (.int 1))) (.con (.int 127)))]) (.var 1))]⟩
/-- _law_any -/
def b17 : Def := ⟨2, 2, [
    .ret (.ix (.var 1) (.call 16 [(.var 0), (.fn .len [(.var 1)])] none))]⟩
/-- _law_measure -/
def b18 : Def := ⟨2, 2, [
    .par [0, 1] [(.fn .abs [(.var 0)]), (.fn .abs [(.var 1)])],
    .while_ (.cmp .gt (.var 1) (.con (.int 0))) [
      .par [0, 1] [(.var 1), (.bin .mod (.fn .int [(.var 0)]) (.var 1))]],
    .ret (.var 0)]⟩
/-- _law_frac -/
def b19 : Def := ⟨2, 3, [
    .asg (.nm 2) (.call 18 [(.var 0), (.var 1)] none),
    .ret (.ite (.cmp .gt (.var 1) (.con (.int 0))) (.tup [(.bin .fdiv (.var 0) (.var 2)), (.bin .fdiv (.var 1) (.var 2))]) (.tup [(.bin .sub (.con (.int 0)) (.bin .fdiv (.var 0) (.var 2))), (.bin .sub (.con (.int 0)) (.bin .fdiv (.var 1) (.var 2)))]))]⟩
/-- _law_sum -/
def b20 : Def := ⟨2, 2, [
    .ret (.call 19 [(.bin .add (.bin .mul (.ix (.var 0) (.con (.int 0))) (.ix (.var 1) (.con (.int 1)))) (.bin .mul (.ix (.var 1) (.con (.int 0))) (.ix (.var 0) (.con (.int 1))))), (.bin .mul (.ix (.var 0) (.con (.int 1))) (.ix (.var 1) (.con (.int 1))))] none)]⟩
/-- _law_gap -/
def b21 : Def := ⟨2, 2, [
    .ret (.call 19 [(.bin .sub (.bin .mul (.ix (.var 0) (.con (.int 0))) (.ix (.var 1) (.con (.int 1)))) (.bin .mul (.ix (.var 1) (.con (.int 0))) (.ix (.var 0) (.con (.int 1))))), (.bin .mul (.ix (.var 0) (.con (.int 1))) (.ix (.var 1) (.con (.int 1))))] none)]⟩
/-- _law_prod -/
def b22 : Def := ⟨2, 2, [
    .ret (.call 19 [(.bin .mul (.ix (.var 0) (.con (.int 0))) (.ix (.var 1) (.con (.int 0)))), (.bin .mul (.ix (.var 0) (.con (.int 1))) (.ix (.var 1) (.con (.int 1))))] none)]⟩
/-- _law_side -/
def b23 : Def := ⟨1, 1, [
    .ret (.bin .sub (.fn .int [(.cmp .gt (.var 0) (.con (.int 0)))]) (.fn .int [(.cmp .lt (.var 0) (.con (.int 0)))]))]⟩
/-- _law_beside -/
def b24 : Def := ⟨2, 2, [
    .ret (.call 23 [(.bin .sub (.bin .mul (.ix (.var 0) (.con (.int 0))) (.ix (.var 1) (.con (.int 1)))) (.bin .mul (.ix (.var 1) (.con (.int 0))) (.ix (.var 0) (.con (.int 1)))))] none)]⟩
/-- _law_is_frac -/
def b25 : Def := ⟨1, 2, [
    .ite (.or (.not (.fn (.isi .tuple) [(.var 0)])) (.cmp .ne (.fn .len [(.var 0)]) (.con (.int 2)))) [
      .ret (.con (.bl false))] [],
    .ite (.cmp .ne (.comp (.nm 1) (.val (.var 0)) [(.or (.not (.fn (.isi .int) [(.var 1)])) (.fn (.isi .bool) [(.var 1)]))] (.var 1) [1]) (.lst [])) [
      .ret (.con (.bl false))] [],
    .ret (.and (.cmp .gt (.ix (.var 0) (.con (.int 1))) (.con (.int 0))) (.cmp .eq (.call 18 [(.ix (.var 0) (.con (.int 0))), (.ix (.var 0) (.con (.int 1)))] none) (.con (.int 1))))]⟩
/-- _law_amount -/
def b26 : Def := ⟨1, 2, [
    .asg (.nm 1) (.call 17 [(.var 0), (.lst [(.con (.int 2)), (.con (.int 2)), (.con (.int 3)), (.con (.int 4)), (.con (.int 9))])] none),
    .ret (.call 19 [(.bin .add (.con (.int 1)) (.call 16 [(.var 0), (.var 1)] none)), (.bin .add (.con (.int 1)) (.call 16 [(.var 0), (.call 17 [(.var 0), (.lst [(.con (.int 1)), (.con (.int 1)), (.con (.int 2)), (.con (.int 3)), (.var 1)])] none)] none))] none)]⟩
/-- _law_end -/
def b27 : Def := ⟨1, 1, [
    .ret (.ite (.cmp .eq (.call 16 [(.var 0), (.con (.int 2))] none) (.con (.int 0))) (.tup [(.con (.int 0)), (.con (.int 1))]) (.call 26 [(.var 0)] none))]⟩
/-- _law_line -/
def b28 : Def := ⟨1, 5, [
    .asg (.nm 1) (.call 17 [(.var 0), (.lst [(.con (.int 1)), (.con (.int 2)), (.con (.int 2)), (.con (.int 2)), (.con (.int 3)), (.con (.int 3)), (.con (.int 3)), (.con (.int 3)), (.con (.int 4)), (.con (.int 4)), (.con (.int 5))])] none),
    .asg (.tp [(.nm 2), (.nm 3)]) (.tup [(.comp (.nm 4) (.rng1 (.var 1)) [] (.call 26 [(.var 0)] none) [4]), (.comp (.nm 4) (.rng1 (.bin .add (.var 1) (.con (.int 1)))) [] (.call 26 [(.var 0)] none) [4])]),
    .asg (.tp [(.ix (.var 3) (.con (.int 0))), (.ix (.var 3) (.var 1))]) (.tup [(.call 27 [(.var 0)] none), (.call 27 [(.var 0)] none)]),
    .ite (.cmp .eq (.call 16 [(.var 0), (.con (.int 4))] none) (.con (.int 0))) [
      .asg (.nm 2) (.comp (.nm 4) (.rng1 (.var 1)) [] (.ix (.var 2) (.fn .min [(.var 4), (.bin .sub (.bin .sub (.var 1) (.con (.int 1))) (.var 4))])) [4]),
      .asg (.nm 3) (.comp (.nm 4) (.rng1 (.bin .add (.var 1) (.con (.int 1)))) [] (.ix (.var 3) (.fn .min [(.var 4), (.bin .sub (.var 1) (.var 4))])) [4])] [],
    .ret (.tup [(.fn .tuple [(.var 2)]), (.fn .tuple [(.var 3)])])]⟩
/-- _law_slots -/
def b29 : Def := ⟨1, 3, [
    .asg (.nm 1) (.fn .len [(.ix (.var 0) (.con (.int 0)))]),
    .ret (.bin .add (.comp (.nm 2) (.rng1 (.var 1)) [] (.tup [(.con (.str "disc")), (.var 2)]) [2]) (.comp (.nm 2) (.rng1 (.bin .add (.var 1) (.con (.int 1)))) [] (.tup [(.con (.str "shaft")), (.var 2)]) [2]))]⟩
/-- _law_put -/
def b30 : Def := ⟨3, 5, [
    .par [3, 4] [(.fn .list [(.ix (.var 0) (.con (.int 0)))]), (.fn .list [(.ix (.var 0) (.con (.int 1)))])],
    .ite (.cmp .eq (.ix (.var 1) (.con (.int 0))) (.con (.str "disc"))) [
      .asg (.ix (.var 3) (.ix (.var 1) (.con (.int 1)))) (.var 2)] [
      .asg (.ix (.var 4) (.ix (.var 1) (.con (.int 1)))) (.var 2)],
    .ret (.tup [(.fn .tuple [(.var 3)]), (.fn .tuple [(.var 4)])])]⟩
/-- _law_held -/
def b31 : Def := ⟨2, 2, [
    .ret (.ite (.cmp .eq (.ix (.var 1) (.con (.int 0))) (.con (.str "disc"))) (.ix (.ix (.var 0) (.con (.int 0))) (.ix (.var 1) (.con (.int 1)))) (.ix (.ix (.var 0) (.con (.int 1))) (.ix (.var 1) (.con (.int 1)))))]⟩
/-- _law_laps -/
def b32 : Def := ⟨2, 2, [
    .ret (.lrg1 (.fn .max [(.con (.int 1)), (.fn .min [(.fn .len [(.var 0)]), (.var 1)])]))]⟩
/-- _law_pair_box -/
def b33 : Def := ⟨1, 8, [
    .asg (.nm 1) (.call 28 [(.var 0)] none),
    .par [3, 4] [(.var 1), (.fn .len [(.ix (.var 1) (.con (.int 0)))])],
    .for_ (.nm 2) (.val (.call 29 [(.var 1)] none)) [
      .par [6, 7] [(.call 16 [(.var 0), (.con (.int 3))] none), (.call 31 [(.var 1), (.var 2)] none)],
      .asg (.nm 5) (.call 17 [(.var 0), (.lst [(.tup [(.con (.int 2)), (.con (.int 1))]), (.tup [(.con (.int 3)), (.con (.int 2))]), (.tup [(.con (.int 5)), (.con (.int 4))]), (.tup [(.con (.int 4)), (.con (.int 1))])])] none),
      .ite (.cmp .eq (.var 6) (.con (.int 0))) [
        .asg (.nm 3) (.call 30 [(.var 3), (.var 2), (.call 22 [(.var 7), (.ite (.cmp .eq (.ix (.var 2) (.con (.int 0))) (.con (.str "disc"))) (.var 5) (.tup [(.ix (.var 5) (.con (.int 1))), (.ix (.var 5) (.con (.int 0)))]))] none)] none)] [],
      .ite (.and (.cmp .eq (.var 6) (.con (.int 1))) (.and (.cmp .eq (.ix (.var 2) (.con (.int 0))) (.con (.str "shaft"))) (.and (.cmp .isin (.ix (.var 2) (.con (.int 1))) (.lst [(.con (.int 0)), (.var 4)])) (.cmp .eq (.call 16 [(.var 0), (.con (.int 2))] none) (.con (.int 0)))))) [
        .asg (.nm 3) (.call 30 [(.var 3), (.var 2), (.tup [(.con (.int 0)), (.con (.int 1))])] none)] []],
    .ret (.tup [(.var 3), (.var 1)])]⟩
/-- _law_within -/
def b34 : Def := ⟨2, 7, [
    .asg (.nm 2) (.ix (.var 1) (.con (.int 0))),
    .for_ (.nm 3) (.val (.call 29 [(.var 2)] none)) [
      .par [5, 6] [(.call 31 [(.ix (.var 1) (.con (.int 0))), (.var 3)] none), (.call 31 [(.ix (.var 1) (.con (.int 1))), (.var 3)] none)],
      .asg (.nm 4) (.call 17 [(.var 0), (.lst [(.tup [(.con (.int 0)), (.con (.int 1))]), (.tup [(.con (.int 1)), (.con (.int 1))]), (.tup [(.con (.int 1)), (.con (.int 2))]), (.tup [(.con (.int 1)), (.con (.int 3))]), (.tup [(.con (.int 2)), (.con (.int 3))])])] none),
      .asg (.nm 2) (.call 30 [(.var 2), (.var 3), (.call 20 [(.var 5), (.call 22 [(.call 21 [(.var 6), (.var 5)] none), (.var 4)] none)] none)] none)],
    .ret (.var 2)]⟩
/-- _law_is_within -/
def b35 : Def := ⟨2, 6, [
    .ite (.cmp .ne (.fn .len [(.ix (.var 1) (.con (.int 0)))]) (.fn .len [(.ix (.ix (.var 0) (.con (.int 0))) (.con (.int 0)))])) [
      .ret (.con (.bl false))] [],
    .for_ (.nm 2) (.val (.call 29 [(.var 1)] none)) [
      .par [3, 4, 5] [(.call 31 [(.var 1), (.var 2)] none), (.call 31 [(.ix (.var 0) (.con (.int 0))), (.var 2)] none), (.call 31 [(.ix (.var 0) (.con (.int 1))), (.var 2)] none)],
      .ite (.cmp .gt (.bin .mul (.call 24 [(.var 3), (.var 4)] none) (.call 24 [(.var 3), (.var 5)] none)) (.con (.int 0))) [
        .ret (.con (.bl false))] []],
    .ret (.con (.bl true))]⟩
/-- _law_is_line -/
def b36 : Def := ⟨1, 3, [
    .ite (.or (.not (.fn (.isi .tuple) [(.var 0)])) (.or (.cmp .ne (.fn .len [(.var 0)]) (.con (.int 2))) (.not (.fn (.isi .tuple) [(.ix (.var 0) (.con (.int 0)))])))) [
      .ret (.con (.bl false))] [],
    .asg (.nm 1) (.fn .len [(.ix (.var 0) (.con (.int 0)))]),
    .ite (.or (.cmp .lt (.var 1) (.con (.int 1))) (.or (.cmp .gt (.var 1) (.con (.int 8))) (.or (.not (.fn (.isi .tuple) [(.ix (.var 0) (.con (.int 1)))])) (.cmp .ne (.fn .len [(.ix (.var 0) (.con (.int 1)))]) (.bin .add (.var 1) (.con (.int 1))))))) [
      .ret (.con (.bl false))] [],
    .ite (.cmp .ne (.comp (.nm 2) (.val (.bin .add (.ix (.var 0) (.con (.int 0))) (.ix (.var 0) (.con (.int 1))))) [(.or (.not (.call 25 [(.var 2)] none)) (.cmp .lt (.ix (.var 2) (.con (.int 0))) (.con (.int 0))))] (.var 2) [2]) (.lst [])) [
      .ret (.con (.bl false))] [],
    .ret (.cmp .eq (.comp (.nm 2) (.val (.bin .add (.ix (.var 0) (.con (.int 0))) (.sl (.ix (.var 0) (.con (.int 1))) (some (.con (.int 1))) (some (.var 1))))) [(.cmp .eq (.ix (.var 2) (.con (.int 0))) (.con (.int 0)))] (.var 2) [2]) (.lst []))]⟩
/-- _law_is_box -/
def b37 : Def := ⟨1, 3, [
    .ite (.or (.not (.fn (.isi .tuple) [(.var 0)])) (.or (.cmp .ne (.fn .len [(.var 0)]) (.con (.int 2))) (.or (.not (.call 36 [(.ix (.var 0) (.con (.int 0)))] none)) (.not (.call 36 [(.ix (.var 0) (.con (.int 1)))] none))))) [
      .ret (.con (.bl false))] [],
    .ite (.cmp .ne (.fn .len [(.ix (.ix (.var 0) (.con (.int 0))) (.con (.int 0)))]) (.fn .len [(.ix (.ix (.var 0) (.con (.int 1))) (.con (.int 0)))])) [
      .ret (.con (.bl false))] [],
    .for_ (.nm 1) (.val (.call 29 [(.ix (.var 0) (.con (.int 0)))] none)) [
      .asg (.nm 2) (.call 24 [(.call 31 [(.ix (.var 0) (.con (.int 0))), (.var 1)] none), (.call 31 [(.ix (.var 0) (.con (.int 1))), (.var 1)] none)] none),
      .ite (.or (.and (.cmp .lt (.var 2) (.con (.int 0))) (.cmp .eq (.ix (.var 1) (.con (.int 0))) (.con (.str "disc")))) (.and (.cmp .gt (.var 2) (.con (.int 0))) (.cmp .eq (.ix (.var 1) (.con (.int 0))) (.con (.str "shaft"))))) [
        .ret (.con (.bl false))] []],
    .ret (.con (.bl true))]⟩
/-- _law_odd -/
def b38 : Def := ⟨1, 2, [
    .asg (.nm 1) (.lst [(.con .non), (.con (.bl true)), (.con (.bl false)), (.con (.int 0)), (.neg (.con (.int 1))), (.con (.int 7)), (.con (.str "")), (.con (.str "disc")), (.tup []), (.tup [(.con (.int 1))]), (.tup [(.con (.int 1)), (.con (.int 1))]), (.tup [(.con (.int 2)), (.con (.int 4))]), (.tup [(.con (.int 0)), (.con (.int 1))]), (.tup [(.con (.int 1)), (.con (.int 0))]), (.tup [(.neg (.con (.int 1))), (.con (.int 2))]), (.lst [(.con (.int 1)), (.con (.int 1))]), .dct]),
    .asg (.nm 1) (.bin .add (.var 1) (.lst [(.tup [(.tup [(.con (.int 1)), (.con (.int 1))])]), (.tup [(.tup [(.tup [(.con (.int 1)), (.con (.int 1))])]), (.tup [(.tup [(.con (.int 0)), (.con (.int 1))]), (.tup [(.con (.int 1)), (.con (.int 1))])])]), (.bin .pow (.con (.int 10)) (.con (.int 30))), (.tup [(.con (.bl true)), (.con (.int 1))]), (.tup [(.con (.str "disc")), (.con (.int 0))]), (.tup [(.con (.str "shaft")), (.con (.bl true))]), .dct])),
    .ret (.call 17 [(.var 0), (.bin .add (.var 1) (.lst [(.tup [(.tup []), (.tup [(.tup [(.con (.int 1)), (.con (.int 1))])])]), (.tup [(.tup [(.tup [(.con (.int 1)), (.con (.int 1))])]), (.tup [(.tup [(.con (.int 0)), (.con (.int 1))])])]), (.con (.str "1/1 | 0/1 1/1"))]))] none)]⟩
/-- _law_warped -/
def b39 : Def := ⟨2, 5, [
    .par [3, 4] [(.call 16 [(.var 0), (.con (.int 6))] none), (.call 16 [(.var 0), (.fn .max [(.con (.int 1)), (.fn .len [(.var 1)])])] none)],
    .asg (.nm 2) (.call 17 [(.var 0), (.lst [(.con .non), (.con (.bl true)), (.con (.int 0)), (.neg (.con (.int 1))), (.con (.str "1")), (.tup [(.con (.int 0)), (.con (.int 1))]), (.tup [(.con (.int 1)), (.con (.int 1))]), (.tup [(.con (.int 2)), (.con (.int 2))]), (.tup [(.neg (.con (.int 1))), (.con (.int 3))]), (.tup []), (.lst [(.con (.int 1)), (.con (.int 1))])])] none),
    .ite (.cmp .eq (.var 3) (.con (.int 0))) [
      .ret (.fn .list [(.var 1)])] [],
    .ite (.cmp .eq (.var 3) (.con (.int 1))) [
      .ret (.bin .add (.sl (.var 1) none (some (.var 4))) (.sl (.var 1) (some (.bin .add (.var 4) (.con (.int 1)))) none))] [],
    .ite (.or (.cmp .eq (.var 3) (.con (.int 2))) (.cmp .eq (.fn .len [(.var 1)]) (.con (.int 0)))) [
      .ret (.bin .add (.bin .add (.sl (.var 1) none (some (.var 4))) (.tup [(.var 2)])) (.sl (.var 1) (some (.var 4)) none))] [],
    .ite (.and (.cmp .lt (.var 3) (.con (.int 5))) (.and (.fn (.isi .tuple) [(.ix (.var 1) (.var 4))]) (.cmp .gt (.fn .len [(.ix (.var 1) (.var 4))]) (.con (.int 0))))) [
      .ret (.bin .add (.bin .add (.sl (.var 1) none (some (.var 4))) (.tup [(.call 39 [(.var 0), (.ix (.var 1) (.var 4))] none)])) (.sl (.var 1) (some (.bin .add (.var 4) (.con (.int 1)))) none))] [],
    .ret (.bin .add (.bin .add (.sl (.var 1) none (some (.var 4))) (.tup [(.var 2)])) (.sl (.var 1) (some (.bin .add (.var 4) (.con (.int 1)))) none))]⟩
/-- _law_beyond -/
def b40 : Def := ⟨3, 5, [
    .asg (.nm 3) (.call 17 [(.var 0), (.call 29 [(.var 2)] none)] none),
    .asg (.nm 4) (.call 31 [(.ite (.cmp .eq (.ix (.var 3) (.con (.int 0))) (.con (.str "disc"))) (.ix (.var 1) (.con (.int 0))) (.ix (.var 1) (.con (.int 1)))), (.var 3)] none),
    .ret (.call 30 [(.var 2), (.var 3), (.call 20 [(.var 4), (.call 17 [(.var 0), (.lst [(.tup [(.con (.int 1)), (.con (.int 1))]), (.tup [(.con (.int 1)), (.con (.int 1000))]), (.tup [(.bin .pow (.con (.int 10)) (.con (.int 9))), (.con (.int 1))])])] none)] none)] none)]⟩
/-- _law_right -/
def b41 : Def := ⟨1, 6, [
    .asg (.nm 1) (.call 33 [(.var 0)] none),
    .asg (.nm 2) (.call 34 [(.var 0), (.var 1)] none),
    .for_ (.nm 3) (.val (.lst [(.var 2), (.ix (.var 1) (.con (.int 0))), (.ix (.var 1) (.con (.int 1))), (.call 40 [(.var 0), (.var 1), (.var 2)] none), (.call 28 [(.var 0)] none)])) [
      .asg (.nm 5) (.call 35 [(.var 1), (.var 3)] none),
      .ite (.cmp .ne (.fn .repr [(.lst [(.call 14 [(.var 1), (.var 3)] none), (.call 14 [(.var 3), (.var 1)] (some [1, 0]))])]) (.fn .repr [(.lst [(.var 5), (.var 5)])])) [
        .ret (.con (.bl false))] []],
    .asg (.nm 4) (.lst [(.var 1), (.tup [(.ix (.var 1) (.con (.int 1))), (.ix (.var 1) (.con (.int 0)))]), (.tup [(.var 2), (.ix (.var 1) (.con (.int 1)))]), (.tup [(.ix (.var 1) (.con (.int 0))), (.var 2)]), (.call 39 [(.var 0), (.var 1)] none), (.call 38 [(.var 0)] none)]),
    .for_ (.nm 3) (.val (.bin .add (.var 4) (.lst [(.tup [(.var 2), (.var 2)]), (.tup [(.var 2), (.call 28 [(.var 0)] none)]), (.ix (.var 1) (.con (.int 0)))]))) [
      .ite (.cmp .ne (.fn .repr [(.lst [(.call 12 [(.var 3)] none), (.call 12 [(.var 3)] (some [0]))])]) (.fn .repr [(.bin .mul (.lst [(.call 37 [(.var 3)] none)]) (.con (.int 2)))])) [
        .ret (.con (.bl false))] []],
    .asg (.nm 4) (.lst [(.var 2), (.call 39 [(.var 0), (.var 2)] none), (.call 38 [(.var 0)] none)]),
    .ret (.cmp .eq (.fn .repr [(.comp (.nm 3) (.val (.var 4)) [] (.call 8 [(.var 3)] none) [3])]) (.fn .repr [(.comp (.nm 3) (.val (.var 4)) [] (.call 36 [(.var 3)] none) [3])]))]⟩
/-- law -/
def b42 : Def := ⟨1, 2, [
    .ret (.fn .all [(.comp (.nm 1) (.val (.call 32 [(.var 0), (.con (.int 4))] none)) [] (.call 41 [(.call 15 [(.var 0), (.var 1)] none)] none) [1])])]⟩
def prog : Txt := ⟨([b0, b1, b2, b3, b4, b5, b6, b7, b8, b9, b10, b11, b12, b13, b14, b15, b16, b17, b18, b19] : List Def) ++ ([b20, b21, b22, b23, b24, b25, b26, b27, b28, b29, b30, b31, b32, b33, b34, b35, b36, b37, b38, b39] : List Def) ++ ([b40, b41, b42] : List Def), []⟩
def fuelN : Nat := 1000000000000000000000000000000
abbrev P (n : Nat) : Pg := pgN prog fuelN n
theorem cP (m i : Nat) (d : Def) (h : prog.defs[i]? = some d) (ds : List D) (S : Sto) : (P (m + 1)).call i ds S = runD (P m) d ds S := by
  show (match prog.defs[i]? with
    | some d => runD (P m) d ds S
    | none => .no) = _
  rw [h]
def isWhole : D → Bool
  | .int _ => true
  | _ => false
def areWholes (k : Int) : D → Bool
  | .tup xs => decide ((xs.length : Int) = k) && xs.all isWhole
  | _ => false
def isFraction : D → Bool
  | .tup [.int a, .int b] => decide (0 < b) && decide (((Nat.gcd a.natAbs b.natAbs : Nat) : Int) = 1)
  | _ => false
def isAmount : D → Bool
  | .tup [.int a, .int b] => isFraction (.tup [.int a, .int b]) && decide (0 < a)
  | _ => false
def isPace : D → Bool
  | .tup [.int a, .int b] => isFraction (.tup [.int a, .int b]) && decide (0 ≤ a)
  | _ => false
theorem up {n k : Nat} (h : k + 1 ≤ n) : ∃ m, n = m + 1 ∧ k ≤ m := ⟨n - 1, by omega, by omega⟩
theorem t_is_whole {n : Nat} (hn : 1 ≤ n) {d : D} {S : Sto} (h : okD S d = true) : wp ((P n).call 0 [d] S) fun r S' => r = .bl (isWhole d) ∧ Ext S S' := by
  obtain ⟨m, rfl, hm⟩ := up hn
  rw [cP m 0 b0 rfl]
  refine wp_run rfl ?_
  show wp (evSs (P m) b0.body [some d] S) _
  simp only [b0, wp_sC, wp_ret, wp_and_, wp_not, wp_fn, wp_cons, wp_nil, wp_var, fl_rt, ed_rt, List.getElem?_cons_zero, Option.some.injEq, exists_eq_left', fn_isi, wp_map, isi_int h, isi_bool h, truth]
  cases d <;> simp [isIntD, isBlD, isWhole, Ext.refl, truth, wp_opt]
theorem fuelBig {n m : Nat} (h : n ≤ 1000) : n < (P m).fuel := by
  have : (P m).fuel = 1000000000000000000000000000000 := by
    cases m with
    | zero => rfl
    | succ m => induction m with
      | zero => rfl
      | succ m ih => exact ih
  omega
theorem fuelBig2 {n m : Nat} (h : n < 1000000000000000000000000000000) : n < (P m).fuel := by
  have : (P m).fuel = 1000000000000000000000000000000 := by
    cases m with
    | zero => rfl
    | succ m => induction m with
      | zero => rfl
      | succ m ih => exact ih
  omega
theorem t_are_wholes {n : Nat} (hn : 2 ≤ n) {d : D} {k : Int} {S : Sto} (h : okD S d = true) : wp ((P n).call 1 [d, .int k] S) fun r S' => r = .bl (areWholes k d) ∧ Ext S S' := by
  obtain ⟨m, rfl, hm⟩ := up hn
  rw [cP m 1 b1 rfl]
  refine wp_run rfl ?_
  show wp (evSs (P m) b1.body [some d, some (.int k), none] S) _
  simp only [b1, wp_sC, wp_ret, wp_and_, wp_fn, wp_cmp, wp_cons, wp_nil, wp_var, fl_rt, ed_rt, List.getElem?_cons_zero, List.getElem?_cons_succ, Option.some.injEq, exists_eq_left', fn_isi, wp_map, isi_tup h, truth]
  cases d with
  | tup xs =>
    obtain ⟨h1, h2⟩ := okT h
    simp only [isTupD, if_true, fn_len, wp_ok, cmpE, eq_int, Option.some.injEq, exists_eq_left']
    by_cases hk : (xs.length : Int) = k
    · simp only [hk, decide_true, if_true]
      refine all_comp (g := isWhole) ?_ (fuelBig h1) h1 (it_tup ?_) (fun d hd S' e => t_is_whole hm (okD_ge e.ge (h2 d hd))) ?_
      · simp
      · simp only [wp_var, List.getElem?_cons_zero, Option.some.injEq, exists_eq_left', true_and]
        exact .refl
      · exact fun S' e => ⟨by simp [areWholes, hk], e⟩
    · simp only [hk, decide_false, Bool.false_eq_true, if_false]
      exact ⟨by simp [areWholes, hk], .refl⟩
  | _ => simp [isTupD, areWholes, Ext.refl]
theorem aw2 {d : D} (h : areWholes 2 d = true) : ∃ a b, d = .tup [.int a, .int b] := by
  cases d with
  | tup xs =>
    have h : (decide ((xs.length : Int) = 2) && xs.all isWhole) = true := h
    rw [Bool.and_eq_true, decide_eq_true_eq] at h
    match xs, h.1 with
    | [x, y], _ =>
      have := h.2
      simp only [List.all_cons, List.all_nil, Bool.and_true, Bool.and_eq_true] at this
      cases x with
      | int a =>
        cases y with
        | int b => exact ⟨_, _, rfl⟩
        | _ => exact absurd this.2 (by simp [isWhole])
      | _ => exact absurd this.1 (by simp [isWhole])
  | _ => cases h
theorem fr_no {d : D} (h : areWholes 2 d = false) : isFraction d = false := by
  cases hf : isFraction d with
  | false => rfl
  | true =>
    unfold isFraction at hf
    split at hf
    · exact absurd h (by simp [areWholes, isWhole])
    · cases hf
theorem ix0 {S : Sto} {a b : D} : ixE S (.tup [a, b]) (.int 0) = some a := rfl
theorem ix1 {S : Sto} {a b : D} : ixE S (.tup [a, b]) (.int 1) = some b := rfl
theorem t_is_fraction {n : Nat} (hn : 3 ≤ n) {d : D} {S : Sto} (h : okD S d = true) : wp ((P n).call 2 [d] S) fun r S' => r = .bl (isFraction d) ∧ Ext S S' := by
  obtain ⟨m, rfl, hm⟩ := up hn
  rw [cP m 2 b2 rfl]
  refine wp_run rfl ?_
  show wp (evSs (P m) b2.body [some d] S) _
  simp only [b2, wp_sC, wp_ret, wp_and_, wp_cmp, wp_call, wp_fn, wp_ix, wp_cons, wp_nil, wp_con, wp_var, fl_rt, ed_rt, List.getElem?_cons_zero, Option.some.injEq, exists_eq_left']
  refine wp_mono (t_are_wholes hm h) fun r S' ⟨er, e⟩ => ?_
  subst er
  simp only [truth, Option.some.injEq, exists_eq_left']
  cases hw : areWholes 2 d with
  | false =>
    simp only [Bool.false_eq_true, if_false]
    exact ⟨by rw [fr_no hw], e⟩
  | true =>
    obtain ⟨a, b, rfl⟩ := aw2 hw
    simp only [if_true, ix0, ix1, cmpE, Option.some.injEq, exists_eq_left', fn_gcd, wp_ok, eq_int, truth]
    by_cases hb : 0 < b
    · simp only [hb, decide_true, if_true]
      exact ⟨by simp [isFraction, hb], e⟩
    · simp only [hb, decide_false, Bool.false_eq_true, if_false]
      exact ⟨by simp [isFraction, hb], e⟩
theorem fr_yes {d : D} (h : isFraction d = true) : ∃ a b, d = .tup [.int a, .int b] := by
  unfold isFraction at h
  split at h
  · exact ⟨_, _, rfl⟩
  · cases h
theorem t_is_amount {n : Nat} (hn : 4 ≤ n) {d : D} {S : Sto} (h : okD S d = true) : wp ((P n).call 3 [d] S) fun r S' => r = .bl (isAmount d) ∧ Ext S S' := by
  obtain ⟨m, rfl, hm⟩ := up hn
  rw [cP m 3 b3 rfl]
  refine wp_run rfl ?_
  show wp (evSs (P m) b3.body [some d] S) _
  simp only [b3, wp_sC, wp_ret, wp_and_, wp_cmp, wp_call, wp_fn, wp_ix, wp_cons, wp_nil, wp_con, wp_var, fl_rt, ed_rt, List.getElem?_cons_zero, Option.some.injEq, exists_eq_left']
  refine wp_mono (t_is_fraction hm h) fun r S' ⟨er, e⟩ => ?_
  subst er
  simp only [truth, Option.some.injEq, exists_eq_left']
  cases hw : isFraction d with
  | false =>
    simp only [Bool.false_eq_true, if_false]
    refine ⟨?_, e⟩
    congr 1
    unfold isAmount
    split
    · rw [hw]; rfl
    · rfl
  | true =>
    obtain ⟨a, b, rfl⟩ := fr_yes hw
    simp only [if_true, ix0, cmpE, Option.some.injEq, exists_eq_left']
    exact ⟨by simp only [isAmount, hw, Bool.true_and], e⟩
theorem t_is_pace {n : Nat} (hn : 4 ≤ n) {d : D} {S : Sto} (h : okD S d = true) : wp ((P n).call 4 [d] S) fun r S' => r = .bl (isPace d) ∧ Ext S S' := by
  obtain ⟨m, rfl, hm⟩ := up hn
  rw [cP m 4 b4 rfl]
  refine wp_run rfl ?_
  show wp (evSs (P m) b4.body [some d] S) _
  simp only [b4, wp_sC, wp_ret, wp_and_, wp_cmp, wp_call, wp_fn, wp_ix, wp_cons, wp_nil, wp_con, wp_var, fl_rt, ed_rt, List.getElem?_cons_zero, Option.some.injEq, exists_eq_left']
  refine wp_mono (t_is_fraction hm h) fun r S' ⟨er, e⟩ => ?_
  subst er
  simp only [truth, Option.some.injEq, exists_eq_left']
  cases hw : isFraction d with
  | false =>
    simp only [Bool.false_eq_true, if_false]
    refine ⟨?_, e⟩
    congr 1
    unfold isPace
    split
    · rw [hw]; rfl
    · rfl
  | true =>
    obtain ⟨a, b, rfl⟩ := fr_yes hw
    simp only [if_true, ix0, cmpE, Option.some.injEq, exists_eq_left']
    exact ⟨by simp only [isPace, hw, Bool.true_and], e⟩
/-- one to eight amounts -/
def areDiscs : D → Bool
  | .tup xs => decide (1 ≤ xs.length) && decide (xs.length ≤ 8) && xs.all isAmount
  | _ => false
theorem t_are_discs {n : Nat} (hn : 5 ≤ n) {d : D} {S : Sto} (h : okD S d = true) : wp ((P n).call 7 [d] S) fun r S' => r = .bl (areDiscs d) ∧ Ext S S' := by
  obtain ⟨m, rfl, hm⟩ := up hn
  rw [cP m 7 b7 rfl]
  refine wp_run rfl ?_
  show wp (evSs (P m) b7.body [some d, none] S) _
  simp only [b7, wp_sC, wp_ret, wp_and_, wp_fn, wp_chain, wp_cons, wp_nil, wp_con, wp_var, fl_rt, ed_rt, List.getElem?_cons_zero, List.getElem?_cons_succ, Option.some.injEq, exists_eq_left', fn_isi, wp_map, isi_tup h, truth]
  cases d with
  | tup xs =>
    obtain ⟨h1, h2⟩ := okT h
    simp only [isTupD, if_true, fn_len, wp_ok, cmpE, Option.some.injEq, exists_eq_left']
    by_cases hk : (1 : Int) ≤ (xs.length : Int)
    · simp only [hk, decide_true, if_true]
      by_cases hk2 : (xs.length : Int) ≤ 8
      · simp only [hk2, decide_true, if_true, truth, Option.some.injEq, exists_eq_left']
        refine all_comp (g := isAmount) ?_ (fuelBig h1) h1 (it_tup ?_) (fun d hd S' e => t_is_amount hm (okD_ge e.ge (h2 d hd))) ?_
        · simp
        · simp only [wp_var, List.getElem?_cons_zero, Option.some.injEq, exists_eq_left', true_and]
          exact .refl
        · have a1 : 1 ≤ xs.length := by omega
          have a2 : xs.length ≤ 8 := by omega
          exact fun S' e => ⟨by simp [areDiscs, a1, a2], e⟩
      · simp only [hk2, decide_false, Bool.false_eq_true, if_false, truth, Option.some.injEq, exists_eq_left']
        have a2 : ¬ xs.length ≤ 8 := by omega
        exact ⟨by simp [areDiscs, a2], .refl⟩
    · simp only [hk, decide_false, Bool.false_eq_true, if_false, truth, Option.some.injEq, exists_eq_left']
      have a1 : ¬ 1 ≤ xs.length := by omega
      exact ⟨by simp [areDiscs, a1], .refl⟩
  | _ => simp [isTupD, areDiscs, Ext.refl, truth]
def lenD : D → Nat
  | .tup xs => xs.length
  | _ => 0
/-- the ends and the inner ones -/
def areShafts (k : Nat) : D → Bool
  | .tup ss => decide (ss.length = k + 1) && (match ss[0]? with | some d => isPace d | none => false) && (match ss[ss.length - 1]? with | some d => isPace d | none => false) && (cutD ss (some 1) (some (-1))).all isAmount
  | _ => false
def isLine : D → Bool
  | .tup [a, b] => areDiscs a && areShafts (lenD a) b
  | _ => false
theorem line_no {xs : List D} (h : xs.length ≠ 2) : isLine (.tup xs) = false := by
  match xs, h with
  | [], _ => rfl
  | [_], _ => rfl
  | [_, _], h => exact absurd rfl h
  | _ :: _ :: _ :: _, _ => rfl
theorem discs_tup {d : D} (h : areDiscs d = true) : ∃ xs, d = .tup xs ∧ 1 ≤ xs.length ∧ xs.length ≤ 8 := by
  cases d with
  | tup xs =>
    have h : (decide (1 ≤ xs.length) && decide (xs.length ≤ 8) && xs.all isAmount) = true := h
    rw [Bool.and_eq_true, Bool.and_eq_true, decide_eq_true_eq, decide_eq_true_eq] at h
    exact ⟨xs, rfl, h.1.1, h.1.2⟩
  | _ => cases h
theorem ixT {S : Sto} {xs : List D} {i : Int} : ixE S (.tup xs) (.int i) = L2.atI xs i := rfl
theorem line_false {a b : D} (h : areDiscs a = false) : isLine (.tup [a, b]) = false := by
  show (areDiscs a && _) = false
  rw [h]; rfl
theorem t_is_line {n : Nat} (hn : 6 ≤ n) {d : D} {S : Sto} (h : okD S d = true) : wp ((P n).call 8 [d] S) fun r S' => r = .bl (isLine d) ∧ Ext S S' := by
  obtain ⟨m, rfl, hm⟩ := up hn
  rw [cP m 8 b8 rfl]
  refine wp_run rfl ?_
  show wp (evSs (P m) b8.body [some d, none, none] S) _
  simp only [b8, wp_sC, wp_sif, wp_or_, wp_not, wp_fn, wp_cons, wp_nil, wp_var, List.getElem?_cons_zero, List.getElem?_cons_succ, Option.some.injEq, exists_eq_left', fn_isi, wp_map, isi_tup h, truth]
  cases d with
  | tup xs =>
    obtain ⟨h1, h2⟩ := okT h
    simp only [isTupD, Bool.not_true, Bool.false_eq_true, if_false, wp_cmp, wp_fn, wp_cons, wp_nil, wp_con, wp_var, List.getElem?_cons_zero, Option.some.injEq, exists_eq_left', fn_len, wp_ok, cmpE, eq_int, Option.map_some, truth]
    by_cases h2l : (xs.length : Int) = 2
    · have : xs.length = 2 := by omega
      match xs, this with
      | [a, b], _ =>
        have oa : okD S a = true := h2 a (by simp)
        have ob : okD S b = true := h2 b (by simp)
        simp only [List.length_cons, List.length_nil, Nat.reduceAdd, Int.cast_ofNat_Int, decide_true, Bool.not_true, Bool.false_eq_true, if_false, wp_call, wp_ix, wp_cons, wp_nil, wp_con, wp_var, List.getElem?_cons_zero, Option.some.injEq, exists_eq_left', ix0]
        refine wp_mono (t_are_discs hm oa) fun r S1 ⟨er, e1⟩ => ?_
        subst er
        simp only [truth, Option.some.injEq, exists_eq_left']
        have ob1 := okD_ge e1.ge ob
        cases hA : areDiscs a with
        | false =>
          simp only [Bool.not_false, if_true, wp_sC, wp_ret, wp_con, fl_rt, ed_rt]
          exact ⟨by rw [line_false hA], e1⟩
        | true =>
          simp only [Bool.not_true, Bool.false_eq_true, if_false, ix1, Option.some.injEq, exists_eq_left', isi_tup ob1]
          cases b with
          | tup ss =>
            obtain ⟨l1, l2⟩ := okT ob1
            obtain ⟨ws, rfl, w1, w2⟩ := discs_tup hA
            simp only [isTupD, Bool.not_true, Bool.false_eq_true, if_false, wp_sN, fl_nx, wp_sC, wp_asg, wp_ix, wp_con, wp_var, List.getElem?_cons_zero, List.getElem?_cons_succ, Option.some.injEq, exists_eq_left', ix0, ix1, wp_gn, List.set_cons_succ, List.set_cons_zero, wp_sif, wp_or_, wp_cmp, wp_fn, wp_cons, wp_nil, wp_bin, binE, addE,
              fn_len, wp_ok, cmpE, eq_int, Option.map_some, truth]
            by_cases hl : (ss.length : Int) = (ws.length : Int) + 1
            · have hl' : ss.length = ws.length + 1 := by omega
              simp only [hl, decide_true, Bool.not_true, Bool.false_eq_true, if_false, wp_not, wp_call, wp_cons, wp_nil, wp_ix, wp_con, wp_neg, wp_var, List.getElem?_cons_zero, List.getElem?_cons_succ, Option.some.injEq, exists_eq_left', ixT, negE, wp_ok]
              have g0 : ss[0]? = some (ss[0]'(by omega)) := List.getElem?_eq_getElem (by omega)
              have g1 : ss[ss.length - 1]? = some (ss[ss.length - 1]'(by omega)) := List.getElem?_eq_getElem (by omega)
              have a0 : L2.atI ss 0 = some (ss[0]'(by omega)) := (atI_n (k := 0) (by omega)).trans g0
              have a1 : L2.atI ss (-1) = some (ss[ss.length - 1]'(by omega)) := (atI_m1 (by omega)).trans g1
              have o0 := l2 _ (List.mem_of_getElem? g0)
              have o1 := l2 _ (List.mem_of_getElem? g1)
              have fin : isLine (.tup [.tup ws, .tup ss]) = (isPace (ss[0]'(by omega)) && isPace (ss[ss.length - 1]'(by omega)) && (cutD ss (some 1) (some (-1))).all isAmount) := by
                show (areDiscs (.tup ws) && (decide (ss.length = ws.length + 1) && (match ss[0]? with | some d => isPace d | none => false) && (match ss[ss.length - 1]? with | some d => isPace d | none => false) && (cutD ss (some 1) (some (-1))).all isAmount)) = _
                rw [hA, g0, g1, decide_eq_true hl']
                simp only [Bool.true_and]
              simp only [a0, a1, Option.some.injEq, exists_eq_left']
              refine wp_mono (t_is_pace (by omega) o0) fun r S2 ⟨er, e2⟩ => ?_
              subst er
              simp only [truth, Option.some.injEq, exists_eq_left']
              cases hp : isPace (ss[0]'(by omega)) with
              | false =>
                simp only [Bool.not_false, if_true, wp_sC, wp_ret, wp_con, fl_rt, ed_rt]
                exact ⟨by rw [fin, hp]; rfl, e1.trans e2⟩
              | true =>
                simp only [Bool.not_true, Bool.false_eq_true, if_false]
                refine wp_mono (t_is_pace (by omega) (okD_ge e2.ge o1)) fun r S3 ⟨er, e3⟩ => ?_
                subst er
                simp only [truth, Option.some.injEq, exists_eq_left']
                cases hp2 : isPace (ss[ss.length - 1]'(by omega)) with
                | false =>
                  simp only [Bool.not_false, if_true, wp_sC, wp_ret, wp_con, fl_rt, ed_rt]
                  exact ⟨by rw [fin, hp, hp2]; rfl, (e1.trans e2).trans e3⟩
                | true =>
                  simp only [Bool.not_true, Bool.false_eq_true, if_false, wp_sN, fl_nx, wp_sC, wp_ret, wp_fn, wp_cons, wp_nil, fl_rt, ed_rt]
                  have sub : ∀ d ∈ cutD ss (some 1) (some (-1)), d ∈ ss := fun d hd => by
                    rw [cut_in] at hd
                    exact List.mem_of_mem_drop (List.mem_of_mem_take hd)
                  have ln : (cutD ss (some 1) (some (-1))).length ≤ 1000 := by
                    rw [cut_in, List.length_take, List.length_drop]
                    omega
                  refine all_comp (g := isAmount) ?_ (fuelBig ln) ln (it_tup ?_) (fun d hd S' e => t_is_amount (by omega) (okD_ge ((e2.trans e3).trans e).ge (l2 d (sub d hd)))) ?_
                  · simp
                  · simp only [wp_sl, wp_oS, wp_neg, wp_con, wp_var, List.getElem?_cons_zero, List.getElem?_cons_succ, Option.some.injEq, exists_eq_left', negE, wp_ok, partI, slE, true_and]
                    exact .refl
                  · exact fun S' e => ⟨by rw [fin, hp, hp2]; rfl, ((e1.trans e2).trans e3).trans e⟩
            · have hl' : ¬ ss.length = ws.length + 1 := by omega
              simp only [hl, decide_false, Bool.not_false, if_true, wp_sC, wp_ret, wp_con, fl_rt, ed_rt]
              refine ⟨?_, e1⟩
              congr 1
              show false = (areDiscs (.tup ws) && (decide (ss.length = ws.length + 1) && _ && _ && _))
              rw [decide_eq_false hl']
              simp
          | _ =>
            simp only [isTupD, Bool.not_false, if_true, wp_sC, wp_ret, wp_con, fl_rt, ed_rt]
            refine ⟨?_, e1⟩
            show _ = D.bl (areDiscs a && false)
            rw [Bool.and_false]
      | [], h | [_], h | _ :: _ :: _ :: _, h => simp at h
    · have : xs.length ≠ 2 := by omega
      simp only [h2l, decide_false, Bool.not_false, if_true, wp_sC, wp_ret, wp_con, fl_rt, ed_rt]
      exact ⟨by rw [line_no this], .refl⟩
  | _ => simp [isTupD, isLine, Ext.refl, wp_sC, wp_ret, wp_con, fl_rt, ed_rt, truth]
end K34
namespace K34
open PySem Mini
/-! fractions, plainly -/
def num : D → Int
  | .tup [.int x, .int _] => x
  | _ => 0
def den : D → Int
  | .tup [.int _, .int y] => y
  | _ => 1
structure Fq (B : Int) (d : D) : Prop where
  eq : d = .tup [.int (num d), .int (den d)]
  lo : -B ≤ num d
  hi : num d ≤ B
  pos : 1 ≤ den d
  dhi : den d ≤ B
  red : Nat.gcd (num d).natAbs (den d).natAbs = 1
theorem Fq.mono {A B : Int} {d : D} (h : Fq A d) (hb : A ≤ B) : Fq B d := ⟨h.eq, by have := h.lo; omega, by have := h.hi; omega, h.pos, by have := h.dhi; omega, h.red⟩
def frD (n m : Int) : D := .tup [.int (n / ((Nat.gcd n.natAbs m.natAbs : Nat) : Int)), .int (m / ((Nat.gcd n.natAbs m.natAbs : Nat) : Int))]
theorem frD_ex {n m : Int} (hm : 1 ≤ m) : ∃ g a b : Int, 1 ≤ g ∧ n = g * a ∧ m = g * b ∧ 1 ≤ b ∧ g = ((Nat.gcd n.natAbs m.natAbs : Nat) : Int) ∧ frD n m = .tup [.int a, .int b] ∧ Nat.gcd a.natAbs b.natAbs = 1 := by
  have g0 : 0 < Nat.gcd n.natAbs m.natAbs := Nat.gcd_pos_of_pos_right _ (by omega)
  obtain ⟨a, ha⟩ : ((Nat.gcd n.natAbs m.natAbs : Nat) : Int) ∣ n := Int.ofNat_dvd_left.mpr (Nat.gcd_dvd_left _ _)
  obtain ⟨b, hb⟩ : ((Nat.gcd n.natAbs m.natAbs : Nat) : Int) ∣ m := Int.ofNat_dvd_left.mpr (Nat.gcd_dvd_right _ _)
  have gi : (0 : Int) < ((Nat.gcd n.natAbs m.natAbs : Nat) : Int) := by omega
  have e1 : n / ((Nat.gcd n.natAbs m.natAbs : Nat) : Int) = a := by
    have := Int.mul_ediv_cancel_left a (Int.ne_of_gt gi)
    rw [← ha] at this
    exact this
  have e2 : m / ((Nat.gcd n.natAbs m.natAbs : Nat) : Int) = b := by
    have := Int.mul_ediv_cancel_left b (Int.ne_of_gt gi)
    rw [← hb] at this
    exact this
  have b1 : 1 ≤ b := by
    rcases (show 0 < b ∨ b ≤ 0 by omega) with h | h
    · omega
    · have := Int.mul_nonpos_of_nonneg_of_nonpos (Int.le_of_lt gi) h
      rw [← hb] at this
      omega
  have hr : Nat.gcd a.natAbs b.natAbs = 1 := by
    have q1 : n.natAbs = Nat.gcd n.natAbs m.natAbs * a.natAbs := by
      have := congrArg Int.natAbs ha
      rw [Int.natAbs_mul, Int.natAbs_natCast] at this
      exact this
    have q2 : m.natAbs = Nat.gcd n.natAbs m.natAbs * b.natAbs := by
      have := congrArg Int.natAbs hb
      rw [Int.natAbs_mul, Int.natAbs_natCast] at this
      exact this
    have q3 : Nat.gcd n.natAbs m.natAbs = Nat.gcd n.natAbs m.natAbs * Nat.gcd a.natAbs b.natAbs := by
      have : Nat.gcd (Nat.gcd n.natAbs m.natAbs * a.natAbs) (Nat.gcd n.natAbs m.natAbs * b.natAbs) = Nat.gcd n.natAbs m.natAbs * Nat.gcd a.natAbs b.natAbs := Nat.gcd_mul_left _ _ _
      rw [← q1, ← q2] at this
      exact this
    have : Nat.gcd n.natAbs m.natAbs * 1 = Nat.gcd n.natAbs m.natAbs * Nat.gcd a.natAbs b.natAbs := by omega
    exact (Nat.eq_of_mul_eq_mul_left g0 this).symm
  refine ⟨_, a, b, by omega, ha, hb, b1, rfl, ?_, hr⟩
  unfold frD
  rw [e1, e2]
structure FrOk (n m B : Int) : Prop where
  q : Fq B (frD n m)
  val : num (frD n m) * m = n * den (frD n m)
  nn : 0 ≤ n → 0 ≤ num (frD n m)
  np : 0 < n → 0 < num (frD n m)
theorem abs_mul_le {g a n : Int} (hg : 1 ≤ g) (h : n = g * a) : a.natAbs ≤ n.natAbs := by
  rw [h, Int.natAbs_mul]
  exact Nat.le_mul_of_pos_left _ (by omega)
theorem frD_ok {n m B : Int} (hm : 1 ≤ m) (hn : n.natAbs ≤ B) (hB : m ≤ B) : FrOk n m B := by
  obtain ⟨g, a, b, g1, ha, hb, b1, _, e, hr⟩ := frD_ex (n := n) hm
  have h1 := abs_mul_le g1 ha
  have h2 := abs_mul_le g1 hb
  have en : num (frD n m) = a := by rw [e]; rfl
  have ed : den (frD n m) = b := by rw [e]; rfl
  refine ⟨⟨?_, ?_, ?_, ?_, ?_, ?_⟩, ?_, ?_, ?_⟩
  · rw [en, ed, e]
  · rw [en]; omega
  · rw [en]; omega
  · rw [ed]; omega
  · rw [ed]; omega
  · rw [en, ed]; exact hr
  · rw [en, ed, ha, hb]
    simp only [Int.mul_assoc, Int.mul_comm, Int.mul_left_comm]
  · intro h
    rw [en]
    rcases (show a < 0 ∨ 0 ≤ a by omega) with q | q
    · have := Int.mul_neg_of_pos_of_neg (show 0 < g by omega) q
      omega
    · exact q
  · intro h
    rw [en]
    rcases (show 0 < a ∨ a ≤ 0 by omega) with q | q
    · exact q
    · have := Int.mul_nonpos_of_nonneg_of_nonpos (show 0 ≤ g by omega) q
      omega
/-! the order of fractions -/
def le (a b : D) : Prop := num a * den b ≤ num b * den a
instance {a b : D} : Decidable (le a b) := inferInstanceAs (Decidable (_ ≤ _))
theorem le.refl {a : D} : le a a := Int.le_refl _
theorem le.trans {a b c : D} (ha : 1 ≤ den a) (hb : 1 ≤ den b) (hc : 1 ≤ den c) (h1 : le a b) (h2 : le b c) : le a c := by
  unfold le at *
  have k1 := Int.mul_le_mul_of_nonneg_right h1 (show 0 ≤ den c by omega)
  have k2 := Int.mul_le_mul_of_nonneg_right h2 (show 0 ≤ den a by omega)
  have : num a * den c * den b ≤ num c * den a * den b := by
    have e1 : num a * den c * den b = num a * den b * den c := by simp only [Int.mul_assoc, Int.mul_comm, Int.mul_left_comm]
    have e2 : num b * den a * den c = num b * den c * den a := by simp only [Int.mul_assoc, Int.mul_comm, Int.mul_left_comm]
    have e3 : num c * den b * den a = num c * den a * den b := by simp only [Int.mul_assoc, Int.mul_comm, Int.mul_left_comm]
    omega
  exact Int.le_of_mul_le_mul_right this (by omega)
def sgn (x : Int) : Int := (if 0 < x then 1 else 0) - (if x < 0 then 1 else 0)
def bes (a b : D) : Int := sgn (num a * den b - num b * den a)
theorem bes_pos {a b : D} : 0 < bes a b ↔ ¬ le a b := by
  unfold bes sgn le
  split <;> split <;> omega
theorem bes_neg {a b : D} : bes a b < 0 ↔ ¬ le b a := by
  unfold bes sgn le
  split <;> split <;> omega
theorem bes_cases {a b : D} : (bes a b = 1 ∧ ¬ le a b) ∨ (bes a b = 0 ∧ le a b ∧ le b a) ∨ (bes a b = -1 ∧ ¬ le b a) := by
  unfold bes sgn le
  split <;> split <;> omega
/-- what the law asks of a number between two others -/
theorem within_iff {x lo hi : D} (hx : 1 ≤ den x) (hl : 1 ≤ den lo) (hh : 1 ≤ den hi) (h : le hi lo) : ¬ 0 < bes x lo * bes x hi ↔ le x lo ∧ le hi x := by
  have tot : ∀ a b : D, le a b ∨ le b a := fun a b => Int.le_total _ _
  rcases bes_cases (a := x) (b := lo) with ⟨e1, n1⟩ | ⟨e1, n1, n2⟩ | ⟨e1, n1⟩ <;>
    rcases bes_cases (a := x) (b := hi) with ⟨e2, n3⟩ | ⟨e2, n3, n4⟩ | ⟨e2, n3⟩ <;> rw [e1, e2]
  · exact ⟨fun k => absurd (by decide) k, fun k => absurd k.1 n1⟩
  · exact absurd (le.trans hx hh hl n3 h) n1
  · have : le x hi := (tot x hi).resolve_right n3
    exact absurd (le.trans hx hh hl this h) n1
  · exact ⟨fun _ => ⟨n1, (tot hi x).resolve_right n3⟩, fun _ => by decide⟩
  · exact ⟨fun _ => ⟨n1, n4⟩, fun _ => by decide⟩
  · exact absurd (le.trans hh hl hx h n2) n3
  · exact ⟨fun _ => ⟨(tot x lo).resolve_right n1, (tot hi x).resolve_right n3⟩, fun _ => by decide⟩
  · exact ⟨fun _ => ⟨(tot x lo).resolve_right n1, n4⟩, fun _ => by decide⟩
  · exact ⟨fun k => absurd (by decide) k, fun k => absurd k.2 n3⟩
/-- a number between two: above nought, if they are -/
theorem mix_num {l h q p g : D} (hl : 1 ≤ den l) (hh : 1 ≤ den h) (hq : 1 ≤ den q) (hg : 1 ≤ den g) (hp : 1 ≤ den p) (q0 : 0 ≤ num q) (q1 : num q ≤ den q)
    (vg : num g * (den h * den l) = (num h * den l - num l * den h) * den g) (vp : num p * (den g * den q) = (num g * num q) * den p) :
    (0 ≤ num l → 0 ≤ num h → 0 ≤ num l * den p + num p * den l) ∧ (0 < num l → 0 < num h → 0 < num l * den p + num p * den l) := by
  have key : (num l * den p + num p * den l) * ((den g * den q) * (den h * den l)) = (den p * den g * den l) * (num l * den h * (den q - num q) + num h * den l * num q) := by
    have : (num l * den p + num p * den l) * ((den g * den q) * (den h * den l)) = num l * den p * (den g * den q) * (den h * den l) + (num p * (den g * den q)) * den l * (den h * den l) := by
      simp only [Int.add_mul, Int.mul_add, Int.mul_assoc, Int.mul_comm, Int.mul_left_comm]
    rw [this, vp]
    have : num g * num q * den p * den l * (den h * den l) = (num g * (den h * den l)) * num q * den p * den l := by
      simp only [Int.mul_assoc, Int.mul_comm, Int.mul_left_comm]
    rw [this, vg]
    simp only [Int.add_mul, Int.mul_add, Int.mul_sub, Int.sub_mul, Int.mul_assoc, Int.mul_comm, Int.mul_left_comm]
    omega
  have P1 : 0 < (den g * den q) * (den h * den l) := Int.mul_pos (Int.mul_pos (by omega) (by omega)) (Int.mul_pos (by omega) (by omega))
  have P2 : 0 < den p * den g * den l := Int.mul_pos (Int.mul_pos (by omega) (by omega)) (by omega)
  refine ⟨fun a b => ?_, fun a b => ?_⟩
  · have r : 0 ≤ num l * den h * (den q - num q) + num h * den l * num q := by
      have := Int.mul_nonneg (Int.mul_nonneg a (show 0 ≤ den h by omega)) (show 0 ≤ den q - num q by omega)
      have := Int.mul_nonneg (Int.mul_nonneg b (show 0 ≤ den l by omega)) q0
      omega
    have := Int.mul_nonneg (Int.le_of_lt P2) r
    rw [← key] at this
    rcases (show (num l * den p + num p * den l) < 0 ∨ 0 ≤ (num l * den p + num p * den l) by omega) with z | z
    · have := Int.mul_neg_of_neg_of_pos z P1
      omega
    · exact z
  · have r : 0 < num l * den h * (den q - num q) + num h * den l * num q := by
      have z1 := Int.mul_nonneg (Int.mul_nonneg (Int.le_of_lt a) (show 0 ≤ den h by omega)) (show 0 ≤ den q - num q by omega)
      have z2 := Int.mul_nonneg (Int.mul_nonneg (Int.le_of_lt b) (show 0 ≤ den l by omega)) q0
      rcases (show 0 < (num q) ∨ (num q) ≤ 0 by omega) with k | k
      · have := Int.mul_pos (Int.mul_pos b (show 0 < den l by omega)) k
        omega
      · have := Int.mul_pos (Int.mul_pos a (show 0 < den h by omega)) (show 0 < den q - num q by omega)
        omega
    have := Int.mul_pos P2 r
    rw [← key] at this
    rcases (show 0 < (num l * den p + num p * den l) ∨ (num l * den p + num p * den l) ≤ 0 by omega) with z | z
    · exact z
    · have := Int.mul_nonpos_of_nonpos_of_nonneg z (Int.le_of_lt P1)
      omega
end K34
namespace K34
open PySem Mini
theorem t_sign {n : Nat} (hn : 1 ≤ n) {x : Int} {S : Sto} : wp ((P n).call 5 [.int x] S) fun r S' => r = .int (sgn x) ∧ S' = S := by
  obtain ⟨m, rfl, hm⟩ := up hn
  rw [cP m 5 b5 rfl]
  refine wp_run rfl ?_
  show wp (evSs (P m) b5.body [some (.int x)] S) _
  simp only [wp_sC, wp_sN, wp_ret, wp_asg, wp_par, wp_sif, wp_sx, wp_and_, wp_or_, wp_not, wp_neg, wp_cmp, wp_chain, wp_if, wp_call, wp_callK, wp_fn, wp_ix, wp_bin, wp_tup, wp_lst, wp_cons, wp_nil, wp_con, wp_var, wp_gn, fl_nx, fl_rt, ed_rt, setsL, List.getElem?_cons_zero, List.getElem?_cons_succ, Option.some.injEq, exists_eq_left', List.set_cons_zero, List.set_cons_succ, wp_ok, wp_map, truth, cmpE, eq_int, Option.map_some, b5]
  by_cases h1 : 0 < x
  · have h2 : ¬ x < 0 := by omega
    simp [h1, h2, sgn]
  · by_cases h2 : x < 0
    · simp [h1, h2, sgn, wp_neg, wp_con, negE, wp_ok]
    · simp [h1, h2, sgn, wp_con]
theorem t_cmpf {n : Nat} (hn : 2 ≤ n) {a b : D} {B : Int} (hB : B ≤ 2 ^ 120) (ha : Fq B a) (hb : Fq B b) {S : Sto} : wp ((P n).call 6 [a, b] S) fun r S' => r = .int (bes a b) ∧ S' = S := by
  obtain ⟨m, rfl, hm⟩ := up hn
  rw [cP m 6 b6 rfl]
  refine wp_run rfl ?_
  have a1 := ha.lo
  have a2 := ha.hi
  have a3 := ha.pos
  have a4 := ha.dhi
  have c1 := hb.lo
  have c2 := hb.hi
  have c3 := hb.pos
  have c4 := hb.dhi
  have e : bes a b = sgn (num a * den b - num b * den a) := rfl
  generalize bes a b = r at e
  rw [ha.eq, hb.eq]
  show wp (evSs (P m) b6.body [some (.tup [.int (num a), .int (den a)]), some (.tup [.int (num b), .int (den b)])] S) _
  simp only [wp_sC, wp_sN, wp_ret, wp_asg, wp_par, wp_sif, wp_sx, wp_and_, wp_or_, wp_not, wp_neg, wp_cmp, wp_chain, wp_if, wp_call, wp_callK, wp_fn, wp_ix, wp_bin, wp_tup, wp_lst, wp_cons, wp_nil, wp_con, wp_var, wp_gn, fl_nx, fl_rt, ed_rt, setsL, List.getElem?_cons_zero, List.getElem?_cons_succ, Option.some.injEq, exists_eq_left', List.set_cons_zero, List.set_cons_succ, wp_ok, wp_map, truth, cmpE, eq_int, Option.map_some, b6, ix0, ix1, wide_mul (show (num a).natAbs < 2 ^ 400 by omega) (show (den b).natAbs < 2 ^ 400 by omega), wide_mul (show (num b).natAbs < 2 ^ 400 by omega) (show (den a).natAbs < 2 ^ 400 by omega), bin_sub]
  refine wp_mono (t_sign hm) fun r S1 ⟨er, es⟩ => ?_
  subst er es
  simp only [wp_sC, wp_sN, wp_ret, wp_asg, wp_par, wp_sif, wp_sx, wp_and_, wp_or_, wp_not, wp_neg, wp_cmp, wp_chain, wp_if, wp_call, wp_callK, wp_fn, wp_ix, wp_bin, wp_tup, wp_lst, wp_cons, wp_nil, wp_con, wp_var, wp_gn, fl_nx, fl_rt, ed_rt, setsL, List.getElem?_cons_zero, List.getElem?_cons_succ, Option.some.injEq, exists_eq_left', List.set_cons_zero, List.set_cons_succ, wp_ok, wp_map, truth, cmpE, eq_int, Option.map_some]
  exact ⟨by rw [e], trivial⟩
theorem t_side {n : Nat} (hn : 1 ≤ n) {x : Int} {S : Sto} : wp ((P n).call 23 [.int x] S) fun r S' => r = .int (sgn x) ∧ S' = S := by
  obtain ⟨m, rfl, hm⟩ := up hn
  rw [cP m 23 b23 rfl]
  refine wp_run rfl ?_
  show wp (evSs (P m) b23.body [some (.int x)] S) _
  simp only [wp_sC, wp_sN, wp_ret, wp_asg, wp_par, wp_sif, wp_sx, wp_and_, wp_or_, wp_not, wp_neg, wp_cmp, wp_chain, wp_if, wp_call, wp_callK, wp_fn, wp_ix, wp_bin, wp_tup, wp_lst, wp_cons, wp_nil, wp_con, wp_var, wp_gn, fl_nx, fl_rt, ed_rt, setsL, List.getElem?_cons_zero, List.getElem?_cons_succ, Option.some.injEq, exists_eq_left', List.set_cons_zero, List.set_cons_succ, wp_ok, wp_map, truth, cmpE, eq_int, Option.map_some, b23, fn_intb, bin_sub]
  refine ⟨?_, trivial⟩
  unfold sgn
  simp only [decide_eq_true_eq]
theorem t_beside {n : Nat} (hn : 2 ≤ n) {a b : D} {B : Int} (hB : B ≤ 2 ^ 120) (ha : Fq B a) (hb : Fq B b) {S : Sto} : wp ((P n).call 24 [a, b] S) fun r S' => r = .int (bes a b) ∧ S' = S := by
  obtain ⟨m, rfl, hm⟩ := up hn
  rw [cP m 24 b24 rfl]
  refine wp_run rfl ?_
  have a1 := ha.lo
  have a2 := ha.hi
  have a3 := ha.pos
  have a4 := ha.dhi
  have c1 := hb.lo
  have c2 := hb.hi
  have c3 := hb.pos
  have c4 := hb.dhi
  have e : bes a b = sgn (num a * den b - num b * den a) := rfl
  generalize bes a b = r at e
  rw [ha.eq, hb.eq]
  show wp (evSs (P m) b24.body [some (.tup [.int (num a), .int (den a)]), some (.tup [.int (num b), .int (den b)])] S) _
  simp only [wp_sC, wp_sN, wp_ret, wp_asg, wp_par, wp_sif, wp_sx, wp_and_, wp_or_, wp_not, wp_neg, wp_cmp, wp_chain, wp_if, wp_call, wp_callK, wp_fn, wp_ix, wp_bin, wp_tup, wp_lst, wp_cons, wp_nil, wp_con, wp_var, wp_gn, fl_nx, fl_rt, ed_rt, setsL, List.getElem?_cons_zero, List.getElem?_cons_succ, Option.some.injEq, exists_eq_left', List.set_cons_zero, List.set_cons_succ, wp_ok, wp_map, truth, cmpE, eq_int, Option.map_some, b24, ix0, ix1, wide_mul (show (num a).natAbs < 2 ^ 400 by omega) (show (den b).natAbs < 2 ^ 400 by omega), wide_mul (show (num b).natAbs < 2 ^ 400 by omega) (show (den a).natAbs < 2 ^ 400 by omega), bin_sub]
  refine wp_mono (t_side hm) fun r S1 ⟨er, es⟩ => ?_
  subst er es
  simp only [wp_sC, wp_sN, wp_ret, wp_asg, wp_par, wp_sif, wp_sx, wp_and_, wp_or_, wp_not, wp_neg, wp_cmp, wp_chain, wp_if, wp_call, wp_callK, wp_fn, wp_ix, wp_bin, wp_tup, wp_lst, wp_cons, wp_nil, wp_con, wp_var, wp_gn, fl_nx, fl_rt, ed_rt, setsL, List.getElem?_cons_zero, List.getElem?_cons_succ, Option.some.injEq, exists_eq_left', List.set_cons_zero, List.set_cons_succ, wp_ok, wp_map, truth, cmpE, eq_int, Option.map_some]
  exact ⟨by rw [e], trivial⟩
theorem t_gcd {n : Nat} (hn : 1 ≤ n) {S : Sto} {a b : Int} (hb : b.natAbs < 1000000000000000000000000000000) : wp ((P n).call 18 [.int a, .int b] S) fun r S' => r = .int ((Nat.gcd a.natAbs b.natAbs : Nat) : Int) ∧ S' = S := by
  obtain ⟨m, rfl, hm⟩ := up hn
  rw [cP m 18 b18 rfl]
  refine wp_run rfl ?_
  show wp (evSs (P m) b18.body [some (.int a), some (.int b)] S) _
  simp only [wp_sC, wp_sN, wp_ret, wp_asg, wp_par, wp_sif, wp_sx, wp_and_, wp_or_, wp_not, wp_neg, wp_cmp, wp_chain, wp_if, wp_call, wp_callK, wp_fn, wp_ix, wp_bin, wp_tup, wp_lst, wp_cons, wp_nil, wp_con, wp_var, wp_gn, fl_nx, fl_rt, ed_rt, setsL, List.getElem?_cons_zero, List.getElem?_cons_succ, Option.some.injEq, exists_eq_left', List.set_cons_zero, List.set_cons_succ, wp_ok, wp_map, truth, cmpE, eq_int, Option.map_some, b18, fn_abs, wp_while]
  have absN : ∀ x : Int, (if x < 0 then -x else x) = ((x.natAbs : Nat) : Int) := fun x => by split <;> omega
  rw [absN, absN]
  refine whileN_wp (fun k ρ S' => ∃ x y : Nat, ρ = [some (.int (x : Int)), some (.int (y : Int))] ∧ S' = S ∧ y ≤ k ∧ Nat.gcd x y = Nat.gcd a.natAbs b.natAbs) ?_ _ b.natAbs _ _ (fuelBig2 (by omega)) ⟨a.natAbs, b.natAbs, rfl, rfl, Nat.le_refl _, rfl⟩
  rintro k ρ S' ⟨x, y, rfl, rfl, hy, hg⟩
  simp only [wp_sC, wp_sN, wp_ret, wp_asg, wp_par, wp_sif, wp_sx, wp_and_, wp_or_, wp_not, wp_neg, wp_cmp, wp_chain, wp_if, wp_call, wp_callK, wp_fn, wp_ix, wp_bin, wp_tup, wp_lst, wp_cons, wp_nil, wp_con, wp_var, wp_gn, fl_nx, fl_rt, ed_rt, setsL, List.getElem?_cons_zero, List.getElem?_cons_succ, Option.some.injEq, exists_eq_left', List.set_cons_zero, List.set_cons_succ, wp_ok, wp_map, truth, cmpE, eq_int, Option.map_some, wp_B]
  by_cases h0 : 0 < (y : Int)
  · simp only [wp_sC, wp_sN, wp_ret, wp_asg, wp_par, wp_sif, wp_sx, wp_and_, wp_or_, wp_not, wp_neg, wp_cmp, wp_chain, wp_if, wp_call, wp_callK, wp_fn, wp_ix, wp_bin, wp_tup, wp_lst, wp_cons, wp_nil, wp_con, wp_var, wp_gn, fl_nx, fl_rt, ed_rt, setsL, List.getElem?_cons_zero, List.getElem?_cons_succ, Option.some.injEq, exists_eq_left', List.set_cons_zero, List.set_cons_succ, wp_ok, wp_map, truth, cmpE, eq_int, Option.map_some, h0, decide_true, if_true, fn_int, bin_mod h0]
    have hy0 : 0 < y := by omega
    have := Nat.mod_lt x hy0
    refine ⟨x % y, by omega, y, x % y, ?_, trivial, Nat.le_refl _, ?_⟩
    · rw [Int.natCast_emod]
    · rw [← hg, Nat.gcd_comm y, ← Nat.gcd_rec, Nat.gcd_comm]
  · simp only [wp_sC, wp_sN, wp_ret, wp_asg, wp_par, wp_sif, wp_sx, wp_and_, wp_or_, wp_not, wp_neg, wp_cmp, wp_chain, wp_if, wp_call, wp_callK, wp_fn, wp_ix, wp_bin, wp_tup, wp_lst, wp_cons, wp_nil, wp_con, wp_var, wp_gn, fl_nx, fl_rt, ed_rt, setsL, List.getElem?_cons_zero, List.getElem?_cons_succ, Option.some.injEq, exists_eq_left', List.set_cons_zero, List.set_cons_succ, wp_ok, wp_map, truth, cmpE, eq_int, Option.map_some, h0, decide_false, Bool.false_eq_true, if_false]
    have : y = 0 := by omega
    subst this
    rw [Nat.gcd_zero_right] at hg
    rw [hg]
    exact ⟨rfl, trivial⟩
theorem t_frac {n : Nat} (hn : 2 ≤ n) {S : Sto} {a b : Int} (b1 : 1 ≤ b) (b2 : b < 1000000000000000000000000000000) : wp ((P n).call 19 [.int a, .int b] S) fun r S' => r = frD a b ∧ S' = S := by
  obtain ⟨m, rfl, hm⟩ := up hn
  rw [cP m 19 b19 rfl]
  refine wp_run rfl ?_
  show wp (evSs (P m) b19.body [some (.int a), some (.int b), none] S) _
  simp only [wp_sC, wp_sN, wp_ret, wp_asg, wp_par, wp_sif, wp_sx, wp_and_, wp_or_, wp_not, wp_neg, wp_cmp, wp_chain, wp_if, wp_call, wp_callK, wp_fn, wp_ix, wp_bin, wp_tup, wp_lst, wp_cons, wp_nil, wp_con, wp_var, wp_gn, fl_nx, fl_rt, ed_rt, setsL, List.getElem?_cons_zero, List.getElem?_cons_succ, Option.some.injEq, exists_eq_left', List.set_cons_zero, List.set_cons_succ, wp_ok, wp_map, truth, cmpE, eq_int, Option.map_some, b19]
  refine wp_mono (t_gcd hm (by omega)) fun r S1 ⟨er, es⟩ => ?_
  subst er es
  have hb : 0 < b := by omega
  have g0 : 0 < Nat.gcd a.natAbs b.natAbs := Nat.gcd_pos_of_pos_right _ (by omega)
  have g1 : Nat.gcd a.natAbs b.natAbs ≤ b.natAbs := Nat.le_of_dvd (by omega) (Nat.gcd_dvd_right _ _)
  have gi : (0 : Int) < ((Nat.gcd a.natAbs b.natAbs : Nat) : Int) := by omega
  have gl : (((Nat.gcd a.natAbs b.natAbs : Nat) : Int)).natAbs < 2 ^ 400 := by rw [Int.natAbs_natCast]; omega
  simp only [wp_sC, wp_sN, wp_ret, wp_asg, wp_par, wp_sif, wp_sx, wp_and_, wp_or_, wp_not, wp_neg, wp_cmp, wp_chain, wp_if, wp_call, wp_callK, wp_fn, wp_ix, wp_bin, wp_tup, wp_lst, wp_cons, wp_nil, wp_con, wp_var, wp_gn, fl_nx, fl_rt, ed_rt, setsL, List.getElem?_cons_zero, List.getElem?_cons_succ, Option.some.injEq, exists_eq_left', List.set_cons_zero, List.set_cons_succ, wp_ok, wp_map, truth, cmpE, eq_int, Option.map_some, hb, decide_true, if_true, wide_div gi gl]
  exact ⟨rfl, trivial⟩
theorem t_sum {n : Nat} (hn : 3 ≤ n) {S : Sto} {a b : D} {A B : Int} (hA : A ≤ 100000000000000) (hB : B ≤ 100000000000000) (ha : Fq A a) (hb : Fq B b) : wp ((P n).call 20 [a, b] S) fun r S' => r = frD (num a * den b + num b * den a) (den a * den b) ∧ S' = S := by
  obtain ⟨m, rfl, hm⟩ := up hn
  rw [cP m 20 b20 rfl]
  refine wp_run rfl ?_
  have a1 := ha.lo
  have a2 := ha.hi
  have a3 := ha.pos
  have a4 := ha.dhi
  have c1 := hb.lo
  have c2 := hb.hi
  have c3 := hb.pos
  have c4 := hb.dhi
  have p1 : 0 < den a * den b := Int.mul_pos (by omega) (by omega)
  have p2 : den a * den b ≤ 100000000000000 * 100000000000000 := Int.mul_le_mul (by omega) (by omega) (by omega) (by omega)
  generalize hr : frD (num a * den b + num b * den a) (den a * den b) = r
  rw [ha.eq, hb.eq]
  show wp (evSs (P m) b20.body [some (.tup [.int (num a), .int (den a)]), some (.tup [.int (num b), .int (den b)])] S) _
  simp only [wp_sC, wp_sN, wp_ret, wp_asg, wp_par, wp_sif, wp_sx, wp_and_, wp_or_, wp_not, wp_neg, wp_cmp, wp_chain, wp_if, wp_call, wp_callK, wp_fn, wp_ix, wp_bin, wp_tup, wp_lst, wp_cons, wp_nil, wp_con, wp_var, wp_gn, fl_nx, fl_rt, ed_rt, setsL, List.getElem?_cons_zero, List.getElem?_cons_succ, Option.some.injEq, exists_eq_left', List.set_cons_zero, List.set_cons_succ, wp_ok, wp_map, truth, cmpE, eq_int, Option.map_some, b20, ix0, ix1, wide_mul (show (num a).natAbs < 2 ^ 400 by omega) (show (den b).natAbs < 2 ^ 400 by omega), wide_mul (show (num b).natAbs < 2 ^ 400 by omega) (show (den a).natAbs < 2 ^ 400 by omega), wide_mul (show (den a).natAbs < 2 ^ 400 by omega) (show (den b).natAbs < 2 ^ 400 by omega), bin_add]
  refine wp_mono (t_frac hm (by omega) (by omega)) fun r S1 ⟨er, es⟩ => ?_
  subst er es
  simp only [wp_sC, wp_sN, wp_ret, wp_asg, wp_par, wp_sif, wp_sx, wp_and_, wp_or_, wp_not, wp_neg, wp_cmp, wp_chain, wp_if, wp_call, wp_callK, wp_fn, wp_ix, wp_bin, wp_tup, wp_lst, wp_cons, wp_nil, wp_con, wp_var, wp_gn, fl_nx, fl_rt, ed_rt, setsL, List.getElem?_cons_zero, List.getElem?_cons_succ, Option.some.injEq, exists_eq_left', List.set_cons_zero, List.set_cons_succ, wp_ok, wp_map, truth, cmpE, eq_int, Option.map_some]
  exact ⟨hr, trivial⟩
theorem t_gap {n : Nat} (hn : 3 ≤ n) {S : Sto} {a b : D} {A B : Int} (hA : A ≤ 100000000000000) (hB : B ≤ 100000000000000) (ha : Fq A a) (hb : Fq B b) : wp ((P n).call 21 [a, b] S) fun r S' => r = frD (num a * den b - num b * den a) (den a * den b) ∧ S' = S := by
  obtain ⟨m, rfl, hm⟩ := up hn
  rw [cP m 21 b21 rfl]
  refine wp_run rfl ?_
  have a1 := ha.lo
  have a2 := ha.hi
  have a3 := ha.pos
  have a4 := ha.dhi
  have c1 := hb.lo
  have c2 := hb.hi
  have c3 := hb.pos
  have c4 := hb.dhi
  have p1 : 0 < den a * den b := Int.mul_pos (by omega) (by omega)
  have p2 : den a * den b ≤ 100000000000000 * 100000000000000 := Int.mul_le_mul (by omega) (by omega) (by omega) (by omega)
  generalize hr : frD (num a * den b - num b * den a) (den a * den b) = r
  rw [ha.eq, hb.eq]
  show wp (evSs (P m) b21.body [some (.tup [.int (num a), .int (den a)]), some (.tup [.int (num b), .int (den b)])] S) _
  simp only [wp_sC, wp_sN, wp_ret, wp_asg, wp_par, wp_sif, wp_sx, wp_and_, wp_or_, wp_not, wp_neg, wp_cmp, wp_chain, wp_if, wp_call, wp_callK, wp_fn, wp_ix, wp_bin, wp_tup, wp_lst, wp_cons, wp_nil, wp_con, wp_var, wp_gn, fl_nx, fl_rt, ed_rt, setsL, List.getElem?_cons_zero, List.getElem?_cons_succ, Option.some.injEq, exists_eq_left', List.set_cons_zero, List.set_cons_succ, wp_ok, wp_map, truth, cmpE, eq_int, Option.map_some, b21, ix0, ix1, wide_mul (show (num a).natAbs < 2 ^ 400 by omega) (show (den b).natAbs < 2 ^ 400 by omega), wide_mul (show (num b).natAbs < 2 ^ 400 by omega) (show (den a).natAbs < 2 ^ 400 by omega), wide_mul (show (den a).natAbs < 2 ^ 400 by omega) (show (den b).natAbs < 2 ^ 400 by omega), bin_sub]
  refine wp_mono (t_frac hm (by omega) (by omega)) fun r S1 ⟨er, es⟩ => ?_
  subst er es
  simp only [wp_sC, wp_sN, wp_ret, wp_asg, wp_par, wp_sif, wp_sx, wp_and_, wp_or_, wp_not, wp_neg, wp_cmp, wp_chain, wp_if, wp_call, wp_callK, wp_fn, wp_ix, wp_bin, wp_tup, wp_lst, wp_cons, wp_nil, wp_con, wp_var, wp_gn, fl_nx, fl_rt, ed_rt, setsL, List.getElem?_cons_zero, List.getElem?_cons_succ, Option.some.injEq, exists_eq_left', List.set_cons_zero, List.set_cons_succ, wp_ok, wp_map, truth, cmpE, eq_int, Option.map_some]
  exact ⟨hr, trivial⟩
theorem t_prod {n : Nat} (hn : 3 ≤ n) {S : Sto} {a b : D} {A B : Int} (hA : A ≤ 100000000000000) (hB : B ≤ 100000000000000) (ha : Fq A a) (hb : Fq B b) : wp ((P n).call 22 [a, b] S) fun r S' => r = frD (num a * num b) (den a * den b) ∧ S' = S := by
  obtain ⟨m, rfl, hm⟩ := up hn
  rw [cP m 22 b22 rfl]
  refine wp_run rfl ?_
  have a1 := ha.lo
  have a2 := ha.hi
  have a3 := ha.pos
  have a4 := ha.dhi
  have c1 := hb.lo
  have c2 := hb.hi
  have c3 := hb.pos
  have c4 := hb.dhi
  have p1 : 0 < den a * den b := Int.mul_pos (by omega) (by omega)
  have p2 : den a * den b ≤ 100000000000000 * 100000000000000 := Int.mul_le_mul (by omega) (by omega) (by omega) (by omega)
  generalize hr : frD (num a * num b) (den a * den b) = r
  rw [ha.eq, hb.eq]
  show wp (evSs (P m) b22.body [some (.tup [.int (num a), .int (den a)]), some (.tup [.int (num b), .int (den b)])] S) _
  simp only [wp_sC, wp_sN, wp_ret, wp_asg, wp_par, wp_sif, wp_sx, wp_and_, wp_or_, wp_not, wp_neg, wp_cmp, wp_chain, wp_if, wp_call, wp_callK, wp_fn, wp_ix, wp_bin, wp_tup, wp_lst, wp_cons, wp_nil, wp_con, wp_var, wp_gn, fl_nx, fl_rt, ed_rt, setsL, List.getElem?_cons_zero, List.getElem?_cons_succ, Option.some.injEq, exists_eq_left', List.set_cons_zero, List.set_cons_succ, wp_ok, wp_map, truth, cmpE, eq_int, Option.map_some, b22, ix0, ix1, wide_mul (show (num a).natAbs < 2 ^ 400 by omega) (show (num b).natAbs < 2 ^ 400 by omega), wide_mul (show (den a).natAbs < 2 ^ 400 by omega) (show (den b).natAbs < 2 ^ 400 by omega)]
  refine wp_mono (t_frac hm (by omega) (by omega)) fun r S1 ⟨er, es⟩ => ?_
  subst er es
  simp only [wp_sC, wp_sN, wp_ret, wp_asg, wp_par, wp_sif, wp_sx, wp_and_, wp_or_, wp_not, wp_neg, wp_cmp, wp_chain, wp_if, wp_call, wp_callK, wp_fn, wp_ix, wp_bin, wp_tup, wp_lst, wp_cons, wp_nil, wp_con, wp_var, wp_gn, fl_nx, fl_rt, ed_rt, setsL, List.getElem?_cons_zero, List.getElem?_cons_succ, Option.some.injEq, exists_eq_left', List.set_cons_zero, List.set_cons_succ, wp_ok, wp_map, truth, cmpE, eq_int, Option.map_some]
  exact ⟨hr, trivial⟩
theorem at0 {a b k : D} : L2.atI [a, b, k] 0 = some a := (atI_n (k := 0) (xs := [a, b, k]) (by simp)).trans rfl
theorem at1 {a b k : D} : L2.atI [a, b, k] 1 = some b := (atI_n (k := 1) (xs := [a, b, k]) (by simp)).trans rfl
theorem at2 {a b k : D} : L2.atI [a, b, k] 2 = some k := (atI_n (k := 2) (xs := [a, b, k]) (by simp)).trans rfl
theorem ixN0 {a b k : D} : L2.ixN [a, b, k].length 0 = some 0 := rfl
theorem ixN1 {a b k : D} : L2.ixN [a, b, k].length 1 = some 1 := rfl
theorem ixN2 {a b k : D} : L2.ixN [a, b, k].length 2 = some 2 := rfl
theorem t_pull {n : Nat} (hn : 1 ≤ n) {S : Sto} {c : Nat} {t many : Int} (w : Well S c t) (ht : t ≤ 1000000000) (h1 : 1 ≤ many) (h2 : many < 1073741824) :
    wp ((P n).call 16 [.ref c, .int many] S) fun r S' => ∃ i : Int, r = .int i ∧ 0 ≤ i ∧ i < many ∧ Well S' c (t + 1) ∧ Chg c S S' := by
  obtain ⟨m, rfl, hm⟩ := up hn
  obtain ⟨a, b, k, hS, ha, hb, hb2, hk, hkt⟩ := w
  have w : Well S c t := ⟨a, b, k, hS, ha, hb, hb2, hk, hkt⟩
  rw [cP m 16 b16 rfl]
  refine wp_run rfl ?_
  show wp (evSs (P m) b16.body [some (.ref c), some (.int many), none, none] S) _
  simp only [wp_sC, wp_sN, wp_ret, wp_asg, wp_par, wp_sif, wp_sx, wp_and_, wp_or_, wp_not, wp_neg, wp_cmp, wp_chain, wp_if, wp_call, wp_callK, wp_fn, wp_ix, wp_bin, wp_tup, wp_lst, wp_cons, wp_nil, wp_con, wp_var, wp_gn, fl_nx, fl_rt, ed_rt, setsL, List.getElem?_cons_zero, List.getElem?_cons_succ, Option.some.injEq, exists_eq_left', List.set_cons_zero, List.set_cons_succ, wp_ok, wp_map, truth, cmpE, eq_int, Option.map_some, b16, ix_c hS, at0]
  by_cases ha0 : 0 < a
  · simp only [wp_sC, wp_sN, wp_ret, wp_asg, wp_par, wp_sif, wp_sx, wp_and_, wp_or_, wp_not, wp_neg, wp_cmp, wp_chain, wp_if, wp_call, wp_callK, wp_fn, wp_ix, wp_bin, wp_tup, wp_lst, wp_cons, wp_nil, wp_con, wp_var, wp_gn, fl_nx, fl_rt, ed_rt, setsL, List.getElem?_cons_zero, List.getElem?_cons_succ, Option.some.injEq, exists_eq_left', List.set_cons_zero, List.set_cons_succ, wp_ok, wp_map, truth, cmpE, eq_int, Option.map_some, ha0, decide_true, if_true, ix_c hS, at0, fn_divmod (show (0 : Int) < many by omega) h2, wp_gt, seqD, List.length_cons, List.length_nil,
      wp_gsC, wp_gsN, wp_gi, sto_c hS ixN0]
    refine ⟨a % many, rfl, Int.emod_nonneg _ (by omega), Int.emod_lt_of_pos _ (by omega), ?_, .set hS⟩
    exact w.set (Int.ediv_nonneg ha (by omega)) hb hb2 hk (by omega)
  · simp only [ha0, decide_false, Bool.false_eq_true, if_false, wp_sN, fl_nx]
    have e1 : (S.set c (.lst [.int a, .int b, .int (k + 1)]))[c]? = some (.lst [.int a, .int b, .int (k + 1)]) := at_set hS
    have hf : (31013 + 6 * (k + 1)).natAbs < 2 ^ 64 := by omega
    simp only [wp_sC, wp_sN, wp_ret, wp_asg, wp_par, wp_sif, wp_sx, wp_and_, wp_or_, wp_not, wp_neg, wp_cmp, wp_chain, wp_if, wp_call, wp_callK, wp_fn, wp_ix, wp_bin, wp_tup, wp_lst, wp_cons, wp_nil, wp_con, wp_var, wp_gn, fl_nx, fl_rt, ed_rt, setsL, List.getElem?_cons_zero, List.getElem?_cons_succ, Option.some.injEq, exists_eq_left', List.set_cons_zero, List.set_cons_succ, wp_ok, wp_map, truth, cmpE, eq_int, Option.map_some, ix_c hS, at2, bin_add, wp_gi, sto_c hS ixN2, ix_c e1, fn_int, bin_mul (show (60293 : Int).natAbs < 2 ^ 64 by decide) (show (k + 1).natAbs < 2 ^ 64 by omega), at1, bin_mod (show (0 : Int) < 2147483549 by decide)]
    generalize hT : (b + 60293 * (k + 1) + 7) % 2147483549 = T
    have T0 : 0 ≤ T := by rw [← hT]; exact Int.emod_nonneg _ (by decide)
    have T1 : T < 2147483549 := by rw [← hT]; exact Int.emod_lt_of_pos _ (by decide)
    have U0 : 0 ≤ T % 5059 := Int.emod_nonneg _ (by decide)
    have U1 : T % 5059 < 5059 := Int.emod_lt_of_pos _ (by decide)
    simp only [wp_sC, wp_sN, wp_ret, wp_asg, wp_par, wp_sif, wp_sx, wp_and_, wp_or_, wp_not, wp_neg, wp_cmp, wp_chain, wp_if, wp_call, wp_callK, wp_fn, wp_ix, wp_bin, wp_tup, wp_lst, wp_cons, wp_nil, wp_con, wp_var, wp_gn, fl_nx, fl_rt, ed_rt, setsL, List.getElem?_cons_zero, List.getElem?_cons_succ, Option.some.injEq, exists_eq_left', List.set_cons_zero, List.set_cons_succ, wp_ok, wp_map, truth, cmpE, eq_int, Option.map_some, ix_c e1, at2, bin_add, wp_gi, fn_int, bin_mod (show (0 : Int) < 5059 by decide), bin_mul (show T.natAbs < 2 ^ 64 by omega) (show (T % 5059 + 17417).natAbs < 2 ^ 64 by omega), bin_mul (show (19 : Int).natAbs < 2 ^ 64 by decide) (show (k + 1).natAbs < 2 ^ 64 by omega), bin_mod (show (0 : Int) < 2147483549 by decide), sto_c e1 ixN1]
    generalize hB : (T * (T % 5059 + 17417) + 19 * (k + 1)) % 2147483549 = B
    have B0 : 0 ≤ B := by rw [← hB]; exact Int.emod_nonneg _ (by decide)
    have B1 : B < 2147483549 := by rw [← hB]; exact Int.emod_lt_of_pos _ (by decide)
    have e2 : ((S.set c (.lst [.int a, .int b, .int (k + 1)])).set c (.lst [.int a, .int B, .int (k + 1)]))[c]? = some (.lst [.int a, .int B, .int (k + 1)]) := at_set e1
    simp only [wp_sC, wp_sN, wp_ret, wp_asg, wp_par, wp_sif, wp_sx, wp_and_, wp_or_, wp_not, wp_neg, wp_cmp, wp_chain, wp_if, wp_call, wp_callK, wp_fn, wp_ix, wp_bin, wp_tup, wp_lst, wp_cons, wp_nil, wp_con, wp_var, wp_gn, fl_nx, fl_rt, ed_rt, setsL, List.getElem?_cons_zero, List.getElem?_cons_succ, Option.some.injEq, exists_eq_left', List.set_cons_zero, List.set_cons_succ, wp_ok, wp_map, truth, cmpE, eq_int, Option.map_some, ix_c e2, at1, bin_div (show (0 : Int) < 127 by decide) (by decide), fn_int, bin_mod (show (0 : Int) < many by omega)]
    refine ⟨_, rfl, Int.emod_nonneg _ (by omega), Int.emod_lt_of_pos _ (by omega), ?_, (Chg.set hS).trans (.set e1)⟩
    rw [List.set_set]
    exact w.set ha B0 (by omega) (by omega) (by omega)
/-- one of some -/
theorem t_one {n : Nat} (hn : 2 ≤ n) {S : Sto} {c l : Nat} {t : Int} {xs : List D} (w : Well S c t) (ht : t ≤ 1000000000) (hl : S[l]? = some (.lst xs)) (hne : l ≠ c) (h1 : 1 ≤ xs.length) (h2 : xs.length ≤ 1000) :
    wp ((P n).call 17 [.ref c, .ref l] S) fun r S' => r ∈ xs ∧ Well S' c (t + 1) ∧ Chg c S S' := by
  obtain ⟨m, rfl, hm⟩ := up hn
  rw [cP m 17 b17 rfl]
  refine wp_run rfl ?_
  show wp (evSs (P m) b17.body [some (.ref c), some (.ref l)] S) _
  simp only [wp_sC, wp_sN, wp_ret, wp_asg, wp_par, wp_sif, wp_sx, wp_and_, wp_or_, wp_not, wp_neg, wp_cmp, wp_chain, wp_if, wp_call, wp_callK, wp_fn, wp_ix, wp_bin, wp_tup, wp_lst, wp_cons, wp_nil, wp_con, wp_var, wp_gn, fl_nx, fl_rt, ed_rt, setsL, List.getElem?_cons_zero, List.getElem?_cons_succ, Option.some.injEq, exists_eq_left', List.set_cons_zero, List.set_cons_succ, wp_ok, wp_map, truth, cmpE, eq_int, Option.map_some, b17, fn_lenR (seq_c hl)]
  refine wp_mono (t_pull hm w ht (show (1 : Int) ≤ (xs.length : Int) by omega) (by omega)) fun r S1 ⟨i, er, i0, i1, w1, g1⟩ => ?_
  subst er
  obtain ⟨j, rfl⟩ : ∃ j : Nat, i = j := ⟨i.toNat, by omega⟩
  have hj : j < xs.length := by omega
  simp only [wp_sC, wp_sN, wp_ret, wp_asg, wp_par, wp_sif, wp_sx, wp_and_, wp_or_, wp_not, wp_neg, wp_cmp, wp_chain, wp_if, wp_call, wp_callK, wp_fn, wp_ix, wp_bin, wp_tup, wp_lst, wp_cons, wp_nil, wp_con, wp_var, wp_gn, fl_nx, fl_rt, ed_rt, setsL, List.getElem?_cons_zero, List.getElem?_cons_succ, Option.some.injEq, exists_eq_left', List.set_cons_zero, List.set_cons_succ, wp_ok, wp_map, truth, cmpE, eq_int, Option.map_some, ix_c (g1.get l _ hne hl), atI_n hj, List.getElem?_eq_getElem hj]
  exact ⟨List.getElem_mem hj, w1, g1⟩
end K34
namespace K34
open PySem Mini
/-- plain data, lists other than the cell c among them, tuples of at most L, to the depth k -/
def gd (c : Nat) (S : Sto) (L : Nat) : Nat → D → Bool
  | 0, d => match d with
    | .str x => strB x
    | .int i => decide (i.natAbs < 1000000000000000000000000000000)
    | .bl _ => true
    | .non => true
    | _ => false
  | k + 1, d => match d with
    | .tup xs => decide (xs.length ≤ L) && xs.all (gd c S L k)
    | .ref n => n != c && (match S[n]? with
      | some (.lst xs) => xs.all (gd c S L k)
      | _ => false)
    | .str x => strB x
    | .int i => decide (i.natAbs < 1000000000000000000000000000000)
    | .bl _ => true
    | .non => true
    | _ => false
theorem gdT {c k L : Nat} {S : Sto} {xs : List D} : gd c S L (k + 1) (.tup xs) = true ↔ xs.length ≤ L ∧ ∀ x ∈ xs, gd c S L k x = true := by
  show (decide (xs.length ≤ L) && xs.all (gd c S L k)) = true ↔ _
  rw [Bool.and_eq_true, decide_eq_true_eq, List.all_eq_true]
theorem gdR {c k L n : Nat} {S : Sto} : gd c S L (k + 1) (.ref n) = true ↔ n ≠ c ∧ ∃ xs, S[n]? = some (.lst xs) ∧ ∀ x ∈ xs, gd c S L k x = true := by
  show (n != c && (match S[n]? with
      | some (.lst xs) => xs.all (gd c S L k)
      | _ => false)) = true ↔ _
  rw [Bool.and_eq_true, bne_iff_ne]
  refine and_congr Iff.rfl ?_
  cases q : S[n]? with
  | none => exact ⟨fun h => (Bool.false_ne_true h).elim, fun ⟨xs, h, _⟩ => by cases h⟩
  | some cl =>
    cases cl with
    | lst xs =>
      show xs.all (gd c S L k) = true ↔ _
      rw [List.all_eq_true]
      exact ⟨fun h => ⟨xs, rfl, h⟩, fun ⟨ys, h, k⟩ => by cases h; exact k⟩
    | _ => exact ⟨fun h => (Bool.false_ne_true h).elim, fun ⟨xs, h, _⟩ => by cases h⟩
theorem gd_up {c : Nat} {S : Sto} {L M : Nat} (hL : L ≤ M) : ∀ {k j : Nat} {d : D}, k ≤ j → gd c S L k d = true → gd c S M j d = true
  | 0, j, d, _, h => by
    cases d with
    | tup xs => cases h
    | ref n => cases h
    | glb n => cases h
    | _ => cases j <;> exact h
  | k + 1, 0, d, hj, _ => by omega
  | k + 1, j + 1, d, hj, h => by
    cases d with
    | tup xs =>
      rw [gdT] at h ⊢
      exact ⟨by omega, fun x hx => gd_up hL (by omega) (h.2 x hx)⟩
    | ref n =>
      rw [gdR] at h ⊢
      obtain ⟨h1, xs, h2, h3⟩ := h
      exact ⟨h1, xs, h2, fun x hx => gd_up hL (by omega) (h3 x hx)⟩
    | _ => exact h
theorem gd_chg {c L : Nat} {A B : Sto} (g : Chg c A B) : ∀ {k : Nat} {d : D}, gd c A L k d = true → gd c B L k d = true
  | 0, d, h => by cases d <;> exact h
  | k + 1, d, h => by
    cases d with
    | tup xs =>
      rw [gdT] at h ⊢
      exact ⟨h.1, fun x hx => gd_chg g (h.2 x hx)⟩
    | ref n =>
      rw [gdR] at h ⊢
      obtain ⟨h1, xs, h2, h3⟩ := h
      exact ⟨h1, xs, g.get n _ h1 h2, fun x hx => gd_chg g (h3 x hx)⟩
    | _ => exact h
theorem gd_ok {c L : Nat} {S : Sto} (hL : L ≤ 1000) : ∀ {k : Nat} {d : D}, gd c S L k d = true → okD S d = true
  | 0, d, h => by cases d <;> first | rfl | cases h
  | k + 1, d, h => by
    cases d with
    | tup xs =>
      rw [gdT] at h
      exact okT_mk (by omega) fun x hx => gd_ok hL (h.2 x hx)
    | ref n =>
      rw [gdR] at h
      obtain ⟨h1, xs, h2, h3⟩ := h
      show (tyOf S (.ref n)).isSome = true
      rw [tyRef, h2]; rfl
    | _ => first | rfl | cases h
theorem gd_pl {c L : Nat} {S : Sto} : ∀ {k : Nat} {d : D}, gd c S L k d = true → plB S k d = true
  | 0, d, h => by cases d <;> first | exact h | rfl | cases h
  | k + 1, d, h => by
    cases d with
    | tup xs =>
      rw [gdT] at h
      show xs.all (plB S k) = true
      rw [List.all_eq_true]
      exact fun x hx => gd_pl (h.2 x hx)
    | ref n =>
      rw [gdR] at h
      obtain ⟨h1, xs, h2, h3⟩ := h
      show (match seqAt S n with
      | some xs => xs.all (plB S k)
      | none => false) = true
      rw [seq_c h2]
      exact List.all_eq_true.mpr fun x hx => gd_pl (h3 x hx)
    | _ => first | exact h | rfl | cases h
/-- what the program is asked about -/
def Vd (c : Nat) (S : Sto) (L k : Nat) (d : D) : Prop := okD S d = true ∧ (isTupD d = true → gd c S L k d = true)
theorem gd_vd {c L k : Nat} {S : Sto} {d : D} (hL : L ≤ 1000) (h : gd c S L k d = true) : Vd c S L k d := ⟨gd_ok hL h, fun _ => h⟩
theorem Vd.chg {c L k : Nat} {A B : Sto} {d : D} (g : Chg c A B) (h : Vd c A L k d) : Vd c B L k d := ⟨okD_ge g.ge h.1, fun t => gd_chg g (h.2 t)⟩
theorem Vd.up {c L M k j : Nat} {A : Sto} {d : D} (hL : L ≤ M) (hk : k ≤ j) (h : Vd c A L k d) : Vd c A M j d := ⟨h.1, fun t => gd_up hL hk (h.2 t)⟩
theorem gd_int {c L k : Nat} {S : Sto} {i : Int} (h : gd c S L k (.int i) = true) : i.natAbs < 1000000000000000000000000000000 := by
  cases k <;> exact of_decide_eq_true h
/-- a comprehension that keeps some of its list -/
def keepF (b : D → Bool) (d : D) : Option D := if b d = true then some d else none
theorem keep_filter {b : D → Bool} : ∀ {xs : List D}, xs.filterMap (keepF b) = xs.filter b
  | [] => rfl
  | x :: xs => by
    rw [List.filterMap_cons, List.filter_cons, keep_filter (xs := xs)]
    unfold keepF
    cases b x <;> rfl
theorem filter_empty {b : D → Bool} {xs : List D} : (xs.filter b).isEmpty = xs.all (fun d => !b d) := by
  induction xs with
  | nil => rfl
  | cons x xs ih =>
    rw [List.filter_cons, List.all_cons, ← ih]
    cases b x <;> rfl
/-- [x for x in xs if b] -/
theorem keep_c {p : Pg} {v : Nat} {it : It} {cnd : Ex} {ρ : Mini.Loc} {S : Sto} {P : D → Sto → Prop} {xs : List D} {b : D → Bool} (hfuel : xs.length < p.fuel) (hlen : xs.length ≤ 100000) (hv : v < ρ.length)
    (hit : wp (evI p it ρ S) fun src S1 => Ext S S1 ∧ ∀ i S', Ext S1 S' → src i S' = srcL xs i S')
    (hf : ∀ d ∈ xs, ∀ S', Ext S S' → wp (evE p cnd ((wipeL ρ [v]).set v (some d)) S') fun r S'' => ∃ t, truth S'' r = some t ∧ t = b d ∧ Ext S' S'')
    (hP : ∀ A t, Ext S A → P (.ref A.length) (A ++ .lst (xs.filter b) :: t)) : wp (evE p (.comp (.nm v) it [cnd] (.var v) [v]) ρ S) P := by
  refine comp_fm (g := keepF b) hfuel hlen hit (fun d hd S' e => ?_) fun A t e => ?_
  · unfold bodyC
    simp only [wp_bind, wp_gn, wp_tC, wp_tN]
    refine wp_mono (hf d hd S' e) fun r S'' ⟨t, h1, h2, h3⟩ => ?_
    refine ⟨t, h1, ?_⟩
    subst h2
    have hg : ((wipeL ρ [v]).set v (some d))[v]? = some (some d) := by
      show ((ρ.set v none).set v (some d))[v]? = _
      rw [List.getElem?_set_self (by simpa using hv)]
    cases q : b d with
    | true =>
      simp only [if_true, wp_bind, wp_var, hg, wp_ok, Option.some.injEq, exists_eq_left']
      exact ⟨by unfold keepF; rw [q]; rfl, h3⟩
    | false =>
      simp only [Bool.false_eq_true, if_false, wp_ok]
      exact ⟨by unfold keepF; rw [q]; rfl, h3⟩
  · rw [keep_filter]
    exact hP A t e
theorem eq_kept {c L k : Nat} {S A t : Sto} {xs : List D} {b : D → Bool} (hk : k ≤ 19) (e : Ext S A) (hx : ∀ x ∈ xs, gd c S L k x = true) :
    eqE (A ++ .lst (xs.filter b) :: t ++ [.lst []]) (.ref A.length) (.ref (A ++ .lst (xs.filter b) :: t).length) = some (xs.all fun d => !b d) := by
  rw [← filter_empty]
  refine eq_nil (k := k) (xs := xs.filter b) ?_ ?_ hk ?_
  · rw [List.append_assoc, List.cons_append]
    exact mid_seq
  · exact mid_seq (t := [])
  · intro d hd
    have ee : Ext S (A ++ Cl.lst (xs.filter b) :: t ++ [Cl.lst []]) := (e.trans ⟨_, rfl⟩).trans .one
    exact gd_pl (gd_chg ee.chg (hx d (List.mem_filter.mp hd).1))
theorem kept_ext {S A t : Sto} {ys : List D} (e : Ext S A) : Ext S (A ++ .lst ys :: t ++ [.lst []]) := (e.trans ⟨_, rfl⟩).trans .one
theorem t_is_frac {n : Nat} (hn : 3 ≤ n) {c L k : Nat} {d : D} {S : Sto} (hL : L ≤ 1000) (hk : k ≤ 18) (h : Vd c S L k d) : wp ((P n).call 25 [d] S) fun r S' => r = .bl (isFraction d) ∧ Ext S S' := by
  obtain ⟨m, rfl, hm⟩ := up hn
  rw [cP m 25 b25 rfl]
  refine wp_run rfl ?_
  show wp (evSs (P m) b25.body [some d, none] S) _
  simp only [wp_sC, wp_sN, wp_ret, wp_asg, wp_par, wp_sif, wp_sx, wp_and_, wp_or_, wp_not, wp_neg, wp_cmp, wp_chain, wp_if, wp_call, wp_callK, wp_fn, wp_ix, wp_bin, wp_tup, wp_lst, wp_cons, wp_nil, wp_con, wp_var, wp_gn, fl_nx, fl_rt, ed_rt, setsL, List.getElem?_cons_zero, List.getElem?_cons_succ, Option.some.injEq, exists_eq_left', List.set_cons_zero, List.set_cons_succ, wp_ok, wp_map, truth, cmpE, eq_int, Option.map_some, b25, fn_isi, isi_tup h.1]
  cases d with
  | tup xs =>
    simp only [isTupD, Bool.not_true, Bool.false_eq_true, if_false]
    simp only [wp_sC, wp_sN, wp_ret, wp_asg, wp_par, wp_sif, wp_sx, wp_and_, wp_or_, wp_not, wp_neg, wp_cmp, wp_chain, wp_if, wp_call, wp_callK, wp_fn, wp_ix, wp_bin, wp_tup, wp_lst, wp_cons, wp_nil, wp_con, wp_var, wp_gn, fl_nx, fl_rt, ed_rt, setsL, List.getElem?_cons_zero, List.getElem?_cons_succ, Option.some.injEq, exists_eq_left', List.set_cons_zero, List.set_cons_succ, wp_ok, wp_map, truth, cmpE, eq_int, Option.map_some, fn_len]
    have h := h.2 rfl
    by_cases h2 : (xs.length : Int) = 2
    · have : xs.length = 2 := by omega
      match xs, this with
      | [a, b], _ =>
        simp only [List.length_cons, List.length_nil, Nat.reduceAdd, Int.cast_ofNat_Int, decide_true, Bool.not_true, Bool.false_eq_true, if_false]
        have hg : ∀ x ∈ [a, b], gd c S L (k - 1) x = true := by
          cases k with
          | zero => cases h
          | succ k => exact (gdT.mp h).2
        refine keep_c (b := fun d => !isWhole d) (xs := [a, b]) (fuelBig (by simp)) (by simp) (by simp) (it_tup ?_) (fun d hd S' e => ?_) fun A t e => ?_
        · simp only [wp_sC, wp_sN, wp_ret, wp_asg, wp_par, wp_sif, wp_sx, wp_and_, wp_or_, wp_not, wp_neg, wp_cmp, wp_chain, wp_if, wp_call, wp_callK, wp_fn, wp_ix, wp_bin, wp_tup, wp_lst, wp_cons, wp_nil, wp_con, wp_var, wp_gn, fl_nx, fl_rt, ed_rt, setsL, List.getElem?_cons_zero, List.getElem?_cons_succ, Option.some.injEq, exists_eq_left', List.set_cons_zero, List.set_cons_succ, wp_ok, wp_map, truth, cmpE, eq_int, Option.map_some]
          exact ⟨trivial, .refl⟩
        · have hok := okD_ge e.ge (gd_ok hL (hg d hd))
          simp only [wipeL, List.foldl_cons, List.foldl_nil]
          simp only [wp_sC, wp_sN, wp_ret, wp_asg, wp_par, wp_sif, wp_sx, wp_and_, wp_or_, wp_not, wp_neg, wp_cmp, wp_chain, wp_if, wp_call, wp_callK, wp_fn, wp_ix, wp_bin, wp_tup, wp_lst, wp_cons, wp_nil, wp_con, wp_var, wp_gn, fl_nx, fl_rt, ed_rt, setsL, List.getElem?_cons_zero, List.getElem?_cons_succ, Option.some.injEq, exists_eq_left', List.set_cons_zero, List.set_cons_succ, wp_ok, wp_map, truth, cmpE, eq_int, Option.map_some, fn_isi, isi_int hok, isi_bool hok]
          cases d <;> simp [isIntD, isBlD, isWhole, truth, wp_var, Ext.refl]
        · rw [eq_kept (by omega) e hg]
          have e := kept_ext (t := t) (ys := [a, b].filter fun d => !isWhole d) e
          generalize hS : A ++ Cl.lst ([a, b].filter fun d => !isWhole d) :: t ++ [Cl.lst []] = S3 at e ⊢
          cases hw : isWhole a with
          | false =>
            have : isFraction (.tup [a, b]) = false := by
              cases a <;> first | rfl | cases hw
            simp only [List.all_cons, hw, Bool.not_false, Bool.not_true, Bool.false_and, if_true, Option.map_some, Option.some.injEq, exists_eq_left']
            exact ⟨by rw [this], e⟩
          | true =>
            cases hw2 : isWhole b with
            | false =>
              have : isFraction (.tup [a, b]) = false := by
                cases a <;> first | rfl | (cases b <;> first | rfl | cases hw2)
              simp only [List.all_cons, hw, hw2, Bool.not_false, Bool.not_true, Bool.false_and, Bool.and_false, if_true, Option.map_some, Option.some.injEq, exists_eq_left']
              exact ⟨by rw [this], e⟩
            | true =>
              obtain ⟨i, rfl⟩ : ∃ i, a = .int i := by cases a <;> first | exact ⟨_, rfl⟩ | cases hw
              obtain ⟨j, rfl⟩ : ∃ i, b = .int i := by cases b <;> first | exact ⟨_, rfl⟩ | cases hw2
              have hj := gd_int (hg (.int j) (by simp))
              simp only [List.all_cons, List.all_nil, isWhole, Bool.not_false, Bool.not_true, Bool.and_true, Bool.false_eq_true, if_false, Option.map_some, Option.some.injEq, exists_eq_left']
              simp only [wp_sC, wp_sN, wp_ret, wp_asg, wp_par, wp_sif, wp_sx, wp_and_, wp_or_, wp_not, wp_neg, wp_cmp, wp_chain, wp_if, wp_call, wp_callK, wp_fn, wp_ix, wp_bin, wp_tup, wp_lst, wp_cons, wp_nil, wp_con, wp_var, wp_gn, fl_nx, fl_rt, ed_rt, setsL, List.getElem?_cons_zero, List.getElem?_cons_succ, Option.some.injEq, exists_eq_left', List.set_cons_zero, List.set_cons_succ, wp_ok, wp_map, truth, cmpE, eq_int, Option.map_some, ix0, ix1]
              by_cases hb : 0 < j
              · simp only [hb, decide_true, if_true]
                refine wp_mono (t_gcd (by omega) hj) fun r S1 ⟨er, es⟩ => ?_
                subst er es
                simp only [wp_sC, wp_sN, wp_ret, wp_asg, wp_par, wp_sif, wp_sx, wp_and_, wp_or_, wp_not, wp_neg, wp_cmp, wp_chain, wp_if, wp_call, wp_callK, wp_fn, wp_ix, wp_bin, wp_tup, wp_lst, wp_cons, wp_nil, wp_con, wp_var, wp_gn, fl_nx, fl_rt, ed_rt, setsL, List.getElem?_cons_zero, List.getElem?_cons_succ, Option.some.injEq, exists_eq_left', List.set_cons_zero, List.set_cons_succ, wp_ok, wp_map, truth, cmpE, eq_int, Option.map_some]
                exact ⟨by simp [isFraction, hb], e⟩
              · simp only [hb, decide_false, Bool.false_eq_true, if_false]
                exact ⟨by simp [isFraction, hb], e⟩
    · simp only [h2, decide_false, Bool.not_false, if_true]
      refine ⟨?_, .refl⟩
      have : isFraction (.tup xs) = false := by
        match xs, h2 with
        | [], _ => rfl
        | [_], _ => simp [isFraction]
        | [_, _], h2 => exact absurd rfl h2
        | _ :: _ :: _ :: _, _ => simp [isFraction]
      rw [this]
  | _ =>
    simp only [isTupD, Bool.not_false, if_true]
    exact ⟨rfl, .refl⟩
end K34
namespace K34
open PySem Mini
theorem amount_eq {d : D} : isAmount d = (isFraction d && decide (0 < num d)) := by
  unfold isAmount
  split
  · rfl
  · rename_i h
    cases q : isFraction d with
    | false => rfl
    | true =>
      obtain ⟨a, b, rfl⟩ := fr_yes q
      exact absurd rfl (h a b)
theorem pace_eq {d : D} : isPace d = (isFraction d && decide (0 ≤ num d)) := by
  unfold isPace
  split
  · rfl
  · rename_i h
    cases q : isFraction d with
    | false => rfl
    | true =>
      obtain ⟨a, b, rfl⟩ := fr_yes q
      exact absurd rfl (h a b)
theorem amount_iff {d : D} : isAmount d = true ↔ isFraction d = true ∧ 0 < num d := by rw [amount_eq, Bool.and_eq_true, decide_eq_true_eq]
theorem pace_iff {d : D} : isPace d = true ↔ isFraction d = true ∧ 0 ≤ num d := by rw [pace_eq, Bool.and_eq_true, decide_eq_true_eq]
def badF (d : D) : Bool := !isFraction d || decide (num d < 0)
def nilF (d : D) : Bool := decide (num d = 0)
theorem badF_iff {d : D} : (!badF d) = true ↔ isFraction d = true ∧ 0 ≤ num d := by
  unfold badF
  simp only [Bool.not_or, Bool.not_not, Bool.and_eq_true, Bool.not_eq_true', decide_eq_false_iff_not, Int.not_lt]
theorem nilF_iff {d : D} : (!nilF d) = true ↔ num d ≠ 0 := by
  unfold nilF
  rw [Bool.not_eq_true', decide_eq_false_iff_not]
theorem ends_of {ss : List D} {k : Nat} (h : ss.length = k + 1) (hk : 1 ≤ k) : ∃ s0 mid sl, ss = s0 :: (mid ++ [sl]) ∧ mid.length + 1 = k := by
  match ss, h with
  | s0 :: rest, h =>
    have hr : rest ≠ [] := fun e => by subst e; simp at h; omega
    refine ⟨s0, rest.dropLast, rest.getLast hr, by rw [List.dropLast_concat_getLast], ?_⟩
    simp at h ⊢
    omega
theorem cut_1k {xs : List D} {k : Nat} : cutD xs (some 1) (some (k : Int)) = (xs.take k).drop 1 := by
  unfold cutD
  rw [HT.sIx_nat, show HT.sIx xs.length 0 (some 1) = min 1 xs.length from HT.sIx_nat _ 0 1]
  rw [List.drop_take]
  by_cases h : 1 ≤ xs.length
  · rw [Nat.min_eq_left h]
    by_cases h2 : k ≤ xs.length
    · rw [Nat.min_eq_left h2]
    · rw [Nat.min_eq_right (by omega), List.take_of_length_le (by rw [List.length_drop]; omega), List.take_of_length_le (by rw [List.length_drop]; omega)]
  · have : xs = [] := List.eq_nil_of_length_eq_zero (by omega)
    subst this
    simp
theorem line_law {ws ss : List D} (h1 : 1 ≤ ws.length) (h8 : ws.length ≤ 8) (hs : ss.length = ws.length + 1) :
    isLine (.tup [.tup ws, .tup ss]) = ((ws ++ ss).all (fun d => !badF d) && (ws ++ cutD ss (some 1) (some (ws.length : Int))).all (fun d => !nilF d)) := by
  obtain ⟨s0, mid, sl, rfl, hm⟩ := ends_of hs h1
  have c1 : cutD (s0 :: (mid ++ [sl])) (some 1) (some (ws.length : Int)) = mid := by
    rw [cut_1k, ← hm]
    simp
  have c2 : cutD (s0 :: (mid ++ [sl])) (some 1) (some (-1)) = mid := by
    rw [cut_in]
    simp
  have e1 : isLine (.tup [.tup ws, .tup (s0 :: (mid ++ [sl]))]) = (ws.all isAmount && (isPace s0 && isPace sl && mid.all isAmount)) := by
    show (decide (1 ≤ ws.length) && decide (ws.length ≤ 8) && ws.all isAmount && (decide ((s0 :: (mid ++ [sl])).length = ws.length + 1) && (match (s0 :: (mid ++ [sl]))[0]? with | some d => isPace d | none => false) && (match (s0 :: (mid ++ [sl]))[(s0 :: (mid ++ [sl])).length - 1]? with | some d => isPace d | none => false) && (cutD (s0 :: (mid ++ [sl])) (some 1) (some (-1))).all isAmount)) = _
    have g1 : (s0 :: (mid ++ [sl]))[(s0 :: (mid ++ [sl])).length - 1]? = some sl := by simp
    rw [c2, g1, decide_eq_true h1, decide_eq_true h8, decide_eq_true hs]
    simp only [Bool.true_and, List.getElem?_cons_zero]
  rw [e1, c1, Bool.eq_iff_iff]
  simp only [Bool.and_eq_true, List.all_eq_true, List.mem_append, List.mem_cons, amount_iff, pace_iff, badF_iff, nilF_iff, List.not_mem_nil, or_false]
  constructor
  · rintro ⟨a1, ⟨a2, a3⟩, a4⟩
    refine ⟨fun x hx => ?_, fun x hx => ?_⟩
    · rcases hx with hx | rfl | hx | rfl
      · exact ⟨(a1 x hx).1, Int.le_of_lt (a1 x hx).2⟩
      · exact a2
      · exact ⟨(a4 x hx).1, Int.le_of_lt (a4 x hx).2⟩
      · exact a3
    · rcases hx with hx | hx
      · exact Int.ne_of_gt (a1 x hx).2
      · exact Int.ne_of_gt (a4 x hx).2
  · rintro ⟨b1, b2⟩
    refine ⟨fun x hx => ?_, ⟨b1 _ (.inr (.inl rfl)), b1 _ (.inr (.inr (.inr rfl)))⟩, fun x hx => ?_⟩
    · have p := b1 x (.inl hx)
      have q := b2 x (.inl hx)
      exact ⟨p.1, by omega⟩
    · have p := b1 x (.inr (.inr (.inl hx)))
      have q := b2 x (.inr hx)
      exact ⟨p.1, by omega⟩
theorem line_len {ws ss : List D} (h : ¬ (1 ≤ ws.length ∧ ws.length ≤ 8 ∧ ss.length = ws.length + 1)) : isLine (.tup [.tup ws, .tup ss]) = false := by
  show (decide (1 ≤ ws.length) && decide (ws.length ≤ 8) && ws.all isAmount && (decide (ss.length = ws.length + 1) && (match ss[0]? with | some d => isPace d | none => false) && (match ss[ss.length - 1]? with | some d => isPace d | none => false) && (cutD ss (some 1) (some (-1))).all isAmount)) = _
  by_cases a : 1 ≤ ws.length <;> by_cases b : ws.length ≤ 8 <;> by_cases d : ss.length = ws.length + 1 <;> simp [a, b, d]
  exact absurd ⟨a, b, d⟩ h
theorem line_ty {a b : D} (h : isTupD a = false ∨ isTupD b = false) : isLine (.tup [a, b]) = false := by
  show (areDiscs a && areShafts (lenD a) b) = false
  rcases h with h | h
  · cases a <;> first | rfl | cases h
  · cases b <;> first | (exact Bool.and_false _) | cases h
theorem t_law_is_line {n : Nat} (hn : 4 ≤ n) {c L k : Nat} {d : D} {S : Sto} (hL : L ≤ 1000) (hk : k ≤ 18) (h : Vd c S L k d) : wp ((P n).call 36 [d] S) fun r S' => r = .bl (isLine d) ∧ Ext S S' := by
  obtain ⟨m, rfl, hm⟩ := up hn
  rw [cP m 36 b36 rfl]
  refine wp_run rfl ?_
  show wp (evSs (P m) b36.body [some d, none, none] S) _
  simp only [wp_sC, wp_sN, wp_ret, wp_asg, wp_par, wp_sif, wp_sx, wp_and_, wp_or_, wp_not, wp_neg, wp_cmp, wp_chain, wp_if, wp_call, wp_callK, wp_fn, wp_ix, wp_bin, wp_tup, wp_lst, wp_cons, wp_nil, wp_con, wp_var, wp_gn, fl_nx, fl_rt, ed_rt, setsL, List.getElem?_cons_zero, List.getElem?_cons_succ, Option.some.injEq, exists_eq_left', List.set_cons_zero, List.set_cons_succ, wp_ok, wp_map, truth, cmpE, eq_int, Option.map_some, b36, fn_isi, isi_tup h.1]
  cases d with
  | tup xs =>
    simp only [isTupD, Bool.not_true, Bool.false_eq_true, if_false]
    have h := h.2 rfl
    by_cases h2 : (xs.length : Int) = 2
    · have : xs.length = 2 := by omega
      match xs, this with
      | [a, b], _ =>
        have hg : ∀ x ∈ [a, b], gd c S L (k - 1) x = true := by
          cases k with
          | zero => cases h
          | succ k => exact (gdT.mp h).2
        have ga := hg a (by simp)
        have gb := hg b (by simp)
        simp only [wp_sC, wp_sN, wp_ret, wp_asg, wp_par, wp_sif, wp_sx, wp_and_, wp_or_, wp_not, wp_neg, wp_cmp, wp_chain, wp_if, wp_call, wp_callK, wp_fn, wp_ix, wp_bin, wp_tup, wp_lst, wp_cons, wp_nil, wp_con, wp_var, wp_gn, fl_nx, fl_rt, ed_rt, setsL, List.getElem?_cons_zero, List.getElem?_cons_succ, Option.some.injEq, exists_eq_left', List.set_cons_zero, List.set_cons_succ, wp_ok, wp_map, truth, cmpE, eq_int, Option.map_some, fn_len, List.length_cons, List.length_nil, Nat.reduceAdd, Int.cast_ofNat_Int, decide_true, Bool.not_true, Bool.false_eq_true, if_false, ix0, ix1, isi_tup (gd_ok hL ga), isi_tup (gd_ok hL gb)]
        cases a with
        | tup ws =>
          simp only [isTupD, Bool.not_true, Bool.false_eq_true, if_false]
          simp only [wp_sC, wp_sN, wp_ret, wp_asg, wp_par, wp_sif, wp_sx, wp_and_, wp_or_, wp_not, wp_neg, wp_cmp, wp_chain, wp_if, wp_call, wp_callK, wp_fn, wp_ix, wp_bin, wp_tup, wp_lst, wp_cons, wp_nil, wp_con, wp_var, wp_gn, fl_nx, fl_rt, ed_rt, setsL, List.getElem?_cons_zero, List.getElem?_cons_succ, Option.some.injEq, exists_eq_left', List.set_cons_zero, List.set_cons_succ, wp_ok, wp_map, truth, cmpE, eq_int, Option.map_some, fn_len]
          have ga' : ws.length ≤ L ∧ ∀ x ∈ ws, gd c S L k x = true := by
            have := gd_up (Nat.le_refl L) (show k - 1 ≤ k + 1 by omega) ga
            exact gdT.mp this
          by_cases k1 : (ws.length : Int) < 1
          · simp only [k1, decide_true, if_true]
            refine ⟨?_, .refl⟩
            cases b with
            | tup ss => rw [line_len (by omega)]
            | _ => rw [line_ty (.inr rfl)]
          · simp only [k1, decide_false, Bool.false_eq_true, if_false]
            by_cases k2 : 8 < (ws.length : Int)
            · simp only [k2, decide_true, if_true]
              refine ⟨?_, .refl⟩
              cases b with
              | tup ss => rw [line_len (by omega)]
              | _ => rw [line_ty (.inr rfl)]
            · simp only [k2, decide_false, Bool.false_eq_true, if_false]
              cases b with
              | tup ss =>
                simp only [wp_sC, wp_sN, wp_ret, wp_asg, wp_par, wp_sif, wp_sx, wp_and_, wp_or_, wp_not, wp_neg, wp_cmp, wp_chain, wp_if, wp_call, wp_callK, wp_fn, wp_ix, wp_bin, wp_tup, wp_lst, wp_cons, wp_nil, wp_con, wp_var, wp_gn, fl_nx, fl_rt, ed_rt, setsL, List.getElem?_cons_zero, List.getElem?_cons_succ, Option.some.injEq, exists_eq_left', List.set_cons_zero, List.set_cons_succ, wp_ok, wp_map, truth, cmpE, eq_int, Option.map_some, isi_tup (gd_ok hL gb), isTupD, Bool.not_true, Bool.false_eq_true, if_false, fn_len, bin_add]
                have gb' : ss.length ≤ L ∧ ∀ x ∈ ss, gd c S L k x = true := by
                  have := gd_up (Nat.le_refl L) (show k - 1 ≤ k + 1 by omega) gb
                  exact gdT.mp this
                by_cases k3 : (ss.length : Int) = (ws.length : Int) + 1
                · have k3' : ss.length = ws.length + 1 := by omega
                  have gall : ∀ x ∈ ws ++ ss, gd c S L k x = true := fun x hx => (List.mem_append.mp hx).elim (ga'.2 x) (gb'.2 x)
                  simp only [k3, decide_true, Bool.not_true, Bool.false_eq_true, if_false]
                  refine keep_c (b := badF) (xs := ws ++ ss) (fuelBig (by rw [List.length_append]; omega)) (by rw [List.length_append]; omega) (by simp) (it_tup ?_) (fun d hd S' e => ?_) fun A t e => ?_
                  · simp only [wp_sC, wp_sN, wp_ret, wp_asg, wp_par, wp_sif, wp_sx, wp_and_, wp_or_, wp_not, wp_neg, wp_cmp, wp_chain, wp_if, wp_call, wp_callK, wp_fn, wp_ix, wp_bin, wp_tup, wp_lst, wp_cons, wp_nil, wp_con, wp_var, wp_gn, fl_nx, fl_rt, ed_rt, setsL, List.getElem?_cons_zero, List.getElem?_cons_succ, Option.some.injEq, exists_eq_left', List.set_cons_zero, List.set_cons_succ, wp_ok, wp_map, truth, cmpE, eq_int, Option.map_some, ix0, ix1, bin_cat (show ws.length + ss.length ≤ 100000 by omega)]
                    exact ⟨trivial, .refl⟩
                  · have gx := gd_chg (c := c) e.chg (gall d hd)
                    simp only [wipeL, List.foldl_cons, List.foldl_nil]
                    simp only [wp_sC, wp_sN, wp_ret, wp_asg, wp_par, wp_sif, wp_sx, wp_and_, wp_or_, wp_not, wp_neg, wp_cmp, wp_chain, wp_if, wp_call, wp_callK, wp_fn, wp_ix, wp_bin, wp_tup, wp_lst, wp_cons, wp_nil, wp_con, wp_var, wp_gn, fl_nx, fl_rt, ed_rt, setsL, List.getElem?_cons_zero, List.getElem?_cons_succ, Option.some.injEq, exists_eq_left', List.set_cons_zero, List.set_cons_succ, wp_ok, wp_map, truth, cmpE, eq_int, Option.map_some]
                    refine wp_mono (t_is_frac (by omega) hL hk (gd_vd hL gx)) fun r S1 ⟨er, e1⟩ => ?_
                    subst er
                    simp only [wp_sC, wp_sN, wp_ret, wp_asg, wp_par, wp_sif, wp_sx, wp_and_, wp_or_, wp_not, wp_neg, wp_cmp, wp_chain, wp_if, wp_call, wp_callK, wp_fn, wp_ix, wp_bin, wp_tup, wp_lst, wp_cons, wp_nil, wp_con, wp_var, wp_gn, fl_nx, fl_rt, ed_rt, setsL, List.getElem?_cons_zero, List.getElem?_cons_succ, Option.some.injEq, exists_eq_left', List.set_cons_zero, List.set_cons_succ, wp_ok, wp_map, truth, cmpE, eq_int, Option.map_some]
                    cases q : isFraction d with
                    | false => exact ⟨by simp [badF, q], e1⟩
                    | true =>
                      obtain ⟨x, y, rfl⟩ := fr_yes q
                      simp only [wp_sC, wp_sN, wp_ret, wp_asg, wp_par, wp_sif, wp_sx, wp_and_, wp_or_, wp_not, wp_neg, wp_cmp, wp_chain, wp_if, wp_call, wp_callK, wp_fn, wp_ix, wp_bin, wp_tup, wp_lst, wp_cons, wp_nil, wp_con, wp_var, wp_gn, fl_nx, fl_rt, ed_rt, setsL, List.getElem?_cons_zero, List.getElem?_cons_succ, Option.some.injEq, exists_eq_left', List.set_cons_zero, List.set_cons_succ, wp_ok, wp_map, truth, cmpE, eq_int, Option.map_some, Bool.not_true, Bool.false_eq_true, if_false, ix0]
                      exact ⟨by unfold badF; rw [q]; rfl, e1⟩
                  · rw [eq_kept (by omega) e gall]
                    have e := kept_ext (t := t) (ys := (ws ++ ss).filter badF) e
                    generalize hS : A ++ Cl.lst ((ws ++ ss).filter badF) :: t ++ [Cl.lst []] = S3 at e ⊢
                    rw [line_law (by omega) (by omega) k3']
                    cases q : (ws ++ ss).all fun d => !badF d with
                    | false =>
                      simp only [Bool.not_false, Option.map_some, Option.some.injEq, exists_eq_left', if_true]
                      exact ⟨rfl, e⟩
                    | true =>
                      simp only [Bool.not_true, Option.map_some, Option.some.injEq, exists_eq_left', Bool.false_eq_true, if_false]
                      have gall2 : ∀ x ∈ ws ++ cutD ss (some 1) (some (ws.length : Int)), gd c S3 L k x = true := fun x hx => gd_chg e.chg ((List.mem_append.mp hx).elim (ga'.2 x) fun h => gb'.2 x (by rw [cut_1k] at h; exact List.mem_of_mem_take (List.mem_of_mem_drop h)))
                      have lc : (cutD ss (some 1) (some (ws.length : Int))).length ≤ ss.length := by rw [cut_1k]; simp; omega
                      have allF := List.all_eq_true.mp q
                      refine keep_c (b := nilF) (xs := ws ++ cutD ss (some 1) (some (ws.length : Int))) (fuelBig (by rw [List.length_append]; omega)) (by rw [List.length_append]; omega) (by simp) (it_tup ?_) (fun d hd S' e => ?_) fun A t e2 => ?_
                      · simp only [wp_sC, wp_sN, wp_ret, wp_asg, wp_par, wp_sif, wp_sx, wp_and_, wp_or_, wp_not, wp_neg, wp_cmp, wp_chain, wp_if, wp_call, wp_callK, wp_fn, wp_ix, wp_bin, wp_tup, wp_lst, wp_cons, wp_nil, wp_con, wp_var, wp_gn, fl_nx, fl_rt, ed_rt, setsL, List.getElem?_cons_zero, List.getElem?_cons_succ, Option.some.injEq, exists_eq_left', List.set_cons_zero, List.set_cons_succ, wp_ok, wp_map, truth, cmpE, eq_int, Option.map_some, ix0, ix1, wp_sl, wp_oS, slE, partI, bin_cat (show ws.length + (cutD ss (some 1) (some (ws.length : Int))).length ≤ 100000 by omega)]
                        exact ⟨trivial, .refl⟩
                      · simp only [wipeL, List.foldl_cons, List.foldl_nil]
                        have hd' : d ∈ ws ++ ss := (List.mem_append.mp hd).elim (fun h => List.mem_append.mpr (.inl h)) fun h => List.mem_append.mpr (.inr (by rw [cut_1k] at h; exact List.mem_of_mem_take (List.mem_of_mem_drop h)))
                        obtain ⟨x, y, rfl⟩ := fr_yes (badF_iff.mp (allF d hd')).1
                        simp only [wp_sC, wp_sN, wp_ret, wp_asg, wp_par, wp_sif, wp_sx, wp_and_, wp_or_, wp_not, wp_neg, wp_cmp, wp_chain, wp_if, wp_call, wp_callK, wp_fn, wp_ix, wp_bin, wp_tup, wp_lst, wp_cons, wp_nil, wp_con, wp_var, wp_gn, fl_nx, fl_rt, ed_rt, setsL, List.getElem?_cons_zero, List.getElem?_cons_succ, Option.some.injEq, exists_eq_left', List.set_cons_zero, List.set_cons_succ, wp_ok, wp_map, truth, cmpE, eq_int, Option.map_some, ix0]
                        exact ⟨rfl, .refl⟩
                      · rw [eq_kept (by omega) e2 gall2]
                        refine ⟨_, rfl, ?_, e.trans (kept_ext e2)⟩
                        rw [Bool.true_and]
                · simp only [k3, decide_false, Bool.not_false, if_true]
                  exact ⟨by rw [line_len (by omega)], .refl⟩
              | _ =>
                simp only [wp_sC, wp_sN, wp_ret, wp_asg, wp_par, wp_sif, wp_sx, wp_and_, wp_or_, wp_not, wp_neg, wp_cmp, wp_chain, wp_if, wp_call, wp_callK, wp_fn, wp_ix, wp_bin, wp_tup, wp_lst, wp_cons, wp_nil, wp_con, wp_var, wp_gn, fl_nx, fl_rt, ed_rt, setsL, List.getElem?_cons_zero, List.getElem?_cons_succ, Option.some.injEq, exists_eq_left', List.set_cons_zero, List.set_cons_succ, wp_ok, wp_map, truth, cmpE, eq_int, Option.map_some, isi_tup (gd_ok hL gb), isTupD, Bool.not_false, if_true]
                exact ⟨by rw [line_ty (.inr rfl)], .refl⟩
        | _ =>
          simp only [isTupD, Bool.not_false, if_true]
          exact ⟨by rw [line_ty (.inl rfl)], .refl⟩
    · simp only [wp_sC, wp_sN, wp_ret, wp_asg, wp_par, wp_sif, wp_sx, wp_and_, wp_or_, wp_not, wp_neg, wp_cmp, wp_chain, wp_if, wp_call, wp_callK, wp_fn, wp_ix, wp_bin, wp_tup, wp_lst, wp_cons, wp_nil, wp_con, wp_var, wp_gn, fl_nx, fl_rt, ed_rt, setsL, List.getElem?_cons_zero, List.getElem?_cons_succ, Option.some.injEq, exists_eq_left', List.set_cons_zero, List.set_cons_succ, wp_ok, wp_map, truth, cmpE, eq_int, Option.map_some, fn_len, h2, decide_false, Bool.not_false, if_true]
      refine ⟨?_, .refl⟩
      rw [line_no (by omega)]
  | _ =>
    simp only [isTupD, Bool.not_false, if_true]
    exact ⟨rfl, .refl⟩
end K34
namespace K34
open PySem Mini
/-- a line, plainly -/
structure LineP (B : Int) (n : Nat) (xs ys : List D) : Prop where
  n1 : 1 ≤ n
  n8 : n ≤ 8
  lx : xs.length = n
  ly : ys.length = n + 1
  fx : ∀ x ∈ xs, Fq B x ∧ 0 < num x
  fy : ∀ y ∈ ys, Fq B y ∧ 0 ≤ num y
  inn : ∀ i y, ys[i]? = some y → 0 < i → i < n → 0 < num y
abbrev lnD (xs ys : List D) : D := .tup [.tup xs, .tup ys]
theorem Fq.isF {B : Int} {d : D} (h : Fq B d) : isFraction d = true := by
  have h1 := h.pos
  have h2 := h.red
  rw [h.eq]
  show (decide (0 < den d) && decide (((Nat.gcd (num d).natAbs (den d).natAbs : Nat) : Int) = 1)) = true
  rw [h2, decide_eq_true (by omega : 0 < den d)]; rfl
theorem fq_of {c L k : Nat} {S : Sto} {d : D} (h : isFraction d = true) (g : gd c S L (k + 1) d = true) : Fq 1000000000000000000000000000000 d := by
  obtain ⟨a, b, rfl⟩ := fr_yes h
  have h : (decide (0 < b) && decide (((Nat.gcd a.natAbs b.natAbs : Nat) : Int) = 1)) = true := h
  rw [Bool.and_eq_true, decide_eq_true_eq, decide_eq_true_eq] at h
  have g := (gdT.mp g).2
  have g1 := gd_int (g (.int a) (by simp))
  have g2 := gd_int (g (.int b) (by simp))
  exact ⟨rfl, show _ ≤ a by omega, show a ≤ _ by omega, show 1 ≤ b by omega, show b ≤ _ by omega, show Nat.gcd a.natAbs b.natAbs = 1 by omega⟩
theorem LineP.mono {A B : Int} {n : Nat} {xs ys : List D} (hb : A ≤ B) (h : LineP A n xs ys) : LineP B n xs ys := ⟨h.n1, h.n8, h.lx, h.ly, fun x hx => ⟨(h.fx x hx).1.mono hb, (h.fx x hx).2⟩, fun x hx => ⟨(h.fy x hx).1.mono hb, (h.fy x hx).2⟩, h.inn⟩
theorem LineP.is {B : Int} {n : Nat} {xs ys : List D} (h : LineP B n xs ys) : isLine (lnD xs ys) = true := by
  have n1 := h.n1
  have n8 := h.n8
  have lx := h.lx
  have ly := h.ly
  rw [line_law (by omega) (by omega) (by omega), Bool.and_eq_true, List.all_eq_true, List.all_eq_true]
  refine ⟨fun x hx => badF_iff.mpr ?_, fun x hx => nilF_iff.mpr ?_⟩
  · rcases List.mem_append.mp hx with hx | hx
    · exact ⟨(h.fx x hx).1.isF, Int.le_of_lt (h.fx x hx).2⟩
    · exact ⟨(h.fy x hx).1.isF, (h.fy x hx).2⟩
  · rcases List.mem_append.mp hx with hx | hx
    · exact Int.ne_of_gt (h.fx x hx).2
    · rw [cut_1k] at hx
      obtain ⟨i, hi⟩ := List.getElem?_of_mem hx
      rw [List.getElem?_drop, List.getElem?_take] at hi
      split at hi
      · exact Int.ne_of_gt (h.inn _ x hi (by omega) (by omega))
      · cases hi
theorem line_of {c L k : Nat} {S : Sto} {d : D} (h : isLine d = true) (g : gd c S L (k + 3) d = true) : ∃ n xs ys, d = lnD xs ys ∧ LineP 1000000000000000000000000000000 n xs ys := by
  have hd : ∃ a b, d = .tup [a, b] := by
    unfold isLine at h
    split at h
    · exact ⟨_, _, rfl⟩
    · cases h
  obtain ⟨a, b, rfl⟩ := hd
  cases ta : isTupD a with
  | false => rw [line_ty (.inl ta)] at h; cases h
  | true =>
    cases tb : isTupD b with
    | false => rw [line_ty (.inr tb)] at h; cases h
    | true =>
      obtain ⟨xs, rfl⟩ : ∃ xs, a = .tup xs := by cases a <;> first | exact ⟨_, rfl⟩ | cases ta
      obtain ⟨ys, rfl⟩ : ∃ xs, b = .tup xs := by cases b <;> first | exact ⟨_, rfl⟩ | cases tb
      have hl : 1 ≤ xs.length ∧ xs.length ≤ 8 ∧ ys.length = xs.length + 1 := Decidable.byContradiction fun hn => by rw [line_len hn] at h; cases h
      rw [line_law hl.1 hl.2.1 hl.2.2, Bool.and_eq_true, List.all_eq_true, List.all_eq_true] at h
      have g := (gdT.mp g).2
      have g1 := (gdT.mp (g (.tup xs) (by simp))).2
      have g2 := (gdT.mp (g (.tup ys) (by simp))).2
      refine ⟨xs.length, xs, ys, rfl, hl.1, hl.2.1, rfl, hl.2.2, fun x hx => ?_, fun x hx => ?_, fun i y hy h0 hi => ?_⟩
      · have p := badF_iff.mp (h.1 x (List.mem_append.mpr (.inl hx)))
        have q := nilF_iff.mp (h.2 x (List.mem_append.mpr (.inl hx)))
        exact ⟨fq_of p.1 (g1 x hx), by omega⟩
      · have p := badF_iff.mp (h.1 x (List.mem_append.mpr (.inr hx)))
        exact ⟨fq_of p.1 (g2 x hx), p.2⟩
      · have p := badF_iff.mp (h.1 y (List.mem_append.mpr (.inr (List.mem_of_getElem? hy))))
        have q := nilF_iff.mp (h.2 y (List.mem_append.mpr (.inr (by
          rw [cut_1k]
          refine List.mem_of_getElem? (i := i - 1) ?_
          rw [List.getElem?_drop, List.getElem?_take, if_pos (by omega), show 1 + (i - 1) = i by omega]
          exact hy))))
        omega
/-! the order of rows -/
def aboveB (xs ys : List D) : Bool := (xs.zip ys).all fun q => decide (le q.2 q.1)
def slowB (xs ys xs' ys' : List D) : Bool := decide (xs.length = xs'.length) && aboveB xs xs' && aboveB ys' ys
def cmpB : D → Bool
  | .tup [a, b] => decide (0 ≤ bes a b)
  | _ => false
theorem cmpB_le {a b : D} : cmpB (.tup [a, b]) = decide (le b a) := by
  show decide (0 ≤ bes a b) = _
  have := bes_neg (a := a) (b := b)
  by_cases h : le b a
  · rw [decide_eq_true h, decide_eq_true]
    rcases Int.lt_or_le (bes a b) 0 with q | q
    · exact absurd h (this.mp q)
    · exact q
  · rw [decide_eq_false h, decide_eq_false]
    have := this.mpr h
    omega
theorem fm_map {f : D → D} : ∀ {xs : List D}, xs.filterMap (fun d => some (f d)) = xs.map f
  | [] => rfl
  | x :: xs => by
    rw [List.filterMap_cons, List.map_cons, fm_map (xs := xs)]
theorem all_bools {A t : Sto} {xs : List D} {g : D → Bool} {P : D → Sto → Prop} (h : P (.bl (xs.all g)) (A ++ .lst (xs.map fun d => D.bl (g d)) :: t)) : wp (fnE .all [.ref A.length] (A ++ .lst (xs.map fun d => D.bl (g d)) :: t)) P := by
  show wp (match (seqAt _ A.length).bind boolsOf with
    | some bs => Res.ok (.bl (bs.all id)) _
    | none => .no) P
  rw [mid_seq]
  show wp (match boolsOf (xs.map fun d => D.bl (g d)) with
    | some bs => Res.ok (.bl (bs.all id)) _
    | none => .no) P
  rw [boolsOf_map]
  refine wp_ok.mpr ?_
  show P (.bl ((xs.map g).all id)) _
  rw [List.all_map]
  exact h
theorem t_above {n : Nat} (hn : 3 ≤ n) {xs ys : List D} {B : Int} (hB : B ≤ 2 ^ 120) {S : Sto} (h1 : ∀ x ∈ xs, Fq B x) (h2 : ∀ x ∈ ys, Fq B x) (hl : xs.length ≤ 100) : wp ((P n).call 10 [.tup xs, .tup ys] S) fun r S' => r = .bl (aboveB xs ys) ∧ Ext S S' := by
  obtain ⟨m, rfl, hm⟩ := up hn
  rw [cP m 10 b10 rfl]
  refine wp_run rfl ?_
  show wp (evSs (P m) b10.body [some (.tup xs), some (.tup ys), none, none] S) _
  simp only [wp_sC, wp_sN, wp_ret, wp_asg, wp_par, wp_sif, wp_sx, wp_and_, wp_or_, wp_not, wp_neg, wp_cmp, wp_chain, wp_if, wp_call, wp_callK, wp_fn, wp_ix, wp_bin, wp_tup, wp_lst, wp_cons, wp_nil, wp_con, wp_var, wp_gn, fl_nx, fl_rt, ed_rt, setsL, List.getElem?_cons_zero, List.getElem?_cons_succ, Option.some.injEq, exists_eq_left', List.set_cons_zero, List.set_cons_succ, wp_ok, wp_map, truth, cmpE, eq_int, Option.map_some, b10]
  refine comp_fm (g := fun d => some (.bl (cmpB d))) (xs := (xs.zip ys).map fun q => D.tup [q.1, q.2]) ?_ ?_ (it_zipT (xs := xs) (ys := ys) ?_ fun S' e => ?_) (fun d hd S' e => ?_) fun A t e => ?_
  · refine fuelBig ?_
    rw [List.length_map, List.length_zip]
    omega
  · rw [List.length_map, List.length_zip]
    omega
  · simp only [wp_sC, wp_sN, wp_ret, wp_asg, wp_par, wp_sif, wp_sx, wp_and_, wp_or_, wp_not, wp_neg, wp_cmp, wp_chain, wp_if, wp_call, wp_callK, wp_fn, wp_ix, wp_bin, wp_tup, wp_lst, wp_cons, wp_nil, wp_con, wp_var, wp_gn, fl_nx, fl_rt, ed_rt, setsL, List.getElem?_cons_zero, List.getElem?_cons_succ, Option.some.injEq, exists_eq_left', List.set_cons_zero, List.set_cons_succ, wp_ok, wp_map, truth, cmpE, eq_int, Option.map_some]
    exact ⟨trivial, .refl⟩
  · simp only [wp_sC, wp_sN, wp_ret, wp_asg, wp_par, wp_sif, wp_sx, wp_and_, wp_or_, wp_not, wp_neg, wp_cmp, wp_chain, wp_if, wp_call, wp_callK, wp_fn, wp_ix, wp_bin, wp_tup, wp_lst, wp_cons, wp_nil, wp_con, wp_var, wp_gn, fl_nx, fl_rt, ed_rt, setsL, List.getElem?_cons_zero, List.getElem?_cons_succ, Option.some.injEq, exists_eq_left', List.set_cons_zero, List.set_cons_succ, wp_ok, wp_map, truth, cmpE, eq_int, Option.map_some]
    exact ⟨trivial, .refl⟩
  · obtain ⟨q, hq, rfl⟩ := List.mem_map.mp hd
    have hq := List.of_mem_zip hq
    unfold bodyC
    simp only [wipeL, List.foldl_cons, List.foldl_nil]
    simp only [wp_sC, wp_sN, wp_ret, wp_asg, wp_par, wp_sif, wp_sx, wp_and_, wp_or_, wp_not, wp_neg, wp_cmp, wp_chain, wp_if, wp_call, wp_callK, wp_fn, wp_ix, wp_bin, wp_tup, wp_lst, wp_cons, wp_nil, wp_con, wp_var, wp_gn, fl_nx, fl_rt, ed_rt, setsL, List.getElem?_cons_zero, List.getElem?_cons_succ, Option.some.injEq, exists_eq_left', List.set_cons_zero, List.set_cons_succ, wp_ok, wp_map, truth, cmpE, eq_int, Option.map_some, wp_bind, wp_gt, seqD, List.length_cons, List.length_nil, wp_gsC, wp_gsN, wp_tN]
    simp only [if_true, wp_bind, wp_cmp, wp_call, wp_cons, wp_nil, wp_var, wp_con, List.getElem?_cons_zero, List.getElem?_cons_succ, Option.some.injEq, exists_eq_left', wp_ok]
    refine wp_mono (t_cmpf (by omega) hB (h1 _ hq.1) (h2 _ hq.2)) fun r S1 ⟨er, es⟩ => ?_
    subst er es
    exact ⟨_, rfl, rfl, .refl⟩
  · rw [fm_map]
    refine all_bools ?_
    refine ⟨?_, e.trans ⟨_, rfl⟩⟩
    congr 1
    rw [List.all_map]
    unfold aboveB
    congr 1
    funext q
    exact cmpB_le
theorem t_slower {n : Nat} (hn : 4 ≤ n) {B : Int} (hB : B ≤ 2 ^ 120) {j k : Nat} {xs ys xs' ys' : List D} (h : LineP B j xs ys) (h' : LineP B k xs' ys') {S : Sto} : wp ((P n).call 11 [lnD xs ys, lnD xs' ys'] S) fun r S' => r = .bl (slowB xs ys xs' ys') ∧ Ext S S' := by
  obtain ⟨m, rfl, hm⟩ := up hn
  rw [cP m 11 b11 rfl]
  refine wp_run rfl ?_
  have n8 := h.n8
  have lx := h.lx
  have ly := h.ly
  have n8' := h'.n8
  have ly' := h'.ly
  show wp (evSs (P m) b11.body [some (lnD xs ys), some (lnD xs' ys')] S) _
  simp only [wp_sC, wp_sN, wp_ret, wp_asg, wp_par, wp_sif, wp_sx, wp_and_, wp_or_, wp_not, wp_neg, wp_cmp, wp_chain, wp_if, wp_call, wp_callK, wp_fn, wp_ix, wp_bin, wp_tup, wp_lst, wp_cons, wp_nil, wp_con, wp_var, wp_gn, fl_nx, fl_rt, ed_rt, setsL, List.getElem?_cons_zero, List.getElem?_cons_succ, Option.some.injEq, exists_eq_left', List.set_cons_zero, List.set_cons_succ, wp_ok, wp_map, truth, cmpE, eq_int, Option.map_some, b11, ix0, ix1, fn_len]
  unfold slowB
  by_cases hl : xs.length = xs'.length
  · have hl' : (xs.length : Int) = (xs'.length : Int) := by omega
    simp only [hl', hl, decide_true, if_true]
    refine wp_mono (t_above hm hB (fun x hx => (h.fx x hx).1) (fun x hx => (h'.fx x hx).1) (by omega)) fun r S1 ⟨er, e1⟩ => ?_
    subst er
    simp only [wp_sC, wp_sN, wp_ret, wp_asg, wp_par, wp_sif, wp_sx, wp_and_, wp_or_, wp_not, wp_neg, wp_cmp, wp_chain, wp_if, wp_call, wp_callK, wp_fn, wp_ix, wp_bin, wp_tup, wp_lst, wp_cons, wp_nil, wp_con, wp_var, wp_gn, fl_nx, fl_rt, ed_rt, setsL, List.getElem?_cons_zero, List.getElem?_cons_succ, Option.some.injEq, exists_eq_left', List.set_cons_zero, List.set_cons_succ, wp_ok, wp_map, truth, cmpE, eq_int, Option.map_some]
    cases q : aboveB xs xs' with
    | false =>
      simp only [Bool.false_eq_true, if_false]
      exact ⟨rfl, e1⟩
    | true =>
      simp only [if_true, Bool.true_and]
      exact wp_mono (t_above hm hB (fun x hx => (h'.fy x hx).1) (fun x hx => (h.fy x hx).1) (by omega)) fun r S2 ⟨er, e2⟩ => ⟨er, e1.trans e2⟩
  · have hl' : ¬ (xs.length : Int) = (xs'.length : Int) := by omega
    simp only [hl', hl, decide_false, Bool.false_eq_true, if_false]
    exact ⟨rfl, .refl⟩
/-- what a box is -/
def slowD : D → D → Bool
  | .tup [.tup xs, .tup ys], .tup [.tup xs', .tup ys'] => slowB xs ys xs' ys'
  | _, _ => false
def boxB : D → Bool
  | .tup [a, b] => isLine a && isLine b && slowD a b
  | _ => false
theorem box_len {xs : List D} (h : xs.length ≠ 2) : boxB (.tup xs) = false := by
  match xs, h with
  | [], _ => rfl
  | [_], _ => rfl
  | [_, _], h => exact absurd rfl h
  | _ :: _ :: _ :: _, _ => rfl
theorem t_is_box {n : Nat} (hn : 7 ≤ n) {c L k : Nat} {d : D} {S : Sto} (hL : L ≤ 1000) (h : Vd c S L (k + 4) d) : wp ((P n).call 12 [d] S) fun r S' => r = .bl (boxB d) ∧ Ext S S' := by
  obtain ⟨m, rfl, hm⟩ := up hn
  rw [cP m 12 b12 rfl]
  refine wp_run rfl ?_
  show wp (evSs (P m) b12.body [some d] S) _
  simp only [wp_sC, wp_sN, wp_ret, wp_asg, wp_par, wp_sif, wp_sx, wp_and_, wp_or_, wp_not, wp_neg, wp_cmp, wp_chain, wp_if, wp_call, wp_callK, wp_fn, wp_ix, wp_bin, wp_tup, wp_lst, wp_cons, wp_nil, wp_con, wp_var, wp_gn, fl_nx, fl_rt, ed_rt, setsL, List.getElem?_cons_zero, List.getElem?_cons_succ, Option.some.injEq, exists_eq_left', List.set_cons_zero, List.set_cons_succ, wp_ok, wp_map, truth, cmpE, eq_int, Option.map_some, b12, fn_isi, isi_tup h.1]
  cases d with
  | tup xs =>
    have h := h.2 rfl
    simp only [wp_sC, wp_sN, wp_ret, wp_asg, wp_par, wp_sif, wp_sx, wp_and_, wp_or_, wp_not, wp_neg, wp_cmp, wp_chain, wp_if, wp_call, wp_callK, wp_fn, wp_ix, wp_bin, wp_tup, wp_lst, wp_cons, wp_nil, wp_con, wp_var, wp_gn, fl_nx, fl_rt, ed_rt, setsL, List.getElem?_cons_zero, List.getElem?_cons_succ, Option.some.injEq, exists_eq_left', List.set_cons_zero, List.set_cons_succ, wp_ok, wp_map, truth, cmpE, eq_int, Option.map_some, isTupD, Bool.not_true, Bool.false_eq_true, if_false, fn_len]
    by_cases h2 : (xs.length : Int) = 2
    · have : xs.length = 2 := by omega
      match xs, this with
      | [a, b], _ =>
        have hg := (gdT.mp h).2
        have ga := hg a (by simp)
        have gb := hg b (by simp)
        simp only [wp_sC, wp_sN, wp_ret, wp_asg, wp_par, wp_sif, wp_sx, wp_and_, wp_or_, wp_not, wp_neg, wp_cmp, wp_chain, wp_if, wp_call, wp_callK, wp_fn, wp_ix, wp_bin, wp_tup, wp_lst, wp_cons, wp_nil, wp_con, wp_var, wp_gn, fl_nx, fl_rt, ed_rt, setsL, List.getElem?_cons_zero, List.getElem?_cons_succ, Option.some.injEq, exists_eq_left', List.set_cons_zero, List.set_cons_succ, wp_ok, wp_map, truth, cmpE, eq_int, Option.map_some, List.length_cons, List.length_nil, Nat.reduceAdd, Int.cast_ofNat_Int, decide_true, Bool.not_true, Bool.false_eq_true, if_false, ix0, ix1]
        refine wp_mono (t_is_line (by omega) (gd_ok hL ga)) fun r S1 ⟨er, e1⟩ => ?_
        subst er
        simp only [wp_sC, wp_sN, wp_ret, wp_asg, wp_par, wp_sif, wp_sx, wp_and_, wp_or_, wp_not, wp_neg, wp_cmp, wp_chain, wp_if, wp_call, wp_callK, wp_fn, wp_ix, wp_bin, wp_tup, wp_lst, wp_cons, wp_nil, wp_con, wp_var, wp_gn, fl_nx, fl_rt, ed_rt, setsL, List.getElem?_cons_zero, List.getElem?_cons_succ, Option.some.injEq, exists_eq_left', List.set_cons_zero, List.set_cons_succ, wp_ok, wp_map, truth, cmpE, eq_int, Option.map_some]
        cases qa : isLine a with
        | false =>
          simp only [wp_sC, wp_sN, wp_ret, wp_asg, wp_par, wp_sif, wp_sx, wp_and_, wp_or_, wp_not, wp_neg, wp_cmp, wp_chain, wp_if, wp_call, wp_callK, wp_fn, wp_ix, wp_bin, wp_tup, wp_lst, wp_cons, wp_nil, wp_con, wp_var, wp_gn, fl_nx, fl_rt, ed_rt, setsL, List.getElem?_cons_zero, List.getElem?_cons_succ, Option.some.injEq, exists_eq_left', List.set_cons_zero, List.set_cons_succ, wp_ok, wp_map, truth, cmpE, eq_int, Option.map_some, Bool.not_false, if_true]
          refine ⟨?_, e1⟩
          show _ = D.bl (isLine a && isLine b && slowD a b)
          rw [qa]; rfl
        | true =>
          simp only [wp_sC, wp_sN, wp_ret, wp_asg, wp_par, wp_sif, wp_sx, wp_and_, wp_or_, wp_not, wp_neg, wp_cmp, wp_chain, wp_if, wp_call, wp_callK, wp_fn, wp_ix, wp_bin, wp_tup, wp_lst, wp_cons, wp_nil, wp_con, wp_var, wp_gn, fl_nx, fl_rt, ed_rt, setsL, List.getElem?_cons_zero, List.getElem?_cons_succ, Option.some.injEq, exists_eq_left', List.set_cons_zero, List.set_cons_succ, wp_ok, wp_map, truth, cmpE, eq_int, Option.map_some, Bool.not_true, Bool.false_eq_true, if_false]
          refine wp_mono (t_is_line (by omega) (okD_ge e1.ge (gd_ok hL gb))) fun r S2 ⟨er, e2⟩ => ?_
          subst er
          simp only [wp_sC, wp_sN, wp_ret, wp_asg, wp_par, wp_sif, wp_sx, wp_and_, wp_or_, wp_not, wp_neg, wp_cmp, wp_chain, wp_if, wp_call, wp_callK, wp_fn, wp_ix, wp_bin, wp_tup, wp_lst, wp_cons, wp_nil, wp_con, wp_var, wp_gn, fl_nx, fl_rt, ed_rt, setsL, List.getElem?_cons_zero, List.getElem?_cons_succ, Option.some.injEq, exists_eq_left', List.set_cons_zero, List.set_cons_succ, wp_ok, wp_map, truth, cmpE, eq_int, Option.map_some]
          cases qb : isLine b with
          | false =>
            simp only [wp_sC, wp_sN, wp_ret, wp_asg, wp_par, wp_sif, wp_sx, wp_and_, wp_or_, wp_not, wp_neg, wp_cmp, wp_chain, wp_if, wp_call, wp_callK, wp_fn, wp_ix, wp_bin, wp_tup, wp_lst, wp_cons, wp_nil, wp_con, wp_var, wp_gn, fl_nx, fl_rt, ed_rt, setsL, List.getElem?_cons_zero, List.getElem?_cons_succ, Option.some.injEq, exists_eq_left', List.set_cons_zero, List.set_cons_succ, wp_ok, wp_map, truth, cmpE, eq_int, Option.map_some, Bool.not_false, if_true]
            refine ⟨?_, e1.trans e2⟩
            show _ = D.bl (isLine a && isLine b && slowD a b)
            rw [qb, Bool.and_false]; rfl
          | true =>
            simp only [wp_sC, wp_sN, wp_ret, wp_asg, wp_par, wp_sif, wp_sx, wp_and_, wp_or_, wp_not, wp_neg, wp_cmp, wp_chain, wp_if, wp_call, wp_callK, wp_fn, wp_ix, wp_bin, wp_tup, wp_lst, wp_cons, wp_nil, wp_con, wp_var, wp_gn, fl_nx, fl_rt, ed_rt, setsL, List.getElem?_cons_zero, List.getElem?_cons_succ, Option.some.injEq, exists_eq_left', List.set_cons_zero, List.set_cons_succ, wp_ok, wp_map, truth, cmpE, eq_int, Option.map_some, Bool.not_true, Bool.false_eq_true, if_false]
            obtain ⟨i, xs, ys, rfl, la⟩ := line_of qa ga
            obtain ⟨j, xs', ys', rfl, lb⟩ := line_of qb gb
            refine wp_mono (t_slower (by omega) (by decide) la lb) fun r S3 ⟨er, e3⟩ => ?_
            subst er
            refine ⟨?_, (e1.trans e2).trans e3⟩
            show _ = D.bl (isLine (lnD xs ys) && isLine (lnD xs' ys') && slowB xs ys xs' ys')
            rw [qa, qb]; rfl
    · simp only [wp_sC, wp_sN, wp_ret, wp_asg, wp_par, wp_sif, wp_sx, wp_and_, wp_or_, wp_not, wp_neg, wp_cmp, wp_chain, wp_if, wp_call, wp_callK, wp_fn, wp_ix, wp_bin, wp_tup, wp_lst, wp_cons, wp_nil, wp_con, wp_var, wp_gn, fl_nx, fl_rt, ed_rt, setsL, List.getElem?_cons_zero, List.getElem?_cons_succ, Option.some.injEq, exists_eq_left', List.set_cons_zero, List.set_cons_succ, wp_ok, wp_map, truth, cmpE, eq_int, Option.map_some, h2, decide_false, Bool.not_false, if_true]
      exact ⟨by rw [box_len (by omega)], .refl⟩
  | _ =>
    simp only [wp_sC, wp_sN, wp_ret, wp_asg, wp_par, wp_sif, wp_sx, wp_and_, wp_or_, wp_not, wp_neg, wp_cmp, wp_chain, wp_if, wp_call, wp_callK, wp_fn, wp_ix, wp_bin, wp_tup, wp_lst, wp_cons, wp_nil, wp_con, wp_var, wp_gn, fl_nx, fl_rt, ed_rt, setsL, List.getElem?_cons_zero, List.getElem?_cons_succ, Option.some.injEq, exists_eq_left', List.set_cons_zero, List.set_cons_succ, wp_ok, wp_map, truth, cmpE, eq_int, Option.map_some, isTupD, Bool.not_false, if_true]
    exact ⟨rfl, .refl⟩
theorem t_check_line {n : Nat} (hn : 7 ≤ n) {d : D} {S : Sto} (h : okD S d = true) (hl : isLine d = true) : wp ((P n).call 9 [d] S) fun r S' => Ext S S' := by
  obtain ⟨m, rfl, hm⟩ := up hn
  rw [cP m 9 b9 rfl]
  refine wp_run rfl ?_
  show wp (evSs (P m) b9.body [some d] S) _
  simp only [wp_sC, wp_sN, wp_ret, wp_asg, wp_par, wp_sif, wp_sx, wp_and_, wp_or_, wp_not, wp_neg, wp_cmp, wp_chain, wp_if, wp_call, wp_callK, wp_fn, wp_ix, wp_bin, wp_tup, wp_lst, wp_cons, wp_nil, wp_con, wp_var, wp_gn, fl_nx, fl_rt, ed_rt, setsL, List.getElem?_cons_zero, List.getElem?_cons_succ, Option.some.injEq, exists_eq_left', List.set_cons_zero, List.set_cons_succ, wp_ok, wp_map, truth, cmpE, eq_int, Option.map_some, b9]
  refine wp_mono (t_is_line (by omega) h) fun r S1 ⟨er, e1⟩ => ?_
  subst er
  simp only [wp_sC, wp_sN, wp_ret, wp_asg, wp_par, wp_sif, wp_sx, wp_and_, wp_or_, wp_not, wp_neg, wp_cmp, wp_chain, wp_if, wp_call, wp_callK, wp_fn, wp_ix, wp_bin, wp_tup, wp_lst, wp_cons, wp_nil, wp_con, wp_var, wp_gn, fl_nx, fl_rt, ed_rt, setsL, List.getElem?_cons_zero, List.getElem?_cons_succ, Option.some.injEq, exists_eq_left', List.set_cons_zero, List.set_cons_succ, wp_ok, wp_map, truth, cmpE, eq_int, Option.map_some, hl, Bool.not_true, Bool.false_eq_true, if_false, ed_nx]
  exact e1
theorem t_check_box {n : Nat} (hn : 8 ≤ n) {c L k : Nat} {d : D} {S : Sto} (hL : L ≤ 1000) (h : Vd c S L (k + 4) d) (hb : boxB d = true) : wp ((P n).call 13 [d] S) fun r S' => Ext S S' := by
  obtain ⟨m, rfl, hm⟩ := up hn
  rw [cP m 13 b13 rfl]
  refine wp_run rfl ?_
  show wp (evSs (P m) b13.body [some d] S) _
  simp only [wp_sC, wp_sN, wp_ret, wp_asg, wp_par, wp_sif, wp_sx, wp_and_, wp_or_, wp_not, wp_neg, wp_cmp, wp_chain, wp_if, wp_call, wp_callK, wp_fn, wp_ix, wp_bin, wp_tup, wp_lst, wp_cons, wp_nil, wp_con, wp_var, wp_gn, fl_nx, fl_rt, ed_rt, setsL, List.getElem?_cons_zero, List.getElem?_cons_succ, Option.some.injEq, exists_eq_left', List.set_cons_zero, List.set_cons_succ, wp_ok, wp_map, truth, cmpE, eq_int, Option.map_some, b13]
  refine wp_mono (t_is_box (by omega) hL h) fun r S1 ⟨er, e1⟩ => ?_
  subst er
  simp only [wp_sC, wp_sN, wp_ret, wp_asg, wp_par, wp_sif, wp_sx, wp_and_, wp_or_, wp_not, wp_neg, wp_cmp, wp_chain, wp_if, wp_call, wp_callK, wp_fn, wp_ix, wp_bin, wp_tup, wp_lst, wp_cons, wp_nil, wp_con, wp_var, wp_gn, fl_nx, fl_rt, ed_rt, setsL, List.getElem?_cons_zero, List.getElem?_cons_succ, Option.some.injEq, exists_eq_left', List.set_cons_zero, List.set_cons_succ, wp_ok, wp_map, truth, cmpE, eq_int, Option.map_some, hb, Bool.not_true, Bool.false_eq_true, if_false, ed_nx]
  exact e1
theorem t_in_box {n : Nat} (hn : 9 ≤ n) {c L k : Nat} {B : Int} (hB : B ≤ 2 ^ 120) {i j : Nat} {xs ys xs1 ys1 xs2 ys2 : List D} {S : Sto} (hL : L ≤ 1000) (h : gd c S L (k + 4) (.tup [lnD xs1 ys1, lnD xs2 ys2]) = true)
    (l : LineP B i xs ys) (l1 : LineP B j xs1 ys1) (l2 : LineP B j xs2 ys2) (hs : slowB xs1 ys1 xs2 ys2 = true) (hd : okD S (lnD xs ys) = true) :
    wp ((P n).call 14 [.tup [lnD xs1 ys1, lnD xs2 ys2], lnD xs ys] S) fun r S' => r = .bl (slowB xs1 ys1 xs ys && slowB xs ys xs2 ys2) ∧ Ext S S' := by
  obtain ⟨m, rfl, hm⟩ := up hn
  rw [cP m 14 b14 rfl]
  refine wp_run rfl ?_
  show wp (evSs (P m) b14.body [some (.tup [lnD xs1 ys1, lnD xs2 ys2]), some (lnD xs ys)] S) _
  simp only [wp_sC, wp_sN, wp_ret, wp_asg, wp_par, wp_sif, wp_sx, wp_and_, wp_or_, wp_not, wp_neg, wp_cmp, wp_chain, wp_if, wp_call, wp_callK, wp_fn, wp_ix, wp_bin, wp_tup, wp_lst, wp_cons, wp_nil, wp_con, wp_var, wp_gn, fl_nx, fl_rt, ed_rt, setsL, List.getElem?_cons_zero, List.getElem?_cons_succ, Option.some.injEq, exists_eq_left', List.set_cons_zero, List.set_cons_succ, wp_ok, wp_map, truth, cmpE, eq_int, Option.map_some, b14]
  have hb : boxB (.tup [lnD xs1 ys1, lnD xs2 ys2]) = true := by
    show (isLine (lnD xs1 ys1) && isLine (lnD xs2 ys2) && slowB xs1 ys1 xs2 ys2) = true
    rw [l1.is, l2.is, hs]; rfl
  refine wp_mono (t_check_box (by omega) hL (gd_vd hL h) hb) fun r S1 e1 => ?_
  refine wp_mono (t_check_line (by omega) (okD_ge e1.ge hd) l.is) fun r S2 e2 => ?_
  simp only [wp_sC, wp_sN, wp_ret, wp_asg, wp_par, wp_sif, wp_sx, wp_and_, wp_or_, wp_not, wp_neg, wp_cmp, wp_chain, wp_if, wp_call, wp_callK, wp_fn, wp_ix, wp_bin, wp_tup, wp_lst, wp_cons, wp_nil, wp_con, wp_var, wp_gn, fl_nx, fl_rt, ed_rt, setsL, List.getElem?_cons_zero, List.getElem?_cons_succ, Option.some.injEq, exists_eq_left', List.set_cons_zero, List.set_cons_succ, wp_ok, wp_map, truth, cmpE, eq_int, Option.map_some, ix0, ix1]
  refine wp_mono (t_slower (by omega) hB l1 l) fun r S3 ⟨er, e3⟩ => ?_
  subst er
  simp only [wp_sC, wp_sN, wp_ret, wp_asg, wp_par, wp_sif, wp_sx, wp_and_, wp_or_, wp_not, wp_neg, wp_cmp, wp_chain, wp_if, wp_call, wp_callK, wp_fn, wp_ix, wp_bin, wp_tup, wp_lst, wp_cons, wp_nil, wp_con, wp_var, wp_gn, fl_nx, fl_rt, ed_rt, setsL, List.getElem?_cons_zero, List.getElem?_cons_succ, Option.some.injEq, exists_eq_left', List.set_cons_zero, List.set_cons_succ, wp_ok, wp_map, truth, cmpE, eq_int, Option.map_some]
  cases q : slowB xs1 ys1 xs ys with
  | false =>
    simp only [Bool.false_eq_true, if_false]
    exact ⟨rfl, (e1.trans e2).trans e3⟩
  | true =>
    simp only [if_true]
    refine wp_mono (t_slower (by omega) hB l l2) fun r S4 ⟨er, e4⟩ => ?_
    subst er
    exact ⟨rfl, ((e1.trans e2).trans e3).trans e4⟩
end K34
namespace K34
open PySem Mini
/-! slots -/
def sD (b : Bool) (i : Nat) : D := .tup [.str (if b then "disc" else "shaft"), .int (0 + (i : Int))]
def slotsL (n : Nat) : List D := (List.range n).map (sD true) ++ (List.range (n + 1)).map (sD false)
theorem mem_slots {n : Nat} {d : D} : d ∈ slotsL n ↔ (∃ i, i < n ∧ d = sD true i) ∨ ∃ i, i < n + 1 ∧ d = sD false i := by
  unfold slotsL
  rw [List.mem_append, List.mem_map, List.mem_map]
  simp only [List.mem_range]
  exact ⟨fun h => h.elim (fun ⟨i, a, b⟩ => .inl ⟨i, a, b.symm⟩) fun ⟨i, a, b⟩ => .inr ⟨i, a, b.symm⟩, fun h => h.elim (fun ⟨i, a, b⟩ => .inl ⟨i, a, b.symm⟩) fun ⟨i, a, b⟩ => .inr ⟨i, a, b.symm⟩⟩
theorem slots_len {n : Nat} : (slotsL n).length = 2 * n + 1 := by
  unfold slotsL
  simp; omega
theorem eq_str {S : Sto} {a b : Str} : eqE S (.str a) (.str b) = (if SeqAt.shaped (.str a) && SeqAt.shaped (.str b) then some (PyData.eqv (.str a) (.str b)) else none) := rfl
theorem eq_dd {S : Sto} : eqE S (.str "disc") (.str "disc") = some true := by rw [eq_str]; decide +kernel
theorem eq_sd {S : Sto} : eqE S (.str "shaft") (.str "disc") = some false := by rw [eq_str]; decide +kernel
theorem eq_ss {S : Sto} : eqE S (.str "shaft") (.str "shaft") = some true := by rw [eq_str]; decide +kernel
theorem eq_ds {S : Sto} : eqE S (.str "disc") (.str "shaft") = some false := by rw [eq_str]; decide +kernel
theorem eq_sD {S : Sto} {b : Bool} : eqE S (.str (if b then "disc" else "shaft")) (.str "disc") = some b := by
  cases b
  · exact eq_sd
  · exact eq_dd
theorem eq_sS {S : Sto} {b : Bool} : eqE S (.str (if b then "disc" else "shaft")) (.str "shaft") = some (!b) := by
  cases b
  · exact eq_ss
  · exact eq_ds
theorem bodyC_pure {p : Pg} {v : Nat} {elt : Ex} {ρ : Mini.Loc} {d : D} {S : Sto} {Q : Option D → Sto → Prop} (h : wp (evE p elt (ρ.set v (some d)) S) fun r S' => Q (some r) S') : wp (bodyC p (.nm v) [] elt ρ d S) Q := by
  unfold bodyC
  simp only [wp_bind, wp_gn, wp_tN, if_true, wp_ok]
  exact h
theorem t_slots {n : Nat} (hn : 1 ≤ n) {xs : List D} {b : D} {S : Sto} (hl : xs.length ≤ 900) : wp ((P n).call 29 [.tup [.tup xs, b]] S) fun r S' => Ext S S' ∧ ∃ l, r = .ref l ∧ S'[l]? = some (.lst (slotsL xs.length)) ∧ S.length ≤ l := by
  obtain ⟨m, rfl, hm⟩ := up hn
  rw [cP m 29 b29 rfl]
  refine wp_run rfl ?_
  show wp (evSs (P m) b29.body [some (.tup [.tup xs, b]), none, none] S) _
  simp only [wp_sC, wp_sN, wp_ret, wp_asg, wp_par, wp_sif, wp_sx, wp_and_, wp_or_, wp_not, wp_neg, wp_cmp, wp_chain, wp_if, wp_call, wp_callK, wp_fn, wp_ix, wp_bin, wp_tup, wp_lst, wp_cons, wp_nil, wp_con, wp_var, wp_gn, fl_nx, fl_rt, ed_rt, setsL, List.getElem?_cons_zero, List.getElem?_cons_succ, Option.some.injEq, exists_eq_left', List.set_cons_zero, List.set_cons_succ, wp_ok, wp_map, truth, cmpE, eq_int, Option.map_some, b29, ix0, fn_len]
  refine comp_fm (g := fun d => some (.tup [.str "disc", d])) ?_ ?_ (it_rng (n := xs.length) (by omega) ?_) (fun d hd S' e => bodyC_pure ?_) fun A t e => ?_
  · refine fuelBig ?_
    simp; omega
  · simp; omega
  · simp only [wp_sC, wp_sN, wp_ret, wp_asg, wp_par, wp_sif, wp_sx, wp_and_, wp_or_, wp_not, wp_neg, wp_cmp, wp_chain, wp_if, wp_call, wp_callK, wp_fn, wp_ix, wp_bin, wp_tup, wp_lst, wp_cons, wp_nil, wp_con, wp_var, wp_gn, fl_nx, fl_rt, ed_rt, setsL, List.getElem?_cons_zero, List.getElem?_cons_succ, Option.some.injEq, exists_eq_left', List.set_cons_zero, List.set_cons_succ, wp_ok, wp_map, truth, cmpE, eq_int, Option.map_some]
    exact ⟨trivial, .refl⟩
  · simp only [wipeL, List.foldl_cons, List.foldl_nil]
    simp only [wp_sC, wp_sN, wp_ret, wp_asg, wp_par, wp_sif, wp_sx, wp_and_, wp_or_, wp_not, wp_neg, wp_cmp, wp_chain, wp_if, wp_call, wp_callK, wp_fn, wp_ix, wp_bin, wp_tup, wp_lst, wp_cons, wp_nil, wp_con, wp_var, wp_gn, fl_nx, fl_rt, ed_rt, setsL, List.getElem?_cons_zero, List.getElem?_cons_succ, Option.some.injEq, exists_eq_left', List.set_cons_zero, List.set_cons_succ, wp_ok, wp_map, truth, cmpE, eq_int, Option.map_some]
    exact ⟨trivial, .refl⟩
  · have q : ((xs.length + 1 : Nat) : Int) = (xs.length : Int) + 1 := by omega
    rw [fm_map (f := fun d => .tup [.str "disc", d]), List.map_map]
    refine comp_fm (g := fun d => some (.tup [.str "shaft", d])) ?_ ?_ (it_rng (n := xs.length + 1) (by omega) ?_) (fun d hd S' e => bodyC_pure ?_) fun A2 t2 e2 => ?_
    · refine fuelBig ?_
      simp; omega
    · simp; omega
    · simp only [wp_sC, wp_sN, wp_ret, wp_asg, wp_par, wp_sif, wp_sx, wp_and_, wp_or_, wp_not, wp_neg, wp_cmp, wp_chain, wp_if, wp_call, wp_callK, wp_fn, wp_ix, wp_bin, wp_tup, wp_lst, wp_cons, wp_nil, wp_con, wp_var, wp_gn, fl_nx, fl_rt, ed_rt, setsL, List.getElem?_cons_zero, List.getElem?_cons_succ, Option.some.injEq, exists_eq_left', List.set_cons_zero, List.set_cons_succ, wp_ok, wp_map, truth, cmpE, eq_int, Option.map_some, bin_add, q]
      exact ⟨trivial, .refl⟩
    · simp only [wipeL, List.foldl_cons, List.foldl_nil]
      simp only [wp_sC, wp_sN, wp_ret, wp_asg, wp_par, wp_sif, wp_sx, wp_and_, wp_or_, wp_not, wp_neg, wp_cmp, wp_chain, wp_if, wp_call, wp_callK, wp_fn, wp_ix, wp_bin, wp_tup, wp_lst, wp_cons, wp_nil, wp_con, wp_var, wp_gn, fl_nx, fl_rt, ed_rt, setsL, List.getElem?_cons_zero, List.getElem?_cons_succ, Option.some.injEq, exists_eq_left', List.set_cons_zero, List.set_cons_succ, wp_ok, wp_map, truth, cmpE, eq_int, Option.map_some]
      exact ⟨trivial, .refl⟩
    · rw [fm_map (f := fun d => .tup [.str "shaft", d]), List.map_map]
      have k1 : A2[A.length]? = some (.lst ((List.range xs.length).map (sD true))) := e2.get (by rw [List.getElem?_append_right (Nat.le_refl _), Nat.sub_self]; rfl)
      have k2 := lst_c (Ext.get (B := A2 ++ Cl.lst ((List.range (xs.length + 1)).map (sD false)) :: t2) ⟨_, rfl⟩ k1)
      have k3 : lstAt (A2 ++ Cl.lst ((List.range (xs.length + 1)).map (sD false)) :: t2) A2.length = some ((List.range (xs.length + 1)).map (sD false)) := mid_lst
      have k4 := bin_catL k2 k3 (by simp; omega)
      have ee : Ext S (A2 ++ Cl.lst ((List.range (xs.length + 1)).map (sD false)) :: t2) := ((e.trans ⟨_, rfl⟩).trans e2).trans ⟨_, rfl⟩
      show wp (binE .add (.ref A.length) (.ref A2.length) (A2 ++ Cl.lst ((List.range (xs.length + 1)).map (sD false)) :: t2)) _
      rw [k4, wp_ok]
      refine ⟨ee.trans .one, _, rfl, at_new, ?_⟩
      obtain ⟨u, hu⟩ := ee
      rw [hu]; simp
def pick (b : Bool) (xs ys : List D) : List D := if b then xs else ys
theorem atI_s {xs : List D} {i : Nat} (h : i < xs.length) : L2.atI xs (0 + (i : Int)) = xs[i]? := by
  rw [Int.zero_add]; exact atI_n h
theorem ixs0 {b : Bool} {i : Nat} {S : Sto} : ixE S (sD b i) (.int 0) = some (.str (if b then "disc" else "shaft")) := rfl
theorem ixs1 {b : Bool} {i : Nat} {S : Sto} : ixE S (sD b i) (.int 1) = some (.int (0 + (i : Int))) := rfl
theorem t_held {n : Nat} (hn : 1 ≤ n) {xs ys : List D} {b : Bool} {i : Nat} {d : D} {S : Sto} (h : (pick b xs ys)[i]? = some d) : wp ((P n).call 31 [lnD xs ys, sD b i] S) fun r S' => r = d ∧ S' = S := by
  obtain ⟨m, rfl, hm⟩ := up hn
  rw [cP m 31 b31 rfl]
  refine wp_run rfl ?_
  have hi : i < (pick b xs ys).length := (List.getElem?_eq_some_iff.mp h).1
  show wp (evSs (P m) b31.body [some (lnD xs ys), some (sD b i)] S) _
  have hx : ixE S (.tup (pick b xs ys)) (.int (0 + (i : Int))) = some d := (atI_s hi).trans h
  simp only [wp_sC, wp_sN, wp_ret, wp_asg, wp_par, wp_sif, wp_sx, wp_and_, wp_or_, wp_not, wp_neg, wp_cmp, wp_chain, wp_if, wp_call, wp_callK, wp_fn, wp_ix, wp_bin, wp_tup, wp_lst, wp_cons, wp_nil, wp_con, wp_var, wp_gn, fl_nx, fl_rt, ed_rt, setsL, List.getElem?_cons_zero, List.getElem?_cons_succ, Option.some.injEq, exists_eq_left', List.set_cons_zero, List.set_cons_succ, wp_ok, wp_map, truth, cmpE, eq_int, Option.map_some, b31, ixs0, eq_sD, ixs1, ix0, ix1]
  cases b with
  | true =>
    have hx : ixE S (.tup xs) (.int (0 + (i : Int))) = some d := hx
    simp only [wp_sC, wp_sN, wp_ret, wp_asg, wp_par, wp_sif, wp_sx, wp_and_, wp_or_, wp_not, wp_neg, wp_cmp, wp_chain, wp_if, wp_call, wp_callK, wp_fn, wp_ix, wp_bin, wp_tup, wp_lst, wp_cons, wp_nil, wp_con, wp_var, wp_gn, fl_nx, fl_rt, ed_rt, setsL, List.getElem?_cons_zero, List.getElem?_cons_succ, Option.some.injEq, exists_eq_left', List.set_cons_zero, List.set_cons_succ, wp_ok, wp_map, truth, cmpE, eq_int, Option.map_some, if_true, hx]
    exact ⟨trivial, trivial⟩
  | false =>
    have hx : ixE S (.tup ys) (.int (0 + (i : Int))) = some d := hx
    simp only [wp_sC, wp_sN, wp_ret, wp_asg, wp_par, wp_sif, wp_sx, wp_and_, wp_or_, wp_not, wp_neg, wp_cmp, wp_chain, wp_if, wp_call, wp_callK, wp_fn, wp_ix, wp_bin, wp_tup, wp_lst, wp_cons, wp_nil, wp_con, wp_var, wp_gn, fl_nx, fl_rt, ed_rt, setsL, List.getElem?_cons_zero, List.getElem?_cons_succ, Option.some.injEq, exists_eq_left', List.set_cons_zero, List.set_cons_succ, wp_ok, wp_map, truth, cmpE, eq_int, Option.map_some, Bool.false_eq_true, if_false, hx]
    exact ⟨trivial, trivial⟩
theorem t_put {n : Nat} (hn : 1 ≤ n) {xs ys : List D} {b : Bool} {i : Nat} {v : D} {S : Sto} (hi : i < (pick b xs ys).length) : wp ((P n).call 30 [lnD xs ys, sD b i, v] S) fun r S' => r = lnD (if b then xs.set i v else xs) (if b then ys else ys.set i v) ∧ Ext S S' := by
  obtain ⟨m, rfl, hm⟩ := up hn
  rw [cP m 30 b30 rfl]
  refine wp_run rfl ?_
  have hx : L2.ixN (pick b xs ys).length (0 + (i : Int)) = some i := by
    rw [Int.zero_add]
    unfold L2.ixN
    rw [if_pos (by omega), if_pos (by omega), Int.toNat_natCast]
  have a1 : (S ++ [Cl.lst xs] ++ [Cl.lst ys])[S.length]? = some (.lst xs) := by simp
  have a2 : (S ++ [Cl.lst xs] ++ [Cl.lst ys])[(S ++ [Cl.lst xs]).length]? = some (.lst ys) := at_new
  show wp (evSs (P m) b30.body [some (lnD xs ys), some (sD b i), some v, none, none] S) _
  simp only [wp_sC, wp_sN, wp_ret, wp_asg, wp_par, wp_sif, wp_sx, wp_and_, wp_or_, wp_not, wp_neg, wp_cmp, wp_chain, wp_if, wp_call, wp_callK, wp_fn, wp_ix, wp_bin, wp_tup, wp_lst, wp_cons, wp_nil, wp_con, wp_var, wp_gn, fl_nx, fl_rt, ed_rt, setsL, List.getElem?_cons_zero, List.getElem?_cons_succ, Option.some.injEq, exists_eq_left', List.set_cons_zero, List.set_cons_succ, wp_ok, wp_map, truth, cmpE, eq_int, Option.map_some, b30, ixs0, eq_sD, ixs1, ix0, ix1, fn_lst]
  cases b with
  | true =>
    have s1 := sto_c (d := v) a1 hx
    have u : (S ++ [Cl.lst xs] ++ [Cl.lst ys]).set S.length (.lst (xs.set i v)) = S ++ [Cl.lst (xs.set i v)] ++ [Cl.lst ys] := by simp
    rw [u] at s1
    have b1 : (S ++ [Cl.lst (xs.set i v)] ++ [Cl.lst ys])[S.length]? = some (.lst (xs.set i v)) := by simp
    have b2 : (S ++ [Cl.lst (xs.set i v)] ++ [Cl.lst ys])[(S ++ [Cl.lst xs]).length]? = some (.lst ys) := by simp
    simp only [wp_sC, wp_sN, wp_ret, wp_asg, wp_par, wp_sif, wp_sx, wp_and_, wp_or_, wp_not, wp_neg, wp_cmp, wp_chain, wp_if, wp_call, wp_callK, wp_fn, wp_ix, wp_bin, wp_tup, wp_lst, wp_cons, wp_nil, wp_con, wp_var, wp_gn, fl_nx, fl_rt, ed_rt, setsL, List.getElem?_cons_zero, List.getElem?_cons_succ, Option.some.injEq, exists_eq_left', List.set_cons_zero, List.set_cons_succ, wp_ok, wp_map, truth, cmpE, eq_int, Option.map_some, if_true, wp_gi, ixs1, s1, fn_tupR (seq_c b1), fn_tupR (seq_c b2)]
    exact ⟨trivial, ⟨_, List.append_assoc _ _ _⟩⟩
  | false =>
    have s1 := sto_c (d := v) a2 hx
    have u : (S ++ [Cl.lst xs] ++ [Cl.lst ys]).set (S ++ [Cl.lst xs]).length (.lst (ys.set i v)) = S ++ [Cl.lst xs] ++ [Cl.lst (ys.set i v)] := by simp
    rw [u] at s1
    have b1 : (S ++ [Cl.lst xs] ++ [Cl.lst (ys.set i v)])[S.length]? = some (.lst xs) := by simp
    have b2 : (S ++ [Cl.lst xs] ++ [Cl.lst (ys.set i v)])[(S ++ [Cl.lst xs]).length]? = some (.lst (ys.set i v)) := at_new
    simp only [wp_sC, wp_sN, wp_ret, wp_asg, wp_par, wp_sif, wp_sx, wp_and_, wp_or_, wp_not, wp_neg, wp_cmp, wp_chain, wp_if, wp_call, wp_callK, wp_fn, wp_ix, wp_bin, wp_tup, wp_lst, wp_cons, wp_nil, wp_con, wp_var, wp_gn, fl_nx, fl_rt, ed_rt, setsL, List.getElem?_cons_zero, List.getElem?_cons_succ, Option.some.injEq, exists_eq_left', List.set_cons_zero, List.set_cons_succ, wp_ok, wp_map, truth, cmpE, eq_int, Option.map_some, Bool.false_eq_true, if_false, wp_gi, ixs1, s1, fn_tupR (seq_c b1), fn_tupR (seq_c b2)]
    exact ⟨trivial, ⟨_, List.append_assoc _ _ _⟩⟩
/-- a list in the store, walked: each of its items asked, False told at the first bad one -/
theorem scan_wp {p : Pg} {t : Tg} {it : It} {body : List St} {ρ : Mini.Loc} {S : Sto} {xs : List D} {bad : D → Bool} {Q : Fl → Sto → Prop} (R : Mini.Loc → Prop) (hf : xs.length < p.fuel) (hR : R ρ)
    (hit : wp (evI p it ρ S) fun src S1 => Ext S S1 ∧ ∀ i S', Ext S1 S' → src i S' = srcL xs i S')
    (hb : ∀ d ∈ xs, ∀ S' ρ', Ext S S' → R ρ' → wp ((asg p t d ρ' S').bind fun ρ1 S1 => evSs p body ρ1 S1) fun f S1 => Ext S' S1 ∧ match f with
      | .nx ρ1 => bad d = false ∧ R ρ1
      | .rt e => bad d = true ∧ e = .bl false
      | .bk _ => False)
    (h1 : ∀ S', Ext S S' → (xs.all fun d => !bad d) = false → Q (.rt (.bl false)) S') (h2 : ∀ S' ρ', Ext S S' → R ρ' → (xs.all fun d => !bad d) = true → Q (.nx ρ') S') : wp (evS p (.for_ t it body) ρ S) Q := by
  rw [wp_for]
  refine wp_mono hit fun src S1 ⟨e1, hs⟩ => ?_
  refine forN_wp xs (fun i S' ρ' => Ext S1 S' ∧ R ρ' ∧ ∀ d ∈ xs.take i, bad d = false) (fun i S' ρ' h => hs i S' h.1) ?_ ?_ _ 0 _ _ (Nat.zero_le _) (by omega) ⟨.refl, hR, by simp⟩
  · rintro i S' ρ' d ⟨e2, hr, hd0⟩ hd
    refine wp_mono (hb d (List.mem_of_getElem? hd) S' ρ' (e1.trans e2) hr) fun f S3 ⟨e3, hf⟩ => ?_
    cases f with
    | nx ρ1 =>
      refine ⟨e2.trans e3, hf.2, fun x hx => ?_⟩
      rw [List.take_add_one, hd] at hx
      rcases List.mem_append.mp hx with hx | hx
      · exact hd0 x hx
      · have : x = d := by simpa using hx
        rw [this]
        exact hf.1
    | rt e =>
      obtain ⟨h3, rfl⟩ := hf
      refine h1 _ ((e1.trans e2).trans e3) ?_
      rw [Bool.eq_false_iff]
      intro ha
      have := List.all_eq_true.mp ha d (List.mem_of_getElem? hd)
      rw [h3] at this
      cases this
    | bk ρ1 => exact hf.elim
  · rintro S' ρ' ⟨e2, hr, hd0⟩
    refine h2 _ _ (e1.trans e2) hr (List.all_eq_true.mpr fun x hx => ?_)
    rw [List.take_length] at hd0
    rw [hd0 x hx]; rfl
theorem it_ref {p : Pg} {e : Ex} {ρ : Mini.Loc} {S : Sto} {xs : List D} (h : wp (evE p e ρ S) fun d S' => Ext S S' ∧ ∃ l, d = .ref l ∧ S'[l]? = some (.lst xs)) : wp (evI p (.val e) ρ S) fun src S1 => Ext S S1 ∧ ∀ i S', Ext S1 S' → src i S' = srcL xs i S' := by
  rw [wp_iv]
  refine wp_mono h fun d S' ⟨e1, l, e2, e3⟩ => ?_
  subst e2
  refine ⟨srcR l, ?_, e1, fun i S2 e4 => ?_⟩
  · show (match seqAt S' l with
    | some _ => some (srcR l)
    | none => none) = _
    rw [seq_c e3]
  · show srcR l i S2 = _
    unfold srcR
    rw [seq_c (e4.get e3)]
end K34
namespace K34
open PySem Mini
/-- the item there -/
def gt (xs : List D) (i : Nat) : D := xs[i]?.getD .non
theorem gt_of {xs : List D} {i : Nat} (h : i < xs.length) : xs[i]? = some (gt xs i) := by
  unfold gt
  rw [List.getElem?_eq_getElem h]; rfl
theorem gt_mem {xs : List D} {i : Nat} (h : i < xs.length) : gt xs i ∈ xs := List.mem_of_getElem? (gt_of h)
theorem above_iff {xs ys : List D} (h : xs.length = ys.length) : aboveB xs ys = true ↔ ∀ i, i < xs.length → le (gt ys i) (gt xs i) := by
  unfold aboveB
  rw [List.all_eq_true]
  constructor
  · intro a i hi
    have := a (gt xs i, gt ys i) (List.mem_of_getElem? (i := i) (by
      rw [List.zip, List.getElem?_zipWith, gt_of hi, gt_of (by omega)]))
    exact of_decide_eq_true this
  · intro a q hq
    obtain ⟨i, hi⟩ := List.getElem?_of_mem hq
    rw [List.zip, List.getElem?_zipWith] at hi
    by_cases hl : i < xs.length
    · rw [gt_of hl, gt_of (by omega)] at hi
      cases hi
      exact decide_eq_true (a i hl)
    · rw [List.getElem?_eq_none (by omega)] at hi
      cases hi
theorem slow_iff {B C : Int} {n k : Nat} {xs ys xs' ys' : List D} (h : LineP B n xs ys) (h' : LineP C k xs' ys') : slowB xs ys xs' ys' = true ↔ n = k ∧ (∀ i, i < n → le (gt xs' i) (gt xs i)) ∧ ∀ i, i < n + 1 → le (gt ys i) (gt ys' i) := by
  have lx := h.lx
  have ly := h.ly
  have lx' := h'.lx
  have ly' := h'.ly
  unfold slowB
  rw [Bool.and_eq_true, Bool.and_eq_true, decide_eq_true_eq]
  by_cases e : n = k
  · rw [above_iff (by omega), above_iff (by omega), lx, ly']
    subst e
    exact ⟨fun ⟨⟨a, b⟩, c⟩ => ⟨rfl, b, c⟩, fun ⟨a, b, c⟩ => ⟨⟨by omega, b⟩, c⟩⟩
  · exact ⟨fun ⟨⟨a, b⟩, c⟩ => by omega, fun ⟨a, b, c⟩ => absurd a e⟩
def boxBad (xs ys xs' ys' : List D) : D → Bool
  | .tup [.str s, .int i] => if s = ("disc" : Str) then decide (bes (gt xs i.toNat) (gt xs' i.toNat) < 0) else decide (0 < bes (gt ys i.toNat) (gt ys' i.toNat))
  | _ => false
def slotBad (f g : Nat → Bool) : D → Bool
  | .tup [.str s, .int i] => if s = ("disc" : Str) then f i.toNat else g i.toNat
  | _ => false
theorem slotBad_d {f g : Nat → Bool} {i : Nat} : slotBad f g (sD true i) = f i := by
  show (if ("disc" : Str) = ("disc" : Str) then f (0 + (i : Int)).toNat else g (0 + (i : Int)).toNat) = _
  rw [if_pos rfl, Int.zero_add, Int.toNat_natCast]
theorem slotBad_s {f g : Nat → Bool} {i : Nat} : slotBad f g (sD false i) = g i := by
  show (if ("shaft" : Str) = ("disc" : Str) then f (0 + (i : Int)).toNat else g (0 + (i : Int)).toNat) = _
  rw [if_neg (by decide +kernel), Int.zero_add, Int.toNat_natCast]
theorem slots_all {f g : Nat → Bool} {n : Nat} : ((slotsL n).all fun d => !slotBad f g d) = true ↔ (∀ i, i < n → f i = false) ∧ ∀ i, i < n + 1 → g i = false := by
  rw [List.all_eq_true]
  constructor
  · intro h
    refine ⟨fun i hi => ?_, fun i hi => ?_⟩
    · have := h _ (mem_slots.mpr (.inl ⟨i, hi, rfl⟩))
      rw [slotBad_d] at this
      simpa using this
    · have := h _ (mem_slots.mpr (.inr ⟨i, hi, rfl⟩))
      rw [slotBad_s] at this
      simpa using this
  · rintro ⟨h1, h2⟩ d hd
    rcases mem_slots.mp hd with ⟨i, hi, rfl⟩ | ⟨i, hi, rfl⟩
    · rw [slotBad_d, h1 i hi]; rfl
    · rw [slotBad_s, h2 i hi]; rfl
theorem LineP.gx {B : Int} {n i : Nat} {xs ys : List D} (h : LineP B n xs ys) (hi : i < n) : Fq B (gt xs i) := (h.fx _ (gt_mem (by have := h.lx; omega))).1
theorem LineP.gy {B : Int} {n i : Nat} {xs ys : List D} (h : LineP B n xs ys) (hi : i < n + 1) : Fq B (gt ys i) := (h.fy _ (gt_mem (by have := h.ly; omega))).1
theorem t_law_is_box {n : Nat} (hn : 6 ≤ n) {c L k : Nat} {d : D} {S : Sto} (hL : L ≤ 1000) (hk : k ≤ 14) (h : Vd c S L (k + 4) d) : wp ((P n).call 37 [d] S) fun r S' => r = .bl (boxB d) ∧ Ext S S' := by
  obtain ⟨m, rfl, hm⟩ := up hn
  rw [cP m 37 b37 rfl]
  refine wp_run rfl ?_
  show wp (evSs (P m) b37.body [some d, none, none] S) _
  simp only [wp_sC, wp_sN, wp_ret, wp_asg, wp_par, wp_sif, wp_sx, wp_and_, wp_or_, wp_not, wp_neg, wp_cmp, wp_chain, wp_if, wp_call, wp_callK, wp_fn, wp_ix, wp_bin, wp_tup, wp_lst, wp_cons, wp_nil, wp_con, wp_var, wp_gn, fl_nx, fl_rt, ed_rt, setsL, List.getElem?_cons_zero, List.getElem?_cons_succ, Option.some.injEq, exists_eq_left', List.set_cons_zero, List.set_cons_succ, wp_ok, wp_map, truth, cmpE, eq_int, Option.map_some, b37, fn_isi, isi_tup h.1]
  cases d with
  | tup xs =>
    have h := h.2 rfl
    simp only [wp_sC, wp_sN, wp_ret, wp_asg, wp_par, wp_sif, wp_sx, wp_and_, wp_or_, wp_not, wp_neg, wp_cmp, wp_chain, wp_if, wp_call, wp_callK, wp_fn, wp_ix, wp_bin, wp_tup, wp_lst, wp_cons, wp_nil, wp_con, wp_var, wp_gn, fl_nx, fl_rt, ed_rt, setsL, List.getElem?_cons_zero, List.getElem?_cons_succ, Option.some.injEq, exists_eq_left', List.set_cons_zero, List.set_cons_succ, wp_ok, wp_map, truth, cmpE, eq_int, Option.map_some, isTupD, Bool.not_true, Bool.false_eq_true, if_false, fn_len]
    by_cases h2 : (xs.length : Int) = 2
    · have : xs.length = 2 := by omega
      match xs, this with
      | [a, b], _ =>
        have hg := (gdT.mp h).2
        have ga := hg a (by simp)
        have gb := hg b (by simp)
        simp only [wp_sC, wp_sN, wp_ret, wp_asg, wp_par, wp_sif, wp_sx, wp_and_, wp_or_, wp_not, wp_neg, wp_cmp, wp_chain, wp_if, wp_call, wp_callK, wp_fn, wp_ix, wp_bin, wp_tup, wp_lst, wp_cons, wp_nil, wp_con, wp_var, wp_gn, fl_nx, fl_rt, ed_rt, setsL, List.getElem?_cons_zero, List.getElem?_cons_succ, Option.some.injEq, exists_eq_left', List.set_cons_zero, List.set_cons_succ, wp_ok, wp_map, truth, cmpE, eq_int, Option.map_some, List.length_cons, List.length_nil, Nat.reduceAdd, Int.cast_ofNat_Int, decide_true, Bool.not_true, Bool.false_eq_true, if_false, ix0, ix1]
        refine wp_mono (t_law_is_line (by omega) hL (by omega) (gd_vd hL ga)) fun r S1 ⟨er, e1⟩ => ?_
        subst er
        simp only [wp_sC, wp_sN, wp_ret, wp_asg, wp_par, wp_sif, wp_sx, wp_and_, wp_or_, wp_not, wp_neg, wp_cmp, wp_chain, wp_if, wp_call, wp_callK, wp_fn, wp_ix, wp_bin, wp_tup, wp_lst, wp_cons, wp_nil, wp_con, wp_var, wp_gn, fl_nx, fl_rt, ed_rt, setsL, List.getElem?_cons_zero, List.getElem?_cons_succ, Option.some.injEq, exists_eq_left', List.set_cons_zero, List.set_cons_succ, wp_ok, wp_map, truth, cmpE, eq_int, Option.map_some]
        cases qa : isLine a with
        | false =>
          simp only [Bool.not_false, if_true]
          refine ⟨?_, e1⟩
          show _ = D.bl (isLine a && isLine b && slowD a b)
          rw [qa]; rfl
        | true =>
          simp only [wp_sC, wp_sN, wp_ret, wp_asg, wp_par, wp_sif, wp_sx, wp_and_, wp_or_, wp_not, wp_neg, wp_cmp, wp_chain, wp_if, wp_call, wp_callK, wp_fn, wp_ix, wp_bin, wp_tup, wp_lst, wp_cons, wp_nil, wp_con, wp_var, wp_gn, fl_nx, fl_rt, ed_rt, setsL, List.getElem?_cons_zero, List.getElem?_cons_succ, Option.some.injEq, exists_eq_left', List.set_cons_zero, List.set_cons_succ, wp_ok, wp_map, truth, cmpE, eq_int, Option.map_some, Bool.not_true, Bool.false_eq_true, if_false]
          refine wp_mono (t_law_is_line (by omega) hL (by omega) (gd_vd hL (gd_chg e1.chg gb))) fun r S2 ⟨er, e2⟩ => ?_
          subst er
          simp only [wp_sC, wp_sN, wp_ret, wp_asg, wp_par, wp_sif, wp_sx, wp_and_, wp_or_, wp_not, wp_neg, wp_cmp, wp_chain, wp_if, wp_call, wp_callK, wp_fn, wp_ix, wp_bin, wp_tup, wp_lst, wp_cons, wp_nil, wp_con, wp_var, wp_gn, fl_nx, fl_rt, ed_rt, setsL, List.getElem?_cons_zero, List.getElem?_cons_succ, Option.some.injEq, exists_eq_left', List.set_cons_zero, List.set_cons_succ, wp_ok, wp_map, truth, cmpE, eq_int, Option.map_some]
          cases qb : isLine b with
          | false =>
            simp only [Bool.not_false, if_true]
            refine ⟨?_, e1.trans e2⟩
            show _ = D.bl (isLine a && isLine b && slowD a b)
            rw [qb, Bool.and_false]; rfl
          | true =>
            simp only [Bool.not_true, Bool.false_eq_true, if_false]
            obtain ⟨i, xs, ys, rfl, la⟩ := line_of qa ga
            obtain ⟨j, xs', ys', rfl, lb⟩ := line_of qb gb
            have lx := la.lx
            have lx' := lb.lx
            have ly := la.ly
            have ly' := lb.ly
            have n8 := la.n8
            have fin : boxB (.tup [lnD xs ys, lnD xs' ys']) = slowB xs ys xs' ys' := by
              show (isLine (lnD xs ys) && isLine (lnD xs' ys') && slowB xs ys xs' ys') = _
              rw [qa, qb]; rfl
            rw [fin]
            simp only [wp_sC, wp_sN, wp_ret, wp_asg, wp_par, wp_sif, wp_sx, wp_and_, wp_or_, wp_not, wp_neg, wp_cmp, wp_chain, wp_if, wp_call, wp_callK, wp_fn, wp_ix, wp_bin, wp_tup, wp_lst, wp_cons, wp_nil, wp_con, wp_var, wp_gn, fl_nx, fl_rt, ed_rt, setsL, List.getElem?_cons_zero, List.getElem?_cons_succ, Option.some.injEq, exists_eq_left', List.set_cons_zero, List.set_cons_succ, wp_ok, wp_map, truth, cmpE, eq_int, Option.map_some, ix0, ix1, fn_len]
            by_cases hl : (xs.length : Int) = xs'.length
            · simp only [hl, decide_true, Bool.not_true, Bool.false_eq_true, if_false]
              have hij : i = j := by omega
              subst hij
              refine scan_wp (xs := slotsL i) (bad := slotBad (fun q => decide (bes (gt xs q) (gt xs' q) < 0)) (fun q => decide (0 < bes (gt ys q) (gt ys' q)))) (fun ρ => ∃ u v, ρ = [some (.tup [lnD xs ys, lnD xs' ys']), u, v]) (fuelBig (by rw [slots_len]; omega)) ⟨_, _, rfl⟩ (it_ref ?_) ?_ ?_ ?_
              · simp only [wp_sC, wp_sN, wp_ret, wp_asg, wp_par, wp_sif, wp_sx, wp_and_, wp_or_, wp_not, wp_neg, wp_cmp, wp_chain, wp_if, wp_call, wp_callK, wp_fn, wp_ix, wp_bin, wp_tup, wp_lst, wp_cons, wp_nil, wp_con, wp_var, wp_gn, fl_nx, fl_rt, ed_rt, setsL, List.getElem?_cons_zero, List.getElem?_cons_succ, Option.some.injEq, exists_eq_left', List.set_cons_zero, List.set_cons_succ, wp_ok, wp_map, truth, cmpE, eq_int, Option.map_some, ix0]
                refine wp_mono (t_slots (by omega) (by omega)) fun r S3 ⟨e3, l, er, hl, _⟩ => ⟨e3, l, er, ?_⟩
                rw [hl, lx]
              · rintro d hd S3 ρ' e3 ⟨u, v, rfl⟩
                have two : (∃ q, q < i ∧ d = sD true q) ∨ ∃ q, q < i + 1 ∧ d = sD false q := mem_slots.mp hd
                rcases two with ⟨q, hq, rfl⟩ | ⟨q, hq, rfl⟩
                · rw [slotBad_d]
                  simp only [wp_sC, wp_sN, wp_ret, wp_asg, wp_par, wp_sif, wp_sx, wp_and_, wp_or_, wp_not, wp_neg, wp_cmp, wp_chain, wp_if, wp_call, wp_callK, wp_fn, wp_ix, wp_bin, wp_tup, wp_lst, wp_cons, wp_nil, wp_con, wp_var, wp_gn, fl_nx, fl_rt, ed_rt, setsL, List.getElem?_cons_zero, List.getElem?_cons_succ, Option.some.injEq, exists_eq_left', List.set_cons_zero, List.set_cons_succ, wp_ok, wp_map, truth, cmpE, eq_int, Option.map_some, wp_bind, ix0, ix1]
                  refine wp_mono (t_held (by omega) (b := true) (gt_of (xs := xs) (by omega))) fun r S4 ⟨er, es⟩ => ?_
                  subst er es
                  refine wp_mono (t_held (by omega) (b := true) (gt_of (xs := xs') (by omega))) fun r S4 ⟨er, es⟩ => ?_
                  subst er es
                  refine wp_mono (t_beside (by omega) (by decide) (la.gx hq) (lb.gx hq)) fun r S4 ⟨er, es⟩ => ?_
                  subst er es
                  simp only [wp_sC, wp_sN, wp_ret, wp_asg, wp_par, wp_sif, wp_sx, wp_and_, wp_or_, wp_not, wp_neg, wp_cmp, wp_chain, wp_if, wp_call, wp_callK, wp_fn, wp_ix, wp_bin, wp_tup, wp_lst, wp_cons, wp_nil, wp_con, wp_var, wp_gn, fl_nx, fl_rt, ed_rt, setsL, List.getElem?_cons_zero, List.getElem?_cons_succ, Option.some.injEq, exists_eq_left', List.set_cons_zero, List.set_cons_succ, wp_ok, wp_map, truth, cmpE, eq_int, Option.map_some, ixs0, eq_dd, eq_sd, eq_ds, eq_ss, if_true]
                  by_cases z : bes (gt xs q) (gt xs' q) < 0
                  · simp only [wp_sC, wp_sN, wp_ret, wp_asg, wp_par, wp_sif, wp_sx, wp_and_, wp_or_, wp_not, wp_neg, wp_cmp, wp_chain, wp_if, wp_call, wp_callK, wp_fn, wp_ix, wp_bin, wp_tup, wp_lst, wp_cons, wp_nil, wp_con, wp_var, wp_gn, fl_nx, fl_rt, ed_rt, setsL, List.getElem?_cons_zero, List.getElem?_cons_succ, Option.some.injEq, exists_eq_left', List.set_cons_zero, List.set_cons_succ, wp_ok, wp_map, truth, cmpE, eq_int, Option.map_some, z, decide_true, if_true, eq_dd]
                    exact ⟨.refl, trivial, trivial⟩
                  · simp only [wp_sC, wp_sN, wp_ret, wp_asg, wp_par, wp_sif, wp_sx, wp_and_, wp_or_, wp_not, wp_neg, wp_cmp, wp_chain, wp_if, wp_call, wp_callK, wp_fn, wp_ix, wp_bin, wp_tup, wp_lst, wp_cons, wp_nil, wp_con, wp_var, wp_gn, fl_nx, fl_rt, ed_rt, setsL, List.getElem?_cons_zero, List.getElem?_cons_succ, Option.some.injEq, exists_eq_left', List.set_cons_zero, List.set_cons_succ, wp_ok, wp_map, truth, cmpE, eq_int, Option.map_some, z, decide_false, Bool.false_eq_true, if_false, ixs0, Bool.not_true]
                    by_cases z2 : 0 < bes (gt xs q) (gt xs' q)
                    · simp only [wp_sC, wp_sN, wp_ret, wp_asg, wp_par, wp_sif, wp_sx, wp_and_, wp_or_, wp_not, wp_neg, wp_cmp, wp_chain, wp_if, wp_call, wp_callK, wp_fn, wp_ix, wp_bin, wp_tup, wp_lst, wp_cons, wp_nil, wp_con, wp_var, wp_gn, fl_nx, fl_rt, ed_rt, setsL, List.getElem?_cons_zero, List.getElem?_cons_succ, Option.some.injEq, exists_eq_left', List.set_cons_zero, List.set_cons_succ, wp_ok, wp_map, truth, cmpE, eq_int, Option.map_some, z2, decide_true, if_true, ixs0, eq_ds, eq_dd, Bool.not_true, Bool.false_eq_true, if_false]
                      exact ⟨.refl, trivial, _, _, rfl⟩
                    · simp only [wp_sC, wp_sN, wp_ret, wp_asg, wp_par, wp_sif, wp_sx, wp_and_, wp_or_, wp_not, wp_neg, wp_cmp, wp_chain, wp_if, wp_call, wp_callK, wp_fn, wp_ix, wp_bin, wp_tup, wp_lst, wp_cons, wp_nil, wp_con, wp_var, wp_gn, fl_nx, fl_rt, ed_rt, setsL, List.getElem?_cons_zero, List.getElem?_cons_succ, Option.some.injEq, exists_eq_left', List.set_cons_zero, List.set_cons_succ, wp_ok, wp_map, truth, cmpE, eq_int, Option.map_some, z2, decide_false, Bool.false_eq_true, if_false]
                      exact ⟨.refl, trivial, _, _, rfl⟩
                · rw [slotBad_s]
                  simp only [wp_sC, wp_sN, wp_ret, wp_asg, wp_par, wp_sif, wp_sx, wp_and_, wp_or_, wp_not, wp_neg, wp_cmp, wp_chain, wp_if, wp_call, wp_callK, wp_fn, wp_ix, wp_bin, wp_tup, wp_lst, wp_cons, wp_nil, wp_con, wp_var, wp_gn, fl_nx, fl_rt, ed_rt, setsL, List.getElem?_cons_zero, List.getElem?_cons_succ, Option.some.injEq, exists_eq_left', List.set_cons_zero, List.set_cons_succ, wp_ok, wp_map, truth, cmpE, eq_int, Option.map_some, wp_bind, ix0, ix1]
                  refine wp_mono (t_held (by omega) (b := false) (gt_of (xs := ys) (by omega))) fun r S4 ⟨er, es⟩ => ?_
                  subst er es
                  refine wp_mono (t_held (by omega) (b := false) (gt_of (xs := ys') (by omega))) fun r S4 ⟨er, es⟩ => ?_
                  subst er es
                  refine wp_mono (t_beside (by omega) (by decide) (la.gy hq) (lb.gy hq)) fun r S4 ⟨er, es⟩ => ?_
                  subst er es
                  simp only [wp_sC, wp_sN, wp_ret, wp_asg, wp_par, wp_sif, wp_sx, wp_and_, wp_or_, wp_not, wp_neg, wp_cmp, wp_chain, wp_if, wp_call, wp_callK, wp_fn, wp_ix, wp_bin, wp_tup, wp_lst, wp_cons, wp_nil, wp_con, wp_var, wp_gn, fl_nx, fl_rt, ed_rt, setsL, List.getElem?_cons_zero, List.getElem?_cons_succ, Option.some.injEq, exists_eq_left', List.set_cons_zero, List.set_cons_succ, wp_ok, wp_map, truth, cmpE, eq_int, Option.map_some, ixs0, eq_dd, eq_sd, eq_ds, eq_ss]
                  by_cases z2 : 0 < bes (gt ys q) (gt ys' q)
                  · have z : ¬ bes (gt ys q) (gt ys' q) < 0 := by omega
                    simp only [wp_sC, wp_sN, wp_ret, wp_asg, wp_par, wp_sif, wp_sx, wp_and_, wp_or_, wp_not, wp_neg, wp_cmp, wp_chain, wp_if, wp_call, wp_callK, wp_fn, wp_ix, wp_bin, wp_tup, wp_lst, wp_cons, wp_nil, wp_con, wp_var, wp_gn, fl_nx, fl_rt, ed_rt, setsL, List.getElem?_cons_zero, List.getElem?_cons_succ, Option.some.injEq, exists_eq_left', List.set_cons_zero, List.set_cons_succ, wp_ok, wp_map, truth, cmpE, eq_int, Option.map_some, z, z2, decide_true, decide_false, Bool.false_eq_true, if_false, if_true, ixs0, eq_ss, eq_sd, Bool.not_false]
                    exact ⟨.refl, trivial, trivial⟩
                  · by_cases z : bes (gt ys q) (gt ys' q) < 0
                    · simp only [wp_sC, wp_sN, wp_ret, wp_asg, wp_par, wp_sif, wp_sx, wp_and_, wp_or_, wp_not, wp_neg, wp_cmp, wp_chain, wp_if, wp_call, wp_callK, wp_fn, wp_ix, wp_bin, wp_tup, wp_lst, wp_cons, wp_nil, wp_con, wp_var, wp_gn, fl_nx, fl_rt, ed_rt, setsL, List.getElem?_cons_zero, List.getElem?_cons_succ, Option.some.injEq, exists_eq_left', List.set_cons_zero, List.set_cons_succ, wp_ok, wp_map, truth, cmpE, eq_int, Option.map_some, z, z2, decide_true, decide_false, Bool.false_eq_true, if_false, if_true, ixs0, eq_dd, eq_sd, eq_ds, eq_ss]
                      exact ⟨.refl, trivial, _, _, rfl⟩
                    · simp only [wp_sC, wp_sN, wp_ret, wp_asg, wp_par, wp_sif, wp_sx, wp_and_, wp_or_, wp_not, wp_neg, wp_cmp, wp_chain, wp_if, wp_call, wp_callK, wp_fn, wp_ix, wp_bin, wp_tup, wp_lst, wp_cons, wp_nil, wp_con, wp_var, wp_gn, fl_nx, fl_rt, ed_rt, setsL, List.getElem?_cons_zero, List.getElem?_cons_succ, Option.some.injEq, exists_eq_left', List.set_cons_zero, List.set_cons_succ, wp_ok, wp_map, truth, cmpE, eq_int, Option.map_some, z, z2, decide_true, decide_false, Bool.false_eq_true, if_false, if_true, ixs0, eq_dd, eq_sd, eq_ds, eq_ss]
                      exact ⟨.refl, trivial, _, _, rfl⟩
              · intro S3 e3 hf
                have : slowB xs ys xs' ys' = false := by
                  rw [Bool.eq_false_iff]
                  intro hs
                  have hs := (slow_iff la lb).mp hs
                  have := slots_all (n := i) (f := fun q => decide (bes (gt xs q) (gt xs' q) < 0)) (g := fun q => decide (0 < bes (gt ys q) (gt ys' q))) |>.mpr ⟨fun q hq => decide_eq_false fun z => bes_neg.mp z (hs.2.1 q hq), fun q hq => decide_eq_false fun z => bes_pos.mp z (hs.2.2 q hq)⟩
                  rw [this] at hf
                  cases hf
                simp only [wp_sC, wp_sN, wp_ret, wp_asg, wp_par, wp_sif, wp_sx, wp_and_, wp_or_, wp_not, wp_neg, wp_cmp, wp_chain, wp_if, wp_call, wp_callK, wp_fn, wp_ix, wp_bin, wp_tup, wp_lst, wp_cons, wp_nil, wp_con, wp_var, wp_gn, fl_nx, fl_rt, ed_rt, setsL, List.getElem?_cons_zero, List.getElem?_cons_succ, Option.some.injEq, exists_eq_left', List.set_cons_zero, List.set_cons_succ, wp_ok, wp_map, truth, cmpE, eq_int, Option.map_some]
                exact ⟨by rw [this], (e1.trans e2).trans e3⟩
              · rintro S3 ρ' e3 ⟨u, v, rfl⟩ hf
                have hh := slots_all.mp hf
                have : slowB xs ys xs' ys' = true := by
                  rw [slow_iff la lb]
                  refine ⟨rfl, fun q hq => Decidable.byContradiction fun z => ?_, fun q hq => Decidable.byContradiction fun z => ?_⟩
                  · exact of_decide_eq_false (hh.1 q hq) (bes_neg.mpr z)
                  · exact of_decide_eq_false (hh.2 q hq) (bes_pos.mpr z)
                simp only [wp_sC, wp_sN, wp_ret, wp_asg, wp_par, wp_sif, wp_sx, wp_and_, wp_or_, wp_not, wp_neg, wp_cmp, wp_chain, wp_if, wp_call, wp_callK, wp_fn, wp_ix, wp_bin, wp_tup, wp_lst, wp_cons, wp_nil, wp_con, wp_var, wp_gn, fl_nx, fl_rt, ed_rt, setsL, List.getElem?_cons_zero, List.getElem?_cons_succ, Option.some.injEq, exists_eq_left', List.set_cons_zero, List.set_cons_succ, wp_ok, wp_map, truth, cmpE, eq_int, Option.map_some]
                exact ⟨by rw [this], (e1.trans e2).trans e3⟩
            · simp only [hl, decide_false, Bool.not_false, if_true]
              refine ⟨?_, e1.trans e2⟩
              unfold slowB
              rw [decide_eq_false (by omega : ¬ xs.length = xs'.length)]; rfl
    · simp only [wp_sC, wp_sN, wp_ret, wp_asg, wp_par, wp_sif, wp_sx, wp_and_, wp_or_, wp_not, wp_neg, wp_cmp, wp_chain, wp_if, wp_call, wp_callK, wp_fn, wp_ix, wp_bin, wp_tup, wp_lst, wp_cons, wp_nil, wp_con, wp_var, wp_gn, fl_nx, fl_rt, ed_rt, setsL, List.getElem?_cons_zero, List.getElem?_cons_succ, Option.some.injEq, exists_eq_left', List.set_cons_zero, List.set_cons_succ, wp_ok, wp_map, truth, cmpE, eq_int, Option.map_some, h2, decide_false, Bool.not_false, if_true]
      exact ⟨by rw [box_len (by omega)], .refl⟩
  | _ =>
    simp only [wp_sC, wp_sN, wp_ret, wp_asg, wp_par, wp_sif, wp_sx, wp_and_, wp_or_, wp_not, wp_neg, wp_cmp, wp_chain, wp_if, wp_call, wp_callK, wp_fn, wp_ix, wp_bin, wp_tup, wp_lst, wp_cons, wp_nil, wp_con, wp_var, wp_gn, fl_nx, fl_rt, ed_rt, setsL, List.getElem?_cons_zero, List.getElem?_cons_succ, Option.some.injEq, exists_eq_left', List.set_cons_zero, List.set_cons_succ, wp_ok, wp_map, truth, cmpE, eq_int, Option.map_some, isTupD, Bool.not_false, if_true]
    exact ⟨rfl, .refl⟩
end K34
namespace K34
open PySem Mini
theorem bes_small {a b : D} : (bes a b).natAbs < 2 ^ 400 := by
  rcases bes_cases (a := a) (b := b) with h | h | h <;> rw [h.1] <;> decide +kernel
theorem t_is_within {n : Nat} (hn : 3 ≤ n) {B : Int} (hB : B ≤ 2 ^ 120) {i j : Nat} {xs ys xs1 ys1 xs2 ys2 : List D} {S : Sto}
    (l : LineP B i xs ys) (l1 : LineP B j xs1 ys1) (l2 : LineP B j xs2 ys2) (hs : slowB xs1 ys1 xs2 ys2 = true) :
    wp ((P n).call 35 [.tup [lnD xs1 ys1, lnD xs2 ys2], lnD xs ys] S) fun r S' => r = .bl (slowB xs1 ys1 xs ys && slowB xs ys xs2 ys2) ∧ Ext S S' := by
  obtain ⟨m, rfl, hm⟩ := up hn
  rw [cP m 35 b35 rfl]
  refine wp_run rfl ?_
  have lx := l.lx
  have lx1 := l1.lx
  have lx2 := l2.lx
  have ly := l.ly
  have ly1 := l1.ly
  have ly2 := l2.ly
  have n8 := l.n8
  have hs := (slow_iff l1 l2).mp hs
  show wp (evSs (P m) b35.body [some (.tup [lnD xs1 ys1, lnD xs2 ys2]), some (lnD xs ys), none, none, none, none] S) _
  simp only [wp_sC, wp_sN, wp_ret, wp_asg, wp_par, wp_sif, wp_sx, wp_and_, wp_or_, wp_not, wp_neg, wp_cmp, wp_chain, wp_if, wp_call, wp_callK, wp_fn, wp_ix, wp_bin, wp_tup, wp_lst, wp_cons, wp_nil, wp_con, wp_var, wp_gn, fl_nx, fl_rt, ed_rt, setsL, List.getElem?_cons_zero, List.getElem?_cons_succ, Option.some.injEq, exists_eq_left', List.set_cons_zero, List.set_cons_succ, wp_ok, wp_map, truth, cmpE, eq_int, Option.map_some, b35, ix0, ix1, fn_len]
  by_cases hl : (xs.length : Int) = xs1.length
  · simp only [hl, decide_true, Bool.not_true, Bool.false_eq_true, if_false]
    have hij : i = j := by omega
    subst hij
    refine scan_wp (xs := slotsL i) (bad := slotBad (fun q => decide (0 < bes (gt xs q) (gt xs1 q) * bes (gt xs q) (gt xs2 q))) (fun q => decide (0 < bes (gt ys q) (gt ys1 q) * bes (gt ys q) (gt ys2 q)))) (fun ρ => ∃ u v w z, ρ = [some (.tup [lnD xs1 ys1, lnD xs2 ys2]), some (lnD xs ys), u, v, w, z]) (fuelBig (by rw [slots_len]; omega)) ⟨_, _, _, _, rfl⟩ (it_ref ?_) ?_ ?_ ?_
    · simp only [wp_sC, wp_sN, wp_ret, wp_asg, wp_par, wp_sif, wp_sx, wp_and_, wp_or_, wp_not, wp_neg, wp_cmp, wp_chain, wp_if, wp_call, wp_callK, wp_fn, wp_ix, wp_bin, wp_tup, wp_lst, wp_cons, wp_nil, wp_con, wp_var, wp_gn, fl_nx, fl_rt, ed_rt, setsL, List.getElem?_cons_zero, List.getElem?_cons_succ, Option.some.injEq, exists_eq_left', List.set_cons_zero, List.set_cons_succ, wp_ok, wp_map, truth, cmpE, eq_int, Option.map_some]
      refine wp_mono (t_slots (by omega) (by omega)) fun r S3 ⟨e3, l, er, hl, _⟩ => ⟨e3, l, er, ?_⟩
      rw [hl, lx]
    · rintro d hd S3 ρ' e3 ⟨u, v, w, z, rfl⟩
      have two : (∃ q, q < i ∧ d = sD true q) ∨ ∃ q, q < i + 1 ∧ d = sD false q := mem_slots.mp hd
      rcases two with ⟨q, hq, rfl⟩ | ⟨q, hq, rfl⟩
      · rw [slotBad_d]
        simp only [wp_sC, wp_sN, wp_ret, wp_asg, wp_par, wp_sif, wp_sx, wp_and_, wp_or_, wp_not, wp_neg, wp_cmp, wp_chain, wp_if, wp_call, wp_callK, wp_fn, wp_ix, wp_bin, wp_tup, wp_lst, wp_cons, wp_nil, wp_con, wp_var, wp_gn, fl_nx, fl_rt, ed_rt, setsL, List.getElem?_cons_zero, List.getElem?_cons_succ, Option.some.injEq, exists_eq_left', List.set_cons_zero, List.set_cons_succ, wp_ok, wp_map, truth, cmpE, eq_int, Option.map_some, wp_bind, ix0, ix1]
        refine wp_mono (t_held (by omega) (b := true) (gt_of (xs := xs) (by omega))) fun r S4 ⟨er, es⟩ => ?_
        subst er es
        refine wp_mono (t_held (by omega) (b := true) (gt_of (xs := xs1) (by omega))) fun r S4 ⟨er, es⟩ => ?_
        subst er es
        refine wp_mono (t_held (by omega) (b := true) (gt_of (xs := xs2) (by omega))) fun r S4 ⟨er, es⟩ => ?_
        subst er es
        refine wp_mono (t_beside (by omega) hB (l.gx hq) (l1.gx hq)) fun r S4 ⟨er, es⟩ => ?_
        subst er es
        refine wp_mono (t_beside (by omega) hB (l.gx hq) (l2.gx hq)) fun r S4 ⟨er, es⟩ => ?_
        subst er es
        simp only [wp_sC, wp_sN, wp_ret, wp_asg, wp_par, wp_sif, wp_sx, wp_and_, wp_or_, wp_not, wp_neg, wp_cmp, wp_chain, wp_if, wp_call, wp_callK, wp_fn, wp_ix, wp_bin, wp_tup, wp_lst, wp_cons, wp_nil, wp_con, wp_var, wp_gn, fl_nx, fl_rt, ed_rt, setsL, List.getElem?_cons_zero, List.getElem?_cons_succ, Option.some.injEq, exists_eq_left', List.set_cons_zero, List.set_cons_succ, wp_ok, wp_map, truth, cmpE, eq_int, Option.map_some, wide_mul bes_small bes_small]
        by_cases z : 0 < bes (gt xs q) (gt xs1 q) * bes (gt xs q) (gt xs2 q)
        · simp only [wp_sC, wp_sN, wp_ret, wp_asg, wp_par, wp_sif, wp_sx, wp_and_, wp_or_, wp_not, wp_neg, wp_cmp, wp_chain, wp_if, wp_call, wp_callK, wp_fn, wp_ix, wp_bin, wp_tup, wp_lst, wp_cons, wp_nil, wp_con, wp_var, wp_gn, fl_nx, fl_rt, ed_rt, setsL, List.getElem?_cons_zero, List.getElem?_cons_succ, Option.some.injEq, exists_eq_left', List.set_cons_zero, List.set_cons_succ, wp_ok, wp_map, truth, cmpE, eq_int, Option.map_some, z, decide_true, if_true]
          exact ⟨.refl, trivial, trivial⟩
        · simp only [wp_sC, wp_sN, wp_ret, wp_asg, wp_par, wp_sif, wp_sx, wp_and_, wp_or_, wp_not, wp_neg, wp_cmp, wp_chain, wp_if, wp_call, wp_callK, wp_fn, wp_ix, wp_bin, wp_tup, wp_lst, wp_cons, wp_nil, wp_con, wp_var, wp_gn, fl_nx, fl_rt, ed_rt, setsL, List.getElem?_cons_zero, List.getElem?_cons_succ, Option.some.injEq, exists_eq_left', List.set_cons_zero, List.set_cons_succ, wp_ok, wp_map, truth, cmpE, eq_int, Option.map_some, z, decide_false, Bool.false_eq_true, if_false]
          exact ⟨.refl, trivial, _, _, _, _, rfl⟩
      · rw [slotBad_s]
        simp only [wp_sC, wp_sN, wp_ret, wp_asg, wp_par, wp_sif, wp_sx, wp_and_, wp_or_, wp_not, wp_neg, wp_cmp, wp_chain, wp_if, wp_call, wp_callK, wp_fn, wp_ix, wp_bin, wp_tup, wp_lst, wp_cons, wp_nil, wp_con, wp_var, wp_gn, fl_nx, fl_rt, ed_rt, setsL, List.getElem?_cons_zero, List.getElem?_cons_succ, Option.some.injEq, exists_eq_left', List.set_cons_zero, List.set_cons_succ, wp_ok, wp_map, truth, cmpE, eq_int, Option.map_some, wp_bind, ix0, ix1]
        refine wp_mono (t_held (by omega) (b := false) (gt_of (xs := ys) (by omega))) fun r S4 ⟨er, es⟩ => ?_
        subst er es
        refine wp_mono (t_held (by omega) (b := false) (gt_of (xs := ys1) (by omega))) fun r S4 ⟨er, es⟩ => ?_
        subst er es
        refine wp_mono (t_held (by omega) (b := false) (gt_of (xs := ys2) (by omega))) fun r S4 ⟨er, es⟩ => ?_
        subst er es
        refine wp_mono (t_beside (by omega) hB (l.gy hq) (l1.gy hq)) fun r S4 ⟨er, es⟩ => ?_
        subst er es
        refine wp_mono (t_beside (by omega) hB (l.gy hq) (l2.gy hq)) fun r S4 ⟨er, es⟩ => ?_
        subst er es
        simp only [wp_sC, wp_sN, wp_ret, wp_asg, wp_par, wp_sif, wp_sx, wp_and_, wp_or_, wp_not, wp_neg, wp_cmp, wp_chain, wp_if, wp_call, wp_callK, wp_fn, wp_ix, wp_bin, wp_tup, wp_lst, wp_cons, wp_nil, wp_con, wp_var, wp_gn, fl_nx, fl_rt, ed_rt, setsL, List.getElem?_cons_zero, List.getElem?_cons_succ, Option.some.injEq, exists_eq_left', List.set_cons_zero, List.set_cons_succ, wp_ok, wp_map, truth, cmpE, eq_int, Option.map_some, wide_mul bes_small bes_small]
        by_cases z : 0 < bes (gt ys q) (gt ys1 q) * bes (gt ys q) (gt ys2 q)
        · simp only [wp_sC, wp_sN, wp_ret, wp_asg, wp_par, wp_sif, wp_sx, wp_and_, wp_or_, wp_not, wp_neg, wp_cmp, wp_chain, wp_if, wp_call, wp_callK, wp_fn, wp_ix, wp_bin, wp_tup, wp_lst, wp_cons, wp_nil, wp_con, wp_var, wp_gn, fl_nx, fl_rt, ed_rt, setsL, List.getElem?_cons_zero, List.getElem?_cons_succ, Option.some.injEq, exists_eq_left', List.set_cons_zero, List.set_cons_succ, wp_ok, wp_map, truth, cmpE, eq_int, Option.map_some, z, decide_true, if_true]
          exact ⟨.refl, trivial, trivial⟩
        · simp only [wp_sC, wp_sN, wp_ret, wp_asg, wp_par, wp_sif, wp_sx, wp_and_, wp_or_, wp_not, wp_neg, wp_cmp, wp_chain, wp_if, wp_call, wp_callK, wp_fn, wp_ix, wp_bin, wp_tup, wp_lst, wp_cons, wp_nil, wp_con, wp_var, wp_gn, fl_nx, fl_rt, ed_rt, setsL, List.getElem?_cons_zero, List.getElem?_cons_succ, Option.some.injEq, exists_eq_left', List.set_cons_zero, List.set_cons_succ, wp_ok, wp_map, truth, cmpE, eq_int, Option.map_some, z, decide_false, Bool.false_eq_true, if_false]
          exact ⟨.refl, trivial, _, _, _, _, rfl⟩
    all_goals
      have key : (slowB xs1 ys1 xs ys && slowB xs ys xs2 ys2) = ((slotsL i).all fun d => !slotBad (fun q => decide (0 < bes (gt xs q) (gt xs1 q) * bes (gt xs q) (gt xs2 q))) (fun q => decide (0 < bes (gt ys q) (gt ys1 q) * bes (gt ys q) (gt ys2 q))) d) := by
        rw [Bool.eq_iff_iff, Bool.and_eq_true, slow_iff l1 l, slow_iff l l2, slots_all]
        have w1 : ∀ q, q < i → (¬ 0 < bes (gt xs q) (gt xs1 q) * bes (gt xs q) (gt xs2 q) ↔ le (gt xs q) (gt xs1 q) ∧ le (gt xs2 q) (gt xs q)) := fun q hq => within_iff (l.gx hq).pos (l1.gx hq).pos (l2.gx hq).pos (hs.2.1 q hq)
        have w2 : ∀ q, q < i + 1 → (¬ 0 < bes (gt ys q) (gt ys1 q) * bes (gt ys q) (gt ys2 q) ↔ le (gt ys q) (gt ys2 q) ∧ le (gt ys1 q) (gt ys q)) := fun q hq => by
          rw [Int.mul_comm]
          exact within_iff (l.gy hq).pos (l2.gy hq).pos (l1.gy hq).pos (hs.2.2 q hq)
        constructor
        · rintro ⟨⟨_, a1, a2⟩, _, b1, b2⟩
          exact ⟨fun q hq => decide_eq_false ((w1 q hq).mpr ⟨a1 q hq, b1 q hq⟩), fun q hq => decide_eq_false ((w2 q hq).mpr ⟨b2 q hq, a2 q hq⟩)⟩
        · rintro ⟨a, b⟩
          have a : ∀ q, q < i → _ := fun q hq => (w1 q hq).mp (of_decide_eq_false (a q hq))
          have b : ∀ q, q < i + 1 → _ := fun q hq => (w2 q hq).mp (of_decide_eq_false (b q hq))
          exact ⟨⟨rfl, fun q hq => (a q hq).1, fun q hq => (b q hq).2⟩, rfl, fun q hq => (a q hq).2, fun q hq => (b q hq).1⟩
    · intro S3 e3 hf
      rw [key, hf]
      simp only [wp_sC, wp_sN, wp_ret, wp_asg, wp_par, wp_sif, wp_sx, wp_and_, wp_or_, wp_not, wp_neg, wp_cmp, wp_chain, wp_if, wp_call, wp_callK, wp_fn, wp_ix, wp_bin, wp_tup, wp_lst, wp_cons, wp_nil, wp_con, wp_var, wp_gn, fl_nx, fl_rt, ed_rt, setsL, List.getElem?_cons_zero, List.getElem?_cons_succ, Option.some.injEq, exists_eq_left', List.set_cons_zero, List.set_cons_succ, wp_ok, wp_map, truth, cmpE, eq_int, Option.map_some]
      exact ⟨trivial, e3⟩
    · rintro S3 ρ' e3 ⟨u, v, w, z, rfl⟩ hf
      rw [key, hf]
      simp only [wp_sC, wp_sN, wp_ret, wp_asg, wp_par, wp_sif, wp_sx, wp_and_, wp_or_, wp_not, wp_neg, wp_cmp, wp_chain, wp_if, wp_call, wp_callK, wp_fn, wp_ix, wp_bin, wp_tup, wp_lst, wp_cons, wp_nil, wp_con, wp_var, wp_gn, fl_nx, fl_rt, ed_rt, setsL, List.getElem?_cons_zero, List.getElem?_cons_succ, Option.some.injEq, exists_eq_left', List.set_cons_zero, List.set_cons_succ, wp_ok, wp_map, truth, cmpE, eq_int, Option.map_some]
      exact ⟨trivial, e3⟩
  · simp only [hl, decide_false, Bool.not_false, if_true]
    refine ⟨?_, .refl⟩
    have : slowB xs1 ys1 xs ys = false := by
      unfold slowB
      rw [decide_eq_false (by omega : ¬ xs1.length = xs.length)]; rfl
    rw [this]; rfl
/-! draws -/
def Amt (d : D) : Prop := Fq 9 d ∧ 0 < num d
def Pac (d : D) : Prop := Fq 9 d ∧ 0 ≤ num d
theorem Amt.pac {d : D} (h : Amt d) : Pac d := ⟨h.1, Int.le_of_lt h.2⟩
theorem fr_amt {a b : Int} (h1 : 1 ≤ a) (h2 : a ≤ 9) (h3 : 1 ≤ b) (h4 : b ≤ 9) : Amt (frD a b) := by
  have h := frD_ok (n := a) (m := b) (B := 9) h3 (by omega) h4
  exact ⟨h.q, h.np (by omega)⟩
theorem zero_fq {B : Int} (hB : 1 ≤ B) : Fq B (.tup [.int 0, .int 1]) := ⟨rfl, show -B ≤ 0 by omega, show (0 : Int) ≤ B by omega, show (1 : Int) ≤ 1 by omega, show (1 : Int) ≤ B by omega, rfl⟩
theorem t_amount {n : Nat} (hn : 3 ≤ n) {S : Sto} {c : Nat} {t : Int} (w : Well S c t) (ht : t ≤ 900000000) : wp ((P n).call 26 [.ref c] S) fun r S' => Amt r ∧ Well S' c (t + 4) ∧ Chg c S S' := by
  obtain ⟨m, rfl, hm⟩ := up hn
  rw [cP m 26 b26 rfl]
  refine wp_run rfl ?_
  show wp (evSs (P m) b26.body [some (.ref c), none] S) _
  simp only [wp_sC, wp_sN, wp_ret, wp_asg, wp_par, wp_sif, wp_sx, wp_and_, wp_or_, wp_not, wp_neg, wp_cmp, wp_chain, wp_if, wp_call, wp_callK, wp_fn, wp_ix, wp_bin, wp_tup, wp_lst, wp_cons, wp_nil, wp_con, wp_var, wp_gn, fl_nx, fl_rt, ed_rt, setsL, List.getElem?_cons_zero, List.getElem?_cons_succ, Option.some.injEq, exists_eq_left', List.set_cons_zero, List.set_cons_succ, wp_ok, wp_map, truth, cmpE, eq_int, Option.map_some, b26]
  refine wp_mono (t_one (by omega) (w.ext .one) (by omega) at_new (by have := w.lt; omega) (by decide) (by decide)) fun r S1 ⟨hr, w1, g1⟩ => ?_
  obtain ⟨i, rfl, i1, i2⟩ : ∃ i : Int, r = .int i ∧ 1 ≤ i ∧ i ≤ 9 := by
    simp only [List.mem_cons, List.not_mem_nil, or_false] at hr
    rcases hr with rfl | rfl | rfl | rfl | rfl <;> exact ⟨_, rfl, by decide, by decide⟩
  have h1 : Chg c S S1 := Chg.trans (Ext.one.chg) g1
  refine wp_mono (t_pull (by omega) w1 (by omega) i1 (by omega)) fun r S2 ⟨x, er, x0, x1, w2, g2⟩ => ?_
  subst er
  simp only [bin_add, wp_ok]
  refine wp_mono (t_one (by omega) (w2.ext .one) (by omega) at_new (by have := w2.lt; omega) (by simp) (by simp)) fun r S3 ⟨hr, w3, g3⟩ => ?_
  obtain ⟨j, rfl, j1, j2⟩ : ∃ j : Int, r = .int j ∧ 1 ≤ j ∧ j ≤ 9 := by
    simp only [List.mem_cons, List.not_mem_nil, or_false] at hr
    rcases hr with rfl | rfl | rfl | rfl | rfl
    · exact ⟨_, rfl, by decide, by decide⟩
    · exact ⟨_, rfl, by decide, by decide⟩
    · exact ⟨_, rfl, by decide, by decide⟩
    · exact ⟨_, rfl, by decide, by decide⟩
    · exact ⟨_, rfl, i1, i2⟩
  have h3 : Chg c S S3 := (h1.trans g2).trans (Chg.trans (Ext.one.chg) g3)
  refine wp_mono (t_pull (by omega) w3 (by omega) j1 (by omega)) fun r S4 ⟨y, er, y0, y1, w4, g4⟩ => ?_
  subst er
  simp only [bin_add, wp_ok]
  refine wp_mono (t_frac (by omega) (by omega) (by omega)) fun r S5 ⟨hr, es⟩ => ?_
  subst es hr
  exact ⟨fr_amt (by omega) (by omega) (by omega) (by omega), w4.mono (by omega), h3.trans g4⟩
theorem t_end {n : Nat} (hn : 4 ≤ n) {S : Sto} {c : Nat} {t : Int} (w : Well S c t) (ht : t ≤ 800000000) : wp ((P n).call 27 [.ref c] S) fun r S' => Pac r ∧ Well S' c (t + 5) ∧ Chg c S S' := by
  obtain ⟨m, rfl, hm⟩ := up hn
  rw [cP m 27 b27 rfl]
  refine wp_run rfl ?_
  show wp (evSs (P m) b27.body [some (.ref c)] S) _
  simp only [wp_sC, wp_sN, wp_ret, wp_asg, wp_par, wp_sif, wp_sx, wp_and_, wp_or_, wp_not, wp_neg, wp_cmp, wp_chain, wp_if, wp_call, wp_callK, wp_fn, wp_ix, wp_bin, wp_tup, wp_lst, wp_cons, wp_nil, wp_con, wp_var, wp_gn, fl_nx, fl_rt, ed_rt, setsL, List.getElem?_cons_zero, List.getElem?_cons_succ, Option.some.injEq, exists_eq_left', List.set_cons_zero, List.set_cons_succ, wp_ok, wp_map, truth, cmpE, eq_int, Option.map_some, b27]
  refine wp_mono (t_pull (by omega) w (by omega) (by decide) (by decide)) fun r S2 ⟨x, er, x0, x1, w2, g2⟩ => ?_
  subst er
  simp only [wp_sC, wp_sN, wp_ret, wp_asg, wp_par, wp_sif, wp_sx, wp_and_, wp_or_, wp_not, wp_neg, wp_cmp, wp_chain, wp_if, wp_call, wp_callK, wp_fn, wp_ix, wp_bin, wp_tup, wp_lst, wp_cons, wp_nil, wp_con, wp_var, wp_gn, fl_nx, fl_rt, ed_rt, setsL, List.getElem?_cons_zero, List.getElem?_cons_succ, Option.some.injEq, exists_eq_left', List.set_cons_zero, List.set_cons_succ, wp_ok, wp_map, truth, cmpE, eq_int, Option.map_some]
  by_cases h0 : x = 0
  · simp only [wp_sC, wp_sN, wp_ret, wp_asg, wp_par, wp_sif, wp_sx, wp_and_, wp_or_, wp_not, wp_neg, wp_cmp, wp_chain, wp_if, wp_call, wp_callK, wp_fn, wp_ix, wp_bin, wp_tup, wp_lst, wp_cons, wp_nil, wp_con, wp_var, wp_gn, fl_nx, fl_rt, ed_rt, setsL, List.getElem?_cons_zero, List.getElem?_cons_succ, Option.some.injEq, exists_eq_left', List.set_cons_zero, List.set_cons_succ, wp_ok, wp_map, truth, cmpE, eq_int, Option.map_some, h0, decide_true, if_true]
    exact ⟨⟨zero_fq (by decide), Int.le_refl 0⟩, w2.mono (by omega), g2⟩
  · simp only [wp_sC, wp_sN, wp_ret, wp_asg, wp_par, wp_sif, wp_sx, wp_and_, wp_or_, wp_not, wp_neg, wp_cmp, wp_chain, wp_if, wp_call, wp_callK, wp_fn, wp_ix, wp_bin, wp_tup, wp_lst, wp_cons, wp_nil, wp_con, wp_var, wp_gn, fl_nx, fl_rt, ed_rt, setsL, List.getElem?_cons_zero, List.getElem?_cons_succ, Option.some.injEq, exists_eq_left', List.set_cons_zero, List.set_cons_succ, wp_ok, wp_map, truth, cmpE, eq_int, Option.map_some, h0, decide_false, Bool.false_eq_true, if_false]
    exact wp_mono (t_amount (by omega) w2 (by omega)) fun r S3 ⟨a, w3, g3⟩ => ⟨a.pac, w3.mono (by omega), g2.trans g3⟩
theorem it_rngF {p : Pg} {e : Ex} {ρ : Mini.Loc} {S : Sto} {n : Nat} (hn : n ≤ 1000000) (h : wp (evE p e ρ S) fun d S' => d = .int (n : Int) ∧ Ext S S') :
    wp (evI p (.rng1 e) ρ S) fun src S1 => Ext S S1 ∧ src = srcL ((List.range n).map fun (i : Nat) => D.int (0 + (i : Int))) := by
  rw [wp_i1]
  refine wp_mono h fun d S' ⟨e1, e2⟩ => ?_
  subst e1
  have hin : inR (n : Int) = true := by
    unfold inR
    rw [Bool.and_eq_true, decide_eq_true_eq, decide_eq_true_eq]
    omega
  refine ⟨srcL ((List.range n).map fun (i : Nat) => D.int (0 + (i : Int))), ?_, e2, rfl⟩
  show (if inR (n : Int) then some (rngL 0 ((n : Int)).toNat) else none) = _
  rw [if_pos hin, Int.toNat_natCast, rng_srcL]
/-- a comprehension that draws -/
theorem comp_w {p : Pg} {v c n : Nat} {e elt : Ex} {ρ : Mini.Loc} {S : Sto} {t step : Int} {P : D → Sto → Prop} {Q : D → Prop} (hn : n ≤ 100) (hfuel : n < p.fuel) (w : Well S c t) (h0 : 0 ≤ step)
    (hit : wp (evE p e ρ S) fun d S' => d = .int (n : Int) ∧ Ext S S')
    (hf : ∀ (u : Int) S' (i : Nat), i < n → Well S' c u → u ≤ t + (n : Int) * step → wp (evE p elt ((wipeL ρ [v]).set v (some (.int (0 + (i : Int))))) S') fun r S'' => Q r ∧ Well S'' c (u + step) ∧ Chg c S' S'')
    (hP : ∀ S' l ys, S'[l]? = some (.lst ys) → ys.length = n → (∀ y ∈ ys, Q y) → Well S' c (t + (n : Int) * step) → Chg c S S' → S.length ≤ l → P (.ref l) S') : wp (evE p (.comp (.nm v) (.rng1 e) [] elt [v]) ρ S) P := by
  rw [wp_comp]
  refine wp_mono (it_rngF (by omega) hit) fun src S1 ⟨e1, hs⟩ => ?_
  subst hs
  have cl : c < S.length := w.lt
  have sl : S.length ≤ S1.length := e1.chg (c := c) |>.len
  refine compN_wp (n := S1.length) ((List.range n).map fun (i : Nat) => D.int (0 + (i : Int))) (fun i ys S' => S'[S1.length]? = some (.lst ys) ∧ ys.length = i ∧ (∀ y ∈ ys, Q y) ∧ Well S' c (t + (i : Int) * step) ∧ Chg c S S') (fun i ys S' _ => rfl)
    (fun i ys S' d ⟨a1, a2, a3, a4, a5⟩ hd => ?_) (fun ys S' ⟨a1, a2, a3, a4, a5⟩ => ?_) _ 0 [] _ (Nat.zero_le _) (by rw [List.length_map, List.length_range]; omega) ⟨at_new, rfl, by simp, (w.ext (e1.trans .one)).mono (by omega), (e1.trans .one).chg⟩
  · rw [wp_noex]
    have hi : i < n := by
      have := (List.getElem?_eq_some_iff.mp hd).1
      simpa using this
    have ed : d = .int (0 + (i : Int)) := by
      rw [List.getElem?_map, List.getElem?_range hi] at hd
      exact (Option.some.inj hd).symm
    subst ed
    have hle : t + (i : Int) * step ≤ t + (n : Int) * step := by
      have := Int.mul_le_mul_of_nonneg_right (show (i : Int) ≤ n by omega) h0
      omega
    refine bodyC_pure (wp_mono (hf _ S' i hi a4 hle) fun r S2 ⟨q, w2, g2⟩ => ?_)
    have b1 := g2.get _ _ (by omega) a1
    have g3 := Chg.set (ys := ys ++ [r]) b1
    have es : t + ((i + 1 : Nat) : Int) * step = t + (i : Int) * step + step := by
      push_cast
      rw [Int.add_mul, Int.one_mul]; omega
    refine ⟨lst_c b1, lineBig (by omega), at_set b1, by simp [a2], fun y hy => ?_, ?_, (a5.trans g2).then g3 (by omega)⟩
    · rcases List.mem_append.mp hy with hy | hy
      · exact a3 y hy
      · rw [List.mem_singleton.mp hy]; exact q
    · rw [es]
      exact w2.chg g3 (by omega)
  · rw [List.length_map, List.length_range] at a2 a4
    exact hP S' _ ys a1 a2 a3 a4 a5 sl
end K34
namespace K34
open PySem Mini
/-- a row of shafts -/
def Prs (n : Nat) (ys : List D) : Prop := ys.length = n + 1 ∧ ∀ i y, ys[i]? = some y → Pac y ∧ (0 < i → i < n → Amt y)
theorem Prs.set {n k : Nat} {ys : List D} {d : D} (h : Prs n ys) (hk : k = 0 ∨ k = n) (hd : Pac d) : Prs n (ys.set k d) := by
  refine ⟨by rw [List.length_set]; exact h.1, fun i x hx => ?_⟩
  by_cases e : i = k
  · subst e
    have hl := h.1
    rw [List.getElem?_set_self (by omega)] at hx
    cases hx
    exact ⟨hd, fun h1 h2 => by omega⟩
  · rw [List.getElem?_set_ne (Ne.symm e)] at hx
    exact h.2 i x hx
theorem line_prs {n : Nat} {xs ys : List D} (h1 : 1 ≤ n) (h2 : n ≤ 8) (hx : xs.length = n) (hq : ∀ x ∈ xs, Amt x) (hy : Prs n ys) : LineP 9 n xs ys := by
  refine ⟨h1, h2, hx, hy.1, hq, fun y hm => ?_, fun i y a b d => ((hy.2 i y a).2 b d).2⟩
  obtain ⟨i, hi⟩ := List.getElem?_of_mem hm
  exact (hy.2 i y hi).1
def grab (xs : List D) (f : Int → Int) : D → Option D
  | .int i => xs[(f i).toNat]?
  | _ => none
theorem grab_list {xs : List D} {f : Int → Int} {n : Nat} (h : ∀ i : Nat, i < n → ∃ j, j < xs.length ∧ f i = (j : Int)) : ∀ k, k ≤ n → ∃ ys, ((List.range k).map fun (i : Nat) => D.int (0 + (i : Int))).filterMap (grab xs f) = ys ∧ ys.length = k ∧ ∀ (i : Nat) y, ys[i]? = some y → xs[(f (i : Int)).toNat]? = some y
  | 0, _ => ⟨[], rfl, rfl, fun i y h => by simp at h⟩
  | k + 1, hk => by
    obtain ⟨ys, e, l, hy⟩ := grab_list h k (by omega)
    obtain ⟨j, hj, ej⟩ := h k (by omega)
    have g : grab xs f (.int (0 + (k : Int))) = some (gt xs j) := by
      show xs[(f (0 + (k : Int))).toNat]? = _
      rw [Int.zero_add, ej, Int.toNat_natCast, gt_of hj]
    refine ⟨ys ++ [gt xs j], ?_, by simp [l], fun i y hi => ?_⟩
    · rw [List.range_succ, List.map_append, List.filterMap_append, e, List.map_cons, List.map_nil]
      simp only [List.filterMap_cons, g, List.filterMap_nil]
    · rcases Nat.lt_trichotomy i ys.length with q | q | q
      · rw [List.getElem?_append_left q] at hi
        exact hy i y hi
      · subst q
        rw [List.getElem?_append_right (Nat.le_refl _), Nat.sub_self] at hi
        cases hi
        rw [l, ej, Int.toNat_natCast, gt_of hj]
      · rw [List.getElem?_eq_none (by simp; omega)] at hi
        cases hi
theorem fn_min {S : Sto} {i j : Int} : fnE .min [.int i, .int j] S = .ok (.int (if j < i then j else i)) S := rfl
theorem fn_max {S : Sto} {i j : Int} : fnE .max [.int i, .int j] S = .ok (.int (if i < j then j else i)) S := rfl
/-- a comprehension that picks from a list in the store -/
theorem comp_grab {p : Pg} {v l n : Nat} {ie elt : Ex} {ρ : Mini.Loc} {S : Sto} {P : D → Sto → Prop} {xs : List D} {f : Int → Int} (hn : n ≤ 100) (hfuel : n < p.fuel) (hl : S[l]? = some (.lst xs))
    (hit : wp (evE p ie ρ S) fun d S' => d = .int (n : Int) ∧ Ext S S')
    (hf : ∀ i : Nat, i < n → ∃ j, j < xs.length ∧ f i = (j : Int))
    (he : ∀ S' (i : Nat) (Q : D → Sto → Prop), i < n → Ext S S' → (∀ d, xs[(f i).toNat]? = some d → Q d S') → wp (evE p elt ((wipeL ρ [v]).set v (some (.int (0 + (i : Int))))) S') Q)
    (hP : ∀ A t ys, Ext S A → ys.length = n → (∀ (i : Nat) y, ys[i]? = some y → xs[(f (i : Int)).toNat]? = some y) → P (.ref A.length) (A ++ .lst ys :: t)) : wp (evE p (.comp (.nm v) (.rng1 ie) [] elt [v]) ρ S) P := by
  refine comp_fm (g := grab xs f) (xs := (List.range n).map fun (i : Nat) => D.int (0 + (i : Int))) (by rw [List.length_map, List.length_range]; omega) (by rw [List.length_map, List.length_range]; omega) (it_rng (by omega) hit) (fun d hd S' e => ?_) fun A t e => ?_
  · obtain ⟨i, hi, rfl⟩ := List.mem_map.mp hd
    have hi := List.mem_range.mp hi
    obtain ⟨j, hj, ej⟩ := hf i hi
    refine bodyC_pure (he S' i _ hi e fun d hd => ⟨?_, .refl⟩)
    show _ = xs[(f (0 + (i : Int))).toNat]?
    rw [Int.zero_add, hd]
  · obtain ⟨ys, e1, e2, e3⟩ := grab_list hf n (Nat.le_refl _)
    rw [e1]
    exact hP A t ys e e2 e3
theorem t_line {n : Nat} (hn : 5 ≤ n) {S : Sto} {c : Nat} {t : Int} (w : Well S c t) (ht : t ≤ 700000000) : wp ((P n).call 28 [.ref c] S) fun r S' => (∃ k xs ys, k ≤ 5 ∧ r = lnD xs ys ∧ LineP 9 k xs ys) ∧ Well S' c (t + 100) ∧ Chg c S S' := by
  obtain ⟨m, rfl, hm⟩ := up hn
  rw [cP m 28 b28 rfl]
  refine wp_run rfl ?_
  show wp (evSs (P m) b28.body [some (.ref c), none, none, none, none] S) _
  simp only [wp_sC, wp_sN, wp_ret, wp_asg, wp_par, wp_sif, wp_sx, wp_and_, wp_or_, wp_not, wp_neg, wp_cmp, wp_chain, wp_if, wp_call, wp_callK, wp_fn, wp_ix, wp_bin, wp_tup, wp_lst, wp_cons, wp_nil, wp_con, wp_var, wp_gn, fl_nx, fl_rt, ed_rt, setsL, List.getElem?_cons_zero, List.getElem?_cons_succ, Option.some.injEq, exists_eq_left', List.set_cons_zero, List.set_cons_succ, wp_ok, wp_map, truth, cmpE, eq_int, Option.map_some, b28]
  refine wp_mono (t_one (by omega) (w.ext .one) (by omega) at_new (by have := w.lt; omega) (by simp) (by simp)) fun r S1 ⟨hr, w1, g1⟩ => ?_
  obtain ⟨k, rfl, i1, i2⟩ : ∃ k : Nat, r = .int (k : Int) ∧ 1 ≤ k ∧ k ≤ 5 := by
    simp only [List.mem_cons, List.not_mem_nil, or_false] at hr
    rcases hr with rfl | rfl | rfl | rfl | rfl | rfl | rfl | rfl | rfl | rfl | rfl <;> first | exact ⟨1, rfl, by decide, by decide⟩ | exact ⟨2, rfl, by decide, by decide⟩ | exact ⟨3, rfl, by decide, by decide⟩ | exact ⟨4, rfl, by decide, by decide⟩ | exact ⟨5, rfl, by decide, by decide⟩
  have h1 : Chg c S S1 := Chg.trans (Ext.one.chg) g1
  have cl := w.lt
  have sl := h1.len
  refine comp_w (c := c) (n := k) (t := t + 1) (step := 4) (Q := Amt) (by omega) (fuelBig (by omega)) w1 (by decide) ?_ (fun u S' i hi hw hu => ?_) fun S2 l2 xs e2 lx hx w2 g2 z2 => ?_
  · simp only [wp_sC, wp_sN, wp_ret, wp_asg, wp_par, wp_sif, wp_sx, wp_and_, wp_or_, wp_not, wp_neg, wp_cmp, wp_chain, wp_if, wp_call, wp_callK, wp_fn, wp_ix, wp_bin, wp_tup, wp_lst, wp_cons, wp_nil, wp_con, wp_var, wp_gn, fl_nx, fl_rt, ed_rt, setsL, List.getElem?_cons_zero, List.getElem?_cons_succ, Option.some.injEq, exists_eq_left', List.set_cons_zero, List.set_cons_succ, wp_ok, wp_map, truth, cmpE, eq_int, Option.map_some]
    exact ⟨trivial, .refl⟩
  · simp only [wipeL, List.foldl_cons, List.foldl_nil]
    simp only [wp_sC, wp_sN, wp_ret, wp_asg, wp_par, wp_sif, wp_sx, wp_and_, wp_or_, wp_not, wp_neg, wp_cmp, wp_chain, wp_if, wp_call, wp_callK, wp_fn, wp_ix, wp_bin, wp_tup, wp_lst, wp_cons, wp_nil, wp_con, wp_var, wp_gn, fl_nx, fl_rt, ed_rt, setsL, List.getElem?_cons_zero, List.getElem?_cons_succ, Option.some.injEq, exists_eq_left', List.set_cons_zero, List.set_cons_succ, wp_ok, wp_map, truth, cmpE, eq_int, Option.map_some]
    exact t_amount (by omega) hw (by omega)
  have sl2 := g2.len
  refine comp_w (c := c) (n := k + 1) (t := t + 1 + (k : Int) * 4) (step := 4) (Q := Amt) (by omega) (fuelBig (by omega)) w2 (by decide) ?_ (fun u S' i hi hw hu => ?_) fun S3 l3 ys e3 ly hy w3 g3 z3 => ?_
  · simp only [wp_sC, wp_sN, wp_ret, wp_asg, wp_par, wp_sif, wp_sx, wp_and_, wp_or_, wp_not, wp_neg, wp_cmp, wp_chain, wp_if, wp_call, wp_callK, wp_fn, wp_ix, wp_bin, wp_tup, wp_lst, wp_cons, wp_nil, wp_con, wp_var, wp_gn, fl_nx, fl_rt, ed_rt, setsL, List.getElem?_cons_zero, List.getElem?_cons_succ, Option.some.injEq, exists_eq_left', List.set_cons_zero, List.set_cons_succ, wp_ok, wp_map, truth, cmpE, eq_int, Option.map_some, bin_add]
    exact ⟨by push_cast; trivial, .refl⟩
  · simp only [wipeL, List.foldl_cons, List.foldl_nil]
    simp only [wp_sC, wp_sN, wp_ret, wp_asg, wp_par, wp_sif, wp_sx, wp_and_, wp_or_, wp_not, wp_neg, wp_cmp, wp_chain, wp_if, wp_call, wp_callK, wp_fn, wp_ix, wp_bin, wp_tup, wp_lst, wp_cons, wp_nil, wp_con, wp_var, wp_gn, fl_nx, fl_rt, ed_rt, setsL, List.getElem?_cons_zero, List.getElem?_cons_succ, Option.some.injEq, exists_eq_left', List.set_cons_zero, List.set_cons_succ, wp_ok, wp_map, truth, cmpE, eq_int, Option.map_some]
    exact t_amount (by omega) hw (by omega)
  have z32 : l2 < S2.length := (List.getElem?_eq_some_iff.mp e2).1
  have e2' := g3.get l2 _ (by omega) e2
  simp only [wp_sC, wp_sN, wp_ret, wp_asg, wp_par, wp_sif, wp_sx, wp_and_, wp_or_, wp_not, wp_neg, wp_cmp, wp_chain, wp_if, wp_call, wp_callK, wp_fn, wp_ix, wp_bin, wp_tup, wp_lst, wp_cons, wp_nil, wp_con, wp_var, wp_gn, fl_nx, fl_rt, ed_rt, setsL, List.getElem?_cons_zero, List.getElem?_cons_succ, Option.some.injEq, exists_eq_left', List.set_cons_zero, List.set_cons_succ, wp_ok, wp_map, truth, cmpE, eq_int, Option.map_some, wp_gt, seqD, List.length_cons, List.length_nil, wp_gsC, wp_gsN, if_true]
  refine wp_mono (t_end (by omega) w3 (by omega)) fun r S4 ⟨p4, w4, g4⟩ => ?_
  refine wp_mono (t_end (by omega) w4 (by omega)) fun r5 S5 ⟨p5, w5, g5⟩ => ?_
  have e5 := g5.get l3 _ (by omega) (g4.get l3 _ (by omega) e3)
  have e52 := g5.get l2 _ (by omega) (g4.get l2 _ (by omega) e2')
  have prs : Prs k ys := ⟨ly, fun i x hx => ⟨(hy x (List.mem_of_getElem? hx)).pac, fun _ _ => hy x (List.mem_of_getElem? hx)⟩⟩
  have prs := prs.set (.inl rfl) p4
  have j0 : L2.ixN ys.length 0 = some 0 := by
    unfold L2.ixN
    rw [if_pos (by omega), if_pos (by omega)]; rfl
  have jk : L2.ixN (ys.set 0 r).length (k : Int) = some k := by
    rw [List.length_set]
    unfold L2.ixN
    rw [if_pos (by omega), if_pos (by omega), Int.toNat_natCast]
  have prs2 := prs.set (.inr rfl) p5
  have s6 := sto_c (d := r) e5 j0
  have e6 := at_set (ys := ys.set 0 r) e5
  have s7 := sto_c (d := r5) e6 jk
  have e7 := at_set (ys := (ys.set 0 r).set k r5) e6
  have c6 : Chg l3 S5 (S5.set l3 (.lst (ys.set 0 r))) := .set e5
  have c7 : Chg l3 (S5.set l3 (.lst (ys.set 0 r))) ((S5.set l3 (.lst (ys.set 0 r))).set l3 (.lst ((ys.set 0 r).set k r5))) := .set e6
  simp only [wp_sC, wp_sN, wp_ret, wp_asg, wp_par, wp_sif, wp_sx, wp_and_, wp_or_, wp_not, wp_neg, wp_cmp, wp_chain, wp_if, wp_call, wp_callK, wp_fn, wp_ix, wp_bin, wp_tup, wp_lst, wp_cons, wp_nil, wp_con, wp_var, wp_gn, fl_nx, fl_rt, ed_rt, setsL, List.getElem?_cons_zero, List.getElem?_cons_succ, Option.some.injEq, exists_eq_left', List.set_cons_zero, List.set_cons_succ, wp_ok, wp_map, truth, cmpE, eq_int, Option.map_some, wp_gi, s6, s7]
  have c67 := c6.trans c7
  generalize (S5.set l3 (.lst (ys.set 0 r))).set l3 (.lst ((ys.set 0 r).set k r5)) = S7 at e7 c67 ⊢
  generalize (ys.set 0 r).set k r5 = zs at e7 prs2
  have e72 := c67.get l2 _ (by omega) e52
  have w7 := w5.chg c67 (by omega)
  have g17 : Chg c S S7 := (((((h1.trans g2).trans g3).trans g4).trans g5)).then c67 (by omega)
  refine wp_mono (t_pull (by omega) w7 (by omega) (by decide) (by decide)) fun r S8 ⟨x, er, x0, x1, w8, g8⟩ => ?_
  subst er
  have e8 := g8.get l3 _ (by omega) e7
  have e82 := g8.get l2 _ (by omega) e72
  simp only [wp_sC, wp_sN, wp_ret, wp_asg, wp_par, wp_sif, wp_sx, wp_and_, wp_or_, wp_not, wp_neg, wp_cmp, wp_chain, wp_if, wp_call, wp_callK, wp_fn, wp_ix, wp_bin, wp_tup, wp_lst, wp_cons, wp_nil, wp_con, wp_var, wp_gn, fl_nx, fl_rt, ed_rt, setsL, List.getElem?_cons_zero, List.getElem?_cons_succ, Option.some.injEq, exists_eq_left', List.set_cons_zero, List.set_cons_succ, wp_ok, wp_map, truth, cmpE, eq_int, Option.map_some]
  by_cases h0 : x = 0
  · simp only [wp_sC, wp_sN, wp_ret, wp_asg, wp_par, wp_sif, wp_sx, wp_and_, wp_or_, wp_not, wp_neg, wp_cmp, wp_chain, wp_if, wp_call, wp_callK, wp_fn, wp_ix, wp_bin, wp_tup, wp_lst, wp_cons, wp_nil, wp_con, wp_var, wp_gn, fl_nx, fl_rt, ed_rt, setsL, List.getElem?_cons_zero, List.getElem?_cons_succ, Option.some.injEq, exists_eq_left', List.set_cons_zero, List.set_cons_succ, wp_ok, wp_map, truth, cmpE, eq_int, Option.map_some, h0, decide_true, if_true]
    refine comp_grab (l := l2) (n := k) (f := fun i => if (k : Int) - 1 - i < i then (k : Int) - 1 - i else i) (by omega) (fuelBig (by omega)) e82 ?_ (fun i hi => ?_) (fun S' i Q hi e hQ => ?_) fun A t2 xs2 eA lA gA => ?_
    · simp only [wp_sC, wp_sN, wp_ret, wp_asg, wp_par, wp_sif, wp_sx, wp_and_, wp_or_, wp_not, wp_neg, wp_cmp, wp_chain, wp_if, wp_call, wp_callK, wp_fn, wp_ix, wp_bin, wp_tup, wp_lst, wp_cons, wp_nil, wp_con, wp_var, wp_gn, fl_nx, fl_rt, ed_rt, setsL, List.getElem?_cons_zero, List.getElem?_cons_succ, Option.some.injEq, exists_eq_left', List.set_cons_zero, List.set_cons_succ, wp_ok, wp_map, truth, cmpE, eq_int, Option.map_some]
      exact ⟨trivial, .refl⟩
    · by_cases q : (k : Int) - 1 - i < i
      · exact ⟨k - 1 - i, by omega, by simp only [q, if_true]; omega⟩
      · exact ⟨i, by omega, by simp only [q, if_false]⟩
    · simp only [wipeL, List.foldl_cons, List.foldl_nil]
      have ee := e.get e82
      simp only [wp_sC, wp_sN, wp_ret, wp_asg, wp_par, wp_sif, wp_sx, wp_and_, wp_or_, wp_not, wp_neg, wp_cmp, wp_chain, wp_if, wp_call, wp_callK, wp_fn, wp_ix, wp_bin, wp_tup, wp_lst, wp_cons, wp_nil, wp_con, wp_var, wp_gn, fl_nx, fl_rt, ed_rt, setsL, List.getElem?_cons_zero, List.getElem?_cons_succ, Option.some.injEq, exists_eq_left', List.set_cons_zero, List.set_cons_succ, wp_ok, wp_map, truth, cmpE, eq_int, Option.map_some, bin_sub, fn_min, Int.zero_add, ix_c ee]
      have hj : ∃ j, j < xs.length ∧ (if (k : Int) - 1 - i < i then (k : Int) - 1 - i else i) = (j : Int) := by
        by_cases q : (k : Int) - 1 - i < i
        · exact ⟨k - 1 - i, by omega, by simp only [q, if_true]; omega⟩
        · exact ⟨i, by omega, by simp only [q, if_false]⟩
      obtain ⟨j, hj, ej⟩ := hj
      rw [ej, atI_n hj]
      refine ⟨gt xs j, gt_of hj, hQ _ ?_⟩
      show xs[(if (k : Int) - 1 - i < i then (k : Int) - 1 - i else i).toNat]? = _
      rw [ej, Int.toNat_natCast, gt_of hj]
    have hx2 : ∀ x ∈ xs2, Amt x := fun x hm => by
      obtain ⟨i, hi⟩ := List.getElem?_of_mem hm
      exact hx x (List.mem_of_getElem? (gA i x hi))
    have eB : Ext S8 (A ++ Cl.lst xs2 :: t2) := eA.trans ⟨_, rfl⟩
    have eA1 : (A ++ Cl.lst xs2 :: t2)[A.length]? = some (.lst xs2) := by simp
    have e83 := eB.get e8
    refine comp_grab (l := l3) (n := k + 1) (f := fun i => if (k : Int) - i < i then (k : Int) - i else i) (by omega) (fuelBig (by omega)) e83 ?_ (fun i hi => ?_) (fun S' i Q hi e hQ => ?_) fun A3 t3 ys2 eA3 lA3 gA3 => ?_
    · simp only [wp_sC, wp_sN, wp_ret, wp_asg, wp_par, wp_sif, wp_sx, wp_and_, wp_or_, wp_not, wp_neg, wp_cmp, wp_chain, wp_if, wp_call, wp_callK, wp_fn, wp_ix, wp_bin, wp_tup, wp_lst, wp_cons, wp_nil, wp_con, wp_var, wp_gn, fl_nx, fl_rt, ed_rt, setsL, List.getElem?_cons_zero, List.getElem?_cons_succ, Option.some.injEq, exists_eq_left', List.set_cons_zero, List.set_cons_succ, wp_ok, wp_map, truth, cmpE, eq_int, Option.map_some, bin_add]
      exact ⟨by push_cast; trivial, .refl⟩
    · have := prs2.1
      by_cases q : (k : Int) - i < i
      · exact ⟨k - i, by omega, by simp only [q, if_true]; omega⟩
      · exact ⟨i, by omega, by simp only [q, if_false]⟩
    · simp only [wipeL, List.foldl_cons, List.foldl_nil]
      have ee := e.get e83
      simp only [wp_sC, wp_sN, wp_ret, wp_asg, wp_par, wp_sif, wp_sx, wp_and_, wp_or_, wp_not, wp_neg, wp_cmp, wp_chain, wp_if, wp_call, wp_callK, wp_fn, wp_ix, wp_bin, wp_tup, wp_lst, wp_cons, wp_nil, wp_con, wp_var, wp_gn, fl_nx, fl_rt, ed_rt, setsL, List.getElem?_cons_zero, List.getElem?_cons_succ, Option.some.injEq, exists_eq_left', List.set_cons_zero, List.set_cons_succ, wp_ok, wp_map, truth, cmpE, eq_int, Option.map_some, bin_sub, fn_min, Int.zero_add, ix_c ee]
      have hj : ∃ j, j < zs.length ∧ (if (k : Int) - i < i then (k : Int) - i else i) = (j : Int) := by
        have := prs2.1
        by_cases q : (k : Int) - i < i
        · exact ⟨k - i, by omega, by simp only [q, if_true]; omega⟩
        · exact ⟨i, by omega, by simp only [q, if_false]⟩
      obtain ⟨j, hj, ej⟩ := hj
      rw [ej, atI_n hj]
      refine ⟨gt zs j, gt_of hj, hQ _ ?_⟩
      show zs[(if (k : Int) - i < i then (k : Int) - i else i).toNat]? = _
      rw [ej, Int.toNat_natCast, gt_of hj]
    have prs3 : Prs k ys2 := by
      refine ⟨by omega, fun i y hi => ?_⟩
      have hz := gA3 i y hi
      have hil : i < ys2.length := (List.getElem?_eq_some_iff.mp hi).1
      by_cases q : (k : Int) - i < i
      · simp only [q, if_true] at hz
        have p := prs2.2 _ y hz
        exact ⟨p.1, fun a b => p.2 (by omega) (by omega)⟩
      · simp only [q, if_false] at hz
        rw [Int.toNat_natCast] at hz
        have p := prs2.2 _ y hz
        exact ⟨p.1, fun a b => p.2 (by omega) (by omega)⟩
    have eC : Ext (A ++ Cl.lst xs2 :: t2) (A3 ++ Cl.lst ys2 :: t3) := eA3.trans ⟨_, rfl⟩
    have eA2 := eC.get eA1
    have eA4 : (A3 ++ Cl.lst ys2 :: t3)[A3.length]? = some (.lst ys2) := by simp
    simp only [wp_sC, wp_sN, wp_ret, wp_asg, wp_par, wp_sif, wp_sx, wp_and_, wp_or_, wp_not, wp_neg, wp_cmp, wp_chain, wp_if, wp_call, wp_callK, wp_fn, wp_ix, wp_bin, wp_tup, wp_lst, wp_cons, wp_nil, wp_con, wp_var, wp_gn, fl_nx, fl_rt, ed_rt, setsL, List.getElem?_cons_zero, List.getElem?_cons_succ, Option.some.injEq, exists_eq_left', List.set_cons_zero, List.set_cons_succ, wp_ok, wp_map, truth, cmpE, eq_int, Option.map_some, fn_tupR (seq_c eA2), fn_tupR (seq_c eA4)]
    exact ⟨⟨k, xs2, ys2, i2, rfl, line_prs i1 (by omega) lA hx2 prs3⟩, ((w8.ext eB).ext eC).mono (by omega), (g17.trans g8).trans (eB.trans eC).chg⟩
  · simp only [wp_sC, wp_sN, wp_ret, wp_asg, wp_par, wp_sif, wp_sx, wp_and_, wp_or_, wp_not, wp_neg, wp_cmp, wp_chain, wp_if, wp_call, wp_callK, wp_fn, wp_ix, wp_bin, wp_tup, wp_lst, wp_cons, wp_nil, wp_con, wp_var, wp_gn, fl_nx, fl_rt, ed_rt, setsL, List.getElem?_cons_zero, List.getElem?_cons_succ, Option.some.injEq, exists_eq_left', List.set_cons_zero, List.set_cons_succ, wp_ok, wp_map, truth, cmpE, eq_int, Option.map_some, h0, decide_false, Bool.false_eq_true, if_false, fn_tupR (seq_c e82), fn_tupR (seq_c e8)]
    exact ⟨⟨k, xs, zs, i2, rfl, line_prs i1 (by omega) lx hx prs2⟩, w8.mono (by omega), g17.trans g8⟩
end K34
namespace K34
open PySem Mini
theorem gt_set {xs : List D} {i q : Nat} {v : D} (h : i < xs.length) : gt (xs.set i v) q = if q = i then v else gt xs q := by
  unfold gt
  by_cases e : q = i
  · subst e
    rw [List.getElem?_set_self h, if_pos rfl]; rfl
  · rw [List.getElem?_set_ne (Ne.symm e), if_neg e]
theorem LineP.setx {B : Int} {n i : Nat} {xs ys : List D} {v : D} (h : LineP B n xs ys) (hv : Fq B v) (h0 : 0 < num v) : LineP B n (xs.set i v) ys :=
  ⟨h.n1, h.n8, by rw [List.length_set]; exact h.lx, h.ly, fun x hx => (List.mem_or_eq_of_mem_set hx).elim (h.fx x) fun e => by rw [e]; exact ⟨hv, h0⟩, h.fy, h.inn⟩
theorem LineP.sety {B : Int} {n i : Nat} {xs ys : List D} {v : D} (h : LineP B n xs ys) (hv : Fq B v) (h0 : 0 ≤ num v) (h1 : 0 < i → i < n → 0 < num v) : LineP B n xs (ys.set i v) :=
  ⟨h.n1, h.n8, h.lx, by rw [List.length_set]; exact h.ly, h.fx, fun x hx => (List.mem_or_eq_of_mem_set hx).elim (h.fy x) fun e => by rw [e]; exact ⟨hv, h0⟩, fun j y hj a b => by
    by_cases e : j = i
    · subst e
      have := (List.getElem?_eq_some_iff.mp hj).1
      rw [List.length_set] at this
      rw [List.getElem?_set_self this] at hj
      cases hj
      exact h1 a b
    · rw [List.getElem?_set_ne (Ne.symm e)] at hj
      exact h.inn j y hj a b⟩
theorem LineP.py {B : Int} {n i : Nat} {xs ys : List D} (h : LineP B n xs ys) (h0 : 0 < i) (hi : i < n) : 0 < num (gt ys i) := h.inn i _ (gt_of (by have := h.ly; omega)) h0 hi
theorem LineP.ny {B : Int} {n i : Nat} {xs ys : List D} (h : LineP B n xs ys) (hi : i < n + 1) : 0 ≤ num (gt ys i) := (h.fy _ (gt_mem (by have := h.ly; omega))).2
theorem LineP.px {B : Int} {n i : Nat} {xs ys : List D} (h : LineP B n xs ys) (hi : i < n) : 0 < num (gt xs i) := (h.fx _ (gt_mem (by have := h.lx; omega))).2
theorem prod_ge {x : D} {a b : Int} (h0 : 0 ≤ num x) (hd : 1 ≤ den x) (hb : 1 ≤ b) (hab : b ≤ a) : le x (frD (num x * a) (den x * b)) := by
  have p : 0 < den x * b := Int.mul_pos (by omega) (by omega)
  have k := frD_ok (n := num x * a) (m := den x * b) (B := (num x * a).natAbs + den x * b) (by omega) (by omega) (by omega)
  have v := k.val
  have dp := k.q.pos
  generalize frD (num x * a) (den x * b) = y at v dp
  unfold le
  have h1 : num x * den y * b ≤ num y * den x * b := by
    have e1 : num y * den x * b = num x * a * den y := by rw [Int.mul_assoc]; exact v
    rw [e1]
    have := Int.mul_le_mul_of_nonneg_left hab (Int.mul_nonneg h0 (show 0 ≤ den y by omega))
    have e2 : num x * a * den y = num x * den y * a := by simp only [Int.mul_assoc, Int.mul_comm, Int.mul_left_comm]
    omega
  exact Int.le_of_mul_le_mul_right h1 (by omega)
theorem prod_le {x : D} {a b : Int} (h0 : 0 ≤ num x) (hd : 1 ≤ den x) (hb : 1 ≤ b) (hab : b ≤ a) : le (frD (num x * b) (den x * a)) x := by
  have p : 0 < den x * a := Int.mul_pos (by omega) (by omega)
  have k := frD_ok (n := num x * b) (m := den x * a) (B := (num x * b).natAbs + den x * a) (by omega) (by omega) (by omega)
  have v := k.val
  have dp := k.q.pos
  generalize frD (num x * b) (den x * a) = y at v dp
  unfold le
  have h1 : num y * den x * a ≤ num x * den y * a := by
    have e1 : num y * den x * a = num x * b * den y := by rw [Int.mul_assoc]; exact v
    rw [e1]
    have := Int.mul_le_mul_of_nonneg_left hab (Int.mul_nonneg h0 (show 0 ≤ den y by omega))
    have e2 : num x * b * den y = num x * den y * b := by simp only [Int.mul_assoc, Int.mul_comm, Int.mul_left_comm]
    omega
  exact Int.le_of_mul_le_mul_right h1 (by omega)
theorem mul_bd {a b A B : Int} (h1 : -A ≤ a) (h2 : a ≤ A) (h3 : -B ≤ b) (h4 : b ≤ B) : ((a * b).natAbs : Int) ≤ A * B := by
  rw [Int.natAbs_mul]
  have : a.natAbs * b.natAbs ≤ A.toNat * B.toNat := Nat.mul_le_mul (by omega) (by omega)
  have e : ((A.toNat * B.toNat : Nat) : Int) = A * B := by
    rw [Int.natCast_mul, Int.toNat_of_nonneg (by omega), Int.toNat_of_nonneg (by omega)]
  omega
theorem mul_bd2 {a b A B : Int} (h1 : 1 ≤ a) (h2 : a ≤ A) (h3 : 1 ≤ b) (h4 : b ≤ B) : 1 ≤ a * b ∧ a * b ≤ A * B := by
  have := Int.mul_pos (show 0 < a by omega) (show 0 < b by omega)
  exact ⟨by omega, Int.mul_le_mul h2 h4 (by omega) (by omega)⟩
/-- the product of two fractions -/
theorem prod_ok {a b : D} {A B C : Int} (ha : Fq A a) (hb : Fq B b) (hC : A * B ≤ C) : FrOk (num a * num b) (den a * den b) C := by
  have h := mul_bd ha.lo ha.hi hb.lo hb.hi
  have k := mul_bd2 ha.pos ha.dhi hb.pos hb.dhi
  exact frD_ok k.1 (by omega) (by omega)
theorem sum_ok {a b : D} {A B C : Int} (ha : Fq A a) (hb : Fq B b) (hC : 2 * (A * B) ≤ C) : FrOk (num a * den b + num b * den a) (den a * den b) C := by
  have p1 := ha.pos
  have p2 := hb.pos
  have h := mul_bd ha.lo ha.hi (show -B ≤ den b by have := hb.dhi; omega) hb.dhi
  have h2 := mul_bd (a := den a) (b := num b) (show -A ≤ den a by have := ha.dhi; omega) ha.dhi hb.lo hb.hi
  rw [Int.mul_comm (den a)] at h2
  have k := mul_bd2 ha.pos ha.dhi hb.pos hb.dhi
  exact frD_ok k.1 (by omega) (by omega)
theorem gap_ok {a b : D} {A B C : Int} (ha : Fq A a) (hb : Fq B b) (hC : 2 * (A * B) ≤ C) : FrOk (num a * den b - num b * den a) (den a * den b) C := by
  have p1 := ha.pos
  have p2 := hb.pos
  have h := mul_bd ha.lo ha.hi (show -B ≤ den b by have := hb.dhi; omega) hb.dhi
  have h2 := mul_bd (a := den a) (b := num b) (show -A ≤ den a by have := ha.dhi; omega) ha.dhi hb.lo hb.hi
  rw [Int.mul_comm (den a)] at h2
  have k := mul_bd2 ha.pos ha.dhi hb.pos hb.dhi
  exact frD_ok k.1 (by omega) (by omega)
/-- a box -/
structure BoxP (n : Nat) (xs' ys' xs ys : List D) : Prop where
  slow : LineP 100 n xs' ys'
  fast : LineP 9 n xs ys
  bx : ∀ q, q < n → le (gt xs q) (gt xs' q)
  byy : ∀ q, q < n + 1 → le (gt ys' q) (gt ys q)
theorem BoxP.setx {n i : Nat} {xs' ys' xs ys : List D} {v : D} (h : BoxP n xs' ys' xs ys) (hi : i < n) (hv : Fq 100 v) (h0 : 0 < num v) (hl : le (gt xs i) v) : BoxP n (xs'.set i v) ys' xs ys :=
  ⟨h.slow.setx hv h0, h.fast, fun q hq => by
    rw [gt_set (by have := h.slow.lx; omega)]
    split
    · rename_i e; rw [e]; exact hl
    · exact h.bx q hq, h.byy⟩
theorem BoxP.sety {n i : Nat} {xs' ys' xs ys : List D} {v : D} (h : BoxP n xs' ys' xs ys) (hi : i < n + 1) (hv : Fq 100 v) (h0 : 0 ≤ num v) (h1 : 0 < i → i < n → 0 < num v) (hl : le v (gt ys i)) : BoxP n xs' (ys'.set i v) xs ys :=
  ⟨h.slow.sety hv h0 h1, h.fast, h.bx, fun q hq => by
    rw [gt_set (by have := h.slow.ly; omega)]
    split
    · rename_i e; rw [e]; exact hl
    · exact h.byy q hq⟩
theorem BoxP.is {n : Nat} {xs' ys' xs ys : List D} (h : BoxP n xs' ys' xs ys) : slowB xs' ys' xs ys = true := (slow_iff h.slow h.fast).mpr ⟨rfl, h.bx, h.byy⟩
end K34
namespace K34
open PySem Mini
theorem in_two {S : Sto} {l : Nat} {q k : Int} (h : seqAt S l = some [.int 0, .int k]) : inE S (.int q) (.ref l) = some (decide (0 = q) || (decide (k = q) || false)) := by
  have t1 : toD S deepN (.int q) = some (.int q) := rfl
  have t2 : toD S deepN (.ref l) = some (.list [.int 0, .int k]) := by
    show (match seqAt S l with
          | some xs => (mapO (toD S 19) xs).map PyData.list
          | none => none) = _
    rw [h]; rfl
  unfold inE
  rw [t1, t2]
  have s1 : SeqAt.shaped (.int q) = true := shaped_of (k := 0) ⟨by simp [PyData.canLay0], by simp [PyData.depth]⟩ (by omega)
  have s2 : SeqAt.shaped (.list [.int 0, .int k]) = true := shaped_of (k := 1) ⟨by simp [PyData.canLay0, PyData.canLayAll0], by simp [PyData.depth, PyData.depthAll]⟩ (by omega)
  show (if SeqAt.shaped (.int q) && SeqAt.shaped (.list [.int 0, .int k]) then some ([PyData.int 0, .int k].any fun z => PyData.eqv z (.int q)) else none) = _
  rw [s1, s2]
  rfl
theorem it_refF {p : Pg} {e : Ex} {ρ : Mini.Loc} {S : Sto} {xs : List D} {l : Nat} (h : wp (evE p e ρ S) fun d S' => Ext S S' ∧ d = .ref l ∧ S'[l]? = some (.lst xs)) : wp (evI p (.val e) ρ S) fun src S1 => Ext S S1 ∧ src = srcR l ∧ S1[l]? = some (.lst xs) := by
  rw [wp_iv]
  refine wp_mono h fun d S' ⟨e1, e2, e3⟩ => ?_
  subst e2
  refine ⟨srcR l, ?_, e1, rfl, e3⟩
  show (match seqAt S' l with
    | some _ => some (srcR l)
    | none => none) = _
  rw [seq_c e3]
theorem srcR_of {S : Sto} {l i : Nat} {xs : List D} (h : S[l]? = some (.lst xs)) : srcR l i S = srcL xs i S := by
  unfold srcR
  rw [seq_c h]
/-- a loop over the slots of a line that draws -/
theorem slots_wp {m : Nat} (hm : 1 ≤ m) {v k : Nat} {e : Ex} {body : List St} {ρ : Mini.Loc} {S : Sto} {c : Nat} {t step : Int} {Q : Fl → Sto → Prop} (R : Mini.Loc → Prop) (w : Well S c t) (hk : k ≤ 100) (hs : 0 ≤ step)
    (he : wp (evE (P m) e ρ S) fun d S' => S' = S ∧ ∃ xs b, d = .tup [.tup xs, b] ∧ xs.length = k) (hR : R ρ)
    (hb : ∀ (b : Bool) (i : Nat) S' ρ' (u : Int), (if b then i < k else i < k + 1) → Well S' c u → u ≤ t + ((2 * k + 1 : Nat) : Int) * step → R ρ' → wp ((asg (P m) (.nm v) (sD b i) ρ' S').bind fun ρ1 S1 => evSs (P m) body ρ1 S1) fun f S1 => ∃ ρ1, f = .nx ρ1 ∧ R ρ1 ∧ Well S1 c (u + step) ∧ Chg c S' S1)
    (h2 : ∀ S' ρ', Chg c S S' → Well S' c (t + ((2 * k + 1 : Nat) : Int) * step) → R ρ' → Q (.nx ρ') S') : wp (evS (P m) (.for_ (.nm v) (.val (.call 29 [e] none)) body) ρ S) Q := by
  rw [wp_for, wp_iv]
  simp only [wp_call, wp_cons, wp_nil]
  refine wp_mono he fun d S' ⟨es, xs, b, ed, lx⟩ => ?_
  subst es ed
  refine wp_mono (t_slots hm (by omega)) fun r S1 ⟨e1, l, er, hl, l1⟩ => ?_
  subst er
  rw [lx] at hl
  refine ⟨srcR l, ?_, ?_⟩
  · show (match seqAt S1 l with
    | some _ => some (srcR l)
    | none => none) = _
    rw [seq_c hl]
  have cl : c < S'.length := w.lt
  refine forN_wp (slotsL k) (fun i S2 ρ' => S2[l]? = some (.lst (slotsL k)) ∧ Well S2 c (t + (i : Int) * step) ∧ Chg c S' S2 ∧ R ρ') (fun i S2 ρ' h => srcR_of h.1) ?_ ?_ _ 0 _ _ (Nat.zero_le _) (by have := fuelBig (m := m) (n := (slotsL k).length) (by rw [slots_len]; omega); omega) ⟨hl, (w.ext e1).mono (by omega), e1.chg, hR⟩
  · rintro i S2 ρ' d ⟨a1, a2, a3, a4⟩ hd
    have hi : i < 2 * k + 1 := by
      have := (List.getElem?_eq_some_iff.mp hd).1
      rw [slots_len] at this
      omega
    have hle : t + (i : Int) * step ≤ t + ((2 * k + 1 : Nat) : Int) * step := by
      have := Int.mul_le_mul_of_nonneg_right (show (i : Int) ≤ ((2 * k + 1 : Nat) : Int) by omega) hs
      omega
    have es : t + ((i + 1 : Nat) : Int) * step = t + (i : Int) * step + step := by
      push_cast
      rw [Int.add_mul, Int.one_mul]; omega
    have hs : ∃ b j, (if b then j < k else j < k + 1) ∧ d = sD b j := by
      rcases mem_slots.mp (List.mem_of_getElem? hd) with ⟨j, hj, rfl⟩ | ⟨j, hj, rfl⟩
      · exact ⟨true, j, hj, rfl⟩
      · exact ⟨false, j, hj, rfl⟩
    obtain ⟨b, j, hj, rfl⟩ := hs
    refine wp_mono (hb b j S2 ρ' _ hj a2 hle a4) fun f S3 ⟨ρ1, ef, r1, w3, g3⟩ => ?_
    subst ef
    exact ⟨g3.get l _ (by omega) a1, by rw [es]; exact w3, a3.trans g3, r1⟩
  · rintro S2 ρ' ⟨a1, a2, a3, a4⟩
    rw [slots_len] at a2
    exact h2 S2 ρ' a3 a2 a4
/-- how much greater -/
def By (d : D) (a b : Int) : Prop := d = .tup [.int a, .int b] ∧ 1 ≤ b ∧ b ≤ a ∧ a ≤ 5 ∧ Nat.gcd a.natAbs b.natAbs = 1
theorem By.fq {d : D} {a b : Int} (h : By d a b) : Fq 9 (.tup [.int a, .int b]) ∧ Fq 9 (.tup [.int b, .int a]) := by
  obtain ⟨rfl, h1, h2, h3, h4⟩ := h
  exact ⟨⟨rfl, show -9 ≤ a by omega, show a ≤ 9 by omega, show 1 ≤ b by omega, show b ≤ 9 by omega, h4⟩, ⟨rfl, show -9 ≤ b by omega, show b ≤ 9 by omega, show 1 ≤ a by omega, show a ≤ 9 by omega, by rw [Nat.gcd_comm]; exact h4⟩⟩
theorem t_pair_box {n : Nat} (hn : 6 ≤ n) {S : Sto} {c : Nat} {t : Int} (w : Well S c t) (ht : t ≤ 600000000) : wp ((P n).call 33 [.ref c] S) fun r S' => (∃ k xs' ys' xs ys, k ≤ 5 ∧ r = .tup [lnD xs' ys', lnD xs ys] ∧ BoxP k xs' ys' xs ys) ∧ Well S' c (t + 1000) ∧ Chg c S S' := by
  obtain ⟨m, rfl, hm⟩ := up hn
  rw [cP m 33 b33 rfl]
  refine wp_run rfl ?_
  show wp (evSs (P m) b33.body [some (.ref c), none, none, none, none, none, none, none] S) _
  simp only [wp_sC, wp_sN, wp_ret, wp_asg, wp_par, wp_sif, wp_sx, wp_and_, wp_or_, wp_not, wp_neg, wp_cmp, wp_chain, wp_if, wp_call, wp_callK, wp_fn, wp_ix, wp_bin, wp_tup, wp_lst, wp_cons, wp_nil, wp_con, wp_var, wp_gn, fl_nx, fl_rt, ed_rt, setsL, List.getElem?_cons_zero, List.getElem?_cons_succ, Option.some.injEq, exists_eq_left', List.set_cons_zero, List.set_cons_succ, wp_ok, wp_map, truth, cmpE, eq_int, Option.map_some, b33]
  refine wp_mono (t_line (by omega) w (by omega)) fun r S1 ⟨⟨k, xs, ys, k5, er, lf⟩, w1, g1⟩ => ?_
  subst er
  have lx := lf.lx
  have ly := lf.ly
  simp only [wp_sC, wp_sN, wp_ret, wp_asg, wp_par, wp_sif, wp_sx, wp_and_, wp_or_, wp_not, wp_neg, wp_cmp, wp_chain, wp_if, wp_call, wp_callK, wp_fn, wp_ix, wp_bin, wp_tup, wp_lst, wp_cons, wp_nil, wp_con, wp_var, wp_gn, fl_nx, fl_rt, ed_rt, setsL, List.getElem?_cons_zero, List.getElem?_cons_succ, Option.some.injEq, exists_eq_left', List.set_cons_zero, List.set_cons_succ, wp_ok, wp_map, truth, cmpE, eq_int, Option.map_some, ix0, fn_len]
  refine slots_wp (c := c) (t := t + 100) (step := 10) (k := k) (by omega) (fun ρ => ∃ tv xs' ys' by_ way nm, ρ = [some (.ref c), some (lnD xs ys), tv, some (lnD xs' ys'), some (.int xs.length), by_, way, nm] ∧ BoxP k xs' ys' xs ys) w1 (by omega) (by decide) ?_ ?_ ?_ ?_
  · simp only [wp_sC, wp_sN, wp_ret, wp_asg, wp_par, wp_sif, wp_sx, wp_and_, wp_or_, wp_not, wp_neg, wp_cmp, wp_chain, wp_if, wp_call, wp_callK, wp_fn, wp_ix, wp_bin, wp_tup, wp_lst, wp_cons, wp_nil, wp_con, wp_var, wp_gn, fl_nx, fl_rt, ed_rt, setsL, List.getElem?_cons_zero, List.getElem?_cons_succ, Option.some.injEq, exists_eq_left', List.set_cons_zero, List.set_cons_succ, wp_ok, wp_map, truth, cmpE, eq_int, Option.map_some]
    exact ⟨trivial, xs, _, rfl, lx⟩
  · exact ⟨_, xs, ys, _, _, _, rfl, lf.mono (by decide), lf, fun _ _ => .refl, fun _ _ => .refl⟩
  · rintro b i S2 ρ' u hi w2 hu ⟨tv, xs', ys', by_, way, nm, rfl, bx⟩
    have lx' := bx.slow.lx
    have ly' := bx.slow.ly
    have hp : i < (pick b xs ys).length := by cases b <;> simp only [pick, Bool.false_eq_true, if_true, if_false] at hi ⊢ <;> omega
    have hp' : i < (pick b xs' ys').length := by cases b <;> simp only [pick, Bool.false_eq_true, if_true, if_false] at hi ⊢ <;> omega
    simp only [wp_sC, wp_sN, wp_ret, wp_asg, wp_par, wp_sif, wp_sx, wp_and_, wp_or_, wp_not, wp_neg, wp_cmp, wp_chain, wp_if, wp_call, wp_callK, wp_fn, wp_ix, wp_bin, wp_tup, wp_lst, wp_cons, wp_nil, wp_con, wp_var, wp_gn, fl_nx, fl_rt, ed_rt, setsL, List.getElem?_cons_zero, List.getElem?_cons_succ, Option.some.injEq, exists_eq_left', List.set_cons_zero, List.set_cons_succ, wp_ok, wp_map, truth, cmpE, eq_int, Option.map_some, wp_bind]
    refine wp_mono (t_pull (by omega) w2 (by omega) (by decide) (by decide)) fun r S3 ⟨x, er, x0, x1, w3, g3⟩ => ?_
    subst er
    refine wp_mono (t_held (by omega) (gt_of hp)) fun r S4 ⟨er, es⟩ => ?_
    subst er es
    simp only [wp_sC, wp_sN, wp_ret, wp_asg, wp_par, wp_sif, wp_sx, wp_and_, wp_or_, wp_not, wp_neg, wp_cmp, wp_chain, wp_if, wp_call, wp_callK, wp_fn, wp_ix, wp_bin, wp_tup, wp_lst, wp_cons, wp_nil, wp_con, wp_var, wp_gn, fl_nx, fl_rt, ed_rt, setsL, List.getElem?_cons_zero, List.getElem?_cons_succ, Option.some.injEq, exists_eq_left', List.set_cons_zero, List.set_cons_succ, wp_ok, wp_map, truth, cmpE, eq_int, Option.map_some]
    refine wp_mono (t_one (by omega) (w3.ext .one) (by omega) at_new (by have := w3.lt; omega) (by simp) (by simp)) fun r S5 ⟨hr, w5, g5⟩ => ?_
    obtain ⟨p, q, hby⟩ : ∃ p q, By r p q := by
      simp only [List.mem_cons, List.not_mem_nil, or_false] at hr
      rcases hr with rfl | rfl | rfl | rfl
      · exact ⟨2, 1, rfl, by decide⟩
      · exact ⟨3, 2, rfl, by decide⟩
      · exact ⟨5, 4, rfl, by decide⟩
      · exact ⟨4, 1, rfl, by decide⟩
    have g25 : Chg c S2 S5 := (g3.trans Ext.one.chg).trans g5
    obtain ⟨q1, q2⟩ := hby.fq
    have er := hby.1
    have hb1 := hby.2.1
    have hb2 := hby.2.2.1
    have hb3 := hby.2.2.2.1
    subst er
    -- what is put
    have hput : (if b then ∃ v, wp ((P m).call 22 [gt (pick b xs ys) i, .tup [.int p, .int q]] S5) (fun r S6 => r = v ∧ S6 = S5) ∧ BoxP k (xs'.set i v) ys' xs ys else ∃ v, wp ((P m).call 22 [gt (pick b xs ys) i, .tup [.int q, .int p]] S5) (fun r S6 => r = v ∧ S6 = S5) ∧ BoxP k xs' (ys'.set i v) xs ys) := by
      cases b with
      | true =>
        simp only [if_true] at hi ⊢
        have pz := lf.px hi
        have ok := prod_ok (lf.gx hi) q1 (C := 100) (by decide)
        refine ⟨_, t_prod (by omega) (by decide) (by decide) (lf.gx hi) q1, bx.setx hi ok.q (ok.np (Int.mul_pos pz (show 0 < p by omega))) (prod_ge (Int.le_of_lt pz) (lf.gx hi).pos hb1 hb2)⟩
      | false =>
        simp only [Bool.false_eq_true, if_false] at hi ⊢
        have pz := lf.ny hi
        have ok := prod_ok (lf.gy hi) q2 (C := 100) (by decide)
        refine ⟨_, t_prod (by omega) (by decide) (by decide) (lf.gy hi) q2, bx.sety hi ok.q (ok.nn (Int.mul_nonneg pz (show 0 ≤ q by omega))) (fun a d => ok.np (Int.mul_pos (lf.py a d) (show 0 < q by omega))) (prod_le pz (lf.gy hi).pos hb1 hb2)⟩
    by_cases h0 : x = 0
    · subst h0
      cases b with
      | true =>
        simp only [if_true] at hput
        obtain ⟨v, hv, bx2⟩ := hput
        simp only [wp_sC, wp_sN, wp_ret, wp_asg, wp_par, wp_sif, wp_sx, wp_and_, wp_or_, wp_not, wp_neg, wp_cmp, wp_chain, wp_if, wp_call, wp_callK, wp_fn, wp_ix, wp_bin, wp_tup, wp_lst, wp_cons, wp_nil, wp_con, wp_var, wp_gn, fl_nx, fl_rt, ed_rt, setsL, List.getElem?_cons_zero, List.getElem?_cons_succ, Option.some.injEq, exists_eq_left', List.set_cons_zero, List.set_cons_succ, wp_ok, wp_map, truth, cmpE, eq_int, Option.map_some, decide_true, if_true, ixs0, eq_dd]
        refine wp_mono hv fun r S6 ⟨er, es⟩ => ?_
        subst er es
        refine wp_mono (t_put (by omega) hp') fun r S7 ⟨er, e7⟩ => ?_
        subst er
        simp only [wp_sC, wp_sN, wp_ret, wp_asg, wp_par, wp_sif, wp_sx, wp_and_, wp_or_, wp_not, wp_neg, wp_cmp, wp_chain, wp_if, wp_call, wp_callK, wp_fn, wp_ix, wp_bin, wp_tup, wp_lst, wp_cons, wp_nil, wp_con, wp_var, wp_gn, fl_nx, fl_rt, ed_rt, setsL, List.getElem?_cons_zero, List.getElem?_cons_succ, Option.some.injEq, exists_eq_left', List.set_cons_zero, List.set_cons_succ, wp_ok, wp_map, truth, cmpE, eq_int, Option.map_some, Int.reduceEq, decide_false, Bool.false_eq_true, if_false, if_true]
        exact ⟨_, rfl, ⟨_, _, _, _, _, _, rfl, bx2⟩, (w5.ext e7).mono (by omega), g25.trans e7.chg⟩
      | false =>
        simp only [Bool.false_eq_true, if_false] at hput
        obtain ⟨v, hv, bx2⟩ := hput
        simp only [wp_sC, wp_sN, wp_ret, wp_asg, wp_par, wp_sif, wp_sx, wp_and_, wp_or_, wp_not, wp_neg, wp_cmp, wp_chain, wp_if, wp_call, wp_callK, wp_fn, wp_ix, wp_bin, wp_tup, wp_lst, wp_cons, wp_nil, wp_con, wp_var, wp_gn, fl_nx, fl_rt, ed_rt, setsL, List.getElem?_cons_zero, List.getElem?_cons_succ, Option.some.injEq, exists_eq_left', List.set_cons_zero, List.set_cons_succ, wp_ok, wp_map, truth, cmpE, eq_int, Option.map_some, decide_true, if_true, ixs0, eq_sd, Bool.false_eq_true, if_false, ix0, ix1]
        refine wp_mono hv fun r S6 ⟨er, es⟩ => ?_
        subst er es
        refine wp_mono (t_put (by omega) hp') fun r S7 ⟨er, e7⟩ => ?_
        subst er
        simp only [wp_sC, wp_sN, wp_ret, wp_asg, wp_par, wp_sif, wp_sx, wp_and_, wp_or_, wp_not, wp_neg, wp_cmp, wp_chain, wp_if, wp_call, wp_callK, wp_fn, wp_ix, wp_bin, wp_tup, wp_lst, wp_cons, wp_nil, wp_con, wp_var, wp_gn, fl_nx, fl_rt, ed_rt, setsL, List.getElem?_cons_zero, List.getElem?_cons_succ, Option.some.injEq, exists_eq_left', List.set_cons_zero, List.set_cons_succ, wp_ok, wp_map, truth, cmpE, eq_int, Option.map_some, Int.reduceEq, decide_false, Bool.false_eq_true, if_false, if_true]
        exact ⟨_, rfl, ⟨_, _, _, _, _, _, rfl, bx2⟩, (w5.ext e7).mono (by omega), g25.trans e7.chg⟩
    · simp only [wp_sC, wp_sN, wp_ret, wp_asg, wp_par, wp_sif, wp_sx, wp_and_, wp_or_, wp_not, wp_neg, wp_cmp, wp_chain, wp_if, wp_call, wp_callK, wp_fn, wp_ix, wp_bin, wp_tup, wp_lst, wp_cons, wp_nil, wp_con, wp_var, wp_gn, fl_nx, fl_rt, ed_rt, setsL, List.getElem?_cons_zero, List.getElem?_cons_succ, Option.some.injEq, exists_eq_left', List.set_cons_zero, List.set_cons_succ, wp_ok, wp_map, truth, cmpE, eq_int, Option.map_some, h0, decide_false, Bool.false_eq_true, if_false]
      by_cases h1 : x = 1
      · simp only [wp_sC, wp_sN, wp_ret, wp_asg, wp_par, wp_sif, wp_sx, wp_and_, wp_or_, wp_not, wp_neg, wp_cmp, wp_chain, wp_if, wp_call, wp_callK, wp_fn, wp_ix, wp_bin, wp_tup, wp_lst, wp_cons, wp_nil, wp_con, wp_var, wp_gn, fl_nx, fl_rt, ed_rt, setsL, List.getElem?_cons_zero, List.getElem?_cons_succ, Option.some.injEq, exists_eq_left', List.set_cons_zero, List.set_cons_succ, wp_ok, wp_map, truth, cmpE, eq_int, Option.map_some, h1, decide_true, if_true, ixs0, eq_sS]
        cases b with
        | true =>
          simp only [Bool.not_true, Bool.false_eq_true, if_false]
          exact ⟨_, rfl, ⟨_, _, _, _, _, _, rfl, bx⟩, w5.mono (by omega), g25⟩
        | false =>
          simp only [wp_sC, wp_sN, wp_ret, wp_asg, wp_par, wp_sif, wp_sx, wp_and_, wp_or_, wp_not, wp_neg, wp_cmp, wp_chain, wp_if, wp_call, wp_callK, wp_fn, wp_ix, wp_bin, wp_tup, wp_lst, wp_cons, wp_nil, wp_con, wp_var, wp_gn, fl_nx, fl_rt, ed_rt, setsL, List.getElem?_cons_zero, List.getElem?_cons_succ, Option.some.injEq, exists_eq_left', List.set_cons_zero, List.set_cons_succ, wp_ok, wp_map, truth, cmpE, eq_int, Option.map_some, Bool.not_false, if_true, ixs1]
          have hin := in_two (S := S5 ++ [Cl.lst [D.int 0, D.int xs.length]]) (l := S5.length) (q := 0 + (i : Int)) (k := xs.length) (seq_c at_new)
          rw [hin]
          by_cases hz : (0 : Int) = 0 + (i : Int) ∨ (xs.length : Int) = 0 + (i : Int)
          · have hz' : (decide ((0 : Int) = 0 + (i : Int)) || (decide ((xs.length : Int) = 0 + (i : Int)) || false)) = true := by
              rcases hz with h | h
              · rw [decide_eq_true h]; rfl
              · rw [decide_eq_true h]; cases decide ((0 : Int) = 0 + (i : Int)) <;> rfl
            simp only [wp_sC, wp_sN, wp_ret, wp_asg, wp_par, wp_sif, wp_sx, wp_and_, wp_or_, wp_not, wp_neg, wp_cmp, wp_chain, wp_if, wp_call, wp_callK, wp_fn, wp_ix, wp_bin, wp_tup, wp_lst, wp_cons, wp_nil, wp_con, wp_var, wp_gn, fl_nx, fl_rt, ed_rt, setsL, List.getElem?_cons_zero, List.getElem?_cons_succ, Option.some.injEq, exists_eq_left', List.set_cons_zero, List.set_cons_succ, wp_ok, wp_map, truth, cmpE, eq_int, Option.map_some, hz', if_true]
            refine wp_mono (t_pull (by omega) (w5.ext .one) (by omega) (by decide) (by decide)) fun r S6 ⟨z, er, z0, z1, w6, g6⟩ => ?_
            subst er
            have g26 : Chg c S2 S6 := (g25.trans Ext.one.chg).trans g6
            simp only [wp_sC, wp_sN, wp_ret, wp_asg, wp_par, wp_sif, wp_sx, wp_and_, wp_or_, wp_not, wp_neg, wp_cmp, wp_chain, wp_if, wp_call, wp_callK, wp_fn, wp_ix, wp_bin, wp_tup, wp_lst, wp_cons, wp_nil, wp_con, wp_var, wp_gn, fl_nx, fl_rt, ed_rt, setsL, List.getElem?_cons_zero, List.getElem?_cons_succ, Option.some.injEq, exists_eq_left', List.set_cons_zero, List.set_cons_succ, wp_ok, wp_map, truth, cmpE, eq_int, Option.map_some]
            by_cases hz0 : z = 0
            · simp only [wp_sC, wp_sN, wp_ret, wp_asg, wp_par, wp_sif, wp_sx, wp_and_, wp_or_, wp_not, wp_neg, wp_cmp, wp_chain, wp_if, wp_call, wp_callK, wp_fn, wp_ix, wp_bin, wp_tup, wp_lst, wp_cons, wp_nil, wp_con, wp_var, wp_gn, fl_nx, fl_rt, ed_rt, setsL, List.getElem?_cons_zero, List.getElem?_cons_succ, Option.some.injEq, exists_eq_left', List.set_cons_zero, List.set_cons_succ, wp_ok, wp_map, truth, cmpE, eq_int, Option.map_some, hz0, decide_true, if_true]
              refine wp_mono (t_put (by omega) hp') fun r S7 ⟨er, e7⟩ => ?_
              subst er
              simp only [wp_sC, wp_sN, wp_ret, wp_asg, wp_par, wp_sif, wp_sx, wp_and_, wp_or_, wp_not, wp_neg, wp_cmp, wp_chain, wp_if, wp_call, wp_callK, wp_fn, wp_ix, wp_bin, wp_tup, wp_lst, wp_cons, wp_nil, wp_con, wp_var, wp_gn, fl_nx, fl_rt, ed_rt, setsL, List.getElem?_cons_zero, List.getElem?_cons_succ, Option.some.injEq, exists_eq_left', List.set_cons_zero, List.set_cons_succ, wp_ok, wp_map, truth, cmpE, eq_int, Option.map_some, Bool.false_eq_true, if_false]
              have hi : i < k + 1 := by simpa using hi
              have bx2 : BoxP k xs' (ys'.set i (.tup [.int 0, .int 1])) xs ys := bx.sety hi (zero_fq (by decide)) (Int.le_refl 0) (fun a d => by omega) (by
                have := lf.ny hi
                show 0 * den (gt ys i) ≤ num (gt ys i) * 1
                omega)
              exact ⟨_, rfl, ⟨_, _, _, _, _, _, rfl, bx2⟩, (w6.ext e7).mono (by omega), g26.trans e7.chg⟩
            · simp only [wp_sC, wp_sN, wp_ret, wp_asg, wp_par, wp_sif, wp_sx, wp_and_, wp_or_, wp_not, wp_neg, wp_cmp, wp_chain, wp_if, wp_call, wp_callK, wp_fn, wp_ix, wp_bin, wp_tup, wp_lst, wp_cons, wp_nil, wp_con, wp_var, wp_gn, fl_nx, fl_rt, ed_rt, setsL, List.getElem?_cons_zero, List.getElem?_cons_succ, Option.some.injEq, exists_eq_left', List.set_cons_zero, List.set_cons_succ, wp_ok, wp_map, truth, cmpE, eq_int, Option.map_some, hz0, decide_false, Bool.false_eq_true, if_false]
              exact ⟨_, rfl, ⟨_, _, _, _, _, _, rfl, bx⟩, w6.mono (by omega), g26⟩
          · have hz' : (decide ((0 : Int) = 0 + (i : Int)) || (decide ((xs.length : Int) = 0 + (i : Int)) || false)) = false := by
              have a : ¬ (0 : Int) = 0 + (i : Int) := fun h => hz (.inl h)
              have d : ¬ (xs.length : Int) = 0 + (i : Int) := fun h => hz (.inr h)
              rw [decide_eq_false a, decide_eq_false d]; rfl
            simp only [wp_sC, wp_sN, wp_ret, wp_asg, wp_par, wp_sif, wp_sx, wp_and_, wp_or_, wp_not, wp_neg, wp_cmp, wp_chain, wp_if, wp_call, wp_callK, wp_fn, wp_ix, wp_bin, wp_tup, wp_lst, wp_cons, wp_nil, wp_con, wp_var, wp_gn, fl_nx, fl_rt, ed_rt, setsL, List.getElem?_cons_zero, List.getElem?_cons_succ, Option.some.injEq, exists_eq_left', List.set_cons_zero, List.set_cons_succ, wp_ok, wp_map, truth, cmpE, eq_int, Option.map_some, hz', Bool.false_eq_true, if_false]
            exact ⟨_, rfl, ⟨_, _, _, _, _, _, rfl, bx⟩, (w5.ext .one).mono (by omega), g25.trans Ext.one.chg⟩
      · simp only [wp_sC, wp_sN, wp_ret, wp_asg, wp_par, wp_sif, wp_sx, wp_and_, wp_or_, wp_not, wp_neg, wp_cmp, wp_chain, wp_if, wp_call, wp_callK, wp_fn, wp_ix, wp_bin, wp_tup, wp_lst, wp_cons, wp_nil, wp_con, wp_var, wp_gn, fl_nx, fl_rt, ed_rt, setsL, List.getElem?_cons_zero, List.getElem?_cons_succ, Option.some.injEq, exists_eq_left', List.set_cons_zero, List.set_cons_succ, wp_ok, wp_map, truth, cmpE, eq_int, Option.map_some, h1, decide_false, Bool.false_eq_true, if_false]
        exact ⟨_, rfl, ⟨_, _, _, _, _, _, rfl, bx⟩, w5.mono (by omega), g25⟩
  · rintro S9 ρ' g9 w9 ⟨tv, xs', ys', by_, way, nm, rfl, bx⟩
    simp only [wp_sC, wp_sN, wp_ret, wp_asg, wp_par, wp_sif, wp_sx, wp_and_, wp_or_, wp_not, wp_neg, wp_cmp, wp_chain, wp_if, wp_call, wp_callK, wp_fn, wp_ix, wp_bin, wp_tup, wp_lst, wp_cons, wp_nil, wp_con, wp_var, wp_gn, fl_nx, fl_rt, ed_rt, setsL, List.getElem?_cons_zero, List.getElem?_cons_succ, Option.some.injEq, exists_eq_left', List.set_cons_zero, List.set_cons_succ, wp_ok, wp_map, truth, cmpE, eq_int, Option.map_some]
    exact ⟨⟨k, xs', ys', xs, ys, k5, rfl, bx⟩, w9.mono (by push_cast; omega), g1.trans g9⟩
end K34
namespace K34
open PySem Mini
theorem t_within {n : Nat} (hn : 6 ≤ n) {S : Sto} {c k : Nat} {t : Int} {xs' ys' xs ys : List D} (bx : BoxP k xs' ys' xs ys) (k5 : k ≤ 5) (w : Well S c t) (ht : t ≤ 600000000) : wp ((P n).call 34 [.ref c, .tup [lnD xs' ys', lnD xs ys]] S) fun r S' => (∃ us vs, r = lnD us vs ∧ LineP 2000000 k us vs) ∧ Well S' c (t + 1000) ∧ Chg c S S' := by
  obtain ⟨m, rfl, hm⟩ := up hn
  rw [cP m 34 b34 rfl]
  refine wp_run rfl ?_
  show wp (evSs (P m) b34.body [some (.ref c), some (.tup [lnD xs' ys', lnD xs ys]), none, none, none, none, none] S) _
  have ls := bx.slow
  have lf := bx.fast
  have lx := lf.lx
  have ly := lf.ly
  have lx' := ls.lx
  have ly' := ls.ly
  simp only [wp_sC, wp_sN, wp_ret, wp_asg, wp_par, wp_sif, wp_sx, wp_and_, wp_or_, wp_not, wp_neg, wp_cmp, wp_chain, wp_if, wp_call, wp_callK, wp_fn, wp_ix, wp_bin, wp_tup, wp_lst, wp_cons, wp_nil, wp_con, wp_var, wp_gn, fl_nx, fl_rt, ed_rt, setsL, List.getElem?_cons_zero, List.getElem?_cons_succ, Option.some.injEq, exists_eq_left', List.set_cons_zero, List.set_cons_succ, wp_ok, wp_map, truth, cmpE, eq_int, Option.map_some, b34, ix0]
  refine slots_wp (c := c) (t := t) (step := 10) (k := k) (by omega) (fun ρ => ∃ us vs tv a1 a2 a3, ρ = [some (.ref c), some (.tup [lnD xs' ys', lnD xs ys]), some (lnD us vs), tv, a1, a2, a3] ∧ LineP 2000000 k us vs) w (by omega) (by decide) ?_ ?_ ?_ ?_
  · simp only [wp_sC, wp_sN, wp_ret, wp_asg, wp_par, wp_sif, wp_sx, wp_and_, wp_or_, wp_not, wp_neg, wp_cmp, wp_chain, wp_if, wp_call, wp_callK, wp_fn, wp_ix, wp_bin, wp_tup, wp_lst, wp_cons, wp_nil, wp_con, wp_var, wp_gn, fl_nx, fl_rt, ed_rt, setsL, List.getElem?_cons_zero, List.getElem?_cons_succ, Option.some.injEq, exists_eq_left', List.set_cons_zero, List.set_cons_succ, wp_ok, wp_map, truth, cmpE, eq_int, Option.map_some]
    exact ⟨trivial, xs', _, rfl, lx'⟩
  · exact ⟨xs', ys', _, _, _, _, rfl, ls.mono (by decide)⟩
  · rintro b i S2 ρ' u hi w2 hu ⟨us, vs, tv, a1, a2, a3, rfl, lu⟩
    have lxu := lu.lx
    have lyu := lu.ly
    have hp : i < (pick b xs ys).length := by cases b <;> simp only [pick, Bool.false_eq_true, if_true, if_false] at hi ⊢ <;> omega
    have hp' : i < (pick b xs' ys').length := by cases b <;> simp only [pick, Bool.false_eq_true, if_true, if_false] at hi ⊢ <;> omega
    have hpu : i < (pick b us vs).length := by cases b <;> simp only [pick, Bool.false_eq_true, if_true, if_false] at hi ⊢ <;> omega
    simp only [wp_sC, wp_sN, wp_ret, wp_asg, wp_par, wp_sif, wp_sx, wp_and_, wp_or_, wp_not, wp_neg, wp_cmp, wp_chain, wp_if, wp_call, wp_callK, wp_fn, wp_ix, wp_bin, wp_tup, wp_lst, wp_cons, wp_nil, wp_con, wp_var, wp_gn, fl_nx, fl_rt, ed_rt, setsL, List.getElem?_cons_zero, List.getElem?_cons_succ, Option.some.injEq, exists_eq_left', List.set_cons_zero, List.set_cons_succ, wp_ok, wp_map, truth, cmpE, eq_int, Option.map_some, wp_bind, ix0, ix1]
    refine wp_mono (t_held (by omega) (gt_of hp')) fun r S4 ⟨er, es⟩ => ?_
    subst er es
    refine wp_mono (t_held (by omega) (gt_of hp)) fun r S4 ⟨er, es⟩ => ?_
    subst er es
    refine wp_mono (t_one (by omega) (w2.ext .one) (by omega) at_new (by have := w2.lt; omega) (by simp) (by simp)) fun r S5 ⟨hr, w5, g5⟩ => ?_
    have g25 : Chg c S4 S5 := (Ext.one.chg).trans g5
    obtain ⟨fr, q0, q1⟩ : Fq 3 r ∧ 0 ≤ num r ∧ num r ≤ den r := by
      simp only [List.mem_cons, List.not_mem_nil, or_false] at hr
      rcases hr with rfl | rfl | rfl | rfl | rfl <;> exact ⟨⟨rfl, by decide, by decide, by decide, by decide, by decide⟩, by decide, by decide⟩
    have ql : Fq 100 (gt (pick b xs' ys') i) := by
      cases b
      · exact ls.gy (by simpa using hi)
      · exact ls.gx (by simpa using hi)
    have qh : Fq 9 (gt (pick b xs ys) i) := by
      cases b
      · exact lf.gy (by simpa using hi)
      · exact lf.gx (by simpa using hi)
    have nl : 0 ≤ num (gt (pick b xs' ys') i) := by
      cases b
      · exact ls.ny (by simpa using hi)
      · exact Int.le_of_lt (ls.px (by simpa using hi))
    have nh : 0 ≤ num (gt (pick b xs ys) i) := by
      cases b
      · exact lf.ny (by simpa using hi)
      · exact Int.le_of_lt (lf.px (by simpa using hi))
    have okg := gap_ok qh ql (C := 1800) (by decide)
    refine wp_mono (t_gap (by omega) (by decide) (by decide) qh ql) fun g S6 ⟨eg, es⟩ => ?_
    subst es eg
    have okp := prod_ok okg.q fr (C := 5400) (by decide)
    refine wp_mono (t_prod (by omega) (by decide) (by decide) okg.q fr) fun p S6 ⟨ep, es⟩ => ?_
    subst es ep
    have oks := sum_ok ql okp.q (C := 2000000) (by decide)
    have mix := mix_num ql.pos qh.pos fr.pos okg.q.pos okp.q.pos q0 q1 okg.val okp.val
    refine wp_mono (t_sum (by omega) (by decide) (by decide) ql okp.q) fun s S6 ⟨es', es⟩ => ?_
    subst es es'
    refine wp_mono (t_put (by omega) hpu) fun r2 S7 ⟨er, e7⟩ => ?_
    subst er
    refine ⟨_, rfl, ?_, (w5.ext e7).mono (by omega), g25.trans e7.chg⟩
    cases b with
    | true =>
      have hi : i < k := by simpa using hi
      exact ⟨_, _, _, _, _, _, rfl, lu.setx oks.q (oks.np (mix.2 (ls.px hi) (lf.px hi)))⟩
    | false =>
      have hi : i < k + 1 := by simpa using hi
      exact ⟨_, _, _, _, _, _, rfl, lu.sety oks.q (oks.nn (mix.1 nl nh)) fun a d => oks.np (mix.2 (ls.py a d) (lf.py a d))⟩
  · rintro S9 ρ' g9 w9 ⟨us, vs, tv, a1, a2, a3, rfl, lu⟩
    simp only [wp_sC, wp_sN, wp_ret, wp_asg, wp_par, wp_sif, wp_sx, wp_and_, wp_or_, wp_not, wp_neg, wp_cmp, wp_chain, wp_if, wp_call, wp_callK, wp_fn, wp_ix, wp_bin, wp_tup, wp_lst, wp_cons, wp_nil, wp_con, wp_var, wp_gn, fl_nx, fl_rt, ed_rt, setsL, List.getElem?_cons_zero, List.getElem?_cons_succ, Option.some.injEq, exists_eq_left', List.set_cons_zero, List.set_cons_succ, wp_ok, wp_map, truth, cmpE, eq_int, Option.map_some]
    exact ⟨⟨us, vs, rfl, lu⟩, w9.mono (by push_cast; omega), g9⟩
theorem t_beyond {n : Nat} (hn : 6 ≤ n) {S : Sto} {c k : Nat} {t : Int} {xs' ys' xs ys us vs : List D} (bx : BoxP k xs' ys' xs ys) (lu : LineP 2000000 k us vs) (k5 : k ≤ 5) (w : Well S c t) (ht : t ≤ 600000000) : wp ((P n).call 40 [.ref c, .tup [lnD xs' ys', lnD xs ys], lnD us vs] S) fun r S' => (∃ us vs, r = lnD us vs ∧ LineP 1000000000000 k us vs) ∧ Well S' c (t + 10) ∧ Chg c S S' := by
  obtain ⟨m, rfl, hm⟩ := up hn
  rw [cP m 40 b40 rfl]
  refine wp_run rfl ?_
  show wp (evSs (P m) b40.body [some (.ref c), some (.tup [lnD xs' ys', lnD xs ys]), some (lnD us vs), none, none] S) _
  have ls := bx.slow
  have lf := bx.fast
  have lx := lf.lx
  have ly := lf.ly
  have lx' := ls.lx
  have ly' := ls.ly
  have lxu := lu.lx
  have lyu := lu.ly
  simp only [b40, wp_sC, wp_asg, wp_gn, wp_call, wp_cons, wp_nil, wp_var, List.getElem?_cons_zero, List.getElem?_cons_succ, Option.some.injEq, exists_eq_left', List.set_cons_zero, List.set_cons_succ]
  refine wp_mono (t_slots (by omega) (by omega)) fun r S1 ⟨e1, l, er, hl, l1⟩ => ?_
  subst er
  have cl := w.lt
  refine wp_mono (t_one (by omega) (w.ext e1) (by omega) hl (by omega) (by rw [slots_len]; omega) (by rw [slots_len]; omega)) fun r S2 ⟨hr, w2, g2⟩ => ?_
  have g02 : Chg c S S2 := e1.chg.trans g2
  have hs : ∃ b i, (if b then i < k else i < k + 1) ∧ r = sD b i := by
    rcases mem_slots.mp hr with ⟨j, hj, rfl⟩ | ⟨j, hj, rfl⟩
    · exact ⟨true, j, by simp only [if_true]; omega, rfl⟩
    · exact ⟨false, j, by simp only [Bool.false_eq_true, if_false]; omega, rfl⟩
  obtain ⟨b, i, hi, rfl⟩ := hs
  have hpu : i < (pick b us vs).length := by cases b <;> simp only [pick, Bool.false_eq_true, if_true, if_false] at hi ⊢ <;> omega
  have hh : ∃ v, wp (evE (P m) (.call 31 [(.ite (.cmp .eq (.ix (.var 3) (.con (.int 0))) (.con (.str "disc"))) (.ix (.var 1) (.con (.int 0))) (.ix (.var 1) (.con (.int 1)))), (.var 3)] none) [some (.ref c), some (.tup [lnD xs' ys', lnD xs ys]), some (lnD us vs), some (sD b i), none] S2) (fun r S' => r = v ∧ S' = S2) ∧ Fq 100 v ∧ 0 ≤ num v := by
    cases b with
    | true =>
      have hi : i < k := by simpa using hi
      refine ⟨gt xs' i, ?_, ls.gx hi, Int.le_of_lt (ls.px hi)⟩
      simp only [wp_sC, wp_sN, wp_ret, wp_asg, wp_par, wp_sif, wp_sx, wp_and_, wp_or_, wp_not, wp_neg, wp_cmp, wp_chain, wp_if, wp_call, wp_callK, wp_fn, wp_ix, wp_bin, wp_tup, wp_lst, wp_cons, wp_nil, wp_con, wp_var, wp_gn, fl_nx, fl_rt, ed_rt, setsL, List.getElem?_cons_zero, List.getElem?_cons_succ, Option.some.injEq, exists_eq_left', List.set_cons_zero, List.set_cons_succ, wp_ok, wp_map, truth, cmpE, eq_int, Option.map_some, ixs0, eq_dd, if_true, ix0, ix1]
      exact t_held (by omega) (b := true) (gt_of (xs := xs') (by omega))
    | false =>
      have hi : i < k + 1 := by simpa using hi
      refine ⟨gt ys i, ?_, (lf.gy hi).mono (by decide), lf.ny hi⟩
      simp only [wp_sC, wp_sN, wp_ret, wp_asg, wp_par, wp_sif, wp_sx, wp_and_, wp_or_, wp_not, wp_neg, wp_cmp, wp_chain, wp_if, wp_call, wp_callK, wp_fn, wp_ix, wp_bin, wp_tup, wp_lst, wp_cons, wp_nil, wp_con, wp_var, wp_gn, fl_nx, fl_rt, ed_rt, setsL, List.getElem?_cons_zero, List.getElem?_cons_succ, Option.some.injEq, exists_eq_left', List.set_cons_zero, List.set_cons_succ, wp_ok, wp_map, truth, cmpE, eq_int, Option.map_some, ixs0, eq_sd, Bool.false_eq_true, if_false, ix0, ix1]
      exact t_held (by omega) (b := false) (gt_of (xs := ys) (by omega))
  obtain ⟨v, hv, qv, nv⟩ := hh
  rw [fl_nx, wp_sC, wp_asg]
  refine wp_mono hv fun r S3 ⟨er, es⟩ => ?_
  subst er es
  simp only [wp_sC, wp_sN, wp_ret, wp_asg, wp_par, wp_sif, wp_sx, wp_and_, wp_or_, wp_not, wp_neg, wp_cmp, wp_chain, wp_if, wp_call, wp_callK, wp_fn, wp_ix, wp_bin, wp_tup, wp_lst, wp_cons, wp_nil, wp_con, wp_var, wp_gn, fl_nx, fl_rt, ed_rt, setsL, List.getElem?_cons_zero, List.getElem?_cons_succ, Option.some.injEq, exists_eq_left', List.set_cons_zero, List.set_cons_succ, wp_ok, wp_map, truth, cmpE, eq_int, Option.map_some, bin_pow (show powOk 10 9 = true by decide)]
  refine wp_mono (t_one (by omega) (w2.ext .one) (by omega) at_new (by have := w2.lt; omega) (by simp) (by simp)) fun a S5 ⟨hr, w5, g5⟩ => ?_
  have g05 : Chg c S S5 := (g02.trans Ext.one.chg).trans g5
  obtain ⟨fr, q0⟩ : Fq 1000000000 a ∧ 0 < num a := by
    simp only [List.mem_cons, List.not_mem_nil, or_false] at hr
    rcases hr with rfl | rfl | rfl <;> exact ⟨⟨rfl, by decide, by decide, by decide, by decide, by decide⟩, by decide⟩
  have oks := sum_ok qv fr (C := 1000000000000) (by decide)
  refine wp_mono (t_sum (by omega) (by decide) (by decide) qv fr) fun s S6 ⟨es', es⟩ => ?_
  subst es es'
  refine wp_mono (t_put (by omega) hpu) fun r2 S7 ⟨er, e7⟩ => ?_
  subst er
  have pos := oks.np (by
    have p1 := Int.mul_nonneg nv (show 0 ≤ den a by have := fr.pos; omega)
    have p2 := Int.mul_pos q0 (Int.lt_of_lt_of_le Int.zero_lt_one qv.pos)
    omega)
  refine ⟨?_, (w5.ext e7).mono (by omega), g05.trans e7.chg⟩
  have lu := lu.mono (show (2000000 : Int) ≤ 1000000000000 by decide)
  cases b with
  | true => exact ⟨_, _, rfl, lu.setx oks.q pos⟩
  | false => exact ⟨_, _, rfl, lu.sety oks.q (Int.le_of_lt pos) fun _ _ => pos⟩
end K34
namespace K34
open PySem Mini
theorem gd_sint {c L k : Nat} {S : Sto} {i : Int} (h : i.natAbs < 1000000000000000000000000000000) : gd c S L k (.int i) = true := by
  cases k <;> exact decide_eq_true h
theorem gd_fq {c L k : Nat} {S : Sto} {B : Int} {d : D} (hB : B < 1000000000000000000000000000000) (h : Fq B d) (hL : 2 ≤ L) : gd c S L (k + 1) d = true := by
  have h1 := h.lo
  have h2 := h.hi
  have h3 := h.pos
  have h4 := h.dhi
  rw [h.eq, gdT]
  refine ⟨hL, fun x hx => ?_⟩
  rcases List.mem_cons.mp hx with rfl | hx
  · exact gd_sint (by omega)
  · rw [List.mem_singleton.mp hx]
    exact gd_sint (by omega)
theorem gd_line {c k n : Nat} {S : Sto} {B : Int} {xs ys : List D} (hB : B < 1000000000000000000000000000000) (h : LineP B n xs ys) : gd c S 9 (k + 3) (lnD xs ys) = true := by
  have n8 := h.n8
  have lx := h.lx
  have ly := h.ly
  rw [gdT]
  refine ⟨by simp, fun x hx => ?_⟩
  rcases List.mem_cons.mp hx with rfl | hx
  · rw [gdT]
    exact ⟨by omega, fun x hx => gd_fq hB (h.fx x hx).1 (by decide)⟩
  · rw [List.mem_singleton.mp hx, gdT]
    exact ⟨by omega, fun x hx => gd_fq hB (h.fy x hx).1 (by decide)⟩
theorem gd_pair {c k L : Nat} {S : Sto} {a b : D} (hL : 2 ≤ L) (ha : gd c S L k a = true) (hb : gd c S L k b = true) : gd c S L (k + 1) (.tup [a, b]) = true := by
  rw [gdT]
  refine ⟨hL, fun x hx => ?_⟩
  rcases List.mem_cons.mp hx with rfl | hx
  · exact ha
  · rw [List.mem_singleton.mp hx]; exact hb
theorem gd_ws {c k L j q : Nat} {S S' : Sto} {xs : List D} {v : D} (g : Chg c S S') (hg : ∀ x ∈ xs, gd c S L k x = true) (hl : xs.length ≤ L) (hjq : j ≤ q) (hv : gd c S' (L + 1) (k + 1) v = true) : gd c S' (L + 1) (k + 2) (.tup (xs.take j ++ [v] ++ xs.drop q)) = true := by
  rw [gdT]
  refine ⟨by simp; omega, fun x hx => ?_⟩
  have up : ∀ x ∈ xs, gd c S' (L + 1) (k + 1) x = true := fun x hx => gd_up (by omega) (by omega) (gd_chg g (hg x hx))
  rcases List.mem_append.mp hx with hx | hx
  · rcases List.mem_append.mp hx with hx | hx
    · exact up x (List.mem_of_mem_take hx)
    · rw [List.mem_singleton.mp hx]; exact hv
  · exact up x (List.mem_of_mem_drop hx)
theorem cut_ta {xs : List D} {i : Int} {j : Nat} (h : i = (j : Int)) : cutD xs none (some i) = xs.take j := by rw [h, cut_to]
theorem cut_fr {xs : List D} {i : Int} {j : Nat} (h : i = (j : Int)) : cutD xs (some i) none = xs.drop j := by rw [h, cut_from]
/-- a changed tuple -/
theorem warp_step {k n : Nat} (hn : 3 ≤ n) {S : Sto} {c L : Nat} {t z : Int} {xs : List D} (hL : 3 ≤ L) (hL2 : L ≤ 900) (hg : ∀ x ∈ xs, gd c S L k x = true) (hl : xs.length ≤ L) (w : Well S c t) (ht : t ≤ 600000000) (hz : 0 ≤ z)
    (ih : ∀ S' ys, .tup ys ∈ xs → gd c S' L k (.tup ys) = true → Well S' c (t + 3) → wp ((P n).call 39 [.ref c, .tup ys] S') fun r S'' => gd c S'' (L + 1) (k + 1) r = true ∧ Well S'' c (t + 3 + z) ∧ Chg c S' S'') :
    wp ((P (n + 1)).call 39 [.ref c, .tup xs] S) fun r S' => gd c S' (L + 1) (k + 2) r = true ∧ Well S' c (t + 3 + z) ∧ Chg c S S' := by
  rw [cP n 39 b39 rfl]
  refine wp_run rfl ?_
  show wp (evSs (P n) b39.body [some (.ref c), some (.tup xs), none, none, none] S) _
  simp only [wp_sC, wp_sN, wp_ret, wp_asg, wp_par, wp_sif, wp_sx, wp_and_, wp_or_, wp_not, wp_neg, wp_cmp, wp_chain, wp_if, wp_call, wp_callK, wp_fn, wp_ix, wp_bin, wp_tup, wp_lst, wp_cons, wp_nil, wp_con, wp_var, wp_gn, fl_nx, fl_rt, ed_rt, setsL, List.getElem?_cons_zero, List.getElem?_cons_succ, Option.some.injEq, exists_eq_left', List.set_cons_zero, List.set_cons_succ, wp_ok, wp_map, truth, cmpE, eq_int, Option.map_some, b39]
  refine wp_mono (t_pull (by omega) w (by omega) (by decide) (by decide)) fun r S1 ⟨x, er, x0, x1, w1, g1⟩ => ?_
  subst er
  simp only [wp_sC, wp_sN, wp_ret, wp_asg, wp_par, wp_sif, wp_sx, wp_and_, wp_or_, wp_not, wp_neg, wp_cmp, wp_chain, wp_if, wp_call, wp_callK, wp_fn, wp_ix, wp_bin, wp_tup, wp_lst, wp_cons, wp_nil, wp_con, wp_var, wp_gn, fl_nx, fl_rt, ed_rt, setsL, List.getElem?_cons_zero, List.getElem?_cons_succ, Option.some.injEq, exists_eq_left', List.set_cons_zero, List.set_cons_succ, wp_ok, wp_map, truth, cmpE, eq_int, Option.map_some, fn_len, fn_max]
  have hmx : 1 ≤ (if (1 : Int) < (xs.length : Int) then (xs.length : Int) else 1) ∧ (if (1 : Int) < (xs.length : Int) then (xs.length : Int) else 1) < 1073741824 := by split <;> omega
  refine wp_mono (t_pull (by omega) w1 (by omega) hmx.1 hmx.2) fun r S2 ⟨i, er, i0, i1, w2, g2⟩ => ?_
  subst er
  have hi : xs.length = 0 ∧ i = 0 ∨ i < (xs.length : Int) := by split at i1 <;> omega
  obtain ⟨j, rfl⟩ : ∃ j : Nat, i = j := ⟨i.toNat, by omega⟩
  simp only [wp_sC, wp_sN, wp_ret, wp_asg, wp_par, wp_sif, wp_sx, wp_and_, wp_or_, wp_not, wp_neg, wp_cmp, wp_chain, wp_if, wp_call, wp_callK, wp_fn, wp_ix, wp_bin, wp_tup, wp_lst, wp_cons, wp_nil, wp_con, wp_var, wp_gn, fl_nx, fl_rt, ed_rt, setsL, List.getElem?_cons_zero, List.getElem?_cons_succ, Option.some.injEq, exists_eq_left', List.set_cons_zero, List.set_cons_succ, wp_ok, wp_map, truth, cmpE, eq_int, Option.map_some, negE]
  have cl := w2.lt
  refine wp_mono (t_one (by omega) ((w2.ext .one).ext .one) (by omega) at_new (by simp; omega) (by simp) (by simp)) fun v S3 ⟨hr, w3, g3⟩ => ?_
  have e3 := g3.get S2.length (.lst [.int 1, .int 1]) (by omega) (by simp)
  have g03 : Chg c S S3 := (g1.trans g2).trans ((Ext.one.trans Ext.one).chg.trans g3)
  have hv : gd c S3 (L + 1) (k + 1) v = true := by
    have two : ∀ a b : Int, a.natAbs < 10 → b.natAbs < 10 → gd c S3 (L + 1) (k + 1) (.tup [.int a, .int b]) = true := fun a b ha hb => gd_pair (by omega) (gd_sint (by omega)) (gd_sint (by omega))
    simp only [List.mem_cons, List.not_mem_nil, or_false] at hr
    rcases hr with rfl | rfl | rfl | rfl | rfl | rfl | rfl | rfl | rfl | rfl | rfl
    · rfl
    · rfl
    · exact gd_sint (by decide)
    · exact gd_sint (by decide)
    · show strB "1" = true
      decide +kernel
    · exact two _ _ (by decide) (by decide)
    · exact two _ _ (by decide) (by decide)
    · exact two _ _ (by decide) (by decide)
    · exact two _ _ (by decide) (by decide)
    · rw [gdT]; exact ⟨by simp, by simp⟩
    · rw [gdR]
      refine ⟨by omega, _, e3, fun x hx => ?_⟩
      have : x = .int 1 := by simpa using hx
      rw [this]
      exact gd_sint (by decide)
  have j1 : ((j : Int) + 1) = ((j + 1 : Nat) : Int) := by omega
  have lt : (xs.take j).length ≤ xs.length := by rw [List.length_take]; omega
  have ld : (xs.drop j).length ≤ xs.length := by rw [List.length_drop]; omega
  have ld1 : (xs.drop (j + 1)).length ≤ xs.length := by rw [List.length_drop]; omega
  by_cases h0 : x = 0
  · simp only [wp_sC, wp_sN, wp_ret, wp_asg, wp_par, wp_sif, wp_sx, wp_and_, wp_or_, wp_not, wp_neg, wp_cmp, wp_chain, wp_if, wp_call, wp_callK, wp_fn, wp_ix, wp_bin, wp_tup, wp_lst, wp_cons, wp_nil, wp_con, wp_var, wp_gn, fl_nx, fl_rt, ed_rt, setsL, List.getElem?_cons_zero, List.getElem?_cons_succ, Option.some.injEq, exists_eq_left', List.set_cons_zero, List.set_cons_succ, wp_ok, wp_map, truth, cmpE, eq_int, Option.map_some, h0, decide_true, if_true, fn_lst]
    refine ⟨?_, (w3.ext .one).mono (by omega), g03.trans Ext.one.chg⟩
    rw [gdR]
    have := w3.lt
    exact ⟨by omega, xs, at_new, fun x hx => gd_up (by omega) (by omega) (gd_chg (g03.trans Ext.one.chg) (hg x hx))⟩
  · simp only [wp_sC, wp_sN, wp_ret, wp_asg, wp_par, wp_sif, wp_sx, wp_and_, wp_or_, wp_not, wp_neg, wp_cmp, wp_chain, wp_if, wp_call, wp_callK, wp_fn, wp_ix, wp_bin, wp_tup, wp_lst, wp_cons, wp_nil, wp_con, wp_var, wp_gn, fl_nx, fl_rt, ed_rt, setsL, List.getElem?_cons_zero, List.getElem?_cons_succ, Option.some.injEq, exists_eq_left', List.set_cons_zero, List.set_cons_succ, wp_ok, wp_map, truth, cmpE, eq_int, Option.map_some, h0, decide_false, Bool.false_eq_true, if_false]
    by_cases h1 : x = 1
    · simp only [wp_sC, wp_sN, wp_ret, wp_asg, wp_par, wp_sif, wp_sx, wp_and_, wp_or_, wp_not, wp_neg, wp_cmp, wp_chain, wp_if, wp_call, wp_callK, wp_fn, wp_ix, wp_bin, wp_tup, wp_lst, wp_cons, wp_nil, wp_con, wp_var, wp_gn, fl_nx, fl_rt, ed_rt, setsL, List.getElem?_cons_zero, List.getElem?_cons_succ, Option.some.injEq, exists_eq_left', List.set_cons_zero, List.set_cons_succ, wp_ok, wp_map, truth, cmpE, eq_int, Option.map_some, h1, decide_true, if_true, wp_sl, wp_oS, wp_oN, partI, slE, bin_add, cut_to, cut_fr j1, bin_cat (show (xs.take j).length + (xs.drop (j + 1)).length ≤ 100000 by omega)]
      refine ⟨?_, w3.mono (by omega), g03⟩
      rw [gdT]
      refine ⟨by simp; omega, fun x hx => ?_⟩
      exact (List.mem_append.mp hx).elim (fun h => gd_up (by omega) (by omega) (gd_chg g03 (hg x (List.mem_of_mem_take h)))) fun h => gd_up (by omega) (by omega) (gd_chg g03 (hg x (List.mem_of_mem_drop h)))
    · simp only [wp_sC, wp_sN, wp_ret, wp_asg, wp_par, wp_sif, wp_sx, wp_and_, wp_or_, wp_not, wp_neg, wp_cmp, wp_chain, wp_if, wp_call, wp_callK, wp_fn, wp_ix, wp_bin, wp_tup, wp_lst, wp_cons, wp_nil, wp_con, wp_var, wp_gn, fl_nx, fl_rt, ed_rt, setsL, List.getElem?_cons_zero, List.getElem?_cons_succ, Option.some.injEq, exists_eq_left', List.set_cons_zero, List.set_cons_succ, wp_ok, wp_map, truth, cmpE, eq_int, Option.map_some, h1, decide_false, Bool.false_eq_true, if_false, fn_len]
      have la : (xs.take j ++ [v]).length ≤ xs.length + 1 := by simp; omega
      have cat1 : ∀ v : D, (xs.take j).length + [v].length ≤ 100000 := fun v => by simp; omega
      have cat2 : ∀ (v : D) q, (xs.take j ++ [v]).length + (xs.drop q).length ≤ 100000 := fun v q => by simp; omega
      by_cases h2 : x = 2 ∨ xs.length = 0
      · have : wp (evSs (P n) [.ret (.bin .add (.bin .add (.sl (.var 1) none (some (.var 4))) (.tup [(.var 2)])) (.sl (.var 1) (some (.var 4)) none))] [some (.ref c), some (.tup xs), some v, some (.int x), some (.int j)] S3) (ed fun r S' => gd c S' (L + 1) (k + 2) r = true ∧ Well S' c (t + 3 + z) ∧ Chg c S S') := by
          simp only [wp_sC, wp_sN, wp_ret, wp_asg, wp_par, wp_sif, wp_sx, wp_and_, wp_or_, wp_not, wp_neg, wp_cmp, wp_chain, wp_if, wp_call, wp_callK, wp_fn, wp_ix, wp_bin, wp_tup, wp_lst, wp_cons, wp_nil, wp_con, wp_var, wp_gn, fl_nx, fl_rt, ed_rt, setsL, List.getElem?_cons_zero, List.getElem?_cons_succ, Option.some.injEq, exists_eq_left', List.set_cons_zero, List.set_cons_succ, wp_ok, wp_map, truth, cmpE, eq_int, Option.map_some, wp_sl, wp_oS, wp_oN, partI, slE, cut_to, cut_from, bin_cat (cat1 v), bin_cat (cat2 v j)]
          exact ⟨gd_ws g03 hg hl (Nat.le_refl _) hv, w3.mono (by omega), g03⟩
        simp only [wp_sC, wp_sN, wp_ret, wp_asg, wp_par, wp_sif, wp_sx, wp_and_, wp_or_, wp_not, wp_neg, wp_cmp, wp_chain, wp_if, wp_call, wp_callK, wp_fn, wp_ix, wp_bin, wp_tup, wp_lst, wp_cons, wp_nil, wp_con, wp_var, wp_gn, fl_nx, fl_rt, ed_rt, setsL, List.getElem?_cons_zero, List.getElem?_cons_succ, Option.some.injEq, exists_eq_left', List.set_cons_zero, List.set_cons_succ, wp_ok, wp_map, truth, cmpE, eq_int, Option.map_some] at this
        by_cases h3 : x = 2
        · simp only [h3, decide_true, if_true] at this ⊢
          exact this
        · have h4 : (xs.length : Int) = 0 := by omega
          simp only [h3, h4, decide_true, decide_false, Bool.false_eq_true, if_false, if_true] at this ⊢
          exact this
      · have h3 : ¬ x = 2 := fun h => h2 (.inl h)
        have h4 : ¬ (xs.length : Int) = 0 := by omega
        have hj : j < xs.length := by omega
        have hm : xs[j]'hj ∈ xs := List.getElem_mem hj
        have ga := gd_chg g03 (hg _ hm)
        have hx : ixE S3 (.tup xs) (.int j) = some (xs[j]'hj) := (atI_n hj).trans (List.getElem?_eq_getElem hj)
        have lastly : wp (evSs (P n) [.ret (.bin .add (.bin .add (.sl (.var 1) none (some (.var 4))) (.tup [(.var 2)])) (.sl (.var 1) (some (.bin .add (.var 4) (.con (.int 1)))) none))] [some (.ref c), some (.tup xs), some v, some (.int x), some (.int j)] S3) (ed fun r S' => gd c S' (L + 1) (k + 2) r = true ∧ Well S' c (t + 3 + z) ∧ Chg c S S') := by
          simp only [wp_sC, wp_sN, wp_ret, wp_asg, wp_par, wp_sif, wp_sx, wp_and_, wp_or_, wp_not, wp_neg, wp_cmp, wp_chain, wp_if, wp_call, wp_callK, wp_fn, wp_ix, wp_bin, wp_tup, wp_lst, wp_cons, wp_nil, wp_con, wp_var, wp_gn, fl_nx, fl_rt, ed_rt, setsL, List.getElem?_cons_zero, List.getElem?_cons_succ, Option.some.injEq, exists_eq_left', List.set_cons_zero, List.set_cons_succ, wp_ok, wp_map, truth, cmpE, eq_int, Option.map_some, wp_sl, wp_oS, wp_oN, partI, slE, bin_add, cut_to, cut_fr j1, bin_cat (cat1 v), bin_cat (cat2 v (j + 1))]
          exact ⟨gd_ws g03 hg hl (by omega) hv, w3.mono (by omega), g03⟩
        simp only [wp_sC, wp_sN, wp_ret, wp_asg, wp_par, wp_sif, wp_sx, wp_and_, wp_or_, wp_not, wp_neg, wp_cmp, wp_chain, wp_if, wp_call, wp_callK, wp_fn, wp_ix, wp_bin, wp_tup, wp_lst, wp_cons, wp_nil, wp_con, wp_var, wp_gn, fl_nx, fl_rt, ed_rt, setsL, List.getElem?_cons_zero, List.getElem?_cons_succ, Option.some.injEq, exists_eq_left', List.set_cons_zero, List.set_cons_succ, wp_ok, wp_map, truth, cmpE, eq_int, Option.map_some] at lastly
        simp only [wp_sC, wp_sN, wp_ret, wp_asg, wp_par, wp_sif, wp_sx, wp_and_, wp_or_, wp_not, wp_neg, wp_cmp, wp_chain, wp_if, wp_call, wp_callK, wp_fn, wp_ix, wp_bin, wp_tup, wp_lst, wp_cons, wp_nil, wp_con, wp_var, wp_gn, fl_nx, fl_rt, ed_rt, setsL, List.getElem?_cons_zero, List.getElem?_cons_succ, Option.some.injEq, exists_eq_left', List.set_cons_zero, List.set_cons_succ, wp_ok, wp_map, truth, cmpE, eq_int, Option.map_some, h3, h4, decide_false, Bool.false_eq_true, if_false]
        by_cases h5 : x < 5
        · simp only [wp_sC, wp_sN, wp_ret, wp_asg, wp_par, wp_sif, wp_sx, wp_and_, wp_or_, wp_not, wp_neg, wp_cmp, wp_chain, wp_if, wp_call, wp_callK, wp_fn, wp_ix, wp_bin, wp_tup, wp_lst, wp_cons, wp_nil, wp_con, wp_var, wp_gn, fl_nx, fl_rt, ed_rt, setsL, List.getElem?_cons_zero, List.getElem?_cons_succ, Option.some.injEq, exists_eq_left', List.set_cons_zero, List.set_cons_succ, wp_ok, wp_map, truth, cmpE, eq_int, Option.map_some, h5, decide_true, if_true, hx, fn_isi, isi_tup (gd_ok (by omega) ga)]
          generalize hy : xs[j]'hj = y at hm ga hx ⊢
          cases y with
          | tup ys =>
            simp only [wp_sC, wp_sN, wp_ret, wp_asg, wp_par, wp_sif, wp_sx, wp_and_, wp_or_, wp_not, wp_neg, wp_cmp, wp_chain, wp_if, wp_call, wp_callK, wp_fn, wp_ix, wp_bin, wp_tup, wp_lst, wp_cons, wp_nil, wp_con, wp_var, wp_gn, fl_nx, fl_rt, ed_rt, setsL, List.getElem?_cons_zero, List.getElem?_cons_succ, Option.some.injEq, exists_eq_left', List.set_cons_zero, List.set_cons_succ, wp_ok, wp_map, truth, cmpE, eq_int, Option.map_some, isTupD, if_true, fn_len]
            by_cases h6 : 0 < (ys.length : Int)
            · simp only [wp_sC, wp_sN, wp_ret, wp_asg, wp_par, wp_sif, wp_sx, wp_and_, wp_or_, wp_not, wp_neg, wp_cmp, wp_chain, wp_if, wp_call, wp_callK, wp_fn, wp_ix, wp_bin, wp_tup, wp_lst, wp_cons, wp_nil, wp_con, wp_var, wp_gn, fl_nx, fl_rt, ed_rt, setsL, List.getElem?_cons_zero, List.getElem?_cons_succ, Option.some.injEq, exists_eq_left', List.set_cons_zero, List.set_cons_succ, wp_ok, wp_map, truth, cmpE, eq_int, Option.map_some, h6, decide_true, if_true, wp_sl, wp_oS, wp_oN, partI, slE, cut_to, hx]
              refine wp_mono (ih S3 ys hm ga (w3.mono (by omega))) fun r S4 ⟨gr, w4, g4⟩ => ?_
              simp only [wp_sC, wp_sN, wp_ret, wp_asg, wp_par, wp_sif, wp_sx, wp_and_, wp_or_, wp_not, wp_neg, wp_cmp, wp_chain, wp_if, wp_call, wp_callK, wp_fn, wp_ix, wp_bin, wp_tup, wp_lst, wp_cons, wp_nil, wp_con, wp_var, wp_gn, fl_nx, fl_rt, ed_rt, setsL, List.getElem?_cons_zero, List.getElem?_cons_succ, Option.some.injEq, exists_eq_left', List.set_cons_zero, List.set_cons_succ, wp_ok, wp_map, truth, cmpE, eq_int, Option.map_some, wp_sl, wp_oS, wp_oN, partI, slE, bin_add, cut_to, cut_fr j1, bin_cat (cat1 r), bin_cat (cat2 r (j + 1))]
              exact ⟨gd_ws (g03.trans g4) hg hl (by omega) gr, w4, g03.trans g4⟩
            · simp only [h6, decide_false, Bool.false_eq_true, if_false]
              exact lastly
          | _ =>
            simp only [isTupD, Bool.false_eq_true, if_false]
            exact lastly
        · simp only [h5, decide_false, Bool.false_eq_true, if_false]
          exact lastly
theorem t_warped : ∀ (k : Nat) {n : Nat} (hn : k + 4 ≤ n) {S : Sto} {c L : Nat} {t : Int} {xs : List D} (hL : 3 ≤ L) (hL2 : L ≤ 900) (hg : ∀ x ∈ xs, gd c S L k x = true) (hl : xs.length ≤ L) (w : Well S c t) (ht : t + 3 * (k : Int) ≤ 600000000), wp ((P n).call 39 [.ref c, .tup xs] S) fun r S' => gd c S' (L + 1) (k + 2) r = true ∧ Well S' c (t + 3 + 3 * (k : Int)) ∧ Chg c S S'
  | 0, n, hn, S, c, L, t, xs, hL, hL2, hg, hl, w, ht => by
    obtain ⟨m, rfl, hm⟩ := up hn
    exact warp_step (by omega) hL hL2 hg hl w (by omega) (by omega) fun S' ys h1 h2 _ => by cases h2
  | k + 1, n, hn, S, c, L, t, xs, hL, hL2, hg, hl, w, ht => by
    obtain ⟨m, rfl, hm⟩ := up hn
    refine warp_step (by omega) hL hL2 hg hl w (by omega) (by omega) fun S' ys h1 h2 w' => ?_
    have h3 := gdT.mp h2
    refine wp_mono (t_warped k (by omega) hL hL2 h3.2 h3.1 w' (by push_cast at ht; omega)) fun r S'' ⟨a, b, d⟩ => ⟨a, b.mono (by push_cast; omega), d⟩
end K34
namespace K34
open PySem Mini
theorem lst_all {p : Pg} {ρ : Mini.Loc} {S : Sto} {es : List Ex} {Pr : Sto → D → Prop} {Q : D → Sto → Prop} (mono : ∀ A B d, Ext A B → Pr A d → Pr B d) (h : AllE p ρ S Pr es)
    (hP : ∀ S' ds, ds.length = es.length → (∀ d ∈ ds, Pr (S' ++ [.lst ds]) d) → Ext S S' → Q (.ref S'.length) (S' ++ [.lst ds])) : wp (evE p (.lst es) ρ S) Q := by
  rw [wp_lst]
  refine wp_mono (evEs_all mono h) fun ds S' ⟨h1, h2, h3⟩ => hP S' ds h1 (fun d hd => mono _ _ _ .one (h2 d hd)) h3
theorem vd_ext {c L k : Nat} : ∀ A B d, Ext A B → Vd c A L k d → Vd c B L k d := fun A B d e h => h.chg e.chg
theorem str_disc : strB "disc" = true := by decide +kernel
theorem str_shaft : strB "shaft" = true := by decide +kernel
theorem gd_sd {c L k : Nat} {S : Sto} : gd c S L k (.str "disc") = true := by cases k <;> exact str_disc
theorem gd_ss {c L k : Nat} {S : Sto} : gd c S L k (.str "shaft") = true := by cases k <;> exact str_shaft
theorem t_odd {n : Nat} (hn : 3 ≤ n) {S : Sto} {c : Nat} {t : Int} (w : Well S c t) (ht : t ≤ 900000000) : wp ((P n).call 38 [.ref c] S) fun r S' => Vd c S' 9 4 r ∧ Well S' c (t + 1) ∧ Chg c S S' := by
  obtain ⟨m, rfl, hm⟩ := up hn
  rw [cP m 38 b38 rfl]
  refine wp_run rfl ?_
  show wp (evSs (P m) b38.body [some (.ref c), none] S) _
  have cl := w.lt
  simp only [b38, wp_sC, wp_asg, wp_gn, List.set_cons_zero, List.set_cons_succ]
  refine lst_all (Pr := fun S d => Vd c S 9 4 d) vd_ext ?_ fun S1 A lA hA e1 => ?_
  · repeat' (first | exact True.intro | refine And.intro (fun S' e => ?_) ?_)
    all_goals simp only [wp_sC, wp_sN, wp_ret, wp_asg, wp_par, wp_sif, wp_sx, wp_and_, wp_or_, wp_not, wp_neg, wp_cmp, wp_chain, wp_if, wp_call, wp_callK, wp_fn, wp_ix, wp_bin, wp_tup, wp_lst, wp_cons, wp_nil, wp_con, wp_var, wp_gn, fl_nx, fl_rt, ed_rt, setsL, List.getElem?_cons_zero, List.getElem?_cons_succ, Option.some.injEq, exists_eq_left', List.set_cons_zero, List.set_cons_succ, wp_ok, wp_map, truth, cmpE, eq_int, Option.map_some, negE, wp_dct]
    all_goals first
      | exact ⟨⟨rfl, fun h => by first | (cases h; done) | rfl⟩, .refl⟩
      | exact ⟨⟨ok_newL, fun h => by cases h⟩, .one⟩
      | exact ⟨⟨ok_newD, fun h => by cases h⟩, .one⟩
  simp only [fl_nx, wp_sC, wp_asg, wp_gn, List.set_cons_zero, List.set_cons_succ, wp_bin, wp_var, List.getElem?_cons_zero, List.getElem?_cons_succ, Option.some.injEq, exists_eq_left']
  refine lst_all (Pr := fun S d => Vd c S 9 4 d) vd_ext ?_ fun S2 B lB hB e2 => ?_
  · repeat' (first | exact True.intro | refine And.intro (fun S' e => ?_) ?_)
    all_goals simp only [wp_sC, wp_sN, wp_ret, wp_asg, wp_par, wp_sif, wp_sx, wp_and_, wp_or_, wp_not, wp_neg, wp_cmp, wp_chain, wp_if, wp_call, wp_callK, wp_fn, wp_ix, wp_bin, wp_tup, wp_lst, wp_cons, wp_nil, wp_con, wp_var, wp_gn, fl_nx, fl_rt, ed_rt, setsL, List.getElem?_cons_zero, List.getElem?_cons_succ, Option.some.injEq, exists_eq_left', List.set_cons_zero, List.set_cons_succ, wp_ok, wp_map, truth, cmpE, eq_int, Option.map_some, negE, wp_dct, bin_pow (show powOk 10 30 = true by decide)]
    all_goals first
      | exact ⟨⟨rfl, fun h => by first | (cases h; done) | rfl⟩, .refl⟩
      | exact ⟨⟨ok_newD, fun h => by cases h⟩, .one⟩
      | exact ⟨⟨rfl, fun h => gd_pair (by decide) gd_sd rfl⟩, .refl⟩
      | exact ⟨⟨rfl, fun h => gd_pair (by decide) gd_ss rfl⟩, .refl⟩
  have k1 := (e2.trans (.one (c := .lst B))).get (at_new (A := S1) (c := .lst A))
  have k2 := at_new (A := S2) (c := .lst B)
  rw [bin_catL (lst_c k1) (lst_c k2) (by simp only [List.length_cons, List.length_nil] at lA lB; omega), wp_ok]
  simp only [fl_nx, wp_sC, wp_ret, wp_call, wp_cons, wp_nil, wp_bin, wp_var, List.getElem?_cons_zero, List.getElem?_cons_succ, Option.some.injEq, exists_eq_left']
  refine lst_all (Pr := fun S d => Vd c S 9 4 d) vd_ext ?_ fun S3 C lC hC e3 => ?_
  · repeat' (first | exact True.intro | refine And.intro (fun S' e => ?_) ?_)
    all_goals simp only [wp_sC, wp_sN, wp_ret, wp_asg, wp_par, wp_sif, wp_sx, wp_and_, wp_or_, wp_not, wp_neg, wp_cmp, wp_chain, wp_if, wp_call, wp_callK, wp_fn, wp_ix, wp_bin, wp_tup, wp_lst, wp_cons, wp_nil, wp_con, wp_var, wp_gn, fl_nx, fl_rt, ed_rt, setsL, List.getElem?_cons_zero, List.getElem?_cons_succ, Option.some.injEq, exists_eq_left', List.set_cons_zero, List.set_cons_succ, wp_ok, wp_map, truth, cmpE, eq_int, Option.map_some, negE, wp_dct]
    all_goals first
      | exact ⟨⟨rfl, fun h => by first | (cases h; done) | rfl⟩, .refl⟩
  have k3 := (e3.trans (.one (c := .lst C))).get (at_new (A := S2 ++ [Cl.lst B]) (c := .lst (A ++ B)))
  have k4 := at_new (A := S3) (c := .lst C)
  rw [bin_catL (lst_c k3) (lst_c k4) (by rw [List.length_append]; simp only [List.length_cons, List.length_nil] at lA lB lC; omega), wp_ok]
  have E23 : Ext (S2 ++ [Cl.lst B]) (S3 ++ [Cl.lst C] ++ [Cl.lst (A ++ B ++ C)]) := (Ext.one.trans e3).trans (Ext.one.trans .one)
  have E13 : Ext (S1 ++ [Cl.lst A]) (S3 ++ [Cl.lst C] ++ [Cl.lst (A ++ B ++ C)]) := (e2.trans .one).trans E23
  have E03 : Ext S (S3 ++ [Cl.lst C] ++ [Cl.lst (A ++ B ++ C)]) := (e1.trans .one).trans E13
  have all : ∀ d ∈ A ++ B ++ C, Vd c (S3 ++ [Cl.lst C] ++ [Cl.lst (A ++ B ++ C)]) 9 4 d := fun d hd => by
    rcases List.mem_append.mp hd with hd | hd
    · rcases List.mem_append.mp hd with hd | hd
      · exact vd_ext _ _ _ E13 (hA d hd)
      · exact vd_ext _ _ _ E23 (hB d hd)
    · exact vd_ext _ _ _ .one (hC d hd)
  have len : (A ++ B ++ C).length = 27 := by simp only [List.length_append, List.length_cons, List.length_nil] at lA lB lC ⊢; omega
  refine wp_mono (t_one (by omega) (w.ext E03) (by omega) at_new ?_ (by omega) (by omega)) fun r S5 ⟨hr, w5, g5⟩ => ?_
  · have := (w.ext (E03)).lt
    obtain ⟨u, hu⟩ := e1
    obtain ⟨u2, hu2⟩ := e2
    obtain ⟨u3, hu3⟩ := e3
    rw [hu3, hu2, hu]
    simp only [List.length_append]
    omega
  simp only [wp_sC, wp_sN, wp_ret, wp_asg, wp_par, wp_sif, wp_sx, wp_and_, wp_or_, wp_not, wp_neg, wp_cmp, wp_chain, wp_if, wp_call, wp_callK, wp_fn, wp_ix, wp_bin, wp_tup, wp_lst, wp_cons, wp_nil, wp_con, wp_var, wp_gn, fl_nx, fl_rt, ed_rt, setsL, List.getElem?_cons_zero, List.getElem?_cons_succ, Option.some.injEq, exists_eq_left', List.set_cons_zero, List.set_cons_succ, wp_ok, wp_map, truth, cmpE, eq_int, Option.map_some]
  exact ⟨(all r hr).chg g5, w5, E03.chg.trans g5⟩
/-! words of lists of truth values -/
theorem blsOf {S : Sto} : ∀ bs : List Bool, mapO (toD S 19) (bs.map D.bl) = some (bs.map PyData.bool)
  | [] => rfl
  | b :: bs => by
    have := blsOf (S := S) bs
    rw [List.map_cons, List.map_cons, mapO, this]; rfl
theorem toD_bls {S : Sto} {l : Nat} {bs : List Bool} (h : S[l]? = some (.lst (bs.map D.bl))) : toD S deepN (.ref l) = some (.list (bs.map PyData.bool)) := by
  show (match seqAt S l with
          | some xs => (mapO (toD S 19) xs).map PyData.list
          | none => none) = _
  rw [seq_c h]
  show (mapO (toD S 19) (bs.map D.bl)).map PyData.list = _
  rw [blsOf bs]; rfl
end K34
namespace K34
open PySem Mini
def wrd (bs : List Bool) : Str := (PyData.list (bs.map PyData.bool)).shown
theorem repr_bls {S : Sto} {l : Nat} {bs : List Bool} (h : S[l]? = some (.lst (bs.map D.bl))) (hs : ((PyData.list (bs.map PyData.bool)).showable && decide ((PyData.list (bs.map PyData.bool)).shown.length ≤ lineN)) = true) : fnE .repr [.ref l] S = .ok (.str (wrd bs)) S := by
  have e : fnE .repr [.ref l] S = (match toD S deepN (.ref l) with
    | some e => if e.showable && decide (e.shown.length ≤ lineN) then .ok (.str e.shown) S else .no
    | none => .no) := rfl
  rw [e, toD_bls h]
  exact if_pos hs
theorem eq_wrd {S : Sto} {bs : List Bool} (h : (if SeqAt.shaped (.str (wrd bs)) && SeqAt.shaped (.str (wrd bs)) then some (PyData.eqv (.str (wrd bs)) (.str (wrd bs))) else none) = some true) : eqE S (.str (wrd bs)) (.str (wrd bs)) = some true := h
theorem show2 : ∀ b : Bool, ((PyData.list ([b, b].map PyData.bool)).showable && decide ((PyData.list ([b, b].map PyData.bool)).shown.length ≤ lineN)) = true := by decide +kernel
theorem eq2 : ∀ b : Bool, (if SeqAt.shaped (.str (wrd [b, b])) && SeqAt.shaped (.str (wrd [b, b])) then some (PyData.eqv (.str (wrd [b, b])) (.str (wrd [b, b]))) else none) = some true := by decide +kernel
theorem show3 : ∀ a b d : Bool, ((PyData.list ([a, b, d].map PyData.bool)).showable && decide ((PyData.list ([a, b, d].map PyData.bool)).shown.length ≤ lineN)) = true := by decide +kernel
theorem eq3 : ∀ a b d : Bool, (if SeqAt.shaped (.str (wrd [a, b, d])) && SeqAt.shaped (.str (wrd [a, b, d])) then some (PyData.eqv (.str (wrd [a, b, d])) (.str (wrd [a, b, d]))) else none) = some true := by decide +kernel
theorem rep2 {S : Sto} {l : Nat} {b : Bool} (h : S[l]? = some (.lst [.bl b, .bl b])) : fnE .repr [.ref l] S = .ok (.str (wrd [b, b])) S := repr_bls (bs := [b, b]) h (show2 b)
theorem rep3 {S : Sto} {l : Nat} {a b d : Bool} (h : S[l]? = some (.lst [.bl a, .bl b, .bl d])) : fnE .repr [.ref l] S = .ok (.str (wrd [a, b, d])) S := repr_bls (bs := [a, b, d]) h (show3 a b d)
/-- a loop that finds nothing wrong -/
theorem good_wp {p : Pg} {t : Tg} {body : List St} {ρ : Mini.Loc} {S : Sto} {xs : List D} {Q : Fl → Sto → Prop} {src : Src} (R : Mini.Loc → Prop) (hf : xs.length < p.fuel) (hR : R ρ)
    (hs : ∀ i S', Ext S S' → src i S' = srcL xs i S')
    (hb : ∀ d ∈ xs, ∀ S' ρ', Ext S S' → R ρ' → wp ((asg p t d ρ' S').bind fun ρ1 S1 => evSs p body ρ1 S1) fun f S1 => Ext S' S1 ∧ ∃ ρ1, f = .nx ρ1 ∧ R ρ1)
    (h2 : ∀ S' ρ', Ext S S' → R ρ' → Q (.nx ρ') S') : wp (forN src (fun d S ρ => (asg p t d ρ S).bind fun ρ1 S1 => evSs p body ρ1 S1) p.fuel 0 S ρ) Q := by
  refine forN_wp xs (fun i S' ρ' => Ext S S' ∧ R ρ') (fun i S' ρ' h => hs i S' h.1) ?_ ?_ _ 0 _ _ (Nat.zero_le _) (by omega) ⟨.refl, hR⟩
  · rintro i S' ρ' d ⟨e2, hr⟩ hd
    refine wp_mono (hb d (List.mem_of_getElem? hd) S' ρ' e2 hr) fun f S3 ⟨e3, ρ1, ef, r1⟩ => ?_
    subst ef
    exact ⟨e2.trans e3, r1⟩
  · rintro S' ρ' ⟨e2, hr⟩
    exact h2 _ _ e2 hr
theorem src_new {S : Sto} {xs : List D} : srcOf (S ++ [.lst xs]) (.ref S.length) = some (srcR S.length) := by
  show (match seqAt (S ++ [.lst xs]) S.length with
    | some _ => some (srcR S.length)
    | none => none) = _
  rw [seq_c at_new]
theorem src_at {S S' : Sto} {xs : List D} {i : Nat} (e : Ext (S ++ [.lst xs]) S') : srcR S.length i S' = srcL xs i S' := srcR_of (e.get at_new)
theorem t_right {n : Nat} (hn : 15 ≤ n) {S : Sto} {c : Nat} {t : Int} (w : Well S c t) (ht : t ≤ 100000000) : wp ((P n).call 41 [.ref c] S) fun r S' => r = .bl true ∧ Chg c S S' := by
  obtain ⟨m, rfl, hm⟩ := up hn
  rw [cP m 41 b41 rfl]
  refine wp_run rfl ?_
  show wp (evSs (P m) b41.body [some (.ref c), none, none, none, none, none] S) _
  simp only [b41, wp_sC, wp_asg, wp_gn, wp_call, wp_cons, wp_nil, wp_var, List.getElem?_cons_zero, List.getElem?_cons_succ, Option.some.injEq, exists_eq_left', List.set_cons_zero, List.set_cons_succ, fl_nx]
  refine wp_mono (t_pair_box (by omega) w (by omega)) fun B S1 ⟨⟨k, xs', ys', xs, ys, k5, er, bx⟩, w1, g1⟩ => ?_
  subst er
  refine wp_mono (t_within (by omega) bx k5 w1 (by omega)) fun r S2 ⟨⟨us, vs, er, lu⟩, w2, g2⟩ => ?_
  subst er
  simp only [wp_for, wp_iv, wp_lst, wp_cons, wp_nil, wp_ix, wp_con, wp_var, wp_call, List.getElem?_cons_zero, List.getElem?_cons_succ, Option.some.injEq, exists_eq_left', ix0, ix1]
  refine wp_mono (t_beyond (by omega) bx lu k5 w2 (by omega)) fun r S3 ⟨⟨us3, vs3, er, lu3⟩, w3, g3⟩ => ?_
  subst er
  refine wp_mono (t_line (by omega) w3 (by omega)) fun r S4 ⟨⟨k4, us4, vs4, k45, er, lu4⟩, w4, g4⟩ => ?_
  subst er
  refine ⟨_, src_new, ?_⟩
  have w5 := w4.ext (.one (c := .lst [lnD us vs, lnD xs' ys', lnD xs ys, lnD us3 vs3, lnD us4 vs4]))
  have g5 : Chg c S (S4 ++ [.lst [lnD us vs, lnD xs' ys', lnD xs ys, lnD us3 vs3, lnD us4 vs4]]) := (((g1.trans g2).trans g3).trans g4).trans Ext.one.chg
  have big : ∀ x ∈ [lnD us vs, lnD xs' ys', lnD xs ys, lnD us3 vs3, lnD us4 vs4], ∃ j as bs, x = lnD as bs ∧ LineP 1000000000000 j as bs := fun x hx => by
    simp only [List.mem_cons, List.not_mem_nil, or_false] at hx
    rcases hx with rfl | rfl | rfl | rfl | rfl
    · exact ⟨k, _, _, rfl, lu.mono (by decide)⟩
    · exact ⟨k, _, _, rfl, bx.slow.mono (by decide)⟩
    · exact ⟨k, _, _, rfl, bx.fast.mono (by decide)⟩
    · exact ⟨k, _, _, rfl, lu3⟩
    · exact ⟨k4, _, _, rfl, lu4.mono (by decide)⟩
  refine good_wp (xs := [lnD us vs, lnD xs' ys', lnD xs ys, lnD us3 vs3, lnD us4 vs4]) (fun ρ => ∃ a b d, ρ = [some (.ref c), some (.tup [lnD xs' ys', lnD xs ys]), some (lnD us vs), a, b, d]) (fuelBig (by simp)) ⟨_, _, _, rfl⟩ (fun i S' e => src_at e) ?_ ?_
  · rintro d hd S5 ρ' e5 ⟨_, _, _, rfl⟩
    obtain ⟨j, as, bs, rfl, la⟩ := big d hd
    have lb1 := bx.slow.mono (show (100 : Int) ≤ 1000000000000 by decide)
    have lb2 := bx.fast.mono (show (9 : Int) ≤ 1000000000000 by decide)
    have gb : ∀ S, gd c S 9 (0 + 4) (.tup [lnD xs' ys', lnD xs ys]) = true := fun S => gd_pair (by decide) (gd_line (by decide) lb1) (gd_line (by decide) lb2)
    have oa : ∀ S, okD S (lnD as bs) = true := fun S => gd_ok (L := 9) (c := c) (k := 3) (by decide) (gd_line (k := 0) (by decide) la)
    simp only [wp_sC, wp_sN, wp_ret, wp_asg, wp_par, wp_sif, wp_sx, wp_and_, wp_or_, wp_not, wp_neg, wp_cmp, wp_chain, wp_if, wp_call, wp_callK, wp_fn, wp_ix, wp_bin, wp_tup, wp_lst, wp_cons, wp_nil, wp_con, wp_var, wp_gn, fl_nx, fl_rt, ed_rt, setsL, List.getElem?_cons_zero, List.getElem?_cons_succ, Option.some.injEq, exists_eq_left', List.set_cons_zero, List.set_cons_succ, wp_ok, wp_map, truth, cmpE, eq_int, Option.map_some, wp_bind]
    refine wp_mono (t_is_within (by omega) (by decide) la lb1 lb2 bx.is) fun r S6 ⟨er, e6⟩ => ?_
    subst er
    generalize hq : (slowB xs' ys' as bs && slowB as bs xs ys) = q
    refine wp_mono (t_in_box (by omega) (L := 9) (k := 0) (c := c) (by decide) (by decide) (gb S6) la lb1 lb2 bx.is (oa S6)) fun r S7 ⟨er, e7⟩ => ?_
    rw [hq] at er
    subst er
    refine ⟨[.tup [lnD xs' ys', lnD xs ys], lnD as bs], rfl, ?_⟩
    refine wp_mono (t_in_box (by omega) (L := 9) (k := 0) (c := c) (by decide) (by decide) (gb S7) la lb1 lb2 bx.is (oa S7)) fun r S8 ⟨er, e8⟩ => ?_
    rw [hq] at er
    subst er
    rw [rep2 at_new, wp_ok, rep2 at_new, wp_ok, eq_wrd (eq2 q)]
    simp only [wp_sC, wp_sN, wp_ret, wp_asg, wp_par, wp_sif, wp_sx, wp_and_, wp_or_, wp_not, wp_neg, wp_cmp, wp_chain, wp_if, wp_call, wp_callK, wp_fn, wp_ix, wp_bin, wp_tup, wp_lst, wp_cons, wp_nil, wp_con, wp_var, wp_gn, fl_nx, fl_rt, ed_rt, setsL, List.getElem?_cons_zero, List.getElem?_cons_succ, Option.some.injEq, exists_eq_left', List.set_cons_zero, List.set_cons_succ, wp_ok, wp_map, truth, cmpE, eq_int, Option.map_some, Bool.not_true, Bool.false_eq_true, if_false]
    exact ⟨(((e6.trans e7).trans e8).trans .one).trans .one, _, rfl, _, _, _, rfl⟩
  · rintro S5 ρ' e5 ⟨_, _, _, rfl⟩
    have w6 := w5.ext e5
    have g6 : Chg c S S5 := g5.trans e5.chg
    have gb1 : ∀ S, gd c S 9 3 (lnD xs' ys') = true := fun S => gd_line (k := 0) (by decide) bx.slow
    have gb2 : ∀ S, gd c S 9 3 (lnD xs ys) = true := fun S => gd_line (k := 0) (by decide) bx.fast
    have gbu : ∀ S, gd c S 9 3 (lnD us vs) = true := fun S => gd_line (k := 0) (by decide) lu
    simp only [fl_nx, wp_sC, wp_asg, wp_gn, List.set_cons_zero, List.set_cons_succ, wp_lst, wp_tup, wp_cons, wp_nil, wp_ix, wp_con, wp_var, wp_call, List.getElem?_cons_zero, List.getElem?_cons_succ, Option.some.injEq, exists_eq_left', ix0, ix1]
    refine wp_mono (t_warped 3 (by omega) (L := 9) (xs := [lnD xs' ys', lnD xs ys]) (by decide) (by decide) (fun x hx => ?_) (by simp) w6 (by omega)) fun d1 S7 ⟨gd1, w7, g7⟩ => ?_
    · simp only [List.mem_cons, List.not_mem_nil, or_false] at hx
      rcases hx with rfl | rfl
      · exact gb1 _
      · exact gb2 _
    refine wp_mono (t_odd (by omega) w7 (by push_cast; omega)) fun d2 S8 ⟨vd2, w8, g8⟩ => ?_
    have g08 := (g6.trans g7).trans g8
    simp only [wp_for, wp_iv, wp_bin, wp_lst, wp_tup, wp_cons, wp_nil, wp_ix, wp_con, wp_var, wp_call, List.getElem?_cons_zero, List.getElem?_cons_succ, Option.some.injEq, exists_eq_left', ix0, ix1]
    have w9 := w8.ext (.one (c := .lst [.tup [lnD xs' ys', lnD xs ys], .tup [lnD xs ys, lnD xs' ys'], .tup [lnD us vs, lnD xs ys], .tup [lnD xs' ys', lnD us vs], d1, d2]))
    refine wp_mono (t_line (by omega) w9 (by push_cast; omega)) fun r S9 ⟨⟨k9, us9, vs9, k95, er, lu9⟩, w10, g9⟩ => ?_
    subst er
    have c8 : c < S8.length := w8.lt
    have a8 := g9.get S8.length _ (by omega) at_new
    have a9 := (Ext.one (S := S9) (c := .lst [.tup [lnD us vs, lnD us vs], .tup [lnD us vs, lnD us9 vs9], lnD xs' ys'])).get a8
    rw [bin_catL (lst_c a9) (lst_c at_new) (by simp), wp_ok]
    refine ⟨_, src_new, ?_⟩
    have g8e : Chg c S8 (S9 ++ [.lst [.tup [lnD us vs, lnD us vs], .tup [lnD us vs, lnD us9 vs9], lnD xs' ys']] ++ [.lst ([.tup [lnD xs' ys', lnD xs ys], .tup [lnD xs ys, lnD xs' ys'], .tup [lnD us vs, lnD xs ys], .tup [lnD xs' ys', lnD us vs], d1, d2] ++ [.tup [lnD us vs, lnD us vs], .tup [lnD us vs, lnD us9 vs9], lnD xs' ys'])]) := (Ext.one.chg.trans g9).trans (Ext.one.trans .one).chg
    have w11 := w10.ext ((Ext.one (c := .lst [.tup [lnD us vs, lnD us vs], .tup [lnD us vs, lnD us9 vs9], lnD xs' ys'])).trans (.one (c := .lst ([.tup [lnD xs' ys', lnD xs ys], .tup [lnD xs ys, lnD xs' ys'], .tup [lnD us vs, lnD xs ys], .tup [lnD xs' ys', lnD us vs], d1, d2] ++ [.tup [lnD us vs, lnD us vs], .tup [lnD us vs, lnD us9 vs9], lnD xs' ys']))))
    have g0e := g08.trans g8e
    have all : ∀ d ∈ [.tup [lnD xs' ys', lnD xs ys], .tup [lnD xs ys, lnD xs' ys'], .tup [lnD us vs, lnD xs ys], .tup [lnD xs' ys', lnD us vs], d1, d2] ++ [.tup [lnD us vs, lnD us vs], .tup [lnD us vs, lnD us9 vs9], lnD xs' ys'], Vd c (S9 ++ [.lst [.tup [lnD us vs, lnD us vs], .tup [lnD us vs, lnD us9 vs9], lnD xs' ys']] ++ [.lst ([.tup [lnD xs' ys', lnD xs ys], .tup [lnD xs ys, lnD xs' ys'], .tup [lnD us vs, lnD xs ys], .tup [lnD xs' ys', lnD us vs], d1, d2] ++ [.tup [lnD us vs, lnD us vs], .tup [lnD us vs, lnD us9 vs9], lnD xs' ys'])]) 10 (1 + 4) d := by
      generalize (S9 ++ [Mini.Cl.lst [.tup [lnD us vs, lnD us vs], .tup [lnD us vs, lnD us9 vs9], lnD xs' ys']] ++ [Mini.Cl.lst ([.tup [lnD xs' ys', lnD xs ys], .tup [lnD xs ys, lnD xs' ys'], .tup [lnD us vs, lnD xs ys], .tup [lnD xs' ys', lnD us vs], d1, d2] ++ [.tup [lnD us vs, lnD us vs], .tup [lnD us vs, lnD us9 vs9], lnD xs' ys'])]) = Z at g8e
      intro d hd
      have pr : ∀ {a b : D}, gd c Z 9 3 a = true → gd c Z 9 3 b = true → Vd c Z 10 (1 + 4) (.tup [a, b]) := fun ha hb => gd_vd (by decide) (gd_up (by decide) (by decide) (gd_pair (by decide) ha hb))
      simp only [List.mem_append, List.mem_cons, List.not_mem_nil, or_false] at hd
      rcases hd with (rfl | rfl | rfl | rfl | rfl | rfl) | (rfl | rfl | rfl)
      · exact pr (gb1 _) (gb2 _)
      · exact pr (gb2 _) (gb1 _)
      · exact pr (gbu _) (gb2 _)
      · exact pr (gb1 _) (gbu _)
      · exact gd_vd (by decide) (gd_chg (g8.trans g8e) gd1)
      · exact (vd2.chg g8e).up (by decide) (by decide)
      · exact pr (gbu _) (gbu _)
      · exact pr (gbu _) (gd_line (k := 0) (by decide) lu9)
      · exact (gd_vd (by decide) (gb1 _)).up (by decide) (by decide)
    refine good_wp (xs := [.tup [lnD xs' ys', lnD xs ys], .tup [lnD xs ys, lnD xs' ys'], .tup [lnD us vs, lnD xs ys], .tup [lnD xs' ys', lnD us vs], d1, d2] ++ [.tup [lnD us vs, lnD us vs], .tup [lnD us vs, lnD us9 vs9], lnD xs' ys']) (fun ρ => ∃ a b d, ρ = [some (.ref c), some (.tup [lnD xs' ys', lnD xs ys]), some (lnD us vs), a, b, d]) (fuelBig (by simp)) ⟨_, _, _, rfl⟩ (fun i S' e => src_at e) ?_ ?_
    · rintro d hd S10 ρ' e10 ⟨_, _, _, rfl⟩
      have vd := (all d hd).chg e10.chg
      simp only [wp_sC, wp_sN, wp_ret, wp_asg, wp_par, wp_sif, wp_sx, wp_and_, wp_or_, wp_not, wp_neg, wp_cmp, wp_chain, wp_if, wp_call, wp_callK, wp_fn, wp_ix, wp_bin, wp_tup, wp_lst, wp_cons, wp_nil, wp_con, wp_var, wp_gn, fl_nx, fl_rt, ed_rt, setsL, List.getElem?_cons_zero, List.getElem?_cons_succ, Option.some.injEq, exists_eq_left', List.set_cons_zero, List.set_cons_succ, wp_ok, wp_map, truth, cmpE, eq_int, Option.map_some, wp_bind]
      refine wp_mono (t_is_box (by omega) (by decide) vd) fun r S11 ⟨er, e11⟩ => ?_
      subst er
      refine ⟨[d], rfl, ?_⟩
      refine wp_mono (t_is_box (by omega) (by decide) (vd.chg e11.chg)) fun r S12 ⟨er, e12⟩ => ?_
      subst er
      rw [rep2 at_new, wp_ok]
      refine wp_mono (t_law_is_box (by omega) (by decide) (by decide) (((vd.chg e11.chg).chg e12.chg).chg Ext.one.chg)) fun r S13 ⟨er, e13⟩ => ?_
      subst er
      rw [bin_repL (lst_c at_new) (by decide) (by decide) (by simp), wp_ok]
      have fl : (List.replicate (2 : Int).toNat [D.bl (boxB d)]).flatten = [.bl (boxB d), .bl (boxB d)] := rfl
      rw [fl, rep2 at_new, wp_ok, eq_wrd (eq2 _)]
      simp only [wp_sC, wp_sN, wp_ret, wp_asg, wp_par, wp_sif, wp_sx, wp_and_, wp_or_, wp_not, wp_neg, wp_cmp, wp_chain, wp_if, wp_call, wp_callK, wp_fn, wp_ix, wp_bin, wp_tup, wp_lst, wp_cons, wp_nil, wp_con, wp_var, wp_gn, fl_nx, fl_rt, ed_rt, setsL, List.getElem?_cons_zero, List.getElem?_cons_succ, Option.some.injEq, exists_eq_left', List.set_cons_zero, List.set_cons_succ, wp_ok, wp_map, truth, cmpE, eq_int, Option.map_some, Bool.not_true, Bool.false_eq_true, if_false]
      exact ⟨((((e11.trans e12).trans .one).trans e13).trans .one).trans .one, _, rfl, _, _, _, rfl⟩
    · rintro S10 ρ' e10 ⟨_, _, _, rfl⟩
      have w12 := w11.ext e10
      have g12 := g0e.trans e10.chg
      simp only [fl_nx, wp_sC, wp_asg, wp_gn, List.set_cons_zero, List.set_cons_succ, wp_lst, wp_tup, wp_cons, wp_nil, wp_ix, wp_con, wp_var, wp_call, List.getElem?_cons_zero, List.getElem?_cons_succ, Option.some.injEq, exists_eq_left', ix0, ix1]
      have gl := gdT.mp (gbu S10)
      refine wp_mono (t_warped 2 (by omega) (L := 9) (xs := [.tup us, .tup vs]) (by decide) (by decide) gl.2 (by simp) w12 (by push_cast; omega)) fun d3 S13 ⟨gd3, w13, g13⟩ => ?_
      refine wp_mono (t_odd (by omega) w13 (by push_cast; omega)) fun d4 S14 ⟨vd4, w14, g14⟩ => ?_
      have all3 : ∀ d ∈ [lnD us vs, d3, d4], Vd c (S14 ++ [.lst [lnD us vs, d3, d4]]) 10 5 d := fun d hd => by
        simp only [List.mem_cons, List.not_mem_nil, or_false] at hd
        rcases hd with rfl | rfl | rfl
        · exact (gd_vd (by decide) (gbu _)).up (by decide) (by decide)
        · exact (gd_vd (by decide) (gd_chg (g14.trans Ext.one.chg) gd3)).up (by decide) (by decide)
        · exact (vd4.chg Ext.one.chg).up (by decide) (by decide)
      have at3 := at_new (A := S14) (c := .lst [lnD us vs, d3, d4])
      have g15 := ((g12.trans g13).trans g14).trans (Ext.one (S := S14) (c := .lst [lnD us vs, d3, d4])).chg
      generalize S14 ++ [Mini.Cl.lst [lnD us vs, d3, d4]] = S15 at all3 at3 g15 ⊢
      simp only [wp_ret, wp_cmp, wp_fn, wp_cons, wp_nil]
      refine list_comp (g := fun d => .bl (isLine d)) (xs := [lnD us vs, d3, d4]) (by simp) (fuelBig (by simp)) (by simp) (it_ref ?_) (fun d hd S' e => t_is_line (by omega) ((all3 d hd).chg e.chg).1) fun A t eA => ?_
      · simp only [wp_sC, wp_sN, wp_ret, wp_asg, wp_par, wp_sif, wp_sx, wp_and_, wp_or_, wp_not, wp_neg, wp_cmp, wp_chain, wp_if, wp_call, wp_callK, wp_fn, wp_ix, wp_bin, wp_tup, wp_lst, wp_cons, wp_nil, wp_con, wp_var, wp_gn, fl_nx, fl_rt, ed_rt, setsL, List.getElem?_cons_zero, List.getElem?_cons_succ, Option.some.injEq, exists_eq_left', List.set_cons_zero, List.set_cons_succ, wp_ok, wp_map, truth, cmpE, eq_int, Option.map_some]
        exact ⟨.refl, _, rfl, at3⟩
      rw [rep3 (a := isLine (lnD us vs)) (b := isLine d3) (d := isLine d4) (by simp), wp_ok]
      have eA2 : Ext S15 (A ++ Cl.lst ([lnD us vs, d3, d4].map fun d => D.bl (isLine d)) :: t) := eA.trans ⟨_, rfl⟩
      refine list_comp (g := fun d => .bl (isLine d)) (xs := [lnD us vs, d3, d4]) (by simp) (fuelBig (by simp)) (by simp) (it_ref ?_) (fun d hd S' e => t_law_is_line (by omega) (by decide) (by decide) (((all3 d hd).chg eA2.chg).chg e.chg)) fun A3 t3 eA3 => ?_
      · simp only [wp_sC, wp_sN, wp_ret, wp_asg, wp_par, wp_sif, wp_sx, wp_and_, wp_or_, wp_not, wp_neg, wp_cmp, wp_chain, wp_if, wp_call, wp_callK, wp_fn, wp_ix, wp_bin, wp_tup, wp_lst, wp_cons, wp_nil, wp_con, wp_var, wp_gn, fl_nx, fl_rt, ed_rt, setsL, List.getElem?_cons_zero, List.getElem?_cons_succ, Option.some.injEq, exists_eq_left', List.set_cons_zero, List.set_cons_succ, wp_ok, wp_map, truth, cmpE, eq_int, Option.map_some]
        exact ⟨.refl, _, rfl, eA2.get at3⟩
      rw [rep3 (a := isLine (lnD us vs)) (b := isLine d3) (d := isLine d4) (by simp), wp_ok]
      have eqw : ∀ S : Sto, eqE S (.str (wrd [isLine (lnD us vs), isLine d3, isLine d4])) (.str (wrd [isLine (lnD us vs), isLine d3, isLine d4])) = some true := fun S => eq_wrd (eq3 _ _ _)
      simp only [wp_sC, wp_sN, wp_ret, wp_asg, wp_par, wp_sif, wp_sx, wp_and_, wp_or_, wp_not, wp_neg, wp_cmp, wp_chain, wp_if, wp_call, wp_callK, wp_fn, wp_ix, wp_bin, wp_tup, wp_lst, wp_cons, wp_nil, wp_con, wp_var, wp_gn, fl_nx, fl_rt, ed_rt, setsL, List.getElem?_cons_zero, List.getElem?_cons_succ, Option.some.injEq, exists_eq_left', List.set_cons_zero, List.set_cons_succ, wp_ok, wp_map, truth, cmpE, eq_int, Option.map_some, eqw]
      exact ⟨trivial, (g15.trans eA2.chg).trans (eA3.trans ⟨_, rfl⟩).chg⟩
end K34
namespace K34
open PySem Mini
/-! the law -/
theorem cut_map {ns : List Int} {a b : Option Int} : cutD (ns.map D.int) a b = ((ns.drop (HT.sIx ns.length 0 a)).take (HT.sIx ns.length ns.length b - HT.sIx ns.length 0 a)).map D.int := by
  unfold cutD
  simp
theorem cut_to63 {xs : List D} : cutD xs none (some 63) = xs.take 63 := cut_to 63
/-- the script is there -/
def Scr (S : Sto) (ns : List Int) : Prop := S[0]? = some (.frz (ns.map D.int))
theorem Scr.seq {S : Sto} {ns : List Int} (h : Scr S ns) : seqAt S 0 = some (ns.map D.int) := by
  unfold seqAt
  rw [h]
theorem Scr.ext {S S' : Sto} {ns : List Int} (h : Scr S ns) (e : Ext S S') : Scr S' ns := e.get h
theorem Scr.chg {S S' : Sto} {ns : List Int} {c : Nat} (h : Scr S ns) (e : Chg c S S') (hc : c ≠ 0) : Scr S' ns := e.get 0 _ (Ne.symm hc) h
theorem t_spool {n : Nat} (hn : 1 ≤ n) {S : Sto} {ns : List Int} {j : Nat} (hs : Scr S ns) (hj : j < 4) (hl : ns.length ≤ 63) : wp ((P n).call 15 [.ref 0, .int (0 + (j : Int))] S) fun r S' => ∃ c, r = .ref c ∧ Well S' c 0 ∧ S.length ≤ c ∧ Ext S S' := by
  obtain ⟨m, rfl, hm⟩ := up hn
  rw [cP m 15 b15 rfl]
  refine wp_run rfl ?_
  have sl : ∀ {S' : Sto} (a b : Option Int), Ext S S' → slE (.ref 0) a b S' = .ok (.ref S'.length) (S' ++ [.lst (cutD (ns.map D.int) a b)]) := fun {S'} a b e => by
    show (match seqAt S' 0 with
      | some xs => new (.lst (cutD xs a b)) S'
      | none => .no) = _
    rw [(hs.ext e).seq]; rfl
  show wp (evSs (P m) b15.body [some (.ref 0), some (.int (0 + (j : Int))), none, none, none] S) _
  simp only [wp_sC, wp_sN, wp_ret, wp_asg, wp_par, wp_sif, wp_sx, wp_and_, wp_or_, wp_not, wp_neg, wp_cmp, wp_chain, wp_if, wp_call, wp_callK, wp_fn, wp_ix, wp_bin, wp_tup, wp_lst, wp_cons, wp_nil, wp_con, wp_var, wp_gn, fl_nx, fl_rt, ed_rt, setsL, List.getElem?_cons_zero, List.getElem?_cons_succ, Option.some.injEq, exists_eq_left', List.set_cons_zero, List.set_cons_succ, wp_ok, wp_map, truth, cmpE, eq_int, Option.map_some, b15, bin_mul (show (7919 : Int).natAbs < 2 ^ 64 by decide) (show (0 + (j : Int)).natAbs < 2 ^ 64 by omega), bin_add, wp_for, wp_iv, wp_sl, wp_oN, wp_oS, partI, sl _ _ .refl]
  refine ⟨_, src_new, ?_⟩
  rw [cut_to63, show (ns.map D.int).take 63 = ns.map D.int from List.take_of_length_le (by simp; omega)]
  refine forN_wp (ns.map D.int) (fun i S' ρ' => S' = S ++ [Mini.Cl.lst (ns.map D.int)] ∧ ∃ (b : Int) (x : Option D), ρ' = [some (D.ref 0), some (.int (0 + (j : Int))), some (.int b), x, none] ∧ 0 ≤ b ∧ b < 2147483549) (fun i S' ρ' ⟨e, _⟩ => by subst e; exact srcR_of at_new) ?_ ?_ _ 0 _ _ (Nat.zero_le _) ?_ ⟨rfl, _, _, rfl, by omega, by omega⟩
  · rintro i S' ρ' x ⟨rfl, b, y, rfl, b0, b1⟩ hx
    obtain ⟨v, _, rfl⟩ : ∃ v, v ∈ ns ∧ D.int v = x := List.mem_map.mp (List.mem_of_getElem? hx)
    simp only [wp_sC, wp_sN, wp_ret, wp_asg, wp_par, wp_sif, wp_sx, wp_and_, wp_or_, wp_not, wp_neg, wp_cmp, wp_chain, wp_if, wp_call, wp_callK, wp_fn, wp_ix, wp_bin, wp_tup, wp_lst, wp_cons, wp_nil, wp_con, wp_var, wp_gn, fl_nx, fl_rt, ed_rt, setsL, List.getElem?_cons_zero, List.getElem?_cons_succ, Option.some.injEq, exists_eq_left', List.set_cons_zero, List.set_cons_succ, wp_ok, wp_map, truth, cmpE, eq_int, Option.map_some, wp_bind, bin_mul (show b.natAbs < 2 ^ 64 by omega) (show (28657 : Int).natAbs < 2 ^ 64 by decide), fn_int, bin_mod (show (0 : Int) < 2147483549 by decide), bin_mod (show (0 : Int) < 1610612741 by decide), bin_add]
    exact ⟨trivial, _, _, rfl, Int.emod_nonneg _ (by decide), Int.emod_lt_of_pos _ (by decide)⟩
  · rintro S' ρ' ⟨rfl, b, y, rfl, b0, b1⟩
    have e1 : Ext S (S ++ [Mini.Cl.lst (ns.map D.int)]) := .one
    have hs1 := hs.ext e1
    generalize S ++ [Mini.Cl.lst (ns.map D.int)] = S1 at e1 hs1 ⊢
    have own : ∃ o : Int, wp (evE (P m) (.ite (.cmp .lt (.var 1) (.fn .len [(.var 0)])) (.fn .int [(.ix (.var 0) (.var 1))]) (.con (.int 0))) [some (.ref 0), some (.int (0 + (j : Int))), some (.int b), y, none] S1) fun d S' => d = .int o ∧ S' = S1 := by
      by_cases h0 : (0 : Int) + j < (ns.length : Int)
      · refine ⟨ns[j]'(by omega), ?_⟩
        simp only [wp_sC, wp_sN, wp_ret, wp_asg, wp_par, wp_sif, wp_sx, wp_and_, wp_or_, wp_not, wp_neg, wp_cmp, wp_chain, wp_if, wp_call, wp_callK, wp_fn, wp_ix, wp_bin, wp_tup, wp_lst, wp_cons, wp_nil, wp_con, wp_var, wp_gn, fl_nx, fl_rt, ed_rt, setsL, List.getElem?_cons_zero, List.getElem?_cons_succ, Option.some.injEq, exists_eq_left', List.set_cons_zero, List.set_cons_succ, wp_ok, wp_map, truth, cmpE, eq_int, Option.map_some, fn_lenR hs1.seq, List.length_map, h0, decide_true, if_true]
        have g0 : (ns.map D.int)[j]? = some (.int (ns[j]'(by omega))) := by rw [List.getElem?_map, List.getElem?_eq_getElem (by omega)]; rfl
        have : ixE S1 (.ref 0) (.int (0 + (j : Int))) = some (.int (ns[j]'(by omega))) := by
          show (seqAt S1 0).bind (fun xs => L2.atI xs (0 + (j : Int))) = _
          rw [hs1.seq]
          exact (atI_s (by simp; omega)).trans g0
        simp only [wp_sC, wp_sN, wp_ret, wp_asg, wp_par, wp_sif, wp_sx, wp_and_, wp_or_, wp_not, wp_neg, wp_cmp, wp_chain, wp_if, wp_call, wp_callK, wp_fn, wp_ix, wp_bin, wp_tup, wp_lst, wp_cons, wp_nil, wp_con, wp_var, wp_gn, fl_nx, fl_rt, ed_rt, setsL, List.getElem?_cons_zero, List.getElem?_cons_succ, Option.some.injEq, exists_eq_left', List.set_cons_zero, List.set_cons_succ, wp_ok, wp_map, truth, cmpE, eq_int, Option.map_some, this, fn_int]
        exact ⟨trivial, trivial⟩
      · refine ⟨0, ?_⟩
        simp only [wp_sC, wp_sN, wp_ret, wp_asg, wp_par, wp_sif, wp_sx, wp_and_, wp_or_, wp_not, wp_neg, wp_cmp, wp_chain, wp_if, wp_call, wp_callK, wp_fn, wp_ix, wp_bin, wp_tup, wp_lst, wp_cons, wp_nil, wp_con, wp_var, wp_gn, fl_nx, fl_rt, ed_rt, setsL, List.getElem?_cons_zero, List.getElem?_cons_succ, Option.some.injEq, exists_eq_left', List.set_cons_zero, List.set_cons_succ, wp_ok, wp_map, truth, cmpE, eq_int, Option.map_some, fn_lenR hs1.seq, List.length_map, h0, decide_false, Bool.false_eq_true, if_false]
        exact ⟨trivial, trivial⟩
    obtain ⟨o, own⟩ := own
    rw [fl_nx, wp_sC, wp_asg]
    refine wp_mono own fun d S2 ⟨ed, es⟩ => ?_
    subst ed es
    have p18 : ∀ {S : Sto}, binE .pow (.int 10) (.int 18) S = .ok (.int (10 ^ 18)) S := fun {S} => bin_pow (by decide)
    have ab : ∀ i : Int, 0 ≤ (if i < 0 then -i else i) := fun i => by split <;> omega
    have great : ∃ a : Int, 0 ≤ a ∧ wp (evE (P m) (.ite (.cmp .ge (.fn .abs [(.var 3)]) (.bin .pow (.con (.int 10)) (.con (.int 18)))) (.bin .fdiv (.fn .abs [(.var 3)]) (.con (.int 2))) (.con (.int 0))) [some (.ref 0), some (.int (0 + (j : Int))), some (.int b), some (.int o), none] S2) fun d S' => d = .int a ∧ S' = S2 := by
      by_cases h0 : (10 : Int) ^ 18 ≤ (if o < 0 then -o else o)
      · refine ⟨(if o < 0 then -o else o) / 2, Int.ediv_nonneg (ab o) (by decide), ?_⟩
        simp only [wp_sC, wp_sN, wp_ret, wp_asg, wp_par, wp_sif, wp_sx, wp_and_, wp_or_, wp_not, wp_neg, wp_cmp, wp_chain, wp_if, wp_call, wp_callK, wp_fn, wp_ix, wp_bin, wp_tup, wp_lst, wp_cons, wp_nil, wp_con, wp_var, wp_gn, fl_nx, fl_rt, ed_rt, setsL, List.getElem?_cons_zero, List.getElem?_cons_succ, Option.some.injEq, exists_eq_left', List.set_cons_zero, List.set_cons_succ, wp_ok, wp_map, truth, cmpE, eq_int, Option.map_some, p18, fn_abs, h0, decide_true, if_true, bin_div (show (0 : Int) < 2 by decide) (by decide)]
        exact ⟨trivial, trivial⟩
      · refine ⟨0, Int.le_refl 0, ?_⟩
        simp only [wp_sC, wp_sN, wp_ret, wp_asg, wp_par, wp_sif, wp_sx, wp_and_, wp_or_, wp_not, wp_neg, wp_cmp, wp_chain, wp_if, wp_call, wp_callK, wp_fn, wp_ix, wp_bin, wp_tup, wp_lst, wp_cons, wp_nil, wp_con, wp_var, wp_gn, fl_nx, fl_rt, ed_rt, setsL, List.getElem?_cons_zero, List.getElem?_cons_succ, Option.some.injEq, exists_eq_left', List.set_cons_zero, List.set_cons_succ, wp_ok, wp_map, truth, cmpE, eq_int, Option.map_some, p18, fn_abs, h0, decide_false, Bool.false_eq_true, if_false]
        exact ⟨trivial, trivial⟩
    obtain ⟨a, a0, great⟩ := great
    rw [wp_gn, fl_nx, wp_sC, wp_asg]
    refine wp_mono great fun d S3 ⟨ed, es⟩ => ?_
    subst ed es
    have q0 : 0 ≤ o % 120000007 := Int.emod_nonneg _ (by decide)
    have q1 : o % 120000007 < 120000007 := Int.emod_lt_of_pos _ (by decide)
    simp only [wp_sC, wp_sN, wp_ret, wp_asg, wp_par, wp_sif, wp_sx, wp_and_, wp_or_, wp_not, wp_neg, wp_cmp, wp_chain, wp_if, wp_call, wp_callK, wp_fn, wp_ix, wp_bin, wp_tup, wp_lst, wp_cons, wp_nil, wp_con, wp_var, wp_gn, fl_nx, fl_rt, ed_rt, setsL, List.getElem?_cons_zero, List.getElem?_cons_succ, Option.some.injEq, exists_eq_left', List.set_cons_zero, List.set_cons_succ, wp_ok, wp_map, truth, cmpE, eq_int, Option.map_some, fn_int, bin_mod (show (0 : Int) < 120000007 by decide), bin_mul (show (17 : Int).natAbs < 2 ^ 64 by decide) (show (o % 120000007).natAbs < 2 ^ 64 by omega), bin_add]
    refine ⟨_, rfl, ⟨a, _, 0, at_new, a0, by omega, by omega, by omega, by omega⟩, ?_, e1.trans .one⟩
    obtain ⟨u, hu⟩ := e1
    rw [hu]; simp
  · have := fuelBig (m := m) (n := (ns.map D.int).length) (by simp; omega)
    omega
theorem t_laps {n : Nat} (hn : 1 ≤ n) {S : Sto} {ns : List Int} (hs : Scr S ns) (hl : ns.length ≤ 63) : wp ((P n).call 32 [.ref 0, .int 4] S) fun r S' => ∃ k, k ≤ 4 ∧ r = .ref S.length ∧ S' = S ++ [.lst ((List.range k).map fun (i : Nat) => D.int (0 + (i : Int)))] := by
  obtain ⟨m, rfl, hm⟩ := up hn
  rw [cP m 32 b32 rfl]
  refine wp_run rfl ?_
  show wp (evSs (P m) b32.body [some (.ref 0), some (.int 4)] S) _
  simp only [wp_sC, wp_sN, wp_ret, wp_asg, wp_par, wp_sif, wp_sx, wp_and_, wp_or_, wp_not, wp_neg, wp_cmp, wp_chain, wp_if, wp_call, wp_callK, wp_fn, wp_ix, wp_bin, wp_tup, wp_lst, wp_cons, wp_nil, wp_con, wp_var, wp_gn, fl_nx, fl_rt, ed_rt, setsL, List.getElem?_cons_zero, List.getElem?_cons_succ, Option.some.injEq, exists_eq_left', List.set_cons_zero, List.set_cons_succ, wp_ok, wp_map, truth, cmpE, eq_int, Option.map_some, b32, wp_lrg1, fn_lenR hs.seq, fn_min, fn_max, List.length_map]
  have hk : ∃ k : Nat, k ≤ 4 ∧ (if 1 < (if 4 < (ns.length : Int) then 4 else (ns.length : Int)) then (if 4 < (ns.length : Int) then 4 else (ns.length : Int)) else 1) = (k : Int) := by
    refine ⟨(if 1 < (if 4 < (ns.length : Int) then 4 else (ns.length : Int)) then (if 4 < (ns.length : Int) then 4 else (ns.length : Int)) else 1).toNat, ?_, ?_⟩ <;> (repeat' split) <;> omega
  obtain ⟨k, k4, ek⟩ := hk
  rw [ek]
  have e : lrgE S (.int 0) (.int (k : Int)) = .ok (.ref S.length) (S ++ [.lst ((List.range k).map fun (i : Nat) => D.int (0 + (i : Int)))]) := by
    have c1 : (inR 0 && inR (k : Int) && decide (((k : Int) - 0).toNat ≤ lineN)) = true := by
      have a : inR (0 : Int) = true := by decide +kernel
      have b : inR (k : Int) = true := by
        unfold inR
        rw [Bool.and_eq_true, decide_eq_true_eq, decide_eq_true_eq]
        omega
      rw [a, b, decide_eq_true (Nat.le_of_lt (lineBig (by omega)))]; rfl
    show (if inR 0 && inR (k : Int) && decide (((k : Int) - 0).toNat ≤ lineN) then new (.lst ((List.range ((k : Int) - 0).toNat).map fun (i : Nat) => .int (0 + (i : Int)))) S else .no) = _
    rw [if_pos c1, show ((k : Int) - 0).toNat = k by omega]; rfl
  rw [e, wp_ok]
  exact ⟨k, k4, rfl, rfl⟩
theorem all_true {S : Sto} {l : Nat} {X : List D} (h : S[l]? = some (.lst (X.map fun _ => D.bl true))) : fnE .all [.ref l] S = .ok (.bl true) S := by
  show (match (seqAt S l).bind boolsOf with
    | some bs => Res.ok (D.bl (bs.all id)) S
    | none => .no) = _
  rw [seq_c h]
  show (match boolsOf (X.map fun d => D.bl ((fun _ => true) d)) with
    | some bs => Res.ok (D.bl (bs.all id)) S
    | none => .no) = _
  rw [boolsOf_map]
  have : (X.map fun _ => true).all id = true := by simp
  show Res.ok (D.bl ((X.map fun _ => true).all id)) S = _
  rw [this]
theorem t_law {n : Nat} (hn : 16 ≤ n) {ns : List Int} (hl : ns.length ≤ 63) : wp ((P n).call 42 [.ref 0] [.frz (ns.map D.int)]) fun r S' => r = .bl true := by
  obtain ⟨m, rfl, hm⟩ := up hn
  rw [cP m 42 b42 rfl]
  refine wp_run rfl ?_
  show wp (evSs (P m) b42.body [some (.ref 0), none] [.frz (ns.map D.int)]) _
  have hs : Scr [.frz (ns.map D.int)] ns := rfl
  generalize ([.frz (ns.map D.int)] : Sto) = S at hs ⊢
  simp only [b42, wp_sC, wp_ret, wp_fn, wp_cons, wp_nil, wp_comp, wp_iv, wp_call, wp_var, wp_con, List.getElem?_cons_zero, List.getElem?_cons_succ, Option.some.injEq, exists_eq_left']
  refine wp_mono (t_laps (by omega) hs hl) fun r S1 ⟨k, k4, er, es⟩ => ?_
  subst er es
  refine ⟨_, src_new, ?_⟩
  have hs1 := hs.ext (.one (c := .lst ((List.range k).map fun (i : Nat) => D.int (0 + (i : Int)))))
  have sp : 0 < S.length := (List.getElem?_eq_some_iff.mp hs).1
  generalize hX : ((List.range k).map fun (i : Nat) => D.int (0 + (i : Int))) = X at hs1 ⊢
  have lX : X.length = k := by rw [← hX]; simp
  refine compN_wp X (fun i ys S' => S'[S.length]? = some (.lst X) ∧ S'[(S ++ [Mini.Cl.lst X]).length]? = some (.lst ys) ∧ ys = ((X.take i).map fun _ => D.bl true) ∧ Scr S' ns) (fun i ys S' h => srcR_of h.1) ?_ ?_ _ 0 [] _ (Nat.zero_le _) (by have := fuelBig (m := m) (n := X.length) (by omega); omega) ⟨by simp, at_new, rfl, hs1.ext .one⟩
  · rintro i ys S' d ⟨a1, a2, a3, a4⟩ hd
    have hi : i < k := by
      have := (List.getElem?_eq_some_iff.mp hd).1
      omega
    have ed : d = .int (0 + (i : Int)) := by
      rw [← hX, List.getElem?_map, List.getElem?_range hi] at hd
      exact (Option.some.inj hd).symm
    subst ed
    rw [wp_noex]
    simp only [wipeL, List.foldl_cons, List.foldl_nil]
    refine bodyC_pure ?_
    simp only [wp_call, wp_cons, wp_nil, wp_var, List.set_cons_succ, List.set_cons_zero, List.getElem?_cons_zero, List.getElem?_cons_succ, Option.some.injEq, exists_eq_left']
    refine wp_mono (t_spool (by omega) a4 (by omega) hl) fun r S2 ⟨c, er, w, lc, e2⟩ => ?_
    subst er
    refine wp_mono (t_right (by omega) w (by decide)) fun r S3 ⟨er, g3⟩ => ?_
    subst er
    have l2 : (S ++ [Mini.Cl.lst X]).length < S'.length := (List.getElem?_eq_some_iff.mp a2).1
    have l1 : S.length < S'.length := (List.getElem?_eq_some_iff.mp a1).1
    have b1 := g3.get S.length _ (by omega) (e2.get a1)
    have b2 := g3.get (S ++ [Mini.Cl.lst X]).length _ (by omega) (e2.get a2)
    have b4 := (a4.ext e2).chg g3 (by omega)
    have ly : ys.length ≤ 4 := by rw [a3, List.length_map, List.length_take]; omega
    refine ⟨lst_c b2, lineBig (by omega), ?_, at_set b2, ?_, ?_⟩
    · rw [List.getElem?_set_ne (by simp)]
      exact b1
    · rw [a3, List.take_add_one, hd]
      simp
    · unfold Scr
      rw [List.getElem?_set_ne (by simp)]
      exact b4
  · rintro ys S' ⟨a1, a2, a3, a4⟩
    rw [List.take_length] at a3
    subst a3
    rw [all_true a2, wp_ok, fl_rt, ed_rt]
end K34
namespace K34
open PySem PySem.Spec PyProof.Rows L2 Mini
def txtAt (i : Nat) : Stmt := PySem.Challenge.pw_shaftshakes_k34_whole_boxes_and_their_li.main.body.getD i (.Pass ⟨0, 0, 0, 0⟩)
def d0 : DefT := ⟨"is_whole", txtAt 6, ["value"], ["value"]⟩
def d1 : DefT := ⟨"are_wholes", txtAt 7, ["value", "size", "number"], ["value", "size"]⟩
def d2 : DefT := ⟨"is_fraction", txtAt 8, ["value"], ["value"]⟩
def d3 : DefT := ⟨"is_amount", txtAt 9, ["value"], ["value"]⟩
def d4 : DefT := ⟨"is_pace", txtAt 10, ["value"], ["value"]⟩
def d5 : DefT := ⟨"sign_of", txtAt 11, ["number"], ["number"]⟩
def d6 : DefT := ⟨"compare_fractions", txtAt 12, ["one", "two"], ["one", "two"]⟩
def d7 : DefT := ⟨"are_discs", txtAt 15, ["value", "disc"], ["value"]⟩
def d8 : DefT := ⟨"is_line", txtAt 16, ["value", "shafts", "shaft"], ["value"]⟩
def d9 : DefT := ⟨"check_line", txtAt 17, ["value"], ["value"]⟩
def d10 : DefT := ⟨"are_above", txtAt 19, ["row", "other", "one", "two"], ["row", "other"]⟩
def d11 : DefT := ⟨"is_slower", txtAt 20, ["line", "other"], ["line", "other"]⟩
def d12 : DefT := ⟨"is_box", txtAt 21, ["value"], ["value"]⟩
def d13 : DefT := ⟨"check_box", txtAt 22, ["value"], ["value"]⟩
def d14 : DefT := ⟨"is_in_box", txtAt 23, ["box", "line"], ["box", "line"]⟩
def d15 : DefT := ⟨"_law_spool", txtAt 25, ["_law_script", "_law_lap", "_law_blend", "_law_cell", "_law_great"], ["_law_script", "_law_lap"]⟩
def d16 : DefT := ⟨"_law_wind", txtAt 26, ["_law_spool_here", "_law_size", "_law_turn", "_law_found"], ["_law_spool_here", "_law_size"]⟩
def d17 : DefT := ⟨"_law_any", txtAt 27, ["_law_spool_here", "_law_some"], ["_law_spool_here", "_law_some"]⟩
def d18 : DefT := ⟨"_law_measure", txtAt 28, ["_law_one", "_law_two"], ["_law_one", "_law_two"]⟩
def d19 : DefT := ⟨"_law_frac", txtAt 29, ["_law_n", "_law_m", "_law_by"], ["_law_n", "_law_m"]⟩
def d20 : DefT := ⟨"_law_sum", txtAt 30, ["_law_one", "_law_two"], ["_law_one", "_law_two"]⟩
def d21 : DefT := ⟨"_law_gap", txtAt 31, ["_law_one", "_law_two"], ["_law_one", "_law_two"]⟩
def d22 : DefT := ⟨"_law_prod", txtAt 32, ["_law_one", "_law_two"], ["_law_one", "_law_two"]⟩
def d23 : DefT := ⟨"_law_side", txtAt 33, ["_law_number"], ["_law_number"]⟩
def d24 : DefT := ⟨"_law_beside", txtAt 34, ["_law_one", "_law_two"], ["_law_one", "_law_two"]⟩
def d25 : DefT := ⟨"_law_is_frac", txtAt 35, ["_law_told", "_law_each"], ["_law_told"]⟩
def d26 : DefT := ⟨"_law_amount", txtAt 36, ["_law_spool_here", "_law_wide"], ["_law_spool_here"]⟩
def d27 : DefT := ⟨"_law_end", txtAt 37, ["_law_spool_here"], ["_law_spool_here"]⟩
def d28 : DefT := ⟨"_law_line", txtAt 38, ["_law_spool_here", "_law_many", "_law_discs", "_law_shafts", "_law_at"], ["_law_spool_here"]⟩
def d29 : DefT := ⟨"_law_slots", txtAt 39, ["_law_line_here", "_law_many", "_law_at"], ["_law_line_here"]⟩
def d30 : DefT := ⟨"_law_put", txtAt 40, ["_law_line_here", "_law_slot", "_law_amount_here", "_law_discs", "_law_shafts"], ["_law_line_here", "_law_slot", "_law_amount_here"]⟩
def d31 : DefT := ⟨"_law_held", txtAt 41, ["_law_line_here", "_law_slot"], ["_law_line_here", "_law_slot"]⟩
def d32 : DefT := ⟨"_law_laps", txtAt 42, ["_law_script", "_law_most"], ["_law_script", "_law_most"]⟩
def d33 : DefT := ⟨"_law_pair_box", txtAt 43, ["_law_spool_here", "_law_fast", "_law_slot", "_law_slow", "_law_many", "_law_by", "_law_way", "_law_number"], ["_law_spool_here"]⟩
def d34 : DefT := ⟨"_law_within", txtAt 44, ["_law_spool_here", "_law_box", "_law_found", "_law_slot", "_law_part", "_law_low", "_law_high"], ["_law_spool_here", "_law_box"]⟩
def d35 : DefT := ⟨"_law_is_within", txtAt 45, ["_law_box", "_law_line_here", "_law_slot", "_law_here", "_law_low", "_law_high"], ["_law_box", "_law_line_here"]⟩
def d36 : DefT := ⟨"_law_is_line", txtAt 46, ["_law_value", "_law_many", "_law_each"], ["_law_value"]⟩
def d37 : DefT := ⟨"_law_is_box", txtAt 47, ["_law_value", "_law_slot", "_law_side_here"], ["_law_value"]⟩
def d38 : DefT := ⟨"_law_odd", txtAt 48, ["_law_spool_here", "_law_some"], ["_law_spool_here"]⟩
def d39 : DefT := ⟨"_law_warped", txtAt 49, ["_law_spool_here", "_law_good", "_law_thing", "_law_way", "_law_at"], ["_law_spool_here", "_law_good"]⟩
def d40 : DefT := ⟨"_law_beyond", txtAt 50, ["_law_spool_here", "_law_box", "_law_line_here", "_law_slot", "_law_number"], ["_law_spool_here", "_law_box", "_law_line_here"]⟩
def d41 : DefT := ⟨"_law_right", txtAt 51, ["_law_spool_here", "_law_box", "_law_line_here", "_law_each", "_law_some", "_law_due"], ["_law_spool_here"]⟩
def d42 : DefT := ⟨"law", txtAt 52, ["_law_script", "_law_lap"], ["_law_script"]⟩
def ds : List DefT := ([d0, d1, d2, d3, d4, d5, d6, d7, d8, d9, d10, d11, d12, d13, d14, d15, d16, d17, d18, d19] : List DefT) ++ ([d20, d21, d22, d23, d24, d25, d26, d27, d28, d29, d30, d31, d32, d33, d34, d35, d36, d37, d38, d39] : List DefT) ++ ([d40, d41, d42] : List DefT)
def tab : Tab := ⟨([("is_whole", 0), ("are_wholes", 1), ("is_fraction", 2), ("is_amount", 3), ("is_pace", 4), ("sign_of", 5), ("compare_fractions", 6), ("are_discs", 7), ("is_line", 8), ("check_line", 9), ("are_above", 10), ("is_slower", 11), ("is_box", 12), ("check_box", 13), ("is_in_box", 14), ("_law_spool", 15), ("_law_wind", 16), ("_law_any", 17), ("_law_measure", 18), ("_law_frac", 19)] : List (Str × Nat)) ++ ([("_law_sum", 20), ("_law_gap", 21), ("_law_prod", 22), ("_law_side", 23), ("_law_beside", 24), ("_law_is_frac", 25), ("_law_amount", 26), ("_law_end", 27), ("_law_line", 28), ("_law_slots", 29), ("_law_put", 30), ("_law_held", 31), ("_law_laps", 32), ("_law_pair_box", 33), ("_law_within", 34), ("_law_is_within", 35), ("_law_is_line", 36), ("_law_is_box", 37), ("_law_odd", 38), ("_law_warped", 39)] : List (Str × Nat)) ++ ([("_law_beyond", 40), ("_law_right", 41), ("law", 42)] : List (Str × Nat)), [(14, 0, ["line", "box"], [1, 0]), (12, 0, ["value"], [0])], [("MOST_DISCS", (.int 8))], ["abs", "all", "bool", "divmod", "int", "isinstance", "len", "list", "max", "min", "range", "repr", "tuple", "zip"], ["gcd"], [], []⟩
theorem tab_ok : tabB tab ds = true := by decide +kernel
section
variable {l : PySem.W.OpenLaw} {w : World} {K : PySem.W.Frag} {h : Heap} {mg : Str → Option Value} {fa : Addr} {f0 f1 f2 f3 f4 f5 f6 f7 f8 f9 f10 f11 f12 f13 f14 f15 f16 f17 f18 f19 f20 f21 f22 f23 f24 f25 f26 f27 f28 f29 f30 f31 f32 f33 f34 f35 f36 f37 f38 f39 f40 f41 f42 : Addr} {od0 an0 od1 an1 od2 an2 od3 an3 od4 an4 od5 an5 od6 an6 od7 an7 od8 an8 od9 an9 od10 an10 od11 an11 od12 an12 od13 an13 od14 an14 od15 an15 od16 an16 od17 an17 od18 an18 od19 an19 od20 an20 od21 an21 od22 an22 od23 an23 od24 an24 od25 an25 od26 an26 od27 an27 od28 an28 od29 an29 od30 an30 od31 an31 od32 an32 od33 an33 od34 an34 od35 an35 od36 an36 od37 an37 od38 an38 od39 an39 od40 an40 od41 an41 od42 an42 : Option Addr} {sl0 sl1 sl2 sl3 sl4 sl5 sl6 sl7 sl8 sl9 sl10 sl11 sl12 sl13 sl14 sl15 sl16 sl17 sl18 sl19 sl20 sl21 sl22 sl23 sl24 sl25 sl26 sl27 sl28 sl29 sl30 sl31 sl32 sl33 sl34 sl35 sl36 sl37 sl38 sl39 sl40 sl41 sl42 : Array (Option Value)} {oc0 kV0 dc0 pm0 cd0 ct0 oc1 kV1 dc1 pm1 cd1 ct1 oc2 kV2 dc2 pm2 cd2 ct2 oc3 kV3 dc3 pm3 cd3 ct3 oc4 kV4 dc4 pm4 cd4 ct4 oc5 kV5 dc5 pm5 cd5 ct5 oc6 kV6 dc6 pm6 cd6 ct6 oc7 kV7 dc7 pm7 cd7 ct7 oc8 kV8 dc8 pm8 cd8 ct8 oc9 kV9 dc9 pm9 cd9 ct9 oc10 kV10 dc10 pm10 cd10 ct10 oc11 kV11 dc11 pm11 cd11 ct11 oc12 kV12 dc12 pm12 cd12 ct12 oc13 kV13 dc13 pm13 cd13 ct13 oc14 kV14 dc14 pm14 cd14 ct14 oc15 kV15 dc15 pm15 cd15 ct15 oc16 kV16 dc16 pm16 cd16 ct16 oc17 kV17 dc17 pm17 cd17 ct17 oc18 kV18 dc18 pm18 cd18 ct18 oc19 kV19 dc19 pm19 cd19 ct19 oc20 kV20 dc20 pm20 cd20 ct20 oc21 kV21 dc21 pm21 cd21 ct21 oc22 kV22 dc22 pm22 cd22 ct22 oc23 kV23 dc23 pm23 cd23 ct23 oc24 kV24 dc24 pm24 cd24 ct24 oc25 kV25 dc25 pm25 cd25 ct25 oc26 kV26 dc26 pm26 cd26 ct26 oc27 kV27 dc27 pm27 cd27 ct27 oc28 kV28 dc28 pm28 cd28 ct28 oc29 kV29 dc29 pm29 cd29 ct29 oc30 kV30 dc30 pm30 cd30 ct30 oc31 kV31 dc31 pm31 cd31 ct31 oc32 kV32 dc32 pm32 cd32 ct32 oc33 kV33 dc33 pm33 cd33 ct33 oc34 kV34 dc34 pm34 cd34 ct34 oc35 kV35 dc35 pm35 cd35 ct35 oc36 kV36 dc36 pm36 cd36 ct36 oc37 kV37 dc37 pm37 cd37 ct37 oc38 kV38 dc38 pm38 cd38 ct38 oc39 kV39 dc39 pm39 cd39 ct39 oc40 kV40 dc40 pm40 cd40 ct40 oc41 kV41 dc41 pm41 cd41 ct41 oc42 kV42 dc42 pm42 cd42 ct42 : Value}
variable {t0 : Tok}
theorem all_mk (X : K.In h) (E : h.Ns mainGlobals mg) (hfa : mg "law" = some (.ref fa))
    (a0 : PySem.W.nsIn K mainGlobals "is_whole" = some (some (.ref f0)))
    (l0 : K.lookup f0 = some ⟨oc0, od0, .func (PySem.W.fnOf "is_whole" "is_whole" (defArgs d0.st) (defBody d0.st) (defScope d0.st) .none kV0 dc0 pm0 an0 cd0 ct0), sl0⟩)
    (c0 : PySem.W.codeIn K cd0 "is_whole" = true)
    (k0 : PySem.W.keepIn K (.ref f0) = true)
    (a1 : PySem.W.nsIn K mainGlobals "are_wholes" = some (some (.ref f1)))
    (l1 : K.lookup f1 = some ⟨oc1, od1, .func (PySem.W.fnOf "are_wholes" "are_wholes" (defArgs d1.st) (defBody d1.st) (defScope d1.st) .none kV1 dc1 pm1 an1 cd1 ct1), sl1⟩)
    (c1 : PySem.W.codeIn K cd1 "are_wholes" = true)
    (k1 : PySem.W.keepIn K (.ref f1) = true)
    (a2 : PySem.W.nsIn K mainGlobals "is_fraction" = some (some (.ref f2)))
    (l2 : K.lookup f2 = some ⟨oc2, od2, .func (PySem.W.fnOf "is_fraction" "is_fraction" (defArgs d2.st) (defBody d2.st) (defScope d2.st) .none kV2 dc2 pm2 an2 cd2 ct2), sl2⟩)
    (c2 : PySem.W.codeIn K cd2 "is_fraction" = true)
    (k2 : PySem.W.keepIn K (.ref f2) = true)
    (a3 : PySem.W.nsIn K mainGlobals "is_amount" = some (some (.ref f3)))
    (l3 : K.lookup f3 = some ⟨oc3, od3, .func (PySem.W.fnOf "is_amount" "is_amount" (defArgs d3.st) (defBody d3.st) (defScope d3.st) .none kV3 dc3 pm3 an3 cd3 ct3), sl3⟩)
    (c3 : PySem.W.codeIn K cd3 "is_amount" = true)
    (k3 : PySem.W.keepIn K (.ref f3) = true)
    (a4 : PySem.W.nsIn K mainGlobals "is_pace" = some (some (.ref f4)))
    (l4 : K.lookup f4 = some ⟨oc4, od4, .func (PySem.W.fnOf "is_pace" "is_pace" (defArgs d4.st) (defBody d4.st) (defScope d4.st) .none kV4 dc4 pm4 an4 cd4 ct4), sl4⟩)
    (c4 : PySem.W.codeIn K cd4 "is_pace" = true)
    (k4 : PySem.W.keepIn K (.ref f4) = true)
    (a5 : PySem.W.nsIn K mainGlobals "sign_of" = some (some (.ref f5)))
    (l5 : K.lookup f5 = some ⟨oc5, od5, .func (PySem.W.fnOf "sign_of" "sign_of" (defArgs d5.st) (defBody d5.st) (defScope d5.st) .none kV5 dc5 pm5 an5 cd5 ct5), sl5⟩)
    (c5 : PySem.W.codeIn K cd5 "sign_of" = true)
    (k5 : PySem.W.keepIn K (.ref f5) = true)
    (a6 : PySem.W.nsIn K mainGlobals "compare_fractions" = some (some (.ref f6)))
    (l6 : K.lookup f6 = some ⟨oc6, od6, .func (PySem.W.fnOf "compare_fractions" "compare_fractions" (defArgs d6.st) (defBody d6.st) (defScope d6.st) .none kV6 dc6 pm6 an6 cd6 ct6), sl6⟩)
    (c6 : PySem.W.codeIn K cd6 "compare_fractions" = true)
    (k6 : PySem.W.keepIn K (.ref f6) = true)
    (a7 : PySem.W.nsIn K mainGlobals "are_discs" = some (some (.ref f7)))
    (l7 : K.lookup f7 = some ⟨oc7, od7, .func (PySem.W.fnOf "are_discs" "are_discs" (defArgs d7.st) (defBody d7.st) (defScope d7.st) .none kV7 dc7 pm7 an7 cd7 ct7), sl7⟩)
    (c7 : PySem.W.codeIn K cd7 "are_discs" = true)
    (k7 : PySem.W.keepIn K (.ref f7) = true)
    (a8 : PySem.W.nsIn K mainGlobals "is_line" = some (some (.ref f8)))
    (l8 : K.lookup f8 = some ⟨oc8, od8, .func (PySem.W.fnOf "is_line" "is_line" (defArgs d8.st) (defBody d8.st) (defScope d8.st) .none kV8 dc8 pm8 an8 cd8 ct8), sl8⟩)
    (c8 : PySem.W.codeIn K cd8 "is_line" = true)
    (k8 : PySem.W.keepIn K (.ref f8) = true)
    (a9 : PySem.W.nsIn K mainGlobals "check_line" = some (some (.ref f9)))
    (l9 : K.lookup f9 = some ⟨oc9, od9, .func (PySem.W.fnOf "check_line" "check_line" (defArgs d9.st) (defBody d9.st) (defScope d9.st) .none kV9 dc9 pm9 an9 cd9 ct9), sl9⟩)
    (c9 : PySem.W.codeIn K cd9 "check_line" = true)
    (k9 : PySem.W.keepIn K (.ref f9) = true)
    (a10 : PySem.W.nsIn K mainGlobals "are_above" = some (some (.ref f10)))
    (l10 : K.lookup f10 = some ⟨oc10, od10, .func (PySem.W.fnOf "are_above" "are_above" (defArgs d10.st) (defBody d10.st) (defScope d10.st) .none kV10 dc10 pm10 an10 cd10 ct10), sl10⟩)
    (c10 : PySem.W.codeIn K cd10 "are_above" = true)
    (k10 : PySem.W.keepIn K (.ref f10) = true)
    (a11 : PySem.W.nsIn K mainGlobals "is_slower" = some (some (.ref f11)))
    (l11 : K.lookup f11 = some ⟨oc11, od11, .func (PySem.W.fnOf "is_slower" "is_slower" (defArgs d11.st) (defBody d11.st) (defScope d11.st) .none kV11 dc11 pm11 an11 cd11 ct11), sl11⟩)
    (c11 : PySem.W.codeIn K cd11 "is_slower" = true)
    (k11 : PySem.W.keepIn K (.ref f11) = true)
    (a12 : PySem.W.nsIn K mainGlobals "is_box" = some (some (.ref f12)))
    (l12 : K.lookup f12 = some ⟨oc12, od12, .func (PySem.W.fnOf "is_box" "is_box" (defArgs d12.st) (defBody d12.st) (defScope d12.st) .none kV12 dc12 pm12 an12 cd12 ct12), sl12⟩)
    (c12 : PySem.W.codeIn K cd12 "is_box" = true)
    (k12 : PySem.W.keepIn K (.ref f12) = true)
    (a13 : PySem.W.nsIn K mainGlobals "check_box" = some (some (.ref f13)))
    (l13 : K.lookup f13 = some ⟨oc13, od13, .func (PySem.W.fnOf "check_box" "check_box" (defArgs d13.st) (defBody d13.st) (defScope d13.st) .none kV13 dc13 pm13 an13 cd13 ct13), sl13⟩)
    (c13 : PySem.W.codeIn K cd13 "check_box" = true)
    (k13 : PySem.W.keepIn K (.ref f13) = true)
    (a14 : PySem.W.nsIn K mainGlobals "is_in_box" = some (some (.ref f14)))
    (l14 : K.lookup f14 = some ⟨oc14, od14, .func (PySem.W.fnOf "is_in_box" "is_in_box" (defArgs d14.st) (defBody d14.st) (defScope d14.st) .none kV14 dc14 pm14 an14 cd14 ct14), sl14⟩)
    (c14 : PySem.W.codeIn K cd14 "is_in_box" = true)
    (k14 : PySem.W.keepIn K (.ref f14) = true)
    (a15 : PySem.W.nsIn K mainGlobals "_law_spool" = some (some (.ref f15)))
    (l15 : K.lookup f15 = some ⟨oc15, od15, .func (PySem.W.fnOf "_law_spool" "_law_spool" (defArgs d15.st) (defBody d15.st) (defScope d15.st) .none kV15 dc15 pm15 an15 cd15 ct15), sl15⟩)
    (c15 : PySem.W.codeIn K cd15 "_law_spool" = true)
    (k15 : PySem.W.keepIn K (.ref f15) = true)
    (a16 : PySem.W.nsIn K mainGlobals "_law_wind" = some (some (.ref f16)))
    (l16 : K.lookup f16 = some ⟨oc16, od16, .func (PySem.W.fnOf "_law_wind" "_law_wind" (defArgs d16.st) (defBody d16.st) (defScope d16.st) .none kV16 dc16 pm16 an16 cd16 ct16), sl16⟩)
    (c16 : PySem.W.codeIn K cd16 "_law_wind" = true)
    (k16 : PySem.W.keepIn K (.ref f16) = true)
    (a17 : PySem.W.nsIn K mainGlobals "_law_any" = some (some (.ref f17)))
    (l17 : K.lookup f17 = some ⟨oc17, od17, .func (PySem.W.fnOf "_law_any" "_law_any" (defArgs d17.st) (defBody d17.st) (defScope d17.st) .none kV17 dc17 pm17 an17 cd17 ct17), sl17⟩)
    (c17 : PySem.W.codeIn K cd17 "_law_any" = true)
    (k17 : PySem.W.keepIn K (.ref f17) = true)
    (a18 : PySem.W.nsIn K mainGlobals "_law_measure" = some (some (.ref f18)))
    (l18 : K.lookup f18 = some ⟨oc18, od18, .func (PySem.W.fnOf "_law_measure" "_law_measure" (defArgs d18.st) (defBody d18.st) (defScope d18.st) .none kV18 dc18 pm18 an18 cd18 ct18), sl18⟩)
    (c18 : PySem.W.codeIn K cd18 "_law_measure" = true)
    (k18 : PySem.W.keepIn K (.ref f18) = true)
    (a19 : PySem.W.nsIn K mainGlobals "_law_frac" = some (some (.ref f19)))
    (l19 : K.lookup f19 = some ⟨oc19, od19, .func (PySem.W.fnOf "_law_frac" "_law_frac" (defArgs d19.st) (defBody d19.st) (defScope d19.st) .none kV19 dc19 pm19 an19 cd19 ct19), sl19⟩)
    (c19 : PySem.W.codeIn K cd19 "_law_frac" = true)
    (k19 : PySem.W.keepIn K (.ref f19) = true)
    (a20 : PySem.W.nsIn K mainGlobals "_law_sum" = some (some (.ref f20)))
    (l20 : K.lookup f20 = some ⟨oc20, od20, .func (PySem.W.fnOf "_law_sum" "_law_sum" (defArgs d20.st) (defBody d20.st) (defScope d20.st) .none kV20 dc20 pm20 an20 cd20 ct20), sl20⟩)
    (c20 : PySem.W.codeIn K cd20 "_law_sum" = true)
    (k20 : PySem.W.keepIn K (.ref f20) = true)
    (a21 : PySem.W.nsIn K mainGlobals "_law_gap" = some (some (.ref f21)))
    (l21 : K.lookup f21 = some ⟨oc21, od21, .func (PySem.W.fnOf "_law_gap" "_law_gap" (defArgs d21.st) (defBody d21.st) (defScope d21.st) .none kV21 dc21 pm21 an21 cd21 ct21), sl21⟩)
    (c21 : PySem.W.codeIn K cd21 "_law_gap" = true)
    (k21 : PySem.W.keepIn K (.ref f21) = true)
    (a22 : PySem.W.nsIn K mainGlobals "_law_prod" = some (some (.ref f22)))
    (l22 : K.lookup f22 = some ⟨oc22, od22, .func (PySem.W.fnOf "_law_prod" "_law_prod" (defArgs d22.st) (defBody d22.st) (defScope d22.st) .none kV22 dc22 pm22 an22 cd22 ct22), sl22⟩)
    (c22 : PySem.W.codeIn K cd22 "_law_prod" = true)
    (k22 : PySem.W.keepIn K (.ref f22) = true)
    (a23 : PySem.W.nsIn K mainGlobals "_law_side" = some (some (.ref f23)))
    (l23 : K.lookup f23 = some ⟨oc23, od23, .func (PySem.W.fnOf "_law_side" "_law_side" (defArgs d23.st) (defBody d23.st) (defScope d23.st) .none kV23 dc23 pm23 an23 cd23 ct23), sl23⟩)
    (c23 : PySem.W.codeIn K cd23 "_law_side" = true)
    (k23 : PySem.W.keepIn K (.ref f23) = true)
    (a24 : PySem.W.nsIn K mainGlobals "_law_beside" = some (some (.ref f24)))
    (l24 : K.lookup f24 = some ⟨oc24, od24, .func (PySem.W.fnOf "_law_beside" "_law_beside" (defArgs d24.st) (defBody d24.st) (defScope d24.st) .none kV24 dc24 pm24 an24 cd24 ct24), sl24⟩)
    (c24 : PySem.W.codeIn K cd24 "_law_beside" = true)
    (k24 : PySem.W.keepIn K (.ref f24) = true)
    (a25 : PySem.W.nsIn K mainGlobals "_law_is_frac" = some (some (.ref f25)))
    (l25 : K.lookup f25 = some ⟨oc25, od25, .func (PySem.W.fnOf "_law_is_frac" "_law_is_frac" (defArgs d25.st) (defBody d25.st) (defScope d25.st) .none kV25 dc25 pm25 an25 cd25 ct25), sl25⟩)
    (c25 : PySem.W.codeIn K cd25 "_law_is_frac" = true)
    (k25 : PySem.W.keepIn K (.ref f25) = true)
    (a26 : PySem.W.nsIn K mainGlobals "_law_amount" = some (some (.ref f26)))
    (l26 : K.lookup f26 = some ⟨oc26, od26, .func (PySem.W.fnOf "_law_amount" "_law_amount" (defArgs d26.st) (defBody d26.st) (defScope d26.st) .none kV26 dc26 pm26 an26 cd26 ct26), sl26⟩)
    (c26 : PySem.W.codeIn K cd26 "_law_amount" = true)
    (k26 : PySem.W.keepIn K (.ref f26) = true)
    (a27 : PySem.W.nsIn K mainGlobals "_law_end" = some (some (.ref f27)))
    (l27 : K.lookup f27 = some ⟨oc27, od27, .func (PySem.W.fnOf "_law_end" "_law_end" (defArgs d27.st) (defBody d27.st) (defScope d27.st) .none kV27 dc27 pm27 an27 cd27 ct27), sl27⟩)
    (c27 : PySem.W.codeIn K cd27 "_law_end" = true)
    (k27 : PySem.W.keepIn K (.ref f27) = true)
    (a28 : PySem.W.nsIn K mainGlobals "_law_line" = some (some (.ref f28)))
    (l28 : K.lookup f28 = some ⟨oc28, od28, .func (PySem.W.fnOf "_law_line" "_law_line" (defArgs d28.st) (defBody d28.st) (defScope d28.st) .none kV28 dc28 pm28 an28 cd28 ct28), sl28⟩)
    (c28 : PySem.W.codeIn K cd28 "_law_line" = true)
    (k28 : PySem.W.keepIn K (.ref f28) = true)
    (a29 : PySem.W.nsIn K mainGlobals "_law_slots" = some (some (.ref f29)))
    (l29 : K.lookup f29 = some ⟨oc29, od29, .func (PySem.W.fnOf "_law_slots" "_law_slots" (defArgs d29.st) (defBody d29.st) (defScope d29.st) .none kV29 dc29 pm29 an29 cd29 ct29), sl29⟩)
    (c29 : PySem.W.codeIn K cd29 "_law_slots" = true)
    (k29 : PySem.W.keepIn K (.ref f29) = true)
    (a30 : PySem.W.nsIn K mainGlobals "_law_put" = some (some (.ref f30)))
    (l30 : K.lookup f30 = some ⟨oc30, od30, .func (PySem.W.fnOf "_law_put" "_law_put" (defArgs d30.st) (defBody d30.st) (defScope d30.st) .none kV30 dc30 pm30 an30 cd30 ct30), sl30⟩)
    (c30 : PySem.W.codeIn K cd30 "_law_put" = true)
    (k30 : PySem.W.keepIn K (.ref f30) = true)
    (a31 : PySem.W.nsIn K mainGlobals "_law_held" = some (some (.ref f31)))
    (l31 : K.lookup f31 = some ⟨oc31, od31, .func (PySem.W.fnOf "_law_held" "_law_held" (defArgs d31.st) (defBody d31.st) (defScope d31.st) .none kV31 dc31 pm31 an31 cd31 ct31), sl31⟩)
    (c31 : PySem.W.codeIn K cd31 "_law_held" = true)
    (k31 : PySem.W.keepIn K (.ref f31) = true)
    (a32 : PySem.W.nsIn K mainGlobals "_law_laps" = some (some (.ref f32)))
    (l32 : K.lookup f32 = some ⟨oc32, od32, .func (PySem.W.fnOf "_law_laps" "_law_laps" (defArgs d32.st) (defBody d32.st) (defScope d32.st) .none kV32 dc32 pm32 an32 cd32 ct32), sl32⟩)
    (c32 : PySem.W.codeIn K cd32 "_law_laps" = true)
    (k32 : PySem.W.keepIn K (.ref f32) = true)
    (a33 : PySem.W.nsIn K mainGlobals "_law_pair_box" = some (some (.ref f33)))
    (l33 : K.lookup f33 = some ⟨oc33, od33, .func (PySem.W.fnOf "_law_pair_box" "_law_pair_box" (defArgs d33.st) (defBody d33.st) (defScope d33.st) .none kV33 dc33 pm33 an33 cd33 ct33), sl33⟩)
    (c33 : PySem.W.codeIn K cd33 "_law_pair_box" = true)
    (k33 : PySem.W.keepIn K (.ref f33) = true)
    (a34 : PySem.W.nsIn K mainGlobals "_law_within" = some (some (.ref f34)))
    (l34 : K.lookup f34 = some ⟨oc34, od34, .func (PySem.W.fnOf "_law_within" "_law_within" (defArgs d34.st) (defBody d34.st) (defScope d34.st) .none kV34 dc34 pm34 an34 cd34 ct34), sl34⟩)
    (c34 : PySem.W.codeIn K cd34 "_law_within" = true)
    (k34 : PySem.W.keepIn K (.ref f34) = true)
    (a35 : PySem.W.nsIn K mainGlobals "_law_is_within" = some (some (.ref f35)))
    (l35 : K.lookup f35 = some ⟨oc35, od35, .func (PySem.W.fnOf "_law_is_within" "_law_is_within" (defArgs d35.st) (defBody d35.st) (defScope d35.st) .none kV35 dc35 pm35 an35 cd35 ct35), sl35⟩)
    (c35 : PySem.W.codeIn K cd35 "_law_is_within" = true)
    (k35 : PySem.W.keepIn K (.ref f35) = true)
    (a36 : PySem.W.nsIn K mainGlobals "_law_is_line" = some (some (.ref f36)))
    (l36 : K.lookup f36 = some ⟨oc36, od36, .func (PySem.W.fnOf "_law_is_line" "_law_is_line" (defArgs d36.st) (defBody d36.st) (defScope d36.st) .none kV36 dc36 pm36 an36 cd36 ct36), sl36⟩)
    (c36 : PySem.W.codeIn K cd36 "_law_is_line" = true)
    (k36 : PySem.W.keepIn K (.ref f36) = true)
    (a37 : PySem.W.nsIn K mainGlobals "_law_is_box" = some (some (.ref f37)))
    (l37 : K.lookup f37 = some ⟨oc37, od37, .func (PySem.W.fnOf "_law_is_box" "_law_is_box" (defArgs d37.st) (defBody d37.st) (defScope d37.st) .none kV37 dc37 pm37 an37 cd37 ct37), sl37⟩)
    (c37 : PySem.W.codeIn K cd37 "_law_is_box" = true)
    (k37 : PySem.W.keepIn K (.ref f37) = true)
    (a38 : PySem.W.nsIn K mainGlobals "_law_odd" = some (some (.ref f38)))
    (l38 : K.lookup f38 = some ⟨oc38, od38, .func (PySem.W.fnOf "_law_odd" "_law_odd" (defArgs d38.st) (defBody d38.st) (defScope d38.st) .none kV38 dc38 pm38 an38 cd38 ct38), sl38⟩)
    (c38 : PySem.W.codeIn K cd38 "_law_odd" = true)
    (k38 : PySem.W.keepIn K (.ref f38) = true)
    (a39 : PySem.W.nsIn K mainGlobals "_law_warped" = some (some (.ref f39)))
    (l39 : K.lookup f39 = some ⟨oc39, od39, .func (PySem.W.fnOf "_law_warped" "_law_warped" (defArgs d39.st) (defBody d39.st) (defScope d39.st) .none kV39 dc39 pm39 an39 cd39 ct39), sl39⟩)
    (c39 : PySem.W.codeIn K cd39 "_law_warped" = true)
    (k39 : PySem.W.keepIn K (.ref f39) = true)
    (a40 : PySem.W.nsIn K mainGlobals "_law_beyond" = some (some (.ref f40)))
    (l40 : K.lookup f40 = some ⟨oc40, od40, .func (PySem.W.fnOf "_law_beyond" "_law_beyond" (defArgs d40.st) (defBody d40.st) (defScope d40.st) .none kV40 dc40 pm40 an40 cd40 ct40), sl40⟩)
    (c40 : PySem.W.codeIn K cd40 "_law_beyond" = true)
    (k40 : PySem.W.keepIn K (.ref f40) = true)
    (a41 : PySem.W.nsIn K mainGlobals "_law_right" = some (some (.ref f41)))
    (l41 : K.lookup f41 = some ⟨oc41, od41, .func (PySem.W.fnOf "_law_right" "_law_right" (defArgs d41.st) (defBody d41.st) (defScope d41.st) .none kV41 dc41 pm41 an41 cd41 ct41), sl41⟩)
    (c41 : PySem.W.codeIn K cd41 "_law_right" = true)
    (k41 : PySem.W.keepIn K (.ref f41) = true)
    (a42 : PySem.W.nsIn K mainGlobals "law" = some (some (.ref f42)))
    (l42 : K.lookup f42 = some ⟨oc42, od42, .func (PySem.W.fnOf "law" "law" (defArgs d42.st) (defBody d42.st) (defScope d42.st) .none kV42 dc42 pm42 an42 cd42 ct42), sl42⟩)
    (c42 : PySem.W.codeIn K cd42 "law" = true)
    (k42 : PySem.W.keepIn K (.ref f42) = true)
    (z0 : PySem.W.nsIn K mainGlobals "abs" = some none)
    (z1 : PySem.W.nsIn K mainGlobals "all" = some none)
    (z2 : PySem.W.nsIn K mainGlobals "bool" = some none)
    (z3 : PySem.W.nsIn K mainGlobals "divmod" = some none)
    (z4 : PySem.W.nsIn K mainGlobals "int" = some none)
    (z5 : PySem.W.nsIn K mainGlobals "isinstance" = some none)
    (z6 : PySem.W.nsIn K mainGlobals "len" = some none)
    (z7 : PySem.W.nsIn K mainGlobals "list" = some none)
    (z8 : PySem.W.nsIn K mainGlobals "max" = some none)
    (z9 : PySem.W.nsIn K mainGlobals "min" = some none)
    (z10 : PySem.W.nsIn K mainGlobals "range" = some none)
    (z11 : PySem.W.nsIn K mainGlobals "repr" = some none)
    (z12 : PySem.W.nsIn K mainGlobals "tuple" = some none)
    (z13 : PySem.W.nsIn K mainGlobals "zip" = some none)
    (gq0 : PySem.W.nsIn K mainGlobals "gcd" = some (some (.builtin "math.gcd")))
    (m0 : PySem.W.nsIn K mainGlobals "MOST_DISCS" = some (some (.int 8 t0)))
    : ∃ (G : Gx) (fd : FuncData), G.K = K ∧ (∀ (s : Shared) (v : Value), BindsTo s fd ⟨[v], []⟩ [("_law_script", v)]) ∧ ∀ base : Heap, K.In base → base.Ns mainGlobals mg → FnG l.prog w K mg base 32 fa fd ["_law_script"] (spD G ((pgN (txt tab ds) fuelN 16).call 42)) := by
  have e := hfa.symm.trans (PySem.W.mg_of X E a42)
  cases e
  have F0 := fun_mk (st := d0.st) l0 c0 k0
  have b0 := F0.binds (ps := ["value"]) fun _ _ _ _ _ _ us hl => match us, hl with | [_], _ => rfl
  have F1 := fun_mk (st := d1.st) l1 c1 k1
  have b1 := F1.binds (ps := ["value", "size"]) fun _ _ _ _ _ _ us hl => match us, hl with | [_, _], _ => rfl
  have F2 := fun_mk (st := d2.st) l2 c2 k2
  have b2 := F2.binds (ps := ["value"]) fun _ _ _ _ _ _ us hl => match us, hl with | [_], _ => rfl
  have F3 := fun_mk (st := d3.st) l3 c3 k3
  have b3 := F3.binds (ps := ["value"]) fun _ _ _ _ _ _ us hl => match us, hl with | [_], _ => rfl
  have F4 := fun_mk (st := d4.st) l4 c4 k4
  have b4 := F4.binds (ps := ["value"]) fun _ _ _ _ _ _ us hl => match us, hl with | [_], _ => rfl
  have F5 := fun_mk (st := d5.st) l5 c5 k5
  have b5 := F5.binds (ps := ["number"]) fun _ _ _ _ _ _ us hl => match us, hl with | [_], _ => rfl
  have F6 := fun_mk (st := d6.st) l6 c6 k6
  have b6 := F6.binds (ps := ["one", "two"]) fun _ _ _ _ _ _ us hl => match us, hl with | [_, _], _ => rfl
  have F7 := fun_mk (st := d7.st) l7 c7 k7
  have b7 := F7.binds (ps := ["value"]) fun _ _ _ _ _ _ us hl => match us, hl with | [_], _ => rfl
  have F8 := fun_mk (st := d8.st) l8 c8 k8
  have b8 := F8.binds (ps := ["value"]) fun _ _ _ _ _ _ us hl => match us, hl with | [_], _ => rfl
  have F9 := fun_mk (st := d9.st) l9 c9 k9
  have b9 := F9.binds (ps := ["value"]) fun _ _ _ _ _ _ us hl => match us, hl with | [_], _ => rfl
  have F10 := fun_mk (st := d10.st) l10 c10 k10
  have b10 := F10.binds (ps := ["row", "other"]) fun _ _ _ _ _ _ us hl => match us, hl with | [_, _], _ => rfl
  have F11 := fun_mk (st := d11.st) l11 c11 k11
  have b11 := F11.binds (ps := ["line", "other"]) fun _ _ _ _ _ _ us hl => match us, hl with | [_, _], _ => rfl
  have F12 := fun_mk (st := d12.st) l12 c12 k12
  have b12 := F12.binds (ps := ["value"]) fun _ _ _ _ _ _ us hl => match us, hl with | [_], _ => rfl
  have F13 := fun_mk (st := d13.st) l13 c13 k13
  have b13 := F13.binds (ps := ["value"]) fun _ _ _ _ _ _ us hl => match us, hl with | [_], _ => rfl
  have F14 := fun_mk (st := d14.st) l14 c14 k14
  have b14 := F14.binds (ps := ["box", "line"]) fun _ _ _ _ _ _ us hl => match us, hl with | [_, _], _ => rfl
  have F15 := fun_mk (st := d15.st) l15 c15 k15
  have b15 := F15.binds (ps := ["_law_script", "_law_lap"]) fun _ _ _ _ _ _ us hl => match us, hl with | [_, _], _ => rfl
  have F16 := fun_mk (st := d16.st) l16 c16 k16
  have b16 := F16.binds (ps := ["_law_spool_here", "_law_size"]) fun _ _ _ _ _ _ us hl => match us, hl with | [_, _], _ => rfl
  have F17 := fun_mk (st := d17.st) l17 c17 k17
  have b17 := F17.binds (ps := ["_law_spool_here", "_law_some"]) fun _ _ _ _ _ _ us hl => match us, hl with | [_, _], _ => rfl
  have F18 := fun_mk (st := d18.st) l18 c18 k18
  have b18 := F18.binds (ps := ["_law_one", "_law_two"]) fun _ _ _ _ _ _ us hl => match us, hl with | [_, _], _ => rfl
  have F19 := fun_mk (st := d19.st) l19 c19 k19
  have b19 := F19.binds (ps := ["_law_n", "_law_m"]) fun _ _ _ _ _ _ us hl => match us, hl with | [_, _], _ => rfl
  have F20 := fun_mk (st := d20.st) l20 c20 k20
  have b20 := F20.binds (ps := ["_law_one", "_law_two"]) fun _ _ _ _ _ _ us hl => match us, hl with | [_, _], _ => rfl
  have F21 := fun_mk (st := d21.st) l21 c21 k21
  have b21 := F21.binds (ps := ["_law_one", "_law_two"]) fun _ _ _ _ _ _ us hl => match us, hl with | [_, _], _ => rfl
  have F22 := fun_mk (st := d22.st) l22 c22 k22
  have b22 := F22.binds (ps := ["_law_one", "_law_two"]) fun _ _ _ _ _ _ us hl => match us, hl with | [_, _], _ => rfl
  have F23 := fun_mk (st := d23.st) l23 c23 k23
  have b23 := F23.binds (ps := ["_law_number"]) fun _ _ _ _ _ _ us hl => match us, hl with | [_], _ => rfl
  have F24 := fun_mk (st := d24.st) l24 c24 k24
  have b24 := F24.binds (ps := ["_law_one", "_law_two"]) fun _ _ _ _ _ _ us hl => match us, hl with | [_, _], _ => rfl
  have F25 := fun_mk (st := d25.st) l25 c25 k25
  have b25 := F25.binds (ps := ["_law_told"]) fun _ _ _ _ _ _ us hl => match us, hl with | [_], _ => rfl
  have F26 := fun_mk (st := d26.st) l26 c26 k26
  have b26 := F26.binds (ps := ["_law_spool_here"]) fun _ _ _ _ _ _ us hl => match us, hl with | [_], _ => rfl
  have F27 := fun_mk (st := d27.st) l27 c27 k27
  have b27 := F27.binds (ps := ["_law_spool_here"]) fun _ _ _ _ _ _ us hl => match us, hl with | [_], _ => rfl
  have F28 := fun_mk (st := d28.st) l28 c28 k28
  have b28 := F28.binds (ps := ["_law_spool_here"]) fun _ _ _ _ _ _ us hl => match us, hl with | [_], _ => rfl
  have F29 := fun_mk (st := d29.st) l29 c29 k29
  have b29 := F29.binds (ps := ["_law_line_here"]) fun _ _ _ _ _ _ us hl => match us, hl with | [_], _ => rfl
  have F30 := fun_mk (st := d30.st) l30 c30 k30
  have b30 := F30.binds (ps := ["_law_line_here", "_law_slot", "_law_amount_here"]) fun _ _ _ _ _ _ us hl => match us, hl with | [_, _, _], _ => rfl
  have F31 := fun_mk (st := d31.st) l31 c31 k31
  have b31 := F31.binds (ps := ["_law_line_here", "_law_slot"]) fun _ _ _ _ _ _ us hl => match us, hl with | [_, _], _ => rfl
  have F32 := fun_mk (st := d32.st) l32 c32 k32
  have b32 := F32.binds (ps := ["_law_script", "_law_most"]) fun _ _ _ _ _ _ us hl => match us, hl with | [_, _], _ => rfl
  have F33 := fun_mk (st := d33.st) l33 c33 k33
  have b33 := F33.binds (ps := ["_law_spool_here"]) fun _ _ _ _ _ _ us hl => match us, hl with | [_], _ => rfl
  have F34 := fun_mk (st := d34.st) l34 c34 k34
  have b34 := F34.binds (ps := ["_law_spool_here", "_law_box"]) fun _ _ _ _ _ _ us hl => match us, hl with | [_, _], _ => rfl
  have F35 := fun_mk (st := d35.st) l35 c35 k35
  have b35 := F35.binds (ps := ["_law_box", "_law_line_here"]) fun _ _ _ _ _ _ us hl => match us, hl with | [_, _], _ => rfl
  have F36 := fun_mk (st := d36.st) l36 c36 k36
  have b36 := F36.binds (ps := ["_law_value"]) fun _ _ _ _ _ _ us hl => match us, hl with | [_], _ => rfl
  have F37 := fun_mk (st := d37.st) l37 c37 k37
  have b37 := F37.binds (ps := ["_law_value"]) fun _ _ _ _ _ _ us hl => match us, hl with | [_], _ => rfl
  have F38 := fun_mk (st := d38.st) l38 c38 k38
  have b38 := F38.binds (ps := ["_law_spool_here"]) fun _ _ _ _ _ _ us hl => match us, hl with | [_], _ => rfl
  have F39 := fun_mk (st := d39.st) l39 c39 k39
  have b39 := F39.binds (ps := ["_law_spool_here", "_law_good"]) fun _ _ _ _ _ _ us hl => match us, hl with | [_, _], _ => rfl
  have F40 := fun_mk (st := d40.st) l40 c40 k40
  have b40 := F40.binds (ps := ["_law_spool_here", "_law_box", "_law_line_here"]) fun _ _ _ _ _ _ us hl => match us, hl with | [_, _, _], _ => rfl
  have F41 := fun_mk (st := d41.st) l41 c41 k41
  have b41 := F41.binds (ps := ["_law_spool_here"]) fun _ _ _ _ _ _ us hl => match us, hl with | [_], _ => rfl
  have F42 := fun_mk (st := d42.st) l42 c42 k42
  have b42 := F42.binds (ps := ["_law_script"]) fun _ _ _ _ _ _ us hl => match us, hl with | [_], _ => rfl
  have Y : Wtx K mg tab ⟨K, fun _ => .non, fun _ => 0⟩ ds [(f0, PySem.W.fnOf "is_whole" "is_whole" (defArgs d0.st) (defBody d0.st) (defScope d0.st) .none kV0 dc0 pm0 an0 cd0 ct0), (f1, PySem.W.fnOf "are_wholes" "are_wholes" (defArgs d1.st) (defBody d1.st) (defScope d1.st) .none kV1 dc1 pm1 an1 cd1 ct1), (f2, PySem.W.fnOf "is_fraction" "is_fraction" (defArgs d2.st) (defBody d2.st) (defScope d2.st) .none kV2 dc2 pm2 an2 cd2 ct2), (f3, PySem.W.fnOf "is_amount" "is_amount" (defArgs d3.st) (defBody d3.st) (defScope d3.st) .none kV3 dc3 pm3 an3 cd3 ct3), (f4, PySem.W.fnOf "is_pace" "is_pace" (defArgs d4.st) (defBody d4.st) (defScope d4.st) .none kV4 dc4 pm4 an4 cd4 ct4), (f5, PySem.W.fnOf "sign_of" "sign_of" (defArgs d5.st) (defBody d5.st) (defScope d5.st) .none kV5 dc5 pm5 an5 cd5 ct5), (f6, PySem.W.fnOf "compare_fractions" "compare_fractions" (defArgs d6.st) (defBody d6.st) (defScope d6.st) .none kV6 dc6 pm6 an6 cd6 ct6), (f7, PySem.W.fnOf "are_discs" "are_discs" (defArgs d7.st) (defBody d7.st) (defScope d7.st) .none kV7 dc7 pm7 an7 cd7 ct7), (f8, PySem.W.fnOf "is_line" "is_line" (defArgs d8.st) (defBody d8.st) (defScope d8.st) .none kV8 dc8 pm8 an8 cd8 ct8), (f9, PySem.W.fnOf "check_line" "check_line" (defArgs d9.st) (defBody d9.st) (defScope d9.st) .none kV9 dc9 pm9 an9 cd9 ct9), (f10, PySem.W.fnOf "are_above" "are_above" (defArgs d10.st) (defBody d10.st) (defScope d10.st) .none kV10 dc10 pm10 an10 cd10 ct10), (f11, PySem.W.fnOf "is_slower" "is_slower" (defArgs d11.st) (defBody d11.st) (defScope d11.st) .none kV11 dc11 pm11 an11 cd11 ct11), (f12, PySem.W.fnOf "is_box" "is_box" (defArgs d12.st) (defBody d12.st) (defScope d12.st) .none kV12 dc12 pm12 an12 cd12 ct12), (f13, PySem.W.fnOf "check_box" "check_box" (defArgs d13.st) (defBody d13.st) (defScope d13.st) .none kV13 dc13 pm13 an13 cd13 ct13), (f14, PySem.W.fnOf "is_in_box" "is_in_box" (defArgs d14.st) (defBody d14.st) (defScope d14.st) .none kV14 dc14 pm14 an14 cd14 ct14), (f15, PySem.W.fnOf "_law_spool" "_law_spool" (defArgs d15.st) (defBody d15.st) (defScope d15.st) .none kV15 dc15 pm15 an15 cd15 ct15), (f16, PySem.W.fnOf "_law_wind" "_law_wind" (defArgs d16.st) (defBody d16.st) (defScope d16.st) .none kV16 dc16 pm16 an16 cd16 ct16), (f17, PySem.W.fnOf "_law_any" "_law_any" (defArgs d17.st) (defBody d17.st) (defScope d17.st) .none kV17 dc17 pm17 an17 cd17 ct17), (f18, PySem.W.fnOf "_law_measure" "_law_measure" (defArgs d18.st) (defBody d18.st) (defScope d18.st) .none kV18 dc18 pm18 an18 cd18 ct18), (f19, PySem.W.fnOf "_law_frac" "_law_frac" (defArgs d19.st) (defBody d19.st) (defScope d19.st) .none kV19 dc19 pm19 an19 cd19 ct19), (f20, PySem.W.fnOf "_law_sum" "_law_sum" (defArgs d20.st) (defBody d20.st) (defScope d20.st) .none kV20 dc20 pm20 an20 cd20 ct20), (f21, PySem.W.fnOf "_law_gap" "_law_gap" (defArgs d21.st) (defBody d21.st) (defScope d21.st) .none kV21 dc21 pm21 an21 cd21 ct21), (f22, PySem.W.fnOf "_law_prod" "_law_prod" (defArgs d22.st) (defBody d22.st) (defScope d22.st) .none kV22 dc22 pm22 an22 cd22 ct22), (f23, PySem.W.fnOf "_law_side" "_law_side" (defArgs d23.st) (defBody d23.st) (defScope d23.st) .none kV23 dc23 pm23 an23 cd23 ct23), (f24, PySem.W.fnOf "_law_beside" "_law_beside" (defArgs d24.st) (defBody d24.st) (defScope d24.st) .none kV24 dc24 pm24 an24 cd24 ct24), (f25, PySem.W.fnOf "_law_is_frac" "_law_is_frac" (defArgs d25.st) (defBody d25.st) (defScope d25.st) .none kV25 dc25 pm25 an25 cd25 ct25), (f26, PySem.W.fnOf "_law_amount" "_law_amount" (defArgs d26.st) (defBody d26.st) (defScope d26.st) .none kV26 dc26 pm26 an26 cd26 ct26), (f27, PySem.W.fnOf "_law_end" "_law_end" (defArgs d27.st) (defBody d27.st) (defScope d27.st) .none kV27 dc27 pm27 an27 cd27 ct27), (f28, PySem.W.fnOf "_law_line" "_law_line" (defArgs d28.st) (defBody d28.st) (defScope d28.st) .none kV28 dc28 pm28 an28 cd28 ct28), (f29, PySem.W.fnOf "_law_slots" "_law_slots" (defArgs d29.st) (defBody d29.st) (defScope d29.st) .none kV29 dc29 pm29 an29 cd29 ct29), (f30, PySem.W.fnOf "_law_put" "_law_put" (defArgs d30.st) (defBody d30.st) (defScope d30.st) .none kV30 dc30 pm30 an30 cd30 ct30), (f31, PySem.W.fnOf "_law_held" "_law_held" (defArgs d31.st) (defBody d31.st) (defScope d31.st) .none kV31 dc31 pm31 an31 cd31 ct31), (f32, PySem.W.fnOf "_law_laps" "_law_laps" (defArgs d32.st) (defBody d32.st) (defScope d32.st) .none kV32 dc32 pm32 an32 cd32 ct32), (f33, PySem.W.fnOf "_law_pair_box" "_law_pair_box" (defArgs d33.st) (defBody d33.st) (defScope d33.st) .none kV33 dc33 pm33 an33 cd33 ct33), (f34, PySem.W.fnOf "_law_within" "_law_within" (defArgs d34.st) (defBody d34.st) (defScope d34.st) .none kV34 dc34 pm34 an34 cd34 ct34), (f35, PySem.W.fnOf "_law_is_within" "_law_is_within" (defArgs d35.st) (defBody d35.st) (defScope d35.st) .none kV35 dc35 pm35 an35 cd35 ct35), (f36, PySem.W.fnOf "_law_is_line" "_law_is_line" (defArgs d36.st) (defBody d36.st) (defScope d36.st) .none kV36 dc36 pm36 an36 cd36 ct36), (f37, PySem.W.fnOf "_law_is_box" "_law_is_box" (defArgs d37.st) (defBody d37.st) (defScope d37.st) .none kV37 dc37 pm37 an37 cd37 ct37), (f38, PySem.W.fnOf "_law_odd" "_law_odd" (defArgs d38.st) (defBody d38.st) (defScope d38.st) .none kV38 dc38 pm38 an38 cd38 ct38), (f39, PySem.W.fnOf "_law_warped" "_law_warped" (defArgs d39.st) (defBody d39.st) (defScope d39.st) .none kV39 dc39 pm39 an39 cd39 ct39), (f40, PySem.W.fnOf "_law_beyond" "_law_beyond" (defArgs d40.st) (defBody d40.st) (defScope d40.st) .none kV40 dc40 pm40 an40 cd40 ct40), (f41, PySem.W.fnOf "_law_right" "_law_right" (defArgs d41.st) (defBody d41.st) (defScope d41.st) .none kV41 dc41 pm41 an41 cd41 ct41), (fa, PySem.W.fnOf "law" "law" (defArgs d42.st) (defBody d42.st) (defScope d42.st) .none kV42 dc42 pm42 an42 cd42 ct42)] := by
    refine ⟨rfl, tab_ok, ⟨⟨F0, PySem.W.mg_of X E a0, b0, ?kw0⟩, ⟨F1, PySem.W.mg_of X E a1, b1, ?kw1⟩, ⟨F2, PySem.W.mg_of X E a2, b2, ?kw2⟩, ⟨F3, PySem.W.mg_of X E a3, b3, ?kw3⟩, ⟨F4, PySem.W.mg_of X E a4, b4, ?kw4⟩, ⟨F5, PySem.W.mg_of X E a5, b5, ?kw5⟩, ⟨F6, PySem.W.mg_of X E a6, b6, ?kw6⟩, ⟨F7, PySem.W.mg_of X E a7, b7, ?kw7⟩, ⟨F8, PySem.W.mg_of X E a8, b8, ?kw8⟩, ⟨F9, PySem.W.mg_of X E a9, b9, ?kw9⟩, ⟨F10, PySem.W.mg_of X E a10, b10, ?kw10⟩, ⟨F11, PySem.W.mg_of X E a11, b11, ?kw11⟩, ⟨F12, PySem.W.mg_of X E a12, b12, ?kw12⟩, ⟨F13, PySem.W.mg_of X E a13, b13, ?kw13⟩, ⟨F14, PySem.W.mg_of X E a14, b14, ?kw14⟩, ⟨F15, PySem.W.mg_of X E a15, b15, ?kw15⟩, ⟨F16, PySem.W.mg_of X E a16, b16, ?kw16⟩, ⟨F17, PySem.W.mg_of X E a17, b17, ?kw17⟩, ⟨F18, PySem.W.mg_of X E a18, b18, ?kw18⟩, ⟨F19, PySem.W.mg_of X E a19, b19, ?kw19⟩, ⟨F20, PySem.W.mg_of X E a20, b20, ?kw20⟩, ⟨F21, PySem.W.mg_of X E a21, b21, ?kw21⟩, ⟨F22, PySem.W.mg_of X E a22, b22, ?kw22⟩, ⟨F23, PySem.W.mg_of X E a23, b23, ?kw23⟩, ⟨F24, PySem.W.mg_of X E a24, b24, ?kw24⟩, ⟨F25, PySem.W.mg_of X E a25, b25, ?kw25⟩, ⟨F26, PySem.W.mg_of X E a26, b26, ?kw26⟩, ⟨F27, PySem.W.mg_of X E a27, b27, ?kw27⟩, ⟨F28, PySem.W.mg_of X E a28, b28, ?kw28⟩, ⟨F29, PySem.W.mg_of X E a29, b29, ?kw29⟩, ⟨F30, PySem.W.mg_of X E a30, b30, ?kw30⟩, ⟨F31, PySem.W.mg_of X E a31, b31, ?kw31⟩, ⟨F32, PySem.W.mg_of X E a32, b32, ?kw32⟩, ⟨F33, PySem.W.mg_of X E a33, b33, ?kw33⟩, ⟨F34, PySem.W.mg_of X E a34, b34, ?kw34⟩, ⟨F35, PySem.W.mg_of X E a35, b35, ?kw35⟩, ⟨F36, PySem.W.mg_of X E a36, b36, ?kw36⟩, ⟨F37, PySem.W.mg_of X E a37, b37, ?kw37⟩, ⟨F38, PySem.W.mg_of X E a38, b38, ?kw38⟩, ⟨F39, PySem.W.mg_of X E a39, b39, ?kw39⟩, ⟨F40, PySem.W.mg_of X E a40, b40, ?kw40⟩, ⟨F41, PySem.W.mg_of X E a41, b41, ?kw41⟩, ⟨F42, PySem.W.mg_of X E a42, b42, ?kw42⟩, True.intro⟩, ?_, ?_, ?_, rfl, rfl⟩
    case kw0 =>
      intro n ns q hq
      simp only [tab, List.mem_cons, List.not_mem_nil, or_false, Prod.mk.injEq] at hq
      rcases hq with hq | hq
      · exact absurd hq.1 (by decide)
      · exact absurd hq.1 (by decide)
    case kw1 =>
      intro n ns q hq
      simp only [tab, List.mem_cons, List.not_mem_nil, or_false, Prod.mk.injEq] at hq
      rcases hq with hq | hq
      · exact absurd hq.1 (by decide)
      · exact absurd hq.1 (by decide)
    case kw2 =>
      intro n ns q hq
      simp only [tab, List.mem_cons, List.not_mem_nil, or_false, Prod.mk.injEq] at hq
      rcases hq with hq | hq
      · exact absurd hq.1 (by decide)
      · exact absurd hq.1 (by decide)
    case kw3 =>
      intro n ns q hq
      simp only [tab, List.mem_cons, List.not_mem_nil, or_false, Prod.mk.injEq] at hq
      rcases hq with hq | hq
      · exact absurd hq.1 (by decide)
      · exact absurd hq.1 (by decide)
    case kw4 =>
      intro n ns q hq
      simp only [tab, List.mem_cons, List.not_mem_nil, or_false, Prod.mk.injEq] at hq
      rcases hq with hq | hq
      · exact absurd hq.1 (by decide)
      · exact absurd hq.1 (by decide)
    case kw5 =>
      intro n ns q hq
      simp only [tab, List.mem_cons, List.not_mem_nil, or_false, Prod.mk.injEq] at hq
      rcases hq with hq | hq
      · exact absurd hq.1 (by decide)
      · exact absurd hq.1 (by decide)
    case kw6 =>
      intro n ns q hq
      simp only [tab, List.mem_cons, List.not_mem_nil, or_false, Prod.mk.injEq] at hq
      rcases hq with hq | hq
      · exact absurd hq.1 (by decide)
      · exact absurd hq.1 (by decide)
    case kw7 =>
      intro n ns q hq
      simp only [tab, List.mem_cons, List.not_mem_nil, or_false, Prod.mk.injEq] at hq
      rcases hq with hq | hq
      · exact absurd hq.1 (by decide)
      · exact absurd hq.1 (by decide)
    case kw8 =>
      intro n ns q hq
      simp only [tab, List.mem_cons, List.not_mem_nil, or_false, Prod.mk.injEq] at hq
      rcases hq with hq | hq
      · exact absurd hq.1 (by decide)
      · exact absurd hq.1 (by decide)
    case kw9 =>
      intro n ns q hq
      simp only [tab, List.mem_cons, List.not_mem_nil, or_false, Prod.mk.injEq] at hq
      rcases hq with hq | hq
      · exact absurd hq.1 (by decide)
      · exact absurd hq.1 (by decide)
    case kw10 =>
      intro n ns q hq
      simp only [tab, List.mem_cons, List.not_mem_nil, or_false, Prod.mk.injEq] at hq
      rcases hq with hq | hq
      · exact absurd hq.1 (by decide)
      · exact absurd hq.1 (by decide)
    case kw11 =>
      intro n ns q hq
      simp only [tab, List.mem_cons, List.not_mem_nil, or_false, Prod.mk.injEq] at hq
      rcases hq with hq | hq
      · exact absurd hq.1 (by decide)
      · exact absurd hq.1 (by decide)
    case kw12 =>
      intro n ns q hq
      simp only [tab, List.mem_cons, List.not_mem_nil, or_false, Prod.mk.injEq] at hq
      rcases hq with hq | hq
      · exact absurd hq.1 (by decide)
      · obtain ⟨_, rfl, rfl, rfl⟩ := hq
        intro s us ws h1 h2
        exact match us, ws, h1, h2 with | [], [_], _, _ => .of_eq rfl
    case kw13 =>
      intro n ns q hq
      simp only [tab, List.mem_cons, List.not_mem_nil, or_false, Prod.mk.injEq] at hq
      rcases hq with hq | hq
      · exact absurd hq.1 (by decide)
      · exact absurd hq.1 (by decide)
    case kw14 =>
      intro n ns q hq
      simp only [tab, List.mem_cons, List.not_mem_nil, or_false, Prod.mk.injEq] at hq
      rcases hq with hq | hq
      · obtain ⟨_, rfl, rfl, rfl⟩ := hq
        intro s us ws h1 h2
        exact match us, ws, h1, h2 with | [], [_, _], _, _ => .of_eq rfl
      · exact absurd hq.1 (by decide)
    case kw15 =>
      intro n ns q hq
      simp only [tab, List.mem_cons, List.not_mem_nil, or_false, Prod.mk.injEq] at hq
      rcases hq with hq | hq
      · exact absurd hq.1 (by decide)
      · exact absurd hq.1 (by decide)
    case kw16 =>
      intro n ns q hq
      simp only [tab, List.mem_cons, List.not_mem_nil, or_false, Prod.mk.injEq] at hq
      rcases hq with hq | hq
      · exact absurd hq.1 (by decide)
      · exact absurd hq.1 (by decide)
    case kw17 =>
      intro n ns q hq
      simp only [tab, List.mem_cons, List.not_mem_nil, or_false, Prod.mk.injEq] at hq
      rcases hq with hq | hq
      · exact absurd hq.1 (by decide)
      · exact absurd hq.1 (by decide)
    case kw18 =>
      intro n ns q hq
      simp only [tab, List.mem_cons, List.not_mem_nil, or_false, Prod.mk.injEq] at hq
      rcases hq with hq | hq
      · exact absurd hq.1 (by decide)
      · exact absurd hq.1 (by decide)
    case kw19 =>
      intro n ns q hq
      simp only [tab, List.mem_cons, List.not_mem_nil, or_false, Prod.mk.injEq] at hq
      rcases hq with hq | hq
      · exact absurd hq.1 (by decide)
      · exact absurd hq.1 (by decide)
    case kw20 =>
      intro n ns q hq
      simp only [tab, List.mem_cons, List.not_mem_nil, or_false, Prod.mk.injEq] at hq
      rcases hq with hq | hq
      · exact absurd hq.1 (by decide)
      · exact absurd hq.1 (by decide)
    case kw21 =>
      intro n ns q hq
      simp only [tab, List.mem_cons, List.not_mem_nil, or_false, Prod.mk.injEq] at hq
      rcases hq with hq | hq
      · exact absurd hq.1 (by decide)
      · exact absurd hq.1 (by decide)
    case kw22 =>
      intro n ns q hq
      simp only [tab, List.mem_cons, List.not_mem_nil, or_false, Prod.mk.injEq] at hq
      rcases hq with hq | hq
      · exact absurd hq.1 (by decide)
      · exact absurd hq.1 (by decide)
    case kw23 =>
      intro n ns q hq
      simp only [tab, List.mem_cons, List.not_mem_nil, or_false, Prod.mk.injEq] at hq
      rcases hq with hq | hq
      · exact absurd hq.1 (by decide)
      · exact absurd hq.1 (by decide)
    case kw24 =>
      intro n ns q hq
      simp only [tab, List.mem_cons, List.not_mem_nil, or_false, Prod.mk.injEq] at hq
      rcases hq with hq | hq
      · exact absurd hq.1 (by decide)
      · exact absurd hq.1 (by decide)
    case kw25 =>
      intro n ns q hq
      simp only [tab, List.mem_cons, List.not_mem_nil, or_false, Prod.mk.injEq] at hq
      rcases hq with hq | hq
      · exact absurd hq.1 (by decide)
      · exact absurd hq.1 (by decide)
    case kw26 =>
      intro n ns q hq
      simp only [tab, List.mem_cons, List.not_mem_nil, or_false, Prod.mk.injEq] at hq
      rcases hq with hq | hq
      · exact absurd hq.1 (by decide)
      · exact absurd hq.1 (by decide)
    case kw27 =>
      intro n ns q hq
      simp only [tab, List.mem_cons, List.not_mem_nil, or_false, Prod.mk.injEq] at hq
      rcases hq with hq | hq
      · exact absurd hq.1 (by decide)
      · exact absurd hq.1 (by decide)
    case kw28 =>
      intro n ns q hq
      simp only [tab, List.mem_cons, List.not_mem_nil, or_false, Prod.mk.injEq] at hq
      rcases hq with hq | hq
      · exact absurd hq.1 (by decide)
      · exact absurd hq.1 (by decide)
    case kw29 =>
      intro n ns q hq
      simp only [tab, List.mem_cons, List.not_mem_nil, or_false, Prod.mk.injEq] at hq
      rcases hq with hq | hq
      · exact absurd hq.1 (by decide)
      · exact absurd hq.1 (by decide)
    case kw30 =>
      intro n ns q hq
      simp only [tab, List.mem_cons, List.not_mem_nil, or_false, Prod.mk.injEq] at hq
      rcases hq with hq | hq
      · exact absurd hq.1 (by decide)
      · exact absurd hq.1 (by decide)
    case kw31 =>
      intro n ns q hq
      simp only [tab, List.mem_cons, List.not_mem_nil, or_false, Prod.mk.injEq] at hq
      rcases hq with hq | hq
      · exact absurd hq.1 (by decide)
      · exact absurd hq.1 (by decide)
    case kw32 =>
      intro n ns q hq
      simp only [tab, List.mem_cons, List.not_mem_nil, or_false, Prod.mk.injEq] at hq
      rcases hq with hq | hq
      · exact absurd hq.1 (by decide)
      · exact absurd hq.1 (by decide)
    case kw33 =>
      intro n ns q hq
      simp only [tab, List.mem_cons, List.not_mem_nil, or_false, Prod.mk.injEq] at hq
      rcases hq with hq | hq
      · exact absurd hq.1 (by decide)
      · exact absurd hq.1 (by decide)
    case kw34 =>
      intro n ns q hq
      simp only [tab, List.mem_cons, List.not_mem_nil, or_false, Prod.mk.injEq] at hq
      rcases hq with hq | hq
      · exact absurd hq.1 (by decide)
      · exact absurd hq.1 (by decide)
    case kw35 =>
      intro n ns q hq
      simp only [tab, List.mem_cons, List.not_mem_nil, or_false, Prod.mk.injEq] at hq
      rcases hq with hq | hq
      · exact absurd hq.1 (by decide)
      · exact absurd hq.1 (by decide)
    case kw36 =>
      intro n ns q hq
      simp only [tab, List.mem_cons, List.not_mem_nil, or_false, Prod.mk.injEq] at hq
      rcases hq with hq | hq
      · exact absurd hq.1 (by decide)
      · exact absurd hq.1 (by decide)
    case kw37 =>
      intro n ns q hq
      simp only [tab, List.mem_cons, List.not_mem_nil, or_false, Prod.mk.injEq] at hq
      rcases hq with hq | hq
      · exact absurd hq.1 (by decide)
      · exact absurd hq.1 (by decide)
    case kw38 =>
      intro n ns q hq
      simp only [tab, List.mem_cons, List.not_mem_nil, or_false, Prod.mk.injEq] at hq
      rcases hq with hq | hq
      · exact absurd hq.1 (by decide)
      · exact absurd hq.1 (by decide)
    case kw39 =>
      intro n ns q hq
      simp only [tab, List.mem_cons, List.not_mem_nil, or_false, Prod.mk.injEq] at hq
      rcases hq with hq | hq
      · exact absurd hq.1 (by decide)
      · exact absurd hq.1 (by decide)
    case kw40 =>
      intro n ns q hq
      simp only [tab, List.mem_cons, List.not_mem_nil, or_false, Prod.mk.injEq] at hq
      rcases hq with hq | hq
      · exact absurd hq.1 (by decide)
      · exact absurd hq.1 (by decide)
    case kw41 =>
      intro n ns q hq
      simp only [tab, List.mem_cons, List.not_mem_nil, or_false, Prod.mk.injEq] at hq
      rcases hq with hq | hq
      · exact absurd hq.1 (by decide)
      · exact absurd hq.1 (by decide)
    case kw42 =>
      intro n ns q hq
      simp only [tab, List.mem_cons, List.not_mem_nil, or_false, Prod.mk.injEq] at hq
      rcases hq with hq | hq
      · exact absurd hq.1 (by decide)
      · exact absurd hq.1 (by decide)
    · intro x d hx
      have hx := lookup_mem' hx
      simp only [tab, List.mem_cons, List.not_mem_nil, or_false, Prod.mk.injEq] at hx
      rcases hx with hx
      · obtain ⟨rfl, rfl⟩ := hx
        exact ⟨(.int 8), _, PySem.W.mg_of X E m0, ⟨_, rfl⟩, fun _ => rfl⟩
    · intro x hx
      simp only [tab, List.mem_cons, List.not_mem_nil, or_false] at hx
      rcases hx with rfl | rfl | rfl | rfl | rfl | rfl | rfl | rfl | rfl | rfl | rfl | rfl | rfl | rfl
      · exact PySem.W.mg_none_of X E z0
      · exact PySem.W.mg_none_of X E z1
      · exact PySem.W.mg_none_of X E z2
      · exact PySem.W.mg_none_of X E z3
      · exact PySem.W.mg_none_of X E z4
      · exact PySem.W.mg_none_of X E z5
      · exact PySem.W.mg_none_of X E z6
      · exact PySem.W.mg_none_of X E z7
      · exact PySem.W.mg_none_of X E z8
      · exact PySem.W.mg_none_of X E z9
      · exact PySem.W.mg_none_of X E z10
      · exact PySem.W.mg_none_of X E z11
      · exact PySem.W.mg_none_of X E z12
      · exact PySem.W.mg_none_of X E z13
    · intro x hx
      simp only [tab, List.mem_cons, List.not_mem_nil, or_false] at hx
      subst hx
      exact PySem.W.mg_of X E gq0
  refine ⟨_, _, rfl, fun s v => .of_eq rfl, fun base _ _ => all_defs Y fuelN 16 42 d42 fa _ rfl rfl⟩
end
end K34
namespace K34
open PySem Mini
theorem txt_eq : Mini.txt tab ds = prog := by kernel_rfl
theorem law_ok : ∀ ns : List Int, ns.length ≤ 63 → ∃ S, (Mini.pgN (Mini.txt tab ds) fuelN 16).call 42 [.ref 0] [.frz (ns.map Mini.D.int)] = .ok (.bl true) S := by
  intro ns hl
  rw [txt_eq]
  obtain ⟨d, S, e, h⟩ := wp_ex (t_law (n := 16) (by decide) hl)
  subst h
  exact ⟨S, e⟩
end K34
open PySem PySem.W PyProof.Rows
set_option maxRecDepth 100000 in
set_option maxHeartbeats 0 in
theorem PySem.Challenge.cw_shaftshakes_k34_whole_boxes_and_their_li_holds : PySem.Challenge.rw_shaftshakes_k34_whole_boxes_and_their_li.Holds := by
  w_on; o_law; k_head; (case hw => w_witness2)
  k_fill
  refine Mini.walkM (l := PySem.Challenge.rw_shaftshakes_k34_whole_boxes_and_their_li) (k := 32) (x := "_law_script") (run := (Mini.pgN (Mini.txt K34.tab K34.ds) K34.fuelN 16).call 42) rfl (by decide) rfl ⟨rfl, by decide, by decide⟩ (fun w h Y => PySem.W.kIn_of Y) ?F K34.law_ok
  case F =>
    intro w mg fa h KX E hmg
    refine' K34.all_mk KX E hmg ?a0 ?l0 ?c0 ?k0 ?a1 ?l1 ?c1 ?k1 ?a2 ?l2 ?c2 ?k2 ?a3 ?l3 ?c3 ?k3 ?a4 ?l4 ?c4 ?k4 ?a5 ?l5 ?c5 ?k5 ?a6 ?l6 ?c6 ?k6 ?a7 ?l7 ?c7 ?k7 ?a8 ?l8 ?c8 ?k8 ?a9 ?l9 ?c9 ?k9 ?a10 ?l10 ?c10 ?k10 ?a11 ?l11 ?c11 ?k11 ?a12 ?l12 ?c12 ?k12 ?a13 ?l13 ?c13 ?k13 ?a14 ?l14 ?c14 ?k14 ?a15 ?l15 ?c15 ?k15 ?a16 ?l16 ?c16 ?k16 ?a17 ?l17 ?c17 ?k17 ?a18 ?l18 ?c18 ?k18 ?a19 ?l19 ?c19 ?k19 ?a20 ?l20 ?c20 ?k20 ?a21 ?l21 ?c21 ?k21 ?a22 ?l22 ?c22 ?k22 ?a23 ?l23 ?c23 ?k23 ?a24 ?l24 ?c24 ?k24 ?a25 ?l25 ?c25 ?k25 ?a26 ?l26 ?c26 ?k26 ?a27 ?l27 ?c27 ?k27 ?a28 ?l28 ?c28 ?k28 ?a29 ?l29 ?c29 ?k29 ?a30 ?l30 ?c30 ?k30 ?a31 ?l31 ?c31 ?k31 ?a32 ?l32 ?c32 ?k32 ?a33 ?l33 ?c33 ?k33 ?a34 ?l34 ?c34 ?k34 ?a35 ?l35 ?c35 ?k35 ?a36 ?l36 ?c36 ?k36 ?a37 ?l37 ?c37 ?k37 ?a38 ?l38 ?c38 ?k38 ?a39 ?l39 ?c39 ?k39 ?a40 ?l40 ?c40 ?k40 ?a41 ?l41 ?c41 ?k41 ?a42 ?l42 ?c42 ?k42 ?z0 ?z1 ?z2 ?z3 ?z4 ?z5 ?z6 ?z7 ?z8 ?z9 ?z10 ?z11 ?z12 ?z13 ?gq0 ?m0
    (case a0 => k_is)
    (case l0 => k_is)
    (case c0 => k_is)
    (case k0 => k_is)
    (case a1 => k_is)
    (case l1 => k_is)
    (case c1 => k_is)
    (case k1 => k_is)
    (case a2 => k_is)
    (case l2 => k_is)
    (case c2 => k_is)
    (case k2 => k_is)
    (case a3 => k_is)
    (case l3 => k_is)
    (case c3 => k_is)
    (case k3 => k_is)
    (case a4 => k_is)
    (case l4 => k_is)
    (case c4 => k_is)
    (case k4 => k_is)
    (case a5 => k_is)
    (case l5 => k_is)
    (case c5 => k_is)
    (case k5 => k_is)
    (case a6 => k_is)
    (case l6 => k_is)
    (case c6 => k_is)
    (case k6 => k_is)
    (case a7 => k_is)
    (case l7 => k_is)
    (case c7 => k_is)
    (case k7 => k_is)
    (case a8 => k_is)
    (case l8 => k_is)
    (case c8 => k_is)
    (case k8 => k_is)
    (case a9 => k_is)
    (case l9 => k_is)
    (case c9 => k_is)
    (case k9 => k_is)
    (case a10 => k_is)
    (case l10 => k_is)
    (case c10 => k_is)
    (case k10 => k_is)
    (case a11 => k_is)
    (case l11 => k_is)
    (case c11 => k_is)
    (case k11 => k_is)
    (case a12 => k_is)
    (case l12 => k_is)
    (case c12 => k_is)
    (case k12 => k_is)
    (case a13 => k_is)
    (case l13 => k_is)
    (case c13 => k_is)
    (case k13 => k_is)
    (case a14 => k_is)
    (case l14 => k_is)
    (case c14 => k_is)
    (case k14 => k_is)
    (case a15 => k_is)
    (case l15 => k_is)
    (case c15 => k_is)
    (case k15 => k_is)
    (case a16 => k_is)
    (case l16 => k_is)
    (case c16 => k_is)
    (case k16 => k_is)
    (case a17 => k_is)
    (case l17 => k_is)
    (case c17 => k_is)
    (case k17 => k_is)
    (case a18 => k_is)
    (case l18 => k_is)
    (case c18 => k_is)
    (case k18 => k_is)
    (case a19 => k_is)
    (case l19 => k_is)
    (case c19 => k_is)
    (case k19 => k_is)
    (case a20 => k_is)
    (case l20 => k_is)
    (case c20 => k_is)
    (case k20 => k_is)
    (case a21 => k_is)
    (case l21 => k_is)
    (case c21 => k_is)
    (case k21 => k_is)
    (case a22 => k_is)
    (case l22 => k_is)
    (case c22 => k_is)
    (case k22 => k_is)
    (case a23 => k_is)
    (case l23 => k_is)
    (case c23 => k_is)
    (case k23 => k_is)
    (case a24 => k_is)
    (case l24 => k_is)
    (case c24 => k_is)
    (case k24 => k_is)
    (case a25 => k_is)
    (case l25 => k_is)
    (case c25 => k_is)
    (case k25 => k_is)
    (case a26 => k_is)
    (case l26 => k_is)
    (case c26 => k_is)
    (case k26 => k_is)
    (case a27 => k_is)
    (case l27 => k_is)
    (case c27 => k_is)
    (case k27 => k_is)
    (case a28 => k_is)
    (case l28 => k_is)
    (case c28 => k_is)
    (case k28 => k_is)
    (case a29 => k_is)
    (case l29 => k_is)
    (case c29 => k_is)
    (case k29 => k_is)
    (case a30 => k_is)
    (case l30 => k_is)
    (case c30 => k_is)
    (case k30 => k_is)
    (case a31 => k_is)
    (case l31 => k_is)
    (case c31 => k_is)
    (case k31 => k_is)
    (case a32 => k_is)
    (case l32 => k_is)
    (case c32 => k_is)
    (case k32 => k_is)
    (case a33 => k_is)
    (case l33 => k_is)
    (case c33 => k_is)
    (case k33 => k_is)
    (case a34 => k_is)
    (case l34 => k_is)
    (case c34 => k_is)
    (case k34 => k_is)
    (case a35 => k_is)
    (case l35 => k_is)
    (case c35 => k_is)
    (case k35 => k_is)
    (case a36 => k_is)
    (case l36 => k_is)
    (case c36 => k_is)
    (case k36 => k_is)
    (case a37 => k_is)
    (case l37 => k_is)
    (case c37 => k_is)
    (case k37 => k_is)
    (case a38 => k_is)
    (case l38 => k_is)
    (case c38 => k_is)
    (case k38 => k_is)
    (case a39 => k_is)
    (case l39 => k_is)
    (case c39 => k_is)
    (case k39 => k_is)
    (case a40 => k_is)
    (case l40 => k_is)
    (case c40 => k_is)
    (case k40 => k_is)
    (case a41 => k_is)
    (case l41 => k_is)
    (case c41 => k_is)
    (case k41 => k_is)
    (case a42 => k_is)
    (case l42 => k_is)
    (case c42 => k_is)
    (case k42 => k_is)
    (case z0 => k_is)
    (case z1 => k_is)
    (case z2 => k_is)
    (case z3 => k_is)
    (case z4 => k_is)
    (case z5 => k_is)
    (case z6 => k_is)
    (case z7 => k_is)
    (case z8 => k_is)
    (case z9 => k_is)
    (case z10 => k_is)
    (case z11 => k_is)
    (case z12 => k_is)
    (case z13 => k_is)
    (case gq0 => k_is)
    (case m0 => k_is)
