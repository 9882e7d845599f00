import PyProof.Rows.All
import Wide.All
import OpenK.AllK
import Wide.FinOn
import HandS.ForList
import HandS.ForMost
import HandS.ForExc
import HandS.Head3
import HandS.HeadHook2
import HandS.WideBits
import HandS.Gcd
import HandS.Style
import HandS.IsInst
import HandS.TupAny
import HandS.TupMul
import HandS.Deep
import HandS.Zip
import HandS.Conv
import HandS.RaiseMore
import KE.KMathG
import HandS.Flow
import HandS.Star
import HandS.CallRecv
import KE.GoesEnum
import HandS.TryOnly
import HandS.Dict
import HandS.WordsExc
import PySem.Challenge.RW_shaftshakes_k74_whole_ends_of_machines
set_option Elab.async false
set_option linter.all false
set_option maxRecDepth 100000
/-! Mini: a small language, its data, its store, its evaluator. -/
namespace Mini
open PySem

inductive D where
  | non | bl (b : Bool) | int (i : Int) | str (x : Str) | tup (xs : List D) | ref (n : Nat) | glb (i : Nat)

inductive Cl where
  | lst (xs : List D)
  | frz (xs : List D)
  | dct
  | ins (c : Nat) (fs : List (Str × D))

abbrev Sto := List Cl
abbrev Loc := List (Option D)

inductive Res (α : Type) where
  | ok (a : α) (S : Sto)
  | ex (c : Nat) (fs : List (Str × D)) (S : Sto)
  | no

namespace Res
def bind {α β : Type} (r : Res α) (k : α → Sto → Res β) : Res β := match r with
  | ok a S => k a S
  | ex c fs S => ex c fs S
  | no => no
def sat {α : Type} (r : Res α) (P : α → Sto → Prop) (E : Nat → List (Str × D) → Sto → Prop) : Prop := match r with
  | ok a S => P a S
  | ex c fs S => E c fs S
  | no => False
theorem sat_bind {α β : Type} {r : Res α} {k : α → Sto → Res β} {P : β → Sto → Prop} {E : Nat → List (Str × D) → Sto → Prop} (h : (r.bind k).sat P E) : r.sat (fun a S => (k a S).sat P E) E := by
  cases r <;> exact h
theorem sat_mono {α : Type} {r : Res α} {P P' : α → Sto → Prop} {E E' : Nat → List (Str × D) → Sto → Prop} (h : r.sat P E) (hp : ∀ a S, P a S → P' a S) (he : ∀ c f S, E c f S → E' c f S) : r.sat P' E' := by
  cases r with
  | ok a S => exact hp _ _ h
  | ex c f S => exact he _ _ _ h
  | no => exact h
/-- an exception is nothing here -/
def noex {α : Type} (r : Res α) : Res α := match r with
  | ok a S => ok a S
  | _ => no
theorem sat_noex {α : Type} {r : Res α} {P : α → Sto → Prop} {E E' : Nat → List (Str × D) → Sto → Prop} (h : r.noex.sat P E) : r.sat P E' := by
  cases r with
  | ok a S => exact h
  | ex c f S => exact h.elim
  | no => exact h
end Res

def ofOpt {α : Type} (S : Sto) : Option α → Res α
  | some a => .ok a S
  | none => .no

inductive Bop where | add | sub | mul | fdiv | mod | pow | band
inductive Cop where | eq | ne | lt | le | gt | ge | is | isnot | isin | notin
inductive Ty where | int | bool | str | tuple | list | dict deriving DecidableEq
inductive Fn where | len | abs | max | min | int | tuple | list | sum | all | any | divmod | gcd | lcm | repr | str | isi (t : Ty)
inductive Me where | append | extend | pop | count | index

mutual
inductive Ex where
  | var (i : Nat) | con (d : D) | tup (es : List Ex) | lst (es : List Ex) | dct
  | bin (o : Bop) (a b : Ex) | neg (a : Ex) | not (a : Ex) | and (a b : Ex) | or (a b : Ex)
  | cmp (o : Cop) (a b : Ex) | chain (o o' : Cop) (a b c : Ex) | ite (c a b : Ex)
  | call (f : Nat) (es : List Ex) (perm : Option (List Nat)) | make (c : Nat) (es : List Ex) | fn (g : Fn) (es : List Ex)
  | me (m : Me) (o : Ex) (es : List Ex) | meth (m : Str) (o : Ex) (es : List Ex)  | isc (e : Ex) (c : Nat)| fld (o : Ex) (f : Str)
  | ix (o i : Ex) | sl (o : Ex) (lo hi : Option Ex) | rev (o : Ex) | revT (o k : Ex) | cat2 (a b : Ex) | mid3 (a b c : Ex)
  | comp (t : Tg) (it : It) (cs : List Ex) (elt : Ex) (own : List Nat) | lrg1 (a : Ex) | lrg2 (a b : Ex) | trg1 (a : Ex) | trg2 (a b : Ex)
inductive Tg where
  | nm (i : Nat) | tp (ts : List Tg) | ix (o i : Ex) | fd (o : Ex) (f : Str)
inductive It where
  | val (e : Ex) | rng1 (a : Ex) | rng2 (a b : Ex) | rng3 (a b c : Ex) | zip (a b : Ex) | zip3 (a b c : Ex) | enum (a : Ex)
end

inductive St where
  | asg (t : Tg) (e : Ex) | par (is : List Nat) (es : List Ex) | aug (i : Nat) (o : Bop) (e : Ex) | augS (a b : Ex) (o : Bop) (e : Ex)
  | ex (e : Ex) | ite (c : Ex) (a b : List St) | for_ (t : Tg) (it : It) (b : List St) | while_ (c : Ex) (b : List St)
  | ret (e : Ex) | ret0 | pass | brk | bad

/-! ### data -/
def lineN : Nat := 16777216
def seqAt (S : Sto) (n : Nat) : Option (List D) := match S[n]? with
  | some (.lst xs) => some xs
  | some (.frz xs) => some xs
  | _ => none
def truth (S : Sto) : D → Option Bool
  | .non => some false
  | .bl b => some b
  | .int i => some (i != 0)
  | .str x => if x.length ≤ lineN then some (x.length != 0) else none
  | .tup xs => some (!xs.isEmpty)
  | .ref n => match seqAt S n with
    | some xs => some (!xs.isEmpty)
    | none => none
  | .glb _ => none

def mapO {α β : Type} (f : α → Option β) : List α → Option (List β)
  | [] => some []
  | x :: xs => match f x, mapO f xs with
    | some d, some ds => some (d :: ds)
    | _, _ => none
def leafD : D → Option PyData
  | .non => some .none
  | .bl b => some (.bool b)
  | .int i => some (.int i)
  | .str x => some (.str x)
  | _ => none
/-- the data that == and repr look at, to a depth -/
def toD (S : Sto) : Nat → D → Option PyData
  | 0, d => leafD d
  | k + 1, d => match d with
    | .tup xs => (mapO (toD S k) xs).map .tuple
    | .ref n => match seqAt S n with
      | some xs => (mapO (toD S k) xs).map .list
      | none => none
    | d => leafD d
end Mini
set_option maxHeartbeats 4000000
/-! Mini: what is asked of the heap behind the top. -/
namespace Mini
open PySem PySem.Spec PyProof.Rows L2
structure Tab where
  fns : List (Str × Nat)
  kws : List (Nat × Nat × List Str × List Nat)
  cons : List (Str × D)
  blt : List Str
  gcd : List Str
  cls : List (Str × Nat)
  flds : List Str
  /-- the names of own methods -/
  ms : List Str := []
  /-- own classes that isinstance is asked of -/
  iss : List (Str × Nat) := []
  /-- names of math.lcm -/
  lcm : List Str := []

/-- a def: its name, its text, its slots, its parameters -/
structure DefT where
  name : Str
  st : Stmt
  N : List Str
  ps : List Str
/-! ### constants -/
mutual
def conB (K : PySem.W.Frag) : D → Value → Bool
  | .non, u => (match u with
    | .none => true
    | _ => false)
  | .bl b, u => (match u with
    | .bool c => b == c
    | _ => false)
  | .int i, u => (match u with
    | .int j _ => decide (i = j)
    | _ => false)
  | .str x, u => (match u with
    | .str y _ => decide (x = y)
    | _ => false)
  | .tup ds, u => (match u with
    | .ref a => (match K.lookup a with
      | some ⟨.type c, _, .seq its _, _⟩ => decide (c = "tuple") && (decide (its.size ≤ sizeLine) && consB K ds its.toList)
      | _ => false)
    | _ => false)
  | .ref _, _ => false
  | .glb _, _ => false
def consB (K : PySem.W.Frag) : List D → List Value → Bool
  | [], us => us.isEmpty
  | d :: ds, us => (match us with
    | u :: r => conB K d u && consB K ds r
    | [] => false)
end
/-! ### the Hook -/
def refsM (o : Obj) : List Addr := match o.data with
  | .seq its _ => its.toList.flatMap He.refV
  | .dict es _ => es.toList.flatMap fun e => He.refV e.val
  | .func fd => He.refV fd.code
  | .cls cd => cd.ns :: cd.mro.flatMap He.refV
  | _ => []
def growM (g : Addr → Option Obj) (as : List Addr) : List Addr := as.flatMap fun a => match g a with
  | some o => refsM o
  | none => []
def asM (g : Addr → Option Obj) : List Addr := [mainGlobals] ++ growM g [mainGlobals] ++ growM g (growM g [mainGlobals]) ++ growM g (growM g (growM g [mainGlobals])) ++ growM g (growM g (growM g (growM g [mainGlobals])))
abbrev AlM : Type := He.AlD × Bool
def obsK (fn : List He.DefD) (ex : PySem.W.Frag → Bool) (K : PySem.W.Frag) : AlM := (He.obsD [] fn K, ex K)
def obsM (fn : List He.DefD) (ex : PySem.W.Frag → Bool) (g : Addr → Option Obj) : AlM := obsK fn ex (He.frG g (asM g))
def valM (fn : List He.DefD) : AlM := (He.valD fn, true)
def hookM (fn : List He.DefD) (ex : PySem.W.Frag → Bool) : PySem.W.Hook where
  α := AlM
  obs := fun s => obsM fn ex s.heap.get?
  val := fun _ => valM fn
  says := fun _ h => ∃ K : PySem.W.Frag, K.In h ∧ He.SaysD [] fn K ∧ ex K = true
  of := fun _ _ e => ⟨_, He.frG_in, congrArg (fun z : AlM => z.1) e, congrArg (fun z : AlM => z.2) e⟩
  keeps := fun _ _ _ ⟨K, hK, c⟩ k => ⟨K, PySem.W.Frag.In.keeps hK k, c⟩
def obM (fn : List He.DefD) (ex : PySem.W.Frag → Bool) (s : PySem.W.SharedT) : AlM := obsM fn ex (HandSHeadRun.getT s)
theorem obM_eq (fn : List He.DefD) (ex : PySem.W.Frag → Bool) (s : PySem.W.SharedT) : obM fn ex s = (hookM fn ex).obs s.abs := by
  have e : HandSHeadRun.getT s = s.abs.heap.get? := funext (HandSHeadRun.getT_eq s)
  unfold obM
  rw [e] <;> rfl
/-! ### the text's tables, asked -/
def DefT.dd (d : DefT) : He.DefD := ⟨(d.name, none), d.name, d.name, defArgs d.st, defBody d.st, defScope d.st, [], []⟩
def headB (T : Tab) (ds : List DefT) (K : PySem.W.Frag) : Bool :=
  (ds.all fun d => He.eqO (PySem.W.nsIn K mainGlobals d.name) (some (some (.ref (He.ga K d.name))))) &&
    ((T.blt.all fun x => He.eqO (PySem.W.nsIn K mainGlobals x) (some none)) &&
      ((T.gcd.all fun x => He.eqO (PySem.W.nsIn K mainGlobals x) (some (some (.builtin "math.gcd")))) &&
       ((T.lcm.all fun x => He.eqO (PySem.W.nsIn K mainGlobals x) (some (some (.builtin "math.lcm")))) &&
        T.cons.all fun q => match PySem.W.nsIn K mainGlobals q.1 with
          | some (some u) => conB K q.2 u
          | _ => false)))
def DefT.di (C : Str) (d : DefT) (qual : Str) : He.DefD := ⟨(C, some "__init__"), "__init__", qual, defArgs d.st, defBody d.st, defScope d.st, [], []⟩
def klsB (C : Str) (T : Tab) (K : PySem.W.Frag) : Bool := (He.Fa.mkr C).ok K && ((He.Fa.glo C).ok K && ((He.Fa.cls C).ok K && T.flds.all fun f => (He.Fa.noat C f).ok K))
/-! ### own classes -/
def iscB (K : PySem.W.Frag) (C : Addr) : Bool := decide (PySem.W.findIn K (.ref C) "__class__" = some (some (.builtin "object.__class__"))) && (decide (PySem.W.specialIn K (.builtin "object.__class__") "__get__" = some (some (.builtin "getset_descriptor.__get__"))) &&
  (decide (PySem.W.takesIn K (.builtin "object.__class__") = some true) && (decide (PySem.W.mroIn K C (.type "object") = some true) && decide (PySem.W.kitOne K (.type "tuple") (.ref C) = some false))))
/-- an own class: its name, its __init__ and what that is called, its methods likewise -/
structure KlT where
  nm : Str
  ini : DefT
  iq : Str
  ms : List (DefT × Str)
def KlT.dfs (k : KlT) : List He.DefD := k.ini.di k.nm k.iq :: k.ms.map fun d => ⟨(k.nm, some d.1.name), d.1.name, d.2, defArgs d.1.st, defBody d.1.st, defScope d.1.st, [], []⟩
def klssB (kls : List KlT) (T : Tab) (K : PySem.W.Frag) : Bool := kls.all fun k => klsB k.nm T K && ((k.ms.all fun d => (He.Fa.meth k.nm d.1.name).ok K) && (T.iss.isEmpty || iscB K (He.ga K k.nm)))
/-! ### the run, part by part -/
noncomputable abbrev wholeM (r : PySem.W.OpenRow) (M : Nat) (w : World) : Option (Shared × PySem.W.SharedT) := HandSHeadRun.wholeF (fun p => HandSHeadRun.stepQ (HandSHeadRun.denQ HandSHeadRun.tabQ) p w) HandSHeadRun.fenceQ M r.prog
theorem run_parts {r : PySem.W.OpenRow} {q : Program} {fn : List He.DefD} {ex : PySem.W.Frag → Bool} {M : Nat} {loose : List Str} {w : World}
    (h1 : (wholeM r M w).map (fun x => HandSHeadRun.looksF r.prog x.1.heap x.2.abs) = some true)
    (h2 : (wholeM r M w).map (fun x => HandSHeadRun.seenQ q loose (importedModules r.prog.main.body) (fun s => PySem.W.xlAt q [] s && PySem.W.recOk r.toRowW.records s) x.2.abs) = some (PySem.W.openGood q loose))
    (h3 : (wholeM r M w).map (fun x => (obM fn ex x.2).1.1) = some true) (h4 : (wholeM r M w).map (fun x => (obM fn ex x.2).1.2) = some (fn.map He.DefD.val)) (h5 : (wholeM r M w).map (fun x => (obM fn ex x.2).2) = some true) :
    HandSHeadRun.RunEqI r q (hookM fn ex) (obM fn ex) M loose w := by
  obtain ⟨x, hx, e1⟩ := Option.map_eq_some_iff.mp h1
  rw [hx] at h2 h3 h4 h5
  have e2 := Option.some.inj h2
  have e3 := Option.some.inj h3
  have e4 := Option.some.inj h4
  have e5 := Option.some.inj h5
  unfold HandSHeadRun.RunEqI
  have hx : HandSHeadRun.wholeF (fun p => HandSHeadRun.stepQ (HandSHeadRun.denQ HandSHeadRun.tabQ) p w) HandSHeadRun.fenceQ M r.prog = some x := hx
  rw [hx]
  refine congrArg some (Prod.ext e1 (Prod.ext e2 (Prod.ext (Prod.ext e3 e4) e5)))
end Mini
namespace K74
open PySem PySem.Spec PyProof.Rows L2 Mini
def txtAt (i : Nat) : Stmt := PySem.Challenge.pw_shaftshakes_k74_whole_ends_of_machines.main.body.getD i (.Pass ⟨0, 0, 0, 0⟩)
def d0 : DefT := ⟨"is_whole", txtAt 7, ["value"], ["value"]⟩
def d1 : DefT := ⟨"is_between", txtAt 8, ["value", "low", "high"], ["value", "low", "high"]⟩
def d2 : DefT := ⟨"are_wholes", txtAt 9, ["value", "size", "number"], ["value", "size"]⟩
def d3 : DefT := ⟨"is_fraction", txtAt 10, ["value"], ["value"]⟩
def d4 : DefT := ⟨"is_amount", txtAt 11, ["value"], ["value"]⟩
def d5 : DefT := ⟨"is_pace", txtAt 12, ["value"], ["value"]⟩
def d6 : DefT := ⟨"common", txtAt 13, ["numbers", "found", "number"], ["numbers"]⟩
def d7 : DefT := ⟨"fraction_of", txtAt 14, ["upper", "lower", "divisor"], ["upper", "lower"]⟩
def d8 : DefT := ⟨"fraction_product", txtAt 15, ["one", "two"], ["one", "two"]⟩
def d9 : DefT := ⟨"trimmed", txtAt 17, ["numbers", "many"], ["numbers"]⟩
def d10 : DefT := ⟨"padded", txtAt 18, ["polynomial", "many"], ["polynomial", "many"]⟩
def d11 : DefT := ⟨"summed", txtAt 19, ["polynomial", "other", "many", "one", "two"], ["polynomial", "other"]⟩
def d12 : DefT := ⟨"scaled", txtAt 20, ["polynomial", "factor", "number"], ["polynomial", "factor"]⟩
def d13 : DefT := ⟨"multiplied", txtAt 21, ["polynomial", "other", "found", "at", "one", "by", "two"], ["polynomial", "other"]⟩
def d14 : DefT := ⟨"thinned", txtAt 22, ["polynomial", "part", "number"], ["polynomial"]⟩
def d15 : DefT := ⟨"is_root", txtAt 27, ["value"], ["value"]⟩
def d16 : DefT := ⟨"is_branch", txtAt 28, ["value", "index"], ["value", "index"]⟩
def d17 : DefT := ⟨"is_machine", txtAt 29, ["value", "place", "disc"], ["value"]⟩
def d18 : DefT := ⟨"check_machine", txtAt 30, ["value"], ["value"]⟩
def d19 : DefT := ⟨"geared_out", txtAt 31, ["machine", "squares", "found", "inertia", "wall", "parent", "stiffness", "gear", "square", "parts", "each"], ["machine"]⟩
def d20 : DefT := ⟨"made_whole", txtAt 32, ["machine", "rows", "factor", "found", "inertia", "wall", "parent", "stiffness", "whole", "disc", "each"], ["machine"]⟩
def d21 : DefT := ⟨"ends_in", txtAt 33, ["rows", "place", "ends", "holds", "held", "rest", "child", "row", "stiffer"], ["rows"]⟩
def d22 : DefT := ⟨"end_in", txtAt 34, ["machine"], ["machine"]⟩
def d23 : DefT := ⟨"ungeared", txtAt 35, ["machine"], ["machine"]⟩
def d24 : DefT := ⟨"machine_end", txtAt 36, ["machine"], ["machine"]⟩
def d25 : DefT := ⟨"_law_spring", txtAt 38, ["_law_script", "_law_turn", "_law_own", "_law_stirred", "_law_cell"], ["_law_script", "_law_turn"]⟩
def d26 : DefT := ⟨"_law_pull", txtAt 39, ["_law_spring_here", "_law_many", "_law_figure"], ["_law_spring_here", "_law_many"]⟩
def d27 : DefT := ⟨"_law_from", txtAt 40, ["_law_spring_here", "_law_things"], ["_law_spring_here", "_law_things"]⟩
def d28 : DefT := ⟨"_law_common", txtAt 41, ["_law_one", "_law_two"], ["_law_one", "_law_two"]⟩
def d29 : DefT := ⟨"_law_frac", txtAt 42, ["_law_one", "_law_two", "_law_part"], ["_law_one", "_law_two"]⟩
def d30 : DefT := ⟨"_law_plus", txtAt 43, ["_law_one", "_law_two"], ["_law_one", "_law_two"]⟩
def d31 : DefT := ⟨"_law_by", txtAt 44, ["_law_one", "_law_two"], ["_law_one", "_law_two"]⟩
def d32 : DefT := ⟨"_law_cut", txtAt 45, ["_law_row", "_law_many", "_law_turn"], ["_law_row"]⟩
def d33 : DefT := ⟨"_law_add", txtAt 46, ["_law_one", "_law_two", "_law_long", "_law_first", "_law_second", "_law_k"], ["_law_one", "_law_two"]⟩
def d34 : DefT := ⟨"_law_mul", txtAt 47, ["_law_one", "_law_two", "_law_found", "_law_k", "_law_i"], ["_law_one", "_law_two"]⟩
def d35 : DefT := ⟨"_law_thin", txtAt 48, ["_law_rows", "_law_row", "_law_whole", "_law_under", "_law_part", "_law_each"], ["_law_rows"]⟩
def d36 : DefT := ⟨"_law_weight", txtAt 49, ["_law_spring_here"], ["_law_spring_here"]⟩
def d37 : DefT := ⟨"_law_stay", txtAt 50, ["_law_spring_here"], ["_law_spring_here"]⟩
def d38 : DefT := ⟨"_law_ratio_of", txtAt 51, ["_law_spring_here"], ["_law_spring_here"]⟩
def d39 : DefT := ⟨"_law_machine", txtAt 52, ["_law_spring_here", "_law_most", "_law_twig", "_law_k", "_law_many", "_law_found", "_law_own", "_law_at", "_law_stiff", "_law_ratio"], ["_law_spring_here", "_law_most"]⟩
def d40 : DefT := ⟨"_law_out", txtAt 53, ["_law_works", "_law_turns", "_law_found", "_law_inertia", "_law_shut", "_law_at", "_law_stiff", "_law_ratio", "_law_turn", "_law_square"], ["_law_works"]⟩
def d41 : DefT := ⟨"_law_parts", txtAt 54, ["_law_works", "_law_at", "_law_k", "_law_top", "_law_under", "_law_whole", "_law_one", "_law_two"], ["_law_works", "_law_at"]⟩
def d42 : DefT := ⟨"_law_end", txtAt 55, ["_law_works"], ["_law_works"]⟩
def d43 : DefT := ⟨"_law_turned", txtAt 56, ["_law_spring_here", "_law_works", "_law_found", "_law_each", "_law_ratio"], ["_law_spring_here", "_law_works"]⟩
def d44 : DefT := ⟨"_law_grown", txtAt 57, ["_law_works", "_law_number", "_law_found", "_law_each"], ["_law_works", "_law_number"]⟩
def d45 : DefT := ⟨"_law_right", txtAt 58, ["_law_spring_here", "_law_works", "_law_due", "_law_some", "_law_each"], ["_law_spring_here"]⟩
def d46 : DefT := ⟨"law", txtAt 59, ["_law_script", "_law_turn"], ["_law_script"]⟩
def ds : List DefT := ([d0, d1, d2, d3, d4, d5, d6, d7, d8, d9, d10, d11, d12, d13, d14, d15, d16, d17, d18, d19] : List DefT) ++ ([d20, d21, d22, d23, d24, d25, d26, d27, d28, d29, d30, d31, d32, d33, d34, d35, d36, d37, d38, d39] : List DefT) ++ ([d40, d41, d42, d43, d44, d45, d46] : List DefT)
def tab : Tab := ⟨([("is_whole", 0), ("is_between", 1), ("are_wholes", 2), ("is_fraction", 3), ("is_amount", 4), ("is_pace", 5), ("common", 6), ("fraction_of", 7), ("fraction_product", 8), ("trimmed", 9), ("padded", 10), ("summed", 11), ("scaled", 12), ("multiplied", 13), ("thinned", 14), ("is_root", 15), ("is_branch", 16), ("is_machine", 17), ("check_machine", 18), ("geared_out", 19)] : List (Str × Nat)) ++ ([("made_whole", 20), ("ends_in", 21), ("end_in", 22), ("ungeared", 23), ("machine_end", 24), ("_law_spring", 25), ("_law_pull", 26), ("_law_from", 27), ("_law_common", 28), ("_law_frac", 29), ("_law_plus", 30), ("_law_by", 31), ("_law_cut", 32), ("_law_add", 33), ("_law_mul", 34), ("_law_thin", 35), ("_law_weight", 36), ("_law_stay", 37), ("_law_ratio_of", 38), ("_law_machine", 39)] : List (Str × Nat)) ++ ([("_law_out", 40), ("_law_parts", 41), ("_law_end", 42), ("_law_turned", 43), ("_law_grown", 44), ("_law_right", 45), ("law", 46)] : List (Str × Nat)), [(24, 0, ["machine"], [0]), (23, 0, ["machine"], [0])], [("ZERO", (.tup [(.int 0), (.int 1)])), ("ONE", (.tup [(.int 1), (.int 1)])), ("MOST_DISCS", (.int 8)), ("ROOT_PARTS", (.int 2)), ("DISC_PARTS", (.int 5))], ["abs", "all", "bool", "enumerate", "int", "isinstance", "len", "list", "max", "range", "repr", "tuple", "zip"], ["gcd"], [], [], [], [], ["lcm"]⟩
def fn : List He.DefD := ds.map DefT.dd
def ex (K : PySem.W.Frag) : Bool := headB tab ds K
def names : List PySem.Str := (["__name__", "ShaftError", "InvalidMachine", "ZERO", "ONE", "is_whole", "is_between", "are_wholes", "is_fraction", "is_amount", "is_pace", "common", "fraction_of", "fraction_product", "trimmed", "padded", "summed", "scaled", "multiplied", "thinned", "MOST_DISCS", "ROOT_PARTS", "DISC_PARTS", "is_root", "is_branch", "is_machine", "check_machine", "geared_out", "made_whole", "ends_in"] : List PySem.Str) ++ (["end_in", "ungeared", "machine_end", "_law_spring", "_law_pull", "_law_from", "_law_common", "_law_frac", "_law_plus", "_law_by", "_law_cut", "_law_add", "_law_mul", "_law_thin", "_law_weight", "_law_stay", "_law_ratio_of", "_law_machine", "_law_out", "_law_parts", "_law_end", "_law_turned", "_law_grown", "_law_right"] : List PySem.Str)
set_option maxRecDepth 100000 in
set_option maxHeartbeats 0 in
theorem run (w : World) : HandSHeadRun.RunEqI (PySem.W.OpenLaw.row PySem.Challenge.rw_shaftshakes_k74_whole_ends_of_machines) (PySem.W.view (PySem.W.OpenLaw.row PySem.Challenge.rw_shaftshakes_k74_whole_ends_of_machines).prog [0, 59]) (hookM fn ex) (obM fn ex) 4600 names w := by
  unfold HandSHeadRun.RunEqI
  kernel_rfl
end K74
/-! Mini: the evaluator. -/
namespace Mini
open PySem

/-- a new cell -/
def new (c : Cl) (S : Sto) : Res D := .ok (.ref S.length) (S ++ [c])
def lstAt (S : Sto) (n : Nat) : Option (List D) := match S[n]? with
  | some (.lst xs) => some xs
  | _ => none
def mulOk (i j : Int) : Bool := decide ((Builtin.Int.intBits i : Int) + (Builtin.Int.intBits j : Int) ≤ 134217728)
def divOk (i j : Int) : Bool := j != 0 && !Builtin.divisionGoesByPylong i j
/-- math.lcm's line -/
def lcmOk (n : Nat) : Bool := decide (n < 2 ^ 13000)
def powOk (i j : Int) : Bool := decide (0 ≤ j) && decide (j ≤ 1000000) && decide (i.natAbs < 2 ^ 64)

def addE (S : Sto) : D → D → Res D
  | .int i, .int j => .ok (.int (i + j)) S
  | .str x, .str y => if x.length + y.length ≤ lineN then .ok (.str (x ++ y)) S else .no
  | .tup xs, .tup ys => if xs.length + ys.length ≤ lineN then .ok (.tup (xs ++ ys)) S else .no
  | .ref a, .ref b => match lstAt S a, lstAt S b with
    | some xs, some ys => if xs.length + ys.length ≤ lineN then new (.lst (xs ++ ys)) S else .no
    | _, _ => .no
  | _, _ => .no
def mulE (S : Sto) : D → D → Res D
  | .int i, .int j => if mulOk i j then .ok (.int (i * j)) S else .no
  | .tup xs, .int k => if k = 1 then .ok (.tup xs) S else if k = 0 ∧ xs.isEmpty = false then .ok (.tup []) S else if !xs.isEmpty && decide (2 ≤ k) && decide (k ≤ 1000) && decide (xs.length ≤ 1000) then .ok (.tup (List.replicate k.toNat xs).flatten) S else .no
  | .ref a, .int k => match lstAt S a with
    | some xs => if decide (-(2 ^ 63) ≤ k) && decide (k < 2 ^ 63) && decide (xs.length * k.toNat ≤ lineN) then new (.lst (List.replicate k.toNat xs).flatten) S else .no
    | _ => .no
  | _, _ => .no
def binE (o : Bop) (a b : D) (S : Sto) : Res D := match o with
  | .add => addE S a b
  | .mul => mulE S a b
  | .sub => match a, b with
    | .int i, .int j => .ok (.int (i - j)) S
    | _, _ => .no
  | .fdiv => match a, b with
    | .int i, .int j => if divOk i j then .ok (.int (i.fdiv j)) S else .no
    | _, _ => .no
  | .mod => match a, b with
    | .int i, .int j => if j != 0 then .ok (.int (i.fmod j)) S else .no
    | _, _ => .no
  | .pow => match a, b with
    | .int i, .int j => if powOk i j then .ok (.int (i ^ j.toNat)) S else .no
    | _, _ => .no
  | .band => match a, b with
    | .int i, .int j => .ok (.int (Builtin.bitAnd i j)) S
    | _, _ => .no

/-- the depth to which data is compared -/
def deepN : Nat := 20
def eqE (S : Sto) (a b : D) : Option Bool := match toD S deepN a, toD S deepN b with
  | some d, some e => if SeqAt.shaped d && SeqAt.shaped e then some (PyData.eqv d e) else none
  | _, _ => none
def isE : D → D → Option Bool
  | .glb _, _ => none
  | .non, .non => some true
  | .bl a, .bl b => some (decide (a = b))
  | .non, _ => none
  | _, .non => some false
  | _, _ => none
def inE (S : Sto) (a b : D) : Option Bool := match toD S deepN a, toD S deepN b with
  | some d, some (.list es) => if SeqAt.shaped d && SeqAt.shaped (.list es) then some (es.any fun z => PyData.eqv z d) else none
  | some d, some (.tuple es) => if SeqAt.shaped d && SeqAt.shaped (.tuple es) then some (es.any fun z => PyData.eqv z d) else none
  | _, _ => none
def cmpE (o : Cop) (a b : D) (S : Sto) : Option Bool := match o with
  | .eq => eqE S a b
  | .ne => (eqE S a b).map (!·)
  | .is => isE a b
  | .isnot => (isE a b).map (!·)
  | .isin => inE S a b
  | .notin => (inE S a b).map (!·)
  | .lt => match a, b with
    | .int i, .int j => some (decide (i < j))
    | _, _ => none
  | .le => match a, b with
    | .int i, .int j => some (decide (i ≤ j))
    | _, _ => none
  | .gt => match a, b with
    | .int i, .int j => some (decide (j < i))
    | _, _ => none
  | .ge => match a, b with
    | .int i, .int j => some (decide (j ≤ i))
    | _, _ => none

def intsOf : List D → Option (List Int)
  | [] => some []
  | .int i :: r => (intsOf r).map (i :: ·)
  | _ :: _ => none
def boolsOf : List D → Option (List Bool)
  | [] => some []
  | .bl b :: r => (boolsOf r).map (b :: ·)
  | _ :: _ => none
def maxL : List Int → Option Int
  | [] => none
  | x :: xs => some (xs.foldl (fun m y => if y > m then y else m) x)
def minL : List Int → Option Int
  | [] => none
  | x :: xs => some (xs.foldl (fun m y => if y < m then y else m) x)
def tyOf (S : Sto) : D → Option Ty
  | .int _ => some .int
  | .bl _ => some .bool
  | .str _ => some .str
  | .tup _ => some .tuple
  | .ref n => match S[n]? with
    | some (.lst _) => some .list
    | some .dct => some .dict
    | _ => none
  | _ => none
def isiE (S : Sto) (a : D) (t : Ty) : Option Bool := match a with
  | .non => some false
  | a => match tyOf S a with
    | some u => some (decide (u = t) || (decide (u = .bool) && decide (t = .int)))
    | none => none
def fnE (g : Fn) (ds : List D) (S : Sto) : Res D := match g, ds with
  | .len, [.tup xs] => .ok (.int xs.length) S
  | .len, [.ref n] => match seqAt S n with
    | some xs => .ok (.int xs.length) S
    | none => .no
  | .len, [.str x] => if x.length ≤ lineN then .ok (.int x.length) S else .no
  | .abs, [.int i] => .ok (.int (if i < 0 then -i else i)) S
  | .max, [.int i, .int j] => .ok (.int (if j > i then j else i)) S
  | .min, [.int i, .int j] => .ok (.int (if j < i then j else i)) S
  | .max, [.ref n] => match (seqAt S n).bind intsOf with
    | some ns => ofOpt S ((maxL ns).map D.int)
    | none => .no
  | .min, [.ref n] => match (seqAt S n).bind intsOf with
    | some ns => ofOpt S ((minL ns).map D.int)
    | none => .no
  | .int, [.int i] => .ok (.int i) S
  | .int, [.bl b] => .ok (.int (if b then 1 else 0)) S
  | .tuple, [.tup xs] => .ok (.tup xs) S
  | .tuple, [.ref n] => match seqAt S n with
    | some xs => .ok (.tup xs) S
    | none => .no
  | .list, [.tup xs] => new (.lst xs) S
  | .list, [.ref n] => match seqAt S n with
    | some xs => new (.lst xs) S
    | none => .no
  | .sum, [.ref n] => match (seqAt S n).bind intsOf with
    | some ns => .ok (.int ns.sum) S
    | none => .no
  | .all, [.ref n] => match (seqAt S n).bind boolsOf with
    | some bs => .ok (.bl (bs.all id)) S
    | none => .no
  | .any, [.ref n] => match (seqAt S n).bind boolsOf with
    | some bs => .ok (.bl (bs.any id)) S
    | none => .no
  | .divmod, [.int i, .int j] => if decide (0 < j) && !Builtin.divisionGoesByPylong i j then .ok (.tup [.int (i / j), .int (i % j)]) S else .no
  | .gcd, [.int i, .int j] => .ok (.int ((Nat.gcd i.natAbs j.natAbs : Nat) : Int)) S
  | .lcm, [.int i, .int j] => if lcmOk i.natAbs && lcmOk j.natAbs then .ok (.int ((Nat.lcm i.natAbs j.natAbs : Nat) : Int)) S else .no
  | .lcm, [.int i, .int j, .int k, .int l] => if lcmOk i.natAbs && lcmOk j.natAbs && lcmOk k.natAbs && lcmOk l.natAbs && lcmOk (i.natAbs.lcm j.natAbs) && lcmOk ((i.natAbs.lcm j.natAbs).lcm k.natAbs) then .ok (.int ((((Nat.lcm i.natAbs j.natAbs).lcm k.natAbs).lcm l.natAbs : Nat) : Int)) S else .no
  | .str, [.int i] => if i.natAbs.log2 < 1920 then .ok (.str (Str.ofString (toString i))) S else .no
  | .str, [.str x] => .ok (.str x) S
  | .repr, [d] => match toD S deepN d with
    | some e => if e.showable && decide (e.shown.length ≤ lineN) then .ok (.str e.shown) S else .no
    | none => .no
  | .isi t, [d] => ofOpt S ((isiE S d t).map D.bl)
  | _, _ => .no

def ixE (S : Sto) : D → D → Option D
  | .tup xs, .int i => L2.atI xs i
  | .ref n, .int i => (seqAt S n).bind fun xs => L2.atI xs i
  | _, _ => none
def ixL (S : Sto) : D → D → Option D
  | .ref n, .int i => (lstAt S n).bind fun xs => L2.atI xs i
  | _, _ => none
/-- a slice -/
def cutD (xs : List D) (lo hi : Option Int) : List D := (xs.drop (HT.sIx xs.length 0 lo)).take (HT.sIx xs.length xs.length hi - HT.sIx xs.length 0 lo)
def partI : D → Option Int
  | .int i => some i
  | _ => none
def slE (o : D) (l h : Option Int) (S : Sto) : Res D := match o with
  | .tup xs => .ok (.tup (cutD xs l h)) S
  | .ref n => match seqAt S n with
    | some xs => new (.lst (cutD xs l h)) S
    | none => .no
  | _ => .no
def revE (o : D) (S : Sto) : Res D := match o with
  | .tup xs => .ok (.tup xs.reverse) S
  | .ref n => match lstAt S n with
    | some xs => new (.lst xs.reverse) S
    | none => .no
  | _ => .no
/-- xs[:k:-1] of a tuple -/
def revTE (o k : D) (S : Sto) : Res D := match o, k with
  | .tup xs, .int k => if 0 ≤ k then .ok (.tup (xs.drop (k.toNat + 1)).reverse) S else .no
  | _, _ => .no
/-- (*a, *b) of two tuples -/
def tupE : D → Option (List D)
  | .tup xs => some xs
  | _ => none
def isLst (S : Sto) : D → Bool
  | .ref n => (lstAt S n).isSome
  | _ => false
def meE (m : Me) (o : D) (ds : List D) (S : Sto) : Res D := match m, o, ds with
  | .append, .ref n, [d] => match lstAt S n with
    | some xs => if xs.length < lineN then .ok .non (S.set n (.lst (xs ++ [d]))) else .no
    | none => .no
  | .extend, .ref n, [.ref k] => match lstAt S n, lstAt S k with
    | some xs, some ys => if xs.length + ys.length ≤ lineN then .ok .non (S.set n (.lst (xs ++ ys))) else .no
    | _, _ => .no
  | .pop, .ref n, [] => match lstAt S n with
    | some xs => match xs[xs.length - 1]? with
      | some d => .ok d (S.set n (.lst xs.dropLast))
      | none => .no
    | none => .no
  | .count, .ref n, [d] => match toD S deepN d, toD S deepN (.ref n) with
    | some f, some (.list es) => if SeqAt.shaped f && SeqAt.shaped (.list es) then .ok (.int ((es.countP fun z => PyData.eqv z f : Nat) : Int)) S else .no
    | _, _ => .no
  | .index, .ref n, [d] => match toD S deepN d, toD S deepN (.ref n) with
    | some f, some (.list es) => if SeqAt.shaped f && SeqAt.shaped (.list es) then (match es.findIdx? fun z => PyData.eqv z f with
      | some j => .ok (.int (j : Nat)) S
      | none => .no) else .no
    | _, _ => .no
  | _, _, _ => .no

def negE (x : D) (S : Sto) : Res D := match x with
  | .int i => .ok (.int (-i)) S
  | _ => .no
def fldE (f : Str) (x : D) (S : Sto) : Res D := match x with
  | .ref n => match S[n]? with
    | some (.ins _ fs) => ofOpt S (fs.lookup f)
    | _ => .no
  | _ => .no
def putFs (f : Str) (d : D) : List (Str × D) → List (Str × D)
  | [] => [(f, d)]
  | (g, e) :: r => if g = f then (g, d) :: r else (g, e) :: putFs f d r
/-- what a for walks -/
inductive Stp where | item (d : D) | stop | bad
abbrev Src := Nat → Sto → Stp
def srcL (xs : List D) : Src := fun i _ => match xs[i]? with
  | some d => .item d
  | none => .stop
def srcR (n : Nat) : Src := fun i S => match seqAt S n with
  | some xs => srcL xs i S
  | none => .bad
def rngL (lo : Int) (n : Nat) : Src := fun i _ => if i < n then .item (.int (lo + (i : Int))) else .stop
def rngC (lo c : Int) (n : Nat) : Src := fun i _ => if i < n then .item (.int (lo + (i : Int) * c)) else .stop
def pairS (s t : Src) : Src := fun i S => match s i S, t i S with
  | .item a, .item b => .item (.tup [a, b])
  | .stop, .item _ => .stop
  | .item _, .stop => .stop
  | .stop, .stop => .stop
  | _, _ => .bad
def enumS (s : Src) : Src := fun i S => match s i S with
  | .item a => .item (.tup [.int (i : Int), a])
  | .stop => .stop
  | .bad => .bad
def srcOf (S : Sto) : D → Option Src
  | .tup xs => some (srcL xs)
  | .ref n => match seqAt S n with
    | some _ => some (srcR n)
    | none => none
  | _ => none
/-- a list's or a tuple's items -/
def rowOf (S : Sto) : D → Option (List D)
  | .tup xs => some xs
  | .ref n => seqAt S n
  | _ => none
/-- a list and a tuple, as long as each other -/
def zip2S (a b : D) : Src := fun i S => match rowOf S a, rowOf S b with
  | some xs, some ys => (match xs[i]?, ys[i]? with
    | some x, some y => .item (.tup [x, y])
    | none, none => if xs.length = i ∧ ys.length = i then .stop else .bad
    | _, _ => .bad)
  | _, _ => .bad
def zip2Of (S : Sto) (a b : D) : Option Src := match rowOf S a, rowOf S b with
  | some _, some _ => some (zip2S a b)
  | _, _ => none
def mixD : D → D → Bool
  | .tup _, .ref _ => true
  | .ref _, .tup _ => true
  | _, _ => false
def zipOf (S : Sto) : D → D → Option Src
  | .tup xs, .tup ys => some (pairS (srcL xs) (srcL ys))
  | .ref m, .ref n => match seqAt S m, seqAt S n with
    | some _, some _ => some (pairS (srcR m) (srcR n))
    | _, _ => none
  | a, b => if mixD a b then zip2Of S a b else none
def zip3S (a b c : D) : Src := fun i S => match rowOf S a, rowOf S b, rowOf S c with
  | some xs, some ys, some zs => (match xs[i]?, ys[i]?, zs[i]? with
    | some x, some y, some u => .item (.tup [x, y, u])
    | none, none, none => if xs.length = i ∧ ys.length = i ∧ zs.length = i then .stop else .bad
    | _, _, _ => .bad)
  | _, _, _ => .bad
def zip3Of (S : Sto) (a b c : D) : Option Src := match rowOf S a, rowOf S b, rowOf S c with
  | some _, some _, some _ => some (zip3S a b c)
  | _, _, _ => none
def enumOf (S : Sto) : D → Option Src
  | .tup xs => some (enumS (srcL xs))
  | .ref n => match seqAt S n with
    | some _ => some (enumS (srcR n))
    | none => none
  | _ => none
def storeE (x y d : D) (S : Sto) : Option Sto := match x, y with
  | .ref n, .int k => match lstAt S n with
    | some xs => match L2.ixN xs.length k with
      | some j => some (S.set n (.lst (xs.set j d)))
      | none => none
    | none => none
  | _, _ => none
def putE (f : Str) (x d : D) (S : Sto) : Option Sto := match x with
  | .ref n => match S[n]? with
    | some (.ins c fs) => if fs.length < 1000 then some (S.set n (.ins c (putFs f d fs))) else none
    | _ => none
  | _ => none
def seqD (S : Sto) : D → Option (List D)
  | .tup xs => some xs
  | .ref n => seqAt S n
  | _ => none
def ofSto (ρ : Loc) : Option Sto → Res Loc
  | some S => .ok ρ S
  | none => .no
def augE (x y : D) (o : Bop) : Option D := match x, y, o with
  | .int a, .int b, .add => some (.int (a + b))
  | _, _, _ => none
def inR (i : Int) : Bool := decide (-(2 ^ 62) ≤ i) && decide (i < 2 ^ 62)

def rng1E : D → Option Src
  | .int i => if inR i then some (rngL 0 i.toNat) else none
  | _ => none
def rng2E : D → D → Option Src
  | .int i, .int j => if inR i && inR j then some (rngL i (j - i).toNat) else none
  | _, _ => none
def rng3E : D → D → D → Option Src
  | .int i, .int j, .int c => if c = -1 ∧ inR i ∧ inR j then some (rngC i (-1) (i - j).toNat) else none
  | _, _, _ => none

/-- list(range(i, j)) -/
def lrgE (S : Sto) : D → D → Res D
  | .int i, .int j => if inR i && inR j && decide ((j - i).toNat ≤ lineN) then new (.lst ((List.range (j - i).toNat).map fun (k : Nat) => .int (i + (k : Int)))) S else .no
  | _, _ => .no

/-- tuple(range(i, j)) -/
def trgE (S : Sto) : D → D → Res D
  | .int i, .int j => if inR i && inR j && decide ((j - i).toNat ≤ lineN) then .ok (.tup ((List.range (j - i).toNat).map fun (k : Nat) => .int (i + (k : Int)))) S else .no
  | _, _ => .no
/-- isinstance(x, the own class c) -/
def iscE (S : Sto) (x : D) (c : Nat) : Option Bool := match x with
  | .tup _ => some false
  | .ref n => match S[n]? with
    | some (.ins c' _) => if c' = c then some true else none
    | _ => none
  | _ => none
/-- the class of an instance that has no field of this name -/
def ownC (S : Sto) (x : D) (m : Str) : Option Nat := match x with
  | .ref n => match S[n]? with
    | some (.ins c fs) => if (fs.lookup m).isNone then some c else none
    | _ => none
  | _ => none
/-! ### the run -/
structure Pg where
  call : Nat → List D → Sto → Res D
  make : Nat → List D → Sto → Res D
  own : Nat → Str → Bool
  meth : Nat → Str → List D → Sto → Res D
  fuel : Nat

inductive Fl where
  | nx (ρ : Loc) | rt (d : D) | bk (ρ : Loc)

/-- a comprehension's turns: the list stands at n -/
def compN (src : Src) (n : Nat) (body : D → Sto → Res (Option D)) : Nat → Nat → Sto → Res D
  | 0, _, _ => .no
  | k + 1, i, S => match src i S with
    | .bad => .no
    | .stop => .ok (.ref n) S
    | .item d => (body d S).bind fun r S1 => match r with
      | none => compN src n body k (i + 1) S1
      | some e => match lstAt S1 n with
        | some ys => if ys.length < lineN then compN src n body k (i + 1) (S1.set n (.lst (ys ++ [e]))) else .no
        | none => .no
def forN (src : Src) (body : D → Sto → Loc → Res Fl) : Nat → Nat → Sto → Loc → Res Fl
  | 0, _, _, _ => .no
  | k + 1, i, S, ρ => match src i S with
    | .bad => .no
    | .stop => .ok (.nx ρ) S
    | .item d => (body d S ρ).bind fun f S1 => match f with
      | .nx ρ1 => forN src body k (i + 1) S1 ρ1
      | .rt e => .ok (.rt e) S1
      | .bk ρ1 => .ok (.nx ρ1) S1
def whileN (c : Loc → Sto → Res Bool) (body : Loc → Sto → Res Fl) : Nat → Loc → Sto → Res Fl
  | 0, _, _ => .no
  | k + 1, ρ, S => (c ρ S).bind fun b S1 => if b then (body ρ S1).bind fun f S2 => match f with
      | .nx ρ1 => whileN c body k ρ1 S2
      | .rt e => .ok (.rt e) S2
      | .bk ρ1 => .ok (.nx ρ1) S2
    else .ok (.nx ρ) S1
def wipeL (ρ : Loc) : List Nat → Loc
  | [] => ρ
  | v :: vs => (wipeL ρ vs).set v none
def permD (ds : List D) : Option (List Nat) → Option (List D)
  | none => some ds
  | some p => p.mapM fun i => ds[i]?

mutual
def evE (p : Pg) : Ex → Loc → Sto → Res D
  | .var i, ρ, S => match ρ[i]? with
    | some (some d) => .ok d S
    | _ => .no
  | .con d, _, S => .ok d S
  | .dct, _, S => new .dct S
  | .tup es, ρ, S => (evEs p es ρ S).bind fun ds S1 => .ok (.tup ds) S1
  | .lst es, ρ, S => (evEs p es ρ S).bind fun ds S1 => new (.lst ds) S1
  | .bin o a b, ρ, S => (evE p a ρ S).bind fun x S1 => (evE p b ρ S1).bind fun y S2 => binE o x y S2
  | .neg a, ρ, S => (evE p a ρ S).bind negE
  | .not a, ρ, S => (evE p a ρ S).bind fun x S1 => ofOpt S1 ((truth S1 x).map fun b => .bl (!b))
  | .and a b, ρ, S => (evE p a ρ S).bind fun x S1 => (ofOpt S1 (truth S1 x)).bind fun t S1 => if t then evE p b ρ S1 else .ok x S1
  | .or a b, ρ, S => (evE p a ρ S).bind fun x S1 => (ofOpt S1 (truth S1 x)).bind fun t S1 => if t then .ok x S1 else evE p b ρ S1
  | .cmp o a b, ρ, S => (evE p a ρ S).bind fun x S1 => (evE p b ρ S1).bind fun y S2 => ofOpt S2 ((cmpE o x y S2).map .bl)
  | .chain o o' a b c, ρ, S => (evE p a ρ S).bind fun x S1 => (evE p b ρ S1).bind fun y S2 => (ofOpt S2 (cmpE o x y S2)).bind fun t S2 =>
      if t then (evE p c ρ S2).bind fun z S3 => ofOpt S3 ((cmpE o' y z S3).map .bl) else .ok (.bl false) S2
  | .ite c a b, ρ, S => (evE p c ρ S).bind fun x S1 => (ofOpt S1 (truth S1 x)).bind fun t S1 => if t then evE p a ρ S1 else evE p b ρ S1
  | .call f es q, ρ, S => (evEs p es ρ S).bind fun ds S1 => (ofOpt S1 (permD ds q)).bind fun ds S1 => p.call f ds S1
  | .make c es, ρ, S => (evEs p es ρ S).bind fun ds S1 => p.make c ds S1
  | .fn g es, ρ, S => (evEs p es ρ S).bind fun ds S1 => fnE g ds S1
  | .me m o es, ρ, S => (evE p o ρ S).bind fun x S1 => if isLst S1 x then (evEs p es ρ S1).bind fun ds S2 => meE m x ds S2 else .no
  | .meth m o es, ρ, S => (evE p o ρ S).bind fun x S1 => (ofOpt S1 (ownC S1 x m)).bind fun c S1 => if p.own c m then (evEs p es ρ S1).bind fun ds S2 => p.meth c m (x :: ds) S2 else .no
  | .isc e c, ρ, S => (evE p e ρ S).bind fun x S1 => ofOpt S1 ((iscE S1 x c).map D.bl)
  | .fld o f, ρ, S => (evE p o ρ S).bind (fldE f)
  | .ix o i, ρ, S => (evE p o ρ S).bind fun x S1 => (evE p i ρ S1).bind fun y S2 => ofOpt S2 (ixE S2 x y)
  | .sl o lo hi, ρ, S => (evE p o ρ S).bind fun x S1 => (evO p lo ρ S1).bind fun l S2 => (evO p hi ρ S2).bind fun h S3 => slE x l h S3
  | .rev o, ρ, S => (evE p o ρ S).bind fun x S1 => revE x S1
  | .revT o k, ρ, S => (evE p o ρ S).bind fun x S1 => (evE p k ρ S1).bind fun y S2 => revTE x y S2
  | .cat2 a b, ρ, S => (evE p a ρ S).bind fun x S1 => (ofOpt S1 (tupE x)).bind fun xs S1 => (evE p b ρ S1).bind fun y S2 => (ofOpt S2 (tupE y)).bind fun ys S2 => if xs.length + ys.length ≤ 1000 then .ok (.tup (xs ++ ys)) S2 else .no
  | .mid3 a b c, ρ, S => (evE p a ρ S).bind fun x S1 => (evE p b ρ S1).bind fun y S2 => (ofOpt S2 (tupE y)).bind fun ys S2 => (evE p c ρ S2).bind fun z S3 => if ys.length ≤ 900 then new (.lst (x :: (ys ++ [z]))) S3 else .no
  | .comp t it cs elt own, ρ, S => (evI p it ρ S).bind fun src S1 =>
      compN src S1.length (fun d S => ((asg p t d (wipeL ρ own) S).bind fun ρ1 S1 => (evT p cs ρ1 S1).bind fun b S2 =>
        if b then (evE p elt ρ1 S2).bind fun e S3 => .ok (some e) S3 else .ok none S2).noex) p.fuel 0 (S1 ++ [.lst []])
  | .lrg1 a, ρ, S => (evE p a ρ S).bind fun x S1 => lrgE S1 (.int 0) x
  | .lrg2 a b, ρ, S => (evE p a ρ S).bind fun x S1 => (evE p b ρ S1).bind fun y S2 => lrgE S2 x y
  | .trg1 a, ρ, S => (evE p a ρ S).bind fun x S1 => trgE S1 (.int 0) x
  | .trg2 a b, ρ, S => (evE p a ρ S).bind fun x S1 => (evE p b ρ S1).bind fun y S2 => trgE S2 x y
def evEs (p : Pg) : List Ex → Loc → Sto → Res (List D)
  | [], _, S => .ok [] S
  | e :: es, ρ, S => (evE p e ρ S).bind fun d S1 => (evEs p es ρ S1).bind fun ds S2 => .ok (d :: ds) S2
def evO (p : Pg) : Option Ex → Loc → Sto → Res (Option Int)
  | none, _, S => .ok none S
  | some e, ρ, S => (evE p e ρ S).bind fun d S1 => ofOpt S1 ((partI d).map some)
/-- all tests -/
def evT (p : Pg) : List Ex → Loc → Sto → Res Bool
  | [], _, S => .ok true S
  | e :: es, ρ, S => (evE p e ρ S).bind fun d S1 => (ofOpt S1 (truth S1 d)).bind fun b S1 => if b then evT p es ρ S1 else .ok false S1
def evI (p : Pg) : It → Loc → Sto → Res Src
  | .val e, ρ, S => (evE p e ρ S).bind fun x S1 => ofOpt S1 (srcOf S1 x)
  | .rng1 a, ρ, S => (evE p a ρ S).bind fun x S1 => ofOpt S1 (rng1E x)
  | .rng2 a b, ρ, S => (evE p a ρ S).bind fun x S1 => (evE p b ρ S1).bind fun y S2 => ofOpt S2 (rng2E x y)
  | .rng3 a b c, ρ, S => (evE p a ρ S).bind fun x S1 => (evE p b ρ S1).bind fun y S2 => (evE p c ρ S2).bind fun z S3 => ofOpt S3 (rng3E x y z)
  | .zip a b, ρ, S => (evE p a ρ S).bind fun x S1 => (evE p b ρ S1).bind fun y S2 => ofOpt S2 (zipOf S2 x y)
  | .zip3 a b c, ρ, S => (evE p a ρ S).bind fun x S1 => (evE p b ρ S1).bind fun y S2 => (evE p c ρ S2).bind fun z S3 => ofOpt S3 (zip3Of S3 x y z)
  | .enum a, ρ, S => (evE p a ρ S).bind fun x S1 => ofOpt S1 (enumOf S1 x)
def asg (p : Pg) : Tg → D → Loc → Sto → Res Loc
  | .nm i, d, ρ, S => .ok (ρ.set i (some d)) S
  | .tp ts, d, ρ, S => (ofOpt S (seqD S d)).bind fun xs S => if xs.length = ts.length then asgs p ts xs ρ S else .no
  | .ix o i, d, ρ, S => (evE p o ρ S).bind fun x S1 => (evE p i ρ S1).bind fun y S2 => ofSto ρ (storeE x y d S2)
  | .fd o f, d, ρ, S => (evE p o ρ S).bind fun x S1 => ofSto ρ (putE f x d S1)
def asgs (p : Pg) : List Tg → List D → Loc → Sto → Res Loc
  | [], [], ρ, S => .ok ρ S
  | t :: ts, d :: ds, ρ, S => (asg p t d ρ S).bind fun ρ1 S1 => asgs p ts ds ρ1 S1
  | _, _, _, _ => .no
end

def setsL (ρ : Loc) : List Nat → List D → Loc
  | i :: is, d :: ds => setsL (ρ.set i (some d)) is ds
  | _, _ => ρ
/-- a test's truth -/
def evB (p : Pg) (e : Ex) (ρ : Loc) (S : Sto) : Res Bool := (evE p e ρ S).bind fun d S1 => ofOpt S1 (truth S1 d)
mutual
def evS (p : Pg) : St → Loc → Sto → Res Fl
  | .asg t e, ρ, S => (evE p e ρ S).bind fun d S1 => (asg p t d ρ S1).bind fun ρ1 S2 => .ok (.nx ρ1) S2
  | .par is es, ρ, S => (evEs p es ρ S).bind fun ds S1 => .ok (.nx (setsL ρ is ds)) S1
  | .aug i o e, ρ, S => (evE p (.var i) ρ S).bind fun x S1 => (evE p e ρ S1).bind fun y S2 => (ofOpt S2 (augE x y o)).bind fun z S2 => .ok (.nx (ρ.set i (some z))) S2
  | .augS a b o e, ρ, S => (evE p a ρ S).bind fun x S1 => (evE p b ρ S1).bind fun y S2 => (ofOpt S2 (ixL S2 x y)).bind fun u S2 => (evE p e ρ S2).bind fun v S3 => (ofOpt S3 (augE u v o)).bind fun z S3 => (ofOpt S3 (storeE x y z S3)).bind fun S4 _ => .ok (.nx ρ) S4
  | .ex e, ρ, S => (evE p e ρ S).bind fun _ S1 => .ok (.nx ρ) S1
  | .ite c a b, ρ, S => (evB p c ρ S).bind fun t S1 => if t then evSs p a ρ S1 else evSs p b ρ S1
  | .for_ t it b, ρ, S => (evI p it ρ S).bind fun src S1 => forN src (fun d S ρ => (asg p t d ρ S).bind fun ρ1 S1 => evSs p b ρ1 S1) p.fuel 0 S1 ρ
  | .while_ c b, ρ, S => whileN (evB p c) (evSs p b) p.fuel ρ S
  | .ret e, ρ, S => (evE p e ρ S).bind fun d S1 => .ok (.rt d) S1
  | .ret0, ρ, S => .ok (.rt .non) S
  | .pass, ρ, S => .ok (.nx ρ) S
  | .brk, ρ, S => .ok (.bk ρ) S
  | .bad, _, _ => .no
def evSs (p : Pg) : List St → Loc → Sto → Res Fl
  | [], ρ, S => .ok (.nx ρ) S
  | s :: ss, ρ, S => (evS p s ρ S).bind fun f S1 => match f with
    | .nx ρ1 => evSs p ss ρ1 S1
    | f => .ok f S1
end
/-- a def: how many slots, its body -/
structure Def where
  par : Nat
  slots : Nat
  body : List St
def endD : Fl → Sto → Res D
  | .nx _, S => .ok .non S
  | .rt d, S => .ok d S
  | .bk _, _ => .no
def runD (p : Pg) (d : Def) (ds : List D) (S : Sto) : Res D :=
  if ds.length = d.par then (evSs p d.body (ds.map some ++ List.replicate (d.slots - ds.length) none) S).bind endD else .no
/-- a class: its __init__ -/
structure Clas where
  init : Nat
  meths : List (Str × Nat)
structure Txt where
  defs : List Def
  clss : List Clas
def badPg (fuel : Nat) : Pg := ⟨fun _ _ _ => .no, fun _ _ _ => .no, fun _ _ => false, fun _ _ _ _ => .no, fuel⟩
def nextPg (T : Txt) (p : Pg) : Pg where
  call f ds S := match T.defs[f]? with
    | some d => runD p d ds S
    | none => .no
  make c ds S := match T.clss[c]? with
    | some k => match T.defs[k.init]? with
      | some d => (runD p d (.ref S.length :: ds) (S ++ [.ins c []])).bind fun r S1 => match r with
        | .non => .ok (.ref S.length) S1
        | _ => .no
      | none => .no
    | none => .no
  own c m := ((T.clss[c]?).bind fun k => k.meths.lookup m).isSome
  meth c m ds S := match (T.clss[c]?).bind (fun k => k.meths.lookup m) with
    | some f => match T.defs[f]? with
      | some d => runD p d ds S
      | none => .no
    | none => .no
  fuel := p.fuel
def pgN (T : Txt) (fuel : Nat) : Nat → Pg
  | 0 => badPg fuel
  | n + 1 => nextPg T (pgN T fuel n)
end Mini
/-! Mini: how data, cells, stores lie in the heap. -/
namespace Mini
open PySem PySem.Spec PyProof.Rows L2

structure Gx where
  K : PySem.W.Frag
  gv : Nat → V
  ca : Nat → Addr
structure Ab where
  μ : Nat → Addr
  S : Sto
  H : Hp

mutual
def Rep (G : Gx) (A : Ab) : D → V → Prop
  | .non, v => v = .non
  | .bl b, v => v = .bl b
  | .int i, v => v = .int i
  | .str x, v => v = .str x
  | .tup ds, v => ∃ a xs, v = .ref a ∧ SqT G.K A.H a xs ∧ RepL G A ds xs
  | .ref n, v => n < A.S.length ∧ v = .ref (A.μ n)
  | .glb i, v => v = G.gv i
def RepL (G : Gx) (A : Ab) : List D → List V → Prop
  | [], xs => xs = []
  | d :: ds, xs => ∃ v vs, xs = v :: vs ∧ Rep G A d v ∧ RepL G A ds vs
end
def RepF (G : Gx) (A : Ab) : List (Str × D) → List (Str × V) → Prop
  | [], xs => xs = []
  | (f, d) :: r, xs => ∃ v vs, xs = (f, v) :: vs ∧ Rep G A d v ∧ RepF G A r vs

/-- a list that is only read: locked, or an object of the module -/
def FzL (K : PySem.W.Frag) (H : Hp) (a : Addr) (xs : List V) : Prop :=
  (∃ ob, H a = some (.frz ob (.lst xs))) ∨
    ∃ (o : Obj) (its : Array Value) (n : Nat), K.lookup a = some o ∧ o.cls = .type "list" ∧ o.dict = none ∧ o.data = .seq its n ∧ its.size ≤ sizeLine ∧ Vals xs its.toList
theorem FzL.sq {K : PySem.W.Frag} {H : Hp} {a : Addr} {xs : List V} (h : FzL K H a xs) : SqL K H a xs := h.elim (fun h => .inl (.inr h)) .inr
def CRep (G : Gx) (A : Ab) (a : Addr) : Cl → Prop
  | .lst ds => ∃ xs, A.H a = some (.lst xs) ∧ RepL G A ds xs
  | .frz ds => ∃ xs, FzL G.K A.H a xs ∧ RepL G A ds xs
  | .dct => ∃ kvs, A.H a = some (.dK kvs)
  | .ins c fs => ∃ dx vs, A.H a = some (.ins (G.ca c) dx vs) ∧ RepF G A fs vs
def wr : Cl → Bool
  | .frz _ => false
  | _ => true
structure HR (G : Gx) (A : Ab) : Prop where
  cell : ∀ n c, A.S[n]? = some c → CRep G A (A.μ n) c
  inj : ∀ i j ci cj, A.S[i]? = some ci → A.S[j]? = some cj → wr ci = true → wr cj = true → A.μ i = A.μ j → i = j
structure Grow (G : Gx) (A B : Ab) : Prop where
  μ : ∀ n, n < A.S.length → B.μ n = A.μ n
  len : A.S.length ≤ B.S.length
  tup : ∀ a xs, SqT G.K A.H a xs → SqT G.K B.H a xs
variable {G : Gx} {A B C : Ab}
theorem Grow.refl : Grow G A A := ⟨fun _ _ => rfl, Nat.le_refl _, fun _ _ h => h⟩
theorem Grow.trans (a : Grow G A B) (b : Grow G B C) : Grow G A C :=
  ⟨fun n h => (b.μ n (Nat.lt_of_lt_of_le h a.len)).trans (a.μ n h), Nat.le_trans a.len b.len, fun x xs h => b.tup x xs (a.tup x xs h)⟩
mutual
theorem Rep.mono (g : Grow G A B) : ∀ {d : D} {v : V}, Rep G A d v → Rep G B d v
  | .non, _, h => h
  | .bl _, _, h => h
  | .int _, _, h => h
  | .str _, _, h => h
  | .glb _, _, h => h
  | .ref n, v, h => by
    obtain ⟨h1, h2⟩ : n < A.S.length ∧ v = .ref (A.μ n) := h
    exact ⟨Nat.lt_of_lt_of_le h1 g.len, by rw [g.μ n h1]; exact h2⟩
  | .tup ds, v, h => by
    obtain ⟨a, xs, e, h1, h2⟩ : ∃ a xs, v = .ref a ∧ SqT G.K A.H a xs ∧ RepL G A ds xs := h
    exact ⟨a, xs, e, g.tup a xs h1, RepL.mono g h2⟩
theorem RepL.mono (g : Grow G A B) : ∀ {ds : List D} {vs : List V}, RepL G A ds vs → RepL G B ds vs
  | [], _, h => h
  | d :: ds, xs, h => by
    obtain ⟨v, vs, e, h1, h2⟩ : ∃ v vs, xs = v :: vs ∧ Rep G A d v ∧ RepL G A ds vs := h
    exact ⟨v, vs, e, Rep.mono g h1, RepL.mono g h2⟩
end
theorem RepF.mono (g : Grow G A B) : ∀ {ds : List (Str × D)} {vs : List (Str × V)}, RepF G A ds vs → RepF G B ds vs
  | [], _, h => h
  | (f, d) :: ds, xs, h => by
    obtain ⟨v, vs, e, h1, h2⟩ : ∃ v vs, xs = (f, v) :: vs ∧ Rep G A d v ∧ RepF G A ds vs := h
    exact ⟨v, vs, e, Rep.mono g h1, RepF.mono g h2⟩
theorem RepL.nil : RepL G A [] [] := rfl
theorem RepL.cons {d : D} {v : V} {ds : List D} {vs : List V} (h : Rep G A d v) (r : RepL G A ds vs) : RepL G A (d :: ds) (v :: vs) := ⟨v, vs, rfl, h, r⟩
theorem RepL.uncons {d : D} {ds : List D} {xs : List V} (h : RepL G A (d :: ds) xs) : ∃ v vs, xs = v :: vs ∧ Rep G A d v ∧ RepL G A ds vs := h
theorem RepL.nil_iff {xs : List V} (h : RepL G A [] xs) : xs = [] := h
theorem RepL.length : ∀ {ds : List D} {vs : List V}, RepL G A ds vs → vs.length = ds.length
  | [], _, h => by rw [RepL.nil_iff h]; rfl
  | _ :: _, _, h => by
    obtain ⟨v, vs, rfl, _, h2⟩ := RepL.uncons h
    simp [RepL.length h2]
theorem RepL.append : ∀ {ds es : List D} {vs ws : List V}, RepL G A ds vs → RepL G A es ws → RepL G A (ds ++ es) (vs ++ ws)
  | [], _, _, _, h, r => by rw [RepL.nil_iff h]; exact r
  | _ :: _, _, _, _, h, r => by
    obtain ⟨v, vs, rfl, h1, h2⟩ := RepL.uncons h
    exact .cons h1 (RepL.append h2 r)
theorem RepL.get : ∀ {ds : List D} {vs : List V} {i : Nat} {d : D}, RepL G A ds vs → ds[i]? = some d → ∃ v, vs[i]? = some v ∧ Rep G A d v
  | [], _, _, _, _, e => by simp at e
  | _ :: _, _, 0, _, h, e => by
    obtain ⟨v, vs, rfl, h1, h2⟩ := RepL.uncons h
    simp at e; subst e
    exact ⟨v, rfl, h1⟩
  | _ :: _, _, i + 1, _, h, e => by
    obtain ⟨v, vs, rfl, h1, h2⟩ := RepL.uncons h
    obtain ⟨w, e1, r⟩ := RepL.get (i := i) h2 (by simpa using e)
    exact ⟨w, by simpa using e1, r⟩
theorem RepL.getV : ∀ {ds : List D} {vs : List V} {i : Nat} {v : V}, RepL G A ds vs → vs[i]? = some v → ∃ d, ds[i]? = some d ∧ Rep G A d v := by
  intro ds vs i v h e
  have hl := h.length
  obtain ⟨h1, h2⟩ := List.getElem?_eq_some_iff.mp e
  have hd : ds[i]? = some (ds[i]'(by omega)) := List.getElem?_eq_getElem (by omega)
  obtain ⟨w, e1, r⟩ := h.get hd
  rw [e] at e1
  cases e1
  exact ⟨_, hd, r⟩
theorem RepL.take : ∀ (n : Nat) {ds : List D} {vs : List V}, RepL G A ds vs → RepL G A (ds.take n) (vs.take n)
  | 0, _, _, _ => by simp; exact RepL.nil
  | _ + 1, [], _, h => by rw [RepL.nil_iff h]; exact RepL.nil
  | n + 1, _ :: _, _, h => by
    obtain ⟨v, vs, rfl, h1, h2⟩ := RepL.uncons h
    exact .cons h1 (RepL.take n h2)
theorem RepL.drop : ∀ (n : Nat) {ds : List D} {vs : List V}, RepL G A ds vs → RepL G A (ds.drop n) (vs.drop n)
  | 0, _, _, h => h
  | _ + 1, [], _, h => by rw [RepL.nil_iff h]; exact RepL.nil
  | n + 1, _ :: _, _, h => by
    obtain ⟨v, vs, rfl, h1, h2⟩ := RepL.uncons h
    exact RepL.drop n h2
theorem RepL.set : ∀ (i : Nat) {ds : List D} {vs : List V} {d : D} {v : V}, Rep G A d v → RepL G A ds vs → RepL G A (ds.set i d) (vs.set i v)
  | _, [], _, _, _, _, h => by rw [RepL.nil_iff h]; simp; exact RepL.nil
  | 0, _ :: _, _, _, _, r, h => by
    obtain ⟨v, vs, rfl, h1, h2⟩ := RepL.uncons h
    exact .cons r h2
  | i + 1, _ :: _, _, _, _, r, h => by
    obtain ⟨v, vs, rfl, h1, h2⟩ := RepL.uncons h
    exact .cons h1 (RepL.set i r h2)
theorem RepL.reverse : ∀ {ds : List D} {vs : List V}, RepL G A ds vs → RepL G A ds.reverse vs.reverse
  | [], _, h => by rw [RepL.nil_iff h]; exact RepL.nil
  | _ :: _, _, h => by
    obtain ⟨v, vs, rfl, h1, h2⟩ := RepL.uncons h
    simp only [List.reverse_cons]
    exact (RepL.reverse h2).append (.cons h1 .nil)
theorem RepL.rep {ds : List D} {vs : List V} (h : RepL G A ds vs) : ∀ k : Nat, RepL G A (List.replicate k ds).flatten (List.replicate k vs).flatten
  | 0 => RepL.nil
  | k + 1 => by
    simp only [List.replicate_succ, List.flatten_cons]
    exact h.append (RepL.rep h k)
theorem RepL.dropLast {ds : List D} {vs : List V} (h : RepL G A ds vs) : RepL G A ds.dropLast vs.dropLast := by
  rw [List.dropLast_eq_take, List.dropLast_eq_take, h.length]
  exact h.take _

/-! ### the abstract state moves -/
theorem sqT_put {K : PySem.W.Frag} {H : Hp} {p a : Addr} {o : HO} {xs : List V} (h : SqT K H a xs) (n : ∀ u, H p = some u → ∀ ys, u ≠ .tup ys ∧ ∀ ob, u ≠ .frz ob (.tup ys)) : SqT K (upd H p o) a xs := by
  rcases h with (h | ⟨ob, h⟩) | h
  · refine .inl (.inl ?_)
    rw [upd_ne fun (e : a = p) => (n _ (by rw [← e]; exact h) xs).1 rfl]
    exact h
  · refine .inl (.inr ⟨ob, ?_⟩)
    rw [upd_ne fun (e : a = p) => (n _ (by rw [← e]; exact h) xs).2 ob rfl]
    exact h
  · exact .inr h
theorem fzL_put {K : PySem.W.Frag} {H : Hp} {p a : Addr} {o : HO} {xs : List V} (h : FzL K H a xs) (n : ∀ u, H p = some u → ∀ ob, u ≠ .frz ob (.lst xs)) : FzL K (upd H p o) a xs := by
  rcases h with ⟨ob, h⟩ | h
  · refine .inl ⟨ob, ?_⟩
    rw [upd_ne fun (e : a = p) => n _ (by rw [← e]; exact h) ob rfl]
    exact h
  · exact .inr h
theorem rw_at {H : Hp} {p a : Addr} {o u : HO} (h : H a = some u) (n : a ≠ p) : upd H p o a = some u := (upd_ne n).trans h
/-- something untracked is laid at p -/
theorem Grow.lay {p : Addr} {o : HO} (hp : A.H p = none) : Grow G A ⟨A.μ, A.S, upd A.H p o⟩ :=
  ⟨fun _ _ => rfl, Nat.le_refl _, fun _ _ h => sqT_put h fun u e => by rw [hp] at e; cases e⟩
theorem CRep.grow {a : Addr} {c : Cl} (g : Grow G A B) (h : CRep G A a c) (e : ∀ o, wr c = true → A.H a = some o → B.H a = some o) (f : ∀ xs, wr c = false → FzL G.K A.H a xs → FzL G.K B.H a xs) : CRep G B a c := by
  cases c with
  | lst ds => obtain ⟨xs, h1, h2⟩ := h; exact ⟨xs, e _ rfl h1, h2.mono g⟩
  | frz ds => obtain ⟨xs, h1, h2⟩ := h; exact ⟨xs, f _ rfl h1, h2.mono g⟩
  | dct => obtain ⟨kvs, h⟩ := h; exact ⟨kvs, e _ rfl h⟩
  | ins c fs => obtain ⟨dx, vs, h1, h2⟩ := h; exact ⟨dx, vs, e _ rfl h1, h2.mono g⟩
theorem HR.lay {p : Addr} {o : HO} (h : HR G A) (hp : A.H p = none) : HR G ⟨A.μ, A.S, upd A.H p o⟩ := by
  exact ⟨fun n c e => (h.cell n c e).grow (.lay hp) (fun o _ q => rw_at q (ne_of_none q hp)) (fun xs _ q => fzL_put q fun u e => by rw [hp] at e; cases e), h.inj⟩
theorem CRep.some {a : Addr} {c : Cl} (h : CRep G A a c) (w : wr c = true) : ∃ o, A.H a = some o := by
  cases c with
  | lst ds => obtain ⟨xs, h1, h2⟩ := h; exact ⟨_, h1⟩
  | frz ds => cases w
  | dct => obtain ⟨kvs, h⟩ := h; exact ⟨_, h⟩
  | ins c fs => obtain ⟨dx, vs, h1, h2⟩ := h; exact ⟨_, h1⟩
/-- a new cell -/
def Ab.add (A : Ab) (p : Addr) (c : Cl) (H : Hp) : Ab := ⟨fun n => if n = A.S.length then p else A.μ n, A.S ++ [c], H⟩
theorem Ab.add_new {p : Addr} {c : Cl} {H : Hp} : (A.add p c H).μ A.S.length = p := if_pos rfl
theorem Ab.add_old {p : Addr} {c : Cl} {H : Hp} {n : Nat} (h : n < A.S.length) : (A.add p c H).μ n = A.μ n := if_neg (Nat.ne_of_lt h)
theorem Grow.add {p : Addr} {c : Cl} {H : Hp} (t : ∀ a xs, SqT G.K A.H a xs → SqT G.K H a xs) : Grow G A (A.add p c H) :=
  ⟨fun n h => Ab.add_old h, by show A.S.length ≤ (A.S ++ [c]).length; simp, t⟩
theorem HR.add {p : Addr} {c : Cl} {H : Hp} (h : HR G A) (hp : A.H p = none) (t : ∀ a xs, SqT G.K A.H a xs → SqT G.K H a xs) (l : ∀ a xs, FzL G.K A.H a xs → FzL G.K H a xs)
    (k : ∀ b o, A.H b = some o → H b = some o) (hc : CRep G (A.add p c H) p c) : HR G (A.add p c H) := by
  have old : ∀ {n : Nat} {e : Cl}, A.S[n]? = some e → n < A.S.length := fun {n e} q => (List.getElem?_eq_some_iff.mp q).1
  have cas : ∀ {n : Nat} {e : Cl}, (A.S ++ [c])[n]? = some e → (A.S[n]? = some e) ∨ (n = A.S.length ∧ e = c) := fun {n e} q => by
    by_cases hn : n < A.S.length
    · rw [List.getElem?_append_left hn] at q; exact .inl q
    · rw [List.getElem?_append_right (by omega)] at q
      by_cases hz : n - A.S.length = 0
      · rw [hz] at q
        refine .inr ⟨by omega, ?_⟩
        simpa using q.symm
      · rw [List.getElem?_eq_none (by simp; omega)] at q; cases q
  refine ⟨fun n e q => ?_, fun i j ci cj qi qj wi wj em => ?_⟩
  · have q : (A.S ++ [c])[n]? = some e := q
    rcases cas q with q | ⟨rfl, rfl⟩
    · rw [Ab.add_old (old q)]
      exact (h.cell n e q).grow (.add t) (fun o _ z => k _ o z) fun xs _ z => l _ xs z
    · rw [Ab.add_new]; exact hc
  · have qi : (A.S ++ [c])[i]? = some ci := qi
    have qj : (A.S ++ [c])[j]? = some cj := qj
    rcases cas qi with qi | ⟨ei, _⟩ <;> rcases cas qj with qj | ⟨ej, _⟩
    · rw [Ab.add_old (old qi), Ab.add_old (old qj)] at em
      exact h.inj i j ci cj qi qj wi wj em
    · rw [ej, Ab.add_old (old qi), Ab.add_new] at em
      obtain ⟨o, z⟩ := (h.cell i ci qi).some wi
      rw [em, hp] at z; cases z
    · rw [ei, Ab.add_old (old qj), Ab.add_new] at em
      obtain ⟨o, z⟩ := (h.cell j cj qj).some wj
      rw [← em, hp] at z; cases z
    · rw [ei, ej]
/-- a new list at p -/
theorem HR.lst {p : Addr} {ds : List D} {xs : List V} (h : HR G A) (hp : A.H p = none) (r : RepL G A ds xs) :
    HR G (A.add p (.lst ds) (upd A.H p (.lst xs))) ∧ Grow G A (A.add p (.lst ds) (upd A.H p (.lst xs))) ∧ Rep G (A.add p (.lst ds) (upd A.H p (.lst xs))) (.ref A.S.length) (.ref p) := by
  have t : ∀ a ys, SqT G.K A.H a ys → SqT G.K (upd A.H p (.lst xs)) a ys := fun a ys q => sqT_put q fun u e => by rw [hp] at e; cases e
  have g : Grow G A (A.add p (.lst ds) (upd A.H p (.lst xs))) := .add t
  refine ⟨h.add hp t (fun a ys q => fzL_put q fun u e => by rw [hp] at e; cases e) (fun b o e => by rw [upd_ne (ne_of_none e hp)]; exact e) ⟨xs, upd_same, r.mono g⟩, g, ?_, ?_⟩
  · show A.S.length < (A.S ++ [Cl.lst ds]).length
    simp
  · rw [Ab.add_new]
/-- a cell written -/
theorem HR.put {n : Nat} {c c' : Cl} {o u : HO} (h : HR G A) (hn : A.S[n]? = some c) (w : wr c = true) (w' : wr c' = true) (ho : A.H (A.μ n) = some o) (nt : ∀ ys, o ≠ .tup ys ∧ ∀ ob, o ≠ .frz ob (.tup ys)) (nl : ∀ ob ys, o ≠ .frz ob (.lst ys))
    (hc : Grow G A ⟨A.μ, A.S.set n c', upd A.H (A.μ n) u⟩ → CRep G ⟨A.μ, A.S.set n c', upd A.H (A.μ n) u⟩ (A.μ n) c') :
    HR G ⟨A.μ, A.S.set n c', upd A.H (A.μ n) u⟩ ∧ Grow G A ⟨A.μ, A.S.set n c', upd A.H (A.μ n) u⟩ := by
  have g : Grow G A ⟨A.μ, A.S.set n c', upd A.H (A.μ n) u⟩ := ⟨fun _ _ => rfl, by show A.S.length ≤ (A.S.set n c').length; simp, fun a ys q => sqT_put q fun z e => by rw [ho] at e; cases e; exact fun ys => nt ys⟩
  have hlt : n < A.S.length := (List.getElem?_eq_some_iff.mp hn).1
  have cas : ∀ {j : Nat} {e : Cl}, (A.S.set n c')[j]? = some e → (j ≠ n ∧ A.S[j]? = some e) ∨ (j = n ∧ e = c') := fun {j e} q => by
    by_cases hj : j = n
    · subst hj
      rw [List.getElem?_set_self hlt] at q
      exact .inr ⟨rfl, (Option.some.inj q).symm⟩
    · rw [List.getElem?_set_ne (Ne.symm hj)] at q
      exact .inl ⟨hj, q⟩
  refine ⟨⟨fun j e q => ?_, fun i j ci cj qi qj wi wj em => ?_⟩, g⟩
  · rcases cas q with ⟨hj, q⟩ | ⟨ej, ec⟩
    · exact (h.cell j e q).grow g (fun o' we z => rw_at z fun em => hj (h.inj j n e c q hn we w em)) fun xs _ z => fzL_put z fun z e ob => by rw [ho] at e; cases e; exact nl ob xs
    · rw [ej, ec]; exact hc g
  · have qi : (A.S.set n c')[i]? = some ci := qi
    have qj : (A.S.set n c')[j]? = some cj := qj
    rcases cas qi with ⟨hi, qi⟩ | ⟨ei, _⟩ <;> rcases cas qj with ⟨hj, qj⟩ | ⟨ej, _⟩
    · exact h.inj i j ci cj qi qj wi wj em
    · rw [ej] at em ⊢
      exact h.inj i n ci c qi hn wi w em
    · rw [ei] at em ⊢
      exact h.inj n j c cj hn qj w wj em
    · rw [ei, ej]
theorem HR.putL {n : Nat} {ds es : List D} {ys : List V} (h : HR G A) (hn : A.S[n]? = some (.lst ds)) (r : RepL G A es ys) :
    HR G ⟨A.μ, A.S.set n (.lst es), upd A.H (A.μ n) (.lst ys)⟩ ∧ Grow G A ⟨A.μ, A.S.set n (.lst es), upd A.H (A.μ n) (.lst ys)⟩ := by
  obtain ⟨xs, h1, h2⟩ : ∃ xs, A.H (A.μ n) = some (.lst xs) ∧ RepL G A ds xs := h.cell n _ hn
  exact h.put hn rfl rfl h1 (fun zs => ⟨(fun e => by cases e), fun ob e => by cases e⟩) (fun ob zs e => by cases e) fun g => ⟨ys, upd_same, r.mono g⟩
theorem HR.lstAt {n : Nat} {ds : List D} (h : HR G A) (hn : lstAt A.S n = some ds) : A.S[n]? = some (.lst ds) ∧ ∃ xs, A.H (A.μ n) = some (.lst xs) ∧ RepL G A ds xs := by
  unfold Mini.lstAt at hn
  split at hn
  · rename_i q
    cases hn
    exact ⟨q, h.cell n _ q⟩
  · cases hn
theorem HR.seqAt {n : Nat} {ds : List D} (h : HR G A) (hn : seqAt A.S n = some ds) : ∃ xs, SqL G.K A.H (A.μ n) xs ∧ RepL G A ds xs := by
  unfold Mini.seqAt at hn
  split at hn
  · rename_i q
    cases hn
    obtain ⟨xs, h1, h2⟩ : ∃ xs, A.H (A.μ n) = some (.lst xs) ∧ RepL G A ds xs := h.cell n _ q
    exact ⟨xs, .of h1, h2⟩
  · rename_i q
    cases hn
    obtain ⟨xs, h1, h2⟩ : ∃ xs, FzL G.K A.H (A.μ n) xs ∧ RepL G A ds xs := h.cell n _ q
    exact ⟨xs, h1.sq, h2⟩
  · cases hn

/-! ### what is wanted behind a run -/
def Fin (G : Gx) (A : Ab) (Q : VK) (d : D) (S : Sto) : Prop := ∀ μ v H, Grow G A ⟨μ, S, H⟩ → HR G ⟨μ, S, H⟩ → Rep G ⟨μ, S, H⟩ d v → Q v H
theorem Fin.at {A B : Ab} {Q : VK} {d : D} (f : Fin G A Q d B.S) {v : V} (g : Grow G A B) (h : HR G B) (r : Rep G B d v) : Q v B.H := f B.μ v B.H g h r
theorem Fin.grow {Q : VK} {d : D} {S : Sto} (f : Fin G A Q d S) (g : Grow G A B) : Fin G B Q d S := fun μ v H g' h r => f μ v H (g.trans g') h r
def XRep (G : Gx) (A : Ab) (fs : List (Str × D)) (dd : Option Addr) : Prop := (fs = [] ∧ dd = none) ∨ ∃ d vs, dd = some d ∧ A.H d = some (.xd vs) ∧ RepF G A fs vs
def XW (G : Gx) (A : Ab) (W : XK) (c : Nat) (fs : List (Str × D)) (S : Sto) : Prop := ∀ μ H dd, Grow G A ⟨μ, S, H⟩ → HR G ⟨μ, S, H⟩ → XRep G ⟨μ, S, H⟩ fs dd → W (.ref (G.ca c)) dd H
theorem XW.grow {W : XK} {c : Nat} {fs : List (Str × D)} {S : Sto} (f : XW G A W c fs S) (g : Grow G A B) : XW G B W c fs S := fun μ H dd g' h r => f μ H dd (g.trans g') h r
structure ER (G : Gx) (A : Ab) (ρ : Loc) (σ : L2.St) : Prop where
  len : σ.length = ρ.length
  get : ∀ (i : Nat) (d : D), ρ[i]? = some (some d) → ∃ v, σ[i]? = some (some v) ∧ Rep G A d v
theorem ER.mono {ρ : Loc} {σ : L2.St} (g : Grow G A B) (e : ER G A ρ σ) : ER G B ρ σ := ⟨e.len, fun i d q => let ⟨v, h1, h2⟩ := e.get i d q; ⟨v, h1, h2.mono g⟩⟩
theorem ER.set {ρ : Loc} {σ : L2.St} {d : D} {v : V} (e : ER G A ρ σ) (i : Nat) (r : Rep G A d v) : ER G A (ρ.set i (some d)) (σ.set i (some v)) := by
  refine ⟨by simp [e.len], fun j d' q => ?_⟩
  by_cases hj : j = i
  · subst hj
    by_cases hl : j < ρ.length
    · rw [List.getElem?_set_self hl] at q
      cases q
      exact ⟨v, by rw [List.getElem?_set_self (by rw [e.len]; exact hl)], r⟩
    · rw [List.getElem?_eq_none (by simp; omega)] at q; cases q
  · rw [List.getElem?_set_ne (Ne.symm hj)] at q
    obtain ⟨w, h1, h2⟩ := e.get j d' q
    exact ⟨w, by rw [List.getElem?_set_ne (Ne.symm hj)]; exact h1, h2⟩
/-- a run's reading -/
def tR (G : Gx) (W : WX) (r : Loc → Sto → Res D) : TE := fun σ H Q => ∃ A ρ, A.H = H ∧ HR G A ∧ ER G A ρ σ ∧ (r ρ A.S).sat (Fin G A Q) (XW G A fun c d H => W c d σ H)
abbrev tE (G : Gx) (p : Pg) (W : WX) (x : Ex) : TE := tR G W (evE p x)
end Mini
set_option maxHeartbeats 2000000
/-! Mini: the operators keep what the evaluator says. -/
namespace Mini
open PySem PySem.Spec PyProof.Rows L2

variable {G : Gx} {A : Ab} {X : Cx}
def rD2 (G : Gx) (f : D → D → Sto → Res D) : R2 := fun x y H Q => ∃ A d e E, A.H = H ∧ HR G A ∧ Rep G A d x ∧ Rep G A e y ∧ (f d e A.S).sat (Fin G A Q) E
def rD1 (G : Gx) (f : D → Sto → Res D) : V → Hp → VK → Prop := fun x H Q => ∃ A d E, A.H = H ∧ HR G A ∧ Rep G A d x ∧ (f d A.S).sat (Fin G A Q) E
def rDs (G : Gx) (f : List D → Sto → Res D) : List V → Hp → VK → Prop := fun xs H Q => ∃ A ds E, A.H = H ∧ HR G A ∧ RepL G A ds xs ∧ (f ds A.S).sat (Fin G A Q) E
theorem lineN_eq : lineN = sizeLine := by rw [sizeLine_eq]; rfl

theorem Fin.tup {ds : List D} {xs : List V} {Q : VK} {p : Addr} (f : Fin G A Q (.tup ds) A.S) (h : HR G A) (r : RepL G A ds xs) (hp : A.H p = none) : Q (.ref p) (upd A.H p (.tup xs)) :=
  f A.μ _ _ (.lay hp) (h.lay hp) ⟨p, xs, rfl, .of upd_same, r.mono (.lay hp)⟩
theorem Fin.lst {ds : List D} {xs : List V} {Q : VK} {p : Addr} (f : Fin G A Q (.ref A.S.length) (A.S ++ [.lst ds])) (h : HR G A) (r : RepL G A ds xs) (hp : A.H p = none) : Q (.ref p) (upd A.H p (.lst xs)) := by
  obtain ⟨h1, h2, h3⟩ := h.lst hp r
  exact f _ _ _ h2 h1 h3
theorem repL_empty {ds : List D} {xs : List V} (r : RepL G A ds xs) : xs = [] ↔ ds = [] := by
  have := r.length
  constructor
  · intro e
    rw [e] at this
    exact List.eq_nil_of_length_eq_zero this.symm
  · intro e
    rw [e] at this
    exact List.eq_nil_of_length_eq_zero this
theorem OpR.of {f : Value → Value → Sem Value} {r r' : R2} (h : OpR X f r) (k : ∀ x y H Q, r' x y H Q → r x y H Q) : OpR X f r' :=
  fun pins s σ H x y v u Q I rx ry q => h pins s σ H x y v u Q I rx ry (k _ _ _ _ q)

theorem sn_add (hK : X.K = G.K) : OpR X (binaryOp .Add) (rD2 G (binE .add)) := by
  intro pins s σ H x y v u Q I rx ry ⟨A, d, e, E, hH, hr, rd, re, h⟩
  subst hH
  cases d with
  | int i =>
    cases e with
    | int j => exact op_add pins s σ _ x y v u Q I rx ry ⟨i, j, rd, re, Fin.at (show Fin G A Q (.int (i + j)) A.S from h) .refl hr rfl⟩
    | _ => exact (show False from h).elim
  | str a =>
    cases e with
    | str b =>
      have h : (if a.length + b.length ≤ lineN then Res.ok (.str (a ++ b)) A.S else .no).sat (Fin G A Q) E := h
      split at h
      · rename_i hz
        exact op_add_str pins s σ _ x y v u Q I rx ry ⟨a, b, rd, re, by rw [← lineN_eq]; exact hz, Fin.at (show Fin G A Q (.str (a ++ b)) A.S from h) .refl hr rfl⟩
      · exact (show False from h).elim
    | _ => exact (show False from h).elim
  | tup ds =>
    cases e with
    | tup es =>
      have h : (if ds.length + es.length ≤ lineN then Res.ok (.tup (ds ++ es)) A.S else .no).sat (Fin G A Q) E := h
      split at h
      · rename_i hz
        have h : Fin G A Q (.tup (ds ++ es)) A.S := h
        obtain ⟨a, xs, e1, h1, r1⟩ := rd
        obtain ⟨b, ys, e2, h2, r2⟩ := re
        refine op_catA pins s σ _ x y v u Q I rx ry ⟨a, b, xs, ys, e1, e2, by rw [hK]; exact h1, by rw [hK]; exact h2, by rw [r1.length, r2.length, ← lineN_eq]; exact hz, fun z => ?_, fun z z2 => ?_, fun _ _ p hp => ?_⟩
        · have : ds = [] := (repL_empty r1).mp z
          subst this
          exact h.at .refl hr ⟨b, ys, rfl, h2, r2⟩
        · have : es = [] := (repL_empty r2).mp z2
          subst this
          rw [List.append_nil] at h
          exact h.at .refl hr ⟨a, xs, rfl, h1, r1⟩
        · exact h.tup hr (r1.append r2) hp
      · exact (show False from h).elim
    | _ => exact (show False from h).elim
  | ref m =>
    cases e with
    | ref n =>
      have h : (match lstAt A.S m, lstAt A.S n with
        | some xs, some ys => if xs.length + ys.length ≤ lineN then new (.lst (xs ++ ys)) A.S else .no
        | _, _ => .no).sat (Fin G A Q) E := h
      cases q1 : lstAt A.S m with
      | none => rw [q1] at h; exact (show False from h).elim
      | some ds =>
        cases q2 : lstAt A.S n with
        | none => rw [q1, q2] at h; exact (show False from h).elim
        | some es =>
          rw [q1, q2] at h
          dsimp only at h
          split at h
          · rename_i hz
            obtain ⟨_, xs, h1, r1⟩ := hr.lstAt q1
            obtain ⟨_, ys, h2, r2⟩ := hr.lstAt q2
            exact op_cat pins s σ _ x y v u Q I rx ry ⟨_, _, xs, ys, rd.2, re.2, h1, h2, by rw [r1.length, r2.length, ← lineN_eq]; exact hz, fun p hp => Fin.lst h hr (r1.append r2) hp⟩
          · exact (show False from h).elim
    | _ => exact (show False from h).elim
  | _ => exact (show False from h).elim

theorem sn_sub : OpR X (binaryOp .Sub) (rD2 G (binE .sub)) := by
  intro pins s σ H x y v u Q I rx ry ⟨A, d, e, E, hH, hr, rd, re, h⟩
  subst hH
  cases d with
  | int i =>
    cases e with
    | int j => exact op_sub pins s σ _ x y v u Q I rx ry ⟨i, j, rd, re, Fin.at (show Fin G A Q (.int (i - j)) A.S from h) .refl hr rfl⟩
    | _ => exact (show False from h).elim
  | _ => cases e <;> exact (show False from h).elim
theorem sn_and : OpR X (binaryOp .BitAnd) (rD2 G (binE .band)) := by
  intro pins s σ H x y v u Q I rx ry ⟨A, d, e, E, hH, hr, rd, re, h⟩
  subst hH
  cases d with
  | int i =>
    cases e with
    | int j => exact op_and pins s σ _ x y v u Q I rx ry ⟨i, j, rd, re, Fin.at (show Fin G A Q (.int (Builtin.bitAnd i j)) A.S from h) .refl hr rfl⟩
    | _ => exact (show False from h).elim
  | _ => cases e <;> exact (show False from h).elim
theorem sn_mod : OpR X (binaryOp .Mod) (rD2 G (binE .mod)) := by
  intro pins s σ H x y v u Q I rx ry ⟨A, d, e, E, hH, hr, rd, re, h⟩
  subst hH
  cases d with
  | int i =>
    cases e with
    | int j =>
      have h : (if j != 0 then Res.ok (.int (i.fmod j)) A.S else .no).sat (Fin G A Q) E := h
      split at h
      · rename_i hj
        exact op_modN pins s σ _ x y v u Q I rx ry ⟨i, j, rd, re, by simpa using hj, Fin.at (show Fin G A Q (.int (i.fmod j)) A.S from h) .refl hr rfl⟩
      · exact (show False from h).elim
    | _ => exact (show False from h).elim
  | _ => cases e <;> exact (show False from h).elim
theorem op_fdivP : OpR X (binaryOp .FloorDiv) (rI (fun i j => j ≠ 0 ∧ Builtin.divisionGoesByPylong i j = false) fun i j => .int (i.fdiv j)) := opI fun _ _ _ _ _ _ _ hc q => floordiv_int hc.1 q (.inl hc.2)
theorem sn_fdiv : OpR X (binaryOp .FloorDiv) (rD2 G (binE .fdiv)) := by
  intro pins s σ H x y v u Q I rx ry ⟨A, d, e, E, hH, hr, rd, re, h⟩
  subst hH
  cases d with
  | int i =>
    cases e with
    | int j =>
      have h : (if divOk i j then Res.ok (.int (i.fdiv j)) A.S else .no).sat (Fin G A Q) E := h
      split at h
      · rename_i hj
        exact op_fdivP pins s σ _ x y v u Q I rx ry ⟨i, j, rd, re, by simpa [divOk] using hj, Fin.at (show Fin G A Q (.int (i.fdiv j)) A.S from h) .refl hr rfl⟩
      · exact (show False from h).elim
    | _ => exact (show False from h).elim
  | _ => cases e <;> exact (show False from h).elim
theorem sn_pow : OpR X (binaryOp .Pow) (rD2 G (binE .pow)) := by
  intro pins s σ H x y v u Q I rx ry ⟨A, d, e, E, hH, hr, rd, re, h⟩
  subst hH
  cases d with
  | int i =>
    cases e with
    | int j =>
      have h : (if powOk i j then Res.ok (.int (i ^ j.toNat)) A.S else .no).sat (Fin G A Q) E := h
      split at h
      · rename_i hj
        refine op_pow pins s σ _ x y v u Q I rx ry ⟨i, j, rd, re, ?_, Fin.at (show Fin G A Q (.int (i ^ j.toNat)) A.S from h) .refl hr rfl⟩
        unfold powOk at hj
        simp only [Bool.and_eq_true, decide_eq_true_eq] at hj
        exact ⟨hj.1.1, hj.1.2, hj.2⟩
      · exact (show False from h).elim
    | _ => exact (show False from h).elim
  | _ => cases e <;> exact (show False from h).elim
theorem tuple_mul1 (l : Addr) (items : Array Value) (n : Nat) (dd : Option Addr) (sl : Array (Option Value)) (u : Tok) :
    Meets (Builtin.«tuple.__mul__» ⟨[.ref l, .int 1 u], []⟩) (fun _ R s => s.heap.get? l = some { cls := .type "tuple", dict := dd, data := .seq items n, slots := sl } ∧ R (.ok (.ret (Value.ref l))) s) :=
  .of_wp fun prog w A R s h => by
    obtain ⟨hp, g, d, tk, os⟩ := s
    obtain ⟨hl, h⟩ := h
    have f1 := AutoSeq1.idx_int
    wp_walk using wpAny_loadPart' hl
    exact ⟨_, rfl, h⟩
theorem op_rep1 : OpR X (binaryOp .Mult) (fun x y H Q => ∃ l xs, x = .ref l ∧ y = .int 1 ∧ SqT X.K H l xs ∧ Q (.ref l) H) := by
  intro pins s σ H x y v u Q I rx ry h
  obtain ⟨l, xs, rfl, rfl, hT, q⟩ := h
  cases rx
  obtain ⟨t, rfl⟩ := ry
  obtain ⟨its, r, ⟨⟨cls, dd, data, sl⟩, ho, hc, n, hd⟩, hs⟩ := I.tuple hT
  simp only at hc hd
  subst hc hd
  refine wpAny_binaryOp_repeat_ref (T := "tuple") (U := "int") (by decide) ⟨_, ho, rfl⟩ (fun s' => typeIs_int s' 1 t) noFill_tuple_mul F.fills_int_mul F.slot_int_rmul repeat_tuple F.slot_int_index.lookup
    (call_meets F.slot_int_rmul (typeIs_int s 1 t) F.entry_int_rmul (F.args_int_rmul_2 _ _) (int_rmul_tuple 1 t l its.toArray n dd sl)
      ⟨ho, rfl, ⟨_, ho, rfl⟩, call_meets F.slot_tuple_mul ⟨_, ho, rfl⟩ F.entry_tuple_mul (F.args_tuple_mul_2 _ _) (tuple_mul1 l its.toArray n dd sl t) ⟨ho, ?_⟩⟩)
  exact ⟨.ref l, _, I, rfl, q⟩
theorem tuple_mul0 (l : Addr) (items : Array Value) (n : Nat) (dd : Option Addr) (sl : Array (Option Value)) (u : Tok) (hi : items.isEmpty = false) :
    Meets (Builtin.«tuple.__mul__» ⟨[.ref l, .int 0 u], []⟩) (fun _ R s => s.heap.get? l = some { cls := .type "tuple", dict := dd, data := .seq items n, slots := sl } ∧
      R (.ok (.ret (Value.ref s.heap.objs.size))) { s with heap := s.heap.push { cls := Value.type "tuple", data := Data.seq #[] }, toks := s.toks }) :=
  .of_wp fun prog w A R s h => by
    obtain ⟨hp, g, d, tk, os⟩ := s
    obtain ⟨hl, h⟩ := h
    have f1 := AutoSeq1.idx_int
    wp_walk using wpAny_loadPart' hl
    exact ⟨_, rfl, h⟩
theorem op_rep0 : OpR X (binaryOp .Mult) (fun x y H Q => ∃ l xs, x = .ref l ∧ y = .int 0 ∧ SqT X.K H l xs ∧ xs ≠ [] ∧ ∀ p, H p = none → Q (.ref p) (upd H p (.tup []))) := by
  intro pins s σ H x y v u Q I rx ry h
  obtain ⟨l, xs, rfl, rfl, hT, hne, q⟩ := h
  cases rx
  obtain ⟨t, rfl⟩ := ry
  obtain ⟨its, r, ⟨⟨cls, dd, data, sl⟩, ho, hc, n, hd⟩, hs⟩ := I.tuple hT
  simp only at hc hd
  subst hc hd
  have hle : its.length = xs.length := r.length.symm
  have hi : its.toArray.isEmpty = false := by
    cases its with
    | nil => exact absurd (List.eq_nil_of_length_eq_zero hle.symm) hne
    | cons a b => rfl
  refine wpAny_binaryOp_repeat_ref (T := "tuple") (U := "int") (by decide) ⟨_, ho, rfl⟩ (fun s' => typeIs_int s' 0 t) noFill_tuple_mul F.fills_int_mul F.slot_int_rmul repeat_tuple F.slot_int_index.lookup
    (call_meets F.slot_int_rmul (typeIs_int s 0 t) F.entry_int_rmul (F.args_int_rmul_2 _ _) (int_rmul_tuple 0 t l its.toArray n dd sl)
      ⟨ho, rfl, ⟨_, ho, rfl⟩, call_meets F.slot_tuple_mul ⟨_, ho, rfl⟩ F.entry_tuple_mul (F.args_tuple_mul_2 _ _) (tuple_mul0 l its.toArray n dd sl t hi) ⟨ho, ?_⟩⟩)
  refine ⟨.ref s.heap.objs.size, _, I.laid (t' := s.toks) (o := .tup []) (fun b ob q => Heap.get?_push_of_some _ q) (Nat.le_refl _) ?_, rfl, q _ (I.hok.fresh (Nat.le_refl _))⟩
  exact ⟨by show 0 ≤ sizeLine; exact Nat.zero_le _, [], .nil, IsTup.new _ _⟩
theorem sn_mul (hK : X.K = G.K) : OpR X (binaryOp .Mult) (rD2 G (binE .mul)) := by
  intro pins s σ H x y v u Q I rx ry ⟨A, d, e, E, hH, hr, rd, re, h⟩
  subst hH
  cases d with
  | int i =>
    cases e with
    | int j =>
      have h : (if mulOk i j then Res.ok (.int (i * j)) A.S else .no).sat (Fin G A Q) E := h
      split at h
      · rename_i hj
        exact op_mulX pins s σ _ x y v u Q I rx ry ⟨i, j, rd, re, by simpa [mulOk, CMulX] using hj, Fin.at (show Fin G A Q (.int (i * j)) A.S from h) .refl hr rfl⟩
      · exact (show False from h).elim
    | _ => exact (show False from h).elim
  | tup ds =>
    cases e with
    | int k =>
      have h : (if k = 1 then Res.ok (.tup ds) A.S else if k = 0 ∧ ds.isEmpty = false then Res.ok (.tup []) A.S else if !ds.isEmpty && decide (2 ≤ k) && decide (k ≤ 1000) && decide (ds.length ≤ 1000) then Res.ok (.tup (List.replicate k.toNat ds).flatten) A.S else .no).sat (Fin G A Q) E := h
      split at h
      · rename_i k1
        subst k1
        obtain ⟨a, xs, e1, h1, r1⟩ := rd
        exact op_rep1 pins s σ _ x y v u Q I rx ry ⟨a, xs, e1, re, by rw [hK]; exact h1, by rw [← e1]; exact Fin.at (show Fin G A Q (.tup ds) A.S from h) .refl hr ⟨a, xs, e1, h1, r1⟩⟩
      split at h
      · rename_i hc
        have h2 : Fin G A Q (.tup []) A.S := h
        obtain ⟨k0, c1⟩ := hc
        subst k0
        obtain ⟨a, xs, e1, h1, r1⟩ := rd
        exact op_rep0 pins s σ _ x y v u Q I rx ry ⟨a, xs, e1, re, by rw [hK]; exact h1, fun z => (List.isEmpty_eq_false_iff.mp c1) ((repL_empty r1).mp z), fun p hp => Fin.tup h2 hr (show RepL G A [] [] from rfl) hp⟩
      split at h
      · rename_i hc
        simp only [Bool.and_eq_true, decide_eq_true_eq, Bool.not_eq_true', List.isEmpty_eq_false_iff] at hc
        obtain ⟨⟨⟨c1, c2⟩, c3⟩, c4⟩ := hc
        obtain ⟨a, xs, e1, h1, r1⟩ := rd
        exact op_repT pins s σ _ x y v u Q I rx ry ⟨a, k, xs, e1, re, by rw [hK]; exact h1, fun z => c1 ((repL_empty r1).mp z), c2, c3, by rw [r1.length]; exact c4, fun p hp => Fin.tup h hr (r1.rep _) hp⟩
      · exact (show False from h).elim
    | _ => exact (show False from h).elim
  | ref m =>
    cases e with
    | int k =>
      have h : (match lstAt A.S m with
        | some xs => if decide (-(2 ^ 63) ≤ k) && decide (k < 2 ^ 63) && decide (xs.length * k.toNat ≤ lineN) then new (.lst (List.replicate k.toNat xs).flatten) A.S else .no
        | _ => .no).sat (Fin G A Q) E := h
      cases q1 : lstAt A.S m with
      | none => rw [q1] at h; exact (show False from h).elim
      | some ds =>
        rw [q1] at h
        dsimp only at h
        split at h
        · rename_i hc
          simp only [Bool.and_eq_true, decide_eq_true_eq] at hc
          obtain ⟨⟨c1, c2⟩, c3⟩ := hc
          obtain ⟨_, xs, h1, r1⟩ := hr.lstAt q1
          exact op_rep pins s σ _ x y v u Q I rx ry ⟨_, k, xs, rd.2, re, h1, c1, c2, by rw [r1.length, ← lineN_eq]; exact c3, fun p hp => Fin.lst h hr (r1.rep _) hp⟩
        · exact (show False from h).elim
    | _ => exact (show False from h).elim
  | _ => cases e <;> exact (show False from h).elim

/-! ### data -/
theorem leaf_dp {d : D} {v : V} {e : PyData} (h : leafD d = some e) (r : Rep G A d v) : Dp G.K A.H v e := by
  cases d with
  | non => cases h; cases (show v = V.non from r); exact .non
  | bl b => cases h; cases (show v = V.bl b from r); exact .bl b
  | int i => cases h; cases (show v = V.int i from r); exact .int i
  | str x => cases h; cases (show v = V.str x from r); exact .str x
  | tup _ => cases h
  | ref _ => cases h
  | glb _ => cases h
theorem dps_of {f : D → Option PyData} (hf : ∀ d v e, f d = some e → Rep G A d v → Dp G.K A.H v e) : ∀ (ds : List D) (vs : List V) (es : List PyData), mapO f ds = some es → RepL G A ds vs → DpAll G.K A.H vs es
  | [], vs, es, h, r => by
    cases h
    rw [RepL.nil_iff r]
    exact .nil
  | d :: ds, vs, es, h, r => by
    obtain ⟨v, ws, rfl, r1, r2⟩ := RepL.uncons r
    unfold mapO at h
    split at h
    · rename_i a b q1 q2
      cases h
      exact .cons (hf d v a q1 r1) (dps_of hf ds ws b q2 r2)
    · cases h
theorem dp_of (hr : HR G A) : ∀ (n : Nat) (d : D) (v : V) (e : PyData), toD A.S n d = some e → Rep G A d v → Dp G.K A.H v e
  | 0, d, v, e, h, r => leaf_dp h r
  | n + 1, d, v, e, h, r => by
    cases d with
    | tup ds =>
      have h : (mapO (toD A.S n) ds).map PyData.tuple = some e := h
      obtain ⟨es, q, rfl⟩ := Option.map_eq_some_iff.mp h
      obtain ⟨a, xs, rfl, h1, r1⟩ := r
      exact .tup h1 (dps_of (fun d v e => dp_of hr n d v e) ds xs es q r1)
    | ref m =>
      have h : (match seqAt A.S m with
        | some xs => (mapO (toD A.S n) xs).map PyData.list
        | none => none) = some e := h
      cases q : seqAt A.S m with
      | none => rw [q] at h; cases h
      | some ds =>
        rw [q] at h
        obtain ⟨es, q2, rfl⟩ := Option.map_eq_some_iff.mp h
        obtain ⟨xs, h1, r1⟩ := hr.seqAt q
        obtain ⟨_, rfl⟩ := r
        exact .lst h1 (dps_of (fun d v e => dp_of hr n d v e) ds xs es q2 r1)
    | non => exact leaf_dp (d := .non) h r
    | bl k => exact leaf_dp (d := .bl k) h r
    | int k => exact leaf_dp (d := .int k) h r
    | str k => exact leaf_dp (d := .str k) h r
    | glb k => exact leaf_dp (d := .glb k) h r
theorem eqE_dp {d e : D} {x y : V} {b : Bool} (hr : HR G A) (rd : Rep G A d x) (re : Rep G A e y) (h : eqE A.S d e = some b) :
    ∃ f g, Dp G.K A.H x f ∧ Dp G.K A.H y g ∧ SeqAt.shaped f = true ∧ SeqAt.shaped g = true ∧ PyData.eqv f g = b := by
  unfold eqE at h
  split at h
  · rename_i f g q1 q2
    split at h
    · rename_i hs
      rw [Bool.and_eq_true] at hs
      exact ⟨f, g, dp_of hr _ d x f q1 rd, dp_of hr _ e y g q2 re, hs.1, hs.2, Option.some.inj h⟩
    · cases h
  · cases h
def rC2 (G : Gx) (f : D → D → Sto → Option Bool) : R2 := fun x y H Q => ∃ A d e, A.H = H ∧ HR G A ∧ Rep G A d x ∧ Rep G A e y ∧ ∃ b, f d e A.S = some b ∧ Q (.bl b) H
theorem sn_eq (hK : X.K = G.K) (hu : X.A.units + 64 < cLine) : OpR X (compareOp .Eq) (rC2 G (cmpE .eq)) := by
  refine OpR.of (op_eqD hu) fun x y H Q ⟨A, d, e, hH, hr, rd, re, b, h, q⟩ => ?_
  subst hH
  obtain ⟨f, g, d1, d2, s1, s2, rfl⟩ := eqE_dp hr rd re (show eqE A.S d e = some b from h)
  exact ⟨f, g, by rw [hK]; exact d1, by rw [hK]; exact d2, s1, s2, q⟩
theorem sn_ne (hK : X.K = G.K) (hu : X.A.units + 64 < cLine) : OpR X (compareOp .NotEq) (rC2 G (cmpE .ne)) := by
  refine OpR.of (op_neD hu) fun x y H Q ⟨A, d, e, hH, hr, rd, re, b, h, q⟩ => ?_
  subst hH
  obtain ⟨c, hc, rfl⟩ := Option.map_eq_some_iff.mp (show (eqE A.S d e).map (!·) = some b from h)
  obtain ⟨f, g, d1, d2, s1, s2, rfl⟩ := eqE_dp hr rd re hc
  exact ⟨f, g, by rw [hK]; exact d1, by rw [hK]; exact d2, s1, s2, q⟩
def rInT (K : PySem.W.Frag) : R2 := fun x y H Q => ∃ d ds, Dp K H x d ∧ Dp K H y (.tuple ds) ∧ SeqAt.shaped d = true ∧ SeqAt.shaped (.tuple ds) = true ∧ Q (.bl (ds.any fun z => PyData.eqv z d)) H
def rNotInT (K : PySem.W.Frag) : R2 := fun x y H Q => ∃ d ds, Dp K H x d ∧ Dp K H y (.tuple ds) ∧ SeqAt.shaped d = true ∧ SeqAt.shaped (.tuple ds) = true ∧ Q (.bl (!ds.any fun z => PyData.eqv z d)) H
theorem op_inT (hu : X.A.units + 65 < cLine) : OpR X (compareOp .In) (rInT X.K) := by
  intro pins s σ H x y v u Q I rx ry h
  obtain ⟨d, ds, hd, he, sd, se, q⟩ := h
  obtain ⟨as, r1⟩ := Dp.reads I d x v hd rx
  obtain ⟨bs, r2⟩ := Dp.reads I (.tuple ds) y u he ry
  exact SeqAt.in_tuple_reads r2 r1 (SeqAt.canLay_of_shaped se) (SeqAt.canLay_of_shaped sd) (room_in_shaped sd hu) ⟨.bl _, H, I, rfl, q⟩
theorem op_notInT (hu : X.A.units + 65 < cLine) : OpR X (compareOp .NotIn) (rNotInT X.K) := by
  intro pins s σ H x y v u Q I rx ry h
  obtain ⟨d, ds, hd, he, sd, se, q⟩ := h
  obtain ⟨as, r1⟩ := Dp.reads I d x v hd rx
  obtain ⟨bs, r2⟩ := Dp.reads I (.tuple ds) y u he ry
  exact SeqAt.notIn_tuple_reads r2 r1 (SeqAt.canLay_of_shaped se) (SeqAt.canLay_of_shaped sd) (room_in_shaped sd hu) ⟨.bl _, H, I, rfl, q⟩
theorem inE_dp {d e : D} {x y : V} {b : Bool} (hr : HR G A) (rd : Rep G A d x) (re : Rep G A e y) (h : inE A.S d e = some b) :
    (∃ f gs, Dp G.K A.H x f ∧ Dp G.K A.H y (.list gs) ∧ SeqAt.shaped f = true ∧ SeqAt.shaped (.list gs) = true ∧ (gs.any fun z => PyData.eqv z f) = b) ∨
    (∃ f gs, Dp G.K A.H x f ∧ Dp G.K A.H y (.tuple gs) ∧ SeqAt.shaped f = true ∧ SeqAt.shaped (.tuple gs) = true ∧ (gs.any fun z => PyData.eqv z f) = b) := by
  unfold inE at h
  split at h
  · rename_i f gs q1 q2
    split at h
    · rename_i hs
      rw [Bool.and_eq_true] at hs
      exact .inl ⟨f, gs, dp_of hr _ d x f q1 rd, dp_of hr _ e y _ q2 re, hs.1, hs.2, Option.some.inj h⟩
    · cases h
  · rename_i f gs q1 q2
    split at h
    · rename_i hs
      rw [Bool.and_eq_true] at hs
      exact .inr ⟨f, gs, dp_of hr _ d x f q1 rd, dp_of hr _ e y _ q2 re, hs.1, hs.2, Option.some.inj h⟩
    · cases h
  · cases h
theorem sn_in (hK : X.K = G.K) (hu : X.A.units + 65 < cLine) : OpR X (compareOp .In) (rC2 G (cmpE .isin)) := by
  refine OpR.of (OpR.or (op_inD hu) (op_inT hu)) fun x y H Q ⟨A, d, e, hH, hr, rd, re, b, h, q⟩ => ?_
  subst hH
  rcases inE_dp hr rd re (show inE A.S d e = some b from h) with ⟨f, g, d1, d2, s1, s2, rfl⟩ | ⟨f, g, d1, d2, s1, s2, rfl⟩
  · exact .inl ⟨f, g, by rw [hK]; exact d1, by rw [hK]; exact d2, s1, s2, q⟩
  · exact .inr ⟨f, g, by rw [hK]; exact d1, by rw [hK]; exact d2, s1, s2, q⟩
theorem sn_notin (hK : X.K = G.K) (hu : X.A.units + 65 < cLine) : OpR X (compareOp .NotIn) (rC2 G (cmpE .notin)) := by
  refine OpR.of (OpR.or (op_notInD hu) (op_notInT hu)) fun x y H Q ⟨A, d, e, hH, hr, rd, re, b, h, q⟩ => ?_
  subst hH
  obtain ⟨c, hc, rfl⟩ := Option.map_eq_some_iff.mp (show (inE A.S d e).map (!·) = some b from h)
  rcases inE_dp hr rd re hc with ⟨f, g, d1, d2, s1, s2, rfl⟩ | ⟨f, g, d1, d2, s1, s2, rfl⟩
  · exact .inl ⟨f, g, by rw [hK]; exact d1, by rw [hK]; exact d2, s1, s2, q⟩
  · exact .inr ⟨f, g, by rw [hK]; exact d1, by rw [hK]; exact d2, s1, s2, q⟩
theorem int_cmp {d e : D} {f : Int → Int → Bool} {b : Bool} (h : (match d, e with
    | .int i, .int j => some (f i j)
    | _, _ => none) = some b) : ∃ i j, d = .int i ∧ e = .int j ∧ f i j = b := by
  cases d <;> cases e <;> first | exact ⟨_, _, rfl, rfl, Option.some.inj h⟩ | cases h
theorem sn_lt : OpR X (compareOp .Lt) (rC2 G (cmpE .lt)) := by
  refine OpR.of op_lt fun x y H Q ⟨A, d, e, hH, hr, rd, re, b, h, q⟩ => ?_
  obtain ⟨i, j, rfl, rfl, rfl⟩ := int_cmp (f := fun i j => decide (i < j)) (b := b) h
  exact ⟨i, j, rd, re, q⟩
theorem sn_le : OpR X (compareOp .LtE) (rC2 G (cmpE .le)) := by
  refine OpR.of op_le fun x y H Q ⟨A, d, e, hH, hr, rd, re, b, h, q⟩ => ?_
  obtain ⟨i, j, rfl, rfl, rfl⟩ := int_cmp (f := fun i j => decide (i ≤ j)) (b := b) h
  exact ⟨i, j, rd, re, q⟩
theorem sn_gt : OpR X (compareOp .Gt) (rC2 G (cmpE .gt)) := by
  refine OpR.of op_gt fun x y H Q ⟨A, d, e, hH, hr, rd, re, b, h, q⟩ => ?_
  obtain ⟨i, j, rfl, rfl, rfl⟩ := int_cmp (f := fun i j => decide (j < i)) (b := b) h
  exact ⟨i, j, rd, re, q⟩
theorem sn_ge : OpR X (compareOp .GtE) (rC2 G (cmpE .ge)) := by
  refine OpR.of op_ge fun x y H Q ⟨A, d, e, hH, hr, rd, re, b, h, q⟩ => ?_
  obtain ⟨i, j, rfl, rfl, rfl⟩ := int_cmp (f := fun i j => decide (j ≤ i)) (b := b) h
  exact ⟨i, j, rd, re, q⟩
theorem isE_cases {d e : D} {b : Bool} {x y : V} (rd : Rep G A d x) (re : Rep G A e y) (h : isE d e = some b) : (y = .non ∧ decide (x = .non) = b) ∨ ∃ k l, x = .bl k ∧ y = .bl l ∧ decide (k = l) = b := by
  cases e with
  | non =>
    refine .inl ⟨re, ?_⟩
    cases d with
    | non => cases (show x = V.non from rd); cases (show some true = some b from h); rfl
    | bl k => cases (show x = V.bl k from rd); cases (show some false = some b from h); rfl
    | int k => cases (show x = V.int k from rd); cases (show some false = some b from h); rfl
    | str k => cases (show x = V.str k from rd); cases (show some false = some b from h); rfl
    | tup k => obtain ⟨a, xs, rfl, _⟩ := rd; cases (show some false = some b from h); rfl
    | ref k => obtain ⟨_, rfl⟩ := rd; cases (show some false = some b from h); rfl
    | glb k => cases h
  | bl l =>
    cases d with
    | bl k => cases (show some (decide (k = l)) = some b from h); exact .inr ⟨k, l, rd, re, rfl⟩
    | _ => cases h
  | _ => cases d <;> cases h
theorem sn_is : OpR X (compareOp .Is) (rC2 G (cmpE .is)) := by
  refine OpR.of (OpR.or op_isN op_isBl) fun x y H Q ⟨A, d, e, hH, hr, rd, re, b, h, q⟩ => ?_
  rcases isE_cases rd re h with ⟨h1, rfl⟩ | ⟨k, l, h1, h2, rfl⟩
  · exact .inl ⟨h1, q⟩
  · exact .inr ⟨k, l, h1, h2, q⟩
theorem sn_isnot : OpR X (compareOp .IsNot) (rC2 G (cmpE .isnot)) := by
  refine OpR.of (OpR.or op_notN op_notBl) fun x y H Q ⟨A, d, e, hH, hr, rd, re, b, h, q⟩ => ?_
  obtain ⟨c, hc, rfl⟩ := Option.map_eq_some_iff.mp (show (isE d e).map (!·) = some b from h)
  rcases isE_cases rd re hc with ⟨h1, rfl⟩ | ⟨k, l, h1, h2, rfl⟩
  · exact .inl ⟨h1, q⟩
  · exact .inr ⟨k, l, h1, h2, q⟩
end Mini
set_option maxHeartbeats 2000000
/-! Mini: functions, methods, subscripts keep what the evaluator says. -/
namespace Mini
open PySem PySem.Spec PyProof.Rows L2

variable {G : Gx} {A : Ab} {X : Cx}
theorem CallR.of {f : Value} {r r' : List V → Hp → VK → Prop} (h : CallR X f r) (k : ∀ xs H Q, r' xs H Q → r xs H Q) : CallR X f r' :=
  fun pins s σ H xs us Q I rx q => h pins s σ H xs us Q I rx (k _ _ _ q)
theorem MtR.of {id : String} {r r' : V → List V → Hp → VK → Prop} (h : MtR X id r) (k : ∀ x xs H Q, r' x xs H Q → r x xs H Q) : MtR X id r' :=
  fun pins s σ H x xs v us Q I rx rs q => h pins s σ H x xs v us Q I rx rs (k _ _ _ _ q)
theorem repL1 {d : D} {xs : List V} (r : RepL G A [d] xs) : ∃ v, xs = [v] ∧ Rep G A d v := by
  obtain ⟨v, vs, rfl, h, h2⟩ := RepL.uncons r
  rw [RepL.nil_iff h2]
  exact ⟨v, rfl, h⟩
theorem repL2 {d e : D} {xs : List V} (r : RepL G A [d, e] xs) : ∃ v w, xs = [v, w] ∧ Rep G A d v ∧ Rep G A e w := by
  obtain ⟨v, vs, rfl, h, h2⟩ := RepL.uncons r
  obtain ⟨w, rfl, h3⟩ := repL1 h2
  exact ⟨v, w, rfl, h, h3⟩
theorem RepL.intsOf : ∀ {ds : List D} {xs : List V} {ns : List Int}, RepL G A ds xs → intsOf ds = some ns → xs = ns.map V.int
  | [], _, _, r, h => by cases h; rw [RepL.nil_iff r]; rfl
  | d :: ds, _, _, r, h => by
    obtain ⟨v, vs, rfl, h1, h2⟩ := RepL.uncons r
    cases d with
    | int i =>
      obtain ⟨ms, e, rfl⟩ := Option.map_eq_some_iff.mp (show (Mini.intsOf ds).map (i :: ·) = some _ from h)
      rw [RepL.intsOf h2 e, show v = V.int i from h1]
      rfl
    | _ => cases h
theorem RepL.boolsOf : ∀ {ds : List D} {xs : List V} {ns : List Bool}, RepL G A ds xs → boolsOf ds = some ns → xs = ns.map V.bl
  | [], _, _, r, h => by cases h; rw [RepL.nil_iff r]; rfl
  | d :: ds, _, _, r, h => by
    obtain ⟨v, vs, rfl, h1, h2⟩ := RepL.uncons r
    cases d with
    | bl i =>
      obtain ⟨ms, e, rfl⟩ := Option.map_eq_some_iff.mp (show (Mini.boolsOf ds).map (i :: ·) = some _ from h)
      rw [RepL.boolsOf h2 e, show v = V.bl i from h1]
      rfl
    | _ => cases h
theorem foldl_max (x : Int) : ∀ xs : List Int, (xs.foldl (fun m y => if y > m then y else m) x) ∈ x :: xs ∧ ∀ y ∈ x :: xs, y ≤ xs.foldl (fun m y => if y > m then y else m) x := by
  intro xs
  induction xs generalizing x with
  | nil => simp
  | cons y ys ih =>
    rw [List.foldl_cons]
    by_cases c : y > x
    · rw [if_pos c]
      obtain ⟨h1, h2⟩ := ih y
      have hy := h2 y (by simp)
      refine ⟨List.mem_cons_of_mem _ h1, fun z hz => ?_⟩
      rcases List.mem_cons.mp hz with e | hz
      · omega
      · exact h2 z hz
    · rw [if_neg c]
      obtain ⟨h1, h2⟩ := ih x
      have hx := h2 x (by simp)
      refine ⟨?_, fun z hz => ?_⟩
      · rcases List.mem_cons.mp h1 with e | h
        · rw [e]; simp
        · simp [h]
      · rcases List.mem_cons.mp hz with e | hz
        · omega
        · rcases List.mem_cons.mp hz with e | hz
          · omega
          · exact h2 z (by simp [hz])
theorem foldl_min (x : Int) : ∀ xs : List Int, (xs.foldl (fun m y => if y < m then y else m) x) ∈ x :: xs ∧ ∀ y ∈ x :: xs, xs.foldl (fun m y => if y < m then y else m) x ≤ y := by
  intro xs
  induction xs generalizing x with
  | nil => simp
  | cons y ys ih =>
    rw [List.foldl_cons]
    by_cases c : y < x
    · rw [if_pos c]
      obtain ⟨h1, h2⟩ := ih y
      have hy := h2 y (by simp)
      refine ⟨List.mem_cons_of_mem _ h1, fun z hz => ?_⟩
      rcases List.mem_cons.mp hz with e | hz
      · omega
      · exact h2 z hz
    · rw [if_neg c]
      obtain ⟨h1, h2⟩ := ih x
      have hx := h2 x (by simp)
      refine ⟨?_, fun z hz => ?_⟩
      · rcases List.mem_cons.mp h1 with e | h
        · rw [e]; simp
        · simp [h]
      · rcases List.mem_cons.mp hz with e | hz
        · omega
        · rcases List.mem_cons.mp hz with e | hz
          · omega
          · exact h2 z (by simp [hz])
/-- a function's arguments, one value -/
theorem rDs1 {g : Fn} {xs : List V} {H : Hp} {Q : VK} (h : rDs G (fnE g) xs H Q) (hne : ∀ ds S, (∀ d, ds ≠ [d]) → fnE g ds S = .no) :
    ∃ A d v E, A.H = H ∧ HR G A ∧ xs = [v] ∧ Rep G A d v ∧ (fnE g [d] A.S).sat (Fin G A Q) E := by
  obtain ⟨A, ds, E, hH, hr, r, h⟩ := h
  by_cases hd : ∃ d, ds = [d]
  · obtain ⟨d, rfl⟩ := hd
    obtain ⟨v, rfl, r1⟩ := repL1 r
    exact ⟨A, d, v, E, hH, hr, rfl, r1, h⟩
  · rw [hne ds A.S fun d e => hd ⟨d, e⟩] at h
    exact (show False from h).elim
theorem seq_bind {S : Sto} {n : Nat} {β : Type} {f : List D → Option β} {b : β} (h : (seqAt S n).bind f = some b) : ∃ ds, seqAt S n = some ds ∧ f ds = some b := Option.bind_eq_some_iff.mp h
theorem sn_len (hK : X.K = G.K) : CallR X (.builtin "len") (rDs G (fnE .len)) := by
  refine CallR.of call_len fun xs H Q hw => ?_
  obtain ⟨A, d, v, E, rfl, hr, rfl, rd, h⟩ := rDs1 hw fun ds S hne => by
    cases ds with
    | nil => rfl
    | cons d r => cases r with
      | nil => exact absurd rfl (hne d)
      | cons _ _ => cases d <;> rfl
  cases d with
  | tup ds =>
    obtain ⟨a, ys, rfl, h1, r1⟩ := rd
    exact ⟨_, ds.length, rfl, .inr ⟨ys, by rw [hK]; exact h1, r1.length.symm⟩, Fin.at (show Fin G A Q (.int ds.length) A.S from h) .refl hr rfl⟩
  | ref n =>
    have h : (match seqAt A.S n with
      | some xs => Res.ok (D.int xs.length) A.S
      | none => .no).sat (Fin G A Q) E := h
    cases q : seqAt A.S n with
    | none => rw [q] at h; exact (show False from h).elim
    | some ds =>
      rw [q] at h
      obtain ⟨ys, h1, r1⟩ := hr.seqAt q
      obtain ⟨_, rfl⟩ := rd
      exact ⟨_, ds.length, rfl, .inl ⟨ys, by rw [hK]; exact h1, r1.length.symm⟩, Fin.at (show Fin G A Q (.int ds.length) A.S from h) .refl hr rfl⟩
  | str x =>
    have h : (if x.length ≤ lineN then Res.ok (D.int x.length) A.S else .no).sat (Fin G A Q) E := h
    cases (show v = V.str x from rd)
    split at h
    · rename_i hz
      exact ⟨_, x.length, rfl, ⟨by rw [← lineN_eq]; exact hz, rfl⟩, Fin.at (show Fin G A Q (.int x.length) A.S from h) .refl hr rfl⟩
    · exact (show False from h).elim
  | _ => exact (show False from h).elim
theorem sn_abs : CallR X (.builtin "abs") (rDs G (fnE .abs)) := by
  refine CallR.of call_abs fun xs H Q hw => ?_
  obtain ⟨A, d, v, E, rfl, hr, rfl, rd, h⟩ := rDs1 hw fun ds S hne => by
    cases ds with
    | nil => rfl
    | cons d r => cases r with
      | nil => exact absurd rfl (hne d)
      | cons _ _ => cases d <;> rfl
  cases d with
  | int i => cases (show v = V.int i from rd); exact ⟨i, rfl, Fin.at (show Fin G A Q (.int (if i < 0 then -i else i)) A.S from h) .refl hr rfl⟩
  | _ => exact (show False from h).elim
theorem sn_int : CallR X (.type "int") (rDs G (fnE .int)) := by
  refine CallR.of call_int1 fun xs H Q hw => ?_
  obtain ⟨A, d, v, E, rfl, hr, rfl, rd, h⟩ := rDs1 hw fun ds S hne => by
    cases ds with
    | nil => rfl
    | cons d r => cases r with
      | nil => exact absurd rfl (hne d)
      | cons _ _ => cases d <;> rfl
  cases d with
  | int i => cases (show v = V.int i from rd); exact .inl ⟨i, rfl, Fin.at (show Fin G A Q (.int i) A.S from h) .refl hr rfl⟩
  | bl b => cases (show v = V.bl b from rd); exact .inr ⟨b, rfl, Fin.at (show Fin G A Q (.int (if b then 1 else 0)) A.S from h) .refl hr rfl⟩
  | _ => exact (show False from h).elim
theorem sn_tuple (hK : X.K = G.K) : CallR X (.type "tuple") (rDs G (fnE .tuple)) := by
  refine CallR.of call_tuple_of fun xs H Q hw => ?_
  obtain ⟨A, d, v, E, rfl, hr, rfl, rd, h⟩ := rDs1 hw fun ds S hne => by
    cases ds with
    | nil => rfl
    | cons d r => cases r with
      | nil => exact absurd rfl (hne d)
      | cons _ _ => cases d <;> rfl
  cases d with
  | tup ds =>
    obtain ⟨a, ys, rfl, h1, r1⟩ := rd
    exact ⟨a, ys, rfl, .inr ⟨by rw [hK]; exact h1, Fin.at (show Fin G A Q (.tup ds) A.S from h) .refl hr ⟨a, ys, rfl, h1, r1⟩⟩⟩
  | ref n =>
    have h : (match seqAt A.S n with
      | some xs => Res.ok (D.tup xs) A.S
      | none => .no).sat (Fin G A Q) E := h
    cases q : seqAt A.S n with
    | none => rw [q] at h; exact (show False from h).elim
    | some ds =>
      rw [q] at h
      obtain ⟨ys, h1, r1⟩ := hr.seqAt q
      obtain ⟨_, rfl⟩ := rd
      exact ⟨_, ys, rfl, .inl ⟨by rw [hK]; exact h1, fun p hp => Fin.tup (show Fin G A Q (.tup ds) A.S from h) hr r1 hp⟩⟩
  | _ => exact (show False from h).elim
theorem sn_list (hK : X.K = G.K) : CallR X (.type "list") (rDs G (fnE .list)) := by
  refine CallR.of call_list_of fun xs H Q hw => ?_
  obtain ⟨A, d, v, E, rfl, hr, rfl, rd, h⟩ := rDs1 hw fun ds S hne => by
    cases ds with
    | nil => rfl
    | cons d r => cases r with
      | nil => exact absurd rfl (hne d)
      | cons _ _ => cases d <;> rfl
  cases d with
  | tup ds =>
    obtain ⟨a, ys, rfl, h1, r1⟩ := rd
    exact ⟨a, ys, rfl, .inr (by rw [hK]; exact h1), fun p hp => Fin.lst h hr r1 hp⟩
  | ref n =>
    have h : (match seqAt A.S n with
      | some xs => new (.lst xs) A.S
      | none => .no).sat (Fin G A Q) E := h
    cases q : seqAt A.S n with
    | none => rw [q] at h; exact (show False from h).elim
    | some ds =>
      rw [q] at h
      obtain ⟨ys, h1, r1⟩ := hr.seqAt q
      obtain ⟨_, rfl⟩ := rd
      exact ⟨_, ys, rfl, .inl (by rw [hK]; exact h1), fun p hp => Fin.lst h hr r1 hp⟩
  | _ => exact (show False from h).elim
theorem sn_sum (hK : X.K = G.K) (hc : X.calm = true) : CallR X (.builtin "sum") (rDs G (fnE .sum)) := by
  refine CallR.of (cr_sum hc) fun xs H Q hw => ?_
  obtain ⟨A, d, v, E, rfl, hr, rfl, rd, h⟩ := rDs1 hw fun ds S hne => by
    cases ds with
    | nil => rfl
    | cons d r => cases r with
      | nil => exact absurd rfl (hne d)
      | cons _ _ => cases d <;> rfl
  cases d with
  | ref n =>
    have h : (match (seqAt A.S n).bind intsOf with
      | some ns => Res.ok (D.int ns.sum) A.S
      | none => .no).sat (Fin G A Q) E := h
    cases q : (seqAt A.S n).bind intsOf with
    | none => rw [q] at h; exact (show False from h).elim
    | some ns =>
      rw [q] at h
      obtain ⟨ds, q1, q2⟩ := seq_bind q
      obtain ⟨ys, h1, r1⟩ := hr.seqAt q1
      obtain ⟨_, rfl⟩ := rd
      rw [r1.intsOf q2] at h1
      exact ⟨_, ns, rfl, by rw [hK]; exact h1, Fin.at (show Fin G A Q (.int ns.sum) A.S from h) .refl hr rfl⟩
  | _ => exact (show False from h).elim
theorem sn_all (hK : X.K = G.K) (hc : X.calm = true) : CallR X (.builtin "all") (rDs G (fnE .all)) := by
  refine CallR.of (cr_all hc) fun xs H Q hw => ?_
  obtain ⟨A, d, v, E, rfl, hr, rfl, rd, h⟩ := rDs1 hw fun ds S hne => by
    cases ds with
    | nil => rfl
    | cons d r => cases r with
      | nil => exact absurd rfl (hne d)
      | cons _ _ => cases d <;> rfl
  cases d with
  | ref n =>
    have h : (match (seqAt A.S n).bind boolsOf with
      | some ns => Res.ok (D.bl (ns.all id)) A.S
      | none => .no).sat (Fin G A Q) E := h
    cases q : (seqAt A.S n).bind boolsOf with
    | none => rw [q] at h; exact (show False from h).elim
    | some ns =>
      rw [q] at h
      obtain ⟨ds, q1, q2⟩ := seq_bind q
      obtain ⟨ys, h1, r1⟩ := hr.seqAt q1
      obtain ⟨_, rfl⟩ := rd
      rw [r1.boolsOf q2] at h1
      exact ⟨_, ns, rfl, by rw [hK]; exact h1, Fin.at (show Fin G A Q (.bl (ns.all id)) A.S from h) .refl hr rfl⟩
  | _ => exact (show False from h).elim
theorem sn_any (hK : X.K = G.K) (hc : X.calm = true) : CallR X (.builtin "any") (rDs G (fnE .any)) := by
  refine CallR.of (cr_any hc) fun xs H Q hw => ?_
  obtain ⟨A, d, v, E, rfl, hr, rfl, rd, h⟩ := rDs1 hw fun ds S hne => by
    cases ds with
    | nil => rfl
    | cons d r => cases r with
      | nil => exact absurd rfl (hne d)
      | cons _ _ => cases d <;> rfl
  cases d with
  | ref n =>
    have h : (match (seqAt A.S n).bind boolsOf with
      | some ns => Res.ok (D.bl (ns.any id)) A.S
      | none => .no).sat (Fin G A Q) E := h
    cases q : (seqAt A.S n).bind boolsOf with
    | none => rw [q] at h; exact (show False from h).elim
    | some ns =>
      rw [q] at h
      obtain ⟨ds, q1, q2⟩ := seq_bind q
      obtain ⟨ys, h1, r1⟩ := hr.seqAt q1
      obtain ⟨_, rfl⟩ := rd
      rw [r1.boolsOf q2] at h1
      exact ⟨_, ns, rfl, by rw [hK]; exact h1, Fin.at (show Fin G A Q (.bl (ns.any id)) A.S from h) .refl hr rfl⟩
  | _ => exact (show False from h).elim
theorem max_list {S : Sto} {n : Nat} {Q : VK} {E : Nat → List (Str × D) → Sto → Prop} {f : List Int → Option Int}
    (h : (match (seqAt S n).bind intsOf with
      | some ns => ofOpt S ((f ns).map D.int)
      | none => .no).sat (Fin G A Q) E) : ∃ ds ns m, seqAt S n = some ds ∧ intsOf ds = some ns ∧ f ns = some m ∧ Fin G A Q (.int m) S := by
  cases q : (seqAt S n).bind intsOf with
  | none => rw [q] at h; exact (show False from h).elim
  | some ns =>
    rw [q] at h
    obtain ⟨ds, q1, q2⟩ := seq_bind q
    dsimp only at h
    cases q3 : f ns with
    | none => rw [q3] at h; exact (show False from h).elim
    | some m => rw [q3] at h; exact ⟨ds, ns, m, q1, q2, q3, h⟩
theorem two_or_one {xs : List V} {Q : VK} {E : Nat → List (Str × D) → Sto → Prop} {g : Fn} {ds : List D} (r : RepL G A ds xs) (h : (fnE g ds A.S).sat (Fin G A Q) E)
    (hne : ∀ ds S, (∀ i j, ds ≠ [.int i, .int j]) → (∀ n, ds ≠ [.ref n]) → fnE g ds S = .no) :
    (∃ i j, ds = [.int i, .int j] ∧ xs = [.int i, .int j]) ∨ ∃ n, ds = [.ref n] ∧ n < A.S.length ∧ xs = [.ref (A.μ n)] := by
  by_cases h1 : ∃ i j, ds = [.int i, .int j]
  · obtain ⟨i, j, rfl⟩ := h1
    obtain ⟨v, w, rfl, r1, r2⟩ := repL2 r
    cases (show v = V.int i from r1)
    cases (show w = V.int j from r2)
    exact .inl ⟨i, j, rfl, rfl⟩
  · by_cases h2 : ∃ n, ds = [.ref n]
    · obtain ⟨n, rfl⟩ := h2
      obtain ⟨v, rfl, r1⟩ := repL1 r
      obtain ⟨hn, rfl⟩ := r1
      exact .inr ⟨n, rfl, hn, rfl⟩
    · rw [hne ds A.S (fun i j e => h1 ⟨i, j, e⟩) fun n e => h2 ⟨n, e⟩] at h
      exact (show False from h).elim
theorem sn_max (hK : X.K = G.K) (hc : X.calm = true) : CallR X (.builtin "max") (rDs G (fnE .max)) := by
  refine CallR.of (CallR.or (call_max2 hc) (cr_max hc)) fun xs H Q hw => ?_
  obtain ⟨A, ds, E, rfl, hr, r, h⟩ := hw
  rcases two_or_one r h (fun ds S h1 h2 => by
    match ds with
    | [] => rfl
    | [.ref n] => exact absurd rfl (h2 n)
    | [.int i, .int j] => exact absurd rfl (h1 i j)
    | [.non] | [.bl _] | [.int _] | [.str _] | [.tup _] | [.glb _] => rfl
    | .non :: _ :: _ | .bl _ :: _ :: _ | .str _ :: _ :: _ | .tup _ :: _ :: _ | .glb _ :: _ :: _ | .ref _ :: _ :: _ => rfl
    | .int _ :: .non :: _ | .int _ :: .bl _ :: _ | .int _ :: .str _ :: _ | .int _ :: .tup _ :: _ | .int _ :: .glb _ :: _ | .int _ :: .ref _ :: _ => rfl
    | .int _ :: .int _ :: _ :: _ => rfl) with ⟨i, j, rfl, rfl⟩ | ⟨n, rfl, hn, rfl⟩
  · exact .inl ⟨i, j, rfl, Fin.at (show Fin G A Q (.int (if j > i then j else i)) A.S from h) .refl hr rfl⟩
  · obtain ⟨ds, ns, m, q1, q2, q3, hf⟩ := max_list (f := maxL) h
    obtain ⟨ys, h1, r1⟩ := hr.seqAt q1
    rw [r1.intsOf q2] at h1
    cases ns with
    | nil => cases q3
    | cons x ns =>
      cases q3
      obtain ⟨m1, m2⟩ := foldl_max x ns
      refine .inr ⟨_, x :: ns, rfl, by rw [hK]; exact h1, by simp, fun k hk hl => ?_⟩
      have : k = ns.foldl (fun m y => if y > m then y else m) x := Int.le_antisymm (m2 k hk) (hl _ m1)
      rw [this]
      exact hf.at .refl hr rfl
theorem sn_min (hK : X.K = G.K) (hc : X.calm = true) : CallR X (.builtin "min") (rDs G (fnE .min)) := by
  refine CallR.of (CallR.or (call_min2 hc) (cr_min hc)) fun xs H Q hw => ?_
  obtain ⟨A, ds, E, rfl, hr, r, h⟩ := hw
  rcases two_or_one r h (fun ds S h1 h2 => by
    match ds with
    | [] => rfl
    | [.ref n] => exact absurd rfl (h2 n)
    | [.int i, .int j] => exact absurd rfl (h1 i j)
    | [.non] | [.bl _] | [.int _] | [.str _] | [.tup _] | [.glb _] => rfl
    | .non :: _ :: _ | .bl _ :: _ :: _ | .str _ :: _ :: _ | .tup _ :: _ :: _ | .glb _ :: _ :: _ | .ref _ :: _ :: _ => rfl
    | .int _ :: .non :: _ | .int _ :: .bl _ :: _ | .int _ :: .str _ :: _ | .int _ :: .tup _ :: _ | .int _ :: .glb _ :: _ | .int _ :: .ref _ :: _ => rfl
    | .int _ :: .int _ :: _ :: _ => rfl) with ⟨i, j, rfl, rfl⟩ | ⟨n, rfl, hn, rfl⟩
  · exact .inl ⟨i, j, rfl, Fin.at (show Fin G A Q (.int (if j < i then j else i)) A.S from h) .refl hr rfl⟩
  · obtain ⟨ds, ns, m, q1, q2, q3, hf⟩ := max_list (f := minL) h
    obtain ⟨ys, h1, r1⟩ := hr.seqAt q1
    rw [r1.intsOf q2] at h1
    cases ns with
    | nil => cases q3
    | cons x ns =>
      cases q3
      obtain ⟨m1, m2⟩ := foldl_min x ns
      refine .inr ⟨_, x :: ns, rfl, by rw [hK]; exact h1, by simp, fun k hk hl => ?_⟩
      have : k = ns.foldl (fun m y => if y < m then y else m) x := Int.le_antisymm (hl _ m1) (m2 k hk)
      rw [this]
      exact hf.at .refl hr rfl
theorem two_ints {xs : List V} {Q : VK} {E : Nat → List (Str × D) → Sto → Prop} {g : Fn} {ds : List D} (r : RepL G A ds xs) (h : (fnE g ds A.S).sat (Fin G A Q) E)
    (hne : ∀ ds S, (∀ i j, ds ≠ [.int i, .int j]) → fnE g ds S = .no) : ∃ i j, ds = [.int i, .int j] ∧ xs = [.int i, .int j] := by
  by_cases h1 : ∃ i j, ds = [.int i, .int j]
  · obtain ⟨i, j, rfl⟩ := h1
    obtain ⟨v, w, rfl, r1, r2⟩ := repL2 r
    cases (show v = V.int i from r1)
    cases (show w = V.int j from r2)
    exact ⟨i, j, rfl, rfl⟩
  · rw [hne ds A.S (fun i j e => h1 ⟨i, j, e⟩)] at h
    exact (show False from h).elim
theorem sn_gcd : CallR X (.builtin "math.gcd") (rDs G (fnE .gcd)) := by
  refine CallR.of cr_gcd fun xs H Q hw => ?_
  obtain ⟨A, ds, E, rfl, hr, r, h⟩ := hw
  obtain ⟨i, j, rfl, rfl⟩ := two_ints r h (fun ds S h1 => by
    match ds with
    | [] => rfl
    | [_] => rename_i d; cases d <;> rfl
    | [.int i, .int j] => exact absurd rfl (h1 i j)
    | .non :: _ :: _ | .bl _ :: _ :: _ | .str _ :: _ :: _ | .tup _ :: _ :: _ | .glb _ :: _ :: _ | .ref _ :: _ :: _ => rfl
    | .int _ :: .non :: _ | .int _ :: .bl _ :: _ | .int _ :: .str _ :: _ | .int _ :: .tup _ :: _ | .int _ :: .glb _ :: _ | .int _ :: .ref _ :: _ => rfl
    | .int _ :: .int _ :: _ :: _ => rfl)
  exact ⟨i, j, rfl, Fin.at (show Fin G A Q (.int ((Nat.gcd i.natAbs j.natAbs : Nat) : Int)) A.S from h) .refl hr rfl⟩
theorem sn_divmod : CallR X (.builtin "divmod") (rDs G (fnE .divmod)) := by
  refine CallR.of call_divmodW fun xs H Q hw => ?_
  obtain ⟨A, ds, E, rfl, hr, r, h⟩ := hw
  obtain ⟨i, j, rfl, rfl⟩ := two_ints r h (fun ds S h1 => by
    match ds with
    | [] => rfl
    | [_] => rename_i d; cases d <;> rfl
    | [.int i, .int j] => exact absurd rfl (h1 i j)
    | .non :: _ :: _ | .bl _ :: _ :: _ | .str _ :: _ :: _ | .tup _ :: _ :: _ | .glb _ :: _ :: _ | .ref _ :: _ :: _ => rfl
    | .int _ :: .non :: _ | .int _ :: .bl _ :: _ | .int _ :: .str _ :: _ | .int _ :: .tup _ :: _ | .int _ :: .glb _ :: _ | .int _ :: .ref _ :: _ => rfl
    | .int _ :: .int _ :: _ :: _ => rfl)
  have h : (if decide (0 < j) && !Builtin.divisionGoesByPylong i j then Res.ok (D.tup [.int (i / j), .int (i % j)]) A.S else .no).sat (Fin G A Q) E := h
  split at h
  · rename_i hc
    simp only [Bool.and_eq_true, decide_eq_true_eq, Bool.not_eq_true'] at hc
    exact ⟨i, j, rfl, hc, fun p hp => Fin.tup h hr (.cons rfl (.cons rfl .nil)) hp⟩
  · exact (show False from h).elim
theorem sn_str : CallR X (.type "str") (rDs G (fnE .str)) := by
  refine CallR.of (CallR.or call_str_int SkE.call_str_str) fun xs H Q hw => ?_
  obtain ⟨A, d, v, E, rfl, hr, rfl, rd, h⟩ := rDs1 hw fun ds S hne => by
    cases ds with
    | nil => rfl
    | cons d r => cases r with
      | nil => exact absurd rfl (hne d)
      | cons _ _ => cases d <;> rfl
  cases d with
  | int i =>
    cases (show v = V.int i from rd)
    have h : (if i.natAbs.log2 < 1920 then Res.ok (D.str (Str.ofString (toString i))) A.S else .no).sat (Fin G A Q) E := h
    split at h
    · rename_i hz
      exact .inl ⟨i, rfl, hz, Fin.at (show Fin G A Q (.str (Str.ofString (toString i))) A.S from h) .refl hr rfl⟩
    · exact (show False from h).elim
  | str x => cases (show v = V.str x from rd); exact .inr ⟨x, rfl, Fin.at (show Fin G A Q (.str x) A.S from h) .refl hr rfl⟩
  | _ => exact (show False from h).elim

/-! ### truth -/
theorem truV_of {d : D} {x : V} {b : Bool} (hr : HR G A) (rd : Rep G A d x) (ht : truth A.S d = some b) : TruV G.K x A.H b := by
  cases d with
  | non => cases (show x = V.non from rd); cases (show some false = some b from ht); rfl
  | bl k => cases (show x = V.bl k from rd); cases (show some k = some b from ht); rfl
  | int i => cases (show x = V.int i from rd); cases (show some (i != 0) = some b from ht); rfl
  | str y =>
    cases (show x = V.str y from rd)
    have ht : (if y.length ≤ lineN then some (y.length != 0) else none) = some b := ht
    split at ht
    · rename_i hz
      cases ht
      refine ⟨by rw [← lineN_eq]; exact hz, ?_⟩
      rw [Bool.eq_iff_iff]
      simp only [bne_iff_ne, ne_eq]
      omega
    · cases ht
  | tup ds =>
    obtain ⟨a, xs, rfl, h1, r1⟩ := rd
    cases (show some (!ds.isEmpty) = some b from ht)
    refine .inr (.inl ⟨xs, h1, ?_⟩)
    cases ds <;> cases xs <;> first | rfl | (have := r1.length; simp at this)
  | ref n =>
    obtain ⟨_, rfl⟩ := rd
    have ht : (match seqAt A.S n with
      | some xs => some (!xs.isEmpty)
      | none => none) = some b := ht
    cases qs : seqAt A.S n with
    | none => rw [qs] at ht; cases ht
    | some ds =>
      rw [qs] at ht
      cases ht
      obtain ⟨xs, h1, r1⟩ := hr.seqAt qs
      refine .inl ⟨xs, h1, ?_⟩
      cases ds <;> cases xs <;> first | rfl | (have := r1.length; simp at this)
  | glb k => cases ht

/-! ### subscripts, slices -/
theorem ixN_len {n m : Nat} {i : Int} (h : n = m) : ixN n i = ixN m i := by rw [h]
theorem RepL.atI {ds : List D} {xs : List V} {i : Int} {d : D} (r : RepL G A ds xs) (h : L2.atI ds i = some d) : ∃ v, L2.atI xs i = some v ∧ Rep G A d v := by
  unfold L2.atI at h ⊢
  obtain ⟨j, h1, h2⟩ := Option.bind_eq_some_iff.mp h
  obtain ⟨v, h3, h4⟩ := r.get h2
  exact ⟨v, by rw [r.length, h1]; exact h3, h4⟩
theorem sn_ix (hK : X.K = G.K) : IxR X (fun x y H Q => ∃ A d e b, A.H = H ∧ HR G A ∧ Rep G A d x ∧ Rep G A e y ∧ ixE A.S d e = some b ∧ Fin G A Q b A.S) := by
  intro value slice pins s σ H x y v u Q I rx ry ⟨A, d, e, b, hH, hr, rd, re, hx, hf⟩ hs
  subst hH
  refine (ix_list.or ix_tup) value slice pins s σ _ x y v u Q I rx ry ?_ hs
  cases e with
  | int i =>
    cases d with
    | tup ds =>
      obtain ⟨a, xs, rfl, h1, r1⟩ := rd
      obtain ⟨w, h2, h3⟩ := r1.atI (show L2.atI ds i = some b from hx)
      exact .inr ⟨a, xs, i, w, rfl, re, by rw [hK]; exact h1, h2, hf.at .refl hr h3⟩
    | ref n =>
      obtain ⟨_, rfl⟩ := rd
      obtain ⟨ds, q1, q2⟩ := seq_bind (show (seqAt A.S n).bind (fun xs => L2.atI xs i) = some b from hx)
      obtain ⟨xs, h1, r1⟩ := hr.seqAt q1
      obtain ⟨w, h2, h3⟩ := r1.atI q2
      exact .inl ⟨_, xs, i, w, rfl, re, by rw [hK]; exact h1, h2, hf.at .refl hr h3⟩
    | _ => cases hx
  | _ => cases d <;> cases hx
theorem RepL.cut {ds : List D} {xs : List V} (r : RepL G A ds xs) (lo hi : Option Int) : RepL G A (cutD ds lo hi) (cutV xs lo hi) := by
  unfold cutD cutV
  rw [r.length]
  exact (r.drop _).take _
theorem sn_sl (hK : X.K = G.K) : SlR X (fun x l h H Q => ∃ A d E, A.H = H ∧ HR G A ∧ Rep G A d x ∧ (slE d l h A.S).sat (Fin G A Q) E) := by
  intro pins s σ H x v vl vu lo hi sl Q I rx hs pl pu ⟨A, d, E, hH, hr, rd, h⟩
  subst hH
  refine (sl_list.or sl_tupA) pins s σ _ x v vl vu lo hi sl Q I rx hs pl pu ?_
  unfold slE at h
  cases d with
  | tup ds =>
    obtain ⟨a, xs, rfl, h1, r1⟩ := rd
    have h : Fin G A Q (.tup (cutD ds lo hi)) A.S := h
    refine .inr ⟨a, xs, rfl, by rw [hK]; exact h1, fun ⟨z1, z2⟩ => ?_, fun _ p hp => Fin.tup h hr (r1.cut lo hi) hp⟩
    have : cutD ds lo hi = ds := by
      unfold cutD
      rw [r1.length] at z1 z2
      rw [z1, z2]
      simp
    rw [this] at h
    exact h.at .refl hr ⟨a, xs, rfl, h1, r1⟩
  | ref n =>
    obtain ⟨_, rfl⟩ := rd
    dsimp only at h
    cases q : seqAt A.S n with
    | none => rw [q] at h; exact (show False from h).elim
    | some ds =>
      rw [q] at h
      obtain ⟨xs, h1, r1⟩ := hr.seqAt q
      exact .inl ⟨_, xs, rfl, by rw [hK]; exact h1, fun p hp => Fin.lst h hr (r1.cut lo hi) hp⟩
  | _ => exact (show False from h).elim

/-! ### methods -/
def rMe (G : Gx) (m : Me) : V → List V → Hp → VK → Prop := fun x xs H Q => ∃ A d ds E, A.H = H ∧ HR G A ∧ Rep G A d x ∧ RepL G A ds xs ∧ (meE m d ds A.S).sat (Fin G A Q) E
theorem me_ref {m : Me} {x : V} {xs : List V} {H : Hp} {Q : VK} (h : rMe G m x xs H Q) : ∃ A n ds E, A.H = H ∧ HR G A ∧ n < A.S.length ∧ x = .ref (A.μ n) ∧ RepL G A ds xs ∧ (meE m (.ref n) ds A.S).sat (Fin G A Q) E := by
  obtain ⟨A, d, ds, E, hH, hr, rd, rs, h⟩ := h
  cases d with
  | ref n => exact ⟨A, n, ds, E, hH, hr, rd.1, rd.2, rs, h⟩
  | _ => cases m <;> exact (show False from h).elim
theorem Fin.put {n : Nat} {ds es : List D} {ys : List V} {Q : VK} {d : D} {v : V} (f : Fin G A Q d (A.S.set n (.lst es))) (h : HR G A) (hn : A.S[n]? = some (.lst ds)) (r : RepL G A es ys) (rv : Rep G A d v) : Q v (upd A.H (A.μ n) (.lst ys)) := by
  obtain ⟨h1, h2⟩ := h.putL hn r
  exact f _ _ _ h2 h1 (rv.mono h2)
theorem sn_append : MtR X "list.append" (rMe G .append) := by
  refine MtR.of (X := X) mt_append fun x xs H Q hw => ?_
  obtain ⟨A, n, ds, E, rfl, hr, hn, rfl, rs, h⟩ := me_ref hw
  match ds, rs, h with
  | [d], rs, h =>
    obtain ⟨v, rfl, rv⟩ := repL1 rs
    have h : (match lstAt A.S n with
      | some xs => if xs.length < lineN then Res.ok D.non (A.S.set n (.lst (xs ++ [d]))) else .no
      | none => .no).sat (Fin G A Q) E := h
    cases q : lstAt A.S n with
    | none => rw [q] at h; exact (show False from h).elim
    | some es =>
      rw [q] at h
      obtain ⟨hS, ys, h1, r1⟩ := hr.lstAt q
      dsimp only at h
      split at h
      · rename_i hz
        exact ⟨_, ys, v, rfl, rfl, h1, by rw [r1.length, ← lineN_eq]; exact hz, Fin.put (v := V.non) h hr hS (r1.append (.cons rv .nil)) rfl⟩
      · exact (show False from h).elim
  | [], _, h => exact (show False from h).elim
  | _ :: _ :: _, _, h => exact (show False from h).elim
theorem sn_extend : MtR X "list.extend" (rMe G .extend) := by
  refine MtR.of (X := X) mt_extend fun x xs H Q hw => ?_
  obtain ⟨A, n, ds, E, rfl, hr, hn, rfl, rs, h⟩ := me_ref hw
  match ds, rs, h with
  | [.ref k], rs, h =>
    obtain ⟨v, rfl, rv⟩ := repL1 rs
    obtain ⟨_, rfl⟩ := rv
    have h : (match lstAt A.S n, lstAt A.S k with
      | some xs, some ys => if xs.length + ys.length ≤ lineN then Res.ok D.non (A.S.set n (.lst (xs ++ ys))) else .no
      | _, _ => .no).sat (Fin G A Q) E := h
    cases q : lstAt A.S n with
    | none => rw [q] at h; exact (show False from h).elim
    | some es =>
      cases q2 : lstAt A.S k with
      | none => rw [q, q2] at h; exact (show False from h).elim
      | some fs =>
        rw [q, q2] at h
        obtain ⟨hS, ys, h1, r1⟩ := hr.lstAt q
        obtain ⟨_, zs, h2, r2⟩ := hr.lstAt q2
        dsimp only at h
        split at h
        · rename_i hz
          exact ⟨_, _, ys, zs, rfl, rfl, h1, h2, by rw [r1.length, r2.length, ← lineN_eq]; exact hz, Fin.put (v := V.non) h hr hS (r1.append r2) rfl⟩
        · exact (show False from h).elim
  | [], _, h => exact (show False from h).elim
  | [.non], _, h | [.bl _], _, h | [.int _], _, h | [.str _], _, h | [.tup _], _, h | [.glb _], _, h => exact (show False from h).elim
  | d :: _ :: _, _, h => cases d <;> exact (show False from h).elim
theorem sn_pop : MtR X "list.pop" (rMe G .pop) := by
  refine MtR.of (X := X) mt_pop fun x xs H Q hw => ?_
  obtain ⟨A, n, ds, E, rfl, hr, hn, rfl, rs, h⟩ := me_ref hw
  match ds, rs, h with
  | [], rs, h =>
    cases RepL.nil_iff rs
    have h : (match lstAt A.S n with
      | some xs => match xs[xs.length - 1]? with
        | some d => Res.ok d (A.S.set n (.lst xs.dropLast))
        | none => .no
      | none => .no).sat (Fin G A Q) E := h
    cases q : lstAt A.S n with
    | none => rw [q] at h; exact (show False from h).elim
    | some es =>
      rw [q] at h
      obtain ⟨hS, ys, h1, r1⟩ := hr.lstAt q
      dsimp only at h
      cases q2 : es[es.length - 1]? with
      | none => rw [q2] at h; exact (show False from h).elim
      | some d =>
        rw [q2] at h
        obtain ⟨v, h2, rv⟩ := r1.get q2
        exact ⟨_, ys, v, rfl, rfl, h1, by rw [r1.length]; exact h2, Fin.put h hr hS r1.dropLast rv⟩
  | _ :: _, _, h => exact (show False from h).elim
/-- l.count(x), data of any depth -/
def rCountD (K : PySem.W.Frag) : V → List V → Hp → VK → Prop := fun x xs H Q => ∃ (a : Addr) (y : V) (d : PyData) (ds : List PyData), x = V.ref a ∧ xs = [y] ∧ Dp K H (V.ref a) (.list ds) ∧ Dp K H y d ∧
  SeqAt.shaped (.list ds) = true ∧ SeqAt.shaped d = true ∧ Q (.int ((ds.countP fun z => PyData.eqv z d : Nat) : Int)) H
theorem mt_countD (hu : X.A.units + 65 < cLine) : MtR X "list.count" (rCountD X.K) := by
  intro pins s σ H x xs v us Q I rx rxs h
  obtain ⟨a, y, d, ds, rfl, rfl, hl, hy, sl, sd, q⟩ := h
  cases rx
  cases rxs with
  | cons ry rt =>
    rename_i uy ut
    cases rt
    obtain ⟨bs, r1⟩ := Dp.reads I d y uy hy ry
    have hxs : PyData.canLayAll0 ds = true := SeqAt.canLay_of_shaped sl
    have hroom : X.A.units + 1 + min (PyData.depthAll ds) d.depth < cLine := room_in_shaped sd hu
    cases hl with
    | lst hs ha =>
      obtain ⟨its, rv, ⟨⟨cls, dd, data, sls⟩, n, ho, hc, hdn, hdt⟩, hlen⟩ := I.list hs
      simp only at hc hdt
      subst hc hdt
      obtain ⟨as, h4⟩ := Dp.readsAll I ds _ its ha rv
      have hmap : its.map (SeqAt.readOf s.heap) = ds := SeqAt.readsAll_map ds its as hxs h4
      refine call_meets PySem.F.slot_list_count ⟨_, ho, rfl⟩ PySem.F.entry_list_count (PySem.F.args_list_count_2 _ _)
        (SeqAt.list_countAt a its.toArray n dd sls uy (fun u => PyData.eqv (SeqAt.readOf s.heap u) d)) ⟨ho, SeqAt.items_eqAt (vs := its.toArray) (show ReadsAll s.heap its.toArray.toList ds as from h4) r1 hxs (SeqAt.canLay_of_shaped sd) hroom, ?_⟩
      have e : its.toArray.toList.countP (fun u => PyData.eqv (SeqAt.readOf s.heap u) d) = ds.countP fun z => PyData.eqv z d := by
        rw [← hmap, List.countP_map]; rfl
      rw [e]
      exact ⟨.int _, H, I.tok _, ⟨_, rfl⟩, q⟩
theorem me_data {n : Nat} {d : D} {ys : List V} {f : PyData} {es : List PyData} (hr : HR G A) (hn : n < A.S.length) (rs : RepL G A [d] ys) (q1 : toD A.S deepN d = some f) (q2 : toD A.S deepN (.ref n) = some (.list es)) :
    ∃ v, ys = [v] ∧ Dp G.K A.H (V.ref (A.μ n)) (.list es) ∧ Dp G.K A.H v f := by
  obtain ⟨v, rfl, rv⟩ := repL1 rs
  exact ⟨v, rfl, dp_of hr _ (.ref n) _ _ q2 ⟨hn, rfl⟩, dp_of hr _ d v f q1 rv⟩
theorem sn_count (hK : X.K = G.K) (hu : X.A.units + 65 < cLine) : MtR X "list.count" (rMe G .count) := by
  refine MtR.of (X := X) (mt_countD hu) fun x xs H Q hw => ?_
  obtain ⟨A, n, ds, E, rfl, hr, hn, rfl, rs, h⟩ := me_ref hw
  match ds, rs, h with
  | [d], rs, h =>
    have h : (match toD A.S deepN d, toD A.S deepN (.ref n) with
      | some f, some (.list es) => if SeqAt.shaped f && SeqAt.shaped (.list es) then Res.ok (D.int ((es.countP fun z => PyData.eqv z f : Nat) : Int)) A.S else .no
      | _, _ => .no).sat (Fin G A Q) E := h
    split at h
    · rename_i f es q1 q2
      split at h
      · rename_i hs
        rw [Bool.and_eq_true] at hs
        obtain ⟨v, rfl, d1, d2⟩ := me_data hr hn rs q1 q2
        exact ⟨_, v, f, es, rfl, rfl, by rw [hK]; exact d1, by rw [hK]; exact d2, hs.2, hs.1, Fin.at h .refl hr rfl⟩
      · exact (show False from h).elim
    · exact (show False from h).elim
  | [], _, h => exact (show False from h).elim
  | _ :: _ :: _, _, h => exact (show False from h).elim
theorem sn_index (hK : X.K = G.K) (hu : X.A.units + 65 < cLine) : MtR X "list.index" (rMe G .index) := by
  refine MtR.of (X := X) (mt_indexD hu) fun x xs H Q hw => ?_
  obtain ⟨A, n, ds, E, rfl, hr, hn, rfl, rs, h⟩ := me_ref hw
  match ds, rs, h with
  | [d], rs, h =>
    have h : (match toD A.S deepN d, toD A.S deepN (.ref n) with
      | some f, some (.list es) => if SeqAt.shaped f && SeqAt.shaped (.list es) then (match es.findIdx? fun z => PyData.eqv z f with
        | some j => Res.ok (D.int (j : Nat)) A.S
        | none => .no) else .no
      | _, _ => .no).sat (Fin G A Q) E := h
    split at h
    · rename_i f es q1 q2
      split at h
      · rename_i hs
        rw [Bool.and_eq_true] at hs
        split at h
        · rename_i j hj
          obtain ⟨v, rfl, d1, d2⟩ := me_data hr hn rs q1 q2
          obtain ⟨k1, k2, k3⟩ := List.findIdx?_eq_some_iff_getElem.mp hj
          refine ⟨_, v, f, es, j, es[j], rfl, rfl, by rw [hK]; exact d1, by rw [hK]; exact d2, hs.2, hs.1, List.getElem?_eq_getElem k1, k2, fun m z hm hz => ?_, Fin.at h .refl hr rfl⟩
          obtain ⟨l1, rfl⟩ := List.getElem?_eq_some_iff.mp hz
          simpa using k3 m hm
        · exact (show False from h).elim
      · exact (show False from h).elim
    · exact (show False from h).elim
  | [], _, h => exact (show False from h).elim
  | _ :: _ :: _, _, h => exact (show False from h).elim
end Mini
set_option maxHeartbeats 2000000
/-! Mini: reversed slices, isinstance, repr, stores into lists. -/
namespace Mini
open PySem PySem.Spec PyProof.Rows L2
open PySem.Builtin.Slice in
theorem back_bounds (n : Nat) : sliceAdjust none none (-1) (n : Int) = ((n : Int) - 1, -1) := by
  unfold sliceAdjust
  have h : ((-1 : Int) < 0) := by omega
  simp only [h, if_true]
open PySem.Builtin.Slice in
theorem back_places (n : Nat) : slicePlaces ((n : Int) - 1) (-1) (-1) = n := by
  unfold slicePlaces
  have h : ¬ ((-1 : Int) > 0) := by omega
  simp only [h, if_false]
  by_cases c : (n : Int) - 1 > -1
  · simp only [c, if_true, show (- -1 : Int) = 1 by decide, Int.ediv_one]; omega
  · simp only [c, if_false]; omega
theorem back_pick (xs : Array Value) : ((List.range xs.size).filterMap fun (k : Nat) => xs[(((xs.size : Int) - 1) + (k : Int) * -1).toNat]?).toArray = xs.toList.reverse.toArray := by
  have e : (fun (k : Nat) => xs[(((xs.size : Int) - 1) + (k : Int) * -1).toNat]?) = (xs[·]?) ∘ fun k => xs.size - 1 - k := by
    funext k
    have e1 : (((xs.size : Int) - 1) + (k : Int) * -1).toNat = xs.size - 1 - k := by omega
    show _ = xs[xs.size - 1 - k]?
    rw [e1]
  rw [e, ← List.filterMap_map, PySem.W.krv_range, List.filterMap_reverse, PySem.W.krv_all]
section
variable {prog : Program} {w : World} {A : Around} {E : Value → Shared → Prop} {s : Shared}
theorem applied_back {sl : Addr} {vl vu vs : Value} {n : Nat} {Q : Int × Int × Nat → Shared → Prop} (hs : s.heap.IsSliceOf sl vl vu vs) (pl : IsPart vl none) (pu : IsPart vu none) (ps : IsPart vs (some (-1)))
    (h : Q ((n : Int) - 1, -1, n) s) : wpAny (model prog w) A (Builtin.Slice.sliceApplied (.ref sl) (pure (n : Int))) Q E s := by
  obtain ⟨ob, h1, h2, h3⟩ := id hs
  unfold Builtin.Slice.sliceApplied Builtin.Slice.sliceFields
  refine wpAny_bind (wpAny_bind (wpAny_field h1 h3 (x := vl) rfl (wpAny_bind (wpAny_field h1 h3 (x := vu) rfl (wpAny_bind (wpAny_field h1 h3 (x := vs) rfl (wpAny_pure ?_)))))))
  refine wpAny_bind (HT.slicePart_ ps ?_)
  show wpAny _ _ (if ((-1 : Int) == 0) = true then _ else _) _ _ s
  rw [if_neg (show ¬ ((-1 : Int) == 0) = true by decide)]
  refine wpAny_bind (HT.slicePart_ pl (wpAny_bind (HT.slicePart_ pu (wpAny_bind (wpAny_pure ?_)))))
  show wpAny _ _ (match Builtin.Slice.sliceAdjust none none (-1) (n : Int) with | (a, b) => pure (a, (-1 : Int), Builtin.Slice.slicePlaces a b (-1))) _ _ s
  rw [back_bounds n]
  show wpAny _ _ (pure ((n : Int) - 1, (-1 : Int), Builtin.Slice.slicePlaces ((n : Int) - 1) (-1) (-1))) _ _ s
  rw [back_places]
  exact wpAny_pure h
theorem tuple_back {t sl : Addr} {items : Array Value} {vl vu vs : Value} {Q : Value → Shared → Prop} (ht : IsTup s.heap t items) (hs : s.heap.IsSliceOf sl vl vu vs) (pl : IsPart vl none) (pu : IsPart vu none) (ps : IsPart vs (some (-1)))
    (h : Q (.ref s.heap.objs.size) { s with heap := s.heap.push { cls := .type "tuple", data := .seq items.toList.reverse.toArray } }) (hz : items.size ≤ sizeLine) :
    wpAny (model prog w) A (getItem (.ref t) (.ref sl)) Q E s := by
  have hok : sizeOk (.seq items.toList.reverse.toArray) := by
    show items.toList.reverse.toArray.size ≤ sizeLine
    rw [List.size_toArray, List.length_reverse, Array.length_toList]; exact hz
  have hT : s.TypeIs (.ref sl) "slice" := let ⟨ob, h1, h2, _⟩ := id hs; ⟨ob, h1, h2⟩
  unfold getItem
  try with_reducible refine wpAny_holding ?_
  first | refine wpAny_bind (wpAny_pure ?_) | skip
  refine wpAny_bind (wpAny_sequenceKey ht.typeIs (by decide) ?_)
  refine wpAny_bind (wpAny_callSpecial?_slot (name := Str.ofString "__getitem__") ht.typeIs slot_tuple_getitem (wpAny_call_entry slot_tuple_getitem ht.typeIs entry_tuple_getitem ?_ (args_tuple_getitem _ _)))
  show wpAny _ _ (Builtin.Tuple.tupleItemsOf (.ref t) >>= _) _ _ s
  refine wpAny_bind (tupleItemsOf_ ht (wpAny_bind (wpAny_typeOf hT ?_)))
  rw [if_pos (by decide)]
  refine wpAny_bind (applied_back hs pl pu ps ?_)
  have no : ¬ ((((items.size : Int) - 1) == 0 && (-1 : Int) == 1 && items.size == items.size) = true) := by
    rw [show ((-1 : Int) == 1) = false by decide, Bool.and_false, Bool.false_and]
    exact Bool.false_ne_true
  show wpAny _ _ (if (((items.size : Int) - 1) == 0 && (-1 : Int) == 1 && items.size == items.size) = true then _ else _) _ _ s
  rw [if_neg no, back_pick]
  first
    | exact wpAny_bind (m := Builtin.Tuple.tupleExact _) (wpAny_newObj_type (wpAny_pure ⟨_, rfl, wpAny_pure h⟩) hok)
    | exact wpAny_bind (m := Builtin.Tuple.tupleExact _) (wpAny_newObj_type (wpAny_bind (wpAny_pure (wpAny_pure ⟨_, rfl, wpAny_pure h⟩))) hok)
    | exact wpAny_bind (wpAny_bind (m := Builtin.Tuple.tupleExact _) (wpAny_newObj_type (wpAny_pure (wpAny_pure ⟨_, rfl, wpAny_pure h⟩)) hok))
    | exact wpAny_bind (wpAny_bind (m := Builtin.Tuple.tupleExact _) (wpAny_newObj_type (wpAny_pure ⟨_, rfl, wpAny_pure h⟩) hok))
end
variable {G : Gx} {A : Ab} {X : Cx}
def tRevT (K : PySem.W.Frag) (te : TE) : TE := fun σ H Q => te σ H fun x H1 => ∃ a xs, x = .ref a ∧ SqT K H1 a xs ∧ ∀ p, H1 p = none → Q (.ref p) (upd H1 p (.tup xs.reverse))
/-- the slice [::-1]: its object behind the base's -/
theorem slice_back {e : Expr} {te : TE} {k : Nat} {p1 p2 p3 pos : Pos} {R : V → Hp → VK → Prop} (he : PE X e te)
    (tail : ∀ (pins : List (Addr × Obj)) (s : Shared) (σ : L2.St) (H : Hp) (x : V) (v vl vu vs : Value) (sl : Addr) (Q : VK), Inv X pins σ H s → RelV x v → s.heap.IsSliceOf sl vl vu vs → IsPart vl none → IsPart vu none → IsPart vs (some (-1)) → R x H Q →
      wpAny (model X.prog X.w) X.A (subscriptTail e (.Slice none none (some (.UnaryOp .USub (.Constant (.int 1) k p1) p2)) p3) v (.ref sl)) (EP X pins σ Q) X.xe s) :
    PE X (.Subscript e (.Slice none none (some (.UnaryOp .USub (.Constant (.int 1) k p1) p2)) p3) pos) (fun σ H Q => te σ H fun x H1 => R x H1 Q) := by
  refine ⟨fun pins s σ H Q I h => Subscript_ (thn (he.run pins s σ H _ I h) fun v s1 ⟨x, H1, I1, r1, q1⟩ => ?_)⟩
  have hst : PO X (some (.UnaryOp .USub (.Constant (.int 1) k p1) p2)) (tPart (tUn (rU fun i => .int (-i)) (tC (.int 1)))) := po_some (pe_un un_neg pe_int)
  refine wpAny_Slice (thn (po_none.run pins s1 σ H1 (fun o H2 => o = none ∧ H2 = H1) I1 ⟨rfl, rfl⟩) fun vl s2 ⟨l, H2, I2, pl, el, e2⟩ => ?_)
  subst el e2
  refine thn (po_none.run pins s2 σ H2 (fun o H3 => o = none ∧ H3 = H2) I2 ⟨rfl, rfl⟩) fun vu s3 ⟨u, H3, I3, pu, eu, e3⟩ => ?_
  subst eu e3
  refine thn (hst.run pins s3 σ H3 (fun o H4 => o = some (-1) ∧ H4 = H3) I3 ⟨1, rfl, -1, rfl, rfl, rfl⟩) fun vs s4 ⟨o, H4, I4, ps, eo, e4⟩ => ?_
  subst eo e4
  exact tail pins { s4 with heap := s4.heap.push { cls := .type "slice", data := .fields #[vl, vu, vs] } } σ H4 x v vl vu vs s4.heap.objs.size Q (I4.kept (t' := s4.toks) fun b ob q => Heap.get?_push_of_some _ q) r1 (Heap.IsSliceOf.new _ vl vu vs) pl pu ps q1
def rRevS (G : Gx) : V → Hp → VK → Prop := fun x H Q => ∃ A d E, A.H = H ∧ HR G A ∧ Rep G A d x ∧ (revE d A.S).sat (Fin G A Q) E
theorem sn_rev {e : Expr} {te : TE} {k : Nat} {p1 p2 p3 pos : Pos} (hK : X.K = G.K) (he : PE X e te) :
    PE X (.Subscript e (.Slice none none (some (.UnaryOp .USub (.Constant (.int 1) k p1) p2)) p3) pos) (fun σ H Q => te σ H fun x H1 => rRevS G x H1 Q) := by
  refine slice_back he fun pins s σ H x v vl vu vs sl Q I rx hs pl pu ps ⟨A, d, E, hH, hr, rd, h⟩ => ?_
  subst hH
  cases d with
  | tup ds =>
    obtain ⟨a, xs, rfl, h1, r1⟩ := rd
    cases rx
    rw [← hK] at h1
    obtain ⟨its, rv, ht, hz⟩ := I.tuple h1
    have hl := rv.length
    refine tail_any (ops := [.ref a, .ref sl]) ht.typeIs slot_tuple_getitem.lookup ?_ (by with_unfolding_all rfl)
    refine tuple_back ht hs pl pu ps ?_ (by rw [List.size_toArray]; omega)
    have hp : A.H s.heap.objs.size = none := I.hok.fresh (Nat.le_refl _)
    refine ⟨.ref _, _, I.laid (t' := s.toks) (o := .tup xs.reverse) (fun b ob q => Heap.get?_push_of_some _ q) (Nat.le_refl _) ?_, rfl, Fin.tup (show Fin G A Q (.tup ds.reverse) A.S from h) hr r1.reverse hp⟩
    refine ⟨by rw [List.length_reverse]; exact hz, its.reverse, rv.reverse, ⟨_, Heap.get?_push_size _ rfl, rfl, 0, ?_⟩⟩
    simp
  | ref n =>
    obtain ⟨_, rfl⟩ := rd
    cases rx
    have h : (match lstAt A.S n with
      | some xs => new (.lst xs.reverse) A.S
      | none => .no).sat (Fin G A Q) E := h
    cases q : lstAt A.S n with
    | none => rw [q] at h; exact (show False from h).elim
    | some ds =>
      rw [q] at h
      obtain ⟨_, xs, h1, r1⟩ := hr.lstAt q
      obtain ⟨its, rv, ht, hz⟩ := I.list (SqL.of h1)
      have hl := rv.length
      refine tail_any (ops := [.ref (A.μ n), .ref sl]) ht.isList.typeIs PySem.slot_list_getitem.lookup ?_ (by with_unfolding_all rfl)
      refine wpAny_getItem_list_slice ht.isList hs pl pu ps (by decide) ?_ (by rw [List.size_toArray]; omega)
      rw [PySem.W.krv_pick]
      have hp : A.H s.heap.objs.size = none := I.hok.fresh (Nat.le_refl _)
      refine ⟨.ref _, _, I.laid (t' := s.toks) (o := .lst xs.reverse) (fun b ob q => Heap.get?_push_of_some _ q) (Nat.le_refl _) ?_, rfl, Fin.lst h hr r1.reverse hp⟩
      exact ⟨by rw [List.length_reverse]; exact hz, _, 0, rv.reverse, Heap.get?_push_size _ rfl⟩
  | _ => exact (show False from h).elim

/-! ### xs[:k:-1] of a tuple -/
open PySem.Builtin.Slice in
theorem backT_bounds (n k : Nat) : sliceAdjust none (some (k : Int)) (-1) (n : Int) = ((n : Int) - 1, min (k : Int) ((n : Int) - 1)) := by
  unfold sliceAdjust
  have h : ((-1 : Int) < 0) := by omega
  have h2 : ¬ ((k : Int) < 0) := by omega
  simp only [h, if_true, h2, if_false]
open PySem.Builtin.Slice in
theorem backT_places (n k : Nat) : slicePlaces ((n : Int) - 1) (min (k : Int) ((n : Int) - 1)) (-1) = n - (k + 1) := by
  unfold slicePlaces
  have h : ¬ ((-1 : Int) > 0) := by omega
  simp only [h, if_false]
  by_cases c : (n : Int) - 1 > min (k : Int) ((n : Int) - 1)
  · simp only [c, if_true, show (- -1 : Int) = 1 by decide, Int.ediv_one]; omega
  · simp only [c, if_false]; omega
theorem fm_congr {α β : Type} {f g : α → Option β} : ∀ {l : List α}, (∀ x ∈ l, f x = g x) → l.filterMap f = l.filterMap g
  | [], _ => rfl
  | x :: l, h => by rw [List.filterMap_cons, List.filterMap_cons, h x (List.mem_cons_self ..), fm_congr fun y hy => h y (List.mem_cons_of_mem _ hy)]
theorem backT_pick (xs : Array Value) (k : Nat) : ((List.range (xs.size - (k + 1))).filterMap fun (i : Nat) => xs[(((xs.size : Int) - 1) + (i : Int) * -1).toNat]?).toArray = (xs.toList.drop (k + 1)).reverse.toArray := by
  have q := back_pick (xs.toList.drop (k + 1)).toArray
  have hz : (xs.toList.drop (k + 1)).toArray.size = xs.size - (k + 1) := by simp
  refine Eq.trans ?_ q
  rw [hz]
  congr 1
  refine fm_congr fun i hi => ?_
  have hi := List.mem_range.mp hi
  have e1 : (((xs.size : Int) - 1) + (i : Int) * -1).toNat = xs.size - 1 - i := by omega
  have e2 : (((xs.size - (k + 1) : Nat) : Int) - 1 + (i : Int) * -1).toNat = xs.size - (k + 1) - 1 - i := by omega
  rw [e1, e2]
  have e3 : (xs.toList.drop (k + 1)).toArray[xs.size - (k + 1) - 1 - i]? = (xs.toList.drop (k + 1))[xs.size - (k + 1) - 1 - i]? := by simp
  rw [e3, List.getElem?_drop, Array.getElem?_toList]
  congr 1
  omega
section
variable {prog : Program} {w : World} {A : Around} {E : Value → Shared → Prop} {s : Shared}
theorem applied_backT {sl : Addr} {vl vu vs : Value} {n k : Nat} {Q : Int × Int × Nat → Shared → Prop} (hs : s.heap.IsSliceOf sl vl vu vs) (pl : IsPart vl none) (pu : IsPart vu (some (k : Int))) (ps : IsPart vs (some (-1)))
    (h : Q ((n : Int) - 1, -1, n - (k + 1)) s) : wpAny (model prog w) A (Builtin.Slice.sliceApplied (.ref sl) (pure (n : Int))) Q E s := by
  obtain ⟨ob, h1, h2, h3⟩ := id hs
  unfold Builtin.Slice.sliceApplied Builtin.Slice.sliceFields
  refine wpAny_bind (wpAny_bind (wpAny_field h1 h3 (x := vl) rfl (wpAny_bind (wpAny_field h1 h3 (x := vu) rfl (wpAny_bind (wpAny_field h1 h3 (x := vs) rfl (wpAny_pure ?_)))))))
  refine wpAny_bind (HT.slicePart_ ps ?_)
  show wpAny _ _ (if ((-1 : Int) == 0) = true then _ else _) _ _ s
  rw [if_neg (show ¬ ((-1 : Int) == 0) = true by decide)]
  refine wpAny_bind (HT.slicePart_ pl (wpAny_bind (HT.slicePart_ pu (wpAny_bind (wpAny_pure ?_)))))
  show wpAny _ _ (match Builtin.Slice.sliceAdjust none (some (k : Int)) (-1) (n : Int) with | (a, b) => pure (a, (-1 : Int), Builtin.Slice.slicePlaces a b (-1))) _ _ s
  rw [backT_bounds n k]
  show wpAny _ _ (pure ((n : Int) - 1, (-1 : Int), Builtin.Slice.slicePlaces ((n : Int) - 1) (min (k : Int) ((n : Int) - 1)) (-1))) _ _ s
  rw [backT_places]
  exact wpAny_pure h
theorem tuple_backT {t sl : Addr} {items : Array Value} {k : Nat} {vl vu vs : Value} {Q : Value → Shared → Prop} (ht : IsTup s.heap t items) (hs : s.heap.IsSliceOf sl vl vu vs) (pl : IsPart vl none) (pu : IsPart vu (some (k : Int))) (ps : IsPart vs (some (-1)))
    (h : Q (.ref s.heap.objs.size) { s with heap := s.heap.push { cls := .type "tuple", data := .seq (items.toList.drop (k + 1)).reverse.toArray } }) (hz : items.size ≤ sizeLine) :
    wpAny (model prog w) A (getItem (.ref t) (.ref sl)) Q E s := by
  have hok : sizeOk (.seq (items.toList.drop (k + 1)).reverse.toArray) := by
    show (items.toList.drop (k + 1)).reverse.toArray.size ≤ sizeLine
    rw [List.size_toArray, List.length_reverse, List.length_drop, Array.length_toList]; omega
  have hT : s.TypeIs (.ref sl) "slice" := let ⟨ob, h1, h2, _⟩ := id hs; ⟨ob, h1, h2⟩
  unfold getItem
  try with_reducible refine wpAny_holding ?_
  first | refine wpAny_bind (wpAny_pure ?_) | skip
  refine wpAny_bind (wpAny_sequenceKey ht.typeIs (by decide) ?_)
  refine wpAny_bind (wpAny_callSpecial?_slot (name := Str.ofString "__getitem__") ht.typeIs slot_tuple_getitem (wpAny_call_entry slot_tuple_getitem ht.typeIs entry_tuple_getitem ?_ (args_tuple_getitem _ _)))
  show wpAny _ _ (Builtin.Tuple.tupleItemsOf (.ref t) >>= _) _ _ s
  refine wpAny_bind (tupleItemsOf_ ht (wpAny_bind (wpAny_typeOf hT ?_)))
  rw [if_pos (by decide)]
  refine wpAny_bind (applied_backT hs pl pu ps ?_)
  have no : ¬ ((((items.size : Int) - 1) == 0 && (-1 : Int) == 1 && items.size - (k + 1) == items.size) = true) := by
    rw [show ((-1 : Int) == 1) = false by decide, Bool.and_false, Bool.false_and]
    exact Bool.false_ne_true
  show wpAny _ _ (if (((items.size : Int) - 1) == 0 && (-1 : Int) == 1 && items.size - (k + 1) == items.size) = true then _ else _) _ _ s
  rw [if_neg no, backT_pick]
  first
    | exact wpAny_bind (m := Builtin.Tuple.tupleExact _) (wpAny_newObj_type (wpAny_pure ⟨_, rfl, wpAny_pure h⟩) hok)
    | exact wpAny_bind (m := Builtin.Tuple.tupleExact _) (wpAny_newObj_type (wpAny_bind (wpAny_pure (wpAny_pure ⟨_, rfl, wpAny_pure h⟩))) hok)
    | exact wpAny_bind (wpAny_bind (m := Builtin.Tuple.tupleExact _) (wpAny_newObj_type (wpAny_pure (wpAny_pure ⟨_, rfl, wpAny_pure h⟩)) hok))
    | exact wpAny_bind (wpAny_bind (m := Builtin.Tuple.tupleExact _) (wpAny_newObj_type (wpAny_pure ⟨_, rfl, wpAny_pure h⟩) hok))
end
theorem slice_backT {e eh : Expr} {te : TE} {to : TO} {k : Nat} {p1 p2 p3 pos : Pos} {R : V → Option Int → Hp → VK → Prop} (he : PE X e te) (hh : PO X (some eh) to)
    (tail : ∀ (pins : List (Addr × Obj)) (s : Shared) (σ : L2.St) (H : Hp) (x : V) (o : Option Int) (v vl vu vs : Value) (sl : Addr) (Q : VK), Inv X pins σ H s → RelV x v → s.heap.IsSliceOf sl vl vu vs → IsPart vl none → IsPart vu o → IsPart vs (some (-1)) → R x o H Q →
      wpAny (model X.prog X.w) X.A (subscriptTail e (.Slice none (some eh) (some (.UnaryOp .USub (.Constant (.int 1) k p1) p2)) p3) v (.ref sl)) (EP X pins σ Q) X.xe s) :
    PE X (.Subscript e (.Slice none (some eh) (some (.UnaryOp .USub (.Constant (.int 1) k p1) p2)) p3) pos) (fun σ H Q => te σ H fun x H1 => to σ H1 fun o H2 => R x o H2 Q) := by
  refine ⟨fun pins s σ H Q I h => Subscript_ (thn (he.run pins s σ H _ I h) fun v s1 ⟨x, H1, I1, r1, q1⟩ => ?_)⟩
  have hst : PO X (some (.UnaryOp .USub (.Constant (.int 1) k p1) p2)) (tPart (tUn (rU fun i => .int (-i)) (tC (.int 1)))) := po_some (pe_un un_neg pe_int)
  refine wpAny_Slice (thn (po_none.run pins s1 σ H1 (fun o H2 => o = none ∧ H2 = H1) I1 ⟨rfl, rfl⟩) fun vl s2 ⟨l, H2, I2, pl, el, e2⟩ => ?_)
  subst el e2
  refine thn (hh.run pins s2 σ H2 _ I2 q1) fun vu s3 ⟨u, H3, I3, pu, q3⟩ => ?_
  refine thn (hst.run pins s3 σ H3 (fun o H4 => o = some (-1) ∧ H4 = H3) I3 ⟨1, rfl, -1, rfl, rfl, rfl⟩) fun vs s4 ⟨o, H4, I4, ps, eo, e4⟩ => ?_
  subst eo e4
  exact tail pins { s4 with heap := s4.heap.push { cls := .type "slice", data := .fields #[vl, vu, vs] } } σ H4 x u v vl vu vs s4.heap.objs.size Q (I4.kept (t' := s4.toks) fun b ob q => Heap.get?_push_of_some _ q) r1 (Heap.IsSliceOf.new _ vl vu vs) pl pu ps q3
def rRevT (G : Gx) : V → Option Int → Hp → VK → Prop := fun x o H Q => ∃ A d k E, A.H = H ∧ HR G A ∧ Rep G A d x ∧ o = some k ∧ (revTE d (.int k) A.S).sat (Fin G A Q) E
theorem sn_revT {e eh : Expr} {te : TE} {to : TO} {k : Nat} {p1 p2 p3 pos : Pos} (hK : X.K = G.K) (he : PE X e te) (hh : PO X (some eh) to) :
    PE X (.Subscript e (.Slice none (some eh) (some (.UnaryOp .USub (.Constant (.int 1) k p1) p2)) p3) pos) (fun σ H Q => te σ H fun x H1 => to σ H1 fun o H2 => rRevT G x o H2 Q) := by
  refine slice_backT he hh fun pins s σ H x o v vl vu vs sl Q I rx hs pl pu ps ⟨A, d, j, E, hH, hr, rd, ho, h⟩ => ?_
  subst hH ho
  cases d with
  | tup ds =>
    obtain ⟨a, xs, rfl, h1, r1⟩ := rd
    cases rx
    rw [← hK] at h1
    obtain ⟨its, rv, ht, hz⟩ := I.tuple h1
    have hl := rv.length
    have h : (if 0 ≤ j then Res.ok (D.tup (ds.drop (j.toNat + 1)).reverse) A.S else Res.no).sat (Fin G A Q) E := h
    split at h
    · rename_i hj
      obtain ⟨m, rfl⟩ : ∃ m : Nat, j = (m : Int) := ⟨j.toNat, by omega⟩
      rw [Int.toNat_natCast] at h
      refine tail_any (ops := [.ref a, .ref sl]) ht.typeIs slot_tuple_getitem.lookup ?_ (by with_unfolding_all rfl)
      refine tuple_backT ht hs pl pu ps ?_ (by rw [List.size_toArray]; omega)
      have hp : A.H s.heap.objs.size = none := I.hok.fresh (Nat.le_refl _)
      refine ⟨.ref _, _, I.laid (t' := s.toks) (o := .tup (xs.drop (m + 1)).reverse) (fun b ob q => Heap.get?_push_of_some _ q) (Nat.le_refl _) ?_, rfl, Fin.tup (show Fin G A Q (.tup (ds.drop (m + 1)).reverse) A.S from h) hr (r1.drop (m + 1)).reverse hp⟩
      refine ⟨by rw [List.length_reverse, List.length_drop]; omega, (its.drop (m + 1)).reverse, (rv.drop (m + 1)).reverse, ⟨_, Heap.get?_push_size _ rfl, rfl, 0, ?_⟩⟩
      simp
    · exact (show False from h).elim
  | _ => exact (show False from h).elim

/-! ### isinstance -/
def tyStr : Ty → String
  | .int => "int" | .bool => "bool" | .str => "str" | .tuple => "tuple" | .list => "list" | .dict => "dict"
theorem kit_none (t : Ty) : kitB "NoneType" (tyStr t) = some false := by cases t <;> decide +kernel
theorem kit_tys (u t : Ty) : kitB (tyStr u) (tyStr t) = some (decide (u = t) || (decide (u = .bool) && decide (t = .int))) := by cases u <;> cases t <;> decide +kernel
theorem tyX_of {d : D} {x : V} {u : Ty} (hr : HR G A) (rd : Rep G A d x) (h : tyOf A.S d = some u) : TyX G.K A.H x (.type (tyStr u)) := by
  cases d with
  | int i => cases h; cases (show x = V.int i from rd); exact .base (.int i)
  | bl i => cases h; cases (show x = V.bl i from rd); exact .base (.bl i)
  | str i => cases h; cases (show x = V.str i from rd); exact .base (.str i)
  | tup ds =>
    cases h
    obtain ⟨a, xs, rfl, h1, r1⟩ := rd
    rcases h1 with (h1 | ⟨o, h1⟩) | ⟨o, its, n, k1, k2, k3, k4, k5⟩
    · exact .base (.tup h1)
    · exact .fTuple h1
    · exact .kTuple k1 k2
  | ref n =>
    obtain ⟨_, rfl⟩ := rd
    unfold tyOf at h
    dsimp only at h
    split at h
    · rename_i q
      cases h
      obtain ⟨xs, h1, _⟩ : ∃ xs, A.H (A.μ n) = some (.lst xs) ∧ RepL G A _ xs := hr.cell n _ q
      exact .base (.lst h1)
    · rename_i q
      cases h
      exact (hr.cell n _ q).elim fun _ h => .base (.dK h)
    · cases h
  | non => cases h
  | glb _ => cases h
theorem sn_isi {t : Ty} (hK : X.K = G.K) : CallR X (.builtin "isinstance") (fun xs H Q => ∃ x, xs = [x, .ty (tyStr t)] ∧ rDs G (fnE (.isi t)) [x] H Q) := by
  refine CallR.of call_isi fun xs H Q ⟨x, e, A, ds, E, hH, hr, r, h⟩ => ?_
  subst hH e
  obtain ⟨d, ds', rfl, e2, e3⟩ : ∃ d ds', ds = d :: ds' ∧ Rep G A d x ∧ ds' = [] := by
    cases ds with
    | nil => cases RepL.nil_iff r
    | cons d r2 =>
      obtain ⟨v, vs, e, h1, h2⟩ := RepL.uncons r
      cases e
      refine ⟨d, r2, rfl, h1, ?_⟩
      have := h2.length
      exact List.eq_nil_of_length_eq_zero this.symm
  subst e3
  have h : (ofOpt A.S ((isiE A.S d t).map D.bl)).sat (Fin G A Q) E := h
  cases q : isiE A.S d t with
  | none => rw [q] at h; exact (show False from h).elim
  | some b =>
    rw [q] at h
    have hQ : Q (.bl b) A.H := Fin.at (show Fin G A Q (.bl b) A.S from h) .refl hr rfl
    unfold isiE at q
    split at q
    · cases q
      cases (show x = V.non from e2)
      exact ⟨_, _, .type "NoneType", .type (tyStr t), false, rfl, .ty _, .base .non, kit_ty (kit_none t), hQ⟩
    · split at q
      · rename_i u hu
        cases q
        exact ⟨_, _, .type (tyStr u), .type (tyStr t), _, rfl, .ty _, by rw [hK]; exact tyX_of hr e2 hu, kit_ty (kit_tys u t), hQ⟩
      · cases q

/-! ### repr -/
mutual
theorem depth_dp {H : Hp} {K : PySem.W.Frag} : ∀ (e : PyData) (v : V), Dp K H v e → e.hasDict = false
  | .none, _, _ => by simp only [PyData.hasDict]
  | .bool _, _, _ => by simp only [PyData.hasDict]
  | .int _, _, _ => by simp only [PyData.hasDict]
  | .str _, _, _ => by simp only [PyData.hasDict]
  | .list es, v, h => by cases h with | lst _ h2 => simp only [PyData.hasDict]; exact depths_dp es _ h2
  | .tuple es, v, h => by cases h with | tup _ h2 => simp only [PyData.hasDict]; exact depths_dp es _ h2
  | .dict _, _, h => by cases h
theorem depths_dp {H : Hp} {K : PySem.W.Frag} : ∀ (es : List PyData) (vs : List V), DpAll K H vs es → PyData.hasDictAll es = false
  | [], _, _ => by simp only [PyData.hasDictAll]
  | e :: es, _, h => by
    cases h with
    | cons h1 h2 => simp only [PyData.hasDictAll, depth_dp e _ h1, depths_dp es _ h2, Bool.or_self]
end
theorem mapO_depth {f : D → Option PyData} {n : Nat} (hf : ∀ d e, f d = some e → e.depth ≤ n) : ∀ (ds : List D) (es : List PyData), mapO f ds = some es → PyData.depthAll es ≤ n
  | [], es, h => by cases h; simp [PyData.depthAll]
  | d :: ds, es, h => by
    unfold mapO at h
    split at h
    · rename_i a b q1 q2
      cases h
      have h1 := hf d a q1
      have h2 := mapO_depth hf ds b q2
      simp only [PyData.depthAll]
      omega
    · cases h
theorem leaf_depth {d : D} {e : PyData} (h : leafD d = some e) : e.depth = 0 := by
  cases d <;> cases h <;> simp [PyData.depth]
theorem toD_depth {S : Sto} : ∀ (n : Nat) (d : D) (e : PyData), toD S n d = some e → e.depth ≤ n
  | 0, d, e, h => by rw [leaf_depth h]; exact Nat.le_refl _
  | n + 1, d, e, h => by
    have lf : leafD d = some e → e.depth ≤ n + 1 := fun h => by rw [leaf_depth h]; omega
    cases d with
    | tup ds =>
      have h : (mapO (toD S n) ds).map PyData.tuple = some e := h
      obtain ⟨es, q, rfl⟩ := Option.map_eq_some_iff.mp h
      have := mapO_depth (fun d e => toD_depth n d e) ds es q
      simp only [PyData.depth]
      omega
    | ref m =>
      have h : (match seqAt S m with
        | some xs => (mapO (toD S n) xs).map PyData.list
        | none => none) = some e := h
      cases q : seqAt S m with
      | none => rw [q] at h; cases h
      | some ds =>
        rw [q] at h
        obtain ⟨es, q2, rfl⟩ := Option.map_eq_some_iff.mp h
        have := mapO_depth (fun d e => toD_depth n d e) ds es q2
        simp only [PyData.depth]
        omega
    | non => exact lf h
    | bl _ => exact lf h
    | int _ => exact lf h
    | str _ => exact lf h
    | glb _ => exact lf h
theorem sn_repr (hK : X.K = G.K) (hg : X.A.guards = some []) (hu : X.A.units + 64 < cLine) : CallR X (.builtin "repr") (rDs G (fnE .repr)) := by
  intro pins s σ H xs us Q I rv hw
  obtain ⟨A, d, v, E, rfl, hr, rfl, rd, h⟩ := rDs1 hw fun ds S hne => by
    cases ds with
    | nil => rfl
    | cons d r => cases r with
      | nil => exact absurd rfl (hne d)
      | cons _ _ => cases d <;> rfl
  obtain ⟨u, rfl, ru⟩ := vals1 rv
  have h : (match toD A.S deepN d with
    | some e => if e.showable && decide (e.shown.length ≤ lineN) then Res.ok (D.str e.shown) A.S else .no
    | none => .no).sat (Fin G A Q) E := by
    cases d <;> exact h
  cases q : toD A.S deepN d with
  | none => rw [q] at h; exact (show False from h).elim
  | some e =>
    rw [q] at h
    dsimp only at h
    split at h
    · rename_i hc
      simp only [Bool.and_eq_true, decide_eq_true_eq] at hc
      obtain ⟨c1, c2⟩ := hc
      rw [lineN_eq] at c2
      have hQ : Q (.str e.shown) A.H := Fin.at (show Fin G A Q (.str e.shown) A.S from h) .refl hr rfl
      have dp := dp_of hr _ d v e q rd
      rw [← hK] at dp
      have fin : ∀ h' (tk : Nat), (∀ b o, s.heap.get? b = some o → h'.get? b = some o) → ∀ u, EP X pins σ Q (.str e.shown u) { s with heap := h', toks := tk } := fun h' tk hk u => ⟨.str _, A.H, I.kept hk, ⟨u, rfl⟩, hQ⟩
      have hd := toD_depth _ _ _ q
      have hd2 : deepN = 20 := rfl
      cases v with
      | ref a =>
        obtain rfl : u = Value.ref a := ru
        obtain ⟨as, rr⟩ := Dp.reads I e _ _ dp (show RelV (.ref a) (Value.ref a) from rfl)
        exact repr_of_reads' rr c1 (PyData.noDict_hsm (depth_dp e _ dp)) hg (by omega) (fun _ _ z => z) (fun h' u tk hk => fin h' tk hk u) c2
      | non => cases dp; obtain rfl : u = Value.none := ru; exact PySem.P.repr_of_none (fin s.heap _ (fun _ _ z => z) _)
      | bl b => cases dp; obtain rfl : u = Value.bool b := ru; exact PySem.P.repr_of_bool (fin s.heap _ (fun _ _ z => z) _)
      | int i => cases dp; obtain ⟨t, rfl⟩ := ru; exact PySem.P.repr_of_int (by simpa [PyData.showable] using c1) (fin s.heap _ (fun _ _ z => z) _)
      | str x => cases dp; obtain ⟨t, rfl⟩ := ru; exact PySem.P.repr_of_str (fin s.heap _ (fun _ _ z => z) _) c2
      | _ => cases dp
    · exact (show False from h).elim

/-! ### a list's item stored -/
def rSetD (G : Gx) : TSet := fun o i v H Q => ∃ A n k j d ds, A.H = H ∧ HR G A ∧ n < A.S.length ∧ o = .ref (A.μ n) ∧ i = .int k ∧ Rep G A d v ∧ lstAt A.S n = some ds ∧ ixN ds.length k = some j ∧
  ∀ H', HR G ⟨A.μ, A.S.set n (.lst (ds.set j d)), H'⟩ → Grow G A ⟨A.μ, A.S.set n (.lst (ds.set j d)), H'⟩ → Q H'
theorem sn_set : PSet X (rSetD G) := by
  intro pins s σ H o i v ov iv u Q I ro ri rv ⟨A, n, k, j, d, ds, hH, hr, hn, eo, ei, rd, hl, hj, q⟩
  subst hH
  obtain ⟨hS, xs, h1, r1⟩ := hr.lstAt hl
  obtain ⟨g1, g2⟩ := hr.putL hS (r1.set j rd)
  exact set_list pins s σ _ o i v ov iv u Q I ro ri rv ⟨_, xs, k, j, eo, ei, h1, by rw [r1.length]; exact hj, q _ g1 g2⟩
end Mini
/-! Mini: math.lcm. -/
namespace Mini
open PySem PySem.Spec PyProof.Rows L2
theorem run_lcm4 (a : Int) (t : Tok) (b : Int) (u : Tok) (c : Int) (v : Tok) (e : Int) (x : Tok) (hc0 : ¬(max 1 a.natAbs).log2 / 30 + 1 > 450) (hc1 : ¬(max a.natAbs b.natAbs).log2 / 30 + 1 > 450)
    (hc2 : ¬(max (a.natAbs.lcm b.natAbs) c.natAbs).log2 / 30 + 1 > 450) (hc3 : ¬(max ((a.natAbs.lcm b.natAbs).lcm c.natAbs) e.natAbs).log2 / 30 + 1 > 450)
    (hsz : ((((((Nat.lcm 1 a.natAbs).lcm b.natAbs).lcm c.natAbs).lcm e.natAbs : Nat) : Int)).natAbs.log2 < bitsLine := by size_fits) :
    Gives (Builtin.«math.lcm» ⟨[.int a t, .int b u, .int c v, .int e x], []⟩) (.int ((((((Nat.lcm 1 a.natAbs).lcm b.natAbs).lcm c.natAbs).lcm e.natAbs : Nat) : Int))) :=
  .of_wp fun M A E s Q h => by obtain ⟨hp, g, d, tk, os⟩ := s; wp_walk; (try (refine wpAny_ite_false (decide_eq_false (Nat.not_le.mpr hsz)) ?_; wp_walk)); exact ⟨_, rfl, h⟩

theorem lcm_le {a b : Nat} : a.lcm b ≤ a * b := by
  unfold Nat.lcm
  exact Nat.div_le_self _ _
theorem lcm_bd {a b m n : Nat} (ha : a < 2 ^ m) (hb : b < 2 ^ n) : a.lcm b < 2 ^ (m + n) := by
  refine Nat.lt_of_le_of_lt lcm_le ?_
  rw [Nat.pow_add]
  exact Nat.mul_lt_mul'' ha hb
theorem log_bd {n k : Nat} (h : n < 2 ^ (k + 1)) : n.log2 ≤ k := by
  by_cases h0 : n = 0
  · subst h0
    rw [Nat.log2_zero]
    exact Nat.zero_le _
  · exact Nat.le_of_lt_succ ((Nat.log2_lt h0).mpr h)
theorem max_bd {a b k : Nat} (ha : a < 2 ^ k) (hb : b < 2 ^ k) : max a b < 2 ^ k := by omega
theorem one_bd {k : Nat} (h : 1 ≤ k) : 1 < 2 ^ k := Nat.one_lt_two_pow (by omega)
theorem inv_ok {n : Nat} (h : n < 2 ^ 13000) : ¬ n.log2 / 30 + 1 > 450 := by
  have := log_bd (k := 12999) h
  omega
variable {X : Cx} {G : Gx}
def rLcm : List V → Hp → VK → Prop := fun vs H Q => (∃ a b : Int, vs = [.int a, .int b] ∧ a.natAbs < 2 ^ 13000 ∧ b.natAbs < 2 ^ 13000 ∧ Q (.int ((Nat.lcm a.natAbs b.natAbs : Nat) : Int)) H) ∨
  ∃ a b c e : Int, vs = [.int a, .int b, .int c, .int e] ∧ a.natAbs < 2 ^ 13000 ∧ b.natAbs < 2 ^ 13000 ∧ c.natAbs < 2 ^ 13000 ∧ e.natAbs < 2 ^ 13000 ∧ Nat.lcm a.natAbs b.natAbs < 2 ^ 13000 ∧ (Nat.lcm a.natAbs b.natAbs).lcm c.natAbs < 2 ^ 13000 ∧
    Q (.int ((((Nat.lcm a.natAbs b.natAbs).lcm c.natAbs).lcm e.natAbs : Nat) : Int)) H
theorem size_ok {n : Nat} {k : Nat} (h : n < 2 ^ k) (hk : k ≤ 100000) : (((n : Nat) : Int)).natAbs.log2 < bitsLine := by
  rw [Int.natAbs_natCast]
  have : n.log2 ≤ k := log_bd (Nat.lt_of_lt_of_le h (Nat.pow_le_pow_right (by decide) (by omega)))
  refine Nat.lt_of_le_of_lt (Nat.le_trans this hk) ?_
  show 100000 < 2 ^ 27
  decide
theorem args_lcm4 (a b c e : Value) : argsOk "math.lcm" ⟨[a, b, c, e], []⟩ := by unfold argsOk; kernel_rfl
theorem cr_lcm : CallR X (.builtin "math.lcm") rLcm := by
  intro pins s σ H vs us Q I r h
  rcases h with ⟨a, b, rfl, ha, hb, q⟩ | ⟨a, b, c, e, rfl, ha, hb, hc, he, h1, h2, q⟩
  · obtain ⟨t, u, rfl⟩ := Vals.int2 r
    have g := PySem.W.mg_run_lcm a t b u (inv_ok (max_bd (one_bd (by decide)) ha)) (inv_ok (max_bd ha hb)) (by
      rw [show Nat.lcm 1 a.natAbs = a.natAbs from by simp [Nat.lcm]]
      exact size_ok (lcm_bd ha hb) (by decide))
    rw [show Nat.lcm 1 a.natAbs = a.natAbs from by simp [Nat.lcm]] at g
    exact call_function_meets PySem.W.MGF.kind_lcm PySem.W.MGF.plain_lcm PySem.W.MGF.entry_lcm (PySem.W.MGF.args_lcm _ _) g.meets ⟨.int _, H, I.tok _, ⟨_, rfl⟩, q⟩
  · obtain ⟨t, u, v, x, rfl⟩ : ∃ t u v x, us = [.int a t, .int b u, .int c v, .int e x] := by
      match us, r with
      | _, .cons r1 (.cons r2 (.cons r3 (.cons r4 .nil))) =>
        obtain ⟨t, rfl⟩ := r1
        obtain ⟨u, rfl⟩ := r2
        obtain ⟨v, rfl⟩ := r3
        obtain ⟨x, rfl⟩ := r4
        exact ⟨t, u, v, x, rfl⟩
    have g := run_lcm4 a t b u c v e x (inv_ok (max_bd (one_bd (by decide)) ha)) (inv_ok (max_bd ha hb)) (inv_ok (max_bd h1 hc)) (inv_ok (max_bd h2 he)) (by
      rw [show Nat.lcm 1 a.natAbs = a.natAbs from by simp [Nat.lcm]]
      exact size_ok (lcm_bd h2 he) (by decide))
    rw [show Nat.lcm 1 a.natAbs = a.natAbs from by simp [Nat.lcm]] at g
    exact call_function_meets PySem.W.MGF.kind_lcm PySem.W.MGF.plain_lcm PySem.W.MGF.entry_lcm (args_lcm4 _ _ _ _) g.meets ⟨.int _, H, I.tok _, ⟨_, rfl⟩, q⟩
theorem sn_lcm : CallR X (.builtin "math.lcm") (rDs G (fnE .lcm)) := by
  refine CallR.of cr_lcm fun xs H Q hw => ?_
  obtain ⟨A, ds, E, rfl, hr, r, h⟩ := hw
  by_cases h2 : ∃ i j, ds = [.int i, .int j]
  · obtain ⟨i, j, rfl⟩ := h2
    obtain ⟨v, w, rfl, r1, r2⟩ := repL2 r
    cases (show v = V.int i from r1)
    cases (show w = V.int j from r2)
    have h : (if lcmOk i.natAbs && lcmOk j.natAbs then Res.ok (D.int ((Nat.lcm i.natAbs j.natAbs : Nat) : Int)) A.S else .no).sat (Fin G A Q) E := h
    split at h
    · rename_i hc
      simp only [Bool.and_eq_true, lcmOk, decide_eq_true_eq] at hc
      exact .inl ⟨i, j, rfl, hc.1, hc.2, Fin.at (show Fin G A Q _ A.S from h) .refl hr rfl⟩
    · exact (show False from h).elim
  · by_cases h4 : ∃ i j k l, ds = [.int i, .int j, .int k, .int l]
    · obtain ⟨i, j, k, l, rfl⟩ := h4
      have h : (if lcmOk i.natAbs && lcmOk j.natAbs && lcmOk k.natAbs && lcmOk l.natAbs && lcmOk (i.natAbs.lcm j.natAbs) && lcmOk ((i.natAbs.lcm j.natAbs).lcm k.natAbs) then Res.ok (D.int ((((Nat.lcm i.natAbs j.natAbs).lcm k.natAbs).lcm l.natAbs : Nat) : Int)) A.S else .no).sat (Fin G A Q) E := h
      split at h
      · rename_i hc
        simp only [Bool.and_eq_true, lcmOk, decide_eq_true_eq] at hc
        obtain ⟨⟨⟨⟨⟨c1, c2⟩, c3⟩, c4⟩, c5⟩, c6⟩ := hc
        obtain ⟨v1, r', rfl, r1, r⟩ := RepL.uncons r
        obtain ⟨v2, r', rfl, r2, r⟩ := RepL.uncons r
        obtain ⟨v3, v4, rfl, r3, r4⟩ := repL2 r
        cases (show v1 = V.int i from r1)
        cases (show v2 = V.int j from r2)
        cases (show v3 = V.int k from r3)
        cases (show v4 = V.int l from r4)
        exact .inr ⟨i, j, k, l, rfl, c1, c2, c3, c4, c5, c6, Fin.at (show Fin G A Q _ A.S from h) .refl hr rfl⟩
      · exact (show False from h).elim
    · have no : fnE .lcm ds A.S = .no := by
        match ds with
        | [] => rfl
        | [_] => rename_i d; cases d <;> rfl
        | [.int i, .int j] => exact absurd ⟨i, j, rfl⟩ h2
        | [.int i, .int j, .int k, .int l] => exact absurd ⟨i, j, k, l, rfl⟩ h4
        | .non :: _ :: _ | .bl _ :: _ :: _ | .str _ :: _ :: _ | .tup _ :: _ :: _ | .glb _ :: _ :: _ | .ref _ :: _ :: _ => rfl
        | .int _ :: .non :: _ | .int _ :: .bl _ :: _ | .int _ :: .str _ :: _ | .int _ :: .tup _ :: _ | .int _ :: .glb _ :: _ | .int _ :: .ref _ :: _ => rfl
        | [.int _, .int _, d] => cases d <;> rfl
        | .int _ :: .int _ :: .non :: _ :: _ | .int _ :: .int _ :: .bl _ :: _ :: _ | .int _ :: .int _ :: .str _ :: _ :: _ | .int _ :: .int _ :: .tup _ :: _ :: _ | .int _ :: .int _ :: .glb _ :: _ :: _ | .int _ :: .int _ :: .ref _ :: _ :: _ => rfl
        | .int _ :: .int _ :: .int _ :: .non :: _ | .int _ :: .int _ :: .int _ :: .bl _ :: _ | .int _ :: .int _ :: .int _ :: .str _ :: _ | .int _ :: .int _ :: .int _ :: .tup _ :: _ | .int _ :: .int _ :: .int _ :: .glb _ :: _ | .int _ :: .int _ :: .int _ :: .ref _ :: _ => rfl
        | .int _ :: .int _ :: .int _ :: .int _ :: _ :: _ => rfl
      rw [no] at h
      exact (show False from h).elim
end Mini
set_option maxHeartbeats 2000000
/-! Mini: what a def promises where no repr is under way (guards = []), its calls, its body. -/
namespace Mini
open PySem PySem.Spec PyProof.Rows L2

structure FnG (P : Program) (w : World) (K : PySem.W.Frag) (mg : Str → Option Value) (base : Heap) (k : Nat) (f : Addr) (fd : FuncData) (ps : List Str) (sp : Sp) : Prop where
  len : ∀ vs H Q E, sp vs H Q E → vs.length = ps.length
  run : ∀ (A : Around) (out : List Env) (s : Shared) (H : Hp) (args : Args) (us : List Value) (vs : List V) (Q : VK) (E : XK), Room k A → A.guards = some [] → Env0 P w K mg base A out s H → BindsTo s fd args (ps.zip us) →
    Vals vs us → sp vs H Q E → codeAny (model P w) A (.call (.ref f) args) (CR (L2.CX P w) out P w H s Q E) s
theorem FnG.mono {P : Program} {w : World} {K : PySem.W.Frag} {mg : Str → Option Value} {base : Heap} {j k : Nat} {f : Addr} {fd : FuncData} {ps : List Str} {sp : Sp} (F : FnG P w K mg base j f fd ps sp) (h : j ≤ k) : FnG P w K mg base k f fd ps sp :=
  ⟨F.len, fun A out s H args us vs Q E hr => F.run A out s H args us vs Q E (hr.mono h)⟩
theorem guards_make {A : Around} {C : Addr} {us : List Value} {kw : List (Str × Value)} (h : A.guards = some []) : (A.under (.builtin "type.__call__" ⟨.ref C :: us, kw⟩)).guards = some [] := by
  show pushGuards (Code.guards (.builtin "type.__call__" ⟨.ref C :: us, kw⟩)) A.guards = some []
  rw [h]
  have : Code.isGuard (.builtin "type.__call__" ⟨.ref C :: us, kw⟩) = false := by
    show guardIds.contains "type.__call__" = false
    decide +kernel
  unfold Code.guards
  rw [this]
  rfl
section
variable {X : Cx} {W : WX} {k : Nat} {f C : Addr} {fd : FuncData} {ps : List Str} {sp : Sp} {pins : List (Addr × Obj)} {σ : L2.St} {H : Hp} {s : Shared} {Q : VK}
/-- how a call's result meets the body's wishes -/
theorem land {us : List Value} {kw : List (Str × Value)} (tk : Takes X W) (I : Inv X pins σ H s) {g : Value}
    (h : codeAny (model X.prog X.w) X.A (.call g ⟨us, kw⟩) (CR (L2.CX X.prog X.w) X.stack X.prog X.w H s Q fun c d H' => W c d σ H') s) : wpAny (model X.prog X.w) X.A (call g us kw) (EP X pins σ Q) X.xe s := by
  refine wpAny_call (codeAny_mono h fun r s' hq => ?_)
  match r, hq with
  | .error e, hq => exact tk e s' (XE.of_call I (fun _ _ _ z => z) hq)
  | .ok (.ret u), hq => exact I.after hq
  | .ok .next, hq => exact hq.elim
  | .ok .brk, hq => exact hq.elim
  | .ok .cont, hq => exact hq.elim
theorem run_g {us : List Value} {vs : List V} (F : FnG X.prog X.w X.K X.mg X.base k f fd ps sp) (hr : Room k X.A) (hg : X.A.guards = some []) (hb : Binds X.K fd ps []) (tk : Takes X W)
    (I : Inv X pins σ H s) (r : Vals vs us) (h : sp vs H Q fun c d H' => W c d σ H') : wpAny (model X.prog X.w) X.A (call (.ref f) us) (EP X pins σ Q) X.xe s := by
  have hl : us.length = ps.length := r.length.symm.trans (F.len _ _ _ _ h)
  have b := hb s us I.kIn (by rw [List.append_nil]; exact hl)
  rw [List.append_nil] at b
  exact land tk I (F.run X.A X.stack s H ⟨us, []⟩ us vs Q _ hr hg I.env0 b r h)
theorem run_gk {us ws zs : List Value} {names : List Str} {vs : List V} (F : FnG X.prog X.w X.K X.mg X.base k f fd ps sp) (hr : Room k X.A) (hg : X.A.guards = some []) (hb : BindsTo s fd ⟨us, names.zip ws⟩ (ps.zip zs)) (tk : Takes X W)
    (I : Inv X pins σ H s) (r : Vals vs zs) (h : sp vs H Q fun c d H' => W c d σ H') : wpAny (model X.prog X.w) X.A (call (.ref f) us (names.zip ws)) (EP X pins σ Q) X.xe s :=
  land tk I (F.run X.A X.stack s H ⟨us, names.zip ws⟩ zs vs Q _ hr hg I.env0 hb r h)
theorem make_g {us : List Value} {vs : List V} (M : Mk X.K C f) (F : FnG X.prog X.w X.K X.mg X.base k f fd ps sp) (hr : Room (k + 1) X.A) (hg : X.A.guards = some []) (hb : Binds X.K fd ps []) (tk : Takes X W) (I : Inv X pins σ H s) (r : Vals vs us)
    (h : ∀ x dx, H x = none → H dx = none → dx ≠ x → sp (.ref x :: vs) (upd (upd H dx (.own x)) x (.ins C dx [])) (fun v H2 => v = .non ∧ Q (.ref x) H2) fun c d H' => W c d σ H') :
    wpAny (model X.prog X.w) X.A (call (.ref C) us) (EP X pins σ Q) X.xe s := by
  have q := h (s.heap.objs.size + 1) s.heap.objs.size (I.hok.fresh (Nat.le_succ _)) (I.hok.fresh (Nat.le_refl _)) (Nat.ne_of_lt (Nat.lt_succ_self _))
  have J := Inv.made (C := C) I
  have r2 : Vals (V.ref (s.heap.objs.size + 1) :: vs) (Value.ref (s.heap.objs.size + 1) :: us) := .cons rfl r
  have hl : (Value.ref (s.heap.objs.size + 1) :: us).length = ps.length := r2.length.symm.trans (F.len _ _ _ _ q)
  have b := hb _ (Value.ref (s.heap.objs.size + 1) :: us) J.kIn (by rw [List.append_nil]; exact hl)
  rw [List.append_nil] at b
  refine wpAny_call (make_map (f := f) I.kIn M.makes M.init (beq_iff_eq.mp M.fn) (codeAny_mono (F.run _ X.stack _ _ ⟨Value.ref (s.heap.objs.size + 1) :: us, []⟩ _ _ _ _ (hr.make C us []) (guards_make hg) (J.env0.make C us []) b r2 q) fun r s' hq => ?_))
  match r, hq with
  | .error e, hq => exact tk e s' (XE.of_call J (fun _ _ _ z => z) hq)
  | .ok (.ret u), hq =>
    obtain ⟨v, H', J3, rv, ev, q3⟩ := J.after hq
    subst ev
    exact ⟨rv, ⟨V.ref (s.heap.objs.size + 1), H', J3, rfl, q3⟩⟩
  | .ok .next, hq => exact hq.elim
  | .ok .brk, hq => exact hq.elim
  | .ok .cont, hq => exact hq.elim
end

/-! ### no stars -/
def noStar : Expr → Bool
  | .Starred _ _ => false
  | _ => true
theorem star_cons {e : Expr} {es : List Expr} {env : Env} (h : noStar e = true) : starEach (e :: es) env = (false, eval e env) :: starEach es env := by
  cases e <;> first | rfl | cases h
theorem star_all : ∀ {es : List Expr} {env : Env} {pos : Pos}, es.all noStar = true → (backTo pos (starEach es env)).any (·.1) = false
  | [], _, _, _ => rfl
  | e :: es, env, pos, h => by
    have h2 : noStar e = true ∧ es.all noStar = true := by simpa using h
    rw [star_cons h2.1]
    show (false || (backTo pos (starEach es env)).any (·.1)) = false
    rw [star_all h2.2]
    rfl
section
variable {X : Cx} {W : WX} {k : Nat} {f C : Addr} {fd : FuncData} {ps : List Str} {sp : Sp} {x m : Str} {p pos apos : Pos} {o : Expr} {es : List Expr} {ta : TE} {t : TA}
/-- f(e, ..) -/
theorem pe_g (F : FnG X.prog X.w X.K X.mg X.base k f fd ps sp) (hr : Room k X.A) (hg : X.A.guards = some []) (gl : Gl X x) (hm : X.mg x = some (.ref f)) (hk : PySem.W.keepIn X.K (.ref f) = true) (hb : Binds X.K fd ps []) (tk : Takes X W)
    (ha : PA X es t) (hz : es = [] → ∀ σ H Q, t σ H Q → Q [] H) (hn : es.all noStar = true) (hdb : (x == ("__debug__" : Str)) = false) : PE X (.Call (.Name x p) es [] pos) (fun σ H Q => t σ H fun vs H1 => sp vs H1 Q fun c d H' => W c d σ H') := by
  refine ⟨fun pins s σ H Q I h => wpAny_Call_Name_kw (ld_glob I gl hm ?_ hdb)⟩
  have A := ha.run pos pins s σ H _ I h
  cases es with
  | nil => exact PySem.W.callWith_K0 I.kIn hk (run_g (us := []) F hr hg hb tk I .nil (hz rfl σ H _ h))
  | cons e es =>
    have h2 : noStar e = true ∧ es.all noStar = true := by simpa using hn
    refine PySem.W.callWith_K (h₀ := X.base) I.ok.mod.kin hk (thn A fun us s1 ⟨vs, H1, I1, r, q⟩ => ⟨I1.kIn, ?_⟩) (star_cons h2.1) (star_all h2.2)
    exact run_g F hr hg hb tk I1 r q
/-- C(e, ..) -/
theorem pe_mkg (M : Mk X.K C f) (F : FnG X.prog X.w X.K X.mg X.base k f fd ps sp) (hr : Room (k + 1) X.A) (hg : X.A.guards = some []) (gl : Gl X x) (hm : X.mg x = some (.ref C)) (hb : Binds X.K fd ps []) (tk : Takes X W)
    (ha : PA X es t) (hz : es = [] → ∀ σ H Q, t σ H Q → Q [] H) (hn : es.all noStar = true) (hdb : (x == ("__debug__" : Str)) = false) :
    PE X (.Call (.Name x p) es [] pos) (fun σ H Q => t σ H fun vs H1 => ∀ y dy, H1 y = none → H1 dy = none → dy ≠ y → sp (.ref y :: vs) (upd (upd H1 dy (.own y)) y (.ins C dy [])) (fun v H2 => v = .non ∧ Q (.ref y) H2) fun c d H' => W c d σ H') := by
  refine ⟨fun pins s σ H Q I h => wpAny_Call_Name_kw (ld_glob I gl hm ?_ hdb)⟩
  have A := ha.run pos pins s σ H _ I h
  cases es with
  | nil => exact PySem.W.callWith_K0 I.kIn M.kp (make_g (us := []) M F hr hg hb tk I .nil (hz rfl σ H _ h))
  | cons e es =>
    have h2 : noStar e = true ∧ es.all noStar = true := by simpa using hn
    refine PySem.W.callWith_K (h₀ := X.base) I.ok.mod.kin M.kp (thn A fun us s1 ⟨vs, H1, I1, r, q⟩ => ⟨I1.kIn, ?_⟩) (star_cons h2.1) (star_all h2.2)
    exact make_g M F hr hg hb tk I1 r q
/-- f(e, .., k = v, ..) -/
theorem pe_gk {kws : List Keyword} {tk' : TA} {names : List Str} {g : List Value → List Value → List Value} {gV : List V → List V → List V} (F : FnG X.prog X.w X.K X.mg X.base k f fd ps sp) (hr : Room k X.A) (hg : X.A.guards = some []) (gl : Gl X x)
    (hm : X.mg x = some (.ref f)) (hk : PySem.W.keepIn X.K (.ref f) = true) (hb : ∀ (s : Shared) (us ws : List Value), us.length = es.length → ws.length = names.length → BindsTo s fd ⟨us, names.zip ws⟩ (ps.zip (g us ws)))
    (hv : ∀ vs us zs ws, Vals vs us → Vals zs ws → Vals (gV vs zs) (g us ws)) (tk : Takes X W) (ha : PA X es t) (hz : es = [] → ∀ σ H Q, t σ H Q → Q [] H) (hkw : PK X kws tk') (hn : es.all noStar = true) (hks : ∀ pos, (backToKw pos (keywordEach kws X.env)).all (·.1.isSome) = true ∧ (backToKw pos (keywordEach kws X.env)).filterMap (·.1) = names)
    (hl1 : ∀ pins s σ H Q, Inv X pins σ H s → t σ H Q → t σ H fun vs H1 => vs.length = es.length ∧ Q vs H1) (hl2 : ∀ pins s σ H Q, Inv X pins σ H s → tk' σ H Q → tk' σ H fun vs H1 => vs.length = names.length ∧ Q vs H1) (hdb : (x == ("__debug__" : Str)) = false) :
    PE X (.Call (.Name x p) es kws pos) (fun σ H Q => t σ H fun vs H1 => tk' σ H1 fun zs H2 => sp (gV vs zs) H2 Q fun c d H' => W c d σ H') := by
  refine ⟨fun pins s σ H Q I h => wpAny_Call_Name_kw (ld_glob I gl hm ?_ hdb)⟩
  have A := ha.run pos pins s σ H _ I (hl1 pins s σ H _ I h)
  have hsome := (hks pos).1
  have hnone : (backToKw pos (keywordEach kws X.env)).any (·.1.isNone) = false := by
    rw [List.any_eq_false]
    intro y hy
    have := List.all_eq_true.mp hsome y hy
    cases z : y.1 <;> simp_all
  have fin : ∀ us s1, AP X pins σ (fun vs H1 => vs.length = es.length ∧ tk' σ H1 fun zs H2 => sp (gV vs zs) H2 Q fun c d H' => W c d σ H') us s1 → wpAny (model X.prog X.w) X.A (evalAll ((backToKw pos (keywordEach kws X.env)).map (·.2)))
      (fun ks s2 => X.K.In s2.heap ∧ wpAny (model X.prog X.w) X.A (call (.ref f) us (((backToKw pos (keywordEach kws X.env)).filterMap (·.1)).zip ks)) (EP X pins σ Q) X.xe s2) X.xe s1 := fun us s1 ⟨vs, H1, I1, r, l1, q⟩ => by
    refine thn (hkw.run pos pins s1 σ H1 _ I1 (hl2 pins s1 σ H1 _ I1 q)) fun ws s2 ⟨zs, H2, I2, rz, l2, q2⟩ => ⟨I2.kIn, ?_⟩
    rw [(hks pos).2]
    exact run_gk F hr hg (hb s2 us ws (r.length.symm.trans l1) (rz.length.symm.trans l2)) tk I2 (hv _ _ _ _ r rz) q2
  cases es with
  | nil =>
    refine PySem.W.callWith_KW0 (h₀ := X.base) I.ok.mod.kin hk hsome ?_ (by rw [hnone]; rfl)
    exact fin [] s ⟨[], H, I, .nil, hz rfl σ H _ (hl1 pins s σ H _ I h)⟩
  | cons e es =>
    have h2 : noStar e = true ∧ es.all noStar = true := by simpa using hn
    refine PySem.W.callWith_KW (h₀ := X.base) I.ok.mod.kin hk hsome (thn A fun us s1 h1 => fin us s1 h1) (by rw [star_all hn, hnone]; rfl) (star_cons h2.1)
end
end Mini
set_option maxHeartbeats 2000000
/-! Mini: expressions, one construct after another. -/
namespace Mini
open PySem PySem.Spec PyProof.Rows L2

variable {G : Gx} {A A0 : Ab} {X : Cx} {W : WX} {p : Pg} {σ : L2.St} {ρ : Loc}
theorem PE.imp {e : Expr} {t t' : TE} (h : PE X e t) (k : ∀ σ H Q, t' σ H Q → t σ H Q) : PE X e t' := ⟨fun pins s σ H Q I q => h.run pins s σ H Q I (k _ _ _ q)⟩
theorem PT.imp {e : Expr} {t t' : TT} (h : PT X e t) (k : ∀ σ H Q, t' σ H Q → t σ H Q) : PT X e t' := ⟨fun pins s σ H Q I q => h.run pins s σ H Q I (k _ _ _ q)⟩
theorem PW.imp {e : Expr} {t t' : TT} (h : PW X e t) (k : ∀ σ H Q, t' σ H Q → t σ H Q) : PW X e t' := ⟨fun wh pins s σ H Q I q => h.run wh pins s σ H Q I (k _ _ _ q)⟩
theorem PA.imp {es : List Expr} {t t' : TA} (h : PA X es t) (k : ∀ σ H Q, t' σ H Q → t σ H Q) : PA X es t' := ⟨fun pos pins s σ H Q I q => h.run pos pins s σ H Q I (k _ _ _ q)⟩

abbrev xw (W : WX) (σ : L2.St) : XK := fun c d H => W c d σ H
def FinL (G : Gx) (A : Ab) (Q : List V → Hp → Prop) (ds : List D) (S : Sto) : Prop := ∀ μ vs H, Grow G A ⟨μ, S, H⟩ → HR G ⟨μ, S, H⟩ → RepL G ⟨μ, S, H⟩ ds vs → Q vs H
def FinB (G : Gx) (A : Ab) (Q : Bool → Hp → Prop) (b : Bool) (S : Sto) : Prop := ∀ μ H, Grow G A ⟨μ, S, H⟩ → HR G ⟨μ, S, H⟩ → Q b H
def tRs (G : Gx) (W : WX) (r : Loc → Sto → Res (List D)) : TA := fun σ H Q => ∃ A ρ, A.H = H ∧ HR G A ∧ ER G A ρ σ ∧ (r ρ A.S).sat (FinL G A Q) (XW G A (xw W σ))
def tRb (G : Gx) (W : WX) (r : Loc → Sto → Res Bool) : TT := fun σ H Q => ∃ A ρ, A.H = H ∧ HR G A ∧ ER G A ρ σ ∧ (r ρ A.S).sat (FinB G A Q) (XW G A (xw W σ))
abbrev tA (G : Gx) (p : Pg) (W : WX) (xs : List Ex) : TA := tRs G W (evEs p xs)
abbrev tT (G : Gx) (p : Pg) (W : WX) (x : Ex) : TT := tRb G W (evB p x)

/-- a run, then what comes of it -/
theorem tR_bind {β : Type} {r : Loc → Sto → Res D} {k : D → Sto → Res β} {P : β → Sto → Prop} {w : XK} {Q : VK} (g0 : Grow G A0 A) (hr : HR G A) (er : ER G A ρ σ) (hw : w = xw W σ) (h : ((r ρ A.S).bind k).sat P (XW G A0 w))
    (hk : ∀ B d v, Grow G A B → HR G B → Rep G B d v → (k d B.S).sat P (XW G A0 w) → Q v B.H) : tR G W r σ A.H Q := by
  subst hw
  exact ⟨A, ρ, rfl, hr, er, Res.sat_mono (Res.sat_bind h) (fun d S q μ v H g h1 r1 => hk ⟨μ, S, H⟩ d v g h1 r1 q) fun _ _ _ z => z.grow g0⟩
theorem tRs_bind {β : Type} {r : Loc → Sto → Res (List D)} {k : List D → Sto → Res β} {P : β → Sto → Prop} {w : XK} {Q : List V → Hp → Prop} (g0 : Grow G A0 A) (hr : HR G A) (er : ER G A ρ σ) (hw : w = xw W σ) (h : ((r ρ A.S).bind k).sat P (XW G A0 w))
    (hk : ∀ B ds vs, Grow G A B → HR G B → RepL G B ds vs → (k ds B.S).sat P (XW G A0 w) → Q vs B.H) : tRs G W r σ A.H Q := by
  subst hw
  exact ⟨A, ρ, rfl, hr, er, Res.sat_mono (Res.sat_bind h) (fun d S q μ v H g h1 r1 => hk ⟨μ, S, H⟩ d v g h1 r1 q) fun _ _ _ z => z.grow g0⟩
theorem tRb_bind {β : Type} {r : Loc → Sto → Res Bool} {k : Bool → Sto → Res β} {P : β → Sto → Prop} {w : XK} {Q : Bool → Hp → Prop} (g0 : Grow G A0 A) (hr : HR G A) (er : ER G A ρ σ) (hw : w = xw W σ) (h : ((r ρ A.S).bind k).sat P (XW G A0 w))
    (hk : ∀ B b, Grow G A B → HR G B → (k b B.S).sat P (XW G A0 w) → Q b B.H) : tRb G W r σ A.H Q := by
  subst hw
  exact ⟨A, ρ, rfl, hr, er, Res.sat_mono (Res.sat_bind h) (fun b S q μ H g h1 => hk ⟨μ, S, H⟩ b g h1 q) fun _ _ _ z => z.grow g0⟩
/-- the last run: its end is the end -/
theorem tR_last {r : Loc → Sto → Res D} {Q : VK} (g0 : Grow G A0 A) (hr : HR G A) (er : ER G A ρ σ) (h : (r ρ A.S).sat (Fin G A0 Q) (XW G A0 (xw W σ))) : tR G W r σ A.H Q :=
  ⟨A, ρ, rfl, hr, er, Res.sat_mono h (fun d S q => q.grow g0) fun _ _ _ z => z.grow g0⟩
theorem FinL.grow {Q : List V → Hp → Prop} {d : List D} {S : Sto} (f : FinL G A0 Q d S) (g : Grow G A0 A) : FinL G A Q d S := fun μ v H g' h r => f μ v H (g.trans g') h r
theorem FinB.grow {Q : Bool → Hp → Prop} {d : Bool} {S : Sto} (f : FinB G A0 Q d S) (g : Grow G A0 A) : FinB G A Q d S := fun μ H g' h => f μ H (g.trans g') h
theorem tRs_last {r : Loc → Sto → Res (List D)} {Q : List V → Hp → Prop} (g0 : Grow G A0 A) (hr : HR G A) (er : ER G A ρ σ) (h : (r ρ A.S).sat (FinL G A0 Q) (XW G A0 (xw W σ))) : tRs G W r σ A.H Q :=
  ⟨A, ρ, rfl, hr, er, Res.sat_mono h (fun d S q => q.grow g0) fun _ _ _ z => z.grow g0⟩
theorem tRb_last {r : Loc → Sto → Res Bool} {Q : Bool → Hp → Prop} (g0 : Grow G A0 A) (hr : HR G A) (er : ER G A ρ σ) (h : (r ρ A.S).sat (FinB G A0 Q) (XW G A0 (xw W σ))) : tRb G W r σ A.H Q :=
  ⟨A, ρ, rfl, hr, er, Res.sat_mono h (fun d S q => q.grow g0) fun _ _ _ z => z.grow g0⟩
theorem sat_opt {α β : Type} {S : Sto} {o : Option α} {k : α → Sto → Res β} {P : β → Sto → Prop} {E : Nat → List (Str × D) → Sto → Prop} (h : ((ofOpt S o).bind k).sat P E) : ∃ a, o = some a ∧ (k a S).sat P E := by
  cases o with
  | none => exact (show False from h).elim
  | some a => exact ⟨a, rfl, h⟩
theorem sat_ofOpt {α β : Type} {S : Sto} {o : Option α} {f : α → β} {P : β → Sto → Prop} {E : Nat → List (Str × D) → Sto → Prop} (h : (ofOpt S (o.map f)).sat P E) : ∃ a, o = some a ∧ P (f a) S := by
  cases o with
  | none => exact (show False from h).elim
  | some a => exact ⟨a, rfl, h⟩
theorem sat_ofOpt' {α : Type} {S : Sto} {o : Option α} {P : α → Sto → Prop} {E : Nat → List (Str × D) → Sto → Prop} (h : (ofOpt S o).sat P E) : ∃ a, o = some a ∧ P a S := by
  cases o with
  | none => exact (show False from h).elim
  | some a => exact ⟨a, rfl, h⟩

/-! ### leaves -/
theorem se_var {i : Nat} {x : Str} {pos : Pos} (hN : X.N[i]? = some x) (hv : Vis X.env.scope x) (hd : (x == ("__debug__" : Str)) = false) (hc : (x == ("__classdict__" : Str)) = false) : PE X (.Name x pos) (tE G p W (.var i)) := by
  refine PE.imp (pe_var hN hv hd hc) fun σ H Q ⟨A, ρ, hH, hr, er, h⟩ => ?_
  subst hH
  have h : (match ρ[i]? with
    | some (some d) => Res.ok d A.S
    | _ => .no).sat (Fin G A Q) (XW G A (xw W σ)) := h
  cases q : ρ[i]? with
  | none => rw [q] at h; exact (show False from h).elim
  | some o =>
    cases o with
    | none => rw [q] at h; exact (show False from h).elim
    | some d =>
      rw [q] at h
      obtain ⟨v, h1, h2⟩ := er.get i d q
      exact ⟨v, h1, Fin.at (show Fin G A Q d A.S from h) .refl hr h2⟩
theorem se_con {e : Expr} {d : D} {v : V} (h : PE X e (tC v)) (r : ∀ A, Rep G A d v) : PE X e (tE G p W (.con d)) := by
  refine PE.imp h fun σ H Q ⟨A, ρ, hH, hr, er, h⟩ => ?_
  subst hH
  exact Fin.at (show Fin G A Q d A.S from h) .refl hr (r A)

/-! ### arguments, displays -/
theorem sa_nil : PA X [] (tA G p W []) := by
  refine PA.imp pa_nil fun σ H Q ⟨A, ρ, hH, hr, er, h⟩ => ?_
  subst hH
  exact (show FinL G A Q [] A.S from h) A.μ [] A.H .refl hr .nil
theorem sa_cons {e : Expr} {es : List Expr} {x : Ex} {xs : List Ex} (hs : noStar e = true) (h1 : PE X e (tE G p W x)) (h2 : PA X es (tA G p W xs)) : PA X (e :: es) (tA G p W (x :: xs)) := by
  refine PA.imp (pa_cons h1 h2 (star_cons hs)) fun σ H Q ⟨A, ρ, hH, hr, er, h⟩ => ?_
  subst hH
  refine tR_bind .refl hr er rfl (show ((evE p x ρ A.S).bind fun d S1 => (evEs p xs ρ S1).bind fun ds S2 => Res.ok (d :: ds) S2).sat _ _ from h) fun B d v g hB rd q => ?_
  refine tRs_bind g hB (er.mono g) rfl q fun C ds vs g2 hC rs q2 => ?_
  exact (show FinL G A Q (d :: ds) C.S from q2) C.μ _ C.H (g.trans g2) hC (.cons (rd.mono g2) rs)
theorem sa_zero {xs : List Ex} {σ : L2.St} {H : Hp} {Q : List V → Hp → Prop} (hx : xs = []) (h : tA G p W xs σ H Q) : Q [] H := by
  obtain ⟨A, ρ, hH, hr, er, h⟩ := h
  subst hx hH
  exact (show FinL G A Q [] A.S from h) A.μ [] A.H .refl hr .nil
theorem evEs_len {p : Pg} : ∀ {xs : List Ex} {ρ : Loc} {S : Sto} {P : List D → Sto → Prop} {E : Nat → List (Str × D) → Sto → Prop}, (evEs p xs ρ S).sat P E → (evEs p xs ρ S).sat (fun ds S' => ds.length = xs.length ∧ P ds S') E
  | [], _, _, _, _, h => ⟨rfl, h⟩
  | x :: xs, ρ, S, P, E, h => by
    have h : ((evE p x ρ S).bind fun d S1 => (evEs p xs ρ S1).bind fun ds S2 => Res.ok (d :: ds) S2).sat P E := h
    show ((evE p x ρ S).bind fun d S1 => (evEs p xs ρ S1).bind fun ds S2 => Res.ok (d :: ds) S2).sat _ E
    cases q : evE p x ρ S with
    | no => rw [q] at h; exact (show False from h).elim
    | ex c f S1 => rw [q] at h; exact h
    | ok d S1 =>
      rw [q] at h
      have h : ((evEs p xs ρ S1).bind fun ds S2 => Res.ok (d :: ds) S2).sat P E := h
      show ((evEs p xs ρ S1).bind fun ds S2 => Res.ok (d :: ds) S2).sat _ E
      have h2 := evEs_len (p := p) (Res.sat_bind h)
      cases q2 : evEs p xs ρ S1 with
      | no => rw [q2] at h2; exact (show False from h2).elim
      | ex c f S2 => rw [q2] at h2; exact h2
      | ok ds S2 =>
        rw [q2] at h2
        obtain ⟨l, h3⟩ := h2
        exact ⟨by simp [show ds.length = xs.length from l], h3⟩
theorem sa_len {xs : List Ex} {σ : L2.St} {H : Hp} {Q : List V → Hp → Prop} (h : tA G p W xs σ H Q) : tA G p W xs σ H fun vs H1 => vs.length = xs.length ∧ Q vs H1 := by
  obtain ⟨A, ρ, hH, hr, er, h⟩ := h
  exact ⟨A, ρ, hH, hr, er, Res.sat_mono (evEs_len h) (fun ds S ⟨l, q⟩ μ vs H g h1 r => ⟨r.length.trans l, q μ vs H g h1 r⟩) fun _ _ _ z => z⟩
theorem se_tup {es : List Expr} {k : Nat} {pos : Pos} {xs : List Ex} (hl : xs.length ≤ 1000) (h : PA X es (tA G p W xs)) : PE X (.Tuple es k pos) (tE G p W (.tup xs)) := by
  refine PE.imp (pe_tup h) fun σ H Q ⟨A, ρ, hH, hr, er, h⟩ => ?_
  subst hH
  refine Exists.elim (sa_len (Q := fun vs H1 => ∀ q, H1 q = none → Q (.ref q) (upd H1 q (.tup vs))) (tRs_bind .refl hr er rfl (show ((evEs p xs ρ A.S).bind fun ds S1 => Res.ok (.tup ds) S1).sat (Fin G A Q) _ from h) fun B ds vs g hB rs q => ?_)) fun B hB => ?_
  · exact fun y hy => Fin.tup (Fin.grow (show Fin G A Q (.tup ds) B.S from q) g) hB rs hy
  · obtain ⟨ρ, h⟩ := hB
    obtain ⟨hH, hr, er, h⟩ := h
    exact ⟨B, ρ, hH, hr, er, Res.sat_mono h (fun ds S q μ vs H g h1 r => ⟨by have := (q μ vs H g h1 r).1; rw [sizeLine_eq]; omega, (q μ vs H g h1 r).2⟩) fun _ _ _ z => z⟩
theorem se_lst {es : List Expr} {pos : Pos} {xs : List Ex} (hl : xs.length ≤ 1000) (h : PA X es (tA G p W xs)) : PE X (.List es pos) (tE G p W (.lst xs)) := by
  refine PE.imp (pe_lst h) fun σ H Q ⟨A, ρ, hH, hr, er, h⟩ => ?_
  subst hH
  refine Exists.elim (sa_len (Q := fun vs H1 => ∀ q, H1 q = none → Q (.ref q) (upd H1 q (.lst vs))) (tRs_bind .refl hr er rfl (show ((evEs p xs ρ A.S).bind fun ds S1 => new (.lst ds) S1).sat (Fin G A Q) _ from h) fun B ds vs g hB rs q => ?_)) fun B hB => ?_
  · exact fun y hy => Fin.lst (Fin.grow (show Fin G A Q (.ref B.S.length) (B.S ++ [.lst ds]) from q) g) hB rs hy
  · obtain ⟨ρ, h⟩ := hB
    obtain ⟨hH, hr, er, h⟩ := h
    exact ⟨B, ρ, hH, hr, er, Res.sat_mono h (fun ds S q μ vs H g h1 r => ⟨by have := (q μ vs H g h1 r).1; rw [sizeLine_eq]; omega, (q μ vs H g h1 r).2⟩) fun _ _ _ z => z⟩

/-! ### operators -/
theorem se_bin {a b : Expr} {x y : Ex} {o : Bop} {op : Operator} {pos : Pos} (ho : OpR X (binaryOp op) (rD2 G (binE o))) (ha : PE X a (tE G p W x)) (hb : PE X b (tE G p W y)) : PE X (.BinOp a op b pos) (tE G p W (.bin o x y)) := by
  refine PE.imp (pe_op ho ha hb) fun σ H Q ⟨A, ρ, hH, hr, er, h⟩ => ?_
  subst hH
  refine tR_bind .refl hr er rfl (show ((evE p x ρ A.S).bind fun d S1 => (evE p y ρ S1).bind fun e S2 => binE o d e S2).sat _ _ from h) fun B d v g hB rd q => ?_
  refine tR_bind g hB (er.mono g) rfl q fun C e u g2 hC re q2 => ?_
  exact ⟨C, d, e, _, rfl, hC, rd.mono g2, re, Res.sat_mono q2 (fun _ _ f => f.grow (g.trans g2)) fun _ _ _ z => z⟩
theorem se_neg {a : Expr} {x : Ex} {pos : Pos} (ha : PE X a (tE G p W x)) : PE X (.UnaryOp .USub a pos) (tE G p W (.neg x)) := by
  refine PE.imp (pe_un un_neg ha) fun σ H Q ⟨A, ρ, hH, hr, er, h⟩ => ?_
  subst hH
  refine tR_bind .refl hr er rfl (show ((evE p x ρ A.S).bind negE).sat _ _ from h) fun B d v g hB rd q => ?_
  cases d with
  | int i => exact ⟨i, rd, Fin.at (Fin.grow (show Fin G A Q (.int (-i)) B.S from q) g) .refl hB rfl⟩
  | _ => exact (show False from q).elim
theorem se_not {a : Expr} {x : Ex} {pos : Pos} (hK : X.K = G.K) (ha : PE X a (tE G p W x)) : PE X (.UnaryOp .Not a pos) (tE G p W (.not x)) := by
  refine PE.imp (pe_notT ha) fun σ H Q ⟨A, ρ, hH, hr, er, h⟩ => ?_
  subst hH
  refine tR_bind .refl hr er rfl (show ((evE p x ρ A.S).bind fun d S1 => ofOpt S1 ((truth S1 d).map fun b => D.bl (!b))).sat _ _ from h) fun B d v g hB rd q => ?_
  obtain ⟨b, hb, f⟩ := sat_ofOpt q
  exact ⟨b, by rw [hK]; exact truV_of hB rd hb, Fin.at (Fin.grow f g) .refl hB rfl⟩
theorem se_and {a b : Expr} {rest : List Expr} {x y : Ex} {pos : Pos} (hK : X.K = G.K) (ha : PE X a (tE G p W x)) (hb : PE X (.BoolOp .And (b :: rest) pos) (tE G p W y)) : PE X (.BoolOp .And (a :: b :: rest) pos) (tE G p W (.and x y)) := by
  refine PE.imp (pe_andT ha hb) fun σ H Q ⟨A, ρ, hH, hr, er, h⟩ => ?_
  subst hH
  refine tR_bind .refl hr er rfl (show ((evE p x ρ A.S).bind fun d S1 => (ofOpt S1 (truth S1 d)).bind fun t S1 => if t then evE p y ρ S1 else Res.ok d S1).sat _ _ from h) fun B d v g hB rd q => ?_
  obtain ⟨t, ht, q⟩ := sat_opt q
  refine ⟨t, by rw [hK]; exact truV_of hB rd ht, ?_⟩
  cases t with
  | true => exact tR_last g hB (er.mono g) q
  | false => exact Fin.at (Fin.grow (show Fin G A Q d B.S from q) g) .refl hB rd
theorem se_or {a b : Expr} {rest : List Expr} {x y : Ex} {pos : Pos} (hK : X.K = G.K) (ha : PE X a (tE G p W x)) (hb : PE X (.BoolOp .Or (b :: rest) pos) (tE G p W y)) : PE X (.BoolOp .Or (a :: b :: rest) pos) (tE G p W (.or x y)) := by
  refine PE.imp (pe_orT ha hb) fun σ H Q ⟨A, ρ, hH, hr, er, h⟩ => ?_
  subst hH
  refine tR_bind .refl hr er rfl (show ((evE p x ρ A.S).bind fun d S1 => (ofOpt S1 (truth S1 d)).bind fun t S1 => if t then Res.ok d S1 else evE p y ρ S1).sat _ _ from h) fun B d v g hB rd q => ?_
  obtain ⟨t, ht, q⟩ := sat_opt q
  refine ⟨t, by rw [hK]; exact truV_of hB rd ht, ?_⟩
  cases t with
  | false => exact tR_last g hB (er.mono g) q
  | true => exact Fin.at (Fin.grow (show Fin G A Q d B.S from q) g) .refl hB rd
theorem se_cmp {a b : Expr} {x y : Ex} {o : Cop} {op : CmpOp} {pos : Pos} (ho : OpR X (compareOp op) (rC2 G (cmpE o))) (hm : behindInMarks op b = false) (ha : PE X a (tE G p W x)) (hb : PE X b (tE G p W y)) : PE X (.Compare a [op] [b] pos) (tE G p W (.cmp o x y)) := by
  refine PE.imp (pe_cmpR ho ha hb hm) fun σ H Q ⟨A, ρ, hH, hr, er, h⟩ => ?_
  subst hH
  refine tR_bind .refl hr er rfl (show ((evE p x ρ A.S).bind fun d S1 => (evE p y ρ S1).bind fun e S2 => ofOpt S2 ((cmpE o d e S2).map D.bl)).sat _ _ from h) fun B d v g hB rd q => ?_
  refine tR_bind g hB (er.mono g) rfl q fun C e u g2 hC re q2 => ?_
  obtain ⟨b, hb, f⟩ := sat_ofOpt q2
  exact ⟨C, d, e, rfl, hC, rd.mono g2, re, b, hb, Fin.at (Fin.grow f (g.trans g2)) .refl hC rfl⟩
theorem se_chain {a b c : Expr} {x y z : Ex} {o o' : Cop} {op op' : CmpOp} {pos : Pos} (ho : OpR X (compareOp op) (rC2 G (cmpE o))) (ho' : OpR X (compareOp op') (rC2 G (cmpE o'))) (hm : ∀ b, behindInMarks op b = false) (hm' : ∀ b, behindInMarks op' b = false)
    (ha : PE X a (tE G p W x)) (hb : PE X b (tE G p W y)) (hc : PE X c (tE G p W z)) : PE X (.Compare a [op, op'] [b, c] pos) (tE G p W (.chain o o' x y z)) := by
  refine PE.imp (pe_chain ho ho' ha hb hc (show behindInMarks op' c = false from hm' c)) fun σ H Q ⟨A, ρ, hH, hr, er, h⟩ => ?_
  subst hH
  refine tR_bind .refl hr er rfl (show ((evE p x ρ A.S).bind fun d S1 => (evE p y ρ S1).bind fun e S2 => (ofOpt S2 (cmpE o d e S2)).bind fun t S2 =>
      if t then (evE p z ρ S2).bind fun f S3 => ofOpt S3 ((cmpE o' e f S3).map D.bl) else Res.ok (.bl false) S2).sat _ _ from h) fun B d v g hB rd q => ?_
  refine tR_bind g hB (er.mono g) rfl q fun C e u g2 hC re q2 => ?_
  obtain ⟨t, ht, q2⟩ := sat_opt q2
  refine ⟨C, d, e, rfl, hC, rd.mono g2, re, t, ht, t, rfl, ?_⟩
  cases t with
  | false => exact Fin.at (Fin.grow (show Fin G A Q (.bl false) C.S from q2) (g.trans g2)) .refl hC rfl
  | true =>
    refine tR_bind (g.trans g2) hC (er.mono (g.trans g2)) rfl q2 fun D' f w g3 hD rf q3 => ?_
    obtain ⟨b, hb, fin⟩ := sat_ofOpt q3
    exact ⟨D', e, f, rfl, hD, re.mono g3, rf, b, hb, Fin.at (Fin.grow fin ((g.trans g2).trans g3)) .refl hD rfl⟩
theorem se_ite {c a b : Expr} {z x y : Ex} {pos : Pos} (hc : PT X c (tT G p W z)) (ha : PE X a (tE G p W x)) (hb : PE X b (tE G p W y)) : PE X (.IfExp c a b pos) (tE G p W (.ite z x y)) := by
  refine PE.imp (pe_ifExp hc ha hb) fun σ H Q ⟨A, ρ, hH, hr, er, h⟩ => ?_
  subst hH
  have e : ∀ S, (evE p (.ite z x y) ρ S) = (evB p z ρ S).bind fun t S1 => if t then evE p x ρ S1 else evE p y ρ S1 := fun S => by
    show ((evE p z ρ S).bind fun d S1 => (ofOpt S1 (truth S1 d)).bind fun t S1 => if t then evE p x ρ S1 else evE p y ρ S1) = ((evE p z ρ S).bind fun d S1 => ofOpt S1 (truth S1 d)).bind _
    cases evE p z ρ S <;> rfl
  rw [e] at h
  refine tRb_bind .refl hr er rfl h fun B t g hB q => ?_
  cases t with
  | true => exact tR_last g hB (er.mono g) q
  | false => exact tR_last g hB (er.mono g) q

/-! ### tests -/
theorem st_plain {e : Expr} {x : Ex} (hK : X.K = G.K) (h : PE X e (tE G p W x)) (he : ∀ whole, isTrue e X.env whole = (do let v ← whole; standAt e.pos; holding [v] (truthy v))) : PT X e (tT G p W x) := by
  refine PT.imp (pt_truth h he) fun σ H Q ⟨A, ρ, hH, hr, er, h⟩ => ?_
  subst hH
  refine tR_bind .refl hr er rfl (show ((evE p x ρ A.S).bind fun d S1 => ofOpt S1 (truth S1 d)).sat _ _ from h) fun B d v g hB rd q => ?_
  obtain ⟨b, hb, f⟩ := sat_ofOpt' q
  exact ⟨b, by rw [hK]; exact truV_of hB rd hb, FinB.grow f g B.μ B.H .refl hB⟩
theorem evB_not {x : Ex} {S : Sto} : evB p (.not x) ρ S = (evB p x ρ S).bind fun b S1 => .ok (!b) S1 := by
  show ((evE p x ρ S).bind fun d S1 => ofOpt S1 ((truth S1 d).map fun b => D.bl (!b))).bind (fun d S1 => ofOpt S1 (truth S1 d)) = ((evE p x ρ S).bind fun d S1 => ofOpt S1 (truth S1 d)).bind _
  cases evE p x ρ S with
  | ok d S1 =>
    show (ofOpt S1 ((truth S1 d).map fun b => D.bl (!b))).bind _ = (ofOpt S1 (truth S1 d)).bind _
    cases truth S1 d <;> rfl
  | _ => rfl
theorem st_not {e : Expr} {x : Ex} {pos : Pos} (h : PT X e (tT G p W x)) : PT X (.UnaryOp .Not e pos) (tT G p W (.not x)) := by
  refine PT.imp (pt_not h) fun σ H Q ⟨A, ρ, hH, hr, er, h⟩ => ?_
  subst hH
  rw [evB_not] at h
  refine tRb_bind .refl hr er rfl h fun B b g hB q => ?_
  exact FinB.grow (show FinB G A Q (!b) B.S from q) g B.μ B.H .refl hB
theorem evB_and {x y : Ex} {S : Sto} : evB p (.and x y) ρ S = (evB p x ρ S).bind fun b S1 => if b then evB p y ρ S1 else .ok false S1 := by
  show ((evE p x ρ S).bind fun d S1 => (ofOpt S1 (truth S1 d)).bind fun t S1 => if t then evE p y ρ S1 else Res.ok d S1).bind (fun d S1 => ofOpt S1 (truth S1 d)) = ((evE p x ρ S).bind fun d S1 => ofOpt S1 (truth S1 d)).bind _
  cases evE p x ρ S with
  | ok d S1 =>
    show ((ofOpt S1 (truth S1 d)).bind fun t S1 => if t then evE p y ρ S1 else Res.ok d S1).bind (fun d S1 => ofOpt S1 (truth S1 d)) = (ofOpt S1 (truth S1 d)).bind _
    cases q : truth S1 d with
    | none => rfl
    | some t =>
      cases t with
      | true => rfl
      | false => show ofOpt S1 (truth S1 d) = _; rw [q]; rfl
  | _ => rfl
theorem evB_or {x y : Ex} {S : Sto} : evB p (.or x y) ρ S = (evB p x ρ S).bind fun b S1 => if b then .ok true S1 else evB p y ρ S1 := by
  show ((evE p x ρ S).bind fun d S1 => (ofOpt S1 (truth S1 d)).bind fun t S1 => if t then Res.ok d S1 else evE p y ρ S1).bind (fun d S1 => ofOpt S1 (truth S1 d)) = ((evE p x ρ S).bind fun d S1 => ofOpt S1 (truth S1 d)).bind _
  cases evE p x ρ S with
  | ok d S1 =>
    show ((ofOpt S1 (truth S1 d)).bind fun t S1 => if t then Res.ok d S1 else evE p y ρ S1).bind (fun d S1 => ofOpt S1 (truth S1 d)) = (ofOpt S1 (truth S1 d)).bind _
    cases q : truth S1 d with
    | none => rfl
    | some t =>
      cases t with
      | false => rfl
      | true => show ofOpt S1 (truth S1 d) = _; rw [q]; rfl
  | _ => rfl
theorem st_and {a b : Expr} {rest : List Expr} {x y : Ex} {pos : Pos} (ha : PT X a (tT G p W x)) (hb : PW X (.BoolOp .And (b :: rest) pos) (tT G p W y)) : PW X (.BoolOp .And (a :: b :: rest) pos) (tT G p W (.and x y)) := by
  refine PW.imp (pw_and ha hb) fun σ H Q ⟨A, ρ, hH, hr, er, h⟩ => ?_
  subst hH
  rw [evB_and] at h
  refine tRb_bind .refl hr er rfl h fun B b g hB q => ?_
  cases b with
  | true => exact tRb_last g hB (er.mono g) q
  | false => exact FinB.grow (show FinB G A Q false B.S from q) g B.μ B.H .refl hB
theorem st_or {a b : Expr} {rest : List Expr} {x y : Ex} {pos : Pos} (ha : PT X a (tT G p W x)) (hb : PW X (.BoolOp .Or (b :: rest) pos) (tT G p W y)) : PW X (.BoolOp .Or (a :: b :: rest) pos) (tT G p W (.or x y)) := by
  refine PW.imp (pw_or ha hb) fun σ H Q ⟨A, ρ, hH, hr, er, h⟩ => ?_
  subst hH
  rw [evB_or] at h
  refine tRb_bind .refl hr er rfl h fun B b g hB q => ?_
  cases b with
  | false => exact tRb_last g hB (er.mono g) q
  | true => exact FinB.grow (show FinB G A Q true B.S from q) g B.μ B.H .refl hB
theorem evB_bl {x : Ex} {S : Sto} {β : Type} {f : Sto → Option Bool} : ((evE p x ρ S).bind fun d S1 => ofOpt S1 (truth S1 d)) = evB p x ρ S := rfl
theorem st_cmp {a b : Expr} {x y : Ex} {o : Cop} {op : CmpOp} {pos : Pos} (ho : OpR X (compareOp op) (rC2 G (cmpE o))) (hm : behindInMarks op b = false) (ha : PE X a (tE G p W x)) (hb : PE X b (tE G p W y)) : PT X (.Compare a [op] [b] pos) (tT G p W (.cmp o x y)) := by
  refine PT.imp (pt_cmpR ho ha hb hm) fun σ H Q ⟨A, ρ, hH, hr, er, h⟩ => ?_
  subst hH
  have h := Res.sat_bind (show ((evE p (.cmp o x y) ρ A.S).bind fun d S1 => ofOpt S1 (truth S1 d)).sat _ _ from h)
  refine tR_bind .refl hr er rfl (show ((evE p x ρ A.S).bind fun d S1 => (evE p y ρ S1).bind fun e S2 => ofOpt S2 ((cmpE o d e S2).map D.bl)).sat _ _ from h) fun B d v g hB rd q => ?_
  refine tR_bind g hB (er.mono g) rfl q fun C e u g2 hC re q2 => ?_
  obtain ⟨b, hb, f⟩ := sat_ofOpt q2
  exact ⟨C, d, e, rfl, hC, rd.mono g2, re, b, hb, b, rfl, FinB.grow (show FinB G A Q b C.S from f) (g.trans g2) C.μ C.H .refl hC⟩
theorem st_chain {a b c : Expr} {x y z : Ex} {o o' : Cop} {op op' : CmpOp} {pos : Pos} (ho : OpR X (compareOp op) (rC2 G (cmpE o))) (ho' : OpR X (compareOp op') (rC2 G (cmpE o'))) (hm : ∀ b, behindInMarks op b = false) (hm' : ∀ b, behindInMarks op' b = false)
    (ha : PE X a (tE G p W x)) (hb : PE X b (tE G p W y)) (hc : PE X c (tE G p W z)) : PT X (.Compare a [op, op'] [b, c] pos) (tT G p W (.chain o o' x y z)) := by
  refine PT.imp (pt_chain ho ho' ha hb hc (show behindInMarks op' c = false from hm' c)) fun σ H Q ⟨A, ρ, hH, hr, er, h⟩ => ?_
  subst hH
  have h := Res.sat_bind (show ((evE p (.chain o o' x y z) ρ A.S).bind fun d S1 => ofOpt S1 (truth S1 d)).sat _ _ from h)
  refine tR_bind .refl hr er rfl (show ((evE p x ρ A.S).bind fun d S1 => (evE p y ρ S1).bind fun e S2 => (ofOpt S2 (cmpE o d e S2)).bind fun t S2 =>
      if t then (evE p z ρ S2).bind fun f S3 => ofOpt S3 ((cmpE o' e f S3).map D.bl) else Res.ok (.bl false) S2).sat _ _ from h) fun B d v g hB rd q => ?_
  refine tR_bind g hB (er.mono g) rfl q fun C e u g2 hC re q2 => ?_
  obtain ⟨t, ht, q2⟩ := sat_opt q2
  refine ⟨C, d, e, rfl, hC, rd.mono g2, re, t, ht, t, rfl, ?_⟩
  cases t with
  | false => exact ⟨false, rfl, FinB.grow (show FinB G A Q false C.S from q2) (g.trans g2) C.μ C.H .refl hC⟩
  | true =>
    refine tR_bind (g.trans g2) hC (er.mono (g.trans g2)) rfl q2 fun D' f w g3 hD rf q3 => ?_
    obtain ⟨b, hb, fin⟩ := sat_ofOpt q3
    exact ⟨D', e, f, rfl, hD, re.mono g3, rf, b, hb, b, rfl, FinB.grow (show FinB G A Q b D'.S from fin) ((g.trans g2).trans g3) D'.μ D'.H .refl hD⟩
end Mini
set_option maxHeartbeats 2000000
/-! Mini: calls, fields, subscripts. -/
namespace Mini
open PySem PySem.Spec PyProof.Rows L2

variable {G : Gx} {A A0 : Ab} {X : Cx} {W : WX} {p : Pg} {σ : L2.St} {ρ : Loc}
/-! ### built-in functions by name -/
theorem se_fn {x : Str} {id : String} {g : Fn} {es : List Expr} {xs : List Ex} {p1 pos : Pos} (hc : CallR X (.builtin id) (rDs G (fnE g))) (gl : Gl X x) (hm : X.mg x = none) (hv : bootBuiltins x = some (.builtin id)) (hn : x ≠ "__name__") (hd : (x == ("__debug__" : Str)) = false)
    (hs : es.all noStar = true) (hne : es ≠ []) (ha : PA X es (tA G p W xs)) : PE X (.Call (.Name x p1) es [] pos) (tE G p W (.fn g xs)) := by
  cases es with
  | nil => exact absurd rfl hne
  | cons e es =>
    have h2 : noStar e = true ∧ es.all noStar = true := by simpa using hs
    refine PE.imp (pe_callB hc gl hm hv ha hn hd (star_cons h2.1) (star_all h2.2)) fun σ H Q ⟨A, ρ, hH, hr, er, h⟩ => ?_
    subst hH
    refine tRs_bind .refl hr er rfl (show ((evEs p xs ρ A.S).bind fun ds S1 => fnE g ds S1).sat _ _ from h) fun B ds vs g hB rs q => ?_
    exact ⟨B, ds, _, rfl, hB, rs, Res.sat_mono q (fun _ _ f => f.grow g) fun _ _ _ z => z⟩
theorem se_fnT {x : Str} {T : String} {g : Fn} {es : List Expr} {xs : List Ex} {p1 pos : Pos} (hc : CallR X (.type T) (rDs G (fnE g))) (gl : Gl X x) (hm : X.mg x = none) (hv : bootBuiltins x = some (.type T)) (hn : x ≠ "__name__") (hd : (x == ("__debug__" : Str)) = false)
    (hs : es.all noStar = true) (hne : es ≠ []) (ha : PA X es (tA G p W xs)) : PE X (.Call (.Name x p1) es [] pos) (tE G p W (.fn g xs)) := by
  cases es with
  | nil => exact absurd rfl hne
  | cons e es =>
    have h2 : noStar e = true ∧ es.all noStar = true := by simpa using hs
    refine PE.imp (pe_callTy hc gl hm hv ha hn hd (star_cons h2.1) (star_all h2.2)) fun σ H Q ⟨A, ρ, hH, hr, er, h⟩ => ?_
    subst hH
    refine tRs_bind .refl hr er rfl (show ((evEs p xs ρ A.S).bind fun ds S1 => fnE g ds S1).sat _ _ from h) fun B ds vs g hB rs q => ?_
    exact ⟨B, ds, _, rfl, hB, rs, Res.sat_mono q (fun _ _ f => f.grow g) fun _ _ _ z => z⟩
theorem se_gcd {x : Str} {es : List Expr} {xs : List Ex} {p1 pos : Pos} (gl : Gl X x) (hm : X.mg x = some (.builtin "math.gcd")) (hd : (x == ("__debug__" : Str)) = false) (hs : es.all noStar = true) (hne : es ≠ []) (ha : PA X es (tA G p W xs)) :
    PE X (.Call (.Name x p1) es [] pos) (tE G p W (.fn .gcd xs)) := by
  cases es with
  | nil => exact absurd rfl hne
  | cons e es =>
    have h2 : noStar e = true ∧ es.all noStar = true := by simpa using hs
    refine PE.imp (pe_callBfun (sn_gcd (G := G)) gl hm ha hd (star_cons h2.1) (star_all h2.2)) fun σ H Q ⟨A, ρ, hH, hr, er, h⟩ => ?_
    subst hH
    refine tRs_bind .refl hr er rfl (show ((evEs p xs ρ A.S).bind fun ds S1 => fnE .gcd ds S1).sat _ _ from h) fun B ds vs g hB rs q => ?_
    exact ⟨B, ds, _, rfl, hB, rs, Res.sat_mono q (fun _ _ f => f.grow g) fun _ _ _ z => z⟩
theorem se_lcm {x : Str} {es : List Expr} {xs : List Ex} {p1 pos : Pos} (gl : Gl X x) (hm : X.mg x = some (.builtin "math.lcm")) (hd : (x == ("__debug__" : Str)) = false) (hs : es.all noStar = true) (hne : es ≠ []) (ha : PA X es (tA G p W xs)) :
    PE X (.Call (.Name x p1) es [] pos) (tE G p W (.fn .lcm xs)) := by
  cases es with
  | nil => exact absurd rfl hne
  | cons e es =>
    have h2 : noStar e = true ∧ es.all noStar = true := by simpa using hs
    refine PE.imp (pe_callBfun (sn_lcm (G := G)) gl hm ha hd (star_cons h2.1) (star_all h2.2)) fun σ H Q ⟨A, ρ, hH, hr, er, h⟩ => ?_
    subst hH
    refine tRs_bind .refl hr er rfl (show ((evEs p xs ρ A.S).bind fun ds S1 => fnE .lcm ds S1).sat _ _ from h) fun B ds vs g hB rs q => ?_
    exact ⟨B, ds, _, rfl, hB, rs, Res.sat_mono q (fun _ _ f => f.grow g) fun _ _ _ z => z⟩
theorem se_isi {e : Expr} {x : Ex} {t : Ty} {ty : Str} {p1 p2 pos : Pos} (hK : X.K = G.K) (gl : Gl X "isinstance") (hm : X.mg "isinstance" = none) (gt : Gl X ty) (mt : X.mg ty = none) (ht : bootBuiltins ty = some (.type (tyStr t))) (hn : ty ≠ "__name__") (hd : (ty == ("__debug__" : Str)) = false)
    (hs : noStar e = true) (ha : PE X e (tE G p W x)) : PE X (.Call (.Name "isinstance" p1) [e, .Name ty p2] [] pos) (tE G p W (.fn (.isi t) [x])) := by
  have pt : PE X (.Name ty p2) (tC (.ty (tyStr t))) := pe_bltn gt mt ht (show RelV (.ty (tyStr t)) (.type (tyStr t)) from rfl) hn hd
  refine PE.imp (pe_callB (sn_isi (t := t) hK) gl hm (by decide +kernel) (pa_cons ha (pa_cons pt pa_nil rfl) (star_cons hs)) (by decide) (by decide) (star_cons hs) rfl) fun σ H Q ⟨A, ρ, hH, hr, er, h⟩ => ?_
  subst hH
  have h : ((evE p x ρ A.S).bind fun d S1 => fnE (.isi t) [d] S1).sat (Fin G A Q) (XW G A (xw W σ)) := by
    have h : (((evE p x ρ A.S).bind fun d S1 => Res.ok [d] S1).bind fun ds S1 => fnE (.isi t) ds S1).sat (Fin G A Q) (XW G A (xw W σ)) := h
    cases q : evE p x ρ A.S with
    | no => rw [q] at h; exact h
    | ok d S1 => rw [q] at h; exact h
    | ex c f S1 => rw [q] at h; exact h
  refine tR_bind .refl hr er rfl h fun B d v g hB rd q => ?_
  exact ⟨v, rfl, B, [d], _, rfl, hB, .cons rd .nil, Res.sat_mono q (fun _ _ f => f.grow g) fun _ _ _ z => z⟩

/-! ### own defs -/
def spD (G : Gx) (r : List D → Sto → Res D) : Sp := fun vs H Q E => ∃ A ds, A.H = H ∧ HR G A ∧ RepL G A ds vs ∧ (r ds A.S).sat (Fin G A Q) (XW G A E)
theorem se_call {x : Str} {f : Addr} {fd : FuncData} {ps : List Str} {k i : Nat} {es : List Expr} {xs : List Ex} {p1 pos : Pos} (F : FnG X.prog X.w X.K X.mg X.base k f fd ps (spD G (p.call i))) (hr : Room k X.A) (hg : X.A.guards = some []) (gl : Gl X x) (hm : X.mg x = some (.ref f))
    (hk : PySem.W.keepIn X.K (.ref f) = true) (hb : Binds X.K fd ps []) (tk : Takes X W) (hd : (x == ("__debug__" : Str)) = false) (hs : es.all noStar = true) (hl : es = [] → xs = []) (ha : PA X es (tA G p W xs)) : PE X (.Call (.Name x p1) es [] pos) (tE G p W (.call i xs none)) := by
  refine PE.imp (pe_g F hr hg gl hm hk hb tk ha (fun e σ H Q h => sa_zero (hl e) h) hs hd) fun σ H Q ⟨A, ρ, hH, hR, er, h⟩ => ?_
  subst hH
  refine tRs_bind .refl hR er rfl (show ((evEs p xs ρ A.S).bind fun ds S1 => (ofOpt S1 (permD ds none)).bind fun ds S1 => p.call i ds S1).sat _ _ from h) fun B ds vs g hB rs q => ?_
  exact ⟨B, ds, rfl, hB, rs, Res.sat_mono q (fun _ _ f => f.grow g) fun _ _ _ z => z.grow g⟩
/-- the keywords' values -/
theorem sk_nil : PK X [] (tA G p W []) := by
  refine ⟨fun pos pins s σ H Q I ⟨A, ρ, hH, hr, er, h⟩ => pk_nil.run pos pins s σ H Q I ?_⟩
  subst hH
  exact (show FinL G A Q [] A.S from h) A.μ [] A.H .refl hr .nil
theorem sk_cons {e : Expr} {nm : Option Str} {kp : Pos} {kws : List Keyword} {x : Ex} {xs : List Ex} (h1 : PE X e (tE G p W x)) (h2 : PK X kws (tA G p W xs)) : PK X (⟨nm, e, kp⟩ :: kws) (tA G p W (x :: xs)) := by
  refine ⟨fun pos pins s σ H Q I ⟨A, ρ, hH, hr, er, h⟩ => (pk_cons h1 h2).run pos pins s σ H Q I ?_⟩
  subst hH
  refine tR_bind .refl hr er rfl (show ((evE p x ρ A.S).bind fun d S1 => (evEs p xs ρ S1).bind fun ds S2 => Res.ok (d :: ds) S2).sat _ _ from h) fun B d v g hB rd q => ?_
  refine tRs_bind g hB (er.mono g) rfl q fun C ds vs g2 hC rs q2 => ?_
  exact (show FinL G A Q (d :: ds) C.S from q2) C.μ _ C.H (g.trans g2) hC (.cons (rd.mono g2) rs)
def permV {α : Type} (d : α) (xs : List α) (q : List Nat) : List α := q.map fun i => xs.getD i d
theorem evEs_app : ∀ {xs ys : List Ex} {ρ : Loc} {S : Sto}, evEs p (xs ++ ys) ρ S = (evEs p xs ρ S).bind fun ds S1 => (evEs p ys ρ S1).bind fun es S2 => .ok (ds ++ es) S2
  | [], ys, ρ, S => by
    show evEs p ys ρ S = (evEs p ys ρ S).bind fun es S2 => .ok ([] ++ es) S2
    cases evEs p ys ρ S <;> rfl
  | x :: xs, ys, ρ, S => by
    show ((evE p x ρ S).bind fun d S1 => (evEs p (xs ++ ys) ρ S1).bind fun ds S2 => Res.ok (d :: ds) S2) = ((evE p x ρ S).bind fun d S1 => (evEs p xs ρ S1).bind fun ds S2 => Res.ok (d :: ds) S2).bind _
    cases evE p x ρ S with
    | ok d S1 =>
      show ((evEs p (xs ++ ys) ρ S1).bind fun ds S2 => Res.ok (d :: ds) S2) = ((evEs p xs ρ S1).bind fun ds S2 => Res.ok (d :: ds) S2).bind _
      rw [evEs_app]
      cases evEs p xs ρ S1 with
      | ok ds S2 =>
        show ((evEs p ys ρ S2).bind fun es S3 => Res.ok (ds ++ es) S3).bind _ = (evEs p ys ρ S2).bind _
        cases evEs p ys ρ S2 <;> rfl
      | _ => rfl
    | _ => rfl
theorem mapM_get {ds : List D} : ∀ {q : List Nat} {es : List D}, q.mapM (fun i => ds[i]?) = some es → ∀ {vs : List V}, RepL G A ds vs → RepL G A es (permV .non vs q)
  | [], es, h, vs, r => by
    rw [List.mapM_nil] at h
    cases h
    exact .nil
  | i :: q, es, h, vs, r => by
    rw [List.mapM_cons] at h
    obtain ⟨d, h1, h2⟩ := Option.bind_eq_some_iff.mp h
    obtain ⟨fs, h3, h4⟩ := Option.bind_eq_some_iff.mp h2
    cases h4
    obtain ⟨v, h5, h6⟩ := r.get h1
    refine .cons ?_ (mapM_get h3 r)
    show Rep G A d (vs.getD i .non)
    rw [List.getD_eq_getElem?_getD, h5]
    exact h6
theorem Vals.perm {vs : List V} {us : List Value} (r : Vals vs us) : ∀ q : List Nat, Vals (permV .non vs q) (permV .none us q)
  | [] => .nil
  | i :: q => by
    refine .cons ?_ (Vals.perm r q)
    show RelV (vs.getD i .non) (us.getD i .none)
    rw [List.getD_eq_getElem?_getD, List.getD_eq_getElem?_getD]
    cases h : vs[i]? with
    | none => rw [r.none_of h]; rfl
    | some v =>
      obtain ⟨u, h1, h2⟩ := r.get h
      rw [h1]
      exact h2
theorem se_callK {x : Str} {f : Addr} {fd : FuncData} {ps names : List Str} {q : List Nat} {k i : Nat} {es : List Expr} {kws : List Keyword} {xs ys : List Ex} {p1 pos : Pos} (F : FnG X.prog X.w X.K X.mg X.base k f fd ps (spD G (p.call i))) (hr : Room k X.A) (hg : X.A.guards = some []) (gl : Gl X x)
    (hm : X.mg x = some (.ref f)) (hk : PySem.W.keepIn X.K (.ref f) = true) (hb : ∀ (s : Shared) (us ws : List Value), us.length = es.length → ws.length = names.length → BindsTo s fd ⟨us, names.zip ws⟩ (ps.zip (permV .none (us ++ ws) q))) (tk : Takes X W)
    (hd : (x == ("__debug__" : Str)) = false) (hs : es.all noStar = true) (hl : es.length = xs.length) (hl2 : names.length = ys.length) (ha : PA X es (tA G p W xs)) (hkw : PK X kws (tA G p W ys))
    (hks : ∀ pos, (backToKw pos (keywordEach kws X.env)).all (·.1.isSome) = true ∧ (backToKw pos (keywordEach kws X.env)).filterMap (·.1) = names) : PE X (.Call (.Name x p1) es kws pos) (tE G p W (.call i (xs ++ ys) (some q))) := by
  refine PE.imp (pe_gk (g := fun us ws => permV .none (us ++ ws) q) (gV := fun vs zs => permV .non (vs ++ zs) q) F hr hg gl hm hk hb (fun vs us zs ws r1 r2 => Vals.perm (r1.append r2) q) tk ha
    (fun e σ H Q h => sa_zero (List.eq_nil_of_length_eq_zero (by rw [← hl, e]; rfl)) h) hkw hs hks (fun pins s σ H Q I h => by rw [hl]; exact sa_len h) (fun pins s σ H Q I h => by rw [hl2]; exact sa_len h) hd) fun σ H Q ⟨A, ρ, hH, hR, er, h⟩ => ?_
  subst hH
  have h : ((evEs p (xs ++ ys) ρ A.S).bind fun ds S1 => (ofOpt S1 (permD ds (some q))).bind fun ds S1 => p.call i ds S1).sat (Fin G A Q) (XW G A (xw W σ)) := h
  rw [evEs_app] at h
  have h : ((evEs p xs ρ A.S).bind fun ds S1 => (evEs p ys ρ S1).bind fun es S2 => (ofOpt S2 (permD (ds ++ es) (some q))).bind fun ds S1 => p.call i ds S1).sat (Fin G A Q) (XW G A (xw W σ)) := by
    cases q1 : evEs p xs ρ A.S with
    | ok ds S1 =>
      rw [q1] at h
      have h : (((evEs p ys ρ S1).bind fun es S2 => Res.ok (ds ++ es) S2).bind fun ds S1 => (ofOpt S1 (permD ds (some q))).bind fun ds S1 => p.call i ds S1).sat (Fin G A Q) (XW G A (xw W σ)) := h
      show ((evEs p ys ρ S1).bind fun es S2 => (ofOpt S2 (permD (ds ++ es) (some q))).bind fun ds S1 => p.call i ds S1).sat (Fin G A Q) (XW G A (xw W σ))
      cases q2 : evEs p ys ρ S1 with
      | ok es S2 => rw [q2] at h; exact h
      | ex c f S2 => rw [q2] at h; exact h
      | no => rw [q2] at h; exact h
    | ex c f S1 => rw [q1] at h; exact h
    | no => rw [q1] at h; exact h
  refine tRs_bind .refl hR er rfl h fun B ds vs g hB rs h2 => ?_
  refine tRs_bind g hB (er.mono g) rfl h2 fun C es zs g2 hC rs2 h3 => ?_
  obtain ⟨as, ha, h3⟩ := sat_opt h3
  exact ⟨C, as, rfl, hC, mapM_get (show q.mapM (fun i => (ds ++ es)[i]?) = some as from ha) ((rs.mono g2).append rs2), Res.sat_mono h3 (fun _ _ f => f.grow (g.trans g2)) fun _ _ _ z => z.grow (g.trans g2)⟩
/-- a new instance, then its __init__ -/
theorem HR.ins {x dx : Addr} {c : Nat} (h : HR G A) (hx : A.H x = none) (hdx : A.H dx = none) (hne : dx ≠ x) :
    HR G (A.add x (.ins c []) (upd (upd A.H dx (.own x)) x (.ins (G.ca c) dx []))) ∧ Grow G A (A.add x (.ins c []) (upd (upd A.H dx (.own x)) x (.ins (G.ca c) dx []))) := by
  have e1 : upd A.H dx (.own x) x = none := by rw [upd_ne (Ne.symm hne)]; exact hx
  have t : ∀ a ys, SqT G.K A.H a ys → SqT G.K (upd (upd A.H dx (.own x)) x (.ins (G.ca c) dx [])) a ys := fun a ys q => sqT_put (sqT_put q fun u e => by rw [hdx] at e; cases e) fun u e => by rw [e1] at e; cases e
  refine ⟨h.add hx t (fun a ys q => fzL_put (fzL_put q fun u e => by rw [hdx] at e; cases e) fun u e => by rw [e1] at e; cases e) (fun b o e => rw_at (rw_at e (ne_of_none e hdx)) (ne_of_none e hx)) ⟨dx, [], upd_same, rfl⟩, .add t⟩
def initE (r : List D → Sto → Res D) (c : Nat) (ds : List D) (S : Sto) : Res D := (r (.ref S.length :: ds) (S ++ [.ins c []])).bind fun z S1 => match z with
  | .non => .ok (.ref S.length) S1
  | _ => .no
theorem se_make {x : Str} {f C : Addr} {fd : FuncData} {ps : List Str} {k c : Nat} {es : List Expr} {xs : List Ex} {p1 pos : Pos} {r : List D → Sto → Res D} (M : Mk X.K C f) (hC : C = G.ca c) (F : FnG X.prog X.w X.K X.mg X.base k f fd ps (spD G r)) (hp : ∀ ds S, p.make c ds S = initE r c ds S)
    (hr : Room (k + 1) X.A) (hg : X.A.guards = some []) (gl : Gl X x) (hm : X.mg x = some (.ref C)) (hb : Binds X.K fd ps []) (tk : Takes X W) (hd : (x == ("__debug__" : Str)) = false) (hs : es.all noStar = true) (hl : es = [] → xs = []) (ha : PA X es (tA G p W xs)) :
    PE X (.Call (.Name x p1) es [] pos) (tE G p W (.make c xs)) := by
  subst hC
  refine PE.imp (pe_mkg M F hr hg gl hm hb tk ha (fun e σ H Q h => sa_zero (hl e) h) hs hd) fun σ H Q ⟨A, ρ, hH, hR, er, h⟩ => ?_
  subst hH
  refine tRs_bind .refl hR er rfl (show ((evEs p xs ρ A.S).bind fun ds S1 => p.make c ds S1).sat _ _ from h) fun B ds vs g hB rs q => ?_
  intro y dy hy hdy hne
  rw [hp] at q
  obtain ⟨i1, i2⟩ := hB.ins (c := c) hy hdy hne
  refine ⟨B.add y (.ins c []) (upd (upd B.H dy (.own y)) y (.ins (G.ca c) dy [])), .ref B.S.length :: ds, rfl, i1, .cons ⟨by show B.S.length < (B.S ++ [Cl.ins c []]).length; simp, by rw [Ab.add_new]⟩ (rs.mono i2), ?_⟩
  refine Res.sat_mono (Res.sat_bind (show ((r (.ref B.S.length :: ds) (B.S ++ [.ins c []])).bind fun z S1 => match z with
    | .non => Res.ok (D.ref B.S.length) S1
    | _ => .no).sat (Fin G A Q) (XW G A (xw W σ)) from q)) (fun z S1 f => ?_) fun _ _ _ z => (z.grow g).grow i2
  intro μ v H1 g1 h1 rv
  cases z with
  | non =>
    have f : Fin G A Q (.ref B.S.length) S1 := f
    refine ⟨rv, f μ _ H1 ((g.trans i2).trans g1) h1 ⟨?_, ?_⟩⟩
    · have := g1.len
      have e : (B.add y (.ins c []) (upd (upd B.H dy (.own y)) y (.ins (G.ca c) dy []))).S.length = B.S.length + 1 := by
        show (B.S ++ [Cl.ins c []]).length = _
        simp
      omega
    · have := g1.μ B.S.length (by show B.S.length < (B.S ++ [Cl.ins c []]).length; simp)
      rw [this, Ab.add_new]
  | _ => exact (show False from f).elim

/-! ### fields -/
theorem RepF.lookup : ∀ {fs : List (Str × D)} {vs : List (Str × V)} {f : Str} {d : D}, RepF G A fs vs → fs.lookup f = some d → ∃ v, vs.lookup f = some v ∧ Rep G A d v
  | [], _, _, _, _, e => by cases e
  | (g, d') :: fs, vs, f, d, h, e => by
    obtain ⟨v, ws, rfl, h1, h2⟩ : ∃ v ws, vs = (g, v) :: ws ∧ Rep G A d' v ∧ RepF G A fs ws := h
    rw [List.lookup_cons] at e ⊢
    cases hb : f == g with
    | true => rw [hb] at e; cases e; exact ⟨v, rfl, h1⟩
    | false => rw [hb] at e; exact RepF.lookup h2 e
theorem RepF.lookup_none : ∀ {fs : List (Str × D)} {vs : List (Str × V)} {f : Str}, RepF G A fs vs → fs.lookup f = none → vs.lookup f = none
  | [], vs, f, h, e => by
    have : vs = [] := h
    rw [this]; rfl
  | (g, d') :: fs, vs, f, h, e => by
    obtain ⟨v, ws, rfl, h1, h2⟩ : ∃ v ws, vs = (g, v) :: ws ∧ Rep G A d' v ∧ RepF G A fs ws := h
    rw [List.lookup_cons] at e ⊢
    cases hb : f == g with
    | true => rw [hb] at e; cases e
    | false => rw [hb] at e; exact RepF.lookup_none h2 e
theorem se_fld {o : Expr} {x : Ex} {f : Str} {pos : Pos} (hK : X.K = G.K) (hc : ∀ c, Cls X.K (G.ca c) ∧ NoAttr X.K (G.ca c) f) (hb : attributeBase o f X.env (eval o X.env) = eval o X.env) (ho : PE X o (tE G p W x)) : PE X (.Attribute o f pos) (tE G p W (.fld x f)) := by
  refine PE.imp (pe_fld ho hb) fun σ H Q ⟨A, ρ, hH, hr, er, h⟩ => ?_
  subst hH
  refine tR_bind .refl hr er rfl (show ((evE p x ρ A.S).bind (fldE f)).sat _ _ from h) fun B d v g hB rd q => ?_
  cases d with
  | ref n =>
    obtain ⟨_, rfl⟩ := rd
    have q : (match B.S[n]? with
      | some (.ins _ fs) => ofOpt B.S (fs.lookup f)
      | _ => Res.no).sat (Fin G A Q) (XW G A (xw W σ)) := q
    split at q
    · rename_i c fs hn
      obtain ⟨d, hd, fin⟩ := sat_ofOpt' q
      obtain ⟨dx, vs, h1, h2⟩ : ∃ dx vs, B.H (B.μ n) = some (.ins (G.ca c) dx vs) ∧ RepF G B fs vs := hB.cell n _ hn
      obtain ⟨v, h3, h4⟩ := h2.lookup hd
      exact ⟨_, _, dx, vs, v, rfl, h1, (hc c).1, (hc c).2, h3, Fin.at (Fin.grow fin g) .refl hB h4⟩
    · exact (show False from q).elim
  | _ => exact (show False from q).elim

/-! ### subscripts -/
theorem se_ix {a b : Expr} {x y : Ex} {pos : Pos} (hK : X.K = G.K) (hs : PlainIx b) (ha : PE X a (tE G p W x)) (hb : PE X b (tE G p W y)) : PE X (.Subscript a b pos) (tE G p W (.ix x y)) := by
  refine PE.imp (pe_ix (sn_ix hK) ha hb hs) fun σ H Q ⟨A, ρ, hH, hr, er, h⟩ => ?_
  subst hH
  refine tR_bind .refl hr er rfl (show ((evE p x ρ A.S).bind fun d S1 => (evE p y ρ S1).bind fun e S2 => ofOpt S2 (ixE S2 d e)).sat _ _ from h) fun B d v g hB rd q => ?_
  refine tR_bind g hB (er.mono g) rfl q fun C e u g2 hC re q2 => ?_
  obtain ⟨b, hb, f⟩ := sat_ofOpt' q2
  exact ⟨C, d, e, b, rfl, hC, rd.mono g2, re, hb, f.grow (g.trans g2)⟩
/-- a slice's part -/
def tO (G : Gx) (p : Pg) (W : WX) (x : Option Ex) : TO := fun σ H Q => ∃ A ρ, A.H = H ∧ HR G A ∧ ER G A ρ σ ∧ (evO p x ρ A.S).sat (fun o S' => ∀ μ H', Grow G A ⟨μ, S', H'⟩ → HR G ⟨μ, S', H'⟩ → Q o H') (XW G A (xw W σ))
theorem so_none : PO X none (tO G p W none) := by
  refine ⟨fun pins s σ H Q I ⟨A, ρ, hH, hr, er, h⟩ => po_none.run pins s σ H Q I ?_⟩
  subst hH
  exact h A.μ A.H .refl hr
theorem so_some {e : Expr} {x : Ex} (h : PE X e (tE G p W x)) : PO X (some e) (tO G p W (some x)) := by
  refine ⟨fun pins s σ H Q I ⟨A, ρ, hH, hr, er, hw⟩ => (po_some h).run pins s σ H Q I ?_⟩
  subst hH
  refine tR_bind .refl hr er rfl (show ((evE p x ρ A.S).bind fun d S1 => ofOpt S1 ((partI d).map some)).sat _ _ from hw) fun B d v g hB rd q => ?_
  obtain ⟨i, h1, h2⟩ := sat_ofOpt q
  cases d with
  | int j => cases h1; exact ⟨_, rd, h2 B.μ B.H g hB⟩
  | _ => cases h1
theorem tO_bind {β : Type} {x : Option Ex} {k : Option Int → Sto → Res β} {P : β → Sto → Prop} {w : XK} {Q : Option Int → Hp → Prop} (g0 : Grow G A0 A) (hr : HR G A) (er : ER G A ρ σ) (hw : w = xw W σ) (h : ((evO p x ρ A.S).bind k).sat P (XW G A0 w))
    (hk : ∀ B o, Grow G A B → HR G B → (k o B.S).sat P (XW G A0 w) → Q o B.H) : tO G p W x σ A.H Q := by
  subst hw
  exact ⟨A, ρ, rfl, hr, er, Res.sat_mono (Res.sat_bind h) (fun b S q μ H g h1 => hk ⟨μ, S, H⟩ b g h1 q) fun _ _ _ z => z.grow g0⟩
theorem se_sl {a : Expr} {lo hi : Option Expr} {x : Ex} {l h : Option Ex} {p2 pos : Pos} (hK : X.K = G.K) (ha : PE X a (tE G p W x)) (hl : PO X lo (tO G p W l)) (hh : PO X hi (tO G p W h)) : PE X (.Subscript a (.Slice lo hi none p2) pos) (tE G p W (.sl x l h)) := by
  refine PE.imp (pe_slice (sn_sl (G := G) hK) ha hl hh) fun σ H Q ⟨A, ρ, hH, hr, er, hw⟩ => ?_
  subst hH
  refine tR_bind .refl hr er rfl (show ((evE p x ρ A.S).bind fun d S1 => (evO p l ρ S1).bind fun l S2 => (evO p h ρ S2).bind fun h S3 => slE d l h S3).sat _ _ from hw) fun B d v g hB rd q => ?_
  refine tO_bind g hB (er.mono g) rfl q fun C o g2 hC q2 => ?_
  refine tO_bind (g.trans g2) hC (er.mono (g.trans g2)) rfl q2 fun D' o2 g3 hD q3 => ?_
  exact ⟨D', d, _, rfl, hD, (rd.mono g2).mono g3, Res.sat_mono q3 (fun _ _ f => f.grow ((g.trans g2).trans g3)) fun _ _ _ z => z⟩
theorem se_rev {a : Expr} {x : Ex} {k : Nat} {p1 p2 p3 pos : Pos} (hK : X.K = G.K) (ha : PE X a (tE G p W x)) : PE X (.Subscript a (.Slice none none (some (.UnaryOp .USub (.Constant (.int 1) k p1) p2)) p3) pos) (tE G p W (.rev x)) := by
  refine PE.imp (sn_rev (G := G) hK ha) fun σ H Q ⟨A, ρ, hH, hr, er, hw⟩ => ?_
  subst hH
  refine tR_bind .refl hr er rfl (show ((evE p x ρ A.S).bind fun d S1 => revE d S1).sat _ _ from hw) fun B d v g hB rd q => ?_
  exact ⟨B, d, _, rfl, hB, rd, Res.sat_mono q (fun _ _ f => f.grow g) fun _ _ _ z => z⟩

theorem sat_bindI {α β : Type} {r : Res α} {k : α → Sto → Res β} {P : β → Sto → Prop} {E : Nat → List (Str × D) → Sto → Prop} (h : r.sat (fun a S => (k a S).sat P E) E) : (r.bind k).sat P E := by
  cases r <;> exact h
theorem se_revT {a b : Expr} {x y : Ex} {k : Nat} {p1 p2 p3 pos : Pos} (hK : X.K = G.K) (ha : PE X a (tE G p W x)) (hb : PE X b (tE G p W y)) : PE X (.Subscript a (.Slice none (some b) (some (.UnaryOp .USub (.Constant (.int 1) k p1) p2)) p3) pos) (tE G p W (.revT x y)) := by
  refine PE.imp (sn_revT (G := G) hK ha (so_some hb)) fun σ H Q ⟨A, ρ, hH, hr, er, hw⟩ => ?_
  subst hH
  refine tR_bind .refl hr er rfl (show ((evE p x ρ A.S).bind fun d S1 => (evE p y ρ S1).bind fun e S2 => revTE d e S2).sat _ _ from hw) fun B d v g hB rd q => ?_
  refine ⟨B, ρ, rfl, hB, er.mono g, ?_⟩
  show ((evE p y ρ B.S).bind fun d S1 => ofOpt S1 ((partI d).map some)).sat _ _
  refine sat_bindI (Res.sat_mono (Res.sat_bind q) (fun e S2 z => ?_) fun _ _ _ z => z.grow g)
  cases d with
  | tup ds =>
    cases e with
    | int j => exact fun μ H' g2 hC => ⟨⟨μ, S2, H'⟩, .tup ds, j, _, rfl, hC, rd.mono g2, rfl, Res.sat_mono z (fun _ _ f => f.grow (g.trans g2)) fun _ _ _ z => z⟩
    | _ => exact (show False from z).elim
  | _ => cases e <;> exact (show False from z).elim

theorem se_cat2 {a b : Expr} {x y : Ex} {k : Nat} {p1 p2 pos : Pos} (hK : X.K = G.K) (ha : PE X a (tE G p W x)) (hb : PE X b (tE G p W y)) : PE X (.Tuple [.Starred a p1, .Starred b p2] k pos) (tE G p W (.cat2 x y)) := by
  refine PE.imp (pe_tup (StX.pa_star ha (StX.pa_star hb pa_nil))) fun σ H Q ⟨A, ρ, hH, hr, er, hw⟩ => ?_
  subst hH
  refine tR_bind .refl hr er rfl (show ((evE p x ρ A.S).bind fun d S1 => (ofOpt S1 (tupE d)).bind fun xs S1 => (evE p y ρ S1).bind fun e S2 => (ofOpt S2 (tupE e)).bind fun ys S2 => if xs.length + ys.length ≤ 1000 then Res.ok (D.tup (xs ++ ys)) S2 else .no).sat _ _ from hw) fun B d v g hB rd q => ?_
  cases d with
  | tup ds =>
    obtain ⟨a, xs, rfl, h1, r1⟩ := rd
    rw [← hK] at h1
    refine ⟨a, xs, rfl, .inl h1, ?_⟩
    refine tR_bind g hB (er.mono g) rfl (show ((evE p y ρ B.S).bind fun e S2 => (ofOpt S2 (tupE e)).bind fun ys S2 => if ds.length + ys.length ≤ 1000 then Res.ok (D.tup (ds ++ ys)) S2 else .no).sat _ _ from q) fun C e u g2 hC re q2 => ?_
    cases e with
    | tup es =>
      obtain ⟨b, ys, rfl, h2, r2⟩ := re
      rw [← hK] at h2
      refine ⟨b, ys, rfl, .inl h2, ?_⟩
      have q2 : (if ds.length + es.length ≤ 1000 then Res.ok (D.tup (ds ++ es)) C.S else .no).sat (Fin G A Q) _ := q2
      split at q2
      · rename_i hl
        have r1' := r1.mono g2
        have l1 := r1.length
        have l2 := r2.length
        refine ⟨by rw [sizeLine_eq, List.length_append, List.length_append, List.length_nil]; omega, fun p hp => ?_⟩
        rw [List.append_nil]
        exact Fin.tup (Fin.grow (show Fin G A Q (.tup (ds ++ es)) C.S from q2) (g.trans g2)) hC (r1'.append r2) hp
      · exact (show False from q2).elim
    | _ => exact (show False from q2).elim
  | _ => exact (show False from q).elim

theorem se_mid3 {a b c : Expr} {x y z : Ex} {p1 pos : Pos} (hK : X.K = G.K) (hs : noStar a = true) (hs3 : noStar c = true) (ha : PE X a (tE G p W x)) (hb : PE X b (tE G p W y)) (hc : PE X c (tE G p W z)) : PE X (.List [a, .Starred b p1, c] pos) (tE G p W (.mid3 x y z)) := by
  refine PE.imp (pe_lst (pa_cons ha (StX.pa_star hb (pa_cons hc pa_nil (star_cons hs3))) (star_cons hs))) fun σ H Q ⟨A, ρ, hH, hr, er, hw⟩ => ?_
  subst hH
  refine tR_bind .refl hr er rfl (show ((evE p x ρ A.S).bind fun d S1 => (evE p y ρ S1).bind fun e S2 => (ofOpt S2 (tupE e)).bind fun ys S2 => (evE p z ρ S2).bind fun u S3 => if ys.length ≤ 900 then new (.lst (d :: (ys ++ [u]))) S3 else .no).sat _ _ from hw) fun B d v g hB rd q => ?_
  refine tR_bind g hB (er.mono g) rfl q fun C e w g2 hC re q2 => ?_
  cases e with
  | tup es =>
    obtain ⟨b, ys, rfl, h2, r2⟩ := re
    rw [← hK] at h2
    refine ⟨b, ys, rfl, .inl h2, ?_⟩
    refine tR_bind (g.trans g2) hC (er.mono (g.trans g2)) rfl (show ((evE p z ρ C.S).bind fun u S3 => if es.length ≤ 900 then new (.lst (d :: (es ++ [u]))) S3 else .no).sat _ _ from q2) fun D' u t g3 hD ru q3 => ?_
    have q3 : (if es.length ≤ 900 then new (.lst (d :: (es ++ [u]))) D'.S else .no).sat (Fin G A Q) _ := q3
    split at q3
    · rename_i hl
      have l2 := r2.length
      refine ⟨by rw [sizeLine_eq]; simp; omega, fun k hk => ?_⟩
      have r4 : RepL G D' (d :: (es ++ [u])) (v :: (ys ++ [t])) := .cons ((rd.mono g2).mono g3) ((r2.mono g3).append (.cons ru .nil))
      exact Fin.lst (Fin.grow (show Fin G A Q (.ref D'.S.length) (D'.S ++ [.lst (d :: (es ++ [u]))]) from q3) ((g.trans g2).trans g3)) hD r4 hk
    · exact (show False from q3).elim
  | _ => exact (show False from q2).elim
/-! ### methods of lists -/
theorem tyV_list {d : D} {v : V} (hK : X.K = G.K) (hr : HR G A) (rd : Rep G A d v) (h : isLst A.S d = true) : tyV X.K "list" v A.H := by
  cases d with
  | ref n =>
    obtain ⟨_, rfl⟩ := rd
    obtain ⟨ds, h⟩ := Option.isSome_iff_exists.mp (show (lstAt A.S n).isSome = true from h)
    obtain ⟨_, xs, h1, _⟩ := hr.lstAt h
    exact .inl ⟨rfl, xs, .of h1⟩
  | _ => cases h
theorem all_plain : ∀ {es : List Expr} {env : Env} {pos : Pos}, es.all noStar = true → (backTo pos (starEach es env)).all (fun x => !x.1) = true
  | [], _, _, _ => rfl
  | e :: es, env, pos, h => by
    have h2 : noStar e = true ∧ es.all noStar = true := by simpa using h
    rw [star_cons h2.1]
    show (!false && (backTo pos (starEach es env)).all (fun x => !x.1)) = true
    rw [all_plain h2.2]
    rfl
theorem se_me {o : Expr} {x : Ex} {name : Str} {id : String} {m : Me} {es : List Expr} {xs : List Ex} {apos cpos : Pos} (hK : X.K = G.K) (slot : Slot "list" name id) (hty : typeOf (.builtin id) = pure (.type "method_descriptor")) (hm : MtR X id (rMe G m))
    (hb : attributeBase o name X.env (eval o X.env) = eval o X.env) (hline : (apos.endLine == cpos.line) = true) (hs : es.all noStar = true) (hlen : es.length < 29) (hl : es = [] → xs = []) (ho : PE X o (tE G p W x)) (ha : PA X es (tA G p W xs)) :
    PE X (.Call (.Attribute o name apos) es [] cpos) (tE G p W (.me m x xs)) := by
  have key : ∀ {σ H Q}, tE G p W (.me m x xs) σ H Q → tE G p W x σ H fun v H1 => tyV X.K "list" v H1 ∧ tA G p W xs σ H1 fun vs H2 => rMe G m v vs H2 Q := fun {σ H Q} ⟨A, ρ, hH, hr, er, hw⟩ => by
    subst hH
    refine tR_bind .refl hr er rfl (show ((evE p x ρ A.S).bind fun d S1 => if isLst S1 d then (evEs p xs ρ S1).bind fun ds S2 => meE m d ds S2 else .no).sat _ _ from hw) fun B d v g hB rd q => ?_
    split at q
    · rename_i hc
      refine ⟨tyV_list hK hB rd hc, tRs_bind g hB (er.mono g) rfl q fun C ds vs g2 hC rs q2 => ?_⟩
      exact ⟨C, d, ds, _, rfl, hC, rd.mono g2, rs, Res.sat_mono q2 (fun _ _ f => f.grow (g.trans g2)) fun _ _ _ z => z⟩
    · exact (show False from q).elim
  cases es with
  | nil =>
    refine PE.imp (pe_bm0 PySem.F.plainAttrs_list slot hty hm ho hb hline) fun σ H Q h => ?_
    obtain ⟨A, ρ, hH, hr, er, hw⟩ := key h
    exact ⟨A, ρ, hH, hr, er, Res.sat_mono hw (fun d S q μ v H1 g h1 r => ⟨(q μ v H1 g h1 r).1, sa_zero (hl rfl) (q μ v H1 g h1 r).2⟩) fun _ _ _ z => z⟩
  | cons e es =>
    have h2 : noStar e = true ∧ es.all noStar = true := by simpa using hs
    refine PE.imp (pe_bm PySem.F.plainAttrs_list slot hty hm ho ha hb ?_ hline (star_cons h2.1) (star_all h2.2)) fun σ H Q h => key h
    have hk : backToKw cpos (keywordEach [] X.env) = [] := rfl
    rw [all_plain hs, hk]
    simp at hlen ⊢
    omega
/-! ### own methods -/
theorem mcall_form {o : Expr} {m : Str} {apos pos : Pos} {env : Env} {ov : Value} {n : Nat} {args : List (Bool × Sem Value)} {kws : List (Option Str × Sem Value)} (hfew : methodCallForm n args kws = true) (hl : (apos.endLine == pos.line) = true) :
    methodCall o m apos pos env ov n args kws = (do
      let (f, first) ← holding [ov] (getMethod ov m (do return (← importBound o env).getD true))
      callWith pos f first args kws) := by
  unfold methodCall calleeOf methodCallPos
  rw [hfew, hl]
  simp only [Bool.not_true, Bool.false_or, if_true]
  rfl
/-- what a class's own method promises -/
structure Own (X : Cx) (C : Addr) (m : Str) (sp : Sp) : Prop where
  ex : ∃ k f fd ps, Cls X.K C ∧ Meth X.K C m f ∧ FnG X.prog X.w X.K X.mg X.base k f fd ps sp ∧ Room k X.A ∧ Binds X.K fd ps []
section
variable {X : Cx} {W : WX} {x m : Str} {p pos apos : Pos} {o : Expr} {es : List Expr} {ta : TE} {t : TA}
/-- o.m(e, ..) of an instance of an own class -/
theorem pe_mg (he : PE X o ta) (hg : X.A.guards = some []) (tk : Takes X W)
    (ha : PA X es t) (hz : es = [] → ∀ σ H Q, t σ H Q → Q [] H) (hn : es.all noStar = true) (hbase : attributeBase o m X.env (eval o X.env) = eval o X.env) (hline : (apos.endLine == pos.line) = true) (hlen : es.length < 29) :
    PE X (.Call (.Attribute o m apos) es [] pos) (fun σ H Q => ta σ H fun v H1 => ∃ a C dx fs sp, v = .ref a ∧ H1 a = some (.ins C dx fs) ∧ fs.lookup m = none ∧ Own X C m sp ∧ t σ H1 fun vs H2 => sp (v :: vs) H2 Q fun c d H' => W c d σ H') := by
  refine ⟨fun pins s σ H Q I h => ?_⟩
  have hfew : methodCallForm (es.length + ([] : List Keyword).length) (backTo pos (starEach es X.env)) (backToKw pos (keywordEach [] X.env)) = true := by
    have hk : backToKw pos (keywordEach [] X.env) = [] := rfl
    unfold methodCallForm
    rw [all_plain hn, hk]
    simp at hlen ⊢
    omega
  refine PySem.W.methodCall_KW (pl := do return (← importBound o X.env).getD true) (thn (he.run pins s σ H _ I h) fun u s1 ⟨x, H1, I1, rx, a, C, dx, fs, sp, ex, ea, l, ⟨⟨k, f, fd, ps, c, hm, F, hr, hb⟩⟩, q⟩ => ?_) (mcall_of hbase fun ov => mcall_form hfew hline)
  subst ex
  obtain rfl : u = Value.ref a := rx
  refine getmeth_ok I1 ea c hm l ?_
  have A := ha.run pos pins s1 σ H1 _ I1 q
  cases es with
  | nil => exact PySem.W.callWith_K0 (first := [.ref a]) I1.kIn hm.kp (run_g (us := [.ref a]) (vs := [.ref a]) F hr hg hb tk I1 (.cons rfl .nil) (hz rfl σ H1 _ q))
  | cons e es =>
    have h2 : noStar e = true ∧ es.all noStar = true := by simpa using hn
    refine PySem.W.callWith_K (first := [.ref a]) (h₀ := X.base) I1.ok.mod.kin hm.kp (thn A fun us s2 ⟨vs, H2, I2, r, q2⟩ => ⟨I2.kIn, ?_⟩) (star_cons h2.1) (star_all h2.2)
    exact run_g (us := .ref a :: us) (vs := .ref a :: vs) F hr hg hb tk I2 (.cons rfl r) q2
end
theorem se_meth {o : Expr} {x : Ex} {m : Str} {es : List Expr} {xs : List Ex} {apos cpos : Pos} (hmt : ∀ c, p.own c m = true → ∃ r, Own X (G.ca c) m (spD G r) ∧ ∀ ds S, p.meth c m ds S = r ds S) (hg : X.A.guards = some []) (tk : Takes X W)
    (hb : attributeBase o m X.env (eval o X.env) = eval o X.env) (hline : (apos.endLine == cpos.line) = true) (hs : es.all noStar = true) (hlen : es.length < 29) (hl : es = [] → xs = []) (ho : PE X o (tE G p W x)) (ha : PA X es (tA G p W xs)) :
    PE X (.Call (.Attribute o m apos) es [] cpos) (tE G p W (.meth m x xs)) := by
  refine PE.imp (pe_mg ho hg tk ha (fun e σ H Q h => sa_zero (hl e) h) hs hb hline hlen) fun σ H Q ⟨A, ρ, hH, hR, er, h⟩ => ?_
  subst hH
  refine tR_bind .refl hR er rfl (show ((evE p x ρ A.S).bind fun x S1 => (ofOpt S1 (ownC S1 x m)).bind fun c S1 => if p.own c m then (evEs p xs ρ S1).bind fun ds S2 => p.meth c m (x :: ds) S2 else .no).sat _ _ from h) fun B d v g hB rd q => ?_
  obtain ⟨c, hc, q⟩ := sat_opt q
  by_cases ho : p.own c m = true
  · rw [if_pos ho] at q
    obtain ⟨r, ow, er2⟩ := hmt c ho
    cases d with
    | ref n =>
      obtain ⟨hn0, rfl⟩ := rd
      have hc : (match B.S[n]? with
        | some (.ins c fs) => if (fs.lookup m).isNone then some c else none
        | _ => none) = some c := hc
      split at hc
      · rename_i c' fs hn
        split at hc
        · rename_i hl2
          cases hc
          obtain ⟨dx, vs, h1, h2⟩ : ∃ dx vs, B.H (B.μ n) = some (.ins (G.ca c) dx vs) ∧ RepF G B fs vs := hB.cell n _ hn
          have h3 := h2.lookup_none (Option.isNone_iff_eq_none.mp hl2)
          refine ⟨B.μ n, G.ca c, dx, vs, _, rfl, h1, h3, ow, ?_⟩
          refine tRs_bind g hB (er.mono g) rfl q fun D ds us g2 hD rs q2 => ?_
          rw [er2] at q2
          exact ⟨D, .ref n :: ds, rfl, hD, .cons ((show Rep G B (.ref n) (.ref (B.μ n)) from ⟨hn0, rfl⟩).mono g2) rs, Res.sat_mono q2 (fun _ _ f => f.grow (g.trans g2)) fun _ _ _ z => z.grow (g.trans g2)⟩
        · cases hc
      · cases hc
    | _ => cases hc
  · rw [if_neg ho] at q
    exact (show False from q).elim
/-! ### isinstance of an own class -/
structure IsC (K : PySem.W.Frag) (C : Addr) : Prop where
  cl : Cls K C
  ha : PySem.W.findIn K (.ref C) "__class__" = some (some (.builtin "object.__class__"))
  hn : PySem.W.specialIn K (.builtin "object.__class__") "__get__" = some (some (.builtin "getset_descriptor.__get__"))
  htk : PySem.W.takesIn K (.builtin "object.__class__") = some true
  hm : PySem.W.mroIn K C (.type "object") = some true
  tu : PySem.W.kitOne K (.type "tuple") (.ref C) = some false
theorem kit_self {K : PySem.W.Frag} {C : Addr} : PySem.W.kitOne K (.ref C) (.ref C) = some true := by
  unfold PySem.W.kitOne
  rw [if_pos (by exact beq_self_eq_true _)]
theorem sn_isc {c : Nat} (hK : X.K = G.K) (hi : IsC X.K (G.ca c)) : CallR X (.builtin "isinstance") (fun xs H Q => ∃ x A d, xs = [x, .ref (G.ca c)] ∧ A.H = H ∧ HR G A ∧ Rep G A d x ∧ ∃ b, iscE A.S d c = some b ∧ Q (.bl b) H) := by
  refine CallR.of call_isi fun xs H Q ⟨x, A, d, e, hH, hr, rd, b, hb, hQ⟩ => ?_
  subst hH e
  cases d with
  | tup ds =>
    cases hb
    refine ⟨_, _, .type "tuple", .ref (G.ca c), false, rfl, .own _, ?_, hi.tu, hQ⟩
    rw [hK]
    exact tyX_of (u := .tuple) hr rd rfl
  | ref n =>
    obtain ⟨_, rfl⟩ := rd
    have hb2 : (match A.S[n]? with
      | some (.ins c' _) => if c' = c then some true else none
      | _ => none) = some b := hb
    clear hb
    split at hb2
    · rename_i c' fs hn
      split at hb2
      · rename_i e
        subst e
        cases hb2
        obtain ⟨dx, vs, h1, _⟩ : ∃ dx vs, A.H (A.μ n) = some (.ins (G.ca c') dx vs) ∧ RepF G A fs vs := hr.cell n _ hn
        exact ⟨_, _, .ref (G.ca c'), .ref (G.ca c'), true, rfl, .own _, .base (.ins h1 hi.cl hi.ha hi.hn hi.htk hi.hm), kit_self, hQ⟩
      · cases hb2
    · cases hb2
  | _ => cases hb
theorem se_isc {e : Expr} {x : Ex} {c : Nat} {ty : Str} {p1 p2 pos : Pos} (hK : X.K = G.K) (gl : Gl X "isinstance") (hm : X.mg "isinstance" = none) (gt : Gl X ty) (mt : X.mg ty = some (.ref (G.ca c))) (hi : IsC X.K (G.ca c)) (hd : (ty == ("__debug__" : Str)) = false)
    (hs : noStar e = true) (ha : PE X e (tE G p W x)) : PE X (.Call (.Name "isinstance" p1) [e, .Name ty p2] [] pos) (tE G p W (.isc x c)) := by
  have pt : PE X (.Name ty p2) (tC (.ref (G.ca c))) := pe_glob gt mt (show RelV (.ref (G.ca c)) (.ref (G.ca c)) from rfl) hd
  refine PE.imp (pe_callB (sn_isc hK hi) gl hm (by decide +kernel) (pa_cons ha (pa_cons pt pa_nil rfl) (star_cons hs)) (by decide) (by decide) (star_cons hs) rfl) fun σ H Q ⟨A, ρ, hH, hr, er, h⟩ => ?_
  subst hH
  refine tR_bind .refl hr er rfl (show ((evE p x ρ A.S).bind fun x S1 => ofOpt S1 ((iscE S1 x c).map D.bl)).sat _ _ from h) fun B d v g hB rd q => ?_
  obtain ⟨b, hb, fin⟩ := sat_ofOpt q
  exact ⟨v, B, d, rfl, rfl, hB, rd, b, hb, Fin.at (Fin.grow fin g) .refl hB rfl⟩
end Mini
set_option maxHeartbeats 2000000
/-! Mini: enumerate over a tuple. -/
namespace Mini
open PySem PySem.Spec PyProof.Rows L2
theorem en_new {v : Value} {ob : Obj} {HH : Heap → Prop} (B : Begins v ob HH) :
    Meets (Builtin.«enumerate.__new__» ⟨[.type "enumerate", v], []⟩) (fun _ R s => HH s.heap ∧ R (.ok (.ret (.ref (s.heap.push ob).objs.size))) { s with heap := (s.heap.push ob).push { cls := .type "enumerate", data := .fields #[.none, .bool false, .ref s.heap.objs.size, rawInt 0, .none, .none] } }) :=
  .of_wp fun pr ww Ar RR st hst => by
    obtain ⟨hh, gg, dd, tt, oo⟩ := st
    obtain ⟨b1, b2⟩ := hst
    have se := sub_enumerate
    have qi : ∀ {Ar' : Around} {Er : Value → Shared → Prop} {Qr : Value → Shared → Prop}, Qr (.ref hh.objs.size) ⟨hh.push ob, gg, dd, tt, oo⟩ → wpAny (model pr ww) Ar' (pyIter v) Qr Er ⟨hh, gg, dd, tt, oo⟩ := fun q => B.iter pr ww _ _ ⟨hh, gg, dd, tt, oo⟩ _ b1 q
    wp_walk using qi
    refine wpAny_stack_any fun stk => wpAny_pure ?_
    split
    · rename_i cl _ _ _ _ _
      cases (cl == Value.type "enumerate") <;> (wp_walk using qi; exact ⟨_, rfl, b2⟩)
    · wp_walk using qi
      exact ⟨_, rfl, b2⟩
section
variable {prog : Program} {w : World} {A : Around} {E : Value → Shared → Prop} {s : Shared}
theorem en_call {v : Value} {ob : Obj} {HH : Heap → Prop} {Q : Value → Shared → Prop} (B : Begins v ob HH) (b1 : HH s.heap)
    (k : ∀ g, IsEnum g (s.heap.objs.size + 1) s.heap.objs.size 0 .none → g.get? s.heap.objs.size = some ob → (∀ b u, s.heap.get? b = some u → g.get? b = some u) → Q (.ref (s.heap.objs.size + 1)) { s with heap := g }) :
    wpAny (model prog w) A (call (.type "enumerate") [v]) Q E s := by
  refine callType_new F.called_enumerate (by decide) (F.typeCall_enumerate_1 _) (F.newCall_enumerate_1 _) (fun x => F.args_object_init_2 x _) F.entry_enumerate_new (en_new B) ⟨b1, ?_⟩
  have sz : (s.heap.push ob).objs.size = s.heap.objs.size + 1 := Heap.size_push ..
  show _ ∧ _
  rw [sz]
  have en : IsEnum ((s.heap.push ob).push { cls := .type "enumerate", data := .fields #[.none, .bool false, .ref s.heap.objs.size, rawInt 0, .none, .none] }) (s.heap.objs.size + 1) s.heap.objs.size 0 .none := by
    have z := Heap.get?_push_size (s.heap.push ob) (o := { cls := .type "enumerate", data := .fields #[.none, .bool false, .ref s.heap.objs.size, rawInt 0, .none, .none] }) rfl
    rw [sz] at z
    exact z
  exact ⟨⟨_, en, rfl⟩, k _ en (Heap.get?_push_of_some _ (Heap.get?_push_size _ B.free)) fun b u z => Heap.get?_push_of_some _ (Heap.get?_push_of_some _ z)⟩
end
/-- the tuple at a, each item in a new pair -/
def IteT (K : PySem.W.Frag) (a : Addr) : L2.It :=
  ⟨fun i H => ∃ (xs : List V) (x : V), SqT K H a xs ∧ xs[i]? = some x, fun i H u H' => ∃ T x, u = .ref T ∧ H T = none ∧ H' = upd H T (.tup [.int (i : Nat), x]) ∧ ∀ xs, SqT K H a xs → xs[i]? = some x, fun i H => ∃ xs : List V, SqT K H a xs ∧ xs.length ≤ i⟩
theorem turn_enT {P : Program} {w : World} {K : PySem.W.Frag} {elts : List Expr} {kk : Nat} {tpos : Pos} (a e it : Addr) :
    Turn P w K (.Tuple elts kk tpos) (IteT K a) [e, it] e (fun i h => (∃ old, IsEnum h e it ((i : Nat) : Int) old) ∧ h.IsTupleIter it a i ∧ e ≠ it ∧ a ≠ it ∧ a ≠ e) where
  mem := by simp
  obj := fun i h st b hb => by
    obtain ⟨⟨old, en⟩, ⟨ob, g1, g2, g3⟩, _⟩ := st
    rcases (show b = e ∨ b = it by simpa using hb) with z | z
    · subst z; exact ⟨_, en, fun v q => nomatch q⟩
    · subst z; exact ⟨ob, g1, fun v q => by rw [g3] at q; cases q⟩
  keep := fun i h h' st k => by
    obtain ⟨⟨old, en⟩, ti, ne⟩ := st
    exact ⟨⟨old, k e (by simp) _ en⟩, ti.at fun u q => k it (by simp) u q, ne⟩
  item := by
    intro X eP eW eK hc i pins s σ H E I hf st hg
    subst eP eW eK
    obtain ⟨⟨old, en⟩, ti, n1, n2, n3⟩ := st
    obtain ⟨xs, x, sq, hx⟩ := hg
    obtain ⟨its, rv, tu, hz⟩ := I.tuple sq
    obtain ⟨u, hu, ru⟩ := rv.get hx
    have le : e < s.heap.objs.size := Heap.lt_size en
    have li : it < s.heap.objs.size := by
      obtain ⟨_, q, _⟩ := ti
      exact Heap.lt_size q
    have dr : Draws X.prog X.w X.A.in1 it [it, a] its.toArray.size (fun i v => its.toArray[i]? = some v) (fun i h => h.IsTupleIter it a i ∧ h.IsTuple a its.toArray) := Draws.tuple (A := X.A.in1) (show X.A.in1.handled = none from I.ok.hd hc) it a n2 its.toArray
    have lt : i < its.toArray.size := by
      have := (List.getElem?_eq_some_iff.mp hx).1
      have := rv.length
      simp; omega
    refine wpAny_pyNext_enum_itemD dr en ⟨ti, tu⟩ lt n1 (by simp; exact ⟨n1, Ne.symm n3⟩) fun u' g tk hu' out st' hT sz kk => ?_
    have eu : u' = u := by
      have : its.toArray[i]? = some u := by simpa using hu
      rw [this] at hu'
      exact (Option.some.inj hu').symm
    subst eu
    refine ⟨_, rfl, wpAny_letOwnedTupleGo_enum (s := { s with heap := g, toks := tk + 1 }) out fun g2 en2 sb => ?_⟩
    have hT2 : g2.get? s.heap.objs.size = some { cls := .type "tuple", data := .seq #[.int i tk, u'] } := (sb.2 _ (Nat.ne_of_gt le)).trans hT
    have ok : ObjOk X.prog X.w (upd H s.heap.objs.size (.tup [.int (i : Nat), x])) g2 s.heap.objs.size (.tup [.int (i : Nat), x]) :=
      ⟨by show 2 ≤ sizeLine; decide, [.int i tk, u'], .cons ⟨_, rfl⟩ (.cons ru .nil), ⟨_, hT2, rfl, _, rfl⟩⟩
    have I2 : Inv X pins σ (upd H s.heap.objs.size (.tup [.int (i : Nat), x])) { s with heap := g2, toks := tk + 1 } :=
      I.turnedNew (ch := [e, it]) (fun b ob hb q => (sb.2 b fun z => hb (by simp [z])).trans (kk b ob (fun z => hb (by simp [z])) (fun z => hb (by simp [z])) q)) hf (Nat.le_refl _) ok
    refine ⟨.ref s.heap.objs.size, _, I2, rfl, ⟨_, x, rfl, I.hok.fresh (Nat.le_refl _), rfl, fun ys hy => by rw [I.tuple_inj hy sq]; exact hx⟩, ⟨⟨u', ?_⟩, st'.1.at fun ob q => (sb.2 it (Ne.symm n1)).trans q, n1, n2, n3⟩, fun b hb => ?_⟩
    · rw [show ((i + 1 : Nat) : Int) = (i : Int) + 1 by omega]
      exact en2
    · have lb : b < s.heap.objs.size := by
        rcases (show b = e ∨ b = it by simpa using hb) with z | z <;> subst z <;> assumption
      rw [upd_ne (Nat.ne_of_lt lb)]
      exact (hf b hb).1
  done := by
    intro X eP eW eK hc i pins s σ H E I hf st hg
    subst eP eW eK
    obtain ⟨⟨old, en⟩, ti, n1, n2, n3⟩ := st
    obtain ⟨xs, sq, hx⟩ := hg
    obtain ⟨its, rv, tu, hz⟩ := I.tuple sq
    obtain ⟨f0, f1, f2, f3, f4, f5⟩ := hf it (by simp)
    have hl := rv.length
    have nx : its.toArray[i]? = none := by
      rw [Array.getElem?_eq_none_iff, List.size_toArray]; omega
    have hT : s.TypeIs (.ref e) "enumerate" := ⟨_, en, rfl⟩
    unfold pyNext
    refine wpAny_bind (wpAny_attempt (wpAny_callSpecial?_slot (name := Str.ofString "__next__") hT F.slot_enumerate_next (wpAny_call_entry F.slot_enumerate_next hT F.entry_enumerate_next ?_ (F.args_enumerate_next_1 _))))
    show wpAny _ _ (field (.ref e) 2 >>= _) _ _ _
    refine wpAny_bind (wpAny_field en rfl (x := .ref it) rfl ?_)
    refine wpAny_bind (wpAny_nextOf_tuple_end (I.ok.hd hc) ti tu nx fun g ex eb ⟨xo, g1, g2⟩ => ?_)
    refine wpAny_bind (wpAny_isInstance (T := "StopIteration") (b := true) ⟨xo, g1, g2⟩ isSubtype_stop ?_)
    exact wpAny_pure ⟨rfl, I.turned (t' := s.toks) (fun b ob nb q => eb b ob nb q) f0 f1 f3 f4 f5⟩
  self := fun Ar i s Q E st k => by
    obtain ⟨⟨old, en⟩, _⟩ := st
    exact wpAny_pyIter_enum en k
def iEnumA (K : PySem.W.Frag) (ta : TA) : TI := fun σ H R => ta σ H fun vs H1 => ∃ a xs, vs = [.ref a] ∧ ((SqL K H1 a xs ∧ R (Ite K a) H1) ∨ (SqT K H1 a xs ∧ R (IteT K a) H1))
theorem pi_enumA {X : Cx} {e : Expr} {ta : TA} {p pos tpos : Pos} {elts : List Expr} {kk : Nat} (hg : Gl X "enumerate") (hm : X.mg "enumerate" = none) (ha : PA X [e] ta) (hs : starEach [e] X.env = [(false, eval e X.env)] := by rfl) :
    PI X (.Tuple elts kk tpos) (.Call (.Name "enumerate" p) [e] [] pos) (iEnumA X.K ta) := by
  refine ⟨fun pins s σ H R I h => Call_ (ld_blt I hg hm boot_enumerate (PyProof.Rows.callWith_type1 (thn (ha.run pos pins s σ H _ I h) fun us s1 ⟨vs, H1, I1, r1, a, xs, ex, q⟩ => ?_) hs rfl))⟩
  subst ex
  cases r1 with
  | cons ra rr =>
    cases rr
    cases ra
    have fresh : ∀ b, b ∈ [s1.heap.objs.size + 1, s1.heap.objs.size] → FpOk X pins H1 b := fun b hb => by
      have lb : s1.heap.objs.size ≤ b := by
        rcases (show b = s1.heap.objs.size + 1 ∨ b = s1.heap.objs.size by simpa using hb) with z | z <;> rw [z]
        · exact Nat.le_add_right _ _
        · exact Nat.le_refl _
      exact I1.fpOk lb (I1.hok.fresh lb)
    rcases q with ⟨sq, q⟩ | ⟨sq, q⟩
    · obtain ⟨its, rv, li, hz⟩ := I1.list sq
      refine call_enumerate_list li.isList fun g en hit sz kk => wpAny_pyIter_enum en ?_
      exact ⟨s1.heap.objs.size + 1, [s1.heap.objs.size + 1, s1.heap.objs.size], _, _, H1, rfl, I1.kept (t' := s1.toks) kk, turn_enum a (s1.heap.objs.size + 1) s1.heap.objs.size, ⟨⟨.none, en⟩, hit, Nat.succ_ne_self _⟩, fresh, q⟩
    · obtain ⟨its, rv, tu, hz⟩ := I1.tuple sq
      have la : a < s1.heap.objs.size := by
        obtain ⟨_, q, _⟩ := id tu
        exact Heap.lt_size q
      refine en_call (begins_tuple a its.toArray) tu fun g en hit kk => wpAny_pyIter_enum en ?_
      exact ⟨s1.heap.objs.size + 1, [s1.heap.objs.size + 1, s1.heap.objs.size], _, _, H1, rfl, I1.kept (t' := s1.toks) kk, turn_enT a (s1.heap.objs.size + 1) s1.heap.objs.size, ⟨⟨.none, en⟩, ⟨_, hit, rfl, rfl⟩, Nat.succ_ne_self _, Nat.ne_of_lt la, Nat.ne_of_lt (Nat.lt_succ_of_lt la)⟩, fresh, q⟩
end Mini
set_option maxHeartbeats 2000000
/-! Mini: zip of three, each a list or a tuple. -/
namespace Mini
open PySem PySem.Spec PyProof.Rows L2
/-- a list's or a tuple's items -/
def sqK (t : Bool) (K : PySem.W.Frag) (H : Hp) (a : Addr) (xs : List V) : Prop := if t then SqT K H a xs else SqL K H a xs
def itK (t : Bool) (h : Heap) (it a : Addr) (i : Nat) : Prop := if t then h.IsTupleIter it a i else h.IsListIter it a i
def isK (t : Bool) (h : Heap) (a : Addr) (items : Array Value) : Prop := if t then h.IsTuple a items else h.IsList a items
def obK (t : Bool) (a : Addr) : Obj := if t then { cls := .type "tuple_iterator", data := .fields #[.ref a, .int 0 0] } else { cls := .type "list_iterator", data := .fields #[.ref a, .int 0 0] }
theorem draws_k {prog : Program} {w : World} {A : Around} (t : Bool) (hh : A.handled = none) (it a : Addr) (hne : a ≠ it) (items : Array Value) :
    Draws prog w A it [it, a] items.size (fun i v => items[i]? = some v) (fun i h => itK t h it a i ∧ isK t h a items) := by
  cases t
  · exact Draws.list hh it a hne items
  · exact Draws.tuple hh it a hne items
theorem begins_k (t : Bool) (a : Addr) (items : Array Value) : Begins (.ref a) (obK t a) fun h => isK t h a items := by
  cases t
  · exact begins_list a items
  · exact begins_tuple a items
theorem vals_k {X : Cx} {pins : List (Addr × Obj)} {σ : L2.St} {H : Hp} {s : Shared} {t : Bool} {a : Addr} {xs : List V} (I : Inv X pins σ H s) (h : sqK t X.K H a xs) : ∃ its, Vals xs its ∧ isK t s.heap a its.toArray := by
  cases t
  · obtain ⟨its, rv, p, _⟩ := I.list h
    exact ⟨its, rv, p.isList⟩
  · obtain ⟨its, rv, p, _⟩ := I.tuple h
    exact ⟨its, rv, p⟩
theorem inj_k {X : Cx} {pins : List (Addr × Obj)} {σ : L2.St} {H : Hp} {s : Shared} {t : Bool} {a : Addr} {xs ys : List V} (I : Inv X pins σ H s) (h : sqK t X.K H a xs) (h2 : sqK t X.K H a ys) : xs = ys := by
  cases t
  · exact I.list_inj h h2
  · exact I.tuple_inj h h2
theorem lt_k {t : Bool} {h : Heap} {a : Addr} {items : Array Value} (q : isK t h a items) : a < h.objs.size := by
  cases t
  · obtain ⟨_, q, _⟩ := q
    exact Heap.lt_size q
  · obtain ⟨_, q, _⟩ := q
    exact Heap.lt_size q
theorem ob_k {t : Bool} {h : Heap} {it a : Addr} {i : Nat} (q : itK t h it a i) : ∃ o, h.get? it = some o ∧ ∀ v, o.data ≠ .cell v := by
  cases t
  · obtain ⟨o, e1, _, d1⟩ := q
    exact ⟨o, e1, fun v q => by rw [d1] at q; cases q⟩
  · obtain ⟨o, e1, _, d1⟩ := q
    exact ⟨o, e1, fun v q => by rw [d1] at q; cases q⟩
theorem at_k {t : Bool} {h h' : Heap} {it a : Addr} {i : Nat} (q : itK t h it a i) (k : ∀ o, h.get? it = some o → h'.get? it = some o) : itK t h' it a i := by
  cases t
  · exact Heap.IsListIter.at q k
  · exact Heap.IsTupleIter.at q k
/-- three at a time -/
def Itz3 (t1 t2 t3 : Bool) (K : PySem.W.Frag) (a b c : Addr) : L2.It :=
  ⟨fun i H => ∃ (xs ys zs : List V) (x y u : V), sqK t1 K H a xs ∧ sqK t2 K H b ys ∧ sqK t3 K H c zs ∧ xs[i]? = some x ∧ ys[i]? = some y ∧ zs[i]? = some u,
    fun i H v H' => ∃ T x y u, v = .ref T ∧ H T = none ∧ H' = upd H T (.tup [x, y, u]) ∧ (∀ xs, sqK t1 K H a xs → xs[i]? = some x) ∧ (∀ ys, sqK t2 K H b ys → ys[i]? = some y) ∧ ∀ zs, sqK t3 K H c zs → zs[i]? = some u,
    fun i H => ∃ xs ys zs : List V, sqK t1 K H a xs ∧ sqK t2 K H b ys ∧ sqK t3 K H c zs ∧ xs.length = i ∧ ys.length = i ∧ zs.length = i⟩
theorem turn_zip3 {P : Program} {w : World} {K : PySem.W.Frag} {elts : List Expr} {kk : Nat} {tpos : Pos} {t1 t2 t3 : Bool} {a b c z TI TO i1 i2 i3 : Addr} (S : ZipSep3 z TI TO i1 i2 i3 [i1, a] [i2, b] [i3, c]) (n1 : a ≠ i1) (n2 : b ≠ i2) (n3 : c ≠ i3) :
    Turn P w K (.Tuple elts kk tpos) (Itz3 t1 t2 t3 K a b c) [z, TI, TO, i1, i2, i3] z (fun i h => IsZip h z TI TO .none ∧ IsTupOf3 h TI (.ref i1) (.ref i2) (.ref i3) ∧ (∃ x y u, IsTupOf3 h TO x y u) ∧ itK t1 h i1 a i ∧ itK t2 h i2 b i ∧ itK t3 h i3 c i) where
  mem := by simp
  obj := fun i h st q hq => by
    obtain ⟨hz, hTI, ⟨x, y, u, hTO⟩, k1, k2, k3⟩ := st
    rcases (show q = z ∨ q = TI ∨ q = TO ∨ q = i1 ∨ q = i2 ∨ q = i3 by simpa using hq) with e | e | e | e | e | e
    · rw [e]; exact ⟨_, hz, fun v q => nomatch q⟩
    · rw [e]; exact ⟨_, hTI, fun v q => nomatch q⟩
    · rw [e]; exact ⟨_, hTO, fun v q => nomatch q⟩
    · rw [e]; exact ob_k k1
    · rw [e]; exact ob_k k2
    · rw [e]; exact ob_k k3
  keep := fun i h h' st k => by
    obtain ⟨hz, hTI, ⟨x, y, u, hTO⟩, k1, k2, k3⟩ := st
    exact ⟨k z (by simp) _ hz, k TI (by simp) _ hTI, ⟨x, y, u, k TO (by simp) _ hTO⟩, at_k k1 fun o q => k i1 (by simp) o q, at_k k2 fun o q => k i2 (by simp) o q, at_k k3 fun o q => k i3 (by simp) o q⟩
  item := by
    intro X eP eW eK hc i pins s σ H E I hf st hg
    subst eP eW eK
    obtain ⟨hz, hTI, hTO, k1, k2, k3⟩ := st
    obtain ⟨xs, ys, zs, x, y, u, q1, q2, q3, hx, hy, hu⟩ := hg
    obtain ⟨its1, rv1, p1⟩ := vals_k I q1
    obtain ⟨its2, rv2, p2⟩ := vals_k I q2
    obtain ⟨its3, rv3, p3⟩ := vals_k I q3
    obtain ⟨v1, hv1, r1⟩ := rv1.get hx
    obtain ⟨v2, hv2, r2⟩ := rv2.get hy
    obtain ⟨v3, hv3, r3⟩ := rv3.get hu
    have hh : X.A.in1.handled = none := I.ok.hd hc
    have D1 := draws_k (prog := X.prog) (w := X.w) (A := X.A.in1) t1 hh i1 a n1 its1.toArray
    have D2 := draws_k (prog := X.prog) (w := X.w) (A := X.A.in1) t2 hh i2 b n2 its2.toArray
    have D3 := draws_k (prog := X.prog) (w := X.w) (A := X.A.in1) t3 hh i3 c n3 its3.toArray
    have W := WalksT.zipD3 S D1 D2 D3
    have lt1 : i < its1.length := (List.getElem?_eq_some_iff.mp hv1).1
    have lt2 : i < its2.length := (List.getElem?_eq_some_iff.mp hv2).1
    have lt3 : i < its3.length := (List.getElem?_eq_some_iff.mp hv3).1
    have lz : z < s.heap.objs.size := Heap.lt_size hz
    have lTI : TI < s.heap.objs.size := Heap.lt_size hTI
    have lTO : TO < s.heap.objs.size := by
      obtain ⟨_, _, _, q⟩ := hTO
      exact Heap.lt_size q
    have l1 : i1 < s.heap.objs.size := by obtain ⟨_, q, _⟩ := ob_k k1; exact Heap.lt_size q
    have l2 : i2 < s.heap.objs.size := by obtain ⟨_, q, _⟩ := ob_k k2; exact Heap.lt_size q
    have l3 : i3 < s.heap.objs.size := by obtain ⟨_, q, _⟩ := ob_k k3; exact Heap.lt_size q
    refine W.item i s _ E (by simp; omega) ⟨hz, hTI, hTO, ⟨k1, p1⟩, ⟨k2, p2⟩, ⟨k3, p3⟩⟩ fun T vals h' tk ⟨w1, w2, w3, e1, e2, e3, ev⟩ hT iT mid kk2 => ?_
    have f1 : w1 = v1 := by
      have : its1.toArray[i]? = some v1 := by simpa using hv1
      rw [this] at e1; exact (Option.some.inj e1).symm
    have f2 : w2 = v2 := by
      have : its2.toArray[i]? = some v2 := by simpa using hv2
      rw [this] at e2; exact (Option.some.inj e2).symm
    have f3 : w3 = v3 := by
      have : its3.toArray[i]? = some v3 := by simpa using hv3
      rw [this] at e3; exact (Option.some.inj e3).symm
    subst f1 f2 f3 ev
    refine ⟨_, rfl, W.go elts kk tpos i T { s with heap := h', toks := tk } _ _ mid fun h2 st2 k2' => ?_⟩
    have nT := W.apart i T h' mid
    obtain ⟨oT, g1, g2, nn, g3⟩ := iT
    have ok : ObjOk X.prog X.w (upd H T (.tup [x, y, u])) h2 T (.tup [x, y, u]) :=
      ⟨by show 3 ≤ sizeLine; decide, [w1, w2, w3], .cons r1 (.cons r2 (.cons r3 .nil)), ⟨oT, k2' T oT nT g1, g2, nn, g3⟩⟩
    have mem : ∀ q, q ∈ [z, TO, i1, i2, i3] → q ∈ [z, TI, TO, i1, i2, i3] := fun q m => by
      rcases (show q = z ∨ q = TO ∨ q = i1 ∨ q = i2 ∨ q = i3 by simpa using m) with e | e | e | e | e <;> rw [e] <;> simp
    have I2 : Inv X pins σ (upd H T (.tup [x, y, u])) { s with heap := h2, toks := tk } :=
      I.turnedNew (t' := tk) (ch := [z, TI, TO, i1, i2, i3]) (fun q o hb r => k2' q o (fun m => hb (mem q m)) (kk2 q o (fun m => hb (mem q m)) r)) hf hT ok
    obtain ⟨hz', hTI', hTO', ⟨k1', _⟩, ⟨k2'', _⟩, ⟨k3', _⟩⟩ := st2
    refine ⟨.ref T, _, I2, rfl, ⟨T, x, y, u, rfl, I.hok.fresh hT, rfl, fun l hl => by rw [inj_k I hl q1]; exact hx, fun l hl => by rw [inj_k I hl q2]; exact hy, fun l hl => by rw [inj_k I hl q3]; exact hu⟩, ⟨hz', hTI', hTO', k1', k2'', k3'⟩, fun q hq => ?_⟩
    have lq : q < s.heap.objs.size := by
      rcases (show q = z ∨ q = TI ∨ q = TO ∨ q = i1 ∨ q = i2 ∨ q = i3 by simpa using hq) with e | e | e | e | e | e <;> rw [e] <;> assumption
    rw [upd_ne (Nat.ne_of_lt (Nat.lt_of_lt_of_le lq hT))]
    exact (hf q hq).1
  done := by
    intro X eP eW eK hc i pins s σ H E I hf st hg
    subst eP eW eK
    obtain ⟨hz, hTI, hTO, k1, k2, k3⟩ := st
    obtain ⟨xs, ys, zs, q1, q2, q3, hx, hy, hu⟩ := hg
    obtain ⟨its1, rv1, p1⟩ := vals_k I q1
    obtain ⟨its2, rv2, p2⟩ := vals_k I q2
    obtain ⟨its3, rv3, p3⟩ := vals_k I q3
    have hh : X.A.in1.handled = none := I.ok.hd hc
    have D1 := draws_k (prog := X.prog) (w := X.w) (A := X.A.in1) t1 hh i1 a n1 its1.toArray
    have D2 := draws_k (prog := X.prog) (w := X.w) (A := X.A.in1) t2 hh i2 b n2 its2.toArray
    have D3 := draws_k (prog := X.prog) (w := X.w) (A := X.A.in1) t3 hh i3 c n3 its3.toArray
    have W := WalksT.zipD3 S D1 D2 D3
    have h1 := rv1.length
    have h2 := rv2.length
    have h3 := rv3.length
    have e : min (min its1.toArray.size its2.toArray.size) its3.toArray.size = i := by simp; omega
    rw [← e] at k1 k2 k3
    refine W.done s _ E ⟨hz, hTI, hTO, ⟨k1, p1⟩, ⟨k2, p2⟩, ⟨k3, p3⟩⟩ fun h' tk kk => ⟨rfl, I.turnedL (t' := tk) (ch := [z, TI, TO, i1, i2, i3]) (fun q o hb r => kk q o (fun m => hb ?_) r) hf⟩
    rcases (show q = z ∨ q = TO ∨ q = i1 ∨ q = i2 ∨ q = i3 by simpa using m) with e | e | e | e | e <;> rw [e] <;> simp
  self := fun A i s Q E st h => wpAny_pyIter_zip st.1 h
def iZip3 (K : PySem.W.Frag) (ta : TA) : TI := fun σ H R => ta σ H fun vs H1 => ∃ a b c t1 t2 t3 xs ys zs, vs = [.ref a, .ref b, .ref c] ∧ sqK t1 K H1 a xs ∧ sqK t2 K H1 b ys ∧ sqK t3 K H1 c zs ∧ R (Itz3 t1 t2 t3 K a b c) H1
theorem pi_zip3 {X : Cx} {e e2 e3 : Expr} {ta : TA} {p pos tpos : Pos} {elts : List Expr} {kk : Nat} (hg : Gl X "zip") (hm : X.mg "zip" = none) (ha : PA X [e, e2, e3] ta)
    (hs : starEach [e, e2, e3] X.env = (false, eval e X.env) :: starEach [e2, e3] X.env := by rfl) (hpl : (backTo pos (starEach [e2, e3] X.env)).any (·.1) = false := by rfl) :
    PI X (.Tuple elts kk tpos) (.Call (.Name "zip" p) [e, e2, e3] [] pos) (iZip3 X.K ta) := by
  refine ⟨fun pins s σ H R I h => ?_⟩
  refine Call_ (ld_blt I hg hm PyProof.Rows.boot_zip (PyProof.Rows.callWith_type1 (thn (ha.run pos pins s σ H _ I h) fun us s1 ⟨vs, H1, I1, r1, q1⟩ => ?_) hs hpl))
  obtain ⟨a, b, c, t1, t2, t3, xs, ys, zs, ex, hx, hy, hz, q⟩ := q1
  subst ex
  cases r1 with
  | cons r rr =>
    cases rr with
    | cons r' rr =>
      cases rr with
      | cons r'' rr =>
        cases rr
        cases r
        cases r'
        cases r''
        obtain ⟨its1, rv1, p1⟩ := vals_k I1 hx
        obtain ⟨its2, rv2, p2⟩ := vals_k I1 hy
        obtain ⟨its3, rv3, p3⟩ := vals_k I1 hz
        have l1 := lt_k p1
        have l2 := lt_k p2
        have l3 := lt_k p3
        refine zip_begins3 (begins_k t1 a its1.toArray) (begins_k t2 b its2.toArray) (begins_k t3 c its3.toArray) p1 p2 p3 fun h' hZ hTI hTO g1 g2 g3 hsz hk => wpAny_pyIter_zip hZ ?_
        have I2 : Inv X pins σ H1 { s1 with heap := h' } := I1.kept (t' := s1.toks) hk
        have S := zip_sep3 (N := s1.heap.objs.size) (fp1 := [a]) (fp2 := [b]) (fp3 := [c]) (fun q hq => by rw [List.mem_singleton.mp hq]; exact l1) (fun q hq => by rw [List.mem_singleton.mp hq]; exact l2) (fun q hq => by rw [List.mem_singleton.mp hq]; exact l3)
        have ik : ∀ {t : Bool} {it a : Addr}, h'.get? it = some (obK t a) → itK t h' it a 0 := fun {t it a} g => by
          cases t
          · exact ⟨_, g, rfl, rfl⟩
          · exact ⟨_, g, rfl, rfl⟩
        refine ⟨s1.heap.objs.size + 5, [s1.heap.objs.size + 5, s1.heap.objs.size + 3, s1.heap.objs.size + 4, s1.heap.objs.size, s1.heap.objs.size + 1, s1.heap.objs.size + 2], _, _, H1, rfl, I2,
          turn_zip3 (t1 := t1) (t2 := t2) (t3 := t3) S (Nat.ne_of_lt l1) (Nat.ne_of_lt (Nat.lt_of_lt_of_le l2 (Nat.le_add_right _ _))) (Nat.ne_of_lt (Nat.lt_of_lt_of_le l3 (Nat.le_add_right _ _))), ⟨hZ, hTI, ⟨_, _, _, hTO⟩, ik g1, ik g2, ik g3⟩, fun q hq => ?_, q⟩
        have hle : s1.heap.objs.size ≤ q := by
          rcases (show q = s1.heap.objs.size + 5 ∨ q = s1.heap.objs.size + 3 ∨ q = s1.heap.objs.size + 4 ∨ q = s1.heap.objs.size ∨ q = s1.heap.objs.size + 1 ∨ q = s1.heap.objs.size + 2 by simpa using hq) with e | e | e | e | e | e <;> rw [e]
          · exact Nat.le_add_right _ _
          · exact Nat.le_add_right _ _
          · exact Nat.le_add_right _ _
          · exact Nat.le_refl _
          · exact Nat.le_add_right _ _
          · exact Nat.le_add_right _ _
        exact I1.fpOk hle (I1.hok.fresh hle)
end Mini
set_option maxHeartbeats 2000000
/-! Mini: zip of two, each a list or a tuple. -/
namespace Mini
open PySem PySem.Spec PyProof.Rows L2
def Itz2 (t1 t2 : Bool) (K : PySem.W.Frag) (a b : Addr) : L2.It :=
  ⟨fun i H => ∃ (xs ys : List V) (x y : V), sqK t1 K H a xs ∧ sqK t2 K H b ys ∧ xs[i]? = some x ∧ ys[i]? = some y,
    fun i H v H' => ∃ T x y, v = .ref T ∧ H T = none ∧ H' = upd H T (.tup [x, y]) ∧ (∀ xs, sqK t1 K H a xs → xs[i]? = some x) ∧ ∀ ys, sqK t2 K H b ys → ys[i]? = some y,
    fun i H => ∃ xs ys : List V, sqK t1 K H a xs ∧ sqK t2 K H b ys ∧ xs.length = i ∧ ys.length = i⟩
theorem turn_zip2 {P : Program} {w : World} {K : PySem.W.Frag} {elts : List Expr} {kk : Nat} {tpos : Pos} {t1 t2 : Bool} {a b z TI TO i1 i2 : Addr} (S : ZipSep2 z TI TO i1 i2 [i1, a] [i2, b]) (n1 : a ≠ i1) (n2 : b ≠ i2) :
    Turn P w K (.Tuple elts kk tpos) (Itz2 t1 t2 K a b) [z, TI, TO, i1, i2] z (fun i h => IsZip h z TI TO .none ∧ IsTupOf2 h TI (.ref i1) (.ref i2) ∧ (∃ x y, IsTupOf2 h TO x y) ∧ itK t1 h i1 a i ∧ itK t2 h i2 b i) where
  mem := by simp
  obj := fun i h st q hq => by
    obtain ⟨hz, hTI, ⟨x, y, hTO⟩, k1, k2⟩ := st
    rcases (show q = z ∨ q = TI ∨ q = TO ∨ q = i1 ∨ q = i2 by simpa using hq) with e | e | e | e | e
    · rw [e]; exact ⟨_, hz, fun v q => nomatch q⟩
    · rw [e]; exact ⟨_, hTI, fun v q => nomatch q⟩
    · rw [e]; exact ⟨_, hTO, fun v q => nomatch q⟩
    · rw [e]; exact ob_k k1
    · rw [e]; exact ob_k k2
  keep := fun i h h' st k => by
    obtain ⟨hz, hTI, ⟨x, y, hTO⟩, k1, k2⟩ := st
    exact ⟨k z (by simp) _ hz, k TI (by simp) _ hTI, ⟨x, y, k TO (by simp) _ hTO⟩, at_k k1 fun o q => k i1 (by simp) o q, at_k k2 fun o q => k i2 (by simp) o q⟩
  item := by
    intro X eP eW eK hc i pins s σ H E I hf st hg
    subst eP eW eK
    obtain ⟨hz, hTI, hTO, k1, k2⟩ := st
    obtain ⟨xs, ys, x, y, q1, q2, hx, hy⟩ := hg
    obtain ⟨its1, rv1, p1⟩ := vals_k I q1
    obtain ⟨its2, rv2, p2⟩ := vals_k I q2
    obtain ⟨v1, hv1, r1⟩ := rv1.get hx
    obtain ⟨v2, hv2, r2⟩ := rv2.get hy
    have hh : X.A.in1.handled = none := I.ok.hd hc
    have D1 := draws_k (prog := X.prog) (w := X.w) (A := X.A.in1) t1 hh i1 a n1 its1.toArray
    have D2 := draws_k (prog := X.prog) (w := X.w) (A := X.A.in1) t2 hh i2 b n2 its2.toArray
    have W := WalksT.zipD2 S D1 D2
    have lt1 : i < its1.length := (List.getElem?_eq_some_iff.mp hv1).1
    have lt2 : i < its2.length := (List.getElem?_eq_some_iff.mp hv2).1
    have lz : z < s.heap.objs.size := Heap.lt_size hz
    have lTI : TI < s.heap.objs.size := Heap.lt_size hTI
    have lTO : TO < s.heap.objs.size := by
      obtain ⟨_, _, q⟩ := hTO
      exact Heap.lt_size q
    have l1 : i1 < s.heap.objs.size := by obtain ⟨_, q, _⟩ := ob_k k1; exact Heap.lt_size q
    have l2 : i2 < s.heap.objs.size := by obtain ⟨_, q, _⟩ := ob_k k2; exact Heap.lt_size q
    refine W.item i s _ E (by simp; omega) ⟨hz, hTI, hTO, ⟨k1, p1⟩, ⟨k2, p2⟩⟩ fun T vals h' tk ⟨w1, w2, e1, e2, ev⟩ hT iT mid kk2 => ?_
    have f1 : w1 = v1 := by
      have : its1.toArray[i]? = some v1 := by simpa using hv1
      rw [this] at e1; exact (Option.some.inj e1).symm
    have f2 : w2 = v2 := by
      have : its2.toArray[i]? = some v2 := by simpa using hv2
      rw [this] at e2; exact (Option.some.inj e2).symm
    subst f1 f2 ev
    refine ⟨_, rfl, W.go elts kk tpos i T { s with heap := h', toks := tk } _ _ mid fun h2 st2 k2' => ?_⟩
    have nT := W.apart i T h' mid
    obtain ⟨oT, g1, g2, nn, g3⟩ := iT
    have ok : ObjOk X.prog X.w (upd H T (.tup [x, y])) h2 T (.tup [x, y]) :=
      ⟨by show 2 ≤ sizeLine; decide, [w1, w2], .cons r1 (.cons r2 .nil), ⟨oT, k2' T oT nT g1, g2, nn, g3⟩⟩
    have mem : ∀ q, q ∈ [z, TO, i1, i2] → q ∈ [z, TI, TO, i1, i2] := fun q m => by
      rcases (show q = z ∨ q = TO ∨ q = i1 ∨ q = i2 by simpa using m) with e | e | e | e <;> rw [e] <;> simp
    have I2 : Inv X pins σ (upd H T (.tup [x, y])) { s with heap := h2, toks := tk } :=
      I.turnedNew (t' := tk) (ch := [z, TI, TO, i1, i2]) (fun q o hb r => k2' q o (fun m => hb (mem q m)) (kk2 q o (fun m => hb (mem q m)) r)) hf hT ok
    obtain ⟨hz', hTI', hTO', ⟨k1', _⟩, ⟨k2'', _⟩⟩ := st2
    refine ⟨.ref T, _, I2, rfl, ⟨T, x, y, rfl, I.hok.fresh hT, rfl, fun l hl => by rw [inj_k I hl q1]; exact hx, fun l hl => by rw [inj_k I hl q2]; exact hy⟩, ⟨hz', hTI', hTO', k1', k2''⟩, fun q hq => ?_⟩
    have lq : q < s.heap.objs.size := by
      rcases (show q = z ∨ q = TI ∨ q = TO ∨ q = i1 ∨ q = i2 by simpa using hq) with e | e | e | e | e <;> rw [e] <;> assumption
    rw [upd_ne (Nat.ne_of_lt (Nat.lt_of_lt_of_le lq hT))]
    exact (hf q hq).1
  done := by
    intro X eP eW eK hc i pins s σ H E I hf st hg
    subst eP eW eK
    obtain ⟨hz, hTI, hTO, k1, k2⟩ := st
    obtain ⟨xs, ys, q1, q2, hx, hy⟩ := hg
    obtain ⟨its1, rv1, p1⟩ := vals_k I q1
    obtain ⟨its2, rv2, p2⟩ := vals_k I q2
    have hh : X.A.in1.handled = none := I.ok.hd hc
    have D1 := draws_k (prog := X.prog) (w := X.w) (A := X.A.in1) t1 hh i1 a n1 its1.toArray
    have D2 := draws_k (prog := X.prog) (w := X.w) (A := X.A.in1) t2 hh i2 b n2 its2.toArray
    have W := WalksT.zipD2 S D1 D2
    have h1 := rv1.length
    have h2 := rv2.length
    have e : min its1.toArray.size its2.toArray.size = i := by simp; omega
    rw [← e] at k1 k2
    refine W.done s _ E ⟨hz, hTI, hTO, ⟨k1, p1⟩, ⟨k2, p2⟩⟩ fun h' tk kk => ⟨rfl, I.turnedL (t' := tk) (ch := [z, TI, TO, i1, i2]) (fun q o hb r => kk q o (fun m => hb ?_) r) hf⟩
    rcases (show q = z ∨ q = TO ∨ q = i1 ∨ q = i2 by simpa using m) with e | e | e | e <;> rw [e] <;> simp
  self := fun A i s Q E st h => wpAny_pyIter_zip st.1 h
def iZip2 (K : PySem.W.Frag) (ta : TA) : TI := fun σ H R => ta σ H fun vs H1 => ∃ a b t1 t2 xs ys, vs = [.ref a, .ref b] ∧ sqK t1 K H1 a xs ∧ sqK t2 K H1 b ys ∧ R (Itz2 t1 t2 K a b) H1
theorem pi_zip2 {X : Cx} {e e2 : Expr} {ta : TA} {p pos tpos : Pos} {elts : List Expr} {kk : Nat} (hg : Gl X "zip") (hm : X.mg "zip" = none) (ha : PA X [e, e2] ta)
    (hs : starEach [e, e2] X.env = (false, eval e X.env) :: starEach [e2] X.env := by rfl) (hpl : (backTo pos (starEach [e2] X.env)).any (·.1) = false := by rfl) :
    PI X (.Tuple elts kk tpos) (.Call (.Name "zip" p) [e, e2] [] pos) (iZip2 X.K ta) := by
  refine ⟨fun pins s σ H R I h => ?_⟩
  refine Call_ (ld_blt I hg hm PyProof.Rows.boot_zip (PyProof.Rows.callWith_type1 (thn (ha.run pos pins s σ H _ I h) fun us s1 ⟨vs, H1, I1, r1, q1⟩ => ?_) hs hpl))
  obtain ⟨a, b, t1, t2, xs, ys, ex, hx, hy, q⟩ := q1
  subst ex
  cases r1 with
  | cons r rr =>
    cases rr with
    | cons r' rr =>
      cases rr
      cases r
      cases r'
      obtain ⟨its1, rv1, p1⟩ := vals_k I1 hx
      obtain ⟨its2, rv2, p2⟩ := vals_k I1 hy
      have l1 := lt_k p1
      have l2 := lt_k p2
      refine zip_begins2 (begins_k t1 a its1.toArray) (begins_k t2 b its2.toArray) p1 p2 fun h' hZ hTI hTO g1 g2 hsz hk => wpAny_pyIter_zip hZ ?_
      have I2 : Inv X pins σ H1 { s1 with heap := h' } := I1.kept (t' := s1.toks) hk
      have S := zip_sep2 (N := s1.heap.objs.size) (fp1 := [a]) (fp2 := [b]) (fun q hq => by rw [List.mem_singleton.mp hq]; exact l1) (fun q hq => by rw [List.mem_singleton.mp hq]; exact l2)
      have ik : ∀ {t : Bool} {it a : Addr}, h'.get? it = some (obK t a) → itK t h' it a 0 := fun {t it a} g => by
        cases t
        · exact ⟨_, g, rfl, rfl⟩
        · exact ⟨_, g, rfl, rfl⟩
      refine ⟨s1.heap.objs.size + 4, [s1.heap.objs.size + 4, s1.heap.objs.size + 2, s1.heap.objs.size + 3, s1.heap.objs.size, s1.heap.objs.size + 1], _, _, H1, rfl, I2,
        turn_zip2 (t1 := t1) (t2 := t2) S (Nat.ne_of_lt l1) (Nat.ne_of_lt (Nat.lt_of_lt_of_le l2 (Nat.le_add_right _ _))), ⟨hZ, hTI, ⟨_, _, hTO⟩, ik g1, ik g2⟩, fun q hq => ?_, q⟩
      have hle : s1.heap.objs.size ≤ q := by
        rcases (show q = s1.heap.objs.size + 4 ∨ q = s1.heap.objs.size + 2 ∨ q = s1.heap.objs.size + 3 ∨ q = s1.heap.objs.size ∨ q = s1.heap.objs.size + 1 by simpa using hq) with e | e | e | e | e <;> rw [e]
        · exact Nat.le_add_right _ _
        · exact Nat.le_add_right _ _
        · exact Nat.le_add_right _ _
        · exact Nat.le_refl _
        · exact Nat.le_add_right _ _
      exact I1.fpOk hle (I1.hok.fresh hle)
theorem pi_or {X : Cx} {tg e : Expr} {t1 t2 : TI} (h1 : PI X tg e t1) (h2 : PI X tg e t2) : PI X tg e fun σ H R => t1 σ H R ∨ t2 σ H R := ⟨fun pins s σ H R I h => h.elim (h1.run pins s σ H R I) (h2.run pins s σ H R I)⟩
end Mini
set_option maxHeartbeats 2000000
/-! Mini: what a loop walks; targets. -/
namespace Mini
open PySem PySem.Spec PyProof.Rows L2

variable {G : Gx} {A A0 : Ab} {X : Cx} {W : WX} {p : Pg} {σ : L2.St} {ρ : Loc}
/-- src tells what J walks -/
def StpOk (G : Gx) (B : Ab) (J : L2.It) (i : Nat) : Stp → Prop
  | .item d => J.go i B.H ∧ ∀ x H', J.yld i B.H x H' → Grow G B ⟨B.μ, B.S, H'⟩ ∧ HR G ⟨B.μ, B.S, H'⟩ ∧ Rep G ⟨B.μ, B.S, H'⟩ d x
  | .stop => J.stop i B.H
  | .bad => True
def SrcOk (G : Gx) (A : Ab) (J : L2.It) (src : Src) : Prop := ∀ B, Grow G A B → HR G B → ∀ i, StpOk G B J i (src i B.S)
def tI (G : Gx) (p : Pg) (W : WX) (it : Mini.It) : TI := fun σ H R => ∃ A ρ, A.H = H ∧ HR G A ∧ ER G A ρ σ ∧
  (evI p it ρ A.S).sat (fun src S' => ∀ μ H' J, Grow G A ⟨μ, S', H'⟩ → HR G ⟨μ, S', H'⟩ → SrcOk G ⟨μ, S', H'⟩ J src → R J H') (XW G A (xw W σ))
/-- an iterable's end -/
def FinI (G : Gx) (A : Ab) (R : L2.It → Hp → Prop) (src : Src) (S : Sto) : Prop := ∀ μ H' J, Grow G A ⟨μ, S, H'⟩ → HR G ⟨μ, S, H'⟩ → SrcOk G ⟨μ, S, H'⟩ J src → R J H'
theorem same_ok {B : Ab} (hB : HR G B) {H' : Hp} (e : H' = B.H) {d : D} {v : V} (r : Rep G B d v) : Grow G B ⟨B.μ, B.S, H'⟩ ∧ HR G ⟨B.μ, B.S, H'⟩ ∧ Rep G ⟨B.μ, B.S, H'⟩ d v := by
  subst e
  exact ⟨.refl, hB, r⟩
theorem src_list {n : Nat} (hA : HR G A) (hn : n < A.S.length) : SrcOk G A (Itl G.K (A.μ n)) (srcR n) := by
  intro B g hB i
  show StpOk G B _ i (match seqAt B.S n with
    | some xs => srcL xs i B.S
    | none => .bad)
  cases q : seqAt B.S n with
  | none => exact True.intro
  | some ds =>
    obtain ⟨xs, h1, h2⟩ := hB.seqAt q
    rw [g.μ n hn] at h1
    show StpOk G B _ i (match ds[i]? with
      | some d => .item d
      | none => .stop)
    cases qi : ds[i]? with
    | none =>
      refine ⟨xs, h1, ?_⟩
      rw [h2.length]
      exact List.getElem?_eq_none_iff.mp qi
    | some d =>
      obtain ⟨x, hx, rx⟩ := h2.get qi
      refine ⟨⟨xs, x, h1, hx⟩, fun y H' ⟨e, hy⟩ => same_ok hB e ?_⟩
      have := hy xs h1
      rw [hx] at this
      cases this
      exact rx
theorem src_tup {ds : List D} {xs : List V} {a : Addr} (ht : SqT G.K A.H a xs) (r : RepL G A ds xs) : SrcOk G A (Itt G.K a) (srcL ds) := by
  intro B g hB i
  have h1 := g.tup a xs ht
  have h2 := r.mono g
  show StpOk G B _ i (match ds[i]? with
    | some d => .item d
    | none => .stop)
  cases qi : ds[i]? with
  | none =>
    refine ⟨xs, h1, ?_⟩
    rw [h2.length]
    exact List.getElem?_eq_none_iff.mp qi
  | some d =>
    obtain ⟨x, hx, rx⟩ := h2.get qi
    refine ⟨⟨xs, x, h1, hx⟩, fun y H' ⟨e, hy⟩ => same_ok hB e ?_⟩
    have := hy xs h1
    rw [hx] at this
    cases this
    exact rx
theorem src_rng {lo : Int} {n : Nat} : SrcOk G A (Itr lo n) (rngL lo n) := by
  intro B g hB i
  show StpOk G B _ i (if i < n then .item (.int (lo + (i : Int))) else .stop)
  split
  · rename_i h
    exact ⟨h, fun y H' ⟨e, hy⟩ => same_ok hB e hy⟩
  · rename_i h
    exact Nat.le_of_not_lt h
theorem src_rngC {lo c : Int} {n : Nat} : SrcOk G A (Itc lo c n) (rngC lo c n) := by
  intro B g hB i
  show StpOk G B _ i (if i < n then .item (.int (lo + (i : Int) * c)) else .stop)
  split
  · rename_i h
    exact ⟨h, fun y H' ⟨e, hy⟩ => same_ok hB e hy⟩
  · rename_i h
    exact Nat.le_of_not_lt h
/-- a list or a tuple, one reading -/
def iLT (K : PySem.W.Frag) (tl : TE) : TI := fun σ H R => tl σ H fun x H1 => ∃ a, x = .ref a ∧ (((∃ xs, SqL K H1 a xs) ∧ R (Itl K a) H1) ∨ ((∃ xs, SqT K H1 a xs) ∧ R (Itt K a) H1))
theorem pi_lt {tg l : Expr} {tl : TE} (hl : PE X l tl) : PI X tg l (iLT X.K tl) := by
  refine ⟨fun pins s σ H R I h => ?_⟩
  refine thn (hl.run pins s σ H _ I h) fun v s1 ⟨x, H1, I1, r1, q1⟩ => ?_
  obtain ⟨a, e, q⟩ := q1
  subst e
  cases r1
  have fr : ∀ b, b ∈ [s1.heap.objs.size] → FpOk X pins H1 b := fun b hb => by
    have e : b = s1.heap.objs.size := by simpa using hb
    subst e
    exact I1.fpOk (Nat.le_refl _) (I1.hok.fresh (Nat.le_refl _))
  rcases q with ⟨⟨xs, hq⟩, q⟩ | ⟨⟨xs, hq⟩, q⟩
  · obtain ⟨its, rv, p, hz⟩ := I1.list hq
    refine wpAny_pyIter_list p.isList ?_
    exact ⟨s1.heap.objs.size, [s1.heap.objs.size], _, _, H1, rfl, I1.kept (t' := s1.toks) fun b o e => Heap.get?_push_of_some _ e, turn_list a _, ⟨_, Heap.get?_push_size _ rfl, rfl, rfl⟩, fr, q⟩
  · obtain ⟨its, rv, p, hz⟩ := I1.tuple hq
    refine wpAny_pyIter_tuple (show s1.heap.IsTuple a its.toArray from p) ?_
    exact ⟨s1.heap.objs.size, [s1.heap.objs.size], _, _, H1, rfl, I1.kept (t' := s1.toks) fun b o e => Heap.get?_push_of_some _ e, turn_tuple a _, ⟨_, Heap.get?_push_size _ rfl, rfl, rfl⟩, fr, q⟩
theorem PI.imp {tg e : Expr} {t t' : TI} (h : PI X tg e t) (k : ∀ σ H Q, t' σ H Q → t σ H Q) : PI X tg e t' := ⟨fun pins s σ H Q I q => h.run pins s σ H Q I (k _ _ _ q)⟩

/-- one argument, two, three: what the list's run gives -/
theorem ev1 {β : Type} {x : Ex} {k : D → Sto → Res β} {S : Sto} {P : β → Sto → Prop} {E : Nat → List (Str × D) → Sto → Prop} (h : ((evE p x ρ S).bind k).sat P E) : (evEs p [x] ρ S).sat (fun ds S' => ∃ d, ds = [d] ∧ (k d S').sat P E) E := by
  show ((evE p x ρ S).bind fun d S1 => (Res.ok [] S1).bind fun ds S2 => Res.ok (d :: ds) S2).sat _ E
  cases q : evE p x ρ S with
  | ok d S1 => rw [q] at h; exact ⟨d, rfl, h⟩
  | ex c f S1 => rw [q] at h; exact h
  | no => rw [q] at h; exact h
theorem evc {β : Type} {x : Ex} {xs : List Ex} {k : D → Sto → Res β} {S : Sto} {P : β → Sto → Prop} {E : Nat → List (Str × D) → Sto → Prop} {P' : D → List D → Sto → Prop} (h : ((evE p x ρ S).bind k).sat P E)
    (hk : ∀ d S1, (k d S1).sat P E → (evEs p xs ρ S1).sat (fun ds S' => P' d ds S') E) : (evEs p (x :: xs) ρ S).sat (fun ds S' => ∃ d es, ds = d :: es ∧ P' d es S') E := by
  show ((evE p x ρ S).bind fun d S1 => (evEs p xs ρ S1).bind fun ds S2 => Res.ok (d :: ds) S2).sat _ E
  cases q : evE p x ρ S with
  | ok d S1 =>
    rw [q] at h
    have h2 := hk d S1 h
    show ((evEs p xs ρ S1).bind fun ds S2 => Res.ok (d :: ds) S2).sat _ E
    cases q2 : evEs p xs ρ S1 with
    | ok ds S2 => rw [q2] at h2; exact ⟨d, ds, rfl, h2⟩
    | ex c f S2 => rw [q2] at h2; exact h2
    | no => rw [q2] at h2; exact h2
  | ex c f S1 => rw [q] at h; exact h
  | no => rw [q] at h; exact h
theorem tA_of {xs : List Ex} {Q : List V → Hp → Prop} (hr : HR G A) (er : ER G A ρ σ) {P : List D → Sto → Prop} (h : (evEs p xs ρ A.S).sat P (XW G A (xw W σ))) (hk : ∀ B ds vs, Grow G A B → HR G B → RepL G B ds vs → P ds B.S → Q vs B.H) : tA G p W xs σ A.H Q :=
  ⟨A, ρ, rfl, hr, er, Res.sat_mono h (fun ds S q μ vs H g h1 r => hk ⟨μ, S, H⟩ ds vs g h1 r q) fun _ _ _ z => z⟩
theorem inR_ok {i : Int} (h : inR i = true) : -(2 ^ 62) ≤ i ∧ i < 2 ^ 62 := by
  unfold inR at h
  rw [Bool.and_eq_true, decide_eq_true_eq, decide_eq_true_eq] at h
  exact h
theorem si_val {tg e : Expr} {x : Ex} (hK : X.K = G.K) (he : PE X e (tE G p W x)) : PI X tg e (tI G p W (.val x)) := by
  refine PI.imp (pi_lt he) fun σ H R ⟨A, ρ, hH, hr, er, h⟩ => ?_
  subst hH
  refine tR_bind .refl hr er rfl (show ((evE p x ρ A.S).bind fun d S1 => ofOpt S1 (srcOf S1 d)).sat _ _ from h) fun B d v g hB rd q => ?_
  obtain ⟨src, hs, f⟩ := sat_ofOpt' q
  cases d with
  | ref n =>
    obtain ⟨h1, rfl⟩ := rd
    have hs : (match seqAt B.S n with
      | some _ => some (srcR n)
      | none => none) = some src := hs
    cases hq : seqAt B.S n with
    | none => rw [hq] at hs; cases hs
    | some ds =>
      rw [hq] at hs
      cases hs
      obtain ⟨xs, h2, h3⟩ := hB.seqAt hq
      rw [hK]
      exact ⟨_, rfl, .inl ⟨⟨xs, h2⟩, f B.μ B.H _ g hB (src_list hB h1)⟩⟩
  | tup ds =>
    obtain ⟨a, xs, rfl, h1, h2⟩ := rd
    have : some (srcL ds) = some src := hs
    cases this
    rw [hK]
    exact ⟨a, rfl, .inr ⟨⟨xs, h1⟩, f B.μ B.H _ g hB (src_tup h1 h2)⟩⟩
  | _ => cases hs
theorem si_rng1 {tg a : Expr} {x : Ex} {p1 pos : Pos} (gl : Gl X "range") (hm : X.mg "range" = none) (hs : noStar a = true) (ha : PA X [a] (tA G p W [x])) : PI X tg (.Call (.Name "range" p1) [a] [] pos) (tI G p W (.rng1 x)) := by
  refine PI.imp (pi_range1 gl hm ha (star_cons hs)) fun σ H R ⟨A, ρ, hH, hr, er, h⟩ => ?_
  subst hH
  refine tA_of hr er (ev1 (show ((evE p x ρ A.S).bind fun d S1 => ofOpt S1 (rng1E d)).sat _ _ from h)) fun B ds vs g hB rs ⟨d, e, q⟩ => ?_
  subst e
  obtain ⟨v, ws, rfl, rv, rn⟩ := rs.uncons
  rw [rn.nil_iff]
  obtain ⟨src, hs, f⟩ := sat_ofOpt' q
  cases d with
  | int i =>
    have hs : (if inR i then some (rngL 0 i.toNat) else none) = some src := hs
    split at hs
    · rename_i hi
      cases hs
      obtain ⟨i1, i2⟩ := inR_ok hi
      exact ⟨i, by rw [show v = .int i from rv], i1, i2, f B.μ B.H _ g hB src_rng⟩
    · cases hs
  | _ => cases hs
theorem si_rng2 {tg a b : Expr} {x y : Ex} {p1 pos : Pos} (gl : Gl X "range") (hm : X.mg "range" = none) (hs : noStar a = true) (hs2 : noStar b = true) (ha : PA X [a, b] (tA G p W [x, y])) : PI X tg (.Call (.Name "range" p1) [a, b] [] pos) (tI G p W (.rng2 x y)) := by
  refine PI.imp (pi_range2 gl hm ha (by rw [star_cons hs, star_cons hs2]; rfl) (star_cons hs2)) fun σ H R ⟨A, ρ, hH, hr, er, h⟩ => ?_
  subst hH
  refine tA_of hr er (evc (show ((evE p x ρ A.S).bind fun d S1 => (evE p y ρ S1).bind fun e S2 => ofOpt S2 (rng2E d e)).sat _ _ from h) fun d S1 z => ev1 z) fun B ds vs g hB rs ⟨d, es, e, d2, e2, q⟩ => ?_
  subst e e2
  obtain ⟨v, ws, rfl, rv, rn⟩ := rs.uncons
  obtain ⟨v2, ws2, rfl, rv2, rn2⟩ := rn.uncons
  rw [rn2.nil_iff]
  obtain ⟨src, hs, f⟩ := sat_ofOpt' q
  cases d with
  | int i =>
    cases d2 with
    | int j =>
      have hs : (if inR i && inR j then some (rngL i (j - i).toNat) else none) = some src := hs
      split at hs
      · rename_i hi
        cases hs
        rw [Bool.and_eq_true] at hi
        obtain ⟨i1, i2⟩ := inR_ok hi.1
        obtain ⟨j1, j2⟩ := inR_ok hi.2
        exact ⟨i, j, by rw [show v = .int i from rv, show v2 = .int j from rv2], ⟨i1, i2, j1, j2⟩, f B.μ B.H _ g hB src_rng⟩
      · cases hs
    | _ => cases hs
  | _ => cases hs
theorem si_rng3 {tg a b c : Expr} {x y z : Ex} {p1 pos : Pos} (gl : Gl X "range") (hm : X.mg "range" = none) (hs : noStar a = true) (hs2 : noStar b = true) (hs3 : noStar c = true) (ha : PA X [a, b, c] (tA G p W [x, y, z])) :
    PI X tg (.Call (.Name "range" p1) [a, b, c] [] pos) (tI G p W (.rng3 x y z)) := by
  refine PI.imp (pi_range3 gl hm ha (star_cons hs) (star_all (by simp [hs2, hs3]))) fun σ H R ⟨A, ρ, hH, hr, er, h⟩ => ?_
  subst hH
  refine tA_of hr er (evc (show ((evE p x ρ A.S).bind fun d S1 => (evE p y ρ S1).bind fun e S2 => (evE p z ρ S2).bind fun u S3 => ofOpt S3 (rng3E d e u)).sat _ _ from h) fun d S1 q => evc q fun e S2 q2 => ev1 q2) fun B ds vs g hB rs ⟨d, es, e, d2, es2, e2, d3, e3, q⟩ => ?_
  subst e e2 e3
  obtain ⟨v, ws, rfl, rv, rn⟩ := rs.uncons
  obtain ⟨v2, ws2, rfl, rv2, rn2⟩ := rn.uncons
  obtain ⟨v3, ws3, rfl, rv3, rn3⟩ := rn2.uncons
  rw [rn3.nil_iff]
  obtain ⟨src, hs, f⟩ := sat_ofOpt' q
  cases d with
  | int i =>
    cases d2 with
    | int j =>
      cases d3 with
      | int c =>
        have hs : (if c = -1 ∧ inR i ∧ inR j then some (rngC i (-1) (i - j).toNat) else none) = some src := hs
        split at hs
        · rename_i hi
          cases hs
          obtain ⟨hc, hi, hj⟩ := hi
          subst hc
          obtain ⟨i1, i2⟩ := inR_ok hi
          obtain ⟨j1, j2⟩ := inR_ok hj
          exact ⟨i, j, -1, _, by rw [show v = .int i from rv, show v2 = .int j from rv2, show v3 = .int (-1) from rv3], RgC.neg i1 i2 j1 j2, f B.μ B.H _ g hB src_rngC⟩
        · cases hs
      | _ => cases hs
    | _ => cases hs
  | _ => cases hs

/-! ### pairs -/
theorem pair_ok {B : Ab} (hB : HR G B) {T : Addr} {x y : V} {d e : D} (hT : B.H T = none) (rx : Rep G B d x) (ry : Rep G B e y) :
    Grow G B ⟨B.μ, B.S, upd B.H T (.tup [x, y])⟩ ∧ HR G ⟨B.μ, B.S, upd B.H T (.tup [x, y])⟩ ∧ Rep G ⟨B.μ, B.S, upd B.H T (.tup [x, y])⟩ (.tup [d, e]) (.ref T) :=
  ⟨.lay hT, hB.lay hT, T, [x, y], rfl, .of upd_same, .cons (rx.mono (.lay hT)) (.cons (ry.mono (.lay hT)) .nil)⟩
theorem src_zipL {m n : Nat} (hA : HR G A) (hm : m < A.S.length) (hn : n < A.S.length) : SrcOk G A (Itz G.K (A.μ m) (A.μ n)) (pairS (srcR m) (srcR n)) := by
  intro B g hB i
  have e : pairS (srcR m) (srcR n) i B.S = (match srcR m i B.S, srcR n i B.S with
    | .item a, .item b => .item (.tup [a, b])
    | .stop, .item _ => .stop
    | .item _, .stop => .stop
    | .stop, .stop => .stop
    | _, _ => .bad) := rfl
  rw [e]
  have key : ∀ k, k < A.S.length → srcR k i B.S = .bad ∨ ∃ ds xs, SqL G.K B.H (A.μ k) xs ∧ RepL G B ds xs ∧ ((∃ d, ds[i]? = some d ∧ srcR k i B.S = .item d) ∨ (ds[i]? = none ∧ srcR k i B.S = .stop)) := by
    intro k hk
    cases q : seqAt B.S k with
    | none => left; show (match seqAt B.S k with
        | some xs => srcL xs i B.S
        | none => .bad) = .bad; rw [q]
    | some ds =>
      right
      obtain ⟨xs, h1, h2⟩ := hB.seqAt q
      rw [g.μ k hk] at h1
      refine ⟨ds, xs, h1, h2, ?_⟩
      have e2 : srcR k i B.S = (match ds[i]? with
        | some d => .item d
        | none => .stop) := by
        show (match seqAt B.S k with
        | some xs => srcL xs i B.S
        | none => .bad) = _
        rw [q]; rfl
      cases qi : ds[i]? with
      | none => right; rw [qi] at e2; exact ⟨rfl, e2⟩
      | some d => left; rw [qi] at e2; exact ⟨d, rfl, e2⟩
  rcases key m hm with z | ⟨ds, xs, h1, r1, ⟨d, k1, z⟩ | ⟨k1, z⟩⟩ <;> rcases key n hn with z2 | ⟨es, ys, h2, r2, ⟨e', k2, z2⟩ | ⟨k2, z2⟩⟩ <;> rw [z, z2]
  · exact True.intro
  · exact True.intro
  · exact True.intro
  · exact True.intro
  · obtain ⟨x, hx, rx⟩ := r1.get k1
    obtain ⟨y, hy, ry⟩ := r2.get k2
    refine ⟨⟨xs, ys, x, y, h1, h2, hx, hy⟩, fun u H' ⟨T, x', y', e1, hT, e2, f1, f2⟩ => ?_⟩
    have := f1 xs h1
    rw [hx] at this; cases this
    have := f2 ys h2
    rw [hy] at this; cases this
    subst e1 e2
    exact pair_ok hB hT rx ry
  · exact ⟨xs, ys, h1, h2, .inr (by rw [r2.length]; exact List.getElem?_eq_none_iff.mp k2)⟩
  · exact True.intro
  · exact ⟨xs, ys, h1, h2, .inl (by rw [r1.length]; exact List.getElem?_eq_none_iff.mp k1)⟩
  · exact ⟨xs, ys, h1, h2, .inl (by rw [r1.length]; exact List.getElem?_eq_none_iff.mp k1)⟩
theorem src_zipT {ds es : List D} {xs ys : List V} {a b : Addr} (ht : SqT G.K A.H a xs) (r : RepL G A ds xs) (ht2 : SqT G.K A.H b ys) (r2 : RepL G A es ys) : SrcOk G A (RZ.ItzT G.K a b) (pairS (srcL ds) (srcL es)) := by
  intro B g hB i
  have h1 := g.tup a xs ht
  have h2 := g.tup b ys ht2
  have r1 := r.mono g
  have r2 := r2.mono g
  have e : pairS (srcL ds) (srcL es) i B.S = (match srcL ds i B.S, srcL es i B.S with
    | .item a, .item b => .item (.tup [a, b])
    | .stop, .item _ => .stop
    | .item _, .stop => .stop
    | .stop, .stop => .stop
    | _, _ => .bad) := rfl
  have e3 : ∀ fs : List D, srcL fs i B.S = (match fs[i]? with
        | some d => .item d
        | none => .stop) := fun _ => rfl
  rw [e, e3, e3]
  cases k1 : ds[i]? with
  | none =>
    cases k2 : es[i]? with
    | none => exact ⟨xs, ys, h1, h2, .inl (by rw [r1.length]; exact List.getElem?_eq_none_iff.mp k1)⟩
    | some e' => exact ⟨xs, ys, h1, h2, .inl (by rw [r1.length]; exact List.getElem?_eq_none_iff.mp k1)⟩
  | some d =>
    cases k2 : es[i]? with
    | none => exact ⟨xs, ys, h1, h2, .inr (by rw [r2.length]; exact List.getElem?_eq_none_iff.mp k2)⟩
    | some e' =>
      obtain ⟨x, hx, rx⟩ := r1.get k1
      obtain ⟨y, hy, ry⟩ := r2.get k2
      refine ⟨⟨xs, ys, x, y, h1, h2, hx, hy⟩, fun u H' ⟨T, x', y', e1, hT, e2, f1, f2⟩ => ?_⟩
      have := f1 xs h1
      rw [hx] at this; cases this
      have := f2 ys h2
      rw [hy] at this; cases this
      subst e1 e2
      exact pair_ok hB hT rx ry
theorem src_enum {n : Nat} (hA : HR G A) (hn : n < A.S.length) : SrcOk G A (Ite G.K (A.μ n)) (enumS (srcR n)) := by
  intro B g hB i
  have e : enumS (srcR n) i B.S = (match srcR n i B.S with
    | .item a => .item (.tup [.int (i : Int), a])
    | .stop => .stop
    | .bad => .bad) := rfl
  rw [e]
  have e2 : srcR n i B.S = (match seqAt B.S n with
    | some xs => srcL xs i B.S
    | none => .bad) := rfl
  rw [e2]
  cases q : seqAt B.S n with
  | none => exact True.intro
  | some ds =>
    obtain ⟨xs, h1, h2⟩ := hB.seqAt q
    rw [g.μ n hn] at h1
    have e3 : srcL ds i B.S = (match ds[i]? with
        | some d => .item d
        | none => .stop) := rfl
    show StpOk G B _ i (match srcL ds i B.S with
    | .item a => .item (.tup [.int (i : Int), a])
    | .stop => .stop
    | .bad => .bad)
    rw [e3]
    cases qi : ds[i]? with
    | none => exact ⟨xs, h1, by rw [h2.length]; exact List.getElem?_eq_none_iff.mp qi⟩
    | some d =>
      obtain ⟨x, hx, rx⟩ := h2.get qi
      refine ⟨⟨xs, x, h1, hx⟩, fun u H' ⟨T, x', e1, hT, e2, f1⟩ => ?_⟩
      have := f1 xs h1
      rw [hx] at this; cases this
      subst e1 e2
      exact pair_ok hB hT (show Rep G B (.int (i : Int)) (.int (i : Nat)) from rfl) rx
theorem src_enumT {ds : List D} {xs : List V} {a : Addr} (ht : SqT G.K A.H a xs) (r : RepL G A ds xs) : SrcOk G A (IteT G.K a) (enumS (srcL ds)) := by
  intro B g hB i
  have h1 := g.tup a xs ht
  have r1 := r.mono g
  have e : enumS (srcL ds) i B.S = (match (match ds[i]? with
        | some d => Stp.item d
        | none => .stop) with
    | .item a => .item (.tup [.int (i : Int), a])
    | .stop => .stop
    | .bad => .bad) := rfl
  rw [e]
  cases qi : ds[i]? with
  | none => exact ⟨xs, h1, by rw [r1.length]; exact List.getElem?_eq_none_iff.mp qi⟩
  | some d =>
    obtain ⟨x, hx, rx⟩ := r1.get qi
    refine ⟨⟨xs, x, h1, hx⟩, fun u H' ⟨T, x', e1, hT, e2, f1⟩ => ?_⟩
    have := f1 xs h1
    rw [hx] at this; cases this
    subst e1 e2
    exact pair_ok hB hT (show Rep G B (.int (i : Int)) (.int (i : Nat)) from rfl) rx
theorem seq_some {S : Sto} {n : Nat} {ds : List D} (h : seqAt S n = some ds) : n < S.length := by
  unfold seqAt at h
  cases q : S[n]? with
  | none => rw [q] at h; cases h
  | some c => exact (List.getElem?_eq_some_iff.mp q).1
def tupK : D → Bool
  | .tup _ => true
  | _ => false
theorem row_k {B : Ab} {d : D} {v : V} {ds : List D} (hB : HR G B) (r : Rep G B d v) (h : rowOf B.S d = some ds) : ∃ a xs, v = .ref a ∧ sqK (tupK d) G.K B.H a xs ∧ RepL G B ds xs := by
  cases d with
  | tup es =>
    cases (show some es = some ds from h)
    obtain ⟨a, xs, e, h1, h2⟩ := r
    exact ⟨a, xs, e, h1, h2⟩
  | ref n =>
    obtain ⟨_, e⟩ := r
    obtain ⟨xs, h1, h2⟩ := hB.seqAt (show seqAt B.S n = some ds from h)
    exact ⟨_, xs, e, h1, h2⟩
  | _ => cases h
theorem duo_ok {B : Ab} (hB : HR G B) {T : Addr} {x y : V} {d e : D} (hT : B.H T = none) (rx : Rep G B d x) (ry : Rep G B e y) :
    Grow G B ⟨B.μ, B.S, upd B.H T (.tup [x, y])⟩ ∧ HR G ⟨B.μ, B.S, upd B.H T (.tup [x, y])⟩ ∧ Rep G ⟨B.μ, B.S, upd B.H T (.tup [x, y])⟩ (.tup [d, e]) (.ref T) :=
  ⟨.lay hT, hB.lay hT, T, [x, y], rfl, .of upd_same, .cons (rx.mono (.lay hT)) (.cons (ry.mono (.lay hT)) .nil)⟩
theorem src_zip2 {d e : D} {a b : Addr} (r1 : Rep G A d (.ref a)) (r2 : Rep G A e (.ref b)) : SrcOk G A (Itz2 (tupK d) (tupK e) G.K a b) (zip2S d e) := by
  intro B g hB i
  have r1 := r1.mono g
  have r2 := r2.mono g
  have ee : zip2S d e i B.S = (match rowOf B.S d, rowOf B.S e with
    | some xs, some ys => (match xs[i]?, ys[i]? with
      | some x, some y => Stp.item (.tup [x, y])
      | none, none => if xs.length = i ∧ ys.length = i then .stop else .bad
      | _, _ => .bad)
    | _, _ => .bad) := rfl
  rw [ee]
  cases q1 : rowOf B.S d with
  | none => exact True.intro
  | some ds =>
    cases q2 : rowOf B.S e with
    | none => exact True.intro
    | some es =>
      obtain ⟨_, xs, e1, h1, k1⟩ := row_k hB r1 q1
      cases e1
      obtain ⟨_, ys, e2, h2, k2⟩ := row_k hB r2 q2
      cases e2
      dsimp only
      cases g1 : ds[i]? with
      | none =>
        cases g2 : es[i]? with
        | none =>
          dsimp only
          split
          · rename_i hl
            exact ⟨xs, ys, h1, h2, by rw [k1.length]; exact hl.1, by rw [k2.length]; exact hl.2⟩
          · exact True.intro
        | some _ => exact True.intro
      | some x =>
        cases g2 : es[i]? with
        | none => exact True.intro
        | some y =>
          obtain ⟨vx, hx, rx⟩ := k1.get g1
          obtain ⟨vy, hy, ry⟩ := k2.get g2
          refine ⟨⟨xs, ys, vx, vy, h1, h2, hx, hy⟩, fun w H' ⟨T, x', y', e1, hT, e2, f1, f2⟩ => ?_⟩
          have := f1 xs h1
          rw [hx] at this; cases this
          have := f2 ys h2
          rw [hy] at this; cases this
          subst e1 e2
          exact duo_ok hB hT rx ry
theorem zipOf_mix {S : Sto} {d e : D} (h : mixD d e = true) : zipOf S d e = zip2Of S d e := by
  cases d <;> cases e <;> first | rfl | cases h
theorem sat_k {α β : Type} {r : Res α} {k k' : α → Sto → Res β} {P : β → Sto → Prop} {E : Nat → List (Str × D) → Sto → Prop} (h : (r.bind k).sat P E) (e : ∀ a S, r = .ok a S → k a S = k' a S) : (r.bind k').sat P E := by
  cases r with
  | ok a S =>
    show (k' a S).sat P E
    rw [← e a S rfl]; exact h
  | ex c f S => exact h
  | no => exact h
theorem si_zip {a b : Expr} {x y : Ex} {p1 pos tpos : Pos} {elts : List Expr} {kk : Nat} (hK : X.K = G.K) (gl : Gl X "zip") (hm : X.mg "zip" = none) (hs : noStar a = true) (hs2 : noStar b = true) (ha : PA X [a, b] (tA G p W [x, y])) :
    PI X (.Tuple elts kk tpos) (.Call (.Name "zip" p1) [a, b] [] pos) (tI G p W (.zip x y)) := by
  refine PI.imp (pi_or (RZ.pi_zipA gl hm ha (star_cons hs) (star_all (by simp [hs2]))) (pi_zip2 gl hm ha (star_cons hs) (star_all (by simp [hs2])))) fun σ H R ⟨A, ρ, hH, hr, er, h⟩ => ?_
  subst hH
  have h : ((evE p x ρ A.S).bind fun d S1 => (evE p y ρ S1).bind fun e S2 => ofOpt S2 (zipOf S2 d e)).sat _ _ := h
  by_cases mx : ∃ d S1 d2 S2, evE p x ρ A.S = .ok d S1 ∧ evE p y ρ S1 = .ok d2 S2 ∧ mixD d d2 = true
  · right
    have h' := sat_k (k' := fun d S1 => (evE p y ρ S1).bind fun e S2 => if mixD d e then ofOpt S2 (zip2Of S2 d e) else .no) h fun a S e => by
      obtain ⟨d, S1, d2, S2, e1, e2, hm⟩ := mx
      rw [e] at e1
      cases e1
      rw [e2]
      show ofOpt S2 (zipOf S2 a d2) = if mixD a d2 then ofOpt S2 (zip2Of S2 a d2) else .no
      rw [if_pos hm, zipOf_mix hm]
    refine tA_of hr er (evc h' fun d S1 z => ev1 z) fun B ds vs g hB rs ⟨d, es, e, d2, e2, q⟩ => ?_
    subst e e2
    obtain ⟨v, ws, rfl, rv, rn⟩ := rs.uncons
    obtain ⟨v2, ws2, rfl, rv2, rn2⟩ := rn.uncons
    rw [rn2.nil_iff]
    by_cases hm : mixD d d2 = true
    · rw [if_pos hm] at q
      obtain ⟨src, hs, f⟩ := sat_ofOpt' q
      rw [hK]
      have hs : (match rowOf B.S d, rowOf B.S d2 with
        | some _, some _ => some (zip2S d d2)
        | _, _ => none) = some src := hs
      cases q1 : rowOf B.S d with
      | none => rw [q1] at hs; cases hs
      | some xs1 =>
        cases q2 : rowOf B.S d2 with
        | none => rw [q1, q2] at hs; cases hs
        | some xs2 =>
          rw [q1, q2] at hs
          cases hs
          obtain ⟨a1, xs, rfl, h1, k1⟩ := row_k hB rv q1
          obtain ⟨a2, ys, rfl, h2, k2⟩ := row_k hB rv2 q2
          exact ⟨a1, a2, _, _, xs, ys, rfl, h1, h2, f B.μ B.H _ g hB (src_zip2 rv rv2)⟩
    · rw [if_neg hm] at q
      exact (show False from q).elim
  left
  have h' := sat_k (k' := fun d S1 => (evE p y ρ S1).bind fun e S2 => if mixD d e then .no else ofOpt S2 (zipOf S2 d e)) h fun a S e => by
    cases q : evE p y ρ S with
    | ok d2 S2 =>
      show ofOpt S2 (zipOf S2 a d2) = if mixD a d2 then .no else ofOpt S2 (zipOf S2 a d2)
      rw [if_neg (fun hm => mx ⟨a, S, d2, S2, e, q, hm⟩)]
    | ex c f S2 => rfl
    | no => rfl
  refine tA_of hr er (evc h' fun d S1 z => ev1 z) fun B ds vs g hB rs ⟨d, es, e, d2, e2, q⟩ => ?_
  subst e e2
  obtain ⟨v, ws, rfl, rv, rn⟩ := rs.uncons
  obtain ⟨v2, ws2, rfl, rv2, rn2⟩ := rn.uncons
  rw [rn2.nil_iff]
  by_cases mxd : mixD d d2 = true
  · rw [if_pos mxd] at q
    exact (show False from q).elim
  rw [if_neg mxd] at q
  obtain ⟨src, hs, f⟩ := sat_ofOpt' q
  rw [hK]
  cases d with
  | tup ds =>
    cases d2 with
    | tup es =>
      have : some (pairS (srcL ds) (srcL es)) = some src := hs
      cases this
      obtain ⟨a, xs, rfl, h1, r1⟩ := rv
      obtain ⟨b, ys, rfl, h2, r2⟩ := rv2
      exact ⟨a, b, xs, ys, rfl, .inr ⟨h1, h2, f B.μ B.H _ g hB (src_zipT h1 r1 h2 r2)⟩⟩
    | ref m => exact absurd rfl mxd
    | _ => cases hs
  | ref m =>
    cases d2 with
    | ref n =>
      have hs : (match seqAt B.S m, seqAt B.S n with
        | some _, some _ => some (pairS (srcR m) (srcR n))
        | _, _ => none) = some src := hs
      cases q1 : seqAt B.S m with
      | none => rw [q1] at hs; cases hs
      | some ds =>
        cases q2 : seqAt B.S n with
        | none => rw [q1, q2] at hs; cases hs
        | some es =>
          rw [q1, q2] at hs
          cases hs
          obtain ⟨xs, h1, r1⟩ := hB.seqAt q1
          obtain ⟨ys, h2, r2⟩ := hB.seqAt q2
          obtain ⟨m1, rfl⟩ := rv
          obtain ⟨n1, rfl⟩ := rv2
          exact ⟨_, _, xs, ys, rfl, .inl ⟨h1, h2, f B.μ B.H _ g hB (src_zipL hB m1 n1)⟩⟩
    | tup m => exact absurd rfl mxd
    | _ => cases hs
  | _ => cases d2 <;> cases hs
theorem trip_ok {B : Ab} (hB : HR G B) {T : Addr} {x y z : V} {d e f : D} (hT : B.H T = none) (rx : Rep G B d x) (ry : Rep G B e y) (rz : Rep G B f z) :
    Grow G B ⟨B.μ, B.S, upd B.H T (.tup [x, y, z])⟩ ∧ HR G ⟨B.μ, B.S, upd B.H T (.tup [x, y, z])⟩ ∧ Rep G ⟨B.μ, B.S, upd B.H T (.tup [x, y, z])⟩ (.tup [d, e, f]) (.ref T) :=
  ⟨.lay hT, hB.lay hT, T, [x, y, z], rfl, .of upd_same, .cons (rx.mono (.lay hT)) (.cons (ry.mono (.lay hT)) (.cons (rz.mono (.lay hT)) .nil))⟩
theorem src_zip3 {d e f : D} {a b c : Addr} (r1 : Rep G A d (.ref a)) (r2 : Rep G A e (.ref b)) (r3 : Rep G A f (.ref c)) : SrcOk G A (Itz3 (tupK d) (tupK e) (tupK f) G.K a b c) (zip3S d e f) := by
  intro B g hB i
  have r1 := r1.mono g
  have r2 := r2.mono g
  have r3 := r3.mono g
  have ee : zip3S d e f i B.S = (match rowOf B.S d, rowOf B.S e, rowOf B.S f with
    | some xs, some ys, some zs => (match xs[i]?, ys[i]?, zs[i]? with
      | some x, some y, some u => Stp.item (.tup [x, y, u])
      | none, none, none => if xs.length = i ∧ ys.length = i ∧ zs.length = i then .stop else .bad
      | _, _, _ => .bad)
    | _, _, _ => .bad) := rfl
  rw [ee]
  cases q1 : rowOf B.S d with
  | none => exact True.intro
  | some ds =>
    cases q2 : rowOf B.S e with
    | none => exact True.intro
    | some es =>
      cases q3 : rowOf B.S f with
      | none => exact True.intro
      | some fs =>
        obtain ⟨_, xs, e1, h1, k1⟩ := row_k hB r1 q1
        cases e1
        obtain ⟨_, ys, e2, h2, k2⟩ := row_k hB r2 q2
        cases e2
        obtain ⟨_, zs, e3, h3, k3⟩ := row_k hB r3 q3
        cases e3
        dsimp only
        cases g1 : ds[i]? with
        | none =>
          cases g2 : es[i]? with
          | none =>
            cases g3 : fs[i]? with
            | none =>
              dsimp only
              split
              · rename_i hl
                exact ⟨xs, ys, zs, h1, h2, h3, by rw [k1.length]; exact hl.1, by rw [k2.length]; exact hl.2.1, by rw [k3.length]; exact hl.2.2⟩
              · exact True.intro
            | some _ => exact True.intro
          | some _ => cases g3 : fs[i]? <;> exact True.intro
        | some x =>
          cases g2 : es[i]? with
          | none => cases g3 : fs[i]? <;> exact True.intro
          | some y =>
            cases g3 : fs[i]? with
            | none => exact True.intro
            | some u =>
              obtain ⟨vx, hx, rx⟩ := k1.get g1
              obtain ⟨vy, hy, ry⟩ := k2.get g2
              obtain ⟨vu, hu, ru⟩ := k3.get g3
              refine ⟨⟨xs, ys, zs, vx, vy, vu, h1, h2, h3, hx, hy, hu⟩, fun w H' ⟨T, x', y', u', e1, hT, e2, f1, f2, f3⟩ => ?_⟩
              have := f1 xs h1
              rw [hx] at this; cases this
              have := f2 ys h2
              rw [hy] at this; cases this
              have := f3 zs h3
              rw [hu] at this; cases this
              subst e1 e2
              exact trip_ok hB hT rx ry ru
theorem si_zip3 {a b c : Expr} {x y z : Ex} {p1 pos tpos : Pos} {elts : List Expr} {kk : Nat} (hK : X.K = G.K) (gl : Gl X "zip") (hm : X.mg "zip" = none) (hs : noStar a = true) (hs2 : noStar b = true) (hs3 : noStar c = true) (ha : PA X [a, b, c] (tA G p W [x, y, z])) :
    PI X (.Tuple elts kk tpos) (.Call (.Name "zip" p1) [a, b, c] [] pos) (tI G p W (.zip3 x y z)) := by
  refine PI.imp (pi_zip3 gl hm ha (star_cons hs) (star_all (by simp [hs2, hs3]))) fun σ H R ⟨A, ρ, hH, hr, er, h⟩ => ?_
  subst hH
  refine tA_of hr er (evc (show ((evE p x ρ A.S).bind fun d S1 => (evE p y ρ S1).bind fun e S2 => (evE p z ρ S2).bind fun u S3 => ofOpt S3 (zip3Of S3 d e u)).sat _ _ from h) fun d S1 q => evc q fun e S2 q2 => ev1 q2) fun B ds vs g hB rs ⟨d, es, e, d2, es2, e2, d3, e3, q⟩ => ?_
  subst e e2 e3
  obtain ⟨v, ws, rfl, rv, rn⟩ := rs.uncons
  obtain ⟨v2, ws2, rfl, rv2, rn2⟩ := rn.uncons
  obtain ⟨v3, ws3, rfl, rv3, rn3⟩ := rn2.uncons
  rw [rn3.nil_iff]
  obtain ⟨src, hs, f⟩ := sat_ofOpt' q
  rw [hK]
  have hs : (match rowOf B.S d, rowOf B.S d2, rowOf B.S d3 with
    | some _, some _, some _ => some (zip3S d d2 d3)
    | _, _, _ => none) = some src := hs
  cases q1 : rowOf B.S d with
  | none => rw [q1] at hs; cases hs
  | some xs1 =>
    cases q2 : rowOf B.S d2 with
    | none => rw [q1, q2] at hs; cases hs
    | some xs2 =>
      cases q3 : rowOf B.S d3 with
      | none => rw [q1, q2, q3] at hs; cases hs
      | some xs3 =>
        rw [q1, q2, q3] at hs
        cases hs
        obtain ⟨a1, xs, rfl, h1, k1⟩ := row_k hB rv q1
        obtain ⟨a2, ys, rfl, h2, k2⟩ := row_k hB rv2 q2
        obtain ⟨a3, zs, rfl, h3, k3⟩ := row_k hB rv3 q3
        exact ⟨a1, a2, a3, _, _, _, xs, ys, zs, rfl, h1, h2, h3, f B.μ B.H _ g hB (src_zip3 rv rv2 rv3)⟩
theorem si_enum {a : Expr} {x : Ex} {p1 pos tpos : Pos} {elts : List Expr} {kk : Nat} (hK : X.K = G.K) (gl : Gl X "enumerate") (hm : X.mg "enumerate" = none) (hs : noStar a = true) (ha : PA X [a] (tA G p W [x])) :
    PI X (.Tuple elts kk tpos) (.Call (.Name "enumerate" p1) [a] [] pos) (tI G p W (.enum x)) := by
  refine PI.imp (pi_enumA gl hm ha (star_cons hs)) fun σ H R ⟨A, ρ, hH, hr, er, h⟩ => ?_
  subst hH
  refine tA_of hr er (ev1 (show ((evE p x ρ A.S).bind fun d S1 => ofOpt S1 (enumOf S1 d)).sat _ _ from h)) fun B ds vs g hB rs ⟨d, e, q⟩ => ?_
  subst e
  obtain ⟨v, ws, rfl, rv, rn⟩ := rs.uncons
  rw [rn.nil_iff]
  obtain ⟨src, hs, f⟩ := sat_ofOpt' q
  rw [hK]
  cases d with
  | ref n =>
    have hs : (match seqAt B.S n with
      | some _ => some (enumS (srcR n))
      | none => none) = some src := hs
    cases q1 : seqAt B.S n with
    | none => rw [q1] at hs; cases hs
    | some ds =>
      rw [q1] at hs
      cases hs
      obtain ⟨xs, h1, r1⟩ := hB.seqAt q1
      obtain ⟨m1, rfl⟩ := rv
      exact ⟨_, xs, rfl, .inl ⟨h1, f B.μ B.H _ g hB (src_enum hB m1)⟩⟩
  | tup ds =>
    have : some (enumS (srcL ds)) = some src := hs
    cases this
    obtain ⟨a, xs, rfl, h1, r1⟩ := rv
    exact ⟨_, xs, rfl, .inr ⟨h1, f B.μ B.H _ g hB (src_enumT h1 r1)⟩⟩
  | _ => cases hs
end Mini
set_option maxHeartbeats 2000000
/-! Mini: targets, comprehensions, statements. -/
namespace Mini
open PySem PySem.Spec PyProof.Rows L2

variable {G : Gx} {A A0 : Ab} {X : Cx} {W : WX} {p : Pg} {σ : L2.St} {ρ : Loc}
abbrev W0 : WX := fun _ _ _ _ => False
def XA (G : Gx) (A : Ab) (W : WX) (c : Nat) (fs : List (Str × D)) (S : Sto) : Prop := ∀ σ, XW G A (xw W σ) c fs S
theorem XA.grow {c : Nat} {fs : List (Str × D)} {S : Sto} (f : XA G A W c fs S) {B : Ab} (g : Grow G A B) : XA G B W c fs S := fun σ => (f σ).grow g
mutual
/-- a target whose names are all among vs -/
def tgIn (vs : List Nat) : Tg → Bool
  | .nm i => vs.contains i
  | .tp ts => tgsIn vs ts
  | _ => false
def tgsIn (vs : List Nat) : List Tg → Bool
  | [] => true
  | t :: ts => tgIn vs t && tgsIn vs ts
end
theorem wipe_set : ∀ {vs : List Nat} {σ : L2.St} {i : Nat} {x : Option V}, i ∈ vs → wipe (σ.set i x) vs = wipe σ vs
  | [], _, _, _, h => absurd h (by simp)
  | v :: vs, σ, i, x, h => by
    show (wipe (σ.set i x) vs).set v none = (wipe σ vs).set v none
    by_cases hi : i ∈ vs
    · rw [wipe_set hi]
    · have e : v = i := by simp at h; rcases h with h | h; exact h.symm; exact absurd h hi
      subst e
      have : ∀ (us : List Nat) (τ : L2.St), (wipe (τ.set v x) us).set v none = (wipe τ us).set v none := by
        intro us
        induction us with
        | nil => intro τ; show (τ.set v x).set v none = τ.set v none; rw [List.set_set]
        | cons u us ih =>
          intro τ
          show ((wipe (τ.set v x) us).set u none).set v none = ((wipe τ us).set u none).set v none
          by_cases huv : u = v
          · subst huv; rw [List.set_set, List.set_set]; exact ih τ
          · rw [List.set_comm _ _ huv, List.set_comm _ _ huv, ih τ]
      exact this vs σ
theorem wipe_sub {vs : List Nat} {σ : L2.St} : ∀ us : List Nat, (∀ u ∈ us, u ∈ vs) → wipe (wipe σ us) vs = wipe σ vs
  | [], _ => rfl
  | u :: us, h => by
    show wipe ((wipe σ us).set u none) vs = wipe σ vs
    rw [wipe_set (h u (by simp)), wipe_sub us fun w hw => h w (by simp [hw])]
theorem wipe_wipe {vs : List Nat} {σ : L2.St} : wipe (wipe σ vs) vs = wipe σ vs := wipe_sub vs fun _ h => h
theorem ER.none {i : Nat} (e : ER G A ρ σ) : ER G A (ρ.set i none) (σ.set i none) := by
  refine ⟨by simp [e.len], fun j d' q => ?_⟩
  by_cases hj : j = i
  · subst hj
    by_cases hl : j < ρ.length
    · rw [List.getElem?_set_self hl] at q; cases q
    · rw [List.getElem?_eq_none (by simp; omega)] at q; cases q
  · rw [List.getElem?_set_ne (Ne.symm hj)] at q
    obtain ⟨w, h1, h2⟩ := e.get j d' q
    exact ⟨w, by rw [List.getElem?_set_ne (Ne.symm hj)]; exact h1, h2⟩
theorem ER.wipe (e : ER G A ρ σ) : ∀ vs : List Nat, ER G A (wipeL ρ vs) (L2.wipe σ vs)
  | [] => e
  | v :: vs => (ER.wipe e vs).none

/-! ### targets -/
def tG (G : Gx) (p : Pg) (W : WX) (t : Tg) : TG := fun v σ H Q => ∃ A ρ d, A.H = H ∧ HR G A ∧ ER G A ρ σ ∧ Rep G A d v ∧
  (asg p t d ρ A.S).sat (fun ρ' S' => ∀ μ σ' H', Grow G A ⟨μ, S', H'⟩ → HR G ⟨μ, S', H'⟩ → ER G ⟨μ, S', H'⟩ ρ' σ' → (∀ vs, tgIn vs t = true → wipe σ' vs = wipe σ vs) → Q σ' H') (XA G A W)
def tGs (G : Gx) (p : Pg) (W : WX) (ts : List Tg) : TGs := fun xs σ H Q => ∃ A ρ ds, A.H = H ∧ HR G A ∧ ER G A ρ σ ∧ RepL G A ds xs ∧
  (asgs p ts ds ρ A.S).sat (fun ρ' S' => ∀ μ σ' H', Grow G A ⟨μ, S', H'⟩ → HR G ⟨μ, S', H'⟩ → ER G ⟨μ, S', H'⟩ ρ' σ' → (∀ vs, tgsIn vs ts = true → wipe σ' vs = wipe σ vs) → Q σ' H') (XA G A W)
theorem PG.imp {e : Expr} {t t' : TG} (h : PG X e t) (k : ∀ v σ H Q, t' v σ H Q → t v σ H Q) : PG X e t' := ⟨fun pins s σ H v u Q I r q => h.run pins s σ H v u Q I r (k _ _ _ _ q)⟩
theorem PGs.imp {e : List Expr} {t t' : TGs} (h : PGs X e t) (k : ∀ v σ H Q, t' v σ H Q → t v σ H Q) : PGs X e t' := ⟨fun pins s σ H v u Q I r q => h.run pins s σ H v u Q I r (k _ _ _ _ q)⟩
theorem sg_name {i : Nat} {x : Str} {pos : Pos} (hN : X.N.Nodup) (hi : X.N[i]? = some x) (hx : L2.Loc X.env.scope x) (hf : X.fn x = true ∨ X.env.scope.names.lookup x = some .local) : PG X (.Name x pos) (tG G p W (.nm i)) := by
  refine PG.imp (pg_name hN hi hx hf) fun v σ H Q ⟨A, ρ, d, hH, hr, er, rd, h⟩ => ?_
  subst hH
  exact h A.μ _ A.H .refl hr (er.set i rd) fun vs hv => wipe_set (by simpa [tgIn] using hv)
theorem sgs_nil : PGs X [] (tGs G p W []) := by
  refine PGs.imp pgs_nil fun v σ H Q ⟨A, ρ, ds, hH, hr, er, rd, h⟩ => ?_
  subst hH
  cases ds with
  | nil => exact ⟨rd, h A.μ _ A.H .refl hr er fun _ _ => rfl⟩
  | cons d ds => exact (show False from h).elim
/-- no star among the targets -/
def plainTg : Expr → Bool
  | .Name .. => true
  | .Tuple .. => true
  | .Subscript .. => true
  | .Attribute .. => true
  | _ => false
theorem each_cons {e : Expr} {es : List Expr} {env : Env} (h : plainTg e = true) : assignEach (e :: es) env = (false, assign e env) :: assignEach es env := by
  cases e <;> first | rfl | cases h
theorem sgs_cons {e : Expr} {es : List Expr} {t : Tg} {ts : List Tg} (hp : plainTg e = true) (h1 : PG X e (tG G p W t)) (h2 : PGs X es (tGs G p W ts)) : PGs X (e :: es) (tGs G p W (t :: ts)) := by
  refine PGs.imp (pgs_cons h1 h2 (by rw [each_cons hp]; rfl)) fun xs σ H Q ⟨A, ρ, ds, hH, hr, er, rd, h⟩ => ?_
  subst hH
  cases ds with
  | nil => exact (show False from h).elim
  | cons d ds =>
    obtain ⟨v, r, rfl, rv, rr⟩ := rd.uncons
    refine ⟨v, r, rfl, A, ρ, d, rfl, hr, er, rv, Res.sat_mono (Res.sat_bind (show ((asg p t d ρ A.S).bind fun ρ1 S1 => asgs p ts ds ρ1 S1).sat _ _ from h)) (fun ρ' S' q μ σ' H' g h1 er1 wf => ?_) fun _ _ _ z => z⟩
    refine ⟨⟨μ, S', H'⟩, ρ', ds, rfl, h1, er1, rr.mono g, Res.sat_mono q (fun ρ2 S2 q2 μ2 σ2 H2 g2 h2 er2 wf2 => ?_) fun _ _ _ z => z.grow g⟩
    refine q2 μ2 σ2 H2 (g.trans g2) h2 er2 fun vs hv => ?_
    have hv : (tgIn vs t && tgsIn vs ts) = true := hv
    rw [Bool.and_eq_true] at hv
    rw [wf2 vs hv.2, wf vs hv.1]
theorem each_len : ∀ {es : List Expr} {env : Env}, (assignEach es env).length = es.length
  | [], _ => rfl
  | e :: es, env => by
    have : (assignEach (e :: es) env).length = (assignEach es env).length + 1 := by cases e <;> rfl
    rw [this, each_len]; rfl
theorem each_star : ∀ {es : List Expr} {env : Env}, es.all plainTg = true → (assignEach es env).findIdx? (·.1) = none
  | [], _, _ => rfl
  | e :: es, env, h => by
    have h2 : plainTg e = true ∧ es.all plainTg = true := by simpa using h
    rw [each_cons h2.1, List.findIdx?_cons]
    simp [each_star h2.2]
theorem sg_tup {es : List Expr} {ts : List Tg} {k : Nat} {pos : Pos} (hK : X.K = G.K) (hc : X.calm = true) (hp : es.all plainTg = true) (hl : es.length = ts.length) (h : PGs X es (tGs G p W ts)) : PG X (.Tuple es k pos) (tG G p W (.tp ts)) := by
  have k1 := pg_tup (pos := pos) (k := k) (n := es.length) hc h each_len (each_star hp)
  have k2 := pg_lst (pos := pos) (k := k) (n := es.length) hc h each_len (each_star hp)
  refine PG.imp (t := fun v σ H Q => gTup X.K es.length (tGs G p W ts) v σ H Q ∨ gLst X.K es.length (tGs G p W ts) v σ H Q) ⟨fun pins s σ H v u Q I r q => q.elim (k1.run pins s σ H v u Q I r) (k2.run pins s σ H v u Q I r)⟩ fun v σ H Q ⟨A, ρ, d, hH, hr, er, rd, h⟩ => ?_
  subst hH
  obtain ⟨ds, hd, q⟩ := sat_opt (show ((ofOpt A.S (seqD A.S d)).bind fun xs S => if xs.length = ts.length then asgs p ts xs ρ S else .no).sat _ _ from h)
  split at q
  · rename_i hlen
    rw [hK]
    cases d with
    | tup es' =>
      have : some es' = some ds := hd
      cases this
      obtain ⟨a, xs, rfl, h1, r1⟩ := rd
      exact .inl ⟨a, xs, rfl, h1, by rw [r1.length, hl]; exact hlen, A, ρ, _, rfl, hr, er, r1, q⟩
    | ref n =>
      obtain ⟨n1, rfl⟩ := rd
      obtain ⟨xs, h1, r1⟩ := hr.seqAt hd
      exact .inr ⟨_, xs, rfl, h1, by rw [r1.length, hl]; exact hlen, A, ρ, _, rfl, hr, er, r1, q⟩
    | _ => cases hd
  · exact (show False from q).elim
theorem sg_ix {o i : Expr} {x y : Ex} {pos : Pos} (ho : PE X o (tE G p W x)) (hi : PE X i (tE G p W y))
    (ha : ∀ v, assign (.Subscript o i pos) X.env v = (do
      let ov ← holding [v] (eval o X.env)
      let iv ← holding [v, ov] (eval i X.env)
      standAt pos
      holding [v, ov, iv] (setItem ov iv v)
      release [v, ov, iv] [])) : PG X (.Subscript o i pos) (tG G p W (.ix x y)) := by
  refine PG.imp (pg_sub ho hi (sn_set (G := G)) ha) fun v σ H Q ⟨A, ρ, d, hH, hr, er, rd, h⟩ => ?_
  subst hH
  have h := Res.sat_mono (E' := XW G A (xw W σ)) (show ((evE p x ρ A.S).bind fun x S1 => (evE p y ρ S1).bind fun y S2 => ofSto ρ (storeE x y d S2)).sat _ _ from h) (fun _ _ z => z) fun _ _ _ z => z σ
  refine tR_bind .refl hr er rfl h fun B e u g hB re q => ?_
  refine tR_bind g hB (er.mono g) rfl q fun C f w g2 hC rf q2 => ?_
  cases e with
  | ref n =>
    obtain ⟨n1, rfl⟩ := re
    cases f with
    | int k =>
      have q2 : (ofSto ρ (match lstAt C.S n with
        | some xs => match ixN xs.length k with
          | some j => some (C.S.set n (.lst (xs.set j d)))
          | none => none
        | none => none)).sat _ _ := q2
      cases hl : lstAt C.S n with
      | none => rw [hl] at q2; exact (show False from q2).elim
      | some ds =>
        rw [hl] at q2
        dsimp only at q2
        cases hj : ixN ds.length k with
        | none => rw [hj] at q2; exact (show False from q2).elim
        | some j =>
          rw [hj] at q2
          refine ⟨C, n, k, j, d, ds, rfl, hC, Nat.lt_of_lt_of_le n1 g2.len, by rw [g2.μ n n1], rf, rd.mono (g.trans g2), hl, hj, fun H' hr' g' => ?_⟩
          exact (show ∀ μ σ' H', _ from q2) C.μ σ H' ((g.trans g2).trans g') hr' (er.mono ((g.trans g2).trans g')) fun vs hv => (by cases hv)
    | _ => exact (show False from q2).elim
  | _ => exact (show False from q2).elim

/-! ### comprehensions -/
abbrev tTs (G : Gx) (p : Pg) (W : WX) (cs : List Ex) : TT := tRb G W (evT p cs)
theorem PTs.imp {e : List Expr} {t t' : TT} (h : PTs X e t) (k : ∀ σ H Q, t' σ H Q → t σ H Q) : PTs X e t' := ⟨fun pins s σ H Q I q => h.run pins s σ H Q I (k _ _ _ q)⟩
theorem sts_nil : PTs X [] (tTs G p W []) := by
  refine PTs.imp pts_nil fun σ H Q ⟨A, ρ, hH, hr, er, h⟩ => ?_
  subst hH
  exact (show FinB G A Q true A.S from h) A.μ A.H .refl hr
theorem sts_one {c : Expr} {x : Ex} (h : PT X c (tT G p W x)) : PTs X [c] (tTs G p W [x]) := by
  refine PTs.imp (pts_one h) fun σ H Q ⟨A, ρ, hH, hr, er, h⟩ => ?_
  subst hH
  refine ⟨A, ρ, rfl, hr, er, ?_⟩
  have h : ((evE p x ρ A.S).bind fun d S1 => (ofOpt S1 (truth S1 d)).bind fun b S1 => if b then Res.ok true S1 else .ok false S1).sat (FinB G A Q) (XW G A (xw W σ)) := h
  show ((evE p x ρ A.S).bind fun d S1 => ofOpt S1 (truth S1 d)).sat (FinB G A Q) (XW G A (xw W σ))
  cases q : evE p x ρ A.S with
  | ok d S1 =>
    rw [q] at h
    have h : ((ofOpt S1 (truth S1 d)).bind fun b S1 => if b then Res.ok true S1 else .ok false S1).sat (FinB G A Q) (XW G A (xw W σ)) := h
    obtain ⟨b, hb, h⟩ := sat_opt h
    show (ofOpt S1 (truth S1 d)).sat _ _
    rw [hb]
    cases b <;> exact h
  | ex c f S1 => rw [q] at h; exact h
  | no => rw [q] at h; exact h
theorem comp_lc {t : Tg} {it : Mini.It} {cs : List Ex} {elt : Ex} {own : List Nat} {H : Hp} {Q : VK} (ht : tgIn own t = true) (h : tE G p W (.comp t it cs elt own) σ H Q) :
    tLc (tI G p W it) (tG G p W0 t) (tTs G p W0 cs) (tE G p W0 elt) own σ H Q := by
  obtain ⟨A, ρ, hH, hr, er, h⟩ := h
  subst hH
  refine ⟨A, ρ, rfl, hr, er, Res.sat_mono (Res.sat_bind (show ((evI p it ρ A.S).bind fun src S1 =>
      compN src S1.length (fun d S => ((asg p t d (wipeL ρ own) S).bind fun ρ1 S1 => (evT p cs ρ1 S1).bind fun b S2 =>
        if b then (evE p elt ρ1 S2).bind fun e S3 => .ok (some e) S3 else .ok none S2).noex) p.fuel 0 (S1 ++ [.lst []])).sat _ _ from h)) (fun src S1 f μ1 H1 J g h1 ok D hD => ?_) fun _ _ _ z => z⟩
  generalize hC : (⟨μ1, S1, H1⟩ : Ab) = C at g h1 ok
  have eS : S1 = C.S := by rw [← hC]
  have eH : H1 = C.H := by rw [← hC]
  rw [eS] at f
  rw [eH] at hD ⊢
  obtain ⟨i1, i2, i3⟩ := h1.lst (ds := []) (xs := []) hD .nil
  refine ⟨fun i m H => ∃ B, B.H = H ∧ Grow G (C.add D (.lst []) (upd C.H D (.lst []))) B ∧ HR G B ∧ (compN src C.S.length (fun d S => ((asg p t d (wipeL ρ own) S).bind fun ρ1 S1 => (evT p cs ρ1 S1).bind fun b S2 =>
        if b then (evE p elt ρ1 S2).bind fun e S3 => .ok (some e) S3 else .ok none S2).noex) m i B.S).sat (Fin G A Q) (XW G A (xw W σ)), ⟨p.fuel, _, rfl, .refl, i1, f⟩, ?_⟩
  rintro i m H ⟨B, rfl, gB, hB, f⟩
  have nlt : C.S.length < (C.add D (.lst []) (upd C.H D (.lst []))).S.length := by show C.S.length < (C.S ++ [Cl.lst []]).length; simp
  have μB : B.μ C.S.length = D := by rw [gB.μ _ nlt, Ab.add_new]
  cases m with
  | zero => exact (show False from f).elim
  | succ m =>
    have so := ok B (i2.trans gB) hB i
    unfold compN at f
    cases q : src i B.S with
    | bad => rw [q] at f; exact (show False from f).elim
    | stop =>
      rw [q] at f so
      refine .inl ⟨so, Fin.at (show Fin G A Q (.ref C.S.length) B.S from f) (g.trans (i2.trans gB)) hB ⟨Nat.lt_of_lt_of_le nlt gB.len, by rw [μB]⟩⟩
    | item d =>
      rw [q] at f so
      refine .inr ⟨so.1, _, fun H' hh => ⟨m, Nat.lt_succ_self _, hh⟩, fun x H' hy => ?_⟩
      obtain ⟨gx, hx, rx⟩ := so.2 x H' hy
      have f := Res.sat_bind f
      have f := Res.sat_noex (E' := XA G ⟨B.μ, B.S, H'⟩ W0) f
      have f := Res.sat_bind f
      have g0 : Grow G A ⟨B.μ, B.S, H'⟩ := (g.trans (i2.trans gB)).trans gx
      refine ⟨⟨B.μ, B.S, H'⟩, wipeL ρ own, d, rfl, hx, (er.mono g0).wipe own, rx, Res.sat_mono f (fun ρ1 S2 f μ2 σ2 H2 g2 h2 er2 wf => ⟨by rw [wf own ht]; exact wipe_wipe, ?_⟩) fun _ _ _ z => z⟩
      refine ⟨⟨μ2, S2, H2⟩, ρ1, rfl, h2, er2, Res.sat_mono (Res.sat_bind f) (fun b S3 f μ3 H3 g3 h3 => ?_) fun _ _ _ z => (z σ2).grow g2⟩
      cases b with
      | false => exact ⟨⟨μ3, S3, H3⟩, rfl, (((gB.trans gx).trans g2).trans g3), h3, f⟩
      | true =>
        rw [if_pos rfl]
        refine ⟨⟨μ3, S3, H3⟩, ρ1, rfl, h3, er2.mono g3, Res.sat_mono (Res.sat_bind (show ((evE p elt ρ1 S3).bind fun e S3 => Res.ok (some e) S3).sat _ _ from f)) (fun e S4 f μ4 y H4 g4 h4 ry => ?_) fun _ _ _ z => ((z σ2).grow g2).grow g3⟩
        have f : (match lstAt S4 C.S.length with
          | some ys => if ys.length < lineN then compN src C.S.length _ m (i + 1) (S4.set C.S.length (.lst (ys ++ [e]))) else .no
          | none => .no).sat _ _ := f
        cases hl : lstAt S4 C.S.length with
        | none => rw [hl] at f; exact (show False from f).elim
        | some ys =>
          rw [hl] at f
          dsimp only at f
          split at f
          · rename_i hlt
            obtain ⟨e1, xs, e2, rxs⟩ := HR.lstAt (A := ⟨μ4, S4, H4⟩) h4 hl
            have gg : Grow G B ⟨μ4, S4, H4⟩ := ((gx.trans g2).trans g3).trans g4
            have μ4n : μ4 C.S.length = D := by
              have := gg.μ C.S.length (Nat.lt_of_lt_of_le nlt gB.len)
              rw [show μ4 C.S.length = B.μ C.S.length from this, μB]
            obtain ⟨p1, p2⟩ := HR.putL (A := ⟨μ4, S4, H4⟩) h4 e1 (rxs.append (.cons ry .nil))
            rw [show (⟨μ4, S4, H4⟩ : Ab).μ C.S.length = D from μ4n] at e2 p1 p2
            exact ⟨xs, e2, by rw [rxs.length, ← lineN_eq]; exact hlt, _, rfl, (gB.trans gg).trans p2, p1, f⟩
          · exact (show False from f).elim
/-! ### statements -/
def FinF (G : Gx) (A : Ab) (D : Ends) (f : Fl) (S : Sto) : Prop := match f with
  | .nx ρ => ∀ μ σ' H', Grow G A ⟨μ, S, H'⟩ → HR G ⟨μ, S, H'⟩ → ER G ⟨μ, S, H'⟩ ρ σ' → D.nx σ' H'
  | .rt d => Fin G A D.rt d S
  | .bk ρ => ∀ μ σ' H', Grow G A ⟨μ, S, H'⟩ → HR G ⟨μ, S, H'⟩ → ER G ⟨μ, S, H'⟩ ρ σ' → D.bk σ' H'
theorem FinF.grow {D : Ends} {f : Fl} {S : Sto} (h : FinF G A0 D f S) (g : Grow G A0 A) : FinF G A D f S := by
  cases f with
  | nx ρ => exact fun μ σ' H' g' => h μ σ' H' (g.trans g')
  | rt d => exact Fin.grow (show Fin G A0 D.rt d S from h) g
  | bk ρ => exact fun μ σ' H' g' => h μ σ' H' (g.trans g')
def tSr (G : Gx) (W : WX) (r : Loc → Sto → Res Fl) : TS := fun D σ H => ∃ A ρ, A.H = H ∧ HR G A ∧ ER G A ρ σ ∧ (r ρ A.S).sat (FinF G A D) (XA G A W)
abbrev tS (G : Gx) (p : Pg) (W : WX) (s : Mini.St) : TS := tSr G W (evS p s)
abbrev tSs (G : Gx) (p : Pg) (W : WX) (s : List Mini.St) : TS := tSr G W (evSs p s)
theorem PS.imp {e : Stmt} {t t' : TS} (h : PS X e t) (k : ∀ D σ H, t' D σ H → t D σ H) : PS X e t' := ⟨fun pins s σ H D I q => h.run pins s σ H D I (k _ _ _ q)⟩
theorem PSs.imp {e : List Stmt} {t t' : TS} (h : PSs X e t) (k : ∀ D σ H, t' D σ H → t D σ H) : PSs X e t' := ⟨fun pins s σ H D I q => h.run pins s σ H D I (k _ _ _ q)⟩
theorem xa {α : Type} {r : Res α} {P : α → Sto → Prop} (σ : L2.St) (h : r.sat P (XA G A W)) : r.sat P (XW G A (xw W σ)) := Res.sat_mono h (fun _ _ z => z) fun _ _ _ z => z σ
/-- an expression's run ahead of a statement's rest -/
theorem tS_bind {β : Type} {r : Loc → Sto → Res D} {k : D → Sto → Res β} {P : β → Sto → Prop} {Q : VK} (g0 : Grow G A0 A) (hr : HR G A) (er : ER G A ρ σ) (h : ((r ρ A.S).bind k).sat P (XA G A0 W))
    (hk : ∀ B d v, Grow G A B → HR G B → Rep G B d v → (k d B.S).sat P (XA G A0 W) → Q v B.H) : tR G W r σ A.H Q :=
  ⟨A, ρ, rfl, hr, er, Res.sat_mono (Res.sat_bind h) (fun d S q μ v H g h1 r1 => hk ⟨μ, S, H⟩ d v g h1 r1 q) fun _ _ _ z => (z σ).grow g0⟩
theorem asg_red {tg : Tg} {e : Ex} {A : Ab} {ρ : Loc} {te : TE} {g : TG} {D : Ends} (hr : HR G A) (er : ER G A ρ σ) (h : (evS p (.asg tg e) ρ A.S).sat (FinF G A D) (XA G A W))
    (hte : ∀ Q, tE G p W e σ A.H Q → te σ A.H Q) (hg : ∀ v H Q, tG G p W tg v σ H Q → g v σ H Q) : tAsg te g D σ A.H := by
  refine hte _ (tS_bind .refl hr er (show ((evE p e ρ A.S).bind fun d S1 => (asg p tg d ρ S1).bind fun ρ1 S2 => Res.ok (Fl.nx ρ1) S2).sat _ _ from h) fun B d v gB hB rd q => hg _ _ _ ?_)
  exact ⟨B, ρ, d, rfl, hB, er.mono gB, rd, Res.sat_mono (Res.sat_bind q) (fun ρ' S' f μ σ' H' g1 h1 er1 _ => (show FinF G A D (.nx ρ') S' from f) μ σ' H' (gB.trans g1) h1 er1) fun _ _ _ z => z.grow gB⟩
theorem ss_asg {tg e : Expr} {t : Tg} {x : Ex} {pos : Pos} (he : PE X e (tE G p W x)) (hg : PG X tg (tG G p W t)) (hs : swapsWithSole [tg] e pos.line X.env = pure false) (hw : swappedStores [tg] e X.env = pure none)
    (h1 : (assignEach [tg] X.env).map (·.2) = [assign tg X.env]) : PS X (.Assign [tg] e pos) (tS G p W (.asg t x)) := by
  refine PS.imp (ps_asg he hg hs hw h1) fun D σ H ⟨A, ρ, hH, hr, er, h⟩ => ?_
  subst hH
  exact asg_red hr er h (fun Q q => q) fun v H Q q => q
theorem ss_set {i : Nat} {x : Str} {e : Expr} {y : Ex} {pos' pos : Pos} (hN : X.N.Nodup) (hi : X.N[i]? = some x) (hx : L2.Loc X.env.scope x) (he : PE X e (tE G p W y)) (hs : swapsWith e (some (.Name x pos')) pos.line X.env = pure false)
    (hf : X.fn x = true ∨ X.env.scope.names.lookup x = some .local) : PS X (.Assign [.Name x pos'] e pos) (tS G p W (.asg (.nm i) y)) := by
  refine PS.imp (ps_set hN hi hx he hs hf) fun D σ H ⟨A, ρ, hH, hr, er, h⟩ => ?_
  subst hH
  refine asg_red (g := gName i) hr er h (fun Q q => q) fun v H Q ⟨B, ρ2, d, e1, hB, er2, rd, q⟩ => ?_
  subst e1
  exact q B.μ _ B.H .refl hB (er2.set i rd) fun vs hv => wipe_set (by simpa [tgIn] using hv)
/-- [.. for ..] as a value, as a store -/
theorem se_comp {elt tg iter : Expr} {ifs : List Expr} {scope : Scope} {own : List (Str × Nat)} {pos : Pos} {it : Mini.It} {t : Tg} {cs : List Ex} {x : Ex} (hc : X.calm = true) (hN : X.N.Nodup) (ht : tgIn (own.map (·.2)) t = true) (hi : PI X tg iter (tI G p W it)) (ok : BlkOk X.N X.env.scope scope own)
    (hg : ∀ (s : Shared) (H : Hp) (C : Addr) (cl : List (Str × Addr)) (fp : List Addr), PG (X.blk s H scope (compEnvC scope cl C X.env) fp) tg (tG G p W0 t)) (hts : ∀ (s : Shared) (H : Hp) (C : Addr) (cl : List (Str × Addr)) (fp : List Addr), PTs (X.blk s H scope (compEnvC scope cl C X.env) fp) ifs (tTs G p W0 cs))
    (he : ∀ (s : Shared) (H : Hp) (C : Addr) (cl : List (Str × Addr)) (fp : List Addr), PE (X.blk s H scope (compEnvC scope cl C X.env) fp) elt (tE G p W0 x)) (hs : ∀ x, foldedSetIterable iter X.env x = pure x) :
    PE X (.ListComp elt [⟨tg, iter, ifs, 0⟩] scope pos) (tE G p W (.comp t it cs x (own.map (·.2)))) := PE.imp (pe_lc hc hN hi ok hg hts he hs) fun σ H Q h => comp_lc ht h
theorem ss_setLc {i : Nat} {y : Str} {py : Pos} {elt tg iter : Expr} {ifs : List Expr} {scope : Scope} {own : List (Str × Nat)} {pos spos : Pos} {it : Mini.It} {t : Tg} {cs : List Ex} {x : Ex} (hc : X.calm = true) (hN : X.N.Nodup) (hy : X.N[i]? = some y) (hyl : X.env.scope.names.lookup y = some .local)
    (hsw : swapsWith (.ListComp elt [⟨tg, iter, ifs, 0⟩] scope pos) (some (.Name y py)) spos.line X.env = pure true) (ht : tgIn (own.map (·.2)) t = true) (hi : PI X tg iter (tI G p W it)) (ok : BlkOk X.N X.env.scope scope own)
    (hg : ∀ (s : Shared) (H : Hp) (C : Addr) (cl : List (Str × Addr)) (fp : List Addr), PG (X.blk s H scope (compEnvC scope cl C X.env) fp) tg (tG G p W0 t)) (hts : ∀ (s : Shared) (H : Hp) (C : Addr) (cl : List (Str × Addr)) (fp : List Addr), PTs (X.blk s H scope (compEnvC scope cl C X.env) fp) ifs (tTs G p W0 cs))
    (he : ∀ (s : Shared) (H : Hp) (C : Addr) (cl : List (Str × Addr)) (fp : List Addr), PE (X.blk s H scope (compEnvC scope cl C X.env) fp) elt (tE G p W0 x)) (hs : ∀ x, foldedSetIterable iter X.env x = pure x) :
    PS X (.Assign [.Name y py] (.ListComp elt [⟨tg, iter, ifs, 0⟩] scope pos) spos) (tS G p W (.asg (.nm i) (.comp t it cs x (own.map (·.2))))) := by
  refine PS.imp (ps_setLc hc hN hy hyl hsw hi ok hg hts he hs) fun D σ H ⟨A, ρ, hH, hr, er, h⟩ => ?_
  subst hH
  refine asg_red (g := gName i) hr er h (fun Q q => comp_lc ht q) fun v H Q ⟨B, ρ2, d, e1, hB, er2, rd, q⟩ => ?_
  subst e1
  exact q B.μ _ B.H .refl hB (er2.set i rd) fun vs hv => wipe_set (by simpa [tgIn] using hv)
theorem ss_par {i j : Nat} {x y : Str} {a b : Expr} {u v : Ex} {px py pt pos : Pos} {kt k2 pt2} (hc : X.calm = true) (hN : X.N.Nodup) (hi : X.N[i]? = some x) (hj : X.N[j]? = some y) (hij : i ≠ j)
    (hx : X.env.scope.names.lookup x = some .local) (hy : X.env.scope.names.lookup y = some .local) (ha : PA X [a, b] (tA G p W [u, v]))
    (hw : swappedStores [.Tuple [.Name x px, .Name y py] kt pt] (.Tuple [a, b] k2 pt2) X.env = pure (some [x, y])) :
    PS X (.Assign [.Tuple [.Name x px, .Name y py] kt pt] (.Tuple [a, b] k2 pt2) pos) (tS G p W (.par [i, j] [u, v])) := by
  refine PS.imp (ps_par hc hN hi hj hij hx hy ha hw) fun D σ H ⟨A, ρ, hH, hr, er, h⟩ => ?_
  subst hH
  have h := evEs_len (Res.sat_bind (show ((evEs p [u, v] ρ A.S).bind fun ds S1 => Res.ok (Fl.nx (setsL ρ [i, j] ds)) S1).sat _ _ from h))
  refine ⟨A, ρ, rfl, hr, er, Res.sat_mono h (fun ds S ⟨l, f⟩ μ vs H g h1 r => ?_) fun _ _ _ z => z σ⟩
  match ds, l with
  | [d, e], _ =>
    obtain ⟨v, w, rfl, r1, r2⟩ := repL2 r
    exact ⟨v, w, rfl, (show FinF G A D (.nx ((ρ.set i (some d)).set j (some e))) S from f) μ _ H g h1 (((er.mono g).set i r1).set j r2)⟩
theorem ss_par3 {i j l : Nat} {x y z : Str} {a b c : Expr} {u v t : Ex} {px py pz pt pos : Pos} {kt k2 pt2} (hc : X.calm = true) (hN : X.N.Nodup) (hi : X.N[i]? = some x) (hj : X.N[j]? = some y) (hl : X.N[l]? = some z) (hij : i ≠ j) (hil : i ≠ l) (hjl : j ≠ l)
    (hx : X.env.scope.names.lookup x = some .local) (hy : X.env.scope.names.lookup y = some .local) (hz : X.env.scope.names.lookup z = some .local) (ha : PA X [a, b, c] (tA G p W [u, v, t]))
    (hw : swappedStores [.Tuple [.Name x px, .Name y py, .Name z pz] kt pt] (.Tuple [a, b, c] k2 pt2) X.env = pure (some [x, y, z])) :
    PS X (.Assign [.Tuple [.Name x px, .Name y py, .Name z pz] kt pt] (.Tuple [a, b, c] k2 pt2) pos) (tS G p W (.par [i, j, l] [u, v, t])) := by
  refine PS.imp (ps_par3 hc hN hi hj hl hij hil hjl hx hy hz ha hw) fun D σ H ⟨A, ρ, hH, hr, er, h⟩ => ?_
  subst hH
  have h := evEs_len (Res.sat_bind (show ((evEs p [u, v, t] ρ A.S).bind fun ds S1 => Res.ok (Fl.nx (setsL ρ [i, j, l] ds)) S1).sat _ _ from h))
  refine ⟨A, ρ, rfl, hr, er, Res.sat_mono h (fun ds S ⟨l', f⟩ μ vs H g h1 r => ?_) fun _ _ _ z => z σ⟩
  match ds, l' with
  | [d, e, d3], _ =>
    obtain ⟨v, r', rfl, r1, rr⟩ := r.uncons
    obtain ⟨w, w3, rfl, r2, r3⟩ := repL2 rr
    exact ⟨v, w, w3, rfl, (show FinF G A D (.nx (((ρ.set i (some d)).set j (some e)).set l (some d3))) S from f) μ _ H g h1 ((((er.mono g).set i r1).set j r2).set l r3)⟩
theorem putF_rep {f : Str} {d : D} {v : V} : ∀ {fs : List (Str × D)} {vs : List (Str × V)}, RepF G A fs vs → Rep G A d v → RepF G A (putFs f d fs) (putF f v vs)
  | [], vs, h, r => by
    have e : vs = [] := h
    subst e
    exact ⟨v, [], rfl, r, rfl⟩
  | (g, e) :: fs, vs, h, r => by
    obtain ⟨w, ws, rfl, h1, h2⟩ : ∃ w ws, vs = (g, w) :: ws ∧ Rep G A e w ∧ RepF G A fs ws := h
    unfold putFs putF
    split
    · rename_i hg
      first
        | (rw [if_pos hg]; exact ⟨v, ws, rfl, r, h2⟩)
        | exact ⟨v, ws, rfl, r, h2⟩
    · rename_i hg
      first
        | (rw [if_neg hg]; exact ⟨w, _, rfl, h1, putF_rep h2 r⟩)
        | exact ⟨w, _, rfl, h1, putF_rep h2 r⟩
theorem repF_len : ∀ {fs : List (Str × D)} {vs : List (Str × V)}, RepF G A fs vs → vs.length = fs.length
  | [], vs, h => by
    have e : vs = [] := h
    subst e; rfl
  | (g, e) :: fs, vs, h => by
    obtain ⟨w, ws, rfl, h1, h2⟩ : ∃ w ws, vs = (g, w) :: ws ∧ Rep G A e w ∧ RepF G A fs ws := h
    simp [repF_len h2]
theorem ss_fld {o e : Expr} {x y : Ex} {f : Str} {pos pos' : Pos} (hcl : ∀ c, Cls X.K (G.ca c) ∧ NoAttr X.K (G.ca c) f) (ho : PE X o (tE G p W x)) (he : PE X e (tE G p W y)) (hs : swapsWith e (some (.Attribute o f pos')) pos.line X.env = pure false) :
    PS X (.Assign [.Attribute o f pos'] e pos) (tS G p W (.asg (.fd x f) y)) := by
  refine PS.imp (ps_fld ho he hs) fun D σ H ⟨A, ρ, hH, hr, er, h⟩ => ?_
  subst hH
  refine tS_bind .refl hr er (show ((evE p y ρ A.S).bind fun d S1 => (asg p (.fd x f) d ρ S1).bind fun ρ1 S2 => Res.ok (Fl.nx ρ1) S2).sat _ _ from h) fun B d v gB hB rd q => ?_
  have q := Res.sat_bind q
  refine tS_bind gB hB (er.mono gB) (show ((evE p x ρ B.S).bind fun x S1 => ofSto ρ (putE f x d S1)).sat _ _ from q) fun C e w gC hC re q => ?_
  cases e with
  | ref n =>
    obtain ⟨n1, rfl⟩ := re
    have q : (ofSto ρ (match C.S[n]? with
      | some (.ins c fs) => if fs.length < 1000 then some (C.S.set n (.ins c (putFs f d fs))) else none
      | _ => none)).sat _ _ := q
    split at q
    · rename_i c fs hn
      split at q
      · rename_i hlt
        obtain ⟨dx, vs, h1, h2⟩ : ∃ dx vs, C.H (C.μ n) = some (.ins (G.ca c) dx vs) ∧ RepF G C fs vs := hC.cell n _ hn
        refine ⟨_, _, dx, vs, rfl, h1, (hcl c).1, (hcl c).2, by rw [repF_len h2]; exact hlt, ?_⟩
        obtain ⟨p1, p2⟩ := hC.put (c' := .ins c (putFs f d fs)) (u := .ins (G.ca c) dx (putF f v vs)) hn rfl rfl h1 (fun zs => ⟨(fun e => by cases e), fun ob e => by cases e⟩) (fun ob zs e => by cases e) fun g => ⟨dx, _, upd_same, putF_rep (by
          have : ∀ {fs : List (Str × Mini.D)} {vs : List (Str × V)}, RepF G C fs vs → RepF G ⟨C.μ, C.S.set n (.ins c (putFs f d _)), upd C.H (C.μ n) (.ins (G.ca c) dx (putF f v _))⟩ fs vs := fun h => RepF.mono g h
          exact this h2) ((rd.mono gC).mono g)⟩
        exact (show FinF G A D (.nx ρ) _ from q) C.μ σ _ ((gB.trans gC).trans p2) p1 (er.mono ((gB.trans gC).trans p2))
      · exact (show False from q).elim
    · exact (show False from q).elim
  | _ => exact (show False from q).elim
theorem ss_aug {i : Nat} {x : Str} {e : Expr} {y : Ex} {pos' pos : Pos} (hN : X.N.Nodup) (hi : X.N[i]? = some x) (hx : L2.Loc X.env.scope x) (he : PE X e (tE G p W y)) (hf : X.fn x = true ∨ X.env.scope.names.lookup x = some .local) : PS X (.AugAssign (.Name x pos') .Add e pos) (tS G p W (.aug i .add y)) := by
  refine PS.imp (ps_aug hN hi hx he ip_add hf) fun D σ H ⟨A, ρ, hH, hr, er, h⟩ => ?_
  subst hH
  have h : ((match ρ[i]? with
    | some (some d) => Res.ok d A.S
    | _ => .no).bind fun x S1 => (evE p y ρ S1).bind fun y S2 => (ofOpt S2 (augE x y .add)).bind fun z S2 => Res.ok (Fl.nx (ρ.set i (some z))) S2).sat (FinF G A D) (XA G A W) := h
  cases q : ρ[i]? with
  | none => rw [q] at h; exact (show False from h).elim
  | some o =>
    cases o with
    | none => rw [q] at h; exact (show False from h).elim
    | some d =>
      rw [q] at h
      obtain ⟨v, h1, r1⟩ := er.get i d q
      refine ⟨v, h1, tS_bind .refl hr er (show ((evE p y ρ A.S).bind fun y S2 => (ofOpt S2 (augE d y .add)).bind fun z S2 => Res.ok (Fl.nx (ρ.set i (some z))) S2).sat _ _ from h) fun B e w g hB re q => ?_⟩
      obtain ⟨z, hz, f⟩ := sat_opt q
      cases d with
      | int a =>
        cases e with
        | int b =>
          have : some (Mini.D.int (a + b)) = some z := hz
          cases this
          exact ⟨a, b, r1, re, (show FinF G A D (.nx _) B.S from f) B.μ _ B.H g hB ((er.mono g).set i (show Rep G B (.int (a + b)) (.int (a + b)) from rfl))⟩
        | _ => cases hz
      | _ => cases hz
theorem ss_ex {e : Expr} {x : Ex} {pos : Pos} (he : PE X e (tE G p W x)) (hs : swapsWith e none pos.line X.env = pure false) : PS X (.Expr e pos) (tS G p W (.ex x)) := by
  refine PS.imp (ps_expr he hs) fun D σ H ⟨A, ρ, hH, hr, er, h⟩ => ?_
  subst hH
  exact tS_bind .refl hr er (show ((evE p x ρ A.S).bind fun _ S1 => Res.ok (Fl.nx ρ) S1).sat _ _ from h) fun B d v g hB rd q => (show FinF G A D (.nx ρ) B.S from q) B.μ σ B.H g hB (er.mono g)
theorem ss_ret {e : Expr} {x : Ex} {pos : Pos} (he : PE X e (tE G p W x)) : PS X (.Return (some e) pos) (tS G p W (.ret x)) := by
  refine PS.imp (ps_ret he) fun D σ H ⟨A, ρ, hH, hr, er, h⟩ => ?_
  subst hH
  exact tS_bind .refl hr er (show ((evE p x ρ A.S).bind fun d S1 => Res.ok (Fl.rt d) S1).sat _ _ from h) fun B d v g hB rd q => Fin.at (Fin.grow (show Fin G A D.rt d B.S from q) g) .refl hB rd
theorem ss_retN {pos : Pos} : PS X (.Return none pos) (tS G p W .ret0) := by
  refine PS.imp ps_retN fun D σ H ⟨A, ρ, hH, hr, er, h⟩ => ?_
  subst hH
  exact Fin.at (show Fin G A D.rt .non A.S from h) .refl hr rfl
theorem ss_pass {pos : Pos} : PS X (.Pass pos) (tS G p W .pass) := by
  refine PS.imp ps_pass fun D σ H ⟨A, ρ, hH, hr, er, h⟩ => ?_
  subst hH
  exact (show FinF G A D (.nx ρ) A.S from h) A.μ σ A.H .refl hr er
theorem ss_doc {x : Str} {j : Nat} {pos pos' : Pos} : PS X (.Expr (.Constant (.str x) j pos) pos') (tS G p W .pass) := by
  refine PS.imp ps_doc fun D σ H ⟨A, ρ, hH, hr, er, h⟩ => ?_
  subst hH
  exact (show FinF G A D (.nx ρ) A.S from h) A.μ σ A.H .refl hr er
theorem ss_brk {pos : Pos} : PS X (.Break pos) (tS G p W .brk) := by
  refine PS.imp ps_break fun D σ H ⟨A, ρ, hH, hr, er, h⟩ => ?_
  subst hH
  exact (show FinF G A D (.bk ρ) A.S from h) A.μ σ A.H .refl hr er
theorem ss_bad {st : Stmt} : PS X st (tS G p W .bad) := by
  refine PS.imp ps_never fun D σ H ⟨A, ρ, hH, hr, er, h⟩ => ?_
  exact (show False from h)
theorem sss_nil : PSs X [] (tSs G p W []) := by
  refine PSs.imp pss_nil fun D σ H ⟨A, ρ, hH, hr, er, h⟩ => ?_
  subst hH
  exact (show FinF G A D (.nx ρ) A.S from h) A.μ σ A.H .refl hr er
theorem sss_cons {st : Stmt} {sts : List Stmt} {x : Mini.St} {xs : List Mini.St} (h1 : PS X st (tS G p W x)) (h2 : PSs X sts (tSs G p W xs)) : PSs X (st :: sts) (tSs G p W (x :: xs)) := by
  refine PSs.imp (pss_cons h1 h2) fun D σ H ⟨A, ρ, hH, hr, er, h⟩ => ?_
  subst hH
  refine ⟨A, ρ, rfl, hr, er, Res.sat_mono (Res.sat_bind (show ((evS p x ρ A.S).bind fun f S1 => match f with
    | .nx ρ1 => evSs p xs ρ1 S1
    | f => Res.ok f S1).sat _ _ from h)) (fun f S q => ?_) fun _ _ _ z => z⟩
  cases f with
  | nx ρ1 => exact fun μ σ' H' g h1 er1 => ⟨⟨μ, S, H'⟩, ρ1, rfl, h1, er1, Res.sat_mono q (fun _ _ z => z.grow g) fun _ _ _ z => z.grow g⟩
  | rt d => exact q
  | bk ρ1 => exact q
theorem ss_if {c : Expr} {a b : List Stmt} {x : Ex} {xs ys : List Mini.St} {pos : Pos} (hc : PT X c (tT G p W x)) (ha : PSs X a (tSs G p W xs)) (hb : PSs X b (tSs G p W ys)) : PS X (.If c a b pos) (tS G p W (.ite x xs ys)) := by
  refine PS.imp (ps_if hc ha hb) fun D σ H ⟨A, ρ, hH, hr, er, h⟩ => ?_
  subst hH
  refine ⟨A, ρ, rfl, hr, er, Res.sat_mono (Res.sat_bind (show ((evB p x ρ A.S).bind fun t S1 => if t then evSs p xs ρ S1 else evSs p ys ρ S1).sat _ _ from h)) (fun t S q μ H g h1 => ?_) fun _ _ _ z => z σ⟩
  cases t with
  | true => exact ⟨⟨μ, S, H⟩, ρ, rfl, h1, er.mono g, Res.sat_mono q (fun _ _ z => z.grow g) fun _ _ _ z => z.grow g⟩
  | false => exact ⟨⟨μ, S, H⟩, ρ, rfl, h1, er.mono g, Res.sat_mono q (fun _ _ z => z.grow g) fun _ _ _ z => z.grow g⟩
theorem ss_for {tg iter : Expr} {body : List Stmt} {t : Tg} {it : Mini.It} {xs : List Mini.St} {pos : Pos} (hp : PassesOwn (model X.prog X.w) X.A X.env X.xe) (hc : X.calm = true) (hi : PI X tg iter (tI G p W it)) (hg : PG X tg (tG G p W t)) (hb : PSs X body (tSs G p W xs))
    (hs : ∀ x, foldedSetIterable iter X.env x = pure x) : PS X (.For tg iter body [] pos) (tS G p W (.for_ t it xs)) := by
  refine PS.imp (ps_for hp hc hi hg hb hs) fun D σ H ⟨A, ρ, hH, hr, er, h⟩ => ?_
  subst hH
  refine ⟨A, ρ, rfl, hr, er, Res.sat_mono (Res.sat_bind (show ((evI p it ρ A.S).bind fun src S1 => forN src (fun d S ρ => (asg p t d ρ S).bind fun ρ1 S1 => evSs p xs ρ1 S1) p.fuel 0 S1 ρ).sat _ _ from h)) (fun src S1 f μ1 H1 J g h1 ok => ?_) fun _ _ _ z => z σ⟩
  generalize hC : (⟨μ1, S1, H1⟩ : Ab) = C at g h1 ok
  have eS : S1 = C.S := by rw [← hC]
  have eH : H1 = C.H := by rw [← hC]
  rw [eS] at f
  rw [eH]
  refine ⟨fun i m σ H => ∃ B ρ, B.H = H ∧ Grow G C B ∧ HR G B ∧ ER G B ρ σ ∧ (forN src (fun d S ρ => (asg p t d ρ S).bind fun ρ1 S1 => evSs p xs ρ1 S1) m i B.S ρ).sat (FinF G A D) (XA G A W), ⟨p.fuel, C, ρ, rfl, .refl, h1, er.mono g, f⟩, ?_⟩
  rintro i m σ H ⟨B, ρ, rfl, gB, hB, er, f⟩
  cases m with
  | zero => exact (show False from f).elim
  | succ m =>
    have so := ok B gB hB i
    unfold forN at f
    cases q : src i B.S with
    | bad => rw [q] at f; exact (show False from f).elim
    | stop =>
      rw [q] at f so
      exact .inl ⟨so, (show FinF G A D (.nx ρ) B.S from f) B.μ σ B.H (g.trans gB) hB er⟩
    | item d =>
      rw [q] at f so
      refine .inr ⟨so.1, _, fun σ' H' hh => ⟨m, Nat.lt_succ_self _, hh⟩, fun x H' hy => ?_⟩
      obtain ⟨gx, hx, rx⟩ := so.2 x H' hy
      have f := Res.sat_bind (Res.sat_bind f)
      have g0 : Grow G A ⟨B.μ, B.S, H'⟩ := (g.trans gB).trans gx
      refine ⟨⟨B.μ, B.S, H'⟩, ρ, d, rfl, hx, er.mono gx, rx, Res.sat_mono f (fun ρ1 S2 f μ2 σ2 H2 g2 h2 er2 _ => ?_) fun _ _ _ z => z.grow g0⟩
      refine ⟨⟨μ2, S2, H2⟩, ρ1, rfl, h2, er2, Res.sat_mono f (fun fl S3 f => ?_) fun _ _ _ z => z.grow (g0.trans g2)⟩
      cases fl with
      | nx ρ3 => exact fun μ3 σ3 H3 g3 h3 er3 => ⟨⟨μ3, S3, H3⟩, ρ3, rfl, ((gB.trans gx).trans g2).trans g3, h3, er3, f⟩
      | rt d => exact Fin.grow (show Fin G A D.rt d S3 from f) (g0.trans g2)
      | bk ρ3 => exact fun μ3 σ3 H3 g3 h3 er3 => (show FinF G A D (.nx ρ3) S3 from f) μ3 σ3 H3 ((g0.trans g2).trans g3) h3 er3
theorem ss_while {c : Expr} {body : List Stmt} {x : Ex} {xs : List Mini.St} {pos : Pos} (hp : PassesOwn (model X.prog X.w) X.A X.env X.xe) (hc : PT X c (tT G p W x)) (hb : PSs X body (tSs G p W xs)) : PS X (.While c body [] pos) (tS G p W (.while_ x xs)) := by
  refine PS.imp (ps_while hp hc hb) fun D σ H ⟨A, ρ, hH, hr, er, h⟩ => ?_
  subst hH
  refine ⟨fun m σ H => ∃ B ρ, B.H = H ∧ Grow G A B ∧ HR G B ∧ ER G B ρ σ ∧ (whileN (evB p x) (evSs p xs) m ρ B.S).sat (FinF G A D) (XA G A W), ⟨p.fuel, A, ρ, rfl, .refl, hr, er, h⟩, ?_⟩
  rintro m σ H ⟨B, ρ, rfl, gB, hB, er, f⟩
  cases m with
  | zero => exact (show False from f).elim
  | succ m =>
    unfold whileN at f
    refine ⟨B, ρ, rfl, hB, er, Res.sat_mono (Res.sat_bind f) (fun t S q μ H g h1 => ?_) fun _ _ _ z => (z σ).grow gB⟩
    cases t with
    | false => exact (show FinF G A D (.nx ρ) S from q) μ σ H (gB.trans g) h1 (er.mono g)
    | true =>
      rw [if_pos rfl]
      refine ⟨_, fun σ' H' hh => ⟨m, Nat.lt_succ_self _, hh⟩, ⟨μ, S, H⟩, ρ, rfl, h1, er.mono g, Res.sat_mono (Res.sat_bind q) (fun fl S3 f => ?_) fun _ _ _ z => (z.grow gB).grow g⟩
      cases fl with
      | nx ρ3 => exact fun μ3 σ3 H3 g3 h3 er3 => ⟨⟨μ3, S3, H3⟩, ρ3, rfl, (gB.trans g).trans g3, h3, er3, f⟩
      | rt d => exact Fin.grow (show Fin G A D.rt d S3 from f) (gB.trans g)
      | bk ρ3 => exact fun μ3 σ3 H3 g3 h3 er3 => (show FinF G A D (.nx ρ3) S3 from f) μ3 σ3 H3 ((gB.trans g).trans g3) h3 er3
end Mini
set_option maxHeartbeats 4000000
/-! Mini: list(range(..)), o[i] += e, a dict with one entry, more stores of pairs. -/
namespace Mini
open PySem PySem.Spec PyProof.Rows L2

variable {G : Gx} {A A0 : Ab} {X : Cx} {W : WX} {p : Pg} {σ : L2.St} {ρ : Loc}
theorem repRg {i : Int} : ∀ n : Nat, RepL G A ((List.range n).map fun (k : Nat) => .int (i + (k : Int))) ((List.range n).map fun (k : Nat) => V.int (i + (k : Nat)))
  | 0 => .nil
  | n + 1 => by
    rw [List.range_succ, List.map_append, List.map_append]
    exact (repRg n).append (.cons rfl .nil)
theorem lrg_fin {i j : Int} {Q : VK} {E : Nat → List (Str × D) → Sto → Prop} (hB : HR G A) (q : (lrgE A.S (.int i) (.int j)).sat (Fin G A Q) E) : RgOk i j ∧ ∀ q, A.H q = none → Q (.ref q) (upd A.H q (.lst (rgV i j))) := by
  have q : (if inR i && inR j && decide ((j - i).toNat ≤ lineN) then new (.lst ((List.range (j - i).toNat).map fun (k : Nat) => .int (i + (k : Int)))) A.S else .no).sat (Fin G A Q) E := q
  split at q
  · rename_i hc
    rw [Bool.and_eq_true, Bool.and_eq_true, decide_eq_true_eq] at hc
    obtain ⟨i1, i2⟩ := inR_ok hc.1.1
    obtain ⟨j1, j2⟩ := inR_ok hc.1.2
    exact ⟨⟨i1, i2, j1, j2, hc.2⟩, fun a ha => Fin.lst q hB (repRg _) ha⟩
  · exact q.elim
theorem se_lrg1 {a : Expr} {x : Ex} {p1 p2 pos pos2 : Pos} (hc : X.calm = true) (gl : Gl X "list") (hm : X.mg "list" = none) (gr : Gl X "range") (hr : X.mg "range" = none) (hs : noStar a = true) (ha : PE X a (tE G p W x)) :
    PE X (.Call (.Name "list" p1) [.Call (.Name "range" p2) [a] [] pos2] [] pos) (tE G p W (.lrg1 x)) := by
  refine PE.imp (pe_listRg hc gl hm (prg_1 gr hr ha (star_cons hs)) (star_cons rfl)) fun σ H Q ⟨A, ρ, hH, hR, er, h⟩ => ?_
  subst hH
  refine tR_bind .refl hR er rfl (show ((evE p x ρ A.S).bind fun x S1 => lrgE S1 (.int 0) x).sat _ _ from h) fun B d v g hB rd q => ?_
  cases d with
  | int j =>
    have := lrg_fin (Q := Q) hB (Res.sat_mono q (fun _ _ f => f.grow g) fun _ _ _ z => z)
    exact ⟨j, rd, this.1, this.2⟩
  | _ => exact (show False from q).elim
theorem se_lrg2 {a b : Expr} {x y : Ex} {p1 p2 pos pos2 : Pos} (hc : X.calm = true) (gl : Gl X "list") (hm : X.mg "list" = none) (gr : Gl X "range") (hr : X.mg "range" = none) (hs : noStar a = true) (hs2 : noStar b = true) (ha : PE X a (tE G p W x)) (hb : PE X b (tE G p W y)) :
    PE X (.Call (.Name "list" p1) [.Call (.Name "range" p2) [a, b] [] pos2] [] pos) (tE G p W (.lrg2 x y)) := by
  refine PE.imp (pe_listRg hc gl hm (prg_2 gr hr ha hb (by rw [star_cons hs]) (star_cons hs2) (star_all (by simp [hs2]))) (star_cons rfl)) fun σ H Q ⟨A, ρ, hH, hR, er, h⟩ => ?_
  subst hH
  refine tR_bind .refl hR er rfl (show ((evE p x ρ A.S).bind fun x S1 => (evE p y ρ S1).bind fun y S2 => lrgE S2 x y).sat _ _ from h) fun B d v g hB rd q => ?_
  refine tR_bind g hB (er.mono g) rfl q fun C e u g2 hC re q => ?_
  cases d with
  | int i =>
    cases e with
    | int j =>
      have := lrg_fin (Q := Q) hC (Res.sat_mono q (fun _ _ f => f.grow (g.trans g2)) fun _ _ _ z => z)
      exact ⟨i, j, rd, re, this.1, this.2⟩
    | _ => exact (show False from q).elim
  | _ => exact (show False from q).elim

theorem trg_fin {i j : Int} {Q : VK} {E : Nat → List (Str × D) → Sto → Prop} (hB : HR G A) (q : (trgE A.S (.int i) (.int j)).sat (Fin G A Q) E) : RgOk i j ∧ ∀ q, A.H q = none → Q (.ref q) (upd A.H q (.tup (rgV i j))) := by
  have q : (if inR i && inR j && decide ((j - i).toNat ≤ lineN) then Res.ok (.tup ((List.range (j - i).toNat).map fun (k : Nat) => .int (i + (k : Int)))) A.S else .no).sat (Fin G A Q) E := q
  split at q
  · rename_i hc
    rw [Bool.and_eq_true, Bool.and_eq_true, decide_eq_true_eq] at hc
    obtain ⟨i1, i2⟩ := inR_ok hc.1.1
    obtain ⟨j1, j2⟩ := inR_ok hc.1.2
    exact ⟨⟨i1, i2, j1, j2, hc.2⟩, fun a ha => Fin.tup q hB (repRg _) ha⟩
  · exact q.elim
theorem se_trg1 {a : Expr} {x : Ex} {p1 p2 pos pos2 : Pos} (hc : X.calm = true) (gl : Gl X "tuple") (hm : X.mg "tuple" = none) (gr : Gl X "range") (hr : X.mg "range" = none) (hs : noStar a = true) (ha : PE X a (tE G p W x)) :
    PE X (.Call (.Name "tuple" p1) [.Call (.Name "range" p2) [a] [] pos2] [] pos) (tE G p W (.trg1 x)) := by
  refine PE.imp (pe_tupRg hc gl hm (prg_1 gr hr ha (star_cons hs)) (star_cons rfl)) fun σ H Q ⟨A, ρ, hH, hR, er, h⟩ => ?_
  subst hH
  refine tR_bind .refl hR er rfl (show ((evE p x ρ A.S).bind fun x S1 => trgE S1 (.int 0) x).sat _ _ from h) fun B d v g hB rd q => ?_
  cases d with
  | int j =>
    have := trg_fin (Q := Q) hB (Res.sat_mono q (fun _ _ f => f.grow g) fun _ _ _ z => z)
    exact ⟨j, rd, this.1, this.2⟩
  | _ => exact (show False from q).elim
theorem se_trg2 {a b : Expr} {x y : Ex} {p1 p2 pos pos2 : Pos} (hc : X.calm = true) (gl : Gl X "tuple") (hm : X.mg "tuple" = none) (gr : Gl X "range") (hr : X.mg "range" = none) (hs : noStar a = true) (hs2 : noStar b = true) (ha : PE X a (tE G p W x)) (hb : PE X b (tE G p W y)) :
    PE X (.Call (.Name "tuple" p1) [.Call (.Name "range" p2) [a, b] [] pos2] [] pos) (tE G p W (.trg2 x y)) := by
  refine PE.imp (pe_tupRg hc gl hm (prg_2 gr hr ha hb (by rw [star_cons hs]) (star_cons hs2) (star_all (by simp [hs2]))) (star_cons rfl)) fun σ H Q ⟨A, ρ, hH, hR, er, h⟩ => ?_
  subst hH
  refine tR_bind .refl hR er rfl (show ((evE p x ρ A.S).bind fun x S1 => (evE p y ρ S1).bind fun y S2 => trgE S2 x y).sat _ _ from h) fun B d v g hB rd q => ?_
  refine tR_bind g hB (er.mono g) rfl q fun C e u g2 hC re q => ?_
  cases d with
  | int i =>
    cases e with
    | int j =>
      have := trg_fin (Q := Q) hC (Res.sat_mono q (fun _ _ f => f.grow (g.trans g2)) fun _ _ _ z => z)
      exact ⟨i, j, rd, re, this.1, this.2⟩
    | _ => exact (show False from q).elim
  | _ => exact (show False from q).elim

/-! ### a dict with one entry -/
theorem se_dct1 {x : Str} {k : Nat} {e : Expr} {v : V} {p1 pos : Pos} (he : PE X e (tC v)) : PE X (.Dict [some (.Constant (.str x) k p1)] [e] pos) (tE G p W .dct) := by
  refine PE.imp (pe_disp (pps_cons pe_str he pps_nil) rfl rfl (by simp) (by simp)) fun σ H Q ⟨A, ρ, hH, hr, er, h⟩ => ?_
  subst hH
  intro q hq
  refine ⟨upd_same, [(.inr x, v)], rfl, by simp, ?_⟩
  generalize hkv : mergeK [] [((.inr x : Key), v)] = kvs
  have e2 : upd (upd A.H q (.dK [])) q (.dK kvs) = upd A.H q (.dK kvs) := by
    funext b
    by_cases hb : b = q
    · subst hb; rw [upd_same, upd_same]
    · rw [upd_ne hb, upd_ne hb, upd_ne hb]
  rw [e2]
  have t : ∀ a ys, SqT G.K A.H a ys → SqT G.K (upd A.H q (.dK kvs)) a ys := fun a ys z => sqT_put z fun u e => by rw [hq] at e; cases e
  have g : Grow G A (A.add q .dct (upd A.H q (.dK kvs))) := .add t
  exact (show Fin G A Q (.ref A.S.length) (A.S ++ [.dct]) from h) _ _ _ g (hr.add hq t (fun a ys z => fzL_put z fun u e => by rw [hq] at e; cases e) (fun b o e => by rw [upd_ne (ne_of_none e hq)]; exact e) ⟨_, upd_same⟩) ⟨by show A.S.length < (A.S ++ [Mini.Cl.dct]).length; simp, by show V.ref q = V.ref (if A.S.length = A.S.length then q else _); rw [if_pos rfl]⟩

/-! ### o[i] += e -/
def rIxD (G : Gx) : V → V → Hp → VK → Prop := fun o i H Q => ∃ A d e b, A.H = H ∧ HR G A ∧ Rep G A d o ∧ Rep G A e i ∧ ixL A.S d e = some b ∧ Fin G A Q b A.S
theorem pg_ix : PGet X (rIxD G) := by
  intro pins s σ H o i ov iv Q I ro ri ⟨A, d, e, b, hH, hr, rd, re, hb, f⟩
  subst hH
  cases d with
  | ref n =>
    obtain ⟨_, rfl⟩ := rd
    cases e with
    | int k =>
      have hb : ((lstAt A.S n).bind fun xs => atI xs k) = some b := hb
      cases hl : lstAt A.S n with
      | none => rw [hl] at hb; cases hb
      | some ds =>
        rw [hl] at hb
        have hb : atI ds k = some b := hb
        obtain ⟨_, xs, h1, r1⟩ := hr.lstAt hl
        cases (show i = V.int k from re)
        obtain ⟨t, rfl⟩ := ri
        cases ro
        obtain ⟨its, rv, pl, hz⟩ := I.list (.of h1)
        obtain ⟨j, h1', h2, h3, h4, h5⟩ := atI_get hb
        obtain ⟨x, hx, rx⟩ := r1.get h2
        obtain ⟨w, ew, rw'⟩ := rv.get hx
        have hl1 := rv.length
        have hl2 := r1.length
        have hn := line63
        have fin : EP X pins σ Q w s := ⟨x, A.H, I, rw', Fin.at f .refl hr rx⟩
        by_cases h0 : 0 ≤ k
        · have hj : k.toNat = j := by
            rw [seqIndex_of h0 h5] at h1'
            exact Option.some.inj h1'
          exact wpAny_getItem_list pl.isList h0 (by omega) (by rw [hj]; simpa using ew) fin
        · have hj : (k + (its.toArray.size : Int)).toNat = j := by
            rw [seqIndex_neg (by omega) h4] at h1'
            rw [List.size_toArray, ← hl1, hl2]
            exact Option.some.inj h1'
          exact wpAny_getItem_list_neg pl.isList (by omega) (by rw [List.size_toArray]; omega) (by omega) (by rw [hj]; simpa using ew) fin
    | _ => cases hb
  | _ => cases hb
theorem aug_ix {i : Expr} (h : (match i with
    | .Slice .. => false
    | _ => true) = true) (ov iv new : Value) : augStore i ov iv new = (do holding [new, ov, iv] (setItem ov iv new); release [new, ov, iv] []; pure .next) := by
  cases i <;> first | rfl | cases h
theorem ss_augS {o i e : Expr} {x y z : Ex} {pos tpos : Pos} (ho : PE X o (tE G p W x)) (hi : PE X i (tE G p W y)) (he : PE X e (tE G p W z)) (ha : ∀ ov iv new, augStore i ov iv new = (do holding [new, ov, iv] (setItem ov iv new); release [new, ov, iv] []; pure .next)) :
    PS X (.AugAssign (.Subscript o i tpos) .Add e pos) (tS G p W (.augS x y .add z)) := by
  refine PS.imp (ps_augS ho hi (pg_ix (G := G)) he ip_add (sn_set (G := G)) ha) fun D σ H ⟨A, ρ, hH, hr, er, h⟩ => ?_
  subst hH
  refine tS_bind .refl hr er (show ((evE p x ρ A.S).bind fun x S1 => (evE p y ρ S1).bind fun y S2 => (ofOpt S2 (ixL S2 x y)).bind fun u S2 => (evE p z ρ S2).bind fun v S3 => (ofOpt S3 (augE u v .add)).bind fun z S3 => (ofOpt S3 (storeE x y z S3)).bind fun S4 _ => Res.ok (Fl.nx ρ) S4).sat _ _ from h) fun B d v g hB rd q => ?_
  refine tS_bind g hB (er.mono g) q fun C e w g2 hC re q => ?_
  obtain ⟨u, hu, q⟩ := sat_opt q
  refine ⟨C, d, e, u, rfl, hC, rd.mono g2, re, hu, fun μ uv H1 g3 h3 ru => ?_⟩
  generalize hD : (⟨μ, C.S, H1⟩ : Ab) = C1 at g3 h3 ru
  have eS : C.S = C1.S := by rw [← hD]
  have eH : H1 = C1.H := by rw [← hD]
  rw [eS] at q
  rw [eH]
  refine tS_bind ((g.trans g2).trans g3) h3 (er.mono ((g.trans g2).trans g3)) q fun F f fv g4 hF rf q => ?_
  obtain ⟨zz, hz, q⟩ := sat_opt q
  obtain ⟨S4, hs, q⟩ := sat_opt q
  cases u with
  | int a =>
    cases f with
    | int b =>
      have : some (Mini.D.int (a + b)) = some zz := hz
      cases this
      refine ⟨a, b, ru.mono g4, rf, ?_⟩
      cases d with
      | ref n =>
        obtain ⟨n1, rfl⟩ := rd
        cases e with
        | int k =>
          have hs : (match lstAt F.S n with
            | some xs => match ixN xs.length k with
              | some j => some (F.S.set n (.lst (xs.set j (.int (a + b)))))
              | none => none
            | none => none) = some S4 := hs
          cases hl : lstAt F.S n with
          | none => rw [hl] at hs; cases hs
          | some ds =>
            rw [hl] at hs
            dsimp only at hs
            cases hj : ixN ds.length k with
            | none => rw [hj] at hs; cases hs
            | some j =>
              rw [hj] at hs
              cases hs
              have gg := (g2.trans g3).trans g4
              refine ⟨F, n, k, j, .int (a + b), ds, rfl, hF, Nat.lt_of_lt_of_le n1 gg.len, by rw [gg.μ n n1], re, rfl, hl, hj, fun H' hr' g' => ?_⟩
              have g5 := (g.trans gg).trans g'
              exact (show FinF G A D (.nx ρ) _ from q) F.μ σ H' g5 hr' (er.mono g5)
        | _ => cases hs
      | _ => cases hs
    | _ => cases hz
  | _ => cases hz

/-! ### a pair stored that is not exchanged -/
def swName (env : Env) (line : Nat) : Expr → Option Str
  | .Name id pos => if env.kindOf id == some .local && pos.line == line then some id else none
  | _ => none
theorem tup_fold {ts vs : List Expr} {k k2 : Nat} {pt pt2 : Pos} {env : Env} (h : vs.all (foldedForSure 8) = true) : swappedStores [.Tuple ts k pt] (.Tuple vs k2 pt2) env = pure none := by
  unfold swappedStores
  simp only [h]
  split
  · rfl
  · split
    · rfl
    · split <;> rfl
theorem tup_names {ts vs : List Expr} {k k2 : Nat} {pt pt2 : Pos} {env : Env} (h : ((ts.filterMap (swName env ((ts.head?.map (·.pos.line)).getD 0))).length != ts.length) = true) : swappedStores [.Tuple ts k pt] (.Tuple vs k2 pt2) env = pure none := by
  unfold swappedStores
  simp only []
  split
  · rfl
  · split
    · rfl
    · refine (if_pos ?_).trans rfl
      rw [Bool.or_eq_true]
      left
      refine Eq.trans ?_ h
      congr 3
end Mini
set_option maxHeartbeats 4000000
/-! Mini: from the text to Mini, and that it keeps. -/
namespace Mini
open PySem PySem.Spec PyProof.Rows L2

def badNm (x : Str) : Bool := decide (x = "__debug__") || decide (x = "__classdict__") || decide (x = "__name__")
def visB (sc : Scope) (x : Str) : Bool := match sc.names.lookup x with
  | some .local => true
  | some .cell => true
  | some .free => true
  | _ => false
def glB (sc : Scope) (x : Str) : Bool := match sc.names.lookup x with
  | some .globalImplicit => true
  | _ => false
def locB (sc : Scope) (x : Str) : Bool := match sc.names.lookup x with
  | some .local => true
  | _ => false
def idx (N : List Str) (x : Str) : Option Nat := match N.findIdx? (fun y => decide (y = x)) with
  | some i => if N[i]? = some x then some i else none
  | none => none
def noSet : Expr → Bool
  | .Set .. => false
  | _ => true
def noIn : CmpOp → Bool
  | .In => false
  | .NotIn => false
  | _ => true
def noComp : Expr → Bool
  | .ListComp .. => false
  | .SetComp .. => false
  | .DictComp .. => false
  | _ => true
def plainBase : Expr → Bool
  | .Name .. => true
  | .Attribute .. => true
  | .Subscript .. => true
  | .Call (.Name _ _) (_ :: _) _ _ => true
  | _ => false
def noSlice : Expr → Bool
  | .Slice .. => false
  | _ => true
def bopOf : Operator → Option Bop
  | .Add => some .add | .Sub => some .sub | .Mult => some .mul | .FloorDiv => some .fdiv | .Mod => some .mod | .Pow => some .pow | .BitAnd => some .band
  | _ => none
def copOf : CmpOp → Cop
  | .Eq => .eq | .NotEq => .ne | .Lt => .lt | .LtE => .le | .Gt => .gt | .GtE => .ge | .Is => .is | .IsNot => .isnot | .In => .isin | .NotIn => .notin
def tyOfN (x : Str) : Option Ty :=
  if x = "int" then some .int else if x = "bool" then some .bool else if x = "str" then some .str else if x = "tuple" then some .tuple else if x = "list" then some .list else if x = "dict" then some .dict else none
def fnOfN (x : Str) : Option Fn :=
  if x = "len" then some .len else if x = "abs" then some .abs else if x = "max" then some .max else if x = "min" then some .min else if x = "int" then some .int else if x = "tuple" then some .tuple
  else if x = "list" then some .list else if x = "sum" then some .sum else if x = "all" then some .all else if x = "any" then some .any else if x = "divmod" then some .divmod else if x = "repr" then some .repr
  else if x = "str" then some .str else none
def meOfN (x : Str) : Option Me := if x = "append" then some .append else if x = "extend" then some .extend else if x = "pop" then some .pop else if x = "count" then some .count else if x = "index" then some .index else none
abbrev Rd := Scope → Expr → Option Ex
def cName (T : Tab) (N : List Str) (sc : Scope) (x : Str) : Option Ex :=
  if badNm x then none else if visB sc x then (idx N x).map .var else if glB sc x then (T.cons.lookup x).map .con else none
def cConst : Const → Option Ex
  | .none => some (.con .non)
  | .bool b => some (.con (.bl b))
  | .int i => some (.con (.int i))
  | .str x => some (.con (.str x))
  | _ => none
def cList (r : Rd) (sc : Scope) (es : List Expr) : Option (List Ex) := if es.all noStar then mapO (r sc) es else none
def cCmp (r : Rd) (sc : Scope) (a : Expr) (ops : List CmpOp) (bs : List Expr) : Option Ex := match ops, bs with
  | [o], [b] => if noSet b then match r sc a, r sc b with
    | some x, some y => some (.cmp (copOf o) x y)
    | _, _ => none else none
  | [o, o'], [b, c] => if noIn o && noIn o' then match r sc a, r sc b, r sc c with
    | some x, some y, some z => some (.chain (copOf o) (copOf o') x y z)
    | _, _, _ => none else none
  | _, _ => none
def cOpt (r : Rd) (sc : Scope) : Option Expr → Option (Option Ex)
  | none => some none
  | some e => (r sc e).map some
def cSub (r : Rd) (sc : Scope) (a b : Expr) : Option Ex := match b with
  | .Slice lo hi none _ => match r sc a, cOpt r sc lo, cOpt r sc hi with
    | some x, some l, some h => some (.sl x l h)
    | _, _, _ => none
  | .Slice none none (some (.UnaryOp .USub (.Constant (.int 1) _ _) _)) _ => (r sc a).map .rev
  | .Slice none (some b) (some (.UnaryOp .USub (.Constant (.int 1) _ _) _)) _ => match r sc a, r sc b with
    | some x, some y => some (.revT x y)
    | _, _ => none
  | .Slice .. => none
  | b => match r sc a, r sc b with
    | some x, some y => some (.ix x y)
    | _, _ => none
def cBlt (T : Tab) (r : Rd) (sc : Scope) (f : Str) (es : List Expr) : Option Ex :=
  if T.gcd.contains f then (if es.isEmpty then none else (cList r sc es).map (.fn .gcd))
  else if T.lcm.contains f then (if es.isEmpty then none else (cList r sc es).map (.fn .lcm))
  else if !T.blt.contains f then none
  else if f = "isinstance" then match es with
    | [e, .Name ty _] => if badNm ty || !glB sc ty || !noStar e then none else if !T.blt.contains ty then (match T.iss.lookup ty with
      | some c => (r sc e).map (.isc · c)
      | none => none) else match tyOfN ty, r sc e with
      | some t, some x => some (.fn (.isi t) [x])
      | _, _ => none
    | _ => none
  else if es.isEmpty then none else match fnOfN f, cList r sc es with
    | some g, some xs => some (.fn g xs)
    | _, _ => none
def kwNames : List Keyword → Option (List Str)
  | [] => some []
  | ⟨some x, _, _⟩ :: r => (kwNames r).map (x :: ·)
  | _ => none
def kwVals : List Keyword → List Expr
  | [] => []
  | ⟨_, e, _⟩ :: r => e :: kwVals r
def kwFind (i n : Nat) (names : List Str) : List (Nat × Nat × List Str × List Nat) → Option (List Nat)
  | [] => none
  | (j, m, ns, q) :: r => if j = i ∧ m = n ∧ ns = names then some q else kwFind i n names r
def cOwn (T : Tab) (r : Rd) (sc : Scope) (i : Nat) (es : List Expr) (kws : List Keyword) : Option Ex := match kws with
  | [] => (cList r sc es).map (.call i · none)
  | _ => match cList r sc es, mapO (r sc) (kwVals kws), kwNames kws with
    | some xs, some ys, some ns => (kwFind i es.length ns T.kws).map fun q => .call i (xs ++ ys) (some q)
    | _, _, _ => none
def cCall (T : Tab) (r : Rd) (sc : Scope) (f : Expr) (es : List Expr) (kws : List Keyword) (pos : Pos) : Option Ex := match f with
  | .Name x _ => if badNm x || !glB sc x then none else match T.fns.lookup x with
    | some i => cOwn T r sc i es kws
    | none => if !kws.isEmpty then none else match T.cls.lookup x with
      | some c => (cList r sc es).map (.make c)
      | none => cBlt T r sc x es
  | .Attribute o m apos => if !kws.isEmpty || !plainBase o || !(apos.endLine == pos.line) || !decide (es.length < 29) then none else match meOfN m, r sc o, cList r sc es with
    | some g, some x, some xs => some (.me g x xs)
    | none, some x, some xs => if T.ms.contains m then some (.meth m x xs) else none
    | _, _, _ => none
  | _ => none
/-- targets -/
def cTg (sx : Str → Bool) (N : List Str) (r : Rd) (sc : Scope) : Nat → Expr → Option Tg
  | 0, _ => none
  | k + 1, e => match e with
    | .Name x _ => if sx x then (idx N x).map .nm else none
    | .Tuple es _ _ => if es.all plainTg then (mapO (cTg sx N r sc k) es).map .tp else none
    | .Subscript o i _ => if noSlice i then match r sc o, r sc i with
      | some x, some y => some (.ix x y)
      | _, _ => none else none
    | _ => none
def cIt (T : Tab) (r : Rd) (sc : Scope) (tup : Bool) (e : Expr) : Option It := match e with
  | .Call (.Name f _) es [] _ =>
    if f = "range" then (if !glB sc f || !T.blt.contains f || !es.all noStar then none else match es with
      | [a] => (r sc a).map .rng1
      | [a, b] => match r sc a, r sc b with
        | some x, some y => some (.rng2 x y)
        | _, _ => none
      | [a, b, c] => match r sc a, r sc b, r sc c with
        | some x, some y, some z => some (.rng3 x y z)
        | _, _, _ => none
      | _ => none)
    else if f = "zip" then (if !glB sc f || !T.blt.contains f || !es.all noStar || !tup then none else match es with
      | [a, b] => match r sc a, r sc b with
        | some x, some y => some (.zip x y)
        | _, _ => none
      | [a, b, c] => match r sc a, r sc b, r sc c with
        | some x, some y, some z => some (.zip3 x y z)
        | _, _, _ => none
      | _ => none)
    else if f = "enumerate" then (if !glB sc f || !T.blt.contains f || !es.all noStar || !tup then none else match es with
      | [a] => (r sc a).map .enum
      | _ => none)
    else (r sc e).map .val
  | e => if noSet e then (r sc e).map .val else none
def isTup : Expr → Bool
  | .Tuple .. => true
  | _ => false
def ownOf (N : List Str) : List (Str × NameKind) → List (Str × Nat)
  | [] => []
  | (x, k) :: r => match k, idx N x with
    | .local, some i => (x, i) :: ownOf N r
    | .cell, some i => (x, i) :: ownOf N r
    | _, _ => ownOf N r
/-- what a comprehension's block may store to -/
def sxB (sc scope : Scope) (x : Str) : Bool := match (relS scope sc).names.lookup x with
  | some .local => true
  | some .cell => match scope.names.lookup x with
    | some .cell => true
    | _ => false
  | _ => false
def cComp (T : Tab) (N : List Str) (r : Rd) (sc : Scope) (elt : Expr) (gs : List Comprehension) (scope : Scope) : Option Ex := match gs with
  | [⟨tg, iter, ifs, 0⟩] => if !blkC N sc scope (ownOf N scope.names) then none else
      match cTg (sxB sc scope) N r (relS scope sc) 4 tg, cIt T r sc (isTup tg) iter, r (relS scope sc) elt with
      | some t, some it, some x => if !tgIn ((ownOf N scope.names).map (·.2)) t then none else match ifs with
        | [] => some (.comp t it [] x ((ownOf N scope.names).map (·.2)))
        | [c] => (r (relS scope sc) c).map fun y => .comp t it [y] x ((ownOf N scope.names).map (·.2))
        | _ => none
      | _, _, _ => none
  | _ => none
def cLrg (T : Tab) (r : Rd) (sc : Scope) (f : Expr) (es : List Expr) (kws : List Keyword) : Option Ex := match f, es, kws with
  | .Name l _, [.Call (.Name g _) as [] _], [] => if l = "list" ∧ g = "range" ∧ glB sc l = true ∧ glB sc g = true ∧ T.blt.contains l = true ∧ T.blt.contains g = true ∧ as.all noStar = true then match as with
    | [a] => (r sc a).map .lrg1
    | [a, b] => match r sc a, r sc b with
      | some x, some y => some (.lrg2 x y)
      | _, _ => none
    | _ => none else if l = "tuple" ∧ g = "range" ∧ glB sc l = true ∧ glB sc g = true ∧ T.blt.contains l = true ∧ T.blt.contains g = true ∧ as.all noStar = true then match as with
    | [a] => (r sc a).map .trg1
    | [a, b] => match r sc a, r sc b with
      | some x, some y => some (.trg2 x y)
      | _, _ => none
    | _ => none else none
  | _, _, _ => none
def cE1 (T : Tab) (N : List Str) (r : Rd) (sc : Scope) (e : Expr) : Option Ex := match e with
  | .Name x _ => cName T N sc x
  | .Constant c _ _ => cConst c
  | .Tuple [.Starred a _, .Starred b _] _ _ => match r sc a, r sc b with
    | some x, some y => some (.cat2 x y)
    | _, _ => none
  | .Tuple es _ _ => (cList r sc es).bind fun xs => if xs.length ≤ 1000 then some (.tup xs) else none
  | .List [a, .Starred b _, c] _ => if noStar a && noStar c then match r sc a, r sc b, r sc c with
    | some x, some y, some z => some (.mid3 x y z)
    | _, _, _ => none else none
  | .List es _ => (cList r sc es).bind fun xs => if xs.length ≤ 1000 then some (.lst xs) else none
  | .Dict [] [] _ => some .dct
  | .Dict [some (.Constant (.str _) _ _)] [.Constant v _ _] _ => (cConst v).map fun _ => .dct
  | .BinOp a op b _ => match bopOf op, r sc a, r sc b with
    | some o, some x, some y => some (.bin o x y)
    | _, _, _ => none
  | .UnaryOp .USub a _ => (r sc a).map .neg
  | .UnaryOp .Not a _ => (r sc a).map .not
  | .BoolOp _ [a] _ => r sc a
  | .BoolOp .And (a :: b :: rest) p => match r sc a, r sc (.BoolOp .And (b :: rest) p) with
    | some x, some y => some (.and x y)
    | _, _ => none
  | .BoolOp .Or (a :: b :: rest) p => match r sc a, r sc (.BoolOp .Or (b :: rest) p) with
    | some x, some y => some (.or x y)
    | _, _ => none
  | .Compare a ops bs _ => cCmp r sc a ops bs
  | .IfExp c a b _ => match r sc c, r sc a, r sc b with
    | some z, some x, some y => some (.ite z x y)
    | _, _, _ => none
  | .Attribute o f _ => if plainBase o && T.flds.contains f then (r sc o).map (.fld · f) else none
  | .Subscript a b _ => cSub r sc a b
  | .Call f es kws pos => match cLrg T r sc f es kws with
    | some x => some x
    | none => cCall T r sc f es kws pos
  | .ListComp elt gs scope _ => cComp T N r sc elt gs scope
  | _ => none
def cE (T : Tab) (N : List Str) : Nat → Rd
  | 0 => fun _ _ => none
  | n + 1 => cE1 T N (cE T N n)

/-! ### what the context holds -/
structure Gd (T : Tab) (G : Gx) (p : Pg) (X : Cx) (W : WX) : Prop where
  hK : X.K = G.K
  calm : X.calm = true
  nd : X.N.Nodup
  gds : X.A.guards = some []
  units : X.A.units + 65 < cLine
  tk : Takes X W
  fn : ∀ x i, T.fns.lookup x = some i → ∃ k f fd ps, FnG X.prog X.w X.K X.mg X.base k f fd ps (spD G (p.call i)) ∧ Room k X.A ∧ X.mg x = some (.ref f) ∧ PySem.W.keepIn X.K (.ref f) = true ∧ Binds X.K fd ps [] ∧
    ∀ n ns q, (i, n, ns, q) ∈ T.kws → ∀ (s : Shared) (us ws : List Value), us.length = n → ws.length = ns.length → BindsTo s fd ⟨us, ns.zip ws⟩ (ps.zip (permV .none (us ++ ws) q))
  con : ∀ x d, T.cons.lookup x = some d → ∃ v u, X.mg x = some u ∧ RelV v u ∧ ∀ A, Rep G A d v
  blt : ∀ x ∈ T.blt, X.mg x = none
  gcd : ∀ x ∈ T.gcd, X.mg x = some (.builtin "math.gcd")
  cls : ∀ x c, T.cls.lookup x = some c → ∃ k f fd ps r, Mk X.K (G.ca c) f ∧ FnG X.prog X.w X.K X.mg X.base k f fd ps (spD G r) ∧ (∀ ds S, p.make c ds S = initE r c ds S) ∧ Room (k + 1) X.A ∧ X.mg x = some (.ref (G.ca c)) ∧ Binds X.K fd ps []
  fld : ∀ f ∈ T.flds, ∀ c, Cls X.K (G.ca c) ∧ NoAttr X.K (G.ca c) f
  mth : ∀ m ∈ T.ms, ∀ c, p.own c m = true → ∃ r, Own X (G.ca c) m (spD G r) ∧ ∀ ds S, p.meth c m ds S = r ds S
  iss : ∀ x c, T.iss.lookup x = some c → X.mg x = some (.ref (G.ca c)) ∧ IsC X.K (G.ca c)
  lcm : ∀ x ∈ T.lcm, X.mg x = some (.builtin "math.lcm")
variable {T : Tab} {G : Gx} {p : Pg} {X : Cx} {W : WX} {N : List Str}
theorem Gd.blk {s : Shared} {H : Hp} {scope : Scope} {cenv : Env} {fp : List Addr} (g : Gd T G p X W) : Gd T G p (X.blk s H scope cenv fp) W0 :=
  ⟨g.hK, g.calm, g.nd, g.gds, g.units, takes0, g.fn, g.con, g.blt, g.gcd, g.cls, g.fld, fun m hm c ho => let ⟨r, ⟨h1⟩, h2⟩ := g.mth m hm c ho; ⟨r, ⟨h1⟩, h2⟩, g.iss, g.lcm⟩
def isBool : Expr → Bool
  | .BoolOp .. => true
  | _ => false
structure Kp (G : Gx) (p : Pg) (X : Cx) (W : WX) (e : Expr) (x : Ex) : Prop where
  pe : PE X e (tE G p W x)
  pt : PT X e (tT G p W x)
  pw : isBool e = true → PW X e (tT G p W x)
def OkE (T : Tab) (G : Gx) (p : Pg) (N : List Str) (r : Rd) : Prop := ∀ (X : Cx) (W : WX), Gd T G p X W → X.N = N → ∀ sc e x, X.env.scope = sc → r sc e = some x → Kp G p X W e x
def plainT : Expr → Bool
  | .UnaryOp .Not _ _ => false
  | .BoolOp .. => false
  | .IfExp .. => false
  | .Compare .. => false
  | _ => true
theorem plainT_ok {e : Expr} (h : plainT e = true) (env : Env) (whole : Sem Value) : isTrue e env whole = (do let v ← whole; standAt e.pos; holding [v] (truthy v)) := by
  cases e with
  | UnaryOp op a p => cases op <;> first | rfl | cases h
  | BoolOp => cases h
  | IfExp => cases h
  | Compare => cases h
  | _ => rfl
theorem Kp.plain {e : Expr} {x : Ex} (g : Gd T G p X W) (h : plainT e = true) (pe : PE X e (tE G p W x)) : Kp G p X W e x :=
  ⟨pe, st_plain g.hK pe (plainT_ok h X.env), fun z => by cases e <;> first | cases z; done | cases h⟩
theorem bad_ok {x : Str} (h : badNm x = false) : (x == ("__debug__" : Str)) = false ∧ (x == ("__classdict__" : Str)) = false ∧ x ≠ "__name__" := by
  unfold badNm at h
  simp only [Bool.or_eq_false_iff, decide_eq_false_iff_not] at h
  exact ⟨by simpa using h.1.1, by simpa using h.1.2, h.2⟩
theorem visB_ok {sc : Scope} {x : Str} (h : visB sc x = true) : Vis sc x := by
  unfold visB at h
  split at h <;> rename_i q
  · exact .inl q
  · exact .inr (.inl q)
  · exact .inr (.inr q)
  · cases h
theorem glB_ok {sc : Scope} {x : Str} (h : glB sc x = true) (e : X.env.scope = sc) : Gl X x := by
  unfold glB at h
  split at h
  · rename_i q
    show X.env.scope.names.lookup x = _
    rw [e]; exact q
  · cases h
theorem locB_ok {sc : Scope} {x : Str} (h : locB sc x = true) : sc.names.lookup x = some .local := by
  unfold locB at h
  split at h
  · rename_i q; exact q
  · cases h
theorem idx_ok {x : Str} {i : Nat} (h : idx N x = some i) : N[i]? = some x := by
  unfold idx at h
  split at h
  · split at h
    · rename_i q; cases h; exact q
    · cases h
  · cases h
theorem noSet_ok {op : CmpOp} {b : Expr} (h : noSet b = true) : behindInMarks op b = false := by
  cases b <;> first | rfl | cases h
theorem noIn_ok {op : CmpOp} (h : noIn op = true) (b : Expr) : behindInMarks op b = false := by
  cases op <;> first | (cases h; done) | exact nobehind b (by decide) (by decide)
theorem base_ok {o : Expr} {m : Str} {env : Env} {w : Sem Value} (h : plainBase o = true) : attributeBase o m env w = w := by
  unfold plainBase at h
  split at h <;> first | rfl | cases h
theorem mapO_cons {α β : Type} {f : α → Option β} {x : α} {xs : List α} {ys : List β} (h : mapO f (x :: xs) = some ys) : ∃ d ds, ys = d :: ds ∧ f x = some d ∧ mapO f xs = some ds := by
  have h : (match f x, mapO f xs with
    | some d, some ds => some (d :: ds)
    | _, _ => none) = some ys := h
  split at h
  · rename_i d ds h1 h2
    cases h
    exact ⟨d, ds, rfl, h1, h2⟩
  · cases h
theorem mapO_len {α β : Type} {f : α → Option β} : ∀ {xs : List α} {ys : List β}, mapO f xs = some ys → xs.length = ys.length
  | [], ys, h => by cases h; rfl
  | x :: xs, ys, h => by
    obtain ⟨d, ds, rfl, _, h2⟩ := mapO_cons h
    simp [mapO_len h2]
section
variable {r : Rd} {sc : Scope}
theorem cl_list (ok : OkE T G p N r) (g : Gd T G p X W) (hN : X.N = N) (hs : X.env.scope = sc) : ∀ {es : List Expr} {xs : List Ex}, es.all noStar = true → mapO (r sc) es = some xs → PA X es (tA G p W xs)
  | [], xs, _, h => by cases h; exact sa_nil
  | e :: es, xs, h0, h => by
    obtain ⟨d, ds, rfl, h1, h2⟩ := mapO_cons h
    have h3 : noStar e = true ∧ es.all noStar = true := by simpa using h0
    exact sa_cons h3.1 (ok X W g hN sc e d hs h1).pe (cl_list ok g hN hs h3.2 h2)
theorem cList_ok (ok : OkE T G p N r) (g : Gd T G p X W) (hN : X.N = N) (hs : X.env.scope = sc) {es : List Expr} {xs : List Ex} (h : cList r sc es = some xs) : es.all noStar = true ∧ es.length = xs.length ∧ PA X es (tA G p W xs) := by
  unfold cList at h
  split at h
  · rename_i h0
    exact ⟨h0, mapO_len h, cl_list ok g hN hs h0 h⟩
  · cases h
theorem cName_ok (g : Gd T G p X W) (hN : X.N = N) (hs : X.env.scope = sc) {x : Str} {pos : Pos} {y : Ex} (h : cName T N sc x = some y) : Kp G p X W (.Name x pos) y := by
  unfold cName at h
  split at h
  · cases h
  · rename_i hb
    obtain ⟨b1, b2, b3⟩ := bad_ok (by simpa using hb)
    split at h
    · rename_i hv
      obtain ⟨i, hi, rfl⟩ := Option.map_eq_some_iff.mp h
      exact .plain g rfl (se_var (by rw [hN]; exact idx_ok hi) (by rw [hs]; exact visB_ok hv) b1 b2)
    · split at h
      · rename_i hg
        obtain ⟨d, hd, rfl⟩ := Option.map_eq_some_iff.mp h
        obtain ⟨v, u, h1, h2, h3⟩ := g.con x d hd
        exact .plain g rfl (se_con (pe_glob (glB_ok hg hs) h1 h2 b1) h3)
      · cases h
theorem cConst_ok (g : Gd T G p X W) {c : Const} {k : Nat} {pos : Pos} {y : Ex} (h : cConst c = some y) : Kp G p X W (.Constant c k pos) y := by
  cases c with
  | none => cases h; exact .plain g rfl (se_con (v := .non) pe_non fun _ => rfl)
  | bool b => cases h; exact .plain g rfl (se_con (v := .bl b) pe_bl fun _ => rfl)
  | int i => cases h; exact .plain g rfl (se_con (v := .int i) pe_int fun _ => rfl)
  | str x => cases h; exact .plain g rfl (se_con (v := .str x) pe_str fun _ => rfl)
  | _ => cases h
theorem cop_ok (g : Gd T G p X W) (o : CmpOp) : OpR X (compareOp o) (rC2 G (cmpE (copOf o))) := by
  have u1 : X.A.units + 64 < cLine := Nat.lt_of_succ_lt g.units
  cases o with
  | Eq => exact sn_eq g.hK u1
  | NotEq => exact sn_ne g.hK u1
  | Lt => exact sn_lt
  | LtE => exact sn_le
  | Gt => exact sn_gt
  | GtE => exact sn_ge
  | Is => exact sn_is
  | IsNot => exact sn_isnot
  | In => exact sn_in g.hK g.units
  | NotIn => exact sn_notin g.hK g.units
theorem bop_ok (g : Gd T G p X W) {op : Operator} {o : Bop} (h : bopOf op = some o) : OpR X (binaryOp op) (rD2 G (binE o)) := by
  cases op <;> cases h
  · exact sn_add g.hK
  · exact sn_sub
  · exact sn_mul g.hK
  · exact sn_mod
  · exact sn_pow
  · exact sn_and
  · exact sn_fdiv
theorem cCmp_ok (ok : OkE T G p N r) (g : Gd T G p X W) (hN : X.N = N) (hs : X.env.scope = sc) {a : Expr} {ops : List CmpOp} {bs : List Expr} {pos : Pos} {y : Ex} (h : cCmp r sc a ops bs = some y) : Kp G p X W (.Compare a ops bs pos) y := by
  unfold cCmp at h
  split at h
  · rename_i o b
    split at h
    · rename_i hb
      split at h
      · rename_i x y' h1 h2
        cases h
        have A := (ok X W g hN sc a _ hs h1).pe
        have B := (ok X W g hN sc b _ hs h2).pe
        exact ⟨se_cmp (cop_ok g o) (noSet_ok hb) A B, st_cmp (cop_ok g o) (noSet_ok hb) A B, fun z => by cases z⟩
      · cases h
    · cases h
  · rename_i o o' b c
    split at h
    · rename_i hb
      split at h
      · rename_i x y' z' h1 h2 h3
        cases h
        rw [Bool.and_eq_true] at hb
        have A := (ok X W g hN sc a _ hs h1).pe
        have B := (ok X W g hN sc b _ hs h2).pe
        have C := (ok X W g hN sc c _ hs h3).pe
        exact ⟨se_chain (cop_ok g o) (cop_ok g o') (noIn_ok hb.1) (noIn_ok hb.2) A B C, st_chain (cop_ok g o) (cop_ok g o') (noIn_ok hb.1) (noIn_ok hb.2) A B C, fun z => by cases z⟩
      · cases h
    · cases h
  · cases h
theorem cOpt_ok (ok : OkE T G p N r) (g : Gd T G p X W) (hN : X.N = N) (hs : X.env.scope = sc) {o : Option Expr} {x : Option Ex} (h : cOpt r sc o = some x) : PO X o (tO G p W x) := by
  cases o with
  | none => cases h; exact so_none
  | some e =>
    obtain ⟨y, hy, rfl⟩ := Option.map_eq_some_iff.mp (show (r sc e).map some = some x from h)
    exact so_some (ok X W g hN sc e y hs hy).pe
theorem ix_plain {b : Expr} (h : noSlice b = true) : PlainIx b := by
  cases b <;> first | (intro o i; rfl) | cases h
theorem cSub_ok (ok : OkE T G p N r) (g : Gd T G p X W) (hN : X.N = N) (hs : X.env.scope = sc) {a b : Expr} {pos : Pos} {y : Ex} (h : cSub r sc a b = some y) : Kp G p X W (.Subscript a b pos) y := by
  unfold cSub at h
  split at h
  · split at h
    · rename_i x l hh h1 h2 h3
      cases h
      exact .plain g rfl (se_sl g.hK (ok X W g hN sc a _ hs h1).pe (cOpt_ok ok g hN hs h2) (cOpt_ok ok g hN hs h3))
    · cases h
  · obtain ⟨x, h1, rfl⟩ := Option.map_eq_some_iff.mp h
    exact .plain g rfl (se_rev g.hK (ok X W g hN sc a _ hs h1).pe)
  · split at h
    · rename_i x y' h1 h2
      cases h
      exact .plain g rfl (se_revT g.hK (ok X W g hN sc a _ hs h1).pe (ok X W g hN sc _ _ hs h2).pe)
    · cases h
  · cases h
  · rename_i n1 n2 n3
    split at h
    · rename_i x y' h1 h2
      cases h
      have hb : noSlice b = true := by
        cases b with
        | Slice lo hi st ps => exact absurd rfl (n3 lo hi st ps)
        | _ => rfl
      exact .plain g rfl (se_ix g.hK (ix_plain hb) (ok X W g hN sc a _ hs h1).pe (ok X W g hN sc b _ hs h2).pe)
    · cases h
theorem nt {a b : Bool} (h : ¬ (a || b) = true) : ¬ a = true ∧ ¬ b = true := by cases a <;> cases b <;> simp at h ⊢
theorem nn {a : Bool} (h : ¬ (!a) = true) : a = true := by cases a <;> simp at h ⊢
theorem nf {a : Bool} (h : ¬ a = true) : a = false := by cases a <;> simp at h ⊢
theorem emp_ne {α : Type} {es : List α} (h : ¬ es.isEmpty = true) : es ≠ [] := by
  intro e; subst e; exact h rfl
theorem has_ok {x : Str} {l : List Str} (h : l.contains x = true) : x ∈ l := by simpa using h
theorem cBlt_ok (ok : OkE T G p N r) (g : Gd T G p X W) (hN : X.N = N) (hs : X.env.scope = sc) {f : Str} {es : List Expr} {p1 pos : Pos} {y : Ex} (hb : badNm f = false) (hg : glB sc f = true) (h : cBlt T r sc f es = some y) : Kp G p X W (.Call (.Name f p1) es [] pos) y := by
  obtain ⟨b1, b2, b3⟩ := bad_ok hb
  have gl := glB_ok hg hs
  unfold cBlt at h
  split at h
  · rename_i hgc
    split at h
    · cases h
    · rename_i he
      obtain ⟨xs, h1, rfl⟩ := Option.map_eq_some_iff.mp h
      obtain ⟨c1, c2, c3⟩ := cList_ok ok g hN hs h1
      exact .plain g rfl (se_gcd gl (g.gcd f (has_ok hgc)) b1 c1 (emp_ne he) c3)
  · split at h
    · rename_i hgc
      split at h
      · cases h
      · rename_i he
        obtain ⟨xs, h1, rfl⟩ := Option.map_eq_some_iff.mp h
        obtain ⟨c1, c2, c3⟩ := cList_ok ok g hN hs h1
        exact .plain g rfl (se_lcm gl (g.lcm f (has_ok hgc)) b1 c1 (emp_ne he) c3)
    split at h
    · cases h
    · rename_i hbl
      have hm : X.mg f = none := g.blt f (has_ok (by simpa using hbl))
      split at h
      · rename_i hf
        subst hf
        split at h
        · rename_i e ty p2
          split at h
          · cases h
          · rename_i hc
            obtain ⟨hc, c4⟩ := nt hc
            obtain ⟨c1, c2⟩ := nt hc
            split at h
            · split at h
              · rename_i c hi
                obtain ⟨x, h1, rfl⟩ := Option.map_eq_some_iff.mp h
                obtain ⟨d1, d2, d3⟩ := bad_ok (nf c1)
                obtain ⟨i1, i2⟩ := g.iss ty c hi
                exact .plain g rfl (se_isc g.hK gl hm (glB_ok (nn c2) hs) i1 i2 d1 (nn c4) (ok X W g hN sc e _ hs h1).pe)
              · cases h
            rename_i c3
            split at h
            · rename_i t x h1 h2
              cases h
              obtain ⟨d1, d2, d3⟩ := bad_ok (nf c1)
              refine .plain g rfl (se_isi g.hK gl hm (glB_ok (nn c2) hs) (g.blt ty (has_ok (by simpa using c3))) ?_ d3 d1 (nn c4) (ok X W g hN sc e _ hs h2).pe)
              unfold tyOfN at h1
              split at h1
              · rename_i q; subst q; cases h1; decide +kernel
              · split at h1
                · rename_i q; subst q; cases h1; decide +kernel
                · split at h1
                  · rename_i q; subst q; cases h1; decide +kernel
                  · split at h1
                    · rename_i q; subst q; cases h1; decide +kernel
                    · split at h1
                      · rename_i q; subst q; cases h1; decide +kernel
                      · split at h1
                        · rename_i q; subst q; cases h1; decide +kernel
                        · cases h1
            · cases h
        · cases h
      · split at h
        · cases h
        · rename_i he
          split at h
          · rename_i gg xs h1 h2
            cases h
            obtain ⟨c1, c2, c3⟩ := cList_ok ok g hN hs h2
            have ne := emp_ne he
            refine .plain g rfl ?_
            unfold fnOfN at h1
            by_cases q : f = "len"
            · rw [if_pos q] at h1; subst q; cases h1; exact se_fn (sn_len g.hK) gl hm (by decide +kernel) b3 b1 c1 ne c3
            rw [if_neg q] at h1
            by_cases q : f = "abs"
            · rw [if_pos q] at h1; subst q; cases h1; exact se_fn sn_abs gl hm (by decide +kernel) b3 b1 c1 ne c3
            rw [if_neg q] at h1
            by_cases q : f = "max"
            · rw [if_pos q] at h1; subst q; cases h1; exact se_fn (sn_max g.hK g.calm) gl hm (by decide +kernel) b3 b1 c1 ne c3
            rw [if_neg q] at h1
            by_cases q : f = "min"
            · rw [if_pos q] at h1; subst q; cases h1; exact se_fn (sn_min g.hK g.calm) gl hm (by decide +kernel) b3 b1 c1 ne c3
            rw [if_neg q] at h1
            by_cases q : f = "int"
            · rw [if_pos q] at h1; subst q; cases h1; exact se_fnT sn_int gl hm (by decide +kernel) b3 b1 c1 ne c3
            rw [if_neg q] at h1
            by_cases q : f = "tuple"
            · rw [if_pos q] at h1; subst q; cases h1; exact se_fnT (sn_tuple g.hK) gl hm (by decide +kernel) b3 b1 c1 ne c3
            rw [if_neg q] at h1
            by_cases q : f = "list"
            · rw [if_pos q] at h1; subst q; cases h1; exact se_fnT (sn_list g.hK) gl hm (by decide +kernel) b3 b1 c1 ne c3
            rw [if_neg q] at h1
            by_cases q : f = "sum"
            · rw [if_pos q] at h1; subst q; cases h1; exact se_fn (sn_sum g.hK g.calm) gl hm (by decide +kernel) b3 b1 c1 ne c3
            rw [if_neg q] at h1
            by_cases q : f = "all"
            · rw [if_pos q] at h1; subst q; cases h1; exact se_fn (sn_all g.hK g.calm) gl hm (by decide +kernel) b3 b1 c1 ne c3
            rw [if_neg q] at h1
            by_cases q : f = "any"
            · rw [if_pos q] at h1; subst q; cases h1; exact se_fn (sn_any g.hK g.calm) gl hm (by decide +kernel) b3 b1 c1 ne c3
            rw [if_neg q] at h1
            by_cases q : f = "divmod"
            · rw [if_pos q] at h1; subst q; cases h1; exact se_fn sn_divmod gl hm (by decide +kernel) b3 b1 c1 ne c3
            rw [if_neg q] at h1
            by_cases q : f = "repr"
            · rw [if_pos q] at h1; subst q; cases h1; exact se_fn (sn_repr g.hK g.gds (Nat.lt_of_succ_lt g.units)) gl hm (by decide +kernel) b3 b1 c1 ne c3
            rw [if_neg q] at h1
            by_cases q : f = "str"
            · rw [if_pos q] at h1; subst q; cases h1; exact se_fnT sn_str gl hm (by decide +kernel) b3 b1 c1 ne c3
            rw [if_neg q] at h1
            cases h1
          · cases h
theorem kwNames_ok : ∀ {kws : List Keyword} {ns : List Str} {env : Env} {pos : Pos}, kwNames kws = some ns → (backToKw pos (keywordEach kws env)).all (·.1.isSome) = true ∧ (backToKw pos (keywordEach kws env)).filterMap (·.1) = ns
  | [], ns, _, _, h => by cases h; exact ⟨rfl, rfl⟩
  | ⟨none, e, kp⟩ :: r, ns, _, _, h => by cases h
  | ⟨some x, e, kp⟩ :: r, ns, env, pos, h => by
    obtain ⟨ms, h1, rfl⟩ := Option.map_eq_some_iff.mp (show (kwNames r).map (x :: ·) = some ns from h)
    obtain ⟨i1, i2⟩ := kwNames_ok (env := env) (pos := pos) h1
    constructor
    · show (true && (backToKw pos (keywordEach r env)).all (·.1.isSome)) = true
      rw [i1]; rfl
    · show x :: (backToKw pos (keywordEach r env)).filterMap (·.1) = x :: ms
      rw [i2]
theorem kw_len : ∀ {kws : List Keyword} {ns : List Str}, kwNames kws = some ns → (kwVals kws).length = ns.length
  | [], ns, h => by cases h; rfl
  | ⟨none, e, kp⟩ :: r, ns, h => by cases h
  | ⟨some x, e, kp⟩ :: r, ns, h => by
    obtain ⟨ms, h1, rfl⟩ := Option.map_eq_some_iff.mp (show (kwNames r).map (x :: ·) = some ns from h)
    show (kwVals r).length + 1 = _
    rw [kw_len h1]; rfl
theorem cl_kws (ok : OkE T G p N r) (g : Gd T G p X W) (hN : X.N = N) (hs : X.env.scope = sc) : ∀ {kws : List Keyword} {xs : List Ex}, mapO (r sc) (kwVals kws) = some xs → PK X kws (tA G p W xs)
  | [], xs, h => by cases h; exact sk_nil
  | ⟨nm, e, kp⟩ :: kws, xs, h => by
    obtain ⟨d, ds, rfl, h1, h2⟩ := mapO_cons h
    exact sk_cons (ok X W g hN sc e d hs h1).pe (cl_kws ok g hN hs h2)
theorem kwFind_ok {i n : Nat} {ns : List Str} : ∀ {l : List (Nat × Nat × List Str × List Nat)} {q : List Nat}, kwFind i n ns l = some q → (i, n, ns, q) ∈ l
  | [], q, h => by cases h
  | (j, m, ms, q') :: l, q, h => by
    unfold kwFind at h
    split at h
    · rename_i e
      obtain ⟨rfl, rfl, rfl⟩ := e
      cases h
      exact List.mem_cons_self
    · exact List.mem_cons_of_mem _ (kwFind_ok h)
theorem cOwn_ok (ok : OkE T G p N r) (g : Gd T G p X W) (hN : X.N = N) (hs : X.env.scope = sc) {f : Str} {i : Nat} {es : List Expr} {kws : List Keyword} {p1 pos : Pos} {y : Ex} (hb : badNm f = false) (hg : glB sc f = true) (hf : T.fns.lookup f = some i) (h : cOwn T r sc i es kws = some y) :
    Kp G p X W (.Call (.Name f p1) es kws pos) y := by
  obtain ⟨b1, b2, b3⟩ := bad_ok hb
  have gl := glB_ok hg hs
  obtain ⟨k, fa, fd, ps, F, hr, hm, hk, hbi, hkw⟩ := g.fn f i hf
  unfold cOwn at h
  split at h
  · obtain ⟨xs, h1, rfl⟩ := Option.map_eq_some_iff.mp h
    obtain ⟨c1, c2, c3⟩ := cList_ok ok g hN hs h1
    exact .plain g rfl (se_call F hr g.gds gl hm hk hbi g.tk b1 c1 (fun e => by subst e; cases xs with
      | nil => rfl
      | cons => cases c2) c3)
  · split at h
    · rename_i xs ys ns h1 h2 h3
      obtain ⟨q, h4, rfl⟩ := Option.map_eq_some_iff.mp h
      obtain ⟨c1, c2, c3⟩ := cList_ok ok g hN hs h1
      have l2 : ns.length = ys.length := by rw [← kw_len h3]; exact mapO_len h2
      exact .plain g rfl (se_callK F hr g.gds gl hm hk (hkw es.length ns q (kwFind_ok h4)) g.tk b1 c1 c2 l2 c3 (cl_kws ok g hN hs h2) fun pos => kwNames_ok h3)
    · cases h
theorem me_ok {m : Str} {gg : Me} (h : meOfN m = some gg) : ∃ id, Slot "list" m id ∧ typeOf (.builtin id) = pure (.type "method_descriptor") ∧ ∀ (X : Cx) (G : Gx), X.K = G.K → X.A.units + 65 < cLine → MtR X id (rMe G gg) := by
  unfold meOfN at h
  split at h
  · rename_i q; subst q; cases h; exact ⟨"list.append", PySem.F.slot_list_append, PySem.F.type_list_append, fun X G _ _ => sn_append⟩
  split at h
  · rename_i q; subst q; cases h; exact ⟨"list.extend", PySem.F.slot_list_extend, PySem.F.type_list_extend, fun X G _ _ => sn_extend⟩
  split at h
  · rename_i q; subst q; cases h; exact ⟨"list.pop", PySem.F.slot_list_pop, PySem.F.type_list_pop, fun X G _ _ => sn_pop⟩
  split at h
  · rename_i q; subst q; cases h; exact ⟨"list.count", PySem.F.slot_list_count, PySem.F.type_list_count, fun X G a b => sn_count a b⟩
  split at h
  · rename_i q; subst q; cases h; exact ⟨"list.index", PySem.F.slot_list_index, PySem.F.type_list_index, fun X G a b => sn_index a b⟩
  · cases h
theorem nil_of {α β : Type} {es : List α} {xs : List β} (h : es.length = xs.length) (e : es = []) : xs = [] := by
  subst e
  cases xs with
  | nil => rfl
  | cons => cases h
theorem cCall_ok (ok : OkE T G p N r) (g : Gd T G p X W) (hN : X.N = N) (hs : X.env.scope = sc) {f : Expr} {es : List Expr} {kws : List Keyword} {pos : Pos} {y : Ex} (h : cCall T r sc f es kws pos = some y) : Kp G p X W (.Call f es kws pos) y := by
  unfold cCall at h
  split at h
  · rename_i x p1
    split at h
    · cases h
    · rename_i hc
      obtain ⟨hb, hg⟩ := nt hc
      have hb := nf hb
      have hg := nn hg
      split at h
      · rename_i i hf
        exact cOwn_ok ok g hN hs hb hg hf h
      · split at h
        · cases h
        · rename_i hk
          have e : kws = [] := by
            cases kws with
            | nil => rfl
            | cons => exact absurd rfl hk
          subst e
          split at h
          · rename_i c hcl
            obtain ⟨xs, h1, rfl⟩ := Option.map_eq_some_iff.mp h
            obtain ⟨c1, c2, c3⟩ := cList_ok ok g hN hs h1
            obtain ⟨k, fa, fd, ps, rr, M, F, hp, hr, hm, hbi⟩ := g.cls x c hcl
            obtain ⟨b1, b2, b3⟩ := bad_ok hb
            exact .plain g rfl (se_make M rfl F hp hr g.gds (glB_ok hg hs) hm hbi g.tk b1 c1 (nil_of c2) c3)
          · exact cBlt_ok ok g hN hs hb hg h
  · rename_i o m apos
    split at h
    · cases h
    · rename_i hc
      obtain ⟨hc, k4⟩ := nt hc
      obtain ⟨hc, k3⟩ := nt hc
      obtain ⟨k1, k2⟩ := nt hc
      have e : kws = [] := by
        cases kws with
        | nil => rfl
        | cons => exact absurd rfl k1
      subst e
      split at h
      · rename_i gg x xs h1 h2 h3
        cases h
        obtain ⟨c1, c2, c3⟩ := cList_ok ok g hN hs h3
        obtain ⟨id, m1, m2, m3⟩ := me_ok h1
        exact .plain g rfl (se_me g.hK m1 m2 (m3 X G g.hK g.units) (base_ok (nn k2)) (nn k3) c1 (of_decide_eq_true (nn k4)) (nil_of c2) (ok X W g hN sc o _ hs h2).pe c3)
      · rename_i x xs h1 h2 h3
        split at h
        · rename_i hm
          cases h
          obtain ⟨c1, c2, c3⟩ := cList_ok ok g hN hs h3
          exact .plain g rfl (se_meth (g.mth m (List.contains_iff_mem.mp hm)) g.gds g.tk (base_ok (nn k2)) (nn k3) c1 (of_decide_eq_true (nn k4)) (nil_of c2) (ok X W g hN sc o _ hs h2).pe c3)
        · cases h
      · cases h
  · cases h
end
end Mini
set_option maxHeartbeats 4000000
/-! Mini: from the text to Mini: targets, iterables, comprehensions, the whole of an expression. -/
namespace Mini
open PySem PySem.Spec PyProof.Rows L2

variable {T : Tab} {G : Gx} {p : Pg} {X : Cx} {W : WX} {N : List Str} {r : Rd} {sc : Scope}
/-- where a name may be stored -/
def SxOk (X : Cx) (sx : Str → Bool) : Prop := ∀ x, sx x = true → L2.Loc X.env.scope x ∧ (X.fn x = true ∨ X.env.scope.names.lookup x = some .local)
theorem asg_ix {o i : Expr} {pos : Pos} (h : noSlice i = true) (v : Value) : assign (.Subscript o i pos) X.env v = (do
      let ov ← holding [v] (eval o X.env)
      let iv ← holding [v, ov] (eval i X.env)
      standAt pos
      holding [v, ov, iv] (setItem ov iv v)
      release [v, ov, iv] []) := by
  cases i <;> first | rfl | cases h
mutual
theorem cTg_ok {sx : Str → Bool} (ok : OkE T G p N r) (g : Gd T G p X W) (hN : X.N = N) (hs : X.env.scope = sc) (hx : SxOk X sx) : ∀ (k : Nat) {e : Expr} {t : Tg}, cTg sx N r sc k e = some t → PG X e (tG G p W t)
  | 0, e, t, h => by cases h
  | k + 1, e, t, h => by
    unfold cTg at h
    split at h
    · rename_i x pos
      split at h
      · rename_i hsx
        obtain ⟨i, hi, rfl⟩ := Option.map_eq_some_iff.mp h
        obtain ⟨h1, h2⟩ := hx x hsx
        exact sg_name g.nd (by rw [hN]; exact idx_ok hi) h1 h2
      · cases h
    · rename_i es kk pos
      split at h
      · rename_i hp
        obtain ⟨ts, hts, rfl⟩ := Option.map_eq_some_iff.mp h
        exact sg_tup g.hK g.calm hp (mapO_len hts) (cTgs_ok ok g hN hs hx k hp hts)
      · cases h
    · rename_i o i pos
      split at h
      · rename_i hi
        split at h
        · rename_i x y h1 h2
          cases h
          exact sg_ix (ok X W g hN sc o _ hs h1).pe (ok X W g hN sc i _ hs h2).pe (asg_ix hi)
        · cases h
      · cases h
    · cases h
  termination_by k => (k, 0)
theorem cTgs_ok {sx : Str → Bool} (ok : OkE T G p N r) (g : Gd T G p X W) (hN : X.N = N) (hs : X.env.scope = sc) (hx : SxOk X sx) : ∀ (k : Nat) {es : List Expr} {ts : List Tg}, es.all plainTg = true → mapO (cTg sx N r sc k) es = some ts → PGs X es (tGs G p W ts)
  | k, [], ts, _, h => by cases h; exact sgs_nil
  | k, e :: es, ts, hp, h => by
    obtain ⟨d, ds, rfl, h1, h2⟩ := mapO_cons h
    have h3 : plainTg e = true ∧ es.all plainTg = true := by simpa using hp
    exact sgs_cons h3.1 (cTg_ok ok g hN hs hx k h1) (cTgs_ok ok g hN hs hx k h3.2 h2)
  termination_by k es => (k, es.length + 1)
end
theorem all1 {a : Expr} (h : [a].all noStar = true) : noStar a = true := by simpa using h
theorem all2 {a b : Expr} (h : [a, b].all noStar = true) : noStar a = true ∧ noStar b = true := by simpa using h
theorem all3 {a b c : Expr} (h : [a, b, c].all noStar = true) : noStar a = true ∧ noStar b = true ∧ noStar c = true := by simpa using h
theorem fsi_ok {e : Expr} (h : noSet e = true) (x : Value) : foldedSetIterable e X.env x = pure x := by
  cases e <;> first | rfl | cases h
theorem cIt_ok (ok : OkE T G p N r) (g : Gd T G p X W) (hN : X.N = N) (hs : X.env.scope = sc) {tg e : Expr} {it : Mini.It} (h : cIt T r sc (isTup tg) e = some it) : PI X tg e (tI G p W it) ∧ ∀ x, foldedSetIterable e X.env x = pure x := by
  unfold cIt at h
  split at h
  · rename_i f p1 es pos
    refine ⟨?_, fun x => rfl⟩
    split at h
    · rename_i hf
      subst hf
      split at h
      · cases h
      · rename_i hc
        obtain ⟨hc, c3⟩ := nt hc
        obtain ⟨c1, c2⟩ := nt hc
        have gl := glB_ok (nn c1) hs
        have hm := g.blt _ (has_ok (nn c2))
        have c3 := nn c3
        split at h
        · obtain ⟨x, h1, rfl⟩ := Option.map_eq_some_iff.mp h
          have s1 := all1 c3
          exact si_rng1 gl hm s1 (sa_cons s1 (ok X W g hN sc _ _ hs h1).pe sa_nil)
        · split at h
          · rename_i x y h1 h2
            cases h
            obtain ⟨s1, s2⟩ := all2 c3
            exact si_rng2 gl hm s1 s2 (sa_cons s1 (ok X W g hN sc _ _ hs h1).pe (sa_cons s2 (ok X W g hN sc _ _ hs h2).pe sa_nil))
          · cases h
        · split at h
          · rename_i x y z h1 h2 h3
            cases h
            obtain ⟨s1, s2, s3⟩ := all3 c3
            exact si_rng3 gl hm s1 s2 s3 (sa_cons s1 (ok X W g hN sc _ _ hs h1).pe (sa_cons s2 (ok X W g hN sc _ _ hs h2).pe (sa_cons s3 (ok X W g hN sc _ _ hs h3).pe sa_nil)))
          · cases h
        · cases h
    · split at h
      · rename_i hf
        subst hf
        split at h
        · cases h
        · rename_i hc
          obtain ⟨hc, c4⟩ := nt hc
          obtain ⟨hc, c3⟩ := nt hc
          obtain ⟨c1, c2⟩ := nt hc
          have gl := glB_ok (nn c1) hs
          have hm := g.blt _ (has_ok (nn c2))
          have c3 := nn c3
          have c4 := nn c4
          split at h
          · split at h
            · rename_i x y h1 h2
              cases h
              obtain ⟨s1, s2⟩ := all2 c3
              cases tg with
              | Tuple elts kk tp => exact si_zip g.hK gl hm s1 s2 (sa_cons s1 (ok X W g hN sc _ _ hs h1).pe (sa_cons s2 (ok X W g hN sc _ _ hs h2).pe sa_nil))
              | _ => cases c4
            · cases h
          · split at h
            · rename_i x y z h1 h2 h3
              cases h
              have s3 := List.all_eq_true.mp c3
              have s1 := s3 _ List.mem_cons_self
              have s2 := s3 _ (List.mem_cons_of_mem _ List.mem_cons_self)
              have s3 := s3 _ (List.mem_cons_of_mem _ (List.mem_cons_of_mem _ List.mem_cons_self))
              cases tg with
              | Tuple elts kk tp => exact si_zip3 g.hK gl hm s1 s2 s3 (sa_cons s1 (ok X W g hN sc _ _ hs h1).pe (sa_cons s2 (ok X W g hN sc _ _ hs h2).pe (sa_cons s3 (ok X W g hN sc _ _ hs h3).pe sa_nil)))
              | _ => cases c4
            · cases h
          · cases h
      · split at h
        · rename_i hf
          subst hf
          split at h
          · cases h
          · rename_i hc
            obtain ⟨hc, c4⟩ := nt hc
            obtain ⟨hc, c3⟩ := nt hc
            obtain ⟨c1, c2⟩ := nt hc
            have gl := glB_ok (nn c1) hs
            have hm := g.blt _ (has_ok (nn c2))
            have c3 := nn c3
            have c4 := nn c4
            split at h
            · obtain ⟨x, h1, rfl⟩ := Option.map_eq_some_iff.mp h
              have s1 := all1 c3
              cases tg with
              | Tuple elts kk tp => exact si_enum g.hK gl hm s1 (sa_cons s1 (ok X W g hN sc _ _ hs h1).pe sa_nil)
              | _ => cases c4
            · cases h
        · obtain ⟨x, h1, rfl⟩ := Option.map_eq_some_iff.mp h
          exact si_val g.hK (ok X W g hN sc _ _ hs h1).pe
  · split at h
    · rename_i hn
      obtain ⟨x, h1, rfl⟩ := Option.map_eq_some_iff.mp h
      exact ⟨si_val g.hK (ok X W g hN sc _ _ hs h1).pe, fsi_ok hn⟩
    · cases h
theorem sxB_ok {s : Shared} {H : Hp} {scope : Scope} {C : Addr} {cl : List (Str × Addr)} {fp : List Addr} (hs : X.env.scope = sc) : SxOk (X.blk s H scope (compEnvC scope cl C X.env) fp) (sxB sc scope) := by
  intro x h
  unfold sxB at h
  have e : (X.blk s H scope (compEnvC scope cl C X.env) fp).env.scope = relS scope sc := by
    show relabel scope X.env = _
    rw [← hs]; rfl
  rw [e]
  split at h
  · rename_i q
    exact ⟨.inl q, .inr q⟩
  · rename_i q
    split at h
    · rename_i q2
      refine ⟨.inr q, .inl ?_⟩
      show (scope.names.lookup x == some .cell) = true
      rw [q2]; rfl
    · cases h
  · cases h
theorem blk_scope {s : Shared} {H : Hp} {scope : Scope} {C : Addr} {cl : List (Str × Addr)} {fp : List Addr} (hs : X.env.scope = sc) : (X.blk s H scope (compEnvC scope cl C X.env) fp).env.scope = relS scope sc := by
  show relabel scope X.env = _
  rw [← hs]; rfl
/-- what a comprehension's parts are -/
structure CompOk (G : Gx) (p : Pg) (X : Cx) (W : WX) (tg iter elt : Expr) (ifs : List Expr) (scope : Scope) (own : List (Str × Nat)) (t : Tg) (it : Mini.It) (cs : List Ex) (x : Ex) : Prop where
  tin : tgIn (own.map (·.2)) t = true
  pi : PI X tg iter (tI G p W it)
  blk : BlkOk X.N X.env.scope scope own
  pg : ∀ (s : Shared) (H : Hp) (C : Addr) (cl : List (Str × Addr)) (fp : List Addr), PG (X.blk s H scope (compEnvC scope cl C X.env) fp) tg (tG G p W0 t)
  pts : ∀ (s : Shared) (H : Hp) (C : Addr) (cl : List (Str × Addr)) (fp : List Addr), PTs (X.blk s H scope (compEnvC scope cl C X.env) fp) ifs (tTs G p W0 cs)
  pe : ∀ (s : Shared) (H : Hp) (C : Addr) (cl : List (Str × Addr)) (fp : List Addr), PE (X.blk s H scope (compEnvC scope cl C X.env) fp) elt (tE G p W0 x)
  fsi : ∀ x, foldedSetIterable iter X.env x = pure x
theorem cComp_ok (ok : OkE T G p N r) (g : Gd T G p X W) (hN : X.N = N) (hs : X.env.scope = sc) {elt : Expr} {gs : List Comprehension} {scope : Scope} {y : Ex} (h : cComp T N r sc elt gs scope = some y) :
    ∃ tg iter ifs own t it cs x, gs = [⟨tg, iter, ifs, 0⟩] ∧ y = .comp t it cs x (own.map (·.2)) ∧ CompOk G p X W tg iter elt ifs scope own t it cs x := by
  unfold cComp at h
  split at h
  · rename_i tg iter ifs
    split at h
    · cases h
    · rename_i hb
      have hb := nn hb
      split at h
      · rename_i t it x h1 h2 h3
        split at h
        · cases h
        · rename_i ht
          have ht := nn ht
          have bo : BlkOk X.N X.env.scope scope (ownOf N scope.names) := by rw [hN, hs]; exact blkOk_by hb
          obtain ⟨i1, i2⟩ := cIt_ok ok g hN hs h2
          have base : ∀ cs, (∀ (s : Shared) (H : Hp) (C : Addr) (cl : List (Str × Addr)) (fp : List Addr), PTs (X.blk s H scope (compEnvC scope cl C X.env) fp) ifs (tTs G p W0 cs)) → CompOk G p X W tg iter elt ifs scope (ownOf N scope.names) t it cs x := fun cs hcs =>
            ⟨ht, i1, bo, fun s H C cl fp => cTg_ok ok g.blk hN (blk_scope hs) (sxB_ok hs) 4 h1, hcs, fun s H C cl fp => (ok _ _ g.blk hN _ _ _ (blk_scope hs) h3).pe, i2⟩
          split at h
          · cases h
            exact ⟨tg, iter, _, _, t, it, [], x, rfl, rfl, base [] fun s H C cl fp => sts_nil⟩
          · rename_i c
            obtain ⟨z, h4, rfl⟩ := Option.map_eq_some_iff.mp h
            exact ⟨tg, iter, _, _, t, it, [z], x, rfl, rfl, base [z] fun s H C cl fp => sts_one (ok _ _ g.blk hN _ _ _ (blk_scope hs) h4).pt⟩
          · cases h
      · cases h
  · cases h
theorem evB_ite {ρ : Loc} {S : Sto} {c a b : Ex} : evB p (.ite c a b) ρ S = (evB p c ρ S).bind fun t S1 => if t then evB p a ρ S1 else evB p b ρ S1 := by
  show ((evE p c ρ S).bind fun x S1 => (ofOpt S1 (truth S1 x)).bind fun t S1 => if t then evE p a ρ S1 else evE p b ρ S1).bind (fun d S1 => ofOpt S1 (truth S1 d)) = ((evE p c ρ S).bind fun d S1 => ofOpt S1 (truth S1 d)).bind _
  cases evE p c ρ S with
  | ok d S1 =>
    show ((ofOpt S1 (truth S1 d)).bind fun t S1 => if t then evE p a ρ S1 else evE p b ρ S1).bind (fun d S1 => ofOpt S1 (truth S1 d)) = (ofOpt S1 (truth S1 d)).bind _
    cases truth S1 d with
    | none => rfl
    | some t => cases t <;> rfl
  | _ => rfl
theorem st_ite {c a b : Expr} {z x y : Ex} {pos : Pos} (hc : PT X c (tT G p W z)) (ha : PT X a (tT G p W x)) (hb : PT X b (tT G p W y)) : PT X (.IfExp c a b pos) (tT G p W (.ite z x y)) := by
  refine ⟨fun pins s σ H Q I ⟨A, ρ, hH, hr, er, h⟩ => ?_⟩
  subst hH
  rw [evB_ite] at h
  refine PyProof.Rows.isTrue_IfExp (thn (hc.run pins s σ _ _ I (tRb_bind (Q := fun t H1 => if t = true then tT G p W x σ H1 Q else tT G p W y σ H1 Q) .refl hr er rfl h fun B t g hB q => ?_)) fun d s1 ⟨H1, I1, q1⟩ => ?_)
  · cases t with
    | true => exact tRb_last g hB (er.mono g) q
    | false => exact tRb_last g hB (er.mono g) q
  · cases d with
    | true => exact ha.run pins s1 σ H1 Q I1 q1
    | false => exact hb.run pins s1 σ H1 Q I1 q1
theorem se_dct {pos : Pos} : PE X (.Dict [] [] pos) (tE G p W .dct) := by
  refine PE.imp pe_dnewK fun σ H Q ⟨A, ρ, hH, hr, er, h⟩ => ?_
  subst hH
  intro q hq
  have t : ∀ a ys, SqT G.K A.H a ys → SqT G.K (upd A.H q (.dK [])) a ys := fun a ys z => sqT_put z fun u e => by rw [hq] at e; cases e
  have g : Grow G A (A.add q .dct (upd A.H q (.dK []))) := .add t
  exact (show Fin G A Q (.ref A.S.length) (A.S ++ [.dct]) from h) _ _ _ g (hr.add hq t (fun a ys z => fzL_put z fun u e => by rw [hq] at e; cases e) (fun b o e => by rw [upd_ne (ne_of_none e hq)]; exact e) ⟨_, upd_same⟩) ⟨by show A.S.length < (A.S ++ [Mini.Cl.dct]).length; simp, by show V.ref q = V.ref (if A.S.length = A.S.length then q else _); rw [if_pos rfl]⟩
theorem con_any {c : Const} {y : Ex} (h : cConst c = some y) {k : Nat} {pos : Pos} : ∃ v, PE X (.Constant c k pos) (tC v) := by
  cases c with
  | none => exact ⟨_, pe_non⟩
  | bool b => exact ⟨_, pe_bl⟩
  | int i => exact ⟨_, pe_int⟩
  | str x => exact ⟨_, pe_str⟩
  | _ => cases h
theorem cLrg_ok (ok : OkE T G p N r) (g : Gd T G p X W) (hN : X.N = N) (hs : X.env.scope = sc) {f : Expr} {es : List Expr} {kws : List Keyword} {pos : Pos} {y : Ex} (h : cLrg T r sc f es kws = some y) : PE X (.Call f es kws pos) (tE G p W y) := by
  unfold cLrg at h
  split at h
  · split at h
    · rename_i hc
      obtain ⟨rfl, rfl, c1, c2, c3, c4, c5⟩ := hc
      have gl := glB_ok c1 hs
      have gr := glB_ok c2 hs
      have hm := g.blt _ (has_ok c3)
      have hr := g.blt _ (has_ok c4)
      split at h
      · obtain ⟨x, h1, rfl⟩ := Option.map_eq_some_iff.mp h
        exact se_lrg1 g.calm gl hm gr hr (all1 c5) (ok X W g hN sc _ _ hs h1).pe
      · split at h
        · rename_i x y h1 h2
          cases h
          obtain ⟨s1, s2⟩ := all2 c5
          exact se_lrg2 g.calm gl hm gr hr s1 s2 (ok X W g hN sc _ _ hs h1).pe (ok X W g hN sc _ _ hs h2).pe
        · cases h
      · cases h
    · split at h
      · rename_i hc
        obtain ⟨rfl, rfl, c1, c2, c3, c4, c5⟩ := hc
        have gl := glB_ok c1 hs
        have gr := glB_ok c2 hs
        have hm := g.blt _ (has_ok c3)
        have hr := g.blt _ (has_ok c4)
        split at h
        · obtain ⟨x, h1, rfl⟩ := Option.map_eq_some_iff.mp h
          exact se_trg1 g.calm gl hm gr hr (all1 c5) (ok X W g hN sc _ _ hs h1).pe
        · split at h
          · rename_i x y h1 h2
            cases h
            obtain ⟨s1, s2⟩ := all2 c5
            exact se_trg2 g.calm gl hm gr hr s1 s2 (ok X W g hN sc _ _ hs h1).pe (ok X W g hN sc _ _ hs h2).pe
          · cases h
        · cases h
      · cases h
  · cases h
theorem cE1_ok (ok : OkE T G p N r) : OkE T G p N (cE1 T N r) := by
  intro X W g hN sc e y hs h
  unfold cE1 at h
  split at h
  · exact cName_ok g hN hs h
  · exact cConst_ok g h
  · split at h
    · rename_i x y' h1 h2
      cases h
      exact .plain g rfl (se_cat2 g.hK (ok X W g hN sc _ _ hs h1).pe (ok X W g hN sc _ _ hs h2).pe)
    · cases h
  · rename_i es k pos _
    obtain ⟨xs, h1, h2⟩ := Option.bind_eq_some_iff.mp h
    split at h2
    · rename_i hl
      cases h2
      exact .plain g rfl (se_tup hl (cList_ok ok g hN hs h1).2.2)
    · cases h2
  · rename_i a b p1 c pos
    split at h
    · rename_i hc
      rw [Bool.and_eq_true] at hc
      split at h
      · rename_i x y z h1 h2 h3
        cases h
        exact .plain g rfl (se_mid3 g.hK hc.1 hc.2 (ok X W g hN sc _ _ hs h1).pe (ok X W g hN sc _ _ hs h2).pe (ok X W g hN sc _ _ hs h3).pe)
      · cases h
    · cases h
  · rename_i es pos
    obtain ⟨xs, h1, h2⟩ := Option.bind_eq_some_iff.mp h
    split at h2
    · rename_i hl
      cases h2
      exact .plain g rfl (se_lst hl (cList_ok ok g hN hs h1).2.2)
    · cases h2
  · cases h
    exact .plain g rfl se_dct
  · obtain ⟨z, h1, rfl⟩ := Option.map_eq_some_iff.mp h
    obtain ⟨v, hv⟩ := con_any (X := X) h1
    exact .plain g rfl (se_dct1 hv)
  · split at h
    · rename_i o x z h1 h2 h3
      cases h
      exact .plain g rfl (se_bin (bop_ok g h1) (ok X W g hN sc _ _ hs h2).pe (ok X W g hN sc _ _ hs h3).pe)
    · cases h
  · obtain ⟨x, h1, rfl⟩ := Option.map_eq_some_iff.mp h
    exact .plain g rfl (se_neg (ok X W g hN sc _ _ hs h1).pe)
  · obtain ⟨x, h1, rfl⟩ := Option.map_eq_some_iff.mp h
    have k := ok X W g hN sc _ _ hs h1
    exact ⟨se_not g.hK k.pe, st_not k.pt, fun z => by cases z⟩
  · rename_i op a pos
    have k := ok X W g hN sc _ _ hs h
    cases op with
    | And => exact ⟨pe_one k.pe, (pw_and1 k.pt).pt, fun _ => pw_and1 k.pt⟩
    | Or => exact ⟨pe_one k.pe, (pw_or1 k.pt).pt, fun _ => pw_or1 k.pt⟩
  · split at h
    · rename_i x z h1 h2
      cases h
      have k1 := ok X W g hN sc _ _ hs h1
      have k2 := ok X W g hN sc _ _ hs h2
      exact ⟨se_and g.hK k1.pe k2.pe, (st_and k1.pt (k2.pw rfl)).pt, fun _ => st_and k1.pt (k2.pw rfl)⟩
    · cases h
  · split at h
    · rename_i x z h1 h2
      cases h
      have k1 := ok X W g hN sc _ _ hs h1
      have k2 := ok X W g hN sc _ _ hs h2
      exact ⟨se_or g.hK k1.pe k2.pe, (st_or k1.pt (k2.pw rfl)).pt, fun _ => st_or k1.pt (k2.pw rfl)⟩
    · cases h
  · exact cCmp_ok ok g hN hs h
  · split at h
    · rename_i z x w h1 h2 h3
      cases h
      have k1 := ok X W g hN sc _ _ hs h1
      have k2 := ok X W g hN sc _ _ hs h2
      have k3 := ok X W g hN sc _ _ hs h3
      exact ⟨se_ite k1.pt k2.pe k3.pe, st_ite k1.pt k2.pt k3.pt, fun z => by cases z⟩
    · cases h
  · split at h
    · rename_i hc
      rw [Bool.and_eq_true] at hc
      obtain ⟨x, h1, rfl⟩ := Option.map_eq_some_iff.mp h
      exact .plain g rfl (se_fld g.hK (g.fld _ (has_ok hc.2)) (base_ok hc.1) (ok X W g hN sc _ _ hs h1).pe)
    · cases h
  · exact cSub_ok ok g hN hs h
  · split at h
    · rename_i x h1
      cases h
      exact .plain g rfl (cLrg_ok ok g hN hs h1)
    · exact cCall_ok ok g hN hs h
  · obtain ⟨tg, iter, ifs, own, t, it, cs, x, rfl, rfl, k⟩ := cComp_ok ok g hN hs h
    exact .plain g rfl (se_comp g.calm g.nd k.tin k.pi k.blk k.pg k.pts k.pe k.fsi)
  · cases h
theorem cE_ok : ∀ n, OkE T G p N (cE T N n)
  | 0 => fun _ _ _ _ _ _ _ _ h => by cases h
  | n + 1 => cE1_ok (cE_ok n)
end Mini
set_option maxHeartbeats 4000000
/-! Mini: from the text to Mini: statements. -/
namespace Mini
open PySem PySem.Spec PyProof.Rows L2

def stB (sc : Scope) (x : Str) : Bool := match sc.names.lookup x with
  | some .local => true
  | some .cell => true
  | _ => false
/-- does a comprehension's block store at once -/
def swB (sc scope : Scope) (x : Str) (py lp : Pos) : Bool := locB sc x && py.line == lp.line && !(scope.names.any fun (n, k) => n == x && (k == .local || k == .cell))
def cSet (T : Tab) (N : List Str) (r : Rd) (sc : Scope) (x : Str) (py : Pos) (i : Nat) (e : Expr) : St := match e with
  | .ListComp elt gs scope lp => if swB sc scope x py lp then match cComp T N r sc elt gs scope with
      | some y => .asg (.nm i) y
      | none => .bad else match r sc e with
      | some y => .asg (.nm i) y
      | none => .bad
  | e => if noComp e then match r sc e with
    | some y => .asg (.nm i) y
    | none => .bad else .bad
def cPar (N : List Str) (r : Rd) (sc : Scope) (ts vs : List Expr) : St := match ts, vs with
  | [.Name x px, .Name y py], [a, b] => if !locB sc x || !locB sc y || !(px.line == py.line) || x == y || [a, b].all (foldedForSure 8) || [a, b].all (constantsAlone 8) then .bad else match idx N x, idx N y, cList r sc [a, b] with
    | some i, some j, some [u, v] => .par [i, j] [u, v]
    | _, _, _ => .bad
  | [.Name x px, .Name y py, .Name z pz], [a, b, c] => if !locB sc x || !locB sc y || !locB sc z || !(px.line == py.line) || !(px.line == pz.line) || x == y || x == z || y == z || [a, b, c].all (foldedForSure 8) || [a, b, c].all (constantsAlone 8) then .bad else match idx N x, idx N y, idx N z, cList r sc [a, b, c] with
    | some i, some j, some k, some [u, v, w] => .par [i, j, k] [u, v, w]
    | _, _, _, _ => .bad
  | _, _ => .bad
def swNameS (sc : Scope) (line : Nat) : Expr → Option Str
  | .Name id pos => if sc.names.lookup id == some .local && pos.line == line then some id else none
  | _ => none
def noSwap (sc : Scope) (ts vs : List Expr) : Bool := vs.all (foldedForSure 8) || (ts.filterMap (swNameS sc ((ts.head?.map (·.pos.line)).getD 0))).length != ts.length || !(ts.length == 2 || ts.length == 3) || vs.length != ts.length
def noTup : Expr → Bool
  | .Tuple .. => false
  | _ => true
def cAsg (T : Tab) (N : List Str) (r : Rd) (sc : Scope) (tg e : Expr) : St := match tg with
  | .Name x py => if stB sc x then match idx N x with
      | some i => cSet T N r sc x py i e
      | none => .bad else .bad
  | .Tuple ts _ _ => match e with
    | .Tuple vs _ _ => if noSwap sc ts vs then match cTg (stB sc) N r sc 4 tg, r sc e with
        | some t, some x => .asg t x
        | _, _ => .bad
      else cPar N r sc ts vs
    | e => match cTg (stB sc) N r sc 4 tg, r sc e with
      | some t, some x => .asg t x
      | _, _ => .bad
  | .Subscript .. => match cTg (stB sc) N r sc 4 tg, r sc e with
    | some t, some x => .asg t x
    | _, _ => .bad
  | .Attribute o f _ => if T.flds.contains f then match r sc o, r sc e with
    | some x, some y => .asg (.fd x f) y
    | _, _ => .bad else .bad
  | _ => .bad
def cS (T : Tab) (N : List Str) (r : Rd) (sc : Scope) : Nat → Stmt → St
  | 0, _ => .bad
  | k + 1, st => match st with
    | .Expr (.Constant (.str _) _ _) _ => .pass
    | .Expr e _ => if noComp e then match r sc e with
      | some x => .ex x
      | none => .bad else .bad
    | .Return none _ => .ret0
    | .Return (some e) _ => match r sc e with
      | some x => .ret x
      | none => .bad
    | .Pass _ => .pass
    | .Break _ => .brk
    | .Assign [tg] e _ => cAsg T N r sc tg e
    | .AugAssign (.Name x _) .Add e _ => if stB sc x then match idx N x, r sc e with
      | some i, some y => .aug i .add y
      | _, _ => .bad else .bad
    | .AugAssign (.Subscript o i _) .Add e _ => if noSlice i then match r sc o, r sc i, r sc e with
      | some x, some y, some z => .augS x y .add z
      | _, _, _ => .bad else .bad
    | .If c a b _ => match r sc c with
      | some x => .ite x (a.map (cS T N r sc k)) (b.map (cS T N r sc k))
      | none => .bad
    | .For tg iter b [] _ => match cTg (stB sc) N r sc 4 tg, cIt T r sc (isTup tg) iter with
      | some t, some it => .for_ t it (b.map (cS T N r sc k))
      | _, _ => .bad
    | .While c b [] _ => match r sc c with
      | some x => .while_ x (b.map (cS T N r sc k))
      | none => .bad
    | _ => .bad

structure Gs (T : Tab) (G : Gx) (p : Pg) (X : Cx) (W : WX) : Prop where
  gd : Gd T G p X W
  pass : PassesOwn (model X.prog X.w) X.A X.env X.xe
  fnT : ∀ x, X.fn x = true
  kind : X.env.scope.kind = .function
variable {T : Tab} {G : Gx} {p : Pg} {X : Cx} {W : WX} {N : List Str} {r : Rd} {sc : Scope}
theorem stB_ok (hs : X.env.scope = sc) (hf : ∀ x, X.fn x = true) : SxOk X (stB sc) := by
  intro x h
  unfold stB at h
  rw [hs]
  split at h
  · rename_i q; exact ⟨.inl q, .inl (hf x)⟩
  · rename_i q; exact ⟨.inr q, .inl (hf x)⟩
  · cases h
theorem sw_no {e : Expr} {t : Option Expr} {l : Nat} {env : Env} (h : noComp e = true) : swapsWith e t l env = pure false := by
  cases e <;> first | rfl | cases h
theorem sw_any {e tg : Expr} {l : Nat} {env : Env} (h : ∀ x p, tg ≠ .Name x p) : swapsWith e (some tg) l env = pure false := by
  cases e <;> first | rfl | (cases tg <;> first | rfl | exact absurd rfl (h _ _))
theorem sw_sole {e tg : Expr} {l : Nat} {env : Env} (h : ∀ x p, tg ≠ .Name x p) : swapsWithSole [tg] e l env = pure false := sw_any h
theorem star_no : ∀ {e : Expr}, noStar e = true → ¬ (match e with
    | .Starred .. => true
    | _ => false) = true := by
  intro e h
  cases e <;> first | (intro z; cases z; done) | cases h
theorem sw_comp {elt : Expr} {gs : List Comprehension} {scope : Scope} {lp py : Pos} {x : Str} {l : Nat} (hs : X.env.scope = sc) (hk : X.env.scope.kind = .function) {b : Bool} (h : swB sc scope x py lp = b) : swapsWith (.ListComp elt gs scope lp) (some (.Name x py)) l X.env = pure b := by
  have hb : X.env.blockKind = .function := by unfold Env.blockKind; rw [hk]; rfl
  have hl : (X.env.kindOf x == some NameKind.local) = locB sc x := by
    show (X.env.scope.names.lookup x == some .local) = _
    rw [hs]
    unfold locB
    cases sc.names.lookup x with
    | none => rfl
    | some k => cases k <;> rfl
  unfold swapsWith
  show (pure ((X.env.blockKind == .function && X.env.kindOf x == some .local && py.line == (Expr.ListComp elt gs scope lp).pos.line && !(scope.names.any fun (n, k) => n == x && (k == .local || k == .cell)))) : Sem Bool) = pure b
  rw [hl, hb, ← h]
  rfl
theorem cSet_ok (ok : OkE T G p N r) (hr : ∃ n, r = cE T N n) (g : Gs T G p X W) (hN : X.N = N) (hs : X.env.scope = sc) {x : Str} {py pos : Pos} {i : Nat} {e : Expr} (hx : stB sc x = true) (hi : idx N x = some i) : PS X (.Assign [.Name x py] e pos) (tS G p W (cSet T N r sc x py i e)) := by
  obtain ⟨h1, h2⟩ := stB_ok hs g.fnT x hx
  have hi' : X.N[i]? = some x := by rw [hN]; exact idx_ok hi
  unfold cSet
  split
  · rename_i elt gs scope lp
    split
    · rename_i hsw
      split
      · rename_i y hy
        obtain ⟨tg, iter, ifs, own, t, it, cs, z, rfl, rfl, k⟩ := cComp_ok ok g.gd hN hs hy
        have hl : X.env.scope.names.lookup x = some .local := by
          have hsw := hsw
          unfold swB at hsw
          rw [Bool.and_eq_true, Bool.and_eq_true] at hsw
          rw [hs]
          exact locB_ok hsw.1.1
        exact ss_setLc g.gd.calm g.gd.nd hi' hl (sw_comp hs g.kind hsw) k.tin k.pi k.blk k.pg k.pts k.pe k.fsi
      · exact ss_bad
    · rename_i hsw
      split
      · rename_i y hy
        exact ss_set g.gd.nd hi' h1 (ok X W g.gd hN sc _ _ hs hy).pe (sw_comp hs g.kind (nf hsw)) h2
      · exact ss_bad
  · split
    · rename_i hn
      split
      · rename_i y hy
        exact ss_set g.gd.nd hi' h1 (ok X W g.gd hN sc _ _ hs hy).pe (sw_no hn) h2
      · exact ss_bad
    · exact ss_bad
theorem tup_none {ts : List Expr} {e : Expr} {k : Nat} {pt : Pos} {env : Env} (h : noTup e = true) : swappedStores [.Tuple ts k pt] e env = pure none := by
  cases e <;> first | rfl | cases h
theorem tup_len {ts vs : List Expr} {k k2 : Nat} {pt pt2 : Pos} {env : Env} (h : (!(ts.length == 2 || ts.length == 3) || vs.length != ts.length || env.blockKind != .function) = true) : swappedStores [.Tuple ts k pt] (.Tuple vs k2 pt2) env = pure none := by
  unfold swappedStores
  simp only [h]
  rfl
theorem par_two {x y : Str} {px py pt pt2 : Pos} {a b : Expr} {k k2 : Nat} (hk : X.env.scope.kind = .function) (hx : X.env.scope.names.lookup x = some .local) (hy : X.env.scope.names.lookup y = some .local) (hl : (px.line == py.line) = true) (hxy : (x == y) = false)
    (hs : [a, b].all noStar = true) (hf : [a, b].all (foldedForSure 8) = false) (hc : [a, b].all (constantsAlone 8) = false) : swappedStores [.Tuple [.Name x px, .Name y py] k pt] (.Tuple [a, b] k2 pt2) X.env = pure (some [x, y]) := by
  have hb : X.env.blockKind = .function := by unfold Env.blockKind; rw [hk]; rfl
  have kx : X.env.kindOf x = some .local := hx
  have ky : X.env.kindOf y = some .local := hy
  have hyx : (y == x) = false := by rw [beq_eq_false_iff_ne] at hxy ⊢; exact fun e => hxy e.symm
  have hl2 : (py.line == px.line) = true := by rw [beq_iff_eq] at hl ⊢; exact hl.symm
  have st : ([a, b].any fun | .Starred .. => true | _ => false) = false := by
    have h2 := all2 hs
    have one : ∀ e, noStar e = true → (match e with | .Starred .. => true | _ => false) = false := fun e h => by cases e <;> first | rfl | cases h
    simp only [List.any_cons, List.any_nil]
    rw [one a h2.1, one b h2.2]; rfl
  unfold swappedStores
  simp only [hb, st, hf, hc, List.filterMap_cons, List.filterMap_nil, kx, ky, List.head?_cons, Option.map_some, Option.getD_some, Expr.pos, hl2, List.length_cons, List.length_nil]
  simp [hl2, hxy, hyx, List.eraseDups_cons]
  have h2 := all2 hs
  exact fun z => z.elim (fun z => absurd z (star_no h2.1)) fun z => absurd z (star_no h2.2)
theorem par_three {x y z : Str} {px py pz pt pt2 : Pos} {a b c : Expr} {k k2 : Nat} (hk : X.env.scope.kind = .function) (hx : X.env.scope.names.lookup x = some .local) (hy : X.env.scope.names.lookup y = some .local) (hz : X.env.scope.names.lookup z = some .local)
    (hl : (px.line == py.line) = true) (hl3 : (px.line == pz.line) = true) (hxy : (x == y) = false) (hxz : (x == z) = false) (hyz : (y == z) = false)
    (hs : [a, b, c].all noStar = true) (hf : [a, b, c].all (foldedForSure 8) = false) (hc : [a, b, c].all (constantsAlone 8) = false) : swappedStores [.Tuple [.Name x px, .Name y py, .Name z pz] k pt] (.Tuple [a, b, c] k2 pt2) X.env = pure (some [x, y, z]) := by
  have hb : X.env.blockKind = .function := by unfold Env.blockKind; rw [hk]; rfl
  have kx : X.env.kindOf x = some .local := hx
  have ky : X.env.kindOf y = some .local := hy
  have kz : X.env.kindOf z = some .local := hz
  have sym : ∀ {x y : Str}, (x == y) = false → (y == x) = false := fun h => by rw [beq_eq_false_iff_ne] at h ⊢; exact fun e => h e.symm
  have hl2 : (py.line == px.line) = true := by rw [beq_iff_eq] at hl ⊢; exact hl.symm
  have hl4 : (pz.line == px.line) = true := by rw [beq_iff_eq] at hl3 ⊢; exact hl3.symm
  have st : ([a, b, c].any fun | .Starred .. => true | _ => false) = false := by
    have h2 := all3 hs
    have one : ∀ e, noStar e = true → (match e with | .Starred .. => true | _ => false) = false := fun e h => by cases e <;> first | rfl | cases h
    simp only [List.any_cons, List.any_nil]
    rw [one a h2.1, one b h2.2.1, one c h2.2.2]; rfl
  unfold swappedStores
  simp only [hb, st, hf, hc, List.filterMap_cons, List.filterMap_nil, kx, ky, kz, List.head?_cons, Option.map_some, Option.getD_some, Expr.pos, hl2, hl4, List.length_cons, List.length_nil]
  simp [hl2, hl4, hxy, hxz, hyz, sym hxy, sym hxz, sym hyz, List.eraseDups_cons]
  have h2 := all3 hs
  exact fun z => z.elim (fun z => absurd z (star_no h2.1)) fun z => z.elim (fun z => absurd z (star_no h2.2.1)) fun z => absurd z (star_no h2.2.2)
theorem idx_ne {x y : Str} {i j : Nat} (h1 : N[i]? = some x) (h2 : N[j]? = some y) (h : (x == y) = false) : i ≠ j := by
  intro e
  subst e
  rw [h1] at h2
  cases h2
  simp at h
theorem cPar_ok (ok : OkE T G p N r) (g : Gs T G p X W) (hN : X.N = N) (hs : X.env.scope = sc) {ts vs : List Expr} {k k2 : Nat} {pt pt2 pos : Pos} : PS X (.Assign [.Tuple ts k pt] (.Tuple vs k2 pt2) pos) (tS G p W (cPar N r sc ts vs)) := by
  unfold cPar
  split
  · rename_i x px y py a b
    split
    · exact ss_bad
    · rename_i hc
      obtain ⟨hc, c6⟩ := nt hc
      obtain ⟨hc, c5⟩ := nt hc
      obtain ⟨hc, c4⟩ := nt hc
      obtain ⟨hc, c3⟩ := nt hc
      obtain ⟨c1, c2⟩ := nt hc
      split
      · rename_i i j u v h1 h2 h3
        obtain ⟨d1, d2, d3⟩ := cList_ok ok g.gd hN hs h3
        have lx : X.env.scope.names.lookup x = some .local := by rw [hs]; exact locB_ok (nn c1)
        have ly : X.env.scope.names.lookup y = some .local := by rw [hs]; exact locB_ok (nn c2)
        exact ss_par g.gd.calm g.gd.nd (by rw [hN]; exact idx_ok h1) (by rw [hN]; exact idx_ok h2) (idx_ne (idx_ok h1) (idx_ok h2) (nf c4)) lx ly d3 (par_two g.kind lx ly (nn c3) (nf c4) d1 (nf c5) (nf c6))
      · exact ss_bad
  · rename_i x px y py z pz a b c
    split
    · exact ss_bad
    · rename_i hc
      obtain ⟨hc, c10⟩ := nt hc
      obtain ⟨hc, c9⟩ := nt hc
      obtain ⟨hc, c8⟩ := nt hc
      obtain ⟨hc, c7⟩ := nt hc
      obtain ⟨hc, c6⟩ := nt hc
      obtain ⟨hc, c5⟩ := nt hc
      obtain ⟨hc, c4⟩ := nt hc
      obtain ⟨hc, c3⟩ := nt hc
      obtain ⟨c1, c2⟩ := nt hc
      split
      · rename_i i j l u v w h1 h2 h3 h4
        obtain ⟨d1, d2, d3⟩ := cList_ok ok g.gd hN hs h4
        have lx : X.env.scope.names.lookup x = some .local := by rw [hs]; exact locB_ok (nn c1)
        have ly : X.env.scope.names.lookup y = some .local := by rw [hs]; exact locB_ok (nn c2)
        have lz : X.env.scope.names.lookup z = some .local := by rw [hs]; exact locB_ok (nn c3)
        exact ss_par3 g.gd.calm g.gd.nd (by rw [hN]; exact idx_ok h1) (by rw [hN]; exact idx_ok h2) (by rw [hN]; exact idx_ok h3) (idx_ne (idx_ok h1) (idx_ok h2) (nf c6)) (idx_ne (idx_ok h1) (idx_ok h3) (nf c7)) (idx_ne (idx_ok h2) (idx_ok h3) (nf c8))
          lx ly lz d3 (par_three g.kind lx ly lz (nn c4) (nn c5) (nf c6) (nf c7) (nf c8) d1 (nf c9) (nf c10))
      · exact ss_bad
  · exact ss_bad
theorem noSwap_ok {ts vs : List Expr} {k k2 : Nat} {pt pt2 : Pos} (hs : X.env.scope = sc) (h : noSwap sc ts vs = true) : swappedStores [.Tuple ts k pt] (.Tuple vs k2 pt2) X.env = pure none := by
  unfold noSwap at h
  rw [Bool.or_eq_true, Bool.or_eq_true, Bool.or_eq_true] at h
  rcases h with ((h | h) | h) | h
  · exact tup_fold h
  · refine tup_names ?_
    have : swName X.env ((ts.head?.map (·.pos.line)).getD 0) = swNameS sc ((ts.head?.map (·.pos.line)).getD 0) := by
      funext x
      rw [← hs]
      cases x <;> rfl
    rw [this]
    exact h
  · exact tup_len (by rw [h]; rfl)
  · exact tup_len (by rw [h]; simp)
theorem cAsg_ok (ok : OkE T G p N r) (hr : ∃ n, r = cE T N n) (g : Gs T G p X W) (hN : X.N = N) (hs : X.env.scope = sc) {tg e : Expr} {pos : Pos} : PS X (.Assign [tg] e pos) (tS G p W (cAsg T N r sc tg e)) := by
  have sx := stB_ok hs g.fnT
  unfold cAsg
  split
  · rename_i x py
    split
    · rename_i hx
      split
      · rename_i i hi
        exact cSet_ok ok hr g hN hs hx hi
      · exact ss_bad
    · exact ss_bad
  · rename_i ts k pt
    split
    · rename_i vs k2 pt2
      split
      · rename_i hc
        split
        · rename_i t x h1 h2
          refine ss_asg (ok X W g.gd hN sc _ _ hs h2).pe (cTg_ok ok g.gd hN hs sx 4 h1) (sw_sole (tg := _) fun x p z => Expr.noConfusion z) (noSwap_ok hs hc) rfl
        · exact ss_bad
      · exact cPar_ok ok g hN hs
    · rename_i hn
      split
      · rename_i t x h1 h2
        have hnt : noTup e = true := by
          cases e with
          | Tuple vs k2 pt2 => exact absurd rfl (hn vs k2 pt2)
          | _ => rfl
        exact ss_asg (ok X W g.gd hN sc _ _ hs h2).pe (cTg_ok ok g.gd hN hs sx 4 h1) (sw_sole (tg := _) fun x p z => Expr.noConfusion z) (tup_none hnt) rfl
      · exact ss_bad
  · split
    · rename_i t x h1 h2
      exact ss_asg (ok X W g.gd hN sc _ _ hs h2).pe (cTg_ok ok g.gd hN hs sx 4 h1) (sw_sole (tg := _) fun x p z => Expr.noConfusion z) (by cases e <;> rfl) rfl
    · exact ss_bad
  · split
    · rename_i hf
      split
      · rename_i x y h1 h2
        exact ss_fld (g.gd.fld _ (has_ok hf)) (ok X W g.gd hN sc _ _ hs h1).pe (ok X W g.gd hN sc _ _ hs h2).pe (sw_any fun _ _ z => by cases z)
      · exact ss_bad
    · exact ss_bad
  · exact ss_bad
theorem cSs_ok {f : Stmt → Mini.St} (h : ∀ st, PS X st (tS G p W (f st))) : ∀ sts : List Stmt, PSs X sts (tSs G p W (sts.map f))
  | [] => sss_nil
  | st :: sts => sss_cons (h st) (cSs_ok h sts)
theorem cS_ok (ok : OkE T G p N r) (hr : ∃ n, r = cE T N n) (g : Gs T G p X W) (hN : X.N = N) (hs : X.env.scope = sc) : ∀ (k : Nat) (st : Stmt), PS X st (tS G p W (cS T N r sc k st))
  | 0, _ => ss_bad
  | k + 1, st => by
    have ih := cSs_ok (cS_ok ok hr g hN hs k)
    have sx := stB_ok hs g.fnT
    unfold cS
    split
    · exact ss_doc
    · split
      · rename_i hn
        split
        · rename_i x h1
          exact ss_ex (ok X W g.gd hN sc _ _ hs h1).pe (sw_no hn)
        · exact ss_bad
      · exact ss_bad
    · exact ss_retN
    · split
      · rename_i x h1
        exact ss_ret (ok X W g.gd hN sc _ _ hs h1).pe
      · exact ss_bad
    · exact ss_pass
    · exact ss_brk
    · exact cAsg_ok ok hr g hN hs
    · split
      · rename_i hx
        split
        · rename_i i y h1 h2
          obtain ⟨l1, l2⟩ := sx _ hx
          exact ss_aug g.gd.nd (by rw [hN]; exact idx_ok h1) l1 (ok X W g.gd hN sc _ _ hs h2).pe l2
        · exact ss_bad
      · exact ss_bad
    · split
      · rename_i hi
        split
        · rename_i x y z h1 h2 h3
          exact ss_augS (ok X W g.gd hN sc _ _ hs h1).pe (ok X W g.gd hN sc _ _ hs h2).pe (ok X W g.gd hN sc _ _ hs h3).pe (aug_ix hi)
        · exact ss_bad
      · exact ss_bad
    · split
      · rename_i x h1
        exact ss_if (ok X W g.gd hN sc _ _ hs h1).pt (ih _) (ih _)
      · exact ss_bad
    · split
      · rename_i t it h1 h2
        obtain ⟨i1, i2⟩ := cIt_ok ok g.gd hN hs h2
        exact ss_for g.pass g.gd.calm i1 (cTg_ok ok g.gd hN hs sx 4 h1) (ih _) i2
      · exact ss_bad
    · split
      · rename_i x h1
        exact ss_while g.pass (ok X W g.gd hN sc _ _ hs h1).pt (ih _)
      · exact ss_bad
    · exact ss_bad
end Mini
set_option maxHeartbeats 4000000
/-! Mini: the defs keep what the evaluator says; the law's end. -/
namespace Mini
open PySem PySem.Spec PyProof.Rows L2

def fuelE : Nat := 40
def fill (T : Tab) (d : DefT) : Def := ⟨d.ps.length, d.N.length, (defBody d.st).map (cS T d.N (cE T d.N fuelE) (defScope d.st) fuelE)⟩
def scB (N ps : List Str) (sc : Scope) : Bool :=
  (match sc.kind with | .function => true | _ => false) && !sc.isCoroutine && !sc.isGenerator && decide N.Nodup && decide (N.take ps.length = ps) &&
    (ps.all fun x => match sc.names.lookup x with | some .local => true | some .cell => true | _ => false) && sc.names.all fun y => match y.2 with | .free => false | _ => true
theorem scB_ok {N ps : List Str} {sc : Scope} (h : scB N ps sc = true) : FnScope N ps sc := by
  unfold scB at h
  simp only [Bool.and_eq_true, decide_eq_true_eq, Bool.not_eq_true', List.all_eq_true] at h
  obtain ⟨⟨⟨⟨⟨⟨h1, h2⟩, h3⟩, h4⟩, h5⟩, h6⟩, h7⟩ := h
  refine ⟨?_, h2, h3, h4, h5, fun x hx => ?_, fun y hy e => ?_⟩
  · split at h1
    · assumption
    · cases h1
  · have := h6 x hx
    split at this
    · left; assumption
    · right; assumption
    · cases this
  · have := h7 y hy
    rw [e] at this
    cases this
theorem guards_deeper {A : Around} {env : Env} (h : A.guards = some []) : (A.deeper env).guards = some [] := h
section
variable {P : Program} {w : World} {K : PySem.W.Frag} {mg : Str → Option Value} {base : Heap}
/-- a def of the text, by its body -/
theorem fnG_of {x qual : Str} {st : Stmt} {f : Addr} {fd : FuncData} {N ps : List Str} {k : Nat} {sp : Sp} (F : Fun K x qual st f fd) (S : FnScope N ps (defScope st)) (len : ∀ vs H Q E, sp vs H Q E → vs.length = ps.length)
    (hbody : ∀ (cdv : Value) (A : Around) (outer : List Env) (s : Shared) (H : Hp) (vs : List V) (Q : VK) (E : XK), Room k (A.deeper (envOfC qual (defScope st) s.heap.objs.size f cdv)) → A.guards = some [] → sp vs H Q E →
      ∃ t, PSs (cxOf (L2.CX P w) P w K mg base N qual (defScope st) f cdv A outer s H E) (defBody st) t ∧ t { nx := fun _ H' => Q .non H', rt := Q } (start N vs) H) : FnG P w K mg base (k + 1) f fd ps sp := by
  obtain ⟨oc, od, kV, doc, pm, an, cdv, ct, osl, rfl, lk, hcd⟩ := F.ex
  refine ⟨len, fun A out s H args us vs Q E hr hg e0 hb r hsp => ?_⟩
  have keep : ∀ b o, base.get? b = some o → s.heap.get? b = some o := fun b o e => (e0.bs b o e).1
  have kIn := e0.mod.kin.keeps keep
  refine codeAny_call_function hr.depth (kIn _ _ lk) rfl S.co S.gen rfl (PySem.W.codeRec_of kIn hcd) (hb _ _ _ _ ?_)
  refine wpAny_newFunctionEnv_cells S.kind (fun ⟨n, v⟩ hy => (S.par n (List.of_mem_zip hy).1).elim .inl fun q => .inr ⟨q, PySem.W.cellsFrom_some _ _ _ (.inl q)⟩) fun env he s1 x => ?_
  subst he
  refine ⟨(e0.mod.nolimit.keeps keep).keeps x.toInCall.keep, codeAny_func ?_⟩
  obtain ⟨t, ht, hq⟩ := hbody cdv A out s H vs Q E (hr.deeper _) hg hsp
  refine wpAny_mono (ht.run [] s1 (start N vs) H _ (inv_start S hr.hd e0 (len _ _ _ _ hsp) r x) hq) (fun fl s' hs => ?_) fun e s' hs => hs
  cases fl with
  | next =>
    obtain ⟨σ', H', J, q⟩ := hs
    exact ⟨V.non, H', J.os, J.bare, J.base, J.hok, rfl, q⟩
  | ret u =>
    obtain ⟨v, σ', H', J, rv, q⟩ := hs
    exact ⟨v, H', J.os, J.bare, J.base, J.hok, rv, q⟩
  | brk => exact hs.elim fun _ h => h.elim fun _ h => h.2.elim
  | cont => exact hs.elim fun _ h => h.elim fun _ h => h.2.elim
/-- a body in Mini, so its def -/
theorem fnG_mini {G : Gx} {T : Tab} {p : Pg} {d : DefT} {f : Addr} {fd : FuncData} {k : Nat} {nm qual : Str} (F : Fun K nm qual d.st f fd) (S : FnScope d.N d.ps (defScope d.st))
    (hg : ∀ (cdv : Value) (A : Around) (outer : List Env) (s : Shared) (H : Hp) (E : XK), Room k (A.deeper (envOfC qual (defScope d.st) s.heap.objs.size f cdv)) → A.guards = some [] →
      Gd T G p (cxOf (L2.CX P w) P w K mg base d.N qual (defScope d.st) f cdv A outer s H E) fun c dd _ H' => E c dd H') :
    FnG P w K mg base (k + 1) f fd d.ps (spD G (runD p (fill T d))) := by
  have hle : d.ps.length ≤ d.N.length := by have := congrArg List.length S.pre; rw [List.length_take] at this; omega
  refine fnG_of F S (fun vs H Q E ⟨A, ds, _, _, r, h⟩ => ?_) fun cdv A outer s H vs Q E hr hgd ⟨B, ds, hH, hB, r, h⟩ => ?_
  · unfold runD at h
    split at h
    · rename_i hl
      rw [r.length]; exact hl
    · exact (show False from h).elim
  · unfold runD at h
    split at h
    · rename_i hl
      have hl : ds.length = d.ps.length := hl
      have gs : Gs T G p (cxOf (L2.CX P w) P w K mg base d.N qual (defScope d.st) f cdv A outer s H E) (fun c dd _ H' => E c dd H') := ⟨hg cdv A outer s H E hr hgd, passes_of (K := fun e s'' => L2.CX P w outer H s E e s'') rfl, fun _ => rfl, S.kind⟩
      refine ⟨_, cSs_ok (cS_ok (cE_ok fuelE) ⟨_, rfl⟩ gs rfl rfl fuelE) (defBody d.st), B, _, hH, hB, ⟨?_, fun i e q => ?_⟩, Res.sat_mono (Res.sat_bind h) (fun fl S' q => ?_) fun _ _ _ z _ => z⟩
      · unfold L2.start
        simp only [List.length_append, List.length_map, List.length_replicate]
        rw [r.length]; rfl
      · have hi : i < ds.length := by
          by_cases hi : i < ds.length
          · exact hi
          · rw [List.getElem?_append_right (by simpa using hi), List.getElem?_replicate] at q
            split at q <;> cases q
        rw [List.getElem?_append_left (by simpa using hi), List.getElem?_map] at q
        cases e1 : ds[i]? with
        | none => rw [e1] at q; cases q
        | some e' =>
          rw [e1] at q
          cases q
          obtain ⟨v, h1, h2⟩ := r.get e1
          refine ⟨v, ?_, h2⟩
          unfold L2.start
          rw [List.getElem?_append_left (by rw [List.length_map, r.length]; exact hi), List.getElem?_map, h1]
          rfl
      · cases fl with
        | nx ρ =>
          have q : Fin G B Q .non S' := q
          exact fun μ σ' H' g h1 _ => q μ _ H' g h1 rfl
        | rt e => exact q
        | bk ρ => exact (show False from q).elim
    · exact (show False from h).elim
end

/-! ### the whole text -/
structure Ftx (K : PySem.W.Frag) (mg : Str → Option Value) (kws : List (Nat × Nat × List Str × List Nat)) (i : Nat) (d : DefT) (f : Addr) (fd : FuncData) : Prop where
  fn : Fun K d.name d.name d.st f fd
  mg : mg d.name = some (.ref f)
  bi : Binds K fd d.ps []
  kw : ∀ n ns q, (i, n, ns, q) ∈ kws → ∀ (s : Shared) (us ws : List Value), us.length = n → ws.length = ns.length → BindsTo s fd ⟨us, ns.zip ws⟩ (d.ps.zip (permV .none (us ++ ws) q))
def Ftxs (K : PySem.W.Frag) (mg : Str → Option Value) (kws : List (Nat × Nat × List Str × List Nat)) : Nat → List DefT → List (Addr × FuncData) → Prop
  | _, [], _ => True
  | i, d :: ds, (f, fd) :: r => Ftx K mg kws i d f fd ∧ Ftxs K mg kws (i + 1) ds r
  | _, _ :: _, [] => False
theorem Ftxs.get {K : PySem.W.Frag} {mg : Str → Option Value} {kws : List (Nat × Nat × List Str × List Nat)} : ∀ {k : Nat} {ds : List DefT} {r : List (Addr × FuncData)} {i : Nat} {d : DefT}, Ftxs K mg kws k ds r → ds[i]? = some d → ∃ f fd, r[i]? = some (f, fd) ∧ Ftx K mg kws (k + i) d f fd
  | _, [], _, _, _, _, e => by simp at e
  | _, _ :: _, [], _, _, h, _ => h.elim
  | k, _ :: _, (f, fd) :: _, 0, _, h, e => by
    simp at e
    subst e
    exact ⟨f, fd, rfl, h.1⟩
  | k, _ :: ds, _ :: r, i + 1, d, h, e => by
    obtain ⟨f, fd, h1, h2⟩ := Ftxs.get (i := i) h.2 (by simpa using e)
    exact ⟨f, fd, by simpa using h1, by rw [show k + (i + 1) = k + 1 + i by omega]; exact h2⟩
/-- the text's own tables agree -/
def tabB (T : Tab) (ds : List DefT) : Bool :=
  (ds.all fun d => scB d.N d.ps (defScope d.st)) && (T.fns.all fun y => match ds[y.2]? with | some d => decide (d.name = y.1) | none => false)
structure Wtx (K : PySem.W.Frag) (mg : Str → Option Value) (T : Tab) (G : Gx) (ds : List DefT) (r : List (Addr × FuncData)) : Prop where
  hK : K = G.K
  tab : tabB T ds = true
  ftx : Ftxs K mg T.kws 0 ds r
  con : ∀ x d, T.cons.lookup x = some d → ∃ v u, mg x = some u ∧ RelV v u ∧ ∀ A, Rep G A d v
  blt : ∀ x ∈ T.blt, mg x = none
  gcd : ∀ x ∈ T.gcd, mg x = some (.builtin "math.gcd")
  cls : T.cls = []
  fld : T.flds = []
  ms : T.ms = []
  iss : T.iss = []
  lcm : ∀ x ∈ T.lcm, mg x = some (.builtin "math.lcm")
def txt (T : Tab) (ds : List DefT) : Txt := ⟨ds.map (fill T), []⟩
theorem lookup_mem' {α : Type} {x : Str} {i : α} : ∀ {l : List (Str × α)}, l.lookup x = some i → (x, i) ∈ l
  | [], h => by cases h
  | (y, j) :: l, h => by
    rw [List.lookup_cons] at h
    cases hb : x == y with
    | true =>
      rw [hb] at h
      cases h
      rw [beq_iff_eq] at hb
      subst hb
      exact List.mem_cons_self
    | false => rw [hb] at h; exact List.mem_cons_of_mem _ (lookup_mem' h)
theorem all_defs {P : Program} {w : World} {K : PySem.W.Frag} {mg : Str → Option Value} {T : Tab} {G : Gx} {ds : List DefT} {r : List (Addr × FuncData)} (Y : Wtx K mg T G ds r) (fuel : Nat) {base : Heap} :
    ∀ (n : Nat) (i : Nat) (d : DefT) (f : Addr) (fd : FuncData), ds[i]? = some d → r[i]? = some (f, fd) → FnG P w K mg base (2 * n) f fd d.ps (spD G ((pgN (txt T ds) fuel n).call i))
  | 0, i, d, f, fd, hd, hr => by
    have no : ∀ vs H Q E, ¬ spD G ((pgN (txt T ds) fuel 0).call i) vs H Q E := fun vs H Q E ⟨_, _, _, _, _, h⟩ => h
    exact ⟨fun vs H Q E h => absurd h (no vs H Q E), fun A out s H args us vs Q E _ _ _ _ _ h => absurd h (no vs H Q E)⟩
  | n + 1, i, d, f, fd, hd, hr => by
    have ih := all_defs (P := P) (w := w) (base := base) Y fuel n
    have tb := Y.tab
    unfold tabB at tb
    rw [Bool.and_eq_true, List.all_eq_true, List.all_eq_true] at tb
    obtain ⟨f', fd', e1, ft⟩ := Y.ftx.get hd
    rw [hr] at e1
    cases e1
    have run : (pgN (txt T ds) fuel (n + 1)).call i = runD (pgN (txt T ds) fuel n) (fill T d) := by
      funext ws S
      show (match (ds.map (fill T))[i]? with
        | some d => runD (pgN (txt T ds) fuel n) d ws S
        | none => .no) = _
      rw [List.getElem?_map, hd]
      rfl
    rw [run]
    refine FnG.mono (fnG_mini (k := 2 * n + 1) ft.fn (scB_ok (tb.1 d (List.mem_of_getElem? hd))) fun cdv A outer s H E hrm hgd => ?_) (by omega)
    refine ⟨Y.hK, rfl, ((scB_ok (tb.1 d (List.mem_of_getElem? hd)))).nd, guards_deeper hgd, ?_, takes_of rfl rfl rfl rfl, fun x j hj => ?_, Y.con, Y.blt, Y.gcd, fun x c h => ?_, fun x h => ?_, fun x h => ?_, fun x c h => ?_, Y.lcm⟩
    · have := hrm.un
      show (A.deeper _).units + 65 < cLine
      omega
    · have hm := tb.2 _ (lookup_mem' hj)
      cases hq : ds[j]? with
      | none => rw [hq] at hm; cases hm
      | some d2 =>
        rw [hq] at hm
        have hm : d2.name = x := of_decide_eq_true hm
        obtain ⟨f2, fd2, e2, ft2⟩ := Y.ftx.get hq
        refine ⟨2 * n, f2, fd2, d2.ps, ih j d2 f2 fd2 hq e2, hrm.mono (by omega), by rw [← hm]; exact ft2.mg, ft2.fn.kp, ft2.bi, fun m ns q hq2 => ?_⟩
        have := ft2.kw m ns q
        rw [Nat.zero_add] at this
        exact this hq2
    · rw [Y.cls] at h; cases h
    · rw [Y.fld] at h; cases h
    · rw [Y.ms] at h; cases h
    · rw [Y.iss] at h; cases h

/-! ### the end -/
theorem law_callG {P : Program} {w : World} {K : PySem.W.Frag} {mg mb : Str → Option Value} {k : Nat} {fa a : Addr} {fd : FuncData} {x : Str} {sp : Sp} {s₁ : Shared} {vs : List Value} {ns : List Int}
    (KX : K.In s₁.heap) (hns : s₁.heap.Ns mainGlobals mg) (hb : s₁.heap.Ns builtinsNs mb) (hbb : ∀ x : Str, x ≠ "__name__" → mb x = bootBuiltins x) (hlim : s₁.heap.NoLimit) (hg : s₁.gens = #[])
    (ha : s₁.heap.get? a = some { cls := .type "list", data := .seq vs.toArray }) (hi : IntsAre vs ns) (hl : ns.length ≤ sizeLine) (hr : Room k callerA)
    (F : ∀ base : Heap, K.In base → base.Ns mainGlobals mg → FnG P w K mg base k fa fd [x] sp) (hbind : ∀ (s : Shared) (u : Value), BindsTo s fd ⟨[u], []⟩ [(x, u)])
    (hsp : ∀ H : Hp, Only H → SqL K H a (ns.map V.int) → sp [.ref a] H (fun v _ => v = .bl true) fun _ _ _ => False) :
    codeAny (model P w) callerA (.call (.ref fa) ⟨[.ref a], []⟩) (fun r s' => r = .ok (.ret (.bool true)) ∧ OldK s₁.heap s'.heap ∧ s'.os = s₁.os ∧ AllBare s'.gens) s₁ := by
  have rv := vals_ints hi
  have lenV := hi.length
  -- nothing but the script may be tracked at the entry
  have main : ∀ H : Hp, Only H → SqL K H a (ns.map V.int) → HOk P w H s₁.heap → (∀ c, H c ≠ none → c = a) → (H a ≠ none → K.lookup a = none) →
      codeAny (model P w) callerA (.call (.ref fa) ⟨[.ref a], []⟩) (fun r s' => r = .ok (.ret (.bool true)) ∧ OldK s₁.heap s'.heap ∧ s'.os = s₁.os ∧ AllBare s'.gens) s₁ := by
    intro H only sq hok one noK
    have other : ∀ {c : Addr} {u : HO}, H c = some u → c = a := fun {c u} e => one c (by rw [e]; simp)
    have dicts : ∀ {c : Addr} {o : Obj} {es : Array DictEntry} {ep : Nat}, s₁.heap.get? c = some o → o.data = .dict es ep → H c = none := fun {c o es ep} e dd => by
      cases hq : H c with
      | none => rfl
      | some u =>
        cases other hq
        rw [ha] at e
        cases e
        exact nomatch (show Data.seq vs.toArray _ = Data.dict es ep from dd)
    have names : ∀ {c : Addr} {m : Str → Option Value}, s₁.heap.Ns c m → (hidT s₁.heap H).Ns c m := fun {c m} ⟨o, es, ep, e, dd, rest⟩ => ⟨o, es, ep, hidT_get e (dicts e dd), dd, rest⟩
    have inK : K.In (hidT s₁.heap H) := fun c o e => hidT_get (KX c o e) (by
      cases hq : H c with
      | none => rfl
      | some u =>
        cases other hq
        rw [noK (by rw [hq]; simp)] at e
        cases e)
    obtain ⟨mc, lim1, lim2⟩ := hlim
    have e0 : Env0 P w K mg (hidT s₁.heap H) callerA [] s₁ H :=
      ⟨rfl, ⟨inK, names hns, ⟨mb, names hb, hbb⟩, ⟨mc, names lim1, lim2⟩⟩, fun c o e => of_hidT e, Nat.le_of_eq (hidT_size _ _), trivial, (fun c hc => nomatch (show c ∈ ([] : List Addr) from hc)), hok, .of_eq hg⟩
    refine codeAny_mono ((F _ inK (names hns)).run callerA [] s₁ H ⟨[.ref a], []⟩ [.ref a] [.ref a] _ _ hr rfl e0 (hbind s₁ (.ref a)) (.cons rfl .nil) (hsp H only sq)) fun r s' h => ?_
    match r, h with
    | .error e, ⟨_, _, _, _, _, _, _, _, _, _, _, _, no⟩ => exact no.elim
    | .ok .next, h => exact h.elim
    | .ok .brk, h => exact h.elim
    | .ok .cont, h => exact h.elim
    | .ok (.ret u), ⟨v, H', os, bare, un, hok', rel, q⟩ =>
      have q : v = .bl true := q
      subst q
      obtain rfl : u = Value.bool true := rel
      refine ⟨rfl, OldK.of_keep fun c o e => ?_, os, bare⟩
      cases hq : H c with
      | none => exact un.keep c o e hq (fun z => nomatch (show c ∈ ([] : List Addr) from z)) (by simp)
      | some u =>
        rcases only c with z | ⟨ob, xs, z⟩
        · rw [hq] at z; cases z
        · have e1 := (hok c _ z).1
          rw [e] at e1
          cases e1
          exact (hok' c _ (un.frzs c _ _ z)).1
  cases hk : K.lookup a with
  | some o =>
    have e := KX a o hk
    rw [ha] at e
    cases e
    refine main (fun _ => none) (fun _ => .inl rfl) (.inr ⟨_, vs.toArray, _, hk, rfl, rfl, rfl, ?_, by simpa using rv⟩) (fun c u z => nomatch (show (none : Option HO) = some u from z)) (fun c z => absurd rfl z) fun z => absurd rfl z
    rw [List.size_toArray, lenV]
    exact hl
  | none =>
    have at_ : ∀ c, c ≠ a → (fun b => if b = a then some (HO.frz { cls := .type "list", data := .seq vs.toArray } (.lst (ns.map V.int))) else none) c = none := fun c hc => if_neg hc
    refine main (fun b => if b = a then some (HO.frz { cls := .type "list", data := .seq vs.toArray } (.lst (ns.map V.int))) else none) (fun c => ?_) (.inl (.inr ⟨_, if_pos rfl⟩)) (fun c u z => ?_) (fun c z => ?_) fun _ => hk
    · by_cases hc : c = a
      · exact .inr ⟨_, _, if_pos hc⟩
      · exact .inl (at_ c hc)
    · by_cases hc : c = a
      · cases (if_pos hc).symm.trans z
        subst hc
        exact ⟨ha, by rw [List.length_map]; exact hl, vs, _, rv, ha⟩
      · exact nomatch (at_ c hc).symm.trans z
    · by_cases hc : c = a
      · exact hc
      · exact absurd (at_ c hc) z
/-- the script, locked, as the one cell -/
theorem spD_law {G : Gx} {run : List D → Sto → Res D} {H : Hp} {a : Addr} {ns : List Int} (only : Only H) (sq : SqL G.K H a (ns.map V.int)) (h : ∃ S', run [.ref 0] [.frz (ns.map D.int)] = .ok (.bl true) S') : spD G run [.ref a] H (fun v _ => v = .bl true) fun _ _ _ => False := by
  obtain ⟨S', h⟩ := h
  have fz : FzL G.K H a (ns.map V.int) := by
    rcases sq with (z | z) | z
    · rcases only a with e | ⟨ob, xs, e⟩
      · rw [z] at e; cases e
      · rw [z] at e; cases e
    · exact .inl z
    · exact .inr z
  have reps : ∀ ns : List Int, RepL G ⟨fun _ => a, [.frz (ns.map D.int)], H⟩ (ns.map D.int) (ns.map V.int) := fun ns => by
    have : ∀ (S : Sto) (ms : List Int), RepL G ⟨fun _ => a, S, H⟩ (ms.map D.int) (ms.map V.int) := fun S ms => by
      induction ms with
      | nil => exact .nil
      | cons m ms ih => exact .cons rfl ih
    exact this _ ns
  refine ⟨⟨fun _ => a, [.frz (ns.map D.int)], H⟩, [.ref 0], rfl, ⟨fun n c e => ?_, fun i j ci cj ei ej wi wj _ => ?_⟩, .cons ⟨Nat.zero_lt_one, rfl⟩ .nil, ?_⟩
  · have : n = 0 ∧ c = .frz (ns.map D.int) := by
      cases n with
      | zero => simp at e; exact ⟨rfl, e.symm⟩
      | succ n => simp at e
    rw [this.2]
    exact ⟨_, fz, reps ns⟩
  · cases i with
    | zero => simp at ei; subst ei; cases wi
    | succ i => simp at ei
  · rw [h]
    exact fun μ v H' _ _ rv => rv
/-- the goal that k_head leaves -/
theorem walkM {l : PySem.W.OpenLaw} {m k : Nat} {q : Program} {loose : List Str} {XP : (Str → Option Value) → Heap → Prop} {YP : World → Heap → Prop} {d : DefRec} {K : Params → PySem.W.Frag} {run : List D → Sto → Res D} {x : Str}
    (hn : l.most = some m) (hn2 : m ≤ sizeLine) (hdf : d.params.defaults = []) (hr : Room k callerA) (hY : ∀ (w : World) (h : Heap), YP w h → (K w.params).In h)
    (F : ∀ (w : World) (mg : Str → Option Value) (fa : Addr) (h : Heap), (K w.params).In h → h.Ns mainGlobals mg → mg d.name = some (.ref fa) → ∃ (G : Gx) (fd : FuncData), G.K = K w.params ∧ (∀ (s : Shared) (u : Value), BindsTo s fd ⟨[u], []⟩ [(x, u)]) ∧
        ∀ base : Heap, (K w.params).In base → base.Ns mainGlobals mg → FnG l.prog w (K w.params) mg base k fa fd [x] (spD G run))
    (law : ∀ ns : List Int, ns.length ≤ m → ∃ S', run [.ref 0] [.frz (ns.map D.int)] = .ok (.bl true) S') : PySem.W.WalkO q loose XP YP l.row.toRowW d [] (fun f vs => PySem.call f vs) := by
  refine Att.attach_call hn hdf fun w s₀ s₁ mg mb fa o pm cd doc a vs ns E Y ho hd hcd hmg hobj hints hlen hg => ?_
  have KX := hY w _ Y
  obtain ⟨G, fd, eG, hb, hF⟩ := F w mg fa _ KX E.T.g hmg
  exact law_callG KX E.T.g E.T.b E.T.builtins E.T.nolimit hg hobj hints (Nat.le_trans hlen hn2) hr hF hb fun H only sq => spD_law only (by rw [eG]; exact sq) (law ns hlen)
end Mini
set_option maxHeartbeats 4000000
/-! Mini: a text with classes of its own and their methods. -/
namespace Mini
open PySem PySem.Spec PyProof.Rows L2
def flat (kls : List KlT) : List DefT := kls.flatMap fun k => k.ini :: k.ms.map (·.1)
def mtab : Nat → List (DefT × Str) → List (Str × Nat)
  | _, [] => []
  | i, d :: r => (d.1.name, i) :: mtab (i + 1) r
def clss : Nat → List KlT → List Clas
  | _, [] => []
  | i, k :: r => ⟨i, mtab (i + 1) k.ms⟩ :: clss (i + 1 + k.ms.length) r
/-- the text: its defs, behind them each class's __init__ and methods -/
def txtK (T : Tab) (ds : List DefT) (kls : List KlT) : Txt := ⟨(ds ++ flat kls).map (fill T), clss ds.length kls⟩
theorem mtab_get : ∀ {ms : List (DefT × Str)} {i j : Nat} {m : Str}, (mtab i ms).lookup m = some j → ∃ t d, j = i + t ∧ ms[t]? = some d ∧ d.1.name = m
  | [], _, _, _, h => by cases h
  | d :: r, i, j, m, h => by
    have h : ((d.1.name, i) :: mtab (i + 1) r).lookup m = some j := h
    rw [List.lookup_cons] at h
    cases hb : m == d.1.name with
    | true =>
      rw [hb] at h
      cases h
      exact ⟨0, d, rfl, rfl, (beq_iff_eq.mp hb).symm⟩
    | false =>
      rw [hb] at h
      obtain ⟨t, d', e, h1, h2⟩ := mtab_get h
      exact ⟨t + 1, d', by omega, by simpa using h1, h2⟩
theorem clss_get : ∀ {kls : List KlT} {i c : Nat} {kl : Clas}, (clss i kls)[c]? = some kl → ∃ k o, kls[c]? = some k ∧ kl = ⟨o, mtab (o + 1) k.ms⟩ ∧ ∀ pre : List DefT, pre.length = i → (pre ++ flat kls)[o]? = some k.ini ∧ ∀ (j : Nat) (d : DefT × Str), k.ms[j]? = some d → (pre ++ flat kls)[o + 1 + j]? = some d.1
  | [], _, _, _, h => by
    have h : ([] : List Clas)[_]? = some _ := h
    simp at h
  | k :: r, i, 0, kl, h => by
    have h : (⟨i, mtab (i + 1) k.ms⟩ : Clas) = kl := Option.some.inj h
    refine ⟨k, i, rfl, h.symm, fun pre hp => ⟨?_, fun j d hj => ?_⟩⟩
    · rw [List.getElem?_append_right (by omega), hp, Nat.sub_self]; rfl
    · rw [List.getElem?_append_right (by omega), hp, show i + 1 + j - i = j + 1 by omega]
      have hl : j < k.ms.length := (List.getElem?_eq_some_iff.mp hj).1
      show ((k.ini :: k.ms.map (·.1)) ++ flat r)[j + 1]? = _
      rw [List.getElem?_append_left (by simpa using hl), List.getElem?_cons_succ, List.getElem?_map, hj]; rfl
  | k :: r, i, c + 1, kl, h => by
    have h : (clss (i + 1 + k.ms.length) r)[c]? = some kl := by simpa [clss] using h
    obtain ⟨k', o, h1, h2, h3⟩ := clss_get h
    refine ⟨k', o, by simpa using h1, h2, fun pre hp => ?_⟩
    have := h3 (pre ++ (k.ini :: k.ms.map (·.1))) (by simp; omega)
    have e : pre ++ (k.ini :: k.ms.map (·.1)) ++ flat r = pre ++ flat (k :: r) := by rw [List.append_assoc]; rfl
    rw [e] at this
    exact this
/-- what the head tells of the classes -/
structure KtxK (K : PySem.W.Frag) (mg : Str → Option Value) (T : Tab) (G : Gx) (kls : List KlT) : Prop where
  cls : ∀ x c, T.cls.lookup x = some c → ∃ k f fd, kls[c]? = some k ∧ Mk K (G.ca c) f ∧ Fun K "__init__" k.iq k.ini.st f fd ∧ scB k.ini.N k.ini.ps (defScope k.ini.st) = true ∧ Binds K fd k.ini.ps [] ∧ mg x = some (.ref (G.ca c))
  mth : ∀ c k (d : DefT × Str), kls[c]? = some k → d ∈ k.ms → ∃ f fd, Cls K (G.ca c) ∧ Meth K (G.ca c) d.1.name f ∧ Fun K d.1.name d.2 d.1.st f fd ∧ scB d.1.N d.1.ps (defScope d.1.st) = true ∧ Binds K fd d.1.ps []
  fld : ∀ g ∈ T.flds, ∀ c, Cls K (G.ca c) ∧ NoAttr K (G.ca c) g
  iss : ∀ x c, T.iss.lookup x = some c → mg x = some (.ref (G.ca c)) ∧ IsC K (G.ca c)
structure WtxK (K : PySem.W.Frag) (mg : Str → Option Value) (T : Tab) (G : Gx) (ds : List DefT) (r : List (Addr × FuncData)) (kls : List KlT) : Prop where
  hK : K = G.K
  tab : tabB T ds = true
  ftx : Ftxs K mg T.kws 0 ds r
  con : ∀ x d, T.cons.lookup x = some d → ∃ v u, mg x = some u ∧ RelV v u ∧ ∀ A, Rep G A d v
  blt : ∀ x ∈ T.blt, mg x = none
  gcd : ∀ x ∈ T.gcd, mg x = some (.builtin "math.gcd")
  ktx : KtxK K mg T G kls
  lcm : ∀ x ∈ T.lcm, mg x = some (.builtin "math.lcm")
def runN (X : Txt) (T : Tab) (fuel : Nat) : Nat → DefT → List D → Sto → Res D
  | 0, _ => fun _ _ => .no
  | n + 1, d => runD (pgN X fuel n) (fill T d)
section
variable {P : Program} {w : World} {K : PySem.W.Frag} {mg : Str → Option Value} {T : Tab} {G : Gx} {ds : List DefT} {r : List (Addr × FuncData)} {kls : List KlT} {base : Heap}
theorem call_run {fuel i : Nat} {d : DefT} (hd : ds[i]? = some d) : ∀ n, (pgN (txtK T ds kls) fuel n).call i = runN (txtK T ds kls) T fuel n d
  | 0 => rfl
  | n + 1 => by
    funext ws S
    show (match ((ds ++ flat kls).map (fill T))[i]? with
      | some d => runD (pgN (txtK T ds kls) fuel n) d ws S
      | none => .no) = _
    rw [List.getElem?_map, List.getElem?_append_left (List.getElem?_eq_some_iff.mp hd).1, hd]
    rfl
theorem make_run {fuel c : Nat} {k : KlT} (hk : kls[c]? = some k) : ∀ n ws S, (pgN (txtK T ds kls) fuel n).make c ws S = initE (runN (txtK T ds kls) T fuel n k.ini) c ws S
  | 0, _, _ => rfl
  | n + 1, ws, S => by
    have hl : ∃ kl, (clss ds.length kls)[c]? = some kl := by
      have key : ∀ {kls : List KlT} {i c : Nat}, c < kls.length → ∃ kl, (clss i kls)[c]? = some kl := by
        intro kls
        induction kls with
        | nil => intro i c h; simp at h
        | cons k r ih =>
          intro i c h
          cases c with
          | zero => exact ⟨_, rfl⟩
          | succ c => exact ih (i := i + 1 + k.ms.length) (by simpa using h)
      exact key (List.getElem?_eq_some_iff.mp hk).1
    obtain ⟨kl, hkl⟩ := hl
    obtain ⟨k', o, h1, h2, h3⟩ := clss_get hkl
    rw [hk] at h1
    cases h1
    have e := (h3 ds rfl).1
    show (match (clss ds.length kls)[c]? with
      | some k => match ((ds ++ flat kls).map (fill T))[k.init]? with
        | some d => (runD (pgN (txtK T ds kls) fuel n) d (.ref S.length :: ws) ((S ++ [Mini.Cl.ins c []] : Sto))).bind fun r S1 => match r with
          | .non => Res.ok (D.ref S.length) S1
          | _ => Res.no
        | none => .no
      | none => .no) = _
    rw [hkl, h2]
    show (match ((ds ++ flat kls).map (fill T))[o]? with
        | some d => (runD (pgN (txtK T ds kls) fuel n) d (.ref S.length :: ws) ((S ++ [Mini.Cl.ins c []] : Sto))).bind fun r S1 => match r with
          | .non => Res.ok (D.ref S.length) S1
          | _ => Res.no
        | none => .no) = _
    rw [List.getElem?_map, e]
    rfl
theorem meth_run {fuel c : Nat} {m : Str} : ∀ n, (pgN (txtK T ds kls) fuel n).own c m = true → ∃ k d, kls[c]? = some k ∧ d ∈ k.ms ∧ d.1.name = m ∧ ∀ ws S, (pgN (txtK T ds kls) fuel n).meth c m ws S = runN (txtK T ds kls) T fuel n d.1 ws S
  | 0, h => by cases h
  | n + 1, h => by
    have h : (((clss ds.length kls)[c]?).bind fun k => k.meths.lookup m).isSome = true := h
    obtain ⟨f, hf⟩ := Option.isSome_iff_exists.mp h
    cases hc : (clss ds.length kls)[c]? with
    | none => rw [hc] at hf; cases hf
    | some kl =>
      rw [hc] at hf
      have hf : kl.meths.lookup m = some f := hf
      obtain ⟨k, o, h1, h2, h3⟩ := clss_get hc
      rw [h2] at hf
      obtain ⟨t, d, e, h4, h5⟩ := mtab_get hf
      refine ⟨k, d, h1, List.mem_of_getElem? h4, h5, fun ws S => ?_⟩
      show (match ((clss ds.length kls)[c]?).bind (fun k => k.meths.lookup m) with
        | some f => match ((ds ++ flat kls).map (fill T))[f]? with
          | some d => runD (pgN (txtK T ds kls) fuel n) d ws S
          | none => .no
        | none => .no) = _
      rw [hc, h2]
      show (match (mtab (o + 1) k.ms).lookup m with
        | some f => match ((ds ++ flat kls).map (fill T))[f]? with
          | some d => runD (pgN (txtK T ds kls) fuel n) d ws S
          | none => .no
        | none => .no) = _
      rw [hf]
      show (match ((ds ++ flat kls).map (fill T))[f]? with
          | some d => runD (pgN (txtK T ds kls) fuel n) d ws S
          | none => .no) = _
      rw [e, List.getElem?_map, (h3 ds rfl).2 t d h4]
      rfl
theorem fn_all (Y : WtxK K mg T G ds r kls) (fuel : Nat) : ∀ (n : Nat) (nm qual : Str) (d : DefT) (f : Addr) (fd : FuncData), Fun K nm qual d.st f fd → scB d.N d.ps (defScope d.st) = true → FnG P w K mg base (2 * n) f fd d.ps (spD G (runN (txtK T ds kls) T fuel n d))
  | 0, nm, qual, d, f, fd, _, _ => by
    have no : ∀ vs H Q E, ¬ spD G (runN (txtK T ds kls) T fuel 0 d) vs H Q E := fun vs H Q E ⟨_, _, _, _, _, h⟩ => h
    exact ⟨fun vs H Q E h => absurd h (no vs H Q E), fun A out s H args us vs Q E _ _ _ _ _ h => absurd h (no vs H Q E)⟩
  | n + 1, nm, qual, d, f, fd, hF, hS => by
    have ih := fn_all Y fuel n
    have tb := Y.tab
    unfold tabB at tb
    rw [Bool.and_eq_true, List.all_eq_true, List.all_eq_true] at tb
    show FnG P w K mg base (2 * (n + 1)) f fd d.ps (spD G (runD (pgN (txtK T ds kls) fuel n) (fill T d)))
    have sc := scB_ok hS
    refine FnG.mono (fnG_mini (k := 2 * n + 1) hF sc fun cdv A outer s H E hrm hgd => ?_) (by omega)
    refine ⟨Y.hK, rfl, sc.nd, guards_deeper hgd, ?_, takes_of rfl rfl rfl rfl, fun x j hj => ?_, Y.con, Y.blt, Y.gcd, fun x c h => ?_, fun x h c => Y.ktx.fld x h c, fun m hm c ho => ?_, Y.ktx.iss, Y.lcm⟩
    · have := hrm.un
      show (A.deeper _).units + 65 < cLine
      omega
    · have hm := tb.2 _ (lookup_mem' hj)
      cases hq : ds[j]? with
      | none => rw [hq] at hm; cases hm
      | some d2 =>
        rw [hq] at hm
        have hm : d2.name = x := of_decide_eq_true hm
        obtain ⟨f2, fd2, e2, ft2⟩ := Y.ftx.get hq
        refine ⟨2 * n, f2, fd2, d2.ps, ?_, hrm.mono (by omega), by rw [← hm]; exact ft2.mg, ft2.fn.kp, ft2.bi, fun m ns q hq2 => ?_⟩
        · rw [call_run hq]
          exact ih _ _ d2 f2 fd2 ft2.fn (tb.1 d2 (List.mem_of_getElem? hq))
        · have := ft2.kw m ns q
          rw [Nat.zero_add] at this
          exact this hq2
    · obtain ⟨k, f2, fd2, hk, mk, hf, hs, hb, hm⟩ := Y.ktx.cls x c h
      exact ⟨2 * n, f2, fd2, k.ini.ps, _, mk, ih _ _ k.ini f2 fd2 hf hs, make_run hk n, hrm, hm, hb⟩
    · obtain ⟨k, d2, hk, hd, en, er⟩ := meth_run n ho
      obtain ⟨f2, fd2, c1, c2, c3, c4, c5⟩ := Y.ktx.mth c k d2 hk hd
      rw [en] at c2
      exact ⟨_, ⟨2 * n, f2, fd2, d2.1.ps, c1, c2, ih _ _ d2.1 f2 fd2 c3 c4, hrm.mono (by omega), c5⟩, er⟩
end
end Mini
set_option maxHeartbeats 4000000
/-! Mini: the head by one kernel run; what it leaves, told to the text's tables. -/
namespace Mini
open PySem PySem.Spec PyProof.Rows L2
/-! ### constants -/
mutual
theorem conB_ok {K : PySem.W.Frag} {G : Gx} (hK : K = G.K) : ∀ {d : D} {u : Value}, conB K d u = true → ∃ v, RelV v u ∧ ∀ A, Rep G A d v
  | .non, u, h => by
    cases u with
    | none => exact ⟨.non, rfl, fun _ => rfl⟩
    | _ => cases h
  | .bl b, u, h => by
    cases u with
    | bool c =>
      have e : b = c := eq_of_beq (show (b == c) = true from h)
      subst e
      exact ⟨.bl b, rfl, fun _ => rfl⟩
    | _ => cases h
  | .int i, u, h => by
    cases u with
    | int j t =>
      have e : i = j := of_decide_eq_true h
      subst e
      exact ⟨.int i, ⟨t, rfl⟩, fun _ => rfl⟩
    | _ => cases h
  | .str x, u, h => by
    cases u with
    | str y t =>
      have e : x = y := of_decide_eq_true h
      subst e
      exact ⟨.str x, ⟨t, rfl⟩, fun _ => rfl⟩
    | _ => cases h
  | .tup ds, u, h => by
    cases u with
    | ref a =>
      have h1 : (match K.lookup a with
        | some ⟨.type c, _, .seq its _, _⟩ => decide (c = "tuple") && (decide (its.size ≤ sizeLine) && consB K ds its.toList)
        | _ => false) = true := h
      cases q : K.lookup a with
      | none => rw [q] at h1; cases h1
      | some o =>
        obtain ⟨oc, od, dt, osl⟩ := o
        rw [q] at h1
        cases oc with
        | type c =>
          cases dt with
          | seq its n =>
            obtain ⟨h2, h3⟩ := He.ba (show (decide (c = "tuple") && (decide (its.size ≤ sizeLine) && consB K ds its.toList)) = true from h1)
            obtain ⟨h4, h5⟩ := He.ba h3
            obtain ⟨vs, r1, r2⟩ := consB_ok hK h5
            subst hK
            exact ⟨.ref a, rfl, fun A => ⟨a, vs, rfl, .inr ⟨_, its, n, q, congrArg Value.type (of_decide_eq_true h2), rfl, of_decide_eq_true h4, r1⟩, r2 A⟩⟩
          | _ => cases h1
        | _ => cases dt <;> cases h1
    | _ => cases h
  | .ref _, _, h => by cases h
  | .glb _, _, h => by cases h
theorem consB_ok {K : PySem.W.Frag} {G : Gx} (hK : K = G.K) : ∀ {ds : List D} {us : List Value}, consB K ds us = true → ∃ vs, Vals vs us ∧ ∀ A, RepL G A ds vs
  | [], us, h => by
    have e : us = [] := List.isEmpty_iff.mp h
    subst e
    exact ⟨[], .nil, fun _ => rfl⟩
  | d :: ds, us, h => by
    cases us with
    | nil => cases h
    | cons u r =>
      obtain ⟨h1, h2⟩ := He.ba (show (conB K d u && consB K ds r) = true from h)
      obtain ⟨v, r1, r2⟩ := conB_ok hK h1
      obtain ⟨vs, r3, r4⟩ := consB_ok hK h2
      exact ⟨v :: vs, .cons r1 r3, fun A => .cons (r2 A) (r4 A)⟩
end
/-! ### the text's tables -/
def BindOk (nm qual : Str) (d : DefT) : Prop := ∀ (kV doc pm : Value) (an : Option Addr) (cdv ct : Value) (us : List Value), us.length = d.ps.length →
  bindArgs (PySem.W.fnOf nm qual (defArgs d.st) (defBody d.st) (defScope d.st) .none kV doc pm an cdv ct) ⟨us, []⟩ = pure (d.ps.zip us)
def KwOk (d : DefT) (n : Nat) (ns : List Str) (q : List Nat) : Prop := ∀ (kV doc pm : Value) (an : Option Addr) (cdv ct : Value) (us ws : List Value), us.length = n → ws.length = ns.length →
  bindArgs (PySem.W.fnOf d.name d.name (defArgs d.st) (defBody d.st) (defScope d.st) .none kV doc pm an cdv ct) ⟨us, ns.zip ws⟩ = pure (d.ps.zip (permV .none (us ++ ws) q))
def BindsAll : List DefT → Prop
  | [] => True
  | d :: ds => BindOk d.name d.name d ∧ BindsAll ds
theorem BindsAll.get : ∀ {ds : List DefT} {i : Nat} {d : DefT}, BindsAll ds → ds[i]? = some d → BindOk d.name d.name d
  | [], _, _, _, e => by simp at e
  | _ :: _, 0, _, h, e => by
    simp at e
    subst e
    exact h.1
  | _ :: _, i + 1, _, h, e => BindsAll.get (i := i) h.2 (by simpa using e)
theorem BindsAll.app : ∀ {as bs : List DefT}, BindsAll as → BindsAll bs → BindsAll (as ++ bs)
  | [], _, _, h => h
  | _ :: _, _, h, k => ⟨h.1, BindsAll.app h.2 k⟩
def KwsAll (ds : List DefT) : List (Nat × Nat × List Str × List Nat) → Prop
  | [] => True
  | (i, n, ns, q) :: r => (∃ d, ds[i]? = some d ∧ KwOk d n ns q) ∧ KwsAll ds r
theorem KwsAll.get {ds : List DefT} : ∀ {l : List (Nat × Nat × List Str × List Nat)} {i n : Nat} {ns : List Str} {q : List Nat} {d : DefT}, KwsAll ds l → (i, n, ns, q) ∈ l → ds[i]? = some d → KwOk d n ns q
  | [], _, _, _, _, _, _, h, _ => by cases h
  | (i', n', ns', q') :: r, i, n, ns, q, d, h, hm, hd => by
    rcases List.mem_cons.mp hm with e | hm
    · cases e
      obtain ⟨⟨d', e', k⟩, _⟩ := h
      rw [hd] at e'
      cases e'
      exact k
    · exact KwsAll.get h.2 hm hd
theorem funD_fun {K : PySem.W.Frag} {x qual : Str} {st : Stmt} {f : Addr} {fd : FuncData} (F : FunD K x qual (defArgs st) (defBody st) (defScope st) [] [] f fd) : Fun K x qual st f fd := by
  obtain ⟨oc, od, dV, kV, doc, pm, an, cdv, ct, osl, h1, h2, h3, h4, _⟩ := F.ex
  have e : dV = .none := by
    rcases h4 with ⟨_, e⟩ | ⟨e, _⟩
    · exact e
    · exact absurd rfl e
  subst e
  exact ⟨⟨oc, od, kV, doc, pm, an, cdv, ct, osl, h1, h2, h3⟩, F.kp⟩
theorem says_def {fn : List He.DefD} {K : PySem.W.Frag} (c : He.SaysD [] fn K) {d : He.DefD} (h : d ∈ fn) : ∃ fd, FunD K d.name d.qual d.params d.body d.scope (d.dvs K) (d.kws K) (He.fAd K d.at_) fd := by
  obtain ⟨i, hi, e⟩ := List.mem_iff_getElem.mp h
  exact c.def_ i (d := d) (by rw [List.getElem?_eq_getElem hi, e])
section
variable {K : PySem.W.Frag} {h : Heap} {mg : Str → Option Value} {T : Tab} {ds : List DefT} {fn : List He.DefD}
theorem ftx_mk (X : K.In h) (E : h.Ns mainGlobals mg) (c : He.SaysD [] fn K) (sub : ∀ d ∈ ds, d.dd ∈ fn) (hb : headB T ds K = true) (B : BindsAll ds) (W : KwsAll ds T.kws) {j : Nat} {d : DefT} (hd : ds[j]? = some d) : ∃ fd, Ftx K mg T.kws j d (He.ga K d.name) fd := by
  have mem := List.mem_of_getElem? hd
  obtain ⟨fd, F0⟩ := says_def c (sub d mem)
  have F : Fun K d.name d.name d.st (He.ga K d.name) fd := funD_fun F0
  have g1 := List.all_eq_true.mp (He.ba hb).1 d mem
  refine ⟨fd, F, PySem.W.mg_of X E (He.eqO_ok g1), F.binds (B.get hd), fun n ns q hq s us ws h1 h2 => ?_⟩
  obtain ⟨oc, od, kV, doc, pm, an, cdv, ct, osl, rfl, _, _⟩ := F.ex
  exact .of_eq (W.get hq hd kV doc pm an cdv ct us ws h1 h2)
theorem ftxs_mk {kws : List (Nat × Nat × List Str × List Nat)} : ∀ (ds : List DefT) (i : Nat), (∀ j d, ds[j]? = some d → ∃ fd, Ftx K mg kws (i + j) d (He.ga K d.name) fd) → ∃ r, Ftxs K mg kws i ds r
  | [], _, _ => ⟨[], True.intro⟩
  | d :: ds, i, h => by
    obtain ⟨fd, f⟩ := h 0 d rfl
    obtain ⟨r, hr⟩ := ftxs_mk ds (i + 1) fun j d' hj => by
      have := h (j + 1) d' (by simpa using hj)
      rw [show i + (j + 1) = i + 1 + j by omega] at this
      exact this
    exact ⟨(He.ga K d.name, fd) :: r, f, hr⟩
theorem con_mk (X : K.In h) (E : h.Ns mainGlobals mg) (hb : headB T ds K = true) {G : Gx} (hK : K = G.K) : ∀ x d, T.cons.lookup x = some d → ∃ v u, mg x = some u ∧ RelV v u ∧ ∀ A, Rep G A d v := fun x d hx => by
  have g := List.all_eq_true.mp (He.ba (He.ba (He.ba (He.ba hb).2).2).2).2 _ (lookup_mem' hx)
  have g : (match PySem.W.nsIn K mainGlobals x with
    | some (some u) => conB K d u
    | _ => false) = true := g
  cases q : PySem.W.nsIn K mainGlobals x with
  | none => rw [q] at g; cases g
  | some o =>
    rw [q] at g
    cases o with
    | none => cases g
    | some u =>
      obtain ⟨v, r1, r2⟩ := conB_ok hK g
      exact ⟨v, u, PySem.W.mg_of X E q, r1, r2⟩
theorem blt_mk (X : K.In h) (E : h.Ns mainGlobals mg) (hb : headB T ds K = true) : ∀ x ∈ T.blt, mg x = none := fun x hx => PySem.W.mg_none_of X E (He.eqO_ok (List.all_eq_true.mp (He.ba (He.ba hb).2).1 x hx))
theorem gcd_mk (X : K.In h) (E : h.Ns mainGlobals mg) (hb : headB T ds K = true) : ∀ x ∈ T.gcd, mg x = some (.builtin "math.gcd") := fun x hx => PySem.W.mg_of X E (He.eqO_ok (List.all_eq_true.mp (He.ba (He.ba (He.ba hb).2).2).1 x hx))
theorem lcm_mk (X : K.In h) (E : h.Ns mainGlobals mg) (hb : headB T ds K = true) : ∀ x ∈ T.lcm, mg x = some (.builtin "math.lcm") := fun x hx => PySem.W.mg_of X E (He.eqO_ok (List.all_eq_true.mp (He.ba (He.ba (He.ba (He.ba hb).2).2).2).1 x hx))
theorem wtx_mk (X : K.In h) (E : h.Ns mainGlobals mg) (c : He.SaysD [] fn K) (sub : ∀ d ∈ ds, d.dd ∈ fn) (hb : headB T ds K = true) (tb : tabB T ds = true) (B : BindsAll ds) (W : KwsAll ds T.kws) (h1 : T.cls = []) (h2 : T.flds = []) (h3 : T.ms = []) (h4 : T.iss = []) : ∃ r, Wtx K mg T ⟨K, fun _ => .non, fun _ => 0⟩ ds r := by
  obtain ⟨r, hr⟩ := ftxs_mk (K := K) (mg := mg) (kws := T.kws) ds 0 fun j d hd => by
    rw [Nat.zero_add]
    exact ftx_mk X E c sub hb B W hd
  exact ⟨r, rfl, tb, hr, con_mk X E hb rfl, blt_mk X E hb, gcd_mk X E hb, h1, h2, h3, h4, lcm_mk X E hb⟩
end
/-! ### own classes -/
def clsT : Nat → List KlT → List (Str × Nat)
  | _, [] => []
  | i, k :: r => (k.nm, i) :: clsT (i + 1) r
theorem clsT_get : ∀ {kls : List KlT} {i c : Nat} {x : Str}, (clsT i kls).lookup x = some c → ∃ t k, c = i + t ∧ kls[t]? = some k ∧ k.nm = x
  | [], _, _, _, h => by cases h
  | k :: r, i, c, x, h => by
    have h : ((k.nm, i) :: clsT (i + 1) r).lookup x = some c := h
    rw [List.lookup_cons] at h
    cases hb : x == k.nm with
    | true =>
      rw [hb] at h
      cases h
      exact ⟨0, k, rfl, rfl, (beq_iff_eq.mp hb).symm⟩
    | false =>
      rw [hb] at h
      obtain ⟨t, k', e, h1, h2⟩ := clsT_get h
      exact ⟨t + 1, k', by omega, by simpa using h1, h2⟩
/-- the class of a number; the first one beyond -/
def nmK (kls : List KlT) (c : Nat) : Str := match kls[c]? with
  | some k => k.nm
  | none => match kls with
    | k :: _ => k.nm
    | [] => "object"
theorem nmK_of {kls : List KlT} {c : Nat} {k : KlT} (h : kls[c]? = some k) : nmK kls c = k.nm := by unfold nmK; rw [h]
def KlsOk : List KlT → Prop
  | [] => True
  | k :: r => (BindOk "__init__" k.iq k.ini ∧ scB k.ini.N k.ini.ps (defScope k.ini.st) = true ∧ ∀ d ∈ k.ms, BindOk d.1.name d.2 d.1 ∧ scB d.1.N d.1.ps (defScope d.1.st) = true) ∧ KlsOk r
theorem KlsOk.mem : ∀ {kls : List KlT} {k : KlT}, KlsOk kls → k ∈ kls → BindOk "__init__" k.iq k.ini ∧ scB k.ini.N k.ini.ps (defScope k.ini.st) = true ∧ ∀ d ∈ k.ms, BindOk d.1.name d.2 d.1 ∧ scB d.1.N d.1.ps (defScope d.1.st) = true
  | _ :: _, k, h, hm => by
    rcases List.mem_cons.mp hm with rfl | hm
    · exact h.1
    · exact KlsOk.mem h.2 hm
theorem ktxK_mk {K : PySem.W.Frag} {h : Heap} {mg : Str → Option Value} {T : Tab} {fn : List He.DefD} {kls : List KlT} (X : K.In h) (E : h.Ns mainGlobals mg) (c : He.SaysD [] fn K) (hm : ∀ k ∈ kls, ∀ d ∈ k.dfs, d ∈ fn) (hk : klssB kls T K = true)
    (B : KlsOk kls) (hc : T.cls = clsT 0 kls) (hne : kls ≠ []) (his : T.iss = [] ∨ T.iss = clsT 0 kls) : KtxK K mg T ⟨K, fun _ => .non, fun c => He.ga K (nmK kls c)⟩ kls := by
  have ask : ∀ k ∈ kls, klsB k.nm T K = true ∧ ∀ d ∈ k.ms, (He.Fa.meth k.nm d.1.name).ok K = true := fun k hk2 => by
    have := List.all_eq_true.mp hk k hk2
    obtain ⟨a, b⟩ := He.ba this
    obtain ⟨b, _⟩ := He.ba b
    exact ⟨a, fun d hd => List.all_eq_true.mp b d hd⟩
  have askI : ∀ k ∈ kls, (T.iss.isEmpty || iscB K (He.ga K k.nm)) = true := fun k hk2 => by
    have := List.all_eq_true.mp hk k hk2
    obtain ⟨a, b⟩ := He.ba this
    exact (He.ba b).2
  refine ⟨fun x c hx => ?_, fun c k d hk2 hd => ?_, fun g hg c => ?_, fun x c hx => ?_⟩
  · rw [hc] at hx
    obtain ⟨t, k, e, h1, h2⟩ := clsT_get hx
    rw [Nat.zero_add] at e
    subst e
    have mem := List.mem_of_getElem? h1
    obtain ⟨k1, k2⟩ := He.ba (ask k mem).1
    obtain ⟨k2, k3⟩ := He.ba k2
    obtain ⟨b1, b2, _⟩ := B.mem mem
    obtain ⟨fd, F0⟩ := says_def (d := k.ini.di k.nm k.iq) ‹_› (hm k mem _ List.mem_cons_self)
    have F : Fun K "__init__" k.iq k.ini.st (He.ma K (He.ga K k.nm) "__init__") fd := funD_fun F0
    refine ⟨k, _, fd, h1, ?_, F, b2, F.binds b1, ?_⟩
    · show Mk K (He.ga K (nmK kls c)) _
      rw [nmK_of h1]
      exact He.mkr_ok k1
    · show mg x = some (.ref (He.ga K (nmK kls c)))
      rw [nmK_of h1, ← h2]
      exact He.glo_ok X E k2
  · have mem := List.mem_of_getElem? hk2
    obtain ⟨k1, k2⟩ := He.ba (ask k mem).1
    obtain ⟨_, k3⟩ := He.ba k2
    obtain ⟨k3, _⟩ := He.ba k3
    obtain ⟨_, _, b3⟩ := B.mem mem
    obtain ⟨b4, b5⟩ := b3 d hd
    obtain ⟨fd, F0⟩ := says_def (d := ⟨(k.nm, some d.1.name), d.1.name, d.2, defArgs d.1.st, defBody d.1.st, defScope d.1.st, [], []⟩) ‹_› (hm k mem _ (List.mem_cons_of_mem _ (List.mem_map.mpr ⟨d, hd, rfl⟩)))
    have F : Fun K d.1.name d.2 d.1.st (He.ma K (He.ga K k.nm) d.1.name) fd := funD_fun F0
    refine ⟨He.ma K (He.ga K k.nm) d.1.name, fd, ?_, ?_, F, b5, F.binds b4⟩
    · show Cls K (He.ga K (nmK kls c))
      rw [nmK_of hk2]
      exact He.cls_ok k3
    · show Meth K (He.ga K (nmK kls c)) _ _
      rw [nmK_of hk2]
      exact He.meth_ok ((ask k mem).2 d hd)
  · have some_ : ∃ k ∈ kls, nmK kls c = k.nm := by
      unfold nmK
      cases q : kls[c]? with
      | some k => exact ⟨k, List.mem_of_getElem? q, rfl⟩
      | none =>
        cases kls with
        | nil => exact absurd rfl hne
        | cons k r => exact ⟨k, List.mem_cons_self, rfl⟩
    obtain ⟨k, mem, e⟩ := some_
    obtain ⟨k1, k2⟩ := He.ba (ask k mem).1
    obtain ⟨_, k3⟩ := He.ba k2
    obtain ⟨k3, k4⟩ := He.ba k3
    show Cls K (He.ga K (nmK kls c)) ∧ NoAttr K (He.ga K (nmK kls c)) g
    rw [e]
    exact ⟨He.cls_ok k3, He.noat_ok (List.all_eq_true.mp k4 g hg)⟩
  · rcases his with his | his
    · rw [his] at hx; cases hx
    · have ne : T.iss.isEmpty = false := by
        rw [his]
        cases kls with
        | nil => exact absurd rfl hne
        | cons k r => rfl
      rw [his] at hx
      obtain ⟨t, k, e, h1, h2⟩ := clsT_get hx
      rw [Nat.zero_add] at e
      subst e
      have mem := List.mem_of_getElem? h1
      obtain ⟨k1, k2⟩ := He.ba (ask k mem).1
      obtain ⟨k2, k3⟩ := He.ba k2
      obtain ⟨k3, _⟩ := He.ba k3
      have q := askI k mem
      rw [ne, Bool.false_or] at q
      obtain ⟨q1, q⟩ := He.ba q
      obtain ⟨q2, q⟩ := He.ba q
      obtain ⟨q3, q⟩ := He.ba q
      obtain ⟨q4, q5⟩ := He.ba q
      show mg x = some (.ref (He.ga K (nmK kls c))) ∧ IsC K (He.ga K (nmK kls c))
      subst h2
      rw [nmK_of h1]
      exact ⟨He.glo_ok X E k2, He.cls_ok k3, of_decide_eq_true q1, of_decide_eq_true q2, of_decide_eq_true q3, of_decide_eq_true q4, of_decide_eq_true q5⟩
/-! ### the end -/
theorem walkH {l : PySem.W.OpenLaw} {m level fuel li : Nat} {T : Tab} {ds : List DefT} {q : Program} {loose : List Str} {XP : (Str → Option Value) → Heap → Prop} {d : DefRec} {dl : DefT} {x : Str} {fn : List He.DefD} {ex : PySem.W.Frag → Bool}
    (hn : l.most = some m) (hn2 : m ≤ sizeLine) (hdf : d.params.defaults = []) (hr : Room (2 * level) callerA) (hname : d.name = dl.name) (hl : ds[li]? = some dl) (hps : dl.ps = [x]) (hfn : fn = ds.map DefT.dd) (hex : ex = headB T ds)
    (tb : tabB T ds = true) (B : BindsAll ds) (W : KwsAll ds T.kws) (h1 : T.cls = []) (h2 : T.flds = []) (h3 : T.ms = []) (h4 : T.iss = [])
    (law : ∀ ns : List Int, ns.length ≤ m → ∃ S', (pgN (txt T ds) fuel level).call li [.ref 0] [.frz (ns.map D.int)] = .ok (.bl true) S') :
    PySem.W.WalkO q loose XP (hookM fn ex).says l.row.toRowW d [] (fun f vs => PySem.call f vs) := by
  refine Att.attach_call hn hdf fun w s₀ s₁ mg mb fa o pm cd doc a vs ns E Y ho hd hcd hmg hobj hints hlen hg => ?_
  obtain ⟨K, KX, c, hb⟩ := Y
  subst hfn hex
  obtain ⟨r, Y⟩ := wtx_mk KX E.T.g c (fun d hd => List.mem_map.mpr ⟨d, hd, rfl⟩) hb tb B W h1 h2 h3 h4
  obtain ⟨f, fd, e1, ft⟩ := Y.ftx.get hl
  have ef := hmg.symm.trans ((congrArg mg hname).trans ft.mg)
  cases ef
  have bnd := B.get hl
  refine law_callG (x := x) KX E.T.g E.T.b E.T.builtins E.T.nolimit hg hobj hints (Nat.le_trans hlen hn2) hr (fun base _ _ => by
    have := all_defs (P := l.prog) (w := w) (base := base) Y fuel level li dl fa fd hl e1
    rw [hps] at this
    exact this) (fun s u => ?_) fun H only sq => spD_law only sq (law ns hlen)
  obtain ⟨oc, od, kV, doc, pm, an, cdv, ct, osl, rfl, _, _⟩ := ft.fn.ex
  refine .of_eq ?_
  have := bnd kV doc pm an cdv ct [u] (by rw [hps]; rfl)
  rw [hps] at this
  exact this
theorem walkHK {l : PySem.W.OpenLaw} {m level fuel li : Nat} {T : Tab} {ds : List DefT} {kls : List KlT} {q : Program} {loose : List Str} {XP : (Str → Option Value) → Heap → Prop} {d : DefRec} {dl : DefT} {x : Str} {fn : List He.DefD} {ex : PySem.W.Frag → Bool}
    (hn : l.most = some m) (hn2 : m ≤ sizeLine) (hdf : d.params.defaults = []) (hr : Room (2 * level) callerA) (hname : d.name = dl.name) (hl : ds[li]? = some dl) (hps : dl.ps = [x]) (hfn : fn = ds.map DefT.dd ++ kls.flatMap KlT.dfs) (hex : ex = fun K => headB T ds K && klssB kls T K)
    (tb : tabB T ds = true) (B : BindsAll ds) (Bk : KlsOk kls) (W : KwsAll ds T.kws) (h1 : T.cls = clsT 0 kls) (hne : kls ≠ []) (his : T.iss = [] ∨ T.iss = clsT 0 kls)
    (law : ∀ ns : List Int, ns.length ≤ m → ∃ S', (pgN (txtK T ds kls) fuel level).call li [.ref 0] [.frz (ns.map D.int)] = .ok (.bl true) S') :
    PySem.W.WalkO q loose XP (hookM fn ex).says l.row.toRowW d [] (fun f vs => PySem.call f vs) := by
  refine Att.attach_call hn hdf fun w s₀ s₁ mg mb fa o pm cd doc a vs ns E Y ho hd hcd hmg hobj hints hlen hg => ?_
  obtain ⟨K, KX, c, hb⟩ := Y
  subst hfn hex
  obtain ⟨hb, hk⟩ := He.ba hb
  have kt := ktxK_mk KX E.T.g c (fun k hk2 d hd => List.mem_append.mpr (.inr (List.mem_flatMap.mpr ⟨k, hk2, hd⟩))) hk Bk h1 hne his
  obtain ⟨r, hr2⟩ := ftxs_mk (K := K) (mg := mg) (kws := T.kws) ds 0 fun j d hd => by
    rw [Nat.zero_add]
    exact ftx_mk KX E.T.g c (fun d hd => List.mem_append.mpr (.inl (List.mem_map.mpr ⟨d, hd, rfl⟩))) hb B W hd
  have Y : WtxK K mg T ⟨K, fun _ => .non, fun c => He.ga K (nmK kls c)⟩ ds r kls := ⟨rfl, tb, hr2, con_mk KX E.T.g hb rfl, blt_mk KX E.T.g hb, gcd_mk KX E.T.g hb, kt, lcm_mk KX E.T.g hb⟩
  obtain ⟨f, fd, e1, ft⟩ := Y.ftx.get hl
  have ef := hmg.symm.trans ((congrArg mg hname).trans ft.mg)
  cases ef
  have bnd := B.get hl
  have tb2 := tb
  unfold tabB at tb2
  rw [Bool.and_eq_true, List.all_eq_true] at tb2
  refine law_callG (x := x) KX E.T.g E.T.b E.T.builtins E.T.nolimit hg hobj hints (Nat.le_trans hlen hn2) hr (fun base _ _ => by
    have := fn_all (P := l.prog) (w := w) (base := base) Y fuel level _ _ dl fa fd ft.fn (tb2.1 dl (List.mem_of_getElem? hl))
    rw [hps, ← call_run hl] at this
    exact this) (fun s u => ?_) fun H only sq => spD_law only sq (law ns hlen)
  obtain ⟨oc, od, kV, doc, pm, an, cdv, ct, osl, rfl, _, _⟩ := ft.fn.ex
  refine .of_eq ?_
  have := bnd kV doc pm an cdv ct [u] (by rw [hps]; rfl)
  rw [hps] at this
  exact this
end Mini
/-! Mini: what a run answers, by weakest conditions. -/
namespace Mini
open PySem

structure wp {α : Type} (r : Res α) (P : α → Sto → Prop) : Prop where
  run : r.sat P fun _ _ _ => False
variable {α β : Type} {p : Pg} {ρ : Loc} {S : Sto}
theorem wp_ok {a : α} {P : α → Sto → Prop} : wp (.ok a S) P ↔ P a S := ⟨fun h => h.run, fun h => ⟨h⟩⟩
theorem wp_no {P : α → Sto → Prop} : wp (.no : Res α) P ↔ False := ⟨fun h => h.run, fun h => h.elim⟩
theorem wp_xx {c : Nat} {fs : List (Str × D)} {P : α → Sto → Prop} : wp (.ex c fs S : Res α) P ↔ False := ⟨fun h => h.run, fun h => h.elim⟩
theorem wp_bind {r : Res α} {k : α → Sto → Res β} {P : β → Sto → Prop} : wp (r.bind k) P ↔ wp r fun a S => wp (k a S) P := by
  cases r with
  | ok a S => exact (wp_ok (P := fun a S => wp (k a S) P)).symm
  | ex c f S => exact wp_xx.trans wp_xx.symm
  | no => exact wp_no.trans wp_no.symm
theorem wp_some {a : α} {P : α → Sto → Prop} : wp (ofOpt S (some a)) P ↔ P a S := wp_ok
theorem wp_none {P : α → Sto → Prop} : wp (ofOpt S (none : Option α)) P ↔ False := wp_no
theorem wp_noex {r : Res α} {P : α → Sto → Prop} : wp r.noex P ↔ wp r P := by
  cases r with
  | ok a S => exact Iff.rfl
  | ex c f S => exact wp_no.trans wp_xx.symm
  | no => exact Iff.rfl
theorem wp_ite {c : Prop} [Decidable c] {a b : Res α} {P : α → Sto → Prop} : wp (if c then a else b) P ↔ if c then wp a P else wp b P := by split <;> exact Iff.rfl
theorem wp_mono {r : Res α} {P Q : α → Sto → Prop} (h : wp r P) (k : ∀ a S, P a S → Q a S) : wp r Q := ⟨Res.sat_mono h.run k fun _ _ _ z => z⟩
theorem wp_and {r : Res α} {P Q : α → Sto → Prop} (h : wp r P) (k : wp r Q) : wp r fun a S => P a S ∧ Q a S := by
  cases r with
  | ok a S => exact ⟨⟨h.run, k.run⟩⟩
  | ex => exact h.run.elim
  | no => exact h.run.elim
theorem wp_ex {r : Res α} {P : α → Sto → Prop} (h : wp r P) : ∃ a S, r = .ok a S ∧ P a S := by
  cases r with
  | ok a S => exact ⟨a, S, rfl, h.run⟩
  | ex => exact h.run.elim
  | no => exact h.run.elim
section
variable {P : D → Sto → Prop}
theorem wp_var {i : Nat} : wp (evE p (.var i) ρ S) P ↔ ∃ d, ρ[i]? = some (some d) ∧ P d S := by
  show wp (match ρ[i]? with
  | some (some d) => Res.ok d S
  | _ => .no) P ↔ _
  cases q : ρ[i]? with
  | none => exact ⟨fun h => h.run.elim, fun ⟨d, h, _⟩ => by cases h⟩
  | some o =>
    cases o with
    | none => exact ⟨fun h => h.run.elim, fun ⟨d, h, _⟩ => by cases h⟩
    | some d => exact ⟨fun h => ⟨d, rfl, h.run⟩, fun ⟨d', h, z⟩ => by cases h; exact ⟨z⟩⟩
theorem wp_con {d : D} : wp (evE p (.con d) ρ S) P ↔ P d S := wp_ok
theorem wp_dct : wp (evE p .dct ρ S) P ↔ P (.ref S.length) (S ++ [.dct]) := wp_ok
theorem wp_tup {es : List Ex} : wp (evE p (.tup es) ρ S) P ↔ wp (evEs p es ρ S) fun ds S1 => P (.tup ds) S1 := by
  show wp ((evEs p es ρ S).bind fun ds S1 => Res.ok (.tup ds) S1) P ↔ _
  simp only [wp_bind, wp_ok]
theorem wp_lst {es : List Ex} : wp (evE p (.lst es) ρ S) P ↔ wp (evEs p es ρ S) fun ds S1 => P (.ref S1.length) (S1 ++ [.lst ds]) := by
  show wp ((evEs p es ρ S).bind fun ds S1 => new (.lst ds) S1) P ↔ _
  simp only [wp_bind, new, wp_ok]
theorem wp_bin {o : Bop} {a b : Ex} : wp (evE p (.bin o a b) ρ S) P ↔ wp (evE p a ρ S) fun x S1 => wp (evE p b ρ S1) fun y S2 => wp (binE o x y S2) P := by
  show wp ((evE p a ρ S).bind fun x S1 => (evE p b ρ S1).bind fun y S2 => binE o x y S2) P ↔ _
  simp only [wp_bind]
theorem wp_neg {a : Ex} : wp (evE p (.neg a) ρ S) P ↔ wp (evE p a ρ S) fun x S1 => wp (negE x S1) P := by
  show wp ((evE p a ρ S).bind negE) P ↔ _
  simp only [wp_bind]
theorem wp_not {a : Ex} : wp (evE p (.not a) ρ S) P ↔ wp (evE p a ρ S) fun x S1 => ∃ b, truth S1 x = some b ∧ P (.bl (!b)) S1 := by
  show wp ((evE p a ρ S).bind fun x S1 => ofOpt S1 ((truth S1 x).map fun b => .bl (!b))) P ↔ _
  rw [wp_bind]
  refine ⟨fun h => wp_mono h fun x S1 h => ?_, fun h => wp_mono h fun x S1 h => ?_⟩
  · cases q : truth S1 x with
    | none => rw [q] at h; exact h.run.elim
    | some b => rw [q] at h; exact ⟨b, rfl, h.run⟩
  · obtain ⟨b, q, h⟩ := h
    rw [q]; exact ⟨h⟩
theorem wp_opt {o : Option α} {Q : α → Sto → Prop} : wp (ofOpt S o) Q ↔ ∃ a, o = some a ∧ Q a S := by
  cases o with
  | none => exact ⟨fun h => h.run.elim, fun ⟨a, h, _⟩ => by cases h⟩
  | some a => exact ⟨fun h => ⟨a, rfl, h.run⟩, fun ⟨a', h, z⟩ => by cases h; exact ⟨z⟩⟩
theorem wp_optB {o : Option Bool} {Q : Bool → Sto → Prop} : wp (ofOpt S o) Q ↔ ∃ a, o = some a ∧ Q a S := wp_opt
theorem wp_and_ {a b : Ex} : wp (evE p (.and a b) ρ S) P ↔ wp (evE p a ρ S) fun x S1 => ∃ t, truth S1 x = some t ∧ if t = true then wp (evE p b ρ S1) P else P x S1 := by
  show wp ((evE p a ρ S).bind fun x S1 => (ofOpt S1 (truth S1 x)).bind fun t S1 => if t then evE p b ρ S1 else .ok x S1) P ↔ _
  simp only [wp_bind, wp_opt, wp_ite, wp_ok]
theorem wp_or_ {a b : Ex} : wp (evE p (.or a b) ρ S) P ↔ wp (evE p a ρ S) fun x S1 => ∃ t, truth S1 x = some t ∧ if t = true then P x S1 else wp (evE p b ρ S1) P := by
  show wp ((evE p a ρ S).bind fun x S1 => (ofOpt S1 (truth S1 x)).bind fun t S1 => if t then .ok x S1 else evE p b ρ S1) P ↔ _
  simp only [wp_bind, wp_opt, wp_ite, wp_ok]
theorem wp_map {o : Option α} {f : α → β} {Q : β → Sto → Prop} : wp (ofOpt S (o.map f)) Q ↔ ∃ a, o = some a ∧ Q (f a) S := by
  cases o with
  | none => exact ⟨fun h => h.run.elim, fun ⟨a, h, _⟩ => by cases h⟩
  | some a => exact ⟨fun h => ⟨a, rfl, h.run⟩, fun ⟨a', h, z⟩ => by cases h; exact ⟨z⟩⟩
theorem wp_cmp {o : Cop} {a b : Ex} : wp (evE p (.cmp o a b) ρ S) P ↔ wp (evE p a ρ S) fun x S1 => wp (evE p b ρ S1) fun y S2 => ∃ t, cmpE o x y S2 = some t ∧ P (.bl t) S2 := by
  show wp ((evE p a ρ S).bind fun x S1 => (evE p b ρ S1).bind fun y S2 => ofOpt S2 ((cmpE o x y S2).map .bl)) P ↔ _
  simp only [wp_bind, wp_map]
theorem wp_chain {o o' : Cop} {a b c : Ex} : wp (evE p (.chain o o' a b c) ρ S) P ↔ wp (evE p a ρ S) fun x S1 => wp (evE p b ρ S1) fun y S2 => ∃ t, cmpE o x y S2 = some t ∧
    if t = true then wp (evE p c ρ S2) fun z S3 => ∃ u, cmpE o' y z S3 = some u ∧ P (.bl u) S3 else P (.bl false) S2 := by
  show wp ((evE p a ρ S).bind fun x S1 => (evE p b ρ S1).bind fun y S2 => (ofOpt S2 (cmpE o x y S2)).bind fun t S2 =>
      if t then (evE p c ρ S2).bind fun z S3 => ofOpt S3 ((cmpE o' y z S3).map .bl) else .ok (.bl false) S2) P ↔ _
  simp only [wp_bind, wp_optB, wp_ite, wp_ok, wp_map]
theorem wp_if {c a b : Ex} : wp (evE p (.ite c a b) ρ S) P ↔ wp (evE p c ρ S) fun x S1 => ∃ t, truth S1 x = some t ∧ if t = true then wp (evE p a ρ S1) P else wp (evE p b ρ S1) P := by
  show wp ((evE p c ρ S).bind fun x S1 => (ofOpt S1 (truth S1 x)).bind fun t S1 => if t then evE p a ρ S1 else evE p b ρ S1) P ↔ _
  simp only [wp_bind, wp_opt, wp_ite]
theorem wp_call {f : Nat} {es : List Ex} : wp (evE p (.call f es none) ρ S) P ↔ wp (evEs p es ρ S) fun ds S1 => wp (p.call f ds S1) P := by
  show wp ((evEs p es ρ S).bind fun ds S1 => (ofOpt S1 (permD ds none)).bind fun ds S1 => p.call f ds S1) P ↔ _
  simp only [wp_bind, permD, wp_some]
theorem wp_callK {f : Nat} {es : List Ex} {q : List Nat} : wp (evE p (.call f es (some q)) ρ S) P ↔ wp (evEs p es ρ S) fun ds S1 => ∃ as, (q.mapM fun i => ds[i]?) = some as ∧ wp (p.call f as S1) P := by
  show wp ((evEs p es ρ S).bind fun ds S1 => (ofOpt S1 (permD ds (some q))).bind fun ds S1 => p.call f ds S1) P ↔ _
  simp only [wp_bind, permD, wp_opt]
theorem wp_fn {g : Fn} {es : List Ex} : wp (evE p (.fn g es) ρ S) P ↔ wp (evEs p es ρ S) fun ds S1 => wp (fnE g ds S1) P := by
  show wp ((evEs p es ρ S).bind fun ds S1 => fnE g ds S1) P ↔ _
  simp only [wp_bind]
theorem wp_me {m : Me} {o : Ex} {es : List Ex} : wp (evE p (.me m o es) ρ S) P ↔ wp (evE p o ρ S) fun x S1 => if isLst S1 x = true then wp (evEs p es ρ S1) fun ds S2 => wp (meE m x ds S2) P else False := by
  show wp ((evE p o ρ S).bind fun x S1 => if isLst S1 x then (evEs p es ρ S1).bind fun ds S2 => meE m x ds S2 else .no) P ↔ _
  simp only [wp_bind, wp_ite, wp_no]
theorem wp_fld {o : Ex} {f : Str} : wp (evE p (.fld o f) ρ S) P ↔ wp (evE p o ρ S) fun x S1 => wp (fldE f x S1) P := by
  show wp ((evE p o ρ S).bind (fldE f)) P ↔ _
  simp only [wp_bind]
theorem wp_isc {e : Ex} {c : Nat} : wp (evE p (.isc e c) ρ S) P ↔ wp (evE p e ρ S) fun x S1 => ∃ b, iscE S1 x c = some b ∧ P (.bl b) S1 := by
  show wp ((evE p e ρ S).bind fun x S1 => ofOpt S1 ((iscE S1 x c).map D.bl)) P ↔ _
  simp only [wp_bind, wp_map]
theorem wp_make {c : Nat} {es : List Ex} : wp (evE p (.make c es) ρ S) P ↔ wp (evEs p es ρ S) fun ds S1 => wp (p.make c ds S1) P := by
  show wp ((evEs p es ρ S).bind fun ds S1 => p.make c ds S1) P ↔ _
  rw [wp_bind]
theorem wp_meth {m : Str} {o : Ex} {es : List Ex} : wp (evE p (.meth m o es) ρ S) P ↔ wp (evE p o ρ S) fun x S1 => ∃ c, ownC S1 x m = some c ∧ if p.own c m = true then wp (evEs p es ρ S1) fun ds S2 => wp (p.meth c m (x :: ds) S2) P else False := by
  show wp ((evE p o ρ S).bind fun x S1 => (ofOpt S1 (ownC S1 x m)).bind fun c S1 => if p.own c m then (evEs p es ρ S1).bind fun ds S2 => p.meth c m (x :: ds) S2 else .no) P ↔ _
  simp only [wp_bind, wp_opt, wp_ite, wp_no]
theorem wp_ix {o i : Ex} : wp (evE p (.ix o i) ρ S) P ↔ wp (evE p o ρ S) fun x S1 => wp (evE p i ρ S1) fun y S2 => ∃ d, ixE S2 x y = some d ∧ P d S2 := by
  show wp ((evE p o ρ S).bind fun x S1 => (evE p i ρ S1).bind fun y S2 => ofOpt S2 (ixE S2 x y)) P ↔ _
  simp only [wp_bind, wp_opt]
theorem wp_oN {Q : Option Int → Sto → Prop} : wp (evO p none ρ S) Q ↔ Q none S := wp_ok
theorem wp_oS {e : Ex} {Q : Option Int → Sto → Prop} : wp (evO p (some e) ρ S) Q ↔ wp (evE p e ρ S) fun d S1 => ∃ i, partI d = some i ∧ Q (some i) S1 := by
  show wp ((evE p e ρ S).bind fun d S1 => ofOpt S1 ((partI d).map some)) Q ↔ _
  simp only [wp_bind, wp_map]
theorem wp_sl {o : Ex} {lo hi : Option Ex} : wp (evE p (.sl o lo hi) ρ S) P ↔ wp (evE p o ρ S) fun x S1 => wp (evO p lo ρ S1) fun l S2 => wp (evO p hi ρ S2) fun h S3 => wp (slE x l h S3) P := by
  show wp ((evE p o ρ S).bind fun x S1 => (evO p lo ρ S1).bind fun l S2 => (evO p hi ρ S2).bind fun h S3 => slE x l h S3) P ↔ _
  simp only [wp_bind]
theorem wp_rev {o : Ex} : wp (evE p (.rev o) ρ S) P ↔ wp (evE p o ρ S) fun x S1 => wp (revE x S1) P := by
  show wp ((evE p o ρ S).bind fun x S1 => revE x S1) P ↔ _
  simp only [wp_bind]
theorem wp_revT {o k : Ex} : wp (evE p (.revT o k) ρ S) P ↔ wp (evE p o ρ S) fun x S1 => wp (evE p k ρ S1) fun y S2 => wp (revTE x y S2) P := by
  show wp ((evE p o ρ S).bind fun x S1 => (evE p k ρ S1).bind fun y S2 => revTE x y S2) P ↔ _
  simp only [wp_bind]
theorem wp_cat2 {a b : Ex} : wp (evE p (.cat2 a b) ρ S) P ↔ wp (evE p a ρ S) fun x S1 => ∃ xs, tupE x = some xs ∧ wp (evE p b ρ S1) fun y S2 => ∃ ys, tupE y = some ys ∧ wp (if xs.length + ys.length ≤ 1000 then .ok (.tup (xs ++ ys)) S2 else .no) P := by
  show wp ((evE p a ρ S).bind fun x S1 => (ofOpt S1 (tupE x)).bind fun xs S1 => (evE p b ρ S1).bind fun y S2 => (ofOpt S2 (tupE y)).bind fun ys S2 => if xs.length + ys.length ≤ 1000 then .ok (.tup (xs ++ ys)) S2 else .no) P ↔ _
  simp only [wp_bind, wp_opt]
theorem wp_mid3 {a b c : Ex} : wp (evE p (.mid3 a b c) ρ S) P ↔ wp (evE p a ρ S) fun x S1 => wp (evE p b ρ S1) fun y S2 => ∃ ys, tupE y = some ys ∧ wp (evE p c ρ S2) fun z S3 => wp (if ys.length ≤ 900 then new (.lst (x :: (ys ++ [z]))) S3 else .no) P := by
  show wp ((evE p a ρ S).bind fun x S1 => (evE p b ρ S1).bind fun y S2 => (ofOpt S2 (tupE y)).bind fun ys S2 => (evE p c ρ S2).bind fun z S3 => if ys.length ≤ 900 then new (.lst (x :: (ys ++ [z]))) S3 else .no) P ↔ _
  simp only [wp_bind, wp_opt]
theorem wp_lrg1 {a : Ex} : wp (evE p (.lrg1 a) ρ S) P ↔ wp (evE p a ρ S) fun x S1 => wp (lrgE S1 (.int 0) x) P := by
  show wp ((evE p a ρ S).bind fun x S1 => lrgE S1 (.int 0) x) P ↔ _
  simp only [wp_bind]
theorem wp_lrg2 {a b : Ex} : wp (evE p (.lrg2 a b) ρ S) P ↔ wp (evE p a ρ S) fun x S1 => wp (evE p b ρ S1) fun y S2 => wp (lrgE S2 x y) P := by
  show wp ((evE p a ρ S).bind fun x S1 => (evE p b ρ S1).bind fun y S2 => lrgE S2 x y) P ↔ _
  simp only [wp_bind]
theorem wp_trg1 {a : Ex} : wp (evE p (.trg1 a) ρ S) P ↔ wp (evE p a ρ S) fun x S1 => wp (trgE S1 (.int 0) x) P := by
  show wp ((evE p a ρ S).bind fun x S1 => trgE S1 (.int 0) x) P ↔ _
  simp only [wp_bind]
theorem wp_trg2 {a b : Ex} : wp (evE p (.trg2 a b) ρ S) P ↔ wp (evE p a ρ S) fun x S1 => wp (evE p b ρ S1) fun y S2 => wp (trgE S2 x y) P := by
  show wp ((evE p a ρ S).bind fun x S1 => (evE p b ρ S1).bind fun y S2 => trgE S2 x y) P ↔ _
  simp only [wp_bind]
/-- a comprehension's body -/
def bodyC (p : Pg) (t : Tg) (cs : List Ex) (elt : Ex) (ρ : Loc) (d : D) (S : Sto) : Res (Option D) := (asg p t d ρ S).bind fun ρ1 S1 => (evT p cs ρ1 S1).bind fun b S2 => if b then (evE p elt ρ1 S2).bind fun e S3 => .ok (some e) S3 else .ok none S2
theorem wp_comp {t : Tg} {it : It} {cs : List Ex} {elt : Ex} {own : List Nat} : wp (evE p (.comp t it cs elt own) ρ S) P ↔ wp (evI p it ρ S) fun src S1 => wp (compN src S1.length (fun d S => (bodyC p t cs elt (wipeL ρ own) d S).noex) p.fuel 0 (S1 ++ [.lst []])) P := by
  show wp ((evI p it ρ S).bind fun src S1 => compN src S1.length (fun d S => (bodyC p t cs elt (wipeL ρ own) d S).noex) p.fuel 0 (S1 ++ [.lst []])) P ↔ _
  simp only [wp_bind]
end
theorem wp_nil {P : List D → Sto → Prop} : wp (evEs p [] ρ S) P ↔ P [] S := wp_ok
theorem wp_cons {e : Ex} {es : List Ex} {P : List D → Sto → Prop} : wp (evEs p (e :: es) ρ S) P ↔ wp (evE p e ρ S) fun d S1 => wp (evEs p es ρ S1) fun ds S2 => P (d :: ds) S2 := by
  show wp ((evE p e ρ S).bind fun d S1 => (evEs p es ρ S1).bind fun ds S2 => .ok (d :: ds) S2) P ↔ _
  simp only [wp_bind, wp_ok]
theorem wp_tN {P : Bool → Sto → Prop} : wp (evT p [] ρ S) P ↔ P true S := wp_ok
theorem wp_tC {e : Ex} {es : List Ex} {P : Bool → Sto → Prop} : wp (evT p (e :: es) ρ S) P ↔ wp (evE p e ρ S) fun d S1 => ∃ b, truth S1 d = some b ∧ if b = true then wp (evT p es ρ S1) P else P false S1 := by
  show wp ((evE p e ρ S).bind fun d S1 => (ofOpt S1 (truth S1 d)).bind fun b S1 => if b then evT p es ρ S1 else .ok false S1) P ↔ _
  simp only [wp_bind, wp_opt, wp_ite, wp_ok]
section
variable {P : Src → Sto → Prop}
theorem wp_iv {e : Ex} : wp (evI p (.val e) ρ S) P ↔ wp (evE p e ρ S) fun x S1 => ∃ s, srcOf S1 x = some s ∧ P s S1 := by
  show wp ((evE p e ρ S).bind fun x S1 => ofOpt S1 (srcOf S1 x)) P ↔ _
  simp only [wp_bind, wp_opt]
theorem wp_i1 {a : Ex} : wp (evI p (.rng1 a) ρ S) P ↔ wp (evE p a ρ S) fun x S1 => ∃ s, rng1E x = some s ∧ P s S1 := by
  show wp ((evE p a ρ S).bind fun x S1 => ofOpt S1 (rng1E x)) P ↔ _
  simp only [wp_bind, wp_opt]
theorem wp_i2 {a b : Ex} : wp (evI p (.rng2 a b) ρ S) P ↔ wp (evE p a ρ S) fun x S1 => wp (evE p b ρ S1) fun y S2 => ∃ s, rng2E x y = some s ∧ P s S2 := by
  show wp ((evE p a ρ S).bind fun x S1 => (evE p b ρ S1).bind fun y S2 => ofOpt S2 (rng2E x y)) P ↔ _
  simp only [wp_bind, wp_opt]
theorem wp_i3 {a b c : Ex} : wp (evI p (.rng3 a b c) ρ S) P ↔ wp (evE p a ρ S) fun x S1 => wp (evE p b ρ S1) fun y S2 => wp (evE p c ρ S2) fun z S3 => ∃ s, rng3E x y z = some s ∧ P s S3 := by
  show wp ((evE p a ρ S).bind fun x S1 => (evE p b ρ S1).bind fun y S2 => (evE p c ρ S2).bind fun z S3 => ofOpt S3 (rng3E x y z)) P ↔ _
  simp only [wp_bind, wp_opt]
theorem wp_iz {a b : Ex} : wp (evI p (.zip a b) ρ S) P ↔ wp (evE p a ρ S) fun x S1 => wp (evE p b ρ S1) fun y S2 => ∃ s, zipOf S2 x y = some s ∧ P s S2 := by
  show wp ((evE p a ρ S).bind fun x S1 => (evE p b ρ S1).bind fun y S2 => ofOpt S2 (zipOf S2 x y)) P ↔ _
  simp only [wp_bind, wp_opt]
theorem wp_iz3 {a b c : Ex} : wp (evI p (.zip3 a b c) ρ S) P ↔ wp (evE p a ρ S) fun x S1 => wp (evE p b ρ S1) fun y S2 => wp (evE p c ρ S2) fun z S3 => ∃ s, zip3Of S3 x y z = some s ∧ P s S3 := by
  show wp ((evE p a ρ S).bind fun x S1 => (evE p b ρ S1).bind fun y S2 => (evE p c ρ S2).bind fun z S3 => ofOpt S3 (zip3Of S3 x y z)) P ↔ _
  simp only [wp_bind, wp_opt]
theorem wp_ie {a : Ex} : wp (evI p (.enum a) ρ S) P ↔ wp (evE p a ρ S) fun x S1 => ∃ s, enumOf S1 x = some s ∧ P s S1 := by
  show wp ((evE p a ρ S).bind fun x S1 => ofOpt S1 (enumOf S1 x)) P ↔ _
  simp only [wp_bind, wp_opt]
end
section
variable {P : Loc → Sto → Prop} {d : D}
theorem wp_gn {i : Nat} : wp (asg p (.nm i) d ρ S) P ↔ P (ρ.set i (some d)) S := wp_ok
theorem wp_gt {ts : List Tg} : wp (asg p (.tp ts) d ρ S) P ↔ ∃ xs, seqD S d = some xs ∧ if xs.length = ts.length then wp (asgs p ts xs ρ S) P else False := by
  show wp ((ofOpt S (seqD S d)).bind fun xs S => if xs.length = ts.length then asgs p ts xs ρ S else .no) P ↔ _
  simp only [wp_bind, wp_opt, wp_ite, wp_no]
theorem wp_sto {o : Option Sto} : wp (ofSto ρ o) P ↔ ∃ S', o = some S' ∧ P ρ S' := by
  cases o with
  | none => exact ⟨fun h => h.run.elim, fun ⟨a, h, _⟩ => by cases h⟩
  | some a => exact ⟨fun h => ⟨a, rfl, h.run⟩, fun ⟨a', h, z⟩ => by cases h; exact ⟨z⟩⟩
theorem wp_gi {o i : Ex} : wp (asg p (.ix o i) d ρ S) P ↔ wp (evE p o ρ S) fun x S1 => wp (evE p i ρ S1) fun y S2 => ∃ S3, storeE x y d S2 = some S3 ∧ P ρ S3 := by
  show wp ((evE p o ρ S).bind fun x S1 => (evE p i ρ S1).bind fun y S2 => ofSto ρ (storeE x y d S2)) P ↔ _
  simp only [wp_bind, wp_sto]
theorem wp_gf {o : Ex} {f : Str} : wp (asg p (.fd o f) d ρ S) P ↔ wp (evE p o ρ S) fun x S1 => ∃ S3, putE f x d S1 = some S3 ∧ P ρ S3 := by
  show wp ((evE p o ρ S).bind fun x S1 => ofSto ρ (putE f x d S1)) P ↔ _
  simp only [wp_bind, wp_sto]
theorem wp_gsN : wp (asgs p [] [] ρ S) P ↔ P ρ S := wp_ok
theorem wp_gsC {t : Tg} {ts : List Tg} {ds : List D} : wp (asgs p (t :: ts) (d :: ds) ρ S) P ↔ wp (asg p t d ρ S) fun ρ1 S1 => wp (asgs p ts ds ρ1 S1) P := by
  show wp ((asg p t d ρ S).bind fun ρ1 S1 => asgs p ts ds ρ1 S1) P ↔ _
  simp only [wp_bind]
end
section
variable {P : Fl → Sto → Prop}
theorem wp_B {e : Ex} {Q : Bool → Sto → Prop} : wp (evB p e ρ S) Q ↔ wp (evE p e ρ S) fun d S1 => ∃ b, truth S1 d = some b ∧ Q b S1 := by
  show wp ((evE p e ρ S).bind fun d S1 => ofOpt S1 (truth S1 d)) Q ↔ _
  simp only [wp_bind, wp_opt]
theorem wp_asg {t : Tg} {e : Ex} : wp (evS p (.asg t e) ρ S) P ↔ wp (evE p e ρ S) fun d S1 => wp (asg p t d ρ S1) fun ρ1 S2 => P (.nx ρ1) S2 := by
  show wp ((evE p e ρ S).bind fun d S1 => (asg p t d ρ S1).bind fun ρ1 S2 => .ok (.nx ρ1) S2) P ↔ _
  simp only [wp_bind, wp_ok]
theorem wp_par {is : List Nat} {es : List Ex} : wp (evS p (.par is es) ρ S) P ↔ wp (evEs p es ρ S) fun ds S1 => P (.nx (setsL ρ is ds)) S1 := by
  show wp ((evEs p es ρ S).bind fun ds S1 => .ok (.nx (setsL ρ is ds)) S1) P ↔ _
  simp only [wp_bind, wp_ok]
theorem wp_aug {i : Nat} {o : Bop} {e : Ex} : wp (evS p (.aug i o e) ρ S) P ↔ wp (evE p (.var i) ρ S) fun x S1 => wp (evE p e ρ S1) fun y S2 => ∃ z, augE x y o = some z ∧ P (.nx (ρ.set i (some z))) S2 := by
  show wp ((evE p (.var i) ρ S).bind fun x S1 => (evE p e ρ S1).bind fun y S2 => (ofOpt S2 (augE x y o)).bind fun z S2 => .ok (.nx (ρ.set i (some z))) S2) P ↔ _
  simp only [wp_bind, wp_ok, wp_opt]
theorem wp_augS {a b e : Ex} {o : Bop} : wp (evS p (.augS a b o e) ρ S) P ↔ wp (evE p a ρ S) fun x S1 => wp (evE p b ρ S1) fun y S2 => ∃ u, ixL S2 x y = some u ∧ wp (evE p e ρ S2) fun v S3 => ∃ z, augE u v o = some z ∧ ∃ S4, storeE x y z S3 = some S4 ∧ P (.nx ρ) S4 := by
  show wp ((evE p a ρ S).bind fun x S1 => (evE p b ρ S1).bind fun y S2 => (ofOpt S2 (ixL S2 x y)).bind fun u S2 => (evE p e ρ S2).bind fun v S3 => (ofOpt S3 (augE u v o)).bind fun z S3 => (ofOpt S3 (storeE x y z S3)).bind fun S4 _ => .ok (.nx ρ) S4) P ↔ _
  simp only [wp_bind, wp_ok, wp_opt]
theorem wp_sx {e : Ex} : wp (evS p (.ex e) ρ S) P ↔ wp (evE p e ρ S) fun _ S1 => P (.nx ρ) S1 := by
  show wp ((evE p e ρ S).bind fun _ S1 => .ok (.nx ρ) S1) P ↔ _
  simp only [wp_bind, wp_ok]
theorem wp_sif {c : Ex} {a b : List St} : wp (evS p (.ite c a b) ρ S) P ↔ wp (evE p c ρ S) fun d S1 => ∃ t, truth S1 d = some t ∧ if t = true then wp (evSs p a ρ S1) P else wp (evSs p b ρ S1) P := by
  show wp ((evB p c ρ S).bind fun t S1 => if t then evSs p a ρ S1 else evSs p b ρ S1) P ↔ _
  simp only [wp_bind, wp_B, wp_ite]
theorem wp_for {t : Tg} {it : It} {b : List St} : wp (evS p (.for_ t it b) ρ S) P ↔ wp (evI p it ρ S) fun src S1 => wp (forN src (fun d S ρ => (asg p t d ρ S).bind fun ρ1 S1 => evSs p b ρ1 S1) p.fuel 0 S1 ρ) P := by
  show wp ((evI p it ρ S).bind fun src S1 => forN src (fun d S ρ => (asg p t d ρ S).bind fun ρ1 S1 => evSs p b ρ1 S1) p.fuel 0 S1 ρ) P ↔ _
  simp only [wp_bind]
theorem wp_while {c : Ex} {b : List St} : wp (evS p (.while_ c b) ρ S) P ↔ wp (whileN (evB p c) (evSs p b) p.fuel ρ S) P := Iff.rfl
theorem wp_ret {e : Ex} : wp (evS p (.ret e) ρ S) P ↔ wp (evE p e ρ S) fun d S1 => P (.rt d) S1 := by
  show wp ((evE p e ρ S).bind fun d S1 => .ok (.rt d) S1) P ↔ _
  simp only [wp_bind, wp_ok]
theorem wp_ret0 : wp (evS p .ret0 ρ S) P ↔ P (.rt .non) S := wp_ok
theorem wp_pass : wp (evS p .pass ρ S) P ↔ P (.nx ρ) S := wp_ok
theorem wp_brk : wp (evS p .brk ρ S) P ↔ P (.bk ρ) S := wp_ok
theorem wp_sN : wp (evSs p [] ρ S) P ↔ P (.nx ρ) S := wp_ok
def fl (p : Pg) (ss : List St) (P : Fl → Sto → Prop) : Fl → Sto → Prop := fun f S1 => match f with
  | .nx ρ1 => wp (evSs p ss ρ1 S1) P
  | f => P f S1
theorem wp_sC {s : St} {ss : List St} : wp (evSs p (s :: ss) ρ S) P ↔ wp (evS p s ρ S) (fl p ss P) := by
  show wp ((evS p s ρ S).bind fun f S1 => match f with
    | .nx ρ1 => evSs p ss ρ1 S1
    | f => .ok f S1) P ↔ _
  rw [wp_bind]
  have e : (fun f S1 => wp (match f with
    | .nx ρ1 => evSs p ss ρ1 S1
    | f => Res.ok f S1) P) = fl p ss P := by
    funext f S1
    cases f with
    | nx ρ1 => rfl
    | rt d => exact propext wp_ok
    | bk ρ1 => exact propext wp_ok
  rw [e]
theorem fl_nx {ss : List St} {ρ1 : Loc} : fl p ss P (.nx ρ1) S ↔ wp (evSs p ss ρ1 S) P := Iff.rfl
theorem fl_rt {ss : List St} {d : D} : fl p ss P (.rt d) S ↔ P (.rt d) S := Iff.rfl
theorem fl_bk {ss : List St} {ρ1 : Loc} : fl p ss P (.bk ρ1) S ↔ P (.bk ρ1) S := Iff.rfl
end
def ed (P : D → Sto → Prop) : Fl → Sto → Prop
  | .nx _, S => P .non S
  | .rt d, S => P d S
  | .bk _, _ => False
theorem ed_nx {P : D → Sto → Prop} {ρ1 : Loc} : ed P (.nx ρ1) S ↔ P .non S := Iff.rfl
theorem ed_rt {P : D → Sto → Prop} {d : D} : ed P (.rt d) S ↔ P d S := Iff.rfl
theorem wp_run {d : Def} {ds : List D} {P : D → Sto → Prop} (h : ds.length = d.par) (k : wp (evSs p d.body (ds.map some ++ List.replicate (d.slots - ds.length) none) S) (ed P)) : wp (runD p d ds S) P := by
  unfold runD
  rw [if_pos h, wp_bind]
  refine wp_mono k fun f S h => ?_
  cases f with
  | nx ρ1 => exact wp_ok.mpr h
  | rt d => exact wp_ok.mpr h
  | bk ρ1 => exact h.elim

/-! ### loops -/
theorem compN_wp {src : Src} {n : Nat} {body : D → Sto → Res (Option D)} {P : D → Sto → Prop} (xs : List D) (I : Nat → List D → Sto → Prop) (hs : ∀ i ys S, I i ys S → src i S = srcL xs i S)
    (hb : ∀ i ys S d, I i ys S → xs[i]? = some d → wp (body d S) fun r S1 => match r with
      | none => I (i + 1) ys S1
      | some e => lstAt S1 n = some ys ∧ ys.length < lineN ∧ I (i + 1) (ys ++ [e]) (S1.set n (.lst (ys ++ [e]))))
    (hd : ∀ ys S, I xs.length ys S → P (.ref n) S) : ∀ (k i : Nat) (ys : List D) (S : Sto), i ≤ xs.length → xs.length < i + k → I i ys S → wp (compN src n body k i S) P
  | 0, i, ys, S, h1, h2, _ => by omega
  | k + 1, i, ys, S, h1, h2, hI => by
    unfold compN
    rw [hs i ys S hI]
    unfold srcL
    cases q : xs[i]? with
    | none =>
      have : i = xs.length := by
        have := List.getElem?_eq_none_iff.mp q
        omega
      subst this
      exact wp_ok.mpr (hd ys S hI)
    | some d =>
      have hlt : i < xs.length := (List.getElem?_eq_some_iff.mp q).1
      show wp ((body d S).bind _) P
      rw [wp_bind]
      refine wp_mono (hb i ys S d hI q) fun r S1 h => ?_
      cases r with
      | none => exact compN_wp xs I hs hb hd k (i + 1) ys S1 (by omega) (by omega) h
      | some e =>
        obtain ⟨z1, z2, z3⟩ := h
        show wp (match lstAt S1 n with
          | some ys => if ys.length < lineN then compN src n body k (i + 1) (S1.set n (.lst (ys ++ [e]))) else .no
          | none => .no) P
        rw [z1]
        show wp (if ys.length < lineN then compN src n body k (i + 1) (S1.set n (.lst (ys ++ [e]))) else .no) P
        rw [if_pos z2]
        exact compN_wp xs I hs hb hd k (i + 1) (ys ++ [e]) _ (by omega) (by omega) z3
theorem forN_wp {src : Src} {body : D → Sto → Loc → Res Fl} {P : Fl → Sto → Prop} (xs : List D) (I : Nat → Sto → Loc → Prop) (hs : ∀ i S ρ, I i S ρ → src i S = srcL xs i S)
    (hb : ∀ i S ρ d, I i S ρ → xs[i]? = some d → wp (body d S ρ) fun f S1 => match f with
      | .nx ρ1 => I (i + 1) S1 ρ1
      | .rt e => P (.rt e) S1
      | .bk ρ1 => P (.nx ρ1) S1)
    (hd : ∀ S ρ, I xs.length S ρ → P (.nx ρ) S) : ∀ (k i : Nat) (S : Sto) (ρ : Loc), i ≤ xs.length → xs.length < i + k → I i S ρ → wp (forN src body k i S ρ) P
  | 0, i, S, ρ, h1, h2, _ => by omega
  | k + 1, i, S, ρ, h1, h2, hI => by
    unfold forN
    rw [hs i S ρ hI]
    unfold srcL
    cases q : xs[i]? with
    | none =>
      have : i = xs.length := by
        have := List.getElem?_eq_none_iff.mp q
        omega
      subst this
      exact wp_ok.mpr (hd S ρ hI)
    | some d =>
      have hlt : i < xs.length := (List.getElem?_eq_some_iff.mp q).1
      show wp ((body d S ρ).bind _) P
      rw [wp_bind]
      refine wp_mono (hb i S ρ d hI q) fun f S1 h => ?_
      cases f with
      | nx ρ1 => exact forN_wp xs I hs hb hd k (i + 1) S1 ρ1 (by omega) (by omega) h
      | rt e => exact wp_ok.mpr h
      | bk ρ1 => exact wp_ok.mpr h
theorem whileN_wp {c : Loc → Sto → Res Bool} {body : Loc → Sto → Res Fl} {P : Fl → Sto → Prop} (I : Nat → Loc → Sto → Prop)
    (hb : ∀ m ρ S, I m ρ S → wp (c ρ S) fun b S1 => if b = true then wp (body ρ S1) fun f S2 => match f with
      | .nx ρ1 => ∃ m', m' < m ∧ I m' ρ1 S2
      | .rt e => P (.rt e) S2
      | .bk ρ1 => P (.nx ρ1) S2 else P (.nx ρ) S1) : ∀ (k m : Nat) (ρ : Loc) (S : Sto), m < k → I m ρ S → wp (whileN c body k ρ S) P
  | 0, m, ρ, S, h, _ => by omega
  | k + 1, m, ρ, S, h, hI => by
    unfold whileN
    rw [wp_bind]
    refine wp_mono (hb m ρ S hI) fun b S1 h1 => ?_
    cases b with
    | false => exact wp_ok.mpr h1
    | true =>
      show wp ((body ρ S1).bind _) P
      rw [wp_bind]
      refine wp_mono h1 fun f S2 h2 => ?_
      cases f with
      | nx ρ1 =>
        obtain ⟨m', h3, h4⟩ := h2
        exact whileN_wp I hb k m' ρ1 S2 (by omega) h4
      | rt e => exact wp_ok.mpr h2
      | bk ρ1 => exact wp_ok.mpr h2
theorem rng_srcL {lo : Int} {n : Nat} : rngL lo n = srcL ((List.range n).map fun (i : Nat) => D.int (lo + (i : Int))) := by
  funext i S
  unfold rngL srcL
  rw [List.getElem?_map]
  by_cases h : i < n
  · rw [if_pos h, List.getElem?_eq_getElem (by simpa using h)]
    simp
  · rw [if_neg h, List.getElem?_eq_none (by simp; omega)]
    rfl
end Mini
/-! Mini: stores that only grow; data that may be asked for its type; loops that ask all. -/
namespace Mini
open PySem

def Ext (S S' : Sto) : Prop := ∃ t, S' = S ++ t
theorem Ext.refl {S : Sto} : Ext S S := ⟨[], by simp⟩
theorem Ext.trans {A B C : Sto} (a : Ext A B) (b : Ext B C) : Ext A C := by
  obtain ⟨t, rfl⟩ := a
  obtain ⟨u, rfl⟩ := b
  exact ⟨t ++ u, by simp⟩
theorem Ext.one {S : Sto} {c : Cl} : Ext S (S ++ [c]) := ⟨[c], rfl⟩
theorem Ext.get {A B : Sto} (e : Ext A B) {n : Nat} {c : Cl} (h : A[n]? = some c) : B[n]? = some c := by
  obtain ⟨t, rfl⟩ := e
  rw [List.getElem?_append_left (List.getElem?_eq_some_iff.mp h).1]
  exact h
/-- cells keep their kind -/
def Ge (A B : Sto) : Prop := ∀ n u, tyOf A (.ref n) = some u → tyOf B (.ref n) = some u
theorem Ge.refl {A : Sto} : Ge A A := fun _ _ h => h
theorem Ge.trans {A B C : Sto} (a : Ge A B) (b : Ge B C) : Ge A C := fun n u h => b n u (a n u h)
theorem tyRef {S : Sto} {n : Nat} : tyOf S (.ref n) = match S[n]? with
    | some (.lst _) => some .list
    | some .dct => some .dict
    | _ => none := rfl
theorem Ext.ge {A B : Sto} (e : Ext A B) : Ge A B := fun n u h => by
  rw [tyRef] at h ⊢
  cases q : A[n]? with
  | none => rw [q] at h; cases h
  | some c => rw [e.get q]; rw [q] at h; exact h
theorem Ge.set {A : Sto} {n : Nat} {xs ys : List D} (h : A[n]? = some (.lst xs)) : Ge A (A.set n (.lst ys)) := fun m u hm => by
  rw [tyRef] at hm ⊢
  by_cases e : m = n
  · subst e
    rw [h] at hm
    rw [List.getElem?_set_self (List.getElem?_eq_some_iff.mp h).1]
    exact hm
  · rw [List.getElem?_set_ne (Ne.symm e)]
    exact hm
mutual
/-- data whose type may be asked, to any depth of tuples -/
def okD (S : Sto) : D → Bool
  | .ref n => (tyOf S (.ref n)).isSome
  | .tup xs => decide (xs.length ≤ 1000) && okDs S xs
  | .glb _ => false
  | _ => true
def okDs (S : Sto) : List D → Bool
  | [] => true
  | x :: xs => okD S x && okDs S xs
end
mutual
theorem okD_ge {A B : Sto} (g : Ge A B) : ∀ {d : D}, okD A d = true → okD B d = true
  | .ref n, h => by
    obtain ⟨u, hu⟩ := Option.isSome_iff_exists.mp (show (tyOf A (.ref n)).isSome = true from h)
    show (tyOf B (.ref n)).isSome = true
    rw [g n u hu]; rfl
  | .tup xs, h => by
    have h : (decide (xs.length ≤ 1000) && okDs A xs) = true := h
    rw [Bool.and_eq_true] at h
    show (decide (xs.length ≤ 1000) && okDs B xs) = true
    rw [h.1, okDs_ge g h.2]; rfl
  | .glb _, h => by cases h
  | .non, _ => rfl
  | .bl _, _ => rfl
  | .int _, _ => rfl
  | .str _, _ => rfl
theorem okDs_ge {A B : Sto} (g : Ge A B) : ∀ {ds : List D}, okDs A ds = true → okDs B ds = true
  | [], _ => rfl
  | x :: xs, h => by
    have h : (okD A x && okDs A xs) = true := h
    rw [Bool.and_eq_true] at h
    show (okD B x && okDs B xs) = true
    rw [okD_ge g h.1, okDs_ge g h.2]; rfl
end
theorem okDs_iff {S : Sto} : ∀ {ds : List D}, okDs S ds = true ↔ ∀ d ∈ ds, okD S d = true
  | [] => by simp [okDs]
  | x :: xs => by
    show (okD S x && okDs S xs) = true ↔ _
    rw [Bool.and_eq_true, okDs_iff (ds := xs)]
    simp
theorem okT {S : Sto} {xs : List D} (h : okD S (.tup xs) = true) : xs.length ≤ 1000 ∧ ∀ d ∈ xs, okD S d = true := by
  have h : (decide (xs.length ≤ 1000) && okDs S xs) = true := h
  rw [Bool.and_eq_true, decide_eq_true_eq, okDs_iff] at h
  exact h
theorem okT_mk {S : Sto} {xs : List D} (h : xs.length ≤ 1000) (k : ∀ d ∈ xs, okD S d = true) : okD S (.tup xs) = true := by
  show (decide (xs.length ≤ 1000) && okDs S xs) = true
  rw [Bool.and_eq_true, decide_eq_true_eq, okDs_iff]
  exact ⟨h, k⟩
section
variable {S : Sto} {xs : List D} {i j : Int} {b : Bool} {d : D} {t : Ty} {x : Str}
theorem fn_len : fnE .len [.tup xs] S = .ok (.int xs.length) S := rfl
theorem fn_isi : fnE (.isi t) [d] S = ofOpt S ((isiE S d t).map D.bl) := rfl
theorem fn_gcd : fnE .gcd [.int i, .int j] S = .ok (.int ((Nat.gcd i.natAbs j.natAbs : Nat) : Int)) S := rfl
theorem fn_int : fnE .int [.int i] S = .ok (.int i) S := rfl
theorem fn_intb : fnE .int [.bl b] S = .ok (.int (if b then 1 else 0)) S := rfl
theorem fn_abs : fnE .abs [.int i] S = .ok (.int (if i < 0 then -i else i)) S := rfl
theorem fn_tup : fnE .tuple [.tup xs] S = .ok (.tup xs) S := rfl
theorem fn_lst : fnE .list [.tup xs] S = .ok (.ref S.length) (S ++ [.lst xs]) := rfl
theorem fn_strs : fnE .str [.str x] S = .ok (.str x) S := rfl
end
theorem fn_lenR {S : Sto} {n : Nat} {xs : List D} (h : seqAt S n = some xs) : fnE .len [.ref n] S = .ok (.int xs.length) S := by
  show (match seqAt S n with
    | some xs => Res.ok (D.int xs.length) S
    | none => .no) = _
  rw [h]
theorem fn_tupR {S : Sto} {n : Nat} {xs : List D} (h : seqAt S n = some xs) : fnE .tuple [.ref n] S = .ok (.tup xs) S := by
  show (match seqAt S n with
    | some xs => Res.ok (D.tup xs) S
    | none => .no) = _
  rw [h]
theorem fn_sumR {S : Sto} {n : Nat} {xs : List D} {ns : List Int} (h : seqAt S n = some xs) (h2 : intsOf xs = some ns) : fnE .sum [.ref n] S = .ok (.int ns.sum) S := by
  show (match (seqAt S n).bind intsOf with
    | some ns => Res.ok (D.int ns.sum) S
    | none => .no) = _
  rw [h]
  show (match intsOf xs with
    | some ns => Res.ok (D.int ns.sum) S
    | none => .no) = _
  rw [h2]
theorem fn_divmodW {S : Sto} {i j : Int} (h1 : 0 < j) (h2 : j.natAbs < 2 ^ 64) : fnE .divmod [.int i, .int j] S = .ok (.tup [.int (i / j), .int (i % j)]) S := by
  have hj : j.natAbs ≠ 0 := by omega
  have hl := (Nat.log2_lt hj (k := 64)).mpr h2
  have q : Builtin.divisionGoesByPylong i j = false := by
    unfold Builtin.divisionGoesByPylong
    have e : (j == 0) = false := by simp; omega
    simp only [e, Bool.false_eq_true, if_false]
    have : ¬ (j.natAbs.log2 / 30 + 1 > 300) := by omega
    simp [this]
  show (if decide (0 < j) && !Builtin.divisionGoesByPylong i j then Res.ok (D.tup [.int (i / j), .int (i % j)]) S else .no) = _
  rw [decide_eq_true h1, q]; rfl
theorem fn_divmod {S : Sto} {i j : Int} (h1 : 0 < j) (h2 : j < 1073741824) : fnE .divmod [.int i, .int j] S = .ok (.tup [.int (i / j), .int (i % j)]) S := fn_divmodW h1 (by omega)
theorem fn_str {S : Sto} {i : Int} (h : i.natAbs.log2 < 1920) : fnE .str [.int i] S = .ok (.str (Str.ofString (toString i))) S := if_pos h
theorem intsOf_map : ∀ ns : List Int, intsOf (ns.map D.int) = some ns
  | [] => rfl
  | n :: ns => by
    show (intsOf (ns.map D.int)).map (n :: ·) = _
    rw [intsOf_map ns]; rfl
def isTupD : D → Bool
  | .tup _ => true
  | _ => false
def isIntD : D → Bool
  | .int _ => true
  | .bl _ => true
  | _ => false
def isBlD : D → Bool
  | .bl _ => true
  | _ => false
theorem refTy {S : Sto} {n : Nat} (h : okD S (.ref n) = true) : tyOf S (.ref n) = some .list ∨ tyOf S (.ref n) = some .dict := by
  obtain ⟨u, hu⟩ := Option.isSome_iff_exists.mp (show (tyOf S (.ref n)).isSome = true from h)
  rw [tyRef] at hu ⊢
  cases q : S[n]? with
  | none => rw [q] at hu; cases hu
  | some c => cases c <;> rw [q] at hu <;> first | exact .inl rfl | exact .inr rfl | cases hu
theorem isi_ref {S : Sto} {n : Nat} {t : Ty} : isiE S (.ref n) t = match tyOf S (.ref n) with
    | some u => some (decide (u = t) || (decide (u = .bool) && decide (t = .int)))
    | none => none := rfl
theorem isi_tup {S : Sto} {d : D} (h : okD S d = true) : isiE S d .tuple = some (isTupD d) := by
  cases d with
  | ref n => rcases refTy h with q | q <;> (rw [isi_ref, q]; rfl)
  | glb n => cases h
  | _ => rfl
theorem isi_int {S : Sto} {d : D} (h : okD S d = true) : isiE S d .int = some (isIntD d) := by
  cases d with
  | ref n => rcases refTy h with q | q <;> (rw [isi_ref, q]; rfl)
  | glb n => cases h
  | _ => rfl
theorem isi_bool {S : Sto} {d : D} (h : okD S d = true) : isiE S d .bool = some (isBlD d) := by
  cases d with
  | ref n => rcases refTy h with q | q <;> (rw [isi_ref, q]; rfl)
  | glb n => cases h
  | _ => rfl
theorem eq_int {S : Sto} {a b : Int} : eqE S (.int a) (.int b) = some (decide (a = b)) := by
  have e : eqE S (.int a) (.int b) = some (PyData.eqv (.int a) (.int b)) := rfl
  rw [e]
  congr 1
theorem mid_lst {A t : Sto} {ys : List D} : lstAt (A ++ .lst ys :: t) A.length = some ys := by
  unfold lstAt
  rw [List.getElem?_append_right (Nat.le_refl _)]
  simp
theorem mid_seq {A t : Sto} {ys : List D} : seqAt (A ++ .lst ys :: t) A.length = some ys := by
  unfold seqAt
  rw [List.getElem?_append_right (Nat.le_refl _)]
  simp
theorem mid_set {A t : Sto} {c d : Cl} : (A ++ c :: t).set A.length d = A ++ d :: t := by
  rw [List.set_append_right _ _ (Nat.le_refl _)]
  simp
theorem boolsOf_map {g : D → Bool} : ∀ xs : List D, boolsOf (xs.map fun d => D.bl (g d)) = some (xs.map g)
  | [] => rfl
  | x :: xs => by
    show (boolsOf (xs.map fun d => D.bl (g d))).map (g x :: ·) = _
    rw [boolsOf_map xs]; rfl
theorem lineBig {n : Nat} (h : n ≤ 100000) : n < lineN := Nat.lt_of_le_of_lt h (by decide)
/-- a comprehension that asks each: its list -/
theorem list_comp {p : Pg} {v f : Nat} {it : It} {ρ : Loc} {S : Sto} {P : D → Sto → Prop} {xs : List D} {g : D → D} (hv : v < ρ.length) (hfuel : xs.length < p.fuel) (hlen : xs.length ≤ 1000)
    (hit : wp (evI p it ρ S) fun src S1 => Ext S S1 ∧ ∀ i S', Ext S1 S' → src i S' = srcL xs i S')
    (hf : ∀ d ∈ xs, ∀ S', Ext S S' → wp (p.call f [d] S') fun r S'' => r = g d ∧ Ext S' S'')
    (hP : ∀ A t, Ext S A → P (.ref A.length) (A ++ .lst (xs.map g) :: t)) :
    wp (evE p (.comp (.nm v) it [] (.call f [.var v] none) [v]) ρ S) P := by
  rw [wp_comp]
  refine wp_mono hit fun src S1 ⟨e1, hs⟩ => ?_
  refine compN_wp (n := S1.length) xs (fun i ys S' => ∃ t, S' = S1 ++ .lst ys :: t ∧ ys = (xs.take i).map g) (fun i ys S' ⟨t, e, _⟩ => hs i S' ⟨_, e⟩)
    (fun i ys S' d ⟨t, e, ey⟩ hd => ?_) (fun ys S' ⟨t, e, ey⟩ => ?_) _ 0 [] _ (Nat.zero_le _) (by omega) ⟨[], rfl, by simp⟩
  · rw [wp_noex]
    unfold bodyC
    simp only [wp_bind, wp_gn, wp_tN, if_pos, wp_ok, wp_call, wp_cons, wp_nil, wp_var, if_true]
    refine ⟨d, ?_, ?_⟩
    · show ((wipeL ρ [v]).set v (some d))[v]? = _
      rw [List.getElem?_set_self (by show v < (ρ.set v none).length; simpa using hv)]
    · subst e
      have hlt : i < xs.length := (List.getElem?_eq_some_iff.mp hd).1
      refine wp_mono (hf d (List.mem_of_getElem? hd) _ (e1.trans ⟨_, rfl⟩)) fun r S'' ⟨er, t', et⟩ => ?_
      subst er et
      have ea : S1 ++ Cl.lst ys :: t ++ t' = S1 ++ Cl.lst ys :: (t ++ t') := by simp
      rw [ea]
      refine ⟨mid_lst, lineBig (by rw [ey]; simp; omega), t ++ t', mid_set, ?_⟩
      rw [ey, List.take_add_one, hd]
      simp
  · subst e
    rw [ey, List.take_length]
    exact hP S1 t e1
theorem all_comp {p : Pg} {v f : Nat} {it : It} {ρ : Loc} {S : Sto} {P : D → Sto → Prop} {xs : List D} {g : D → Bool} (hv : v < ρ.length) (hfuel : xs.length < p.fuel) (hlen : xs.length ≤ 1000)
    (hit : wp (evI p it ρ S) fun src S1 => Ext S S1 ∧ ∀ i S', Ext S1 S' → src i S' = srcL xs i S')
    (hf : ∀ d ∈ xs, ∀ S', Ext S S' → wp (p.call f [d] S') fun r S'' => r = .bl (g d) ∧ Ext S' S'')
    (hP : ∀ S', Ext S S' → P (.bl (xs.all g)) S') :
    wp (evE p (.comp (.nm v) it [] (.call f [.var v] none) [v]) ρ S) fun d S1 => wp (fnE .all [d] S1) P := by
  refine list_comp (g := fun d => .bl (g d)) hv hfuel hlen hit hf fun A t e => ?_
  show wp (match (seqAt _ A.length).bind boolsOf with
    | some bs => Res.ok (.bl (bs.all id)) _
    | none => .no) P
  rw [mid_seq]
  show wp (match boolsOf (xs.map fun d => D.bl (g d)) with
    | some bs => Res.ok (.bl (bs.all id)) _
    | none => .no) P
  rw [boolsOf_map]
  refine wp_ok.mpr ?_
  show P (.bl ((xs.map g).all id)) _
  rw [List.all_map]
  exact hP _ (e.trans ⟨_, rfl⟩)
theorem it_tup {p : Pg} {e : Ex} {ρ : Loc} {S : Sto} {xs : List D} (h : wp (evE p e ρ S) fun d S' => d = .tup xs ∧ Ext S S') : wp (evI p (.val e) ρ S) fun src S1 => Ext S S1 ∧ ∀ i S', Ext S1 S' → src i S' = srcL xs i S' := by
  rw [wp_iv]
  refine wp_mono h fun d S' ⟨e1, e2⟩ => ?_
  subst e1
  exact ⟨_, rfl, e2, fun _ _ _ => rfl⟩
/-! ### places, slices -/
section
variable {xs : List D}
theorem atI_n {k : Nat} (h : k < xs.length) : L2.atI xs (k : Int) = xs[k]? := by
  unfold L2.atI L2.ixN
  rw [if_pos (by omega), if_pos (by omega)]
  show xs[((k : Nat) : Int).toNat]? = _
  rw [Int.toNat_natCast]
theorem atI_m1 (h : 1 ≤ xs.length) : L2.atI xs (-1) = xs[xs.length - 1]? := by
  unfold L2.atI L2.ixN
  rw [if_neg (by omega), if_pos (by omega)]
  show xs[(-1 + (xs.length : Int)).toNat]? = _
  rw [show (-1 + (xs.length : Int)).toNat = xs.length - 1 by omega]
theorem cut_to (k : Nat) : cutD xs none (some (k : Int)) = xs.take k := by
  unfold cutD
  rw [HT.sIx_none, HT.sIx_nat]
  simp only [List.drop_zero, Nat.sub_zero]
  by_cases h : k ≤ xs.length
  · rw [Nat.min_eq_left h]
  · rw [Nat.min_eq_right (by omega), List.take_of_length_le (Nat.le_refl _), List.take_of_length_le (by omega)]
theorem cut_from (k : Nat) : cutD xs (some (k : Int)) none = xs.drop k := by
  unfold cutD
  rw [HT.sIx_none, HT.sIx_nat]
  by_cases h : k ≤ xs.length
  · rw [Nat.min_eq_left h, List.take_of_length_le (by rw [List.length_drop]; omega)]
  · rw [Nat.min_eq_right (by omega), List.drop_eq_nil_of_le (Nat.le_refl _), List.drop_eq_nil_of_le (by omega)]
    simp
theorem cut_from1 : cutD xs (some 1) none = xs.drop 1 := cut_from 1
theorem cut_from2 : cutD xs (some 2) none = xs.drop 2 := cut_from 2
theorem cut_to1 : cutD xs none (some 1) = xs.take 1 := cut_to 1
theorem cut_to3 : cutD xs none (some 3) = xs.take 3 := cut_to 3
theorem cut_to6 : cutD xs none (some 6) = xs.take 6 := cut_to 6
theorem sIx_m1 {d : Nat} : HT.sIx xs.length d (some (-1)) = xs.length - 1 := by
  show (if (-1 : Int) < 0 then (-1 + (xs.length : Int)).toNat else min (-1 : Int).toNat xs.length) = _
  rw [if_pos (by decide)]
  omega
theorem cut_m1 : cutD xs none (some (-1)) = xs.take (xs.length - 1) := by
  unfold cutD
  rw [HT.sIx_none, sIx_m1]
  simp
theorem cut_in : cutD xs (some 1) (some (-1)) = (xs.drop 1).take (xs.length - 1 - 1) := by
  unfold cutD
  rw [sIx_m1, show HT.sIx xs.length 0 (some 1) = min 1 xs.length from HT.sIx_nat _ 0 1]
  by_cases h : 1 ≤ xs.length
  · rw [Nat.min_eq_left h]
  · have : xs = [] := List.eq_nil_of_length_eq_zero (by omega)
    subst this
    rfl
end
/-! ### sums and the like that stay small -/
theorem bits_small {i : Int} (h : i.natAbs < 2 ^ 64) : Builtin.Int.intBits i ≤ 64 := by
  unfold Builtin.Int.intBits
  split
  · exact Nat.zero_le _
  · rename_i hi
    have : i.natAbs ≠ 0 := by
      intro e
      apply hi
      have : i = 0 := Int.natAbs_eq_zero.mp e
      rw [this]; rfl
    have := (Nat.log2_lt this (k := 64)).mpr h
    omega
theorem mul_small {i j : Int} (h1 : i.natAbs < 2 ^ 64) (h2 : j.natAbs < 2 ^ 64) : mulOk i j = true := by
  have b1 := bits_small h1
  have b2 := bits_small h2
  unfold mulOk
  rw [decide_eq_true_eq]
  omega
theorem div_small {i j : Int} (h0 : j ≠ 0) (h : j.natAbs < 2 ^ 64) : divOk i j = true := by
  have hj : j.natAbs ≠ 0 := fun e => h0 (Int.natAbs_eq_zero.mp e)
  have hl := (Nat.log2_lt hj (k := 64)).mpr h
  have : Builtin.divisionGoesByPylong i j = false := by
    unfold Builtin.divisionGoesByPylong
    have e : (j == 0) = false := by simpa using h0
    simp only [e, Bool.false_eq_true, if_false]
    have : ¬ (j.natAbs.log2 / 30 + 1 > 300) := by omega
    simp [this]
  unfold divOk
  rw [this]
  simpa using h0
theorem bin_mul {S : Sto} {i j : Int} (h1 : i.natAbs < 2 ^ 64) (h2 : j.natAbs < 2 ^ 64) : binE .mul (.int i) (.int j) S = .ok (.int (i * j)) S := if_pos (mul_small h1 h2)
theorem bin_add {S : Sto} {i j : Int} : binE .add (.int i) (.int j) S = .ok (.int (i + j)) S := rfl
theorem bin_sub {S : Sto} {i j : Int} : binE .sub (.int i) (.int j) S = .ok (.int (i - j)) S := rfl
theorem bin_mod {S : Sto} {i j : Int} (h : 0 < j) : binE .mod (.int i) (.int j) S = .ok (.int (i % j)) S := by
  have h2 : (j != 0) = true := by simp; omega
  show (if j != 0 then Res.ok (D.int (i.fmod j)) S else .no) = _
  rw [if_pos h2, Int.fmod_eq_emod_of_nonneg _ (by omega)]
theorem bin_div {S : Sto} {i j : Int} (h : 0 < j) (h2 : j.natAbs < 2 ^ 64) : binE .fdiv (.int i) (.int j) S = .ok (.int (i / j)) S := by
  show (if divOk i j then Res.ok (D.int (i.fdiv j)) S else .no) = _
  rw [if_pos (div_small (by omega) h2), Int.fdiv_eq_ediv_of_nonneg _ (by omega)]
theorem bin_pow {S : Sto} {i j : Int} (h : powOk i j = true) : binE .pow (.int i) (.int j) S = .ok (.int (i ^ j.toNat)) S := if_pos h
theorem bin_cat {S : Sto} {xs ys : List D} (h : xs.length + ys.length ≤ 100000) : binE .add (.tup xs) (.tup ys) S = .ok (.tup (xs ++ ys)) S := if_pos (Nat.le_of_lt (lineBig h))
theorem bin_catL {S : Sto} {m n : Nat} {xs ys : List D} (h1 : lstAt S m = some xs) (h2 : lstAt S n = some ys) (h : xs.length + ys.length ≤ 100000) : binE .add (.ref m) (.ref n) S = .ok (.ref S.length) (S ++ [.lst (xs ++ ys)]) := by
  show (match lstAt S m, lstAt S n with
    | some xs, some ys => if xs.length + ys.length ≤ lineN then new (.lst (xs ++ ys)) S else .no
    | _, _ => .no) = _
  rw [h1, h2]
  exact if_pos (Nat.le_of_lt (lineBig h))
theorem bin_rep {S : Sto} {xs : List D} {k : Int} (h0 : xs.isEmpty = false) (h1 : 2 ≤ k) (h2 : k ≤ 1000) (h3 : xs.length ≤ 1000) : binE .mul (.tup xs) (.int k) S = .ok (.tup (List.replicate k.toNat xs).flatten) S := by
  show (if k = 1 then Res.ok (.tup xs) S else if k = 0 ∧ xs.isEmpty = false then Res.ok (.tup []) S else if !xs.isEmpty && decide (2 ≤ k) && decide (k ≤ 1000) && decide (xs.length ≤ 1000) then Res.ok (D.tup (List.replicate k.toNat xs).flatten) S else .no) = _
  rw [if_neg (by omega), if_neg (fun z => by have := z.1; omega), h0, decide_eq_true h1, decide_eq_true h2, decide_eq_true h3]; rfl
theorem bin_rep0 {S : Sto} {xs : List D} (h0 : xs.isEmpty = false) : binE .mul (.tup xs) (.int 0) S = .ok (.tup []) S := by
  show (if (0 : Int) = 1 then Res.ok (D.tup xs) S else if (0 : Int) = 0 ∧ xs.isEmpty = false then Res.ok (D.tup []) S else _) = _
  rw [if_neg (by decide), if_pos ⟨rfl, h0⟩]
theorem bin_rep1 {S : Sto} {xs : List D} : binE .mul (.tup xs) (.int 1) S = .ok (.tup xs) S := rfl
theorem bin_repL {S : Sto} {n : Nat} {xs : List D} {k : Int} (h0 : lstAt S n = some xs) (h1 : 0 ≤ k) (h2 : k ≤ 1000) (h3 : xs.length ≤ 50) : binE .mul (.ref n) (.int k) S = .ok (.ref S.length) (S ++ [.lst (List.replicate k.toNat xs).flatten]) := by
  show (match lstAt S n with
    | some xs => if decide (-(2 ^ 63) ≤ k) && decide (k < 2 ^ 63) && decide (xs.length * k.toNat ≤ lineN) then new (.lst (List.replicate k.toNat xs).flatten) S else .no
    | _ => .no) = _
  rw [h0]
  have : xs.length * k.toNat ≤ 50 * 1000 := Nat.mul_le_mul h3 (by omega)
  have a1 : decide (-(2 ^ 63) ≤ k) = true := by rw [decide_eq_true_eq]; omega
  have a2 : decide (k < 2 ^ 63) = true := by rw [decide_eq_true_eq]; omega
  have a3 : decide (xs.length * k.toNat ≤ lineN) = true := by rw [decide_eq_true_eq]; exact Nat.le_of_lt (lineBig (by omega))
  show (if decide (-(2 ^ 63) ≤ k) && decide (k < 2 ^ 63) && decide (xs.length * k.toNat ≤ lineN) then new (.lst (List.replicate k.toNat xs).flatten) S else .no) = _
  rw [a1, a2, a3]; rfl

/-! ### a cell, read and written -/
section
variable {S : Sto} {c : Nat} {xs : List D} {d : D}
theorem seq_c (h : S[c]? = some (.lst xs)) : seqAt S c = some xs := by unfold seqAt; rw [h]
theorem lst_c (h : S[c]? = some (.lst xs)) : lstAt S c = some xs := by unfold lstAt; rw [h]
theorem ix_c {i : Int} (h : S[c]? = some (.lst xs)) : ixE S (.ref c) (.int i) = L2.atI xs i := by
  show (seqAt S c).bind (fun xs => L2.atI xs i) = _
  rw [seq_c h]; rfl
theorem sto_c {k : Int} {j : Nat} (h : S[c]? = some (.lst xs)) (hj : L2.ixN xs.length k = some j) : storeE (.ref c) (.int k) d S = some (S.set c (.lst (xs.set j d))) := by
  show (match lstAt S c with
    | some xs => match L2.ixN xs.length k with
      | some j => some (S.set c (.lst (xs.set j d)))
      | none => none
    | none => none) = _
  rw [lst_c h]
  show (match L2.ixN xs.length k with
      | some j => some (S.set c (.lst (xs.set j d)))
      | none => none) = _
  rw [hj]
theorem at_set {ys : List D} (h : S[c]? = some (.lst xs)) : (S.set c (.lst ys))[c]? = some (.lst ys) := List.getElem?_set_self (List.getElem?_eq_some_iff.mp h).1
theorem isL_c (h : S[c]? = some (.lst xs)) : isLst S (.ref c) = true := by
  show (lstAt S c).isSome = true
  rw [lst_c h]; rfl
theorem app_c (h : S[c]? = some (.lst xs)) (hl : xs.length ≤ 1000) : meE .append (.ref c) [d] S = .ok .non (S.set c (.lst (xs ++ [d]))) := by
  show (match lstAt S c with
    | some xs => if xs.length < lineN then Res.ok D.non (S.set c (.lst (xs ++ [d]))) else .no
    | none => .no) = _
  rw [lst_c h]
  exact if_pos (lineBig (by omega))
end
/-- all but the cell c is as it was, kinds too -/
structure Chg (c : Nat) (A B : Sto) : Prop where
  ge : Ge A B
  len : A.length ≤ B.length
  get : ∀ n x, n ≠ c → A[n]? = some x → B[n]? = some x
theorem Chg.refl {c : Nat} {A : Sto} : Chg c A A := ⟨.refl, Nat.le_refl _, fun _ _ _ h => h⟩
theorem Chg.trans {c : Nat} {A B C : Sto} (a : Chg c A B) (b : Chg c B C) : Chg c A C := ⟨a.ge.trans b.ge, Nat.le_trans a.len b.len, fun n x hn h => b.get n x hn (a.get n x hn h)⟩
theorem Ext.chg {c : Nat} {A B : Sto} (e : Ext A B) : Chg c A B := ⟨e.ge, by obtain ⟨t, rfl⟩ := e; simp, fun n x _ h => e.get h⟩
theorem Chg.set {c : Nat} {A : Sto} {xs ys : List D} (h : A[c]? = some (.lst xs)) : Chg c A (A.set c (.lst ys)) := ⟨.set h, by simp, fun n x hn hx => by rw [List.getElem?_set_ne (Ne.symm hn)]; exact hx⟩
/-- a change of a cell that was not there -/
theorem Chg.new {c d : Nat} {A B : Sto} (h : Chg d A B) (hd : A.length ≤ d) : Chg c A B := ⟨h.ge, h.len, fun n x _ hx => h.get n x (fun e => by
  have := (List.getElem?_eq_some_iff.mp hx).1
  omega) hx⟩
theorem Chg.then {c d : Nat} {A B C : Sto} (a : Chg c A B) (b : Chg d B C) (hd : A.length ≤ d) : Chg c A C := ⟨a.ge.trans b.ge, Nat.le_trans a.len b.len, fun n x hn hx => b.get n x (fun e => by
  have := (List.getElem?_eq_some_iff.mp hx).1
  omega) (a.get n x hn hx)⟩
theorem at_new {A : Sto} {c : Cl} : (A ++ [c])[A.length]? = some c := by simp
/-- the law's well -/
def Well (S : Sto) (c : Nat) (t : Int) : Prop := ∃ a b k : Int, S[c]? = some (.lst [.int a, .int b, .int k]) ∧ 0 ≤ a ∧ 0 ≤ b ∧ b < 4294967296 ∧ 0 ≤ k ∧ k ≤ t
theorem Well.mono {S : Sto} {c : Nat} {t u : Int} (w : Well S c t) (h : t ≤ u) : Well S c u := by
  obtain ⟨a, b, k, h1, h2, h3, h4, h5, h6⟩ := w
  exact ⟨a, b, k, h1, h2, h3, h4, h5, by omega⟩
theorem Well.ext {S S' : Sto} {c : Nat} {t : Int} (w : Well S c t) (e : Ext S S') : Well S' c t := by
  obtain ⟨a, b, k, h1, h⟩ := w
  exact ⟨a, b, k, e.get h1, h⟩
theorem Well.chg {S S' : Sto} {c d : Nat} {t : Int} (w : Well S c t) (e : Chg d S S') (h : c ≠ d) : Well S' c t := by
  obtain ⟨a, b, k, h1, hh⟩ := w
  exact ⟨a, b, k, e.get c _ h h1, hh⟩
theorem Well.lt {S : Sto} {c : Nat} {t : Int} (w : Well S c t) : c < S.length := by
  obtain ⟨a, b, k, h1, h⟩ := w
  exact (List.getElem?_eq_some_iff.mp h1).1
theorem Well.set {S : Sto} {c : Nat} {t a b k : Int} (w : Well S c t) {u : Int} (h1 : 0 ≤ a) (h2 : 0 ≤ b) (h3 : b < 4294967296) (h4 : 0 ≤ k) (h5 : k ≤ u) : Well (S.set c (.lst [.int a, .int b, .int k])) c u := ⟨a, b, k, List.getElem?_set_self w.lt, h1, h2, h3, h4, h5⟩
/-! ### displays all of whose items are alike -/
def AllE (p : Pg) (ρ : Loc) (S : Sto) (Pr : Sto → D → Prop) : List Ex → Prop
  | [] => True
  | e :: es => (∀ S', Ext S S' → wp (evE p e ρ S') fun d S'' => Pr S'' d ∧ Ext S' S'') ∧ AllE p ρ S Pr es
theorem AllE.ext {p : Pg} {ρ : Loc} {Pr : Sto → D → Prop} {S S1 : Sto} (e : Ext S S1) : ∀ {es : List Ex}, AllE p ρ S Pr es → AllE p ρ S1 Pr es
  | [], _ => True.intro
  | _ :: _, h => ⟨fun S' h' => h.1 S' (e.trans h'), AllE.ext e h.2⟩
theorem evEs_all {p : Pg} {ρ : Loc} {Pr : Sto → D → Prop} (mono : ∀ A B d, Ext A B → Pr A d → Pr B d) : ∀ {es : List Ex} {S : Sto}, AllE p ρ S Pr es → wp (evEs p es ρ S) fun ds S' => ds.length = es.length ∧ (∀ d ∈ ds, Pr S' d) ∧ Ext S S'
  | [], S, _ => wp_nil.mpr ⟨rfl, fun _ h => by simp at h, .refl⟩
  | e :: es, S, h => by
    rw [wp_cons]
    refine wp_mono (h.1 S .refl) fun d S1 ⟨h1, e1⟩ => ?_
    refine wp_mono (evEs_all mono (AllE.ext e1 h.2)) fun ds S2 ⟨l, h2, e2⟩ => ⟨by simp [l], fun x hx => ?_, e1.trans e2⟩
    rcases List.mem_cons.mp hx with rfl | hx
    · exact mono _ _ _ e2 h1
    · exact h2 x hx
theorem okD_ext {A B : Sto} {d : D} (e : Ext A B) (h : okD A d = true) : okD B d = true := okD_ge e.ge h
theorem ok_newL {S : Sto} {xs : List D} : okD (S ++ [.lst xs]) (.ref S.length) = true := by
  show (tyOf (S ++ [.lst xs]) (.ref S.length)).isSome = true
  rw [tyRef, at_new]; rfl
theorem ok_newD {S : Sto} : okD (S ++ [.dct]) (.ref S.length) = true := by
  show (tyOf (S ++ [.dct]) (.ref S.length)).isSome = true
  rw [tyRef, at_new]; rfl
end Mini
/-! Mini: more loops (tests, pairs), data that may be compared, wide numbers. -/
namespace Mini
open PySem

/-! ### comprehensions whose body is pure -/
theorem comp_fm {p : Pg} {t : Tg} {it : It} {cs : List Ex} {elt : Ex} {own : List Nat} {ρ : Loc} {S : Sto} {P : D → Sto → Prop} {xs : List D} {g : D → Option D} (hfuel : xs.length < p.fuel) (hlen : xs.length ≤ 100000)
    (hit : wp (evI p it ρ S) fun src S1 => Ext S S1 ∧ ∀ i S', Ext S1 S' → src i S' = srcL xs i S')
    (hf : ∀ d ∈ xs, ∀ S', Ext S S' → wp (bodyC p t cs elt (wipeL ρ own) d S') fun r S'' => r = g d ∧ Ext S' S'')
    (hP : ∀ A t, Ext S A → P (.ref A.length) (A ++ .lst (xs.filterMap g) :: t)) : wp (evE p (.comp t it cs elt own) ρ S) P := by
  rw [wp_comp]
  refine wp_mono hit fun src S1 ⟨e1, hs⟩ => ?_
  refine compN_wp (n := S1.length) xs (fun i ys S' => ∃ t, S' = S1 ++ .lst ys :: t ∧ ys = (xs.take i).filterMap g) (fun i ys S' ⟨t, e, _⟩ => hs i S' ⟨_, e⟩)
    (fun i ys S' d ⟨t, e, ey⟩ hd => ?_) (fun ys S' ⟨t, e, ey⟩ => ?_) _ 0 [] _ (Nat.zero_le _) (by omega) ⟨[], rfl, by simp⟩
  · rw [wp_noex]
    subst e
    have hlt : i < xs.length := (List.getElem?_eq_some_iff.mp hd).1
    refine wp_mono (hf d (List.mem_of_getElem? hd) _ (e1.trans ⟨_, rfl⟩)) fun r S'' ⟨er, t', et⟩ => ?_
    subst er et
    have ea : S1 ++ Cl.lst ys :: t ++ t' = S1 ++ Cl.lst ys :: (t ++ t') := by simp
    rw [ea]
    have step : (xs.take (i + 1)).filterMap g = ys ++ ([d].filterMap g) := by
      rw [List.take_add_one, hd, ey, List.filterMap_append]; rfl
    cases hg : g d with
    | none =>
      refine ⟨t ++ t', rfl, ?_⟩
      rw [step]
      simp [hg]
    | some e =>
      have hy : ys.length ≤ 100000 := by
        have h1 : ys.length ≤ (xs.take i).length := by rw [ey]; exact List.length_filterMap_le _ _
        rw [List.length_take] at h1
        omega
      refine ⟨mid_lst, lineBig hy, t ++ t', mid_set, ?_⟩
      rw [step]
      simp [hg]
  · subst e
    rw [ey, List.take_length]
    exact hP S1 t e1
theorem pair_srcL {xs ys : List D} {i : Nat} {S : Sto} : pairS (srcL xs) (srcL ys) i S = srcL ((xs.zip ys).map fun q => D.tup [q.1, q.2]) i S := by
  have e : pairS (srcL xs) (srcL ys) i S = (match srcL xs i S, srcL ys i S with
    | .item a, .item b => .item (.tup [a, b])
    | .stop, .item _ => .stop
    | .item _, .stop => .stop
    | .stop, .stop => .stop
    | _, _ => .bad) := rfl
  rw [e]
  unfold srcL
  rw [List.getElem?_map, List.zip, List.getElem?_zipWith]
  cases xs[i]? <;> cases ys[i]? <;> rfl
theorem it_zipT {p : Pg} {e e2 : Ex} {ρ : Loc} {S : Sto} {xs ys : List D} (h : wp (evE p e ρ S) fun d S' => d = .tup xs ∧ Ext S S') (h2 : ∀ S', Ext S S' → wp (evE p e2 ρ S') fun d S'' => d = .tup ys ∧ Ext S' S'') :
    wp (evI p (.zip e e2) ρ S) fun src S1 => Ext S S1 ∧ ∀ i S', Ext S1 S' → src i S' = srcL ((xs.zip ys).map fun q => D.tup [q.1, q.2]) i S' := by
  rw [wp_iz]
  refine wp_mono h fun d S' ⟨e1, e2⟩ => ?_
  subst e1
  refine wp_mono (h2 S' e2) fun d S'' ⟨e3, e4⟩ => ?_
  subst e3
  exact ⟨_, rfl, e2.trans e4, fun _ _ _ => pair_srcL⟩
theorem it_rng {p : Pg} {e : Ex} {ρ : Loc} {S : Sto} {n : Nat} (hn : n ≤ 1000000) (h : wp (evE p e ρ S) fun d S' => d = .int (n : Int) ∧ Ext S S') :
    wp (evI p (.rng1 e) ρ S) fun src S1 => Ext S S1 ∧ ∀ i S', Ext S1 S' → src i S' = srcL ((List.range n).map fun (i : Nat) => D.int (0 + (i : Int))) i S' := by
  rw [wp_i1]
  refine wp_mono h fun d S' ⟨e1, e2⟩ => ?_
  subst e1
  have hin : inR (n : Int) = true := by
    unfold inR
    rw [Bool.and_eq_true, decide_eq_true_eq, decide_eq_true_eq]
    omega
  refine ⟨srcL ((List.range n).map fun (i : Nat) => D.int (0 + (i : Int))), ?_, e2, fun _ _ _ => rfl⟩
  show (if inR (n : Int) then some (rngL 0 ((n : Int)).toNat) else none) = _
  rw [if_pos hin, Int.toNat_natCast, rng_srcL]

/-! ### data that may be compared and shown -/
def strB (x : Str) : Bool := PyData.canLay0 (.str x)
/-- to the depth k -/
def plB (S : Sto) : Nat → D → Bool
  | 0, d => match d with
    | .str x => strB x
    | d => (leafD d).isSome
  | k + 1, d => match d with
    | .tup xs => xs.all (plB S k)
    | .ref n => match seqAt S n with
      | some xs => xs.all (plB S k)
      | none => false
    | .str x => strB x
    | d => (leafD d).isSome
def Sh (k : Nat) (e : PyData) : Prop := e.canLay0 = true ∧ e.depth ≤ k
theorem shAll {k : Nat} : ∀ {es : List PyData}, (∀ e ∈ es, Sh k e) → PyData.canLayAll0 es = true ∧ PyData.depthAll es ≤ k
  | [], _ => ⟨by simp [PyData.canLayAll0], by simp [PyData.depthAll]⟩
  | e :: es, h => by
    obtain ⟨h1, h2⟩ := shAll (es := es) fun x hx => h x (by simp [hx])
    obtain ⟨h3, h4⟩ := h e (by simp)
    exact ⟨by simp [PyData.canLayAll0, h1, h3], by simp [PyData.depthAll]; omega⟩
theorem mapO_all {α β : Type} {f : α → Option β} {Pr : β → Prop} : ∀ {xs : List α}, (∀ x ∈ xs, ∃ e, f x = some e ∧ Pr e) → ∃ es, mapO f xs = some es ∧ (∀ e ∈ es, Pr e) ∧ es.length = xs.length
  | [], _ => ⟨[], rfl, fun _ h => by simp at h, rfl⟩
  | x :: xs, h => by
    obtain ⟨e, h1, h2⟩ := h x (by simp)
    obtain ⟨es, h3, h4, h5⟩ := mapO_all (xs := xs) fun y hy => h y (by simp [hy])
    refine ⟨e :: es, ?_, fun y hy => ?_, by simp [h5]⟩
    · show (match f x, mapO f xs with
        | some d, some ds => some (d :: ds)
        | _, _ => none) = _
      rw [h1, h3]
    · rcases List.mem_cons.mp hy with rfl | hy
      · exact h2
      · exact h4 y hy
theorem leaf_sh {d : D} {k : Nat} (hs : ∀ x, d = .str x → strB x = true) (h : (leafD d).isSome = true) : ∃ e, leafD d = some e ∧ Sh k e := by
  cases d with
  | non => exact ⟨_, rfl, by simp [PyData.canLay0], by simp [PyData.depth]⟩
  | bl b => exact ⟨_, rfl, by simp [PyData.canLay0], by simp [PyData.depth]⟩
  | int i => exact ⟨_, rfl, by simp [PyData.canLay0], by simp [PyData.depth]⟩
  | str x => exact ⟨_, rfl, hs x rfl, by simp [PyData.depth]⟩
  | _ => cases h
theorem toD_pl {S : Sto} : ∀ {k j : Nat} {d : D}, plB S k d = true → k ≤ j → ∃ e, toD S j d = some e ∧ Sh k e
  | 0, j, d, h, hj => by
    have key : (leafD d).isSome = true ∧ ∀ x, d = .str x → strB x = true := by
      cases d <;> first | exact ⟨h, fun x e => by cases e⟩ | exact ⟨rfl, fun x e => by cases e; exact h⟩ | (exact absurd h (by simp [plB, leafD]))
    obtain ⟨e, h1, h2⟩ := leaf_sh (k := 0) key.2 key.1
    refine ⟨e, ?_, h2⟩
    cases j with
    | zero => exact h1
    | succ j => cases d <;> first | exact h1 | cases h1
  | k + 1, 0, d, h, hj => by omega
  | k + 1, j + 1, d, h, hj => by
    have lf : (leafD d).isSome = true → (∀ x, d = .str x → strB x = true) → (∀ xs, d ≠ .tup xs) → (∀ n, d ≠ .ref n) → ∃ e, toD S (j + 1) d = some e ∧ Sh (k + 1) e := fun h1 h2 h3 h4 => by
      obtain ⟨e, e1, e2⟩ := leaf_sh (k := k + 1) h2 h1
      refine ⟨e, ?_, e2⟩
      cases d <;> first | exact e1 | exact absurd rfl (h3 _) | exact absurd rfl (h4 _)
    cases d with
    | tup xs =>
      have h : xs.all (plB S k) = true := h
      rw [List.all_eq_true] at h
      obtain ⟨es, h1, h2, _⟩ := mapO_all (f := toD S j) (Pr := Sh k) fun x hx => toD_pl (h x hx) (by omega)
      obtain ⟨h3, h4⟩ := shAll h2
      refine ⟨.tuple es, ?_, by simp [PyData.canLay0, h3], by simp [PyData.depth]; omega⟩
      show (mapO (toD S j) xs).map PyData.tuple = _
      rw [h1]; rfl
    | ref n =>
      have h : (match seqAt S n with
        | some xs => xs.all (plB S k)
        | none => false) = true := h
      cases q : seqAt S n with
      | none => rw [q] at h; cases h
      | some xs =>
        rw [q] at h
        have h : xs.all (plB S k) = true := h
        rw [List.all_eq_true] at h
        obtain ⟨es, h1, h2, _⟩ := mapO_all (f := toD S j) (Pr := Sh k) fun x hx => toD_pl (h x hx) (by omega)
        obtain ⟨h3, h4⟩ := shAll h2
        refine ⟨.list es, ?_, by simp [PyData.canLay0, h3], by simp [PyData.depth]; omega⟩
        show (match seqAt S n with
          | some xs => (mapO (toD S j) xs).map PyData.list
          | none => none) = _
        rw [q]
        show (mapO (toD S j) xs).map PyData.list = _
        rw [h1]; rfl
    | non => exact lf rfl (fun x e => by cases e) (fun _ e => by cases e) fun _ e => by cases e
    | bl b => exact lf rfl (fun x e => by cases e) (fun _ e => by cases e) fun _ e => by cases e
    | int i => exact lf rfl (fun x e => by cases e) (fun _ e => by cases e) fun _ e => by cases e
    | str x => exact lf rfl (fun y e => by cases e; exact h) (fun _ e => by cases e) fun _ e => by cases e
    | glb n => cases h
theorem shaped_of {k : Nat} {e : PyData} (h : Sh k e) (hk : k ≤ 64) : SeqAt.shaped e = true := by
  unfold SeqAt.shaped
  rw [h.1, decide_eq_true (Nat.le_trans h.2 hk)]; rfl
/-- a list against the empty one -/
theorem eq_nil {S : Sto} {m n k : Nat} {xs : List D} (hm : seqAt S m = some xs) (hn : seqAt S n = some []) (hk : k ≤ 19) (hp : ∀ d ∈ xs, plB S k d = true) : eqE S (.ref m) (.ref n) = some xs.isEmpty := by
  have p1 : plB S (k + 1) (.ref m) = true := by
    show (match seqAt S m with
      | some xs => xs.all (plB S k)
      | none => false) = true
    rw [hm]
    exact List.all_eq_true.mpr hp
  obtain ⟨es, h1, h2, hl⟩ := mapO_all (f := toD S 19) (Pr := Sh k) fun x hx => toD_pl (hp x hx) hk
  have t1 : toD S deepN (.ref m) = some (.list es) := by
    show (match seqAt S m with
          | some xs => (mapO (toD S 19) xs).map PyData.list
          | none => none) = _
    rw [hm]
    show (mapO (toD S 19) xs).map PyData.list = _
    rw [h1]; rfl
  have t2 : toD S deepN (.ref n) = some (.list []) := by
    show (match seqAt S n with
          | some xs => (mapO (toD S 19) xs).map PyData.list
          | none => none) = _
    rw [hn]; rfl
  obtain ⟨h3, h4⟩ := shAll h2
  have s1 : SeqAt.shaped (.list es) = true := shaped_of (k := k + 1) ⟨by simp [PyData.canLay0, h3], by simp [PyData.depth]; omega⟩ (by omega)
  have s2 : SeqAt.shaped (.list []) = true := by decide
  unfold eqE
  rw [t1, t2]
  show (if SeqAt.shaped (.list es) && SeqAt.shaped (.list []) then some (PyData.eqv (.list es) (.list [])) else none) = _
  rw [s1, s2]
  show some (PyData.eqv (.list es) (.list [])) = _
  cases es with
  | nil =>
    have : xs = [] := List.eq_nil_of_length_eq_zero hl.symm
    subst this
    simp [PyData.eqv, PyData.eqvAll]
  | cons e es =>
    cases xs with
    | nil => cases hl
    | cons x xs => simp [PyData.eqv, PyData.eqvAll]

/-! ### wide numbers -/
theorem bits_wide {i : Int} (h : i.natAbs < 2 ^ 400) : Builtin.Int.intBits i ≤ 400 := by
  unfold Builtin.Int.intBits
  split
  · exact Nat.zero_le _
  · rename_i hi
    have : i.natAbs ≠ 0 := by
      intro e
      apply hi
      have : i = 0 := Int.natAbs_eq_zero.mp e
      rw [this]; rfl
    have := (Nat.log2_lt this (k := 400)).mpr h
    omega
theorem wide_mul {S : Sto} {i j : Int} (h1 : i.natAbs < 2 ^ 400) (h2 : j.natAbs < 2 ^ 400) : binE .mul (.int i) (.int j) S = .ok (.int (i * j)) S := by
  have b1 := bits_wide h1
  have b2 := bits_wide h2
  refine if_pos ?_
  unfold mulOk
  rw [decide_eq_true_eq]
  omega
theorem wide_div {S : Sto} {i j : Int} (h0 : 0 < j) (h : j.natAbs < 2 ^ 400) : binE .fdiv (.int i) (.int j) S = .ok (.int (i / j)) S := by
  have hj : j.natAbs ≠ 0 := by omega
  have hl := (Nat.log2_lt hj (k := 400)).mpr h
  have h1 : Builtin.divisionGoesByPylong i j = false := by
    unfold Builtin.divisionGoesByPylong
    have e : (j == 0) = false := by simp; omega
    simp only [e, Bool.false_eq_true, if_false]
    have : ¬ (j.natAbs.log2 / 30 + 1 > 300) := by omega
    simp [this]
  have h2 : divOk i j = true := by
    unfold divOk
    rw [h1]
    simp
    omega
  show (if divOk i j then Res.ok (D.int (i.fdiv j)) S else .no) = _
  rw [if_pos h2, Int.fdiv_eq_ediv_of_nonneg _ (by omega)]
end Mini
/-! Mini: what repr shows of whole numbers in tuples and lists: its length, its signs. -/
namespace Mini
open PySem
theorem sOk_of (s : String) : PyData.strOk (Str.ofString s) = true := by
  rw [Str.ofString_eq_toList]
  unfold PyData.strOk
  rw [List.all_toArray, List.all_map, List.all_eq_true]
  intro c _
  show decide (c.toNat < 0x110000) = true
  have := c.valid
  rw [decide_eq_true_eq]
  rcases this with h | h
  · exact Nat.lt_trans h (by decide)
  · exact h.2
theorem sOk_app {a b : Str} (ha : PyData.strOk a = true) (hb : PyData.strOk b = true) : PyData.strOk (a ++ b) = true := by
  unfold PyData.strOk at *
  show ((a.cps ++ b.cps).all _) = true
  rw [Array.all_append, ha, hb]; rfl
theorem join_ok : ∀ ts : List Str, (∀ t ∈ ts, PyData.strOk t = true) → PyData.strOk (Str.join ", " ts) = true
  | [], _ => by decide +kernel
  | [x], h => h x (by simp)
  | x :: y :: r, h => sOk_app (sOk_app (h x (by simp)) (sOk_of _)) (join_ok (y :: r) fun t ht => h t (by simp [List.mem_cons.mp ht]))
theorem piled_le {B : Nat} : ∀ ts : List Str, (∀ t ∈ ts, t.length ≤ B) → piled ts ≤ ts.length * (B + 2)
  | [], _ => by simp [piled]
  | t :: r, h => by
    have ih := piled_le r fun x hx => h x (by simp [hx])
    have h1 := h t (by simp)
    rw [piled_cons, List.length_cons, Nat.succ_mul]
    omega
theorem join_le {B : Nat} {ts : List Str} (h : ∀ t ∈ ts, t.length ≤ B) : (Str.join ", " ts).length ≤ ts.length * (B + 2) := by
  by_cases e : ts = []
  · subst e
    have : (Str.join ", " []).length = 0 := by decide +kernel
    omega
  · have := join_length_add ts e
    have := piled_le ts h
    omega
/-- shown in at most B signs, all of them such -/
structure Sb (B : Nat) (e : PyData) : Prop where
  able : e.showable = true
  ok : PyData.strOk e.shown = true
  len : e.shown.length ≤ B
theorem Sb.mono {A B : Nat} {e : PyData} (h : Sb A e) (hb : A ≤ B) : Sb B e := ⟨h.able, h.ok, Nat.le_trans h.len hb⟩
theorem sb_int {i : Int} (h : i.natAbs.log2 < 1920) : Sb 1921 (.int i) := by
  refine ⟨by simp [PyData.showable, h], ?_, ?_⟩
  · rw [PyData.shown_int]; exact sOk_of _
  · rw [PyData.shown_int]
    have e := int_text_length_le (k := 1920) (by decide) h
    show (Str.ofString (toString i)).length ≤ 1921
    rw [ofString_length]
    exact e
theorem sb_all {B : Nat} {es : List PyData} (h : ∀ e ∈ es, Sb B e) : PyData.showableAll es = true ∧ (∀ t ∈ PyData.shownAll es, PyData.strOk t = true) ∧ (∀ t ∈ PyData.shownAll es, t.length ≤ B) ∧ (PyData.shownAll es).length = es.length := by
  induction es with
  | nil => exact ⟨by simp [PyData.showableAll], by simp [PyData.shownAll], by simp [PyData.shownAll], by simp [PyData.shownAll]⟩
  | cons e es ih =>
    obtain ⟨a, b, c, d⟩ := ih fun x hx => h x (by simp [hx])
    have he := h e (by simp)
    refine ⟨by simp [PyData.showableAll, a, he.able], fun t ht => ?_, fun t ht => ?_, by simp [PyData.shownAll, d]⟩
    · rw [PyData.shownAll_cons] at ht
      rcases List.mem_cons.mp ht with rfl | ht
      · exact he.ok
      · exact b t ht
    · rw [PyData.shownAll_cons] at ht
      rcases List.mem_cons.mp ht with rfl | ht
      · exact he.len
      · exact c t ht
theorem sb_list {B n : Nat} {es : List PyData} (h : ∀ e ∈ es, Sb B e) (hn : es.length ≤ n) : Sb (2 + n * (B + 2)) (.list es) := by
  obtain ⟨a, b, c, d⟩ := sb_all h
  refine ⟨by simp [PyData.showable, a], ?_, ?_⟩
  · rw [PyData.shown_list]
    exact sOk_app (sOk_app (sOk_of _) (join_ok _ b)) (sOk_of _)
  · rw [PyData.shown_list, strLen_append, strLen_append]
    have := join_le c
    rw [d] at this
    have := Nat.mul_le_mul_right (B + 2) hn
    show 1 + (Str.join ", " (PyData.shownAll es)).length + 1 ≤ _
    omega
theorem sb_tuple {B n : Nat} {es : List PyData} (h : ∀ e ∈ es, Sb B e) (hn : es.length ≤ n) : Sb (3 + n * (B + 2)) (.tuple es) := by
  obtain ⟨a, b, c, d⟩ := sb_all h
  have e : (PyData.tuple es).shown = tupleText (PyData.shownAll es) := by simp only [PyData.shown]
  refine ⟨by simp [PyData.showable, a], ?_, ?_⟩
  · rw [e]
    exact sOk_app (sOk_app (sOk_of _) (join_ok _ b)) (by split <;> exact sOk_of _)
  · rw [e]
    unfold tupleText
    rw [strLen_append, strLen_append]
    have := join_le c
    rw [d] at this
    have := Nat.mul_le_mul_right (B + 2) hn
    have h1 : (("(" : Str)).length = 1 := by decide +kernel
    have h2 : (Str.ofString (if (PyData.shownAll es).length == 1 then ",)" else ")")).length ≤ 2 := by split <;> decide +kernel
    omega
theorem repr_ok {S : Sto} {d : D} {e : PyData} {B : Nat} (h : toD S deepN d = some e) (hs : Sb B e) (hB : B ≤ lineN) : fnE .repr [d] S = .ok (.str e.shown) S := by
  have q : fnE .repr [d] S = (match toD S deepN d with
    | some e => if e.showable && decide (e.shown.length ≤ lineN) then .ok (.str e.shown) S else .no
    | none => .no) := rfl
  rw [q, h]
  refine if_pos ?_
  rw [hs.able, decide_eq_true (Nat.le_trans hs.len hB)]; rfl
theorem eq_same {S : Sto} {x : Str} (h : PyData.strOk x = true) : eqE S (.str x) (.str x) = some true := by
  have e : eqE S (.str x) (.str x) = (if SeqAt.shaped (.str x) && SeqAt.shaped (.str x) then some (PyData.eqv (.str x) (.str x)) else none) := rfl
  have s : SeqAt.shaped (.str x) = true := shaped_of (k := 0) ⟨by simp [PyData.canLay0, h], by simp [PyData.depth]⟩ (by omega)
  rw [e, s]
  simp [PyData.eqv]
end Mini
/-! Mini: what data are to repr and to tests for membership, at a store and all that grow from it. -/
namespace Mini
open PySem
structure Sd (S : Sto) (k B : Nat) (d : D) (e : PyData) : Prop where
  to : ∀ S', Ext S S' → ∀ j, k ≤ j → toD S' j d = some e
  sb : Sb B e
theorem Sd.ext {S S' : Sto} {k B : Nat} {d : D} {e : PyData} (h : Sd S k B d e) (x : Ext S S') : Sd S' k B d e := ⟨fun S2 x2 => h.to S2 (x.trans x2), h.sb⟩
theorem Sd.mono {S : Sto} {k k' B B' : Nat} {d : D} {e : PyData} (h : Sd S k B d e) (hk : k ≤ k') (hb : B ≤ B') : Sd S k' B' d e := ⟨fun S2 x2 j hj => h.to S2 x2 j (by omega), h.sb.mono hb⟩
theorem log_le {i : Int} {b : Nat} (hb : b ≤ 1900) (h : i.natAbs < 2 ^ b) : i.natAbs.log2 < 1920 := by
  rcases Nat.eq_zero_or_pos i.natAbs with z | z
  · rw [z]; decide
  · exact Nat.lt_of_lt_of_le ((Nat.log2_lt (by omega)).mpr h) (by omega)
theorem sd_int {S : Sto} {i : Int} {b : Nat} (hb : b ≤ 1900) (h : i.natAbs < 2 ^ b) : Sd S 0 1921 (.int i) (.int i) := ⟨fun S' _ j _ => by cases j <;> rfl, sb_int (log_le hb h)⟩
theorem sd_all {S : Sto} {k B : Nat} : ∀ {xs : List D}, (∀ x ∈ xs, ∃ e, Sd S k B x e) → ∃ es, (∀ S', Ext S S' → ∀ j, k ≤ j → mapO (toD S' j) xs = some es) ∧ (∀ e ∈ es, Sb B e) ∧ es.length = xs.length
  | [], _ => ⟨[], fun _ _ _ _ => rfl, fun _ h => by simp at h, rfl⟩
  | x :: xs, h => by
    obtain ⟨e, he⟩ := h x (by simp)
    obtain ⟨es, h1, h2, h3⟩ := sd_all (xs := xs) fun y hy => h y (by simp [hy])
    refine ⟨e :: es, fun S' x' j hj => ?_, fun y hy => ?_, by simp [h3]⟩
    · rw [mapO, he.to S' x' j hj, h1 S' x' j hj]
    · rcases List.mem_cons.mp hy with rfl | hy
      · exact he.sb
      · exact h2 y hy
theorem sd_tup {S : Sto} {k B n : Nat} {xs : List D} (h : ∀ x ∈ xs, ∃ e, Sd S k B x e) (hn : xs.length ≤ n) : ∃ e, Sd S (k + 1) (3 + n * (B + 2)) (.tup xs) e := by
  obtain ⟨es, h1, h2, h3⟩ := sd_all h
  refine ⟨.tuple es, fun S' x' j hj => ?_, sb_tuple h2 (by omega)⟩
  obtain ⟨j, rfl⟩ : ∃ i, j = i + 1 := ⟨j - 1, by omega⟩
  show (mapO (toD S' j) xs).map PyData.tuple = _
  rw [h1 S' x' j (by omega)]; rfl
theorem sd_lst {S : Sto} {k B n l : Nat} {xs : List D} (hl : S[l]? = some (.lst xs)) (h : ∀ x ∈ xs, ∃ e, Sd S k B x e) (hn : xs.length ≤ n) : ∃ e, Sd S (k + 1) (2 + n * (B + 2)) (.ref l) e := by
  obtain ⟨es, h1, h2, h3⟩ := sd_all h
  refine ⟨.list es, fun S' x' j hj => ?_, sb_list h2 (by omega)⟩
  obtain ⟨j, rfl⟩ : ∃ i, j = i + 1 := ⟨j - 1, by omega⟩
  show (match seqAt S' l with
    | some xs => (mapO (toD S' j) xs).map PyData.list
    | none => none) = _
  rw [seq_c (x'.get hl)]
  show (mapO (toD S' j) xs).map PyData.list = _
  rw [h1 S' x' j (by omega)]; rfl
theorem sd_two {S : Sto} {k B l : Nat} {a b : D} {e f : PyData} (hl : S[l]? = some (.lst [a, b])) (ha : Sd S k B a e) (hb : Sd S k B b f) : Sd S (k + 1) (2 + 2 * (B + 2)) (.ref l) (.list [e, f]) := by
  refine ⟨fun S' x' j hj => ?_, sb_list (fun x hx => ?_) (Nat.le_refl 2)⟩
  · obtain ⟨j, rfl⟩ : ∃ i, j = i + 1 := ⟨j - 1, by omega⟩
    show (match seqAt S' l with
      | some xs => (mapO (toD S' j) xs).map PyData.list
      | none => none) = _
    rw [seq_c (x'.get hl)]
    show (mapO (toD S' j) [a, b]).map PyData.list = _
    rw [mapO, mapO, ha.to S' x' j (by omega), hb.to S' x' j (by omega)]; rfl
  · simp only [List.mem_cons, List.not_mem_nil, or_false] at hx
    rcases hx with rfl | rfl
    · exact ha.sb
    · exact hb.sb
theorem Sd.repr {S : Sto} {k B : Nat} {d : D} {e : PyData} (h : Sd S k B d e) (hk : k ≤ 20) (hB : B ≤ lineN) : fnE .repr [d] S = .ok (.str e.shown) S := repr_ok (h.to S .refl 20 hk) h.sb hB
/-- the same, shown twice -/
theorem Sd.same {S S' : Sto} {k B : Nat} {d : D} {e : PyData} (h : Sd S k B d e) : eqE S' (.str e.shown) (.str e.shown) = some true := eq_same h.sb.ok
theorem ints_any {i : Int} {xs : List Int} : (xs.map PyData.int).any (fun z => PyData.eqv z (.int i)) = decide (i ∈ xs) := by
  induction xs with
  | nil => rfl
  | cons x xs ih =>
    rw [List.map_cons, List.any_cons, ih]
    have e : PyData.eqv (.int x) (.int i) = decide (i = x) := by
      by_cases h : i = x
      · subst h; simp [PyData.eqv]
      · simp [PyData.eqv, h, Ne.symm h]
    rw [e]
    by_cases h : i = x <;> simp [h]
theorem in_ints {S : Sto} {i : Int} {l : Nat} {xs : List Int} (h : S[l]? = some (.lst (xs.map D.int))) : inE S (.int i) (.ref l) = some (decide (i ∈ xs)) := by
  have m : ∀ {j : Nat} (xs : List Int), mapO (toD S j) (xs.map D.int) = some (xs.map PyData.int) := fun {j} xs => by
    induction xs with
    | nil => rfl
    | cons x xs ih =>
      have e : toD S j (.int x) = some (.int x) := by cases j <;> rfl
      rw [List.map_cons, mapO, ih, e]; rfl
  have t : toD S deepN (.ref l) = some (.list (xs.map PyData.int)) := by
    show (match seqAt S l with
      | some xs => (mapO (toD S 19) xs).map PyData.list
      | none => none) = _
    rw [seq_c h]
    show (mapO (toD S 19) (xs.map D.int)).map PyData.list = _
    rw [m]; rfl
  have s1 : SeqAt.shaped (.int i) = true := shaped_of (k := 0) ⟨by simp [PyData.canLay0], by simp [PyData.depth]⟩ (by omega)
  have s2 : SeqAt.shaped (.list (xs.map PyData.int)) = true := by
    obtain ⟨h3, h4⟩ := shAll (k := 0) (es := xs.map PyData.int) fun e he => by
      obtain ⟨x, _, rfl⟩ := List.mem_map.mp he
      exact ⟨by simp [PyData.canLay0], by simp [PyData.depth]⟩
    exact shaped_of (k := 1) ⟨by simp [PyData.canLay0, h3], by simp [PyData.depth]; omega⟩ (by omega)
  unfold inE
  rw [t, show toD S deepN (.int i) = some (.int i) from rfl]
  show (if SeqAt.shaped (.int i) && SeqAt.shaped (.list (xs.map PyData.int)) then some ((xs.map PyData.int).any fun z => PyData.eqv z (.int i)) else none) = _
  rw [s1, s2, ints_any]; rfl
/-- a tuple against the empty one -/
theorem eq_tnil {S : Sto} {xs : List D} {k : Nat} (h : ∀ x ∈ xs, plB S k x = true) (hk : k ≤ 19) : eqE S (.tup xs) (.tup []) = some xs.isEmpty := by
  obtain ⟨es, h1, h2, hl⟩ := mapO_all (f := toD S 19) (Pr := Sh k) fun x hx => toD_pl (h x hx) hk
  have t1 : toD S deepN (.tup xs) = some (.tuple es) := by
    show (mapO (toD S 19) xs).map PyData.tuple = _
    rw [h1]; rfl
  have t2 : toD S deepN (.tup []) = some (.tuple []) := rfl
  obtain ⟨h3, h4⟩ := shAll h2
  have s1 : SeqAt.shaped (.tuple es) = true := shaped_of (k := k + 1) ⟨by simp [PyData.canLay0, h3], by simp [PyData.depth]; omega⟩ (by omega)
  have s2 : SeqAt.shaped (.tuple []) = true := by decide
  unfold eqE
  rw [t1, t2]
  show (if SeqAt.shaped (.tuple es) && SeqAt.shaped (.tuple []) then some (PyData.eqv (.tuple es) (.tuple [])) else none) = _
  rw [s1, s2]
  show some (PyData.eqv (.tuple es) (.tuple [])) = _
  cases es with
  | nil =>
    have : xs = [] := List.eq_nil_of_length_eq_zero hl.symm
    subst this
    simp [PyData.eqv, PyData.eqvAll]
  | cons e es =>
    cases xs with
    | nil => cases hl
    | cons x xs => simp [PyData.eqv, PyData.eqvAll]
/-- draws gathered -/
theorem draw_comp {p : Pg} {v f c : Nat} {it : It} {ρ : Loc} {S : Sto} {t κ : Int} {Pr : D → Prop} {xs : List D} {P : D → Sto → Prop} (hv : 0 < v) (h0 : ρ[0]? = some (some (.ref c))) (hfuel : xs.length < p.fuel) (hlen : xs.length ≤ 1000) (w : Well S c t)
    (hit : wp (evI p it ρ S) fun src S1 => S1 = S ∧ ∀ i S', src i S' = srcL xs i S')
    (hf : ∀ (i : Nat) S', i < xs.length → Well S' c (t + κ * i) → wp (p.call f [.ref c] S') fun r S'' => Pr r ∧ Well S'' c (t + κ * i + κ) ∧ Chg c S' S'')
    (hP : ∀ ys S', ys.length = xs.length → (∀ y ∈ ys, Pr y) → S'[S.length]? = some (.lst ys) → Well S' c (t + κ * (xs.length : Nat)) → Chg c S S' → P (.ref S.length) S') :
    wp (evE p (.comp (.nm v) it [] (.call f [.var 0] none) [v]) ρ S) P := by
  rw [wp_comp]
  refine wp_mono hit fun src S1 ⟨es, hs⟩ => ?_
  subst es
  have cl := w.lt
  refine compN_wp (n := S1.length) xs (fun i ys S' => S'[S1.length]? = some (.lst ys) ∧ ys.length = i ∧ i ≤ xs.length ∧ (∀ y ∈ ys, Pr y) ∧ Well S' c (t + κ * i) ∧ Chg c S1 S') (fun i ys S' _ => hs i S')
    (fun i ys S' d ⟨h1, h2, h2', h3, h4, h5⟩ hd => ?_) (fun ys S' ⟨h1, h2, h2', h3, h4, h5⟩ => hP ys S' h2 h3 h1 h4 h5) _ 0 [] _ (Nat.zero_le _) (by omega) ⟨at_new, rfl, Nat.zero_le _, fun _ h => by simp at h, (w.ext .one).mono (by simp), Ext.one.chg⟩
  have hlt : i < xs.length := (List.getElem?_eq_some_iff.mp hd).1
  rw [wp_noex]
  unfold bodyC
  simp only [wp_bind, wp_gn, wp_tN, if_pos, wp_ok, wp_call, wp_cons, wp_nil, wp_var, if_true]
  refine ⟨.ref c, ?_, ?_⟩
  · show ((ρ.set v none).set v (some d))[0]? = _
    rw [List.getElem?_set_ne (by omega), List.getElem?_set_ne (by omega)]
    exact h0
  · refine wp_mono (hf i S' hlt h4) fun r S'' ⟨q1, q2, q3⟩ => ?_
    have h6 := q3.get _ _ (show S1.length ≠ c by omega) h1
    refine ⟨lst_c h6, lineBig (by omega), at_set h6, by simp [h2], hlt, fun y hy => ?_, ?_, ?_⟩
    · rcases List.mem_append.mp hy with hy | hy
      · exact h3 y hy
      · rw [List.mem_singleton.mp hy]; exact q1
    · have : t + κ * ((i + 1 : Nat) : Int) = t + κ * (i : Int) + κ := by
        rw [Int.natCast_add, Int.mul_add]
        simp
        omega
      rw [this]
      exact q2.chg (.set h6) (by omega)
    · exact (h5.trans q3).then (.set h6) (Nat.le_refl _)
theorem rng1_wp {n : Nat} {S : Sto} {p : Pg} {e : Ex} {ρ : Loc} (hn : n ≤ 1000000) (h : wp (evE p e ρ S) fun d S' => d = .int (n : Int) ∧ S' = S) : wp (evI p (.rng1 e) ρ S) fun src S1 => S1 = S ∧ ∀ i S', src i S' = srcL ((List.range n).map fun (i : Nat) => D.int (0 + (i : Int))) i S' := by
  rw [wp_i1]
  refine wp_mono h fun d S' ⟨e1, e2⟩ => ?_
  subst e1 e2
  have hin : inR (n : Int) = true := by
    unfold inR
    rw [Bool.and_eq_true, decide_eq_true_eq, decide_eq_true_eq]
    omega
  refine ⟨srcL ((List.range n).map fun (i : Nat) => D.int (0 + (i : Int))), ?_, rfl, fun _ _ => rfl⟩
  show (if inR (n : Int) then some (rngL 0 ((n : Int)).toNat) else none) = _
  rw [if_pos hin, Int.toNat_natCast, rng_srcL]
theorem sb_bl {b : Bool} : Sb 1921 (.bool b) := by
  cases b
  · exact ⟨by decide +kernel, by decide +kernel, by decide +kernel⟩
  · exact ⟨by decide +kernel, by decide +kernel, by decide +kernel⟩
theorem sb_non : Sb 1921 .none := ⟨by decide +kernel, by decide +kernel, by decide +kernel⟩
theorem sd_bl {S : Sto} {b : Bool} : Sd S 0 1921 (.bl b) (.bool b) := ⟨fun S' _ j _ => by cases j <;> rfl, sb_bl⟩
theorem sd_non {S : Sto} : Sd S 0 1921 .non .none := ⟨fun S' _ j _ => by cases j <;> rfl, sb_non⟩
/-- two lists of the same whole numbers -/
theorem eq_intL {S : Sto} {l k : Nat} {xs : List Int} (h : S[l]? = some (.lst (xs.map D.int))) (h2 : S[k]? = some (.lst (xs.map D.int))) : eqE S (.ref l) (.ref k) = some true := by
  have m : ∀ {j : Nat} (xs : List Int), mapO (toD S j) (xs.map D.int) = some (xs.map PyData.int) := fun {j} xs => by
    induction xs with
    | nil => rfl
    | cons x xs ih =>
      have e : toD S j (.int x) = some (.int x) := by cases j <;> rfl
      rw [List.map_cons, mapO, ih, e]; rfl
  have t : ∀ {l : Nat}, S[l]? = some (.lst (xs.map D.int)) → toD S deepN (.ref l) = some (.list (xs.map PyData.int)) := fun {l} h => by
    show (match seqAt S l with
      | some xs => (mapO (toD S 19) xs).map PyData.list
      | none => none) = _
    rw [seq_c h]
    show (mapO (toD S 19) (xs.map D.int)).map PyData.list = _
    rw [m]; rfl
  obtain ⟨h3, h4⟩ := shAll (k := 0) (es := xs.map PyData.int) fun e he => by
    obtain ⟨x, _, rfl⟩ := List.mem_map.mp he
    exact ⟨by simp [PyData.canLay0], by simp [PyData.depth]⟩
  have c0 : PyData.canLay0 (.list (xs.map PyData.int)) = true := by simp [PyData.canLay0, h3]
  have s2 : SeqAt.shaped (.list (xs.map PyData.int)) = true := shaped_of (k := 1) ⟨c0, by simp [PyData.depth]; omega⟩ (by omega)
  unfold eqE
  rw [t h, t h2]
  show (if SeqAt.shaped (.list (xs.map PyData.int)) && SeqAt.shaped (.list (xs.map PyData.int)) then some (PyData.eqv (.list (xs.map PyData.int)) (.list (xs.map PyData.int))) else none) = _
  rw [s2, SeqAt.eqv_refl _ c0]; rfl
end Mini
local macro_rules | `(tactic| simp_arith [$xs,*]) => `(tactic| simp only [Mini.wp_sC, Mini.wp_sN, Mini.wp_ret, Mini.wp_asg, Mini.wp_par, Mini.wp_sif, Mini.wp_sx, Mini.wp_and_, Mini.wp_or_, Mini.wp_not, Mini.wp_neg, Mini.wp_cmp, Mini.wp_chain, Mini.wp_if, Mini.wp_call, Mini.wp_callK, Mini.wp_fn, Mini.wp_ix, Mini.wp_bin, Mini.wp_tup, Mini.wp_lst, Mini.wp_cons, Mini.wp_nil, Mini.wp_con, Mini.wp_var, Mini.wp_gn, Mini.fl_nx, Mini.fl_rt, Mini.ed_rt, Mini.setsL, List.getElem?_cons_zero, List.getElem?_cons_succ, Option.some.injEq, exists_eq_left', List.set_cons_zero, List.set_cons_succ, Mini.wp_ok, Mini.wp_map, Mini.truth, Mini.cmpE, Mini.eq_int, Option.map_some, $xs,*])
local macro_rules | `(tactic| simp_all_arith [$xs,*]) => `(tactic| simp only [Mini.wp_sN, Mini.wp_ret, Mini.wp_asg, Mini.wp_par, Mini.wp_sif, Mini.wp_sx, Mini.wp_and_, Mini.wp_or_, Mini.wp_not, Mini.wp_neg, Mini.wp_cmp, Mini.wp_chain, Mini.wp_if, Mini.wp_call, Mini.wp_callK, Mini.wp_fn, Mini.wp_ix, Mini.wp_bin, Mini.wp_tup, Mini.wp_lst, Mini.wp_cons, Mini.wp_nil, Mini.wp_con, Mini.wp_var, Mini.wp_gn, Mini.fl_rt, Mini.ed_rt, Mini.setsL, List.getElem?_cons_zero, List.getElem?_cons_succ, Option.some.injEq, exists_eq_left', List.set_cons_zero, List.set_cons_succ, Mini.wp_ok, Mini.wp_map, Mini.truth, Mini.cmpE, Mini.eq_int, Option.map_some, $xs,*])
namespace Mini
open PySem
/-! numbers of so many bits -/
def Bd (k : Nat) (i : Int) : Prop := i.natAbs < 2 ^ k
theorem Bd.mono {j k : Nat} {i : Int} (h : Bd j i) (hk : j ≤ k) : Bd k i := Nat.lt_of_lt_of_le h (Nat.pow_le_pow_right (by decide) hk)
theorem Bd.mul {j k : Nat} {a b : Int} (h : Bd j a) (h2 : Bd k b) : Bd (j + k) (a * b) := by
  unfold Bd at *
  rw [Int.natAbs_mul, Nat.pow_add]
  have p : 0 < 2 ^ j := Nat.pow_pos (by decide)
  rcases Nat.eq_zero_or_pos b.natAbs with z | z
  · rw [z, Nat.mul_zero]
    exact Nat.mul_pos p (Nat.pow_pos (by decide))
  · exact Nat.lt_of_lt_of_le (Nat.mul_lt_mul_of_pos_right h z) (Nat.mul_le_mul_left _ (Nat.le_of_lt h2))
theorem Bd.add {k : Nat} {a b : Int} (h : Bd k a) (h2 : Bd k b) : Bd (k + 1) (a + b) := by
  unfold Bd at *
  rw [Nat.pow_succ]
  have := Int.natAbs_add_le a b
  omega
theorem Bd.neg {k : Nat} {a : Int} (h : Bd k a) : Bd k (-a) := by
  unfold Bd at *
  rw [Int.natAbs_neg]; exact h
theorem Bd.le {k : Nat} {a b : Int} (h : Bd k a) (hl : b.natAbs ≤ a.natAbs) : Bd k b := Nat.lt_of_le_of_lt hl h
theorem Bd.zero {k : Nat} : Bd k 0 := Nat.pow_pos (by decide)
theorem Bd.small {a : Int} (h : a.natAbs < 128) : Bd 7 a := h
theorem Bd.one : Bd 1 1 := show (1 : Int).natAbs < 2 ^ 1 by decide
theorem bits_bd {k : Nat} {i : Int} (h : Bd k i) : Builtin.Int.intBits i ≤ k := by
  unfold Builtin.Int.intBits
  split
  · exact Nat.zero_le _
  · rename_i hi
    have : i.natAbs ≠ 0 := by
      intro e
      apply hi
      have : i = 0 := Int.natAbs_eq_zero.mp e
      rw [this]; rfl
    have := (Nat.log2_lt this (k := k)).mpr h
    omega
theorem big_mul {S : Sto} {i j : Int} {a b : Nat} (h1 : Bd a i) (h2 : Bd b j) (h : a + b ≤ 100000000) : binE .mul (.int i) (.int j) S = .ok (.int (i * j)) S := by
  have b1 := bits_bd h1
  have b2 := bits_bd h2
  refine if_pos ?_
  unfold mulOk
  rw [decide_eq_true_eq]
  omega
theorem big_div {S : Sto} {i j : Int} (h0 : 0 < j) {k : Nat} (h : Bd k j) (hk : k ≤ 8990) : binE .fdiv (.int i) (.int j) S = .ok (.int (i / j)) S := by
  have hj : j.natAbs ≠ 0 := by omega
  have hl := (Nat.log2_lt hj (k := k)).mpr h
  have h1 : Builtin.divisionGoesByPylong i j = false := by
    unfold Builtin.divisionGoesByPylong
    have e : (j == 0) = false := by simp; omega
    simp only [e, Bool.false_eq_true, if_false]
    have : ¬ (j.natAbs.log2 / 30 + 1 > 300) := by omega
    simp [this]
  have h2 : divOk i j = true := by
    unfold divOk
    rw [h1]
    simp
    omega
  show (if divOk i j then Res.ok (D.int (i.fdiv j)) S else .no) = _
  rw [if_pos h2, Int.fdiv_eq_ediv_of_nonneg _ (by omega)]
theorem Bd.lt9000 {k : Nat} {i : Int} (h : Bd k i) (hk : k ≤ 9000) : i.natAbs < 2 ^ 9000 := h.mono hk
/-! fractions -/
def num : D → Int
  | .tup [.int x, .int _] => x
  | _ => 0
def den : D → Int
  | .tup [.int _, .int y] => y
  | _ => 1
structure Fb (k : Nat) (d : D) : Prop where
  eq : d = .tup [.int (num d), .int (den d)]
  bn : Bd k (num d)
  pos : 1 ≤ den d
  bd : Bd k (den d)
  red : Nat.gcd (num d).natAbs (den d).natAbs = 1
theorem Fb.mono {j k : Nat} {d : D} (h : Fb j d) (hk : j ≤ k) : Fb k d := ⟨h.eq, h.bn.mono hk, h.pos, h.bd.mono hk, h.red⟩
def frD (n m : Int) : D := .tup [.int (n / ((Nat.gcd n.natAbs m.natAbs : Nat) : Int)), .int (m / ((Nat.gcd n.natAbs m.natAbs : Nat) : Int))]
def v (d : D) : Rat := (num d : Rat) / (den d : Rat)
theorem frD_ex {n m : Int} (hm : 1 ≤ m) : ∃ g a b : Int, 1 ≤ g ∧ n = g * a ∧ m = g * b ∧ 1 ≤ b ∧ frD n m = .tup [.int a, .int b] ∧ Nat.gcd a.natAbs b.natAbs = 1 := by
  have g0 : 0 < Nat.gcd n.natAbs m.natAbs := Nat.gcd_pos_of_pos_right _ (by omega)
  obtain ⟨a, ha⟩ : ((Nat.gcd n.natAbs m.natAbs : Nat) : Int) ∣ n := Int.ofNat_dvd_left.mpr (Nat.gcd_dvd_left _ _)
  obtain ⟨b, hb⟩ : ((Nat.gcd n.natAbs m.natAbs : Nat) : Int) ∣ m := Int.ofNat_dvd_left.mpr (Nat.gcd_dvd_right _ _)
  have gi : (0 : Int) < ((Nat.gcd n.natAbs m.natAbs : Nat) : Int) := by omega
  have e1 : n / ((Nat.gcd n.natAbs m.natAbs : Nat) : Int) = a := by
    have := Int.mul_ediv_cancel_left a (Int.ne_of_gt gi)
    rw [← ha] at this
    exact this
  have e2 : m / ((Nat.gcd n.natAbs m.natAbs : Nat) : Int) = b := by
    have := Int.mul_ediv_cancel_left b (Int.ne_of_gt gi)
    rw [← hb] at this
    exact this
  have b1 : 1 ≤ b := by
    rcases (show 0 < b ∨ b ≤ 0 by omega) with h | h
    · omega
    · have := Int.mul_nonpos_of_nonneg_of_nonpos (Int.le_of_lt gi) h
      rw [← hb] at this
      omega
  have hr : Nat.gcd a.natAbs b.natAbs = 1 := by
    have q1 : n.natAbs = Nat.gcd n.natAbs m.natAbs * a.natAbs := by
      have := congrArg Int.natAbs ha
      rw [Int.natAbs_mul, Int.natAbs_natCast] at this
      exact this
    have q2 : m.natAbs = Nat.gcd n.natAbs m.natAbs * b.natAbs := by
      have := congrArg Int.natAbs hb
      rw [Int.natAbs_mul, Int.natAbs_natCast] at this
      exact this
    have q3 : Nat.gcd n.natAbs m.natAbs = Nat.gcd n.natAbs m.natAbs * Nat.gcd a.natAbs b.natAbs := by
      have : Nat.gcd (Nat.gcd n.natAbs m.natAbs * a.natAbs) (Nat.gcd n.natAbs m.natAbs * b.natAbs) = Nat.gcd n.natAbs m.natAbs * Nat.gcd a.natAbs b.natAbs := Nat.gcd_mul_left _ _ _
      rw [← q1, ← q2] at this
      exact this
    have : Nat.gcd n.natAbs m.natAbs * 1 = Nat.gcd n.natAbs m.natAbs * Nat.gcd a.natAbs b.natAbs := by omega
    exact (Nat.eq_of_mul_eq_mul_left g0 this).symm
  refine ⟨_, a, b, by omega, ha, hb, b1, ?_, hr⟩
  unfold frD
  rw [e1, e2]
theorem abs_mul_le {g a n : Int} (hg : 1 ≤ g) (h : n = g * a) : a.natAbs ≤ n.natAbs := by
  rw [h, Int.natAbs_mul]
  exact Nat.le_mul_of_pos_left _ (by omega)
structure FrB (n m : Int) (k : Nat) (x : Rat) : Prop where
  q : Fb k (frD n m)
  val : v (frD n m) = x
theorem frD_ok {n m : Int} {k : Nat} (hm : 1 ≤ m) (hn : Bd k n) (hB : Bd k m) : FrB n m k ((n : Rat) / (m : Rat)) := by
  obtain ⟨g, a, b, g1, ha, hb, b1, e, hr⟩ := frD_ex (n := n) hm
  have h1 := abs_mul_le g1 ha
  have h2 := abs_mul_le g1 hb
  have en : num (frD n m) = a := by rw [e]; rfl
  have ed : den (frD n m) = b := by rw [e]; rfl
  refine ⟨⟨?_, ?_, ?_, ?_, ?_⟩, ?_⟩
  · rw [en, ed, e]
  · rw [en]; exact hn.le h1
  · rw [ed]; exact b1
  · rw [ed]; exact hB.le h2
  · rw [en, ed]; exact hr
  · unfold v
    rw [en, ed, ha, hb, Rat.intCast_mul, Rat.intCast_mul]
    have g0 : (g : Rat) ≠ 0 := by
      intro h
      have : g = 0 := Rat.intCast_inj.mp (by simpa using h)
      omega
    have b0 : (b : Rat) ≠ 0 := by
      intro h
      have : b = 0 := Rat.intCast_inj.mp (by simpa using h)
      omega
    grind
theorem Fb.d0 {k : Nat} {d : D} (h : Fb k d) : (den d : Rat) ≠ 0 := by
  intro z
  have : den d = 0 := Rat.intCast_inj.mp (by simpa using z)
  have := h.pos
  omega
theorem v_add {a b : D} {j k : Nat} (ha : Fb j a) (hb : Fb k b) : FrB (num a * den b + num b * den a) (den a * den b) (j + k + 1) (v a + v b) := by
  have p := Int.mul_pos (show 0 < den a by have := ha.pos; omega) (show 0 < den b by have := hb.pos; omega)
  have h := frD_ok (n := num a * den b + num b * den a) (m := den a * den b) (k := j + k + 1) (by omega) ((ha.bn.mul hb.bd).add ((hb.bn.mul ha.bd).mono (by omega))) ((ha.bd.mul hb.bd).mono (by omega))
  refine ⟨h.q, h.val.trans ?_⟩
  have d1 := ha.d0
  have d2 := hb.d0
  unfold v
  rw [Rat.intCast_add, Rat.intCast_mul, Rat.intCast_mul, Rat.intCast_mul]
  grind
theorem v_by {a b : D} {j k : Nat} (ha : Fb j a) (hb : Fb k b) : FrB (num a * num b) (den a * den b) (j + k) (v a * v b) := by
  have p := Int.mul_pos (show 0 < den a by have := ha.pos; omega) (show 0 < den b by have := hb.pos; omega)
  have h := frD_ok (n := num a * num b) (m := den a * den b) (k := j + k) (by omega) (ha.bn.mul hb.bn) (ha.bd.mul hb.bd)
  refine ⟨h.q, h.val.trans ?_⟩
  have d1 := ha.d0
  have d2 := hb.d0
  unfold v
  rw [Rat.intCast_mul, Rat.intCast_mul]
  grind
theorem v_over {a b : D} {j k : Nat} (ha : Fb j a) (hb : Fb k b) (h0 : 0 < num b) : FrB (num a * den b) (den a * num b) (j + k) (v a / v b) := by
  have p := Int.mul_pos (show 0 < den a by have := ha.pos; omega) h0
  have h := frD_ok (n := num a * den b) (m := den a * num b) (k := j + k) (by omega) (ha.bn.mul hb.bd) (ha.bd.mul hb.bn)
  refine ⟨h.q, h.val.trans ?_⟩
  have d1 := ha.d0
  have d2 := hb.d0
  have n0 : (num b : Rat) ≠ 0 := by
    intro z
    have : num b = 0 := Rat.intCast_inj.mp (by simpa using z)
    omega
  unfold v
  rw [Rat.intCast_mul, Rat.intCast_mul]
  grind
def addD (a b : D) : D := frD (num a * den b + num b * den a) (den a * den b)
def byD (a b : D) : D := frD (num a * num b) (den a * den b)
def overD (a b : D) : D := frD (num a * den b) (den a * num b)
def fz : D := .tup [.int 0, .int 1]
theorem fz_fb : Fb 1 fz := ⟨rfl, show (0 : Int).natAbs < 2 ^ 1 by decide, Int.le_refl 1, show (1 : Int).natAbs < 2 ^ 1 by decide, rfl⟩
theorem rep_flat {x : D} : ∀ q : Nat, (List.replicate q [x]).flatten = List.replicate q x
  | 0 => rfl
  | q + 1 => by rw [List.replicate_succ, List.flatten_cons, rep_flat q]; rfl
theorem src_ref {S : Sto} {l : Nat} {xs : List D} (h : S[l]? = some (.lst xs)) : srcOf S (.ref l) = some (srcR l) := by
  show (match seqAt S l with
    | some _ => some (srcR l)
    | none => none) = _
  rw [seq_c h]
theorem srcR_of {S : Sto} {l i : Nat} {xs : List D} (h : S[l]? = some (.lst xs)) : srcR l i S = srcL xs i S := by
  unfold srcR
  rw [seq_c h]
end Mini
namespace Mini
open PySem
/-! rows of whole numbers -/
def coef (xs : List Int) (i : Nat) : Int := xs.getD i 0
theorem coef_nil {i : Nat} : coef [] i = 0 := by simp [coef]
theorem coef_0 {x : Int} {xs : List Int} : coef (x :: xs) 0 = x := rfl
theorem coef_s {x : Int} {xs : List Int} {i : Nat} : coef (x :: xs) (i + 1) = coef xs i := by simp [coef]
theorem coef_ge {xs : List Int} {i : Nat} (h : xs.length ≤ i) : coef xs i = 0 := by
  unfold coef
  rw [List.getD_eq_getElem?_getD, List.getElem?_eq_none h]; rfl
theorem coef_get {xs : List Int} {i : Nat} {x : Int} (h : xs[i]? = some x) : coef xs i = x := by
  unfold coef
  rw [List.getD_eq_getElem?_getD, h]; rfl
theorem coef_mem {xs : List Int} {i : Nat} (h : i < xs.length) : coef xs i ∈ xs := by
  unfold coef
  rw [List.getD_eq_getElem?_getD, List.getElem?_eq_getElem h]
  exact List.getElem_mem h
def trimZ : List Int → List Int
  | [] => []
  | x :: xs => if trimZ xs = [] ∧ x = 0 then [] else x :: trimZ xs
theorem coef_trim : ∀ {xs : List Int} {i : Nat}, coef (trimZ xs) i = coef xs i
  | [], i => rfl
  | x :: xs, i => by
    unfold trimZ
    split
    · rename_i h
      have ih := fun j => coef_trim (xs := xs) (i := j)
      rw [h.1] at ih
      cases i with
      | zero => rw [coef_nil, coef_0, h.2]
      | succ i => rw [coef_nil, coef_s, ← ih i, coef_nil]
    · cases i with
      | zero => rfl
      | succ i => rw [coef_s, coef_s, coef_trim]
def Nm (xs : List Int) : Prop := trimZ xs = xs
theorem trim_nm : ∀ {xs : List Int}, Nm (trimZ xs)
  | [] => rfl
  | x :: xs => by
    have ih := trim_nm (xs := xs)
    unfold Nm at *
    rw [show trimZ (x :: xs) = if trimZ xs = [] ∧ x = 0 then [] else x :: trimZ xs from rfl]
    split
    · rfl
    · rename_i h
      rw [show trimZ (x :: trimZ xs) = if trimZ (trimZ xs) = [] ∧ x = 0 then [] else x :: trimZ (trimZ xs) from rfl, ih, if_neg h]
theorem trim_nil {xs : List Int} (h : ∀ i, coef xs i = 0) : trimZ xs = [] := by
  induction xs with
  | nil => rfl
  | cons x xs ih =>
    have h0 := h 0
    rw [coef_0] at h0
    have hs : ∀ i, coef xs i = 0 := fun i => by
      have := h (i + 1)
      rwa [coef_s] at this
    unfold trimZ
    rw [if_pos ⟨ih hs, h0⟩]
theorem trim_ext : ∀ {xs ys : List Int}, (∀ i, coef xs i = coef ys i) → trimZ xs = trimZ ys
  | [], ys, h => by
    rw [trim_nil (xs := ys) fun i => by rw [← h i, coef_nil]]; rfl
  | x :: xs, [], h => by
    rw [trim_nil (xs := x :: xs) fun i => by rw [h i, coef_nil]]; rfl
  | x :: xs, y :: ys, h => by
    have h0 := h 0
    rw [coef_0, coef_0] at h0
    have := trim_ext (xs := xs) (ys := ys) fun i => by
      have := h (i + 1)
      rwa [coef_s, coef_s] at this
    unfold trimZ
    rw [this, h0]
theorem nm_ext {xs ys : List Int} (h1 : Nm xs) (h2 : Nm ys) (h : ∀ i, coef xs i = coef ys i) : xs = ys := by
  rw [← h1, ← h2]; exact trim_ext h
theorem nm_last : ∀ {xs : List Int}, Nm xs → xs ≠ [] → coef xs (xs.length - 1) ≠ 0
  | [], _, h => absurd rfl h
  | [x], h, _ => by
    intro z
    have z : x = 0 := z
    have h : (if trimZ [] = [] ∧ x = 0 then [] else x :: trimZ []) = [x] := h
    rw [if_pos ⟨rfl, z⟩] at h
    cases h
  | x :: y :: ys, h, _ => by
    have h' : Nm (y :: ys) := by
      have h : (if trimZ (y :: ys) = [] ∧ x = 0 then [] else x :: trimZ (y :: ys)) = x :: y :: ys := h
      split at h
      · cases h
      · injection h
    have := nm_last h' (by simp)
    simp only [List.length_cons, Nat.add_sub_cancel] at this ⊢
    rw [coef_s]
    exact this
/-- its length, if the greatest coefficient stands there -/
theorem nm_len {xs : List Int} {k : Nat} (h : Nm xs) (h1 : coef xs k ≠ 0) (h2 : ∀ i, k < i → coef xs i = 0) : xs.length = k + 1 := by
  have a : k < xs.length := Nat.lt_of_not_le fun z => h1 (coef_ge z)
  have hne : xs ≠ [] := fun e => by rw [e] at a; simp at a
  have l := nm_last h hne
  rcases Nat.lt_or_ge k (xs.length - 1) with q | q
  · exact absurd (h2 _ q) l
  · omega
theorem nm_of {xs : List Int} (h : xs = [] ∨ coef xs (xs.length - 1) ≠ 0) : Nm xs := by
  rcases h with rfl | h
  · rfl
  · have : xs ≠ [] := fun e => by rw [e] at h; simp [coef] at h
    have e := trim_nm (xs := xs)
    have l : (trimZ xs).length = xs.length := by
      have := nm_len (k := xs.length - 1) e (by rw [coef_trim]; exact h) fun i hi => by
        rw [coef_trim]; exact coef_ge (by omega)
      have : 0 < xs.length := by cases xs <;> simp_all
      omega
    refine List.ext_getElem? fun i => ?_
    by_cases hi : i < xs.length
    · have c := coef_trim (xs := xs) (i := i)
      rw [List.getElem?_eq_getElem hi, List.getElem?_eq_getElem (by omega)]
      congr 1
      have c1 := coef_get (List.getElem?_eq_getElem (show i < (trimZ xs).length by omega))
      have c2 := coef_get (List.getElem?_eq_getElem hi)
      omega
    · rw [List.getElem?_eq_none (by omega), List.getElem?_eq_none (by omega)]
theorem trim_mem : ∀ {xs : List Int} {x : Int}, x ∈ trimZ xs → x ∈ xs
  | [], _, h => h
  | y :: ys, x, h => by
    unfold trimZ at h
    split at h
    · cases h
    · rcases List.mem_cons.mp h with rfl | h
      · exact List.mem_cons_self
      · exact List.mem_cons_of_mem _ (trim_mem h)
theorem trim_len : ∀ {xs : List Int}, (trimZ xs).length ≤ xs.length
  | [] => Nat.le_refl _
  | y :: ys => by
    unfold trimZ
    split
    · exact Nat.zero_le _
    · exact Nat.succ_le_succ trim_len
/-! the greatest common divisor of a row -/
def gL (xs : List Int) : Nat := xs.foldl (fun g x => Nat.gcd g x.natAbs) 0
theorem gL_go : ∀ (xs : List Int) (g : Nat), xs.foldl (fun g x => Nat.gcd g x.natAbs) g = Nat.gcd g (gL xs)
  | [], g => by
    show g = Nat.gcd g 0
    rw [Nat.gcd_zero_right]
  | x :: xs, g => by
    rw [List.foldl_cons, gL_go xs]
    show _ = Nat.gcd g (xs.foldl _ (Nat.gcd 0 x.natAbs))
    rw [gL_go xs, Nat.gcd_zero_left, Nat.gcd_assoc]
theorem gL_cons {x : Int} {xs : List Int} : gL (x :: xs) = Nat.gcd x.natAbs (gL xs) := by
  show xs.foldl _ (Nat.gcd 0 x.natAbs) = _
  rw [gL_go, Nat.gcd_zero_left]
theorem gL_mul {c : Int} : ∀ {xs : List Int}, gL (xs.map (· * c)) = gL xs * c.natAbs
  | [] => by simp [gL]
  | x :: xs => by
    rw [List.map_cons, gL_cons, gL_cons, gL_mul, Int.natAbs_mul, Nat.gcd_mul_right]
theorem gL_trim : ∀ {xs : List Int}, gL (trimZ xs) = gL xs
  | [] => rfl
  | x :: xs => by
    have ih := gL_trim (xs := xs)
    rw [gL_cons]
    unfold trimZ
    split
    · rename_i h
      rw [h.1] at ih
      rw [← ih, h.2]; rfl
    · rw [gL_cons, ih]
theorem gL_dvd : ∀ {xs : List Int} {x : Int}, x ∈ xs → ((gL xs : Nat) : Int) ∣ x
  | y :: ys, x, h => by
    rw [gL_cons]
    rcases List.mem_cons.mp h with rfl | h
    · exact Int.ofNat_dvd_left.mpr (Nat.gcd_dvd_left _ _)
    · exact Int.dvd_trans (Int.ofNat_dvd.mpr (Nat.gcd_dvd_right _ _)) (gL_dvd h)
theorem gL_coef {xs : List Int} (i : Nat) : ((gL xs : Nat) : Int) ∣ coef xs i := by
  by_cases h : i < xs.length
  · exact gL_dvd (coef_mem h)
  · rw [coef_ge (by omega)]; exact Int.dvd_zero _
theorem gL_pos {xs : List Int} {i : Nat} (h : coef xs i ≠ 0) : 0 < gL xs := by
  rcases Nat.eq_zero_or_pos (gL xs) with z | z
  · have := gL_coef (xs := xs) i
    rw [z] at this
    exact absurd (Int.zero_dvd.mp this) h
  · exact z
theorem gL_app {xs ys : List Int} : gL (xs ++ ys) = Nat.gcd (gL xs) (gL ys) := by
  unfold gL
  rw [List.foldl_append, gL_go]
  rfl
theorem coef_map {xs : List Int} {f : Int → Int} (h0 : f 0 = 0) {i : Nat} : coef (xs.map f) i = f (coef xs i) := by
  unfold coef
  rw [List.getD_eq_getElem?_getD, List.getD_eq_getElem?_getD, List.getElem?_map]
  cases xs[i]? with
  | none => exact h0.symm
  | some x => rfl
/-- primitive parts of rows that are one row times numbers are one -/
theorem prim_eq {a w : List Int} {p q : Int} (hp : 0 < p) (hq : 0 < q) (ha : 0 < gL a) (h : ∀ i, coef a i * q = coef w i * p) (i : Nat) : coef a i / ((gL a : Nat) : Int) = coef w i / ((gL w : Nat) : Int) := by
  have e : trimZ (a.map (· * q)) = trimZ (w.map (· * p)) := trim_ext fun i => by
    rw [coef_map (f := (· * q)) (by simp), coef_map (f := (· * p)) (by simp)]
    exact h i
  have g : gL a * q.natAbs = gL w * p.natAbs := by
    have := congrArg gL e
    rw [gL_trim, gL_trim, gL_mul, gL_mul] at this
    exact this
  have gi : ((gL a : Nat) : Int) * q = ((gL w : Nat) : Int) * p := by
    have := congrArg (fun n : Nat => (n : Int)) g
    simp only [Int.natCast_mul] at this
    rw [Int.natAbs_of_nonneg (by omega), Int.natAbs_of_nonneg (by omega)] at this
    exact this
  have A : (0 : Int) < ((gL a : Nat) : Int) := by omega
  have W : (0 : Int) < ((gL w : Nat) : Int) := by
    rcases Nat.eq_zero_or_pos (gL w) with z | z
    · rw [z] at gi
      have := Int.mul_pos A hq
      omega
    · omega
  obtain ⟨x, hx⟩ := gL_coef (xs := a) i
  obtain ⟨y, hy⟩ := gL_coef (xs := w) i
  have hi := h i
  rw [hx, hy]
  rw [Int.mul_ediv_cancel_left _ (Int.ne_of_gt A), Int.mul_ediv_cancel_left _ (Int.ne_of_gt W)]
  rw [hx, hy] at hi
  have k : ((gL w : Nat) : Int) * p * x = ((gL w : Nat) : Int) * p * y := by
    rw [← gi]
    grind
  exact Int.eq_of_mul_eq_mul_left (Int.ne_of_gt (Int.mul_pos W hp)) k
/-- the primitive row of a row of fractions -/
structure Prim (p : List Int) (R : Nat → Rat) : Prop where
  nm : Nm p
  g1 : gL p = 1
  sc : ∃ l : Rat, 0 < l ∧ ∀ i, (coef p i : Rat) = l * R i
theorem rat_pq {r : Rat} (h : 0 < r) : ∃ p q : Int, 0 < p ∧ 0 < q ∧ r = (p : Rat) / (q : Rat) := by
  refine ⟨r.num, (r.den : Int), ?_, ?_, ?_⟩
  · have a := Rat.num_nonneg.mpr (Rat.le_of_lt h)
    have b : r.num ≠ 0 := fun z => by
      rw [Rat.num_eq_zero.mp z] at h
      exact absurd h (by decide)
    omega
  · have := r.den_pos
    omega
  · have e := Rat.num_divInt_den r
    rw [Rat.divInt_eq_div] at e
    exact e.symm
theorem div_pos {a b : Rat} (ha : 0 < a) (hb : 0 < b) : 0 < a / b := by
  rw [Rat.div_def]
  exact Rat.mul_pos ha (Rat.inv_pos.mpr hb)
theorem Prim.uniq {p p' : List Int} {R : Nat → Rat} (h : Prim p R) (h' : Prim p' R) : p = p' := by
  obtain ⟨l, l0, hl⟩ := h.sc
  obtain ⟨m, m0, hm⟩ := h'.sc
  obtain ⟨a, b, a0, b0, hr⟩ := rat_pq (r := l / m) (div_pos l0 m0)
  refine nm_ext h.nm h'.nm fun i => ?_
  have := prim_eq (a := p) (w := p') a0 b0 (by rw [h.g1]; decide) (fun i => ?_) i
  · rw [h.g1, h'.g1] at this
    simpa using this
  · apply Rat.intCast_inj.mp
    rw [Rat.intCast_mul, Rat.intCast_mul, hl, hm]
    have mz : m ≠ 0 := fun z => by rw [z] at m0; exact absurd m0 (by decide)
    have bz : (b : Rat) ≠ 0 := by
      intro z
      have : b = 0 := Rat.intCast_inj.mp (by simpa using z)
      omega
    have e : l * b = m * a := by
      have : l / m * m * b = a / b * b * m := by rw [hr]; grind
      grind
    grind
end Mini
namespace Mini
open PySem
/-! the run of a line, plainly -/
def shR (f : Nat → Rat) : Nat → Rat
  | 0 => 0
  | i + 1 => f i
/-- twist and angle -/
def TA (m c : Nat → Rat) : Nat → (Nat → Rat) × (Nat → Rat)
  | 0 => (fun i => if i = 0 then c 0 else 0, fun i => if i = 0 then 1 else 0)
  | k + 1 => (fun i => (TA m c k).1 i - m k * shR (TA m c k).2 i, fun i => (TA m c k).2 i + ((TA m c k).1 i - m k * shR (TA m c k).2 i) / c (k + 1))
def En (m c : Nat → Rat) (k : Nat) (i : Nat) : Rat := (TA m c k).2 i * c (k + 1) + (TA m c (k + 1)).1 i
def sg (k : Nat) : Rat := if k % 2 = 0 then 1 else -1
theorem sg_s {k : Nat} : sg (k + 1) = - sg k := by
  unfold sg
  by_cases h : k % 2 = 0
  · rw [if_pos h, if_neg (by omega)]
  · rw [if_neg h, if_pos (by omega)]
    grind
structure Facts (m c : Nat → Rat) (k : Nat) : Prop where
  s1 : ∀ i, k < i → (TA m c k).1 i = 0
  s2 : ∀ i, k < i → (TA m c k).2 i = 0
  lead : ∃ r : Rat, 0 < r ∧ (TA m c k).2 k = sg k * r
  con : 0 < (TA m c k).2 0
  tw : (TA m c k).1 0 = c 0
theorem facts {m c : Nat → Rat} {n : Nat} (hm : ∀ k, k < n → 0 < m k) (hc : ∀ k, 0 < k → k < n → 0 < c k) (h0 : 0 ≤ c 0) : ∀ k, k < n → Facts m c k
  | 0, _ => by
    refine ⟨fun i hi => ?_, fun i hi => ?_, ⟨1, by decide, ?_⟩, ?_, ?_⟩
    · show (if i = 0 then c 0 else 0) = 0
      rw [if_neg (by omega)]
    · show (if i = 0 then (1 : Rat) else 0) = 0
      rw [if_neg (by omega)]
    · show (if 0 = 0 then (1 : Rat) else 0) = sg 0 * 1
      rw [if_pos rfl]
      unfold sg
      rw [if_pos rfl]; grind
    · show 0 < (if 0 = 0 then (1 : Rat) else 0)
      rw [if_pos rfl]; decide
    · show (if 0 = 0 then c 0 else 0) = c 0
      rw [if_pos rfl]
  | k + 1, hk => by
    obtain ⟨s1, s2, ⟨r, r0, hr⟩, con, tw⟩ := facts hm hc h0 k (by omega)
    have t1 : ∀ i, (TA m c (k + 1)).1 i = (TA m c k).1 i - m k * shR (TA m c k).2 i := fun _ => rfl
    have t2 : ∀ i, (TA m c (k + 1)).2 i = (TA m c k).2 i + (TA m c (k + 1)).1 i / c (k + 1) := fun _ => rfl
    have mk := hm k (by omega)
    have ck := hc (k + 1) (by omega) hk
    have z1 : ∀ i, k + 1 < i → (TA m c (k + 1)).1 i = 0 := fun i hi => by
      rw [t1, s1 i (by omega)]
      cases i with
      | zero => omega
      | succ i =>
        show 0 - m k * (TA m c k).2 i = 0
        rw [s2 i (by omega)]; grind
    have tw' : (TA m c (k + 1)).1 0 = c 0 := by
      rw [t1, tw]
      show c 0 - m k * 0 = c 0
      grind
    refine ⟨z1, fun i hi => ?_, ⟨m k * r / c (k + 1), div_pos (Rat.mul_pos mk r0) ck, ?_⟩, ?_, tw'⟩
    · rw [t2, z1 i hi, s2 i (by omega)]; grind
    · rw [t2, s2 (k + 1) (by omega), t1, s1 (k + 1) (by omega)]
      show 0 + (0 - m k * (TA m c k).2 k) / c (k + 1) = _
      rw [hr, sg_s]; grind
    · rw [t2, tw']
      have : 0 ≤ c 0 / c (k + 1) := by
        rw [Rat.div_def]
        exact Rat.mul_nonneg h0 (Rat.le_of_lt (Rat.inv_pos.mpr ck))
      grind
theorem En_lead {m c : Nat → Rat} {n k : Nat} (hm : ∀ k, k < n → 0 < m k) (hc : ∀ k, 0 < k → k < n → 0 < c k) (h0 : 0 ≤ c 0) (hk : k < n) : (∃ r : Rat, 0 < r ∧ En m c k (k + 1) = sg (k + 1) * r) ∧ ∀ i, k + 1 < i → En m c k i = 0 := by
  obtain ⟨s1, s2, ⟨r, r0, hr⟩, con, tw⟩ := facts hm hc h0 k hk
  have t1 : ∀ i, (TA m c (k + 1)).1 i = (TA m c k).1 i - m k * shR (TA m c k).2 i := fun _ => rfl
  refine ⟨⟨m k * r, Rat.mul_pos (hm k hk) r0, ?_⟩, fun i hi => ?_⟩
  · unfold En
    rw [t1, s1 (k + 1) (by omega), s2 (k + 1) (by omega)]
    show 0 * c (k + 1) + (0 - m k * (TA m c k).2 k) = _
    rw [hr, sg_s]; grind
  · unfold En
    rw [t1, s1 i (by omega), s2 i (by omega)]
    cases i with
    | zero => omega
    | succ i =>
      show 0 * c (k + 1) + (0 - m k * (TA m c k).2 i) = 0
      rw [s2 i (by omega)]; grind
theorem En_con {m c : Nat → Rat} {n k : Nat} (hm : ∀ k, k < n → 0 < m k) (hc : ∀ k, 0 < k → k < n → 0 < c k) (h0 : 0 ≤ c 0) (hk : k < n) : En m c k 0 = (TA m c k).2 0 * c (k + 1) + c 0 := by
  obtain ⟨s1, s2, ⟨r, r0, hr⟩, con, tw⟩ := facts hm hc h0 k hk
  unfold En
  have t1 : (TA m c (k + 1)).1 0 = (TA m c k).1 0 - m k * 0 := rfl
  rw [t1, tw]; grind
/-- all numbers times one -/
theorem TA_times {m c m' c' : Nat → Rat} {x : Rat} {n : Nat} (hx : x ≠ 0) (hm : ∀ k, m' k = x * m k) (hc : ∀ k, c' k = x * c k) : ∀ k i, (TA m' c' k).1 i = x * (TA m c k).1 i ∧ (TA m' c' k).2 i = (TA m c k).2 i
  | 0, i => by
    refine ⟨?_, rfl⟩
    show (if i = 0 then c' 0 else 0) = x * (if i = 0 then c 0 else 0)
    split
    · exact hc 0
    · grind
  | k + 1, i => by
    have ih := TA_times hx hm hc (n := n) k
    have a1 : (TA m' c' (k + 1)).1 i = (TA m' c' k).1 i - m' k * shR (TA m' c' k).2 i := rfl
    have a2 : (TA m c (k + 1)).1 i = (TA m c k).1 i - m k * shR (TA m c k).2 i := rfl
    have b1 : (TA m' c' (k + 1)).2 i = (TA m' c' k).2 i + (TA m' c' (k + 1)).1 i / c' (k + 1) := rfl
    have b2 : (TA m c (k + 1)).2 i = (TA m c k).2 i + (TA m c (k + 1)).1 i / c (k + 1) := rfl
    have sh : shR (TA m' c' k).2 i = shR (TA m c k).2 i := by
      cases i with
      | zero => rfl
      | succ i => exact (ih i).2
    have e1 : (TA m' c' (k + 1)).1 i = x * (TA m c (k + 1)).1 i := by
      rw [a1, a2, sh, (ih i).1, hm]; grind
    refine ⟨e1, ?_⟩
    rw [b1, b2, e1, (ih i).2, hc]
    by_cases z : c (k + 1) = 0
    · rw [z]; grind
    · grind
theorem En_times {m c m' c' : Nat → Rat} {x : Rat} (hx : x ≠ 0) (hm : ∀ k, m' k = x * m k) (hc : ∀ k, c' k = x * c k) (k i : Nat) : En m' c' k i = x * En m c k i := by
  unfold En
  rw [(TA_times (n := 0) hx hm hc (k + 1) i).1, (TA_times (n := 0) hx hm hc k i).2, hc]; grind
/-! how often the row turns its sign: a height that grows with the pace -/
abbrev Hg := Nat × Option Rat
def leO : Option Rat → Option Rat → Prop
  | none, _ => True
  | some _, none => False
  | some a, some b => a ≤ b
/-- the second one is at least as far -/
def ah (s t : Hg) : Prop := s.1 < t.1 ∨ (s.1 = t.1 ∧ leO t.2 s.2)
def dS (q : Rat) (s : Hg) : Hg := (s.1, s.2.map (· - q))
def hS (c : Rat) (s : Hg) : Hg := match s.2 with
  | none => (s.1 + 1, some c)
  | some r => if 0 < c + r then (s.1, some (c - c * c / (c + r))) else if c + r = 0 then (s.1, none) else (s.1 + 1, some (c - c * c / (c + r)))
def eS (c : Rat) (s : Hg) : Nat := match s.2 with
  | none => s.1 + 1
  | some r => if 0 ≤ c + r then s.1 else s.1 + 1
theorem ah_d {s t : Hg} {q p : Rat} (h : ah s t) (hq : q ≤ p) : ah (dS q s) (dS p t) := by
  rcases h with h | ⟨h1, h2⟩
  · exact .inl h
  · refine .inr ⟨h1, ?_⟩
    obtain ⟨n, a⟩ := s
    obtain ⟨k, b⟩ := t
    cases a with
    | none => cases b with
      | none => exact True.intro
      | some b => exact h2.elim
    | some a => cases b with
      | none => exact True.intro
      | some b =>
        have h2 : b ≤ a := h2
        show b - p ≤ a - q
        grind
theorem div_mono {k z y : Rat} (hk : 0 < k) (hz : 0 < z) (h : z ≤ y) : k / y ≤ k / z := by
  have hy : 0 < y := by grind
  have e1 : k / y * y = k := by grind
  have e2 : k / z * z = k := by grind
  have p1 : 0 < k / y := by
    rw [Rat.div_def]; exact Rat.mul_pos hk (Rat.inv_pos.mpr hy)
  rcases (Rat.le_total : k / y ≤ k / z ∨ k / z ≤ k / y) with q | q
  · exact q
  · by_cases hlt : k / z = k / y
    · rw [hlt]; exact Rat.le_refl
    · exfalso
      have m1 : k / y * z ≤ k / y * y := Rat.mul_le_mul_of_nonneg_left h (Rat.le_of_lt p1)
      have m2 : k / z * z < k / y * z := Rat.mul_lt_mul_of_pos_right (by grind) hz
      grind
theorem div_neg' {k z y : Rat} (hk : 0 < k) (hy : y < 0) (h : z ≤ y) : k / y ≤ k / z := by
  have := div_mono (z := -y) (y := -z) hk (by grind) (by grind)
  have e1 : k / (-z) = - (k / z) := by
    have : z ≠ 0 := by grind
    grind
  have e2 : k / (-y) = - (k / y) := by
    have : y ≠ 0 := by grind
    grind
  rw [e1, e2] at this
  grind
theorem div_p {k z : Rat} (hk : 0 < k) (hz : 0 < z) : 0 < k / z := by
  rw [Rat.div_def]; exact Rat.mul_pos hk (Rat.inv_pos.mpr hz)
theorem div_n {k z : Rat} (hk : 0 < k) (hz : z < 0) : k / z < 0 := by
  have := div_p (z := -z) hk (by grind)
  have e1 : k / (-z) = - (k / z) := by
    have : z ≠ 0 := by grind
    grind
  grind
theorem hS_cases {c : Rat} {s : Hg} (hc : 0 < c) : ((hS c s).1 = s.1 ∧ ((hS c s).2 = none ∨ ∃ r, (hS c s).2 = some r ∧ r < c)) ∨ ((hS c s).1 = s.1 + 1 ∧ ∃ r, (hS c s).2 = some r ∧ c ≤ r) := by
  obtain ⟨n, a⟩ := s
  have cc : 0 < c * c := Rat.mul_pos hc hc
  cases a with
  | none => exact .inr ⟨rfl, c, rfl, Rat.le_refl⟩
  | some r =>
    unfold hS
    by_cases h1 : 0 < c + r
    · simp only [h1, if_true]
      refine .inl ⟨trivial, .inr ⟨_, rfl, ?_⟩⟩
      have := div_p cc h1
      grind
    · by_cases h2 : c + r = 0
      · simp only [h2, if_true, Rat.lt_irrefl, if_false]
        exact .inl ⟨trivial, .inl trivial⟩
      · simp only [h1, h2, if_false]
        refine .inr ⟨trivial, _, rfl, ?_⟩
        have := div_n cc (show c + r < 0 by grind)
        grind
theorem ah_h {s t : Hg} {c : Rat} (hc : 0 < c) (h : ah s t) : ah (hS c s) (hS c t) := by
  have cc : 0 < c * c := Rat.mul_pos hc hc
  rcases h with h | ⟨h1, h2⟩
  · rcases hS_cases (s := s) hc with ⟨a1, _⟩ | ⟨a1, r, a2, a3⟩
    · rcases hS_cases (s := t) hc with ⟨b1, _⟩ | ⟨b1, _⟩
      · left; omega
      · left; omega
    · rcases hS_cases (s := t) hc with ⟨b1, b2⟩ | ⟨b1, _⟩
      · by_cases e : s.1 + 1 = t.1
        · right
          refine ⟨by omega, ?_⟩
          rw [a2]
          rcases b2 with b2 | ⟨q, b2, b3⟩
          · rw [b2]; exact True.intro
          · rw [b2]
            show q ≤ r
            grind
        · left; omega
      · left; omega
  · obtain ⟨n, a⟩ := s
    obtain ⟨k, b⟩ := t
    have h1 : n = k := h1
    subst h1
    cases a with
    | none => cases b with
      | none => exact .inr ⟨rfl, Rat.le_refl⟩
      | some b => exact h2.elim
    | some a => cases b with
      | none =>
        rcases hS_cases (s := (n, some a)) hc with ⟨a1, _⟩ | ⟨a1, r, a2, a3⟩
        · left
          show (hS c (n, some a)).1 < n + 1
          rw [a1]; exact Nat.lt_succ_self _
        · right
          refine ⟨a1, ?_⟩
          rw [a2]; exact a3
      | some b =>
        have h2 : b ≤ a := h2
        unfold hS
        by_cases p1 : 0 < c + b
        · have p2 : 0 < c + a := by grind
          simp only [p1, p2, if_true]
          refine .inr ⟨rfl, ?_⟩
          show c - c * c / (c + b) ≤ c - c * c / (c + a)
          have := div_mono cc p1 (show c + b ≤ c + a by grind)
          grind
        · by_cases z1 : c + b = 0
          · simp only [z1, Rat.lt_irrefl, if_false, if_true]
            by_cases p2 : 0 < c + a
            · simp only [p2, if_true]; exact .inr ⟨rfl, True.intro⟩
            · have z2 : c + a = 0 := by grind
              simp only [z2, Rat.lt_irrefl, if_false, if_true]; exact .inr ⟨rfl, True.intro⟩
          · simp only [p1, z1, if_false]
            by_cases p2 : 0 < c + a
            · simp only [p2, if_true]; exact .inl (Nat.lt_succ_self _)
            · by_cases z2 : c + a = 0
              · simp only [z2, Rat.lt_irrefl, if_false, if_true]; exact .inl (Nat.lt_succ_self _)
              · simp only [p2, z2, if_false]
                refine .inr ⟨rfl, ?_⟩
                show c - c * c / (c + b) ≤ c - c * c / (c + a)
                have := div_neg' cc (show c + a < 0 by grind) (show c + b ≤ c + a by grind)
                grind
theorem ah_e {s t : Hg} {c : Rat} (h : ah s t) : eS c s ≤ eS c t := by
  obtain ⟨n, a⟩ := s
  obtain ⟨k, b⟩ := t
  have le1 : ∀ n (a : Option Rat), n ≤ eS c (n, a) ∧ eS c (n, a) ≤ n + 1 := fun n a => by
    unfold eS
    cases a with
    | none => exact ⟨Nat.le_succ _, Nat.le_refl _⟩
    | some a =>
      show n ≤ (if 0 ≤ c + a then n else n + 1) ∧ (if 0 ≤ c + a then n else n + 1) ≤ n + 1
      split <;> omega
  rcases h with h | ⟨h1, h2⟩
  · have a1 := (le1 n a).2
    have a2 := (le1 k b).1
    have h : n < k := h
    omega
  · have h1 : n = k := h1
    subst h1
    cases b with
    | none => exact (le1 n a).2
    | some b => cases a with
      | none => exact h2.elim
      | some a =>
        have h2 : b ≤ a := h2
        show (if 0 ≤ c + a then n else n + 1) ≤ (if 0 ≤ c + b then n else n + 1)
        by_cases p : 0 ≤ c + b
        · rw [if_pos p, if_pos (by grind)]; exact Nat.le_refl _
        · rw [if_neg p]
          split <;> omega
/-- the height before disc k -/
def hgt (m c : Nat → Rat) (x : Rat) : Nat → Hg
  | 0 => (0, some (c 0))
  | k + 1 => hS (c (k + 1)) (dS (x * m k) (hgt m c x k))
/-- the number of slower swings of a line of k + 1 discs -/
def cnt (m c : Nat → Rat) (x : Rat) (k : Nat) : Nat := eS (c (k + 1)) (dS (x * m k) (hgt m c x k))
theorem hgt_mono {m c : Nat → Rat} {n : Nat} {x y : Rat} (hm : ∀ k, k < n → 0 < m k) (hc : ∀ k, 0 < k → k < n → 0 < c k) (hxy : x ≤ y) : ∀ k, k < n → ah (hgt m c x k) (hgt m c y k)
  | 0, _ => .inr ⟨rfl, Rat.le_refl⟩
  | k + 1, hk => ah_h (hc _ (by omega) hk) (ah_d (hgt_mono hm hc hxy k (by omega)) (Rat.mul_le_mul_of_nonneg_right hxy (Rat.le_of_lt (hm k (by omega)))))
theorem cnt_mono {m c : Nat → Rat} {n k : Nat} {x y : Rat} (hm : ∀ k, k < n → 0 < m k) (hc : ∀ k, 0 < k → k < n → 0 < c k) (hk : k < n) (hxy : x ≤ y) : cnt m c x k ≤ cnt m c y k :=
  ah_e (ah_d (hgt_mono hm hc hxy k hk) (Rat.mul_le_mul_of_nonneg_right hxy (Rat.le_of_lt (hm k hk))))
theorem hgt_zero {m c : Nat → Rat} {n : Nat} (hc : ∀ k, 0 < k → k < n → 0 < c k) (h0 : 0 ≤ c 0) : ∀ k, k < n → ∃ r, 0 ≤ r ∧ hgt m c 0 k = (0, some r)
  | 0, _ => ⟨c 0, h0, rfl⟩
  | k + 1, hk => by
    obtain ⟨r, r0, hr⟩ := hgt_zero hc h0 k (by omega)
    have ck := hc (k + 1) (by omega) hk
    have e : dS (0 * m k) (hgt m c 0 k) = (0, some r) := by
      rw [hr]
      show (0, some (r - 0 * m k)) = _
      rw [Rat.zero_mul]
      congr 2
      grind
    have p : 0 < c (k + 1) + r := by grind
    refine ⟨c (k + 1) - c (k + 1) * c (k + 1) / (c (k + 1) + r), ?_, ?_⟩
    · have q := div_mono (k := c (k + 1) * c (k + 1)) (z := c (k + 1)) (y := c (k + 1) + r) (Rat.mul_pos ck ck) ck (by grind)
      have : c (k + 1) * c (k + 1) / c (k + 1) = c (k + 1) := by
        have : c (k + 1) ≠ 0 := by grind
        grind
      grind
    · show hS (c (k + 1)) (dS (0 * m k) (hgt m c 0 k)) = _
      rw [e]
      show (if 0 < c (k + 1) + r then _ else _) = _
      rw [if_pos p]
theorem cnt_zero {m c : Nat → Rat} {n k : Nat} (hc : ∀ k, 0 < k → k < n → 0 < c k) (h0 : 0 ≤ c 0) (hk : k < n) (hn : 0 ≤ c (k + 1)) : cnt m c 0 k = 0 := by
  obtain ⟨r, r0, hr⟩ := hgt_zero (m := m) hc h0 k hk
  unfold cnt
  rw [hr]
  show (if 0 ≤ c (k + 1) + (r - 0 * m k) then 0 else 0 + 1) = 0
  rw [if_pos (by rw [Rat.zero_mul]; grind)]
/-- far out all of them -/
theorem hgt_far {m c : Nat → Rat} {n : Nat} {x : Rat} (hm : ∀ k, k < n → 0 < m k) (hc : ∀ k, 0 < k → k < n → 0 < c k) (h0 : 0 ≤ c 0) (hx : ∀ k, k < n → 2 * (c k + c (k + 1)) < x * m k) (hcn : ∀ k, k < n + 1 → 0 ≤ c k) : ∀ k, k < n → ∃ r, r ≤ 2 * c k ∧ hgt m c x k = (k, some r)
  | 0, _ => ⟨c 0, by grind, rfl⟩
  | k + 1, hk => by
    obtain ⟨r, r0, hr⟩ := hgt_far hm hc h0 hx hcn k (by omega)
    have ck := hc (k + 1) (by omega) hk
    have b := hx k (by omega)
    have cc := Rat.mul_pos ck ck
    have ck0 := hcn k (by omega)
    have z : c (k + 1) + (r - x * m k) < -c (k + 1) := by grind
    refine ⟨c (k + 1) - c (k + 1) * c (k + 1) / (c (k + 1) + (r - x * m k)), ?_, ?_⟩
    · have q := div_neg' (k := c (k + 1) * c (k + 1)) (y := -c (k + 1)) (z := c (k + 1) + (r - x * m k)) cc (by grind) (by grind)
      have : c (k + 1) * c (k + 1) / (-c (k + 1)) = -c (k + 1) := by
        have : c (k + 1) ≠ 0 := by grind
        grind
      grind
    · show hS (c (k + 1)) (dS (x * m k) (hgt m c x k)) = _
      rw [hr]
      show (if 0 < c (k + 1) + (r - x * m k) then _ else if c (k + 1) + (r - x * m k) = 0 then _ else _) = _
      rw [if_neg (by grind), if_neg (by grind)]
      rfl
theorem cnt_far {m c : Nat → Rat} {n k : Nat} {x : Rat} (hm : ∀ k, k < n → 0 < m k) (hc : ∀ k, 0 < k → k < n → 0 < c k) (h0 : 0 ≤ c 0) (hx : ∀ k, k < n → 2 * (c k + c (k + 1)) < x * m k) (hcn : ∀ k, k < n + 1 → 0 ≤ c k) (hk : k < n) : cnt m c x k = k + 1 := by
  obtain ⟨r, r0, hr⟩ := hgt_far hm hc h0 hx hcn k hk
  have b := hx k hk
  have c1 := hcn k (by omega)
  have c2 := hcn (k + 1) (by omega)
  unfold cnt
  rw [hr]
  show (if 0 ≤ c (k + 1) + (r - x * m k) then k else k + 1) = k + 1
  rw [if_neg (by grind)]
/-- twist and angle at a pace -/
def ta (m c : Nat → Rat) (x : Rat) : Nat → Rat × Rat
  | 0 => (c 0, 1)
  | k + 1 => ((ta m c x k).1 - x * m k * (ta m c x k).2, (ta m c x k).2 + ((ta m c x k).1 - x * m k * (ta m c x k).2) / c (k + 1))
def en (m c : Nat → Rat) (x : Rat) (k : Nat) : Rat := (ta m c x k).2 * c (k + 1) + ((ta m c x k).1 - x * m k * (ta m c x k).2)
/-- one more number: how often the sign has turned, and the last sign -/
def stR (s : Nat × Bool) (a : Rat) : Nat × Bool := if a = 0 then s else if decide (0 < a) = s.2 then s else (s.1 + 1, !s.2)
def la (m c : Nat → Rat) (x : Rat) (k : Nat) : List Rat := (List.range (k + 1)).map fun i => (ta m c x i).2
theorem la_s {m c : Nat → Rat} {x : Rat} {k : Nat} : la m c x (k + 1) = la m c x k ++ [(ta m c x (k + 1)).2] := by
  unfold la
  rw [List.range_succ (n := k + 1), List.map_append]; rfl
theorem pr_pos {a b : Rat} (h : 0 < b) : (0 < a * b ↔ 0 < a) := by
  constructor
  · intro h1
    rcases (Rat.le_total : a ≤ 0 ∨ 0 ≤ a) with q | q
    · have := Rat.mul_le_mul_of_nonneg_right q (Rat.le_of_lt h)
      rw [Rat.zero_mul] at this
      grind
    · by_cases z : a = 0
      · rw [z, Rat.zero_mul] at h1; exact absurd h1 Rat.lt_irrefl
      · grind
  · exact fun h1 => Rat.mul_pos h1 h
theorem pr_neg {a b : Rat} (h : b < 0) : (0 < a * b ↔ a < 0) := by
  have := pr_pos (a := -a) (b := -b) (by grind)
  have e : -a * -b = a * b := by grind
  rw [e] at this
  rw [this]
  constructor <;> intro h <;> grind
/-- what the height tells of the row -/
structure Hk (m c : Nat → Rat) (x : Rat) (k : Nat) (s : Bool) : Prop where
  fold : (la m c x k).foldl stR (0, true) = ((hgt m c x k).1, s)
  nz : (ta m c x k).2 ≠ 0 → (decide (0 < (ta m c x k).2) = s) ∧ (hgt m c x k).2 = some ((ta m c x k).1 / (ta m c x k).2)
  z : (ta m c x k).2 = 0 → (hgt m c x k).2 = none ∧ (ta m c x k).1 ≠ 0 ∧ decide (0 < (ta m c x k).1) = !s
theorem Hk.of {m c : Nat → Rat} {x : Rat} {k N : Nat} {s : Bool} {r : Option Rat} {T a : Rat} (fold : (la m c x k).foldl stR (0, true) = (N, s)) (hh : hgt m c x k = (N, r)) (hT : (ta m c x k).1 = T) (hA : (ta m c x k).2 = a)
    (nz : a ≠ 0 → decide (0 < a) = s ∧ r = some (T / a)) (z : a = 0 → r = none ∧ T ≠ 0 ∧ decide (0 < T) = !s) : Hk m c x k s := by
  subst hT hA
  refine ⟨by rw [fold, hh], fun h => ?_, fun h => ?_⟩
  · rw [hh]; exact nz h
  · rw [hh]; exact z h
theorem not_pos {a : Rat} (h : a ≠ 0) : decide (0 < -a) = !decide (0 < a) := by
  by_cases p : 0 < a
  · rw [decide_eq_true p, decide_eq_false (by grind)]; rfl
  · rw [decide_eq_false p, decide_eq_true (by grind)]; rfl
theorem dS_nz {m c : Nat → Rat} {x : Rat} {k : Nat} {T a : Rat} (ha : a ≠ 0) (h : (hgt m c x k).2 = some (T / a)) : dS (x * m k) (hgt m c x k) = ((hgt m c x k).1, some ((T - x * m k * a) / a)) := by
  unfold dS
  rw [h]
  show (_, some (T / a - x * m k)) = _
  congr 2
  grind
theorem dS_z {m c : Nat → Rat} {x : Rat} {k : Nat} (h : (hgt m c x k).2 = none) : dS (x * m k) (hgt m c x k) = ((hgt m c x k).1, none) := by
  unfold dS
  rw [h]; rfl
theorem hk {m c : Nat → Rat} {n : Nat} {x : Rat} (hc : ∀ k, 0 < k → k < n → 0 < c k) : ∀ k, k < n → ∃ s, Hk m c x k s
  | 0, _ => by
    refine ⟨true, ?_, fun _ => ⟨?_, ?_⟩, fun h => ?_⟩
    · show stR (0, true) 1 = (0, true)
      unfold stR
      rw [if_neg (by decide), if_pos (by decide)]
    · show decide ((0 : Rat) < 1) = true
      decide
    · show some (c 0) = some (c 0 / 1)
      congr 1
      grind
    · exact absurd (show (1 : Rat) = 0 from h) (by decide)
  | k + 1, hkn => by
    obtain ⟨s, fold, nz, z⟩ := hk hc (m := m) (x := x) k (by omega)
    have ck := hc (k + 1) (by omega) hkn
    have cz : c (k + 1) ≠ 0 := fun e => by rw [e] at ck; exact absurd ck Rat.lt_irrefl
    have e1 : (ta m c x (k + 1)).1 = (ta m c x k).1 - x * m k * (ta m c x k).2 := rfl
    have e2 : (ta m c x (k + 1)).2 = (ta m c x k).2 + (ta m c x (k + 1)).1 / c (k + 1) := rfl
    have eh : hgt m c x (k + 1) = hS (c (k + 1)) (dS (x * m k) (hgt m c x k)) := rfl
    have fold' : (la m c x (k + 1)).foldl stR (0, true) = stR ((hgt m c x k).1, s) (ta m c x (k + 1)).2 := by
      rw [la_s, List.foldl_append, fold]; rfl
    by_cases ha : (ta m c x k).2 = 0
    · obtain ⟨h1, h2, h3⟩ := z ha
      rw [dS_z h1] at eh
      have eh : hgt m c x (k + 1) = ((hgt m c x k).1 + 1, some (c (k + 1))) := eh
      have t1 : (ta m c x (k + 1)).1 = (ta m c x k).1 := by rw [e1, ha, Rat.mul_zero]; grind
      have t2 : (ta m c x (k + 1)).2 = (ta m c x k).1 / c (k + 1) := by rw [e2, ha, t1]; grind
      have t2z : (ta m c x (k + 1)).2 ≠ 0 := by
        rw [t2]
        generalize (ta m c x k).1 = T at h2
        grind
      have sg : decide (0 < (ta m c x (k + 1)).2) = !s := by
        rw [← h3, t2]
        have := pr_pos (a := (ta m c x k).1 / c (k + 1)) ck
        have e : (ta m c x k).1 / c (k + 1) * c (k + 1) = (ta m c x k).1 := Rat.div_mul_cancel cz
        rw [e] at this
        exact decide_eq_decide.mpr this.symm
      refine ⟨!s, ?_, fun _ => ⟨sg, ?_⟩, fun h => absurd h t2z⟩
      · rw [fold', eh]
        unfold stR
        rw [if_neg t2z, if_neg (by rw [sg]; cases s <;> simp)]
      · rw [eh, t2, t1]
        show some (c (k + 1)) = _
        congr 1
        generalize (ta m c x k).1 = T at h2
        grind
    · obtain ⟨h1, h2⟩ := nz ha
      rw [dS_nz ha h2, ← e1] at eh
      generalize (ta m c x k).2 = a at *
      generalize hT : (ta m c x (k + 1)).1 = T at *
      generalize hA : (ta m c x (k + 1)).2 = a' at *
      generalize c (k + 1) = C at *
      generalize (hgt m c x k).1 = N at *
      have ea : a' * C = a * (C + T / a) := by rw [e2]; grind
      have pa := pr_pos (a := a') ck
      rw [ea] at pa
      by_cases p1 : 0 < C + T / a
      · have eh : hgt m c x (k + 1) = (N, some (C - C * C / (C + T / a))) := by
          rw [eh]
          show (if 0 < C + T / a then _ else _) = _
          rw [if_pos p1]
        rw [pr_pos p1] at pa
        have az : a' ≠ 0 := fun e => by rw [e, Rat.zero_mul] at ea; grind
        refine ⟨s, Hk.of ?_ eh hT hA (fun _ => ⟨?_, ?_⟩) fun h => absurd h az⟩
        · rw [fold']
          unfold stR
          rw [if_neg az, if_pos (by rw [← h1]; exact decide_eq_decide.mpr pa.symm)]
        · rw [← h1]; exact decide_eq_decide.mpr pa.symm
        · congr 1
          have : C + T / a ≠ 0 := by grind
          rw [e2]
          grind
      · by_cases p0 : C + T / a = 0
        · have eh : hgt m c x (k + 1) = (N, none) := by
            rw [eh]
            show (if 0 < C + T / a then _ else if C + T / a = 0 then _ else _) = _
            rw [if_neg p1, if_pos p0]
          have az : a' = 0 := by rw [p0, Rat.mul_zero] at ea; grind
          have eT : T = - (C * a) := by grind
          have Tz : T ≠ 0 := by grind
          refine ⟨s, Hk.of ?_ eh hT hA (fun h => absurd az h) fun _ => ⟨rfl, Tz, ?_⟩⟩
          · rw [fold']
            unfold stR
            rw [if_pos az]
          · rw [eT, not_pos (by grind), ← h1]
            congr 1
            refine decide_eq_decide.mpr ?_
            rw [Rat.mul_comm]
            exact pr_pos ck
        · have ng : C + T / a < 0 := by grind
          have eh : hgt m c x (k + 1) = (N + 1, some (C - C * C / (C + T / a))) := by
            rw [eh]
            show (if 0 < C + T / a then _ else if C + T / a = 0 then _ else _) = _
            rw [if_neg p1, if_neg p0]
          rw [pr_neg ng] at pa
          have az : a' ≠ 0 := fun e => by rw [e, Rat.zero_mul] at ea; grind
          have sg : decide (0 < a') = !s := by
            rw [← h1, ← not_pos ha]
            refine decide_eq_decide.mpr ?_
            rw [← pa]
            constructor <;> intro h <;> grind
          refine ⟨!s, Hk.of ?_ eh hT hA (fun _ => ⟨sg, ?_⟩) fun h => absurd h az⟩
          · rw [fold']
            unfold stR
            rw [if_neg az, if_neg (by rw [sg]; cases s <;> simp)]
          · congr 1
            rw [e2]
            grind
/-- the turns of the whole row -/
theorem turns {m c : Nat → Rat} {n k : Nat} {x : Rat} (hc : ∀ k, 0 < k → k < n → 0 < c k) (hkn : k < n) : ((la m c x k ++ [en m c x k]).foldl stR (0, true)).1 = cnt m c x k := by
  obtain ⟨s, fold, nz, z⟩ := hk hc (m := m) (x := x) k hkn
  rw [List.foldl_append, fold]
  show (stR ((hgt m c x k).1, s) (en m c x k)).1 = eS (c (k + 1)) (dS (x * m k) (hgt m c x k))
  unfold en
  by_cases ha : (ta m c x k).2 = 0
  · obtain ⟨h1, h2, h3⟩ := z ha
    rw [dS_z h1, ha, Rat.zero_mul, Rat.mul_zero]
    have e : (0 : Rat) + ((ta m c x k).1 - 0) = (ta m c x k).1 := by grind
    rw [e]
    unfold stR
    rw [if_neg h2, if_neg (by rw [h3]; cases s <;> simp)]
    rfl
  · obtain ⟨h1, h2⟩ := nz ha
    rw [dS_nz ha h2]
    generalize ((ta m c x k).1 - x * m k * (ta m c x k).2) = T
    generalize (ta m c x k).2 = a at *
    generalize c (k + 1) = C
    generalize (hgt m c x k).1 = N
    have ea : a * C + T = a * (C + T / a) := by grind
    rw [ea]
    show _ = if 0 ≤ C + T / a then N else N + 1
    unfold stR
    by_cases p0 : C + T / a = 0
    · rw [p0, Rat.mul_zero, if_pos rfl, if_pos Rat.le_refl]
    · have nzp : a * (C + T / a) ≠ 0 := by grind
      rw [if_neg nzp]
      by_cases p1 : 0 < C + T / a
      · rw [if_pos (Rat.le_of_lt p1), if_pos (by rw [← h1]; exact decide_eq_decide.mpr (pr_pos p1))]
      · have ng : C + T / a < 0 := by grind
        have sg : decide (0 < a * (C + T / a)) = !s := by
          rw [← h1, ← not_pos ha]
          refine decide_eq_decide.mpr ?_
          rw [pr_neg ng]
          constructor <;> intro h <;> grind
        rw [if_neg (by grind : ¬ 0 ≤ C + T / a), if_neg (by rw [sg]; cases s <;> simp)]
end Mini
namespace Mini
open PySem
/-! a row at a pace -/
def hs : Nat → (Nat → Rat) → Rat → Rat
  | 0, _, _ => 0
  | n + 1, f, x => f 0 + x * hs n (fun i => f (i + 1)) x
theorem hs_ext : ∀ {n : Nat} {f g : Nat → Rat} {x : Rat}, (∀ i, i < n → f i = g i) → hs n f x = hs n g x
  | 0, _, _, _, _ => rfl
  | n + 1, f, g, x, h => by
    show f 0 + x * hs n (fun i => f (i + 1)) x = g 0 + x * hs n (fun i => g (i + 1)) x
    rw [h 0 (by omega), hs_ext fun i hi => h (i + 1) (by omega)]
theorem hs_lin : ∀ {n : Nat} {f g : Nat → Rat} {a b x : Rat}, hs n (fun i => a * f i + b * g i) x = a * hs n f x + b * hs n g x
  | 0, f, g, a, b, x => by
    show (0 : Rat) = a * 0 + b * 0
    grind
  | n + 1, f, g, a, b, x => by
    show (a * f 0 + b * g 0) + x * hs n (fun i => a * f (i + 1) + b * g (i + 1)) x = a * (f 0 + x * hs n (fun i => f (i + 1)) x) + b * (g 0 + x * hs n (fun i => g (i + 1)) x)
    rw [hs_lin (n := n) (f := fun i => f (i + 1)) (g := fun i => g (i + 1))]
    grind
theorem hs_mul {n : Nat} {f : Nat → Rat} {a x : Rat} : hs n (fun i => a * f i) x = a * hs n f x := by
  have := hs_lin (n := n) (f := f) (g := f) (a := a) (b := 0) (x := x)
  have e : hs n (fun i => a * f i + 0 * f i) x = hs n (fun i => a * f i) x := hs_ext fun i _ => by grind
  rw [e] at this
  grind
theorem hs_zero : ∀ {n : Nat} {f : Nat → Rat} {x : Rat}, (∀ i, f i = 0) → hs n f x = 0
  | 0, _, _, _ => rfl
  | n + 1, f, x, h => by
    show f 0 + x * hs n (fun i => f (i + 1)) x = 0
    rw [h 0, hs_zero fun i => h (i + 1)]
    grind
theorem hs_last : ∀ {n : Nat} {f : Nat → Rat} {x : Rat}, f n = 0 → hs (n + 1) f x = hs n f x
  | 0, f, x, h => by
    show f 0 + x * 0 = 0
    rw [h]; grind
  | n + 1, f, x, h => by
    show f 0 + x * hs (n + 1) (fun i => f (i + 1)) x = f 0 + x * hs n (fun i => f (i + 1)) x
    rw [hs_last (n := n) (f := fun i => f (i + 1)) h]
theorem hs_sh {n : Nat} {f : Nat → Rat} {x : Rat} (h : f n = 0) : hs (n + 1) (shR f) x = x * hs (n + 1) f x := by
  rw [hs_last h]
  show (0 : Rat) + x * hs n (fun i => f i) x = _
  grind
def hor : List Int → Rat → Rat
  | [], _ => 0
  | c :: r, x => (c : Rat) + x * hor r x
theorem hor_hs : ∀ {n : Nat} {zs : List Int} {x : Rat}, zs.length ≤ n → hor zs x = hs n (fun i => (coef zs i : Rat)) x
  | n, [], x, _ => (hs_zero fun i => by rw [coef_nil]; rfl).symm
  | 0, c :: r, x, h => by simp at h
  | n + 1, c :: r, x, h => by
    show (c : Rat) + x * hor r x = ((coef (c :: r) 0 : Int) : Rat) + x * hs n (fun i => ((coef (c :: r) (i + 1) : Int) : Rat)) x
    rw [hor_hs (n := n) (zs := r) (by simpa using h)]
    have : hs n (fun i => ((coef (c :: r) (i + 1) : Int) : Rat)) x = hs n (fun i => (coef r i : Rat)) x := hs_ext fun i _ => by rw [coef_s]
    rw [this]; rfl
theorem hor_sc {zs : List Int} {R : Nat → Rat} {l x : Rat} (hz : zs.length ≤ 20) (h : ∀ i, (coef zs i : Rat) = l * R i) : hor zs x = l * hs 20 R x := by
  rw [hor_hs hz, ← hs_mul]
  exact hs_ext fun i _ => h i
/-- the rows at the pace are what the recursion there tells -/
theorem TA_at {m c : Nat → Rat} {n : Nat} {x : Rat} (hm : ∀ k, k < n → 0 < m k) (hc : ∀ k, 0 < k → k < n → 0 < c k) (h0 : 0 ≤ c 0) (hn : n ≤ 10) : ∀ k, k < n → hs 20 (TA m c k).1 x = (ta m c x k).1 ∧ hs 20 (TA m c k).2 x = (ta m c x k).2
  | 0, _ => by
    constructor
    · show hs 20 (fun i => if i = 0 then c 0 else 0) x = c 0
      show (if 0 = 0 then c 0 else 0) + x * hs 19 (fun i => if i + 1 = 0 then c 0 else 0) x = c 0
      rw [if_pos rfl, hs_zero fun i => if_neg (by omega)]
      grind
    · show (if 0 = 0 then (1 : Rat) else 0) + x * hs 19 (fun i => if i + 1 = 0 then (1 : Rat) else 0) x = 1
      rw [if_pos rfl, hs_zero fun i => if_neg (by omega)]
      grind
  | k + 1, hk => by
    obtain ⟨i1, i2⟩ := TA_at hm hc h0 hn k (by omega) (x := x)
    have f := facts hm hc h0 k (by omega)
    have e1 : hs 20 (TA m c (k + 1)).1 x = (ta m c x (k + 1)).1 := by
      have e : hs 20 (TA m c (k + 1)).1 x = hs 20 (fun i => 1 * (TA m c k).1 i + (- m k) * shR (TA m c k).2 i) x := hs_ext fun i _ => by
        show (TA m c k).1 i - m k * shR (TA m c k).2 i = _
        grind
      rw [e, hs_lin, hs_sh (f.s2 19 (by omega)), i1, i2]
      show _ = (ta m c x k).1 - x * m k * (ta m c x k).2
      grind
    refine ⟨e1, ?_⟩
    have e : hs 20 (TA m c (k + 1)).2 x = hs 20 (fun i => 1 * (TA m c k).2 i + (1 / c (k + 1)) * (TA m c (k + 1)).1 i) x := hs_ext fun i _ => by
      show (TA m c k).2 i + (TA m c (k + 1)).1 i / c (k + 1) = _
      grind
    rw [e, hs_lin, e1, i2]
    show _ = (ta m c x k).2 + (ta m c x (k + 1)).1 / c (k + 1)
    grind
theorem En_at {m c : Nat → Rat} {n k : Nat} {x : Rat} (hm : ∀ k, k < n → 0 < m k) (hc : ∀ k, 0 < k → k < n → 0 < c k) (h0 : 0 ≤ c 0) (hn : n ≤ 10) (hk : k < n) : hs 20 (En m c k) x = en m c x k := by
  obtain ⟨i1, i2⟩ := TA_at hm hc h0 hn k hk (x := x)
  have f := facts hm hc h0 k hk
  have e : hs 20 (En m c k) x = hs 20 (fun i => c (k + 1) * (TA m c k).2 i + 1 * (1 * (TA m c k).1 i + (- m k) * shR (TA m c k).2 i)) x := hs_ext fun i _ => by
    show (TA m c k).2 i * c (k + 1) + ((TA m c k).1 i - m k * shR (TA m c k).2 i) = _
    grind
  rw [e, hs_lin, hs_lin, hs_sh (f.s2 19 (by omega)), i1, i2]
  unfold en
  grind
/-! signs -/
def Sg (z : Int) (r : Rat) : Prop := (0 < z ↔ 0 < r) ∧ (z = 0 ↔ r = 0)
def sgn (x : Int) : Int := if 0 < x then 1 else if x < 0 then -1 else 0
theorem Sg.sgn {z : Int} {r : Rat} (h : Sg z r) : Sg (sgn z) r := by
  refine ⟨Iff.trans ?_ h.1, Iff.trans ?_ h.2⟩
  · unfold Mini.sgn
    split
    · simp_all
    · split <;> simp_all
  · unfold Mini.sgn
    split
    · constructor <;> intro h <;> omega
    · split <;> constructor <;> intro h <;> omega
theorem Sg.pos {z : Int} {r l : Rat} (hl : 0 < l) (h : (z : Rat) = l * r) : Sg z r := by
  constructor
  · rw [← Rat.intCast_pos, h, Rat.mul_comm]
    exact pr_pos hl
  · constructor
    · intro e
      rw [e] at h
      have lz : l ≠ 0 := fun e => by rw [e] at hl; exact absurd hl Rat.lt_irrefl
      have h : (0 : Rat) = l * r := h
      grind
    · intro e
      rw [e, Rat.mul_zero] at h
      exact Rat.intCast_inj.mp h
def stI (s : Nat × Bool) (z : Int) : Nat × Bool := if z = 0 then s else if decide (0 < z) = s.2 then s else (s.1 + 1, !s.2)
theorem stI_R {s : Nat × Bool} {z : Int} {r : Rat} (h : Sg z r) : stI s z = stR s r := by
  unfold stI stR
  have e : decide (0 < z) = decide (0 < r) := decide_eq_decide.mpr h.1
  by_cases q : z = 0
  · rw [if_pos q, if_pos (h.2.mp q)]
  · rw [if_neg q, if_neg (fun e => q (h.2.mpr e)), e]
theorem fold_R : ∀ {zs : List Int} {rs : List Rat} {s : Nat × Bool}, zs.length = rs.length → (∀ (i : Nat) z r, zs[i]? = some z → rs[i]? = some r → Sg z r) → zs.foldl stI s = rs.foldl stR s
  | [], [], _, _, _ => rfl
  | z :: zs, r :: rs, s, hl, h => by
    rw [List.foldl_cons, List.foldl_cons, stI_R (h 0 z r rfl rfl)]
    exact fold_R (by simpa using hl) fun i z r h1 h2 => h (i + 1) z r (by simpa using h1) (by simpa using h2)
  | [], _ :: _, _, hl, _ => by simp at hl
  | _ :: _, [], _, hl, _ => by simp at hl
def adjN : List Int → Nat
  | a :: b :: l => (if a = b then 0 else 1) + adjN (b :: l)
  | _ => 0
def sI (b : Bool) : Int := if b then 1 else -1
theorem adj_fold : ∀ {zs : List Int} {N : Nat} {b : Bool}, (∀ z ∈ zs, z = 1 ∨ z = 0 ∨ z = -1) → (zs.foldl stI (N, b)).1 = N + adjN (sI b :: zs.filter (fun z => decide (z ≠ 0)))
  | [], N, b, _ => rfl
  | z :: zs, N, b, h => by
    have hz := h z (by simp)
    have ih := fun {N : Nat} {b : Bool} => adj_fold (zs := zs) (N := N) (b := b) fun z hz => h z (by simp [hz])
    rw [List.foldl_cons]
    rcases hz with rfl | rfl | rfl
    · have e : stI (N, b) 1 = if b then (N, true) else (N + 1, true) := by cases b <;> rfl
      rw [e, List.filter_cons_of_pos (by decide)]
      cases b
      · simp only [Bool.false_eq_true, if_false]
        rw [ih]
        show N + 1 + adjN (1 :: _) = N + ((if (-1 : Int) = 1 then 0 else 1) + adjN (1 :: _))
        rw [if_neg (by decide)]; omega
      · simp only [if_true]
        rw [ih]
        show N + adjN (1 :: _) = N + ((if (1 : Int) = 1 then 0 else 1) + adjN (1 :: _))
        rw [if_pos rfl]; omega
    · have e : stI (N, b) 0 = (N, b) := rfl
      rw [e, List.filter_cons_of_neg (by decide), ih]
    · have e : stI (N, b) (-1) = if b then (N + 1, false) else (N, false) := by cases b <;> rfl
      rw [e, List.filter_cons_of_pos (by decide)]
      cases b
      · simp only [Bool.false_eq_true, if_false]
        rw [ih]
        show N + adjN (-1 :: _) = N + ((if (-1 : Int) = -1 then 0 else 1) + adjN (-1 :: _))
        rw [if_pos rfl]; omega
      · simp only [if_true]
        rw [ih]
        show N + 1 + adjN (-1 :: _) = N + ((if (1 : Int) = -1 then 0 else 1) + adjN (-1 :: _))
        rw [if_neg (by decide)]; omega
/-! ### rows that are alike at all places -/
theorem hs_bound : ∀ (n : Nat) (f : Nat → Rat), ∃ M : Rat, 0 ≤ M ∧ ∀ x : Rat, 0 < x → x ≤ 1 → hs n f x ≤ M ∧ -M ≤ hs n f x
  | 0, f => ⟨0, Rat.le_refl, fun x _ _ => ⟨Rat.le_refl, by show -(0 : Rat) ≤ 0; exact Rat.le_refl⟩⟩
  | n + 1, f => by
    obtain ⟨M, M0, h⟩ := hs_bound n (fun i => f (i + 1))
    refine ⟨(if f 0 < 0 then -f 0 else f 0) + M, ?_, fun x x0 x1 => ?_⟩
    · split <;> grind
    · obtain ⟨h1, h2⟩ := h x x0 x1
      show f 0 + x * hs n (fun i => f (i + 1)) x ≤ _ ∧ _ ≤ f 0 + x * hs n (fun i => f (i + 1)) x
      generalize hs n (fun i => f (i + 1)) x = y at h1 h2 ⊢
      have a1 : 0 ≤ x * (M - y) := Rat.mul_nonneg (Rat.le_of_lt x0) (by grind)
      have a2 : 0 ≤ x * (M + y) := Rat.mul_nonneg (Rat.le_of_lt x0) (by grind)
      have a3 : 0 ≤ (1 - x) * M := Rat.mul_nonneg (by grind) M0
      constructor <;> split <;> grind
theorem hs_all : ∀ {n : Nat} {f : Nat → Rat}, (∀ x : Rat, 0 < x → x ≤ 1 → hs n f x = 0) → ∀ i, i < n → f i = 0
  | 0, _, _, i, hi => by omega
  | n + 1, f, h, i, hi => by
    have h : ∀ x : Rat, 0 < x → x ≤ 1 → f 0 + x * hs n (fun i => f (i + 1)) x = 0 := h
    obtain ⟨M, M0, hM⟩ := hs_bound n (fun i => f (i + 1))
    have f0 : f 0 = 0 := by
      by_cases z : f 0 = 0
      · exact z
      · exfalso
        obtain ⟨a, a0, ha⟩ : ∃ a : Rat, 0 < a ∧ (f 0 = a ∨ f 0 = -a) := by
          by_cases c : f 0 < 0
          · exact ⟨-f 0, by grind, by grind⟩
          · exact ⟨f 0, by grind, by grind⟩
        have s0 : 0 < a + M + 1 := by grind
        have x0 : 0 < a / (a + M + 1) := div_pos a0 s0
        have xe : a / (a + M + 1) * (a + M + 1) = a := by
          have : a + M + 1 ≠ 0 := by grind
          grind
        generalize a / (a + M + 1) = x at x0 xe
        have x1 : x ≤ 1 := by
          by_cases c : x ≤ 1
          · exact c
          · exfalso
            have : 0 < (x - 1) * (a + M + 1) := Rat.mul_pos (by grind) s0
            grind
        have e := h x x0 x1
        obtain ⟨h1, h2⟩ := hM x x0 x1
        generalize hs n (fun i => f (i + 1)) x = y at e h1 h2
        have a1 : 0 ≤ x * (M - y) := Rat.mul_nonneg (Rat.le_of_lt x0) (by grind)
        have a2 : 0 ≤ x * (M + y) := Rat.mul_nonneg (Rat.le_of_lt x0) (by grind)
        have a3 : 0 < x * a := Rat.mul_pos x0 a0
        grind
    cases i with
    | zero => exact f0
    | succ i =>
      refine hs_all (n := n) (f := fun i => f (i + 1)) (fun x x0 x1 => ?_) i (by omega)
      have e := h x x0 x1
      rw [f0] at e
      have : x ≠ 0 := by grind
      grind
theorem hor_all {a w : List Int} {l : Rat} (h : ∀ x : Rat, 0 < x → x ≤ 1 → hor a x = l * hor w x) (i : Nat) : (coef a i : Rat) = l * (coef w i : Rat) := by
  have hl1 : a.length ≤ max a.length w.length := Nat.le_max_left ..
  have hl2 : w.length ≤ max a.length w.length := Nat.le_max_right ..
  generalize max a.length w.length = n at hl1 hl2
  by_cases hi : i < n
  · have := hs_all (n := n) (f := fun i => 1 * (coef a i : Rat) + (-l) * (coef w i : Rat)) (fun x x0 x1 => by
      rw [hs_lin, ← hor_hs hl1, ← hor_hs hl2, h x x0 x1]; grind) i hi
    grind
  · rw [coef_ge (by omega), coef_ge (by omega)]
    show ((0 : Int) : Rat) = l * ((0 : Int) : Rat)
    grind
/-- two rows without a common divisor that are times one number above 0 what two functions tell -/
structure Prim2 (a b : List Int) (A B : Rat → Rat) : Prop where
  na : Nm a
  nb : Nm b
  g1 : gL (a ++ b) ≤ 1
  sc : ∃ l : Rat, 0 < l ∧ ∀ x : Rat, 0 < x → x ≤ 1 → hor a x = l * A x ∧ hor b x = l * B x
theorem gL_zero {xs : List Int} (h : gL xs = 0) (i : Nat) : coef xs i = 0 := by
  by_cases c : coef xs i = 0
  · exact c
  · have := gL_pos c; omega
theorem gL_prop {a w : List Int} {p q : Int} (h : ∀ i, coef a i * q = coef w i * p) : gL a * q.natAbs = gL w * p.natAbs := by
  rw [← gL_mul (c := q) (xs := a), ← gL_mul (c := p) (xs := w), ← gL_trim (xs := a.map (· * q)), ← gL_trim (xs := w.map (· * p))]
  rw [trim_ext fun i => ?_]
  rw [coef_map (by simp), coef_map (by simp)]
  exact h i
theorem Prim2.uniq {a b a' b' : List Int} {A B : Rat → Rat} (h : Prim2 a b A B) (h' : Prim2 a' b' A B) : a = a' ∧ b = b' := by
  obtain ⟨l, l0, hl⟩ := h.sc
  obtain ⟨m, m0, hm⟩ := h'.sc
  obtain ⟨p, q, p0, q0, hr⟩ := rat_pq (r := l / m) (div_pos l0 m0)
  have mz : m ≠ 0 := by grind
  have qz : (q : Rat) ≠ 0 := by
    intro z
    have : q = 0 := Rat.intCast_inj.mp (by simpa using z)
    omega
  have el : l = (p : Rat) / q * m := by rw [← hr]; grind
  have ca : ∀ i, coef a i * q = coef a' i * p := fun i => by
    have := hor_all (a := a) (w := a') (l := (p : Rat) / q) (fun x x0 x1 => by rw [(hl x x0 x1).1, (hm x x0 x1).1, el]; grind) i
    apply Rat.intCast_inj.mp
    rw [Rat.intCast_mul, Rat.intCast_mul, this]
    grind
  have cb : ∀ i, coef b i * q = coef b' i * p := fun i => by
    have := hor_all (a := b) (w := b') (l := (p : Rat) / q) (fun x x0 x1 => by rw [(hl x x0 x1).2, (hm x x0 x1).2, el]; grind) i
    apply Rat.intCast_inj.mp
    rw [Rat.intCast_mul, Rat.intCast_mul, this]
    grind
  have ga := gL_prop ca
  have gb := gL_prop cb
  have g1 := h.g1
  have g2 := h'.g1
  rw [gL_app] at g1 g2
  have gg : Nat.gcd (gL a) (gL b) * q.natAbs = Nat.gcd (gL a') (gL b') * p.natAbs := by
    rw [← Nat.gcd_mul_right, ← Nat.gcd_mul_right, ga, gb]
  have qn : 0 < q.natAbs := by omega
  have pn : 0 < p.natAbs := by omega
  by_cases z : Nat.gcd (gL a) (gL b) = 0
  · have za := Nat.eq_zero_of_gcd_eq_zero_left z
    have zb := Nat.eq_zero_of_gcd_eq_zero_right z
    have pz : p ≠ 0 := by omega
    refine ⟨nm_ext h.na h'.na fun i => ?_, nm_ext h.nb h'.nb fun i => ?_⟩
    · have := ca i
      rw [gL_zero za] at this ⊢
      rw [Int.zero_mul] at this
      rcases Int.mul_eq_zero.mp this.symm with e | e
      · exact e.symm
      · exact absurd e pz
    · have := cb i
      rw [gL_zero zb] at this ⊢
      rw [Int.zero_mul] at this
      rcases Int.mul_eq_zero.mp this.symm with e | e
      · exact e.symm
      · exact absurd e pz
  · have e1 : Nat.gcd (gL a) (gL b) = 1 := by omega
    rw [e1] at gg
    have e2 : Nat.gcd (gL a') (gL b') = 1 := by
      rcases (show Nat.gcd (gL a') (gL b') = 0 ∨ Nat.gcd (gL a') (gL b') = 1 by omega) with e | e
      · rw [e] at gg; omega
      · exact e
    rw [e2] at gg
    have epq : q = p := by omega
    subst epq
    have qz : q ≠ 0 := by omega
    exact ⟨nm_ext h.na h'.na fun i => Int.eq_of_mul_eq_mul_right qz (ca i), nm_ext h.nb h'.nb fun i => Int.eq_of_mul_eq_mul_right qz (cb i)⟩
/-- divided by what divides all -/
theorem nm_div {xs : List Int} {g : Int} (h : Nm xs) (g0 : 0 < g) (hd : ∀ i, g ∣ coef xs i) : Nm (xs.map (· / g)) ∧ ∀ i, coef (xs.map (· / g)) i * g = coef xs i := by
  have e : ∀ i, coef (xs.map (· / g)) i * g = coef xs i := fun i => by
    rw [coef_map (by simp)]
    exact Int.ediv_mul_cancel (hd i)
  refine ⟨nm_of ?_, e⟩
  by_cases c : xs = []
  · left; rw [c]; rfl
  · right
    rw [List.length_map]
    intro z
    have := e (xs.length - 1)
    rw [z, Int.zero_mul] at this
    exact nm_last h c this.symm
theorem gL_div {a b : List Int} : gL (a.map (· / ((max 1 (gL (a ++ b)) : Nat) : Int)) ++ b.map (· / ((max 1 (gL (a ++ b)) : Nat) : Int))) ≤ 1 := by
  generalize hg : max 1 (gL (a ++ b)) = g
  have g1 : 1 ≤ g := by omega
  have dv : ∀ xs : List Int, (∀ i, (g : Int) ∣ coef xs i) → gL xs * 1 = gL (xs.map (· / (g : Int))) * g := fun xs hd => by
    have := gL_prop (a := xs) (w := xs.map (· / (g : Int))) (p := (g : Int)) (q := 1) (fun i => by
      rw [coef_map (by simp), Int.ediv_mul_cancel (hd i), Int.mul_one])
    simpa using this
  by_cases z : gL (a ++ b) = 0
  · rw [z] at hg
    have : g = 1 := by omega
    subst this
    have e : ∀ xs : List Int, xs.map (· / ((1 : Nat) : Int)) = xs := fun xs => by
      conv => rhs; rw [← List.map_id xs]
      apply List.map_congr_left
      intro x _
      show x / 1 = x
      simp
    rw [e, e, z]; decide
  · have e : g = gL (a ++ b) := by omega
    have hd : ∀ x ∈ a ++ b, (g : Int) ∣ x := fun x hx => by rw [e]; exact gL_dvd hx
    have h := dv (a ++ b) (fun i => by
      by_cases hi : i < (a ++ b).length
      · exact hd _ (coef_mem hi)
      · rw [coef_ge (by omega)]; exact Int.dvd_zero _)
    rw [← List.map_append]
    rw [← e, Nat.mul_one] at h
    have : gL ((a ++ b).map (· / (g : Int))) * g = 1 * g := by omega
    have := Nat.eq_of_mul_eq_mul_right (by omega) this
    omega
/-! ### a line from both ends -/
/-- the twist that a disc leaves -/
def U (m c : Nat → Rat) (x : Rat) (k : Nat) : Rat := (ta m c x k).1 - x * m k * (ta m c x k).2
def mR (n : Nat) (m : Nat → Rat) : Nat → Rat := fun k => m (n - 1 - k)
def cR (n : Nat) (c : Nat → Rat) : Nat → Rat := fun k => c (n - k)
theorem ta_s {m c : Nat → Rat} {x : Rat} {k : Nat} : ta m c x (k + 1) = (U m c x k, (ta m c x k).2 + U m c x k / c (k + 1)) := rfl
theorem en_U {m c : Nat → Rat} {x : Rat} {k : Nat} : en m c x k = (ta m c x k).2 * c (k + 1) + U m c x k := rfl
/-- the end by the turn and the torque on both sides of a disc -/
theorem en_disc {n : Nat} {m c : Nat → Rat} {x : Rat} (hn : 1 ≤ n) : ∀ j i, i + j + 1 = n → en m c x (n - 1) = U m c x i * (ta (mR n m) (cR n c) x j).2 + (ta (mR n m) (cR n c) x j).1 * (ta m c x i).2
  | 0, i, h => by
    have : i = n - 1 := by omega
    subst this
    rw [en_U]
    show _ = U m c x (n - 1) * 1 + c (n - 0) * (ta m c x (n - 1)).2
    rw [show n - 1 + 1 = n - 0 by omega]
    grind
  | j + 1, i, h => by
    rw [en_disc hn j (i + 1) (by omega), ta_s (k := j)]
    show _ = U m c x i * ((ta (mR n m) (cR n c) x j).2 + U (mR n m) (cR n c) x j / cR n c (j + 1)) + U (mR n m) (cR n c) x j * (ta m c x i).2
    have e1 : cR n c (j + 1) = c (i + 1) := by unfold cR; congr 1; omega
    have e2 : U (mR n m) (cR n c) x j = (ta (mR n m) (cR n c) x j).1 - x * m (i + 1) * (ta (mR n m) (cR n c) x j).2 := by
      unfold U
      have : mR n m j = m (i + 1) := by unfold mR; congr 1; omega
      rw [this]
    have e3 : U m c x (i + 1) = U m c x i - x * m (i + 1) * ((ta m c x i).2 + U m c x i / c (i + 1)) := by
      conv => lhs; unfold U
      rw [ta_s]
    have e4 : (ta m c x (i + 1)).2 = (ta m c x i).2 + U m c x i / c (i + 1) := by rw [ta_s]
    rw [e1, e3, e4, e2]
    generalize (ta (mR n m) (cR n c) x j).2 = A'
    generalize (ta (mR n m) (cR n c) x j).1 = T'
    generalize U m c x i = u
    generalize (ta m c x i).2 = A
    rw [Rat.div_def, Rat.div_def]
    generalize (c (i + 1))⁻¹ = k
    generalize m (i + 1) = M
    grind
theorem ta_ext {m m' c c' : Nat → Rat} {x : Rat} : ∀ {k : Nat}, (∀ i, i < k → m i = m' i) → (∀ i, i ≤ k → c i = c' i) → ta m c x k = ta m' c' x k
  | 0, _, hc => by show (c 0, (1 : Rat)) = (c' 0, 1); rw [hc 0 (Nat.le_refl 0)]
  | k + 1, hm, hc => by
    rw [ta_s, ta_s]
    unfold U
    rw [ta_ext (fun i hi => hm i (by omega)) (fun i hi => hc i (by omega)), hm k (by omega), hc (k + 1) (Nat.le_refl _)]
theorem U_ext {m m' c c' : Nat → Rat} {x : Rat} {k : Nat} (hm : ∀ i, i ≤ k → m i = m' i) (hc : ∀ i, i ≤ k → c i = c' i) : U m c x k = U m' c' x k := by
  unfold U
  rw [ta_ext (fun i hi => hm i (by omega)) hc, hm k (Nat.le_refl _)]
def fup (f : Nat → Rat) (i : Nat) (a : Rat) : Nat → Rat := fun k => if k = i then a else f k
theorem fup_i {f : Nat → Rat} {i : Nat} {a : Rat} : fup f i a i = a := if_pos rfl
theorem fup_n {f : Nat → Rat} {i k : Nat} {a : Rat} (h : k ≠ i) : fup f i a k = f k := if_neg h
/-- what a slot's two polynomials are at a pace -/
def slA (n : Nat) (b : Bool) (i : Nat) (m c : Nat → Rat) (x : Rat) : Rat :=
  if b then (ta m c x i).1 * (ta (mR n m) (cR n c) x (n - 1 - i)).2 + (ta (mR n m) (cR n c) x (n - 1 - i)).1 * (ta m c x i).2
  else if i = 0 then U (mR n m) (cR n c) x (n - 1)
  else if i = n then U m c x (n - 1)
  else U m c x (i - 1) * U (mR n m) (cR n c) x (n - 1 - i)
def slB (n : Nat) (b : Bool) (i : Nat) (m c : Nat → Rat) (x : Rat) : Rat :=
  if b then -(x * ((ta m c x i).2 * (ta (mR n m) (cR n c) x (n - 1 - i)).2))
  else if i = 0 then (ta (mR n m) (cR n c) x (n - 1)).2
  else if i = n then (ta m c x (n - 1)).2
  else U m c x (i - 1) * (ta (mR n m) (cR n c) x (n - 1 - i)).2 + U (mR n m) (cR n c) x (n - 1 - i) * (ta m c x (i - 1)).2
/-- what the end is times -/
def slF (n : Nat) (b : Bool) (i : Nat) (a : Rat) : Rat := if !b && decide (0 < i) && decide (i < n) then a else 1
theorem slot_en {n : Nat} {b : Bool} {i : Nat} {m c : Nat → Rat} {a x : Rat} (hn : 1 ≤ n) (hi : if b then i < n else i < n + 1) (ha : a ≠ 0) :
    slF n b i a * en (if b then fup m i a else m) (if b then c else fup c i a) x (n - 1) = slA n b i m c x + a * slB n b i m c x := by
  cases b with
  | true =>
    have hi : i < n := hi
    show (1 : Rat) * en (fup m i a) c x (n - 1) = _
    rw [en_disc hn (n - 1 - i) i (by omega)]
    have e1 : ta (fup m i a) c x i = ta m c x i := ta_ext (fun k hk => fup_n (by omega)) fun _ _ => rfl
    have e2 : ta (mR n (fup m i a)) (cR n c) x (n - 1 - i) = ta (mR n m) (cR n c) x (n - 1 - i) := ta_ext (fun k hk => fup_n (by omega)) fun _ _ => rfl
    have e3 : U (fup m i a) c x i = (ta m c x i).1 - x * a * (ta m c x i).2 := by
      unfold U
      rw [e1, fup_i]
    rw [e1, e2, e3]
    show _ = ((ta m c x i).1 * (ta (mR n m) (cR n c) x (n - 1 - i)).2 + (ta (mR n m) (cR n c) x (n - 1 - i)).1 * (ta m c x i).2) + a * (-(x * ((ta m c x i).2 * (ta (mR n m) (cR n c) x (n - 1 - i)).2)))
    generalize (ta m c x i).1 = p
    generalize (ta m c x i).2 = q
    generalize (ta (mR n m) (cR n c) x (n - 1 - i)).1 = r
    generalize (ta (mR n m) (cR n c) x (n - 1 - i)).2 = s
    grind
  | false =>
    have hi : i < n + 1 := hi
    show slF n false i a * en m (fup c i a) x (n - 1) = _
    by_cases h0 : i = 0
    · subst h0
      have f1 : slF n false 0 a = 1 := by unfold slF; rw [if_neg (by simp)]
      rw [f1, en_disc hn (n - 1) 0 (by omega)]
      have e2 : ta (mR n m) (cR n (fup c 0 a)) x (n - 1) = ta (mR n m) (cR n c) x (n - 1) := ta_ext (fun _ _ => rfl) fun k hk => fup_n (by omega)
      have e3 : U m (fup c 0 a) x 0 = a - x * m 0 * 1 := by
        unfold U
        show (fup c 0 a) 0 - x * m 0 * 1 = _
        rw [fup_i]
      rw [e2, e3]
      show 1 * ((a - x * m 0 * 1) * (ta (mR n m) (cR n c) x (n - 1)).2 + (ta (mR n m) (cR n c) x (n - 1)).1 * 1) = U (mR n m) (cR n c) x (n - 1) + a * (ta (mR n m) (cR n c) x (n - 1)).2
      unfold U
      have : mR n m (n - 1) = m 0 := by unfold mR; congr 1; omega
      rw [this]
      grind
    · by_cases h1 : i = n
      · subst h1
        have f1 : slF i false i a = 1 := by unfold slF; rw [if_neg (by simp)]
        rw [f1, en_U]
        have e1 : ta m (fup c i a) x (i - 1) = ta m c x (i - 1) := ta_ext (fun _ _ => rfl) fun k hk => fup_n (by omega)
        have e3 : U m (fup c i a) x (i - 1) = U m c x (i - 1) := U_ext (fun _ _ => rfl) fun k hk => fup_n (by omega)
        have e4 : fup c i a (i - 1 + 1) = a := by rw [show i - 1 + 1 = i by omega, fup_i]
        rw [e1, e3, e4]
        unfold slA slB
        rw [if_neg (by decide), if_neg h0, if_pos rfl, if_neg (by decide), if_neg h0, if_pos rfl]
        grind
      · have f1 : slF n false i a = a := by
          unfold slF
          rw [if_pos]
          simp
          omega
        rw [f1, en_disc hn (n - i) (i - 1) (by omega)]
        have e1 : ta m (fup c i a) x (i - 1) = ta m c x (i - 1) := ta_ext (fun _ _ => rfl) fun k hk => fup_n (by omega)
        have e3 : U m (fup c i a) x (i - 1) = U m c x (i - 1) := U_ext (fun _ _ => rfl) fun k hk => fup_n (by omega)
        have e2 : ta (mR n m) (cR n (fup c i a)) x (n - 1 - i) = ta (mR n m) (cR n c) x (n - 1 - i) := ta_ext (fun _ _ => rfl) fun k hk => fup_n (by omega)
        have e5 : U (mR n m) (cR n (fup c i a)) x (n - 1 - i) = U (mR n m) (cR n c) x (n - 1 - i) := U_ext (fun _ _ => rfl) fun k hk => fup_n (by omega)
        have e4 : cR n (fup c i a) (n - 1 - i + 1) = a := by
          unfold cR
          rw [show n - (n - 1 - i + 1) = i by omega, fup_i]
        rw [show n - i = n - 1 - i + 1 by omega, ta_s, e4, e2, e5, e1, e3]
        unfold slA slB
        rw [if_neg (by decide), if_neg h0, if_neg h1, if_neg (by decide), if_neg h0, if_neg h1]
        generalize U m c x (i - 1) = u
        generalize U (mR n m) (cR n c) x (n - 1 - i) = u'
        generalize (ta m c x (i - 1)).2 = q
        generalize (ta (mR n m) (cR n c) x (n - 1 - i)).2 = s
        show a * (u * (s + u' / a) + u' * q) = _
        grind
end Mini
namespace Mini
open PySem
/-! shapes: what is swung for a shape, and how often the row turns its sign there -/
theorem sq_nn {a : Rat} : 0 ≤ a * a := by
  rcases (Rat.le_total : a ≤ 0 ∨ 0 ≤ a) with h | h
  · have := Rat.mul_nonneg (a := -a) (b := -a) (by grind) (by grind)
    grind
  · exact Rat.mul_nonneg h h
theorem sq_z {a : Rat} (h : a * a = 0) : a = 0 := by
  rcases Rat.mul_eq_zero.mp h with h | h <;> exact h
theorem pos_sq {p a : Rat} (hp : 0 < p) (h : p * (a * a) = 0) : a = 0 := by
  rcases Rat.mul_eq_zero.mp h with h | h
  · rw [h] at hp; exact absurd hp Rat.lt_irrefl
  · exact sq_z h
def Fe (m c u : Nat → Rat) (x : Rat) : Nat → Rat
  | 0 => c 0 * (u 0 * u 0) - x * m 0 * (u 0 * u 0)
  | k + 1 => Fe m c u x k + c (k + 1) * ((u (k + 1) - u k) * (u (k + 1) - u k)) - x * m (k + 1) * (u (k + 1) * u (k + 1))
theorem fe_step {F F' z c w u xm r : Rat} (hz : c + z ≠ 0) (hF : F' = F + c * ((w - u) * (w - u)) - xm * (w * w)) (hr : r = c - c * c / (c + z)) :
    F' - (r - xm) * (w * w) = (F - z * (u * u)) + (c + z) * ((u - c * w / (c + z)) * (u - c * w / (c + z))) := by
  rw [hF, hr]
  generalize hq : c + z = q at hz ⊢
  have e : z = q - c := by grind
  rw [e]
  have h1 : c * c / q * q = c * c := Rat.div_mul_cancel hz
  have h2 : c * w / q * q = c * w := Rat.div_mul_cancel hz
  generalize c * c / q = A at h1 ⊢
  generalize c * w / q = B at h2 ⊢
  have h3 : A * w = B * c := by
    have : q * (A * w) = q * (B * c) := by grind
    have h4 : q * (A * w - B * c) = 0 := by grind
    rcases Rat.mul_eq_zero.mp h4 with h5 | h5
    · exact absurd h5 hz
    · grind
  grind
theorem cnt_le {m c : Nat → Rat} {x : Rat} : ∀ k, (hgt m c x k).1 ≤ k
  | 0 => Nat.le_refl _
  | k + 1 => by
    have ih := cnt_le (m := m) (c := c) (x := x) k
    have step : ∀ (C : Rat) (s : Hg), (hS C s).1 ≤ s.1 + 1 := fun C s => by
      obtain ⟨n, a⟩ := s
      unfold hS
      cases a with
      | none => exact Nat.le_refl _
      | some r =>
        show (if 0 < C + r then _ else if C + r = 0 then _ else _ : Hg).1 ≤ n + 1
        split
        · exact Nat.le_succ _
        · split
          · exact Nat.le_succ _
          · exact Nat.le_refl _
    exact Nat.le_trans (step _ _) (Nat.succ_le_succ ih)
theorem cnt_bd {m c : Nat → Rat} {x : Rat} {k : Nat} : cnt m c x k ≤ k + 1 := by
  have h := cnt_le (m := m) (c := c) (x := x) k
  unfold cnt eS
  split
  · exact Nat.succ_le_succ h
  · split
    · exact Nat.le_succ_of_le h
    · exact Nat.succ_le_succ h
theorem hgt_le {m c : Nat → Rat} {x : Rat} (k : Nat) : (hgt m c x k).1 ≤ k := cnt_le k
theorem hS_0 {c : Rat} {s : Hg} {r : Rat} (h : (hS c s).1 = 0) (h2 : (hS c s).2 = some r) : s.1 = 0 ∧ ∃ z, s.2 = some z ∧ 0 < c + z ∧ r = c - c * c / (c + z) := by
  obtain ⟨n, q⟩ := s
  cases q with
  | none => exact absurd h (by simp [hS])
  | some z =>
    unfold hS at h h2
    dsimp only at h h2
    split at h
    · rename_i hz
      rw [if_pos hz] at h2
      exact ⟨h, z, rfl, hz, (Option.some.inj h2).symm⟩
    · rename_i hz
      rw [if_neg hz] at h2
      split at h
      · rename_i h0
        rw [if_pos h0] at h2
        cases h2
      · exact absurd h (by simp)
theorem hS_up {c : Rat} {s : Hg} {z : Rat} (hs : s.2 = some z) (h : (hS c s).1 = s.1 + 1) : c + z < 0 ∧ (hS c s).2 = some (c - c * c / (c + z)) := by
  obtain ⟨n, q⟩ := s
  subst hs
  unfold hS at h ⊢
  dsimp only at h ⊢
  split at h
  · simp at h
  · split at h
    · simp at h
    · rename_i a b
      rw [if_neg a, if_neg b]
      exact ⟨by grind, rfl⟩
theorem dS_some {q z : Rat} {s : Hg} (h : (dS q s).2 = some z) : ∃ r, s.2 = some r ∧ z = r - q := by
  obtain ⟨n, o⟩ := s
  cases o with
  | none => cases h
  | some r => exact ⟨r, rfl, (Option.some.inj h).symm⟩
theorem fe_pos {m c u : Nat → Rat} {x : Rat} : ∀ (k : Nat) (r : Rat), (hgt m c x k).1 = 0 → (hgt m c x k).2 = some r →
    (r - x * m k) * (u k * u k) ≤ Fe m c u x k ∧ (Fe m c u x k = (r - x * m k) * (u k * u k) → u k = 0 → ∀ i, i ≤ k → u i = 0)
  | 0, r, _, h2 => by
    have e : c 0 = r := Option.some.inj h2
    have : Fe m c u x 0 = (r - x * m 0) * (u 0 * u 0) := by
      show c 0 * (u 0 * u 0) - x * m 0 * (u 0 * u 0) = _
      rw [e]; grind
    refine ⟨by rw [this]; exact Rat.le_refl, fun _ h0 i hi => ?_⟩
    have : i = 0 := by omega
    rw [this]; exact h0
  | k + 1, r, h1, h2 => by
    obtain ⟨a, z, hz, pz, er⟩ := hS_0 (c := c (k + 1)) (s := dS (x * m k) (hgt m c x k)) h1 h2
    obtain ⟨r0, h0, ez⟩ := dS_some hz
    obtain ⟨i1, i2⟩ := fe_pos (u := u) k r0 a h0
    rw [← ez] at i1 i2
    have st := fe_step (F' := Fe m c u x (k + 1)) (xm := x * m (k + 1)) (w := u (k + 1)) (u := u k) (by grind) rfl er
    have n2 : 0 ≤ (c (k + 1) + z) * ((u k - c (k + 1) * u (k + 1) / (c (k + 1) + z)) * (u k - c (k + 1) * u (k + 1) / (c (k + 1) + z))) := Rat.mul_nonneg (Rat.le_of_lt pz) sq_nn
    refine ⟨by grind, fun he hw => ?_⟩
    rw [hw] at st n2
    rw [hw] at he
    have e3 : c (k + 1) * 0 / (c (k + 1) + z) = 0 := by grind
    rw [e3] at st n2
    have e4 : (c (k + 1) + z) * ((u k - 0) * (u k - 0)) = 0 := by grind
    have uz : u k = 0 := by
      have := pos_sq pz e4
      grind
    have e5 : Fe m c u x k = z * (u k * u k) := by grind
    intro i hi
    by_cases c1 : i = k + 1
    · rw [c1]; exact hw
    · exact i2 e5 uz i (by omega)
theorem fe_neg {m c u : Nat → Rat} {x : Rat} : ∀ (k : Nat), (hgt m c x k).1 = k → ∃ r, (hgt m c x k).2 = some r ∧
    Fe m c u x k ≤ (r - x * m k) * (u k * u k) ∧ (Fe m c u x k = (r - x * m k) * (u k * u k) → u k = 0 → ∀ i, i ≤ k → u i = 0)
  | 0, _ => by
    have : Fe m c u x 0 = (c 0 - x * m 0) * (u 0 * u 0) := by
      show c 0 * (u 0 * u 0) - x * m 0 * (u 0 * u 0) = _
      grind
    refine ⟨c 0, rfl, by rw [this]; exact Rat.le_refl, fun _ h0 i hi => ?_⟩
    have : i = 0 := by omega
    rw [this]; exact h0
  | k + 1, h1 => by
    have le := hgt_le (m := m) (c := c) (x := x) k
    have up : (hgt m c x (k + 1)).1 ≤ (hgt m c x k).1 + 1 := by
      show (hS (c (k + 1)) (dS (x * m k) (hgt m c x k))).1 ≤ _
      have e : (dS (x * m k) (hgt m c x k)).1 = (hgt m c x k).1 := rfl
      rw [← e]
      generalize dS (x * m k) (hgt m c x k) = s
      obtain ⟨n, q⟩ := s
      cases q with
      | none => exact Nat.le_refl _
      | some r =>
        unfold hS
        dsimp only
        split
        · exact Nat.le_succ _
        · split
          · exact Nat.le_succ _
          · exact Nat.le_refl _
    have hk : (hgt m c x k).1 = k := by omega
    obtain ⟨r0, h0, i1, i2⟩ := fe_neg (u := u) k hk
    have hd : (dS (x * m k) (hgt m c x k)).2 = some (r0 - x * m k) := by
      show (hgt m c x k).2.map _ = _
      rw [h0]; rfl
    obtain ⟨pz, hr⟩ := hS_up hd (show (hS (c (k + 1)) (dS (x * m k) (hgt m c x k))).1 = (hgt m c x k).1 + 1 by rw [hk]; exact h1)
    refine ⟨_, hr, ?_⟩
    generalize hzz : r0 - x * m k = z at *
    have st := fe_step (F' := Fe m c u x (k + 1)) (xm := x * m (k + 1)) (w := u (k + 1)) (u := u k) (z := z) (by grind) rfl rfl
    have n2 : 0 ≤ -(c (k + 1) + z) * ((u k - c (k + 1) * u (k + 1) / (c (k + 1) + z)) * (u k - c (k + 1) * u (k + 1) / (c (k + 1) + z))) := Rat.mul_nonneg (by grind) sq_nn
    refine ⟨by grind, fun he hw => ?_⟩
    rw [hw] at st n2
    rw [hw] at he
    have e3 : c (k + 1) * 0 / (c (k + 1) + z) = 0 := by grind
    rw [e3] at st n2
    have e4 : -(c (k + 1) + z) * ((u k - 0) * (u k - 0)) = 0 := by grind
    have uz : u k = 0 := by
      have := pos_sq (show 0 < -(c (k + 1) + z) by grind) e4
      grind
    have e5 : Fe m c u x k = z * (u k * u k) := by grind
    intro i hi
    by_cases c1 : i = k + 1
    · rw [c1]; exact hw
    · exact i2 e5 uz i (by omega)
theorem ray_lo {m c u : Nat → Rat} {n k : Nat} {x : Rat} (hc : ∀ k, 0 < k → k < n → 0 < c k) (hkn : k < n) (h : cnt m c x k = 0) (he : en m c x k ≠ 0) (hF : Fe m c u x k + c (k + 1) * (u k * u k) = 0) : ∀ i, i ≤ k → u i = 0 := by
  obtain ⟨s, H⟩ := hk (m := m) (x := x) hc k hkn
  unfold cnt eS at h
  by_cases a0 : (ta m c x k).2 = 0
  · obtain ⟨z, _⟩ := H.z a0
    have : (dS (x * m k) (hgt m c x k)).2 = none := by
      show (hgt m c x k).2.map _ = _
      rw [z]; rfl
    rw [this] at h
    simp at h
  · obtain ⟨_, z⟩ := H.nz a0
    have e2 : (dS (x * m k) (hgt m c x k)).2 = some ((ta m c x k).1 / (ta m c x k).2 - x * m k) := by
      show (hgt m c x k).2.map _ = _
      rw [z]; rfl
    rw [e2] at h
    dsimp only at h
    split at h
    · rename_i p
      obtain ⟨i1, i2⟩ := fe_pos (u := u) k _ h z
      have e1 : (ta m c x k).1 / (ta m c x k).2 * (ta m c x k).2 = (ta m c x k).1 := Rat.div_mul_cancel a0
      unfold en at he
      generalize (ta m c x k).1 / (ta m c x k).2 = r at *
      have p1 : c (k + 1) + (r - x * m k) ≠ 0 := fun e => he (by
        rw [← e1]
        have : c (k + 1) = x * m k - r := by grind
        rw [this]; grind)
      have p2 : 0 < c (k + 1) + (r - x * m k) := by grind
      have n2 : 0 ≤ (c (k + 1) + (r - x * m k)) * (u k * u k) := Rat.mul_nonneg p sq_nn
      have e4 : (c (k + 1) + (r - x * m k)) * (u k * u k) = 0 := by grind
      have uz := pos_sq p2 e4
      exact i2 (by grind) uz
    · simp at h
theorem ray_hi {m c u : Nat → Rat} {k : Nat} {x : Rat} (h : cnt m c x k = k + 1) (hF : Fe m c u x k + c (k + 1) * (u k * u k) = 0) : ∀ i, i ≤ k → u i = 0 := by
  unfold cnt eS at h
  have le := hgt_le (m := m) (c := c) (x := x) k
  have e : (dS (x * m k) (hgt m c x k)).1 = (hgt m c x k).1 := rfl
  have hk : (hgt m c x k).1 = k := by
    split at h
    · omega
    · split at h <;> omega
  obtain ⟨r, z, i1, i2⟩ := fe_neg (u := u) k hk
  have e2 : (dS (x * m k) (hgt m c x k)).2 = some (r - x * m k) := by
    show (hgt m c x k).2.map _ = _
    rw [z]; rfl
  rw [e2] at h
  dsimp only at h
  split at h
  · omega
  · rename_i p
    have p2 : 0 < -(c (k + 1) + (r - x * m k)) := by grind
    have n2 : 0 ≤ -(c (k + 1) + (r - x * m k)) * (u k * u k) := Rat.mul_nonneg (Rat.le_of_lt p2) sq_nn
    have e4 : -(c (k + 1) + (r - x * m k)) * (u k * u k) = 0 := by grind
    have uz := pos_sq p2 e4
    exact i2 (by grind) uz
theorem ray_one {m c : Nat → Rat} {x : Rat} (h : c 0 + c 1 = x * m 0) : cnt m c x 0 = 0 ∧ en m c x 0 = 0 := by
  constructor
  · show (if 0 ≤ c 1 + (c 0 - x * m 0) then 0 else 0 + 1) = 0
    rw [if_pos (by grind)]
  · show (1 : Rat) * c 1 + (c 0 - x * m 0 * 1) = 0
    grind
/-! pivots -/
def pv (m c : Nat → Rat) (x : Rat) : Nat → Rat
  | 0 => c 0 + c 1 - x * m 0
  | k + 1 => c (k + 1) + c (k + 2) - x * m (k + 1) - c (k + 1) * c (k + 1) / pv m c x k
def ngc (p : Nat → Rat) : Nat → Nat
  | 0 => 0
  | k + 1 => ngc p k + if p k < 0 then 1 else 0
theorem pv_hgt {m c : Nat → Rat} {x : Rat} : ∀ k, (∀ i, i < k → pv m c x i ≠ 0) → hgt m c x k = (ngc (pv m c x) k, some (pv m c x k - c (k + 1) + x * m k))
  | 0, _ => by
    show (0, some (c 0)) = (0, some (c 0 + c 1 - x * m 0 - c 1 + x * m 0))
    have : c 0 = c 0 + c 1 - x * m 0 - c 1 + x * m 0 := by grind
    rw [← this]
  | k + 1, h => by
    show hS (c (k + 1)) (dS (x * m k) (hgt m c x k)) = _
    rw [pv_hgt k fun i hi => h i (by omega)]
    have hz := h k (by omega)
    have e1 : c (k + 1) + (pv m c x k - c (k + 1) + x * m k - x * m k) = pv m c x k := by grind
    show (if 0 < c (k + 1) + (pv m c x k - c (k + 1) + x * m k - x * m k) then (ngc (pv m c x) k, some (c (k + 1) - c (k + 1) * c (k + 1) / (c (k + 1) + (pv m c x k - c (k + 1) + x * m k - x * m k)))) else if c (k + 1) + (pv m c x k - c (k + 1) + x * m k - x * m k) = 0 then (ngc (pv m c x) k, none) else (ngc (pv m c x) k + 1, some (c (k + 1) - c (k + 1) * c (k + 1) / (c (k + 1) + (pv m c x k - c (k + 1) + x * m k - x * m k))))) = _
    rw [e1, if_neg hz]
    have e2 : pv m c x (k + 1) - c (k + 1 + 1) + x * m (k + 1) = c (k + 1) - c (k + 1) * c (k + 1) / pv m c x k := by
      show c (k + 1) + c (k + 2) - x * m (k + 1) - c (k + 1) * c (k + 1) / pv m c x k - c (k + 2) + x * m (k + 1) = _
      grind
    rw [e2]
    show _ = (ngc (pv m c x) k + (if pv m c x k < 0 then 1 else 0), _)
    by_cases p : 0 < pv m c x k
    · rw [if_pos p, if_neg (by grind)]; rfl
    · rw [if_neg p, if_pos (by grind)]
theorem pv_cnt {m c : Nat → Rat} {x : Rat} {k : Nat} (h : ∀ i, i < k → pv m c x i ≠ 0) : cnt m c x k = ngc (pv m c x) (k + 1) := by
  show eS (c (k + 1)) (dS (x * m k) (hgt m c x k)) = _
  rw [pv_hgt k h]
  show (if 0 ≤ c (k + 1) + (pv m c x k - c (k + 1) + x * m k - x * m k) then ngc (pv m c x) k else ngc (pv m c x) k + 1) = ngc (pv m c x) k + (if pv m c x k < 0 then 1 else 0)
  have e1 : c (k + 1) + (pv m c x k - c (k + 1) + x * m k - x * m k) = pv m c x k := by grind
  rw [e1]
  by_cases p : 0 ≤ pv m c x k
  · rw [if_pos p, if_neg (by grind)]; rfl
  · rw [if_neg p, if_pos (by grind)]
end Mini
namespace Mini
open PySem
/-! polynomials over the fractions, by their values -/
theorem mul_nz {a b : Rat} (ha : a ≠ 0) (hb : b ≠ 0) : a * b ≠ 0 := fun z => by
  rcases Rat.mul_eq_zero.mp z with h | h
  · exact ha h
  · exact hb h
def IsP (n : Nat) (f : Rat → Rat) : Prop := ∃ c : Nat → Rat, ∀ x, f x = hs n c x
def Pol (f : Rat → Rat) : Prop := ∃ n, IsP n f
theorem hs_pad {n : Nat} : ∀ {m : Nat} {c : Nat → Rat} {x : Rat}, n ≤ m → hs m (fun i => if i < n then c i else 0) x = hs n c x
  | 0, c, x, h => by
    have : n = 0 := by omega
    subst this; rfl
  | m + 1, c, x, h => by
    by_cases e : n = m + 1
    · subst e
      exact hs_ext fun i hi => by rw [if_pos hi]
    · rw [hs_last (by rw [if_neg (by omega)])]
      exact hs_pad (by omega)
theorem IsP.mono {n m : Nat} {f : Rat → Rat} (h : IsP n f) (k : n ≤ m) : IsP m f := by
  obtain ⟨c, hc⟩ := h
  exact ⟨fun i => if i < n then c i else 0, fun x => by rw [hs_pad k]; exact hc x⟩
theorem IsP.lin {n : Nat} {f g : Rat → Rat} (hf : IsP n f) (hg : IsP n g) (a b : Rat) : IsP n (fun x => a * f x + b * g x) := by
  obtain ⟨c, hc⟩ := hf
  obtain ⟨d, hd⟩ := hg
  exact ⟨fun i => a * c i + b * d i, fun x => by rw [hs_lin, ← hc, ← hd]⟩
theorem IsP.congr {n : Nat} {f g : Rat → Rat} (h : IsP n f) (e : ∀ x, g x = f x) : IsP n g := by
  obtain ⟨c, hc⟩ := h
  exact ⟨c, fun x => by rw [e]; exact hc x⟩
theorem IsP.add {n : Nat} {f g : Rat → Rat} (hf : IsP n f) (hg : IsP n g) : IsP n (fun x => f x + g x) := (hf.lin hg 1 1).congr fun x => by grind
theorem IsP.sub {n : Nat} {f g : Rat → Rat} (hf : IsP n f) (hg : IsP n g) : IsP n (fun x => f x - g x) := (hf.lin hg 1 (-1)).congr fun x => by grind
theorem IsP.sc {n : Nat} {f : Rat → Rat} (hf : IsP n f) (a : Rat) : IsP n (fun x => a * f x) := (hf.lin hf a 0).congr fun x => by grind
theorem IsP.zero {n : Nat} : IsP n (fun _ => 0) := ⟨fun _ => 0, fun x => (hs_zero fun _ => rfl).symm⟩
theorem IsP.x {n : Nat} {f : Rat → Rat} (hf : IsP n f) : IsP (n + 1) (fun x => x * f x) := by
  obtain ⟨c, hc⟩ := hf
  refine ⟨fun i => match i with | 0 => 0 | i + 1 => c i, fun x => ?_⟩
  show x * f x = 0 + x * hs n c x
  rw [hc]; grind
theorem IsP.con (a : Rat) : IsP 1 (fun _ => a) := ⟨fun _ => a, fun x => by show a = a + x * 0; grind⟩
theorem IsP.split {n : Nat} {f : Rat → Rat} (h : IsP (n + 1) f) : ∃ a g, IsP n g ∧ ∀ x, f x = a + x * g x := by
  obtain ⟨c, hc⟩ := h
  exact ⟨c 0, fun x => hs n (fun i => c (i + 1)) x, ⟨_, fun x => rfl⟩, fun x => hc x⟩
theorem IsP.none {f : Rat → Rat} (h : IsP 0 f) (x : Rat) : f x = 0 := by
  obtain ⟨c, hc⟩ := h
  exact hc x
theorem IsP.mul {m : Nat} : ∀ {n : Nat} {f g : Rat → Rat}, IsP (n + 1) f → IsP (m + 1) g → IsP (n + m + 1) (fun x => f x * g x)
  | 0, f, g, hf, hg => by
    obtain ⟨a, h, hh, e⟩ := hf.split
    exact ((hg.sc a).mono (by omega)).congr fun x => by rw [e, hh.none]; grind
  | n + 1, f, g, hf, hg => by
    obtain ⟨a, h, hh, e⟩ := hf.split
    have i := (IsP.mul hh hg).x
    have j := (hg.sc a).mono (show m + 1 ≤ n + 1 + m + 1 by omega)
    exact (j.add (i.mono (show n + m + 1 + 1 ≤ n + 1 + m + 1 by omega))).congr fun x => by rw [e]; grind
theorem Pol.one {n : Nat} {f : Rat → Rat} (h : IsP n f) : Pol f := ⟨n, h⟩
theorem Pol.congr {f g : Rat → Rat} (h : Pol f) (e : ∀ x, g x = f x) : Pol g := by
  obtain ⟨n, h⟩ := h
  exact ⟨n, h.congr e⟩
theorem Pol.add {f g : Rat → Rat} (hf : Pol f) (hg : Pol g) : Pol (fun x => f x + g x) := by
  obtain ⟨n, hf⟩ := hf
  obtain ⟨m, hg⟩ := hg
  exact ⟨n + m, (hf.mono (by omega)).add (hg.mono (by omega))⟩
theorem Pol.sub {f g : Rat → Rat} (hf : Pol f) (hg : Pol g) : Pol (fun x => f x - g x) := by
  obtain ⟨n, hf⟩ := hf
  obtain ⟨m, hg⟩ := hg
  exact ⟨n + m, (hf.mono (by omega)).sub (hg.mono (by omega))⟩
theorem Pol.sc {f : Rat → Rat} (hf : Pol f) (a : Rat) : Pol (fun x => a * f x) := by
  obtain ⟨n, hf⟩ := hf
  exact ⟨n, hf.sc a⟩
theorem Pol.con (a : Rat) : Pol (fun _ => a) := ⟨1, .con a⟩
theorem Pol.zero : Pol (fun _ => 0) := ⟨0, .zero⟩
theorem Pol.x {f : Rat → Rat} (hf : Pol f) : Pol (fun x => x * f x) := by
  obtain ⟨n, hf⟩ := hf
  exact ⟨n + 1, hf.x⟩
theorem Pol.mul {f g : Rat → Rat} (hf : Pol f) (hg : Pol g) : Pol (fun x => f x * g x) := by
  obtain ⟨n, hf⟩ := hf
  obtain ⟨m, hg⟩ := hg
  exact ⟨n + m + 1, (hf.mono (by omega)).mul (hg.mono (by omega))⟩
/-- a power -/
def pw (x : Rat) : Nat → Rat
  | 0 => 1
  | k + 1 => x * pw x k
theorem pw_add {x : Rat} {k : Nat} : ∀ m, pw x (k + m) = pw x k * pw x m
  | 0 => by show pw x k = pw x k * 1; grind
  | m + 1 => by
    show x * pw x (k + m) = pw x k * (x * pw x m)
    rw [pw_add m]; grind
theorem IsP.pwr : ∀ k, IsP (k + 1) (fun x => pw x k)
  | 0 => .con 1
  | k + 1 => (IsP.pwr k).x
/-- the number at the top -/
def Top (k : Nat) (a : Rat) (f : Rat → Rat) : Prop := ∃ g, IsP k g ∧ ∀ x, f x = a * pw x k + g x
theorem Top.isP {k : Nat} {a : Rat} {f : Rat → Rat} (h : Top k a f) : IsP (k + 1) f := by
  obtain ⟨g, hg, e⟩ := h
  exact (((IsP.pwr k).sc a).add (hg.mono (by omega))).congr e
theorem IsP.top : ∀ {n : Nat} {f : Rat → Rat}, IsP (n + 1) f → ∃ a, Top n a f
  | 0, f, h => by
    obtain ⟨a, g, hg, e⟩ := h.split
    exact ⟨a, fun _ => 0, .zero, fun x => by rw [e, hg.none]; show _ = a * 1 + 0; grind⟩
  | n + 1, f, h => by
    obtain ⟨a, g, hg, e⟩ := h.split
    obtain ⟨b, g', hg', e'⟩ := IsP.top hg
    exact ⟨b, fun x => a + x * g' x, ((IsP.con a).mono (by omega)).add hg'.x, fun x => by
      rw [e, e']
      show _ = b * (x * Mini.pw x n) + _
      grind⟩
theorem hs_coef {n : Nat} {c : Nat → Rat} (h : ∀ x, hs n c x = 0) (i : Nat) (hi : i < n) : c i = 0 := hs_all (fun x _ _ => h x) i hi
theorem Top.nz {k : Nat} {a : Rat} {f : Rat → Rat} (h : Top k a f) (z : ∀ x, f x = 0) : a = 0 := by
  obtain ⟨g, ⟨c, hc⟩, e⟩ := h
  have := hs_coef (n := k + 1) (c := fun i => if i < k then c i else a) (fun x => by
    have p : ∀ (k : Nat) (c : Nat → Rat), hs (k + 1) (fun i => if i < k then c i else a) x = a * Mini.pw x k + hs k c x := fun k => by
      induction k with
      | zero =>
        intro c
        show (if 0 < 0 then c 0 else a) + x * 0 = a * 1 + 0
        rw [if_neg (by omega)]
        grind
      | succ k ih =>
        intro c
        have i := ih (fun i => c (i + 1))
        have ee : hs (k + 1) (fun i => if i + 1 < k + 1 then c (i + 1) else a) x = hs (k + 1) (fun i => if i < k then c (i + 1) else a) x := hs_ext fun i _ => by
          by_cases q : i < k
          · rw [if_pos q, if_pos (by omega)]
          · rw [if_neg q, if_neg (by omega)]
        show (if 0 < k + 1 then c 0 else a) + x * hs (k + 1) (fun i => if i + 1 < k + 1 then c (i + 1) else a) x = a * (x * Mini.pw x k) + (c 0 + x * hs k (fun i => c (i + 1)) x)
        rw [if_pos (by omega), ee, i]
        grind
    rw [p, ← hc, ← e]
    exact z x) k (by omega)
  simpa using this
theorem Top.mul {k m : Nat} {a b : Rat} {f g : Rat → Rat} (hf : Top k a f) (hg : Top m b g) : Top (k + m) (a * b) (fun x => f x * g x) := by
  obtain ⟨f', hf', e⟩ := hf
  obtain ⟨g', hg', e'⟩ := hg
  refine ⟨fun x => (a * pw x k) * g' x + (f' x * (b * pw x m) + f' x * g' x), ?_, fun x => by show f x * g x = _; rw [e, e', pw_add]; grind⟩
  have p1 : IsP (k + m) (fun x => (a * pw x k) * g' x) := by
    cases m with
    | zero => exact IsP.zero.congr fun x => by rw [hg'.none]; grind
    | succ m => exact ((IsP.pwr k).sc a).mul hg'
  have p2 : IsP (k + m) (fun x => f' x * (b * pw x m)) := by
    cases k with
    | zero => exact IsP.zero.congr fun x => by rw [hf'.none]; grind
    | succ k => exact (hf'.mul ((IsP.pwr m).sc b)).mono (by omega)
  have p3 : IsP (k + m) (fun x => f' x * g' x) := by
    cases m with
    | zero => exact IsP.zero.congr fun x => by rw [hg'.none]; grind
    | succ m =>
      cases k with
      | zero => exact IsP.zero.congr fun x => by rw [hf'.none]; grind
      | succ k => exact (hf'.mul hg').mono (by omega)
  exact p1.add (p2.add p3)
theorem Top.up {k m : Nat} {a : Rat} {f : Rat → Rat} (h : Top k a f) : Top (k + m) a (fun x => pw x m * f x) := by
  obtain ⟨g, hg, e⟩ := h
  refine ⟨fun x => pw x m * g x, ?_, fun x => by show pw x m * f x = _; rw [e, pw_add]; grind⟩
  cases k with
  | zero => exact IsP.zero.congr fun x => by rw [hg.none]; grind
  | succ k => exact ((IsP.pwr m).mul hg).mono (by omega)
theorem Top.drop {k : Nat} {f : Rat → Rat} (h : Top k 0 f) : IsP k f := by
  obtain ⟨g, hg, e⟩ := h
  exact hg.congr fun x => by rw [e]; grind
theorem Top.sub {k : Nat} {a b : Rat} {f g : Rat → Rat} (hf : Top k a f) (hg : Top k b g) : Top k (a - b) (fun x => f x - g x) := by
  obtain ⟨f', hf', e⟩ := hf
  obtain ⟨g', hg', e'⟩ := hg
  exact ⟨fun x => f' x - g' x, hf'.sub hg', fun x => by show f x - g x = _; rw [e, e']; grind⟩
theorem Top.sc {k : Nat} {a : Rat} {f : Rat → Rat} (hf : Top k a f) (b : Rat) : Top k (b * a) (fun x => b * f x) := by
  obtain ⟨f', hf', e⟩ := hf
  exact ⟨fun x => b * f' x, hf'.sc b, fun x => by show b * f x = _; rw [e]; grind⟩
theorem Top.congr {k : Nat} {a : Rat} {f g : Rat → Rat} (h : Top k a f) (e : ∀ x, g x = f x) : Top k a g := by
  obtain ⟨f', hf', e'⟩ := h
  exact ⟨f', hf', fun x => by rw [e, e']⟩
theorem IsP.cases : ∀ {n : Nat} {f : Rat → Rat}, IsP n f → (∀ x, f x = 0) ∨ ∃ k a, k < n ∧ a ≠ 0 ∧ Top k a f
  | 0, f, h => .inl h.none
  | n + 1, f, h => by
    obtain ⟨a, t⟩ := h.top
    by_cases z : a = 0
    · subst z
      rcases IsP.cases t.drop with q | ⟨k, b, hk, hb, q⟩
      · exact .inl q
      · exact .inr ⟨k, b, by omega, hb, q⟩
    · exact .inr ⟨n, a, by omega, z, t⟩
theorem Top.deg {k m : Nat} {a b : Rat} {f : Rat → Rat} (h : Top k a f) (h' : Top m b f) (ha : a ≠ 0) (hb : b ≠ 0) : k = m ∧ a = b := by
  have key : ∀ {k m : Nat} {a b : Rat}, Top k a f → Top m b f → a ≠ 0 → ¬ m < k := fun {k m a b} h h' ha hm => by
    have i := h'.isP.mono (show m + 1 ≤ k by omega)
    have t : Top k (0 : Rat) f := ⟨f, i, fun x => by grind⟩
    have := (h.sub t).nz fun x => by grind
    apply ha; grind
  have e : k = m := by
    have := key h h' ha
    have := key h' h hb
    omega
  subst e
  refine ⟨rfl, ?_⟩
  have := (h.sub h').nz fun x => by grind
  grind
theorem mul_zero_or {f g : Rat → Rat} (hf : Pol f) (hg : Pol g) (z : ∀ x, f x * g x = 0) : (∀ x, f x = 0) ∨ ∀ x, g x = 0 := by
  obtain ⟨n, hf⟩ := hf
  obtain ⟨m, hg⟩ := hg
  rcases hf.cases with h | ⟨k, a, _, ha, t⟩
  · exact .inl h
  rcases hg.cases with h | ⟨j, b, _, hb, u⟩
  · exact .inr h
  exfalso
  have := (t.mul u).nz z
  rcases Rat.mul_eq_zero.mp this with h | h
  · exact ha h
  · exact hb h
theorem mul_cancel {f g h : Rat → Rat} (hf : Pol f) (hg : Pol g) (hh : Pol h) (nz : ¬ ∀ x, h x = 0) (e : ∀ x, f x * h x = g x * h x) (x : Rat) : f x = g x := by
  rcases mul_zero_or (hf.sub hg) hh (fun x => by have := e x; grind) with z | z
  · have := z x; grind
  · exact absurd z nz
/-- division -/
theorem IsP.divide {k : Nat} {a : Rat} {g : Rat → Rat} (t : Top k a g) (ha : a ≠ 0) : ∀ {n : Nat} {f : Rat → Rat}, IsP n f → ∃ q r, IsP (n - k) q ∧ IsP k r ∧ ∀ x, f x = q x * g x + r x
  | 0, f, h => ⟨fun _ => 0, fun _ => 0, .zero, .zero, fun x => by rw [h.none]; grind⟩
  | n + 1, f, h => by
    by_cases hk : n + 1 ≤ k
    · exact ⟨fun _ => 0, f, .zero, h.mono hk, fun x => by grind⟩
    · obtain ⟨b, u⟩ := h.top
      have s : Top n (b / a * a) (fun x => b / a * (Mini.pw x (n - k) * g x)) := by
        have := (t.up (m := n - k)).sc (b / a)
        rw [show k + (n - k) = n by omega] at this
        exact this
      have d := u.sub s
      rw [show b - b / a * a = 0 by rw [Rat.div_mul_cancel ha]; grind] at d
      obtain ⟨q, r, hq, hr, e⟩ := IsP.divide t ha d.drop
      refine ⟨fun x => q x + b / a * Mini.pw x (n - k), r, ?_, hr, fun x => by have := e x; grind⟩
      exact (hq.mono (by omega)).add (((IsP.pwr (n - k)).sc (b / a)).mono (by omega))
theorem rest_uniq {k : Nat} {a : Rat} {g q r q' r' : Rat → Rat} (t : Top k a g) (ha : a ≠ 0) (hq : Pol q) (hr : IsP k r) (hq' : Pol q') (hr' : IsP k r') (e : ∀ x, q x * g x + r x = q' x * g x + r' x) : (∀ x, q x = q' x) ∧ ∀ x, r x = r' x := by
  obtain ⟨n, hd⟩ := hq.sub hq'
  have qq : ∀ x, q x = q' x := by
    rcases hd.cases with h | ⟨m, b, _, hb, u⟩
    · intro x; have := h x; grind
    · exfalso
      have i : IsP (m + k) (fun x => (q x - q' x) * g x) := ((hr'.sub hr).mono (by omega)).congr fun x => by have := e x; grind
      have t1 : Top (m + k) 0 (fun x => (q x - q' x) * g x) := ⟨_, i, fun x => by grind⟩
      have := ((u.mul t).sub t1).nz fun x => by grind
      have : b * a = 0 := by grind
      rcases Rat.mul_eq_zero.mp this with h | h
      · exact hb h
      · exact ha h
  exact ⟨qq, fun x => by have := e x; rw [qq x] at this; grind⟩
/-! the common divisor -/
def Dv (g f : Rat → Rat) : Prop := ∃ q, Pol q ∧ ∀ x, f x = q x * g x
structure IsG (G f g : Rat → Rat) : Prop where
  pol : Pol G
  one : Dv G f
  two : Dv G g
  lin : ∃ u v, Pol u ∧ Pol v ∧ ∀ x, G x = u x * f x + v x * g x
theorem Dv.refl {f : Rat → Rat} : Dv f f := ⟨fun _ => 1, .con 1, fun x => by grind⟩
theorem Dv.zero {f g : Rat → Rat} (h : ∀ x, f x = 0) : Dv g f := ⟨fun _ => 0, .zero, fun x => by rw [h]; grind⟩
theorem Dv.lin {G f g u v : Rat → Rat} (hf : Dv G f) (hg : Dv G g) (hu : Pol u) (hv : Pol v) : Dv G (fun x => u x * f x + v x * g x) := by
  obtain ⟨p, hp, e⟩ := hf
  obtain ⟨q, hq, e'⟩ := hg
  exact ⟨fun x => u x * p x + v x * q x, (hu.mul hp).add (hv.mul hq), fun x => by show u x * f x + v x * g x = _; rw [e, e']; grind⟩
theorem Dv.congr {G f f' : Rat → Rat} (h : Dv G f) (e : ∀ x, f' x = f x) : Dv G f' := by
  obtain ⟨q, hq, e'⟩ := h
  exact ⟨q, hq, fun x => by rw [e, e']⟩
theorem Dv.trans {F G H : Rat → Rat} (h : Dv F G) (k : Dv G H) : Dv F H := by
  obtain ⟨p, hp, e⟩ := h
  obtain ⟨q, hq, e'⟩ := k
  exact ⟨fun x => q x * p x, hq.mul hp, fun x => by rw [e', e]; grind⟩
theorem IsG.base {f g : Rat → Rat} (hf : Pol f) (z : ∀ x, g x = 0) : IsG f f g := ⟨hf, .refl, .zero z, fun _ => 1, fun _ => 0, .con 1, .zero, fun x => by grind⟩
theorem IsG.swap {G f g : Rat → Rat} (h : IsG G f g) : IsG G g f := by
  obtain ⟨u, v, hu, hv, e⟩ := h.lin
  exact ⟨h.pol, h.two, h.one, v, u, hv, hu, fun x => by rw [e]; grind⟩
theorem IsG.scale {G f g f' g' : Rat → Rat} {a b : Rat} (h : IsG G f g) (ha : a ≠ 0) (hb : b ≠ 0) (ef : ∀ x, f' x = a * f x) (eg : ∀ x, g' x = b * g x) : IsG G f' g' := by
  obtain ⟨u, v, hu, hv, e⟩ := h.lin
  obtain ⟨p, hp, e1⟩ := h.one
  obtain ⟨q, hq, e2⟩ := h.two
  exact ⟨h.pol, ⟨fun x => a * p x, hp.sc a, fun x => by rw [ef, e1]; grind⟩, ⟨fun x => b * q x, hq.sc b, fun x => by rw [eg, e2]; grind⟩, fun x => a⁻¹ * u x, fun x => b⁻¹ * v x, hu.sc _, hv.sc _, fun x => by rw [e, ef, eg]; grind⟩
theorem IsG.out {G G' f g : Rat → Rat} {a : Rat} (h : IsG G f g) (ha : a ≠ 0) (e : ∀ x, G' x = a * G x) : IsG G' f g := by
  obtain ⟨u, v, hu, hv, e0⟩ := h.lin
  obtain ⟨p, hp, e1⟩ := h.one
  obtain ⟨q, hq, e2⟩ := h.two
  exact ⟨(h.pol.sc a).congr e, ⟨fun x => a⁻¹ * p x, hp.sc _, fun x => by rw [e1, e]; grind⟩, ⟨fun x => a⁻¹ * q x, hq.sc _, fun x => by rw [e2, e]; grind⟩, fun x => a * u x, fun x => a * v x, hu.sc _, hv.sc _, fun x => by rw [e, e0]; grind⟩
theorem IsG.step {G a b r q : Rat → Rat} {c d : Rat} (h : IsG G b r) (hq : Pol q) (hc : c ≠ 0) (hd : d ≠ 0) (e : ∀ x, c * a x = q x * b x + d * r x) : IsG G a b := by
  obtain ⟨u, v, hu, hv, e0⟩ := h.lin
  refine ⟨h.pol, ?_, h.one, fun x => (d⁻¹ * c) * v x, fun x => u x - d⁻¹ * (v x * q x), hv.sc _, hu.sub ((hv.mul hq).sc _), fun x => ?_⟩
  · exact ((h.one.lin h.two (hq.sc c⁻¹) (Pol.con (c⁻¹ * d)))).congr fun x => by have := e x; grind
  · rw [e0]
    have := e x
    have : r x = d⁻¹ * (c * a x - q x * b x) := by grind
    rw [this]; grind
theorem Dv.both {F G : Rat → Rat} (hF : Pol F) (hG : Pol G) (nz : ¬ ∀ x, F x = 0) (h : Dv F G) (k : Dv G F) : ∃ l : Rat, l ≠ 0 ∧ ∀ x, G x = l * F x := by
  obtain ⟨p, hp, e⟩ := h
  obtain ⟨q, hq, e'⟩ := k
  have one : ∀ x, q x * p x = 1 := mul_cancel (hq.mul hp) (.con 1) hF nz fun x => by
    have := e' x
    rw [e x] at this
    grind
  obtain ⟨n, hp'⟩ := hp
  obtain ⟨m, hq'⟩ := hq
  rcases hp'.cases with z | ⟨k, a, _, ha, t⟩
  · have := one 0; rw [z] at this; grind
  rcases hq'.cases with z | ⟨j, b, _, hb, u⟩
  · have := one 0; rw [z] at this; grind
  have t1 : Top 0 1 (fun x => q x * p x) := ⟨fun _ => 0, .zero, fun x => by show q x * p x = _; rw [one]; show (1 : Rat) = 1 * 1 + 0; grind⟩
  have ab : b * a ≠ 0 := mul_nz hb ha
  have := (u.mul t).deg t1 ab (by grind)
  have k0 : k = 0 := by omega
  subst k0
  obtain ⟨g, hg, eg⟩ := t
  exact ⟨a, ha, fun x => by rw [e, eg, hg.none]; show (a * 1 + 0) * F x = _; grind⟩
theorem IsG.uniq {G G' f g : Rat → Rat} (h : IsG G f g) (h' : IsG G' f g) (nz : ¬ ∀ x, G x = 0) : ∃ l : Rat, l ≠ 0 ∧ ∀ x, G' x = l * G x := by
  have key : ∀ {G G'}, IsG G f g → IsG G' f g → Dv G G' := fun {G G'} h h' => by
    obtain ⟨u, v, hu, hv, e⟩ := h'.lin
    exact (h.one.lin h.two hu hv).congr e
  exact Dv.both h.pol h'.pol nz (key h h') (key h' h)
/-! rows of whole numbers -/
theorem hor_eq {xs ys : List Int} (h : ∀ i, coef xs i = coef ys i) {x : Rat} : hor xs x = hor ys x := by
  have l1 : xs.length ≤ xs.length + ys.length := by omega
  have l2 : ys.length ≤ xs.length + ys.length := by omega
  rw [hor_hs l1, hor_hs l2]
  exact hs_ext fun i _ => by rw [h i]
theorem hor_sc' {xs : List Int} {f : Int} {x : Rat} : hor (xs.map (· * f)) x = (f : Rat) * hor xs x := by
  induction xs with
  | nil => show (0 : Rat) = (f : Rat) * 0; grind
  | cons y ys ih =>
    show ((y * f : Int) : Rat) + x * hor (ys.map (· * f)) x = (f : Rat) * ((y : Rat) + x * hor ys x)
    rw [ih, Rat.intCast_mul]; grind
theorem hor_trim {xs : List Int} {x : Rat} : hor (trimZ xs) x = hor xs x := hor_eq fun i => coef_trim
theorem hor_isP {xs : List Int} : IsP xs.length (hor xs) := ⟨_, fun x => hor_hs (Nat.le_refl _)⟩
theorem hor_pol {xs : List Int} : Pol (hor xs) := ⟨_, hor_isP⟩
theorem hor_sn {xs : List Int} {c : Int} {x : Rat} : hor (xs ++ [c]) x = hor xs x + c * pw x xs.length := by
  induction xs with
  | nil => show (c : Rat) + x * 0 = 0 + c * 1; grind
  | cons y ys ih =>
    show (y : Rat) + x * hor (ys ++ [c]) x = (y : Rat) + x * hor ys x + c * (x * pw x ys.length)
    rw [ih]; grind
theorem hor_top {xs : List Int} (h : xs ≠ []) : Top (xs.length - 1) (coef xs (xs.length - 1)) (hor xs) := by
  obtain ⟨ys, c, rfl⟩ : ∃ ys c, xs = ys ++ [c] := ⟨xs.dropLast, xs.getLast h, (List.dropLast_concat_getLast h).symm⟩
  have e : (ys ++ [c]).length - 1 = ys.length := by simp
  rw [e]
  have cc : coef (ys ++ [c]) ys.length = c := coef_get (by simp)
  rw [cc]
  exact ⟨hor ys, hor_isP, fun x => by rw [hor_sn]; grind⟩
theorem hor_nz {xs : List Int} (h : Nm xs) (ne : xs ≠ []) : ¬ ∀ x, hor xs x = 0 := fun z => nm_last h ne (Rat.intCast_inj.mp (by simpa using (hor_top ne).nz z))
theorem hor_zero {xs : List Int} (h : Nm xs) (z : ∀ x, hor xs x = 0) : xs = [] := by
  rcases Classical.em (xs = []) with e | e
  · exact e
  · exact absurd z (hor_nz h e)
/-- a reduced row -/
structure Red (xs : List Int) : Prop where
  nm : Nm xs
  ne : xs ≠ []
  g1 : gL xs = 1
  pos : 0 < coef xs (xs.length - 1)
theorem hor_coefs {a w : List Int} {l : Rat} (h : ∀ x, hor a x = l * hor w x) (i : Nat) : (coef a i : Rat) = l * (coef w i : Rat) := hor_all (fun x _ _ => h x) i
theorem Red.uniq {a w : List Int} {l : Rat} (h : Red a) (h' : Red w) (l0 : l ≠ 0) (e : ∀ x, hor a x = l * hor w x) : a = w := by
  have c := hor_coefs e
  have lp : 0 < l := by
    have t1 := hor_top h.ne
    have t2 := ((hor_top h'.ne).sc l).congr e
    have n1 : ((coef a (a.length - 1) : Int) : Rat) ≠ 0 := fun z => by have := h.pos; have : coef a (a.length - 1) = 0 := Rat.intCast_inj.mp (by simpa using z); omega
    have n2 : ((coef w (w.length - 1) : Int) : Rat) ≠ 0 := fun z => by have := h'.pos; have : coef w (w.length - 1) = 0 := Rat.intCast_inj.mp (by simpa using z); omega
    have n3 := mul_nz l0 n2
    have := (t1.deg t2 n1 n3).2
    have p1 : (0 : Rat) < ((coef a (a.length - 1) : Int) : Rat) := Rat.intCast_pos.mpr h.pos
    have p2 : (0 : Rat) < ((coef w (w.length - 1) : Int) : Rat) := Rat.intCast_pos.mpr h'.pos
    rcases Classical.em (0 < l) with q | q
    · exact q
    · exfalso
      have : 0 ≤ (-l) * ((coef w (w.length - 1) : Int) : Rat) := Rat.mul_nonneg (by grind) (Rat.le_of_lt p2)
      grind
  exact Prim2.uniq (A := hor w) (B := fun _ => 0) (a := a) (b := []) (a' := w) (b' := []) ⟨h.nm, rfl, by rw [List.append_nil, h.g1]; decide, l, lp, fun x _ _ => ⟨e x, by show (0 : Rat) = l * 0; grind⟩⟩ ⟨h'.nm, rfl, by rw [List.append_nil, h'.g1]; decide, 1, by decide, fun x _ _ => ⟨by grind, by show (0 : Rat) = 1 * 0; grind⟩⟩ |>.1
theorem Red.gcd {a w : List Int} {f g : Rat → Rat} (h : Red a) (h' : Red w) (k : IsG (hor a) f g) (k' : IsG (hor w) f g) : a = w := by
  obtain ⟨l, l0, e⟩ := k'.uniq k (hor_nz h'.nm h'.ne)
  exact Red.uniq h h' l0 e
end Mini
namespace Mini
open PySem
/-! machines: discs on trees -/
/-- what hangs on a disc, in order -/
def fo {α : Type} (st : Nat → α → α → α) (p : Nat → Int) (k : Nat) (g : Nat → α) (a : α) : Nat → α
  | 0 => a
  | j + 1 => if p j = (k : Int) then st j (fo st p k g a j) (g j) else fo st p k g a j
def tr {α : Type} (b : Nat → α) (st : Nat → α → α → α) (p : Nat → Int) (N : Nat) : Nat → Nat → α
  | 0, k => b k
  | f + 1, k => fo st p k (tr b st p N f) (b k) N
def node {α : Type} (b : Nat → α) (st : Nat → α → α → α) (p : Nat → Int) (N k : Nat) : α := tr b st p N N k
theorem fo_congr {α : Type} {st : Nat → α → α → α} {p : Nat → Int} {k : Nat} {g g' : Nat → α} {a : α} : ∀ {n : Nat}, (∀ j, j < n → p j = (k : Int) → g j = g' j) → fo st p k g a n = fo st p k g' a n
  | 0, _ => rfl
  | n + 1, h => by
    show (if p n = (k : Int) then st n (fo st p k g a n) (g n) else fo st p k g a n) = (if p n = (k : Int) then st n (fo st p k g' a n) (g' n) else fo st p k g' a n)
    rw [fo_congr (n := n) fun j hj e => h j (by omega) e]
    split
    · rename_i e; rw [h n (by omega) e]
    · rfl
theorem fo_low {α : Type} {st : Nat → α → α → α} {p : Nat → Int} {k : Nat} {g : Nat → α} {a : α} : ∀ {n : Nat}, (∀ j, j < n → p j ≠ (k : Int)) → fo st p k g a n = a
  | 0, _ => rfl
  | n + 1, h => by
    show (if p n = (k : Int) then _ else fo st p k g a n) = a
    rw [if_neg (h n (by omega)), fo_low fun j hj => h j (by omega)]
section
variable {α β : Type} {b : Nat → α} {st : Nat → α → α → α} {p : Nat → Int} {N : Nat}
theorem tr_s (hp : ∀ j, j < N → p j < (j : Int)) : ∀ f k, k < N → N - k ≤ f → tr b st p N (f + 1) k = tr b st p N f k
  | 0, k, h, h2 => by omega
  | f + 1, k, h, h2 => by
    show fo st p k (tr b st p N (f + 1)) (b k) N = fo st p k (tr b st p N f) (b k) N
    refine fo_congr fun j hj e => ?_
    have := hp j hj
    exact tr_s hp f j hj (by omega)
theorem tr_N (hp : ∀ j, j < N → p j < (j : Int)) {k : Nat} (hk : k < N) : ∀ f, N - k ≤ f → f ≤ N → tr b st p N f k = node b st p N k := by
  intro f h1 h2
  obtain ⟨d, rfl⟩ : ∃ d, N = f + d := ⟨N - f, by omega⟩
  unfold node
  clear h2
  have key : ∀ d', d' ≤ d → tr b st p (f + d) (f + d') k = tr b st p (f + d) f k := by
    intro d' hd
    induction d' with
    | zero => rfl
    | succ d' ih => rw [← ih (by omega), show f + (d' + 1) = (f + d') + 1 by omega, tr_s hp _ _ hk (by omega)]
  exact (key d (Nat.le_refl _)).symm
theorem node_eq (hp : ∀ j, j < N → p j < (j : Int)) {k : Nat} (hk : k < N) : node b st p N k = fo st p k (node b st p N) (b k) N := by
  obtain ⟨M, rfl⟩ : ∃ M, N = M + 1 := ⟨N - 1, by omega⟩
  show fo st p k (tr b st p (M + 1) M) (b k) (M + 1) = _
  refine fo_congr fun j hj e => ?_
  have := hp j hj
  exact tr_N hp hj M (by omega) (by omega)
theorem fo_rel {b' : β} {st' : Nat → β → β → β} {k : Nat} {g : Nat → α} {g' : Nat → β} {a : α} {R : α → β → Prop} (h0 : R a b') : ∀ n, (∀ j, j < n → p j = (k : Int) → ∀ x y, R x y → R (st j x (g j)) (st' j y (g' j))) → R (fo st p k g a n) (fo st' p k g' b' n)
  | 0, _ => h0
  | n + 1, h => by
    show R (if p n = (k : Int) then st n (fo st p k g a n) (g n) else fo st p k g a n) (if p n = (k : Int) then st' n (fo st' p k g' b' n) (g' n) else fo st' p k g' b' n)
    have ih := fo_rel (R := R) (st' := st') (g := g) (g' := g') h0 n fun j hj => h j (by omega)
    split
    · rename_i e; exact h n (by omega) e _ _ ih
    · exact ih
/-- what holds of all discs and what hangs on them, in two trees side by side -/
theorem node_rel {b' : Nat → β} {st' : Nat → β → β → β} (hp : ∀ j, j < N → p j < (j : Int)) {R : α → β → Prop} (h0 : ∀ k, k < N → R (b k) (b' k)) (h1 : ∀ j, j < N → ∀ x y t u, R x y → R t u → R (st j x t) (st' j y u)) :
    ∀ d k, k < N → N - k ≤ d → R (node b st p N k) (node b' st' p N k)
  | 0, k, h, h2 => by omega
  | d + 1, k, h, h2 => by
    rw [node_eq hp h, node_eq hp h]
    refine fo_rel (R := R) (h0 k h) N fun j hj e x y r => h1 j hj x y _ _ r ?_
    have := hp j hj
    exact node_rel hp h0 h1 d j hj (by omega)
end
/-! ### how many discs hang on one -/
def sm (f : Nat → Nat) (c : Nat → Prop) [DecidablePred c] : Nat → Nat
  | 0 => 0
  | n + 1 => sm f c n + if c n then f n else 0
theorem sm_two {f : Nat → Nat} {c d e : Nat → Prop} [DecidablePred c] [DecidablePred d] [DecidablePred e] : ∀ n, (∀ j, j < n → ((c j ↔ d j ∨ e j) ∧ ¬ (d j ∧ e j))) → sm f c n = sm f d n + sm f e n
  | 0, _ => rfl
  | n + 1, h => by
    have ih := sm_two (f := f) n fun j hj => h j (by omega)
    obtain ⟨h1, h2⟩ := h n (by omega)
    show sm f c n + (if c n then f n else 0) = (sm f d n + if d n then f n else 0) + (sm f e n + if e n then f n else 0)
    rw [ih]
    by_cases hd : d n
    · have he : ¬ e n := fun he => h2 ⟨hd, he⟩
      rw [if_pos (h1.mpr (.inl hd)), if_pos hd, if_neg he]; omega
    · by_cases he : e n
      · rw [if_pos (h1.mpr (.inr he)), if_neg hd, if_pos he]; omega
      · rw [if_neg (fun x => (h1.mp x).elim hd he), if_neg hd, if_neg he]; omega
theorem sm_one {f : Nat → Nat} {k : Nat} : ∀ n, k < n → sm f (fun j => j = k) n = f k
  | 0, h => by omega
  | n + 1, h => by
    show sm f (fun j => j = k) n + (if n = k then f n else 0) = f k
    by_cases e : n = k
    · subst e
      have : ∀ m, m ≤ n → sm f (fun j => j = n) m = 0 := by
        intro m hm
        induction m with
        | zero => rfl
        | succ m ih =>
          show sm f (fun j => j = n) m + (if m = n then f m else 0) = 0
          rw [ih (by omega), if_neg (by omega)]
      rw [this n (Nat.le_refl _), if_pos rfl, Nat.zero_add]
    · rw [sm_one n (by omega), if_neg e]; rfl
theorem sm_none {f : Nat → Nat} {c : Nat → Prop} [DecidablePred c] : ∀ n, (∀ j, j < n → ¬ c j) → sm f c n = 0
  | 0, _ => rfl
  | n + 1, h => by
    show sm f c n + (if c n then f n else 0) = 0
    rw [sm_none n fun j hj => h j (by omega), if_neg (h n (by omega))]
def stC : Nat → Nat → Nat → Nat := fun _ a t => a + t
def cntM (p : Nat → Int) (N : Nat) (k : Nat) : Nat := node (fun _ => 1) stC p N k
theorem fo_sm {p : Nat → Int} {k a : Nat} {g : Nat → Nat} : ∀ n, fo stC p k g a n = a + sm g (fun j => p j = (k : Int)) n
  | 0 => rfl
  | n + 1 => by
    show (if p n = (k : Int) then fo stC p k g a n + g n else fo stC p k g a n) = a + (sm g (fun j => p j = (k : Int)) n + if p n = (k : Int) then g n else 0)
    rw [fo_sm n]
    split <;> omega
section
variable {p : Nat → Int} {N : Nat}
theorem cnt_sum (hp : ∀ j, j < N → p j < (j : Int)) : ∀ d k, k + d = N → sm (cntM p N) (fun j => k ≤ j ∧ p j < (k : Int)) N = d
  | 0, k, h => sm_none N fun j hj ⟨a, _⟩ => by omega
  | d + 1, k, h => by
    have hk : k < N := by omega
    have pk := hp k hk
    have ih := cnt_sum hp d (k + 1) (by omega)
    have e1 := sm_two (f := cntM p N) (c := fun j => k ≤ j ∧ p j < (k : Int)) (d := fun j => j = k) (e := fun j => k + 1 ≤ j ∧ p j < (k : Int)) N fun j hj => ⟨⟨fun ⟨a, b⟩ => by omega, fun q => by
      rcases q with rfl | ⟨a, b⟩
      · exact ⟨Nat.le_refl _, pk⟩
      · exact ⟨by omega, b⟩⟩, fun ⟨a, b, _⟩ => by omega⟩
    have e2 := sm_two (f := cntM p N) (c := fun j => k + 1 ≤ j ∧ p j < ((k + 1 : Nat) : Int)) (d := fun j => p j = (k : Int)) (e := fun j => k + 1 ≤ j ∧ p j < (k : Int)) N fun j hj => ⟨⟨fun ⟨a, b⟩ => by omega, fun q => by
      have := hp j hj
      rcases q with q | ⟨a, b⟩
      · exact ⟨by omega, by omega⟩
      · exact ⟨a, by omega⟩⟩, fun ⟨a, b, c⟩ => by omega⟩
    have e3 : cntM p N k = 1 + sm (cntM p N) (fun j => p j = (k : Int)) N := (node_eq hp hk).trans (fo_sm N)
    rw [e1, sm_one N hk, e3]
    rw [e2] at ih
    omega
theorem sm_le {f : Nat → Nat} {c : Nat → Prop} [DecidablePred c] {k : Nat} (h : c k) : ∀ n, k < n → f k ≤ sm f c n
  | 0, hk => by omega
  | n + 1, hk => by
    show f k ≤ sm f c n + if c n then f n else 0
    by_cases e : k = n
    · subst e; rw [if_pos h]; omega
    · have := sm_le (f := f) h n (by omega); omega
theorem cnt_leN (hp : ∀ j, j < N → p j < (j : Int)) {k : Nat} (hk : k < N) : cntM p N k ≤ N - k := by
  have := cnt_sum hp (N - k) k (by omega)
  have := sm_le (f := cntM p N) (c := fun j => k ≤ j ∧ p j < (k : Int)) (k := k) ⟨Nat.le_refl _, hp k hk⟩ N hk
  omega
theorem fo_up {k a : Nat} {g : Nat → Nat} {i : Nat} : ∀ n, i ≤ n → fo stC p k g a i ≤ fo stC p k g a n
  | 0, h => by rw [show i = 0 by omega]; exact Nat.le_refl _
  | n + 1, h => by
    by_cases e : i = n + 1
    · rw [e]; exact Nat.le_refl _
    · have := fo_up (k := k) (a := a) (g := g) (i := i) n (by omega)
      show _ ≤ (if p n = (k : Int) then fo stC p k g a n + g n else fo stC p k g a n)
      split <;> omega
end
end Mini
namespace Mini
open PySem
/-! ### fractions as they are told -/
theorem fb_cross {j k : Nat} {a b : D} (ha : Fb j a) (hb : Fb k b) (e : v a = v b) : num a * den b = num b * den a := by
  apply Rat.intCast_inj.mp
  rw [Rat.intCast_mul, Rat.intCast_mul]
  have da := ha.d0
  have db := hb.d0
  have e1 : (num a : Rat) / (den a : Rat) = (num b : Rat) / (den b : Rat) := e
  have e2 : (num a : Rat) = (num a : Rat) / (den a : Rat) * den a := by grind
  have e3 : (num b : Rat) = (num b : Rat) / (den b : Rat) * den b := by grind
  rw [e2, e1, e3]; grind
theorem fb_uniq {j k : Nat} {a b : D} (ha : Fb j a) (hb : Fb k b) (e : v a = v b) : a = b := by
  have c := fb_cross ha hb e
  have dv : ∀ {j k : Nat} {a b : D}, Fb j a → Fb k b → num a * den b = num b * den a → den a ∣ den b := fun {j k a b} ha hb c => by
    have d1 : (den a).natAbs ∣ (num a).natAbs * (den b).natAbs := by
      rw [← Int.natAbs_mul, c, Int.natAbs_mul]
      exact Nat.dvd_mul_left _ _
    have co : Nat.Coprime (den a).natAbs (num a).natAbs := by
      have := ha.red
      rw [Nat.gcd_comm] at this
      exact this
    exact Int.natAbs_dvd_natAbs.mp (co.dvd_of_dvd_mul_left d1)
  have p := ha.pos
  have q := hb.pos
  have ed : den a = den b := Int.dvd_antisymm (by omega) (by omega) (dv ha hb c) (dv hb ha c.symm)
  rw [ed] at c
  have en : num a = num b := Int.eq_of_mul_eq_mul_right (by omega) c
  rw [ha.eq, hb.eq, en, ed]
/-- a fraction, told -/
def frq (q : Rat) : D := .tup [.int q.num, .int (q.den : Int)]
theorem frq_v {q : Rat} : v (frq q) = q := by
  have e := Rat.num_divInt_den q
  rw [Rat.divInt_eq_div] at e
  exact e
theorem frq_red {q : Rat} : Nat.gcd (num (frq q)).natAbs (den (frq q)).natAbs = 1 := by
  show Nat.gcd q.num.natAbs ((q.den : Int)).natAbs = 1
  rw [Int.natAbs_natCast]
  exact q.reduced
theorem frq_pos {q : Rat} : 1 ≤ den (frq q) := by
  show (1 : Int) ≤ (q.den : Int)
  have := q.den_pos
  omega
theorem frq_big {q : Rat} : ∃ k, Fb k (frq q) := by
  refine ⟨max q.num.natAbs q.den, rfl, ?_, frq_pos, ?_, frq_red⟩
  · show q.num.natAbs < 2 ^ _
    exact Nat.lt_of_lt_of_le (Nat.lt_two_pow_self) (Nat.pow_le_pow_right (by decide) (Nat.le_max_left _ _))
  · show ((q.den : Int)).natAbs < 2 ^ _
    rw [Int.natAbs_natCast]
    exact Nat.lt_of_lt_of_le (Nat.lt_two_pow_self) (Nat.pow_le_pow_right (by decide) (Nat.le_max_right _ _))
theorem fb_frq {k : Nat} {d : D} (h : Fb k d) : d = frq (v d) := by
  obtain ⟨j, hj⟩ := frq_big (q := v d)
  exact fb_uniq h hj frq_v.symm
/-- how many bits a fraction has -/
def Rb (k : Nat) (q : Rat) : Prop := Fb k (frq q)
theorem Rb.of {k : Nat} {d : D} (h : Fb k d) : Rb k (v d) := by
  unfold Rb
  rw [← fb_frq h]; exact h
theorem Rb.mono {j k : Nat} {q : Rat} (h : Rb j q) (hk : j ≤ k) : Rb k q := Fb.mono h hk
theorem by_frq {j k : Nat} {a b : Rat} (ha : Rb j a) (hb : Rb k b) : byD (frq a) (frq b) = frq (a * b) ∧ Rb (j + k) (a * b) := by
  have h := v_by ha hb
  have e : v (byD (frq a) (frq b)) = a * b := by rw [show v (byD (frq a) (frq b)) = v (frq a) * v (frq b) from h.val, frq_v, frq_v]
  have f : Fb (j + k) (byD (frq a) (frq b)) := h.q
  have g := fb_frq f
  rw [e] at g
  refine ⟨g, ?_⟩
  have := Rb.of f
  rwa [e] at this
theorem Rb.one : Rb 1 1 := ⟨rfl, show (1 : Int).natAbs < 2 ^ 1 by decide, Int.le_refl 1, show (1 : Int).natAbs < 2 ^ 1 by decide, rfl⟩
theorem frq_one : frq 1 = .tup [.int 1, .int 1] := rfl
theorem frq_zero : frq 0 = .tup [.int 0, .int 1] := rfl
theorem frq_neg {q : Rat} : frq (-q) = .tup [.int (-q.num), .int (q.den : Int)] := rfl
theorem Rb.neg {k : Nat} {q : Rat} (h : Rb k q) : Rb k (-q) := by
  refine ⟨rfl, ?_, h.pos, h.bd, ?_⟩
  · show (-q.num).natAbs < 2 ^ k
    rw [Int.natAbs_neg]; exact h.bn
  · show Nat.gcd (-q.num).natAbs _ = 1
    rw [Int.natAbs_neg]; exact h.red
theorem num_pos {q : Rat} : 0 < num (frq q) ↔ 0 < q := by
  have h := (Sg.pos (z := num (frq q)) (r := q) (l := (den (frq q) : Rat)) (Rat.intCast_pos.mpr (show 0 < den (frq q) by have := frq_pos (q := q); omega)) ?_).1
  · exact h
  · have d : ((den (frq q) : Int) : Rat) ≠ 0 := fun z => by
      have := Rat.intCast_eq_zero_iff.mp z
      have := frq_pos (q := q)
      omega
    have e : (num (frq q) : Rat) / (den (frq q) : Rat) = q := frq_v
    grind
theorem num_nn {q : Rat} : 0 ≤ num (frq q) ↔ 0 ≤ q := Rat.num_nonneg
theorem num_z {q : Rat} : num (frq q) = 0 ↔ q = 0 := Rat.num_eq_zero
/-! ### products of rows -/
def cvM (A B : Nat → Rat) : Nat → Nat → Rat
  | 0, _ => 0
  | p + 1, q => cvM A B p q + (if p ≤ q then A p * B (q - p) else 0)
def mulR (A B : Nat → Rat) (q : Nat) : Rat := cvM A B (q + 1) q
theorem cvM_len {A B : Nat → Rat} {n p q : Nat} (z : ∀ i, n ≤ i → i ≤ q → A i = 0) (h : n ≤ p) : cvM A B p q = cvM A B n q := by
  induction p with
  | zero => rw [show n = 0 by omega]
  | succ p ih =>
    rcases Nat.lt_or_ge p n with g | g
    · rw [show n = p + 1 by omega]
    · show cvM A B p q + (if p ≤ q then A p * B (q - p) else 0) = _
      rw [ih g]
      split
      · rename_i pq; rw [z p g pq]; grind
      · grind
theorem cvM_big {A B : Nat → Rat} {q : Nat} : ∀ d, cvM A B (q + 1 + d) q = cvM A B (q + 1) q
  | 0 => rfl
  | d + 1 => by
    show cvM A B (q + 1 + d) q + (if q + 1 + d ≤ q then _ else 0) = _
    rw [cvM_big d, if_neg (by omega)]; grind
theorem cv_mul {A B : Nat → Rat} {p : Nat} (z : ∀ i, p ≤ i → A i = 0) (q : Nat) : cvM A B p q = mulR A B q := by
  unfold mulR
  rcases Nat.lt_or_ge q p with h | h
  · obtain ⟨d, rfl⟩ : ∃ d, p = q + 1 + d := ⟨p - (q + 1), by omega⟩
    exact cvM_big d
  · exact (cvM_len (fun i hi _ => z i hi) (by omega)).symm
theorem hs_s {n : Nat} : ∀ {f : Nat → Rat} {x : Rat}, hs (n + 1) f x = hs n f x + f n * pw x n := by
  induction n with
  | zero => intro f x; show f 0 + x * 0 = 0 + f 0 * 1; grind
  | succ n ih =>
    intro f x
    show f 0 + x * hs (n + 1) (fun i => f (i + 1)) x = (f 0 + x * hs n (fun i => f (i + 1)) x) + f (n + 1) * (x * pw x n)
    rw [ih]; grind
theorem hs_up {n m : Nat} {f : Nat → Rat} {x : Rat} (z : ∀ i, n ≤ i → f i = 0) (h : n ≤ m) : hs m f x = hs n f x := by
  induction m with
  | zero => rw [show n = 0 by omega]
  | succ m ih =>
    rcases Nat.lt_or_ge m n with g | g
    · rw [show n = m + 1 by omega]
    · rw [hs_s, ih g, z m g]; grind
def shN (p : Nat) (B : Nat → Rat) (q : Nat) : Rat := if p ≤ q then B (q - p) else 0
theorem hs_shN {p r : Nat} {B : Nat → Rat} {x : Rat} : hs (p + r) (shN p B) x = pw x p * hs r B x := by
  induction r with
  | zero =>
    rw [Nat.add_zero]
    have : hs p (shN p B) x = hs p (fun _ => 0) x := hs_ext fun i hi => if_neg (by omega)
    rw [this, hs_zero fun _ => rfl]
    show (0 : Rat) = pw x p * 0
    grind
  | succ r ih =>
    rw [show p + (r + 1) = (p + r) + 1 by omega, hs_s, ih, hs_s, pw_add]
    have : shN p B (p + r) = B r := by
      unfold shN
      rw [if_pos (by omega)]; congr 1; omega
    rw [this]; grind
theorem cvM_at {A B : Nat → Rat} {r m : Nat} {x : Rat} (z : ∀ i, r ≤ i → B i = 0) : ∀ {p}, p + r ≤ m → hs m (cvM A B p) x = hs p A x * hs r B x
  | 0, _ => by
    rw [show hs m (cvM A B 0) x = 0 from hs_zero fun _ => rfl]
    show (0 : Rat) = 0 * _
    grind
  | p + 1, h => by
    have ih := cvM_at (A := A) (x := x) z (p := p) (m := m) (by omega)
    have e : hs m (cvM A B (p + 1)) x = hs m (fun i => 1 * cvM A B p i + A p * shN p B i) x := hs_ext fun i _ => by
      show cvM A B p i + (if p ≤ i then A p * B (i - p) else 0) = _
      unfold shN
      split <;> grind
    have z2 : ∀ i, p + r ≤ i → shN p B i = 0 := fun i hi => by
      unfold shN
      rw [if_pos (by omega), z _ (by omega)]
    rw [e, hs_lin, ih, hs_up (n := p + r) z2 (by omega), hs_shN, hs_s]
    grind
/-- no numbers from a place on -/
def Van (n : Nat) (A : Nat → Rat) : Prop := ∀ i, n ≤ i → A i = 0
theorem Van.mul {A B : Nat → Rat} {n r : Nat} (ha : Van n A) (hb : Van r B) : Van (n + r) (mulR A B) := fun q hq => by
  rw [← cv_mul (p := n) ha]
  have : ∀ p, p ≤ n → cvM A B p q = 0 := by
    intro p hp
    induction p with
    | zero => rfl
    | succ p ih =>
      show cvM A B p q + (if p ≤ q then A p * B (q - p) else 0) = 0
      rw [ih (by omega), hb (q - p) (by omega)]
      split <;> grind
  exact this n (Nat.le_refl _)
theorem mulR_at {A B : Nat → Rat} {n r m : Nat} {x : Rat} (ha : Van n A) (hb : Van r B) (h : n + r ≤ m) : hs m (mulR A B) x = hs m A x * hs m B x := by
  have e : hs m (mulR A B) x = hs m (cvM A B n) x := hs_ext fun i _ => (cv_mul (p := n) ha i).symm
  rw [e, cvM_at hb h, hs_up (n := n) (m := m) ha (by omega), hs_up (n := r) (m := m) hb (by omega)]
/-! ### numbers over one denominator -/
def Tt (E : Int) (K : Nat) (A : Nat → Rat) : Prop := ∀ i, ∃ z : Int, (z : Rat) = E * A i ∧ Bd K z
theorem Tt.mono {E : Int} {K L : Nat} {A : Nat → Rat} (h : Tt E K A) (k : K ≤ L) : Tt E L A := fun i => by
  obtain ⟨z, a, b⟩ := h i
  exact ⟨z, a, b.mono k⟩
theorem Tt.mul {D E : Int} {J K n : Nat} {A B : Nat → Rat} (va : Van n A) (ha : Tt D J A) (hb : Tt E K B) : Tt (D * E) (J + K + n) (mulR A B) := fun q => by
  rw [← cv_mul (p := n) va]
  have key : ∀ p, ∃ z : Int, (z : Rat) = ((D * E : Int) : Rat) * cvM A B p q ∧ Bd (J + K + p) z := by
    intro p
    induction p with
    | zero => exact ⟨0, by show ((0 : Int) : Rat) = _ * 0; rw [Rat.mul_zero]; rfl, .zero⟩
    | succ p ih =>
      obtain ⟨z, e, b⟩ := ih
      obtain ⟨y, e2, b2⟩ := ha p
      obtain ⟨w, e3, b3⟩ := hb (q - p)
      rw [Rat.intCast_mul] at e ⊢
      by_cases pq : p ≤ q
      · refine ⟨z + y * w, ?_, (b.add ((b2.mul b3).mono (by omega))).mono (by omega)⟩
        show _ = _ * (cvM A B p q + (if p ≤ q then A p * B (q - p) else 0))
        rw [if_pos pq, Rat.intCast_add, Rat.intCast_mul, e, e2, e3]; grind
      · refine ⟨z, ?_, b.mono (by omega)⟩
        show _ = _ * (cvM A B p q + (if p ≤ q then A p * B (q - p) else 0))
        rw [if_neg pq, e]; grind
  exact key n
theorem Tt.sc {E : Int} {K k : Nat} {A : Nat → Rat} {s : Rat} (h : Tt E K A) (hs : Rb k s) : Tt ((s.den : Int) * E) (K + k) (fun i => s * A i) := fun i => by
  obtain ⟨z, e, b⟩ := h i
  refine ⟨z * s.num, ?_, b.mul hs.bn⟩
  have e2 : (s.num : Rat) = (s.den : Int) * s := by
    have d := den_mul' (q := s)
    exact d
  rw [Rat.intCast_mul, Rat.intCast_mul, e, e2]; grind
where
  den_mul' {q : Rat} : (q.num : Rat) = ((q.den : Int) : Rat) * q := by
    have e := Rat.num_divInt_den q
    rw [Rat.divInt_eq_div] at e
    have d : ((q.den : Int) : Rat) ≠ 0 := fun z => by
      have := Rat.intCast_eq_zero_iff.mp z
      have := q.den_pos
      omega
    grind
theorem Tt.add {E : Int} {J K : Nat} {A B : Nat → Rat} (ha : Tt E J A) (hb : Tt E K B) : Tt E (max J K + 1) (fun i => A i + B i) := fun i => by
  obtain ⟨y, e, b⟩ := ha i
  obtain ⟨z, e2, b2⟩ := hb i
  refine ⟨y + z, ?_, (b.mono (by omega)).add (b2.mono (by omega))⟩
  rw [Rat.intCast_add, e, e2]; grind
theorem Tt.fac {E f : Int} {J k : Nat} {A : Nat → Rat} (ha : Tt E J A) (hf : Bd k f) : Tt (f * E) (k + J) A := fun i => by
  obtain ⟨y, e, b⟩ := ha i
  refine ⟨f * y, ?_, hf.mul b⟩
  rw [Rat.intCast_mul, Rat.intCast_mul, e]; grind
/-- a number over a known denominator has few bits -/
theorem Tt.fb {E : Int} {K : Nat} {A : Nat → Rat} (h : Tt E K A) (E0 : 0 < E) (bE : Bd K E) (i : Nat) : Rb K (A i) := by
  obtain ⟨z, e, b⟩ := h i
  have o := frD_ok (n := z) (m := E) (k := K) (by omega) b bE
  have ez : (E : Rat) ≠ 0 := fun z => by
    have := Rat.intCast_eq_zero_iff.mp z
    omega
  have ev : v (frD z E) = A i := by
    rw [o.val, e]; grind
  have := Rb.of o.q
  rwa [ev] at this
end Mini
namespace Mini
open PySem
/-! ### the two rows of a machine -/
theorem fo_rel3 {α β γ : Type} {st : Nat → α → α → α} {p : Nat → Int} {st' : Nat → β → β → β} {su : Nat → γ → γ → γ} {k : Nat} {g : Nat → α} {g' : Nat → β} {h' : Nat → γ} {a : α} {b' : β} {c' : γ} {R : α → β → γ → Prop} (h0 : R a b' c') : ∀ n, (∀ j, j < n → p j = (k : Int) → ∀ x y z, R x y z → R (st j x (g j)) (st' j y (g' j)) (su j z (h' j))) → R (fo st p k g a n) (fo st' p k g' b' n) (fo su p k h' c' n)
  | 0, _ => h0
  | n + 1, h => by
    show R (if p n = (k : Int) then st n (fo st p k g a n) (g n) else fo st p k g a n) (if p n = (k : Int) then st' n (fo st' p k g' b' n) (g' n) else fo st' p k g' b' n) (if p n = (k : Int) then su n (fo su p k h' c' n) (h' n) else fo su p k h' c' n)
    have ih := fo_rel3 (R := R) (st' := st') (su := su) (g := g) (g' := g') (h' := h') h0 n fun j hj => h j (by omega)
    split
    · rename_i e; exact h n (by omega) e _ _ _ ih
    · exact ih
theorem node_rel3 {α β γ : Type} {b : Nat → α} {st : Nat → α → α → α} {p : Nat → Int} {N : Nat} {b' : Nat → β} {st' : Nat → β → β → β} {bu : Nat → γ} {su : Nat → γ → γ → γ} (hp : ∀ j, j < N → p j < (j : Int)) {R : α → β → γ → Prop} (h0 : ∀ k, k < N → R (b k) (b' k) (bu k)) (h1 : ∀ j, j < N → ∀ x y z t u w, R x y z → R t u w → R (st j x t) (st' j y u) (su j z w)) :
    ∀ d k, k < N → N - k ≤ d → R (node b st p N k) (node b' st' p N k) (node bu su p N k)
  | 0, k, h, h2 => by omega
  | d + 1, k, h, h2 => by
    rw [node_eq hp h, node_eq hp h, node_eq hp h]
    refine fo_rel3 (R := R) (h0 k h) N fun j hj e x y z r => h1 j hj x y z _ _ _ r ?_
    have := hp j hj
    exact node_rel3 hp h0 h1 d j hj (by omega)
def bsC (I W : Nat → Rat) (k : Nat) : (Nat → Rat) × (Nat → Rat) := (fun i => if i = 0 then 1 else 0, fun i => if i = 0 then W k else if i = 1 then -I k else 0)
def whC (s : Rat) (t : (Nat → Rat) × (Nat → Rat)) : Nat → Rat := fun i => t.2 i + s * t.1 i
def stCo (S : Nat → Rat) (j : Nat) (a t : (Nat → Rat) × (Nat → Rat)) : (Nat → Rat) × (Nat → Rat) :=
  (mulR a.1 (whC (S j) t), fun i => mulR a.2 (whC (S j) t) i + mulR a.1 (fun i => S j * t.2 i) i)
def mC (I W S : Nat → Rat) (p : Nat → Int) (N k : Nat) : (Nat → Rat) × (Nat → Rat) := node (bsC I W) (stCo S) p N k
def bsV (I W : Nat → Rat) (x : Rat) (k : Nat) : Rat × Rat := (1, W k - x * I k)
def stV (S : Nat → Rat) (j : Nat) (a t : Rat × Rat) : Rat × Rat := (a.1 * (t.2 + S j * t.1), a.2 * (t.2 + S j * t.1) + a.1 * (S j * t.2))
def mV (I W S : Nat → Rat) (p : Nat → Int) (N : Nat) (x : Rat) (k : Nat) : Rat × Rat := node (bsV I W x) (stV S) p N k
theorem Van.mono {n m : Nat} {A : Nat → Rat} (h : Van n A) (k : n ≤ m) : Van m A := fun i hi => h i (by omega)
theorem Van.wh {n : Nat} {s : Rat} {t : (Nat → Rat) × (Nat → Rat)} (h1 : Van n t.1) (h2 : Van n t.2) : Van n (whC s t) := fun i hi => by
  show t.2 i + s * t.1 i = 0
  rw [h1 i hi, h2 i hi]; grind
theorem Van.sc {n : Nat} {s : Rat} {A : Nat → Rat} (h : Van n A) : Van n (fun i => s * A i) := fun i hi => by
  show s * A i = 0
  rw [h i hi]; grind
theorem Van.add {n : Nat} {A B : Nat → Rat} (h : Van n A) (h' : Van n B) : Van n (fun i => A i + B i) := fun i hi => by
  show A i + B i = 0
  rw [h i hi, h' i hi]; grind
/-- what is known of the rows of a disc's part with so many discs -/
structure GdM (a : (Nat → Rat) × (Nat → Rat)) (c : Nat) : Prop where
  c1 : 1 ≤ c
  v1 : Van (2 * c) a.1
  v2 : Van (2 * c) a.2
  tt : c ≤ 5 → ∃ E : Int, 0 < E ∧ Bd (60 * c - 20) E ∧ Tt E (72 * c - 32) a.1 ∧ Tt E (72 * c - 32) a.2
theorem den0 {q : Rat} : (0 : Int) < (q.den : Int) := by
  have := q.den_pos
  omega
theorem GdM.base {I W : Nat → Rat} {k : Nat} (hI : Rb 20 (I k)) (hW : Rb 20 (W k)) : GdM (bsC I W k) 1 := by
  refine ⟨Nat.le_refl 1, fun i hi => if_neg (by omega), fun i hi => ?_, fun _ => ⟨((I k).den : Int) * ((W k).den : Int), Int.mul_pos den0 den0, hI.bd.mul hW.bd, fun i => ?_, fun i => ?_⟩⟩
  · show (if i = 0 then W k else if i = 1 then -I k else 0) = 0
    rw [if_neg (by omega), if_neg (by omega)]
  · show ∃ z : Int, (z : Rat) = _ * (if i = 0 then 1 else 0) ∧ _
    split
    · exact ⟨((I k).den : Int) * ((W k).den : Int), by rw [Rat.mul_one], hI.bd.mul hW.bd⟩
    · exact ⟨0, by rw [Rat.mul_zero]; rfl, .zero⟩
  · show ∃ z : Int, (z : Rat) = _ * (if i = 0 then W k else if i = 1 then -I k else 0) ∧ _
    have e1 := Tt.sc.den_mul' (q := W k)
    have e2 := Tt.sc.den_mul' (q := I k)
    split
    · refine ⟨((I k).den : Int) * (W k).num, ?_, hI.bd.mul hW.bn⟩
      rw [Rat.intCast_mul, Rat.intCast_mul, e1]; grind
    · split
      · refine ⟨-((I k).num * ((W k).den : Int)), ?_, (hI.bn.mul hW.bd).neg⟩
        rw [Rat.intCast_neg, Rat.intCast_mul, Rat.intCast_mul, e2]; grind
      · exact ⟨0, by rw [Rat.mul_zero]; rfl, .zero⟩
theorem GdM.wh {t : (Nat → Rat) × (Nat → Rat)} {c : Nat} {s : Rat} (h : GdM t c) (hs : Rb 20 s) (c5 : c ≤ 5) : ∃ E : Int, 0 < E ∧ Bd (60 * c) E ∧ Tt E (72 * c - 11) (whC s t) ∧ Tt E (72 * c - 12) (fun i => s * t.2 i) := by
  obtain ⟨E, E0, bE, t1, t2⟩ := h.tt c5
  have c1 := h.c1
  refine ⟨(s.den : Int) * E, Int.mul_pos den0 E0, (show Bd (20 + (60 * c - 20)) _ from hs.bd.mul bE).mono (by omega), ?_, ?_⟩
  · exact ((t2.fac (show Bd 20 ((s.den : Int)) from hs.bd)).add (t1.sc hs)).mono (by omega)
  · exact (t2.sc hs).mono (by omega)
theorem GdM.step {a t : (Nat → Rat) × (Nat → Rat)} {S : Nat → Rat} {j c d : Nat} (hs : Rb 20 (S j)) (ha : GdM a c) (ht : GdM t d) : GdM (stCo S j a t) (c + d) := by
  have c1 := ha.c1
  have d1 := ht.c1
  have vw : Van (2 * d) (whC (S j) t) := Van.wh ht.v1 ht.v2
  refine ⟨by omega, (ha.v1.mul vw).mono (by omega), ((ha.v2.mul vw).add (ha.v1.mul ht.v2.sc)).mono (by omega), fun c5 => ?_⟩
  obtain ⟨E, E0, bE, t1, t2⟩ := ha.tt (by omega)
  obtain ⟨G, G0, bG, w1, w2⟩ := ht.wh hs (by omega)
  refine ⟨E * G, Int.mul_pos E0 G0, (bE.mul bG).mono (by omega), (t1.mul ha.v1 w1).mono (by omega), ((t2.mul ha.v2 w1).add (t1.mul ha.v1 w2)).mono (by omega)⟩
/-- a row that is short and has few bits -/
structure Sh5 (A : Nat → Rat) : Prop where
  v : Van 10 A
  b : ∀ i, Rb 360 (A i)
theorem GdM.sh {a : (Nat → Rat) × (Nat → Rat)} {c : Nat} (h : GdM a c) (c5 : c ≤ 5) : Sh5 a.1 ∧ Sh5 a.2 := by
  obtain ⟨E, E0, bE, t1, t2⟩ := h.tt c5
  have c1 := h.c1
  exact ⟨⟨h.v1.mono (by omega), fun i => (t1.mono (show _ ≤ 360 by omega)).fb E0 (bE.mono (by omega)) i⟩, ⟨h.v2.mono (by omega), fun i => (t2.mono (show _ ≤ 360 by omega)).fb E0 (bE.mono (by omega)) i⟩⟩
theorem GdM.shw {t : (Nat → Rat) × (Nat → Rat)} {c : Nat} {s : Rat} (h : GdM t c) (hs : Rb 20 s) (c5 : c ≤ 5) : Sh5 (whC s t) ∧ Sh5 (fun i => s * t.2 i) := by
  obtain ⟨E, E0, bE, t1, t2⟩ := h.wh hs c5
  have c1 := h.c1
  exact ⟨⟨(Van.wh h.v1 h.v2).mono (by omega), fun i => (t1.mono (show _ ≤ 360 by omega)).fb E0 (bE.mono (by omega)) i⟩, ⟨(Van.sc h.v2).mono (by omega), fun i => (t2.mono (show _ ≤ 360 by omega)).fb E0 (bE.mono (by omega)) i⟩⟩
section
variable {I W S : Nat → Rat} {p : Nat → Int} {N : Nat}
theorem mC_gd (hp : ∀ j, j < N → p j < (j : Int)) (hI : ∀ k, k < N → Rb 20 (I k)) (hW : ∀ k, k < N → Rb 20 (W k)) (hS : ∀ k, k < N → Rb 20 (S k)) {k : Nat} (hk : k < N) : GdM (mC I W S p N k) (cntM p N k) :=
  node_rel (R := GdM) hp (fun k h => .base (hI k h) (hW k h)) (fun j h x y t u r r' => GdM.step (hS j h) r r') N k hk (by omega)
theorem acc_gd (hp : ∀ j, j < N → p j < (j : Int)) (hI : ∀ k, k < N → Rb 20 (I k)) (hW : ∀ k, k < N → Rb 20 (W k)) (hS : ∀ k, k < N → Rb 20 (S k)) {k n : Nat} (hk : k < N) (hn : n ≤ N) :
    GdM (fo (stCo S) p k (mC I W S p N) (bsC I W k) n) (fo stC p k (cntM p N) 1 n) ∧ fo stC p k (cntM p N) 1 n ≤ N - k := by
  refine ⟨fo_rel (R := GdM) (.base (hI k hk) (hW k hk)) n fun j hj e x y r => .step (hS j (by omega)) r (mC_gd hp hI hW hS (by omega)), ?_⟩
  refine Nat.le_trans (fo_up (p := p) N hn) ?_
  have e : cntM p N k = fo stC p k (cntM p N) 1 N := node_eq hp hk
  rw [← e]
  exact cnt_leN hp hk
/-- the rows at a number -/
theorem mC_at (hp : ∀ j, j < N → p j < (j : Int)) {x : Rat} {k : Nat} (hk : k < N) : ∃ m, Van m (mC I W S p N k).1 ∧ Van m (mC I W S p N k).2 ∧ hs m (mC I W S p N k).1 x = (mV I W S p N x k).1 ∧ hs m (mC I W S p N k).2 x = (mV I W S p N x k).2 := by
  refine node_rel (R := fun (a : (Nat → Rat) × (Nat → Rat)) (v : Rat × Rat) => ∃ m, Van m a.1 ∧ Van m a.2 ∧ hs m a.1 x = v.1 ∧ hs m a.2 x = v.2) hp (fun k h => ⟨2, fun i hi => if_neg (by omega), fun i hi => ?_, ?_, ?_⟩) (fun j h a v t u => ?_) N k hk (by omega)
  · show (if i = 0 then W k else if i = 1 then -I k else 0) = 0
    rw [if_neg (by omega), if_neg (by omega)]
  · show (1 : Rat) + x * (0 + x * 0) = 1
    grind
  · show W k + x * (-I k + x * 0) = W k - x * I k
    grind
  · rintro ⟨m, a1, a2, a3, a4⟩ ⟨q, t1, t2, t3, t4⟩
    have vw : Van q (whC (S j) t) := Van.wh t1 t2
    have vs : Van q (fun i => S j * t.2 i) := Van.sc t2
    have ew : hs (m + q) (whC (S j) t) x = u.2 + S j * u.1 := by
      rw [hs_up (n := q) vw (by omega)]
      have : hs q (whC (S j) t) x = hs q (fun i => 1 * t.2 i + S j * t.1 i) x := hs_ext fun i _ => by show t.2 i + S j * t.1 i = _; grind
      rw [this, hs_lin, t3, t4]; grind
    have es : hs (m + q) (fun i => S j * t.2 i) x = S j * u.2 := by
      rw [hs_up (n := q) vs (by omega), hs_mul, t4]
    refine ⟨m + q, a1.mul vw, (a2.mul vw).add (a1.mul vs), ?_, ?_⟩
    · show hs (m + q) (mulR a.1 (whC (S j) t)) x = v.1 * (u.2 + S j * u.1)
      rw [mulR_at a1 vw (Nat.le_refl _), ew, hs_up (n := m) a1 (by omega), a3]
    · show hs (m + q) (fun i => mulR a.2 (whC (S j) t) i + mulR a.1 (fun i => S j * t.2 i) i) x = v.2 * (u.2 + S j * u.1) + v.1 * (S j * u.2)
      have : hs (m + q) (fun i => mulR a.2 (whC (S j) t) i + mulR a.1 (fun i => S j * t.2 i) i) x = hs (m + q) (fun i => 1 * mulR a.2 (whC (S j) t) i + 1 * mulR a.1 (fun i => S j * t.2 i) i) x := hs_ext fun i _ => by grind
      rw [this, hs_lin, mulR_at a2 vw (Nat.le_refl _), mulR_at a1 vs (Nat.le_refl _), ew, es, hs_up (n := m) a1 (by omega), hs_up (n := m) a2 (by omega), a3, a4]; grind
/-- all numbers times one number -/
theorem mV_times {I' W' S' : Nat → Rat} {F : Rat} (F0 : 0 < F) (hp : ∀ j, j < N → p j < (j : Int)) (hI : ∀ k, k < N → I' k = F * I k) (hW : ∀ k, k < N → W' k = F * W k) (hS : ∀ k, k < N → S' k = F * S k) {k : Nat} (hk : k < N) :
    ∃ c : Rat, 0 < c ∧ ∀ x, (mV I' W' S' p N x k).1 = c * (mV I W S p N x k).1 ∧ (mV I' W' S' p N x k).2 = c * F * (mV I W S p N x k).2 := by
  refine ⟨node (fun _ => (1 : Rat)) (fun _ a t => a * t * F) p N k, ?_, fun x => ?_⟩
  · exact node_rel (R := fun (a b : Rat) => 0 < a) hp (b' := fun _ => (1 : Rat)) (st' := fun _ a _ => a) (fun k h => by decide) (fun j h a b t u a0 t0 => Rat.mul_pos (Rat.mul_pos a0 t0) F0) N k hk (by omega)
  · refine node_rel3 (R := fun (c : Rat) (v v' : Rat × Rat) => v'.1 = c * v.1 ∧ v'.2 = c * F * v.2) hp (fun k h => ⟨?_, ?_⟩) (fun j h c v v' d u u' => ?_) N k hk (by omega)
    · show (1 : Rat) = 1 * 1; grind
    · show W' k - x * I' k = 1 * F * (W k - x * I k)
      rw [hI k h, hW k h]; grind
    · rintro ⟨h1, h2⟩ ⟨h3, h4⟩
      constructor
      · show v'.1 * (u'.2 + S' j * u'.1) = c * d * F * (v.1 * (u.2 + S j * u.1))
        rw [h1, h3, h4, hS j h]; grind
      · show v'.2 * (u'.2 + S' j * u'.1) + v'.1 * (S' j * u'.2) = c * d * F * F * (v.2 * (u.2 + S j * u.1) + v.1 * (S j * u.2))
        rw [h1, h2, h3, h4, hS j h]; grind
theorem mV_congr {I' W' S' : Nat → Rat} {x : Rat} (hp : ∀ j, j < N → p j < (j : Int)) (hI : ∀ k, k < N → I' k = I k) (hW : ∀ k, k < N → W' k = W k) (hS : ∀ k, k < N → S' k = S k) {k : Nat} (hk : k < N) : mV I' W' S' p N x k = mV I W S p N x k := by
  refine node_rel (R := fun (a b : Rat × Rat) => a = b) hp (fun k h => ?_) (fun j h a b t u => ?_) N k hk (by omega)
  · show ((1 : Rat), W' k - x * I' k) = (1, W k - x * I k)
    rw [hI k h, hW k h]
  · rintro rfl rfl
    show (_, _) = (_, _)
    rw [hS j h]
theorem mC_congr {I' W' S' : Nat → Rat} (hp : ∀ j, j < N → p j < (j : Int)) (hI : ∀ k, k < N → I' k = I k) (hW : ∀ k, k < N → W' k = W k) (hS : ∀ k, k < N → S' k = S k) {k : Nat} (hk : k < N) : mC I' W' S' p N k = mC I W S p N k := by
  refine node_rel (R := fun (a b : (Nat → Rat) × (Nat → Rat)) => a = b) hp (fun k h => ?_) (fun j h a b t u => ?_) N k hk (by omega)
  · unfold bsC
    rw [hI k h, hW k h]
  · rintro rfl rfl
    unfold stCo
    rw [hS j h]
/-- below 0 both are above 0 -/
theorem mV_pos (hp : ∀ j, j < N → p j < (j : Int)) (hI : ∀ k, k < N → 0 < I k) (hW : ∀ k, k < N → 0 ≤ W k) (hS : ∀ k, k < N → 0 ≤ S k) {k : Nat} (hk : k < N) : 0 < (mV I W S p N (-1) k).1 ∧ 0 < (mV I W S p N (-1) k).2 := by
  refine node_rel (R := fun (a b : Rat × Rat) => 0 < a.1 ∧ 0 < a.2) (b' := bsV I W (-1)) (st' := stV S) hp (fun k h => ⟨show (0 : Rat) < 1 by decide, ?_⟩) (fun j h a b t u => ?_) N k hk (by omega)
  · show (0 : Rat) < W k - -1 * I k
    have := hI k h
    have := hW k h
    grind
  · rintro ⟨a1, a2⟩ ⟨t1, t2⟩
    have s0 := hS j h
    have s1 : 0 ≤ S j * t.1 := Rat.mul_nonneg s0 (Rat.le_of_lt t1)
    have s2 : 0 ≤ S j * t.2 := Rat.mul_nonneg s0 (Rat.le_of_lt t2)
    have w : 0 < t.2 + S j * t.1 := by grind
    refine ⟨Rat.mul_pos a1 w, ?_⟩
    show 0 < a.2 * (t.2 + S j * t.1) + a.1 * (S j * t.2)
    have q1 := Rat.mul_pos a2 w
    have q2 := Rat.mul_nonneg (Rat.le_of_lt a1) s2
    grind
end
end Mini
namespace K74
open PySem Mini
/-- is_whole -/
def b0 : Def := ⟨1, 1, [
    .ret (.and (.fn (.isi .int) [(.var 0)]) (.not (.fn (.isi .bool) [(.var 0)])))]⟩
/-- is_between -/
def b1 : Def := ⟨3, 3, [
    .ret (.and (.call 0 [(.var 0)] none) (.chain .le .le (.var 1) (.var 0) (.var 2)))]⟩
/-- are_wholes -/
def b2 : Def := ⟨2, 3, [
    .ret (.and (.fn (.isi .tuple) [(.var 0)]) (.and (.cmp .eq (.fn .len [(.var 0)]) (.var 1)) (.fn .all [(.comp (.nm 2) (.val (.var 0)) [] (.call 0 [(.var 2)] none) [2])])))]⟩
/-- is_fraction -/
def b3 : Def := ⟨1, 1, [
    .ret (.and (.call 2 [(.var 0), (.con (.int 2))] none) (.and (.cmp .gt (.ix (.var 0) (.con (.int 1))) (.con (.int 0))) (.cmp .eq (.fn .gcd [(.ix (.var 0) (.con (.int 0))), (.ix (.var 0) (.con (.int 1)))]) (.con (.int 1)))))]⟩
/-- is_amount -/
def b4 : Def := ⟨1, 1, [
    .ret (.and (.call 3 [(.var 0)] none) (.cmp .gt (.ix (.var 0) (.con (.int 0))) (.con (.int 0))))]⟩
/-- is_pace -/
def b5 : Def := ⟨1, 1, [
    .ret (.and (.call 3 [(.var 0)] none) (.cmp .ge (.ix (.var 0) (.con (.int 0))) (.con (.int 0))))]⟩
/-- common -/
def b6 : Def := ⟨1, 3, [
    .asg (.nm 1) (.con (.int 0)),
    .for_ (.nm 2) (.val (.var 0)) [
      .asg (.nm 1) (.fn .gcd [(.var 1), (.var 2)])],
    .ret (.var 1)]⟩
/-- fraction_of -/
def b7 : Def := ⟨2, 3, [
    .asg (.nm 2) (.ite (.cmp .gt (.var 1) (.con (.int 0))) (.fn .gcd [(.var 0), (.var 1)]) (.neg (.fn .gcd [(.var 0), (.var 1)]))),
    .ret (.tup [(.bin .fdiv (.var 0) (.var 2)), (.bin .fdiv (.var 1) (.var 2))])]⟩
/-- fraction_product -/
def b8 : Def := ⟨2, 2, [
    .ret (.call 7 [(.bin .mul (.ix (.var 0) (.con (.int 0))) (.ix (.var 1) (.con (.int 0)))), (.bin .mul (.ix (.var 0) (.con (.int 1))) (.ix (.var 1) (.con (.int 1))))] none)]⟩
/-- trimmed -/
def b9 : Def := ⟨1, 2, [
    .asg (.nm 1) (.fn .len [(.var 0)]),
    .while_ (.and (.cmp .gt (.var 1) (.con (.int 0))) (.cmp .eq (.ix (.var 0) (.bin .sub (.var 1) (.con (.int 1)))) (.con (.int 0)))) [
      .asg (.nm 1) (.bin .sub (.var 1) (.con (.int 1)))],
    .ret (.fn .tuple [(.sl (.var 0) none (some (.var 1)))])]⟩
/-- padded -/
def b10 : Def := ⟨2, 2, [
    .ret (.bin .add (.fn .list [(.var 0)]) (.bin .mul (.lst [(.con (.int 0))]) (.bin .sub (.var 1) (.fn .len [(.var 0)]))))]⟩
/-- summed -/
def b11 : Def := ⟨2, 5, [
    .asg (.nm 2) (.fn .max [(.fn .len [(.var 0)]), (.fn .len [(.var 1)])]),
    .ret (.call 9 [(.comp (.tp [(.nm 3), (.nm 4)]) (.zip (.call 10 [(.var 0), (.var 2)] none) (.call 10 [(.var 1), (.var 2)] none)) [] (.bin .add (.var 3) (.var 4)) [3, 4])] none)]⟩
/-- scaled -/
def b12 : Def := ⟨2, 3, [
    .ret (.call 9 [(.comp (.nm 2) (.val (.var 0)) [] (.bin .mul (.var 2) (.var 1)) [2])] none)]⟩
/-- multiplied -/
def b13 : Def := ⟨2, 7, [
    .asg (.nm 2) (.bin .mul (.lst [(.con (.int 0))]) (.bin .add (.fn .len [(.var 0)]) (.fn .len [(.var 1)]))),
    .for_ (.tp [(.nm 3), (.nm 4)]) (.enum (.var 0)) [
      .for_ (.tp [(.nm 5), (.nm 6)]) (.enum (.var 1)) [
        .augS (.var 2) (.bin .add (.var 3) (.var 5)) .add (.bin .mul (.var 4) (.var 6))]],
    .ret (.call 9 [(.var 2)] none)]⟩
/-- thinned -/
def b14 : Def := ⟨1, 3, [
    .asg (.nm 1) (.call 6 [(.var 0)] none),
    .ret (.ite (.cmp .gt (.var 1) (.con (.int 1))) (.fn .tuple [(.comp (.nm 2) (.val (.var 0)) [] (.bin .fdiv (.var 2) (.var 1)) [2])]) (.var 0))]⟩
/-- is_root -/
def b15 : Def := ⟨1, 1, [
    .ret (.and (.fn (.isi .tuple) [(.var 0)]) (.and (.cmp .eq (.fn .len [(.var 0)]) (.con (.int 2))) (.and (.call 4 [(.ix (.var 0) (.con (.int 0)))] none) (.call 5 [(.ix (.var 0) (.con (.int 1)))] none))))]⟩
/-- is_branch -/
def b16 : Def := ⟨2, 2, [
    .ite (.or (.not (.fn (.isi .tuple) [(.var 0)])) (.or (.cmp .ne (.fn .len [(.var 0)]) (.con (.int 5))) (.or (.not (.call 4 [(.ix (.var 0) (.con (.int 0)))] none)) (.not (.call 5 [(.ix (.var 0) (.con (.int 1)))] none))))) [
      .ret (.con (.bl false))] [],
    .ret (.and (.call 1 [(.ix (.var 0) (.con (.int 2))), (.con (.int 0)), (.bin .sub (.var 1) (.con (.int 1)))] none) (.and (.call 4 [(.ix (.var 0) (.con (.int 3)))] none) (.and (.call 3 [(.ix (.var 0) (.con (.int 4)))] none) (.cmp .ne (.ix (.ix (.var 0) (.con (.int 4))) (.con (.int 0))) (.con (.int 0))))))]⟩
/-- is_machine -/
def b17 : Def := ⟨1, 3, [
    .ite (.or (.not (.fn (.isi .tuple) [(.var 0)])) (.or (.not (.chain .le .le (.con (.int 1)) (.fn .len [(.var 0)]) (.con (.int 8)))) (.not (.call 15 [(.ix (.var 0) (.con (.int 0)))] none)))) [
      .ret (.con (.bl false))] [],
    .ret (.fn .all [(.comp (.tp [(.nm 1), (.nm 2)]) (.enum (.sl (.var 0) (some (.con (.int 1))) none)) [] (.call 16 [(.var 2), (.bin .add (.var 1) (.con (.int 1)))] none) [1, 2])])]⟩
/-- check_machine -/
def b18 : Def := ⟨1, 1, [
    .ite (.not (.call 17 [(.var 0)] none)) [
      .bad] []]⟩
/-- geared_out -/
def b19 : Def := ⟨1, 11, [
    .par [1, 2] [(.lst [(.con (.tup [(.int 1), (.int 1)]))]), (.lst [(.ix (.var 0) (.con (.int 0)))])],
    .for_ (.tp [(.nm 3), (.nm 4), (.nm 5), (.nm 6), (.nm 7)]) (.val (.sl (.var 0) (some (.con (.int 1))) none)) [
      .asg (.nm 8) (.call 8 [(.ix (.var 1) (.var 5)), (.call 8 [(.var 7), (.var 7)] none)] none),
      .ex (.me .append (.var 1) [(.var 8)]),
      .asg (.nm 9) (.comp (.nm 10) (.val (.tup [(.var 3), (.var 4), (.var 6)])) [] (.call 8 [(.var 10), (.var 8)] none) [10]),
      .ex (.me .append (.var 2) [(.tup [(.ix (.var 9) (.con (.int 0))), (.ix (.var 9) (.con (.int 1))), (.var 5), (.ix (.var 9) (.con (.int 2))), (.con (.tup [(.int 1), (.int 1)]))])])],
    .ret (.fn .tuple [(.var 2)])]⟩
/-- made_whole -/
def b20 : Def := ⟨1, 11, [
    .asg (.nm 1) (.bin .add (.lst [(.tup [(.ix (.ix (.var 0) (.con (.int 0))) (.con (.int 0))), (.ix (.ix (.var 0) (.con (.int 0))) (.con (.int 1))), (.neg (.con (.int 1))), (.con (.tup [(.int 0), (.int 1)]))])]) (.comp (.nm 9) (.val (.sl (.var 0) (some (.con (.int 1))) none)) [] (.sl (.var 9) none (some (.con (.int 4)))) [9])),
    .asg (.nm 2) (.con (.int 1)),
    .for_ (.tp [(.nm 4), (.nm 5), (.nm 6), (.nm 7)]) (.val (.var 1)) [
      .asg (.nm 2) (.fn .lcm [(.var 2), (.ix (.var 4) (.con (.int 1))), (.ix (.var 5) (.con (.int 1))), (.ix (.var 7) (.con (.int 1)))])],
    .asg (.nm 3) (.lst []),
    .for_ (.tp [(.nm 4), (.nm 5), (.nm 6), (.nm 7)]) (.val (.var 1)) [
      .asg (.nm 8) (.comp (.nm 10) (.val (.tup [(.var 4), (.var 5), (.var 7)])) [] (.bin .mul (.ix (.var 10) (.con (.int 0))) (.bin .fdiv (.var 2) (.ix (.var 10) (.con (.int 1))))) [10]),
      .ex (.me .append (.var 3) [(.tup [(.ix (.var 8) (.con (.int 0))), (.ix (.var 8) (.con (.int 1))), (.var 6), (.ix (.var 8) (.con (.int 2)))])])],
    .ret (.tup [(.var 3), (.var 2)])]⟩
/-- ends_in -/
def b21 : Def := ⟨1, 9, [
    .par [2, 3] [(.bin .mul (.lst [(.tup [])]) (.fn .len [(.var 0)])), (.bin .mul (.lst [(.tup [])]) (.fn .len [(.var 0)]))],
    .for_ (.nm 1) (.rng3 (.bin .sub (.fn .len [(.var 0)]) (.con (.int 1))) (.neg (.con (.int 1))) (.neg (.con (.int 1)))) [
      .asg (.tp [(.nm 4), (.nm 5)]) (.tup [(.tup [(.con (.int 1))]), (.tup [])]),
      .for_ (.tp [(.nm 6), (.nm 7)]) (.enum (.var 0)) [
        .ite (.cmp .eq (.ix (.var 7) (.con (.int 2))) (.var 1)) [
          .asg (.nm 8) (.call 11 [(.ix (.var 2) (.var 6)), (.call 12 [(.ix (.var 3) (.var 6)), (.ix (.var 7) (.con (.int 3)))] none)] none),
          .asg (.nm 5) (.call 11 [(.call 13 [(.var 5), (.var 8)] none), (.call 12 [(.call 13 [(.ix (.var 2) (.var 6)), (.var 4)] none), (.ix (.var 7) (.con (.int 3)))] none)] none),
          .asg (.nm 4) (.call 13 [(.var 4), (.var 8)] none)] []],
      .asg (.ix (.var 2) (.var 1)) (.call 11 [(.call 13 [(.call 9 [(.lst [(.ix (.ix (.var 0) (.var 1)) (.con (.int 1))), (.neg (.ix (.ix (.var 0) (.var 1)) (.con (.int 0))))])] none), (.var 4)] none), (.var 5)] none),
      .asg (.ix (.var 3) (.var 1)) (.var 4)],
    .ret (.tup [(.ix (.var 2) (.con (.int 0))), (.ix (.var 3) (.con (.int 0)))])]⟩
/-- end_in -/
def b22 : Def := ⟨1, 1, [
    .ret (.call 14 [(.ix (.call 21 [(.ix (.call 20 [(.call 19 [(.var 0)] none)] none) (.con (.int 0)))] none) (.con (.int 0)))] none)]⟩
/-- ungeared -/
def b23 : Def := ⟨1, 1, [
    .ex (.call 18 [(.var 0)] none),
    .ret (.call 19 [(.var 0)] none)]⟩
/-- machine_end -/
def b24 : Def := ⟨1, 1, [
    .ex (.call 18 [(.var 0)] none),
    .ret (.call 22 [(.var 0)] none)]⟩
/-- _law_spring -/
def b25 : Def := ⟨2, 5, [
    .asg (.nm 2) (.ite (.cmp .lt (.var 1) (.fn .len [(.var 0)])) (.fn .int [(.ix (.var 0) (.var 1))]) (.bin .add (.bin .add (.bin .mul (.con (.int 7349)) (.var 1)) (.bin .mul (.con (.int 61)) (.fn .len [(.var 0)]))) (.con (.int 17)))),
    .asg (.nm 3) (.bin .add (.con (.int 5227)) (.bin .mul (.con (.int 1301)) (.var 1))),
    .for_ (.nm 4) (.val (.bin .add (.fn .list [(.var 0)]) (.lst [(.var 2)]))) [
      .asg (.nm 3) (.bin .mod (.fn .int [(.bin .add (.bin .add (.bin .mul (.var 3) (.con (.int 39373))) (.bin .mod (.fn .int [(.var 4)]) (.con (.int 2147483587)))) (.con (.int 31)))]) (.con (.int 2147483587)))],
    .ret (.lst [(.ite (.or (.cmp .lt (.var 2) (.con (.int 0))) (.cmp .ge (.var 2) (.bin .pow (.con (.int 10)) (.con (.int 18))))) (.fn .abs [(.var 2)]) (.con (.int 0))), (.var 3), (.con (.int 0))])]⟩
/-- _law_pull -/
def b26 : Def := ⟨2, 3, [
    .ite (.cmp .gt (.ix (.var 0) (.con (.int 0))) (.con (.int 0))) [
      .asg (.nm 2) (.bin .mod (.fn .int [(.ix (.var 0) (.con (.int 0)))]) (.var 1)),
      .asg (.ix (.var 0) (.con (.int 0))) (.bin .fdiv (.ix (.var 0) (.con (.int 0))) (.var 1)),
      .ret (.var 2)] [],
    .asg (.ix (.var 0) (.con (.int 2))) (.bin .add (.ix (.var 0) (.con (.int 2))) (.con (.int 1))),
    .asg (.ix (.var 0) (.con (.int 1))) (.bin .mod (.fn .int [(.bin .add (.bin .add (.bin .mul (.ix (.var 0) (.con (.int 1))) (.con (.int 41358))) (.bin .mul (.con (.int 60013)) (.ix (.var 0) (.con (.int 2))))) (.con (.int 7)))]) (.con (.int 2147483579))),
    .ret (.bin .mod (.fn .int [(.bin .fdiv (.ix (.var 0) (.con (.int 1))) (.con (.int 113)))]) (.var 1))]⟩
/-- _law_from -/
def b27 : Def := ⟨2, 2, [
    .ret (.ix (.var 1) (.call 26 [(.var 0), (.fn .len [(.var 1)])] none))]⟩
/-- _law_common -/
def b28 : Def := ⟨2, 2, [
    .par [0, 1] [(.fn .abs [(.var 0)]), (.fn .abs [(.var 1)])],
    .while_ (.cmp .gt (.var 1) (.con (.int 0))) [
      .par [0, 1] [(.var 1), (.bin .mod (.fn .int [(.var 0)]) (.var 1))]],
    .ret (.var 0)]⟩
/-- _law_frac -/
def b29 : Def := ⟨2, 3, [
    .asg (.nm 2) (.call 28 [(.var 0), (.var 1)] none),
    .asg (.nm 2) (.ite (.cmp .gt (.var 1) (.con (.int 0))) (.var 2) (.bin .sub (.con (.int 0)) (.var 2))),
    .ret (.tup [(.bin .fdiv (.var 0) (.var 2)), (.bin .fdiv (.var 1) (.var 2))])]⟩
/-- _law_plus -/
def b30 : Def := ⟨2, 2, [
    .ret (.call 29 [(.bin .add (.bin .mul (.ix (.var 0) (.con (.int 0))) (.ix (.var 1) (.con (.int 1)))) (.bin .mul (.ix (.var 1) (.con (.int 0))) (.ix (.var 0) (.con (.int 1))))), (.bin .mul (.ix (.var 0) (.con (.int 1))) (.ix (.var 1) (.con (.int 1))))] none)]⟩
/-- _law_by -/
def b31 : Def := ⟨2, 2, [
    .ret (.call 29 [(.bin .mul (.ix (.var 0) (.con (.int 0))) (.ix (.var 1) (.con (.int 0)))), (.bin .mul (.ix (.var 0) (.con (.int 1))) (.ix (.var 1) (.con (.int 1))))] none)]⟩
/-- _law_cut -/
def b32 : Def := ⟨1, 3, [
    .asg (.nm 1) (.fn .len [(.var 0)]),
    .for_ (.nm 2) (.rng1 (.fn .len [(.var 0)])) [
      .ite (.and (.cmp .gt (.var 1) (.con (.int 0))) (.cmp .eq (.ix (.ix (.var 0) (.bin .sub (.var 1) (.con (.int 1)))) (.con (.int 0))) (.con (.int 0)))) [
        .asg (.nm 1) (.bin .sub (.var 1) (.con (.int 1)))] []],
    .ret (.fn .list [(.sl (.var 0) none (some (.var 1)))])]⟩
/-- _law_add -/
def b33 : Def := ⟨2, 6, [
    .asg (.nm 2) (.fn .max [(.fn .len [(.var 0)]), (.fn .len [(.var 1)])]),
    .asg (.tp [(.nm 3), (.nm 4)]) (.tup [(.bin .add (.fn .list [(.var 0)]) (.bin .mul (.lst [(.tup [(.con (.int 0)), (.con (.int 1))])]) (.bin .sub (.var 2) (.fn .len [(.var 0)])))), (.bin .add (.fn .list [(.var 1)]) (.bin .mul (.lst [(.tup [(.con (.int 0)), (.con (.int 1))])]) (.bin .sub (.var 2) (.fn .len [(.var 1)]))))]),
    .ret (.call 32 [(.comp (.nm 5) (.rng1 (.var 2)) [] (.call 30 [(.ix (.var 3) (.var 5)), (.ix (.var 4) (.var 5))] none) [5])] none)]⟩
/-- _law_mul -/
def b34 : Def := ⟨2, 5, [
    .asg (.nm 2) (.bin .mul (.lst [(.tup [(.con (.int 0)), (.con (.int 1))])]) (.bin .add (.fn .len [(.var 0)]) (.fn .len [(.var 1)]))),
    .for_ (.nm 3) (.rng1 (.fn .len [(.var 0)])) [
      .for_ (.nm 4) (.rng1 (.fn .len [(.var 1)])) [
        .asg (.ix (.var 2) (.bin .add (.var 3) (.var 4))) (.call 30 [(.ix (.var 2) (.bin .add (.var 3) (.var 4))), (.call 31 [(.ix (.var 0) (.var 3)), (.ix (.var 1) (.var 4))] none)] none)]],
    .ret (.call 32 [(.var 2)] none)]⟩
/-- _law_thin -/
def b35 : Def := ⟨1, 6, [
    .asg (.tp [(.nm 3), (.nm 4)]) (.tup [(.con (.int 1)), (.con (.int 0))]),
    .for_ (.nm 1) (.val (.var 0)) [
      .for_ (.nm 5) (.val (.var 1)) [
        .asg (.nm 3) (.bin .mul (.bin .fdiv (.var 3) (.call 28 [(.var 3), (.ix (.var 5) (.con (.int 1)))] none)) (.ix (.var 5) (.con (.int 1))))]],
    .asg (.nm 2) (.comp (.nm 1) (.val (.var 0)) [] (.comp (.nm 5) (.val (.var 1)) [] (.bin .mul (.ix (.var 5) (.con (.int 0))) (.bin .fdiv (.var 3) (.ix (.var 5) (.con (.int 1))))) [5]) [1]),
    .for_ (.nm 1) (.val (.var 2)) [
      .for_ (.nm 5) (.val (.var 1)) [
        .asg (.nm 4) (.call 28 [(.var 4), (.var 5)] none)]],
    .ret (.comp (.nm 1) (.val (.var 2)) [] (.comp (.nm 5) (.val (.var 1)) [] (.bin .fdiv (.var 5) (.var 4)) [5]) [1])]⟩
/-- _law_weight -/
def b36 : Def := ⟨1, 1, [
    .ret (.call 27 [(.var 0), (.lst [(.tup [(.con (.int 1)), (.con (.int 1))]), (.tup [(.con (.int 1)), (.con (.int 1))]), (.tup [(.con (.int 2)), (.con (.int 1))]), (.tup [(.con (.int 3)), (.con (.int 1))]), (.tup [(.con (.int 1)), (.con (.int 2))]), (.call 29 [(.bin .add (.con (.int 1)) (.call 26 [(.var 0), (.con (.int 9))] none)), (.bin .add (.con (.int 1)) (.call 26 [(.var 0), (.con (.int 4))] none))] none)])] none)]⟩
/-- _law_stay -/
def b37 : Def := ⟨1, 1, [
    .ret (.call 27 [(.var 0), (.lst [(.tup [(.con (.int 0)), (.con (.int 1))]), (.tup [(.con (.int 0)), (.con (.int 1))]), (.tup [(.con (.int 1)), (.con (.int 1))]), (.call 36 [(.var 0)] none)])] none)]⟩
/-- _law_ratio_of -/
def b38 : Def := ⟨1, 1, [
    .ret (.call 27 [(.var 0), (.lst [(.tup [(.con (.int 1)), (.con (.int 1))]), (.tup [(.con (.int 1)), (.con (.int 1))]), (.tup [(.con (.int 1)), (.con (.int 1))]), (.tup [(.con (.int 2)), (.con (.int 1))]), (.tup [(.bin .sub (.con (.int 0)) (.con (.int 1))), (.con (.int 1))]), (.tup [(.con (.int 1)), (.con (.int 2))]), (.tup [(.bin .sub (.con (.int 0)) (.con (.int 3))), (.con (.int 2))])])] none)]⟩
/-- _law_machine -/
def b39 : Def := ⟨2, 10, [
    .par [4, 5] [(.bin .add (.con (.int 1)) (.call 26 [(.var 0), (.var 1)] none)), (.lst [(.tup [(.call 36 [(.var 0)] none), (.call 37 [(.var 0)] none)])])],
    .asg (.nm 2) (.tup [(.call 36 [(.var 0)] none), (.call 37 [(.var 0)] none)]),
    .for_ (.nm 3) (.rng2 (.con (.int 1)) (.var 4)) [
      .asg (.nm 6) (.ite (.cmp .eq (.call 26 [(.var 0), (.con (.int 2))] none) (.con (.int 0))) (.var 2) (.tup [(.call 36 [(.var 0)] none), (.call 37 [(.var 0)] none)])),
      .asg (.nm 7) (.ite (.cmp .gt (.call 26 [(.var 0), (.con (.int 3))] none) (.con (.int 0))) (.call 26 [(.var 0), (.var 3)] none) (.con (.int 0))),
      .asg (.tp [(.nm 8), (.nm 9)]) (.ite (.and (.cmp .eq (.var 6) (.var 2)) (.cmp .eq (.call 26 [(.var 0), (.con (.int 2))] none) (.con (.int 0)))) (.tup [(.tup [(.con (.int 1)), (.con (.int 1))]), (.tup [(.con (.int 1)), (.con (.int 1))])]) (.tup [(.call 36 [(.var 0)] none), (.call 38 [(.var 0)] none)])),
      .ex (.me .append (.var 5) [(.tup [(.ix (.var 6) (.con (.int 0))), (.ix (.var 6) (.con (.int 1))), (.var 7), (.var 8), (.var 9)])])],
    .ret (.fn .tuple [(.var 5)])]⟩
/-- _law_out -/
def b40 : Def := ⟨1, 10, [
    .par [1, 2] [(.lst [(.tup [(.con (.int 1)), (.con (.int 1))])]), (.lst [(.ix (.var 0) (.con (.int 0)))])],
    .for_ (.tp [(.nm 3), (.nm 4), (.nm 5), (.nm 6), (.nm 7)]) (.val (.sl (.var 0) (some (.con (.int 1))) none)) [
      .asg (.nm 8) (.call 31 [(.ix (.var 1) (.var 5)), (.var 7)] none),
      .ex (.me .append (.var 1) [(.var 8)]),
      .asg (.nm 9) (.call 31 [(.var 8), (.var 8)] none),
      .ex (.me .append (.var 2) [(.tup [(.call 31 [(.var 3), (.var 9)] none), (.call 31 [(.var 4), (.var 9)] none), (.var 5), (.call 31 [(.var 6), (.var 9)] none), (.tup [(.con (.int 1)), (.con (.int 1))])])])],
    .ret (.fn .tuple [(.var 2)])]⟩
/-- _law_parts -/
def b41 : Def := ⟨2, 8, [
    .par [3, 4] [(.lst [(.tup [(.con (.int 1)), (.con (.int 1))])]), (.call 33 [(.call 32 [(.lst [(.ix (.ix (.var 0) (.var 1)) (.con (.int 1)))])] none), (.lst [(.tup [(.con (.int 0)), (.con (.int 1))]), (.tup [(.bin .sub (.con (.int 0)) (.ix (.ix (.ix (.var 0) (.var 1)) (.con (.int 0))) (.con (.int 0)))), (.ix (.ix (.ix (.var 0) (.var 1)) (.con (.int 0))) (.con (.int 1)))])])] none)],
    .for_ (.nm 2) (.rng2 (.bin .add (.var 1) (.con (.int 1))) (.fn .len [(.var 0)])) [
      .ite (.cmp .eq (.ix (.ix (.var 0) (.var 2)) (.con (.int 2))) (.var 1)) [
        .asg (.tp [(.nm 6), (.nm 7)]) (.call 41 [(.var 0), (.var 2)] none),
        .asg (.nm 5) (.call 33 [(.var 7), (.call 34 [(.lst [(.ix (.ix (.var 0) (.var 2)) (.con (.int 3)))]), (.var 6)] none)] none),
        .asg (.nm 4) (.call 33 [(.call 34 [(.var 4), (.var 5)] none), (.call 34 [(.var 3), (.call 34 [(.lst [(.ix (.ix (.var 0) (.var 2)) (.con (.int 3)))]), (.var 7)] none)] none)] none),
        .asg (.nm 3) (.call 34 [(.var 3), (.var 5)] none)] []],
    .ret (.tup [(.var 3), (.var 4)])]⟩
/-- _law_end -/
def b42 : Def := ⟨1, 1, [
    .ret (.ix (.call 35 [(.lst [(.ix (.call 41 [(.call 40 [(.var 0)] none), (.con (.int 0))] none) (.con (.int 1)))])] none) (.con (.int 0)))]⟩
/-- _law_turned -/
def b43 : Def := ⟨2, 5, [
    .asg (.nm 2) (.lst [(.ix (.var 1) (.con (.int 0)))]),
    .for_ (.nm 3) (.val (.sl (.var 1) (some (.con (.int 1))) none)) [
      .asg (.nm 4) (.ite (.cmp .eq (.call 26 [(.var 0), (.con (.int 2))] none) (.con (.int 0))) (.ix (.var 3) (.con (.int 4))) (.tup [(.bin .sub (.con (.int 0)) (.ix (.ix (.var 3) (.con (.int 4))) (.con (.int 0)))), (.ix (.ix (.var 3) (.con (.int 4))) (.con (.int 1)))])),
      .ex (.me .append (.var 2) [(.bin .add (.sl (.var 3) none (some (.con (.int 4)))) (.tup [(.var 4)]))])],
    .ret (.fn .tuple [(.var 2)])]⟩
/-- _law_grown -/
def b44 : Def := ⟨2, 4, [
    .asg (.nm 2) (.lst [(.tup [(.call 31 [(.ix (.ix (.var 0) (.con (.int 0))) (.con (.int 0))), (.var 1)] none), (.call 31 [(.ix (.ix (.var 0) (.con (.int 0))) (.con (.int 1))), (.var 1)] none)])]),
    .for_ (.nm 3) (.val (.sl (.var 0) (some (.con (.int 1))) none)) [
      .ex (.me .append (.var 2) [(.tup [(.call 31 [(.ix (.var 3) (.con (.int 0))), (.var 1)] none), (.call 31 [(.ix (.var 3) (.con (.int 1))), (.var 1)] none), (.ix (.var 3) (.con (.int 2))), (.call 31 [(.ix (.var 3) (.con (.int 3))), (.var 1)] none), (.ix (.var 3) (.con (.int 4)))])])],
    .ret (.fn .tuple [(.var 2)])]⟩
/-- _law_right -/
def b45 : Def := ⟨1, 5, [
    .asg (.nm 1) (.call 39 [(.var 0), (.con (.int 5))] none),
    .asg (.nm 2) (.fn .tuple [(.call 42 [(.var 1)] none)]),
    .ite (.or (.cmp .isnot (.call 17 [(.var 1)] none) (.con (.bl true))) (.or (.cmp .ne (.fn .repr [(.call 24 [(.var 1)] none)]) (.fn .repr [(.var 2)])) (.cmp .ne (.fn .repr [(.call 24 [(.var 1)] (some [0]))]) (.fn .repr [(.var 2)])))) [
      .ret (.con (.bl false))] [],
    .ite (.or (.cmp .ne (.fn .repr [(.call 23 [(.var 1)] none)]) (.fn .repr [(.call 40 [(.var 1)] none)])) (.cmp .ne (.fn .repr [(.call 23 [(.call 23 [(.var 1)] none)] (some [0]))]) (.fn .repr [(.call 40 [(.var 1)] none)]))) [
      .ret (.con (.bl false))] [],
    .asg (.nm 3) (.lst [(.call 23 [(.var 1)] none), (.call 43 [(.var 0), (.var 1)] none), (.call 44 [(.var 1), (.call 36 [(.var 0)] none)] none)]),
    .ret (.cmp .eq (.fn .repr [(.comp (.nm 4) (.val (.var 3)) [] (.call 24 [(.var 4)] none) [4])]) (.fn .repr [(.lst [(.var 2), (.var 2), (.var 2)])]))]⟩
/-- law -/
def b46 : Def := ⟨1, 2, [
    .ret (.fn .all [(.comp (.nm 1) (.rng1 (.con (.int 2))) [] (.call 45 [(.call 25 [(.var 0), (.var 1)] none)] none) [1])])]⟩
def prog : Txt := ⟨([b0, b1, b2, b3, b4, b5, b6, b7, b8, b9, b10, b11, b12, b13, b14, b15, b16, b17, b18, b19] : List Def) ++ ([b20, b21, b22, b23, b24, b25, b26, b27, b28, b29, b30, b31, b32, b33, b34, b35, b36, b37, b38, b39] : List Def) ++ ([b40, b41, b42, b43, b44, b45, b46] : List Def), []⟩
def fuelN : Nat := 2 ^ 9000
abbrev P (n : Nat) : Pg := pgN prog fuelN n
theorem cP (m i : Nat) (d : Def) (h : prog.defs[i]? = some d) (ds : List D) (S : Sto) : (P (m + 1)).call i ds S = runD (P m) d ds S := by
  show (match prog.defs[i]? with
    | some d => runD (P m) d ds S
    | none => .no) = _
  rw [h]
def isWhole : D → Bool
  | .int _ => true
  | _ => false
def areWholes (k : Int) : D → Bool
  | .tup xs => decide ((xs.length : Int) = k) && xs.all isWhole
  | _ => false
def isFraction : D → Bool
  | .tup [.int a, .int b] => decide (0 < b) && decide (((Nat.gcd a.natAbs b.natAbs : Nat) : Int) = 1)
  | _ => false
def isAmount : D → Bool
  | .tup [.int a, .int b] => isFraction (.tup [.int a, .int b]) && decide (0 < a)
  | _ => false
def isPace : D → Bool
  | .tup [.int a, .int b] => isFraction (.tup [.int a, .int b]) && decide (0 ≤ a)
  | _ => false
theorem up {n k : Nat} (h : k + 1 ≤ n) : ∃ m, n = m + 1 ∧ k ≤ m := ⟨n - 1, by omega, by omega⟩
theorem t_is_whole {n : Nat} (hn : 1 ≤ n) {d : D} {S : Sto} (h : okD S d = true) : wp ((P n).call 0 [d] S) fun r S' => r = .bl (isWhole d) ∧ Ext S S' := by
  obtain ⟨m, rfl, hm⟩ := up hn
  rw [cP m 0 b0 rfl]
  refine wp_run rfl ?_
  show wp (evSs (P m) b0.body [some d] S) _
  simp only [b0, wp_sC, wp_ret, wp_and_, wp_not, wp_fn, wp_cons, wp_nil, wp_var, fl_rt, ed_rt, List.getElem?_cons_zero, Option.some.injEq, exists_eq_left', fn_isi, wp_map, isi_int h, isi_bool h, truth]
  cases d <;> simp [isIntD, isBlD, isWhole, Ext.refl, truth, wp_opt]
theorem fuelIs {m : Nat} : (P m).fuel = fuelN := by
  cases m with
  | zero => rfl
  | succ m => induction m with
    | zero => rfl
    | succ m ih => exact ih
theorem fuelBig2 {n m : Nat} (h : n < 2 ^ 9000) : n < (P m).fuel := by
  rw [fuelIs]
  exact h
theorem fuelBig {n m : Nat} (h : n ≤ 1000) : n < (P m).fuel := by
  rw [fuelIs]
  exact Nat.lt_of_le_of_lt h (by decide +kernel)
theorem t_are_wholes {n : Nat} (hn : 2 ≤ n) {d : D} {k : Int} {S : Sto} (h : okD S d = true) : wp ((P n).call 2 [d, .int k] S) fun r S' => r = .bl (areWholes k d) ∧ Ext S S' := by
  obtain ⟨m, rfl, hm⟩ := up hn
  rw [cP m 2 b2 rfl]
  refine wp_run rfl ?_
  show wp (evSs (P m) b2.body [some d, some (.int k), none] S) _
  simp only [b2, wp_sC, wp_ret, wp_and_, wp_fn, wp_cmp, wp_cons, wp_nil, wp_var, fl_rt, ed_rt, List.getElem?_cons_zero, List.getElem?_cons_succ, Option.some.injEq, exists_eq_left', fn_isi, wp_map, isi_tup h, truth]
  cases d with
  | tup xs =>
    obtain ⟨h1, h2⟩ := okT h
    simp only [isTupD, if_true, fn_len, wp_ok, cmpE, eq_int, Option.some.injEq, exists_eq_left']
    by_cases hk : (xs.length : Int) = k
    · simp only [hk, decide_true, if_true]
      refine all_comp (g := isWhole) ?_ (fuelBig h1) h1 (it_tup ?_) (fun d hd S' e => t_is_whole hm (okD_ge e.ge (h2 d hd))) ?_
      · simp
      · simp only [wp_var, List.getElem?_cons_zero, Option.some.injEq, exists_eq_left', true_and]
        exact .refl
      · exact fun S' e => ⟨by simp [areWholes, hk], e⟩
    · simp only [hk, decide_false, Bool.false_eq_true, if_false]
      exact ⟨by simp [areWholes, hk], .refl⟩
  | _ => simp [isTupD, areWholes, Ext.refl]
theorem aw2 {d : D} (h : areWholes 2 d = true) : ∃ a b, d = .tup [.int a, .int b] := by
  cases d with
  | tup xs =>
    have h : (decide ((xs.length : Int) = 2) && xs.all isWhole) = true := h
    rw [Bool.and_eq_true, decide_eq_true_eq] at h
    match xs, h.1 with
    | [x, y], _ =>
      have := h.2
      simp only [List.all_cons, List.all_nil, Bool.and_true, Bool.and_eq_true] at this
      cases x with
      | int a =>
        cases y with
        | int b => exact ⟨_, _, rfl⟩
        | _ => exact absurd this.2 (by simp [isWhole])
      | _ => exact absurd this.1 (by simp [isWhole])
  | _ => cases h
theorem fr_no {d : D} (h : areWholes 2 d = false) : isFraction d = false := by
  cases hf : isFraction d with
  | false => rfl
  | true =>
    unfold isFraction at hf
    split at hf
    · exact absurd h (by simp [areWholes, isWhole])
    · cases hf
theorem ix0 {S : Sto} {a b : D} : ixE S (.tup [a, b]) (.int 0) = some a := rfl
theorem ix1 {S : Sto} {a b : D} : ixE S (.tup [a, b]) (.int 1) = some b := rfl
theorem t_is_fraction {n : Nat} (hn : 3 ≤ n) {d : D} {S : Sto} (h : okD S d = true) : wp ((P n).call 3 [d] S) fun r S' => r = .bl (isFraction d) ∧ Ext S S' := by
  obtain ⟨m, rfl, hm⟩ := up hn
  rw [cP m 3 b3 rfl]
  refine wp_run rfl ?_
  show wp (evSs (P m) b3.body [some d] S) _
  simp only [b3, wp_sC, wp_ret, wp_and_, wp_cmp, wp_call, wp_fn, wp_ix, wp_cons, wp_nil, wp_con, wp_var, fl_rt, ed_rt, List.getElem?_cons_zero, Option.some.injEq, exists_eq_left']
  refine wp_mono (t_are_wholes hm h) fun r S' ⟨er, e⟩ => ?_
  subst er
  simp only [truth, Option.some.injEq, exists_eq_left']
  cases hw : areWholes 2 d with
  | false =>
    simp only [Bool.false_eq_true, if_false]
    exact ⟨by rw [fr_no hw], e⟩
  | true =>
    obtain ⟨a, b, rfl⟩ := aw2 hw
    simp only [if_true, ix0, ix1, cmpE, Option.some.injEq, exists_eq_left', fn_gcd, wp_ok, eq_int, truth]
    by_cases hb : 0 < b
    · simp only [hb, decide_true, if_true]
      exact ⟨by simp [isFraction, hb], e⟩
    · simp only [hb, decide_false, Bool.false_eq_true, if_false]
      exact ⟨by simp [isFraction, hb], e⟩
theorem fr_yes {d : D} (h : isFraction d = true) : ∃ a b, d = .tup [.int a, .int b] := by
  unfold isFraction at h
  split at h
  · exact ⟨_, _, rfl⟩
  · cases h
/-- one to eight amounts -/
def areDiscs : D → Bool
  | .tup xs => decide (1 ≤ xs.length) && decide (xs.length ≤ 8) && xs.all isAmount
  | _ => false
def lenD : D → Nat
  | .tup xs => xs.length
  | _ => 0
/-- the ends and the inner ones -/
def areShafts (k : Nat) : D → Bool
  | .tup ss => decide (ss.length = k + 1) && (match ss[0]? with | some d => isPace d | none => false) && (match ss[ss.length - 1]? with | some d => isPace d | none => false) && (cutD ss (some 1) (some (-1))).all isAmount
  | _ => false
def isLine : D → Bool
  | .tup [a, b] => areDiscs a && areShafts (lenD a) b
  | _ => false
theorem line_no {xs : List D} (h : xs.length ≠ 2) : isLine (.tup xs) = false := by
  match xs, h with
  | [], _ => rfl
  | [_], _ => rfl
  | [_, _], h => exact absurd rfl h
  | _ :: _ :: _ :: _, _ => rfl
theorem discs_tup {d : D} (h : areDiscs d = true) : ∃ xs, d = .tup xs ∧ 1 ≤ xs.length ∧ xs.length ≤ 8 := by
  cases d with
  | tup xs =>
    have h : (decide (1 ≤ xs.length) && decide (xs.length ≤ 8) && xs.all isAmount) = true := h
    rw [Bool.and_eq_true, Bool.and_eq_true, decide_eq_true_eq, decide_eq_true_eq] at h
    exact ⟨xs, rfl, h.1.1, h.1.2⟩
  | _ => cases h
theorem ixT {S : Sto} {xs : List D} {i : Int} : ixE S (.tup xs) (.int i) = L2.atI xs i := rfl
theorem line_false {a b : D} (h : areDiscs a = false) : isLine (.tup [a, b]) = false := by
  show (areDiscs a && _) = false
  rw [h]; rfl
end K74
namespace K74
open PySem Mini
/-- an amount with small numbers; a pace -/
def Amt (d : D) : Prop := ∃ x y : Int, d = .tup [.int x, .int y] ∧ 1 ≤ x ∧ x ≤ 63 ∧ 1 ≤ y ∧ y ≤ 63 ∧ Nat.gcd x.natAbs y.natAbs = 1
def Pac (d : D) : Prop := Amt d ∨ d = .tup [.int 0, .int 1]
theorem Amt.is {d : D} (h : Amt d) : isAmount d = true := by
  obtain ⟨x, y, rfl, h1, h2, h3, h4, h5⟩ := h
  show (decide (0 < y) && decide (((Nat.gcd x.natAbs y.natAbs : Nat) : Int) = 1) && decide (0 < x)) = true
  rw [h5, decide_eq_true (by omega : 0 < y), decide_eq_true (by omega : 0 < x)]; rfl
theorem Pac.is {d : D} (h : Pac d) : isPace d = true := by
  rcases h with ⟨x, y, rfl, h1, h2, h3, h4, h5⟩ | rfl
  · show (decide (0 < y) && decide (((Nat.gcd x.natAbs y.natAbs : Nat) : Int) = 1) && decide (0 ≤ x)) = true
    rw [h5, decide_eq_true (by omega : 0 < y), decide_eq_true (by omega : 0 ≤ x)]; rfl
  · decide
theorem Amt.ok {d : D} {S : Sto} (h : Amt d) : okD S d = true := by
  obtain ⟨x, y, rfl, _⟩ := h
  rfl
theorem Pac.ok {d : D} {S : Sto} (h : Pac d) : okD S d = true := by
  rcases h with h | rfl
  · exact h.ok
  · rfl
def Prs (cnt : Nat) (ss : List D) : Prop := ss.length = cnt + 1 ∧ ∀ i x, ss[i]? = some x → Pac x ∧ (0 < i → i < cnt → Amt x)
theorem Prs.set {cnt k : Nat} {ss : List D} (h : Prs cnt ss) (hk : k = 0 ∨ k = cnt) : Prs cnt (ss.set k (.tup [.int 0, .int 1])) := by
  refine ⟨by rw [List.length_set]; exact h.1, fun i x hx => ?_⟩
  by_cases e : i = k
  · subst e
    have hl := h.1
    rw [List.getElem?_set_self (by omega)] at hx
    cases hx
    exact ⟨.inr rfl, fun h1 h2 => by omega⟩
  · rw [List.getElem?_set_ne (Ne.symm e)] at hx
    exact h.2 i x hx
def ip (xs : List Int) : List D := xs.map D.int
abbrev tp (xs : List Int) : D := .tup (ip xs)
theorem ip_len {xs : List Int} : (ip xs).length = xs.length := by simp [ip]
theorem ip_get {xs : List Int} {i : Nat} : (ip xs)[i]? = xs[i]?.map D.int := by simp [ip]
theorem t_common {n : Nat} (hn : 1 ≤ n) {xs : List Int} {S : Sto} (hl : xs.length ≤ 1000) : wp ((P n).call 6 [tp xs] S) fun r S' => r = .int ((gL xs : Nat) : Int) ∧ S' = S := by
  obtain ⟨m, rfl, hm⟩ := up hn
  rw [cP m 6 b6 rfl]
  refine wp_run rfl ?_
  show wp (evSs (P m) b6.body [some (tp xs), none, none] S) _
  simp_arith [b6, wp_for, wp_iv]
  refine ⟨srcL (ip xs), rfl, ?_⟩
  refine forN_wp (ip xs) (fun i S' ρ' => S' = S ∧ ∃ a, ρ' = [some (tp xs), some (.int ((gL (xs.take i) : Nat) : Int)), a]) (fun _ _ _ _ => rfl) ?_ ?_ _ 0 _ _ (Nat.zero_le _) (by have := fuelBig (m := m) (n := (ip xs).length) (by rw [ip_len]; exact hl); omega) ⟨rfl, _, rfl⟩
  · rintro i S' ρ' d ⟨rfl, a, rfl⟩ hd
    rw [ip_get] at hd
    cases q : xs[i]? with
    | none => rw [q] at hd; cases hd
    | some x =>
      rw [q] at hd
      cases hd
      simp_arith [wp_bind, fn_gcd]
      refine ⟨trivial, some (.int x), ?_⟩
      rw [List.take_add_one, q]
      show _ = [some (tp xs), some (.int ((gL (xs.take i ++ [x]) : Nat) : Int)), some (.int x)]
      rw [gL_app, Int.natAbs_natCast]
      have : gL [x] = x.natAbs := by simp [gL]
      rw [this]
  · rintro S' ρ' ⟨rfl, a, rfl⟩
    simp_arith [wp_ok]
    rw [ip_len, List.take_length]
    exact ⟨rfl, trivial⟩
theorem take_trim {xs : List Int} {k : Nat} (h : ∀ i, k ≤ i → coef xs i = 0) : trimZ (xs.take k) = trimZ xs := trim_ext fun i => by
  by_cases hi : i < k
  · unfold coef
    rw [List.getD_eq_getElem?_getD, List.getD_eq_getElem?_getD, List.getElem?_take, if_pos hi]
  · rw [h i (by omega), coef_ge (by rw [List.length_take]; omega)]
theorem t_trimmed {n : Nat} (hn : 1 ≤ n) {xs : List Int} {l : Nat} {S : Sto} (hl : xs.length ≤ 900) (hS : S[l]? = some (.lst (ip xs))) : wp ((P n).call 9 [.ref l] S) fun r S' => r = tp (trimZ xs) ∧ Ext S S' := by
  obtain ⟨m, rfl, hm⟩ := up hn
  rw [cP m 9 b9 rfl]
  refine wp_run rfl ?_
  show wp (evSs (P m) b9.body [some (.ref l), none] S) _
  simp_arith [b9, fn_lenR (seq_c hS), wp_while]
  refine whileN_wp (fun k ρ S' => ρ = [some (.ref l), some (.int (k : Int))] ∧ S' = S ∧ k ≤ xs.length ∧ ∀ i, k ≤ i → coef xs i = 0) ?_ _ xs.length _ _ (fuelBig (by omega)) ⟨by rw [ip_len], rfl, Nat.le_refl _, fun i hi => coef_ge hi⟩
  rintro k ρ S' ⟨rfl, rfl, hk, hz⟩
  simp_arith [wp_B]
  have fin : ∀ (h : trimZ (xs.take k) = xs.take k), wp (evSs (P m) [.ret (.fn .tuple [.sl (.var 0) none (some (.var 1))])] [some (.ref l), some (.int (k : Int))] S') (ed fun r S2 => r = tp (trimZ xs) ∧ Ext S' S2) := fun h => by
    have e1 : slE (.ref l) none (some (k : Int)) S' = .ok (.ref S'.length) (S' ++ [.lst (cutD (ip xs) none (some (k : Int)))]) := by
      show (match seqAt S' l with
        | some xs => new (.lst (cutD xs none (some (k : Int)))) S'
        | none => .no) = _
      rw [seq_c hS]; rfl
    simp_arith [wp_sl, wp_oS, wp_oN, partI, e1, fn_tupR (seq_c at_new)]
    refine ⟨?_, .one⟩
    rw [cut_to, ← take_trim hz, h]
    unfold tp ip
    rw [List.map_take]
  simp only [wp_sC, wp_sN, wp_ret, wp_asg, wp_par, wp_sif, wp_sx, wp_and_, wp_or_, wp_not, wp_neg, wp_cmp, wp_chain, wp_if, wp_call, wp_callK, wp_fn, wp_ix, wp_bin, wp_tup, wp_lst, wp_cons, wp_nil, wp_con, wp_var, wp_gn, fl_nx, fl_rt, ed_rt, setsL, List.getElem?_cons_zero, List.getElem?_cons_succ, Option.some.injEq, exists_eq_left', List.set_cons_zero, List.set_cons_succ, wp_ok, wp_map, truth, cmpE, eq_int, Option.map_some] at fin
  by_cases h0 : 0 < (k : Int)
  · have hk0 : k - 1 < xs.length := by omega
    have e1 : ixE S' (.ref l) (.int ((k : Int) - 1)) = some (.int (coef xs (k - 1))) := by
      rw [ix_c hS, show (k : Int) - 1 = ((k - 1 : Nat) : Int) by omega, atI_n (by rw [ip_len]; exact hk0), ip_get, List.getElem?_eq_getElem hk0]
      rw [coef_get (List.getElem?_eq_getElem hk0)]; rfl
    simp_arith [h0, decide_true, if_true, bin_sub, e1]
    by_cases hc : coef xs (k - 1) = 0
    · simp_arith [hc, decide_true, if_true, bin_sub]
      refine ⟨k - 1, by omega, ?_, trivial, by omega, fun i hi => ?_⟩
      · rw [show ((k - 1 : Nat) : Int) = (k : Int) - 1 by omega]
      · rcases Nat.eq_or_lt_of_le hi with e | e
        · rw [← e]; exact hc
        · exact hz i (by omega)
    · simp only [hc, decide_false, Bool.false_eq_true, if_false]
      refine fin (nm_of (.inr ?_))
      rw [List.length_take, Nat.min_eq_left hk]
      have : coef (xs.take k) (k - 1) = coef xs (k - 1) := by
        unfold coef
        rw [List.getD_eq_getElem?_getD, List.getD_eq_getElem?_getD, List.getElem?_take, if_pos (by omega)]
      rw [this]; exact hc
  · simp only [h0, decide_false, Bool.false_eq_true, if_false]
    have : k = 0 := by omega
    subst this
    exact fin rfl
/-- a row of at most n numbers of k bits, the last one not 0 -/
structure Pz (k n : Nat) (xs : List Int) : Prop where
  nm : Nm xs
  len : xs.length ≤ n
  bd : ∀ i, Bd k (coef xs i)
theorem Pz.mono {j k n m : Nat} {xs : List Int} (h : Pz j n xs) (hk : j ≤ k) (hn : n ≤ m) : Pz k m xs := ⟨h.nm, Nat.le_trans h.len hn, fun i => (h.bd i).mono hk⟩
theorem Pz.trim {k n : Nat} {xs : List Int} (h : ∀ i, Bd k (coef xs i)) (hl : xs.length ≤ n) : Pz k n (trimZ xs) := ⟨trim_nm, Nat.le_trans trim_len hl, fun i => by rw [coef_trim]; exact h i⟩
theorem t_padded {n : Nat} (hn : 1 ≤ n) {xs : List Int} {k : Nat} {S : Sto} (hk : k ≤ 900) (hl : xs.length ≤ k) : wp ((P n).call 10 [tp xs, .int (k : Int)] S) fun r S' => Ext S S' ∧ ∃ l zs, r = .ref l ∧ S'[l]? = some (.lst (ip zs)) ∧ zs.length = k ∧ ∀ i, coef zs i = coef xs i := by
  obtain ⟨m, rfl, hm⟩ := up hn
  rw [cP m 10 b10 rfl]
  refine wp_run rfl ?_
  show wp (evSs (P m) b10.body [some (tp xs), some (.int (k : Int))] S) _
  have k1 : (S ++ [Mini.Cl.lst (ip xs)] ++ [Mini.Cl.lst [.int 0]] ++ [Mini.Cl.lst (List.replicate ((k : Int) - xs.length).toNat [D.int 0]).flatten])[S.length]? = some (.lst (ip xs)) := by simp
  have e0 : (List.replicate ((k : Int) - xs.length).toNat [D.int 0]).flatten = ip (List.replicate (k - xs.length) 0) := by
    rw [show ((k : Int) - xs.length).toNat = k - xs.length by omega]
    generalize k - xs.length = q
    induction q with
    | zero => rfl
    | succ q ih => rw [List.replicate_succ, List.flatten_cons, ih]; rfl
  have k2 := at_new (A := S ++ [Mini.Cl.lst (ip xs)] ++ [Mini.Cl.lst [.int 0]]) (c := .lst (List.replicate ((k : Int) - xs.length).toNat [D.int 0]).flatten)
  have cat := bin_catL (lst_c k1) (lst_c k2) (by rw [e0, ip_len, ip_len, List.length_replicate]; omega)
  simp_arith [b10, fn_lst, fn_len, ip_len, bin_sub, bin_repL (lst_c (at_new (A := S ++ [Mini.Cl.lst (ip xs)]) (c := .lst [.int 0]))) (show (0 : Int) ≤ (k : Int) - xs.length by omega) (show (k : Int) - xs.length ≤ 1000 by omega) (show [D.int 0].length ≤ 50 by decide), cat]
  refine ⟨?_, _, xs ++ List.replicate (k - xs.length) 0, rfl, ?_, by simp; omega, fun i => ?_⟩
  · exact ((Ext.one.trans .one).trans .one).trans .one
  · rw [at_new, e0]
    unfold ip
    rw [List.map_append]
  · unfold coef
    rw [List.getD_eq_getElem?_getD, List.getD_eq_getElem?_getD]
    by_cases h : i < xs.length
    · rw [List.getElem?_append_left h]
    · rw [List.getElem?_append_right (by omega), List.getElem?_eq_none (l := xs) (by omega), List.getElem?_replicate]
      split <;> rfl
theorem bodyC_pure {p : Pg} {v : Nat} {elt : Ex} {ρ : Mini.Loc} {d : D} {S : Sto} {Q : Option D → Sto → Prop} (h : wp (evE p elt (ρ.set v (some d)) S) fun r S' => Q (some r) S') : wp (bodyC p (.nm v) [] elt ρ d S) Q := by
  unfold bodyC
  simp only [wp_bind, wp_gn, wp_tN, if_true, wp_ok]
  exact h
theorem fm_map {f : D → D} : ∀ {xs : List D}, xs.filterMap (fun d => some (f d)) = xs.map f
  | [] => rfl
  | x :: xs => by
    rw [List.filterMap_cons, List.map_cons, fm_map (xs := xs)]
theorem it_zipR {p : Pg} {e e2 : Ex} {ρ : Mini.Loc} {S : Sto} {Q : Src → Sto → Prop} (h : wp (evE p e ρ S) fun d S' => Ext S S' ∧ ∃ l xs, d = .ref l ∧ S'[l]? = some (.lst xs) ∧ wp (evE p e2 ρ S') fun d S'' => Ext S' S'' ∧ ∃ l ys, d = .ref l ∧ S''[l]? = some (.lst ys) ∧ (∀ src, (∀ i S3, Ext S'' S3 → src i S3 = srcL ((xs.zip ys).map fun q => D.tup [q.1, q.2]) i S3) → Q src S'')) :
    wp (evI p (.zip e e2) ρ S) Q := by
  rw [wp_iz]
  refine wp_mono h fun d S' ⟨e1, l, xs, ed, hl, h2⟩ => ?_
  subst ed
  refine wp_mono h2 fun d S'' ⟨e3, l2, ys, ed, hl2, h3⟩ => ?_
  subst ed
  refine ⟨pairS (srcR l) (srcR l2), ?_, h3 _ fun i S3 e4 => ?_⟩
  · show (match seqAt S'' l, seqAt S'' l2 with
    | some _, some _ => some (pairS (srcR l) (srcR l2))
    | _, _ => none) = _
    rw [seq_c (e3.get hl), seq_c hl2]
  · rw [← pair_srcL]
    unfold pairS srcR
    rw [seq_c ((e3.trans e4).get hl), seq_c (e4.get hl2)]
theorem comp_src {p : Pg} {t : Tg} {cs : List Ex} {elt : Ex} {ρ : Mini.Loc} {S1 : Sto} {src : Src} {P : D → Sto → Prop} {xs : List D} {g : D → D} (hfuel : xs.length < p.fuel) (hlen : xs.length ≤ 100000)
    (hs : ∀ i S', Ext S1 S' → src i S' = srcL xs i S')
    (hf : ∀ d ∈ xs, ∀ S', Ext S1 S' → wp (bodyC p t cs elt ρ d S') fun r S'' => r = some (g d) ∧ Ext S' S'')
    (hP : ∀ t, P (.ref S1.length) (S1 ++ .lst (xs.map g) :: t)) : wp (compN src S1.length (fun d S => (bodyC p t cs elt ρ d S).noex) p.fuel 0 (S1 ++ [.lst []])) P := by
  refine compN_wp (n := S1.length) xs (fun i ys S' => ∃ t, S' = S1 ++ .lst ys :: t ∧ ys = (xs.take i).map g) (fun i ys S' ⟨t, e, _⟩ => hs i S' ⟨_, e⟩)
    (fun i ys S' d ⟨t, e, ey⟩ hd => ?_) (fun ys S' ⟨t, e, ey⟩ => ?_) _ 0 [] _ (Nat.zero_le _) (by omega) ⟨[], rfl, by simp⟩
  · rw [wp_noex]
    subst e
    have hlt : i < xs.length := (List.getElem?_eq_some_iff.mp hd).1
    refine wp_mono (hf d (List.mem_of_getElem? hd) _ ⟨_, rfl⟩) fun r S'' ⟨er, t', et⟩ => ?_
    subst er et
    have ea : S1 ++ Cl.lst ys :: t ++ t' = S1 ++ Cl.lst ys :: (t ++ t') := by simp
    rw [ea]
    have hy : ys.length ≤ 100000 := by
      rw [ey, List.length_map, List.length_take]; omega
    refine ⟨mid_lst, lineBig hy, t ++ t', mid_set, ?_⟩
    rw [List.take_add_one, hd, ey, List.map_append]
    rfl
  · subst e
    rw [ey, List.take_length]
    exact hP t
def addP : D → D
  | .tup [.int a, .int b] => .int (a + b)
  | _ => .non
theorem t_summed {n : Nat} (hn : 2 ≤ n) {xs ys : List Int} {j k : Nat} {S : Sto} (hx : Pz k j xs) (hy : Pz k j ys) (hj : j ≤ 800) : wp ((P n).call 11 [tp xs, tp ys] S) fun r S' => Ext S S' ∧ ∃ zs, r = tp zs ∧ Pz (k + 1) j zs ∧ ∀ i, coef zs i = coef xs i + coef ys i := by
  obtain ⟨m, rfl, hm⟩ := up hn
  rw [cP m 11 b11 rfl]
  refine wp_run rfl ?_
  show wp (evSs (P m) b11.body [some (tp xs), some (tp ys), none, none, none] S) _
  have lx := hx.len
  have ly := hy.len
  have fmax : fnE .max [.int (xs.length : Int), .int (ys.length : Int)] S = .ok (.int ((max xs.length ys.length : Nat) : Int)) S := by
    show Res.ok (D.int (if (xs.length : Int) < ys.length then (ys.length : Int) else xs.length)) S = _
    congr 2
    split <;> omega
  simp only [b11, wp_sC, wp_asg, wp_fn, wp_cons, wp_nil, wp_var, List.getElem?_cons_zero, List.getElem?_cons_succ, Option.some.injEq, exists_eq_left', fn_len, ip_len, wp_ok, fmax, wp_gn, List.set_cons_zero, List.set_cons_succ, fl_nx, wp_ret, wp_call]
  have it : ∀ {Q : Src → Sto → Prop}, (∀ src S1, Ext S S1 → (∃ as bs, as.length = max xs.length ys.length ∧ bs.length = max xs.length ys.length ∧ (∀ i, coef as i = coef xs i) ∧ (∀ i, coef bs i = coef ys i) ∧ ∀ i S3, Ext S1 S3 → src i S3 = srcL (((ip as).zip (ip bs)).map fun q => D.tup [q.1, q.2]) i S3) → Q src S1) → wp (evI (P m) (.zip (.call 10 [(.var 0), (.var 2)] none) (.call 10 [(.var 1), (.var 2)] none)) [some (tp xs), some (tp ys), some (.int ((max xs.length ys.length : Nat) : Int)), none, none] S) Q := fun hQ => by
    refine it_zipR ?_
    simp only [wp_call, wp_cons, wp_nil, wp_var, List.getElem?_cons_zero, List.getElem?_cons_succ, Option.some.injEq, exists_eq_left']
    refine wp_mono (t_padded (by omega) (by omega) (by omega)) fun r S1 ⟨e1, l, as, er, hl, la, ca⟩ => ?_
    subst er
    refine ⟨e1, l, _, rfl, hl, ?_⟩
    refine wp_mono (t_padded (by omega) (by omega) (by omega)) fun r S2 ⟨e2, l2, bs, er, hl2, lb, cb⟩ => ?_
    subst er
    exact ⟨e2, l2, _, rfl, hl2, fun src hs => hQ src S2 (e1.trans e2) ⟨as, bs, la, lb, ca, cb, hs⟩⟩
  rw [wp_comp]
  refine it fun src S1 e1 ⟨as, bs, la, lb, ca, cb, hs⟩ => ?_
  have lz : (((ip as).zip (ip bs)).map fun q => D.tup [q.1, q.2]).length ≤ 800 := by
    rw [List.length_map, List.length_zip, ip_len, ip_len]; omega
  refine comp_src (g := addP) (by have := fuelBig (m := m) (n := (((ip as).zip (ip bs)).map fun q => D.tup [q.1, q.2]).length) (by omega); omega) (by omega) hs (fun d hd S' e => ?_) fun t => ?_
  · obtain ⟨q, hq, rfl⟩ := List.mem_map.mp hd
    have hq := List.of_mem_zip hq
    obtain ⟨a, _, ha⟩ := List.mem_map.mp hq.1
    obtain ⟨b, _, hb⟩ := List.mem_map.mp hq.2
    rw [← ha, ← hb]
    unfold bodyC
    simp only [wipeL, List.foldl_cons, List.foldl_nil]
    simp_arith [wp_bind, wp_gt, seqD, List.length_cons, List.length_nil, wp_gsC, wp_gsN, wp_tN, if_true, bin_add]
    exact ⟨rfl, .refl⟩
  · have ez : (((ip as).zip (ip bs)).map fun q => D.tup [q.1, q.2]).map addP = ip ((as.zip bs).map fun q => q.1 + q.2) := by
      unfold ip
      rw [List.zip_map, List.map_map, List.map_map, List.map_map]
      rfl
    rw [ez]
    have lq : ((as.zip bs).map fun q => q.1 + q.2).length = max xs.length ys.length := by
      rw [List.length_map, List.length_zip, la, lb, Nat.min_self]
    have cq : ∀ i, coef ((as.zip bs).map fun q => q.1 + q.2) i = coef xs i + coef ys i := fun i => by
      rw [← ca, ← cb]
      unfold coef
      rw [List.getD_eq_getElem?_getD, List.getD_eq_getElem?_getD, List.getD_eq_getElem?_getD, List.getElem?_map, List.zip, List.getElem?_zipWith]
      by_cases h : i < as.length
      · rw [List.getElem?_eq_getElem h, List.getElem?_eq_getElem (by omega)]; rfl
      · rw [List.getElem?_eq_none (by omega), List.getElem?_eq_none (by omega)]; rfl
    refine wp_mono (t_trimmed (xs := (as.zip bs).map fun q => q.1 + q.2) (by omega) (by omega) (by simp)) fun r S2 ⟨er, e2⟩ => ?_
    subst er
    rw [fl_rt, ed_rt]
    refine ⟨(e1.trans ⟨_, rfl⟩).trans e2, _, rfl, .trim (fun i => ?_) (by omega), fun i => by rw [coef_trim]; exact cq i⟩
    rw [cq i]
    exact (hx.bd i).add (hy.bd i)
theorem t_scaled {n : Nat} (hn : 2 ≤ n) {xs : List Int} {j k q : Nat} {f : Int} {S : Sto} (hx : Pz k j xs) (hf : Bd q f) (hj : j ≤ 800) (hb : k + q ≤ 100000) : wp ((P n).call 12 [tp xs, .int f] S) fun r S' => Ext S S' ∧ ∃ zs, r = tp zs ∧ Pz (k + q) j zs ∧ ∀ i, coef zs i = coef xs i * f := by
  obtain ⟨m, rfl, hm⟩ := up hn
  rw [cP m 12 b12 rfl]
  refine wp_run rfl ?_
  show wp (evSs (P m) b12.body [some (tp xs), some (.int f), none] S) _
  have lx := hx.len
  simp_arith [b12]
  refine comp_fm (g := fun d => some (match d with | .int x => .int (x * f) | _ => .non)) (xs := ip xs) (fuelBig (by rw [ip_len]; omega)) (by rw [ip_len]; omega) (it_tup ?_) (fun d hd S' e => bodyC_pure ?_) fun A t e => ?_
  · simp_arith [wp_ok]
    exact ⟨trivial, .refl⟩
  · obtain ⟨x, hxm, rfl⟩ := List.mem_map.mp hd
    have bx : Bd k x := by
      obtain ⟨i, hi⟩ := List.getElem?_of_mem hxm
      rw [← coef_get hi]
      exact hx.bd i
    simp only [wipeL, List.foldl_cons, List.foldl_nil]
    simp_arith [big_mul bx hf (by omega)]
    exact ⟨trivial, .refl⟩
  · have ez : (ip xs).filterMap (fun d => some (match d with | .int x => D.int (x * f) | _ => .non)) = ip (xs.map (· * f)) := by
      rw [fm_map (f := fun d => match d with | .int x => D.int (x * f) | _ => .non)]
      unfold ip
      rw [List.map_map, List.map_map]
      rfl
    rw [ez]
    refine wp_mono (t_trimmed (xs := xs.map (· * f)) (by omega) (by rw [List.length_map]; omega) (by simp)) fun r S2 ⟨er, e2⟩ => ?_
    subst er
    refine ⟨(e.trans ⟨_, rfl⟩).trans e2, _, rfl, .trim (fun i => ?_) (by rw [List.length_map]; exact lx), fun i => by rw [coef_trim, coef_map (f := (· * f)) (by simp)]⟩
    rw [coef_map (f := (· * f)) (by simp)]
    exact (hx.bd i).mul hf
/-- times the pace -/
def shZ (xs : List Int) : List Int := if xs = [] then [] else 0 :: xs
theorem coef_sh {xs : List Int} : ∀ i, coef (shZ xs) i = match i with | 0 => 0 | i + 1 => coef xs i := fun i => by
  unfold shZ
  by_cases h : xs = []
  · rw [if_pos h, h]
    cases i <;> simp [coef]
  · rw [if_neg h]
    cases i with
    | zero => rfl
    | succ i => exact coef_s
theorem sh_pz {k n : Nat} {xs : List Int} (h : Pz k n xs) : Pz k (n + 1) (shZ xs) := by
  have l := h.len
  refine ⟨?_, ?_, fun i => ?_⟩
  · by_cases e : xs = []
    · rw [e]; rfl
    · refine nm_of (.inr ?_)
      have : (shZ xs).length = xs.length + 1 := by unfold shZ; rw [if_neg e]; rfl
      have l0 := nm_last h.nm e
      have p : 0 < xs.length := by cases xs <;> simp_all
      rw [this, coef_sh, show xs.length + 1 - 1 = (xs.length - 1) + 1 by omega]
      exact l0
  · unfold shZ
    split <;> simp <;> omega
  · rw [coef_sh]
    cases i with
    | zero => exact Bd.zero
    | succ i => exact h.bd i
def gt (xs : List D) (i : Nat) : D := xs[i]?.getD .non
theorem gt_of {xs : List D} {i : Nat} (h : i < xs.length) : xs[i]? = some (gt xs i) := by
  unfold gt
  rw [List.getElem?_eq_getElem h]; rfl
theorem gt_mem {xs : List D} {i : Nat} (h : i < xs.length) : gt xs i ∈ xs := List.mem_of_getElem? (gt_of h)
/-- a line, plainly -/
structure LineF (b n : Nat) (xs ys : List D) : Prop where
  n1 : 1 ≤ n
  n4 : n ≤ 5
  lx : xs.length = n
  ly : ys.length = n + 1
  fx : ∀ x ∈ xs, Fb b x ∧ 0 < num x
  fy : ∀ y ∈ ys, Fb b y ∧ 0 ≤ num y
  inn : ∀ i y, ys[i]? = some y → 0 < i → i < n → 0 < num y
abbrev lnD (xs ys : List D) : D := .tup [.tup xs, .tup ys]
theorem v_pos {k : Nat} {d : D} (h : Fb k d) (h0 : 0 < num d) : 0 < v d := by
  unfold v
  refine div_pos (Rat.intCast_pos.mpr h0) (Rat.intCast_pos.mpr ?_)
  have := h.pos
  omega
theorem v_nn {k : Nat} {d : D} (h : Fb k d) (h0 : 0 ≤ num d) : 0 ≤ v d := by
  rcases (show num d = 0 ∨ 0 < num d by omega) with z | z
  · unfold v
    rw [z]
    have : ((0 : Int) : Rat) / (den d : Rat) = 0 := by
      have := h.d0
      grind
    rw [this]
    exact Rat.le_refl
  · exact Rat.le_of_lt (v_pos h z)
theorem toD_ints {S : Sto} {j : Nat} : ∀ {xs : List Int}, mapO (toD S j) (ip xs) = some (xs.map PyData.int)
  | [] => rfl
  | x :: xs => by
    have ih := toD_ints (S := S) (j := j) (xs := xs)
    show mapO (toD S j) (D.int x :: ip xs) = _
    have e : toD S j (.int x) = some (.int x) := by cases j <;> rfl
    rw [mapO, ih, e]; rfl
theorem sh_ints {xs : List Int} : ∀ e ∈ xs.map PyData.int, Sh 0 e := fun e he => by
  obtain ⟨x, _, rfl⟩ := List.mem_map.mp he
  exact ⟨by simp [PyData.canLay0], by simp [PyData.depth]⟩
theorem eq_tps {S : Sto} {xs ys : List Int} : eqE S (tp xs) (tp ys) = some (PyData.eqv (.tuple (xs.map PyData.int)) (.tuple (ys.map PyData.int))) := by
  have t : ∀ xs : List Int, toD S deepN (tp xs) = some (.tuple (xs.map PyData.int)) := fun xs => by
    show (mapO (toD S 19) (ip xs)).map PyData.tuple = _
    rw [toD_ints]; rfl
  have s : ∀ xs : List Int, SeqAt.shaped (.tuple (xs.map PyData.int)) = true := fun xs => by
    obtain ⟨h3, h4⟩ := shAll (sh_ints (xs := xs))
    exact shaped_of (k := 1) ⟨by simp [PyData.canLay0, h3], by simp [PyData.depth]; omega⟩ (by omega)
  unfold eqE
  rw [t, t]
  show (if SeqAt.shaped (.tuple (xs.map PyData.int)) && SeqAt.shaped (.tuple (ys.map PyData.int)) then some (PyData.eqv (.tuple (xs.map PyData.int)) (.tuple (ys.map PyData.int))) else none) = _
  rw [s, s]; rfl
theorem eq_tp0 {S : Sto} {xs : List Int} : eqE S (tp xs) (.tup []) = some (decide (xs = [])) := by
  have e := eq_tps (S := S) (xs := xs) (ys := [])
  rw [show (D.tup [] : D) = tp [] from rfl, e]
  cases xs <;> simp [PyData.eqv, PyData.eqvAll]
/-- a new step -/
theorem put_ins {S : Sto} {f : Str} {x : D} {k : Nat} {fs : List (Str × D)} (h : fs.length < 1000) : putE f (.ref S.length) x (S ++ [Mini.Cl.ins k fs]) = some (S ++ [Mini.Cl.ins k (putFs f x fs)]) := by
  simp only [putE, at_new, if_pos h]
  simp
theorem put1 {a : D} : putFs "turn" a [] = ([("turn", a)] : List (Str × D)) := rfl
theorem put2 {a b : D} : putFs "torque" b [("turn", a)] = ([("turn", a), ("torque", b)] : List (Str × D)) := by
  simp only [putFs]
  rw [if_neg (by decide +kernel)]
theorem put3 {a b s : D} : putFs "scale" s [("turn", a), ("torque", b)] = ([("turn", a), ("torque", b), ("scale", s)] : List (Str × D)) := by
  simp only [putFs]
  rw [if_neg (by decide +kernel), if_neg (by decide +kernel)]
theorem put4 {a b s d : D} : putFs "shaft" d [("turn", a), ("torque", b), ("scale", s)] = ([("turn", a), ("torque", b), ("scale", s), ("shaft", d)] : List (Str × D)) := by
  simp only [putFs]
  rw [if_neg (by decide +kernel), if_neg (by decide +kernel), if_neg (by decide +kernel)]
abbrev stepI (a b s d : D) : Mini.Cl := .ins 0 [("turn", a), ("torque", b), ("scale", s), ("shaft", d)]
theorem wp_mk {p : Pg} {c : Nat} {es : List Ex} {ρ : Mini.Loc} {S : Sto} {Q : D → Sto → Prop} : wp (evE p (.make c es) ρ S) Q ↔ wp (evEs p es ρ S) fun ds S1 => wp (p.make c ds S1) Q := by
  show wp ((evEs p es ρ S).bind fun ds S1 => p.make c ds S1) Q ↔ _
  simp only [wp_bind]
/-- a row that is so many times one of fractions -/
def Sc (a : List Int) (R : Nat → Rat) : Prop := ∃ l : Rat, 0 < l ∧ ∀ i, (coef a i : Rat) = l * R i
theorem t_divs {m : Nat} {xs : List Int} {v w k j : Nat} {g : Int} {ρ : Mini.Loc} {S : Sto} {Q : D → Sto → Prop} (hv : v < ρ.length) (hw : w ≠ v) (hx : Pz k j xs) (hj : j ≤ 800) (hr : ρ[w]? = some (some (.int g))) (ex : Ex) (he : ∀ S', Ext S S' → wp (evE (P m) ex ρ S') fun d S'' => d = tp xs ∧ S'' = S') (hg : 0 < g) (hb : Bd 8000 g) (hd : ∀ i, g ∣ coef xs i)
    (hQ : ∀ zs S', Ext S S' → Pz k j zs → (∀ i, coef zs i * g = coef xs i) → Q (tp zs) S') : wp (evE (P m) (.comp (.nm v) (.val ex) [] (.bin .fdiv (.var v) (.var w)) [v]) ρ S) fun d S1 => wp (fnE .tuple [d] S1) Q := by
  have lx := hx.len
  refine comp_fm (g := fun d => some (match d with | .int x => .int (x / g) | _ => .non)) (xs := ip xs) (fuelBig (by rw [ip_len]; omega)) (by rw [ip_len]; omega) (it_tup ?_) (fun d hd S' e => bodyC_pure ?_) fun A t e => ?_
  · exact wp_mono (he S .refl) fun d S' ⟨a, b⟩ => ⟨a, by rw [b]; exact .refl⟩
  · obtain ⟨x, hxm, rfl⟩ := List.mem_map.mp hd
    have g1 : ((wipeL ρ [v]).set v (some (D.int x)))[v]? = some (some (.int x)) := by
      show ((ρ.set v none).set v (some (D.int x)))[v]? = _
      rw [List.getElem?_set_self (by simpa using hv)]
    have g2 : ((wipeL ρ [v]).set v (some (D.int x)))[w]? = some (some (.int g)) := by
      show ((ρ.set v none).set v (some (D.int x)))[w]? = _
      rw [List.getElem?_set_ne (Ne.symm hw), List.getElem?_set_ne (Ne.symm hw)]
      exact hr
    simp only [wp_bin, wp_var, g1, g2, Option.some.injEq, exists_eq_left', big_div hg hb (by omega), wp_ok]
    exact ⟨trivial, .refl⟩
  · have ez : (ip xs).filterMap (fun d => some (match d with | .int x => D.int (x / g) | _ => .non)) = ip (xs.map (· / g)) := by
      rw [fm_map (f := fun d => match d with | .int x => D.int (x / g) | _ => .non)]
      unfold ip
      rw [List.map_map, List.map_map]
      rfl
    rw [ez, fn_tupR mid_seq, wp_ok]
    have cm : ∀ i, coef (xs.map (· / g)) i = coef xs i / g := fun i => coef_map (f := (· / g)) (by simp)
    have ce : ∀ i, coef (xs.map (· / g)) i * g = coef xs i := fun i => by
      rw [cm]; exact Int.ediv_mul_cancel (hd i)
    refine hQ _ _ (e.trans ⟨_, rfl⟩) ⟨?_, by rw [List.length_map]; exact lx, fun i => ?_⟩ ce
    · by_cases hn : xs = []
      · subst hn; rfl
      · refine nm_of (.inr ?_)
        have l0 := nm_last hx.nm hn
        intro z
        rw [List.length_map] at z
        have := ce (xs.length - 1)
        rw [z, Int.zero_mul] at this
        exact l0 this.symm
    · rw [cm]
      exact (hx.bd i).le (Int.natAbs_ediv_le_natAbs _ _)
theorem ext_of {S S' : Sto} (h : ∀ (n : Nat) x, S[n]? = some x → S'[n]? = some x) : Ext S S' := by
  have l : S.length ≤ S'.length := by
    rcases Nat.lt_or_ge S'.length S.length with q | q
    · have := h S'.length _ (List.getElem?_eq_getElem q)
      rw [List.getElem?_eq_none (Nat.le_refl _)] at this
      cases this
    · exact q
  refine ⟨S'.drop S.length, List.ext_getElem? fun i => ?_⟩
  by_cases hi : i < S.length
  · rw [List.getElem?_append_left hi, h i _ (List.getElem?_eq_getElem hi), List.getElem?_eq_getElem hi]
  · rw [List.getElem?_append_right (by omega), List.getElem?_drop]
    congr 1; omega
theorem chg_ext {S S' : Sto} {c : Nat} (g : Chg c S S') (h : S.length ≤ c) : Ext S S' := ext_of fun n x hx => g.get n x (by
  have := (List.getElem?_eq_some_iff.mp hx).1
  omega) hx
theorem gL_app_dvd {xs ys : List Int} (i : Nat) : ((gL (xs ++ ys) : Nat) : Int) ∣ coef xs i ∧ ((gL (xs ++ ys) : Nat) : Int) ∣ coef ys i := by
  rw [gL_app]
  exact ⟨Int.dvd_trans (Int.ofNat_dvd.mpr (Nat.gcd_dvd_left _ _)) (gL_coef i), Int.dvd_trans (Int.ofNat_dvd.mpr (Nat.gcd_dvd_right _ _)) (gL_coef i)⟩
theorem dvd_bd {k : Nat} {a g : Int} (h : Bd k a) (ha : a ≠ 0) (hd : g ∣ a) : Bd k g := by
  refine h.le ?_
  exact Nat.le_of_dvd (by omega) (Int.natAbs_dvd_natAbs.mpr hd)
theorem den_mul {k : Nat} {d : D} (h : Fb k d) : ((num d : Int) : Rat) = ((den d : Int) : Rat) * v d := by
  have d0 := h.d0
  unfold v
  grind
theorem div_eq {x g K E : Rat} (hg : 0 < g) (h : x * g = K * E) : x = K / g * E := by
  have : g ≠ 0 := fun z => by rw [z] at hg; exact absurd hg (by decide)
  grind
theorem fn_lstR {S : Sto} {n : Nat} {xs : List D} (h : seqAt S n = some xs) : fnE .list [.ref n] S = .ok (.ref S.length) (S ++ [.lst xs]) := by
  show (match seqAt S n with
    | some xs => new (.lst xs) S
    | none => Res.no) = _
  rw [h]; rfl
/-- a row without a common divisor of its numbers, but for a number above 0 the same -/
structure Th (xs zs : List Int) : Prop where
  nm : Nm zs
  len : zs.length = xs.length
  g1 : gL zs ≤ 1
  sc : ∃ c : Rat, 0 < c ∧ ∀ x, hor xs x = c * hor zs x
  bd : ∀ k i, Bd k (coef xs i) → Bd k (coef zs i)
theorem Th.ne {xs zs : List Int} (h : Th xs zs) (e : xs ≠ []) : zs ≠ [] := fun z => e (List.eq_nil_of_length_eq_zero (by rw [← h.len, z]; rfl))
/-- the script is there -/
def Scr (S : Sto) (ns : List Int) : Prop := S[0]? = some (.frz (ns.map D.int))
theorem Scr.chg {S S' : Sto} {ns : List Int} {c : Nat} (h : Scr S ns) (e : Chg c S S') (hc : c ≠ 0) : Scr S' ns := e.get 0 _ (Ne.symm hc) h
/-- a row, as a tuple or as a list -/
def Row (S : Sto) (d : D) (xs : List Int) : Prop := d = tp xs ∨ ∃ l, d = .ref l ∧ S[l]? = some (.lst (ip xs))
theorem Row.src {S : Sto} {d : D} {xs : List Int} (h : Row S d xs) : ∃ src, srcOf S d = some src ∧ ∀ i S', Ext S S' → src i S' = srcL (ip xs) i S' := by
  rcases h with rfl | ⟨l, rfl, hl⟩
  · exact ⟨_, rfl, fun _ _ _ => rfl⟩
  · exact ⟨_, src_ref hl, fun i S' e => srcR_of (e.get hl)⟩
theorem Row.len {S : Sto} {d : D} {xs : List Int} (h : Row S d xs) : fnE .len [d] S = .ok (.int (xs.length : Int)) S := by
  rcases h with rfl | ⟨l, rfl, hl⟩
  · rw [fn_len, ip_len]
  · rw [fn_lenR (seq_c hl), ip_len]
theorem Row.lst {S : Sto} {d : D} {xs : List Int} (h : Row S d xs) : fnE .list [d] S = .ok (.ref S.length) (S ++ [.lst (ip xs)]) := by
  rcases h with rfl | ⟨l, rfl, hl⟩
  · rw [fn_lst]
  · rw [fn_lstR (seq_c hl)]
theorem Row.tup {S : Sto} {d : D} {xs : List Int} (h : Row S d xs) : fnE .tuple [d] S = .ok (tp xs) S := by
  rcases h with rfl | ⟨l, rfl, hl⟩
  · rfl
  · rw [fn_tupR (seq_c hl)]
theorem Row.it {p : Pg} {e : Ex} {ρ : Mini.Loc} {S : Sto} {xs : List Int} (h : wp (evE p e ρ S) fun d S' => Row S' d xs ∧ Ext S S') : wp (evI p (.val e) ρ S) fun src S1 => Ext S S1 ∧ ∀ i S', Ext S1 S' → src i S' = srcL (ip xs) i S' := by
  rw [wp_iv]
  refine wp_mono h fun d S' ⟨r, e⟩ => ?_
  obtain ⟨src, h1, h2⟩ := r.src
  exact ⟨src, h1, e, h2⟩
/-- rows of a list of polynomials -/
structure Rw (S : Sto) (l : Nat) (R : List (List Int)) (K : Nat) : Prop where
  hl : S[l]? = some (.lst (R.map tp))
  len : R.length ≤ 40
  row : ∀ c ∈ R, Nm c ∧ c ≠ [] ∧ c.length ≤ 26 ∧ ∀ i, Bd K (coef c i)
def isN : D → Bool
  | .non => true
  | _ => false
theorem t_fraction_of {n : Nat} (hn : 1 ≤ n) {u l : Int} {k : Nat} {S : Sto} (l0 : 0 < l) (hl : Bd k l) (hk : k ≤ 8900) : wp ((P n).call 7 [.int u, .int l] S) fun r S' => r = frD u l ∧ S' = S := by
  obtain ⟨m, rfl, hm⟩ := up hn
  rw [cP m 7 b7 rfl]
  refine wp_run rfl ?_
  show wp (evSs (P m) b7.body [some (.int u), some (.int l), none] S) _
  have g0 : 0 < Nat.gcd u.natAbs l.natAbs := Nat.gcd_pos_of_pos_right _ (by omega)
  have bg : Bd k ((Nat.gcd u.natAbs l.natAbs : Nat) : Int) := hl.le (by
    show Nat.gcd u.natAbs l.natAbs ≤ l.natAbs
    exact Nat.le_of_dvd (by omega) (Nat.gcd_dvd_right ..))
  simp_arith [b7, l0, decide_true, if_true, fn_gcd, big_div (show (0 : Int) < ((Nat.gcd u.natAbs l.natAbs : Nat) : Int) by omega) bg (by omega)]
  exact ⟨rfl, trivial⟩
/-- the fraction half way between two -/
theorem t_is_between {n : Nat} (hn : 2 ≤ n) {i j k : Int} {S : Sto} : wp ((P n).call 1 [.int i, .int j, .int k] S) fun r S' => r = .bl (decide (j ≤ i ∧ i ≤ k)) ∧ Ext S S' := by
  obtain ⟨m, rfl, hm⟩ := up (show 1 ≤ n by omega)
  rw [cP m 1 b1 rfl]
  refine wp_run rfl ?_
  show wp (evSs (P m) b1.body [some (.int i), some (.int j), some (.int k)] S) _
  simp_arith [b1]
  refine wp_mono (t_is_whole (by omega) (show okD S (.int i) = true from rfl)) fun r S1 ⟨er, e1⟩ => ?_
  subst er
  simp_arith [isWhole]
  by_cases c1 : j ≤ i
  · by_cases c2 : i ≤ k
    · simp [c1, c2]; exact e1
    · simp [c1, c2]; exact e1
  · simp [c1]; exact e1
theorem t_is_amount {n : Nat} (hn : 4 ≤ n) {d : D} {S : Sto} (h : okD S d = true) : wp ((P n).call 4 [d] S) fun r S' => r = .bl (isAmount d) ∧ Ext S S' := by
  obtain ⟨m, rfl, hm⟩ := up hn
  rw [cP m 4 b4 rfl]
  refine wp_run rfl ?_
  show wp (evSs (P m) b4.body [some d] S) _
  simp only [b4, wp_sC, wp_ret, wp_and_, wp_cmp, wp_call, wp_fn, wp_ix, wp_cons, wp_nil, wp_con, wp_var, fl_rt, ed_rt, List.getElem?_cons_zero, Option.some.injEq, exists_eq_left']
  refine wp_mono (t_is_fraction hm h) fun r S' ⟨er, e⟩ => ?_
  subst er
  simp only [truth, Option.some.injEq, exists_eq_left']
  cases hw : isFraction d with
  | false =>
    simp only [Bool.false_eq_true, if_false]
    refine ⟨?_, e⟩
    congr 1
    unfold isAmount
    split
    · rw [hw]; rfl
    · rfl
  | true =>
    obtain ⟨a, b, rfl⟩ := fr_yes hw
    simp only [if_true, ix0, cmpE, Option.some.injEq, exists_eq_left']
    exact ⟨by simp only [isAmount, hw, Bool.true_and], e⟩
theorem t_is_pace {n : Nat} (hn : 4 ≤ n) {d : D} {S : Sto} (h : okD S d = true) : wp ((P n).call 5 [d] S) fun r S' => r = .bl (isPace d) ∧ Ext S S' := by
  obtain ⟨m, rfl, hm⟩ := up hn
  rw [cP m 5 b5 rfl]
  refine wp_run rfl ?_
  show wp (evSs (P m) b5.body [some d] S) _
  simp only [b5, wp_sC, wp_ret, wp_and_, wp_cmp, wp_call, wp_fn, wp_ix, wp_cons, wp_nil, wp_con, wp_var, fl_rt, ed_rt, List.getElem?_cons_zero, Option.some.injEq, exists_eq_left']
  refine wp_mono (t_is_fraction hm h) fun r S' ⟨er, e⟩ => ?_
  subst er
  simp only [truth, Option.some.injEq, exists_eq_left']
  cases hw : isFraction d with
  | false =>
    simp only [Bool.false_eq_true, if_false]
    refine ⟨?_, e⟩
    congr 1
    unfold isPace
    split
    · rw [hw]; rfl
    · rfl
  | true =>
    obtain ⟨a, b, rfl⟩ := fr_yes hw
    simp only [if_true, ix0, cmpE, Option.some.injEq, exists_eq_left']
    exact ⟨by simp only [isPace, hw, Bool.true_and], e⟩
section
variable {n b : Nat} {xs ys : List D}
theorem LineF.dx (h : LineF b n xs ys) {i : Nat} (hi : i < n) : Fb b (gt xs i) ∧ 0 < num (gt xs i) := h.fx _ (gt_mem (by have := h.lx; omega))
theorem LineF.dy (h : LineF b n xs ys) {i : Nat} (hi : i < n + 1) : Fb b (gt ys i) ∧ 0 ≤ num (gt ys i) := h.fy _ (gt_mem (by have := h.ly; omega))
theorem LineF.py (h : LineF b n xs ys) {i : Nat} (h0 : 0 < i) (hi : i < n) : 0 < num (gt ys i) := h.inn i _ (gt_of (by have := h.ly; omega)) h0 hi
abbrev mm (xs : List D) (k : Nat) : Rat := v (gt xs k)
theorem LineF.m0 (h : LineF b n xs ys) : ∀ k, k < n → 0 < mm xs k := fun k hk => v_pos (h.dx hk).1 (h.dx hk).2
theorem LineF.c0 (h : LineF b n xs ys) : ∀ k, 0 < k → k < n → 0 < mm ys k := fun k h0 hk => v_pos (h.dy (by omega)).1 (h.py h0 hk)
theorem LineF.cn (h : LineF b n xs ys) : ∀ k, k < n + 1 → 0 ≤ mm ys k := fun k hk => v_nn (h.dy hk).1 (h.dy hk).2
end
/-- one turn of the loop -/
theorem run_step {m c : Nat → Rat} {k : Nat} {a t beh here tu to : List Int} {mn md cn cd : Int} (hm : m k = (mn : Rat) / (md : Rat)) (hc : c (k + 1) = (cn : Rat) / (cd : Rat)) (md0 : 0 < md) (cd0 : 0 < cd) {l : Rat} (l0 : 0 < l)
    (ha : ∀ i, (coef a i : Rat) = l * (TA m c k).2 i) (ht : ∀ i, (coef t i : Rat) = l * (TA m c k).1 i)
    (hb : ∀ i, coef beh i = coef t i * md - coef (shZ a) i * mn) (hh : ∀ i, coef here i = coef a i * md) (hu : ∀ i, coef tu i = coef here i * cn + coef beh i * cd) (ho : ∀ i, coef to i = coef beh i * cn) :
    (∀ i, (coef here i : Rat) = l * md * (TA m c k).2 i) ∧ (∀ i, (coef tu i : Rat) = l * md * cd * Mini.En m c k i) ∧ ∀ i, (coef to i : Rat) = l * md * cd * (c (k + 1) * (TA m c (k + 1)).1 i) := by
  have md1 : (md : Rat) ≠ 0 := by
    intro h
    have : md = 0 := Rat.intCast_inj.mp (by simpa using h)
    omega
  have cd1 : (cd : Rat) ≠ 0 := by
    intro h
    have : cd = 0 := Rat.intCast_inj.mp (by simpa using h)
    omega
  have lz : l ≠ 0 := fun z => by rw [z] at l0; exact absurd l0 (by decide)
  have h1 : ∀ i, (coef here i : Rat) = l * md * (TA m c k).2 i := fun i => by
    rw [hh, Rat.intCast_mul, ha]; grind
  have sh : ∀ i, (coef (shZ a) i : Rat) = l * shR (TA m c k).2 i := fun i => by
    rw [coef_sh]
    cases i with
    | zero =>
      show ((0 : Int) : Rat) = l * 0
      grind
    | succ i => exact ha i
  have h2 : ∀ i, (coef beh i : Rat) = l * md * (TA m c (k + 1)).1 i := fun i => by
    have e : (TA m c (k + 1)).1 i = (TA m c k).1 i - m k * shR (TA m c k).2 i := rfl
    rw [hb, Rat.intCast_sub, Rat.intCast_mul, Rat.intCast_mul, ht, sh, e, hm]
    grind
  refine ⟨h1, fun i => ?_, fun i => ?_⟩
  · rw [hu, Rat.intCast_add, Rat.intCast_mul, Rat.intCast_mul, h1, h2]
    unfold Mini.En
    rw [hc]
    grind
  · rw [ho, Rat.intCast_mul, h2, hc]
    grind
theorem sc_A {K A T c : Rat} (h : 0 < c) : K * (A * c + T) = K * c * (A + T / c) := by
  have : c ≠ 0 := fun z => by rw [z] at h; exact absurd h (by decide)
  grind
theorem sg_nz {k : Nat} {p w : Rat} (hp : 0 < p) (hw : 0 < w) (h : 0 = p * (sg k * w)) : False := by
  have q := Rat.mul_pos hp hw
  unfold sg at h
  split at h <;> grind
def StpL (S : Sto) (m c : Nat → Rat) (rs : List Nat) : Prop := ∀ k r, rs[k]? = some r → ∃ h x y z, S[r]? = some (stepI (tp h) x y z) ∧ Pz 400 20 h ∧ Sc h (TA m c k).2
/-- all that a step tells: the angle, the torque behind it, both times one number, what they are times beyond that, and the shaft -/
def StpF (S : Sto) (m c : Nat → Rat) (ys : List D) (rs : List Nat) : Prop := ∀ k r, rs[k]? = some r → ∃ h t s0 s1, ∃ l : Rat, S[r]? = some (stepI (tp h) (tp t) (.tup [.int s0, .int s1]) (gt ys (k + 1))) ∧ Pz 400 20 h ∧ Pz 400 20 t ∧ 0 < l ∧ (∀ q, (coef h q : Rat) = l * (TA m c k).2 q) ∧ (∀ q, (coef t q : Rat) = l * (TA m c (k + 1)).1 q) ∧ 0 < s0 ∧ 0 < s1 ∧ Bd 2200 s0 ∧ Bd 2200 s1 ∧ l * (s0 : Rat) = (s1 : Rat)
theorem StpF.l {S : Sto} {m c : Nat → Rat} {ys : List D} {rs : List Nat} (h : StpF S m c ys rs) : StpL S m c rs := fun k r hk => by
  obtain ⟨a, t, s0, s1, l, e, p, _, l0, ea, _⟩ := h k r hk
  exact ⟨a, _, _, _, e, p, l, l0, ea⟩
end K74
namespace K74
open PySem Mini
theorem t_gcd {n : Nat} (hn : 1 ≤ n) {S : Sto} {a b : Int} (hb : b.natAbs < 2 ^ 9000) : wp ((P n).call 28 [.int a, .int b] S) fun r S' => r = .int ((Nat.gcd a.natAbs b.natAbs : Nat) : Int) ∧ S' = S := by
  obtain ⟨m, rfl, hm⟩ := up hn
  rw [cP m 28 b28 rfl]
  refine wp_run rfl ?_
  show wp (evSs (P m) b28.body [some (.int a), some (.int b)] S) _
  simp only [b28, wp_sC, wp_par, wp_fn, wp_cons, wp_nil, wp_var, List.getElem?_cons_zero, List.getElem?_cons_succ, Option.some.injEq, exists_eq_left', fn_abs, wp_ok, setsL, List.set_cons_zero, List.set_cons_succ, fl_nx, wp_while]
  have absN : ∀ x : Int, (if x < 0 then -x else x) = ((x.natAbs : Nat) : Int) := fun x => by split <;> omega
  rw [absN, absN]
  refine whileN_wp (fun k ρ S' => ∃ x y : Nat, ρ = [some (.int (x : Int)), some (.int (y : Int))] ∧ S' = S ∧ y ≤ k ∧ Nat.gcd x y = Nat.gcd a.natAbs b.natAbs) ?_ _ b.natAbs _ _ (fuelBig2 hb) ⟨a.natAbs, b.natAbs, rfl, rfl, Nat.le_refl _, rfl⟩
  rintro k ρ S' ⟨x, y, rfl, rfl, hy, hg⟩
  simp only [wp_B, wp_cmp, wp_con, wp_var, List.getElem?_cons_zero, List.getElem?_cons_succ, Option.some.injEq, exists_eq_left', cmpE, truth]
  by_cases h0 : 0 < (y : Int)
  · simp only [h0, decide_true, if_true, wp_sC, wp_sN, wp_par, wp_cons, wp_nil, wp_bin, wp_fn, wp_con, wp_var, List.getElem?_cons_zero, List.getElem?_cons_succ, Option.some.injEq, exists_eq_left', fn_int, wp_ok, bin_mod h0, setsL, List.set_cons_zero, List.set_cons_succ, fl_nx]
    have hy0 : 0 < y := by omega
    have := Nat.mod_lt x hy0
    refine ⟨x % y, by omega, y, x % y, ?_, trivial, Nat.le_refl _, ?_⟩
    · rw [Int.natCast_emod]
    · rw [← hg, Nat.gcd_comm y, ← Nat.gcd_rec, Nat.gcd_comm]
  · simp only [h0, decide_false, Bool.false_eq_true, if_false, fl_nx, wp_sC, wp_ret, wp_var, List.getElem?_cons_zero, Option.some.injEq, exists_eq_left', fl_rt, ed_rt]
    have : y = 0 := by omega
    subst this
    rw [Nat.gcd_zero_right] at hg
    rw [hg]
    exact ⟨rfl, trivial⟩
theorem t_cutB {n : Nat} (hn : 2 ≤ n) {S : Sto} {a b : Int} {k : Nat} (b1 : 1 ≤ b) (hb : Bd k b) (hk : k ≤ 8900) : wp ((P n).call 29 [.int a, .int b] S) fun r S' => r = frD a b ∧ S' = S := by
  obtain ⟨m, rfl, hm⟩ := up hn
  rw [cP m 29 b29 rfl]
  refine wp_run rfl ?_
  show wp (evSs (P m) b29.body [some (.int a), some (.int b), none] S) _
  have nb : (0 : Int) < b := by omega
  simp_arith [b29]
  refine wp_mono (t_gcd hm (hb.lt9000 (by omega))) fun r S1 ⟨er, es⟩ => ?_
  subst er es
  have g0 : 0 < Nat.gcd a.natAbs b.natAbs := Nat.gcd_pos_of_pos_right _ (by omega)
  have g1 : Nat.gcd a.natAbs b.natAbs ≤ b.natAbs := Nat.le_of_dvd (by omega) (Nat.gcd_dvd_right _ _)
  have gi : (0 : Int) < ((Nat.gcd a.natAbs b.natAbs : Nat) : Int) := by omega
  have gl : Bd k ((Nat.gcd a.natAbs b.natAbs : Nat) : Int) := hb.le (by rw [Int.natAbs_natCast]; exact g1)
  have nb' : b > 0 := nb
  simp_arith [nb, decide_true, if_true, big_div gi gl (by omega)]
  exact ⟨rfl, trivial⟩
theorem _root_.Mini.Fb.ok {k : Nat} {d : D} {S : Sto} (h : Fb k d) : okD S d = true := by
  rw [h.eq]; rfl
theorem LineF.ok {b n : Nat} {xs ys : List D} {S : Sto} (h : LineF b n xs ys) : okD S (lnD xs ys) = true := by
  have n4 := h.n4
  have lx := h.lx
  have ly := h.ly
  refine okT_mk (by simp) fun d hd => ?_
  rcases List.mem_cons.mp hd with rfl | hd
  · exact okT_mk (by omega) fun x hx => (h.fx x hx).1.ok
  · rw [List.mem_singleton.mp hd]
    exact okT_mk (by omega) fun x hx => (h.fy x hx).1.ok
theorem t_addF {n : Nat} (hn : 3 ≤ n) {S : Sto} {a b : D} {j k : Nat} (ha : Fb j a) (hb : Fb k b) (hjk : j + k ≤ 8800) : wp ((P n).call 30 [a, b] S) fun r S' => r = addD a b ∧ S' = S := by
  obtain ⟨m, rfl, hm⟩ := up hn
  rw [cP m 30 b30 rfl]
  refine wp_run rfl ?_
  have p := Int.mul_pos (show 0 < den a by have := ha.pos; omega) (show 0 < den b by have := hb.pos; omega)
  generalize hr : addD a b = r
  rw [ha.eq, hb.eq]
  show wp (evSs (P m) b30.body [some (.tup [.int (num a), .int (den a)]), some (.tup [.int (num b), .int (den b)])] S) _
  simp_arith [b30, ix0, ix1, big_mul ha.bn hb.bd (by omega), big_mul hb.bn ha.bd (by omega), big_mul ha.bd hb.bd (by omega), bin_add]
  refine wp_mono (t_cutB hm (by omega) (ha.bd.mul hb.bd) (by omega)) fun r S1 ⟨er, es⟩ => ?_
  subst er es
  exact ⟨hr, rfl⟩
theorem t_byF {n : Nat} (hn : 3 ≤ n) {S : Sto} {a b : D} {j k : Nat} (ha : Fb j a) (hb : Fb k b) (hjk : j + k ≤ 8800) : wp ((P n).call 31 [a, b] S) fun r S' => r = byD a b ∧ S' = S := by
  obtain ⟨m, rfl, hm⟩ := up hn
  rw [cP m 31 b31 rfl]
  refine wp_run rfl ?_
  have p := Int.mul_pos (show 0 < den a by have := ha.pos; omega) (show 0 < den b by have := hb.pos; omega)
  generalize hr : byD a b = r
  rw [ha.eq, hb.eq]
  show wp (evSs (P m) b31.body [some (.tup [.int (num a), .int (den a)]), some (.tup [.int (num b), .int (den b)])] S) _
  simp_arith [b31, ix0, ix1, big_mul ha.bn hb.bn (by omega), big_mul ha.bd hb.bd (by omega)]
  refine wp_mono (t_cutB hm (by omega) (ha.bd.mul hb.bd) (by omega)) fun r S1 ⟨er, es⟩ => ?_
  subst er es
  exact ⟨hr, rfl⟩
/-- twist and angle over one denominator -/
structure Rp (K : Nat) (tw an : Rat) : Prop where
  ex : ∃ a t Dn : Int, 0 < Dn ∧ Bd K Dn ∧ Bd K a ∧ Bd K t ∧ an * (Dn : Rat) = (a : Rat) ∧ tw * (Dn : Rat) = (t : Rat)
theorem Rp.mono {K L : Nat} {tw an : Rat} (h : Rp K tw an) (hk : K ≤ L) : Rp L tw an := by
  obtain ⟨a, t, Dn, D0, bD, ba, bt, ea, et⟩ := h.ex
  exact ⟨a, t, Dn, D0, bD.mono hk, ba.mono hk, bt.mono hk, ea, et⟩
theorem _root_.Mini.Sg.num {k : Nat} {d : D} (h : Fb k d) : Sg (num d) (v d) := Sg.pos (Rat.intCast_pos.mpr (show 0 < den d by have := h.pos; omega)) (den_mul h)
theorem LineF.up {a b n : Nat} {xs ys : List D} (hb : a ≤ b) (h : LineF a n xs ys) : LineF b n xs ys := ⟨h.n1, h.n4, h.lx, h.ly, fun x hx => ⟨(h.fx x hx).1.mono hb, (h.fx x hx).2⟩, fun x hx => ⟨(h.fy x hx).1.mono hb, (h.fy x hx).2⟩, h.inn⟩
def gf (fs : List D) (i : Nat) : D := fs[i]?.getD fz
def cf (fs : List D) (i : Nat) : Rat := v (gf fs i)
def RowQ (S : Sto) (r : Nat) (b n : Nat) (R : Nat → Rat) : Prop := ∃ fs, S[r]? = some (.lst fs) ∧ fs.length = n ∧ (∀ x ∈ fs, Fb b x) ∧ ∀ i, cf fs i = R i
theorem RowQ.up {S : Sto} {r a b n : Nat} {R : Nat → Rat} (h : RowQ S r a n R) (hb : a ≤ b) : RowQ S r b n R := by
  obtain ⟨fs, h1, h2, h3, h4⟩ := h
  exact ⟨fs, h1, h2, fun x hx => (h3 x hx).mono hb, h4⟩
/-! ### greater numbers: the row at a far divided place -/
theorem big_div2 {S : Sto} {i j : Int} (h0 : 0 < j) {k : Nat} (h : Bd k i) (hk : k ≤ 13500) : binE .fdiv (.int i) (.int j) S = .ok (.int (i / j)) S := by
  have h1 : Builtin.divisionGoesByPylong i j = false := by
    unfold Builtin.divisionGoesByPylong
    have e : (j == 0) = false := by simp; omega
    simp only [e, Bool.false_eq_true, if_false]
    by_cases z : i = 0
    · subst z; simp
    · have e2 : (i == 0) = false := by simp; exact z
      simp only [e2, Bool.false_eq_true, if_false]
      have hi : i.natAbs ≠ 0 := by omega
      have hl := (Nat.log2_lt hi (k := 13500)).mpr (Nat.lt_of_lt_of_le h (Nat.pow_le_pow_right (by decide) hk))
      by_cases q : j.natAbs.log2 / 30 + 1 > 300
      · have : ¬ (i.natAbs.log2 / 30 + 1 > j.natAbs.log2 / 30 + 1 + 150) := by omega
        simp [this]
      · simp [q]
  have h2 : divOk i j = true := by
    unfold divOk
    rw [h1]
    simp
    omega
  show (if divOk i j then Res.ok (D.int (i.fdiv j)) S else .no) = _
  rw [if_pos h2, Int.fdiv_eq_ediv_of_nonneg _ (by omega)]
theorem t_gcdC {n : Nat} (hn : 1 ≤ n) {S : Sto} {a b : Int} {ka kb : Nat} (ha : Bd ka a) (hb : Bd kb b) (hk : ka + kb ≤ 100000) : wp ((P n).call 28 [.int a, .int b] S) fun r S' => r = .int ((Nat.gcd a.natAbs b.natAbs : Nat) : Int) ∧ S' = S := by
  obtain ⟨m, rfl, hm⟩ := up hn
  rw [cP m 28 b28 rfl]
  refine wp_run rfl ?_
  show wp (evSs (P m) b28.body [some (.int a), some (.int b)] S) _
  simp only [b28, wp_sC, wp_par, wp_fn, wp_cons, wp_nil, wp_var, List.getElem?_cons_zero, List.getElem?_cons_succ, Option.some.injEq, exists_eq_left', fn_abs, wp_ok, setsL, List.set_cons_zero, List.set_cons_succ, fl_nx, wp_while]
  have absN : ∀ x : Int, (if x < 0 then -x else x) = ((x.natAbs : Nat) : Int) := fun x => by split <;> omega
  rw [absN, absN]
  have ha : a.natAbs < 2 ^ ka := ha
  have hb : b.natAbs < 2 ^ kb := hb
  refine whileN_wp (fun k ρ S' => ∃ x y : Nat, ρ = [some (.int (x : Int)), some (.int (y : Int))] ∧ S' = S ∧ (0 < y → (y ≤ x ∧ x * y < 2 ^ k) ∨ (x < y ∧ 1 ≤ k ∧ x * y < 2 ^ (k - 1))) ∧ Nat.gcd x y = Nat.gcd a.natAbs b.natAbs) ?_ _ (ka + kb + 1) _ _ (fuelBig2 (Nat.lt_of_le_of_lt (show ka + kb + 1 ≤ 100001 by omega) (by decide +kernel))) ⟨a.natAbs, b.natAbs, rfl, rfl, fun y0 => ?_, rfl⟩
  · rintro k ρ S' ⟨x, y, rfl, rfl, hy, hg⟩
    simp only [wp_B, wp_cmp, wp_con, wp_var, List.getElem?_cons_zero, List.getElem?_cons_succ, Option.some.injEq, exists_eq_left', cmpE, truth]
    by_cases h0 : 0 < (y : Int)
    · simp only [h0, decide_true, if_true, wp_sC, wp_sN, wp_par, wp_cons, wp_nil, wp_bin, wp_fn, wp_con, wp_var, List.getElem?_cons_zero, List.getElem?_cons_succ, Option.some.injEq, exists_eq_left', fn_int, wp_ok, bin_mod h0, setsL, List.set_cons_zero, List.set_cons_succ, fl_nx]
      have hy0 : 0 < y := by omega
      have ml := Nat.mod_lt x hy0
      obtain ⟨k', ek, inv⟩ : ∃ k', k' + 1 = k ∧ (0 < x % y → (x % y ≤ y ∧ y * (x % y) < 2 ^ k')) := by
        rcases hy hy0 with ⟨c1, c2⟩ | ⟨c1, c2, c3⟩
        · have k1 : 1 ≤ k := by
            rcases Nat.eq_zero_or_pos k with z | z
            · subst z
              have := Nat.mul_le_mul c1 (show 1 ≤ y by omega)
              rw [Nat.pow_zero] at c2
              have := Nat.mul_le_mul (show 1 ≤ x by omega) (show 1 ≤ y by omega)
              omega
            · exact z
          refine ⟨k - 1, by omega, fun _ => ⟨by omega, ?_⟩⟩
          have d := Nat.div_add_mod x y
          have q1 : 1 ≤ x / y := (Nat.le_div_iff_mul_le hy0).mpr (by omega)
          have q2 := Nat.mul_le_mul_left y q1
          have h2 : 2 * (x % y) ≤ x := by omega
          have h3 := Nat.mul_le_mul_left y h2
          have h4 : y * (2 * (x % y)) = 2 * (y * (x % y)) := by rw [Nat.mul_left_comm]
          have h5 : 2 ^ k = 2 * 2 ^ (k - 1) := by
            rw [show k = (k - 1) + 1 by omega, Nat.pow_succ, Nat.mul_comm]; simp
          rw [Nat.mul_comm x y] at c2
          omega
        · refine ⟨k - 1, by omega, fun _ => ?_⟩
          rw [Nat.mod_eq_of_lt c1, Nat.mul_comm]
          exact ⟨by omega, c3⟩
      refine ⟨k', by omega, y, x % y, ?_, trivial, fun z => .inl (inv z), ?_⟩
      · rw [Int.natCast_emod]
      · rw [← hg, Nat.gcd_comm y, ← Nat.gcd_rec, Nat.gcd_comm]
    · simp only [h0, decide_false, Bool.false_eq_true, if_false, fl_nx, wp_sC, wp_ret, wp_var, List.getElem?_cons_zero, Option.some.injEq, exists_eq_left', fl_rt, ed_rt]
      have : y = 0 := by omega
      subst this
      rw [Nat.gcd_zero_right] at hg
      rw [hg]
      exact ⟨rfl, trivial⟩
  · have p : a.natAbs * b.natAbs < 2 ^ (ka + kb) := by
      rw [Nat.pow_add]
      exact Nat.mul_lt_mul'' ha hb
    rcases Nat.lt_or_ge a.natAbs b.natAbs with c | c
    · exact .inr ⟨c, by omega, by rw [Nat.add_sub_cancel]; exact p⟩
    · exact .inl ⟨c, Nat.lt_of_lt_of_le p (Nat.pow_le_pow_right (by decide) (by omega))⟩
theorem t_cutC {n : Nat} (hn : 2 ≤ n) {S : Sto} {a b : Int} {k : Nat} (b1 : 1 ≤ b) (ha : Bd k a) (hb : Bd k b) (hk : k ≤ 13500) : wp ((P n).call 29 [.int a, .int b] S) fun r S' => r = frD a b ∧ S' = S := by
  obtain ⟨m, rfl, hm⟩ := up hn
  rw [cP m 29 b29 rfl]
  refine wp_run rfl ?_
  show wp (evSs (P m) b29.body [some (.int a), some (.int b), none] S) _
  have nb : (0 : Int) < b := by omega
  simp_arith [b29]
  refine wp_mono (t_gcdC hm ha hb (by omega)) fun r S1 ⟨er, es⟩ => ?_
  subst er es
  have g0 : 0 < Nat.gcd a.natAbs b.natAbs := Nat.gcd_pos_of_pos_right _ (by omega)
  have gi : (0 : Int) < ((Nat.gcd a.natAbs b.natAbs : Nat) : Int) := by omega
  simp_arith [nb, decide_true, if_true, big_div2 gi ha hk, big_div2 gi hb hk]
  exact ⟨rfl, trivial⟩
theorem t_addG {n : Nat} (hn : 3 ≤ n) {S : Sto} {a b : D} {j k : Nat} (ha : Fb j a) (hb : Fb k b) (hjk : j + k ≤ 13400) : wp ((P n).call 30 [a, b] S) fun r S' => r = addD a b ∧ S' = S := by
  obtain ⟨m, rfl, hm⟩ := up hn
  rw [cP m 30 b30 rfl]
  refine wp_run rfl ?_
  have p := Int.mul_pos (show 0 < den a by have := ha.pos; omega) (show 0 < den b by have := hb.pos; omega)
  generalize hr : addD a b = r
  rw [ha.eq, hb.eq]
  show wp (evSs (P m) b30.body [some (.tup [.int (num a), .int (den a)]), some (.tup [.int (num b), .int (den b)])] S) _
  simp_arith [b30, ix0, ix1, big_mul ha.bn hb.bd (by omega), big_mul hb.bn ha.bd (by omega), big_mul ha.bd hb.bd (by omega), bin_add]
  refine wp_mono (t_cutC hm (by omega) (show Bd (j + k + 1) _ from (ha.bn.mul hb.bd).add ((hb.bn.mul ha.bd).mono (by omega))) ((ha.bd.mul hb.bd).mono (Nat.le_succ _)) (by omega)) fun r S1 ⟨er, es⟩ => ?_
  subst er es
  exact ⟨hr, rfl⟩
end K74
namespace K74
open PySem Mini
theorem one_fb : Fb 1 (.tup [.int 1, .int 1]) := ⟨rfl, show (1 : Int).natAbs < 2 ^ 1 by decide, Int.le_refl 1, show (1 : Int).natAbs < 2 ^ 1 by decide, rfl⟩
theorem one_v : v (.tup [.int 1, .int 1]) = 1 := by
  show ((1 : Int) : Rat) / ((1 : Int) : Rat) = 1
  decide +kernel
theorem fz_v : v fz = 0 := by
  show ((0 : Int) : Rat) / ((1 : Int) : Rat) = 0
  decide +kernel
theorem gf_fb {k : Nat} {fs : List D} (hk : 1 ≤ k) (h : ∀ x ∈ fs, Fb k x) (i : Nat) : Fb k (gf fs i) := by
  unfold gf
  cases q : fs[i]? with
  | none => exact fz_fb.mono hk
  | some x => exact h x (List.mem_of_getElem? q)
theorem gf_get {fs : List D} {i : Nat} {d : D} (h : fs[i]? = some d) : gf fs i = d := by
  unfold gf
  rw [h]; rfl
theorem gf_of {fs : List D} {i : Nat} (h : i < fs.length) : fs[i]? = some (gf fs i) := by
  unfold gf
  rw [List.getElem?_eq_getElem h]; rfl
theorem cf_ge {fs : List D} {i : Nat} (h : fs.length ≤ i) : cf fs i = 0 := by
  unfold cf gf
  rw [List.getElem?_eq_none h]
  exact fz_v
theorem gf_pad {fs : List D} {q i : Nat} : gf (fs ++ List.replicate q fz) i = gf fs i := by
  unfold gf
  by_cases h : i < fs.length
  · rw [List.getElem?_append_left h]
  · rw [List.getElem?_append_right (by omega), List.getElem?_eq_none (l := fs) (by omega), List.getElem?_replicate]
    split <;> rfl
theorem pad_wp {p : Pg} {w : Nat} {fs : List D} {l k : Nat} {ρ : Mini.Loc} {S : Sto} {Q : D → Sto → Prop} (hv : ρ[w]? = some (some (.ref l))) (h2 : ρ[2]? = some (some (.int (k : Int)))) (hl : S[l]? = some (.lst fs)) (hk : k ≤ 900) (hf : fs.length ≤ k)
    (hQ : ∀ S' l', Ext S S' → S'[l']? = some (.lst (fs ++ List.replicate (k - fs.length) fz)) → Q (.ref l') S') : wp (evE p (.bin .add (.fn .list [(.var w)]) (.bin .mul (.lst [(.tup [(.con (.int 0)), (.con (.int 1))])]) (.bin .sub (.var 2) (.fn .len [(.var w)])))) ρ S) Q := by
  have l1 := (Ext.one (c := .lst fs)).get hl
  have l2 := (Ext.one (c := .lst [fz])).get l1
  have k1 : (S ++ [Mini.Cl.lst fs] ++ [Mini.Cl.lst [fz]] ++ [Mini.Cl.lst (List.replicate ((k : Int) - fs.length).toNat [fz]).flatten])[S.length]? = some (.lst fs) := by simp
  have e0 : (List.replicate ((k : Int) - fs.length).toNat [fz]).flatten = List.replicate (k - fs.length) fz := by
    rw [show ((k : Int) - fs.length).toNat = k - fs.length by omega, rep_flat]
  have k2 := at_new (A := S ++ [Mini.Cl.lst fs] ++ [Mini.Cl.lst [fz]]) (c := .lst (List.replicate ((k : Int) - fs.length).toNat [fz]).flatten)
  have cat := bin_catL (lst_c k1) (lst_c k2) (by rw [e0, List.length_replicate]; omega)
  have rep := bin_repL (lst_c (at_new (A := S ++ [Mini.Cl.lst fs]) (c := .lst [fz]))) (show (0 : Int) ≤ (k : Int) - fs.length by omega) (show (k : Int) - fs.length ≤ 1000 by omega) (show [fz].length ≤ 50 by decide)
  have l2' : (S ++ [Mini.Cl.lst fs] ++ [Mini.Cl.lst [.tup [.int 0, .int 1]]])[l]? = some (.lst fs) := l2
  have rep' : binE .mul (.ref (S ++ [Mini.Cl.lst fs]).length) (.int ((k : Int) - fs.length)) (S ++ [Mini.Cl.lst fs] ++ [Mini.Cl.lst [.tup [.int 0, .int 1]]]) = _ := rep
  simp only [wp_bin, wp_fn, wp_cons, wp_nil, wp_var, wp_lst, wp_tup, wp_con, hv, h2, Option.some.injEq, exists_eq_left', fn_lstR (seq_c hl), wp_ok, fn_lenR (seq_c l2'), bin_sub, rep', cat]
  refine hQ _ _ (((Ext.one.trans .one).trans .one).trans .one) ?_
  rw [at_new, e0]
theorem range_fm {f : Nat → D} {n : Nat} : ((List.range n).map fun (i : Nat) => D.int (0 + (i : Int))).filterMap (fun d => some (match d with | .int i => f i.toNat | _ => .non)) = (List.range n).map f := by
  rw [fm_map (f := fun d => match d with | .int i => f i.toNat | _ => .non), List.map_map]
  refine List.map_congr_left fun i _ => ?_
  show f (0 + (i : Int)).toNat = f i
  rw [Int.zero_add, Int.toNat_natCast]
theorem gf_map {f : Nat → D} {n i : Nat} (h : i < n) : gf ((List.range n).map f) i = f i := gf_get (by rw [List.getElem?_map, List.getElem?_range h]; rfl)
theorem cf_cons {fs : List D} : ∀ i, cf (fz :: fs) i = shR (cf fs) i
  | 0 => fz_v
  | i + 1 => by
    show cf (fz :: fs) (i + 1) = cf fs i
    unfold cf gf
    rw [List.getElem?_cons_succ]
theorem cf_one {d : D} {i : Nat} : cf [d] i = if i = 0 then v d else 0 := by
  cases i with
  | zero => rfl
  | succ i => rw [if_neg (by omega)]; exact cf_ge (by simp)
def wholeF (L : Int) (d : D) : Int := num d * (L / den d)
theorem whole_v {k : Nat} {d : D} {L : Int} (h : Fb k d) (hd : den d ∣ L) : ((wholeF L d : Int) : Rat) = (L : Rat) * v d := by
  obtain ⟨q, rfl⟩ := hd
  have p := h.pos
  have d0 := h.d0
  unfold wholeF v
  rw [Int.mul_ediv_cancel_left _ (by omega), Rat.intCast_mul, Rat.intCast_mul]
  grind
theorem lcm_step {L d : Int} (hL : 0 < L) (hd : 0 < d) : 0 < L * d / ((Nat.gcd L.natAbs d.natAbs : Nat) : Int) ∧ L ∣ L * d / ((Nat.gcd L.natAbs d.natAbs : Nat) : Int) ∧ d ∣ L * d / ((Nat.gcd L.natAbs d.natAbs : Nat) : Int) := by
  have g0 : 0 < Nat.gcd L.natAbs d.natAbs := Nat.gcd_pos_of_pos_right _ (by omega)
  have gi : (0 : Int) < ((Nat.gcd L.natAbs d.natAbs : Nat) : Int) := by omega
  obtain ⟨a, ha⟩ : ((Nat.gcd L.natAbs d.natAbs : Nat) : Int) ∣ L := Int.ofNat_dvd_left.mpr (Nat.gcd_dvd_left _ _)
  obtain ⟨b, hb⟩ : ((Nat.gcd L.natAbs d.natAbs : Nat) : Int) ∣ d := Int.ofNat_dvd_left.mpr (Nat.gcd_dvd_right _ _)
  generalize ((Nat.gcd L.natAbs d.natAbs : Nat) : Int) = g at *
  have e1 : L * d / g = L * b := by
    rw [hb, show L * (g * b) = g * (L * b) by grind, Int.mul_ediv_cancel_left _ (by omega)]
  have e2 : L * d / g = d * a := by
    rw [ha, show g * a * d = g * (d * a) by grind, Int.mul_ediv_cancel_left _ (by omega)]
  have bp : 0 < b := by
    rcases Int.lt_or_le 0 b with h | h
    · exact h
    · have := Int.mul_nonpos_of_nonneg_of_nonpos (Int.le_of_lt gi) h
      omega
  refine ⟨by rw [e1]; exact Int.mul_pos hL bp, ⟨b, e1⟩, ⟨a, e2⟩⟩
theorem coef_fs {fs : List D} {L : Int} (i : Nat) : coef (fs.map (wholeF L)) i = wholeF L (gf fs i) := by
  unfold coef gf
  rw [List.getD_eq_getElem?_getD, List.getElem?_map]
  cases fs[i]? with
  | none =>
    show (0 : Int) = 0 * (L / 1)
    rw [Int.zero_mul]
  | some x => rfl
theorem r_cancel {a b : Rat} (h : a ≠ 0) (e : (0 : Rat) = a * b) : b = 0 := by grind
theorem for_calm {p : Pg} {t : Tg} {body : List St} {ρ : Mini.Loc} {S : Sto} {l : Nat} {xs : List D} {Q : Fl → Sto → Prop} (R : Nat → Mini.Loc → Prop) (hl : S[l]? = some (.lst xs)) (hf : xs.length < p.fuel) (h0 : R 0 ρ)
    (hb : ∀ i ρ' d, R i ρ' → xs[i]? = some d → wp ((asg p t d ρ' S).bind fun ρ1 S1 => evSs p body ρ1 S1) fun f S1 => S1 = S ∧ ∃ ρ1, f = .nx ρ1 ∧ R (i + 1) ρ1)
    (hd : ∀ ρ', R xs.length ρ' → Q (.nx ρ') S) : wp (forN (srcR l) (fun d S ρ => (asg p t d ρ S).bind fun ρ1 S1 => evSs p body ρ1 S1) p.fuel 0 S ρ) Q := by
  refine forN_wp xs (fun i S' ρ' => S' = S ∧ R i ρ') (fun i S' ρ' ⟨e, _⟩ => by subst e; exact srcR_of hl) ?_ ?_ _ 0 _ _ (Nat.zero_le _) (by omega) ⟨rfl, h0⟩
  · rintro i S' ρ' d ⟨rfl, hr⟩ hd
    refine wp_mono (hb i ρ' d hr hd) fun f S1 ⟨es, ρ1, ef, h1⟩ => ?_
    subst es ef
    exact ⟨rfl, h1⟩
  · rintro S' ρ' ⟨rfl, hr⟩
    exact hd ρ' hr
theorem at_mid {S u t : Sto} {c d : Mini.Cl} {n : Nat} (h : n = S.length + 1 + u.length) : (S ++ c :: (u ++ d :: t))[n]? = some d := by
  rw [List.getElem?_append_right (by omega), show n - S.length = u.length + 1 by omega, List.getElem?_cons_succ, List.getElem?_append_right (Nat.le_refl _), Nat.sub_self]
  rfl
theorem ext_len {S A : Sto} (e : Ext S A) : S.length ≤ A.length := by
  obtain ⟨t, rfl⟩ := e
  simp
/-! ### rows of fractions without noughts at the end -/
def NmF (fs : List D) : Prop := fs = [] ∨ cf fs (fs.length - 1) ≠ 0
structure RQ (S : Sto) (r : Nat) (b n : Nat) (R : Nat → Rat) : Prop where
  ex : ∃ fs, S[r]? = some (.lst fs) ∧ fs.length ≤ n ∧ (∀ x ∈ fs, Fb b x) ∧ NmF fs ∧ ∀ i, cf fs i = R i
theorem RQ.ext {S S' : Sto} {r b n : Nat} {R : Nat → Rat} (h : RQ S r b n R) (e : Ext S S') : RQ S' r b n R := by
  obtain ⟨fs, h1, h2⟩ := h.ex
  exact ⟨fs, e.get h1, h2⟩
theorem RQ.chg {S S' : Sto} {r b n c : Nat} {R : Nat → Rat} (h : RQ S r b n R) (g : Chg c S S') (hc : r ≠ c) : RQ S' r b n R := by
  obtain ⟨fs, h1, h2⟩ := h.ex
  exact ⟨fs, g.get r _ hc h1, h2⟩
theorem RQ.up {S : Sto} {r a b n m : Nat} {R : Nat → Rat} (h : RQ S r a n R) (hb : a ≤ b) (hn : n ≤ m) : RQ S r b m R := by
  obtain ⟨fs, h1, h2, h3, h4⟩ := h.ex
  exact ⟨fs, h1, by omega, fun x hx => (h3 x hx).mono hb, h4⟩
theorem RQ.congr {S : Sto} {r b n : Nat} {R R' : Nat → Rat} (h : RQ S r b n R) (e : ∀ i, R i = R' i) : RQ S r b n R' := by
  have : R = R' := funext e
  rw [← this]; exact h
theorem RQ.lt {S : Sto} {r b n : Nat} {R : Nat → Rat} (h : RQ S r b n R) : r < S.length := by
  obtain ⟨fs, h1, _⟩ := h.ex
  exact (List.getElem?_eq_some_iff.mp h1).1
theorem cf_take {fs : List D} {q i : Nat} : cf (fs.take q) i = if i < q then cf fs i else 0 := by
  unfold cf gf
  rw [List.getElem?_take]
  split
  · rfl
  · exact fz_v
theorem v_num0 {k : Nat} {d : D} (h : Fb k d) : num d = 0 ↔ v d = 0 := by
  have p := h.pos
  have d0 := h.d0
  unfold v
  constructor
  · intro z
    rw [z]
    show ((0 : Int) : Rat) / _ = 0
    rw [show ((0 : Int) : Rat) = 0 from rfl]; grind
  · intro z
    have : ((num d : Int) : Rat) = 0 := by
      have i := Rat.inv_mul_cancel _ d0
      have : ((num d : Int) : Rat) = ((num d : Int) : Rat) / ((den d : Int) : Rat) * ((den d : Int) : Rat) := by grind
      rw [this, z]; grind
    exact Rat.intCast_eq_zero_iff.mp this
/-- the law's cut -/
theorem t_lcut {n : Nat} (hn : 1 ≤ n) {l b : Nat} {fs : List D} {S : Sto} (hl : S[l]? = some (.lst fs)) (b1 : 1 ≤ b) (hf : ∀ x ∈ fs, Fb b x) (lf : fs.length ≤ 900) :
    wp ((P n).call 32 [.ref l] S) fun r S' => Ext S S' ∧ ∃ q, r = .ref q ∧ S.length ≤ q ∧ RQ S' q b fs.length (cf fs) := by
  obtain ⟨m, rfl, hm⟩ := up hn
  rw [cP m 32 b32 rfl]
  refine wp_run rfl ?_
  show wp (evSs (P m) b32.body [some (.ref l), none, none] S) _
  unfold b32
  rw [wp_sC]
  simp_all_arith [fn_lenR (seq_c hl)]
  rw [fl_nx, wp_sC]
  rw [wp_for, wp_i1]
  simp_all_arith [fn_lenR (seq_c hl)]
  have hin : inR (fs.length : Int) = true := by
    unfold inR
    rw [Bool.and_eq_true, decide_eq_true_eq, decide_eq_true_eq]
    omega
  have hsrc : rng1E (.int (fs.length : Int)) = some (srcL ((List.range fs.length).map fun (i : Nat) => D.int (0 + (i : Int)))) := by
    show (if inR (fs.length : Int) then some (rngL 0 ((fs.length : Int)).toNat) else none) = _
    rw [if_pos hin, Int.toNat_natCast, rng_srcL]
  refine ⟨_, hsrc, ?_⟩
  refine forN_wp ((List.range fs.length).map fun (i : Nat) => D.int (0 + (i : Int))) (fun k S' ρ' => S' = S ∧ ∃ (q : Nat) (d2 : Option D), ρ' = [some (.ref l), some (.int (q : Int)), d2] ∧ q ≤ fs.length ∧ (∀ i, q ≤ i → cf fs i = 0) ∧ (q + k = fs.length ∨ (0 < q ∧ cf fs (q - 1) ≠ 0))) (fun _ _ _ _ => rfl) ?_ ?_ _ 0 _ _ (Nat.zero_le _) (by rw [List.length_map, List.length_range]; have := fuelBig (m := m) (n := fs.length) (by omega); omega) ⟨rfl, fs.length, none, rfl, Nat.le_refl _, fun i hi => cf_ge hi, .inl rfl⟩
  · rintro k S' ρ' d ⟨rfl, q, d2, rfl, ql, qz, hq⟩ hd
    have hk : k < fs.length := by
      have := (List.getElem?_eq_some_iff.mp hd).1
      simpa using this
    simp only [wp_bind, wp_gn, List.set_cons_zero, List.set_cons_succ]
    rw [wp_sC]
    by_cases q0 : 0 < q
    · have qi : (0 : Int) < (q : Int) := by omega
      have f := gf_fb b1 hf (q - 1)
      have ixq : ixE S' (.ref l) (.int ((q : Int) - 1)) = some (gf fs (q - 1)) := by
        rw [show ((q : Int) - 1) = ((q - 1 : Nat) : Int) by omega, ix_c hl, atI_n (by omega), gf_of (by omega)]
      have ix0' : ixE S' (gf fs (q - 1)) (.int 0) = some (.int (num (gf fs (q - 1)))) := by
        have e := f.eq
        generalize num (gf fs (q - 1)) = a at e ⊢
        rw [e]; rfl
      simp_all_arith [qi, decide_true, if_true, bin_sub, ixq, ix0']
      by_cases z : num (gf fs (q - 1)) = 0
      · rw [decide_eq_true z]
        simp only [if_true, wp_sC, wp_sN]
        simp_all_arith [bin_sub]
        have zc : cf fs (q - 1) = 0 := (v_num0 f).mp z
        simp only [fl_nx, wp_sN, wp_ok]
        refine ⟨trivial, q - 1, _, by rw [show ((q - 1 : Nat) : Int) = (q : Int) - 1 by omega], by omega, fun i hi => ?_, ?_⟩
        · rcases Nat.lt_or_ge i q with h | h
          · rw [show i = q - 1 by omega, zc]
          · exact qz i h
        · rcases hq with h | ⟨_, h⟩
          · left; omega
          · exact absurd zc h
      · rw [decide_eq_false z]
        simp only [Bool.false_eq_true, if_false, wp_sN, fl_nx, wp_ok]
        exact ⟨trivial, q, _, rfl, ql, qz, .inr ⟨q0, fun zc => z ((v_num0 f).mpr zc)⟩⟩
    · have qi : ¬ (0 : Int) < (q : Int) := by omega
      simp_all_arith [qi, decide_false, Bool.false_eq_true, if_false]
      simp only [fl_nx, wp_sN, wp_ok]
      refine ⟨trivial, q, _, rfl, ql, qz, ?_⟩
      rcases hq with h | ⟨h, _⟩
      · omega
      · exact absurd h q0
  · rintro S' ρ' ⟨rfl, q, d2, rfl, ql, qz, hq⟩
    simp only [List.length_map, List.length_range] at hq
    rw [fl_nx, wp_sC]
    have sl : slE (.ref l) none (some (q : Int)) S' = .ok (.ref S'.length) (S' ++ [.lst (fs.take q)]) := by
      show (match seqAt S' l with
        | some xs => new (.lst (cutD xs none (some (q : Int)))) S'
        | none => .no) = _
      rw [seq_c hl]
      show new (.lst (cutD fs none (some (q : Int)))) S' = _
      rw [cut_to]; rfl
    simp_all_arith [wp_sl, wp_oN, wp_oS, partI, sl, fn_lstR (seq_c at_new)]
    refine ⟨Ext.one.trans .one, _, rfl, by simp, ⟨fs.take q, at_new, by rw [List.length_take]; omega, fun x hx => hf x (List.mem_of_mem_take hx), ?_, fun i => ?_⟩⟩
    · rcases Nat.eq_zero_or_pos q with z | z
      · left; rw [z]; rfl
      · right
        rw [List.length_take, show min q fs.length = q by omega, cf_take, if_pos (by omega)]
        rcases hq with h | ⟨_, h⟩
        · omega
        · exact h
    · rw [cf_take]
      split
      · rfl
      · exact (qz i (by omega)).symm
end K74
namespace K74
open PySem Mini
theorem range_fm2 {f : Nat → D} {n : Nat} : ((List.range n).map fun (i : Nat) => D.int (0 + (i : Int))).filterMap (fun d => some (match d with | .int i => f i.toNat | _ => .non)) = (List.range n).map f := by
  rw [fm_map (f := fun d => match d with | .int i => f i.toNat | _ => .non), List.map_map]
  refine List.map_congr_left fun i _ => ?_
  show f (0 + (i : Int)).toNat = f i
  rw [Int.zero_add, Int.toNat_natCast]
/-- the sum of two rows -/
theorem t_radd {n : Nat} (hn : 4 ≤ n) {l1 l2 j k p q : Nat} {A B : Nat → Rat} {S : Sto} (hj : 1 ≤ j) (hk : 1 ≤ k) (hjk : j + k ≤ 8800) (h1 : RQ S l1 j p A) (h2 : RQ S l2 k q B) (hp : p ≤ 100) (hq : q ≤ 100) :
    wp ((P n).call 33 [.ref l1, .ref l2] S) fun r S' => Ext S S' ∧ ∃ l, r = .ref l ∧ S.length ≤ l ∧ RQ S' l (j + k + 1) (max p q) fun i => A i + B i := by
  obtain ⟨fs, a1, a2, hf, _, a4⟩ := h1.ex
  obtain ⟨gs, b1, b2, hg, _, b4⟩ := h2.ex
  obtain ⟨m, rfl, hm⟩ := up hn
  rw [cP m 33 b33 rfl]
  refine wp_run rfl ?_
  show wp (evSs (P m) b33.body [some (.ref l1), some (.ref l2), none, none, none, none] S) _
  have fmax : fnE .max [.int (fs.length : Int), .int (gs.length : Int)] S = .ok (.int ((max fs.length gs.length : Nat) : Int)) S := by
    show Res.ok (D.int (if (fs.length : Int) < gs.length then (gs.length : Int) else fs.length)) S = _
    congr 2
    split <;> omega
  simp only [b33, wp_sC, wp_asg, wp_fn, wp_cons, wp_nil, wp_var, List.getElem?_cons_zero, List.getElem?_cons_succ, Option.some.injEq, exists_eq_left', fn_lenR (seq_c a1), fn_lenR (seq_c b1), wp_ok, fmax, wp_gn, List.set_cons_zero, List.set_cons_succ, fl_nx]
  generalize hM : max fs.length gs.length = M
  rw [wp_tup, wp_cons]
  refine pad_wp (w := 0) rfl rfl a1 (by omega) (by omega) fun S1 a e1 ha => ?_
  rw [wp_cons]
  refine pad_wp (w := 1) rfl rfl (e1.get b1) (by omega) (by omega) fun S2 b e2 hb => ?_
  have ha := e2.get ha
  simp_arith [wp_gt, seqD, List.length_cons, List.length_nil, wp_gsC, wp_gsN, if_true]
  refine comp_fm (g := fun d => some (match d with | .int i => addD (gf fs i.toNat) (gf gs i.toNat) | _ => .non)) (xs := (List.range M).map fun (i : Nat) => D.int (0 + (i : Int))) (by have := fuelBig (m := m) (n := M) (by omega); rw [List.length_map, List.length_range]; omega) (by rw [List.length_map, List.length_range]; omega) (it_rng (by omega) ?_) (fun d hd S' e => bodyC_pure ?_) fun A' t e => ?_
  · simp_arith [wp_ok]
    exact ⟨trivial, .refl⟩
  · obtain ⟨i, hi, rfl⟩ := List.mem_map.mp hd
    have hi := List.mem_range.mp hi
    simp only [wipeL, List.foldl_cons, List.foldl_nil]
    have x1 : ixE S' (.ref a) (.int (0 + (i : Int))) = some (gf fs i) := by
      rw [Int.zero_add, ix_c (e.get ha), atI_n (by simp; omega), gf_of (by simp; omega), gf_pad]
    have x2 : ixE S' (.ref b) (.int (0 + (i : Int))) = some (gf gs i) := by
      rw [Int.zero_add, ix_c (e.get hb), atI_n (by simp; omega), gf_of (by simp; omega), gf_pad]
    simp_arith [x1, x2]
    refine wp_mono (t_addF (by omega) (gf_fb hj hf i) (gf_fb hk hg i) hjk) fun r S3 ⟨er, es⟩ => ?_
    subst er es
    refine ⟨?_, .refl⟩
    show addD (gf fs i) (gf gs i) = addD (gf fs (0 + (i : Int)).toNat) (gf gs (0 + (i : Int)).toNat)
    rw [Int.zero_add, Int.toNat_natCast]
  · rw [range_fm2 (f := fun i => addD (gf fs i) (gf gs i))]
    have n1 : (A' ++ Mini.Cl.lst ((List.range M).map fun i => addD (gf fs i) (gf gs i)) :: t)[A'.length]? = some (.lst ((List.range M).map fun i => addD (gf fs i) (gf gs i))) := by simp
    have e3 : Ext S (A' ++ Mini.Cl.lst ((List.range M).map fun i => addD (gf fs i) (gf gs i)) :: t) := ((e1.trans e2).trans e).trans ⟨_, rfl⟩
    generalize (A' ++ Mini.Cl.lst ((List.range M).map fun i => addD (gf fs i) (gf gs i)) :: t) = S3 at n1 e3 ⊢
    refine wp_mono (t_lcut (b := j + k + 1) (by omega) n1 (by omega) (fun x hx => ?_) (by simp; omega)) fun r S4 ⟨e4, l, er, lq, h⟩ => ?_
    · obtain ⟨i, _, rfl⟩ := List.mem_map.mp hx
      exact (v_add (gf_fb hj hf i) (gf_fb hk hg i)).q
    · subst er
      refine ⟨e3.trans e4, l, rfl, Nat.le_trans (ext_len e3) lq, (h.up (Nat.le_refl _) (by simp; omega)).congr fun i => ?_⟩
      by_cases hi : i < M
      · unfold cf
        rw [gf_map hi]
        refine (v_add (gf_fb hj hf i) (gf_fb hk hg i)).val.trans ?_
        rw [← a4, ← b4]; rfl
      · rw [cf_ge (by simp; omega), ← a4, ← b4, cf_ge (fs := fs) (by omega), cf_ge (fs := gs) (by omega), Rat.add_zero]
/-! ### products -/
def cv (A B : Nat → Rat) : Nat → Nat → Rat
  | 0, _ => 0
  | p + 1, q => cv A B p q + (if p ≤ q then A p * B (q - p) else 0)
theorem cv_len {A B : Nat → Rat} {n p q : Nat} (z : ∀ i, n ≤ i → A i = 0) (h : n ≤ p) : cv A B p q = cv A B n q := by
  induction p with
  | zero => rw [show n = 0 by omega]
  | succ p ih =>
    rcases Nat.lt_or_ge p n with g | g
    · rw [show n = p + 1 by omega]
    · show cv A B p q + (if p ≤ q then A p * B (q - p) else 0) = _
      rw [ih g, z p g]
      split <;> grind
theorem cv_far {A B : Nat → Rat} {n r q : Nat} (z : ∀ i, r ≤ i → B i = 0) (h : n + r ≤ q) : ∀ p, p ≤ n → cv A B p q = 0
  | 0, _ => rfl
  | p + 1, hp => by
    show cv A B p q + (if p ≤ q then A p * B (q - p) else 0) = 0
    rw [cv_far z h p (by omega), z (q - p) (by omega)]
    split <;> grind
theorem cf_set {fs : List D} {q i : Nat} {d : D} (h : q < fs.length) : cf (fs.set q d) i = if q = i then v d else cf fs i := by
  unfold cf gf
  by_cases e : q = i
  · subst e
    rw [if_pos rfl, List.getElem?_set_self h]; rfl
  · rw [if_neg e, List.getElem?_set_ne e]
/-- the product of two rows -/
theorem t_rmul {n : Nat} (hn : 5 ≤ n) {l1 l2 j k p q : Nat} {A B : Nat → Rat} {S : Sto} (hj : 1 ≤ j) (hk : 1 ≤ k) (hp : p ≤ 20) (hq : q ≤ 20) (hb : 1 + p * (j + k + 1) + (j + k) ≤ 8800) (h1 : RQ S l1 j p A) (h2 : RQ S l2 k q B) :
    wp ((P n).call 34 [.ref l1, .ref l2] S) fun r S' => Ext S S' ∧ ∃ l, r = .ref l ∧ S.length ≤ l ∧ RQ S' l (1 + p * (j + k + 1)) (p + q) (cv A B p) := by
  obtain ⟨fs, a1, a2, hf, _, a4⟩ := h1.ex
  obtain ⟨gs, b1, b2, hg, _, b4⟩ := h2.ex
  obtain ⟨m, rfl, hm⟩ := up hn
  rw [cP m 34 b34 rfl]
  refine wp_run rfl ?_
  show wp (evSs (P m) b34.body [some (.ref l1), some (.ref l2), none, none, none] S) _
  unfold b34
  rw [wp_sC]
  have l1S := h1.lt
  have l2S := h2.lt
  have a1' := (Ext.one (c := Mini.Cl.lst [fz])).get a1
  have b1' := (Ext.one (c := Mini.Cl.lst [fz])).get b1
  have cs : ((fs.length : Int) + (gs.length : Int)).toNat = fs.length + gs.length := by omega
  have rp := bin_repL (lst_c (at_new (A := S) (c := .lst [fz]))) (show (0 : Int) ≤ (fs.length : Int) + gs.length by omega) (show (fs.length : Int) + gs.length ≤ 1000 by omega) (show [fz].length ≤ 50 by decide)
  rw [cs, rep_flat] at rp
  simp_all_arith [show D.tup [.int 0, .int 1] = fz from rfl, fn_lenR (seq_c a1'), fn_lenR (seq_c b1'), bin_add, rp]
  have n2 := at_new (A := S ++ [Mini.Cl.lst [fz]]) (c := .lst (List.replicate (fs.length + gs.length) fz))
  have e2 : Ext S (S ++ [Mini.Cl.lst [fz]] ++ [Mini.Cl.lst (List.replicate (fs.length + gs.length) fz)]) := Ext.one.trans .one
  have lc : S.length ≤ (S ++ [Mini.Cl.lst [fz]]).length := by simp
  generalize (S ++ [Mini.Cl.lst [fz]] ++ [Mini.Cl.lst (List.replicate (fs.length + gs.length) fz)]) = S2 at n2 e2 ⊢
  generalize (S ++ [Mini.Cl.lst [fz]]).length = c at n2 lc ⊢
  have a2' := e2.get a1
  have b2' := e2.get b1
  have hin : ∀ k : Nat, k ≤ 100 → inR (k : Int) = true := fun k hk => by
    unfold inR
    rw [Bool.and_eq_true, decide_eq_true_eq, decide_eq_true_eq]
    omega
  have hsrc : ∀ k : Nat, k ≤ 100 → rng1E (.int (k : Int)) = some (srcL ((List.range k).map fun (i : Nat) => D.int (0 + (i : Int)))) := fun k hk => by
    show (if inR (k : Int) then some (rngL 0 ((k : Int)).toNat) else none) = _
    rw [if_pos (hin k hk), Int.toNat_natCast, rng_srcL]
  -- what stands in the product behind k rows and i of the next one
  let In : Nat → Nat → List D → Prop := fun kk i hs => hs.length = fs.length + gs.length ∧ ∀ q, q < hs.length → (Fb (1 + (kk + if kk ≤ q ∧ q - kk < i then 1 else 0) * (j + k + 1)) (gf hs q) ∧ cf hs q = cv A B kk q + if kk ≤ q ∧ q - kk < i then A kk * B (q - kk) else 0)
  have in0 : In 0 0 (List.replicate (fs.length + gs.length) fz) := by
    refine ⟨List.length_replicate .., fun q hq => ?_⟩
    have g0 : gf (List.replicate (fs.length + gs.length) fz) q = fz := by
      unfold gf
      rw [List.getElem?_replicate]
      split <;> rfl
    refine ⟨by rw [g0]; exact fz_fb.mono (by omega), ?_⟩
    show v (gf _ q) = _
    rw [g0, fz_v, if_neg (by omega)]
    show (0 : Rat) = 0 + 0
    grind
  rw [fl_nx, wp_sC]
  rw [wp_for, wp_i1]
  simp_all_arith [fn_lenR (seq_c a2')]
  refine ⟨_, hsrc _ (by omega), ?_⟩
  refine forN_wp ((List.range fs.length).map fun (i : Nat) => D.int (0 + (i : Int))) (fun kk S' ρ' => ∃ (d3 d4 : Option D) (hs : List D), ρ' = [some (.ref l1), some (.ref l2), some (.ref c), d3, d4] ∧ S'[c]? = some (.lst hs) ∧ Chg c S2 S' ∧ In kk 0 hs) (fun _ _ _ _ => rfl) ?_ ?_ _ 0 _ _ (Nat.zero_le _) (by rw [List.length_map, List.length_range]; have := fuelBig (m := m) (n := fs.length) (by omega); omega) ⟨none, none, _, rfl, n2, .refl, in0⟩
  · rintro kk S' ρ' d ⟨d3, d4, hs, rfl, hc, g, hi⟩ hd
    have hk' : kk < fs.length := by
      have := (List.getElem?_eq_some_iff.mp hd).1
      simpa using this
    rw [List.getElem?_map, List.getElem?_range hk'] at hd
    cases hd
    rw [show ((fun (i : Nat) => D.int (0 + (i : Int))) kk) = D.int (kk : Int) from by show D.int (0 + (kk : Int)) = _; rw [Int.zero_add]]
    simp only [wp_bind, wp_gn, List.set_cons_zero, List.set_cons_succ]
    rw [wp_sC, wp_for, wp_i1]
    simp_all_arith [fn_lenR (seq_c (g.get l2 _ (by omega) b2'))]
    refine ⟨_, hsrc _ (by omega), ?_⟩
    refine forN_wp ((List.range gs.length).map fun (i : Nat) => D.int (0 + (i : Int))) (fun i S' ρ' => ∃ (d4 : Option D) (hs : List D), ρ' = [some (.ref l1), some (.ref l2), some (.ref c), some (.int (kk : Int)), d4] ∧ S'[c]? = some (.lst hs) ∧ Chg c S2 S' ∧ In kk i hs) (fun _ _ _ _ => rfl) ?_ ?_ _ 0 _ _ (Nat.zero_le _) (by rw [List.length_map, List.length_range]; have := fuelBig (m := m) (n := gs.length) (by omega); omega) ⟨_, _, rfl, hc, g, hi⟩
    · rintro i S' ρ' d ⟨d4, hs, rfl, hc, g, hi⟩ hd
      have hi' : i < gs.length := by
        have := (List.getElem?_eq_some_iff.mp hd).1
        simpa using this
      rw [List.getElem?_map, List.getElem?_range hi'] at hd
      cases hd
      rw [show ((fun (i : Nat) => D.int (0 + (i : Int))) i) = D.int (i : Int) from by show D.int (0 + (i : Int)) = _; rw [Int.zero_add]]
      obtain ⟨lh, hq⟩ := hi
      have ki : kk + i < hs.length := by omega
      obtain ⟨fq, vq⟩ := hq (kk + i) ki
      rw [if_neg (by omega)] at fq vq
      simp only [wp_bind, wp_gn, List.set_cons_zero, List.set_cons_succ]
      rw [wp_sC]
      have ci : ((kk : Int) + (i : Int)) = ((kk + i : Nat) : Int) := by omega
      have x1 : ixE S' (.ref c) (.int ((kk + i : Nat) : Int)) = some (gf hs (kk + i)) := by rw [ix_c hc, atI_n ki, gf_of ki]
      have x2 : ixE S' (.ref l1) (.int (kk : Int)) = some (gf fs kk) := by rw [ix_c (g.get l1 _ (by omega) a2'), atI_n hk', gf_of hk']
      have x3 : ixE S' (.ref l2) (.int (i : Int)) = some (gf gs i) := by rw [ix_c (g.get l2 _ (by omega) b2'), atI_n hi', gf_of hi']
      have pk : kk * (j + k + 1) + (j + k + 1) ≤ p * (j + k + 1) := by
        rw [← Nat.succ_mul]
        exact Nat.mul_le_mul_right _ (by omega)
      simp_all_arith [bin_add, ci, x1, x2, x3]
      refine wp_mono (t_byF (by omega) (gf_fb hj hf kk) (gf_fb hk hg i) (by omega)) fun r S3 ⟨er, es⟩ => ?_
      subst er es
      have fb := v_by (gf_fb hj hf kk) (gf_fb hk hg i)
      have fq' : Fb (1 + kk * (j + k + 1)) (gf hs (kk + i)) := by
        have := fq
        rwa [Nat.add_zero] at this
      refine wp_mono (t_addF (by omega) fq' fb.q (by omega)) fun r S4 ⟨er, es⟩ => ?_
      subst er es
      have ad := v_add fq' fb.q
      have hix : L2.ixN hs.length ((kk + i : Nat) : Int) = some (kk + i) := by
        unfold L2.ixN
        rw [if_pos (by omega), if_pos (by omega), Int.toNat_natCast]
      simp_all_arith [wp_gi, bin_add, ci, sto_c hc hix]
      simp only [fl_nx, wp_sN, wp_ok]
      refine ⟨_, _, rfl, at_set hc, g.trans (Chg.set hc), by rw [List.length_set]; exact lh, fun q hq' => ?_⟩
      rw [List.length_set] at hq'
      by_cases e : kk + i = q
      · subst e
        have e1 : gf (hs.set (kk + i) (addD (gf hs (kk + i)) (byD (gf fs kk) (gf gs i)))) (kk + i) = addD (gf hs (kk + i)) (byD (gf fs kk) (gf gs i)) := gf_get (List.getElem?_set_self ki)
        rw [if_pos (by omega), if_pos (by omega), cf_set ki, if_pos rfl, e1]
        refine ⟨ad.q.mono (by rw [Nat.add_mul, Nat.one_mul]; omega), ad.val.trans ?_⟩
        have vb : v (frD (num (gf fs kk) * num (gf gs i)) (den (gf fs kk) * den (gf gs i))) = cf fs kk * cf gs i := fb.val
        have vq' : v (gf hs (kk + i)) = cf hs (kk + i) := rfl
        rw [vb, vq', vq, a4, b4, show kk + i - kk = i by omega]
        grind
      · obtain ⟨f1, f2⟩ := hq q hq'
        have e1 : gf (hs.set (kk + i) (addD (gf hs (kk + i)) (byD (gf fs kk) (gf gs i)))) q = gf hs q := by
          unfold gf
          rw [List.getElem?_set_ne e]
        have c1 : (kk ≤ q ∧ q - kk < i + 1) = (kk ≤ q ∧ q - kk < i) := propext ⟨fun ⟨a, b⟩ => ⟨a, by omega⟩, fun ⟨a, b⟩ => ⟨a, by omega⟩⟩
        simp only [c1, cf_set ki, if_neg e, e1]
        exact ⟨f1, f2⟩
    · rintro S' ρ' ⟨d4, hs, rfl, hc, g, lh, hq⟩
      simp only [List.length_map, List.length_range] at hq
      simp only [fl_nx, wp_sN, wp_ok]
      refine ⟨_, _, _, rfl, hc, g, lh, fun q hq' => ?_⟩
      obtain ⟨f1, f2⟩ := hq q hq'
      have nz : ¬ (kk + 1 ≤ q ∧ q - (kk + 1) < 0) := by omega
      rw [if_neg nz]
      refine ⟨f1.mono ?_, f2.trans ?_⟩
      · have : kk + (if kk ≤ q ∧ q - kk < gs.length then 1 else 0) ≤ kk + 1 + 0 := by split <;> omega
        have := Nat.mul_le_mul_right (j + k + 1) this
        omega
      · rw [if_neg nz]
        show _ = (cv A B kk q + (if kk ≤ q then A kk * B (q - kk) else 0)) + 0
        by_cases h : kk ≤ q
        · by_cases h2 : q - kk < gs.length
          · rw [if_pos ⟨h, h2⟩, if_pos h]; grind
          · rw [if_neg (fun x => h2 x.2), if_pos h, ← b4 (q - kk), cf_ge (by omega)]; grind
        · rw [if_neg (fun x => h x.1), if_neg h]; grind
  · rintro S' ρ' ⟨d3, d4, hs, rfl, hc, g, lh, hq⟩
    simp only [List.length_map, List.length_range] at hq
    rw [fl_nx, wp_sC]
    simp_all_arith [wp_ok]
    have eS : Ext S S' := chg_ext (e2.chg.trans g) lc
    refine wp_mono (t_lcut (b := 1 + p * (j + k + 1)) (by omega) hc (by omega) (fun x hx => ?_) (by omega)) fun r S4 ⟨e4, l, er, lq, h⟩ => ?_
    · obtain ⟨i, hi⟩ := List.getElem?_of_mem hx
      have il := (List.getElem?_eq_some_iff.mp hi).1
      obtain ⟨f1, _⟩ := hq i il
      rw [if_neg (by omega), Nat.add_zero, gf_get hi] at f1
      exact f1.mono (by have := Nat.mul_le_mul_right (j + k + 1) a2; omega)
    · subst er
      refine ⟨eS.trans e4, l, rfl, Nat.le_trans (ext_len eS) lq, (h.up (Nat.le_refl _) (by omega)).congr fun i => ?_⟩
      have z1 : ∀ i, fs.length ≤ i → A i = 0 := fun i hi => by rw [← a4]; exact cf_ge hi
      have z2 : ∀ i, gs.length ≤ i → B i = 0 := fun i hi => by rw [← b4]; exact cf_ge hi
      rw [cv_len z1 a2]
      rcases Nat.lt_or_ge i hs.length with hi | hi
      · obtain ⟨_, f2⟩ := hq i hi
        rw [f2, if_neg (by omega)]; grind
      · rw [cf_ge hi, cv_far (n := fs.length) (r := gs.length) z2 (by omega) _ (Nat.le_refl _)]
end K74
namespace K74
open PySem Mini
theorem Scr.seq {S : Sto} {ns : List Int} (h : Scr S ns) : seqAt S 0 = some (ns.map D.int) := by
  unfold seqAt
  rw [h]
theorem Scr.ext {S S' : Sto} {ns : List Int} (h : Scr S ns) (e : Ext S S') : Scr S' ns := e.get h
theorem atI_s' {xs : List D} {i : Nat} (h : i < xs.length) : L2.atI xs (0 + (i : Int)) = xs[i]? := by
  rw [Int.zero_add]; exact atI_n h
theorem t_spring {n : Nat} (hn : 1 ≤ n) {S : Sto} {ns : List Int} {j : Nat} (hs : Scr S ns) (hj : j < 4) (hl : ns.length ≤ 63) : wp ((P n).call 25 [.ref 0, .int (0 + (j : Int))] S) fun r S' => ∃ c, r = .ref c ∧ Well S' c 0 ∧ S.length ≤ c ∧ Ext S S' := by
  obtain ⟨m, rfl, hm⟩ := up hn
  rw [cP m 25 b25 rfl]
  refine wp_run rfl ?_
  have s0 := hs.seq
  show wp (evSs (P m) b25.body [some (.ref 0), some (.int (0 + (j : Int))), none, none, none] S) _
  unfold b25
  simp only []
  rw [wp_sC, wp_asg]
  -- the own number
  have own : wp (evE (P m) (.ite (.cmp .lt (.var 1) (.fn .len [(.var 0)])) (.fn .int [(.ix (.var 0) (.var 1))]) (.bin .add (.bin .add (.bin .mul (.con (.int 7349)) (.var 1)) (.bin .mul (.con (.int 61)) (.fn .len [(.var 0)]))) (.con (.int 17)))) [some (.ref 0), some (.int (0 + (j : Int))), none, none, none] S) fun d S' => (∃ i, d = .int i) ∧ Ext S S' := by
    simp_arith [fn_lenR s0, List.length_map]
    by_cases h0 : (0 : Int) + (j : Int) < (ns.length : Int)
    · simp only [h0, decide_true, if_true]
      have g0 : (ns.map D.int)[j]? = some (.int (ns[j]'(by omega))) := by rw [List.getElem?_map, List.getElem?_eq_getElem (by omega)]; rfl
      have : ixE S (.ref 0) (.int (0 + (j : Int))) = some (.int (ns[j]'(by omega))) := by
        show (seqAt S 0).bind (fun xs => L2.atI xs (0 + (j : Int))) = _
        rw [s0]
        exact (atI_s' (by simp; omega)).trans g0
      simp_arith [this, fn_int]
      exact ⟨⟨_, rfl⟩, .refl⟩
    · simp_arith [h0, decide_false, Bool.false_eq_true, if_false, bin_mul (show (7349 : Int).natAbs < 2 ^ 64 by decide) (show (0 + (j : Int)).natAbs < 2 ^ 64 by omega), bin_mul (show (61 : Int).natAbs < 2 ^ 64 by decide) (show (ns.length : Int).natAbs < 2 ^ 64 by omega), bin_add, fn_lenR s0, List.length_map]
      exact ⟨⟨_, rfl⟩, .refl⟩
  refine wp_mono own fun d S1 ⟨⟨o, eo⟩, e1⟩ => ?_
  subst eo
  have s1 := (hs.ext e1).seq
  simp_arith [bin_mul (show (1301 : Int).natAbs < 2 ^ 64 by decide) (show (0 + (j : Int)).natAbs < 2 ^ 64 by omega), bin_add, wp_for, wp_iv, fn_lstR s1]
  have k1 : (S1 ++ [Mini.Cl.lst (ns.map D.int)] ++ [Mini.Cl.lst [.int o]])[S1.length]? = some (.lst (ns.map D.int)) := (Ext.one).get at_new
  rw [bin_catL (lst_c k1) (lst_c at_new) (by simp; omega), wp_ok]
  refine ⟨_, src_ref at_new, ?_⟩
  have eall : ns.map D.int ++ [D.int o] = (ns ++ [o]).map D.int := by simp
  rw [eall]
  have e12 : Ext S1 (S1 ++ [Mini.Cl.lst (ns.map D.int)] ++ [Mini.Cl.lst [.int o]]) := Ext.one.trans .one
  generalize S1 ++ [Mini.Cl.lst (ns.map D.int)] ++ [Mini.Cl.lst [.int o]] = S2 at e12 ⊢
  refine forN_wp ((ns ++ [o]).map D.int) (fun i S' ρ' => S' = S2 ++ [Mini.Cl.lst ((ns ++ [o]).map D.int)] ∧ ∃ (b : Int) (x : Option D), ρ' = [some (D.ref 0), some (.int (0 + (j : Int))), some (.int o), some (.int b), x] ∧ 0 ≤ b ∧ b < 2147483587) (fun i S' ρ' ⟨e, _⟩ => by subst e; exact srcR_of at_new) ?_ ?_ _ 0 _ _ (Nat.zero_le _) ?_ ⟨rfl, _, _, rfl, by omega, by omega⟩
  · rintro i S' ρ' x ⟨rfl, b, y, rfl, b0, b1⟩ hx
    obtain ⟨v, _, rfl⟩ : ∃ v, v ∈ ns ++ [o] ∧ D.int v = x := List.mem_map.mp (List.mem_of_getElem? hx)
    simp_arith [wp_bind, bin_mul (show b.natAbs < 2 ^ 64 by omega) (show (39373 : Int).natAbs < 2 ^ 64 by decide), fn_int, bin_mod (show (0 : Int) < 2147483587 by decide), bin_add]
    exact ⟨trivial, _, _, rfl, Int.emod_nonneg _ (by decide), Int.emod_lt_of_pos _ (by decide)⟩
  · rintro S' ρ' ⟨rfl, b, y, rfl, b0, b1⟩
    have p18 : ∀ {S : Sto}, binE .pow (.int 10) (.int 18) S = .ok (.int (10 ^ 18)) S := fun {S} => bin_pow (by decide)
    rw [fl_nx, wp_sC, wp_ret, wp_lst, wp_cons]
    have first : wp (evE (P m) (.ite (.or (.cmp .lt (.var 2) (.con (.int 0))) (.cmp .ge (.var 2) (.bin .pow (.con (.int 10)) (.con (.int 18))))) (.fn .abs [(.var 2)]) (.con (.int 0))) [some (D.ref 0), some (.int (0 + (j : Int))), some (.int o), some (.int b), y] (S2 ++ [Mini.Cl.lst ((ns ++ [o]).map D.int)])) fun d S'' => (∃ a : Int, d = .int a ∧ 0 ≤ a) ∧ S'' = S2 ++ [Mini.Cl.lst ((ns ++ [o]).map D.int)] := by
      have ab : ∀ i : Int, 0 ≤ (if i < 0 then -i else i) := fun i => by split <;> omega
      simp_arith [p18, fn_abs]
      by_cases h1 : o < 0
      · simp_arith [h1, decide_true, if_true, fn_abs]
        exact ⟨⟨_, rfl, by omega⟩, trivial⟩
      · simp_arith [h1, decide_false, Bool.false_eq_true, if_false, p18]
        by_cases h2 : (10 : Int) ^ 18 ≤ o
        · simp_arith [h2, decide_true, if_true, fn_abs]
          exact ⟨⟨_, rfl, by omega⟩, trivial⟩
        · simp_arith [h2, decide_false, Bool.false_eq_true, if_false]
          exact ⟨⟨0, rfl, Int.le_refl 0⟩, trivial⟩
    refine wp_mono first fun d S'' ⟨⟨a, ea, a0⟩, es⟩ => ?_
    subst ea es
    simp_arith [wp_ok]
    have ee := (e1.trans e12).trans (.one (c := .lst ((ns ++ [o]).map D.int)))
    refine ⟨_, rfl, ⟨a, b, 0, at_new, a0, b0, by omega, by omega, by omega⟩, ?_, ee.trans .one⟩
    obtain ⟨u, hu⟩ := ee
    rw [hu]; simp
  · have := fuelBig (m := m) (n := ((ns ++ [o]).map D.int).length) (by simp; omega)
    omega
theorem at0 {a b k : D} : L2.atI [a, b, k] 0 = some a := (atI_n (k := 0) (xs := [a, b, k]) (by simp)).trans rfl
theorem at1 {a b k : D} : L2.atI [a, b, k] 1 = some b := (atI_n (k := 1) (xs := [a, b, k]) (by simp)).trans rfl
theorem at2 {a b k : D} : L2.atI [a, b, k] 2 = some k := (atI_n (k := 2) (xs := [a, b, k]) (by simp)).trans rfl
theorem ixN0 {a b k : D} : L2.ixN [a, b, k].length 0 = some 0 := rfl
theorem ixN1 {a b k : D} : L2.ixN [a, b, k].length 1 = some 1 := rfl
theorem ixN2 {a b k : D} : L2.ixN [a, b, k].length 2 = some 2 := rfl
theorem t_pull {n : Nat} (hn : 1 ≤ n) {S : Sto} {c : Nat} {t many : Int} (w : Well S c t) (ht : t ≤ 1000000000) (h1 : 1 ≤ many) (h2 : many < 2199023255552) :
    wp ((P n).call 26 [.ref c, .int many] S) fun r S' => ∃ i : Int, r = .int i ∧ 0 ≤ i ∧ i < many ∧ Well S' c (t + 1) ∧ Chg c S S' := by
  obtain ⟨m, rfl, hm⟩ := up hn
  obtain ⟨a, b, k, hS, ha, hb, hb2, hk, hkt⟩ := w
  have w : Well S c t := ⟨a, b, k, hS, ha, hb, hb2, hk, hkt⟩
  rw [cP m 26 b26 rfl]
  refine wp_run rfl ?_
  show wp (evSs (P m) b26.body [some (.ref c), some (.int many), none] S) _
  have mn : many.natAbs < 2 ^ 64 := by omega
  have mp : (0 : Int) < many := by omega
  unfold b26
  rw [wp_sC]
  simp_all_arith [ix_c hS, at0]
  by_cases ha0 : 0 < a
  · simp only [ha0, decide_true, if_true]
    rw [wp_sC]
    simp_all_arith [ix_c hS, at0, fn_int, bin_mod mp]
    rw [fl_nx, wp_sC]
    simp_all_arith [ix_c hS, at0, bin_div mp mn, wp_gi, sto_c hS ixN0]
    rw [fl_nx, wp_sC]
    simp_all_arith [wp_ok]
    exact ⟨_, rfl, Int.emod_nonneg _ (by omega), Int.emod_lt_of_pos _ (by omega), w.set (Int.ediv_nonneg ha (by omega)) hb hb2 hk (by omega), .set hS⟩
  · simp only [ha0, decide_false, Bool.false_eq_true, if_false, wp_sN]
    have e1 : (S.set c (.lst [.int a, .int b, .int (k + 1)]))[c]? = some (.lst [.int a, .int b, .int (k + 1)]) := at_set hS
    rw [fl_nx, wp_sC]
    simp_all_arith [ix_c hS, at2, bin_add, wp_gi, sto_c hS ixN2]
    rw [fl_nx, wp_sC]
    simp_all_arith [ix_c e1, at1, at2, fn_int, bin_mul (show b.natAbs < 2 ^ 64 by omega) (show (41358 : Int).natAbs < 2 ^ 64 by decide), bin_mul (show (60013 : Int).natAbs < 2 ^ 64 by decide) (show (k + 1).natAbs < 2 ^ 64 by omega), bin_add, bin_mod (show (0 : Int) < 2147483579 by decide), wp_gi, sto_c e1 ixN1]
    generalize hB : (b * 41358 + 60013 * (k + 1) + 7) % 2147483579 = B
    have B0 : 0 ≤ B := by rw [← hB]; exact Int.emod_nonneg _ (by decide)
    have B1 : B < 2147483579 := by rw [← hB]; exact Int.emod_lt_of_pos _ (by decide)
    have e2 : ((S.set c (.lst [.int a, .int b, .int (k + 1)])).set c (.lst [.int a, .int B, .int (k + 1)]))[c]? = some (.lst [.int a, .int B, .int (k + 1)]) := at_set e1
    rw [fl_nx, wp_sC]
    simp_all_arith [ix_c e2, at1, bin_div (show (0 : Int) < 113 by decide) (by decide), fn_int, bin_mod mp]
    refine ⟨_, rfl, Int.emod_nonneg _ (by omega), Int.emod_lt_of_pos _ (by omega), ?_, (Chg.set hS).trans (.set e1)⟩
    rw [List.set_set]
    exact w.set ha B0 (by omega) (by omega) (by omega)
/-- one of some -/
theorem t_from {n : Nat} (hn : 2 ≤ n) {S : Sto} {c l : Nat} {t : Int} {xs : List D} (w : Well S c t) (ht : t ≤ 1000000000) (hl : S[l]? = some (.lst xs)) (hne : l ≠ c) (h1 : 1 ≤ xs.length) (h2 : xs.length ≤ 1000) :
    wp ((P n).call 27 [.ref c, .ref l] S) fun r S' => r ∈ xs ∧ Well S' c (t + 1) ∧ Chg c S S' := by
  obtain ⟨m, rfl, hm⟩ := up hn
  rw [cP m 27 b27 rfl]
  refine wp_run rfl ?_
  show wp (evSs (P m) b27.body [some (.ref c), some (.ref l)] S) _
  simp only [b27, wp_sC, wp_ret, wp_ix, wp_call, wp_fn, wp_cons, wp_nil, wp_var, List.getElem?_cons_zero, List.getElem?_cons_succ, Option.some.injEq, exists_eq_left', fn_lenR (seq_c hl), wp_ok]
  refine wp_mono (t_pull hm w ht (show (1 : Int) ≤ (xs.length : Int) by omega) (by omega)) fun r S1 ⟨i, er, i0, i1, w1, g1⟩ => ?_
  subst er
  obtain ⟨j, rfl⟩ : ∃ j : Nat, i = j := ⟨i.toNat, by omega⟩
  have hj : j < xs.length := by omega
  simp only [ix_c (g1.get l _ hne hl), atI_n hj, List.getElem?_eq_getElem hj, Option.some.injEq, exists_eq_left', fl_rt, ed_rt]
  exact ⟨List.getElem_mem hj, w1, g1⟩
/-! ### the drawn things -/
def Wt (d : D) : Prop := Fb 4 d ∧ 0 < num d
def St4 (d : D) : Prop := Fb 4 d ∧ 0 ≤ num d
theorem fr_fb {a b : Int} (a1 : a.natAbs < 16) (b1 : 1 ≤ b) (b2 : b < 16) (g : Nat.gcd a.natAbs b.natAbs = 1) : Fb 4 (.tup [.int a, .int b]) := ⟨rfl, a1, b1, show b.natAbs < 2 ^ 4 by omega, g⟩
theorem frD_wt {a b : Int} (a1 : 1 ≤ a) (a2 : a < 16) (b1 : 1 ≤ b) (b2 : b < 16) : Wt (frD a b) := by
  have o := frD_ok (k := 4) b1 (show Bd 4 a by unfold Bd; omega) (show Bd 4 b by unfold Bd; omega)
  refine ⟨o.q, ?_⟩
  have g0 : 0 < Nat.gcd a.natAbs b.natAbs := Nat.gcd_pos_of_pos_left _ (by omega)
  show 0 < a / ((Nat.gcd a.natAbs b.natAbs : Nat) : Int)
  have := Int.ofNat_dvd_left.mpr (Nat.gcd_dvd_left a.natAbs b.natAbs)
  exact Int.ediv_pos_of_pos_of_dvd (by omega) (by omega) this
theorem t_weight {n : Nat} (hn : 4 ≤ n) {S : Sto} {c : Nat} {t : Int} (w : Well S c t) (ht : t ≤ 900000000) : wp ((P n).call 36 [.ref c] S) fun r S' => Wt r ∧ Well S' c (t + 4) ∧ Chg c S S' := by
  obtain ⟨m, rfl, hm⟩ := up hn
  rw [cP m 36 b36 rfl]
  refine wp_run rfl ?_
  show wp (evSs (P m) b36.body [some (.ref c)] S) _
  simp_arith [b36]
  refine wp_mono (t_pull (by omega) w (by omega) (by decide) (by decide)) fun r S1 ⟨x, er, x0, x1, w1, g1⟩ => ?_
  subst er
  simp_arith [bin_add]
  refine wp_mono (t_pull (by omega) w1 (by omega) (by decide) (by decide)) fun r S2 ⟨y, er, y0, y1, w2, g2⟩ => ?_
  subst er
  simp_arith [bin_add]
  refine wp_mono (t_cutB (by omega) (by omega) (show Bd 4 (1 + y) by unfold Bd; omega) (by decide)) fun r S3 ⟨er, es⟩ => ?_
  subst er es
  try simp_arith [wp_ok]
  have cl := w2.lt
  refine wp_mono (t_from (by omega) (w2.ext .one) (by omega) at_new (by omega) (by simp) (by simp)) fun r S4 ⟨hr, w4, g4⟩ => ?_
  refine ⟨?_, w4.mono (by omega), ((g1.trans g2).trans Ext.one.chg).trans g4⟩
  simp only [List.mem_cons, List.not_mem_nil, or_false] at hr
  rcases hr with rfl | rfl | rfl | rfl | rfl | rfl
  · exact ⟨fr_fb (by decide) (by decide) (by decide) (by decide), by decide⟩
  · exact ⟨fr_fb (by decide) (by decide) (by decide) (by decide), by decide⟩
  · exact ⟨fr_fb (by decide) (by decide) (by decide) (by decide), by decide⟩
  · exact ⟨fr_fb (by decide) (by decide) (by decide) (by decide), by decide⟩
  · exact ⟨fr_fb (by decide) (by decide) (by decide) (by decide), by decide⟩
  · exact frD_wt (by omega) (by omega) (by omega) (by omega)
theorem t_stay {n : Nat} (hn : 5 ≤ n) {S : Sto} {c : Nat} {t : Int} (w : Well S c t) (ht : t ≤ 900000000) : wp ((P n).call 37 [.ref c] S) fun r S' => St4 r ∧ Well S' c (t + 6) ∧ Chg c S S' := by
  obtain ⟨m, rfl, hm⟩ := up hn
  rw [cP m 37 b37 rfl]
  refine wp_run rfl ?_
  show wp (evSs (P m) b37.body [some (.ref c)] S) _
  simp_arith [b37]
  refine wp_mono (t_weight (by omega) w (by omega)) fun r S2 ⟨hw, w2, g2⟩ => ?_
  try simp_arith [wp_ok]
  have cl := w2.lt
  refine wp_mono (t_from (by omega) (w2.ext .one) (by omega) at_new (by omega) (by simp) (by simp)) fun r S4 ⟨hr, w4, g4⟩ => ?_
  refine ⟨?_, w4.mono (by omega), (g2.trans Ext.one.chg).trans g4⟩
  simp only [List.mem_cons, List.not_mem_nil, or_false] at hr
  rcases hr with rfl | rfl | rfl | rfl
  · exact ⟨fr_fb (by decide) (by decide) (by decide) (by decide), by decide⟩
  · exact ⟨fr_fb (by decide) (by decide) (by decide) (by decide), by decide⟩
  · exact ⟨fr_fb (by decide) (by decide) (by decide) (by decide), by decide⟩
  · exact ⟨hw.1, Int.le_of_lt hw.2⟩
end K74
namespace K74
open PySem Mini
/-! ### machines -/
structure Ds where
  i : Rat
  w : Rat
  p : Nat
  s : Rat
  g : Rat
def rtD (d : Ds) : D := .tup [frq d.i, frq d.w]
def brD (d : Ds) : D := .tup [frq d.i, frq d.w, .int (d.p : Int), frq d.s, frq d.g]
def maD (r : Ds) (bs : List Ds) : D := .tup (rtD r :: bs.map brD)
structure DsOk (a e k : Nat) (b : Ds) : Prop where
  i : Rb a b.i ∧ 0 < b.i
  w : Rb a b.w ∧ 0 ≤ b.w
  p : b.p ≤ k
  s : Rb a b.s ∧ 0 < b.s
  g : Rb e b.g ∧ b.g ≠ 0
structure Mac (a e : Nat) (r : Ds) (bs : List Ds) : Prop where
  len : bs.length ≤ 4
  ri : Rb a r.i ∧ 0 < r.i
  rw : Rb a r.w ∧ 0 ≤ r.w
  br : ∀ (k : Nat) (b : Ds), bs[k]? = some b → DsOk a e k b
theorem wt_frq {d : D} (h : Wt d) : d = frq (v d) ∧ Rb 4 (v d) ∧ 0 < v d := by
  have e := fb_frq h.1
  refine ⟨e, .of h.1, num_pos.mp ?_⟩
  rw [← e]; exact h.2
theorem st_frq {d : D} (h : St4 d) : d = frq (v d) ∧ Rb 4 (v d) ∧ 0 ≤ v d := by
  have e := fb_frq h.1
  refine ⟨e, .of h.1, num_nn.mp ?_⟩
  rw [← e]; exact h.2
theorem eq_twig {S : Sto} {a b c d a' b' c' d' : Int} : ∃ x, eqE S (.tup [.tup [.int a, .int b], .tup [.int c, .int d]]) (.tup [.tup [.int a', .int b'], .tup [.int c', .int d']]) = some x := ⟨_, rfl⟩
/-- how often a gear turns -/
theorem t_ratio {n : Nat} (hn : 4 ≤ n) {S : Sto} {c : Nat} {t : Int} (w : Well S c t) (ht : t ≤ 900000000) : wp ((P n).call 38 [.ref c] S) fun r S' => (∃ g, r = frq g ∧ Rb 2 g ∧ g ≠ 0) ∧ Well S' c (t + 4) ∧ Chg c S S' := by
  obtain ⟨m, rfl, hm⟩ := up hn
  rw [cP m 38 b38 rfl]
  refine wp_run rfl ?_
  show wp (evSs (P m) b38.body [some (.ref c)] S) _
  simp_arith [b38, bin_sub]
  have cl := w.lt
  refine wp_mono (t_from (by omega) (w.ext .one) (by omega) at_new (by omega) (by simp) (by simp)) fun r S4 ⟨hr, w4, g4⟩ => ?_
  refine ⟨?_, w4.mono (by omega), Ext.one.chg.trans g4⟩
  have key : ∀ (a b : Int), a ≠ 0 → a.natAbs < 4 → 1 ≤ b → b < 4 → Nat.gcd a.natAbs b.natAbs = 1 → ∃ g, (.tup [.int a, .int b] : D) = frq g ∧ Rb 2 g ∧ g ≠ 0 := fun a b a0 a4 b1 b4 gc => by
    have f : Fb 2 (.tup [.int a, .int b]) := ⟨rfl, a4, b1, show b.natAbs < 2 ^ 2 by omega, gc⟩
    have e := fb_frq f
    refine ⟨_, e, .of f, fun z => a0 ?_⟩
    have z2 := num_z.mpr z
    rw [← e] at z2
    exact z2
  simp only [List.mem_cons, List.not_mem_nil, or_false] at hr
  rcases hr with rfl | rfl | rfl | rfl | rfl | rfl | rfl <;> exact key _ _ (by decide) (by decide) (by decide) (by decide) (by decide)
theorem t_machine {n : Nat} (hn : 7 ≤ n) {S : Sto} {c : Nat} {t : Int} (w : Well S c t) (ht : t ≤ 700000000) : wp ((P n).call 39 [.ref c, .int 5] S) fun d S' => (∃ r bs, d = maD r bs ∧ Mac 4 2 r bs) ∧ Well S' c (t + 300) ∧ Chg c S S' := by
  obtain ⟨m, rfl, hm⟩ := up hn
  rw [cP m 39 b39 rfl]
  refine wp_run rfl ?_
  show wp (evSs (P m) b39.body [some (.ref c), some (.int 5), none, none, none, none, none, none, none, none] S) _
  unfold b39
  rw [wp_sC]
  simp_all_arith [wp_ok]
  refine wp_mono (t_pull (by omega) w (by omega) (by decide) (by decide)) fun r S1 ⟨x, er, x0, x1, w1, g1⟩ => ?_
  subst er
  try simp_all_arith [wp_ok]
  obtain ⟨N, hN⟩ : ∃ N : Nat, x = (N : Int) := ⟨x.toNat, by omega⟩
  subst hN
  simp_all_arith [bin_add]
  refine wp_mono (t_weight (by omega) w1 (by omega)) fun ri S2 ⟨hri, w2, g2⟩ => ?_
  try simp_all_arith [wp_ok]
  refine wp_mono (t_stay (by omega) w2 (by omega)) fun rw S3 ⟨hrw, w3, g3⟩ => ?_
  obtain ⟨eri, ri1, ri2⟩ := wt_frq hri
  obtain ⟨erw, rw1, rw2⟩ := st_frq hrw
  rw [eri, erw]
  generalize v ri = vi at ri1 ri2
  generalize v rw = vw at rw1 rw2
  try simp_all_arith [wp_ok]
  have no := at_new (A := S3) (c := .lst [.tup [frq vi, frq vw]])
  have w4 := w3.ext (.one (c := Mini.Cl.lst [.tup [frq vi, frq vw]]))
  have g4 : Chg c S (S3 ++ [Mini.Cl.lst [.tup [frq vi, frq vw]]]) := ((g1.trans g2).trans g3).trans Ext.one.chg
  have oc : c < S3.length := w3.lt
  have oS : S.length ≤ S3.length := ((g1.trans g2).trans g3).len
  generalize (S3 ++ [Mini.Cl.lst [.tup [frq vi, frq vw]]]) = S4 at no w4 g4 ⊢
  generalize S3.length = out at no oc oS ⊢
  rw [fl_nx, wp_sC]
  simp_all_arith [wp_ok]
  refine wp_mono (t_weight (by omega) w4 (by omega)) fun ti S5 ⟨hti, w5, g5⟩ => ?_
  try simp_all_arith [wp_ok]
  refine wp_mono (t_stay (by omega) w5 (by omega)) fun tw S6 ⟨htw, w6, g6⟩ => ?_
  obtain ⟨eti, ti1, ti2⟩ := wt_frq hti
  obtain ⟨etw, tw1, tw2⟩ := st_frq htw
  rw [eti, etw]
  generalize v ti = ui at ti1 ti2
  generalize v tw = uw at tw1 tw2
  try simp_all_arith [wp_ok]
  have no6 := (g5.trans g6).get out _ (by omega) no
  have g46 := (g4.trans g5).trans g6
  rw [fl_nx, wp_sC]
  have hin : inR (1 : Int) = true ∧ inR (1 + (N : Int)) = true := by
    unfold inR
    constructor <;> (rw [Bool.and_eq_true, decide_eq_true_eq, decide_eq_true_eq]; omega)
  rw [wp_for, wp_i2]
  simp_all_arith [wp_ok]
  have hsrc : rng2E (.int 1) (.int (1 + (N : Int))) = some (srcL ((List.range N).map fun (i : Nat) => D.int (1 + (i : Int)))) := by
    show (if inR 1 && inR (1 + (N : Int)) then some (rngL 1 (1 + (N : Int) - 1).toNat) else none) = _
    rw [hin.1, hin.2, show (1 + (N : Int) - 1).toNat = N by omega]
    show some (rngL 1 N) = _
    rw [rng_srcL]
  refine ⟨_, hsrc, ?_⟩
  refine forN_wp ((List.range N).map fun (i : Nat) => D.int (1 + (i : Int))) (fun k S' ρ' => ∃ (d3 d6 d7 d8 d9 : Option D) (bs : List Ds), ρ' = [some (.ref c), some (.int 5), some (.tup [frq ui, frq uw]), d3, some (.int (1 + (N : Int))), some (.ref out), d6, d7, d8, d9] ∧ S'[out]? = some (.lst (.tup [frq vi, frq vw] :: bs.map brD)) ∧ bs.length = k ∧ (∀ (q : Nat) (b : Ds), bs[q]? = some b → DsOk 4 2 q b) ∧ Well S' c (t + 60 + 40 * k) ∧ Chg c S S')
    (fun k S' ρ' _ => rfl) ?_ ?_ _ 0 _ _ (Nat.zero_le _) (by rw [List.length_map, List.length_range]; have := fuelBig (m := m) (n := N) (by omega); omega) ⟨_, _, _, _, _, [], rfl, no6, rfl, fun q b hq => by simp at hq, w6.mono (by omega), g46⟩
  · rintro k S' ρ' d ⟨d3, d6, d7, d8, d9, bs, rfl, ho, lb, hb, w', g'⟩ hd
    have hk : k < N := by
      have := (List.getElem?_eq_some_iff.mp hd).1
      simpa using this
    rw [List.getElem?_map, List.getElem?_range hk] at hd
    cases hd
    simp only [wp_bind, wp_gn, List.set_cons_zero, List.set_cons_succ]
    rw [wp_sC]
    -- its own inertia and wall
    have own : ∀ {x2 x3 x4 x5 x6 x7 x8 : Option D}, wp (evE (P m) (.ite (.cmp .eq (.call 26 [(.var 0), (.con (.int 2))] none) (.con (.int 0))) (.var 2) (.tup [(.call 36 [(.var 0)] none), (.call 37 [(.var 0)] none)])) [some (.ref c), some (.int 5), some (.tup [frq ui, frq uw]), x3, x4, x5, x6, x7, x8, x2] S') fun d S'' => (∃ i w, d = .tup [frq i, frq w] ∧ (Rb 4 i ∧ 0 < i) ∧ (Rb 4 w ∧ 0 ≤ w)) ∧ Well S'' c (t + 60 + 40 * k + 12) ∧ Chg c S' S'' := by
      intro x2 x3 x4 x5 x6 x7 x8
      simp_arith [wp_ok]
      refine wp_mono (t_pull (by omega) w' (by omega) (by decide) (by decide)) fun r S1 ⟨x, er, x0, x1, w1, g1⟩ => ?_
      subst er
      by_cases z0 : x = 0
      · simp_arith [z0, decide_true, if_true]
        exact ⟨⟨ui, uw, rfl, ⟨ti1, ti2⟩, ⟨tw1, tw2⟩⟩, w1.mono (by omega), g1⟩
      · simp_arith [z0, decide_false, Bool.false_eq_true, if_false]
        refine wp_mono (t_weight (by omega) w1 (by omega)) fun ti S5 ⟨hti, w5, g5⟩ => ?_
        try simp_arith [wp_ok]
        refine wp_mono (t_stay (by omega) w5 (by omega)) fun tw S6 ⟨htw, w6, g6⟩ => ?_
        obtain ⟨eti, a1, a2⟩ := wt_frq hti
        obtain ⟨etw, b1, b2⟩ := st_frq htw
        exact ⟨⟨_, _, by rw [← eti, ← etw], ⟨a1, a2⟩, ⟨b1, b2⟩⟩, w6.mono (by omega), (g1.trans g5).trans g6⟩
    rw [wp_asg]
    refine wp_mono own fun r S7 ⟨⟨oi, ow, er, hoi, how⟩, w7, g7⟩ => ?_
    subst er
    simp only [wp_gn, List.set_cons_zero, List.set_cons_succ]
    clear own
    rw [fl_nx, wp_sC]
    -- on which disc
    have at_ : ∀ {x6 : Option D}, wp (evE (P m) (.ite (.cmp .gt (.call 26 [(.var 0), (.con (.int 3))] none) (.con (.int 0))) (.call 26 [(.var 0), (.var 3)] none) (.con (.int 0))) [some (.ref c), some (.int 5), some (.tup [frq ui, frq uw]), some (.int (1 + (k : Int))), some (.int (1 + (N : Int))), some (.ref out), some (.tup [frq oi, frq ow]), d7, d8, d9] S7) fun d S'' => (∃ p : Nat, d = .int (p : Int) ∧ p ≤ k) ∧ Well S'' c (t + 60 + 40 * k + 14) ∧ Chg c S7 S'' := by
      intro x6
      simp_arith [wp_ok]
      refine wp_mono (t_pull (by omega) w7 (by omega) (by decide) (by decide)) fun r S1 ⟨x, er, x0, x1, w1, g1⟩ => ?_
      subst er
      by_cases z0 : x > 0
      · simp_arith [z0, decide_true, if_true]
        refine wp_mono (t_pull (by omega) w1 (by omega) (show (1 : Int) ≤ 1 + (k : Int) by omega) (by omega)) fun r S2 ⟨y, er, y0, y1, w2, g2⟩ => ?_
        exact ⟨⟨y.toNat, by rw [er, Int.toNat_of_nonneg y0], by omega⟩, w2.mono (by omega), g1.trans g2⟩
      · simp_arith [z0, decide_false, Bool.false_eq_true, if_false]
        exact ⟨⟨0, rfl, by omega⟩, w1.mono (by omega), g1⟩
    rw [wp_asg]
    refine wp_mono (at_ (x6 := none)) fun r S8 ⟨⟨p, er, pk⟩, w8, g8⟩ => ?_
    subst er
    simp only [wp_gn, List.set_cons_zero, List.set_cons_succ]
    clear at_
    rw [fl_nx, wp_sC]
    -- the shaft and the gear
    have sg : wp (evE (P m) (.ite (.and (.cmp .eq (.var 6) (.var 2)) (.cmp .eq (.call 26 [(.var 0), (.con (.int 2))] none) (.con (.int 0)))) (.tup [(.tup [(.con (.int 1)), (.con (.int 1))]), (.tup [(.con (.int 1)), (.con (.int 1))])]) (.tup [(.call 36 [(.var 0)] none), (.call 38 [(.var 0)] none)])) [some (.ref c), some (.int 5), some (.tup [frq ui, frq uw]), some (.int (1 + (k : Int))), some (.int (1 + (N : Int))), some (.ref out), some (.tup [frq oi, frq ow]), some (.int (p : Int)), d8, d9] S8) fun d S'' => (∃ s g, d = .tup [frq s, frq g] ∧ (Rb 4 s ∧ 0 < s) ∧ (Rb 2 g ∧ g ≠ 0)) ∧ Well S'' c (t + 60 + 40 * k + 30) ∧ Chg c S8 S'' := by
      obtain ⟨b, eb⟩ := eq_twig (S := S8) (a := oi.num) (b := oi.den) (c := ow.num) (d := ow.den) (a' := ui.num) (b' := ui.den) (c' := uw.num) (d' := uw.den)
      have eb : eqE S8 (.tup [frq oi, frq ow]) (.tup [frq ui, frq uw]) = some b := eb
      have els : ∀ {S9 : Sto} {t' : Int}, Well S9 c t' → t' ≤ 800000000 → wp ((P m).call 36 [.ref c] S9) fun d S1 => wp ((P m).call 38 [.ref c] S1) fun d' S'' => (∃ s g, D.tup [d, d'] = D.tup [frq s, frq g] ∧ (Rb 4 s ∧ 0 < s) ∧ (Rb 2 g ∧ g ≠ 0)) ∧ Well S'' c (t' + 8) ∧ Chg c S9 S'' := fun {S9 t'} w9 ht' => by
        refine wp_mono (t_weight (by omega) w9 (by omega)) fun ti S5 ⟨hti, w5, g5⟩ => ?_
        refine wp_mono (t_ratio (by omega) w5 (by omega)) fun tw S6 ⟨⟨g, eg, g1, g2⟩, w6, g6⟩ => ?_
        obtain ⟨eti, a1, a2⟩ := wt_frq hti
        exact ⟨⟨_, _, by rw [← eti, eg], ⟨a1, a2⟩, ⟨g1, g2⟩⟩, w6.mono (by omega), g5.trans g6⟩
      cases b with
      | false =>
        simp_arith [eb, Bool.false_eq_true, if_false]
        refine wp_mono (els w8 (by omega)) fun d S1 h => wp_mono h fun d' S'' ⟨a, b, e⟩ => ⟨a, b.mono (by omega), e⟩
      | true =>
        simp_arith [eb, if_true]
        refine wp_mono (t_pull (by omega) w8 (by omega) (by decide) (by decide)) fun r S1 ⟨x, er, x0, x1, w1, g1⟩ => ?_
        subst er
        by_cases z0 : x = 0
        · simp_arith [z0, decide_true, if_true]
          exact ⟨⟨1, 1, rfl, ⟨Rb.one.mono (by decide), by decide⟩, ⟨Rb.one.mono (by decide), by decide⟩⟩, w1.mono (by omega), g1⟩
        · simp_arith [z0, decide_false, Bool.false_eq_true, if_false]
          refine wp_mono (els w1 (by omega)) fun d S1 h => wp_mono h fun d' S'' ⟨a, b, e⟩ => ⟨a, b.mono (by omega), g1.trans e⟩
    rw [wp_asg]
    refine wp_mono sg fun r S9 ⟨⟨s, g, er, hs, hg⟩, w9, g9⟩ => ?_
    subst er
    clear sg
    simp_all_arith [wp_gt, seqD, List.length_cons, List.length_nil, wp_gsC, wp_gsN, if_true]
    rw [fl_nx, wp_sC]
    have gg := (g7.trans g8).trans g9
    have ho9 := gg.get out _ (by omega) ho
    simp_all_arith [ix0, ix1, wp_me, isL_c ho9, if_true, app_c ho9 (show (D.tup [frq vi, frq vw] :: bs.map brD).length ≤ 1000 by simp; omega)]
    simp only [fl_nx, wp_sN, wp_ok]
    refine ⟨_, _, _, _, _, bs ++ [⟨oi, ow, p, s, g⟩], rfl, ?_, by simp [lb], fun q b hq => ?_, (w9.chg (Chg.set ho9) (by omega)).mono (by omega), (g'.trans gg).then (Chg.set ho9) oS⟩
    · rw [at_set ho9, List.map_append]; rfl
    · rcases Nat.lt_or_ge q bs.length with hq' | hq'
      · rw [List.getElem?_append_left hq'] at hq
        exact hb q b hq
      · have := (List.getElem?_eq_some_iff.mp hq).1
        have eq' : q = bs.length := by simp at this; omega
        subst eq'
        rw [List.getElem?_append_right (Nat.le_refl _), Nat.sub_self] at hq
        cases hq
        exact ⟨hoi, how, show p ≤ bs.length by omega, hs, hg⟩
  · rintro S' ρ' ⟨d3, d6, d7, d8, d9, bs, rfl, ho, lb, hb, w', g'⟩
    rw [List.length_map, List.length_range] at lb w'
    rw [fl_nx, wp_sC]
    simp_all_arith [fn_tupR (seq_c ho)]
    exact ⟨⟨⟨vi, vw, 0, 0, 1⟩, bs, rfl, by omega, ⟨ri1, ri2⟩, ⟨rw1, rw2⟩, hb⟩, w'.mono (by omega), g'⟩
end K74
namespace K74
open PySem Mini
def enL (xs : List D) : List D := (List.range xs.length).map fun (i : Nat) => D.tup [.int (i : Int), gt xs i]
theorem enL_len {xs : List D} : (enL xs).length = xs.length := by simp [enL]
theorem enL_get {xs : List D} {i : Nat} {d : D} (h : (enL xs)[i]? = some d) : i < xs.length ∧ d = .tup [.int (i : Int), gt xs i] := by
  have hi : i < xs.length := by
    have := (List.getElem?_eq_some_iff.mp h).1
    rwa [enL_len] at this
  refine ⟨hi, ?_⟩
  unfold enL at h
  rw [List.getElem?_map, List.getElem?_range hi] at h
  exact (Option.some.inj h).symm
theorem enL_src {xs : List D} {i : Nat} {S : Sto} : enumS (srcL xs) i S = srcL (enL xs) i S := by
  have e : enumS (srcL xs) i S = (match (match xs[i]? with
      | some d => Stp.item d
      | none => .stop) with
    | .item a => .item (.tup [.int (i : Int), a])
    | .stop => .stop
    | .bad => .bad) := rfl
  have e2 : srcL (enL xs) i S = (match (enL xs)[i]? with
      | some d => Stp.item d
      | none => .stop) := rfl
  rw [e, e2]
  by_cases h : i < xs.length
  · have : (enL xs)[i]? = some (.tup [.int (i : Int), gt xs i]) := by
      unfold enL
      rw [List.getElem?_map, List.getElem?_range h]; rfl
    rw [this, gt_of h]
  · rw [List.getElem?_eq_none (by omega), List.getElem?_eq_none (by rw [enL_len]; omega)]
/-! ### the program looks whether it is a machine -/
theorem frq_fr {q : Rat} : isFraction (frq q) = true := by
  have r : Nat.gcd q.num.natAbs q.den = 1 := q.reduced
  show (decide (0 < ((q.den : Nat) : Int)) && decide (((Nat.gcd q.num.natAbs ((q.den : Int)).natAbs : Nat) : Int) = 1)) = true
  rw [Int.natAbs_natCast, r, decide_eq_true den0]; rfl
theorem frq_am {q : Rat} (h : 0 < q) : isAmount (frq q) = true := by
  show (isFraction (frq q) && decide (0 < q.num)) = true
  rw [frq_fr, decide_eq_true (show 0 < q.num from num_pos.mpr h)]; rfl
theorem frq_pc {q : Rat} (h : 0 ≤ q) : isPace (frq q) = true := by
  show (isFraction (frq q) && decide (0 ≤ q.num)) = true
  rw [frq_fr, decide_eq_true (show 0 ≤ q.num from num_nn.mpr h)]; rfl
theorem frq_ok {q : Rat} {S : Sto} : okD S (frq q) = true := rfl
theorem t_is_root {n : Nat} (hn : 5 ≤ n) {d : Ds} {S : Sto} (i0 : 0 < d.i) (w0 : 0 ≤ d.w) : wp ((P n).call 15 [rtD d] S) fun r S' => r = .bl true ∧ Ext S S' := by
  obtain ⟨m, rfl, hm⟩ := up hn
  rw [cP m 15 b15 rfl]
  refine wp_run rfl ?_
  show wp (evSs (P m) b15.body [some (rtD d)] S) _
  have l2 : fnE .len [rtD d] S = .ok (.int 2) S := rfl
  have x0 : ∀ {S : Sto}, ixE S (rtD d) (.int 0) = some (frq d.i) := fun {S} => rfl
  have x1 : ∀ {S : Sto}, ixE S (rtD d) (.int 1) = some (frq d.w) := fun {S} => rfl
  have it : fnE (.isi .tuple) [rtD d] S = .ok (.bl true) S := rfl
  unfold b15
  rw [wp_sC]
  simp_arith [it, l2, x0, x1, if_true, decide_true]
  refine wp_mono (t_is_amount (by omega) frq_ok) fun r S1 ⟨er, e1⟩ => ?_
  subst er
  rw [frq_am i0]
  simp_arith [x1, if_true]
  refine wp_mono (t_is_pace (by omega) frq_ok) fun r S2 ⟨er, e2⟩ => ?_
  subst er
  rw [frq_pc w0]
  try simp_arith [wp_ok]
  exact ⟨by first | rfl | trivial, e1.trans e2⟩
theorem t_is_branch {n : Nat} (hn : 5 ≤ n) {a e k : Nat} {d : Ds} {S : Sto} (h : DsOk a e k d) : wp ((P n).call 16 [brD d, .int ((k : Int) + 1)] S) fun r S' => r = .bl true ∧ Ext S S' := by
  obtain ⟨m, rfl, hm⟩ := up hn
  rw [cP m 16 b16 rfl]
  refine wp_run rfl ?_
  show wp (evSs (P m) b16.body [some (brD d), some (.int ((k : Int) + 1))] S) _
  have l2 : ∀ {S : Sto}, fnE .len [brD d] S = .ok (.int 5) S := fun {S} => rfl
  have x0 : ∀ {S : Sto}, ixE S (brD d) (.int 0) = some (frq d.i) := fun {S} => rfl
  have x1 : ∀ {S : Sto}, ixE S (brD d) (.int 1) = some (frq d.w) := fun {S} => rfl
  have x2 : ∀ {S : Sto}, ixE S (brD d) (.int 2) = some (.int (d.p : Int)) := fun {S} => rfl
  have x3 : ∀ {S : Sto}, ixE S (brD d) (.int 3) = some (frq d.s) := fun {S} => rfl
  have x4 : ∀ {S : Sto}, ixE S (brD d) (.int 4) = some (frq d.g) := fun {S} => rfl
  have xg : ∀ {S : Sto}, ixE S (frq d.g) (.int 0) = some (.int d.g.num) := fun {S} => rfl
  have it : ∀ {S : Sto}, fnE (.isi .tuple) [brD d] S = .ok (.bl true) S := fun {S} => rfl
  unfold b16
  rw [wp_sC]
  simp_arith [it, l2, x0, x1, if_true, decide_true, Bool.not_true, Bool.false_eq_true, if_false]
  refine wp_mono (t_is_amount (by omega) frq_ok) fun r S1 ⟨er, e1⟩ => ?_
  subst er
  rw [frq_am h.i.2]
  simp_arith [x1, if_true, Bool.not_true, Bool.false_eq_true, if_false]
  refine wp_mono (t_is_pace (by omega) frq_ok) fun r S2 ⟨er, e2⟩ => ?_
  subst er
  rw [frq_pc h.w.2]
  simp_arith [if_true, Bool.not_true, Bool.false_eq_true, if_false, x2, bin_sub, show ((k : Int) + 1 - 1) = (k : Int) by omega]
  refine wp_mono (t_is_between (by omega)) fun r S3 ⟨er, e3⟩ => ?_
  subst er
  have hp := h.p
  have bt : decide ((0 : Int) ≤ (d.p : Int) ∧ (d.p : Int) ≤ (k : Int)) = true := decide_eq_true (by omega)
  have e03 := (e1.trans e2).trans e3
  simp_arith [bt, x3, if_true]
  refine wp_mono (t_is_amount (by omega) frq_ok) fun r S4 ⟨er, e4⟩ => ?_
  subst er
  rw [frq_am h.s.2]
  simp_arith [x4, if_true]
  refine wp_mono (t_is_fraction (by omega) frq_ok) fun r S5 ⟨er, e5⟩ => ?_
  subst er
  rw [frq_fr]
  have g0 : d.g.num ≠ 0 := fun z => h.g.2 (num_z.mp z)
  simp_arith [x4, xg, if_true]
  refine ⟨?_, (e03.trans e4).trans e5⟩
  rw [decide_eq_false g0]; rfl
theorem t_is_machine {n : Nat} (hn : 6 ≤ n) {a e : Nat} {r : Ds} {bs : List Ds} {S : Sto} (h : Mac a e r bs) : wp ((P n).call 17 [maD r bs] S) fun d S' => d = .bl true ∧ Ext S S' := by
  obtain ⟨m, rfl, hm⟩ := up hn
  rw [cP m 17 b17 rfl]
  refine wp_run rfl ?_
  show wp (evSs (P m) b17.body [some (maD r bs), none, none] S) _
  have l4 := h.len
  have ln : ∀ {S : Sto}, fnE .len [maD r bs] S = .ok (.int ((bs.length : Int) + 1)) S := fun {S} => by
    show Res.ok (D.int (((rtD r :: bs.map brD).length : Nat) : Int)) S = _
    rw [List.length_cons, List.length_map]; rfl
  have x0 : ∀ {S : Sto}, ixE S (maD r bs) (.int 0) = some (rtD r) := fun {S} => by
    show L2.atI (rtD r :: bs.map brD) 0 = _
    rw [show (0 : Int) = ((0 : Nat) : Int) from rfl, atI_n (by simp)]; rfl
  have it : ∀ {S : Sto}, fnE (.isi .tuple) [maD r bs] S = .ok (.bl true) S := fun {S} => rfl
  have le1 : decide ((1 : Int) ≤ (bs.length : Int) + 1) = true := decide_eq_true (by omega)
  have le2 : decide ((bs.length : Int) + 1 ≤ 8) = true := decide_eq_true (by omega)
  unfold b17
  rw [wp_sC]
  simp_arith [it, ln, le1, le2, x0, if_true, Bool.not_true, Bool.false_eq_true, if_false]
  refine wp_mono (t_is_root (by omega) h.ri.2 h.rw.2) fun r' S1 ⟨er, e1⟩ => ?_
  subst er
  simp_arith [Bool.not_true, Bool.false_eq_true, if_false]
  have sl : ∀ {S : Sto}, slE (maD r bs) (some 1) none S = .ok (.tup (bs.map brD)) S := fun {S} => by
    show Res.ok (D.tup (cutD (rtD r :: bs.map brD) (some 1) none)) S = _
    rw [cut_from1]; rfl
  refine comp_fm (g := fun d => some (.bl true)) (xs := enL (bs.map brD)) (by rw [enL_len, List.length_map]; have := fuelBig (m := m) (n := bs.length) (by omega); omega) (by rw [enL_len, List.length_map]; omega) ?_ (fun d hd S3 e3 => ?_) fun A t e3 => ?_
  · rw [wp_ie]
    simp_arith [wp_sl, wp_oN, wp_oS, partI, sl]
    exact ⟨_, rfl, .refl, fun i S' _ => enL_src⟩
  · obtain ⟨i, hi⟩ := List.getElem?_of_mem hd
    obtain ⟨hl, rfl⟩ := enL_get hi
    rw [List.length_map] at hl
    have hb := List.getElem?_eq_getElem hl
    have eg : gt (bs.map brD) i = brD (bs[i]'hl) := by
      unfold gt
      rw [List.getElem?_map, hb]; rfl
    rw [eg]
    have hh := h.br i _ hb
    generalize bs[i]'hl = b at hh
    unfold bodyC
    simp only [wipeL, List.foldl_cons, List.foldl_nil, List.set_cons_zero, List.set_cons_succ]
    simp only [wp_bind, wp_gt, seqD, List.length_cons, List.length_nil, wp_gsC, wp_gsN, wp_gn, if_true, Option.some.injEq, exists_eq_left', List.set_cons_zero, List.set_cons_succ, wp_tN]
    simp_arith [bin_add]
    refine wp_mono (t_is_branch (by omega) hh) fun r' S4 ⟨er, e4⟩ => ?_
    subst er
    try simp_arith [wp_ok]
    exact ⟨by first | rfl | trivial, e4⟩
  · rw [fm_map (f := fun _ => D.bl true)]
    have al : fnE .all [.ref A.length] (A ++ Mini.Cl.lst ((enL (bs.map brD)).map fun _ => D.bl true) :: t) = .ok (.bl true) (A ++ Mini.Cl.lst ((enL (bs.map brD)).map fun _ => D.bl true) :: t) := by
      show (match (seqAt _ A.length).bind boolsOf with
        | some bs => Res.ok (D.bl (bs.all id)) _
        | none => .no) = _
      rw [mid_seq]
      show (match boolsOf ((enL (bs.map brD)).map fun _ => D.bl true) with
        | some bs => Res.ok (D.bl (bs.all id)) _
        | none => .no) = _
      rw [boolsOf_map]
      show Res.ok (D.bl (((enL (bs.map brD)).map fun _ => true).all id)) _ = _
      rw [List.all_map]
      congr 2
      rw [List.all_eq_true]
      exact fun _ _ => rfl
    rw [al, wp_ok]
    exact ⟨by first | rfl | trivial, e1.trans (e3.trans ⟨_, rfl⟩)⟩
theorem t_check {n : Nat} (hn : 7 ≤ n) {a e : Nat} {r : Ds} {bs : List Ds} {S : Sto} (h : Mac a e r bs) : wp ((P n).call 18 [maD r bs] S) fun d S' => Ext S S' := by
  obtain ⟨m, rfl, hm⟩ := up hn
  rw [cP m 18 b18 rfl]
  refine wp_run rfl ?_
  show wp (evSs (P m) b18.body [some (maD r bs)] S) _
  unfold b18
  rw [wp_sC]
  simp_arith [wp_ok]
  refine wp_mono (t_is_machine (by omega) h) fun d S1 ⟨er, e1⟩ => ?_
  subst er
  simp_arith [Bool.not_true, Bool.false_eq_true, if_false]
  rw [ed_nx]
  exact e1
end K74
namespace K74
open PySem Mini
/-! ### geared out -/
def pthF (h : Ds → Rat) (bs : List Ds) : Nat → Nat → Rat
  | 0, _ => 1
  | _ + 1, 0 => 1
  | f + 1, k + 1 => match bs[k]? with
    | some b => pthF h bs f b.p * h b
    | none => 1
/-- the product along the way to the root -/
def pth (h : Ds → Rat) (bs : List Ds) (k : Nat) : Rat := pthF h bs k k
def Tree (bs : List Ds) : Prop := ∀ (k : Nat) (b : Ds), bs[k]? = some b → b.p ≤ k
theorem Mac.tree {a e : Nat} {r : Ds} {bs : List Ds} (h : Mac a e r bs) : Tree bs := fun k b hb => (h.br k b hb).p
theorem pthF_s {h : Ds → Rat} {bs : List Ds} (t : Tree bs) : ∀ f k, k ≤ f → pthF h bs (f + 1) k = pthF h bs f k
  | 0, k, hk => by
    rw [show k = 0 by omega]; rfl
  | f + 1, 0, _ => rfl
  | f + 1, k + 1, hk => by
    show (match bs[k]? with
      | some b => pthF h bs (f + 1) b.p * h b
      | none => 1) = (match bs[k]? with
      | some b => pthF h bs f b.p * h b
      | none => 1)
    cases hb : bs[k]? with
    | none => rfl
    | some b =>
      have := t k b hb
      show pthF h bs (f + 1) b.p * h b = pthF h bs f b.p * h b
      rw [pthF_s t f b.p (by omega)]
theorem pthF_k {h : Ds → Rat} {bs : List Ds} (t : Tree bs) {k : Nat} : ∀ d, pthF h bs (k + d) k = pth h bs k
  | 0 => rfl
  | d + 1 => by rw [show k + (d + 1) = (k + d) + 1 by omega, pthF_s t _ _ (by omega), pthF_k t d]
theorem pth_0 {h : Ds → Rat} {bs : List Ds} : pth h bs 0 = 1 := rfl
theorem pth_s {h : Ds → Rat} {bs : List Ds} (t : Tree bs) {k : Nat} {b : Ds} (hb : bs[k]? = some b) : pth h bs (k + 1) = pth h bs b.p * h b := by
  show (match bs[k]? with
      | some b => pthF h bs k b.p * h b
      | none => 1) = _
  rw [hb]
  have := t k b hb
  show pthF h bs k b.p * h b = _
  rw [show k = b.p + (k - b.p) by omega, pthF_k t]
theorem pth_mul {g h : Ds → Rat} {bs : List Ds} (t : Tree bs) : ∀ n k, k ≤ n → k ≤ bs.length → pth g bs k * pth h bs k = pth (fun b => g b * h b) bs k
  | n, 0, _, _ => by rw [pth_0, pth_0, pth_0, Rat.mul_one]
  | 0, k + 1, h, _ => by omega
  | n + 1, k + 1, hk, kl => by
    have hb := List.getElem?_eq_getElem (show k < bs.length by omega)
    have := t k _ hb
    rw [pth_s t hb, pth_s t hb, pth_s t hb, ← pth_mul t n _ (by omega) (by omega)]
    grind
theorem pth_rb {h : Ds → Rat} {bs : List Ds} {e : Nat} (t : Tree bs) (hh : ∀ b ∈ bs, Rb e (h b)) : ∀ n k, k ≤ n → 1 ≤ k → k ≤ bs.length → Rb (e * k) (pth h bs k)
  | n, 0, _, h, _ => by omega
  | 0, k + 1, h, _, _ => by omega
  | n + 1, k + 1, hk, _, kl => by
    have hb := List.getElem?_eq_getElem (show k < bs.length by omega)
    have tp := t k _ hb
    have hm := hh _ (List.mem_of_getElem? hb)
    rw [pth_s t hb]
    generalize bs[k]'(by omega) = b at tp hm
    rcases Nat.eq_zero_or_pos b.p with z | z
    · rw [z, pth_0, Rat.one_mul]
      exact hm.mono (by rw [Nat.mul_add]; omega)
    · have ih := pth_rb t hh n b.p (by omega) z (by omega)
      exact (by_frq ih hm).2.mono (by rw [Nat.mul_add]; have := Nat.mul_le_mul_left e tp; omega)
/-- the square of all ratios from the root on -/
def sq (bs : List Ds) (k : Nat) : Rat := pth (fun b => b.g * b.g) bs k
def outD (q : Rat) (b : Ds) : Ds := ⟨b.i * q, b.w * q, b.p, b.s * q, 1⟩
def outB (bs : List Ds) : List Ds := (List.range bs.length).map fun k => outD (sq bs (k + 1)) (bs[k]?.getD ⟨0, 0, 0, 0, 0⟩)
theorem outB_get {bs : List Ds} {k : Nat} {b : Ds} (h : bs[k]? = some b) : (outB bs)[k]? = some (outD (sq bs (k + 1)) b) := by
  unfold outB
  rw [List.getElem?_map, List.getElem?_range (List.getElem?_eq_some_iff.mp h).1, Option.map_some, h]; rfl
theorem outB_len {bs : List Ds} : (outB bs).length = bs.length := by simp [outB]
theorem pth_pos {bs : List Ds} (t : Tree bs) (h : ∀ b ∈ bs, b.g ≠ 0) : ∀ n k, k ≤ n → k ≤ bs.length → 0 < sq bs k
  | n, 0, _, _ => by show (0 : Rat) < 1; decide
  | 0, k + 1, h, _ => by omega
  | n + 1, k + 1, hk, kl => by
    have hb := List.getElem?_eq_getElem (show k < bs.length by omega)
    have tp := t k _ hb
    unfold sq
    rw [pth_s t hb]
    have g0 := h _ (List.mem_of_getElem? hb)
    have gg : 0 < (bs[k]'(by omega)).g * (bs[k]'(by omega)).g := by
      generalize (bs[k]'(by omega)).g = g at g0
      rcases Classical.em (0 < g) with q | q
      · exact Rat.mul_pos q q
      · have : 0 < (-g) * (-g) := Rat.mul_pos (by grind) (by grind)
        grind
    exact Rat.mul_pos (pth_pos t h n _ (by omega) (by omega)) gg
theorem Mac.out {a e : Nat} {r : Ds} {bs : List Ds} (h : Mac a e r bs) : Mac (a + 8 * e) 1 r (outB bs) := by
  have l4 := h.len
  refine ⟨by rw [outB_len]; exact l4, ⟨h.ri.1.mono (by omega), h.ri.2⟩, ⟨h.rw.1.mono (by omega), h.rw.2⟩, fun k b' hb' => ?_⟩
  have kl := (List.getElem?_eq_some_iff.mp hb').1
  rw [outB_len] at kl
  have hb := List.getElem?_eq_getElem kl
  rw [outB_get hb] at hb'
  cases hb'
  have t := h.tree
  have o := h.br k _ hb
  generalize bs[k]'kl = b at o
  have gs : ∀ b ∈ bs, Rb (2 * e) (b.g * b.g) ∧ b.g ≠ 0 := fun b hb => by
    obtain ⟨i, hi⟩ := List.getElem?_of_mem hb
    have g := (h.br i b hi).g
    exact ⟨(by_frq g.1 g.1).2.mono (by omega), g.2⟩
  have q0 : 0 < sq bs (k + 1) := pth_pos t (fun b hb => (gs b hb).2) (k + 1) (k + 1) (Nat.le_refl _) kl
  have qb : Rb (8 * e) (sq bs (k + 1)) := (pth_rb t (fun b hb => (gs b hb).1) (k + 1) (k + 1) (Nat.le_refl _) (by omega) kl).mono (by
    have : 2 * e * (k + 1) ≤ 2 * e * 4 := Nat.mul_le_mul_left _ (by omega)
    omega)
  exact ⟨⟨(by_frq o.i.1 qb).2, Rat.mul_pos o.i.2 q0⟩, ⟨(by_frq o.w.1 qb).2, Rat.mul_nonneg o.w.2 (Rat.le_of_lt q0)⟩, o.p, ⟨(by_frq o.s.1 qb).2, Rat.mul_pos o.s.2 q0⟩, ⟨Rb.one, show (1 : Rat) ≠ 0 by decide⟩⟩
theorem t_prod {n : Nat} (hn : 2 ≤ n) {j k : Nat} {a b : Rat} {S : Sto} (ha : Rb j a) (hb : Rb k b) (hjk : j + k ≤ 8800) : wp ((P n).call 8 [frq a, frq b] S) fun r S' => r = frq (a * b) ∧ S' = S := by
  obtain ⟨m, rfl, hm⟩ := up hn
  rw [cP m 8 b8 rfl]
  refine wp_run rfl ?_
  show wp (evSs (P m) b8.body [some (frq a), some (frq b)] S) _
  have x0 : ∀ {S : Sto} {q : Rat}, ixE S (frq q) (.int 0) = some (.int q.num) := fun {S q} => rfl
  have x1 : ∀ {S : Sto} {q : Rat}, ixE S (frq q) (.int 1) = some (.int (q.den : Int)) := fun {S q} => rfl
  unfold b8
  rw [wp_sC]
  have bd : Bd (j + k) ((a.den : Int) * (b.den : Int)) := ha.bd.mul hb.bd
  simp_arith [x0, x1, big_mul ha.bn hb.bn (by omega), big_mul ha.bd hb.bd (by omega), show num (frq a) = a.num from rfl, show num (frq b) = b.num from rfl, show den (frq a) = (a.den : Int) from rfl, show den (frq b) = (b.den : Int) from rfl]
  have m1 : binE .mul (.int a.num) (.int b.num) S = .ok (.int (a.num * b.num)) S := big_mul ha.bn hb.bn (by omega)
  have m2 : binE .mul (.int (a.den : Int)) (.int (b.den : Int)) S = .ok (.int ((a.den : Int) * (b.den : Int))) S := big_mul ha.bd hb.bd (by omega)
  simp only [m1, m2, wp_ok]
  refine wp_mono (t_fraction_of (by omega) (Int.mul_pos den0 den0) bd (by omega)) fun r S1 h => ?_
  obtain ⟨er, e1⟩ := h
  subst er
  exact ⟨(by_frq ha hb).1, e1⟩
theorem t_byQ {n : Nat} (hn : 3 ≤ n) {j k : Nat} {a b : Rat} {S : Sto} (ha : Rb j a) (hb : Rb k b) (hjk : j + k ≤ 8800) : wp ((P n).call 31 [frq a, frq b] S) fun r S' => r = frq (a * b) ∧ S' = S :=
  wp_mono (t_byF hn ha hb hjk) fun r S1 ⟨er, es⟩ => ⟨er.trans (by_frq ha hb).1, es⟩
theorem map_sn {α : Type} {f : Nat → α} {k : Nat} : (List.range k).map f ++ [f k] = (List.range (k + 1)).map f := by
  rw [List.range_succ, List.map_append]; rfl
/-- the program's geared out machine -/
theorem t_geared_out {n : Nat} (hn : 4 ≤ n) {a e : Nat} {r : Ds} {bs : List Ds} {S : Sto} (h : Mac a e r bs) (ha : a ≤ 100) (he : e ≤ 2) : wp ((P n).call 19 [maD r bs] S) fun d S' => d = maD r (outB bs) ∧ Ext S S' := by
  obtain ⟨m, rfl, hm⟩ := up hn
  rw [cP m 19 b19 rfl]
  refine wp_run rfl ?_
  show wp (evSs (P m) b19.body [some (maD r bs), none, none, none, none, none, none, none, none, none, none] S) _
  have l4 := h.len
  have t := h.tree
  have x0 : ∀ {S : Sto}, ixE S (maD r bs) (.int 0) = some (rtD r) := fun {S} => by
    show L2.atI (rtD r :: bs.map brD) 0 = _
    rw [show (0 : Int) = ((0 : Nat) : Int) from rfl, atI_n (by simp)]; rfl
  have sl : ∀ {S : Sto}, slE (maD r bs) (some 1) none S = .ok (.tup (bs.map brD)) S := fun {S} => by
    show Res.ok (D.tup (cutD (rtD r :: bs.map brD) (some 1) none)) S = _
    rw [cut_from1]; rfl
  have gs : ∀ b ∈ bs, Rb (2 * e) (b.g * b.g) := fun b hb => by
    obtain ⟨i, hi⟩ := List.getElem?_of_mem hb
    have g := (h.br i b hi).g
    exact (by_frq g.1 g.1).2.mono (by omega)
  have qb : ∀ k, k ≤ bs.length → Rb 17 (sq bs k) := fun k hk => by
    rcases Nat.eq_zero_or_pos k with z | z
    · rw [z]; exact Rb.one.mono (by decide)
    · exact (pth_rb t gs k k (Nat.le_refl _) z hk).mono (by
        have := Nat.mul_le_mul (show 2 * e ≤ 4 by omega) (show k ≤ 4 by omega)
        omega)
  unfold b19
  rw [wp_sC]
  simp_all_arith [x0]
  have n1 : (S ++ [Mini.Cl.lst [.tup [.int 1, .int 1]]] ++ [Mini.Cl.lst [rtD r]])[S.length]? = some (.lst [.tup [.int 1, .int 1]]) := by simp
  have n2 := at_new (A := S ++ [Mini.Cl.lst [.tup [.int 1, .int 1]]]) (c := .lst [rtD r])
  have e2 : Ext S (S ++ [Mini.Cl.lst [.tup [.int 1, .int 1]]] ++ [Mini.Cl.lst [rtD r]]) := Ext.one.trans .one
  have ln : (S ++ [Mini.Cl.lst [.tup [.int 1, .int 1]]]).length = S.length + 1 := by simp
  generalize (S ++ [Mini.Cl.lst [.tup [.int 1, .int 1]]] ++ [Mini.Cl.lst [rtD r]]) = S2 at n1 n2 e2 ⊢
  rw [ln] at n2 ⊢
  rw [fl_nx, wp_sC]
  rw [wp_for, wp_iv]
  simp_all_arith [wp_sl, wp_oN, wp_oS, partI, sl]
  refine ⟨_, rfl, ?_⟩
  refine forN_wp (bs.map brD) (fun k S' ρ' => ∃ (d3 d4 d5 d6 d7 d8 d9 d10 : Option D), ρ' = [some (maD r bs), some (.ref S.length), some (.ref (S.length + 1)), d3, d4, d5, d6, d7, d8, d9, d10] ∧ S'[S.length]? = some (.lst ((List.range (k + 1)).map fun q => frq (sq bs q))) ∧ S'[S.length + 1]? = some (.lst (rtD r :: ((outB bs).take k).map brD)) ∧ ∀ (n : Nat) x, S[n]? = some x → S'[n]? = some x)
    (fun k S' ρ' _ => rfl) ?_ ?_ _ 0 _ _ (Nat.zero_le _) (by rw [List.length_map]; have := fuelBig (m := m) (n := bs.length) (by omega); omega) ⟨_, _, _, _, _, _, _, _, rfl, n1, n2, fun n x hx => e2.get hx⟩
  · rintro k S' ρ' d ⟨d3, d4, d5, d6, d7, d8, d9, d10, rfl, h1, h2, g⟩ hd
    rw [List.getElem?_map] at hd
    cases hb : bs[k]? with
    | none => rw [hb] at hd; cases hd
    | some b =>
      rw [hb] at hd
      cases hd
      have kl := (List.getElem?_eq_some_iff.mp hb).1
      have o := h.br k b hb
      have pk := o.p
      have bp := qb b.p (by omega)
      have bk := qb (k + 1) (by omega)
      have es : sq bs b.p * (b.g * b.g) = sq bs (k + 1) := (pth_s t hb).symm
      have ixp : ixE S' (.ref S.length) (.int (b.p : Int)) = some (frq (sq bs b.p)) := by
        rw [ix_c h1, atI_n (by rw [List.length_map, List.length_range]; omega), List.getElem?_map, List.getElem?_range (by omega)]; rfl
      simp only [wp_bind]
      simp_all_arith [wp_gt, brD, seqD, List.length_cons, List.length_nil, wp_gsC, wp_gsN, if_true]
      rw [wp_sC]
      simp_all_arith [ixp]
      refine wp_mono (t_prod (by omega) o.g.1 o.g.1 (by omega)) fun r1 S1 ⟨er, eS⟩ => ?_
      subst er eS
      refine wp_mono (t_prod (by omega) bp (by_frq o.g.1 o.g.1).2 (by omega)) fun r1 S1 ⟨er, eS⟩ => ?_
      subst er eS
      rw [es]
      rw [fl_nx, wp_sC]
      have lr : ((List.range (k + 1)).map fun q => frq (sq bs q)).length ≤ 1000 := by rw [List.length_map, List.length_range]; omega
      simp_all_arith [wp_me, isL_c h1, if_true, app_c h1 lr]
      rw [fl_nx, wp_sC]
      rw [map_sn (f := fun q => frq (sq bs q))]
      have h1' := at_set (ys := (List.range (k + 1 + 1)).map fun q => frq (sq bs q)) h1
      have h2' : (S1.set S.length (Mini.Cl.lst ((List.range (k + 1 + 1)).map fun q => frq (sq bs q))))[S.length + 1]? = some (.lst (rtD r :: ((outB bs).take k).map brD)) := by
        rw [List.getElem?_set_ne (by omega)]; exact h2
      have g' : ∀ (n : Nat) x, S[n]? = some x → (S1.set S.length (Mini.Cl.lst ((List.range (k + 1 + 1)).map fun q => frq (sq bs q))))[n]? = some x := fun n x hx => by
        have := (List.getElem?_eq_some_iff.mp hx).1
        rw [List.getElem?_set_ne (by omega)]
        exact g n x hx
      generalize (S1.set S.length (Mini.Cl.lst ((List.range (k + 1 + 1)).map fun q => frq (sq bs q)))) = S3 at h1' h2' g' ⊢
      rw [wp_asg]
      have fb3 : ∀ d ∈ [frq b.i, frq b.w, frq b.s], ∃ q, d = frq q ∧ Rb a q := fun d hd => by
        simp only [List.mem_cons, List.not_mem_nil, or_false] at hd
        rcases hd with rfl | rfl | rfl
        · exact ⟨_, rfl, o.i.1⟩
        · exact ⟨_, rfl, o.w.1⟩
        · exact ⟨_, rfl, o.s.1⟩
      refine comp_fm (g := fun d => some (frq (v d * sq bs (k + 1)))) (xs := [frq b.i, frq b.w, frq b.s]) (by have := fuelBig (m := m) (n := 3) (by omega); simpa using this) (by simp) (it_tup ?_) (fun d hd S' e => bodyC_pure ?_) fun A t e => ?_
      · simp_all_arith [wp_ok]
        exact ⟨trivial, .refl⟩
      · obtain ⟨q, rfl, hq⟩ := fb3 d hd
        simp only [wipeL, List.foldl_cons, List.foldl_nil, List.set_cons_zero, List.set_cons_succ]
        simp_all_arith [wp_ok]
        refine wp_mono (t_prod (by omega) hq bk (by omega)) fun r1 S5 ⟨er, eS⟩ => ?_
        rw [frq_v, eS]
        exact ⟨er, .refl⟩
      · have e9 : ([frq b.i, frq b.w, frq b.s] : List D).filterMap (fun d => some (frq (v d * sq bs (k + 1)))) = [frq (b.i * sq bs (k + 1)), frq (b.w * sq bs (k + 1)), frq (b.s * sq bs (k + 1))] := by
          simp only [List.filterMap_cons, List.filterMap_nil, frq_v]
        rw [e9]
        have e3 : Ext S3 (A ++ Mini.Cl.lst [frq (b.i * sq bs (k + 1)), frq (b.w * sq bs (k + 1)), frq (b.s * sq bs (k + 1))] :: t) := e.trans ⟨_, rfl⟩
        have n9 : (A ++ Mini.Cl.lst [frq (b.i * sq bs (k + 1)), frq (b.w * sq bs (k + 1)), frq (b.s * sq bs (k + 1))] :: t)[A.length]? = some (.lst [frq (b.i * sq bs (k + 1)), frq (b.w * sq bs (k + 1)), frq (b.s * sq bs (k + 1))]) := by simp
        have h1'' := e3.get h1'
        have h2'' := e3.get h2'
        have g'' : ∀ (n : Nat) x, S[n]? = some x → (A ++ Mini.Cl.lst [frq (b.i * sq bs (k + 1)), frq (b.w * sq bs (k + 1)), frq (b.s * sq bs (k + 1))] :: t)[n]? = some x := fun n x hx => e3.get (g' n x hx)
        generalize (A ++ Mini.Cl.lst [frq (b.i * sq bs (k + 1)), frq (b.w * sq bs (k + 1)), frq (b.s * sq bs (k + 1))] :: t) = S6 at n9 h1'' h2'' g'' ⊢
        generalize A.length = q9 at n9 ⊢
        have y0 : ixE S6 (.ref q9) (.int 0) = some (frq (b.i * sq bs (k + 1))) := by rw [ix_c n9]; rfl
        have y1 : ixE S6 (.ref q9) (.int 1) = some (frq (b.w * sq bs (k + 1))) := by rw [ix_c n9]; rfl
        have y2 : ixE S6 (.ref q9) (.int 2) = some (frq (b.s * sq bs (k + 1))) := by rw [ix_c n9]; rfl
        simp only [wp_gn, List.set_cons_zero, List.set_cons_succ]
        rw [fl_nx, wp_sC]
        have ll : (rtD r :: ((outB bs).take k).map brD).length ≤ 1000 := by
          rw [List.length_cons, List.length_map, List.length_take, outB_len]; omega
        simp_all_arith [y0, y1, y2, wp_me, isL_c h2'', if_true, app_c h2'' ll]
        simp only [fl_nx, wp_sN, wp_ok]
        refine ⟨_, _, _, _, _, _, _, _, rfl, by rw [List.getElem?_set_ne (by omega)]; exact h1'', ?_, fun n x hx => ?_⟩
        · rw [at_set h2'', List.take_add_one, outB_get hb, List.map_append]; rfl
        · have := (List.getElem?_eq_some_iff.mp hx).1
          rw [List.getElem?_set_ne (by omega)]
          exact g'' n x hx
  · rintro S' ρ' ⟨d3, d4, d5, d6, d7, d8, d9, d10, rfl, h1, h2, g⟩
    rw [List.length_map] at h2
    rw [fl_nx, wp_sC]
    simp_all_arith [fn_tupR (seq_c h2)]
    refine ⟨?_, ext_of g⟩
    rw [List.take_of_length_le (by rw [outB_len]; exact Nat.le_refl _)]; rfl
end K74
namespace K74
open PySem Mini
/-! ### the law's machine geared out -/
def tn (bs : List Ds) (k : Nat) : Rat := pth (fun b => b.g) bs k
theorem tn_sq {bs : List Ds} (t : Tree bs) {k : Nat} (h : k ≤ bs.length) : tn bs k * tn bs k = sq bs k := pth_mul t k k (Nat.le_refl _) h
theorem t_lout {n : Nat} (hn : 4 ≤ n) {r : Ds} {bs : List Ds} {S : Sto} (h : Mac 4 2 r bs) : wp ((P n).call 40 [maD r bs] S) fun d S' => d = maD r (outB bs) ∧ Ext S S' := by
  obtain ⟨m, rfl, hm⟩ := up hn
  rw [cP m 40 b40 rfl]
  refine wp_run rfl ?_
  show wp (evSs (P m) b40.body [some (maD r bs), none, none, none, none, none, none, none, none, none] S) _
  have l4 := h.len
  have t := h.tree
  have x0 : ∀ {S : Sto}, ixE S (maD r bs) (.int 0) = some (rtD r) := fun {S} => by
    show L2.atI (rtD r :: bs.map brD) 0 = _
    rw [show (0 : Int) = ((0 : Nat) : Int) from rfl, atI_n (by simp)]; rfl
  have sl : ∀ {S : Sto}, slE (maD r bs) (some 1) none S = .ok (.tup (bs.map brD)) S := fun {S} => by
    show Res.ok (D.tup (cutD (rtD r :: bs.map brD) (some 1) none)) S = _
    rw [cut_from1]; rfl
  have gs : ∀ b ∈ bs, Rb 2 b.g := fun b hb => by
    obtain ⟨i, hi⟩ := List.getElem?_of_mem hb
    exact (h.br i b hi).g.1
  have qb : ∀ k, k ≤ bs.length → Rb 9 (tn bs k) := fun k hk => by
    rcases Nat.eq_zero_or_pos k with z | z
    · rw [z]; exact Rb.one.mono (by decide)
    · exact (pth_rb t gs k k (Nat.le_refl _) z hk).mono (by omega)
  unfold b40
  rw [wp_sC]
  simp_all_arith [x0]
  have n1 : (S ++ [Mini.Cl.lst [.tup [.int 1, .int 1]]] ++ [Mini.Cl.lst [rtD r]])[S.length]? = some (.lst [.tup [.int 1, .int 1]]) := by simp
  have n2 := at_new (A := S ++ [Mini.Cl.lst [.tup [.int 1, .int 1]]]) (c := .lst [rtD r])
  have e2 : Ext S (S ++ [Mini.Cl.lst [.tup [.int 1, .int 1]]] ++ [Mini.Cl.lst [rtD r]]) := Ext.one.trans .one
  have ln : (S ++ [Mini.Cl.lst [.tup [.int 1, .int 1]]]).length = S.length + 1 := by simp
  generalize (S ++ [Mini.Cl.lst [.tup [.int 1, .int 1]]] ++ [Mini.Cl.lst [rtD r]]) = S2 at n1 n2 e2 ⊢
  rw [ln] at n2 ⊢
  rw [fl_nx, wp_sC]
  rw [wp_for, wp_iv]
  simp_all_arith [wp_sl, wp_oN, wp_oS, partI, sl]
  refine ⟨_, rfl, ?_⟩
  refine forN_wp (bs.map brD) (fun k S' ρ' => ∃ (d3 d4 d5 d6 d7 d8 d9 : Option D), ρ' = [some (maD r bs), some (.ref S.length), some (.ref (S.length + 1)), d3, d4, d5, d6, d7, d8, d9] ∧ S'[S.length]? = some (.lst ((List.range (k + 1)).map fun q => frq (tn bs q))) ∧ S'[S.length + 1]? = some (.lst (rtD r :: ((outB bs).take k).map brD)) ∧ ∀ (n : Nat) x, S[n]? = some x → S'[n]? = some x)
    (fun k S' ρ' _ => rfl) ?_ ?_ _ 0 _ _ (Nat.zero_le _) (by rw [List.length_map]; have := fuelBig (m := m) (n := bs.length) (by omega); omega) ⟨_, _, _, _, _, _, _, rfl, n1, n2, fun n x hx => e2.get hx⟩
  · rintro k S' ρ' d ⟨d3, d4, d5, d6, d7, d8, d9, rfl, h1, h2, g⟩ hd
    rw [List.getElem?_map] at hd
    cases hb : bs[k]? with
    | none => rw [hb] at hd; cases hd
    | some b =>
      rw [hb] at hd
      cases hd
      have kl := (List.getElem?_eq_some_iff.mp hb).1
      have o := h.br k b hb
      have pk := o.p
      have bp := qb b.p (by omega)
      have bk := qb (k + 1) (by omega)
      have es : tn bs b.p * b.g = tn bs (k + 1) := (pth_s t hb).symm
      have eq := tn_sq t (show k + 1 ≤ bs.length by omega)
      have ixp : ixE S' (.ref S.length) (.int (b.p : Int)) = some (frq (tn bs b.p)) := by
        rw [ix_c h1, atI_n (by rw [List.length_map, List.length_range]; omega), List.getElem?_map, List.getElem?_range (by omega)]; rfl
      simp only [wp_bind]
      simp_all_arith [wp_gt, brD, seqD, List.length_cons, List.length_nil, wp_gsC, wp_gsN, if_true]
      rw [wp_sC]
      simp_all_arith [ixp]
      refine wp_mono (t_byQ (by omega) bp o.g.1 (by omega)) fun r1 S1 ⟨er, eS⟩ => ?_
      subst er eS
      rw [es]
      rw [fl_nx, wp_sC]
      have lr : ((List.range (k + 1)).map fun q => frq (tn bs q)).length ≤ 1000 := by rw [List.length_map, List.length_range]; omega
      simp_all_arith [wp_me, isL_c h1, if_true, app_c h1 lr]
      rw [fl_nx, wp_sC]
      rw [map_sn (f := fun q => frq (tn bs q))]
      have h1' := at_set (ys := (List.range (k + 1 + 1)).map fun q => frq (tn bs q)) h1
      have h2' : (S1.set S.length (Mini.Cl.lst ((List.range (k + 1 + 1)).map fun q => frq (tn bs q))))[S.length + 1]? = some (.lst (rtD r :: ((outB bs).take k).map brD)) := by
        rw [List.getElem?_set_ne (by omega)]; exact h2
      have g' : ∀ (n : Nat) x, S[n]? = some x → (S1.set S.length (Mini.Cl.lst ((List.range (k + 1 + 1)).map fun q => frq (tn bs q))))[n]? = some x := fun n x hx => by
        have := (List.getElem?_eq_some_iff.mp hx).1
        rw [List.getElem?_set_ne (by omega)]
        exact g n x hx
      generalize (S1.set S.length (Mini.Cl.lst ((List.range (k + 1 + 1)).map fun q => frq (tn bs q)))) = S3 at h1' h2' g' ⊢
      simp_all_arith [wp_ok]
      refine wp_mono (t_byQ (by omega) bk bk (by omega)) fun r1 S4 ⟨er, eS⟩ => ?_
      subst er eS
      have b2 := (by_frq bk bk).2
      rw [eq] at b2 ⊢
      rw [fl_nx, wp_sC]
      rw [wp_sx, wp_me]
      simp_all_arith [isL_c h2', if_true]
      refine wp_mono (t_byQ (by omega) o.i.1 b2 (by omega)) fun r1 S5 ⟨er, eS⟩ => ?_
      subst er eS
      try simp_all_arith [wp_ok]
      refine wp_mono (t_byQ (by omega) o.w.1 b2 (by omega)) fun r1 S5 ⟨er, eS⟩ => ?_
      subst er eS
      try simp_all_arith [wp_ok]
      refine wp_mono (t_byQ (by omega) o.s.1 b2 (by omega)) fun r1 S5 ⟨er, eS⟩ => ?_
      subst er eS
      have ll : (rtD r :: ((outB bs).take k).map brD).length ≤ 1000 := by
        rw [List.length_cons, List.length_map, List.length_take, outB_len]; omega
      simp_all_arith [app_c h2' ll]
      simp only [fl_nx, wp_sN, wp_ok]
      refine ⟨_, _, _, _, _, _, _, rfl, by rw [List.getElem?_set_ne (by omega)]; exact h1', ?_, fun n x hx => ?_⟩
      · rw [at_set h2', List.take_add_one, outB_get hb, List.map_append]; rfl
      · have := (List.getElem?_eq_some_iff.mp hx).1
        rw [List.getElem?_set_ne (by omega)]
        exact g' n x hx
  · rintro S' ρ' ⟨d3, d4, d5, d6, d7, d8, d9, rfl, h1, h2, g⟩
    rw [List.length_map] at h2
    rw [fl_nx, wp_sC]
    simp_all_arith [fn_tupR (seq_c h2)]
    refine ⟨?_, ext_of g⟩
    rw [List.take_of_length_le (by rw [outB_len]; exact Nat.le_refl _)]; rfl
end K74
namespace K74
open PySem Mini
theorem fn_lcm {S : Sto} {i j : Int} (h1 : i.natAbs < 2 ^ 13000) (h2 : j.natAbs < 2 ^ 13000) : fnE .lcm [.int i, .int j] S = .ok (.int ((Nat.lcm i.natAbs j.natAbs : Nat) : Int)) S := by
  show (if lcmOk i.natAbs && lcmOk j.natAbs then Res.ok (D.int ((Nat.lcm i.natAbs j.natAbs : Nat) : Int)) S else .no) = _
  unfold lcmOk
  rw [decide_eq_true h1, decide_eq_true h2]; rfl
theorem lcmBd {a b m n : Nat} (ha : a < 2 ^ m) (hb : b < 2 ^ n) : a.lcm b < 2 ^ (m + n) := by
  have : a.lcm b ≤ a * b := by
    unfold Nat.lcm
    exact Nat.div_le_self _ _
  refine Nat.lt_of_le_of_lt this ?_
  rw [Nat.pow_add]
  exact Nat.mul_lt_mul'' ha hb
theorem lcm_facts {f d : Int} (f0 : 0 < f) (d0 : 0 < d) : 0 < ((Nat.lcm f.natAbs d.natAbs : Nat) : Int) ∧ f ∣ ((Nat.lcm f.natAbs d.natAbs : Nat) : Int) ∧ d ∣ ((Nat.lcm f.natAbs d.natAbs : Nat) : Int) := by
  refine ⟨?_, ?_, ?_⟩
  · have := Nat.lcm_pos (show 0 < f.natAbs by omega) (show 0 < d.natAbs by omega)
    omega
  · exact Int.natAbs_dvd.mp (Int.natCast_dvd_natCast.mpr (Nat.dvd_lcm_left _ _))
  · exact Int.natAbs_dvd.mp (Int.natCast_dvd_natCast.mpr (Nat.dvd_lcm_right _ _))
theorem it_ref {p : Pg} {e : Ex} {ρ : Mini.Loc} {S : Sto} {xs : List D} (h : wp (evE p e ρ S) fun d S' => Ext S S' ∧ ∃ l, d = .ref l ∧ S'[l]? = some (.lst xs)) : wp (evI p (.val e) ρ S) fun src S1 => Ext S S1 ∧ ∀ i S', Ext S1 S' → src i S' = srcL xs i S' := by
  rw [wp_iv]
  refine wp_mono h fun d S' ⟨e1, l, e2, e3⟩ => ?_
  subst e2
  refine ⟨srcR l, ?_, e1, fun i S2 e4 => ?_⟩
  · show (match seqAt S' l with
    | some _ => some (srcR l)
    | none => none) = _
    rw [seq_c e3]
  · show srcR l i S2 = _
    unfold srcR
    rw [seq_c (e4.get e3)]
def dI : D → Int
  | .int z => z
  | _ => 0
theorem dI_ip (xs : List Int) : (ip xs).map dI = xs := by
  unfold ip
  rw [List.map_map]
  exact List.map_id _
/-! ### a machine of whole numbers -/
def mI (r : Ds) (bs : List Ds) : Nat → Rat
  | 0 => r.i
  | k + 1 => (bs[k]?.getD ⟨0, 0, 0, 0, 0⟩).i
def mW (r : Ds) (bs : List Ds) : Nat → Rat
  | 0 => r.w
  | k + 1 => (bs[k]?.getD ⟨0, 0, 0, 0, 0⟩).w
def mS (bs : List Ds) : Nat → Rat
  | 0 => 0
  | k + 1 => (bs[k]?.getD ⟨0, 0, 0, 0, 0⟩).s
def mP (bs : List Ds) : Nat → Int
  | 0 => -1
  | k + 1 => ((bs[k]?.getD ⟨0, 0, 0, 0, 0⟩).p : Int)
/-- the sizes of all numbers of a machine -/
structure Mz (a : Nat) (r : Ds) (bs : List Ds) (k : Nat) : Prop where
  i : Rb a (mI r bs k) ∧ 0 < mI r bs k
  w : Rb a (mW r bs k) ∧ 0 ≤ mW r bs k
  s : Rb a (mS bs k) ∧ 0 ≤ mS bs k
  p : mP bs k < (k : Int)
theorem Mac.mz {a e : Nat} {r : Ds} {bs : List Ds} (h : Mac a e r bs) (a1 : 1 ≤ a) {k : Nat} (hk : k < bs.length + 1) : Mz a r bs k := by
  cases k with
  | zero => exact ⟨h.ri, h.rw, ⟨fz_fb.mono a1, Rat.le_refl⟩, by show (-1 : Int) < ((0 : Nat) : Int); omega⟩
  | succ k =>
    have hb := List.getElem?_eq_getElem (show k < bs.length by omega)
    have o := h.br k _ hb
    have e : bs[k]?.getD ⟨0, 0, 0, 0, 0⟩ = bs[k]'(by omega) := by rw [hb]; rfl
    have o1 := o.i
    have o2 := o.w
    have o3 := o.s
    have o4 := o.p
    refine ⟨?_, ?_, ?_, ?_⟩
    · show Rb a (bs[k]?.getD ⟨0, 0, 0, 0, 0⟩).i ∧ 0 < (bs[k]?.getD ⟨0, 0, 0, 0, 0⟩).i
      rw [e]; exact o1
    · show Rb a (bs[k]?.getD ⟨0, 0, 0, 0, 0⟩).w ∧ 0 ≤ (bs[k]?.getD ⟨0, 0, 0, 0, 0⟩).w
      rw [e]; exact o2
    · show Rb a (bs[k]?.getD ⟨0, 0, 0, 0, 0⟩).s ∧ 0 ≤ (bs[k]?.getD ⟨0, 0, 0, 0, 0⟩).s
      rw [e]; exact ⟨o3.1, Rat.le_of_lt o3.2⟩
    · show ((bs[k]?.getD ⟨0, 0, 0, 0, 0⟩).p : Int) < ((k + 1 : Nat) : Int)
      rw [e]; omega
def rw4 (r : Ds) (bs : List Ds) (k : Nat) : D := .tup [frq (mI r bs k), frq (mW r bs k), .int (mP bs k), frq (mS bs k)]
theorem rows_eq {r : Ds} {bs : List Ds} : D.tup [frq r.i, frq r.w, .int (-1), .tup [.int 0, .int 1]] :: bs.map (fun b => D.tup [frq b.i, frq b.w, .int (b.p : Int), frq b.s]) = (List.range (bs.length + 1)).map (rw4 r bs) := by
  rw [List.range_succ_eq_map, List.map_cons, List.map_map]
  congr 1
  refine List.ext_getElem? fun k => ?_
  rw [List.getElem?_map, List.getElem?_map]
  rcases Nat.lt_or_ge k bs.length with h | h
  · rw [List.getElem?_range h, List.getElem?_eq_getElem h]
    show some _ = some (D.tup [frq (bs[k]?.getD ⟨0, 0, 0, 0, 0⟩).i, frq (bs[k]?.getD ⟨0, 0, 0, 0, 0⟩).w, .int ((bs[k]?.getD ⟨0, 0, 0, 0, 0⟩).p : Int), frq (bs[k]?.getD ⟨0, 0, 0, 0, 0⟩).s])
    rw [List.getElem?_eq_getElem h]; rfl
  · rw [List.getElem?_eq_none h, List.getElem?_eq_none (by simpa using h)]; rfl
/-- a number times the common denominator -/
def wq (F : Int) (q : Rat) : Int := q.num * (F / (q.den : Int))
theorem wq_v {F : Int} {q : Rat} (h : (q.den : Int) ∣ F) : ((wq F q : Int) : Rat) = (F : Rat) * q := by
  obtain ⟨k, hk⟩ := frq_big (q := q)
  have e := whole_v hk h
  rw [frq_v] at e
  exact e
def rwI (F : Int) (r : Ds) (bs : List Ds) (k : Nat) : D := .tup [.int (wq F (mI r bs k)), .int (wq F (mW r bs k)), .int (mP bs k), .int (wq F (mS bs k))]
theorem lcm4 {S : Sto} {f a b c : Int} {A : Nat} (f0 : 0 < f) (a0 : 0 < a) (b0 : 0 < b) (c0 : 0 < c) (hf : Bd A f) {q : Nat} (ha : Bd q a) (hb : Bd q b) (hc : Bd q c) (hA : A + 3 * q ≤ 12900) :
    ∃ L : Int, fnE .lcm [.int f, .int a, .int b, .int c] S = .ok (.int L) S ∧ 0 < L ∧ f ∣ L ∧ a ∣ L ∧ b ∣ L ∧ c ∣ L ∧ Bd (A + 3 * q) L := by
  have k : ∀ {n : Nat} {z : Int}, Bd n z → n ≤ 13000 → lcmOk z.natAbs = true := fun {n z} h hn => decide_eq_true (Nat.lt_of_lt_of_le h (Nat.pow_le_pow_right (by decide) hn))
  obtain ⟨l0, l1, l2⟩ := lcm_facts f0 a0
  have lb : Bd (A + q) ((Nat.lcm f.natAbs a.natAbs : Nat) : Int) := by
    unfold Bd; rw [Int.natAbs_natCast]; exact lcmBd hf ha
  obtain ⟨m0, m1, m2⟩ := lcm_facts l0 b0
  have mb : Bd (A + q + q) ((Nat.lcm ((Nat.lcm f.natAbs a.natAbs : Nat) : Int).natAbs b.natAbs : Nat) : Int) := by
    unfold Bd; rw [Int.natAbs_natCast]; exact lcmBd lb hb
  obtain ⟨n0, n1, n2⟩ := lcm_facts m0 c0
  have nb : Bd (A + q + q + q) ((Nat.lcm ((Nat.lcm ((Nat.lcm f.natAbs a.natAbs : Nat) : Int).natAbs b.natAbs : Nat) : Int).natAbs c.natAbs : Nat) : Int) := by
    unfold Bd; rw [Int.natAbs_natCast]; exact lcmBd mb hc
  rw [Int.natAbs_natCast] at m0 m1 m2 mb
  rw [Int.natAbs_natCast, Int.natAbs_natCast] at n0 n1 n2 nb
  refine ⟨_, ?_, n0, Int.dvd_trans l1 (Int.dvd_trans m1 n1), Int.dvd_trans l2 (Int.dvd_trans m1 n1), Int.dvd_trans m2 n1, n2, nb.mono (by omega)⟩
  show (if lcmOk f.natAbs && lcmOk a.natAbs && lcmOk b.natAbs && lcmOk c.natAbs && lcmOk (f.natAbs.lcm a.natAbs) && lcmOk ((f.natAbs.lcm a.natAbs).lcm b.natAbs) then Res.ok (D.int ((((Nat.lcm f.natAbs a.natAbs).lcm b.natAbs).lcm c.natAbs : Nat) : Int)) S else .no) = _
  have o1 := k lb (by omega)
  have o2 := k mb (by omega)
  rw [Int.natAbs_natCast] at o1 o2
  rw [k hf (by omega), k ha (by omega), k hb (by omega), k hc (by omega), o1, o2]; rfl
theorem t_made_whole {n : Nat} (hn : 1 ≤ n) {a e : Nat} {r : Ds} {bs : List Ds} {S : Sto} (h : Mac a e r bs) (ha : a ≤ 100) (a1 : 1 ≤ a) : wp ((P n).call 20 [maD r bs] S) fun d S' => Ext S S' ∧ ∃ (l : Nat) (F : Int), d = .tup [.ref l, .int F] ∧ 0 < F ∧ Bd (1 + 5 * (3 * a)) F ∧ S'[l]? = some (.lst ((List.range (bs.length + 1)).map (rwI F r bs))) ∧ ∀ k, k < bs.length + 1 → ((mI r bs k).den : Int) ∣ F ∧ ((mW r bs k).den : Int) ∣ F ∧ ((mS bs k).den : Int) ∣ F := by
  obtain ⟨m, rfl, hm⟩ := up hn
  obtain ⟨c, hc⟩ : ∃ c, c = 3 * a := ⟨_, rfl⟩
  rw [← hc]
  rw [cP m 20 b20 rfl]
  refine wp_run rfl ?_
  show wp (evSs (P m) b20.body [some (maD r bs), none, none, none, none, none, none, none, none, none, none] S) _
  have l4 := h.len
  have x0 : ∀ {S : Sto}, ixE S (maD r bs) (.int 0) = some (rtD r) := fun {S} => by
    show L2.atI (rtD r :: bs.map brD) 0 = _
    rw [show (0 : Int) = ((0 : Nat) : Int) from rfl, atI_n (by simp)]; rfl
  have sl : ∀ {S : Sto}, slE (maD r bs) (some 1) none S = .ok (.tup (bs.map brD)) S := fun {S} => by
    show Res.ok (D.tup (cutD (rtD r :: bs.map brD) (some 1) none)) S = _
    rw [cut_from1]; rfl
  have y0 : ∀ {S : Sto}, ixE S (rtD r) (.int 0) = some (frq r.i) := fun {S} => rfl
  have y1 : ∀ {S : Sto}, ixE S (rtD r) (.int 1) = some (frq r.w) := fun {S} => rfl
  unfold b20
  rw [wp_sC, wp_asg, wp_bin]
  simp_all_arith [x0, y0, y1, negE]
  have n1 := at_new (A := S) (c := .lst [.tup [frq r.i, frq r.w, .int (-1), .tup [.int 0, .int 1]]])
  have e1 : Ext S (S ++ [Mini.Cl.lst [.tup [frq r.i, frq r.w, .int (-1), .tup [.int 0, .int 1]]]]) := .one
  generalize (S ++ [Mini.Cl.lst [.tup [frq r.i, frq r.w, .int (-1), .tup [.int 0, .int 1]]]]) = S1 at n1 e1 ⊢
  have lS := ext_len e1
  refine comp_fm (g := fun d => some (match d with | .tup [i, w, p, s, _] => .tup [i, w, p, s] | _ => .non)) (xs := bs.map brD) (by rw [List.length_map]; have := fuelBig (m := m) (n := bs.length) (by omega); omega) (by rw [List.length_map]; omega) (it_tup ?_) (fun d hd S' e => bodyC_pure ?_) fun A t e => ?_
  · simp_all_arith [wp_sl, wp_oN, wp_oS, partI, sl]
    exact ⟨trivial, .refl⟩
  · obtain ⟨b, hb, rfl⟩ := List.mem_map.mp hd
    simp only [wipeL, List.foldl_cons, List.foldl_nil, List.set_cons_zero, List.set_cons_succ]
    have s4 : slE (brD b) none (some 4) S' = .ok (.tup [frq b.i, frq b.w, .int (b.p : Int), frq b.s]) S' := rfl
    simp_arith [wp_sl, wp_oN, wp_oS, partI, s4]
    exact ⟨by first | rfl | trivial, .refl⟩
  · rw [fm_map, List.map_map]
    have em : bs.map ((fun (d : D) => match d with | .tup [i, w, p, s, _] => D.tup [i, w, p, s] | _ => .non) ∘ brD) = bs.map (fun b => D.tup [frq b.i, frq b.w, .int (b.p : Int), frq b.s]) := List.map_congr_left fun b _ => rfl
    rw [em]
    have n1' := e.get n1
    have lA := ext_len e
    have e3 : Ext S1 (A ++ Mini.Cl.lst (bs.map fun b => D.tup [frq b.i, frq b.w, .int (b.p : Int), frq b.s]) :: t) := e.trans ⟨_, rfl⟩
    have h1 := e3.get n1
    have h2 : (A ++ Mini.Cl.lst (bs.map fun b => D.tup [frq b.i, frq b.w, .int (b.p : Int), frq b.s]) :: t)[A.length]? = some (.lst (bs.map fun b => D.tup [frq b.i, frq b.w, .int (b.p : Int), frq b.s])) := by simp
    have ct := bin_catL (lst_c h1) (lst_c h2) (by simp; omega)
    have er : [D.tup [frq r.i, frq r.w, .int (-1), .tup [.int 0, .int 1]]] ++ bs.map (fun b => D.tup [frq b.i, frq b.w, .int (b.p : Int), frq b.s]) = (List.range (bs.length + 1)).map (rw4 r bs) := rows_eq
    rw [er] at ct
    rw [ct, wp_ok]
    have e4 : Ext S ((A ++ Mini.Cl.lst (bs.map fun b => D.tup [frq b.i, frq b.w, .int (b.p : Int), frq b.s]) :: t) ++ [Mini.Cl.lst ((List.range (bs.length + 1)).map (rw4 r bs))]) := (e1.trans e3).trans .one
    have n4 := at_new (A := A ++ Mini.Cl.lst (bs.map fun b => D.tup [frq b.i, frq b.w, .int (b.p : Int), frq b.s]) :: t) (c := .lst ((List.range (bs.length + 1)).map (rw4 r bs)))
    have l4' := ext_len (e1.trans e3)
    generalize ((A ++ Mini.Cl.lst (bs.map fun b => D.tup [frq b.i, frq b.w, .int (b.p : Int), frq b.s]) :: t) ++ [Mini.Cl.lst ((List.range (bs.length + 1)).map (rw4 r bs))]) = S4 at e4 n4 ⊢
    generalize (A ++ Mini.Cl.lst (bs.map fun b => D.tup [frq b.i, frq b.w, .int (b.p : Int), frq b.s]) :: t).length = q1 at n4 l4' ⊢
    rw [fl_nx, wp_sC]
    rw [wp_asg, wp_con]
    simp only [wp_gn, List.set_cons_zero, List.set_cons_succ]
    rw [fl_nx, wp_sC]
    rw [wp_for, wp_iv]
    simp_all_arith [wp_ok]
    refine ⟨_, src_ref n4, ?_⟩
    have fu : ((List.range (bs.length + 1)).map (rw4 r bs)).length < (P m).fuel := by
      rw [List.length_map, List.length_range]
      exact fuelBig (by omega)
    refine for_calm (xs := (List.range (bs.length + 1)).map (rw4 r bs)) (fun k ρ' => ∃ (d4 d5 d6 d7 : Option D) (F : Int), ρ' = [some (maD r bs), some (.ref q1), some (.int F), none, d4, d5, d6, d7, none, none, none] ∧ 0 < F ∧ Bd (1 + k * c) F ∧ ∀ j, j < k → ((mI r bs j).den : Int) ∣ F ∧ ((mW r bs j).den : Int) ∣ F ∧ ((mS bs j).den : Int) ∣ F) n4 fu ⟨_, _, _, _, 1, rfl, by decide, by rw [Nat.zero_mul]; exact Bd.one, fun j hj => by omega⟩ ?_ ?_
    · rintro k ρ' d ⟨d4, d5, d6, d7, F, rfl, F0, bF, hF⟩ hd
      have hk : k < bs.length + 1 := by
        have := (List.getElem?_eq_some_iff.mp hd).1
        simpa using this
      rw [List.getElem?_map, List.getElem?_range hk] at hd
      cases hd
      have z := h.mz a1 hk
      have kk := Nat.mul_le_mul_right c (show k ≤ 4 by omega)
      obtain ⟨L, eL, L0, L1, L2, L3, L4, bL⟩ := lcm4 (S := S4) F0 den0 den0 den0 bF z.i.1.bd z.w.1.bd z.s.1.bd (by omega)
      have w1 : ∀ {S : Sto} {q : Rat}, ixE S (frq q) (.int 1) = some (.int (q.den : Int)) := fun {S q} => rfl
      simp only [wp_bind]
      simp_all_arith [wp_gt, rw4, seqD, List.length_cons, List.length_nil, wp_gsC, wp_gsN, if_true]
      rw [wp_sC]
      have eL' : fnE .lcm [.int F, .int ((mI r bs k).den : Int), .int ((mW r bs k).den : Int), .int ((mS bs k).den : Int)] S4 = .ok (.int L) S4 := eL
      simp_all_arith [w1, eL']
      simp only [fl_nx, wp_sN, wp_ok]
      refine ⟨trivial, _, by first | rfl | trivial, _, _, _, _, L, by first | rfl | trivial, L0, bL.mono (by rw [Nat.add_mul, Nat.one_mul]; omega), fun j hj => ?_⟩
      rcases Nat.lt_or_ge j k with q | q
      · obtain ⟨p1, p2, p3⟩ := hF j q
        exact ⟨Int.dvd_trans p1 L1, Int.dvd_trans p2 L1, Int.dvd_trans p3 L1⟩
      · rw [show j = k by omega]
        exact ⟨L2, L3, L4⟩
    · rintro ρ' ⟨d4, d5, d6, d7, F, rfl, F0, bF, hF⟩
      rw [List.length_map, List.length_range] at bF hF
      have bF : Bd (1 + 5 * c) F := bF.mono (by
        have := Nat.mul_le_mul_right c (show bs.length + 1 ≤ 5 by omega)
        omega)
      rw [fl_nx, wp_sC]
      simp_all_arith [wp_ok]
      have no := at_new (A := S4) (c := .lst [])
      have e5 : Ext S4 (S4 ++ [Mini.Cl.lst []]) := .one
      have n5 := e5.get n4
      have l5 := ext_len e4
      have q1l := (List.getElem?_eq_some_iff.mp n4).1
      have e05 := e4.trans e5
      generalize (S4 ++ [Mini.Cl.lst []]) = S5 at no n5 e05 ⊢
      generalize S4.length = out at no l5 q1l ⊢
      rw [fl_nx, wp_sC]
      rw [wp_for, wp_iv]
      simp_all_arith [wp_ok]
      refine ⟨_, src_ref n5, ?_⟩
      refine forN_wp ((List.range (bs.length + 1)).map (rw4 r bs)) (fun k S' ρ' => ∃ (d4 d5 d6 d7 d8 d9 d10 : Option D), ρ' = [some (maD r bs), some (.ref q1), some (.int F), some (.ref out), d4, d5, d6, d7, d8, d9, d10] ∧ S'[q1]? = some (.lst ((List.range (bs.length + 1)).map (rw4 r bs))) ∧ S'[out]? = some (.lst ((List.range k).map (rwI F r bs))) ∧ Chg out S5 S')
        (fun k S' ρ' ⟨_, _, _, _, _, _, _, _, h, _⟩ => srcR_of h) ?_ ?_ _ 0 _ _ (Nat.zero_le _) (by omega) ⟨_, _, _, _, _, _, _, rfl, n5, no, .refl⟩
      · rintro k S' ρ' d ⟨d4, d5, d6, d7, d8, d9, d10, rfl, h1, h2, g⟩ hd
        have hk : k < bs.length + 1 := by
          have := (List.getElem?_eq_some_iff.mp hd).1
          simpa using this
        rw [List.getElem?_map, List.getElem?_range hk] at hd
        cases hd
        have z := h.mz a1 hk
        simp only [wp_bind]
        simp_all_arith [wp_gt, rw4, seqD, List.length_cons, List.length_nil, wp_gsC, wp_gsN, if_true]
        rw [wp_sC, wp_asg]
        have fb3 : ∀ d ∈ [frq (mI r bs k), frq (mW r bs k), frq (mS bs k)], ∃ q, d = frq q ∧ Rb a q := fun d hd => by
          simp only [List.mem_cons, List.not_mem_nil, or_false] at hd
          rcases hd with rfl | rfl | rfl
          · exact ⟨_, rfl, z.i.1⟩
          · exact ⟨_, rfl, z.w.1⟩
          · exact ⟨_, rfl, z.s.1⟩
        refine comp_fm (g := fun d => some (.int (wq F (v d)))) (xs := [frq (mI r bs k), frq (mW r bs k), frq (mS bs k)]) (by have := fuelBig (m := m) (n := 3) (by omega); simpa using this) (by simp) (it_tup ?_) (fun d hd S' e => bodyC_pure ?_) fun A t e => ?_
        · simp_all_arith [wp_ok]
          exact ⟨trivial, .refl⟩
        · obtain ⟨q, rfl, hq⟩ := fb3 d hd
          simp only [wipeL, List.foldl_cons, List.foldl_nil, List.set_cons_zero, List.set_cons_succ]
          have w0 : ∀ {S : Sto} {q : Rat}, ixE S (frq q) (.int 0) = some (.int q.num) := fun {S q} => rfl
          have w1 : ∀ {S : Sto} {q : Rat}, ixE S (frq q) (.int 1) = some (.int (q.den : Int)) := fun {S q} => rfl
          have bq : Bd a q.num := hq.bn
          have bd : Bd a (q.den : Int) := hq.bd
          simp_all_arith [w0, w1, big_div (den0 (q := q)) bd (by omega), big_mul bq (bF.le (Int.natAbs_ediv_le_natAbs F (q.den : Int))) (by omega)]
          rw [frq_v]
          exact ⟨rfl, .refl⟩
        · have e9 : ([frq (mI r bs k), frq (mW r bs k), frq (mS bs k)] : List D).filterMap (fun d => some (D.int (wq F (v d)))) = [D.int (wq F (mI r bs k)), D.int (wq F (mW r bs k)), D.int (wq F (mS bs k))] := by
            simp only [List.filterMap_cons, List.filterMap_nil, frq_v]
          rw [e9]
          have e3 : Ext S' (A ++ Mini.Cl.lst [.int (wq F (mI r bs k)), .int (wq F (mW r bs k)), .int (wq F (mS bs k))] :: t) := e.trans ⟨_, rfl⟩
          have n9 : (A ++ Mini.Cl.lst [.int (wq F (mI r bs k)), .int (wq F (mW r bs k)), .int (wq F (mS bs k))] :: t)[A.length]? = some (.lst [.int (wq F (mI r bs k)), .int (wq F (mW r bs k)), .int (wq F (mS bs k))]) := by simp
          have h1' := e3.get h1
          have h2' := e3.get h2
          have g' := g.trans e3.chg
          generalize (A ++ Mini.Cl.lst [.int (wq F (mI r bs k)), .int (wq F (mW r bs k)), .int (wq F (mS bs k))] :: t) = S6 at n9 h1' h2' g' ⊢
          generalize A.length = q9 at n9 ⊢
          have y0 : ixE S6 (.ref q9) (.int 0) = some (.int (wq F (mI r bs k))) := by rw [ix_c n9]; rfl
          have y1 : ixE S6 (.ref q9) (.int 1) = some (.int (wq F (mW r bs k))) := by rw [ix_c n9]; rfl
          have y2 : ixE S6 (.ref q9) (.int 2) = some (.int (wq F (mS bs k))) := by rw [ix_c n9]; rfl
          simp only [wp_gn, List.set_cons_zero, List.set_cons_succ]
          rw [fl_nx, wp_sC]
          simp_all_arith [y0, y1, y2, wp_me, isL_c h2', if_true, app_c h2' (show ((List.range k).map (rwI F r bs)).length ≤ 1000 by rw [List.length_map, List.length_range]; omega)]
          simp only [fl_nx, wp_sN, wp_ok]
          refine ⟨_, _, _, _, _, _, _, rfl, by rw [List.getElem?_set_ne (by omega)]; exact h1', ?_, g'.trans (Chg.set h2')⟩
          rw [at_set h2', ← map_sn]; rfl
      · rintro S' ρ' ⟨d4, d5, d6, d7, d8, d9, d10, rfl, h1, h2, g⟩
        rw [List.length_map, List.length_range] at h2
        rw [fl_nx, wp_sC]
        simp_all_arith [wp_ok]
        exact ⟨chg_ext (e05.chg.trans g) l5, out, F, rfl, F0, bF, h2, hF⟩
end K74
namespace K74
open PySem Mini
/-- an amount, small -/
def Am (k : Nat) (d : D) : Prop := Fb k d ∧ 0 < num d
def Pa (k : Nat) (d : D) : Prop := Fb k d ∧ 0 ≤ num d
theorem Am.mono {j k : Nat} {d : D} (h : Am j d) (hk : j ≤ k) : Am k d := ⟨h.1.mono hk, h.2⟩
theorem Pa.mono {j k : Nat} {d : D} (h : Pa j d) (hk : j ≤ k) : Pa k d := ⟨h.1.mono hk, h.2⟩
theorem Pa.zero {k : Nat} (hk : 1 ≤ k) : Pa k (.tup [.int 0, .int 1]) := ⟨fz_fb.mono hk, Int.le_refl 0⟩
/-- the shafts of a line of n discs -/
def Shf (n : Nat) (ys : List D) : Prop := ys.length = n + 1 ∧ (∀ y ∈ ys, Pa 4 y) ∧ ∀ i y, ys[i]? = some y → 0 < i → i < n → 0 < num y
theorem Shf.set {n : Nat} {ys : List D} {i : Nat} {d : D} (h : Shf n ys) (hi : i = 0 ∨ i = n) (hd : Pa 4 d) : Shf n (ys.set i d) := by
  refine ⟨by rw [List.length_set]; exact h.1, fun y hy => ?_, fun q y hq q0 qn => ?_⟩
  · rcases List.mem_or_eq_of_mem_set hy with hy | rfl
    · exact h.2.1 y hy
    · exact hd
  · rw [List.getElem?_set_ne (by omega)] at hq
    exact h.2.2 q y hq q0 qn
/-! ### polynomials at a place -/
def rp (x : Rat) : Nat → Rat
  | 0 => 1
  | k + 1 => x * rp x k
theorem hor_lin {zs xs ys : List Int} {a b : Rat} (h : ∀ i, (coef zs i : Rat) = a * (coef xs i : Rat) + b * (coef ys i : Rat)) (x : Rat) : hor zs x = a * hor xs x + b * hor ys x := by
  have h1 : zs.length ≤ max zs.length (max xs.length ys.length) := Nat.le_max_left ..
  have h2 : xs.length ≤ max zs.length (max xs.length ys.length) := Nat.le_trans (Nat.le_max_left ..) (Nat.le_max_right ..)
  have h3 : ys.length ≤ max zs.length (max xs.length ys.length) := Nat.le_trans (Nat.le_max_right ..) (Nat.le_max_right ..)
  generalize max zs.length (max xs.length ys.length) = n at h1 h2 h3
  rw [hor_hs h1, hor_hs h2, hor_hs h3, ← hs_lin]
  exact hs_ext fun i _ => h i
theorem hor_tim {zs xs : List Int} {f : Int} (h : ∀ i, coef zs i = coef xs i * f) (x : Rat) : hor zs x = (f : Rat) * hor xs x := by
  rw [hor_lin (zs := zs) (xs := xs) (ys := xs) (a := (f : Rat)) (b := 0) (fun i => by rw [h i, Rat.intCast_mul]; grind) x]
  grind
theorem hor_eqc {xs ys : List Int} (h : ∀ i, coef xs i = coef ys i) (x : Rat) : hor xs x = hor ys x := by
  rw [hor_lin (zs := xs) (xs := ys) (ys := ys) (a := 1) (b := 0) (fun i => by rw [h i]; grind) x]
  grind
theorem hor_take {xs : List Int} {x : Rat} : ∀ {i : Nat} {c : Int}, xs[i]? = some c → hor (xs.take (i + 1)) x = hor (xs.take i) x + (c : Rat) * rp x i := by
  induction xs with
  | nil => intro i c h; simp at h
  | cons a r ih =>
    intro i c h
    cases i with
    | zero =>
      have : a = c := by simpa using h
      subst this
      show (a : Rat) + x * 0 = 0 + (a : Rat) * 1
      grind
    | succ i =>
      have h2 : r[i]? = some c := by simpa using h
      show (a : Rat) + x * hor (r.take (i + 1)) x = ((a : Rat) + x * hor (r.take i) x) + (c : Rat) * (x * rp x i)
      rw [ih h2]
      grind
theorem hor_set {x : Rat} {v : Int} : ∀ {zs : List Int} {k : Nat}, k < zs.length → hor (zs.set k (coef zs k + v)) x = hor zs x + (v : Rat) * rp x k
  | [], k, h => by simp at h
  | a :: r, 0, _ => by
    show ((a + v : Int) : Rat) + x * hor r x = ((a : Rat) + x * hor r x) + (v : Rat) * 1
    rw [Rat.intCast_add]; grind
  | a :: r, k + 1, h => by
    have e : coef (a :: r) (k + 1) = coef r k := coef_s
    rw [e]
    show (a : Rat) + x * hor (r.set k (coef r k + v)) x = ((a : Rat) + x * hor r x) + (v : Rat) * (x * rp x k)
    rw [hor_set (by simpa using h)]; grind
theorem coef_set {zs : List Int} {k i : Nat} {v : Int} (h : k < zs.length) : coef (zs.set k v) i = if i = k then v else coef zs i := by
  unfold coef
  rw [List.getD_eq_getElem?_getD, List.getD_eq_getElem?_getD]
  by_cases e : i = k
  · subst e
    rw [if_pos rfl, List.getElem?_set_self h]; rfl
  · rw [if_neg e, List.getElem?_set_ne (Ne.symm e)]
theorem hor_zeros {x : Rat} : ∀ n, hor (List.replicate n 0) x = 0
  | 0 => rfl
  | n + 1 => by
    show ((0 : Int) : Rat) + x * hor (List.replicate n 0) x = 0
    rw [hor_zeros n]; grind
theorem ip_set {zs : List Int} {k : Nat} {v : Int} : (ip zs).set k (.int v) = ip (zs.set k v) := by
  unfold ip
  rw [List.map_set]
theorem gt_ip {xs : List Int} {i : Nat} (h : i < xs.length) : gt (ip xs) i = .int (coef xs i) := by
  unfold gt
  rw [ip_get, List.getElem?_eq_getElem h]
  show D.int _ = _
  congr 1
  exact (coef_get (List.getElem?_eq_getElem h)).symm
theorem get_coef {xs : List Int} {i : Nat} (h : i < xs.length) : xs[i]? = some (coef xs i) := by
  rw [List.getElem?_eq_getElem h, coef_get (List.getElem?_eq_getElem h)]
theorem set_set' {S : Sto} {l : Nat} {a b : Mini.Cl} : (S.set l a).set l b = S.set l b := List.set_set ..
theorem rep_ip : ∀ q : Nat, (List.replicate q [D.int 0]).flatten = ip (List.replicate q 0)
  | 0 => rfl
  | q + 1 => by rw [List.replicate_succ, List.flatten_cons, rep_ip q]; rfl
theorem t_multiplied {n : Nat} (hn : 2 ≤ n) {xs ys : List Int} {j q a b : Nat} {S : Sto} (hx : Pz a j xs) (hy : Pz b q ys) (hj : j ≤ 40) (hq : q ≤ 40) (hb : a + b ≤ 90000) :
    wp ((P n).call 13 [tp xs, tp ys] S) fun r S' => Ext S S' ∧ ∃ zs, r = tp zs ∧ Pz (a + b + j * q) (j + q) zs ∧ ∀ x, hor zs x = hor xs x * hor ys x := by
  obtain ⟨m, rfl, hm⟩ := up hn
  rw [cP m 13 b13 rfl]
  refine wp_run rfl ?_
  show wp (evSs (P m) b13.body [some (tp xs), some (tp ys), none, none, none, none, none] S) _
  have lx := hx.len
  have ly := hy.len
  have fm := fuelBig (m := m) (n := xs.length + ys.length) (by omega)
  have jq : xs.length * ys.length ≤ j * q := Nat.mul_le_mul lx ly
  simp_arith [b13, fn_len, ip_len, bin_add, bin_repL (lst_c (at_new (A := S) (c := .lst [.int 0]))) (show (0 : Int) ≤ (xs.length : Int) + (ys.length : Int) by omega) (show (xs.length : Int) + (ys.length : Int) ≤ 1000 by omega) (show [D.int 0].length ≤ 50 by decide)]
  rw [show ((xs.length : Int) + (ys.length : Int)).toNat = xs.length + ys.length by omega, rep_ip]
  have hl : (S ++ [Mini.Cl.lst [.int 0]] ++ [Mini.Cl.lst (ip (List.replicate (xs.length + ys.length) 0))])[(S ++ [Mini.Cl.lst [D.int 0]]).length]? = some (.lst (ip (List.replicate (xs.length + ys.length) 0))) := at_new
  have eS : Ext S (S ++ [Mini.Cl.lst [.int 0]]) := .one
  have hS : Ext (S ++ [Mini.Cl.lst [.int 0]]) (S ++ [Mini.Cl.lst [.int 0]] ++ [Mini.Cl.lst (ip (List.replicate (xs.length + ys.length) 0))]) := .one
  generalize (S ++ [Mini.Cl.lst [.int 0]]) = T at hl hS eS ⊢
  generalize hT1 : (T ++ [Mini.Cl.lst (ip (List.replicate (xs.length + ys.length) 0))]) = T1 at hl hS ⊢
  have step : ∀ zs : List Int, T1.set T.length (.lst (ip zs)) = T ++ Mini.Cl.lst (ip zs) :: [] := fun zs => by rw [← hT1]; exact mid_set
  have hz0 : T1 = T1.set T.length (.lst (ip (List.replicate (xs.length + ys.length) 0))) := by rw [step]; exact hT1.symm
  rw [wp_for, wp_ie, wp_var]
  refine ⟨_, rfl, _, rfl, ?_⟩
  refine forN_wp (enL (ip xs)) (fun i S' ρ' => ∃ zs d3 d4 d5 d6, ρ' = [some (tp xs), some (tp ys), some (.ref T.length), d3, d4, d5, d6] ∧ S' = T1.set T.length (.lst (ip zs)) ∧ zs.length = xs.length + ys.length ∧ (∀ k, Bd (a + b + i * ys.length) (coef zs k)) ∧ ∀ x, hor zs x = hor (xs.take i) x * hor ys x)
    (fun _ _ _ _ => enL_src) ?_ ?_ _ 0 _ _ (Nat.zero_le _) (by rw [enL_len, ip_len]; omega) ?_
  · rintro i S' ρ' d ⟨zs, d3, d4, d5, d6, rfl, rfl, lz, bz, hz⟩ hd
    obtain ⟨hi, rfl⟩ := enL_get hd
    rw [ip_len] at hi
    rw [gt_ip hi]
    have bx := hx.bd i
    simp_arith [wp_bind, wp_gt, seqD, List.length_cons, List.length_nil, if_true, wp_gsC, wp_gsN]
    rw [wp_for, wp_ie, wp_var]
    refine ⟨_, rfl, _, rfl, ?_⟩
    refine forN_wp (enL (ip ys)) (fun k S' ρ' => ∃ us e5 e6, ρ' = [some (tp xs), some (tp ys), some (.ref T.length), some (.int (i : Int)), some (.int (coef xs i)), e5, e6] ∧ S' = T1.set T.length (.lst (ip us)) ∧ us.length = xs.length + ys.length ∧ (∀ t, Bd (a + b + i * ys.length + k) (coef us t)) ∧ ∀ x, hor us x = hor (xs.take i) x * hor ys x + (coef xs i : Rat) * rp x i * hor (ys.take k) x)
      (fun _ _ _ _ => enL_src) ?_ ?_ _ 0 _ _ (Nat.zero_le _) (by rw [enL_len, ip_len]; omega) ?_
    · rintro k S' ρ' d ⟨us, e5, e6, rfl, rfl, lu, bu, hu⟩ hd
      obtain ⟨hk, rfl⟩ := enL_get hd
      rw [ip_len] at hk
      rw [gt_ip hk]
      have by' := hy.bd k
      have hT : (T1.set T.length (.lst (ip us)))[T.length]? = some (.lst (ip us)) := by
        rw [step]; simp
      have hik : i + k < us.length := by omega
      have ixl : ixL (T1.set T.length (.lst (ip us))) (.ref T.length) (.int ((i : Int) + (k : Int))) = some (.int (coef us (i + k))) := by
        show (lstAt (T1.set T.length (.lst (ip us))) T.length).bind (fun xs => L2.atI xs ((i : Int) + (k : Int))) = _
        rw [lst_c hT, show (i : Int) + (k : Int) = ((i + k : Nat) : Int) by omega]
        show L2.atI (ip us) _ = _
        rw [atI_n (by rw [ip_len]; exact hik), ip_get, get_coef hik]; rfl
      have sto : storeE (.ref T.length) (.int ((i : Int) + (k : Int))) (.int (coef us (i + k) + coef xs i * coef ys k)) (T1.set T.length (.lst (ip us))) = some (T1.set T.length (.lst (ip (us.set (i + k) (coef us (i + k) + coef xs i * coef ys k))))) := by
        rw [sto_c hT (j := i + k) (by unfold L2.ixN; rw [if_pos (by omega), if_pos (by rw [ip_len]; omega)]; exact congrArg some (by omega)), ip_set, set_set']
      simp_arith [wp_bind, wp_gt, seqD, List.length_cons, List.length_nil, if_true, wp_gsC, wp_gsN, wp_augS, bin_add, ixl, big_mul bx by' (show a + b ≤ 100000000 by omega), augE, sto, wp_sN]
      refine ⟨us.set (i + k) (coef us (i + k) + coef xs i * coef ys k), _, _, rfl, rfl, by rw [List.length_set]; exact lu, fun t => ?_, fun x => ?_⟩
      · rw [coef_set hik]
        split
        · rename_i e; subst e
          exact (((bu (i + k)).add ((bx.mul by').mono (by omega))).mono (by omega))
        · exact (bu t).mono (by omega)
      · rw [hor_set hik, hu x, hor_take (get_coef hk), Rat.intCast_mul]
        have er : ∀ (x : Rat) (i k : Nat), rp x (i + k) = rp x i * rp x k := fun x i k => by
          induction i with
          | zero => rw [Nat.zero_add]; show _ = 1 * _; grind
          | succ i ih => rw [show i + 1 + k = i + k + 1 by omega]; show x * rp x (i + k) = x * rp x i * rp x k; rw [ih]; grind
        rw [er]
        grind
    · rintro S' ρ' ⟨us, e5, e6, rfl, rfl, lu, bu, hu⟩
      rw [enL_len, ip_len] at bu hu
      refine ⟨us, _, _, _, _, rfl, rfl, lu, fun t => (bu t).mono (by rw [Nat.succ_mul]; omega), fun x => ?_⟩
      rw [hu x, List.take_length, hor_take (get_coef hi)]
      grind
    · refine ⟨zs, _, _, rfl, rfl, lz, fun t => bz t, fun x => ?_⟩
      rw [hz x]
      show _ = _ + _ * (0 : Rat)
      grind
  · rintro S' ρ' ⟨zs, d3, d4, d5, d6, rfl, rfl, lz, bz, hz⟩
    rw [enL_len, ip_len] at bz hz
    simp_arith [wp_ok]
    refine wp_mono (t_trimmed (xs := zs) (by omega) (by omega) (by rw [step]; simp)) fun r S2 ⟨er, e2⟩ => ?_
    subst er
    refine ⟨?_, trimZ zs, rfl, .trim (fun k => (bz k).mono (by omega)) (by omega), fun x => ?_⟩
    · refine eS.trans (Ext.trans ?_ e2)
      rw [step]
      exact ⟨_, rfl⟩
    · rw [hor_eqc (fun i => coef_trim) x, hz x, List.take_length]
  · refine ⟨List.replicate (xs.length + ys.length) 0, _, _, _, _, rfl, hz0, by simp, fun k => ?_, fun x => ?_⟩
    · have : coef (List.replicate (xs.length + ys.length) 0) k = 0 := by
        unfold coef
        rw [List.getD_eq_getElem?_getD, List.getElem?_replicate]
        split <;> rfl
      rw [this]; exact .zero
    · rw [hor_zeros]; show (0 : Rat) = 0 * _; grind
/-! ### runs of parts -/
def gP (a b : List Int) : Int := ((max 1 (gL (a ++ b)) : Nat) : Int)
theorem gP_pos {a b : List Int} : 0 < gP a b := by unfold gP; omega
theorem gP_dvd {a b : List Int} : (∀ i, gP a b ∣ coef a i) ∧ ∀ i, gP a b ∣ coef b i := by
  by_cases z : gL (a ++ b) = 0
  · have e : gP a b = 1 := by unfold gP; rw [z]; rfl
    rw [e]
    exact ⟨fun i => Int.one_dvd _, fun i => Int.one_dvd _⟩
  · have e : gP a b = ((gL (a ++ b) : Nat) : Int) := by unfold gP; congr 1; omega
    rw [e]
    exact ⟨fun i => (gL_app_dvd i).1, fun i => (gL_app_dvd i).2⟩
theorem gP_bd {a b : List Int} {k j : Nat} (ha : Pz k j a) (hb : Pz k j b) : Bd (k + 1) (gP a b) := by
  have one : ∀ {k : Nat}, Bd (k + 1) 1 := fun {k} => Bd.one.mono (by omega)
  by_cases c : a = []
  · by_cases d : b = []
    · subst c d
      have : gP [] [] = 1 := rfl
      rw [this]; exact one
    · exact (dvd_bd (hb.bd _) (nm_last hb.nm d) (gP_dvd.2 _)).mono (Nat.le_succ k)
  · exact (dvd_bd (ha.bd _) (nm_last ha.nm c) (gP_dvd.1 _)).mono (Nat.le_succ k)
def divD (g : Int) : D → D
  | .int x => .int (x / g)
  | _ => .non
def divT (g : Int) : D → D
  | .tup ds => .tup (ds.map (divD g))
  | _ => .non
theorem divT_tp {g : Int} {xs : List Int} : divT g (tp xs) = tp (xs.map (· / g)) := by
  show D.tup ((ip xs).map (divD g)) = _
  unfold tp ip
  rw [List.map_map, List.map_map]
  rfl
theorem gL_nil_app {xs : List Int} : gL (xs ++ []) = gL xs := by rw [List.append_nil]
theorem th_of {xs : List Int} (h : Nm xs) : Th xs (xs.map (· / gP xs [])) := by
  have gp := gP_pos (a := xs) (b := [])
  obtain ⟨d1, _⟩ := gP_dvd (a := xs) (b := [])
  obtain ⟨na, ea⟩ := nm_div h gp d1
  refine ⟨na, by simp, ?_, ⟨(gP xs [] : Rat), Rat.intCast_pos.mpr gp, hor_tim fun i => (ea i).symm⟩, fun k i hk => hk.le (by
    rw [← ea i, Int.natAbs_mul]
    exact Nat.le_mul_of_pos_right _ (by omega))⟩
  have := gL_div (a := xs) (b := [])
  rwa [List.map_nil, List.append_nil] at this
theorem t_thinned {n : Nat} (hn : 2 ≤ n) {xs : List Int} {k j : Nat} {S : Sto} (hx : Pz k j xs) (hj : j ≤ 800) (hk : k ≤ 8980) : wp ((P n).call 14 [tp xs] S) fun r S' => Ext S S' ∧ ∃ zs, r = tp zs ∧ Th xs zs := by
  obtain ⟨m, rfl, hm⟩ := up (show 1 ≤ n by omega)
  rw [cP m 14 b14 rfl]
  refine wp_run rfl ?_
  show wp (evSs (P m) b14.body [some (tp xs), none, none] S) _
  have la := hx.len
  simp_arith [b14]
  refine wp_mono (t_common (by omega) (by omega)) fun r S2 ⟨er, es⟩ => ?_
  subst er es
  simp_arith [wp_ok]
  have th := th_of hx.nm
  have gp := gP_pos (a := xs) (b := [])
  have gb := gP_bd hx (show Pz k j [] from ⟨rfl, Nat.zero_le _, fun i => by rw [coef_nil]; exact .zero⟩)
  by_cases h : ((gL xs : Nat) : Int) > 1
  · have eg : ((gL xs : Nat) : Int) = gP xs [] := by
      unfold gP
      rw [gL_nil_app]; omega
    simp only [h, decide_true, if_true]
    try simp only [wp_fn, wp_cons, wp_nil]
    refine comp_fm (g := fun d => some (divD (gP xs []) d)) (xs := ip xs) (fuelBig (by rw [ip_len]; omega)) (by rw [ip_len]; omega) (it_tup ?_) (fun d hd S3 e3 => bodyC_pure ?_) fun A t e3 => ?_
    · try simp_arith [wp_ok]
      exact ⟨trivial, .refl⟩
    · obtain ⟨x, hxm, rfl⟩ := List.mem_map.mp hd
      simp only [wipeL, List.foldl_cons, List.foldl_nil]
      simp_arith [eg, big_div gp gb (show k + 1 ≤ 8990 by omega)]
      exact ⟨rfl, .refl⟩
    · rw [fm_map, fn_tupR mid_seq, wp_ok]
      try simp only [fl_rt, ed_rt]
      refine ⟨e3.trans ⟨_, rfl⟩, _, ?_, th⟩
      exact divT_tp
  · have eg : gP xs [] = 1 := by
      unfold gP
      rw [gL_nil_app]; omega
    simp only [h, decide_false, Bool.false_eq_true, if_false]
    try simp_arith [wp_ok]
    refine ⟨.refl, xs, rfl, ?_⟩
    have e : xs.map (· / gP xs []) = xs := by rw [eg]; simp
    rwa [e] at th
end K74
namespace K74
open PySem Mini
theorem rngC_srcL {lo c : Int} {n : Nat} : rngC lo c n = srcL ((List.range n).map fun (i : Nat) => D.int (lo + (i : Int) * c)) := by
  funext i S
  unfold rngC srcL
  rw [List.getElem?_map]
  by_cases h : i < n
  · rw [if_pos h, List.getElem?_eq_getElem (by simpa using h)]
    simp
  · rw [if_neg h, List.getElem?_eq_none (by simp; omega)]
    rfl
theorem rng3_src {N : Nat} (h : N ≤ 1000) : rng3E (.int ((N : Int) - 1)) (.int (-1)) (.int (-1)) = some (srcL ((List.range N).map fun (i : Nat) => D.int ((N : Int) - 1 + (i : Int) * -1))) := by
  have h1 : inR ((N : Int) - 1) = true := by
    unfold inR
    rw [Bool.and_eq_true, decide_eq_true_eq, decide_eq_true_eq]
    omega
  have h2 : inR (-1) = true := by decide +kernel
  show (if (-1 : Int) = -1 ∧ inR ((N : Int) - 1) = true ∧ inR (-1) = true then some (rngC ((N : Int) - 1) (-1) ((N : Int) - 1 - -1).toNat) else none) = _
  rw [if_pos ⟨rfl, h1, h2⟩, show ((N : Int) - 1 - -1).toNat = N by omega, rngC_srcL]
/-! ### the program's end of a machine -/
def qI (F : Int) (f : Nat → Rat) (k : Nat) : Rat := ((wq F (f k) : Int) : Rat)
/-- the two rows of a disc's part, as the program tells them -/
structure Er (F : Int) (r : Ds) (bs : List Ds) (k : Nat) (E H : List Int) : Prop where
  pe : Pz (1400 * cntM (mP bs) (bs.length + 1) k - 680) (3 * cntM (mP bs) (bs.length + 1) k) E
  ph : Pz (1400 * cntM (mP bs) (bs.length + 1) k - 680) (3 * cntM (mP bs) (bs.length + 1) k) H
  vh : ∀ x, hor H x = (mV (qI F (mI r bs)) (qI F (mW r bs)) (qI F (mS bs)) (mP bs) (bs.length + 1) x k).1
  ve : ∀ x, hor E x = (mV (qI F (mI r bs)) (qI F (mW r bs)) (qI F (mS bs)) (mP bs) (bs.length + 1) x k).2
/-- behind some children -/
structure Ar (F : Int) (r : Ds) (bs : List Ds) (k c : Nat) (a : Rat → Rat × Rat) (H R : List Int) : Prop where
  c1 : 1 ≤ c
  c5 : c ≤ 5
  ph : Pz (1400 * c - 1360) (3 * c - 2) H
  pr : Pz (1400 * c - 1360) (3 * c - 2) R
  vh : ∀ x, hor H x = (a x).1
  vr : ∀ x, (qI F (mW r bs) k - x * qI F (mI r bs) k) * hor H x + hor R x = (a x).2
theorem hor_add {xs ys zs : List Int} (h : ∀ i, coef zs i = coef xs i + coef ys i) (x : Rat) : hor zs x = hor xs x + hor ys x := by
  have := hor_lin (zs := zs) (xs := xs) (ys := ys) (a := 1) (b := 1) (fun i => by rw [h, Rat.intCast_add]; grind) x
  rw [this]; grind
theorem Pz.mul' {a b j q : Nat} {zs : List Int} (h : Pz (a + b + j * q) (j + q) zs) (hj : j ≤ 15) (hq : q ≤ 15) : Pz (a + b + 225) (j + q) zs :=
  h.mono (by have := Nat.mul_le_mul hj hq; omega) (Nat.le_refl _)
/-- one child more: what the loop's body computes -/
theorem t_child {m : Nat} (hm : 3 ≤ m) {F s : Int} {r : Ds} {bs : List Ds} {k j c : Nat} {a : Rat → Rat × Rat} {E G H R : List Int} (hE : Er F r bs j E G) (hA : Ar F r bs k c a H R) (c5 : c + cntM (mP bs) (bs.length + 1) j ≤ 5) (cj : 1 ≤ cntM (mP bs) (bs.length + 1) j) (hs : Bd 450 s) (es : (s : Rat) = qI F (mS bs) j) :
    (∀ S : Sto, wp ((P m).call 12 [tp G, .int s] S) fun d S1 => wp ((P m).call 11 [tp E, d] S1) fun st S2 => Ext S S2 ∧ ∃ T, st = tp T ∧
      (∀ S2 : Sto, wp ((P m).call 13 [tp R, tp T] S2) fun d1 S3 => Ext S2 S3 ∧ wp ((P m).call 13 [tp E, tp H] S3) fun d2 S4 => wp ((P m).call 12 [d2, .int s] S4) fun d3 S5 => wp ((P m).call 11 [d1, d3] S5) fun d4 S6 => Ext S3 S6 ∧ ∃ R', d4 = tp R' ∧
        ∀ S6 : Sto, wp ((P m).call 13 [tp H, tp T] S6) fun d5 S7 => Ext S6 S7 ∧ ∃ H', d5 = tp H' ∧ Ar F r bs k (c + cntM (mP bs) (bs.length + 1) j) (fun x => stV (qI F (mS bs)) j (a x) (mV (qI F (mI r bs)) (qI F (mW r bs)) (qI F (mS bs)) (mP bs) (bs.length + 1) x j)) H' R')) := by
  have c1 := hA.c1
  obtain ⟨pE, pG, vG, vE⟩ := hE
  generalize cntM (mP bs) (bs.length + 1) j = q at *
  intro S
  refine wp_mono (t_scaled (by omega) pG hs (by omega) (by omega)) fun d S1 ⟨e1, G', ed, pG', cG'⟩ => ?_
  subst ed
  have pE' := pE.mono (show 1400 * q - 680 ≤ 1400 * q - 680 + 450 by omega) (Nat.le_refl _)
  refine wp_mono (t_summed (by omega) pE' pG' (by omega)) fun st S2 ⟨e2, T, ed, pT, cT⟩ => ⟨e1.trans e2, T, ed, fun S2 => ?_⟩
  have vT : ∀ x, hor T x = hor E x + (s : Rat) * hor G x := fun x => by rw [hor_add cT, hor_tim cG']
  refine wp_mono (t_multiplied (by omega) hA.pr pT (by omega) (by omega) (by omega)) fun d1 S3 ⟨e3, A, ed, pA, vA⟩ => ?_
  subst ed
  have pA := pA.mul' (by omega) (by omega)
  refine ⟨e3, ?_⟩
  refine wp_mono (t_multiplied (by omega) pE hA.ph (by omega) (by omega) (by omega)) fun d2 S4 ⟨e4, B, ed, pB, vB⟩ => ?_
  subst ed
  have pB := pB.mul' (by omega) (by omega)
  refine wp_mono (t_scaled (by omega) pB hs (by omega) (by omega)) fun d3 S5 ⟨e5, C, ed, pC, cC⟩ => ?_
  subst ed
  have pA' := pA.mono (show _ ≤ 1400 * (c + q) - 1361 by omega) (show _ ≤ 3 * (c + q) - 2 by omega)
  have pC' := pC.mono (show _ ≤ 1400 * (c + q) - 1361 by omega) (show _ ≤ 3 * (c + q) - 2 by omega)
  refine wp_mono (t_summed (by omega) pA' pC' (by omega)) fun d4 S6 ⟨e6, R', ed, pR', cR'⟩ => ⟨(e4.trans e5).trans e6, R', ed, fun S6 => ?_⟩
  refine wp_mono (t_multiplied (by omega) hA.ph pT (by omega) (by omega) (by omega)) fun d5 S7 ⟨e7, H', ed, pH', vH'⟩ => ?_
  have pH' := pH'.mul' (by omega) (by omega)
  refine ⟨e7, H', ed, ⟨by omega, c5, pH'.mono (by omega) (by omega), pR'.mono (by omega) (by omega), fun x => ?_, fun x => ?_⟩⟩
  · show hor H' x = (a x).1 * ((mV (qI F (mI r bs)) (qI F (mW r bs)) (qI F (mS bs)) (mP bs) (bs.length + 1) x j).2 + qI F (mS bs) j * (mV (qI F (mI r bs)) (qI F (mW r bs)) (qI F (mS bs)) (mP bs) (bs.length + 1) x j).1)
    rw [vH', vT, hA.vh, vE, vG, es]
  · show (qI F (mW r bs) k - x * qI F (mI r bs) k) * hor H' x + hor R' x = (a x).2 * ((mV (qI F (mI r bs)) (qI F (mW r bs)) (qI F (mS bs)) (mP bs) (bs.length + 1) x j).2 + qI F (mS bs) j * (mV (qI F (mI r bs)) (qI F (mW r bs)) (qI F (mS bs)) (mP bs) (bs.length + 1) x j).1) + (a x).1 * (qI F (mS bs) j * (mV (qI F (mI r bs)) (qI F (mW r bs)) (qI F (mS bs)) (mP bs) (bs.length + 1) x j).2)
    rw [vH', hor_add cR', vA, hor_tim cC, vB, vT, ← hA.vr, ← hA.vh, ← vE, ← vG, ← es]
    grind
theorem enum_ref {S : Sto} {l i : Nat} {xs : List D} (h : S[l]? = some (.lst xs)) : enumS (srcR l) i S = srcL (enL xs) i S := by
  have e : enumS (srcR l) i S = enumS (srcL xs) i S := by
    show (match srcR l i S with
      | .item a => Stp.item (.tup [.int (i : Int), a])
      | .stop => Stp.stop
      | .bad => Stp.bad) = (match srcL xs i S with
      | .item a => Stp.item (.tup [.int (i : Int), a])
      | .stop => Stp.stop
      | .bad => Stp.bad)
    rw [srcR_of h]
  rw [e, enL_src]
set_option maxHeartbeats 1000000 in
theorem t_ends_in {n : Nat} (hn : 4 ≤ n) {F : Int} {r : Ds} {bs : List Ds} {l : Nat} {S : Sto} (l4 : bs.length ≤ 4) (hp : ∀ j, j < bs.length + 1 → mP bs j < (j : Int)) (bI : ∀ k, k < bs.length + 1 → Bd 450 (wq F (mI r bs k)) ∧ Bd 450 (wq F (mW r bs k)) ∧ Bd 450 (wq F (mS bs k))) (hl : S[l]? = some (.lst ((List.range (bs.length + 1)).map (rwI F r bs)))) :
    wp ((P n).call 21 [.ref l] S) fun d S' => Ext S S' ∧ ∃ E H : List Int, d = .tup [tp E, tp H] ∧ Er F r bs 0 E H := by
  obtain ⟨m, rfl, hm⟩ := up hn
  rw [cP m 21 b21 rfl]
  refine wp_run rfl ?_
  show wp (evSs (P m) b21.body [some (.ref l), none, none, none, none, none, none, none, none] S) _
  have lS := (List.getElem?_eq_some_iff.mp hl).1
  have lr : ((List.range (bs.length + 1)).map (rwI F r bs)).length = bs.length + 1 := by rw [List.length_map, List.length_range]
  have fl1 : ∀ {S' : Sto}, S'[l]? = some (.lst ((List.range (bs.length + 1)).map (rwI F r bs))) → fnE .len [.ref l] S' = .ok (.int ((bs.length + 1 : Nat) : Int)) S' := fun {S'} h => by
    rw [fn_lenR (seq_c h), lr]
  have gR : ∀ j, j < bs.length + 1 → ((List.range (bs.length + 1)).map (rwI F r bs))[j]? = some (rwI F r bs j) := fun j hj => by
    rw [List.getElem?_map, List.getElem?_range hj]; rfl
  have rp := fun {q : Nat} {S' : Sto} (h : S'[q]? = some (Mini.Cl.lst [D.tup []])) => bin_repL (lst_c h) (show (0 : Int) ≤ ((bs.length + 1 : Nat) : Int) by omega) (show ((bs.length + 1 : Nat) : Int) ≤ 1000 by omega) (show [D.tup []].length ≤ 50 by decide)
  simp only [Int.toNat_natCast, rep_flat] at rp
  unfold b21
  rw [wp_sC, wp_par, wp_cons, wp_bin, wp_lst, wp_cons]
  simp_all_arith [wp_ok]
  have h1 := (Ext.one (c := Mini.Cl.lst [D.tup []])).get hl
  simp_all_arith [fl1 h1, rp at_new]
  have h2 := (Ext.one (c := Mini.Cl.lst [D.tup []])).get ((Ext.one (c := Mini.Cl.lst (List.replicate (bs.length + 1) (D.tup [])))).get h1)
  simp_all_arith [fl1 h2, rp at_new]
  have n1 : (S ++ [Mini.Cl.lst [D.tup []]] ++ [Mini.Cl.lst (List.replicate (bs.length + 1) (D.tup []))] ++ [Mini.Cl.lst [D.tup []]] ++ [Mini.Cl.lst (List.replicate (bs.length + 1) (D.tup []))])[S.length + 1]? = some (.lst (List.replicate (bs.length + 1) (D.tup []))) := by simp
  have n2 : (S ++ [Mini.Cl.lst [D.tup []]] ++ [Mini.Cl.lst (List.replicate (bs.length + 1) (D.tup []))] ++ [Mini.Cl.lst [D.tup []]] ++ [Mini.Cl.lst (List.replicate (bs.length + 1) (D.tup []))])[S.length + 3]? = some (.lst (List.replicate (bs.length + 1) (D.tup []))) := by simp
  have q1 : (S ++ [Mini.Cl.lst [D.tup []]]).length = S.length + 1 := by simp
  have q2 : (S ++ [Mini.Cl.lst [D.tup []]] ++ [Mini.Cl.lst (List.replicate (bs.length + 1) (D.tup []))] ++ [Mini.Cl.lst [D.tup []]]).length = S.length + 3 := by simp
  have e2 : Ext S (S ++ [Mini.Cl.lst [D.tup []]] ++ [Mini.Cl.lst (List.replicate (bs.length + 1) (D.tup []))] ++ [Mini.Cl.lst [D.tup []]] ++ [Mini.Cl.lst (List.replicate (bs.length + 1) (D.tup []))]) := ((Ext.one.trans .one).trans .one).trans .one
  rw [q1, q2]
  generalize (S ++ [Mini.Cl.lst [D.tup []]] ++ [Mini.Cl.lst (List.replicate (bs.length + 1) (D.tup []))] ++ [Mini.Cl.lst [D.tup []]] ++ [Mini.Cl.lst (List.replicate (bs.length + 1) (D.tup []))]) = S2 at n1 n2 e2 ⊢
  clear h1 h2 q1 q2 rp
  have hl2 := e2.get hl
  rw [fl_nx, wp_sC]
  rw [wp_for, wp_i3]
  simp_all_arith [fl1 hl2, bin_sub, negE]
  refine ⟨_, rng3_src (N := bs.length + 1) (by omega), ?_⟩
  have lrg : ((List.range (bs.length + 1)).map fun (i : Nat) => D.int (((bs.length + 1 : Nat) : Int) - 1 + (i : Int) * -1)).length = bs.length + 1 := by rw [List.length_map, List.length_range]
  refine forN_wp ((List.range (bs.length + 1)).map fun (i : Nat) => D.int (((bs.length + 1 : Nat) : Int) - 1 + (i : Int) * -1)) (fun kk S' ρ' => ∃ (d1 d4 d5 d6 d7 d8 : Option D) (es hs : List D), ρ' = [some (.ref l), d1, some (.ref (S.length + 1)), some (.ref (S.length + 3)), d4, d5, d6, d7, d8] ∧ S'[S.length + 1]? = some (.lst es) ∧ S'[S.length + 3]? = some (.lst hs) ∧ es.length = bs.length + 1 ∧ hs.length = bs.length + 1 ∧ (∀ (n : Nat) x, S[n]? = some x → S'[n]? = some x) ∧
    ∀ j, bs.length + 1 - kk ≤ j → j < bs.length + 1 → ∃ E H, es[j]? = some (tp E) ∧ hs[j]? = some (tp H) ∧ Er F r bs j E H) (fun _ _ _ _ => rfl) ?_ ?_ _ 0 _ _ (Nat.zero_le _) (by rw [lrg]; have := fuelBig (m := m) (n := bs.length + 1) (by omega); omega) ⟨_, _, _, _, _, _, _, _, rfl, n1, n2, by simp, by simp, fun n x hx => e2.get hx, fun j h1 h2 => by omega⟩
  · rintro kk S' ρ' d ⟨d1, d4, d5, d6, d7, d8, es, hs, rfl, he, hh, le, lh, g, hEH⟩ hd
    have hk : kk < bs.length + 1 := by
      have := (List.getElem?_eq_some_iff.mp hd).1
      simpa using this
    rw [List.getElem?_map, List.getElem?_range hk] at hd
    cases hd
    obtain ⟨pl, hpl⟩ : ∃ pl, pl = bs.length - kk := ⟨_, rfl⟩
    have epl : (((bs.length + 1 : Nat) : Int) - 1 + (kk : Int) * -1) = (pl : Int) := by omega
    have pN : pl < bs.length + 1 := by omega
    show wp ((asg (P m) (.nm 1) (.int (((bs.length + 1 : Nat) : Int) - 1 + (kk : Int) * -1)) _ S').bind _) _
    rw [epl]
    simp only [wp_bind, wp_gn, List.set_cons_zero, List.set_cons_succ]
    rw [wp_sC]
    simp_all_arith [wp_gt, seqD, List.length_cons, List.length_nil, wp_gsC, wp_gsN, if_true]
    rw [fl_nx, wp_sC]
    have hl' := g l _ hl
    rw [wp_for, wp_ie]
    simp_all_arith [wp_ok]
    refine ⟨enumS (srcR l), ?_, ?_⟩
    · show (match seqAt S' l with
        | some _ => some (enumS (srcR l))
        | none => none) = _
      rw [seq_c hl']
    have cN := cnt_leN hp pN
    have nE : ∀ x, mV (qI F (mI r bs)) (qI F (mW r bs)) (qI F (mS bs)) (mP bs) (bs.length + 1) x pl = fo (stV (qI F (mS bs))) (mP bs) pl (mV (qI F (mI r bs)) (qI F (mW r bs)) (qI F (mS bs)) (mP bs) (bs.length + 1) x) (bsV (qI F (mI r bs)) (qI F (mW r bs)) x pl) (bs.length + 1) := fun x => node_eq hp pN
    have nC : cntM (mP bs) (bs.length + 1) pl = fo stC (mP bs) pl (cntM (mP bs) (bs.length + 1)) 1 (bs.length + 1) := node_eq hp pN
    refine forN_wp (enL ((List.range (bs.length + 1)).map (rwI F r bs))) (fun j S'' ρ' => ∃ (d6 d7 d8 : Option D) (H R : List Int), ρ' = [some (.ref l), some (.int (pl : Int)), some (.ref (S.length + 1)), some (.ref (S.length + 3)), some (tp H), some (tp R), d6, d7, d8] ∧ Ext S' S'' ∧
      Ar F r bs pl (fo stC (mP bs) pl (cntM (mP bs) (bs.length + 1)) 1 j) (fun x => fo (stV (qI F (mS bs))) (mP bs) pl (mV (qI F (mI r bs)) (qI F (mW r bs)) (qI F (mS bs)) (mP bs) (bs.length + 1) x) (bsV (qI F (mI r bs)) (qI F (mW r bs)) x pl) j) H R)
      (fun j S'' ρ' ⟨_, _, _, _, _, _, e, _⟩ => enum_ref (e.get hl')) ?_ ?_ _ 0 _ _ (Nat.zero_le _) (by rw [enL_len, lr]; have := fuelBig (m := m) (n := bs.length + 1) (by omega); omega) ⟨_, _, _, [1], [], rfl, .refl, ?_⟩
    · rintro j S'' ρ' d ⟨d6, d7, d8, H, R, rfl, eS, hA⟩ hd
      obtain ⟨hj, rfl⟩ := enL_get hd
      rw [lr] at hj
      have eg : gt ((List.range (bs.length + 1)).map (rwI F r bs)) j = rwI F r bs j := by
        unfold gt
        rw [gR j hj]; rfl
      rw [eg]
      simp only [wp_bind]
      simp_all_arith [wp_gt, seqD, List.length_cons, List.length_nil, wp_gsC, wp_gsN, if_true]
      have x2 : ∀ {S : Sto}, ixE S (rwI F r bs j) (.int 2) = some (.int (mP bs j)) := fun {S} => rfl
      have x3 : ∀ {S : Sto}, ixE S (rwI F r bs j) (.int 3) = some (.int (wq F (mS bs j))) := fun {S} => rfl
      rw [wp_sC]
      simp_all_arith [x2]
      by_cases hq : mP bs j = (pl : Int)
      · have jp := hp j hj
        obtain ⟨E, G, gE, gG, er⟩ := hEH j (by omega) hj
        have i2 : ∀ {S3 : Sto}, Ext S' S3 → ixE S3 (.ref (S.length + 1)) (.int (j : Int)) = some (tp E) := fun {S3} e => by rw [ix_c (e.get he), atI_n (by omega), gE]
        have i3 : ∀ {S3 : Sto}, Ext S' S3 → ixE S3 (.ref (S.length + 3)) (.int (j : Int)) = some (tp G) := fun {S3} e => by rw [ix_c (e.get hh), atI_n (by omega), gG]
        have fs : fo stC (mP bs) pl (cntM (mP bs) (bs.length + 1)) 1 (j + 1) = fo stC (mP bs) pl (cntM (mP bs) (bs.length + 1)) 1 j + cntM (mP bs) (bs.length + 1) j := if_pos hq
        have vs : ∀ x, fo (stV (qI F (mS bs))) (mP bs) pl (mV (qI F (mI r bs)) (qI F (mW r bs)) (qI F (mS bs)) (mP bs) (bs.length + 1) x) (bsV (qI F (mI r bs)) (qI F (mW r bs)) x pl) (j + 1) = stV (qI F (mS bs)) j (fo (stV (qI F (mS bs))) (mP bs) pl (mV (qI F (mI r bs)) (qI F (mW r bs)) (qI F (mS bs)) (mP bs) (bs.length + 1) x) (bsV (qI F (mI r bs)) (qI F (mW r bs)) x pl) j) (mV (qI F (mI r bs)) (qI F (mW r bs)) (qI F (mS bs)) (mP bs) (bs.length + 1) x j) := fun x => if_pos hq
        have cu := fo_up (p := mP bs) (k := pl) (a := 1) (g := cntM (mP bs) (bs.length + 1)) (i := j + 1) (bs.length + 1) (by omega)
        have cj : 1 ≤ cntM (mP bs) (bs.length + 1) j := by
          have e : cntM (mP bs) (bs.length + 1) j = _ := (node_eq hp hj).trans (fo_sm (bs.length + 1))
          omega
        have ch := t_child (m := m) (by omega) er hA (by omega) cj (bI j hj).2.2 rfl
        rw [← fs] at ch
        simp only [← vs] at ch
        simp_all_arith [hq, decide_true, if_true]
        rw [wp_sC]
        simp_all_arith [i2 eS, i3 eS, x3]
        refine wp_mono (ch S'') fun d S1 h => ?_
        try simp_all_arith [wp_ok]
        refine wp_mono h fun st S2 ⟨e2, T, ed, h⟩ => ?_
        subst ed
        have eS2 := eS.trans e2
        rw [fl_nx, wp_sC]
        simp_all_arith [i2 eS2, i3 eS2, x3]
        refine wp_mono (h S2) fun d1 S3 ⟨e3, h⟩ => ?_
        have eS3 := eS2.trans e3
        try simp_all_arith [i2 eS3, x3]
        refine wp_mono h fun d2 S4 h => ?_
        try simp_all_arith [wp_ok]
        refine wp_mono h fun d3 S5 h => ?_
        try simp_all_arith [wp_ok]
        refine wp_mono h fun d4 S6 ⟨e6, R', ed, h⟩ => ?_
        subst ed
        have eS6 := eS3.trans e6
        rw [fl_nx, wp_sC]
        simp_all_arith [wp_ok]
        refine wp_mono (h S6) fun d5 S7 ⟨e7, H', ed, hA'⟩ => ?_
        subst ed
        simp only [fl_nx, wp_sN, wp_ok]
        exact ⟨_, _, _, _, _, rfl, eS6.trans e7, hA'⟩
      · simp_all_arith [hq, decide_false, Bool.false_eq_true, if_false]
        have fs : fo stC (mP bs) pl (cntM (mP bs) (bs.length + 1)) 1 (j + 1) = fo stC (mP bs) pl (cntM (mP bs) (bs.length + 1)) 1 j := if_neg hq
        have vs : ∀ x, fo (stV (qI F (mS bs))) (mP bs) pl (mV (qI F (mI r bs)) (qI F (mW r bs)) (qI F (mS bs)) (mP bs) (bs.length + 1) x) (bsV (qI F (mI r bs)) (qI F (mW r bs)) x pl) (j + 1) = fo (stV (qI F (mS bs))) (mP bs) pl (mV (qI F (mI r bs)) (qI F (mW r bs)) (qI F (mS bs)) (mP bs) (bs.length + 1) x) (bsV (qI F (mI r bs)) (qI F (mW r bs)) x pl) j := fun x => if_neg hq
        rw [← fs] at hA
        simp only [← vs] at hA
        simp only [fl_nx, wp_sN, wp_ok]
        exact ⟨_, _, _, _, _, rfl, eS, hA⟩
    · rintro S'' ρ' ⟨d6, d7, d8, H, R, rfl, eS, hA⟩
      rw [enL_len, lr, ← nC] at hA
      simp only [← nE] at hA
      have hA2 := hA.vr
      have bp := bI pl pN
      have he' := eS.get he
      have hh' := eS.get hh
      have hl'' := eS.get hl'
      have g' : ∀ (n : Nat) x, S[n]? = some x → S''[n]? = some x := fun n x hx => eS.get (g n x hx)
      have x0 : ∀ {S : Sto}, ixE S (rwI F r bs pl) (.int 0) = some (.int (wq F (mI r bs pl))) := fun {S} => rfl
      have x1 : ∀ {S : Sto}, ixE S (rwI F r bs pl) (.int 1) = some (.int (wq F (mW r bs pl))) := fun {S} => rfl
      have xl : ixE S'' (.ref l) (.int (pl : Int)) = some (rwI F r bs pl) := by rw [ix_c hl'', atI_n (by rw [lr]; omega), gR pl pN]
      rw [fl_nx, wp_sC]
      rw [wp_asg]
      simp_all_arith [xl, x0, x1, negE]
      have n5 : (S'' ++ [Mini.Cl.lst [.int (wq F (mW r bs pl)), .int (-wq F (mI r bs pl))]])[S''.length]? = some (.lst (ip [wq F (mW r bs pl), -wq F (mI r bs pl)])) := by simp [ip]
      refine wp_mono (t_trimmed (by omega) (by simp) n5) fun d S5 ⟨ed, e5⟩ => ?_
      subst ed
      try simp_all_arith [wp_ok]
      have e05 : Ext S'' S5 := Ext.one.trans e5
      have pT : Pz 450 2 (trimZ [wq F (mW r bs pl), -wq F (mI r bs pl)]) := .trim (fun i => by
        rcases i with _ | _ | i
        · exact bp.2.1
        · exact bp.1.neg
        · exact .zero) (by simp)
      have vT : ∀ x, hor (trimZ [wq F (mW r bs pl), -wq F (mI r bs pl)]) x = qI F (mW r bs) pl - x * qI F (mI r bs) pl := fun x => by
        rw [hor_trim]
        show ((wq F (mW r bs pl) : Int) : Rat) + x * (((-wq F (mI r bs pl) : Int) : Rat) + x * 0) = _
        rw [Rat.intCast_neg]
        show qI F (mW r bs) pl + x * (-qI F (mI r bs) pl + x * 0) = _
        grind
      have c1 := hA.c1
      have c5 := hA.c5
      refine wp_mono (t_multiplied (by omega) pT hA.ph (by omega) (by omega) (by omega)) fun d S6 ⟨e6, M, ed, pM, vM⟩ => ?_
      subst ed
      try simp_all_arith [wp_ok]
      have pM := (pM.mul' (by omega) (by omega)).mono (show _ ≤ 1400 * cntM (mP bs) (bs.length + 1) pl - 681 by omega) (show _ ≤ 3 * cntM (mP bs) (bs.length + 1) pl by omega)
      have pR := hA.pr.mono (show _ ≤ 1400 * cntM (mP bs) (bs.length + 1) pl - 681 by omega) (show _ ≤ 3 * cntM (mP bs) (bs.length + 1) pl by omega)
      refine wp_mono (t_summed (by omega) pM pR (by omega)) fun d S7 ⟨e7, E, ed, pE, cE⟩ => ?_
      subst ed
      have eS7 := (e05.trans e6).trans e7
      have he7 := eS7.get he'
      have hh7 := eS7.get hh'
      have g7 : ∀ (n : Nat) x, S[n]? = some x → S7[n]? = some x := fun n x hx => eS7.get (g' n x hx)
      have hix : L2.ixN es.length ((pl : Nat) : Int) = some pl := by
        unfold L2.ixN
        rw [if_pos (by omega), if_pos (by omega), Int.toNat_natCast]
      have hix2 : L2.ixN hs.length ((pl : Nat) : Int) = some pl := by
        unfold L2.ixN
        rw [if_pos (by omega), if_pos (by omega), Int.toNat_natCast]
      simp_all_arith [wp_gi, sto_c he7 hix]
      have hh8 : (S7.set (S.length + 1) (Mini.Cl.lst (es.set pl (tp E))))[S.length + 3]? = some (.lst hs) := by
        rw [List.getElem?_set_ne (by omega)]; exact hh7
      rw [fl_nx, wp_sC]
      simp_all_arith [wp_gi, sto_c hh8 hix2]
      simp only [fl_nx, wp_sN, wp_ok]
      have er : Er F r bs pl E H := ⟨pE.mono (by omega) (by omega), hA.ph.mono (by omega) (by omega), hA.vh, fun x => by
        rw [hor_add cE, vM, vT]; exact hA2 x⟩
      refine ⟨_, _, _, _, _, _, es.set pl (tp E), hs.set pl (tp H), rfl, ?_, at_set hh8, by rw [List.length_set]; exact le, by rw [List.length_set]; exact lh, fun n x hx => ?_, fun j h1 h2 => ?_⟩
      · rw [List.getElem?_set_ne (by omega)]; exact at_set he7
      · have := (List.getElem?_eq_some_iff.mp hx).1
        rw [List.getElem?_set_ne (by omega), List.getElem?_set_ne (by omega)]
        exact g7 n x hx
      · by_cases e : j = pl
        · subst e
          exact ⟨E, H, List.getElem?_set_self (by omega), List.getElem?_set_self (by omega), er⟩
        · obtain ⟨E', H', a, b, c⟩ := hEH j (by omega) h2
          exact ⟨E', H', by rw [List.getElem?_set_ne (by omega)]; exact a, by rw [List.getElem?_set_ne (by omega)]; exact b, c⟩
    · refine ⟨Nat.le_refl 1, show (1 : Nat) ≤ 5 by decide, ⟨rfl, show (1 : Nat) ≤ 1 by decide, fun i => ?_⟩, ⟨rfl, Nat.zero_le _, fun i => by rw [coef_nil]; exact .zero⟩, fun x => ?_, fun x => ?_⟩
      · cases i with
        | zero => exact Bd.one.mono (show 1 ≤ 40 by decide)
        | succ i => rw [coef_s, coef_nil]; exact .zero
      · show ((1 : Int) : Rat) + x * 0 = 1
        have : ((1 : Int) : Rat) = 1 := rfl
        grind
      · show (qI F (mW r bs) pl - x * qI F (mI r bs) pl) * (((1 : Int) : Rat) + x * 0) + 0 = qI F (mW r bs) pl - x * qI F (mI r bs) pl
        have : ((1 : Int) : Rat) = 1 := rfl
        grind
  · rintro S' ρ' ⟨d1, d4, d5, d6, d7, d8, es, hs, rfl, he, hh, le, lh, g, hEH⟩
    rw [lrg] at hEH
    obtain ⟨E, H, gE, gH, er⟩ := hEH 0 (by omega) (by omega)
    have i2 : ixE S' (.ref (S.length + 1)) (.int 0) = some (tp E) := by rw [show (0 : Int) = ((0 : Nat) : Int) from rfl, ix_c he, atI_n (by omega), gE]
    have i3 : ixE S' (.ref (S.length + 3)) (.int 0) = some (tp H) := by rw [show (0 : Int) = ((0 : Nat) : Int) from rfl, ix_c hh, atI_n (by omega), gH]
    rw [fl_nx, wp_sC]
    simp_all_arith [i2, i3]
    exact ⟨ext_of g, E, H, rfl, er⟩
end K74
namespace K74
open PySem Mini
/-! ### the program's end of a machine, thinned -/
structure Tells (zs : List Int) (V : Rat → Rat) : Prop where
  nm : Nm zs
  g1 : gL zs ≤ 1
  sc : ∃ l : Rat, 0 < l ∧ ∀ x, hor zs x = l * V x
theorem Tells.times {zs : List Int} {V W : Rat → Rat} {c : Rat} (h : Tells zs V) (c0 : 0 < c) (e : ∀ x, W x = c * V x) : Tells zs W := by
  obtain ⟨l, l0, hl⟩ := h.sc
  refine ⟨h.nm, h.g1, l / c, div_pos l0 c0, fun x => ?_⟩
  rw [hl, e]
  have : c ≠ 0 := fun z => by rw [z] at c0; exact absurd c0 (by decide)
  grind
theorem Tells.uniq {zs ys : List Int} {V : Rat → Rat} (h : Tells zs V) (h' : Tells ys V) : zs = ys := by
  obtain ⟨l, l0, hl⟩ := h.sc
  obtain ⟨k, k0, hk⟩ := h'.sc
  have kz : k ≠ 0 := fun z => by rw [z] at k0; exact absurd k0 (by decide)
  have e : ∀ x, hor zs x = l / k * hor ys x := fun x => by rw [hl, hk]; grind
  have c := hor_coefs e
  obtain ⟨p, q, p0, q0, hr⟩ := rat_pq (r := l / k) (div_pos l0 k0)
  have qz : (q : Rat) ≠ 0 := by
    intro z
    have : q = 0 := Rat.intCast_inj.mp (by simpa using z)
    omega
  have ci : ∀ i, coef zs i * q = coef ys i * p := fun i => by
    apply Rat.intCast_inj.mp
    rw [Rat.intCast_mul, Rat.intCast_mul, c i, hr]; grind
  have g := gL_prop ci
  have a1 := h.g1
  have b1 := h'.g1
  refine nm_ext h.nm h'.nm fun i => ?_
  rcases (show gL zs = 0 ∨ gL zs = 1 by omega) with z | z
  · rw [gL_zero z i]
    have := ci i
    rw [gL_zero z i, Int.zero_mul] at this
    rcases Int.mul_eq_zero.mp this.symm with w | w
    · exact w.symm
    · omega
  · rcases (show gL ys = 0 ∨ gL ys = 1 by omega) with w | w
    · rw [gL_zero w i]
      have := ci i
      rw [gL_zero w i, Int.zero_mul] at this
      rcases Int.mul_eq_zero.mp this with w | w
      · exact w
      · omega
    · rw [z, w, Nat.one_mul, Nat.one_mul] at g
      have : q = p := by omega
      subst this
      exact Int.eq_of_mul_eq_mul_right (by omega) (ci i)
/-- the end of a machine at a number -/
def endV (r : Ds) (bs : List Ds) (x : Rat) : Rat := (mV (mI r bs) (mW r bs) (mS bs) (mP bs) (bs.length + 1) x 0).2
theorem t_end_in {n : Nat} (hn : 5 ≤ n) {a e : Nat} {r : Ds} {bs : List Ds} {S : Sto} (h : Mac a e r bs) (ha : a + 8 * e ≤ 28) (e2 : e ≤ 2) (a1 : 1 ≤ a) : wp ((P n).call 22 [maD r bs] S) fun d S' => Ext S S' ∧ ∃ zs, d = tp zs ∧ Tells zs (endV r (outB bs)) := by
  obtain ⟨m, rfl, hm⟩ := up hn
  rw [cP m 22 b22 rfl]
  refine wp_run rfl ?_
  show wp (evSs (P m) b22.body [some (maD r bs)] S) _
  have ho := h.out
  have l4 := ho.len
  unfold b22
  rw [wp_sC]
  simp_all_arith [wp_ok]
  refine wp_mono (t_geared_out (by omega) h (by omega) e2) fun d S1 ⟨ed, e1⟩ => ?_
  subst ed
  try simp_all_arith [wp_ok]
  refine wp_mono (t_made_whole (by omega) ho (by omega) (by omega)) fun d S2 ⟨e2', l, F, ed, F0, bF, hl, hd⟩ => ?_
  subst ed
  have bF : Bd 421 F := bF.mono (by omega)
  have mz := fun {k : Nat} (hk : k < (outB bs).length + 1) => (ho.mz (by omega) hk).p
  have wb : ∀ q : Rat, Rb (a + 8 * e) q → Bd 450 (wq F q) := fun q hq => by
    have b1 : Bd (a + 8 * e) q.num := hq.bn
    exact (b1.mul (bF.le (Int.natAbs_ediv_le_natAbs F (q.den : Int)))).mono (by omega)
  have bI : ∀ k, k < (outB bs).length + 1 → Bd 450 (wq F (mI r (outB bs) k)) ∧ Bd 450 (wq F (mW r (outB bs) k)) ∧ Bd 450 (wq F (mS (outB bs) k)) := fun k hk => by
    have z := ho.mz (by omega) hk
    exact ⟨wb _ z.i.1, wb _ z.w.1, wb _ z.s.1⟩
  have hp : ∀ j, j < (outB bs).length + 1 → mP (outB bs) j < (j : Int) := fun j hj => mz hj
  have x0 : ∀ {S : Sto}, ixE S (.tup [.ref l, .int F]) (.int 0) = some (.ref l) := fun {S} => rfl
  simp_all_arith [x0]
  refine wp_mono (t_ends_in (by omega) l4 hp bI hl) fun d S3 ⟨e3, E, H, ed, er⟩ => ?_
  subst ed
  have y0 : ∀ {S : Sto}, ixE S (.tup [tp E, tp H]) (.int 0) = some (tp E) := fun {S} => rfl
  simp_all_arith [y0]
  have c5 := cnt_leN hp (show 0 < (outB bs).length + 1 by omega)
  refine wp_mono (t_thinned (by omega) er.pe (by omega) (by omega)) fun d S4 ⟨e4, zs, ed, th⟩ => ?_
  subst ed
  refine ⟨((e1.trans e2').trans e3).trans e4, zs, rfl, th.nm, th.g1, ?_⟩
  obtain ⟨c, c0, hc⟩ := th.sc
  have Fq : (0 : Rat) < (F : Rat) := Rat.intCast_pos.mpr F0
  obtain ⟨k, k0, hk⟩ := mV_times (I := mI r (outB bs)) (W := mW r (outB bs)) (S := mS (outB bs)) (I' := qI F (mI r (outB bs))) (W' := qI F (mW r (outB bs))) (S' := qI F (mS (outB bs))) Fq hp (fun k hk => wq_v (hd k hk).1) (fun k hk => wq_v (hd k hk).2.1) (fun k hk => wq_v (hd k hk).2.2) (k := 0) (by omega)
  refine ⟨k * F / c, div_pos (Rat.mul_pos k0 Fq) c0, fun x => ?_⟩
  have e5 := hc x
  have cz : c ≠ 0 := fun z => by rw [z] at c0; exact absurd c0 (by decide)
  rw [er.ve, (hk x).2] at e5
  show _ = k * F / c * (mV (mI r (outB bs)) (mW r (outB bs)) (mS (outB bs)) (mP (outB bs)) ((outB bs).length + 1) x 0).2
  grind
theorem t_machine_end {n : Nat} (hn : 8 ≤ n) {a e : Nat} {r : Ds} {bs : List Ds} {S : Sto} (h : Mac a e r bs) (ha : a + 8 * e ≤ 28) (e2 : e ≤ 2) (a1 : 1 ≤ a) : wp ((P n).call 24 [maD r bs] S) fun d S' => Ext S S' ∧ ∃ zs, d = tp zs ∧ Tells zs (endV r (outB bs)) := by
  obtain ⟨m, rfl, hm⟩ := up hn
  rw [cP m 24 b24 rfl]
  refine wp_run rfl ?_
  show wp (evSs (P m) b24.body [some (maD r bs)] S) _
  unfold b24
  rw [wp_sC]
  simp_all_arith [wp_ok]
  refine wp_mono (t_check (by omega) h) fun d S1 e1 => ?_
  rw [fl_nx, wp_sC]
  simp_all_arith [wp_ok]
  refine wp_mono (t_end_in (by omega) h ha e2 a1) fun d S2 ⟨e2, zs, ed, t⟩ => ⟨e1.trans e2, zs, ed, t⟩
theorem t_ungeared {n : Nat} (hn : 8 ≤ n) {a e : Nat} {r : Ds} {bs : List Ds} {S : Sto} (h : Mac a e r bs) (ha : a ≤ 100) (e2 : e ≤ 2) : wp ((P n).call 23 [maD r bs] S) fun d S' => d = maD r (outB bs) ∧ Ext S S' := by
  obtain ⟨m, rfl, hm⟩ := up hn
  rw [cP m 23 b23 rfl]
  refine wp_run rfl ?_
  show wp (evSs (P m) b23.body [some (maD r bs)] S) _
  unfold b23
  rw [wp_sC]
  simp_all_arith [wp_ok]
  refine wp_mono (t_check (by omega) h) fun d S1 e1 => ?_
  rw [fl_nx, wp_sC]
  simp_all_arith [wp_ok]
  refine wp_mono (t_geared_out (by omega) h ha e2) fun d S2 ⟨ed, e2⟩ => ⟨ed, e1.trans e2⟩
end K74
namespace K74
open PySem Mini
/-! ### the law's parts of a machine -/
theorem nmf_one {d : D} (h : v d ≠ 0) : NmF [d] := .inr h
theorem RQ.cut {S : Sto} {r b n d : Nat} {R : Nat → Rat} (h : RQ S r b n R) (z : ∀ i, d ≤ i → R i = 0) : RQ S r b d R := by
  obtain ⟨fs, h1, h2, h3, h4, h5⟩ := h.ex
  refine ⟨fs, h1, ?_, h3, h4, h5⟩
  rcases h4 with e | e
  · rw [e]; exact Nat.zero_le _
  · rcases Nat.lt_or_ge d fs.length with q | q
    · exact absurd ((h5 _).trans (z _ (by omega))) e
    · exact q
theorem cv_1 {A B : Nat → Rat} (i : Nat) : cv A B 1 i = A 0 * B i := by
  show 0 + (if 0 ≤ i then A 0 * B (i - 0) else 0) = _
  rw [if_pos (by omega), Nat.sub_zero]; grind

theorem cv_M {A B : Nat → Rat} {p q : Nat} : cv A B p q = cvM A B p q := by
  induction p with
  | zero => rfl
  | succ p ih =>
    show cv A B p q + _ = cvM A B p q + _
    rw [ih]
theorem RQ.tight {S : Sto} {r b n : Nat} {R A : Nat → Rat} (h : RQ S r b n R) (e : ∀ i, R i = A i) (s : Sh5 A) : RQ S r 360 10 A := by
  have h' := (h.congr e).cut s.v
  obtain ⟨fs, h1, h2, h3, h4, h5⟩ := h'.ex
  refine ⟨fs, h1, h2, fun x hx => ?_, h4, h5⟩
  obtain ⟨i, hi⟩ := List.getElem?_of_mem hx
  have ev : v x = A i := by
    rw [← h5 i]
    unfold cf
    rw [gf_get hi]
  have b := s.b i
  rw [← ev] at b
  have f := fb_frq (h3 x hx)
  unfold Rb at b
  rw [← f] at b
  exact b
theorem GdM.prods {a t : (Nat → Rat) × (Nat → Rat)} {s : Rat} {c d : Nat} (hs : Rb 20 s) (ha : GdM a c) (ht : GdM t d) (cd : c + d ≤ 5) : Sh5 (mulR a.1 (whC s t)) ∧ Sh5 (mulR a.2 (whC s t)) ∧ Sh5 (mulR a.1 (fun i => s * t.2 i)) := by
  have c1 := ha.c1
  have d1 := ht.c1
  have vw : Van (2 * d) (whC s t) := Van.wh ht.v1 ht.v2
  obtain ⟨E, E0, bE, t1, t2⟩ := ha.tt (by omega)
  obtain ⟨G, G0, bG, w1, w2⟩ := ht.wh hs (by omega)
  have E2 := Int.mul_pos E0 G0
  have b2 : Bd 360 (E * G) := (bE.mul bG).mono (by omega)
  exact ⟨⟨(ha.v1.mul vw).mono (by omega), fun i => ((t1.mul ha.v1 w1).mono (show _ ≤ 360 by omega)).fb E2 b2 i⟩,
    ⟨(ha.v2.mul vw).mono (by omega), fun i => ((t2.mul ha.v2 w1).mono (show _ ≤ 360 by omega)).fb E2 b2 i⟩,
    ⟨(ha.v1.mul ht.v2.sc).mono (by omega), fun i => ((t1.mul ha.v1 w2).mono (show _ ≤ 360 by omega)).fb E2 b2 i⟩⟩
theorem one_row {S : Sto} {q : Rat} {l : Nat} (h : S[l]? = some (.lst [frq q])) (k : Nat) (hk : 1 ≤ k) (hq : Rb k q) (q0 : q ≠ 0) : RQ S l k 1 (fun i => if i = 0 then q else 0) :=
  ⟨_, h, by simp, fun x hx => by rw [List.mem_singleton.mp hx]; exact hq, nmf_one (by rw [frq_v]; exact q0), fun i => by rw [cf_one, frq_v]⟩
/-- a number times a row -/
theorem t_sc {n : Nat} (hn : 5 ≤ n) {S : Sto} {q : Rat} {l l2 : Nat} {B C : Nat → Rat} (h : S[l]? = some (.lst [frq q])) (hq : Rb 20 q) (q0 : q ≠ 0) (hB : RQ S l2 360 10 B) (hC : ∀ i, q * B i = C i) :
    wp ((P n).call 34 [.ref l, .ref l2] S) fun r S' => Ext S S' ∧ ∃ l3, r = .ref l3 ∧ S.length ≤ l3 ∧ RQ S' l3 382 11 C := by
  refine wp_mono (t_rmul hn (by decide) (by decide) (by decide) (by decide) (by decide) (one_row h 20 (by decide) hq q0) hB) fun r S' ⟨e, l3, er, lq, hr⟩ => ⟨e, l3, er, lq, ?_⟩
  refine (hr.up (by decide) (by decide)).congr fun i => ?_
  rw [cv_1, if_pos rfl]; exact hC i
theorem rng2_src {i N : Nat} (h : i ≤ N) (hN : N ≤ 1000) : rng2E (.int (i : Int)) (.int (N : Int)) = some (srcL ((List.range (N - i)).map fun (q : Nat) => D.int ((i : Int) + (q : Int)))) := by
  have hin : inR (i : Int) = true ∧ inR (N : Int) = true := by
    unfold inR
    constructor <;> (rw [Bool.and_eq_true, decide_eq_true_eq, decide_eq_true_eq]; omega)
  show (if inR (i : Int) && inR (N : Int) then some (rngL (i : Int) ((N : Int) - (i : Int)).toNat) else none) = _
  rw [hin.1, hin.2, show ((N : Int) - (i : Int)).toNat = N - i by omega]
  show some (rngL (i : Int) (N - i)) = _
  rw [rng_srcL]
def elt (r : Ds) (bs : List Ds) : Nat → D
  | 0 => rtD r
  | k + 1 => brD (bs[k]?.getD ⟨0, 0, 0, 0, 0⟩)
theorem elt_ix {r : Ds} {bs : List Ds} {k : Nat} {S : Sto} (hk : k < bs.length + 1) : ixE S (maD r bs) (.int (k : Int)) = some (elt r bs k) := by
  show L2.atI (rtD r :: bs.map brD) (k : Int) = _
  rw [atI_n (by rw [List.length_cons, List.length_map]; exact hk)]
  cases k with
  | zero => rfl
  | succ k =>
    rw [List.getElem?_cons_succ, List.getElem?_map, List.getElem?_eq_getElem (show k < bs.length by omega)]
    show some (brD _) = some (brD (bs[k]?.getD ⟨0, 0, 0, 0, 0⟩))
    rw [List.getElem?_eq_getElem (show k < bs.length by omega)]; rfl
theorem elt_0 {r : Ds} {bs : List Ds} {k : Nat} {S : Sto} : ixE S (elt r bs k) (.int 0) = some (frq (mI r bs k)) := by
  cases k <;> rfl
theorem elt_1 {r : Ds} {bs : List Ds} {k : Nat} {S : Sto} : ixE S (elt r bs k) (.int 1) = some (frq (mW r bs k)) := by
  cases k <;> rfl
theorem elt_2 {r : Ds} {bs : List Ds} {k : Nat} {S : Sto} : ixE S (elt r bs (k + 1)) (.int 2) = some (.int (mP bs (k + 1))) := rfl
theorem elt_3 {r : Ds} {bs : List Ds} {k : Nat} {S : Sto} : ixE S (elt r bs (k + 1)) (.int 3) = some (frq (mS bs (k + 1))) := rfl
theorem maD_len {r : Ds} {bs : List Ds} {S : Sto} : fnE .len [maD r bs] S = .ok (.int ((bs.length + 1 : Nat) : Int)) S := by
  show Res.ok (D.int (((rtD r :: bs.map brD).length : Nat) : Int)) S = _
  rw [List.length_cons, List.length_map]
theorem frq_0 {q : Rat} {S : Sto} : ixE S (frq q) (.int 0) = some (.int q.num) := rfl
theorem frq_1 {q : Rat} {S : Sto} : ixE S (frq q) (.int 1) = some (.int (q.den : Int)) := rfl
def Mk (r : Ds) (bs : List Ds) (k : Nat) : (Nat → Rat) × (Nat → Rat) := mC (mI r bs) (mW r bs) (mS bs) (mP bs) (bs.length + 1) k
set_option maxHeartbeats 2000000 in
theorem t_lparts {r : Ds} {bs : List Ds} (h : Mac 20 1 r bs) : ∀ d {n : Nat} {k : Nat} {S : Sto}, k < bs.length + 1 → bs.length + 1 - k ≤ d → 6 + d ≤ n →
    wp ((P n).call 41 [maD r bs, .int (k : Int)] S) fun r' S' => Ext S S' ∧ ∃ t u, r' = .tup [.ref t, .ref u] ∧ RQ S' t 360 10 (Mk r bs k).1 ∧ RQ S' u 360 10 (Mk r bs k).2
  | 0, n, k, S, hk, hd, hn => by omega
  | d + 1, n, k, S, hk, hd, hn => by
    obtain ⟨m, rfl, hm⟩ := up (show 1 ≤ n by omega)
    rw [cP m 41 b41 rfl]
    refine wp_run rfl ?_
    show wp (evSs (P m) b41.body [some (maD r bs), some (.int (k : Int)), none, none, none, none, none, none] S) _
    have l4 := h.len
    have mz := fun {q : Nat} (hq : q < bs.length + 1) => h.mz (by decide) hq
    have hp : ∀ j, j < bs.length + 1 → mP bs j < (j : Int) := fun j hj => (mz hj).p
    have gI : ∀ q, q < bs.length + 1 → Rb 20 (mI r bs q) := fun q hq => (mz hq).i.1
    have gW : ∀ q, q < bs.length + 1 → Rb 20 (mW r bs q) := fun q hq => (mz hq).w.1
    have gS : ∀ q, q < bs.length + 1 → Rb 20 (mS bs q) := fun q hq => (mz hq).s.1
    have zk := mz hk
    unfold b41
    rw [wp_sC, wp_par, wp_cons]
    simp_all_arith [wp_ok]
    have n1 : (S ++ [Mini.Cl.lst [.tup [.int 1, .int 1]]])[S.length]? = some (.lst [.tup [.int 1, .int 1]]) := at_new
    have e1 : Ext S (S ++ [Mini.Cl.lst [.tup [.int 1, .int 1]]]) := .one
    generalize (S ++ [Mini.Cl.lst [.tup [.int 1, .int 1]]]) = S1 at n1 e1 ⊢
    have lS1 := ext_len e1
    simp_all_arith [elt_ix hk, elt_1]
    have n2 := at_new (A := S1) (c := .lst [frq (mW r bs k)])
    refine wp_mono (t_lcut (b := 20) (by omega) n2 (by decide) (fun x hx => by rw [List.mem_singleton.mp hx]; exact zk.w.1) (by simp)) fun r' S2 ⟨e2, t0, er, lt0, ht0⟩ => ?_
    subst er
    have e12 : Ext S1 S2 := Ext.one.trans e2
    simp_all_arith [elt_ix hk, elt_0, frq_0, frq_1, bin_sub, show ((0 : Int) - (mI r bs k).num) = -(mI r bs k).num by omega]
    have n3 := at_new (A := S2) (c := .lst [.tup [.int 0, .int 1], frq (-(mI r bs k))])
    have e3 : Ext S2 (S2 ++ [Mini.Cl.lst [.tup [.int 0, .int 1], frq (-(mI r bs k))]]) := .one
    have iN : -(mI r bs k) ≠ 0 := fun z => by have := zk.i.2; grind
    have r3 : RQ (S2 ++ [Mini.Cl.lst [.tup [.int 0, .int 1], frq (-(mI r bs k))]]) S2.length 20 2 (cf [.tup [.int 0, .int 1], frq (-(mI r bs k))]) := ⟨_, n3, by simp, fun x hx => by
      simp only [List.mem_cons, List.not_mem_nil, or_false] at hx
      rcases hx with rfl | rfl
      · exact fz_fb.mono (by decide)
      · exact zk.i.1.neg, .inr (by show v (frq (-(mI r bs k))) ≠ 0; rw [frq_v]; exact iN), fun i => rfl⟩
    have en : (D.tup [.int (-(mI r bs k).num), .int ((mI r bs k).den : Int)]) = frq (-(mI r bs k)) := rfl
    rw [en]
    refine wp_mono (t_radd (by omega) (by decide) (by decide) (by decide) (ht0.ext e3) r3 (by simp) (by decide)) fun r' S4 ⟨e4, u0, er, lu0, hu0⟩ => ?_
    subst er
    have hu : RQ S4 u0 360 10 (bsC (mI r bs) (mW r bs) k).2 := (hu0.up (by decide) (by simp)).congr fun i => by
      show cf [frq (mW r bs k)] i + cf [.tup [.int 0, .int 1], frq (-(mI r bs k))] i = if i = 0 then mW r bs k else if i = 1 then -(mI r bs k) else 0
      rcases i with _ | _ | i
      · show v (frq (mW r bs k)) + v (.tup [.int 0, .int 1]) = _
        rw [frq_v, show v (.tup [.int 0, .int 1]) = 0 from fz_v, if_pos rfl]; grind
      · show cf [frq (mW r bs k)] 1 + v (frq (-(mI r bs k))) = _
        rw [frq_v, cf_ge (by simp), if_neg (by decide), if_pos rfl]; grind
      · rw [cf_ge (by simp), cf_ge (by simp), if_neg (by omega), if_neg (by omega)]; grind
    have e14 : Ext S1 S4 := (e12.trans e3).trans e4
    have ht : RQ S4 S.length 360 10 (bsC (mI r bs) (mW r bs) k).1 := by
      refine ⟨_, e14.get n1, by simp, fun x hx => by rw [List.mem_singleton.mp hx]; exact one_fb.mono (by decide), nmf_one (by rw [one_v]; decide), fun i => ?_⟩
      rw [cf_one, one_v]; rfl
    have e04 := e1.trans e14
    try simp_all_arith [wp_ok]
    rw [fl_nx, wp_sC]
    rw [wp_for, wp_i2]
    simp_all_arith [maD_len, bin_add, show ((k : Int) + 1) = ((k + 1 : Nat) : Int) by omega]
    refine ⟨_, rng2_src (by omega) (by omega), ?_⟩
    have lrg : ((List.range (bs.length + 1 - (k + 1))).map fun (q : Nat) => D.int (((k + 1 : Nat) : Int) + (q : Int))).length = bs.length + 1 - (k + 1) := by rw [List.length_map, List.length_range]
    have f0 : fo (stCo (mS bs)) (mP bs) k (Mk r bs) (bsC (mI r bs) (mW r bs) k) (k + 1) = bsC (mI r bs) (mW r bs) k := fo_low fun j hj e => by
      have := hp j (by omega)
      omega
    have nE : Mk r bs k = fo (stCo (mS bs)) (mP bs) k (Mk r bs) (bsC (mI r bs) (mW r bs) k) (bs.length + 1) := node_eq hp hk
    refine forN_wp ((List.range (bs.length + 1 - (k + 1))).map fun (q : Nat) => D.int (((k + 1 : Nat) : Int) + (q : Int))) (fun q S' ρ' => ∃ (d2 d5 d6 d7 : Option D) (t u : Nat), ρ' = [some (maD r bs), some (.int (k : Int)), d2, some (.ref t), some (.ref u), d5, d6, d7] ∧ Ext S S' ∧
      RQ S' t 360 10 (fo (stCo (mS bs)) (mP bs) k (Mk r bs) (bsC (mI r bs) (mW r bs) k) (k + 1 + q)).1 ∧ RQ S' u 360 10 (fo (stCo (mS bs)) (mP bs) k (Mk r bs) (bsC (mI r bs) (mW r bs) k) (k + 1 + q)).2) (fun _ _ _ _ => rfl) ?_ ?_ _ 0 _ _ (Nat.zero_le _) (by rw [lrg]; have := fuelBig (m := m) (n := bs.length + 1) (by omega); omega) ⟨_, _, _, _, _, _, rfl, e04, by rw [Nat.add_zero, f0]; exact ht, by rw [Nat.add_zero, f0]; exact hu⟩
    · rintro q S' ρ' d' ⟨d2, d5, d6, d7, t, u, rfl, eS, rt, ru⟩ hd'
      have hq : q < bs.length + 1 - (k + 1) := by
        have := (List.getElem?_eq_some_iff.mp hd').1
        rwa [lrg] at this
      rw [List.getElem?_map, List.getElem?_range hq] at hd'
      cases hd'
      have ec : (((k + 1 : Nat) : Int) + (q : Int)) = ((k + q + 1 : Nat) : Int) := by omega
      have hc : k + q + 1 < bs.length + 1 := by omega
      have zc := mz hc
      have e9 : k + 1 + q = k + q + 1 := by omega
      rw [e9] at rt ru
      rw [show k + 1 + (q + 1) = (k + q + 1) + 1 by omega]
      have eb : ((fun (q : Nat) => D.int (((k + 1 : Nat) : Int) + (q : Int))) q) = D.int ((k + q + 1 : Nat) : Int) := congrArg D.int ec
      rw [eb]
      simp only [wp_bind, wp_gn, List.set_cons_zero, List.set_cons_succ]
      rw [wp_sC]
      simp_all_arith [elt_ix hc, elt_2]
      by_cases hpk : mP bs (k + q + 1) = (k : Int)
      · simp_all_arith [hpk, decide_true, if_true]
        rw [wp_sC]
        simp_all_arith [wp_ok]
        refine wp_mono (t_lparts h d hc (by omega) (by omega)) fun r' S5 ⟨e5, t1, u1, er, rt1, ru1⟩ => ?_
        subst er
        have fs : fo (stCo (mS bs)) (mP bs) k (Mk r bs) (bsC (mI r bs) (mW r bs) k) (k + q + 1 + 1) = stCo (mS bs) (k + q + 1) (fo (stCo (mS bs)) (mP bs) k (Mk r bs) (bsC (mI r bs) (mW r bs) k) (k + q + 1)) (Mk r bs (k + q + 1)) := if_pos hpk
        have cs : fo stC (mP bs) k (cntM (mP bs) (bs.length + 1)) 1 (k + q + 1 + 1) = fo stC (mP bs) k (cntM (mP bs) (bs.length + 1)) 1 (k + q + 1) + cntM (mP bs) (bs.length + 1) (k + q + 1) := if_pos hpk
        obtain ⟨ga, _⟩ := acc_gd hp gI gW gS hk (show k + q + 1 ≤ bs.length + 1 by omega)
        obtain ⟨gb, cb⟩ := acc_gd hp gI gW gS hk (show k + q + 1 + 1 ≤ bs.length + 1 by omega)
        have gt' : GdM (Mk r bs (k + q + 1)) _ := mC_gd hp gI gW gS hc
        rw [fs]
        have ga : GdM (fo (stCo (mS bs)) (mP bs) k (Mk r bs) (bsC (mI r bs) (mW r bs) k) (k + q + 1)) _ := ga
        have gb : GdM (fo (stCo (mS bs)) (mP bs) k (Mk r bs) (bsC (mI r bs) (mW r bs) k) (k + q + 1 + 1)) _ := gb
        rw [fs] at gb
        rw [cs] at cb gb
        generalize fo stC (mP bs) k (cntM (mP bs) (bs.length + 1)) 1 (k + q + 1) = ca at ga gb cb
        generalize cntM (mP bs) (bs.length + 1) (k + q + 1) = ct at gt' gb cb
        generalize fo (stCo (mS bs)) (mP bs) k (Mk r bs) (bsC (mI r bs) (mW r bs) k) (k + q + 1) = a at rt ru ga gb
        generalize Mk r bs (k + q + 1) = tt at rt1 ru1 gt' gb ⊢
        have sc0 : mS bs (k + q + 1) ≠ 0 := by
          have hb := List.getElem?_eq_getElem (show k + q < bs.length by omega)
          have o := (h.br _ _ hb).s.2
          show (bs[k + q]?.getD ⟨0, 0, 0, 0, 0⟩).s ≠ 0
          rw [hb]
          show (bs[k + q]'(by omega)).s ≠ 0
          grind
        have sR := zc.s.1
        have x3 : ∀ {S : Sto}, ixE S (elt r bs (k + q + 1)) (.int 3) = some (frq (mS bs (k + q + 1))) := fun {S} => elt_3
        obtain ⟨s, es⟩ : ∃ s, mS bs (k + q + 1) = s := ⟨_, rfl⟩
        rw [es] at sc0 sR
        simp only [es] at x3
        obtain ⟨sw, s2⟩ := gt'.shw sR (by omega)
        obtain ⟨p1, p2, p3⟩ := GdM.prods sR ga gt' (by omega)
        obtain ⟨o1, o2⟩ := gb.sh (by omega)
        have rt5 := rt.ext e5
        have ru5 := ru.ext e5
        simp_all_arith [wp_gt, seqD, List.length_cons, List.length_nil, wp_gsC, wp_gsN, if_true]
        rw [fl_nx, wp_sC]
        -- the whole
        simp_all_arith [elt_ix hc, x3]
        have e6 : Ext S5 (S5 ++ [Mini.Cl.lst [frq s]]) := .one
        refine wp_mono (t_sc (C := fun i => s * tt.1 i) (by omega) at_new sR sc0 (rt1.ext e6) (fun i => rfl)) fun r' S6 ⟨e7, l6, er, _, r6⟩ => ?_
        subst er
        try simp_all_arith [wp_ok]
        have e57 := e6.trans e7
        refine wp_mono (t_radd (by omega) (by decide) (by decide) (by decide) (ru1.ext e57) r6 (by decide) (by decide)) fun r' S7 ⟨e8, wl, er, _, r7⟩ => ?_
        subst er
        have rw7 : RQ S7 wl 360 10 (whC s tt) := r7.tight (fun i => rfl) sw
        have e58 := e57.trans e8
        have rt7 := rt5.ext e58
        have ru7 := ru5.ext e58
        rw [fl_nx, wp_sC]
        -- what is below
        simp_all_arith [wp_ok]
        refine wp_mono (t_rmul (by omega) (by decide) (by decide) (by decide) (by decide) (by decide) ru7 rw7) fun r' S8 ⟨e9', l8, er, _, r8⟩ => ?_
        subst er
        have r8' : RQ S8 l8 360 10 (mulR a.2 (whC s tt)) := r8.tight (fun i => by rw [cv_M, cv_mul (ga.sh (by omega)).2.v]) p2
        have e59 := e58.trans e9'
        simp_all_arith [elt_ix hc, x3]
        have e10 : Ext S8 (S8 ++ [Mini.Cl.lst [frq s]]) := .one
        refine wp_mono (t_sc (C := fun i => s * tt.2 i) (by omega) at_new sR sc0 (ru1.ext (e59.trans e10)) (fun i => rfl)) fun r' S9 ⟨e11, l9, er, _, r9⟩ => ?_
        subst er
        have r9' : RQ S9 l9 360 10 (fun i => s * tt.2 i) := r9.tight (fun i => rfl) s2
        have e5a := (e59.trans e10).trans e11
        try simp_all_arith [wp_ok]
        refine wp_mono (t_rmul (by omega) (by decide) (by decide) (by decide) (by decide) (by decide) (rt5.ext e5a) r9') fun r' Sa ⟨e12, la, er, _, ra⟩ => ?_
        subst er
        have ra' : RQ Sa la 360 10 (mulR a.1 (fun i => s * tt.2 i)) := ra.tight (fun i => by rw [cv_M, cv_mul (ga.sh (by omega)).1.v]) p3
        have e5b := e5a.trans e12
        try simp_all_arith [wp_ok]
        refine wp_mono (t_radd (by omega) (by decide) (by decide) (by decide) (r8'.ext ((e10.trans e11).trans e12)) ra' (by decide) (by decide)) fun r' Sb ⟨e13, un, er, _, rb⟩ => ?_
        subst er
        have rb' : RQ Sb un 360 10 (stCo (mS bs) (k + q + 1) a tt).2 := rb.tight (fun i => by
          show mulR a.2 (whC s tt) i + mulR a.1 (fun i => s * tt.2 i) i = mulR a.2 (whC (mS bs (k + q + 1)) tt) i + mulR a.1 (fun i => mS bs (k + q + 1) * tt.2 i) i
          rw [es]) o2
        have e5c := e5b.trans e13
        rw [fl_nx, wp_sC]
        simp_all_arith [wp_ok]
        refine wp_mono (t_rmul (by omega) (by decide) (by decide) (by decide) (by decide) (by decide) (rt5.ext e5c) (rw7.ext ((((e9'.trans e10).trans e11).trans e12).trans e13))) fun r' Sc ⟨e14', tp', er, _, rc⟩ => ?_
        subst er
        have rc' : RQ Sc tp' 360 10 (stCo (mS bs) (k + q + 1) a tt).1 := rc.tight (fun i => by
          rw [cv_M, cv_mul (ga.sh (by omega)).1.v]
          show mulR a.1 (whC s tt) i = mulR a.1 (whC (mS bs (k + q + 1)) tt) i
          rw [es]) o1
        simp only [fl_nx, wp_sN, wp_ok]
        exact ⟨_, _, _, _, _, _, rfl, (eS.trans e5).trans (e5c.trans e14'), rc', rb'.ext e14'⟩
      · simp_all_arith [hpk, decide_false, Bool.false_eq_true, if_false]
        have fs : fo (stCo (mS bs)) (mP bs) k (Mk r bs) (bsC (mI r bs) (mW r bs) k) (k + q + 1 + 1) = fo (stCo (mS bs)) (mP bs) k (Mk r bs) (bsC (mI r bs) (mW r bs) k) (k + q + 1) := if_neg hpk
        rw [fs]
        simp only [fl_nx, wp_sN, wp_ok]
        exact ⟨_, _, _, _, _, _, rfl, eS, rt, ru⟩
    · rintro S' ρ' ⟨d2, d5, d6, d7, t, u, rfl, eS, rt, ru⟩
      rw [lrg, show k + 1 + (bs.length + 1 - (k + 1)) = bs.length + 1 by omega, ← nE] at rt ru
      rw [fl_nx, wp_sC]
      simp_all_arith [wp_ok]
      exact ⟨eS, t, u, rfl, rt, ru⟩
end K74
namespace K74
open PySem Mini
/-! ### rows without a common divisor of all -/
def gLL : List (List Int) → Nat
  | [] => 0
  | p :: Q => Nat.gcd (gL p) (gLL Q)
structure PrimL (Q : List (List Int)) (n : Nat) (R : Nat → Nat → Rat) : Prop where
  len : Q.length = n
  nm : ∀ p ∈ Q, Nm p
  one : gLL Q ≤ 1
  eq : ∃ x : Rat, 0 < x ∧ ∀ (k : Nat) (p : List Int), Q[k]? = some p → ∀ q, (coef p q : Rat) = x * R k q
theorem gLL_prop {p q : Int} : ∀ {A B : List (List Int)}, A.length = B.length → (∀ (k : Nat) (a b : List Int), A[k]? = some a → B[k]? = some b → ∀ i, coef a i * q = coef b i * p) → gLL A * q.natAbs = gLL B * p.natAbs
  | [], [], _, _ => by simp [gLL]
  | a :: A, b :: B, hl, h => by
    have ih := gLL_prop (A := A) (B := B) (by simpa using hl) fun k x y hx hy => h (k + 1) x y (by simpa using hx) (by simpa using hy)
    have g := gL_prop (h 0 a b rfl rfl)
    show Nat.gcd (gL a) (gLL A) * q.natAbs = Nat.gcd (gL b) (gLL B) * p.natAbs
    rw [← Nat.gcd_mul_right, ← Nat.gcd_mul_right, g, ih]
theorem gLL_dvd : ∀ {Q : List (List Int)} {p : List Int}, p ∈ Q → gLL Q ∣ gL p
  | a :: Q, p, h => by
    rcases List.mem_cons.mp h with rfl | h
    · exact Nat.gcd_dvd_left _ _
    · exact Nat.dvd_trans (Nat.gcd_dvd_right _ _) (gLL_dvd h)
theorem gLL_zero {Q : List (List Int)} (h : gLL Q = 0) {p : List Int} (hp : p ∈ Q) (i : Nat) : coef p i = 0 := by
  refine gL_zero ?_ i
  have := gLL_dvd hp
  rw [h] at this
  exact Nat.eq_zero_of_zero_dvd this
theorem primL_uniq {Q Q' : List (List Int)} {n : Nat} {R : Nat → Nat → Rat} (h : PrimL Q n R) (h' : PrimL Q' n R) : Q = Q' := by
  obtain ⟨l, l0, hl⟩ := h.eq
  obtain ⟨m, m0, hm⟩ := h'.eq
  obtain ⟨p, q, p0, q0, hr⟩ := rat_pq (r := l / m) (div_pos l0 m0)
  have mz : m ≠ 0 := by grind
  have qz : (q : Rat) ≠ 0 := by
    intro z
    have : q = 0 := Rat.intCast_inj.mp (by simpa using z)
    omega
  have el : l = (p : Rat) / q * m := by rw [← hr]; grind
  have ln : Q.length = Q'.length := by rw [h.len, h'.len]
  have ca : ∀ (k : Nat) (a b : List Int), Q[k]? = some a → Q'[k]? = some b → ∀ i, coef a i * q = coef b i * p := fun k a b ha hb i => by
    apply Rat.intCast_inj.mp
    rw [Rat.intCast_mul, Rat.intCast_mul, hl k a ha, hm k b hb, el]
    grind
  have gg := gLL_prop ln ca
  have g1 := h.one
  have g2 := h'.one
  refine List.ext_getElem? fun k => ?_
  rcases Nat.lt_or_ge k Q.length with lk | lk
  · have ha : Q[k]? = some (Q[k]'lk) := List.getElem?_eq_getElem lk
    have hb : Q'[k]? = some (Q'[k]'(by omega)) := List.getElem?_eq_getElem (by omega)
    rw [ha, hb]
    congr 1
    refine nm_ext (h.nm _ (List.mem_of_getElem? ha)) (h'.nm _ (List.mem_of_getElem? hb)) fun i => ?_
    have e := ca k _ _ ha hb i
    by_cases z : gLL Q = 0
    · rw [gLL_zero z (List.mem_of_getElem? ha)] at e ⊢
      rw [Int.zero_mul] at e
      rcases Int.mul_eq_zero.mp e.symm with e | e
      · exact e.symm
      · omega
    · have e1 : gLL Q = 1 := by omega
      rw [e1] at gg
      have e2 : gLL Q' = 1 := by
        rcases (show gLL Q' = 0 ∨ gLL Q' = 1 by omega) with e | e
        · rw [e] at gg; omega
        · exact e
      rw [e2] at gg
      have epq : q = p := by omega
      subst epq
      exact Int.eq_of_mul_eq_mul_right (by omega) e
  · rw [List.getElem?_eq_none lk, List.getElem?_eq_none (by omega)]
def gOf (Q : List (List Int)) : Int := ((max 1 (gLL Q) : Nat) : Int)
theorem gOf_pos {Q : List (List Int)} : 0 < gOf Q := by unfold gOf; omega
theorem gOf_dvd {Q : List (List Int)} {p : List Int} (hp : p ∈ Q) (i : Nat) : gOf Q ∣ coef p i := by
  by_cases z : gLL Q = 0
  · rw [gLL_zero z hp]; exact Int.dvd_zero _
  · have e : gOf Q = ((gLL Q : Nat) : Int) := by unfold gOf; congr 1; omega
    rw [e]
    rcases Nat.lt_or_ge i p.length with h | h
    · have m : coef p i ∈ p := by
        have : p[i]? = some (p[i]'h) := List.getElem?_eq_getElem h
        rw [coef_get this]; exact List.getElem_mem h
      exact Int.dvd_trans (Int.natCast_dvd_natCast.mpr (gLL_dvd hp)) (gL_dvd m)
    · rw [coef_ge h]; exact Int.dvd_zero _
theorem gOf_bd {Q : List (List Int)} {k j : Nat} (h : ∀ p ∈ Q, Pz k j p) : Bd (k + 1) (gOf Q) := by
  by_cases z : gLL Q = 0
  · have e : gOf Q = 1 := by unfold gOf; rw [z]; rfl
    rw [e]; exact Bd.one.mono (by omega)
  · have : ∃ p ∈ Q, gL p ≠ 0 := by
      refine Classical.byContradiction fun c => z ?_
      have all : ∀ p ∈ Q, gL p = 0 := fun p hp => Classical.byContradiction fun d => c ⟨p, hp, d⟩
      clear z c h
      induction Q with
      | nil => rfl
      | cons a Q ih =>
        show Nat.gcd (gL a) (gLL Q) = 0
        rw [all a (by simp), ih fun p hp => all p (by simp [hp])]; rfl
    obtain ⟨p, hp, gz⟩ := this
    have pne : p ≠ [] := fun e => gz (by rw [e]; rfl)
    exact (dvd_bd ((h p hp).bd _) (nm_last (h p hp).nm pne) (gOf_dvd hp _)).mono (Nat.le_succ k)
theorem gLL_div {Q : List (List Int)} {g : Int} (g0 : 0 < g) (h : ∀ p ∈ Q, Nm p) (hd : ∀ p ∈ Q, ∀ i, g ∣ coef p i) : gLL (Q.map fun p => p.map (· / g)) * g.natAbs = gLL Q * (1 : Int).natAbs := by
  refine gLL_prop (by rw [List.length_map]) fun k a b ha hb i => ?_
  rw [List.getElem?_map, hb] at ha
  cases ha
  have m := List.mem_of_getElem? hb
  rw [(nm_div (h b m) g0 (hd b m)).2, Int.mul_one]
theorem primL_of {Q : List (List Int)} {n k j : Nat} {R : Nat → Nat → Rat} {F : Rat} (F0 : 0 < F) (h : ∀ p ∈ Q, Pz k j p) (ln : Q.length = n) (eq : ∀ (k : Nat) (p : List Int), Q[k]? = some p → ∀ q, (coef p q : Rat) = F * R k q) :
    PrimL (Q.map fun p => p.map (· / gOf Q)) n R ∧ ∀ p ∈ (Q.map fun p => p.map (· / gOf Q)), Pz k j p := by
  have nd := fun (p : List Int) (hp : p ∈ Q) => nm_div (h p hp).nm gOf_pos fun i => gOf_dvd hp i
  have gq : ((gOf Q : Int) : Rat) ≠ 0 := fun z => by
    have := Rat.intCast_eq_zero_iff.mp z
    have := gOf_pos (Q := Q)
    omega
  have gp : (0 : Rat) < ((gOf Q : Int) : Rat) := Rat.intCast_pos.mpr gOf_pos
  refine ⟨⟨by rw [List.length_map, ln], fun p hp => ?_, ?_, F / ((gOf Q : Int) : Rat), div_pos F0 gp, fun k p hk q => ?_⟩, fun p hp => ?_⟩
  · obtain ⟨p', hp', rfl⟩ := List.mem_map.mp hp
    exact (nd p' hp').1
  · have e := gLL_div (Q := Q) gOf_pos (fun p hp => (h p hp).nm) fun p hp i => gOf_dvd hp i
    have e1 : (1 : Int).natAbs = 1 := rfl
    rw [e1, Nat.mul_one] at e
    by_cases z : gLL Q = 0
    · rw [z] at e
      have : (gOf Q).natAbs ≠ 0 := by have := gOf_pos (Q := Q); omega
      rcases Nat.mul_eq_zero.mp e with w | w
      · omega
      · exact absurd w this
    · have eg : (gOf Q).natAbs = gLL Q := by unfold gOf; rw [Int.natAbs_natCast]; omega
      rw [eg] at e
      have : gLL (Q.map fun p => p.map (· / gOf Q)) * gLL Q = 1 * gLL Q := by rw [Nat.one_mul]; exact e
      exact Nat.le_of_eq (Nat.eq_of_mul_eq_mul_right (by omega) this)
  · rw [List.getElem?_map] at hk
    cases hq : Q[k]? with
    | none => rw [hq] at hk; cases hk
    | some p' =>
      rw [hq] at hk
      cases hk
      have e2 := (nd p' (List.mem_of_getElem? hq)).2 q
      have e := eq k p' hq q
      rw [← e2, Rat.intCast_mul] at e
      have i := Rat.inv_mul_cancel _ gq
      grind
  · obtain ⟨p', hp', rfl⟩ := List.mem_map.mp hp
    refine ⟨(nd p' hp').1, by rw [List.length_map]; exact (h p' hp').len, fun i => ?_⟩
    have e2 := (nd p' hp').2 i
    refine ((h p' hp').bd i).le ?_
    exact abs_mul_le (g := gOf Q) (by have := gOf_pos (Q := Q); omega) (by rw [← e2, Int.mul_comm])
theorem fn_maxI {S : Sto} {i j : Int} : fnE .max [.int i, .int j] S = .ok (.int (if j > i then j else i)) S := rfl
theorem gLL_take {Q : List (List Int)} {k : Nat} {p : List Int} (h : Q[k]? = some p) : gLL (Q.take (k + 1)) = Nat.gcd (gLL (Q.take k)) (gL p) := by
  have app : ∀ (A : List (List Int)) (p : List Int), gLL (A ++ [p]) = Nat.gcd (gLL A) (gL p) := fun A p => by
    induction A with
    | nil =>
      show Nat.gcd (gL p) 0 = Nat.gcd 0 (gL p)
      rw [Nat.gcd_zero_right, Nat.gcd_zero_left]
    | cons a A ih =>
      show Nat.gcd (gL a) (gLL (A ++ [p])) = Nat.gcd (Nat.gcd (gL a) (gLL A)) (gL p)
      rw [ih, Nat.gcd_assoc]
  rw [List.take_add_one, h]
  exact app _ _
structure RowD (S : Sto) (r : Nat) (Dn : Int) (R : Nat → Rat) (fs : List D) : Prop where
  at_ : S[r]? = some (.lst fs)
  len : fs.length ≤ 12
  fb : ∀ x ∈ fs, Fb 2833 x
  dv : ∀ x ∈ fs, den x ∣ Dn
  bd : ∀ x ∈ fs, Bd 330 (wholeF Dn x)
  nm : NmF fs
  eq : ∀ i, cf fs i = R i
theorem lcm_dvd {L d N : Int} (L0 : 0 < L) (d0 : 0 < d) (h1 : L ∣ N) (h2 : d ∣ N) : L * d / ((Nat.gcd L.natAbs d.natAbs : Nat) : Int) ∣ N := by
  obtain ⟨l, rfl⟩ : ∃ l : Nat, L = (l : Int) := ⟨L.toNat, by omega⟩
  obtain ⟨e, rfl⟩ : ∃ e : Nat, d = (e : Int) := ⟨d.toNat, by omega⟩
  rw [Int.natAbs_natCast, Int.natAbs_natCast, ← Int.natCast_mul, ← Int.natCast_ediv]
  have k1 : l ∣ N.natAbs := by have := Int.natAbs_dvd_natAbs.mpr h1; rwa [Int.natAbs_natCast] at this
  have k2 : e ∣ N.natAbs := by have := Int.natAbs_dvd_natAbs.mpr h2; rwa [Int.natAbs_natCast] at this
  have := Nat.lcm_dvd k1 k2
  exact Int.ofNat_dvd_left.mpr this
theorem whole_dvd {q : Nat} {x : D} {L Dn : Int} (f : Fb q x) (D0 : 0 < Dn) (L0 : 0 < L) (h1 : den x ∣ L) (h2 : L ∣ Dn) (b : Bd 330 (wholeF Dn x)) : Bd 330 (wholeF L x) := by
  obtain ⟨u, rfl⟩ := h1
  obtain ⟨w, rfl⟩ := h2
  have p := f.pos
  unfold wholeF at b ⊢
  rw [Int.mul_assoc, Int.mul_ediv_cancel_left _ (by omega)] at b
  rw [Int.mul_ediv_cancel_left _ (by omega)]
  by_cases w0 : w = 0
  · subst w0
    rw [Int.mul_zero] at D0
    exact absurd D0 (by decide)
  · refine b.le ?_
    rw [Int.natAbs_mul, Int.natAbs_mul, Int.natAbs_mul]
    have : 1 ≤ w.natAbs := by omega
    exact Nat.mul_le_mul_left _ (Nat.le_mul_of_pos_right _ this)
theorem rowD_of {S : Sto} {r : Nat} {R : Nat → Rat} {Dn : Int} (hr : RQ S r 2833 12 R) (D0 : 0 < Dn) (hA : ∀ i, ∃ A : Int, (A : Rat) = Dn * R i ∧ Bd 330 A) : ∃ fs, RowD S r Dn R fs := by
  obtain ⟨fs, f1, f2, f3, fn, f4⟩ := hr.ex
  have key : ∀ x ∈ fs, ∃ A : Int, (A : Rat) = Dn * v x ∧ Bd 330 A := fun x hx => by
    obtain ⟨i, hi⟩ := List.getElem?_of_mem hx
    obtain ⟨A, eA, bA⟩ := hA i
    refine ⟨A, ?_, bA⟩
    rw [eA, ← f4]
    unfold cf
    rw [gf_get hi]
  have dv : ∀ x ∈ fs, den x ∣ Dn := fun x hx => by
    obtain ⟨A, hi, _⟩ := key x hx
    have fb := f3 x hx
    have p := fb.pos
    have m := den_mul fb
    have e : A * den x = Dn * num x := Rat.intCast_inj.mp (by rw [Rat.intCast_mul, Rat.intCast_mul, hi, m]; grind)
    have d1 : (den x).natAbs ∣ Dn.natAbs * (num x).natAbs := by
      rw [← Int.natAbs_mul, ← e, Int.natAbs_mul]
      exact Nat.dvd_mul_left _ _
    have co : Nat.Coprime (den x).natAbs (num x).natAbs := by
      have := fb.red
      rw [Nat.gcd_comm] at this
      exact this
    exact Int.natAbs_dvd_natAbs.mp (co.dvd_of_dvd_mul_right d1)
  refine ⟨fs, f1, f2, f3, dv, fun x hx => ?_, fn, f4⟩
  obtain ⟨A, hi, bA⟩ := key x hx
  have e := whole_v (f3 x hx) (dv x hx)
  rw [← hi] at e
  rw [Rat.intCast_inj.mp e]
  exact bA
theorem comp_ref {p : Pg} {t : Tg} {it : It} {cs : List Ex} {elt : Ex} {own : List Nat} {ρ : Mini.Loc} {S : Sto} {P : D → Sto → Prop} {xs : List D} {G : Nat → List D → Prop} (hfuel : xs.length < p.fuel) (hlen : xs.length ≤ 100000)
    (hit : wp (evI p it ρ S) fun src S1 => Ext S S1 ∧ ∀ i S', Ext S1 S' → src i S' = srcL xs i S')
    (hf : ∀ k d, xs[k]? = some d → ∀ S', Ext S S' → wp (bodyC p t cs elt (wipeL ρ own) d S') fun r S'' => Ext S' S'' ∧ ∃ q, r = some (.ref q) ∧ S'.length ≤ q ∧ ∃ ys, S''[q]? = some (.lst ys) ∧ G k ys)
    (hP : ∀ (S' : Sto) (l : Nat) (qs : List Nat), Ext S S' → S.length ≤ l → S'[l]? = some (.lst (qs.map D.ref)) → qs.length = xs.length → (∀ k q, qs[k]? = some q → S.length ≤ q ∧ ∃ ys, S'[q]? = some (.lst ys) ∧ G k ys) → P (.ref l) S') : wp (evE p (.comp t it cs elt own) ρ S) P := by
  rw [wp_comp]
  refine wp_mono hit fun src S1 ⟨e1, hs⟩ => ?_
  have l1 := ext_len e1
  refine compN_wp (n := S1.length) xs (fun i zs S' => ∃ (qs : List Nat) (t : Sto), zs = qs.map D.ref ∧ qs.length = i ∧ S' = S1 ++ .lst zs :: t ∧ ∀ k q, qs[k]? = some q → S1.length < q ∧ ∃ ys, S'[q]? = some (.lst ys) ∧ G k ys) (fun i ys S' ⟨_, t, _, _, e, _⟩ => hs i S' ⟨_, e⟩)
    (fun i zs S' d ⟨qs, t, ez, lq, e, hq⟩ hd => ?_) (fun zs S' ⟨qs, t, ez, lq, e, hq⟩ => ?_) _ 0 [] _ (Nat.zero_le _) (by omega) ⟨[], [], rfl, rfl, by simp, fun k q hk => by simp at hk⟩
  · rw [wp_noex]
    subst e
    have hlt : i < xs.length := (List.getElem?_eq_some_iff.mp hd).1
    refine wp_mono (hf i d hd _ (e1.trans ⟨_, rfl⟩)) fun r S'' ⟨e2, q, er, q0, ys, hy, hG⟩ => ?_
    subst er
    have e2' := e2
    obtain ⟨t', et⟩ := e2
    have hz : S''[S1.length]? = some (.lst zs) := e2'.get (by simp)
    have q1 : S1.length < q := by simp at q0; omega
    have lz : zs.length = i := by rw [ez, List.length_map, lq]
    refine ⟨lst_c hz, lineBig (by omega), qs ++ [q], t ++ t', by rw [ez, List.map_append]; rfl, by simp [lq], ?_, fun k q' hk => ?_⟩
    · rw [et, show S1 ++ Mini.Cl.lst zs :: t ++ t' = S1 ++ Mini.Cl.lst zs :: (t ++ t') by simp, mid_set]
    · rcases Nat.lt_or_ge k qs.length with k1 | k1
      · rw [List.getElem?_append_left k1] at hk
        obtain ⟨a, ys', b, c⟩ := hq k q' hk
        exact ⟨a, ys', by rw [List.getElem?_set_ne (by omega)]; exact e2'.get b, c⟩
      · have hk' := (List.getElem?_eq_some_iff.mp hk).1
        have ek : k = qs.length := by simp at hk'; omega
        subst ek
        rw [List.getElem?_append_right (Nat.le_refl _), Nat.sub_self] at hk
        cases hk
        exact ⟨q1, ys, by rw [List.getElem?_set_ne (by omega)]; exact hy, by rw [lq]; exact hG⟩
  · subst e
    exact hP _ _ qs (e1.trans ⟨_, rfl⟩) l1 (by rw [← ez]; simp) lq fun k q hk => by
      obtain ⟨a, b⟩ := hq k q hk
      exact ⟨by omega, b⟩
end K74
namespace K74
open PySem Mini
theorem gL_take {xs : List Int} {t : Nat} {x : Int} (h : xs[t]? = some x) : gL (xs.take (t + 1)) = Nat.gcd (gL (xs.take t)) x.natAbs := by
  rw [List.take_add_one, h]
  show gL (xs.take t ++ [x]) = _
  rw [gL_app]
  show Nat.gcd _ (Nat.gcd 0 x.natAbs) = _
  rw [Nat.gcd_zero_left]
set_option maxHeartbeats 2000000 in
theorem t_lthin {n : Nat} (hn : 3 ≤ n) {l0 : Nat} {rs : List Nat} {FL : List (List D)} {R : Nat → Nat → Rat} {Dn : Int} {S : Sto} (D0 : 0 < Dn) (bD : Bd 300 Dn) (hl0 : S[l0]? = some (.lst (rs.map D.ref))) {nR : Nat} (nR9 : nR ≤ 100) (l4 : rs.length = nR) (lF : FL.length = nR) (hr : ∀ (k r : Nat) (fs : List D), rs[k]? = some r → FL[k]? = some fs → RowD S r Dn (R k) fs) (nz : ∃ fs ∈ FL, fs ≠ []) :
    wp ((P n).call 35 [.ref l0] S) fun d S' => Ext S S' ∧ ∃ (l : Nat) (ps : List Nat) (Q : List (List Int)), d = .ref l ∧ S'[l]? = some (.lst (ps.map D.ref)) ∧ ps.length = Q.length ∧ (∀ (k q : Nat) (p : List Int), ps[k]? = some q → Q[k]? = some p → S'[q]? = some (.lst (ip p))) ∧ PrimL Q nR R ∧ ∀ p ∈ Q, Pz 330 12 p := by
  obtain ⟨m, rfl, hm⟩ := up hn
  rw [cP m 35 b35 rfl]
  refine wp_run rfl ?_
  show wp (evSs (P m) b35.body [some (.ref l0), none, none, none, none, none] S) _
  unfold b35
  rw [wp_sC]
  simp_arith [wp_gt, seqD, List.length_cons, List.length_nil, wp_gsC, wp_gsN, if_true, wp_for, wp_iv]
  refine ⟨_, src_ref hl0, ?_⟩
  have fu : ∀ q, q ≤ 900 → q < (P m).fuel := fun q hq => fuelBig (by omega)
  have lD : ∀ {L : Int}, 0 < L → L ∣ Dn → Bd 300 L := fun {L} L0 hd => bD.le (by have := Int.le_of_dvd D0 hd; omega)
  have gF : ∀ k, k < nR → ∃ fs, FL[k]? = some fs := fun k hk => ⟨_, List.getElem?_eq_getElem (by omega)⟩
  refine for_calm (xs := rs.map D.ref) (fun i ρ' => ∃ (L : Int) (a b : Option D), ρ' = [some (.ref l0), a, none, some (.int L), some (.int 0), b] ∧ 0 < L ∧ L ∣ Dn ∧ ∀ (k : Nat) (fs : List D), FL[k]? = some fs → k < i → ∀ x ∈ fs, den x ∣ L) hl0 (fu _ (by rw [List.length_map]; omega)) ⟨1, none, none, rfl, by decide, Int.one_dvd _, fun k r _ h => by omega⟩ ?_ ?_
  · rintro i ρ' d ⟨L, a, b, rfl, L0, LD, hL⟩ hd
    rw [List.getElem?_map] at hd
    cases hri : rs[i]? with
    | none => rw [hri] at hd; cases hd
    | some r =>
      rw [hri] at hd
      cases hd
      obtain ⟨fs, gf'⟩ := gF i (by have := (List.getElem?_eq_some_iff.mp hri).1; omega)
      have W := hr i r fs hri gf'
      simp only [wp_bind, wp_gn, List.set_cons_zero, List.set_cons_succ, wp_sC, wp_for, wp_iv, wp_var, List.getElem?_cons_zero, List.getElem?_cons_succ, Option.some.injEq, exists_eq_left']
      refine ⟨_, src_ref W.at_, ?_⟩
      refine for_calm (xs := fs) (fun t ρ' => ∃ (L' : Int) (b : Option D), ρ' = [some (.ref l0), some (.ref r), none, some (.int L'), some (.int 0), b] ∧ 0 < L' ∧ L' ∣ Dn ∧ L ∣ L' ∧ ∀ x ∈ fs.take t, den x ∣ L') W.at_ (fu _ (by have := W.len; omega)) ⟨L, b, rfl, L0, LD, Int.dvd_refl _, by simp⟩ ?_ ?_
      · rintro t ρ' d ⟨L', b', rfl, L0', LD', LL, hL'⟩ hd
        have fd := W.fb d (List.mem_of_getElem? hd)
        have dd := W.dv d (List.mem_of_getElem? hd)
        have ed := fd.eq
        have e1 : ∀ {S : Sto}, ixE S d (.int 1) = some (.int (den d)) := fun {S} => by rw [ed]; rfl
        have bL := lD L0' LD'
        simp_arith [wp_bind, e1]
        refine wp_mono (t_gcd (by omega) (fd.bd.lt9000 (by omega))) fun r' S1 ⟨er, es⟩ => ?_
        subst er es
        have p := fd.pos
        have g0 : 0 < Nat.gcd L'.natAbs (den d).natAbs := Nat.gcd_pos_of_pos_right _ (by omega)
        have gi : (0 : Int) < ((Nat.gcd L'.natAbs (den d).natAbs : Nat) : Int) := by omega
        have gb : Bd 2833 ((Nat.gcd L'.natAbs (den d).natAbs : Nat) : Int) := fd.bd.le (by rw [Int.natAbs_natCast]; exact Nat.le_of_dvd (by omega) (Nat.gcd_dvd_right _ _))
        have bq : Bd 300 (L' / ((Nat.gcd L'.natAbs (den d).natAbs : Nat) : Int)) := bL.le (Int.natAbs_ediv_le_natAbs _ _)
        simp_arith [e1, big_div gi gb (by omega), big_mul bq fd.bd (by omega)]
        have em : L' / ((Nat.gcd L'.natAbs (den d).natAbs : Nat) : Int) * den d = L' * den d / ((Nat.gcd L'.natAbs (den d).natAbs : Nat) : Int) := by
          obtain ⟨a, ha⟩ : ((Nat.gcd L'.natAbs (den d).natAbs : Nat) : Int) ∣ L' := Int.ofNat_dvd_left.mpr (Nat.gcd_dvd_left _ _)
          generalize ((Nat.gcd L'.natAbs (den d).natAbs : Nat) : Int) = g at *
          rw [ha, Int.mul_ediv_cancel_left _ (by omega), Int.mul_assoc, Int.mul_ediv_cancel_left _ (by omega)]
        rw [em]
        obtain ⟨q1, q2, q3⟩ := lcm_step L0' (show 0 < den d by omega)
        have q4 : L' * den d / ((Nat.gcd L'.natAbs (den d).natAbs : Nat) : Int) ∣ Dn := lcm_dvd L0' (by omega) LD' dd
        refine ⟨trivial, _, rfl, _, some d, rfl, q1, q4, Int.dvd_trans LL q2, fun x hx => ?_⟩
        rw [List.take_add_one, hd] at hx
        rcases List.mem_append.mp hx with hx | hx
        · exact Int.dvd_trans (hL' x hx) q2
        · have : x = d := by simpa using hx
          rw [this]; exact q3
      · rintro ρ' ⟨L', b', rfl, L0', LD', LL, hL'⟩
        simp only [fl_nx, wp_sN]
        rw [List.take_length] at hL'
        refine ⟨trivial, _, by first | rfl | trivial, L', _, b', by first | rfl | trivial, L0', LD', fun k fs' hk hk2 x hx => ?_⟩
        rcases Nat.lt_or_ge k i with k1 | k1
        · exact Int.dvd_trans (hL k fs' hk k1 x hx) LL
        · have : k = i := by omega
          subst this
          rw [gf'] at hk
          cases hk
          exact hL' x hx
  · rintro ρ' ⟨L, a, b, rfl, L0, LD, hL⟩
    rw [List.length_map] at hL
    have bL := lD L0 LD
    have hL : ∀ (k : Nat) (fs : List D), FL[k]? = some fs → ∀ x ∈ fs, den x ∣ L := fun k fs hk => hL k fs hk (by have := (List.getElem?_eq_some_iff.mp hk).1; omega)
    simp only [fl_nx, wp_sC, wp_asg]
    refine comp_ref (G := fun k ys => ∃ fs, FL[k]? = some fs ∧ ys = ip (fs.map (wholeF L))) (xs := rs.map D.ref) (fu _ (by rw [List.length_map]; omega)) (by rw [List.length_map]; omega) (it_ref ?_) (fun k d hd S' e => bodyC_pure ?_) fun S2 l2 qs eS2 _ s2a lq hq => ?_
    · simp_arith [wp_ok]
      exact ⟨.refl, l0, rfl, hl0⟩
    · rw [List.getElem?_map] at hd
      cases hri : rs[k]? with
      | none => rw [hri] at hd; cases hd
      | some r =>
        rw [hri] at hd
        cases hd
        obtain ⟨fs, gf'⟩ := gF k (by have := (List.getElem?_eq_some_iff.mp hri).1; omega)
        have W := hr k r fs hri gf'
        simp only [wipeL, List.foldl_cons, List.foldl_nil, List.set_cons_zero, List.set_cons_succ]
        refine comp_fm (g := fun d => some (.int (wholeF L d))) (xs := fs) (fu _ (by have := W.len; omega)) (by have := W.len; omega) (it_ref ?_) (fun d hd S' e => bodyC_pure ?_) fun A t e' => ?_
        · simp_arith [wp_ok]
          exact ⟨.refl, r, rfl, e.get W.at_⟩
        · have fd := W.fb d hd
          have ed := fd.eq
          have e1 : ∀ {S : Sto}, ixE S d (.int 1) = some (.int (den d)) := fun {S} => by rw [ed]; rfl
          have e0 : ∀ {S : Sto}, ixE S d (.int 0) = some (.int (num d)) := fun {S} => by rw [ed]; rfl
          have p := fd.pos
          simp only [wipeL, List.foldl_cons, List.foldl_nil]
          simp_arith [e0, e1, big_div (show 0 < den d by omega) fd.bd (by omega), big_mul fd.bn (bL.le (Int.natAbs_ediv_le_natAbs L (den d))) (by omega)]
          exact ⟨rfl, .refl⟩
        · rw [fm_map (f := fun d => D.int (wholeF L d))]
          have ew : (fs.map fun d => D.int (wholeF L d)) = ip (fs.map (wholeF L)) := by
            unfold ip
            rw [List.map_map]; rfl
          rw [ew]
          exact ⟨e'.trans ⟨_, rfl⟩, _, rfl, ext_len e', _, by simp, fs, gf', rfl⟩
    · rw [List.length_map] at lq
      have eW : ∀ (k : Nat) (fs : List D), FL[k]? = some fs → (FL.map fun fs => fs.map (wholeF L))[k]? = some (fs.map (wholeF L)) := fun k fs h => by rw [List.getElem?_map, h]; rfl
      have WLl : (FL.map fun fs => fs.map (wholeF L)).length = nR := by rw [List.length_map, lF]
      have wp1 : ∀ (k : Nat) (p : List Int), (FL.map fun fs => fs.map (wholeF L))[k]? = some p → Pz 330 12 p ∧ ∀ q, (coef p q : Rat) = (L : Rat) * R k q := fun k p hp => by
        rw [List.getElem?_map] at hp
        cases hk : FL[k]? with
        | none => rw [hk] at hp; cases hp
        | some fs =>
          rw [hk] at hp
          cases hp
          have kl := (List.getElem?_eq_some_iff.mp hk).1
          have W := hr k _ fs (List.getElem?_eq_getElem (show k < rs.length by omega)) hk
          have val : ∀ i, (coef (fs.map (wholeF L)) i : Rat) = (L : Rat) * R k i := fun i => by
            rw [coef_fs, ← W.eq]
            by_cases hi : i < fs.length
            · have hm := List.mem_of_getElem? (gf_of hi)
              exact whole_v (W.fb _ hm) (hL k fs hk _ hm)
            · have e1 : gf fs i = fz := by unfold gf; rw [List.getElem?_eq_none (by omega)]; rfl
              unfold cf
              rw [e1, fz_v]
              show ((0 * (L / 1) : Int) : Rat) = _
              rw [Int.zero_mul, Rat.mul_zero]; rfl
          refine ⟨⟨?_, by rw [List.length_map]; exact W.len, fun i => ?_⟩, val⟩
          · refine nm_of ?_
            rcases W.nm with e | e
            · left; rw [e]; rfl
            · right
              rw [List.length_map]
              intro z
              have := val (fs.length - 1)
              rw [z] at this
              have Lq : (L : Rat) ≠ 0 := fun z => by
                have := Rat.intCast_eq_zero_iff.mp z
                omega
              rw [← W.eq] at this
              exact e (r_cancel Lq this)
          · rw [coef_fs]
            by_cases hi : i < fs.length
            · have hm := List.mem_of_getElem? (gf_of hi)
              exact whole_dvd (W.fb _ hm) D0 L0 (hL k fs hk _ hm) LD (W.bd _ hm)
            · have e1 : gf fs i = fz := by unfold gf; rw [List.getElem?_eq_none (by omega)]; rfl
              rw [e1]
              show Bd 330 (0 * (L / 1))
              rw [Int.zero_mul]
              exact .zero
      have wn1 : ∃ p ∈ (FL.map fun fs => fs.map (wholeF L)), p ≠ [] := by
        obtain ⟨fs, h1, h2⟩ := nz
        exact ⟨_, List.mem_map.mpr ⟨fs, h1, rfl⟩, fun e => h2 (List.map_eq_nil_iff.mp e)⟩
      have hq : ∀ (k q : Nat) (p : List Int), qs[k]? = some q → (FL.map fun fs => fs.map (wholeF L))[k]? = some p → S2[q]? = some (Mini.Cl.lst (ip p)) := fun k q p hk hp => by
        obtain ⟨_, ys, h1, fs, h2, h3⟩ := hq k q hk
        rw [eW k fs h2] at hp
        cases hp
        rw [h1, h3]
      generalize (FL.map fun fs => fs.map (wholeF L)) = WL at *
      have pz : ∀ p ∈ WL, Pz 330 12 p := fun p hp => by
        obtain ⟨k, hk⟩ := List.getElem?_of_mem hp
        exact (wp1 k p hk).1
      have gW : ∀ k, k < nR → ∃ p, WL[k]? = some p := fun k hk => ⟨_, List.getElem?_eq_getElem (by omega)⟩
      simp only [wp_gn, List.set_cons_zero, List.set_cons_succ, fl_nx, wp_sC, wp_for, wp_iv, wp_var, List.getElem?_cons_zero, List.getElem?_cons_succ, Option.some.injEq, exists_eq_left']
      refine ⟨_, src_ref s2a, ?_⟩
      refine for_calm (xs := qs.map D.ref) (fun i ρ' => ∃ (a b : Option D), ρ' = [some (.ref l0), a, some (.ref l2), some (.int L), some (.int ((gLL (WL.take i) : Nat) : Int)), b]) s2a (fu _ (by rw [List.length_map]; omega)) ⟨a, b, rfl⟩ ?_ ?_
      · rintro i ρ' d ⟨a, b, rfl⟩ hd
        rw [List.getElem?_map] at hd
        cases hqi : qs[i]? with
        | none => rw [hqi] at hd; cases hd
        | some q =>
          rw [hqi] at hd
          cases hd
          obtain ⟨p, gp⟩ := gW i (by have := (List.getElem?_eq_some_iff.mp hqi).1; omega)
          have h2 := hq i q p hqi gp
          have pzp := pz p (List.mem_of_getElem? gp)
          simp only [wp_bind, wp_gn, List.set_cons_zero, List.set_cons_succ, wp_sC, wp_for, wp_iv, wp_var, List.getElem?_cons_zero, List.getElem?_cons_succ, Option.some.injEq, exists_eq_left']
          refine ⟨_, src_ref h2, ?_⟩
          refine for_calm (xs := ip p) (fun t ρ' => ∃ (b : Option D), ρ' = [some (.ref l0), some (.ref q), some (.ref l2), some (.int L), some (.int ((Nat.gcd (gLL (WL.take i)) (gL (p.take t)) : Nat) : Int)), b]) h2 (fu _ (by rw [ip_len]; have := pzp.len; omega)) ⟨b, by
            show _ = [_, _, _, _, some (D.int ((Nat.gcd (gLL (WL.take i)) 0 : Nat) : Int)), _]
            rw [Nat.gcd_zero_right]⟩ ?_ ?_
          · rintro t ρ' d ⟨b', rfl⟩ hd
            rw [ip_get] at hd
            cases hx : p[t]? with
            | none => rw [hx] at hd; cases hd
            | some x =>
              rw [hx] at hd
              cases hd
              have bx : Bd 330 x := by rw [← coef_get hx]; exact pzp.bd t
              simp_arith [wp_bind]
              refine wp_mono (t_gcd (by omega) (bx.lt9000 (by omega))) fun r' S1 ⟨er, es⟩ => ?_
              subst er es
              refine ⟨rfl, _, rfl, some (.int x), ?_⟩
              rw [gL_take hx, Int.natAbs_natCast, Nat.gcd_assoc]
          · rintro ρ' ⟨b', rfl⟩
            simp only [fl_nx, wp_sN]
            rw [ip_len, List.take_length, ← gLL_take gp]
            exact ⟨by first | rfl | trivial, _, by first | rfl | trivial, _, b', by first | rfl | trivial⟩
      · rintro ρ' ⟨a, b, rfl⟩
        rw [List.length_map, show qs.length = WL.length by omega, List.take_length]
        have gz : gLL WL ≠ 0 := fun z => by
          obtain ⟨p, hp, hne⟩ := wn1
          exact nm_last (pz p hp).nm hne (gLL_zero z hp _)
        have eg : ((gLL WL : Nat) : Int) = gOf WL := by unfold gOf; omega
        rw [eg]
        have gpi := gOf_pos (Q := WL)
        have gb := gOf_bd pz
        obtain ⟨pr1, pr2⟩ := primL_of (F := (L : Rat)) (R := R) (Rat.intCast_pos.mpr L0) pz WLl fun k p hk => (wp1 k p hk).2
        simp only [fl_nx, wp_sC, wp_ret]
        refine comp_ref (G := fun k ys => ∃ p, WL[k]? = some p ∧ ys = ip (p.map (· / gOf WL))) (xs := qs.map D.ref) (fu _ (by rw [List.length_map]; omega)) (by rw [List.length_map]; omega) (it_ref ?_) (fun k d hd S' e => bodyC_pure ?_) fun S3 l3 ps eS3 _ s3a lp hp => ?_
        · simp_arith [wp_ok]
          exact ⟨.refl, l2, rfl, s2a⟩
        · rw [List.getElem?_map] at hd
          cases hqi : qs[k]? with
          | none => rw [hqi] at hd; cases hd
          | some q =>
            rw [hqi] at hd
            cases hd
            obtain ⟨p, gp⟩ := gW k (by have := (List.getElem?_eq_some_iff.mp hqi).1; omega)
            have h2 := e.get (hq k q p hqi gp)
            have lw := (pz p (List.mem_of_getElem? gp)).len
            simp only [wipeL, List.foldl_cons, List.foldl_nil, List.set_cons_zero, List.set_cons_succ, wp_call, wp_cons, wp_nil]
            refine comp_fm (g := fun d => some (.int (dI d / gOf WL))) (xs := ip p) (fu _ (by rw [ip_len]; omega)) (by rw [ip_len]; omega) (it_ref ?_) (fun d hd S' e => bodyC_pure ?_) fun A2 t2 e2 => ?_
            · simp_arith [wp_ok]
              exact ⟨.refl, q, rfl, h2⟩
            · obtain ⟨x, hxm, rfl⟩ := List.mem_map.mp hd
              simp only [wipeL, List.foldl_cons, List.foldl_nil]
              simp_arith [big_div gpi gb (by omega)]
              exact ⟨rfl, .refl⟩
            · have ez : (ip p).filterMap (fun d => some (D.int (dI d / gOf WL))) = ip (p.map (· / gOf WL)) := by
                rw [fm_map (f := fun d => D.int (dI d / gOf WL))]
                unfold ip
                rw [List.map_map, List.map_map]
                rfl
              rw [ez]
              exact ⟨e2.trans ⟨_, rfl⟩, _, rfl, ext_len e2, _, by simp, p, gp, rfl⟩
        · rw [List.length_map] at lp
          rw [fl_rt, ed_rt]
          refine ⟨eS2.trans eS3, l3, ps, WL.map fun p => p.map (· / gOf WL), rfl, s3a, by rw [List.length_map]; omega, fun k q p hk hpk => ?_, pr1, pr2⟩
          obtain ⟨_, ys, hy, p', hp', rfl⟩ := hp k q hk
          rw [List.getElem?_map, hp'] at hpk
          cases hpk
          exact hy
end K74
namespace K74
open PySem Mini
/-! ### the law's end -/
theorem lend_tells {r : Ds} {bs : List Ds} (h : Mac 20 1 r bs) {zs : List Int} {x : Rat} (x0 : 0 < x) (nm : Nm zs) (g : gL zs ≤ 1) (e : ∀ q, (coef zs q : Rat) = x * (Mk r bs 0).2 q) : Tells zs (endV r bs) := by
  have hp : ∀ j, j < bs.length + 1 → mP bs j < (j : Int) := fun j hj => (h.mz (by decide) hj).p
  refine ⟨nm, g, x, x0, fun y => ?_⟩
  obtain ⟨m, _, v2, _, h2⟩ := mC_at (I := mI r bs) (W := mW r bs) (S := mS bs) hp (x := y) (show 0 < bs.length + 1 by omega)
  have h2' : hs m (Mk r bs 0).2 y = endV r bs y := h2
  rw [← h2', hor_hs (n := max zs.length m) (by omega), ← hs_up (n := m) (m := max zs.length m) (f := (Mk r bs 0).2) v2 (by omega)]
  rw [hs_ext (g := fun i => x * (Mk r bs 0).2 i) fun i _ => e i, hs_mul]
theorem lend_nz {r : Ds} {bs : List Ds} (h : Mac 20 1 r bs) (z : ∀ i, (Mk r bs 0).2 i = 0) : False := by
  have hp : ∀ j, j < bs.length + 1 → mP bs j < (j : Int) := fun j hj => (h.mz (by decide) hj).p
  obtain ⟨m, _, v2, _, h2⟩ := mC_at (I := mI r bs) (W := mW r bs) (S := mS bs) hp (x := -1) (show 0 < bs.length + 1 by omega)
  have p := (mV_pos (I := mI r bs) (W := mW r bs) (S := mS bs) hp (fun k hk => (h.mz (by decide) hk).i.2) (fun k hk => (h.mz (by decide) hk).w.2) (fun k hk => (h.mz (by decide) hk).s.2) (k := 0) (by omega)).2
  have h2' : hs m (Mk r bs 0).2 (-1) = _ := h2
  rw [← h2', hs_zero z] at p
  exact absurd p (by decide)
theorem t_lend {n : Nat} (hn : 12 ≤ n) {r : Ds} {bs : List Ds} {S : Sto} (h : Mac 4 2 r bs) : wp ((P n).call 42 [maD r bs] S) fun d S' => Ext S S' ∧ ∃ l zs, d = .ref l ∧ S'[l]? = some (.lst (ip zs)) ∧ Pz 330 12 zs ∧ Tells zs (endV r (outB bs)) := by
  obtain ⟨m, rfl, hm⟩ := up (show 1 ≤ n by omega)
  rw [cP m 42 b42 rfl]
  refine wp_run rfl ?_
  show wp (evSs (P m) b42.body [some (maD r bs)] S) _
  have ho : Mac 20 1 r (outB bs) := h.out
  have l4 := ho.len
  have hp : ∀ j, j < (outB bs).length + 1 → mP (outB bs) j < (j : Int) := fun j hj => (ho.mz (by decide) hj).p
  have mz := fun {q : Nat} (hq : q < (outB bs).length + 1) => ho.mz (by decide) hq
  unfold b42
  rw [wp_sC]
  simp_all_arith [wp_ok]
  refine wp_mono (t_lout (by omega) h) fun d S1 ⟨ed, e1⟩ => ?_
  subst ed
  try simp_all_arith [wp_ok]
  refine wp_mono (t_lparts ho 5 (k := 0) (by omega) (by omega) (by omega)) fun d S2 ⟨e2, t, u, ed, rt, ru⟩ => ?_
  subst ed
  have y1 : ∀ {S : Sto}, ixE S (.tup [.ref t, .ref u]) (.int 1) = some (.ref u) := fun {S} => rfl
  simp_all_arith [y1]
  have gd : GdM (Mk r (outB bs) 0) _ := mC_gd hp (fun k hk => (mz hk).i.1) (fun k hk => (mz hk).w.1) (fun k hk => (mz hk).s.1) (show 0 < (outB bs).length + 1 by omega)
  have c5 := cnt_leN hp (show 0 < (outB bs).length + 1 by omega)
  obtain ⟨E, E0, bE, _, t2⟩ := gd.tt (by omega)
  have e3 : Ext S2 (S2 ++ [Mini.Cl.lst [.ref u]]) := .one
  have n3 : (S2 ++ [Mini.Cl.lst [.ref u]])[S2.length]? = some (.lst ([u].map D.ref)) := at_new
  obtain ⟨fs, hf⟩ := rowD_of ((ru.ext e3).up (show 360 ≤ 2833 by decide) (show 10 ≤ 12 by decide)) E0 fun i => by
    obtain ⟨A, eA, bA⟩ := t2 i
    exact ⟨A, eA, bA.mono (by omega)⟩
  have nz : fs ≠ [] := fun z => lend_nz ho fun i => by
    rw [← hf.eq i, z]; exact fz_v
  refine wp_mono (t_lthin (nR := 1) (R := fun _ => (Mk r (outB bs) 0).2) (FL := [fs]) (by omega) E0 (bE.mono (by omega)) n3 (by decide) rfl rfl (fun k r' fs' hk hf' => ?_) ⟨fs, by simp, nz⟩) fun d S4 ⟨e4, l, ps, Q, ed, hl, lp, hq, pr, pz⟩ => ?_
  · cases k with
    | zero =>
      cases hk; cases hf'
      exact hf
    | succ k => simp at hk
  · subst ed
    obtain ⟨zs, rfl⟩ : ∃ zs, Q = [zs] := by
      have := pr.len
      match Q, this with
      | [zs], _ => exact ⟨zs, rfl⟩
    obtain ⟨q, rfl⟩ : ∃ q, ps = [q] := by
      match ps, lp with
      | [q], _ => exact ⟨q, rfl⟩
    have x0 : ixE S4 (.ref l) (.int 0) = some (.ref q) := by rw [ix_c hl]; rfl
    simp_all_arith [x0]
    obtain ⟨x, xp, ex⟩ := pr.eq
    refine ⟨((e1.trans e2).trans e3).trans e4, q, zs, rfl, hq 0 q zs rfl rfl, pz zs (by simp), lend_tells ho xp (pr.nm zs (by simp)) ?_ (ex 0 zs rfl)⟩
    have := pr.one
    show gL zs ≤ 1
    have e : gLL [zs] = Nat.gcd (gL zs) 0 := rfl
    rw [e, Nat.gcd_zero_right] at this
    exact this
/-! ### geared out twice, other signs, times a number -/
theorem pth_congr {h h' : Ds → Rat} {bs bs' : List Ds} (t : Tree bs) (t' : Tree bs') (hl : bs.length = bs'.length) (e : ∀ (k : Nat) (b b' : Ds), bs[k]? = some b → bs'[k]? = some b' → b.p = b'.p ∧ h b = h' b') : ∀ n k, k ≤ n → k ≤ bs.length → pth h bs k = pth h' bs' k
  | n, 0, _, _ => rfl
  | 0, k + 1, hk, _ => by omega
  | n + 1, k + 1, hk, kl => by
    have hb := List.getElem?_eq_getElem (show k < bs.length by omega)
    have hb' := List.getElem?_eq_getElem (show k < bs'.length by omega)
    obtain ⟨e1, e2⟩ := e k _ _ hb hb'
    have tp := t k _ hb
    rw [pth_s t hb, pth_s t' hb', ← e1, ← e2, pth_congr t t' hl e n _ (by omega) (by omega)]
theorem outB_ext {bs bs' : List Ds} (t : Tree bs) (t' : Tree bs') (hl : bs.length = bs'.length) (e : ∀ (k : Nat) (b b' : Ds), bs[k]? = some b → bs'[k]? = some b' → b.i = b'.i ∧ b.w = b'.w ∧ b.p = b'.p ∧ b.s = b'.s ∧ b.g * b.g = b'.g * b'.g) : outB bs = outB bs' := by
  refine List.ext_getElem? fun k => ?_
  rcases Nat.lt_or_ge k bs.length with h | h
  · have hb := List.getElem?_eq_getElem h
    have hb' := List.getElem?_eq_getElem (show k < bs'.length by omega)
    obtain ⟨e1, e2, e3, e4, _⟩ := e k _ _ hb hb'
    rw [outB_get hb, outB_get hb']
    unfold outD
    have eq : sq bs (k + 1) = sq bs' (k + 1) := pth_congr t t' hl (fun k b b' h1 h2 => ⟨(e k b b' h1 h2).2.2.1, (e k b b' h1 h2).2.2.2.2⟩) (k + 1) (k + 1) (Nat.le_refl _) (by omega)
    rw [e1, e2, e3, e4, eq]
  · rw [List.getElem?_eq_none (by rw [outB_len]; exact h), List.getElem?_eq_none (by rw [outB_len]; omega)]
theorem outB_out {bs : List Ds} (t : Tree bs) : outB (outB bs) = outB bs := by
  have g : ∀ (k : Nat) (b : Ds), (outB bs)[k]? = some b → b.p ≤ k ∧ b.g = 1 ∧ (outB bs)[k]? = some b := fun k b hb => by
    have kl := (List.getElem?_eq_some_iff.mp hb).1
    rw [outB_len] at kl
    have hb' := List.getElem?_eq_getElem kl
    have := t k _ hb'
    have e := outB_get hb'
    rw [hb] at e
    cases e
    exact ⟨this, rfl, hb⟩
  have t' : Tree (outB bs) := fun k b hb => (g k b hb).1
  have one : ∀ n k, k ≤ n → k ≤ (outB bs).length → sq (outB bs) k = 1 := by
    intro n
    induction n with
    | zero => intro k hk _; rw [show k = 0 by omega]; rfl
    | succ n ih =>
      intro k hk kl
      cases k with
      | zero => rfl
      | succ k =>
        have hb := List.getElem?_eq_getElem (show k < (outB bs).length by omega)
        obtain ⟨p, q, _⟩ := g k _ hb
        unfold sq
        rw [pth_s t' hb, q]
        have := ih _ (Nat.le_trans p (by omega)) (by omega)
        unfold sq at this
        rw [this, Rat.mul_one, Rat.mul_one]
  refine List.ext_getElem? fun k => ?_
  rcases Nat.lt_or_ge k (outB bs).length with h | h
  · have hb := List.getElem?_eq_getElem h
    rw [outB_get hb, one (k + 1) (k + 1) (Nat.le_refl _) (by omega), hb]
    obtain ⟨_, q, _⟩ := g k _ hb
    generalize (outB bs)[k]'h = b at q
    congr 1
    unfold outD
    rw [Rat.mul_one, Rat.mul_one, Rat.mul_one, ← q]
  · rw [List.getElem?_eq_none (by rw [outB_len]; exact h), List.getElem?_eq_none h]
/-- all inertias and stiffnesses times a number -/
def groD (x : Rat) (b : Ds) : Ds := ⟨b.i * x, b.w * x, b.p, b.s * x, b.g⟩
theorem mac_gro {r : Ds} {bs : List Ds} {x : Rat} (h : Mac 4 2 r bs) (hx : Rb 4 x) (x0 : 0 < x) : Mac 8 2 (groD x r) (bs.map (groD x)) := by
  refine ⟨by rw [List.length_map]; exact h.len, ⟨(by_frq h.ri.1 hx).2, Rat.mul_pos h.ri.2 x0⟩, ⟨(by_frq h.rw.1 hx).2, Rat.mul_nonneg h.rw.2 (Rat.le_of_lt x0)⟩, fun k b hb => ?_⟩
  rw [List.getElem?_map] at hb
  cases hk : bs[k]? with
  | none => rw [hk] at hb; cases hb
  | some d =>
    rw [hk] at hb
    cases hb
    have o := h.br k d hk
    exact ⟨⟨(by_frq o.i.1 hx).2, Rat.mul_pos o.i.2 x0⟩, ⟨(by_frq o.w.1 hx).2, Rat.mul_nonneg o.w.2 (Rat.le_of_lt x0)⟩, o.p, ⟨(by_frq o.s.1 hx).2, Rat.mul_pos o.s.2 x0⟩, o.g⟩
theorem end_gro {r : Ds} {bs : List Ds} {x : Rat} (h : Mac 4 2 r bs) (x0 : 0 < x) : ∃ c : Rat, 0 < c ∧ ∀ y, endV (groD x r) (outB (bs.map (groD x))) y = c * endV r (outB bs) y := by
  have t := h.tree
  have t' : Tree (bs.map (groD x)) := fun k b hb => by
    rw [List.getElem?_map] at hb
    cases hk : bs[k]? with
    | none => rw [hk] at hb; cases hb
    | some d =>
      rw [hk] at hb
      cases hb
      exact t k d hk
  have ho : Mac 20 1 r (outB bs) := h.out
  have hp : ∀ j, j < (outB bs).length + 1 → mP (outB bs) j < (j : Int) := fun j hj => (ho.mz (by decide) hj).p
  have eo : outB (bs.map (groD x)) = (outB bs).map (groD x) := by
    refine List.ext_getElem? fun k => ?_
    rcases Nat.lt_or_ge k bs.length with h | h
    · have hb := List.getElem?_eq_getElem h
      have hb' : (bs.map (groD x))[k]? = some (groD x (bs[k]'h)) := by rw [List.getElem?_map, hb]; rfl
      rw [outB_get hb', List.getElem?_map, outB_get hb]
      have eq : sq (bs.map (groD x)) (k + 1) = sq bs (k + 1) := pth_congr t' t (by rw [List.length_map]) (fun k b b' h1 h2 => by
        rw [List.getElem?_map, h2] at h1
        cases h1
        exact ⟨rfl, rfl⟩) (k + 1) (k + 1) (Nat.le_refl _) (by rw [List.length_map]; omega)
      rw [eq]
      generalize bs[k]'h = b
      generalize sq bs (k + 1) = z
      show some (Ds.mk (b.i * x * z) (b.w * x * z) b.p (b.s * x * z) 1) = some (Ds.mk (b.i * z * x) (b.w * z * x) b.p (b.s * z * x) 1)
      rw [show b.i * x * z = b.i * z * x by grind, show b.w * x * z = b.w * z * x by grind, show b.s * x * z = b.s * z * x by grind]
    · rw [List.getElem?_eq_none (by rw [outB_len, List.length_map]; exact h), List.getElem?_eq_none (by rw [List.length_map, outB_len]; exact h)]
  rw [eo]
  have gt : ∀ k, k < (outB bs).length → ((outB bs).map (groD x))[k]?.getD ⟨0, 0, 0, 0, 0⟩ = groD x ((outB bs)[k]?.getD ⟨0, 0, 0, 0, 0⟩) := fun k hk => by
    rw [List.getElem?_map, List.getElem?_eq_getElem hk]; rfl
  have eP : mP ((outB bs).map (groD x)) = mP (outB bs) := by
    funext k
    cases k with
    | zero => rfl
    | succ k =>
      show ((((outB bs).map (groD x))[k]?.getD ⟨0, 0, 0, 0, 0⟩).p : Int) = (((outB bs)[k]?.getD ⟨0, 0, 0, 0, 0⟩).p : Int)
      rw [List.getElem?_map]
      cases (outB bs)[k]? <;> rfl
  have eI : ∀ k, k < (outB bs).length + 1 → mI (groD x r) ((outB bs).map (groD x)) k = x * mI r (outB bs) k := fun k hk => by
    cases k with
    | zero => show r.i * x = x * r.i; grind
    | succ k =>
      show (((outB bs).map (groD x))[k]?.getD ⟨0, 0, 0, 0, 0⟩).i = x * ((outB bs)[k]?.getD ⟨0, 0, 0, 0, 0⟩).i
      rw [gt k (by omega)]
      show _ * x = _; grind
  have eW : ∀ k, k < (outB bs).length + 1 → mW (groD x r) ((outB bs).map (groD x)) k = x * mW r (outB bs) k := fun k hk => by
    cases k with
    | zero => show r.w * x = x * r.w; grind
    | succ k =>
      show (((outB bs).map (groD x))[k]?.getD ⟨0, 0, 0, 0, 0⟩).w = x * ((outB bs)[k]?.getD ⟨0, 0, 0, 0, 0⟩).w
      rw [gt k (by omega)]
      show _ * x = _; grind
  have eS : ∀ k, k < (outB bs).length + 1 → mS ((outB bs).map (groD x)) k = x * mS (outB bs) k := fun k hk => by
    cases k with
    | zero => show (0 : Rat) = x * 0; grind
    | succ k =>
      show (((outB bs).map (groD x))[k]?.getD ⟨0, 0, 0, 0, 0⟩).s = x * ((outB bs)[k]?.getD ⟨0, 0, 0, 0, 0⟩).s
      rw [gt k (by omega)]
      show _ * x = _; grind
  obtain ⟨k, k0, hk⟩ := mV_times x0 hp eI eW eS (k := 0) (by omega)
  refine ⟨k * x, Rat.mul_pos k0 x0, fun y => ?_⟩
  unfold endV
  rw [eP, List.length_map]
  exact (hk y).2
end K74
namespace K74
open PySem Mini
/-! ### other signs -/
def Sgn (b b' : Ds) : Prop := b'.i = b.i ∧ b'.w = b.w ∧ b'.p = b.p ∧ b'.s = b.s ∧ (b'.g = b.g ∨ b'.g = -b.g)
theorem t_turned {n : Nat} (hn : 5 ≤ n) {S : Sto} {c : Nat} {t : Int} {r : Ds} {bs : List Ds} (h : Mac 4 2 r bs) (w : Well S c t) (ht : t ≤ 700000000) : wp ((P n).call 43 [.ref c, maD r bs] S) fun d S' => (∃ bs', d = maD r bs' ∧ Mac 4 2 r bs' ∧ outB bs' = outB bs) ∧ Well S' c (t + 10) ∧ Chg c S S' := by
  obtain ⟨m, rfl, hm⟩ := up hn
  rw [cP m 43 b43 rfl]
  refine wp_run rfl ?_
  show wp (evSs (P m) b43.body [some (.ref c), some (maD r bs), none, none, none] S) _
  have l4 := h.len
  have x0 : ∀ {S : Sto}, ixE S (maD r bs) (.int 0) = some (rtD r) := fun {S} => by
    show L2.atI (rtD r :: bs.map brD) 0 = _
    rw [show (0 : Int) = ((0 : Nat) : Int) from rfl, atI_n (by simp)]; rfl
  have sl : ∀ {S : Sto}, slE (maD r bs) (some 1) none S = .ok (.tup (bs.map brD)) S := fun {S} => by
    show Res.ok (D.tup (cutD (rtD r :: bs.map brD) (some 1) none)) S = _
    rw [cut_from1]; rfl
  unfold b43
  rw [wp_sC]
  simp_all_arith [x0]
  have no := at_new (A := S) (c := .lst [rtD r])
  have w1 := w.ext (.one (c := Mini.Cl.lst [rtD r]))
  have g1 : Chg c S (S ++ [Mini.Cl.lst [rtD r]]) := Ext.one.chg
  have cl := w.lt
  have oS : S.length ≤ S.length := Nat.le_refl _
  generalize (S ++ [Mini.Cl.lst [rtD r]]) = S1 at no w1 g1 ⊢
  generalize hout : S.length = out at no cl ⊢
  rw [fl_nx, wp_sC]
  rw [wp_for, wp_iv]
  simp_all_arith [wp_sl, wp_oN, wp_oS, partI, sl]
  refine ⟨_, rfl, ?_⟩
  refine forN_wp (bs.map brD) (fun k S' ρ' => ∃ (d3 d4 : Option D) (bt : List Ds), ρ' = [some (.ref c), some (maD r bs), some (.ref out), d3, d4] ∧ S'[out]? = some (.lst (rtD r :: bt.map brD)) ∧ bt.length = k ∧ (∀ (q : Nat) (b b' : Ds), bs[q]? = some b → bt[q]? = some b' → Sgn b b') ∧ Well S' c (t + 2 * k) ∧ Chg c S S')
    (fun k S' ρ' _ => rfl) ?_ ?_ _ 0 _ _ (Nat.zero_le _) (by rw [List.length_map]; have := fuelBig (m := m) (n := bs.length) (by omega); omega) ⟨_, _, [], rfl, no, rfl, fun q b b' _ h => by simp at h, w1.mono (by omega), g1⟩
  · rintro k S' ρ' d ⟨d3, d4, bt, rfl, ho, lb, hb, w', g'⟩ hd
    rw [List.getElem?_map] at hd
    cases hbk : bs[k]? with
    | none => rw [hbk] at hd; cases hd
    | some b =>
      rw [hbk] at hd
      cases hd
      have kl := (List.getElem?_eq_some_iff.mp hbk).1
      have x4 : ∀ {S : Sto}, ixE S (brD b) (.int 4) = some (frq b.g) := fun {S} => rfl
      simp only [wp_bind, wp_gn, List.set_cons_zero, List.set_cons_succ]
      rw [wp_sC, wp_asg]
      have sg : wp (evE (P m) (.ite (.cmp .eq (.call 26 [(.var 0), (.con (.int 2))] none) (.con (.int 0))) (.ix (.var 3) (.con (.int 4))) (.tup [(.bin .sub (.con (.int 0)) (.ix (.ix (.var 3) (.con (.int 4))) (.con (.int 0)))), (.ix (.ix (.var 3) (.con (.int 4))) (.con (.int 1)))])) [some (.ref c), some (maD r bs), some (.ref out), some (brD b), d4] S') fun d S'' => (∃ g, d = frq g ∧ (g = b.g ∨ g = -b.g)) ∧ Well S'' c (t + 2 * k + 1) ∧ Chg c S' S'' := by
        simp_arith [wp_ok]
        refine wp_mono (t_pull (by omega) w' (by omega) (by decide) (by decide)) fun r S1 ⟨x, er, x0, x1, w1, g1⟩ => ?_
        subst er
        by_cases z0 : x = 0
        · simp_arith [z0, decide_true, if_true, x4]
          exact ⟨⟨_, rfl, .inl rfl⟩, w1, g1⟩
        · simp_arith [z0, decide_false, Bool.false_eq_true, if_false, x4, frq_0, frq_1, bin_sub, show ((0 : Int) - b.g.num) = -b.g.num by omega]
          exact ⟨⟨-b.g, rfl, .inr rfl⟩, w1, g1⟩
      refine wp_mono sg fun r' S2 ⟨⟨g, er, hg⟩, w2, g2⟩ => ?_
      subst er
      clear sg
      have ho2 := g2.get out _ (by omega) ho
      simp only [wp_gn, List.set_cons_zero, List.set_cons_succ]
      rw [fl_nx, wp_sC]
      have s4 : ∀ {S : Sto}, slE (brD b) none (some 4) S = .ok (.tup [frq b.i, frq b.w, .int (b.p : Int), frq b.s]) S := fun {S} => rfl
      have ct : ∀ {S : Sto}, binE .add (.tup [frq b.i, frq b.w, .int (b.p : Int), frq b.s]) (.tup [frq g]) S = .ok (brD ⟨b.i, b.w, b.p, b.s, g⟩) S := fun {S} => bin_cat (by simp)
      simp_all_arith [wp_me, isL_c ho2, if_true, wp_sl, wp_oN, wp_oS, partI, s4, ct, app_c ho2 (show (rtD r :: bt.map brD).length ≤ 1000 by simp; omega)]
      simp only [fl_nx, wp_sN, wp_ok]
      refine ⟨_, _, bt ++ [⟨b.i, b.w, b.p, b.s, g⟩], rfl, ?_, by simp [lb], fun q b1 b' h1 h2 => ?_, (w2.chg (Chg.set ho2) (by omega)).mono (by omega), (g'.trans g2).then (Chg.set ho2) (by omega)⟩
      · rw [at_set ho2, List.map_append]; rfl
      · rcases Nat.lt_or_ge q bt.length with hq' | hq'
        · rw [List.getElem?_append_left hq'] at h2
          exact hb q b1 b' h1 h2
        · have := (List.getElem?_eq_some_iff.mp h2).1
          have eq' : q = bt.length := by simp at this; omega
          subst eq'
          rw [List.getElem?_append_right (Nat.le_refl _), Nat.sub_self] at h2
          cases h2
          rw [lb, hbk] at h1
          cases h1
          exact ⟨rfl, rfl, rfl, rfl, hg⟩
  · rintro S' ρ' ⟨d3, d4, bt, rfl, ho, lb, hb, w', g'⟩
    rw [List.length_map] at lb w'
    rw [fl_nx, wp_sC]
    simp_all_arith [fn_tupR (seq_c ho)]
    have hM : Mac 4 2 r bt := by
      refine ⟨by omega, h.ri, h.rw, fun k b' hk => ?_⟩
      have kl := (List.getElem?_eq_some_iff.mp hk).1
      have h1 := List.getElem?_eq_getElem (show k < bs.length by omega)
      obtain ⟨e1, e2, e3, e4, e5⟩ := hb k _ _ h1 hk
      have o := h.br k _ h1
      refine ⟨by rw [e1]; exact o.i, by rw [e2]; exact o.w, by rw [e3]; exact o.p, by rw [e4]; exact o.s, ?_⟩
      rcases e5 with e | e
      · rw [e]; exact o.g
      · rw [e]
        exact ⟨o.g.1.neg, fun z => o.g.2 (by grind)⟩
    refine ⟨⟨bt, rfl, hM, outB_ext hM.tree h.tree lb fun k b b' h1 h2 => ?_⟩, w'.mono (by omega), g'⟩
    obtain ⟨e1, e2, e3, e4, e5⟩ := hb k b' b h2 h1
    refine ⟨e1, e2, e3, e4, ?_⟩
    rcases e5 with e | e <;> rw [e]
    grind
theorem t_grown {n : Nat} (hn : 5 ≤ n) {S : Sto} {r : Ds} {bs : List Ds} {x : Rat} (h : Mac 4 2 r bs) (hx : Rb 4 x) : wp ((P n).call 44 [maD r bs, frq x] S) fun d S' => d = maD (groD x r) (bs.map (groD x)) ∧ Ext S S' := by
  obtain ⟨m, rfl, hm⟩ := up hn
  rw [cP m 44 b44 rfl]
  refine wp_run rfl ?_
  show wp (evSs (P m) b44.body [some (maD r bs), some (frq x), none, none] S) _
  have l4 := h.len
  have x0 : ∀ {S : Sto}, ixE S (maD r bs) (.int 0) = some (rtD r) := fun {S} => by
    show L2.atI (rtD r :: bs.map brD) 0 = _
    rw [show (0 : Int) = ((0 : Nat) : Int) from rfl, atI_n (by simp)]; rfl
  have sl : ∀ {S : Sto}, slE (maD r bs) (some 1) none S = .ok (.tup (bs.map brD)) S := fun {S} => by
    show Res.ok (D.tup (cutD (rtD r :: bs.map brD) (some 1) none)) S = _
    rw [cut_from1]; rfl
  have y0 : ∀ {S : Sto}, ixE S (rtD r) (.int 0) = some (frq r.i) := fun {S} => rfl
  have y1 : ∀ {S : Sto}, ixE S (rtD r) (.int 1) = some (frq r.w) := fun {S} => rfl
  unfold b44
  rw [wp_sC]
  simp_all_arith [x0, y0, y1]
  refine wp_mono (t_byQ (by omega) h.ri.1 hx (by omega)) fun d S1 ⟨er, eS⟩ => ?_
  subst er eS
  try simp_all_arith [x0, y1]
  refine wp_mono (t_byQ (by omega) h.rw.1 hx (by omega)) fun d S2 ⟨er, eS⟩ => ?_
  subst er eS
  try simp_all_arith [wp_ok]
  have no := at_new (A := S2) (c := .lst [rtD (groD x r)])
  have e1 : Ext S2 (S2 ++ [Mini.Cl.lst [rtD (groD x r)]]) := .one
  have el : D.tup [frq (r.i * x), frq (r.w * x)] = rtD (groD x r) := rfl
  rw [el]
  generalize (S2 ++ [Mini.Cl.lst [rtD (groD x r)]]) = S3 at no e1 ⊢
  generalize hout : S2.length = out at no ⊢
  rw [fl_nx, wp_sC]
  rw [wp_for, wp_iv]
  simp_all_arith [wp_sl, wp_oN, wp_oS, partI, sl]
  refine ⟨_, rfl, ?_⟩
  refine forN_wp (bs.map brD) (fun k S' ρ' => ∃ (d3 : Option D), ρ' = [some (maD r bs), some (frq x), some (.ref out), d3] ∧ S'[out]? = some (.lst (rtD (groD x r) :: ((bs.map (groD x)).take k).map brD)) ∧ Chg out S3 S')
    (fun k S' ρ' _ => rfl) ?_ ?_ _ 0 _ _ (Nat.zero_le _) (by rw [List.length_map]; have := fuelBig (m := m) (n := bs.length) (by omega); omega) ⟨_, rfl, no, .refl⟩
  · rintro k S' ρ' d ⟨d3, rfl, ho, g⟩ hd
    rw [List.getElem?_map] at hd
    cases hbk : bs[k]? with
    | none => rw [hbk] at hd; cases hd
    | some b =>
      rw [hbk] at hd
      cases hd
      have o := h.br k b hbk
      have kl := (List.getElem?_eq_some_iff.mp hbk).1
      have z0 : ∀ {S : Sto}, ixE S (brD b) (.int 0) = some (frq b.i) := fun {S} => rfl
      have z1 : ∀ {S : Sto}, ixE S (brD b) (.int 1) = some (frq b.w) := fun {S} => rfl
      have z2 : ∀ {S : Sto}, ixE S (brD b) (.int 2) = some (.int (b.p : Int)) := fun {S} => rfl
      have z3 : ∀ {S : Sto}, ixE S (brD b) (.int 3) = some (frq b.s) := fun {S} => rfl
      have z4 : ∀ {S : Sto}, ixE S (brD b) (.int 4) = some (frq b.g) := fun {S} => rfl
      simp only [wp_bind, wp_gn, List.set_cons_zero, List.set_cons_succ]
      rw [wp_sC, wp_sx, wp_me]
      simp_all_arith [isL_c ho, if_true, z0]
      refine wp_mono (t_byQ (by omega) o.i.1 hx (by omega)) fun d S1 ⟨er, eS⟩ => ?_
      subst er eS
      try simp_all_arith [z1]
      refine wp_mono (t_byQ (by omega) o.w.1 hx (by omega)) fun d S1 ⟨er, eS⟩ => ?_
      subst er eS
      try simp_all_arith [z2, z3]
      refine wp_mono (t_byQ (by omega) o.s.1 hx (by omega)) fun d S1 ⟨er, eS⟩ => ?_
      subst er eS
      simp_all_arith [z4, app_c ho (show (rtD (groD x r) :: ((bs.map (groD x)).take k).map brD).length ≤ 1000 by simp; omega)]
      simp only [fl_nx, wp_sN, wp_ok]
      refine ⟨_, rfl, ?_, g.trans (Chg.set ho)⟩
      rw [at_set ho, List.take_add_one, List.getElem?_map, hbk, List.map_append]; rfl
  · rintro S' ρ' ⟨d3, rfl, ho, g⟩
    rw [List.length_map] at ho
    rw [fl_nx, wp_sC]
    simp_all_arith [fn_tupR (seq_c ho)]
    refine ⟨?_, chg_ext (e1.chg.trans g) (by omega)⟩
    rw [List.take_of_length_le (by rw [List.length_map]; exact Nat.le_refl _)]; rfl
end K74
namespace K74
open PySem Mini
theorem sd_tp {S : Sto} {xs : List Int} {k n : Nat} (h : Pz k n xs) (hk : k ≤ 1900) (hn : n ≤ 26) : ∃ e, Sd S 1 (3 + 26 * (1921 + 2)) (tp xs) e := sd_tup (fun d hd => by
  obtain ⟨z, hz, rfl⟩ := List.mem_map.mp hd
  obtain ⟨i, hi, e⟩ := List.getElem_of_mem hz
  have b := h.bd i
  rw [coef_get (List.getElem?_eq_getElem hi), e] at b
  exact ⟨_, sd_int hk b⟩) (by rw [ip_len]; have := h.len; omega)
theorem sd_three {S : Sto} {k B l : Nat} {a : D} {e : PyData} (hl : S[l]? = some (.lst [a, a, a])) (ha : Sd S k B a e) : Sd S (k + 1) (2 + 3 * (B + 2)) (.ref l) (.list [e, e, e]) := by
  refine ⟨fun S' x' j hj => ?_, sb_list (fun x hx => ?_) (Nat.le_refl 3)⟩
  · obtain ⟨j, rfl⟩ : ∃ i, j = i + 1 := ⟨j - 1, by omega⟩
    show (match seqAt S' l with
      | some ys => (mapO (toD S' j) ys).map PyData.list
      | none => none) = _
    rw [seq_c (x'.get hl)]
    have h1 := ha.to S' x' j (by omega)
    show (mapO (toD S' j) [a, a, a]).map PyData.list = _
    rw [mapO, mapO, mapO, h1]; rfl
  · simp only [List.mem_cons, List.not_mem_nil, or_false] at hx
    rcases hx with rfl | rfl | rfl <;> exact ha.sb
theorem sd_q {S : Sto} {q : Rat} {k : Nat} (h : Rb k q) (hk : k ≤ 1900) : ∃ e, Sd S 1 (3 + 5 * (1921 + 2)) (frq q) e := sd_tup (fun d hd => by
  simp only [List.mem_cons, List.not_mem_nil, or_false] at hd
  rcases hd with rfl | rfl
  · exact ⟨_, sd_int hk h.bn⟩
  · exact ⟨_, sd_int hk h.bd⟩) (by simp)
theorem sd_ma {S : Sto} {a e : Nat} {r : Ds} {bs : List Ds} (h : Mac a e r bs) (ha : a ≤ 100) (he : e ≤ 100) : ∃ x, Sd S 3 (3 + 5 * (3 + 5 * (3 + 5 * (1921 + 2) + 2) + 2)) (maD r bs) x := sd_tup (fun d hd => by
  have md : ∀ {q : Rat} {k : Nat}, Rb k q → k ≤ 100 → ∃ x, Sd S 1 (3 + 5 * (1921 + 2)) (frq q) x := fun h hk => sd_q h (by omega)
  rcases List.mem_cons.mp hd with rfl | hd
  · refine sd_tup (S := S) (k := 1) (B := 3 + 5 * (1921 + 2)) (n := 5) (xs := [frq r.i, frq r.w]) (fun x hx => ?_) (show (2 : Nat) ≤ 5 by decide)
    simp only [List.mem_cons, List.not_mem_nil, or_false] at hx
    rcases hx with rfl | rfl
    · exact md h.ri.1 ha
    · exact md h.rw.1 ha
  · obtain ⟨b, hb, rfl⟩ := List.mem_map.mp hd
    obtain ⟨k, hk⟩ := List.getElem?_of_mem hb
    have o := h.br k b hk
    have kl := (List.getElem?_eq_some_iff.mp hk).1
    have l4 := h.len
    have op := o.p
    refine sd_tup (S := S) (k := 1) (B := 3 + 5 * (1921 + 2)) (n := 5) (xs := [frq b.i, frq b.w, .int (b.p : Int), frq b.s, frq b.g]) (fun x hx => ?_) (show (5 : Nat) ≤ 5 by decide)
    simp only [List.mem_cons, List.not_mem_nil, or_false] at hx
    rcases hx with rfl | rfl | rfl | rfl | rfl
    · exact md o.i.1 ha
    · exact md o.w.1 ha
    · exact ⟨_, (sd_int (b := 10) (by decide) (show ((b.p : Nat) : Int).natAbs < 2 ^ 10 by omega)).mono (by decide) (by decide)⟩
    · exact md o.s.1 ha
    · exact md o.g.1 he) (by have := h.len; simp; omega)
set_option maxHeartbeats 1000000 in
theorem t_right {n : Nat} (hn : 14 ≤ n) {S : Sto} {c : Nat} {t : Int} (w : Well S c t) (ht : t ≤ 1000) : wp ((P n).call 45 [.ref c] S) fun r S' => r = .bl true ∧ Chg c S S' := by
  obtain ⟨m, rfl, hm⟩ := up (show 1 ≤ n by omega)
  rw [cP m 45 b45 rfl]
  refine wp_run rfl ?_
  show wp (evSs (P m) b45.body [some (.ref c), none, none, none, none] S) _
  unfold b45
  rw [wp_sC]
  simp_all_arith [wp_ok]
  refine wp_mono (t_machine (by omega) w (by omega)) fun d S1 ⟨⟨r, bs, er, hM⟩, w1, g1⟩ => ?_
  subst er
  have ho : Mac 20 1 r (outB bs) := hM.out
  try simp_all_arith [wp_ok]
  rw [fl_nx, wp_sC]
  simp_all_arith [wp_ok]
  refine wp_mono (t_lend (by omega) hM) fun d S2 ⟨e2, l, zs, er, hl, pz, tl⟩ => ?_
  subst er
  simp_all_arith [fn_tupR (seq_c hl)]
  have w2 := w1.ext e2
  have etp : D.tup (ip zs) = tp zs := rfl
  rw [etp]
  clear etp hl
  have isb : ∀ {b : Bool}, isE (.bl b) (.bl true) = some (decide (b = true)) := rfl
  rw [fl_nx, wp_sC]
  simp_all_arith [wp_ok]
  refine wp_mono (t_is_machine (by omega) hM) fun d S3 ⟨er, e3⟩ => ?_
  subst er
  simp_all_arith [isb, decide_true, Option.map_some, Bool.not_true, Bool.false_eq_true, if_false]
  refine wp_mono (t_machine_end (by omega) hM (by decide) (by decide) (by decide)) fun d S4 ⟨e4, ys, er, t4⟩ => ?_
  have := t4.uniq tl
  subst this
  subst er
  obtain ⟨ez, sz⟩ := sd_tp (S := S4) pz (by decide) (by decide)
  rw [sz.repr (by decide) (by decide +kernel), wp_ok]
  try simp_all_arith [wp_ok]
  rw [sz.repr (by decide) (by decide +kernel), wp_ok, sz.same]
  simp_all_arith [Option.map_some, Bool.not_true, Bool.false_eq_true, if_false]
  refine ⟨[maD r bs], rfl, ?_⟩
  refine wp_mono (t_machine_end (by omega) hM (by decide) (by decide) (by decide)) fun d S5 ⟨e5, ys', er, t5⟩ => ?_
  have := t5.uniq tl
  subst this
  subst er
  obtain ⟨ez, sz⟩ := sd_tp (S := S5) pz (by decide) (by decide)
  rw [sz.repr (by decide) (by decide +kernel), wp_ok]
  try simp_all_arith [wp_ok]
  rw [sz.repr (by decide) (by decide +kernel), wp_ok, sz.same]
  simp_all_arith [Option.map_some, Bool.not_true, Bool.false_eq_true, if_false]
  rw [fl_nx, wp_sC]
  simp_all_arith [wp_ok]
  -- geared out
  refine wp_mono (t_ungeared (by omega) hM (by decide) (by decide)) fun d S6 ⟨er, e6⟩ => ?_
  subst er
  obtain ⟨em, sm'⟩ := sd_ma (S := S6) ho (by decide) (by decide)
  rw [sm'.repr (by decide) (by decide +kernel), wp_ok]
  try simp_all_arith [wp_ok]
  refine wp_mono (t_lout (by omega) hM) fun d S7 ⟨er, e7⟩ => ?_
  subst er
  have sm7 := sm'.ext e7
  try simp_all_arith [wp_ok]
  rw [sm7.repr (by decide) (by decide +kernel), wp_ok, sm'.same]
  simp_all_arith [Option.map_some, Bool.not_true, Bool.false_eq_true, if_false]
  refine wp_mono (t_ungeared (by omega) hM (by decide) (by decide)) fun d S8 ⟨er, e8⟩ => ?_
  subst er
  try simp_all_arith [wp_ok]
  refine ⟨[maD r (outB bs)], rfl, ?_⟩
  refine wp_mono (t_ungeared (by omega) ho (by decide) (by decide)) fun d S9 ⟨er, e9⟩ => ?_
  rw [outB_out hM.tree] at er
  subst er
  obtain ⟨em, sm9⟩ := sd_ma (S := S9) ho (by decide) (by decide)
  rw [sm9.repr (by decide) (by decide +kernel), wp_ok]
  try simp_all_arith [wp_ok]
  refine wp_mono (t_lout (by omega) hM) fun d Sa ⟨er, ea⟩ => ?_
  subst er
  have sma := sm9.ext ea
  try simp_all_arith [wp_ok]
  rw [sma.repr (by decide) (by decide +kernel), wp_ok, sm9.same]
  simp_all_arith [Option.map_some, Bool.not_true, Bool.false_eq_true, if_false]
  rw [fl_nx, wp_sC]
  simp_all_arith [wp_ok]
  refine wp_mono (t_ungeared (by omega) hM (by decide) (by decide)) fun d Sb ⟨er, eb⟩ => ?_
  subst er
  try simp_all_arith [wp_ok]
  have e2b := (((((((e3.trans e4).trans e5).trans e6).trans e7).trans e8).trans e9).trans ea).trans eb
  have wb := w2.ext e2b
  refine wp_mono (t_turned (by omega) hM wb (by omega)) fun d Sc ⟨⟨bt, er, hT, eT⟩, wc, gc⟩ => ?_
  subst er
  try simp_all_arith [wp_ok]
  refine wp_mono (t_weight (by omega) wc (by omega)) fun d Sd' ⟨hw, wd, gd⟩ => ?_
  obtain ⟨ew, hx, x0⟩ := wt_frq hw
  rw [ew]
  generalize v d = x at hx x0
  try simp_all_arith [wp_ok]
  refine wp_mono (t_grown (by omega) hM hx) fun d Se ⟨er, ee⟩ => ?_
  subst er
  have hG := mac_gro hM hx x0
  obtain ⟨cg, cg0, hcg⟩ := end_gro hM x0
  try simp_all_arith [wp_ok]
  have nf := at_new (A := Se) (c := .lst [maD r (outB bs), maD r bt, maD (groD x r) (List.map (groD x) bs)])
  have ef : Ext Se (Se ++ [Mini.Cl.lst [maD r (outB bs), maD r bt, maD (groD x r) (List.map (groD x) bs)]]) := .one
  have gall : Chg c S (Se ++ [Mini.Cl.lst [maD r (outB bs), maD r bt, maD (groD x r) (List.map (groD x) bs)]]) := (((((g1.trans e2.chg).trans e2b.chg).trans gc).trans gd).trans ee.chg).trans ef.chg
  have cS := w.lt
  generalize (Se ++ [Mini.Cl.lst [maD r (outB bs), maD r bt, maD (groD x r) (List.map (groD x) bs)]]) = Sf at nf gall ⊢
  generalize Se.length = lf at nf ⊢
  rw [fl_nx, wp_sC]
  simp only [wp_ret, wp_cmp, wp_fn, wp_cons, wp_nil]
  have each : ∀ d ∈ [maD r (outB bs), maD r bt, maD (groD x r) (List.map (groD x) bs)], ∀ S' : Sto, wp ((P m).call 24 [d] S') fun v S'' => v = tp ys' ∧ Ext S' S'' := fun d hd S' => by
    simp only [List.mem_cons, List.not_mem_nil, or_false] at hd
    rcases hd with rfl | rfl | rfl
    · refine wp_mono (t_machine_end (by omega) ho (by decide) (by decide) (by decide)) fun d S5 ⟨e5, zs, er, t5⟩ => ?_
      rw [outB_out hM.tree] at t5
      rw [er, t5.uniq tl]
      exact ⟨rfl, e5⟩
    · refine wp_mono (t_machine_end (by omega) hT (by decide) (by decide) (by decide)) fun d S5 ⟨e5, zs, er, t5⟩ => ?_
      rw [eT] at t5
      rw [er, t5.uniq tl]
      exact ⟨rfl, e5⟩
    · refine wp_mono (t_machine_end (by omega) hG (by decide) (by decide) (by decide)) fun d S5 ⟨e5, zs, er, t5⟩ => ?_
      rw [er, t5.uniq (tl.times cg0 hcg)]
      exact ⟨rfl, e5⟩
  refine comp_fm (g := fun _ => some (tp ys')) (xs := [maD r (outB bs), maD r bt, maD (groD x r) (List.map (groD x) bs)]) (by have := fuelBig (m := m) (n := 3) (by omega); simpa using this) (by simp) (it_ref ?_) (fun d hd S' e => bodyC_pure ?_) fun A t e => ?_
  · simp_arith [wp_ok]
    exact ⟨.refl, lf, rfl, nf⟩
  · simp only [wipeL, List.foldl_cons, List.foldl_nil, List.set_cons_zero, List.set_cons_succ]
    simp_arith [wp_ok]
    refine wp_mono (each d hd S') fun v S'' ⟨ev, es⟩ => ?_
    subst ev
    exact ⟨by first | rfl | trivial, es⟩
  · have el : ([maD r (outB bs), maD r bt, maD (groD x r) (List.map (groD x) bs)].filterMap fun _ => some (tp ys')) = [tp ys', tp ys', tp ys'] := rfl
    rw [el]
    have n1 : (A ++ Mini.Cl.lst [tp ys', tp ys', tp ys'] :: t)[A.length]? = some (.lst [tp ys', tp ys', tp ys']) := by simp
    have e1 : Ext Sf (A ++ Mini.Cl.lst [tp ys', tp ys', tp ys'] :: t) := e.trans ⟨_, rfl⟩
    generalize (A ++ Mini.Cl.lst [tp ys', tp ys', tp ys'] :: t) = S6 at n1 e1 ⊢
    obtain ⟨ez, sz⟩ := sd_tp (S := S6) pz (by decide) (by decide)
    have s3 := sd_three n1 sz
    rw [s3.repr (by decide) (by decide +kernel), wp_ok]
    simp_arith [wp_ok]
    have n2 := at_new (A := S6) (c := .lst [tp ys', tp ys', tp ys'])
    have s4 := sd_three n2 (sz.ext .one)
    rw [s4.repr (by decide) (by decide +kernel), wp_ok, s3.same]
    exact ⟨_, rfl, rfl, gall.trans (e1.trans .one).chg⟩
theorem t_law {n : Nat} (hn : 16 ≤ n) {ns : List Int} (hl : ns.length ≤ 63) : wp ((P n).call 46 [.ref 0] [.frz (ns.map D.int)]) fun r S' => r = .bl true := by
  obtain ⟨m, rfl, hm⟩ := up (show 1 ≤ n by omega)
  rw [cP m 46 b46 rfl]
  refine wp_run rfl ?_
  show wp (evSs (P m) b46.body [some (.ref 0), none] [.frz (ns.map D.int)]) _
  have hs : Scr [.frz (ns.map D.int)] ns := rfl
  generalize ([.frz (ns.map D.int)] : Sto) = S at hs ⊢
  unfold b46
  simp only [wp_sC, wp_ret, wp_fn, wp_cons, wp_nil]
  refine comp_fm (g := fun _ => some (.bl true)) (xs := (List.range 2).map fun (i : Nat) => D.int (0 + (i : Int))) (fuelBig (by decide)) (by decide) (it_rng (by decide) ?_) (fun d hd S' e => bodyC_pure ?_) fun A t e => ?_
  · simp_arith [wp_ok]
    first | exact ⟨trivial, .refl⟩ | exact ⟨rfl, .refl⟩
  · obtain ⟨i, hi, rfl⟩ := List.mem_map.mp hd
    have hi := List.mem_range.mp hi
    simp only [wipeL, List.set_cons_zero, List.set_cons_succ]
    simp_arith [wp_ok]
    refine wp_mono (t_spring (j := i) (by omega) (hs.ext e) (by omega) hl) fun r S3 ⟨c, er, w3, lc, e3⟩ => ?_
    subst er
    refine wp_mono (t_right (by omega) w3 (by decide)) fun r S4 ⟨er, g4⟩ => ?_
    subst er
    first | exact ⟨rfl, chg_ext (e3.chg.trans g4) lc⟩ | exact ⟨trivial, chg_ext (e3.chg.trans g4) lc⟩
  · have bo : ∀ zs : List Bool, boolsOf (zs.map D.bl) = some zs := fun zs => by
      induction zs with
      | nil => rfl
      | cons z zs ih =>
        show (boolsOf (zs.map D.bl)).map (z :: ·) = _
        rw [ih]; rfl
    have ez : ((List.range 2).map fun (i : Nat) => D.int (0 + (i : Int))).filterMap (fun _ => some (D.bl true)) = [true, true].map D.bl := rfl
    rw [ez]
    show wp (match (seqAt _ A.length).bind boolsOf with
      | some bs => Res.ok (D.bl (bs.all id)) _
      | none => .no) _
    rw [mid_seq]
    show wp (match boolsOf ([true, true].map D.bl) with
      | some bs => Res.ok (D.bl (bs.all id)) _
      | none => .no) _
    rw [bo]
    exact wp_ok.mpr rfl
end K74
namespace K74
open PySem PySem.Spec PyProof.Rows L2 Mini
theorem tab_ok : tabB tab ds = true := by decide +kernel
theorem bind0 : BindsAll ([d0, d1, d2, d3, d4, d5, d6, d7, d8, d9, d10, d11, d12, d13, d14, d15, d16, d17, d18, d19] : List DefT) := ⟨fun _ _ _ _ _ _ us hl => match us, hl with | [_], _ => rfl, fun _ _ _ _ _ _ us hl => match us, hl with | [_, _, _], _ => rfl, fun _ _ _ _ _ _ us hl => match us, hl with | [_, _], _ => rfl, fun _ _ _ _ _ _ us hl => match us, hl with | [_], _ => rfl, fun _ _ _ _ _ _ us hl => match us, hl with | [_], _ => rfl, fun _ _ _ _ _ _ us hl => match us, hl with | [_], _ => rfl, fun _ _ _ _ _ _ us hl => match us, hl with | [_], _ => rfl, fun _ _ _ _ _ _ us hl => match us, hl with | [_, _], _ => rfl, fun _ _ _ _ _ _ us hl => match us, hl with | [_, _], _ => rfl, fun _ _ _ _ _ _ us hl => match us, hl with | [_], _ => rfl, fun _ _ _ _ _ _ us hl => match us, hl with | [_, _], _ => rfl, fun _ _ _ _ _ _ us hl => match us, hl with | [_, _], _ => rfl, fun _ _ _ _ _ _ us hl => match us, hl with | [_, _], _ => rfl, fun _ _ _ _ _ _ us hl => match us, hl with | [_, _], _ => rfl, fun _ _ _ _ _ _ us hl => match us, hl with | [_], _ => rfl, fun _ _ _ _ _ _ us hl => match us, hl with | [_], _ => rfl, fun _ _ _ _ _ _ us hl => match us, hl with | [_, _], _ => rfl, fun _ _ _ _ _ _ us hl => match us, hl with | [_], _ => rfl, fun _ _ _ _ _ _ us hl => match us, hl with | [_], _ => rfl, fun _ _ _ _ _ _ us hl => match us, hl with | [_], _ => rfl, True.intro⟩
theorem bind1 : BindsAll ([d20, d21, d22, d23, d24, d25, d26, d27, d28, d29, d30, d31, d32, d33, d34, d35, d36, d37, d38, d39] : List DefT) := ⟨fun _ _ _ _ _ _ us hl => match us, hl with | [_], _ => rfl, fun _ _ _ _ _ _ us hl => match us, hl with | [_], _ => rfl, fun _ _ _ _ _ _ us hl => match us, hl with | [_], _ => rfl, fun _ _ _ _ _ _ us hl => match us, hl with | [_], _ => rfl, fun _ _ _ _ _ _ us hl => match us, hl with | [_], _ => rfl, fun _ _ _ _ _ _ us hl => match us, hl with | [_, _], _ => rfl, fun _ _ _ _ _ _ us hl => match us, hl with | [_, _], _ => rfl, fun _ _ _ _ _ _ us hl => match us, hl with | [_, _], _ => rfl, fun _ _ _ _ _ _ us hl => match us, hl with | [_, _], _ => rfl, fun _ _ _ _ _ _ us hl => match us, hl with | [_, _], _ => rfl, fun _ _ _ _ _ _ us hl => match us, hl with | [_, _], _ => rfl, fun _ _ _ _ _ _ us hl => match us, hl with | [_, _], _ => rfl, fun _ _ _ _ _ _ us hl => match us, hl with | [_], _ => rfl, fun _ _ _ _ _ _ us hl => match us, hl with | [_, _], _ => rfl, fun _ _ _ _ _ _ us hl => match us, hl with | [_, _], _ => rfl, fun _ _ _ _ _ _ us hl => match us, hl with | [_], _ => rfl, fun _ _ _ _ _ _ us hl => match us, hl with | [_], _ => rfl, fun _ _ _ _ _ _ us hl => match us, hl with | [_], _ => rfl, fun _ _ _ _ _ _ us hl => match us, hl with | [_], _ => rfl, fun _ _ _ _ _ _ us hl => match us, hl with | [_, _], _ => rfl, True.intro⟩
theorem bind2 : BindsAll ([d40, d41, d42, d43, d44, d45, d46] : List DefT) := ⟨fun _ _ _ _ _ _ us hl => match us, hl with | [_], _ => rfl, fun _ _ _ _ _ _ us hl => match us, hl with | [_, _], _ => rfl, fun _ _ _ _ _ _ us hl => match us, hl with | [_], _ => rfl, fun _ _ _ _ _ _ us hl => match us, hl with | [_, _], _ => rfl, fun _ _ _ _ _ _ us hl => match us, hl with | [_, _], _ => rfl, fun _ _ _ _ _ _ us hl => match us, hl with | [_], _ => rfl, fun _ _ _ _ _ _ us hl => match us, hl with | [_], _ => rfl, True.intro⟩
theorem binds : BindsAll ds := ((bind0.app bind1).app bind2)
theorem kwsOk : KwsAll ds tab.kws := ⟨⟨d24, rfl, fun _ _ _ _ _ _ us ws h1 h2 => match us, ws, h1, h2 with | [], [_], _, _ => rfl⟩, ⟨d23, rfl, fun _ _ _ _ _ _ us ws h1 h2 => match us, ws, h1, h2 with | [], [_], _, _ => rfl⟩, True.intro⟩
end K74
namespace K74
open PySem Mini
theorem txt_eq : Mini.txt tab ds = prog := by kernel_rfl
theorem law_ok : ∀ ns : List Int, ns.length ≤ 63 → ∃ S, (Mini.pgN (Mini.txt tab ds) fuelN 16).call 46 [.ref 0] [.frz (ns.map Mini.D.int)] = .ok (.bl true) S := by
  intro ns hl
  rw [txt_eq]
  obtain ⟨d, S, e, h⟩ := wp_ex (t_law (n := 16) (by decide) hl)
  subst h
  exact ⟨S, e⟩
end K74
open PySem PySem.W PyProof.Rows
set_option maxRecDepth 100000 in
set_option maxHeartbeats 0 in
theorem PySem.Challenge.cw_shaftshakes_k74_whole_ends_of_machines_holds : PySem.Challenge.rw_shaftshakes_k74_whole_ends_of_machines.Holds := by
  w_on; o_law
  refine HandSHeadRun.head_imp (r := PySem.W.OpenLaw.row PySem.Challenge.rw_shaftshakes_k74_whole_ends_of_machines) (q := view (PySem.W.OpenLaw.row PySem.Challenge.rw_shaftshakes_k74_whole_ends_of_machines).prog [0, 59]) (H := Mini.hookM K74.fn K74.ex) (ob := Mini.obM K74.fn K74.ex) (M := 4600) (loose := K74.names) (d := HandSHeadRun.topDef (PySem.W.OpenLaw.row PySem.Challenge.rw_shaftshakes_k74_whole_ends_of_machines).prog 59) (kwd := []) (Mini.obM_eq _ _)
    K74.run (by kernel_rfl) (by kernel_rfl) (by kernel_rfl) (by rfl) (by first | assumption | decide +kernel) (by decide +kernel) ⟨rfl, rfl, rfl, rfl, rfl, by decide +kernel⟩ ?hw ?hc
  case hw => w_witness2
  case hc =>
    exact Mini.walkH (l := PySem.Challenge.rw_shaftshakes_k74_whole_ends_of_machines) (level := 16) (fuel := K74.fuelN) (li := 46) (T := K74.tab) (ds := K74.ds) (dl := K74.d46) (x := "_law_script") rfl (by decide) (by kernel_rfl) ⟨rfl, by decide, by decide⟩ (by kernel_rfl) rfl rfl rfl rfl K74.tab_ok K74.binds K74.kwsOk rfl rfl rfl rfl K74.law_ok
