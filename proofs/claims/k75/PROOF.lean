import PyProof.Rows.All
import Wide.All
import OpenK.AllK
import Wide.FinOn
import PyProof.ReprReads
import HandS.ForMost
import HandS.ForExc
import HandS.CallSlots
import HandS.ExcInit
import HandS.HeadHook2
import KE.KeyNested
import HandS.TupAny
import HandS.Deep
import HandS.TupLe
import HandS.SetKeys
import HandS.TupLen
import HandS.WordsDict
import HandS.Sort
import HandS.SortOrd
import HandS.AnyAll
import HandS.Conv
import HandS.Comp
import HandS.DictComp
import HandS.IsInst
import HandS.OwnEq
import HandS.Strs
import HandS.Rev
import HandS.RevRange
import HandS.Zip
import HandS.ExcField
import KE.SortData
import KE.DataMinMax
import KE.KDictPairs
import KE.KDictSum
import PyProof.ReprRoads
import HandS.Codes
import KE.KExcIs
import HandS.More
import KE.GoesEnum
import HandS.Lambda
import HandS.HeadWalk
import PyProof.FitsInt
import HandS.Head2
import KE.KStateDown
import HandS.Head0
import HandS.Head1
import KE.BitLaws
import PySem.Challenge.RW_cellrealm_k75_beside_and_merged
set_option Elab.async false
set_option linter.all false
set_option maxRecDepth 100000
section
/-! Dn1: a small language of pure values, and its evaluator. Own work. -/
namespace Dn
open PySem (Str)

/-- a value. tup, lst, dic, obj: trees that never change. kdic: a dict that the text wrote at its top. ref n: a thing of the store that may change. exn: the exception in hand. fn: a def of the text. -/
inductive D where
  | non | bl (b : Bool) | int (i : Int) | str (x : Str) | tup (xs : List D) | lst (xs : List D) | dic (ks vs : List D)
  | obj (c : Nat) (ns : List Nat) (vs : List D) | ref (n : Nat) | fn (f : Nat) | rng (lo hi : Int)
  | kdic (ks vs : List D)
  | exn (c : Nat) (ns : List Nat) (vs : List D)
  deriving Inhabited

mutual
def D.dec : (a b : D) → Decidable (a = b)
  | .non, b => match b with
    | .non => isTrue rfl
    | .bl _ | .int _ | .str _ | .tup _ | .lst _ | .dic _ _ | .obj _ _ _ | .ref _ | .fn _ | .rng _ _ | .kdic _ _ | .exn _ _ _ => isFalse (fun h => nomatch h)
  | .bl x0, b => match b with
    | .bl y0 => (if h0 : x0 = y0 then isTrue (by subst h0;  rfl) else isFalse (fun q => h0 (D.bl.inj q)))
    | .non | .int _ | .str _ | .tup _ | .lst _ | .dic _ _ | .obj _ _ _ | .ref _ | .fn _ | .rng _ _ | .kdic _ _ | .exn _ _ _ => isFalse (fun h => nomatch h)
  | .int x0, b => match b with
    | .int y0 => (if h0 : x0 = y0 then isTrue (by subst h0;  rfl) else isFalse (fun q => h0 (D.int.inj q)))
    | .non | .bl _ | .str _ | .tup _ | .lst _ | .dic _ _ | .obj _ _ _ | .ref _ | .fn _ | .rng _ _ | .kdic _ _ | .exn _ _ _ => isFalse (fun h => nomatch h)
  | .str x0, b => match b with
    | .str y0 => (if h0 : x0 = y0 then isTrue (by subst h0;  rfl) else isFalse (fun q => h0 (D.str.inj q)))
    | .non | .bl _ | .int _ | .tup _ | .lst _ | .dic _ _ | .obj _ _ _ | .ref _ | .fn _ | .rng _ _ | .kdic _ _ | .exn _ _ _ => isFalse (fun h => nomatch h)
  | .tup x0, b => match b with
    | .tup y0 => (match D.decL x0 y0 with | isTrue h0 => isTrue (by subst h0;  rfl) | isFalse h0 => isFalse (fun q => h0 (D.tup.inj q)))
    | .non | .bl _ | .int _ | .str _ | .lst _ | .dic _ _ | .obj _ _ _ | .ref _ | .fn _ | .rng _ _ | .kdic _ _ | .exn _ _ _ => isFalse (fun h => nomatch h)
  | .lst x0, b => match b with
    | .lst y0 => (match D.decL x0 y0 with | isTrue h0 => isTrue (by subst h0;  rfl) | isFalse h0 => isFalse (fun q => h0 (D.lst.inj q)))
    | .non | .bl _ | .int _ | .str _ | .tup _ | .dic _ _ | .obj _ _ _ | .ref _ | .fn _ | .rng _ _ | .kdic _ _ | .exn _ _ _ => isFalse (fun h => nomatch h)
  | .dic x0 x1, b => match b with
    | .dic y0 y1 => (match D.decL x0 y0 with | isTrue h0 => (match D.decL x1 y1 with | isTrue h1 => isTrue (by subst h0; subst h1;  rfl) | isFalse h1 => isFalse (fun q => h1 ((D.dic.inj q).2))) | isFalse h0 => isFalse (fun q => h0 ((D.dic.inj q).1)))
    | .non | .bl _ | .int _ | .str _ | .tup _ | .lst _ | .obj _ _ _ | .ref _ | .fn _ | .rng _ _ | .kdic _ _ | .exn _ _ _ => isFalse (fun h => nomatch h)
  | .obj x0 x1 x2, b => match b with
    | .obj y0 y1 y2 => (if h0 : x0 = y0 then (if h1 : x1 = y1 then (match D.decL x2 y2 with | isTrue h2 => isTrue (by subst h0; subst h1; subst h2;  rfl) | isFalse h2 => isFalse (fun q => h2 ((D.obj.inj q).2.2))) else isFalse (fun q => h1 ((D.obj.inj q).2.1))) else isFalse (fun q => h0 ((D.obj.inj q).1)))
    | .non | .bl _ | .int _ | .str _ | .tup _ | .lst _ | .dic _ _ | .ref _ | .fn _ | .rng _ _ | .kdic _ _ | .exn _ _ _ => isFalse (fun h => nomatch h)
  | .ref x0, b => match b with
    | .ref y0 => (if h0 : x0 = y0 then isTrue (by subst h0;  rfl) else isFalse (fun q => h0 (D.ref.inj q)))
    | .non | .bl _ | .int _ | .str _ | .tup _ | .lst _ | .dic _ _ | .obj _ _ _ | .fn _ | .rng _ _ | .kdic _ _ | .exn _ _ _ => isFalse (fun h => nomatch h)
  | .fn x0, b => match b with
    | .fn y0 => (if h0 : x0 = y0 then isTrue (by subst h0;  rfl) else isFalse (fun q => h0 (D.fn.inj q)))
    | .non | .bl _ | .int _ | .str _ | .tup _ | .lst _ | .dic _ _ | .obj _ _ _ | .ref _ | .rng _ _ | .kdic _ _ | .exn _ _ _ => isFalse (fun h => nomatch h)
  | .rng x0 x1, b => match b with
    | .rng y0 y1 => (if h0 : x0 = y0 then (if h1 : x1 = y1 then isTrue (by subst h0; subst h1;  rfl) else isFalse (fun q => h1 ((D.rng.inj q).2))) else isFalse (fun q => h0 ((D.rng.inj q).1)))
    | .non | .bl _ | .int _ | .str _ | .tup _ | .lst _ | .dic _ _ | .obj _ _ _ | .ref _ | .fn _ | .kdic _ _ | .exn _ _ _ => isFalse (fun h => nomatch h)
  | .kdic x0 x1, b => match b with
    | .kdic y0 y1 => (match D.decL x0 y0 with | isTrue h0 => (match D.decL x1 y1 with | isTrue h1 => isTrue (by subst h0; subst h1;  rfl) | isFalse h1 => isFalse (fun q => h1 ((D.kdic.inj q).2))) | isFalse h0 => isFalse (fun q => h0 ((D.kdic.inj q).1)))
    | .non | .bl _ | .int _ | .str _ | .tup _ | .lst _ | .dic _ _ | .obj _ _ _ | .ref _ | .fn _ | .rng _ _ | .exn _ _ _ => isFalse (fun h => nomatch h)
  | .exn x0 x1 x2, b => match b with
    | .exn y0 y1 y2 => (if h0 : x0 = y0 then (if h1 : x1 = y1 then (match D.decL x2 y2 with | isTrue h2 => isTrue (by subst h0; subst h1; subst h2;  rfl) | isFalse h2 => isFalse (fun q => h2 ((D.exn.inj q).2.2))) else isFalse (fun q => h1 ((D.exn.inj q).2.1))) else isFalse (fun q => h0 ((D.exn.inj q).1)))
    | .non | .bl _ | .int _ | .str _ | .tup _ | .lst _ | .dic _ _ | .obj _ _ _ | .ref _ | .fn _ | .rng _ _ | .kdic _ _ => isFalse (fun h => nomatch h)
def D.decL : (a b : List D) → Decidable (a = b)
  | [], [] => isTrue rfl
  | [], _ :: _ => isFalse (fun h => nomatch h)
  | _ :: _, [] => isFalse (fun h => nomatch h)
  | x :: xs, y :: ys => match D.dec x y, D.decL xs ys with
    | isTrue h, isTrue h' => isTrue (h ▸ h' ▸ rfl)
    | isFalse h, _ => isFalse (fun q => h (List.cons.inj q).1)
    | _, isFalse h => isFalse (fun q => h (List.cons.inj q).2)
end
instance : DecidableEq D := D.dec

mutual
/-- no thing of the store within -/
def D.pur : D → Bool
  | .tup xs => D.purL xs
  | .lst xs => D.purL xs
  | .dic ks vs => D.purL ks && D.purL vs
  | .kdic ks vs => D.purL ks && D.purL vs
  | .obj _ _ vs => D.purL vs
  | .ref _ => false
  | .exn _ _ _ => false
  | _ => true
def D.purL : List D → Bool
  | [] => true
  | x :: xs => D.pur x && D.purL xs
end
mutual
/-- no exception in hand within -/
def D.nox : D → Bool
  | .tup xs => D.noxL xs
  | .lst xs => D.noxL xs
  | .dic ks vs => D.noxL ks && D.noxL vs
  | .kdic ks vs => D.noxL ks && D.noxL vs
  | .obj _ _ vs => D.noxL vs
  | .exn _ _ _ => false
  | _ => true
def D.noxL : List D → Bool
  | [] => true
  | x :: xs => D.nox x && D.noxL xs
end
theorem D.purL_all : ∀ xs : List D, D.purL xs = xs.all D.pur
  | [] => rfl
  | x :: xs => by rw [D.purL, List.all_cons, D.purL_all xs]

abbrev Store := List D
abbrev Env := List (Option D)
inductive Res (α : Type) where
  | ok (a : α) (st : Store) | exc (c : Nat) (vs : List D) (st : Store) | stk
abbrev M (α : Type) := Store → Res α
def ret {α : Type} (a : α) : M α := fun st => .ok a st
def stk {α : Type} : M α := fun _ => .stk
def bnd {α β : Type} (x : M α) (f : α → M β) : M β := fun st => match x st with
  | .ok a st' => f a st'
  | .exc c vs st' => .exc c vs st'
  | .stk => .stk
def opt {α : Type} : Option α → M α
  | some a => ret a
  | none => stk
/-- no error may come out -/
def calm {α : Type} (x : M α) : M α := fun st => match x st with
  | .ok a st' => .ok a st'
  | _ => .stk

def szLine : Nat := 16777216
def sz (n : Nat) : Bool := decide (n ≤ szLine)

/-! ### data: what == and in look at -/
mutual
/-- None, bools, ints, texts, lists and tuples of such, at most n deep -/
def D.dat : Nat → D → Bool
  | _, .non => true
  | _, .bl _ => true
  | _, .int _ => true
  | _, .str x => x.cps.all (· < 0x110000)
  | 0, _ => false
  | n + 1, .tup xs => D.datL n xs
  | n + 1, .lst xs => D.datL n xs
  | _, _ => false
def D.datL : Nat → List D → Bool
  | _, [] => true
  | n, x :: xs => D.dat n x && D.datL n xs
end
mutual
/-- Python's == of data -/
def D.eqv : D → D → Bool
  | .non, e => match e with
    | .non => true
    | _ => false
  | .bl a, e => match e with
    | .bl b => a == b
    | .int j => (if a then 1 else 0) == j
    | _ => false
  | .int i, e => match e with
    | .bl b => i == (if b then 1 else 0)
    | .int j => i == j
    | _ => false
  | .str x, e => match e with
    | .str y => x == y
    | _ => false
  | .tup xs, e => match e with
    | .tup ys => D.eqvL xs ys
    | _ => false
  | .lst xs, e => match e with
    | .lst ys => D.eqvL xs ys
    | _ => false
  | _, _ => false
def D.eqvL : List D → List D → Bool
  | [], [] => true
  | x :: xs, y :: ys => D.eqv x y && D.eqvL xs ys
  | _, _ => false
end
mutual
/-- Python's < of ints and of tuples of such (and so on), all pairs of one kind; none: not told -/
def D.lt : D → D → Option Bool
  | .int i, e => match e with
    | .int j => some (decide (i < j))
    | _ => none
  | .tup xs, e => match e with
    | .tup ys => D.ltL xs ys
    | _ => none
  | _, _ => none
def D.ltL : List D → List D → Option Bool
  | [], [] => some false
  | [], _ :: _ => some true
  | _ :: _, [] => some false
  | x :: xs, y :: ys => match D.lt x y, D.ltL xs ys with
    | some b, some c => some (if x = y then c else b)
    | _, _ => none
end
/-- ints, and tuples of such at most n deep -/
def D.ord : Nat → D → Bool
  | n, .int _ => true
  | 0, _ => false
  | n + 1, .tup xs => xs.all (D.ord n)
  | _, _ => false

/-- keys of dicts: ints, texts, tuples of these at most n deep -/
def D.keyN : Nat → D → Bool
  | _, .int _ => true
  | _, .str _ => true
  | n + 1, .tup xs => xs.all (D.keyN n)
  | _, _ => false
def D.key (d : D) : Bool := D.keyN 8 d
def D.key1 : D → Bool
  | .int _ => true
  | .str _ => true
  | _ => false
def D.isT : D → Bool
  | .tup _ => true
  | _ => false
/-- a key that may be asked of a dict with these keys: all of them are tuples, or none is -/
def keyFor (ks : List D) (a : D) : Bool := a.key && (match ks with
  | [] => true
  | k :: _ => k.isT == a.isT)

/-! ### reading things -/
def cellOf (st : Store) : D → D
  | .ref n => (st[n]?).getD .non
  | d => d
def itemsOf (st : Store) (d : D) : Option (List D) := match cellOf st d with
  | .tup xs => some xs
  | .lst xs => some xs
  | _ => none
def listOf (st : Store) (d : D) : Option (List D) := match cellOf st d with
  | .lst xs => some xs
  | _ => none
def dictOf (st : Store) (d : D) : Option (List D × List D) := match cellOf st d with
  | .dic ks vs => some (ks, vs)
  | _ => none
def dget : List D → List D → D → Option D
  | k :: ks, v :: vs, x => if k = x then some v else dget ks vs x
  | _, _, _ => none
def dputK (ks : List D) (x : D) : List D := if x ∈ ks then ks else ks ++ [x]
def dputV : List D → List D → D → D → List D
  | k :: ks, v :: vs, x, y => if k = x then y :: vs else v :: dputV ks vs x y
  | _, vs, _, y => vs ++ [y]
def fget : List Nat → List D → Nat → Option D
  | n :: ns, v :: vs, f => if n = f then some v else fget ns vs f
  | _, _, _ => none
def fputN : List Nat → Nat → List Nat
  | n :: ns, f => if n = f then n :: ns else n :: fputN ns f
  | [], f => [f]
def fputV : List Nat → List D → Nat → D → List D
  | n :: ns, v :: vs, f, y => if n = f then y :: vs else v :: fputV ns vs f y
  | _, _, _, y => [y]
def truthy (st : Store) (d : D) : Option Bool := match cellOf st d with
  | .non => some false
  | .bl b => some b
  | .int i => some (i != 0)
  | .str x => if sz x.length then some ((x.length : Int) != 0) else none
  | .tup xs => some (!xs.isEmpty)
  | .lst xs => some (!xs.isEmpty)
  | _ => none
/-- is it true? -/
def truM (x : D) : M Bool := fun st => match truthy st x with
  | some b => .ok b st
  | none => .stk
def ix (n : Nat) (i : Int) : Option Nat := if 0 ≤ i then (if i < n then some i.toNat else none) else if -(n : Int) ≤ i then some (i + n).toNat else none
/-- where a slice's part lies -/
def sIx (n d : Nat) : Option Int → Nat
  | none => d
  | some v => if v < 0 then (v + (n : Int)).toNat else min v.toNat n
def cut (xs : List D) (lo hi : Option Int) : List D := (xs.drop (sIx xs.length 0 lo)).take (sIx xs.length xs.length hi - sIx xs.length 0 lo)

/-! ### making a value still -/
def frz (st : Store) : Nat → D → Option D
  | 0, d => if d.pur then some d else none
  | n + 1, d => if d.pur then some d else match d with
    | .tup xs => (xs.mapM (frz st n)).map .tup
    | .lst xs => (xs.mapM (frz st n)).map .lst
    | .dic ks vs => if D.purL ks then (vs.mapM (frz st n)).map (.dic ks) else none
    | .obj c ns vs => (vs.mapM (frz st n)).map (.obj c ns)
    | .ref i => match st[i]? with
      | some c => frz st n c
      | none => none
    | _ => none
def frzN : Nat := 40

/-! ### the language -/
inductive BOp where | add | sub | mul | fdiv | mod | pow | shl | shr | band | bor | bxor
  deriving DecidableEq
inductive COp where | eq | ne | lt | le | gt | ge | is_ | isn | in_ | nin
  deriving DecidableEq
/-- what isinstance may be asked -/
inductive Ty where | int | bool | str | tuple | list | dict | valueError | cls (c : Nat)
  deriving DecidableEq
inductive Blt where | len | tuple | list | dict | all | any | sum | sorted | min | max | abs | int | repr
  deriving DecidableEq
inductive BM where | append | extend | pop | index | get | setdefault
  deriving DecidableEq
inductive Tg where | v (i : Nat) | t (ts : List Tg)
mutual
inductive E where
  | var (i : Nat) | cst (d : D) | glb (i : Nat)
  | tup (es : EL) | lst (es : EL) | dic (kvs : EL) | box (e : E)
  | bin (op : BOp) (a b : E) | neg (a : E) | inv (a : E)
  | cmpd (op : COp) (a b : E) | atx (a : E) (f : Nat)
  | cmp (op : COp) (a b : E) | cmp2 (op1 op2 : COp) (a b c : E)
  | and (es : EL) | or (es : EL) | not (a : E) | ite (c a b : E)
  | idx (a i : E) | slc (a : E) (lo hi : EL) | rev (a : E)
  | atr (a : E) (f : Nat)
  | call (f : Nat) (args : EL) | callS (f : Nat) (args : EL) | callV (f : E) (args : EL)
  | mk (c : Nat) (args : EL) | mth (o : E) (m : Nat) (args : EL)
  | blt (f : Blt) (args : EL) | lrg (args : EL) | trg (args : EL) | bm (o : E) (m : BM) (args : EL) | isi (e : E) (ts : List Ty)
  | lc (e : E) (t : Tg) (i : I) (ifs : EL) (own : List Nat)
  | lc2 (e : E) (t : Tg) (i : I) (ifs : EL) (t2 : Tg) (i2 : I) (ifs2 : EL) (own : List Nat)
  | dc (k v : E) (t : Tg) (i : I) (ifs : EL) (own : List Nat)
inductive EL where
  | nil | cons (e : E) (es : EL)
/-- what a for walks -/
inductive I where
  | e (e : E) | rng (args : EL) | enm (e : E) | zip (a b : E) | rev (e : E) | revr (args : EL)
end
mutual
inductive S where
  | exp (e : E) | asg (t : Tg) (e : E) | par (is : List Nat) (es : EL) | aug (i : Nat) (op : BOp) (e : E)
  | sub (o i e : E) | atrS (o : E) (f : Nat) (e : E)
  | ret (e : E) | retN | iff (c : E) (a b : SL) | for (t : Tg) (i : I) (b : SL) | whl (c : E) (b : SL)
  | rai (c : Nat) (args : EL) | try (b : SL) (c : Nat) (i : Nat) (h : SL) | pas | brk | cnt
inductive SL where
  | nil | cons (s : S) (ss : SL)
end

/-- a def: how many parameters, how many names, its body -/
structure FnE where
  np : Nat
  nn : Nat
  body : SL
  /-- what the last parameters are when they are not given -/
  dfl : List D := []
/-- a class: its __init__ (of an exception's: none, its fields), its methods by name, __eq__, __len__ -/
structure ClE where
  init : Option Nat := none
  flds : List Nat := []
  meths : List (Nat × Nat) := []
  eq : Option Nat := none
  len : Option Nat := none
  err : Bool := false
  /-- of an exception's class: it and those above it -/
  up : List Nat := []
structure Tb where
  fns : List FnE
  cls : List ClE
  glb : List D

structure Run where
  T : Tb
  fuel : Nat
  call : Nat → List D → M D

/-! ### operators -/
def bitAnd (i j : Int) : Int := PySem.Builtin.bitAnd i j
def bitOr (i j : Int) : Int := PySem.Builtin.bitOr i j
def bitXor (i j : Int) : Int := PySem.Builtin.bitXor i j
def bitNot (i : Int) : Int := PySem.Builtin.bitNot i
def lim64 (i : Int) : Bool := decide (-(2 ^ 64) < i ∧ i < 2 ^ 64)
def binI (op : BOp) (i j : Int) : Option Int := match op with
  | .add => some (i + j)
  | .sub => some (i - j)
  | .mul => if lim64 i || lim64 j then some (i * j) else none
  | .fdiv => if j ≠ 0 ∧ j.natAbs < 1073741824 then some (i.fdiv j) else none
  | .mod => if j ≠ 0 then some (i.fmod j) else none
  | .pow => if 0 ≤ j ∧ j ≤ 1000000 ∧ i.natAbs < 2 ^ 64 then some (i ^ j.toNat) else none
  | .shl => if 0 ≤ j ∧ j ≤ 1000000 ∧ i.natAbs < 2 ^ 64 then some (i * 2 ^ j.toNat) else none
  | .shr => if 0 ≤ j then some (i / 2 ^ j.toNat) else none
  | .band => some (bitAnd i j)
  | .bor => some (bitOr i j)
  | .bxor => some (bitXor i j)
/-- of two tuples, of two lists: one behind the other -/
def catD (a b : D) (st : Store) : Option D := match a, b with
  | .tup xs, .tup ys => if sz (xs.length + ys.length) then some (.tup (xs ++ ys)) else none
  | x, y => match listOf st x, listOf st y with
    | some xs, some ys => if sz (xs.length + ys.length) then some (.lst (xs ++ ys)) else none
    | _, _ => none
def bin (op : BOp) (a b : D) (st : Store) : Option D := match a, b with
  | .int i, .int j => (binI op i j).map .int
  | x, y => match op with
    | .add => catD x y st
    | _ => none
def datN : Nat := 60
def eqD (_ : Store) (a b : D) : Option Bool := if a.dat datN && b.dat datN then some (a.eqv b) else none
def inD (st : Store) (a b : D) : Option Bool := match cellOf st b with
  | .dic ks _ => if keyFor ks a then some (decide (a ∈ ks)) else none
  | .tup xs => if a.dat datN && D.datL datN xs then some (xs.any fun x => x.eqv a) else none
  | .lst xs => if a.dat datN && D.datL datN xs then some (xs.any fun x => x.eqv a) else none
  | _ => none
def ltD (a b : D) : Option Bool := if a.ord 8 && b.ord 8 then a.lt b else none
def cmp (op : COp) (a b : D) (st : Store) : Option Bool := match op with
  | .eq => eqD st a b
  | .ne => (eqD st a b).map not
  | .lt => ltD a b
  | .gt => ltD b a
  | .le => (ltD b a).map not
  | .ge => (ltD a b).map not
  | .is_ => match b with
    | .non => some (decide (a = .non))
    | _ => none
  | .isn => match b with
    | .non => some (!decide (a = .non))
    | _ => none
  | .in_ => inD st a b
  | .nin => (inD st a b).map not

def isUp (T : Tb) (c c' : Nat) : Bool := decide (c = c') || (match T.cls[c]? with
  | some e => decide (c' ∈ e.up)
  | none => false)
/-- is the thing c of the type t? -/
def instC (T : Tb) (c : D) (t : Ty) : Bool := match c, t with
  | .int _, .int => true
  | .bl _, .int => true
  | .bl _, .bool => true
  | .str _, .str => true
  | .tup _, .tuple => true
  | .lst _, .list => true
  | .dic _ _, .dict => true
  | .obj c _ _, .cls c' => decide (c = c')
  | .exn c _ _, .cls c' => isUp T c c'
  | .exn _ _ _, .valueError => true
  | _, _ => false
/-- of which isinstance may be asked -/
def isiOk (T : Tb) (c : D) : Bool := match c with
  | .non => true
  | .bl _ => true
  | .int _ => true
  | .str _ => true
  | .tup _ => true
  | .lst _ => true
  | .dic _ _ => true
  | .obj c _ _ => (match T.cls[c]? with
    | some e => !e.err
    | none => false)
  | .exn c _ _ => (match T.cls[c]? with
    | some e => e.err
    | none => false)
  | _ => false

def ltB (a b : D) : Bool := (D.lt a b).getD false
/-- the list rising in <, equal ones as they stood -/
def sortD (xs : List D) : List D := xs.mergeSort fun a b => !ltB b a
/-- a tuple with an item -/
def D.isNT : D → Bool
  | .tup (_ :: _) => true
  | _ => false
/-- what sorted takes: one item at most, or items of which any two compare -/
def sortOk (xs : List D) : Bool := decide (xs.length < 2) || ((xs.all fun a => a.ord 8) && (xs.all fun a => xs.all fun b => (D.lt a b).isSome) && (xs.all D.isNT || xs.all fun a => !a.isT))
def rangeL (lo hi : Int) : List D := (List.range (hi - lo).toNat).map fun k => D.int (lo + (k : Nat))
def small62 (i : Int) : Bool := decide (-(2 ^ 62) ≤ i ∧ i < 2 ^ 62)
/-- range(lo, hi, step)'s ints -/
def rangeS (lo hi c : Int) : List D := (List.range (if 0 < c then ((hi - lo + c - 1) / c).toNat else ((lo - hi - c - 1) / (-c)).toNat)).map fun k => D.int (lo + (k : Nat) * c)
def «ints» : List D → Option (List Int)
  | [] => some []
  | .int i :: r => («ints» r).map (i :: ·)
  | _ => none
def bools : List D → Option (List Bool)
  | [] => some []
  | .bl b :: r => (bools r).map (b :: ·)
  | _ => none
def pairs : List D → Option (List D × List D)
  | [] => some ([], [])
  | .tup [k, v] :: r => if k.key then (pairs r).map fun p => (k :: p.1, v :: p.2) else none
  | _ => none
def dfrom : List D → List D → List D → List D → List D × List D
  | k :: ks, v :: vs, ak, av => dfrom ks vs (dputK ak k) (dputV ak av k v)
  | _, _, ak, av => (ak, av)
/-- all of them tuples, or none -/
def oneKind : List D → Bool
  | [] => true
  | k :: ks => ks.all fun x => x.isT == k.isT
/-- the dict of these keys and values, later ones win -/
def dmk (p : List D × List D) : Option D := if oneKind p.1 then some (let q := dfrom p.1 p.2 [] []; .dic q.1 q.2) else none
def maxI : List Int → Option Int
  | [] => none
  | x :: xs => some (xs.foldl (fun a b => if b > a then b else a) x)
def minI : List Int → Option Int
  | [] => none
  | x :: xs => some (xs.foldl (fun a b => if b < a then b else a) x)

mutual
/-- data as the library tells it -/
def toPy : D → PySem.PyData
  | .non => .none
  | .bl b => .bool b
  | .int i => .int i
  | .str x => .str x
  | .tup xs => .tuple (toPyL xs)
  | .lst xs => .list (toPyL xs)
  | _ => .none
def toPyL : List D → List PySem.PyData
  | [] => []
  | x :: xs => toPy x :: toPyL xs
end
/-- repr of data: Python's text -/
def reprD (d : D) : Str := (toPy d).shown
def reprOk (d : D) : Bool := (toPy d).showable && sz (reprD d).length

/-- the built-ins that give a value of their arguments (and nothing else) -/
def blt (f : Blt) (args : List D) (st : Store) : Option D := match f, args with
  | .len, [d] => match cellOf st d with
    | .tup xs => some (.int xs.length)
    | .lst xs => some (.int xs.length)
    | .dic ks _ => some (.int ks.length)
    | .str x => if sz x.length then some (.int x.length) else none
    | _ => none
  | .tuple, [d] => match cellOf st d with
    | .tup xs => some (.tup xs)
    | .lst xs => some (.tup xs)
    | _ => none
  | .list, [d] => match cellOf st d with
    | .tup xs => some (.lst xs)
    | .lst xs => some (.lst xs)
    | _ => none
  | .dict, [d] => match cellOf st d with
    | .dic ks vs => if ks.all D.key1 then some (.dic ks vs) else none
    | .tup xs => (pairs xs).bind fun p => if p.1.all D.key1 then dmk p else none
    | .lst xs => (pairs xs).bind fun p => if p.1.all D.key1 then dmk p else none
    | _ => none
  | .all, [d] => match cellOf st d with
    | .lst xs => (bools xs).map fun bs => .bl (bs.all id)
    | _ => none
  | .any, [d] => match cellOf st d with
    | .lst xs => (bools xs).map fun bs => .bl (bs.any id)
    | _ => none
  | .sum, [d] => match cellOf st d with
    | .lst xs => («ints» xs).map fun ns => .int ns.sum
    | _ => none
  | .sorted, [d] => match cellOf st d with
    | .lst xs => if sortOk xs then some (.lst (sortD xs)) else none
    | .dic ks _ => if sortOk ks then some (.lst (sortD ks)) else none
    | _ => none
  | .min, [.int i, .int j] => some (.int (if j < i then j else i))
  | .max, [.int i, .int j] => some (.int (if j > i then j else i))
  | .min, [d] => match itemsOf st d with
    | some xs => («ints» xs).bind fun ns => (minI ns).map .int
    | none => none
  | .max, [d] => match itemsOf st d with
    | some xs => («ints» xs).bind fun ns => (maxI ns).map .int
    | none => none
  | .abs, [.int i] => some (.int (if i < 0 then -i else i))
  | .int, [.int i] => some (.int i)
  | .int, [.bl b] => some (.int (if b then 1 else 0))
  | .repr, [d] => if d.dat datN && reprOk d then some (.str (reprD d)) else none
  | _, _ => none

def setAt (st : Store) (n : Nat) (c : D) : Store := st.set n c
/-- methods of built-in types -/
def bmeth (m : BM) (o : D) (args : List D) : M D := fun st => match m, o, args with
  | .append, .ref n, [y] => match st[n]? with
    | some (.lst xs) => if xs.length < szLine then .ok .non (setAt st n (.lst (xs ++ [y]))) else .stk
    | _ => .stk
  | .extend, .ref n, [y] => match st[n]?, listOf st y with
    | some (.lst xs), some ys => if sz (xs.length + ys.length) then .ok .non (setAt st n (.lst (xs ++ ys))) else .stk
    | _, _ => .stk
  | .pop, .ref n, [] => match st[n]? with
    | some (.lst xs) => match xs[xs.length - 1]? with
      | some y => .ok y (setAt st n (.lst xs.dropLast))
      | none => .stk
    | _ => .stk
  | .pop, .ref n, [.int i] => match st[n]? with
    | some (.lst xs) => match ix xs.length i with
      | some k => match xs[k]? with
        | some y => .ok y (setAt st n (.lst (xs.eraseIdx k)))
        | none => .stk
      | none => .stk
    | _ => .stk
  | .index, d, [y] => match listOf st d with
    | some xs => if y.dat datN && D.datL datN xs then (match xs.findIdx? fun x => x.eqv y with
      | some k => .ok (.int k) st
      | none => .stk) else .stk
    | none => .stk
  | .get, d, [k] => match dictOf st d with
    | some (ks, vs) => if keyFor ks k then .ok ((dget ks vs k).getD .non) st else .stk
    | none => .stk
  | .get, d, [k, y] => match dictOf st d with
    | some (ks, vs) => if keyFor ks k then .ok ((dget ks vs k).getD y) st else .stk
    | none => .stk
  | .setdefault, .ref n, [k, y] => match st[n]? with
    | some (.dic ks vs) => if keyFor ks k && decide (ks.length < szLine) then (match dget ks vs k with
      | some v => .ok v st
      | none => .ok y (setAt st n (.dic (ks ++ [k]) (vs ++ [y])))) else .stk
    | _ => .stk
  | _, _, _ => .stk

/-- a thing that has this method -/
def bmOk (m : BM) (c : D) : Bool := match m, c with
  | .append, .lst _ => true
  | .pop, .lst _ => true
  | .index, .lst _ => true
  | .get, .dic _ _ => true
  | .setdefault, .dic _ _ => true
  | _, _ => false
def getIdx (o i : D) (st : Store) : Option D := match cellOf st o, i with
  | .tup xs, .int k => (ix xs.length k).bind fun j => xs[j]?
  | .lst xs, .int k => (ix xs.length k).bind fun j => xs[j]?
  | .dic ks vs, k => if keyFor ks k then dget ks vs k else none
  | _, _ => none
def setIdx (o i y : D) : M Unit := fun st => match o with
  | .ref n => match st[n]?, i with
    | some (.lst xs), .int k => match ix xs.length k with
      | some j => .ok () (setAt st n (.lst (xs.set j y)))
      | none => .stk
    | some (.dic ks vs), k => if keyFor ks k && decide (ks.length < szLine) then .ok () (setAt st n (.dic (dputK ks k) (dputV ks vs k y))) else .stk
    | _, _ => .stk
  | _ => .stk
/-- a field of this class's things -/
def fldOk (T : Tb) (c f : Nat) : Bool := match T.cls[c]? with
  | some e => decide (f ∈ e.flds)
  | none => false
def isErr (T : Tb) (c : Nat) : Bool := match T.cls[c]? with
  | some e => e.err
  | none => false
def getAtr (T : Tb) (o : D) (f : Nat) (st : Store) : Option D := match cellOf st o with
  | .obj c ns vs => if fldOk T c f && !isErr T c then fget ns vs f else none
  | .exn c ns vs => if fldOk T c f && isErr T c then fget ns vs f else none
  | _ => none
def setAtr (T : Tb) (o : D) (f : Nat) (y : D) : M Unit := fun st => match o with
  | .ref n => match st[n]? with
    | some (.obj c ns vs) => if fldOk T c f && !isErr T c && decide (ns.length < 1000) then .ok () (setAt st n (.obj c (fputN ns f) (fputV ns vs f y))) else .stk
    | _ => .stk
  | _ => .stk

/-! ### calls -/
/-- a def called: with still things alone it runs on a store of its own, and what it hands back is made still -/
def callS (R : Run) (f : Nat) (ds : List D) : M D := R.call f ds
def callD (R : Run) (f : Nat) (ds : List D) : M D := fun st => if D.purL ds then (match R.call f ds [] with
    | .ok d st1 => match frz st1 frzN d with
      | some d' => .ok d' st
      | none => .stk
    | .exc c vs st1 => match vs.mapM (frz st1 frzN) with
      | some vs' => .exc c vs' st
      | none => .stk
    | .stk => .stk) else R.call f ds st
def classOf (st : Store) (d : D) : Option Nat := match cellOf st d with
  | .obj c _ _ => some c
  | _ => none
def methOf (T : Tb) (st : Store) (o : D) (m : Nat) : Option Nat := match cellOf st o with
  | .obj c ns _ => if m ∈ ns then none else (T.cls[c]?).bind fun e => e.meths.lookup m
  | _ => none
def alloc (c : D) : M D := fun st => .ok (.ref st.length) (st ++ [c])
def mkD (R : Run) (c : Nat) (ds : List D) : M D := fun st => match (R.T.cls[c]?).bind (·.init) with
  | some f => match R.call f (.ref st.length :: ds) (st ++ [.obj c [] []]) with
    | .ok .non st' => .ok (.ref st.length) st'
    | .ok _ _ => .stk
    | .exc c vs st' => .exc c vs st'
    | .stk => .stk
  | none => .stk

/-! ### targets -/
mutual
def bindT (st : Store) : Tg → D → Env → Option Env
  | .v i, d, env => if i < env.length then some (env.set i (some d)) else none
  | .t ts, d, env => match cellOf st d with
    | .tup xs => bindTs st ts xs env
    | _ => none
def bindTs (st : Store) : List Tg → List D → Env → Option Env
  | [], [], env => some env
  | t :: ts, x :: xs, env => (bindT st t x env).bind (bindTs st ts xs)
  | _, _, _ => none
end
mutual
def Tg.vars : Tg → List Nat
  | .v i => [i]
  | .t ts => Tg.varsL ts
def Tg.varsL : List Tg → List Nat
  | [] => []
  | a :: as => Tg.vars a ++ Tg.varsL as
end
def wipe (env : Env) : List Nat → Env
  | [] => env
  | v :: vs => (wipe env vs).set v none

/-- [.. for t in items if ..]: fc the test, fe the element, added to acc -/
def lcGo (dep : Store → Bool) (fb : Store → D → Env → Option Env) (fc : Env → M Bool) (fe : Env → List D → M (List D)) (env : Env) : List D → List D → M (List D)
  | [], acc => fun st => if dep st then .ok acc st else .stk
  | x :: xs, acc => fun st => if dep st then (match fb st x env with
      | none => .stk
      | some env' => bnd (fc env') (fun b => if b then bnd (fe env' acc) (lcGo dep fb fc fe env xs) else lcGo dep fb fc fe env xs acc) st) else .stk
def putKV (k v : D) (acc : D) : M D := fun st => match acc with
  | .dic ks vs => if keyFor ks k && decide (ks.length < szLine) then .ok (.dic (dputK ks k) (dputV ks vs k v)) st else .stk
  | _ => .stk
def dcGo (dep : Store → Bool) (fb : Store → D → Env → Option Env) (fc : Env → M Bool) (fe : Env → D → M D) (env : Env) : List D → D → M D
  | [], acc => fun st => if dep st then .ok acc st else .stk
  | x :: xs, acc => fun st => if dep st then (match fb st x env with
      | none => .stk
      | some env' => bnd (fc env') (fun b => if b then bnd (fe env' acc) (dcGo dep fb fc fe env xs) else dcGo dep fb fc fe env xs acc) st) else .stk
/-- the things walked stand as they stood -/
def depOk (st0 : Store) (ds : List D) (st : Store) : Bool := ds.all fun d => match d with
  | .ref n => decide (st[n]? = st0[n]?)
  | _ => true

def enumL : Nat → List D → List D
  | _, [] => []
  | n, x :: xs => .tup [.int n, x] :: enumL (n + 1) xs
def zipL : List D → List D → List D
  | x :: xs, y :: ys => .tup [x, y] :: zipL xs ys
  | _, _ => []
def kvsOf : List D → Option (List D × List D)
  | [] => some ([], [])
  | [_] => none
  | k :: v :: r => if k.key then (kvsOf r).map fun p => (k :: p.1, v :: p.2) else none

/-- range(..)'s items by its arguments -/
def rngI (xs : List D) : M (List D × List D) := match xs with
  | [.int j] => if small62 j then ret (rangeL 0 j, []) else stk
  | [.int i, .int j] => if small62 i && small62 j then ret (rangeL i j, []) else stk
  | [.int i, .int j, .int c] => if small62 i && small62 j && decide (c ≠ 0 ∧ c.natAbs < 1073741824) then ret (rangeS i j c, []) else stk
  | _ => stk
/-- list(range(..)): a list of at most szLine -/
def rngL (xs : List D) : M D := match xs with
  | [.int j] => if small62 j && sz j.toNat then ret (.lst (rangeL 0 j)) else stk
  | [.int i, .int j] => if small62 i && small62 j && sz (j - i).toNat then ret (.lst (rangeL i j)) else stk
  | _ => stk
def rngT (xs : List D) : M D := match xs with
  | [.int j] => if small62 j && sz j.toNat then ret (.tup (rangeL 0 j)) else stk
  | [.int i, .int j] => if small62 i && small62 j && sz (j - i).toNat then ret (.tup (rangeL i j)) else stk
  | _ => stk
/-! ### the evaluator -/
section
variable (R : Run)
def sPart : List D → Option (Option Int)
  | [] => some none
  | [.int i] => some (some i)
  | _ => none
/-- what an own __len__ may give -/
def lenOk (d : D) : M D := match d with
  | .int n => if small62 n && decide (0 ≤ n) then ret (.int n) else stk
  | _ => stk
/-- what an own __eq__ may give -/
def bolOk (d : D) : M D := match d with
  | .bl b => ret (.bl b)
  | _ => stk
/-- x == y by the own __eq__ of their class -/
def ownEq (c : Nat) (x y : D) : M D := fun st => match (R.T.cls[c]?).bind (·.eq) with
  | some f => if classOf st y = some c then bnd (callD R f [x, y]) bolOk st else .stk
  | none => .stk
def ownLen (c : Nat) (x : D) : M D := match (R.T.cls[c]?).bind (·.len) with
  | some f => bnd (callD R f [x]) lenOk
  | none => stk
def evCmp (op : COp) (x y : D) : M D := fun st => match op, classOf st x with
  | .eq, some c => ownEq R c x y st
  | .ne, some _ => .stk
  | _, _ => match cmp op x y st with
    | some b => .ok (.bl b) st
    | none => .stk
def evBlt (f : Blt) (xs : List D) : M D := fun st => match f, xs with
  | .len, [x] => (match classOf st x with
    | some c => ownLen R c x st
    | none => match blt f xs st with
      | some y => .ok y st
      | none => .stk)
  | _, _ => match blt f xs st with
    | some y => .ok y st
    | none => .stk
/-- a comparison of data -/
def cmpM (op : COp) (x y : D) : M D := fun st => match cmp op x y st with
  | some b => .ok (.bl b) st
  | none => .stk
/-- a field of the exception in hand -/
def atxM (T : Tb) (f : Nat) (x : D) : M D := fun st => match x with
      | .exn _ _ _ => (match getAtr T x f st with
        | some z => .ok z st
        | none => .stk)
      | _ => .stk
mutual
def ev : E → Env → M D
  | .var i, env => fun st => match env[i]? with
    | some (some d) => .ok d st
    | _ => .stk
  | .cst d, _ => ret d
  | .glb i, _ => opt R.T.glb[i]?
  | .tup es, env => bnd (evL es env) fun xs => ret (.tup xs)
  | .lst es, env => bnd (evL es env) fun xs => ret (.lst xs)
  | .dic es, env => bnd (evL es env) fun xs => opt ((kvsOf xs).bind dmk)
  | .box e, env => bnd (ev e env) alloc
  | .bin op a b, env => bnd (ev a env) fun x => bnd (ev b env) fun y => fun st => match bin op x y st with
    | some z => .ok z st
    | none => .stk
  | .neg a, env => bnd (ev a env) fun x => match x with
    | .int i => ret (.int (-i))
    | _ => stk
  | .inv a, env => bnd (ev a env) fun x => match x with
    | .int i => ret (.int (bitNot i))
    | _ => stk
  | .cmp op a b, env => bnd (ev a env) fun x => bnd (ev b env) fun y => evCmp R op x y
  | .cmpd op a b, env => bnd (ev a env) fun x => bnd (ev b env) fun y => cmpM op x y
  | .atx a f, env => bnd (ev a env) (atxM R.T f)
  | .cmp2 o1 o2 a b c, env => bnd (ev a env) fun x => bnd (ev b env) fun y => bnd (evCmp R o1 x y) fun r => match r with
    | .bl true => bnd (ev c env) fun z => evCmp R o2 y z
    | .bl false => ret (.bl false)
    | _ => stk
  | .and es, env => evAnd es env
  | .or es, env => evOr es env
  | .not a, env => bnd (bnd (ev a env) truM) fun b => ret (.bl (!b))
  | .ite c a b, env => bnd (bnd (ev c env) truM) fun k => if k then ev a env else ev b env
  | .idx a i, env => bnd (ev a env) fun x => bnd (ev i env) fun y => fun st => match getIdx x y st with
    | some z => .ok z st
    | none => .stk
  | .slc a lo hi, env => bnd (ev a env) fun x => bnd (evL lo env) fun l => match sPart l with
    | some l => bnd (evL hi env) fun h => match sPart h with
      | some h => fun st => match cellOf st x with
        | .tup xs => .ok (.tup (cut xs l h)) st
        | .lst xs => .ok (.lst (cut xs l h)) st
        | _ => .stk
      | none => stk
    | none => stk
  | .rev a, env => bnd (ev a env) fun x => fun st => match cellOf st x with
      | .tup xs => .ok (.tup xs.reverse) st
      | .lst xs => .ok (.lst xs.reverse) st
      | _ => .stk
  | .atr a f, env => bnd (ev a env) fun x => fun st => match getAtr R.T x f st with
    | some z => .ok z st
    | none => .stk
  | .call f as, env => bnd (evL as env) fun xs => callD R f xs
  | .callS f as, env => bnd (evL as env) fun xs => callS R f xs
  | .callV g as, env => bnd (ev g env) fun x => match x with
    | .fn f => bnd (evL as env) fun xs => callD R f xs
    | _ => stk
  | .mk c as, env => bnd (evL as env) fun xs => mkD R c xs
  | .mth o m as, env => bnd (ev o env) fun x => fun st => match methOf R.T st x m with
    | some f => bnd (evL as env) (fun xs => callD R f (x :: xs)) st
    | none => .stk
  | .blt f as, env => bnd (evL as env) fun xs => evBlt R f xs
  | .lrg as, env => bnd (evL as env) rngL
  | .trg as, env => bnd (evL as env) rngT
  | .bm o m as, env => bnd (ev o env) fun x => fun st => if bmOk m (cellOf st x) then bnd (evL as env) (fun xs => bmeth m x xs) st else .stk
  | .isi a ts, env => bnd (ev a env) fun x => fun st => if isiOk R.T (cellOf st x) then .ok (.bl (ts.any (instC R.T (cellOf st x)))) st else .stk
  | .lc e t i ifs own, env => bnd (evI i env) fun p => fun st => bnd (calm (lcGo (depOk st p.2) (fun st d env => bindT st t d env) (fun env => evC ifs env) (fun env acc => bnd (ev e env) fun y => fun st => if acc.length < szLine then .ok (acc ++ [y]) st else .stk) (wipe env own) p.1 [])) (fun xs => ret (.lst xs)) st
  | .lc2 e t i ifs t2 i2 ifs2 own, env => bnd (evI i env) fun p => fun st => bnd (calm (lcGo (depOk st p.2) (fun st d env => bindT st t d env) (fun env => evC ifs env)
      (fun env acc => bnd (evI i2 env) fun p2 => fun st2 => lcGo (depOk st2 p2.2) (fun st d env => bindT st t2 d env) (fun env => evC ifs2 env) (fun env acc => bnd (ev e env) fun y => fun st => if acc.length < szLine then .ok (acc ++ [y]) st else .stk) (wipe env t2.vars) p2.1 acc st2) (wipe env own) p.1 [])) (fun xs => ret (.lst xs)) st
  | .dc k v t i ifs own, env => bnd (evI i env) fun p => fun st => calm (dcGo (depOk st p.2) (fun st d env => bindT st t d env) (fun env => evC ifs env) (fun env acc => bnd (ev k env) fun x => bnd (ev v env) fun y => putKV x y acc) (wipe env own) p.1 (.dic [] [])) st
def evL : EL → Env → M (List D)
  | .nil, _ => ret []
  | .cons e es, env => bnd (ev e env) fun x => bnd (evL es env) fun xs => ret (x :: xs)
/-- all tests hold -/
def evC : EL → Env → M Bool
  | .nil, _ => ret true
  | .cons e es, env => bnd (bnd (ev e env) truM) fun b => if b then evC es env else ret false
def evAnd : EL → Env → M D
  | .nil, _ => stk
  | .cons e .nil, env => ev e env
  | .cons e es, env => bnd (ev e env) fun x => bnd (truM x) fun b => if b then evAnd es env else ret x
def evOr : EL → Env → M D
  | .nil, _ => stk
  | .cons e .nil, env => ev e env
  | .cons e es, env => bnd (ev e env) fun x => bnd (truM x) fun b => if b then ret x else evOr es env
/-- the items, and what they are read from -/
def evI : I → Env → M (List D × List D)
  | .e e, env => bnd (ev e env) fun x => fun st => match cellOf st x with
    | .tup xs => .ok (xs, [x]) st
    | .lst xs => .ok (xs, [x]) st
    | _ => .stk
  | .rng as, env => bnd (evL as env) rngI
  | .enm e, env => bnd (ev e env) fun x => fun st => match itemsOf st x with
    | some xs => .ok (enumL 0 xs, [x]) st
    | none => .stk
  | .zip a b, env => bnd (ev a env) fun x => bnd (ev b env) fun y => fun st => match itemsOf st x, itemsOf st y with
    | some xs, some ys => .ok (zipL xs ys, [x, y]) st
    | _, _ => .stk
  | .rev e, env => bnd (ev e env) fun x => fun st => match itemsOf st x with
    | some xs => .ok (xs.reverse, [x]) st
    | none => .stk
  | .revr as, env => bnd (evL as env) fun xs => match xs with
    | [.int j] => if small62 j then ret ((rangeL 0 j).reverse, []) else stk
    | [.int i, .int j] => if small62 i && small62 j then ret ((rangeL i j).reverse, []) else stk
    | _ => stk
end
end

/-! ### statements -/
inductive Fl where
  | nx (env : Env) (st : Store) | rt (d : D) (st : Store) | bk (env : Env) (st : Store) | ct (env : Env) (st : Store)
  | xc (c : Nat) (vs : List D) (env : Env) (st : Store) | stk
/-- a value, then what follows -/
def vl {α : Type} (x : M α) (env : Env) (st : Store) (k : α → Store → Fl) : Fl := match x st with
  | .ok a st' => k a st'
  | .exc c vs st' => .xc c vs env st'
  | .stk => .stk
def sq (x : Fl) (k : Env → Store → Fl) : Fl := match x with
  | .nx env st => k env st
  | y => y
/-- for t in items: body -/
def forGo (dep : Store → Bool) (fb : Store → D → Env → Option Env) (body : Env → Store → Fl) : List D → Env → Store → Fl
  | [], env, st => if dep st then .nx env st else .stk
  | x :: xs, env, st => if dep st then (match fb st x env with
    | none => .stk
    | some env' => match body env' st with
      | .nx env2 st2 => forGo dep fb body xs env2 st2
      | .ct env2 st2 => forGo dep fb body xs env2 st2
      | .bk env2 st2 => .nx env2 st2
      | y => y) else .stk
def whlGo (test : Env → M Bool) (body : Env → Store → Fl) : Nat → Env → Store → Fl
  | 0, _, _ => .stk
  | n + 1, env, st => vl (test env) env st fun b st1 => if b then (match body env st1 with
    | .nx env2 st2 => whlGo test body n env2 st2
    | .ct env2 st2 => whlGo test body n env2 st2
    | .bk env2 st2 => .nx env2 st2
    | y => y) else .nx env st1
def setL : List Nat → List D → Env → Option Env
  | [], [], env => some env
  | i :: is, x :: xs, env => if i < env.length then setL is xs (env.set i (some x)) else none
  | _, _, _ => none
/-- no exception in hand within -/
def noxE (env : Env) : Bool := env.all fun o => match o with
  | some d => d.nox
  | none => true
/-- out of a handler: its name is let go -/
def leave (i : Nat) : Fl → Fl
  | .nx env st => if noxE (env.set i none) && D.noxL st then .nx (env.set i none) st else .stk
  | .bk env st => if noxE (env.set i none) && D.noxL st then .bk (env.set i none) st else .stk
  | .ct env st => if noxE (env.set i none) && D.noxL st then .ct (env.set i none) st else .stk
  | .rt d st => if d.nox && D.noxL st then .rt d st else .stk
  | _ => .stk
section
variable (R : Run)
def evT (e : E) (env : Env) : M Bool := bnd (ev R e env) truM
mutual
def evS : S → Env → Store → Fl
  | .exp e, env, st => vl (ev R e env) env st fun _ st1 => .nx env st1
  | .asg t e, env, st => vl (ev R e env) env st fun x st1 => match bindT st1 t x env with
    | some env' => .nx env' st1
    | none => .stk
  | .par is es, env, st => vl (evL R es env) env st fun xs st1 => match setL is xs env with
    | some env' => .nx env' st1
    | none => .stk
  | .aug i op e, env, st => match env[i]? with
    | some (some x) => vl (ev R e env) env st fun y st1 => match op, x, y with
      | .add, .int a, .int b => .nx (env.set i (some (.int (a + b)))) st1
      | _, _, _ => .stk
    | _ => .stk
  | .sub o i e, env, st => vl (ev R e env) env st fun y st1 => vl (ev R o env) env st1 fun a st2 => vl (ev R i env) env st2 fun k st3 => vl (setIdx a k y) env st3 fun _ st4 => .nx env st4
  | .atrS o f e, env, st => vl (ev R e env) env st fun y st1 => vl (ev R o env) env st1 fun a st2 => vl (setAtr R.T a f y) env st2 fun _ st3 => .nx env st3
  | .ret e, env, st => vl (ev R e env) env st fun x st1 => .rt x st1
  | .retN, _, st => .rt .non st
  | .iff c a b, env, st => vl (evT R c env) env st fun k st1 => if k then evSL a env st1 else evSL b env st1
  | .for t i b, env, st => vl (evI R i env) env st fun p st1 => forGo (depOk st1 p.2) (fun st d env => bindT st t d env) (fun env st => evSL b env st) p.1 env st1
  | .whl c b, env, st => whlGo (fun env => evT R c env) (fun env st => evSL b env st) R.fuel env st
  | .rai c es, env, st => vl (evL R es env) env st fun xs st1 => match R.T.cls[c]? with
    | some e => if e.err && decide (xs.length = e.flds.length) then .xc c xs.reverse env st1 else .stk
    | none => .stk
  | .try b c i h, env, st => match evSL b env st with
    | .xc c' vs env1 st1 => (match R.T.cls[c']? with
      | some e => if e.err then (if isUp R.T c' c then (if i < env1.length ∧ noxE env1 = true ∧ D.noxL st1 = true ∧ D.noxL vs = true then leave i (evSL h (env1.set i (some (.exn c' e.flds vs))) st1) else .stk) else .xc c' vs env1 st1) else .stk
      | none => .stk)
    | y => y
  | .pas, env, st => .nx env st
  | .brk, env, st => .bk env st
  | .cnt, env, st => .ct env st
def evSL : SL → Env → Store → Fl
  | .nil, env, st => .nx env st
  | .cons s ss, env, st => sq (evS s env st) fun env' st' => evSL ss env' st'
end
end

/-- a def's body on its arguments -/
def runF (R : Run) (f : FnE) (ds : List D) : M D := fun st => if ds.length = f.np then (match evSL R f.body (ds.map some ++ List.replicate (f.nn - f.np) none) st with
  | .nx _ st' => .ok .non st'
  | .rt d st' => .ok d st'
  | .xc c vs _ st' => .exc c vs st'
  | _ => .stk) else .stk
/-- calls at most n within one another -/
def run (T : Tb) (fuel : Nat) : Nat → Nat → List D → M D
  | 0, _, _ => stk
  | n + 1, f, ds => match T.fns[f]? with
    | some fe => runF ⟨T, fuel, run T fuel n⟩ fe ds
    | none => stk
end Dn
end
section
set_option Elab.async false
set_option linter.all false
set_option maxRecDepth 100000
/-! Dn2: how values and stores stand in the machine's heap. Own work. -/
namespace Dn
open PySem PySem.Spec PyProof.Rows L2

/-- the names behind the numbers -/
structure Nms where
  /-- a def: a global's name, or a class and its method -/
  fn : Nat → Str × Option Str
  cls : Nat → Str
  fld : Nat → Str
  /-- the fields of an exception's class -/
  ef : Nat → List Nat := fun _ => []
  /-- the exception in hand: where, its class, where its dict stands -/
  ex : Option (Addr × Nat × Addr) := none

/-- the world that is spoken of: the program, what is read off the machine, what the top has written, the names -/
structure Wo where
  P : Program
  w : World
  K : PySem.W.Frag
  N : Nms
abbrev Bo (X : Cx) (N : Nms) : Wo := ⟨X.prog, X.w, X.K, N⟩
mutual
/-- a dict's key as the machine's theory has it -/
def nkey : D → NestedKey
  | .int i => .num i
  | .str x => .text x
  | .tup ds => .tup (nkeys ds)
  | _ => .none
def nkeys : List D → List NestedKey
  | [] => []
  | d :: ds => nkey d :: nkeys ds
end
abbrev Ent := NestedKey × Addr × V
/-- a dict whose keys are tuples: its entries, each key where it stands -/
def dX (B : Wo) (a : Addr) (xs : List Ent) : HO := .ext fun h => (a == sysModules) = false ∧ xs.length ≤ sizeLine ∧ ∃ (us : List (NestedKey × Addr × Value)) (o : Obj) (es : Array DictEntry) (ep : Nat),
  Paired (fun (p : Ent) (q : NestedKey × Addr × Value) => p.1 = q.1 ∧ p.2.1 = q.2.1 ∧ RelV p.2.2 q.2.2) xs us ∧ h.get? a = some o ∧ o.ExactDict ∧ o.data = .dict es ep ∧ es.toList = us.map (entryOfKey (nestedKind B.P B.w)) ∧ (us.map (·.1)).Nodup
/-- a tuple that may be read, an object without attributes -/
def TupAt (K : PySem.W.Frag) (G : Hp) (a : Addr) (xs : List V) : Prop :=
  (∃ o : Obj, G a = some (.frz o (.tup xs)) ∧ o.cls = .type "tuple" ∧ o.dict = none) ∨
    ∃ (o : Obj) (its : Array Value) (n : Nat), K.lookup a = some o ∧ o.cls = .type "tuple" ∧ o.dict = none ∧ o.data = .seq its n ∧ its.size ≤ sizeLine ∧ Vals xs its.toList
theorem TupAt.seq {K : PySem.W.Frag} {G : Hp} {a : Addr} {xs : List V} (h : TupAt K G a xs) : SqT K G a xs := by
  rcases h with ⟨o, h, _⟩ | ⟨o, its, n, h1, h2, _, h3, h4, h5⟩
  · exact .inl (.inr ⟨o, h⟩)
  · exact .inr ⟨o, its, n, h1, h2, h3, h4, h5⟩
def keyD : Key → D
  | .inl i => .int i
  | .inr x => .str x
theorem keyD_inj {a b : Key} (h : keyD a = keyD b) : a = b := by
  cases a <;> cases b <;> first | cases h; rfl | cases h
/-- a dict that is locked while it is walked is the same dict -/
def unlk : HO → HO
  | .frz _ (.dK (k :: ks)) => .dK (k :: ks)
  | .frz _ (.ext φ) => .ext φ
  | u => u

/-- a dict that the text wrote at its top, its keys texts: the values ws -/
def KDic (K : PySem.W.Frag) (a : Addr) (ks : List D) (ws : List V) : Prop := (a == sysModules) = false ∧ ∃ (o : Obj) (es : Array DictEntry) (ep : Nat) (xs : List Str), K.lookup a = some o ∧ o.ExactDict ∧ o.data = .dict es ep ∧ ks = xs.map .str ∧
  Paired (fun (x : Str × V) (e : DictEntry) => keyIs (.inr x.1) e.key = true ∧ RelV x.2 e.val) (xs.zip ws) es.toList ∧ ws.length = xs.length
section
variable (B : Wo) (m : List Addr) (G : Hp)
mutual
/-- v stands for d: what stays lies in G, what may change at the places m -/
def repV : D → V → Prop
  | .non, v => v = .non
  | .bl b, v => v = .bl b
  | .int i, v => v = .int i
  | .str x, v => v = .str x
  | .tup ds, v => ∃ a xs, v = .ref a ∧ TupAt B.K G a xs ∧ repL ds xs
  | .kdic ks vs, v => ∃ a ws, v = .ref a ∧ KDic B.K a ks ws ∧ repL vs ws
  | .lst ds, v => ∃ a xs, v = .ref a ∧ SqL B.K G a xs ∧ repL ds xs
  | .dic ks vs, v => ∃ a u, v = .ref a ∧ G a = some u ∧ ((∃ kvs : List (Key × V), unlk u = .dK kvs ∧ ks = kvs.map (fun p => keyD p.1) ∧ repL vs (kvs.map (·.2))) ∨
      ∃ xs : List Ent, unlk u = dX B a xs ∧ xs.map (·.1) = nkeys ks ∧ ks ≠ [] ∧ repL ks (xs.map fun x => .ref x.2.1) ∧ (∀ k ∈ ks, k.isT = true ∧ k.key = true) ∧ repL vs (xs.map (·.2.2)))
  | .obj c ns vs, v => ∃ a dx fvs, v = .ref a ∧ G a = some (.ins (He.ga B.K (B.N.cls c)) dx fvs) ∧ fvs.map (·.1) = ns.map B.N.fld ∧ repL vs (fvs.map (·.2))
  | .ref n, v => ∃ a, v = .ref a ∧ m[n]? = some a
  | .fn f, v => v = .ref (He.fAd B.K (B.N.fn f))
  | .rng lo hi, v => ∃ a, v = .ref a ∧ G a = some (.rng lo hi)
  | .exn c ns vs, v => ∃ a dx fvs, v = .ref a ∧ B.N.ex = some (a, c, dx) ∧ G dx = some (.xd fvs) ∧ fvs.map (·.1) = ns.map B.N.fld ∧ repL vs (fvs.map (·.2))
def repL : List D → List V → Prop
  | [], xs => xs = []
  | d :: ds, xs => ∃ v vs, xs = v :: vs ∧ repV d v ∧ repL ds vs
end
end
section
variable {B : Wo} {m m' : List Addr} {G G' : Hp}
theorem repL_nil {xs : List V} : repL B m G [] xs ↔ xs = [] := by rw [repL]
theorem repL_cons {d : D} {ds : List D} {xs : List V} : repL B m G (d :: ds) xs ↔ ∃ v vs, xs = v :: vs ∧ repV B m G d v ∧ repL B m G ds vs := by rw [repL]
theorem repL.nil' : repL B m G [] [] := by rw [repL]
theorem repL.cons' {d : D} {ds : List D} {v : V} {vs : List V} (h : repV B m G d v) (t : repL B m G ds vs) : repL B m G (d :: ds) (v :: vs) := by
  rw [repL]; exact ⟨v, vs, rfl, h, t⟩
theorem repL.length : ∀ {ds : List D} {xs : List V}, repL B m G ds xs → xs.length = ds.length
  | [], xs, h => by rw [repL] at h; subst h; rfl
  | d :: ds, xs, h => by
    rw [repL] at h; obtain ⟨v, vs, rfl, _, t⟩ := h
    simp [t.length]
theorem repL.append : ∀ {ds es : List D} {xs ys : List V}, repL B m G ds xs → repL B m G es ys → repL B m G (ds ++ es) (xs ++ ys)
  | [], es, xs, ys, h, t => by rw [repL] at h; subst h; exact t
  | d :: ds, es, xs, ys, h, t => by
    rw [repL] at h; obtain ⟨v, vs, rfl, h1, h2⟩ := h
    exact .cons' h1 (h2.append t)
theorem repL.get : ∀ {ds : List D} {xs : List V} {i : Nat} {d : D}, repL B m G ds xs → ds[i]? = some d → ∃ v, xs[i]? = some v ∧ repV B m G d v
  | [], xs, i, d, h, e => by simp at e
  | d' :: ds, xs, 0, d, h, e => by
    rw [repL] at h; obtain ⟨v, vs, rfl, h1, h2⟩ := h
    simp at e; subst e; exact ⟨v, rfl, h1⟩
  | d' :: ds, xs, i + 1, d, h, e => by
    rw [repL] at h; obtain ⟨v, vs, rfl, h1, h2⟩ := h
    obtain ⟨w, e1, e2⟩ := h2.get (i := i) (d := d) (by simpa using e)
    exact ⟨w, by simpa using e1, e2⟩
theorem repL.of_get : ∀ {ds : List D} {xs : List V} {i : Nat} {v : V}, repL B m G ds xs → xs[i]? = some v → ∃ d, ds[i]? = some d ∧ repV B m G d v
  | [], xs, i, v, h, e => by rw [repL] at h; subst h; simp at e
  | d' :: ds, xs, 0, v, h, e => by
    rw [repL] at h; obtain ⟨w, vs, rfl, h1, h2⟩ := h
    simp at e; subst e; exact ⟨d', rfl, h1⟩
  | d' :: ds, xs, i + 1, v, h, e => by
    rw [repL] at h; obtain ⟨w, vs, rfl, h1, h2⟩ := h
    obtain ⟨d, e1, e2⟩ := h2.of_get (i := i) (v := v) (by simpa using e)
    exact ⟨d, by simpa using e1, e2⟩
theorem repL.take : ∀ {ds : List D} {xs : List V} (n : Nat), repL B m G ds xs → repL B m G (ds.take n) (xs.take n)
  | [], xs, n, h => by rw [repL] at h; subst h; simp; exact .nil'
  | d :: ds, xs, 0, h => by simp; exact .nil'
  | d :: ds, xs, n + 1, h => by
    rw [repL] at h; obtain ⟨v, vs, rfl, h1, h2⟩ := h
    simp only [List.take_succ_cons]; exact .cons' h1 (h2.take n)
theorem repL.drop : ∀ {ds : List D} {xs : List V} (n : Nat), repL B m G ds xs → repL B m G (ds.drop n) (xs.drop n)
  | [], xs, n, h => by rw [repL] at h; subst h; simp; exact .nil'
  | d :: ds, xs, 0, h => h
  | d :: ds, xs, n + 1, h => by
    rw [repL] at h; obtain ⟨v, vs, rfl, h1, h2⟩ := h
    simp only [List.drop_succ_cons]; exact h2.drop n
theorem repL.set : ∀ {ds : List D} {xs : List V} (n : Nat) {d : D} {v : V}, repL B m G ds xs → repV B m G d v → repL B m G (ds.set n d) (xs.set n v)
  | [], xs, n, d, v, h, hv => by rw [repL] at h; subst h; simp; exact .nil'
  | d' :: ds, xs, 0, d, v, h, hv => by
    rw [repL] at h; obtain ⟨w, vs, rfl, h1, h2⟩ := h
    simp only [List.set_cons_zero]; exact .cons' hv h2
  | d' :: ds, xs, n + 1, d, v, h, hv => by
    rw [repL] at h; obtain ⟨w, vs, rfl, h1, h2⟩ := h
    simp only [List.set_cons_succ]; exact .cons' h1 (h2.set n hv)
theorem repL.reverse : ∀ {ds : List D} {xs : List V}, repL B m G ds xs → repL B m G ds.reverse xs.reverse
  | [], xs, h => by rw [repL] at h; subst h; simp; exact .nil'
  | d :: ds, xs, h => by
    rw [repL] at h; obtain ⟨v, vs, rfl, h1, h2⟩ := h
    simp only [List.reverse_cons]; exact h2.reverse.append (.cons' h1 .nil')
theorem repL.eraseIdx : ∀ {ds : List D} {xs : List V} (n : Nat), repL B m G ds xs → repL B m G (ds.eraseIdx n) (xs.eraseIdx n)
  | [], xs, n, h => by rw [repL] at h; subst h; simp; exact .nil'
  | d :: ds, xs, 0, h => by
    rw [repL] at h; obtain ⟨v, vs, rfl, h1, h2⟩ := h
    exact h2
  | d :: ds, xs, n + 1, h => by
    rw [repL] at h; obtain ⟨v, vs, rfl, h1, h2⟩ := h
    simp only [List.eraseIdx_cons_succ]; exact .cons' h1 (h2.eraseIdx n)
theorem repL.dropLast {ds : List D} {xs : List V} (h : repL B m G ds xs) : repL B m G ds.dropLast xs.dropLast := by
  rw [List.dropLast_eq_take, List.dropLast_eq_take, h.length]; exact h.take _
theorem repL.mapInt : ∀ ns : List Int, repL B m G (ns.map .int) (ns.map .int)
  | [] => .nil'
  | n :: ns => .cons' (by rw [repV]) (repL.mapInt ns)
theorem repL.isEmpty {ds : List D} {xs : List V} (h : repL B m G ds xs) : xs.isEmpty = ds.isEmpty := by
  have := h.length
  cases xs <;> cases ds <;> simp_all

/-- what stays, stays (a dict may be locked) -/
def GLe (G G' : Hp) : Prop := ∀ a u, G a = some u → ∃ u', G' a = some u' ∧ unlk u' = unlk u
theorem GLe.refl (G : Hp) : GLe G G := fun a u h => ⟨u, h, rfl⟩
theorem GLe.trans {G1 G2 G3 : Hp} (a : GLe G1 G2) (b : GLe G2 G3) : GLe G1 G3 := fun c u h => by
  obtain ⟨u1, h1, e1⟩ := a c u h
  obtain ⟨u2, h2, e2⟩ := b c u1 h1
  exact ⟨u2, h2, e2.trans e1⟩
theorem GLe.of_same {G G' : Hp} (h : ∀ a u, G a = some u → G' a = some u) : GLe G G' := fun a u e => ⟨u, h a u e, rfl⟩
theorem unlk_tup {u : HO} {xs : List V} (h : unlk u = .tup xs) : u = .tup xs := by
  unfold unlk at h; split at h <;> first | exact h | cases h
theorem unlk_ins {u : HO} {C dx fs} (h : unlk u = .ins C dx fs) : u = .ins C dx fs := by
  unfold unlk at h; split at h <;> first | exact h | cases h
theorem unlk_xd {u : HO} {fs} (h : unlk u = .xd fs) : u = .xd fs := by
  unfold unlk at h; split at h <;> first | exact h | cases h
theorem unlk_rng {u : HO} {lo hi} (h : unlk u = .rng lo hi) : u = .rng lo hi := by
  unfold unlk at h; split at h <;> first | exact h | cases h
theorem unlk_lst {u : HO} {xs : List V} (h : unlk u = .lst xs) : u = .lst xs := by
  unfold unlk at h; split at h <;> first | exact h | cases h
theorem unlk_frzT {u : HO} {o : Obj} {xs : List V} (h : unlk u = .frz o (.tup xs)) : u = .frz o (.tup xs) := by
  unfold unlk at h; split at h <;> first | exact h | cases h
theorem unlk_frzL {u : HO} {o : Obj} {xs : List V} (h : unlk u = .frz o (.lst xs)) : u = .frz o (.lst xs) := by
  unfold unlk at h; split at h <;> first | exact h | cases h
theorem GLe.tup {a : Addr} {xs : List V} (g : GLe G G') (h : SqT B.K G a xs) : SqT B.K G' a xs := by
  rcases h with (h | ⟨o, h⟩) | h
  · obtain ⟨u, h1, e⟩ := g _ _ h
    exact .inl (.inl (by rw [h1, unlk_tup e]))
  · obtain ⟨u, h1, e⟩ := g _ _ h
    exact .inl (.inr ⟨o, by rw [h1, unlk_frzT e]⟩)
  · exact .inr h
theorem GLe.tupAt {a : Addr} {xs : List V} (g : GLe G G') (h : TupAt B.K G a xs) : TupAt B.K G' a xs := by
  rcases h with ⟨o, h, c⟩ | h
  · obtain ⟨u, h1, e⟩ := g _ _ h
    exact .inl ⟨o, by rw [h1, unlk_frzT e], c⟩
  · exact .inr h
theorem GLe.lst {a : Addr} {xs : List V} (g : GLe G G') (h : SqL B.K G a xs) : SqL B.K G' a xs := by
  rcases h with (h | ⟨o, h⟩) | h
  · obtain ⟨u, h1, e⟩ := g _ _ h
    exact .inl (.inl (by rw [h1, unlk_lst e]))
  · obtain ⟨u, h1, e⟩ := g _ _ h
    exact .inl (.inr ⟨o, by rw [h1, unlk_frzL e]⟩)
  · exact .inr h
theorem pre_get {m m' : List Addr} (p : m <+: m') {n : Nat} {a : Addr} (h : m[n]? = some a) : m'[n]? = some a := by
  obtain ⟨t, rfl⟩ := p
  have := (List.getElem?_eq_some_iff.mp h).1
  rw [List.getElem?_append_left this]; exact h
mutual
theorem repV.mono (p : m <+: m') (g : GLe G G') : ∀ (d : D) (v : V), repV B m G d v → repV B m' G' d v
  | .non, v, h => by rw [repV] at h ⊢; exact h
  | .bl b, v, h => by rw [repV] at h ⊢; exact h
  | .int i, v, h => by rw [repV] at h ⊢; exact h
  | .str x, v, h => by rw [repV] at h ⊢; exact h
  | .tup ds, v, h => by
    rw [repV] at h ⊢; obtain ⟨a, xs, e, s, r⟩ := h
    exact ⟨a, xs, e, g.tupAt s, repL.mono p g ds xs r⟩
  | .kdic ks vs, v, h => by
    rw [repV] at h ⊢; obtain ⟨a, ws, e, s, r⟩ := h
    exact ⟨a, ws, e, s, repL.mono p g vs ws r⟩
  | .lst ds, v, h => by
    rw [repV] at h ⊢; obtain ⟨a, xs, e, s, r⟩ := h
    exact ⟨a, xs, e, g.lst s, repL.mono p g ds xs r⟩
  | .dic ks vs, v, h => by
    rw [repV] at h ⊢; obtain ⟨a, u, e, s, r⟩ := h
    obtain ⟨u', s', q⟩ := g _ _ s
    refine ⟨a, u', e, s', ?_⟩
    rcases r with ⟨kvs, e1, e2, r⟩ | ⟨kvs, e1, e2, r⟩
    · exact .inl ⟨kvs, q.trans e1, e2, repL.mono p g vs _ r⟩
    · exact .inr ⟨kvs, q.trans e1, e2, r.1, repL.mono p g ks _ r.2.1, r.2.2.1, repL.mono p g vs _ r.2.2.2⟩
  | .obj c ns vs, v, h => by
    rw [repV] at h ⊢; obtain ⟨a, dx, fvs, e, s, e2, r⟩ := h
    obtain ⟨u', s', q⟩ := g _ _ s
    have q' := unlk_ins q
    subst q'
    exact ⟨a, dx, fvs, e, s', e2, repL.mono p g vs _ r⟩
  | .ref n, v, h => by
    rw [repV] at h ⊢; obtain ⟨a, e, s⟩ := h
    exact ⟨a, e, pre_get p s⟩
  | .fn f, v, h => by rw [repV] at h ⊢; exact h
  | .rng lo hi, v, h => by
    rw [repV] at h ⊢; obtain ⟨a, e, s⟩ := h
    obtain ⟨u', s', q⟩ := g _ _ s
    have q' := unlk_rng q
    subst q'
    exact ⟨a, e, s'⟩
  | .exn c ns vs, v, h => by
    rw [repV] at h ⊢; obtain ⟨a, dx, fvs, e, s, s2, e2, r⟩ := h
    obtain ⟨u', s', q⟩ := g _ _ s2
    have q' := unlk_xd q
    subst q'
    exact ⟨a, dx, fvs, e, s, s', e2, repL.mono p g vs _ r⟩
theorem repL.mono (p : m <+: m') (g : GLe G G') : ∀ (ds : List D) (xs : List V), repL B m G ds xs → repL B m' G' ds xs
  | [], xs, h => by rw [repL] at h ⊢; exact h
  | d :: ds, xs, h => by
    rw [repL] at h ⊢; obtain ⟨v, vs, e, h1, h2⟩ := h
    exact ⟨v, vs, e, repV.mono p g d v h1, repL.mono p g ds vs h2⟩
end
end

/-- the thing at a of the store -/
def CellOk (B : Wo) (m : List Addr) (G H : Hp) (a : Addr) : D → Prop
  | .lst ds => ∃ xs, H a = some (.lst xs) ∧ repL B m G ds xs
  | .dic ks vs => (∃ kvs : List (Key × V), H a = some (.dK kvs) ∧ ks = kvs.map (fun p => keyD p.1) ∧ repL B m G vs (kvs.map (·.2))) ∨
      ∃ xs : List Ent, H a = some (dX B a xs) ∧ xs.map (·.1) = nkeys ks ∧ ks ≠ [] ∧ repL B m G ks (xs.map fun x => .ref x.2.1) ∧ (∀ k ∈ ks, k.isT = true ∧ k.key = true) ∧ repL B m G vs (xs.map (·.2.2))
  | .obj c ns vs => ∃ dx fvs, H a = some (.ins (He.ga B.K (B.N.cls c)) dx fvs) ∧ fvs.map (·.1) = ns.map B.N.fld ∧ repL B m G vs (fvs.map (·.2))
  | _ => False
theorem CellOk.some {B : Wo} {m : List Addr} {G H : Hp} {a : Addr} {d : D} (h : CellOk B m G H a d) : ∃ o, H a = some o := by
  cases d <;> first | exact h.elim | skip
  · obtain ⟨xs, e, _⟩ := h; exact ⟨_, e⟩
  · rcases h with ⟨kvs, e, _⟩ | ⟨kvs, e, _⟩ <;> exact ⟨_, e⟩
  · obtain ⟨dx, fvs, e, _⟩ := h; exact ⟨_, e⟩
theorem CellOk.mut {B : Wo} {m : List Addr} {G H : Hp} {a : Addr} {d : D} (h : CellOk B m G H a d) : Mut (H a) := by
  cases d <;> first | exact h.elim | skip
  · obtain ⟨xs, e, _⟩ := h; rw [e]; trivial
  · rcases h with ⟨kvs, e, _⟩ | ⟨kvs, e, _⟩ <;> (rw [e]; trivial)
  · obtain ⟨dx, fvs, e, _⟩ := h; rw [e]; trivial
theorem CellOk.mono {B : Wo} {m m' : List Addr} {G G' H H' : Hp} {a : Addr} {d : D} (p : m <+: m') (g : GLe G G') (e : H' a = H a) (h : CellOk B m G H a d) : CellOk B m' G' H' a d := by
  cases d <;> first | exact h.elim | skip
  · obtain ⟨xs, q, r⟩ := h; exact ⟨xs, e.trans q, repL.mono p g _ _ r⟩
  · rcases h with ⟨kvs, q, e2, r⟩ | ⟨kvs, q, e2, r⟩
    · exact .inl ⟨kvs, e.trans q, e2, repL.mono p g _ _ r⟩
    · exact .inr ⟨kvs, e.trans q, e2, r.1, repL.mono p g _ _ r.2.1, r.2.2.1, repL.mono p g _ _ r.2.2.2⟩
  · obtain ⟨dx, fvs, q, e2, r⟩ := h; exact ⟨dx, fvs, e.trans q, e2, repL.mono p g _ _ r⟩

structure RelS (B : Wo) (m : List Addr) (G H : Hp) (st : Store) : Prop where
  sub : ∀ a o, G a = some o → H a = some o
  len : m.length = st.length
  nd : m.Nodup
  out : ∀ a ∈ m, G a = none
  cell : ∀ (i : Nat) (a : Addr) (c : D), m[i]? = some a → st[i]? = some c → CellOk B m G H a c
theorem RelS.mem {B : Wo} {m : List Addr} {G H : Hp} {st : Store} (r : RelS B m G H st) {a : Addr} (h : a ∈ m) : ∃ o, H a = some o := by
  obtain ⟨i, hi, e⟩ := List.mem_iff_getElem.mp h
  have hi' : i < st.length := by rw [← r.len]; exact hi
  exact (r.cell i a st[i] (by rw [List.getElem?_eq_getElem hi, e]) (List.getElem?_eq_getElem hi')).some
theorem RelS.new {B : Wo} {m : List Addr} {G H : Hp} {st : Store} (r : RelS B m G H st) {a : Addr} (h : H a = none) : a ∉ m ∧ G a = none := by
  refine ⟨fun q => ?_, ?_⟩
  · obtain ⟨o, e⟩ := r.mem q; rw [h] at e; cases e
  · cases q : G a with
    | none => rfl
    | some o => have := r.sub _ _ q; rw [h] at this; cases this

structure Ext (m : List Addr) (G H : Hp) (m' : List Addr) (G' H' : Hp) : Prop where
  pre : m <+: m'
  g : GLe G G'
  fr : ∀ a o, H a = some o → a ∉ m → H' a = some o
  dom : ∀ a o, H a = some o → ∃ o', H' a = some o'
  nm : ∀ a ∈ m', a ∈ m ∨ H a = none
  ng : ∀ a o, G' a = some o → (∃ o', G a = some o') ∨ H a = none ∨ ∃ fs, H a = some (.xd fs)
  xs : ∀ a fs, H' a = some (.xd fs) → a ∉ m ∨ H a = some (.xd fs)
theorem Ext.refl (m : List Addr) (G H : Hp) : Ext m G H m G H := ⟨List.prefix_rfl, .refl G, fun _ _ h _ => h, fun _ o h => ⟨o, h⟩, fun _ h => .inl h, fun _ o h => .inl ⟨o, h⟩, fun _ _ h => .inr h⟩
theorem Ext.trans {m1 m2 m3 : List Addr} {G1 G2 G3 H1 H2 H3 : Hp} (a : Ext m1 G1 H1 m2 G2 H2) (b : Ext m2 G2 H2 m3 G3 H3) : Ext m1 G1 H1 m3 G3 H3 where
  pre := a.pre.trans b.pre
  g := a.g.trans b.g
  fr := fun c o h n => b.fr c o (a.fr c o h n) fun q => by
    rcases a.nm c q with z | z
    · exact n z
    · rw [h] at z; cases z
  dom := fun c o h => by
    obtain ⟨o', h'⟩ := a.dom c o h
    exact b.dom c o' h'
  nm := fun c h => by
    rcases b.nm c h with z | z
    · exact a.nm c z
    · right
      cases q : H1 c with
      | none => rfl
      | some o => obtain ⟨o', h'⟩ := a.dom c o q; rw [z] at h'; cases h'
  ng := fun c o h => by
    rcases b.ng c o h with ⟨o', z⟩ | z | ⟨fs, z⟩
    · exact a.ng c o' z
    · right; left
      cases q : H1 c with
      | none => rfl
      | some o => obtain ⟨o', h'⟩ := a.dom c o q; rw [z] at h'; cases h'
    · right
      rcases a.xs c fs z with y | y
      · cases q : H1 c with
        | none => exact .inl rfl
        | some o => exact .inr ⟨fs, by rw [← z, a.fr c o q y]⟩
      · exact .inr ⟨fs, y⟩
  xs := fun c fs h => by
    rcases b.xs c fs h with z | z
    · exact .inl fun q => z (a.pre.subset q)
    · exact a.xs c fs z

/-- the frame's slots -/
def RelE (B : Wo) (m : List Addr) (G : Hp) (env : Env) (σ : L2.St) : Prop :=
  env.length = σ.length ∧ ∀ (i : Nat) (d : D), env[i]? = some (some d) → ∃ v, σ[i]? = some (some v) ∧ repV B m G d v
theorem RelE.mono {B : Wo} {m m' : List Addr} {G G' : Hp} {env : Env} {σ : L2.St} (h : RelE B m G env σ) (p : m <+: m') (g : GLe G G') : RelE B m' G' env σ :=
  ⟨h.1, fun i d e => by obtain ⟨v, e1, r⟩ := h.2 i d e; exact ⟨v, e1, r.mono p g d v⟩⟩
theorem RelE.ext {B : Wo} {m m' : List Addr} {G G' H H' : Hp} {env : Env} {σ : L2.St} (h : RelE B m G env σ) (x : Ext m G H m' G' H') : RelE B m' G' env σ := h.mono x.pre x.g
theorem RelE.set {B : Wo} {m : List Addr} {G : Hp} {env : Env} {σ : L2.St} (h : RelE B m G env σ) (i : Nat) {d : D} {v : V} (r : repV B m G d v) : RelE B m G (env.set i (some d)) (σ.set i (some v)) := by
  refine ⟨by simp [h.1], fun j e q => ?_⟩
  by_cases hj : j = i
  · subst hj
    by_cases hl : j < env.length
    · rw [List.getElem?_set_self hl] at q; cases q
      exact ⟨v, by rw [List.getElem?_set_self (by rw [← h.1]; exact hl)], r⟩
    · rw [List.getElem?_eq_none (by simp; omega)] at q; cases q
  · rw [List.getElem?_set_ne (Ne.symm hj)] at q
    obtain ⟨w, e1, r1⟩ := h.2 j e q
    exact ⟨w, by rw [List.getElem?_set_ne (Ne.symm hj)]; exact e1, r1⟩
theorem RelE.drop {B : Wo} {m : List Addr} {G : Hp} {env : Env} {σ : L2.St} (h : RelE B m G env σ) (i : Nat) : RelE B m G (env.set i none) (σ.set i none) := by
  refine ⟨by simp [h.1], fun j e q => ?_⟩
  by_cases hj : j = i
  · subst hj
    by_cases hl : j < env.length
    · rw [List.getElem?_set_self hl] at q; cases q
    · rw [List.getElem?_eq_none (by simp; omega)] at q; cases q
  · rw [List.getElem?_set_ne (Ne.symm hj)] at q
    obtain ⟨w, e1, r1⟩ := h.2 j e q
    exact ⟨w, by rw [List.getElem?_set_ne (Ne.symm hj)]; exact e1, r1⟩
theorem RelE.wipe {B : Wo} {m : List Addr} {G : Hp} {env : Env} {σ : L2.St} (h : RelE B m G env σ) : ∀ vs : List Nat, RelE B m G (Dn.wipe env vs) (L2.wipe σ vs)
  | [] => h
  | v :: vs => by
    unfold Dn.wipe L2.wipe
    exact (RelE.wipe h vs).drop v

/-- at dx: the dict of an exception of the class c -/
def ExAt (B : Wo) (c : Nat) (H : Hp) (dx : Addr) (fvs : List (Str × V)) : Prop := H dx = some (.xd fvs) ∧ fvs.map (·.1) = (B.N.ef c).map B.N.fld
/-- behind a computation: what is wanted of its value (R), of an error (X) -/
def Post {α : Type} (B : Wo) (m : List Addr) (G H : Hp) (X : XK) (R : α → Store → List Addr → Hp → Hp → Prop) : Res α → Prop
  | .ok a st' => ∀ m' G' H', Ext m G H m' G' H' → RelS B m' G' H' st' → R a st' m' G' H'
  | .exc c vs st' => ∀ m' G' H' dx fvs, Ext m G H m' G' H' → RelS B m' G' H' st' → ExAt B c H' dx fvs → repL B m' G' vs (fvs.map (·.2)) → X (.ref (He.ga B.K (B.N.cls c))) (some dx) H'
  | .stk => False
section
variable {α β : Type} {B : Wo} {m m1 : List Addr} {G G1 H H1 : Hp} {X : XK}
theorem Post.mono {R R' : α → Store → List Addr → Hp → Hp → Prop} {r : Res α} (h : Post B m G H X R r) (k : ∀ a st' m' G' H', Ext m G H m' G' H' → RelS B m' G' H' st' → R a st' m' G' H' → R' a st' m' G' H') : Post B m G H X R' r := by
  cases r with
  | ok a st' => exact fun m' G' H' x s => k a st' m' G' H' x s (h m' G' H' x s)
  | exc c vs st' => exact h
  | stk => exact h
theorem Post.ext {R : α → Store → List Addr → Hp → Hp → Prop} {r : Res α} (x : Ext m G H m1 G1 H1) (h : Post B m G H X R r) : Post B m1 G1 H1 X R r := by
  cases r with
  | ok a st' => exact fun m' G' H' y s => h m' G' H' (x.trans y) s
  | exc c vs st' => exact fun m' G' H' dx fvs y s e r => h m' G' H' dx fvs (x.trans y) s e r
  | stk => exact h
/-- one after the other -/
theorem Post.bnd {x : M α} {f : α → M β} {R : β → Store → List Addr → Hp → Hp → Prop} {st : Store} (h : Post B m G H X R (Dn.bnd x f st)) :
    Post B m G H X (fun a st1 m1 G1 H1 => Post B m1 G1 H1 X R (f a st1)) (x st) := by
  unfold Dn.bnd at h
  cases q : x st with
  | ok a st' =>
    rw [q] at h
    exact fun m' G' H' y s => Post.ext y h
  | exc c vs st' => rw [q] at h; exact h
  | stk => rw [q] at h; exact h
/-- where nothing more is run -/
theorem Post.here {R : α → Store → List Addr → Hp → Hp → Prop} {a : α} {st : Store} (s : RelS B m G H st) (h : Post B m G H X R (.ok a st)) : R a st m G H := h m G H (.refl ..) s
end

/-! ### heaps that grow -/
section
variable {B : Wo} {m : List Addr} {G H : Hp} {st : Store} {p : Addr} {o : HO}
theorem upd_none {H : Hp} {a b : Addr} {o : HO} (h : upd H a o b = none) : H b = none ∧ b ≠ a := by
  by_cases e : b = a
  · subst e; rw [upd_same] at h; cases h
  · rw [upd_ne e] at h; exact ⟨h, e⟩
/-- a new object that stays -/
theorem Ext.still (r : RelS B m G H st) (hp : H p = none) : Ext m G H m (upd G p o) (upd H p o) where
  pre := List.prefix_rfl
  g := .of_same fun a u h => by
    have : a ≠ p := fun e => by subst e; have := r.sub _ _ h; rw [hp] at this; cases this
    rw [upd_ne this]; exact h
  fr := fun a u h _ => by
    have : a ≠ p := fun e => by subst e; rw [hp] at h; cases h
    rw [upd_ne this]; exact h
  dom := fun a u h => by
    have : a ≠ p := fun e => by subst e; rw [hp] at h; cases h
    exact ⟨u, by rw [upd_ne this]; exact h⟩
  nm := fun a h => .inl h
  ng := fun a u h => by
    by_cases e : a = p
    · subst e; exact .inr (.inl hp)
    · rw [upd_ne e] at h; exact .inl ⟨u, h⟩
  xs := fun a fs h => by
    by_cases e : a = p
    · subst e; exact .inl (r.new hp).1
    · rw [upd_ne e] at h; exact .inr h
theorem RelS.still (r : RelS B m G H st) (hp : H p = none) : RelS B m (upd G p o) (upd H p o) st where
  sub := fun a u h => by
    by_cases e : a = p
    · subst e; rw [upd_same] at h ⊢; exact h
    · rw [upd_ne e] at h ⊢; exact r.sub _ _ h
  len := r.len
  nd := r.nd
  out := fun a h => by
    have : a ≠ p := fun e => by subst e; exact (r.new hp).1 h
    rw [upd_ne this]; exact r.out a h
  cell := fun i a c h1 h2 => by
    have : a ≠ p := fun e => by subst e; exact (r.new hp).1 (List.mem_of_getElem? h1)
    exact (r.cell i a c h1 h2).mono List.prefix_rfl (Ext.still (o := o) r hp).g (upd_ne this)
/-- a new object that is let go (nothing tells of it) -/
theorem Ext.loose (r : RelS B m G H st) (hp : H p = none) : Ext m G H m G (upd H p o) where
  pre := List.prefix_rfl
  g := .refl G
  fr := fun a u h _ => by
    have : a ≠ p := fun e => by subst e; rw [hp] at h; cases h
    rw [upd_ne this]; exact h
  dom := fun a u h => by
    have : a ≠ p := fun e => by subst e; rw [hp] at h; cases h
    exact ⟨u, by rw [upd_ne this]; exact h⟩
  nm := fun a h => .inl h
  ng := fun a u h => .inl ⟨u, h⟩
  xs := fun a fs h => by
    by_cases e : a = p
    · subst e; exact .inl (r.new hp).1
    · rw [upd_ne e] at h; exact .inr h
theorem RelS.loose (r : RelS B m G H st) (hp : H p = none) : RelS B m G (upd H p o) st where
  sub := fun a u h => by
    have : a ≠ p := fun e => by subst e; have := r.sub _ _ h; rw [hp] at this; cases this
    rw [upd_ne this]; exact r.sub _ _ h
  len := r.len
  nd := r.nd
  out := r.out
  cell := fun i a c h1 h2 => by
    have : a ≠ p := fun e => by subst e; exact (r.new hp).1 (List.mem_of_getElem? h1)
    exact (r.cell i a c h1 h2).mono List.prefix_rfl (.refl G) (upd_ne this)
/-- a new thing of the store -/
theorem Ext.push (r : RelS B m G H st) (hp : H p = none) : Ext m G H (m ++ [p]) G (upd H p o) where
  pre := List.prefix_append ..
  g := .refl G
  fr := fun a u h _ => by
    have : a ≠ p := fun e => by subst e; rw [hp] at h; cases h
    rw [upd_ne this]; exact h
  dom := fun a u h => by
    have : a ≠ p := fun e => by subst e; rw [hp] at h; cases h
    exact ⟨u, by rw [upd_ne this]; exact h⟩
  nm := fun a h => by
    rcases List.mem_append.mp h with h | h
    · exact .inl h
    · have : a = p := by simpa using h
      subst this; exact .inr hp
  ng := fun a u h => .inl ⟨u, h⟩
  xs := fun a fs h => by
    by_cases e : a = p
    · subst e; exact .inl (r.new hp).1
    · rw [upd_ne e] at h; exact .inr h
theorem RelS.push {c : D} (r : RelS B m G H st) (hp : H p = none) (hc : CellOk B (m ++ [p]) G (upd H p o) p c) : RelS B (m ++ [p]) G (upd H p o) (st ++ [c]) where
  sub := fun a u h => by
    have : a ≠ p := fun e => by subst e; have := r.sub _ _ h; rw [hp] at this; cases this
    rw [upd_ne this]; exact r.sub _ _ h
  len := by simp [r.len]
  nd := by
    rw [List.nodup_append]
    refine ⟨r.nd, by simp, fun a ha b hb => ?_⟩
    have : b = p := by simpa using hb
    subst this
    exact fun e => (r.new hp).1 (e ▸ ha)
  out := fun a h => by
    rcases List.mem_append.mp h with h | h
    · exact r.out a h
    · have : a = p := by simpa using h
      subst this; exact (r.new hp).2
  cell := fun i a c' h1 h2 => by
    by_cases hi : i < m.length
    · rw [List.getElem?_append_left hi] at h1
      rw [List.getElem?_append_left (by rw [← r.len]; exact hi)] at h2
      have : a ≠ p := fun e => by subst e; exact (r.new hp).1 (List.mem_of_getElem? h1)
      exact (r.cell i a c' h1 h2).mono (List.prefix_append ..) (.refl G) (upd_ne this)
    · have hi' : i = m.length := by
        have := (List.getElem?_eq_some_iff.mp h1).1
        simp at this; omega
      subst hi'
      rw [r.len, List.getElem?_append_right (Nat.le_refl _)] at h2
      rw [List.getElem?_append_right (Nat.le_refl _)] at h1
      simp at h1 h2
      subst h1 h2
      exact hc
/-- a thing of the store is changed -/
theorem Ext.write (r : RelS B m G H st) {i : Nat} (hi : m[i]? = some p) (ho : ∀ fs, o ≠ .xd fs := by (intro _ h; cases h)) : Ext m G H m G (upd H p o) where
  pre := List.prefix_rfl
  g := .refl G
  fr := fun a u h n => by
    have : a ≠ p := fun e => by subst e; exact n (List.mem_of_getElem? hi)
    rw [upd_ne this]; exact h
  dom := fun a u h => by
    by_cases e : a = p
    · subst e; exact ⟨_, upd_same⟩
    · exact ⟨u, by rw [upd_ne e]; exact h⟩
  nm := fun a h => .inl h
  ng := fun a u h => .inl ⟨u, h⟩
  xs := fun a fs h => by
    by_cases e : a = p
    · subst e; rw [upd_same] at h; cases h; exact absurd rfl (ho fs)
    · rw [upd_ne e] at h; exact .inr h
theorem CellOk.noxd {a : Addr} {d : D} (h : CellOk B m G (upd H a o) a d) : ∀ fs, o ≠ .xd fs := fun fs e => by
  subst e
  have := h.mut
  rw [upd_same] at this
  exact this
theorem RelS.write {c : D} {i : Nat} (r : RelS B m G H st) (hi : m[i]? = some p) (hc : CellOk B m G (upd H p o) p c) : RelS B m G (upd H p o) (st.set i c) where
  sub := fun a u h => by
    have : a ≠ p := fun e => by subst e; have := r.out a (List.mem_of_getElem? hi); rw [this] at h; cases h
    rw [upd_ne this]; exact r.sub _ _ h
  len := by simp [r.len]
  nd := r.nd
  out := r.out
  cell := fun j a c' h1 h2 => by
    by_cases hj : j = i
    · subst hj
      rw [hi] at h1; cases h1
      have hl : j < st.length := by rw [← r.len]; exact (List.getElem?_eq_some_iff.mp hi).1
      rw [List.getElem?_set_self hl] at h2; cases h2
      exact hc
    · rw [List.getElem?_set_ne (Ne.symm hj)] at h2
      have : a ≠ p := fun e => hj (nd_ix r.nd h1 (e ▸ hi))
      exact (r.cell j a c' h1 h2).mono List.prefix_rfl (.refl G) (upd_ne this)
end
end Dn
end
section
set_option Elab.async false
set_option linter.all false
set_option maxRecDepth 100000
set_option maxHeartbeats 4000000
/-! Dn3: judgements over values; operators. Own work. -/
namespace Dn
open PySem PySem.Spec PyProof.Rows L2

theorem PE.imp {X : Cx} {e : Expr} {t t' : TE} (h : PE X e t) (k : ∀ σ H Q, t' σ H Q → t σ H Q) : PE X e t' := ⟨fun pins s σ H Q I q => h.run pins s σ H Q I (k σ H Q q)⟩
theorem PT.imp {X : Cx} {e : Expr} {t t' : TT} (h : PT X e t) (k : ∀ σ H Q, t' σ H Q → t σ H Q) : PT X e t' := ⟨fun pins s σ H Q I q => h.run pins s σ H Q I (k σ H Q q)⟩
theorem PA.imp {X : Cx} {e : List Expr} {t t' : TA} (h : PA X e t) (k : ∀ σ H Q, t' σ H Q → t σ H Q) : PA X e t' := ⟨fun pos pins s σ H Q I q => h.run pos pins s σ H Q I (k σ H Q q)⟩
theorem PS.imp {X : Cx} {e : Stmt} {t t' : TS} (h : PS X e t) (k : ∀ D σ H, t' D σ H → t D σ H) : PS X e t' := ⟨fun pins s σ H D I q => h.run pins s σ H D I (k D σ H q)⟩
theorem PSs.imp {X : Cx} {e : List Stmt} {t t' : TS} (h : PSs X e t) (k : ∀ D σ H, t' D σ H → t D σ H) : PSs X e t' := ⟨fun pins s σ H D I q => h.run pins s σ H D I (k D σ H q)⟩

/-- the reading of an expression by its value -/
def tD (B : Wo) (W : WX) (x : Env → M D) : TE := fun σ H Q => ∃ m G st env, RelS B m G H st ∧ RelE B m G env σ ∧
  Post B m G H (fun c d H' => W c d σ H') (fun d _ m' G' H' => ∀ v, repV B m' G' d v → Q v H') (x env st)
def tDB (B : Wo) (W : WX) (x : Env → M Bool) : TT := fun σ H Q => ∃ m G st env, RelS B m G H st ∧ RelE B m G env σ ∧
  Post B m G H (fun c d H' => W c d σ H') (fun b _ m' G' H' => Q b H') (x env st)
def tDA (B : Wo) (W : WX) (x : Env → M (List D)) : TA := fun σ H Q => ∃ m G st env, RelS B m G H st ∧ RelE B m G env σ ∧
  Post B m G H (fun c d H' => W c d σ H') (fun ds _ m' G' H' => ∀ vs, repL B m' G' ds vs → Q vs H') (x env st)
abbrev SE (X : Cx) (N : Nms) (W : WX) (e : Expr) (x : Env → M D) : Prop := PE X e (tD (Bo X N) W x)
abbrev ST (X : Cx) (N : Nms) (W : WX) (e : Expr) (x : Env → M Bool) : Prop := PT X e (tDB (Bo X N) W x)
abbrev SA (X : Cx) (N : Nms) (W : WX) (es : List Expr) (x : Env → M (List D)) : Prop := PA X es (tDA (Bo X N) W x)

/-! ### things read -/
section
variable {B : Wo} {m : List Addr} {G H : Hp} {st : Store} {d : D} {v : V} {ds : List D}
theorem sqL_sub {K : PySem.W.Frag} {a : Addr} {xs : List V} (s : ∀ a o, G a = some o → H a = some o) (h : SqL K G a xs) : SqL K H a xs := by
  rcases h with (h | ⟨o, h⟩) | h
  · exact .inl (.inl (s _ _ h))
  · exact .inl (.inr ⟨o, s _ _ h⟩)
  · exact .inr h
theorem sqT_sub {K : PySem.W.Frag} {a : Addr} {xs : List V} (s : ∀ a o, G a = some o → H a = some o) (h : SqT K G a xs) : SqT K H a xs := by
  rcases h with (h | ⟨o, h⟩) | h
  · exact .inl (.inl (s _ _ h))
  · exact .inl (.inr ⟨o, s _ _ h⟩)
  · exact .inr h
theorem cellOf_ref {n : Nat} : cellOf st (.ref n) = (st[n]?).getD .non := rfl
theorem RelS.at (r : RelS B m G H st) {n : Nat} {c : D} (h : repV B m G (.ref n) v) (e : st[n]? = some c) : ∃ a, v = .ref a ∧ m[n]? = some a ∧ CellOk B m G H a c := by
  rw [repV] at h
  obtain ⟨a, rfl, q⟩ := h
  exact ⟨a, rfl, q, r.cell n a c q e⟩
theorem get_of_getD {n : Nat} {c : D} (h : (st[n]?).getD .non = c) (hc : c ≠ .non) : st[n]? = some c := by
  cases q : st[n]? with
  | none => rw [q] at h; exact absurd h.symm hc
  | some x => rw [q] at h; exact congrArg some h
theorem list_at (r : RelS B m G H st) (h : repV B m G d v) (e : cellOf st d = .lst ds) : ∃ a vs, v = .ref a ∧ SqL B.K H a vs ∧ repL B m G ds vs := by
  cases d with
  | lst xs =>
    cases e
    rw [repV] at h
    obtain ⟨a, vs, rfl, s, q⟩ := h
    exact ⟨a, vs, rfl, sqL_sub r.sub s, q⟩
  | ref n =>
    obtain ⟨a, rfl, _, c⟩ := r.at h (get_of_getD e (by intro z; cases z))
    obtain ⟨xs, q1, q2⟩ := c
    exact ⟨a, xs, rfl, .of q1, q2⟩
  | _ => cases e
theorem TupAt.sub {K : PySem.W.Frag} {a : Addr} {xs : List V} (s : ∀ a o, G a = some o → H a = some o) (h : TupAt K G a xs) : TupAt K H a xs := by
  rcases h with ⟨o, h, c⟩ | h
  · exact .inl ⟨o, s _ _ h, c⟩
  · exact .inr h
theorem tup_at (r : RelS B m G H st) (h : repV B m G d v) (e : cellOf st d = .tup ds) : ∃ a vs, v = .ref a ∧ TupAt B.K H a vs ∧ repL B m G ds vs := by
  cases d with
  | tup xs =>
    cases e
    rw [repV] at h
    obtain ⟨a, vs, rfl, s, q⟩ := h
    exact ⟨a, vs, rfl, s.sub r.sub, q⟩
  | ref n =>
    obtain ⟨a, rfl, _, c⟩ := r.at h (get_of_getD e (by intro z; cases z))
    exact c.elim
  | _ => cases e
theorem listOf_eq (e : listOf st d = some ds) : cellOf st d = .lst ds := by
  unfold listOf at e
  split at e <;> first | (cases e; assumption) | cases e
theorem itemsOf_eq (e : itemsOf st d = some ds) : cellOf st d = .lst ds ∨ cellOf st d = .tup ds := by
  unfold itemsOf at e
  split at e <;> first | (cases e; first | exact .inl (by assumption) | exact .inr (by assumption)) | cases e
theorem items_at (r : RelS B m G H st) (h : repV B m G d v) (e : itemsOf st d = some ds) : ∃ a vs, v = .ref a ∧ (SqL B.K H a vs ∨ SqT B.K H a vs) ∧ repL B m G ds vs := by
  rcases itemsOf_eq e with e | e
  · obtain ⟨a, vs, h1, h2, h3⟩ := list_at r h e; exact ⟨a, vs, h1, .inl h2, h3⟩
  · obtain ⟨a, vs, h1, h2, h3⟩ := tup_at r h e; exact ⟨a, vs, h1, .inr h2.seq, h3⟩
theorem repV_int {i : Int} : repV B m G (.int i) v ↔ v = .int i := by rw [repV]
theorem repV_bl {i : Bool} : repV B m G (.bl i) v ↔ v = .bl i := by rw [repV]
theorem repV_str {i : Str} : repV B m G (.str i) v ↔ v = .str i := by rw [repV]
theorem repV_non : repV B m G .non v ↔ v = .non := by rw [repV]
end

/-- a value that is told of two things -/
def rB (B : Wo) (f : D → D → Store → Option D) : R2 := fun x y H Q => ∃ m G st d1 d2 z, RelS B m G H st ∧ repV B m G d1 x ∧ repV B m G d2 y ∧ f d1 d2 st = some z ∧
  ∀ v m' G' H', Ext m G H m' G' H' → RelS B m' G' H' st → repV B m' G' z v → Q v H'
def opOf : BOp → Operator
  | .add => .Add | .sub => .Sub | .mul => .Mult | .fdiv => .FloorDiv | .mod => .Mod | .pow => .Pow | .shl => .LShift | .shr => .RShift | .band => .BitAnd | .bor => .BitOr | .bxor => .BitXor
theorem szOk {n : Nat} (h : sz n = true) : n ≤ sizeLine := by
  have := of_decide_eq_true h
  rw [sizeLine_eq]; exact this
theorem szLine_eq : szLine = sizeLine := by rw [sizeLine_eq]; rfl

section
variable {X : Cx} {N : Nms} {m : List Addr} {G H : Hp} {st : Store}
theorem OpR.imp {f : Value → Value → Sem Value} {r r' : R2} (h : OpR X f r) (k : ∀ x y H Q, r' x y H Q → r x y H Q) : OpR X f r' := fun pins s σ H x y v u Q I rx ry q => h pins s σ H x y v u Q I rx ry (k x y H Q q)
theorem cat_lists {prog : Program} {w : World} {A : Around} {E : Value → Shared → Prop} {s : Shared} {l b : Addr} {vs ws : List Value} {Q : Value → Shared → Prop} (hl : s.heap.IsList l vs.toArray) (hb : s.heap.IsList b ws.toArray)
    (h : Q (.ref s.heap.objs.size) { s with heap := s.heap.push { cls := .type "list", data := .seq (vs ++ ws).toArray } }) (hsz : vs.length + ws.length ≤ sizeLine) :
    wpAny (model prog w) A (binaryOp .Add (.ref l) (.ref b)) Q E s := by
  obtain ⟨⟨cls, dd, data, sl⟩, ho, hc, n, hd⟩ := id hl
  obtain ⟨⟨cls2, dd2, data2, sl2⟩, ho2, hc2, n2, hd2⟩ := id hb
  simp only at hc hd hc2 hd2
  subst hc hd hc2 hd2
  have e : vs.toArray ++ ws.toArray = (vs ++ ws).toArray := by simp
  refine concat_meets ⟨_, ho, rfl⟩ ⟨_, ho2, rfl⟩ noFill_list_add seq_list_add PySem.F.slot_list_add PySem.F.entry_list_add (PySem.F.args_list_add_2 _ _) (list_addW l b vs.toArray ws.toArray n n2 dd dd2 sl sl2 (by simpa using hsz)) ⟨ho, ho2, ?_⟩
  rw [e]
  exact h
/-- list + list, any that may be read -/
theorem op_catL : OpR X (binaryOp .Add) (fun x y H Q => ∃ l b xs zs, x = .ref l ∧ y = .ref b ∧ SqL X.K H l xs ∧ SqL X.K H b zs ∧ xs.length + zs.length ≤ sizeLine ∧ ∀ p, H p = none → Q (.ref p) (upd H p (.lst (xs ++ zs)))) := by
  intro pins s σ H x y v u Q I rx ry h
  obtain ⟨l, b, xs, zs, rfl, rfl, hH, hB, hz, q⟩ := h
  cases rx
  cases ry
  obtain ⟨its, r, p1, z⟩ := I.list hH
  obtain ⟨its2, r2, p2, z2⟩ := I.list hB
  have hl := r.length
  have hl2 := r2.length
  exact cat_lists p1.isList p2.isList ⟨.ref _, _, I.lnew (t' := s.toks) (r.append r2) (by rw [List.length_append]; omega), rfl, q _ I.fresh⟩ (by omega)

theorem lim_ok {i : Int} (h : lim64 i = true) : -(2 ^ 64) < i ∧ i < 2 ^ 64 := of_decide_eq_true h
theorem bin_cases {op : BOp} {d1 d2 z : D} {st : Store} (e : bin op d1 d2 st = some z) : (∃ i j k, d1 = .int i ∧ d2 = .int j ∧ binI op i j = some k ∧ z = .int k) ∨ (op = .add ∧ catD d1 d2 st = some z) := by
  unfold bin at e
  split at e
  · rename_i i j
    cases h : binI op i j with
    | none => rw [h] at e; cases e
    | some k => rw [h] at e; cases e; exact .inl ⟨i, j, k, rfl, rfl, h, rfl⟩
  · split at e
    · exact .inr ⟨rfl, e⟩
    · cases e
theorem if_some {α : Type} {c : Prop} [Decidable c] {a b : α} (h : (if c then some a else none) = some b) : c ∧ b = a := by
  split at h <;> cases h
  exact ⟨by assumption, rfl⟩
/-- a new tuple, as it is known -/
def tO (us : List Value) : Obj := { cls := .type "tuple", data := .seq us.toArray }
theorem tnew {pins : List (Addr × Obj)} {σ : L2.St} {s : Shared} {xs : List V} {us : List Value} (I : Inv X pins σ H s) (r : Vals xs us) (hz : xs.length ≤ sizeLine) (t' : Nat) :
    Inv X pins σ (upd H s.heap.objs.size (.frz (tO us) (.tup xs))) { s with heap := s.heap.push (tO us), toks := t' } :=
  I.laid (fun _ _ q => Heap.get?_push_of_some _ q) (Nat.le_refl _) ⟨Heap.get?_push_size _ rfl, hz, us, r, IsTup.new ..⟩
theorem TupAt.new {K : PySem.W.Frag} {G : Hp} {p : Addr} {xs : List V} {us : List Value} : TupAt K (upd G p (.frz (tO us) (.tup xs))) p xs := .inl ⟨_, upd_same, rfl, rfl⟩
/-- a new tuple of these: what is wanted of it -/
def NewT (X : Cx) (xs : List V) (Q : VK) (H : Hp) : Prop := xs.length ≤ sizeLine ∧ ∀ p us, H p = none → Vals xs us → Q (.ref p) (upd H p (.frz (tO us) (.tup xs)))
theorem NewT.run {pins : List (Addr × Obj)} {σ : L2.St} {s : Shared} {xs : List V} {us : List Value} {Q : VK} (h : NewT X xs Q H) (I : Inv X pins σ H s) (r : Vals xs us) (t' : Nat := s.toks) :
    EP X pins σ Q (.ref s.heap.objs.size) { s with heap := s.heap.push (tO us), toks := t' } := ⟨.ref _, _, tnew I r h.1 t', rfl, h.2 _ _ I.fresh r⟩
/-- as it is wanted of a value -/
theorem NewT.of {B : Wo} (r : RelS B m G H st) {ds : List D} {vs : List V} (q : repL B m G ds vs) (hz : ds.length ≤ sizeLine) {Q : VK} (k : ∀ v m' G' H', Ext m G H m' G' H' → RelS B m' G' H' st → repV B m' G' (.tup ds) v → Q v H') : NewT X vs Q H :=
  ⟨by rw [q.length]; exact hz, fun p us hp _ => by
    have x := Ext.still (o := .frz (tO us) (.tup vs)) r hp
    exact k _ _ _ _ x (r.still hp) (by rw [repV]; exact ⟨p, vs, rfl, .new, repL.mono x.pre x.g _ _ q⟩)⟩
theorem op_catT2 : OpR X (binaryOp .Add) (fun x y H Q => ∃ a b xs ys, x = .ref a ∧ y = .ref b ∧ SqT X.K H a xs ∧ SqT X.K H b ys ∧ xs.length + ys.length ≤ sizeLine ∧ (xs = [] → Q (.ref b) H) ∧ (ys = [] → Q (.ref a) H) ∧ NewT X (xs ++ ys) Q H) := by
  intro pins s σ H x y v u Q I rx ry h
  obtain ⟨a, b, xs, ys, rfl, rfl, ha, hb, hz, q1, q2, q⟩ := h
  cases rx
  cases ry
  obtain ⟨its, r1, t1, _⟩ := I.tuple ha
  obtain ⟨its2, r2, t2, _⟩ := I.tuple hb
  have l1 := r1.length
  have l2 := r2.length
  by_cases hx : its = []
  · subst hx
    exact cat_tup0 t1 t2 ⟨.ref b, H, I, rfl, q1 (List.eq_nil_of_length_eq_zero l1)⟩
  · refine HT.cat_tup t1 t2 hx (fun hy => ?_) (fun _ => ?_) (by omega)
    · subst hy
      exact ⟨.ref a, H, I, rfl, q2 (List.eq_nil_of_length_eq_zero l2)⟩
    · exact q.run I (r1.append r2)
theorem op_cat_D : OpR X (binaryOp .Add) (rB (Bo X N) catD) := by
  refine OpR.imp ((op_catT2 (X := X)).or (op_catL (X := X))) fun x y H Q q => ?_
  obtain ⟨m, G, st, d1, d2, z, r, r1, r2, e, q⟩ := q
  unfold catD at e
  split at e
  · rename_i xs ys
    obtain ⟨hs, rfl⟩ := if_some e
    obtain ⟨a, vs, rfl, s1, q1⟩ := tup_at r r1 (ds := xs) rfl
    obtain ⟨b, ws, rfl, s2, q2⟩ := tup_at r r2 (ds := ys) rfl
    refine .inl ⟨a, b, vs, ws, rfl, rfl, s1.seq, s2.seq, by rw [q1.length, q2.length]; exact szOk hs, fun hx => ?_, fun hy => ?_, ?_⟩
    · subst hx
      have hn : xs = [] := List.eq_nil_of_length_eq_zero q1.length.symm
      subst hn
      exact q _ _ _ _ (.refl ..) r r2
    · subst hy
      have hn : ys = [] := List.eq_nil_of_length_eq_zero q2.length.symm
      subst hn
      rw [List.append_nil] at q
      exact q _ _ _ _ (.refl ..) r r1
    · exact .of r (q1.append q2) (by rw [List.length_append]; exact szOk hs) q
  · split at e
    · rename_i xs ys h1 h2
      obtain ⟨hs, rfl⟩ := if_some e
      obtain ⟨a, vs, rfl, s1, q1⟩ := list_at r r1 (listOf_eq h1)
      obtain ⟨b, ws, rfl, s2, q2⟩ := list_at r r2 (listOf_eq h2)
      refine .inr ⟨a, b, vs, ws, rfl, rfl, s1, s2, by rw [q1.length, q2.length]; exact szOk hs, fun p hp => ?_⟩
      have x := Ext.still (o := .lst (vs ++ ws)) r hp
      exact q _ _ _ _ x (r.still hp) (by rw [repV]; exact ⟨p, _, rfl, .of upd_same, repL.mono x.pre x.g _ _ (q1.append q2)⟩)
    · cases e
/-- by the ints' rule -/
theorem rB_int {op : BOp} {g : Int → Int → Int} {C : Int → Int → Prop} {f : Value → Value → Sem Value} (h : OpR X f (rI C fun i j => .int (g i j))) (hop : op ≠ .add)
    (k : ∀ i j l, binI op i j = some l → C i j ∧ l = g i j) : OpR X f (rB (Bo X N) (bin op)) := by
  refine OpR.imp h fun x y H Q q => ?_
  obtain ⟨m, G, st, d1, d2, z, r, r1, r2, e, q⟩ := q
  rcases bin_cases e with ⟨i, j, l, rfl, rfl, e1, rfl⟩ | ⟨z, _⟩
  · obtain ⟨c, rfl⟩ := k i j l e1
    exact ⟨i, j, repV_int.mp r1, repV_int.mp r2, c, q _ _ _ _ (.refl ..) r (repV_int.mpr rfl)⟩
  · exact absurd z hop
theorem rB_int0 {op : BOp} {g : Int → Int → Int} {f : Value → Value → Sem Value} (h : OpR X f (rI0 fun i j => .int (g i j))) (hop : op ≠ .add)
    (k : ∀ i j l, binI op i j = some l → l = g i j) : OpR X f (rB (Bo X N) (bin op)) := by
  refine OpR.imp h fun x y H Q q => ?_
  obtain ⟨m, G, st, d1, d2, z, r, r1, r2, e, q⟩ := q
  rcases bin_cases e with ⟨i, j, l, rfl, rfl, e1, rfl⟩ | ⟨z, _⟩
  · obtain rfl := k i j l e1
    exact ⟨i, j, repV_int.mp r1, repV_int.mp r2, q _ _ _ _ (.refl ..) r (repV_int.mpr rfl)⟩
  · exact absurd z hop
theorem op_bin (op : BOp) : OpR X (binaryOp (opOf op)) (rB (Bo X N) (bin op)) := by
  cases op with
  | add =>
    refine OpR.imp ((op_add (X := X)).or (op_cat_D (X := X) (N := N))) fun x y H Q q => ?_
    obtain ⟨m, G, st, d1, d2, z, r, r1, r2, e, q⟩ := q
    rcases bin_cases e with ⟨i, j, l, rfl, rfl, e1, rfl⟩ | ⟨_, e⟩
    · cases e1
      exact .inl ⟨i, j, repV_int.mp r1, repV_int.mp r2, q _ _ _ _ (.refl ..) r (repV_int.mpr rfl)⟩
    · exact .inr ⟨m, G, st, d1, d2, z, r, r1, r2, e, q⟩
  | sub => exact rB_int0 op_sub (by decide) fun i j l e => by cases e; rfl
  | mul => exact rB_int op_mul (by decide) fun i j l e => by
              obtain ⟨h, rfl⟩ := if_some e
              refine ⟨?_, rfl⟩
              rcases Bool.or_eq_true_iff.mp h with h | h
              · exact .inl (lim_ok h)
              · exact .inr (lim_ok h)
  | fdiv => exact rB_int op_fdivN (by decide) fun i j l e => by have h := if_some e; exact h
  | mod => exact rB_int op_modN (by decide) fun i j l e => by have h := if_some e; exact h
  | pow => exact rB_int op_pow (by decide) fun i j l e => by have h := if_some e; exact h
  | shl => exact rB_int op_shl (by decide) fun i j l e => by have h := if_some e; exact h
  | shr => exact rB_int op_shr (by decide) fun i j l e => by have h := if_some e; exact h
  | band => exact rB_int0 op_and (by decide) fun i j l e => by cases e; rfl
  | bor => exact rB_int0 op_or (by decide) fun i j l e => by cases e; rfl
  | bxor => exact rB_int0 op_xor (by decide) fun i j l e => by cases e; rfl
end
end Dn
end
section
set_option Elab.async false
set_option linter.all false
set_option maxRecDepth 100000
set_option maxHeartbeats 4000000
/-! Dn4: comparisons of data. Own work. -/
namespace Dn
open PySem PySem.Spec PyProof.Rows L2

mutual
theorem toPy_lay : ∀ (n : Nat) (d : D), d.dat n = true → (toPy d).canLay0 = true ∧ (toPy d).depth ≤ n
  | n, .non, _ => by simp [toPy, PyData.canLay0, PyData.depth]
  | n, .bl _, _ => by simp [toPy, PyData.canLay0, PyData.depth]
  | n, .int _, _ => by simp [toPy, PyData.canLay0, PyData.depth]
  | n, .str x, h => by
    have h' : x.cps.all (· < 0x110000) = true := by cases n <;> exact h
    refine ⟨?_, by simp [toPy, PyData.depth]⟩
    unfold toPy PyData.canLay0
    exact h'
  | 0, .tup _, h => by simp [D.dat] at h
  | 0, .lst _, h => by simp [D.dat] at h
  | n + 1, .tup xs, h => by
    have q := toPyL_lay n xs (by simpa [D.dat] using h)
    simp only [toPy, PyData.canLay0, PyData.depth]
    exact ⟨q.1, Nat.succ_le_succ q.2⟩
  | n + 1, .lst xs, h => by
    have q := toPyL_lay n xs (by simpa [D.dat] using h)
    simp only [toPy, PyData.canLay0, PyData.depth]
    exact ⟨q.1, Nat.succ_le_succ q.2⟩
  | n, .dic _ _, h => by cases n <;> simp [D.dat] at h
  | n, .obj _ _ _, h => by cases n <;> simp [D.dat] at h
  | n, .ref _, h => by cases n <;> simp [D.dat] at h
  | n, .fn _, h => by cases n <;> simp [D.dat] at h
  | n, .rng _ _, h => by cases n <;> simp [D.dat] at h
  | n, .kdic _ _, h => by cases n <;> simp [D.dat] at h
  | n, .exn _ _ _, h => by cases n <;> simp [D.dat] at h
theorem toPyL_lay : ∀ (n : Nat) (ds : List D), D.datL n ds = true → PyData.canLayAll0 (toPyL ds) = true ∧ PyData.depthAll (toPyL ds) ≤ n
  | n, [], _ => by simp [toPyL, PyData.canLayAll0, PyData.depthAll]
  | n, d :: ds, h => by
    rw [D.datL, Bool.and_eq_true] at h
    have a := toPy_lay n d h.1
    have b := toPyL_lay n ds h.2
    simp only [toPyL, PyData.canLayAll0, PyData.depthAll, Bool.and_eq_true]
    exact ⟨⟨a.1, b.1⟩, Nat.max_le.mpr ⟨a.2, b.2⟩⟩
end
mutual
theorem toPy_eqv : ∀ (n : Nat) (d e : D), d.dat n = true → e.dat n = true → PyData.eqv (toPy d) (toPy e) = d.eqv e
  | 0, d, e, h, k => by cases d <;> first | (simp [D.dat] at h; done) | (cases e <;> first | (simp [D.dat] at k; done) | simp [toPy, PyData.eqv, D.eqv])
  | n + 1, .tup xs, .tup ys, h, k => by
    simp only [toPy, PyData.eqv, D.eqv]
    exact toPyL_eqv n xs ys (by simpa [D.dat] using h) (by simpa [D.dat] using k)
  | n + 1, .tup _, .lst _, h, k => by simp [toPy, PyData.eqv, D.eqv]
  | n + 1, .tup _, .non, h, k => by simp [toPy, PyData.eqv, D.eqv]
  | n + 1, .tup _, .bl _, h, k => by simp [toPy, PyData.eqv, D.eqv]
  | n + 1, .tup _, .int _, h, k => by simp [toPy, PyData.eqv, D.eqv]
  | n + 1, .tup _, .str _, h, k => by simp [toPy, PyData.eqv, D.eqv]
  | n + 1, .tup _, .dic _ _, h, k => by simp [D.dat] at k
  | n + 1, .tup _, .obj _ _ _, h, k => by simp [D.dat] at k
  | n + 1, .tup _, .ref _, h, k => by simp [D.dat] at k
  | n + 1, .tup _, .fn _, h, k => by simp [D.dat] at k
  | n + 1, .tup _, .rng _ _, h, k => by simp [D.dat] at k
  | n + 1, .tup _, .kdic _ _, h, k => by simp [D.dat] at k
  | n + 1, .lst _, .tup _, h, k => by simp [toPy, PyData.eqv, D.eqv]
  | n + 1, .lst xs, .lst ys, h, k => by
    simp only [toPy, PyData.eqv, D.eqv]
    exact toPyL_eqv n xs ys (by simpa [D.dat] using h) (by simpa [D.dat] using k)
  | n + 1, .lst _, .non, h, k => by simp [toPy, PyData.eqv, D.eqv]
  | n + 1, .lst _, .bl _, h, k => by simp [toPy, PyData.eqv, D.eqv]
  | n + 1, .lst _, .int _, h, k => by simp [toPy, PyData.eqv, D.eqv]
  | n + 1, .lst _, .str _, h, k => by simp [toPy, PyData.eqv, D.eqv]
  | n + 1, .lst _, .dic _ _, h, k => by simp [D.dat] at k
  | n + 1, .lst _, .obj _ _ _, h, k => by simp [D.dat] at k
  | n + 1, .lst _, .ref _, h, k => by simp [D.dat] at k
  | n + 1, .lst _, .fn _, h, k => by simp [D.dat] at k
  | n + 1, .lst _, .rng _ _, h, k => by simp [D.dat] at k
  | n + 1, .lst _, .kdic _ _, h, k => by simp [D.dat] at k
  | n + 1, .non, e, h, k => by cases e <;> first | (simp [D.dat] at k; done) | simp [toPy, PyData.eqv, D.eqv]
  | n + 1, .bl _, e, h, k => by cases e <;> first | (simp [D.dat] at k; done) | simp [toPy, PyData.eqv, D.eqv]
  | n + 1, .int _, e, h, k => by cases e <;> first | (simp [D.dat] at k; done) | simp [toPy, PyData.eqv, D.eqv]
  | n + 1, .str _, e, h, k => by cases e <;> first | (simp [D.dat] at k; done) | simp [toPy, PyData.eqv, D.eqv]
  | n + 1, .dic _ _, _, h, k => by simp [D.dat] at h
  | n + 1, .obj _ _ _, _, h, k => by simp [D.dat] at h
  | n + 1, .ref _, _, h, k => by simp [D.dat] at h
  | n + 1, .fn _, _, h, k => by simp [D.dat] at h
  | n + 1, .rng _ _, _, h, k => by simp [D.dat] at h
  | n + 1, .kdic _ _, _, h, k => by simp [D.dat] at h
theorem toPyL_eqv : ∀ (n : Nat) (ds es : List D), D.datL n ds = true → D.datL n es = true → PyData.eqvAll (toPyL ds) (toPyL es) = D.eqvL ds es
  | n, [], [], _, _ => by simp [toPyL, PyData.eqvAll, D.eqvL]
  | n, [], _ :: _, _, _ => by simp [toPyL, PyData.eqvAll, D.eqvL]
  | n, _ :: _, [], _, _ => by simp [toPyL, PyData.eqvAll, D.eqvL]
  | n, d :: ds, e :: es, h, k => by
    rw [D.datL, Bool.and_eq_true] at h k
    simp only [toPyL, PyData.eqvAll, D.eqvL]
    rw [toPy_eqv n d e h.1 k.1, toPyL_eqv n ds es h.2 k.2]
end
section
variable {B : Wo} {m : List Addr} {G H : Hp}
mutual
theorem dp_of (s : ∀ a o, G a = some o → H a = some o) : ∀ (n : Nat) (d : D) (v : V), d.dat n = true → repV B m G d v → Dp B.K H v (toPy d)
  | n, .non, v, _, r => by rw [repV] at r; subst r; rw [toPy]; exact .non
  | n, .bl b, v, _, r => by rw [repV] at r; subst r; rw [toPy]; exact .bl b
  | n, .int b, v, _, r => by rw [repV] at r; subst r; rw [toPy]; exact .int b
  | n, .str b, v, _, r => by rw [repV] at r; subst r; rw [toPy]; exact .str b
  | 0, .tup _, v, h, r => by simp [D.dat] at h
  | 0, .lst _, v, h, r => by simp [D.dat] at h
  | n + 1, .tup xs, v, h, r => by
    rw [repV] at r
    obtain ⟨a, vs, rfl, q, r⟩ := r
    rw [toPy]
    exact .tup (sqT_sub s q.seq) (dpL_of s n xs vs (by simpa [D.dat] using h) r)
  | n + 1, .lst xs, v, h, r => by
    rw [repV] at r
    obtain ⟨a, vs, rfl, q, r⟩ := r
    rw [toPy]
    exact .lst (sqL_sub s q) (dpL_of s n xs vs (by simpa [D.dat] using h) r)
  | n, .dic _ _, v, h, r => by cases n <;> simp [D.dat] at h
  | n, .obj _ _ _, v, h, r => by cases n <;> simp [D.dat] at h
  | n, .ref _, v, h, r => by cases n <;> simp [D.dat] at h
  | n, .fn _, v, h, r => by cases n <;> simp [D.dat] at h
  | n, .rng _ _, v, h, r => by cases n <;> simp [D.dat] at h
  | n, .kdic _ _, v, h, r => by cases n <;> simp [D.dat] at h
  | n, .exn _ _ _, v, h, r => by cases n <;> simp [D.dat] at h
theorem dpL_of (s : ∀ a o, G a = some o → H a = some o) : ∀ (n : Nat) (ds : List D) (vs : List V), D.datL n ds = true → repL B m G ds vs → DpAll B.K H vs (toPyL ds)
  | n, [], vs, _, r => by rw [repL] at r; subst r; rw [toPyL]; exact .nil
  | n, d :: ds, vs, h, r => by
    rw [repL] at r
    obtain ⟨v, ws, rfl, r1, r2⟩ := r
    rw [D.datL, Bool.and_eq_true] at h
    rw [toPyL]
    exact .cons (dp_of s n d v h.1 r1) (dpL_of s n ds ws h.2 r2)
end
end
theorem shaped_of {n : Nat} {d : D} (h : d.dat n = true) (hn : n ≤ 64) : SeqAt.shaped (toPy d) = true := by
  have q := toPy_lay n d h
  unfold SeqAt.shaped
  rw [Bool.and_eq_true]
  exact ⟨q.1, decide_eq_true (Nat.le_trans q.2 hn)⟩
theorem datS : ∀ {n : Nat} {d : D}, d.dat n = true → d.dat (n + 1) = true := by
  intro n
  induction n with
  | zero =>
    intro d h
    cases d <;> first | (simp [D.dat] at h; done) | simp_all [D.dat]
  | succ n ih =>
    intro d h
    have go : ∀ xs : List D, D.datL n xs = true → D.datL (n + 1) xs = true := by
      intro xs
      induction xs with
      | nil => intro _; rfl
      | cons x xs ihx =>
        intro h
        rw [D.datL, Bool.and_eq_true] at h ⊢
        exact ⟨ih h.1, ihx h.2⟩
    cases d with
    | tup xs => rw [D.dat] at h ⊢; exact go xs h
    | lst xs => rw [D.dat] at h ⊢; exact go xs h
    | _ => first | (simp [D.dat] at h; done) | simp_all [D.dat]
/-- a truth value that is told of two things -/
def rBB (B : Wo) (f : D → D → Store → Option Bool) : R2 := fun x y H Q => ∃ m G st d1 d2 b, RelS B m G H st ∧ repV B m G d1 x ∧ repV B m G d2 y ∧ f d1 d2 st = some b ∧ Q (.bl b) H
section
variable {X : Cx} {N : Nms}
theorem eqD_some {st : Store} {a b : D} {k : Bool} (h : eqD st a b = some k) : a.dat datN = true ∧ b.dat datN = true ∧ k = a.eqv b := by
  unfold eqD at h
  split at h <;> cases h
  rename_i q
  rw [Bool.and_eq_true] at q
  exact ⟨q.1, q.2, rfl⟩
theorem op_eqD' (hu : X.A.units + 65 < cLine) : OpR X (compareOp .Eq) (rBB (Bo X N) fun a b st => eqD st a b) := by
  refine OpR.imp (op_eqD (X := X) (by omega)) fun x y H Q q => ?_
  obtain ⟨m, G, st, d1, d2, b, r, r1, r2, e, q⟩ := q
  obtain ⟨h1, h2, rfl⟩ := eqD_some e
  exact ⟨_, _, dp_of r.sub _ _ _ h1 r1, dp_of r.sub _ _ _ h2 r2, shaped_of h1 (by decide), shaped_of h2 (by decide), by rw [toPy_eqv _ _ _ h1 h2]; exact q⟩
theorem op_neD' (hu : X.A.units + 65 < cLine) : OpR X (compareOp .NotEq) (rBB (Bo X N) fun a b st => (eqD st a b).map not) := by
  refine OpR.imp (op_neD (X := X) (by omega)) fun x y H Q q => ?_
  obtain ⟨m, G, st, d1, d2, b, r, r1, r2, e, q⟩ := q
  obtain ⟨k, e', rfl⟩ := Option.map_eq_some_iff.mp e
  obtain ⟨h1, h2, rfl⟩ := eqD_some e'
  exact ⟨_, _, dp_of r.sub _ _ _ h1 r1, dp_of r.sub _ _ _ h2 r2, shaped_of h1 (by decide), shaped_of h2 (by decide), by rw [toPy_eqv _ _ _ h1 h2]; exact q⟩
theorem op_inTup (hu : X.A.units + 65 < cLine) (neg : Bool) : OpR X (compareOp (if neg then .NotIn else .In)) (fun x y H Q => ∃ d ds, Dp X.K H x d ∧ Dp X.K H y (.tuple ds) ∧ SeqAt.shaped d = true ∧ SeqAt.shaped (.tuple ds) = true ∧ Q (.bl (if neg then !ds.any fun z => PyData.eqv z d else ds.any fun z => PyData.eqv z d)) H) := by
  intro pins s σ H x y v u Q I rx ry h
  obtain ⟨d, ds, hd, he, sd, se, q⟩ := h
  obtain ⟨as, r1⟩ := Dp.reads I d x v hd rx
  obtain ⟨bs, r2⟩ := Dp.reads I (.tuple ds) y u he ry
  cases neg
  · exact SeqAt.in_tuple_reads r2 r1 (SeqAt.canLay_of_shaped se) (SeqAt.canLay_of_shaped sd) (room_in_shaped sd hu) ⟨.bl _, H, I, rfl, q⟩
  · exact SeqAt.notIn_tuple_reads r2 r1 (SeqAt.canLay_of_shaped se) (SeqAt.canLay_of_shaped sd) (room_in_shaped sd hu) ⟨.bl _, H, I, rfl, q⟩
end
end Dn
end
section
set_option Elab.async false
set_option linter.all false
set_option maxRecDepth 100000
set_option maxHeartbeats 4000000
/-! Dn5: the order of data. Own work. -/
namespace Dn
open PySem PySem.Spec PyProof.Rows L2

theorem ord_dat : ∀ (n : Nat) (d : D), d.ord n = true → d.dat n = true := by
  intro n
  induction n with
  | zero => intro d h; cases d <;> first | (simp [D.ord] at h; done) | simp [D.dat]
  | succ n ih =>
    intro d h
    cases d with
    | int i => simp [D.dat]
    | tup xs =>
      rw [D.ord, List.all_eq_true] at h
      rw [D.dat]
      have go : ∀ ys : List D, (∀ y ∈ ys, y.ord n = true) → D.datL n ys = true := by
        intro ys
        induction ys with
        | nil => intro _; rfl
        | cons y ys ihy =>
          intro q
          rw [D.datL, Bool.and_eq_true]
          exact ⟨ih y (q y List.mem_cons_self), ihy fun z hz => q z (List.mem_cons_of_mem _ hz)⟩
      exact go xs h
    | _ => simp [D.ord] at h
theorem ord_mono : ∀ {n k : Nat} {d : D}, d.ord n = true → n ≤ k → d.ord k = true := by
  intro n
  induction n with
  | zero =>
    intro k d h _
    cases d <;> first | (simp [D.ord] at h; done) | (cases k <;> simp [D.ord])
  | succ n ih =>
    intro k d h hk
    cases k with
    | zero => omega
    | succ k =>
      cases d with
      | int i => simp [D.ord]
      | tup xs =>
        rw [D.ord, List.all_eq_true] at h ⊢
        exact fun x hx => ih (h x hx) (by omega)
      | _ => simp [D.ord] at h
/-- among ints and tuples of such == is being the same -/
theorem ord_eqv : ∀ (n : Nat) (d e : D), d.ord n = true → e.ord n = true → d.eqv e = decide (d = e) := by
  intro n
  induction n with
  | zero =>
    intro d e h k
    cases d <;> first | (simp [D.ord] at h; done) | skip
    cases e <;> first | (simp [D.ord] at k; done) | skip
    rename_i i j
    simp [D.eqv, Bool.beq_eq_decide_eq]
  | succ n ih =>
    intro d e h k
    have go : ∀ xs ys : List D, xs.all (D.ord n) = true → ys.all (D.ord n) = true → D.eqvL xs ys = decide (xs = ys) := by
      intro xs
      induction xs with
      | nil => intro ys _ _; cases ys <;> simp [D.eqvL]
      | cons x xs ihx =>
        intro ys h k
        cases ys with
        | nil => simp [D.eqvL]
        | cons y ys =>
          rw [List.all_cons, Bool.and_eq_true] at h k
          simp [D.eqvL, ih x y h.1 k.1, ihx ys h.2 k.2]
    cases d <;> first | (simp [D.ord] at h; done) | skip
    · cases e <;> first | (simp [D.ord] at k; done) | skip
      · simp [D.eqv, Bool.beq_eq_decide_eq]
      · simp [D.eqv]
    · cases e <;> first | (simp [D.ord] at k; done) | skip
      · simp [D.eqv]
      · rw [D.ord] at h k
        simp [D.eqv, go _ _ h k]
theorem Reads.eqAt {A : Around} {s : Shared} {u v : Value} {da db : PyData} {as bs : List Addr} (ra : Reads s.heap u da as) (rb : Reads s.heap v db bs) (ha : da.canLay0 = true) (hb : db.canLay0 = true) (hu : A.units + da.depth < cLine) :
    SeqAt.EqAt A s u v (PyData.eqv da db) := fun prog w E Q q => SeqAt.eqBoolOverData prog w A E s u v da db as bs Q ra rb ha hb (Nat.lt_of_le_of_lt (Nat.add_le_add_left (Nat.min_le_left _ _) _) hu) q

/-- how the four are told by < -/
def cmpV : CmpOp → D → D → Option Bool
  | .Lt, a, b => a.lt b
  | .Gt, a, b => b.lt a
  | .LtE, a, b => (b.lt a).map not
  | .GtE, a, b => (a.lt b).map not
  | _, _, _ => none
def cmpZ : CmpOp → Nat → Nat → Bool
  | .Lt, i, j => decide (i < j)
  | .Gt, i, j => decide (j < i)
  | .LtE, i, j => decide (i ≤ j)
  | .GtE, i, j => decide (j ≤ i)
  | _, _, _ => false
def cmpL : CmpOp → List D → List D → Option Bool
  | .Lt, a, b => D.ltL a b
  | .Gt, a, b => D.ltL b a
  | .LtE, a, b => (D.ltL b a).map not
  | .GtE, a, b => (D.ltL a b).map not
  | _, _, _ => none
theorem cmpL_cons {op : CmpOp} {x y : D} {xs ys : List D} {k : Bool} (h : cmpL op (x :: xs) (y :: ys) = some k) : ∃ b c, cmpV op x y = some b ∧ cmpL op xs ys = some c ∧ k = if x = y then c else b := by
  cases op <;> simp only [cmpL] at h <;> try (cases h; done)
  · rw [D.ltL] at h
    split at h <;> cases h
    rename_i b c h1 h2
    exact ⟨b, c, h1, h2, rfl⟩
  · rw [D.ltL] at h
    obtain ⟨k', h, hk⟩ := Option.map_eq_some_iff.mp h
    split at h <;> cases h
    rename_i b c h1 h2
    subst hk
    refine ⟨!b, !c, by simp [cmpV, h1], by simp [cmpL, h2], ?_⟩
    by_cases e : x = y
    · rw [if_pos e, if_pos e.symm]
    · rw [if_neg e, if_neg (fun q => e q.symm)]
  · rw [D.ltL] at h
    split at h <;> cases h
    rename_i b c h1 h2
    refine ⟨b, c, h1, h2, ?_⟩
    by_cases e : x = y
    · rw [if_pos e, if_pos e.symm]
    · rw [if_neg e, if_neg (fun q => e q.symm)]
  · rw [D.ltL] at h
    obtain ⟨k', h, hk⟩ := Option.map_eq_some_iff.mp h
    split at h <;> cases h
    rename_i b c h1 h2
    subst hk
    refine ⟨!b, !c, by simp [cmpV, h1], by simp [cmpL, h2], ?_⟩
    by_cases e : x = y
    · rw [if_pos e, if_pos e]
    · rw [if_neg e, if_neg e]
theorem lexAt_shift {e r : Nat → Bool} {z : Bool} (i k : Nat) : Ob.lexAt e r z (i + 1) k = Ob.lexAt (fun j => e (j + 1)) (fun j => r (j + 1)) z i k := by
  induction k generalizing i with
  | zero => rfl
  | succ k ih => rw [Ob.lexAt_succ, Ob.lexAt_succ, ih]
theorem lexAt_cmpL {op : CmpOp} : ∀ {xs ys : List D} {k : Bool}, cmpL op xs ys = some k →
    Ob.lexAt (fun j => decide (xs[j]? = ys[j]?)) (fun j => (cmpV op (xs.getD j .non) (ys.getD j .non)).getD false) (cmpZ op xs.length ys.length) 0 (min xs.length ys.length) = k
  | [], [], k, h => by cases op <;> first | (cases h; rfl) | cases h
  | [], y :: ys, k, h => by cases op <;> first | (cases h; simp [Ob.lexAt_zero, cmpZ]) | cases h
  | x :: xs, [], k, h => by cases op <;> first | (cases h; simp [Ob.lexAt_zero, cmpZ]) | cases h
  | x :: xs, y :: ys, k, h => by
    obtain ⟨b, c, h1, h2, rfl⟩ := cmpL_cons h
    have ih := lexAt_cmpL h2
    have e1 : min (x :: xs).length (y :: ys).length = min xs.length ys.length + 1 := by simp [Nat.succ_min_succ]
    have e2 : cmpZ op (x :: xs).length (y :: ys).length = cmpZ op xs.length ys.length := by cases op <;> simp [cmpZ]
    rw [e1, Ob.lexAt_succ, lexAt_shift, e2]
    by_cases e : x = y
    · rw [if_pos e, if_pos (by simp [e])]
      rw [← ih]
      rfl
    · rw [if_neg e, if_neg (by simp [e])]
      simp [h1]
theorem cmpL_at {op : CmpOp} : ∀ {xs ys : List D} {k : Bool}, cmpL op xs ys = some k → ∀ (j : Nat) (x y : D), xs[j]? = some x → ys[j]? = some y → ∃ b, cmpV op x y = some b
  | [], ys, k, h, j, x, y, e1, e2 => by simp at e1
  | x :: xs, [], k, h, j, _, y, e1, e2 => by simp at e2
  | x :: xs, y :: ys, k, h, 0, x', y', e1, e2 => by
    simp at e1 e2
    subst e1 e2
    obtain ⟨b, c, h1, h2, rfl⟩ := cmpL_cons h
    exact ⟨b, h1⟩
  | x :: xs, y :: ys, k, h, j + 1, x', y', e1, e2 => by
    obtain ⟨b, c, h1, h2, rfl⟩ := cmpL_cons h
    exact cmpL_at h2 j x' y' (by simpa using e1) (by simpa using e2)
def isOrd : CmpOp → Bool
  | .Lt => true | .Gt => true | .LtE => true | .GtE => true | _ => false
theorem cmpV_tup {op : CmpOp} {xs ys : List D} : cmpV op (.tup xs) (.tup ys) = cmpL op xs ys := by
  cases op <;> simp [cmpV, cmpL, D.lt]

section
variable {X : Cx} {N : Nms} {pins : List (Addr × Obj)} {σ : L2.St} {s : Shared} {m : List Addr} {G H : Hp} {st : Store}
theorem rc_of (I : Inv X pins σ H s) (r : RelS (Bo X N) m G H st) {op : CmpOp} (ho : isOrd op = true) : ∀ (n : Nat) (A : Around) (a b : D) (v w : V) (u z : Value) (k : Bool), A.units + 2 * n < cLine → a.ord n = true → b.ord n = true → cmpV op a b = some k →
    repV (Bo X N) m G a v → repV (Bo X N) m G b w → RelV v u → RelV w z → Ob.RcOp op A s u z k := by
  intro n
  induction n with
  | zero =>
    intro A a b v w u z k _ ha hb h r1 r2 q1 q2
    cases a <;> first | (simp [D.ord] at ha; done) | skip
    cases b <;> first | (simp [D.ord] at hb; done) | skip
    rw [repV] at r1 r2
    subst r1 r2
    obtain ⟨t1, rfl⟩ := q1
    obtain ⟨t2, rfl⟩ := q2
    cases op <;> simp only [cmpV, D.lt, Option.map_some] at h <;> cases h
    · exact Ob.RcOp.lt_int _ _ _ _
    · rename_i i j
      have : (!decide (j < i)) = decide (i ≤ j) := by by_cases q : j < i <;> simp [q] <;> omega
      rw [this]; exact Ob.RcOp.le_int _ _ _ _
    · exact Ob.RcOp.gt_int _ _ _ _
    · rename_i i j
      have : (!decide (i < j)) = decide (j ≤ i) := by by_cases q : i < j <;> simp [q] <;> omega
      rw [this]; exact Ob.RcOp.ge_int _ _ _ _
  | succ n ih =>
    intro A a b v w u z k hu ha hb h r1 r2 q1 q2
    by_cases hi : ∃ i j, a = .int i ∧ b = .int j
    · obtain ⟨i, j, rfl, rfl⟩ := hi
      exact ih A _ _ v w u z k (by omega) (by cases n <;> simp [D.ord]) (by cases n <;> simp [D.ord]) h r1 r2 q1 q2
    by_cases ht : ∃ xs ys, a = .tup xs ∧ b = .tup ys
    · obtain ⟨xs, ys, rfl, rfl⟩ := ht
      rw [cmpV_tup] at h
      rw [D.ord, List.all_eq_true] at ha hb
      rw [repV] at r1 r2
      obtain ⟨p, vs, rfl, s1, l1⟩ := r1
      obtain ⟨q, ws, rfl, s2, l2⟩ := r2
      cases q1
      cases q2
      obtain ⟨its, rv, t1, _⟩ := I.tuple (s1.sub r.sub).seq
      obtain ⟨its2, rw', t2, _⟩ := I.tuple (s2.sub r.sub).seq
      have hl1 := rv.length.symm.trans l1.length
      have hl2 := rw'.length.symm.trans l2.length
      have item1 : ∀ j (h1 : j < its.toArray.size), ∃ d v, xs[j]? = some d ∧ repV (Bo X N) m G d v ∧ RelV v its.toArray[j] ∧ d ∈ xs := fun j h1 => by
        have h1' : j < its.length := by simpa using h1
        have hx : j < xs.length := by omega
        obtain ⟨v, e1, r1⟩ := l1.get (List.getElem?_eq_getElem hx)
        obtain ⟨u, e2, r2⟩ := rv.get e1
        refine ⟨xs[j], v, List.getElem?_eq_getElem hx, r1, ?_, List.getElem_mem hx⟩
        rw [List.getElem?_eq_getElem h1'] at e2
        cases e2
        simpa using r2
      have item2 : ∀ j (h1 : j < its2.toArray.size), ∃ d v, ys[j]? = some d ∧ repV (Bo X N) m G d v ∧ RelV v its2.toArray[j] ∧ d ∈ ys := fun j h1 => by
        have h1' : j < its2.length := by simpa using h1
        have hx : j < ys.length := by omega
        obtain ⟨v, e1, r1⟩ := l2.get (List.getElem?_eq_getElem hx)
        obtain ⟨u, e2, r2⟩ := rw'.get e1
        refine ⟨ys[j], v, List.getElem?_eq_getElem hx, r1, ?_, List.getElem_mem hx⟩
        rw [List.getElem?_eq_getElem h1'] at e2
        cases e2
        simpa using r2
      have he : ∀ j (h1 : j < its.toArray.size) (h2 : j < its2.toArray.size), SeqAt.EqAt A.in1 s its.toArray[j] its2.toArray[j] (decide (xs[j]? = ys[j]?)) := fun j h1 h2 => by
        obtain ⟨d, v, e1, r1, q1, m1⟩ := item1 j h1
        obtain ⟨e, w, e2, r2, q2, m2⟩ := item2 j h2
        have d1 := ord_dat n d (ha d m1)
        have d2 := ord_dat n e (hb e m2)
        obtain ⟨as, rd1⟩ := Dp.reads I _ _ _ (dp_of r.sub n d v d1 r1) q1
        obtain ⟨bs, rd2⟩ := Dp.reads I _ _ _ (dp_of r.sub n e w d2 r2) q2
        have L1 := toPy_lay n d d1
        have L2 := toPy_lay n e d2
        have z := Reads.eqAt (A := A.in1) rd1 rd2 L1.1 L2.1 (by show A.units + 1 + _ < _; have := L1.2; omega)
        rw [toPy_eqv n d e d1 d2, ord_eqv n d e (ha d m1) (hb e m2)] at z
        rw [e1, e2]
        simpa using z
      have hr : ∀ j (h1 : j < its.toArray.size) (h2 : j < its2.toArray.size), decide (xs[j]? = ys[j]?) = false → Ob.RcOp op A.in1 s its.toArray[j] its2.toArray[j] ((cmpV op (xs.getD j .non) (ys.getD j .non)).getD false) := fun j h1 h2 _ => by
        obtain ⟨d, v, e1, r1, q1, m1⟩ := item1 j h1
        obtain ⟨e, w, e2, r2, q2, m2⟩ := item2 j h2
        obtain ⟨b, hb'⟩ := cmpL_at h j d e e1 e2
        have g1 : xs.getD j .non = d := by rw [List.getD_eq_getElem?_getD, e1]; rfl
        have g2 : ys.getD j .non = e := by rw [List.getD_eq_getElem?_getD, e2]; rfl
        rw [g1, g2, hb']
        exact ih A.in1 d e v w _ _ b (by show A.units + 1 + 2 * n < _; omega) (ha d m1) (hb e m2) hb' r1 r2 q1 q2
      have key := lexAt_cmpL h
      have hs1 : its.toArray.size = xs.length := by simp [hl1]
      have hs2 : its2.toArray.size = ys.length := by simp [hl2]
      have hu0 : A.units < cLine := by omega
      cases op <;> first | (cases ho; done) | skip
      · have z := Ob.RcOp.tuples_lt t1 t2 hu0 he hr
        rw [hs1, hs2] at z
        exact key ▸ z
      · have z := Ob.RcOp.tuples_le t1 t2 hu0 he hr
        rw [hs1, hs2] at z
        exact key ▸ z
      · have z := Ob.RcOp.tuples_gt t1 t2 hu0 he hr
        rw [hs1, hs2] at z
        exact key ▸ z
      · have z := Ob.RcOp.tuples_ge t1 t2 hu0 he hr
        rw [hs1, hs2] at z
        exact key ▸ z
    · exfalso
      cases a <;> first | (simp [D.ord] at ha; done) | skip
      · cases b <;> first | (simp [D.ord] at hb; done) | skip
        · exact hi ⟨_, _, rfl, rfl⟩
        · cases op <;> simp [cmpV, D.lt] at h
      · cases b <;> first | (simp [D.ord] at hb; done) | skip
        · cases op <;> simp [cmpV, D.lt] at h
        · exact ht ⟨_, _, rfl, rfl⟩
end
end Dn
end
section
set_option Elab.async false
set_option linter.all false
set_option maxRecDepth 100000
set_option maxHeartbeats 4000000
/-! Dn6: dicts. Own work. -/
namespace Dn
open PySem PySem.Spec PyProof.Rows L2

/-! ### keys -/
theorem nkeys_length : ∀ ds : List D, (nkeys ds).length = ds.length
  | [] => rfl
  | d :: ds => by rw [nkeys, List.length_cons, List.length_cons, nkeys_length ds]
theorem nkeys_map : ∀ ds : List D, nkeys ds = ds.map nkey
  | [] => rfl
  | d :: ds => by rw [nkeys, List.map_cons, nkeys_map ds]
theorem keyN_inj : ∀ (n : Nat) (a b : D), a.keyN n = true → b.keyN n = true → nkey a = nkey b → a = b := by
  intro n
  induction n with
  | zero =>
    intro a b ha hb h
    cases a <;> first | (simp [D.keyN] at ha; done) | (cases b <;> first | (simp [D.keyN] at hb; done) | (simp [nkey] at h; try simp [h]))
  | succ n ih =>
    have go : ∀ xs ys : List D, xs.all (D.keyN n) = true → ys.all (D.keyN n) = true → nkeys xs = nkeys ys → xs = ys := by
      intro xs
      induction xs with
      | nil =>
        intro ys _ _ h
        cases ys with
        | nil => rfl
        | cons y ys => simp [nkeys] at h
      | cons x xs ihx =>
        intro ys hx hy h
        cases ys with
        | nil => simp [nkeys] at h
        | cons y ys =>
          rw [List.all_cons, Bool.and_eq_true] at hx hy
          rw [nkeys, nkeys] at h
          injection h with h1 h2
          rw [ih x y hx.1 hy.1 h1, ihx ys hx.2 hy.2 h2]
    intro a b ha hb h
    cases a <;> first | (simp [D.keyN] at ha; done) | (cases b <;> first | (simp [D.keyN] at hb; done) | (simp [nkey] at h; done) | skip)
    · simp [nkey] at h; simp [h]
    · simp [nkey] at h; simp [h]
    · rename_i xs ys
      rw [D.keyN] at ha hb
      simp only [nkey, NestedKey.tup.injEq] at h
      rw [go xs ys ha hb h]
theorem key_inj {a b : D} (ha : a.key = true) (hb : b.key = true) (h : nkey a = nkey b) : a = b := keyN_inj 8 a b ha hb h
theorem keyN_depth : ∀ (n : Nat) (d : D), d.keyN n = true → (nkey d).depth ≤ n := by
  intro n
  induction n with
  | zero => intro d h; cases d <;> first | (simp [D.keyN] at h; done) | simp [nkey, NestedKey.depth]
  | succ n ih =>
    intro d h
    have go : ∀ xs : List D, xs.all (D.keyN n) = true → NestedKey.depthAll (nkeys xs) ≤ n := by
      intro xs
      induction xs with
      | nil => intro _; simp [nkeys, NestedKey.depthAll]
      | cons x xs ihx =>
        intro h
        rw [List.all_cons, Bool.and_eq_true] at h
        rw [nkeys, NestedKey.depthAll]
        exact Nat.max_le.mpr ⟨ih x h.1, ihx h.2⟩
    cases d <;> first | (simp [D.keyN] at h; done) | skip
    · simp [nkey, NestedKey.depth]
    · simp [nkey, NestedKey.depth]
    · rename_i xs
      rw [D.keyN] at h
      rw [nkey, NestedKey.depth]
      exact Nat.succ_le_succ (go xs h)
section
variable {X : Cx} {N : Nms} {pins : List (Addr × Obj)} {σ : L2.St} {s : Shared} {m : List Addr} {G H : Hp} {st : Store}
theorem nested_is (I : Inv X pins σ H s) (sub : ∀ a o, G a = some o → H a = some o) : ∀ (n : Nat) (d : D) (v : V) (u : Value), d.keyN n = true → repV (Bo X N) m G d v → RelV v u → NestedIs s.heap (nkey d) u := by
  intro n
  induction n with
  | zero =>
    intro d v u h r q
    cases d <;> first | (simp [D.keyN] at h; done) | skip
    · rw [repV] at r; subst r; obtain ⟨t, rfl⟩ := q; exact .int _ t
    · rw [repV] at r; subst r; obtain ⟨t, rfl⟩ := q; exact .text _ t
  | succ n ih =>
    intro d v u h r q
    cases d <;> first | (simp [D.keyN] at h; done) | skip
    · rw [repV] at r; subst r; obtain ⟨t, rfl⟩ := q; exact .int _ t
    · rw [repV] at r; subst r; obtain ⟨t, rfl⟩ := q; exact .text _ t
    · rename_i xs
      rw [D.keyN] at h
      rw [repV] at r
      obtain ⟨a, vs, rfl, ta, r⟩ := r
      cases q
      obtain ⟨its, rv, ⟨o, ho, hc, k, hd⟩, _⟩ := I.tuple (ta.sub sub).seq
      have go : ∀ (xs : List D) (vs : List V) (us : List Value), xs.all (D.keyN n) = true → repL (Bo X N) m G xs vs → Vals vs us → NestedAll s.heap (nkeys xs) us := by
        intro xs
        induction xs with
        | nil =>
          intro vs us _ r q
          rw [repL] at r
          subst r
          cases q
          exact .nil
        | cons x xs ihx =>
          intro vs us h r q
          rw [List.all_cons, Bool.and_eq_true] at h
          rw [repL] at r
          obtain ⟨v, ws, rfl, r1, r2⟩ := r
          cases q with
          | cons q1 q2 => exact .cons (ih x v _ h.1 r1 q1) (ihx ws _ h.2 r2 q2)
      exact .tup ho hc hd (by simpa using go xs vs its h r rv)
end
/-! ### dget, dput -/
theorem dget_isSome : ∀ {ks vs : List D} {d : D}, ks.length = vs.length → (dget ks vs d).isSome = decide (d ∈ ks)
  | [], [], d, _ => by simp [dget]
  | [], _ :: _, d, h => by simp at h
  | _ :: _, [], d, h => by simp at h
  | k :: ks, v :: vs, d, h => by
    rw [dget]
    by_cases e : k = d
    · rw [if_pos e]; simp [e]
    · rw [if_neg e, dget_isSome (by simpa using h)]
      simp [Ne.symm e, List.mem_cons]
theorem dputV_length : ∀ {ks vs : List D} {x y : D}, ks.length = vs.length → (dputV ks vs x y).length = (dputK ks x).length
  | ks, vs, x, y, h => by
    have go : ∀ (ks vs : List D), ks.length = vs.length → (dputV ks vs x y).length = if x ∈ ks then ks.length else ks.length + 1 := by
      intro ks
      induction ks with
      | nil => intro vs h; cases vs <;> simp_all [dputV]
      | cons k ks ih =>
        intro vs h
        cases vs with
        | nil => simp at h
        | cons v vs =>
          rw [dputV]
          by_cases e : k = x
          · rw [if_pos e]; simp_all
          · have e' : ¬ x = k := fun q => e q.symm
            rw [if_neg e, List.length_cons, ih vs (by simpa using h)]
            by_cases q : x ∈ ks
            · simp [q]
            · simp [q, e']
    rw [go ks vs h]
    unfold dputK
    split <;> simp
section
variable {B : Wo} {m : List Addr} {G : Hp}
/-- scalar keys -/
theorem dget_val {k : Key} : ∀ {kvs : List (Key × V)} {vs : List D}, repL B m G vs (kvs.map (·.2)) →
    (∀ d, dget (kvs.map fun p => keyD p.1) vs (keyD k) = some d → ∃ v, valV kvs k = some v ∧ repV B m G d v) ∧ (dget (kvs.map fun p => keyD p.1) vs (keyD k) = none → valV kvs k = none)
  | [], vs, r => by
    constructor
    · intro d h; simp [dget] at h
    · intro _; rfl
  | p :: kvs, vs, r => by
    cases vs with
    | nil => rw [List.map_cons, repL] at r; cases r
    | cons d vs =>
      rw [List.map_cons, repL] at r
      obtain ⟨v, ws, e, r1, r2⟩ := r
      injection e with e1 e2
      subst e1 e2
      have ih := dget_val (k := k) r2
      rw [List.map_cons, dget]
      by_cases e : p.1 = k
      · rw [if_pos (by rw [e]), valV_pos e]
        constructor
        · intro d' h; cases h; exact ⟨_, rfl, r1⟩
        · intro h; cases h
      · rw [if_neg (fun q => e (keyD_inj q)), valV_neg e]
        exact ih
theorem dput_val {k : Key} {d : D} {v : V} (hv : repV B m G d v) : ∀ {kvs : List (Key × V)} {vs : List D}, repL B m G vs (kvs.map (·.2)) → (kvs.map (·.1)).Nodup →
    (putK kvs k v).map (fun p => keyD p.1) = dputK (kvs.map fun p => keyD p.1) (keyD k) ∧ repL B m G (dputV (kvs.map fun p => keyD p.1) vs (keyD k) d) ((putK kvs k v).map (·.2)) := by
  have keyA : ∀ kvs : List (Key × V), (kvs.any fun kv => decide (kv.1 = k)) = decide (keyD k ∈ kvs.map fun p => keyD p.1) := by
    intro kvs
    induction kvs with
    | nil => rfl
    | cons p kvs ih =>
      rw [List.any_cons, ih, List.map_cons]
      by_cases e : p.1 = k
      · simp [e]
      · have e2 : ¬ keyD k = keyD p.1 := fun q => e (keyD_inj q.symm)
        simp [e, e2]
  have rep : ∀ (kvs : List (Key × V)) (vs : List D), repL B m G vs (kvs.map (·.2)) → (kvs.map (·.1)).Nodup → (kvs.any fun kv => decide (kv.1 = k)) = true →
      (kvs.map fun kv => if kv.1 = k then (kv.1, v) else kv).map (fun p => keyD p.1) = kvs.map (fun p => keyD p.1) ∧ repL B m G (dputV (kvs.map fun p => keyD p.1) vs (keyD k) d) ((kvs.map fun kv => if kv.1 = k then (kv.1, v) else kv).map (·.2)) := by
    intro kvs
    induction kvs with
    | nil => intro vs _ _ h; cases h
    | cons p kvs ih =>
      intro vs r nd h
      cases vs with
      | nil => rw [List.map_cons, repL] at r; cases r
      | cons d0 vs =>
        rw [List.map_cons, repL] at r
        obtain ⟨v0, ws, e, r1, r2⟩ := r
        injection e with e1 e2
        subst e1 e2
        rw [List.map_cons, List.nodup_cons] at nd
        by_cases e : p.1 = k
        · have rest : (kvs.map fun kv => if kv.1 = k then (kv.1, v) else kv) = kvs := by
            conv => rhs; rw [← List.map_id kvs]
            refine List.map_congr_left fun q hq => ?_
            rw [if_neg (fun z => nd.1 (by rw [e, ← z]; exact List.mem_map_of_mem hq))]
            rfl
          rw [List.map_cons, rest, if_pos e]
          refine ⟨by simp, ?_⟩
          rw [List.map_cons, dputV, if_pos (by rw [e]), List.map_cons]
          exact .cons' hv r2
        · rw [List.any_cons, decide_eq_false e, Bool.false_or] at h
          obtain ⟨i1, i2⟩ := ih vs r2 nd.2 h
          rw [List.map_cons, if_neg e]
          refine ⟨by rw [List.map_cons, i1, List.map_cons], ?_⟩
          rw [List.map_cons, dputV, if_neg (fun q => e (keyD_inj q)), List.map_cons]
          exact .cons' r1 i2
  have new : ∀ (kvs : List (Key × V)) (vs : List D), repL B m G vs (kvs.map (·.2)) → (kvs.any fun kv => decide (kv.1 = k)) = false → repL B m G (dputV (kvs.map fun p => keyD p.1) vs (keyD k) d) (kvs.map (·.2) ++ [v]) := by
    intro kvs
    induction kvs with
    | nil =>
      intro vs r _
      rw [List.map_nil] at r
      cases vs with
      | nil => exact .cons' hv .nil'
      | cons _ _ => rw [repL] at r; obtain ⟨_, _, e, _⟩ := r; cases e
    | cons p kvs ih =>
      intro vs r h
      cases vs with
      | nil => rw [List.map_cons, repL] at r; cases r
      | cons d0 vs =>
        rw [List.map_cons, repL] at r
        obtain ⟨v0, ws, e, r1, r2⟩ := r
        injection e with e1 e2
        subst e1 e2
        rw [List.any_cons, Bool.or_eq_false_iff] at h
        have e : ¬ p.1 = k := of_decide_eq_false h.1
        rw [List.map_cons, dputV, if_neg (fun q => e (keyD_inj q)), List.map_cons, List.cons_append]
        exact .cons' r1 (ih vs r2 h.2)
  intro kvs vs r nd
  unfold putK dputK
  cases h : (kvs.any fun kv => decide (kv.1 = k)) with
  | true =>
    rw [if_pos rfl, if_pos (of_decide_eq_true ((keyA kvs).symm.trans h))]
    exact rep kvs vs r nd h
  | false =>
    rw [if_neg Bool.false_ne_true, if_neg (of_decide_eq_false ((keyA kvs).symm.trans h))]
    refine ⟨by simp, ?_⟩
    rw [List.map_append]
    exact new kvs vs r h
/-- keys that are tuples -/
theorem dget_at {d : D} (hd : d.key = true) : ∀ {us : List (NestedKey × Addr × Value)} {ks vs : List D} {ws : List V}, us.map (·.1) = nkeys ks → (∀ k ∈ ks, k.isT = true ∧ k.key = true) → repL B m G vs ws → Vals ws (us.map (·.2.2)) →
    (∀ y, dget ks vs d = some y → ∃ p w, atKey us (nkey d) = some p ∧ repV B m G y w ∧ RelV w p.2) ∧ (dget ks vs d = none → atKey us (nkey d) = none)
  | [], ks, vs, ws, e, _, r, q => by
    cases ks with
    | nil =>
      constructor
      · intro y h; simp [dget] at h
      · intro _; rfl
    | cons _ _ => simp [nkeys] at e
  | p :: us, [], vs, ws, e, _, r, q => by simp [nkeys] at e
  | p :: us, k :: ks, vs, ws, e, hk, r, q => by
    rw [List.map_cons, nkeys] at e
    injection e with e1 e2
    rw [List.map_cons] at q
    cases q with
    | @cons w u ws us' q1 q2 =>
      cases vs with
      | nil => rw [repL] at r; cases r
      | cons y vs =>
        rw [repL] at r
        obtain ⟨w', ws', e3, r1, r2⟩ := r
        injection e3 with e4 e5
        subst e4 e5
        have ih := dget_at hd e2 (fun k h => hk k (List.mem_cons_of_mem _ h)) r2 q2
        rw [dget]
        by_cases h : k = d
        · have : p.1 = nkey d := by rw [e1, h]
          have ea : atKey (p :: us) (nkey d) = some p.2 := by unfold atKey; rw [List.find?_cons, decide_eq_true this]; rfl
          rw [if_pos h, ea]
          constructor
          · intro y' h'; cases h'; exact ⟨_, _, rfl, r1, q1⟩
          · intro h'; cases h'
        · have : ¬ p.1 = nkey d := fun z => h (key_inj (hk k List.mem_cons_self).2 hd (e1.symm.trans z))
          have ea : atKey (p :: us) (nkey d) = atKey us (nkey d) := by unfold atKey; rw [List.find?_cons, decide_eq_false this]
          rw [if_neg h, ea]
          exact ih
end
end Dn
end
section
set_option Elab.async false
set_option linter.all false
set_option maxRecDepth 100000
set_option maxHeartbeats 4000000
/-! Dn7: what is done with dicts. Own work. -/
namespace Dn
open PySem PySem.Spec PyProof.Rows L2

/-- the object u at a is the dict ks, vs -/
def DicU (B : Wo) (m : List Addr) (G : Hp) (a : Addr) (u : HO) (ks vs : List D) : Prop :=
  (∃ kvs : List (Key × V), unlk u = .dK kvs ∧ ks = kvs.map (fun p => keyD p.1) ∧ repL B m G vs (kvs.map (·.2))) ∨
    ∃ xs : List Ent, unlk u = dX B a xs ∧ xs.map (·.1) = nkeys ks ∧ ks ≠ [] ∧ repL B m G ks (xs.map fun x => .ref x.2.1) ∧ (∀ k ∈ ks, k.isT = true ∧ k.key = true) ∧ repL B m G vs (xs.map (·.2.2))
theorem unlk_dK {u : HO} {kvs : List (Key × V)} (h : unlk u = .dK kvs) : u = .dK kvs ∨ ∃ o, u = .frz o (.dK kvs) := by
  unfold unlk at h
  split at h
  · cases h; exact .inr ⟨_, rfl⟩
  · cases h
  · exact .inl h
theorem unlk_ext {u : HO} {φ : Heap → Prop} (h : unlk u = .ext φ) : u = .ext φ ∨ ∃ o, u = .frz o (.ext φ) := by
  unfold unlk at h
  split at h
  · cases h
  · cases h; exact .inr ⟨_, rfl⟩
  · exact .inl h
theorem unlk_id {kvs : List (Key × V)} : unlk (.dK kvs) = .dK kvs := rfl
theorem unlk_dX {B : Wo} {a : Addr} {xs : List Ent} : unlk (dX B a xs) = dX B a xs := rfl
section
variable {X : Cx} {N : Nms} {pins : List (Addr × Obj)} {σ : L2.St} {s : Shared} {m : List Addr} {G H : Hp} {st : Store} {ks vs : List D} {a : Addr} {u : HO}
theorem dic_at {d : D} {v : V} (r : RelS (Bo X N) m G H st) (h : repV (Bo X N) m G d v) (e : cellOf st d = .dic ks vs) : ∃ a u, v = .ref a ∧ H a = some u ∧ DicU (Bo X N) m G a u ks vs := by
  cases d with
  | dic ks' vs' =>
    cases e
    rw [repV] at h
    obtain ⟨a, u, rfl, s, q⟩ := h
    exact ⟨a, u, rfl, r.sub _ _ s, q⟩
  | ref n =>
    obtain ⟨a, rfl, _, c⟩ := r.at h (get_of_getD e (by intro z; cases z))
    rcases c with ⟨kvs, q1, q2⟩ | ⟨xs, q1, q2⟩
    · exact ⟨a, _, rfl, q1, .inl ⟨kvs, rfl, q2⟩⟩
    · exact ⟨a, _, rfl, q1, .inr ⟨xs, rfl, q2⟩⟩
  | _ => cases e
theorem DicU.len (hD : DicU (Bo X N) m G a u ks vs) : ks.length = vs.length := by
  rcases hD with ⟨kvs, _, rfl, r⟩ | ⟨xs, _, e, _, _, _, r⟩
  · have := r.length
    simpa using this
  · have h1 := r.length
    have h2 := congrArg List.length e
    rw [nkeys_length] at h2
    simp at h1 h2
    omega
/-- what is known of a dict whose keys are tuples -/
structure TD (X : Cx) (N : Nms) (m : List Addr) (G H : Hp) (s : Shared) (a : Addr) (ks vs : List D) (us : List (NestedKey × Addr × Value)) (ws : List V) : Prop where
  sys : (a == sysModules) = false
  len : us.length ≤ sizeLine
  dd : s.heap.DictOfH (nestedKind X.prog X.w) a us
  keys : us.map (·.1) = nkeys ks
  at_ : repL (Bo X N) m G ks (us.map fun x => .ref x.2.1)
  ok : ∀ k ∈ ks, k.isT = true ∧ k.key = true
  rep : repL (Bo X N) m G vs ws
  vals : Vals ws (us.map (·.2.2))
theorem keyFor_key {d : D} (h : keyFor ks d = true) : d.key = true := (Bool.and_eq_true_iff.mp h).1
theorem keyFor_head {d k : D} (h : keyFor (k :: ks) d = true) : k.isT = d.isT := by
  have := (Bool.and_eq_true_iff.mp h).2
  exact eq_of_beq this
theorem isT_keyD (k : Key) : (keyD k).isT = false := by cases k <;> rfl
theorem scalar_key {d : D} (h : d.key = true) (ht : d.isT = false) : ∃ k, d = keyD k := by
  cases d <;> first | (simp [D.key, D.keyN] at h; done) | skip
  · exact ⟨.inl _, rfl⟩
  · exact ⟨.inr _, rfl⟩
  · cases ht
theorem rep_keyD {B : Wo} {k : Key} {v : V} (h : repV B m G (keyD k) v) : v = kV k := by
  cases k <;> (rw [keyD, repV] at h; exact h)
theorem td_of (I : Inv X pins σ H s) (r : RelS (Bo X N) m G H st) (hu : H a = some u) (hD : DicU (Bo X N) m G a u ks vs) {d : D} (hk : keyFor ks d = true) (ht : d.isT = true) :
    ∃ us ws, TD X N m G H s a ks vs us ws := by
  rcases hD with ⟨kvs, e, rfl, rv⟩ | ⟨xs, e, e2, hn, rk, hks, rv⟩
  · have hk0 : kvs = [] := by
      cases kvs with
      | nil => rfl
      | cons p kvs =>
        rw [List.map_cons] at hk
        have := keyFor_head hk
        rw [isT_keyD, ht] at this
        cases this
    subst hk0
    have rd : Rd H a (.dK []) := by
      rcases unlk_dK e with rfl | ⟨o, rfl⟩
      · exact .inl hu
      · exact .inr ⟨o, hu⟩
    obtain ⟨z, hd, ws, kv, o, es, ep, h1, h2, h3, h4, h5, h6⟩ := dk_rd I.hok rd
    have hw : ws = [] := by
      cases ws with
      | nil => rfl
      | cons x xs => exact absurd kv.length (by simp)
    subst hw
    have hes : es.toList = [] := List.eq_nil_of_length_eq_zero h5.length
    rw [List.map_nil] at rv
    exact ⟨[], [], hd, Nat.zero_le _, ⟨o, es, ep, h1, h2, h3, hes, (by simp), (by simp)⟩, rfl, by simp; exact .nil', by simp, rv, .nil⟩
  · have rd : Rd H a (dX (Bo X N) a xs) := by
      rcases unlk_ext e with rfl | ⟨o, rfl⟩
      · exact .inl hu
      · exact .inr ⟨o, hu⟩
    have ob : ObjOk X.prog X.w H s.heap a (dX (Bo X N) a xs) := rd.ok I.hok
    obtain ⟨⟨hd, hz, us, o, es, ep, p, h1, h2, h3, h4, h5⟩, _⟩ := ob
    have pk : ∀ {xs : List Ent} {us : List (NestedKey × Addr × Value)}, Paired (fun (p : Ent) (q : NestedKey × Addr × Value) => p.1 = q.1 ∧ p.2.1 = q.2.1 ∧ RelV p.2.2 q.2.2) xs us →
        xs.map (·.1) = us.map (·.1) ∧ xs.map (fun x => V.ref x.2.1) = us.map (fun x => V.ref x.2.1) ∧ Vals (xs.map (·.2.2)) (us.map (·.2.2)) ∧ xs.length = us.length := by
      intro xs us p
      induction p with
      | nil => exact ⟨rfl, rfl, .nil, rfl⟩
      | cons h t ih =>
        obtain ⟨i1, i2, i3, i4⟩ := ih
        obtain ⟨k1, k2, k3⟩ := h
        refine ⟨by simp [i1, k1], by simp [i2, k2], ?_, by simp [i4]⟩
        simp only [List.map_cons]
        exact .cons k3 i3
    obtain ⟨p1, p2, p3, p4⟩ := pk p
    refine ⟨us, xs.map (·.2.2), hd, by rw [← p4]; exact hz, ⟨o, es, ep, h1, h2, h3, h4, fun x hx => ?_, h5⟩, p1.symm.trans e2, by rw [← p2]; exact rk, hks, rv, p3⟩
    -- each key stands where it is said to stand
    obtain ⟨i, hi, ex⟩ := List.mem_iff_getElem.mp hx
    have e3 : us.map (·.1) = nkeys ks := p1.symm.trans e2
    have hl : us.length = ks.length := by have := congrArg List.length e3; rw [nkeys_length] at this; simpa using this
    have hik : i < ks.length := by omega
    obtain ⟨v, ev, rv'⟩ := rk.get (List.getElem?_eq_getElem hik)
    rw [p2, List.getElem?_map, List.getElem?_eq_getElem hi, Option.map_some] at ev
    cases ev
    have kk := hks ks[i] (List.getElem_mem hik)
    have nk : x.1 = nkey ks[i] := by
      have := congrArg (fun l => l[i]?) e3
      simp only [List.getElem?_map, List.getElem?_eq_getElem hi, Option.map_some] at this
      rw [nkeys_map, List.getElem?_map, List.getElem?_eq_getElem hik, Option.map_some] at this
      rw [← ex]
      exact Option.some.inj this
    rw [nk]
    refine ⟨?_, keyN_depth 8 _ kk.2⟩
    have := nested_is I r.sub 8 ks[i] _ _ kk.2 rv' (rfl : RelV (.ref us[i].2.1) (.ref us[i].2.1))
    rw [ex] at this
    exact this
theorem dk_of' (hu : H a = some u) (hD : DicU (Bo X N) m G a u ks vs) {d : D} (hk : keyFor ks d = true) (ht : d.isT = false) : ∃ kvs : List (Key × V), Rd H a (.dK kvs) ∧ unlk u = .dK kvs ∧ ks = kvs.map (fun p => keyD p.1) ∧ repL (Bo X N) m G vs (kvs.map (·.2)) := by
  rcases hD with ⟨kvs, e, rfl, rv⟩ | ⟨xs, e, e2, hn, rk, hks, rv⟩
  · refine ⟨kvs, ?_, e, rfl, rv⟩
    rcases unlk_dK e with rfl | ⟨o, rfl⟩
    · exact .inl hu
    · exact .inr ⟨o, hu⟩
  · exfalso
    cases ks with
    | nil => exact hn rfl
    | cons k ks =>
      have h1 := keyFor_head hk
      rw [(hks k List.mem_cons_self).1, ht] at h1
      cases h1
theorem tup_ref {d : D} {v : V} (h : repV (Bo X N) m G d v) (ht : d.isT = true) : ∃ b, v = .ref b := by
  cases d <;> first | (cases ht; done) | skip
  rw [repV] at h
  obtain ⟨a, _, rfl, _⟩ := h
  exact ⟨a, rfl⟩

variable {A : Around} {E : Value → Shared → Prop} {d : D} {v : V} {uv : Value}
/-- d in the dict -/
theorem dic_in {Q : Value → Shared → Prop} (hA : A.units + 10 < cLine) (I : Inv X pins σ H s) (r : RelS (Bo X N) m G H st) (hu : H a = some u) (hD : DicU (Bo X N) m G a u ks vs) (hk : keyFor ks d = true) (rd : repV (Bo X N) m G d v) (rv : RelV v uv)
    (h : ∀ s', Inv X pins σ H s' → Q (.bool (decide (d ∈ ks))) s') : wpAny (model X.prog X.w) A (compareOp .In uv (.ref a)) Q E s := by
  have hl := hD.len
  cases ht : d.isT with
  | false =>
    obtain ⟨kvs, rdH, _, rfl, rl⟩ := dk_of' hu hD hk ht
    obtain ⟨k, rfl⟩ := scalar_key (keyFor_key hk) ht
    have ev := rep_keyD rd
    refine d_in (o := valV kvs k) (by omega) I (.inl ⟨kvs, k, rdH, ev, rfl⟩) rv fun s' I' => ?_
    have e : (valV kvs k).isSome = decide (keyD k ∈ kvs.map fun p => keyD p.1) := by
      rw [← dget_isSome hl]
      obtain ⟨g1, g2⟩ := dget_val (k := k) rl
      cases q : dget (kvs.map fun p => keyD p.1) vs (keyD k) with
      | none => rw [g2 q]; rfl
      | some y => obtain ⟨w, e, _⟩ := g1 y q; rw [e]; rfl
    rw [e]
    exact h s' I'
  | true =>
    obtain ⟨us, ws, T⟩ := td_of I r hu hD hk ht
    obtain ⟨b, rfl⟩ := tup_ref rd ht
    cases rv
    refine wpAny_in_heap (knd := nestedKind X.prog X.w) (by show A.units + 1 + 8 < _; omega) ⟨nested_is I r.sub 8 d _ _ (keyFor_key hk) rd rfl, keyN_depth 8 _ (keyFor_key hk)⟩ T.sys T.dd ?_
    have e : (atKey us (nkey d)).isSome = decide (d ∈ ks) := by
      rw [← dget_isSome hl]
      obtain ⟨g1, g2⟩ := dget_at (keyFor_key hk) T.keys T.ok T.rep T.vals
      cases q : dget ks vs d with
      | none => rw [g2 q]; rfl
      | some y => obtain ⟨p, w, e, _⟩ := g1 y q; rw [e]; rfl
    rw [e]
    exact h _ (I.tok _)
theorem dic_notIn {Q : Value → Shared → Prop} (hA : A.units + 10 < cLine) (I : Inv X pins σ H s) (r : RelS (Bo X N) m G H st) (hu : H a = some u) (hD : DicU (Bo X N) m G a u ks vs) (hk : keyFor ks d = true) (rd : repV (Bo X N) m G d v) (rv : RelV v uv)
    (h : ∀ s', Inv X pins σ H s' → Q (.bool (!decide (d ∈ ks))) s') : wpAny (model X.prog X.w) A (compareOp .NotIn uv (.ref a)) Q E s := by
  have hl := hD.len
  cases ht : d.isT with
  | false =>
    obtain ⟨kvs, rdH, _, rfl, rl⟩ := dk_of' hu hD hk ht
    obtain ⟨k, rfl⟩ := scalar_key (keyFor_key hk) ht
    have ev := rep_keyD rd
    refine d_notIn (o := valV kvs k) (by omega) I (.inl ⟨kvs, k, rdH, ev, rfl⟩) rv fun s' I' => ?_
    have e : (valV kvs k).isSome = decide (keyD k ∈ kvs.map fun p => keyD p.1) := by
      rw [← dget_isSome hl]
      obtain ⟨g1, g2⟩ := dget_val (k := k) rl
      cases q : dget (kvs.map fun p => keyD p.1) vs (keyD k) with
      | none => rw [g2 q]; rfl
      | some y => obtain ⟨w, e, _⟩ := g1 y q; rw [e]; rfl
    rw [e]
    exact h s' I'
  | true =>
    obtain ⟨us, ws, T⟩ := td_of I r hu hD hk ht
    obtain ⟨b, rfl⟩ := tup_ref rd ht
    cases rv
    refine PyProof.Rows.wpAny_notIn_heap (knd := nestedKind X.prog X.w) (by show A.units + 1 + 8 < _; omega) ⟨nested_is I r.sub 8 d _ _ (keyFor_key hk) rd rfl, keyN_depth 8 _ (keyFor_key hk)⟩ T.sys T.dd ?_
    have e : (atKey us (nkey d)).isSome = decide (d ∈ ks) := by
      rw [← dget_isSome hl]
      obtain ⟨g1, g2⟩ := dget_at (keyFor_key hk) T.keys T.ok T.rep T.vals
      cases q : dget ks vs d with
      | none => rw [g2 q]; rfl
      | some y => obtain ⟨p, w, e, _⟩ := g1 y q; rw [e]; rfl
    rw [e]
    exact h _ (I.tok _)
/-- the dict's value at d -/
theorem dic_get {Q : Value → Shared → Prop} {y : D} (hA : A.units + 10 < cLine) (I : Inv X pins σ H s) (r : RelS (Bo X N) m G H st) (hu : H a = some u) (hD : DicU (Bo X N) m G a u ks vs) (hk : keyFor ks d = true) (rd : repV (Bo X N) m G d v) (rv : RelV v uv)
    (hy : dget ks vs d = some y) (h : ∀ w z s', Inv X pins σ H s' → repV (Bo X N) m G y w → RelV w z → Q z s') : wpAny (model X.prog X.w) A (getItem (.ref a) uv) Q E s := by
  cases ht : d.isT with
  | false =>
    obtain ⟨kvs, rdH, _, rfl, rl⟩ := dk_of' hu hD hk ht
    obtain ⟨k, rfl⟩ := scalar_key (keyFor_key hk) ht
    have ev := rep_keyD rd
    obtain ⟨w, e, rw'⟩ := (dget_val (k := k) rl).1 y hy
    exact d_getItem (v := w) (by omega) I (.inl ⟨kvs, k, rdH, ev, e.symm⟩) rv fun z s' I' q => h w z s' I' rw' q
  | true =>
    obtain ⟨us, ws, T⟩ := td_of I r hu hD hk ht
    obtain ⟨b, rfl⟩ := tup_ref rd ht
    cases rv
    obtain ⟨p, w, e, rw', q⟩ := (dget_at (keyFor_key hk) T.keys T.ok T.rep T.vals).1 y hy
    exact wpAny_getItem_heap (knd := nestedKind X.prog X.w) (by show A.units + 1 + 8 < _; omega) ⟨nested_is I r.sub 8 d _ _ (keyFor_key hk) rd rfl, keyN_depth 8 _ (keyFor_key hk)⟩ T.dd e (h w p.2 _ (I.tok _) rw' q)
/-- d.get(k), d.get(k, x) -/
theorem dic_get1 {Q : Value → Shared → Prop} (hA : A.units + 10 < cLine) (I : Inv X pins σ H s) (r : RelS (Bo X N) m G H st) (hu : H a = some u) (hD : DicU (Bo X N) m G a u ks vs) (hk : keyFor ks d = true) (rd : repV (Bo X N) m G d v) (rv : RelV v uv)
    (h : ∀ w z s', Inv X pins σ H s' → repV (Bo X N) m G ((dget ks vs d).getD .non) w → RelV w z → Q z s') : wpAny (model X.prog X.w) A (call (.builtin "dict.get") [.ref a, uv]) Q E s := by
  cases ht : d.isT with
  | false =>
    obtain ⟨kvs, rdH, _, rfl, rl⟩ := dk_of' hu hD hk ht
    obtain ⟨k, rfl⟩ := scalar_key (keyFor_key hk) ht
    have ev := rep_keyD rd
    refine d_get1 (o := valV kvs k) (by omega) I (.inl ⟨kvs, k, rdH, ev, rfl⟩) rv fun z s' I' q => ?_
    obtain ⟨g1, g2⟩ := dget_val (k := k) rl
    cases e : dget (kvs.map fun p => keyD p.1) vs (keyD k) with
    | none => rw [g2 e] at q; exact h .non z s' I' (by rw [e]; exact repV_non.mpr rfl) q
    | some y => obtain ⟨w, e2, rw'⟩ := g1 y e; rw [e2] at q; exact h w z s' I' (by rw [e]; exact rw') q
  | true =>
    obtain ⟨us, ws, T⟩ := td_of I r hu hD hk ht
    obtain ⟨b, rfl⟩ := tup_ref rd ht
    cases rv
    obtain ⟨g1, g2⟩ := dget_at (keyFor_key hk) T.keys T.ok T.rep T.vals
    refine call_meetsIn PySem.F.slot_dict_get T.dd.typeIs PySem.F.entry_dict_get (PySem.F.args_dict_get_2 _ _) (meetsH_dict_get (nestedKind X.prog X.w) a b T.sys) ⟨by show A.units + 1 + 8 < _; omega, nkey d, us, ⟨nested_is I r.sub 8 d _ _ (keyFor_key hk) rd rfl, keyN_depth 8 _ (keyFor_key hk)⟩, T.dd, ?_⟩
    cases e : dget ks vs d with
    | none => rw [g2 e]; exact h .non _ _ (I.tok _) (by rw [e]; exact repV_non.mpr rfl) rfl
    | some y => obtain ⟨p, w, e2, rw', q⟩ := g1 y e; rw [e2]; exact h w _ _ (I.tok _) (by rw [e]; exact rw') q
theorem dic_get2 {Q : Value → Shared → Prop} {dx : D} {vx : V} {ux : Value} (hA : A.units + 10 < cLine) (I : Inv X pins σ H s) (r : RelS (Bo X N) m G H st) (hu : H a = some u) (hD : DicU (Bo X N) m G a u ks vs) (hk : keyFor ks d = true) (rd : repV (Bo X N) m G d v) (rv : RelV v uv)
    (rx : repV (Bo X N) m G dx vx) (qx : RelV vx ux)
    (h : ∀ w z s', Inv X pins σ H s' → repV (Bo X N) m G ((dget ks vs d).getD dx) w → RelV w z → Q z s') : wpAny (model X.prog X.w) A (call (.builtin "dict.get") [.ref a, uv, ux]) Q E s := by
  cases ht : d.isT with
  | false =>
    obtain ⟨kvs, rdH, _, rfl, rl⟩ := dk_of' hu hD hk ht
    obtain ⟨k, rfl⟩ := scalar_key (keyFor_key hk) ht
    have ev := rep_keyD rd
    refine d_get2 (o := valV kvs k) (d := vx) (by omega) I (.inl ⟨kvs, k, rdH, ev, rfl⟩) rv qx fun z s' I' q => ?_
    obtain ⟨g1, g2⟩ := dget_val (k := k) rl
    cases e : dget (kvs.map fun p => keyD p.1) vs (keyD k) with
    | none => rw [g2 e] at q; exact h vx z s' I' (by rw [e]; exact rx) q
    | some y => obtain ⟨w, e2, rw'⟩ := g1 y e; rw [e2] at q; exact h w z s' I' (by rw [e]; exact rw') q
  | true =>
    obtain ⟨us, ws, T⟩ := td_of I r hu hD hk ht
    obtain ⟨b, rfl⟩ := tup_ref rd ht
    cases rv
    obtain ⟨g1, g2⟩ := dget_at (keyFor_key hk) T.keys T.ok T.rep T.vals
    refine call_meetsIn PySem.F.slot_dict_get T.dd.typeIs PySem.F.entry_dict_get (PySem.F.args_dict_get_3 _ _ _) (meetsH_dict_get_default (nestedKind X.prog X.w) a b T.sys ux) ⟨by show A.units + 1 + 8 < _; omega, nkey d, us, ⟨nested_is I r.sub 8 d _ _ (keyFor_key hk) rd rfl, keyN_depth 8 _ (keyFor_key hk)⟩, T.dd, ?_⟩
    cases e : dget ks vs d with
    | none => rw [g2 e]; exact h vx _ _ (I.tok _) (by rw [e]; exact rx) qx
    | some y => obtain ⟨p, w, e2, rw', q⟩ := g1 y e; rw [e2]; exact h w _ _ (I.tok _) (by rw [e]; exact rw') q
end
end Dn
end
section
set_option Elab.async false
set_option linter.all false
set_option maxRecDepth 100000
set_option maxHeartbeats 4000000
/-! Dn8: dicts that are written. Own work. -/
namespace Dn
open PySem PySem.Spec PyProof.Rows L2

section
variable {X : Cx} {N : Nms} {pins : List (Addr × Obj)} {σ : L2.St} {s : Shared} {m : List Addr} {G H : Hp} {st : Store} {ks vs : List D} {a : Addr}
theorem ent_of : ∀ {us : List (NestedKey × Addr × Value)} {ws : List V}, Vals ws (us.map (·.2.2)) → ∃ xs : List Ent, Paired (fun (p : Ent) (q : NestedKey × Addr × Value) => p.1 = q.1 ∧ p.2.1 = q.2.1 ∧ RelV p.2.2 q.2.2) xs us ∧
    xs.map (·.1) = us.map (·.1) ∧ xs.map (fun x => V.ref x.2.1) = us.map (fun x => V.ref x.2.1) ∧ xs.map (·.2.2) = ws ∧ xs.length = us.length
  | [], ws, q => by cases q; exact ⟨[], .nil, rfl, rfl, rfl, rfl⟩
  | u :: us, ws, q => by
    rw [List.map_cons] at q
    cases q with
    | @cons w _ ws _ q1 q2 =>
      obtain ⟨xs, p, e1, e2, e3, e4⟩ := ent_of q2
      exact ⟨(u.1, u.2.1, w) :: xs, .cons ⟨rfl, rfl, q1⟩ p, by simp [e1], by simp [e2], by simp [e3], by simp [e4]⟩
theorem dx_write {h' : Heap} {t' : Nat} {us : List (NestedKey × Addr × Value)} {ws : List V} (I : Inv X pins σ H s) (mu : Mut (H a)) (hs : Heap.SameBut a s.heap h')
    (dd : h'.DictOfH (nestedKind X.prog X.w) a us) (sys : (a == sysModules) = false) (hz : us.length ≤ sizeLine) (ek : us.map (·.1) = nkeys ks) (hn : ks ≠ []) (rk : repL (Bo X N) m G ks (us.map fun x => .ref x.2.1))
    (ok : ∀ k ∈ ks, k.isT = true ∧ k.key = true) (rv : repL (Bo X N) m G vs ws) (q : Vals ws (us.map (·.2.2))) :
    ∃ o, Inv X pins σ (upd H a o) { s with heap := h', toks := t' } ∧ CellOk (Bo X N) m G (upd H a o) a (.dic ks vs) := by
  obtain ⟨xs, p, e1, e2, e3, e4⟩ := ent_of q
  refine ⟨dX (Bo X N) a xs, ?_, .inr ⟨xs, upd_same, e1.trans ek, hn, by rw [e2]; exact rk, ok, by rw [e3]; exact rv⟩⟩
  obtain ⟨o, es, ep, h1, h2, h3, h4, h5, h6⟩ := dd
  refine d_write I mu hs ⟨o, h1⟩ ⟨⟨sys, by rw [e4]; exact hz, us, o, es, ep, p, h1, h2, h3, h4, h6⟩, ⟨o, h1⟩, fun g1 g2 r k => ?_⟩
  obtain ⟨r1, r2, us, o, es, ep, p, h1, h2⟩ := r
  exact ⟨r1, r2, us, o, es, ep, p, k o h1, h2⟩
theorem DicU.of_cell (c : CellOk (Bo X N) m G H a (.dic ks vs)) : ∃ u, H a = some u ∧ DicU (Bo X N) m G a u ks vs := by
  rcases c with ⟨kvs, q1, q2⟩ | ⟨xs, q1, q2⟩
  · exact ⟨_, q1, .inl ⟨kvs, rfl, q2⟩⟩
  · exact ⟨_, q1, .inr ⟨xs, rfl, q2⟩⟩
theorem cell_dk (c : CellOk (Bo X N) m G H a (.dic ks vs)) {d : D} (hk : keyFor ks d = true) (ht : d.isT = false) : ∃ kvs : List (Key × V), H a = some (.dK kvs) ∧ ks = kvs.map (fun p => keyD p.1) ∧ repL (Bo X N) m G vs (kvs.map (·.2)) := by
  rcases c with ⟨kvs, q1, q2⟩ | ⟨xs, q1, q2, hn, rk, hks, rv⟩
  · exact ⟨kvs, q1, q2⟩
  · exfalso
    cases ks with
    | nil => exact hn rfl
    | cons k ks =>
      have h1 := keyFor_head hk
      rw [(hks k List.mem_cons_self).1, ht] at h1
      cases h1
theorem put_same {K : Type} [DecidableEq K] {k : K} {r : Value} : ∀ {us : List (K × Addr × Value)}, k ∉ us.map (·.1) → us.map (putAt k r) = us
  | [], _ => rfl
  | u :: us, h => by
    rw [List.map_cons, List.mem_cons, not_or] at h
    rw [List.map_cons, put_same h.2]
    unfold putAt
    rw [if_neg (fun e => h.1 e.symm)]
theorem put_old {d y : D} {v : V} {r : Value} (hd : d.key = true) (ry : repV (Bo X N) m G y v) (rr : RelV v r) : ∀ {us : List (NestedKey × Addr × Value)} {ks vs : List D} {ws : List V}, us.map (·.1) = nkeys ks → (∀ k ∈ ks, k.isT = true ∧ k.key = true) →
    repL (Bo X N) m G vs ws → Vals ws (us.map (·.2.2)) → (us.map (·.1)).Nodup → d ∈ ks → ∃ ws', Vals ws' ((us.map (putAt (nkey d) r)).map (·.2.2)) ∧ repL (Bo X N) m G (dputV ks vs d y) ws'
  | _, [], _, _, _, _, _, _, _, h => by simp at h
  | [], k :: ks, _, _, e, _, _, _, _, _ => by simp [nkeys] at e
  | u :: us, k :: ks, vs, ws, e, ok, rv, q, nd, h => by
    rw [List.map_cons, nkeys] at e
    injection e with e1 e2
    rw [List.map_cons] at q
    rw [List.map_cons, List.nodup_cons] at nd
    cases q with
    | @cons w u' ws us' q1 q2 =>
      cases vs with
      | nil => rw [repL] at rv; cases rv
      | cons x vs =>
        rw [repL] at rv
        obtain ⟨w', ws', e3, r1, r2⟩ := rv
        injection e3 with e4 e5
        subst e4 e5
        rw [dputV]
        by_cases hk : k = d
        · have e6 : u.1 = nkey d := by rw [e1, hk]
          rw [if_pos hk]
          refine ⟨v :: ws, ?_, .cons' ry r2⟩
          rw [List.map_cons, put_same (by rw [← e6]; exact nd.1), List.map_cons]
          unfold putAt
          rw [if_pos e6]
          exact .cons rr q2
        · have e6 : ¬ u.1 = nkey d := fun z => hk (key_inj (ok k List.mem_cons_self).2 hd (e1.symm.trans z))
          rw [if_neg hk]
          obtain ⟨ws2, i1, i2⟩ := put_old hd ry rr e2 (fun k h => ok k (List.mem_cons_of_mem _ h)) r2 q2 nd.2 (by
            rcases List.mem_cons.mp h with z | z
            · exact absurd z.symm hk
            · exact z)
          refine ⟨w :: ws2, ?_, .cons' r1 i2⟩
          rw [List.map_cons, List.map_cons]
          refine .cons ?_ i1
          unfold putAt
          rw [if_neg e6]
          exact q1
theorem dputV_new {d y : D} : ∀ {ks vs : List D}, ks.length = vs.length → d ∉ ks → dputV ks vs d y = vs ++ [y]
  | [], [], _, _ => rfl
  | [], _ :: _, h, _ => by simp at h
  | _ :: _, [], h, _ => by simp at h
  | k :: ks, v :: vs, h, n => by
    rw [List.mem_cons, not_or] at n
    rw [dputV, if_neg (fun e => n.1 e.symm), dputV_new (by simpa using h) n.2, List.cons_append]
/-- a tuple's key is stored -/
theorem dx_stored {us : List (NestedKey × Addr × Value)} {ws : List V} {d y : D} {v : V} {b : Addr} {r : Value} (T : TD X N m G H s a ks vs us ws) (hk : d.key = true) (ht : d.isT = true) (rd : repV (Bo X N) m G d (.ref b)) (ry : repV (Bo X N) m G y v) (rr : RelV v r) (nd : (us.map (·.1)).Nodup) :
    ∃ ws', (storedH us (nkey d) b r).map (·.1) = nkeys (dputK ks d) ∧ dputK ks d ≠ [] ∧ repL (Bo X N) m G (dputK ks d) ((storedH us (nkey d) b r).map fun x => .ref x.2.1) ∧ (∀ k ∈ dputK ks d, k.isT = true ∧ k.key = true) ∧
      repL (Bo X N) m G (dputV ks vs d y) ws' ∧ Vals ws' ((storedH us (nkey d) b r).map (·.2.2)) ∧ (storedH us (nkey d) b r).length ≤ us.length + 1 := by
  have hl : ks.length = vs.length := by
    have h1 := T.rep.length
    have h2 := T.vals.length
    have h3 := congrArg List.length T.keys
    rw [nkeys_length] at h3
    simp at h2 h3
    omega
  obtain ⟨g1, g2⟩ := dget_at hk T.keys T.ok T.rep T.vals
  by_cases hm : d ∈ ks
  · have : (dget ks vs d).isSome = true := by rw [dget_isSome hl]; exact decide_eq_true hm
    obtain ⟨y0, e0⟩ := Option.isSome_iff_exists.mp this
    obtain ⟨p, w, e1, _, _⟩ := g1 y0 e0
    obtain ⟨ws', i1, i2⟩ := put_old hk ry rr T.keys T.ok T.rep T.vals nd hm
    have f1 : (us.map (putAt (nkey d) r)).map (·.1) = us.map (·.1) := by
      rw [List.map_map]; refine List.map_congr_left fun x _ => ?_
      simp only [Function.comp, putAt]; split <;> rfl
    have f2 : (us.map (putAt (nkey d) r)).map (fun x => V.ref x.2.1) = us.map (fun x => V.ref x.2.1) := by
      rw [List.map_map]; refine List.map_congr_left fun x _ => ?_
      simp only [Function.comp, putAt]; split <;> rfl
    rw [storedH_old e1, dputK, if_pos hm, f1, f2]
    exact ⟨ws', T.keys, List.ne_nil_of_mem hm, T.at_, T.ok, i2, i1, by simp⟩
  · have : dget ks vs d = none := by
      have := dget_isSome (d := d) hl
      rw [decide_eq_false hm] at this
      cases q : dget ks vs d with
      | none => rfl
      | some z => rw [q] at this; cases this
    rw [storedH_new (g2 this), dputK, if_neg hm, dputV_new hl hm]
    refine ⟨ws ++ [v], ?_, by simp, ?_, fun k h => ?_, T.rep.append (.cons' ry .nil'), ?_, by simp⟩
    · rw [List.map_append, T.keys, nkeys_map, nkeys_map, List.map_append]; rfl
    · rw [List.map_append]; exact T.at_.append (.cons' rd .nil')
    · rcases List.mem_append.mp h with h | h
      · exact T.ok k h
      · have : k = d := by simpa using h
        subst this; exact ⟨ht, hk⟩
    · rw [List.map_append]; exact T.vals.append (.cons rr .nil)
variable {A : Around} {E : Value → Shared → Prop} {d y : D} {v vy : V} {uv uy : Value}
/-- a dict of the store: d[k] = y -/
theorem cell_put {Q : Unit → Shared → Prop} (hA : A.units + 10 < cLine) (I : Inv X pins σ H s) (r : RelS (Bo X N) m G H st) (c : CellOk (Bo X N) m G H a (.dic ks vs)) (hk : keyFor ks d = true) (hz : ks.length < szLine)
    (rd : repV (Bo X N) m G d v) (rv : RelV v uv) (ry : repV (Bo X N) m G y vy) (ru : RelV vy uy)
    (h : ∀ o s', Inv X pins σ (upd H a o) s' → CellOk (Bo X N) m G (upd H a o) a (.dic (dputK ks d) (dputV ks vs d y)) → Q () s') : wpAny (model X.prog X.w) A (setItem (.ref a) uv uy) Q E s := by
  cases ht : d.isT with
  | false =>
    obtain ⟨kvs, e, rfl, rl⟩ := cell_dk c hk ht
    obtain ⟨k, rfl⟩ := scalar_key (keyFor_key hk) ht
    have ev := rep_keyD rd
    subst ev
    have hl : kvs.length < sizeLine := by rw [← szLine_eq]; simpa using hz
    have nd : (kvs.map (·.1)).Nodup := by
      obtain ⟨_, _, vs', kv, o, es, ep, _, _, _, _, _, nd⟩ := dk_rd I.hok (.inl e)
      rw [kv.keys]; exact nd
    refine d_setItem (by omega) I (.k (v := vy) e hl) rv ru fun s' I' => h _ s' I' ?_
    obtain ⟨p1, p2⟩ := dput_val (k := k) ry rl nd
    exact .inl ⟨_, upd_same, p1.symm, p2⟩
  | true =>
    obtain ⟨u, hu, hD⟩ := DicU.of_cell c
    obtain ⟨us, ws, T⟩ := td_of I r hu hD hk ht
    obtain ⟨b, rfl⟩ := tup_ref rd ht
    cases rv
    have nd : (us.map (·.1)).Nodup := by obtain ⟨_, _, _, _, _, _, _, _, nd⟩ := T.dd; exact nd
    obtain ⟨ws', e1, e2, e3, e4, e5, e6, e7⟩ := dx_stored T (keyFor_key hk) ht rd ry ru nd
    have hul : us.length = ks.length := by have := congrArg List.length T.keys; rw [nkeys_length] at this; simpa using this
    have hz' : (storedH us (nkey d) b uy).length ≤ sizeLine := by have := szLine_eq; omega
    refine wpAny_setItem_heap (hsz := T.len) (knd := nestedKind X.prog X.w) (by show A.units + 1 + 8 < _; omega) ⟨nested_is I r.sub 8 d _ _ (keyFor_key hk) rd rfl, keyN_depth 8 _ (keyFor_key hk)⟩ T.dd fun h' dd hs => ?_
    obtain ⟨o, I', c'⟩ := dx_write (t' := s.toks + (nestedKind X.prog X.w).draws (nkey d)) I c.mut hs dd T.sys hz' e1 e2 e3 e4 e5 e6
    exact h o _ I' c'
/-- d.setdefault(k, y) -/
theorem cell_setd {Q : Value → Shared → Prop} (hA : A.units + 10 < cLine) (I : Inv X pins σ H s) (r : RelS (Bo X N) m G H st) (c : CellOk (Bo X N) m G H a (.dic ks vs)) (hk : keyFor ks d = true) (hz : ks.length < szLine)
    (rd : repV (Bo X N) m G d v) (rv : RelV v uv) (ry : repV (Bo X N) m G y vy) (ru : RelV vy uy)
    (h1 : ∀ x w z s', dget ks vs d = some x → Inv X pins σ H s' → repV (Bo X N) m G x w → RelV w z → Q z s')
    (h2 : ∀ o z s', dget ks vs d = none → Inv X pins σ (upd H a o) s' → CellOk (Bo X N) m G (upd H a o) a (.dic (ks ++ [d]) (vs ++ [y])) → RelV vy z → Q z s') : wpAny (model X.prog X.w) A (call (.builtin "dict.setdefault") [.ref a, uv, uy]) Q E s := by
  obtain ⟨u, hu, hD⟩ := DicU.of_cell c
  have hl := hD.len
  have fresh : dget ks vs d = none → d ∉ ks := fun e q => by
    have := dget_isSome (d := d) hl
    rw [e, decide_eq_true q] at this
    cases this
  cases ht : d.isT with
  | false =>
    obtain ⟨kvs, e, rfl, rl⟩ := cell_dk c hk ht
    obtain ⟨k, rfl⟩ := scalar_key (keyFor_key hk) ht
    have ev := rep_keyD rd
    subst ev
    have hl2 : kvs.length < sizeLine := by rw [← szLine_eq]; simpa using hz
    have nd : (kvs.map (·.1)).Nodup := by
      obtain ⟨_, _, vs', kv, o, es, ep, _, _, _, _, _, nd⟩ := dk_rd I.hok (.inl e)
      rw [kv.keys]; exact nd
    obtain ⟨g1, g2⟩ := dget_val (k := k) rl
    refine d_setd I e rv ru hl2 (fun w hw z s' I' rz => ?_) (fun hn z s' I' rz => ?_)
    · cases q : dget (kvs.map fun p => keyD p.1) vs (keyD k) with
      | none => rw [g2 q] at hw; cases hw
      | some x =>
        obtain ⟨w', e2, rw'⟩ := g1 x q
        rw [hw] at e2
        cases e2
        exact h1 x w z s' q I' rw' rz
    · cases q : dget (kvs.map fun p => keyD p.1) vs (keyD k) with
      | some x => obtain ⟨w', e2, rw'⟩ := g1 x q; rw [hn] at e2; cases e2
      | none =>
        obtain ⟨p1, p2⟩ := dput_val (k := k) ry rl nd
        rw [dputV_new hl (fresh q)] at p2
        rw [dputK, if_neg (fresh q)] at p1
        exact h2 _ z s' q I' (.inl ⟨_, upd_same, p1.symm, p2⟩) rz
  | true =>
    obtain ⟨us, ws, T⟩ := td_of I r hu hD hk ht
    obtain ⟨b, rfl⟩ := tup_ref rd ht
    cases rv
    have nd : (us.map (·.1)).Nodup := by obtain ⟨_, _, _, _, _, _, _, _, nd⟩ := T.dd; exact nd
    obtain ⟨g1, g2⟩ := dget_at (keyFor_key hk) T.keys T.ok T.rep T.vals
    obtain ⟨ws', e1, e2, e3, e4, e5, e6, e7⟩ := dx_stored T (keyFor_key hk) ht rd ry ru nd
    have hul : us.length = ks.length := by have := congrArg List.length T.keys; rw [nkeys_length] at this; simpa using this
    have hz' : (storedH us (nkey d) b uy).length ≤ sizeLine := by have := szLine_eq; omega
    refine call_setdefault_heap (hsz := T.len) (knd := nestedKind X.prog X.w) (by show A.units + 1 + 8 < _; omega) ⟨nested_is I r.sub 8 d _ _ (keyFor_key hk) rd rfl, keyN_depth 8 _ (keyFor_key hk)⟩ T.sys T.dd (fun p hp => ?_) (fun hn h' dd hs => ?_)
    · cases q : dget ks vs d with
      | none => rw [g2 q] at hp; cases hp
      | some x =>
        obtain ⟨p', w, e9, rw', q'⟩ := g1 x q
        rw [hp] at e9
        cases e9
        exact h1 x w p.2 _ q (I.tok _) rw' q'
    · cases q : dget ks vs d with
      | some x => obtain ⟨p', w, e9, rw', q'⟩ := g1 x q; rw [hn] at e9; cases e9
      | none =>
        obtain ⟨o, I', c'⟩ := dx_write (t' := s.toks + (nestedKind X.prog X.w).draws (nkey d)) I c.mut hs dd T.sys hz' e1 e2 e3 e4 e5 e6
        rw [dputK, if_neg (fresh q), dputV_new hl (fresh q)] at c'
        exact h2 o _ _ q I' c' ru
end
end Dn
end
section
set_option Elab.async false
set_option linter.all false
set_option maxRecDepth 100000
set_option maxHeartbeats 4000000
/-! Dn9: comparisons, truth, len. Own work. -/
namespace Dn
open PySem PySem.Spec PyProof.Rows L2

def copOf : COp → CmpOp
  | .eq => .Eq | .ne => .NotEq | .lt => .Lt | .le => .LtE | .gt => .Gt | .ge => .GtE | .is_ => .Is | .isn => .IsNot | .in_ => .In | .nin => .NotIn
section
variable {X : Cx} {N : Nms}
theorem op_ordD {op : CmpOp} (ho : isOrd op = true) (hu : X.A.units + 17 < cLine) (hr : compareOp op = richCompare op) : OpR X (compareOp op) (rBB (Bo X N) fun a b _ => if a.ord 8 && b.ord 8 then cmpV op a b else none) := by
  intro pins s σ H x y v u Q I rx ry h
  obtain ⟨m, G, st, d1, d2, b, r, r1, r2, e, q⟩ := h
  simp only at e
  split at e
  · rename_i hb
    rw [Bool.and_eq_true] at hb
    rw [hr]
    exact rc_of I r ho 8 X.A d1 d2 x y v u b (by omega) hb.1 hb.2 e r1 r2 rx ry X.prog X.w X.xe _ ⟨.bl b, H, I, rfl, q⟩
  · cases e
theorem ltD_eq {a b : D} : ltD a b = if a.ord 8 && b.ord 8 then cmpV .Lt a b else none := rfl
theorem gtD_eq {a b : D} : ltD b a = if a.ord 8 && b.ord 8 then cmpV .Gt a b else none := by
  unfold ltD cmpV; rw [Bool.and_comm]
theorem leD_eq {a b : D} : (ltD b a).map not = if a.ord 8 && b.ord 8 then cmpV .LtE a b else none := by
  unfold ltD cmpV; rw [Bool.and_comm]; split <;> rfl
theorem geD_eq {a b : D} : (ltD a b).map not = if a.ord 8 && b.ord 8 then cmpV .GtE a b else none := by
  unfold ltD cmpV; split <;> rfl
theorem repV_not_non {B : Wo} {m : List Addr} {G : Hp} {d : D} {v : V} (h : repV B m G d v) : decide (v = .non) = decide (d = .non) := by
  cases d <;> rw [repV] at h <;> first | (subst h; simp; done) | (obtain ⟨_, _, rfl, _⟩ := h; simp; done) | (obtain ⟨_, rfl, _⟩ := h; simp; done) | (obtain ⟨_, _, _, rfl, _⟩ := h; simp; done)
theorem seqs_in {neg : Bool} (hu : X.A.units + 65 < cLine) : OpR X (compareOp (if neg then .NotIn else .In)) (fun x y H Q => ∃ m G st d e ds, RelS (Bo X N) m G H st ∧ repV (Bo X N) m G d x ∧ repV (Bo X N) m G e y ∧ (cellOf st e = .tup ds ∨ cellOf st e = .lst ds) ∧ d.dat datN = true ∧ D.datL datN ds = true ∧
    Q (.bl (if neg then !ds.any fun z => z.eqv d else ds.any fun z => z.eqv d)) H) := by
  intro pins s σ H x y v u Q I rx ry h
  obtain ⟨m, G, st, d, e, ds, r, r1, r2, c, h1, h2, q⟩ := h
  have e1 : (toPyL ds).any (fun z => PyData.eqv z (toPy d)) = ds.any fun z => z.eqv d := by
    clear q c r2
    induction ds with
    | nil => rfl
    | cons z zs ih =>
      rw [D.datL, Bool.and_eq_true] at h2
      rw [toPyL, List.any_cons, List.any_cons, ih h2.2, toPy_eqv _ _ _ h2.1 h1]
  have L1 := toPy_lay _ _ h1
  have L2 := toPyL_lay _ _ h2
  have hm : min (PyData.depthAll (toPyL ds)) (toPy d).depth ≤ datN := Nat.le_trans (Nat.min_le_right _ _) L1.2
  have hN : datN = 60 := rfl
  obtain ⟨bs, rb⟩ := Dp.reads I _ x v (dp_of r.sub _ _ _ h1 r1) rx
  rw [← e1] at q
  rcases c with c | c
  · obtain ⟨a, vs, rfl, ta, rl⟩ := tup_at r r2 c
    have hd : Dp X.K H (.ref a) (.tuple (toPyL ds)) := .tup ta.seq (dpL_of r.sub _ _ _ h2 rl)
    obtain ⟨as, ra⟩ := Dp.reads I _ _ u hd ry
    cases neg
    · exact SeqAt.in_tuple_reads ra rb L2.1 L1.1 (by omega) ⟨.bl _, H, I, rfl, q⟩
    · exact SeqAt.notIn_tuple_reads ra rb L2.1 L1.1 (by omega) ⟨.bl _, H, I, rfl, q⟩
  · obtain ⟨a, vs, rfl, ta, rl⟩ := list_at r r2 c
    have hd : Dp X.K H (.ref a) (.list (toPyL ds)) := .lst ta (dpL_of r.sub _ _ _ h2 rl)
    obtain ⟨as, ra⟩ := Dp.reads I _ _ u hd ry
    cases neg
    · exact SeqAt.in_list_reads ra rb L2.1 L1.1 (by omega) ⟨.bl _, H, I, rfl, q⟩
    · exact SeqAt.notIn_list_reads ra rb L2.1 L1.1 (by omega) ⟨.bl _, H, I, rfl, q⟩
theorem dics_in {neg : Bool} (hu : X.A.units + 65 < cLine) : OpR X (compareOp (if neg then .NotIn else .In)) (fun x y H Q => ∃ m G st d e ks vs, RelS (Bo X N) m G H st ∧ repV (Bo X N) m G d x ∧ repV (Bo X N) m G e y ∧ cellOf st e = .dic ks vs ∧ keyFor ks d = true ∧
    Q (.bl (if neg then !decide (d ∈ ks) else decide (d ∈ ks))) H) := by
  intro pins s σ H x y v u Q I rx ry h
  obtain ⟨m, G, st, d, e, ks, vs, r, r1, r2, c, hk, q⟩ := h
  obtain ⟨a, o, rfl, ha, hD⟩ := dic_at r r2 c
  cases ry
  cases neg
  · exact dic_in (by omega) I r ha hD hk r1 rx fun s' I' => ⟨.bl _, H, I', rfl, q⟩
  · exact dic_notIn (by omega) I r ha hD hk r1 rx fun s' I' => ⟨.bl _, H, I', rfl, q⟩
theorem op_inD {neg : Bool} (hu : X.A.units + 65 < cLine) : OpR X (compareOp (if neg then .NotIn else .In)) (rBB (Bo X N) fun a b st => if neg then (inD st a b).map not else inD st a b) := by
  refine OpR.imp ((seqs_in (N := N) (neg := neg) hu).or (dics_in (N := N) (neg := neg) hu)) fun x y H Q q => ?_
  obtain ⟨m, G, st, d, e, b, r, r1, r2, h, q⟩ := q
  have key : ∀ k, inD st d e = some k → Q (.bl (if neg then !k else k)) H → (∃ m G st d e ds, RelS (Bo X N) m G H st ∧ repV (Bo X N) m G d x ∧ repV (Bo X N) m G e y ∧ (cellOf st e = .tup ds ∨ cellOf st e = .lst ds) ∧ d.dat datN = true ∧ D.datL datN ds = true ∧
    Q (.bl (if neg then !ds.any fun z => z.eqv d else ds.any fun z => z.eqv d)) H) ∨ (∃ m G st d e ks vs, RelS (Bo X N) m G H st ∧ repV (Bo X N) m G d x ∧ repV (Bo X N) m G e y ∧ cellOf st e = .dic ks vs ∧ keyFor ks d = true ∧
    Q (.bl (if neg then !decide (d ∈ ks) else decide (d ∈ ks))) H) := fun k h q => by
    unfold inD at h
    split at h
    · rename_i ks vs c
      obtain ⟨hk, rfl⟩ := if_some h
      exact .inr ⟨m, G, st, d, e, ks, vs, r, r1, r2, c, hk, q⟩
    · rename_i xs c
      obtain ⟨hk, rfl⟩ := if_some h
      rw [Bool.and_eq_true] at hk
      exact .inl ⟨m, G, st, d, e, xs, r, r1, r2, .inl c, hk.1, hk.2, q⟩
    · rename_i xs c
      obtain ⟨hk, rfl⟩ := if_some h
      rw [Bool.and_eq_true] at hk
      exact .inl ⟨m, G, st, d, e, xs, r, r1, r2, .inr c, hk.1, hk.2, q⟩
    · cases h
  cases neg
  · exact key b h q
  · obtain ⟨k, h1, rfl⟩ := Option.map_eq_some_iff.mp h
    exact key k h1 q
/-- all comparisons but those by an own __eq__ -/
theorem op_cmpD (hu : X.A.units + 65 < cLine) (op : COp) : OpR X (compareOp (copOf op)) (rBB (Bo X N) (cmp op)) := by
  cases op with
  | eq => exact op_eqD' hu
  | ne => exact op_neD' hu
  | lt => exact op_ordD (op := .Lt) rfl (by omega) rfl
  | gt =>
    refine OpR.imp (op_ordD (N := N) (op := .Gt) rfl (by omega) rfl) fun x y H Q q => ?_
    obtain ⟨m, G, st, d, e, b, r, r1, r2, h, q⟩ := q
    exact ⟨m, G, st, d, e, b, r, r1, r2, gtD_eq.symm.trans h, q⟩
  | le =>
    refine OpR.imp (op_ordD (N := N) (op := .LtE) rfl (by omega) rfl) fun x y H Q q => ?_
    obtain ⟨m, G, st, d, e, b, r, r1, r2, h, q⟩ := q
    exact ⟨m, G, st, d, e, b, r, r1, r2, leD_eq.symm.trans h, q⟩
  | ge =>
    refine OpR.imp (op_ordD (N := N) (op := .GtE) rfl (by omega) rfl) fun x y H Q q => ?_
    obtain ⟨m, G, st, d, e, b, r, r1, r2, h, q⟩ := q
    exact ⟨m, G, st, d, e, b, r, r1, r2, geD_eq.symm.trans h, q⟩
  | is_ =>
    refine OpR.imp op_isN fun x y H Q q => ?_
    obtain ⟨m, G, st, d, e, b, r, r1, r2, h, q⟩ := q
    cases e <;> simp only [cmp] at h <;> cases h
    exact ⟨repV_non.mp r2, by rw [repV_not_non r1]; exact q⟩
  | isn =>
    refine OpR.imp op_notN fun x y H Q q => ?_
    obtain ⟨m, G, st, d, e, b, r, r1, r2, h, q⟩ := q
    cases e <;> simp only [cmp] at h <;> cases h
    exact ⟨repV_non.mp r2, by rw [repV_not_non r1]; exact q⟩
  | in_ => exact op_inD (neg := false) hu
  | nin => exact op_inD (neg := true) hu

/-! ### truth -/
theorem td_len {pins : List (Addr × Obj)} {σ : L2.St} {s : Shared} {m : List Addr} {G H : Hp} {st : Store} {ks vs : List D} {a : Addr} {u : HO} (I : Inv X pins σ H s) (r : RelS (Bo X N) m G H st) (hu : H a = some u) (hD : DicU (Bo X N) m G a u ks vs) {A : Around} {E : Value → Shared → Prop} {Q : Value → Shared → Prop}
    (h : ∀ t s', Inv X pins σ H s' → Q (.int (ks.length : Nat) t) s') : wpAny (model X.prog X.w) A (call (.builtin "len") [.ref a]) Q E s := by
  have hl := line63
  by_cases hk : ∃ kvs : List (Key × V), unlk u = .dK kvs ∧ ks = kvs.map (fun p => keyD p.1)
  · obtain ⟨kvs, e, rfl⟩ := hk
    have rd : Rd H a (.dK kvs) := by
      rcases unlk_dK e with rfl | ⟨o, rfl⟩
      · exact .inl hu
      · exact .inr ⟨o, hu⟩
    rw [List.length_map] at h
    exact d_len I rd h
  · rcases hD with ⟨kvs, e, ek, rl⟩ | hX
    · exact absurd ⟨kvs, e, ek⟩ hk
    · obtain ⟨xs, e, e2, hn, rk, hks, rv⟩ := id hX
      cases ks with
      | nil => exact absurd rfl hn
      | cons k ks =>
        obtain ⟨us, ws, T⟩ := td_of I r hu (.inr hX) (d := k) (by unfold keyFor; simp [(hks k List.mem_cons_self).2]) (hks k List.mem_cons_self).1
        have hul : us.length = (k :: ks).length := by have := congrArg List.length T.keys; rw [nkeys_length] at this; simpa using this
        have hz := T.len
        refine call_len_dictH T.sys T.dd (by omega) ?_
        rw [hul]
        exact h _ _ (I.tok _)
theorem tru_D : TruR X (fun x H Q => ∃ m G st d k, RelS (Bo X N) m G H st ∧ repV (Bo X N) m G d x ∧ truthy st d = some k ∧ Q k H) := by
  intro pins s σ H x v Q I rx h
  obtain ⟨m, G, st, d, k, r, rd, e, q⟩ := h
  refine tru_ok pins s σ H x v Q I rx ⟨k, ?_, q⟩
  unfold truthy at e
  have nr : ∀ c, cellOf st d = c → (∀ n, c ≠ .ref n) → c ≠ .non → (∀ xs, c ≠ .lst xs) → (∀ xs, c ≠ .tup xs) → (∀ ks vs, c ≠ .dic ks vs) → (∀ a b f, c ≠ .obj a b f) → d = c := fun c h h1 h2 h3 h4 h5 h6 => by
    cases d with
    | ref n =>
      obtain ⟨a, rfl, _, co⟩ := r.at rd (get_of_getD h h2)
      cases c <;> first | exact co.elim | skip
      · exact absurd rfl (h3 _)
      · exact absurd rfl (h5 _ _)
      · exact absurd rfl (h6 _ _ _)
    | _ => exact h
  split at e
  · rename_i c
    cases e
    have : d = .non ∨ ∃ n, d = .ref n := by cases d <;> first | (cases c; done) | exact .inl rfl | exact .inr ⟨_, rfl⟩
    rcases this with rfl | ⟨n, rfl⟩
    · rw [repV] at rd; subst rd; rfl
    · have c' : (st[n]?).getD .non = .non := c
      rw [repV] at rd
      obtain ⟨a, rfl, ha⟩ := rd
      have hn : n < st.length := by rw [← r.len]; exact (List.getElem?_eq_some_iff.mp ha).1
      rw [List.getElem?_eq_getElem hn] at c'
      have := r.cell n a st[n] ha (List.getElem?_eq_getElem hn)
      rw [show st[n] = .non from c'] at this
      exact this.elim
  · rename_i b c
    cases e
    obtain rfl := nr _ c (by simp) (by simp) (by simp) (by simp) (by simp) (by simp)
    rw [repV] at rd; subst rd; rfl
  · rename_i i c
    cases e
    obtain rfl := nr _ c (by simp) (by simp) (by simp) (by simp) (by simp) (by simp)
    rw [repV] at rd; subst rd; rfl
  · rename_i z c
    obtain ⟨hz, rfl⟩ := if_some e
    obtain rfl := nr _ c (by simp) (by simp) (by simp) (by simp) (by simp) (by simp)
    rw [repV] at rd; subst rd; exact ⟨szOk hz, rfl⟩
  · rename_i xs c
    cases e
    obtain ⟨a, vs, rfl, ta, rl⟩ := tup_at r rd c
    exact .inr (.inl ⟨vs, ta.seq, by rw [rl.isEmpty]⟩)
  · rename_i xs c
    cases e
    obtain ⟨a, vs, rfl, ta, rl⟩ := list_at r rd c
    exact .inl ⟨vs, ta, by rw [rl.isEmpty]⟩
  · cases e
end
end Dn
end
section
set_option Elab.async false
set_option linter.all false
set_option maxRecDepth 100000
set_option maxHeartbeats 4000000
/-! Dn10: expressions, one by one. Own work. -/
namespace Dn
open PySem PySem.Spec PyProof.Rows L2

section
variable {B : Wo} {W : WX} {σ : L2.St} {m : List Addr} {G H : Hp} {st : Store} {env : Env} {α : Type} {RR : α → Store → List Addr → Hp → Hp → Prop}
/-- the wish of an expression's exceptions -/
abbrev wx (W : WX) (σ : L2.St) : XK := fun c d H' => W c d σ H'
/-- first x, then f -/
theorem to_tD {x : Env → M D} {f : D → M α} {Q : VK} (rs : RelS B m G H st) (re : RelE B m G env σ) (p : Post B m G H (wx W σ) RR (bnd (x env) f st))
    (k : ∀ d st1 m1 G1 H1 v, RelS B m1 G1 H1 st1 → RelE B m1 G1 env σ → Ext m G H m1 G1 H1 → repV B m1 G1 d v → Post B m1 G1 H1 (wx W σ) RR (f d st1) → Q v H1) : tD B W x σ H Q :=
  ⟨m, G, st, env, rs, re, p.bnd.mono fun d st1 m1 G1 H1 x1 rs1 p1 v hv => k d st1 m1 G1 H1 v rs1 (re.ext x1) x1 hv p1⟩
theorem to_tDB {x : Env → M Bool} {f : Bool → M α} {Q : Bool → Hp → Prop} (rs : RelS B m G H st) (re : RelE B m G env σ) (p : Post B m G H (wx W σ) RR (bnd (x env) f st))
    (k : ∀ d st1 m1 G1 H1, RelS B m1 G1 H1 st1 → RelE B m1 G1 env σ → Ext m G H m1 G1 H1 → Post B m1 G1 H1 (wx W σ) RR (f d st1) → Q d H1) : tDB B W x σ H Q :=
  ⟨m, G, st, env, rs, re, p.bnd.mono fun d st1 m1 G1 H1 x1 rs1 p1 => k d st1 m1 G1 H1 rs1 (re.ext x1) x1 p1⟩
theorem to_tDA {x : Env → M (List D)} {f : List D → M α} {Q : List V → Hp → Prop} (rs : RelS B m G H st) (re : RelE B m G env σ) (p : Post B m G H (wx W σ) RR (bnd (x env) f st))
    (k : ∀ ds st1 m1 G1 H1 vs, RelS B m1 G1 H1 st1 → RelE B m1 G1 env σ → Ext m G H m1 G1 H1 → repL B m1 G1 ds vs → Post B m1 G1 H1 (wx W σ) RR (f ds st1) → Q vs H1) : tDA B W x σ H Q :=
  ⟨m, G, st, env, rs, re, p.bnd.mono fun d st1 m1 G1 H1 x1 rs1 p1 v hv => k d st1 m1 G1 H1 v rs1 (re.ext x1) x1 hv p1⟩
theorem bnd_ret {α : Type} (x : M α) : bnd x ret = x := by
  funext st; unfold bnd; cases x st <;> rfl
theorem bnd_assoc {α β γ : Type} (x : M α) (f : α → M β) (g : β → M γ) : bnd (bnd x f) g = bnd x fun a => bnd (f a) g := by
  funext st; unfold bnd; cases x st <;> rfl
theorem ret_bnd {α β : Type} (a : α) (f : α → M β) : bnd (ret a) f = f a := rfl
/-- an answer that leaves the store -/
theorem Post.ans {d : D} {X : XK} {Q : VK} {v : V} (rs : RelS B m G H st) (p : Post B m G H X (fun d _ m' G' H' => ∀ v, repV B m' G' d v → Q v H') (.ok d st)) (r : repV B m G d v) : Q v H := p.here rs v r
end

section
variable {X : Cx} {N : Nms} {W : WX} {a b c : Expr} {xa xb xc : Env → M D} {pos : Pos} {es : List Expr} {xs : Env → M (List D)}

theorem se_var {i : Nat} {x : Str} (hN : X.N[i]? = some x) (hv : Vis X.env.scope x) (hd : (x == ("__debug__" : Str)) = false) (hcd : (x == ("__classdict__" : Str)) = false) :
    SE X N W (.Name x pos) (fun env st => match env[i]? with
    | some (some d) => .ok d st
    | _ => .stk) := by
  refine PE.imp (pe_var hN hv hd hcd) fun σ H Q q => ?_
  obtain ⟨m, G, st, env, rs, re, p⟩ := q
  try dsimp only at p
  split at p
  · rename_i d e
    obtain ⟨v, e1, r⟩ := re.2 i d e
    exact ⟨v, e1, p.ans rs r⟩
  · exact p.elim
theorem tD_cst {B : Wo} {d : D} {v : V} {σ : L2.St} {H : Hp} {Q : VK} (h : ∀ m G, repV B m G d v) (q : tD B W (fun _ => ret d) σ H Q) : Q v H := by
  obtain ⟨m, G, st, env, rs, re, p⟩ := q
  try dsimp only at p
  exact p.ans rs (h m G)
theorem se_bin {op : BOp} (ha : SE X N W a xa) (hb : SE X N W b xb) : SE X N W (.BinOp a (opOf op) b pos) (fun env => bnd (xa env) fun x => bnd (xb env) fun y => fun st => match bin op x y st with
    | some z => .ok z st
    | none => .stk) := by
  refine PE.imp (pe_op (op_bin (N := N) op) ha hb) fun σ H Q q => ?_
  obtain ⟨m, G, st, env, rs, re, p⟩ := q
  try dsimp only at p
  refine to_tD rs re p fun x st1 m1 G1 H1 v rs1 re1 x1 hv p1 => to_tD rs1 re1 p1 fun y st2 m2 G2 H2 w rs2 re2 x2 hw p2 => ?_
  split at p2
  · rename_i z e
    exact ⟨m2, G2, st2, x, y, z, rs2, hv.mono x2.pre x2.g, hw, e, fun u m' G' H' xx rr ru => p2 m' G' H' xx rr u ru⟩
  · exact p2.elim
theorem se_neg (ha : SE X N W a xa) : SE X N W (.UnaryOp .USub a pos) (fun env => bnd (xa env) fun x => match x with
    | .int i => ret (.int (-i))
    | _ => stk) := by
  refine PE.imp (pe_un un_neg ha) fun σ H Q q => ?_
  obtain ⟨m, G, st, env, rs, re, p⟩ := q
  try dsimp only at p
  refine to_tD rs re p fun x st1 m1 G1 H1 v rs1 re1 x1 hv p1 => ?_
  split at p1
  · rename_i i
    exact ⟨i, repV_int.mp hv, p1.ans rs1 (repV_int.mpr rfl)⟩
  · exact p1.elim
theorem se_inv (ha : SE X N W a xa) : SE X N W (.UnaryOp .Invert a pos) (fun env => bnd (xa env) fun x => match x with
    | .int i => ret (.int (bitNot i))
    | _ => stk) := by
  refine PE.imp (pe_un un_inv ha) fun σ H Q q => ?_
  obtain ⟨m, G, st, env, rs, re, p⟩ := q
  try dsimp only at p
  refine to_tD rs re p fun x st1 m1 G1 H1 v rs1 re1 x1 hv p1 => ?_
  split at p1
  · rename_i i
    exact ⟨i, repV_int.mp hv, p1.ans rs1 (repV_int.mpr rfl)⟩
  · exact p1.elim
/-- a test by the value's truth -/
theorem st_plain (ha : SE X N W a xa) (he : ∀ whole, isTrue a X.env whole = (do let v ← whole; standAt a.pos; holding [v] (PySem.truthy v))) : ST X N W a (fun env => bnd (xa env) truM) := by
  refine ⟨fun pins s σ H Q I q => ?_⟩
  obtain ⟨m, G, st, env, rs, re, p⟩ := q
  try dsimp only at p
  refine isTrue_plain (thn (ha.run pins s σ H (fun v H1 => (∃ m G st d k, RelS (Bo X N) m G H1 st ∧ repV (Bo X N) m G d v ∧ truthy st d = some k ∧ Q k H1)) I ?_) fun v s1 ⟨x, H1, I1, r1, q1⟩ => tru_D pins s1 σ H1 x v Q I1 r1 q1) (he _)
  refine to_tD rs re p fun x st1 m1 G1 H1 v rs1 re1 x1 hv p1 => ?_
  unfold truM at p1
  cases e : truthy st1 x with
  | some k => rw [e] at p1; exact ⟨m1, G1, st1, x, k, rs1, hv, e, p1.here rs1⟩
  | none => rw [e] at p1; exact p1.elim
/-- a value's truth, behind it -/
theorem tru_run {B : Wo} {m : List Addr} {G H : Hp} {st : Store} {RR : Bool → Store → List Addr → Hp → Hp → Prop} {XX : XK} {x : D} (rs : RelS B m G H st) (p : Post B m G H XX RR (truM x st)) : ∃ k, truthy st x = some k ∧ RR k st m G H := by
  unfold truM at p
  cases e : truthy st x with
  | some k => rw [e] at p; exact ⟨k, rfl, p.here rs⟩
  | none => rw [e] at p; exact p.elim
theorem se_not {xt : Env → M Bool} (ha : ST X N W a xt) (hv : SE X N W a xa) (e : ∀ env, xt env = bnd (xa env) truM) : SE X N W (.UnaryOp .Not a pos) (fun env => bnd (xt env) fun b => ret (.bl (!b))) := by
  refine ⟨fun pins s σ H Q I q => ?_⟩
  obtain ⟨m, G, st, env, rs, re, p⟩ := q
  try dsimp only at p
  rw [e, bnd_assoc] at p
  refine UnaryOp_ (thn (hv.run pins s σ H (fun v H1 => (∃ m G st d k, RelS (Bo X N) m G H1 st ∧ repV (Bo X N) m G d v ∧ truthy st d = some k ∧ Q (.bl (!k)) H1)) I ?_) fun v s1 ⟨x, H1, I1, r1, m2, G2, st2, d2, k2, c1, c2, c3, c4⟩ =>
    not_of (thn (tru_D (N := N) pins s1 σ H1 x v (fun c H' => Q (.bl (!c)) H') I1 r1 ⟨m2, G2, st2, d2, k2, c1, c2, c3, c4⟩) fun c s' ⟨H', I', q'⟩ => ⟨.bl (!c), H', I', rfl, q'⟩))
  refine to_tD rs re p fun x st1 m1 G1 H1 v rs1 re1 x1 hv p1 => ?_
  obtain ⟨k, e, p2⟩ := tru_run rs1 p1.bnd
  exact ⟨m1, G1, st1, x, k, rs1, hv, e, p2.ans rs1 (repV_bl.mpr rfl)⟩
theorem st_not {xt : Env → M Bool} (ha : ST X N W a xt) : ST X N W (.UnaryOp .Not a pos) (fun env => bnd (bnd (xt env) fun b => ret (.bl (!b))) truM) := by
  refine PT.imp (pt_not ha) fun σ H Q q => ?_
  obtain ⟨m, G, st, env, rs, re, p⟩ := q
  try dsimp only at p
  rw [bnd_assoc] at p
  exact to_tDB rs re p fun k st1 m1 G1 H1 rs1 re1 x1 p1 => Post.here rs1 p1
theorem se_ite {xt : Env → M Bool} (hc : ST X N W c xt) (ha : SE X N W a xa) (hb : SE X N W b xb) : SE X N W (.IfExp c a b pos) (fun env => bnd (xt env) fun k => if k then xa env else xb env) := by
  refine PE.imp (pe_ifExp hc ha hb) fun σ H Q q => ?_
  obtain ⟨m, G, st, env, rs, re, p⟩ := q
  try dsimp only at p
  refine to_tDB rs re p fun k st1 m1 G1 H1 rs1 re1 x1 p1 => ?_
  cases k with
  | true => rw [if_pos rfl]; exact ⟨m1, G1, st1, env, rs1, re1, p1⟩
  | false => rw [if_neg Bool.false_ne_true]; exact ⟨m1, G1, st1, env, rs1, re1, p1⟩
/-! ### and, or -/
theorem se_and1 {op} (ha : SE X N W a xa) : SE X N W (.BoolOp op [a] pos) xa := pe_one ha
theorem se_andC {rest : List Expr} {xr : Env → M D} (ha : SE X N W a xa) (hr : SE X N W (.BoolOp .And (b :: rest) pos) xr) : SE X N W (.BoolOp .And (a :: b :: rest) pos) (fun env => bnd (xa env) fun x => bnd (truM x) fun k => if k then xr env else ret x) := by
  refine ⟨fun pins s σ H Q I q => ?_⟩
  obtain ⟨m, G, st, env, rs, re, p⟩ := q
  try dsimp only at p
  refine BoolOp_and (thn (ha.run pins s σ H (fun v H1 => ∃ m G st d, RelS (Bo X N) m G H1 st ∧ RelE (Bo X N) m G env σ ∧ repV (Bo X N) m G d v ∧ Post (Bo X N) m G H1 (wx W σ) (fun d _ m' G' H' => ∀ v, repV (Bo X N) m' G' d v → Q v H') (bnd (truM d) (fun k => if k then xr env else ret d) st)) I ?_) fun v s1 ⟨x, H1, I1, r1, m2, G2, st2, d2, c1, c2, c3, c4⟩ => ?_)
  · exact to_tD rs re p fun x st1 m1 G1 H1 v rs1 re1 x1 hv p1 => ⟨m1, G1, st1, x, rs1, re1, hv, p1⟩
  · obtain ⟨k, e, p2⟩ := tru_run c1 c4.bnd
    refine thn (tru_D (N := N) pins s1 σ H1 x v (fun c H' => c = k ∧ H' = H1) I1 r1 ⟨m2, G2, st2, d2, k, c1, c3, e, rfl, rfl⟩) fun c s' ⟨H', I', q1, q2⟩ => ?_
    subst q1 q2
    cases c with
    | true => rw [if_pos rfl]; exact hr.run pins s' σ H' Q I' ⟨m2, G2, st2, env, c1, c2, p2⟩
    | false => rw [if_neg Bool.false_ne_true]; exact ⟨x, H', I', r1, p2.ans c1 c3⟩
theorem se_orC {rest : List Expr} {xr : Env → M D} (ha : SE X N W a xa) (hr : SE X N W (.BoolOp .Or (b :: rest) pos) xr) : SE X N W (.BoolOp .Or (a :: b :: rest) pos) (fun env => bnd (xa env) fun x => bnd (truM x) fun k => if k then ret x else xr env) := by
  refine ⟨fun pins s σ H Q I q => ?_⟩
  obtain ⟨m, G, st, env, rs, re, p⟩ := q
  try dsimp only at p
  refine BoolOp_or (thn (ha.run pins s σ H (fun v H1 => ∃ m G st d, RelS (Bo X N) m G H1 st ∧ RelE (Bo X N) m G env σ ∧ repV (Bo X N) m G d v ∧ Post (Bo X N) m G H1 (wx W σ) (fun d _ m' G' H' => ∀ v, repV (Bo X N) m' G' d v → Q v H') (bnd (truM d) (fun k => if k then ret d else xr env) st)) I ?_) fun v s1 ⟨x, H1, I1, r1, m2, G2, st2, d2, c1, c2, c3, c4⟩ => ?_)
  · exact to_tD rs re p fun x st1 m1 G1 H1 v rs1 re1 x1 hv p1 => ⟨m1, G1, st1, x, rs1, re1, hv, p1⟩
  · obtain ⟨k, e, p2⟩ := tru_run c1 c4.bnd
    refine thn (tru_D (N := N) pins s1 σ H1 x v (fun c H' => c = k ∧ H' = H1) I1 r1 ⟨m2, G2, st2, d2, k, c1, c3, e, rfl, rfl⟩) fun c s' ⟨H', I', q1, q2⟩ => ?_
    subst q1 q2
    cases c with
    | true => rw [if_pos rfl]; exact ⟨x, H', I', r1, p2.ans c1 c3⟩
    | false => rw [if_neg Bool.false_ne_true]; exact hr.run pins s' σ H' Q I' ⟨m2, G2, st2, env, c1, c2, p2⟩
/-- as a test, whatever the whole is -/
abbrev SW (X : Cx) (N : Nms) (W : WX) (e : Expr) (x : Env → M Bool) : Prop := PW X e (tDB (Bo X N) W x)
theorem tru_twice {x : D} {f : Bool → M D} (h : ∀ st, truthy st x = some false → f false st = .ok x st) : bnd (bnd (truM x) f) truM = bnd (truM x) fun k => if k then bnd (f true) truM else ret false := by
  funext st
  unfold bnd truM
  cases e : truthy st x with
  | none => rfl
  | some k =>
    cases k with
    | true => rfl
    | false => simp only [h st e, e]; rfl
theorem tru_twice' {x : D} {f : Bool → M D} (h : ∀ st, truthy st x = some true → f true st = .ok x st) : bnd (bnd (truM x) f) truM = bnd (truM x) fun k => if k then ret true else bnd (f false) truM := by
  funext st
  unfold bnd truM
  cases e : truthy st x with
  | none => rfl
  | some k =>
    cases k with
    | false => rfl
    | true => simp only [h st e, e]; rfl
theorem sw_and1 {xt : Env → M Bool} (ha : ST X N W a xt) : SW X N W (.BoolOp .And [a] pos) xt := pw_and1 ha
theorem sw_or1 {xt : Env → M Bool} (ha : ST X N W a xt) : SW X N W (.BoolOp .Or [a] pos) xt := pw_or1 ha
theorem sw_andC {rest : List Expr} {xr : Env → M D} (ha : ST X N W a fun env => bnd (xa env) truM) (hr : SW X N W (.BoolOp .And (b :: rest) pos) fun env => bnd (xr env) truM) :
    SW X N W (.BoolOp .And (a :: b :: rest) pos) (fun env => bnd (bnd (xa env) fun x => bnd (truM x) fun k => if k then xr env else ret x) truM) := by
  refine ⟨fun wh pins s σ H Q I q => (pw_and ha hr).run wh pins s σ H Q I ?_⟩
  obtain ⟨m, G, st, env, rs, re, p⟩ := q
  try dsimp only at p
  have e : (bnd (bnd (xa env) fun x => bnd (truM x) fun k => if k then xr env else ret x) truM) = bnd (bnd (xa env) truM) fun k => if k then bnd (xr env) truM else ret false := by
    rw [bnd_assoc, bnd_assoc]
    congr 1
    funext x
    exact tru_twice fun st _ => rfl
  rw [e] at p
  refine to_tDB rs re p fun k st1 m1 G1 H1 rs1 re1 x1 p1 => ?_
  cases k with
  | true => rw [if_pos rfl]; exact ⟨m1, G1, st1, env, rs1, re1, p1⟩
  | false => rw [if_neg Bool.false_ne_true]; exact Post.here rs1 p1
theorem sw_orC {rest : List Expr} {xr : Env → M D} (ha : ST X N W a fun env => bnd (xa env) truM) (hr : SW X N W (.BoolOp .Or (b :: rest) pos) fun env => bnd (xr env) truM) :
    SW X N W (.BoolOp .Or (a :: b :: rest) pos) (fun env => bnd (bnd (xa env) fun x => bnd (truM x) fun k => if k then ret x else xr env) truM) := by
  refine ⟨fun wh pins s σ H Q I q => (pw_or ha hr).run wh pins s σ H Q I ?_⟩
  obtain ⟨m, G, st, env, rs, re, p⟩ := q
  try dsimp only at p
  have e : (bnd (bnd (xa env) fun x => bnd (truM x) fun k => if k then ret x else xr env) truM) = bnd (bnd (xa env) truM) fun k => if k then ret true else bnd (xr env) truM := by
    rw [bnd_assoc, bnd_assoc]
    congr 1
    funext x
    exact tru_twice' fun st _ => rfl
  rw [e] at p
  refine to_tDB rs re p fun k st1 m1 G1 H1 rs1 re1 x1 p1 => ?_
  cases k with
  | true => rw [if_pos rfl]; exact Post.here rs1 p1
  | false => rw [if_neg Bool.false_ne_true]; exact ⟨m1, G1, st1, env, rs1, re1, p1⟩
end
end Dn
end
section
set_option Elab.async false
set_option linter.all false
set_option maxRecDepth 100000
set_option maxHeartbeats 4000000
/-! Dn11: comparisons, subscripts, slices, displays, fields. Own work. -/
namespace Dn
open PySem PySem.Spec PyProof.Rows L2

/-- no error, whatever is wished of errors -/
theorem Post.calm' {α : Type} {B : Wo} {m : List Addr} {G H : Hp} {X X' : XK} {R : α → Store → List Addr → Hp → Hp → Prop} {x : M α} {st : Store} (h : Post B m G H X R (calm x st)) : Post B m G H X' R (calm x st) := by
  unfold calm at h ⊢
  cases e : x st with
  | ok a st' => rw [e] at h; exact h
  | exc c vs st' => rw [e] at h; exact h.elim
  | stk => rw [e] at h; exact h.elim
/-- a thing of two values, run on the store -/
def rM2 (B : Wo) (f : D → D → M D) : R2 := fun x y H Q => ∃ m G st d1 d2, RelS B m G H st ∧ repV B m G d1 x ∧ repV B m G d2 y ∧ Post B m G H (fun _ _ _ => False) (fun d _ m' G' H' => ∀ v, repV B m' G' d v → Q v H') (f d1 d2 st)
/-- of a list of values -/
def rMA (B : Wo) (f : List D → M D) : List V → Hp → VK → Prop := fun xs H Q => ∃ m G st ds, RelS B m G H st ∧ repL B m G ds xs ∧ Post B m G H (fun _ _ _ => False) (fun d _ m' G' H' => ∀ v, repV B m' G' d v → Q v H') (f ds st)
/-- errors never come -/
def Quiet {α : Type} (x : M α) : Prop := ∀ st c vs st', x st ≠ .exc c vs st'
theorem Post.quiet {α : Type} {B : Wo} {m : List Addr} {G H : Hp} {X X' : XK} {R : α → Store → List Addr → Hp → Hp → Prop} {x : M α} {st : Store} (hq : Quiet x) (h : Post B m G H X R (x st)) : Post B m G H X' R (x st) := by
  cases e : x st with
  | ok a st' => rw [e] at h; exact h
  | exc c vs st' => exact absurd e (hq st c vs st')
  | stk => rw [e] at h; exact h.elim
theorem quiet_calm {α : Type} (x : M α) : Quiet (calm x) := fun st c vs st' h => by
  unfold calm at h
  cases e : x st <;> rw [e] at h <;> cases h
theorem quiet_opt {α : Type} (f : Store → Option α) : Quiet (fun st => match f st with
    | some z => Res.ok z st
    | none => .stk) := fun st c vs st' h => by
  cases e : f st <;> simp [e] at h
section
variable {X : Cx} {N : Nms} {W : WX} {a b c : Expr} {xa xb xc : Env → M D} {pos : Pos} {es : List Expr} {xs : Env → M (List D)}
theorem se_cmp {op : CmpOp} {f : D → D → M D} (ho : OpR X (compareOp op) (rM2 (Bo X N) f)) (hf : ∀ x y, Quiet (f x y)) (ha : SE X N W a xa) (hb : SE X N W b xb) (hm : behindInMarks op b = false) :
    SE X N W (.Compare a [op] [b] pos) (fun env => bnd (xa env) fun x => bnd (xb env) fun y => f x y) := by
  refine PE.imp (pe_cmpR ho ha hb hm) fun σ H Q q => ?_
  obtain ⟨m, G, st, env, rs, re, p⟩ := q
  refine to_tD rs re p fun x st1 m1 G1 H1 v rs1 re1 x1 hv p1 => to_tD rs1 re1 p1 fun y st2 m2 G2 H2 w rs2 re2 x2 hw p2 => ?_
  exact ⟨m2, G2, st2, x, y, rs2, hv.mono x2.pre x2.g, hw, p2.quiet (hf x y)⟩
/-- the value of f is a bool or none -/
def Tells (f : D → D → M D) : Prop := ∀ x y st d st', f x y st = .ok d st' → ∃ k, d = .bl k
theorem bool_of {B : Wo} {m : List Addr} {G H : Hp} {RR : Bool → Store → List Addr → Hp → Hp → Prop} {XX : XK} {x : M D} {st : Store} (ht : ∀ d st', x st = .ok d st' → ∃ k, d = .bl k) (p : Post B m G H XX RR (bnd x truM st)) :
    Post B m G H XX (fun d st' m' G' H' => ∃ k, d = .bl k ∧ RR k st' m' G' H') (x st) := by
  have p2 := p.bnd
  cases e : x st with
  | ok d st' =>
    obtain ⟨k, rfl⟩ := ht d st' e
    rw [e] at p2
    exact fun m' G' H' xx rr => ⟨k, rfl, (p2 m' G' H' xx rr).here rr⟩
  | exc c vs st' => rw [e] at p2; exact p2
  | stk => rw [e] at p2; exact p2
theorem st_cmp {op : CmpOp} {f : D → D → M D} (ho : OpR X (compareOp op) (rM2 (Bo X N) f)) (hf : ∀ x y, Quiet (f x y)) (ht : Tells f) (ha : SE X N W a xa) (hb : SE X N W b xb) (hm : behindInMarks op b = false) :
    ST X N W (.Compare a [op] [b] pos) (fun env => bnd (bnd (xa env) fun x => bnd (xb env) fun y => f x y) truM) := by
  refine PT.imp (pt_cmpR ho ha hb hm) fun σ H Q q => ?_
  obtain ⟨m, G, st, env, rs, re, p⟩ := q
  simp only [bnd_assoc] at p
  refine to_tD rs re p fun x st1 m1 G1 H1 v rs1 re1 x1 hv p1 => to_tD rs1 re1 p1 fun y st2 m2 G2 H2 w rs2 re2 x2 hw p2 => ?_
  refine ⟨m2, G2, st2, x, y, rs2, hv.mono x2.pre x2.g, hw, Post.quiet (hf x y) ((bool_of (ht x y st2) p2).mono fun d st' m' G' H' xx rr ⟨k, e, q⟩ v' hv' => ?_)⟩
  subst e
  exact ⟨k, repV_bl.mp hv', q⟩
theorem se_cmp2 {op op' : CmpOp} {f f' : D → D → M D} (ho : OpR X (compareOp op) (rM2 (Bo X N) f)) (ho' : OpR X (compareOp op') (rM2 (Bo X N) f')) (hf : ∀ x y, Quiet (f x y)) (hf' : ∀ x y, Quiet (f' x y)) (ha : SE X N W a xa) (hb : SE X N W b xb) (hc : SE X N W c xc)
    (hm : lastMarks [op, op'] [b, c] = false) : SE X N W (.Compare a [op, op'] [b, c] pos) (fun env => bnd (xa env) fun x => bnd (xb env) fun y => bnd (f x y) fun r => match r with
    | .bl true => bnd (xc env) fun z => f' y z
    | .bl false => ret (.bl false)
    | _ => stk) := by
  refine PE.imp (pe_chain ho ho' ha hb hc hm) fun σ H Q q => ?_
  obtain ⟨m, G, st, env, rs, re, p⟩ := q
  refine to_tD rs re p fun x st1 m1 G1 H1 v rs1 re1 x1 hv p1 => to_tD rs1 re1 p1 fun y st2 m2 G2 H2 w rs2 re2 x2 hw p2 => ?_
  refine ⟨m2, G2, st2, x, y, rs2, hv.mono x2.pre x2.g, hw, Post.quiet (hf x y) (p2.bnd.mono fun d st3 m3 G3 H3 x3 rs3 p3 v' hv' => ?_)⟩
  split at p3
  · refine ⟨true, repV_bl.mp hv', ?_⟩
    rw [if_pos rfl]
    refine to_tD rs3 (re2.ext x3) p3 fun z st4 m4 G4 H4 u rs4 re4 x4 hu p4 => ?_
    exact ⟨m4, G4, st4, y, z, rs4, (hw.mono x3.pre x3.g).mono x4.pre x4.g, hu, p4.quiet (hf' y z)⟩
  · exact ⟨false, repV_bl.mp hv', by rw [if_neg Bool.false_ne_true]; exact p3.ans rs3 (repV_bl.mpr rfl)⟩
  · exact p3.elim
theorem st_cmp2 {op op' : CmpOp} {f f' : D → D → M D} (ho : OpR X (compareOp op) (rM2 (Bo X N) f)) (ho' : OpR X (compareOp op') (rM2 (Bo X N) f')) (hf : ∀ x y, Quiet (f x y)) (hf' : ∀ x y, Quiet (f' x y)) (ht' : Tells f') (ha : SE X N W a xa) (hb : SE X N W b xb) (hc : SE X N W c xc)
    (hm : lastMarks [op, op'] [b, c] = false) : ST X N W (.Compare a [op, op'] [b, c] pos) (fun env => bnd (bnd (xa env) fun x => bnd (xb env) fun y => bnd (f x y) fun r => match r with
    | .bl true => bnd (xc env) fun z => f' y z
    | .bl false => ret (.bl false)
    | _ => stk) truM) := by
  refine PT.imp (pt_chain ho ho' ha hb hc hm) fun σ H Q q => ?_
  obtain ⟨m, G, st, env, rs, re, p⟩ := q
  simp only [bnd_assoc] at p
  refine to_tD rs re p fun x st1 m1 G1 H1 v rs1 re1 x1 hv p1 => to_tD rs1 re1 p1 fun y st2 m2 G2 H2 w rs2 re2 x2 hw p2 => ?_
  refine ⟨m2, G2, st2, x, y, rs2, hv.mono x2.pre x2.g, hw, Post.quiet (hf x y) (p2.bnd.mono fun d st3 m3 G3 H3 x3 rs3 p3 v' hv' => ?_)⟩
  split at p3
  · refine ⟨true, repV_bl.mp hv', ?_⟩
    rw [if_pos rfl]
    rw [bnd_assoc] at p3
    refine to_tD rs3 (re2.ext x3) p3 fun z st4 m4 G4 H4 u rs4 re4 x4 hu p4 => ?_
    refine ⟨m4, G4, st4, y, z, rs4, (hw.mono x3.pre x3.g).mono x4.pre x4.g, hu, Post.quiet (hf' y z) ((bool_of (ht' y z st4) p4).mono fun d st' m' G' H' xx rr ⟨k, e, q⟩ v' hv' => ?_)⟩
    subst e
    exact ⟨k, repV_bl.mp hv', q⟩
  · refine ⟨false, repV_bl.mp hv', ?_⟩
    rw [if_neg Bool.false_ne_true]
    exact ⟨false, rfl, Post.here rs3 p3⟩
  · exact p3.elim
/-! ### subscripts -/
theorem dic_type {pins : List (Addr × Obj)} {σ : L2.St} {s : Shared} {m : List Addr} {G H : Hp} {st : Store} {ks vs : List D} {a : Addr} {u : HO} (I : Inv X pins σ H s) (r : RelS (Bo X N) m G H st) (hu : H a = some u) (hD : DicU (Bo X N) m G a u ks vs) :
    s.TypeIs (.ref a) "dict" ∧ (∀ b, Value.ref a = .ref b → ∃ ob, s.heap.get? b = some ob ∧ ob.dict = none) := by
  have key : ∃ o, s.heap.get? a = some o ∧ o.ExactDict := by
    rcases hD with ⟨kvs, e, ek, rl⟩ | hX
    · have rd : Rd H a (.dK kvs) := by
        rcases unlk_dK e with rfl | ⟨o, rfl⟩
        · exact .inl hu
        · exact .inr ⟨o, hu⟩
      obtain ⟨_, _, vs', _, o, _, _, h1, h2, _⟩ := dk_rd I.hok rd
      exact ⟨o, h1, h2⟩
    · obtain ⟨xs, e, e2, hn, rk, hks, rv⟩ := id hX
      cases ks with
      | nil => exact absurd rfl hn
      | cons k ks =>
        obtain ⟨us, ws, T⟩ := td_of I r hu (.inr hX) (d := k) (by unfold keyFor; simp [(hks k List.mem_cons_self).2]) (hks k List.mem_cons_self).1
        obtain ⟨o, _, _, h1, h2, _⟩ := T.dd
        exact ⟨o, h1, h2⟩
  obtain ⟨o, h1, h2⟩ := key
  refine ⟨⟨o, h1, h2.1⟩, fun b e => ?_⟩
  cases e
  exact ⟨o, h1, h2.2.1⟩
theorem ix_atI {α : Type} {xs : List α} {k : Int} : (ix xs.length k).bind (fun j => xs[j]?) = atI xs k := rfl
theorem repL.atI {B : Wo} {m : List Addr} {G : Hp} {ds : List D} {vs : List V} {k : Int} {d : D} (r : repL B m G ds vs) (h : L2.atI ds k = some d) : ∃ v, L2.atI vs k = some v ∧ repV B m G d v := by
  unfold L2.atI at h ⊢
  rw [r.length]
  cases e : L2.ixN ds.length k with
  | none => rw [e] at h; cases h
  | some j => rw [e] at h; exact r.get h
theorem ix_D (hu : X.A.units + 10 < cLine) : IxR X (rB (Bo X N) getIdx) := by
  intro value slice pins s σ H x y v u Q I rx ry h hs
  obtain ⟨m, G, st, d1, d2, z, r, r1, r2, e, q⟩ := h
  have fin : ∀ w, repV (Bo X N) m G z w → Q w H := fun w hw => q w m G H (.refl ..) r hw
  unfold getIdx at e
  split at e
  · rename_i xs k c
    obtain ⟨a, vs, rfl, ta, rl⟩ := tup_at r r1 c
    rw [ix_atI] at e
    obtain ⟨w, e2, hw⟩ := rl.atI e
    exact ix_tup value slice pins s σ H _ _ v u Q I rx ry ⟨a, vs, k, w, rfl, repV_int.mp r2, ta.seq, e2, fin w hw⟩ hs
  · rename_i xs k c
    obtain ⟨a, vs, rfl, ta, rl⟩ := list_at r r1 c
    rw [ix_atI] at e
    obtain ⟨w, e2, hw⟩ := rl.atI e
    exact ix_list value slice pins s σ H _ _ v u Q I rx ry ⟨a, vs, k, w, rfl, repV_int.mp r2, ta, e2, fin w hw⟩ hs
  · rename_i ks vs c
    split at e
    · rename_i hk
      obtain ⟨a, o, rfl, ha, hD⟩ := dic_at r r1 c
      cases rx
      exact tail_any (dic_type I r ha hD).1 PySem.F.slot_dict_getitem.lookup (dic_get (by omega) I r ha hD hk r2 ry e fun w z' s' I' hw rz => ⟨w, H, I', rz, fin w hw⟩) hs
    · cases e
  · cases e
theorem se_idx (hu : X.A.units + 10 < cLine) (ha : SE X N W a xa) (hb : SE X N W b xb) (hs : PlainIx b) : SE X N W (.Subscript a b pos) (fun env => bnd (xa env) fun x => bnd (xb env) fun y => fun st => match getIdx x y st with
    | some z => .ok z st
    | none => .stk) := by
  refine PE.imp (pe_ix (ix_D (N := N) hu) ha hb hs) fun σ H Q q => ?_
  obtain ⟨m, G, st, env, rs, re, p⟩ := q
  refine to_tD rs re p fun x st1 m1 G1 H1 v rs1 re1 x1 hv p1 => to_tD rs1 re1 p1 fun y st2 m2 G2 H2 w rs2 re2 x2 hw p2 => ?_
  cases e : getIdx x y st2 with
  | some z => simp only [e] at p2; exact ⟨m2, G2, st2, x, y, z, rs2, hv.mono x2.pre x2.g, hw, e, fun u m' G' H' xx rr ru => p2 m' G' H' xx rr u ru⟩
  | none => simp only [e] at p2; exact p2.elim
/-! ### displays -/
theorem sa_nil : SA X N W [] (fun _ => ret []) := PA.imp pa_nil fun σ H Q q => by
  obtain ⟨m, G, st, env, rs, re, p⟩ := q
  exact Post.here rs p [] .nil'
theorem star_cons {e : Expr} {es : List Expr} {env : PySem.Env} (h : (match e with
    | .Starred _ _ => false
    | _ => true) = true) : starEach (e :: es) env = (false, eval e env) :: starEach es env := by
  cases e <;> first | (cases h; done) | rfl
def noStar : Expr → Bool
  | .Starred _ _ => false
  | _ => true
theorem star_consN {e : Expr} {es : List Expr} {env : PySem.Env} (h : noStar e = true) : starEach (e :: es) env = (false, eval e env) :: starEach es env := by
  cases e <;> first | (cases h; done) | rfl
theorem star_plain {pos : Pos} {env : PySem.Env} : ∀ {es : List Expr}, es.all noStar = true → (backTo pos (starEach es env)).any (·.1) = false ∧ (backTo pos (starEach es env)).all (fun x => !x.1) = true
  | [], _ => ⟨rfl, rfl⟩
  | e :: es, h => by
    rw [List.all_cons, Bool.and_eq_true] at h
    obtain ⟨h1, h2⟩ := star_plain (pos := pos) (env := env) h.2
    rw [star_consN h.1]
    unfold backTo at h1 h2 ⊢
    rw [List.map_cons, List.any_cons, List.all_cons, h1, h2]
    exact ⟨rfl, rfl⟩
theorem sa_cons {e : Expr} {x : Env → M D} (ha : SE X N W e x) (hr : SA X N W es xs) (hs : noStar e = true) : SA X N W (e :: es) (fun env => bnd (x env) fun y => bnd (xs env) fun ys => ret (y :: ys)) := by
  refine PA.imp (pa_cons ha hr (star_consN hs)) fun σ H Q q => ?_
  obtain ⟨m, G, st, env, rs, re, p⟩ := q
  refine to_tD rs re p fun x st1 m1 G1 H1 v rs1 re1 x1 hv p1 => to_tDA rs1 re1 p1 fun ys st2 m2 G2 H2 vs rs2 re2 x2 hvs p2 => ?_
  exact Post.here rs2 p2 _ (.cons' (hv.mono x2.pre x2.g) hvs)
theorem se_tup {x1} (h : SA X N W es xs) (hz : es.length ≤ 1000) (hl : ∀ env st ys st', xs env st = .ok ys st' → ys.length = es.length) : SE X N W (.Tuple es x1 pos) (fun env => bnd (xs env) fun ys => ret (.tup ys)) := by
  refine ⟨fun pins s σ H Q I q => ?_⟩
  obtain ⟨m, G, st, env, rs, re, p⟩ := q
  refine wpAny_Tuple_spliced (thn (h.run pos pins s σ H (fun vs H1 => NewT X vs Q H1) I ?_) fun us s1 ⟨vs, H1, I1, r, n⟩ => ⟨by rw [← r.length]; exact n.1, n.run I1 r⟩)
  refine ⟨m, G, st, env, rs, re, ?_⟩
  have p2 := p.bnd
  cases e : xs env st with
  | ok ys st' =>
    rw [e] at p2
    intro m' G' H' xx rr vs hvs
    refine NewT.of rr hvs (by rw [hl _ _ _ _ e, sizeLine_eq]; omega) fun v m2 G2 H2 x2 r2 hv => ?_
    exact p2 m' G' H' xx rr m2 G2 H2 x2 r2 v hv
  | exc c vs st' => rw [e] at p2; exact p2
  | stk => rw [e] at p2; exact p2
end
end Dn
end
section
set_option Elab.async false
set_option linter.all false
set_option maxRecDepth 100000
set_option maxHeartbeats 4000000
/-! Dn12: new objects: kept still, or laid into the store. Own work. -/
namespace Dn
open PySem PySem.Spec PyProof.Rows L2

/-- without the thing at p -/
def dl (H : Hp) (p : Addr) : Hp := fun b => if b = p then none else H b
theorem dl_same {H : Hp} {p : Addr} : dl H p p = none := if_pos rfl
theorem dl_ne {H : Hp} {p b : Addr} (h : b ≠ p) : dl H p b = H b := if_neg h
theorem dl_upd {H : Hp} {p : Addr} {o : HO} (h : H p = some o) : H = upd (dl H p) p o := by
  funext b
  by_cases e : b = p
  · subst e; rw [upd_same, h]
  · rw [upd_ne e, dl_ne e]
section
variable {B : Wo} {m m2 : List Addr} {G G2 H H2 : Hp} {st st2 : Store} {p : Addr} {o : HO}
/-- a loose object lies by while something runs -/
theorem Ext.under (ho : ∀ fs, o ≠ .xd fs) (hp : H p = none) (r : RelS B m G H st) (x : Ext m G (upd H p o) m2 G2 H2) (r2 : RelS B m2 G2 H2 st2) :
    Ext m G H m2 G2 (dl H2 p) ∧ RelS B m2 G2 (dl H2 p) st2 ∧ H2 = upd (dl H2 p) p o := by
  obtain ⟨n1, n2⟩ := r.new hp
  have hp2 : H2 p = some o := x.fr p o upd_same n1
  have nm2 : p ∉ m2 := fun h => by
    rcases x.nm p h with z | z
    · exact n1 z
    · rw [upd_same] at z; cases z
  have ng2 : G2 p = none := by
    cases q : G2 p with
    | none => rfl
    | some u =>
      rcases x.ng p u q with ⟨o', z⟩ | z | ⟨fs, z⟩
      · rw [n2] at z; cases z
      · rw [upd_same] at z; cases z
      · rw [upd_same] at z; cases z; exact absurd rfl (ho fs)
  have ne : ∀ {a u}, H a = some u → a ≠ p := fun h e => by subst e; rw [hp] at h; cases h
  refine ⟨⟨x.pre, x.g, fun a u h n => ?_, fun a u h => ?_, fun a h => ?_, fun a u h => ?_, fun a fs h => ?_⟩, ⟨fun a u h => ?_, r2.len, r2.nd, r2.out, fun i a c h1 h2 => ?_⟩, dl_upd hp2⟩
  · rw [dl_ne (ne h)]; exact x.fr a u (by rw [upd_ne (ne h)]; exact h) n
  · rw [dl_ne (ne h)]; exact x.dom a u (by rw [upd_ne (ne h)]; exact h)
  · rcases x.nm a h with z | z
    · exact .inl z
    · exact .inr (upd_none z).1
  · rcases x.ng a u h with z | z | ⟨fs, z⟩
    · exact .inl z
    · exact .inr (.inl (upd_none z).1)
    · refine .inr (.inr ⟨fs, ?_⟩)
      by_cases e : a = p
      · subst e; rw [upd_same] at z; cases z; exact absurd rfl (ho fs)
      · rw [upd_ne e] at z; exact z
  · by_cases e : a = p
    · subst e; rw [dl_same] at h; cases h
    · rw [dl_ne e] at h
      rcases x.xs a fs h with z | z
      · exact .inl z
      · rw [upd_ne e] at z; exact .inr z
  · have : a ≠ p := fun e => by subst e; rw [ng2] at h; cases h
    rw [dl_ne this]; exact r2.sub a u h
  · have : a ≠ p := fun e => by subst e; exact nm2 (List.mem_of_getElem? h1)
    exact (r2.cell i a c h1 h2).mono List.prefix_rfl (.refl G2) (dl_ne this)
/-- what a new object at p holds -/
def Cont (B : Wo) (m : List Addr) (G : Hp) (p : Addr) (o : HO) (d : D) : Prop := ∀ H : Hp, H p = some o → CellOk B m G H p d
theorem CellOk.rep {d : D} (c : CellOk B m G H p d) (h : G p = H p) : repV B m G d (.ref p) := by
  cases d <;> first | exact c.elim | skip
  · obtain ⟨xs, e, r⟩ := c
    rw [repV]; exact ⟨p, xs, rfl, .of (h.trans e), r⟩
  · rw [repV]
    rcases c with ⟨kvs, e, e2, r⟩ | ⟨xs, e, r⟩
    · exact ⟨p, _, rfl, h.trans e, .inl ⟨kvs, rfl, e2, r⟩⟩
    · exact ⟨p, _, rfl, h.trans e, .inr ⟨xs, rfl, r⟩⟩
  · obtain ⟨dx, fvs, e, e2, r⟩ := c
    rw [repV]; exact ⟨p, dx, fvs, rfl, h.trans e, e2, r⟩
theorem Cont.rep {d : D} (r : RelS B m G H st) (hp : H p = none) (c : Cont B m G p o d) : repV B m (upd G p o) d (.ref p) := by
  have c' := c (upd H p o) upd_same
  exact (c'.mono (G' := upd G p o) (H' := upd H p o) List.prefix_rfl (Ext.still (o := o) r hp).g rfl).rep (by rw [upd_same, upd_same])
/-- the reading of an expression that makes a new object -/
def tN (B : Wo) (W : WX) (x : Env → M D) : TE := fun σ H Q => ∃ m G st env, RelS B m G H st ∧ RelE B m G env σ ∧
  Post B m G H (wx W σ) (fun d _ m' G' H' => ∀ p o, H' p = none → Cont B m' G' p o d → Q (.ref p) (upd H' p o)) (x env st)
abbrev SN (X : Cx) (N : Nms) (W : WX) (e : Expr) (x : Env → M D) : Prop := PE X e (tN (Bo X N) W x)
theorem Post.still {X : XK} {Q : VK} {r : Res D} (p : Post B m G H X (fun d _ m' G' H' => ∀ v, repV B m' G' d v → Q v H') r) :
    Post B m G H X (fun d _ m' G' H' => ∀ p o, H' p = none → Cont B m' G' p o d → Q (.ref p) (upd H' p o)) r := by
  cases r with
  | ok d st' => exact fun m' G' H' xx rr q o hq hc => p m' (upd G' q o) (upd H' q o) (xx.trans (Ext.still rr hq)) (rr.still hq) _ (hc.rep rr hq)
  | exc c vs st' => exact p
  | stk => exact p
theorem Post.lay {X : XK} {Q : VK} {x : M D} (p : Post B m G H X (fun d _ m' G' H' => ∀ v, repV B m' G' d v → Q v H') (Dn.bnd x alloc st)) :
    Post B m G H X (fun d _ m' G' H' => ∀ p o, H' p = none → Cont B m' G' p o d → Q (.ref p) (upd H' p o)) (x st) := by
  unfold Dn.bnd at p
  cases e : x st with
  | ok d st' =>
    rw [e] at p
    intro m' G' H' xx rr q o hq hc
    have c' : CellOk B (m' ++ [q]) G' (upd H' q o) q d := (hc (upd H' q o) upd_same).mono (List.prefix_append ..) (.refl G') rfl
    refine p (m' ++ [q]) G' (upd H' q o) (xx.trans (Ext.push rr hq)) (rr.push hq c') _ ?_
    rw [repV]
    exact ⟨q, rfl, by rw [← rr.len]; simp⟩
  | exc c vs st' => rw [e] at p; exact p
  | stk => rw [e] at p; exact p
end
section
variable {X : Cx} {N : Nms} {W : WX} {a b c e : Expr} {x xa xb xc : Env → M D} {pos : Pos} {es : List Expr} {xs : Env → M (List D)}
theorem SN.se (h : SN X N W e x) : SE X N W e x := PE.imp h fun σ H Q ⟨m, G, st, env, rs, re, p⟩ => ⟨m, G, st, env, rs, re, p.still⟩
theorem SN.box (h : SN X N W e x) : SE X N W e (fun env => bnd (x env) alloc) := PE.imp h fun σ H Q ⟨m, G, st, env, rs, re, p⟩ => ⟨m, G, st, env, rs, re, p.lay⟩
theorem cont_lst {B : Wo} {m : List Addr} {G : Hp} {p : Addr} {ds : List D} {vs : List V} (h : repL B m G ds vs) : Cont B m G p (.lst vs) (.lst ds) := fun H e => ⟨vs, e, h⟩
theorem cont_dk {B : Wo} {m : List Addr} {G : Hp} {p : Addr} {vs : List D} {kvs : List (Key × V)} (h : repL B m G vs (kvs.map (·.2))) : Cont B m G p (.dK kvs) (.dic (kvs.map fun p => keyD p.1) vs) := fun H e => .inl ⟨kvs, e, rfl, h⟩
theorem sn_lst (h : SA X N W es xs) (hz : es.length ≤ 1000) (hl : ∀ env st ys st', xs env st = .ok ys st' → ys.length = es.length) : SN X N W (.List es pos) (fun env => bnd (xs env) fun ys => ret (.lst ys)) := by
  refine PE.imp (pe_lst h) fun σ H Q q => ?_
  obtain ⟨m, G, st, env, rs, re, p⟩ := q
  refine ⟨m, G, st, env, rs, re, ?_⟩
  have p2 := p.bnd
  cases e : xs env st with
  | ok ys st' =>
    rw [e] at p2
    intro m' G' H' xx rr vs hvs
    exact ⟨by rw [hvs.length, hl _ _ _ _ e, sizeLine_eq]; omega, fun q hq => Post.here rr (p2 m' G' H' xx rr) q _ hq (cont_lst hvs)⟩
  | exc c vs st' => rw [e] at p2; exact p2
  | stk => rw [e] at p2; exact p2
theorem sn_dic0 : SN X N W (.Dict [] [] pos) (fun _ => ret (.dic [] [])) := by
  refine PE.imp pe_dnewK fun σ H Q q => ?_
  obtain ⟨m, G, st, env, rs, re, p⟩ := q
  exact fun q hq => Post.here rs p q _ hq (cont_dk (kvs := []) .nil')
/-! ### slices -/
theorem tup_is {B : Wo} {m : List Addr} {G H : Hp} {st : Store} {d : D} {v : V} {ds : List D} (r : RelS B m G H st) (h : repV B m G d v) (e : cellOf st d = .tup ds) : d = .tup ds := by
  cases d with
  | ref n =>
    obtain ⟨a, rfl, _, c⟩ := r.at h (get_of_getD e (by intro z; cases z))
    exact c.elim
  | _ => exact e
theorem sl_D : SlR X (fun x lo hi H Q => ∃ m G st d, RelS (Bo X N) m G H st ∧ repV (Bo X N) m G d x ∧
    ((∃ ds, cellOf st d = .tup ds ∧ ∀ v m' G' H', Ext m G H m' G' H' → RelS (Bo X N) m' G' H' st → repV (Bo X N) m' G' (.tup (cut ds lo hi)) v → Q v H') ∨
    (∃ ds, cellOf st d = .lst ds ∧ ∀ p o, H p = none → Cont (Bo X N) m G p o (.lst (cut ds lo hi)) → Q (.ref p) (upd H p o)))) := by
  intro pins s σ H x v vl vu lo hi sl Q I rx hs pl pu h
  obtain ⟨m, G, st, d, r, rd, h⟩ := h
  have cutrep : ∀ {ds vs}, repL (Bo X N) m G ds vs → repL (Bo X N) m G (cut ds lo hi) (L2.cutV vs lo hi) := fun {ds vs} q => by
    have hl := q.length
    have : L2.cutV vs lo hi = (vs.drop (sIx ds.length 0 lo)).take (sIx ds.length ds.length hi - sIx ds.length 0 lo) := by
      rw [← hl]; rfl
    rw [this]
    exact (q.drop _).take _
  rcases h with ⟨ds, c, q⟩ | ⟨ds, c, q⟩
  · obtain ⟨a, vs, rfl, ta, rl⟩ := tup_at r rd c
    cases rx
    obtain ⟨its, rv, ht, hz⟩ := I.tuple ta.seq
    have hlen : its.toArray.size = vs.length := by rw [List.size_toArray]; exact rv.length.symm
    refine ⟨"tuple", _, PyProof.Rows.slot_tuple_getitem.lookup, ht.typeIs, ?_⟩
    by_cases hw : HT.sIx vs.length 0 lo = 0 ∧ HT.sIx vs.length vs.length hi = vs.length
    · have e : cut ds lo hi = ds := by
        have hl := rl.length
        unfold cut
        rw [← hl]
        have h1 : sIx vs.length 0 lo = 0 := hw.1
        have h2 : sIx vs.length vs.length hi = vs.length := hw.2
        rw [h1, h2, List.drop_zero, Nat.sub_zero, List.take_of_length_le (by omega)]
      rw [e] at q
      exact getItem_tuple_whole ht hs pl pu (by rw [hlen]; exact hw) ⟨.ref a, H, I, rfl, q _ _ _ _ (.refl ..) r (tup_is r rd c ▸ rd)⟩
    · refine HT.getItem_tuple_cut ht hs pl pu (by rw [hlen]; exact hw) ?_ (by rw [hlen]; exact hz)
      rw [hlen]
      have rc : Vals (L2.cutV vs lo hi) ((its.drop (HT.sIx vs.length 0 lo)).take (HT.sIx vs.length vs.length hi - HT.sIx vs.length 0 lo)) := (rv.drop (HT.sIx vs.length 0 lo)).take (HT.sIx vs.length vs.length hi - HT.sIx vs.length 0 lo)
      exact (NewT.of (X := X) r (cutrep rl) (by rw [← (cutrep rl).length]; exact Nat.le_trans (cutV_length vs lo hi) hz) q).run I rc
  · obtain ⟨a, vs, rfl, ta, rl⟩ := list_at r rd c
    exact sl_list pins s σ H _ v vl vu lo hi sl Q I rx hs pl pu ⟨a, vs, rfl, ta, fun p hp => q p _ hp (cont_lst (cutrep rl))⟩
/-- a slice's part -/
def tDO (B : Wo) (W : WX) (x : Env → M (List D)) : TO := fun σ H Q => ∃ m G st env, RelS B m G H st ∧ RelE B m G env σ ∧
  Post B m G H (wx W σ) (fun ds _ m' G' H' => ∃ o, sPart ds = some o ∧ Q o H') (x env st)
abbrev SO (X : Cx) (N : Nms) (W : WX) (o : Option Expr) (x : Env → M (List D)) : Prop := PO X o (tDO (Bo X N) W x)
theorem so_none : SO X N W none (fun _ => ret []) := ⟨fun pins s σ H Q I q => po_none.run pins s σ H Q I (by
  obtain ⟨m, G, st, env, rs, re, p⟩ := q
  obtain ⟨o, e, q⟩ := Post.here rs p
  cases e
  exact q)⟩
theorem so_some (h : SE X N W e x) : SO X N W (some e) (fun env => bnd (x env) fun d => bnd (ret []) fun ds => ret (d :: ds)) := ⟨fun pins s σ H Q I q => (po_some h).run pins s σ H Q I (by
  obtain ⟨m, G, st, env, rs, re, p⟩ := q
  refine to_tD rs re p fun d st1 m1 G1 H1 v rs1 re1 x1 hv p1 => ?_
  obtain ⟨o, e, q⟩ := Post.here rs1 p1
  unfold sPart at e
  split at e
  · rename_i h; cases h
  · rename_i i h; cases h; cases e; exact ⟨i, repV_int.mp hv, q⟩
  · cases e)⟩
theorem to_tDO {B : Wo} {m : List Addr} {G H : Hp} {st : Store} {env : Env} {σ : L2.St} {α : Type} {RR : α → Store → List Addr → Hp → Hp → Prop} {x : Env → M (List D)} {f : Option Int → M α} {Q : Option Int → Hp → Prop} (rs : RelS B m G H st) (re : RelE B m G env σ)
    (p : Post B m G H (wx W σ) RR (bnd (x env) (fun l => match sPart l with
      | some o => f o
      | none => stk) st))
    (k : ∀ o st1 m1 G1 H1, RelS B m1 G1 H1 st1 → RelE B m1 G1 env σ → Ext m G H m1 G1 H1 → Post B m1 G1 H1 (wx W σ) RR (f o st1) → Q o H1) : tDO B W x σ H Q :=
  ⟨m, G, st, env, rs, re, p.bnd.mono fun ds st1 m1 G1 H1 x1 rs1 p1 => by
    cases e : sPart ds with
    | some o => rw [e] at p1; exact ⟨o, rfl, k o st1 m1 G1 H1 rs1 (re.ext x1) x1 p1⟩
    | none => rw [e] at p1; exact p1.elim⟩
theorem se_slc {lo hi : Option Expr} {xl xh : Env → M (List D)} {p2 : Pos} (ha : SE X N W a xa) (hl : SO X N W lo xl) (hh : SO X N W hi xh) : SE X N W (.Subscript a (.Slice lo hi none p2) pos) (fun env => bnd (xa env) fun x => bnd (xl env) fun l => match sPart l with
    | some l => bnd (xh env) fun h => match sPart h with
      | some h => fun st => match cellOf st x with
        | .tup xs => .ok (.tup (cut xs l h)) st
        | .lst xs => .ok (.lst (cut xs l h)) st
        | _ => .stk
      | none => stk
    | none => stk) := by
  refine PE.imp (pe_slice (sl_D (N := N)) ha hl hh) fun σ H Q q => ?_
  obtain ⟨m, G, st, env, rs, re, p⟩ := q
  refine to_tD rs re p fun x st1 m1 G1 H1 v rs1 re1 x1 hv p1 => to_tDO rs1 re1 p1 fun l st2 m2 G2 H2 rs2 re2 x2 p2 => to_tDO rs2 re2 p2 fun h st3 m3 G3 H3 rs3 re3 x3 p3 => ?_
  have hv3 := (hv.mono x2.pre x2.g).mono x3.pre x3.g
  refine ⟨m3, G3, st3, x, rs3, hv3, ?_⟩
  split at p3
  · rename_i ds c
    exact .inl ⟨ds, c, fun w m' G' H' xx rr hw => p3 m' G' H' xx rr w hw⟩
  · rename_i ds c
    exact .inr ⟨ds, c, fun q o hq hc => Post.here rs3 (Post.still p3) q o hq hc⟩
  · exact p3.elim
end
end Dn
end
section
set_option Elab.async false
set_option linter.all false
set_option maxRecDepth 100000
set_option maxHeartbeats 4000000
/-! Dn13: fields; the calls of built-ins. Own work. -/
namespace Dn
open PySem PySem.Spec PyProof.Rows L2

section
variable {B : Wo} {m : List Addr} {G H : Hp} {st : Store} {d : D} {v : V}
theorem obj_at {c : Nat} {ns : List Nat} {vs : List D} (r : RelS B m G H st) (h : repV B m G d v) (e : cellOf st d = .obj c ns vs) : ∃ a dx fvs, v = .ref a ∧ H a = some (.ins (He.ga B.K (B.N.cls c)) dx fvs) ∧ fvs.map (·.1) = ns.map B.N.fld ∧ repL B m G vs (fvs.map (·.2)) := by
  cases d with
  | obj c' ns' vs' =>
    cases e
    rw [repV] at h
    obtain ⟨a, dx, fvs, rfl, s, q⟩ := h
    exact ⟨a, dx, fvs, rfl, r.sub _ _ s, q⟩
  | ref n =>
    obtain ⟨a, rfl, _, c⟩ := r.at h (get_of_getD e (by intro z; cases z))
    obtain ⟨dx, fvs, q1, q2⟩ := c
    exact ⟨a, dx, fvs, rfl, q1, q2⟩
  | _ => cases e
theorem look_cons {f g : Str} {y : V} {fs : List (Str × V)} : ((f, y) :: fs).lookup g = if g = f then some y else fs.lookup g := lookup_put f g y fs
theorem fget_look (inj : ∀ i j, B.N.fld i = B.N.fld j → i = j) {f : Nat} : ∀ {ns : List Nat} {vs : List D} {fvs : List (Str × V)} {d : D}, fvs.map (·.1) = ns.map B.N.fld → repL B m G vs (fvs.map (·.2)) → fget ns vs f = some d →
    ∃ v, fvs.lookup (B.N.fld f) = some v ∧ repV B m G d v
  | [], vs, fvs, d, _, _, h => by simp [fget] at h
  | n :: ns, [], fvs, d, _, _, h => by simp [fget] at h
  | n :: ns, x :: vs, [], d, e, _, h => by simp at e
  | n :: ns, x :: vs, p :: fvs, d, e, r, h => by
    rw [List.map_cons, List.map_cons] at e
    injection e with e1 e2
    rw [List.map_cons, repL] at r
    obtain ⟨w, ws, e3, r1, r2⟩ := r
    injection e3 with e4 e5
    subst e4 e5
    obtain ⟨pn, pv⟩ := p
    simp only at e1
    subst e1
    rw [look_cons]
    rw [fget] at h
    by_cases hn : n = f
    · subst hn
      rw [if_pos rfl] at h ⊢
      cases h
      exact ⟨pv, rfl, r1⟩
    · rw [if_neg hn] at h
      rw [if_neg (fun z => hn (inj _ _ z.symm))]
      exact fget_look inj e2 r2 h
theorem fput_putF (inj : ∀ i j, B.N.fld i = B.N.fld j → i = j) {f : Nat} {y : D} {w : V} (hy : repV B m G y w) : ∀ {ns : List Nat} {vs : List D} {fvs : List (Str × V)}, fvs.map (·.1) = ns.map B.N.fld → repL B m G vs (fvs.map (·.2)) →
    (putF (B.N.fld f) w fvs).map (·.1) = (fputN ns f).map B.N.fld ∧ repL B m G (fputV ns vs f y) ((putF (B.N.fld f) w fvs).map (·.2))
  | [], vs, fvs, e, r => by
    have : fvs = [] := by simpa using e
    subst this
    rw [List.map_nil] at r
    have : vs = [] := by
      cases vs with
      | nil => rfl
      | cons _ _ => rw [repL] at r; obtain ⟨_, _, z, _⟩ := r; cases z
    subst this
    exact ⟨rfl, .cons' hy .nil'⟩
  | n :: ns, vs, [], e, r => by simp at e
  | n :: ns, [], p :: fvs, e, r => by rw [List.map_cons, repL] at r; cases r
  | n :: ns, x :: vs, p :: fvs, e, r => by
    rw [List.map_cons, List.map_cons] at e
    injection e with e1 e2
    rw [List.map_cons, repL] at r
    obtain ⟨w', ws, e3, r1, r2⟩ := r
    injection e3 with e4 e5
    subst e4 e5
    obtain ⟨pn, pv⟩ := p
    simp only at e1
    subst e1
    rw [putF, fputN, fputV]
    by_cases hn : n = f
    · subst hn
      rw [if_pos rfl, if_pos rfl, if_pos rfl]
      refine ⟨by rw [List.map_cons, List.map_cons, e2], ?_⟩
      rw [List.map_cons]
      exact .cons' hy r2
    · rw [if_neg hn, if_neg hn, if_neg (fun z => hn (inj _ _ z))]
      obtain ⟨i1, i2⟩ := fput_putF inj hy e2 r2
      refine ⟨by rw [List.map_cons, List.map_cons, i1], ?_⟩
      rw [List.map_cons]
      exact .cons' r1 i2
theorem not_exn {c : Nat} {ns : List Nat} {vs : List D} (r : RelS B m G H st) (hx : B.N.ex = none) (h : repV B m G d v) (e : cellOf st d = .exn c ns vs) : False := by
  cases d with
  | exn c' ns' vs' =>
    rw [repV] at h
    obtain ⟨a, dx, fvs, _, e2, _⟩ := h
    rw [hx] at e2
    cases e2
  | ref n =>
    obtain ⟨a, rfl, _, c⟩ := r.at h (get_of_getD e (by intro z; cases z))
    exact c.elim
  | _ => cases e
end
/-- what is read off the machine about the classes' fields -/
structure FldFx (K : PySem.W.Frag) (N : Nms) (T : Tb) : Prop where
  inj : ∀ i j, N.fld i = N.fld j → i = j
  fld : ∀ c f, fldOk T c f = true → isErr T c = false → Cls K (He.ga K (N.cls c)) ∧ NoAttr K (He.ga K (N.cls c)) (N.fld f)
section
variable {X : Cx} {N : Nms} {T : Tb} {W : WX} {a b c e : Expr} {x xa xb xc : Env → M D} {pos : Pos} {es : List Expr} {xs : Env → M (List D)}
theorem se_atr {f : Nat} (F : FldFx X.K N T) (hx : N.ex = none) (ha : SE X N W a xa) (hb : attributeBase a (N.fld f) X.env (eval a X.env) = eval a X.env) : SE X N W (.Attribute a (N.fld f) pos) (fun env => bnd (xa env) fun x => fun st => match getAtr T x f st with
    | some z => .ok z st
    | none => .stk) := by
  refine PE.imp (pe_fld ha hb) fun σ H Q q => ?_
  obtain ⟨m, G, st, env, rs, re, p⟩ := q
  refine to_tD rs re p fun x st1 m1 G1 H1 v rs1 re1 x1 hv p1 => ?_
  unfold getAtr at p1
  split at p1
  · rename_i z e
    split at e
    · rename_i c ns vs hc
      split at e
      · rename_i hk
        rw [Bool.and_eq_true, Bool.not_eq_true'] at hk
        obtain ⟨i, dx, fvs, rfl, hi, e1, r1⟩ := obj_at rs1 hv hc
        obtain ⟨w, l, rw'⟩ := fget_look F.inj e1 r1 e
        obtain ⟨h1, h2⟩ := F.fld c f hk.1 hk.2
        exact ⟨i, _, dx, fvs, w, rfl, hi, h1, h2, l, p1.ans rs1 rw'⟩
      · cases e
    · rename_i hc
      exact (not_exn rs1 hx hv hc).elim
    · cases e
  · exact p1.elim
/-! ### the calls of built-ins -/
/-- a built-in by its name -/
inductive BV where | fn (id : String) | ty (T : String)
def BV.v : BV → Value
  | .fn id => .builtin id
  | .ty T => .type T
theorem sa_len {x : Env → M (List D)} : True := trivial
/-- f(e, ..), f a built-in that is known by its rule -/
theorem se_callB {f : BV} {x : Str} {p : Pos} {g : List D → M D} (hc : CallR X f.v (rMA (Bo X N) g)) (hq : ∀ ds, Quiet (g ds)) (hg : Gl X x) (hm : X.mg x = none) (hv : bootBuiltins x = some f.v) (ha : SA X N W (e :: es) xs) (hn : x ≠ "__name__") (hdb : (x == ("__debug__" : Str)) = false) (hs : (e :: es).all noStar = true) :
    SE X N W (.Call (.Name x p) (e :: es) [] pos) (fun env => bnd (xs env) g) := by
  have hs' : noStar e = true ∧ es.all noStar = true := by rw [List.all_cons, Bool.and_eq_true] at hs; exact hs
  have pe : PE X (.Call (.Name x p) (e :: es) [] pos) (tCB (rMA (Bo X N) g) (tDA (Bo X N) W xs)) := by
    cases f with
    | fn id => exact pe_callB hc hg hm hv ha hn hdb (star_consN hs'.1) (star_plain hs'.2).1
    | ty T => exact pe_callTy hc hg hm hv ha hn hdb (star_consN hs'.1) (star_plain hs'.2).1
  refine PE.imp pe fun σ H Q q => ?_
  obtain ⟨m, G, st, env, rs, re, p⟩ := q
  refine to_tDA rs re p fun ds st1 m1 G1 H1 vs rs1 re1 x1 hv p1 => ?_
  exact ⟨m1, G1, st1, ds, rs1, hv, p1.quiet (hq ds)⟩
/-- .. that makes a new object -/
def rNA (B : Wo) (f : List D → M D) : List V → Hp → VK → Prop := fun xs H Q => ∃ m G st ds, RelS B m G H st ∧ repL B m G ds xs ∧ Post B m G H (fun _ _ _ => False) (fun d _ m' G' H' => ∀ p o, H' p = none → Cont B m' G' p o d → Q (.ref p) (upd H' p o)) (f ds st)
theorem to_tDAN {B : Wo} {m : List Addr} {G H : Hp} {st : Store} {env : Env} {σ : L2.St} {α : Type} {RR : α → Store → List Addr → Hp → Hp → Prop} {x : Env → M (List D)} {f : List D → M α} {Q : List V → Hp → Prop} (rs : RelS B m G H st) (re : RelE B m G env σ) (p : Post B m G H (wx W σ) RR (bnd (x env) f st))
    (k : ∀ ds st1 m1 G1 H1 vs, RelS B m1 G1 H1 st1 → RelE B m1 G1 env σ → Ext m G H m1 G1 H1 → repL B m1 G1 ds vs → Post B m1 G1 H1 (wx W σ) RR (f ds st1) → Q vs H1) : tDA B W x σ H Q := to_tDA rs re p k
theorem sn_callB {f : BV} {x : Str} {p : Pos} {g : List D → M D} (hc : CallR X f.v (rNA (Bo X N) g)) (hq : ∀ ds, Quiet (g ds)) (hg : Gl X x) (hm : X.mg x = none) (hv : bootBuiltins x = some f.v) (ha : SA X N W (e :: es) xs) (hn : x ≠ "__name__") (hdb : (x == ("__debug__" : Str)) = false) (hs : (e :: es).all noStar = true) :
    SN X N W (.Call (.Name x p) (e :: es) [] pos) (fun env => bnd (xs env) g) := by
  have hs' : noStar e = true ∧ es.all noStar = true := by rw [List.all_cons, Bool.and_eq_true] at hs; exact hs
  have pe : PE X (.Call (.Name x p) (e :: es) [] pos) (tCB (rNA (Bo X N) g) (tDA (Bo X N) W xs)) := by
    cases f with
    | fn id => exact pe_callB hc hg hm hv ha hn hdb (star_consN hs'.1) (star_plain hs'.2).1
    | ty T => exact pe_callTy hc hg hm hv ha hn hdb (star_consN hs'.1) (star_plain hs'.2).1
  refine PE.imp pe fun σ H Q q => ?_
  obtain ⟨m, G, st, env, rs, re, p⟩ := q
  refine to_tDA rs re p fun ds st1 m1 G1 H1 vs rs1 re1 x1 hv p1 => ?_
  exact ⟨m1, G1, st1, ds, rs1, hv, p1.quiet (hq ds)⟩
end
end Dn
end
section
set_option Elab.async false
set_option linter.all false
set_option maxRecDepth 100000
set_option maxHeartbeats 4000000
/-! Dn14: still things; a call on a store of its own. Own work. -/
namespace Dn
open PySem PySem.Spec PyProof.Rows L2

section
variable {B : Wo} {m m' : List Addr} {G : Hp}
mutual
theorem repV.pure : ∀ (d : D) (v : V), d.pur = true → repV B m G d v → repV B m' G d v
  | .non, v, _, h => by rw [repV] at h ⊢; exact h
  | .bl b, v, _, h => by rw [repV] at h ⊢; exact h
  | .int i, v, _, h => by rw [repV] at h ⊢; exact h
  | .str x, v, _, h => by rw [repV] at h ⊢; exact h
  | .tup ds, v, p, h => by
    rw [repV] at h ⊢; obtain ⟨a, xs, e, s, r⟩ := h
    exact ⟨a, xs, e, s, repL.pure ds xs (by simpa [D.pur] using p) r⟩
  | .kdic ks vs, v, p, h => by
    rw [repV] at h ⊢; obtain ⟨a, ws, e, s, r⟩ := h
    rw [D.pur, Bool.and_eq_true] at p
    exact ⟨a, ws, e, s, repL.pure vs ws p.2 r⟩
  | .lst ds, v, p, h => by
    rw [repV] at h ⊢; obtain ⟨a, xs, e, s, r⟩ := h
    exact ⟨a, xs, e, s, repL.pure ds xs (by simpa [D.pur] using p) r⟩
  | .dic ks vs, v, p, h => by
    rw [repV] at h ⊢; obtain ⟨a, u, e, s, r⟩ := h
    rw [D.pur, Bool.and_eq_true] at p
    refine ⟨a, u, e, s, ?_⟩
    rcases r with ⟨kvs, e1, e2, r⟩ | ⟨kvs, e1, e2, r⟩
    · exact .inl ⟨kvs, e1, e2, repL.pure vs _ p.2 r⟩
    · exact .inr ⟨kvs, e1, e2, r.1, repL.pure ks _ p.1 r.2.1, r.2.2.1, repL.pure vs _ p.2 r.2.2.2⟩
  | .obj c ns vs, v, p, h => by
    rw [repV] at h ⊢; obtain ⟨a, dx, fvs, e, s, e2, r⟩ := h
    exact ⟨a, dx, fvs, e, s, e2, repL.pure vs _ (by simpa [D.pur] using p) r⟩
  | .ref n, v, p, h => by simp [D.pur] at p
  | .fn f, v, _, h => by rw [repV] at h ⊢; exact h
  | .rng lo hi, v, _, h => by rw [repV] at h ⊢; exact h
  | .exn c ns vs, v, p, h => by simp [D.pur] at p
theorem repL.pure : ∀ (ds : List D) (xs : List V), D.purL ds = true → repL B m G ds xs → repL B m' G ds xs
  | [], xs, _, h => by rw [repL] at h ⊢; exact h
  | d :: ds, xs, p, h => by
    rw [D.purL, Bool.and_eq_true] at p
    rw [repL] at h ⊢; obtain ⟨v, vs, e, h1, h2⟩ := h
    exact ⟨v, vs, e, repV.pure d v p.1 h1, repL.pure ds vs p.2 h2⟩
end
end
/-- the still heap with the store's things made still -/
def stl (m : List Addr) (G H : Hp) : Hp := fun a => if a ∈ m then H a else G a
theorem mapM_some {α β : Type} {f : α → Option β} : ∀ {xs : List α} {ys : List β}, xs.mapM f = some ys → (xs = [] ∧ ys = []) ∨ ∃ x xs' y ys', xs = x :: xs' ∧ ys = y :: ys' ∧ f x = some y ∧ xs'.mapM f = some ys'
  | [], ys, h => by exact .inl ⟨rfl, by simpa using h.symm⟩
  | x :: xs, ys, h => by
    rw [List.mapM_cons] at h
    cases e : f x with
    | none => rw [e] at h; cases h
    | some y =>
      rw [e] at h
      cases e2 : xs.mapM f with
      | none => simp [e2] at h
      | some ys' => simp [e2] at h; subst h; exact .inr ⟨x, xs, y, ys', rfl, rfl, e, e2⟩
section
variable {B : Wo} {m : List Addr} {G H : Hp} {st : Store}
theorem RelS.ng_mem (r : RelS B m G H st) {a : Addr} {u : HO} (h : G a = some u) : a ∉ m := fun q => by have := r.out a q; rw [this] at h; cases h
theorem stl_le (r : RelS B m G H st) : GLe G (stl m G H) := .of_same fun a u h => by
  unfold stl; rw [if_neg (r.ng_mem h)]; exact h
theorem frz_pur {st : Store} {n : Nat} {d : D} (p : d.pur = true) : frz st n d = some d := by
  cases n with
  | zero => simp [frz, p]
  | succ n => cases d <;> simp [frz, p]
theorem frz_repS (r : RelS B m G H st) : ∀ (n : Nat) (d d' : D) (v : V), frz st n d = some d' → repV B m (stl m G H) d v → repV B [] (stl m G H) d' v ∧ d'.pur = true := by
  intro n
  induction n with
  | zero =>
    intro d d' v h hv
    by_cases p : d.pur = true
    · rw [frz_pur p] at h; cases h; exact ⟨hv.pure d v p, p⟩
    · simp only [frz, if_neg p] at h; cases h
  | succ n ih =>
    have go : ∀ (xs ys : List D) (vs : List V), xs.mapM (frz st n) = some ys → repL B m (stl m G H) xs vs → repL B [] (stl m G H) ys vs ∧ D.purL ys = true := by
      intro xs
      induction xs with
      | nil =>
        intro ys vs h hv
        have : ys = [] := by simpa using h.symm
        subst this
        rw [repL] at hv
        subst hv
        exact ⟨.nil', rfl⟩
      | cons x xs ihx =>
        intro ys vs h hv
        rcases mapM_some h with ⟨e, _⟩ | ⟨x', xs', y, ys', e1, e2, e3, e4⟩
        · cases e
        · cases e1
          subst e2
          rw [repL] at hv
          obtain ⟨w, ws, rfl, h1, h2⟩ := hv
          obtain ⟨i1, i2⟩ := ih x y w e3 h1
          obtain ⟨j1, j2⟩ := ihx ys' ws e4 h2
          exact ⟨.cons' i1 j1, by rw [D.purL, i2, j2]; rfl⟩
    intro d d' v h hv
    by_cases p : d.pur = true
    · rw [frz_pur p] at h; cases h; exact ⟨hv.pure d v p, p⟩
    · cases d <;> simp only [frz, if_neg p] at h <;> first | (cases h; done) | skip
      · rename_i xs
        obtain ⟨ys, e, rfl⟩ := Option.map_eq_some_iff.mp h
        rw [repV] at hv
        obtain ⟨a, vs, rfl, t, rl⟩ := hv
        obtain ⟨i1, i2⟩ := go xs ys vs e rl
        refine ⟨?_, by simpa [D.pur] using i2⟩
        rw [repV]; exact ⟨a, vs, rfl, t, i1⟩
      · rename_i xs
        obtain ⟨ys, e, rfl⟩ := Option.map_eq_some_iff.mp h
        rw [repV] at hv
        obtain ⟨a, vs, rfl, t, rl⟩ := hv
        obtain ⟨i1, i2⟩ := go xs ys vs e rl
        refine ⟨?_, by simpa [D.pur] using i2⟩
        rw [repV]; exact ⟨a, vs, rfl, t, i1⟩
      · rename_i ks vs0
        split at h
        · rename_i pk
          obtain ⟨ys, e, rfl⟩ := Option.map_eq_some_iff.mp h
          rw [repV] at hv
          obtain ⟨a, u, rfl, s, rr⟩ := hv
          rcases rr with ⟨kvs, e1, e2, rl⟩ | ⟨kvs, e1, e2, e3, rk, e4, rl⟩
          · obtain ⟨i1, i2⟩ := go vs0 ys _ e rl
            refine ⟨?_, by rw [D.pur, pk, i2]; rfl⟩
            rw [repV]; exact ⟨a, u, rfl, s, .inl ⟨kvs, e1, e2, i1⟩⟩
          · obtain ⟨i1, i2⟩ := go vs0 ys _ e rl
            refine ⟨?_, by rw [D.pur, pk, i2]; rfl⟩
            rw [repV]; exact ⟨a, u, rfl, s, .inr ⟨kvs, e1, e2, e3, repL.pure _ _ pk rk, e4, i1⟩⟩
        · cases h
      · rename_i c ns vs0
        obtain ⟨ys, e, rfl⟩ := Option.map_eq_some_iff.mp h
        rw [repV] at hv
        obtain ⟨a, dx, fvs, rfl, s, e2, rl⟩ := hv
        obtain ⟨i1, i2⟩ := go vs0 ys _ e rl
        refine ⟨?_, by simpa [D.pur] using i2⟩
        rw [repV]; exact ⟨a, dx, fvs, rfl, s, e2, i1⟩
      · rename_i i
        split at h
        · rename_i c hc
          rw [repV] at hv
          obtain ⟨a, rfl, ha⟩ := hv
          have co := r.cell i a c ha hc
          have hs : stl m G H a = H a := by unfold stl; rw [if_pos (List.mem_of_getElem? ha)]
          exact ih c d' _ h ((co.mono (G' := stl m G H) (H' := H) List.prefix_rfl (stl_le r) rfl).rep hs)
        · cases h
theorem frz_rep (r : RelS B m G H st) {n : Nat} {d d' : D} {v : V} (h : frz st n d = some d') (hv : repV B m G d v) : repV B [] (stl m G H) d' v ∧ d'.pur = true :=
  frz_repS r n d d' v h (hv.mono List.prefix_rfl (stl_le r))
theorem frz_repL (r : RelS B m G H st) {n : Nat} : ∀ {ds ds' : List D} {vs : List V}, ds.mapM (frz st n) = some ds' → repL B m G ds vs → repL B [] (stl m G H) ds' vs ∧ D.purL ds' = true
  | [], ds', vs, h, hv => by
    have : ds' = [] := by simpa using h.symm
    subst this
    rw [repL] at hv; subst hv
    exact ⟨.nil', rfl⟩
  | d :: ds, ds', vs, h, hv => by
    rcases mapM_some h with ⟨e, _⟩ | ⟨x', xs', y, ys', e1, e2, e3, e4⟩
    · cases e
    · cases e1
      subst e2
      rw [repL] at hv
      obtain ⟨w, ws, rfl, h1, h2⟩ := hv
      obtain ⟨i1, i2⟩ := frz_rep r e3 h1
      obtain ⟨j1, j2⟩ := frz_repL r e4 h2
      exact ⟨.cons' i1 j1, by rw [D.purL, i2, j2]; rfl⟩
/-- behind a call that ran on a store of its own -/
theorem own_back {m' : List Addr} {G' H' : Hp} {st1 : Store} (r : RelS B m G H st) (x : Ext [] G H m' G' H') (r1 : RelS B m' G' H' st1) : Ext m G H m (stl m' G' H') H' ∧ RelS B m (stl m' G' H') H' st := by
  have new : ∀ a ∈ m', H a = none := fun a h => by
    rcases x.nm a h with z | z
    · cases z
    · exact z
  have old : ∀ {a u}, H a = some u → a ∉ m' := fun h q => by rw [new _ q] at h; cases h
  have fr : ∀ a o, H a = some o → H' a = some o := fun a o h => x.fr a o h (by simp)
  have ng : ∀ a o, stl m' G' H' a = some o → (∃ o', G a = some o') ∨ H a = none ∨ ∃ fs, H a = some (.xd fs) := fun a o h => by
    unfold stl at h
    split at h
    · rename_i q; exact .inr (.inl (new a q))
    · exact x.ng a o h
  have gle : GLe G (stl m' G' H') := fun a u h => by
    obtain ⟨u', h1, e⟩ := x.g a u h
    exact ⟨u', by unfold stl; rw [if_neg (old (r.sub _ _ h))]; exact h1, e⟩
  refine ⟨⟨List.prefix_rfl, gle, fun a o h _ => fr a o h, fun a o h => ⟨o, fr a o h⟩, fun a h => .inl h, ng, fun a fs h => ?_⟩, ⟨fun a o h => ?_, r.len, r.nd, fun a h => ?_, fun i a c h1 h2 => ?_⟩⟩
  · cases q : H a with
    | none => exact .inl (r.new q).1
    | some o => rw [fr a o q] at h; exact .inr h
  · unfold stl at h
    split at h
    · exact h
    · exact r1.sub _ _ h
  · cases q : stl m' G' H' a with
    | none => rfl
    | some u =>
      exfalso
      obtain ⟨o, e⟩ := r.mem h
      rcases ng a u q with ⟨o', z⟩ | z | ⟨fs, z⟩
      · rw [r.out a h] at z; cases z
      · rw [e] at z; cases z
      · obtain ⟨i, hi, e⟩ := List.mem_iff_getElem.mp h
        have hi' : i < st.length := by rw [← r.len]; exact hi
        have co := (r.cell i a st[i] (by rw [List.getElem?_eq_getElem hi, e]) (List.getElem?_eq_getElem hi')).mut
        rw [z] at co
        exact co
  · obtain ⟨o, e⟩ := (r.cell i a c h1 h2).some
    exact (r.cell i a c h1 h2).mono List.prefix_rfl gle ((fr a o e).trans e.symm)
theorem RelS.none (r : RelS B m G H st) : RelS B [] G H [] := ⟨r.sub, rfl, List.nodup_nil, (fun _ h => by simp at h), (fun i a c h _ => by simp at h)⟩
end
section
variable {B : Wo} {m : List Addr} {G H : Hp} {st : Store}
/-- what a call of a def answers, by how it runs -/
theorem call_post {R : Run} {f : Nat} {ds : List D} {XX : XK} {Q : VK} {vs : List V} (r : RelS B m G H st) (rv : repL B m G ds vs)
    (p : Post B m G H XX (fun d _ m' G' H' => ∀ v, repV B m' G' d v → Q v H') (callD R f ds st)) :
    ∃ m0 st0, RelS B m0 G H st0 ∧ repL B m0 G ds vs ∧ Post B m0 G H XX (fun d _ m' G' H' => ∀ v, repV B m' G' d v → Q v H') (R.call f ds st0) := by
  unfold callD at p
  split at p
  · rename_i hp
    refine ⟨[], [], r.none, rv.pure ds vs hp, ?_⟩
    split at p
    · rename_i d st1 e
      rw [e]
      cases q : frz st1 frzN d with
      | some d' =>
        rw [q] at p
        intro m' G' H' x r1 v hv
        obtain ⟨x2, r2⟩ := own_back r x r1
        obtain ⟨h1, h2⟩ := frz_rep r1 q hv
        exact p m _ H' x2 r2 v (h1.pure d' v h2)
      | none => rw [q] at p; exact p.elim
    · rename_i c vs0 st1 e
      rw [e]
      cases q : vs0.mapM (frz st1 frzN) with
      | some vs' =>
        rw [q] at p
        intro m' G' H' dx fvs x r1 hdx hv
        obtain ⟨x2, r2⟩ := own_back r x r1
        obtain ⟨h1, h2⟩ := frz_repL r1 q hv
        exact p m _ H' dx fvs x2 r2 hdx (h1.pure vs' _ h2)
      | none => rw [q] at p; exact p.elim
    · exact p.elim
  · exact ⟨m, st, r, rv, p⟩
end
end Dn
end
section
set_option Elab.async false
set_option linter.all false
set_option maxRecDepth 100000
set_option maxHeartbeats 4000000
/-! Dn15: defs and their calls. Own work. -/
namespace Dn
open PySem PySem.Spec PyProof.Rows L2

/-- what a def promises, where no repr runs around it -/
structure FnG (P : Program) (w : World) (K : PySem.W.Frag) (mg : Str → Option Value) (base : Heap) (k : Nat) (f : Addr) (fd : FuncData) (ps : List Str) (sp : Sp) : Prop where
  len : ∀ vs H Q E, sp vs H Q E → vs.length = ps.length
  run : ∀ (A : Around) (outer : List PySem.Env) (s : Shared) (H : Hp) (args : Args) (us : List Value) (vs : List V) (Q : VK) (E : XK), Room k A → A.guards = some [] → Env0 P w K mg base A outer s H → BindsTo s fd args (ps.zip us) → Vals vs us → sp vs H Q E →
    codeAny (model P w) A (.call (.ref f) args) (CR (L2.CX P w) outer P w H s Q E) s
/-- the promise by the evaluator -/
def SpN (B : Wo) (call : List D → M D) (np : Nat) : Sp := fun vs H Q E => ∃ m G st ds, RelS B m G H st ∧ repL B m G ds vs ∧ ds.length = np ∧ Post B m G H E (fun d _ m' G' H' => ∀ v, repV B m' G' d v → Q v H') (call ds st)
/-- g runs as the def call does -/
def Obeys (g call : List D → M D) : Prop := ∀ (B : Wo) (m : List Addr) (G H : Hp) (st : Store) (ds : List D) (vs : List V) (XX : XK) (Q : VK), RelS B m G H st → repL B m G ds vs →
  Post B m G H XX (fun d _ m' G' H' => ∀ v, repV B m' G' d v → Q v H') (g ds st) → ∃ m0 st0, RelS B m0 G H st0 ∧ repL B m0 G ds vs ∧ Post B m0 G H XX (fun d _ m' G' H' => ∀ v, repV B m' G' d v → Q v H') (call ds st0)
theorem obeys_D {R : Run} {f : Nat} : Obeys (callD R f) (R.call f) := fun B m G H st ds vs XX Q r rv p => call_post r rv p
theorem obeys_S {R : Run} {f : Nat} : Obeys (callS R f) (R.call f) := fun B m G H st ds vs XX Q r rv p => ⟨m, st, r, rv, p⟩
section
variable {X : Cx} {N : Nms} {W : WX} {k : Nat} {f C : Addr} {fd : FuncData} {ps : List Str} {dvs : List V} {dvals : List Value} {dds : List D} {x : Str} {p pos apos : Pos} {e o : Expr} {es : List Expr} {xs : Env → M (List D)} {xo : Env → M D} {call g : List D → M D} {np : Nat} {σ : L2.St}
theorem run_fnG {sp : Sp} {pins : List (Addr × Obj)} {H : Hp} {s : Shared} {Q : VK} {us : List Value} {vs : List V} (F : FnG X.prog X.w X.K X.mg X.base k f fd ps sp) (hr : Room k X.A) (hgd : X.A.guards = some []) (hb : Binds X.K fd ps dvals) (hd : Vals dvs dvals) (tk : Takes X W)
    (I : Inv X pins σ H s) (r : Vals vs us) (h : sp (vs ++ dvs) H Q (wx W σ)) : wpAny (model X.prog X.w) X.A (PySem.call (.ref f) us) (EP X pins σ Q) X.xe s := by
  have r2 : Vals (vs ++ dvs) (us ++ dvals) := r.append hd
  have hl : (us ++ dvals).length = ps.length := by rw [← r2.length]; exact F.len _ _ _ _ h
  refine wpAny_call (codeAny_mono (F.run X.A X.stack s H ⟨us, []⟩ (us ++ dvals) (vs ++ dvs) Q (wx W σ) hr hgd I.env0 (hb s us I.kIn hl) r2 h) fun r s' hq => ?_)
  cases r with
  | error e => exact passAt tk σ pins H s e s' I hq
  | ok fl =>
    cases fl with
    | ret u => exact I.after hq
    | next => exact False.elim hq
    | brk => exact False.elim hq
    | cont => exact False.elim hq
/-- f(e, ..) -/
theorem se_call (F : FnG X.prog X.w X.K X.mg X.base k f fd ps (SpN (Bo X N) call np)) (hob : Obeys g call) (hl : ∀ ds st, ds.length ≠ np → g ds st = .stk) (hr : Room k X.A) (hgd : X.A.guards = some []) (hg : Gl X x) (hm : X.mg x = some (.ref f)) (hk : PySem.W.keepIn X.K (.ref f) = true) (hb : Binds X.K fd ps dvals) (hd : Vals dvs dvals)
    (hdv : ∀ m G, repL (Bo X N) m G dds dvs) (tk : Takes X W) (ha : SA X N W (e :: es) xs) (hdb : (x == ("__debug__" : Str)) = false) (hs : (e :: es).all noStar = true) :
    SE X N W (.Call (.Name x p) (e :: es) [] pos) (fun env => bnd (xs env) fun ys => g (ys ++ dds)) := by
  have hs' : noStar e = true ∧ es.all noStar = true := by rw [List.all_cons, Bool.and_eq_true] at hs; exact hs
  refine ⟨fun pins s σ H Q I q => ?_⟩
  obtain ⟨m, G, st, env, rs, re, p⟩ := q
  refine wpAny_Call_Name_kw (ld_glob I hg hm ?_ hdb)
  refine PySem.W.callWith_K (h₀ := X.base) I.ok.mod.kin hk (thn (ha.run pos pins s σ H (fun vs H1 => SpN (Bo X N) call np (vs ++ dvs) H1 Q (wx W σ)) I ?_) fun us s1 ⟨vs, H1, I1, r, q⟩ => ⟨I1.kIn, ?_⟩) (star_consN hs'.1) (star_plain hs'.2).1
  · refine to_tDA rs re p fun ds st1 m1 G1 H1 vs rs1 re1 x1 hv p1 => ?_
    have hln : (ds ++ dds).length = np := by
      cases Decidable.em ((ds ++ dds).length = np) with
      | inl h => exact h
      | inr h => rw [hl _ _ h] at p1; exact p1.elim
    obtain ⟨m0, st0, r0, rv0, p0⟩ := hob _ _ _ _ _ _ _ _ _ rs1 (hv.append (hdv _ _)) p1
    exact ⟨m0, G1, st0, ds ++ dds, r0, rv0, hln, p0⟩
  · exact run_fnG F hr hgd hb hd tk I1 r q
/-- f() -/
theorem se_call0 (F : FnG X.prog X.w X.K X.mg X.base k f fd ps (SpN (Bo X N) call np)) (hob : Obeys g call) (hl : ∀ ds st, ds.length ≠ np → g ds st = .stk) (hr : Room k X.A) (hgd : X.A.guards = some []) (hg : Gl X x) (hm : X.mg x = some (.ref f)) (hk : PySem.W.keepIn X.K (.ref f) = true) (hb : Binds X.K fd ps dvals) (hd : Vals dvs dvals)
    (hdv : ∀ m G, repL (Bo X N) m G dds dvs) (tk : Takes X W) (hdb : (x == ("__debug__" : Str)) = false) :
    SE X N W (.Call (.Name x p) [] [] pos) (fun env => bnd (ret []) fun ys => g (ys ++ dds)) := by
  refine ⟨fun pins s σ H Q I q => ?_⟩
  obtain ⟨m, G, st, env, rs, re, p⟩ := q
  refine wpAny_Call_Name_kw (ld_glob I hg hm ?_ hdb)
  refine PySem.W.callWith_K0 I.kIn hk (run_fnG (us := []) (vs := []) F hr hgd hb hd tk I .nil ?_)
  have p1 : Post (Bo X N) m G H (wx W σ) (fun d _ m' G' H' => ∀ v, repV (Bo X N) m' G' d v → Q v H') (g ([] ++ dds) st) := p
  have hln : ([] ++ dds : List D).length = np := by
    cases Decidable.em (([] ++ dds : List D).length = np) with
    | inl h => exact h
    | inr h => rw [hl _ _ h] at p1; exact p1.elim
  obtain ⟨m0, st0, r0, rv0, p0⟩ := hob _ _ _ _ _ _ _ _ _ rs (repL.nil'.append (hdv _ _)) p1
  exact ⟨m0, G, st0, _, r0, rv0, hln, p0⟩
/-! ### a def's body -/
theorem fnG_of {P : Program} {w : World} {K : PySem.W.Frag} {mg : Str → Option Value} {base : Heap} {name qual : Str} {params : Arguments} {body : List Stmt} {scope : Scope} {dv : List V} {kws : List (Str × V)} {Nn : List Str} {sp : Sp} (F : FunD K name qual params body scope dv kws f fd) (S : FnScope Nn ps scope) (len : ∀ vs H Q E, sp vs H Q E → vs.length = ps.length)
    (hbody : ∀ (cdv : Value) (A : Around) (outer : List PySem.Env) (s : Shared) (H : Hp) (vs : List V) (Q : VK) (E : XK), Room k (A.deeper (envOfC qual scope s.heap.objs.size f cdv)) → (A.deeper (envOfC qual scope s.heap.objs.size f cdv)).guards = some [] → sp vs H Q E →
      ∃ t, PSs (cxOf (L2.CX P w) P w K mg base Nn qual scope f cdv A outer s H E) body t ∧ t { nx := fun _ H' => Q .non H', rt := Q } (start Nn vs) H) : FnG P w K mg base (k + 1) f fd ps sp := by
  refine ⟨len, fun A outer s H args us vs Q E hr hgd e0 hb r hsp => ?_⟩
  obtain ⟨oc, od, dV, kV, doc, pm, an, cdv, ct, osl, rfl, lk, hcd, _, _⟩ := F.ex
  have inK : K.In s.heap := e0.mod.kin.keeps fun b o e => (e0.bs b o e).1
  have noL : s.heap.NoLimit := e0.mod.nolimit.keeps fun b o e => (e0.bs b o e).1
  have kinds : ∀ y ∈ ps.zip us, scope.names.lookup y.1 = some .local ∨ (scope.names.lookup y.1 = some .cell ∧ ((cellsFrom (s.heap.objs.size + 1) scope.names []).lookup y.1).isSome = true) := fun y hy => by
    rcases S.par y.1 (List.of_mem_zip hy).1 with q | q
    · exact .inl q
    · exact .inr ⟨q, PySem.W.cellsFrom_some _ _ _ (.inl q)⟩
  refine codeAny_call_function hr.depth (inK _ _ lk) rfl S.co S.gen rfl (PySem.W.codeRec_of inK hcd) (hb _ _ _ _ (wpAny_newFunctionEnv_cells S.kind kinds fun ev he s1 x => ?_))
  subst he
  refine ⟨noL.keeps x.toInCall.keep, codeAny_func ?_⟩
  obtain ⟨t, ht, hq⟩ := hbody cdv A outer s H vs Q E (hr.deeper _) (by first | exact hgd | simpa using hgd) hsp
  have I : Inv (cxOf (L2.CX P w) P w K mg base Nn qual scope f cdv A outer s H E) [] (start Nn vs) H s1 := inv_start S hr.hd e0 (len _ _ _ _ hsp) r x
  refine wpAny_mono (ht.run [] s1 (start Nn vs) H _ I hq) (fun fl s' hs => ?_) fun e s' hs => hs
  cases fl with
  | ret u =>
    obtain ⟨v, σ', H', J, rv, q⟩ := hs
    exact ⟨v, H', J.os, J.bare, J.base, J.hok, rv, q⟩
  | next =>
    obtain ⟨σ', H', J, q⟩ := hs
    exact ⟨V.non, H', J.os, J.bare, J.base, J.hok, rfl, q⟩
  | brk =>
    obtain ⟨_, _, _, q⟩ := hs
    exact q.elim
  | cont =>
    obtain ⟨_, _, _, q⟩ := hs
    exact q.elim
/-! ### methods, new things -/
/-- o.m(e, ..), o.m() of a thing of the class at C -/
theorem run_mk {sp : Sp} {pins : List (Addr × Obj)} {H : Hp} {s : Shared} {Q : VK} {us : List Value} {vs : List V} (M : Mk X.K C f) (F : FnG X.prog X.w X.K X.mg X.base k f fd ps sp) (hr : Room (k + 1) X.A) (hgd : X.A.guards = some []) (hb : Binds X.K fd ps dvals) (hd : Vals dvs dvals) (tk : Takes X W)
    (I : Inv X pins σ H s) (r : Vals vs us)
    (h : ∀ x dx, H x = none → H dx = none → dx ≠ x → sp (.ref x :: (vs ++ dvs)) (upd (upd H dx (.own x)) x (.ins C dx [])) (fun v H2 => v = .non ∧ Q (.ref x) H2) (wx W σ)) :
    wpAny (model X.prog X.w) X.A (PySem.call (.ref C) us) (EP X pins σ Q) X.xe s := by
  have hq := h (s.heap.objs.size + 1) s.heap.objs.size (I.hok.fresh (Nat.le_succ _)) (I.hok.fresh (Nat.le_refl _)) (Nat.ne_of_lt (Nat.lt_succ_self _))
  have I2 := Inv.made (C := C) I
  have r2 : Vals (V.ref (s.heap.objs.size + 1) :: (vs ++ dvs)) (Value.ref (s.heap.objs.size + 1) :: (us ++ dvals)) := .cons rfl (r.append hd)
  have hl : (Value.ref (s.heap.objs.size + 1) :: us ++ dvals).length = ps.length := (r2.length.symm.trans (F.len _ _ _ _ hq))
  refine wpAny_call (make_map (f := f) I.kIn M.makes M.init (beq_iff_eq.mp M.fn) (codeAny_mono (F.run _ X.stack _ _ ⟨Value.ref (s.heap.objs.size + 1) :: us, []⟩ (Value.ref (s.heap.objs.size + 1) :: (us ++ dvals)) _ _ (wx W σ) (hr.make C us [])
    (by first | exact hgd | simpa [Around.under] using hgd) (I2.env0.make C us []) (hb _ (Value.ref (s.heap.objs.size + 1) :: us) I2.kIn hl) r2 hq) fun r s' hq' => ?_))
  cases r with
  | error e => exact passAt tk σ pins _ _ e s' I2 hq'
  | ok fl =>
    cases fl with
    | ret u =>
      obtain ⟨v, H', I3, rv, ev, q3⟩ := I2.after hq'
      subst ev
      exact ⟨rv, ⟨V.ref (s.heap.objs.size + 1), H', I3, rfl, q3⟩⟩
    | next => exact False.elim hq'
    | brk => exact False.elim hq'
    | cont => exact False.elim hq'
/-- the store and the heap with a new thing in it -/
theorem mk_sp {R : Run} {c fi : Nat} {H : Hp} {m : List Addr} {G : Hp} {st : Store} {ds : List D} {vs : List V} {Q : VK} {XX : XK} {np : Nat} (hf : (R.T.cls[c]?).bind (·.init) = some fi) (hl : ∀ ds st, ds.length ≠ np → R.call fi ds st = .stk) (rs : RelS (Bo X N) m G H st) (rv : repL (Bo X N) m G ds vs)
    (p : Post (Bo X N) m G H XX (fun d _ m' G' H' => ∀ v, repV (Bo X N) m' G' d v → Q v H') (mkD R c ds st)) (x dx : Addr) (hx : H x = none) (hdx : H dx = none) (hne : dx ≠ x) :
    SpN (Bo X N) (R.call fi) np (.ref x :: vs) (upd (upd H dx (.own x)) x (.ins (He.ga X.K (N.cls c)) dx [])) (fun v H2 => v = .non ∧ Q (.ref x) H2) XX := by
  have hx1 : upd H dx (.own x) x = none := by rw [upd_ne hne.symm]; exact hx
  have r1 : RelS (Bo X N) m G (upd H dx (.own x)) st := rs.loose hdx
  have e1 : Ext m G H m G (upd H dx (.own x)) := .loose rs hdx
  have c1 : CellOk (Bo X N) (m ++ [x]) G (upd (upd H dx (.own x)) x (.ins (He.ga X.K (N.cls c)) dx [])) x (.obj c [] []) := ⟨dx, [], upd_same, rfl, .nil'⟩
  have r2 := r1.push hx1 c1
  have e2 := e1.trans (Ext.push (o := .ins (He.ga X.K (N.cls c)) dx []) r1 hx1)
  have hrx : repV (Bo X N) (m ++ [x]) G (.ref st.length) (.ref x) := by rw [repV]; exact ⟨x, rfl, by rw [← rs.len]; simp⟩
  unfold mkD at p
  rw [hf] at p
  simp only at p
  have hln : (D.ref st.length :: ds).length = np := by
    cases Decidable.em ((D.ref st.length :: ds).length = np) with
    | inl h => exact h
    | inr h => rw [hl _ _ h] at p; exact p.elim
  refine ⟨m ++ [x], G, st ++ [.obj c [] []], .ref st.length :: ds, r2, .cons' hrx (repL.mono e2.pre e2.g _ _ rv), hln, ?_⟩
  cases e : R.call fi (.ref st.length :: ds) (st ++ [.obj c [] []]) with
  | ok d st' =>
    rw [e] at p
    cases d <;> first | (exact p.elim) | skip
    intro m' G' H' xx rr v hv
    exact ⟨repV_non.mp hv, p m' G' H' (e2.trans xx) rr _ (hrx.mono xx.pre xx.g)⟩
  | exc c vs st' =>
    rw [e] at p
    exact fun m' G' H' dx fvs xx rr h1 h2 => p m' G' H' dx fvs (e2.trans xx) rr h1 h2
  | stk => rw [e] at p; exact p.elim
theorem se_mk {R : Run} {c fi : Nat} (hf : (R.T.cls[c]?).bind (·.init) = some fi) (hl : ∀ ds st, ds.length ≠ np → R.call fi ds st = .stk) (M : Mk X.K (He.ga X.K (N.cls c)) f) (F : FnG X.prog X.w X.K X.mg X.base k f fd ps (SpN (Bo X N) (R.call fi) np)) (hr : Room (k + 1) X.A) (hgd : X.A.guards = some []) (hg : Gl X x) (hm : X.mg x = some (.ref (He.ga X.K (N.cls c))))
    (hb : Binds X.K fd ps dvals) (hd : Vals dvs dvals) (hdv : ∀ m G, repL (Bo X N) m G dds dvs) (tk : Takes X W) (ha : SA X N W (e :: es) xs) (hdb : (x == ("__debug__" : Str)) = false) (hs : (e :: es).all noStar = true) :
    SE X N W (.Call (.Name x p) (e :: es) [] pos) (fun env => bnd (xs env) fun ys => mkD R c (ys ++ dds)) := by
  have hs' : noStar e = true ∧ es.all noStar = true := by rw [List.all_cons, Bool.and_eq_true] at hs; exact hs
  refine ⟨fun pins s σ H Q I q => ?_⟩
  obtain ⟨m, G, st, env, rs, re, p⟩ := q
  refine wpAny_Call_Name_kw (ld_glob I hg hm ?_ hdb)
  refine PySem.W.callWith_K (h₀ := X.base) I.ok.mod.kin M.kp (thn (ha.run pos pins s σ H (fun vs H1 => ∀ x dx, H1 x = none → H1 dx = none → dx ≠ x → SpN (Bo X N) (R.call fi) np (.ref x :: (vs ++ dvs)) (upd (upd H1 dx (.own x)) x (.ins (He.ga X.K (N.cls c)) dx [])) (fun v H2 => v = .non ∧ Q (.ref x) H2) (wx W σ)) I ?_) fun us s1 ⟨vs, H1, I1, r, q⟩ => ⟨I1.kIn, ?_⟩) (star_consN hs'.1) (star_plain hs'.2).1
  · refine to_tDA rs re p fun ds st1 m1 G1 H1 vs rs1 re1 x1 hv p1 => ?_
    exact fun x dx hx hdx hne => mk_sp hf hl rs1 (hv.append (hdv _ _)) p1 x dx hx hdx hne
  · exact run_mk M F hr hgd hb hd tk I1 r q
theorem se_mk0 {R : Run} {c fi : Nat} (hf : (R.T.cls[c]?).bind (·.init) = some fi) (hl : ∀ ds st, ds.length ≠ np → R.call fi ds st = .stk) (M : Mk X.K (He.ga X.K (N.cls c)) f) (F : FnG X.prog X.w X.K X.mg X.base k f fd ps (SpN (Bo X N) (R.call fi) np)) (hr : Room (k + 1) X.A) (hgd : X.A.guards = some []) (hg : Gl X x) (hm : X.mg x = some (.ref (He.ga X.K (N.cls c))))
    (hb : Binds X.K fd ps dvals) (hd : Vals dvs dvals) (hdv : ∀ m G, repL (Bo X N) m G dds dvs) (tk : Takes X W) (hdb : (x == ("__debug__" : Str)) = false) :
    SE X N W (.Call (.Name x p) [] [] pos) (fun env => bnd (ret []) fun ys => mkD R c (ys ++ dds)) := by
  refine ⟨fun pins s σ H Q I q => ?_⟩
  obtain ⟨m, G, st, env, rs, re, p⟩ := q
  refine wpAny_Call_Name_kw (ld_glob I hg hm ?_ hdb)
  refine PySem.W.callWith_K0 I.kIn M.kp (run_mk (us := []) (vs := []) M F hr hgd hb hd tk I .nil ?_)
  exact fun x dx hx hdx hne => mk_sp hf hl rs (repL.nil'.append (hdv _ _)) p x dx hx hdx hne
theorem look_none {B : Wo} (inj : ∀ i j, B.N.fld i = B.N.fld j → i = j) {f : Nat} : ∀ {ns : List Nat} {fvs : List (Str × V)}, fvs.map (·.1) = ns.map B.N.fld → f ∉ ns → fvs.lookup (B.N.fld f) = none
  | [], fvs, e, _ => by
    have : fvs = [] := by simpa using e
    subst this; rfl
  | n :: ns, [], e, _ => by simp at e
  | n :: ns, p :: fvs, e, h => by
    rw [List.map_cons, List.map_cons] at e
    injection e with e1 e2
    rw [List.mem_cons, not_or] at h
    obtain ⟨pn, pv⟩ := p
    simp only at e1
    subst e1
    rw [look_cons, if_neg (fun z => h.1 (inj _ _ z)), look_none inj e2 h.2]
/-- what is read off the machine about a method -/
structure MthFx (X : Cx) (N : Nms) (R : Run) (k : Nat) (m : Nat) (dds : List D) : Prop where
  ok : ∀ c fi, ((R.T.cls[c]?).bind fun e => e.meths.lookup m) = some fi → Cls X.K (He.ga X.K (N.cls c)) ∧ Meth X.K (He.ga X.K (N.cls c)) (N.fld m) (He.fAd X.K (N.fn fi)) ∧
    ∃ fd ps np dvals dvs, FnG X.prog X.w X.K X.mg X.base k (He.fAd X.K (N.fn fi)) fd ps (SpN (Bo X N) (R.call fi) np) ∧ (∀ ds st, ds.length ≠ np → callD R fi ds st = .stk) ∧ Binds X.K fd ps dvals ∧ Vals dvs dvals ∧ ∀ m G, repL (Bo X N) m G dds dvs
theorem meth_at {R : Run} {m : List Addr} {G H : Hp} {st : Store} {d : D} {v : V} {mi fi : Nat} (inj : ∀ i j, N.fld i = N.fld j → i = j) (r : RelS (Bo X N) m G H st) (h : repV (Bo X N) m G d v) (e : methOf R.T st d mi = some fi) :
    ∃ c a dx fvs, ((R.T.cls[c]?).bind fun e => e.meths.lookup mi) = some fi ∧ v = .ref a ∧ H a = some (.ins (He.ga X.K (N.cls c)) dx fvs) ∧ fvs.lookup (N.fld mi) = none := by
  unfold methOf at e
  split at e
  · rename_i c ns vs hc
    split at e
    · cases e
    · rename_i hn
      obtain ⟨a, dx, fvs, rfl, ha, e1, _⟩ := obj_at r h hc
      exact ⟨c, a, dx, fvs, e, rfl, ha, look_none (B := Bo X N) inj e1 hn⟩
  · cases e
theorem se_mth {R : Run} {mi : Nat} {pl : Sem Bool} (inj : ∀ i j, N.fld i = N.fld j → i = j) (MF : MthFx X N R k mi dds) (hr : Room k X.A) (hgd : X.A.guards = some []) (tk : Takes X W) (ho : SE X N W o xo) (ha : SA X N W (e :: es) xs) (hs : (e :: es).all noStar = true)
    (ht : eval (.Call (.Attribute o (N.fld mi) apos) (e :: es) [] pos) X.env = (do
      let ov ← eval o X.env
      standAt apos.atName
      let (f, first) ← holding [ov] (getMethod ov (N.fld mi) pl)
      callWith pos f first (backTo pos (starEach (e :: es) X.env)) (backToKw pos (keywordEach [] X.env)))) :
    SE X N W (.Call (.Attribute o (N.fld mi) apos) (e :: es) [] pos) (fun env => bnd (xo env) fun x => fun st => match methOf R.T st x mi with
      | some f => bnd (xs env) (fun ys => callD R f (x :: (ys ++ dds))) st
      | none => .stk) := by
  have hs' : noStar e = true ∧ es.all noStar = true := by rw [List.all_cons, Bool.and_eq_true] at hs; exact hs
  refine ⟨fun pins s σ H Q I q => ?_⟩
  obtain ⟨m, G, st, env, rs, re, p⟩ := q
  refine PySem.W.methodCall_KW (pl := pl) (thn (ho.run pins s σ H (fun v H1 => ∃ c fi a dx fvs m1 G1 st1 d, ((R.T.cls[c]?).bind fun e => e.meths.lookup mi) = some fi ∧ v = .ref a ∧ H1 a = some (.ins (He.ga X.K (N.cls c)) dx fvs) ∧ fvs.lookup (N.fld mi) = none ∧
      RelS (Bo X N) m1 G1 H1 st1 ∧ RelE (Bo X N) m1 G1 env σ ∧ repV (Bo X N) m1 G1 d v ∧ Post (Bo X N) m1 G1 H1 (wx W σ) (fun d _ m' G' H' => ∀ v, repV (Bo X N) m' G' d v → Q v H') (bnd (xs env) (fun ys => callD R fi (d :: (ys ++ dds))) st1)) I ?_)
      fun u s1 ⟨x, H1, I1, rx, c, fi, a, dx, fvs, m1, G1, st1, d, h1, h2, h3, h4, h5, h6, h7, h8⟩ => ?_) ht
  · refine to_tD rs re p fun x st1 m1 G1 H1 v rs1 re1 x1 hv p1 => ?_
    cases e : methOf R.T st1 x mi with
    | some fi =>
      simp only [e] at p1
      obtain ⟨c, a, dx, fvs, e1, e2, e3, e4⟩ := meth_at inj rs1 hv e
      exact ⟨c, fi, a, dx, fvs, m1, G1, st1, x, e1, e2, e3, e4, rs1, re1, hv, p1⟩
    | none => simp only [e] at p1; exact p1.elim
  · subst h2
    obtain rfl : u = Value.ref a := rx
    obtain ⟨cl, mm, fd, ps, np, dvals, dvs, F, hl, hb, hd, hdv⟩ := MF.ok c fi h1
    refine getmeth_ok I1 h3 cl mm h4 ?_
    refine PySem.W.callWith_K (first := [.ref a]) (h₀ := X.base) I.ok.mod.kin mm.kp (thn (ha.run pos pins s1 σ H1 (fun vs H2 => SpN (Bo X N) (R.call fi) np ((.ref a :: vs) ++ dvs) H2 Q (wx W σ)) I1 ?_) fun us s2 ⟨vs, H2, I2, r, q2⟩ => ⟨I2.kIn, ?_⟩) (star_consN hs'.1) (star_plain hs'.2).1
    · refine to_tDA h5 h6 h8 fun ds st2 m2 G2 H2 vs rs2 re2 x2 hvs p2 => ?_
      have hln : (d :: (ds ++ dds)).length = np := by
        cases Decidable.em ((d :: (ds ++ dds)).length = np) with
        | inl h => exact h
        | inr h => rw [hl _ _ h] at p2; exact p2.elim
      obtain ⟨m0, st0, r0, rv0, p0⟩ := obeys_D _ _ _ _ _ _ _ _ _ rs2 (repL.cons' (h7.mono x2.pre x2.g) (hvs.append (hdv _ _))) p2
      exact ⟨m0, G2, st0, _, r0, rv0, hln, p0⟩
    · exact run_fnG (us := .ref a :: us) (vs := .ref a :: vs) F hr hgd hb hd tk I2 (.cons rfl r) q2
theorem se_mth0 {R : Run} {mi : Nat} {pl : Sem Bool} (inj : ∀ i j, N.fld i = N.fld j → i = j) (MF : MthFx X N R k mi dds) (hr : Room k X.A) (hgd : X.A.guards = some []) (tk : Takes X W) (ho : SE X N W o xo)
    (ht : eval (.Call (.Attribute o (N.fld mi) apos) [] [] pos) X.env = (do
      let ov ← eval o X.env
      standAt apos.atName
      let (f, first) ← holding [ov] (getMethod ov (N.fld mi) pl)
      callWith pos f first (backTo pos (starEach [] X.env)) (backToKw pos (keywordEach [] X.env)))) :
    SE X N W (.Call (.Attribute o (N.fld mi) apos) [] [] pos) (fun env => bnd (xo env) fun x => fun st => match methOf R.T st x mi with
      | some f => bnd (ret []) (fun ys => callD R f (x :: (ys ++ dds))) st
      | none => .stk) := by
  refine ⟨fun pins s σ H Q I q => ?_⟩
  obtain ⟨m, G, st, env, rs, re, p⟩ := q
  refine PySem.W.methodCall_KW (pl := pl) (thn (ho.run pins s σ H (fun v H1 => ∃ c fi a dx fvs m1 G1 st1 d, ((R.T.cls[c]?).bind fun e => e.meths.lookup mi) = some fi ∧ v = .ref a ∧ H1 a = some (.ins (He.ga X.K (N.cls c)) dx fvs) ∧ fvs.lookup (N.fld mi) = none ∧
      RelS (Bo X N) m1 G1 H1 st1 ∧ repV (Bo X N) m1 G1 d v ∧ Post (Bo X N) m1 G1 H1 (wx W σ) (fun d _ m' G' H' => ∀ v, repV (Bo X N) m' G' d v → Q v H') (callD R fi (d :: ([] ++ dds)) st1)) I ?_)
      fun u s1 ⟨x, H1, I1, rx, c, fi, a, dx, fvs, m1, G1, st1, d, h1, h2, h3, h4, h5, h7, h8⟩ => ?_) ht
  · refine to_tD rs re p fun x st1 m1 G1 H1 v rs1 re1 x1 hv p1 => ?_
    cases e : methOf R.T st1 x mi with
    | some fi =>
      simp only [e] at p1
      obtain ⟨c, a, dx, fvs, e1, e2, e3, e4⟩ := meth_at inj rs1 hv e
      exact ⟨c, fi, a, dx, fvs, m1, G1, st1, x, e1, e2, e3, e4, rs1, hv, p1⟩
    | none => simp only [e] at p1; exact p1.elim
  · subst h2
    obtain rfl : u = Value.ref a := rx
    obtain ⟨cl, mm, fd, ps, np, dvals, dvs, F, hl, hb, hd, hdv⟩ := MF.ok c fi h1
    refine getmeth_ok I1 h3 cl mm h4 ?_
    refine PySem.W.callWith_K0 (first := [.ref a]) I1.kIn mm.kp (run_fnG (us := [.ref a]) (vs := [.ref a]) F hr hgd hb hd tk I1 (.cons rfl .nil) ?_)
    have hln : (d :: ([] ++ dds)).length = np := by
      cases Decidable.em ((d :: ([] ++ dds)).length = np) with
      | inl h => exact h
      | inr h => rw [hl _ _ h] at h8; exact h8.elim
    obtain ⟨m0, st0, r0, rv0, p0⟩ := obeys_D _ _ _ _ _ _ _ _ _ h5 (repL.cons' h7 (repL.nil'.append (hdv _ _))) h8
    exact ⟨m0, G1, st0, _, r0, rv0, hln, p0⟩
end
end Dn
end
section
set_option Elab.async false
set_option linter.all false
set_option maxRecDepth 100000
set_option maxHeartbeats 4000000
/-! Dn16: statements. Own work. -/
namespace Dn
open PySem PySem.Spec PyProof.Rows L2

/-- what is wanted behind a statement -/
def PostF (B : Wo) (W : WX) (m : List Addr) (G H : Hp) (E : Ends) : Fl → Prop
  | .nx env st => ∀ m' G' H' σ', Ext m G H m' G' H' → RelS B m' G' H' st → RelE B m' G' env σ' → E.nx σ' H'
  | .rt d st => ∀ m' G' H' v, Ext m G H m' G' H' → RelS B m' G' H' st → repV B m' G' d v → E.rt v H'
  | .bk env st => ∀ m' G' H' σ', Ext m G H m' G' H' → RelS B m' G' H' st → RelE B m' G' env σ' → E.bk σ' H'
  | .ct env st => ∀ m' G' H' σ', Ext m G H m' G' H' → RelS B m' G' H' st → RelE B m' G' env σ' → E.ct σ' H'
  | .xc c vs env st => ∀ m' G' H' σ' dx fvs, Ext m G H m' G' H' → RelS B m' G' H' st → RelE B m' G' env σ' → ExAt B c H' dx fvs → repL B m' G' vs (fvs.map (·.2)) → W (.ref (He.ga B.K (B.N.cls c))) (some dx) σ' H'
  | .stk => False
/-- the reading of a statement -/
def tS (B : Wo) (W : WX) (x : Env → Store → Fl) : TS := fun E σ H => ∃ m G st env, RelS B m G H st ∧ RelE B m G env σ ∧ PostF B W m G H E (x env st)
abbrev SS (X : Cx) (N : Nms) (W : WX) (s : Stmt) (x : Env → Store → Fl) : Prop := PS X s (tS (Bo X N) W x)
abbrev SSs (X : Cx) (N : Nms) (W : WX) (ss : List Stmt) (x : Env → Store → Fl) : Prop := PSs X ss (tS (Bo X N) W x)
section
variable {B : Wo} {W : WX} {m m1 : List Addr} {G G1 H H1 : Hp} {st : Store} {env : Env} {σ : L2.St} {E : Ends} {α : Type}
theorem PostF.ext {r : Fl} (x : Ext m G H m1 G1 H1) (h : PostF B W m G H E r) : PostF B W m1 G1 H1 E r := by
  cases r with
  | nx env st => exact fun m' G' H' σ' y => h m' G' H' σ' (x.trans y)
  | rt d st => exact fun m' G' H' v y => h m' G' H' v (x.trans y)
  | bk env st => exact fun m' G' H' σ' y => h m' G' H' σ' (x.trans y)
  | ct env st => exact fun m' G' H' σ' y => h m' G' H' σ' (x.trans y)
  | xc c vs env st => exact fun m' G' H' σ' dx fvs y => h m' G' H' σ' dx fvs (x.trans y)
  | stk => exact h
/-- first a value, then what follows -/
theorem PostF.vl {x : M α} {k : α → Store → Fl} (re : RelE B m G env σ) (p : PostF B W m G H E (Dn.vl x env st k)) : Post B m G H (wx W σ) (fun a st1 m1 G1 H1 => PostF B W m1 G1 H1 E (k a st1)) (x st) := by
  unfold Dn.vl at p
  cases e : x st with
  | ok a st' => rw [e] at p; exact fun m' G' H' y r => p.ext y
  | exc c vs st' => rw [e] at p; exact fun m' G' H' dx fvs y r h1 h2 => p m' G' H' σ dx fvs y r (re.ext y) h1 h2
  | stk => rw [e] at p; exact p
theorem vl_tD {x : Env → M D} {k : D → Store → Fl} {Q : VK} (rs : RelS B m G H st) (re : RelE B m G env σ) (p : PostF B W m G H E (Dn.vl (x env) env st k))
    (h : ∀ d st1 m1 G1 H1 v, RelS B m1 G1 H1 st1 → RelE B m1 G1 env σ → Ext m G H m1 G1 H1 → repV B m1 G1 d v → PostF B W m1 G1 H1 E (k d st1) → Q v H1) : tD B W x σ H Q :=
  ⟨m, G, st, env, rs, re, (p.vl re).mono fun d st1 m1 G1 H1 x1 rs1 p1 v hv => h d st1 m1 G1 H1 v rs1 (re.ext x1) x1 hv p1⟩
theorem vl_tDB {x : Env → M Bool} {k : Bool → Store → Fl} {Q : Bool → Hp → Prop} (rs : RelS B m G H st) (re : RelE B m G env σ) (p : PostF B W m G H E (Dn.vl (x env) env st k))
    (h : ∀ d st1 m1 G1 H1, RelS B m1 G1 H1 st1 → RelE B m1 G1 env σ → Ext m G H m1 G1 H1 → PostF B W m1 G1 H1 E (k d st1) → Q d H1) : tDB B W x σ H Q :=
  ⟨m, G, st, env, rs, re, (p.vl re).mono fun d st1 m1 G1 H1 x1 rs1 p1 => h d st1 m1 G1 H1 rs1 (re.ext x1) x1 p1⟩
theorem vl_tDA {x : Env → M (List D)} {k : List D → Store → Fl} {Q : List V → Hp → Prop} (rs : RelS B m G H st) (re : RelE B m G env σ) (p : PostF B W m G H E (Dn.vl (x env) env st k))
    (h : ∀ ds st1 m1 G1 H1 vs, RelS B m1 G1 H1 st1 → RelE B m1 G1 env σ → Ext m G H m1 G1 H1 → repL B m1 G1 ds vs → PostF B W m1 G1 H1 E (k ds st1) → Q vs H1) : tDA B W x σ H Q :=
  ⟨m, G, st, env, rs, re, (p.vl re).mono fun d st1 m1 G1 H1 x1 rs1 p1 v hv => h d st1 m1 G1 H1 v rs1 (re.ext x1) x1 hv p1⟩
theorem PostF.nxt (rs : RelS B m G H st) (re : RelE B m G env σ) (p : PostF B W m G H E (.nx env st)) : E.nx σ H := p m G H σ (.refl ..) rs re
theorem PS.cond {X : Cx} {s : Stmt} {t : TS} (h : X.Ok → PS X s t) : PS X s t := ⟨fun pins sh σ H E I q => (h I.ok).run pins sh σ H E I q⟩
theorem PE.cond {X : Cx} {e : Expr} {t : TE} (h : X.Ok → PE X e t) : PE X e t := ⟨fun pins sh σ H E I q => (h I.ok).run pins sh σ H E I q⟩
theorem PSs.cond {X : Cx} {s : List Stmt} {t : TS} (h : X.Ok → PSs X s t) : PSs X s t := ⟨fun pins sh σ H E I q => (h I.ok).run pins sh σ H E I q⟩
end
section
variable {X : Cx} {N : Nms} {W : WX} {a b c e o : Expr} {xa xb xc xe xo : Env → M D} {pos : Pos} {s : Stmt} {ss ss' : List Stmt} {y y1 y2 : Env → Store → Fl}
theorem ss_nil : SSs X N W [] (fun env st => .nx env st) := PSs.imp pss_nil fun E σ H q => by
  obtain ⟨m, G, st, env, rs, re, p⟩ := q
  exact p.nxt rs re
theorem ss_cons (h1 : SS X N W s y1) (h2 : SSs X N W ss y2) : SSs X N W (s :: ss) (fun env st => sq (y1 env st) y2) := by
  refine PSs.imp (pss_cons h1 h2) fun E σ H q => ?_
  obtain ⟨m, G, st, env, rs, re, p⟩ := q
  refine ⟨m, G, st, env, rs, re, ?_⟩
  cases e : y1 env st with
  | nx env' st' => simp only [e, sq] at p; exact fun m' G' H' σ' xx rr ee => ⟨m', G', st', env', rr, ee, p.ext xx⟩
  | rt d st' => simp only [e, sq] at p; exact p
  | bk env' st' => simp only [e, sq] at p; exact p
  | ct env' st' => simp only [e, sq] at p; exact p
  | xc c vs env' st' => simp only [e, sq] at p; exact p
  | stk => simp only [e, sq] at p; exact p
theorem ss_exp (he : SE X N W e xe) (hs : swapsWith e none pos.line X.env = pure false) : SS X N W (.Expr e pos) (fun env st => vl (xe env) env st fun _ st1 => .nx env st1) := by
  refine PS.imp (ps_expr he hs) fun E σ H q => ?_
  obtain ⟨m, G, st, env, rs, re, p⟩ := q
  exact vl_tD rs re p fun d st1 m1 G1 H1 v rs1 re1 x1 hv p1 => p1.nxt rs1 re1
theorem ss_doc {x j pos pos'} : SS X N W (.Expr (.Constant (.str x) j pos) pos') (fun env st => .nx env st) := PS.imp ps_doc fun E σ H q => by
  obtain ⟨m, G, st, env, rs, re, p⟩ := q
  exact p.nxt rs re
theorem ss_pass : SS X N W (.Pass pos) (fun env st => .nx env st) := PS.imp ps_pass fun E σ H q => by
  obtain ⟨m, G, st, env, rs, re, p⟩ := q
  exact p.nxt rs re
theorem ss_break : SS X N W (.Break pos) (fun env st => .bk env st) := PS.imp ps_break fun E σ H q => by
  obtain ⟨m, G, st, env, rs, re, p⟩ := q
  exact p m G H σ (.refl ..) rs re
theorem ss_cont : SS X N W (.Continue pos) (fun env st => .ct env st) := PS.imp ps_continue fun E σ H q => by
  obtain ⟨m, G, st, env, rs, re, p⟩ := q
  exact p m G H σ (.refl ..) rs re
theorem ss_ret (he : SE X N W e xe) : SS X N W (.Return (some e) pos) (fun env st => vl (xe env) env st fun x st1 => .rt x st1) := by
  refine PS.imp (ps_ret he) fun E σ H q => ?_
  obtain ⟨m, G, st, env, rs, re, p⟩ := q
  exact vl_tD rs re p fun d st1 m1 G1 H1 v rs1 re1 x1 hv p1 => p1 m1 G1 H1 v (.refl ..) rs1 hv
theorem ss_retN : SS X N W (.Return none pos) (fun _ st => .rt .non st) := PS.imp ps_retN fun E σ H q => by
  obtain ⟨m, G, st, env, rs, re, p⟩ := q
  exact p m G H .non (.refl ..) rs (repV_non.mpr rfl)
theorem ss_if {xt : Env → M Bool} (hc : ST X N W c xt) (h1 : SSs X N W ss y1) (h2 : SSs X N W ss' y2) : SS X N W (.If c ss ss' pos) (fun env st => vl (xt env) env st fun k st1 => if k then y1 env st1 else y2 env st1) := by
  refine PS.imp (ps_if hc h1 h2) fun E σ H q => ?_
  obtain ⟨m, G, st, env, rs, re, p⟩ := q
  refine vl_tDB rs re p fun k st1 m1 G1 H1 rs1 re1 x1 p1 => ?_
  cases k with
  | true => rw [if_pos rfl]; exact ⟨m1, G1, st1, env, rs1, re1, p1⟩
  | false => rw [if_neg Bool.false_ne_true]; exact ⟨m1, G1, st1, env, rs1, re1, p1⟩
/-! ### targets -/
/-- what a target does with a value that may be unpacked -/
def repU (B : Wo) (m : List Addr) (G H : Hp) (d : D) (v : V) : Prop := repV B m G d v ∨ ∃ ds a xs, d = .tup ds ∧ v = .ref a ∧ SqT B.K H a xs ∧ repL B m G ds xs
/-- but for the slots is, nothing changed -/
def Keeps (is : List Nat) (σ σ' : L2.St) : Prop := ∀ vs : List Nat, (∀ i ∈ is, i ∈ vs) → L2.wipe σ' vs = L2.wipe σ vs
theorem Keeps.refl (σ : L2.St) (is : List Nat) : Keeps is σ σ := fun _ _ => rfl
theorem wipe_set {σ : L2.St} {i : Nat} {o : Option V} : ∀ {vs : List Nat}, i ∈ vs → L2.wipe (σ.set i o) vs = L2.wipe σ vs
  | v :: vs, h => by
    unfold L2.wipe
    by_cases e : v = i
    · subst e
      have : ∀ ws : List Nat, (L2.wipe (σ.set v o) ws).set v none = (L2.wipe σ ws).set v none := by
        intro ws
        induction ws with
        | nil => unfold L2.wipe; rw [List.set_set]
        | cons w ws ih =>
          unfold L2.wipe
          by_cases e : w = v
          · subst e; rw [List.set_set, List.set_set, ih]
          · rw [List.set_comm _ _ e, ih, List.set_comm _ _ (Ne.symm e)]
      exact this vs
    · have : i ∈ vs := by
        rcases List.mem_cons.mp h with z | z
        · exact absurd z.symm e
        · exact z
      rw [wipe_set this]
theorem Keeps.set {σ : L2.St} {i : Nat} {o : Option V} : Keeps [i] σ (σ.set i o) := fun vs h => wipe_set (h i (by simp))
theorem Keeps.trans {is js : List Nat} {σ σ1 σ2 : L2.St} (a : Keeps is σ σ1) (b : Keeps js σ1 σ2) : Keeps (is ++ js) σ σ2 := fun vs h => (b vs fun i q => h i (List.mem_append_right _ q)).trans (a vs fun i q => h i (List.mem_append_left _ q))
def tG (B : Wo) (t : Tg) : TG := fun v σ H Q => ∃ m G st env env' d, RelS B m G H st ∧ RelE B m G env σ ∧ repV B m G d v ∧ bindT st t d env = some env' ∧ ∀ σ', RelE B m G env' σ' → Keeps t.vars σ σ' → Q σ' H
def tGs (B : Wo) (ts : List Tg) : TGs := fun vs σ H Q => ∃ m G st env env' ds, RelS B m G H st ∧ RelE B m G env σ ∧ repL B m G ds vs ∧ bindTs st ts ds env = some env' ∧ ∀ σ', RelE B m G env' σ' → Keeps (Tg.varsL ts) σ σ' → Q σ' H
theorem PG.imp {X : Cx} {e : Expr} {t t' : TG} (h : PG X e t) (k : ∀ v σ H Q, t' v σ H Q → t v σ H Q) : PG X e t' := ⟨fun pins s σ H v u Q I r q => h.run pins s σ H v u Q I r (k v σ H Q q)⟩
theorem PGs.imp {X : Cx} {e : List Expr} {t t' : TGs} (h : PGs X e t) (k : ∀ v σ H Q, t' v σ H Q → t v σ H Q) : PGs X e t' := ⟨fun pins s σ H v u Q I r q => h.run pins s σ H v u Q I r (k v σ H Q q)⟩
abbrev SG (X : Cx) (N : Nms) (e : Expr) (t : Tg) : Prop := PG X e (tG (Bo X N) t)
abbrev SGs (X : Cx) (N : Nms) (es : List Expr) (ts : List Tg) : Prop := PGs X es (tGs (Bo X N) ts)
theorem sg_var {i : Nat} {x : Str} (hN : X.N.Nodup) (hi : X.N[i]? = some x) (hx : Loc X.env.scope x) (hf : X.fn x = true ∨ X.env.scope.names.lookup x = some .local) : SG X N (.Name x pos) (.v i) := by
  refine PG.imp (pg_name hN hi hx hf) fun v σ H Q q => ?_
  obtain ⟨m, G, st, env, env', d, rs, re, hv, e, q⟩ := q
  rw [bindT] at e
  split at e
  · cases e; exact q _ (re.set i hv) (by rw [Tg.vars]; exact .set)
  · cases e
theorem sgs_nil : SGs X N [] [] := by
  refine PGs.imp pgs_nil fun vs σ H Q q => ?_
  obtain ⟨m, G, st, env, env', ds, rs, re, hv, e, q⟩ := q
  cases ds with
  | nil => rw [bindTs] at e; cases e; rw [repL] at hv; exact ⟨hv, q σ re (Keeps.refl σ _)⟩
  | cons _ _ => rw [bindTs] at e; cases e; all_goals simp
theorem sgs_cons {t : Tg} {ts : List Tg} {es : List Expr} (h1 : SG X N e t) (h2 : SGs X N es ts) (hs : (assignEach (e :: es) X.env).map (·.2) = assign e X.env :: (assignEach es X.env).map (·.2)) : SGs X N (e :: es) (t :: ts) := by
  refine PGs.imp (pgs_cons h1 h2 hs) fun vs σ H Q q => ?_
  obtain ⟨m, G, st, env, env', ds, rs, re, hv, e, q⟩ := q
  cases ds with
  | nil => rw [bindTs] at e; cases e; all_goals simp
  | cons d ds =>
    rw [bindTs] at e
    rw [repL] at hv
    obtain ⟨v, vs', rfl, hv1, hv2⟩ := hv
    obtain ⟨env1, e1, e2⟩ := Option.bind_eq_some_iff.mp e
    exact ⟨v, vs', rfl, m, G, st, env, env1, d, rs, re, hv1, e1, fun σ1 re1 k1 => ⟨m, G, st, env1, env', ds, rs, re1, hv2, e2, fun σ2 re2 k2 => q σ2 re2 (by rw [Tg.varsL]; exact k1.trans k2)⟩⟩
theorem asgE_cons {e : Expr} {es : List Expr} {env : PySem.Env} (h : noStar e = true) : assignEach (e :: es) env = (false, assign e env) :: assignEach es env := by
  cases e <;> first | (cases h; done) | rfl
theorem asgE_plain {env : PySem.Env} : ∀ {es : List Expr}, es.all noStar = true → (assignEach es env).length = es.length ∧ (assignEach es env).findIdx? (·.1) = none
  | [], _ => ⟨rfl, rfl⟩
  | e :: es, h => by
    rw [List.all_cons, Bool.and_eq_true] at h
    obtain ⟨h1, h2⟩ := asgE_plain (env := env) h.2
    rw [asgE_cons h.1]
    refine ⟨by simp [h1], ?_⟩
    rw [List.findIdx?_cons, h2]
    rfl
/-- a tuple that may be unpacked -/
def tGU (B : Wo) (ts : List Tg) : TG := fun v σ H Q => ∃ m G st env env' a vs ds, v = .ref a ∧ SqT B.K H a vs ∧ RelS B m G H st ∧ RelE B m G env σ ∧ repL B m G ds vs ∧ bindTs st ts ds env = some env' ∧ ∀ σ', RelE B m G env' σ' → Keeps (Tg.varsL ts) σ σ' → Q σ' H
theorem bindTs_len {st : Store} : ∀ {ts : List Tg} {ds : List D} {env env' : Env}, bindTs st ts ds env = some env' → ds.length = ts.length
  | [], [], _, _, _ => rfl
  | [], _ :: _, _, _, h => by rw [bindTs] at h; cases h; all_goals simp
  | _ :: _, [], _, _, h => by rw [bindTs] at h; cases h; all_goals simp
  | t :: ts, d :: ds, _, _, h => by
    rw [bindTs] at h
    obtain ⟨e1, _, h2⟩ := Option.bind_eq_some_iff.mp h
    rw [List.length_cons, List.length_cons, bindTs_len h2]
theorem sgu_tup {es : List Expr} {k : Nat} {ts : List Tg} (hc : X.calm = true) (h : SGs X N es ts) (hs : es.all noStar = true) (hl : es.length = ts.length) : PG X (.Tuple es k pos) (tGU (Bo X N) ts) := by
  refine PG.imp (pg_tup (n := es.length) hc h (asgE_plain hs).1 (asgE_plain hs).2) fun v σ H Q q => ?_
  obtain ⟨m, G, st, env, env', a, vs, ds, rfl, sq, rs, re, rv, e, q⟩ := q
  exact ⟨a, vs, rfl, sq, by rw [rv.length, bindTs_len e, hl], m, G, st, env, env', ds, rs, re, rv, e, q⟩
theorem sg_tup {es : List Expr} {k : Nat} {ts : List Tg} (hc : X.calm = true) (h : SGs X N es ts) (hs : es.all noStar = true) (hl : es.length = ts.length) : SG X N (.Tuple es k pos) (.t ts) := by
  refine PG.imp (sgu_tup hc h hs hl) fun v σ H Q q => ?_
  obtain ⟨m, G, st, env, env', d, rs, re, hv, e, q⟩ := q
  rw [bindT] at e
  split at e
  · rename_i ds c
    obtain ⟨a, vs, rfl, ta, rl⟩ := tup_at rs hv c
    exact ⟨m, G, st, env, env', a, vs, ds, rfl, ta.seq, rs, re, rl, e, fun σ' r' k' => q σ' r' (by rw [Tg.vars]; exact k')⟩
  · cases e
/-! ### assignments -/
def isComp : Expr → Bool
  | .ListComp .. => true
  | .SetComp .. => true
  | .DictComp .. => true
  | _ => false
theorem swaps_no {e : Expr} {t : Option Expr} {l : Nat} {env : PySem.Env} (h : isComp e = false) : swapsWith e t l env = pure false := by
  cases e <;> first | (cases h; done) | rfl
def isTup : Expr → Bool
  | .Tuple .. => true
  | _ => false
theorem stores_no {ts : List Expr} {e : Expr} {env : PySem.Env} (h : isTup e = false) : swappedStores ts e env = pure none := by
  unfold swappedStores
  split
  · rename_i q
    split at q
    · cases h
    · cases h
    · cases q
  · rfl
theorem ss_asgV {i : Nat} {x : Str} {pos' : Pos} (hN : X.N.Nodup) (hi : X.N[i]? = some x) (hx : Loc X.env.scope x) (hf : X.fn x = true ∨ X.env.scope.names.lookup x = some .local) (he : SE X N W e xe) (hc : isComp e = false) :
    SS X N W (.Assign [.Name x pos'] e pos) (fun env st => vl (xe env) env st fun y st1 => match bindT st1 (.v i) y env with
    | some env' => .nx env' st1
    | none => .stk) := by
  refine PS.imp (ps_set hN hi hx he (swaps_no hc) hf) fun E σ H q => ?_
  obtain ⟨m, G, st, env, rs, re, p⟩ := q
  refine vl_tD rs re p fun d st1 m1 G1 H1 v rs1 re1 x1 hv p1 => ?_
  rw [bindT] at p1
  split at p1
  · rename_i env' h
    split at h
    · cases h; exact p1.nxt rs1 (re1.set i hv)
    · cases h
  · exact p1.elim
theorem ss_asgT {es : List Expr} {k : Nat} {ts : List Tg} {pos' : Pos} (hg : SG X N (.Tuple es k pos') (.t ts)) (he : SE X N W e xe) (hc : isComp e = false) (ht : isTup e = false) :
    SS X N W (.Assign [.Tuple es k pos'] e pos) (fun env st => vl (xe env) env st fun y st1 => match bindT st1 (.t ts) y env with
    | some env' => .nx env' st1
    | none => .stk) := by
  refine PS.imp (ps_asg he hg (by first | (unfold swapsWithSole; exact swaps_no hc) | (rw [swapsWithSole]; exact swaps_no hc) | (cases e <;> first | (cases hc; done) | rfl)) (stores_no ht) rfl) fun E σ H q => ?_
  obtain ⟨m, G, st, env, rs, re, p⟩ := q
  refine vl_tD rs re p fun d st1 m1 G1 H1 v rs1 re1 x1 hv p1 => ?_
  cases h : bindT st1 (.t ts) d env with
  | some env' => simp only [h] at p1; exact ⟨m1, G1, st1, env, env', d, rs1, re1, hv, h, fun σ' re' _ => p1.nxt rs1 re'⟩
  | none => simp only [h] at p1; exact p1.elim
theorem ss_par2 {i j : Nat} {x y : Str} {px py pt pos2 : Pos} {kt k2 : Nat} {xs : Env → M (List D)} (hc : X.calm = true) (hN : X.N.Nodup) (hi : X.N[i]? = some x) (hj : X.N[j]? = some y) (hij : i ≠ j)
    (hx : X.env.scope.names.lookup x = some .local) (hy : X.env.scope.names.lookup y = some .local) (ha : SA X N W [a, b] xs)
    (hw : swappedStores [.Tuple [.Name x px, .Name y py] kt pt] (.Tuple [a, b] k2 pos2) X.env = pure (some [x, y])) :
    SS X N W (.Assign [.Tuple [.Name x px, .Name y py] kt pt] (.Tuple [a, b] k2 pos2) pos) (fun env st => vl (xs env) env st fun ys st1 => match setL [i, j] ys env with
    | some env' => .nx env' st1
    | none => .stk) := by
  refine PS.imp (ps_par hc hN hi hj hij hx hy ha hw rfl) fun E σ H q => ?_
  obtain ⟨m, G, st, env, rs, re, p⟩ := q
  refine vl_tDA rs re p fun ds st1 m1 G1 H1 vs rs1 re1 x1 hv p1 => ?_
  match ds, hv, p1 with
  | [], hv, p1 => exact p1.elim
  | [d1], hv, p1 =>
    simp only [setL] at p1
    split at p1
    · rename_i h; split at h <;> cases h
    · exact p1.elim
  | [d1, d2], hv, p1 =>
    rw [repL] at hv
    obtain ⟨v1, w1, rfl, r1, hv⟩ := hv
    rw [repL] at hv
    obtain ⟨v2, w2, rfl, r2, hv⟩ := hv
    rw [repL] at hv
    subst hv
    refine ⟨v1, v2, rfl, ?_⟩
    simp only [setL] at p1
    split at p1
    · rename_i env' h
      split at h
      · split at h
        · cases h; exact p1.nxt rs1 ((re1.set i r1).set j r2)
        · cases h
      · cases h
    · exact p1.elim
  | d1 :: d2 :: d3 :: ds, hv, p1 =>
    simp only [setL] at p1
    split at p1
    · rename_i h; repeat (split at h <;> first | (cases h; done) | skip)
    · exact p1.elim
/-- name += e -/
theorem ss_aug {i : Nat} {x : Str} {pos' : Pos} (hN : X.N.Nodup) (hi : X.N[i]? = some x) (hx : Loc X.env.scope x) (hf : X.fn x = true ∨ X.env.scope.names.lookup x = some .local) (he : SE X N W e xe) :
    SS X N W (.AugAssign (.Name x pos') .Add e pos) (fun env st => match env[i]? with
    | some (some x) => vl (xe env) env st fun y st1 => match BOp.add, x, y with
      | .add, .int a, .int b => .nx (env.set i (some (.int (a + b)))) st1
      | _, _, _ => .stk
    | _ => .stk) := by
  refine PS.imp (ps_aug hN hi hx he ip_add hf) fun E σ H q => ?_
  obtain ⟨m, G, st, env, rs, re, p⟩ := q
  cases h : env[i]? with
  | none => simp only [h] at p; exact p.elim
  | some o =>
    cases o with
    | none => simp only [h] at p; exact p.elim
    | some d =>
      simp only [h] at p
      obtain ⟨v, e1, rv⟩ := re.2 i d h
      refine ⟨v, e1, vl_tD rs re p fun d1 st1 m1 G1 H1 w rs1 re1 x1 hw p1 => ?_⟩
      split at p1
      · rename_i a b _
        exact ⟨a, b, repV_int.mp rv, repV_int.mp hw, p1.nxt rs1 (re1.set i (repV_int.mpr rfl))⟩
      · exact p1.elim
/-! ### things of the store that change -/
theorem set_D (hu : X.A.units + 10 < cLine) : PSet X (fun o i v H Q => ∃ m G st do_ di dv st', RelS (Bo X N) m G H st ∧ repV (Bo X N) m G do_ o ∧ repV (Bo X N) m G di i ∧ repV (Bo X N) m G dv v ∧ setIdx do_ di dv st = .ok () st' ∧
    ∀ H', Ext m G H m G H' → RelS (Bo X N) m G H' st' → Q H') := by
  intro pins s σ H o i v ov iv u Q I ro ri rv h
  obtain ⟨m, G, st, d1, d2, d3, st', r, r1, r2, r3, e, q⟩ := h
  unfold setIdx at e
  split at e
  · rename_i n
    split at e
    · rename_i xs k hc
      split at e
      · rename_i j hj
        cases e
        obtain ⟨a, rfl, ha, vs, hH, rl⟩ := r.at r1 hc
        have hj' : L2.ixN vs.length k = some j := by rw [rl.length]; exact hj
        refine set_list pins s σ H (.ref a) i v ov iv u Q I ro ri rv ⟨a, vs, k, j, rfl, repV_int.mp r2, hH, hj', ?_⟩
        exact q _ (.write r ha) (r.write ha ⟨_, upd_same, rl.set j r3⟩)
      · cases e
    · rename_i ks vs hc
      split at e
      · rename_i hk
        rw [Bool.and_eq_true] at hk
        cases e
        obtain ⟨a, rfl, ha, co⟩ := r.at r1 hc
        cases ro
        refine cell_put (by omega) I r co hk.1 (of_decide_eq_true hk.2) r2 ri r3 rv fun o s' I' co' => ⟨_, I', q _ (.write r ha co'.noxd) (r.write ha co')⟩
      · cases e
    · cases e
  · cases e
theorem setIdx_quiet {a i y : D} : Quiet (setIdx a i y) := fun st c vs st' h => by
  unfold setIdx at h
  (repeat' split at h) <;> cases h
theorem setAtr_ok {T : Tb} {a y : D} {f : Nat} {st st' : Store} {u : Unit} (h : setAtr T a f y st = .ok u st') : ∃ n c ns vs, a = .ref n ∧ st[n]? = some (.obj c ns vs) ∧ fldOk T c f = true ∧ isErr T c = false ∧ ns.length < 1000 ∧ st' = st.set n (.obj c (fputN ns f) (fputV ns vs f y)) := by
  unfold setAtr at h
  cases a <;> first | (cases h; done) | skip
  rename_i n
  simp only at h
  split at h
  · rename_i c ns vs hc
    split at h
    · rename_i hk
      simp only [Bool.and_eq_true, Bool.not_eq_true', decide_eq_true_eq] at hk
      cases h
      exact ⟨n, c, ns, vs, rfl, hc, hk.1.1, hk.1.2, hk.2, rfl⟩
    · cases h
  · cases h
theorem setAtr_quiet {T : Tb} {a y : D} {f : Nat} : Quiet (setAtr T a f y) := fun st c vs st' h => by
  unfold setAtr at h
  cases a <;> first | (cases h; done) | skip
  simp only at h
  (repeat' split at h) <;> cases h
theorem ss_sub {i : Expr} {xi : Env → M D} {pos' : Pos} (hu : X.A.units + 10 < cLine) (ho : SE X N W o xo) (hi : SE X N W i xi) (he : SE X N W e xe) (hs : swapsWith e (some (.Subscript o i pos')) pos.line X.env = pure false) :
    SS X N W (.Assign [.Subscript o i pos'] e pos) (fun env st => vl (xe env) env st fun y st1 => vl (xo env) env st1 fun a st2 => vl (xi env) env st2 fun k st3 => vl (setIdx a k y) env st3 fun _ st4 => .nx env st4) := by
  refine ⟨fun pins s σ H E I q => ?_⟩
  obtain ⟨m, G, st, env, rs, re, p⟩ := q
  refine wpAny_Assign_Subscript (thn (he.run pins s σ H (fun v H1 => ∃ m1 G1 st1 d, RelS (Bo X N) m1 G1 H1 st1 ∧ RelE (Bo X N) m1 G1 env σ ∧ repV (Bo X N) m1 G1 d v ∧ PostF (Bo X N) W m1 G1 H1 E (vl (xo env) env st1 fun a st2 => vl (xi env) env st2 fun k st3 => vl (setIdx a k d) env st3 fun _ st4 => .nx env st4)) I ?_) fun u s1 ⟨v, H1, I1, rv, m1, G1, st1, d, rs1, re1, hv, p1⟩ => ?_) hs
  · exact vl_tD rs re p fun d st1 m1 G1 H1 v rs1 re1 x1 hv p1 => ⟨m1, G1, st1, d, rs1, re1, hv, p1⟩
  refine thn (ho.run pins s1 σ H1 (fun vo H2 => ∃ m2 G2 st2 do_, RelS (Bo X N) m2 G2 H2 st2 ∧ RelE (Bo X N) m2 G2 env σ ∧ repV (Bo X N) m2 G2 d v ∧ repV (Bo X N) m2 G2 do_ vo ∧ PostF (Bo X N) W m2 G2 H2 E (vl (xi env) env st2 fun k st3 => vl (setIdx do_ k d) env st3 fun _ st4 => .nx env st4)) I1 ?_) fun uo s2 ⟨vo, H2, I2, rvo, m2, G2, st2, d2, rs2, re2, hv2, hvo, p2⟩ => ?_
  · exact vl_tD rs1 re1 p1 fun d2 st2 m2 G2 H2 vo rs2 re2 x2 hvo p2 => ⟨m2, G2, st2, d2, rs2, re2, hv.mono x2.pre x2.g, hvo, p2⟩
  refine thn (hi.run pins s2 σ H2 (fun vi H3 => ∃ m3 G3 st3 d3, RelS (Bo X N) m3 G3 H3 st3 ∧ RelE (Bo X N) m3 G3 env σ ∧ repV (Bo X N) m3 G3 d v ∧ repV (Bo X N) m3 G3 d2 vo ∧ repV (Bo X N) m3 G3 d3 vi ∧ PostF (Bo X N) W m3 G3 H3 E (vl (setIdx d2 d3 d) env st3 fun _ st4 => .nx env st4)) I2 ?_) fun ui s3 ⟨vi, H3, I3, rvi, m3, G3, st3, d3, rs3, re3, hv3, hvo3, hvi, p3⟩ => ?_
  · exact vl_tD rs2 re2 p2 fun d3 st3 m3 G3 H3 vi rs3 re3 x3 hvi p3 => ⟨m3, G3, st3, d3, rs3, re3, hv2.mono x3.pre x3.g, hvo.mono x3.pre x3.g, hvi, p3⟩
  cases h : setIdx d2 d3 d st3 with
  | ok _ st4 =>
    simp only [h, vl] at p3
    exact thn (set_D (N := N) hu pins s3 σ H3 vo vi v uo ui u _ I3 rvo rvi rv ⟨m3, G3, st3, d2, d3, d, st4, rs3, hvo3, hvi, hv3, h, fun H' xx rr => p3 m3 G3 H' σ xx rr (re3.ext xx)⟩) fun _ s4 ⟨H4, I4, q4⟩ => ⟨σ, H4, I4, q4⟩
  | exc c vs st' => exact absurd h (setIdx_quiet _ c vs st')
  | stk => simp only [h, vl] at p3; exact p3.elim
theorem ss_atr {T : Tb} {f : Nat} {pos' : Pos} (F : FldFx X.K N T) (ho : SE X N W o xo) (he : SE X N W e xe) (hs : swapsWith e (some (.Attribute o (N.fld f) pos')) pos.line X.env = pure false) :
    SS X N W (.Assign [.Attribute o (N.fld f) pos'] e pos) (fun env st => vl (xe env) env st fun y st1 => vl (xo env) env st1 fun a st2 => vl (setAtr T a f y) env st2 fun _ st3 => .nx env st3) := by
  refine PS.imp (ps_fld ho he hs) fun E σ H q => ?_
  obtain ⟨m, G, st, env, rs, re, p⟩ := q
  refine vl_tD rs re p fun d st1 m1 G1 H1 v rs1 re1 x1 hv p1 => vl_tD rs1 re1 p1 fun d2 st2 m2 G2 H2 w rs2 re2 x2 hw p2 => ?_
  cases h : setAtr T d2 f d st2 with
  | ok _ st3 =>
    simp only [h, vl] at p2
    obtain ⟨n, c, ns, vs, rfl, hc, k1, k2, k3, rfl⟩ := setAtr_ok h
    obtain ⟨a, rfl, ha, dx, fvs, hH, e1, rl⟩ := rs2.at hw hc
    obtain ⟨h1, h2⟩ := F.fld c f k1 k2
    obtain ⟨j1, j2⟩ := fput_putF (B := Bo X N) F.inj (hv.mono x2.pre x2.g) e1 rl
    refine ⟨a, _, dx, fvs, rfl, hH, h1, h2, ?_, ?_⟩
    · have := congrArg List.length e1
      simp at this
      omega
    · exact p2 m2 G2 _ σ (.write rs2 ha) (rs2.write ha ⟨dx, _, upd_same, j1, j2⟩) (re2.ext (.write rs2 ha (o := .ins (He.ga X.K (N.cls c)) dx (putF (N.fld f) v fvs))))
  | exc c vs st' => exact absurd h (setAtr_quiet _ c vs st')
  | stk => simp only [h, vl] at p2; exact p2.elim
end
end Dn
end
section
set_option Elab.async false
set_option linter.all false
set_option maxRecDepth 100000
set_option maxHeartbeats 4000000
/-! Dn17: what a for walks; for, while. Own work. -/
namespace Dn
open PySem PySem.Spec PyProof.Rows L2

/-- an iterator gives ds, one by one, while the things at deps stand; u: each in a new tuple that is only unpacked -/
def ItOk (B : Wo) (u : Bool) (m0 : List Addr) (G0 : Hp) (st0 : Store) (J : It) (ds deps : List D) : Prop := ∀ m G H st, m0 <+: m → GLe G0 G → RelS B m G H st → depOk st0 deps st = true →
  (∀ i, ds.length ≤ i → J.stop i H) ∧ ∀ i d, ds[i]? = some d → J.go i H ∧ ∀ x H', J.yld i H x H' → ∃ m' G', Ext m G H m' G' H' ∧ RelS B m' G' H' st ∧
    (if u then ∃ ds' a vs, d = .tup ds' ∧ x = .ref a ∧ SqT B.K H' a vs ∧ repL B m' G' ds' vs else repV B m' G' d x)
def tI (B : Wo) (W : WX) (u : Bool) (x : Env → M (List D × List D)) : TI := fun σ H R => ∃ m G st env, RelS B m G H st ∧ RelE B m G env σ ∧
  Post B m G H (wx W σ) (fun p st' m' G' H' => ∀ J, ItOk B u m' G' st' J p.1 p.2 → R J H') (x env st)
abbrev SI (X : Cx) (N : Nms) (W : WX) (u : Bool) (tg iter : Expr) (x : Env → M (List D × List D)) : Prop := PI X tg iter (tI (Bo X N) W u x)
theorem PI.imp {X : Cx} {tg e : Expr} {t t' : TI} (h : PI X tg e t) (k : ∀ σ H R, t' σ H R → t σ H R) : PI X tg e t' := ⟨fun pins s σ H R I q => h.run pins s σ H R I (k σ H R q)⟩
section
variable {B : Wo} {m0 : List Addr} {G0 H0 : Hp} {st0 : Store} {d : D} {a : Addr} {ds : List D} {vs : List V}
/-- a list that is walked stands -/
theorem lst_stands (r0 : RelS B m0 G0 H0 st0) (h : repV B m0 G0 d (.ref a)) (e : cellOf st0 d = .lst ds) {m : List Addr} {G H : Hp} {st : Store} (p : m0 <+: m) (g : GLe G0 G) (r : RelS B m G H st) (hd : depOk st0 [d] st = true) : ∃ vs, SqL B.K H a vs ∧ repL B m G ds vs := by
  have e2 : cellOf st d = .lst ds := by
    cases d with
    | ref n =>
      have : st[n]? = st0[n]? := by simpa [depOk] using hd
      rw [cellOf_ref] at e ⊢
      rw [this]; exact e
    | _ => exact e
  obtain ⟨a', vs, ea, h1, h2⟩ := list_at r (h.mono p g) e2
  cases ea
  exact ⟨vs, h1, h2⟩
theorem tup_stands (r0 : RelS B m0 G0 H0 st0) (h : repV B m0 G0 d (.ref a)) (e : cellOf st0 d = .tup ds) {m : List Addr} {G H : Hp} {st : Store} (p : m0 <+: m) (g : GLe G0 G) (r : RelS B m G H st) : ∃ vs, SqT B.K H a vs ∧ repL B m G ds vs := by
  obtain rfl := tup_is r0 h e
  obtain ⟨a', vs, ea, h1, h2⟩ := tup_at r (h.mono p g) (ds := ds) rfl
  cases ea
  exact ⟨vs, h1.seq, h2⟩
theorem itok_list (r0 : RelS B m0 G0 H0 st0) (h : repV B m0 G0 d (.ref a)) (e : cellOf st0 d = .lst ds) : ItOk B false m0 G0 st0 (Itl B.K a) ds [d] := fun m G H st p g r hd => by
  obtain ⟨vs, h1, h2⟩ := lst_stands r0 h e p g r hd
  refine ⟨fun i hi => ⟨vs, h1, by rw [h2.length]; exact hi⟩, fun i x hx => ?_⟩
  obtain ⟨v, hv, rv⟩ := h2.get hx
  refine ⟨⟨vs, v, h1, hv⟩, fun y H' hy => ?_⟩
  obtain ⟨rfl, hy⟩ := hy
  have := hy vs h1
  rw [hv] at this; cases this
  exact ⟨m, G, .refl .., r, rv⟩
theorem itok_tup (r0 : RelS B m0 G0 H0 st0) (h : repV B m0 G0 d (.ref a)) (e : cellOf st0 d = .tup ds) : ItOk B false m0 G0 st0 (Itt B.K a) ds [d] := fun m G H st p g r hd => by
  obtain ⟨vs, h1, h2⟩ := tup_stands r0 h e p g r
  refine ⟨fun i hi => ⟨vs, h1, by rw [h2.length]; exact hi⟩, fun i x hx => ?_⟩
  obtain ⟨v, hv, rv⟩ := h2.get hx
  refine ⟨⟨vs, v, h1, hv⟩, fun y H' hy => ?_⟩
  obtain ⟨rfl, hy⟩ := hy
  have := hy vs h1
  rw [hv] at this; cases this
  exact ⟨m, G, .refl .., r, rv⟩
theorem itok_rng {lo hi : Int} : ItOk B false m0 G0 st0 (Itr lo (hi - lo).toNat) (rangeL lo hi) [] := fun m G H st p g r hd => by
  have hl : (rangeL lo hi).length = (hi - lo).toNat := by unfold rangeL; rw [List.length_map, List.length_range]
  refine ⟨fun i hi => by rw [hl] at hi; exact hi, fun i x hx => ?_⟩
  have hi : i < (hi - lo).toNat := by rw [← hl]; exact (List.getElem?_eq_some_iff.mp hx).1
  refine ⟨hi, fun y H' hy => ?_⟩
  obtain ⟨rfl, rfl⟩ := hy
  unfold rangeL at hx
  rw [List.getElem?_map, List.getElem?_range hi] at hx
  cases hx
  exact ⟨m, G, .refl .., r, by rw [if_neg Bool.false_ne_true]; exact repV_int.mpr rfl⟩
theorem itok_rngC {lo c : Int} {n : Nat} {ds : List D} (e : ds = (List.range n).map fun (k : Nat) => D.int (lo + (k : Nat) * c)) : ItOk B false m0 G0 st0 (Itc lo c n) ds [] := fun m G H st p g r hd => by
  subst e
  have hl : ((List.range n).map fun (k : Nat) => D.int (lo + (k : Nat) * c)).length = n := by rw [List.length_map, List.length_range]
  refine ⟨fun i hi => by rw [hl] at hi; exact hi, fun i x hx => ?_⟩
  have hi : i < n := by rw [← hl]; exact (List.getElem?_eq_some_iff.mp hx).1
  refine ⟨hi, fun y H' hy => ?_⟩
  obtain ⟨rfl, rfl⟩ := hy
  rw [List.getElem?_map, List.getElem?_range hi] at hx
  cases hx
  exact ⟨m, G, .refl .., r, by rw [if_neg Bool.false_ne_true]; exact repV_int.mpr rfl⟩
theorem rev_get {α : Type} {xs : List α} {i : Nat} {x : α} (h : xs.reverse[i]? = some x) : i < xs.length ∧ xs[xs.length - 1 - i]? = some x := by
  have hi : i < xs.length := by have := (List.getElem?_eq_some_iff.mp h).1; simpa using this
  exact ⟨hi, by rw [List.getElem?_reverse hi] at h; exact h⟩
theorem itok_revL (r0 : RelS B m0 G0 H0 st0) (h : repV B m0 G0 d (.ref a)) (e : cellOf st0 d = .lst ds) : ItOk B false m0 G0 st0 (Itv B.K a ds.length) ds.reverse [d] := fun m G H st p g r hd => by
  obtain ⟨vs, h1, h2⟩ := lst_stands r0 h e p g r hd
  refine ⟨fun i hi => by rw [List.length_reverse] at hi; exact hi, fun i x hx => ?_⟩
  obtain ⟨hi, hx⟩ := rev_get hx
  obtain ⟨v, hv, rv⟩ := h2.get hx
  refine ⟨⟨hi, vs, v, h1, hv⟩, fun y H' hy => ?_⟩
  obtain ⟨rfl, hy⟩ := hy
  have := hy vs h1
  rw [hv] at this; cases this
  exact ⟨m, G, .refl .., r, rv⟩
theorem itok_revT (r0 : RelS B m0 G0 H0 st0) (h : repV B m0 G0 d (.ref a)) (e : cellOf st0 d = .tup ds) : ItOk B false m0 G0 st0 (RT.ItvT B.K a ds.length) ds.reverse [d] := fun m G H st p g r hd => by
  obtain ⟨vs, h1, h2⟩ := tup_stands r0 h e p g r
  refine ⟨fun i hi => by rw [List.length_reverse] at hi; exact hi, fun i x hx => ?_⟩
  obtain ⟨hi, hx⟩ := rev_get hx
  obtain ⟨v, hv, rv⟩ := h2.get hx
  refine ⟨⟨hi, vs, v, h1, hv⟩, fun y H' hy => ?_⟩
  obtain ⟨rfl, hy⟩ := hy
  have := hy vs h1
  rw [hv] at this; cases this
  exact ⟨m, G, .refl .., r, rv⟩
end
section
variable {B : Wo} {W : WX} {σ : L2.St} {m : List Addr} {G H : Hp} {st : Store} {env : Env} {α : Type} {RR : α → Store → List Addr → Hp → Hp → Prop}
theorem itemsOf_sz {d : D} {xs : List D} (e : itemsOf st d = some xs) : cellOf st d = .lst xs ∨ cellOf st d = .tup xs := itemsOf_eq e
end
section
variable {X : Cx} {N : Nms} {W : WX} {tg a b c e : Expr} {x xa xb xe : Env → M D} {p pos : Pos} {xs : Env → M (List D)}
theorem si_seq (he : SE X N W e xe) : SI X N W false tg e (fun env => bnd (xe env) fun x => fun st => match cellOf st x with
    | .tup xs => .ok (xs, [x]) st
    | .lst xs => .ok (xs, [x]) st
    | _ => .stk) := by
  refine ⟨fun pins s σ H R I q => ?_⟩
  obtain ⟨m, G, st, env, rs, re, p⟩ := q
  refine thn (he.run pins s σ H (fun v H1 => ∃ a, v = .ref a ∧ (((∃ vs, SqL X.K H1 a vs) ∧ R (Itl X.K a) H1) ∨ ((∃ vs, SqT X.K H1 a vs) ∧ R (Itt X.K a) H1))) I ?_) fun u s1 ⟨v, H1, I1, r1, a, ea, q1⟩ => ?_
  · refine to_tD rs re p fun d st1 m1 G1 H1 v rs1 re1 x1 hv p1 => ?_
    split at p1
    · rename_i ds hc
      obtain ⟨a, vs, rfl, ta, rl⟩ := tup_at rs1 hv hc
      exact ⟨a, rfl, .inr ⟨⟨vs, ta.seq⟩, Post.here rs1 p1 _ (itok_tup rs1 hv hc)⟩⟩
    · rename_i ds hc
      obtain ⟨a, vs, rfl, ta, rl⟩ := list_at rs1 hv hc
      exact ⟨a, rfl, .inl ⟨⟨vs, ta⟩, Post.here rs1 p1 _ (itok_list rs1 hv hc)⟩⟩
    · exact p1.elim
  · subst ea
    cases r1
    rcases q1 with ⟨⟨vs, hq⟩, q⟩ | ⟨⟨vs, hq⟩, q⟩
    · obtain ⟨its, rv, pl, hz⟩ := I1.list hq
      refine wpAny_pyIter_list pl.isList ⟨s1.heap.objs.size, [s1.heap.objs.size], _, _, H1, rfl, I1.kept (t' := s1.toks) fun b o e => Heap.get?_push_of_some _ e, turn_list a _, ⟨_, Heap.get?_push_size _ rfl, rfl, rfl⟩, fun b hb => ?_, q⟩
      have e : b = s1.heap.objs.size := by simpa using hb
      subst e
      exact I1.fpOk (Nat.le_refl _) (I1.hok.fresh (Nat.le_refl _))
    · obtain ⟨its, rv, pl, hz⟩ := I1.tuple hq
      refine wpAny_pyIter_tuple (show s1.heap.IsTuple a its.toArray from pl) ⟨s1.heap.objs.size, [s1.heap.objs.size], _, _, H1, rfl, I1.kept (t' := s1.toks) fun b o e => Heap.get?_push_of_some _ e, turn_tuple a _, ⟨_, Heap.get?_push_size _ rfl, rfl, rfl⟩, fun b hb => ?_, q⟩
      have e : b = s1.heap.objs.size := by simpa using hb
      subst e
      exact I1.fpOk (Nat.le_refl _) (I1.hok.fresh (Nat.le_refl _))
theorem small_ok {i : Int} (h : small62 i = true) : -(2 ^ 62) ≤ i ∧ i < 2 ^ 62 := of_decide_eq_true h
theorem to_tDAe {B : Wo} {σ : L2.St} {m : List Addr} {G H : Hp} {st : Store} {env : Env} {α : Type} {RR : α → Store → List Addr → Hp → Hp → Prop} {x : Env → M (List D)} {f : List D → M α} {Q : List V → Hp → Prop} (rs : RelS B m G H st) (re : RelE B m G env σ) (p : Post B m G H (wx W σ) RR (bnd (x env) f st))
    (k : ∀ ds st1 m1 G1 H1 vs, x env st = .ok ds st1 → RelS B m1 G1 H1 st1 → RelE B m1 G1 env σ → Ext m G H m1 G1 H1 → repL B m1 G1 ds vs → Post B m1 G1 H1 (wx W σ) RR (f ds st1) → Q vs H1) : tDA B W x σ H Q := by
  refine ⟨m, G, st, env, rs, re, ?_⟩
  have p2 := p.bnd
  cases e : x env st with
  | ok ds st1 =>
    rw [e] at p2
    exact fun m1 G1 H1 x1 rs1 vs hvs => k ds st1 m1 G1 H1 vs e rs1 (re.ext x1) x1 hvs (p2 m1 G1 H1 x1 rs1)
  | exc c vs st' => rw [e] at p2; exact p2
  | stk => rw [e] at p2; exact p2
theorem si_rng1 (hg : Gl X "range") (hm : X.mg "range" = none) (ha : SA X N W [a] xs) (hs : noStar a = true) (hl : ∀ env st ys st', xs env st = .ok ys st' → ys.length = 1) : SI X N W false tg (.Call (.Name "range" p) [a] [] pos) (fun env => bnd (xs env) rngI) := by
  refine PI.imp (pi_range1 hg hm ha (star_consN hs)) fun σ H R q => ?_
  obtain ⟨m, G, st, env, rs, re, p⟩ := q
  refine to_tDAe rs re p fun ds st1 m1 G1 H1 vs e rs1 re1 x1 hv p1 => ?_
  have hlen := hl _ _ _ _ e
  match ds, hlen, hv, p1 with
  | [d], _, hv, p1 =>
    rw [repL] at hv
    obtain ⟨v, ws, rfl, hv, hw⟩ := hv
    rw [repL] at hw
    subst hw
    obtain ⟨j, rfl⟩ : ∃ j, d = .int j := by cases d <;> first | exact ⟨_, rfl⟩ | exact p1.elim
    simp only [rngI] at p1
    split at p1
    · rename_i hk
      obtain ⟨k1, k2⟩ := small_ok hk
      refine ⟨j, by rw [repV_int.mp hv], k1, k2, Post.here rs1 p1 _ ?_⟩
      have := itok_rng (B := Bo X N) (m0 := m1) (G0 := G1) (st0 := st1) (lo := 0) (hi := j)
      simpa using this
    · exact p1.elim
theorem si_rng2 (hg : Gl X "range") (hm : X.mg "range" = none) (ha : SA X N W [a, b] xs) (hs : noStar a = true) (hs2 : noStar b = true) (hl : ∀ env st ys st', xs env st = .ok ys st' → ys.length = 2) : SI X N W false tg (.Call (.Name "range" p) [a, b] [] pos) (fun env => bnd (xs env) rngI) := by
  refine PI.imp (pi_range2 hg hm ha (by rw [star_consN hs, star_consN hs2]; rfl) (star_consN hs2)) fun σ H R q => ?_
  obtain ⟨m, G, st, env, rs, re, p⟩ := q
  refine to_tDAe rs re p fun ds st1 m1 G1 H1 vs e rs1 re1 x1 hv p1 => ?_
  have hlen := hl _ _ _ _ e
  match ds, hlen, hv, p1 with
  | [d, d2], _, hv, p1 =>
    rw [repL] at hv
    obtain ⟨v, ws, rfl, hv, hw⟩ := hv
    rw [repL] at hw
    obtain ⟨v2, ws, rfl, hv2, hw⟩ := hw
    rw [repL] at hw
    subst hw
    obtain ⟨i, rfl⟩ : ∃ i, d = .int i := by cases d <;> first | exact ⟨_, rfl⟩ | exact p1.elim
    obtain ⟨j, rfl⟩ : ∃ j, d2 = .int j := by cases d2 <;> first | exact ⟨_, rfl⟩ | exact p1.elim
    simp only [rngI] at p1
    split at p1
    · rename_i hk
      rw [Bool.and_eq_true] at hk
      obtain ⟨k1, k2⟩ := small_ok hk.1
      obtain ⟨k3, k4⟩ := small_ok hk.2
      exact ⟨i, j, by rw [repV_int.mp hv, repV_int.mp hv2], ⟨k1, k2, k3, k4⟩, Post.here rs1 p1 _ itok_rng⟩
    · exact p1.elim
theorem si_rev (hg : Gl X "reversed") (hm : X.mg "reversed" = none) (he : SE X N W e xe) (hs : noStar e = true) : SI X N W false tg (.Call (.Name "reversed" p) [e] [] pos) (fun env => bnd (xe env) fun x => fun st => match itemsOf st x with
    | some xs => .ok (xs.reverse, [x]) st
    | none => .stk) := by
  refine PI.imp (RT.pi_revA hg hm he (star_consN hs)) fun σ H R q => ?_
  obtain ⟨m, G, st, env, rs, re, p⟩ := q
  refine to_tD rs re p fun d st1 m1 G1 H1 v rs1 re1 x1 hv p1 => ?_
  cases e : itemsOf st1 d with
  | none => simp only [e] at p1; exact p1.elim
  | some ds =>
    simp only [e] at p1
    rcases itemsOf_eq e with hc | hc
    · obtain ⟨a, vs, rfl, ta, rl⟩ := list_at rs1 hv hc
      refine ⟨a, vs, rfl, .inl ⟨ta, ?_⟩⟩
      rw [rl.length]
      exact Post.here rs1 p1 _ (itok_revL rs1 hv hc)
    · obtain ⟨a, vs, rfl, ta, rl⟩ := tup_at rs1 hv hc
      refine ⟨a, vs, rfl, .inr ⟨ta.seq, ?_⟩⟩
      rw [rl.length]
      exact Post.here rs1 p1 _ (itok_revT rs1 hv hc)
end
/-! ### for, while -/
theorem depOk_refl (st : Store) (ds : List D) : depOk st ds st = true := by
  unfold depOk
  rw [List.all_eq_true]
  intro d _
  cases d <;> simp
theorem forGo_dep {dep : Store → Bool} {fb : Store → D → Env → Option Env} {body : Env → Store → Fl} {B : Wo} {W : WX} {m : List Addr} {G H : Hp} {E : Ends} {ds : List D} {env : Env} {st : Store} (p : PostF B W m G H E (forGo dep fb body ds env st)) : dep st = true ∧ (ds = [] → PostF B W m G H E (.nx env st)) ∧
    ∀ d ds', ds = d :: ds' → ∃ env', fb st d env = some env' ∧ PostF B W m G H E (match body env' st with
      | .nx env2 st2 => forGo dep fb body ds' env2 st2
      | .ct env2 st2 => forGo dep fb body ds' env2 st2
      | .bk env2 st2 => .nx env2 st2
      | y => y) := by
  cases ds with
  | nil =>
    rw [forGo] at p
    split at p
    · rename_i h; exact ⟨h, (fun _ => p), (fun d ds' e => nomatch e)⟩
    · exact p.elim
  | cons d ds =>
    rw [forGo] at p
    split at p
    · rename_i h
      refine ⟨h, (fun e => nomatch e), (fun d' ds' e => ?_)⟩
      cases e
      cases q : fb st d env with
      | none => simp only [q] at p; exact p.elim
      | some env' => simp only [q] at p; exact ⟨env', rfl, p⟩
    · exact p.elim
section
variable {X : Cx} {N : Nms} {W : WX} {tg iter c : Expr} {xi : Env → M (List D × List D)} {pos : Pos} {body : List Stmt} {y : Env → Store → Fl} {t : Tg}
/-- how a target takes what is given -/
def TgOk (X : Cx) (N : Nms) (u : Bool) (tg : Expr) (t : Tg) : Prop := if u then ∃ ts, t = .t ts ∧ PG X tg (tGU (Bo X N) ts) else SG X N tg t
theorem tgOk_pg {u : Bool} (h : TgOk X N u tg t) : PG X tg (fun x σ H Q => ∃ m G st env env' d, RelS (Bo X N) m G H st ∧ RelE (Bo X N) m G env σ ∧ (if u then ∃ ds' a vs, d = .tup ds' ∧ x = .ref a ∧ SqT X.K H a vs ∧ repL (Bo X N) m G ds' vs else repV (Bo X N) m G d x) ∧
    bindT st t d env = some env' ∧ ∀ σ', RelE (Bo X N) m G env' σ' → Keeps t.vars σ σ' → Q σ' H) := by
  unfold TgOk at h
  cases u with
  | false =>
    rw [if_neg Bool.false_ne_true] at h
    refine PG.imp h fun v σ H Q q => ?_
    obtain ⟨m, G, st, env, env', d, rs, re, hv, q⟩ := q
    rw [if_neg Bool.false_ne_true] at hv
    exact ⟨m, G, st, env, env', d, rs, re, hv, q⟩
  | true =>
    rw [if_pos rfl] at h
    obtain ⟨ts, rfl, h⟩ := h
    refine PG.imp h fun v σ H Q q => ?_
    obtain ⟨m, G, st, env, env', d, rs, re, hv, e, q⟩ := q
    rw [if_pos rfl] at hv
    obtain ⟨ds', a, vs, rfl, rfl, sq, rl⟩ := hv
    rw [bindT] at e
    simp only [cellOf] at e
    exact ⟨m, G, st, env, env', a, vs, ds', rfl, sq, rs, re, rl, e, fun σ' r' k' => q σ' r' (by rw [Tg.vars]; exact k')⟩
theorem ss_for {u : Bool} (hp : PassesOwn (model X.prog X.w) X.A X.env X.xe) (hc : X.calm = true) (hi : SI X N W u tg iter xi) (hg : TgOk X N u tg t) (hb : SSs X N W body y) (hs : ∀ x, foldedSetIterable iter X.env x = pure x) :
    SS X N W (.For tg iter body [] pos) (fun env st => vl (xi env) env st fun p st1 => forGo (depOk st1 p.2) (fun st d env => bindT st t d env) (fun env st => y env st) p.1 env st1) := by
  refine PS.imp (ps_for hp hc hi (tgOk_pg hg) hb hs) fun E σ H q => ?_
  obtain ⟨m, G, st, env, rs, re, p⟩ := q
  refine ⟨m, G, st, env, rs, re, (p.vl re).mono fun a st1 m1 G1 H1 x1 rs1 p1 J hJ => ?_⟩
  obtain ⟨ds, deps⟩ := a
  simp only at hJ p1
  refine ⟨fun i n σ' H' => n + i = ds.length ∧ ∃ m2 G2 st2 env2, m1 <+: m2 ∧ GLe G1 G2 ∧ RelS (Bo X N) m2 G2 H' st2 ∧ RelE (Bo X N) m2 G2 env2 σ' ∧ PostF (Bo X N) W m2 G2 H' E (forGo (depOk st1 deps) (fun st d env => bindT st t d env) (fun env st => y env st) (ds.drop i) env2 st2), ⟨ds.length, rfl, m1, G1, st1, env, List.prefix_rfl, .refl _, rs1, re.ext x1, by rw [List.drop_zero]; exact p1⟩, ?_⟩
  rintro i n σ2 H2 ⟨hn, m2, G2, st2, env2, pre, gle, rs2, re2, p2⟩
  obtain ⟨hdep, pnil, pcons⟩ := forGo_dep p2
  obtain ⟨jstop, jgo⟩ := hJ m2 G2 H2 st2 pre gle rs2 hdep
  by_cases hlt : i < ds.length
  · right
    obtain ⟨go, yl⟩ := jgo i ds[i] (List.getElem?_eq_getElem hlt)
    refine ⟨go, fun σ' H' => ∃ m3 G3 st3 env3, m1 <+: m3 ∧ GLe G1 G3 ∧ RelS (Bo X N) m3 G3 H' st3 ∧ RelE (Bo X N) m3 G3 env3 σ' ∧ PostF (Bo X N) W m3 G3 H' E (forGo (depOk st1 deps) (fun st d env => bindT st t d env) (fun env st => y env st) (ds.drop (i + 1)) env3 st3), fun σ' H' hN => ⟨n - 1, by omega, by omega, hN⟩, fun x H3 hy => ?_⟩
    obtain ⟨m3, G3, x3, rs3, hx⟩ := yl x H3 hy
    obtain ⟨env', e1, p3⟩ := pcons _ _ (List.drop_eq_getElem_cons hlt)
    refine ⟨m3, G3, st2, env2, env', ds[i], rs3, re2.ext x3, hx, e1, fun σ' re' _ => ⟨m3, G3, st2, env', rs3, re', ?_⟩⟩
    have p4 := p3.ext x3
    cases q : y env' st2 with
    | nx env4 st4 =>
      simp only [q] at p4
      exact fun m' G' H' σ'' xx rr ee => ⟨m', G', st4, env4, pre.trans (x3.pre.trans xx.pre), gle.trans (x3.g.trans xx.g), rr, ee, p4.ext xx⟩
    | ct env4 st4 =>
      simp only [q] at p4
      exact fun m' G' H' σ'' xx rr ee => ⟨m', G', st4, env4, pre.trans (x3.pre.trans xx.pre), gle.trans (x3.g.trans xx.g), rr, ee, p4.ext xx⟩
    | bk env4 st4 => simp only [q] at p4; exact p4
    | rt d st4 => simp only [q] at p4; exact p4
    | xc c vs env4 st4 => simp only [q] at p4; exact p4
    | stk => simp only [q] at p4; exact p4
  · left
    refine ⟨jstop i (by omega), ?_⟩
    exact (pnil (List.drop_eq_nil_of_le (by omega))).nxt rs2 re2
theorem ss_while {fuel : Nat} {xt : Env → M Bool} (hp : PassesOwn (model X.prog X.w) X.A X.env X.xe) (hc : ST X N W c xt) (hb : SSs X N W body y) : SS X N W (.While c body [] pos) (fun env st => whlGo xt (fun env st => y env st) fuel env st) := by
  refine PS.imp (ps_while hp hc hb) fun E σ H q => ?_
  obtain ⟨m, G, st, env, rs, re, p⟩ := q
  refine ⟨fun n σ' H' => ∃ m2 G2 st2 env2, RelS (Bo X N) m2 G2 H' st2 ∧ RelE (Bo X N) m2 G2 env2 σ' ∧ PostF (Bo X N) W m2 G2 H' E (whlGo xt (fun env st => y env st) n env2 st2), ⟨fuel, m, G, st, env, rs, re, p⟩, ?_⟩
  rintro n σ2 H2 ⟨m2, G2, st2, env2, rs2, re2, p2⟩
  cases n with
  | zero => exact p2.elim
  | succ n =>
    rw [whlGo] at p2
    refine vl_tDB rs2 re2 p2 fun k st3 m3 G3 H3 rs3 re3 x3 p3 => ?_
    cases k with
    | false => rw [if_neg Bool.false_ne_true]; exact p3.nxt rs3 re3
    | true =>
      rw [if_pos rfl]
      refine ⟨fun σ' H' => ∃ m2 G2 st2 env2, RelS (Bo X N) m2 G2 H' st2 ∧ RelE (Bo X N) m2 G2 env2 σ' ∧ PostF (Bo X N) W m2 G2 H' E (whlGo xt (fun env st => y env st) n env2 st2), fun σ' H' hN => ⟨n, Nat.lt_succ_self n, hN⟩, m3, G3, st3, env2, rs3, re3, ?_⟩
      rw [if_pos rfl] at p3
      cases q : y env2 st3 with
      | nx env4 st4 => simp only [q] at p3; exact fun m' G' H' σ'' xx rr ee => ⟨m', G', st4, env4, rr, ee, p3.ext xx⟩
      | ct env4 st4 => simp only [q] at p3; exact fun m' G' H' σ'' xx rr ee => ⟨m', G', st4, env4, rr, ee, p3.ext xx⟩
      | bk env4 st4 => simp only [q] at p3; exact p3
      | rt d st4 => simp only [q] at p3; exact p3
      | xc c vs env4 st4 => simp only [q] at p3; exact p3
      | stk => simp only [q] at p3; exact p3
end
end Dn
end
section
set_option Elab.async false
set_option linter.all false
set_option maxRecDepth 100000
set_option maxHeartbeats 4000000
/-! Dn18: comprehensions. Own work. -/
namespace Dn
open PySem PySem.Spec PyProof.Rows L2

theorem wipe_mem {σ : L2.St} : ∀ {vs ws : List Nat}, (∀ i ∈ ws, i ∈ vs) → L2.wipe (L2.wipe σ ws) vs = L2.wipe σ vs
  | vs, [], _ => rfl
  | vs, w :: ws, h => by
    show L2.wipe ((L2.wipe σ ws).set w none) vs = _
    rw [wipe_set (h w (by simp)), wipe_mem fun i q => h i (by simp [q])]
theorem calm_ok {α : Type} {x : M α} {st st' : Store} {a : α} (h : calm x st = .ok a st') : x st = .ok a st' := by
  unfold calm at h
  cases e : x st <;> rw [e] at h <;> first | exact h | cases h
theorem bnd_ok {α β : Type} {x : M α} {f : α → M β} {st st' : Store} {b : β} (h : bnd x f st = .ok b st') : ∃ a st1, x st = .ok a st1 ∧ f a st1 = .ok b st' := by
  unfold bnd at h
  cases e : x st <;> rw [e] at h <;> first | exact ⟨_, _, rfl, h⟩ | cases h
section
variable {B : Wo} {W : WX} {m m1 m2 : List Addr} {G G1 G2 H H1 H2 : Hp} {st st1 st2 : Store} {env : Env} {σ : L2.St}
theorem post_ok {α : Type} {XX : XK} {R : α → Store → List Addr → Hp → Hp → Prop} {a : α} (h : ∀ m' G' H', Ext m G H m' G' H' → RelS B m' G' H' st → R a st m' G' H') : Post B m G H XX R (.ok a st) := h
theorem upd_dl {p : Addr} {o o' : HO} (h : H = upd (dl H p) p o) : upd H p o' = upd (dl H p) p o' := by
  rw [h, upd_upd]
  funext b
  by_cases e : b = p
  · subst e; rw [upd_same, upd_same]
  · rw [upd_ne e, upd_ne e, dl_ne e, dl_ne e, upd_ne e, dl_ne e]
end
abbrev W0 : WX := fun _ _ _ _ => False
section
variable {X : Cx} {N : Nms} {W : WX} {tg elt iter : Expr} {ifs : List Expr} {scope : Scope} {own : List (Str × Nat)} {pos : Pos} {xi : Env → M (List D × List D)} {t : Tg} {fc : Env → M Bool} {fe : Env → M D} {u : Bool}
abbrev STs (X : Cx) (N : Nms) (W : WX) (ifs : List Expr) (x : Env → M Bool) : Prop := PTs X ifs (tDB (Bo X N) W x)
theorem PTs.imp {X : Cx} {e : List Expr} {t t' : TT} (h : PTs X e t) (k : ∀ σ H Q, t' σ H Q → t σ H Q) : PTs X e t' := ⟨fun pins s σ H Q I q => h.run pins s σ H Q I (k σ H Q q)⟩
theorem sts_nil : STs X N W [] (fun _ => ret true) := PTs.imp pts_nil fun σ H Q q => by
  obtain ⟨m, G, st, env, rs, re, p⟩ := q
  exact Post.here rs p
theorem sts_one {c : Expr} {xt : Env → M Bool} (h : ST X N W c xt) : STs X N W [c] (fun env => bnd (xt env) fun b => if b then ret true else ret false) := PTs.imp (pts_one h) fun σ H Q q => by
  obtain ⟨m, G, st, env, rs, re, p⟩ := q
  refine to_tDB rs re p fun k st1 m1 G1 H1 rs1 re1 x1 p1 => ?_
  cases k with
  | true => exact Post.here rs1 p1
  | false => exact Post.here rs1 p1
/-- the element is added -/
def addE (fe : Env → M D) (env : Env) (acc : List D) : M (List D) := bnd (fe env) fun y => fun st => if acc.length < szLine then .ok (acc ++ [y]) st else .stk
/-- how what is walked is bound -/
abbrev gOf (X : Cx) (N : Nms) (u : Bool) (t : Tg) : TG := fun x σ H Q => ∃ m G st env env' d, RelS (Bo X N) m G H st ∧ RelE (Bo X N) m G env σ ∧ (if u then ∃ ds' a vs, d = .tup ds' ∧ x = .ref a ∧ SqT X.K H a vs ∧ repL (Bo X N) m G ds' vs else repV (Bo X N) m G d x) ∧
      bindT st t d env = some env' ∧ ∀ σ', RelE (Bo X N) m G env' σ' → Keeps t.vars σ σ' → Q σ' H
theorem tLc_of {Q : VK} {σ : L2.St} {H : Hp} {is : List Nat} (ht : ∀ i ∈ t.vars, i ∈ is)
    (q : tN (Bo X N) W (fun env => bnd (xi env) fun p => fun st => bnd (calm (lcGo (depOk st p.2) (fun st d env => bindT st t d env) (fun env => fc env) (fun env acc => addE fe env acc) (wipe env is) p.1 [])) (fun xs => ret (.lst xs)) st) σ H Q) :
    tLc (tI (Bo X N) W u xi) (fun x σ H Q => ∃ m G st env env' d, RelS (Bo X N) m G H st ∧ RelE (Bo X N) m G env σ ∧ (if u then ∃ ds' a vs, d = .tup ds' ∧ x = .ref a ∧ SqT X.K H a vs ∧ repL (Bo X N) m G ds' vs else repV (Bo X N) m G d x) ∧
      bindT st t d env = some env' ∧ ∀ σ', RelE (Bo X N) m G env' σ' → Keeps t.vars σ σ' → Q σ' H) (tDB (Bo X N) W0 fc) (tD (Bo X N) W0 fe) is σ H Q := by
  obtain ⟨m, G, st, env, rs, re, p⟩ := q
  refine ⟨m, G, st, env, rs, re, p.bnd.mono fun a st1 m1 G1 H1 x1 rs1 p1 J hJ D hD => ?_⟩
  obtain ⟨ds, deps⟩ := a
  simp only at hJ p1
  have re1 := re.ext x1
  -- what comes out
  obtain ⟨xs, st', hgo, p2⟩ : ∃ xs st', lcGo (depOk st1 deps) (fun st d env => bindT st t d env) (fun env => fc env) (fun env acc => addE fe env acc) (wipe env is) ds [] st1 = .ok xs st' ∧
      ∀ m' G' H', Ext m1 G1 H1 m' G' H' → RelS (Bo X N) m' G' H' st' → ∀ p o, H' p = none → Cont (Bo X N) m' G' p o (.lst xs) → Q (.ref p) (upd H' p o) := by
    unfold bnd calm at p1
    cases e : lcGo (depOk st1 deps) (fun st d env => bindT st t d env) (fun env => fc env) (fun env acc => addE fe env acc) (wipe env is) ds [] st1 with
    | ok xs st' => rw [e] at p1; exact ⟨xs, st', rfl, p1⟩
    | exc c vs st' => rw [e] at p1; exact p1.elim
    | stk => rw [e] at p1; exact p1.elim
  refine ⟨fun i n H' => n + i = ds.length ∧ ∃ m2 G2 Hd st2 acc vs, Ext m1 G1 H1 m2 G2 Hd ∧ RelS (Bo X N) m2 G2 Hd st2 ∧ Hd D = none ∧ H' = upd Hd D (.lst vs) ∧ repL (Bo X N) m2 G2 acc vs ∧
    lcGo (depOk st1 deps) (fun st d env => bindT st t d env) (fun env => fc env) (fun env acc => addE fe env acc) (wipe env is) (ds.drop i) acc st2 = .ok xs st', ⟨ds.length, rfl, m1, G1, H1, st1, [], [], .refl .., rs1, hD, rfl, .nil', by rw [List.drop_zero]; exact hgo⟩, ?_⟩
  rintro i n H' ⟨hn, m2, G2, Hd, st2, acc, vs, x2, rs2, hdN, rfl, racc, hg⟩
  have rs2' : RelS (Bo X N) m2 G2 (upd Hd D (.lst vs)) st2 := rs2.loose hdN
  by_cases hlt : i < ds.length
  · right
    rw [List.drop_eq_getElem_cons hlt, lcGo] at hg
    dsimp only at hg
    split at hg
    · rename_i hdep
      obtain ⟨jstop, jgo⟩ := hJ m2 G2 _ st2 x2.pre x2.g rs2' hdep
      obtain ⟨go, yl⟩ := jgo i ds[i] (List.getElem?_eq_getElem hlt)
      cases hb : bindT st2 t ds[i] (wipe env is) with
      | none => simp only [hb] at hg; cases hg
      | some env' =>
        simp only [hb] at hg
        refine ⟨go, fun H' => ∃ m2 G2 Hd st2 acc vs, Ext m1 G1 H1 m2 G2 Hd ∧ RelS (Bo X N) m2 G2 Hd st2 ∧ Hd D = none ∧ H' = upd Hd D (.lst vs) ∧ repL (Bo X N) m2 G2 acc vs ∧
          lcGo (depOk st1 deps) (fun st d env => bindT st t d env) (fun env => fc env) (fun env acc => addE fe env acc) (wipe env is) (ds.drop (i + 1)) acc st2 = .ok xs st', fun H' hN => ⟨n - 1, by omega, by omega, hN⟩, fun x H3 hy => ?_⟩
        obtain ⟨m3, G3, x3, rs3, hx⟩ := yl x H3 hy
        refine ⟨m3, G3, st2, wipe env is, env', ds[i], rs3, ((re1.ext x2).ext x3).wipe is, hx, hb, fun σ' re' kp => ⟨?_, ?_⟩⟩
        · rw [kp is ht]; exact wipe_mem fun i q => q
        obtain ⟨b, st4, e4, hg4⟩ := bnd_ok hg
        refine ⟨m3, G3, st2, env', rs3, re', ?_⟩
        show Post _ _ _ _ _ _ (fc env' st2)
        rw [e4]
        refine post_ok fun m4 G4 H4 x4 rs4 => ?_
        cases b with
        | false =>
          rw [if_neg Bool.false_ne_true] at hg4 ⊢
          obtain ⟨y1, y2, y3⟩ := Ext.under (by intro _ h; cases h) hdN rs2 (x3.trans x4) rs4
          exact ⟨m4, G4, dl H4 D, st4, acc, vs, x2.trans y1, y2, dl_same, y3, repL.mono y1.pre y1.g _ _ racc, hg4⟩
        | true =>
          rw [if_pos rfl] at hg4 ⊢
          obtain ⟨acc5, st5, e5, hg5⟩ := bnd_ok hg4
          obtain ⟨yv, st6, e6, hg6⟩ := bnd_ok e5
          try dsimp only at hg6
          split at hg6
          · rename_i hz
            cases hg6
            refine ⟨m4, G4, st4, env', rs4, re'.ext x4, ?_⟩
            show Post _ _ _ _ _ _ (fe env' st4)
            rw [e6]
            refine post_ok fun m5 G5 H5 x5 rs5 v hv => ?_
            obtain ⟨y1, y2, y3⟩ := Ext.under (by intro _ h; cases h) hdN rs2 ((x3.trans x4).trans x5) rs5
            have racc5 := repL.mono y1.pre y1.g _ _ racc
            have hH5 : H5 D = some (.lst vs) := by rw [y3, upd_same]
            refine ⟨vs, hH5, by rw [racc5.length, ← szLine_eq]; exact hz, m5, G5, dl H5 D, st5, acc ++ [yv], vs ++ [v], x2.trans y1, y2, dl_same, upd_dl y3, racc5.append (.cons' hv .nil'), hg5⟩
          · cases hg6
    · cases hg
  · left
    rw [List.drop_eq_nil_of_le (by omega), lcGo] at hg
    dsimp only at hg
    split at hg
    · rename_i hdep
      obtain ⟨jstop, jgo⟩ := hJ m2 G2 _ st2 x2.pre x2.g rs2' hdep
      cases hg
      exact ⟨jstop i (by omega), p2 m2 G2 Hd x2 rs2 D _ hdN (cont_lst racc)⟩
    · cases hg
/-- the contexts of a comprehension's block -/
abbrev Blk (X : Cx) (scope : Scope) (P : Cx → Prop) : Prop := ∀ (s : Shared) (H : Hp) (C : Addr) (cl : List (Str × Addr)) (fp : List Addr), P (X.blk s H scope (compEnvC scope cl C X.env) fp)
theorem sn_lc (hc : X.calm = true) (hN : X.N.Nodup) (hi : SI X N W u tg iter xi) (ok : BlkOk X.N X.env.scope scope own) (hg : Blk X scope fun X' => TgOk X' N u tg t) (ht : ∀ i ∈ t.vars, i ∈ own.map (·.2)) (hif : Blk X scope fun X' => STs X' N W0 ifs fc) (he : Blk X scope fun X' => SE X' N W0 elt fe) (hs : ∀ x, foldedSetIterable iter X.env x = pure x) :
    SN X N W (.ListComp elt [⟨tg, iter, ifs, 0⟩] scope pos) (fun env => bnd (xi env) fun p => fun st => bnd (calm (lcGo (depOk st p.2) (fun st d env => bindT st t d env) (fun env => fc env) (fun env acc => addE fe env acc) (wipe env (own.map (·.2))) p.1 [])) (fun xs => ret (.lst xs)) st) :=
  PE.imp (pe_lc hc hN hi ok (fun s H C cl fp => tgOk_pg (hg s H C cl fp)) hif he hs) fun σ H Q q => tLc_of ht q
theorem ss_setLc {i : Nat} {y : Str} {py spos : Pos} (hc : X.calm = true) (hN : X.N.Nodup) (hy : X.N[i]? = some y) (hyl : X.env.scope.names.lookup y = some .local) (hsw : swapsWith (.ListComp elt [⟨tg, iter, ifs, 0⟩] scope pos) (some (.Name y py)) spos.line X.env = pure true)
    (hi : SI X N W u tg iter xi) (ok : BlkOk X.N X.env.scope scope own) (hg : Blk X scope fun X' => TgOk X' N u tg t) (ht : ∀ i ∈ t.vars, i ∈ own.map (·.2)) (hif : Blk X scope fun X' => STs X' N W0 ifs fc) (he : Blk X scope fun X' => SE X' N W0 elt fe) (hs : ∀ x, foldedSetIterable iter X.env x = pure x) (box : Bool) :
    SS X N W (.Assign [.Name y py] (.ListComp elt [⟨tg, iter, ifs, 0⟩] scope pos) spos) (fun env st => vl ((fun env => bnd (bnd (xi env) fun p => fun st => bnd (calm (lcGo (depOk st p.2) (fun st d env => bindT st t d env) (fun env => fc env) (fun env acc => addE fe env acc) (wipe env (own.map (·.2))) p.1 [])) (fun xs => ret (.lst xs)) st) (if box then alloc else ret)) env) env st fun x st1 => match bindT st1 (.v i) x env with
    | some env' => .nx env' st1
    | none => .stk) := by
  refine PS.imp (ps_setLc (g := gOf X N u t) (te := tD (Bo X N) W0 fe) (tt := tDB (Bo X N) W0 fc) hc hN hy hyl hsw hi ok (fun s H C cl fp => tgOk_pg (hg s H C cl fp)) (fun s H C cl fp => hif s H C cl fp) (fun s H C cl fp => he s H C cl fp) hs) fun E σ H q => ?_
  obtain ⟨m, G, st, env, rs, re, p⟩ := q
  have key : tD (Bo X N) W (fun env => bnd (bnd (xi env) fun p => fun st => bnd (calm (lcGo (depOk st p.2) (fun st d env => bindT st t d env) (fun env => fc env) (fun env acc => addE fe env acc) (wipe env (own.map (·.2))) p.1 [])) (fun xs => ret (.lst xs)) st) (if box then alloc else ret)) σ H (fun x H1 => gName i x σ H1 E.nx) := by
    refine vl_tD rs re p fun d st1 m1 G1 H1 v rs1 re1 x1 hv p1 => ?_
    rw [bindT] at p1
    split at p1
    · rename_i env' h
      split at h
      · cases h; exact p1.nxt rs1 (re1.set i hv)
      · cases h
    · exact p1.elim
  refine tLc_of ht ?_
  obtain ⟨m2, G2, st2, env2, rs2, re2, p2⟩ := key
  refine ⟨m2, G2, st2, env2, rs2, re2, ?_⟩
  cases box with
  | true => exact Post.lay p2
  | false =>
    rw [if_neg Bool.false_ne_true] at p2
    dsimp only at p2
    rw [bnd_ret] at p2
    exact Post.still p2
end
end Dn
end
section
set_option Elab.async false
set_option linter.all false
set_option maxRecDepth 100000
set_option maxHeartbeats 4000000
/-! Dn19: exceptions raised. Own work. -/
namespace Dn
open PySem PySem.Spec PyProof.Rows L2

/-- the fields as they stand behind an __init__ that lays them from the left -/
def laidF (fs : List Str) (ws : List V) : List (Str × V) := (fs.zip ws).reverse
/-- the promise of an exception's __init__ that lays each argument as a field -/
def spInit (K : PySem.W.Frag) (fs : List Str) : Sp := fun vs H Q _ => ∃ a C ws, vs = .ref a :: ws ∧ ws.length = fs.length ∧ OexC K C ∧ (∀ f ∈ fs, PySem.W.findIn K (.ref C) f = some none) ∧ H a = some (exo a C none) ∧
  ∀ d H2, H d = none → d ≠ a → H2 a = some (exo a C (some d)) → H2 d = some (exd d (laidF fs ws)) → (∀ b, b ≠ a → b ≠ d → H2 b = H b) → Q .non H2
/-- self.f = p, one for each -/
def tIn (K : PySem.W.Frag) : List (Str × Nat) → TS
  | [] => tNext
  | (f, i) :: r => tSeq (tOst K f (tVar 0) (tVar i)) (tIn K r)
theorem tIn_more {K : PySem.W.Frag} {C a d : Addr} {E : Ends} {σ : L2.St} (T : OexC K C) (hs : σ[0]? = some (some (.ref a))) : ∀ (l : List (Str × Nat)) (ws : List V) (H : Hp) (fs : List (Str × V)), l.length = ws.length → (∀ (j : Nat) (f : Str) (i : Nat), l[j]? = some (f, i) → PySem.W.findIn K (.ref C) f = some none ∧ ∃ w, ws[j]? = some w ∧ σ[i]? = some (some w)) →
    fs.length + l.length ≤ 900 → H a = some (exo a C (some d)) → H d = some (exd d fs) → d ≠ a → (∀ H2, H2 a = some (exo a C (some d)) → H2 d = some (exd d ((l.map (·.1)).zip ws |>.reverse.append fs)) → (∀ b, b ≠ d → H2 b = H b) → E.nx σ H2) → tIn K l E σ H
  | [], ws, H, fs, hl, hw, hz, ha, hd, hne, q => by
    have : ws = [] := List.eq_nil_of_length_eq_zero hl.symm
    subst this
    exact q H ha (by simpa using hd) fun b _ => rfl
  | (f, i) :: l, [], H, fs, hl, hw, hz, ha, hd, hne, q => by simp at hl
  | (f, i) :: l, w :: ws, H, fs, hl, hw, hz, ha, hd, hne, q => by
    obtain ⟨h1, w', e1, e2⟩ := hw 0 f i rfl
    cases e1
    simp only [List.length_cons] at hl hz
    refine ⟨w, e2, .ref a, hs, a, C, rfl, T, h1, .inr ⟨d, fs, ha, hd, by omega, ?_⟩⟩
    refine tIn_more T hs l ws _ ((f, w) :: fs) (by omega) (fun j f' i' e => hw (j + 1) f' i' (by simpa using e)) (by simp only [List.length_cons]; omega) (by rw [upd_ne hne.symm]; exact ha) upd_same hne fun H2 k1 k2 k3 => ?_
    refine q H2 k1 (by rw [k2]; simp [List.append_assoc]) fun b hb => by rw [k3 b hb, upd_ne hb]
theorem tIn_all {K : PySem.W.Frag} {C a : Addr} {E : Ends} {σ : L2.St} {H : Hp} (T : OexC K C) (hs : σ[0]? = some (some (.ref a))) {f : Str} {i : Nat} {l : List (Str × Nat)} {w : V} {ws : List V} (hl : l.length = ws.length) (hw0 : PySem.W.findIn K (.ref C) f = some none ∧ σ[i]? = some (some w))
    (hw : ∀ (j : Nat) (f : Str) (i : Nat), l[j]? = some (f, i) → PySem.W.findIn K (.ref C) f = some none ∧ ∃ w, ws[j]? = some w ∧ σ[i]? = some (some w)) (hz : l.length ≤ 800) (ha : H a = some (exo a C none))
    (q : ∀ d H2, H d = none → d ≠ a → H2 a = some (exo a C (some d)) → H2 d = some (exd d (laidF (f :: l.map (·.1)) (w :: ws))) → (∀ b, b ≠ a → b ≠ d → H2 b = H b) → E.nx σ H2) : tIn K ((f, i) :: l) E σ H := by
  refine ⟨w, hw0.2, .ref a, hs, a, C, rfl, T, hw0.1, .inl ⟨ha, fun d hd hne => ?_⟩⟩
  refine tIn_more (d := d) T hs l ws _ [(f, w)] hl hw (by simp only [List.length_cons, List.length_nil]; omega) upd_same (by rw [upd_ne hne]; exact upd_same) hne fun H2 k1 k2 k3 => ?_
  refine q d H2 hd hne k1 (by rw [k2]; unfold laidF; simp) fun b hb hb2 => by rw [k3 b hb2, upd_ne hb, upd_ne hb2]
section
variable {X : Cx} {N : Nms} {W : WX} {k : Nat} {C fI : Addr} {fd : FuncData} {ps fs : List Str} {x : Str} {p pos pos' : Pos} {e : Expr} {es : List Expr} {xs : Env → M (List D)} {c : Nat}
/-- raise C(e, ..) -/
theorem ss_raise (hc : X.calm = true) (tk : Takes X W) (T : OexC X.K (He.ga X.K (N.cls c))) (hno : ∀ f ∈ fs, PySem.W.findIn X.K (.ref (He.ga X.K (N.cls c))) f = some none) (iC : PySem.W.findIn X.K (.ref (He.ga X.K (N.cls c))) "__init__" = some (some (.ref fI))) (tI : PySem.W.typeIn X.K (.ref fI) = some (.type "function"))
    (F1 : FnOk X.prog X.w X.K X.mg X.base (L2.CX X.prog X.w) k fI fd ps (spInit X.K fs)) (hef : ((N.ef c).map N.fld) = fs.reverse) (hz : fs.length ≤ 900) (hr : Room (k + 1) X.A) (hb : Binds X.K fd ps []) (hg : Gl X x) (hm : X.mg x = some (.ref (He.ga X.K (N.cls c)))) (ha : SA X N W (e :: es) xs)
    (hdb : (x == ("__debug__" : Str)) = false) (hs : (e :: es).all noStar = true) :
    SS X N W (.Raise (some (.Call (.Name x p) (e :: es) [] pos)) none pos') (fun env st => vl (xs env) env st fun ys st1 => if ys.length = fs.length then .xc c ys.reverse env st1 else .stk) := by
  have hs' : noStar e = true ∧ es.all noStar = true := by rw [List.all_cons, Bool.and_eq_true] at hs; exact hs
  have mk := pmk_oex (p := p) (pos := pos) (dvs := []) T iC tI F1 hr hb .nil (fun pins σ H s e s' I h => by obtain ⟨_, _, _, _, _, _, _, _, _, _, _, _, z⟩ := h; exact z.elim) hg hm ha hdb (star_consN hs'.1) (star_plain hs'.2).1
  refine PS.imp (ps_raise hc tk mk) fun E σ H q => ?_
  obtain ⟨m, G, st, env, rs, re, p⟩ := q
  refine vl_tDA rs re p fun ds st1 m1 G1 H1 vs rs1 re1 x1 hv p1 => ?_
  split at p1
  · rename_i hl
    have hvl := hv.length
    refine ⟨by omega, fun a hna => ⟨a, _, vs, by rw [List.append_nil], by rw [hvl, hl], T, hno, upd_same, fun d H2 hd hne k1 k2 k3 => ⟨rfl, d, _, k1, k2, ?_, ?_⟩⟩⟩
    · rw [upd_ne hne] at hd; exact hd
    have hd1 : H1 d = none := by rw [upd_ne hne] at hd; exact hd
    have hH : upd (del H2 a) d (.xd (laidF fs vs)) = upd H1 d (.xd (laidF fs vs)) := by
      funext b
      by_cases e1 : b = d
      · subst e1; rw [upd_same, upd_same]
      · rw [upd_ne e1, upd_ne e1]
        by_cases e2 : b = a
        · subst e2; rw [del_same, hna]
        · rw [del_ne e2, k3 b e2 e1, upd_ne e2]
    rw [hH]
    have z1 : (fs.zip vs).map (·.1) = fs := by rw [List.map_fst_zip]; omega
    have z2 : (fs.zip vs).map (·.2) = vs := by rw [List.map_snd_zip]; omega
    refine p1 m1 G1 _ σ d (laidF fs vs) (.loose rs1 hd1) (rs1.loose hd1) (re1.ext (.loose (o := .xd (laidF fs vs)) rs1 hd1)) ⟨upd_same, ?_⟩ ?_
    · show (laidF fs vs).map (·.1) = _
      unfold laidF
      rw [List.map_reverse, z1]; exact hef.symm
    · unfold laidF
      rw [List.map_reverse, z2]
      exact hv.reverse
  · exact p1.elim
end
end Dn
end
section
set_option Elab.async false
set_option linter.all false
set_option maxRecDepth 100000
set_option maxHeartbeats 4000000
/-! Dn20: try. Own work. -/
namespace Dn
open PySem PySem.Spec PyProof.Rows L2

/-- with this exception in hand -/
abbrev Nms.hot (N : Nms) (o : Option (Addr × Nat × Addr)) : Nms := { N with ex := o }
abbrev Wo.hot (B : Wo) (o : Option (Addr × Nat × Addr)) : Wo := { B with N := B.N.hot o }
section
variable {B : Wo} {o : Option (Addr × Nat × Addr)} {m : List Addr} {G : Hp}
mutual
theorem rep_hot : ∀ (d : D) (v : V), d.nox = true → (repV (B.hot o) m G d v ↔ repV B m G d v)
  | .non, v, _ => by rw [repV, repV]
  | .bl b, v, _ => by rw [repV, repV]
  | .int i, v, _ => by rw [repV, repV]
  | .str x, v, _ => by rw [repV, repV]
  | .tup ds, v, p => by
    rw [repV, repV]
    have ih := rep_hotL ds
    constructor
    · rintro ⟨a, xs, e, s, r⟩; exact ⟨a, xs, e, s, (ih xs (by simpa [D.nox] using p)).mp r⟩
    · rintro ⟨a, xs, e, s, r⟩; exact ⟨a, xs, e, s, (ih xs (by simpa [D.nox] using p)).mpr r⟩
  | .kdic ks vs, v, p => by
    rw [repV, repV]
    rw [D.nox, Bool.and_eq_true] at p
    have ih := rep_hotL vs
    constructor
    · rintro ⟨a, xs, e, s, r⟩; exact ⟨a, xs, e, s, (ih xs p.2).mp r⟩
    · rintro ⟨a, xs, e, s, r⟩; exact ⟨a, xs, e, s, (ih xs p.2).mpr r⟩
  | .lst ds, v, p => by
    rw [repV, repV]
    have ih := rep_hotL ds
    constructor
    · rintro ⟨a, xs, e, s, r⟩; exact ⟨a, xs, e, s, (ih xs (by simpa [D.nox] using p)).mp r⟩
    · rintro ⟨a, xs, e, s, r⟩; exact ⟨a, xs, e, s, (ih xs (by simpa [D.nox] using p)).mpr r⟩
  | .dic ks vs, v, p => by
    rw [repV, repV]
    rw [D.nox, Bool.and_eq_true] at p
    have ih := rep_hotL vs
    have ihk := rep_hotL ks
    constructor
    · rintro ⟨a, u, e, s, r | r⟩
      · obtain ⟨kvs, e1, e2, r⟩ := r
        exact ⟨a, u, e, s, .inl ⟨kvs, e1, e2, (ih _ p.2).mp r⟩⟩
      · obtain ⟨xs, e1, e2, e3, r1, e4, r⟩ := r
        exact ⟨a, u, e, s, .inr ⟨xs, e1, e2, e3, (ihk _ p.1).mp r1, e4, (ih _ p.2).mp r⟩⟩
    · rintro ⟨a, u, e, s, r | r⟩
      · obtain ⟨kvs, e1, e2, r⟩ := r
        exact ⟨a, u, e, s, .inl ⟨kvs, e1, e2, (ih _ p.2).mpr r⟩⟩
      · obtain ⟨xs, e1, e2, e3, r1, e4, r⟩ := r
        exact ⟨a, u, e, s, .inr ⟨xs, e1, e2, e3, (ihk _ p.1).mpr r1, e4, (ih _ p.2).mpr r⟩⟩
  | .obj c ns vs, v, p => by
    rw [repV, repV]
    have ih := rep_hotL vs
    constructor
    · rintro ⟨a, dx, fvs, e, s, e2, r⟩; exact ⟨a, dx, fvs, e, s, e2, (ih _ (by simpa [D.nox] using p)).mp r⟩
    · rintro ⟨a, dx, fvs, e, s, e2, r⟩; exact ⟨a, dx, fvs, e, s, e2, (ih _ (by simpa [D.nox] using p)).mpr r⟩
  | .ref n, v, _ => by rw [repV, repV]
  | .fn f, v, _ => by rw [repV, repV]
  | .rng lo hi, v, _ => by rw [repV, repV]
  | .exn c ns vs, v, p => by simp [D.nox] at p
theorem rep_hotL : ∀ (ds : List D) (xs : List V), D.noxL ds = true → (repL (B.hot o) m G ds xs ↔ repL B m G ds xs)
  | [], xs, _ => by rw [repL, repL]
  | d :: ds, xs, p => by
    rw [D.noxL, Bool.and_eq_true] at p
    rw [repL, repL]
    have h1 := rep_hot d
    have h2 := rep_hotL ds
    constructor
    · rintro ⟨v, vs, e, r1, r2⟩; exact ⟨v, vs, e, (h1 v p.1).mp r1, (h2 vs p.2).mp r2⟩
    · rintro ⟨v, vs, e, r1, r2⟩; exact ⟨v, vs, e, (h1 v p.1).mpr r1, (h2 vs p.2).mpr r2⟩
end
theorem cell_hot {H : Hp} {a : Addr} (d : D) (p : d.nox = true) : CellOk (B.hot o) m G H a d ↔ CellOk B m G H a d := by
  cases d <;> first | exact Iff.rfl | skip
  · have q := rep_hotL (B := B) (o := o) (m := m) (G := G)
    constructor
    · rintro ⟨xs, e, r⟩; exact ⟨xs, e, (q _ xs (by simpa [D.nox] using p)).mp r⟩
    · rintro ⟨xs, e, r⟩; exact ⟨xs, e, (q _ xs (by simpa [D.nox] using p)).mpr r⟩
  · have q := rep_hotL (B := B) (o := o) (m := m) (G := G)
    rw [D.nox, Bool.and_eq_true] at p
    constructor
    · rintro (⟨kvs, e, e2, r⟩ | ⟨xs, e, e1, e2, r1, e3, r⟩)
      · exact .inl ⟨kvs, e, e2, (q _ _ p.2).mp r⟩
      · exact .inr ⟨xs, e, e1, e2, (q _ _ p.1).mp r1, e3, (q _ _ p.2).mp r⟩
    · rintro (⟨kvs, e, e2, r⟩ | ⟨xs, e, e1, e2, r1, e3, r⟩)
      · exact .inl ⟨kvs, e, e2, (q _ _ p.2).mpr r⟩
      · exact .inr ⟨xs, e, e1, e2, (q _ _ p.1).mpr r1, e3, (q _ _ p.2).mpr r⟩
  · have q := rep_hotL (B := B) (o := o) (m := m) (G := G)
    constructor
    · rintro ⟨dx, fvs, e, e2, r⟩; exact ⟨dx, fvs, e, e2, (q _ _ (by simpa [D.nox] using p)).mp r⟩
    · rintro ⟨dx, fvs, e, e2, r⟩; exact ⟨dx, fvs, e, e2, (q _ _ (by simpa [D.nox] using p)).mpr r⟩
theorem noxL_get : ∀ {ds : List D} {i : Nat} {d : D}, D.noxL ds = true → ds[i]? = some d → d.nox = true
  | [], i, d, _, e => by simp at e
  | x :: xs, 0, d, p, e => by
    rw [D.noxL, Bool.and_eq_true] at p
    simp at e; subst e; exact p.1
  | x :: xs, i + 1, d, p, e => by
    rw [D.noxL, Bool.and_eq_true] at p
    exact noxL_get p.2 (by simpa using e)
theorem relS_hot {H : Hp} {st : Store} (p : D.noxL st = true) : RelS (B.hot o) m G H st ↔ RelS B m G H st := by
  constructor
  · intro r
    exact ⟨r.sub, r.len, r.nd, r.out, fun i a c h1 h2 => (cell_hot c (noxL_get p h2)).mp (r.cell i a c h1 h2)⟩
  · intro r
    exact ⟨r.sub, r.len, r.nd, r.out, fun i a c h1 h2 => (cell_hot c (noxL_get p h2)).mpr (r.cell i a c h1 h2)⟩
theorem noxE_get {env : Env} {i : Nat} {d : D} (p : noxE env = true) (e : env[i]? = some (some d)) : d.nox = true := by
  unfold noxE at p
  rw [List.all_eq_true] at p
  exact p _ (List.mem_of_getElem? e)
theorem relE_hot {env : Env} {σ : L2.St} (p : noxE env = true) : RelE (B.hot o) m G env σ ↔ RelE B m G env σ := by
  constructor
  · intro r
    refine ⟨r.1, fun i d e => ?_⟩
    obtain ⟨v, e1, q⟩ := r.2 i d e
    exact ⟨v, e1, (rep_hot d v (noxE_get p e)).mp q⟩
  · intro r
    refine ⟨r.1, fun i d e => ?_⟩
    obtain ⟨v, e1, q⟩ := r.2 i d e
    exact ⟨v, e1, (rep_hot d v (noxE_get p e)).mpr q⟩
/-- the exception's dict is kept in sight -/
theorem RelS.xd {H : Hp} {st : Store} {dx : Addr} {fvs : List (Str × V)} (r : RelS B m G H st) (h : H dx = some (.xd fvs)) : GLe G (upd G dx (.xd fvs)) ∧ RelS B m (upd G dx (.xd fvs)) H st ∧ Ext m G H m (upd G dx (.xd fvs)) H := by
  have nm : dx ∉ m := fun q => by
    obtain ⟨i, hi, e⟩ := List.mem_iff_getElem.mp q
    have hi' : i < st.length := by rw [← r.len]; exact hi
    have co := (r.cell i dx st[i] (by rw [List.getElem?_eq_getElem hi, e]) (List.getElem?_eq_getElem hi')).mut
    rw [h] at co
    exact co
  have g : GLe G (upd G dx (.xd fvs)) := .of_same fun a u q => by
    by_cases e : a = dx
    · subst e
      have := r.sub _ _ q
      rw [h] at this
      cases this
      exact upd_same
    · rw [upd_ne e]; exact q
  refine ⟨g, ⟨fun a u q => ?_, r.len, r.nd, fun a q => ?_, fun i a c h1 h2 => (r.cell i a c h1 h2).mono List.prefix_rfl g rfl⟩, ⟨List.prefix_rfl, g, fun a u h _ => h, fun a u h => ⟨u, h⟩, fun a h => .inl h, fun a u q => ?_, fun a fs h => .inr h⟩⟩
  · by_cases e : a = dx
    · subst e; rw [upd_same] at q; cases q; exact h
    · rw [upd_ne e] at q; exact r.sub _ _ q
  · have : a ≠ dx := fun e => by subst e; exact nm q
    rw [upd_ne this]; exact r.out a q
  · by_cases e : a = dx
    · subst e
      exact .inr (.inr ⟨_, h⟩)
    · rw [upd_ne e] at q; exact .inl ⟨u, q⟩
end
section
variable {X : Cx} {N : Nms} {W : WX} {T : Tb} {x n : Str} {c i : Nat} {body suite : List Stmt} {b₀ : Stmt} {np pos pos' : Pos} {yb yh : Env → Store → Fl}
theorem ss_try (hs : X.stack = X.env :: X.outer) (hf : X.env.frame = some X.env.locals) (hN : X.N.Nodup) (hi : X.N[i]? = some n) (hln : X.env.kindOf n = some .local) (hc : Names X x (.ref (He.ga X.K (N.cls c)))) (tk : Takes X W)
    (hex : ∀ c' e, T.cls[c']? = some e → e.err = true → PySem.W.exmOne X.K (.ref (He.ga X.K (N.cls c'))) (.ref (He.ga X.K (N.cls c))) = some (isUp T c' c) ∧ N.ef c' = e.flds)
    (hb : ∀ (W' : WX) (pn : List (Addr × Obj)) (xe : Value → Shared → Prop), Takes (X.tr pn xe) W' → PassesOwn (model X.prog X.w) X.A X.env xe → SSs (X.tr pn xe) N W' body yb)
    (hh : ∀ (a : Addr) (oe : Obj) (cid : Nat) (dx : Addr) (pn : List (Addr × Obj)), Zc (.ref (He.ga X.K (N.cls cid))) (some dx) oe → (∃ vs, oe.data = .fields vs) → SSs (X.suite a ((a, oe) :: pn)) (N.hot (some (a, cid, dx))) W0 (b₀ :: suite) yh) :
    SS X N W (.Try body [.ExceptHandler (some (.Name x np)) (some n) (b₀ :: suite) pos'] [] [] pos) (fun env st => match yb env st with
      | .xc c' vs env1 st1 => (match T.cls[c']? with
        | some e => if e.err then (if isUp T c' c then (if i < env1.length ∧ noxE env1 = true ∧ D.noxL st1 = true ∧ D.noxL vs = true then leave i (yh (env1.set i (some (.exn c' e.flds vs))) st1) else .stk) else .xc c' vs env1 st1) else .stk
        | none => .stk)
      | y => y) := by
  refine PS.imp (ps_try_as (ts := fun a cls d E σ H => ∃ cid dx, cls = .ref (He.ga X.K (N.cls cid)) ∧ d = some dx ∧ tS (Bo X (N.hot (some (a, cid, dx)))) W0 yh E σ H) (tb := fun W' => tS (Bo X N) W' yb) hs hf hN hi hln hc tk hb (fun a oe cls d pn hz hd => ⟨fun pins s σ H E I q => ?_⟩)) fun E σ H q => ?_
  · obtain ⟨cid, dx, rfl, rfl, q⟩ := q
    exact (hh a oe cid dx pn hz hd).run pins s σ H E I q
  · obtain ⟨m, G, st, env, rs, re, p⟩ := q
    refine ⟨m, G, st, env, rs, re, ?_⟩
    cases e : yb env st with
    | nx env' st' => simp only [e] at p; exact p
    | rt d st' => simp only [e] at p; exact p
    | bk env' st' => simp only [e] at p; exact p
    | ct env' st' => simp only [e] at p; exact p
    | stk => simp only [e] at p; exact p
    | xc c' vs env1 st1 =>
      simp only [e] at p
      cases hT : T.cls[c']? with
      | none => simp only [hT] at p; exact p.elim
      | some ce =>
        simp only [hT] at p
        split at p
        · rename_i herr
          obtain ⟨h1, h2⟩ := hex c' ce hT herr
          intro m' G' H' σ' dx fvs xx rr ee hat hvs
          refine ⟨isUp T c' c, h1, fun hy a hna => ?_, fun hno => ?_⟩
          · rw [if_pos hy] at p
            split at p
            · rename_i hok
              obtain ⟨k1, k2, k3, k4⟩ := hok
              obtain ⟨g1, g2, g3⟩ := rr.xd hat.1
              refine ⟨c', dx, rfl, rfl, m', upd G' dx (.xd fvs), st1, env1.set i (some (.exn c' ce.flds vs)), (relS_hot (B := Bo X N) k3).mpr g2, ?_, ?_⟩
              · refine RelE.set ((relE_hot (B := Bo X N) k2).mpr (ee.mono List.prefix_rfl g1)) i ?_
                rw [repV]
                exact ⟨a, dx, fvs, rfl, rfl, upd_same, by rw [hat.2]; show _ = _; rw [h2], (rep_hotL (B := Bo X N) vs _ k4).mpr (repL.mono List.prefix_rfl g1 _ _ hvs)⟩
              · cases e2 : yh (env1.set i (some (.exn c' ce.flds vs))) st1 with
                | nx env2 st2 =>
                  simp only [e2, leave] at p
                  split at p
                  · rename_i hx
                    rw [Bool.and_eq_true] at hx
                    intro m2 G2 H2 σ2 x2 r2 e2
                    exact p m2 G2 H2 _ ((xx.trans g3).trans x2) ((relS_hot (B := Bo X N) hx.2).mp r2) ((relE_hot (B := Bo X N) hx.1).mp (e2.drop i))
                  · exact p.elim
                | bk env2 st2 =>
                  simp only [e2, leave] at p
                  split at p
                  · rename_i hx
                    rw [Bool.and_eq_true] at hx
                    intro m2 G2 H2 σ2 x2 r2 e2
                    exact p m2 G2 H2 _ ((xx.trans g3).trans x2) ((relS_hot (B := Bo X N) hx.2).mp r2) ((relE_hot (B := Bo X N) hx.1).mp (e2.drop i))
                  · exact p.elim
                | ct env2 st2 =>
                  simp only [e2, leave] at p
                  split at p
                  · rename_i hx
                    rw [Bool.and_eq_true] at hx
                    intro m2 G2 H2 σ2 x2 r2 e2
                    exact p m2 G2 H2 _ ((xx.trans g3).trans x2) ((relS_hot (B := Bo X N) hx.2).mp r2) ((relE_hot (B := Bo X N) hx.1).mp (e2.drop i))
                  · exact p.elim
                | rt d st2 =>
                  simp only [e2, leave] at p
                  split at p
                  · rename_i hx
                    rw [Bool.and_eq_true] at hx
                    intro m2 G2 H2 v x2 r2 hv
                    exact p m2 G2 H2 v ((xx.trans g3).trans x2) ((relS_hot (B := Bo X N) hx.2).mp r2) ((rep_hot (B := Bo X N) d v hx.1).mp hv)
                  · exact p.elim
                | xc c2 vs2 env2 st2 => simp only [e2, leave] at p; exact p.elim
                | stk => simp only [e2, leave] at p; exact p.elim
            · exact p.elim
          · rw [if_neg (by rw [hno]; exact Bool.false_ne_true)] at p
            exact p m' G' H' σ' dx fvs xx rr ee hat hvs
        · exact p.elim
end
end Dn
end
section
set_option Elab.async false
set_option linter.all false
set_option maxRecDepth 100000
set_option maxHeartbeats 4000000
/-! Dn21: built-ins. Own work. -/
namespace Dn
open PySem PySem.Spec PyProof.Rows L2

/-- a built-in on the store -/
def bltM (f : Blt) (ds : List D) : M D := fun st => match blt f ds st with
  | some y => .ok y st
  | none => .stk
theorem bltM_quiet {f : Blt} {ds : List D} : Quiet (bltM f ds) := fun st c vs st' h => by
  unfold bltM at h
  cases e : blt f ds st <;> simp [e] at h
section
variable {X : Cx} {N : Nms}
theorem CallR.imp {f : Value} {r r' : List V → Hp → VK → Prop} (h : CallR X f r) (k : ∀ xs H Q, r' xs H Q → r xs H Q) : CallR X f r' := fun pins s σ H xs us Q I rs q => h pins s σ H xs us Q I rs (k xs H Q q)
/-- opened: the value is known -/
theorem rMA_open {f : Blt} {xs : List V} {H : Hp} {Q : VK} (h : rMA (Bo X N) (bltM f) xs H Q) : ∃ m G st ds y, RelS (Bo X N) m G H st ∧ repL (Bo X N) m G ds xs ∧ blt f ds st = some y ∧ ∀ v m' G' H', Ext m G H m' G' H' → RelS (Bo X N) m' G' H' st → repV (Bo X N) m' G' y v → Q v H' := by
  obtain ⟨m, G, st, ds, r, rl, p⟩ := h
  unfold bltM at p
  cases e : blt f ds st with
  | none => rw [e] at p; exact p.elim
  | some y => rw [e] at p; exact ⟨m, G, st, ds, y, r, rl, e, fun v m' G' H' xx rr hv => p m' G' H' xx rr v hv⟩
theorem rNA_open {f : Blt} {xs : List V} {H : Hp} {Q : VK} (h : rNA (Bo X N) (bltM f) xs H Q) : ∃ m G st ds y, RelS (Bo X N) m G H st ∧ repL (Bo X N) m G ds xs ∧ blt f ds st = some y ∧ ∀ p o, H p = none → Cont (Bo X N) m G p o y → Q (.ref p) (upd H p o) := by
  obtain ⟨m, G, st, ds, r, rl, p⟩ := h
  unfold bltM at p
  cases e : blt f ds st with
  | none => rw [e] at p; exact p.elim
  | some y => rw [e] at p; exact ⟨m, G, st, ds, y, r, rl, e, Post.here r p⟩
theorem rep1 {B : Wo} {m : List Addr} {G : Hp} {d : D} {xs : List V} (h : repL B m G [d] xs) : ∃ v, xs = [v] ∧ repV B m G d v := by
  rw [repL] at h
  obtain ⟨v, vs, rfl, h1, h2⟩ := h
  rw [repL] at h2
  subst h2
  exact ⟨v, rfl, h1⟩
theorem rep2 {B : Wo} {m : List Addr} {G : Hp} {d e : D} {xs : List V} (h : repL B m G [d, e] xs) : ∃ v w, xs = [v, w] ∧ repV B m G d v ∧ repV B m G e w := by
  rw [repL] at h
  obtain ⟨v, vs, rfl, h1, h2⟩ := h
  obtain ⟨w, rfl, h3⟩ := rep1 h2
  exact ⟨v, w, rfl, h1, h3⟩
/-- a thing that is no list, tuple, dict is what it is -/
theorem cell_own {m : List Addr} {G H : Hp} {st : Store} {d : D} {v : V} {x : Str} (r : RelS (Bo X N) m G H st) (h : repV (Bo X N) m G d v) (e : cellOf st d = .str x) : d = .str x := by
  cases d with
  | ref n =>
    obtain ⟨a, rfl, _, c⟩ := r.at h (get_of_getD e (by intro z; cases z))
    exact c.elim
  | _ => exact e
theorem cr_len : CallR X (.builtin "len") (rMA (Bo X N) (bltM .len)) := by
  intro pins s σ H xs us Q I rv h
  obtain ⟨m, G, st, ds, y, r, rl, e, q⟩ := rMA_open h
  match ds, e with
  | [d], e =>
    obtain ⟨v, rfl, hv⟩ := rep1 rl
    have fin : ∀ n : Nat, y = .int (n : Nat) → Q (.int n) H := fun n e => q _ m G H (.refl ..) r (by rw [e]; exact repV_int.mpr rfl)
    simp only [blt] at e
    split at e
    · rename_i xs c
      cases e
      obtain ⟨a, vs, rfl, ta, rl⟩ := tup_at r hv c
      exact L2.call_len pins s σ H _ us Q I rv ⟨_, xs.length, rfl, .inr ⟨vs, ta.seq, rl.length.symm⟩, fin _ rfl⟩
    · rename_i xs c
      cases e
      obtain ⟨a, vs, rfl, ta, rl⟩ := list_at r hv c
      exact L2.call_len pins s σ H _ us Q I rv ⟨_, xs.length, rfl, .inl ⟨vs, ta, rl.length.symm⟩, fin _ rfl⟩
    · rename_i ks vs c
      cases e
      obtain ⟨a, u, rfl, ha, hD⟩ := dic_at r hv c
      obtain ⟨z, rfl, rz⟩ := vals1 rv
      cases rz
      exact td_len I r ha hD fun t s' I' => ⟨.int ks.length, H, I', ⟨t, rfl⟩, fin _ rfl⟩
    · rename_i x c
      obtain ⟨hz, rfl⟩ := if_some e
      obtain rfl := cell_own r hv c
      have hv' := repV_str.mp hv
      subst hv'
      exact L2.call_len pins s σ H _ us Q I rv ⟨_, x.length, rfl, ⟨szOk hz, rfl⟩, fin _ rfl⟩
    · cases e
  | [], e => simp [blt] at e
  | _ :: _ :: _, e => simp [blt] at e
theorem cr_tuple : CallR X (.type "tuple") (rMA (Bo X N) (bltM .tuple)) := by
  intro pins s σ H xs us Q I rv h
  obtain ⟨m, G, st, ds, y, r, rl, e, q⟩ := rMA_open h
  match ds, e with
  | [d], e =>
    obtain ⟨v, rfl, hv⟩ := rep1 rl
    simp only [blt] at e
    split at e
    · rename_i xs c
      cases e
      obtain ⟨a, vs, rfl, ta, rl⟩ := tup_at r hv c
      exact call_tupleT pins s σ H _ us Q I rv ⟨a, vs, rfl, ta.seq, q _ m G H (.refl ..) r (tup_is r hv c ▸ hv)⟩
    · rename_i xs c
      cases e
      obtain ⟨a, vs, rfl, ta, rl⟩ := list_at r hv c
      obtain ⟨z, rfl, rz⟩ := vals1 rv
      cases rz
      obtain ⟨its, r', pl, hz⟩ := I.list ta
      have hlen := r'.length
      refine call_tuple_list pl.isList (fun h' kp => ?_) (by simp only [List.size_toArray] <;> omega)
      exact (NewT.of (X := X) r rl (by rw [← rl.length]; exact hz) q).run (I.kept (t' := s.toks) kp) r'
    · cases e
  | [], e => simp [blt] at e
  | _ :: _ :: _, e => simp [blt] at e
theorem cr_list : CallR X (.type "list") (rNA (Bo X N) (bltM .list)) := by
  refine CallR.imp call_list_of fun xs H Q h => ?_
  obtain ⟨m, G, st, ds, y, r, rl, e, q⟩ := rNA_open h
  match ds, e with
  | [d], e =>
    obtain ⟨v, rfl, hv⟩ := rep1 rl
    simp only [blt] at e
    split at e
    · rename_i xs c
      cases e
      obtain ⟨a, vs, rfl, ta, rl⟩ := tup_at r hv c
      exact ⟨a, vs, rfl, .inr ta.seq, fun l hl => q l _ hl (cont_lst rl)⟩
    · rename_i xs c
      cases e
      obtain ⟨a, vs, rfl, ta, rl⟩ := list_at r hv c
      exact ⟨a, vs, rfl, .inl ta, fun l hl => q l _ hl (cont_lst rl)⟩
    · cases e
  | [], e => simp [blt] at e
  | _ :: _ :: _, e => simp [blt] at e
theorem bools_rep {B : Wo} {m : List Addr} {G : Hp} : ∀ {ds : List D} {bs : List Bool} {vs : List V}, bools ds = some bs → repL B m G ds vs → vs = bs.map V.bl
  | [], bs, vs, e, r => by simp [bools] at e; subst e; rw [repL] at r; exact r
  | d :: ds, bs, vs, e, r => by
    cases d <;> simp only [bools] at e <;> first | (cases e; done) | skip
    obtain ⟨bs', e1, rfl⟩ := Option.map_eq_some_iff.mp e
    rw [repL] at r
    obtain ⟨v, ws, rfl, h1, h2⟩ := r
    rw [List.map_cons, ← bools_rep e1 h2, repV_bl.mp h1]
theorem ints_rep {B : Wo} {m : List Addr} {G : Hp} : ∀ {ds : List D} {bs : List Int} {vs : List V}, «ints» ds = some bs → repL B m G ds vs → vs = bs.map V.int
  | [], bs, vs, e, r => by simp [Dn.«ints»] at e; subst e; rw [repL] at r; exact r
  | d :: ds, bs, vs, e, r => by
    cases d <;> simp only [Dn.«ints»] at e <;> first | (cases e; done) | skip
    obtain ⟨bs', e1, rfl⟩ := Option.map_eq_some_iff.mp e
    rw [repL] at r
    obtain ⟨v, ws, rfl, h1, h2⟩ := r
    rw [List.map_cons, ← ints_rep e1 h2, repV_int.mp h1]
theorem cr_allD (hc : X.calm = true) : CallR X (.builtin "all") (rMA (Bo X N) (bltM .all)) := by
  refine CallR.imp (cr_all hc) fun xs H Q h => ?_
  obtain ⟨m, G, st, ds, y, r, rl, e, q⟩ := rMA_open h
  match ds, e with
  | [d], e =>
    obtain ⟨v, rfl, hv⟩ := rep1 rl
    simp only [blt] at e
    split at e
    · rename_i xs c
      obtain ⟨bs, e1, rfl⟩ := Option.map_eq_some_iff.mp e
      obtain ⟨a, vs, rfl, ta, rl⟩ := list_at r hv c
      exact ⟨a, bs, rfl, by rw [← bools_rep e1 rl]; exact ta, q _ m G H (.refl ..) r (repV_bl.mpr rfl)⟩
    · cases e
  | [], e => simp [blt] at e
  | _ :: _ :: _, e => simp [blt] at e
theorem cr_anyD (hc : X.calm = true) : CallR X (.builtin "any") (rMA (Bo X N) (bltM .any)) := by
  refine CallR.imp (cr_any hc) fun xs H Q h => ?_
  obtain ⟨m, G, st, ds, y, r, rl, e, q⟩ := rMA_open h
  match ds, e with
  | [d], e =>
    obtain ⟨v, rfl, hv⟩ := rep1 rl
    simp only [blt] at e
    split at e
    · rename_i xs c
      obtain ⟨bs, e1, rfl⟩ := Option.map_eq_some_iff.mp e
      obtain ⟨a, vs, rfl, ta, rl⟩ := list_at r hv c
      exact ⟨a, bs, rfl, by rw [← bools_rep e1 rl]; exact ta, q _ m G H (.refl ..) r (repV_bl.mpr rfl)⟩
    · cases e
  | [], e => simp [blt] at e
  | _ :: _ :: _, e => simp [blt] at e
theorem cr_sumD (hc : X.calm = true) : CallR X (.builtin "sum") (rMA (Bo X N) (bltM .sum)) := by
  refine CallR.imp (cr_sum hc) fun xs H Q h => ?_
  obtain ⟨m, G, st, ds, y, r, rl, e, q⟩ := rMA_open h
  match ds, e with
  | [d], e =>
    obtain ⟨v, rfl, hv⟩ := rep1 rl
    simp only [blt] at e
    split at e
    · rename_i xs c
      obtain ⟨bs, e1, rfl⟩ := Option.map_eq_some_iff.mp e
      obtain ⟨a, vs, rfl, ta, rl⟩ := list_at r hv c
      exact ⟨a, bs, rfl, by rw [← ints_rep e1 rl]; exact ta, q _ m G H (.refl ..) r (repV_int.mpr rfl)⟩
    · cases e
  | [], e => simp [blt] at e
  | _ :: _ :: _, e => simp [blt] at e
theorem cr_absD : CallR X (.builtin "abs") (rMA (Bo X N) (bltM .abs)) := by
  refine CallR.imp call_abs fun xs H Q h => ?_
  obtain ⟨m, G, st, ds, y, r, rl, e, q⟩ := rMA_open h
  match ds, e with
  | [d], e =>
    obtain ⟨v, rfl, hv⟩ := rep1 rl
    cases d <;> simp only [blt] at e <;> first | (cases e; done) | skip
    rename_i i
    cases e
    exact ⟨i, by rw [repV_int.mp hv], q _ m G H (.refl ..) r (repV_int.mpr rfl)⟩
  | [], e => simp [blt] at e
  | _ :: _ :: _, e => simp [blt] at e
theorem cr_intD : CallR X (.type "int") (rMA (Bo X N) (bltM .int)) := by
  refine CallR.imp call_int1 fun xs H Q h => ?_
  obtain ⟨m, G, st, ds, y, r, rl, e, q⟩ := rMA_open h
  match ds, e with
  | [d], e =>
    obtain ⟨v, rfl, hv⟩ := rep1 rl
    cases d <;> simp only [blt] at e <;> first | (cases e; done) | skip
    · rename_i b
      cases e
      exact .inr ⟨b, by rw [repV_bl.mp hv], q _ m G H (.refl ..) r (repV_int.mpr rfl)⟩
    · rename_i i
      cases e
      exact .inl ⟨i, by rw [repV_int.mp hv], q _ m G H (.refl ..) r (repV_int.mpr rfl)⟩
  | [], e => simp [blt] at e
  | _ :: _ :: _, e => simp [blt] at e
end
end Dn
end
section
set_option Elab.async false
set_option linter.all false
set_option maxRecDepth 100000
set_option maxHeartbeats 4000000
/-! Dn22: order; sorted, min, max. Own work. -/
namespace Dn
open PySem PySem.Spec PyProof.Rows L2

/-! ### my < and the library's -/
theorem ltL_cons {x y : D} {xs ys : List D} {k : Bool} (h : D.ltL (x :: xs) (y :: ys) = some k) : ∃ b c, D.lt x y = some b ∧ D.ltL xs ys = some c ∧ k = if x = y then c else b := by
  rw [D.ltL] at h
  split at h
  · rename_i b c h1 h2; cases h; exact ⟨b, c, h1, h2, rfl⟩
  · cases h
theorem lex_zero : PyProof.Rows.lexLt PyProof.Rows.itemOrd [.inl 0] [.inl 0] = false := by decide
theorem lt_data : ∀ (n : Nat) (a b : D) (k : Bool), a.ord n = true → b.ord n = true → D.lt a b = some k → PySem.W.alike (toPy a) (toPy b) = true ∧ PySem.W.dataLt (toPy a) (toPy b) = k := by
  intro n
  induction n with
  | zero =>
    intro a b k ha hb h
    cases a <;> first | (simp [D.ord] at ha; done) | skip
    cases b <;> first | (simp [D.ord] at hb; done) | skip
    simp only [D.lt] at h
    cases h
    simp [toPy, PySem.W.alike, PySem.W.dataLt_int]
  | succ n ih =>
    have go : ∀ (xs ys : List D) (k : Bool), xs.all (D.ord n) = true → ys.all (D.ord n) = true → D.ltL xs ys = some k → PySem.W.alikeAll (toPyL xs) (toPyL ys) = true ∧ PyProof.Rows.lexLt PyProof.Rows.itemOrd (PySem.W.keyToksAll (toPyL xs)) (PySem.W.keyToksAll (toPyL ys)) = k := by
      intro xs
      induction xs with
      | nil =>
        intro ys k _ _ h
        cases ys with
        | nil =>
          simp only [D.ltL] at h
          cases h
          exact ⟨by simp [toPyL, PySem.W.alikeAll], lex_zero⟩
        | cons y ys =>
          simp only [D.ltL] at h
          cases h
          refine ⟨by simp [toPyL, PySem.W.alikeAll], ?_⟩
          simp only [toPyL, PySem.W.keyToksAll]
          rw [PySem.W.lex_atom (by simp)]
          decide
      | cons x xs ihx =>
        intro ys k hx hy h
        cases ys with
        | nil =>
          simp only [D.ltL] at h
          cases h
          refine ⟨by simp [toPyL, PySem.W.alikeAll], ?_⟩
          simp only [toPyL, PySem.W.keyToksAll]
          rw [PySem.W.lex_atom (by simp)]
          decide
        | cons y ys =>
          rw [List.all_cons, Bool.and_eq_true] at hx hy
          obtain ⟨b, c, h1, h2, rfl⟩ := ltL_cons h
          obtain ⟨i1, i2⟩ := ih x y b hx.1 hy.1 h1
          obtain ⟨j1, j2⟩ := ihx ys c hx.2 hy.2 h2
          refine ⟨by simp only [toPyL, PySem.W.alikeAll, i1, j1]; rfl, ?_⟩
          have he : PyData.eqv (toPy x) (toPy y) = decide (x = y) := by
            rw [toPy_eqv n x y (ord_dat n x hx.1) (ord_dat n y hy.1), ord_eqv n x y hx.1 hy.1]
          simp only [toPyL]
          by_cases e : x = y
          · rw [if_pos e, PySem.W.dataLt_all_yes i1 (by rw [he]; exact decide_eq_true e), j2]
          · rw [if_neg e, PySem.W.dataLt_all_no i1 (by rw [he]; exact decide_eq_false e), i2]
    intro a b k ha hb h
    cases a <;> first | (simp [D.ord] at ha; done) | skip
    · cases b <;> first | (simp [D.ord] at hb; done) | skip
      · simp only [D.lt] at h
        cases h
        simp [toPy, PySem.W.alike, PySem.W.dataLt_int]
      · simp [D.lt] at h
    · cases b <;> first | (simp [D.ord] at hb; done) | skip
      · simp [D.lt] at h
      · rename_i xs ys
        rw [D.ord] at ha hb
        simp only [D.lt] at h
        obtain ⟨i1, i2⟩ := go xs ys k ha hb h
        exact ⟨by simp only [toPy, PySem.W.alike, i1], by simp only [toPy, PySem.W.dataLt_tuple, i2]⟩
theorem sortOk_spec {xs : List D} (h : sortOk xs = true) : xs.length < 2 ∨ ((∀ a ∈ xs, a.ord 8 = true) ∧ (∀ a ∈ xs, ∀ b ∈ xs, ∃ k, D.lt a b = some k) ∧ ((∀ a ∈ xs, a.isNT = true) ∨ ∀ a ∈ xs, a.isT = false)) := by
  unfold sortOk at h
  simp only [Bool.or_eq_true, Bool.and_eq_true, decide_eq_true_eq, List.all_eq_true, Bool.not_eq_true'] at h
  rcases h with h | ⟨⟨h1, h2⟩, h3⟩
  · exact .inl h
  · exact .inr ⟨h1, fun a ha b hb => Option.isSome_iff_exists.mp (h2 a ha b hb), h3⟩
theorem zip_fst {α β : Type} : ∀ {xs : List α} {ys : List β}, xs.length = ys.length → (xs.zip ys).map (·.1) = xs
  | [], [], _ => rfl
  | x :: xs, y :: ys, h => by simp only [List.zip_cons_cons, List.map_cons]; rw [zip_fst (by simpa using h)]
theorem zip_snd {α β : Type} : ∀ {xs : List α} {ys : List β}, xs.length = ys.length → (xs.zip ys).map (·.2) = ys
  | [], [], _ => rfl
  | x :: xs, y :: ys, h => by simp only [List.zip_cons_cons, List.map_cons]; rw [zip_snd (by simpa using h)]
theorem each_zip {h : Heap} {f : D → PyData} : ∀ {ds : List D} {vs : List Value}, PySem.W.EachIs (fun v d => ∃ as, Reads h v d as) vs (ds.map f) → PySem.W.EachIs (fun v (p : D × Value) => v = p.2) vs (ds.zip vs) ∧ PySem.W.EachIs (fun v (p : D × Value) => ∃ as, Reads h v (f p.1) as) vs (ds.zip vs) ∧ ds.length = vs.length
  | [], vs, e => by cases e; exact ⟨.nil, .nil, rfl⟩
  | d :: ds, vs, e => by
    rw [List.map_cons] at e
    cases e with
    | cons h1 h2 =>
      obtain ⟨i1, i2, i3⟩ := each_zip h2
      exact ⟨.cons rfl i1, .cons h1 i2, by simp [i3]⟩
theorem each_snd : ∀ {out : List Value} {l : List (D × Value)}, PySem.W.EachIs (fun v (p : D × Value) => v = p.2) out l → out = l.map (·.2)
  | _, _, .nil => rfl
  | _, _, .cons h t => by rw [List.map_cons, ← each_snd t, h]
/-- list.sort's work -/
theorem sort_list {prog : Program} {w : World} {A : Around} {E : Value → Shared → Prop} {s : Shared} {a : Addr} {vs : List Value} {n : Nat} {R : PySem.Fin → Shared → Prop} {ds : List D} (ho : s.heap.get? a = some (seqObj "list" vs.toArray n)) (hL : vs.length ≤ sizeLine) (hl : ds.length = vs.length)
    (rd : (∀ d ∈ ds, d.ord 8 = true) → ∀ h' : Heap, (∀ b o, b ≠ a → s.heap.get? b = some o → h'.get? b = some o) → PySem.W.EachIs (fun v d => ∃ as, Reads h' v d as) vs (ds.map toPy)) (ok : sortOk ds = true) (hu : A.units + 20 < cLine)
    (h : ∀ l : List (D × Value), l.Perm (ds.zip vs) → l.map (·.1) = sortD ds → R (.done (.ret .none)) { s with heap := sortedHeap s.heap a vs (l.map (·.2)).toArray }) :
    wpAny (model prog w) A (Builtin.«list.sort» ⟨[.ref a], []⟩) R E s := by
  rcases sortOk_spec ok with hs | ⟨h1, h2, h3⟩
  · refine SrtO.list_sort_ord (ltv := fun _ _ => false) ⟨fun _ _ h => (by cases h), fun _ _ _ _ _ => rfl⟩ ho hL (fun q => absurd hs (by omega)) fun out hsr hst => ?_
    have hp := hst.perm
    have e : out = vs := by
      have hl2 := hp.length_eq
      match vs, out, hl2, hp with
      | [], [], _, _ => rfl
      | [v], [u], _, hp => have := hp.mem_iff (a := u); simp at this; rw [this]
      | [], _ :: _, hl2, _ => simp at hl2
      | [_], [], hl2, _ => simp at hl2
      | [_], _ :: _ :: _, hl2, _ => simp at hl2
      | _ :: _ :: _, _, _, _ => simp at hl; omega
    have := h (ds.zip vs) (List.Perm.refl _) (by
      rw [zip_fst hl]
      unfold sortD
      match ds, hs with
      | [], _ => simp
      | [d], _ => simp
      | _ :: _ :: _, hs => simp at hs; omega)
    rw [zip_snd hl] at this
    rw [e]
    exact this
  · have er := rd h1 (PySem.W.sortingHeap s.heap a vs) (fun b o hb q => PySem.W.sortingHeap_old hb q)
    have hal : PySem.W.AllAlike (ds.map toPy) := fun d hd d' hd' => by
      obtain ⟨x, hx, rfl⟩ := List.mem_map.mp hd
      obtain ⟨y, hy, rfl⟩ := List.mem_map.mp hd'
      obtain ⟨k, hk⟩ := h2 x hx y hy
      exact (lt_data 8 x y k (h1 x hx) (h1 y hy) hk).1
    have hk : PySem.W.Sortable (ds.map toPy) := by
      rcases h3 with h3 | h3
      · refine .inl fun d hd => ?_
        obtain ⟨x, hx, rfl⟩ := List.mem_map.mp hd
        have := h3 x hx
        cases x <;> first | (cases this; done) | skip
        rename_i xs
        cases xs with
        | nil => cases this
        | cons y ys => exact ⟨toPy y, toPyL ys, by simp [toPy, toPyL]⟩
      · refine .inr fun d hd => ?_
        obtain ⟨x, hx, rfl⟩ := List.mem_map.mp hd
        have h4 := h3 x hx
        have h5 := h1 x hx
        cases x <;> first | (simp [D.ord] at h5; done) | (cases h4; done) | skip
        simp [toPy]
    obtain ⟨z1, z2, z3⟩ := each_zip er
    have hm : (ds.zip vs).map (fun p => toPy p.1) = ds.map toPy := by
      have := congrArg (List.map toPy) (zip_fst hl)
      rw [List.map_map] at this
      exact this
    have hal' : PySem.W.AllAlike ((ds.zip vs).map fun p => toPy p.1) := by rw [hm]; exact hal
    refine PySem.W.list_sort_vals ho (PySem.W.SortsAt.data (s := { s with heap := PySem.W.sortingHeap s.heap a vs }) er hal hk (fun d hd => ?_)) hL ?_
    · obtain ⟨x, hx, rfl⟩ := List.mem_map.mp hd
      have := (toPy_lay 8 x (ord_dat 8 x (h1 x hx))).2
      omega
    · have r := PySem.W.sortVals_data (h' := PySem.W.sortingHeap s.heap a vs) (enc := fun p : D × Value => toPy p.1) false z1 z2 hal'
      rw [hm] at r
      have e1 := each_snd r
      have hle : ∀ p ∈ ds.zip vs, ∀ q ∈ ds.zip vs, PySem.W.dataLe false (fun p : D × Value => toPy p.1) p q = !ltB q.1 p.1 := fun p hp q hq => by
        have hp1 := (List.of_mem_zip hp).1
        have hq1 := (List.of_mem_zip hq).1
        obtain ⟨k, hk⟩ := h2 _ hq1 _ hp1
        have := (lt_data 8 _ _ k (h1 _ hq1) (h1 _ hp1) hk).2
        show (!PySem.W.dataLt (toPy q.1) (toPy p.1)) = _
        rw [this]
        unfold ltB
        rw [hk]; rfl
      have h6 := h ((ds.zip vs).mergeSort (PySem.W.dataLe false fun p : D × Value => toPy p.1)) (List.mergeSort_perm _ _) (by
        unfold sortD
        rw [List.map_mergeSort (s := fun a b => !ltB b a) hle, zip_fst hl])
      rw [← e1] at h6
      exact h6
end Dn
end
section
set_option Elab.async false
set_option linter.all false
set_option maxRecDepth 100000
set_option maxHeartbeats 4000000
/-! Dn23: sorted, min, max, dict. Own work. -/
namespace Dn
open PySem PySem.Spec PyProof.Rows L2

section
variable {X : Cx} {N : Nms} {pins : List (Addr × Obj)} {σ : L2.St} {s : Shared} {m : List Addr} {G H : Hp} {st : Store}
theorem each_of (I : Inv X pins σ H s) (sub : ∀ a o, G a = some o → H a = some o) : ∀ {ds : List D} {vs : List V} {us : List Value}, (∀ d ∈ ds, d.ord 8 = true) → repL (Bo X N) m G ds vs → Vals vs us → PySem.W.EachIs (fun v d => ∃ as, Reads s.heap v d as) us (ds.map toPy)
  | [], vs, us, _, r, q => by rw [repL] at r; subst r; cases q; exact .nil
  | d :: ds, vs, us, h, r, q => by
    rw [repL] at r
    obtain ⟨v, ws, rfl, r1, r2⟩ := r
    cases q with
    | cons q1 q2 =>
      rw [List.map_cons]
      exact .cons (Dp.reads I _ _ _ (dp_of sub 8 d v (ord_dat 8 d (h d List.mem_cons_self)) r1) q1) (each_of I sub (fun x hx => h x (List.mem_cons_of_mem _ hx)) r2 q2)
theorem zip_rep {B : Wo} : ∀ {ds : List D} {vs : List V} {us : List Value}, repL B m G ds vs → Vals vs us → ∀ p ∈ ds.zip us, ∃ v, repV B m G p.1 v ∧ RelV v p.2
  | [], vs, us, _, _, p, h => by simp at h
  | d :: ds, vs, us, r, q, p, h => by
    rw [repL] at r
    obtain ⟨v, ws, rfl, r1, r2⟩ := r
    cases q with
    | cons q1 q2 =>
      rw [List.zip_cons_cons] at h
      rcases List.mem_cons.mp h with rfl | h
      · exact ⟨v, r1, q1⟩
      · exact zip_rep r2 q2 p h
theorem rep_zip {B : Wo} : ∀ {l : List (D × Value)}, (∀ p ∈ l, ∃ v, repV B m G p.1 v ∧ RelV v p.2) → ∃ ws, repL B m G (l.map (·.1)) ws ∧ Vals ws (l.map (·.2))
  | [], _ => ⟨[], .nil', .nil⟩
  | p :: l, h => by
    obtain ⟨v, h1, h2⟩ := h p List.mem_cons_self
    obtain ⟨ws, i1, i2⟩ := rep_zip (l := l) fun q hq => h q (List.mem_cons_of_mem _ hq)
    exact ⟨v :: ws, .cons' h1 i1, .cons h2 i2⟩
/-- a dict's keys, as they stand -/
theorem dic_keys {ks vs : List D} {a : Addr} {u : HO} (I : Inv X pins σ H s) (r : RelS (Bo X N) m G H st) (hu : H a = some u) (hD : DicU (Bo X N) m G a u ks vs) :
    ∃ (o : Obj) (es : Array DictEntry) (ep : Nat) (kvs : List V), s.heap.get? a = some o ∧ o.ExactDict ∧ o.data = .dict es ep ∧ repL (Bo X N) m G ks kvs ∧ Vals kvs (es.toList.map (·.key)) ∧ es.size ≤ sizeLine ∧ (a == sysModules) = false := by
  rcases hD with ⟨kvs, e, rfl, rl⟩ | hX
  · have rd : Rd H a (.dK kvs) := by
      rcases unlk_dK e with rfl | ⟨o, rfl⟩
      · exact .inl hu
      · exact .inr ⟨o, hu⟩
    obtain ⟨z, hd, vs', kv, o, es, ep, h1, h2, h3, h4, h5, h6⟩ := dk_rd I.hok rd
    have hl5 := h5.length
    have hl : es.size = kvs.length := by rw [kv.length, ← hl5]; simp
    refine ⟨o, es, ep, kvs.map fun p => kV p.1, h1, h2, h3, ?_, ?_, by omega, hd⟩
    · clear h5 h6 kv rl rd e hl hl5 z
      induction kvs with
      | nil => exact .nil'
      | cons p kvs ih =>
        refine .cons' ?_ ih
        obtain ⟨k, w⟩ := p
        cases k <;> (simp only [keyD, kV]; rw [repV])
    · clear rl rd e hl hl5 z h6
      have go : ∀ {l : List DictEntry} {vs : List (Key × Value)} {kvs : List (Key × V)}, Pairs (mixKind X.prog X.w) l vs → KV kvs vs → Vals (kvs.map fun p => kV p.1) (l.map (·.key)) := by
        intro l vs kvs h
        induction h generalizing kvs with
        | nil => intro q; cases q; exact .nil
        | cons h1 h2 _ ih =>
          intro q
          cases q with
          | cons q1 q2 =>
            rw [List.map_cons, List.map_cons]
            refine .cons ?_ (ih q2)
            rw [q1.1]
            exact keyIs_rel h1
      exact go h5 kv
  · obtain ⟨xs, e, e2, hn, rk, hks, rv⟩ := id hX
    cases ks with
    | nil => exact absurd rfl hn
    | cons k ks =>
      obtain ⟨us, ws, T⟩ := td_of I r hu (.inr hX) (d := k) (by unfold keyFor; simp [(hks k List.mem_cons_self).2]) (hks k List.mem_cons_self).1
      obtain ⟨o, es, ep, h1, h2, h3, h4, _⟩ := T.dd
      refine ⟨o, es, ep, _, h1, h2, h3, T.at_, ?_, ?_, T.sys⟩
      · rw [h4, List.map_map]
        have : ∀ us : List (NestedKey × Addr × Value), Vals (us.map fun x => V.ref x.2.1) (us.map ((fun e : DictEntry => e.key) ∘ entryOfKey (nestedKind X.prog X.w))) := by
          intro us
          induction us with
          | nil => exact .nil
          | cons x us ih => exact .cons rfl ih
        exact this us
      · rw [size_of_entries h4]; exact T.len
theorem fin_sorted {p : Addr} {l : List (D × Value)} {us : List Value} {ds : List D} {vv : List V} {h' : Heap} {t' n : Nat} {Q : VK} (I : Inv X pins σ H s) (rl : repL (Bo X N) m G ds vv) (rv : Vals vv us) (hp : l.Perm (ds.zip us)) (hm : l.map (·.1) = sortD ds) (hz : us.length ≤ sizeLine)
    (k : ∀ b o, s.heap.get? b = some o → h'.get? b = some o) (hs : s.heap.objs.size ≤ p) (hg : h'.get? p = some (seqObj "list" (l.map (·.2)).toArray n)) (q : ∀ p o, H p = none → Cont (Bo X N) m G p o (.lst (sortD ds)) → Q (.ref p) (upd H p o)) : EP X pins σ Q (.ref p) { s with heap := h', toks := t' } := by
  obtain ⟨ws, w1, w2⟩ := rep_zip (B := Bo X N) (m := m) (G := G) (l := l) fun x hx => zip_rep rl rv x (hp.mem_iff.mp hx)
  have hn : H p = none := I.hok.fresh hs
  have hlen : ws.length ≤ sizeLine := by
    rw [w2.length, List.length_map, hp.length_eq, List.length_zip]
    omega
  rw [hm] at w1
  exact ⟨.ref p, upd H p (.lst ws), I.laid (t' := t') k hs ⟨hlen, l.map (·.2), n, w2, hg⟩, rfl, q p _ hn (cont_lst w1)⟩
end
section
variable {X : Cx} {N : Nms}
theorem cr_sortedD (hc : X.calm = true) (hu : X.A.units + 40 < cLine) : CallR X (.builtin "sorted") (rNA (Bo X N) (bltM .sorted)) := by
  intro pins s σ H xs us Q I rv h
  obtain ⟨m, G, st, ds, y, r, rl, e, q⟩ := rNA_open h
  match ds, e with
  | [d], e =>
    obtain ⟨v, rfl, hv⟩ := rep1 rl
    obtain ⟨z, rfl, rz⟩ := vals1 rv
    simp only [blt] at e
    split at e
    · rename_i xs c
      obtain ⟨ok, rfl⟩ := if_some e
      obtain ⟨a, vs, rfl, ta, rl2⟩ := list_at r hv c
      cases rz
      obtain ⟨its, rv2, pl, hz⟩ := I.list ta
      have hlen := rv2.length
      have hrl := rl2.length
      refine PySem.W.sorted_of_sort pl.isList (by omega) (PyProof.Rows.args_sorted1 _) (fun _ => PyProof.Rows.args_list_sort _) fun E' => ?_
      refine sort_list (ds := xs) (vs := its) (s := { s with heap := PySem.W.copyHeap s.heap its }) (PySem.W.copyHeap_at s.heap its) (by omega) (by omega) (fun ho h' kp => ?_) ok (by show X.A.units + 1 + 1 + 20 < _; omega) fun l hp hm => ⟨rfl, ?_⟩
      · refine (each_of (N := N) I r.sub ho rl2 rv2).mono fun v d ⟨as, q⟩ => ⟨as, PyProof.Rows.Reads.keeps (fun b o eo => kp b o ?_ ?_) q⟩
        · exact Nat.ne_of_lt (Nat.lt_succ_of_lt (Heap.lt_size eo))
        · exact PySem.W.copyHeap_old eo
      · obtain ⟨n, hn⟩ := PyProof.Rows.sortedAll_at s.heap its (l.map (·.2)).toArray
        have a1 := @fin_sorted X N pins σ s m G H (s.heap.objs.size + 1) l its xs vs (PyProof.Rows.sortedAll s.heap its (l.map (·.2)).toArray) s.toks n Q
        have a2 := a1 I rl2 rv2 hp hm
        have hz2 : its.length ≤ sizeLine := hlen ▸ hz
        have kk : ∀ b o, s.heap.get? b = some o → (PyProof.Rows.sortedAll s.heap its (l.map (·.2)).toArray).get? b = some o := fun b o => PyProof.Rows.sortedAll_old
        have a3 := a2 hz2 kk (Nat.le_add_right _ 1) hn q
        exact a3
    · rename_i ks vs c
      obtain ⟨ok, rfl⟩ := if_some e
      obtain ⟨a, u, rfl, ha, hD⟩ := dic_at r hv c
      cases rz
      obtain ⟨o, es, ep, kvs, h1, h2, h3, rk, vk, hz, hsys⟩ := dic_keys I r ha hD
      refine Calls.call_function_entry PyProof.Rows.kind_sorted PyProof.Rows.plain_sorted PyProof.Rows.entry_sorted (PyProof.Rows.args_sorted1 _) ?_
      unfold Builtin.«sorted»
      refine wpAny_bind (m := checkCount "sorted" 1 1 _) (wpAny_pure ?_)
      refine wpAny_bind (PySem.W.kdu_collect (A := X.A.in1) (kdl_raw hsys h2 h3) (I.ok.hd hc) h1 hz fun h' tk acc hk hacc => ?_)
      have eacc : acc.toList = es.toList.map (·.key) := by
        have hl : acc.toList.length = es.toList.length := by rw [Array.length_toList, hacc.1]; simp
        apply List.ext_getElem?
        intro j
        rw [List.getElem?_map]
        cases hj : acc.toList[j]? with
        | none =>
          have h1 := List.getElem?_eq_none_iff.mp hj
          rw [List.getElem?_eq_none (by omega)]; rfl
        | some v =>
          obtain ⟨en, hen, hv⟩ := hacc.2 j v (by rw [← Array.getElem?_toList]; exact hj)
          rw [Array.getElem?_toList, hen, hv]; rfl
      rw [← eacc] at vk
      have I1 : Inv X pins σ H { s with heap := h', toks := tk } := I.kept hk
      have hal : acc.toList.length ≤ sizeLine := by rw [Array.length_toList, hacc.1]; exact hz
      refine wpAny_bind (wpAny_newList ?_ hal)
      have hoL : (h'.push (seqObj "list" acc.toList.toArray 0)).get? h'.objs.size = some (seqObj "list" acc.toList.toArray 0) := Heap.get?_push_size _ rfl
      show wpAny _ _ _ _ _ { s with heap := h'.push (seqObj "list" acc.toList.toArray 0), toks := tk }
      refine wpAny_bind (wpAny_holding (wpAny_call_entry PyProof.Rows.slot_list_sort ⟨_, hoL, rfl⟩ PyProof.Rows.entry_list_sort
        (sort_list (s := { s with heap := h'.push (seqObj "list" acc.toList.toArray 0), toks := tk }) (ds := ks) hoL hal (by rw [← vk.length]; exact rk.length.symm) (fun ho h'' kp => ?_) ok (by show X.A.units + 1 + 1 + 20 < _; omega) fun l hp hm => ⟨_, rfl, ?_⟩)
        (PyProof.Rows.args_list_sort _)))
      · refine (each_of (N := N) I1 r.sub ho rk vk).mono fun v d ⟨as, q⟩ => ⟨as, PyProof.Rows.Reads.keeps (fun b o eo => kp b o ?_ ?_) q⟩
        · exact Nat.ne_of_lt (Heap.lt_size eo)
        · exact Heap.get?_push_of_some _ eo
      · obtain ⟨n, hn⟩ := PyProof.Rows.sortedHeap_at (vs := acc.toList) (out := (l.map (·.2)).toArray) hoL
        refine wpAny_pure ⟨_, rfl, ?_⟩
        have kk : ∀ b o, h'.get? b = some o → (PyProof.Rows.sortedHeap (h'.push (seqObj "list" acc.toList.toArray 0)) h'.objs.size acc.toList (l.map (·.2)).toArray).get? b = some o := fun b u e => by
          have hb : b < h'.objs.size := Heap.lt_size e
          rw [PyProof.Rows.sortedHeap_old (Nat.ne_of_lt hb) (by rw [size_push']; exact Nat.lt_succ_of_lt hb)]
          exact Heap.get?_push_of_some _ e
        have a1 := @fin_sorted X N pins σ { s with heap := h', toks := tk } m G H h'.objs.size l acc.toList ks kvs (PyProof.Rows.sortedHeap (h'.push (seqObj "list" acc.toList.toArray 0)) h'.objs.size acc.toList (l.map (·.2)).toArray) tk n Q
        have a2 := a1 I1 rk vk hp hm hal kk (Nat.le_refl _) hn q
        exact a2
    · cases e
  | [], e => simp [blt] at e
  | _ :: _ :: _, e => simp [blt] at e
end
end Dn
end
section
set_option Elab.async false
set_option linter.all false
set_option maxRecDepth 100000
set_option maxHeartbeats 4000000
/-! Dn24: min, max, dict. Own work. -/
namespace Dn
open PySem PySem.Spec PyProof.Rows L2

theorem foldMax (x : Int) : ∀ xs : List Int, xs.foldl (fun a b => if b > a then b else a) x = xs.foldl max x := by
  intro xs
  induction xs generalizing x with
  | nil => rfl
  | cons y xs ih =>
    rw [List.foldl_cons, List.foldl_cons, ih]
    congr 1
    by_cases h : y > x
    · rw [if_pos h]; omega
    · rw [if_neg h]; omega
theorem foldMin (x : Int) : ∀ xs : List Int, xs.foldl (fun a b => if b < a then b else a) x = xs.foldl min x := by
  intro xs
  induction xs generalizing x with
  | nil => rfl
  | cons y xs ih =>
    rw [List.foldl_cons, List.foldl_cons, ih]
    congr 1
    by_cases h : y < x
    · rw [if_pos h]; omega
    · rw [if_neg h]; omega
theorem maxI_is {xs : List Int} {k : Int} (h : maxI xs = some k) : k ∈ xs ∧ ∀ y ∈ xs, y ≤ k := by
  cases xs with
  | nil => cases h
  | cons x xs =>
    cases h
    rw [foldMax]
    induction xs generalizing x with
    | nil => simp
    | cons y xs ih =>
      rw [List.foldl_cons]
      obtain ⟨h1, h2⟩ := ih (max x y)
      refine ⟨?_, fun z hz => ?_⟩
      · rcases List.mem_cons.mp h1 with h | h
        · rw [h]
          by_cases q : x ≤ y
          · rw [Int.max_eq_right q]; simp
          · rw [Int.max_eq_left (by omega)]; simp
        · simp [h]
      · have h3 := h2 (max x y) List.mem_cons_self
        rcases List.mem_cons.mp hz with rfl | hz
        · omega
        · rcases List.mem_cons.mp hz with rfl | hz
          · omega
          · exact h2 z (List.mem_cons_of_mem _ hz)
theorem minI_is {xs : List Int} {k : Int} (h : minI xs = some k) : k ∈ xs ∧ ∀ y ∈ xs, k ≤ y := by
  cases xs with
  | nil => cases h
  | cons x xs =>
    cases h
    rw [foldMin]
    induction xs generalizing x with
    | nil => simp
    | cons y xs ih =>
      rw [List.foldl_cons]
      obtain ⟨h1, h2⟩ := ih (min x y)
      refine ⟨?_, fun z hz => ?_⟩
      · rcases List.mem_cons.mp h1 with h | h
        · rw [h]
          by_cases q : x ≤ y
          · rw [Int.min_eq_left q]; simp
          · rw [Int.min_eq_right (by omega)]; simp
        · simp [h]
      · have h3 := h2 (min x y) List.mem_cons_self
        rcases List.mem_cons.mp hz with rfl | hz
        · omega
        · rcases List.mem_cons.mp hz with rfl | hz
          · omega
          · exact h2 z (List.mem_cons_of_mem _ hz)
theorem ints_all {h : Heap} : ∀ {ns : List Int} {us : List Value}, Vals (ns.map V.int) us → ∃ as, ReadsAll h us (ns.map PyData.int) as
  | [], us, q => by cases q; exact ⟨_, .nil⟩
  | n :: ns, us, q => by
    cases q with
    | cons q1 q2 =>
      obtain ⟨t, rfl⟩ := q1
      obtain ⟨as, r⟩ := ints_all (h := h) q2
      exact ⟨_, .cons (.int _ _) r⟩
theorem ints_alike (ns : List Int) : PySem.W.AlikeAll (ns.map PyData.int) := by
  refine ⟨fun x hx y hy => ?_, fun x hx => ?_⟩
  · obtain ⟨i, _, rfl⟩ := List.mem_map.mp hx
    obtain ⟨j, _, rfl⟩ := List.mem_map.mp hy
    rfl
  · obtain ⟨i, _, rfl⟩ := List.mem_map.mp hx
    intro h; cases h
theorem ints_depth : ∀ ns : List Int, PyData.depthAll (ns.map PyData.int) ≤ 1
  | [] => Nat.zero_le _
  | n :: ns => by
    have := ints_depth ns
    show max (PyData.depth (.int n)) (PyData.depthAll (ns.map PyData.int)) ≤ 1
    have h : PyData.depth (.int n) ≤ 1 := by simp [PyData.depth]
    omega
section
variable {X : Cx} {N : Nms}
theorem cr_maxD2 (hc : X.calm = true) (hu : X.A.units + 40 < cLine) : CallR X (.builtin "max") (rMA (Bo X N) (bltM .max)) := by
  intro pins s σ H xs us Q I rv h
  obtain ⟨m, G, st, ds, y, r, rl, e, q⟩ := rMA_open h
  have fin : ∀ {k : Int}, y = .int k → Q (.int k) H := fun e => q _ m G H (.refl ..) r (by rw [e]; exact repV_int.mpr rfl)
  match ds, e with
  | [], e => simp [blt] at e
  | [d], e =>
    obtain ⟨v, rfl, hv⟩ := rep1 rl
    have e' : (match itemsOf st d with
      | some xs => («ints» xs).bind fun ns => (maxI ns).map D.int
      | none => none) = some y := by
      cases d <;> exact e
    split at e'
    · rename_i xs c
      obtain ⟨ns, e1, e2⟩ := Option.bind_eq_some_iff.mp e'
      obtain ⟨k, e3, rfl⟩ := Option.map_eq_some_iff.mp e2
      obtain ⟨a, vs, rfl, ta, rl2⟩ := items_at r hv c
      have hvs := ints_rep e1 rl2
      subst hvs
      obtain ⟨k1, k2⟩ := maxI_is e3
      rcases ta with ta | ta
      · refine cr_max hc pins s σ H _ us Q I rv ⟨a, ns, rfl, ta, List.length_pos_of_mem k1, fun m h1 h2 => ?_⟩
        have : m = k := by have := h2 k k1; have := k2 m h1; omega
        subst this; exact fin rfl
      · obtain ⟨its, rv2, t1, hz⟩ := I.tuple ta
        obtain ⟨z, rfl, rz⟩ := vals1 rv
        cases rz
        cases ns with
        | nil => cases e3
        | cons n ns =>
          obtain ⟨as, ra⟩ := ints_all (h := s.heap) rv2
          have hd := ints_depth (n :: ns)
          refine PySem.W.max_tuple_data (x := .int n) (xs := ns.map .int) (as := as) (I.ok.hd hc) t1 ra (ints_alike (n :: ns)) ?_ fun i v h' tk bs _ rr hk => ?_
          · show X.A.units + 1 + PyData.depthAll ((n :: ns).map PyData.int) < _
            omega
          · rw [PySem.W.maxD_ints] at rr
            have : ns.foldl max n = k := by cases e3; rw [foldMax]
            rw [this] at rr
            cases rr with
            | int _ t => exact ⟨.int k, H, I.kept hk, ⟨_, rfl⟩, fin rfl⟩
    · cases e'
  | [d1, d2], e =>
    obtain ⟨v, w, rfl, h1, h2⟩ := rep2 rl
    obtain ⟨i, rfl⟩ : ∃ i, d1 = .int i := by cases d1 <;> first | exact ⟨_, rfl⟩ | simp [blt] at e
    obtain ⟨j, rfl⟩ : ∃ i, d2 = .int i := by cases d2 <;> first | exact ⟨_, rfl⟩ | simp [blt] at e
    simp only [blt] at e
    cases e
    exact L2.call_max2 hc pins s σ H _ us Q I rv ⟨i, j, by rw [repV_int.mp h1, repV_int.mp h2], fin rfl⟩
  | _ :: _ :: _ :: _, e => simp [blt] at e
theorem cr_minD2 (hc : X.calm = true) (hu : X.A.units + 40 < cLine) : CallR X (.builtin "min") (rMA (Bo X N) (bltM .min)) := by
  intro pins s σ H xs us Q I rv h
  obtain ⟨m, G, st, ds, y, r, rl, e, q⟩ := rMA_open h
  have fin : ∀ {k : Int}, y = .int k → Q (.int k) H := fun e => q _ m G H (.refl ..) r (by rw [e]; exact repV_int.mpr rfl)
  match ds, e with
  | [], e => simp [blt] at e
  | [d], e =>
    obtain ⟨v, rfl, hv⟩ := rep1 rl
    have e' : (match itemsOf st d with
      | some xs => («ints» xs).bind fun ns => (minI ns).map D.int
      | none => none) = some y := by
      cases d <;> exact e
    split at e'
    · rename_i xs c
      obtain ⟨ns, e1, e2⟩ := Option.bind_eq_some_iff.mp e'
      obtain ⟨k, e3, rfl⟩ := Option.map_eq_some_iff.mp e2
      obtain ⟨a, vs, rfl, ta, rl2⟩ := items_at r hv c
      have hvs := ints_rep e1 rl2
      subst hvs
      obtain ⟨k1, k2⟩ := minI_is e3
      rcases ta with ta | ta
      · refine cr_min hc pins s σ H _ us Q I rv ⟨a, ns, rfl, ta, List.length_pos_of_mem k1, fun m h1 h2 => ?_⟩
        have : m = k := by have := h2 k k1; have := k2 m h1; omega
        subst this; exact fin rfl
      · obtain ⟨its, rv2, t1, hz⟩ := I.tuple ta
        obtain ⟨z, rfl, rz⟩ := vals1 rv
        cases rz
        cases ns with
        | nil => cases e3
        | cons n ns =>
          obtain ⟨as, ra⟩ := ints_all (h := s.heap) rv2
          have hd := ints_depth (n :: ns)
          refine PySem.W.min_tuple_data (x := .int n) (xs := ns.map .int) (as := as) (I.ok.hd hc) t1 ra (ints_alike (n :: ns)) ?_ fun i v h' tk bs _ rr hk => ?_
          · show X.A.units + 1 + PyData.depthAll ((n :: ns).map PyData.int) < _
            omega
          · rw [PySem.W.minD_ints] at rr
            have : ns.foldl min n = k := by cases e3; rw [foldMin]
            rw [this] at rr
            cases rr with
            | int _ t => exact ⟨.int k, H, I.kept hk, ⟨_, rfl⟩, fin rfl⟩
    · cases e'
  | [d1, d2], e =>
    obtain ⟨v, w, rfl, h1, h2⟩ := rep2 rl
    obtain ⟨i, rfl⟩ : ∃ i, d1 = .int i := by cases d1 <;> first | exact ⟨_, rfl⟩ | simp [blt] at e
    obtain ⟨j, rfl⟩ : ∃ i, d2 = .int i := by cases d2 <;> first | exact ⟨_, rfl⟩ | simp [blt] at e
    simp only [blt] at e
    cases e
    exact L2.call_min2 hc pins s σ H _ us Q I rv ⟨i, j, by rw [repV_int.mp h1, repV_int.mp h2], fin rfl⟩
  | _ :: _ :: _ :: _, e => simp [blt] at e
end
end Dn
end
section
set_option Elab.async false
set_option linter.all false
set_option maxRecDepth 100000
set_option maxHeartbeats 4000000
/-! Dn25: repr, isinstance. Own work. -/
namespace Dn
open PySem PySem.Spec PyProof.Rows L2

mutual
theorem toPy_nodict : ∀ d : D, (toPy d).hasDict = false
  | .non => by simp [toPy, PyData.hasDict]
  | .bl _ => by simp [toPy, PyData.hasDict]
  | .int _ => by simp [toPy, PyData.hasDict]
  | .str _ => by simp [toPy, PyData.hasDict]
  | .tup xs => by simp [toPy, PyData.hasDict, toPyL_nodict xs]
  | .lst xs => by simp [toPy, PyData.hasDict, toPyL_nodict xs]
  | .dic _ _ => by simp [toPy, PyData.hasDict]
  | .obj _ _ _ => by simp [toPy, PyData.hasDict]
  | .ref _ => by simp [toPy, PyData.hasDict]
  | .fn _ => by simp [toPy, PyData.hasDict]
  | .rng _ _ => by simp [toPy, PyData.hasDict]
  | .kdic _ _ => by simp [toPy, PyData.hasDict]
  | .exn _ _ _ => by simp [toPy, PyData.hasDict]
theorem toPyL_nodict : ∀ ds : List D, PyData.hasDictAll (toPyL ds) = false
  | [] => by simp [toPyL, PyData.hasDictAll]
  | d :: ds => by simp [toPyL, PyData.hasDictAll, toPy_nodict d, toPyL_nodict ds]
end
section
variable {X : Cx} {N : Nms}
theorem cr_reprD (hgd : X.A.guards = some []) (hu : X.A.units + 100 < cLine) : CallR X (.builtin "repr") (rMA (Bo X N) (bltM .repr)) := by
  intro pins s σ H xs us Q I rv h
  obtain ⟨m, G, st, ds, y, r, rl, e, q⟩ := rMA_open h
  match ds, e with
  | [], e => simp [blt] at e
  | [d], e =>
    obtain ⟨v, rfl, hv⟩ := rep1 rl
    obtain ⟨z, rfl, rz⟩ := vals1 rv
    obtain ⟨he, rfl⟩ := if_some (show (if d.dat datN && reprOk d then some (.str (reprD d)) else none) = some y by cases d <;> exact e)
    rw [Bool.and_eq_true] at he
    obtain ⟨hd, ho⟩ := he
    unfold reprOk at ho
    rw [Bool.and_eq_true] at ho
    obtain ⟨hs, hz⟩ := ho
    have hz' := szOk hz
    have fin : ∀ h' u tk, (∀ b o, s.heap.get? b = some o → h'.get? b = some o) → EP X pins σ Q (.str (toPy d).shown u) { s with heap := h', toks := tk } := fun h' u tk hk => ⟨.str (reprD d), H, I.kept hk, ⟨_, rfl⟩, q _ m G H (.refl ..) r (repV_str.mpr rfl)⟩
    obtain ⟨as, rd⟩ := Dp.reads I _ _ _ (dp_of r.sub _ _ _ hd hv) rz
    have hdep := (toPy_lay _ _ hd).2
    have hdat : datN = 60 := rfl
    have here : ∀ t u, s.heap.get? t = some u → s.heap.get? t = some u := fun _ _ e => e
    unfold reprD at hz'
    generalize htp : toPy d = td at *
    have hnd : td.hasDict = false := htp ▸ toPy_nodict d
    cases rd with
    | none =>
      exact P.repr_of_none (fin s.heap _ _ here)
    | bool b => exact P.repr_of_bool (by have := fin s.heap s.toks (s.toks + 1) here; simpa only [PyData.shown] using this)
    | int i t => exact P.repr_of_int (by simpa [PyData.showable] using hs) (fin s.heap _ _ here)
    | str x t => exact P.repr_of_str (fin s.heap _ _ here) (by simpa only [PyData.shown] using hz')
    | list h1 h2 h3 h4 => exact repr_of_reads' (.list h1 h2 h3 h4) hs (PyData.noDict_hsm hnd) hgd (by omega) here fin hz'
    | tuple h1 h2 h3 h4 => exact repr_of_reads' (.tuple h1 h2 h3 h4) hs (PyData.noDict_hsm hnd) hgd (by omega) here fin hz'
    | dict h1 h2 h3 h4 h5 => simp [PyData.hasDict] at hnd
  | _ :: _ :: _, e => simp [blt] at e
end
end Dn
end
section
set_option Elab.async false
set_option linter.all false
set_option maxRecDepth 100000
set_option maxHeartbeats 4000000
/-! Dn26: isinstance. Own work. -/
namespace Dn
open PySem PySem.Spec PyProof.Rows L2

/-- the type of a thing -/
def kTy (B : Wo) : D → Option Value
  | .non => some (.type "NoneType")
  | .bl _ => some (.type "bool")
  | .int _ => some (.type "int")
  | .str _ => some (.type "str")
  | .tup _ => some (.type "tuple")
  | .lst _ => some (.type "list")
  | .dic _ _ => some (.type "dict")
  | .obj c _ _ => some (.ref (He.ga B.K (B.N.cls c)))
  | .exn c _ _ => some (.ref (He.ga B.K (B.N.cls c)))
  | _ => none
/-- a type as a value -/
def tyV (B : Wo) : Ty → V
  | .int => .ty "int"
  | .bool => .ty "bool"
  | .str => .ty "str"
  | .tuple => .ty "tuple"
  | .list => .ty "list"
  | .dict => .ty "dict"
  | .valueError => .ty "ValueError"
  | .cls c => .ref (He.ga B.K (B.N.cls c))
def tyU (B : Wo) : Ty → Value
  | .int => .type "int"
  | .bool => .type "bool"
  | .str => .type "str"
  | .tuple => .type "tuple"
  | .list => .type "list"
  | .dict => .type "dict"
  | .valueError => .type "ValueError"
  | .cls c => .ref (He.ga B.K (B.N.cls c))
theorem tyV_cls (B : Wo) (t : Ty) : ClsV (tyV B t) (tyU B t) := by cases t <;> first | exact .ty _ | exact .own _
theorem tyV_all (B : Wo) : ∀ ts : List Ty, Paired ClsV (ts.map (tyV B)) (ts.map (tyU B))
  | [] => .nil
  | t :: ts => .cons (tyV_cls B t) (tyV_all B ts)
/-- one of each kind that is no thing of a class -/
def kinds : List D := [.non, .bl true, .int 0, .str Str.empty, .tup [], .lst [], .dic [] []]
/-- what the machine answers -/
structure IsiFx (B : Wo) (T : Tb) (t : Ty) : Prop where
  blt : ∀ d ∈ kinds, ∀ v, kTy B d = some v → PySem.W.kitOne B.K v (tyU B t) = some (instC T d t)
  cls : ∀ c e, T.cls[c]? = some e → PySem.W.kitOne B.K (.ref (He.ga B.K (B.N.cls c))) (tyU B t) = some (instC T (if e.err then .exn c [] [] else .obj c [] []) t)
theorem IsiFx.at {B : Wo} {T : Tb} {t : Ty} (F : IsiFx B T t) {d : D} {v : Value} (ok : isiOk T d = true) (h : kTy B d = some v) : PySem.W.kitOne B.K v (tyU B t) = some (instC T d t) := by
  cases d <;> first | (cases h; done) | skip
  · exact F.blt .non (by simp [kinds]) v h
  · have q := F.blt (.bl true) (by simp [kinds]) v h
    cases t <;> exact q
  · have q := F.blt (.int 0) (by simp [kinds]) v h
    cases t <;> exact q
  · have q := F.blt (.str Str.empty) (by simp [kinds]) v h
    cases t <;> exact q
  · have q := F.blt (.tup []) (by simp [kinds]) v h
    cases t <;> exact q
  · have q := F.blt (.lst []) (by simp [kinds]) v h
    cases t <;> exact q
  · have q := F.blt (.dic [] []) (by simp [kinds]) v h
    cases t <;> exact q
  · rename_i c ns vs
    cases h
    simp only [isiOk] at ok
    split at ok
    · rename_i e he
      have := F.cls c e he
      rw [if_neg (by simpa using ok)] at this
      cases t <;> exact this
    · cases ok
  · rename_i c ns vs
    cases h
    simp only [isiOk] at ok
    split at ok
    · rename_i e he
      have := F.cls c e he
      rw [if_pos ok] at this
      cases t <;> exact this
    · cases ok
theorem IsiFx.any {B : Wo} {T : Tb} {d : D} {v : Value} (ok : isiOk T d = true) (h : kTy B d = some v) : ∀ {ts : List Ty}, (∀ t ∈ ts, IsiFx B T t) → PySem.W.kitAny B.K v (ts.map (tyU B)) = some (ts.any (instC T d))
  | [], _ => rfl
  | t :: ts, F => by
    rw [List.map_cons, List.any_cons]
    refine kitAny_cons ((F t List.mem_cons_self).at ok h) (fun e => ?_) (fun e => ?_)
    · rw [e, Bool.false_or]
      exact IsiFx.any ok h fun x hx => F x (List.mem_cons_of_mem _ hx)
    · rw [e, Bool.true_or]
/-- what isinstance asks of the classes -/
structure ExK (K : PySem.W.Frag) (C : Addr) : Prop where
  cl : (PySem.W.clsIn K C).isSome = true
  ga : PySem.W.findIn K (.ref C) "__getattribute__" = some (some (.builtin "BaseException.__getattribute__"))
  gt : PySem.W.findIn K (.ref C) "__getattr__" = some none
  sub : PySem.W.subIn K (.ref C) (.type "BaseException") = some true
  ha : PySem.W.findIn K (.ref C) "__class__" = some (some (.builtin "object.__class__"))
  hn : PySem.W.specialIn K (.builtin "object.__class__") "__get__" = some (some (.builtin "getset_descriptor.__get__"))
  htk : PySem.W.takesIn K (.builtin "object.__class__") = some true
  hm : PySem.W.mroIn K C (.type "object") = some true
structure ClsFx (B : Wo) (T : Tb) : Prop where
  own : ∀ c e, T.cls[c]? = some e → e.err = false → C8.InsC B.K (He.ga B.K (B.N.cls c))
  exc : ∀ c e, T.cls[c]? = some e → e.err = true → ExK B.K (He.ga B.K (B.N.cls c))
/-- the exception in hand stands where it is said to stand -/
def ExPin (X : Cx) (N : Nms) : Prop := ∀ a c dx, N.ex = some (a, c, dx) → ∃ oe, (a, oe) ∈ X.pn ∧ Zc (.ref (He.ga X.K (N.cls c))) (some dx) oe ∧ ∃ vs, oe.data = .fields vs
section
variable {X : Cx} {N : Nms} {pins : List (Addr × Obj)} {σ : L2.St} {s : Shared} {m : List Addr} {G H : Hp} {st : Store}
theorem cell_ref {B : Wo} {d : D} {v : V} (r : RelS B m G H st) (h : repV B m G d v) {c : D} (e : cellOf st d = c) (hc : c ≠ .non) (hl : ∀ a, ¬ CellOk B m G H a c) : d = c := by
  cases d with
  | ref n =>
    obtain ⟨a, rfl, _, k⟩ := r.at h (get_of_getD e hc)
    exact absurd k (hl a)
  | _ => exact e
theorem kitD {T : Tb} (CF : ClsFx (Bo X N) T) (EP : ExPin X N) {d : D} {v : V} {u : Value} (I : Inv X pins σ H s) (r : RelS (Bo X N) m G H st) (hv : repV (Bo X N) m G d v) (rv : RelV v u) (ok : isiOk T (cellOf st d) = true) :
    ∃ t P, kTy (Bo X N) (cellOf st d) = some t ∧ PySem.W.KitX X.K u t P ∧ P s.heap ∧ u ≠ .builtin "__main__.__loader__#opaque" := by
  have hnn : ∀ n, d = .ref n → cellOf st d ≠ .non := fun n e q => by
    subst e
    have hv2 := hv
    rw [repV] at hv2
    obtain ⟨a, _, hm⟩ := hv2
    have hl : n < st.length := by rw [← r.len]; exact (List.getElem?_eq_some_iff.mp hm).1
    have hs := List.getElem?_eq_getElem hl
    have k := r.cell n a _ hm hs
    rw [cellOf_ref, hs] at q
    have q' : st[n] = .non := q
    rw [q'] at k
    exact k.elim
  have own : ∀ {c : D}, cellOf st d = c → c ≠ .non → (∀ a, ¬ CellOk (Bo X N) m G H a c) → d = c := fun e h1 h2 => cell_ref r hv e h1 h2
  have base : ∀ {t : Value}, kTy (Bo X N) (cellOf st d) = some t → TyX X.K H v t → ∃ t P, kTy (Bo X N) (cellOf st d) = some t ∧ PySem.W.KitX X.K u t P ∧ P s.heap ∧ u ≠ .builtin "__main__.__loader__#opaque" := fun h1 h2 => by
    obtain ⟨P, p1, p2, p3⟩ := kit_of I rv h2
    exact ⟨_, P, h1, p1, p2, p3⟩
  generalize hc : cellOf st d = cd at ok base own hnn ⊢
  cases cd with
  | non =>
    have : d = .non := by
      cases d with
      | ref n => exact absurd rfl (hnn n rfl)
      | _ => exact hc
    subst this
    have hv' := repV_non.mp hv
    subst hv'
    exact base rfl (.base .non)
  | bl b =>
    have := own rfl (by intro h; cases h) (fun a k => k)
    subst this
    have hv' := repV_bl.mp hv
    subst hv'
    exact base rfl (.base (.bl b))
  | int i =>
    have := own rfl (by intro h; cases h) (fun a k => k)
    subst this
    have hv' := repV_int.mp hv
    subst hv'
    exact base rfl (.base (.int i))
  | str x =>
    have := own rfl (by intro h; cases h) (fun a k => k)
    subst this
    have hv' := repV_str.mp hv
    subst hv'
    exact base rfl (.base (.str x))
  | tup xs =>
    obtain ⟨a, vs, rfl, ta, rl⟩ := tup_at r hv hc
    cases rv
    obtain ⟨its, _, ⟨o, h1, h2, _⟩, _⟩ := I.tuple ta.seq
    exact ⟨_, _, rfl, PySem.W.kitx_tuple, ⟨o, h1, h2⟩, fun z => nomatch z⟩
  | lst xs =>
    obtain ⟨a, vs, rfl, ta, rl⟩ := list_at r hv hc
    cases rv
    obtain ⟨its, _, ⟨o, n, h1, h2, _⟩, _⟩ := I.list ta
    exact ⟨_, _, rfl, PySem.W.kitx_list, ⟨o, h1, h2⟩, fun z => nomatch z⟩
  | dic ks vs =>
    obtain ⟨a, w, rfl, ha, hD⟩ := dic_at r hv hc
    cases rv
    obtain ⟨⟨o, h1, h2⟩, _⟩ := dic_type I r ha hD
    exact ⟨_, _, rfl, PySem.W.kitx_dict, ⟨o, h1, h2⟩, fun z => nomatch z⟩
  | obj c ns vs =>
    obtain ⟨a, dx, fvs, rfl, ha, _⟩ := obj_at r hv hc
    simp only [isiOk] at ok
    split at ok
    · rename_i e he
      have F := CF.own c e he (by simpa using ok)
      exact base rfl (.base (.ins ha F.cl F.ha F.hn F.htk F.hm))
    · cases ok
  | exn c ns vs =>
    have := own rfl (by intro h; cases h) (fun a k => k)
    subst this
    simp only [isiOk] at ok
    split at ok
    · rename_i e he
      have F := CF.exc c e he ok
      rw [repV] at hv
      obtain ⟨a, dx, fvs, rfl, hx, hg, _⟩ := hv
      cases rv
      obtain ⟨oe, hp, hz, vs', hd⟩ := EP a c dx hx
      obtain ⟨ha, _⟩ := I.pin (a, oe) (List.mem_append_left _ hp)
      have hxd : ObjOk X.prog X.w H s.heap dx (.xd fvs) := I.hok dx _ (r.sub _ _ hg)
      obtain ⟨mA, hns, hr⟩ := hxd
      obtain ⟨od, ho, hl⟩ := lookIn_ns hns
      have J : PySem.W.InstAt s.heap a oe (He.ga X.K (N.cls c)) (some od) := ⟨ha, hz.1, by unfold PySem.W.notCls; rw [hd] <;> rfl, by rw [hz.2]; exact ho⟩
      exact ⟨_, _, rfl, PySem.W.kitx_exc F.cl F.ga F.gt F.sub F.ha F.hn F.htk F.hm, J, fun z => nomatch z⟩
    · cases ok
  | ref n => cases ok
  | fn n => cases ok
  | rng _ _ => cases ok
  | kdic _ _ => cases ok
end
end Dn
end
section
set_option Elab.async false
set_option linter.all false
set_option maxRecDepth 100000
set_option maxHeartbeats 4000000
/-! Dn27: isinstance as an expression; the exception in hand. Own work. -/
namespace Dn
open PySem PySem.Spec PyProof.Rows L2

/-- the evaluator's answer -/
def isiM (T : Tb) (ts : List Ty) (x : D) : M D := fun st => if isiOk T (cellOf st x) then .ok (.bl (ts.any (instC T (cellOf st x)))) st else .stk
/-- the types' names, read -/
inductive TyN (X : Cx) (B : Wo) : List Expr → List Ty → Prop where
  | nil : TyN X B [] []
  | cons {e : Expr} {es : List Expr} {t : Ty} {ts : List Ty} (h : PE X e (tC (tyV B t))) (hs : noStar e = true) (r : TyN X B es ts) : TyN X B (e :: es) (t :: ts)
/-- these values, as they stand -/
def tCs (vs : List V) : TA := fun _ H Q => Q vs H
section
variable {X : Cx} {N : Nms} {T : Tb} {W : WX} {a b c e : Expr} {x xa xb xc : Env → M D} {p pos tpos : Pos} {es : List Expr} {xs : Env → M (List D)} {t : Ty} {ts : List Ty}
theorem TyN.pa {B : Wo} (h : TyN X B es ts) : PA X es (tCs (ts.map (tyV B))) := by
  induction h with
  | nil => exact pa_nil
  | cons h hs r ih => exact PA.imp (pa_cons h ih (star_consN hs)) fun σ H Q q => q
theorem TyN.len {B : Wo} (h : TyN X B es ts) : es.length = ts.length := by
  induction h with
  | nil => rfl
  | cons h hs r ih => simp [ih]
theorem ty_rel {B : Wo} {t : Ty} {u : Value} (r : RelV (tyV B t) u) : u = tyU B t := (tyV_cls B t).eq r
/-- what is asked -/
def rISI (B : Wo) (T : Tb) (ts : List Ty) (d : D) (v : V) (b : Bool) (H : Hp) : Prop := ∃ m G st, RelS B m G H st ∧ repV B m G d v ∧ isiOk T (cellOf st d) = true ∧ b = ts.any (instC T (cellOf st d))
theorem cr_isi1 (CF : ClsFx (Bo X N) T) (EX : ExPin X N) (hi : IsiFx (Bo X N) T t) : CallR X (.builtin "isinstance") (fun xs H Q => ∃ d v b, xs = [v, tyV (Bo X N) t] ∧ rISI (Bo X N) T [t] d v b H ∧ Q (.bl b) H) := by
  intro pins s σ H xs us Q I r h
  obtain ⟨d, v, b, rfl, ⟨m, G, st, rs, hv, ok, rfl⟩, q⟩ := h
  obtain ⟨u1, u2, rfl, r1, r2⟩ := vals2 r
  have e2 := ty_rel r2
  subst e2
  obtain ⟨k, P, h1, h2, h3, h4⟩ := kitD CF EX I rs hv r1 ok
  have e := hi.at ok h1
  rw [List.any_cons, List.any_nil, Bool.or_false] at q
  exact PySem.W.kia_one h2 I.kIn h3 e h4 fun tk => ⟨.bl _, H, I.tok tk, rfl, q⟩
theorem cr_isiT (CF : ClsFx (Bo X N) T) (EX : ExPin X N) (hi : ∀ t ∈ ts, IsiFx (Bo X N) T t) : CallR X (.builtin "isinstance") (fun xs H Q => ∃ d v b tp, xs = [v, .ref tp] ∧ H tp = some (.tup (ts.map (tyV (Bo X N)))) ∧ rISI (Bo X N) T ts d v b H ∧ Q (.bl b) H) := by
  intro pins s σ H xs us Q I r h
  obtain ⟨d, v, b, tp, rfl, hT, ⟨m, G, st, rs, hv, ok, rfl⟩, q⟩ := h
  obtain ⟨u1, u2, rfl, r1, r2⟩ := vals2 r
  cases (show u2 = Value.ref tp from r2)
  obtain ⟨k, P, h1, h2, h3, h4⟩ := kitD CF EX I rs hv r1 ok
  obtain ⟨_, its, rv, o, o1, o2, n, o3⟩ := (show ObjOk X.prog X.w H s.heap tp (.tup (ts.map (tyV (Bo X N)))) from I.hok tp _ hT)
  have e3 := ClsV.all (tyV_all (Bo X N) ts) rv
  subst e3
  obtain ⟨oc, od, dt, sl⟩ := o
  simp only at o2 o3
  subst o2 o3
  exact PySem.W.kia_tup h2 I.kIn h3 o1 (IsiFx.any ok h1 hi) h4 fun tk => ⟨.bl _, H, I.tok tk, rfl, q⟩
theorem se_isi1 (CF : ClsFx (Bo X N) T) (EX : ExPin X N) (hi : IsiFx (Bo X N) T t) (hg : Gl X "isinstance") (hm : X.mg "isinstance" = none) (ha : SE X N W a xa) (hs : noStar a = true) (hc : PE X c (tC (tyV (Bo X N) t))) (hsc : noStar c = true) :
    SE X N W (.Call (.Name "isinstance" p) [a, c] [] pos) (fun env => bnd (xa env) (isiM T [t])) := by
  have pe := pe_callB (pos := pos) (p := p) (cr_isi1 CF EX hi) hg hm PyProof.Rows.boot_isinstance (pa_cons ha (pa_cons hc pa_nil (star_consN hsc)) (star_consN hs)) (by decide) (by decide) (star_consN hs) (star_plain (by simp [hsc])).1
  refine PE.imp pe fun σ H Q q => ?_
  obtain ⟨m, G, st, env, rs, re, p⟩ := q
  refine to_tD rs re p fun x st1 m1 G1 H1 v rs1 re1 x1 hv p1 => ?_
  unfold isiM at p1
  split at p1
  · rename_i ok
    exact ⟨x, v, _, rfl, ⟨m1, G1, st1, rs1, hv, ok, rfl⟩, p1.ans rs1 (repV_bl.mpr rfl)⟩
  · exact p1.elim
theorem se_isiT {k : Nat} (CF : ClsFx (Bo X N) T) (EX : ExPin X N) (hi : ∀ t ∈ ts, IsiFx (Bo X N) T t) (hg : Gl X "isinstance") (hm : X.mg "isinstance" = none) (ha : SE X N W a xa) (hs : noStar a = true) (hc : TyN X (Bo X N) es ts) (hl : ts.length ≤ 1000) :
    SE X N W (.Call (.Name "isinstance" p) [a, .Tuple es k tpos] [] pos) (fun env => bnd (xa env) (isiM T ts)) := by
  have pe := pe_callB (pos := pos) (p := p) (cr_isiT (ts := ts) CF EX hi) hg hm PyProof.Rows.boot_isinstance (pa_cons ha (pa_cons (pe_tup (x1 := k) (pos := tpos) hc.pa) pa_nil rfl) (star_consN hs)) (by decide) (by decide) (star_consN hs) rfl
  refine PE.imp pe fun σ H Q q => ?_
  obtain ⟨m, G, st, env, rs, re, p⟩ := q
  refine to_tD rs re p fun x st1 m1 G1 H1 v rs1 re1 x1 hv p1 => ?_
  unfold isiM at p1
  split at p1
  · rename_i ok
    refine ⟨by rw [List.length_map, sizeLine_eq]; omega, fun tp hp => ?_⟩
    have r2 := rs1.loose (o := .tup (ts.map (tyV (Bo X N)))) hp
    exact ⟨x, v, _, tp, rfl, upd_same, ⟨m1, G1, st1, r2, hv, ok, rfl⟩, p1 m1 G1 _ (Ext.loose rs1 hp) r2 _ (repV_bl.mpr rfl)⟩
  · exact p1.elim
end
/-! ### a field of the exception in hand -/
section
variable {X : Cx} {N : Nms} {T : Tb} {W : WX} {a c e : Expr} {xa : Env → M D} {p pos : Pos}
structure XldFx (K : PySem.W.Frag) (N : Nms) (T : Tb) : Prop where
  inj : ∀ i j, N.fld i = N.fld j → i = j
  fld : ∀ c f, fldOk T c f = true → isErr T c = true → XfC K (He.ga K (N.cls c)) ∧ PySem.W.findIn K (.ref (He.ga K (N.cls c))) (N.fld f) = some none
theorem pe_atF {te : TE} {n : Str} (he : PE X e te) (hb : attributeBase e n X.env (eval e X.env) = eval e X.env) : PE X (.Attribute e n pos) (fun σ H Q => te σ H fun _ _ => False) :=
  ⟨fun pins s σ H Q I h => attr_of hb (thn (he.run pins s σ H _ I h) fun u s1 hh => by obtain ⟨x, H1, I1, rx, f⟩ := hh; exact f.elim)⟩
theorem se_atx {f : Nat} {x0 : Addr} {oe : Obj} {cid : Nat} {dx : Addr} {pn : List (Addr × Obj)} (F : XldFx X.K N T) (hz : Zc (.ref (He.ga X.K (N.cls cid))) (some dx) oe) (hd : ∃ vs, oe.data = .fields vs) (hx : N.ex = some (x0, cid, dx))
    (ha : SE (X.suite x0 ((x0, oe) :: pn)) N W a xa) (hb : attributeBase a (N.fld f) X.env (eval a X.env) = eval a X.env) : SE (X.suite x0 ((x0, oe) :: pn)) N W (.Attribute a (N.fld f) pos) (fun env => bnd (xa env) (atxM T f)) := by
  have key : ∀ {m : List Addr} {G H1 : Hp} {st1 : Store} {x : D} {v : V} {y : D}, RelS (Bo (X.suite x0 ((x0, oe) :: pn)) N) m G H1 st1 → repV (Bo (X.suite x0 ((x0, oe) :: pn)) N) m G x v → atxM T f x st1 = .ok y st1 → fldOk T cid f = true ∧ isErr T cid = true ∧ v = .ref x0 ∧ ∃ fvs w, H1 dx = some (.xd fvs) ∧ fvs.lookup (N.fld f) = some w ∧ repV (Bo (X.suite x0 ((x0, oe) :: pn)) N) m G y w := by
    intro m G H1 st1 x v y rs1 hv p1
    unfold atxM at p1
    cases x <;> first | (cases p1; done) | skip
    rename_i c ns vs
    dsimp only at p1
    rw [repV] at hv
    obtain ⟨a', dx', fvs, rfl, hx', hg, hn, hvs⟩ := hv
    rw [show (Bo (X.suite x0 ((x0, oe) :: pn)) N).N.ex = N.ex from rfl, hx] at hx'
    cases hx'
    split at p1
    · rename_i z hz'
      cases p1
      simp only [getAtr, cellOf] at hz'
      split at hz'
      · rename_i hk
        rw [Bool.and_eq_true] at hk
        obtain ⟨w, l, rw'⟩ := fget_look F.inj hn hvs hz'
        exact ⟨hk.1, hk.2, rfl, fvs, w, rs1.sub _ _ hg, l, rw'⟩
      · cases hz'
    · cases p1
  have st_of : ∀ {x : D} {st1 : Store}, (∃ y, atxM T f x st1 = .ok y st1) ∨ atxM T f x st1 = .stk := by
    intro x st1
    unfold atxM
    split
    · split
      · exact .inl ⟨_, rfl⟩
      · exact .inr rfl
    · exact .inr rfl
  by_cases hno : fldOk T cid f = true ∧ isErr T cid = true
  · obtain ⟨h1, h2⟩ := F.fld cid f hno.1 hno.2
    refine PE.imp (pe_xf h1 h2 hz hd ha hb) fun σ H Q q => ?_
    obtain ⟨m, G, st, env, rs, re, p⟩ := q
    refine to_tD rs re p fun x st1 m1 G1 H1 v rs1 re1 x1 hv p1 => ?_
    rcases st_of (x := x) (st1 := st1) with ⟨y, ey⟩ | ey
    · rw [ey] at p1
      obtain ⟨_, _, rfl, fvs, w, k1, k2, k3⟩ := key rs1 hv ey
      exact ⟨rfl, rfl, dx, fvs, w, rfl, k1, k2, p1.ans rs1 k3⟩
    · rw [ey] at p1; exact p1.elim
  · refine PE.imp (pe_atF ha hb) fun σ H Q q => ?_
    obtain ⟨m, G, st, env, rs, re, p⟩ := q
    refine to_tD rs re p fun x st1 m1 G1 H1 v rs1 re1 x1 hv p1 => ?_
    rcases st_of (x := x) (st1 := st1) with ⟨y, ey⟩ | ey
    · obtain ⟨k1, k2, _⟩ := key rs1 hv ey
      exact hno ⟨k1, k2⟩
    · rw [ey] at p1; exact p1.elim
end
end Dn
end
section
set_option Elab.async false
set_option linter.all false
set_option maxRecDepth 100000
set_option maxHeartbeats 4000000
/-! Dn28: methods of built-in types. Own work. -/
namespace Dn
open PySem PySem.Spec PyProof.Rows L2

def bmTy : BM → String
  | .append => "list" | .extend => "list" | .pop => "list" | .index => "list" | .get => "dict" | .setdefault => "dict"
def bmN : BM → Str
  | .append => "append" | .extend => "extend" | .pop => "pop" | .index => "index" | .get => "get" | .setdefault => "setdefault"
def bmId : BM → String
  | .append => "list.append" | .extend => "list.extend" | .pop => "list.pop" | .index => "list.index" | .get => "dict.get" | .setdefault => "dict.setdefault"
/-- what a method wants -/
def rBM (B : Wo) (m : BM) : V → List V → Hp → VK → Prop := fun x xs H Q => ∃ mm G st d ys, RelS B mm G H st ∧ repV B mm G d x ∧ repL B mm G ys xs ∧ Post B mm G H (fun _ _ _ => False) (fun z _ m' G' H' => ∀ v, repV B m' G' z v → Q v H') (bmeth m d ys st)
theorem toPyL_eq : ∀ xs : List D, toPyL xs = xs.map toPy
  | [] => rfl
  | x :: xs => by rw [toPyL, List.map_cons, toPyL_eq xs]
theorem datL_mem : ∀ {n : Nat} {xs : List D}, D.datL n xs = true → ∀ x ∈ xs, x.dat n = true
  | n, [], _, x, h => by cases h
  | n, y :: ys, h, x, hx => by
    rw [D.datL, Bool.and_eq_true] at h
    rcases List.mem_cons.mp hx with rfl | hx
    · exact h.1
    · exact datL_mem h.2 x hx
section
variable {X : Cx} {N : Nms}
theorem bm_app {st : Store} (d : D) (ys : List D) : bmeth .append d ys st = .stk ∨ ∃ n y zs, d = .ref n ∧ ys = [y] ∧ st[n]? = some (.lst zs) ∧ zs.length < szLine ∧ bmeth .append d ys st = .ok .non (setAt st n (.lst (zs ++ [y]))) := by
  cases d <;> first | exact .inl rfl | skip
  rename_i n
  match ys with
  | [] => exact .inl rfl
  | _ :: _ :: _ => exact .inl rfl
  | [y] =>
    simp only [bmeth]
    split
    · rename_i zs hn
      by_cases hz : zs.length < szLine
      · exact .inr ⟨n, y, zs, rfl, rfl, hn, hz, by rw [if_pos hz]⟩
      · exact .inl (by rw [if_neg hz])
    · exact .inl rfl
theorem mt_appD : MtR X "list.append" (rBM (Bo X N) .append) := by
  intro pins s σ H x xs v us Q I rx rv h
  obtain ⟨mm, G, st, d, ys, r, hd, hy, p⟩ := h
  rcases bm_app (st := st) d ys with e | ⟨n, y, zs, rfl, rfl, hn, hz, e⟩
  · rw [e] at p; exact p.elim
  · rw [e] at p
    obtain ⟨w, rfl, hw⟩ := rep1 hy
    obtain ⟨a, rfl, hm, c⟩ := r.at hd hn
    obtain ⟨ws, e1, e2⟩ := c
    have c2 : CellOk (Bo X N) mm G (upd H a (.lst (ws ++ [w]))) a (.lst (zs ++ [y])) := ⟨_, upd_same, repL.append e2 (.cons' hw .nil')⟩
    refine mt_append pins s σ H _ _ v us Q I rx rv ⟨a, ws, w, rfl, rfl, e1, by rw [e2.length, ← szLine_eq]; exact hz, ?_⟩
    exact p mm G _ (Ext.write r hm) (RelS.write r hm c2) _ (repV_non.mpr rfl)
theorem bm_get {st : Store} (d : D) (ys : List D) : bmeth .get d ys st = .stk ∨ (∃ ks vs k, ys = [k] ∧ cellOf st d = .dic ks vs ∧ keyFor ks k = true ∧ bmeth .get d ys st = .ok ((dget ks vs k).getD .non) st) ∨
    ∃ ks vs k y, ys = [k, y] ∧ cellOf st d = .dic ks vs ∧ keyFor ks k = true ∧ bmeth .get d ys st = .ok ((dget ks vs k).getD y) st := by
  have go : ∀ {ks vs : List D}, dictOf st d = some (ks, vs) → cellOf st d = .dic ks vs := by
    intro ks vs h
    unfold dictOf at h
    split at h
    · cases h; assumption
    · cases h
  match ys with
  | [] => cases d <;> exact .inl rfl
  | [k] =>
    have e : bmeth .get d [k] st = (match dictOf st d with
      | some (ks, vs) => if keyFor ks k then .ok ((dget ks vs k).getD .non) st else .stk
      | none => .stk) := by cases d <;> rfl
    rw [e]
    cases hd : dictOf st d with
    | none => exact .inl rfl
    | some q =>
      obtain ⟨ks, vs⟩ := q
      by_cases hk : keyFor ks k = true
      · exact .inr (.inl ⟨ks, vs, k, rfl, go hd, hk, by simp only [hk, if_true]⟩)
      · exact .inl (by simp only [hk]; rfl)
  | [k, y] =>
    have e : bmeth .get d [k, y] st = (match dictOf st d with
      | some (ks, vs) => if keyFor ks k then .ok ((dget ks vs k).getD y) st else .stk
      | none => .stk) := by cases d <;> rfl
    rw [e]
    cases hd : dictOf st d with
    | none => exact .inl rfl
    | some q =>
      obtain ⟨ks, vs⟩ := q
      by_cases hk : keyFor ks k = true
      · exact .inr (.inr ⟨ks, vs, k, y, rfl, go hd, hk, by simp only [hk, if_true]⟩)
      · exact .inl (by simp only [hk]; rfl)
  | _ :: _ :: _ :: _ => cases d <;> exact .inl rfl
theorem mt_getD (hA : X.A.units + 10 < cLine) : MtR X "dict.get" (rBM (Bo X N) .get) := by
  intro pins s σ H x xs v us Q I rx rv h
  obtain ⟨mm, G, st, d, ys, r, hd, hy, p⟩ := h
  rcases bm_get (st := st) d ys with e | ⟨ks, vs, k, rfl, hc, hk, e⟩ | ⟨ks, vs, k, y, rfl, hc, hk, e⟩
  · rw [e] at p; exact p.elim
  · rw [e] at p
    obtain ⟨w, rfl, hw⟩ := rep1 hy
    obtain ⟨a, u, rfl, hu, hD⟩ := dic_at r hd hc
    cases rx
    obtain ⟨z, rfl, rz⟩ := vals1 rv
    exact dic_get1 hA I r hu hD hk hw rz fun w' z' s' I' rw' rz' => ⟨w', H, I', rz', p.here r w' rw'⟩
  · rw [e] at p
    obtain ⟨w, w2, rfl, hw, hw2⟩ := rep2 hy
    obtain ⟨a, u, rfl, hu, hD⟩ := dic_at r hd hc
    cases rx
    obtain ⟨z, z2, rfl, rz, rz2⟩ := vals2 rv
    exact dic_get2 hA I r hu hD hk hw rz hw2 rz2 fun w' z' s' I' rw' rz' => ⟨w', H, I', rz', p.here r w' rw'⟩
theorem bm_setd {st : Store} (d : D) (ys : List D) : bmeth .setdefault d ys st = .stk ∨ ∃ n ks vs k y, d = .ref n ∧ ys = [k, y] ∧ st[n]? = some (.dic ks vs) ∧ keyFor ks k = true ∧ ks.length < szLine ∧ bmeth .setdefault d ys st = (match dget ks vs k with
      | some v => .ok v st
      | none => .ok y (setAt st n (.dic (ks ++ [k]) (vs ++ [y])))) := by
  cases d <;> first | exact .inl rfl | skip
  rename_i n
  match ys with
  | [] => exact .inl rfl
  | [_] => exact .inl rfl
  | _ :: _ :: _ :: _ => exact .inl rfl
  | [k, y] =>
    simp only [bmeth]
    split
    · rename_i ks vs hn
      by_cases hz : (keyFor ks k && decide (ks.length < szLine)) = true
      · rw [if_pos hz]
        rw [Bool.and_eq_true] at hz
        exact .inr ⟨n, ks, vs, k, y, rfl, rfl, hn, hz.1, of_decide_eq_true hz.2, rfl⟩
      · exact .inl (by rw [if_neg hz])
    · exact .inl rfl
theorem mt_setdD (hA : X.A.units + 10 < cLine) : MtR X "dict.setdefault" (rBM (Bo X N) .setdefault) := by
  intro pins s σ H x xs v us Q I rx rv h
  obtain ⟨mm, G, st, d, ys, r, hd, hy, p⟩ := h
  rcases bm_setd (st := st) d ys with e | ⟨n, ks, vs, k, y, rfl, rfl, hn, hk, hz, e⟩
  · rw [e] at p; exact p.elim
  · rw [e] at p
    obtain ⟨w, w2, rfl, hw, hw2⟩ := rep2 hy
    obtain ⟨a, rfl, hm, c⟩ := r.at hd hn
    cases rx
    obtain ⟨z, z2, rfl, rz, rz2⟩ := vals2 rv
    refine cell_setd hA I r c hk hz hw rz hw2 rz2 (fun x' w' z' s' eg I' rw' rz' => ?_) (fun o z' s' eg I' c' rz' => ?_)
    · rw [eg] at p
      exact ⟨w', H, I', rz', p.here r w' rw'⟩
    · rw [eg] at p
      exact ⟨w2, _, I', rz', p mm G _ (Ext.write r hm c'.noxd) (RelS.write r hm c') w2 hw2⟩
theorem bm_index {st : Store} (d : D) (ys : List D) : bmeth .index d ys st = .stk ∨ ∃ xs y k, ys = [y] ∧ listOf st d = some xs ∧ y.dat datN = true ∧ D.datL datN xs = true ∧ xs.findIdx? (fun x => x.eqv y) = some k ∧ bmeth .index d ys st = .ok (.int k) st := by
  match ys with
  | [] => cases d <;> exact .inl rfl
  | _ :: _ :: _ => cases d <;> exact .inl rfl
  | [y] =>
    have e : bmeth .index d [y] st = (match listOf st d with
      | some xs => if y.dat datN && D.datL datN xs then (match xs.findIdx? fun x => x.eqv y with
        | some k => .ok (.int k) st
        | none => .stk) else .stk
      | none => .stk) := by cases d <;> rfl
    rw [e]
    cases hd : listOf st d with
    | none => exact .inl rfl
    | some xs =>
      by_cases hk : (y.dat datN && D.datL datN xs) = true
      · dsimp only
        rw [if_pos hk]
        rw [Bool.and_eq_true] at hk
        cases hf : xs.findIdx? fun x => x.eqv y with
        | none => exact .inl rfl
        | some k => exact .inr ⟨xs, y, k, rfl, rfl, hk.1, hk.2, hf, rfl⟩
      · exact .inl (by dsimp only; rw [if_neg hk])
theorem mt_indexD2 (hu : X.A.units + 65 < cLine) : MtR X "list.index" (rBM (Bo X N) .index) := by
  intro pins s σ H x xs v us Q I rx rv h
  obtain ⟨mm, G, st, d, ys, r, hd, hy, p⟩ := h
  rcases bm_index (st := st) d ys with e | ⟨zs0, y, k, rfl, hc, h1, h2, hf, e⟩
  · rw [e] at p; exact p.elim
  · rw [e] at p
    obtain ⟨w, rfl, hw⟩ := rep1 hy
    have hc0 := listOf_eq hc
    obtain ⟨a, vs, rfl, ta, rl⟩ := list_at r hd hc0
    obtain ⟨hk, hkt, hkf⟩ := List.findIdx?_eq_some_iff_getElem.mp hf
    have hm : ∀ j (hj : j < zs0.length), PyData.eqv (toPy zs0[j]) (toPy y) = zs0[j].eqv y := fun j hj => toPy_eqv _ _ _ (datL_mem h2 _ (List.getElem_mem hj)) h1
    refine L2.mt_indexD hu pins s σ H _ _ v us Q I rx rv ⟨a, w, toPy y, toPyL zs0, k, toPy zs0[k], rfl, rfl, .lst ta (dpL_of r.sub _ _ _ h2 rl), dp_of r.sub _ _ _ h1 hw, ?_, shaped_of h1 (by decide), ?_, ?_, ?_, ?_⟩
    · exact shaped_of (d := .lst zs0) (n := 61) (by simp only [D.dat]; exact h2) (by decide)
    · rw [toPyL_eq, List.getElem?_map, List.getElem?_eq_getElem hk]; rfl
    · rw [hm k hk]; exact hkt
    · intro j z' hj hz'
      rw [toPyL_eq, List.getElem?_map, List.getElem?_eq_getElem (Nat.lt_trans hj hk)] at hz'
      cases hz'
      rw [hm j (Nat.lt_trans hj hk)]
      have := hkf j hj
      simpa using this
    · exact p.here r _ (repV_int.mpr rfl)
end
end Dn
end
section
set_option Elab.async false
set_option linter.all false
set_option maxRecDepth 100000
set_option maxHeartbeats 4000000
/-! Dn29: methods of built-in types as expressions. Own work. -/
namespace Dn
open PySem PySem.Spec PyProof.Rows L2

/-- the thing is of the method's type -/
def tyB (B : Wo) (m : BM) (x : V) (H : Hp) : Prop := ∃ mm G st d, RelS B mm G H st ∧ repV B mm G d x ∧ bmOk m (cellOf st d) = true
def tBMD (B : Wo) (m : BM) (r : V → List V → Hp → VK → Prop) (to : TE) (t : TA) : TE := fun σ H Q => to σ H fun x H1 => tyB B m x H1 ∧ t σ H1 fun xs H2 => r x xs H2 Q
section
variable {X : Cx} {N : Nms} {W : WX} {o e : Expr} {es : List Expr} {to : TE} {t : TA} {xo : Env → M D} {xs : Env → M (List D)} {name : Str} {apos cpos : Pos} {id : String} {r : V → List V → Hp → VK → Prop} {bm : BM}
theorem tyB_is {pins : List (Addr × Obj)} {σ : L2.St} {H : Hp} {s : Shared} {x : V} {v : Value} (I : Inv X pins σ H s) (rx : RelV x v) (ty : tyB (Bo X N) bm x H) :
    s.TypeIs v (bmTy bm) ∧ ∀ a, v = .ref a → ∃ ob, s.heap.get? a = some ob ∧ ob.dict = none := by
  obtain ⟨mm, G, st, d, r, hd, ok⟩ := ty
  have hl : ∀ zs, cellOf st d = .lst zs → s.TypeIs v "list" ∧ ∀ a, v = .ref a → ∃ ob, s.heap.get? a = some ob ∧ ob.dict = none := fun zs hc => by
    obtain ⟨a, vs, rfl, ta, _⟩ := list_at r hd hc
    cases rx
    obtain ⟨its, _, ⟨ob, n, h1, h2, h3, _⟩, _⟩ := I.list ta
    exact ⟨⟨ob, h1, h2⟩, fun b e => by cases e; exact ⟨ob, h1, h3⟩⟩
  have hdd : ∀ ks vs, cellOf st d = .dic ks vs → s.TypeIs v "dict" ∧ ∀ a, v = .ref a → ∃ ob, s.heap.get? a = some ob ∧ ob.dict = none := fun ks vs hc => by
    obtain ⟨a, u, rfl, hu, hD⟩ := dic_at r hd hc
    cases rx
    obtain ⟨h1, h2⟩ := dic_type I r hu hD
    exact ⟨h1, h2⟩
  cases hc : cellOf st d <;> rw [hc] at ok <;> cases bm <;> first | (cases ok; done) | exact hl _ hc | exact hdd _ _ hc
theorem pe_bmD (pa : PlainAttrs (bmTy bm)) (slot : Slot (bmTy bm) name id) (hty : typeOf (.builtin id) = pure (.type "method_descriptor")) (hm : MtR X id r) (ho : PE X o to) (ha : PA X (e :: es) t)
    (hbase : attributeBase o name X.env (eval o X.env) = eval o X.env) (hline : (apos.endLine == cpos.line) = true) (hs : (e :: es).all noStar = true) (hn : (e :: es).length < 30) :
    PE X (.Call (.Attribute o name apos) (e :: es) [] cpos) (tBMD (Bo X N) bm r to t) := by
  have hs' : noStar e = true ∧ es.all noStar = true := by rw [List.all_cons, Bool.and_eq_true] at hs; exact hs
  refine ⟨fun pins s σ H Q I h => ?_⟩
  refine wpAny_Call_method_late hbase ?_ hline rfl (thn (ho.run pins s σ H _ I h) fun v s1 ⟨x, H1, I1, r1, ty, q1⟩ => ?_)
  · rw [(star_plain hs).2]
    show (true && true && decide ((e :: es).length + 0 + 0 < 30)) = true
    simpa using hn
  obtain ⟨h1, h2⟩ := tyB_is I1 r1 ty
  refine ⟨bmTy bm, id, pa, slot, hty, h1, h2, ?_⟩
  have hA := ha.run cpos pins s1 σ H1 _ I1 q1
  rw [star_consN hs'.1] at hA ⊢
  refine Calls.callWith_builtin (by show (false || (backTo cpos (starEach es X.env)).any (·.1)) = false; rw [(star_plain hs'.2).1] <;> rfl) (Calls.evalArgs_plain ?_)
  exact thn hA fun us s2 ⟨vs, H2, I2, r2, q2⟩ => hm pins s2 σ H2 x vs v us Q I2 r1 r2 q2
theorem bm_quiet {m : BM} {d : D} {ys : List D} {st : Store} {c : Nat} {vs : List D} {st' : Store} : bmeth m d ys st ≠ .exc c vs st' := by
  intro h
  unfold bmeth at h
  repeat' (first | (cases h; done) | split at h)
/-- the method's facts -/
structure BmFx (X : Cx) (N : Nms) (bm : BM) : Prop where
  pa : PlainAttrs (bmTy bm)
  slot : Slot (bmTy bm) (bmN bm) (bmId bm)
  ty : typeOf (.builtin (bmId bm)) = pure (.type "method_descriptor")
  m : MtR X (bmId bm) (rBM (Bo X N) bm)
def bmM (bm : BM) (xo : Env → M D) (xs : Env → M (List D)) : Env → M D := fun env => bnd (xo env) fun x => fun st => if bmOk bm (cellOf st x) then bnd (xs env) (fun ys => bmeth bm x ys) st else .stk
theorem se_bm (F : BmFx X N bm) (ho : SE X N W o xo) (ha : SA X N W (e :: es) xs)
    (hbase : attributeBase o (bmN bm) X.env (eval o X.env) = eval o X.env) (hline : (apos.endLine == cpos.line) = true) (hs : (e :: es).all noStar = true) (hn : (e :: es).length < 30) :
    SE X N W (.Call (.Attribute o (bmN bm) apos) (e :: es) [] cpos) (bmM bm xo xs) := by
  refine PE.imp (pe_bmD (bm := bm) (N := N) F.pa F.slot F.ty F.m ho ha hbase hline hs hn) fun σ H Q q => ?_
  obtain ⟨m, G, st, env, rs, re, p⟩ := q
  unfold bmM at p
  refine to_tD rs re p fun x st1 m1 G1 H1 v rs1 re1 x1 hv p1 => ?_
  split at p1
  · rename_i ok
    refine ⟨⟨m1, G1, st1, x, rs1, hv, ok⟩, ?_⟩
    refine to_tDA rs1 re1 p1 fun ys st2 m2 G2 H2 vs rs2 re2 x2 hvs p2 => ?_
    refine ⟨m2, G2, st2, x, ys, rs2, hv.mono x2.pre x2.g x v, hvs, ?_⟩
    cases hb : bmeth bm x ys st2 with
    | ok a b => rw [hb] at p2; exact p2
    | exc c vs' b => exact (bm_quiet hb).elim
    | stk => rw [hb] at p2; exact p2
  · exact p1.elim
theorem bmFx (hA : X.A.units + 70 < cLine) : ∀ {bm : BM}, bm ≠ .extend → bm ≠ .pop → BmFx X N bm
  | .append, _, _ => ⟨F.plainAttrs_list, F.slot_list_append, F.type_list_append, mt_appD⟩
  | .index, _, _ => ⟨F.plainAttrs_list, F.slot_list_index, F.type_list_index, mt_indexD2 (by omega)⟩
  | .get, _, _ => ⟨F.plainAttrs_dict, F.slot_dict_get, F.type_dict_get, mt_getD (by omega)⟩
  | .setdefault, _, _ => ⟨F.plainAttrs_dict, F.slot_dict_setdefault, F.type_dict_setdefault, mt_setdD (by omega)⟩
  | .extend, h, _ => absurd rfl h
  | .pop, _, h => absurd rfl h
end
end Dn
end
section
set_option Elab.async false
set_option linter.all false
set_option maxRecDepth 100000
set_option maxHeartbeats 4000000
/-! Dn30: list(range(..)); isinstance and len of own classes. Own work. -/
namespace Dn
open PySem PySem.Spec PyProof.Rows L2

section
variable {X : Cx} {N : Nms} {W : WX} {a b : Expr} {xa xb : Env → M D} {p p2 pos pos2 : Pos}
theorem rep_rng {B : Wo} {m : List Addr} {G : Hp} (lo hi : Int) : repL B m G (rangeL lo hi) (rgV lo hi) := by
  unfold rangeL rgV
  generalize List.range (hi - lo).toNat = l
  induction l with
  | nil => exact .nil'
  | cons x l ih => exact .cons' (repV_int.mpr rfl) ih
theorem rg_ok {i j : Int} (h1 : small62 i = true) (h2 : small62 j = true) (h3 : sz (j - i).toNat = true) : RgOk i j := by
  obtain ⟨a1, a2⟩ := small_ok h1
  obtain ⟨b1, b2⟩ := small_ok h2
  have := of_decide_eq_true h3
  exact ⟨a1, a2, b1, b2, by unfold szLine at this; omega⟩
theorem sn_lrg1 (hc : X.calm = true) (hgl : Gl X "list") (hml : X.mg "list" = none) (hg : Gl X "range") (hm : X.mg "range" = none) (ha : SE X N W a xa) (hs : noStar a = true) :
    SN X N W (.Call (.Name "list" p) [.Call (.Name "range" p2) [a] [] pos2] [] pos) (fun env => bnd (xa env) fun x => rngL [x]) := by
  refine PE.imp (pe_listRg hc hgl hml (prg_1 hg hm ha (star_consN hs))) fun σ H Q q => ?_
  obtain ⟨m, G, st, env, rs, re, p⟩ := q
  refine to_tD rs re p fun x st1 m1 G1 H1 v rs1 re1 x1 hv p1 => ?_
  obtain ⟨j, rfl⟩ : ∃ j, x = .int j := by cases x <;> first | exact ⟨_, rfl⟩ | exact p1.elim
  simp only [rngL] at p1
  split at p1
  · rename_i hk
    rw [Bool.and_eq_true] at hk
    refine ⟨j, repV_int.mp hv, rg_ok (by decide) hk.1 (by simpa using hk.2), fun q hq => Post.here rs1 p1 q _ hq (cont_lst (rep_rng _ _))⟩
  · exact p1.elim
theorem sn_lrg2 (hc : X.calm = true) (hgl : Gl X "list") (hml : X.mg "list" = none) (hg : Gl X "range") (hm : X.mg "range" = none) (ha : SE X N W a xa) (hs : noStar a = true) (hb : SE X N W b xb) (hs2 : noStar b = true) :
    SN X N W (.Call (.Name "list" p) [.Call (.Name "range" p2) [a, b] [] pos2] [] pos) (fun env => bnd (xa env) fun x => bnd (xb env) fun y => rngL [x, y]) := by
  refine PE.imp (pe_listRg hc hgl hml (prg_2 hg hm ha hb (star_consN hs) (star_consN hs2) (star_plain (by simp [hs2])).1)) fun σ H Q q => ?_
  obtain ⟨m, G, st, env, rs, re, p⟩ := q
  refine to_tD rs re p fun x st1 m1 G1 H1 v rs1 re1 x1 hv p1 => ?_
  refine to_tD rs1 re1 p1 fun y st2 m2 G2 H2 w rs2 re2 x2 hw p2 => ?_
  have hv2 := hv.mono x2.pre x2.g x v
  obtain ⟨i, rfl⟩ : ∃ j, x = .int j := by cases x <;> first | exact ⟨_, rfl⟩ | exact p2.elim
  obtain ⟨j, rfl⟩ : ∃ j, y = .int j := by cases y <;> first | exact ⟨_, rfl⟩ | exact p2.elim
  simp only [rngL] at p2
  split at p2
  · rename_i hk
    rw [Bool.and_eq_true, Bool.and_eq_true] at hk
    exact ⟨i, j, repV_int.mp hv2, repV_int.mp hw, rg_ok hk.1.1 hk.1.2 hk.2, fun q hq => Post.here rs2 p2 q _ hq (cont_lst (rep_rng _ _))⟩
  · exact p2.elim
end
end Dn
end
section
set_option Elab.async false
set_option linter.all false
set_option maxRecDepth 100000
set_option maxHeartbeats 4000000
/-! Dn31: len and == of own classes. Own work. -/
namespace Dn
open PySem PySem.Spec PyProof.Rows L2

section
variable {X : Cx} {N : Nms} {W : WX} {k : Nat} {f C : Addr} {fd : FuncData} {ps : List Str} {σ : L2.St}
/-- a def run where the frames are those of X -/
theorem run_fnA {sp : Sp} {A : Around} {pins : List (Addr × Obj)} {H : Hp} {s : Shared} {Q : VK} {us : List Value} {vs : List V} (F : FnG X.prog X.w X.K X.mg X.base k f fd ps sp) (hr : Room k A) (hgd : A.guards = some []) (hf : A.frames = X.A.frames) (hb : Binds X.K fd ps []) (tk : Takes X W)
    (I : Inv X pins σ H s) (r : Vals vs us) (h : sp vs H Q (wx W σ)) : wpAny (model X.prog X.w) A (PySem.call (.ref f) us) (EP X pins σ Q) X.xe s := by
  have hl : us.length = ps.length := by rw [← r.length]; exact F.len _ _ _ _ h
  have e0 : Env0 X.prog X.w X.K X.mg X.base A X.stack s H := by
    have e := I.env0
    exact ⟨by rw [hf]; exact e.frames, e.mod, e.bs, e.bsz, e.funs, e.frf, e.hok, e.bare⟩
  have hbb := hb s us I.kIn (by simpa using hl)
  rw [List.append_nil] at hbb
  refine wpAny_call (codeAny_mono (F.run A X.stack s H ⟨us, []⟩ us vs Q (wx W σ) hr hgd e0 hbb r h) fun r s' hq => ?_)
  cases r with
  | error e => exact passAt tk σ pins H s e s' I hq
  | ok fl =>
    cases fl with
    | ret u => exact I.after hq
    | next => exact False.elim hq
    | brk => exact False.elim hq
    | cont => exact False.elim hq
/-- an own method of the class that the machine calls by itself -/
structure SlotFx (X : Cx) (N : Nms) (R : Run) (k : Nat) (C : Addr) (nm : Str) (fi np : Nat) : Prop where
  at_ : PySem.W.findIn X.K (.ref C) nm = some (some (.ref (He.fAd X.K (N.fn fi))))
  fn : PySem.W.isFn X.K (.ref (He.fAd X.K (N.fn fi))) = true
  run : ∃ fd ps, FnG X.prog X.w X.K X.mg X.base k (He.fAd X.K (N.fn fi)) fd ps (SpN (Bo X N) (R.call fi) np) ∧ Binds X.K fd ps []
  len : ∀ ds st, ds.length ≠ np → callD R fi ds st = .stk
structure OwnFx (X : Cx) (N : Nms) (R : Run) (k : Nat) : Prop where
  len : ∀ c fi, ((R.T.cls[c]?).bind (·.len)) = some fi → SlotFx X N R k (He.ga X.K (N.cls c)) "__len__" fi 1
  eq : ∀ c fi, ((R.T.cls[c]?).bind (·.eq)) = some fi → SlotFx X N R k (He.ga X.K (N.cls c)) "__eq__" fi 2
theorem class_at {m : List Addr} {G H : Hp} {st : Store} {d : D} {v : V} {c : Nat} (r : RelS (Bo X N) m G H st) (h : repV (Bo X N) m G d v) (e : classOf st d = some c) :
    ∃ a dx fvs, v = .ref a ∧ H a = some (.ins (He.ga X.K (N.cls c)) dx fvs) := by
  unfold classOf at e
  split at e
  · rename_i c' ns vs hc
    cases e
    obtain ⟨a, dx, fvs, rfl, ha, _⟩ := obj_at r h hc
    exact ⟨a, dx, fvs, rfl, ha⟩
  · cases e
/-- what is wanted of len, of == -/
def rOL (B : Wo) (R : Run) (XX : XK) : List V → Hp → VK → Prop := fun xs H Q => ∃ m G st d c, RelS B m G H st ∧ repL B m G [d] xs ∧ classOf st d = some c ∧ Post B m G H XX (fun d _ m' G' H' => ∀ v, repV B m' G' d v → Q v H') (ownLen R c d st)
theorem lenOk_q {d : D} {st : Store} : (∃ n, d = .int n ∧ small62 n = true ∧ 0 ≤ n ∧ lenOk d st = .ok (.int n) st) ∨ lenOk d st = .stk := by
  cases d <;> first | exact .inr rfl | skip
  rename_i n
  by_cases h : (small62 n && decide (0 ≤ n)) = true
  · have h' := h
    rw [Bool.and_eq_true] at h'
    exact .inl ⟨n, rfl, h'.1, of_decide_eq_true h'.2, by simp only [lenOk, if_pos h]; rfl⟩
  · exact .inr (by simp only [lenOk, if_neg h]; rfl)
theorem len_own {R : Run} {pins : List (Addr × Obj)} {s : Shared} {m : List Addr} {G H : Hp} {st : Store} {d : D} {v : V} {u : Value} {c : Nat} {Q : VK} (O : OwnFx X N R k) (hr : Room (k + 1) X.A) (hgd : X.A.guards = some []) (tk : Takes X W)
    (I : Inv X pins σ H s) (r : RelS (Bo X N) m G H st) (hv : repV (Bo X N) m G d v) (rv : RelV v u) (hc : classOf st d = some c)
    (p : Post (Bo X N) m G H (wx W σ) (fun d _ m' G' H' => ∀ v, repV (Bo X N) m' G' d v → Q v H') (ownLen R c d st)) : wpAny (model X.prog X.w) X.A (PySem.call (.builtin "len") [u]) (EP X pins σ Q) X.xe s := by
  unfold ownLen at p
  cases hf : (R.T.cls[c]?).bind (·.len) with
  | none => rw [hf] at p; exact p.elim
  | some fi =>
    rw [hf] at p
    have S := O.len c fi hf
    obtain ⟨a, dx, fvs, rfl, ha⟩ := class_at r hv hc
    cases rv
    obtain ⟨mA, J, _⟩ := ins_get I.hok ha
    obtain ⟨od, J, _⟩ := J.look
    obtain ⟨mm, hF⟩ := I.fr
    obtain ⟨fd, ps, F, hb⟩ := S.run
    refine PySem.W.len_K hF I.ok.mod.kin J S.at_ S.fn ?_
    have rl : repL (Bo X N) m G [d] [.ref a] := .cons' hv .nil'
    obtain ⟨m0, st0, r0, rv0, p0⟩ := obeys_D (R := R) (f := fi) _ _ _ _ _ _ _ (wx W σ) (fun v H' => ∃ n : Int, v = .int n ∧ small62 n = true ∧ 0 ≤ n ∧ Q (.int n) H') r rl (p.bnd.mono fun d1 st1 m1 G1 H1 x1 rs1 p1 v1 hv1 => by
      rcases lenOk_q (d := d1) (st := st1) with ⟨n, rfl, h1, h2, e⟩ | e
      · rw [e] at p1
        exact ⟨n, repV_int.mp hv1, h1, h2, p1.here rs1 _ (repV_int.mpr rfl)⟩
      · rw [e] at p1; exact p1.elim)
    have run := run_fnA (A := X.A.in1) F hr.in1 hgd rfl hb tk I (show Vals [V.ref a] [Value.ref a] from .cons rfl .nil) (show SpN (Bo X N) (R.call fi) 1 [.ref a] H _ (wx W σ) from ⟨m0, G, st0, [d], r0, rv0, rfl, p0⟩)
    refine wpAny_mono run (fun z s' hz => ?_) fun _ _ e => e
    obtain ⟨w, H', I', rw', n, rfl, h1, h2, q⟩ := hz
    obtain ⟨t, rfl⟩ := rw'
    obtain ⟨k1, k2⟩ := small_ok h1
    exact ⟨⟨h2, by omega⟩, .int n, H', I'.tok _, ⟨_, rfl⟩, q⟩
theorem eq_own {R : Run} {pins : List (Addr × Obj)} {s : Shared} {m : List Addr} {G H : Hp} {st : Store} {d1 d2 : D} {v w : V} {u1 u2 : Value} {c : Nat} {Q : VK} (O : OwnFx X N R k) (hr : Room k X.A) (hgd : X.A.guards = some []) (tk : Takes X W)
    (I : Inv X pins σ H s) (r : RelS (Bo X N) m G H st) (hv : repV (Bo X N) m G d1 v) (rv : RelV v u1) (hw : repV (Bo X N) m G d2 w) (rw2 : RelV w u2) (hc : classOf st d1 = some c)
    (p : Post (Bo X N) m G H (wx W σ) (fun d _ m' G' H' => ∀ v, repV (Bo X N) m' G' d v → Q v H') (ownEq R c d1 d2 st)) : wpAny (model X.prog X.w) X.A (compareOp .Eq u1 u2) (EP X pins σ Q) X.xe s := by
  unfold ownEq at p
  cases hf : (R.T.cls[c]?).bind (·.eq) with
  | none => rw [hf] at p; exact p.elim
  | some fi =>
    rw [hf] at p
    dsimp only at p
    split at p
    · rename_i hc2
      have S := O.eq c fi hf
      obtain ⟨a, dx, fvs, rfl, ha⟩ := class_at r hv hc
      obtain ⟨b, dy, gvs, rfl, hb2⟩ := class_at r hw hc2
      cases rv
      cases rw2
      obtain ⟨mA, J, _⟩ := ins_get I.hok ha
      obtain ⟨od, J, _⟩ := J.look
      obtain ⟨mB, J', _⟩ := ins_get I.hok hb2
      obtain ⟨od', J', _⟩ := J'.look
      obtain ⟨mm, hF⟩ := I.fr
      obtain ⟨fd, ps, F, hb⟩ := S.run
      show wpAny (model X.prog X.w) X.A (richCompare .Eq (.ref a) (.ref b)) (EP X pins σ Q) X.xe s
      refine PySem.W.cmp_K (op := .Eq) (tb := .ref (He.ga X.K (N.cls c))) hr.units0 hF I.ok.mod.kin J J'.type (by simp [PySem.W.notFirst]) S.at_ S.fn ?_
      have rl : repL (Bo X N) m G [d1, d2] [.ref a, .ref b] := .cons' hv (.cons' hw .nil')
      obtain ⟨m0, st0, r0, rv0, p0⟩ := obeys_D (R := R) (f := fi) _ _ _ _ _ _ _ (wx W σ) (fun v H' => ∃ b, v = .bl b ∧ Q (.bl b) H') r rl (p.bnd.mono fun d1 st1 m1 G1 H1 x1 rs1 p1 v1 hv1 => by
        cases d1 <;> first | exact p1.elim | skip
        exact ⟨_, repV_bl.mp hv1, p1.here rs1 _ (repV_bl.mpr rfl)⟩)
      have run := run_fnA (A := X.A) F hr hgd rfl hb tk I (show Vals [V.ref a, V.ref b] [Value.ref a, Value.ref b] from .cons rfl (.cons rfl .nil)) (show SpN (Bo X N) (R.call fi) 2 [.ref a, .ref b] H _ (wx W σ) from ⟨m0, G, st0, [d1, d2], r0, rv0, rfl, p0⟩)
      refine wpAny_mono run (fun z s' hz => ?_) fun _ _ e => e
      obtain ⟨w, H', I', rw', b, rfl, q⟩ := hz
      cases rw'
      exact ⟨.bl b, H', I', rfl, q⟩
    · exact p.elim
end
end Dn
end
section
set_option Elab.async false
set_option linter.all false
set_option maxRecDepth 100000
set_option maxHeartbeats 4000000
/-! Dn32: len and comparisons, of built-in and of own classes. Own work. -/
namespace Dn
open PySem PySem.Spec PyProof.Rows L2

section
variable {X : Cx} {N : Nms} {W : WX} {k : Nat} {σ : L2.St} {R : Run} {a b : Expr} {xa xb : Env → M D} {p pos : Pos}
theorem cmp_run {pins : List (Addr × Obj)} {s : Shared} {m : List Addr} {G H : Hp} {st : Store} {d1 d2 : D} {v w : V} {u1 u2 : Value} {Q : VK} {op : COp} (O : OwnFx X N R k) (hr : Room k X.A) (hgd : X.A.guards = some []) (tk : Takes X W)
    (I : Inv X pins σ H s) (r : RelS (Bo X N) m G H st) (hv : repV (Bo X N) m G d1 v) (rv : RelV v u1) (hw : repV (Bo X N) m G d2 w) (rw2 : RelV w u2)
    (p : Post (Bo X N) m G H (wx W σ) (fun d _ m' G' H' => ∀ v, repV (Bo X N) m' G' d v → Q v H') (evCmp R op d1 d2 st)) : wpAny (model X.prog X.w) X.A (compareOp (copOf op) u1 u2) (EP X pins σ Q) X.xe s := by
  have plain : ∀ {y : Res D}, y = (match cmp op d1 d2 st with
    | some b => .ok (.bl b) st
    | none => .stk) → Post (Bo X N) m G H (wx W σ) (fun d _ m' G' H' => ∀ v, repV (Bo X N) m' G' d v → Q v H') y → wpAny (model X.prog X.w) X.A (compareOp (copOf op) u1 u2) (EP X pins σ Q) X.xe s := by
    intro y e p
    cases hc : cmp op d1 d2 st with
    | none => rw [hc] at e; subst e; exact p.elim
    | some b =>
      rw [hc] at e
      subst e
      exact op_cmpD (N := N) (by have := hr.un; omega) op pins s σ H v w u1 u2 Q I rv rw2 ⟨m, G, st, d1, d2, b, r, hv, hw, hc, p.here r _ (repV_bl.mpr rfl)⟩
  cases hc : classOf st d1 with
  | none => exact plain (by unfold evCmp; rw [hc]; cases op <;> rfl) p
  | some c =>
    cases op with
    | eq =>
      have e : evCmp R .eq d1 d2 st = ownEq R c d1 d2 st := by unfold evCmp; rw [hc]
      rw [e] at p
      exact eq_own O hr hgd tk I r hv rv hw rw2 hc p
    | ne =>
      have e : evCmp R .ne d1 d2 st = .stk := by unfold evCmp; rw [hc]
      rw [e] at p
      exact p.elim
    | _ => exact plain (by unfold evCmp; rw [hc] <;> rfl) p
theorem se_cmpE {op : COp} (O : OwnFx X N R k) (hr : Room k X.A) (hgd : X.A.guards = some []) (tk : Takes X W) (ha : SE X N W a xa) (hb : SE X N W b xb) (hm : behindInMarks (copOf op) b = false) :
    SE X N W (.Compare a [copOf op] [b] pos) (fun env => bnd (xa env) fun x => bnd (xb env) fun y => evCmp R op x y) := by
  refine ⟨fun pins s σ H Q I q => ?_⟩
  obtain ⟨m, G, st, env, rs, re, p⟩ := q
  refine wpAny_Compare1 (binT (R := fun x y H2 => ∃ m G st d1 d2, RelS (Bo X N) m G H2 st ∧ repV (Bo X N) m G d1 x ∧ repV (Bo X N) m G d2 y ∧ Post (Bo X N) m G H2 (wx W σ) (fun d _ m' G' H' => ∀ v, repV (Bo X N) m' G' d v → Q v H') (evCmp R op d1 d2 st)) ha hb I ?_ fun v u s2 x y H2 I2 rx ry q => ?_) hm
  · refine to_tD rs re p fun x st1 m1 G1 H1 v rs1 re1 x1 hv p1 => to_tD rs1 re1 p1 fun y st2 m2 G2 H2 w rs2 re2 x2 hw p2 => ?_
    exact ⟨m2, G2, st2, x, y, rs2, hv.mono x2.pre x2.g x v, hw, p2⟩
  · obtain ⟨m, G, st, d1, d2, r, h1, h2, p⟩ := q
    exact cmp_run O hr hgd tk I2 r h1 rx h2 ry p
theorem evCmp_tells {op : COp} {x y : D} {st : Store} {d : D} {st' : Store} (h : evCmp R op x y st = .ok d st') : ∃ b, d = .bl b := by
  have plain : ∀ {z : Res D}, z = (match cmp op x y st with
    | some b => .ok (.bl b) st
    | none => .stk) → z = .ok d st' → ∃ b, d = .bl b := by
    intro z e h
    cases hc : cmp op x y st with
    | none => rw [hc] at e; subst e; cases h
    | some b => rw [hc] at e; subst e; cases h; exact ⟨b, rfl⟩
  cases hc : classOf st x with
  | none => exact plain (by unfold evCmp; rw [hc]; cases op <;> rfl) h
  | some c =>
    cases op with
    | eq =>
      have e : evCmp R .eq x y st = ownEq R c x y st := by unfold evCmp; rw [hc]
      rw [e] at h
      unfold ownEq at h
      split at h
      · split at h
        · unfold bnd at h
          split at h
          · rename_i d1 st1 _
            cases d1 <;> first | (cases h; done) | skip
            cases h; exact ⟨_, rfl⟩
          · cases h
          · cases h
        · cases h
      · cases h
    | ne =>
      have e : evCmp R .ne x y st = .stk := by unfold evCmp; rw [hc]
      rw [e] at h
      cases h
    | _ => exact plain (by unfold evCmp; rw [hc] <;> rfl) h
theorem st_cmpE {op : COp} (O : OwnFx X N R k) (hr : Room k X.A) (hgd : X.A.guards = some []) (tk : Takes X W) (ha : SE X N W a xa) (hb : SE X N W b xb) (hm : behindInMarks (copOf op) b = false) :
    ST X N W (.Compare a [copOf op] [b] pos) (fun env => bnd (bnd (xa env) fun x => bnd (xb env) fun y => evCmp R op x y) truM) := by
  refine ⟨fun pins s σ H Q I q => ?_⟩
  obtain ⟨m, G, st, env, rs, re, p⟩ := q
  simp only [bnd_assoc] at p
  refine wpAny_isTrue_Compare1 (thn (ha.run pins s σ H (fun x H1 => tD (Bo X N) W xb σ H1 fun y H2 => ∃ m G st d1 d2, RelS (Bo X N) m G H2 st ∧ repV (Bo X N) m G d1 x ∧ repV (Bo X N) m G d2 y ∧ Post (Bo X N) m G H2 (wx W σ) (fun d _ m' G' H' => ∀ v, repV (Bo X N) m' G' d v → ∃ k, v = .bl k ∧ Q k H') (evCmp R op d1 d2 st)) I ?_) fun v s1 ⟨x, H1, I1, r1, q1⟩ => thn (hb.run pins s1 σ H1 _ I1 q1) fun u s2 ⟨y, H2, I2, r2, q2⟩ => ?_) hm
  · refine to_tD rs re p fun x st1 m1 G1 H1 v rs1 re1 x1 hv p1 => to_tD rs1 re1 p1 fun y st2 m2 G2 H2 w rs2 re2 x2 hw p2 => ?_
    refine ⟨m2, G2, st2, x, y, rs2, hv.mono x2.pre x2.g x v, hw, (bool_of (fun d st' e => evCmp_tells e) p2).mono fun d st' m' G' H' xx rr ⟨k, e, q⟩ v' hv' => ?_⟩
    subst e
    exact ⟨k, repV_bl.mp hv', q⟩
  · obtain ⟨m, G, st, d1, d2, r, h1, h2, p⟩ := q2
    refine thn (cmp_run O hr hgd tk I2 r h1 r1 h2 r2 p) fun c s3 ⟨z, H3, I3, r3, kk, e, q3⟩ => ?_
    subst e
    cases r3
    exact wpAny_truthy_bool ⟨H3, I3, q3⟩
theorem se_lenE (O : OwnFx X N R k) (hr : Room (k + 1) X.A) (hgd : X.A.guards = some []) (tk : Takes X W) (hg : Gl X "len") (hm : X.mg "len" = none) (ha : SE X N W a xa) (hs : noStar a = true) :
    SE X N W (.Call (.Name "len" p) [a] [] pos) (fun env => bnd (xa env) fun x => evBlt R .len [x]) := by
  refine ⟨fun pins s σ H Q I q => ?_⟩
  obtain ⟨m, G, st, env, rs, re, p⟩ := q
  refine wpAny_Call_Name_kw (ld_blt I hg hm boot_len ?_ (by decide) (by decide))
  refine PyProof.Rows.callWith_builtin1 (thn ((pa_cons ha pa_nil (star_consN hs)).run pos pins s σ H (fun vs H1 => ∃ v m G st d, vs = [v] ∧ RelS (Bo X N) m G H1 st ∧ repV (Bo X N) m G d v ∧ Post (Bo X N) m G H1 (wx W σ) (fun d _ m' G' H' => ∀ v, repV (Bo X N) m' G' d v → Q v H') (evBlt R .len [d] st)) I ?_) fun us s1 ⟨vs, H1, I1, r1, q1⟩ => ?_) (star_consN hs) rfl
  · refine to_tD rs re p fun x st1 m1 G1 H1 v rs1 re1 x1 hv p1 => ?_
    exact ⟨v, m1, G1, st1, x, rfl, rs1, hv, p1⟩
  · obtain ⟨v, m, G, st, d, rfl, r, hv, p⟩ := q1
    obtain ⟨u, rfl, ru⟩ := vals1 r1
    cases hc : classOf st d with
    | some c =>
      have e : evBlt R .len [d] st = ownLen R c d st := by unfold evBlt; simp only [hc]
      rw [e] at p
      exact len_own O hr hgd tk I1 r hv ru hc p
    | none =>
      have e : evBlt R .len [d] st = bltM .len [d] st := by unfold evBlt; simp only [hc]; rfl
      rw [e] at p
      refine cr_len (N := N) pins s1 σ H1 [v] [u] Q I1 (.cons ru .nil) ⟨m, G, st, [d], r, .cons' hv .nil', ?_⟩
      exact p.quiet bltM_quiet
end
end Dn
end
section
set_option Elab.async false
set_option linter.all false
set_option maxRecDepth 100000
set_option maxHeartbeats 4000000
/-! Dn33: enumerate. Own work. -/
namespace Dn
open PySem PySem.Spec PyProof.Rows L2

theorem enumL_get : ∀ {xs : List D} {n i : Nat} {d : D}, (enumL n xs)[i]? = some d → ∃ x, xs[i]? = some x ∧ d = .tup [.int ((n + i : Nat) : Int), x]
  | [], n, i, d, h => by simp [enumL] at h
  | x :: xs, n, 0, d, h => by
    simp [enumL] at h
    exact ⟨x, rfl, h.symm⟩
  | x :: xs, n, i + 1, d, h => by
    rw [enumL, List.getElem?_cons_succ] at h
    obtain ⟨y, h1, h2⟩ := enumL_get h
    refine ⟨y, by rw [List.getElem?_cons_succ]; exact h1, ?_⟩
    rw [h2, show n + 1 + i = n + (i + 1) by omega]
theorem enumL_len : ∀ {xs : List D} {n : Nat}, (enumL n xs).length = xs.length
  | [], n => rfl
  | x :: xs, n => by rw [enumL, List.length_cons, List.length_cons, enumL_len]
section
variable {B : Wo} {m0 : List Addr} {G0 H0 : Hp} {st0 : Store} {d : D} {a : Addr} {ds : List D} {vs : List V}
theorem itok_enumL (r0 : RelS B m0 G0 H0 st0) (h : repV B m0 G0 d (.ref a)) (e : cellOf st0 d = .lst ds) : ItOk B true m0 G0 st0 (Ite B.K a) (enumL 0 ds) [d] := fun m G H st p g r hd => by
  obtain ⟨vs, h1, h2⟩ := lst_stands r0 h e p g r hd
  refine ⟨fun i hi => ⟨vs, h1, by rw [h2.length]; rw [enumL_len] at hi; exact hi⟩, fun i x hx => ?_⟩
  obtain ⟨y, hy, rfl⟩ := enumL_get hx
  obtain ⟨v, hv, rv⟩ := h2.get hy
  refine ⟨⟨vs, v, h1, hv⟩, fun z H' hz => ?_⟩
  obtain ⟨T, w, rfl, hT, rfl, hw⟩ := hz
  have := hw vs h1
  rw [hv] at this; cases this
  refine ⟨m, G, Ext.loose r hT, r.loose hT, ?_⟩
  rw [if_pos rfl]
  refine ⟨_, T, [.int (i : Nat), v], rfl, rfl, .inl (.inl upd_same), ?_⟩
  rw [Nat.zero_add]
  exact .cons' (repV_int.mpr rfl) (.cons' rv .nil')
end
section
variable {X : Cx} {N : Nms} {W : WX} {tg a b c e : Expr} {x xa xb xe : Env → M D} {p pos tpos : Pos} {xs : Env → M (List D)} {elts : List Expr} {kk : Nat}
/-- enumerate(e), e a list -/
theorem si_enmL (hg : Gl X "enumerate") (hm : X.mg "enumerate" = none) (he : SE X N W e xe) (hs : noStar e = true) : SI X N W true (.Tuple elts kk tpos) (.Call (.Name "enumerate" p) [e] [] pos) (fun env => bnd (xe env) fun x => fun st => match listOf st x with
    | some xs => .ok (enumL 0 xs, [x]) st
    | none => .stk) := by
  refine PI.imp (pi_enum hg hm (pa_cons he pa_nil (star_consN hs)) (star_consN hs)) fun σ H R q => ?_
  obtain ⟨m, G, st, env, rs, re, p⟩ := q
  refine to_tD rs re p fun x st1 m1 G1 H1 v rs1 re1 x1 hv p1 => ?_
  split at p1
  · rename_i ds hc
    obtain ⟨a, vs, rfl, ta, rl⟩ := list_at rs1 hv (listOf_eq hc)
    exact ⟨a, vs, rfl, ta, Post.here rs1 p1 _ (itok_enumL rs1 hv (listOf_eq hc))⟩
  · exact p1.elim
end
end Dn
end
section
set_option Elab.async false
set_option linter.all false
set_option maxRecDepth 100000
set_option maxHeartbeats 4000000
/-! Dn34: chained comparisons. Own work. -/
namespace Dn
open PySem PySem.Spec PyProof.Rows L2

/-- a comparison that asks no class -/
theorem evCmp_plain {R : Run} {op : COp} (h1 : op ≠ .eq) (h2 : op ≠ .ne) (x y : D) : evCmp R op x y = cmpM op x y := by
  funext st
  unfold evCmp cmpM
  cases op <;> first | exact absurd rfl h1 | exact absurd rfl h2 | (cases classOf st x <;> rfl)
theorem cmpM_quiet {op : COp} (x y : D) : Quiet (cmpM op x y) := by
  intro st c vs st' h
  unfold cmpM at h
  split at h <;> cases h
theorem cmpM_tells {op : COp} : Tells (cmpM op) := by
  intro x y st d st' h
  unfold cmpM at h
  split at h
  · rename_i b _
    cases h; exact ⟨b, rfl⟩
  · cases h
section
variable {X : Cx} {N : Nms}
theorem op_cmpM (hu : X.A.units + 65 < cLine) (op : COp) : OpR X (compareOp (copOf op)) (rM2 (Bo X N) (cmpM op)) := by
  refine OpR.imp (op_cmpD (N := N) hu op) fun x y H Q q => ?_
  obtain ⟨m, G, st, d1, d2, r, h1, h2, p⟩ := q
  unfold cmpM at p
  cases hc : cmp op d1 d2 st with
  | none => rw [hc] at p; exact p.elim
  | some b => rw [hc] at p; exact ⟨m, G, st, d1, d2, b, r, h1, h2, hc, p.here r _ (repV_bl.mpr rfl)⟩
end
end Dn
end
section
set_option Elab.async false
set_option linter.all false
set_option maxRecDepth 100000
set_option maxHeartbeats 4000000
/-! Dn35: dict(d), a copy. Own work. -/
namespace Dn
open PySem PySem.Spec PyProof.Rows L2

section
variable {X : Cx} {N : Nms}
theorem key1_noT {d : D} (h : d.key1 = true) : d.isT = false := by
  cases d <;> first | rfl | cases h
/-- dict(d): of a dict with scalar keys -/
theorem dict_copy {pins : List (Addr × Obj)} {s : Shared} {σ : L2.St} {m : List Addr} {G H : Hp} {st : Store} {d : D} {v : V} {u : Value} {ks vs : List D} {Q : VK} (I : Inv X pins σ H s) (r : RelS (Bo X N) m G H st) (hv : repV (Bo X N) m G d v) (rv : RelV v u) (hc : cellOf st d = .dic ks vs) (hk : ks.all D.key1 = true)
    (q : ∀ p o, H p = none → Cont (Bo X N) m G p o (.dic ks vs) → Q (.ref p) (upd H p o)) : wpAny (model X.prog X.w) X.A (PySem.call (.type "dict") [u]) (EP X pins σ Q) X.xe s := by
  obtain ⟨a, w, rfl, hu, hD⟩ := dic_at r hv hc
  rcases hD with ⟨kvs, e, rfl, rl⟩ | hX
  · have rd : Rd H a (.dK kvs) := by
      rcases unlk_dK e with rfl | ⟨o, rfl⟩
      · exact .inl hu
      · exact .inr ⟨o, hu⟩
    exact call_dictD pins s σ H [.ref a] [u] Q I (.cons rv .nil) ⟨a, kvs, rfl, rd, fun p hp => q p _ hp (cont_dk rl)⟩
  · obtain ⟨xs, e, e2, hn, rk, hks, _⟩ := id hX
    cases ks with
    | nil => exact absurd rfl hn
    | cons k ks =>
      have h1 := (hks k List.mem_cons_self).2
      have h2 := key1_noT (List.all_eq_true.mp hk k List.mem_cons_self)
      simp_all
end
end Dn
end
section
set_option Elab.async false
set_option linter.all false
set_option maxRecDepth 100000
set_option maxHeartbeats 4000000
/-! Dn36: enumerate of a tuple. Turned from the list's. -/
namespace Dn
open PySem PySem.Spec PyProof.Rows L2

theorem new_enum1 {v : Value} {o : Obj} {H : Heap → Prop} (B : Begins v o H) :
    Meets (Builtin.«enumerate.__new__» ⟨[.type "enumerate", v], []⟩) (fun _ R s => H s.heap ∧
      R (.ok (.ret (.ref (s.heap.push o).objs.size))) { s with heap := (s.heap.push o).push { cls := .type "enumerate", data := .fields #[.none, .bool false, .ref s.heap.objs.size, rawInt 0, .none, .none] } }) :=
  .of_wp fun prog w A R s h => by
    obtain ⟨hp, g, d, tk, os⟩ := s; obtain ⟨h1, h⟩ := h
    have hsub := sub_enumerate
    have q1 : ∀ {A' : Around} {E : Value → Shared → Prop} {Q : Value → Shared → Prop}, Q (.ref hp.objs.size) ⟨hp.push o, g, d, tk, os⟩ → wpAny (model prog w) A' (pyIter v) Q E ⟨hp, g, d, tk, os⟩ :=
      fun q => B.iter prog w _ _ ⟨hp, g, d, tk, os⟩ _ h1 q
    wp_walk using q1
    refine wpAny_stack_any fun st => wpAny_pure ?_
    split
    · rename_i c _ _ _ _ _
      cases (c == Value.type "enumerate")
      · wp_walk using q1
        exact ⟨_, rfl, h⟩
      · wp_walk using q1
        exact ⟨_, rfl, h⟩
    · wp_walk using q1
      exact ⟨_, rfl, h⟩
section
variable {prog : Program} {w : World} {A : Around} {E : Value → Shared → Prop} {s : Shared}
theorem enum_begins1 {v : Value} {o : Obj} {H : Heap → Prop} {Q : Value → Shared → Prop} (B : Begins v o H) (h1 : H s.heap)
    (h : ∀ h', IsEnum h' (s.heap.objs.size + 1) s.heap.objs.size 0 .none → h'.get? s.heap.objs.size = some o → h'.objs.size = s.heap.objs.size + 2 →
      (∀ b o, s.heap.get? b = some o → h'.get? b = some o) → Q (.ref (s.heap.objs.size + 1)) { s with heap := h' }) :
    wpAny (model prog w) A (PySem.call (.type "enumerate") [v]) Q E s := by
  refine callType_new F.called_enumerate (by decide) (F.typeCall_enumerate_1 _) (F.newCall_enumerate_1 _) (fun obj => F.args_object_init_2 obj _) F.entry_enumerate_new
    (new_enum1 B) ⟨h1, ?_⟩
  have hz : (s.heap.push o).objs.size = s.heap.objs.size + 1 := Heap.size_push ..
  show _ ∧ _
  rw [hz]
  have he : IsEnum ((s.heap.push o).push { cls := .type "enumerate", data := .fields #[.none, .bool false, .ref s.heap.objs.size, rawInt 0, .none, .none] }) (s.heap.objs.size + 1) s.heap.objs.size 0 .none := by
    have := Heap.get?_push_size (s.heap.push o) (o := { cls := .type "enumerate", data := .fields #[.none, .bool false, .ref s.heap.objs.size, rawInt 0, .none, .none] }) rfl
    rw [hz] at this; exact this
  refine ⟨⟨_, he, rfl⟩, h _ he (Heap.get?_push_of_some _ (Heap.get?_push_size _ B.free)) (by rw [Heap.size_push, hz]) fun b o x => Heap.get?_push_of_some _ (Heap.get?_push_of_some _ x)⟩
end
/-- the tuple at a, each item in a new pair -/
def IteT (K : PySem.W.Frag) (a : Addr) : It :=
  ⟨fun i H => ∃ (xs : List V) (x : V), SqT K H a xs ∧ xs[i]? = some x, fun i H v H' => ∃ T x, v = .ref T ∧ H T = none ∧ H' = upd H T (.tup [.int (i : Nat), x]) ∧ ∀ xs, SqT K H a xs → xs[i]? = some x, fun i H => ∃ xs : List V, SqT K H a xs ∧ xs.length ≤ i⟩
theorem turn_enumT {P : Program} {w : World} {K : PySem.W.Frag} {elts : List Expr} {kk : Nat} {tpos : Pos} (a e it : Addr) :
    Turn P w K (.Tuple elts kk tpos) (IteT K a) [e, it] e (fun i h => (∃ old, IsEnum h e it ((i : Nat) : Int) old) ∧ h.IsTupleIter it a i ∧ e ≠ it ∧ e ≠ a ∧ a ≠ it) where
  mem := by simp
  obj := fun i h st b hb => by
    obtain ⟨⟨old, he⟩, ⟨o, ho, hc, hd⟩, _⟩ := st
    have e' : b = e ∨ b = it := by simpa using hb
    rcases e' with z | z
    · rw [z]; exact ⟨_, he, fun v q => nomatch q⟩
    · rw [z]; exact ⟨o, ho, fun v q => by rw [hd] at q; cases q⟩
  keep := fun i h h' st k => let ⟨⟨old, he⟩, hi, hne⟩ := st; ⟨⟨old, k e (by simp) _ he⟩, hi.at fun o q => k it (by simp) o q, hne⟩
  item := by
    intro X hP hw hK hc i pins s σ H E I hf st hg
    subst hP hw hK
    obtain ⟨⟨old, he⟩, hit, hne, hea, hai⟩ := st
    obtain ⟨xs, x, hq, hx⟩ := hg
    obtain ⟨its, rv, p, hz⟩ := I.tuple hq
    obtain ⟨u, hu, ru⟩ := rv.get hx
    have hel : e < s.heap.objs.size := Heap.lt_size he
    have hil : it < s.heap.objs.size := by obtain ⟨_, q, _⟩ := hit; exact Heap.lt_size q
    have hlt : i < its.toArray.size := by simpa using (List.getElem?_eq_some_iff.mp hu).1
    refine wpAny_pyNext_enum_itemD (Draws.tuple (A := X.A.in1) (I.ok.hd hc) it a hai its.toArray) he ⟨hit, p⟩ hlt hne (by simp [hne, hea]) fun z h' tk hz2 ho hst hT hsz hk => ?_
    have ez : z = u := by
      rw [List.getElem?_toArray, hu] at hz2; cases hz2; rfl
    subst ez
    obtain ⟨hit', _⟩ := hst
    refine ⟨_, rfl, wpAny_letOwnedTupleGo_enum (s := { s with heap := h', toks := tk + 1 }) ho fun h'' he' sb => ?_⟩
    have hT2 : h''.get? s.heap.objs.size = some { cls := .type "tuple", data := .seq #[.int i tk, z] } := (sb.2 _ (Nat.ne_of_gt hel)).trans hT
    have new : ObjOk X.prog X.w (upd H s.heap.objs.size (.tup [.int (i : Nat), x])) h'' s.heap.objs.size (.tup [.int (i : Nat), x]) :=
      ⟨by show 2 ≤ sizeLine; decide, [.int i tk, z], .cons ⟨_, rfl⟩ (.cons ru .nil), ⟨_, hT2, rfl, _, rfl⟩⟩
    have I1 : Inv X pins σ (upd H s.heap.objs.size (.tup [.int (i : Nat), x])) { s with heap := h'', toks := tk + 1 } :=
      I.turnedNew (ch := [e, it]) (fun b ob hb q => (sb.2 b (fun z => hb (by simp [z]))).trans (hk b ob (fun z => hb (by simp [z])) (fun z => hb (by simp [z])) q)) hf (Nat.le_refl _) new
    refine ⟨.ref s.heap.objs.size, _, I1, rfl, ⟨_, x, rfl, I.hok.fresh (Nat.le_refl _), rfl, fun ys hy => by rw [I.tuple_inj hy hq]; exact hx⟩, ⟨⟨z, ?_⟩, hit'.at fun o q => (sb.2 it (Ne.symm hne)).trans q, hne, hea, hai⟩, fun b hb => ?_⟩
    · have e1 : ((i + 1 : Nat) : Int) = (i : Int) + 1 := by omega
      rw [e1]; exact he'
    · have hb' : b < s.heap.objs.size := by
        have e' : b = e ∨ b = it := by simpa using hb
        rcases e' with z | z
        · rw [z]; exact hel
        · rw [z]; exact hil
      rw [upd_ne (Nat.ne_of_lt hb')]
      exact (hf b hb).1
  done := by
    intro X hP hw hK hc i pins s σ H E I hf st hg
    subst hP hw hK
    obtain ⟨⟨old, he⟩, hit, hne, hea, hai⟩ := st
    obtain ⟨xs, hq, hx⟩ := hg
    obtain ⟨its, rv, p, hz⟩ := I.tuple hq
    obtain ⟨f0, f1, f2, f3, f4, f5⟩ := hf it (by simp)
    have hl := rv.length
    have D : Draws X.prog X.w X.A.in1 it [it, a] i (fun _ _ => True) (fun j h => j = i ∧ h.IsTupleIter it a i ∧ h.IsTuple a its.toArray) :=
      { live := fun _ _ st => let ⟨o, ho, _⟩ := st.2.1; ⟨o, ho⟩
        frame := fun _ _ _ st hk => ⟨st.1, st.2.1.at fun o e => hk it (by simp) o e, st.2.2.at fun o e => hk a (by simp) o e⟩
        item := fun j s Q E hj st _ => absurd st.1 (Nat.ne_of_lt hj)
        done := fun s Q E st hE => wpAny_nextOf_tuple_end (A := X.A.in1) (I.ok.hd hc) st.2.1 st.2.2 (by simp; omega) hE }
    exact wpAny_pyNext_enum_endD D he ⟨rfl, hit, p⟩ fun h' eb => ⟨rfl, I.turned (t' := s.toks) (fun b o hb q => eb b o hb q) f0 f1 f3 f4 f5⟩
  self := fun A i s Q E st h => let ⟨⟨_, he⟩, _⟩ := st; wpAny_pyIter_enum he h
end Dn
end
section
set_option Elab.async false
set_option linter.all false
set_option maxRecDepth 100000
set_option maxHeartbeats 4000000
/-! Dn37: for .. in enumerate(tuple). Own work. -/
namespace Dn
open PySem PySem.Spec PyProof.Rows L2

section
variable {B : Wo} {m0 : List Addr} {G0 H0 : Hp} {st0 : Store} {d : D} {a : Addr} {ds : List D} {vs : List V}
theorem itok_enumT (r0 : RelS B m0 G0 H0 st0) (h : repV B m0 G0 d (.ref a)) (e : cellOf st0 d = .tup ds) : ItOk B true m0 G0 st0 (IteT B.K a) (enumL 0 ds) [d] := fun m G H st p g r hd => by
  obtain ⟨vs, h1, h2⟩ := tup_stands r0 h e p g r
  refine ⟨fun i hi => ⟨vs, h1, by rw [h2.length]; rw [enumL_len] at hi; exact hi⟩, fun i x hx => ?_⟩
  obtain ⟨y, hy, rfl⟩ := enumL_get hx
  obtain ⟨v, hv, rv⟩ := h2.get hy
  refine ⟨⟨vs, v, h1, hv⟩, fun z H' hz => ?_⟩
  obtain ⟨T, w, rfl, hT, rfl, hw⟩ := hz
  have := hw vs h1
  rw [hv] at this; cases this
  refine ⟨m, G, Ext.loose r hT, r.loose hT, ?_⟩
  rw [if_pos rfl]
  refine ⟨_, T, [.int (i : Nat), v], rfl, rfl, .inl (.inl upd_same), ?_⟩
  rw [Nat.zero_add]
  exact .cons' (repV_int.mpr rfl) (.cons' rv .nil')
end
def iEnumA (K : PySem.W.Frag) (ta : TA) : TI := fun σ H R => ta σ H fun vs H1 => ∃ a xs, vs = [.ref a] ∧ ((SqL K H1 a xs ∧ R (Ite K a) H1) ∨ (SqT K H1 a xs ∧ R (IteT K a) H1))
theorem pi_enumA {X : Cx} {e : Expr} {ta : TA} {p pos tpos : Pos} {elts : List Expr} {kk : Nat} (hg : Gl X "enumerate") (hm : X.mg "enumerate" = none) (ha : PA X [e] ta) (hs : starEach [e] X.env = [(false, eval e X.env)] := by rfl) :
    PI X (.Tuple elts kk tpos) (.Call (.Name "enumerate" p) [e] [] pos) (iEnumA X.K ta) := by
  refine ⟨fun pins s σ H R I h => ?_⟩
  refine Call_ (ld_blt I hg hm boot_enumerate (PyProof.Rows.callWith_type1 (thn (ha.run pos pins s σ H _ I h) fun us s1 ⟨vs, H1, I1, r1, q1⟩ => ?_) hs rfl))
  obtain ⟨a, xs, ex, q1⟩ := q1
  subst ex
  cases r1 with
  | cons r rr =>
    cases rr
    cases r
    have fp : ∀ b ∈ [s1.heap.objs.size + 1, s1.heap.objs.size], FpOk X pins H1 b := fun b hb => by
      have e' : b = s1.heap.objs.size + 1 ∨ b = s1.heap.objs.size := by simpa using hb
      have hle : s1.heap.objs.size ≤ b := by
        rcases e' with z | z
        · rw [z]; exact Nat.le_add_right _ _
        · rw [z]; exact Nat.le_refl _
      exact I1.fpOk hle (I1.hok.fresh hle)
    rcases q1 with ⟨hq, q⟩ | ⟨hq, q⟩
    · obtain ⟨its, rv, p', hz⟩ := I1.list hq
      refine call_enumerate_list p'.isList fun h' he hit hsz hk => wpAny_pyIter_enum he ?_
      have I2 : Inv X pins σ H1 { s1 with heap := h' } := I1.kept (t' := s1.toks) hk
      exact ⟨s1.heap.objs.size + 1, [s1.heap.objs.size + 1, s1.heap.objs.size], _, _, H1, rfl, I2, turn_enum a (s1.heap.objs.size + 1) s1.heap.objs.size, ⟨⟨.none, he⟩, hit, Nat.succ_ne_self _⟩, fp, q⟩
    · obtain ⟨its, rv, p', hz⟩ := I1.tuple hq
      have hla : a < s1.heap.objs.size := by obtain ⟨o, ho, _⟩ := p'; exact Heap.lt_size ho
      refine enum_begins1 (begins_tuple a its.toArray) p' fun h' he hit hsz hk => wpAny_pyIter_enum he ?_
      have I2 : Inv X pins σ H1 { s1 with heap := h' } := I1.kept (t' := s1.toks) hk
      exact ⟨s1.heap.objs.size + 1, [s1.heap.objs.size + 1, s1.heap.objs.size], _, _, H1, rfl, I2, turn_enumT a (s1.heap.objs.size + 1) s1.heap.objs.size, ⟨⟨.none, he⟩, ⟨_, hit, rfl, rfl⟩, Nat.succ_ne_self _, Nat.ne_of_gt (Nat.lt_succ_of_lt hla), Nat.ne_of_lt hla⟩, fp, q⟩
section
variable {X : Cx} {N : Nms} {W : WX} {e : Expr} {xe : Env → M D} {p pos tpos : Pos} {elts : List Expr} {kk : Nat}
/-- enumerate(e), e a list or a tuple -/
theorem si_enm (hg : Gl X "enumerate") (hm : X.mg "enumerate" = none) (he : SE X N W e xe) (hs : noStar e = true) : SI X N W true (.Tuple elts kk tpos) (.Call (.Name "enumerate" p) [e] [] pos) (fun env => bnd (xe env) fun x => fun st => match itemsOf st x with
    | some xs => .ok (enumL 0 xs, [x]) st
    | none => .stk) := by
  refine PI.imp (pi_enumA hg hm (pa_cons he pa_nil (star_consN hs)) (star_consN hs)) fun σ H R q => ?_
  obtain ⟨m, G, st, env, rs, re, p⟩ := q
  refine to_tD rs re p fun x st1 m1 G1 H1 v rs1 re1 x1 hv p1 => ?_
  split at p1
  · rename_i ds hc
    rcases itemsOf_eq hc with hc | hc
    · obtain ⟨a, vs, rfl, ta, rl⟩ := list_at rs1 hv hc
      exact ⟨a, vs, rfl, .inl ⟨ta, Post.here rs1 p1 _ (itok_enumL rs1 hv hc)⟩⟩
    · obtain ⟨a, vs, rfl, ta, rl⟩ := tup_at rs1 hv hc
      exact ⟨a, vs, rfl, .inr ⟨ta.seq, Post.here rs1 p1 _ (itok_enumT rs1 hv hc)⟩⟩
  · exact p1.elim
end
end Dn
end
section
set_option Elab.async false
set_option linter.all false
set_option maxRecDepth 100000
set_option maxHeartbeats 4000000
/-! Dn38: comprehensions of dicts, keys scalar or tuples. Own work. -/
namespace Dn
open PySem PySem.Spec PyProof.Rows L2

section
variable {X : Cx} {N : Nms} {pins : List (Addr × Obj)} {σ : L2.St} {s : Shared} {m : List Addr} {G H : Hp} {st : Store} {a : Addr} {ks vs : List D} {A : Around} {E : Value → Shared → Prop} {d y : D} {v vy : V} {uv uy : Value}
theorem CellOk.cont {B : Wo} {o : HO} (h : CellOk B m G (upd H a o) a d) : Cont B m G a o d := by
  intro H' e
  have key : ∀ o' : HO, upd H a o a = Option.some o' → H' a = Option.some o' := fun o' q => by rw [upd_same] at q; cases q; exact e
  cases d <;> first | exact h.elim | skip
  · obtain ⟨xs, q, r⟩ := h; exact ⟨xs, key _ q, r⟩
  · rcases h with ⟨kvs, q, r⟩ | ⟨kvs, q, r⟩
    · exact .inl ⟨kvs, key _ q, r⟩
    · exact .inr ⟨kvs, key _ q, r⟩
  · obtain ⟨dx, fvs, q, r⟩ := h; exact ⟨dx, fvs, key _ q, r⟩
theorem Cont.mono {B : Wo} {m m' : List Addr} {G G' : Hp} {a : Addr} {o : HO} {d : D} (p : m <+: m') (g : GLe G G') (c : Cont B m G a o d) : Cont B m' G' a o d := fun H e => (c H e).mono p g rfl
/-- a comprehension's dict: d[k] = y -/
theorem cell_dset {Q : Unit → Shared → Prop} (hA : X.A.units + 20 < cLine) (I : Inv X pins σ H s) (r : RelS (Bo X N) m G H st) (c : CellOk (Bo X N) m G H a (.dic ks vs)) (hk : keyFor ks d = true) (hz : ks.length < szLine)
    (rd : repV (Bo X N) m G d v) (rv : RelV v uv) (ry : repV (Bo X N) m G y vy) (ru : RelV vy uy)
    (h : ∀ o s', Inv X pins σ (upd H a o) s' → CellOk (Bo X N) m G (upd H a o) a (.dic (dputK ks d) (dputV ks vs d y)) → Q () s') : wpAny (model X.prog X.w) X.A (dictSet a uv uy) Q E s := by
  cases ht : d.isT with
  | false =>
    obtain ⟨kvs, e, rfl, rl⟩ := cell_dk c hk ht
    obtain ⟨k, rfl⟩ := scalar_key (keyFor_key hk) ht
    have ev := rep_keyD rd
    subst ev
    have hl : kvs.length < sizeLine := by rw [← szLine_eq]; simpa using hz
    have nd : (kvs.map (·.1)).Nodup := by
      obtain ⟨_, _, vs', kv, o, es, ep, _, _, _, _, _, nd⟩ := dk_rd I.hok (.inl e)
      rw [kv.keys]; exact nd
    refine d_dictSet I e hl rv ru fun s' I' => h _ s' I' ?_
    obtain ⟨p1, p2⟩ := dput_val (k := k) ry rl nd
    exact .inl ⟨_, upd_same, p1.symm, p2⟩
  | true =>
    obtain ⟨u, hu, hD⟩ := DicU.of_cell c
    obtain ⟨us, ws, T⟩ := td_of I r hu hD hk ht
    obtain ⟨b, rfl⟩ := tup_ref rd ht
    cases rv
    have nd : (us.map (·.1)).Nodup := by obtain ⟨_, _, _, _, _, _, _, _, nd⟩ := T.dd; exact nd
    obtain ⟨ws', e1, e2, e3, e4, e5, e6, e7⟩ := dx_stored T (keyFor_key hk) ht rd ry ru nd
    have hul : us.length = ks.length := by have := congrArg List.length T.keys; rw [nkeys_length] at this; simpa using this
    have hz' : (storedH us (nkey d) b uy).length ≤ sizeLine := by have := szLine_eq; omega
    refine wpAny_dictSet_heap (hsz := T.len) (knd := nestedKind X.prog X.w) (by show X.A.units + 8 < _; omega) ⟨nested_is I r.sub 8 d _ _ (keyFor_key hk) rd rfl, keyN_depth 8 _ (keyFor_key hk)⟩ T.dd fun h' dd hs => ?_
    obtain ⟨o, I', c'⟩ := dx_write (t' := s.toks + (nestedKind X.prog X.w).draws (nkey d)) I c.mut hs dd T.sys hz' e1 e2 e3 e4 e5 e6
    exact h o _ I' c'
end
/-- the new dict at p takes a pair, whatever block runs over X -/
def DSet (X : Cx) (p : Addr) (y z : V) (H : Hp) (Nx : Hp → Prop) : Prop := ∀ (X' : Cx) (pins : List (Addr × Obj)) (σ : L2.St) (s : Shared) (u r : Value) (E : Value → Shared → Prop), X'.prog = X.prog → X'.w = X.w → X'.A = X.A → X'.K = X.K → Inv X' pins σ H s → RelV y u → RelV z r →
  wpAny (model X.prog X.w) X.A (dictSet p u r) (fun _ s' => ∃ H', Inv X' pins σ H' s' ∧ Nx H') E s
/-- the reading of a dict's comprehension -/
def tDcG (X : Cx) (wi : TI) (g : TG) (tt : TT) (tk tv : TE) (ws : List Nat) : TE := fun σ H Q => wi σ H fun J H1 => ∀ p, H1 p = none → ∃ Iv : Nat → Nat → Hp → Prop, (∃ n, Iv 0 n (upd H1 p (.dK []))) ∧ ∀ i n H, Iv i n H →
  (J.stop i H ∧ Q (.ref p) H) ∨ (J.go i H ∧ ∃ Nx : Hp → Prop, (∀ H', Nx H' → ∃ n', n' < n ∧ Iv (i + 1) n' H') ∧ ∀ x H', J.yld i H x H' → g x (L2.wipe σ ws) H' fun σ2 H2 => L2.wipe σ2 ws = L2.wipe σ ws ∧ tt σ2 H2 fun b H3 =>
    if b = true then tk σ2 H3 fun y H4 => tv σ2 H4 fun z H5 => DSet X p y z H5 Nx else Nx H3)
abbrev BlkP (X : Cx) (scope : Scope) (P : Cx → Prop) : Prop := ∀ (s : Shared) (H : Hp) (C : Addr) (cl : List (Str × Addr)) (fp : List Addr), P (X.blk s H scope (compEnvC scope cl C X.env) fp)
theorem dcg_core {X : Cx} {pins : List (Addr × Obj)} {s : Shared} {σ : L2.St} {H : Hp} {Q : VK} {ke ve tg iter : Expr} {ifs : List Expr} {scope : Scope} {own : List (Str × Nat)} {pos pos' : Pos} {wi : TI} {g : TG} {tt : TT} {tk tv : TE} {use : Option (Value → Sem Unit)} {Qf : Value → Shared → Prop}
    (calm : X.calm = true) (nd : X.N.Nodup) (I : Inv X pins σ H s) (it : PI X tg iter wi) (ok : BlkOk X.N X.env.scope scope own) (pg : BlkP X scope fun X' => PG X' tg g) (pt : BlkP X scope fun X' => PTs X' ifs tt) (pk : BlkP X scope fun X' => PE X' ke tk) (pv : BlkP X scope fun X' => PE X' ve tv)
    (fs : ∀ x, foldedSetIterable iter X.env x = pure x) (h : tDcG X wi g tt tk tv (own.map (·.2)) σ H Q)
    (fin : ∀ D C s' m H', Inv X pins σ H' s' → Q (.ref D) H' → s'.heap.Ns C m → FpOk X pins H' C → compPost (model X.prog X.w) X.A X.xe use Qf (.ref D) C (.ok .next) s') :
    wpAny (model X.prog X.w) X.A (comprehension (.DictComp ke ve [⟨tg, iter, ifs, 0⟩] scope pos) scope X.env pos' newDict false (eval iter X.env) use) Qf X.xe s := by
  have caught : ∀ y ∈ scope.names, y.2 = .free → ∃ c, X.env.cells.lookup y.1 = some c := fun y hy e => by rcases ok.free y hy e with k | k; exact I.ok.has _ (.inl k); exact I.ok.has _ (.inr k)
  refine wpAny_comprehension_free (use := use) rfl fs (closure_ok caught) ok.kind (fun y hy e => by rw [ok.uniq y hy, e]) (thn (it.run pins s σ H _ I h) fun _ _ h1 => thn h1 fun _ s2 ⟨ia, fp, tn, J, H2, e, I2, T, st2, f2, q⟩ => ?_)
  subst e
  refine wpAny_newObj_type (newEnv_comp ?_)
  generalize ep : s2.heap.objs.size = p
  have free2 : H2 p = none := I2.hok.fresh (Nat.le_of_eq ep)
  obtain ⟨Iv, ⟨n0, i0⟩, turn⟩ := q p free2
  generalize es3 : ({ s2 with heap := s2.heap.push { cls := .type "dict", data := .dict #[] } } : Shared) = s3
  have he3 : s3.heap = s2.heap.push { cls := .type "dict", data := .dict #[] } := by rw [← es3]
  have I3 : Inv X pins σ (upd H2 p (.dK [])) s3 := by
    rw [← es3]; refine I2.laid (t' := s2.toks) (fun _ _ z => Heap.get?_push_of_some _ z) (Nat.le_of_eq ep) ?_
    rw [← ep]; exact dk_empty s2.heap I2.big
  have below : ∀ b ∈ fp, b < s2.heap.objs.size := fun b hb => let ⟨_, z, _⟩ := T.obj _ _ st2 b hb; Heap.lt_size z
  have f3 : ∀ b ∈ fp, FpOk X pins (upd H2 p (.dK [])) b ∧ b < s3.heap.objs.size := fun b hb => by
    have z := below b hb
    have nz : b ≠ p := by rw [← ep]; exact Nat.ne_of_lt z
    exact ⟨⟨by rw [upd_ne nz]; exact (f2 b hb).1, (f2 b hb).2⟩, by rw [he3, Heap.size_push]; exact Nat.lt_succ_of_lt z⟩
  have st3 : tn 0 s3.heap := T.keep _ _ _ st2 fun b _ o z => by rw [he3]; exact Heap.get?_push_of_some _ z
  have I4 := block_start I3 ok nd f3
  have bg := pg s3 (upd H2 p (.dK [])) s3.heap.objs.size (cellsFrom (s3.heap.objs.size + 1) scope.names (cloFrom X.env.cells scope.names [])) fp
  have bt := pt s3 (upd H2 p (.dK [])) s3.heap.objs.size (cellsFrom (s3.heap.objs.size + 1) scope.names (cloFrom X.env.cells scope.names [])) fp
  have bk := pk s3 (upd H2 p (.dK [])) s3.heap.objs.size (cellsFrom (s3.heap.objs.size + 1) scope.names (cloFrom X.env.cells scope.names [])) fp
  have bv := pv s3 (upd H2 p (.dK [])) s3.heap.objs.size (cellsFrom (s3.heap.objs.size + 1) scope.names (cloFrom X.env.cells scope.names [])) fp
  show codeAny _ X.A (.compStart (.DictComp ke ve [⟨tg, iter, ifs, 0⟩] scope pos) 0 (.ref ia) (.ref p) (compEnvC scope (cellsFrom (s3.heap.objs.size + 1) scope.names (cloFrom X.env.cells scope.names [])) s3.heap.objs.size X.env)) (compPost (model X.prog X.w) X.A X.xe use Qf (.ref p) s3.heap.objs.size) { s3 with heap := pushCells (s3.heap.push { cls := .type "dict", data := .dict #[] }) scope.names }
  generalize hC : compEnvC scope (cellsFrom (s3.heap.objs.size + 1) scope.names (cloFrom X.env.cells scope.names [])) s3.heap.objs.size X.env = ce at I4 bg bt bk bv ⊢
  have lC : ce.locals = s3.heap.objs.size := by subst hC; rfl
  generalize hH : upd H2 p (.dK []) = H3 at I3 I4 bg bt bk bv i0 f3
  generalize es4 : ({ s3 with heap := pushCells (s3.heap.push { cls := .type "dict", data := .dict #[] }) scope.names } : Shared) = s4 at I4 ⊢
  have st4 : tn 0 s4.heap := T.keep _ _ _ st3 fun b _ o z => by rw [← es4]; exact pushCells_keeps _ _ _ _ (Heap.get?_push_of_some _ z)
  have foot : ∀ {σ' : L2.St} {H' : Hp} {s' : Shared}, Inv (X.blk s3 H3 scope ce fp) [] σ' H' s' → (∀ b ∈ fp, H' b = none) → ∀ b ∈ fp, FpOk (X.blk s3 H3 scope ce fp) [] H' b := fun {σ' H' s'} I' hn b hb =>
    ⟨hn b hb, (I'.ok.exf b hb).1, I'.ok.exfs b hb, .inl hb, fun x c e => (I'.ok.exf b hb).2 x c e, fun p hp => nomatch (show p ∈ ([] : List (Addr × Obj)) from by simpa using hp)⟩
  have loop : codeAny (model X.prog X.w) X.A (.compLoop (.DictComp ke ve [⟨tg, iter, ifs, 0⟩] scope pos) 0 (.ref ia) (.ref p) ce) (compPost (model X.prog X.w) X.A X.xe use Qf (.ref p) s3.heap.objs.size) s4 := by
    refine compLoop_anyD (fun n s' => ∃ i H', Inv (X.blk s3 H3 scope ce fp) [] (L2.wipe σ (own.map (·.2))) H' s' ∧ tn i s'.heap ∧ (∀ b ∈ fp, H' b = none) ∧ Iv i n H') ?_ n0 ⟨0, H3, I4, st4, fun b hb => (f3 b hb).1.1, i0⟩
    rintro n s5 ⟨i, H5, I5, st5, n5, w5⟩
    rcases turn i n H5 w5 with ⟨stop, qq⟩ | ⟨go, Nx, next, step⟩
    · refine thnF (T.done (X.blk s3 H3 scope ce fp) rfl rfl rfl calm i [] s5 _ H5 (fun _ _ => False) I5 (foot I5 n5) st5 stop) fun r s6 ⟨hr, I6⟩ => ?_
      subst hr
      have I7 : Inv X pins σ H5 s6 := I3.call' (ch := fp) I6.os I6.base I6.hok I6.bare fun b hb => ⟨(f3 b hb).1.2.2.2.1, (f3 b hb).1.2.1, (f3 b hb).1.2.2.2.2.1, (f3 b hb).1.2.2.2.2.2⟩
      have nC : H5 s3.heap.objs.size = none := lC ▸ (show H5 ce.locals = none from I6.free)
      obtain ⟨m, hn, _⟩ := I6.loc
      exact fin p s3.heap.objs.size s6 m H5 I7 qq (lC ▸ (show s6.heap.Ns ce.locals m from hn)) (I3.fpOk (Nat.le_refl _) nC)
    · refine thnF (T.item (X.blk s3 H3 scope ce fp) rfl rfl rfl calm i [] s5 _ H5 (fun _ _ => False) I5 (foot I5 n5) st5 go) fun r s6 ⟨u, hr, h6⟩ => ?_
      subst hr
      refine thnF h6 fun _ s7 ⟨x, H7, I7, r7, y7, st7, n7⟩ => ?_
      refine thnF (bg.run _ s7 _ H7 x u _ (I7.pinned (foot I7 n7) (T.obj _ _ st7)) r7 (step x H7 y7)) fun _ s8 ⟨σ8, H8, I8, k8, q8⟩ => ?_
      refine thnF (bt.run _ s8 σ8 H8 _ I8 q8) fun b s9 ⟨H9, I9, q9⟩ => ?_
      have done : ∀ {s' : Shared} {H' : Hp}, Inv (X.blk s3 H3 scope ce fp) ([] ++ pinsAt fp s7.heap) σ8 H' s' → Nx H' → ∃ n', n' < n ∧ ∃ i H', Inv (X.blk s3 H3 scope ce fp) [] (L2.wipe σ (own.map (·.2))) H' s' ∧ tn i s'.heap ∧ (∀ b ∈ fp, H' b = none) ∧ Iv i n' H' := fun {s' H'} I' nx => by
        obtain ⟨n', lt, w'⟩ := next H' nx
        have stands : ∀ b ∈ fp, ∀ o, s7.heap.get? b = some o → s'.heap.get? b = some o ∧ H' b = none := fun b hb o z => let y := I'.pin (b, o) (List.mem_append_right _ (List.mem_append_right _ (mem_pinsAt hb z))); ⟨y.1, y.2.1⟩
        refine ⟨n', lt, i + 1, H', (I'.unpinned (pins := [])).weak (by rw [← k8, wipe_length]) (fun j v e => by rw [← k8] at e; exact (wipe_some e).1), T.keep _ _ _ st7 fun b hb o e => (stands b hb o e).1, fun b hb => ?_, w'⟩
        obtain ⟨o, e, _⟩ := T.obj _ _ st7 b hb
        exact (stands b hb o e).2
      cases b with
      | false => simp only [Bool.false_eq_true, if_false] at q9 ⊢; exact done I9 q9
      | true =>
        simp only [if_true] at q9 ⊢
        refine thnF (bk.run _ s9 σ8 H9 _ I9 q9) fun z s10 ⟨yk, H10, I10, r10, q10⟩ => ?_
        refine thnF (bv.run _ s10 σ8 H10 _ I10 q10) fun z2 s11 ⟨yv, H11, I11, r11, ds⟩ => ?_
        exact thnF (ds (X.blk s3 H3 scope ce fp) _ _ s11 z z2 _ rfl rfl rfl rfl I11 r10 r11) fun _ s12 ⟨H12, I12, nx⟩ => done I12 nx
  exact codeAny_compStart_dict loop (T.self X.A 0 _ _ _ st4 loop)
/-! ### by values -/
theorem Cont.noxd {B : Wo} {m : List Addr} {G : Hp} {a : Addr} {o : HO} {d : D} (c : Cont B m G a o d) : ∀ fs, o ≠ .xd fs := CellOk.noxd (H := fun _ => none) (c _ upd_same)
theorem cont_new {B : Wo} {m : List Addr} {G : Hp} {a : Addr} : Cont B m G a (.dK []) (.dic [] []) := fun H e => .inl ⟨[], e, rfl, .nil'⟩
theorem putKV_ok {k v acc acc' : D} {st st' : Store} (h : putKV k v acc st = .ok acc' st') : ∃ ks vs, acc = .dic ks vs ∧ keyFor ks k = true ∧ ks.length < szLine ∧ acc' = .dic (dputK ks k) (dputV ks vs k v) ∧ st' = st := by
  unfold putKV at h
  cases acc <;> first | (cases h; done) | skip
  rename_i ks vs
  dsimp only at h
  split at h
  · rename_i q
    rw [Bool.and_eq_true] at q
    cases h
    exact ⟨ks, vs, rfl, q.1, of_decide_eq_true q.2, rfl, rfl⟩
  · cases h
/-- a pair is added -/
def addKV (fk fv : Env → M D) (env : Env) (acc : D) : M D := bnd (fk env) fun x => bnd (fv env) fun y => putKV x y acc
section
variable {X : Cx} {N : Nms} {W : WX} {tg ke ve iter : Expr} {ifs : List Expr} {scope : Scope} {own : List (Str × Nat)} {pos : Pos} {xi : Env → M (List D × List D)} {t : Tg} {fc : Env → M Bool} {fk fv : Env → M D} {u : Bool}
/-- the evaluator's comprehension -/
def dcM (xi : Env → M (List D × List D)) (t : Tg) (fc : Env → M Bool) (fk fv : Env → M D) (is : List Nat) : Env → M D := fun env => bnd (xi env) fun p => fun st =>
  calm (dcGo (depOk st p.2) (fun st d env => bindT st t d env) (fun env => fc env) (fun env acc => addKV fk fv env acc) (wipe env is) p.1 (.dic [] [])) st
theorem tDc_of {Q : VK} {σ : L2.St} {H : Hp} {is : List Nat} (hu : X.A.units + 20 < cLine) (ht : ∀ i ∈ t.vars, i ∈ is) (q : tN (Bo X N) W (dcM xi t fc fk fv is) σ H Q) : tDcG X (tI (Bo X N) W u xi) (gOf X N u t) (tDB (Bo X N) W0 fc) (tD (Bo X N) W0 fk) (tD (Bo X N) W0 fv) is σ H Q := by
  obtain ⟨m, G, st, env, rs, re, pp⟩ := q
  refine ⟨m, G, st, env, rs, re, (Post.bnd pp).mono fun a st1 m1 G1 H1 x1 rs1 p1 J hJ p hp => ?_⟩
  obtain ⟨ds, deps⟩ := a
  simp only at hJ p1
  have re1 := re.ext x1
  obtain ⟨acc', st', hgo, p2⟩ : ∃ acc' st', dcGo (depOk st1 deps) (fun st d env => bindT st t d env) (fun env => fc env) (fun env acc => addKV fk fv env acc) (wipe env is) ds (.dic [] []) st1 = .ok acc' st' ∧
      ∀ m' G' H', Ext m1 G1 H1 m' G' H' → RelS (Bo X N) m' G' H' st' → ∀ p o, H' p = none → Cont (Bo X N) m' G' p o acc' → Q (.ref p) (upd H' p o) := by
    unfold calm at p1
    cases e : dcGo (depOk st1 deps) (fun st d env => bindT st t d env) (fun env => fc env) (fun env acc => addKV fk fv env acc) (wipe env is) ds (.dic [] []) st1 with
    | ok acc' st' => rw [e] at p1; exact ⟨acc', st', rfl, p1⟩
    | exc c vs st' => rw [e] at p1; exact p1.elim
    | stk => rw [e] at p1; exact p1.elim
  refine ⟨fun i n H' => n + i = ds.length ∧ ∃ m2 G2 Hd st2 acc o, Ext m1 G1 H1 m2 G2 Hd ∧ RelS (Bo X N) m2 G2 Hd st2 ∧ Hd p = none ∧ H' = upd Hd p o ∧ Cont (Bo X N) m2 G2 p o acc ∧
    dcGo (depOk st1 deps) (fun st d env => bindT st t d env) (fun env => fc env) (fun env acc => addKV fk fv env acc) (wipe env is) (ds.drop i) acc st2 = .ok acc' st', ⟨ds.length, rfl, m1, G1, H1, st1, _, _, .refl .., rs1, hp, rfl, cont_new, by rw [List.drop_zero]; exact hgo⟩, ?_⟩
  rintro i n H' ⟨hn, m2, G2, Hd, st2, acc, o, x2, rs2, hdN, rfl, racc, hg⟩
  have rs2' : RelS (Bo X N) m2 G2 (upd Hd p o) st2 := rs2.loose hdN
  by_cases hlt : i < ds.length
  · right
    rw [List.drop_eq_getElem_cons hlt, dcGo] at hg
    dsimp only at hg
    split at hg
    · rename_i hdep
      obtain ⟨jstop, jgo⟩ := hJ m2 G2 _ st2 x2.pre x2.g rs2' hdep
      obtain ⟨go, yl⟩ := jgo i ds[i] (List.getElem?_eq_getElem hlt)
      cases hb : bindT st2 t ds[i] (wipe env is) with
      | none => simp only [hb] at hg; cases hg
      | some env' =>
        simp only [hb] at hg
        refine ⟨go, fun H' => ∃ m2 G2 Hd st2 acc o, Ext m1 G1 H1 m2 G2 Hd ∧ RelS (Bo X N) m2 G2 Hd st2 ∧ Hd p = none ∧ H' = upd Hd p o ∧ Cont (Bo X N) m2 G2 p o acc ∧
          dcGo (depOk st1 deps) (fun st d env => bindT st t d env) (fun env => fc env) (fun env acc => addKV fk fv env acc) (wipe env is) (ds.drop (i + 1)) acc st2 = .ok acc' st', fun H' hN => ⟨n - 1, by omega, by omega, hN⟩, fun x H3 hy => ?_⟩
        obtain ⟨m3, G3, x3, rs3, hx⟩ := yl x H3 hy
        refine ⟨m3, G3, st2, wipe env is, env', ds[i], rs3, ((re1.ext x2).ext x3).wipe is, hx, hb, fun σ' re' kp => ⟨?_, ?_⟩⟩
        · rw [kp is ht]; exact wipe_mem fun i q => q
        obtain ⟨b, st4, e4, hg4⟩ := bnd_ok hg
        refine ⟨m3, G3, st2, env', rs3, re', ?_⟩
        show Post _ _ _ _ _ _ (fc env' st2)
        rw [e4]
        refine post_ok fun m4 G4 H4 x4 rs4 => ?_
        cases b with
        | false =>
          rw [if_neg Bool.false_ne_true] at hg4 ⊢
          obtain ⟨y1, y2, y3⟩ := Ext.under racc.noxd hdN rs2 (x3.trans x4) rs4
          exact ⟨m4, G4, dl H4 p, st4, acc, o, x2.trans y1, y2, dl_same, y3, racc.mono y1.pre y1.g, hg4⟩
        | true =>
          rw [if_pos rfl] at hg4 ⊢
          obtain ⟨acc5, st5, e5, hg5⟩ := bnd_ok hg4
          obtain ⟨yk, st6, e6, hg6⟩ := bnd_ok e5
          obtain ⟨yv, st7, e7, hg7⟩ := bnd_ok hg6
          obtain ⟨ks, vs, rfl, hk, hz, rfl, rfl⟩ := putKV_ok hg7
          refine ⟨m4, G4, st4, env', rs4, re'.ext x4, ?_⟩
          show Post _ _ _ _ _ _ (fk env' st4)
          rw [e6]
          refine post_ok fun m5 G5 H5 x5 rs5 v hv => ?_
          refine ⟨m5, G5, st6, env', rs5, (re'.ext x4).ext x5, ?_⟩
          show Post _ _ _ _ _ _ (fv env' st6)
          rw [e7]
          refine post_ok fun m6 G6 H6 x6 rs6 w hw => ?_
          obtain ⟨y1, y2, y3⟩ := Ext.under racc.noxd hdN rs2 (((x3.trans x4).trans x5).trans x6) rs6
          have hH6 : H6 p = some o := by rw [y3, upd_same]
          have c6 : CellOk (Bo X N) m6 G6 H6 p (.dic ks vs) := (racc.mono y1.pre y1.g) H6 hH6
          intro X' pins' σ' s' uu r E e1 e2 e3 e4 I' ru rr
          have eB : Bo X' N = Bo X N := by simp only [Bo, e1, e2, e4]
          rw [← e1, ← e2, ← e3]
          refine cell_dset (N := N) (by rw [e3]; exact hu) I' (by rw [eB]; exact rs6) (by rw [eB]; exact c6) hk hz (by rw [eB]; exact hv.mono x6.pre x6.g) ru (by rw [eB]; exact hw) rr fun o' s'' I'' c'' => ⟨_, I'', ?_⟩
          rw [eB] at c''
          exact ⟨m6, G6, dl H6 p, _, _, o', x2.trans y1, y2, dl_same, upd_dl y3, c''.cont, hg5⟩
    · cases hg
  · left
    rw [List.drop_eq_nil_of_le (by omega), dcGo] at hg
    dsimp only at hg
    split at hg
    · rename_i hdep
      obtain ⟨jstop, jgo⟩ := hJ m2 G2 _ st2 x2.pre x2.g rs2' hdep
      cases hg
      exact ⟨jstop i (by omega), p2 m2 G2 Hd x2 rs2 p _ hdN racc⟩
    · cases hg
theorem sn_dc (hu : X.A.units + 20 < cLine) (hc : X.calm = true) (hN : X.N.Nodup) (hi : SI X N W u tg iter xi) (ok : BlkOk X.N X.env.scope scope own) (hg : Blk X scope fun X' => TgOk X' N u tg t) (ht : ∀ i ∈ t.vars, i ∈ own.map (·.2)) (hif : Blk X scope fun X' => STs X' N W0 ifs fc) (hk : Blk X scope fun X' => SE X' N W0 ke fk) (hv : Blk X scope fun X' => SE X' N W0 ve fv) (hs : ∀ x, foldedSetIterable iter X.env x = pure x) :
    SN X N W (.DictComp ke ve [⟨tg, iter, ifs, 0⟩] scope pos) (dcM xi t fc fk fv (own.map (·.2))) := by
  refine ⟨fun pins s σ H Q I q => ?_⟩
  rw [arm_eval_DictComp]
  refine dcg_core hc hN I hi ok (fun s H C cl fp => tgOk_pg (hg s H C cl fp)) hif hk hv hs (tDc_of (u := u) hu ht q) fun D C s' m H' I' q hn f => ⟨m, hn, fun h'' sb => ?_⟩
  obtain ⟨f0, f1, _, f3, f4, f5⟩ := f
  exact ⟨.ref D, H', I'.turned (t' := s'.toks) (fun b o hb e => (sb.2 b hb).trans e) f0 f1 f3 f4 f5, rfl, q⟩
/-- name = {..} where the machine stores within the comprehension -/
theorem ss_setDc {i : Nat} {y : Str} {py spos : Pos} (hu : X.A.units + 20 < cLine) (hc : X.calm = true) (hN : X.N.Nodup) (hy : X.N[i]? = some y) (hyl : X.env.scope.names.lookup y = some .local) (hsw : swapsWith (.DictComp ke ve [⟨tg, iter, ifs, 0⟩] scope pos) (some (.Name y py)) spos.line X.env = pure true)
    (hi : SI X N W u tg iter xi) (ok : BlkOk X.N X.env.scope scope own) (hg : Blk X scope fun X' => TgOk X' N u tg t) (ht : ∀ i ∈ t.vars, i ∈ own.map (·.2)) (hif : Blk X scope fun X' => STs X' N W0 ifs fc) (hk : Blk X scope fun X' => SE X' N W0 ke fk) (hv : Blk X scope fun X' => SE X' N W0 ve fv) (hs : ∀ x, foldedSetIterable iter X.env x = pure x) (box : Bool) :
    SS X N W (.Assign [.Name y py] (.DictComp ke ve [⟨tg, iter, ifs, 0⟩] scope pos) spos) (fun env st => vl ((fun env => bnd (dcM xi t fc fk fv (own.map (·.2)) env) (if box then alloc else ret)) env) env st fun x st1 => match bindT st1 (.v i) x env with
    | some env' => .nx env' st1
    | none => .stk) := by
  refine ⟨fun pins s σ H E I q => ?_⟩
  obtain ⟨m, G, st, env, rs, re, p⟩ := q
  have key : tD (Bo X N) W (fun env => bnd (dcM xi t fc fk fv (own.map (·.2)) env) (if box then alloc else ret)) σ H (fun x H1 => gName i x σ H1 E.nx) := by
    refine vl_tD rs re p fun d st1 m1 G1 H1 v rs1 re1 x1 hv p1 => ?_
    rw [bindT] at p1
    split at p1
    · rename_i env' h
      split at h
      · cases h; exact p1.nxt rs1 (re1.set i hv)
      · cases h
    · exact p1.elim
  have key2 : tN (Bo X N) W (dcM xi t fc fk fv (own.map (·.2))) σ H (fun x H1 => gName i x σ H1 E.nx) := by
    obtain ⟨m2, G2, st2, env2, rs2, re2, p2⟩ := key
    refine ⟨m2, G2, st2, env2, rs2, re2, ?_⟩
    cases box with
    | true => exact Post.lay p2
    | false =>
      rw [if_neg Bool.false_ne_true] at p2
      dsimp only at p2
      rw [bnd_ret] at p2
      exact Post.still p2
  rw [exec_Assign_Name_used _ _ _ _ hsw]
  refine wpAny_bind (wpAny_standAt (wpAny_bind ?_))
  show wpAny _ X.A (do let _ ← comprehension (.DictComp ke ve [⟨tg, iter, ifs, 0⟩] scope pos) scope X.env (firstIterPos [⟨tg, iter, ifs, 0⟩] pos) newDict false (eval iter X.env) (some (assign (.Name y py) X.env))) _ _ s
  refine wpAny_bind (thn (dcg_core (Qf := fun _ s' => SP X pins E .next s') hc hN I hi ok (fun s H C cl fp => tgOk_pg (hg s H C cl fp)) hif hk hv hs (tDc_of (u := u) hu ht key2) fun L C s' m H' I' q hn f => ?_) fun _ s' hq => wpAny_pure (wpAny_pure hq))
  show wpAny _ _ (assign (.Name y py) X.env (.ref L)) _ _ _
  refine wpAny_assign_Name (store_ok2 (v := V.ref L) I' hN hy (.inl hyl) rfl (fun s2 I2 ⟨a, sb, ha⟩ => ?_) (.inr hyl))
  obtain ⟨f0, f1, _, f3, f4, f5⟩ := f
  have aC : C ≠ a := ha.elim (fun z => z ▸ f1) fun z e => f4 y a z e.symm
  exact ⟨m, hn.sameBut sb aC, fun h3 sb3 => ⟨_, H', I2.turned (t' := s2.toks) (fun b o hb e => (sb3.2 b hb).trans e) f0 f1 f3 f4 f5, q⟩⟩
end
end Dn
end
section
set_option Elab.async false
set_option linter.all false
set_option maxRecDepth 100000
set_option maxHeartbeats 4000000
/-! Dn39: comprehensions of two fors. Own work. -/
namespace Dn
open PySem PySem.Spec PyProof.Rows L2

/-- the inner walk -/
def inM (xi2 : Env → M (List D × List D)) (t2 : Tg) (fc2 : Env → M Bool) (fe : Env → M D) (env : Env) (acc : List D) : M (List D) := bnd (xi2 env) fun p2 => fun st2 =>
  lcGo (depOk st2 p2.2) (fun st d env => bindT st t2 d env) (fun env => fc2 env) (fun env acc => addE fe env acc) (wipe env t2.vars) p2.1 acc st2
def lc2M (xi : Env → M (List D × List D)) (t : Tg) (fc : Env → M Bool) (xi2 : Env → M (List D × List D)) (t2 : Tg) (fc2 : Env → M Bool) (fe : Env → M D) (is : List Nat) : Env → M D := fun env => bnd (xi env) fun p => fun st =>
  bnd (calm (lcGo (depOk st p.2) (fun st d env => bindT st t d env) (fun env => fc env) (fun env acc => inM xi2 t2 fc2 fe env acc) (wipe env is) p.1 [])) (fun xs => ret (.lst xs)) st
section
variable {X : Cx} {N : Nms} {W : WX} {tg elt iter tg2 iter2 : Expr} {ifs ifs2 : List Expr} {scope : Scope} {own : List (Str × Nat)} {pos : Pos} {xi xi2 : Env → M (List D × List D)} {t t2 : Tg} {fc fc2 : Env → M Bool} {fe : Env → M D} {u u2 : Bool}
theorem tLc2_of {Q : VK} {σ : L2.St} {H : Hp} {is : List Nat} (ht : ∀ i ∈ t.vars, i ∈ is) (q : tN (Bo X N) W (lc2M xi t fc xi2 t2 fc2 fe is) σ H Q) :
    tLc2 (tI (Bo X N) W u xi) (gOf X N u t) (tDB (Bo X N) W0 fc) (tI (Bo X N) W0 u2 xi2) (gOf X N u2 t2) (tDB (Bo X N) W0 fc2) (tD (Bo X N) W0 fe) is t2.vars σ H Q := by
  obtain ⟨m, G, st, env, rs, re, pp⟩ := q
  refine ⟨m, G, st, env, rs, re, (Post.bnd pp).mono fun a st1 m1 G1 H1 x1 rs1 p1 J hJ p hp => ?_⟩
  obtain ⟨ds, deps⟩ := a
  simp only at hJ p1
  have re1 := re.ext x1
  generalize hgo' : (fun acc st => lcGo (depOk st1 deps) (fun st d env => bindT st t d env) (fun env => fc env) (fun env acc => inM xi2 t2 fc2 fe env acc) (wipe env is) acc st) = outer at p1
  have hou : ∀ l acc, lcGo (depOk st1 deps) (fun st d env => bindT st t d env) (fun env => fc env) (fun env acc => inM xi2 t2 fc2 fe env acc) (wipe env is) l acc = outer l acc := fun l acc => by rw [← hgo']
  obtain ⟨xs, st', hgo, p2⟩ : ∃ xs st', outer ds [] st1 = .ok xs st' ∧
      ∀ m' G' H', Ext m1 G1 H1 m' G' H' → RelS (Bo X N) m' G' H' st' → ∀ p o, H' p = none → Cont (Bo X N) m' G' p o (.lst xs) → Q (.ref p) (upd H' p o) := by
    rw [hou] at p1
    unfold bnd calm at p1
    cases e : outer ds [] st1 with
    | ok xs st' => rw [e] at p1; exact ⟨xs, st', rfl, p1⟩
    | exc c vs st' => rw [e] at p1; exact p1.elim
    | stk => rw [e] at p1; exact p1.elim
  refine ⟨fun i n H' => n + i = ds.length ∧ ∃ m2 G2 Hd st2 acc vs, Ext m1 G1 H1 m2 G2 Hd ∧ RelS (Bo X N) m2 G2 Hd st2 ∧ Hd p = none ∧ H' = upd Hd p (.lst vs) ∧ repL (Bo X N) m2 G2 acc vs ∧ outer (ds.drop i) acc st2 = .ok xs st',
    ⟨ds.length, rfl, m1, G1, H1, st1, [], [], .refl .., rs1, hp, rfl, .nil', by rw [List.drop_zero]; exact hgo⟩, ?_⟩
  rintro i n H' ⟨hn, m2, G2, Hd, st2, acc, vs, x2, rs2, hdN, rfl, racc, hg⟩
  have rs2' : RelS (Bo X N) m2 G2 (upd Hd p (.lst vs)) st2 := rs2.loose hdN
  by_cases hlt : i < ds.length
  · right
    rw [List.drop_eq_getElem_cons hlt, ← hou, lcGo] at hg
    dsimp only at hg
    split at hg
    · rename_i hdep
      obtain ⟨jstop, jgo⟩ := hJ m2 G2 _ st2 x2.pre x2.g rs2' hdep
      obtain ⟨go, yl⟩ := jgo i ds[i] (List.getElem?_eq_getElem hlt)
      cases hb : bindT st2 t ds[i] (wipe env is) with
      | none => simp only [hb] at hg; cases hg
      | some env' =>
        simp only [hb, hou] at hg
        refine ⟨go, fun H' => ∃ m2 G2 Hd st2 acc vs, Ext m1 G1 H1 m2 G2 Hd ∧ RelS (Bo X N) m2 G2 Hd st2 ∧ Hd p = none ∧ H' = upd Hd p (.lst vs) ∧ repL (Bo X N) m2 G2 acc vs ∧ outer (ds.drop (i + 1)) acc st2 = .ok xs st', fun H' hN => ⟨n - 1, by omega, by omega, hN⟩, fun x H3 hy => ?_⟩
        obtain ⟨m3, G3, x3, rs3, hx⟩ := yl x H3 hy
        refine ⟨m3, G3, st2, wipe env is, env', ds[i], rs3, ((re1.ext x2).ext x3).wipe is, hx, hb, fun σ' re' kp => ⟨?_, ?_⟩⟩
        · rw [kp is ht]; exact wipe_mem fun i q => q
        obtain ⟨b, st4, e4, hg4⟩ := bnd_ok hg
        refine ⟨m3, G3, st2, env', rs3, re', ?_⟩
        show Post _ _ _ _ _ _ (fc env' st2)
        rw [e4]
        refine post_ok fun m4 G4 H4 x4 rs4 => ?_
        cases b with
        | false =>
          rw [if_neg Bool.false_ne_true] at hg4 ⊢
          obtain ⟨y1, y2, y3⟩ := Ext.under (by intro _ h; cases h) hdN rs2 (x3.trans x4) rs4
          exact ⟨m4, G4, dl H4 p, st4, acc, vs, x2.trans y1, y2, dl_same, y3, repL.mono y1.pre y1.g _ _ racc, hg4⟩
        | true =>
          rw [if_pos rfl] at hg4 ⊢
          obtain ⟨acc5, st5, e5, hg5⟩ := bnd_ok hg4
          obtain ⟨⟨es, deps2⟩, st6, e6, hg6⟩ := bnd_ok e5
          have re4 := re'.ext x4
          refine ⟨m4, G4, st4, env', rs4, re4, ?_⟩
          rw [e6]
          refine post_ok fun m6 G6 H6 x6 rs6 J2 hJ2 => ?_
          dsimp only at hJ2 hg6
          generalize hin' : (fun l acc st => lcGo (depOk st6 deps2) (fun st d env => bindT st t2 d env) (fun env => fc2 env) (fun env acc => addE fe env acc) (wipe env' t2.vars) l acc st) = inner at hg6
          have hin : ∀ l acc st, lcGo (depOk st6 deps2) (fun st d env => bindT st t2 d env) (fun env => fc2 env) (fun env acc => addE fe env acc) (wipe env' t2.vars) l acc st = inner l acc st := fun l acc st => by rw [← hin']
          rw [hin] at hg6
          obtain ⟨y1, y2, y3⟩ := Ext.under (by intro _ h; cases h) hdN rs2 ((x3.trans x4).trans x6) rs6
          have re6 := re4.ext x6
          refine ⟨fun j k H' => k + j = es.length ∧ ∃ m7 G7 Hd7 st7 acc7 vs7, Ext m1 G1 H1 m7 G7 Hd7 ∧ Ext m6 G6 (dl H6 p) m7 G7 Hd7 ∧ RelS (Bo X N) m7 G7 Hd7 st7 ∧ Hd7 p = none ∧ H' = upd Hd7 p (.lst vs7) ∧ repL (Bo X N) m7 G7 acc7 vs7 ∧ inner (es.drop j) acc7 st7 = .ok acc5 st5,
            ⟨es.length, rfl, m6, G6, dl H6 p, st6, acc, vs, x2.trans y1, .refl .., y2, dl_same, y3, repL.mono y1.pre y1.g _ _ racc, by rw [List.drop_zero]; exact hg6⟩, ?_⟩
          rintro j k H' ⟨hk, m7, G7, Hd7, st7, acc7, vs7, x7, z7, rs7, hd7, rfl, racc7, hg7⟩
          have rs7' : RelS (Bo X N) m7 G7 (upd Hd7 p (.lst vs7)) st7 := rs7.loose hd7
          have re7 : RelE (Bo X N) m7 G7 env' σ' := re6.mono z7.pre z7.g
          by_cases hlt2 : j < es.length
          · right
            rw [List.drop_eq_getElem_cons hlt2, ← hin, lcGo] at hg7
            dsimp only at hg7
            split at hg7
            · rename_i hdep2
              obtain ⟨jstop2, jgo2⟩ := hJ2 m7 G7 _ st7 z7.pre z7.g rs7' hdep2
              obtain ⟨go2, yl2⟩ := jgo2 j es[j] (List.getElem?_eq_getElem hlt2)
              cases hb2 : bindT st7 t2 es[j] (wipe env' t2.vars) with
              | none => simp only [hb2] at hg7; cases hg7
              | some env2 =>
                simp only [hb2] at hg7
                refine ⟨go2, fun H' => ∃ m7 G7 Hd7 st7 acc7 vs7, Ext m1 G1 H1 m7 G7 Hd7 ∧ Ext m6 G6 (dl H6 p) m7 G7 Hd7 ∧ RelS (Bo X N) m7 G7 Hd7 st7 ∧ Hd7 p = none ∧ H' = upd Hd7 p (.lst vs7) ∧ repL (Bo X N) m7 G7 acc7 vs7 ∧ inner (es.drop (j + 1)) acc7 st7 = .ok acc5 st5, fun H' hN => ⟨k - 1, by omega, by omega, hN⟩, fun x H8 hy => ?_⟩
                obtain ⟨m8, G8, x8, rs8, hx8⟩ := yl2 x H8 hy
                refine ⟨m8, G8, st7, wipe env' t2.vars, env2, es[j], rs8, (re7.ext x8).wipe t2.vars, hx8, hb2, fun σ2 re2 kp2 => ⟨?_, ?_⟩⟩
                · rw [kp2 t2.vars fun i q => q]; exact wipe_mem fun i q => q
                obtain ⟨b2, st9, e9, hg9⟩ := bnd_ok hg7
                refine ⟨m8, G8, st7, env2, rs8, re2, ?_⟩
                show Post _ _ _ _ _ _ (fc2 env2 st7)
                rw [e9]
                refine post_ok fun m9 G9 H9 x9 rs9 => ?_
                cases b2 with
                | false =>
                  rw [if_neg Bool.false_ne_true] at hg9 ⊢
                  obtain ⟨v1, v2, v3⟩ := Ext.under (by intro _ h; cases h) hd7 rs7 (x8.trans x9) rs9
                  exact ⟨m9, G9, dl H9 p, st9, acc7, vs7, x7.trans v1, z7.trans v1, v2, dl_same, v3, repL.mono v1.pre v1.g _ _ racc7, by rw [← hin]; exact hg9⟩
                | true =>
                  rw [if_pos rfl] at hg9 ⊢
                  obtain ⟨accA, stA, eA, hgA⟩ := bnd_ok hg9
                  obtain ⟨yv, stB, eB, hgB⟩ := bnd_ok eA
                  try dsimp only at hgB
                  split at hgB
                  · rename_i hz
                    cases hgB
                    refine ⟨m9, G9, st9, env2, rs9, re2.ext x9, ?_⟩
                    show Post _ _ _ _ _ _ (fe env2 st9)
                    rw [eB]
                    refine post_ok fun mA GA HA xA rsA v hv => ?_
                    obtain ⟨v1, v2, v3⟩ := Ext.under (by intro _ h; cases h) hd7 rs7 ((x8.trans x9).trans xA) rsA
                    have raccA := repL.mono v1.pre v1.g _ _ racc7
                    refine ⟨vs7, by rw [v3, upd_same], by rw [raccA.length, ← szLine_eq]; exact hz, mA, GA, dl HA p, stA, acc7 ++ [yv], vs7 ++ [v], x7.trans v1, z7.trans v1, v2, dl_same, upd_dl v3, raccA.append (.cons' hv .nil'), by rw [← hin]; exact hgA⟩
                  · cases hgB
            · cases hg7
          · left
            rw [List.drop_eq_nil_of_le (by omega), ← hin, lcGo] at hg7
            dsimp only at hg7
            split at hg7
            · rename_i hdep2
              obtain ⟨jstop2, jgo2⟩ := hJ2 m7 G7 _ st7 z7.pre z7.g rs7' hdep2
              cases hg7
              exact ⟨jstop2 j (by omega), m7, G7, Hd7, _, _, vs7, x7, rs7, hd7, rfl, racc7, by rw [← hou]; exact hg5⟩
            · cases hg7
    · cases hg
  · left
    rw [List.drop_eq_nil_of_le (by omega), ← hou, lcGo] at hg
    dsimp only at hg
    split at hg
    · rename_i hdep
      obtain ⟨jstop, jgo⟩ := hJ m2 G2 _ st2 x2.pre x2.g rs2' hdep
      cases hg
      exact ⟨jstop i (by omega), p2 m2 G2 Hd x2 rs2 p _ hdN (cont_lst racc)⟩
    · cases hg
theorem sn_lc2 (hc : X.calm = true) (hN : X.N.Nodup) (hi : SI X N W u tg iter xi) (ok : BlkOk X.N X.env.scope scope own) (hg : Blk X scope fun X' => TgOk X' N u tg t) (ht : ∀ i ∈ t.vars, i ∈ own.map (·.2)) (ht2 : ∀ i ∈ t2.vars, i ∈ own.map (·.2)) (hif : Blk X scope fun X' => STs X' N W0 ifs fc)
    (hi2 : Blk X scope fun X' => SI X' N W0 u2 tg2 iter2 xi2) (hg2 : Blk X scope fun X' => TgOk X' N u2 tg2 t2) (hif2 : Blk X scope fun X' => STs X' N W0 ifs2 fc2) (he : Blk X scope fun X' => SE X' N W0 elt fe) (hs : ∀ x, foldedSetIterable iter X.env x = pure x) (hs2 : ∀ env x, foldedSetIterable iter2 env x = pure x) :
    SN X N W (.ListComp elt [⟨tg, iter, ifs, 0⟩, ⟨tg2, iter2, ifs2, 0⟩] scope pos) (lc2M xi t fc xi2 t2 fc2 fe (own.map (·.2))) :=
  PE.imp (pe_lc2 hc hN hi ok ht2 (fun s H C cl fp => tgOk_pg (hg s H C cl fp)) hif hi2 (fun s H C cl fp => tgOk_pg (hg2 s H C cl fp)) hif2 he hs hs2) fun σ H Q q => tLc2_of ht q
theorem ss_setLc2 {i : Nat} {y : Str} {py spos : Pos} (hc : X.calm = true) (hN : X.N.Nodup) (hy : X.N[i]? = some y) (hyl : X.env.scope.names.lookup y = some .local) (hsw : swapsWith (.ListComp elt [⟨tg, iter, ifs, 0⟩, ⟨tg2, iter2, ifs2, 0⟩] scope pos) (some (.Name y py)) spos.line X.env = pure true)
    (hi : SI X N W u tg iter xi) (ok : BlkOk X.N X.env.scope scope own) (hg : Blk X scope fun X' => TgOk X' N u tg t) (ht : ∀ i ∈ t.vars, i ∈ own.map (·.2)) (ht2 : ∀ i ∈ t2.vars, i ∈ own.map (·.2)) (hif : Blk X scope fun X' => STs X' N W0 ifs fc)
    (hi2 : Blk X scope fun X' => SI X' N W0 u2 tg2 iter2 xi2) (hg2 : Blk X scope fun X' => TgOk X' N u2 tg2 t2) (hif2 : Blk X scope fun X' => STs X' N W0 ifs2 fc2) (he : Blk X scope fun X' => SE X' N W0 elt fe) (hs : ∀ x, foldedSetIterable iter X.env x = pure x) (hs2 : ∀ env x, foldedSetIterable iter2 env x = pure x) (box : Bool) :
    SS X N W (.Assign [.Name y py] (.ListComp elt [⟨tg, iter, ifs, 0⟩, ⟨tg2, iter2, ifs2, 0⟩] scope pos) spos) (fun env st => vl ((fun env => bnd (lc2M xi t fc xi2 t2 fc2 fe (own.map (·.2)) env) (if box then alloc else ret)) env) env st fun x st1 => match bindT st1 (.v i) x env with
    | some env' => .nx env' st1
    | none => .stk) := by
  refine PS.imp (ps_setLc2 (g := gOf X N u t) (g1 := gOf X N u2 t2) (te := tD (Bo X N) W0 fe) (tt := tDB (Bo X N) W0 fc) (tt1 := tDB (Bo X N) W0 fc2) (wi1 := tI (Bo X N) W0 u2 xi2) hc hN hy hyl hsw hi ok ht2 (fun s H C cl fp => tgOk_pg (hg s H C cl fp)) (fun s H C cl fp => hif s H C cl fp) (fun s H C cl fp => hi2 s H C cl fp) (fun s H C cl fp => tgOk_pg (hg2 s H C cl fp)) (fun s H C cl fp => hif2 s H C cl fp) (fun s H C cl fp => he s H C cl fp) hs hs2) fun E σ H q => ?_
  obtain ⟨m, G, st, env, rs, re, p⟩ := q
  have key : tD (Bo X N) W (fun env => bnd (lc2M xi t fc xi2 t2 fc2 fe (own.map (·.2)) env) (if box then alloc else ret)) σ H (fun x H1 => gName i x σ H1 E.nx) := by
    refine vl_tD rs re p fun d st1 m1 G1 H1 v rs1 re1 x1 hv p1 => ?_
    rw [bindT] at p1
    split at p1
    · rename_i env' h
      split at h
      · cases h; exact p1.nxt rs1 (re1.set i hv)
      · cases h
    · exact p1.elim
  refine tLc2_of ht ?_
  obtain ⟨m2, G2, st2, env2, rs2, re2, p2⟩ := key
  refine ⟨m2, G2, st2, env2, rs2, re2, ?_⟩
  cases box with
  | true => exact Post.lay p2
  | false =>
    rw [if_neg Bool.false_ne_true] at p2
    dsimp only at p2
    rw [bnd_ret] at p2
    exact Post.still p2
end
end Dn
end
section
set_option Elab.async false
set_option linter.all false
set_option maxRecDepth 100000
set_option maxHeartbeats 4000000
/-! Dn40: how calls bind; an exception's __init__. Own work. -/
namespace Dn
open PySem PySem.Spec PyProof.Rows L2

/-- the parameters' names -/
def psOf (p : Arguments) : List Str := p.args.map (·.arg) ++ p.kwonlyargs.map (·.arg)
/-- how a call binds: n values by place, then the named ones, then the defaults -/
def BindsX (K : PySem.W.Frag) (fd : FuncData) (ps : List Str) (n : Nat) (ks : List Str) (ds : List Value) : Prop := ∀ (s : Shared) (us ws : List Value), K.In s.heap → us.length = n → ws.length = ks.length → BindsTo s fd ⟨us, ks.zip ws⟩ (ps.zip (us ++ ws ++ ds))
/-- what the machine's own binding does on such a call: nd defaults, the first j of them not needed -/
def BindK (p : Arguments) (nd n : Nat) (ks : List Str) (j : Nat) : Prop := ∀ (x qual : Str) (body : List Stmt) (scope : Scope) (T : Addr) (kV doc pm : Value) (an : Option Addr) (cdv ct : Value) (us ws its : List Value), us.length = n → ws.length = ks.length → its.length = nd →
  (nd = 0 → bindArgs (PySem.W.fnOf x qual p body scope .none kV doc pm an cdv ct) ⟨us, ks.zip ws⟩ = pure ((psOf p).zip (us ++ ws))) ∧
  (nd ≠ 0 → ∃ k, bindArgs (PySem.W.fnOf x qual p body scope (.ref T) kV doc pm an cdv ct) ⟨us, ks.zip ws⟩ = seqItems? (.ref T) >>= k ∧ k (some its.toArray) = pure ((psOf p).zip (us ++ ws ++ its.drop j)))
section
variable {K : PySem.W.Frag} {x qual : Str} {params : Arguments} {body : List Stmt} {scope : Scope} {dvs : List V} {f : Addr} {fd : FuncData}
theorem BindsX.binds {ps : List Str} {n : Nat} {ds : List Value} (h : BindsX K fd ps n [] ds) (hn : n + ds.length = ps.length) : Binds K fd ps ds := fun s us kin hl => by
  have := h s us [] kin (by rw [List.length_append] at hl; omega) rfl
  simpa using this
theorem bindsX_of (F : FunD K x qual params body scope dvs [] f fd) {n j : Nat} {ks : List Str} (h : BindK params dvs.length n ks j) : ∃ ds, Vals (dvs.drop j) ds ∧ BindsX K fd (psOf params) n ks ds := by
  obtain ⟨oc, od, dV, kV, doc, pm, an, cdv, ct, osl, rfl, lk, hcd, hD, hK⟩ := F.ex
  rcases hD with ⟨rfl, rfl⟩ | ⟨hne, T, o, its, n', rfl, h1, h2, h3⟩
  · refine ⟨[], by rw [List.drop_nil]; exact .nil, fun s us ws kin e1 e2 => ?_⟩
    rw [List.append_nil]
    exact .of_eq ((h x qual body scope 0 kV doc pm an cdv ct us ws [] e1 e2 rfl).1 rfl)
  · refine ⟨its.drop j, h3.drop j, fun s us ws kin e1 e2 => ?_⟩
    obtain ⟨k, q1, q2⟩ := (h x qual body scope T kV doc pm an cdv ct us ws its e1 e2 h3.length.symm).2 (fun z => hne (List.eq_nil_of_length_eq_zero z))
    refine BindsTo.of_looks fun M => ?_
    rw [q1]
    exact looks_items kin h1 h2 (.of_pure q2)
end
/-! ### an exception's __init__ -/
def visB (sc : Scope) (x : Str) : Bool := (match sc.names.lookup x with
  | some .local => true
  | some .cell => true
  | some .free => true
  | _ => false) && !(x == ("__debug__" : Str)) && !(x == ("__classdict__" : Str))
theorem visB_ok {sc : Scope} {x : Str} (h : visB sc x = true) : Vis sc x ∧ (x == ("__debug__" : Str)) = false ∧ (x == ("__classdict__" : Str)) = false := by
  simp only [visB, Bool.and_eq_true, Bool.not_eq_true'] at h
  refine ⟨?_, h.1.2, h.2⟩
  have := h.1.1
  split at this
  · exact .inl (by assumption)
  · exact .inr (.inl (by assumption))
  · exact .inr (.inr (by assumption))
  · cases this
/-- the body lays the fields l -/
def initB (N : List Str) (sc : Scope) : List Stmt → List (Str × Nat) → Bool
  | [], [] => true
  | .Assign [.Attribute (.Name s _) f _] (.Name v _) _ :: r, (g, i) :: l => decide (N[0]? = some s) && decide (f = g) && decide (N[i]? = some v) && visB sc s && visB sc v && initB N sc r l
  | _, _ => false
theorem initB_ok {X : Cx} {N : List Str} (hN : X.N = N) : ∀ {body : List Stmt} {l : List (Str × Nat)}, initB N X.env.scope body l = true → PSs X body (tIn X.K l)
  | [], [], _ => pss_nil
  | [], _ :: _, h => by simp [initB] at h
  | .Assign [.Attribute (.Name s p1) f p2] (.Name v p3) p4 :: r, (g, i) :: l, h => by
    simp only [initB, Bool.and_eq_true, decide_eq_true_eq] at h
    obtain ⟨⟨⟨⟨⟨h1, rfl⟩, h3⟩, h4⟩, h5⟩, h6⟩ := h
    obtain ⟨a1, a2, a3⟩ := visB_ok h4
    obtain ⟨b1, b2, b3⟩ := visB_ok h5
    subst hN
    exact pss_cons (ps_ost (pe_var h1 a1 a2 a3) (pe_var h3 b1 b2 b3) rfl) (initB_ok rfl h6)
  | s :: r, [], h => by unfold initB at h; split at h <;> first | (cases h; done) | (simp at *; done) | skip
theorem start_at {Nn : List Str} {vs : List V} {i : Nat} {v : V} (h : vs[i]? = some v) : (L2.start Nn vs)[i]? = some (some v) := by
  unfold L2.start
  have hi := (List.getElem?_eq_some_iff.mp h).1
  rw [List.getElem?_append_left (by simpa using hi), List.getElem?_map, h]
  rfl
/-- the fields that an exception's __init__ lays: one for each further parameter -/
def chainOf (fs : List Str) : List (Str × Nat) := (List.range fs.length).map fun j => (fs.getD j Str.empty, j + 1)
theorem init_ok {P : Program} {w : World} {K : PySem.W.Frag} {mg : Str → Option Value} {base : Heap} {x qual : Str} {params : Arguments} {body : List Stmt} {scope : Scope} {f : Addr} {fd : FuncData} {Nn ps fs : List Str} {dvs : List V} (k : Nat) (F : FunD K x qual params body scope dvs [] f fd) (S : FnScope Nn ps scope)
    (hps : ps.length = fs.length + 1) (hb : initB Nn scope body (chainOf fs) = true) (hz : 0 < fs.length ∧ fs.length ≤ 800) : FnOk P w K mg base (L2.CX P w) (k + 1) f fd ps (spInit K fs) := by
  refine F.ok S (fun vs H Q E h => ?_) fun cdv A outer s H vs Q E hr h => ?_
  · obtain ⟨a, C, ws, rfl, hl, _⟩ := h
    rw [List.length_cons, hl, hps]
  · refine ⟨tIn K (chainOf fs), initB_ok (X := cxOf (L2.CX P w) P w K mg base Nn qual scope f cdv A outer s H E) rfl hb, ?_⟩
    obtain ⟨a, C, ws, rfl, hl, T, hno, ha, q⟩ := h
    obtain ⟨f0, fs', rfl⟩ : ∃ f0 fs', fs = f0 :: fs' := by cases fs with
      | nil => simp at hz
      | cons a b => exact ⟨a, b, rfl⟩
    obtain ⟨w0, ws', rfl⟩ : ∃ w0 ws', ws = w0 :: ws' := by cases ws with
      | nil => simp at hl
      | cons a b => exact ⟨a, b, rfl⟩
    have e : chainOf (f0 :: fs') = (f0, 1) :: (List.range fs'.length).map fun j => (fs'.getD j Str.empty, j + 2) := by
      unfold chainOf
      rw [List.length_cons, List.range_succ_eq_map, List.map_cons, List.map_map]
      rfl
    rw [e]
    have em : ((List.range fs'.length).map fun j => (fs'.getD j Str.empty, j + 2)).map (·.1) = fs' := by
      rw [List.map_map]
      refine List.ext_getElem (by simp) fun i h1 h2 => ?_
      simp at h1
      simp [h1]
    have hl' : ws'.length = fs'.length := by simpa using hl
    refine tIn_all T (start_at rfl) (l := (List.range fs'.length).map fun j => (fs'.getD j Str.empty, j + 2)) (w := w0) (ws := ws') (by simp [hl']) ⟨hno f0 List.mem_cons_self, start_at rfl⟩ (fun j f i hj => ?_) (by have := hz.2; simp at this ⊢; omega) ha (fun d H2 k1 k2 k3 k4 k5 => ?_)
    · rw [List.getElem?_map] at hj
      cases e2 : (List.range fs'.length)[j]? with
      | none => rw [e2] at hj; cases hj
      | some j' =>
        rw [e2] at hj
        have hj2 := List.getElem?_eq_some_iff.mp e2
        obtain ⟨hj3, hj4⟩ := hj2
        simp at hj3 hj4
        subst hj4
        cases hj
        refine ⟨hno _ (List.mem_cons_of_mem _ ?_), ?_⟩
        · rw [List.getD_eq_getElem?_getD, List.getElem?_eq_getElem hj3]
          exact List.getElem_mem hj3
        · have hj5 : j < ws'.length := by omega
          exact ⟨ws'[j], List.getElem?_eq_getElem hj5, start_at (by simp [hj5])⟩
    · rw [em] at k4
      exact q d H2 k1 k2 k3 k4 k5
end Dn
end
section
set_option Elab.async false
set_option linter.all false
set_option maxRecDepth 100000
set_option maxHeartbeats 4000000
/-! Dn41: dict(pairs), {k: v, ..}. Own work. -/
namespace Dn
open PySem PySem.Spec PyProof.Rows L2

section
variable {B : Wo} {m : List Addr} {G : Hp}
theorem keys_nodup {kvs : List (Key × V)} (h : (kvs.map fun p => keyD p.1).Nodup) : (kvs.map (·.1)).Nodup := by
  have e : (kvs.map fun p => keyD p.1) = (kvs.map (·.1)).map keyD := by rw [List.map_map]; rfl
  rw [e] at h
  exact (List.pairwise_map.mp h).imp fun h e => h (congrArg keyD e)
theorem dputK_nodup {ks : List D} {x : D} (h : ks.Nodup) : (dputK ks x).Nodup := by
  unfold dputK
  split
  · exact h
  · rename_i n
    rw [List.nodup_append]
    exact ⟨h, by simp, fun a ha b hb => by have : b = x := by simpa using hb
                                           subst this; exact fun e => n (e ▸ ha)⟩
/-- the pairs laid one behind another -/
theorem dfrom_rep : ∀ (pv : List (Key × V)) {vs : List D} {acc : List (Key × V)} {av : List D}, repL B m G vs (pv.map (·.2)) → repL B m G av (acc.map (·.2)) → (acc.map fun p => keyD p.1).Nodup →
    (dfrom (pv.map fun p => keyD p.1) vs (acc.map fun p => keyD p.1) av).1 = (mergeK acc pv).map (fun p => keyD p.1) ∧ repL B m G (dfrom (pv.map fun p => keyD p.1) vs (acc.map fun p => keyD p.1) av).2 ((mergeK acc pv).map (·.2))
  | [], [], acc, av, r, ra, nd => ⟨rfl, ra⟩
  | [], v :: vs, acc, av, r, ra, nd => by rw [List.map_nil, repL] at r; obtain ⟨_, _, e, _⟩ := r; cases e
  | p :: pv, [], acc, av, r, ra, nd => by rw [List.map_cons, repL] at r; cases r
  | p :: pv, v :: vs, acc, av, r, ra, nd => by
    rw [List.map_cons, repL] at r
    obtain ⟨w, ws, e, r1, r2⟩ := r
    injection e with e1 e2
    subst e1 e2
    obtain ⟨q1, q2⟩ := dput_val (k := p.1) r1 ra (keys_nodup nd)
    rw [List.map_cons, dfrom]
    rw [← q1]
    exact dfrom_rep pv r2 q2 (by rw [q1]; exact dputK_nodup nd)
end
section
variable {X : Cx} {N : Nms} {pins : List (Addr × Obj)} {σ : L2.St} {s : Shared} {m : List Addr} {G H : Hp} {st : Store}
theorem key1_keyD {d : D} (h : d.key1 = true) : ∃ k, d = keyD k := by
  cases d <;> first | (cases h; done) | skip
  · exact ⟨.inl _, rfl⟩
  · exact ⟨.inr _, rfl⟩
theorem TupAt.plain {a : Addr} {xs : List V} (h : TupAt X.K H a xs) (I : Inv X pins σ H s) : ∃ o, s.heap.get? a = some o ∧ o.cls = .type "tuple" ∧ o.dict = none := by
  rcases h with ⟨o, h, c⟩ | ⟨o, its, n, h, c1, c2, _⟩
  · exact ⟨o, (show ObjOk X.prog X.w H s.heap a (.frz o (.tup xs)) from I.hok a _ h).1, c⟩
  · exact ⟨o, I.kIn a o h, c1, c2⟩
/-- the pairs as they lie in the machine -/
theorem pairs_lie (I : Inv X pins σ H s) (r : RelS (Bo X N) m G H st) : ∀ {ds ks vs : List D} {ws : List V} {us : List Value}, pairs ds = some (ks, vs) → ks.all D.key1 = true → repL (Bo X N) m G ds ws → Vals ws us →
    ∃ (pv : List (Key × V)) (prs : List (Key × Value)) (ps : List (Value × Value)) (ts : List Addr), ks = pv.map (fun p => keyD p.1) ∧ repL (Bo X N) m G vs (pv.map (·.2)) ∧ KV pv prs ∧ us = ts.map Value.ref ∧ ps.length = ts.length ∧ prs.length = ts.length ∧
      (∀ (j : Nat) (k v : Value), ps[j]? = some (k, v) → ∃ t, ts[j]? = some t ∧ s.heap.IsTuple t #[k, v]) ∧ ∀ (j : Nat) (k v : Value), ps[j]? = some (k, v) → ∃ q, prs[j]? = some (q, v) ∧ keyIs q k = true
  | [], ks, vs, ws, us, e, hk, rl, rv => by
    cases e
    rw [repL] at rl; subst rl
    cases rv
    exact ⟨[], [], [], [], rfl, .nil', .nil, rfl, rfl, rfl, (fun j k v h => by simp at h), fun j k v h => by simp at h⟩
  | d :: ds, ks, vs, ws, us, e, hk, rl, rv => by
    unfold pairs at e
    split at e
    · rename_i z; cases z
    · rename_i k v r' z
      cases z
      split at e
      · obtain ⟨⟨ks', vs'⟩, e1, e2⟩ := Option.map_eq_some_iff.mp e
        cases e2
        rw [List.all_cons, Bool.and_eq_true] at hk
        rw [repL] at rl
        obtain ⟨w, ws', rfl, r1, r2⟩ := rl
        rw [repV] at r1
        obtain ⟨a, xs, rfl, ta, rx⟩ := r1
        obtain ⟨w1, w2, rfl, q1, q2⟩ := rep2 rx
        cases rv with
        | cons ru rv =>
        cases ru
        obtain ⟨its, rits, tup, _⟩ := I.tuple (ta.sub r.sub).seq
        obtain ⟨u1, u2, rfl, ru1, ru2⟩ := vals2 rits
        obtain ⟨key, rfl⟩ := key1_keyD hk.1
        have ek := rep_keyD q1
        subst ek
        obtain ⟨pv, prs, ps, ts, h1, h2, h3, h4, h5, h6, h7, h8⟩ := pairs_lie I r e1 hk.2 r2 rv
        subst h4
        refine ⟨(key, w2) :: pv, (key, u2) :: prs, (u1, u2) :: ps, a :: ts, by rw [h1]; rfl, .cons' q2 h2, .cons ⟨rfl, ru2⟩ h3, rfl, by simp [h5], by simp [h6], fun j k v h => ?_, fun j k v h => ?_⟩
        · cases j with
          | zero => cases h; exact ⟨a, rfl, tup⟩
          | succ j => exact h7 j k v (by simpa using h)
        · cases j with
          | zero => cases h; exact ⟨key, rfl, kV_is (P := X.prog) (w := X.w) ru1⟩
          | succ j => exact h8 j k v (by simpa using h)
      · cases e
    · cases e
/-- dict(xs): of pairs with scalar keys -/
theorem dict_pairs (hc : X.calm = true) {d : D} {v : V} {u : Value} {ds ks vs : List D} {z : D} {Q : VK} (I : Inv X pins σ H s) (r : RelS (Bo X N) m G H st) (hv : repV (Bo X N) m G d v) (rv : RelV v u) (hd : cellOf st d = .tup ds ∨ cellOf st d = .lst ds) (hp : pairs ds = some (ks, vs)) (hk : ks.all D.key1 = true) (hm : dmk (ks, vs) = some z)
    (q : ∀ p o, H p = none → Cont (Bo X N) m G p o z → Q (.ref p) (upd H p o)) : wpAny (model X.prog X.w) X.A (PySem.call (.type "dict") [u]) (EP X pins σ Q) X.xe s := by
  obtain ⟨_, hz⟩ := if_some hm
  -- what comes out of the machine's own walk
  have out : ∀ (pv : List (Key × V)) (prs : List (Key × Value)) (n : Nat), n ≤ sizeLine → prs.length = n → ks = pv.map (fun p => keyD p.1) → repL (Bo X N) m G vs (pv.map (·.2)) → KV pv prs → ∀ h' tk, h'.DictOf (mixKind X.prog X.w) s.heap.objs.size (merged [] prs) → (∀ b o, b ∉ ([] : List Addr) → s.heap.get? b = some o → h'.get? b = some o) →
      EP X pins σ Q (.ref s.heap.objs.size) { s with heap := h', toks := tk } := by
    intro pv prs n hn hl e1 e2 e3 h' tk hd' keep
    have hsys : (s.heap.objs.size == sysModules) = false := beq_eq_false_iff_ne.mpr (Nat.ne_of_gt I.big)
    have hlen : (mergeK [] pv).length ≤ sizeLine := by
      refine Nat.le_trans (length_mergeK pv []) ?_
      rw [List.length_nil, Nat.zero_add, e3.length, hl]
      exact hn
    obtain ⟨f1, f2⟩ := dfrom_rep (B := Bo X N) (m := m) (G := G) pv (acc := []) (av := []) e2 .nil' (by simp)
    refine ⟨.ref s.heap.objs.size, _, I.laid (t' := tk) (fun b o e => keep b o (by simp) e) (Nat.le_refl _) (show ObjOk X.prog X.w _ _ _ (.dK (mergeK [] pv)) from ⟨hlen, hsys, merged [] prs, KV.merge e3 .nil, hd'⟩), rfl, q _ _ (I.hok.fresh (Nat.le_refl _)) ?_⟩
    subst hz
    intro H' e
    refine .inl ⟨_, e, ?_, ?_⟩
    · rw [e1]; exact f1
    · rw [e1]; exact f2
  rcases hd with hd | hd
  · obtain ⟨a, ws, rfl, ta, rl⟩ := tup_at r hv hd
    cases rv
    obtain ⟨its, rits, tup, hsz⟩ := I.tuple ta.seq
    obtain ⟨pv, prs, ps, ts, h1, h2, h3, h4, h5, h6, h7, h8⟩ := pairs_lie I r hp hk rl rits
    subst h4
    have pl : PlainSeq "tuple" s.heap a (ts.map Value.ref).toArray := by
      obtain ⟨o, g1, g2, g3⟩ := ta.plain I
      obtain ⟨o', e1, e2, n', e3⟩ := tup
      rw [g1] at e1; cases e1
      exact ⟨o, n', g1, g2, g3, e3⟩
    have hts : ts.length ≤ sizeLine := by have := rits.length; simp at this; omega
    refine PySem.call_dict_pairs (n := ps.length) (knd := mixKind X.prog X.w) (PySem.PairArg.tuple a _ (fun j => ts.getD j 0) ps) (I.ok.hd hc) ⟨pl, by simp [h5], fun j k v h => ?_⟩ ⟨by omega, fun i k v h => ?_⟩ (by omega) (out pv prs ps.length (by omega) (by omega) h1 h2 h3)
    · obtain ⟨t, e1, e2⟩ := h7 j k v h
      refine ⟨?_, .inl ?_⟩
      · simp [List.getD_eq_getElem?_getD, e1]
      · simpa [List.getD_eq_getElem?_getD, e1] using e2
    · exact h8 i k v h
  · obtain ⟨a, ws, rfl, ta, rl⟩ := list_at r hv hd
    cases rv
    obtain ⟨its, rits, pl, hsz⟩ := I.list ta
    obtain ⟨pv, prs, ps, ts, h1, h2, h3, h4, h5, h6, h7, h8⟩ := pairs_lie I r hp hk rl rits
    subst h4
    have hts : ts.length ≤ sizeLine := by have := rits.length; simp at this; omega
    refine PySem.call_dict_pairs (n := ps.length) (knd := mixKind X.prog X.w) (PySem.PairArg.list a _ (fun j => ts.getD j 0) ps) (I.ok.hd hc) ⟨pl, by simp [h5], fun j k v h => ?_⟩ ⟨by omega, fun i k v h => ?_⟩ (by omega) (out pv prs ps.length (by omega) (by omega) h1 h2 h3)
    · obtain ⟨t, e1, e2⟩ := h7 j k v h
      refine ⟨?_, .inl ?_⟩
      · simp [List.getD_eq_getElem?_getD, e1]
      · simpa [List.getD_eq_getElem?_getD, e1] using e2
    · exact h8 i k v h
end
/-! ### displays -/
def kvF : List (V × V) → List V
  | [] => []
  | p :: ps => p.1 :: p.2 :: kvF ps
/-- the pairs of a display by values: told as one row, key, value, key, value -/
structure SP (X : Cx) (N : Nms) (W : WX) (pos : Pos) (keys : List (Option Expr)) (values : List Expr) (x : Env → M (List D)) : Prop where
  run : ∀ (pins : List (Addr × Obj)) (s : Shared) (σ : L2.St) (H : Hp) (Q : List (V × V) → Hp → Prop), Inv X pins σ H s → (∃ m G st env, RelS (Bo X N) m G H st ∧ RelE (Bo X N) m G env σ ∧
    Post (Bo X N) m G H (wx W σ) (fun ds _ m' G' H' => ∀ ps, repL (Bo X N) m' G' ds (kvF ps) → Q ps H') (x env st)) →
    wpAny (model X.prog X.w) X.A (evalPairs (pairTrees keys values X.env pos)) (fun vs s' => ∃ ps H', Inv X pins σ H' s' ∧ VV ps vs ∧ Q ps H') X.xe s
section
variable {X : Cx} {N : Nms} {W : WX} {pos : Pos} {k v : Expr} {ks : List (Option Expr)} {vs : List Expr} {xk xv : Env → M D} {xs : Env → M (List D)}
theorem sp_nil : SP X N W pos [] [] (fun _ => ret []) := ⟨fun pins s σ H Q I h => by
  obtain ⟨m, G, st, env, rs, re, p⟩ := h
  exact pairTrees_nil_walk ⟨[], H, I, .nil, Post.here rs p [] .nil'⟩⟩
theorem sp_cons (hk : SE X N W k xk) (hv : SE X N W v xv) (hr : SP X N W pos ks vs xs) : SP X N W pos (some k :: ks) (v :: vs) (fun env => bnd (xk env) fun a => bnd (bnd (xv env) fun b => bnd (xs env) fun r => ret (b :: r)) fun r => ret (a :: r)) := by
  refine ⟨fun pins s σ H Q I h => ?_⟩
  obtain ⟨m, G, st, env, rs, re, p⟩ := h
  refine pairTrees_cons_walk (thn (hk.run pins s σ H (fun x H1 => ∃ m1 G1 st1 a, RelS (Bo X N) m1 G1 H1 st1 ∧ RelE (Bo X N) m1 G1 env σ ∧ repV (Bo X N) m1 G1 a x ∧ Post (Bo X N) m1 G1 H1 (wx W σ) (fun ds _ m' G' H' => ∀ ps, repL (Bo X N) m' G' ds (kvF ps) → Q ps H') (bnd (bnd (xv env) fun b => bnd (xs env) fun r => ret (b :: r)) (fun r => ret (a :: r)) st1)) I ?_)
    fun u s1 ⟨x, H1, I1, rx, m1, G1, st1, a, rs1, re1, ha, p1⟩ => thn (hv.run pins s1 σ H1 (fun y H2 => ∃ m2 G2 st2 b, RelS (Bo X N) m2 G2 H2 st2 ∧ RelE (Bo X N) m2 G2 env σ ∧ repV (Bo X N) m2 G2 a x ∧ repV (Bo X N) m2 G2 b y ∧ Post (Bo X N) m2 G2 H2 (wx W σ) (fun ds _ m' G' H' => ∀ ps, repL (Bo X N) m' G' ds (kvF ps) → Q ps H') (bnd (xs env) (fun r => ret (a :: b :: r)) st2)) I1 ?_)
    fun w2 s2 ⟨y, H2, I2, ry, m2, G2, st2, b, rs2, re2, ha2, hb, p2⟩ => thn (hr.run pins s2 σ H2 (fun ps H3 => Q ((x, y) :: ps) H3) I2 ?_) fun ws s3 ⟨ps, H3, I3, rel, q3⟩ => ⟨(x, y) :: ps, H3, I3, .cons ⟨rx, ry⟩ rel, q3⟩)
  · exact to_tD rs re p fun d st1 m1 G1 H1 v rs1 re1 x1 hv p1 => ⟨m1, G1, st1, d, rs1, re1, hv, p1⟩
  · rw [bnd_assoc] at p1
    refine to_tD rs1 re1 p1 fun d st2 m2 G2 H2 v rs2 re2 x2 hv p2 => ⟨m2, G2, st2, d, rs2, re2, ha.mono x2.pre x2.g, hv, ?_⟩
    rw [bnd_assoc] at p2
    exact p2
  · refine ⟨m2, G2, st2, env, rs2, re2, (Post.bnd p2).mono fun ds st3 m3 G3 H3 x3 rs3 p3 ps hps => ?_⟩
    exact Post.here rs3 p3 ((x, y) :: ps) (.cons' (ha2.mono x3.pre x3.g) (.cons' (hb.mono x3.pre x3.g) hps))
theorem kvs_rep {B : Wo} {m : List Addr} {G : Hp} : ∀ {ds ks vs : List D} {ps : List (V × V)}, kvsOf ds = some (ks, vs) → ks.all D.key1 = true → repL B m G ds (kvF ps) → ∃ kvs : List (Key × V), ps = kvs.map (fun kv => (kV kv.1, kv.2)) ∧ ks = kvs.map (fun p => keyD p.1) ∧ repL B m G vs (kvs.map (·.2)) ∧ kvs.length = ks.length
  | [], ks, vs, ps, e, hk, r => by
    cases e
    rw [repL] at r
    cases ps with
    | nil => exact ⟨[], rfl, rfl, .nil', rfl⟩
    | cons p ps => cases r
  | [_], ks, vs, ps, e, hk, r => by simp [kvsOf] at e
  | k :: v :: ds, ks, vs, ps, e, hk, r => by
    simp only [kvsOf] at e
    split at e
    · obtain ⟨⟨ks', vs'⟩, e1, e2⟩ := Option.map_eq_some_iff.mp e
      cases e2
      rw [List.all_cons, Bool.and_eq_true] at hk
      cases ps with
      | nil => rw [repL] at r; obtain ⟨_, _, z, _⟩ := r; cases z
      | cons p ps =>
        rw [repL] at r
        obtain ⟨a, as, z, r1, r⟩ := r
        rw [repL] at r
        obtain ⟨b, bs, z2, r2, r⟩ := r
        cases z
        cases z2
        obtain ⟨kvs, rfl, rfl, h3, h4⟩ := kvs_rep e1 hk.2 r
        obtain ⟨key, rfl⟩ := key1_keyD hk.1
        have ek := rep_keyD r1
        exact ⟨(key, p.2) :: kvs, by rw [List.map_cons, ← ek], rfl, .cons' r2 h3, by simp⟩
    · cases e
/-- {k: v, ..}, scalar keys -/
theorem sn_disp (h : SP X N W pos (some k :: ks) (v :: vs) xs) (hall : (some k :: ks).all (·.isSome) = true) (hl : (some k :: ks).length = (v :: vs).length) (h15 : (some k :: ks).length ≤ 15)
    (hx : ∀ env st ys st', xs env st = .ok ys st' → ∀ p, kvsOf ys = some p → p.1.all D.key1 = true ∧ p.1.length ≤ 15) : SN X N W (.Dict (some k :: ks) (v :: vs) pos) (fun env => bnd (xs env) fun ys => opt ((kvsOf ys).bind dmk)) := by
  refine ⟨fun pins s σ H Q I q => ?_⟩
  obtain ⟨m, G, st, env, rs, re, p⟩ := q
  have hn := I.hok.fresh (Nat.le_refl s.heap.objs.size)
  have I1 := I.laid (a := s.heap.objs.size) (o := .dK []) (h' := s.heap.push { cls := .type "dict", data := .dict #[] }) (t' := s.toks) (fun _ _ q => Heap.get?_push_of_some _ q) (Nat.le_refl _) (dk_empty s.heap I.big)
  generalize hp : s.heap.objs.size = a at hn I1
  have rs1 : RelS (Bo X N) m G (upd H a (.dK [])) st := rs.loose hn
  refine wpAny_Dict_walk (knd := mixKind X.prog X.w) hall hl (List.cons_ne_nil _ _) h15 (thn (h.run pins _ σ _ (fun ps H2 => H2 a = some (.dK []) ∧ ∃ kvs : List (Key × V), ps = kvs.map (fun kv => (kV kv.1, kv.2)) ∧ kvs.length ≤ 15 ∧ Q (.ref a) (upd H2 a (.dK (mergeK [] kvs)))) I1 ⟨m, G, st, env, rs1, re, ?_⟩) fun ws s2 ⟨ps, H2, I2, rel, e, kvs, ep, lk, q2⟩ => ?_)
  · cases e : xs env st with
    | ok ds st2 =>
      have p := Post.bnd p
      rw [e] at p
      refine post_ok fun m2 G2 H2 x2 rs2 ps hps => ?_
      obtain ⟨y1, y2, y3⟩ := Ext.under (by intro _ z; cases z) hn rs x2 rs2
      have p2 := p m2 G2 _ y1 y2
      dsimp only at p2
      cases ek : kvsOf ds with
      | none => rw [ek] at p2; exact p2.elim
      | some kv =>
        obtain ⟨kk, vv⟩ := kv
        obtain ⟨a1, a2⟩ := hx env st ds st2 e _ ek
        rw [ek] at p2
        obtain ⟨kvs, rfl, rfl, h3, h4⟩ := kvs_rep ek a1 hps
        have hz : dmk (kvs.map (fun p => keyD p.1), vv) = some (let q := dfrom (kvs.map fun p => keyD p.1) vv [] []; .dic q.1 q.2) ∨ dmk (kvs.map (fun p => keyD p.1), vv) = none := by
          unfold dmk; split
          · exact .inl rfl
          · exact .inr rfl
        rcases hz with hz | hz
        · rw [Option.bind_some, hz] at p2
          refine ⟨by rw [y3, upd_same], kvs, rfl, by rw [h4]; exact a2, ?_⟩
          have q3 := Post.here y2 p2 a (.dK (mergeK [] kvs)) dl_same (by
            obtain ⟨f1, f2⟩ := dfrom_rep (B := Bo X N) (m := m2) (G := G2) kvs (acc := []) (av := []) h3 .nil' (by simp)
            exact fun H' e => .inl ⟨_, e, f1, f2⟩)
          rw [upd_dl y3]
          exact q3
        · rw [Option.bind_some, hz] at p2; exact p2.elim
    | exc c vs0 st2 =>
      have p := Post.bnd p
      rw [e] at p
      exact fun m' G' H' dx fvs x2 rs2 h1 h2 => p m' G' H' dx fvs ((Ext.loose rs hn).trans x2) rs2 h1 h2
    | stk => have p := Post.bnd p; rw [e] at p; exact p.elim
  · subst ep hp
    obtain ⟨rs', c, rk⟩ := carries_of (P := X.prog) (w := X.w) rel
    obtain ⟨z, hd, vs0, r0, dd⟩ := dk_of I2.hok e
    cases r0
    refine ⟨rs', c, dd, fun h' dd' hs => ⟨.ref s.heap.objs.size, _, ?_, rfl, q2⟩⟩
    have hz : (mergeK [] kvs).length ≤ sizeLine := by
      have := length_mergeK kvs []
      rw [List.length_nil] at this
      rw [sizeLine_eq]; omega
    have he : ∃ q, h'.get? s.heap.objs.size = some q := let ⟨q, _, _, hq, _⟩ := dd'; ⟨q, hq⟩
    exact d_write I2 (by rw [e]; trivial) hs he (dk_new hz hd (rk.merge .nil) dd')
end
section
variable {X : Cx} {N : Nms}
theorem cr_dictD (hc : X.calm = true) : CallR X (.type "dict") (rNA (Bo X N) (bltM .dict)) := by
  intro pins s σ H xs us Q I rs q
  obtain ⟨m, G, st, ds, y, r, rl, e, q2⟩ := rNA_open q
  match ds, rl, e with
  | [d], rl, e =>
    obtain ⟨v, rfl, hv⟩ := rep1 rl
    obtain ⟨u, rfl, ru⟩ := vals1 rs
    unfold blt at e
    dsimp only at e
    split at e
    · rename_i ks vs hd
      obtain ⟨hk, rfl⟩ := if_some e
      exact dict_copy I r hv ru hd hk q2
    · rename_i ds hd
      obtain ⟨⟨ks, vs⟩, e1, e2⟩ := Option.bind_eq_some_iff.mp e
      split at e2
      · rename_i hk
        exact dict_pairs hc I r hv ru (.inl hd) e1 hk e2 q2
      · cases e2
    · rename_i ds hd
      obtain ⟨⟨ks, vs⟩, e1, e2⟩ := Option.bind_eq_some_iff.mp e
      split at e2
      · rename_i hk
        exact dict_pairs hc I r hv ru (.inr hd) e1 hk e2 q2
      · cases e2
    · cases e
  | [], _, e => simp [blt] at e
  | _ :: _ :: _, _, e => simp [blt] at e
end
end Dn
end
section
set_option Elab.async false
set_option linter.all false
set_option maxRecDepth 100000
set_option maxHeartbeats 4000000
/-! Dn42: the static side: names, defs, what is read off the machine, contexts. Own work. -/
namespace Dn
open PySem PySem.Spec PyProof.Rows L2

/-- a def of the text -/
structure DefS where
  at_ : Str × Option Str
  name : Str
  qual : Str
  params : Arguments
  body : List Stmt
  scope : Scope
  N : List Str
structure Sd where
  T : Tb
  fuel : Nat
  fld : List Str
  fnn : List (Str × Option Str)
  cls : List Str
  glb : List Str
  defs : List (Nat × DefS)
  ini : List (Nat × DefS)
  shapes : List (Nat × Nat × List Str × Nat)
  free : List Str
  tys : List Ty
  hnd : List Nat
def fldName (l : List Str) (i : Nat) : Str := match l[i]? with
  | some x => x
  | none => ⟨#[1114112 + i]⟩
def Sd.nms (S : Sd) : Nms where
  fn f := (S.fnn[f]?).getD (Str.empty, none)
  cls c := (S.cls[c]?).getD Str.empty
  fld := fldName S.fld
  ef c := match S.T.cls[c]? with
    | some e => e.flds
    | none => []
  ex := none
abbrev DefS.ps (d : DefS) : List Str := psOf d.params
def fldsOk (l : List Str) : Bool := decide l.Nodup && l.all fun x => x.cps.toList.all (· < 1114112)
theorem fld_inj {l : List Str} (h : fldsOk l = true) : ∀ i j, fldName l i = fldName l j → i = j := by
  rw [fldsOk, Bool.and_eq_true] at h
  have hn := of_decide_eq_true h.1
  have ha := List.all_eq_true.mp h.2
  have far : ∀ (x : Str) (i : Nat), x ∈ l → x ≠ ⟨#[1114112 + i]⟩ := fun x i hx e => by
    have := ha x hx
    subst e
    simp at this
    omega
  intro i j e
  unfold fldName at e
  cases hi : l[i]? with
  | none =>
    cases hj : l[j]? with
    | none => rw [hi, hj] at e; simp at e; exact e
    | some y => rw [hi, hj] at e; exact absurd e.symm (far y i (List.mem_of_getElem? hj))
  | some x =>
    cases hj : l[j]? with
    | none => rw [hi, hj] at e; exact absurd e (far x j (List.mem_of_getElem? hi))
    | some y =>
      rw [hi, hj] at e
      have e : x = y := e
      subst e
      obtain ⟨h1, h2⟩ := List.getElem?_eq_some_iff.mp hi
      obtain ⟨h3, h4⟩ := List.getElem?_eq_some_iff.mp hj
      exact nd_ix hn hi hj

/-- calls of a def as the text has them -/
structure CallFx (S : Sd) (K : PySem.W.Frag) (B : Wo) (f : Nat) (fe : FnE) (fd : FuncData) (ps : List Str) : Prop where
  np : fe.np = ps.length
  sh : ∀ n ks j, (f, n, ks, j) ∈ S.shapes → ∃ dvs ds, Vals dvs ds ∧ (∀ m G, repL B m G (fe.dfl.drop j) dvs) ∧ BindsX K fd ps n ks ds
/-- what is read off the machine, and what the defs promise at level n -/
structure Mx (S : Sd) (n : Nat) (P : Program) (w : World) (K : PySem.W.Frag) (mg : Str → Option Value) (base : Heap) : Prop where
  inj : ∀ i j, S.nms.fld i = S.nms.fld j → i = j
  free : ∀ x ∈ S.free, mg x = none
  fn : ∀ (f : Nat) (d : DefS), S.defs.lookup f = some d → ∃ fd fe, S.T.fns[f]? = some fe ∧ FnG P w K mg base (2 * n + 2) (He.fAd K d.at_) fd d.ps (SpN ⟨P, w, K, S.nms⟩ (run S.T S.fuel n f) d.ps.length) ∧ PySem.W.keepIn K (.ref (He.fAd K d.at_)) = true ∧ S.nms.fn f = d.at_ ∧
    (d.at_.2 = none → mg d.at_.1 = some (.ref (He.fAd K d.at_))) ∧ CallFx S K ⟨P, w, K, S.nms⟩ f fe fd d.ps
  cls : ∀ (c : Nat) (x : Str), S.cls[c]? = some x → mg x = some (.ref (He.ga K x))
  mke : ∀ (c : Nat) (e : ClE) (fi : Nat), S.T.cls[c]? = some e → e.init = some fi → ∃ d, S.defs.lookup fi = some d ∧ Mk K (He.ga K (S.nms.cls c)) (He.fAd K d.at_)
  fldx : FldFx K S.nms S.T
  xld : XldFx K S.nms S.T
  clsx : ClsFx ⟨P, w, K, S.nms⟩ S.T
  isi : ∀ t ∈ S.tys, IsiFx ⟨P, w, K, S.nms⟩ S.T t
  exm : ∀ c ∈ S.hnd, ∀ (c' : Nat) (e : ClE), S.T.cls[c']? = some e → e.err = true → PySem.W.exmOne K (.ref (He.ga K (S.nms.cls c'))) (.ref (He.ga K (S.nms.cls c))) = some (isUp S.T c' c)
  len : ∀ (c : Nat) (e : ClE) (fi : Nat), S.T.cls[c]? = some e → e.len = some fi → PySem.W.findIn K (.ref (He.ga K (S.nms.cls c))) "__len__" = some (some (.ref (He.fAd K (S.nms.fn fi)))) ∧ PySem.W.isFn K (.ref (He.fAd K (S.nms.fn fi))) = true ∧ (∃ d, S.defs.lookup fi = some d ∧ d.ps.length = 1) ∧ (fi, 1, [], 0) ∈ S.shapes
  eq : ∀ (c : Nat) (e : ClE) (fi : Nat), S.T.cls[c]? = some e → e.eq = some fi → PySem.W.findIn K (.ref (He.ga K (S.nms.cls c))) "__eq__" = some (some (.ref (He.fAd K (S.nms.fn fi)))) ∧ PySem.W.isFn K (.ref (He.fAd K (S.nms.fn fi))) = true ∧ (∃ d, S.defs.lookup fi = some d ∧ d.ps.length = 2) ∧ (fi, 2, [], 0) ∈ S.shapes
  mth : ∀ (c : Nat) (e : ClE) (mi fi : Nat), S.T.cls[c]? = some e → e.meths.lookup mi = some fi → Cls K (He.ga K (S.nms.cls c)) ∧ Meth K (He.ga K (S.nms.cls c)) (S.nms.fld mi) (He.fAd K (S.nms.fn fi)) ∧ ∃ d, S.defs.lookup fi = some d
  exc : ∀ (c : Nat) (e : ClE) (d : DefS), S.T.cls[c]? = some e → S.ini.lookup c = some d → ∃ fd fs, OexC K (He.ga K (S.nms.cls c)) ∧ (∀ f ∈ fs, PySem.W.findIn K (.ref (He.ga K (S.nms.cls c))) f = some none) ∧ PySem.W.findIn K (.ref (He.ga K (S.nms.cls c))) "__init__" = some (some (.ref (He.fAd K d.at_))) ∧
    PySem.W.typeIn K (.ref (He.fAd K d.at_)) = some (.type "function") ∧ FnOk P w K mg base (L2.CX P w) 1 (He.fAd K d.at_) fd d.ps (spInit K fs) ∧ Binds K fd d.ps [] ∧ e.flds.map S.nms.fld = fs.reverse ∧ fs.length ≤ 900
  glb : ∀ (i : Nat) (d : D) (x : Str), S.T.glb[i]? = some d → S.glb[i]? = some x → ∃ u v, mg x = some u ∧ RelV v u ∧ ∀ m G, repV ⟨P, w, K, S.nms⟩ m G d v

/-! ### contexts -/
structure Cs where
  N : List Str
  sc0 : Scope
  sc : Scope
  hot : Bool
  top : Bool
def Cs.blk (c : Cs) (scope : Scope) : Cs := { N := c.N, sc0 := scope, sc := relS scope c.sc, hot := false, top := false }
/-- the context X stands as c says -/
structure Gd (S : Sd) (n : Nat) (X : Cx) (N : Nms) (W : WX) (c : Cs) : Prop where
  mx : Mx S n X.prog X.w X.K X.mg X.base
  nm : ∃ o, N = S.nms.hot o
  nm0 : c.hot = false → N = S.nms
  N_ : X.N = c.N
  sc : X.env.scope = c.sc
  nd : X.N.Nodup
  fn : ∀ x, Loc c.sc0 x → Loc X.env.scope x ∧ (X.fn x = true ∨ X.env.scope.names.lookup x = some .local)
  kind : X.env.scope.kind = .function
  room : c.hot = false → Room (2 * n + 3) X.A
  calm : c.hot = false → X.calm = true
  un : X.A.units + 200 < cLine
  grd : X.A.guards = some []
  tk : Takes X W
  pass : PassesOwn (model X.prog X.w) X.A X.env X.xe
  ex : ExPin X N
  stk : c.top = true → X.stack = X.env :: X.outer ∧ X.env.frame = some X.env.locals
  hotx : c.hot = true → ∃ X0 x0 oe cid dx pn, X = Cx.suite X0 x0 ((x0, oe) :: pn) ∧ Zc (.ref (He.ga X.K (N.cls cid))) (some dx) oe ∧ (∃ vs, oe.data = .fields vs) ∧ N.ex = some (x0, cid, dx)
theorem relS_own {scope sc : Scope} {x : Str} {k : NameKind} (h : scope.names.lookup x = some k) (hk : k ≠ .free) : (relS scope sc).names.lookup x = some k := by
  unfold relS
  dsimp only
  generalize scope.names = l at h
  induction l with
  | nil => cases h
  | cons p l ih =>
    obtain ⟨y, q⟩ := p
    rw [List.map_cons]
    dsimp only
    by_cases e : (x == y) = true
    · rw [List.lookup_cons, e] at h
      cases h
      have : (k == NameKind.free) = false := by simpa using hk
      rw [this, Bool.false_and, Bool.false_and, if_neg (by decide), List.lookup_cons, e]
    · have e : (x == y) = false := by simpa using e
      rw [List.lookup_cons, e] at h
      split
      · rw [List.lookup_cons, e]; exact ih h
      · rw [List.lookup_cons, e]; exact ih h
section
variable {S : Sd} {n : Nat} {X : Cx} {N : Nms} {W : WX} {c : Cs}
theorem Gd.blk (g : Gd S n X N W c) (h : c.hot = false) (scope : Scope) (hk : scope.kind = .function) : Blk X scope fun X' => Gd S n X' N W0 (c.blk scope) := fun s H C cl fp => {
  mx := g.mx
  nm := g.nm
  nm0 := fun _ => g.nm0 h
  N_ := g.N_
  sc := by
    have := g.sc
    show relS scope X.env.scope = relS scope c.sc
    rw [this]
  nd := g.nd
  fn := fun x hx => by
    have hx : scope.names.lookup x = some .local ∨ scope.names.lookup x = some .cell := hx
    rcases hx with hx | hx
    · exact ⟨.inl (relS_own hx (by decide)), .inr (relS_own hx (by decide))⟩
    · exact ⟨.inr (relS_own hx (by decide)), .inl (by show (scope.names.lookup x == some .cell) = true; rw [hx]; rfl)⟩
  kind := hk
  room := fun _ => g.room h
  calm := fun _ => g.calm h
  un := g.un
  grd := g.grd
  tk := LamX.takes0
  pass := .never
  ex := fun a c dx e => by rw [g.nm0 h] at e; cases e
  stk := fun z => by cases z
  hotx := fun z => by cases z }
end
end Dn
end
section
set_option Elab.async false
set_option linter.all false
set_option maxRecDepth 100000
set_option maxHeartbeats 4000000
/-! Dn43: the checker: does this code say what the text says? Own work. -/
namespace Dn
open PySem PySem.Spec PyProof.Rows L2

def locB (sc : Scope) (x : Str) : Bool := match sc.names.lookup x with
  | some .local => true
  | some .cell => true
  | _ => false
theorem locB_ok {sc : Scope} {x : Str} (h : locB sc x = true) : Loc sc x := by
  unfold locB at h
  split at h
  · exact .inl (by assumption)
  · exact .inr (by assumption)
  · cases h
def glB (c : Cs) (x : Str) : Bool := decide (c.sc.names.lookup x = some .globalImplicit) && !(x == ("__debug__" : Str))
/-- a test that is its value's truth, or not, and, or, a comparison -/
def tstB : Expr → Bool
  | .IfExp .. => false
  | _ => true
def plainT : Expr → Bool
  | .UnaryOp .Not _ _ => false
  | .BoolOp .. => false
  | .IfExp .. => false
  | .Compare .. => false
  | _ => true
def notSet : Expr → Bool
  | .Set .. => false
  | _ => true
def noSlice : Expr → Bool
  | .Slice .. => false
  | _ => true
def baseOk : Expr → Bool
  | .Call (.Name _ _) [] [] _ => false
  | _ => true
def bltN : Blt → Str
  | .len => "len" | .tuple => "tuple" | .list => "list" | .dict => "dict" | .all => "all" | .any => "any" | .sum => "sum" | .sorted => "sorted" | .min => "min" | .max => "max" | .abs => "abs" | .int => "int" | .repr => "repr"
/-- those that need a calm context -/
def bltCalm : Blt → Bool
  | .repr => false | .tuple => false | .list => false | .abs => false | .int => false
  | _ => true
def isNew : E → Bool
  | .lst _ => true
  | .dic _ => true
  | .lc .. => true
  | .lc2 .. => true
  | .dc .. => true
  | .lrg _ => true
  | .blt .list _ => true
  | .blt .dict _ => true
  | .blt .sorted _ => true
  | _ => false
def isU : I → Bool
  | .enm _ => true
  | .zip _ _ => true
  | _ => false
def isNilL : EL → Bool
  | .nil => true
  | _ => false
def isConst : E → Bool
  | .cst d => d.key1
  | _ => false
def cTyB (S : Sd) (c : Cs) : Ty → Expr → Bool
  | .int, .Name x _ => decide (x = "int") && decide (x ∈ S.free) && glB c x
  | .bool, .Name x _ => decide (x = "bool") && decide (x ∈ S.free) && glB c x
  | .str, .Name x _ => decide (x = "str") && decide (x ∈ S.free) && glB c x
  | .tuple, .Name x _ => decide (x = "tuple") && decide (x ∈ S.free) && glB c x
  | .list, .Name x _ => decide (x = "list") && decide (x ∈ S.free) && glB c x
  | .dict, .Name x _ => decide (x = "dict") && decide (x ∈ S.free) && glB c x
  | .valueError, .Name x _ => decide (x = "ValueError") && decide (x ∈ S.free) && glB c x
  | .cls k, .Name x _ => decide (S.cls[k]? = some x) && glB c x
  | _, _ => false
def cTys (S : Sd) (c : Cs) : List Ty → List Expr → Bool
  | [], [] => true
  | t :: ts, e :: es => decide (t ∈ S.tys) && cTyB S c t e && cTys S c ts es
  | _, _ => false
mutual
def cTg (c : Cs) : Tg → Expr → Bool
  | .v i, .Name x _ => decide (c.N[i]? = some x) && locB c.sc0 x
  | .t ts, .Tuple es _ _ => cTgs c ts es && es.all noStar
  | _, _ => false
def cTgs (c : Cs) : List Tg → List Expr → Bool
  | [], [] => true
  | t :: ts, e :: es => cTg c t e && cTgs c ts es
  | _, _ => false
end
/-- a comprehension's own names, with their places -/
def ownL (c : Cs) (own : List Nat) : List (Str × Nat) := own.map fun i => ((c.N[i]?).getD Str.empty, i)
def blkB (c : Cs) (scope : Scope) (own : List Nat) : Bool :=
  decide (scope.kind = .function) && (scope.names.all fun y => decide (scope.names.lookup y.1 = some y.2)) && ((ownL c own).all fun p => decide (c.N[p.2]? = some p.1)) &&
  (scope.names.all fun y => match y.2 with
    | .free => decide (c.sc.names.lookup y.1 = some .cell) || decide (c.sc.names.lookup y.1 = some .free)
    | .local => decide (y.1 ∈ (ownL c own).map (·.1)) || decide (y.1 ∉ c.N)
    | .cell => decide (y.1 ∈ (ownL c own).map (·.1)) || decide (y.1 ∉ c.N)
    | _ => true)
def ownIn (own : List Nat) (t : Tg) : Bool := t.vars.all fun i => decide (i ∈ own)
/-- the arguments that the text does not write: the defaults -/
def cDfl : EL → List D → Bool
  | .nil, [] => true
  | .cons (.cst d) r, d' :: ds => decide (d = d') && cDfl r ds
  | _, _ => false
/-- a call of the def f: n by place, the names ks, then defaults -/
def shOf (S : Sd) (f n : Nat) (ks : List Str) : Option Nat := (S.shapes.find? fun s => decide (s.1 = f ∧ s.2.1 = n ∧ s.2.2.1 = ks)).map (·.2.2.2)
theorem shOf_mem {S : Sd} {f n : Nat} {ks : List Str} {j : Nat} (h : shOf S f n ks = some j) : (f, n, ks, j) ∈ S.shapes := by
  obtain ⟨s, h1, h2⟩ := Option.map_eq_some_iff.mp h
  have h3 := List.find?_some h1
  have h4 := List.mem_of_find?_eq_some h1
  obtain ⟨a, b, k, j'⟩ := s
  simp only [decide_eq_true_eq] at h3
  obtain ⟨rfl, rfl, rfl⟩ := h3
  cases h2
  exact h4
def kwN : List Keyword → Option (List Str)
  | [] => some []
  | ⟨some n, _, _⟩ :: r => (kwN r).map (n :: ·)
  | _ => none
/-- the defaults of the def f behind the first j -/
def dflOf (S : Sd) (f j : Nat) : List D := ((S.T.fns[f]?).map (·.dfl.drop j)).getD []
def isAtr : Expr → Bool
  | .Attribute .. => true
  | _ => false
/-- a call f(es, kws); args: do the written ones and the defaults fit? -/
def cCall (S : Sd) (f : Nat) (x : Str) (args : List Expr → List D → Bool) (es : List Expr) (kws : List Keyword) : Bool := match S.defs.lookup f, kwN kws with
  | some d, some ks => (match shOf S f es.length ks with
    | some j => decide (d.at_ = (x, none)) && decide (es.length + ks.length + (dflOf S f j).length = d.ps.length) && es.all noStar && (es.isEmpty || ks.isEmpty) && args (es ++ kws.map (·.value)) (dflOf S f j)
    | none => false)
  | _, _ => false
mutual
def cE (S : Sd) : E → Cs → Expr → Bool
  | .var i, c, .Name x _ => decide (c.N[i]? = some x) && visB c.sc x
  | .cst d, c, .Constant k _ _ => (match d, k with
    | .int i, .int j => decide (i = j)
    | .bl a, .bool b => decide (a = b)
    | .non, .none => true
    | .str x, .str y => decide (x = y)
    | _, _ => false)
  | .cst d, c, .Name x _ => (match d with
    | .fn f => (match S.defs.lookup f with
      | some d => decide (d.at_ = (x, none)) && glB c x
      | none => false)
    | _ => false)
  | .glb i, c, .Name x _ => decide (S.glb[i]? = some x) && (S.T.glb[i]?).isSome && glB c x
  | .tup es, c, .Tuple xs _ _ => cEL S es c xs && decide (xs.length ≤ 1000)
  | .lst es, c, .List xs _ => cEL S es c xs && decide (xs.length ≤ 1000)
  | .dic es, c, .Dict ks vs _ => (ks.isEmpty && vs.isEmpty && isNilL es) || cKV S es c ks vs && decide (ks.length = vs.length) && decide (ks.length ≤ 15) && !ks.isEmpty && ks.all (·.isSome)
  | .box e, c, x => isNew e && cE S e c x
  | .bin op a b, c, .BinOp x o y _ => decide (o = opOf op) && cE S a c x && cE S b c y
  | .neg a, c, .UnaryOp .USub x _ => cE S a c x
  | .inv a, c, .UnaryOp .Invert x _ => cE S a c x
  | .not a, c, .UnaryOp .Not x _ => cE S a c x && tstB x
  | .cmp op a b, c, .Compare x [o] [y] _ => !c.hot && decide (o = copOf op) && !(behindInMarks o y) && cE S a c x && cE S b c y
  | .cmpd op a b, c, .Compare x [o] [y] _ => decide (o = copOf op) && !(behindInMarks o y) && cE S a c x && cE S b c y
  | .cmp2 o1 o2 a b d, c, .Compare x [p1, p2] [y, z] _ => decide (p1 = copOf o1) && decide (p2 = copOf o2) && decide (o1 ≠ .eq) && decide (o1 ≠ .ne) && decide (o2 ≠ .eq) && decide (o2 ≠ .ne) && !(lastMarks [p1, p2] [y, z]) && cE S a c x && cE S b c y && cE S d c z
  | .and es, c, .BoolOp .And xs _ => cEL S es c xs && !xs.isEmpty && xs.all tstB
  | .or es, c, .BoolOp .Or xs _ => cEL S es c xs && !xs.isEmpty && xs.all tstB
  | .ite t a b, c, .IfExp x y z _ => cE S t c x && tstB x && cE S a c y && cE S b c z
  | .slc a lo hi, c, .Subscript x (.Slice l h none _) _ => cE S a c x && cEO S lo c l && cEO S hi c h
  | .idx a b, c, .Subscript x y _ => cE S a c x && cE S b c y && noSlice y
  | .atr a f, c, .Attribute x n _ => !c.hot && decide (n = S.nms.fld f) && baseOk x && cE S a c x
  | .atx a f, c, .Attribute x n _ => c.hot && decide (n = S.nms.fld f) && baseOk x && cE S a c x
  | .call f as, c, .Call (.Name x _) es kws _ => !c.hot && glB c x && cCall S f x (fun l ds => cArgs S as c l ds) es kws
  | .callS f as, c, .Call (.Name x _) es kws _ => !c.hot && glB c x && cCall S f x (fun l ds => cArgs S as c l ds) es kws
  | .mk k as, c, .Call (.Name x _) es [] _ => !c.hot && glB c x && decide (S.cls[k]? = some x) && (match (S.T.cls[k]?).bind (·.init) with
    | some f => (match S.defs.lookup f, shOf S f (es.length + 1) [] with
      | some d, some j => decide (es.length + 1 + (dflOf S f j).length = d.ps.length) && cArgs S as c es (dflOf S f j) && es.all noStar
      | _, _ => false)
    | none => false)
  | .mth o m as, c, .Call (.Attribute x n apos) es [] pos => !c.hot && decide (n = S.nms.fld m) && baseOk x && (apos.endLine == pos.line) && decide (es.length < 30) && es.all noStar && cE S o c x && cArgs S as c es [] &&
      (S.T.cls.all fun e => match e.meths.lookup m with
        | some f => (match S.defs.lookup f, shOf S f (es.length + 1) [] with
          | some d, some j => decide (es.length + 1 = d.ps.length) && (dflOf S f j).isEmpty
          | _, _ => false)
        | none => true)
  | .blt f as, c, .Call (.Name x _) es [] _ => (!c.hot || !bltCalm f) && decide (x = bltN f) && decide (x ∈ S.free) && glB c x && cEL S as c es && !es.isEmpty && es.all noStar && (decide (f ≠ .len) || decide (es.length = 1))
  | .lrg as, c, .Call (.Name x _) [w] [] _ => !c.hot && decide (x = "list") && decide (x ∈ S.free) && glB c x && (match w with
    | .Call (.Name y _) es [] _ => decide (y = "range") && decide (y ∈ S.free) && glB c y && cEL S as c es && es.all noStar && (decide (es.length = 1) || decide (es.length = 2))
    | _ => false)
  | .bm o m as, c, .Call (.Attribute x n apos) es [] pos => decide (m ≠ .extend) && decide (m ≠ .pop) && decide (n = bmN m) && baseOk x && (apos.endLine == pos.line) && decide (es.length < 30) && es.all noStar && !es.isEmpty && cE S o c x && cEL S as c es
  | .isi a ts, c, .Call (.Name x _) [y, z] [] _ => decide (x = "isinstance") && decide (x ∈ S.free) && glB c x && cE S a c y && noStar y && (match z with
    | .Tuple es _ _ => cTys S c ts es && decide (ts.length ≤ 1000)
    | z => cTys S c ts [z] && noStar z)
  | .lc e t i ifs own, c, .ListComp x [⟨tg, iter, tests, 0⟩] scope _ => !c.hot && blkB c scope own && cI S i c tg iter && cTg (c.blk scope) t tg && ownIn own t && notSet iter && cEL S ifs (c.blk scope) tests && decide (tests.length ≤ 1) && tests.all tstB && cE S e (c.blk scope) x
  | .lc2 e t i ifs t2 i2 ifs2 own, c, .ListComp x [⟨tg, iter, tests, 0⟩, ⟨tg2, iter2, tests2, 0⟩] scope _ => !c.hot && blkB c scope own && cI S i c tg iter && cTg (c.blk scope) t tg && ownIn own t && notSet iter && cEL S ifs (c.blk scope) tests && decide (tests.length ≤ 1) && tests.all tstB &&
      cI S i2 (c.blk scope) tg2 iter2 && cTg (c.blk scope) t2 tg2 && ownIn own t2 && notSet iter2 && cEL S ifs2 (c.blk scope) tests2 && decide (tests2.length ≤ 1) && tests2.all tstB && cE S e (c.blk scope) x
  | .dc k v t i ifs own, c, .DictComp x y [⟨tg, iter, tests, 0⟩] scope _ => !c.hot && blkB c scope own && cI S i c tg iter && cTg (c.blk scope) t tg && ownIn own t && notSet iter && cEL S ifs (c.blk scope) tests && decide (tests.length ≤ 1) && tests.all tstB && cE S k (c.blk scope) x && cE S v (c.blk scope) y
  | _, _, _ => false
def cEL (S : Sd) : EL → Cs → List Expr → Bool
  | .nil, c, [] => true
  | .cons e es, c, x :: xs => cE S e c x && noStar x && cEL S es c xs
  | _, _, _ => false
def cEO (S : Sd) : EL → Cs → Option Expr → Bool
  | .nil, c, none => true
  | .cons e .nil, c, some x => cE S e c x
  | _, _, _ => false
/-- a display's pairs, keys constants -/
def cKV (S : Sd) : EL → Cs → List (Option Expr) → List Expr → Bool
  | .nil, c, [], [] => true
  | .cons k (.cons v r), c, some x :: ks, y :: vs => isConst k && cE S k c x && cE S v c y && cKV S r c ks vs
  | _, _, _, _ => false
/-- arguments, then defaults -/
def cArgs (S : Sd) : EL → Cs → List Expr → List D → Bool
  | .nil, c, [], [] => true
  | .cons e r, c, x :: xs, ds => cE S e c x && cArgs S r c xs ds
  | .cons (.cst d) r, c, [], d' :: ds => decide (d = d') && cDfl r ds
  | _, _, _, _ => false
def cI (S : Sd) : I → Cs → Expr → Expr → Bool
  | .e e, c, tg, x => cE S e c x
  | .rng as, c, tg, .Call (.Name x _) es [] _ => decide (x = "range") && decide (x ∈ S.free) && glB c x && cEL S as c es && (decide (es.length = 1) || decide (es.length = 2))
  | .enm e, c, tg, .Call (.Name x _) [y] [] _ => isTup tg && decide (x = "enumerate") && decide (x ∈ S.free) && glB c x && cE S e c y && noStar y
  | .rev e, c, tg, .Call (.Name x _) [y] [] _ => decide (x = "reversed") && decide (x ∈ S.free) && glB c x && cE S e c y && noStar y
  | _, _, _, _ => false
end
end Dn
end
section
set_option Elab.async false
set_option linter.all false
set_option maxRecDepth 100000
set_option maxHeartbeats 4000000
/-! Dn44: helpers of the checker's proof. Own work. -/
namespace Dn
open PySem PySem.Spec PyProof.Rows L2

abbrev Rn (S : Sd) (n : Nat) : Run := ⟨S.T, S.fuel, run S.T S.fuel n⟩
/-! ### calls by keywords alone -/
structure SK (X : Cx) (N : Nms) (W : WX) (kws : List Keyword) (x : Env → M (List D)) : Prop where
  run : PK X kws (tDA (Bo X N) W x)
section
variable {X : Cx} {N : Nms} {W : WX} {k : Nat} {f : Addr} {fd : FuncData} {ps ks : List Str} {dvs : List V} {dvals : List Value} {dds : List D} {x : Str} {p pos kpos : Pos} {e : Expr} {kws : List Keyword} {xs : Env → M (List D)} {xe : Env → M D} {call g : List D → M D} {np : Nat} {nm : Option Str}
theorem PK.imp {t t' : TA} (h : PK X kws t) (k : ∀ σ H Q, t' σ H Q → t σ H Q) : PK X kws t' := ⟨fun pos pins s σ H Q I q => h.run pos pins s σ H Q I (k σ H Q q)⟩
theorem sk_nil : SK X N W [] (fun _ => ret []) := ⟨PK.imp pk_nil fun σ H Q q => by
  obtain ⟨m, G, st, env, rs, re, p⟩ := q
  exact Post.here rs p [] .nil'⟩
theorem sk_cons (ha : SE X N W e xe) (hr : SK X N W kws xs) : SK X N W (⟨nm, e, kpos⟩ :: kws) (fun env => bnd (xe env) fun y => bnd (xs env) fun ys => ret (y :: ys)) := by
  refine ⟨PK.imp (pk_cons ha hr.run) fun σ H Q q => ?_⟩
  obtain ⟨m, G, st, env, rs, re, p⟩ := q
  refine to_tD rs re p fun d st1 m1 G1 H1 v rs1 re1 x1 hv p1 => to_tDA rs1 re1 p1 fun ds st2 m2 G2 H2 vs rs2 re2 x2 hvs p2 => ?_
  exact Post.here rs2 p2 (v :: vs) (.cons' (hv.mono x2.pre x2.g) hvs)
theorem kw_each {env : PySem.Env} : ∀ {kws : List Keyword} {ks : List Str}, kwN kws = some ks → (backToKw pos (keywordEach kws env)).all (·.1.isSome) = true ∧ (backToKw pos (keywordEach kws env)).filterMap (·.1) = ks ∧ (backToKw pos (keywordEach kws env)).any (·.1.isNone) = false ∧ kws.length = ks.length
  | [], ks, h => by cases h; exact ⟨rfl, rfl, rfl, rfl⟩
  | ⟨none, v, q⟩ :: r, ks, h => by cases h
  | ⟨some n, v, q⟩ :: r, ks, h => by
    obtain ⟨ks', h1, rfl⟩ := Option.map_eq_some_iff.mp (show (kwN r).map (n :: ·) = some ks from h)
    obtain ⟨i1, i2, i3, i4⟩ := kw_each (env := env) h1
    refine ⟨?_, ?_, ?_, by simp [i4]⟩
    · show (true && (backToKw pos (keywordEach r env)).all (·.1.isSome)) = true
      rw [i1]; rfl
    · show n :: (backToKw pos (keywordEach r env)).filterMap (·.1) = _
      rw [i2]
    · show (false || (backToKw pos (keywordEach r env)).any (·.1.isNone)) = false
      rw [i3]; rfl
/-- f(k = e, ..) -/
theorem se_callK (F : FnG X.prog X.w X.K X.mg X.base k f fd ps (SpN (Bo X N) call np)) (hob : Obeys g call) (hl : ∀ ds st, ds.length ≠ np → g ds st = .stk) (hr : Room k X.A) (hgd : X.A.guards = some []) (hg : Gl X x) (hm : X.mg x = some (.ref f)) (hk : PySem.W.keepIn X.K (.ref f) = true)
    (hb : BindsX X.K fd ps 0 ks dvals) (hn : ks.length + dvals.length = ps.length) (hd : Vals dvs dvals) (hdv : ∀ m G, repL (Bo X N) m G dds dvs) (tk : Takes X W) (ha : SK X N W kws xs) (hdb : (x == ("__debug__" : Str)) = false) (hks : kwN kws = some ks) (hlen : ∀ env st ys st', xs env st = .ok ys st' → ys.length = kws.length) :
    SE X N W (.Call (.Name x p) [] kws pos) (fun env => bnd (xs env) fun ys => g (ys ++ dds)) := by
  obtain ⟨k1, k2, k3, k4⟩ := kw_each (pos := pos) (env := X.env) hks
  refine ⟨fun pins s σ H Q I q => ?_⟩
  obtain ⟨m, G, st, env, rs, re, p⟩ := q
  refine wpAny_Call_Name_kw (ld_glob I hg hm ?_ hdb)
  refine PySem.W.callWith_KW0 (h₀ := X.base) I.ok.mod.kin hk k1 (thn (ha.run.run pos pins s σ H (fun vs H1 => vs.length = ks.length ∧ SpN (Bo X N) call np (vs ++ dvs) H1 Q (wx W σ)) I ?_) fun us s1 ⟨vs, H1, I1, r, hvl, q⟩ => ⟨I1.kIn, ?_⟩) (by rw [k3]; rfl)
  · refine ⟨m, G, st, env, rs, re, ?_⟩
    have p2 := Post.bnd p
    cases e : xs env st with
    | ok ds st1 =>
      rw [e] at p2
      refine post_ok fun m1 G1 H1 x1 rs1 vs hvs => ?_
      have p3 := p2 m1 G1 H1 x1 rs1
      dsimp only at p3
      have hln : (ds ++ dds).length = np := by
        cases Decidable.em ((ds ++ dds).length = np) with
        | inl h => exact h
        | inr h => rw [hl _ _ h] at p3; exact p3.elim
      obtain ⟨m0, st0, r0, rv0, p0⟩ := hob _ _ _ _ _ _ _ _ _ rs1 (hvs.append (hdv _ _)) p3
      exact ⟨by rw [hvs.length, hlen _ _ _ _ e, k4], m0, G1, st0, ds ++ dds, r0, rv0, hln, p0⟩
    | exc c vs st' => rw [e] at p2; exact p2
    | stk => rw [e] at p2; exact p2
  · rw [k2]
    have r2 : Vals (vs ++ dvs) (us ++ dvals) := r.append hd
    have hul : us.length = ks.length := by rw [← r.length]; exact hvl
    have hb2 := hb s1 [] us I1.kIn rfl hul
    rw [List.nil_append] at hb2
    refine wpAny_call (codeAny_mono (F.run X.A X.stack s1 H1 ⟨[] ++ [], ks.zip us⟩ (us ++ dvals) (vs ++ dvs) Q (wx W σ) hr hgd I1.env0 hb2 r2 q) fun r s' hq => ?_)
    cases r with
    | error e => exact passAt tk σ pins H1 s1 e s' I1 hq
    | ok fl =>
      cases fl with
      | ret u => exact I1.after hq
      | next => exact False.elim hq
      | brk => exact False.elim hq
      | cont => exact False.elim hq
end
/-! ### small things -/
section
variable {S : Sd} {n : Nat} {X : Cx} {N : Nms} {W : WX} {c : Cs}
theorem Gd.gl (g : Gd S n X N W c) {x : Str} (h : glB c x = true) : Gl X x ∧ (x == ("__debug__" : Str)) = false := by
  simp only [glB, Bool.and_eq_true, decide_eq_true_eq, Bool.not_eq_true'] at h
  refine ⟨?_, h.2⟩
  show X.env.scope.names.lookup x = _
  rw [g.sc]; exact h.1
theorem Gd.vis (g : Gd S n X N W c) {x : Str} (h : visB c.sc x = true) : Vis X.env.scope x ∧ (x == ("__debug__" : Str)) = false ∧ (x == ("__classdict__" : Str)) = false := by
  rw [g.sc]; exact visB_ok h
theorem Gd.bo (g : Gd S n X N W c) (h : c.hot = false) : Bo X N = ⟨X.prog, X.w, X.K, S.nms⟩ := by rw [g.nm0 h]
end
theorem plain_isTrue {a : Expr} (h : plainT a = true) (env : PySem.Env) (whole : Sem Value) : isTrue a env whole = (do let v ← whole; standAt a.pos; holding [v] (PySem.truthy v)) := by
  cases a <;> first | (cases h; done) | rfl | skip
  rename_i op x p
  cases op <;> first | (cases h; done) | rfl
theorem base_plain {o : Expr} (h : baseOk o = true) (n : Str) (env : PySem.Env) (w : Sem Value) : attributeBase o n env w = w := by
  cases o <;> first | rfl | skip
  rename_i fn args kws p
  cases fn <;> first | rfl | skip
  cases args <;> first | rfl | skip
  cases kws <;> first | rfl | skip
  cases h
theorem set_plain {e : Expr} (h : notSet e = true) (env : PySem.Env) (x : Value) : foldedSetIterable e env x = pure x := by
  cases e <;> first | (cases h; done) | rfl
theorem ix_plain {e : Expr} (h : noSlice e = true) : PlainIx e := fun o i => by
  cases e <;> first | (cases h; done) | rfl
theorem mth_ht {o : Expr} {m : Str} {apos pos : Pos} {es : List Expr} {env : PySem.Env} (hb : baseOk o = true) (hl : (apos.endLine == pos.line) = true) (hs : es.all noStar = true) (hn : es.length < 30) :
    eval (.Call (.Attribute o m apos) es [] pos) env = (do
      let ov ← eval o env
      standAt apos.atName
      let (f, first) ← holding [ov] (getMethod ov m (L2.plainOf o env))
      callWith pos f first (backTo pos (starEach es env)) (backToKw pos (keywordEach [] env))) := by
  have e1 : eval (.Call (.Attribute o m apos) es [] pos) env = (do
      let ov ← attributeBase o m env (eval o env)
      standAt apos.atName
      methodCall o m apos pos env ov (es.length + ([] : List Keyword).length) (backTo pos (starEach es env)) (backToKw pos (keywordEach [] env))) := by rw [eval]
  rw [e1, base_plain hb]
  have hf : methodCallForm (es.length + ([] : List Keyword).length) (backTo pos (starEach es env)) (backToKw pos (keywordEach [] env)) = true := by
    have h2 := (star_plain (pos := pos) (env := env) hs).2
    unfold methodCallForm
    simp only [List.length_nil, Nat.add_zero]
    rw [h2]
    simp [backToKw, keywordEach]
    omega
  congr 1
  funext ov
  congr 1
  funext _
  exact mcall_line hf hl
end Dn
end
section
set_option Elab.async false
set_option linter.all false
set_option maxRecDepth 100000
set_option maxHeartbeats 4000000
/-! Dn45: expressions that stand alone. Own work. -/
namespace Dn
open PySem PySem.Spec PyProof.Rows L2

theorem noxL_map {α : Type} {f : α → D} (h : ∀ a, (f a).nox = true) : ∀ l : List α, D.noxL (l.map f) = true
  | [] => rfl
  | a :: l => by rw [List.map_cons, D.noxL, h a, noxL_map h l]; rfl
mutual
/-- where no exception is in hand, none stands within -/
theorem rep_nox {B : Wo} {m : List Addr} {G : Hp} (hx : B.N.ex = none) : ∀ (d : D) (v : V), repV B m G d v → d.nox = true
  | .non, v, _ => rfl
  | .bl _, v, _ => rfl
  | .int _, v, _ => rfl
  | .str _, v, _ => rfl
  | .tup ds, v, h => by
    rw [repV] at h; obtain ⟨a, xs, _, _, r⟩ := h
    rw [D.nox]; exact rep_noxL hx ds xs r
  | .kdic ks vs, v, h => by
    rw [repV] at h; obtain ⟨a, ws, _, ⟨_, o, es, ep, xs, _, _, _, rfl, _⟩, r⟩ := h
    rw [D.nox, noxL_map (fun _ => rfl), rep_noxL hx vs ws r]; rfl
  | .lst ds, v, h => by
    rw [repV] at h; obtain ⟨a, xs, _, _, r⟩ := h
    rw [D.nox]; exact rep_noxL hx ds xs r
  | .dic ks vs, v, h => by
    rw [repV] at h; obtain ⟨a, u, _, _, r⟩ := h
    rw [D.nox]
    rcases r with ⟨kvs, _, rfl, r⟩ | ⟨kvs, _, _, _, rk, _, r⟩
    · rw [noxL_map (f := fun p : Key × V => keyD p.1) (fun p => by obtain ⟨k, _⟩ := p; cases k <;> rfl), rep_noxL hx vs _ r]; rfl
    · rw [rep_noxL hx ks _ rk, rep_noxL hx vs _ r]; rfl
  | .obj c ns vs, v, h => by
    rw [repV] at h; obtain ⟨a, dx, fvs, _, _, _, r⟩ := h
    rw [D.nox]; exact rep_noxL hx vs _ r
  | .ref _, v, _ => rfl
  | .fn _, v, _ => rfl
  | .rng _ _, v, _ => rfl
  | .exn c ns vs, v, h => by
    rw [repV] at h; obtain ⟨a, dx, fvs, _, s, _⟩ := h
    rw [hx] at s; cases s
theorem rep_noxL {B : Wo} {m : List Addr} {G : Hp} (hx : B.N.ex = none) : ∀ (ds : List D) (xs : List V), repL B m G ds xs → D.noxL ds = true
  | [], xs, _ => rfl
  | d :: ds, xs, h => by
    rw [repL] at h; obtain ⟨v, vs, _, h1, h2⟩ := h
    rw [D.noxL, rep_nox hx d v h1, rep_noxL hx ds vs h2]; rfl
end
/-- the code e says what the text x says -/
structure OkE (R : Run) (X : Cx) (N : Nms) (W : WX) (e : E) (x : Expr) : Prop where
  se : SE X N W x (ev R e)
  st : tstB x = true → ST X N W x (evT R e)
  sn : isNew e = true → SN X N W x (ev R e)
section
variable {S : Sd} {n : Nat} {R : Run} {X : Cx} {N : Nms} {W : WX} {c : Cs} {e : E} {x : Expr} {xs : List Expr} {es : EL} {pos : Pos}
theorem OkE.plain (h : SE X N W x (ev R e)) (hp : plainT x = true) (hn : isNew e = false) : OkE R X N W e x := ⟨h, fun _ => st_plain h (plain_isTrue hp _), fun z => by rw [hn] at z; cases z⟩
theorem OkE.new (h : SN X N W x (ev R e)) (hp : plainT x = true) : OkE R X N W e x := ⟨h.se, fun _ => st_plain h.se (plain_isTrue hp _), fun _ => h⟩
inductive AllE (R : Run) (X : Cx) (N : Nms) (W : WX) : List Expr → EL → Prop where
  | nil : AllE R X N W [] .nil
  | cons {e : E} {x : Expr} {xs : List Expr} {es : EL} (h : OkE R X N W e x) (hs : noStar x = true) (t : AllE R X N W xs es) : AllE R X N W (x :: xs) (.cons e es)
theorem AllE.sa (h : AllE R X N W xs es) : SA X N W xs (evL R es) := by
  induction h with
  | nil => exact sa_nil
  | cons h hs t ih => exact sa_cons h.se ih hs
theorem AllE.star (h : AllE R X N W xs es) : xs.all noStar = true := by
  induction h with
  | nil => rfl
  | cons h hs t ih => rw [List.all_cons, hs, ih]; rfl
theorem AllE.len (h : AllE R X N W xs es) : ∀ env st ys st', evL R es env st = .ok ys st' → ys.length = xs.length := by
  induction h with
  | nil => intro env st ys st' e; cases e; rfl
  | cons h hs t ih =>
    intro env st ys st' e
    obtain ⟨y, st1, e1, e2⟩ := bnd_ok (show bnd (ev R _ env) (fun y => bnd (evL R _ env) fun ys => ret (y :: ys)) st = .ok ys st' from e)
    obtain ⟨ys', st2, e3, e4⟩ := bnd_ok e2
    cases e4
    rw [List.length_cons, List.length_cons, ih _ _ _ _ e3]
theorem AllE.and_se (h : AllE R X N W xs es) (h0 : xs ≠ []) : SE X N W (.BoolOp .And xs pos) (evAnd R es) := by
  induction h with
  | nil => exact absurd rfl h0
  | cons h hs t ih =>
    cases t with
    | nil => exact se_and1 h.se
    | cons h2 hs2 t2 => exact se_andC h.se (ih (List.cons_ne_nil _ _))
theorem AllE.or_se (h : AllE R X N W xs es) (h0 : xs ≠ []) : SE X N W (.BoolOp .Or xs pos) (evOr R es) := by
  induction h with
  | nil => exact absurd rfl h0
  | cons h hs t ih =>
    cases t with
    | nil => exact se_and1 h.se
    | cons h2 hs2 t2 => exact se_orC h.se (ih (List.cons_ne_nil _ _))
theorem AllE.and_sw (h : AllE R X N W xs es) (h0 : xs ≠ []) (ht : xs.all tstB = true) : SW X N W (.BoolOp .And xs pos) (fun env => bnd (evAnd R es env) truM) := by
  induction h with
  | nil => exact absurd rfl h0
  | cons h hs t ih =>
    rw [List.all_cons, Bool.and_eq_true] at ht
    cases t with
    | nil => exact sw_and1 (h.st ht.1)
    | cons h2 hs2 t2 => exact sw_andC (h.st ht.1) (ih (List.cons_ne_nil _ _) ht.2)
theorem AllE.or_sw (h : AllE R X N W xs es) (h0 : xs ≠ []) (ht : xs.all tstB = true) : SW X N W (.BoolOp .Or xs pos) (fun env => bnd (evOr R es env) truM) := by
  induction h with
  | nil => exact absurd rfl h0
  | cons h hs t ih =>
    rw [List.all_cons, Bool.and_eq_true] at ht
    cases t with
    | nil => exact sw_or1 (h.st ht.1)
    | cons h2 hs2 t2 => exact sw_orC (h.st ht.1) (ih (List.cons_ne_nil _ _) ht.2)
/-- the tests of a comprehension: one at most -/
theorem AllE.tests (h : AllE R X N W xs es) (hl : xs.length ≤ 1) (ht : xs.all tstB = true) : STs X N W xs (evC R es) := by
  cases h with
  | nil => exact sts_nil
  | cons h hs t =>
    cases t with
    | nil =>
      rw [List.all_cons, Bool.and_eq_true] at ht
      exact sts_one (h.st ht.1)
    | cons h2 hs2 t2 => simp at hl
/-! ### constants, names -/
theorem ok_var {i : Nat} {y : Str} (g : Gd S n X N W c) (h : (decide (c.N[i]? = some y) && visB c.sc y) = true) : OkE R X N W (.var i) (.Name y pos) := by
  rw [Bool.and_eq_true, decide_eq_true_eq] at h
  obtain ⟨a1, a2, a3⟩ := g.vis h.2
  exact .plain (se_var (by rw [g.N_]; exact h.1) a1 a2 a3) rfl rfl
theorem ok_cst {d : D} {v : V} (h : PE X x (tC v)) (hp : plainT x = true) (r : ∀ m G, repV (Bo X N) m G d v) : OkE R X N W (.cst d) x := .plain (PE.imp h fun σ H Q q => tD_cst r q) hp rfl
theorem ok_glb {i : Nat} {y : Str} (g : Gd S n X N W c) (hR : R.T = S.T) (h : (decide (S.glb[i]? = some y) && (S.T.glb[i]?).isSome && glB c y) = true) : OkE R X N W (.glb i) (.Name y pos) := by
  simp only [Bool.and_eq_true, decide_eq_true_eq] at h
  obtain ⟨⟨h1, h2⟩, h3⟩ := h
  obtain ⟨d, hd⟩ := Option.isSome_iff_exists.mp h2
  obtain ⟨gl, hdb⟩ := g.gl h3
  obtain ⟨u, v, hm, rv, rp⟩ := g.mx.glb i d y hd h1
  obtain ⟨o, hN⟩ := g.nm
  refine .plain (PE.imp (pe_glob gl hm rv hdb) fun σ H Q q => ?_) rfl rfl
  obtain ⟨m, G, st, env, rs, re, p⟩ := q
  have e : ev R (.glb i) env = ret d := by show opt R.T.glb[i]? = _; rw [hR, hd]; rfl
  rw [e] at p
  refine p.ans rs ?_
  have hx := rp m G
  subst hN
  exact (rep_hot (B := ⟨X.prog, X.w, X.K, S.nms⟩) d v (rep_nox (B := ⟨X.prog, X.w, X.K, S.nms⟩) rfl d v hx)).mpr hx
end
end Dn
end
section
set_option Elab.async false
set_option linter.all false
set_option maxRecDepth 100000
set_option maxHeartbeats 4000000
/-! Dn46: calls of defs, classes, methods, built-ins. Own work. -/
namespace Dn
open PySem PySem.Spec PyProof.Rows L2

section
variable {S : Sd} {n : Nat} {X : Cx} {N : Nms} {W : WX} {c : Cs} {e : E} {x : Expr} {xs : List Expr} {es : EL} {pos p : Pos} {R : Run}
/-- the written arguments, then defaults -/
inductive AllD (R : Run) (X : Cx) (N : Nms) (W : WX) : List Expr → EL → List D → Prop where
  | dfl {as : EL} {ds : List D} (h : cDfl as ds = true) : AllD R X N W [] as ds
  | cons {e : E} {x : Expr} {xs : List Expr} {es : EL} {ds : List D} (h : OkE R X N W e x) (t : AllD R X N W xs es ds) : AllD R X N W (x :: xs) (.cons e es) ds
theorem evL_dfl : ∀ {as : EL} {ds : List D}, cDfl as ds = true → ∀ env, evL R as env = ret ds
  | .nil, [], _, env => rfl
  | .nil, _ :: _, h, env => by cases h
  | .cons e r, [], h, env => by cases e <;> cases h
  | .cons e r, d' :: ds, h, env => by
    cases e <;> first | (cases h; done) | skip
    rename_i d
    have h : (decide (d = d') && cDfl r ds) = true := h
    rw [Bool.and_eq_true, decide_eq_true_eq] at h
    obtain ⟨rfl, h2⟩ := h
    show bnd (ret d) (fun y => bnd (evL R r env) fun ys => ret (y :: ys)) = _
    rw [evL_dfl h2 env]; rfl
/-- the values of what is written -/
def AllD.vals (R : Run) : List Expr → EL → Env → M (List D)
  | [], _, _ => ret []
  | _ :: xs, .cons e es, env => bnd (ev R e env) fun y => bnd (AllD.vals R xs es env) fun ys => ret (y :: ys)
  | _ :: _, .nil, _ => ret []
theorem AllD.ev {ds : List D} (h : AllD R X N W xs es ds) (env : Env) : evL R es env = bnd (AllD.vals R xs es env) fun ys => ret (ys ++ ds) := by
  induction h with
  | dfl h => rw [evL_dfl h]; rfl
  | cons h t ih =>
    show bnd (Dn.ev R _ env) (fun y => bnd (evL R _ env) fun ys => ret (y :: ys)) = bnd (bnd (Dn.ev R _ env) fun y => bnd (AllD.vals R _ _ env) fun ys => ret (y :: ys)) _
    rw [bnd_assoc]
    congr 1; funext y
    rw [ih, bnd_assoc, bnd_assoc]
    rfl
theorem AllD.sa {ds : List D} (h : AllD R X N W xs es ds) (hs : xs.all noStar = true) : SA X N W xs (AllD.vals R xs es) := by
  induction h with
  | dfl h => exact sa_nil
  | cons h t ih =>
    rw [List.all_cons, Bool.and_eq_true] at hs
    exact sa_cons h.se (ih hs.2) hs.1
theorem AllD.sk {ds : List D} : ∀ {kws : List Keyword} {es : EL}, AllD R X N W (kws.map (·.value)) es ds → SK X N W kws (AllD.vals R (kws.map (·.value)) es)
  | [], es, h => sk_nil
  | ⟨nm, v, q⟩ :: r, es, h => by
    cases h with
    | cons h t => exact sk_cons h.se (AllD.sk t)
theorem AllD.len {ds : List D} (h : AllD R X N W xs es ds) : ∀ env st ys st', AllD.vals R xs es env st = .ok ys st' → ys.length = xs.length := by
  induction h with
  | dfl h => intro env st ys st' e; cases e; rfl
  | cons h t ih =>
    intro env st ys st' e
    obtain ⟨y, st1, e1, e2⟩ := bnd_ok (show bnd (Dn.ev R _ env) (fun y => bnd (AllD.vals R _ _ env) fun ys => ret (y :: ys)) st = .ok ys st' from e)
    obtain ⟨ys', st2, e3, e4⟩ := bnd_ok e2
    cases e4
    rw [List.length_cons, List.length_cons, ih _ _ _ _ e3]
theorem run_len {T : Tb} {fuel k f : Nat} {fe : FnE} (hf : T.fns[f]? = some fe) {ds : List D} {st : Store} (h : ds.length ≠ fe.np) : run T fuel k f ds st = .stk := by
  cases k with
  | zero => rfl
  | succ k => rw [run]; simp only [hf]; unfold runF; rw [if_neg h]
theorem callD_len {f : Nat} {fe : FnE} (hf : S.T.fns[f]? = some fe) {ds : List D} {st : Store} (h : ds.length ≠ fe.np) : callD (Rn S n) f ds st = .stk := by
  unfold callD
  split
  · rw [show (Rn S n).call f ds [] = .stk from run_len hf h]
  · exact run_len hf h
theorem callS_len {f : Nat} {fe : FnE} (hf : S.T.fns[f]? = some fe) {ds : List D} {st : Store} (h : ds.length ≠ fe.np) : callS (Rn S n) f ds st = .stk := run_len hf h
theorem dflOf_eq {f j : Nat} {fe : FnE} (hf : S.T.fns[f]? = some fe) : dflOf S f j = fe.dfl.drop j := by unfold dflOf; rw [hf]; rfl
/-- f(..) of a def, called by g -/
theorem se_def {f : Nat} {y : Str} {as : EL} {es : List Expr} {kws : List Keyword} {args : List Expr → List D → Bool} {g : List D → M D} (gd : Gd S n X N W c) (hot : c.hot = false) (hob : Obeys g ((Rn S n).call f)) (hl : ∀ fe, S.T.fns[f]? = some fe → ∀ ds st, ds.length ≠ fe.np → g ds st = .stk)
    (hg : glB c y = true) (h : cCall S f y args es kws = true) (ha : ∀ l ds, args l ds = true → AllD (Rn S n) X N W l as ds) : SE X N W (.Call (.Name y p) es kws pos) (fun env => bnd (evL (Rn S n) as env) g) := by
  unfold cCall at h
  split at h
  · rename_i d ks hd hks
    split at h
    · rename_i j hj
      simp only [Bool.and_eq_true, decide_eq_true_eq] at h
      obtain ⟨⟨⟨⟨h1, h2⟩, h3⟩, h4⟩, h5⟩ := h
      obtain ⟨fd, fe, e1, F, kp, _, hm, cf⟩ := gd.mx.fn f d hd
      obtain ⟨dvs, dvals, rv, rd, bx⟩ := cf.sh _ _ _ (shOf_mem hj)
      have hA := ha _ _ h5
      have e2 : (fun env => bnd (evL (Rn S n) as env) g) = fun env => bnd (AllD.vals (Rn S n) (es ++ kws.map (·.value)) as env) fun ys => g (ys ++ dflOf S f j) := by
        funext env
        rw [hA.ev env, bnd_assoc]; rfl
      rw [e2]
      have hN := gd.nm0 hot
      subst hN
      have hm' := hm (by rw [h1])
      rw [h1] at hm' F kp
      obtain ⟨gl, hdb⟩ := gd.gl hg
      have hdf := dflOf_eq (S := S) (j := j) e1
      have lens : (dflOf S f j).length = dvals.length := by
        have := (rd [] (fun _ => none)).length
        rw [hdf, ← this, rv.length]
      have np : fe.np = d.ps.length := cf.np
      have hl' : ∀ ds st, ds.length ≠ d.ps.length → g ds st = .stk := fun ds st z => hl fe e1 ds st (by rw [np]; exact z)
      rcases Bool.or_eq_true_iff.mp h4 with h4 | h4
      · have : es = [] := List.isEmpty_iff.mp h4
        subst this
        rw [List.nil_append] at hA ⊢
        cases kws with
        | nil =>
          cases hks
          exact se_call0 (k := 2 * n + 2) F hob hl' ((gd.room hot).mono (by omega)) gd.grd gl hm' kp (bx.binds (by rw [← lens]; simpa using h2)) rv (by rw [hdf]; exact rd) gd.tk hdb
        | cons kw kws =>
          have hkl := (kw_each (pos := pos) (env := X.env) hks).2.2.2
          exact se_callK (k := 2 * n + 2) F hob hl' ((gd.room hot).mono (by omega)) gd.grd gl hm' kp bx (by rw [← lens]; simpa using h2) rv (by rw [hdf]; exact rd) gd.tk hA.sk hdb hks (fun env st ys st' e => by rw [hA.len env st ys st' e, List.length_map])
      · have hk0 : ks = [] := List.isEmpty_iff.mp h4
        subst hk0
        have hkl := (kw_each (pos := pos) (env := X.env) hks).2.2.2
        have hk0 : kws = [] := List.eq_nil_of_length_eq_zero hkl
        subst hk0
        rw [List.map_nil, List.append_nil] at hA ⊢
        cases es with
        | nil => exact se_call0 (k := 2 * n + 2) F hob hl' ((gd.room hot).mono (by omega)) gd.grd gl hm' kp (bx.binds (by rw [← lens]; simpa using h2)) rv (by rw [hdf]; exact rd) gd.tk hdb
        | cons e es => exact se_call (k := 2 * n + 2) F hob hl' ((gd.room hot).mono (by omega)) gd.grd gl hm' kp (bx.binds (by rw [← lens]; simpa using h2)) rv (by rw [hdf]; exact rd) gd.tk (hA.sa h3) hdb h3
    · cases h
  · cases h
/-- C(..) -/
theorem se_cls {k f : Nat} {y : Str} {as : EL} {es : List Expr} {d : DefS} {j : Nat} (gd : Gd S n X N W c) (hot : c.hot = false) (hg : glB c y = true) (hc : S.cls[k]? = some y) (hi : (S.T.cls[k]?).bind (·.init) = some f) (hd : S.defs.lookup f = some d) (hj : shOf S f (es.length + 1) [] = some j)
    (hlen : es.length + 1 + (dflOf S f j).length = d.ps.length) (hA : AllD (Rn S n) X N W es as (dflOf S f j)) (h3 : es.all noStar = true) : SE X N W (.Call (.Name y p) es [] pos) (fun env => bnd (evL (Rn S n) as env) fun ys => mkD (Rn S n) k ys) := by
  obtain ⟨fd, fe, e1, F, kp, _, hm, cf⟩ := gd.mx.fn f d hd
  obtain ⟨dvs, dvals, rv, rd, bx⟩ := cf.sh _ _ _ (shOf_mem hj)
  obtain ⟨ce, hce, hin⟩ := Option.bind_eq_some_iff.mp hi
  obtain ⟨d', hd', M⟩ := gd.mx.mke k ce f hce hin
  rw [hd] at hd'; cases hd'
  have e2 : (fun env => bnd (evL (Rn S n) as env) fun ys => mkD (Rn S n) k ys) = fun env => bnd (AllD.vals (Rn S n) es as env) fun ys => mkD (Rn S n) k (ys ++ dflOf S f j) := by
    funext env
    rw [hA.ev env, bnd_assoc]; rfl
  rw [e2]
  have hN := gd.nm0 hot
  subst hN
  obtain ⟨gl, hdb⟩ := gd.gl hg
  have hdf := dflOf_eq (S := S) (j := j) e1
  have lens : (dflOf S f j).length = dvals.length := by
    have := (rd [] (fun _ => none)).length
    rw [hdf, ← this, rv.length]
  have ec : S.nms.cls k = y := by show (S.cls[k]?).getD Str.empty = y; rw [hc]; rfl
  have hmc : X.mg y = some (.ref (He.ga X.K (S.nms.cls k))) := by rw [ec]; exact gd.mx.cls k y hc
  have hl' : ∀ ds st, ds.length ≠ d.ps.length → (Rn S n).call f ds st = .stk := fun ds st z => run_len e1 (by rw [cf.np]; exact z)
  have hb := bx.binds (by rw [← lens]; exact hlen)
  cases es with
  | nil => exact se_mk0 (R := Rn S n) (k := 2 * n + 2) hi hl' M F (gd.room hot) gd.grd gl hmc hb rv (by rw [hdf]; exact rd) gd.tk hdb
  | cons e es => exact se_mk (R := Rn S n) (k := 2 * n + 2) hi hl' M F (gd.room hot) gd.grd gl hmc hb rv (by rw [hdf]; exact rd) gd.tk (hA.sa h3) hdb h3
theorem zip_cut {ps : List Str} {ds : List Value} : ∀ {ps : List Str} {us : List Value}, us.length = ps.length → ps.zip (us ++ ds) = ps.zip us
  | [], us, h => by simp
  | p :: ps, [], h => by simp at h
  | p :: ps, u :: us, h => by
    show (p, u) :: ps.zip (us ++ ds) = (p, u) :: ps.zip us
    rw [zip_cut (ps := []) (by simpa using h)]
theorem binds_bare {K : PySem.W.Frag} {fd : FuncData} {ps : List Str} {k : Nat} {ds : List Value} (h : BindsX K fd ps k [] ds) (hk : ps.length = k) : Binds K fd ps [] := fun s us kin hl => by
  rw [List.append_nil] at hl ⊢
  have := h s us [] kin (hl.trans hk) rfl
  rw [List.append_nil, zip_cut (ps := []) hl] at this
  exact this
/-- own __len__, own __eq__ -/
theorem Gd.own (gd : Gd S n X N W c) (hot : c.hot = false) : OwnFx X N (Rn S n) (2 * n + 2) := by
  have hN := gd.nm0 hot
  subst hN
  refine ⟨fun k fi h => ?_, fun k fi h => ?_⟩
  · obtain ⟨ce, hce, hin⟩ := Option.bind_eq_some_iff.mp h
    obtain ⟨h1, h2, ⟨d, hd, hp⟩, hs⟩ := gd.mx.len k ce fi hce hin
    obtain ⟨fd, fe, e1, F, kp, hn, hm, cf⟩ := gd.mx.fn fi d hd
    obtain ⟨dvs, dvals, rv, rd, bx⟩ := cf.sh _ _ _ hs
    rw [← hn] at F
    rw [hp] at F
    refine ⟨h1, h2, ⟨fd, d.ps, F, ?_⟩, fun ds st z => callD_len e1 (by rw [cf.np, hp]; exact z)⟩
    exact binds_bare bx hp
  · obtain ⟨ce, hce, hin⟩ := Option.bind_eq_some_iff.mp h
    obtain ⟨h1, h2, ⟨d, hd, hp⟩, hs⟩ := gd.mx.eq k ce fi hce hin
    obtain ⟨fd, fe, e1, F, kp, hn, hm, cf⟩ := gd.mx.fn fi d hd
    obtain ⟨dvs, dvals, rv, rd, bx⟩ := cf.sh _ _ _ hs
    rw [← hn] at F
    rw [hp] at F
    refine ⟨h1, h2, ⟨fd, d.ps, F, ?_⟩, fun ds st z => callD_len e1 (by rw [cf.np, hp]; exact z)⟩
    exact binds_bare bx hp
end
end Dn
end
section
set_option Elab.async false
set_option linter.all false
set_option maxRecDepth 100000
set_option maxHeartbeats 4000000
/-! Dn47: methods, built-ins, isinstance, targets, blocks. Own work. -/
namespace Dn
open PySem PySem.Spec PyProof.Rows L2

section
variable {S : Sd} {n : Nat} {X : Cx} {N : Nms} {W : WX} {c : Cs} {x : Expr} {xs : List Expr} {es : EL} {pos p : Pos} {R : Run}
/-- o.m(..) -/
theorem se_meth {o : E} {y : Expr} {mi : Nat} {as : EL} {es : List Expr} {apos : Pos} (gd : Gd S n X N W c) (hot : c.hot = false) (hb : baseOk y = true) (hl : (apos.endLine == pos.line) = true) (h30 : es.length < 30) (hs : es.all noStar = true) (ho : SE X N W y (ev (Rn S n) o)) (hA : AllD (Rn S n) X N W es as [])
    (hm : ∀ e ∈ S.T.cls, ∀ f, e.meths.lookup mi = some f → ∃ d j, S.defs.lookup f = some d ∧ shOf S f (es.length + 1) [] = some j ∧ es.length + 1 = d.ps.length) :
    SE X N W (.Call (.Attribute y (N.fld mi) apos) es [] pos) (fun env => bnd (ev (Rn S n) o env) fun x => fun st => match methOf S.T st x mi with
      | some f => bnd (evL (Rn S n) as env) (fun ys => callD (Rn S n) f (x :: ys)) st
      | none => .stk) := by
  have hN := gd.nm0 hot
  subst hN
  have MF : MthFx X S.nms (Rn S n) (2 * n + 2) mi [] := by
    refine ⟨fun k f h => ?_⟩
    obtain ⟨ce, hce, hin⟩ := Option.bind_eq_some_iff.mp h
    obtain ⟨h1, h2, d, hd⟩ := gd.mx.mth k ce mi f hce hin
    obtain ⟨d', j, hd', hj, hp⟩ := hm ce (List.mem_of_getElem? hce) f hin
    rw [hd] at hd'; cases hd'
    obtain ⟨fd, fe, e1, F, kp, hn, _, cf⟩ := gd.mx.fn f d hd
    obtain ⟨dvs, dvals, rv, rd, bx⟩ := cf.sh _ _ _ (shOf_mem hj)
    rw [← hn] at F
    exact ⟨h1, h2, fd, d.ps, d.ps.length, [], [], F, fun ds st z => callD_len e1 (by rw [cf.np]; exact z), binds_bare bx hp.symm, .nil, fun m G => .nil'⟩
  have e2 : (fun env => bnd (ev (Rn S n) o env) fun x => fun st => match methOf S.T st x mi with
      | some f => bnd (evL (Rn S n) as env) (fun ys => callD (Rn S n) f (x :: ys)) st
      | none => .stk) = (fun env => bnd (ev (Rn S n) o env) fun x => fun st => match methOf (Rn S n).T st x mi with
      | some f => bnd (AllD.vals (Rn S n) es as env) (fun ys => callD (Rn S n) f (x :: (ys ++ []))) st
      | none => .stk) := by
    funext env
    congr 1; funext x; funext st
    cases methOf S.T st x mi with
    | none => rfl
    | some f =>
      dsimp only
      rw [hA.ev env, bnd_assoc]; rfl
  rw [e2]
  cases es with
  | nil => exact se_mth0 (R := Rn S n) gd.mx.inj MF ((gd.room hot).mono (by omega)) gd.grd gd.tk ho (mth_ht hb hl hs h30)
  | cons e es => exact se_mth (R := Rn S n) gd.mx.inj MF ((gd.room hot).mono (by omega)) gd.grd gd.tk ho (hA.sa hs) hs (mth_ht hb hl hs h30)
/-- the built-in f's value, its name in the machine -/
def bltV : Blt → BV
  | .len => .fn "len" | .tuple => .ty "tuple" | .list => .ty "list" | .dict => .ty "dict" | .all => .fn "all" | .any => .fn "any" | .sum => .fn "sum" | .sorted => .fn "sorted" | .min => .fn "min" | .max => .fn "max" | .abs => .fn "abs" | .int => .ty "int" | .repr => .fn "repr"
theorem bltV_boot (f : Blt) : bootBuiltins (bltN f) = some (bltV f).v := by cases f <;> decide +kernel
theorem bltN_ok (f : Blt) : bltN f ≠ "__name__" ∧ (bltN f == ("__debug__" : Str)) = false := by cases f <;> decide +kernel
theorem bltM_is {R : Run} {f : Blt} (h : f ≠ .len) (xs : List D) : evBlt R f xs = bltM f xs := by
  funext st
  cases f <;> first | exact absurd rfl h | rfl
theorem okE_blt {f : Blt} {as : EL} {es : List Expr} (gd : Gd S n X N W c) (h : ((!c.hot || !bltCalm f) && decide (bltN f ∈ S.free) && glB c (bltN f) && !es.isEmpty && (decide (f ≠ .len) || decide (es.length = 1))) = true) (hA : AllE (Rn S n) X N W es as) :
    OkE (Rn S n) X N W (.blt f as) (.Call (.Name (bltN f) p) es [] pos) := by
  simp only [Bool.and_eq_true, decide_eq_true_eq, Bool.or_eq_true, Bool.not_eq_true'] at h
  obtain ⟨⟨⟨⟨h1, h2⟩, h3⟩, h4⟩, h5⟩ := h
  obtain ⟨gl, hdb⟩ := gd.gl h3
  have hm := gd.mx.free _ h2
  have hs := hA.star
  have hne := (bltN_ok f).1
  cases hA with
  | nil => cases h4
  | @cons e x xs es' hx hxs t =>
  have hA' : AllE (Rn S n) X N W (x :: xs) (.cons e es') := .cons hx hxs t
  have fin : ∀ (g : ∀ ds, evBlt (Rn S n) f ds = bltM f ds), CallR X (bltV f).v (rMA (Bo X N) (bltM f)) → SE X N W (.Call (.Name (bltN f) p) (x :: xs) [] pos) (ev (Rn S n) (.blt f (.cons e es'))) := fun g hc => by
    have := se_callB (pos := pos) (p := p) (f := bltV f) hc (fun ds => bltM_quiet) gl hm (bltV_boot f) hA'.sa hne hdb hs
    have e2 : ev (Rn S n) (.blt f (.cons e es')) = fun env => bnd (evL (Rn S n) (.cons e es') env) (bltM f) := by
      funext env
      show bnd _ (fun xs => evBlt (Rn S n) f xs) = _
      congr 1; funext ds; exact g ds
    rw [e2]; exact this
  have finN : ∀ (g : ∀ ds, evBlt (Rn S n) f ds = bltM f ds), CallR X (bltV f).v (rNA (Bo X N) (bltM f)) → SN X N W (.Call (.Name (bltN f) p) (x :: xs) [] pos) (ev (Rn S n) (.blt f (.cons e es'))) := fun g hc => by
    have := sn_callB (pos := pos) (p := p) (f := bltV f) hc (fun ds => bltM_quiet) gl hm (bltV_boot f) hA'.sa hne hdb hs
    have e2 : ev (Rn S n) (.blt f (.cons e es')) = fun env => bnd (evL (Rn S n) (.cons e es') env) (bltM f) := by
      funext env
      show bnd _ (fun xs => evBlt (Rn S n) f xs) = _
      congr 1; funext ds; exact g ds
    rw [e2]; exact this
  have hc : bltCalm f = true → X.calm = true := fun z => by
    rcases h1 with h1 | h1
    · exact gd.calm h1
    · rw [z] at h1; cases h1
  have hu := gd.un
  cases f with
  | len =>
    have hot : c.hot = false := by rcases h1 with h1 | h1 <;> first | exact h1 | cases h1
    have hl : xs = [] := by
      rcases h5 with h5 | h5
      · exact absurd rfl h5
      · simpa using h5
    subst hl
    cases t
    have := se_lenE (p := p) (pos := pos) (R := Rn S n) (gd.own hot) (gd.room hot) gd.grd gd.tk gl hm hx.se hxs
    refine .plain ?_ rfl rfl
    have e2 : ev (Rn S n) (.blt .len (.cons e .nil)) = fun env => bnd (ev (Rn S n) e env) fun y => evBlt (Rn S n) .len [y] := by
      funext env
      show bnd (bnd (ev (Rn S n) e env) fun y => bnd (ret []) fun ys => ret (y :: ys)) (fun ds => evBlt (Rn S n) .len ds) = _
      rw [bnd_assoc]
      rfl
    rw [e2]; exact this
  | tuple => exact .plain (fin (fun _ => bltM_is (by decide) _) cr_tuple) rfl rfl
  | list => exact .new (finN (fun _ => bltM_is (by decide) _) cr_list) rfl
  | dict => exact .new (finN (fun _ => bltM_is (by decide) _) (cr_dictD (hc rfl))) rfl
  | all => exact .plain (fin (fun _ => bltM_is (by decide) _) (cr_allD (hc rfl))) rfl rfl
  | any => exact .plain (fin (fun _ => bltM_is (by decide) _) (cr_anyD (hc rfl))) rfl rfl
  | sum => exact .plain (fin (fun _ => bltM_is (by decide) _) (cr_sumD (hc rfl))) rfl rfl
  | sorted => exact .new (finN (fun _ => bltM_is (by decide) _) (cr_sortedD (hc rfl) (by omega))) rfl
  | min => exact .plain (fin (fun _ => bltM_is (by decide) _) (cr_minD2 (hc rfl) (by omega))) rfl rfl
  | max => exact .plain (fin (fun _ => bltM_is (by decide) _) (cr_maxD2 (hc rfl) (by omega))) rfl rfl
  | abs => exact .plain (fin (fun _ => bltM_is (by decide) _) cr_absD) rfl rfl
  | int => exact .plain (fin (fun _ => bltM_is (by decide) _) cr_intD) rfl rfl
  | repr => exact .plain (fin (fun _ => bltM_is (by decide) _) (cr_reprD gd.grd (by omega))) rfl rfl
/-! ### types -/
theorem cls_hot {P : Program} {w : World} {K : PySem.W.Frag} {T : Tb} {o : Option (Addr × Nat × Addr)} (h : ClsFx ⟨P, w, K, S.nms⟩ T) : ClsFx ⟨P, w, K, S.nms.hot o⟩ T := ⟨h.own, h.exc⟩
theorem kTy_hot {P : Program} {w : World} {K : PySem.W.Frag} {o : Option (Addr × Nat × Addr)} (d : D) : kTy ⟨P, w, K, S.nms.hot o⟩ d = kTy ⟨P, w, K, S.nms⟩ d := by cases d <;> rfl
theorem tyU_hot {P : Program} {w : World} {K : PySem.W.Frag} {o : Option (Addr × Nat × Addr)} (t : Ty) : tyU ⟨P, w, K, S.nms.hot o⟩ t = tyU ⟨P, w, K, S.nms⟩ t := by cases t <;> rfl
theorem isi_hot {P : Program} {w : World} {K : PySem.W.Frag} {T : Tb} {t : Ty} {o : Option (Addr × Nat × Addr)} (h : IsiFx ⟨P, w, K, S.nms⟩ T t) : IsiFx ⟨P, w, K, S.nms.hot o⟩ T t :=
  ⟨fun d hd v hv => by rw [tyU_hot]; exact h.blt d hd v ((kTy_hot d).symm.trans hv), fun k e hk => by rw [tyU_hot]; exact h.cls k e hk⟩
theorem pe_ty {t : Ty} (gd : Gd S n X N W c) (h : cTyB S c t x = true) : PE X x (tC (tyV (Bo X N) t)) ∧ noStar x = true := by
  obtain ⟨o, hN⟩ := gd.nm
  subst hN
  have blt : ∀ (nm : Str) (ty : String) (y : Str) (q : Pos), bootBuiltins nm = some (.type ty) → nm ≠ "__name__" → (decide (y = nm) && decide (y ∈ S.free) && glB c y) = true → PE X (.Name y q) (tC (.ty ty)) := fun nm ty y q hb hn h => by
    simp only [Bool.and_eq_true, decide_eq_true_eq] at h
    obtain ⟨⟨rfl, h2⟩, h3⟩ := h
    obtain ⟨gl, hdb⟩ := gd.gl h3
    exact pe_bltn gl (gd.mx.free _ h2) hb rfl hn hdb
  cases t with
  | cls k =>
    cases x <;> first | (cases h; done) | skip
    rename_i y q
    have h : (decide (S.cls[k]? = some y) && glB c y) = true := h
    rw [Bool.and_eq_true, decide_eq_true_eq] at h
    obtain ⟨gl, hdb⟩ := gd.gl h.2
    have ec : S.nms.cls k = y := by show (S.cls[k]?).getD Str.empty = y; rw [h.1]; rfl
    refine ⟨?_, rfl⟩
    have := pe_glob (pos := q) gl (gd.mx.cls k y h.1) (v := .ref (He.ga X.K y)) rfl hdb
    rw [← ec] at this ⊢
    exact this
  | int => cases x <;> first | (cases h; done) | exact ⟨blt "int" "int" _ _ (by decide +kernel) (by decide) h, rfl⟩
  | bool => cases x <;> first | (cases h; done) | exact ⟨blt "bool" "bool" _ _ (by decide +kernel) (by decide) h, rfl⟩
  | str => cases x <;> first | (cases h; done) | exact ⟨blt "str" "str" _ _ (by decide +kernel) (by decide) h, rfl⟩
  | tuple => cases x <;> first | (cases h; done) | exact ⟨blt "tuple" "tuple" _ _ (by decide +kernel) (by decide) h, rfl⟩
  | list => cases x <;> first | (cases h; done) | exact ⟨blt "list" "list" _ _ (by decide +kernel) (by decide) h, rfl⟩
  | dict => cases x <;> first | (cases h; done) | exact ⟨blt "dict" "dict" _ _ (by decide +kernel) (by decide) h, rfl⟩
  | valueError => cases x <;> first | (cases h; done) | exact ⟨blt "ValueError" "ValueError" _ _ (by decide +kernel) (by decide) h, rfl⟩
theorem ty_list (gd : Gd S n X N W c) : ∀ {ts : List Ty} {es : List Expr}, cTys S c ts es = true → TyN X (Bo X N) es ts ∧ ∀ t ∈ ts, IsiFx (Bo X N) S.T t
  | [], [], _ => ⟨.nil, fun t h => by simp at h⟩
  | [], _ :: _, h => by cases h
  | _ :: _, [], h => by cases h
  | t :: ts, e :: es, h => by
    have h : (decide (t ∈ S.tys) && cTyB S c t e && cTys S c ts es) = true := h
    simp only [Bool.and_eq_true, decide_eq_true_eq] at h
    obtain ⟨⟨h1, h2⟩, h3⟩ := h
    obtain ⟨i1, i2⟩ := ty_list gd h3
    obtain ⟨p1, p2⟩ := pe_ty gd h2
    refine ⟨.cons p1 p2 i1, fun t' ht => ?_⟩
    rcases List.mem_cons.mp ht with rfl | ht
    · obtain ⟨o, hN⟩ := gd.nm
      subst hN
      exact isi_hot (gd.mx.isi _ h1)
    · exact i2 t' ht
/-! ### targets -/
mutual
theorem sTg (gd : Gd S n X N W c) (hc : X.calm = true) : ∀ (t : Tg) (x : Expr), cTg c t x = true → SG X N x t
  | .v i, x, h => by
    cases x <;> first | (cases h; done) | skip
    rename_i y q
    have h : (decide (c.N[i]? = some y) && locB c.sc0 y) = true := h
    rw [Bool.and_eq_true, decide_eq_true_eq] at h
    obtain ⟨h1, h2⟩ := gd.fn y (locB_ok h.2)
    exact sg_var gd.nd (by rw [gd.N_]; exact h.1) h1 h2
  | .t ts, x, h => by
    cases x <;> first | (cases h; done) | skip
    rename_i es k q
    have h : (cTgs c ts es && es.all noStar) = true := h
    rw [Bool.and_eq_true] at h
    obtain ⟨h1, h2⟩ := sTgs gd hc ts es h.1 h.2
    exact sg_tup hc h1 h.2 h2
theorem sTgs (gd : Gd S n X N W c) (hc : X.calm = true) : ∀ (ts : List Tg) (es : List Expr), cTgs c ts es = true → es.all noStar = true → SGs X N es ts ∧ es.length = ts.length
  | [], [], _, _ => ⟨sgs_nil, rfl⟩
  | [], _ :: _, h, _ => by cases h
  | _ :: _, [], h, _ => by cases h
  | t :: ts, e :: es, h, hs => by
    have h : (cTg c t e && cTgs c ts es) = true := h
    rw [Bool.and_eq_true] at h
    rw [List.all_cons, Bool.and_eq_true] at hs
    obtain ⟨h1, h2⟩ := sTgs gd hc ts es h.2 hs.2
    exact ⟨sgs_cons (sTg gd hc t e h.1) h1 (by rw [asgE_cons hs.1]; rfl), by simp [h2]⟩
end
/-- the target of a walk -/
theorem sTgU (gd : Gd S n X N W c) (hc : X.calm = true) {t : Tg} {tg : Expr} {u : Bool} (h : cTg c t tg = true) (hu : u = true → ∃ es k q, tg = .Tuple es k q) : TgOk X N u tg t := by
  unfold TgOk
  cases u with
  | false => rw [if_neg Bool.false_ne_true]; exact sTg gd hc t tg h
  | true =>
    rw [if_pos rfl]
    obtain ⟨es, k, q, rfl⟩ := hu rfl
    cases t with
    | v i => cases h
    | t ts =>
      have h : (cTgs c ts es && es.all noStar) = true := h
      rw [Bool.and_eq_true] at h
      obtain ⟨h1, h2⟩ := sTgs gd hc ts es h.1 h.2
      exact ⟨ts, rfl, sgu_tup hc h1 h.2 h2⟩
theorem blkOk {scope : Scope} {own : List Nat} (gd : Gd S n X N W c) (h : blkB c scope own = true) : BlkOk X.N X.env.scope scope (ownL c own) ∧ scope.kind = .function ∧ (ownL c own).map (·.2) = own := by
  simp only [blkB, Bool.and_eq_true, decide_eq_true_eq] at h
  obtain ⟨⟨⟨h1, h2⟩, h3⟩, h4⟩ := h
  have h2 := List.all_eq_true.mp h2
  have h3 := List.all_eq_true.mp h3
  have h4 := List.all_eq_true.mp h4
  refine ⟨⟨h1, fun y hy => of_decide_eq_true (h2 y hy), fun p hp => by rw [gd.N_]; exact of_decide_eq_true (h3 p hp), fun y hy e => ?_, fun y hy e => ?_⟩, h1, ?_⟩
  · have := h4 y hy
    rw [e] at this
    dsimp only at this
    rw [gd.sc]
    rw [Bool.or_eq_true, decide_eq_true_eq, decide_eq_true_eq] at this
    exact this
  · have := h4 y hy
    rw [gd.N_]
    rcases e with e | e <;> rw [e] at this <;> (dsimp only at this; rw [Bool.or_eq_true, decide_eq_true_eq, decide_eq_true_eq] at this; exact this)
  · unfold ownL
    rw [List.map_map]
    exact List.map_id _
end
end Dn
end
section
set_option Elab.async false
set_option linter.all false
set_option maxRecDepth 100000
set_option maxHeartbeats 4000000
/-! Dn48: what passes the checker runs as its code runs: expressions. Own work. -/
namespace Dn
open PySem PySem.Spec PyProof.Rows L2

section
variable {S : Sd} {n : Nat}
theorem copO {o : CmpOp} {op : COp} (h : decide (o = copOf op) = true) : o = copOf op := of_decide_eq_true h
theorem isU_tup {i : I} {c : Cs} {tg x : Expr} (h : cI S i c tg x = true) : isU i = true → ∃ es k q, tg = .Tuple es k q := fun u => by
  cases i <;> first | (cases u; done) | skip
  · rename_i e
    have h2 : isTup tg = true := by
      cases x <;> first | (cases h; done) | skip
      rename_i fn es kws p
      cases fn <;> first | (cases h; done) | skip
      rename_i y q
      match es, kws, h with
      | [z], [], h =>
        have h : (isTup tg && decide (y = "enumerate") && decide (y ∈ S.free) && glB c y && cE S e c z && noStar z) = true := h
        simp only [Bool.and_eq_true] at h
        exact h.1.1.1.1.1
      | [], _, h => cases h
      | [_], _ :: _, h => cases h
      | _ :: _ :: _, _, h => cases h
    cases tg <;> first | (cases h2; done) | exact ⟨_, _, _, rfl⟩
  · cases x <;> cases h
theorem own_in {own : List Nat} {c : Cs} {t : Tg} (h : ownIn own t = true) (e : (ownL c own).map (·.2) = own) : ∀ i ∈ t.vars, i ∈ (ownL c own).map (·.2) := fun i hi => by
  rw [e]; exact of_decide_eq_true (List.all_eq_true.mp h i hi)
set_option maxHeartbeats 40000000
mutual
theorem sE : ∀ (e : E) (c : Cs) (x : Expr) {X : Cx} {N : Nms} {W : WX}, cE S e c x = true → Gd S n X N W c → OkE (Rn S n) X N W e x
  | .var i, c, x, X, N, W, h, g => by
    cases x <;> first | (cases h; done) | exact ok_var g h
  | .cst d, c, x, X, N, W, h, g => by
    cases x <;> first | (cases h; done) | skip
    · rename_i k j p
      cases d <;> cases k <;> first | (cases h; done) | skip
      · exact ok_cst pe_non rfl fun m G => repV_non.mpr rfl
      · obtain rfl := of_decide_eq_true h; exact ok_cst pe_bl rfl fun m G => repV_bl.mpr rfl
      · obtain rfl := of_decide_eq_true h; exact ok_cst pe_int rfl fun m G => repV_int.mpr rfl
      · obtain rfl := of_decide_eq_true h; exact ok_cst pe_str rfl fun m G => repV_str.mpr rfl
    · rename_i y p
      cases d <;> first | (cases h; done) | skip
      rename_i f
      have h : (match S.defs.lookup f with
        | some d => decide (d.at_ = (y, none)) && glB c y
        | none => false) = true := h
      split at h
      · rename_i d hd
        rw [Bool.and_eq_true, decide_eq_true_eq] at h
        obtain ⟨gl, hdb⟩ := g.gl h.2
        obtain ⟨fd, fe, e1, F, kp, hn, hm, cf⟩ := g.mx.fn f d hd
        have hm := hm (by rw [h.1])
        rw [h.1] at hm
        refine ok_cst (pe_glob gl hm (v := .ref (He.fAd X.K (y, none))) rfl hdb) rfl fun m G => ?_
        rw [repV]
        obtain ⟨o, hN⟩ := g.nm
        subst hN
        show _ = V.ref (He.fAd X.K (S.nms.fn f))
        rw [hn, h.1]
      · cases h
  | .glb i, c, x, X, N, W, h, g => by
    cases x <;> first | (cases h; done) | exact ok_glb g rfl h
  | .tup es, c, x, X, N, W, h, g => by
    cases x <;> first | (cases h; done) | skip
    rename_i xs k p
    have h : (cEL S es c xs && decide (xs.length ≤ 1000)) = true := h
    rw [Bool.and_eq_true, decide_eq_true_eq] at h
    have hA := sEL es c xs h.1 g
    exact .plain (se_tup hA.sa h.2 hA.len) rfl rfl
  | .lst es, c, x, X, N, W, h, g => by
    cases x <;> first | (cases h; done) | skip
    rename_i xs p
    have h : (cEL S es c xs && decide (xs.length ≤ 1000)) = true := h
    rw [Bool.and_eq_true, decide_eq_true_eq] at h
    have hA := sEL es c xs h.1 g
    exact .new (sn_lst hA.sa h.2 hA.len) rfl
  | .dic es, c, x, X, N, W, h, g => by
    cases x <;> first | (cases h; done) | skip
    rename_i ks vs p
    have h : ((ks.isEmpty && vs.isEmpty && isNilL es) || cKV S es c ks vs && decide (ks.length = vs.length) && decide (ks.length ≤ 15) && !ks.isEmpty && ks.all (·.isSome)) = true := h
    rcases Bool.or_eq_true_iff.mp h with h | h
    · simp only [Bool.and_eq_true, List.isEmpty_iff] at h
      obtain ⟨⟨rfl, rfl⟩, h3⟩ := h
      have e : ev (Rn S n) (.dic es) = fun _ => ret (.dic [] []) := by
        cases es with
        | nil => funext env; rfl
        | cons _ _ => cases h3
      exact .new (by rw [e]; exact sn_dic0) rfl
    · simp only [Bool.and_eq_true, decide_eq_true_eq] at h
      obtain ⟨⟨⟨⟨h1, h2⟩, h3⟩, h4⟩, h5⟩ := h
      obtain ⟨sp, hx⟩ := sKV es c ks vs h1 g (pos := p)
      cases ks with
      | nil => cases h4
      | cons k' ks =>
        cases vs with
        | nil => cases h2
        | cons v vs =>
          cases k' with
          | none => cases h5
          | some k' => exact .new (sn_disp sp h5 h2 h3 fun env st ys st' e q hq => by
              obtain ⟨a1, a2⟩ := hx env st ys st' e q hq
              exact ⟨a1, Nat.le_trans a2 h3⟩) rfl
  | .box e, c, x, X, N, W, h, g => by
    have h : (isNew e && cE S e c x) = true := by cases x <;> exact h
    rw [Bool.and_eq_true] at h
    have ih := sE e c x h.2 g
    have hs := (ih.sn h.1).box
    have hp : plainT x = true := by
      cases x <;> first | rfl | skip
      all_goals (cases e <;> first | (cases h.1; done) | (cases h.2; done) | skip)
    exact .plain hs hp rfl
  | .bin op a b, c, x, X, N, W, h, g => by
    cases x <;> first | (cases h; done) | skip
    rename_i y o z p
    have h : (decide (o = opOf op) && cE S a c y && cE S b c z) = true := h
    simp only [Bool.and_eq_true, decide_eq_true_eq] at h
    obtain ⟨⟨rfl, h2⟩, h3⟩ := h
    exact .plain (se_bin (sE a c y h2 g).se (sE b c z h3 g).se) rfl rfl
  | .neg a, c, x, X, N, W, h, g => by
    cases x <;> first | (cases h; done) | skip
    rename_i o y p
    cases o <;> first | (cases h; done) | skip
    exact .plain (se_neg (sE a c y h g).se) rfl rfl
  | .inv a, c, x, X, N, W, h, g => by
    cases x <;> first | (cases h; done) | skip
    rename_i o y p
    cases o <;> first | (cases h; done) | skip
    exact .plain (se_inv (sE a c y h g).se) rfl rfl
  | .not a, c, x, X, N, W, h, g => by
    cases x <;> first | (cases h; done) | skip
    rename_i o y p
    cases o <;> first | (cases h; done) | skip
    have h : (cE S a c y && tstB y) = true := h
    rw [Bool.and_eq_true] at h
    have ih := sE a c y h.1 g
    exact ⟨se_not (ih.st h.2) ih.se fun env => rfl, fun _ => st_not (ih.st h.2), fun z => by cases z⟩
  | .cmp op a b, c, x, X, N, W, h, g => by
    cases x <;> first | (cases h; done) | skip
    rename_i y os zs p
    match os, zs, h with
    | [o], [z], h =>
      have h : (!c.hot && decide (o = copOf op) && !(behindInMarks o z) && cE S a c y && cE S b c z) = true := h
      simp only [Bool.and_eq_true, decide_eq_true_eq, Bool.not_eq_true'] at h
      obtain ⟨⟨⟨⟨h1, rfl⟩, h3⟩, h4⟩, h5⟩ := h
      have i1 := sE a c y h4 g
      have i2 := sE b c z h5 g
      exact ⟨se_cmpE (g.own h1) ((g.room h1).mono (by omega)) g.grd g.tk i1.se i2.se h3, fun _ => st_cmpE (g.own h1) ((g.room h1).mono (by omega)) g.grd g.tk i1.se i2.se h3, fun z => by cases z⟩
    | [], _, h => cases h
    | [_], [], h => cases h
    | [_], _ :: _ :: _, h => cases h
    | _ :: _ :: _, _, h => cases h
  | .cmpd op a b, c, x, X, N, W, h, g => by
    cases x <;> first | (cases h; done) | skip
    rename_i y os zs p
    match os, zs, h with
    | [o], [z], h =>
      have h : (decide (o = copOf op) && !(behindInMarks o z) && cE S a c y && cE S b c z) = true := h
      simp only [Bool.and_eq_true, decide_eq_true_eq, Bool.not_eq_true'] at h
      obtain ⟨⟨⟨rfl, h3⟩, h4⟩, h5⟩ := h
      have i1 := sE a c y h4 g
      have i2 := sE b c z h5 g
      have hu := g.un
      exact ⟨se_cmp (op_cmpM (by omega) op) cmpM_quiet i1.se i2.se h3, fun _ => st_cmp (op_cmpM (by omega) op) cmpM_quiet cmpM_tells i1.se i2.se h3, fun z => by cases z⟩
    | [], _, h => cases h
    | [_], [], h => cases h
    | [_], _ :: _ :: _, h => cases h
    | _ :: _ :: _, _, h => cases h
  | .cmp2 o1 o2 a b d, c, x, X, N, W, h, g => by
    cases x <;> first | (cases h; done) | skip
    rename_i y os zs p
    match os, zs, h with
    | [p1, p2], [z1, z2], h =>
      have h : (decide (p1 = copOf o1) && decide (p2 = copOf o2) && decide (o1 ≠ .eq) && decide (o1 ≠ .ne) && decide (o2 ≠ .eq) && decide (o2 ≠ .ne) && !(lastMarks [p1, p2] [z1, z2]) && cE S a c y && cE S b c z1 && cE S d c z2) = true := h
      simp only [Bool.and_eq_true, decide_eq_true_eq, Bool.not_eq_true'] at h
      obtain ⟨⟨⟨⟨⟨⟨⟨⟨⟨rfl, rfl⟩, h3⟩, h4⟩, h5⟩, h6⟩, h7⟩, h8⟩, h9⟩, h10⟩ := h
      have i1 := sE a c y h8 g
      have i2 := sE b c z1 h9 g
      have i3 := sE d c z2 h10 g
      have hu := g.un
      have e : ev (Rn S n) (.cmp2 o1 o2 a b d) = fun env => bnd (ev (Rn S n) a env) fun x => bnd (ev (Rn S n) b env) fun y => bnd (cmpM o1 x y) fun r => match r with
          | .bl true => bnd (ev (Rn S n) d env) fun z => cmpM o2 y z
          | .bl false => ret (.bl false)
          | _ => stk := by
        funext env
        show bnd (ev (Rn S n) a env) (fun x => bnd (ev (Rn S n) b env) fun y => bnd (evCmp (Rn S n) o1 x y) fun r => match r with
          | .bl true => bnd (ev (Rn S n) d env) fun z => evCmp (Rn S n) o2 y z
          | .bl false => ret (.bl false)
          | _ => stk) = _
        congr 1; funext x
        congr 1; funext y
        rw [evCmp_plain h3 h4]
        congr 1; funext r
        split <;> first | rfl | (congr 1; funext z; rw [evCmp_plain h5 h6])
      have es := se_cmp2 (pos := p) (op_cmpM (by omega) o1) (op_cmpM (by omega) o2) cmpM_quiet cmpM_quiet i1.se i2.se i3.se h7
      have et := st_cmp2 (pos := p) (op_cmpM (by omega) o1) (op_cmpM (by omega) o2) cmpM_quiet cmpM_quiet cmpM_tells i1.se i2.se i3.se h7
      refine ⟨by rw [e]; exact es, fun _ => ?_, fun z => by cases z⟩
      have e2 : evT (Rn S n) (.cmp2 o1 o2 a b d) = fun env => bnd (ev (Rn S n) (.cmp2 o1 o2 a b d) env) truM := rfl
      rw [e2, e]; exact et
    | [], _, h => cases h
    | [_], [], h => cases h
    | [_], [_], h => cases h
    | [_], _ :: _ :: _, h => cases h
    | [_, _], [], h => cases h
    | [_, _], [_], h => cases h
    | [_, _], _ :: _ :: _ :: _, h => cases h
    | _ :: _ :: _ :: _, _, h => cases h
  | .and es, c, x, X, N, W, h, g => by
    cases x <;> first | (cases h; done) | skip
    rename_i o xs p
    cases o <;> first | (cases h; done) | skip
    have h : (cEL S es c xs && !xs.isEmpty && xs.all tstB) = true := h
    simp only [Bool.and_eq_true, Bool.not_eq_true'] at h
    obtain ⟨⟨h1, h2⟩, h3⟩ := h
    have hA := sEL es c xs h1 g
    have h0 : xs ≠ [] := fun z => by subst z; cases h2
    exact ⟨hA.and_se h0, fun _ => (hA.and_sw h0 h3).pt, fun z => by cases z⟩
  | .or es, c, x, X, N, W, h, g => by
    cases x <;> first | (cases h; done) | skip
    rename_i o xs p
    cases o <;> first | (cases h; done) | skip
    have h : (cEL S es c xs && !xs.isEmpty && xs.all tstB) = true := h
    simp only [Bool.and_eq_true, Bool.not_eq_true'] at h
    obtain ⟨⟨h1, h2⟩, h3⟩ := h
    have hA := sEL es c xs h1 g
    have h0 : xs ≠ [] := fun z => by subst z; cases h2
    exact ⟨hA.or_se h0, fun _ => (hA.or_sw h0 h3).pt, fun z => by cases z⟩
  | .ite t a b, c, x, X, N, W, h, g => by
    cases x <;> first | (cases h; done) | skip
    rename_i y z w p
    have h : (cE S t c y && tstB y && cE S a c z && cE S b c w) = true := h
    simp only [Bool.and_eq_true] at h
    obtain ⟨⟨⟨h1, h2⟩, h3⟩, h4⟩ := h
    exact ⟨se_ite ((sE t c y h1 g).st h2) (sE a c z h3 g).se (sE b c w h4 g).se, (fun z => by cases z), (fun z => by cases z)⟩
  | .slc a lo hi, c, x, X, N, W, h, g => by
    cases x <;> first | (cases h; done) | skip
    rename_i y s p
    cases s <;> first | (cases h; done) | skip
    rename_i l u st q
    cases st <;> first | (cases h; done) | skip
    have h : (cE S a c y && cEO S lo c l && cEO S hi c u) = true := h
    simp only [Bool.and_eq_true] at h
    obtain ⟨⟨h1, h2⟩, h3⟩ := h
    exact .plain (se_slc (sE a c y h1 g).se (sEO lo c l h2 g) (sEO hi c u h3 g)) rfl rfl
  | .rev a, c, x, X, N, W, h, g => by
    cases x <;> cases h
  | .idx a b, c, x, X, N, W, h, g => by
    cases x <;> first | (cases h; done) | skip
    rename_i y z p
    have h : (cE S a c y && cE S b c z && noSlice z) = true := h
    simp only [Bool.and_eq_true] at h
    obtain ⟨⟨h1, h2⟩, h3⟩ := h
    have hu := g.un
    exact .plain (se_idx (by omega) (sE a c y h1 g).se (sE b c z h2 g).se (ix_plain h3)) rfl rfl
  | .atr a f, c, x, X, N, W, h, g => by
    cases x <;> first | (cases h; done) | skip
    rename_i y nm p
    have h : (!c.hot && decide (nm = S.nms.fld f) && baseOk y && cE S a c y) = true := h
    simp only [Bool.and_eq_true, decide_eq_true_eq, Bool.not_eq_true'] at h
    obtain ⟨⟨⟨h1, rfl⟩, h3⟩, h4⟩ := h
    have i1 := (sE a c y h4 g).se
    have hN := g.nm0 h1
    subst hN
    exact .plain (se_atr g.mx.fldx rfl i1 (base_plain h3 _ _ _)) rfl rfl
  | .atx a f, c, x, X, N, W, h, g => by
    cases x <;> first | (cases h; done) | skip
    rename_i y nm p
    have h : (c.hot && decide (nm = S.nms.fld f) && baseOk y && cE S a c y) = true := h
    simp only [Bool.and_eq_true, decide_eq_true_eq] at h
    obtain ⟨⟨⟨h1, rfl⟩, h3⟩, h4⟩ := h
    have i1 := (sE a c y h4 g).se
    obtain ⟨X0, x0, oe, cid, dx, pn, eX, hz, hd, hx⟩ := g.hotx h1
    obtain ⟨o, hN⟩ := g.nm
    have hl := g.mx.xld
    subst eX
    subst hN
    exact .plain (se_atx (X := X0) (N := S.nms.hot o) (T := S.T) (f := f) ⟨hl.inj, hl.fld⟩ hz hd hx i1 (base_plain h3 _ _ _)) rfl rfl
  | .call f as, c, x, X, N, W, h, g => by
    cases x <;> first | (cases h; done) | skip
    rename_i fn es kws p
    cases fn <;> first | (cases h; done) | skip
    rename_i y q
    have h : (!c.hot && glB c y && cCall S f y (fun l ds => cArgs S as c l ds) es kws) = true := h
    simp only [Bool.and_eq_true, Bool.not_eq_true'] at h
    obtain ⟨⟨h1, h2⟩, h3⟩ := h
    exact .plain (se_def g h1 obeys_D (fun fe e ds st z => callD_len e z) h2 h3 fun l ds hl => sArgs as c l ds hl g) rfl rfl
  | .callS f as, c, x, X, N, W, h, g => by
    cases x <;> first | (cases h; done) | skip
    rename_i fn es kws p
    cases fn <;> first | (cases h; done) | skip
    rename_i y q
    have h : (!c.hot && glB c y && cCall S f y (fun l ds => cArgs S as c l ds) es kws) = true := h
    simp only [Bool.and_eq_true, Bool.not_eq_true'] at h
    obtain ⟨⟨h1, h2⟩, h3⟩ := h
    exact .plain (se_def g h1 obeys_S (fun fe e ds st z => callS_len e z) h2 h3 fun l ds hl => sArgs as c l ds hl g) rfl rfl
  | .callV f as, c, x, X, N, W, h, g => by
    cases x <;> cases h
  | .mk k as, c, x, X, N, W, h, g => by
    cases x <;> first | (cases h; done) | skip
    rename_i fn es kws p
    cases fn <;> first | (cases h; done) | skip
    rename_i y q
    cases kws <;> first | (cases h; done) | skip
    have h : (!c.hot && glB c y && decide (S.cls[k]? = some y) && (match (S.T.cls[k]?).bind (·.init) with
      | some f => (match S.defs.lookup f, shOf S f (es.length + 1) [] with
        | some d, some j => decide (es.length + 1 + (dflOf S f j).length = d.ps.length) && cArgs S as c es (dflOf S f j) && es.all noStar
        | _, _ => false)
      | none => false)) = true := h
    simp only [Bool.and_eq_true, decide_eq_true_eq, Bool.not_eq_true'] at h
    obtain ⟨⟨⟨h1, h2⟩, h3⟩, h4⟩ := h
    split at h4
    · rename_i f hf
      split at h4
      · rename_i d j hd hj
        simp only [Bool.and_eq_true, decide_eq_true_eq] at h4
        obtain ⟨⟨h5, h6⟩, h7⟩ := h4
        exact .plain (se_cls g h1 h2 h3 hf hd hj h5 (sArgs as c es _ h6 g) h7) rfl rfl
      · cases h4
    · cases h4
  | .mth o m as, c, x, X, N, W, h, g => by
    cases x <;> first | (cases h; done) | skip
    rename_i fn es kws p
    cases fn <;> first | (cases h; done) | skip
    rename_i y nm q
    cases kws <;> first | (cases h; done) | skip
    have h : (!c.hot && decide (nm = S.nms.fld m) && baseOk y && (q.endLine == p.line) && decide (es.length < 30) && es.all noStar && cE S o c y && cArgs S as c es [] &&
      (S.T.cls.all fun e => match e.meths.lookup m with
        | some f => (match S.defs.lookup f, shOf S f (es.length + 1) [] with
          | some d, some j => decide (es.length + 1 = d.ps.length) && (dflOf S f j).isEmpty
          | _, _ => false)
        | none => true)) = true := h
    simp only [Bool.and_eq_true, decide_eq_true_eq, Bool.not_eq_true'] at h
    obtain ⟨⟨⟨⟨⟨⟨⟨⟨h1, rfl⟩, h3⟩, h4⟩, h5⟩, h6⟩, h7⟩, h8⟩, h9⟩ := h
    have i1 := (sE o c y h7 g).se
    have hA := sArgs as c es [] h8 g
    have hN := g.nm0 h1
    subst hN
    refine .plain (se_meth g h1 h3 h4 h5 h6 i1 hA fun e he f hf => ?_) rfl rfl
    have := List.all_eq_true.mp h9 e he
    rw [hf] at this
    dsimp only at this
    split at this
    · rename_i d j hd hj
      rw [Bool.and_eq_true, decide_eq_true_eq] at this
      exact ⟨d, j, hd, hj, this.1⟩
    · cases this
  | .blt f as, c, x, X, N, W, h, g => by
    cases x <;> first | (cases h; done) | skip
    rename_i fn es kws p
    cases fn <;> first | (cases h; done) | skip
    rename_i y q
    cases kws <;> first | (cases h; done) | skip
    have h : ((!c.hot || !bltCalm f) && decide (y = bltN f) && decide (y ∈ S.free) && glB c y && cEL S as c es && !es.isEmpty && es.all noStar && (decide (f ≠ .len) || decide (es.length = 1))) = true := h
    simp only [Bool.and_eq_true, decide_eq_true_eq] at h
    obtain ⟨⟨⟨⟨⟨⟨⟨h1, rfl⟩, h3⟩, h4⟩, h5⟩, h6⟩, h7⟩, h8⟩ := h
    exact okE_blt g (by simp only [Bool.and_eq_true, decide_eq_true_eq]; exact ⟨⟨⟨⟨h1, h3⟩, h4⟩, h6⟩, h8⟩) (sEL as c es h5 g)
  | .lrg as, c, x, X, N, W, h, g => by
    cases x <;> first | (cases h; done) | skip
    rename_i fn es kws p
    cases fn <;> first | (cases h; done) | skip
    rename_i y q
    match es, kws, h with
    | [], _, h => cases h
    | [_], _ :: _, h => cases h
    | _ :: _ :: _, _, h => cases h
    | [a], [], h =>
      have h : (!c.hot && decide (y = "list") && decide (y ∈ S.free) && glB c y && (match (generalizing := false) a with
        | .Call (.Name y _) es [] _ => decide (y = "range") && decide (y ∈ S.free) && glB c y && cEL S as c es && es.all noStar && (decide (es.length = 1) || decide (es.length = 2))
        | _ => false)) = true := h
      simp only [Bool.and_eq_true, decide_eq_true_eq, Bool.not_eq_true'] at h
      obtain ⟨⟨⟨⟨h1, rfl⟩, h3⟩, h4⟩, hh⟩ := h
      cases a <;> first | (cases hh; done) | skip
      rename_i fn2 es2 kws2 p2
      cases fn2 <;> first | (cases hh; done) | skip
      rename_i z q2
      cases kws2 <;> first | (cases hh; done) | skip
      dsimp only at hh
      simp only [Bool.and_eq_true, decide_eq_true_eq, Bool.or_eq_true] at hh
      obtain ⟨⟨⟨⟨⟨rfl, h6⟩, h7⟩, h8⟩, h9⟩, h10⟩ := hh
      have hA := sEL as c es2 h8 g
      have hc := g.calm h1
      obtain ⟨g1, _⟩ := g.gl h4
      obtain ⟨g2, _⟩ := g.gl h7
      cases hA with
      | nil => rcases h10 with z | z <;> cases z
      | @cons e1 x1 xs1 es1 hx1 hs1 t1 =>
        cases t1 with
        | nil =>
          have e : ev (Rn S n) (.lrg (.cons e1 .nil)) = fun env => bnd (ev (Rn S n) e1 env) fun x => rngL [x] := by
            funext env
            show bnd (bnd (ev (Rn S n) e1 env) fun y => bnd (ret []) fun ys => ret (y :: ys)) rngL = _
            rw [bnd_assoc]; rfl
          exact .new (by rw [e]; exact sn_lrg1 hc g1 (g.mx.free _ h3) g2 (g.mx.free _ h6) hx1.se hs1) rfl
        | @cons e2 x2 xs2 es2 hx2 hs2 t2 =>
          cases t2 with
          | nil =>
            have e : ev (Rn S n) (.lrg (.cons e1 (.cons e2 .nil))) = fun env => bnd (ev (Rn S n) e1 env) fun x => bnd (ev (Rn S n) e2 env) fun y => rngL [x, y] := by
              funext env
              show bnd (bnd (ev (Rn S n) e1 env) fun y => bnd (bnd (ev (Rn S n) e2 env) fun z => bnd (ret []) fun ys => ret (z :: ys)) fun ys => ret (y :: ys)) rngL = _
              rw [bnd_assoc]; congr 1; funext y; rw [bnd_assoc, bnd_assoc]; rfl
            exact .new (by rw [e]; exact sn_lrg2 hc g1 (g.mx.free _ h3) g2 (g.mx.free _ h6) hx1.se hs1 hx2.se hs2) rfl
          | cons _ _ _ => rcases h10 with z | z <;> simp at z
  | .trg as, c, x, X, N, W, h, g => by
    cases x <;> cases h
  | .bm o m as, c, x, X, N, W, h, g => by
    cases x <;> first | (cases h; done) | skip
    rename_i fn es kws p
    cases fn <;> first | (cases h; done) | skip
    rename_i y nm q
    cases kws <;> first | (cases h; done) | skip
    have h : (decide (m ≠ .extend) && decide (m ≠ .pop) && decide (nm = bmN m) && baseOk y && (q.endLine == p.line) && decide (es.length < 30) && es.all noStar && !es.isEmpty && cE S o c y && cEL S as c es) = true := h
    simp only [Bool.and_eq_true, decide_eq_true_eq, Bool.not_eq_true'] at h
    obtain ⟨⟨⟨⟨⟨⟨⟨⟨⟨h1, h2⟩, rfl⟩, h4⟩, h5⟩, h6⟩, h7⟩, h8⟩, h9⟩, h10⟩ := h
    have i1 := (sE o c y h9 g).se
    have hA := sEL as c es h10 g
    have hu := g.un
    cases es with
    | nil => cases h8
    | cons e es => exact .plain (se_bm (bmFx (by omega) h1 h2) i1 hA.sa (base_plain h4 _ _ _) h5 h7 h6) rfl rfl
  | .isi a ts, c, x, X, N, W, h, g => by
    cases x <;> first | (cases h; done) | skip
    rename_i fn es kws p
    cases fn <;> first | (cases h; done) | skip
    rename_i y q
    obtain ⟨o, hN⟩ := g.nm
    have hcls : ClsFx (Bo X N) S.T := by subst hN; exact cls_hot g.mx.clsx
    match es, kws, h with
    | [], _, h => cases h
    | [_], _, h => cases h
    | [_, _], _ :: _, h => cases h
    | _ :: _ :: _ :: _, _, h => cases h
    | [z, w], [], h =>
      have h : (decide (y = "isinstance") && decide (y ∈ S.free) && glB c y && cE S a c z && noStar z && (match (generalizing := false) w with
        | .Tuple es _ _ => cTys S c ts es && decide (ts.length ≤ 1000)
        | w => cTys S c ts [w] && noStar w)) = true := h
      simp only [Bool.and_eq_true, decide_eq_true_eq] at h
      obtain ⟨⟨⟨⟨⟨rfl, h2⟩, h3⟩, h4⟩, h5⟩, hh⟩ := h
      by_cases hw : ∃ es k r, w = .Tuple es k r
      · obtain ⟨es, k, r, rfl⟩ := hw
        dsimp only at hh
        rw [Bool.and_eq_true, decide_eq_true_eq] at hh
        obtain ⟨h6, h7⟩ := hh
        obtain ⟨gl, _⟩ := g.gl h3
        obtain ⟨t1, t2⟩ := ty_list g h6
        exact .plain (se_isiT (T := S.T) hcls g.ex t2 gl (g.mx.free _ h2) (sE a c z h4 g).se h5 t1 h7) rfl rfl
      · have h : (cTys S c ts [w] && noStar w) = true := by
          cases w <;> first | exact hh | exact absurd ⟨_, _, _, rfl⟩ hw
        rw [Bool.and_eq_true] at h
        obtain ⟨h6, h7⟩ := h
        obtain ⟨gl, _⟩ := g.gl h3
        obtain ⟨t1, t2⟩ := ty_list g h6
        have hl := t1.len
        match ts, t1, t2 with
        | [t], t1, t2 =>
          cases t1 with
          | cons p1 _ _ => exact .plain (se_isi1 (T := S.T) hcls g.ex (t2 t List.mem_cons_self) gl (g.mx.free _ h2) (sE a c z h4 g).se h5 p1 h7) rfl rfl
        | [], t1, t2 => cases t1
        | _ :: _ :: _, t1, t2 => cases t1; rename_i z; cases z
  | .lc e t i ifs own, c, x, X, N, W, h, g => by
    cases x <;> first | (cases h; done) | skip
    rename_i y gs scope p
    obtain ⟨tg, iter, tests, rfl, h'⟩ : ∃ tg iter tests, gs = [⟨tg, iter, tests, 0⟩] ∧ (!c.hot && blkB c scope own && cI S i c tg iter && cTg (c.blk scope) t tg && ownIn own t && notSet iter && cEL S ifs (c.blk scope) tests && decide (tests.length ≤ 1) && tests.all tstB && cE S e (c.blk scope) y) = true := by
      match gs, h with
      | [⟨tg, iter, tests, 0⟩], h => exact ⟨tg, iter, tests, rfl, h⟩
      | [], h => cases h
      | _ :: _ :: _, h => exact absurd h (by rename_i g1 g2 gr; obtain ⟨a1, a2, a3, a4⟩ := g1; cases a4 with | ofNat k => cases k <;> exact Bool.false_ne_true | negSucc k => exact Bool.false_ne_true)
      | [⟨tg, iter, tests, .ofNat (k + 1)⟩], h => cases h
      | [⟨tg, iter, tests, .negSucc k⟩], h => cases h
    simp only [Bool.and_eq_true, decide_eq_true_eq, Bool.not_eq_true'] at h'
    obtain ⟨⟨⟨⟨⟨⟨⟨⟨⟨h1, h2⟩, h3⟩, h4⟩, h5⟩, h6⟩, h7⟩, h8⟩, h9⟩, h10⟩ := h'
    obtain ⟨b1, b2, b3⟩ := blkOk g h2
    have gb := g.blk h1 scope b2
    have hc := g.calm h1
    have key := sn_lc (pos := p) (u := isU i) hc g.nd (sI i c tg iter h3 g) b1 (fun s H C cl fp => sTgU (gb s H C cl fp) hc h4 (isU_tup h3)) (own_in h5 b3) (fun s H C cl fp => (sEL ifs (c.blk scope) tests h7 (gb s H C cl fp)).tests h8 h9) (fun s H C cl fp => (sE e (c.blk scope) y h10 (gb s H C cl fp)).se) (fun x => set_plain h6 _ x)
    rw [b3] at key
    exact .new key rfl
  | .lc2 e t i ifs t2 i2 ifs2 own, c, x, X, N, W, h, g => by
    cases x <;> first | (cases h; done) | skip
    rename_i y gs scope p
    obtain ⟨tg, iter, tests, tg2, iter2, tests2, rfl, h'⟩ : ∃ tg iter tests tg2 iter2 tests2, gs = [⟨tg, iter, tests, 0⟩, ⟨tg2, iter2, tests2, 0⟩] ∧ (!c.hot && blkB c scope own && cI S i c tg iter && cTg (c.blk scope) t tg && ownIn own t && notSet iter && cEL S ifs (c.blk scope) tests && decide (tests.length ≤ 1) && tests.all tstB &&
      cI S i2 (c.blk scope) tg2 iter2 && cTg (c.blk scope) t2 tg2 && ownIn own t2 && notSet iter2 && cEL S ifs2 (c.blk scope) tests2 && decide (tests2.length ≤ 1) && tests2.all tstB && cE S e (c.blk scope) y) = true := by
      match gs, h with
      | [⟨tg, iter, tests, 0⟩, ⟨tg2, iter2, tests2, 0⟩], h => exact ⟨_, _, _, _, _, _, rfl, h⟩
      | [], h => cases h
      | [⟨tg, iter, tests, .ofNat k⟩], h => cases k <;> cases h
      | [⟨tg, iter, tests, .negSucc k⟩], h => cases h
      | ⟨tg, iter, tests, .ofNat (k + 1)⟩ :: _ :: _, h => cases h
      | ⟨tg, iter, tests, .negSucc k⟩ :: _ :: _, h => cases h
      | ⟨tg, iter, tests, .ofNat 0⟩ :: ⟨tg2, iter2, tests2, .ofNat (k + 1)⟩ :: _, h => cases h
      | ⟨tg, iter, tests, .ofNat 0⟩ :: ⟨tg2, iter2, tests2, .negSucc k⟩ :: _, h => cases h
      | ⟨tg, iter, tests, .ofNat 0⟩ :: ⟨tg2, iter2, tests2, .ofNat 0⟩ :: _ :: _, h => cases h
    simp only [Bool.and_eq_true, decide_eq_true_eq, Bool.not_eq_true'] at h'
    obtain ⟨⟨⟨⟨⟨⟨⟨⟨⟨⟨⟨⟨⟨⟨⟨⟨h1, h2⟩, h3⟩, h4⟩, h5⟩, h6⟩, h7⟩, h8⟩, h9⟩, j1⟩, j2⟩, j3⟩, j4⟩, j5⟩, j6⟩, j7⟩, h10⟩ := h'
    obtain ⟨b1, b2, b3⟩ := blkOk g h2
    have gb := g.blk h1 scope b2
    have hc := g.calm h1
    have key := sn_lc2 (pos := p) (u := isU i) (u2 := isU i2) hc g.nd (sI i c tg iter h3 g) b1 (fun s H C cl fp => sTgU (gb s H C cl fp) hc h4 (isU_tup h3)) (own_in h5 b3) (own_in j3 b3) (fun s H C cl fp => (sEL ifs (c.blk scope) tests h7 (gb s H C cl fp)).tests h8 h9)
      (fun s H C cl fp => sI i2 (c.blk scope) tg2 iter2 j1 (gb s H C cl fp)) (fun s H C cl fp => sTgU (gb s H C cl fp) hc j2 (isU_tup j1)) (fun s H C cl fp => (sEL ifs2 (c.blk scope) tests2 j5 (gb s H C cl fp)).tests j6 j7) (fun s H C cl fp => (sE e (c.blk scope) y h10 (gb s H C cl fp)).se) (fun x => set_plain h6 _ x) (fun env x => set_plain j4 env x)
    rw [b3] at key
    exact .new key rfl
  | .dc k v t i ifs own, c, x, X, N, W, h, g => by
    cases x <;> first | (cases h; done) | skip
    rename_i y z gs scope p
    obtain ⟨tg, iter, tests, rfl, h'⟩ : ∃ tg iter tests, gs = [⟨tg, iter, tests, 0⟩] ∧ (!c.hot && blkB c scope own && cI S i c tg iter && cTg (c.blk scope) t tg && ownIn own t && notSet iter && cEL S ifs (c.blk scope) tests && decide (tests.length ≤ 1) && tests.all tstB && cE S k (c.blk scope) y && cE S v (c.blk scope) z) = true := by
      match gs, h with
      | [⟨tg, iter, tests, 0⟩], h => exact ⟨tg, iter, tests, rfl, h⟩
      | [], h => cases h
      | ⟨_, _, _, .ofNat 0⟩ :: _ :: _, h => cases h
      | ⟨_, _, _, .ofNat (k + 1)⟩ :: _ :: _, h => cases h
      | ⟨_, _, _, .negSucc k⟩ :: _ :: _, h => cases h
      | [⟨tg, iter, tests, .ofNat (k + 1)⟩], h => cases h
      | [⟨tg, iter, tests, .negSucc k⟩], h => cases h
    simp only [Bool.and_eq_true, decide_eq_true_eq, Bool.not_eq_true'] at h'
    obtain ⟨⟨⟨⟨⟨⟨⟨⟨⟨⟨h1, h2⟩, h3⟩, h4⟩, h5⟩, h6⟩, h7⟩, h8⟩, h9⟩, h10⟩, h11⟩ := h'
    obtain ⟨b1, b2, b3⟩ := blkOk g h2
    have gb := g.blk h1 scope b2
    have hc := g.calm h1
    have hu := g.un
    have key := sn_dc (pos := p) (u := isU i) (by omega) hc g.nd (sI i c tg iter h3 g) b1 (fun s H C cl fp => sTgU (gb s H C cl fp) hc h4 (isU_tup h3)) (own_in h5 b3) (fun s H C cl fp => (sEL ifs (c.blk scope) tests h7 (gb s H C cl fp)).tests h8 h9) (fun s H C cl fp => (sE k (c.blk scope) y h10 (gb s H C cl fp)).se) (fun s H C cl fp => (sE v (c.blk scope) z h11 (gb s H C cl fp)).se) (fun x => set_plain h6 _ x)
    rw [b3] at key
    exact .new key rfl
theorem sEL : ∀ (es : EL) (c : Cs) (xs : List Expr) {X : Cx} {N : Nms} {W : WX}, cEL S es c xs = true → Gd S n X N W c → AllE (Rn S n) X N W xs es
  | .nil, c, [], X, N, W, h, g => .nil
  | .nil, c, _ :: _, X, N, W, h, g => by cases h
  | .cons e es, c, [], X, N, W, h, g => by cases h
  | .cons e es, c, x :: xs, X, N, W, h, g => by
    have h : (cE S e c x && noStar x && cEL S es c xs) = true := h
    simp only [Bool.and_eq_true] at h
    exact .cons (sE e c x h.1.1 g) h.1.2 (sEL es c xs h.2 g)
theorem sEO : ∀ (es : EL) (c : Cs) (o : Option Expr) {X : Cx} {N : Nms} {W : WX}, cEO S es c o = true → Gd S n X N W c → SO X N W o (evL (Rn S n) es)
  | .nil, c, none, X, N, W, h, g => so_none
  | .nil, c, some _, X, N, W, h, g => by cases h
  | .cons e .nil, c, none, X, N, W, h, g => by cases h
  | .cons e .nil, c, some x, X, N, W, h, g => so_some (sE e c x h g).se
  | .cons e (.cons _ _), c, o, X, N, W, h, g => by cases o <;> cases h
theorem sKV : ∀ (es : EL) (c : Cs) (ks : List (Option Expr)) (vs : List Expr) {X : Cx} {N : Nms} {W : WX} {pos : Pos}, cKV S es c ks vs = true → Gd S n X N W c → SP X N W pos ks vs (evL (Rn S n) es) ∧
    ∀ env st ys st', evL (Rn S n) es env st = .ok ys st' → ∀ p, kvsOf ys = some p → p.1.all D.key1 = true ∧ p.1.length ≤ ks.length
  | .nil, c, [], [], X, N, W, pos, h, g => ⟨sp_nil, fun env st ys st' e p hp => by cases e; cases hp; exact ⟨rfl, Nat.le_refl _⟩⟩
  | .nil, c, [], _ :: _, X, N, W, pos, h, g => by cases h
  | .nil, c, _ :: _, _, X, N, W, pos, h, g => by cases h
  | .cons k .nil, c, ks, vs, X, N, W, pos, h, g => by cases ks <;> cases vs <;> cases h
  | .cons k (.cons v r), c, [], vs, X, N, W, pos, h, g => by cases vs <;> cases h
  | .cons k (.cons v r), c, none :: ks, vs, X, N, W, pos, h, g => by cases vs <;> cases h
  | .cons k (.cons v r), c, some x :: ks, [], X, N, W, pos, h, g => by cases h
  | .cons k (.cons v r), c, some x :: ks, y :: vs, X, N, W, pos, h, g => by
    have h : (isConst k && cE S k c x && cE S v c y && cKV S r c ks vs) = true := h
    simp only [Bool.and_eq_true] at h
    obtain ⟨⟨⟨h1, h2⟩, h3⟩, h4⟩ := h
    obtain ⟨i1, i2⟩ := sKV r c ks vs (pos := pos) h4 g
    refine ⟨sp_cons (sE k c x h2 g).se (sE v c y h3 g).se i1, fun env st ys st' e p hp => ?_⟩
    cases k <;> first | (cases h1; done) | skip
    rename_i d
    obtain ⟨a, st1, e1, e2⟩ := bnd_ok (show bnd (ret d) (fun a => bnd (evL (Rn S n) (.cons v r) env) fun r => ret (a :: r)) st = .ok ys st' from e)
    cases e1
    obtain ⟨as, st2, e3, e4⟩ := bnd_ok e2
    cases e4
    obtain ⟨b, st3, e5, e6⟩ := bnd_ok (show bnd (ev (Rn S n) v env) (fun b => bnd (evL (Rn S n) r env) fun r => ret (b :: r)) st = .ok as st' from e3)
    obtain ⟨bs, st4, e7, e8⟩ := bnd_ok e6
    cases e8
    simp only [kvsOf] at hp
    split at hp
    · obtain ⟨q, hq, rfl⟩ := Option.map_eq_some_iff.mp hp
      obtain ⟨a1, a2⟩ := i2 env st3 bs _ e7 q hq
      exact ⟨by show (d.key1 && q.1.all D.key1) = true; rw [a1]; exact (Bool.and_true _).trans h1, by simpa using a2⟩
    · cases hp
theorem sArgs : ∀ (as : EL) (c : Cs) (xs : List Expr) (ds : List D) {X : Cx} {N : Nms} {W : WX}, cArgs S as c xs ds = true → Gd S n X N W c → AllD (Rn S n) X N W xs as ds
  | .nil, c, [], [], X, N, W, h, g => .dfl rfl
  | .nil, c, [], _ :: _, X, N, W, h, g => by cases h
  | .nil, c, _ :: _, _, X, N, W, h, g => by cases h
  | .cons e r, c, x :: xs, ds, X, N, W, h, g => by
    have h : (cE S e c x && cArgs S r c xs ds) = true := by cases e <;> exact h
    rw [Bool.and_eq_true] at h
    exact .cons (sE e c x h.1 g) (sArgs r c xs ds h.2 g)
  | .cons e r, c, [], [], X, N, W, h, g => by cases e <;> cases h
  | .cons e r, c, [], d' :: ds, X, N, W, h, g => by
    cases e <;> first | (cases h; done) | exact .dfl h
theorem sI : ∀ (i : I) (c : Cs) (tg x : Expr) {X : Cx} {N : Nms} {W : WX}, cI S i c tg x = true → Gd S n X N W c → SI X N W (isU i) tg x (evI (Rn S n) i)
  | .e e, c, tg, x, X, N, W, h, g => by
    exact si_seq (tg := tg) (sE e c x h g).se
  | .rng as, c, tg, x, X, N, W, h, g => by
    cases x <;> first | (cases h; done) | skip
    rename_i fn es kws p
    cases fn <;> first | (cases h; done) | skip
    rename_i y q
    cases kws <;> first | (cases h; done) | skip
    have h : (decide (y = "range") && decide (y ∈ S.free) && glB c y && cEL S as c es && (decide (es.length = 1) || decide (es.length = 2))) = true := h
    simp only [Bool.and_eq_true, decide_eq_true_eq, Bool.or_eq_true] at h
    obtain ⟨⟨⟨⟨rfl, h2⟩, h3⟩, h4⟩, h5⟩ := h
    obtain ⟨gl, _⟩ := g.gl h3
    have hm := g.mx.free _ h2
    have hA := sEL as c es h4 g
    have hs := hA.star
    have hl := hA.len
    match es, hA, hs, hl with
    | [a], hA, hs, hl => exact si_rng1 gl hm hA.sa (by simpa using hs) hl
    | [a, b], hA, hs, hl =>
      have hs : (noStar a && (noStar b && true)) = true := hs
      simp only [Bool.and_eq_true] at hs
      exact si_rng2 gl hm hA.sa hs.1 hs.2.1 hl
    | [], hA, hs, hl => simp at h5
    | _ :: _ :: _ :: _, hA, hs, hl => simp at h5
  | .enm e, c, tg, x, X, N, W, h, g => by
    cases x <;> first | (cases h; done) | skip
    rename_i fn es kws p
    cases fn <;> first | (cases h; done) | skip
    rename_i y q
    match es, kws, h with
    | [z], [], h =>
      have h : (isTup tg && decide (y = "enumerate") && decide (y ∈ S.free) && glB c y && cE S e c z && noStar z) = true := h
      simp only [Bool.and_eq_true, decide_eq_true_eq] at h
      obtain ⟨⟨⟨⟨⟨h0, rfl⟩, h2⟩, h3⟩, h4⟩, h5⟩ := h
      obtain ⟨gl, _⟩ := g.gl h3
      cases tg <;> first | (cases h0; done) | skip
      exact si_enm gl (g.mx.free _ h2) (sE e c z h4 g).se h5
    | [], _, h => cases h
    | [_], _ :: _, h => cases h
    | _ :: _ :: _, _, h => cases h
  | .zip a b, c, tg, x, X, N, W, h, g => by cases x <;> cases h
  | .rev e, c, tg, x, X, N, W, h, g => by
    cases x <;> first | (cases h; done) | skip
    rename_i fn es kws p
    cases fn <;> first | (cases h; done) | skip
    rename_i y q
    match es, kws, h with
    | [z], [], h =>
      have h : (decide (y = "reversed") && decide (y ∈ S.free) && glB c y && cE S e c z && noStar z) = true := h
      simp only [Bool.and_eq_true, decide_eq_true_eq] at h
      obtain ⟨⟨⟨⟨rfl, h2⟩, h3⟩, h4⟩, h5⟩ := h
      obtain ⟨gl, _⟩ := g.gl h3
      exact si_rev gl (g.mx.free _ h2) (sE e c z h4 g).se h5
    | [], _, h => cases h
    | [_], _ :: _, h => cases h
    | _ :: _ :: _, _, h => cases h
  | .revr as, c, tg, x, X, N, W, h, g => by cases x <;> cases h
end
end
end Dn
end
section
set_option Elab.async false
set_option linter.all false
set_option maxRecDepth 100000
set_option maxHeartbeats 4000000
/-! Dn49: the checker: statements. Own work. -/
namespace Dn
open PySem PySem.Spec PyProof.Rows L2

def compScope : Expr → Option Scope
  | .ListComp _ _ s _ => some s
  | .SetComp _ _ s _ => some s
  | .DictComp _ _ _ s _ => some s
  | _ => none
/-- does the machine store within the comprehension? -/
def swB (c : Cs) (x : Str) (p : Pos) (e : Expr) : Bool := match compScope e with
  | some s => c.sc.names.lookup x == some .local && p.line == e.pos.line && !(s.names.any fun q => q.1 == x && (q.2 == .local || q.2 == .cell))
  | none => false
def isKDc : E → Bool
  | .lc .. => true
  | .lc2 .. => true
  | .dc .. => true
  | _ => false
/-- a comprehension, boxed or not -/
def isCompE : E → Bool
  | .box e => isKDc e
  | e => isKDc e
/-- two names at once: does the machine store them without a tuple? -/
def parB (c : Cs) (ts vs : List Expr) : Bool := match ts, vs with
  | [.Name x px, .Name y py], [a, b] => decide (c.sc.names.lookup x = some .local) && decide (c.sc.names.lookup y = some .local) && decide (px.line = py.line) && decide (x ≠ y) && !([a, b].all (foldedForSure 8)) && !([a, b].all (constantsAlone 8)) && noStar a && noStar b
  | _, _ => false
def parN (c : Cs) (ts : List Expr) : Bool := match ts with
  | [.Name x px, .Name y py] => !(decide (c.sc.names.lookup x = some .local) && decide (c.sc.names.lookup y = some .local))
  | _ => false
mutual
def cS (S : Sd) : Dn.S → Cs → Stmt → Bool
  | .exp e, c, .Expr x _ => cE S e c x && !isComp x
  | .asg (.v i) e, c, .Assign [.Name y p] x _ => decide (c.N[i]? = some y) && locB c.sc0 y && cE S e c x && (!isComp x || !(swB c y p x) || isCompE e)
  | .asg (.t ts) e, c, .Assign [.Tuple es k p] x _ => !c.hot && cTg c (.t ts) (.Tuple es k p) && cE S e c x && !isComp x && (!isTup x || parN c es)
  | .par is es, c, .Assign ts (.Tuple vs _ _) _ => !c.hot && cEL S es c vs && (match is, ts with
    | [i, j], [.Tuple [.Name x px, .Name y py] _ _] => decide (c.N[i]? = some x) && decide (c.N[j]? = some y) && decide (i ≠ j) && parB c [.Name x px, .Name y py] vs
    | _, _ => false)
  | .aug i op e, c, .AugAssign t o x _ => cE S e c x && (match op, t, o with
    | .add, .Name y _, .Add => decide (c.N[i]? = some y) && locB c.sc0 y
    | _, _, _ => false)
  | .sub o i e, c, .Assign [.Subscript y z _] x _ => cE S o c y && cE S i c z && cE S e c x
  | .atrS o f e, c, .Assign [.Attribute y nm _] x _ => !c.hot && decide (nm = S.nms.fld f) && cE S o c y && cE S e c x
  | .ret e, c, .Return (some x) _ => cE S e c x
  | .retN, c, .Return none _ => true
  | .iff t a b, c, .If x ss ss' _ => cE S t c x && tstB x && cSL S a c ss && cSL S b c ss'
  | .for t i b, c, .For tg iter body [] _ => !c.hot && cI S i c tg iter && cTg c t tg && notSet iter && cSL S b c body
  | .whl t b, c, .While x body [] _ => cE S t c x && tstB x && cSL S b c body
  | .rai k as, c, .Raise (some (.Call (.Name x _) es [] _)) none _ => !c.hot && glB c x && decide (S.cls[k]? = some x) && (S.ini.lookup k).isSome && decide ((S.T.cls[k]?).map (·.err) = some true) && cEL S as c es && !es.isEmpty
  | .try b k i h, c, .Try body [.ExceptHandler (some (.Name x _)) (some nm) suite _] [] [] _ => !c.hot && c.top && decide (k ∈ S.hnd) && glB c x && decide (S.cls[k]? = some x) && decide (c.N[i]? = some nm) && decide (c.sc.names.lookup nm = some .local) && !suite.isEmpty && cSL S b c body && cSL S h { c with hot := true, top := false } suite
  | .pas, c, .Pass _ => true
  | .brk, c, .Break _ => true
  | .cnt, c, .Continue _ => true
  | _, _, _ => false
def cSL (S : Sd) : SL → Cs → List Stmt → Bool
  | .nil, c, [] => true
  | .cons s ss, c, x :: xs => cS S s c x && cSL S ss c xs
  | _, _, _ => false
end
/-! ### what the machine does with stores -/
section
variable {S : Sd} {n : Nat} {X : Cx} {N : Nms} {W : WX} {c : Cs}
theorem swaps_none {e : Expr} (h : isComp e = false) (t : Option Expr) (l : Nat) (env : PySem.Env) : swapsWith e t l env = pure false := swaps_no h
theorem swaps_sub {e y z : Expr} {p : Pos} (l : Nat) (env : PySem.Env) : swapsWith e (some (.Subscript y z p)) l env = pure false := by cases e <;> rfl
theorem swaps_atr {e y : Expr} {n : Str} {p : Pos} (l : Nat) (env : PySem.Env) : swapsWith e (some (.Attribute y n p)) l env = pure false := by cases e <;> rfl
theorem Gd.bk (g : Gd S n X N W c) : X.env.blockKind = .function := by
  unfold PySem.Env.blockKind
  rw [g.kind]; rfl
theorem swaps_is (g : Gd S n X N W c) {e : Expr} {x : Str} {p : Pos} {l : Nat} (h : isComp e = true) : swapsWith e (some (.Name x p)) l X.env = pure (swB c x p e) := by
  have hk : ∀ y, X.env.kindOf y = c.sc.names.lookup y := fun y => by show X.env.scope.names.lookup y = _; rw [g.sc]
  have hb := g.bk
  cases e <;> first | (cases h; done) | skip
  all_goals (
    unfold swapsWith swB compScope
    dsimp only
    rw [hb, hk]
    rfl)
end
end Dn
end
section
set_option Elab.async false
set_option linter.all false
set_option maxRecDepth 100000
set_option maxHeartbeats 4000000
/-! Dn50: assignments. Own work. -/
namespace Dn
open PySem PySem.Spec PyProof.Rows L2

section
variable {Z : Sd} {n : Nat} {X : Cx} {N : Nms} {W : WX} {c : Cs}
theorem inv_lc {e : E} {t : Tg} {i : I} {ifs : EL} {own : List Nat} {x : Expr} (h : cE Z (.lc e t i ifs own) c x = true) : ∃ y tg iter tests scope p, x = .ListComp y [⟨tg, iter, tests, 0⟩] scope p ∧ c.hot = false ∧ blkB c scope own = true ∧ cI Z i c tg iter = true ∧ cTg (c.blk scope) t tg = true ∧ ownIn own t = true ∧ notSet iter = true ∧
    cEL Z ifs (c.blk scope) tests = true ∧ tests.length ≤ 1 ∧ tests.all tstB = true ∧ cE Z e (c.blk scope) y = true := by
  cases x <;> first | (cases h; done) | skip
  rename_i y gs scope p
  match gs, h with
  | [⟨tg, iter, tests, .ofNat 0⟩], h =>
    have h' : (!c.hot && blkB c scope own && cI Z i c tg iter && cTg (c.blk scope) t tg && ownIn own t && notSet iter && cEL Z ifs (c.blk scope) tests && decide (tests.length ≤ 1) && tests.all tstB && cE Z e (c.blk scope) y) = true := h
    simp only [Bool.and_eq_true, decide_eq_true_eq, Bool.not_eq_true'] at h'
    obtain ⟨⟨⟨⟨⟨⟨⟨⟨⟨h1, h2⟩, h3⟩, h4⟩, h5⟩, h6⟩, h7⟩, h8⟩, h9⟩, h10⟩ := h'
    exact ⟨y, tg, iter, tests, scope, p, rfl, h1, h2, h3, h4, h5, h6, h7, h8, h9, h10⟩
  | [], h => cases h
  | ⟨_, _, _, .ofNat 0⟩ :: _ :: _, h => cases h
  | ⟨_, _, _, .ofNat (k + 1)⟩ :: _ :: _, h => cases h
  | ⟨_, _, _, .negSucc k⟩ :: _ :: _, h => cases h
  | [⟨tg, iter, tests, .ofNat (k + 1)⟩], h => cases h
  | [⟨tg, iter, tests, .negSucc k⟩], h => cases h
theorem inv_lc2 {e : E} {t t2 : Tg} {i i2 : I} {ifs ifs2 : EL} {own : List Nat} {x : Expr} (h : cE Z (.lc2 e t i ifs t2 i2 ifs2 own) c x = true) : ∃ y tg iter tests tg2 iter2 tests2 scope p, x = .ListComp y [⟨tg, iter, tests, 0⟩, ⟨tg2, iter2, tests2, 0⟩] scope p ∧ c.hot = false ∧ blkB c scope own = true ∧ cI Z i c tg iter = true ∧ cTg (c.blk scope) t tg = true ∧ ownIn own t = true ∧ notSet iter = true ∧
    cEL Z ifs (c.blk scope) tests = true ∧ tests.length ≤ 1 ∧ tests.all tstB = true ∧ cI Z i2 (c.blk scope) tg2 iter2 = true ∧ cTg (c.blk scope) t2 tg2 = true ∧ ownIn own t2 = true ∧ notSet iter2 = true ∧ cEL Z ifs2 (c.blk scope) tests2 = true ∧ tests2.length ≤ 1 ∧ tests2.all tstB = true ∧ cE Z e (c.blk scope) y = true := by
  cases x <;> first | (cases h; done) | skip
  rename_i y gs scope p
  match gs, h with
  | [⟨tg, iter, tests, .ofNat 0⟩, ⟨tg2, iter2, tests2, .ofNat 0⟩], h =>
    have h' : (!c.hot && blkB c scope own && cI Z i c tg iter && cTg (c.blk scope) t tg && ownIn own t && notSet iter && cEL Z ifs (c.blk scope) tests && decide (tests.length ≤ 1) && tests.all tstB &&
      cI Z i2 (c.blk scope) tg2 iter2 && cTg (c.blk scope) t2 tg2 && ownIn own t2 && notSet iter2 && cEL Z ifs2 (c.blk scope) tests2 && decide (tests2.length ≤ 1) && tests2.all tstB && cE Z e (c.blk scope) y) = true := h
    simp only [Bool.and_eq_true, decide_eq_true_eq, Bool.not_eq_true'] at h'
    obtain ⟨⟨⟨⟨⟨⟨⟨⟨⟨⟨⟨⟨⟨⟨⟨⟨h1, h2⟩, h3⟩, h4⟩, h5⟩, h6⟩, h7⟩, h8⟩, h9⟩, j1⟩, j2⟩, j3⟩, j4⟩, j5⟩, j6⟩, j7⟩, h10⟩ := h'
    exact ⟨y, tg, iter, tests, tg2, iter2, tests2, scope, p, rfl, h1, h2, h3, h4, h5, h6, h7, h8, h9, j1, j2, j3, j4, j5, j6, j7, h10⟩
  | [], h => cases h
  | [⟨tg, iter, tests, .ofNat k⟩], h => cases k <;> cases h
  | [⟨tg, iter, tests, .negSucc k⟩], h => cases h
  | ⟨tg, iter, tests, .ofNat (k + 1)⟩ :: _ :: _, h => cases h
  | ⟨tg, iter, tests, .negSucc k⟩ :: _ :: _, h => cases h
  | ⟨tg, iter, tests, .ofNat 0⟩ :: ⟨tg2, iter2, tests2, .ofNat (k + 1)⟩ :: _, h => cases h
  | ⟨tg, iter, tests, .ofNat 0⟩ :: ⟨tg2, iter2, tests2, .negSucc k⟩ :: _, h => cases h
  | ⟨tg, iter, tests, .ofNat 0⟩ :: ⟨tg2, iter2, tests2, .ofNat 0⟩ :: _ :: _, h => cases h
theorem inv_dc {k v : E} {t : Tg} {i : I} {ifs : EL} {own : List Nat} {x : Expr} (h : cE Z (.dc k v t i ifs own) c x = true) : ∃ y z tg iter tests scope p, x = .DictComp y z [⟨tg, iter, tests, 0⟩] scope p ∧ c.hot = false ∧ blkB c scope own = true ∧ cI Z i c tg iter = true ∧ cTg (c.blk scope) t tg = true ∧ ownIn own t = true ∧ notSet iter = true ∧
    cEL Z ifs (c.blk scope) tests = true ∧ tests.length ≤ 1 ∧ tests.all tstB = true ∧ cE Z k (c.blk scope) y = true ∧ cE Z v (c.blk scope) z = true := by
  cases x <;> first | (cases h; done) | skip
  rename_i y z gs scope p
  match gs, h with
  | [⟨tg, iter, tests, .ofNat 0⟩], h =>
    have h' : (!c.hot && blkB c scope own && cI Z i c tg iter && cTg (c.blk scope) t tg && ownIn own t && notSet iter && cEL Z ifs (c.blk scope) tests && decide (tests.length ≤ 1) && tests.all tstB && cE Z k (c.blk scope) y && cE Z v (c.blk scope) z) = true := h
    simp only [Bool.and_eq_true, decide_eq_true_eq, Bool.not_eq_true'] at h'
    obtain ⟨⟨⟨⟨⟨⟨⟨⟨⟨⟨h1, h2⟩, h3⟩, h4⟩, h5⟩, h6⟩, h7⟩, h8⟩, h9⟩, h10⟩, h11⟩ := h'
    exact ⟨y, z, tg, iter, tests, scope, p, rfl, h1, h2, h3, h4, h5, h6, h7, h8, h9, h10, h11⟩
  | [], h => cases h
  | ⟨_, _, _, .ofNat 0⟩ :: _ :: _, h => cases h
  | ⟨_, _, _, .ofNat (k + 1)⟩ :: _ :: _, h => cases h
  | ⟨_, _, _, .negSucc k⟩ :: _ :: _, h => cases h
  | [⟨tg, iter, tests, .ofNat (k + 1)⟩], h => cases h
  | [⟨tg, iter, tests, .negSucc k⟩], h => cases h
/-- name = e, the machine's plain way -/
theorem ss_asgP {i : Nat} {y : Str} {x : Expr} {xe : Env → M D} {pos pos' : Pos} (g : Gd Z n X N W c) (h1 : c.N[i]? = some y) (h2 : locB c.sc0 y = true) (he : SE X N W x xe) (hsw : swapsWith x (some (.Name y pos')) pos.line X.env = pure false) :
    SS X N W (.Assign [.Name y pos'] x pos) (fun env st => vl (xe env) env st fun y st1 => match bindT st1 (.v i) y env with
    | some env' => .nx env' st1
    | none => .stk) := by
  obtain ⟨l1, l2⟩ := g.fn y (locB_ok h2)
  refine PS.imp (ps_set g.nd (by rw [g.N_]; exact h1) l1 he hsw l2) fun E σ H q => ?_
  obtain ⟨m, G, st, env, rs, re, p⟩ := q
  refine vl_tD rs re p fun d st1 m1 G1 H1 v rs1 re1 x1 hv p1 => ?_
  rw [bindT] at p1
  split at p1
  · rename_i env' h
    split at h
    · cases h; exact p1.nxt rs1 (re1.set i hv)
    · cases h
  · exact p1.elim
/-- a, b = e, the machine's plain way -/
theorem ss_asgQ {es : List Expr} {k : Nat} {ts : List Tg} {e : Expr} {xe : Env → M D} {pos pos' : Pos} (hg : SG X N (.Tuple es k pos') (.t ts)) (he : SE X N W e xe) (hc : isComp e = false) (ht : swappedStores [.Tuple es k pos'] e X.env = pure none) :
    SS X N W (.Assign [.Tuple es k pos'] e pos) (fun env st => vl (xe env) env st fun y st1 => match bindT st1 (.t ts) y env with
    | some env' => .nx env' st1
    | none => .stk) := by
  refine PS.imp (ps_asg he hg (by first | (unfold swapsWithSole; exact swaps_no hc) | (cases e <;> first | (cases hc; done) | rfl)) ht rfl) fun E σ H q => ?_
  obtain ⟨m, G, st, env, rs, re, p⟩ := q
  refine vl_tD rs re p fun d st1 m1 G1 H1 v rs1 re1 x1 hv p1 => ?_
  cases h : bindT st1 (.t ts) d env with
  | some env' => simp only [h] at p1; exact ⟨m1, G1, st1, env, env', d, rs1, re1, hv, h, fun σ' re' _ => p1.nxt rs1 re'⟩
  | none => simp only [h] at p1; exact p1.elim
theorem Gd.kd (g : Gd Z n X N W c) (y : Str) : X.env.kindOf y = c.sc.names.lookup y := by show X.env.scope.names.lookup y = _; rw [g.sc]
theorem par_sw (g : Gd Z n X N W c) {x y : Str} {px py pt pos2 : Pos} {kt k2 : Nat} {a b : Expr} (h : parB c [.Name x px, .Name y py] [a, b] = true) : swappedStores [.Tuple [.Name x px, .Name y py] kt pt] (.Tuple [a, b] k2 pos2) X.env = pure (some [x, y]) ∧ X.env.scope.names.lookup x = some .local ∧ X.env.scope.names.lookup y = some .local := by
  have h : (decide (c.sc.names.lookup x = some .local) && decide (c.sc.names.lookup y = some .local) && decide (px.line = py.line) && decide (x ≠ y) && !([a, b].all (foldedForSure 8)) && !([a, b].all (constantsAlone 8)) && noStar a && noStar b) = true := h
  simp only [Bool.and_eq_true, decide_eq_true_eq, Bool.not_eq_true'] at h
  obtain ⟨⟨⟨⟨⟨⟨⟨h1, h2⟩, h3⟩, h4⟩, h5⟩, h6⟩, h7⟩, h8⟩ := h
  refine ⟨?_, by rw [g.sc]; exact h1, by rw [g.sc]; exact h2⟩
  have b1 := g.bk
  have k1 : X.env.kindOf x = some .local := (g.kd x).trans h1
  have k2 : X.env.kindOf y = some .local := (g.kd y).trans h2
  have hd : [x, y].eraseDups = [x, y] := by
    have : (!y == x) = true := by simpa using fun e => h4 e.symm
    rw [List.eraseDups_cons, List.filter_cons, if_pos this, List.filter_nil, List.eraseDups_cons, List.filter_nil, List.eraseDups_nil]
  unfold swappedStores
  have e3 : (py.line == px.line) = true := by rw [h3]; exact beq_self_eq_true _
  simp only [List.length_cons, List.length_nil, b1, List.any_cons, List.any_nil, List.head?_cons, Option.map_some, Option.getD_some, Expr.pos, List.filterMap_cons, List.filterMap_nil, k1, k2, e3, h5, h6, hd]
  simp [h5, h6, hd]
  intro h
  exfalso
  rcases h with h | h
  · cases a <;> first | (cases h7; done) | cases h
  · cases b <;> first | (cases h8; done) | cases h
theorem par_no (g : Gd Z n X N W c) {es : List Expr} {pt : Pos} {kt : Nat} {e : Expr} (h : parN c es = true) : swappedStores [.Tuple es kt pt] e X.env = pure none := by
  unfold parN at h
  split at h
  · rename_i x px y py
    have hn : ((X.env.kindOf x == some .local) && (X.env.kindOf y == some .local)) = false := by
      rw [g.kd, g.kd]
      simpa [Decidable.imp_iff_not_or] using h
    unfold swappedStores
    cases e <;> first | rfl | skip
    rename_i vs k p
    cases b1 : (X.env.kindOf x == some .local) <;> cases b2 : (X.env.kindOf y == some .local) <;> first | (rw [b1, b2] at hn; cases hn; done) | skip
    all_goals (
      simp only [List.filterMap_cons, List.filterMap_nil, b1, b2, Bool.false_and, Bool.true_and, Bool.false_eq_true, if_false]
      split
      · rfl
      · split
        · rfl
        · first
          | (split
             · rfl
             · split at * <;> simp_all)
          | simp_all)
  · cases h
end
end Dn
end
section
set_option Elab.async false
set_option linter.all false
set_option maxRecDepth 100000
set_option maxHeartbeats 4000000
/-! Dn51: what passes the checker runs as its code runs: statements. Own work. -/
namespace Dn
open PySem PySem.Spec PyProof.Rows L2

section
variable {Z : Sd} {n : Nat}
theorem Gd.tr {X : Cx} {N : Nms} {W W' : WX} {c : Cs} (g : Gd Z n X N W c) (hot : c.hot = false) {pn : List (Addr × Obj)} {xe : Value → Shared → Prop} (tk : Takes (X.tr pn xe) W') (ps : PassesOwn (model X.prog X.w) X.A X.env xe) : Gd Z n (X.tr pn xe) N W' c := {
  mx := g.mx, nm := g.nm, nm0 := g.nm0, N_ := g.N_, sc := g.sc, nd := g.nd, fn := g.fn, kind := g.kind, room := g.room, calm := g.calm, un := g.un, grd := g.grd
  tk := tk
  pass := ps
  ex := fun a k dx e => by rw [g.nm0 hot] at e; cases e
  stk := g.stk
  hotx := fun z => by rw [hot] at z; cases z }
theorem Gd.su {X : Cx} {N : Nms} {W : WX} {c : Cs} (g : Gd Z n X N W c) (hot : c.hot = false) {a : Addr} {oe : Obj} {cid : Nat} {dx : Addr} {pn : List (Addr × Obj)} (hz : Zc (.ref (He.ga X.K (N.cls cid))) (some dx) oe) (hd : ∃ vs, oe.data = .fields vs) :
    Gd Z n (Cx.suite X a ((a, oe) :: pn)) (N.hot (some (a, cid, dx))) W0 { c with hot := true, top := false } := by
  have hN := g.nm0 hot
  subst hN
  exact {
    mx := g.mx
    nm := ⟨_, rfl⟩
    nm0 := fun z => by cases z
    N_ := g.N_
    sc := g.sc
    nd := g.nd
    fn := g.fn
    kind := g.kind
    room := fun z => by cases z
    calm := fun z => by cases z
    un := g.un
    grd := g.grd
    tk := LamX.takes0
    pass := .never
    ex := fun a' k dx' e => by
      cases e
      exact ⟨oe, List.mem_cons_self, hz, hd⟩
    stk := fun z => by cases z
    hotx := fun _ => ⟨X, a, oe, cid, dx, pn, rfl, hz, hd, rfl⟩ }
/-- name = comprehension -/
theorem ss_comp {X : Cx} {N : Nms} {W : WX} {c : Cs} {i : Nat} {y : Str} {x : Expr} {e : E} {p pos : Pos} (g : Gd Z n X N W c) (h1 : c.N[i]? = some y) (h2 : locB c.sc0 y = true) (hsw : swB c y p x = true) (hc : isComp x = true) (hk : isCompE e = true) (h : cE Z e c x = true) :
    SS X N W (.Assign [.Name y p] x pos) (evS (Rn Z n) (.asg (.v i) e)) := by
  have sw := swaps_is (l := pos.line) g (p := p) (x := y) hc
  rw [hsw] at sw
  have hl : X.env.scope.names.lookup y = some .local := by
    unfold swB at hsw
    split at hsw
    · simp only [Bool.and_eq_true, beq_iff_eq] at hsw
      rw [g.sc]; exact hsw.1.1
    · cases hsw
  have hNi : X.N[i]? = some y := by rw [g.N_]; exact h1
  have hu := g.un
  have main : ∀ (e0 : E) (bx : Bool), isKDc e0 = true → cE Z e0 c x = true → ∀ {xf : Env → M D}, (∀ env, xf env = bnd (ev (Rn Z n) e0 env) (if bx then alloc else ret)) → SS X N W (.Assign [.Name y p] x pos) (fun env st => vl (xf env) env st fun x st1 => match bindT st1 (.v i) x env with
    | some env' => .nx env' st1
    | none => .stk) := by
    intro e0 bx hk0 h0 xf hxf
    have exf : xf = fun env => bnd (ev (Rn Z n) e0 env) (if bx then alloc else ret) := funext hxf
    rw [exf]
    cases e0 <;> first | (cases hk0; done) | skip
    · rename_i e t it ifs own
      obtain ⟨z, tg, iter, tests, scope, q, rfl, a1, a2, a3, a4, a5, a6, a7, a8, a9, a10⟩ := inv_lc h0
      obtain ⟨b1, b2, b3⟩ := blkOk g a2
      have gb := g.blk a1 scope b2
      have hc := g.calm a1
      have key := ss_setLc (pos := q) (u := isU it) hc g.nd hNi hl sw (sI it c tg iter a3 g) b1 (fun s H C cl fp => sTgU (gb s H C cl fp) hc a4 (isU_tup a3)) (own_in a5 b3) (fun s H C cl fp => (sEL ifs (c.blk scope) tests a7 (gb s H C cl fp)).tests a8 a9) (fun s H C cl fp => (sE e (c.blk scope) z a10 (gb s H C cl fp)).se) (fun x => set_plain a6 _ x) bx
      rw [b3] at key
      exact key
    · rename_i e t it ifs t2 it2 ifs2 own
      obtain ⟨z, tg, iter, tests, tg2, iter2, tests2, scope, q, rfl, a1, a2, a3, a4, a5, a6, a7, a8, a9, j1, j2, j3, j4, j5, j6, j7, a10⟩ := inv_lc2 h0
      obtain ⟨b1, b2, b3⟩ := blkOk g a2
      have gb := g.blk a1 scope b2
      have hc := g.calm a1
      have key := ss_setLc2 (pos := q) (u := isU it) (u2 := isU it2) hc g.nd hNi hl sw (sI it c tg iter a3 g) b1 (fun s H C cl fp => sTgU (gb s H C cl fp) hc a4 (isU_tup a3)) (own_in a5 b3) (own_in j3 b3) (fun s H C cl fp => (sEL ifs (c.blk scope) tests a7 (gb s H C cl fp)).tests a8 a9)
        (fun s H C cl fp => sI it2 (c.blk scope) tg2 iter2 j1 (gb s H C cl fp)) (fun s H C cl fp => sTgU (gb s H C cl fp) hc j2 (isU_tup j1)) (fun s H C cl fp => (sEL ifs2 (c.blk scope) tests2 j5 (gb s H C cl fp)).tests j6 j7) (fun s H C cl fp => (sE e (c.blk scope) z a10 (gb s H C cl fp)).se) (fun x => set_plain a6 _ x) (fun env x => set_plain j4 env x) bx
      rw [b3] at key
      exact key
    · rename_i k v t it ifs own
      obtain ⟨z, z2, tg, iter, tests, scope, q, rfl, a1, a2, a3, a4, a5, a6, a7, a8, a9, a10, a11⟩ := inv_dc h0
      obtain ⟨b1, b2, b3⟩ := blkOk g a2
      have gb := g.blk a1 scope b2
      have hc := g.calm a1
      have key := ss_setDc (pos := q) (u := isU it) (by omega) hc g.nd hNi hl sw (sI it c tg iter a3 g) b1 (fun s H C cl fp => sTgU (gb s H C cl fp) hc a4 (isU_tup a3)) (own_in a5 b3) (fun s H C cl fp => (sEL ifs (c.blk scope) tests a7 (gb s H C cl fp)).tests a8 a9) (fun s H C cl fp => (sE k (c.blk scope) z a10 (gb s H C cl fp)).se) (fun s H C cl fp => (sE v (c.blk scope) z2 a11 (gb s H C cl fp)).se) (fun x => set_plain a6 _ x) bx
      rw [b3] at key
      exact key
  cases e <;> first | (cases hk; done) | skip
  · rename_i e0
    have h : (isNew e0 && cE Z e0 c x) = true := by cases x <;> exact h
    rw [Bool.and_eq_true] at h
    exact main e0 true hk h.2 (fun env => rfl)
  · exact main _ false rfl h (fun env => (bnd_ret _).symm)
  · exact main _ false rfl h (fun env => (bnd_ret _).symm)
  · exact main _ false rfl h (fun env => (bnd_ret _).symm)
set_option maxHeartbeats 40000000
mutual
theorem sS : ∀ (s : Dn.S) (c : Cs) (x : Stmt) {X : Cx} {N : Nms} {W : WX}, cS Z s c x = true → Gd Z n X N W c → SS X N W x (evS (Rn Z n) s)
  | .exp e, c, x, X, N, W, h, g => by
    cases x <;> first | (cases h; done) | skip
    rename_i y p
    have h : (cE Z e c y && !isComp y) = true := h
    rw [Bool.and_eq_true, Bool.not_eq_true'] at h
    exact ss_exp (sE e c y h.1 g).se (swaps_no h.2)
  | .asg (.v i) e, c, x, X, N, W, h, g => by
    cases x <;> first | (cases h; done) | skip
    rename_i ts y p
    match ts, h with
    | [], h => cases h
    | _ :: _ :: _, h => exact absurd h (by rename_i a b r; cases a <;> exact Bool.false_ne_true)
    | [t], h =>
      cases t <;> first | (cases h; done) | skip
      rename_i nm q
      have h : (decide (c.N[i]? = some nm) && locB c.sc0 nm && cE Z e c y && (!isComp y || !(swB c nm q y) || isCompE e)) = true := h
      simp only [Bool.and_eq_true, decide_eq_true_eq] at h
      obtain ⟨⟨⟨h1, h2⟩, h3⟩, h4⟩ := h
      cases hc : isComp y with
      | false => exact ss_asgP g h1 h2 (sE e c y h3 g).se (swaps_no hc)
      | true =>
        cases hs : swB c nm q y with
        | false => exact ss_asgP g h1 h2 (sE e c y h3 g).se ((swaps_is g hc).trans (by rw [hs]))
        | true =>
          rw [hc, hs] at h4
          exact ss_comp g h1 h2 hs hc h4 h3
  | .asg (.t ts) e, c, x, X, N, W, h, g => by
    cases x <;> first | (cases h; done) | skip
    rename_i ys y p
    match ys, h with
    | [], h => cases h
    | _ :: _ :: _, h => exact absurd h (by rename_i a b r; cases a <;> exact Bool.false_ne_true)
    | [t], h =>
      cases t <;> first | (cases h; done) | skip
      rename_i es k q
      have h : (!c.hot && cTg c (.t ts) (.Tuple es k q) && cE Z e c y && !isComp y && (!isTup y || parN c es)) = true := h
      simp only [Bool.and_eq_true, Bool.not_eq_true'] at h
      obtain ⟨⟨⟨⟨h1, h2⟩, h3⟩, h4⟩, h5⟩ := h
      refine ss_asgQ (sTg g (g.calm h1) _ _ h2) (sE e c y h3 g).se h4 ?_
      rcases Bool.or_eq_true_iff.mp h5 with z | z
      · exact stores_no (by simpa using z)
      · exact par_no g z
  | .par is es, c, x, X, N, W, h, g => by
    cases x <;> first | (cases h; done) | skip
    rename_i ys y p
    cases y <;> first | (cases h; done) | skip
    rename_i vs k2 q2
    have h' : (!c.hot && cEL Z es c vs && (match (generalizing := false) is, ys with
      | [i, j], [.Tuple [.Name x px, .Name y py] _ _] => decide (c.N[i]? = some x) && decide (c.N[j]? = some y) && decide (i ≠ j) && parB c [.Name x px, .Name y py] vs
      | _, _ => false)) = true := h
    simp only [Bool.and_eq_true, Bool.not_eq_true'] at h'
    obtain ⟨⟨h1, h6⟩, hh⟩ := h'
    split at hh
    · rename_i i j a pa b pb k q
      simp only [Bool.and_eq_true, decide_eq_true_eq] at hh
      obtain ⟨⟨⟨h2, h3⟩, h4⟩, h5⟩ := hh
      match vs, h5, h6 with
      | [v, w], h5, h6 =>
        obtain ⟨s1, s2, s3⟩ := par_sw g (pt := q) (kt := k) (k2 := k2) (pos2 := q2) h5
        exact ss_par2 (g.calm h1) g.nd (by rw [g.N_]; exact h2) (by rw [g.N_]; exact h3) h4 s2 s3 (sEL es c [v, w] h6 g).sa s1
      | [], h5, _ => cases h5
      | [_], h5, _ => cases h5
      | _ :: _ :: _ :: _, h5, _ => cases h5
    · cases hh
  | .aug i op e, c, x, X, N, W, h, g => by
    cases x <;> first | (cases h; done) | skip
    rename_i t o y p
    have h' : (cE Z e c y && (match (generalizing := false) op, t, o with
      | .add, .Name y _, .Add => decide (c.N[i]? = some y) && locB c.sc0 y
      | _, _, _ => false)) = true := h
    rw [Bool.and_eq_true] at h'
    obtain ⟨h3, hh⟩ := h'
    split at hh
    · rename_i nm q
      rw [Bool.and_eq_true, decide_eq_true_eq] at hh
      obtain ⟨l1, l2⟩ := g.fn nm (locB_ok hh.2)
      exact ss_aug g.nd (by rw [g.N_]; exact hh.1) l1 l2 (sE e c y h3 g).se
    · cases hh
  | .sub o i e, c, x, X, N, W, h, g => by
    cases x <;> first | (cases h; done) | skip
    rename_i ts y p
    match ts, h with
    | [], h => cases h
    | _ :: _ :: _, h => exact absurd h (by rename_i a b r; cases a <;> exact Bool.false_ne_true)
    | [t], h =>
      cases t <;> first | (cases h; done) | skip
      rename_i a b q
      have h : (cE Z o c a && cE Z i c b && cE Z e c y) = true := h
      simp only [Bool.and_eq_true] at h
      obtain ⟨⟨h1, h2⟩, h3⟩ := h
      have hu := g.un
      exact ss_sub (by omega) (sE o c a h1 g).se (sE i c b h2 g).se (sE e c y h3 g).se (swaps_sub _ _)
  | .atrS o f e, c, x, X, N, W, h, g => by
    cases x <;> first | (cases h; done) | skip
    rename_i ts y p
    match ts, h with
    | [], h => cases h
    | _ :: _ :: _, h => exact absurd h (by rename_i a b r; cases a <;> exact Bool.false_ne_true)
    | [t], h =>
      cases t <;> first | (cases h; done) | skip
      rename_i a nm q
      have h' : (!c.hot && decide (nm = Z.nms.fld f) && cE Z o c a && cE Z e c y) = true := h
      simp only [Bool.and_eq_true, decide_eq_true_eq, Bool.not_eq_true'] at h'
      obtain ⟨⟨⟨h1, rfl⟩, h2⟩, h3⟩ := h'
      have hN := g.nm0 h1
      subst hN
      exact ss_atr g.mx.fldx (sE o c a h2 g).se (sE e c y h3 g).se (swaps_atr _ _)
  | .ret e, c, x, X, N, W, h, g => by
    cases x <;> first | (cases h; done) | skip
    rename_i v p
    cases v <;> first | (cases h; done) | skip
    exact ss_ret (sE e c _ h g).se
  | .retN, c, x, X, N, W, h, g => by
    cases x <;> first | (cases h; done) | skip
    rename_i v p
    cases v <;> first | (cases h; done) | skip
    exact ss_retN
  | .iff t a b, c, x, X, N, W, h, g => by
    cases x <;> first | (cases h; done) | skip
    rename_i y s1 s2 p
    have h : (cE Z t c y && tstB y && cSL Z a c s1 && cSL Z b c s2) = true := h
    simp only [Bool.and_eq_true] at h
    obtain ⟨⟨⟨h1, h2⟩, h3⟩, h4⟩ := h
    exact ss_if ((sE t c y h1 g).st h2) (sSL a c s1 h3 g) (sSL b c s2 h4 g)
  | .for t i b, c, x, X, N, W, h, g => by
    cases x <;> first | (cases h; done) | skip
    rename_i tg iter body orelse p
    cases orelse <;> first | (cases h; done) | skip
    have h : (!c.hot && cI Z i c tg iter && cTg c t tg && notSet iter && cSL Z b c body) = true := h
    simp only [Bool.and_eq_true, Bool.not_eq_true'] at h
    obtain ⟨⟨⟨⟨h1, h2⟩, h3⟩, h4⟩, h5⟩ := h
    have hc := g.calm h1
    exact ss_for g.pass hc (sI i c tg iter h2 g) (sTgU g hc h3 (isU_tup h2)) (sSL b c body h5 g) (fun x => set_plain h4 _ x)
  | .whl t b, c, x, X, N, W, h, g => by
    cases x <;> first | (cases h; done) | skip
    rename_i y body orelse p
    cases orelse <;> first | (cases h; done) | skip
    have h : (cE Z t c y && tstB y && cSL Z b c body) = true := h
    simp only [Bool.and_eq_true] at h
    obtain ⟨⟨h1, h2⟩, h3⟩ := h
    exact ss_while (fuel := Z.fuel) g.pass ((sE t c y h1 g).st h2) (sSL b c body h3 g)
  | .rai k as, c, x, X, N, W, h, g => by
    cases x <;> first | (cases h; done) | skip
    rename_i ex ca p
    cases ex <;> first | (cases h; done) | skip
    rename_i ex
    cases ex <;> first | (cases h; done) | skip
    rename_i fn es kws p2
    cases fn <;> first | (cases h; done) | skip
    rename_i nm q
    cases kws <;> first | (cases h; done) | skip
    cases ca <;> first | (cases h; done) | skip
    have h : (!c.hot && glB c nm && decide (Z.cls[k]? = some nm) && (Z.ini.lookup k).isSome && decide ((Z.T.cls[k]?).map (·.err) = some true) && cEL Z as c es && !es.isEmpty) = true := h
    simp only [Bool.and_eq_true, decide_eq_true_eq, Bool.not_eq_true'] at h
    obtain ⟨⟨⟨⟨⟨⟨h1, h2⟩, h3⟩, h4⟩, h5⟩, h6⟩, h7⟩ := h
    obtain ⟨ce, hce, herr⟩ := Option.map_eq_some_iff.mp h5
    obtain ⟨d, hd⟩ := Option.isSome_iff_exists.mp h4
    obtain ⟨gl, hdb⟩ := g.gl h2
    have hA := sEL as c es h6 g
    have hN := g.nm0 h1
    subst hN
    obtain ⟨fd, fs, k1, k2, k3, k4, k5, k6, k7, k8⟩ := g.mx.exc k ce d hce hd
    have ec : Z.nms.cls k = nm := by show (Z.cls[k]?).getD Str.empty = nm; rw [h3]; rfl
    have hef : (Z.nms.ef k).map Z.nms.fld = fs.reverse := by
      rw [← k7]; show (match Z.T.cls[k]? with | some e => e.flds | none => []).map Z.nms.fld = _; rw [hce]
    have hm : X.mg nm = some (.ref (He.ga X.K (Z.nms.cls k))) := by rw [ec]; exact g.mx.cls k nm h3
    cases es with
    | nil => cases h7
    | cons e es =>
      have key := ss_raise (p := q) (pos := p2) (pos' := p) (k := 1) (c := k) (N := Z.nms) (g.calm h1) g.tk k1 k2 k3 k4 k5 hef k8 ((g.room h1).mono (by omega)) k6 gl hm hA.sa hdb hA.star
      have e2 : evS (Rn Z n) (.rai k as) = fun env st => vl (evL (Rn Z n) as env) env st fun ys st1 => if ys.length = fs.length then .xc k ys.reverse env st1 else .stk := by
        funext env st
        have hl : ce.flds.length = fs.length := by have := congrArg List.length k7; simpa using this
        show vl (evL (Rn Z n) as env) env st (fun xs st1 => match Z.T.cls[k]? with
          | some e => if e.err && decide (xs.length = e.flds.length) then .xc k xs.reverse env st1 else .stk
          | none => .stk) = _
        congr 1; funext xs st1
        rw [hce]
        dsimp only
        rw [herr, Bool.true_and, hl]
        by_cases hx : xs.length = fs.length
        · rw [if_pos hx, if_pos (decide_eq_true hx)]
        · rw [if_neg hx, if_neg (by simpa using hx)]
      rw [e2]; exact key
  | .try b k i hd, c, x, X, N, W, h, g => by
    cases x <;> first | (cases h; done) | skip
    rename_i body hs oe fb p
    match hs, oe, fb, h with
    | [.ExceptHandler (some (.Name nm q)) (some v) suite p2], [], [], h =>
      have h : (!c.hot && c.top && decide (k ∈ Z.hnd) && glB c nm && decide (Z.cls[k]? = some nm) && decide (c.N[i]? = some v) && decide (c.sc.names.lookup v = some .local) && !suite.isEmpty && cSL Z b c body && cSL Z hd { c with hot := true, top := false } suite) = true := h
      simp only [Bool.and_eq_true, decide_eq_true_eq, Bool.not_eq_true'] at h
      obtain ⟨⟨⟨⟨⟨⟨⟨⟨⟨h1, h2⟩, h3⟩, h4⟩, h5⟩, h6⟩, h7⟩, h8⟩, h9⟩, h10⟩ := h
      obtain ⟨gl, hdb⟩ := g.gl h4
      obtain ⟨st1, st2⟩ := g.stk h2
      have ec : Z.nms.cls k = nm := by show (Z.cls[k]?).getD Str.empty = nm; rw [h5]; rfl
      have hN := g.nm0 h1
      subst hN
      cases suite with
      | nil => cases h8
      | cons b0 suite =>
        exact ss_try (T := Z.T) (c := k) st1 st2 g.nd (by rw [g.N_]; exact h6) ((g.kd v).trans h7) ⟨gl, hdb, .inl (by rw [ec]; exact g.mx.cls k nm h5)⟩ g.tk
          (fun c' e he herr => ⟨g.mx.exm k h3 c' e he herr, by show (match Z.T.cls[c']? with | some e => e.flds | none => []) = _; rw [he]⟩)
          (fun W' pn xe tk ps => sSL b c body h9 (g.tr h1 tk ps)) (fun a oe cid dx pn hz hd' => sSL hd _ (b0 :: suite) h10 (g.su h1 hz hd'))
  | .pas, c, x, X, N, W, h, g => by
    cases x <;> first | (cases h; done) | exact ss_pass
  | .brk, c, x, X, N, W, h, g => by
    cases x <;> first | (cases h; done) | exact ss_break
  | .cnt, c, x, X, N, W, h, g => by
    cases x <;> first | (cases h; done) | exact ss_cont
theorem sSL : ∀ (ss : SL) (c : Cs) (xs : List Stmt) {X : Cx} {N : Nms} {W : WX}, cSL Z ss c xs = true → Gd Z n X N W c → SSs X N W xs (evSL (Rn Z n) ss)
  | .nil, c, [], X, N, W, h, g => ss_nil
  | .nil, c, _ :: _, X, N, W, h, g => by cases h
  | .cons s ss, c, [], X, N, W, h, g => by cases h
  | .cons s ss, c, x :: xs, X, N, W, h, g => by
    have h : (cS Z s c x && cSL Z ss c xs) = true := h
    rw [Bool.and_eq_true] at h
    exact ss_cons (sS s c x h.1 g) (sSL ss c xs h.2 g)
end
end
end Dn
end
section
set_option Elab.async false
set_option linter.all false
set_option maxRecDepth 100000
set_option maxHeartbeats 4000000
/-! Dn52: each def keeps what its code says, at every level. Own work. -/
namespace Dn
open PySem PySem.Spec PyProof.Rows L2

/-- what is read off the machine, all levels -/
structure Fx (S : Sd) (fdOf : Nat → FuncData) (P : Program) (w : World) (K : PySem.W.Frag) (mg : Str → Option Value) (base : Heap) : Prop where
  fn : ∀ (f : Nat) (d : DefS), S.defs.lookup f = some d → ∃ fe dvs, S.T.fns[f]? = some fe ∧ FunD K d.name d.qual d.params d.body d.scope dvs [] (He.fAd K d.at_) (fdOf f) ∧ PySem.W.keepIn K (.ref (He.fAd K d.at_)) = true ∧ S.nms.fn f = d.at_ ∧
    (d.at_.2 = none → mg d.at_.1 = some (.ref (He.fAd K d.at_))) ∧ CallFx S K ⟨P, w, K, S.nms⟩ f fe (fdOf f) d.ps
  rest : (∀ (f : Nat) (d : DefS), S.defs.lookup f = some d → ∃ fd fe, S.T.fns[f]? = some fe ∧ FnG P w K mg base 2 (He.fAd K d.at_) fd d.ps (SpN ⟨P, w, K, S.nms⟩ (run S.T S.fuel 0 f) d.ps.length) ∧ PySem.W.keepIn K (.ref (He.fAd K d.at_)) = true ∧ S.nms.fn f = d.at_ ∧
    (d.at_.2 = none → mg d.at_.1 = some (.ref (He.fAd K d.at_))) ∧ CallFx S K ⟨P, w, K, S.nms⟩ f fe fd d.ps) → Mx S 0 P w K mg base
/-- the def's scope as the frame has it -/
def scopeB (d : DefS) : Bool := decide (d.scope.kind = .function) && !d.scope.isCoroutine && !d.scope.isGenerator && decide d.N.Nodup && decide (d.N.take d.ps.length = d.ps) && (d.ps.all fun x => locB d.scope x) && (d.scope.names.all fun y => decide (y.2 ≠ .free))
theorem scopeB_ok {d : DefS} (h : scopeB d = true) : FnScope d.N d.ps d.scope := by
  simp only [scopeB, Bool.and_eq_true, decide_eq_true_eq, Bool.not_eq_true'] at h
  obtain ⟨⟨⟨⟨⟨⟨h1, h2⟩, h3⟩, h4⟩, h5⟩, h6⟩, h7⟩ := h
  exact ⟨h1, h2, h3, h4, h5, fun x hx => locB_ok (List.all_eq_true.mp h6 x hx), fun y hy => of_decide_eq_true (List.all_eq_true.mp h7 y hy)⟩
def csOf (d : DefS) : Cs := { N := d.N, sc0 := d.scope, sc := d.scope, hot := false, top := true }
/-- the def's code passes -/
def defB (S : Sd) (p : Nat × DefS) : Bool := scopeB p.2 && (match S.T.fns[p.1]? with
  | some fe => decide (fe.np = p.2.ps.length) && decide (fe.nn = p.2.N.length) && cSL S fe.body (csOf p.2) p.2.body
  | none => false)
def chk (S : Sd) : Bool := S.defs.all (defB S)
theorem lookup_mem {α : Type} : ∀ {l : List (Nat × α)} {f : Nat} {d : α}, l.lookup f = some d → (f, d) ∈ l
  | [], f, d, h => by cases h
  | (a, b) :: l, f, d, h => by
    rw [List.lookup_cons] at h
    split at h
    · rename_i e
      have e : f = a := by simpa using e
      subst e
      cases h
      exact List.mem_cons_self
    · exact List.mem_cons_of_mem _ (lookup_mem h)
section
variable {S : Sd} {P : Program} {w : World} {K : PySem.W.Frag} {mg : Str → Option Value} {base : Heap} {n : Nat}
theorem env_start {B : Wo} {m : List Addr} {G : Hp} {ds : List D} {vs : List V} {N : List Str} {np nn : Nat} (r : repL B m G ds vs) (h1 : ds.length = np) (h2 : nn = N.length) (h3 : np ≤ nn) : RelE B m G (ds.map some ++ List.replicate (nn - np) none) (L2.start N vs) := by
  have hl := r.length
  refine ⟨?_, fun i d e => ?_⟩
  · unfold L2.start
    simp only [List.length_append, List.length_map, List.length_replicate]
    omega
  · by_cases hi : i < ds.length
    · rw [List.getElem?_append_left (by simpa using hi), List.getElem?_map] at e
      cases q : ds[i]? with
      | none => rw [q] at e; cases e
      | some d' =>
        rw [q] at e
        cases e
        obtain ⟨v, h, rv⟩ := r.get q
        exact ⟨v, start_at h, rv⟩
    · rw [List.getElem?_append_right (by simpa using hi), List.getElem?_replicate] at e
      split at e <;> cases e
/-- a def at the next level -/
theorem def_ok (M : Mx S n P w K mg base) {f : Nat} {d : DefS} {fe : FnE} {fd : FuncData} {dvs : List V} (hf : S.T.fns[f]? = some fe) (hd : defB S (f, d) = true) (F : FunD K d.name d.qual d.params d.body d.scope dvs [] (He.fAd K d.at_) fd) :
    FnG P w K mg base (2 * (n + 1) + 2) (He.fAd K d.at_) fd d.ps (SpN ⟨P, w, K, S.nms⟩ (run S.T S.fuel (n + 1) f) d.ps.length) := by
  simp only [defB, Bool.and_eq_true] at hd
  obtain ⟨h1, h2⟩ := hd
  rw [hf] at h2
  simp only [Bool.and_eq_true, decide_eq_true_eq] at h2
  obtain ⟨⟨h2, h3⟩, h4⟩ := h2
  have SC := scopeB_ok h1
  have hle : fe.np ≤ fe.nn := by
    rw [h2, h3]
    have := congrArg List.length SC.pre
    rw [List.length_take] at this; omega
  refine fnG_of (k := 2 * n + 3) F SC (fun vs H Q E h => ?_) fun cdv A outer s H vs Q E hr hgd h => ?_
  · obtain ⟨m, G, st, ds, _, r, hl, _⟩ := h
    rw [r.length, hl]
  · obtain ⟨m, G, st, ds, rs, r, hl, p⟩ := h
    have g : Gd S n (cxOf (L2.CX P w) P w K mg base d.N d.qual d.scope (He.fAd K d.at_) cdv A outer s H E) S.nms (fun c d _ H' => E c d H') (csOf d) := {
      mx := M
      nm := ⟨none, rfl⟩
      nm0 := fun _ => rfl
      N_ := rfl
      sc := rfl
      nd := SC.nd
      fn := fun x hx => ⟨hx, .inl rfl⟩
      kind := SC.kind
      room := fun _ => hr
      calm := fun _ => rfl
      un := by have := hr.un; show (A.deeper _).units + 200 < _; omega
      grd := hgd
      tk := takes_of rfl rfl rfl rfl
      pass := passes_of rfl
      ex := fun a c dx e => by cases e
      stk := fun _ => ⟨rfl, rfl⟩
      hotx := fun z => by cases z }
    refine ⟨_, sSL fe.body (csOf d) d.body h4 g, m, G, st, ds.map some ++ List.replicate (fe.nn - fe.np) none, rs, env_start r (hl.trans h2.symm) h3 hle, ?_⟩
    rw [run] at p
    simp only [hf] at p
    unfold runF at p
    rw [if_pos (hl.trans h2.symm)] at p
    show PostF ⟨P, w, K, S.nms⟩ _ m G H _ (evSL (Rn S n) fe.body _ st)
    change Post _ m G H E _ (match evSL (Rn S n) fe.body (ds.map some ++ List.replicate (fe.nn - fe.np) none) st with
      | .nx _ st' => Res.ok .non st'
      | .rt d st' => .ok d st'
      | .xc c vs _ st' => .exc c vs st'
      | _ => .stk) at p
    cases e : evSL (Rn S n) fe.body (ds.map some ++ List.replicate (fe.nn - fe.np) none) st with
    | nx env' st' => rw [e] at p; exact fun m' G' H' σ' x rr _ => p m' G' H' x rr _ (repV_non.mpr rfl)
    | rt d' st' => rw [e] at p; exact fun m' G' H' v x rr hv => p m' G' H' x rr v hv
    | bk env' st' => rw [e] at p; exact p.elim
    | ct env' st' => rw [e] at p; exact p.elim
    | xc c vs' env' st' => rw [e] at p; exact fun m' G' H' σ' dx fvs x rr _ h1 h2 => p m' G' H' dx fvs x rr h1 h2
    | stk => rw [e] at p; exact p.elim
/-- at level 0 nothing is promised -/
theorem def_zero {f : Nat} {d : DefS} {fd : FuncData} : FnG P w K mg base 2 (He.fAd K d.at_) fd d.ps (SpN ⟨P, w, K, S.nms⟩ (run S.T S.fuel 0 f) d.ps.length) := by
  refine ⟨fun vs H Q E h => ?_, fun A outer s H args us vs Q E _ _ _ _ _ h => ?_⟩
  · obtain ⟨m, G, st, ds, _, r, hl, _⟩ := h
    rw [r.length, hl]
  · obtain ⟨m, G, st, ds, _, r, hl, p⟩ := h
    exact p.elim
theorem all_levels {fdOf : Nat → FuncData} (X : Fx S fdOf P w K mg base) (hc : chk S = true) : ∀ n, Mx S n P w K mg base ∧ ∀ (f : Nat) (d : DefS), S.defs.lookup f = some d → FnG P w K mg base (2 * n + 2) (He.fAd K d.at_) (fdOf f) d.ps (SpN ⟨P, w, K, S.nms⟩ (run S.T S.fuel n f) d.ps.length)
  | 0 => ⟨X.rest fun f d h => by
      obtain ⟨fe, dvs, h1, F, h2, h3, h4, h5⟩ := X.fn f d h
      exact ⟨fdOf f, fe, h1, def_zero, h2, h3, h4, h5⟩, fun f d h => def_zero⟩
  | n + 1 => by
    obtain ⟨M, _⟩ := all_levels X hc n
    have key : ∀ (f : Nat) (d : DefS), S.defs.lookup f = some d → FnG P w K mg base (2 * (n + 1) + 2) (He.fAd K d.at_) (fdOf f) d.ps (SpN ⟨P, w, K, S.nms⟩ (run S.T S.fuel (n + 1) f) d.ps.length) := fun f d h => by
      obtain ⟨fe, dvs, h1, F, h2, h3, h4, h5⟩ := X.fn f d h
      exact def_ok M h1 (List.all_eq_true.mp hc _ (lookup_mem h)) F
    refine ⟨⟨M.inj, M.free, fun f d h => ?_, M.cls, M.mke, M.fldx, M.xld, M.clsx, M.isi, M.exm, M.len, M.eq, M.mth, M.exc, M.glb⟩, key⟩
    obtain ⟨fe, dvs, h1, F, h2, h3, h4, h5⟩ := X.fn f d h
    exact ⟨fdOf f, fe, h1, key f d h, h2, h3, h4, h5⟩
end
end Dn
end
section
set_option Elab.async false
set_option linter.all false
set_option maxRecDepth 100000
set_option maxHeartbeats 4000000
/-! Dn53: what is read off the machine, as one truth value. Own work. -/
namespace Dn
open PySem PySem.Spec PyProof.Rows L2

/-! ### values that the text writes at its top -/
mutual
/-- the machine's value u stands for d, by what K holds -/
def kRep (S : Sd) (K : PySem.W.Frag) : D → Value → Bool
  | .non, u => (match u with
    | .none => true
    | _ => false)
  | .bl b, u => (match u with
    | .bool c => decide (b = c)
    | _ => false)
  | .int i, u => (match u with
    | .int j _ => decide (i = j)
    | _ => false)
  | .str x, u => (match u with
    | .str y _ => decide (x = y)
    | _ => false)
  | .fn f, u => (match u with
    | .ref a => decide (a = He.fAd K (S.nms.fn f))
    | _ => false)
  | .tup ds, u => (match u with
    | .ref a => (match K.lookup a with
      | some ⟨.type c, none, .seq its _, _⟩ => decide (c = "tuple") && decide (its.size ≤ sizeLine) && kRepL S K ds its.toList
      | _ => false)
    | _ => false)
  | _, _ => false
def kRepL (S : Sd) (K : PySem.W.Frag) : List D → List Value → Bool
  | [], us => us.isEmpty
  | d :: ds, us => (match us with
    | u :: us => kRep S K d u && kRepL S K ds us
    | [] => false)
end
mutual
theorem kRep_ok {S : Sd} {P : Program} {w : World} {K : PySem.W.Frag} : ∀ {d : D} {u : Value}, kRep S K d u = true → ∃ v, RelV v u ∧ ∀ m G, repV ⟨P, w, K, S.nms⟩ m G d v
  | .non, u, h => by
    cases u <;> first | (cases h; done) | exact ⟨.non, rfl, fun m G => repV_non.mpr rfl⟩
  | .bl b, u, h => by
    cases u <;> first | (cases h; done) | skip
    obtain rfl := of_decide_eq_true h
    exact ⟨.bl b, rfl, fun m G => repV_bl.mpr rfl⟩
  | .int i, u, h => by
    cases u <;> first | (cases h; done) | skip
    obtain rfl := of_decide_eq_true h
    exact ⟨.int i, ⟨_, rfl⟩, fun m G => repV_int.mpr rfl⟩
  | .str x, u, h => by
    cases u <;> first | (cases h; done) | skip
    obtain rfl := of_decide_eq_true h
    exact ⟨.str x, ⟨_, rfl⟩, fun m G => repV_str.mpr rfl⟩
  | .fn f, u, h => by
    cases u <;> first | (cases h; done) | skip
    obtain rfl := of_decide_eq_true h
    exact ⟨.ref _, rfl, fun m G => by rw [repV]⟩
  | .tup ds, u, h => by
    cases u <;> first | (cases h; done) | skip
    rename_i a
    have h : (match K.lookup a with
      | some ⟨.type c, none, .seq its _, _⟩ => decide (c = "tuple") && decide (its.size ≤ sizeLine) && kRepL S K ds its.toList
      | _ => false) = true := h
    split at h
    · rename_i c its n sl e
      simp only [Bool.and_eq_true, decide_eq_true_eq] at h
      obtain ⟨⟨rfl, h2⟩, h3⟩ := h
      obtain ⟨vs, r, q⟩ := kRepL_ok (P := P) (w := w) h3
      exact ⟨.ref a, rfl, fun m G => by rw [repV]; exact ⟨a, vs, rfl, .inr ⟨_, its, n, e, rfl, rfl, rfl, h2, r⟩, q m G⟩⟩
    · cases h
  | .lst _, u, h => by cases h
  | .dic _ _, u, h => by cases h
  | .obj _ _ _, u, h => by cases h
  | .ref _, u, h => by cases h
  | .rng _ _, u, h => by cases h
  | .kdic _ _, u, h => by cases h
  | .exn _ _ _, u, h => by cases h
theorem kRepL_ok {S : Sd} {P : Program} {w : World} {K : PySem.W.Frag} : ∀ {ds : List D} {us : List Value}, kRepL S K ds us = true → ∃ vs, Vals vs us ∧ ∀ m G, repL ⟨P, w, K, S.nms⟩ m G ds vs
  | [], us, h => by
    have : us = [] := List.isEmpty_iff.mp h
    subst this
    exact ⟨[], .nil, fun m G => .nil'⟩
  | d :: ds, [], h => by cases h
  | d :: ds, u :: us, h => by
    have h : (kRep S K d u && kRepL S K ds us) = true := h
    rw [Bool.and_eq_true] at h
    obtain ⟨v, r1, q1⟩ := kRep_ok (P := P) (w := w) h.1
    obtain ⟨vs, r2, q2⟩ := kRepL_ok (P := P) (w := w) h.2
    exact ⟨v :: vs, .cons r1 r2, fun m G => .cons' (q1 m G) (q2 m G)⟩
end
/-! ### defs -/
def fdAt (K : PySem.W.Frag) (p : Str × Option Str) : FuncData := match K.lookup (He.fAd K p) with
  | some ⟨_, _, .func fd, _⟩ => fd
  | _ => PySem.W.fnOf Str.empty Str.empty { posonlyargs := [], args := [], vararg := none, kwonlyargs := [], kw_defaults := [], kwarg := none, defaults := [] } [] { kind := .function, names := [], isGenerator := false, isCoroutine := false } .none .none .none .none none .none .none
def dflOkB (S : Sd) (K : PySem.W.Frag) (dV : Value) : List D → Bool
  | [] => (match dV with
    | .none => true
    | _ => false)
  | d :: ds => (match dV with
    | .ref T => (match K.lookup T with
      | some ⟨_, _, .seq its _, _⟩ => kRepL S K (d :: ds) its.toList
      | _ => false)
    | _ => false)
/-- the def stands where it is looked for -/
def defFx (S : Sd) (K : PySem.W.Frag) (d : DefS) (dfl : List D) : Bool := PySem.W.keepIn K (.ref (He.fAd K d.at_)) && (match K.lookup (He.fAd K d.at_) with
  | some ⟨_, _, .func fd, _⟩ => PySem.W.codeIn K fd.code d.qual && dflOkB S K fd.defaults dfl
  | _ => false)
/-- what is seen of a def, and what it must be -/
def DefS.seen (K : PySem.W.Frag) (d : DefS) : He.FnW := He.fnW K d.at_
def DefS.must (d : DefS) : He.FnW := some (d.name, d.qual, d.params, .stmts d.body, d.scope, mainGlobals, [], builtinsNs)
theorem dflOk_ok {S : Sd} {P : Program} {w : World} {K : PySem.W.Frag} {dV : Value} {ds : List D} (h : dflOkB S K dV ds = true) : ∃ dvs, DflV K dV dvs ∧ dvs.length = ds.length ∧ ∀ m G, repL ⟨P, w, K, S.nms⟩ m G ds dvs := by
  cases ds with
  | nil =>
    cases dV <;> first | (cases h; done) | exact ⟨[], .inl ⟨rfl, rfl⟩, rfl, fun m G => .nil'⟩
  | cons d ds =>
    cases dV <;> first | (cases h; done) | skip
    rename_i T
    have h : (match K.lookup T with
      | some ⟨_, _, .seq its _, _⟩ => kRepL S K (d :: ds) its.toList
      | _ => false) = true := h
    split at h
    · rename_i oc od its n sl e
      obtain ⟨vs, r, q⟩ := kRepL_ok (P := P) (w := w) h
      have hl := (q [] (fun _ => none)).length
      refine ⟨vs, .inr ⟨fun z => by subst z; simp at hl, T, _, its.toList, n, rfl, e, by simp, r⟩, hl, q⟩
    · cases h
theorem defFx_ok {S : Sd} {P : Program} {w : World} {K : PySem.W.Frag} {d : DefS} {dfl : List D} (e : d.seen K = d.must) (c : defFx S K d dfl = true) : PySem.W.keepIn K (.ref (He.fAd K d.at_)) = true ∧
    ∃ dvs, FunD K d.name d.qual d.params d.body d.scope dvs [] (He.fAd K d.at_) (fdAt K d.at_) ∧ dvs.length = dfl.length ∧ ∀ m G, repL ⟨P, w, K, S.nms⟩ m G dfl dvs := by
  rw [defFx, Bool.and_eq_true] at c
  obtain ⟨kp, c2⟩ := c
  refine ⟨kp, ?_⟩
  unfold DefS.seen He.fnW DefS.must at e
  unfold fdAt
  cases q : K.lookup (He.fAd K d.at_) with
  | none => rw [q] at c2; cases c2
  | some o =>
    obtain ⟨oc, od, dt, osl⟩ := o
    rw [q] at c2 e
    cases dt with
    | func fd =>
      obtain ⟨n1, n2, n3, n4, n5, n6, n7, n8, n9, n10, n11, n12, n13, n14, n15⟩ := fd
      have e2 : (some (n1, n2, n3, n4, n5, n6, n7, n15) : He.FnW) = some (d.name, d.qual, d.params, .stmts d.body, d.scope, mainGlobals, [], builtinsNs) := e
      simp only [Option.some.injEq, Prod.mk.injEq] at e2
      obtain ⟨h1, h2, h3, h4, h5, h6, h7, h8⟩ := e2
      subst h1 h2 h3 h4 h5 h6 h7 h8
      have c3 : (PySem.W.codeIn K n13 d.qual && dflOkB S K n8 dfl) = true := c2
      rw [Bool.and_eq_true] at c3
      obtain ⟨dvs, k1, k2, k3⟩ := dflOk_ok (P := P) (w := w) c3.2
      exact ⟨dvs, ⟨⟨oc, od, n8, n9, n10, n11, n12, n13, n14, osl, rfl, q, c3.1, k1, .inl rfl⟩, kp⟩, k2, k3⟩
    | _ => cases c2
end Dn
end
section
set_option Elab.async false
set_option linter.all false
set_option maxRecDepth 100000
set_option maxHeartbeats 4000000
/-! Dn54: what is read off the machine, all of it. Own work. -/
namespace Dn
open PySem PySem.Spec PyProof.Rows L2

section
variable (S : Sd) (K : PySem.W.Frag)
def gloB (x : Str) : Bool := He.eqO (PySem.W.nsIn K mainGlobals x) (some (some (.ref (He.ga K x))))
def insB (C : Addr) : Bool := He.eqO (PySem.W.findIn K (.ref C) "__class__") (some (some (.builtin "object.__class__"))) && He.eqO (PySem.W.specialIn K (.builtin "object.__class__") "__get__") (some (some (.builtin "getset_descriptor.__get__"))) &&
  decide (PySem.W.takesIn K (.builtin "object.__class__") = some true) && decide (PySem.W.mroIn K C (.type "object") = some true) && decide (PySem.W.kitOne K (.ref C) (.ref C) = some true)
def exkB (C : Addr) : Bool := (PySem.W.clsIn K C).isSome && He.eqO (PySem.W.findIn K (.ref C) "__getattribute__") (some (some (.builtin "BaseException.__getattribute__"))) && He.eqO (PySem.W.findIn K (.ref C) "__getattr__") (some none) && decide (PySem.W.subIn K (.ref C) (.type "BaseException") = some true) &&
  He.eqO (PySem.W.findIn K (.ref C) "__class__") (some (some (.builtin "object.__class__"))) && He.eqO (PySem.W.specialIn K (.builtin "object.__class__") "__get__") (some (some (.builtin "getset_descriptor.__get__"))) &&
  decide (PySem.W.takesIn K (.builtin "object.__class__") = some true) && decide (PySem.W.mroIn K C (.type "object") = some true)
def oexB (C : Addr) : Bool := (match K.lookup C with
  | some ⟨.type t, _, .cls cd, sl⟩ => decide (t = "type") && (match cd.mro, sl.toList with
    | .ref C' :: bm, [_, _, _, _, some (.builtin n), _] => C' == C && n == "ValueError.__new__" && !cd.hasDel && cd.hasDict && PySem.HandSPX.refsVE bm
    | _, _ => false)
  | _ => false) && He.eqO (PySem.W.findIn K (.ref C) "__setattr__") (some (some (.builtin "object.__setattr__"))) && decide (PySem.W.subIn K (.ref C) (.type "BaseException") = some true) && decide (PySem.W.typeIn K (.ref C) = some (.type "type")) && PySem.W.keepIn K (.ref C)
/-- an exception's class with its __init__ -/
def iniB (e : ClE) (x : Str) (d : DefS) : Bool := oexB K (He.ga K x) && He.eqO (PySem.W.findIn K (.ref (He.ga K x)) "__init__") (some (some (.ref (He.fAd K d.at_)))) && decide (PySem.W.typeIn K (.ref (He.fAd K d.at_)) = some (.type "function")) && scopeB d &&
  initB d.N d.scope d.body (chainOf (e.flds.map S.nms.fld).reverse) && decide (d.ps.length = e.flds.length + 1) && decide (0 < e.flds.length) && decide (e.flds.length ≤ 800) && defFx S K d []
def clsB (c : Nat) (e : ClE) (x : Str) : Bool := gloB K x && (if e.err then exkB K (He.ga K x) && (e.flds.all fun f => L2.xfB K (He.ga K x) && He.eqO (PySem.W.findIn K (.ref (He.ga K x)) (S.nms.fld f)) (some none)) && (match S.ini.lookup c with
    | some d => iniB S K e x d
    | none => true)
  else (He.Fa.cls x).ok K && insB K (He.ga K x) && (e.flds.all fun f => (He.Fa.noat x (S.nms.fld f)).ok K) && (match S.ini.lookup c with
    | some _ => false
    | none => true)) &&
  (match e.init with
    | some f => (match S.defs.lookup f with
      | some d => decide (d.at_ = (x, some ("__init__" : Str))) && (He.Fa.mkr x).ok K
      | none => false)
    | none => true) &&
  (match e.len with
    | some f => He.eqO (PySem.W.findIn K (.ref (He.ga K x)) "__len__") (some (some (.ref (He.fAd K (S.nms.fn f))))) && PySem.W.isFn K (.ref (He.fAd K (S.nms.fn f))) && (match S.defs.lookup f with
      | some d => decide (d.ps.length = 1)
      | none => false) && decide ((f, 1, [], 0) ∈ S.shapes)
    | none => true) &&
  (match e.eq with
    | some f => He.eqO (PySem.W.findIn K (.ref (He.ga K x)) "__eq__") (some (some (.ref (He.fAd K (S.nms.fn f))))) && PySem.W.isFn K (.ref (He.fAd K (S.nms.fn f))) && (match S.defs.lookup f with
      | some d => decide (d.ps.length = 2)
      | none => false) && decide ((f, 2, [], 0) ∈ S.shapes)
    | none => true) &&
  (e.meths.all fun p => decide (S.nms.fn p.2 = (x, some (S.nms.fld p.1))) && (He.Fa.cls x).ok K && (He.Fa.meth x (S.nms.fld p.1)).ok K && (S.defs.lookup p.2).isSome)
def kTyK : D → Option Value
  | .non => some (.type "NoneType")
  | .bl _ => some (.type "bool")
  | .int _ => some (.type "int")
  | .str _ => some (.type "str")
  | .tup _ => some (.type "tuple")
  | .lst _ => some (.type "list")
  | .dic _ _ => some (.type "dict")
  | .obj c _ _ => some (.ref (He.ga K (S.nms.cls c)))
  | .exn c _ _ => some (.ref (He.ga K (S.nms.cls c)))
  | _ => none
def tyK : Ty → Value
  | .int => .type "int"
  | .bool => .type "bool"
  | .str => .type "str"
  | .tuple => .type "tuple"
  | .list => .type "list"
  | .dict => .type "dict"
  | .valueError => .type "ValueError"
  | .cls c => .ref (He.ga K (S.nms.cls c))
def isiB (t : Ty) : Bool := (kinds.all fun d => match kTyK S K d with
    | some v => decide (PySem.W.kitOne K v (tyK S K t) = some (instC S.T d t))
    | none => true) && (List.range S.T.cls.length).all fun c => match S.T.cls[c]? with
    | some e => decide (PySem.W.kitOne K (.ref (He.ga K (S.nms.cls c))) (tyK S K t) = some (instC S.T (if e.err then .exn c [] [] else .obj c [] []) t))
    | none => true
def facts : Bool := fldsOk S.fld && (S.free.all fun x => He.eqO (PySem.W.nsIn K mainGlobals x) (some none)) &&
  (S.defs.all fun p => decide (S.nms.fn p.1 = p.2.at_) && (p.2.at_.2.isSome || gloB K p.2.at_.1) && (match S.T.fns[p.1]? with
    | some fe => decide (fe.np = p.2.ps.length) && defFx S K p.2 fe.dfl
    | none => false)) &&
  S.cls.all (gloB K) &&
  ((List.range S.T.cls.length).all fun c => match S.T.cls[c]?, S.cls[c]? with
    | some e, some x => clsB S K c e x
    | _, _ => false) &&
  S.tys.all (isiB S K) &&
  (S.hnd.all fun c => (List.range S.T.cls.length).all fun c' => match S.T.cls[c']? with
    | some e => !e.err || decide (PySem.W.exmOne K (.ref (He.ga K (S.nms.cls c'))) (.ref (He.ga K (S.nms.cls c))) = some (isUp S.T c' c))
    | none => true) &&
  ((List.range S.T.glb.length).all fun i => match S.T.glb[i]?, S.glb[i]? with
    | some d, some x => (match PySem.W.nsIn K mainGlobals x with
      | some (some u) => kRep S K d u
      | _ => false)
    | _, _ => true)
end
section
variable {S : Sd} {K : PySem.W.Frag} {P : Program} {w : World} {mg : Str → Option Value} {base : Heap}
theorem range_all {n : Nat} {p : Nat → Bool} (h : (List.range n).all p = true) {i : Nat} (hi : i < n) : p i = true := List.all_eq_true.mp h i (List.mem_range.mpr hi)
theorem oexB_ok {C : Addr} (h : oexB K C = true) : OexC K C := by
  simp only [oexB, Bool.and_eq_true, decide_eq_true_eq] at h
  obtain ⟨⟨⟨⟨h1, h2⟩, h3⟩, h4⟩, h5⟩ := h
  refine ⟨?_, He.eqO_ok h2, h3, h4, h5⟩
  split at h1
  · rename_i t dd cd sl ho
    simp only [Bool.and_eq_true, decide_eq_true_eq] at h1
    obtain ⟨rfl, h1⟩ := h1
    split at h1
    · rename_i C' bm k0 k1 k2 k3 n k5 hm hs
      simp only [Bool.and_eq_true, beq_iff_eq, Bool.not_eq_true'] at h1
      obtain ⟨⟨⟨⟨rfl, rfl⟩, hdel⟩, hdict⟩, hve⟩ := h1
      obtain ⟨nm, bs, mro, ns, qn, hd, sn, sub, ab, col, del⟩ := cd
      dsimp only at hm hdel hdict
      subst hm hdel hdict
      have hsl : sl = #[k0, k1, k2, k3, some (.builtin "ValueError.__new__"), k5] := by
        obtain ⟨l⟩ := sl
        simp only at hs
        rw [hs]
      subst hsl
      exact ⟨nm, qn, ns, bs, bm, sn, sub, ab, col, dd, k0, k1, k2, k3, k5, ho, hve⟩
    · cases h1
  · cases h1
theorem kTyK_is (d : D) : kTy ⟨P, w, K, S.nms⟩ d = kTyK S K d := by cases d <;> rfl
theorem tyK_is (t : Ty) : tyU ⟨P, w, K, S.nms⟩ t = tyK S K t := by cases t <;> rfl
theorem isiB_ok {t : Ty} (h : isiB S K t = true) : IsiFx ⟨P, w, K, S.nms⟩ S.T t := by
  rw [isiB, Bool.and_eq_true] at h
  refine ⟨fun d hd v hv => ?_, fun c e he => ?_⟩
  · have := List.all_eq_true.mp h.1 d hd
    rw [kTyK_is] at hv
    rw [hv] at this
    rw [tyK_is]
    exact of_decide_eq_true this
  · have := range_all h.2 (List.getElem?_eq_some_iff.mp he).1
    rw [he] at this
    rw [tyK_is]
    exact of_decide_eq_true this
theorem insB_ok {x : Str} (h1 : (He.Fa.cls x).ok K = true) (h : insB K (He.ga K x) = true) : C8.InsC K (He.ga K x) := by
  simp only [insB, Bool.and_eq_true, decide_eq_true_eq] at h
  obtain ⟨⟨⟨⟨a1, a2⟩, a3⟩, a4⟩, a5⟩ := h
  exact ⟨He.cls_ok h1, He.eqO_ok a1, He.eqO_ok a2, a3, a4, a5⟩
theorem exkB_ok {C : Addr} (h : exkB K C = true) : ExK K C := by
  simp only [exkB, Bool.and_eq_true, decide_eq_true_eq] at h
  obtain ⟨⟨⟨⟨⟨⟨⟨a1, a2⟩, a3⟩, a4⟩, a5⟩, a6⟩, a7⟩, a8⟩ := h
  exact ⟨a1, He.eqO_ok a2, He.eqO_ok a3, a4, He.eqO_ok a5, He.eqO_ok a6, a7, a8⟩
theorem map_all {α β : Type} {f g : α → β} : ∀ {l : List α}, l.map f = l.map g → ∀ a ∈ l, f a = g a
  | b :: l, h, a, ha => by
    rw [List.map_cons, List.map_cons] at h
    injection h with h1 h2
    rcases List.mem_cons.mp ha with rfl | ha
    · exact h1
    · exact map_all h2 a ha
/-- the calls of the defs, the exceptions' __init__ among them, bind as they are written -/
structure Bx (S : Sd) : Prop where
  sh : ∀ s ∈ S.shapes, ∀ d fe, S.defs.lookup s.1 = some d → S.T.fns[s.1]? = some fe → BindK d.params fe.dfl.length s.2.1 s.2.2.1 s.2.2.2
  ini : ∀ p ∈ S.ini, BindK p.2.params 0 p.2.ps.length [] 0
theorem fx_of (hK : K.In base) (hG : base.Ns mainGlobals mg) (hs : S.defs.map (fun p => p.2.seen K) = S.defs.map fun p => p.2.must) (hi : S.ini.map (fun p => p.2.seen K) = S.ini.map fun p => p.2.must) (hf : facts S K = true) (B : Bx S) : Fx S (fun f => fdAt K (S.nms.fn f)) P w K mg base := by
  simp only [facts, Bool.and_eq_true] at hf
  obtain ⟨⟨⟨⟨⟨⟨⟨f1, f2⟩, f3⟩, f4⟩, f5⟩, f6⟩, f7⟩, f8⟩ := hf
  have glo : ∀ {x : Str}, gloB K x = true → mg x = some (.ref (He.ga K x)) := fun h => PySem.W.mg_of hK hG (He.eqO_ok h)
  have cl : ∀ (c : Nat) (e : ClE), S.T.cls[c]? = some e → ∃ x, S.cls[c]? = some x ∧ S.nms.cls c = x ∧ clsB S K c e x = true := fun c e he => by
    have := range_all f5 (List.getElem?_eq_some_iff.mp he).1
    rw [he] at this
    cases hx : S.cls[c]? with
    | none => rw [hx] at this; cases this
    | some x => rw [hx] at this; exact ⟨x, rfl, by show (S.cls[c]?).getD Str.empty = x; rw [hx]; rfl, this⟩
  have ins : ∀ p ∈ S.ini, p.2.seen K = p.2.must := map_all hi
  have des : ∀ p ∈ S.defs, p.2.seen K = p.2.must := map_all hs
  refine ⟨fun f d hd => ?_, fun hfn => ?_⟩
  · have hm := lookup_mem hd
    have h := List.all_eq_true.mp f3 _ hm
    simp only [Bool.and_eq_true, decide_eq_true_eq] at h
    obtain ⟨⟨h1, h2⟩, h3⟩ := h
    cases hfe : S.T.fns[f]? with
    | none => rw [hfe] at h3; cases h3
    | some fe =>
      rw [hfe] at h3
      simp only [Bool.and_eq_true, decide_eq_true_eq] at h3
      obtain ⟨kp, dvs, F, hl, hr⟩ := defFx_ok (P := P) (w := w) (des _ hm) h3.2
      have F : FunD K d.name d.qual d.params d.body d.scope dvs [] (He.fAd K d.at_) (fdAt K d.at_) := F
      refine ⟨fe, dvs, rfl, by rw [h1]; exact F, kp, h1, fun h0 => ?_, h3.1, fun k ks j hsh => ?_⟩
      · rcases Bool.or_eq_true_iff.mp h2 with z | z
        · rw [show d.at_.2 = none from h0] at z; cases z
        · have := glo z
          rw [this]
          have e : d.at_ = (d.at_.1, none) := by rw [← h0]
          rw [e]; rfl
      · have bk := B.sh _ hsh d fe hd hfe
        have bk : BindK d.params dvs.length k ks j := by rw [hl]; exact bk
        obtain ⟨ds, v1, v2⟩ := bindsX_of F bk
        rw [h1]
        exact ⟨dvs.drop j, ds, v1, fun m G => (hr m G).drop j, v2⟩
  · refine ⟨fld_inj f1, fun x hx => PySem.W.mg_none_of hK hG (He.eqO_ok (List.all_eq_true.mp f2 x hx)), hfn, fun c x hx => glo (List.all_eq_true.mp f4 x (List.mem_of_getElem? hx)), fun c e fi he hin => ?_, ⟨fld_inj f1, fun c f hfo her => ?_⟩, ⟨fld_inj f1, fun c f hfo her => ?_⟩, ⟨fun c e he her => ?_, fun c e he her => ?_⟩, fun t ht => isiB_ok (List.all_eq_true.mp f6 t ht), fun c hc c' e he her => ?_, fun c e fi he hin => ?_, fun c e fi he hin => ?_, fun c e mi fi he hin => ?_, fun c e d he hd => ?_, fun i d x hd hx => ?_⟩
    · obtain ⟨x, hx, hn, h⟩ := cl c e he
      simp only [clsB, Bool.and_eq_true] at h
      have h := h.1.1.1.2
      rw [hin] at h
      dsimp only at h
      split at h
      · rename_i d hd
        rw [Bool.and_eq_true, decide_eq_true_eq] at h
        refine ⟨d, hd, ?_⟩
        rw [h.1, hn]
        exact He.mkr_ok h.2
      · cases h
    · unfold fldOk at hfo
      unfold isErr at her
      split at hfo
      · rename_i e he
        obtain ⟨x, hx, hn, h⟩ := cl c e he
        rw [he] at her
        simp only [clsB, Bool.and_eq_true] at h
        have h := h.1.1.1.1.2
        rw [show e.err = false from her, if_neg Bool.false_ne_true] at h
        simp only [Bool.and_eq_true] at h
        rw [hn]
        exact ⟨He.cls_ok h.1.1.1, He.noat_ok (List.all_eq_true.mp h.1.2 f (of_decide_eq_true hfo))⟩
      · cases hfo
    · unfold fldOk at hfo
      unfold isErr at her
      split at hfo
      · rename_i e he
        obtain ⟨x, hx, hn, h⟩ := cl c e he
        rw [he] at her
        simp only [clsB, Bool.and_eq_true] at h
        have h := h.1.1.1.1.2
        rw [show e.err = true from her, if_pos rfl] at h
        simp only [Bool.and_eq_true] at h
        rw [hn]
        have := List.all_eq_true.mp h.1.2 f (of_decide_eq_true hfo)
        rw [Bool.and_eq_true] at this
        exact ⟨xfB_ok this.1, He.eqO_ok this.2⟩
      · cases hfo
    · obtain ⟨x, hx, hn, h⟩ := cl c e he
      simp only [clsB, Bool.and_eq_true] at h
      have h := h.1.1.1.1.2
      rw [her, if_neg Bool.false_ne_true] at h
      simp only [Bool.and_eq_true] at h
      show C8.InsC K (He.ga K (S.nms.cls c))
      rw [hn]
      exact insB_ok h.1.1.1 h.1.1.2
    · obtain ⟨x, hx, hn, h⟩ := cl c e he
      simp only [clsB, Bool.and_eq_true] at h
      have h := h.1.1.1.1.2
      rw [her, if_pos rfl] at h
      simp only [Bool.and_eq_true] at h
      show ExK K (He.ga K (S.nms.cls c))
      rw [hn]
      exact exkB_ok h.1.1
    · have h := range_all (List.all_eq_true.mp f7 c hc) (List.getElem?_eq_some_iff.mp he).1
      rw [he] at h
      dsimp only at h
      rw [her] at h
      exact of_decide_eq_true h
    · obtain ⟨x, hx, hn, h⟩ := cl c e he
      simp only [clsB, Bool.and_eq_true] at h
      have h := h.1.1.2
      rw [hin] at h
      simp only [Bool.and_eq_true, decide_eq_true_eq] at h
      obtain ⟨⟨⟨a1, a2⟩, a3⟩, a4⟩ := h
      rw [hn]
      refine ⟨He.eqO_ok a1, a2, ?_, a4⟩
      split at a3
      · rename_i d hd; exact ⟨d, hd, of_decide_eq_true a3⟩
      · cases a3
    · obtain ⟨x, hx, hn, h⟩ := cl c e he
      simp only [clsB, Bool.and_eq_true] at h
      have h := h.1.2
      rw [hin] at h
      simp only [Bool.and_eq_true, decide_eq_true_eq] at h
      obtain ⟨⟨⟨a1, a2⟩, a3⟩, a4⟩ := h
      rw [hn]
      refine ⟨He.eqO_ok a1, a2, ?_, a4⟩
      split at a3
      · rename_i d hd; exact ⟨d, hd, of_decide_eq_true a3⟩
      · cases a3
    · obtain ⟨x, hx, hn, h⟩ := cl c e he
      simp only [clsB, Bool.and_eq_true] at h
      have h := List.all_eq_true.mp h.2 (mi, fi) (lookup_mem hin)
      simp only [Bool.and_eq_true, decide_eq_true_eq] at h
      obtain ⟨⟨⟨a1, a2⟩, a3⟩, a4⟩ := h
      rw [hn]
      refine ⟨He.cls_ok a2, ?_, Option.isSome_iff_exists.mp a4⟩
      rw [a1]
      exact He.meth_ok a3
    · obtain ⟨x, hx, hn, h⟩ := cl c e he
      simp only [clsB, Bool.and_eq_true] at h
      have h := h.1.1.1.1.2
      cases her : e.err with
      | false =>
        rw [her, if_neg Bool.false_ne_true] at h
        simp only [Bool.and_eq_true] at h
        have := h.2
        rw [hd] at this
        cases this
      | true =>
        rw [her, if_pos rfl] at h
        simp only [Bool.and_eq_true] at h
        obtain ⟨⟨h1, h2⟩, h3⟩ := h
        rw [hd] at h3
        simp only [iniB, Bool.and_eq_true, decide_eq_true_eq] at h3
        obtain ⟨⟨⟨⟨⟨⟨⟨⟨b1, b2⟩, b3⟩, b4⟩, b5⟩, b6⟩, b7⟩, b8⟩, b9⟩ := h3
        obtain ⟨kp, dvs, F, hl, hr⟩ := defFx_ok (P := P) (w := w) (ins _ (lookup_mem hd)) b9
        have F : FunD K d.name d.qual d.params d.body d.scope dvs [] (He.fAd K d.at_) (fdAt K d.at_) := F
        have bk := B.ini _ (lookup_mem hd)
        have hl0 : dvs.length = 0 := hl
        have bk : BindK d.params dvs.length d.ps.length [] 0 := by rw [hl0]; exact bk
        obtain ⟨ds, v1, v2⟩ := bindsX_of F bk
        rw [hn]
        refine ⟨fdAt K d.at_, (e.flds.map S.nms.fld).reverse, oexB_ok b1, fun f hf => ?_, He.eqO_ok b2, b3, init_ok 0 F (scopeB_ok b4) (by simp [b6]) b5 (by simp [b7, b8]), binds_bare v2 rfl, by simp, by simp; omega⟩
        rw [List.mem_reverse, List.mem_map] at hf
        obtain ⟨f', hf', rfl⟩ := hf
        have := List.all_eq_true.mp h2 f' hf'
        rw [Bool.and_eq_true] at this
        exact He.eqO_ok this.2
    · have h := range_all f8 (List.getElem?_eq_some_iff.mp hd).1
      rw [hd, hx] at h
      dsimp only at h
      split at h
      · rename_i u hu
        obtain ⟨v, r, q⟩ := kRep_ok (P := P) (w := w) h
        exact ⟨u, v, PySem.W.mg_of hK hG hu, r, q⟩
      · cases h
end
end Dn
end
section
set_option Elab.async false
set_option linter.all false
set_option maxRecDepth 100000
set_option maxHeartbeats 4000000
/-! Dn55: the law's call, the head's Hook. Own work. -/
namespace Dn
open PySem PySem.Spec PyProof.Rows L2

/-- the law's call, from the law's promise -/
theorem law_callG {P : Program} {w : World} {K : PySem.W.Frag} {mg mb : Str → Option Value} {k : Nat} {fa a : Addr} {fd : FuncData} {x : Str} {sp : Sp} {s1 : Shared} {vs : List Value} {ns : List Int} (kin : K.In s1.heap) (g1 : s1.heap.Ns mainGlobals mg) (g2 : s1.heap.Ns builtinsNs mb)
    (g3 : ∀ x : Str, x ≠ "__name__" → mb x = bootBuiltins x) (lim : s1.heap.NoLimit) (gens : s1.gens = #[]) (ha : s1.heap.get? a = some { cls := .type "list", data := .seq vs.toArray }) (hi : IntsAre vs ns) (hl : ns.length ≤ sizeLine) (hr : Room k callerA)
    (F : ∀ base : Heap, K.In base → base.Ns mainGlobals mg → FnG P w K mg base k fa fd [x] sp) (hb : ∀ u : Value, BindsTo s1 fd ⟨[u], []⟩ [(x, u)]) (hsp : ∀ H : Hp, Only H → SqL K H a (ns.map V.int) → sp [.ref a] H (fun v _ => v = .bl true) fun _ _ _ => False) :
    codeAny (model P w) callerA (.call (.ref fa) ⟨[.ref a], []⟩) (fun r s' => r = .ok (.ret (.bool true)) ∧ OldK s1.heap s'.heap ∧ s'.os = s1.os ∧ AllBare s'.gens) s1 := by
  have rv := vals_ints hi
  have at_a : ∀ H : Hp, Only H → SqL K H a (ns.map V.int) → HOk P w H s1.heap → (∀ b, H b ≠ none → b = a) → (H a ≠ none → K.lookup a = none) → codeAny (model P w) callerA (.call (.ref fa) ⟨[.ref a], []⟩) (fun r s' => r = .ok (.ret (.bool true)) ∧ OldK s1.heap s'.heap ∧ s'.os = s1.os ∧ AllBare s'.gens) s1 := by
    intro H only sq hok one away
    have stays : ∀ {b : Addr} {o : Obj}, s1.heap.get? b = some o → H b = none → (hidT s1.heap H).get? b = some o := fun e z => hidT_get e z
    have clear : ∀ {b : Addr} {o : Obj}, s1.heap.get? b = some o → (∀ es ep, o.data = .dict es ep → H b = none) := fun {b o} e es ep d => by
      cases q : H b with
      | none => rfl
      | some u =>
        obtain rfl := one b (by rw [q]; simp)
        rw [ha] at e; cases e; cases (show Data.seq vs.toArray _ = Data.dict es ep from d)
    have nsOf : ∀ {b : Addr} {m : Str → Option Value}, s1.heap.Ns b m → (hidT s1.heap H).Ns b m := fun {b m} z => by
      obtain ⟨o, es, ep, e, d, r⟩ := z
      exact ⟨o, es, ep, stays e (clear e es ep d), d, r⟩
    have kinB : K.In (hidT s1.heap H) := fun b o e => by
      refine stays (kin b o e) ?_
      cases q : H b with
      | none => rfl
      | some u =>
        obtain rfl := one b (by rw [q]; simp)
        rw [away (by rw [q]; simp)] at e; cases e
    have mod : Mod K mg (hidT s1.heap H) := ⟨kinB, nsOf g1, ⟨mb, nsOf g2, g3⟩, by obtain ⟨mc, z1, z2⟩ := lim; exact ⟨mc, nsOf z1, z2⟩⟩
    have e0 : Env0 P w K mg (hidT s1.heap H) callerA [] s1 H := ⟨rfl, mod, fun b o e => of_hidT e, Nat.le_of_eq (hidT_size _ _), trivial, (fun b z => absurd (show b ∈ ([] : List Addr) from z) (by simp)), hok, .of_eq gens⟩
    refine codeAny_mono ((F _ kinB (nsOf g1)).run callerA [] s1 H ⟨[.ref a], []⟩ [.ref a] [.ref a] _ _ hr rfl e0 (hb (.ref a)) (.cons rfl .nil) (hsp H only sq)) fun r s' out => ?_
    cases r with
    | error e =>
      obtain ⟨_, _, _, _, _, _, _, _, _, _, _, _, z⟩ := out
      exact z.elim
    | ok fl =>
      cases fl with
      | next => exact False.elim out
      | brk => exact False.elim out
      | cont => exact False.elim out
      | ret u =>
        obtain ⟨v, H', os, bare, un, hok', r', q⟩ := out
        have q' : v = .bl true := q
        subst q'
        obtain rfl : u = Value.bool true := r'
        refine ⟨rfl, OldK.of_keep fun b o e => ?_, os, bare⟩
        rcases only b with z | ⟨ob, xs, z⟩
        · exact un.keep b o e z (fun y => absurd (show b ∈ ([] : List Addr) from y) (by simp)) (by simp)
        · have o1 := (hok b _ z).1
          have o2 := (hok' b _ (un.frzs b ob _ z)).1
          rw [e] at o1; cases o1
          exact o2
  have lenV := hi.length
  cases hk : K.lookup a with
  | some o =>
    have e := kin a o hk
    rw [ha] at e
    cases e
    exact at_a (fun _ => none) (fun _ => .inl rfl) (.inr ⟨_, vs.toArray, _, hk, rfl, rfl, rfl, by rw [List.size_toArray, lenV]; exact hl, by simpa using rv⟩) (fun b u z => absurd (show (none : Option HO) = some u from z) (by simp)) (fun b z => absurd rfl z) fun z => absurd rfl z
  | none =>
    refine at_a (upd (fun _ => none) a (.frz { cls := .type "list", data := .seq vs.toArray } (.lst (ns.map V.int)))) (fun b => ?_) (.inl (.inr ⟨_, upd_same⟩)) (fun b u z => ?_) (fun b z => ?_) fun _ => hk
    · by_cases e : b = a
      · subst e; exact .inr ⟨_, _, upd_same⟩
      · exact .inl (upd_ne e)
    · by_cases e : b = a
      · subst e
        rw [upd_same] at z; cases z
        exact ⟨ha, by rw [List.length_map]; exact hl, vs, _, rv, ha⟩
      · rw [upd_ne e] at z; cases z
    · by_cases e : b = a
      · exact e
      · rw [upd_ne e] at z; exact absurd rfl z
/-! ### the Hook -/
abbrev AlS : Type := Bool × List He.FnW × List He.FnW
def obsS (S : Sd) (K : PySem.W.Frag) : AlS := (facts S K, S.defs.map fun p => p.2.seen K, S.ini.map fun p => p.2.seen K)
def valS (S : Sd) : AlS := (true, S.defs.map fun p => p.2.must, S.ini.map fun p => p.2.must)
def SaysS (S : Sd) (K : PySem.W.Frag) : Prop := obsS S K = valS S
def obsSG (S : Sd) (n : Nat) (g : Addr → Option Obj) : AlS := obsS S (He.frG g (He.asD g n))
def hookS (S : Sd) (n : Nat) : PySem.W.Hook where
  α := AlS
  obs := fun s => obsSG S n s.heap.get?
  val := fun _ => valS S
  says := fun _ h => ∃ K : PySem.W.Frag, K.In h ∧ SaysS S K
  of := fun _ _ e => ⟨_, He.frG_in, e⟩
  keeps := fun _ _ _ ⟨K, hK, c⟩ k => ⟨K, PySem.W.Frag.In.keeps hK k, c⟩
theorem obsSG_eq {S : Sd} {n : Nat} {g : Addr → Option Obj} {s : Shared} (h : ∀ a, g a = s.heap.get? a) : obsSG S n g = (hookS S n).obs s := by
  have e : g = s.heap.get? := funext h
  rw [e] <;> rfl
/-- THE END: a law whose code answers True at every script -/
theorem walk_D {l : PySem.W.OpenLaw} {n : Nat} {q : Program} {loose : List Str} {XP : (Str → Option Value) → Heap → Prop} {d : DefRec} {S : Sd} {hn : Nat} {lf : Nat} {ld : DefS} {x : Str} (lv : Nat) (hm : l.most = some n) (hn2 : n ≤ sizeLine) (hdf : d.params.defaults = []) (hlv : lv ≤ 100)
    (hd : S.defs.lookup lf = some ld) (hat : ld.at_ = (d.name, none)) (hps : ld.ps = [x]) (hsh : (lf, 1, [], 0) ∈ S.shapes) (hc : chk S = true) (B : Bx S)
    (run_ok : ∀ ns : List Int, ns.length ≤ n → ∃ st, run S.T S.fuel lv lf [.lst (ns.map .int)] [] = .ok (.bl true) st) :
    PySem.W.WalkO q loose XP (fun w h => (hookS S hn).says w h) l.row.toRowW d [] (fun f vs => PySem.call f vs) := by
  refine Att.attach_call hm hdf fun w s₀ s₁ mg mb fa o pm cd doc a vs ns G Y ho hd' hcd hmg hobj hints hlen hg => ?_
  obtain ⟨K, KX, c⟩ := Y
  have c1 : facts S K = true := congrArg (fun z : AlS => z.1) c
  have c2 := congrArg (fun z : AlS => z.2.1) c
  have c3 := congrArg (fun z : AlS => z.2.2) c
  have fx : ∀ base : Heap, K.In base → base.Ns mainGlobals mg → Fx S (fun f => fdAt K (S.nms.fn f)) l.prog w K mg base := fun base k1 k2 => fx_of k1 k2 c2 c3 c1 B
  have fx0 := fx _ KX G.T.g
  obtain ⟨fe, dvs, h1, F, kp, hnm, hmg', cf⟩ := fx0.fn lf ld hd
  have hga : mg d.name = some (.ref (He.fAd K ld.at_)) := by
    have := hmg' (by rw [hat])
    rw [hat] at this ⊢
    exact this
  have efa : fa = He.fAd K ld.at_ := by
    have := hmg.symm.trans hga
    cases this; rfl
  subst efa
  obtain ⟨dv2, ds, v1, v2, bx⟩ := cf.sh 1 [] 0 hsh
  have hb : ∀ u : Value, BindsTo s₁ (fdAt K (S.nms.fn lf)) ⟨[u], []⟩ [(x, u)] := fun u => by
    have := bx s₁ [u] [] KX rfl rfl
    rw [hps] at this
    exact this
  have room : Room 202 callerA := ⟨rfl, by decide, by decide⟩
  refine law_callG (sp := SpN ⟨l.prog, w, K, S.nms⟩ (run S.T S.fuel lv lf) 1) KX G.T.g G.T.b G.T.builtins G.T.nolimit hg hobj hints (Nat.le_trans hlen hn2) (room.mono (show 2 * lv + 2 ≤ 202 by omega)) (fun base k1 k2 => ?_) hb fun H _ hS => ?_
  · have := (all_levels (fx base k1 k2) hc lv).2 lf ld hd
    rw [hps] at this
    exact this
  · obtain ⟨st, e⟩ := run_ok ns hlen
    refine ⟨[], H, [], [.lst (ns.map .int)], ⟨fun a o h => h, rfl, List.nodup_nil, (fun a h => by simp at h), fun i a c h => by simp at h⟩, .cons' (by rw [repV]; exact ⟨a, _, rfl, hS, .mapInt ns⟩) .nil', rfl, ?_⟩
    rw [e]
    exact fun m' G' H' _ _ v hv => repV_bl.mp hv
end Dn
end
section
set_option linter.all false
set_option maxRecDepth 100000
/-! Fn1: what a run ends in, by what is wanted of its end. Own work. -/
namespace Dn

/-- holds fast what is wanted, so that simp leaves it -/
inductive Dep {α : Type} (Q : α → Store → Prop) (Er : Nat → List D → Store → Prop) : Type where
  | mk
/-- the run ends well and Q holds, or it ends in an error and E holds -/
@[irreducible] def Rs {α : Type} (x : Res α) (Q : α → Store → Prop) (Er : Nat → List D → Store → Prop) (_ : Dep Q Er := Dep.mk) : Prop := match x with
  | .ok a st => Q a st
  | .exc c vs st => Er c vs st
  | .stk => False
structure Ks where
  nx : Env → Store → Prop
  rt : D → Store → Prop
  bk : Env → Store → Prop := fun _ _ => False
  ct : Env → Store → Prop := fun _ _ => False
  xc : Nat → List D → Env → Store → Prop
inductive DepK (K : Ks) : Type where
  | mk
@[irreducible] def Fs (x : Fl) (K : Ks) (_ : DepK K := DepK.mk) : Prop := match x with
  | .nx env st => K.nx env st
  | .rt d st => K.rt d st
  | .bk env st => K.bk env st
  | .ct env st => K.ct env st
  | .xc c vs env st => K.xc c vs env st
  | .stk => False
/-- no error -/
abbrev noE : Nat → List D → Store → Prop := fun _ _ _ => False
section
variable {α β : Type} {x y : Res α} {Q Q' : α → Store → Prop} {Er : Nat → List D → Store → Prop} {K K' : Ks} {R : Run} {env : Env} {st : Store}
theorem Rs.mono (h : Rs x Q Er) (k : ∀ a st, Q a st → Q' a st) : Rs x Q' Er := by
  unfold Rs at *
  cases x with
  | ok a st => exact k a st h
  | exc c vs st => exact h
  | stk => exact h
theorem Rs.imp {E' : Nat → List D → Store → Prop} (h : Rs x Q Er) (k : ∀ a st, Q a st → Q' a st) (k2 : ∀ c vs st, Er c vs st → E' c vs st) : Rs x Q' E' := by
  unfold Rs at *
  cases x with
  | ok a st => exact k a st h
  | exc c vs st => exact k2 c vs st h
  | stk => exact h
theorem Rs.calmE {E' : Nat → List D → Store → Prop} (h : Rs x Q noE) : Rs x Q E' := h.imp (fun _ _ q => q) fun _ _ _ q => q.elim
theorem Rs.get (h : Rs x Q noE) : ∃ a st, x = .ok a st ∧ Q a st := by
  unfold Rs at h
  cases x with
  | ok a st => exact ⟨a, st, rfl, h⟩
  | exc c vs st => exact h.elim
  | stk => exact h.elim
theorem Rs.of {a : α} {st : Store} (e : x = .ok a st) (h : Q a st) : Rs x Q Er := by rw [e]; unfold Rs; exact h
@[simp] theorem Rs_ok {a : α} {st : Store} : Rs (.ok a st) Q Er = Q a st := by unfold Rs; rfl
@[simp] theorem Rs_exc {c : Nat} {vs : List D} {st : Store} : Rs (.exc c vs st : Res α) Q Er = Er c vs st := by unfold Rs; rfl
@[simp] theorem Rs_stk : Rs (.stk : Res α) Q Er = False := by unfold Rs; rfl
@[simp] theorem Fs_nx : Fs (.nx env st) K = K.nx env st := by unfold Fs; rfl
@[simp] theorem Fs_rt {d : D} : Fs (.rt d st) K = K.rt d st := by unfold Fs; rfl
@[simp] theorem Fs_bk : Fs (.bk env st) K = K.bk env st := by unfold Fs; rfl
@[simp] theorem Fs_ct : Fs (.ct env st) K = K.ct env st := by unfold Fs; rfl
@[simp] theorem Fs_xc {c : Nat} {vs : List D} : Fs (.xc c vs env st) K = K.xc c vs env st := by unfold Fs; rfl
@[simp] theorem Fs_stk : Fs .stk K = False := by unfold Fs; rfl
@[simp] theorem Rs_bnd {x : M β} {f : β → M α} : Rs (bnd x f st) Q Er = Rs (x st) (fun a s => Rs (f a s) Q Er) Er := by
  unfold bnd
  cases x st <;> simp only [Rs]
@[simp] theorem Rs_ret {a : α} : Rs (ret a st) Q Er = Q a st := by unfold Rs; rfl
@[simp] theorem Rs_mstk : Rs ((stk : M α) st) Q Er = False := by unfold Rs; rfl
@[simp] theorem Rs_opt_some {a : α} : Rs (opt (some a) st) Q Er = Q a st := by unfold Rs; rfl
@[simp] theorem Rs_if {c : Prop} [Decidable c] {x y : Res α} : Rs (if c then x else y) Q Er = if c then Rs x Q Er else Rs y Q Er := by split <;> rfl
@[simp] theorem Rs_ifM {c : Prop} [Decidable c] {x y : M α} : Rs ((if c then x else y) st) Q Er = if c then Rs (x st) Q Er else Rs (y st) Q Er := by split <;> rfl
@[simp] theorem Fs_if {c : Prop} [Decidable c] {x y : Fl} : Fs (if c then x else y) K = if c then Fs x K else Fs y K := by split <;> rfl
@[simp] theorem Fs_vl {x : M α} {k : α → Store → Fl} : Fs (vl x env st k) K = Rs (x st) (fun a s => Fs (k a s) K) (fun c vs s => K.xc c vs env s) := by
  unfold vl
  cases x st <;> simp only [Rs, Fs]
@[simp] theorem Fs_sq {x : Fl} {k : Env → Store → Fl} : Fs (sq x k) K = Fs x { K with nx := fun e s => Fs (k e s) K } := by
  unfold sq
  cases x <;> simp only [Fs]
theorem Fs.mono {x : Fl} (h : Fs x K) (h1 : ∀ e s, K.nx e s → K'.nx e s) (h2 : ∀ d s, K.rt d s → K'.rt d s) (h3 : ∀ e s, K.bk e s → K'.bk e s) (h4 : ∀ e s, K.ct e s → K'.ct e s) (h5 : ∀ c vs e s, K.xc c vs e s → K'.xc c vs e s) : Fs x K' := by
  unfold Fs at *
  cases x with
  | nx e s => exact h1 e s h
  | rt d s => exact h2 d s h
  | bk e s => exact h3 e s h
  | ct e s => exact h4 e s h
  | xc c vs e s => exact h5 c vs e s h
  | stk => exact h
/-! ### the evaluator's steps -/
@[simp] theorem ev_var {i : Nat} : ev R (.var i) env st = match env[i]? with
    | some (some d) => .ok d st
    | _ => .stk := id rfl
@[simp] theorem ev_cst {d : D} : ev R (.cst d) env = ret d := id rfl
@[simp] theorem ev_glb {i : Nat} : ev R (.glb i) env = opt R.T.glb[i]? := id rfl
@[simp] theorem ev_tup {es : EL} : ev R (.tup es) env = bnd (evL R es env) fun xs => ret (.tup xs) := id rfl
@[simp] theorem ev_lst {es : EL} : ev R (.lst es) env = bnd (evL R es env) fun xs => ret (.lst xs) := id rfl
@[simp] theorem ev_dic {es : EL} : ev R (.dic es) env = bnd (evL R es env) fun xs => opt ((kvsOf xs).bind dmk) := id rfl
@[simp] theorem ev_box {e : E} : ev R (.box e) env = bnd (ev R e env) alloc := id rfl
@[simp] theorem Rs_alloc {c : D} {Q : D → Store → Prop} : Rs (alloc c st) Q Er = Q (.ref st.length) (st ++ [c]) := by unfold Rs; rfl
@[simp] theorem ev_bin {op : BOp} {a b : E} : ev R (.bin op a b) env = bnd (ev R a env) fun x => bnd (ev R b env) fun y => fun st => match bin op x y st with
    | some z => .ok z st
    | none => .stk := id rfl
@[simp] theorem ev_neg {a : E} : ev R (.neg a) env = bnd (ev R a env) fun x => match x with
    | .int i => ret (.int (-i))
    | _ => stk := id rfl
@[simp] theorem ev_cmp {op : COp} {a b : E} : ev R (.cmp op a b) env = bnd (ev R a env) fun x => bnd (ev R b env) fun y => evCmp R op x y := id rfl
@[simp] theorem ev_cmpd {op : COp} {a b : E} : ev R (.cmpd op a b) env = bnd (ev R a env) fun x => bnd (ev R b env) fun y => cmpM op x y := id rfl
/-- the second half of a chain of two -/
def cmp2K (r : D) (x : M D) : M D := match r with
  | .bl true => x
  | .bl false => ret (.bl false)
  | _ => stk
@[simp] theorem cmp2K_bl {b : Bool} {x : M D} : cmp2K (.bl b) x = if b then x else ret (.bl false) := by cases b <;> rfl
@[simp] theorem ev_cmp2 {o1 o2 : COp} {a b c : E} : ev R (.cmp2 o1 o2 a b c) env = bnd (ev R a env) fun x => bnd (ev R b env) fun y => bnd (evCmp R o1 x y) fun r => cmp2K r (bnd (ev R c env) fun z => evCmp R o2 y z) := id rfl
@[simp] theorem ev_and {es : EL} : ev R (.and es) env = evAnd R es env := id rfl
@[simp] theorem ev_or {es : EL} : ev R (.or es) env = evOr R es env := id rfl
@[simp] theorem evAnd_one {e : E} : evAnd R (.cons e .nil) env = ev R e env := id rfl
@[simp] theorem evAnd_more {e e2 : E} {es : EL} : evAnd R (.cons e (.cons e2 es)) env = bnd (ev R e env) fun x => bnd (truM x) fun b => if b then evAnd R (.cons e2 es) env else ret x := id rfl
@[simp] theorem evOr_one {e : E} : evOr R (.cons e .nil) env = ev R e env := id rfl
@[simp] theorem evOr_more {e e2 : E} {es : EL} : evOr R (.cons e (.cons e2 es)) env = bnd (ev R e env) fun x => bnd (truM x) fun b => if b then ret x else evOr R (.cons e2 es) env := id rfl
@[simp] theorem ev_not {a : E} : ev R (.not a) env = bnd (bnd (ev R a env) truM) fun b => ret (.bl (!b)) := id rfl
@[simp] theorem ev_ite {c a b : E} : ev R (.ite c a b) env = bnd (bnd (ev R c env) truM) fun k => if k then ev R a env else ev R b env := id rfl
@[simp] theorem ev_idx {a i : E} : ev R (.idx a i) env = bnd (ev R a env) fun x => bnd (ev R i env) fun y => fun st => match getIdx x y st with
    | some z => .ok z st
    | none => .stk := id rfl
@[simp] theorem ev_atr {a : E} {f : Nat} : ev R (.atr a f) env = bnd (ev R a env) fun x => fun st => match getAtr R.T x f st with
    | some z => .ok z st
    | none => .stk := id rfl
@[simp] theorem ev_atx {a : E} {f : Nat} : ev R (.atx a f) env = bnd (ev R a env) (atxM R.T f) := id rfl
@[simp] theorem ev_call {f : Nat} {as : EL} : ev R (.call f as) env = bnd (evL R as env) fun xs => callD R f xs := id rfl
@[simp] theorem ev_callS {f : Nat} {as : EL} : ev R (.callS f as) env = bnd (evL R as env) fun xs => callS R f xs := id rfl
@[simp] theorem ev_mk {c : Nat} {as : EL} : ev R (.mk c as) env = bnd (evL R as env) fun xs => mkD R c xs := id rfl
@[simp] theorem ev_blt {f : Blt} {as : EL} : ev R (.blt f as) env = bnd (evL R as env) fun xs => evBlt R f xs := id rfl
@[simp] theorem ev_lrg {as : EL} : ev R (.lrg as) env = bnd (evL R as env) rngL := id rfl
@[simp] theorem ev_bm {o : E} {m : BM} {as : EL} : ev R (.bm o m as) env = bnd (ev R o env) fun x => fun st => if bmOk m (cellOf st x) then bnd (evL R as env) (fun xs => bmeth m x xs) st else .stk := id rfl
@[simp] theorem ev_isi {a : E} {ts : List Ty} : ev R (.isi a ts) env = bnd (ev R a env) fun x => fun st => if isiOk R.T (cellOf st x) then .ok (.bl (ts.any (instC R.T (cellOf st x)))) st else .stk := id rfl
@[simp] theorem ev_slc {a : E} {lo hi : EL} : ev R (.slc a lo hi) env = bnd (ev R a env) fun x => bnd (evL R lo env) fun l => match sPart l with
    | some l => bnd (evL R hi env) fun h => match sPart h with
      | some h => fun st => match cellOf st x with
        | .tup xs => .ok (.tup (cut xs l h)) st
        | .lst xs => .ok (.lst (cut xs l h)) st
        | _ => .stk
      | none => stk
    | none => stk := id rfl
@[simp] theorem evL_nil : evL R .nil env = ret [] := id rfl
@[simp] theorem evL_cons {e : E} {es : EL} : evL R (.cons e es) env = bnd (ev R e env) fun x => bnd (evL R es env) fun xs => ret (x :: xs) := id rfl
@[simp] theorem evC_nil : evC R .nil env = ret true := id rfl
@[simp] theorem evC_cons {e : E} {es : EL} : evC R (.cons e es) env = bnd (bnd (ev R e env) truM) fun b => if b then evC R es env else ret false := id rfl
@[simp] theorem evI_e {e : E} : evI R (.e e) env = bnd (ev R e env) fun x => fun st => match cellOf st x with
    | .tup xs => .ok (xs, [x]) st
    | .lst xs => .ok (xs, [x]) st
    | _ => .stk := id rfl
@[simp] theorem evI_rng {as : EL} : evI R (.rng as) env = bnd (evL R as env) rngI := id rfl
@[simp] theorem evI_enm {e : E} : evI R (.enm e) env = bnd (ev R e env) fun x => fun st => match itemsOf st x with
    | some xs => .ok (enumL 0 xs, [x]) st
    | none => .stk := id rfl
@[simp] theorem evI_zip {a b : E} : evI R (.zip a b) env = bnd (ev R a env) fun x => bnd (ev R b env) fun y => fun st => match itemsOf st x, itemsOf st y with
    | some xs, some ys => .ok (zipL xs ys, [x, y]) st
    | _, _ => .stk := id rfl
@[simp] theorem evI_rev {e : E} : evI R (.rev e) env = bnd (ev R e env) fun x => fun st => match itemsOf st x with
    | some xs => .ok (xs.reverse, [x]) st
    | none => .stk := id rfl
@[simp] theorem evT_eq {e : E} : evT R e env = bnd (ev R e env) truM := id rfl
@[simp] theorem Rs_truM {x : D} {Q : Bool → Store → Prop} : Rs (truM x st) Q Er = match truthy st x with
    | some b => Q b st
    | none => False := by unfold truM; cases truthy st x <;> simp only [Rs]
/-! ### statements -/
@[simp] theorem evSL_nil : evSL R .nil env st = .nx env st := id rfl
@[simp] theorem evSL_cons {s : S} {ss : SL} : evSL R (.cons s ss) env st = sq (evS R s env st) fun e s => evSL R ss e s := id rfl
@[simp] theorem evS_exp {e : E} : evS R (.exp e) env st = vl (ev R e env) env st fun _ st1 => .nx env st1 := id rfl
@[simp] theorem evS_asg {t : Tg} {e : E} : evS R (.asg t e) env st = vl (ev R e env) env st fun x st1 => match bindT st1 t x env with
    | some env' => .nx env' st1
    | none => .stk := id rfl
@[simp] theorem evS_par {is : List Nat} {es : EL} : evS R (.par is es) env st = vl (evL R es env) env st fun xs st1 => match setL is xs env with
    | some env' => .nx env' st1
    | none => .stk := id rfl
@[simp] theorem evS_aug {i : Nat} {op : BOp} {e : E} : evS R (.aug i op e) env st = match env[i]? with
    | some (some x) => vl (ev R e env) env st fun y st1 => match op, x, y with
      | .add, .int a, .int b => .nx (env.set i (some (.int (a + b)))) st1
      | _, _, _ => .stk
    | _ => .stk := id rfl
@[simp] theorem evS_sub {o i e : E} : evS R (.sub o i e) env st = vl (ev R e env) env st fun y st1 => vl (ev R o env) env st1 fun a st2 => vl (ev R i env) env st2 fun k st3 => vl (setIdx a k y) env st3 fun _ st4 => .nx env st4 := id rfl
@[simp] theorem evS_atrS {o e : E} {f : Nat} : evS R (.atrS o f e) env st = vl (ev R e env) env st fun y st1 => vl (ev R o env) env st1 fun a st2 => vl (setAtr R.T a f y) env st2 fun _ st3 => .nx env st3 := id rfl
@[simp] theorem evS_ret {e : E} : evS R (.ret e) env st = vl (ev R e env) env st fun x st1 => .rt x st1 := id rfl
@[simp] theorem evS_retN : evS R .retN env st = .rt .non st := id rfl
@[simp] theorem evS_iff {c : E} {a b : SL} : evS R (.iff c a b) env st = vl (evT R c env) env st fun k st1 => if k then evSL R a env st1 else evSL R b env st1 := id rfl
@[simp] theorem evS_rai {c : Nat} {es : EL} : evS R (.rai c es) env st = vl (evL R es env) env st fun xs st1 => match R.T.cls[c]? with
    | some e => if e.err && decide (xs.length = e.flds.length) then .xc c xs.reverse env st1 else .stk
    | none => .stk := id rfl
@[simp] theorem evS_pas : evS R .pas env st = .nx env st := id rfl
@[simp] theorem evS_brk : evS R .brk env st = .bk env st := id rfl
@[simp] theorem evS_cnt : evS R .cnt env st = .ct env st := id rfl
@[simp] theorem Fs_leave {i : Nat} {x : Fl} : Fs (leave i x) K = Fs x { nx := fun env st => (noxE (env.set i none) && D.noxL st) = true ∧ K.nx (env.set i none) st, rt := fun d st => (d.nox && D.noxL st) = true ∧ K.rt d st, bk := fun env st => (noxE (env.set i none) && D.noxL st) = true ∧ K.bk (env.set i none) st, ct := fun env st => (noxE (env.set i none) && D.noxL st) = true ∧ K.ct (env.set i none) st, xc := fun _ _ _ _ => False } := by
  cases x <;> simp only [leave, Fs_nx, Fs_rt, Fs_bk, Fs_ct, Fs_xc, Fs_stk] <;> split <;> simp_all
theorem Fs_try {b h : SL} {c i : Nat} (hb : Fs (evSL R b env st) { K with xc := fun c' vs env1 st1 => match R.T.cls[c']? with
      | some e => e.err = true ∧ (if isUp R.T c' c then i < env1.length ∧ noxE env1 = true ∧ D.noxL st1 = true ∧ D.noxL vs = true ∧ Fs (leave i (evSL R h (env1.set i (some (.exn c' e.flds vs))) st1)) K else K.xc c' vs env1 st1)
      | none => False }) : Fs (evS R (.try b c i h) env st) K := by
  have e0 : evS R (.try b c i h) env st = match evSL R b env st with
    | .xc c' vs env1 st1 => (match R.T.cls[c']? with
      | some e => if e.err then (if isUp R.T c' c then (if i < env1.length ∧ noxE env1 = true ∧ D.noxL st1 = true ∧ D.noxL vs = true then leave i (evSL R h (env1.set i (some (.exn c' e.flds vs))) st1) else .stk) else .xc c' vs env1 st1) else .stk
      | none => .stk)
    | y => y := rfl
  rw [e0]
  cases q : evSL R b env st with
  | xc c' vs env1 st1 =>
    rw [q] at hb
    simp only [Fs_xc] at hb ⊢
    split at hb
    · rename_i e he
      obtain ⟨h1, h2⟩ := hb
      simp only [he, h1, if_true]
      split at h2
      · rename_i hu
        obtain ⟨a1, a2, a3, a4, a5⟩ := h2
        rw [if_pos hu, if_pos ⟨a1, a2, a3, a4⟩]; exact a5
      · rename_i hu
        rw [if_neg hu, Fs_xc]; exact h2
    · exact hb.elim
  | nx _ _ => rw [q] at hb; rw [Fs_nx] at hb ⊢; exact hb
  | rt _ _ => rw [q] at hb; rw [Fs_rt] at hb ⊢; exact hb
  | bk _ _ => rw [q] at hb; rw [Fs_bk] at hb ⊢; exact hb
  | ct _ _ => rw [q] at hb; rw [Fs_ct] at hb ⊢; exact hb
  | stk => rw [q] at hb; rw [Fs_stk] at hb; exact hb.elim
/-- a def's body -/
theorem Rs_runF {f : FnE} {ds : List D} {Q : D → Store → Prop} (hl : ds.length = f.np) (h : Fs (evSL R f.body (ds.map some ++ List.replicate (f.nn - f.np) none) st) { nx := fun _ s => Q .non s, rt := Q, xc := fun c vs _ s => Er c vs s }) : Rs (runF R f ds st) Q Er := by
  unfold runF
  rw [if_pos hl]
  cases q : evSL R f.body (ds.map some ++ List.replicate (f.nn - f.np) none) st <;> rw [q] at h <;> unfold Rs <;> unfold Fs at h <;> exact h
end
end Dn
end
section
set_option linter.all false
set_option maxRecDepth 100000
/-! Fn2: loops, comprehensions, calls, by what is wanted of their end. Own work. -/
namespace Dn
section
variable {α β : Type} {Er : Nat → List D → Store → Prop} {K : Ks} {R : Run} {env : Env} {st : Store}
theorem depRefl (st : Store) (ds : List D) : depOk st ds st = true := by
  unfold depOk
  refine List.all_eq_true.mpr fun d _ => ?_
  cases d <;> simp
/-- for t in items: body -/
theorem forGo_wp {dep : Store → Bool} {fb : Store → D → Env → Option Env} {body : Env → Store → Fl} (enc : α → D) (all : List α) (I : List α → Env → Store → Prop) (hdep : ∀ done e s, I done e s → dep s = true)
    (step : ∀ done a rest e s, all = done ++ a :: rest → I done e s → ∃ e1, fb s (enc a) e = some e1 ∧ Fs (body e1 s) { nx := I (done ++ [a]), ct := I (done ++ [a]), rt := K.rt, bk := K.nx, xc := K.xc }) (fin : ∀ e s, I all e s → K.nx e s) :
    ∀ (rest done : List α) (e : Env) (s : Store), all = done ++ rest → I done e s → Fs (forGo dep fb body (rest.map enc) e s) K
  | [], done, e, s, h, hi => by
    rw [List.append_nil] at h
    subst h
    rw [List.map_nil, forGo, hdep _ _ _ hi, if_pos rfl, Fs_nx]
    exact fin e s hi
  | a :: rest, done, e, s, h, hi => by
    rw [List.map_cons, forGo, hdep _ _ _ hi, if_pos rfl]
    obtain ⟨e1, h1, h2⟩ := step done a rest e s h hi
    rw [h1]
    dsimp only
    have ih := fun e s => forGo_wp enc all I hdep step fin rest (done ++ [a]) e s (by rw [h]; simp)
    cases q : body e1 s with
    | nx e2 s2 => rw [q, Fs_nx] at h2; exact ih e2 s2 h2
    | ct e2 s2 => rw [q, Fs_ct] at h2; exact ih e2 s2 h2
    | bk e2 s2 => rw [q] at h2; simp only [Fs_nx, Fs_rt, Fs_bk, Fs_ct, Fs_xc, Fs_stk] at h2 ⊢; exact h2
    | rt d s2 => rw [q] at h2; simp only [Fs_nx, Fs_rt, Fs_bk, Fs_ct, Fs_xc, Fs_stk] at h2 ⊢; exact h2
    | xc c vs e2 s2 => rw [q] at h2; simp only [Fs_nx, Fs_rt, Fs_bk, Fs_ct, Fs_xc, Fs_stk] at h2 ⊢; exact h2
    | stk => rw [q, Fs_stk] at h2; exact h2.elim
theorem Fs_for {t : Tg} {i : I} {b : SL} (enc : α → D) (all : List α) (I : Store → List α → Env → Store → Prop)
    (hi : Rs (evI R i env st) (fun p s0 => p.1 = all.map enc ∧ I s0 [] env s0 ∧ (∀ done e s, I s0 done e s → depOk s0 p.2 s = true) ∧
      (∀ done a rest e s, all = done ++ a :: rest → I s0 done e s → ∃ e1, bindT s t (enc a) e = some e1 ∧ Fs (evSL R b e1 s) { nx := I s0 (done ++ [a]), ct := I s0 (done ++ [a]), rt := K.rt, bk := K.nx, xc := K.xc }) ∧
      ∀ e s, I s0 all e s → K.nx e s) (fun c vs s => K.xc c vs env s)) : Fs (evS R (.for t i b) env st) K := by
  show Fs (vl (evI R i env) env st fun p st1 => forGo (depOk st1 p.2) (fun st d env => bindT st t d env) (fun env st => evSL R b env st) p.1 env st1) K
  rw [Fs_vl]
  refine hi.imp (fun p s0 h => ?_) fun _ _ _ h => h
  obtain ⟨h1, h2, h3, h4, h5⟩ := h
  rw [h1]
  exact forGo_wp enc all (I s0) h3 h4 h5 all [] env s0 rfl h2
/-- while: by a measure -/
theorem whlGo_wp {test : Env → M Bool} {body : Env → Store → Fl} (I : Nat → Env → Store → Prop) (step : ∀ m e s, I m e s → Rs (test e s) (fun b s1 => if b = true then Fs (body e s1) { nx := fun e2 s2 => ∃ m', m' < m ∧ I m' e2 s2, ct := fun e2 s2 => ∃ m', m' < m ∧ I m' e2 s2, rt := K.rt, bk := K.nx, xc := K.xc } else K.nx e s1) (fun c vs s => K.xc c vs e s)) :
    ∀ (fuel m : Nat) (e : Env) (s : Store), m < fuel → I m e s → Fs (whlGo test body fuel e s) K
  | 0, m, e, s, h, _ => by omega
  | n + 1, m, e, s, h, hi => by
    rw [whlGo, Fs_vl]
    refine (step m e s hi).imp (fun b s1 hb => ?_) fun _ _ _ h => h
    cases b with
    | false => simp only [Bool.false_eq_true, if_false, Fs_nx] at hb ⊢; exact hb
    | true =>
      simp only [if_true] at hb ⊢
      cases q : body e s1 with
      | nx e2 s2 => rw [q, Fs_nx] at hb; obtain ⟨m', h1, h2⟩ := hb; exact whlGo_wp I step n m' e2 s2 (by omega) h2
      | ct e2 s2 => rw [q, Fs_ct] at hb; obtain ⟨m', h1, h2⟩ := hb; exact whlGo_wp I step n m' e2 s2 (by omega) h2
      | bk e2 s2 => rw [q] at hb; simp only [Fs_nx, Fs_rt, Fs_bk, Fs_ct, Fs_xc, Fs_stk] at hb ⊢; exact hb
      | rt d s2 => rw [q] at hb; simp only [Fs_nx, Fs_rt, Fs_bk, Fs_ct, Fs_xc, Fs_stk] at hb ⊢; exact hb
      | xc c vs e2 s2 => rw [q] at hb; simp only [Fs_nx, Fs_rt, Fs_bk, Fs_ct, Fs_xc, Fs_stk] at hb ⊢; exact hb
      | stk => rw [q, Fs_stk] at hb; exact hb.elim
theorem Fs_whl {c : E} {b : SL} (I : Nat → Env → Store → Prop) (m : Nat) (hm : m < R.fuel) (h0 : I m env st)
    (step : ∀ m e s, I m e s → Rs (evT R c e s) (fun k s1 => if k = true then Fs (evSL R b e s1) { nx := fun e2 s2 => ∃ m', m' < m ∧ I m' e2 s2, ct := fun e2 s2 => ∃ m', m' < m ∧ I m' e2 s2, rt := K.rt, bk := K.nx, xc := K.xc } else K.nx e s1) (fun c vs s => K.xc c vs e s)) : Fs (evS R (.whl c b) env st) K :=
  whlGo_wp I step R.fuel m env st hm h0
/-- [.. for ..], walked with a store that may change -/
theorem lcGo_wp {dep : Store → Bool} {fb : Store → D → Env → Option Env} {fc : Env → M Bool} {fe : Env → M D} {Q : List D → Store → Prop} (enc : α → D) (all : List α) (I : List α → List D → Store → Prop) (hz : all.length < szLine) (hdep : ∀ done acc s, I done acc s → dep s = true)
    (hlen : ∀ done acc s, I done acc s → acc.length ≤ done.length)
    (step : ∀ done a rest acc s, all = done ++ a :: rest → I done acc s → ∃ e1, fb s (enc a) env = some e1 ∧ Rs (fc e1 s) (fun b s1 => if b = true then Rs (fe e1 s1) (fun y s2 => I (done ++ [a]) (acc ++ [y]) s2) noE else I (done ++ [a]) acc s1) noE) (fin : ∀ acc s, I all acc s → Q acc s) :
    ∀ (rest done : List α) (acc : List D) (s : Store), all = done ++ rest → I done acc s → Rs (lcGo dep fb fc (fun env acc => bnd (fe env) fun y => fun st => if acc.length < szLine then .ok (acc ++ [y]) st else .stk) env (rest.map enc) acc s) Q noE
  | [], done, acc, s, h, hi => by
    rw [List.append_nil] at h
    subst h
    rw [List.map_nil, lcGo]
    simp only [hdep _ _ _ hi, if_true, Rs_ok]
    exact fin acc s hi
  | a :: rest, done, acc, s, h, hi => by
    rw [List.map_cons, lcGo]
    simp only [hdep _ _ _ hi, if_true]
    obtain ⟨e1, h1, h2⟩ := step done a rest acc s h hi
    rw [h1]
    dsimp only
    rw [Rs_bnd]
    have ih := fun acc s => lcGo_wp enc all I hz hdep hlen step fin rest (done ++ [a]) acc s (by rw [h]; simp)
    refine h2.mono fun b s1 hb => ?_
    cases b with
    | false => simp only [Bool.false_eq_true, if_false] at hb ⊢; exact ih acc s1 hb
    | true =>
      simp only [if_true] at hb ⊢
      rw [Rs_bnd, Rs_bnd]
      refine hb.mono fun y s2 hy => ?_
      have hl : acc.length < szLine := by
        have := hlen _ _ _ hi
        have e := congrArg List.length h
        simp at e
        omega
      rw [if_pos hl, Rs_ok]
      exact ih _ s2 hy
theorem Rs_calm {x : M α} {Q : α → Store → Prop} (h : Rs (x st) Q noE) : Rs (calm x st) Q Er := by
  unfold calm
  unfold Rs at *
  cases e : x st with
  | ok a s => rw [e] at h; exact h
  | exc c vs s => rw [e] at h; exact h.elim
  | stk => rw [e] at h; exact h
theorem Rs_lcS {e : E} {t : Tg} {i : I} {ifs : EL} {own : List Nat} {Q : D → Store → Prop} (enc : α → D) (all : List α) (I : Store → List α → List D → Store → Prop) (hz : all.length < szLine)
    (hi : Rs (evI R i env st) (fun p s0 => p.1 = all.map enc ∧ I s0 [] [] s0 ∧ (∀ done acc s, I s0 done acc s → depOk s0 p.2 s = true) ∧ (∀ done acc s, I s0 done acc s → acc.length ≤ done.length) ∧
      (∀ done a rest acc s, all = done ++ a :: rest → I s0 done acc s → ∃ e1, bindT s t (enc a) (wipe env own) = some e1 ∧ Rs (evC R ifs e1 s) (fun b s1 => if b = true then Rs (ev R e e1 s1) (fun y s2 => I s0 (done ++ [a]) (acc ++ [y]) s2) noE else I s0 (done ++ [a]) acc s1) noE) ∧
      ∀ acc s, I s0 all acc s → Q (.lst acc) s) Er) : Rs (ev R (.lc e t i ifs own) env st) Q Er := by
  show Rs (bnd (evI R i env) (fun p => fun st => bnd (calm (lcGo (depOk st p.2) (fun st d env => bindT st t d env) (fun env => evC R ifs env) (fun env acc => bnd (ev R e env) fun y => fun st => if acc.length < szLine then .ok (acc ++ [y]) st else .stk) (wipe env own) p.1 [])) (fun xs => ret (.lst xs)) st) st) Q Er
  rw [Rs_bnd]
  refine hi.imp (fun p s0 h => ?_) fun _ _ _ h => h
  obtain ⟨h1, h2, h3, h4, h5, h6⟩ := h
  rw [Rs_bnd, h1]
  refine Rs_calm ?_
  exact (lcGo_wp (Q := fun acc s => Q (.lst acc) s) enc all (I s0) hz h3 h4 h5 h6 all [] [] s0 rfl h2).mono fun acc s q => by rw [Rs_ret]; exact q
/-- the same where nothing changes: the items that pass, each by g -/
theorem Rs_lc {e : E} {t : Tg} {i : I} {ifs : EL} {own : List Nat} {Q : D → Store → Prop} (enc : α → D) (all : List α) (p : α → Bool) (g : α → D) (hz : all.length < szLine)
    (hi : Rs (evI R i env st) (fun q s0 => q.1 = all.map enc ∧ (∀ a ∈ all, ∃ e1, bindT s0 t (enc a) (wipe env own) = some e1 ∧ Rs (evC R ifs e1 s0) (fun b s1 => b = p a ∧ s1 = s0 ∧ (p a = true → Rs (ev R e e1 s0) (fun y s2 => y = g a ∧ s2 = s0) noE)) noE) ∧
      Q (.lst ((all.filter p).map g)) s0) Er) : Rs (ev R (.lc e t i ifs own) env st) Q Er := by
  refine Rs_lcS enc all (fun s0 done acc s => s = s0 ∧ acc = (done.filter p).map g) hz (hi.imp (fun q s0 h => ?_) fun _ _ _ h => h)
  obtain ⟨h1, h2, h3⟩ := h
  refine ⟨h1, ⟨rfl, rfl⟩, fun done acc s h => by rw [h.1]; exact depRefl _ _, fun done acc s h => by rw [h.2, List.length_map]; exact List.length_filter_le _ _, fun done a rest acc s ha h => ?_, fun acc s h => by rw [h.1, h.2]; exact h3⟩
  obtain ⟨rfl, rfl⟩ := h
  obtain ⟨e1, k1, k2⟩ := h2 a (by rw [ha]; simp)
  refine ⟨e1, k1, k2.mono fun b s1 hb => ?_⟩
  obtain ⟨rfl, rfl, hb⟩ := hb
  cases hp : p a with
  | false => simp [hp]
  | true =>
    rw [if_pos rfl]
    refine (hb hp).mono fun y s2 hy => ?_
    obtain ⟨rfl, rfl⟩ := hy
    simp [hp]
/-- {k: v for ..}, where nothing changes -/
theorem Rs_dc {k v : E} {t : Tg} {i : I} {ifs : EL} {own : List Nat} {Q : D → Store → Prop} (enc : α → D) (all : List α) (I : List α → D → Prop)
    (hi : Rs (evI R i env st) (fun q s0 => q.1 = all.map enc ∧ I [] (.dic [] []) ∧ (∀ done a rest acc, all = done ++ a :: rest → I done acc → ∃ e1, bindT s0 t (enc a) (wipe env own) = some e1 ∧ Rs (evC R ifs e1 s0) (fun b s1 => s1 = s0 ∧ (if b = true then Rs (ev R k e1 s0) (fun x s2 => s2 = s0 ∧ Rs (ev R v e1 s0) (fun y s3 => s3 = s0 ∧ Rs (putKV x y acc s0) (fun acc' s4 => s4 = s0 ∧ I (done ++ [a]) acc') noE) noE) noE else I (done ++ [a]) acc)) noE) ∧
      ∀ acc, I all acc → Q acc s0) Er) : Rs (ev R (.dc k v t i ifs own) env st) Q Er := by
  show Rs (bnd (evI R i env) (fun p => fun st => calm (dcGo (depOk st p.2) (fun st d env => bindT st t d env) (fun env => evC R ifs env) (fun env acc => bnd (ev R k env) fun x => bnd (ev R v env) fun y => putKV x y acc) (wipe env own) p.1 (.dic [] [])) st) st) Q Er
  rw [Rs_bnd]
  refine hi.imp (fun q s0 h => ?_) fun _ _ _ h => h
  obtain ⟨h1, h2, h3, h4⟩ := h
  refine Rs_calm ?_
  rw [h1]
  have go : ∀ (rest done : List α) (acc : D), all = done ++ rest → I done acc → Rs (dcGo (depOk s0 q.2) (fun st d env => bindT st t d env) (fun env => evC R ifs env) (fun env acc => bnd (ev R k env) fun x => bnd (ev R v env) fun y => putKV x y acc) (wipe env own) (rest.map enc) acc s0) Q noE := by
    intro rest
    induction rest with
    | nil =>
      intro done acc h hi
      rw [List.append_nil] at h
      subst h
      rw [List.map_nil, dcGo]
      simp only [depRefl, if_true, Rs_ok]
      exact h4 acc hi
    | cons a rest ih =>
      intro done acc h hi
      rw [List.map_cons, dcGo]
      simp only [depRefl, if_true]
      obtain ⟨e1, k1, k2⟩ := h3 done a rest acc h hi
      rw [k1]
      dsimp only
      rw [Rs_bnd]
      refine k2.mono fun b s1 hb => ?_
      obtain ⟨rfl, hb⟩ := hb
      cases b with
      | false => simp only [Bool.false_eq_true, if_false] at hb ⊢; exact ih (done ++ [a]) acc (by rw [h]; simp) hb
      | true =>
        simp only [if_true] at hb ⊢
        rw [Rs_bnd, Rs_bnd]
        refine hb.mono fun x s2 hx => ?_
        obtain ⟨rfl, hx⟩ := hx
        rw [Rs_bnd]
        refine hx.mono fun y s3 hy => ?_
        obtain ⟨rfl, hy⟩ := hy
        refine hy.mono fun acc' s4 hz => ?_
        obtain ⟨rfl, hz⟩ := hz
        exact ih (done ++ [a]) acc' (by rw [h]; simp) hz
  exact go all [] _ rfl h2
/-- for t in items: each item passes, or ends the def. E: the names, by what the loop may leave in them -/
theorem Fs_forChk {β : Type} {t : Tg} {i : I} {b : SL} (enc : α → D) (all : List α) (p : α → Bool) (E : β → Env)
    (hi : Rs (evI R i env st) (fun q s => q.1 = all.map enc ∧ s = st) noE) (h0 : ∃ o, env = E o)
    (step : ∀ a, a ∈ all → ∀ o, ∃ e1, bindT st t (enc a) (E o) = some e1 ∧ Fs (evSL R b e1 st) { nx := fun e s => p a = true ∧ s = st ∧ ∃ o, e = E o, ct := fun e s => p a = true ∧ s = st ∧ ∃ o, e = E o, rt := fun d s => p a = false ∧ (all.all p = false → K.rt d s), xc := fun c vs e s => p a = false ∧ (all.all p = false → K.xc c vs e s) })
    (fin : all.all p = true → ∀ o, K.nx (E o) st) : Fs (evS R (.for t i b) env st) K := by
  refine Fs_for enc all (fun s0 done e s => s = st ∧ (∃ o, e = E o) ∧ done.all p = true) (hi.imp (fun q s0 h => ?_) fun _ _ _ h => h.elim)
  obtain ⟨h1, rfl⟩ := h
  refine ⟨h1, ⟨rfl, h0, rfl⟩, fun done e s h => by rw [h.1]; exact depRefl _ _, fun done a rest e s ha h => ?_, fun e s h => by obtain ⟨rfl, ⟨o, rfl⟩, h⟩ := h; exact fin h o⟩
  obtain ⟨rfl, ⟨o, rfl⟩, hd⟩ := h
  have hm : a ∈ all := by rw [ha]; simp
  obtain ⟨e1, k1, k2⟩ := step a hm o
  have hf : p a = false → all.all p = false := fun hp => by
    rw [ha]; simp [hp]
  refine ⟨e1, k1, k2.mono (fun e s h => ⟨h.2.1, h.2.2, ?_⟩) (fun d s h => h.2 (hf h.1)) (fun e s h => h.elim) (fun e s h => ⟨h.2.1, h.2.2, ?_⟩) fun c vs e s h => h.2 (hf h.1)⟩ <;> simp [hd, h.1]
/-- for t in items: what each item does to what is kept. E: the names, by what is kept and by what the loop may leave; the store by what is kept -/
theorem Fs_forFold {β γ : Type} {t : Tg} {i : I} {b : SL} (enc : α → D) (all : List α) (g : γ → α → γ) (c0 : γ) (E : γ → β → Env) (S : γ → Store)
    (hi : Rs (evI R i env st) (fun q s => q.1 = all.map enc ∧ s = st ∧ ∀ c, depOk st q.2 (S c) = true) noE) (h0 : ∃ o, env = E c0 o) (hS : st = S c0)
    (step : ∀ done a rest, all = done ++ a :: rest → ∀ o c, c = done.foldl g c0 → ∃ e1, bindT (S c) t (enc a) (E c o) = some e1 ∧ Fs (evSL R b e1 (S c)) { nx := fun e s => s = S (g c a) ∧ ∃ o, e = E (g c a) o, ct := fun e s => s = S (g c a) ∧ ∃ o, e = E (g c a) o, rt := K.rt, bk := K.nx, xc := K.xc })
    (fin : ∀ o, K.nx (E (all.foldl g c0) o) (S (all.foldl g c0))) : Fs (evS R (.for t i b) env st) K := by
  refine Fs_for enc all (fun s0 done e s => s = S (done.foldl g c0) ∧ (∃ o, e = E (done.foldl g c0) o)) (hi.imp (fun q s0 h => ?_) fun _ _ _ h => h.elim)
  obtain ⟨h1, rfl, h2⟩ := h
  refine ⟨h1, ⟨hS, h0⟩, fun done e s h => by rw [h.1]; exact h2 _, fun done a rest e s ha h => ?_, fun e s h => by obtain ⟨rfl, o, rfl⟩ := h; exact fin o⟩
  obtain ⟨rfl, o, rfl⟩ := h
  obtain ⟨e1, k1, k2⟩ := step done a rest ha o _ rfl
  refine ⟨e1, k1, k2.mono (fun e s h => ?_) (fun d s h => h) (fun e s h => h) (fun e s h => ?_) fun c vs e s h => h⟩ <;> simpa using h
/-! ### the same in two steps: what is walked, then the walk -/
def forW (R : Run) (t : Tg) (b : SL) (dep : List D) (s0 : Store) (items : List D) (env : Env) (st : Store) : Fl := forGo (depOk s0 dep) (fun st d env => bindT st t d env) (fun env st => evSL R b env st) items env st
theorem Fs_forE {t : Tg} {i : I} {b : SL} : Fs (evS R (.for t i b) env st) K = Rs (evI R i env st) (fun p s0 => Fs (forW R t b p.2 s0 p.1 env s0) K) (fun c vs s => K.xc c vs env s) := by
  show Fs (vl (evI R i env) env st fun p st1 => forW R t b p.2 st1 p.1 env st1) K = _
  rw [Fs_vl]
theorem forW_inv {t : Tg} {b : SL} {dep : List D} {s0 : Store} (enc : α → D) (all : List α) (I : List α → Env → Store → Prop) (h0 : I [] env st) (hdep : ∀ done e s, I done e s → depOk s0 dep s = true)
    (step : ∀ done a rest e s, all = done ++ a :: rest → I done e s → ∃ e1, bindT s t (enc a) e = some e1 ∧ Fs (evSL R b e1 s) { nx := I (done ++ [a]), ct := I (done ++ [a]), rt := K.rt, bk := K.nx, xc := K.xc }) (fin : ∀ e s, I all e s → K.nx e s) :
    Fs (forW R t b dep s0 (all.map enc) env st) K :=
  forGo_wp enc all I hdep step fin all [] env st rfl h0
def lcW (R : Run) (e : E) (t : Tg) (ifs : EL) (dep : List D) (s0 : Store) (items : List D) (env : Env) (st : Store) : Res D :=
  bnd (calm (lcGo (depOk s0 dep) (fun st d env => bindT st t d env) (fun env => evC R ifs env) (fun env acc => bnd (ev R e env) fun y => fun st => if acc.length < szLine then .ok (acc ++ [y]) st else .stk) env items [])) (fun xs => ret (.lst xs)) st
theorem Rs_lcE {e : E} {t : Tg} {i : I} {ifs : EL} {own : List Nat} {Q : D → Store → Prop} : Rs (ev R (.lc e t i ifs own) env st) Q Er = Rs (evI R i env st) (fun p s0 => Rs (lcW R e t ifs p.2 s0 p.1 (wipe env own) s0) Q Er) Er := by
  show Rs (bnd (evI R i env) (fun p => fun st => lcW R e t ifs p.2 st p.1 (wipe env own) st) st) Q Er = _
  rw [Rs_bnd]
theorem lcW_inv {e : E} {t : Tg} {ifs : EL} {dep : List D} {s0 : Store} {Q : D → Store → Prop} (enc : α → D) (all : List α) (hz : all.length ≤ 1000000) (I : List α → List D → Store → Prop) (h0 : I [] [] st) (hdep : ∀ done acc s, I done acc s → depOk s0 dep s = true) (hlen : ∀ done acc s, I done acc s → acc.length ≤ done.length)
    (step : ∀ done a rest acc s, all = done ++ a :: rest → I done acc s → ∃ e1, bindT s t (enc a) env = some e1 ∧ Rs (evC R ifs e1 s) (fun b s1 => if b = true then Rs (ev R e e1 s1) (fun y s2 => I (done ++ [a]) (acc ++ [y]) s2) noE else I (done ++ [a]) acc s1) noE) (fin : ∀ acc s, I all acc s → Q (.lst acc) s) :
    Rs (lcW R e t ifs dep s0 (all.map enc) env st) Q Er := by
  unfold lcW
  rw [Rs_bnd]
  refine Rs_calm ?_
  exact (lcGo_wp (Q := fun acc s => Q (.lst acc) s) enc all I (by unfold szLine; omega) hdep hlen step fin all [] [] st rfl h0).mono fun acc s q => by rw [Rs_ret]; exact q
end
end Dn
end
section
set_option linter.all false
set_option maxRecDepth 100000
/-! Fn3: calls; operators as they compute. Own work. -/
namespace Dn
abbrev Rk (T : Tb) (F n : Nat) : Run := ⟨T, F, run T F n⟩
section
variable {α : Type} {Er : Nat → List D → Store → Prop} {env : Env} {st : Store} {T : Tb} {F n f c : Nat} {fe : FnE} {ds : List D} {Q : D → Store → Prop}
theorem frzP {st : Store} {n : Nat} {d : D} (p : d.pur = true) : frz st n d = some d := by
  cases n with
  | zero => simp [frz, p]
  | succ n => cases d <;> simp [frz, p]
theorem frzPL {st : Store} {n : Nat} : ∀ {ds : List D}, D.purL ds = true → ds.mapM (frz st n) = some ds
  | [], _ => rfl
  | d :: ds, h => by
    rw [D.purL, Bool.and_eq_true] at h
    rw [List.mapM_cons, frzP h.1, frzPL h.2]; rfl
theorem run_eq (hf : T.fns[f]? = some fe) : run T F (n + 1) f ds = runF (Rk T F n) fe ds := by rw [run]; simp only [hf]
/-- a call with still things -/
theorem Rs_call (hf : T.fns[f]? = some fe) (hp : D.purL ds = true) (hl : ds.length = fe.np)
    (h : Fs (evSL (Rk T F n) fe.body (ds.map some ++ List.replicate (fe.nn - fe.np) none) []) { nx := fun _ _ => Q .non st, rt := fun d s => ∃ d', frz s frzN d = some d' ∧ Q d' st, xc := fun c vs _ s => ∃ vs', vs.mapM (frz s frzN) = some vs' ∧ Er c vs' st }) : Rs (callD (Rk T F (n + 1)) f ds st) Q Er := by
  have key : Rs (runF (Rk T F n) fe ds []) (fun d s => ∃ d', frz s frzN d = some d' ∧ Q d' st) (fun c vs s => ∃ vs', vs.mapM (frz s frzN) = some vs' ∧ Er c vs' st) :=
    Rs_runF hl (h.mono (fun _ s q => ⟨.non, rfl, q⟩) (fun _ _ q => q) (fun _ _ q => q) (fun _ _ q => q) fun _ _ _ _ q => q)
  unfold callD
  rw [if_pos hp]
  show Rs (match run T F (n + 1) f ds [] with
    | .ok d st1 => (match frz st1 frzN d with
      | some d' => Res.ok d' st
      | none => .stk)
    | .exc c vs st1 => (match vs.mapM (frz st1 frzN) with
      | some vs' => .exc c vs' st
      | none => .stk)
    | .stk => .stk) Q Er
  rw [run_eq hf]
  unfold Rs at key ⊢
  cases e : runF (Rk T F n) fe ds [] with
  | ok d s =>
    rw [e] at key
    obtain ⟨d', h1, h2⟩ := key
    dsimp only
    rw [h1]; exact h2
  | exc c vs s =>
    rw [e] at key
    obtain ⟨d', h1, h2⟩ := key
    dsimp only
    rw [h1]; exact h2
  | stk => rw [e] at key; exact key
/-- a call that shares the store -/
theorem Rs_callRun (hf : T.fns[f]? = some fe) (hl : ds.length = fe.np) (h : Fs (evSL (Rk T F n) fe.body (ds.map some ++ List.replicate (fe.nn - fe.np) none) st) { nx := fun _ s => Q .non s, rt := Q, xc := fun c vs _ s => Er c vs s }) : Rs (run T F (n + 1) f ds st) Q Er := by
  rw [run_eq hf]; exact Rs_runF hl h
theorem Rs_callI (hf : T.fns[f]? = some fe) (hp : D.purL ds = false) (hl : ds.length = fe.np) (h : Fs (evSL (Rk T F n) fe.body (ds.map some ++ List.replicate (fe.nn - fe.np) none) st) { nx := fun _ s => Q .non s, rt := Q, xc := fun c vs _ s => Er c vs s }) : Rs (callD (Rk T F (n + 1)) f ds st) Q Er := by
  unfold callD
  rw [if_neg (by rw [hp]; exact Bool.false_ne_true)]
  exact Rs_callRun hf hl h
theorem Rs_callS (hf : T.fns[f]? = some fe) (hl : ds.length = fe.np) (h : Fs (evSL (Rk T F n) fe.body (ds.map some ++ List.replicate (fe.nn - fe.np) none) st) { nx := fun _ s => Q .non s, rt := Q, xc := fun c vs _ s => Er c vs s }) : Rs (callS (Rk T F (n + 1)) f ds st) Q Er := Rs_callRun hf hl h
/-- a new thing -/
theorem Rs_mk (hi : (T.cls[c]?).bind (·.init) = some f) (hf : T.fns[f]? = some fe) (hl : ds.length + 1 = fe.np)
    (h : Fs (evSL (Rk T F n) fe.body ((.ref st.length :: ds).map some ++ List.replicate (fe.nn - fe.np) none) (st ++ [.obj c [] []])) { nx := fun _ s => Q (.ref st.length) s, rt := fun d s => d = .non ∧ Q (.ref st.length) s, xc := fun c vs _ s => Er c vs s }) : Rs (mkD (Rk T F (n + 1)) c ds st) Q Er := by
  have key : Rs (run T F (n + 1) f (.ref st.length :: ds) (st ++ [.obj c [] []])) (fun d s => d = .non ∧ Q (.ref st.length) s) Er := Rs_callRun hf (by simpa using hl) (h.mono (fun _ s q => ⟨rfl, q⟩) (fun _ _ q => q) (fun _ _ q => q) (fun _ _ q => q) fun _ _ _ _ q => q)
  unfold mkD
  rw [hi]
  dsimp only
  show Rs (match run T F (n + 1) f (.ref st.length :: ds) (st ++ [.obj c [] []]) with
    | .ok .non st' => Res.ok (D.ref st.length) st'
    | .ok _ _ => .stk
    | .exc c vs st' => .exc c vs st'
    | .stk => .stk) Q Er
  unfold Rs at key ⊢
  cases e : run T F (n + 1) f (.ref st.length :: ds) (st ++ [.obj c [] []]) with
  | ok d s =>
    rw [e] at key
    obtain ⟨rfl, h2⟩ := key
    exact h2
  | exc c vs s => rw [e] at key; exact key
  | stk => rw [e] at key; exact key
end
/-! ### how things compute -/
section
variable {R : Run} {st : Store} {env : Env}
@[simp] theorem bindT_v {i : Nat} {d : D} : bindT st (.v i) d env = if i < env.length then some (env.set i (some d)) else none := id rfl
@[simp] theorem bindT_t {ts : List Tg} {xs : List D} : bindT st (.t ts) (.tup xs) env = bindTs st ts xs env := id rfl
@[simp] theorem bindTs_nil : bindTs st [] [] env = some env := id rfl
@[simp] theorem bindTs_cons {t : Tg} {ts : List Tg} {x : D} {xs : List D} : bindTs st (t :: ts) (x :: xs) env = (bindT st t x env).bind (bindTs st ts xs) := id rfl
@[simp] theorem wipe_nil : wipe env [] = env := id rfl
@[simp] theorem wipe_cons {v : Nat} {vs : List Nat} : wipe env (v :: vs) = (wipe env vs).set v none := id rfl
@[simp] theorem setL_nil : setL [] [] env = some env := id rfl
@[simp] theorem setL_cons {i : Nat} {is : List Nat} {x : D} {xs : List D} : setL (i :: is) (x :: xs) env = if i < env.length then setL is xs (env.set i (some x)) else none := id rfl
@[simp] theorem cellOf_tup {xs : List D} : cellOf st (.tup xs) = .tup xs := id rfl
@[simp] theorem cellOf_lst {xs : List D} : cellOf st (.lst xs) = .lst xs := id rfl
@[simp] theorem cellOf_dic {ks vs : List D} : cellOf st (.dic ks vs) = .dic ks vs := id rfl
@[simp] theorem cellOf_obj {c : Nat} {ns : List Nat} {vs : List D} : cellOf st (.obj c ns vs) = .obj c ns vs := id rfl
@[simp] theorem cellOf_int {i : Int} : cellOf st (.int i) = .int i := id rfl
@[simp] theorem cellOf_bl {b : Bool} : cellOf st (.bl b) = .bl b := id rfl
@[simp] theorem cellOf_str {x : PySem.Str} : cellOf st (.str x) = .str x := id rfl
@[simp] theorem cellOf_non : cellOf st .non = .non := id rfl
@[simp] theorem cellOf_exn {c : Nat} {ns : List Nat} {vs : List D} : cellOf st (.exn c ns vs) = .exn c ns vs := id rfl
@[simp] theorem cellOf_refS {n : Nat} : cellOf st (.ref n) = (st[n]?).getD .non := id rfl
@[simp] theorem bin_int {op : BOp} {i j : Int} : bin op (.int i) (.int j) st = (binI op i j).map .int := id rfl
@[simp] theorem binI_add {i j : Int} : binI .add i j = some (i + j) := id rfl
@[simp] theorem binI_sub {i j : Int} : binI .sub i j = some (i - j) := id rfl
@[simp] theorem binI_mul {i j : Int} : binI .mul i j = if lim64 i || lim64 j then some (i * j) else none := id rfl
@[simp] theorem binI_fdiv {i j : Int} : binI .fdiv i j = if j ≠ 0 ∧ j.natAbs < 1073741824 then some (i.fdiv j) else none := id rfl
@[simp] theorem binI_mod {i j : Int} : binI .mod i j = if j ≠ 0 then some (i.fmod j) else none := id rfl
@[simp] theorem binI_pow {i j : Int} : binI .pow i j = if 0 ≤ j ∧ j ≤ 1000000 ∧ i.natAbs < 2 ^ 64 then some (i ^ j.toNat) else none := id rfl
@[simp] theorem binI_shl {i j : Int} : binI .shl i j = if 0 ≤ j ∧ j ≤ 1000000 ∧ i.natAbs < 2 ^ 64 then some (i * 2 ^ j.toNat) else none := id rfl
@[simp] theorem binI_shr {i j : Int} : binI .shr i j = if 0 ≤ j then some (i / 2 ^ j.toNat) else none := id rfl
@[simp] theorem binI_band {i j : Int} : binI .band i j = some (bitAnd i j) := id rfl
@[simp] theorem bin_tup {xs ys : List D} : bin .add (.tup xs) (.tup ys) st = if sz (xs.length + ys.length) then some (.tup (xs ++ ys)) else none := id rfl
@[simp] theorem bin_lst {xs ys : List D} : bin .add (.lst xs) (.lst ys) st = if sz (xs.length + ys.length) then some (.lst (xs ++ ys)) else none := id rfl
@[simp] theorem getIdx_tup {xs : List D} {k : Int} : getIdx (.tup xs) (.int k) st = (ix xs.length k).bind fun j => xs[j]? := id rfl
@[simp] theorem getIdx_lst {xs : List D} {k : Int} : getIdx (.lst xs) (.int k) st = (ix xs.length k).bind fun j => xs[j]? := id rfl
@[simp] theorem getIdx_dic {ks vs : List D} {k : D} : getIdx (.dic ks vs) k st = if keyFor ks k then dget ks vs k else none := by
  unfold getIdx; cases k <;> rfl
@[simp] theorem ix_nat {n k : Nat} : ix n (k : Int) = if k < n then some k else none := by
  unfold ix
  rw [if_pos (Int.natCast_nonneg k)]
  by_cases h : k < n
  · rw [if_pos h, if_pos (by omega)]; simp
  · rw [if_neg h, if_neg (by omega)]
theorem ix_lit {n k : Nat} (h : k < n) : ix n (OfNat.ofNat k : Int) = some k := by
  have := ix_nat (n := n) (k := k)
  rw [if_pos h] at this
  exact this
@[simp] theorem ix_zero {n : Nat} : ix (n + 1) 0 = some 0 := by simp [ix]
@[simp] theorem ix_one {n : Nat} : ix (n + 2) 1 = some 1 := by unfold ix; rw [if_pos (by decide)]; exact if_pos (by omega)
@[simp] theorem ix_two {n : Nat} : ix (n + 3) 2 = some 2 := by unfold ix; rw [if_pos (by decide)]; exact if_pos (by omega)
@[simp] theorem getAtr_obj {T : Tb} {c f : Nat} {ns : List Nat} {vs : List D} : getAtr T (.obj c ns vs) f st = if fldOk T c f && !isErr T c then fget ns vs f else none := id rfl
@[simp] theorem getAtr_exn {T : Tb} {c f : Nat} {ns : List Nat} {vs : List D} : getAtr T (.exn c ns vs) f st = if fldOk T c f && isErr T c then fget ns vs f else none := id rfl
@[simp] theorem fget_cons {n f : Nat} {ns : List Nat} {v : D} {vs : List D} : fget (n :: ns) (v :: vs) f = if n = f then some v else fget ns vs f := id rfl
@[simp] theorem truthy_bl {b : Bool} : truthy st (.bl b) = some b := id rfl
@[simp] theorem truthy_int {i : Int} : truthy st (.int i) = some (i != 0) := id rfl
@[simp] theorem classOf_int {i : Int} : classOf st (.int i) = none := id rfl
@[simp] theorem classOf_bl {b : Bool} : classOf st (.bl b) = none := id rfl
@[simp] theorem classOf_str {x : PySem.Str} : classOf st (.str x) = none := id rfl
@[simp] theorem classOf_non : classOf st .non = none := id rfl
@[simp] theorem classOf_tup {xs : List D} : classOf st (.tup xs) = none := id rfl
@[simp] theorem classOf_lst {xs : List D} : classOf st (.lst xs) = none := id rfl
@[simp] theorem classOf_dic {ks vs : List D} : classOf st (.dic ks vs) = none := id rfl
@[simp] theorem classOf_obj {c : Nat} {ns : List Nat} {vs : List D} : classOf st (.obj c ns vs) = some c := id rfl
/-- comparisons of data -/
theorem evCmp_dat {op : COp} {x y : D} (h : classOf st x = none) : evCmp R op x y st = match cmp op x y st with
    | some b => .ok (.bl b) st
    | none => .stk := by
  unfold evCmp
  rw [h]
  cases op <;> rfl
@[simp] theorem evCmp_lt_int {i j : Int} : evCmp R .lt (.int i) (.int j) st = .ok (.bl (decide (i < j))) st := id rfl
@[simp] theorem evCmp_gt_int {i j : Int} : evCmp R .gt (.int i) (.int j) st = .ok (.bl (decide (i > j))) st := id rfl
@[simp] theorem evCmp_le_int {i j : Int} : evCmp R .le (.int i) (.int j) st = .ok (.bl (decide (i ≤ j))) st := by
  show Res.ok (D.bl (!decide (j < i))) st = _
  congr 2; by_cases h : i ≤ j <;> simp [h] <;> omega
@[simp] theorem evCmp_ge_int {i j : Int} : evCmp R .ge (.int i) (.int j) st = .ok (.bl (decide (i ≥ j))) st := by
  show Res.ok (D.bl (!decide (i < j))) st = _
  congr 2; by_cases h : j ≤ i <;> simp [h] <;> omega
@[simp] theorem evCmp_eq_int {i j : Int} : evCmp R .eq (.int i) (.int j) st = .ok (.bl (decide (i = j))) st := id rfl
@[simp] theorem evCmp_ne_int {i j : Int} : evCmp R .ne (.int i) (.int j) st = .ok (.bl (!decide (i = j))) st := id rfl
@[simp] theorem evCmp_is {x : D} : evCmp R .is_ x .non st = .ok (.bl (decide (x = .non))) st := by
  unfold evCmp
  cases classOf st x <;> rfl
@[simp] theorem evCmp_isn {x : D} : evCmp R .isn x .non st = .ok (.bl (!decide (x = .non))) st := by
  unfold evCmp
  cases classOf st x <;> rfl
/-! built-ins -/
@[simp] theorem blt_len_tup {xs : List D} : evBlt R .len [.tup xs] st = .ok (.int xs.length) st := id rfl
@[simp] theorem blt_len_lst {xs : List D} : evBlt R .len [.lst xs] st = .ok (.int xs.length) st := id rfl
theorem blt_is {f : Blt} {xs : List D} (h : f ≠ .len) : evBlt R f xs st = match blt f xs st with
    | some y => .ok y st
    | none => .stk := by
  unfold evBlt
  cases f <;> first | exact absurd rfl h | rfl
@[simp] theorem blt_tuple_tup {xs : List D} : evBlt R .tuple [.tup xs] st = .ok (.tup xs) st := id rfl
@[simp] theorem blt_tuple_lst {xs : List D} : evBlt R .tuple [.lst xs] st = .ok (.tup xs) st := id rfl
@[simp] theorem blt_list_tup {xs : List D} : evBlt R .list [.tup xs] st = .ok (.lst xs) st := id rfl
@[simp] theorem blt_list_lst {xs : List D} : evBlt R .list [.lst xs] st = .ok (.lst xs) st := id rfl
@[simp] theorem blt_int_int {i : Int} : evBlt R .int [.int i] st = .ok (.int i) st := id rfl
@[simp] theorem blt_int_bl {b : Bool} : evBlt R .int [.bl b] st = .ok (.int (if b then 1 else 0)) st := id rfl
@[simp] theorem blt_abs {i : Int} : evBlt R .abs [.int i] st = .ok (.int (if i < 0 then -i else i)) st := id rfl
@[simp] theorem blt_min2 {i j : Int} : evBlt R .min [.int i, .int j] st = .ok (.int (if j < i then j else i)) st := id rfl
@[simp] theorem blt_max2 {i j : Int} : evBlt R .max [.int i, .int j] st = .ok (.int (if j > i then j else i)) st := id rfl
end
end Dn
end
section
set_option linter.all false
set_option maxRecDepth 100000
/-! Fn4: more of how things compute. Own work. -/
namespace Dn
section
variable {R : Run} {T : Tb} {st : Store} {env : Env} {n : Nat}
@[simp] theorem dat_non : D.dat n .non = true := by cases n <;> rfl
@[simp] theorem dat_bl {b : Bool} : D.dat n (.bl b) = true := by cases n <;> rfl
@[simp] theorem dat_int {i : Int} : D.dat n (.int i) = true := by cases n <;> rfl
@[simp] theorem dat_str {x : PySem.Str} : D.dat n (.str x) = x.cps.all (· < 0x110000) := by cases n <;> rfl
@[simp] theorem dat_tup {xs : List D} : D.dat (n + 1) (.tup xs) = D.datL n xs := id rfl
@[simp] theorem dat_lst {xs : List D} : D.dat (n + 1) (.lst xs) = D.datL n xs := id rfl
@[simp] theorem dat_tup60 {xs : List D} : D.dat 60 (.tup xs) = D.datL 59 xs := id rfl
@[simp] theorem dat_lst60 {xs : List D} : D.dat 60 (.lst xs) = D.datL 59 xs := id rfl
@[simp] theorem dat_dic {ks vs : List D} : D.dat n (.dic ks vs) = false := by cases n <;> rfl
@[simp] theorem dat_kdic {ks vs : List D} : D.dat n (.kdic ks vs) = false := by cases n <;> rfl
@[simp] theorem dat_obj {c : Nat} {ns : List Nat} {vs : List D} : D.dat n (.obj c ns vs) = false := by cases n <;> rfl
@[simp] theorem dat_exn {c : Nat} {ns : List Nat} {vs : List D} : D.dat n (.exn c ns vs) = false := by cases n <;> rfl
@[simp] theorem dat_ref {k : Nat} : D.dat n (.ref k) = false := by cases n <;> rfl
@[simp] theorem dat_fn {k : Nat} : D.dat n (.fn k) = false := by cases n <;> rfl
@[simp] theorem dat_rng {a b : Int} : D.dat n (.rng a b) = false := by cases n <;> rfl
theorem datL_all : ∀ (n : Nat) (ds : List D), D.datL n ds = ds.all (D.dat n)
  | _, [] => rfl
  | n, d :: ds => by rw [D.datL, List.all_cons, datL_all n ds]
@[simp] theorem datL_nil : D.datL n [] = true := id rfl
@[simp] theorem datL_cons {d : D} {ds : List D} : D.datL n (d :: ds) = (D.dat n d && D.datL n ds) := id rfl
mutual
theorem dat_pur : ∀ (n : Nat) (d : D), d.dat n = true → d.pur = true
  | _, .non, _ => rfl
  | _, .bl _, _ => rfl
  | _, .int _, _ => rfl
  | _, .str _, _ => rfl
  | 0, .tup xs, h => by simp [D.dat] at h
  | 0, .lst xs, h => by simp [D.dat] at h
  | n + 1, .tup xs, h => by rw [D.pur]; exact datL_pur n xs (by simpa [D.dat] using h)
  | n + 1, .lst xs, h => by rw [D.pur]; exact datL_pur n xs (by simpa [D.dat] using h)
  | n, .dic _ _, h => by simp at h
  | n, .kdic _ _, h => by simp at h
  | n, .obj _ _ _, h => by simp at h
  | n, .ref _, h => by simp at h
  | n, .fn _, h => by simp at h
  | n, .rng _ _, h => by simp at h
  | n, .exn _ _ _, h => by simp at h
theorem datL_pur : ∀ (n : Nat) (ds : List D), D.datL n ds = true → D.purL ds = true
  | _, [], _ => rfl
  | n, d :: ds, h => by
    rw [D.datL, Bool.and_eq_true] at h
    rw [D.purL, dat_pur n d h.1, datL_pur n ds h.2]; rfl
end
@[simp] theorem pur_non : D.pur .non = true := id rfl
@[simp] theorem pur_bl {b : Bool} : D.pur (.bl b) = true := id rfl
@[simp] theorem pur_int {i : Int} : D.pur (.int i) = true := id rfl
@[simp] theorem pur_str {x : PySem.Str} : D.pur (.str x) = true := id rfl
@[simp] theorem pur_tup {xs : List D} : D.pur (.tup xs) = D.purL xs := id rfl
@[simp] theorem pur_lst {xs : List D} : D.pur (.lst xs) = D.purL xs := id rfl
@[simp] theorem pur_dic {ks vs : List D} : D.pur (.dic ks vs) = (D.purL ks && D.purL vs) := id rfl
@[simp] theorem pur_obj {c : Nat} {ns : List Nat} {vs : List D} : D.pur (.obj c ns vs) = D.purL vs := id rfl
@[simp] theorem pur_ref {k : Nat} : D.pur (.ref k) = false := id rfl
@[simp] theorem purL_nil : D.purL [] = true := id rfl
@[simp] theorem purL_cons {d : D} {ds : List D} : D.purL (d :: ds) = (D.pur d && D.purL ds) := id rfl
@[simp] theorem purL_append {xs ys : List D} : D.purL (xs ++ ys) = (D.purL xs && D.purL ys) := by simp [D.purL_all]
theorem purL_map {α : Type} {f : α → D} {xs : List α} (h : ∀ a, (f a).pur = true) : D.purL (xs.map f) = true := by
  rw [D.purL_all, List.all_map, List.all_eq_true]; exact fun a _ => h a
@[simp] theorem frz_non : frz st n .non = some .non := frzP rfl
@[simp] theorem frz_bl {b : Bool} : frz st n (.bl b) = some (.bl b) := frzP rfl
@[simp] theorem frz_int {i : Int} : frz st n (.int i) = some (.int i) := frzP rfl
@[simp] theorem frz_str {x : PySem.Str} : frz st n (.str x) = some (.str x) := frzP rfl
theorem frz_tup {xs : List D} (h : D.purL xs = true) : frz st n (.tup xs) = some (.tup xs) := frzP h
theorem frz_lst {xs : List D} (h : D.purL xs = true) : frz st n (.lst xs) = some (.lst xs) := frzP h
theorem frz_ref {k : Nat} {c : D} (h : st[k]? = some c) : frz st (n + 1) (.ref k) = frz st n c := by
  rw [frz]; simp [h]
@[simp] theorem isiOk_non : isiOk T .non = true := id rfl
@[simp] theorem isiOk_bl {b : Bool} : isiOk T (.bl b) = true := id rfl
@[simp] theorem isiOk_int {i : Int} : isiOk T (.int i) = true := id rfl
@[simp] theorem isiOk_str {x : PySem.Str} : isiOk T (.str x) = true := id rfl
@[simp] theorem isiOk_tup {xs : List D} : isiOk T (.tup xs) = true := id rfl
@[simp] theorem isiOk_lst {xs : List D} : isiOk T (.lst xs) = true := id rfl
@[simp] theorem isiOk_dic {ks vs : List D} : isiOk T (.dic ks vs) = true := id rfl
@[simp] theorem isiOk_obj {c : Nat} {ns : List Nat} {vs : List D} : isiOk T (.obj c ns vs) = match T.cls[c]? with
    | some e => !e.err
    | none => false := id rfl
@[simp] theorem isiOk_exn {c : Nat} {ns : List Nat} {vs : List D} : isiOk T (.exn c ns vs) = match T.cls[c]? with
    | some e => e.err
    | none => false := id rfl
@[simp] theorem instC_non {t : Ty} : instC T .non t = false := by cases t <;> rfl
@[simp] theorem instC_bl {b : Bool} {t : Ty} : instC T (.bl b) t = (decide (t = .int) || decide (t = .bool)) := by cases t <;> rfl
@[simp] theorem instC_int {i : Int} {t : Ty} : instC T (.int i) t = decide (t = .int) := by cases t <;> rfl
@[simp] theorem instC_str {x : PySem.Str} {t : Ty} : instC T (.str x) t = decide (t = .str) := by cases t <;> rfl
@[simp] theorem instC_tup {xs : List D} {t : Ty} : instC T (.tup xs) t = decide (t = .tuple) := by cases t <;> rfl
@[simp] theorem instC_lst {xs : List D} {t : Ty} : instC T (.lst xs) t = decide (t = .list) := by cases t <;> rfl
@[simp] theorem instC_dic {ks vs : List D} {t : Ty} : instC T (.dic ks vs) t = decide (t = .dict) := by cases t <;> rfl
@[simp] theorem instC_obj {c : Nat} {ns : List Nat} {vs : List D} {c' : Nat} : instC T (.obj c ns vs) (.cls c') = decide (c = c') := id rfl
@[simp] theorem instC_exn {c : Nat} {ns : List Nat} {vs : List D} {c' : Nat} : instC T (.exn c ns vs) (.cls c') = isUp T c c' := id rfl
@[simp] theorem instC_exnV {c : Nat} {ns : List Nat} {vs : List D} : instC T (.exn c ns vs) .valueError = true := id rfl
@[simp] theorem truthy_non : truthy st .non = some false := id rfl
@[simp] theorem truthy_tup {xs : List D} : truthy st (.tup xs) = some (!xs.isEmpty) := id rfl
@[simp] theorem truthy_lst {xs : List D} : truthy st (.lst xs) = some (!xs.isEmpty) := id rfl
@[simp] theorem getElem_app0 {c : D} : (st ++ [c])[st.length]? = some c := by simp
theorem Rs_eq {α : Type} {x : Res α} {a : α} {st : Store} (h : Rs x (fun d s => d = a ∧ s = st) noE) : x = .ok a st := by
  obtain ⟨b, s, e, rfl, rfl⟩ := h.get
  exact e
theorem Rs_eq' {α : Type} {x : Res α} {a : α} {st : Store} (h : x = .ok a st) : Rs x (fun d s => d = a ∧ s = st) noE := by rw [h, Rs_ok]; exact ⟨rfl, rfl⟩
/-! ranges, lists of ints -/
theorem rngI_one {j : Int} : rngI [.int j] st = if small62 j = true then .ok (rangeL 0 j, []) st else .stk := by
  show (if small62 j = true then ret (rangeL 0 j, []) else stk) st = _
  split <;> rfl
@[simp] theorem rngL_one {j : Int} : rngL [.int j] st = if (small62 j && sz j.toNat) = true then .ok (.lst (rangeL 0 j)) st else .stk := by
  show (if (small62 j && sz j.toNat) = true then ret (D.lst (rangeL 0 j)) else stk) st = _
  split <;> rfl
theorem small62_nat {k : Nat} (h : k < 2 ^ 62) : small62 (k : Int) = true := by
  unfold small62
  exact decide_eq_true ⟨by omega, by omega⟩
theorem rangeL_nat {k : Nat} : rangeL 0 (k : Int) = (List.range k).map fun (i : Nat) => D.int (i : Int) := by
  unfold rangeL
  simp
theorem sz_le {k : Nat} (h : k ≤ 1000000) : sz k = true := decide_eq_true (Nat.le_trans h (by decide))
/-! the store -/
@[simp] theorem set_app {c y : D} : (st ++ [c]).set st.length y = st ++ [y] := by
  rw [List.set_append_right _ _ (by omega)]; simp
@[simp] theorem setAt_eq {k : Nat} {c : D} : setAt st k c = st.set k c := id rfl
@[simp] theorem setAtr_ref {k f : Nat} {y : D} : setAtr T (.ref k) f y st = match st[k]? with
    | some (.obj c ns vs) => if fldOk T c f && !isErr T c && decide (ns.length < 1000) then .ok () (st.set k (.obj c (fputN ns f) (fputV ns vs f y))) else .stk
    | _ => .stk := id rfl
@[simp] theorem fputN_nil {f : Nat} : fputN [] f = [f] := id rfl
@[simp] theorem fputN_cons {m f : Nat} {ns : List Nat} : fputN (m :: ns) f = if m = f then m :: ns else m :: fputN ns f := id rfl
@[simp] theorem fputV_nil {f : Nat} {vs : List D} {y : D} : fputV [] vs f y = [y] := id rfl
@[simp] theorem fputV_cons {m f : Nat} {ns : List Nat} {v y : D} {vs : List D} : fputV (m :: ns) (v :: vs) f y = if m = f then y :: vs else v :: fputV ns vs f y := id rfl
theorem frz_obj {c : Nat} {ns : List Nat} {vs vs' : List D} (h : vs.mapM (frz st n) = some vs') : frz st (n + 1) (.obj c ns vs) = some (.obj c ns vs') := by
  by_cases p : D.purL vs = true
  · rw [frzPL p] at h
    cases h
    exact frzP p
  · rw [frz]; simp [p, h]
theorem frz_tupM {vs vs' : List D} (h : vs.mapM (frz st n) = some vs') : frz st (n + 1) (.tup vs) = some (.tup vs') := by
  by_cases p : D.purL vs = true
  · rw [frzPL p] at h
    cases h
    exact frzP p
  · rw [frz]; simp [p, h]
theorem frz_lstM {vs vs' : List D} (h : vs.mapM (frz st n) = some vs') : frz st (n + 1) (.lst vs) = some (.lst vs') := by
  by_cases p : D.purL vs = true
  · rw [frzPL p] at h
    cases h
    exact frzP p
  · rw [frz]; simp [p, h]
theorem frz_dicM {ks vs vs' : List D} (hk : D.purL ks = true) (h : vs.mapM (frz st n) = some vs') : frz st (n + 1) (.dic ks vs) = some (.dic ks vs') := by
  by_cases p : D.purL vs = true
  · rw [frzPL p] at h
    cases h
    exact frzP (by simp [hk, p])
  · rw [frz]; simp [p, h, hk]
theorem mapM_someS {α β : Type} {f : α → Option β} {g : α → β} : ∀ {xs : List α}, (∀ x ∈ xs, f x = some (g x)) → xs.mapM f = some (xs.map g)
  | [], _ => rfl
  | x :: xs, h => by
    rw [List.mapM_cons, h x (by simp), mapM_someS fun y hy => h y (by simp [hy])]; rfl
theorem mapM_map {α β γ : Type} {f : β → Option γ} {g : α → γ} {k : α → β} : ∀ {xs : List α}, (∀ x ∈ xs, f (k x) = some (g x)) → (xs.map k).mapM f = some (xs.map g)
  | [], _ => rfl
  | x :: xs, h => by
    rw [List.map_cons, List.mapM_cons, h x (by simp), mapM_map fun y hy => h y (by simp [hy])]; rfl
/-! dicts -/
theorem dputK_new {ks : List D} {k : D} (h : k ∉ ks) : dputK ks k = ks ++ [k] := if_neg h
theorem dputV_newS : ∀ {ks vs : List D} {k y : D}, k ∉ ks → ks.length = vs.length → dputV ks vs k y = vs ++ [y]
  | [], _, _, _, _, _ => by unfold dputV; rfl
  | a :: ks, [], k, y, _, h => by simp at h
  | a :: ks, v :: vs, k, y, h, hl => by
    have h1 : a ≠ k := fun e => h (by simp [e])
    rw [dputV, if_neg h1, dputV_newS (fun q => h (List.mem_cons_of_mem _ q)) (by simpa using hl)]; rfl
theorem putKV_new {ks vs : List D} {k v : D} (h : k ∉ ks) (hk : keyFor ks k = true) (hl : ks.length = vs.length) (hz : ks.length < szLine) : putKV k v (.dic ks vs) st = .ok (.dic (ks ++ [k]) (vs ++ [v])) st := by
  show (if keyFor ks k && decide (ks.length < szLine) then Res.ok (D.dic (dputK ks k) (dputV ks vs k v)) st else .stk) = _
  rw [hk, decide_eq_true hz, dputK_new h, dputV_newS h hl]; rfl
theorem keyFor_same {ks : List D} {k : D} {b : Bool} (h : k.key = true) (hk : k.isT = b) (hs : ∀ x ∈ ks, D.isT x = b) : keyFor ks k = true := by
  unfold keyFor
  rw [h]
  cases ks with
  | nil => rfl
  | cons x xs => simp [hs x (by simp), hk]
@[simp] theorem key_int {i : Int} : D.key (.int i) = true := id rfl
/-! equality of data -/
mutual
theorem eqv_refl : ∀ (n : Nat) (d : D), d.dat n = true → D.eqv d d = true
  | _, .non, _ => rfl
  | _, .bl _, _ => by simp [D.eqv]
  | _, .int _, _ => by simp [D.eqv]
  | _, .str _, _ => by simp [D.eqv]
  | 0, .tup xs, h => by simp [D.dat] at h
  | 0, .lst xs, h => by simp [D.dat] at h
  | n + 1, .tup xs, h => by rw [D.eqv]; exact eqvL_refl n xs (by simpa [D.dat] using h)
  | n + 1, .lst xs, h => by rw [D.eqv]; exact eqvL_refl n xs (by simpa [D.dat] using h)
  | n, .dic _ _, h => by simp at h
  | n, .kdic _ _, h => by simp at h
  | n, .obj _ _ _, h => by simp at h
  | n, .ref _, h => by simp at h
  | n, .fn _, h => by simp at h
  | n, .rng _ _, h => by simp at h
  | n, .exn _ _ _, h => by simp at h
theorem eqvL_refl : ∀ (n : Nat) (ds : List D), D.datL n ds = true → D.eqvL ds ds = true
  | _, [], _ => rfl
  | n, d :: ds, h => by
    rw [D.datL, Bool.and_eq_true] at h
    rw [D.eqvL, eqv_refl n d h.1, eqvL_refl n ds h.2]; rfl
end
/-! == of data -/
theorem classOf_dat {d : D} (h : d.dat n = true) : classOf st d = none := by
  cases d <;> first | rfl | (simp at h)
theorem evCmp_eq_dat {x y : D} (hx : x.dat 60 = true) (hy : y.dat 60 = true) : evCmp R .eq x y st = .ok (.bl (D.eqv x y)) st := by
  rw [evCmp_dat (classOf_dat hx)]
  show (match (if x.dat datN && y.dat datN then some (x.eqv y) else none) with
    | some b => Res.ok (D.bl b) st
    | none => .stk) = _
  rw [show datN = 60 from rfl, hx, hy]; rfl
theorem evCmp_ne_dat {x y : D} (hx : x.dat 60 = true) (hy : y.dat 60 = true) : evCmp R .ne x y st = .ok (.bl (!D.eqv x y)) st := by
  rw [evCmp_dat (classOf_dat hx)]
  show (match (if x.dat datN && y.dat datN then some (x.eqv y) else none : Option Bool).map not with
    | some b => Res.ok (D.bl b) st
    | none => .stk) = _
  rw [show datN = 60 from rfl, hx, hy]; rfl
/-! rows of ints in their order -/
def eN (k : Nat) : D := .int k
theorem eN_ (k : Nat) : eN k = .int k := rfl
@[simp] theorem pur_eN {k : Nat} : (eN k).pur = true := id rfl
/-- row before row -/
def lexlt : List Nat → List Nat → Bool
  | [], [] => false
  | [], _ :: _ => true
  | _ :: _, [] => false
  | x :: xs, y :: ys => if x = y then lexlt xs ys else decide (x < y)
theorem ltL_nat : ∀ {xs ys : List Nat}, D.ltL (xs.map eN) (ys.map eN) = some (lexlt xs ys)
  | [], [] => rfl
  | [], _ :: _ => rfl
  | _ :: _, [] => rfl
  | x :: xs, y :: ys => by
    rw [List.map_cons, List.map_cons, D.ltL, ltL_nat (xs := xs) (ys := ys), eN_, eN_, D.lt, lexlt]
    by_cases h : x = y
    · simp [h]
    · have : (x : Int) ≠ y := by omega
      simp [h, this]
theorem lexlt_irr : ∀ (xs : List Nat), lexlt xs xs = false
  | [] => rfl
  | x :: xs => by rw [lexlt, if_pos rfl, lexlt_irr xs]
theorem lexlt_asym : ∀ {xs ys : List Nat}, lexlt xs ys = true → lexlt ys xs = false
  | [], [], h => by simp [lexlt] at h
  | [], _ :: _, _ => rfl
  | _ :: _, [], h => by simp [lexlt] at h
  | x :: xs, y :: ys, h => by
    rw [lexlt] at h ⊢
    by_cases e : x = y
    · rw [if_pos e] at h
      rw [if_pos e.symm]; exact lexlt_asym h
    · rw [if_neg e] at h
      rw [if_neg (Ne.symm e)]
      simp at h ⊢
      omega
theorem lexlt_trans : ∀ {xs ys zs : List Nat}, lexlt xs ys = true → lexlt ys zs = true → lexlt xs zs = true
  | [], [], zs, h, _ => by simp [lexlt] at h
  | [], _ :: _, [], _, h => by simp [lexlt] at h
  | [], _ :: _, _ :: _, _, _ => rfl
  | _ :: _, [], _, h, _ => by simp [lexlt] at h
  | x :: xs, y :: ys, [], _, h => by simp [lexlt] at h
  | x :: xs, y :: ys, z :: zs, h, h2 => by
    rw [lexlt] at h h2 ⊢
    by_cases e : x = y
    · rw [if_pos e] at h
      by_cases e2 : y = z
      · rw [if_pos e2] at h2
        rw [if_pos (e.trans e2)]; exact lexlt_trans h h2
      · rw [if_neg e2] at h2
        rw [if_neg (by omega)]; simp at h2 ⊢; omega
    · rw [if_neg e] at h
      simp at h
      by_cases e2 : y = z
      · rw [if_neg (by omega)]; simp; omega
      · rw [if_neg e2] at h2
        simp at h2
        rw [if_neg (by omega)]; simp; omega
theorem lexlt_tot : ∀ {xs ys : List Nat}, lexlt xs ys = false → xs ≠ ys → lexlt ys xs = true
  | [], [], _, h => absurd rfl h
  | [], _ :: _, h, _ => by simp [lexlt] at h
  | _ :: _, [], _, _ => rfl
  | x :: xs, y :: ys, h, hn => by
    rw [lexlt] at h ⊢
    by_cases e : x = y
    · rw [if_pos e] at h
      rw [if_pos e.symm]; exact lexlt_tot h fun q => hn (by rw [e, q])
    · rw [if_neg e] at h
      rw [if_neg (Ne.symm e)]; simp at h ⊢; omega
/-- a tuple of ints -/
def eRow (r : List Nat) : D := .tup (r.map eN)
@[simp] theorem pur_eRow {r : List Nat} : (eRow r).pur = true := purL_map fun _ => rfl
theorem eRow_inj {x y : List Nat} (h : eRow x = eRow y) : x = y := by
  have := D.tup.inj h
  refine List.map_inj_right (f := eN) (fun a b e => ?_) |>.mp this
  have := D.int.inj e
  omega
theorem ltB_eRow {x y : List Nat} : ltB (eRow x) (eRow y) = lexlt x y := by
  show (D.ltL _ _).getD false = _
  rw [ltL_nat]; rfl
theorem ord_eRow {x : List Nat} {n : Nat} : D.ord (n + 1) (eRow x) = true := by
  show (List.map _ x).all (D.ord n) = true
  rw [List.all_map, List.all_eq_true]
  intro a _
  cases n <;> rfl
theorem sortOk_rows {rows : List (List Nat)} (h : rows.length < 2 ∨ ∀ r ∈ rows, r ≠ []) : sortOk (rows.map eRow) = true := by
  unfold sortOk
  rw [List.length_map]
  rcases h with h | h
  · rw [decide_eq_true h]; rfl
  · have h1 : ((rows.map eRow).all fun a => a.ord 8) = true := by
      rw [List.all_map, List.all_eq_true]; exact fun a _ => ord_eRow
    have h2 : ((rows.map eRow).all fun a => (rows.map eRow).all fun b => (D.lt a b).isSome) = true := by
      rw [List.all_map, List.all_eq_true]
      intro a _
      rw [Function.comp, List.all_map, List.all_eq_true]
      intro b _
      show (D.ltL _ _).isSome = true
      rw [ltL_nat]; rfl
    have h3 : (rows.map eRow).all D.isNT = true := by
      rw [List.all_map, List.all_eq_true]
      intro a ha
      have := h a ha
      cases a with
      | nil => exact absurd rfl this
      | cons x xs => rfl
    rw [h1, h2, h3]; simp
theorem sortD_rows {rows : List (List Nat)} (h : rows.Pairwise fun x y => lexlt x y = true) : sortD (rows.map eRow) = rows.map eRow := by
  unfold sortD
  refine List.mergeSort_of_pairwise ?_
  refine List.pairwise_map.mpr (h.imp fun {a b} hab => ?_)
  rw [ltB_eRow, lexlt_asym hab]; rfl
/-! a call that leaves the store as it was, with still things or not -/
theorem callV {F f : Nat} {fe : FnE} {ds : List D} {d : D} (hd : d.pur = true) (hf : T.fns[f]? = some fe) (hl : ds.length = fe.np)
    (h : ∀ s, s = st ∨ s = [] ∧ D.purL ds = true → Fs (evSL (Rk T F n) fe.body (ds.map some ++ List.replicate (fe.nn - fe.np) none) s) { nx := fun _ _ => False, rt := fun d' s' => d' = d ∧ s' = s, xc := fun _ _ _ _ => False }) : callD (Rk T F (n + 1)) f ds st = .ok d st := by
  refine Rs_eq ?_
  by_cases hp : D.purL ds = true
  · refine Rs_call hf hp hl ((h [] (.inr ⟨rfl, hp⟩)).mono (fun _ _ q => q.elim) (fun d' s q => ⟨d, ?_, rfl, rfl⟩) (fun _ _ q => q) (fun _ _ q => q) fun _ _ _ _ q => q.elim)
    rw [q.1]; exact frzP hd
  · exact Rs_callI hf (by simpa using hp) hl ((h st (.inl rfl)).mono (fun _ _ q => q.elim) (fun d' s q => q) (fun _ _ q => q) (fun _ _ q => q) fun _ _ _ _ q => q)
theorem cellOf_pur {d : D} (h : d.pur = true) : cellOf st d = d := by
  cases d <;> first | rfl | (simp at h)
/-- all that stood still stands -/
def ExtS (st s : Store) : Prop := ∀ (i : Nat) (c : D), st[i]? = some c → s[i]? = some c
theorem ExtS.refl (st : Store) : ExtS st st := fun _ _ h => h
theorem ExtS.trans {a b c : Store} (h : ExtS a b) (h2 : ExtS b c) : ExtS a c := fun i d q => h2 i d (h i d q)
theorem ExtS.app (st ys : Store) : ExtS st (st ++ ys) := fun i c h => by
  have := List.getElem?_eq_some_iff.mp h
  obtain ⟨hl, _⟩ := this
  rw [List.getElem?_append_left hl]; exact h
theorem ExtS.cell {s : Store} (h : ExtS st s) {d : D} {c : Nat} {ns : List Nat} {vs : List D} (e : cellOf st d = .obj c ns vs) : cellOf s d = .obj c ns vs := by
  cases d <;> try exact e
  rename_i k
  simp at e ⊢
  cases q : st[k]? with
  | none => rw [q] at e; simp at e
  | some x => rw [q] at e; rw [h k x q]; exact e
theorem getAtr_cell {d x : D} {f : Nat} (h : cellOf st d = x) (hx : x.pur = true) : getAtr T d f st = getAtr T x f st := by
  unfold getAtr
  rw [h, cellOf_pur hx]
theorem frz_cell {d : D} {c : Nat} {ns : List Nat} {vs : List D} (h : cellOf st d = .obj c ns vs) (hp : D.purL vs = true) : frz st (n + 1) d = some (.obj c ns vs) := by
  cases d <;> try (rw [show cellOf st _ = _ from rfl] at h; first | (cases h; exact frzP hp) | cases h)
  rename_i k
  simp at h
  cases q : st[k]? with
  | none => rw [q] at h; simp at h
  | some x =>
    rw [q] at h
    simp at h
    rw [frz_ref q, h]; exact frzP hp
/-! comprehensions that change nothing -/
theorem lcF {α : Type} {e : E} {t : Tg} {i : I} {ifs : EL} {own : List Nat} (enc : α → D) (all : List α) (p : α → Bool) (g : α → D) (hz : all.length ≤ 1000000)
    (hi : Rs (evI R i env st) (fun q s => q.1 = all.map enc ∧ s = st) noE)
    (h : ∀ a ∈ all, ∃ e1, bindT st t (enc a) (wipe env own) = some e1 ∧ Rs (evC R ifs e1 st) (fun b s => b = p a ∧ s = st) noE ∧ (p a = true → Rs (ev R e e1 st) (fun y s => y = g a ∧ s = st) noE)) : ev R (.lc e t i ifs own) env st = .ok (.lst ((all.filter p).map g)) st := by
  refine Rs_eq (Rs_lc enc all p g (by unfold szLine; omega) (hi.mono fun q s hq => ?_))
  obtain ⟨h1, rfl⟩ := hq
  refine ⟨h1, fun a ha => ?_, rfl, rfl⟩
  obtain ⟨e1, k1, k2, k3⟩ := h a ha
  exact ⟨e1, k1, k2.mono fun b s hb => ⟨hb.1, hb.2, k3⟩⟩
theorem lcN {α : Type} {e : E} {t : Tg} {i : I} {own : List Nat} (enc : α → D) (all : List α) (g : α → D) (hz : all.length ≤ 1000000)
    (hi : Rs (evI R i env st) (fun q s => q.1 = all.map enc ∧ s = st) noE)
    (h : ∀ a ∈ all, ∃ e1, bindT st t (enc a) (wipe env own) = some e1 ∧ Rs (ev R e e1 st) (fun y s => y = g a ∧ s = st) noE) : ev R (.lc e t i .nil own) env st = .ok (.lst (all.map g)) st := by
  have := lcF (ifs := .nil) enc all (fun _ => true) g hz hi (e := e) (t := t) (own := own) (fun a ha => by
    obtain ⟨e1, h1, h2⟩ := h a ha
    exact ⟨e1, h1, by simp, fun _ => h2⟩)
  rw [List.filter_eq_self.mpr (fun _ _ => rfl)] at this
  exact this
theorem bools_map {α : Type} {q : α → Bool} : ∀ {l : List α}, bools (l.map fun a => D.bl (q a)) = some (l.map q)
  | [] => rfl
  | a :: l => by rw [List.map_cons, bools, bools_map]; rfl
theorem blt_all {α : Type} {q : α → Bool} {l : List α} : evBlt R .all [.lst (l.map fun a => D.bl (q a))] st = .ok (.bl (l.all q)) st := by
  rw [blt_is (by simp)]
  show (match (bools (l.map fun a => D.bl (q a))).map fun bs => D.bl (bs.all id) with
    | some y => Res.ok y st
    | none => .stk) = _
  rw [bools_map]
  simp
theorem blt_any {α : Type} {q : α → Bool} {l : List α} : evBlt R .any [.lst (l.map fun a => D.bl (q a))] st = .ok (.bl (l.any q)) st := by
  rw [blt_is (by simp)]
  show (match (bools (l.map fun a => D.bl (q a))).map fun bs => D.bl (bs.any id) with
    | some y => Res.ok y st
    | none => .stk) = _
  rw [bools_map]
  simp
/-- range(k) walked -/
theorem rng_walk {k : Nat} (h : k ≤ 1000000) : rngI [.int k] st = .ok ((List.range k).map eN, []) st := by
  rw [rngI_one, small62_nat (by omega), if_pos rfl, rangeL_nat]; rfl
theorem in_ints {c : Nat} {ps : List Nat} : evCmp R .in_ (.int (c : Int)) (.lst (ps.map eN)) st = .ok (.bl (decide (c ∈ ps))) st := by
  rw [evCmp_dat classOf_int]
  show (match (if (D.int (c : Int)).dat datN && D.datL datN (ps.map eN) then some ((ps.map eN).any fun x => x.eqv (.int (c : Int))) else none) with
    | some b => Res.ok (D.bl b) st
    | none => .stk) = _
  have h1 : D.datL datN (ps.map eN) = true := by
    rw [datL_all, List.all_map, List.all_eq_true]
    intro a _
    exact dat_int
  have h2 : ((ps.map eN).any fun x => x.eqv (.int (c : Int))) = decide (c ∈ ps) := by
    rw [List.any_map, Bool.eq_iff_iff]
    simp [Function.comp, eN, D.eqv]
    constructor
    · rintro ⟨x, hx, e⟩
      have : x = c := by omega
      exact this ▸ hx
    · exact fun h => ⟨c, h, rfl⟩
  rw [h1, h2, dat_int]; rfl
theorem bmeth_append {k : Nat} {xs : List D} {y : D} (h : st[k]? = some (.lst xs)) (hl : xs.length ≤ 1000000) : bmeth .append (.ref k) [y] st = .ok .non (st.set k (.lst (xs ++ [y]))) := by
  show (match st[k]? with
    | some (.lst xs) => if xs.length < szLine then Res.ok D.non (setAt st k (.lst (xs ++ [y]))) else .stk
    | _ => .stk) = _
  rw [h]
  dsimp only
  rw [if_pos (by unfold szLine; omega)]; rfl
theorem bmeth_index {c : Nat} {hs : List Nat} (h : c ∈ hs) : bmeth .index (.lst (hs.map eN)) [.int (c : Int)] st = .ok (.int (hs.idxOf c : Nat)) st := by
  have h1 : D.datL datN (hs.map eN) = true := by
    rw [datL_all, List.all_map, List.all_eq_true]
    intro a _
    exact dat_int
  have h2 : (hs.map eN).findIdx? (fun x => x.eqv (.int (c : Int))) = some (hs.idxOf c) := by
    clear h1
    induction hs with
    | nil => simp at h
    | cons a hs ih =>
      rw [List.map_cons, List.findIdx?_cons, List.idxOf_cons]
      by_cases e : a = c
      · simp [e, eN, D.eqv]
      · have e' : ¬ ((a : Int) = c) := by omega
        have := ih (by simpa [Ne.symm e] using h)
        have e2 : (a == c) = false := by simp [e]
        rw [this, e2]
        simp [eN, D.eqv, e']
  have h3 : listOf st (.lst (hs.map eN)) = some (hs.map eN) := rfl
  unfold bmeth
  dsimp only
  rw [h3]
  dsimp only
  rw [h1, h2, dat_int]; rfl
theorem getIdx_ints {ns : List Nat} {i : Nat} (h : i < ns.length) : getIdx (.lst (ns.map eN)) (.int (i : Int)) st = some (.int (ns.getD i 0 : Nat)) := by
  rw [getIdx_lst, List.length_map, ix_nat, if_pos h]
  simp [h, eN]
theorem getIdx_intsT {ns : List Nat} {i : Nat} (h : i < ns.length) : getIdx (.tup (ns.map eN)) (.int (i : Int)) st = some (.int (ns.getD i 0 : Nat)) := by
  rw [getIdx_tup, List.length_map, ix_nat, if_pos h]
  simp [h, eN]
@[simp high] theorem blt_min2N {x y : Nat} : evBlt R .min [.int (x : Int), .int (y : Int)] st = .ok (.int ((min x y : Nat) : Int)) st := by
  rw [blt_min2]
  congr 2
  by_cases h : (y : Int) < x
  · rw [if_pos h, Nat.min_eq_right (by omega)]
  · rw [if_neg h, Nat.min_eq_left (by omega)]
@[simp high] theorem blt_max2N {x y : Nat} : evBlt R .max [.int (x : Int), .int (y : Int)] st = .ok (.int ((max x y : Nat) : Int)) st := by
  rw [blt_max2]
  congr 2
  by_cases h : (y : Int) > x
  · rw [if_pos h, Nat.max_eq_right (by omega)]
  · rw [if_neg h, Nat.max_eq_left (by omega)]
theorem enumL_ints {ns : List Nat} : enumL 0 (ns.map eN) = (List.range ns.length).map fun (c : Nat) => D.tup [.int (c : Int), eN (ns.getD c 0)] := by
  have key : ∀ (ns : List Nat) (k : Nat), enumL k (ns.map eN) = (List.range ns.length).map fun (c : Nat) => D.tup [.int ((k + c : Nat) : Int), eN (ns.getD c 0)] := by
    intro ns
    induction ns with
    | nil => intro k; rfl
    | cons a ns ih =>
      intro k
      rw [List.map_cons, enumL, ih, List.length_cons, List.range_succ_eq_map, List.map_cons, List.map_map]
      congr 1
      refine List.map_congr_left fun c _ => ?_
      simp
      omega
  have := key ns 0
  simpa using this
theorem dget_ints {c : Nat} : ∀ {hs : List Nat} {k : Nat}, c ∈ hs → dget (hs.map eN) ((List.range' k hs.length).map eN) (eN c) = some (eN (k + hs.idxOf c))
  | [], _, h => by simp at h
  | a :: hs, k, h => by
    rw [List.map_cons, List.length_cons, List.range'_succ, List.map_cons, dget, List.idxOf_cons]
    by_cases e : a = c
    · simp [e]
    · have h1 : ¬ eN a = eN c := fun q => e (by have := D.int.inj q; omega)
      have e2 : (a == c) = false := by simp [e]
      have := dget_ints (hs := hs) (k := k + 1) (by simpa [Ne.symm e] using h)
      rw [if_neg h1, this, e2]
      show some (eN (k + 1 + hs.idxOf c)) = some (eN (k + (hs.idxOf c + 1)))
      rw [Nat.add_right_comm, Nat.add_assoc]
theorem notin_ints {c : Nat} {hs : List Nat} (h : c ∉ hs) : eN c ∉ hs.map eN := by
  intro q
  obtain ⟨b, hb, e⟩ := List.mem_map.mp q
  have : b = c := by have := D.int.inj e; omega
  exact h (this ▸ hb)
/-! no exception in hand within -/
mutual
theorem pur_nox : ∀ (d : D), d.pur = true → d.nox = true
  | .non, _ => rfl
  | .bl _, _ => rfl
  | .int _, _ => rfl
  | .str _, _ => rfl
  | .ref _, _ => rfl
  | .fn _, _ => rfl
  | .rng _ _, _ => rfl
  | .tup xs, h => by rw [D.nox]; exact purL_nox xs (by simpa using h)
  | .lst xs, h => by rw [D.nox]; exact purL_nox xs (by simpa using h)
  | .dic ks vs, h => by
    rw [D.nox, purL_nox ks (by simp at h; exact h.1), purL_nox vs (by simp at h; exact h.2)]; rfl
  | .kdic ks vs, h => by
    rw [D.pur, Bool.and_eq_true] at h
    rw [D.nox, purL_nox ks h.1, purL_nox vs h.2]; rfl
  | .obj _ _ vs, h => by rw [D.nox]; exact purL_nox vs (by simpa using h)
  | .exn _ _ _, h => by rw [D.pur] at h; exact Bool.noConfusion h
theorem purL_nox : ∀ (ds : List D), D.purL ds = true → D.noxL ds = true
  | [], _ => rfl
  | d :: ds, h => by
    simp at h
    rw [D.noxL, pur_nox d h.1, purL_nox ds h.2]; rfl
end
@[simp] theorem noxE_nil : noxE [] = true := rfl
@[simp] theorem noxE_none {e : Env} : noxE (none :: e) = noxE e := by simp [noxE]
@[simp] theorem noxE_some {d : D} {e : Env} : noxE (some d :: e) = (d.nox && noxE e) := by simp [noxE]
@[simp] theorem noxL_nil : D.noxL [] = true := rfl
@[simp] theorem noxL_cons {d : D} {ds : List D} : D.noxL (d :: ds) = (d.nox && D.noxL ds) := rfl
@[simp] theorem nox_int {i : Int} : D.nox (.int i) = true := rfl
@[simp] theorem nox_bl {b : Bool} : D.nox (.bl b) = true := rfl
@[simp] theorem nox_str {x : PySem.Str} : D.nox (.str x) = true := rfl
@[simp] theorem nox_non : D.nox .non = true := rfl
@[simp] theorem nox_tup {xs : List D} : D.nox (.tup xs) = D.noxL xs := rfl
@[simp] theorem nox_lst {xs : List D} : D.nox (.lst xs) = D.noxL xs := rfl
@[simp] theorem nox_ref {k : Nat} : D.nox (.ref k) = true := rfl
@[simp] theorem ev_atxM {T : Tb} {c f : Nat} {ns : List Nat} {vs : List D} : atxM T f (.exn c ns vs) st = match getAtr T (.exn c ns vs) f st with
    | some z => .ok z st
    | none => .stk := id rfl
theorem blt_repr {d : D} (h : d.dat 60 = true) (h2 : reprOk d = true) : evBlt R .repr [d] st = .ok (.str (reprD d)) st := by
  rw [blt_is (by simp)]
  show (match (if d.dat datN && reprOk d then some (D.str (reprD d)) else none) with
    | some y => Res.ok y st
    | none => .stk) = _
  rw [show datN = 60 from rfl, h, h2]; rfl
@[simp] theorem sPart_nil : sPart [] = some none := id rfl
@[simp] theorem sPart_int {i : Int} : sPart [.int i] = some (some i) := id rfl
theorem sIx_nat {n d k : Nat} (h : k ≤ n) : sIx n d (some (k : Int)) = k := by
  unfold sIx
  dsimp only
  rw [if_neg (by omega), Int.toNat_natCast, Nat.min_eq_left h]
theorem cut_to {xs : List D} {k : Nat} (h : k ≤ xs.length) : cut xs none (some (k : Int)) = xs.take k := by
  unfold cut
  rw [sIx_nat h]
  show (xs.drop 0).take (k - 0) = _
  rfl
theorem cut_from {xs : List D} {k : Nat} (h : k ≤ xs.length) : cut xs (some (k : Int)) none = xs.drop k := by
  unfold cut
  rw [sIx_nat h]
  show (xs.drop k).take (xs.length - k) = _
  rw [List.take_of_length_le (by simp)]
end
end Dn
end
section
set_option linter.all false
set_option maxRecDepth 100000
/-! Fn5: the length of a text of data. Own work. -/
namespace Dn
open PySem
/-- data of few words -/
def shortB : Nat → D → Bool
  | _, .non => true
  | _, .bl _ => true
  | _, .int i => decide (i.natAbs < 1000000000)
  | _, .str x => x.cps.all (· < 0x110000) && ((reprText x).cps.all (· < 0x110000) && decide ((reprText x).length ≤ 50))
  | n + 1, .tup xs => decide (xs.length ≤ 40) && xs.all (shortB n)
  | n + 1, .lst xs => decide (xs.length ≤ 40) && xs.all (shortB n)
  | _, _ => false
def shortN : Nat → Nat
  | 0 => 50
  | n + 1 => 4 + 40 * (shortN n + 2)
theorem shortN_ge (n : Nat) : 50 ≤ shortN n := by
  cases n with
  | zero => exact Nat.le_refl _
  | succ n => rw [shortN]; have := shortN_ge n; omega
theorem shownAll_map (xs : List PyData) : PyData.shownAll xs = xs.map PyData.shown := by
  induction xs with
  | nil => rfl
  | cons x xs ih => rw [PyData.shownAll, ih]; rfl
theorem showableAll_all (xs : List PyData) : PyData.showableAll xs = xs.all PyData.showable := by
  induction xs with
  | nil => rfl
  | cons x xs ih => rw [PyData.showableAll, ih]; rfl
theorem toPyL_map (xs : List D) : toPyL xs = xs.map toPy := by
  induction xs with
  | nil => rfl
  | cons x xs ih => rw [toPyL, ih]; rfl
theorem piled_le {B : Nat} : ∀ {ts : List Str}, (∀ t ∈ ts, t.length ≤ B) → piled ts ≤ ts.length * (B + 2)
  | [], _ => by simp [piled]
  | t :: ts, h => by
    have h1 := h t (by simp)
    have h2 := piled_le (ts := ts) fun x hx => h x (by simp [hx])
    rw [piled_cons, List.length_cons, Nat.succ_mul]
    omega
theorem textFrom_le : ∀ (ts : List Str) (k : Nat) (acc : Str), (textFrom k acc ts).length ≤ acc.length + piled ts
  | [], k, acc => by show acc.length ≤ _; omega
  | t :: r, k, acc => by
    have h := textFrom_le r (k + 1) (acc ++ (if k > 0 then ", " else "" : String) ++ t)
    have e : (acc ++ (if k > 0 then ", " else "" : String) ++ t).length ≤ acc.length + 2 + t.length := by
      rw [strLen_append, strLen_append]
      have : (((if k > 0 then ", " else "" : String) : Str)).length ≤ 2 := by split <;> decide
      omega
    rw [piled_cons]
    show (textFrom (k + 1) (acc ++ (if k > 0 then ", " else "" : String) ++ t) r).length ≤ _
    omega
theorem listText_le (ts : List Str) : (listText ts).length ≤ 2 + piled ts := by
  unfold listText
  rw [strLen_append]
  have := textFrom_le ts 0 "["
  have e1 : (("[" : String) : Str).length = 1 := rfl
  have e2 : (("]" : String) : Str).length = 1 := rfl
  omega
theorem tupleText_le (ts : List Str) : (tupleText ts).length ≤ 3 + piled ts := by
  unfold tupleText
  rw [strLen_append, strLen_append]
  have e1 : ((("(" : String) : Str)).length = 1 := rfl
  have e3 : (((if ts.length == 1 then ",)" else ")" : String) : Str)).length ≤ 2 := by split <;> decide
  by_cases h : ts = []
  · subst h
    have e4 : (Str.join ", " []).length = 0 := rfl
    omega
  · have := join_length_add ts h
    omega
theorem short_len : ∀ (n : Nat) (d : D), shortB n d = true → (toPy d).showable = true ∧ ((toPy d).shown).length ≤ shortN n := by
  have hint : ∀ i : Int, i.natAbs < 1000000000 → (toPy (.int i)).showable = true ∧ ((toPy (.int i)).shown).length ≤ 50 := by
    intro i hi
    refine ⟨?_, ?_⟩
    · show decide (i.natAbs.log2 < 1920) = true
      refine decide_eq_true ?_
      by_cases h0 : i.natAbs = 0
      · rw [h0]; decide
      · exact (Nat.log2_lt h0).mpr (Nat.lt_of_lt_of_le hi (by
          calc 1000000000 ≤ 2 ^ 30 := by decide
            _ ≤ 2 ^ 1920 := Nat.pow_le_pow_right (by decide) (by decide)))
    · show (Str.ofString (toString i)).length ≤ 50
      rw [ofString_length]
      have := int_text_length_le10 (a := i) (k := 9) (by decide) hi
      omega
  intro n
  induction n with
  | zero =>
    intro d h
    cases d <;> simp [shortB] at h
    · exact ⟨rfl, by decide⟩
    · rename_i b
      cases b <;> exact ⟨rfl, by decide⟩
    · exact hint _ h
    · exact ⟨rfl, h.2.2⟩
  | succ n ih =>
    intro d h
    have hge := shortN_ge (n + 1)
    cases d <;> simp [shortB] at h
    · exact ⟨rfl, Nat.le_trans (by decide) hge⟩
    · rename_i b
      cases b <;> exact ⟨rfl, Nat.le_trans (by decide) hge⟩
    · exact ⟨(hint _ h).1, Nat.le_trans (hint _ h).2 hge⟩
    · exact ⟨rfl, Nat.le_trans h.2.2 hge⟩
    · rename_i xs
      refine ⟨?_, ?_⟩
      · show PyData.showableAll (toPyL xs) = true
        rw [showableAll_all, toPyL_map, List.all_map, List.all_eq_true]
        exact fun x hx => (ih x (h.2 x hx)).1
      · show (tupleText (PyData.shownAll (toPyL xs))).length ≤ _
        refine Nat.le_trans (tupleText_le _) ?_
        have := piled_le (B := shortN n) (ts := PyData.shownAll (toPyL xs)) (by
          rw [shownAll_map, toPyL_map, List.map_map]
          intro t ht
          obtain ⟨x, hx, rfl⟩ := List.mem_map.mp ht
          exact (ih x (h.2 x hx)).2)
        rw [shownAll_map, toPyL_map, List.length_map, List.length_map] at this
        have h2 : xs.length * (shortN n + 2) ≤ 40 * (shortN n + 2) := Nat.mul_le_mul_right _ h.1
        rw [shownAll_map, toPyL_map]
        rw [shortN]
        omega
    · rename_i xs
      refine ⟨?_, ?_⟩
      · show PyData.showableAll (toPyL xs) = true
        rw [showableAll_all, toPyL_map, List.all_map, List.all_eq_true]
        exact fun x hx => (ih x (h.2 x hx)).1
      · show (listText (PyData.shownAll (toPyL xs))).length ≤ _
        refine Nat.le_trans (listText_le _) ?_
        have := piled_le (B := shortN n) (ts := PyData.shownAll (toPyL xs)) (by
          rw [shownAll_map, toPyL_map, List.map_map]
          intro t ht
          obtain ⟨x, hx, rfl⟩ := List.mem_map.mp ht
          exact (ih x (h.2 x hx)).2)
        rw [shownAll_map, toPyL_map, List.length_map, List.length_map] at this
        have h2 : xs.length * (shortN n + 2) ≤ 40 * (shortN n + 2) := Nat.mul_le_mul_right _ h.1
        rw [shownAll_map, toPyL_map]
        rw [shortN]
        omega
theorem short_repr {d : D} (h : shortB 3 d = true) : reprOk d = true := by
  obtain ⟨h1, h2⟩ := short_len 3 d h
  unfold reprOk reprD
  rw [h1]
  have h3 : shortN 3 ≤ 16777216 := by decide
  exact decide_eq_true (Nat.le_trans h2 h3)
theorem short_dat : ∀ (n : Nat) (d : D), shortB n d = true → d.dat n = true := by
  intro n
  induction n with
  | zero => intro d h; cases d <;> simp [shortB] at h ⊢; exact h.1
  | succ n ih =>
    intro d h
    cases d <;> simp [shortB] at h ⊢
    · exact h.1
    · rw [datL_all, List.all_eq_true]; exact fun x hx => ih x (h.2 x hx)
    · rw [datL_all, List.all_eq_true]; exact fun x hx => ih x (h.2 x hx)
/-! each sign of the text of data is one -/
def okS (x : Str) : Bool := x.cps.all (· < 0x110000)
theorem okS_append {a b : Str} : okS (a ++ b) = (okS a && okS b) := by
  unfold okS
  rw [show (a ++ b).cps = a.cps ++ b.cps from rfl, Array.all_append]
theorem okS_ofString (s : String) : okS (Str.ofString s) = true := by
  unfold okS
  rw [Str.ofString_eq_toList]
  simp only [List.all_toArray, List.all_map, List.all_eq_true, Function.comp, decide_eq_true_eq]
  intro c _
  rcases c.valid with h | h
  · show c.val.toNat < _
    omega
  · exact h.2
theorem okS_join {sep : Str} (hs : okS sep = true) : ∀ {ts : List Str}, (∀ t ∈ ts, okS t = true) → okS (Str.join sep ts) = true
  | [], _ => by show okS Str.empty = true; simp [okS, Str.empty]
  | [x], h => h x (by simp)
  | x :: y :: r, h => by
    show okS (x ++ sep ++ Str.join sep (y :: r)) = true
    rw [okS_append, okS_append, h x (by simp), hs, okS_join hs fun t ht => h t (by simp at ht ⊢; exact .inr ht)]; rfl
theorem okS_textFrom : ∀ {ts : List Str} {k : Nat} {acc : Str}, okS acc = true → (∀ t ∈ ts, okS t = true) → okS (textFrom k acc ts) = true
  | [], _, _, h, _ => h
  | t :: ts, k, acc, h, h2 => by
    refine okS_textFrom (ts := ts) (k := k + 1) ?_ fun x hx => h2 x (by simp [hx])
    rw [okS_append, okS_append, h, h2 t (by simp), okS_ofString]; rfl
theorem short_okS : ∀ (n : Nat) (d : D), shortB n d = true → okS ((toPy d).shown) = true := by
  intro n
  induction n with
  | zero =>
    intro d h
    cases d <;> simp [shortB] at h
    · exact okS_ofString _
    · rename_i b
      cases b <;> exact okS_ofString _
    · exact okS_ofString _
    · show (reprText _).cps.all (· < 0x110000) = true
      rw [Array.all_eq_true]
      intro i hi
      simpa using h.2.1 i hi
  | succ n ih =>
    intro d h
    cases d <;> simp [shortB] at h
    · exact okS_ofString _
    · rename_i b
      cases b <;> exact okS_ofString _
    · exact okS_ofString _
    · show (reprText _).cps.all (· < 0x110000) = true
      rw [Array.all_eq_true]
      intro i hi
      simpa using h.2.1 i hi
    · rename_i xs
      have hx : ∀ t ∈ PyData.shownAll (toPyL xs), okS t = true := by
        rw [shownAll_map, toPyL_map, List.map_map]
        intro t ht
        obtain ⟨x, hx, rfl⟩ := List.mem_map.mp ht
        exact ih x (h.2 x hx)
      show okS (tupleText (PyData.shownAll (toPyL xs))) = true
      unfold tupleText
      rw [okS_append, okS_append, okS_ofString, okS_ofString, okS_join (okS_ofString _) hx]; rfl
    · rename_i xs
      have hx : ∀ t ∈ PyData.shownAll (toPyL xs), okS t = true := by
        rw [shownAll_map, toPyL_map, List.map_map]
        intro t ht
        obtain ⟨x, hx, rfl⟩ := List.mem_map.mp ht
        exact ih x (h.2 x hx)
      show okS (listText (PyData.shownAll (toPyL xs))) = true
      unfold listText
      rw [okS_append, okS_ofString, okS_textFrom (okS_ofString _) hx]; rfl
theorem short_reprD {d : D} {k n : Nat} (h : shortB k d = true) : D.dat n (.str (reprD d)) = true := by
  rw [dat_str]
  exact short_okS k d h
end Dn
end
section
set_option linter.all false
set_option maxRecDepth 100000
/-! Fn6: two-for comprehensions; rows in; maxima. Own work. -/
namespace Dn
section
variable {R : Run} {st : Store} {env : Env}
theorem lcGo_pure {α : Type} {dep : Store → Bool} {fb : Store → D → Env → Option Env} {fe : Env → M D} {Q : List D → Store → Prop} (enc : α → D) (g : α → D) (hd : dep st = true) :
    ∀ (rest : List α) (acc : List D), acc.length + rest.length ≤ 1000000 → (∀ a ∈ rest, ∃ e1, fb st (enc a) env = some e1 ∧ Rs (fe e1 st) (fun y s => y = g a ∧ s = st) noE) → Q (acc ++ rest.map g) st →
      Rs (lcGo dep fb (fun env => evC R .nil env) (fun env acc => bnd (fe env) fun y => fun st => if acc.length < szLine then .ok (acc ++ [y]) st else .stk) env (rest.map enc) acc st) Q noE
  | [], acc, _, _, hq => by
    rw [List.map_nil, lcGo]
    simp only [hd, if_true]
    simpa using hq
  | a :: rest, acc, hl, h, hq => by
    rw [List.map_cons, lcGo]
    simp only [hd, if_true]
    obtain ⟨e1, h1, h2⟩ := h a (by simp)
    rw [h1]
    dsimp only
    rw [Rs_bnd]
    simp only [evC_nil, Rs_ret, if_true]
    rw [Rs_bnd, Rs_bnd]
    refine h2.mono fun y s hy => ?_
    obtain ⟨hy1, hy2⟩ := hy
    subst y
    rw [hy2]
    simp at hl
    rw [if_pos (by unfold szLine; omega), Rs_ok]
    refine lcGo_pure enc g hd rest _ (by simp; omega) (fun b hb => h b (by simp [hb])) ?_
    simpa using hq
/-- [e for t in i for t2 in i2], where nothing changes -/
theorem lc2N {α β : Type} {e : E} {t t2 : Tg} {i i2 : I} {own : List Nat} (enc : α → D) (enc2 : β → D) (all : List α) (all2 : α → List β) (g : α → β → D) (hz : (all.flatMap fun a => (all2 a).map (g a)).length ≤ 1000000)
    (hi : Rs (evI R i env st) (fun q s => q.1 = all.map enc ∧ s = st) noE)
    (h : ∀ a ∈ all, ∃ e1, bindT st t (enc a) (wipe env own) = some e1 ∧ Rs (evI R i2 e1 st) (fun q s => q.1 = (all2 a).map enc2 ∧ s = st) noE ∧
      ∀ b ∈ all2 a, ∃ e2, bindT st t2 (enc2 b) (wipe e1 t2.vars) = some e2 ∧ Rs (ev R e e2 st) (fun y s => y = g a b ∧ s = st) noE) : ev R (.lc2 e t i .nil t2 i2 .nil own) env st = .ok (.lst (all.flatMap fun a => (all2 a).map (g a))) st := by
  refine Rs_eq ?_
  show Rs (bnd (evI R i env) (fun p => fun st => bnd (calm (lcGo (depOk st p.2) (fun st d env => bindT st t d env) (fun env => evC R .nil env)
      (fun env acc => bnd (evI R i2 env) fun p2 => fun st2 => lcGo (depOk st2 p2.2) (fun st d env => bindT st t2 d env) (fun env => evC R .nil env) (fun env acc => bnd (ev R e env) fun y => fun st => if acc.length < szLine then .ok (acc ++ [y]) st else .stk) (wipe env t2.vars) p2.1 acc st2) (wipe env own) p.1 [])) (fun xs => ret (D.lst xs)) st) st) _ noE
  rw [Rs_bnd]
  refine hi.mono fun q s hq => ?_
  obtain ⟨h1, rfl⟩ := hq
  rw [h1, Rs_bnd]
  refine Rs_calm ?_
  have go : ∀ (rest : List α) (acc : List D), acc.length + (rest.flatMap fun a => (all2 a).map (g a)).length ≤ 1000000 → (∀ a ∈ rest, a ∈ all) →
      Rs (lcGo (depOk s q.2) (fun st d env => bindT st t d env) (fun env => evC R .nil env)
      (fun env acc => bnd (evI R i2 env) fun p2 => fun st2 => lcGo (depOk st2 p2.2) (fun st d env => bindT st t2 d env) (fun env => evC R .nil env) (fun env acc => bnd (ev R e env) fun y => fun st => if acc.length < szLine then .ok (acc ++ [y]) st else .stk) (wipe env t2.vars) p2.1 acc st2) (wipe env own) (rest.map enc) acc s) (fun xs s' => xs = acc ++ (rest.flatMap fun a => (all2 a).map (g a)) ∧ s' = s) noE := by
    intro rest
    induction rest with
    | nil =>
      intro acc _ _
      rw [List.map_nil, lcGo]
      simp only [depRefl, if_true]
      simp
    | cons a rest ih =>
      intro acc hl hm
      rw [List.map_cons, lcGo]
      simp only [depRefl, if_true]
      obtain ⟨e1, k1, k2, k3⟩ := h a (hm a (by simp))
      rw [k1]
      dsimp only
      rw [Rs_bnd]
      refine Rs.of (a := true) rfl ?_
      rw [if_pos rfl, Rs_bnd, Rs_bnd]
      refine k2.mono fun q2 s2 hq2 => ?_
      obtain ⟨h2, rfl⟩ := hq2
      rw [h2]
      rw [List.flatMap_cons, List.length_append] at hl
      simp at hl
      refine lcGo_pure enc2 (g a) (depRefl _ _) (all2 a) acc (by omega) k3 ?_
      refine (ih (acc ++ (all2 a).map (g a)) (by simp; omega) fun x hx => hm x (by simp [hx])).mono fun xs s' hx => ?_
      rw [hx.1, List.flatMap_cons]
      simp [hx.2]
  refine (go all [] (by simpa using hz) fun _ hx => hx).mono fun xs s' hx => ?_
  rw [hx.1, hx.2, Rs_ret]
  exact ⟨by simp, rfl⟩
/-! rows of ints, in -/
theorem eqv_eRow {x y : List Nat} : D.eqv (eRow x) (eRow y) = decide (x = y) := by
  show D.eqvL (x.map eN) (y.map eN) = _
  induction x generalizing y with
  | nil => cases y <;> simp [D.eqvL]
  | cons a x ih =>
    cases y with
    | nil => simp [D.eqvL]
    | cons b y =>
      rw [List.map_cons, List.map_cons, D.eqvL, ih]
      simp [eN, D.eqv]
      by_cases e : a = b
      · simp [e]
      · have : ¬ ((a : Int) = b) := by omega
        simp [e, this]
theorem in_rows {x : List Nat} {rows : List (List Nat)} : evCmp R .in_ (eRow x) (.tup (rows.map eRow)) st = .ok (.bl (decide (x ∈ rows))) st := by
  have hr : ∀ n (r : List Nat), D.dat (n + 1) (eRow r) = true := fun n r => by simp [eRow, datL_all, eN_]
  rw [evCmp_dat (classOf_dat (hr 59 x))]
  show (match (if (eRow x).dat 60 && D.datL 60 (rows.map eRow) then some ((rows.map eRow).any fun y => y.eqv (eRow x)) else none) with
    | some b => Res.ok (D.bl b) st
    | none => .stk) = _
  have h1 : D.datL 60 (rows.map eRow) = true := by
    rw [datL_all, List.all_map, List.all_eq_true]
    intro a _
    exact hr 59 a
  have h2 : ((rows.map eRow).any fun y => y.eqv (eRow x)) = decide (x ∈ rows) := by
    rw [List.any_map, Bool.eq_iff_iff]
    simp [Function.comp, eqv_eRow]
  rw [h1, h2, hr 59 x]; rfl
/-! the highest of some ints -/
def topN (cs : List Nat) : Nat := cs.foldl max 0
theorem foldl_max_ge : ∀ {cs : List Nat} {a : Nat}, a ≤ cs.foldl max a ∧ ∀ c ∈ cs, c ≤ cs.foldl max a
  | [], a => ⟨Nat.le_refl _, by simp⟩
  | c :: cs, a => by
    have h := foldl_max_ge (cs := cs) (a := max a c)
    rw [List.foldl_cons]
    refine ⟨by omega, fun x hx => ?_⟩
    rcases List.mem_cons.mp hx with rfl | q
    · omega
    · exact h.2 x q
theorem foldl_max_lt {m : Nat} : ∀ {cs : List Nat} {a : Nat}, a < m → (∀ c ∈ cs, c < m) → cs.foldl max a < m
  | [], a, h, _ => h
  | c :: cs, a, h, h2 => by
    rw [List.foldl_cons]
    refine foldl_max_lt ?_ fun x hx => h2 x (by simp [hx])
    have := h2 c (by simp)
    omega
theorem topN_ge {cs : List Nat} {c : Nat} (h : c ∈ cs) : c ≤ topN cs := foldl_max_ge.2 c h
theorem topN_lt {cs : List Nat} {m : Nat} (h : ∀ c ∈ cs, c < m) (hm : 0 < m) : topN cs < m := foldl_max_lt hm h
theorem ints_map {cs : List Nat} : «ints» (cs.map eN) = some (cs.map fun (c : Nat) => (c : Int)) := by
  induction cs with
  | nil => rfl
  | cons c cs ih => rw [List.map_cons, eN_, «ints», ih]; rfl
theorem foldl_max_cast : ∀ {cs : List Nat} {a : Nat}, (cs.map fun (c : Nat) => (c : Int)).foldl (fun a b => if b > a then b else a) (a : Int) = ((cs.foldl max a : Nat) : Int)
  | [], a => rfl
  | c :: cs, a => by
    rw [List.map_cons, List.foldl_cons, List.foldl_cons]
    have : (if (c : Int) > (a : Int) then (c : Int) else (a : Int)) = ((max a c : Nat) : Int) := by
      by_cases h : (c : Int) > a
      · rw [if_pos h, Nat.max_eq_right (by omega)]
      · rw [if_neg h, Nat.max_eq_left (by omega)]
    rw [this, foldl_max_cast]
theorem maxI_map {cs : List Nat} (h : cs ≠ []) : maxI (cs.map fun (c : Nat) => (c : Int)) = some ((topN cs : Nat) : Int) := by
  cases cs with
  | nil => exact absurd rfl h
  | cons c cs =>
    rw [List.map_cons, maxI, foldl_max_cast, topN, List.foldl_cons, Nat.zero_max]
theorem blt_max_ints {cs : List Nat} (h : cs ≠ []) : evBlt R .max [.tup (cs.map eN)] st = .ok (.int ((topN cs : Nat) : Int)) st := by
  rw [blt_is (by simp)]
  have : blt .max [.tup (cs.map eN)] st = some (.int ((topN cs : Nat) : Int)) := by
    show ((«ints» (cs.map eN)).bind fun ns => (maxI ns).map D.int) = _
    rw [ints_map]
    show (maxI _).map D.int = _
    rw [maxI_map h]; rfl
  rw [this]
theorem enumL_map {α : Type} {f : α → D} {d0 : α} {xs : List α} : enumL 0 (xs.map f) = (List.range xs.length).map fun (i : Nat) => D.tup [.int (i : Int), f (xs.getD i d0)] := by
  have key : ∀ (xs : List α) (k : Nat), enumL k (xs.map f) = (List.range xs.length).map fun (i : Nat) => D.tup [.int ((k + i : Nat) : Int), f (xs.getD i d0)] := by
    intro xs
    induction xs with
    | nil => intro k; rfl
    | cons a xs ih =>
      intro k
      rw [List.map_cons, enumL, ih, List.length_cons, List.range_succ_eq_map, List.map_cons, List.map_map]
      congr 1
      refine List.map_congr_left fun c _ => ?_
      simp
      omega
  have := key xs 0
  simpa using this
theorem bmeth_get {ks vs : List D} {k y : D} (h : keyFor ks k = true) : bmeth .get (.dic ks vs) [k, y] st = .ok ((dget ks vs k).getD y) st := by
  show (match dictOf st (.dic ks vs) with
    | some (ks, vs) => if keyFor ks k then Res.ok ((dget ks vs k).getD y) st else .stk
    | none => .stk) = _
  show (if keyFor ks k then Res.ok ((dget ks vs k).getD y) st else .stk) = _
  rw [if_pos h]
theorem bmeth_setdefault {n : Nat} {ks vs : List D} {k y : D} (hn : st[n]? = some (.dic ks vs)) (h : keyFor ks k = true) (hl : ks.length ≤ 1000000) : bmeth .setdefault (.ref n) [k, y] st = match dget ks vs k with
      | some v => .ok v st
      | none => .ok y (st.set n (.dic (ks ++ [k]) (vs ++ [y]))) := by
  show (match st[n]? with
    | some (.dic ks vs) => if keyFor ks k && decide (ks.length < szLine) then (match dget ks vs k with
      | some v => Res.ok v st
      | none => .ok y (setAt st n (.dic (ks ++ [k]) (vs ++ [y])))) else .stk
    | _ => .stk) = _
  rw [hn]
  dsimp only
  rw [h, decide_eq_true (by unfold szLine; omega)]
  rfl
theorem keyFor_ints {α : Type} {f : α → Nat} {L : List α} {c : Nat} : keyFor (L.map fun x => eN (f x)) (.int (c : Int)) = true := by
  refine keyFor_same (b := false) rfl rfl fun x hx => ?_
  obtain ⟨y, _, rfl⟩ := List.mem_map.mp hx
  rfl
theorem dget_map {α : Type} {f : α → Nat} {g : α → D} {c : Nat} : ∀ {L : List α}, (∃ x ∈ L, f x = c ∧ dget (L.map fun x => eN (f x)) (L.map g) (.int (c : Int)) = some (g x)) ∨ (∀ x ∈ L, f x ≠ c) ∧ dget (L.map fun x => eN (f x)) (L.map g) (.int (c : Int)) = none
  | [] => .inr ⟨by simp, rfl⟩
  | a :: L => by
    rw [List.map_cons, List.map_cons, dget]
    by_cases e : f a = c
    · left
      exact ⟨a, by simp, e, by rw [if_pos (by rw [← e]; rfl)]⟩
    · have h1 : ¬ eN (f a) = D.int (c : Int) := fun q => e (by have := D.int.inj q; omega)
      rw [if_neg h1]
      rcases dget_map (f := f) (g := g) (c := c) (L := L) with ⟨x, hx, h2, h3⟩ | ⟨h2, h3⟩
      · exact .inl ⟨x, by simp [hx], h2, h3⟩
      · refine .inr ⟨fun x hx => ?_, h3⟩
        rcases List.mem_cons.mp hx with rfl | q
        · exact e
        · exact h2 x q
@[simp] theorem vars_v {i : Nat} : (Tg.v i).vars = [i] := rfl
end
end Dn
end
section
/-! Tab: the defs of the text as data, by name. Printed by gen2.py. -/
namespace Tab
open Dn
abbrev F_is_below : Nat := 0
abbrev F_is_row : Nat := 1
abbrev F_are_rows : Nat := 2
abbrev F_Relation_init : Nat := 3
abbrev F_Relation_eq : Nat := 4
abbrev F_Relation_len : Nat := 5
abbrev F_are_relations : Nat := 6
abbrev F_Book_init : Nat := 7
abbrev F_Book_eq : Nat := 8
abbrev F_Book_len : Nat := 9
abbrev F_are_cells : Nat := 10
abbrev F_is_tie : Nat := 11
abbrev F_Puzzle_init : Nat := 12
abbrev F_Puzzle_eq : Nat := 13
abbrev F_rows_of_tie : Nat := 14
abbrev F_keeps_tie : Nat := 15
abbrev F_is_start : Nat := 16
abbrev F_ties_by_last_cell : Nat := 17
abbrev F_fillings : Nat := 18
abbrev F_moved_tie : Nat := 19
abbrev F_beside_puzzles : Nat := 20
abbrev F_are_cell_pairs : Nat := 21
abbrev F_first_cells : Nat := 22
abbrev F_merged : Nat := 23
abbrev F__law_hand : Nat := 24
abbrev F__law_draw : Nat := 25
abbrev F__law_row : Nat := 26
abbrev F__law_is : Nat := 27
abbrev F__law_book : Nat := 28
abbrev F__law_game : Nat := 29
abbrev F__law_made : Nat := 30
abbrev F__law_puzzle_is : Nat := 31
abbrev F__law_pairs : Nat := 32
abbrev F__law_classes : Nat := 33
abbrev F__law_fillings : Nat := 34
abbrev F__law_told : Nat := 35
abbrev F__law_wrong : Nat := 36
abbrev F__law_merged_is : Nat := 37
abbrev F_law : Nat := 38
abbrev C_CellError : Nat := 0
abbrev C_InvalidNumber : Nat := 1
abbrev C_InvalidRelation : Nat := 2
abbrev C_InvalidBook : Nat := 3
abbrev C_InvalidPuzzle : Nat := 4
abbrev C_InvalidStart : Nat := 5
abbrev C_Undefined : Nat := 6
abbrev C_Relation : Nat := 7
abbrev C_Book : Nat := 8
abbrev C_Puzzle : Nat := 9
abbrev A_book : Nat := 0
abbrev A_ties : Nat := 1
abbrev A_cell_count : Nat := 2
abbrev A_plain : Nat := 3
abbrev A_relations : Nat := 4
abbrev A_size : Nat := 5
abbrev A_what : Nat := 6
abbrev A_value : Nat := 7
abbrev A_rows : Nat := 8
abbrev A_part : Nat := 9
abbrev A_place : Nat := 10
/-- is_below(value, limit) -/
def f_is_below : FnE := ⟨2, 2,
  (.cons (.ret (.and (.cons (.isi (.var 0) [.int]) (.cons (.not (.isi (.var 0) [.bool])) (.cons (.cmp2 .le .lt (.cst (.int 0)) (.var 0) (.var 1)) .nil)))))
  .nil), []⟩
/-- is_row(value, size, one) -/
def f_is_row : FnE := ⟨2, 3,
  (.cons (.iff (.or (.cons (.not (.isi (.var 0) [.tuple])) (.cons (.cmp .ne (.blt .len (.cons (.var 0) .nil)) (.var 1)) .nil)))
  (.cons (.ret (.cst (.bl false)))
  .nil)
  .nil)
  (.cons (.for (.v 2) (.e (.var 0))
  (.cons (.iff (.not (.call F_is_below (.cons (.var 2) (.cons (.cst (.int 2)) .nil))))
  (.cons (.ret (.cst (.bl false)))
  .nil)
  .nil)
  .nil))
  (.cons (.ret (.cst (.bl true)))
  .nil))), []⟩
/-- are_rows(rows, size, row) -/
def f_are_rows : FnE := ⟨2, 3,
  (.cons (.iff (.or (.cons (.not (.isi (.var 0) [.list, .tuple])) (.cons (.cmp .eq (.blt .len (.cons (.var 0) .nil)) (.cst (.int 0))) .nil)))
  (.cons (.ret (.cst (.bl false)))
  .nil)
  .nil)
  (.cons (.for (.v 2) (.e (.var 0))
  (.cons (.iff (.not (.call F_is_row (.cons (.var 2) (.cons (.var 1) .nil))))
  (.cons (.ret (.cst (.bl false)))
  .nil)
  .nil)
  .nil))
  (.cons (.ret (.cst (.bl true)))
  .nil))), []⟩
/-- Relation.__init__(self, size, rows, row) -/
def f_Relation_init : FnE := ⟨3, 4,
  (.cons (.iff (.or (.cons (.not (.call F_is_below (.cons (.var 1) (.cons (.bin .add (.glb 0) (.cst (.int 1))) .nil)))) (.cons (.cmp .eq (.var 1) (.cst (.int 0))) (.cons (.not (.call F_are_rows (.cons (.var 2) (.cons (.var 1) .nil)))) .nil))))
  (.cons (.rai C_InvalidRelation (.cons (.tup (.cons (.var 1) (.cons (.var 2) .nil))) .nil))
  .nil)
  .nil)
  (.cons (.atrS (.var 0) A_size (.var 1))
  (.cons (.atrS (.var 0) A_rows (.blt .tuple (.cons (.blt .sorted (.cons (.dc (.var 3) (.cst (.bl true)) (.v 3) (.e (.var 2)) .nil [3]) .nil)) .nil)))
  .nil))), []⟩
/-- Relation.__eq__(self, other) -/
def f_Relation_eq : FnE := ⟨2, 2,
  (.cons (.ret (.and (.cons (.isi (.var 1) [.cls C_Relation]) (.cons (.cmp .eq (.atr (.var 0) A_size) (.atr (.var 1) A_size)) (.cons (.cmp .eq (.atr (.var 0) A_rows) (.atr (.var 1) A_rows)) .nil)))))
  .nil), []⟩
/-- Relation.__len__(self) -/
def f_Relation_len : FnE := ⟨1, 1,
  (.cons (.ret (.blt .len (.cons (.atr (.var 0) A_rows) .nil)))
  .nil), []⟩
/-- are_relations(relations, relation) -/
def f_are_relations : FnE := ⟨1, 2,
  (.cons (.iff (.or (.cons (.not (.isi (.var 0) [.list, .tuple])) (.cons (.not (.cmp2 .le .le (.cst (.int 1)) (.blt .len (.cons (.var 0) .nil)) (.glb 1))) .nil)))
  (.cons (.ret (.cst (.bl false)))
  .nil)
  .nil)
  (.cons (.for (.v 1) (.e (.var 0))
  (.cons (.iff (.not (.isi (.var 1) [.cls C_Relation]))
  (.cons (.ret (.cst (.bl false)))
  .nil)
  .nil)
  .nil))
  (.cons (.ret (.cst (.bl true)))
  .nil))), []⟩
/-- Book.__init__(self, relations, relation) -/
def f_Book_init : FnE := ⟨2, 3,
  (.cons (.iff (.not (.call F_are_relations (.cons (.var 1) .nil)))
  (.cons (.rai C_InvalidBook (.cons (.var 1) .nil))
  .nil)
  .nil)
  (.cons (.atrS (.var 0) A_relations (.blt .tuple (.cons (.var 1) .nil)))
  (.cons (.atrS (.var 0) A_plain (.blt .tuple (.cons (.lc (.tup (.cons (.atr (.var 2) A_size) (.cons (.atr (.var 2) A_rows) .nil))) (.v 2) (.e (.var 1)) .nil [2]) .nil)))
  .nil))), []⟩
/-- Book.__eq__(self, other) -/
def f_Book_eq : FnE := ⟨2, 2,
  (.cons (.ret (.and (.cons (.isi (.var 1) [.cls C_Book]) (.cons (.cmp .eq (.atr (.var 0) A_plain) (.atr (.var 1) A_plain)) .nil))))
  .nil), []⟩
/-- Book.__len__(self) -/
def f_Book_len : FnE := ⟨1, 1,
  (.cons (.ret (.blt .len (.cons (.atr (.var 0) A_relations) .nil)))
  .nil), []⟩
/-- are_cells(value, count, cell_count, cell) -/
def f_are_cells : FnE := ⟨3, 4,
  (.cons (.iff (.or (.cons (.not (.isi (.var 0) [.tuple])) (.cons (.cmp .ne (.blt .len (.cons (.var 0) .nil)) (.var 1)) .nil)))
  (.cons (.ret (.cst (.bl false)))
  .nil)
  .nil)
  (.cons (.for (.v 3) (.e (.var 0))
  (.cons (.iff (.not (.call F_is_below (.cons (.var 3) (.cons (.var 2) .nil))))
  (.cons (.ret (.cst (.bl false)))
  .nil)
  .nil)
  .nil))
  (.cons (.ret (.cst (.bl true)))
  .nil))), []⟩
/-- is_tie(book, cell_count, value) -/
def f_is_tie : FnE := ⟨3, 3,
  (.cons (.iff (.or (.cons (.not (.isi (.var 2) [.tuple])) (.cons (.cmp .ne (.blt .len (.cons (.var 2) .nil)) (.cst (.int 2))) (.cons (.not (.call F_is_below (.cons (.idx (.var 2) (.cst (.int 0))) (.cons (.blt .len (.cons (.var 0) .nil)) .nil)))) .nil))))
  (.cons (.ret (.cst (.bl false)))
  .nil)
  .nil)
  (.cons (.ret (.call F_are_cells (.cons (.idx (.var 2) (.cst (.int 1))) (.cons (.atr (.idx (.atr (.var 0) A_relations) (.idx (.var 2) (.cst (.int 0)))) A_size) (.cons (.var 1) .nil)))))
  .nil)), []⟩
/-- Puzzle.__init__(self, book, cell_count, ties, t, tie) -/
def f_Puzzle_init : FnE := ⟨4, 6,
  (.cons (.iff (.not (.isi (.var 1) [.cls C_Book]))
  (.cons (.rai C_InvalidPuzzle (.cons (.cst (.str (PySem.Str.ofString "book"))) (.cons (.cst (.int 0)) .nil)))
  .nil)
  .nil)
  (.cons (.iff (.or (.cons (.not (.isi (.var 2) [.int])) (.cons (.isi (.var 2) [.bool]) (.cons (.cmp .lt (.var 2) (.cst (.int 0))) .nil))))
  (.cons (.rai C_InvalidPuzzle (.cons (.cst (.str (PySem.Str.ofString "cells"))) (.cons (.cst (.int 0)) .nil)))
  .nil)
  .nil)
  (.cons (.iff (.not (.isi (.var 3) [.list, .tuple]))
  (.cons (.rai C_InvalidPuzzle (.cons (.cst (.str (PySem.Str.ofString "ties"))) (.cons (.cst (.int 0)) .nil)))
  .nil)
  .nil)
  (.cons (.for (.t [(.v 4), (.v 5)]) (.enm (.var 3))
  (.cons (.iff (.not (.call F_is_tie (.cons (.var 1) (.cons (.var 2) (.cons (.var 5) .nil)))))
  (.cons (.rai C_InvalidPuzzle (.cons (.cst (.str (PySem.Str.ofString "ties"))) (.cons (.var 4) .nil)))
  .nil)
  .nil)
  .nil))
  (.cons (.atrS (.var 0) A_book (.var 1))
  (.cons (.atrS (.var 0) A_cell_count (.var 2))
  (.cons (.atrS (.var 0) A_ties (.blt .tuple (.cons (.var 3) .nil)))
  .nil))))))), []⟩
/-- Puzzle.__eq__(self, other) -/
def f_Puzzle_eq : FnE := ⟨2, 2,
  (.cons (.iff (.not (.isi (.var 1) [.cls C_Puzzle]))
  (.cons (.ret (.cst (.bl false)))
  .nil)
  .nil)
  (.cons (.iff (.or (.cons (.cmp .ne (.atr (.atr (.var 0) A_book) A_plain) (.atr (.atr (.var 1) A_book) A_plain)) (.cons (.cmp .ne (.atr (.var 0) A_cell_count) (.atr (.var 1) A_cell_count)) .nil)))
  (.cons (.ret (.cst (.bl false)))
  .nil)
  .nil)
  (.cons (.ret (.cmp .eq (.atr (.var 0) A_ties) (.atr (.var 1) A_ties)))
  .nil))), []⟩
/-- rows_of_tie(puzzle, t) -/
def f_rows_of_tie : FnE := ⟨2, 2,
  (.cons (.ret (.atr (.idx (.atr (.atr (.var 0) A_book) A_relations) (.idx (.idx (.atr (.var 0) A_ties) (.var 1)) (.cst (.int 0)))) A_rows))
  .nil), []⟩
/-- keeps_tie(puzzle, t, values, cell) -/
def f_keeps_tie : FnE := ⟨3, 4,
  (.cons (.ret (.cmp .in_ (.blt .tuple (.cons (.lc (.idx (.var 2) (.var 3)) (.v 3) (.e (.idx (.idx (.atr (.var 0) A_ties) (.var 1)) (.cst (.int 1)))) .nil [3]) .nil)) (.call F_rows_of_tie (.cons (.var 0) (.cons (.var 1) .nil)))))
  .nil), []⟩
/-- is_start(puzzle, value, least, pair) -/
def f_is_start : FnE := ⟨2, 4,
  (.cons (.iff (.not (.isi (.var 1) [.tuple]))
  (.cons (.ret (.cst (.bl false)))
  .nil)
  .nil)
  (.cons (.asg (.v 2) (.cst (.int 0)))
  (.cons (.for (.v 3) (.e (.var 1))
  (.cons (.iff (.or (.cons (.not (.isi (.var 3) [.tuple])) (.cons (.cmp .ne (.blt .len (.cons (.var 3) .nil)) (.cst (.int 2))) (.cons (.not (.call F_is_below (.cons (.idx (.var 3) (.cst (.int 0))) (.cons (.atr (.var 0) A_cell_count) .nil)))) .nil))))
  (.cons (.ret (.cst (.bl false)))
  .nil)
  .nil)
  (.cons (.iff (.or (.cons (.cmp .lt (.idx (.var 3) (.cst (.int 0))) (.var 2)) (.cons (.not (.call F_is_below (.cons (.idx (.var 3) (.cst (.int 1))) (.cons (.cst (.int 2)) .nil)))) .nil)))
  (.cons (.ret (.cst (.bl false)))
  .nil)
  .nil)
  (.cons (.asg (.v 2) (.bin .add (.idx (.var 3) (.cst (.int 0))) (.cst (.int 1))))
  .nil))))
  (.cons (.ret (.cst (.bl true)))
  .nil)))), []⟩
/-- ties_by_last_cell(puzzle, found, t, _, cells) -/
def f_ties_by_last_cell : FnE := ⟨1, 5,
  (.cons (.asg (.v 1) (.box (.dic .nil)))
  (.cons (.for (.t [(.v 2), (.t [(.v 3), (.v 4)])]) (.enm (.atr (.var 0) A_ties))
  (.cons (.exp (.bm (.bm (.var 1) .setdefault (.cons (.blt .max (.cons (.var 4) .nil)) (.cons (.box (.lst .nil)) .nil))) .append (.cons (.var 2) .nil)))
  .nil))
  (.cons (.ret (.var 1))
  .nil))), []⟩
/-- fillings(puzzle, start, fixed, ties, rows, cell, values, longer, row, value, due, t) -/
def f_fillings : FnE := ⟨2, 12,
  (.cons (.iff (.not (.call F_is_start (.cons (.var 0) (.cons (.var 1) .nil))))
  (.cons (.rai C_InvalidStart (.cons (.var 1) .nil))
  .nil)
  .nil)
  (.cons (.asg (.v 2) (.blt .dict (.cons (.var 1) .nil)))
  (.cons (.asg (.v 3) (.call F_ties_by_last_cell (.cons (.var 0) .nil)))
  (.cons (.asg (.v 4) (.lst (.cons (.tup .nil) .nil)))
  (.cons (.for (.v 5) (.rng (.cons (.atr (.var 0) A_cell_count) .nil))
  (.cons (.asg (.v 6) (.ite (.cmp .in_ (.var 5) (.var 2)) (.tup (.cons (.idx (.var 2) (.var 5)) .nil)) (.tup (.cons (.cst (.int 0)) (.cons (.cst (.int 1)) .nil)))))
  (.cons (.asg (.v 7) (.lc2 (.bin .add (.var 8) (.tup (.cons (.var 9) .nil))) (.v 8) (.e (.var 4)) .nil (.v 9) (.e (.var 6)) .nil [8, 9]))
  (.cons (.asg (.v 10) (.bm (.var 3) .get (.cons (.var 5) (.cons (.lst .nil) .nil))))
  (.cons (.asg (.v 4) (.lc (.var 8) (.v 8) (.e (.var 7)) (.cons (.blt .all (.cons (.lc (.call F_keeps_tie (.cons (.var 0) (.cons (.var 11) (.cons (.var 8) .nil)))) (.v 11) (.e (.var 10)) .nil [11]) .nil)) .nil) [8]))
  .nil)))))
  (.cons (.ret (.blt .tuple (.cons (.var 4) .nil)))
  .nil)))))), [(.tup [])]⟩
/-- moved_tie(tie, relations, cells, cell) -/
def f_moved_tie : FnE := ⟨3, 4,
  (.cons (.ret (.tup (.cons (.bin .add (.idx (.var 0) (.cst (.int 0))) (.var 1)) (.cons (.blt .tuple (.cons (.lc (.bin .add (.var 3) (.var 2)) (.v 3) (.e (.idx (.var 0) (.cst (.int 1)))) .nil [3]) .nil)) .nil))))
  .nil), []⟩
/-- beside_puzzles(one, other, book, ties, tie) -/
def f_beside_puzzles : FnE := ⟨2, 5,
  (.cons (.iff (.cmp .gt (.bin .add (.blt .len (.cons (.atr (.var 0) A_book) .nil)) (.blt .len (.cons (.atr (.var 1) A_book) .nil))) (.glb 1))
  (.cons (.rai C_Undefined (.cons (.cst (.str (PySem.Str.ofString "book"))) .nil))
  .nil)
  .nil)
  (.cons (.asg (.v 2) (.mk C_Book (.cons (.bin .add (.atr (.atr (.var 0) A_book) A_relations) (.atr (.atr (.var 1) A_book) A_relations)) .nil)))
  (.cons (.asg (.v 3) (.lc (.call F_moved_tie (.cons (.var 4) (.cons (.blt .len (.cons (.atr (.var 0) A_book) .nil)) (.cons (.atr (.var 0) A_cell_count) .nil)))) (.v 4) (.e (.atr (.var 1) A_ties)) .nil [4]))
  (.cons (.ret (.mk C_Puzzle (.cons (.var 2) (.cons (.bin .add (.atr (.var 0) A_cell_count) (.atr (.var 1) A_cell_count)) (.cons (.bin .add (.atr (.var 0) A_ties) (.blt .tuple (.cons (.var 3) .nil))) .nil)))))
  .nil)))), []⟩
/-- are_cell_pairs(puzzle, value, pair) -/
def f_are_cell_pairs : FnE := ⟨2, 3,
  (.cons (.ret (.and (.cons (.isi (.var 1) [.tuple]) (.cons (.blt .all (.cons (.lc (.call F_are_cells (.cons (.var 2) (.cons (.cst (.int 2)) (.cons (.atr (.var 0) A_cell_count) .nil)))) (.v 2) (.e (.var 1)) .nil [2]) .nil)) .nil))))
  .nil), []⟩
/-- first_cells(cell_count, pairs, firsts, one, other, low, high, first) -/
def f_first_cells : FnE := ⟨2, 8,
  (.cons (.asg (.v 2) (.lrg (.cons (.var 0) .nil)))
  (.cons (.for (.t [(.v 3), (.v 4)]) (.e (.var 1))
  (.cons (.asg (.t [(.v 5), (.v 6)]) (.tup (.cons (.blt .min (.cons (.idx (.var 2) (.var 3)) (.cons (.idx (.var 2) (.var 4)) .nil))) (.cons (.blt .max (.cons (.idx (.var 2) (.var 3)) (.cons (.idx (.var 2) (.var 4)) .nil))) .nil))))
  (.cons (.asg (.v 2) (.lc (.ite (.cmp .eq (.var 7) (.var 6)) (.var 5) (.var 7)) (.v 7) (.e (.var 2)) .nil [7]))
  .nil)))
  (.cons (.ret (.var 2))
  .nil))), []⟩
/-- merged(puzzle, pairs, firsts, kept, cell, first, number, at, ties, relation, cells) -/
def f_merged : FnE := ⟨2, 11,
  (.cons (.iff (.not (.call F_are_cell_pairs (.cons (.var 0) (.cons (.var 1) .nil))))
  (.cons (.rai C_InvalidNumber (.cons (.var 1) .nil))
  .nil)
  .nil)
  (.cons (.asg (.v 2) (.call F_first_cells (.cons (.atr (.var 0) A_cell_count) (.cons (.var 1) .nil))))
  (.cons (.asg (.v 3) (.lc (.var 4) (.t [(.v 4), (.v 5)]) (.enm (.var 2)) (.cons (.cmp .eq (.var 4) (.var 5)) .nil) [4, 5]))
  (.cons (.asg (.v 6) (.dc (.var 4) (.var 7) (.t [(.v 7), (.v 4)]) (.enm (.var 3)) .nil [7, 4]))
  (.cons (.asg (.v 8) (.lc (.tup (.cons (.var 9) (.cons (.blt .tuple (.cons (.lc (.idx (.var 6) (.idx (.var 2) (.var 4))) (.v 4) (.e (.var 10)) .nil [4]) .nil)) .nil))) (.t [(.v 9), (.v 10)]) (.e (.atr (.var 0) A_ties)) .nil [9, 10]))
  (.cons (.ret (.mk C_Puzzle (.cons (.atr (.var 0) A_book) (.cons (.blt .len (.cons (.var 3) .nil)) (.cons (.var 8) .nil)))))
  .nil)))))), []⟩
/-- _law_hand(script, cells, cell) -/
def f__law_hand : FnE := ⟨1, 3,
  (.cons (.asg (.v 1) (.lc (.blt .abs (.cons (.blt .int (.cons (.var 2) .nil)) .nil)) (.v 2) (.e (.var 0)) .nil [2]))
  (.cons (.ret (.box (.dic (.cons (.cst (.str (PySem.Str.ofString "cells"))) (.cons (.var 1) (.cons (.cst (.str (PySem.Str.ofString "left"))) (.cons (.box (.blt .list (.cons (.var 1) .nil))) (.cons (.cst (.str (PySem.Str.ofString "turn"))) (.cons (.cst (.int 0)) .nil)))))))))
  .nil)), []⟩
/-- _law_draw(hand, many, turn, cells, left, cell, at, rest, mixed) -/
def f__law_draw : FnE := ⟨2, 9,
  (.cons (.asg (.v 2) (.idx (.var 0) (.cst (.str (PySem.Str.ofString "turn")))))
  (.cons (.sub (.var 0) (.cst (.str (PySem.Str.ofString "turn"))) (.bin .add (.var 2) (.cst (.int 1))))
  (.cons (.asg (.v 3) (.idx (.var 0) (.cst (.str (PySem.Str.ofString "cells")))))
  (.cons (.asg (.v 4) (.idx (.var 0) (.cst (.str (PySem.Str.ofString "left")))))
  (.cons (.asg (.v 5) (.cst (.int 0)))
  (.cons (.iff (.cmp .gt (.blt .len (.cons (.var 3) .nil)) (.cst (.int 0)))
  (.cons (.asg (.v 6) (.bin .mod (.blt .int (.cons (.var 2) .nil)) (.blt .len (.cons (.var 3) .nil))))
  (.cons (.asg (.v 5) (.idx (.var 3) (.var 6)))
  (.cons (.iff (.and (.cons (.cmp .ge (.var 5) (.bin .pow (.cst (.int 10)) (.cst (.int 18)))) (.cons (.cmp .gt (.idx (.var 4) (.var 6)) (.cst (.int 0))) .nil)))
  (.cons (.asg (.v 7) (.idx (.var 4) (.var 6)))
  (.cons (.sub (.var 4) (.var 6) (.bin .fdiv (.blt .int (.cons (.var 7) .nil)) (.var 1)))
  (.cons (.ret (.bin .mod (.blt .int (.cons (.var 7) .nil)) (.var 1)))
  .nil)))
  .nil)
  .nil)))
  .nil)
  (.cons (.asg (.v 8) (.bin .mod (.blt .int (.cons (.bin .add (.bin .add (.bin .mul (.var 5) (.cst (.int 40014))) (.bin .mul (.var 2) (.cst (.int 52774)))) (.cst (.int 3791))) .nil)) (.cst (.int 2147483563))))
  (.cons (.asg (.v 8) (.bin .mod (.blt .int (.cons (.bin .add (.bin .add (.bin .fdiv (.bin .mul (.var 8) (.var 8)) (.cst (.int 2048))) (.bin .mul (.var 8) (.cst (.int 40692)))) (.var 2)) .nil)) (.cst (.int 2147483399))))
  (.cons (.ret (.bin .mod (.bin .fdiv (.blt .int (.cons (.bin .add (.bin .fdiv (.bin .mul (.var 8) (.var 8)) (.cst (.int 8192))) (.var 8)) .nil)) (.cst (.int 3))) (.var 1)))
  .nil))))))))), []⟩
/-- _law_row(code, n, j) -/
def f__law_row : FnE := ⟨2, 3,
  (.cons (.ret (.blt .tuple (.cons (.lc (.bin .band (.bin .shr (.var 0) (.bin .sub (.bin .sub (.var 1) (.cst (.int 1))) (.var 2))) (.cst (.int 1))) (.v 2) (.rng (.cons (.var 1) .nil)) .nil [2]) .nil)))
  .nil), []⟩
/-- _law_is(told, due, k) -/
def f__law_is : FnE := ⟨2, 3,
  (.cons (.iff (.isi (.var 1) [.tuple])
  (.cons (.iff (.or (.cons (.not (.isi (.var 0) [.tuple])) (.cons (.cmp .ne (.blt .len (.cons (.var 0) .nil)) (.blt .len (.cons (.var 1) .nil))) .nil)))
  (.cons (.ret (.cst (.bl false)))
  .nil)
  .nil)
  (.cons (.ret (.blt .all (.cons (.lc (.call F__law_is (.cons (.idx (.var 0) (.var 2)) (.cons (.idx (.var 1) (.var 2)) .nil))) (.v 2) (.rng (.cons (.blt .len (.cons (.var 1) .nil)) .nil)) .nil [2]) .nil)))
  .nil))
  .nil)
  (.cons (.iff (.isi (.var 1) [.bool])
  (.cons (.ret (.and (.cons (.isi (.var 0) [.bool]) (.cons (.cmp .eq (.var 0) (.var 1)) .nil))))
  .nil)
  .nil)
  (.cons (.iff (.isi (.var 1) [.int])
  (.cons (.ret (.and (.cons (.isi (.var 0) [.int]) (.cons (.not (.isi (.var 0) [.bool])) (.cons (.cmp .eq (.var 0) (.var 1)) .nil)))))
  .nil)
  .nil)
  (.cons (.iff (.isi (.var 1) [.str])
  (.cons (.ret (.and (.cons (.isi (.var 0) [.str]) (.cons (.cmp .eq (.var 0) (.var 1)) .nil))))
  .nil)
  .nil)
  (.cons (.ret (.and (.cons (.cmp .is_ (.var 1) (.cst .non)) (.cons (.cmp .is_ (.var 0) (.cst .non)) .nil))))
  .nil))))), []⟩
/-- _law_book(hand, most, book, k, n, picks, j, code) -/
def f__law_book : FnE := ⟨2, 8,
  (.cons (.asg (.v 2) (.box (.lst .nil)))
  (.cons (.for (.v 3) (.rng (.cons (.bin .add (.cst (.int 1)) (.call F__law_draw (.cons (.var 0) (.cons (.var 1) .nil)))) .nil))
  (.cons (.asg (.v 4) (.idx (.lst (.cons (.cst (.int 1)) (.cons (.cst (.int 2)) (.cons (.cst (.int 2)) (.cons (.cst (.int 3)) (.cons (.cst (.int 4)) .nil)))))) (.call F__law_draw (.cons (.var 0) (.cons (.cst (.int 5)) .nil)))))
  (.cons (.asg (.v 5) (.lc (.call F__law_draw (.cons (.var 0) (.cons (.bin .shl (.cst (.int 1)) (.var 4)) .nil))) (.v 6) (.rng (.cons (.bin .add (.cst (.int 1)) (.call F__law_draw (.cons (.var 0) (.cons (.cst (.int 4)) .nil)))) .nil)) .nil [6]))
  (.cons (.exp (.bm (.var 2) .append (.cons (.tup (.cons (.var 4) (.cons (.blt .tuple (.cons (.lc (.call F__law_row (.cons (.var 7) (.cons (.var 4) .nil))) (.v 7) (.rng (.cons (.bin .shl (.cst (.int 1)) (.var 4)) .nil)) (.cons (.cmp .in_ (.var 7) (.var 5)) .nil) [7]) .nil)) .nil))) .nil)))
  .nil))))
  (.cons (.ret (.var 2))
  .nil))), []⟩
/-- _law_game(hand, book, many, ties, k, r, j) -/
def f__law_game : FnE := ⟨2, 7,
  (.cons (.asg (.v 2) (.idx (.lst (.cons (.cst (.int 0)) (.cons (.cst (.int 1)) (.cons (.cst (.int 2)) (.cons (.cst (.int 3)) (.cons (.cst (.int 4)) (.cons (.cst (.int 5)) (.cons (.cst (.int 6)) .nil)))))))) (.call F__law_draw (.cons (.var 0) (.cons (.cst (.int 7)) .nil)))))
  (.cons (.asg (.v 3) (.box (.lst .nil)))
  (.cons (.iff (.cmp .gt (.var 2) (.cst (.int 0)))
  (.cons (.for (.v 4) (.rng (.cons (.call F__law_draw (.cons (.var 0) (.cons (.cst (.int 5)) .nil))) .nil))
  (.cons (.asg (.v 5) (.call F__law_draw (.cons (.var 0) (.cons (.blt .len (.cons (.var 1) .nil)) .nil))))
  (.cons (.exp (.bm (.var 3) .append (.cons (.tup (.cons (.var 5) (.cons (.blt .tuple (.cons (.lc (.call F__law_draw (.cons (.var 0) (.cons (.var 2) .nil))) (.v 6) (.rng (.cons (.idx (.idx (.var 1) (.var 5)) (.cst (.int 0))) .nil)) .nil [6]) .nil)) .nil))) .nil)))
  .nil)))
  .nil)
  .nil)
  (.cons (.ret (.tup (.cons (.blt .tuple (.cons (.var 1) .nil)) (.cons (.var 2) (.cons (.blt .tuple (.cons (.var 3) .nil)) .nil)))))
  .nil)))), []⟩
/-- _law_made(game, n, rows) -/
def f__law_made : FnE := ⟨1, 3,
  (.cons (.ret (.mk C_Puzzle (.cons (.mk C_Book (.cons (.lc (.mk C_Relation (.cons (.var 1) (.cons (.var 2) .nil))) (.t [(.v 1), (.v 2)]) (.e (.idx (.var 0) (.cst (.int 0)))) .nil [1, 2]) .nil)) (.cons (.idx (.var 0) (.cst (.int 1))) (.cons (.idx (.var 0) (.cst (.int 2))) .nil)))))
  .nil), []⟩
/-- _law_puzzle_is(puzzle, game, told, one) -/
def f__law_puzzle_is : FnE := ⟨2, 4,
  (.cons (.iff (.or (.cons (.not (.isi (.var 0) [.cls C_Puzzle])) (.cons (.not (.isi (.atr (.var 0) A_book) [.cls C_Book])) .nil)))
  (.cons (.ret (.cst (.bl false)))
  .nil)
  .nil)
  (.cons (.asg (.v 2) (.blt .tuple (.cons (.lc (.tup (.cons (.atr (.var 3) A_size) (.cons (.atr (.var 3) A_rows) .nil))) (.v 3) (.e (.atr (.atr (.var 0) A_book) A_relations)) .nil [3]) .nil)))
  (.cons (.ret (.and (.cons (.call F__law_is (.cons (.tup (.cons (.var 2) (.cons (.atr (.var 0) A_cell_count) (.cons (.atr (.var 0) A_ties) .nil)))) (.cons (.var 1) .nil))) (.cons (.cmp .eq (.var 0) (.call F__law_made (.cons (.var 1) .nil))) .nil))))
  .nil))), []⟩
/-- _law_pairs(hand, many, pairs, k, one) -/
def f__law_pairs : FnE := ⟨2, 5,
  (.cons (.asg (.v 2) (.box (.lst .nil)))
  (.cons (.iff (.cmp .gt (.var 1) (.cst (.int 0)))
  (.cons (.for (.v 3) (.rng (.cons (.call F__law_draw (.cons (.var 0) (.cons (.cst (.int 6)) .nil))) .nil))
  (.cons (.asg (.v 4) (.call F__law_draw (.cons (.var 0) (.cons (.var 1) .nil))))
  (.cons (.iff (.and (.cons (.cmp .gt (.blt .len (.cons (.var 2) .nil)) (.cst (.int 0))) (.cons (.cmp .eq (.call F__law_draw (.cons (.var 0) (.cons (.cst (.int 2)) .nil))) (.cst (.int 0))) .nil)))
  (.cons (.asg (.v 4) (.idx (.idx (.var 2) (.neg (.cst (.int 1)))) (.cst (.int 1))))
  .nil)
  .nil)
  (.cons (.exp (.bm (.var 2) .append (.cons (.tup (.cons (.var 4) (.cons (.call F__law_draw (.cons (.var 0) (.cons (.var 1) .nil))) .nil))) .nil)))
  .nil))))
  .nil)
  .nil)
  (.cons (.ret (.blt .tuple (.cons (.var 2) .nil)))
  .nil))), []⟩
/-- _law_classes(many, pairs, names, cell, one, other, low, high, name, heads) -/
def f__law_classes : FnE := ⟨2, 10,
  (.cons (.asg (.v 2) (.lc (.var 3) (.v 3) (.rng (.cons (.var 0) .nil)) .nil [3]))
  (.cons (.for (.t [(.v 4), (.v 5)]) (.e (.var 1))
  (.cons (.asg (.v 6) (.blt .min (.cons (.idx (.var 2) (.var 4)) (.cons (.idx (.var 2) (.var 5)) .nil))))
  (.cons (.asg (.v 7) (.blt .max (.cons (.idx (.var 2) (.var 4)) (.cons (.idx (.var 2) (.var 5)) .nil))))
  (.cons (.asg (.v 2) (.lc (.idx (.lst (.cons (.var 8) (.cons (.var 6) .nil))) (.blt .int (.cons (.cmp .eq (.var 8) (.var 7)) .nil))) (.v 8) (.e (.var 2)) .nil [8]))
  .nil))))
  (.cons (.asg (.v 9) (.lc (.var 3) (.v 3) (.rng (.cons (.var 0) .nil)) (.cons (.cmp .eq (.idx (.var 2) (.var 3)) (.var 3)) .nil) [3]))
  (.cons (.ret (.lc (.bm (.var 9) .index (.cons (.var 8) .nil)) (.v 8) (.e (.var 2)) .nil [8]))
  .nil)))), []⟩
/-- _law_fillings(game, left, code, r, cells, row, cell) -/
def f__law_fillings : FnE := ⟨1, 7,
  (.cons (.asg (.v 1) (.lc (.call F__law_row (.cons (.var 2) (.cons (.idx (.var 0) (.cst (.int 1))) .nil))) (.v 2) (.rng (.cons (.bin .shl (.cst (.int 1)) (.idx (.var 0) (.cst (.int 1)))) .nil)) .nil [2]))
  (.cons (.for (.t [(.v 3), (.v 4)]) (.e (.idx (.var 0) (.cst (.int 2))))
  (.cons (.asg (.v 1) (.lc (.var 5) (.v 5) (.e (.var 1)) (.cons (.cmp .in_ (.blt .tuple (.cons (.lc (.idx (.var 5) (.var 6)) (.v 6) (.e (.var 4)) .nil [6]) .nil)) (.idx (.idx (.idx (.var 0) (.cst (.int 0))) (.var 3)) (.cst (.int 1)))) .nil) [5]))
  .nil))
  (.cons (.ret (.var 1))
  .nil))), []⟩
/-- _law_told(deed, one, other, e) -/
def f__law_told : FnE := ⟨3, 4,
  (.cons (.try (.cons (.iff (.cmp .eq (.var 0) (.cst (.int 0)))
  (.cons (.ret (.tup (.cons (.cst (.str (PySem.Str.ofString "told"))) (.cons (.call F_beside_puzzles (.cons (.var 1) (.cons (.var 2) .nil))) .nil))))
  .nil)
  .nil)
  (.cons (.ret (.tup (.cons (.cst (.str (PySem.Str.ofString "told"))) (.cons (.call F_merged (.cons (.var 1) (.cons (.var 2) .nil))) .nil))))
  .nil)) C_CellError 3
  (.cons (.iff (.or (.cons (.isi (.var 3) [.cls C_InvalidBook, .cls C_InvalidPuzzle]) (.cons (.not (.isi (.var 3) [.valueError])) .nil)))
  (.cons (.ret (.tup (.cons (.cst (.str (PySem.Str.ofString "other"))) .nil)))
  .nil)
  .nil)
  (.cons (.iff (.isi (.var 3) [.cls C_InvalidNumber])
  (.cons (.ret (.tup (.cons (.cst (.str (PySem.Str.ofString "number"))) (.cons (.blt .repr (.cons (.atx (.var 3) A_value) .nil)) (.cons (.isi (.var 3) [.cls C_Undefined]) .nil)))))
  .nil)
  .nil)
  (.cons (.iff (.isi (.var 3) [.cls C_Undefined])
  (.cons (.ret (.tup (.cons (.cst (.str (PySem.Str.ofString "undefined"))) (.cons (.blt .repr (.cons (.atx (.var 3) A_what) .nil)) .nil))))
  .nil)
  .nil)
  .nil))))
  (.cons (.ret (.tup (.cons (.cst (.str (PySem.Str.ofString "other"))) .nil)))
  .nil)), []⟩
/-- _law_wrong(hand, pairs, many, bads, bad, at, kind) -/
def f__law_wrong : FnE := ⟨3, 7,
  (.cons (.asg (.v 3) (.lst (.cons (.tup (.cons (.cst (.int 0)) .nil)) (.cons (.tup (.cons (.cst (.int 0)) (.cons (.cst (.int 0)) (.cons (.cst (.int 0)) .nil)))) (.cons (.lst (.cons (.cst (.int 0)) (.cons (.cst (.int 0)) .nil))) (.cons (.tup (.cons (.cst (.int 0)) (.cons (.var 2) .nil))) (.cons (.tup (.cons (.var 2) (.cons (.cst (.int 0)) .nil))) (.cons (.tup (.cons (.neg (.cst (.int 1))) (.cons (.cst (.int 0)) .nil))) (.cons (.tup (.cons (.cst (.int 0)) (.cons (.cst (.bl true)) .nil))) (.cons (.tup (.cons (.cst (.bl false)) (.cons (.cst (.int 0)) .nil))) (.cons (.tup (.cons (.cst (.int 0)) (.cons (.cst .non) .nil))) (.cons (.tup (.cons (.cst (.str (PySem.Str.ofString "0"))) (.cons (.cst (.int 0)) .nil))) (.cons (.cst (.int 0)) (.cons (.cst .non) (.cons (.tup .nil) (.cons (.tup (.cons (.tup (.cons (.cst (.int 0)) (.cons (.cst (.int 0)) .nil))) .nil)) .nil))))))))))))))))
  (.cons (.asg (.v 4) (.idx (.var 3) (.call F__law_draw (.cons (.var 0) (.cons (.cst (.int 14)) .nil)))))
  (.cons (.asg (.v 5) (.call F__law_draw (.cons (.var 0) (.cons (.bin .add (.blt .len (.cons (.var 1) .nil)) (.cst (.int 1))) .nil))))
  (.cons (.asg (.v 6) (.call F__law_draw (.cons (.var 0) (.cons (.cst (.int 8)) .nil))))
  (.cons (.iff (.cmp .eq (.var 6) (.cst (.int 0)))
  (.cons (.ret (.blt .list (.cons (.var 1) .nil)))
  .nil)
  .nil)
  (.cons (.iff (.cmp .eq (.var 6) (.cst (.int 1)))
  (.cons (.ret (.idx (.lst (.cons (.cst .non) (.cons (.cst (.int 0)) (.cons (.tup (.cons (.cst (.int 0)) (.cons (.cst (.int 0)) .nil))) (.cons (.cst (.str (PySem.Str.ofString "00"))) (.cons (.cst (.bl true)) (.cons (.lst (.cons (.tup (.cons (.cst (.int 0)) (.cons (.cst (.int 0)) .nil))) .nil)) .nil))))))) (.call F__law_draw (.cons (.var 0) (.cons (.cst (.int 6)) .nil)))))
  .nil)
  .nil)
  (.cons (.ret (.bin .add (.bin .add (.slc (.var 1) .nil (.cons (.var 5) .nil)) (.tup (.cons (.var 4) .nil))) (.slc (.var 1) (.cons (.var 5) .nil) .nil)))
  .nil))))))), []⟩
/-- _law_merged_is(hand, game, puzzle, pairs, cells, many, due, cell, r, own, told, wrong, left, alike, row, one, other, back) -/
def f__law_merged_is : FnE := ⟨3, 18,
  (.cons (.asg (.v 3) (.call F__law_pairs (.cons (.var 0) (.cons (.idx (.var 1) (.cst (.int 1))) .nil))))
  (.cons (.asg (.v 4) (.call F__law_classes (.cons (.idx (.var 1) (.cst (.int 1))) (.cons (.var 3) .nil))))
  (.cons (.asg (.v 5) (.bin .add (.blt .max (.cons (.bin .add (.var 4) (.lst (.cons (.neg (.cst (.int 1))) .nil))) .nil)) (.cst (.int 1))))
  (.cons (.asg (.v 6) (.tup (.cons (.idx (.var 1) (.cst (.int 0))) (.cons (.var 5) (.cons (.blt .tuple (.cons (.lc (.tup (.cons (.var 8) (.cons (.blt .tuple (.cons (.lc (.idx (.var 4) (.var 7)) (.v 7) (.e (.var 9)) .nil [7]) .nil)) .nil))) (.t [(.v 8), (.v 9)]) (.e (.idx (.var 1) (.cst (.int 2)))) .nil [8, 9]) .nil)) .nil)))))
  (.cons (.asg (.v 10) (.call F__law_told (.cons (.cst (.int 1)) (.cons (.var 2) (.cons (.var 3) .nil)))))
  (.cons (.iff (.or (.cons (.cmp .ne (.idx (.var 10) (.cst (.int 0))) (.cst (.str (PySem.Str.ofString "told")))) (.cons (.not (.call F__law_puzzle_is (.cons (.idx (.var 10) (.cst (.int 1))) (.cons (.var 6) .nil)))) .nil)))
  (.cons (.ret (.cst (.bl false)))
  .nil)
  .nil)
  (.cons (.asg (.v 11) (.call F__law_wrong (.cons (.var 0) (.cons (.var 3) (.cons (.idx (.var 1) (.cst (.int 1))) .nil)))))
  (.cons (.iff (.cmp .ne (.call F__law_told (.cons (.cst (.int 1)) (.cons (.var 2) (.cons (.var 11) .nil)))) (.tup (.cons (.cst (.str (PySem.Str.ofString "number"))) (.cons (.blt .repr (.cons (.var 11) .nil)) (.cons (.cst (.bl false)) .nil)))))
  (.cons (.ret (.cst (.bl false)))
  .nil)
  .nil)
  (.cons (.iff (.cmp .gt (.var 5) (.cst (.int 6)))
  (.cons (.ret (.cst (.bl true)))
  .nil)
  .nil)
  (.cons (.asg (.v 12) (.call F__law_fillings (.cons (.var 6) .nil)))
  (.cons (.iff (.not (.call F__law_is (.cons (.call F_fillings (.cons (.idx (.var 10) (.cst (.int 1))) (.cons (.cst (.tup [])) .nil))) (.cons (.blt .tuple (.cons (.var 12) .nil)) .nil))))
  (.cons (.ret (.cst (.bl false)))
  .nil)
  .nil)
  (.cons (.iff (.cmp .gt (.idx (.var 1) (.cst (.int 1))) (.cst (.int 6)))
  (.cons (.ret (.cst (.bl true)))
  .nil)
  .nil)
  (.cons (.asg (.v 13) (.lc (.var 14) (.v 14) (.e (.call F_fillings (.cons (.var 2) (.cons (.cst (.tup [])) .nil)))) (.cons (.blt .all (.cons (.lc (.cmp .eq (.idx (.var 14) (.var 15)) (.idx (.var 14) (.var 16))) (.t [(.v 15), (.v 16)]) (.e (.var 3)) .nil [15, 16]) .nil)) .nil) [14]))
  (.cons (.asg (.v 17) (.lc (.blt .tuple (.cons (.lc (.idx (.var 14) (.var 7)) (.v 7) (.e (.var 4)) .nil [7]) .nil)) (.v 14) (.e (.var 12)) .nil [14]))
  (.cons (.ret (.call F__law_is (.cons (.blt .tuple (.cons (.blt .sorted (.cons (.var 17) .nil)) .nil)) (.cons (.blt .tuple (.cons (.var 13) .nil)) .nil))))
  .nil))))))))))))))), []⟩
/-- law(script, hand, most, one, other, first, second, shift, ties, cell, r, cells, both, told) -/
def f_law : FnE := ⟨1, 14,
  (.cons (.asg (.v 1) (.callS F__law_hand (.cons (.var 0) .nil)))
  (.cons (.asg (.v 2) (.idx (.lst (.cons (.cst (.int 2)) (.cons (.cst (.int 3)) (.cons (.cst (.int 4)) (.cons (.cst (.int 6)) .nil))))) (.call F__law_draw (.cons (.var 1) (.cons (.cst (.int 4)) .nil)))))
  (.cons (.asg (.v 3) (.call F__law_game (.cons (.var 1) (.cons (.call F__law_book (.cons (.var 1) (.cons (.var 2) .nil))) .nil))))
  (.cons (.asg (.v 4) (.call F__law_game (.cons (.var 1) (.cons (.call F__law_book (.cons (.var 1) (.cons (.idx (.lst (.cons (.var 2) (.cons (.bin .sub (.cst (.int 6)) (.blt .len (.cons (.idx (.var 3) (.cst (.int 0))) .nil))) (.cons (.bin .sub (.cst (.int 7)) (.blt .len (.cons (.idx (.var 3) (.cst (.int 0))) .nil))) .nil)))) (.bin .mul (.call F__law_draw (.cons (.var 1) (.cons (.cst (.int 3)) .nil))) (.blt .int (.cons (.cmp .lt (.blt .len (.cons (.idx (.var 3) (.cst (.int 0))) .nil)) (.cst (.int 6))) .nil)))) .nil))) .nil))))
  (.cons (.asg (.v 5) (.call F__law_made (.cons (.var 3) .nil)))
  (.cons (.asg (.v 6) (.call F__law_made (.cons (.var 4) .nil)))
  (.cons (.asg (.v 7) (.blt .len (.cons (.idx (.var 3) (.cst (.int 0))) .nil)))
  (.cons (.asg (.v 8) (.bin .add (.idx (.var 3) (.cst (.int 2))) (.blt .tuple (.cons (.lc (.tup (.cons (.bin .add (.var 7) (.var 10)) (.cons (.blt .tuple (.cons (.lc (.bin .add (.idx (.var 3) (.cst (.int 1))) (.var 9)) (.v 9) (.e (.var 11)) .nil [9]) .nil)) .nil))) (.t [(.v 10), (.v 11)]) (.e (.idx (.var 4) (.cst (.int 2)))) .nil [10, 11]) .nil))))
  (.cons (.asg (.v 12) (.tup (.cons (.bin .add (.idx (.var 3) (.cst (.int 0))) (.idx (.var 4) (.cst (.int 0)))) (.cons (.bin .add (.idx (.var 3) (.cst (.int 1))) (.idx (.var 4) (.cst (.int 1)))) (.cons (.var 8) .nil)))))
  (.cons (.asg (.v 13) (.call F__law_told (.cons (.cst (.int 0)) (.cons (.var 5) (.cons (.var 6) .nil)))))
  (.cons (.iff (.cmp .gt (.blt .len (.cons (.idx (.var 12) (.cst (.int 0))) .nil)) (.cst (.int 6)))
  (.cons (.iff (.cmp .ne (.var 13) (.tup (.cons (.cst (.str (PySem.Str.ofString "undefined"))) (.cons (.blt .repr (.cons (.cst (.str (PySem.Str.ofString "book"))) .nil)) .nil))))
  (.cons (.ret (.cst (.bl false)))
  .nil)
  .nil)
  .nil)
  (.cons (.iff (.or (.cons (.cmp .ne (.idx (.var 13) (.cst (.int 0))) (.cst (.str (PySem.Str.ofString "told")))) (.cons (.not (.call F__law_puzzle_is (.cons (.idx (.var 13) (.cst (.int 1))) (.cons (.var 12) .nil)))) (.cons (.not (.call F__law_merged_is (.cons (.var 1) (.cons (.var 12) (.cons (.idx (.var 13) (.cst (.int 1))) .nil))))) .nil))))
  (.cons (.ret (.cst (.bl false)))
  .nil)
  .nil)
  .nil))
  (.cons (.iff (.or (.cons (.not (.call F__law_merged_is (.cons (.var 1) (.cons (.var 3) (.cons (.var 5) .nil))))) (.cons (.not (.call F__law_merged_is (.cons (.var 1) (.cons (.var 4) (.cons (.var 6) .nil))))) .nil)))
  (.cons (.ret (.cst (.bl false)))
  .nil)
  .nil)
  (.cons (.iff (.not (.call F__law_puzzle_is (.cons (.call F_merged (.cons (.var 5) (.cons (.tup .nil) .nil))) (.cons (.var 3) .nil))))
  (.cons (.ret (.cst (.bl false)))
  .nil)
  .nil)
  (.cons (.ret (.and (.cons (.call F__law_puzzle_is (.cons (.var 5) (.cons (.var 3) .nil))) (.cons (.call F__law_puzzle_is (.cons (.var 6) (.cons (.var 4) .nil))) .nil))))
  .nil)))))))))))))), []⟩
def tb : Tb := ⟨[f_is_below, f_is_row, f_are_rows, f_Relation_init, f_Relation_eq, f_Relation_len, f_are_relations, f_Book_init, f_Book_eq, f_Book_len, f_are_cells, f_is_tie, f_Puzzle_init, f_Puzzle_eq, f_rows_of_tie, f_keeps_tie, f_is_start, f_ties_by_last_cell, f_fillings, f_moved_tie, f_beside_puzzles, f_are_cell_pairs, f_first_cells, f_merged, f__law_hand, f__law_draw, f__law_row, f__law_is, f__law_book, f__law_game, f__law_made, f__law_puzzle_is, f__law_pairs, f__law_classes, f__law_fillings, f__law_told, f__law_wrong, f__law_merged_is, f_law],
  [{ flds := [], err := true, up := [] },
   { flds := [A_value], err := true, up := [C_CellError] },
   { flds := [A_value], err := true, up := [C_CellError] },
   { flds := [A_value], err := true, up := [C_CellError] },
   { flds := [A_place, A_part], err := true, up := [C_CellError] },
   { flds := [A_value], err := true, up := [C_CellError] },
   { flds := [A_what], err := true, up := [C_CellError] },
   { init := some F_Relation_init, flds := [A_size, A_rows], meths := [], eq := some F_Relation_eq, len := some F_Relation_len },
   { init := some F_Book_init, flds := [A_relations, A_plain], meths := [], eq := some F_Book_eq, len := some F_Book_len },
   { init := some F_Puzzle_init, flds := [A_book, A_cell_count, A_ties], meths := [], eq := some F_Puzzle_eq, len := none }],
  [(.int 4), (.int 6)]⟩
end Tab
end
section
set_option linter.all false
/-! TabS: how the table of the text computes. Printed by gen3.py. -/
namespace Tab
open Dn
@[simp] theorem cls_C_CellError : tb.cls[C_CellError]? = some { flds := [], err := true, up := [] } := id rfl
@[simp] theorem err_C_CellError : isErr tb C_CellError = true := id rfl
@[simp] theorem cls_C_InvalidNumber : tb.cls[C_InvalidNumber]? = some { flds := [A_value], err := true, up := [C_CellError] } := id rfl
@[simp] theorem err_C_InvalidNumber : isErr tb C_InvalidNumber = true := id rfl
@[simp] theorem fld_C_InvalidNumber_A_value : fldOk tb C_InvalidNumber A_value = true := id rfl
@[simp] theorem cls_C_InvalidRelation : tb.cls[C_InvalidRelation]? = some { flds := [A_value], err := true, up := [C_CellError] } := id rfl
@[simp] theorem err_C_InvalidRelation : isErr tb C_InvalidRelation = true := id rfl
@[simp] theorem fld_C_InvalidRelation_A_value : fldOk tb C_InvalidRelation A_value = true := id rfl
@[simp] theorem cls_C_InvalidBook : tb.cls[C_InvalidBook]? = some { flds := [A_value], err := true, up := [C_CellError] } := id rfl
@[simp] theorem err_C_InvalidBook : isErr tb C_InvalidBook = true := id rfl
@[simp] theorem fld_C_InvalidBook_A_value : fldOk tb C_InvalidBook A_value = true := id rfl
@[simp] theorem cls_C_InvalidPuzzle : tb.cls[C_InvalidPuzzle]? = some { flds := [A_place, A_part], err := true, up := [C_CellError] } := id rfl
@[simp] theorem err_C_InvalidPuzzle : isErr tb C_InvalidPuzzle = true := id rfl
@[simp] theorem fld_C_InvalidPuzzle_A_place : fldOk tb C_InvalidPuzzle A_place = true := id rfl
@[simp] theorem fld_C_InvalidPuzzle_A_part : fldOk tb C_InvalidPuzzle A_part = true := id rfl
@[simp] theorem cls_C_InvalidStart : tb.cls[C_InvalidStart]? = some { flds := [A_value], err := true, up := [C_CellError] } := id rfl
@[simp] theorem err_C_InvalidStart : isErr tb C_InvalidStart = true := id rfl
@[simp] theorem fld_C_InvalidStart_A_value : fldOk tb C_InvalidStart A_value = true := id rfl
@[simp] theorem cls_C_Undefined : tb.cls[C_Undefined]? = some { flds := [A_what], err := true, up := [C_CellError] } := id rfl
@[simp] theorem err_C_Undefined : isErr tb C_Undefined = true := id rfl
@[simp] theorem fld_C_Undefined_A_what : fldOk tb C_Undefined A_what = true := id rfl
@[simp] theorem cls_C_Relation : tb.cls[C_Relation]? = some { init := some F_Relation_init, flds := [A_size, A_rows], meths := [], eq := some F_Relation_eq, len := some F_Relation_len } := id rfl
@[simp] theorem err_C_Relation : isErr tb C_Relation = false := id rfl
@[simp] theorem fld_C_Relation_A_size : fldOk tb C_Relation A_size = true := id rfl
@[simp] theorem fld_C_Relation_A_rows : fldOk tb C_Relation A_rows = true := id rfl
@[simp] theorem cls_C_Book : tb.cls[C_Book]? = some { init := some F_Book_init, flds := [A_relations, A_plain], meths := [], eq := some F_Book_eq, len := some F_Book_len } := id rfl
@[simp] theorem err_C_Book : isErr tb C_Book = false := id rfl
@[simp] theorem fld_C_Book_A_relations : fldOk tb C_Book A_relations = true := id rfl
@[simp] theorem fld_C_Book_A_plain : fldOk tb C_Book A_plain = true := id rfl
@[simp] theorem cls_C_Puzzle : tb.cls[C_Puzzle]? = some { init := some F_Puzzle_init, flds := [A_book, A_cell_count, A_ties], meths := [], eq := some F_Puzzle_eq, len := none } := id rfl
@[simp] theorem err_C_Puzzle : isErr tb C_Puzzle = false := id rfl
@[simp] theorem fld_C_Puzzle_A_book : fldOk tb C_Puzzle A_book = true := id rfl
@[simp] theorem fld_C_Puzzle_A_cell_count : fldOk tb C_Puzzle A_cell_count = true := id rfl
@[simp] theorem fld_C_Puzzle_A_ties : fldOk tb C_Puzzle A_ties = true := id rfl
@[simp] theorem up_C_CellError_C_CellError : isUp tb C_CellError C_CellError = true := id rfl
@[simp] theorem up_C_CellError_C_InvalidNumber : isUp tb C_CellError C_InvalidNumber = false := id rfl
@[simp] theorem up_C_CellError_C_InvalidRelation : isUp tb C_CellError C_InvalidRelation = false := id rfl
@[simp] theorem up_C_CellError_C_InvalidBook : isUp tb C_CellError C_InvalidBook = false := id rfl
@[simp] theorem up_C_CellError_C_InvalidPuzzle : isUp tb C_CellError C_InvalidPuzzle = false := id rfl
@[simp] theorem up_C_CellError_C_InvalidStart : isUp tb C_CellError C_InvalidStart = false := id rfl
@[simp] theorem up_C_CellError_C_Undefined : isUp tb C_CellError C_Undefined = false := id rfl
@[simp] theorem up_C_InvalidNumber_C_CellError : isUp tb C_InvalidNumber C_CellError = true := id rfl
@[simp] theorem up_C_InvalidNumber_C_InvalidNumber : isUp tb C_InvalidNumber C_InvalidNumber = true := id rfl
@[simp] theorem up_C_InvalidNumber_C_InvalidRelation : isUp tb C_InvalidNumber C_InvalidRelation = false := id rfl
@[simp] theorem up_C_InvalidNumber_C_InvalidBook : isUp tb C_InvalidNumber C_InvalidBook = false := id rfl
@[simp] theorem up_C_InvalidNumber_C_InvalidPuzzle : isUp tb C_InvalidNumber C_InvalidPuzzle = false := id rfl
@[simp] theorem up_C_InvalidNumber_C_InvalidStart : isUp tb C_InvalidNumber C_InvalidStart = false := id rfl
@[simp] theorem up_C_InvalidNumber_C_Undefined : isUp tb C_InvalidNumber C_Undefined = false := id rfl
@[simp] theorem up_C_InvalidRelation_C_CellError : isUp tb C_InvalidRelation C_CellError = true := id rfl
@[simp] theorem up_C_InvalidRelation_C_InvalidNumber : isUp tb C_InvalidRelation C_InvalidNumber = false := id rfl
@[simp] theorem up_C_InvalidRelation_C_InvalidRelation : isUp tb C_InvalidRelation C_InvalidRelation = true := id rfl
@[simp] theorem up_C_InvalidRelation_C_InvalidBook : isUp tb C_InvalidRelation C_InvalidBook = false := id rfl
@[simp] theorem up_C_InvalidRelation_C_InvalidPuzzle : isUp tb C_InvalidRelation C_InvalidPuzzle = false := id rfl
@[simp] theorem up_C_InvalidRelation_C_InvalidStart : isUp tb C_InvalidRelation C_InvalidStart = false := id rfl
@[simp] theorem up_C_InvalidRelation_C_Undefined : isUp tb C_InvalidRelation C_Undefined = false := id rfl
@[simp] theorem up_C_InvalidBook_C_CellError : isUp tb C_InvalidBook C_CellError = true := id rfl
@[simp] theorem up_C_InvalidBook_C_InvalidNumber : isUp tb C_InvalidBook C_InvalidNumber = false := id rfl
@[simp] theorem up_C_InvalidBook_C_InvalidRelation : isUp tb C_InvalidBook C_InvalidRelation = false := id rfl
@[simp] theorem up_C_InvalidBook_C_InvalidBook : isUp tb C_InvalidBook C_InvalidBook = true := id rfl
@[simp] theorem up_C_InvalidBook_C_InvalidPuzzle : isUp tb C_InvalidBook C_InvalidPuzzle = false := id rfl
@[simp] theorem up_C_InvalidBook_C_InvalidStart : isUp tb C_InvalidBook C_InvalidStart = false := id rfl
@[simp] theorem up_C_InvalidBook_C_Undefined : isUp tb C_InvalidBook C_Undefined = false := id rfl
@[simp] theorem up_C_InvalidPuzzle_C_CellError : isUp tb C_InvalidPuzzle C_CellError = true := id rfl
@[simp] theorem up_C_InvalidPuzzle_C_InvalidNumber : isUp tb C_InvalidPuzzle C_InvalidNumber = false := id rfl
@[simp] theorem up_C_InvalidPuzzle_C_InvalidRelation : isUp tb C_InvalidPuzzle C_InvalidRelation = false := id rfl
@[simp] theorem up_C_InvalidPuzzle_C_InvalidBook : isUp tb C_InvalidPuzzle C_InvalidBook = false := id rfl
@[simp] theorem up_C_InvalidPuzzle_C_InvalidPuzzle : isUp tb C_InvalidPuzzle C_InvalidPuzzle = true := id rfl
@[simp] theorem up_C_InvalidPuzzle_C_InvalidStart : isUp tb C_InvalidPuzzle C_InvalidStart = false := id rfl
@[simp] theorem up_C_InvalidPuzzle_C_Undefined : isUp tb C_InvalidPuzzle C_Undefined = false := id rfl
@[simp] theorem up_C_InvalidStart_C_CellError : isUp tb C_InvalidStart C_CellError = true := id rfl
@[simp] theorem up_C_InvalidStart_C_InvalidNumber : isUp tb C_InvalidStart C_InvalidNumber = false := id rfl
@[simp] theorem up_C_InvalidStart_C_InvalidRelation : isUp tb C_InvalidStart C_InvalidRelation = false := id rfl
@[simp] theorem up_C_InvalidStart_C_InvalidBook : isUp tb C_InvalidStart C_InvalidBook = false := id rfl
@[simp] theorem up_C_InvalidStart_C_InvalidPuzzle : isUp tb C_InvalidStart C_InvalidPuzzle = false := id rfl
@[simp] theorem up_C_InvalidStart_C_InvalidStart : isUp tb C_InvalidStart C_InvalidStart = true := id rfl
@[simp] theorem up_C_InvalidStart_C_Undefined : isUp tb C_InvalidStart C_Undefined = false := id rfl
@[simp] theorem up_C_Undefined_C_CellError : isUp tb C_Undefined C_CellError = true := id rfl
@[simp] theorem up_C_Undefined_C_InvalidNumber : isUp tb C_Undefined C_InvalidNumber = false := id rfl
@[simp] theorem up_C_Undefined_C_InvalidRelation : isUp tb C_Undefined C_InvalidRelation = false := id rfl
@[simp] theorem up_C_Undefined_C_InvalidBook : isUp tb C_Undefined C_InvalidBook = false := id rfl
@[simp] theorem up_C_Undefined_C_InvalidPuzzle : isUp tb C_Undefined C_InvalidPuzzle = false := id rfl
@[simp] theorem up_C_Undefined_C_InvalidStart : isUp tb C_Undefined C_InvalidStart = false := id rfl
@[simp] theorem up_C_Undefined_C_Undefined : isUp tb C_Undefined C_Undefined = true := id rfl
@[simp] theorem ne_C_CellError_C_InvalidNumber : (C_CellError = C_InvalidNumber) = False := eq_false (by decide)
@[simp] theorem ne_C_CellError_C_InvalidRelation : (C_CellError = C_InvalidRelation) = False := eq_false (by decide)
@[simp] theorem ne_C_CellError_C_InvalidBook : (C_CellError = C_InvalidBook) = False := eq_false (by decide)
@[simp] theorem ne_C_CellError_C_InvalidPuzzle : (C_CellError = C_InvalidPuzzle) = False := eq_false (by decide)
@[simp] theorem ne_C_CellError_C_InvalidStart : (C_CellError = C_InvalidStart) = False := eq_false (by decide)
@[simp] theorem ne_C_CellError_C_Undefined : (C_CellError = C_Undefined) = False := eq_false (by decide)
@[simp] theorem ne_C_CellError_C_Relation : (C_CellError = C_Relation) = False := eq_false (by decide)
@[simp] theorem ne_C_CellError_C_Book : (C_CellError = C_Book) = False := eq_false (by decide)
@[simp] theorem ne_C_CellError_C_Puzzle : (C_CellError = C_Puzzle) = False := eq_false (by decide)
@[simp] theorem ne_C_InvalidNumber_C_CellError : (C_InvalidNumber = C_CellError) = False := eq_false (by decide)
@[simp] theorem ne_C_InvalidNumber_C_InvalidRelation : (C_InvalidNumber = C_InvalidRelation) = False := eq_false (by decide)
@[simp] theorem ne_C_InvalidNumber_C_InvalidBook : (C_InvalidNumber = C_InvalidBook) = False := eq_false (by decide)
@[simp] theorem ne_C_InvalidNumber_C_InvalidPuzzle : (C_InvalidNumber = C_InvalidPuzzle) = False := eq_false (by decide)
@[simp] theorem ne_C_InvalidNumber_C_InvalidStart : (C_InvalidNumber = C_InvalidStart) = False := eq_false (by decide)
@[simp] theorem ne_C_InvalidNumber_C_Undefined : (C_InvalidNumber = C_Undefined) = False := eq_false (by decide)
@[simp] theorem ne_C_InvalidNumber_C_Relation : (C_InvalidNumber = C_Relation) = False := eq_false (by decide)
@[simp] theorem ne_C_InvalidNumber_C_Book : (C_InvalidNumber = C_Book) = False := eq_false (by decide)
@[simp] theorem ne_C_InvalidNumber_C_Puzzle : (C_InvalidNumber = C_Puzzle) = False := eq_false (by decide)
@[simp] theorem ne_C_InvalidRelation_C_CellError : (C_InvalidRelation = C_CellError) = False := eq_false (by decide)
@[simp] theorem ne_C_InvalidRelation_C_InvalidNumber : (C_InvalidRelation = C_InvalidNumber) = False := eq_false (by decide)
@[simp] theorem ne_C_InvalidRelation_C_InvalidBook : (C_InvalidRelation = C_InvalidBook) = False := eq_false (by decide)
@[simp] theorem ne_C_InvalidRelation_C_InvalidPuzzle : (C_InvalidRelation = C_InvalidPuzzle) = False := eq_false (by decide)
@[simp] theorem ne_C_InvalidRelation_C_InvalidStart : (C_InvalidRelation = C_InvalidStart) = False := eq_false (by decide)
@[simp] theorem ne_C_InvalidRelation_C_Undefined : (C_InvalidRelation = C_Undefined) = False := eq_false (by decide)
@[simp] theorem ne_C_InvalidRelation_C_Relation : (C_InvalidRelation = C_Relation) = False := eq_false (by decide)
@[simp] theorem ne_C_InvalidRelation_C_Book : (C_InvalidRelation = C_Book) = False := eq_false (by decide)
@[simp] theorem ne_C_InvalidRelation_C_Puzzle : (C_InvalidRelation = C_Puzzle) = False := eq_false (by decide)
@[simp] theorem ne_C_InvalidBook_C_CellError : (C_InvalidBook = C_CellError) = False := eq_false (by decide)
@[simp] theorem ne_C_InvalidBook_C_InvalidNumber : (C_InvalidBook = C_InvalidNumber) = False := eq_false (by decide)
@[simp] theorem ne_C_InvalidBook_C_InvalidRelation : (C_InvalidBook = C_InvalidRelation) = False := eq_false (by decide)
@[simp] theorem ne_C_InvalidBook_C_InvalidPuzzle : (C_InvalidBook = C_InvalidPuzzle) = False := eq_false (by decide)
@[simp] theorem ne_C_InvalidBook_C_InvalidStart : (C_InvalidBook = C_InvalidStart) = False := eq_false (by decide)
@[simp] theorem ne_C_InvalidBook_C_Undefined : (C_InvalidBook = C_Undefined) = False := eq_false (by decide)
@[simp] theorem ne_C_InvalidBook_C_Relation : (C_InvalidBook = C_Relation) = False := eq_false (by decide)
@[simp] theorem ne_C_InvalidBook_C_Book : (C_InvalidBook = C_Book) = False := eq_false (by decide)
@[simp] theorem ne_C_InvalidBook_C_Puzzle : (C_InvalidBook = C_Puzzle) = False := eq_false (by decide)
@[simp] theorem ne_C_InvalidPuzzle_C_CellError : (C_InvalidPuzzle = C_CellError) = False := eq_false (by decide)
@[simp] theorem ne_C_InvalidPuzzle_C_InvalidNumber : (C_InvalidPuzzle = C_InvalidNumber) = False := eq_false (by decide)
@[simp] theorem ne_C_InvalidPuzzle_C_InvalidRelation : (C_InvalidPuzzle = C_InvalidRelation) = False := eq_false (by decide)
@[simp] theorem ne_C_InvalidPuzzle_C_InvalidBook : (C_InvalidPuzzle = C_InvalidBook) = False := eq_false (by decide)
@[simp] theorem ne_C_InvalidPuzzle_C_InvalidStart : (C_InvalidPuzzle = C_InvalidStart) = False := eq_false (by decide)
@[simp] theorem ne_C_InvalidPuzzle_C_Undefined : (C_InvalidPuzzle = C_Undefined) = False := eq_false (by decide)
@[simp] theorem ne_C_InvalidPuzzle_C_Relation : (C_InvalidPuzzle = C_Relation) = False := eq_false (by decide)
@[simp] theorem ne_C_InvalidPuzzle_C_Book : (C_InvalidPuzzle = C_Book) = False := eq_false (by decide)
@[simp] theorem ne_C_InvalidPuzzle_C_Puzzle : (C_InvalidPuzzle = C_Puzzle) = False := eq_false (by decide)
@[simp] theorem ne_C_InvalidStart_C_CellError : (C_InvalidStart = C_CellError) = False := eq_false (by decide)
@[simp] theorem ne_C_InvalidStart_C_InvalidNumber : (C_InvalidStart = C_InvalidNumber) = False := eq_false (by decide)
@[simp] theorem ne_C_InvalidStart_C_InvalidRelation : (C_InvalidStart = C_InvalidRelation) = False := eq_false (by decide)
@[simp] theorem ne_C_InvalidStart_C_InvalidBook : (C_InvalidStart = C_InvalidBook) = False := eq_false (by decide)
@[simp] theorem ne_C_InvalidStart_C_InvalidPuzzle : (C_InvalidStart = C_InvalidPuzzle) = False := eq_false (by decide)
@[simp] theorem ne_C_InvalidStart_C_Undefined : (C_InvalidStart = C_Undefined) = False := eq_false (by decide)
@[simp] theorem ne_C_InvalidStart_C_Relation : (C_InvalidStart = C_Relation) = False := eq_false (by decide)
@[simp] theorem ne_C_InvalidStart_C_Book : (C_InvalidStart = C_Book) = False := eq_false (by decide)
@[simp] theorem ne_C_InvalidStart_C_Puzzle : (C_InvalidStart = C_Puzzle) = False := eq_false (by decide)
@[simp] theorem ne_C_Undefined_C_CellError : (C_Undefined = C_CellError) = False := eq_false (by decide)
@[simp] theorem ne_C_Undefined_C_InvalidNumber : (C_Undefined = C_InvalidNumber) = False := eq_false (by decide)
@[simp] theorem ne_C_Undefined_C_InvalidRelation : (C_Undefined = C_InvalidRelation) = False := eq_false (by decide)
@[simp] theorem ne_C_Undefined_C_InvalidBook : (C_Undefined = C_InvalidBook) = False := eq_false (by decide)
@[simp] theorem ne_C_Undefined_C_InvalidPuzzle : (C_Undefined = C_InvalidPuzzle) = False := eq_false (by decide)
@[simp] theorem ne_C_Undefined_C_InvalidStart : (C_Undefined = C_InvalidStart) = False := eq_false (by decide)
@[simp] theorem ne_C_Undefined_C_Relation : (C_Undefined = C_Relation) = False := eq_false (by decide)
@[simp] theorem ne_C_Undefined_C_Book : (C_Undefined = C_Book) = False := eq_false (by decide)
@[simp] theorem ne_C_Undefined_C_Puzzle : (C_Undefined = C_Puzzle) = False := eq_false (by decide)
@[simp] theorem ne_C_Relation_C_CellError : (C_Relation = C_CellError) = False := eq_false (by decide)
@[simp] theorem ne_C_Relation_C_InvalidNumber : (C_Relation = C_InvalidNumber) = False := eq_false (by decide)
@[simp] theorem ne_C_Relation_C_InvalidRelation : (C_Relation = C_InvalidRelation) = False := eq_false (by decide)
@[simp] theorem ne_C_Relation_C_InvalidBook : (C_Relation = C_InvalidBook) = False := eq_false (by decide)
@[simp] theorem ne_C_Relation_C_InvalidPuzzle : (C_Relation = C_InvalidPuzzle) = False := eq_false (by decide)
@[simp] theorem ne_C_Relation_C_InvalidStart : (C_Relation = C_InvalidStart) = False := eq_false (by decide)
@[simp] theorem ne_C_Relation_C_Undefined : (C_Relation = C_Undefined) = False := eq_false (by decide)
@[simp] theorem ne_C_Relation_C_Book : (C_Relation = C_Book) = False := eq_false (by decide)
@[simp] theorem ne_C_Relation_C_Puzzle : (C_Relation = C_Puzzle) = False := eq_false (by decide)
@[simp] theorem ne_C_Book_C_CellError : (C_Book = C_CellError) = False := eq_false (by decide)
@[simp] theorem ne_C_Book_C_InvalidNumber : (C_Book = C_InvalidNumber) = False := eq_false (by decide)
@[simp] theorem ne_C_Book_C_InvalidRelation : (C_Book = C_InvalidRelation) = False := eq_false (by decide)
@[simp] theorem ne_C_Book_C_InvalidBook : (C_Book = C_InvalidBook) = False := eq_false (by decide)
@[simp] theorem ne_C_Book_C_InvalidPuzzle : (C_Book = C_InvalidPuzzle) = False := eq_false (by decide)
@[simp] theorem ne_C_Book_C_InvalidStart : (C_Book = C_InvalidStart) = False := eq_false (by decide)
@[simp] theorem ne_C_Book_C_Undefined : (C_Book = C_Undefined) = False := eq_false (by decide)
@[simp] theorem ne_C_Book_C_Relation : (C_Book = C_Relation) = False := eq_false (by decide)
@[simp] theorem ne_C_Book_C_Puzzle : (C_Book = C_Puzzle) = False := eq_false (by decide)
@[simp] theorem ne_C_Puzzle_C_CellError : (C_Puzzle = C_CellError) = False := eq_false (by decide)
@[simp] theorem ne_C_Puzzle_C_InvalidNumber : (C_Puzzle = C_InvalidNumber) = False := eq_false (by decide)
@[simp] theorem ne_C_Puzzle_C_InvalidRelation : (C_Puzzle = C_InvalidRelation) = False := eq_false (by decide)
@[simp] theorem ne_C_Puzzle_C_InvalidBook : (C_Puzzle = C_InvalidBook) = False := eq_false (by decide)
@[simp] theorem ne_C_Puzzle_C_InvalidPuzzle : (C_Puzzle = C_InvalidPuzzle) = False := eq_false (by decide)
@[simp] theorem ne_C_Puzzle_C_InvalidStart : (C_Puzzle = C_InvalidStart) = False := eq_false (by decide)
@[simp] theorem ne_C_Puzzle_C_Undefined : (C_Puzzle = C_Undefined) = False := eq_false (by decide)
@[simp] theorem ne_C_Puzzle_C_Relation : (C_Puzzle = C_Relation) = False := eq_false (by decide)
@[simp] theorem ne_C_Puzzle_C_Book : (C_Puzzle = C_Book) = False := eq_false (by decide)
@[simp] theorem ne_A_book_A_ties : (A_book = A_ties) = False := eq_false (by decide)
@[simp] theorem ne_A_book_A_cell_count : (A_book = A_cell_count) = False := eq_false (by decide)
@[simp] theorem ne_A_book_A_plain : (A_book = A_plain) = False := eq_false (by decide)
@[simp] theorem ne_A_book_A_relations : (A_book = A_relations) = False := eq_false (by decide)
@[simp] theorem ne_A_book_A_size : (A_book = A_size) = False := eq_false (by decide)
@[simp] theorem ne_A_book_A_what : (A_book = A_what) = False := eq_false (by decide)
@[simp] theorem ne_A_book_A_value : (A_book = A_value) = False := eq_false (by decide)
@[simp] theorem ne_A_book_A_rows : (A_book = A_rows) = False := eq_false (by decide)
@[simp] theorem ne_A_book_A_part : (A_book = A_part) = False := eq_false (by decide)
@[simp] theorem ne_A_book_A_place : (A_book = A_place) = False := eq_false (by decide)
@[simp] theorem ne_A_ties_A_book : (A_ties = A_book) = False := eq_false (by decide)
@[simp] theorem ne_A_ties_A_cell_count : (A_ties = A_cell_count) = False := eq_false (by decide)
@[simp] theorem ne_A_ties_A_plain : (A_ties = A_plain) = False := eq_false (by decide)
@[simp] theorem ne_A_ties_A_relations : (A_ties = A_relations) = False := eq_false (by decide)
@[simp] theorem ne_A_ties_A_size : (A_ties = A_size) = False := eq_false (by decide)
@[simp] theorem ne_A_ties_A_what : (A_ties = A_what) = False := eq_false (by decide)
@[simp] theorem ne_A_ties_A_value : (A_ties = A_value) = False := eq_false (by decide)
@[simp] theorem ne_A_ties_A_rows : (A_ties = A_rows) = False := eq_false (by decide)
@[simp] theorem ne_A_ties_A_part : (A_ties = A_part) = False := eq_false (by decide)
@[simp] theorem ne_A_ties_A_place : (A_ties = A_place) = False := eq_false (by decide)
@[simp] theorem ne_A_cell_count_A_book : (A_cell_count = A_book) = False := eq_false (by decide)
@[simp] theorem ne_A_cell_count_A_ties : (A_cell_count = A_ties) = False := eq_false (by decide)
@[simp] theorem ne_A_cell_count_A_plain : (A_cell_count = A_plain) = False := eq_false (by decide)
@[simp] theorem ne_A_cell_count_A_relations : (A_cell_count = A_relations) = False := eq_false (by decide)
@[simp] theorem ne_A_cell_count_A_size : (A_cell_count = A_size) = False := eq_false (by decide)
@[simp] theorem ne_A_cell_count_A_what : (A_cell_count = A_what) = False := eq_false (by decide)
@[simp] theorem ne_A_cell_count_A_value : (A_cell_count = A_value) = False := eq_false (by decide)
@[simp] theorem ne_A_cell_count_A_rows : (A_cell_count = A_rows) = False := eq_false (by decide)
@[simp] theorem ne_A_cell_count_A_part : (A_cell_count = A_part) = False := eq_false (by decide)
@[simp] theorem ne_A_cell_count_A_place : (A_cell_count = A_place) = False := eq_false (by decide)
@[simp] theorem ne_A_plain_A_book : (A_plain = A_book) = False := eq_false (by decide)
@[simp] theorem ne_A_plain_A_ties : (A_plain = A_ties) = False := eq_false (by decide)
@[simp] theorem ne_A_plain_A_cell_count : (A_plain = A_cell_count) = False := eq_false (by decide)
@[simp] theorem ne_A_plain_A_relations : (A_plain = A_relations) = False := eq_false (by decide)
@[simp] theorem ne_A_plain_A_size : (A_plain = A_size) = False := eq_false (by decide)
@[simp] theorem ne_A_plain_A_what : (A_plain = A_what) = False := eq_false (by decide)
@[simp] theorem ne_A_plain_A_value : (A_plain = A_value) = False := eq_false (by decide)
@[simp] theorem ne_A_plain_A_rows : (A_plain = A_rows) = False := eq_false (by decide)
@[simp] theorem ne_A_plain_A_part : (A_plain = A_part) = False := eq_false (by decide)
@[simp] theorem ne_A_plain_A_place : (A_plain = A_place) = False := eq_false (by decide)
@[simp] theorem ne_A_relations_A_book : (A_relations = A_book) = False := eq_false (by decide)
@[simp] theorem ne_A_relations_A_ties : (A_relations = A_ties) = False := eq_false (by decide)
@[simp] theorem ne_A_relations_A_cell_count : (A_relations = A_cell_count) = False := eq_false (by decide)
@[simp] theorem ne_A_relations_A_plain : (A_relations = A_plain) = False := eq_false (by decide)
@[simp] theorem ne_A_relations_A_size : (A_relations = A_size) = False := eq_false (by decide)
@[simp] theorem ne_A_relations_A_what : (A_relations = A_what) = False := eq_false (by decide)
@[simp] theorem ne_A_relations_A_value : (A_relations = A_value) = False := eq_false (by decide)
@[simp] theorem ne_A_relations_A_rows : (A_relations = A_rows) = False := eq_false (by decide)
@[simp] theorem ne_A_relations_A_part : (A_relations = A_part) = False := eq_false (by decide)
@[simp] theorem ne_A_relations_A_place : (A_relations = A_place) = False := eq_false (by decide)
@[simp] theorem ne_A_size_A_book : (A_size = A_book) = False := eq_false (by decide)
@[simp] theorem ne_A_size_A_ties : (A_size = A_ties) = False := eq_false (by decide)
@[simp] theorem ne_A_size_A_cell_count : (A_size = A_cell_count) = False := eq_false (by decide)
@[simp] theorem ne_A_size_A_plain : (A_size = A_plain) = False := eq_false (by decide)
@[simp] theorem ne_A_size_A_relations : (A_size = A_relations) = False := eq_false (by decide)
@[simp] theorem ne_A_size_A_what : (A_size = A_what) = False := eq_false (by decide)
@[simp] theorem ne_A_size_A_value : (A_size = A_value) = False := eq_false (by decide)
@[simp] theorem ne_A_size_A_rows : (A_size = A_rows) = False := eq_false (by decide)
@[simp] theorem ne_A_size_A_part : (A_size = A_part) = False := eq_false (by decide)
@[simp] theorem ne_A_size_A_place : (A_size = A_place) = False := eq_false (by decide)
@[simp] theorem ne_A_what_A_book : (A_what = A_book) = False := eq_false (by decide)
@[simp] theorem ne_A_what_A_ties : (A_what = A_ties) = False := eq_false (by decide)
@[simp] theorem ne_A_what_A_cell_count : (A_what = A_cell_count) = False := eq_false (by decide)
@[simp] theorem ne_A_what_A_plain : (A_what = A_plain) = False := eq_false (by decide)
@[simp] theorem ne_A_what_A_relations : (A_what = A_relations) = False := eq_false (by decide)
@[simp] theorem ne_A_what_A_size : (A_what = A_size) = False := eq_false (by decide)
@[simp] theorem ne_A_what_A_value : (A_what = A_value) = False := eq_false (by decide)
@[simp] theorem ne_A_what_A_rows : (A_what = A_rows) = False := eq_false (by decide)
@[simp] theorem ne_A_what_A_part : (A_what = A_part) = False := eq_false (by decide)
@[simp] theorem ne_A_what_A_place : (A_what = A_place) = False := eq_false (by decide)
@[simp] theorem ne_A_value_A_book : (A_value = A_book) = False := eq_false (by decide)
@[simp] theorem ne_A_value_A_ties : (A_value = A_ties) = False := eq_false (by decide)
@[simp] theorem ne_A_value_A_cell_count : (A_value = A_cell_count) = False := eq_false (by decide)
@[simp] theorem ne_A_value_A_plain : (A_value = A_plain) = False := eq_false (by decide)
@[simp] theorem ne_A_value_A_relations : (A_value = A_relations) = False := eq_false (by decide)
@[simp] theorem ne_A_value_A_size : (A_value = A_size) = False := eq_false (by decide)
@[simp] theorem ne_A_value_A_what : (A_value = A_what) = False := eq_false (by decide)
@[simp] theorem ne_A_value_A_rows : (A_value = A_rows) = False := eq_false (by decide)
@[simp] theorem ne_A_value_A_part : (A_value = A_part) = False := eq_false (by decide)
@[simp] theorem ne_A_value_A_place : (A_value = A_place) = False := eq_false (by decide)
@[simp] theorem ne_A_rows_A_book : (A_rows = A_book) = False := eq_false (by decide)
@[simp] theorem ne_A_rows_A_ties : (A_rows = A_ties) = False := eq_false (by decide)
@[simp] theorem ne_A_rows_A_cell_count : (A_rows = A_cell_count) = False := eq_false (by decide)
@[simp] theorem ne_A_rows_A_plain : (A_rows = A_plain) = False := eq_false (by decide)
@[simp] theorem ne_A_rows_A_relations : (A_rows = A_relations) = False := eq_false (by decide)
@[simp] theorem ne_A_rows_A_size : (A_rows = A_size) = False := eq_false (by decide)
@[simp] theorem ne_A_rows_A_what : (A_rows = A_what) = False := eq_false (by decide)
@[simp] theorem ne_A_rows_A_value : (A_rows = A_value) = False := eq_false (by decide)
@[simp] theorem ne_A_rows_A_part : (A_rows = A_part) = False := eq_false (by decide)
@[simp] theorem ne_A_rows_A_place : (A_rows = A_place) = False := eq_false (by decide)
@[simp] theorem ne_A_part_A_book : (A_part = A_book) = False := eq_false (by decide)
@[simp] theorem ne_A_part_A_ties : (A_part = A_ties) = False := eq_false (by decide)
@[simp] theorem ne_A_part_A_cell_count : (A_part = A_cell_count) = False := eq_false (by decide)
@[simp] theorem ne_A_part_A_plain : (A_part = A_plain) = False := eq_false (by decide)
@[simp] theorem ne_A_part_A_relations : (A_part = A_relations) = False := eq_false (by decide)
@[simp] theorem ne_A_part_A_size : (A_part = A_size) = False := eq_false (by decide)
@[simp] theorem ne_A_part_A_what : (A_part = A_what) = False := eq_false (by decide)
@[simp] theorem ne_A_part_A_value : (A_part = A_value) = False := eq_false (by decide)
@[simp] theorem ne_A_part_A_rows : (A_part = A_rows) = False := eq_false (by decide)
@[simp] theorem ne_A_part_A_place : (A_part = A_place) = False := eq_false (by decide)
@[simp] theorem ne_A_place_A_book : (A_place = A_book) = False := eq_false (by decide)
@[simp] theorem ne_A_place_A_ties : (A_place = A_ties) = False := eq_false (by decide)
@[simp] theorem ne_A_place_A_cell_count : (A_place = A_cell_count) = False := eq_false (by decide)
@[simp] theorem ne_A_place_A_plain : (A_place = A_plain) = False := eq_false (by decide)
@[simp] theorem ne_A_place_A_relations : (A_place = A_relations) = False := eq_false (by decide)
@[simp] theorem ne_A_place_A_size : (A_place = A_size) = False := eq_false (by decide)
@[simp] theorem ne_A_place_A_what : (A_place = A_what) = False := eq_false (by decide)
@[simp] theorem ne_A_place_A_value : (A_place = A_value) = False := eq_false (by decide)
@[simp] theorem ne_A_place_A_rows : (A_place = A_rows) = False := eq_false (by decide)
@[simp] theorem ne_A_place_A_part : (A_place = A_part) = False := eq_false (by decide)
@[simp] theorem glb_0 : tb.glb[0]? = some (.int 4) := id rfl
@[simp] theorem glb_1 : tb.glb[1]? = some (.int 6) := id rfl
abbrev Fu : Nat := 1000000
abbrev Rr (n : Nat) : Run := Rk tb Fu n
end Tab
end
section
set_option linter.all false
set_option maxRecDepth 100000
set_option maxHeartbeats 0
/-! Sd: the defs beside the row's own statements. Printed by gen2.py. -/
namespace Tab
open PySem PySem.Spec PyProof.Rows L2 Dn
def top (i : Nat) : Stmt := PySem.Challenge.pw_cellrealm_k75_beside_and_merged.main.body.getD i (.Pass ⟨0, 0, 0, 0⟩)
def mem (i j : Nat) : Stmt := match top i with
  | .ClassDef _ _ _ b _ _ _ _ _ _ _ => b.getD j (.Pass ⟨0, 0, 0, 0⟩)
  | s => s
def d_is_below : DefS := ⟨("is_below", none), "is_below", "is_below", defArgs (top 11), defBody (top 11), defScope (top 11), ["value", "limit"]⟩
def d_is_row : DefS := ⟨("is_row", none), "is_row", "is_row", defArgs (top 12), defBody (top 12), defScope (top 12), ["value", "size", "one"]⟩
def d_are_rows : DefS := ⟨("are_rows", none), "are_rows", "are_rows", defArgs (top 13), defBody (top 13), defScope (top 13), ["rows", "size", "row"]⟩
def d_Relation_init : DefS := ⟨("Relation", some "__init__"), "__init__", "Relation.__init__", defArgs (mem 14 0), defBody (mem 14 0), defScope (mem 14 0), ["self", "size", "rows", "row"]⟩
def d_Relation_eq : DefS := ⟨("Relation", some "__eq__"), "__eq__", "Relation.__eq__", defArgs (mem 14 1), defBody (mem 14 1), defScope (mem 14 1), ["self", "other"]⟩
def d_Relation_len : DefS := ⟨("Relation", some "__len__"), "__len__", "Relation.__len__", defArgs (mem 14 2), defBody (mem 14 2), defScope (mem 14 2), ["self"]⟩
def d_are_relations : DefS := ⟨("are_relations", none), "are_relations", "are_relations", defArgs (top 17), defBody (top 17), defScope (top 17), ["relations", "relation"]⟩
def d_Book_init : DefS := ⟨("Book", some "__init__"), "__init__", "Book.__init__", defArgs (mem 18 0), defBody (mem 18 0), defScope (mem 18 0), ["self", "relations", "relation"]⟩
def d_Book_eq : DefS := ⟨("Book", some "__eq__"), "__eq__", "Book.__eq__", defArgs (mem 18 1), defBody (mem 18 1), defScope (mem 18 1), ["self", "other"]⟩
def d_Book_len : DefS := ⟨("Book", some "__len__"), "__len__", "Book.__len__", defArgs (mem 18 2), defBody (mem 18 2), defScope (mem 18 2), ["self"]⟩
def d_are_cells : DefS := ⟨("are_cells", none), "are_cells", "are_cells", defArgs (top 20), defBody (top 20), defScope (top 20), ["value", "count", "cell_count", "cell"]⟩
def d_is_tie : DefS := ⟨("is_tie", none), "is_tie", "is_tie", defArgs (top 21), defBody (top 21), defScope (top 21), ["book", "cell_count", "value"]⟩
def d_Puzzle_init : DefS := ⟨("Puzzle", some "__init__"), "__init__", "Puzzle.__init__", defArgs (mem 22 0), defBody (mem 22 0), defScope (mem 22 0), ["self", "book", "cell_count", "ties", "t", "tie"]⟩
def d_Puzzle_eq : DefS := ⟨("Puzzle", some "__eq__"), "__eq__", "Puzzle.__eq__", defArgs (mem 22 1), defBody (mem 22 1), defScope (mem 22 1), ["self", "other"]⟩
def d_rows_of_tie : DefS := ⟨("rows_of_tie", none), "rows_of_tie", "rows_of_tie", defArgs (top 23), defBody (top 23), defScope (top 23), ["puzzle", "t"]⟩
def d_keeps_tie : DefS := ⟨("keeps_tie", none), "keeps_tie", "keeps_tie", defArgs (top 24), defBody (top 24), defScope (top 24), ["puzzle", "t", "values", "cell"]⟩
def d_is_start : DefS := ⟨("is_start", none), "is_start", "is_start", defArgs (top 25), defBody (top 25), defScope (top 25), ["puzzle", "value", "least", "pair"]⟩
def d_ties_by_last_cell : DefS := ⟨("ties_by_last_cell", none), "ties_by_last_cell", "ties_by_last_cell", defArgs (top 26), defBody (top 26), defScope (top 26), ["puzzle", "found", "t", "_", "cells"]⟩
def d_fillings : DefS := ⟨("fillings", none), "fillings", "fillings", defArgs (top 27), defBody (top 27), defScope (top 27), ["puzzle", "start", "fixed", "ties", "rows", "cell", "values", "longer", "row", "value", "due", "t"]⟩
def d_moved_tie : DefS := ⟨("moved_tie", none), "moved_tie", "moved_tie", defArgs (top 29), defBody (top 29), defScope (top 29), ["tie", "relations", "cells", "cell"]⟩
def d_beside_puzzles : DefS := ⟨("beside_puzzles", none), "beside_puzzles", "beside_puzzles", defArgs (top 30), defBody (top 30), defScope (top 30), ["one", "other", "book", "ties", "tie"]⟩
def d_are_cell_pairs : DefS := ⟨("are_cell_pairs", none), "are_cell_pairs", "are_cell_pairs", defArgs (top 31), defBody (top 31), defScope (top 31), ["puzzle", "value", "pair"]⟩
def d_first_cells : DefS := ⟨("first_cells", none), "first_cells", "first_cells", defArgs (top 32), defBody (top 32), defScope (top 32), ["cell_count", "pairs", "firsts", "one", "other", "low", "high", "first"]⟩
def d_merged : DefS := ⟨("merged", none), "merged", "merged", defArgs (top 33), defBody (top 33), defScope (top 33), ["puzzle", "pairs", "firsts", "kept", "cell", "first", "number", "at", "ties", "relation", "cells"]⟩
def d__law_hand : DefS := ⟨("_law_hand", none), "_law_hand", "_law_hand", defArgs (top 35), defBody (top 35), defScope (top 35), ["script", "cells", "cell"]⟩
def d__law_draw : DefS := ⟨("_law_draw", none), "_law_draw", "_law_draw", defArgs (top 36), defBody (top 36), defScope (top 36), ["hand", "many", "turn", "cells", "left", "cell", "at", "rest", "mixed"]⟩
def d__law_row : DefS := ⟨("_law_row", none), "_law_row", "_law_row", defArgs (top 37), defBody (top 37), defScope (top 37), ["code", "n", "j"]⟩
def d__law_is : DefS := ⟨("_law_is", none), "_law_is", "_law_is", defArgs (top 38), defBody (top 38), defScope (top 38), ["told", "due", "k"]⟩
def d__law_book : DefS := ⟨("_law_book", none), "_law_book", "_law_book", defArgs (top 39), defBody (top 39), defScope (top 39), ["hand", "most", "book", "k", "n", "picks", "j", "code"]⟩
def d__law_game : DefS := ⟨("_law_game", none), "_law_game", "_law_game", defArgs (top 40), defBody (top 40), defScope (top 40), ["hand", "book", "many", "ties", "k", "r", "j"]⟩
def d__law_made : DefS := ⟨("_law_made", none), "_law_made", "_law_made", defArgs (top 41), defBody (top 41), defScope (top 41), ["game", "n", "rows"]⟩
def d__law_puzzle_is : DefS := ⟨("_law_puzzle_is", none), "_law_puzzle_is", "_law_puzzle_is", defArgs (top 42), defBody (top 42), defScope (top 42), ["puzzle", "game", "told", "one"]⟩
def d__law_pairs : DefS := ⟨("_law_pairs", none), "_law_pairs", "_law_pairs", defArgs (top 43), defBody (top 43), defScope (top 43), ["hand", "many", "pairs", "k", "one"]⟩
def d__law_classes : DefS := ⟨("_law_classes", none), "_law_classes", "_law_classes", defArgs (top 44), defBody (top 44), defScope (top 44), ["many", "pairs", "names", "cell", "one", "other", "low", "high", "name", "heads"]⟩
def d__law_fillings : DefS := ⟨("_law_fillings", none), "_law_fillings", "_law_fillings", defArgs (top 45), defBody (top 45), defScope (top 45), ["game", "left", "code", "r", "cells", "row", "cell"]⟩
def d__law_told : DefS := ⟨("_law_told", none), "_law_told", "_law_told", defArgs (top 46), defBody (top 46), defScope (top 46), ["deed", "one", "other", "e"]⟩
def d__law_wrong : DefS := ⟨("_law_wrong", none), "_law_wrong", "_law_wrong", defArgs (top 47), defBody (top 47), defScope (top 47), ["hand", "pairs", "many", "bads", "bad", "at", "kind"]⟩
def d__law_merged_is : DefS := ⟨("_law_merged_is", none), "_law_merged_is", "_law_merged_is", defArgs (top 48), defBody (top 48), defScope (top 48), ["hand", "game", "puzzle", "pairs", "cells", "many", "due", "cell", "r", "own", "told", "wrong", "left", "alike", "row", "one", "other", "back"]⟩
def d_law : DefS := ⟨("law", none), "law", "law", defArgs (top 49), defBody (top 49), defScope (top 49), ["script", "hand", "most", "one", "other", "first", "second", "shift", "ties", "cell", "r", "cells", "both", "told"]⟩
def i_InvalidBook : DefS := ⟨("InvalidBook", some "__init__"), "__init__", "InvalidBook.__init__", defArgs (mem 5 0), defBody (mem 5 0), defScope (mem 5 0), ["self", "value"]⟩
def i_InvalidNumber : DefS := ⟨("InvalidNumber", some "__init__"), "__init__", "InvalidNumber.__init__", defArgs (mem 3 0), defBody (mem 3 0), defScope (mem 3 0), ["self", "value"]⟩
def i_InvalidPuzzle : DefS := ⟨("InvalidPuzzle", some "__init__"), "__init__", "InvalidPuzzle.__init__", defArgs (mem 6 0), defBody (mem 6 0), defScope (mem 6 0), ["self", "part", "place"]⟩
def i_InvalidRelation : DefS := ⟨("InvalidRelation", some "__init__"), "__init__", "InvalidRelation.__init__", defArgs (mem 4 0), defBody (mem 4 0), defScope (mem 4 0), ["self", "value"]⟩
def i_InvalidStart : DefS := ⟨("InvalidStart", some "__init__"), "__init__", "InvalidStart.__init__", defArgs (mem 7 0), defBody (mem 7 0), defScope (mem 7 0), ["self", "value"]⟩
def i_Undefined : DefS := ⟨("Undefined", some "__init__"), "__init__", "Undefined.__init__", defArgs (mem 8 0), defBody (mem 8 0), defScope (mem 8 0), ["self", "what"]⟩
def sd (fuel : Nat) : Sd where
  T := tb
  fuel := fuel
  fld := ["book", "ties", "cell_count", "plain", "relations", "size", "what", "value", "rows", "part", "place"]
  fnn := [d_is_below.at_, d_is_row.at_, d_are_rows.at_, d_Relation_init.at_, d_Relation_eq.at_, d_Relation_len.at_, d_are_relations.at_, d_Book_init.at_, d_Book_eq.at_, d_Book_len.at_, d_are_cells.at_, d_is_tie.at_, d_Puzzle_init.at_, d_Puzzle_eq.at_, d_rows_of_tie.at_, d_keeps_tie.at_, d_is_start.at_, d_ties_by_last_cell.at_, d_fillings.at_, d_moved_tie.at_, d_beside_puzzles.at_, d_are_cell_pairs.at_, d_first_cells.at_, d_merged.at_, d__law_hand.at_, d__law_draw.at_, d__law_row.at_, d__law_is.at_, d__law_book.at_, d__law_game.at_, d__law_made.at_, d__law_puzzle_is.at_, d__law_pairs.at_, d__law_classes.at_, d__law_fillings.at_, d__law_told.at_, d__law_wrong.at_, d__law_merged_is.at_, d_law.at_]
  cls := ["CellError", "InvalidNumber", "InvalidRelation", "InvalidBook", "InvalidPuzzle", "InvalidStart", "Undefined", "Relation", "Book", "Puzzle"]
  glb := ["MOST_PLACES", "MOST_RELATIONS"]
  defs := [(F_is_below, d_is_below), (F_is_row, d_is_row), (F_are_rows, d_are_rows), (F_Relation_init, d_Relation_init), (F_Relation_eq, d_Relation_eq), (F_Relation_len, d_Relation_len), (F_are_relations, d_are_relations), (F_Book_init, d_Book_init), (F_Book_eq, d_Book_eq), (F_Book_len, d_Book_len), (F_are_cells, d_are_cells), (F_is_tie, d_is_tie), (F_Puzzle_init, d_Puzzle_init), (F_Puzzle_eq, d_Puzzle_eq), (F_rows_of_tie, d_rows_of_tie), (F_keeps_tie, d_keeps_tie), (F_is_start, d_is_start), (F_ties_by_last_cell, d_ties_by_last_cell), (F_fillings, d_fillings), (F_moved_tie, d_moved_tie), (F_beside_puzzles, d_beside_puzzles), (F_are_cell_pairs, d_are_cell_pairs), (F_first_cells, d_first_cells), (F_merged, d_merged), (F__law_hand, d__law_hand), (F__law_draw, d__law_draw), (F__law_row, d__law_row), (F__law_is, d__law_is), (F__law_book, d__law_book), (F__law_game, d__law_game), (F__law_made, d__law_made), (F__law_puzzle_is, d__law_puzzle_is), (F__law_pairs, d__law_pairs), (F__law_classes, d__law_classes), (F__law_fillings, d__law_fillings), (F__law_told, d__law_told), (F__law_wrong, d__law_wrong), (F__law_merged_is, d__law_merged_is), (F_law, d_law)]
  ini := [(C_InvalidBook, i_InvalidBook), (C_InvalidNumber, i_InvalidNumber), (C_InvalidPuzzle, i_InvalidPuzzle), (C_InvalidRelation, i_InvalidRelation), (C_InvalidStart, i_InvalidStart), (C_Undefined, i_Undefined)]
  shapes := [(F_is_below, 2, [], 0), (F_is_row, 2, [], 0), (F_are_rows, 2, [], 0), (F_Relation_init, 3, [], 0), (F_Relation_eq, 2, [], 0), (F_Relation_len, 1, [], 0), (F_are_relations, 1, [], 0), (F_Book_init, 2, [], 0), (F_Book_eq, 2, [], 0), (F_Book_len, 1, [], 0), (F_are_cells, 3, [], 0), (F_is_tie, 3, [], 0), (F_Puzzle_init, 4, [], 0), (F_Puzzle_eq, 2, [], 0), (F_rows_of_tie, 2, [], 0), (F_keeps_tie, 3, [], 0), (F_is_start, 2, [], 0), (F_ties_by_last_cell, 1, [], 0), (F_fillings, 1, [], 0), (F_moved_tie, 3, [], 0), (F_beside_puzzles, 0, (["one", "other"] : List Str), 0), (F_are_cell_pairs, 2, [], 0), (F_first_cells, 2, [], 0), (F_merged, 0, (["puzzle", "pairs"] : List Str), 0), (F_merged, 2, [], 0), (F__law_hand, 1, [], 0), (F__law_draw, 2, [], 0), (F__law_row, 2, [], 0), (F__law_is, 2, [], 0), (F__law_book, 2, [], 0), (F__law_game, 2, [], 0), (F__law_made, 1, [], 0), (F__law_puzzle_is, 2, [], 0), (F__law_pairs, 2, [], 0), (F__law_classes, 2, [], 0), (F__law_fillings, 1, [], 0), (F__law_told, 3, [], 0), (F__law_wrong, 3, [], 0), (F__law_merged_is, 3, [], 0), (F_law, 1, [], 0)]
  free := ["ValueError", "abs", "all", "bool", "dict", "enumerate", "int", "isinstance", "len", "list", "max", "min", "range", "repr", "sorted", "str", "tuple"]
  tys := [.bool, .cls C_Book, .cls C_InvalidBook, .cls C_InvalidNumber, .cls C_InvalidPuzzle, .cls C_Puzzle, .cls C_Relation, .cls C_Undefined, .int, .list, .str, .tuple, .valueError]
  hnd := [C_CellError]
theorem b0 : BindK (d_is_below.params) 0 2 [] 0 := fun x ql b s T kV doc pm an cdv ct us ws its h1 h2 h3 => match us, ws, its, h1, h2, h3 with
  | [_, _], [], [], _, _, _ => ⟨fun _ => rfl, fun h => absurd rfl h⟩
theorem b1 : BindK (d_is_row.params) 0 2 [] 0 := fun x ql b s T kV doc pm an cdv ct us ws its h1 h2 h3 => match us, ws, its, h1, h2, h3 with
  | [_, _], [], [], _, _, _ => ⟨fun _ => rfl, fun h => absurd rfl h⟩
theorem b2 : BindK (d_are_rows.params) 0 2 [] 0 := fun x ql b s T kV doc pm an cdv ct us ws its h1 h2 h3 => match us, ws, its, h1, h2, h3 with
  | [_, _], [], [], _, _, _ => ⟨fun _ => rfl, fun h => absurd rfl h⟩
theorem b3 : BindK (d_Relation_init.params) 0 3 [] 0 := fun x ql b s T kV doc pm an cdv ct us ws its h1 h2 h3 => match us, ws, its, h1, h2, h3 with
  | [_, _, _], [], [], _, _, _ => ⟨fun _ => rfl, fun h => absurd rfl h⟩
theorem b4 : BindK (d_Relation_eq.params) 0 2 [] 0 := fun x ql b s T kV doc pm an cdv ct us ws its h1 h2 h3 => match us, ws, its, h1, h2, h3 with
  | [_, _], [], [], _, _, _ => ⟨fun _ => rfl, fun h => absurd rfl h⟩
theorem b5 : BindK (d_Relation_len.params) 0 1 [] 0 := fun x ql b s T kV doc pm an cdv ct us ws its h1 h2 h3 => match us, ws, its, h1, h2, h3 with
  | [_], [], [], _, _, _ => ⟨fun _ => rfl, fun h => absurd rfl h⟩
theorem b6 : BindK (d_are_relations.params) 0 1 [] 0 := fun x ql b s T kV doc pm an cdv ct us ws its h1 h2 h3 => match us, ws, its, h1, h2, h3 with
  | [_], [], [], _, _, _ => ⟨fun _ => rfl, fun h => absurd rfl h⟩
theorem b7 : BindK (d_Book_init.params) 0 2 [] 0 := fun x ql b s T kV doc pm an cdv ct us ws its h1 h2 h3 => match us, ws, its, h1, h2, h3 with
  | [_, _], [], [], _, _, _ => ⟨fun _ => rfl, fun h => absurd rfl h⟩
theorem b8 : BindK (d_Book_eq.params) 0 2 [] 0 := fun x ql b s T kV doc pm an cdv ct us ws its h1 h2 h3 => match us, ws, its, h1, h2, h3 with
  | [_, _], [], [], _, _, _ => ⟨fun _ => rfl, fun h => absurd rfl h⟩
theorem b9 : BindK (d_Book_len.params) 0 1 [] 0 := fun x ql b s T kV doc pm an cdv ct us ws its h1 h2 h3 => match us, ws, its, h1, h2, h3 with
  | [_], [], [], _, _, _ => ⟨fun _ => rfl, fun h => absurd rfl h⟩
theorem b10 : BindK (d_are_cells.params) 0 3 [] 0 := fun x ql b s T kV doc pm an cdv ct us ws its h1 h2 h3 => match us, ws, its, h1, h2, h3 with
  | [_, _, _], [], [], _, _, _ => ⟨fun _ => rfl, fun h => absurd rfl h⟩
theorem b11 : BindK (d_is_tie.params) 0 3 [] 0 := fun x ql b s T kV doc pm an cdv ct us ws its h1 h2 h3 => match us, ws, its, h1, h2, h3 with
  | [_, _, _], [], [], _, _, _ => ⟨fun _ => rfl, fun h => absurd rfl h⟩
theorem b12 : BindK (d_Puzzle_init.params) 0 4 [] 0 := fun x ql b s T kV doc pm an cdv ct us ws its h1 h2 h3 => match us, ws, its, h1, h2, h3 with
  | [_, _, _, _], [], [], _, _, _ => ⟨fun _ => rfl, fun h => absurd rfl h⟩
theorem b13 : BindK (d_Puzzle_eq.params) 0 2 [] 0 := fun x ql b s T kV doc pm an cdv ct us ws its h1 h2 h3 => match us, ws, its, h1, h2, h3 with
  | [_, _], [], [], _, _, _ => ⟨fun _ => rfl, fun h => absurd rfl h⟩
theorem b14 : BindK (d_rows_of_tie.params) 0 2 [] 0 := fun x ql b s T kV doc pm an cdv ct us ws its h1 h2 h3 => match us, ws, its, h1, h2, h3 with
  | [_, _], [], [], _, _, _ => ⟨fun _ => rfl, fun h => absurd rfl h⟩
theorem b15 : BindK (d_keeps_tie.params) 0 3 [] 0 := fun x ql b s T kV doc pm an cdv ct us ws its h1 h2 h3 => match us, ws, its, h1, h2, h3 with
  | [_, _, _], [], [], _, _, _ => ⟨fun _ => rfl, fun h => absurd rfl h⟩
theorem b16 : BindK (d_is_start.params) 0 2 [] 0 := fun x ql b s T kV doc pm an cdv ct us ws its h1 h2 h3 => match us, ws, its, h1, h2, h3 with
  | [_, _], [], [], _, _, _ => ⟨fun _ => rfl, fun h => absurd rfl h⟩
theorem b17 : BindK (d_ties_by_last_cell.params) 0 1 [] 0 := fun x ql b s T kV doc pm an cdv ct us ws its h1 h2 h3 => match us, ws, its, h1, h2, h3 with
  | [_], [], [], _, _, _ => ⟨fun _ => rfl, fun h => absurd rfl h⟩
theorem b18 : BindK (d_fillings.params) 1 1 [] 0 := fun x ql b s T kV doc pm an cdv ct us ws its h1 h2 h3 => match us, ws, its, h1, h2, h3 with
  | [_], [], [_], _, _, _ => ⟨fun h => absurd h (by decide), fun _ => ⟨_, rfl, rfl⟩⟩
theorem b19 : BindK (d_moved_tie.params) 0 3 [] 0 := fun x ql b s T kV doc pm an cdv ct us ws its h1 h2 h3 => match us, ws, its, h1, h2, h3 with
  | [_, _, _], [], [], _, _, _ => ⟨fun _ => rfl, fun h => absurd rfl h⟩
theorem b20 : BindK (d_beside_puzzles.params) 0 0 ["one", "other"] 0 := fun x ql b s T kV doc pm an cdv ct us ws its h1 h2 h3 => match us, ws, its, h1, h2, h3 with
  | [], [_, _], [], _, _, _ => ⟨fun _ => rfl, fun h => absurd rfl h⟩
theorem b21 : BindK (d_are_cell_pairs.params) 0 2 [] 0 := fun x ql b s T kV doc pm an cdv ct us ws its h1 h2 h3 => match us, ws, its, h1, h2, h3 with
  | [_, _], [], [], _, _, _ => ⟨fun _ => rfl, fun h => absurd rfl h⟩
theorem b22 : BindK (d_first_cells.params) 0 2 [] 0 := fun x ql b s T kV doc pm an cdv ct us ws its h1 h2 h3 => match us, ws, its, h1, h2, h3 with
  | [_, _], [], [], _, _, _ => ⟨fun _ => rfl, fun h => absurd rfl h⟩
theorem b23 : BindK (d_merged.params) 0 0 ["puzzle", "pairs"] 0 := fun x ql b s T kV doc pm an cdv ct us ws its h1 h2 h3 => match us, ws, its, h1, h2, h3 with
  | [], [_, _], [], _, _, _ => ⟨fun _ => rfl, fun h => absurd rfl h⟩
theorem b24 : BindK (d_merged.params) 0 2 [] 0 := fun x ql b s T kV doc pm an cdv ct us ws its h1 h2 h3 => match us, ws, its, h1, h2, h3 with
  | [_, _], [], [], _, _, _ => ⟨fun _ => rfl, fun h => absurd rfl h⟩
theorem b25 : BindK (d__law_hand.params) 0 1 [] 0 := fun x ql b s T kV doc pm an cdv ct us ws its h1 h2 h3 => match us, ws, its, h1, h2, h3 with
  | [_], [], [], _, _, _ => ⟨fun _ => rfl, fun h => absurd rfl h⟩
theorem b26 : BindK (d__law_draw.params) 0 2 [] 0 := fun x ql b s T kV doc pm an cdv ct us ws its h1 h2 h3 => match us, ws, its, h1, h2, h3 with
  | [_, _], [], [], _, _, _ => ⟨fun _ => rfl, fun h => absurd rfl h⟩
theorem b27 : BindK (d__law_row.params) 0 2 [] 0 := fun x ql b s T kV doc pm an cdv ct us ws its h1 h2 h3 => match us, ws, its, h1, h2, h3 with
  | [_, _], [], [], _, _, _ => ⟨fun _ => rfl, fun h => absurd rfl h⟩
theorem b28 : BindK (d__law_is.params) 0 2 [] 0 := fun x ql b s T kV doc pm an cdv ct us ws its h1 h2 h3 => match us, ws, its, h1, h2, h3 with
  | [_, _], [], [], _, _, _ => ⟨fun _ => rfl, fun h => absurd rfl h⟩
theorem b29 : BindK (d__law_book.params) 0 2 [] 0 := fun x ql b s T kV doc pm an cdv ct us ws its h1 h2 h3 => match us, ws, its, h1, h2, h3 with
  | [_, _], [], [], _, _, _ => ⟨fun _ => rfl, fun h => absurd rfl h⟩
theorem b30 : BindK (d__law_game.params) 0 2 [] 0 := fun x ql b s T kV doc pm an cdv ct us ws its h1 h2 h3 => match us, ws, its, h1, h2, h3 with
  | [_, _], [], [], _, _, _ => ⟨fun _ => rfl, fun h => absurd rfl h⟩
theorem b31 : BindK (d__law_made.params) 0 1 [] 0 := fun x ql b s T kV doc pm an cdv ct us ws its h1 h2 h3 => match us, ws, its, h1, h2, h3 with
  | [_], [], [], _, _, _ => ⟨fun _ => rfl, fun h => absurd rfl h⟩
theorem b32 : BindK (d__law_puzzle_is.params) 0 2 [] 0 := fun x ql b s T kV doc pm an cdv ct us ws its h1 h2 h3 => match us, ws, its, h1, h2, h3 with
  | [_, _], [], [], _, _, _ => ⟨fun _ => rfl, fun h => absurd rfl h⟩
theorem b33 : BindK (d__law_pairs.params) 0 2 [] 0 := fun x ql b s T kV doc pm an cdv ct us ws its h1 h2 h3 => match us, ws, its, h1, h2, h3 with
  | [_, _], [], [], _, _, _ => ⟨fun _ => rfl, fun h => absurd rfl h⟩
theorem b34 : BindK (d__law_classes.params) 0 2 [] 0 := fun x ql b s T kV doc pm an cdv ct us ws its h1 h2 h3 => match us, ws, its, h1, h2, h3 with
  | [_, _], [], [], _, _, _ => ⟨fun _ => rfl, fun h => absurd rfl h⟩
theorem b35 : BindK (d__law_fillings.params) 0 1 [] 0 := fun x ql b s T kV doc pm an cdv ct us ws its h1 h2 h3 => match us, ws, its, h1, h2, h3 with
  | [_], [], [], _, _, _ => ⟨fun _ => rfl, fun h => absurd rfl h⟩
theorem b36 : BindK (d__law_told.params) 0 3 [] 0 := fun x ql b s T kV doc pm an cdv ct us ws its h1 h2 h3 => match us, ws, its, h1, h2, h3 with
  | [_, _, _], [], [], _, _, _ => ⟨fun _ => rfl, fun h => absurd rfl h⟩
theorem b37 : BindK (d__law_wrong.params) 0 3 [] 0 := fun x ql b s T kV doc pm an cdv ct us ws its h1 h2 h3 => match us, ws, its, h1, h2, h3 with
  | [_, _, _], [], [], _, _, _ => ⟨fun _ => rfl, fun h => absurd rfl h⟩
theorem b38 : BindK (d__law_merged_is.params) 0 3 [] 0 := fun x ql b s T kV doc pm an cdv ct us ws its h1 h2 h3 => match us, ws, its, h1, h2, h3 with
  | [_, _, _], [], [], _, _, _ => ⟨fun _ => rfl, fun h => absurd rfl h⟩
theorem b39 : BindK (d_law.params) 0 1 [] 0 := fun x ql b s T kV doc pm an cdv ct us ws its h1 h2 h3 => match us, ws, its, h1, h2, h3 with
  | [_], [], [], _, _, _ => ⟨fun _ => rfl, fun h => absurd rfl h⟩
theorem bi_InvalidBook : BindK (i_InvalidBook.params) 0 2 [] 0 := fun x ql b s T kV doc pm an cdv ct us ws its h1 h2 h3 => match us, ws, its, h1, h2, h3 with
  | [_, _], [], [], _, _, _ => ⟨fun _ => rfl, fun h => absurd rfl h⟩
theorem bi_InvalidNumber : BindK (i_InvalidNumber.params) 0 2 [] 0 := fun x ql b s T kV doc pm an cdv ct us ws its h1 h2 h3 => match us, ws, its, h1, h2, h3 with
  | [_, _], [], [], _, _, _ => ⟨fun _ => rfl, fun h => absurd rfl h⟩
theorem bi_InvalidPuzzle : BindK (i_InvalidPuzzle.params) 0 3 [] 0 := fun x ql b s T kV doc pm an cdv ct us ws its h1 h2 h3 => match us, ws, its, h1, h2, h3 with
  | [_, _, _], [], [], _, _, _ => ⟨fun _ => rfl, fun h => absurd rfl h⟩
theorem bi_InvalidRelation : BindK (i_InvalidRelation.params) 0 2 [] 0 := fun x ql b s T kV doc pm an cdv ct us ws its h1 h2 h3 => match us, ws, its, h1, h2, h3 with
  | [_, _], [], [], _, _, _ => ⟨fun _ => rfl, fun h => absurd rfl h⟩
theorem bi_InvalidStart : BindK (i_InvalidStart.params) 0 2 [] 0 := fun x ql b s T kV doc pm an cdv ct us ws its h1 h2 h3 => match us, ws, its, h1, h2, h3 with
  | [_, _], [], [], _, _, _ => ⟨fun _ => rfl, fun h => absurd rfl h⟩
theorem bi_Undefined : BindK (i_Undefined.params) 0 2 [] 0 := fun x ql b s T kV doc pm an cdv ct us ws its h1 h2 h3 => match us, ws, its, h1, h2, h3 with
  | [_, _], [], [], _, _, _ => ⟨fun _ => rfl, fun h => absurd rfl h⟩
inductive AllP {α : Type} (p : α → Prop) : List α → Prop where
  | nil : AllP p []
  | cons {a : α} {l : List α} (h : p a) (t : AllP p l) : AllP p (a :: l)
theorem AllP.all {α : Type} {p : α → Prop} {l : List α} (h : AllP p l) : ∀ a ∈ l, p a := by
  induction h with
  | nil => intro a h; simp at h
  | cons h t ih => intro a ha; rcases List.mem_cons.mp ha with rfl | ha; exact h; exact ih a ha
theorem bx (fuel : Nat) : Bx (sd fuel) where
  sh := fun s hs d fe hd hf => by
    have key : AllP (fun s : Nat × Nat × List Str × Nat => ∃ d fe, (sd fuel).defs.lookup s.1 = some d ∧ (sd fuel).T.fns[s.1]? = some fe ∧ BindK d.params fe.dfl.length s.2.1 s.2.2.1 s.2.2.2) (sd fuel).shapes :=
      .cons ⟨_, _, rfl, rfl, b0⟩ (.cons ⟨_, _, rfl, rfl, b1⟩ (.cons ⟨_, _, rfl, rfl, b2⟩ (.cons ⟨_, _, rfl, rfl, b3⟩ (.cons ⟨_, _, rfl, rfl, b4⟩ (.cons ⟨_, _, rfl, rfl, b5⟩ (.cons ⟨_, _, rfl, rfl, b6⟩ (.cons ⟨_, _, rfl, rfl, b7⟩ (.cons ⟨_, _, rfl, rfl, b8⟩ (.cons ⟨_, _, rfl, rfl, b9⟩ (.cons ⟨_, _, rfl, rfl, b10⟩ (.cons ⟨_, _, rfl, rfl, b11⟩ (.cons ⟨_, _, rfl, rfl, b12⟩ (.cons ⟨_, _, rfl, rfl, b13⟩ (.cons ⟨_, _, rfl, rfl, b14⟩ (.cons ⟨_, _, rfl, rfl, b15⟩ (.cons ⟨_, _, rfl, rfl, b16⟩ (.cons ⟨_, _, rfl, rfl, b17⟩ (.cons ⟨_, _, rfl, rfl, b18⟩ (.cons ⟨_, _, rfl, rfl, b19⟩ (.cons ⟨_, _, rfl, rfl, b20⟩ (.cons ⟨_, _, rfl, rfl, b21⟩ (.cons ⟨_, _, rfl, rfl, b22⟩ (.cons ⟨_, _, rfl, rfl, b23⟩ (.cons ⟨_, _, rfl, rfl, b24⟩ (.cons ⟨_, _, rfl, rfl, b25⟩ (.cons ⟨_, _, rfl, rfl, b26⟩ (.cons ⟨_, _, rfl, rfl, b27⟩ (.cons ⟨_, _, rfl, rfl, b28⟩ (.cons ⟨_, _, rfl, rfl, b29⟩ (.cons ⟨_, _, rfl, rfl, b30⟩ (.cons ⟨_, _, rfl, rfl, b31⟩ (.cons ⟨_, _, rfl, rfl, b32⟩ (.cons ⟨_, _, rfl, rfl, b33⟩ (.cons ⟨_, _, rfl, rfl, b34⟩ (.cons ⟨_, _, rfl, rfl, b35⟩ (.cons ⟨_, _, rfl, rfl, b36⟩ (.cons ⟨_, _, rfl, rfl, b37⟩ (.cons ⟨_, _, rfl, rfl, b38⟩ (.cons ⟨_, _, rfl, rfl, b39⟩ (.nil))))))))))))))))))))))))))))))))))))))))
    obtain ⟨d', fe', e1, e2, h⟩ := key.all s hs
    rw [e1] at hd; cases hd
    rw [e2] at hf; cases hf
    exact h
  ini := (show AllP (fun p : Nat × DefS => BindK p.2.params 0 p.2.ps.length [] 0) (sd fuel).ini from .cons (a := (C_InvalidBook, i_InvalidBook)) (show BindK i_InvalidBook.params 0 i_InvalidBook.ps.length [] 0 from bi_InvalidBook) (.cons (a := (C_InvalidNumber, i_InvalidNumber)) (show BindK i_InvalidNumber.params 0 i_InvalidNumber.ps.length [] 0 from bi_InvalidNumber) (.cons (a := (C_InvalidPuzzle, i_InvalidPuzzle)) (show BindK i_InvalidPuzzle.params 0 i_InvalidPuzzle.ps.length [] 0 from bi_InvalidPuzzle) (.cons (a := (C_InvalidRelation, i_InvalidRelation)) (show BindK i_InvalidRelation.params 0 i_InvalidRelation.ps.length [] 0 from bi_InvalidRelation) (.cons (a := (C_InvalidStart, i_InvalidStart)) (show BindK i_InvalidStart.params 0 i_InvalidStart.ps.length [] 0 from bi_InvalidStart) (.cons (a := (C_Undefined, i_Undefined)) (show BindK i_Undefined.params 0 i_Undefined.ps.length [] 0 from bi_Undefined) (.nil))))))).all

end Tab
end
section
set_option Elab.async false
set_option linter.all false
set_option maxRecDepth 100000
set_option maxHeartbeats 0
namespace Tab
open PySem PySem.W PySem.Calls PyProof.Rows Dn
abbrev Rw : OpenRow := OpenLaw.row PySem.Challenge.rw_cellrealm_k75_beside_and_merged
abbrev qv : Program := view Rw.prog [49]
abbrev hk (fuel : Nat) : Hook := hookS (sd fuel) 5
def ob (fuel : Nat) (s : SharedT) : AlS := obsSG (sd fuel) 5 (HandSHeadRun.getT s)
theorem ob_eq (fuel : Nat) (s : SharedT) : ob fuel s = (hk fuel).obs s.abs := obsSG_eq (HandSHeadRun.getT_eq s)
def namesA : List PySem.Str := ["_wall", "__name__", "CellError", "InvalidNumber", "InvalidRelation", "InvalidBook", "InvalidPuzzle", "InvalidStart", "Undefined", "MOST_PLACES", "is_below", "is_row", "are_rows", "Relation", "MOST_RELATIONS", "are_relations", "Book", "are_cells", "is_tie", "Puzzle", "rows_of_tie", "keeps_tie", "is_start", "ties_by_last_cell", "fillings"]
def namesB : List PySem.Str := ["moved_tie", "beside_puzzles", "are_cell_pairs", "first_cells", "merged", "_law_hand", "_law_draw", "_law_row", "_law_is", "_law_book", "_law_game", "_law_made", "_law_puzzle_is", "_law_pairs", "_law_classes", "_law_fillings", "_law_told", "_law_wrong", "_law_merged_is"]
def names : List PySem.Str := namesA ++ namesB
theorem hrun (fuel : Nat) (w : World) : HandSHeadRun.RunEq Rw qv (hk fuel) (ob fuel) 6000 names w := by
  intro os
  kernel_rfl
end Tab
end
section
set_option linter.all false
set_option maxRecDepth 100000
namespace Tab
open Dn
/-- is_below -/
def isBelow : D → Int → Bool
  | .int i, l => decide (0 ≤ i) && decide (i < l)
  | _, _ => false
@[simp] theorem isBelow_int {i l : Int} : isBelow (.int i) l = (decide (0 ≤ i) && decide (i < l)) := rfl
@[simp] theorem is_below_s (n : Nat) {v : D} (l : Int) (hv : v.dat 60 = true) (st : Store) : callD (Rr (n + 1)) F_is_below [v, .int l] st = .ok (.bl (isBelow v l)) st := by
  refine Rs_eq (Rs_call rfl (by simp [dat_pur _ _ hv]) rfl ?_)
  cases v <;> simp [f_is_below, isBelow] at hv ⊢
  split <;> simp [*]
theorem dat_of {n : Nat} {xs : List D} (h : D.datL n xs = true) {x : D} (hx : x ∈ xs) : x.dat n = true := by
  rw [datL_all, List.all_eq_true] at h; exact h x hx
mutual
theorem dat_up : ∀ (n m : Nat) (d : D), n ≤ m → d.dat n = true → d.dat m = true
  | _, _, .non, _, _ => by simp
  | _, _, .bl _, _, _ => by simp
  | _, _, .int _, _, _ => by simp
  | _, _, .str _, _, h => by simpa using h
  | 0, _, .tup xs, _, h => by simp [D.dat] at h
  | 0, _, .lst xs, _, h => by simp [D.dat] at h
  | n + 1, m, .tup xs, hm, h => by
    obtain ⟨m, rfl⟩ : ∃ k, m = k + 1 := ⟨m - 1, by omega⟩
    exact datL_up n m xs (by omega) h
  | n + 1, m, .lst xs, hm, h => by
    obtain ⟨m, rfl⟩ : ∃ k, m = k + 1 := ⟨m - 1, by omega⟩
    exact datL_up n m xs (by omega) h
  | n, _, .dic _ _, _, h => by simp at h
  | n, _, .kdic _ _, _, h => by simp at h
  | n, _, .obj _ _ _, _, h => by simp at h
  | n, _, .ref _, _, h => by simp at h
  | n, _, .fn _, _, h => by simp at h
  | n, _, .rng _ _, _, h => by simp at h
  | n, _, .exn _ _ _, _, h => by simp at h
theorem datL_up : ∀ (n m : Nat) (ds : List D), n ≤ m → D.datL n ds = true → D.datL m ds = true
  | _, _, [], _, _ => rfl
  | n, m, d :: ds, hm, h => by
    rw [D.datL, Bool.and_eq_true] at h
    rw [D.datL, dat_up n m d hm h.1, datL_up n m ds hm h.2]; rfl
end
/-- are_cells -/
def areCells (v : D) (k m : Int) : Bool := match v with
  | .tup xs => decide ((xs.length : Int) = k) && xs.all fun x => isBelow x m
  | _ => false
@[simp] theorem are_cells_s (n : Nat) {v : D} (k m : Int) (hv : v.dat 60 = true) (st : Store) : callD (Rr (n + 2)) F_are_cells [v, .int k, .int m] st = .ok (.bl (areCells v k m)) st := by
  refine Rs_eq (Rs_call rfl (by simp [dat_pur _ _ hv]) rfl ?_)
  cases v <;> simp [f_are_cells, areCells] at hv ⊢
  rename_i xs
  split
  · rename_i hk
    refine Fs_forChk id xs (fun x => isBelow x m) (fun o => [some (.tup xs), some (.int k), some (.int m), o]) (by simp) (by simp) (fun a ha o => ?_) ?_
    · have := dat_up 59 60 a (by omega) (dat_of hv ha)
      simp [this]
      cases h : isBelow a m <;> simp [h]
      exact fun x h1 h2 _ => ⟨x, h1, h2⟩
    · simp [hk]
  · simp [*]
/-! ### the things of a game -/
abbrev Rel := Nat × List (List Nat)
abbrev Tie := Nat × List Nat
abbrev Game := List Rel × Nat × List Tie
def eRows (rs : List (List Nat)) : D := .tup (rs.map eRow)
def eRel (r : Rel) : D := .tup [eN r.1, eRows r.2]
def eTie (t : Tie) : D := .tup [eN t.1, eRow t.2]
def eBook (b : List Rel) : D := .tup (b.map eRel)
def eTies (ts : List Tie) : D := .tup (ts.map eTie)
def eG (g : Game) : D := .tup [eBook g.1, eN g.2.1, eTies g.2.2]
def oRel (r : Rel) : D := .obj C_Relation [A_size, A_rows] [eN r.1, eRows r.2]
def oBook (b : List Rel) : D := .obj C_Book [A_relations, A_plain] [.tup (b.map oRel), eBook b]
def oPuz (g : Game) : D := .obj C_Puzzle [A_book, A_cell_count, A_ties] [oBook g.1, eN g.2.1, eTies g.2.2]
@[simp] theorem pur_eRows {r : List (List Nat)} : (eRows r).pur = true := by simp [eRows, purL_map]
@[simp] theorem pur_eRel {r : Rel} : (eRel r).pur = true := by simp [eRel]
@[simp] theorem pur_eTie {r : Tie} : (eTie r).pur = true := by simp [eTie]
@[simp] theorem pur_eBook {r : List Rel} : (eBook r).pur = true := by simp [eBook, purL_map]
@[simp] theorem pur_eTies {r : List Tie} : (eTies r).pur = true := by simp [eTies, purL_map]
@[simp] theorem pur_eG {g : Game} : (eG g).pur = true := by simp [eG]
@[simp] theorem pur_oRel {r : Rel} : (oRel r).pur = true := by simp [oRel]
@[simp] theorem pur_oBook {r : List Rel} : (oBook r).pur = true := by simp [oBook, purL_map]
@[simp] theorem pur_oPuz {g : Game} : (oPuz g).pur = true := by simp [oPuz]
def RelOk (r : Rel) : Prop := 1 ≤ r.1 ∧ r.1 ≤ 4 ∧ r.2 ≠ [] ∧ r.2.length ≤ 16 ∧ (∀ row ∈ r.2, row.length = r.1 ∧ ∀ b ∈ row, b < 2) ∧ r.2.Pairwise (fun x y => lexlt x y = true)
@[simp] theorem is_row_s (n : Nat) {row : List Nat} {k : Nat} (h : row.length = k ∧ ∀ b ∈ row, b < 2) (st : Store) : callD (Rr (n + 2)) F_is_row [eRow row, .int k] st = .ok (.bl true) st := by
  refine Rs_eq (Rs_call rfl (by simp) rfl ?_)
  simp [f_is_row, eRow, h.1]
  refine Fs_forChk eN row (fun x => true) (fun o => [some (.tup (row.map eN)), some (.int k), o]) (by simp) (by simp) (fun a ha o => ?_) ?_
  · have := h.2 a ha
    simp [eN_, this]
    omega
  · simp
@[simp] theorem are_rows_s (n : Nat) {rows : List (List Nat)} {k : Nat} (h0 : rows ≠ []) (h : ∀ row ∈ rows, row.length = k ∧ ∀ b ∈ row, b < 2) (st : Store) : callD (Rr (n + 3)) F_are_rows [eRows rows, .int k] st = .ok (.bl true) st := by
  refine Rs_eq (Rs_call rfl (by simp) rfl ?_)
  simp [f_are_rows, eRows, h0]
  refine Fs_forChk eRow rows (fun x => true) (fun o => [some (.tup (rows.map eRow)), some (.int k), o]) (by simp) (by simp) (fun a ha o => ?_) ?_
  · simp [is_row_s n (h a ha)]
  · simp
/-! ### Relation, Book, Puzzle made -/
theorem dat_eRow {r : List Nat} (n : Nat) : D.dat (n + 1) (eRow r) = true := by
  simp [eRow, datL_all, eN_]
theorem dat_eRows {r : List (List Nat)} (n : Nat) : D.dat (n + 2) (eRows r) = true := by
  simp [eRows, datL_all, dat_eRow]
theorem key_eRow {r : List Nat} : D.key (eRow r) = true := by
  simp [D.key, eRow, D.keyN, eN_]
theorem notin_rows {done rest : List (List Nat)} {a : List Nat} (h : (done ++ a :: rest).Pairwise fun x y => lexlt x y = true) : eRow a ∉ done.map eRow := by
  intro q
  obtain ⟨b, hb, e⟩ := List.mem_map.mp q
  have := (List.pairwise_append.mp h).2.2 b hb a (by simp)
  rw [eRow_inj e, lexlt_irr] at this
  exact Bool.noConfusion this
theorem mkRel_s (n : Nat) {r : Rel} (h : RelOk r) (st : Store) : mkD (Rr (n + 4)) C_Relation [eN r.1, eRows r.2] st = .ok (.ref st.length) (st ++ [oRel r]) := by
  obtain ⟨h1, h2, h3, h4, h5, h6⟩ := h
  obtain ⟨k, rows⟩ := r
  dsimp only at *
  have hd : Rs (ev (Rr (n + 3)) (.dc (.var 3) (.cst (.bl true)) (.v 3) (.e (.var 2)) .nil [3]) [some (.ref st.length), some (.int k), some (eRows rows), none] (st ++ [.obj C_Relation [A_size] [.int k]])) (fun d s => d = .dic (rows.map eRow) (rows.map fun _ => .bl true) ∧ s = st ++ [.obj C_Relation [A_size] [.int k]]) noE := by
    refine Rs_dc eRow rows (fun done d => d = .dic (done.map eRow) (done.map fun _ => .bl true)) ?_
    simp [eRows]
    intro done a rest e
    rw [putKV_new (notin_rows (e ▸ h6)) (keyFor_same (b := true) key_eRow rfl (by simp [eRow, D.isT])) (by simp) (by
      have := congrArg List.length e
      simp at this ⊢
      unfold szLine; omega)]
    simp
  obtain ⟨d, s, e1, rfl, rfl⟩ := hd.get
  have hs : evBlt (Rk tb Fu (n + 3)) .sorted [.dic (rows.map eRow) (rows.map fun _ => .bl true)] (st ++ [.obj C_Relation [A_size] [.int k]]) = .ok (.lst (rows.map eRow)) (st ++ [.obj C_Relation [A_size] [.int k]]) := by
    rw [blt_is (by simp)]
    show (match (if sortOk (rows.map eRow) then some (D.lst (sortD (rows.map eRow))) else none) with
      | some y => Res.ok y _
      | none => .stk) = _
    rw [sortOk_rows (.inr fun r hr => by have := (h5 r hr).1; rintro rfl; simp at this; omega), sortD_rows h6]; rfl
  refine Rs_eq (Rs_mk rfl rfl rfl ?_)
  have hk : (0:Int) ≤ k ∧ (k:Int) < 5 := by omega
  have hk0 : k ≠ 0 := by omega
  simp [f_Relation_init, are_rows_s n h3 h5, eN_, hk, hk0, e1, hs, oRel]
  rfl
end Tab
end
section
set_option linter.all false
set_option maxRecDepth 100000
namespace Tab
open Dn
/-- the things of ds are the relations of rs -/
def RelsAt (st : Store) (ds : List D) (rs : List Rel) : Prop := ∃ ps : List (D × Rel), ds = ps.map Prod.fst ∧ rs = ps.map Prod.snd ∧ ∀ p ∈ ps, cellOf st p.1 = oRel p.2
theorem RelsAt.pure {st : Store} {ds : List D} {rs : List Rel} (h : RelsAt st ds rs) (hp : D.purL ds = true) (s : Store) : RelsAt s ds rs := by
  obtain ⟨ps, rfl, rfl, h⟩ := h
  refine ⟨ps, rfl, rfl, fun p hm => ?_⟩
  have : p.1.pur = true := by
    rw [D.purL_all, List.all_eq_true] at hp
    exact hp _ (List.mem_map.mpr ⟨p, hm, rfl⟩)
  have h1 := h p hm
  rw [cellOf_pur this] at h1 ⊢
  exact h1
theorem RelsAt.len {st : Store} {ds : List D} {rs : List Rel} (h : RelsAt st ds rs) : ds.length = rs.length := by
  obtain ⟨ps, rfl, rfl, h⟩ := h
  simp
theorem RelsAt.get {st : Store} {ds : List D} {rs : List Rel} (h : RelsAt st ds rs) {i : Nat} {r : Rel} (hr : rs[i]? = some r) : ∃ d, ds[i]? = some d ∧ cellOf st d = oRel r := by
  obtain ⟨ps, rfl, rfl, h⟩ := h
  rw [List.getElem?_map] at hr
  cases hp : ps[i]? with
  | none => rw [hp] at hr; cases hr
  | some p =>
    rw [hp] at hr
    cases hr
    exact ⟨p.1, by rw [List.getElem?_map, hp]; rfl, h p (List.mem_of_getElem? hp)⟩
/-- v: a list or a tuple of these -/
def SeqOf (v : D) (ds : List D) : Prop := v = .lst ds ∨ v = .tup ds
theorem isi_obj {st : Store} {d : D} {r : Rel} (h : cellOf st d = oRel r) : isiOk tb (cellOf st d) = true ∧ instC tb (cellOf st d) (.cls C_Relation) = true := by
  rw [h]; exact ⟨rfl, rfl⟩
theorem are_relations_s (n : Nat) {v : D} {ds : List D} {rs : List Rel} {st : Store} (hv : SeqOf v ds) (h : RelsAt st ds rs) (h1 : 1 ≤ rs.length ∧ rs.length ≤ 6) : callD (Rr (n + 1)) F_are_relations [v] st = .ok (.bl true) st := by
  refine callV rfl rfl rfl fun s hs => ?_
  have h' : RelsAt s ds rs := by
    rcases hs with rfl | ⟨rfl, hp⟩
    · exact h
    · refine h.pure ?_ _
      rcases hv with rfl | rfl <;> simpa using hp
  clear h hs
  obtain ⟨ps, rfl, rfl, h⟩ := h'
  have hl : (1:Int) ≤ (ps.length : Int) ∧ (ps.length:Int) < 7 := by simp at h1; omega
  have ht : ∀ p ∈ ps, isiOk tb (cellOf s p.1) = true ∧ instC tb (cellOf s p.1) (.cls C_Relation) = true := fun p hp => isi_obj (h p hp)
  rcases hv with rfl | rfl
  · simp [f_are_relations, hl.1, show (ps.length:Int) ≤ 6 by omega]
    refine Fs_forChk Prod.fst ps (fun x => true) (fun o => [some (.lst (ps.map Prod.fst)), o]) (by simp) (by simp) (fun a ha o => ?_) ?_
    · simp [ht _ ha]
    · simp
  · simp [f_are_relations, hl.1, show (ps.length:Int) ≤ 6 by omega]
    refine Fs_forChk Prod.fst ps (fun x => true) (fun o => [some (.tup (ps.map Prod.fst)), o]) (by simp) (by simp) (fun a ha o => ?_) ?_
    · simp [ht _ ha]
    · simp
/-- the plain form of these relations -/
theorem plain_s {R : Run} (hT : R.T = tb) {v : D} {a b : Option D} {ds : List D} {rs : List Rel} {st : Store} (hv : SeqOf v ds) (h : RelsAt st ds rs) (h1 : rs.length ≤ 100) :
    ev R (.lc (.tup (.cons (.atr (.var 2) A_size) (.cons (.atr (.var 2) A_rows) .nil))) (.v 2) (.e (.var 1)) .nil [2]) [a, some v, b] st = .ok (.lst (rs.map eRel)) st := by
  obtain ⟨ps, rfl, rfl, h⟩ := h
  refine Rs_eq (Rs_lc Prod.fst ps (fun _ => true) (fun p => eRel p.2) (by simp at h1; unfold szLine; omega) ?_)
  have : Rs (evI R (.e (.var 1)) [a, some v, b] st) (fun q s' => q.1 = ps.map Prod.fst ∧ s' = st) noE := by
    rcases hv with rfl | rfl <;> simp
  refine this.mono fun q s hq => ?_
  obtain ⟨h2, rfl⟩ := hq
  refine ⟨h2, fun p hp => ?_, ?_⟩
  · have e1 : getAtr tb p.1 A_size s = some (eN p.2.1) := by rw [getAtr_cell (h p hp) pur_oRel]; rfl
    have e2 : getAtr tb p.1 A_rows s = some (eRows p.2.2) := by rw [getAtr_cell (h p hp) pur_oRel]; rfl
    simp [e1, e2, hT, eRel]
  · rw [List.filter_eq_self.mpr (fun _ _ => rfl), List.map_map]; simp
theorem RelsAt.ext {st s : Store} {ds : List D} {rs : List Rel} (h : RelsAt st ds rs) (e : ExtS st s) : RelsAt s ds rs := by
  obtain ⟨ps, rfl, rfl, h⟩ := h
  exact ⟨ps, rfl, rfl, fun p hp => e.cell (h p hp)⟩
theorem mkBook_s (n : Nat) {v : D} {ds : List D} {rs : List Rel} {st : Store} (hv : SeqOf v ds) (h : RelsAt st ds rs) (h1 : 1 ≤ rs.length ∧ rs.length ≤ 6) : mkD (Rr (n + 3)) C_Book [v] st = .ok (.ref st.length) (st ++ [.obj C_Book [A_relations, A_plain] [.tup ds, eBook rs]]) := by
  have hup : ∀ c, RelsAt (st ++ [c]) ds rs := fun c => h.ext (ExtS.app _ _)
  refine Rs_eq (Rs_mk rfl rfl rfl ?_)
  have hc := fun c => are_relations_s (n + 1) (st := st ++ [c]) hv (hup c) h1
  have hp := fun c a b => plain_s (R := Rr (n + 2)) rfl (a := a) (b := b) hv (hup c) (by omega)
  have ht : ∀ s, evBlt (Rr (n + 2)) .tuple [v] s = .ok (.tup ds) s := by
    rcases hv with rfl | rfl <;> simp
  simp [f_Book_init, hc, hp, ht, eBook]
/-- d: a book of these relations -/
def BookAt (st : Store) (d : D) (b : List Rel) : Prop := ∃ ds, cellOf st d = .obj C_Book [A_relations, A_plain] [.tup ds, eBook b] ∧ RelsAt st ds b
theorem BookAt.pure {st : Store} {d : D} {b : List Rel} (h : BookAt st d b) (hp : d.pur = true) (s : Store) : BookAt s d b := by
  obtain ⟨ds, h1, h2⟩ := h
  rw [cellOf_pur hp] at h1
  subst h1
  exact ⟨ds, rfl, h2.pure (by simpa using hp) s⟩
theorem BookAt.ext {st s : Store} {d : D} {b : List Rel} (h : BookAt st d b) (e : ExtS st s) : BookAt s d b := by
  obtain ⟨ds, h1, h2⟩ := h
  exact ⟨ds, e.cell h1, h2.ext e⟩
theorem BookAt.obj {st : Store} {b : List Rel} : BookAt st (oBook b) b := by
  refine ⟨b.map oRel, rfl, b.map fun r => (oRel r, r), by simp, by rw [List.map_map]; exact (List.map_id b).symm, fun p hp => ?_⟩
  obtain ⟨r, _, rfl⟩ := List.mem_map.mp hp
  rfl
theorem fgetO {ns : List Nat} {vs : List D} {d : D} {c f : Nat} {st : Store} {v : D} (h : cellOf st d = .obj c ns vs) (h1 : fldOk tb c f = true) (h2 : isErr tb c = false) (hv : fget ns vs f = some v) : getAtr tb d f st = some v := by
  unfold getAtr
  rw [h]
  simp [h1, h2, hv]
theorem BookAt.rels {st : Store} {d : D} {b : List Rel} (h : BookAt st d b) : ∃ ds, getAtr tb d A_relations st = some (.tup ds) ∧ RelsAt st ds b := by
  obtain ⟨ds, h1, h2⟩ := h
  exact ⟨ds, fgetO h1 rfl rfl rfl, h2⟩
theorem BookAt.plain {st : Store} {d : D} {b : List Rel} (h : BookAt st d b) : getAtr tb d A_plain st = some (eBook b) := by
  obtain ⟨ds, h1, h2⟩ := h
  exact fgetO h1 rfl rfl rfl
theorem Book_len_s (n : Nat) {d : D} {b : List Rel} {st : Store} (h : BookAt st d b) : callD (Rr (n + 1)) F_Book_len [d] st = .ok (.int b.length) st := by
  refine callV rfl rfl rfl fun s hs => ?_
  have h' : BookAt s d b := by
    rcases hs with rfl | ⟨rfl, hp⟩
    · exact h
    · exact h.pure (by simpa using hp) _
  obtain ⟨ds, h1, h2⟩ := h'.rels
  simp [f_Book_len, h1, h2.len]
theorem len_book (n : Nat) {d : D} {b : List Rel} {st : Store} (h : BookAt st d b) (hb : b.length ≤ 1000) : evBlt (Rr (n + 1)) .len [d] st = .ok (.int b.length) st := by
  obtain ⟨ds, h1, h2⟩ := id h
  have hc : classOf st d = some C_Book := by unfold classOf; rw [h1]
  unfold evBlt
  dsimp only
  rw [hc]
  show ownLen (Rr (n + 1)) C_Book d st = _
  show bnd (callD (Rr (n + 1)) F_Book_len [d]) lenOk st = _
  unfold bnd
  rw [Book_len_s n h]
  show lenOk (.int b.length) st = _
  show (if small62 (b.length : Int) && decide ((0:Int) ≤ b.length) then ret (D.int (b.length : Int)) else stk) st = _
  rw [small62_nat (by omega), decide_eq_true (by omega)]; rfl
def TieOk (b : List Rel) (m : Nat) (t : Tie) : Prop := ∃ r, b[t.1]? = some r ∧ t.2.length = r.1 ∧ ∀ c ∈ t.2, c < m
theorem is_tie_s (n : Nat) {d : D} {b : List Rel} {m : Nat} {t : Tie} {st : Store} (h : BookAt st d b) (hb : b.length ≤ 1000) (ht : TieOk b m t) : callD (Rr (n + 3)) F_is_tie [d, .int m, eTie t] st = .ok (.bl true) st := by
  refine callV rfl rfl rfl fun s hs => ?_
  have h' : BookAt s d b := by
    rcases hs with rfl | ⟨rfl, hp⟩
    · exact h
    · exact h.pure (by simpa using hp) _
  obtain ⟨r, hr, hl, hc⟩ := ht
  obtain ⟨ds, h1, h2⟩ := h'.rels
  obtain ⟨x, hx, ho⟩ := h2.get hr
  have hlt := (List.getElem?_eq_some_iff.mp hr).1
  have e1 : getAtr tb x A_size s = some (eN r.1) := by rw [getAtr_cell ho pur_oRel]; rfl
  have hxx : ds[t.1]'(by rw [h2.len]; exact hlt) = x := (List.getElem?_eq_some_iff.mp hx).2
  have e2 : areCells (eRow t.2) r.1 m = true := by
    simp [areCells, eRow, hl, eN_]
    intro c hc'
    have := hc c hc'
    omega
  simp [f_is_tie, eTie, eN_, len_book (n + 1) h' hb, hlt, h1, h2.len, hxx, e1, are_cells_s n _ _ (dat_eRow 59), e2]
theorem mkPuz_s (n : Nat) {d : D} {b : List Rel} {m : Nat} {ts : List Tie} {v : D} {st : Store} (h : BookAt st d b) (hb : b.length ≤ 1000) (ht : ∀ t ∈ ts, TieOk b m t) (hv : SeqOf v (ts.map eTie)) : mkD (Rr (n + 4)) C_Puzzle [d, .int m, v] st = .ok (.ref st.length) (st ++ [.obj C_Puzzle [A_book, A_cell_count, A_ties] [d, .int m, eTies ts]]) := by
  have hup : ∀ c, BookAt (st ++ [c]) d b := fun c => h.ext (ExtS.app _ _)
  have hi : ∀ c, isiOk tb (cellOf (st ++ [c]) d) = true ∧ instC tb (cellOf (st ++ [c]) d) (.cls C_Book) = true := fun c => by
    obtain ⟨ds, h1, h2⟩ := hup c
    rw [h1]; exact ⟨rfl, rfl⟩
  have hc := fun c t (q : t ∈ ts) => is_tie_s n (st := st ++ [c]) (hup c) hb (ht t q)
  refine Rs_eq (Rs_mk rfl rfl rfl ?_)
  have hen : ∀ (k : Nat) (l : List Tie), enumL k (l.map eTie) = (l.zipIdx k).map fun p => D.tup [.int p.2, eTie p.1] := by
    intro k l
    induction l generalizing k with
    | nil => rfl
    | cons a l ih => rw [List.map_cons, enumL, ih]; rfl
  rcases hv with rfl | rfl
  · simp [f_Puzzle_init, hi, show ¬ ((m:Int) < 0) by omega]
    refine Fs_forChk (fun (p : Tie × Nat) => D.tup [.int p.2, eTie p.1]) (ts.zipIdx) (fun _ => true) (fun (o : Option D × Option D) => [some (.ref st.length), some d, some (.int m), some (.lst (ts.map eTie)), o.1, o.2]) (by simp [itemsOf, hen]) (by simp) (fun a ha o => ?_) ?_
    · simp [hc _ a.1 (List.fst_mem_of_mem_zipIdx ha)]
    · simp [eTies]
  · simp [f_Puzzle_init, hi, show ¬ ((m:Int) < 0) by omega]
    refine Fs_forChk (fun (p : Tie × Nat) => D.tup [.int p.2, eTie p.1]) (ts.zipIdx) (fun _ => true) (fun (o : Option D × Option D) => [some (.ref st.length), some d, some (.int m), some (.tup (ts.map eTie)), o.1, o.2]) (by simp [itemsOf, hen]) (by simp) (fun a ha o => ?_) ?_
    · simp [hc _ a.1 (List.fst_mem_of_mem_zipIdx ha)]
    · simp [eTies]
end Tab
end
section
set_option linter.all false
set_option maxRecDepth 100000
namespace Tab
open Dn
def GameOk (g : Game) : Prop := 1 ≤ g.1.length ∧ g.1.length ≤ 6 ∧ (∀ r ∈ g.1, RelOk r) ∧ g.2.1 ≤ 12 ∧ g.2.2.length ≤ 8 ∧ ∀ t ∈ g.2.2, TieOk g.1 g.2.1 t
theorem RelsAt.frz {st : Store} {ds : List D} {rs : List Rel} (h : RelsAt st ds rs) (n : Nat) : frz st (n + 1 + 1) (.tup ds) = some (.tup (rs.map oRel)) := by
  obtain ⟨ps, rfl, rfl, h⟩ := h
  refine frz_tupM ?_
  rw [List.map_map]
  exact mapM_map fun p hp => frz_cell (h p hp) (by simp)
theorem frzBook {st : Store} {d : D} {b : List Rel} (h : BookAt st d b) (n : Nat) : frz st (n + 1 + 1 + 1 + 1) d = some (oBook b) := by
  obtain ⟨ds, h1, h2⟩ := h
  have key : ∀ k, frz st (k + 1 + 1 + 1) (.obj C_Book [A_relations, A_plain] [.tup ds, eBook b]) = some (oBook b) := fun k => by
    refine frz_obj ?_
    rw [List.mapM_cons, h2.frz k, List.mapM_cons, frzP pur_eBook]; rfl
  cases d <;> try (rw [show cellOf st _ = _ from rfl] at h1; first | (cases h1; exact key (n + 1)) | cases h1)
  rename_i k
  simp at h1
  cases q : st[k]? with
  | none => rw [q] at h1; simp at h1
  | some x =>
    rw [q] at h1
    simp at h1
    rw [frz_ref q, h1]; exact key n
theorem frzPuz {st : Store} {d bk : D} {b : List Rel} {m : Nat} {ts : List Tie} (n : Nat) (h1 : cellOf st d = .obj C_Puzzle [A_book, A_cell_count, A_ties] [bk, .int m, eTies ts]) (h : BookAt st bk b)   : frz st (n + 1 + 1 + 1 + 1 + 1 + 1) d = some (oPuz (b, m, ts)) := by
  have key : ∀ k, frz st (k + 1 + 1 + 1 + 1 + 1) (.obj C_Puzzle [A_book, A_cell_count, A_ties] [bk, .int m, eTies ts]) = some (oPuz (b, m, ts)) := fun k => by
    refine frz_obj ?_
    rw [List.mapM_cons, frzBook h k, List.mapM_cons, frz_int, List.mapM_cons, frzP pur_eTies]; rfl
  cases d <;> try (rw [show cellOf st _ = _ from rfl] at h1; first | (cases h1; exact key (n + 1)) | cases h1)
  rename_i k
  simp at h1
  cases q : st[k]? with
  | none => rw [q] at h1; simp at h1
  | some x =>
    rw [q] at h1
    simp at h1
    rw [frz_ref q, h1]; exact key n
theorem made_s (n : Nat) {g : Game} (h : GameOk g) (st : Store) : callD (Rr (n + 6)) F__law_made [eG g] st = .ok (oPuz g) st := by
  obtain ⟨b, m, ts⟩ := g
  obtain ⟨h1, h2, h3, h4, h5, h6⟩ := h
  dsimp only at *
  refine Rs_eq (Rs_call rfl (by simp) rfl ?_)
  have hl : Rs (ev (Rr (n + 5)) (.lc (.mk C_Relation (.cons (.var 1) (.cons (.var 2) .nil))) (.t [(.v 1), (.v 2)]) (.e (.idx (.var 0) (.cst (.int 0)))) .nil [1, 2]) [some (eG (b, m, ts)), none, none] []) (fun d s => d = .lst ((List.range b.length).map .ref) ∧ s = b.map oRel) noE := by
    refine Rs_lcS eRel b (fun _ done acc s => s = done.map oRel ∧ acc = (List.range done.length).map .ref) (by unfold szLine; omega) ?_
    simp [eG, eBook]
    refine ⟨fun done => rfl, fun done a1 a2 rest e => ?_⟩
    have hr : RelOk (a1, a2) := h3 _ (by rw [e]; simp)
    simp [eRel, mkRel_s (n + 1) hr, List.range_succ]
  obtain ⟨d, s, e1, rfl, rfl⟩ := hl.get
  have hra : RelsAt (b.map oRel) ((List.range b.length).map .ref) b := by
    refine ⟨b.zipIdx.map fun p => (.ref p.2, p.1), ?_, ?_, fun p hp => ?_⟩
    · rw [List.map_map]
      show _ = b.zipIdx.map (D.ref ∘ Prod.snd)
      rw [← List.map_map, List.zipIdx_map_snd, List.range_eq_range']
    · rw [List.map_map]
      show b = b.zipIdx.map Prod.fst
      rw [List.zipIdx_map_fst]
    · obtain ⟨⟨r, i⟩, hq, rfl⟩ := List.mem_map.mp hp
      have := List.mk_mem_zipIdx_iff_getElem?.mp hq
      simp [this]
  have e2 := mkBook_s (n + 2) (v := .lst ((List.range b.length).map .ref)) (.inl rfl) hra ⟨h1, h2⟩
  have hb : BookAt (b.map oRel ++ [.obj C_Book [A_relations, A_plain] [.tup ((List.range b.length).map .ref), eBook b]]) (.ref (b.map oRel).length) b := ⟨_, by simp, hra.ext (ExtS.app _ _)⟩
  have e3 := mkPuz_s (n + 1) (v := eTies ts) hb (by omega) h6 (.inr rfl)
  simp only [List.length_map] at e3 e2 hb
  have hb' := hb.ext (ExtS.app _ [.obj C_Puzzle [A_book, A_cell_count, A_ties] [.ref b.length, .int m, eTies ts]])
  simp only [List.append_assoc, List.cons_append, List.nil_append] at hb'
  simp [f__law_made, e1]
  simp [eG, eN_, e2, e3]
  exact frzPuz 34 (bk := .ref b.length) (by simp) hb'
end Tab
end
section
set_option linter.all false
set_option maxRecDepth 100000
namespace Tab
open Dn
theorem dat_eRel {r : Rel} (n : Nat) : D.dat (n + 3) (eRel r) = true := by
  simp [eRel, eN_, dat_eRows]
theorem dat_eTie {r : Tie} (n : Nat) : D.dat (n + 2) (eTie r) = true := by
  simp [eTie, eN_, dat_eRow]
theorem dat_eBook {b : List Rel} (n : Nat) : D.dat (n + 4) (eBook b) = true := by
  simp [eBook, datL_all, dat_eRel]
theorem dat_eTies {b : List Tie} (n : Nat) : D.dat (n + 3) (eTies b) = true := by
  simp [eTies, datL_all, dat_eTie]
/-- ints, and tuples of such -/
def isD : Nat → D → Bool
  | _, .int _ => true
  | k + 1, .tup xs => decide (xs.length ≤ 1000000) && xs.all (isD k)
  | _, _ => false
theorem isD_pur : ∀ (k : Nat) (d : D), isD k d = true → d.pur = true
  | _, .int _, _ => rfl
  | k + 1, .tup xs, h => by
    simp [isD] at h
    rw [pur_tup, D.purL_all, List.all_eq_true]
    exact fun x hx => isD_pur k x (h.2 x hx)
  | 0, .tup xs, h => by simp [isD] at h
  | k, .non, h => by cases k <;> simp [isD] at h
  | k, .bl _, h => by cases k <;> simp [isD] at h
  | k, .str _, h => by cases k <;> simp [isD] at h
  | k, .lst _, h => by cases k <;> simp [isD] at h
  | k, .dic _ _, h => by cases k <;> simp [isD] at h
  | k, .kdic _ _, h => by cases k <;> simp [isD] at h
  | k, .obj _ _ _, h => by cases k <;> simp [isD] at h
  | k, .ref _, h => by cases k <;> simp [isD] at h
  | k, .fn _, h => by cases k <;> simp [isD] at h
  | k, .rng _ _, h => by cases k <;> simp [isD] at h
  | k, .exn _ _ _, h => by cases k <;> simp [isD] at h
theorem law_is_s : ∀ (k : Nat) (d : D), isD k d = true → ∀ (n : Nat) (st : Store), callD (Rr (n + k + 1)) F__law_is [d, d] st = .ok (.bl true) st := by
  intro k
  induction k with
  | zero =>
    intro d h n st
    refine Rs_eq (Rs_call rfl (by simp [isD_pur _ _ h]) rfl ?_)
    cases d <;> simp [isD] at h
    simp only [f__law_is]
    simp
  | succ k ih =>
    intro d h n st
    refine Rs_eq (Rs_call rfl (by simp [isD_pur _ _ h]) rfl ?_)
    cases d <;> simp [isD] at h
    · simp [f__law_is]
    · rename_i xs
      simp [f__law_is]
      refine Rs.of (lcN eN (List.range xs.length) (fun _ => .bl true) (by simp [h.1]) (by simp [rng_walk h.1]) (fun a ha => ?_)) ?_
      · have ha : a < xs.length := by simpa using ha
        have e := ih (xs[a]) (h.2 _ (List.getElem_mem ha)) n
        simp [eN_, ha]
        have e' := e []
        rw [show n + k + 1 = n + (k + 1) from rfl] at e'
        simp [e']
      · simp
        refine Rs.of blt_all ?_
        simp
theorem Puzzle_eq_s (n : Nat) (g : Game) (st : Store) : callD (Rr (n + 1)) F_Puzzle_eq [oPuz g, oPuz g] st = .ok (.bl true) st := by
  refine Rs_eq (Rs_call rfl (by simp) rfl ?_)
  have e1 : ∀ s f v, fget [A_book, A_cell_count, A_ties] [oBook g.1, eN g.2.1, eTies g.2.2] f = some v → fldOk tb C_Puzzle f = true → getAtr tb (oPuz g) f s = some v := fun s f v h h2 => fgetO (st := s) (d := oPuz g) rfl h2 rfl h
  have e2 : ∀ s, getAtr tb (oBook g.1) A_plain s = some (eBook g.1) := fun s => fgetO (st := s) (d := oBook g.1) rfl rfl rfl rfl
  simp [f_Puzzle_eq, e1 _ A_book _ rfl rfl, e1 _ A_cell_count _ rfl rfl, e1 _ A_ties _ rfl rfl, e2, evCmp_ne_dat (dat_eBook 56) (dat_eBook 56), eqv_refl _ _ (dat_eBook (b := g.1) 56), evCmp_eq_dat (dat_eTies 57) (dat_eTies 57), eqv_refl _ _ (dat_eTies (b := g.2.2) 57), eN_, oPuz]
end Tab
end
section
set_option linter.all false
set_option maxRecDepth 100000
namespace Tab
open Dn
@[simp] theorem isD_int {k : Nat} {i : Int} : isD k (.int i) = true := by cases k <;> rfl
@[simp] theorem isD_tup {k : Nat} {xs : List D} : isD (k + 1) (.tup xs) = (decide (xs.length ≤ 1000000) && xs.all (isD k)) := rfl
theorem isD_eRow {r : List Nat} (k : Nat) (h : r.length ≤ 1000000) : isD (k + 1) (eRow r) = true := by
  simp [eRow, h, eN_]
theorem isD_eG {g : Game} (h : GameOk g) : isD 5 (eG g) = true := by
  obtain ⟨h1, h2, h3, h4, h5, h6⟩ := h
  have e1 : isD 4 (eBook g.1) = true := by
    simp [eBook]
    refine ⟨by omega, fun a b hr => ?_⟩
    obtain ⟨k1, k2, k3, k4, k5, k6⟩ := h3 _ hr
    simp [eRel, eN_, eRows]
    refine ⟨by simp at k4; omega, fun r hr => isD_eRow 0 ?_⟩
    have := (k5 r hr).1
    simp at this k2
    omega
  have e2 : isD 4 (eTies g.2.2) = true := by
    simp [eTies]
    refine ⟨by omega, fun a b hr => ?_⟩
    obtain ⟨r, k1, k2, k3⟩ := h6 _ hr
    simp [eTie, eN_]
    refine isD_eRow 1 ?_
    have := (h3 r (List.mem_of_getElem? k1)).2.1
    simp at k2
    omega
  simp [eG, e1, e2, eN_]
theorem puzzle_is_s (n : Nat) {g : Game} (h : GameOk g) (st : Store) : callD (Rr (n + 8)) F__law_puzzle_is [oPuz g, eG g] st = .ok (.bl true) st := by
  have hl := h.2.1
  refine Rs_eq (Rs_call rfl (by simp) rfl ?_)
  have e1 : ∀ s, getAtr tb (oPuz g) A_book s = some (oBook g.1) := fun s => fgetO (st := s) (d := oPuz g) rfl rfl rfl rfl
  have e2 : ∀ s, getAtr tb (oPuz g) A_cell_count s = some (eN g.2.1) := fun s => fgetO (st := s) (d := oPuz g) rfl rfl rfl rfl
  have e3 : ∀ s, getAtr tb (oPuz g) A_ties s = some (eTies g.2.2) := fun s => fgetO (st := s) (d := oPuz g) rfl rfl rfl rfl
  have e4 : ∀ s, getAtr tb (oBook g.1) A_relations s = some (.tup (g.1.map oRel)) := fun s => fgetO (st := s) (d := oBook g.1) rfl rfl rfl rfl
  have i1 : ∀ s, isiOk tb (cellOf s (oPuz g)) = true ∧ instC tb (cellOf s (oPuz g)) (.cls C_Puzzle) = true := fun s => ⟨rfl, rfl⟩
  have i2 : ∀ s, isiOk tb (cellOf s (oBook g.1)) = true ∧ instC tb (cellOf s (oBook g.1)) (.cls C_Book) = true := fun s => ⟨rfl, rfl⟩
  simp [f__law_puzzle_is, e1, e2, e3, e4, i1, i2]
  refine Rs.of (lcN oRel g.1 eRel (by omega) (by simp [e1, e4]) (fun r hr => ?_)) ?_
  · have r1 : getAtr tb (oRel r) A_size [] = some (eN r.1) := rfl
    have r2 : getAtr tb (oRel r) A_rows [] = some (eRows r.2) := rfl
    simp [r1, r2, eRel]
  · have hg : D.tup [D.tup (g.1.map eRel), eN g.2.1, eTies g.2.2] = eG g := rfl
    have hq : evCmp (Rk tb Fu (n + 7)) .eq (oPuz g) (oPuz g) [] = .ok (.bl true) [] := by
      show ownEq (Rk tb Fu (n + 7)) C_Puzzle (oPuz g) (oPuz g) [] = _
      show bnd (callD (Rk tb Fu (n + 7)) F_Puzzle_eq [oPuz g, oPuz g]) bolOk [] = _
      unfold bnd
      rw [Puzzle_eq_s (n + 6) g []]; rfl
    have hm := made_s (n + 1) h []
    have hi := law_is_s 5 (eG g) (isD_eG h) (n + 1) []
    rw [show n + 1 + 5 + 1 = n + 7 from rfl] at hi
    rw [show n + 1 + 6 = n + 7 from rfl] at hm
    simp [e2, e3, hg, hi, hm, hq]
end Tab
end
section
set_option linter.all false
set_option maxRecDepth 100000
namespace Tab
open Dn
abbrev sC : D := .str (PySem.Str.ofString "cells")
abbrev sL : D := .str (PySem.Str.ofString "left")
abbrev sT : D := .str (PySem.Str.ofString "turn")
theorem sCL : sC ≠ sL := by decide
theorem sCT : sC ≠ sT := by decide
theorem sLT : sL ≠ sT := by decide
theorem tCT : ¬ PySem.Str.ofString "cells" = PySem.Str.ofString "turn" := by decide
theorem tLT : ¬ PySem.Str.ofString "left" = PySem.Str.ofString "turn" := by decide
/-- the hand at h, what is left at a -/
def HandOk (h a : Nat) (st : Store) : Prop := h ≠ a ∧ ∃ (cs ls : List Int) (t : Int), st[h]? = some (.dic [sC, sL, sT] [.lst (cs.map .int), .ref a, .int t]) ∧ st[a]? = some (.lst (ls.map .int)) ∧ cs.length = ls.length
/-- but for the hand all stands as it stood -/
def Keep (h a : Nat) (st s : Store) : Prop := HandOk h a s ∧ st.length ≤ s.length ∧ ∀ i, i < st.length → i ≠ h → i ≠ a → s[i]? = st[i]?
theorem Keep.refl {h a : Nat} {st : Store} (k : HandOk h a st) : Keep h a st st := ⟨k, Nat.le_refl _, fun _ _ _ _ => rfl⟩
theorem Keep.trans {h a : Nat} {s1 s2 s3 : Store} (k1 : Keep h a s1 s2) (k2 : Keep h a s2 s3) : Keep h a s1 s3 :=
  ⟨k2.1, Nat.le_trans k1.2.1 k2.2.1, fun i hi h1 h2 => (k2.2.2 i (Nat.lt_of_lt_of_le hi k1.2.1) h1 h2).trans (k1.2.2 i hi h1 h2)⟩
theorem HandOk.lt {h a : Nat} {st : Store} (k : HandOk h a st) : h < st.length ∧ a < st.length := by
  obtain ⟨_, cs, ls, t, k1, k2, k3⟩ := k
  exact ⟨(List.getElem?_eq_some_iff.mp k1).1, (List.getElem?_eq_some_iff.mp k2).1⟩
theorem Keep.set {h a k : Nat} {c : D} {st s : Store} (q : Keep h a st s) (h1 : st.length ≤ k) (h2 : h < st.length ∧ a < st.length) : Keep h a st (s.set k c) := by
  obtain ⟨⟨g0, cs, ls, t, g1, g2, g3⟩, g4, g5⟩ := q
  refine ⟨⟨g0, cs, ls, t, ?_, ?_, g3⟩, by simpa using g4, fun i hi _ _ => ?_⟩
  · rw [List.getElem?_set_ne (by omega), g1]
  · rw [List.getElem?_set_ne (by omega), g2]
  · rw [List.getElem?_set_ne (by omega)]; exact g5 i hi (by assumption) (by assumption)
theorem Keep.app {h a : Nat} {c : List D} {st s : Store} (q : Keep h a st s) : Keep h a st (s ++ c) := by
  have hl := q.1.lt
  obtain ⟨⟨g0, cs, ls, t, g1, g2, g3⟩, g4, g5⟩ := q
  refine ⟨⟨g0, cs, ls, t, ?_, ?_, g3⟩, by simp; omega, fun i hi _ _ => ?_⟩
  · rw [List.getElem?_append_left hl.1, g1]
  · rw [List.getElem?_append_left hl.2, g2]
  · rw [List.getElem?_append_left (by omega)]; exact g5 i hi (by assumption) (by assumption)
theorem fmod_nat {x : Int} {m : Nat} (hm : 0 < m) : ∃ r : Nat, x.fmod m = r ∧ r < m := by
  have h1 : 0 ≤ x.fmod m := Int.fmod_nonneg_of_pos x (by omega)
  have h2 : x.fmod m < m := Int.fmod_lt_of_pos x (by omega)
  exact ⟨(x.fmod m).toNat, by omega, by omega⟩
theorem fmod_lit {x m : Int} (hm : 0 < m) : 0 ≤ x.fmod m ∧ x.fmod m < m := ⟨Int.fmod_nonneg_of_pos x hm, Int.fmod_lt_of_pos x hm⟩
theorem lim64_fmod {x m : Int} (h0 : 0 < m) (h : m < 2 ^ 64) : lim64 (x.fmod m) = true := by
  have := fmod_lit (x := x) h0
  unfold lim64
  exact decide_eq_true ⟨by omega, by omega⟩
theorem draw_s (n : Nat) {h a : Nat} {m : Nat} {st : Store} (hm : 0 < m ∧ m < 1000000) (k : HandOk h a st) : Rs (callD (Rr (n + 1)) F__law_draw [.ref h, .int m] st) (fun d s => ∃ r : Nat, r < m ∧ d = .int r ∧ Keep h a st s) noE := by
  obtain ⟨hne, cs, ls, t, k1, k2, k3⟩ := k
  have hl : h < st.length := (List.getElem?_eq_some_iff.mp k1).1
  have al : a < st.length := (List.getElem?_eq_some_iff.mp k2).1
  let st1 : Store := st.set h (.dic [sC, sL, sT] [.lst (cs.map .int), .ref a, .int (t + 1)])
  have q1 : st1[h]? = some (.dic [sC, sL, sT] [.lst (cs.map .int), .ref a, .int (t + 1)]) := by simp [st1, hl]
  have q2 : st1[a]? = some (.lst (ls.map .int)) := by simp [st1, hne, k2]
  have g : ∀ (s : Store) (c : D), s[h]? = some c → (∃ ks vs, c = .dic ks vs) → ∀ k, getIdx (.ref h) k s = getIdx c k s := fun s c hc hd k => by
    obtain ⟨ks, vs, rfl⟩ := hd
    unfold getIdx
    rw [cellOf_refS, hc]; rfl
  have kk : ∀ x, keyFor [sC, sL, sT] (.str x) = true := fun x => rfl
  have e1 : getIdx (.ref h) sT st = some (.int t) := by
    rw [g st _ k1 ⟨_, _, rfl⟩, getIdx_dic, if_pos (kk _), dget, if_neg sCT, dget, if_neg sLT, dget, if_pos rfl]
  have e2 : setIdx (.ref h) sT (.int (t + 1)) st = .ok () st1 := by
    unfold setIdx
    dsimp only
    rw [k1]
    dsimp only
    rw [kk, decide_eq_true (by simp [szLine])]
    simp [dputK, dputV, tCT, tLT, st1]
  have e3 : getIdx (.ref h) sC st1 = some (.lst (cs.map .int)) := by
    rw [g st1 _ q1 ⟨_, _, rfl⟩, getIdx_dic, if_pos (kk _), dget, if_pos rfl]
  have e4 : getIdx (.ref h) sL st1 = some (.ref a) := by
    rw [g st1 _ q1 ⟨_, _, rfl⟩, getIdx_dic, if_pos (kk _), dget, if_neg sCL, dget, if_pos rfl]
  have kp1 : Keep h a st st1 := ⟨⟨hne, cs, ls, t + 1, q1, q2, k3⟩, by simp [st1], fun i _ hi _ => by simp [st1, Ne.symm hi]⟩
  refine Rs_callI rfl (by simp) rfl ?_
  have l1 := fun x : Int => lim64_fmod (x := x) (m := 2147483563) (by decide) (by decide)
  have l2 := fun x : Int => lim64_fmod (x := x) (m := 2147483399) (by decide) (by decide)
  have l3 : lim64 40014 = true := rfl
  have l4 : lim64 52774 = true := rfl
  have l5 : lim64 40692 = true := rfl
  have hm0 : ¬ m = 0 := by omega
  simp [f__law_draw, e1, e2, e3, e4]
  split
  · rename_i hcs
    have hp : 0 < cs.length := by omega
    obtain ⟨j, hj, hjl⟩ := fmod_nat (x := t) hp
    have hc0 : (cs.length : Int) ≠ 0 := by omega
    simp [hj, hjl, show ¬ cs = [] by intro q; simp [q] at hp]
    have g2 : ∀ k, getIdx (.ref a) (.int k) st1 = getIdx (.lst (ls.map .int)) (.int k) st1 := fun k => by
      unfold getIdx
      rw [cellOf_refS, q2]; rfl
    have hjl2 : j < ls.length := by omega
    split
    · simp [g2, hjl2]
      split
      · simp [setIdx, q2, hjl2, show ¬ m = 0 by omega, show m < 1073741824 by omega]
        obtain ⟨r, h1, h2⟩ := fmod_nat (x := ls[j]) hm.1
        refine ⟨r, h2, h1, ⟨hne, cs, ls.set j (ls[j].fdiv m), t + 1, ?_, ?_, by simpa using k3⟩, by simp [st1], fun i _ hi1 hi2 => by simp [st1, Ne.symm hi1, Ne.symm hi2]⟩
        · rw [List.getElem?_set_ne (Ne.symm hne)]; exact q1
        · rw [List.getElem?_set_self (by simpa [st1] using al), List.map_set]
      · simp [l1, l2, l3, l4, l5, hm0]
        obtain ⟨r, h1, h2⟩ := fmod_nat (x := _) hm.1
        exact ⟨r, h2, h1, kp1⟩
    · simp [l1, l2, l3, l4, l5, hm0]
      obtain ⟨r, h1, h2⟩ := fmod_nat (x := _) hm.1
      exact ⟨r, h2, h1, kp1⟩
  · simp [l1, l2, l3, l4, l5, hm0]
    obtain ⟨r, h1, h2⟩ := fmod_nat (x := _) hm.1
    exact ⟨r, h2, h1, kp1⟩
end Tab
end
section
set_option linter.all false
set_option maxRecDepth 100000
namespace Tab
open Dn
/-- the bits of a code, n of them -/
def rowOf (n c : Nat) : List Nat := (List.range n).map fun j => c / 2 ^ (n - 1 - j) % 2
theorem rowOf_len {n c : Nat} : (rowOf n c).length = n := by simp [rowOf]
theorem rowOf_lt {n c : Nat} : ∀ b ∈ rowOf n c, b < 2 := by
  intro b hb
  obtain ⟨j, _, rfl⟩ := List.mem_map.mp hb
  exact Nat.mod_lt _ (by decide)
theorem rowOf_succ {n c : Nat} : rowOf (n + 1) c = rowOf n (c / 2) ++ [c % 2] := by
  unfold rowOf
  rw [List.range_succ, List.map_append]
  congr 1
  · refine List.map_congr_left fun j hj => ?_
    have hj : j < n := by simpa using hj
    rw [show n + 1 - 1 - j = (n - 1 - j) + 1 by omega, Nat.pow_succ, Nat.mul_comm, Nat.div_div_eq_div_mul]
  · simp
theorem lexlt_app {a b : Nat} : ∀ {xs ys : List Nat}, xs.length = ys.length → (lexlt (xs ++ [a]) (ys ++ [b]) = true ↔ lexlt xs ys = true ∨ xs = ys ∧ a < b)
  | [], [], _ => by simp [lexlt]; omega
  | [], _ :: _, h => by simp at h
  | _ :: _, [], h => by simp at h
  | x :: xs, y :: ys, h => by
    have ih := lexlt_app (a := a) (b := b) (xs := xs) (ys := ys) (by simpa using h)
    rw [List.cons_append, List.cons_append, lexlt, lexlt]
    by_cases e : x = y
    · rw [if_pos e, if_pos e, ih]; simp [e]
    · rw [if_neg e, if_neg e]; simp [e]
theorem rowOf_lexlt : ∀ (n : Nat) {c d : Nat}, c < d → d < 2 ^ n → lexlt (rowOf n c) (rowOf n d) = true
  | 0, c, d, h, h2 => by simp at h2; omega
  | n + 1, c, d, h, h2 => by
    rw [rowOf_succ, rowOf_succ, lexlt_app (by rw [rowOf_len, rowOf_len])]
    rw [Nat.pow_succ] at h2
    by_cases e : c / 2 = d / 2
    · right
      exact ⟨by rw [e], by omega⟩
    · left
      exact rowOf_lexlt n (by omega) (by omega)
theorem rows_rise {n : Nat} {p : Nat → Bool} : ((List.range (2 ^ n)).filter p |>.map (rowOf n)).Pairwise fun x y => lexlt x y = true := by
  refine List.pairwise_map.mpr ?_
  have h := (List.pairwise_lt_range (n := 2 ^ n)).filter p
  refine List.Pairwise.imp_of_mem ?_ h
  intro a b ha hb hab
  exact rowOf_lexlt n hab (by simpa using (List.mem_filter.mp hb).1)
theorem pow_cast (n : Nat) : (2:Int) ^ n = ((2 ^ n : Nat) : Int) := by push_cast; rfl
theorem law_row_s (n : Nat) {c k : Nat} (hk : k ≤ 1000) (st : Store) : callD (Rr (n + 1)) F__law_row [.int c, .int k] st = .ok (eRow (rowOf k c)) st := by
  refine Rs_eq (Rs_call rfl (by simp) rfl ?_)
  simp [f__law_row]
  refine Rs.of (lcN eN (List.range k) (fun j => eN (c / 2 ^ (k - 1 - j) % 2)) (by simp; omega) (by simp [rng_walk (show k ≤ 1000000 by omega)]) (fun j hj => ?_)) ?_
  · have hj : j < k := by simpa using hj
    have h1 : (0:Int) ≤ (k:Int) - 1 - j := by omega
    have h2 : ((k:Int) - 1 - j).toNat = k - 1 - j := by omega
    have h3 : bitAnd ((c:Int) / 2 ^ (k - 1 - j)) 1 = ((c / 2 ^ (k - 1 - j) % 2 : Nat) : Int) := by
      unfold bitAnd
      rw [PyProof.Rows.bitAnd_m1, pow_cast]
      push_cast; rfl
    have h4 : (j:Int) ≤ (k:Int) - 1 := by omega
    simp [eN_, h4, h2, h3]
  · simp [rowOf, eRow]
    exact frzP (purL_map fun _ => rfl)
theorem law_hand_s (n : Nat) {ns : List Int} (hn : ns.length ≤ 1000) : Rs (callS (Rr (n + 1)) F__law_hand [.lst (ns.map .int)] []) (fun d s => ∃ h a, d = .ref h ∧ HandOk h a s) noE := by
  refine Rs_callS rfl rfl ?_
  simp [f__law_hand]
  refine Rs.of (lcN D.int ns (fun i => .int (if i < 0 then -i else i)) (by omega) (by simp) (fun i hi => by simp)) ?_
  have hk : ∀ x y z, (kvsOf [sC, x, sL, y, sT, z]).bind dmk = some (.dic [sC, sL, sT] [x, y, z]) := fun _ _ _ => rfl
  simp [hk]
  refine ⟨0, by decide, ns.map (fun i => if i < 0 then -i else i), ns.map (fun i => if i < 0 then -i else i), 0, ?_, ?_, rfl⟩ <;> simp
/-! ### what the hand draws -/
/-- a draw: from s on -/
theorem Rs_draw {n : Nat} {h a m : Nat} {st s : Store} {Q : D → Store → Prop} {Er : Nat → List D → Store → Prop} (hk : Keep h a st s) (hm : 0 < m ∧ m < 1000000) (k : ∀ (r : Nat) (s1 : Store), r < m → Keep h a st s1 → Keep h a s s1 → Q (.int r) s1) : Rs (callD (Rr (n + 1)) F__law_draw [.ref h, .int m] s) Q Er := by
  refine (draw_s n hm hk.1).imp (fun d s1 hd => ?_) fun _ _ _ f => f.elim
  obtain ⟨r, h1, rfl, h2⟩ := hd
  exact k r s1 h1 (hk.trans h2) h2
theorem pick5 : ∀ r : Nat, ∀ h : r < 5, ∃ v : Nat, 1 ≤ v ∧ v ≤ 4 ∧ [D.int 1, .int 2, .int 2, .int 3, .int 4][r]'h = .int v
  | 0, _ => ⟨1, by decide, by decide, rfl⟩
  | 1, _ => ⟨2, by decide, by decide, rfl⟩
  | 2, _ => ⟨2, by decide, by decide, rfl⟩
  | 3, _ => ⟨3, by decide, by decide, rfl⟩
  | 4, _ => ⟨4, by decide, by decide, rfl⟩
theorem law_book_s (n : Nat) {h a m : Nat} {st : Store} (hk : HandOk h a st) (hm : 0 < m ∧ m ≤ 6) : Rs (callD (Rr (n + 2)) F__law_book [.ref h, .int m] st) (fun d s => ∃ b : List Rel, d = .ref st.length ∧ s[st.length]? = some (.lst (b.map eRel)) ∧ (∀ r ∈ b, RelOk r) ∧ 1 ≤ b.length ∧ b.length ≤ m ∧ Keep h a st s ∧ st.length < s.length) noE := by
  have hl : h < st.length := by
    obtain ⟨_, cs, ls, t, k1, k2, k3⟩ := hk
    exact (List.getElem?_eq_some_iff.mp k1).1
  have al : a < st.length := by
    obtain ⟨_, cs, ls, t, k1, k2, k3⟩ := hk
    exact (List.getElem?_eq_some_iff.mp k2).1
  have k0 : Keep h a st (st ++ [.lst []]) := by
    refine ⟨?_, by simp, fun i hi _ _ => List.getElem?_append_left hi⟩
    obtain ⟨h0, cs, ls, t, k1, k2, k3⟩ := hk
    exact ⟨h0, cs, ls, t, by rw [List.getElem?_append_left hl, k1], by rw [List.getElem?_append_left al, k2], k3⟩
  refine Rs_callI rfl (by simp) rfl ?_
  simp [f__law_book]
  rw [Fs_forE]
  simp
  refine Rs_draw k0 (m := m) (by omega) fun r0 s0 hr0 kk0 kd0 => ?_
  have hz := rng_walk (st := s0) (k := 1 + r0) (by omega)
  simp at hz
  simp [hz]
  refine forW_inv eN (List.range (1 + r0)) (fun done e s => ∃ (b : List Rel) (x3 x4 x5 x6 x7 : Option D), e = [some (.ref h), some (.int m), some (.ref st.length), x3, x4, x5, x6, x7] ∧ s[st.length]? = some (.lst (b.map eRel)) ∧ (∀ r ∈ b, RelOk r) ∧ b.length = done.length ∧ Keep h a st s ∧ st.length < s.length) ?_ (fun _ _ _ _ => rfl) ?_ ?_
  · refine ⟨[], _, _, _, _, _, rfl, ?_, by simp, rfl, kk0, ?_⟩
    · rw [kd0.2.2 _ (by simp) (by omega) (by omega)]; simp
    · have := kd0.2.1; simp at this; omega
  · rintro done j rest e s ho ⟨b, x3, x4, x5, x6, x7, rfl, g1, g2, g3, g4, g5⟩
    simp
    refine Rs_draw g4 (m := 5) (by decide) fun r1 s1 hr1 kk1 kd1 => ?_
    obtain ⟨v, hv1, hv2, hv⟩ := pick5 r1 hr1
    simp [hr1, hv]
    rw [Rs_lcE]
    simp
    refine Rs_draw kk1 (m := 4) (by decide) fun r2 s2 hr2 kk2 kd2 => ?_
    have hz2 := rng_walk (st := s2) (k := 1 + r2) (by omega)
    simp at hz2
    simp [hz2]
    have kd12 := kd1.trans kd2
    refine lcW_inv eN (List.range (1 + r2)) (by simp; omega) (fun done acc s => ∃ ps : List Nat, acc = ps.map eN ∧ ps.length = done.length ∧ (∀ p ∈ ps, p < 2 ^ v) ∧ Keep h a s2 s) ⟨[], rfl, rfl, by simp, Keep.refl kk2.1⟩ (fun _ _ _ _ => rfl) ?_ ?_ ?_
    · rintro done acc s ⟨ps, rfl, hp, _⟩
      simp [hp]
    · rintro done i rest acc s hi ⟨ps, rfl, hp1, hp2, hp3⟩
      have h2v : 2 ^ v ≤ 16 := Nat.pow_le_pow_right (n := 2) (by decide) (show v ≤ 4 from hv2)
      have h2p : 0 < 2 ^ v := Nat.pow_pos (by decide)
      simp
      rw [if_pos (by omega)]
      simp
      rw [pow_cast]
      refine Rs_draw hp3 (m := 2 ^ v) (by omega) fun r3 s3 hr3 kk3 kd3 => ?_
      refine ⟨ps ++ [r3], by simp [eN_], by simp [hp1], ?_, kk3⟩
      simp
      rintro p (hp | rfl)
      · exact hp2 p hp
      · exact hr3
    · rintro acc s3 ⟨ps, rfl, hp1, hp2, hp3⟩
      have kd13 := kd12.trans hp3
      have hk3 : s3[st.length]? = some (.lst (b.map eRel)) := by rw [kd13.2.2 _ g5 (by omega) (by omega), g1]
      have hbl : b.length ≤ 7 := by
        have := congrArg List.length ho
        simp at this
        omega
      have h2v : 2 ^ v ≤ 16 := Nat.pow_le_pow_right (n := 2) (by decide) (show v ≤ 4 from hv2)
      have hap := fun y => bmeth_append (y := y) hk3 (by simp; omega)
      simp [hk3]
      refine ⟨rfl, Rs.of (lcF eN (List.range (2 ^ v)) (fun c => decide (c ∈ ps)) (fun c => eRow (rowOf v c)) (by simp; omega) ?_ fun c hc => ?_) ?_⟩
      · simp
        rw [if_pos (by omega)]
        simp
        have := rng_walk (k := 2 ^ v) (st := s3) (by omega)
        simp at this
        simp [this]
      · refine ⟨_, rfl, ?_, ?_⟩
        · simp [eN_, in_ints]
        · simp [eN_, law_row_s n (show v ≤ 1000 by omega)]
      · simp [hap]
        have hl2 : 1 ≤ ps.length := by simp at hp1; omega
        refine ⟨b ++ [(v, ((List.range (2 ^ v)).filter (fun c => decide (c ∈ ps))).map (rowOf v))], ?_, ?_, by simp [g3], ?_, ?_⟩
        · rw [List.getElem?_set_self (by have := kd13.2.1; omega)]
          simp [eRel, eRows, eN_]
        · intro x y hxy
          rcases List.mem_append.mp hxy with q | q
          · exact g2 _ q
          · simp at q
            obtain ⟨rfl, rfl⟩ := q
            refine ⟨hv1, hv2, ?_, ?_, ?_, rows_rise⟩
            · obtain ⟨p, ps', rfl⟩ := List.exists_cons_of_length_pos hl2
              intro q
              have := List.map_eq_nil_iff.mp q
              rw [List.filter_eq_nil_iff] at this
              exact this p (by simpa using hp2 p (by simp)) (by simp)
            · rw [List.length_map]
              have := List.length_filter_le (fun c => decide (c ∈ ps)) (List.range (2 ^ x))
              rw [List.length_range] at this
              omega
            · intro row hrow
              obtain ⟨c, _, rfl⟩ := List.mem_map.mp hrow
              exact ⟨rowOf_len, rowOf_lt⟩
        · exact (g4.trans kd13).set (Nat.le_refl _) ⟨hl, al⟩
        · have := kd13.2.1; simp; omega
  · rintro e s ⟨b, x3, x4, x5, x6, x7, rfl, g1, g2, g3, g4, g5⟩
    simp at g3
    simp
    refine ⟨b, g1, fun x y hxy => g2 _ hxy, by omega, by omega, g4, g5⟩
end Tab
end
section
set_option linter.all false
set_option maxRecDepth 100000
namespace Tab
open Dn
theorem pick7 : ∀ r : Nat, ∀ h : r < 7, [D.int 0, .int 1, .int 2, .int 3, .int 4, .int 5, .int 6][r]'h = .int r
  | 0, _ => rfl
  | 1, _ => rfl
  | 2, _ => rfl
  | 3, _ => rfl
  | 4, _ => rfl
  | 5, _ => rfl
  | 6, _ => rfl
theorem Keep.same {h a i : Nat} {st s : Store} (q : Keep h a st s) (hi : i < st.length) (h1 : i ≠ h) (h2 : i ≠ a) {c : D} (e : st[i]? = some c) : s[i]? = some c := by rw [q.2.2 i hi h1 h2, e]
theorem len_ref {R : Run} {k : Nat} {xs : List D} {st : Store} (h : st[k]? = some (.lst xs)) : evBlt R .len [.ref k] st = .ok (.int xs.length) st := by
  unfold evBlt classOf
  dsimp only
  rw [cellOf_refS, h]
  show (match blt .len [.ref k] st with
    | some y => Res.ok y st
    | none => .stk) = _
  unfold blt
  dsimp only
  rw [cellOf_refS, h]; rfl
theorem tuple_ref {R : Run} {k : Nat} {xs : List D} {st : Store} (h : st[k]? = some (.lst xs)) : evBlt R .tuple [.ref k] st = .ok (.tup xs) st := by
  rw [blt_is (by simp)]
  unfold blt
  dsimp only
  rw [cellOf_refS, h]; rfl
theorem idx_ref {k : Nat} {xs : List D} {i : Int} {st : Store} (h : st[k]? = some (.lst xs)) : getIdx (.ref k) (.int i) st = (ix xs.length i).bind fun j => xs[j]? := by
  unfold getIdx
  rw [cellOf_refS, h]; rfl
theorem law_game_s (n : Nat) {h a k : Nat} {b : List Rel} {st : Store} (hk : HandOk h a st) (hb : st[k]? = some (.lst (b.map eRel))) (hkh : k ≠ h ∧ k ≠ a) (hb1 : 1 ≤ b.length ∧ b.length ≤ 6) (hb2 : ∀ r ∈ b, RelOk r) : Rs (callD (Rr (n + 2)) F__law_game [.ref h, .ref k] st) (fun d s => ∃ g : Game, d = eG g ∧ GameOk g ∧ g.1 = b ∧ g.2.1 ≤ 6 ∧ g.2.2.length ≤ 4 ∧ Keep h a st s) noE := by
  have hl := hk.lt
  have kl := (List.getElem?_eq_some_iff.mp hb).1
  refine Rs_callI rfl (by simp) rfl ?_
  simp [f__law_game]
  refine Rs_draw (Keep.refl hk) (m := 7) (by decide) fun v s1 hv kk1 kd1 => ?_
  simp [hv, pick7 v hv]
  have hb1' := kk1.same kl hkh.1 hkh.2 hb
  split
  · rename_i h0
    rw [Fs_forE]
    simp
    refine Rs_draw (Keep.app kk1) (m := 5) (by decide) fun r2 s2 hr2 kk2 kd2 => ?_
    simp [rng_walk (st := s2) (k := r2) (by omega)]
    have hs1 : s2[s1.length]? = some (.lst []) := kd2.same (by simp) (by have := kk1.1.lt; omega) (by have := kk1.1.lt; omega) (by simp)
    have hsl := kd2.2.1
    simp at hsl
    refine forW_inv eN (List.range r2) (fun done e s => ∃ (ts : List Tie) (x4 x5 x6 : Option D), e = [some (.ref h), some (.ref k), some (.int v), some (.ref s1.length), x4, x5, x6] ∧ s[s1.length]? = some (.lst (ts.map eTie)) ∧ (∀ t ∈ ts, TieOk b v t) ∧ ts.length = done.length ∧ Keep h a st s ∧ s1.length < s.length) ?_ (fun _ _ _ _ => rfl) ?_ ?_
    · exact ⟨[], _, _, _, rfl, hs1, by simp, rfl, kk2, by omega⟩
    · rintro done j rest e s ho ⟨ts, x4, x5, x6, rfl, g1, g2, g3, g4, g5⟩
      have hbs := g4.same kl hkh.1 hkh.2 hb
      simp [len_ref hbs]
      refine Rs_draw g4 (m := b.length) (by omega) fun r s3 hr kk3 kd3 => ?_
      have hbs3 := kk3.same kl hkh.1 hkh.2 hb
      have g13 := kd3.same g5 (by have := kk1.1.lt; omega) (by have := kk1.1.lt; omega) g1
      have hr0 : RelOk b[r] := hb2 _ (List.getElem_mem hr)
      simp [g13]
      refine ⟨rfl, ?_⟩
      rw [Rs_lcE]
      simp [idx_ref hbs3, hr, eRel, eN_]
      have hw := rng_walk (st := s3) (k := b[r].1) (by have := hr0.2.1; omega)
      simp [hw]
      have hrl := hr0.2.1
      refine lcW_inv eN (List.range b[r].1) (by simp; omega) (fun done acc s => ∃ cs : List Nat, acc = cs.map eN ∧ cs.length = done.length ∧ (∀ c ∈ cs, c < v) ∧ Keep h a s3 s) ⟨[], rfl, rfl, by simp, Keep.refl kk3.1⟩ (fun _ _ _ _ => rfl) ?_ ?_ ?_
      · rintro done acc s ⟨ps, rfl, hp, _⟩
        simp [hp]
      · rintro done i rest acc s hi ⟨ps, rfl, hp1, hp2, hp3⟩
        simp
        refine Rs_draw hp3 (m := v) (by omega) fun r4 s4 hr4 kk4 kd4 => ?_
        refine ⟨ps ++ [r4], by simp [eN_], by simp [hp1], ?_, kk4⟩
        simp
        rintro p (hp | rfl)
        · exact hp2 p hp
        · exact hr4
      · rintro acc s4 ⟨cs, rfl, hc1, hc2, hc3⟩
        have kd4 := kd3.trans hc3
        have g14 := kd4.same g5 (by have := kk1.1.lt; omega) (by have := kk1.1.lt; omega) g1
        have htl : ts.length ≤ 5 := by
          have := congrArg List.length ho
          simp at this
          omega
        simp [bmeth_append g14 (by simp; omega)]
        refine ⟨ts ++ [(r, cs)], ?_, ?_, by simp [g3], (g4.trans kd4).set kk1.2.1 hl, by have := kd4.2.1; omega⟩
        · rw [List.getElem?_set_self (by have := kd4.2.1; omega)]
          simp [eTie, eRow, eN_]
        · intro x y hxy
          rcases List.mem_append.mp hxy with q | q
          · exact g2 _ q
          · simp at q
            obtain ⟨rfl, rfl⟩ := q
            exact ⟨b[x], List.getElem?_eq_getElem hr, by simpa using hc1, hc2⟩
    · rintro e s ⟨ts, x4, x5, x6, rfl, g1, g2, g3, g4, g5⟩
      have hbs := g4.same kl hkh.1 hkh.2 hb
      simp at g3
      simp [tuple_ref hbs, tuple_ref g1]
      exact ⟨b, v, ts, rfl, ⟨hb1.1, hb1.2, hb2, by dsimp only; omega, by dsimp only; omega, g2⟩, rfl, by omega, by omega, g4⟩
  · rename_i h0
    have hbs : (s1 ++ [D.lst []])[k]? = some (.lst (b.map eRel)) := by rw [List.getElem?_append_left (by have := kk1.2.1; omega)]; exact hb1'
    simp [tuple_ref hbs, tuple_ref (st := s1 ++ [D.lst []]) (k := s1.length) (xs := []) (by simp)]
    exact ⟨b, v, [], rfl, ⟨hb1.1, hb1.2, hb2, by dsimp only; omega, by simp, by simp⟩, rfl, by omega, by simp, kk1.app⟩
/-! ### pairs -/
abbrev Prs := List (Nat × Nat)
def ePair (p : Nat × Nat) : D := .tup [eN p.1, eN p.2]
def ePrs (ps : Prs) : D := .tup (ps.map ePair)
@[simp] theorem pur_ePair {p : Nat × Nat} : (ePair p).pur = true := rfl
@[simp] theorem pur_ePrs {ps : Prs} : (ePrs ps).pur = true := purL_map fun _ => rfl
def PrsOk (ps : Prs) (m : Nat) : Prop := ps.length ≤ 5 ∧ ∀ p ∈ ps, p.1 < m ∧ p.2 < m
theorem ix_m1 {n : Nat} (h : 0 < n) : ix n (-1) = some (n - 1) := by
  unfold ix
  rw [if_neg (by omega), if_pos (by omega)]
  congr 1; omega
theorem law_pairs_s (n : Nat) {h a m : Nat} {st : Store} (hk : HandOk h a st) (hm : m ≤ 1000) : Rs (callD (Rr (n + 2)) F__law_pairs [.ref h, .int m] st) (fun d s => ∃ ps : Prs, d = ePrs ps ∧ PrsOk ps m ∧ Keep h a st s) noE := by
  have hl := hk.lt
  refine Rs_callI rfl (by simp) rfl ?_
  simp [f__law_pairs]
  split
  · rename_i h0
    rw [Fs_forE]
    simp
    refine Rs_draw ((Keep.refl hk).app) (m := 6) (by decide) fun r2 s2 hr2 kk2 kd2 => ?_
    simp [rng_walk (st := s2) (k := r2) (by omega)]
    have hs1 : s2[st.length]? = some (.lst []) := kd2.same (by simp) (by omega) (by omega) (by simp)
    have hsl := kd2.2.1
    simp at hsl
    refine forW_inv eN (List.range r2) (fun done e s => ∃ (ts : Prs) (x3 x4 : Option D), e = [some (.ref h), some (.int m), some (.ref st.length), x3, x4] ∧ s[st.length]? = some (.lst (ts.map ePair)) ∧ (∀ p ∈ ts, p.1 < m ∧ p.2 < m) ∧ ts.length = done.length ∧ Keep h a st s ∧ st.length < s.length) ?_ (fun _ _ _ _ => rfl) ?_ ?_
    · exact ⟨[], _, _, rfl, hs1, by simp, rfl, kk2, by omega⟩
    · rintro done j rest e s ho ⟨ts, x3, x4, rfl, g1, g2, g3, g4, g5⟩
      have htl : ts.length ≤ 6 := by
        have := congrArg List.length ho
        simp at this
        omega
      -- the rest of a round, from a first cell on
      have fin : ∀ (one r4 : Nat) (s4 : Store), one < m → r4 < m → Keep h a s s4 → ∃ (ts' : Prs), (s4.set st.length (.lst (ts.map ePair ++ [.tup [.int one, .int r4]])))[st.length]? = some (.lst (ts'.map ePair)) ∧ (∀ x y, (x, y) ∈ ts' → x < m ∧ y < m) ∧ ts'.length = done.length + 1 ∧ Keep h a st (s4.set st.length (.lst (ts.map ePair ++ [.tup [.int one, .int r4]]))) ∧ st.length < s4.length := by
        intro one r4 s4 ho1 hr4 kd34
        refine ⟨ts ++ [(one, r4)], ?_, ?_, by simp [g3], (g4.trans kd34).set (Nat.le_refl _) hl, by have := kd34.2.1; omega⟩
        · rw [List.getElem?_set_self (by have := kd34.2.1; omega)]
          simp [ePair, eN_]
        · intro x y hxy
          rcases List.mem_append.mp hxy with q | q
          · exact g2 _ q
          · simp at q
            obtain ⟨rfl, rfl⟩ := q
            exact ⟨ho1, hr4⟩
      simp
      refine Rs_draw g4 (m := m) (by omega) fun r3 s3 hr3 kk3 kd3 => ?_
      have g13 := kd3.same g5 (by omega) (by omega) g1
      simp [len_ref g13]
      split
      · rename_i hts
        refine Rs_draw kk3 (m := 2) (by decide) fun r5 s5 hr5 kk5 kd5 => ?_
        have kd35 := kd3.trans kd5
        have g15 := kd35.same g5 (by omega) (by omega) g1
        simp
        split
        · have hlt : ts.length - 1 < ts.length := by omega
          have hidx := idx_ref (i := -1) g15
          rw [List.length_map, ix_m1 (by omega)] at hidx
          simp [hlt] at hidx
          simp [hidx, ePair, eN_, g15]
          refine ⟨rfl, Rs_draw (g4.trans kd35) (m := m) (by omega) fun r4 s4 hr4 kk4 kd4 => ?_⟩
          have kd34 := kd35.trans kd4
          have g14 := kd34.same g5 (by omega) (by omega) g1
          simp [bmeth_append g14 (show (ts.map ePair).length ≤ 1000000 by simp; omega)]
          exact fin _ r4 s4 (g2 _ (List.getElem_mem hlt)).2 hr4 kd34
        · simp [g15]
          refine ⟨rfl, Rs_draw (g4.trans kd35) (m := m) (by omega) fun r4 s4 hr4 kk4 kd4 => ?_⟩
          have kd34 := kd35.trans kd4
          have g14 := kd34.same g5 (by omega) (by omega) g1
          simp [bmeth_append g14 (show (ts.map ePair).length ≤ 1000000 by simp; omega)]
          exact fin _ r4 s4 hr3 hr4 kd34
      · simp [g13]
        refine ⟨rfl, Rs_draw (g4.trans kd3) (m := m) (by omega) fun r4 s4 hr4 kk4 kd4 => ?_⟩
        have kd34 := kd3.trans kd4
        have g14 := kd34.same g5 (by omega) (by omega) g1
        simp [bmeth_append g14 (show (ts.map ePair).length ≤ 1000000 by simp; omega)]
        exact fin _ r4 s4 hr3 hr4 kd34
    · rintro e s ⟨ts, x3, x4, rfl, g1, g2, g3, g4, g5⟩
      simp at g3
      simp [tuple_ref g1]
      exact ⟨ts, rfl, ⟨by omega, g2⟩, g4⟩
  · rename_i h0
    simp [tuple_ref (st := st ++ [D.lst []]) (k := st.length) (xs := []) (by simp)]
    exact ⟨[], rfl, ⟨by simp, by simp⟩, (Keep.refl hk).app⟩
end Tab
end
section
set_option linter.all false
set_option maxRecDepth 100000
namespace Tab
open Dn
/-- one pair told: the higher of two heads gives way -/
def stepN (ns : List Nat) (p : Nat × Nat) : List Nat := ns.map fun n => if n = max (ns.getD p.1 0) (ns.getD p.2 0) then min (ns.getD p.1 0) (ns.getD p.2 0) else n
def firsts (m : Nat) (ps : Prs) : List Nat := ps.foldl stepN (List.range m)
def heads (m : Nat) (ps : Prs) : List Nat := (List.range m).filter fun c => decide ((firsts m ps).getD c 0 = c)
def classes (m : Nat) (ps : Prs) : List Nat := (firsts m ps).map fun f => (heads m ps).idxOf f
def NsOk (m : Nat) (ns : List Nat) : Prop := ns.length = m ∧ ∀ c, c < m → ns.getD c 0 < m ∧ ns.getD (ns.getD c 0) 0 = ns.getD c 0
theorem getD_map {f : Nat → Nat} {ns : List Nat} {i : Nat} (h : i < ns.length) : (ns.map f).getD i 0 = f (ns.getD i 0) := by
  simp [h]
theorem stepN_ok {m : Nat} {ns : List Nat} {p : Nat × Nat} (h : NsOk m ns) (hp : p.1 < m ∧ p.2 < m) : NsOk m (stepN ns p) := by
  obtain ⟨hl, h2⟩ := h
  refine ⟨by simp [stepN, hl], fun c hc => ?_⟩
  have hx := h2 _ hp.1
  have hy := h2 _ hp.2
  have hcc := h2 c hc
  unfold stepN
  generalize hX : ns.getD p.1 0 = x at *
  generalize hY : ns.getD p.2 0 = y at *
  rw [getD_map (by omega)]
  generalize hZ : ns.getD c 0 = z at *
  by_cases e : z = max x y
  · rw [if_pos e]
    have hm : min x y < m := by omega
    rw [getD_map (by omega)]
    have : ns.getD (min x y) 0 = min x y := by
      rcases Nat.le_total x y with q | q
      · rw [Nat.min_eq_left q]; exact hx.2
      · rw [Nat.min_eq_right q]; exact hy.2
    rw [this]
    refine ⟨hm, ?_⟩
    split <;> omega
  · rw [if_neg e, getD_map (by omega), hcc.2, if_neg e]
    exact ⟨hcc.1, rfl⟩
theorem NsOk.range (m : Nat) : NsOk m (List.range m) := by
  refine ⟨by simp, fun c hc => ?_⟩
  simp [hc]
theorem foldl_ok {m : Nat} : ∀ {ps : Prs} {ns : List Nat}, NsOk m ns → (∀ p ∈ ps, p.1 < m ∧ p.2 < m) → NsOk m (ps.foldl stepN ns)
  | [], ns, h, _ => h
  | p :: ps, ns, h, hp => by
    rw [List.foldl_cons]
    exact foldl_ok (stepN_ok h (hp p (by simp))) fun q hq => hp q (by simp [hq])
theorem firsts_ok {m : Nat} {ps : Prs} (h : PrsOk ps m) : NsOk m (firsts m ps) := foldl_ok (NsOk.range m) h.2
theorem firsts_head {m : Nat} {ps : Prs} (h : PrsOk ps m) {f : Nat} (hf : f ∈ firsts m ps) : f ∈ heads m ps := by
  have hk := firsts_ok h
  obtain ⟨c, hc, e⟩ := List.getElem_of_mem hf
  have hcm : c < m := by rw [← hk.1]; exact hc
  have e2 : (firsts m ps).getD c 0 = f := by simp [hc, e]
  have := hk.2 c hcm
  rw [e2] at this
  simp only [heads, List.mem_filter, List.mem_range, decide_eq_true_eq]
  exact this
theorem classes_s (n : Nat) {m : Nat} {ps : Prs} (hm : m ≤ 1000) (h : PrsOk ps m) (st : Store) : callD (Rr (n + 1)) F__law_classes [.int m, ePrs ps] st = .ok (.lst ((classes m ps).map eN)) st := by
  have hk := firsts_ok h
  refine Rs_eq (Rs_call rfl (by simp) rfl ?_)
  simp [f__law_classes]
  refine Rs.of (lcN eN (List.range m) eN (by simp; omega) (by simp [rng_walk (show m ≤ 1000000 by omega)]) (fun j hj => by simp)) ?_
  simp
  refine Fs_forFold ePair ps stepN (List.range m) (fun c (o : Option D × Option D × Option D × Option D × Option D × Option D × Option D) => [some (.int m), some (ePrs ps), some (.lst (c.map eN)), o.1, o.2.1, o.2.2.1, o.2.2.2.1, o.2.2.2.2.1, o.2.2.2.2.2.1, o.2.2.2.2.2.2]) (fun _ => []) ?_ ⟨(none, none, none, none, none, none, none), rfl⟩ rfl ?_ ?_
  · simp [ePrs]; rfl
  · rintro done p rest hps o c hc
    have hok : NsOk m c := by
      subst hc
      exact foldl_ok (NsOk.range m) fun q hq => h.2 q (by rw [hps]; simp [hq])
    have hp := h.2 p (by rw [hps]; simp)
    simp [ePair, eN_, getIdx_ints, hok.1, hp.1, hp.2]
    have hcl : c.length ≤ 1000000 := by rw [hok.1]; omega
    refine Rs.of (lcN eN c (fun q => eN (if q = max (c.getD p.1 0) (c.getD p.2 0) then min (c.getD p.1 0) (c.getD p.2 0) else q)) hcl (by simp) (fun q hq => ?_)) ?_
    · by_cases e : q = max (c.getD p.1 0) (c.getD p.2 0)
      · rw [if_pos e]
        simp [hok.1, hp.1, hp.2] at e
        simp [eN_, e, hok.1, hp.1, hp.2]
      · rw [if_neg e]
        have e' : ¬ ((q : Int) = ((max (c.getD p.1 0) (c.getD p.2 0) : Nat) : Int)) := by omega
        simp [hok.1, hp.1, hp.2] at e e'
        simp [eN_, e, e', hok.1, hp.1, hp.2]
    · simp [stepN]
  · intro o
    simp
    have hf : ps.foldl stepN (List.range m) = firsts m ps := rfl
    rw [hf]
    refine Rs.of (lcF eN (List.range m) (fun c => decide ((firsts m ps).getD c 0 = c)) eN (by simp; omega) (by simp [rng_walk (show m ≤ 1000000 by omega)]) (fun j hj => ?_)) ?_
    · have hj : j < m := by simpa using hj
      simp [eN_, getIdx_ints, hk.1, hj]
      split <;> omega
    · have hh : (List.range m).filter (fun c => decide ((firsts m ps).getD c 0 = c)) = heads m ps := rfl
      rw [hh]
      simp
      have hfl : (firsts m ps).length ≤ 1000000 := by rw [hk.1]; omega
      refine Rs.of (lcN eN (firsts m ps) (fun f => eN ((heads m ps).idxOf f)) hfl (by simp) (fun f hf => ?_)) ?_
      · have := bmeth_index (st := []) (firsts_head h hf)
        simp [eN_, this]
        rfl
      · simp
        have hz := frzP (d := D.lst ((firsts m ps).map fun f => eN ((heads m ps).idxOf f))) (st := []) (n := frzN) (purL_map fun _ => rfl)
        refine hz.trans ?_
        rw [classes, List.map_map]; rfl
end Tab
end
section
set_option linter.all false
set_option maxRecDepth 100000
namespace Tab
open Dn
theorem first_cells_s (n : Nat) {m : Nat} {ps : Prs} (hm : m ≤ 1000) (h : PrsOk ps m) (st : Store) : callD (Rr (n + 1)) F_first_cells [.int m, ePrs ps] st = .ok (.lst ((firsts m ps).map eN)) st := by
  have hk := firsts_ok h
  refine Rs_eq (Rs_call rfl (by simp) rfl ?_)
  have hr : rangeL 0 (m : Int) = (List.range m).map eN := rangeL_nat
  simp [f_first_cells, small62_nat (show m < 2 ^ 62 by omega), sz_le (show m ≤ 1000000 by omega), hr]
  refine Fs_forFold ePair ps stepN (List.range m) (fun c (o : Option D × Option D × Option D × Option D × Option D) => [some (.int m), some (ePrs ps), some (.lst (c.map eN)), o.1, o.2.1, o.2.2.1, o.2.2.2.1, o.2.2.2.2]) (fun _ => []) ?_ ⟨(none, none, none, none, none), rfl⟩ rfl ?_ ?_
  · simp [ePrs]; rfl
  · rintro done p rest hps o c hc
    have hok : NsOk m c := by
      subst hc
      exact foldl_ok (NsOk.range m) fun q hq => h.2 q (by rw [hps]; simp [hq])
    have hp := h.2 p (by rw [hps]; simp)
    simp [ePair, eN_, getIdx_ints, hok.1, hp.1, hp.2]
    have hcl : c.length ≤ 1000000 := by rw [hok.1]; omega
    refine Rs.of (lcN eN c (fun q => eN (if q = max (c.getD p.1 0) (c.getD p.2 0) then min (c.getD p.1 0) (c.getD p.2 0) else q)) hcl (by simp) (fun q hq => ?_)) ?_
    · by_cases e : q = max (c.getD p.1 0) (c.getD p.2 0)
      · rw [if_pos e]
        simp [hok.1, hp.1, hp.2] at e
        simp [eN_, e, hok.1, hp.1, hp.2]
      · rw [if_neg e]
        have e' : ¬ ((q : Int) = ((max (c.getD p.1 0) (c.getD p.2 0) : Nat) : Int)) := by omega
        simp [hok.1, hp.1, hp.2] at e e'
        simp [eN_, e, e', hok.1, hp.1, hp.2]
    · simp [stepN]
  · intro o
    simp
    exact frzP (purL_map fun _ => rfl)
def arePairs (v : D) (m : Int) : Bool := match v with
  | .tup xs => xs.all fun x => areCells x 2 m
  | _ => false
theorem oPuz_cells {g : Game} {s : Store} : getAtr tb (oPuz g) A_cell_count s = some (eN g.2.1) := fgetO (st := s) (d := oPuz g) rfl rfl rfl rfl
theorem oPuz_ties {g : Game} {s : Store} : getAtr tb (oPuz g) A_ties s = some (eTies g.2.2) := fgetO (st := s) (d := oPuz g) rfl rfl rfl rfl
theorem oPuz_book {g : Game} {s : Store} : getAtr tb (oPuz g) A_book s = some (oBook g.1) := fgetO (st := s) (d := oPuz g) rfl rfl rfl rfl
theorem oBook_rels {b : List Rel} {s : Store} : getAtr tb (oBook b) A_relations s = some (.tup (b.map oRel)) := fgetO (st := s) (d := oBook b) rfl rfl rfl rfl
theorem are_cell_pairs_s (n : Nat) {g : Game} {v : D} (hv : v.dat 60 = true) (hl : ∀ xs, v = .tup xs → xs.length ≤ 1000000) (st : Store) : callD (Rr (n + 3)) F_are_cell_pairs [oPuz g, v] st = .ok (.bl (arePairs v g.2.1)) st := by
  refine Rs_eq (Rs_call rfl (by simp [dat_pur _ _ hv]) rfl ?_)
  cases v <;> simp [f_are_cell_pairs, arePairs] at hv ⊢
  rename_i xs
  refine Rs.of (lcN id xs (fun x => .bl (areCells x 2 g.2.1)) (hl _ rfl) (by simp) (fun x hx => ?_)) ?_
  · have := dat_up 59 60 x (by omega) (dat_of hv hx)
    simp [oPuz_cells, eN_, are_cells_s n 2 g.2.1 this]
  · simp
    refine Rs.of blt_all ?_
    simp
theorem arePairs_ok {ps : Prs} {m : Nat} (h : PrsOk ps m) : arePairs (ePrs ps) m = true := by
  simp [arePairs, ePrs, ePair, areCells, eN_]
  intro a b hab
  have := h.2 _ hab
  simp at this
  omega
end Tab
end
section
set_option linter.all false
set_option maxRecDepth 100000
namespace Tab
open Dn
theorem range_split {n i : Nat} {done rest : List Nat} (h : List.range n = done ++ i :: rest) : i = done.length ∧ done.length < n := by
  have h1 := congrArg List.length h
  simp at h1
  have h2 : (List.range n)[done.length]? = some i := by rw [h]; simp
  rw [List.getElem?_range (by omega)] at h2
  exact ⟨by have := Option.some.inj h2; omega, by omega⟩
def mTie (m : Nat) (ps : Prs) (t : Tie) : Tie := (t.1, t.2.map fun c => (heads m ps).idxOf ((firsts m ps).getD c 0))
def mGame (g : Game) (ps : Prs) : Game := (g.1, (heads g.2.1 ps).length, g.2.2.map (mTie g.2.1 ps))
theorem heads_le {m : Nat} {ps : Prs} : (heads m ps).length ≤ m := by
  have := List.length_filter_le (fun c => decide ((firsts m ps).getD c 0 = c)) (List.range m)
  rw [List.length_range] at this
  exact this
theorem heads_nodup {m : Nat} {ps : Prs} : (heads m ps).Nodup := List.nodup_range.filter _
theorem firsts_mem {m : Nat} {ps : Prs} (h : PrsOk ps m) {c : Nat} (hc : c < m) : (firsts m ps).getD c 0 ∈ heads m ps := by
  have hk := firsts_ok h
  refine firsts_head h ?_
  have : c < (firsts m ps).length := by rw [hk.1]; exact hc
  simp [this]
theorem mGame_ok {g : Game} {ps : Prs} (hg : GameOk g) (h : PrsOk ps g.2.1) : GameOk (mGame g ps) := by
  obtain ⟨h1, h2, h3, h4, h5, h6⟩ := hg
  refine ⟨h1, h2, h3, Nat.le_trans heads_le h4, by simpa [mGame] using h5, fun t ht => ?_⟩
  obtain ⟨t0, ht0, rfl⟩ := List.mem_map.mp ht
  obtain ⟨r, hr, hl, hc⟩ := h6 t0 ht0
  refine ⟨r, hr, by simpa [mTie] using hl, fun c hcm => ?_⟩
  obtain ⟨c0, hc0, rfl⟩ := List.mem_map.mp hcm
  exact List.idxOf_lt_length_of_mem (firsts_mem h (hc c0 hc0))
theorem merged_bad (n : Nat) {g : Game} {v : D} (hv : v.dat 60 = true) (hl : ∀ xs, v = .tup xs → xs.length ≤ 1000000) (hb : arePairs v g.2.1 = false) (st : Store) : callD (Rr (n + 4)) F_merged [oPuz g, v] st = .exc C_InvalidNumber [v] st := by
  have hp := dat_pur _ _ hv
  have key : Rs (callD (Rr (n + 4)) F_merged [oPuz g, v] st) (fun _ _ => False) (fun c vs s => c = C_InvalidNumber ∧ vs = [v] ∧ s = st) := by
    refine Rs_call rfl (by simp [hp]) rfl ?_
    simp [f_merged, are_cell_pairs_s n hv hl, hb, frzP hp]
  cases e : callD (Rr (n + 4)) F_merged [oPuz g, v] st with
  | ok d s => rw [e] at key; simp at key
  | exc c vs s => rw [e] at key; simp at key; obtain ⟨rfl, rfl, rfl⟩ := key; rfl
  | stk => rw [e] at key; simp at key
theorem merged_s (n : Nat) {g : Game} {ps : Prs} (hg : GameOk g) (h : PrsOk ps g.2.1) (st : Store) : callD (Rr (n + 5)) F_merged [oPuz g, ePrs ps] st = .ok (oPuz (mGame g ps)) st := by
  have hd : (ePrs ps).dat 60 = true := by
    simp [ePrs, datL_all, ePair, eN_]
  have hk := firsts_ok h
  have hm := hg.2.2.2.1
  have hlen : ∀ xs, ePrs ps = .tup xs → xs.length ≤ 1000000 := by
    intro xs e
    have := D.tup.inj e
    subst this
    have := h.1
    simp; omega
  refine Rs_eq (Rs_call rfl (by simp) rfl ?_)
  have hfc := fun s => first_cells_s (n + 3) (show g.2.1 ≤ 1000 by omega) h s
  simp [f_merged, are_cell_pairs_s (n + 1) hd hlen, arePairs_ok h, oPuz_cells, eN_, hfc]
  have hfl : (firsts g.2.1 ps).length = g.2.1 := hk.1
  refine Rs.of (lcF (fun (c : Nat) => D.tup [.int (c : Int), eN ((firsts g.2.1 ps).getD c 0)]) (List.range g.2.1) (fun c => decide ((firsts g.2.1 ps).getD c 0 = c)) eN (by simp; omega) (by simp [itemsOf, enumL_ints, hfl]) (fun c hc => ?_)) ?_
  · have hc : c < g.2.1 := by simpa using hc
    simp [eN_]
    split <;> omega
  · have hh : (List.range g.2.1).filter (fun c => decide ((firsts g.2.1 ps).getD c 0 = c)) = heads g.2.1 ps := rfl
    rw [hh]
    have hhl := heads_le (m := g.2.1) (ps := ps)
    simp
    refine Rs_dc (fun (i : Nat) => D.tup [.int (i : Int), eN ((heads g.2.1 ps).getD i 0)]) (List.range (heads g.2.1 ps).length) (fun done d => d = .dic (((heads g.2.1 ps).take done.length).map eN) ((List.range' 0 done.length).map eN)) ?_
    simp [itemsOf, enumL_ints]
    refine ⟨fun done i rest hi => ?_, ?_⟩
    · obtain ⟨rfl, hil⟩ := range_split hi
      simp [hil]
      have hni : (heads g.2.1 ps)[done.length] ∉ (heads g.2.1 ps).take done.length := by
        have hs : (heads g.2.1 ps).take done.length ++ (heads g.2.1 ps)[done.length] :: (heads g.2.1 ps).drop (done.length + 1) = heads g.2.1 ps := by simp
        have hn := heads_nodup (m := g.2.1) (ps := ps)
        rw [← hs, List.nodup_append] at hn
        intro q
        exact hn.2.2 _ q _ List.mem_cons_self rfl
      have hni' : eN (heads g.2.1 ps)[done.length] ∉ List.take done.length ((heads g.2.1 ps).map eN) := by
        rw [← List.map_take]; exact notin_ints hni
      rw [putKV_new hni' (keyFor_same (b := false) rfl rfl (fun x hx => by
        rw [← List.map_take] at hx
        obtain ⟨c, _, rfl⟩ := List.mem_map.mp hx
        rfl)) (by simp; omega) (by simp [szLine]; omega)]
      simp only [Rs_ok, true_and]
      rw [show (done ++ [done.length]).length = done.length + 1 by simp, List.map_take, List.take_succ, List.getElem?_map, List.getElem?_eq_getElem hil, List.range'_1_concat]
      simp [eN_]
    · have hti := mGame_ok hg h
      have hdi : ∀ f, f ∈ heads g.2.1 ps → getIdx (.dic ((heads g.2.1 ps).map eN) ((List.range' 0 (heads g.2.1 ps).length).map eN)) (.int (f : Int)) [] = some (eN ((heads g.2.1 ps).idxOf f)) := by
        intro f hf
        rw [getIdx_dic, if_pos (keyFor_same (b := false) rfl rfl (fun x hx => by
          obtain ⟨c, _, rfl⟩ := List.mem_map.mp hx
          rfl))]
        have := dget_ints (k := 0) hf
        rw [Nat.zero_add] at this
        exact this
      have h2l := hg.2.2.2.2.1
      refine Rs.of (lcN eTie g.2.2 (fun t => eTie (mTie g.2.1 ps t)) (by omega) (by simp [oPuz_ties, eTies]) (fun t ht => ?_)) ?_
      · obtain ⟨r, hr, hl, hc⟩ := hg.2.2.2.2.2 t ht
        have hrr := (hg.2.2.1 r (List.mem_of_getElem? hr)).2.1
        simp [eTie]
        refine Rs.of (lcN eN t.2 (fun c => eN ((heads g.2.1 ps).idxOf ((firsts g.2.1 ps).getD c 0))) (by omega) (by simp [eRow]) (fun c hcm => ?_)) ?_
        · have hcl := hc c hcm
          have hfm := firsts_mem h hcl
          have hdd := hdi _ hfm
          simp [eN_, getIdx_ints, hfl, hcl]
          simp [eN_, hfl, hcl] at hdd
          simp [hdd, hfl, hcl]
        · simp [mTie, eRow]
      · simp [oPuz_book]
        have hmk := mkPuz_s n (d := oBook g.1) (b := g.1) (m := (heads g.2.1 ps).length) (ts := (mGame g ps).2.2) (v := .lst (g.2.2.map fun t => eTie (mTie g.2.1 ps t))) (st := []) BookAt.obj (by have := hg.2.1; omega) hti.2.2.2.2.2 (.inl (by rw [mGame, List.map_map]; rfl))
        simp at hmk
        simp [hmk]
        refine (frz_ref (n := 39) (st := [D.obj C_Puzzle [A_book, A_cell_count, A_ties] [oBook g.1, .int (heads g.2.1 ps).length, eTies (mGame g ps).2.2]]) (k := 0) rfl).trans ?_
        exact frzP (by simp)
end Tab
end
section
set_option linter.all false
set_option maxRecDepth 100000
namespace Tab
open Dn
def vTie (b m : Nat) (t : Tie) : Tie := (b + t.1, t.2.map fun c => m + c)
def bGame (g k : Game) : Game := (g.1 ++ k.1, g.2.1 + k.2.1, g.2.2 ++ k.2.2.map (vTie g.1.length g.2.1))
theorem TieOk.left {b b2 : List Rel} {m m2 : Nat} {t : Tie} (h : TieOk b m t) : TieOk (b ++ b2) (m + m2) t := by
  obtain ⟨r, h1, h2, h3⟩ := h
  refine ⟨r, ?_, h2, fun c hc => by have := h3 c hc; omega⟩
  rw [List.getElem?_append_left (List.getElem?_eq_some_iff.mp h1).1]; exact h1
theorem TieOk.right {b b2 : List Rel} {m m2 : Nat} {t : Tie} (h : TieOk b2 m2 t) : TieOk (b ++ b2) (m + m2) (vTie b.length m t) := by
  obtain ⟨r, h1, h2, h3⟩ := h
  refine ⟨r, ?_, by simpa [vTie] using h2, fun c hc => ?_⟩
  · show (b ++ b2)[b.length + t.1]? = some r
    rw [List.getElem?_append_right (by omega), Nat.add_sub_cancel_left]; exact h1
  · obtain ⟨c0, hc0, rfl⟩ := List.mem_map.mp hc
    have := h3 c0 hc0
    show m + c0 < m + m2
    omega
theorem bGame_ties {g k : Game} (hg : GameOk g) (hk : GameOk k) : ∀ t ∈ (bGame g k).2.2, TieOk (bGame g k).1 (bGame g k).2.1 t := by
  intro t ht
  rcases List.mem_append.mp ht with q | q
  · exact (hg.2.2.2.2.2 t q).left
  · obtain ⟨t0, h0, rfl⟩ := List.mem_map.mp q
    exact (hk.2.2.2.2.2 t0 h0).right
theorem bGame_ok {g k : Game} (hg : GameOk g) (hk : GameOk k) (hb : g.1.length + k.1.length ≤ 6) (hm : g.2.1 ≤ 6 ∧ k.2.1 ≤ 6) (ht : g.2.2.length ≤ 4 ∧ k.2.2.length ≤ 4) : GameOk (bGame g k) := by
  refine ⟨by simp [bGame]; have := hg.1; omega, by simp [bGame]; omega, ?_, by simp [bGame]; omega, by simp [bGame]; omega, bGame_ties hg hk⟩
  intro r hr
  rcases List.mem_append.mp hr with q | q
  · exact hg.2.2.1 r q
  · exact hk.2.2.1 r q
theorem moved_tie_s (n : Nat) {t : Tie} {b m : Nat} (ht : t.2.length ≤ 1000) (st : Store) : callD (Rr (n + 1)) F_moved_tie [eTie t, .int b, .int m] st = .ok (eTie (vTie b m t)) st := by
  refine Rs_eq (Rs_call rfl (by simp) rfl ?_)
  simp [f_moved_tie, eTie, eN_]
  refine Rs.of (lcN eN t.2 (fun c => eN (m + c)) (by omega) (by simp [eRow]) (fun c hcm => ?_)) ?_
  · simp [eN_]
    omega
  · simp [vTie, eRow]
    have h1 : (t.1 : Int) + b = ((b + t.1 : Nat) : Int) := by omega
    rw [h1]
    exact frzP (by simp [purL_map])
def undef : D := .str (PySem.Str.ofString "book")
theorem beside_bad (n : Nat) {g k : Game} (hg : GameOk g) (hk : GameOk k) (hb : 6 < g.1.length + k.1.length) (st : Store) : callD (Rr (n + 2)) F_beside_puzzles [oPuz g, oPuz k] st = .exc C_Undefined [undef] st := by
  have key : Rs (callD (Rr (n + 2)) F_beside_puzzles [oPuz g, oPuz k] st) (fun _ _ => False) (fun c vs s => c = C_Undefined ∧ vs = [undef] ∧ s = st) := by
    refine Rs_call rfl (by simp) rfl ?_
    have l1 := len_book n (st := []) (d := oBook g.1) BookAt.obj (by have := hg.2.1; omega)
    have l2 := len_book n (st := []) (d := oBook k.1) BookAt.obj (by have := hk.2.1; omega)
    have hb' : (6:Int) < (g.1.length : Int) + k.1.length := by omega
    simp [f_beside_puzzles, oPuz_book, l1, l2, hb', undef]
  cases e : callD (Rr (n + 2)) F_beside_puzzles [oPuz g, oPuz k] st with
  | ok d s => rw [e] at key; simp at key
  | exc c vs s => rw [e] at key; simp at key; obtain ⟨rfl, rfl, rfl⟩ := key; rfl
  | stk => rw [e] at key; simp at key
theorem beside_s (n : Nat) {g k : Game} (hg : GameOk g) (hk : GameOk k) (hb : g.1.length + k.1.length ≤ 6) (st : Store) : callD (Rr (n + 5)) F_beside_puzzles [oPuz g, oPuz k] st = .ok (oPuz (bGame g k)) st := by
  have hg1 := hg.1
  have l1 := fun s => len_book (n + 3) (st := s) (d := oBook g.1) BookAt.obj (by have := hg.2.1; omega)
  have l2 := fun s => len_book (n + 3) (st := s) (d := oBook k.1) BookAt.obj (by have := hk.2.1; omega)
  have hb' : ¬ (6:Int) < (g.1.length : Int) + k.1.length := by omega
  have hz : sz (g.1.length + k.1.length) = true := sz_le (by omega)
  have ra : RelsAt [] ((g.1 ++ k.1).map oRel) (g.1 ++ k.1) := by
    refine ⟨(g.1 ++ k.1).map fun r => (oRel r, r), by rw [List.map_map]; rfl, by rw [List.map_map]; exact (List.map_id _).symm, fun p hp => ?_⟩
    obtain ⟨r, _, rfl⟩ := List.mem_map.mp hp
    rfl
  have hmb := mkBook_s (n + 1) (v := .tup ((g.1 ++ k.1).map oRel)) (.inr rfl) ra ⟨by simp; omega, by simp; omega⟩
  refine Rs_eq (Rs_call rfl (by simp) rfl ?_)
  simp at hmb
  simp [f_beside_puzzles, oPuz_book, oBook_rels, l1, l2, hb', hz, hmb]
  have h2l := hk.2.2.2.2.1
  refine Rs.of (lcN eTie k.2.2 (fun t => eTie (vTie g.1.length g.2.1 t)) (by omega) (by simp [oPuz_ties, eTies]) (fun t ht => ?_)) ?_
  · obtain ⟨r, hr, hl, hc⟩ := hk.2.2.2.2.2 t ht
    have hrr := (hk.2.2.1 r (List.mem_of_getElem? hr)).2.1
    simp [oPuz_book, l1, oPuz_cells, eN_, moved_tie_s (n + 3) (t := t) (b := g.1.length) (m := g.2.1) (by omega)]
  · have hz2 : sz (g.2.2.length + k.2.2.length) = true := sz_le (by have := hg.2.2.2.2.1; omega)
    simp [oPuz_cells, oPuz_ties, eN_, eTies, hz2]
    have hbk : ∀ ys, BookAt ([D.obj C_Book [A_relations, A_plain] [.tup (g.1.map oRel ++ k.1.map oRel), eBook (g.1 ++ k.1)]] ++ ys) (.ref 0) (g.1 ++ k.1) := fun ys => by
      refine ⟨_, rfl, ?_⟩
      have := ra.pure (by simp [purL_map]) ([D.obj C_Book [A_relations, A_plain] [.tup (g.1.map oRel ++ k.1.map oRel), eBook (g.1 ++ k.1)]] ++ ys)
      rw [List.map_append] at this
      exact this
    have hpz := mkPuz_s n (b := g.1 ++ k.1) (m := g.2.1 + k.2.1) (ts := (bGame g k).2.2) (v := .tup (g.2.2.map eTie ++ k.2.2.map fun t => eTie (vTie g.1.length g.2.1 t))) (hbk []) (by simp; omega) (bGame_ties hg hk) (.inr (by simp [bGame]))
    simp at hpz
    simp [hpz]
    exact frzPuz 34 (bk := .ref 0) (by simp; rfl) (hbk _)
/-! ### told -/
theorem told0_bad (n : Nat) {g k : Game} (hg : GameOk g) (hk : GameOk k) (hb : 6 < g.1.length + k.1.length) (st : Store) : callD (Rr (n + 3)) F__law_told [.int 0, oPuz g, oPuz k] st = .ok (.tup [.str (PySem.Str.ofString "undefined"), .str (reprD undef)]) st := by
  have e := beside_bad n hg hk hb
  refine Rs_eq (Rs_call rfl (by simp) rfl ?_)
  unfold f__law_told
  simp
  refine Fs_try ?_
  simp [e]
  have hr : evBlt (Rk tb Fu (n + 2)) .repr [undef] [] = .ok (.str (reprD undef)) [] := blt_repr (by decide +kernel) (by decide +kernel)
  simp [pur_nox, hr]
  exact ⟨rfl, frzP rfl⟩
theorem told0_s (n : Nat) {g k : Game} (hg : GameOk g) (hk : GameOk k) (hb : g.1.length + k.1.length ≤ 6) (st : Store) : callD (Rr (n + 6)) F__law_told [.int 0, oPuz g, oPuz k] st = .ok (.tup [.str (PySem.Str.ofString "told"), oPuz (bGame g k)]) st := by
  have e := beside_s n hg hk hb
  refine Rs_eq (Rs_call rfl (by simp) rfl ?_)
  unfold f__law_told
  simp
  refine Fs_try ?_
  simp [e]
  exact frzP (by simp)
theorem told1_s (n : Nat) {g : Game} {ps : Prs} (hg : GameOk g) (h : PrsOk ps g.2.1) (st : Store) : callD (Rr (n + 6)) F__law_told [.int 1, oPuz g, ePrs ps] st = .ok (.tup [.str (PySem.Str.ofString "told"), oPuz (mGame g ps)]) st := by
  have e := merged_s n hg h
  refine Rs_eq (Rs_call rfl (by simp) rfl ?_)
  unfold f__law_told
  simp
  refine Fs_try ?_
  simp [e]
  exact frzP (by simp)
theorem told1_bad (n : Nat) {g : Game} {v : D} (hv : v.dat 60 = true) (hl : ∀ xs, v = .tup xs → xs.length ≤ 1000000) (hb : arePairs v g.2.1 = false) (hr : reprOk v = true) (st : Store) : callD (Rr (n + 5)) F__law_told [.int 1, oPuz g, v] st = .ok (.tup [.str (PySem.Str.ofString "number"), .str (reprD v), .bl false]) st := by
  have e := merged_bad n hv hl hb
  have hp := dat_pur _ _ hv
  refine Rs_eq (Rs_call rfl (by simp [hp]) rfl ?_)
  unfold f__law_told
  simp
  refine Fs_try ?_
  simp [e, pur_nox, hp, blt_repr hv hr]
  exact frzP rfl
end Tab
end
section
set_option linter.all false
set_option maxRecDepth 100000
namespace Tab
open Dn
def BadC (m : Nat) (b : D) : Prop := shortB 2 b = true ∧ areCells b 2 m = false
def BadP (m : Nat) (w : D) : Prop := shortB 3 w = true ∧ arePairs w m = false ∧ ∀ xs, w = .tup xs → xs.length ≤ 1000000
def bads (m : Nat) : List D := [.tup [.int 0], .tup [.int 0, .int 0, .int 0], .lst [.int 0, .int 0], .tup [.int 0, .int m], .tup [.int m, .int 0], .tup [.int (-1), .int 0], .tup [.int 0, .bl true], .tup [.bl false, .int 0], .tup [.int 0, .non], .tup [.str (PySem.Str.ofString "0"), .int 0], .int 0, .non, .tup [], .tup [.tup [.int 0, .int 0]]]
theorem bads_bad {m : Nat} (hm : m ≤ 1000) : ∀ b ∈ bads m, BadC m b := by
  have h0 : m < 1000000000 := by omega
  have hs : shortB 2 (.tup [.str (PySem.Str.ofString "0"), .int 0]) = true := by decide +kernel
  intro b hb
  simp only [bads, List.mem_cons, List.not_mem_nil, or_false] at hb
  rcases hb with rfl | rfl | rfl | rfl | rfl | rfl | rfl | rfl | rfl | rfl | rfl | rfl | rfl | rfl <;> refine ⟨?_, ?_⟩ <;> first | exact hs | (simp [shortB, areCells, isBelow, h0]; done) | rfl
def others : List D := [.non, .int 0, .tup [.int 0, .int 0], .str (PySem.Str.ofString "00"), .bl true, .lst [.tup [.int 0, .int 0]]]
theorem others_bad {m : Nat} : ∀ b ∈ others, BadP m b := by
  intro b hb
  have hs : shortB 3 (.str (PySem.Str.ofString "00")) = true := by decide +kernel
  simp only [others, List.mem_cons, List.not_mem_nil, or_false] at hb
  rcases hb with rfl | rfl | rfl | rfl | rfl | rfl <;> refine ⟨?_, ?_, ?_⟩ <;> first | exact hs | (simp [shortB, arePairs, areCells, isBelow]; done) | (intro xs e; cases e; decide)
theorem shortB_pair {p : Nat × Nat} (h : p.1 < 1000 ∧ p.2 < 1000) : shortB 2 (ePair p) = true := by
  simp [ePair, shortB, eN_]; omega
theorem law_wrong_s (n : Nat) {h a m : Nat} {ps : Prs} {st : Store} (hk : HandOk h a st) (hp : PrsOk ps m) (hm : m ≤ 1000) : Rs (callD (Rr (n + 2)) F__law_wrong [.ref h, ePrs ps, .int m] st) (fun d s => BadP m d ∧ Keep h a st s) noE := by
  have hpl := hp.1
  refine Rs_callI rfl (by simp) rfl ?_
  simp [f__law_wrong]
  refine Rs_draw (Keep.refl hk) (m := 14) (by decide) fun r1 s1 hr1 kk1 kd1 => ?_
  simp [hr1]
  have hb1 : BadC m ((bads m)[r1]'hr1) := bads_bad hm _ (List.getElem_mem _)
  simp only [bads] at hb1
  generalize hbg : [D.tup [D.int 0], D.tup [D.int 0, D.int 0, D.int 0], D.lst [D.int 0, D.int 0], D.tup [D.int 0, D.int ↑m], D.tup [D.int ↑m, D.int 0], D.tup [D.int (-1), D.int 0], D.tup [D.int 0, D.bl true], D.tup [D.bl false, D.int 0], D.tup [D.int 0, D.non], D.tup [D.str (PySem.Str.ofString "0"), D.int 0], D.int 0, D.non, D.tup [], D.tup [D.tup [D.int 0, D.int 0]]][r1] = b at hb1 ⊢
  simp [ePrs]
  refine Rs_draw kk1 (m := ps.length + 1) (by omega) fun r2 s2 hr2 kk2 kd2 => ?_
  simp
  refine Rs_draw kk2 (m := 8) (by decide) fun r3 s3 hr3 kk3 kd3 => ?_
  have hsh : ∀ p ∈ ps, shortB 2 (ePair p) = true := fun p hpm => shortB_pair (by have := hp.2 p hpm; omega)
  simp
  split
  · refine ⟨⟨?_, rfl, fun xs e => by cases e⟩, kk3⟩
    simp [shortB]
    exact ⟨by omega, fun x y hxy => hsh _ hxy⟩
  · split
    · refine Rs_draw kk3 (m := 6) (by decide) fun r4 s4 hr4 kk4 kd4 => ?_
      simp [hr4]
      exact ⟨others_bad _ (List.getElem_mem hr4), kk4⟩
    · have h1 : r2 ≤ (ps.map ePair).length := by simp; omega
      have h2 : min r2 ps.length = r2 := by omega
      have hz1 : sz (r2 + 1) = true := sz_le (by omega)
      have hz2 : sz (r2 + 1 + (ps.length - r2)) = true := sz_le (by omega)
      simp [cut_to h1, cut_from h1, hz1, hz2, h2]
      refine ⟨⟨?_, ?_, fun xs e => ?_⟩, kk3⟩
      · simp only [shortB, Bool.and_eq_true, decide_eq_true_eq, List.all_append, List.all_cons]
        refine ⟨by simp; omega, List.all_eq_true.mpr fun x hx => ?_, hb1.1, List.all_eq_true.mpr fun x hx => ?_⟩
        · obtain ⟨p, hpm, rfl⟩ := List.mem_map.mp (List.mem_of_mem_take hx)
          exact hsh p hpm
        · obtain ⟨p, hpm, rfl⟩ := List.mem_map.mp (List.mem_of_mem_drop hx)
          exact hsh p hpm
      · simp only [arePairs, List.all_append, List.all_cons, hb1.2, Bool.false_and, Bool.and_false]
      · cases e
        simp; omega
end Tab
end
section
set_option linter.all false
set_option maxRecDepth 100000
namespace Tab
open Dn
def tieAt (ts : List Tie) (t : Nat) : Tie := ts.getD t (0, [])
def lastTo (ts : List Tie) (k c : Nat) : List Nat := (List.range k).filter fun t => decide (topN (tieAt ts t).2 = c)
theorem lastTo_succ {ts : List Tie} {k c : Nat} : lastTo ts (k + 1) c = lastTo ts k c ++ if topN (tieAt ts k).2 = c then [k] else [] := by
  unfold lastTo
  rw [List.range_succ, List.filter_append]
  congr 1
  by_cases h : topN (tieAt ts k).2 = c <;> simp [h]
theorem TieOk.ne {b : List Rel} {m : Nat} {t : Tie} (h : TieOk b m t) (hb : ∀ r ∈ b, RelOk r) : t.2 ≠ [] := by
  obtain ⟨r, h1, h2, h3⟩ := h
  have := (hb r (List.mem_of_getElem? h1)).1
  intro e
  rw [e] at h2
  simp at h2
  omega
structure LEnt where
  key : Nat
  ref : Nat
  ts : List Nat
def LastInv (ts : List Tie) (k : Nat) (s : Store) : Prop := s.length = k + 1 ∧ ∃ L : List LEnt, L.length ≤ k ∧ s[0]? = some (.dic (L.map fun x => eN x.key) (L.map fun x => .ref x.ref)) ∧ (∀ x ∈ L, s[x.ref]? = some (.lst (x.ts.map eN)) ∧ 1 ≤ x.ref ∧ x.ts = lastTo ts k x.key) ∧ (∀ c, (∀ x ∈ L, x.key ≠ c) → lastTo ts k c = []) ∧ (∀ x ∈ L, ∀ y ∈ L, x.ref = y.ref → x = y) ∧ (∀ x ∈ L, ∀ y ∈ L, x.key = y.key → x = y)
/-- one tie more: its key is there -/
theorem LastInv.old {ts : List Tie} {k : Nat} {s : Store} {L : List LEnt} (g0 : s.length = k + 1) (gl : L.length ≤ k) (g1 : s[0]? = some (.dic (L.map fun x => eN x.key) (L.map fun x => .ref x.ref))) (g2 : ∀ x ∈ L, s[x.ref]? = some (.lst (x.ts.map eN)) ∧ 1 ≤ x.ref ∧ x.ts = lastTo ts k x.key) (g3 : ∀ c, (∀ x ∈ L, x.key ≠ c) → lastTo ts k c = []) (g4 : ∀ x ∈ L, ∀ y ∈ L, x.ref = y.ref → x = y) (g5 : ∀ x ∈ L, ∀ y ∈ L, x.key = y.key → x = y) {x : LEnt} (hx : x ∈ L) (hk : x.key = topN (tieAt ts k).2) : LastInv ts (k + 1) ((s ++ [D.lst []]).set x.ref (.lst (x.ts.map eN ++ [eN k]))) := by
  have hxl : x.ref < s.length := (List.getElem?_eq_some_iff.mp (g2 x hx).1).1
  have hx1 := (g2 x hx).2.1
  let f : LEnt → LEnt := fun y => if y.key = x.key then ⟨y.key, y.ref, y.ts ++ [k]⟩ else y
  have fk : ∀ y, (f y).key = y.key := fun y => by simp only [f]; split <;> rfl
  have fr : ∀ y, (f y).ref = y.ref := fun y => by simp only [f]; split <;> rfl
  refine ⟨by simp [g0], L.map f, by simp; omega, ?_, ?_, ?_, ?_, ?_⟩
  · rw [List.getElem?_set_ne (by omega), List.getElem?_append_left (by omega), g1, List.map_map, List.map_map]
    congr 2
    · exact List.map_congr_left fun y _ => by simp [fk]
    · exact List.map_congr_left fun y _ => by simp [fr]
  · intro y' hy'
    obtain ⟨y, hy, rfl⟩ := List.mem_map.mp hy'
    rw [fk, fr]
    have g2y := g2 y hy
    have hyl : y.ref < s.length := (List.getElem?_eq_some_iff.mp g2y.1).1
    by_cases e : y.key = x.key
    · have hyx := g5 y hy x hx e
      subst hyx
      refine ⟨?_, hx1, ?_⟩
      · rw [List.getElem?_set_self (by simp; omega)]
        simp [f]
      · rw [lastTo_succ, if_pos hk.symm, ← g2y.2.2]; simp [f]
    · have hne : x.ref ≠ y.ref := fun q => e (by rw [g4 x hx y hy q])
      refine ⟨?_, g2y.2.1, ?_⟩
      · rw [List.getElem?_set_ne hne, List.getElem?_append_left hyl]
        simp [f, e, g2y.1]
      · rw [lastTo_succ, if_neg (by rw [← hk]; exact fun q => e q.symm), List.append_nil, ← g2y.2.2]; simp [f, e]
  · intro c hc
    have hc' : ∀ y ∈ L, y.key ≠ c := fun y hy => by
      have := hc (f y) (List.mem_map.mpr ⟨y, hy, rfl⟩)
      rwa [fk] at this
    rw [lastTo_succ, g3 c hc', if_neg (by rw [← hk]; exact hc' x hx)]; rfl
  · intro y' hy' z' hz' e
    obtain ⟨y, hy, rfl⟩ := List.mem_map.mp hy'
    obtain ⟨z, hz, rfl⟩ := List.mem_map.mp hz'
    rw [fr, fr] at e
    rw [g4 y hy z hz e]
  · intro y' hy' z' hz' e
    obtain ⟨y, hy, rfl⟩ := List.mem_map.mp hy'
    obtain ⟨z, hz, rfl⟩ := List.mem_map.mp hz'
    rw [fk, fk] at e
    rw [g5 y hy z hz e]
/-- one tie more: its key is new -/
theorem LastInv.new {ts : List Tie} {k : Nat} {s : Store} {L : List LEnt} (g0 : s.length = k + 1) (gl : L.length ≤ k) (g1 : s[0]? = some (.dic (L.map fun x => eN x.key) (L.map fun x => .ref x.ref))) (g2 : ∀ x ∈ L, s[x.ref]? = some (.lst (x.ts.map eN)) ∧ 1 ≤ x.ref ∧ x.ts = lastTo ts k x.key) (g3 : ∀ c, (∀ x ∈ L, x.key ≠ c) → lastTo ts k c = []) (g4 : ∀ x ∈ L, ∀ y ∈ L, x.ref = y.ref → x = y) (g5 : ∀ x ∈ L, ∀ y ∈ L, x.key = y.key → x = y) (hk : ∀ x ∈ L, x.key ≠ topN (tieAt ts k).2) : LastInv ts (k + 1) (((s ++ [D.lst []]).set 0 (.dic ((L.map fun x => eN x.key) ++ [eN (topN (tieAt ts k).2)]) ((L.map fun x => .ref x.ref) ++ [.ref s.length]))).set s.length (.lst [eN k])) := by
  have hrl : ∀ y ∈ L, y.ref < s.length := fun y hy => (List.getElem?_eq_some_iff.mp (g2 y hy).1).1
  refine ⟨by simp [g0], L ++ [⟨topN (tieAt ts k).2, s.length, [k]⟩], by simp; omega, ?_, ?_, ?_, ?_, ?_⟩
  · rw [List.getElem?_set_ne (by omega), List.getElem?_set_self (by simp)]
    simp
  · intro y hy
    rcases List.mem_append.mp hy with q | q
    · have g2y := g2 y q
      have := hrl y q
      refine ⟨?_, g2y.2.1, ?_⟩
      · rw [List.getElem?_set_ne (by omega), List.getElem?_set_ne (by omega), List.getElem?_append_left this]; exact g2y.1
      · rw [lastTo_succ, if_neg (fun e => hk y q e.symm), List.append_nil]; exact g2y.2.2
    · simp at q
      subst q
      refine ⟨?_, by dsimp only; omega, ?_⟩
      · rw [List.getElem?_set_self (by simp)]; rfl
      · rw [lastTo_succ, g3 _ hk, if_pos rfl]; rfl
  · intro c hc
    have h1 : ∀ y ∈ L, y.key ≠ c := fun y hy => hc y (by simp [hy])
    have h2 := hc ⟨topN (tieAt ts k).2, s.length, [k]⟩ (by simp)
    rw [lastTo_succ, g3 c h1, if_neg h2]; rfl
  · intro y hy z hz e
    rcases List.mem_append.mp hy with q | q <;> rcases List.mem_append.mp hz with q2 | q2
    · exact g4 y q z q2 e
    · simp at q2
      subst q2
      have := hrl y q
      simp at e
      omega
    · simp at q
      subst q
      have := hrl z q2
      simp at e
      omega
    · simp at q q2
      rw [q, q2]
  · intro y hy z hz e
    rcases List.mem_append.mp hy with q | q <;> rcases List.mem_append.mp hz with q2 | q2
    · exact g5 y q z q2 e
    · simp at q2
      subst q2
      exact absurd e (hk y q)
    · simp at q
      subst q
      exact absurd e.symm (hk z q2)
    · simp at q q2
      rw [q, q2]
theorem ties_by_last_s (n : Nat) {g : Game} (hg : GameOk g) (st : Store) : Rs (callD (Rr (n + 1)) F_ties_by_last_cell [oPuz g] st) (fun d s => s = st ∧ ∃ ks vs, d = .dic ks vs ∧ (D.purL ks && D.purL vs) = true ∧ ∀ c s', bmeth .get (.dic ks vs) [.int (c : Nat), .lst []] s' = .ok (.lst ((lastTo g.2.2 g.2.2.length c).map eN)) s') noE := by
  have htl := hg.2.2.2.2.1
  refine Rs_call rfl (by simp) rfl ?_
  have hk0 : (kvsOf []).bind dmk = some (.dic [] []) := rfl
  simp [f_ties_by_last_cell, hk0]
  rw [Fs_forE]
  simp [oPuz_ties, eTies, itemsOf, enumL_map (d0 := ((0, []) : Tie))]
  refine forW_inv (fun (i : Nat) => D.tup [.int (i : Int), eTie (tieAt g.2.2 i)]) (List.range g.2.2.length) (fun done e s => ∃ (o2 o3 o4 : Option D), e = [some (oPuz g), some (.ref 0), o2, o3, o4] ∧ LastInv g.2.2 done.length s) ?_ ?_ ?_ ?_
  · exact ⟨_, _, _, rfl, rfl, [], by simp, rfl, by simp, fun c _ => rfl, by simp, by simp⟩
  · intro done e s _
    rfl
  · rintro done i rest e s ho ⟨o2, o3, o4, rfl, g0, L, gl, g1, g2, g3, g4, g5⟩
    obtain ⟨rfl, hil⟩ := range_split ho
    have hti : TieOk g.1 g.2.1 (tieAt g.2.2 done.length) := by
      have : tieAt g.2.2 done.length = g.2.2[done.length] := by simp [tieAt, hil]
      rw [this]; exact hg.2.2.2.2.2 _ (List.getElem_mem hil)
    have hne := hti.ne hg.2.2.1
    have h1 : (s ++ [D.lst []])[0]? = some (.dic (L.map fun x => eN x.key) (L.map fun x => .ref x.ref)) := by
      rw [List.getElem?_append_left (by omega)]; exact g1
    have hmx := fun s => blt_max_ints (R := Rk tb Fu n) (st := s) hne
    have hsd := bmeth_setdefault (k := .int ((topN (tieAt g.2.2 done.length).2 : Nat) : Int)) (y := .ref s.length) h1 keyFor_ints (by simp; omega)
    simp [eTie, eRow, eN_]
    simp [hmx, g1, hsd]
    refine ⟨rfl, ?_⟩
    rcases dget_map (f := LEnt.key) (g := fun x => D.ref x.ref) (c := topN (tieAt g.2.2 done.length).2) (L := L) with ⟨x, hx, hxk, e⟩ | ⟨hnk, e⟩
    · rw [e]
      have hxr := (g2 x hx).1
      have hxl := (List.getElem?_eq_some_iff.mp hxr).1
      have h2 : (s ++ [D.lst []])[x.ref]? = some (.lst (x.ts.map eN)) := by rw [List.getElem?_append_left hxl]; exact hxr
      simp [h2]
      refine ⟨rfl, ?_⟩
      have htl2 : x.ts.length ≤ 1000000 := by
        rw [(g2 x hx).2.2]
        have := List.length_filter_le (fun t => decide (topN (tieAt g.2.2 t).2 = x.key)) (List.range done.length)
        rw [List.length_range] at this
        show ((List.range done.length).filter _).length ≤ _
        omega
      simp [bmeth_append h2 (by simpa using htl2)]
      exact LastInv.old g0 gl g1 g2 g3 g4 g5 hx hxk
    · rw [e]
      have h2 : ((s ++ [D.lst []]).set 0 (.dic ((L.map fun x => eN x.key) ++ [D.int ((topN (tieAt g.2.2 done.length).2 : Nat) : Int)]) ((L.map fun x => .ref x.ref) ++ [.ref s.length])))[s.length]? = some (.lst []) := by
        rw [List.getElem?_set_ne (by omega)]; simp
      simp [h2]
      refine ⟨by rw [(List.getElem?_eq_some_iff.mp h2).2]; rfl, ?_⟩
      have hba := bmeth_append (y := .int done.length) h2 (by simp)
      simp at hba
      simp [hba]
      have := LastInv.new g0 gl g1 g2 g3 g4 g5 hnk
      simpa [eN_] using this
  · rintro e s ⟨o2, o3, o4, rfl, g0, L, gl, g1, g2, g3, g4, g5⟩
    simp at g2 g3
    simp
    have hfz : frz s 40 (.ref 0) = some (.dic (L.map fun x => eN x.key) (L.map fun x => .lst (x.ts.map eN))) := by
      rw [frz_ref g1]
      refine frz_dicM (purL_map fun _ => rfl) ?_
      exact mapM_map fun x hx => by
        rw [frz_ref (g2 x hx).1]
        exact frzP (purL_map fun _ => rfl)
    refine ⟨_, hfz, _, _, rfl, ⟨purL_map fun _ => rfl, purL_map fun x => ?_⟩, fun c s' => ?_⟩
    · exact purL_map (f := eN) fun _ => rfl
    rw [bmeth_get keyFor_ints]
    rcases dget_map (f := LEnt.key) (g := fun x => D.lst (x.ts.map eN)) (c := c) (L := L) with ⟨x, hx, hxk, e⟩ | ⟨hnk, e⟩
    · rw [e, ← hxk, (g2 x hx).2.2]; rfl
    · rw [e, g3 c hnk]; rfl
end Tab
end
section
set_option linter.all false
set_option maxRecDepth 100000
namespace Tab
open Dn
def allRows (n : Nat) : List (List Nat) := (List.range (2 ^ n)).map (rowOf n)
theorem range_two (n : Nat) : List.range (2 * n) = (List.range n).flatMap fun c => [2 * c, 2 * c + 1] := by
  induction n with
  | zero => rfl
  | succ n ih =>
    rw [show 2 * (n + 1) = 2 * n + 1 + 1 by omega, List.range_succ, List.range_succ, ih, List.range_succ, List.flatMap_append]
    simp
theorem allRows_succ (n : Nat) : allRows (n + 1) = (allRows n).flatMap fun r => [0, 1].map fun v => r ++ [v] := by
  unfold allRows
  rw [Nat.pow_succ, Nat.mul_comm, range_two, List.map_flatMap, List.flatMap_map]
  congr 1
  funext c
  have h1 : 2 * c / 2 = c := by omega
  have h2 : (2 * c + 1) / 2 = c := by omega
  have h3 : 2 * c % 2 = 0 := by omega
  have h4 : (2 * c + 1) % 2 = 1 := by omega
  simp [rowOf_succ, h1, h2, h3, h4]
theorem allRows_zero : allRows 0 = [[]] := rfl
theorem allRows_len {n : Nat} {r : List Nat} (h : r ∈ allRows n) : r.length = n := by
  obtain ⟨c, _, rfl⟩ := List.mem_map.mp h
  exact rowOf_len
theorem allRows_card (n : Nat) : (allRows n).length = 2 ^ n := by simp [allRows]
def keepT (b : List Rel) (row : List Nat) (t : Tie) : Bool := decide ((t.2.map fun c => row.getD c 0) ∈ (b.getD t.1 (0, [])).2)
def partRows (g : Game) (k : Nat) : List (List Nat) := (allRows k).filter fun row => g.2.2.all fun t => decide (k ≤ topN t.2) || keepT g.1 row t
def fill (g : Game) : List (List Nat) := (allRows g.2.1).filter fun row => g.2.2.all fun t => keepT g.1 row t
theorem filter_flatMap {α β : Type} {P : α → Bool} {Q P' : β → Bool} {f : α → List β} : ∀ {l : List α}, (∀ r ∈ l, ∀ y ∈ f r, P' y = (P r && Q y)) → ((l.filter P).flatMap f).filter Q = (l.flatMap f).filter P'
  | [], _ => rfl
  | a :: l, h => by
    have ih := filter_flatMap (P := P) (Q := Q) (P' := P') (f := f) (l := l) fun r hr => h r (by simp [hr])
    rw [List.flatMap_cons, List.filter_append, ← ih, List.filter_cons]
    have h0 := h a (by simp)
    by_cases e : P a = true
    · rw [if_pos e, List.flatMap_cons, List.filter_append]
      congr 1
      refine List.filter_congr fun y hy => ?_
      rw [h0 y hy, e]; simp
    · rw [if_neg e]
      have : (f a).filter P' = [] := by
        rw [List.filter_eq_nil_iff]
        intro y hy
        rw [h0 y hy]
        simp at e
        simp [e]
      rw [this]; rfl
theorem keepT_app {b : List Rel} {r : List Nat} {v : Nat} {t : Tie} (h : ∀ c ∈ t.2, c < r.length) : keepT b (r ++ [v]) t = keepT b r t := by
  unfold keepT
  have : (t.2.map fun c => (r ++ [v]).getD c 0) = t.2.map fun c => r.getD c 0 := List.map_congr_left fun c hc => by
    have := h c hc
    simp [List.getD_eq_getElem?_getD, List.getElem?_append_left this]
  rw [this]
theorem mem_lastTo {ts : List Tie} {k c i : Nat} : i ∈ lastTo ts k c ↔ i < k ∧ topN (tieAt ts i).2 = c := by
  simp [lastTo]
theorem partRows_succ {g : Game} (k : Nat) : partRows g (k + 1) = ((partRows g k).flatMap fun r => [0, 1].map fun v => r ++ [v]).filter fun row => (lastTo g.2.2 g.2.2.length k).all fun i => keepT g.1 row (tieAt g.2.2 i) := by
  unfold partRows
  rw [allRows_succ]
  refine (filter_flatMap fun r hr y hy => ?_).symm
  have hrl := allRows_len hr
  obtain ⟨v, _, rfl⟩ := List.mem_map.mp hy
  rw [Bool.eq_iff_iff, Bool.and_eq_true, List.all_eq_true, List.all_eq_true, List.all_eq_true]
  constructor
  · intro h
    refine ⟨fun t ht => ?_, fun i hi => ?_⟩
    · by_cases hk : k ≤ topN t.2
      · simp [hk]
      · have := h t ht
        have hk2 : ¬ (k + 1 ≤ topN t.2) := by omega
        simp [hk2] at this
        rw [keepT_app (fun c hc => by have := topN_ge hc; omega)] at this
        simp [this]
    · obtain ⟨h1, h2⟩ := mem_lastTo.mp hi
      have ht : tieAt g.2.2 i ∈ g.2.2 := by simp [tieAt, h1]
      have := h _ ht
      have hk2 : ¬ (k + 1 ≤ topN (tieAt g.2.2 i).2) := by omega
      simpa [hk2] using this
  · rintro ⟨h1, h2⟩ t ht
    by_cases hk : k + 1 ≤ topN t.2
    · simp [hk]
    · by_cases hk2 : topN t.2 = k
      · obtain ⟨i, hi, e⟩ := List.getElem_of_mem ht
        have h3 : tieAt g.2.2 i = t := by simp [tieAt, hi, e]
        have := h2 i (mem_lastTo.mpr ⟨hi, by rw [h3, hk2]⟩)
        rw [h3] at this
        simp [this]
      · have := h1 t ht
        have hk3 : ¬ (k ≤ topN t.2) := by omega
        simp [hk3] at this
        rw [keepT_app (fun c hc => by have := topN_ge hc; omega), this]; simp
theorem partRows_zero {g : Game} : partRows g 0 = [[]] := by
  unfold partRows
  rw [allRows_zero]
  simp
theorem partRows_end {g : Game} (hg : GameOk g) : partRows g g.2.1 = fill g := by
  unfold partRows fill
  refine List.filter_congr fun r _ => ?_
  rw [Bool.eq_iff_iff, List.all_eq_true, List.all_eq_true]
  have key : ∀ t ∈ g.2.2, ¬ (g.2.1 ≤ topN t.2) := fun t ht => by
    have h1 := hg.2.2.2.2.2 t ht
    have hne := h1.ne hg.2.2.1
    obtain ⟨rr, _, _, hc⟩ := h1
    have hm : 0 < g.2.1 := by
      obtain ⟨c, cs, e⟩ := List.exists_cons_of_ne_nil hne
      have := hc c (by rw [e]; simp)
      omega
    have := topN_lt hc hm
    omega
  constructor
  · intro h t ht
    have := h t ht
    simpa [key t ht] using this
  · intro h t ht
    simp [h t ht]
theorem partRows_card {g : Game} {k : Nat} : (partRows g k).length ≤ 2 ^ k := by
  have := List.length_filter_le (fun row => g.2.2.all fun t => decide (k ≤ topN t.2) || keepT g.1 row t) (allRows k)
  rw [allRows_card] at this
  exact this
end Tab
end
section
set_option linter.all false
set_option maxRecDepth 100000
namespace Tab
open Dn
theorem relAt {b : List Rel} {i : Nat} {r : Rel} (h : b[i]? = some r) : b.getD i (0, []) = r := by
  rw [List.getD_eq_getElem?_getD, h]; rfl
theorem tieAt_get {ts : List Tie} {t : Nat} (h : t < ts.length) {R : Run} {s : Store} : getIdx (eTies ts) (.int (t : Int)) s = some (eTie (tieAt ts t)) := by
  show getIdx (.tup (ts.map eTie)) _ s = _
  rw [getIdx_tup, List.length_map, ix_nat, if_pos h]
  simp [h, tieAt]
theorem rows_of_tie_s (n : Nat) {g : Game} {t : Nat} {r : Rel} (ht : t < g.2.2.length) (hr : g.1[(tieAt g.2.2 t).1]? = some r) (st : Store) : callD (Rr (n + 1)) F_rows_of_tie [oPuz g, .int t] st = .ok (eRows r.2) st := by
  refine Rs_eq (Rs_call rfl (by simp) rfl ?_)
  have hl := (List.getElem?_eq_some_iff.mp hr).1
  have he := (List.getElem?_eq_some_iff.mp hr).2
  have e2 : getAtr tb (oRel r) A_rows [] = some (eRows r.2) := rfl
  simp [f_rows_of_tie, oPuz_book, oPuz_ties, oBook_rels, tieAt_get (R := Rr n) ht]
  simp [eTie, eN_, hl, he, e2]
  exact frzP (by simp)
theorem keeps_tie_s (n : Nat) {g : Game} {t : Nat} {row : List Nat} (ht : t < g.2.2.length) (hg : GameOk g) (hc : ∀ c ∈ (tieAt g.2.2 t).2, c < row.length) (st : Store) : callD (Rr (n + 2)) F_keeps_tie [oPuz g, .int t, eRow row] st = .ok (.bl (keepT g.1 row (tieAt g.2.2 t))) st := by
  have hti : TieOk g.1 g.2.1 (tieAt g.2.2 t) := by
    have : tieAt g.2.2 t = g.2.2[t] := by simp [tieAt, ht]
    rw [this]; exact hg.2.2.2.2.2 _ (List.getElem_mem ht)
  obtain ⟨r, hr, hl, _⟩ := hti
  have hrk := (hg.2.2.1 r (List.mem_of_getElem? hr)).2.1
  refine Rs_eq (Rs_call rfl (by simp) rfl ?_)
  simp [f_keeps_tie]
  refine Rs.of (lcN eN (tieAt g.2.2 t).2 (fun c => eN (row.getD c 0)) (by omega) (by simp [oPuz_ties, tieAt_get (R := Rr (n + 1)) ht]; simp [eTie, eRow]) (fun c hcm => ?_)) ?_
  · have := hc c hcm
    simp [eN_, eRow, this]
  · have hv : ((tieAt g.2.2 t).2.map fun c => eN (row.getD c 0)) = ((tieAt g.2.2 t).2.map fun c => row.getD c 0).map eN := by rw [List.map_map]; rfl
    have hkt : keepT g.1 row (tieAt g.2.2 t) = decide (((tieAt g.2.2 t).2.map fun c => row.getD c 0) ∈ r.2) := by unfold keepT; rw [relAt hr]
    rw [hv, hkt]
    generalize ((tieAt g.2.2 t).2.map fun c => row.getD c 0) = x
    have hin := in_rows (R := Rr (n + 1)) (st := []) (x := x) (rows := r.2)
    have hrt := rows_of_tie_s n ht hr []
    have : D.tup (x.map eN) = eRow x := rfl
    have h2 : D.tup (r.2.map eRow) = eRows r.2 := rfl
    rw [h2] at hin
    simp [this, hrt, hin]
theorem is_start_s (n : Nat) {g : Game} (st : Store) : callD (Rr (n + 1)) F_is_start [oPuz g, .tup []] st = .ok (.bl true) st := by
  refine Rs_eq (Rs_call rfl (by simp) rfl ?_)
  simp [f_is_start]
  refine Fs_forChk (id : D → D) [] (fun _ => true) (fun (o : Option D × Option D) => [some (oPuz g), some (.tup []), o.1, o.2]) (by simp) ⟨(_, _), rfl⟩ (fun a ha o => by simp at ha) ?_
  simp
theorem fillings_s (n : Nat) {g : Game} (hg : GameOk g) (st : Store) : callD (Rr (n + 4)) F_fillings [oPuz g, .tup []] st = .ok (.tup ((fill g).map eRow)) st := by
  have hm := hg.2.2.2.1
  refine Rs_eq (Rs_call rfl (by simp) rfl ?_)
  have hdict : ∀ s, evBlt (Rk tb Fu (n + 3)) .dict [.tup []] s = .ok (.dic [] []) s := fun _ => rfl
  simp [f_fillings, is_start_s, hdict]
  refine (ties_by_last_s (n + 2) hg []).imp (fun d s hd => ?_) fun _ _ _ f => f.elim
  obtain ⟨rfl, ks, vs, rfl, hpur, hget⟩ := hd
  simp
  rw [Fs_forE]
  simp [oPuz_cells, eN_, rng_walk (show g.2.1 ≤ 1000000 by omega)]
  have hin0 : ∀ c : Nat, evCmp (Rk tb Fu (n + 3)) .in_ (.int (c : Int)) (.dic [] []) [] = .ok (.bl false) [] := fun c => rfl
  refine forW_inv eN (List.range g.2.1) (fun done e s => s = [] ∧ ∃ (o5 o6 o7 o8 o9 o10 o11 : Option D), e = [some (oPuz g), some (.tup []), some (.dic [] []), some (.dic ks vs), some (.lst ((partRows g done.length).map eRow)), o5, o6, o7, o8, o9, o10, o11]) ?_ (fun _ _ _ _ => rfl) ?_ ?_
  · exact ⟨rfl, _, _, _, _, _, _, _, by rw [List.length_nil, partRows_zero]; rfl⟩
  · rintro done i rest e s ho ⟨rfl, o5, o6, o7, o8, o9, o10, o11, rfl⟩
    obtain ⟨rfl, hil⟩ := range_split ho
    have hcard := partRows_card (g := g) (k := done.length)
    have h2p : 2 ^ done.length ≤ 4096 := Nat.pow_le_pow_right (n := 2) (by decide) (show done.length ≤ 12 by omega)
    simp [eN_, hin0]
    have hb2 : ((partRows g done.length).flatMap fun r => [0, 1].map fun v => eRow (r ++ [v])).length ≤ 1000000 := by
      have : ∀ l : List (List Nat), (l.flatMap fun r => [0, 1].map fun v => eRow (r ++ [v])).length = 2 * l.length := by
        intro l
        induction l with
        | nil => rfl
        | cons a l ih => rw [List.flatMap_cons, List.length_append, ih]; simp; omega
      rw [this]
      omega
    refine Rs.of (lc2N eRow eN (partRows g done.length) (fun _ => [0, 1]) (fun r v => eRow (r ++ [v])) hb2 (by simp) (fun r hr => ?_)) ?_
    · have hrl := allRows_len (List.mem_filter.mp hr).1
      refine ⟨_, rfl, by simp [eN_], fun v hv => ⟨_, rfl, ?_⟩⟩
      have hz : sz (r.length + 1) = true := sz_le (by omega)
      simp [eRow, eN_, hz]
    · have hfm : ((partRows g done.length).flatMap fun r => [0, 1].map fun v => eRow (r ++ [v])) = ((partRows g done.length).flatMap fun r => [0, 1].map fun v => r ++ [v]).map eRow := by
        rw [List.map_flatMap]; rfl
      rw [hfm] at hb2 ⊢
      have hps := partRows_succ (g := g) done.length
      have hXl : ∀ row ∈ ((partRows g done.length).flatMap fun r => [0, 1].map fun v => r ++ [v]), row.length = done.length + 1 := by
        intro row hrow
        obtain ⟨r, hr, h2⟩ := List.mem_flatMap.mp hrow
        obtain ⟨v, _, rfl⟩ := List.mem_map.mp h2
        have := allRows_len (List.mem_filter.mp hr).1
        simp [this]
      obtain ⟨X, hX⟩ : ∃ X, X = ((partRows g done.length).flatMap fun r => [0, 1].map fun v => r ++ [v]) := ⟨_, rfl⟩
      rw [← hX] at hps hXl hb2 ⊢
      rw [List.length_map] at hb2
      simp [hget]
      refine ⟨rfl, ?_⟩
      refine Rs.of (lcF eRow X (fun row => (lastTo g.2.2 g.2.2.length done.length).all fun i => keepT g.1 row (tieAt g.2.2 i)) eRow hb2 (by simp) (fun row hrow => ⟨_, rfl, ?_, fun _ => by simp⟩)) ?_
      · have hll : (lastTo g.2.2 g.2.2.length done.length).length ≤ 1000000 := by
          have := List.length_filter_le (fun t => decide (topN (tieAt g.2.2 t).2 = done.length)) (List.range g.2.2.length)
          rw [List.length_range] at this
          have h8 := hg.2.2.2.2.1
          show ((List.range g.2.2.length).filter _).length ≤ _
          omega
        have hla : ∀ i ∈ lastTo g.2.2 g.2.2.length done.length, callD (Rk tb Fu (n + 3)) F_keeps_tie [oPuz g, .int i, eRow row] [] = .ok (.bl (keepT g.1 row (tieAt g.2.2 i))) [] := fun i hi => by
          obtain ⟨h1, h2⟩ := mem_lastTo.mp hi
          exact keeps_tie_s (n + 1) h1 hg (fun c hc => by rw [hXl row hrow]; have := topN_ge hc; omega) []
        simp
        refine Rs.of (lcN eN (lastTo g.2.2 g.2.2.length done.length) (fun i => .bl (keepT g.1 row (tieAt g.2.2 i))) hll (by simp) (fun i hi => ?_)) ?_
        · simp [eN_, hla i hi]
        · simp
          refine Rs.of blt_all ?_
          simp
      · rw [← hps]
        simp
  · rintro e s ⟨rfl, o5, o6, o7, o8, o9, o10, o11, rfl⟩
    rw [List.length_range, partRows_end hg]
    simp
    exact frzP (purL_map fun _ => pur_eRow)
theorem eG_0 {g : Game} {s : Store} : getIdx (eG g) (.int 0) s = some (eBook g.1) := rfl
theorem eG_1 {g : Game} {s : Store} : getIdx (eG g) (.int 1) s = some (.int g.2.1) := rfl
theorem eG_2 {g : Game} {s : Store} : getIdx (eG g) (.int 2) s = some (eTies g.2.2) := rfl
theorem eBook_idx {b : List Rel} {i : Nat} {r : Rel} {s : Store} (h : b[i]? = some r) : getIdx (eBook b) (.int (i : Int)) s = some (eRel r) := by
  show getIdx (.tup (b.map eRel)) _ s = _
  have hl := (List.getElem?_eq_some_iff.mp h).1
  have he := (List.getElem?_eq_some_iff.mp h).2
  rw [getIdx_tup, List.length_map, ix_nat, if_pos hl]
  simp [hl, he]
theorem eRel_1 {r : Rel} {s : Store} : getIdx (eRel r) (.int 1) s = some (eRows r.2) := rfl
theorem eRel_0 {r : Rel} {s : Store} : getIdx (eRel r) (.int 0) s = some (.int r.1) := rfl
def keepF (b : List Rel) (L : List (List Nat)) (t : Tie) : List (List Nat) := L.filter fun r => keepT b r t
theorem keepF_all {b : List Rel} : ∀ {ts : List Tie} {L : List (List Nat)}, ts.foldl (keepF b) L = L.filter fun r => ts.all fun t => keepT b r t
  | [], L => (List.filter_eq_self.mpr fun _ _ => rfl).symm
  | t :: ts, L => by
    rw [List.foldl_cons, keepF_all, keepF, List.filter_filter]
    refine List.filter_congr fun r _ => ?_
    rw [List.all_cons, Bool.and_comm]
theorem law_fillings_s (n : Nat) {g : Game} (hg : GameOk g) (st : Store) : callD (Rr (n + 2)) F__law_fillings [eG g] st = .ok (.lst ((fill g).map eRow)) st := by
  have hm := hg.2.2.2.1
  have h2p : 2 ^ g.2.1 ≤ 4096 := Nat.pow_le_pow_right (n := 2) (by decide) (show g.2.1 ≤ 12 from hm)
  refine Rs_eq (Rs_call rfl (by simp) rfl ?_)
  simp [f__law_fillings]
  refine Rs.of (lcN eN (List.range (2 ^ g.2.1)) (fun c => eRow (rowOf g.2.1 c)) (by simp; omega) ?_ (fun c hc => ?_)) ?_
  · simp [eG_1]
    rw [if_pos (by omega)]
    have := rng_walk (k := 2 ^ g.2.1) (st := ([] : Store)) (by omega)
    simp at this
    simp [this]
  · simp [eG_1, eN_, law_row_s n (show g.2.1 ≤ 1000 by omega)]
  · have hr : ((List.range (2 ^ g.2.1)).map fun c => eRow (rowOf g.2.1 c)) = (allRows g.2.1).map eRow := by rw [allRows, List.map_map]; rfl
    rw [hr]
    simp
    refine Fs_forFold eTie g.2.2 (keepF g.1) (allRows g.2.1) (fun c (o : Option D × Option D × Option D × Option D × Option D) => [some (eG g), some (.lst (c.map eRow)), o.1, o.2.1, o.2.2.1, o.2.2.2.1, o.2.2.2.2]) (fun _ => []) ?_ ⟨(_, _, _, _, _), rfl⟩ rfl ?_ ?_
    · simp [eG_2, eTies]; rfl
    · rintro done t rest hts o c hc
      have hcs : c = (allRows g.2.1).filter fun r => done.all fun t => keepT g.1 r t := by rw [hc, keepF_all]
      have hcl : c.length ≤ 1000000 := by
        rw [hcs]
        have := List.length_filter_le (fun r => done.all fun t => keepT g.1 r t) (allRows g.2.1)
        rw [allRows_card] at this
        omega
      have hti : TieOk g.1 g.2.1 t := hg.2.2.2.2.2 t (by rw [hts]; simp)
      obtain ⟨rel, hrel, hl, hcc⟩ := hti
      have hrk := (hg.2.2.1 rel (List.mem_of_getElem? hrel)).2.1
      simp [eTie, eN_]
      refine Rs.of (lcF eRow c (fun r => keepT g.1 r t) eRow hcl (by simp) (fun row hrow => ⟨_, rfl, ?_, fun _ => by simp⟩)) ?_
      · have hrl : row.length = g.2.1 := by
          rw [hcs] at hrow
          exact allRows_len (List.mem_filter.mp hrow).1
        simp
        refine Rs.of (lcN eN t.2 (fun c => eN (row.getD c 0)) (by omega) (by simp [eRow]) (fun c hcm => ?_)) ?_
        · have := hcc c hcm
          simp [eN_, eRow, hrl, this]
        · have hv : (t.2.map fun c => eN (row.getD c 0)) = (t.2.map fun c => row.getD c 0).map eN := by rw [List.map_map]; rfl
          have hkt : keepT g.1 row t = decide ((t.2.map fun c => row.getD c 0) ∈ rel.2) := by unfold keepT; rw [relAt hrel]
          rw [hv, hkt]
          generalize (t.2.map fun c => row.getD c 0) = x
          have hin := in_rows (R := Rr (n + 1)) (st := []) (x := x) (rows := rel.2)
          have : D.tup (x.map eN) = eRow x := rfl
          have h2 : D.tup (rel.2.map eRow) = eRows rel.2 := rfl
          rw [h2] at hin
          simp [this, eG_0, eBook_idx hrel, eRel_1, hin]
      · simp [keepF]
    · intro o
      rw [keepF_all]
      simp
      exact frzP (purL_map fun _ => pur_eRow)
end Tab
end
section
set_option linter.all false
set_option maxRecDepth 100000
namespace Tab
open Dn
theorem getD_stepN {m : Nat} {ns : List Nat} {p : Nat × Nat} {c : Nat} (h : ns.length = m) (hc : c < m) : (stepN ns p).getD c 0 = if ns.getD c 0 = max (ns.getD p.1 0) (ns.getD p.2 0) then min (ns.getD p.1 0) (ns.getD p.2 0) else ns.getD c 0 := by
  unfold stepN
  rw [getD_map (by omega)]
theorem stepN_len {ns : List Nat} {p : Nat × Nat} : (stepN ns p).length = ns.length := by simp [stepN]
theorem fold_le {m : Nat} : ∀ {ps : Prs} {ns : List Nat}, ns.length = m → (∀ c, c < m → ns.getD c 0 ≤ c) → (∀ p ∈ ps, p.1 < m ∧ p.2 < m) → ∀ c, c < m → (ps.foldl stepN ns).getD c 0 ≤ c
  | [], ns, _, h, _, c, hc => h c hc
  | p :: ps, ns, hl, h, hp, c, hc => by
    rw [List.foldl_cons]
    refine fold_le (by rw [stepN_len, hl]) (fun c hc => ?_) (fun q hq => hp q (by simp [hq])) c hc
    rw [getD_stepN hl hc]
    have := h c hc
    split <;> omega
theorem fold_eq {m : Nat} {x : List Nat} : ∀ {ps : Prs} {ns : List Nat}, ns.length = m → (∀ c, c < m → x.getD (ns.getD c 0) 0 = x.getD c 0) → (∀ p ∈ ps, p.1 < m ∧ p.2 < m) → (∀ p ∈ ps, x.getD p.1 0 = x.getD p.2 0) → ∀ c, c < m → x.getD ((ps.foldl stepN ns).getD c 0) 0 = x.getD c 0
  | [], ns, _, h, _, _, c, hc => h c hc
  | p :: ps, ns, hl, h, hp, hx, c, hc => by
    rw [List.foldl_cons]
    refine fold_eq (by rw [stepN_len, hl]) (fun c hc => ?_) (fun q hq => hp q (by simp [hq])) (fun q hq => hx q (by simp [hq])) c hc
    rw [getD_stepN hl hc]
    have h0 := h c hc
    have hpp := hp p (by simp)
    have h1 := h p.1 hpp.1
    have h2 := h p.2 hpp.2
    have h3 := hx p (by simp)
    split
    · rename_i e
      rw [e] at h0
      rcases Nat.le_total (ns.getD p.1 0) (ns.getD p.2 0) with q | q
      · rw [Nat.max_eq_right q] at h0
        rw [Nat.min_eq_left q, h1, h3, ← h2]; exact h0
      · rw [Nat.max_eq_left q] at h0
        rw [Nat.min_eq_right q, h2, ← h3, ← h1]; exact h0
    · exact h0
theorem fold_same {m : Nat} : ∀ {ps : Prs} {ns : List Nat} {a b : Nat}, ns.length = m → a < m → b < m → ns.getD a 0 = ns.getD b 0 → (ps.foldl stepN ns).getD a 0 = (ps.foldl stepN ns).getD b 0
  | [], ns, a, b, _, _, _, h => h
  | p :: ps, ns, a, b, hl, ha, hb, h => by
    rw [List.foldl_cons]
    refine fold_same (by rw [stepN_len, hl]) ha hb ?_
    rw [getD_stepN hl ha, getD_stepN hl hb, h]
theorem fold_pairs {m : Nat} : ∀ {ps : Prs} {ns : List Nat}, ns.length = m → (∀ p ∈ ps, p.1 < m ∧ p.2 < m) → ∀ p ∈ ps, (ps.foldl stepN ns).getD p.1 0 = (ps.foldl stepN ns).getD p.2 0
  | [], _, _, _, p, hp => by simp at hp
  | q :: ps, ns, hl, h, p, hp => by
    rw [List.foldl_cons]
    rcases List.mem_cons.mp hp with rfl | hp
    · have hpp := h p (by simp)
      refine fold_same (by rw [stepN_len, hl]) hpp.1 hpp.2 ?_
      rw [getD_stepN hl hpp.1, getD_stepN hl hpp.2]
      split <;> split <;> omega
    · exact fold_pairs (by rw [stepN_len, hl]) (fun q hq => h q (by simp [hq])) p hp
theorem range_getD {m c : Nat} (h : c < m) : (List.range m).getD c 0 = c := by simp [h]
theorem firsts_le {m : Nat} {ps : Prs} (h : PrsOk ps m) {c : Nat} (hc : c < m) : (firsts m ps).getD c 0 ≤ c :=
  fold_le (by simp) (fun c hc => by rw [range_getD hc]; exact Nat.le_refl _) h.2 c hc
theorem firsts_pairs {m : Nat} {ps : Prs} (h : PrsOk ps m) {p : Nat × Nat} (hp : p ∈ ps) : (firsts m ps).getD p.1 0 = (firsts m ps).getD p.2 0 :=
  fold_pairs (by simp) h.2 p hp
theorem firsts_const {m : Nat} {ps : Prs} {x : List Nat} (h : PrsOk ps m) (hx : ∀ p ∈ ps, x.getD p.1 0 = x.getD p.2 0) {c : Nat} (hc : c < m) : x.getD ((firsts m ps).getD c 0) 0 = x.getD c 0 :=
  fold_eq (by simp) (fun c hc => by rw [range_getD hc]) h.2 hx c hc
/-- the class of a cell -/
def cls (m : Nat) (ps : Prs) (c : Nat) : Nat := (heads m ps).idxOf ((firsts m ps).getD c 0)
theorem classes_getD {m : Nat} {ps : Prs} (h : PrsOk ps m) {c : Nat} (hc : c < m) : (classes m ps).getD c 0 = cls m ps c := by
  have hl := (firsts_ok h).1
  unfold classes cls
  rw [getD_map (f := fun f => (heads m ps).idxOf f) (by omega)]
theorem classes_len {m : Nat} {ps : Prs} (h : PrsOk ps m) : (classes m ps).length = m := by
  have hl := (firsts_ok h).1
  simp [classes, hl]
theorem cls_lt {m : Nat} {ps : Prs} (h : PrsOk ps m) {c : Nat} (hc : c < m) : cls m ps c < (heads m ps).length := List.idxOf_lt_length_of_mem (firsts_mem h hc)
theorem head_cls {m : Nat} {ps : Prs} (h : PrsOk ps m) {c : Nat} (hc : c < m) : (heads m ps).getD (cls m ps c) 0 = (firsts m ps).getD c 0 := by
  have hl := cls_lt h hc
  rw [List.getD_eq_getElem?_getD, List.getElem?_eq_getElem hl]
  exact List.getElem_idxOf hl
theorem heads_mem {m : Nat} {ps : Prs} {c : Nat} : c ∈ heads m ps ↔ c < m ∧ (firsts m ps).getD c 0 = c := by simp [heads]
theorem cls_head {m : Nat} {ps : Prs} (h : PrsOk ps m) {i : Nat} (hi : i < (heads m ps).length) : cls m ps ((heads m ps).getD i 0) = i := by
  have hm : (heads m ps).getD i 0 ∈ heads m ps := by
    rw [List.getD_eq_getElem?_getD, List.getElem?_eq_getElem hi]; exact List.getElem_mem hi
  unfold cls
  rw [(heads_mem.mp hm).2, List.getD_eq_getElem?_getD, List.getElem?_eq_getElem hi]
  exact List.Nodup.idxOf_getElem heads_nodup i hi
/-- a row of the merged puzzle, back on the cells -/
def backR (m : Nat) (ps : Prs) (row : List Nat) : List Nat := (classes m ps).map fun i => row.getD i 0
theorem backR_len {m : Nat} {ps : Prs} (h : PrsOk ps m) {row : List Nat} : (backR m ps row).length = m := by simp [backR, classes_len h]
theorem backR_getD {m : Nat} {ps : Prs} (h : PrsOk ps m) {row : List Nat} {c : Nat} (hc : c < m) : (backR m ps row).getD c 0 = row.getD (cls m ps c) 0 := by
  have := classes_len h
  unfold backR
  rw [getD_map (f := fun i => row.getD i 0) (by omega), classes_getD h hc]
theorem mem_allRows : ∀ {n : Nat} {r : List Nat}, r ∈ allRows n ↔ r.length = n ∧ ∀ b ∈ r, b < 2
  | n, r => by
    constructor
    · intro h
      refine ⟨allRows_len h, ?_⟩
      obtain ⟨c, _, rfl⟩ := List.mem_map.mp h
      exact rowOf_lt
    · rintro ⟨rfl, h⟩
      have key : ∀ (k : Nat) (r : List Nat), r.length = k → (∀ b ∈ r, b < 2) → r ∈ allRows k := by
        intro k
        induction k with
        | zero =>
          intro r hl _
          rw [List.length_eq_zero_iff.mp hl, allRows_zero]; simp
        | succ k ih =>
          intro r hl hb
          have hne : r ≠ [] := by intro e; simp [e] at hl
          obtain ⟨a, v, rfl⟩ : ∃ a v, r = a ++ [v] := ⟨r.dropLast, r.getLast hne, (List.dropLast_concat_getLast hne).symm⟩
          rw [allRows_succ, List.mem_flatMap]
          have hv := hb v (by simp)
          refine ⟨a, ih a (by simpa using hl) (fun b hb' => hb b (by simp [hb'])), List.mem_map.mpr ⟨v, ?_, rfl⟩⟩
          simp
          omega
      exact key _ r rfl h
theorem getD_lt2 {r : List Nat} (h : ∀ b ∈ r, b < 2) (i : Nat) : r.getD i 0 < 2 := by
  rw [List.getD_eq_getElem?_getD]
  cases e : r[i]? with
  | none => decide
  | some b => exact h b (List.mem_of_getElem? e)
theorem keepT_back {g : Game} {ps : Prs} (h : PrsOk ps g.2.1) {row : List Nat} {t : Tie} (ht : ∀ c ∈ t.2, c < g.2.1) : keepT g.1 (backR g.2.1 ps row) t = keepT g.1 row (mTie g.2.1 ps t) := by
  unfold keepT mTie
  have : (t.2.map fun c => (backR g.2.1 ps row).getD c 0) = (t.2.map fun c => (heads g.2.1 ps).idxOf ((firsts g.2.1 ps).getD c 0)).map fun c => row.getD c 0 := by
    rw [List.map_map]
    exact List.map_congr_left fun c hc => backR_getD h (ht c hc)
  rw [this]
def alike (g : Game) (ps : Prs) : List (List Nat) := (fill g).filter fun row => ps.all fun p => decide (row.getD p.1 0 = row.getD p.2 0)
theorem mem_alike {g : Game} {ps : Prs} (hg : GameOk g) (h : PrsOk ps g.2.1) {x : List Nat} : x ∈ alike g ps ↔ x ∈ (fill (mGame g ps)).map (backR g.2.1 ps) := by
  have htc : ∀ t ∈ g.2.2, ∀ c ∈ t.2, c < g.2.1 := fun t ht => by
    obtain ⟨_, _, _, q⟩ := hg.2.2.2.2.2 t ht
    exact q
  constructor
  · intro hx
    obtain ⟨h1, h2⟩ := List.mem_filter.mp hx
    obtain ⟨h3, h4⟩ := List.mem_filter.mp h1
    obtain ⟨h5, h6⟩ := mem_allRows.mp h3
    simp only [List.all_eq_true, decide_eq_true_eq] at h2 h4
    have hbk : backR g.2.1 ps ((heads g.2.1 ps).map fun c => x.getD c 0) = x := by
      refine List.ext_getElem (by rw [backR_len h, h5]) fun c hc1 hc2 => ?_
      have hc : c < g.2.1 := by rw [← h5]; exact hc2
      have e1 := backR_getD h (row := (heads g.2.1 ps).map fun c => x.getD c 0) hc
      rw [getD_map (f := fun c => x.getD c 0) (cls_lt h hc), head_cls h hc, firsts_const h h2 hc] at e1
      rw [List.getD_eq_getElem?_getD, List.getElem?_eq_getElem hc1, List.getD_eq_getElem?_getD, List.getElem?_eq_getElem hc2] at e1
      exact e1
    refine List.mem_map.mpr ⟨(heads g.2.1 ps).map fun c => x.getD c 0, List.mem_filter.mpr ⟨mem_allRows.mpr ⟨by simp [mGame], fun b hb => ?_⟩, ?_⟩, hbk⟩
    · obtain ⟨c, _, rfl⟩ := List.mem_map.mp hb
      exact getD_lt2 h6 c
    · simp only [mGame, List.all_map, List.all_eq_true, Function.comp]
      intro t ht
      rw [← keepT_back h (htc t ht), hbk]
      exact h4 t ht
  · intro hx
    obtain ⟨row, hr, rfl⟩ := List.mem_map.mp hx
    obtain ⟨h3, h4⟩ := List.mem_filter.mp hr
    obtain ⟨h5, h6⟩ := mem_allRows.mp h3
    simp only [mGame, List.all_map, List.all_eq_true, Function.comp] at h4
    refine List.mem_filter.mpr ⟨List.mem_filter.mpr ⟨mem_allRows.mpr ⟨backR_len h, fun b hb => ?_⟩, ?_⟩, ?_⟩
    · obtain ⟨c, _, rfl⟩ := List.mem_map.mp hb
      exact getD_lt2 h6 c
    · rw [List.all_eq_true]
      intro t ht
      rw [keepT_back h (htc t ht)]
      exact h4 t ht
    · rw [List.all_eq_true]
      intro p hp
      have hpp := h.2 p hp
      rw [decide_eq_true_eq, backR_getD h hpp.1, backR_getD h hpp.2]
      unfold cls
      rw [firsts_pairs h hp]
/-! ### the order -/
theorem lexlt_iff : ∀ {x y : List Nat}, x.length = y.length → (lexlt x y = true ↔ ∃ i, i < x.length ∧ x.getD i 0 < y.getD i 0 ∧ ∀ j, j < i → x.getD j 0 = y.getD j 0)
  | [], [], _ => by simp [lexlt]
  | [], _ :: _, h => by simp at h
  | _ :: _, [], h => by simp at h
  | a :: x, b :: y, h => by
    rw [lexlt]
    have ih := lexlt_iff (x := x) (y := y) (by simpa using h)
    by_cases e : a = b
    · rw [if_pos e, ih]
      constructor
      · rintro ⟨i, h1, h2, h3⟩
        refine ⟨i + 1, by simpa using h1, by simpa using h2, fun j hj => ?_⟩
        cases j with
        | zero => simpa using e
        | succ j => simpa using h3 j (by omega)
      · rintro ⟨i, h1, h2, h3⟩
        cases i with
        | zero => simp at h2; omega
        | succ i => exact ⟨i, by simpa using h1, by simpa using h2, fun j hj => by simpa using h3 (j + 1) (by omega)⟩
    · rw [if_neg e]
      simp only [decide_eq_true_eq]
      constructor
      · exact fun q => ⟨0, by simp, by simpa using q, fun j hj => by omega⟩
      · rintro ⟨i, h1, h2, h3⟩
        cases i with
        | zero => simpa using h2
        | succ i => exact absurd (by simpa using h3 0 (by omega)) e
theorem heads_rise {m : Nat} {ps : Prs} : (heads m ps).Pairwise fun a b => a < b := (List.pairwise_lt_range).filter _
theorem heads_lt {m : Nat} {ps : Prs} {i j : Nat} (hij : i < j) (hj : j < (heads m ps).length) : (heads m ps).getD i 0 < (heads m ps).getD j 0 := by
  rw [List.getD_eq_getElem?_getD, List.getD_eq_getElem?_getD, List.getElem?_eq_getElem hj, List.getElem?_eq_getElem (by omega)]
  exact List.pairwise_iff_getElem.mp heads_rise i j (by omega) hj hij
theorem backR_lexlt {m : Nat} {ps : Prs} (h : PrsOk ps m) {x y : List Nat} (hx : x.length = (heads m ps).length) (hy : y.length = (heads m ps).length) (q : lexlt x y = true) : lexlt (backR m ps x) (backR m ps y) = true := by
  obtain ⟨i, h1, h2, h3⟩ := (lexlt_iff (by omega)).mp q
  rw [lexlt_iff (by rw [backR_len h, backR_len h]), backR_len h]
  rw [hx] at h1
  have hm : (heads m ps).getD i 0 ∈ heads m ps := by
    rw [List.getD_eq_getElem?_getD, List.getElem?_eq_getElem h1]; exact List.getElem_mem h1
  have hc := (heads_mem.mp hm).1
  refine ⟨(heads m ps).getD i 0, hc, ?_, fun c hcl => ?_⟩
  · rw [backR_getD h hc, backR_getD h hc, cls_head h h1]; exact h2
  · have hcm : c < m := by omega
    rw [backR_getD h hcm, backR_getD h hcm]
    refine h3 _ ?_
    have h4 := firsts_le h hcm
    have h5 := head_cls h hcm
    have h6 := cls_lt h hcm
    by_cases e : cls m ps c < i
    · exact e
    · exfalso
      rcases Nat.lt_or_ge i (cls m ps c) with q | q
      · have := heads_lt (m := m) (ps := ps) q h6
        omega
      · have : cls m ps c = i := by omega
        rw [this] at h5
        omega
theorem rise_eq : ∀ {xs ys : List (List Nat)}, xs.Pairwise (fun a b => lexlt a b = true) → ys.Pairwise (fun a b => lexlt a b = true) → (∀ x, x ∈ xs ↔ x ∈ ys) → xs = ys
  | [], [], _, _, _ => rfl
  | [], y :: ys, _, _, h => by have := (h y).mpr (by simp); simp at this
  | x :: xs, [], _, _, h => by have := (h x).mp (by simp); simp at this
  | x :: xs, y :: ys, h1, h2, h => by
    rw [List.pairwise_cons] at h1 h2
    have e : x = y := by
      rcases List.mem_cons.mp ((h x).mp (by simp)) with q | q
      · exact q
      · rcases List.mem_cons.mp ((h y).mpr (by simp)) with q2 | q2
        · exact q2.symm
        · have a1 := h2.1 x q
          have a2 := h1.1 y q2
          rw [lexlt_asym a1] at a2
          exact Bool.noConfusion a2
    subst e
    congr 1
    refine rise_eq h1.2 h2.2 fun z => ?_
    have hz := h z
    constructor
    · intro q
      rcases List.mem_cons.mp (hz.mp (by simp [q])) with e | e
      · subst e
        have := h1.1 _ q
        rw [lexlt_irr] at this
        exact Bool.noConfusion this
      · exact e
    · intro q
      rcases List.mem_cons.mp (hz.mpr (by simp [q])) with e | e
      · subst e
        have := h2.1 _ q
        rw [lexlt_irr] at this
        exact Bool.noConfusion this
      · exact e
theorem allRows_rise {n : Nat} : (allRows n).Pairwise fun a b => lexlt a b = true := by
  have := rows_rise (n := n) (p := fun _ => true)
  rw [List.filter_eq_self.mpr (fun _ _ => rfl)] at this
  exact this
theorem fill_rise {g : Game} : (fill g).Pairwise fun a b => lexlt a b = true := allRows_rise.filter _
theorem alike_eq {g : Game} {ps : Prs} (hg : GameOk g) (h : PrsOk ps g.2.1) : alike g ps = (fill (mGame g ps)).map (backR g.2.1 ps) := by
  refine rise_eq (fill_rise.filter _) ?_ fun x => mem_alike hg h
  refine List.pairwise_map.mpr (fill_rise.imp_of_mem fun {a b} ha hb q => ?_)
  have la : ∀ {r : List Nat}, r ∈ fill (mGame g ps) → r.length = (heads g.2.1 ps).length := fun hr => allRows_len (List.mem_filter.mp hr).1
  exact backR_lexlt h (la ha) (la hb) q
theorem back_sorted {g : Game} {ps : Prs} (hg : GameOk g) (h : PrsOk ps g.2.1) : ((fill (mGame g ps)).map (backR g.2.1 ps)).Pairwise fun a b => lexlt a b = true := by
  rw [← alike_eq hg h]
  exact fill_rise.filter _
/-- how many classes -/
theorem classes_top {m : Nat} {ps : Prs} (h : PrsOk ps m) (hm : 0 < m) : topN (classes m ps) + 1 = (heads m ps).length := by
  have hl := classes_len h
  have h1 : ∀ c ∈ classes m ps, c < (heads m ps).length := by
    intro c hc
    obtain ⟨i, hi, e⟩ := List.getElem_of_mem hc
    have := classes_getD h (c := i) (by omega)
    rw [List.getD_eq_getElem?_getD, List.getElem?_eq_getElem hi] at this
    simp at this
    rw [← e, this]
    exact cls_lt h (by omega)
  have h0 := cls_lt h hm
  have h2 := topN_lt h1 (by omega)
  have h3 : (heads m ps).length - 1 ∈ classes m ps := by
    have hi : (heads m ps).length - 1 < (heads m ps).length := by omega
    have hmem : (heads m ps).getD ((heads m ps).length - 1) 0 ∈ heads m ps := by
      rw [List.getD_eq_getElem?_getD, List.getElem?_eq_getElem hi]; exact List.getElem_mem hi
    have hcm := (heads_mem.mp hmem).1
    have e1 := classes_getD h hcm
    rw [cls_head h hi] at e1
    have hcl : (heads m ps).getD ((heads m ps).length - 1) 0 < (classes m ps).length := by omega
    rw [List.getD_eq_getElem?_getD (l := classes m ps), List.getElem?_eq_getElem hcl] at e1
    simp only [Option.getD_some] at e1
    rw [← e1]
    exact List.getElem_mem hcl
  have := topN_ge h3
  omega
end Tab
end
section
set_option linter.all false
set_option maxRecDepth 100000
namespace Tab
open Dn
theorem max_m1 {R : Run} {cs : List Nat} {st : Store} : evBlt R .max [.lst (cs.map eN ++ [.int (-1)])] st = .ok (.int (if cs = [] then -1 else (topN cs : Int))) st := by
  rw [blt_is (by simp)]
  have hi : «ints» (cs.map eN ++ [.int (-1)]) = some ((cs.map fun (c : Nat) => (c : Int)) ++ [-1]) := by
    induction cs with
    | nil => rfl
    | cons c cs ih => rw [List.map_cons, List.cons_append, eN_, «ints», ih]; rfl
  have : blt .max [.lst (cs.map eN ++ [.int (-1)])] st = some (.int (if cs = [] then -1 else (topN cs : Int))) := by
    show ((«ints» (cs.map eN ++ [.int (-1)])).bind fun ns => (maxI ns).map D.int) = _
    rw [hi]
    show (maxI _).map D.int = _
    cases cs with
    | nil => rfl
    | cons c cs =>
      rw [if_neg (by simp), List.map_cons, List.cons_append, maxI, List.foldl_append, foldl_max_cast]
      show some (D.int (if (-1 : Int) > ((cs.foldl max c : Nat) : Int) then -1 else ((cs.foldl max c : Nat) : Int))) = _
      rw [if_neg (by omega), topN, List.foldl_cons, Nat.zero_max]
  rw [this]
def sTold : D := .str (PySem.Str.ofString "told")
def sNum : D := .str (PySem.Str.ofString "number")
theorem dat_sTold : sTold.dat 60 = true := by decide +kernel
theorem dat_sNum {n : Nat} : D.dat n sNum = true := by
  rw [sNum, dat_str]; decide +kernel
theorem ne_told {R : Run} {s : Store} : evCmp R .ne (.str (PySem.Str.ofString "told")) (.str (PySem.Str.ofString "told")) s = .ok (.bl false) s := by
  show evCmp R .ne sTold sTold s = _
  rw [evCmp_ne_dat dat_sTold dat_sTold, eqv_refl 60 _ dat_sTold]; rfl
theorem ne_same {R : Run} {s : Store} {d : D} (h : d.dat 60 = true) : evCmp R .ne d d s = .ok (.bl false) s := by
  rw [evCmp_ne_dat h h, eqv_refl 60 _ h]; rfl
theorem many_eq {m : Nat} {ps : Prs} (h : PrsOk ps m) : (if classes m ps = [] then -1 else (topN (classes m ps) : Int)) + 1 = ((heads m ps).length : Int) := by
  have hl := classes_len h
  by_cases hm : m = 0
  · subst hm
    rw [if_pos (List.length_eq_zero_iff.mp hl)]
    have := heads_le (m := 0) (ps := ps)
    omega
  · rw [if_neg (by intro e; rw [e] at hl; simp at hl; omega)]
    have := classes_top h (by omega)
    omega
theorem isD_rows {rows : List (List Nat)} {m : Nat} (h : rows.length ≤ 1000000) (h2 : ∀ r ∈ rows, r.length ≤ 1000) : isD 2 (.tup (rows.map eRow)) = true := by
  simp [h]
  intro r hr
  exact isD_eRow 0 (by have := h2 r hr; omega)
theorem fill_len {g : Game} (hg : GameOk g) : (fill g).length ≤ 4096 := by
  have := List.length_filter_le (fun row => g.2.2.all fun t => keepT g.1 row t) (allRows g.2.1)
  rw [allRows_card] at this
  have h2p : 2 ^ g.2.1 ≤ 4096 := Nat.pow_le_pow_right (n := 2) (by decide) (show g.2.1 ≤ 12 from hg.2.2.2.1)
  exact Nat.le_trans this h2p
theorem fill_row {g : Game} {r : List Nat} (h : r ∈ fill g) : r.length = g.2.1 := allRows_len (List.mem_filter.mp h).1
theorem merged_is_s (n : Nat) {h a : Nat} {g : Game} {st : Store} (hk : HandOk h a st) (hg : GameOk g) : Rs (callD (Rr (n + 9)) F__law_merged_is [.ref h, eG g, oPuz g] st) (fun d s => d = .bl true ∧ Keep h a st s) noE := by
  have hm := hg.2.2.2.1
  have htl := hg.2.2.2.2.1
  refine Rs_callI rfl (by simp) rfl ?_
  simp [f__law_merged_is, eG_1]
  refine (law_pairs_s (n + 6) hk (show g.2.1 ≤ 1000 by omega)).imp (fun d s1 hd => ?_) fun _ _ _ f => f.elim
  obtain ⟨ps, rfl, hp, kk1⟩ := hd
  have hcl := classes_s (n + 7) (show g.2.1 ≤ 1000 by omega) hp
  have hcz : sz ((classes g.2.1 ps).length + 1) = true := sz_le (by rw [classes_len hp]; omega)
  have hgm := mGame_ok hg hp
  have hhl := heads_le (m := g.2.1) (ps := ps)
  simp [eG_1, eG_0, hcl, hcz, max_m1, many_eq hp]
  refine Rs.of (lcN eTie g.2.2 (fun t => eTie (mTie g.2.1 ps t)) (by omega) (by simp [eG_2, eTies]) (fun t ht => ?_)) ?_
  · obtain ⟨r, hr, hl, hc⟩ := hg.2.2.2.2.2 t ht
    have hrk := (hg.2.2.1 r (List.mem_of_getElem? hr)).2.1
    simp [eTie]
    refine Rs.of (lcN eN t.2 (fun c => eN ((classes g.2.1 ps).getD c 0)) (by omega) (by simp [eRow]) (fun c hcm => ?_)) ?_
    · have := hc c hcm
      simp [eN_, getIdx_ints, classes_len hp, this]
    · have : (t.2.map fun c => eN ((classes g.2.1 ps).getD c 0)) = (t.2.map fun c => (heads g.2.1 ps).idxOf ((firsts g.2.1 ps).getD c 0)).map eN := by
        rw [List.map_map]
        exact List.map_congr_left fun c hcm => by rw [classes_getD hp (hc c hcm)]; rfl
      rw [this]
      simp [mTie, eRow]
  · have hdue : D.tup [eBook g.1, .int (heads g.2.1 ps).length, .tup (g.2.2.map fun t => eTie (mTie g.2.1 ps t))] = eG (mGame g ps) := by
      simp [eG, mGame, eTies, eN_]
    have ht1 := told1_s (n + 2) hg hp
    simp [hdue, ht1, ne_told]
    have hpi := puzzle_is_s n hgm
    simp [hpi, eG_1]
    refine (law_wrong_s (n + 6) kk1.1 hp (show g.2.1 ≤ 1000 by omega)).imp (fun w s2 hd => ?_) fun _ _ _ f => f.elim
    obtain ⟨⟨hw1, hw2, hw3⟩, kd2⟩ := hd
    have kk2 := kk1.trans kd2
    have hwd : w.dat 60 = true := dat_up 3 60 w (by omega) (short_dat 3 w hw1)
    have ht2 := told1_bad (n + 3) hwd hw3 hw2 (short_repr hw1)
    have hrp := fun s => blt_repr (R := Rk tb Fu (n + 8)) (st := s) hwd (short_repr hw1)
    have hne := fun s => ne_same (R := Rk tb Fu (n + 8)) (s := s) (d := .tup [.str (PySem.Str.ofString "number"), .str (reprD w), .bl false]) (by
      have h1 := short_reprD (n := 59) hw1
      have h2 := dat_sNum (n := 59)
      rw [dat_tup60, datL_cons, datL_cons, datL_cons, h1]
      rw [sNum] at h2
      rw [h2]; rfl)
    simp [ht2, hrp, hne]
    split
    · exact kk2
    · have hlf := law_fillings_s (n + 6) hgm
      have hf1 := fillings_s (n + 4) hgm
      have hf2 := fillings_s (n + 4) hg
      have hfl1 := fill_len hgm
      have hfl2 := fill_len hg
      have hi1 := fun s => law_is_s 2 (.tup ((fill (mGame g ps)).map eRow)) (isD_rows (m := 0) (by omega) (fun r hr => by rw [fill_row hr]; exact Nat.le_trans hhl (by omega))) (n + 5) s
      rw [show n + 5 + 2 + 1 = n + 8 from rfl] at hi1
      simp [hlf, hf1, hi1, eG_1]
      split
      · exact kk2
      · obtain ⟨P, hP⟩ : ∃ P : List Nat → Bool, P = fun row => ps.all fun p => decide (row.getD p.1 0 = row.getD p.2 0) := ⟨_, rfl⟩
        refine Rs.of (lcF eRow (fill g) P eRow (by omega) (by simp [hf2]) (fun row hrow => ⟨_, rfl, ?_, fun _ => by simp⟩)) ?_
        · have hrl := fill_row hrow
          simp
          refine Rs.of (lcN ePair ps (fun p => .bl (decide (row.getD p.1 0 = row.getD p.2 0))) (by have := hp.1; omega) (by simp [ePrs]) (fun p hpm => ?_)) ?_
          · have hpp := hp.2 p hpm
            simp [ePair, eN_, eRow, hrl, hpp.1, hpp.2]
            omega
          · simp only [Rs_bnd, Rs_ret, evL_nil]
            refine Rs.of blt_all ?_
            rw [show (ps.all fun p => decide (row.getD p.1 0 = row.getD p.2 0)) = P row by rw [hP]]
            cases P row <;> simp
        · have hal : (fill g).filter P = (fill (mGame g ps)).map (backR g.2.1 ps) := by rw [hP]; exact alike_eq hg hp
          rw [hal]
          have hsrt := back_sorted hg hp
          obtain ⟨B, hB⟩ : ∃ B, B = (fill (mGame g ps)).map (backR g.2.1 ps) := ⟨_, rfl⟩
          rw [← hB] at hsrt ⊢
          simp
          refine Rs.of (lcN eRow (fill (mGame g ps)) (fun row => eRow (backR g.2.1 ps row)) (by omega) (by simp) (fun row hrow => ?_)) ?_
          · have hrl := fill_row hrow
            have hcl2 : (classes g.2.1 ps).length ≤ 1000000 := by rw [classes_len hp]; omega
            simp
            refine Rs.of (lcN eN (classes g.2.1 ps) (fun i => eN (row.getD i 0)) hcl2 (by simp) (fun i hi => ?_)) ?_
            · have hil : i < row.length := by
                obtain ⟨c, hc, e⟩ := List.getElem_of_mem hi
                have h1 := classes_getD hp (c := c) (by rw [classes_len hp] at hc; exact hc)
                rw [List.getD_eq_getElem?_getD, List.getElem?_eq_getElem hc] at h1
                simp at h1
                rw [hrl, ← e, h1]
                exact cls_lt hp (by rw [classes_len hp] at hc; exact hc)
              simp [eN_, eRow, hil]
            · have : ((classes g.2.1 ps).map fun i => eN (row.getD i 0)) = (backR g.2.1 ps row).map eN := by rw [backR, List.map_map]; rfl
              rw [this]
              simp [eRow]
          · have hbm : ((fill (mGame g ps)).map fun row => eRow (backR g.2.1 ps row)) = ((fill (mGame g ps)).map (backR g.2.1 ps)).map eRow := by rw [List.map_map]; rfl
            rw [hbm, ← hB]
            have hBl : ∀ r ∈ B, r.length = g.2.1 := by
              intro r hr
              rw [hB] at hr
              obtain ⟨x, _, rfl⟩ := List.mem_map.mp hr
              exact backR_len hp
            have hBn : B.length ≤ 4096 := by rw [hB, List.length_map]; exact hfl1
            have hso : sortOk (B.map eRow) = true := by
              refine sortOk_rows ?_
              by_cases hm0 : g.2.1 = 0
              · left
                rw [hB, List.length_map]
                have h0 : (heads g.2.1 ps).length = 0 := by omega
                have := List.length_filter_le (fun row => (mGame g ps).2.2.all fun t => keepT (mGame g ps).1 row t) (allRows (mGame g ps).2.1)
                rw [allRows_card] at this
                have h2 : (mGame g ps).2.1 = 0 := h0
                rw [h2] at this
                show ((allRows (mGame g ps).2.1).filter _).length < 2
                rw [h2]
                omega
              · right
                intro r hr e
                have := hBl r hr
                rw [e] at this
                simp at this
                omega
            have hsd := sortD_rows hsrt
            have hsb : ∀ s, evBlt (Rk tb Fu (n + 8)) .sorted [.lst (B.map eRow)] s = .ok (.lst (B.map eRow)) s := fun s => by
              rw [blt_is (by simp)]
              show (match (if sortOk (B.map eRow) then some (D.lst (sortD (B.map eRow))) else none) with
                | some y => Res.ok y _
                | none => .stk) = _
              rw [hso, hsd]; rfl
            have hi2 := fun s => law_is_s 2 (.tup (B.map eRow)) (isD_rows (m := 0) (by omega) (fun r hr => by rw [hBl r hr]; omega)) (n + 5) s
            rw [show n + 5 + 2 + 1 = n + 8 from rfl] at hi2
            simp [hsb, hi2]
            exact kk2
end Tab
end
section
set_option linter.all false
set_option maxRecDepth 100000
namespace Tab
open Dn
theorem pick4 : ∀ r : Nat, ∀ h : r < 4, ∃ v : Nat, 2 ≤ v ∧ v ≤ 6 ∧ [D.int 2, .int 3, .int 4, .int 6][r]'h = .int v
  | 0, _ => ⟨2, by decide, by decide, rfl⟩
  | 1, _ => ⟨3, by decide, by decide, rfl⟩
  | 2, _ => ⟨4, by decide, by decide, rfl⟩
  | 3, _ => ⟨6, by decide, by decide, rfl⟩
theorem firsts_nil {m : Nat} : firsts m [] = List.range m := rfl
theorem heads_nil {m : Nat} : heads m [] = List.range m := by
  unfold heads
  rw [firsts_nil]
  refine List.filter_eq_self.mpr fun c hc => ?_
  have hc : c < m := by simpa using hc
  simp [hc]
theorem mGame_nil {g : Game} (hg : GameOk g) : mGame g [] = g := by
  obtain ⟨b, m, ts⟩ := g
  have h6 := hg.2.2.2.2.2
  simp only [mGame, heads_nil, List.length_range] at h6 ⊢
  congr 2
  refine (List.map_congr_left (g := id) fun t ht => ?_).trans (List.map_id _)
  obtain ⟨r, _, _, hc⟩ := h6 t ht
  obtain ⟨x, cs⟩ := t
  simp only [mTie, heads_nil, firsts_nil, id]
  congr 1
  refine (List.map_congr_left (g := id) fun c hcm => ?_).trans (List.map_id _)
  have hc' := hc c hcm
  simp only [id]
  rw [range_getD hc']
  have : (List.range m)[c]'(by simpa using hc') = c := by simp
  have h2 := List.Nodup.idxOf_getElem (List.nodup_range (n := m)) c (by simpa using hc')
  rw [this] at h2
  exact h2
theorem prs_nil {m : Nat} : PrsOk [] m := ⟨by simp, by simp⟩
theorem law_runs (ns : List Int) (hn : ns.length ≤ 63) : ∃ st, Dn.run tb 1000000 60 F_law [.lst (ns.map .int)] [] = .ok (.bl true) st := by
  have key : Rs (Dn.run tb 1000000 60 F_law [.lst (ns.map .int)] []) (fun d _ => d = .bl true) noE := by
    refine Rs_callRun (n := 59) rfl rfl ?_
    simp [f_law]
    refine (law_hand_s 58 (show ns.length ≤ 1000 by omega)).imp (fun d s0 hd => ?_) fun _ _ _ f => f.elim
    obtain ⟨h, a, rfl, hk0⟩ := hd
    simp
    refine Rs_draw (n := 58) (Keep.refl hk0) (m := 4) (by decide) fun r1 s1 hr1 kk1 kd1 => ?_
    obtain ⟨v, hv1, hv2, hv⟩ := pick4 r1 hr1
    simp [hr1, hv]
    refine (law_book_s 57 kk1.1 (m := v) (by omega)).imp (fun d s2 hd => ?_) fun _ _ _ f => f.elim
    obtain ⟨b1, rfl, hb1, hr1', hl1, hl1', kd2, hs2⟩ := hd
    have hlt1 := kk1.1.lt
    simp
    refine (law_game_s 57 kd2.1 hb1 (by omega) ⟨hl1, by omega⟩ hr1').imp (fun d s3 hd => ?_) fun _ _ _ f => f.elim
    obtain ⟨g, rfl, hg, rfl, hgm, hgt, kd3⟩ := hd
    simp [eG_0, eBook]
    refine Rs_draw (n := 58) (Keep.refl kd3.1) (m := 3) (by decide) fun r2 s4 hr2 _ kd4 => ?_
    obtain ⟨j, w, hw1, hw2, ej, ew⟩ : ∃ (j : Nat) (w : Nat), 0 < w ∧ w ≤ 6 ∧ (∀ s, bin .mul (.int (r2 : Int)) (.int (if (g.1.length : Int) < 6 then 1 else 0)) s = some (.int (j : Int))) ∧ ∀ s, getIdx (.lst [.int (v : Int), .int (6 - (g.1.length : Int)), .int (7 - (g.1.length : Int))]) (.int (j : Int)) s = some (.int (w : Int)) := by
      by_cases hL : g.1.length < 6
      · have hL' : (g.1.length : Int) < 6 := by omega
        have e6 : (6 : Int) - g.1.length = ((6 - g.1.length : Nat) : Int) := by omega
        have e7 : (7 : Int) - g.1.length = ((7 - g.1.length : Nat) : Int) := by omega
        rw [e6, e7]
        have hb : ∀ s, bin .mul (.int (r2 : Int)) (.int (if (g.1.length : Int) < 6 then 1 else 0)) s = some (.int (r2 : Int)) := fun s => by
          rw [if_pos hL', bin_int, binI_mul, if_pos (by rw [show lim64 1 = true from rfl]; simp), Int.mul_one]; rfl
        have h3 : r2 = 0 ∨ r2 = 1 ∨ r2 = 2 := by omega
        rcases h3 with rfl | rfl | rfl
        · exact ⟨0, v, by omega, by omega, hb, fun _ => rfl⟩
        · exact ⟨1, 6 - g.1.length, by omega, by omega, hb, fun _ => rfl⟩
        · exact ⟨2, 7 - g.1.length, by omega, by omega, hb, fun _ => rfl⟩
      · have hL' : ¬ (g.1.length : Int) < 6 := by omega
        refine ⟨0, v, by omega, by omega, fun s => ?_, fun _ => rfl⟩
        rw [if_neg hL', bin_int, binI_mul, if_pos (by rw [show lim64 0 = true from rfl]; simp), Int.mul_zero]; rfl
    have hs6 : ∀ s, bin .sub (.int 6) (.int (g.1.length : Int)) s = some (.int (6 - (g.1.length : Int))) := fun _ => rfl
    have hs7 : ∀ s, bin .sub (.int 7) (.int (g.1.length : Int)) s = some (.int (7 - (g.1.length : Int))) := fun _ => rfl
    simp [-bin_int, -getIdx_lst, hs6, hs7, ej, ew, eG_0, eBook]
    refine (law_book_s 57 kd4.1 (m := w) (by omega)).imp (fun d s5 hd => ?_) fun _ _ _ f => f.elim
    obtain ⟨b2, rfl, hb2, hr2', hl2, hl2', kd5, hs5⟩ := hd
    have hlt2 := kd4.1.lt
    simp
    refine (law_game_s 57 kd5.1 hb2 (by omega) ⟨hl2, by omega⟩ hr2').imp (fun d s6 hd => ?_) fun _ _ _ f => f.elim
    obtain ⟨k, rfl, hkg, rfl, hkm, hkt, kd6⟩ := hd
    have hm1 : ∀ s, callD (Rk tb 1000000 59) F__law_made [eG g] s = .ok (oPuz g) s := made_s 53 hg
    have hm2 : ∀ s, callD (Rk tb 1000000 59) F__law_made [eG k] s = .ok (oPuz k) s := made_s 53 hkg
    simp [hm1, hm2, eG_0, eG_1, eG_2, eBook]
    refine Rs.of (lcN eTie k.2.2 (fun t => eTie (vTie g.1.length g.2.1 t)) (by omega) (by simp [eG_2, eTies]) (fun t ht => ?_)) ?_
    · obtain ⟨r, hr, hl, hc⟩ := hkg.2.2.2.2.2 t ht
      have hrk := (hkg.2.2.1 r (List.mem_of_getElem? hr)).2.1
      simp [eTie, eN_]
      refine Rs.of (lcN eN t.2 (fun c => eN (g.2.1 + c)) (by omega) (by simp [eRow]) (fun c hcm => ?_)) ?_
      · simp [eN_, eG_1]
      · simp [vTie, eRow]
    · have hz1 : sz (g.2.2.length + k.2.2.length) = true := sz_le (by omega)
      have hz2 : sz (g.1.length + k.1.length) = true := sz_le (by omega)
      simp [eTies, hz1, eG_0, eG_1, eBook, hz2]
      have hp1 : ∀ s, callD (Rk tb 1000000 59) F__law_puzzle_is [oPuz g, eG g] s = .ok (.bl true) s := puzzle_is_s 51 hg
      have hp2 : ∀ s, callD (Rk tb 1000000 59) F__law_puzzle_is [oPuz k, eG k] s = .ok (.bl true) s := puzzle_is_s 51 hkg
      have hmn : ∀ s, callD (Rk tb 1000000 59) F_merged [oPuz g, .tup []] s = .ok (oPuz g) s := fun s => by
        have := merged_s 54 hg (prs_nil (m := g.2.1)) s
        rw [mGame_nil hg] at this
        exact this
      have hmi1 : ∀ s, HandOk h a s → Rs (callD (Rk tb 1000000 59) F__law_merged_is [.ref h, eG g, oPuz g] s) (fun d s' => d = .bl true ∧ Keep h a s s') noE := fun s hk => merged_is_s 50 hk hg
      have hmi2 : ∀ s, HandOk h a s → Rs (callD (Rk tb 1000000 59) F__law_merged_is [.ref h, eG k, oPuz k] s) (fun d s' => d = .bl true ∧ Keep h a s s') noE := fun s hk => merged_is_s 50 hk hkg
      by_cases hb : 6 < g.1.length + k.1.length
      · have hb' : (6:Int) < (g.1.length : Int) + k.1.length := by omega
        have ht0 : ∀ s, callD (Rk tb 1000000 59) F__law_told [.int 0, oPuz g, oPuz k] s = _ := told0_bad 56 hg hkg hb
        have hrp : ∀ s, evBlt (Rk tb 1000000 59) .repr [.str (PySem.Str.ofString "book")] s = .ok (.str (reprD undef)) s := fun s => blt_repr (d := undef) (by decide +kernel) (by decide +kernel)
        have hne : ∀ s, evCmp (Rk tb 1000000 59) .ne (.tup [.str (PySem.Str.ofString "undefined"), .str (reprD undef)]) (.tup [.str (PySem.Str.ofString "undefined"), .str (reprD undef)]) s = .ok (.bl false) s := fun s => ne_same (by
          have h1 := short_reprD (d := undef) (k := 3) (n := 59) (by decide +kernel)
          have h2 : D.dat 59 (.str (PySem.Str.ofString "undefined")) = true := by rw [dat_str]; decide +kernel
          rw [dat_tup60, datL_cons, datL_cons, h1, h2]; rfl)
        simp [ht0, hb', hrp, hne]
        refine (hmi1 s6 kd6.1).imp (fun d s7 hd => ?_) fun _ _ _ f => f.elim
        obtain ⟨rfl, kd7⟩ := hd
        simp
        refine (hmi2 s7 kd7.1).imp (fun d s8 hd => ?_) fun _ _ _ f => f.elim
        obtain ⟨rfl, kd8⟩ := hd
        simp [hmn, hp1, hp2]
      · have hb' : ¬ (6:Int) < (g.1.length : Int) + k.1.length := by omega
        have hbg : GameOk (bGame g k) := bGame_ok hg hkg (by omega) ⟨hgm, hkm⟩ ⟨hgt, hkt⟩
        have ht0 : ∀ s, callD (Rk tb 1000000 59) F__law_told [.int 0, oPuz g, oPuz k] s = _ := told0_s 53 hg hkg (by omega)
        have hpb : ∀ s, callD (Rk tb 1000000 59) F__law_puzzle_is [oPuz (bGame g k), eG (bGame g k)] s = .ok (.bl true) s := puzzle_is_s 51 hbg
        have hmb : ∀ s, HandOk h a s → Rs (callD (Rk tb 1000000 59) F__law_merged_is [.ref h, eG (bGame g k), oPuz (bGame g k)] s) (fun d s' => d = .bl true ∧ Keep h a s s') noE := fun s hk => merged_is_s 50 hk hbg
        have hbe : D.tup [.tup (g.1.map eRel ++ k.1.map eRel), .int ((g.2.1 : Int) + (k.2.1 : Int)), .tup (g.2.2.map eTie ++ k.2.2.map fun t => eTie (vTie g.1.length g.2.1 t))] = eG (bGame g k) := by
          simp [eG, bGame, eBook, eTies, eN_]
        have hbl : (bGame g k).1.length = g.1.length + k.1.length := by simp [bGame]
        simp [ht0, hb', ne_told, hbe, hpb, eG_0, eBook, hbl]
        refine (hmb s6 kd6.1).imp (fun d s7 hd => ?_) fun _ _ _ f => f.elim
        obtain ⟨rfl, kd7⟩ := hd
        simp
        refine (hmi1 s7 kd7.1).imp (fun d s8 hd => ?_) fun _ _ _ f => f.elim
        obtain ⟨rfl, kd8⟩ := hd
        simp
        refine (hmi2 s8 kd8.1).imp (fun d s9 hd => ?_) fun _ _ _ f => f.elim
        obtain ⟨rfl, kd9⟩ := hd
        simp [hmn, hp1, hp2]
  obtain ⟨d, s, e, rfl⟩ := key.get
  exact ⟨s, e⟩
end Tab
end
set_option Elab.async false
set_option linter.all false
set_option maxRecDepth 100000
set_option maxHeartbeats 0
open PySem PySem.W PySem.Calls PyProof.Rows
theorem PySem.Challenge.cw_cellrealm_k75_beside_and_merged_holds : PySem.Challenge.rw_cellrealm_k75_beside_and_merged.Holds := by
  w_on; o_law
  refine HandSHeadRun.head_any (r := OpenLaw.row PySem.Challenge.rw_cellrealm_k75_beside_and_merged) (q := Tab.qv) (H := Tab.hk 1000000) (ob := Tab.ob 1000000) (M := 6000) (loose := Tab.names) (d := HandSHeadRun.topDef (OpenLaw.row PySem.Challenge.rw_cellrealm_k75_beside_and_merged).prog 49) (kwd := []) (Tab.ob_eq 1000000)
    (by kernel_rfl) (fun s => by kernel_rfl) (Tab.hrun 1000000) (by kernel_rfl) (by kernel_rfl) (by kernel_rfl) (by rfl) (by first | assumption | decide +kernel) (by decide +kernel) ⟨rfl, rfl, rfl, rfl, rfl, by decide +kernel⟩ ?hw ?hc
  case hw => w_witness2
  case hc =>
    exact Dn.walk_D (l := PySem.Challenge.rw_cellrealm_k75_beside_and_merged) (n := 63) (S := Tab.sd 1000000) (hn := 5) (lf := Tab.F_law) (ld := Tab.d_law) (x := "script") 60 rfl (by decide) (by kernel_rfl) (by decide) (by kernel_rfl) (by kernel_rfl) (by kernel_rfl) (by decide +kernel) (by kernel_rfl) (Tab.bx 1000000) fun ns h => Tab.law_runs ns h

