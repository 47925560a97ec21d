import PyProof.Rows.All
import Wide.All
import OpenK.AllK
import Wide.FinOn
import KE.KStateDown
import Lean
import HandS.Base
import HandS.Call
import HandS.Ends
import HandS.More
import HandS.Words
import HandS.WordsExc
import HandS.Defaults
import HandS.MakeKwOnly
import HandS.Head0
import HandS.Head1
import HandS.Head2
import HandS.HeadEnd
import HandS.HeadHook1
import HandS.HeadHook2
import HandS.TupSets
import HandS.SetKeys
import HandS.List
import HandS.Comp
import HandS.Exc
import HandS.Deep
import HandS.TupAny
import HandS.Text
import HandS.IsInst
import HandS.Iter
import HandS.FStr
import KE.SortData
import KE.DataCmp
import HandS.Strs
import KE.KDictKeyed
import HandS.SetBool
import HandS.Star
import HandS.RaiseMore
import KE.DataMinMax
import HandS.Codes
import HandS.Dict
import HandS.OwnEq
import HandS.Steps
import HandS.Zip
import KE.GoesEnum
import PySem.Challenge.RW_pathmodes_k82_regrouped_patterns
section
set_option linter.all false
/-! PLAIN: deep data, the monad of the bag, combinators for expressions and statements. Core Lean alone. -/
namespace Z

/-! ### data -/
inductive D where
  | non
  | bl (b : Bool)
  | int (i : Int)
  | str (s : List Char)
  | lst (xs : List D)
  | tup (xs : List D)
  | dct (kvs : List (D × D))
  | set (xs : List D)
  | ins (c : Nat) (xs : List D)
  /-- a tuple that index is asked of -/
  | ftp (xs : List D)
  /-- the script -/
  | scr (ns : List Int)
  deriving Inhabited

def bI (b : Bool) : Int := if b then 1 else 0

mutual
/-- Python's == on data -/
def eqD : D → D → Bool
  | .non, .non => true
  | .bl a, .bl b => a == b
  | .bl a, .int j => decide (bI a = j)
  | .int i, .bl b => decide (i = bI b)
  | .int i, .int j => decide (i = j)
  | .str s, .str t => decide (s = t)
  | .lst xs, .lst ys => eqL xs ys
  | .tup xs, .tup ys => eqL xs ys
  | _, _ => false
def eqL : List D → List D → Bool
  | [], [] => true
  | x :: xs, y :: ys => eqD x y && eqL xs ys
  | _, _ => false
end

mutual
/-- < on data -/
def ltD : D → D → Bool
  | .bl a, .bl b => decide (bI a < bI b)
  | .int i, .int j => decide (i < j)
  | .str s, .str t => decide (s < t)
  | .lst xs, .lst ys => ltL xs ys
  | .tup xs, .tup ys => ltL xs ys
  | _, _ => false
def ltL : List D → List D → Bool
  | [], [] => false
  | [], _ :: _ => true
  | _ :: _, [] => false
  | x :: xs, y :: ys => if eqD x y then ltL xs ys else ltD x y
end

mutual
/-- of one shape: what < and == take place by place -/
def alk : D → D → Bool
  | .non, .non => true
  | .bl _, .bl _ => true
  | .int _, .int _ => true
  | .str _, .str _ => true
  | .lst xs, .lst ys => alkL xs ys
  | .tup xs, .tup ys => alkL xs ys
  | _, _ => false
def alkL : List D → List D → Bool
  | x :: xs, y :: ys => alk x y && alkL xs ys
  | _, _ => true
end

mutual
/-- nothing but None, bools, ints, texts, lists and tuples -/
def pln : D → Bool
  | .non => true
  | .bl _ => true
  | .int _ => true
  | .str _ => true
  | .lst xs => plnL xs
  | .tup xs => plnL xs
  | _ => false
def plnL : List D → Bool
  | [] => true
  | x :: xs => pln x && plnL xs
end
mutual
def dep : D → Nat
  | .lst xs => depL xs + 1
  | .tup xs => depL xs + 1
  | _ => 0
def depL : List D → Nat
  | [] => 0
  | x :: xs => max (dep x) (depL xs)
end

/-! ### the monad -/
structure Bag where
  dg : Int
  sd : Int
  ct : Int

inductive Rs (α : Type) where
  | no
  | ok (a : α) (b : Bag)
  | ex (c : Nat) (x : D) (b : Bag)

def M (α : Type) : Type := Bag → Rs α
namespace M
variable {α β γ : Type}
def ret (a : α) : M α := fun b => .ok a b
def no : M α := fun _ => .no
def thr (c : Nat) (x : D) : M α := fun b => .ex c x b
def bnd (m : M α) (f : α → M β) : M β := fun b => match m b with
  | .no => .no
  | .ok a b1 => f a b1
  | .ex c x b1 => .ex c x b1
def opt : Option α → M α
  | some a => ret a
  | none => no
@[simp] theorem ret_bnd (a : α) (f : α → M β) : bnd (ret a) f = f a := rfl
@[simp] theorem no_bnd (f : α → M β) : bnd (no : M α) f = no := rfl
@[simp] theorem thr_bnd (c : Nat) (x : D) (f : α → M β) : bnd (thr c x : M α) f = thr c x := rfl
@[simp] theorem bnd_ret (m : M α) : bnd m ret = m := by
  funext b
  unfold bnd ret
  cases m b <;> rfl
@[simp] theorem bnd_bnd (m : M α) (f : α → M β) (g : β → M γ) : bnd (bnd m f) g = bnd m fun a => bnd (f a) g := by
  funext b
  unfold bnd
  cases m b <;> rfl
/-- what lets nothing out: an exception that leaves is not served -/
def nox (m : M α) : M α := fun b => match m b with
  | .ex _ _ _ => .no
  | r => r
@[simp] theorem nox_ret (a : α) : nox (ret a) = ret a := rfl
@[simp] theorem nox_no : nox (no : M α) = no := rfl
@[simp] theorem opt_some (a : α) : opt (some a) = ret a := rfl
@[simp] theorem opt_none : opt (none : Option α) = no := rfl
end M
open M

/-! ### expressions: from the slots to a datum -/
abbrev Sl := List D
abbrev Ex := Sl → M D
abbrev Exs := Sl → M (List D)

def xV (i : Nat) : Ex := fun env => ret (env.getD i .non)
def xC (d : D) : Ex := fun _ => ret d
def x1 (g : D → Option D) (a : Ex) : Ex := fun env => bnd (a env) fun x => opt (g x)
def x2 (g : D → D → Option D) (a b : Ex) : Ex := fun env => bnd (a env) fun x => bnd (b env) fun y => opt (g x y)
def x3 (g : D → D → D → Option D) (a b c : Ex) : Ex := fun env => bnd (a env) fun x => bnd (b env) fun y => bnd (c env) fun z => opt (g x y z)
def xNil : Exs := fun _ => ret []
def xCons (a : Ex) (r : Exs) : Exs := fun env => bnd (a env) fun x => bnd (r env) fun xs => ret (x :: xs)
def xL : List Ex → Exs
  | [] => xNil
  | a :: r => xCons a (xL r)
def xA (g : List D → Option D) (as : Exs) : Ex := fun env => bnd (as env) fun ds => opt (g ds)
def xTup (as : Exs) : Ex := fun env => bnd (as env) fun ds => ret (.tup ds)
def xLst (as : Exs) : Ex := fun env => bnd (as env) fun ds => ret (.lst ds)
/-- a call of a def that asks no draws | of one that does -/
def xP (f : List D → M D) (as : Exs) : Ex := fun env => bnd (as env) fun ds => f ds
/-- and, or, not of truths; a if c else b -/
def xAnd (a b : Ex) : Ex := fun env => bnd (a env) fun x => match x with
  | .bl true => b env
  | .bl false => ret (.bl false)
  | _ => no
def xOr (a b : Ex) : Ex := fun env => bnd (a env) fun x => match x with
  | .bl true => ret (.bl true)
  | .bl false => b env
  | _ => no
def xNot (a : Ex) : Ex := fun env => bnd (a env) fun x => match x with
  | .bl b => ret (.bl (!b))
  | _ => no
def xIf (c a b : Ex) : Ex := fun env => bnd (c env) fun x => match x with
  | .bl true => a env
  | .bl false => b env
  | _ => no
/-- a < b < c -/
def xCh (g h : D → D → Option D) (a b c : Ex) : Ex := fun env => bnd (a env) fun x => bnd (b env) fun y => bnd (opt (g x y)) fun r => match r with
  | .bl true => bnd (c env) fun z => opt (h y z)
  | .bl false => ret (.bl false)
  | _ => no

/-! ### targets -/
abbrev Tg := D → Sl → Option Sl
def gN (i : Nat) : Tg := fun d env => some (env.set i d)
def gSeq : List Tg → List D → Sl → Option Sl
  | [], [], env => some env
  | g :: gs, d :: ds, env => (g d env).bind (gSeq gs ds)
  | _, _, _ => none
def gT (gs : List Tg) : Tg := fun d env => match d with
  | .tup ds => gSeq gs ds env
  | _ => none

/-! ### what a for walks -/
abbrev Iw := Sl → M (List D)
def items : D → Option (List D)
  | .lst xs => some xs
  | .tup xs => some xs
  | .ftp xs => some xs
  | .str s => some (s.map fun c => .str [c])
  | _ => none
def iOf (a : Ex) : Iw := fun env => bnd (a env) fun x => opt (items x)
def lim : Nat := 1000000
def rng (lo hi : Int) : List D := (List.range (hi - lo).toNat).map fun (k : Nat) => .int (lo + (k : Int))
def iRng1 (a : Ex) : Iw := fun env => bnd (a env) fun x => match x with
  | .int n => if -(lim : Int) ≤ n ∧ n ≤ (lim : Int) then ret (rng 0 n) else no
  | _ => no
def iRng2 (a b : Ex) : Iw := fun env => bnd (a env) fun x => bnd (b env) fun y => match x, y with
  | .int m, .int n => if (-(lim : Int) ≤ m ∧ m ≤ (lim : Int)) ∧ -(lim : Int) ≤ n ∧ n ≤ (lim : Int) then ret (rng m n) else no
  | _, _ => no
def enumFrom : Int → List D → List D
  | _, [] => []
  | k, x :: r => .tup [.int k, x] :: enumFrom (k + 1) r
def iEnum (a : Ex) : Iw := fun env => bnd (a env) fun x => match x with
  | .lst xs => ret (enumFrom 0 xs)
  | _ => no
def zipD : List D → List D → List D
  | x :: r, y :: t => .tup [x, y] :: zipD r t
  | _, _ => []
def iZip (a b : Ex) : Iw := fun env => bnd (a env) fun x => bnd (b env) fun y => match x, y with
  | .lst u, .lst v => ret (zipD u v)
  | _, _ => no

/-! ### comprehensions -/
def lcGo (g : Tg) (t : Ex) (e : Ex) : List D → Sl → List D → M (List D)
  | [], _, acc => ret acc
  | d :: ds, env, acc => bnd (opt (g d env)) fun env1 => bnd (t env1) fun b => match b with
    | .bl true => bnd (e env1) fun v => if acc.length < lim then lcGo g t e ds env (acc ++ [v]) else no
    | .bl false => lcGo g t e ds env acc
    | _ => no
/-- [e for g in it if t] -/
def xLc (it : Iw) (g : Tg) (t : Ex) (e : Ex) : Ex := fun env => bnd (it env) fun ds => bnd (nox (lcGo g t e ds env [])) fun r => ret (.lst r)
def lc2Go (g : Tg) (t : Ex) (it1 : Iw) (g1 : Tg) (t1 : Ex) (e : Ex) : List D → Sl → List D → M (List D)
  | [], _, acc => ret acc
  | d :: ds, env, acc => bnd (opt (g d env)) fun env1 => bnd (t env1) fun b => match b with
    | .bl true => bnd (it1 env1) fun es => bnd (lcGo g1 t1 e es env1 acc) fun acc1 => lc2Go g t it1 g1 t1 e ds env acc1
    | .bl false => lc2Go g t it1 g1 t1 e ds env acc
    | _ => no
/-- [e for g in it if t for g1 in it1 if t1] -/
def xLc2 (it : Iw) (g : Tg) (t : Ex) (it1 : Iw) (g1 : Tg) (t1 : Ex) (e : Ex) : Ex := fun env => bnd (it env) fun ds => bnd (nox (lc2Go g t it1 g1 t1 e ds env [])) fun r => ret (.lst r)
def xYes : Ex := xC (.bl true)

/-! ### statements -/
inductive Fl where
  | nx (env : Sl)
  | rt (d : D)
  | bk (env : Sl)
  | ct (env : Sl)
abbrev Sm := Sl → M Fl
def sPass : Sm := fun env => ret (.nx env)
def sBrk : Sm := fun env => ret (.bk env)
def sCnt : Sm := fun env => ret (.ct env)
def sRet (e : Ex) : Sm := fun env => bnd (e env) fun d => ret (.rt d)
def sRetN : Sm := fun _ => ret (.rt .non)
def sDo (e : Ex) : Sm := fun env => bnd (e env) fun _ => ret (.nx env)
def sSet (g : Tg) (e : Ex) : Sm := fun env => bnd (e env) fun d => bnd (opt (g d env)) fun env1 => ret (.nx env1)
def sAnd (s t : Sm) : Sm := fun env => bnd (s env) fun f => match f with
  | .nx env1 => t env1
  | f => ret f
def sAll : List Sm → Sm
  | [] => sPass
  | [s] => s
  | s :: r => sAnd s (sAll r)
def sIf (c : Ex) (s t : Sm) : Sm := fun env => bnd (c env) fun x => match x with
  | .bl true => s env
  | .bl false => t env
  | _ => no
def forGo (g : Tg) (s : Sm) : List D → Sl → M Fl
  | [], env => ret (.nx env)
  | d :: ds, env => bnd (opt (g d env)) fun env1 => bnd (s env1) fun f => match f with
    | .nx env2 => forGo g s ds env2
    | .ct env2 => forGo g s ds env2
    | .bk env2 => ret (.nx env2)
    | .rt v => ret (.rt v)
def sFor (it : Iw) (g : Tg) (s : Sm) : Sm := fun env => bnd (it env) fun ds => forGo g s ds env
def whGo (c : Ex) (s : Sm) : Nat → Sl → M Fl
  | 0, _ => no
  | n + 1, env => bnd (c env) fun x => match x with
    | .bl true => bnd (s env) fun f => match f with
      | .nx env2 => whGo c s n env2
      | .ct env2 => whGo c s n env2
      | .bk env2 => ret (.nx env2)
      | .rt v => ret (.rt v)
    | .bl false => ret (.nx env)
    | _ => no
def sWh (n : Nat) (c : Ex) (s : Sm) : Sm := whGo c s n
/-- x.append(e), x an own list at slot i -/
def sApp (i : Nat) (e : Ex) : Sm := fun env => bnd (e env) fun v => match env.getD i .non with
  | .lst xs => if xs.length < lim then ret (.nx (env.set i (.lst (xs ++ [v])))) else no
  | _ => no
/-- a def: its body over n slots, the first ones the arguments (the bag ahead of them, where it has one) -/
def runD (hb : Bool) (n : Nat) (s : Sm) : List D → M D := fun ds => bnd (s ((if hb then [D.non] else []) ++ ds ++ List.replicate (n - ((if hb then 1 else 0) + ds.length)) .non)) fun f => match f with
  | .rt d => ret d
  | .nx _ => ret .non
  | _ => no
/-- a def that asks no draws: whatever the bag -/
def pureC (f : List D → M D) : List D → M D := fun ds b => match f ds ⟨0, 0, 0⟩ with
  | .ok d _ => .ok d b
  | .ex c x _ => .ex c x b
  | .no => .no
theorem pureC_of {f : List D → M D} {ds : List D} {d : D} (h : f ds = ret d) : pureC f ds = ret d := by
  funext b
  unfold pureC
  rw [h]
  rfl
def xQ (f : List D → M D) (as : Exs) : Ex := xP (pureC f) as
/-- arguments, then defaults -/
def xApp (as : Exs) (ds : List D) : Exs := fun env => bnd (as env) fun xs => ret (xs ++ ds)

/-! ### operations on data -/
def oLen : D → Option D
  | .lst xs => some (.int xs.length)
  | .tup xs => some (.int xs.length)
  | .scr xs => some (.int xs.length)
  | .ftp xs => some (.int xs.length)
  | .str s => if s.length ≤ lim then some (.int s.length) else none
  | _ => none
def oAdd : D → D → Option D
  | .int i, .int j => some (.int (i + j))
  | .str s, .str t => if s.length + t.length ≤ lim then some (.str (s ++ t)) else none
  | .lst xs, .lst ys => if xs.length ≤ lim ∧ ys.length ≤ lim then some (.lst (xs ++ ys)) else none
  | .tup xs, .tup ys => if xs.length ≤ lim ∧ ys.length ≤ lim then some (.tup (xs ++ ys)) else none
  | _, _ => none
def oSub : D → D → Option D
  | .int i, .int j => some (.int (i - j))
  | _, _ => none
def cmpI (p : Int → Int → Bool) : D → D → Option D
  | .int i, .int j => some (.bl (p i j))
  | _, _ => none
def oLt : D → D → Option D := cmpI fun i j => decide (i < j)
def oLe : D → D → Option D := cmpI fun i j => decide (i ≤ j)
def oGt : D → D → Option D := cmpI fun i j => decide (j < i)
def oGe : D → D → Option D := cmpI fun i j => decide (j ≤ i)
def shp (d : D) : Bool := pln d && decide (dep d ≤ 60)
def oEq (x y : D) : Option D := if shp x && shp y then some (.bl (eqD x y)) else none
def oNe (x y : D) : Option D := if shp x && shp y then some (.bl (!eqD x y)) else none
def inD (x : D) (ys : List D) : Bool := ys.any fun y => eqD y x
/-- x in y -/
def flD : D → Bool
  | .non => true
  | .bl _ => true
  | .int _ => true
  | .str _ => true
  | _ => false
def oIn (x y : D) : Option D := match x, y with
  | .str [c], .str t => some (.bl (decide (c ∈ t)))
  | x, .lst ys => if shp x && ys.all shp then some (.bl (inD x ys)) else none
  | x, .tup ys => if flD x && ys.all flD then some (.bl (inD x ys)) else none
  | _, _ => none
def notB : D → Option D
  | .bl b => some (.bl (!b))
  | _ => none
def oNotIn (x y : D) : Option D := (oIn x y).bind notB
def atD (xs : List D) (i : Int) : Option D := if 0 ≤ i then xs[i.toNat]? else if -(xs.length : Int) ≤ i then xs[(xs.length + i).toNat]? else none
def oIx : D → D → Option D
  | .lst xs, .int i => atD xs i
  | .tup xs, .int i => atD xs i
  | .scr ns, .int i => atD (ns.map .int) i
  | .str s, .int i => if s.length ≤ lim then atD (s.map fun c => .str [c]) i else none
  | _, _ => none
def isStr : D → Option D
  | .str _ => some (.bl true)
  | .ins _ _ => none
  | .scr _ => none
  | .set _ => none
  | .ftp _ => none
  | _ => some (.bl false)
def isTup : D → Option D
  | .tup _ => some (.bl true)
  | .ins _ _ => none
  | .scr _ => none
  | .set _ => none
  | .ftp _ => none
  | _ => some (.bl false)
def isLst : D → Option D
  | .lst _ => some (.bl true)
  | .ins _ _ => none
  | .scr _ => none
  | .set _ => none
  | .ftp _ => none
  | _ => some (.bl false)
def isInt : D → Option D
  | .int _ => some (.bl true)
  | .bl _ => some (.bl true)
  | .ins _ _ => none
  | .scr _ => none
  | .set _ => none
  | .ftp _ => none
  | _ => some (.bl false)
def isBool : D → Option D
  | .bl _ => some (.bl true)
  | .ins _ _ => none
  | .scr _ => none
  | .set _ => none
  | .ftp _ => none
  | _ => some (.bl false)
def isIns (c : Nat) : D → Option D
  | .ins k _ => some (.bl (k == c))
  | _ => some (.bl false)
def bools : List D → Option (List Bool)
  | [] => some []
  | .bl b :: r => (bools r).map (b :: ·)
  | _ => none
def oAll : D → Option D
  | .lst xs => (bools xs).map fun bs => .bl (bs.all id)
  | _ => none
def oAny : D → Option D
  | .lst xs => (bools xs).map fun bs => .bl (bs.any id)
  | _ => none
def oList : D → Option D
  | .lst xs => some (.lst xs)
  | .ftp xs => some (.lst xs)
  | .tup xs => some (.lst xs)
  | _ => none
def oTuple : D → Option D
  | .lst xs => some (.tup xs)
  | .tup xs => some (.tup xs)
  | _ => none
def leD (x y : D) : Bool := !ltD y x
def sortable (xs : List D) : Bool := (xs.all fun x => xs.all fun y => alk x y) && (xs.all pln) && (xs.all fun x => decide (dep x ≤ 60)) && ((xs.all fun x => match x with
  | .tup (_ :: _) => true
  | _ => false) || (xs.all fun x => match x with
  | .tup _ => false
  | .non => false
  | _ => true)) && decide (xs.length ≤ lim)
def sortL (xs : List D) : List D := xs.mergeSort leD
def oSorted : D → Option D
  | .lst xs => if sortable xs then some (.lst (sortL xs)) else none
  | _ => none
/-- the first of equal ones -/
def dedup : List D → List D
  | [] => []
  | x :: r => x :: (dedup r).filter fun y => !eqD x y
def o1 (g : D → Option D) : List D → Option D
  | [x] => g x
  | _ => none
def o2 (g : D → D → Option D) : List D → Option D
  | [x, y] => g x y
  | _ => none
def oInt : D → Option D
  | .int i => some (.int i)
  | .bl b => some (.int (bI b))
  | _ => none
def oAbs : D → Option D
  | .int i => some (.int (if i < 0 then -i else i))
  | _ => none
def oMax2 : D → D → Option D
  | .int i, .int j => some (.int (if j > i then j else i))
  | _, _ => none
def oMin2 : D → D → Option D
  | .int i, .int j => some (.int (if j < i then j else i))
  | _, _ => none
def strL : List D → Option (List (List Char))
  | [] => some []
  | .str s :: r => (strL r).map (s :: ·)
  | _ => none
def joinS (sep : List Char) : List (List Char) → List Char
  | [] => []
  | [x] => x
  | x :: r => x ++ sep ++ joinS sep r
def oJoin : D → D → Option D
  | .str sep, .lst xs => (strL xs).bind fun ys => if (ys.map List.length).sum + ys.length * sep.length ≤ lim then some (.str (joinS sep ys)) else none
  | _, _ => none
/-- the first place of an equal one -/
def idxD (x : D) : List D → Option Nat
  | [] => none
  | y :: r => if eqD y x then some 0 else (idxD x r).map (· + 1)
def oIndexL : D → D → Option D
  | .lst ys, x => if shp x && ys.all shp then (idxD x ys).map fun (j : Nat) => .int j else none
  | _, _ => none
def oIndexT : D → D → Option D
  | .ftp ys, .str s => (strL ys).bind fun zs => (idxD (.str s) ys).map fun (j : Nat) => .int j
  | _, _ => none
def oTupleF : D → Option D
  | .lst xs => some (.ftp xs)
  | _ => none
/-- an int's digits -/
def strI (i : Int) : List Char := (toString i).toList
def oFmt (pre : List Char) : D → Option D
  | .int i => if i.natAbs < 1000000 ∧ (strI i).length ≤ 1000 then some (.str (pre ++ strI i)) else none
  | .str s => if pre.length + s.length ≤ lim then some (.str (pre ++ s)) else none
  | _ => none
def fld (c j : Nat) : D → Option D
  | .ins k xs => if k = c then xs[j]? else none
  | _ => none
end Z
end
section
set_option Elab.async false
set_option linter.all false
set_option maxRecDepth 100000
namespace ZL
open PySem PySem.Spec PyProof.Rows L2 Z

/-! ### data in the heap -/
/-- the classes: where they stand, their fields in order -/
structure Tb where
  adr : Nat → Addr
  fld : Nat → List Str
def toS (s : List Char) : Str := ⟨(s.map Char.toNat).toArray⟩
theorem toS_cps (s : List Char) : (toS s).cps.toList = s.map Char.toNat := by simp [toS]
theorem toS_len (s : List Char) : (toS s).length = s.length := by simp [toS, Str.length]
theorem charNat_inj {a b : Char} (h : a.toNat = b.toNat) : a = b := by
  apply Char.ext
  apply UInt32.toNat_inj.mp
  exact h
theorem mapNat_inj : ∀ {s t : List Char}, s.map Char.toNat = t.map Char.toNat → s = t
  | [], [], _ => rfl
  | [], _ :: _, h => by simp at h
  | _ :: _, [], h => by simp at h
  | a :: s, b :: t, h => by
    simp only [List.map_cons, List.cons.injEq] at h
    rw [charNat_inj h.1, mapNat_inj h.2]
theorem toS_inj {s t : List Char} (h : toS s = toS t) : s = t := by
  have e := congrArg (fun z : Str => z.cps.toList) h
  simp only [toS_cps] at e
  exact mapNat_inj e
theorem toS_of (s : List Char) : Str.ofString (String.ofList s) = toS s := by
  rw [Str.ofString_eq_toList]
  simp [toS]
def keyD : D → Option Key
  | .int i => some (.inl i)
  | .str s => some (.inr (toS s))
  | _ => none

section
variable (K : PySem.W.Frag) (T : Tb) (G : Hp)
mutual
def Rep : D → V → Prop
  | .non, v => v = .non
  | .bl b, v => v = .bl b
  | .int i, v => v = .int i
  | .str s, v => v = .str (toS s)
  | .lst xs, v => ∃ a vs, v = .ref a ∧ G a = some (.lst vs) ∧ Reps xs vs
  | .tup xs, v => ∃ a vs, v = .ref a ∧ SqT K G a vs ∧ Reps xs vs
  | .dct kvs, v => ∃ a ks, v = .ref a ∧ G a = some (.dK ks) ∧ RepK kvs ks
  | .set _, _ => False
  | .ins c xs, v => ∃ a dx fs, v = .ref a ∧ G a = some (.ins (T.adr c) dx fs) ∧ fs.map (·.1) = T.fld c ∧ Reps xs (fs.map (·.2))
  | .ftp xs, v => ∃ a o vs, v = .ref a ∧ G a = some (.frz o (.tup vs)) ∧ o.cls = .type "tuple" ∧ o.dict = none ∧ Reps xs vs
  | .scr ns, v => ∃ a, v = .ref a ∧ SqL K G a (ns.map V.int)
def Reps : List D → List V → Prop
  | [], vs => vs = []
  | x :: xs, vs => ∃ v r, vs = v :: r ∧ Rep x v ∧ Reps xs r
def RepK : List (D × D) → List (Key × V) → Prop
  | [], ks => ks = []
  | (k, x) :: xs, ks => ∃ q v r, ks = (q, v) :: r ∧ keyD k = some q ∧ Rep x v ∧ RepK xs r
end
end
def Sub (G H : Hp) : Prop := ∀ a o, G a = some o → H a = some o
theorem Sub.refl (G : Hp) : Sub G G := fun _ _ h => h
theorem Sub.trans {G H I : Hp} (a : Sub G H) (b : Sub H I) : Sub G I := fun x o h => b x o (a x o h)
theorem sub_rd {H H' : Hp} {a : Addr} {u : HO} (e : Sub H H') (h : Rd H a u) : Rd H' a u := by
  rcases h with h | ⟨o, h⟩
  · exact Or.inl (e a _ h)
  · exact Or.inr ⟨o, e a _ h⟩
section
variable {K : PySem.W.Frag} {T : Tb} {G G' H H' : Hp}
theorem sub_l {a : Addr} {xs : List V} (e : Sub G G') (h : SqL K G a xs) : SqL K G' a xs := by
  rcases h with h | h
  · exact Or.inl (sub_rd e h)
  · exact Or.inr h
theorem sub_t {a : Addr} {xs : List V} (e : Sub G G') (h : SqT K G a xs) : SqT K G' a xs := by
  rcases h with h | h
  · exact Or.inl (sub_rd e h)
  · exact Or.inr h
mutual
theorem Rep.mono (e : Sub G G') : ∀ (d : D) (v : V), Rep K T G d v → Rep K T G' d v
  | .non, _, h => h
  | .bl _, _, h => h
  | .int _, _, h => h
  | .str _, _, h => h
  | .lst xs, _, h => by
    unfold Rep at h ⊢
    obtain ⟨a, vs, h1, h2, h3⟩ := h
    exact ⟨a, vs, h1, e _ _ h2, Reps.mono e xs vs h3⟩
  | .tup xs, _, h => by
    unfold Rep at h ⊢
    obtain ⟨a, vs, h1, h2, h3⟩ := h
    exact ⟨a, vs, h1, sub_t e h2, Reps.mono e xs vs h3⟩
  | .dct kvs, _, h => by
    unfold Rep at h ⊢
    obtain ⟨a, ks, h1, h2, h3⟩ := h
    exact ⟨a, ks, h1, e _ _ h2, RepK.mono e kvs ks h3⟩
  | .set _, _, h => by
    unfold Rep at h
    exact h.elim
  | .ins c xs, _, h => by
    unfold Rep at h ⊢
    obtain ⟨a, dx, fs, h1, h2, h3, h4⟩ := h
    exact ⟨a, dx, fs, h1, e _ _ h2, h3, Reps.mono e xs _ h4⟩
  | .ftp xs, _, h => by
    unfold Rep at h ⊢
    obtain ⟨a, o, vs, h1, h2, h3, h4, h5⟩ := h
    exact ⟨a, o, vs, h1, e _ _ h2, h3, h4, Reps.mono e xs _ h5⟩
  | .scr ns, _, h => by
    unfold Rep at h ⊢
    obtain ⟨a, h1, h2⟩ := h
    exact ⟨a, h1, sub_l e h2⟩
theorem Reps.mono (e : Sub G G') : ∀ (ds : List D) (vs : List V), Reps K T G ds vs → Reps K T G' ds vs
  | [], _, h => h
  | x :: xs, vs, h => by
    unfold Reps at h ⊢
    obtain ⟨v, r, h1, h2, h3⟩ := h
    exact ⟨v, r, h1, Rep.mono e x v h2, Reps.mono e xs r h3⟩
theorem RepK.mono (e : Sub G G') : ∀ (ds : List (D × D)) (vs : List (Key × V)), RepK K T G ds vs → RepK K T G' ds vs
  | [], _, h => h
  | (k, x) :: xs, vs, h => by
    unfold RepK at h ⊢
    obtain ⟨q, v, r, h1, h2, h3, h4⟩ := h
    exact ⟨q, v, r, h1, h2, Rep.mono e x v h3, RepK.mono e xs r h4⟩
end
theorem Reps.length : ∀ {ds : List D} {vs : List V}, Reps K T G ds vs → vs.length = ds.length
  | [], vs, h => by
    unfold Reps at h
    rw [h] <;> rfl
  | x :: xs, vs, h => by
    unfold Reps at h
    obtain ⟨v, r, h1, h2, h3⟩ := h
    rw [h1, List.length_cons, List.length_cons, Reps.length h3]
theorem Reps.get : ∀ {ds : List D} {vs : List V} {i : Nat} {d : D}, Reps K T G ds vs → ds[i]? = some d → ∃ v, vs[i]? = some v ∧ Rep K T G d v
  | [], vs, i, d, h, e => by simp at e
  | x :: xs, vs, 0, d, h, e => by
    unfold Reps at h
    obtain ⟨v, r, h1, h2, h3⟩ := h
    simp at e
    subst e h1
    exact ⟨v, rfl, h2⟩
  | x :: xs, vs, i + 1, d, h, e => by
    unfold Reps at h
    obtain ⟨v, r, h1, h2, h3⟩ := h
    subst h1
    obtain ⟨w, e1, e2⟩ := Reps.get (i := i) (d := d) h3 (by simpa using e)
    exact ⟨w, by simpa using e1, e2⟩
theorem Reps.get' : ∀ {ds : List D} {vs : List V} {i : Nat} {v : V}, Reps K T G ds vs → vs[i]? = some v → ∃ d, ds[i]? = some d ∧ Rep K T G d v
  | [], vs, i, d, h, e => by
    unfold Reps at h
    subst h
    simp at e
  | x :: xs, vs, 0, d, h, e => by
    unfold Reps at h
    obtain ⟨v, r, h1, h2, h3⟩ := h
    subst h1
    simp at e
    subst e
    exact ⟨x, rfl, h2⟩
  | x :: xs, vs, i + 1, d, h, e => by
    unfold Reps at h
    obtain ⟨v, r, h1, h2, h3⟩ := h
    subst h1
    obtain ⟨w, e1, e2⟩ := Reps.get' (i := i) (v := d) h3 (by simpa using e)
    exact ⟨w, by simpa using e1, e2⟩
theorem Reps.nil : Reps K T G [] [] := by
  unfold Reps
  rfl
theorem Reps.cons {d : D} {v : V} {ds : List D} {vs : List V} (h : Rep K T G d v) (r : Reps K T G ds vs) : Reps K T G (d :: ds) (v :: vs) := by
  unfold Reps
  exact ⟨v, vs, rfl, h, r⟩
theorem Reps.append : ∀ {ds es : List D} {vs us : List V}, Reps K T G ds vs → Reps K T G es us → Reps K T G (ds ++ es) (vs ++ us)
  | [], es, vs, us, h, r => by
    unfold Reps at h
    subst h
    exact r
  | x :: xs, es, vs, us, h, r => by
    unfold Reps at h
    obtain ⟨v, q, h1, h2, h3⟩ := h
    subst h1
    exact Reps.cons h2 (Reps.append h3 r)
theorem Reps.one {d : D} {v : V} (h : Rep K T G d v) : Reps K T G [d] [v] := Reps.cons h Reps.nil
end

/-! ### steps -/
/-- from the frozen part G of H to G' of H': what stands stays (but the bag at B), what is new in G' is new in H' -/
structure Stp (B : List Addr) (G H G' H' : Hp) : Prop where
  g : Sub G G'
  i : Sub G' H'
  h : ∀ a o, H a = some o → a ∉ B → H' a = some o
  k : ∀ a o, H a = some o → ∃ o', H' a = some o'
  n : ∀ a o, G' a = some o → G a = none → H a = none
def BagOk (b : Bag) : Prop := 0 ≤ b.dg ∧ 0 ≤ b.sd ∧ b.sd < 12000000000000000000 ∧ 0 ≤ b.ct ∧ b.ct ≤ 2 ^ 40
def bagO (b : Bag) : HO := .lst [.int b.dg, .int b.sd, .int b.ct]
def BagAt (B : List Addr) (H : Hp) (b : Bag) : Prop := ∀ a ∈ B, H a = some (bagO b) ∧ BagOk b
section
variable {B C : List Addr} {G H G1 H1 G2 H2 : Hp}
theorem Stp.refl (s : Sub G H) : Stp B G H G H := ⟨Sub.refl G, s, fun _ _ h _ => h, fun _ o h => ⟨o, h⟩, fun a o h1 h2 => by
  rw [h1] at h2
  cases h2⟩
theorem Stp.trans (x : Stp B G H G1 H1) (y : Stp B G1 H1 G2 H2) : Stp B G H G2 H2 where
  g := x.g.trans y.g
  i := y.i
  h := fun a o e nb => y.h a o (x.h a o e nb) nb
  k := fun a o e => by
    obtain ⟨o', e'⟩ := x.k a o e
    exact y.k a o' e'
  n := fun a o e1 e2 => by
    cases e : G1 a with
    | some o1 => exact x.n a o1 e e2
    | none =>
      have e3 := y.n a o e1 e
      cases e4 : H a with
      | none => rfl
      | some o4 =>
        obtain ⟨o5, e5⟩ := x.k a o4 e4
        rw [e3] at e5
        cases e5
theorem Stp.back (x : Stp B G H G1 H1) {p : Addr} (h : H1 p = none) : H p = none := by
  cases e : H p with
  | none => rfl
  | some o =>
    obtain ⟨o', e'⟩ := x.k p o e
    rw [h] at e'
    cases e'
theorem Stp.pure (x : Stp [] G H G1 H1) : Stp B G H G1 H1 := ⟨x.g, x.i, fun a o e _ => x.h a o e (by simp), x.k, x.n⟩
/-- a new object is laid, and frozen -/
theorem Stp.new {p : Addr} {o : HO} (s : Sub G H) (hp : H p = none) : Stp [] G H (upd G p o) (upd H p o) where
  g := fun a u e => by
    have n : a ≠ p := by
      intro z
      subst z
      rw [s a u e] at hp
      cases hp
    rw [upd_ne n]
    exact e
  i := fun a u e => by
    by_cases z : a = p
    · subst z
      rw [upd_same] at e ⊢
      exact e
    · rw [upd_ne z] at e ⊢
      exact s a u e
  h := fun a u e _ => by
    rw [upd_ne (ne_of_none e hp)]
    exact e
  k := fun a u e => ⟨u, by
    rw [upd_ne (ne_of_none e hp)]
    exact e⟩
  n := fun a u e1 e2 => by
    by_cases z : a = p
    · rw [z]
      exact hp
    · rw [upd_ne z, e2] at e1
      cases e1
/-- a new object is laid, not frozen -/
theorem Stp.laid {p : Addr} {o : HO} (s : Sub G H) (hp : H p = none) : Stp [] G H G (upd H p o) where
  g := Sub.refl G
  i := fun a u e => by
    have n : a ≠ p := by
      intro z
      subst z
      rw [s a u e] at hp
      cases hp
    rw [upd_ne n]
    exact s a u e
  h := fun a u e _ => by
    rw [upd_ne (ne_of_none e hp)]
    exact e
  k := fun a u e => ⟨u, by
    rw [upd_ne (ne_of_none e hp)]
    exact e⟩
  n := fun a u e1 e2 => by
    rw [e2] at e1
    cases e1
/-- an object that is new since H is frozen -/
theorem Stp.freeze {p : Addr} {o : HO} (x : Stp B G H G1 H1) (hp : H p = none) (h1 : H1 p = some o) (hg : G1 p = none) : Stp B G H (upd G1 p o) H1 where
  g := fun a u e => by
    have e1 := x.g a u e
    rw [upd_ne (ne_of_none e1 hg)]
    exact e1
  i := fun a u e => by
    by_cases z : a = p
    · subst z
      rw [upd_same] at e
      rw [h1, ← e]
    · rw [upd_ne z] at e
      exact x.i a u e
  h := x.h
  k := x.k
  n := fun a u e1 e2 => by
    by_cases z : a = p
    · rw [z]
      exact hp
    · rw [upd_ne z] at e1
      exact x.n a u e1 e2
theorem BagAt.keep {b : Bag} (h : BagAt B H b) (s : Stp [] G H G1 H1) : BagAt B H1 b := fun a e => ⟨s.h a _ (h a e).1 (by simp), (h a e).2⟩
end

/-! ### the state: slots -/
inductive Flg where
  | un | dat | bag | ol | od | oi | oll | og
  deriving DecidableEq
section
variable (K : PySem.W.Frag) (T : Tb)
def SlotOk (B : List Addr) (G H : Hp) : Flg → Option (Option V) → D → List Addr → Prop
  | .un, _, _, fp => fp = []
  | .dat, sv, d, fp => fp = [] ∧ ∃ v, sv = some (some v) ∧ Rep K T G d v
  | .bag, sv, _, fp => fp = [] ∧ ∃ a, B = [a] ∧ sv = some (some (.ref a))
  | .ol, sv, d, fp => ∃ p vs ds, sv = some (some (.ref p)) ∧ d = .lst ds ∧ H p = some (.lst vs) ∧ Reps K T G ds vs ∧ fp = [p]
  | .od, sv, d, fp => ∃ p ks kvs, sv = some (some (.ref p)) ∧ d = .dct kvs ∧ H p = some (.dK ks) ∧ RepK K T G kvs ks ∧ fp = [p]
  | .oi, sv, d, fp => ∃ p c dx fs xs, sv = some (some (.ref p)) ∧ d = .ins c xs ∧ H p = some (.ins (T.adr c) dx fs) ∧ fs.map (·.1) = (T.fld c).take fs.length ∧ Reps K T G xs (fs.map (·.2)) ∧ fp = [p]
  | .oll, sv, d, fp => ∃ (p q : Addr) (vs : List V) (ds : List D) (us : List V) (l : List D), sv = some (some (.ref p)) ∧ d = .lst (ds ++ [.lst l]) ∧ H p = some (.lst (vs ++ [.ref q])) ∧ H q = some (.lst us) ∧ Reps K T G ds vs ∧ Reps K T G l us ∧ p ≠ q ∧ fp = [p, q]
  | .og, sv, d, fp => ∃ (t p dx : Addr) (c : Nat) (fs : List (Str × V)) (xs : List D) (v : V) (d2 : D), sv = some (some (.ref t)) ∧ d = .tup [.ins c xs, d2] ∧ H t = some (.tup [.ref p, v]) ∧ H p = some (.ins (T.adr c) dx fs) ∧ fs.map (·.1) = T.fld c ∧ Reps K T G xs (fs.map (·.2)) ∧ Rep K T G d2 v ∧ t ≠ p ∧ fp = [t, p]
/-- since the entry G0, H0: what is at C may have changed, the bag B among it -/
structure Core (B C : List Addr) (G0 H0 G H : Hp) (b : Bag) : Prop where
  stp : Stp C G0 H0 G H
  bag : BagAt B H b
  bc : ∀ a ∈ B, a ∈ C
  bg : ∀ a ∈ C, G a = none ∧ ∃ o, H0 a = some o
structure Good (fl : List Flg) (B C : List Addr) (G0 H0 G H : Hp) (σ : L2.St) (env : Sl) (b : Bag) : Prop where
  core : Core B C G0 H0 G H b
  len : σ.length = env.length
  slots : ∃ fp : Nat → List Addr, (∀ i, SlotOk K T B G H (fl.getD i .un) σ[i]? (env.getD i .non) (fp i)) ∧ (∀ i p, p ∈ fp i → G p = none ∧ H0 p = none) ∧ (∀ i j p, p ∈ fp i → p ∈ fp j → i = j)
end
section
variable {K : PySem.W.Frag} {T : Tb} {B C : List Addr} {G0 H0 G H G1 H1 : Hp} {σ : L2.St} {env : Sl} {b b1 : Bag} {fl : List Flg}
theorem Core.sub (c : Core B C G0 H0 G H b) : Sub G H := c.stp.i
theorem Stp.more (x : Stp B G H G1 H1) (h : ∀ a ∈ B, a ∈ C) : Stp C G H G1 H1 := ⟨x.g, x.i, fun a o e n => x.h a o e fun z => n (h a z), x.k, x.n⟩
theorem Core.step (c : Core B C G0 H0 G H b) (s : Stp B G H G1 H1) (h : BagAt B H1 b1) : Core B C G0 H0 G1 H1 b1 := by
  refine ⟨c.stp.trans (s.more c.bc), h, c.bc, fun a e => ?_⟩
  obtain ⟨h1, o, h2⟩ := c.bg a e
  refine ⟨?_, o, h2⟩
  cases e1 : G1 a with
  | none => rfl
  | some o1 =>
    have e2 := s.n a o1 e1 h1
    obtain ⟨o3, e3⟩ := c.stp.k a o h2
    rw [e2] at e3
    cases e3
/-- what is owned is not the bag -/
theorem Core.own_ne (c : Core B C G0 H0 G H b) {p : Addr} (hp : H0 p = none) : p ∉ B := fun e => by
  obtain ⟨_, o, h2⟩ := c.bg p (c.bc p e)
  rw [hp] at h2
  cases h2
theorem Stp.own_free (s : Stp B G H G1 H1) {p : Addr} {o : HO} (hg : G p = none) (hh : H p = some o) : G1 p = none := by
  cases e : G1 p with
  | none => rfl
  | some o1 =>
    have e2 := s.n p o1 e hg
    rw [hh] at e2
    cases e2
theorem SlotOk.step {Cs : List Addr} {f : Flg} {sv : Option (Option V)} {d : D} {fp : List Addr} (x : SlotOk K T B G H f sv d fp) (s : Stp Cs G H G1 H1) (hp : ∀ p ∈ fp, p ∉ Cs) : SlotOk K T B G1 H1 f sv d fp := by
  cases f with
  | un =>
    unfold SlotOk at x ⊢
    exact x
  | dat =>
    obtain ⟨h1, v, h2, h3⟩ := x
    exact ⟨h1, v, h2, h3.mono s.g⟩
  | bag =>
    unfold SlotOk at x ⊢
    exact x
  | ol =>
    obtain ⟨p, vs, ds, h1, h2, h3, h4, h5⟩ := x
    exact ⟨p, vs, ds, h1, h2, s.h _ _ h3 (hp p (by rw [h5]; exact List.mem_singleton.mpr rfl)), h4.mono s.g, h5⟩
  | od =>
    obtain ⟨p, vs, ds, h1, h2, h3, h4, h5⟩ := x
    exact ⟨p, vs, ds, h1, h2, s.h _ _ h3 (hp p (by rw [h5]; exact List.mem_singleton.mpr rfl)), h4.mono s.g, h5⟩
  | oi =>
    obtain ⟨p, c, dx, fs, xs, h1, h2, h3, h4, h5, h6⟩ := x
    exact ⟨p, c, dx, fs, xs, h1, h2, s.h _ _ h3 (hp p (by rw [h6]; exact List.mem_singleton.mpr rfl)), h4, h5.mono s.g, h6⟩
  | oll =>
    obtain ⟨p, q, vs, ds, us, l, h1, h2, h3, h4, h5, h6, h7, h8⟩ := x
    exact ⟨p, q, vs, ds, us, l, h1, h2, s.h _ _ h3 (hp p (by rw [h8]; simp)), s.h _ _ h4 (hp q (by rw [h8]; simp)), h5.mono s.g, h6.mono s.g, h7, h8⟩
  | og =>
    obtain ⟨t, p, dx, c, fs, xs, v, d2, h1, h2, h3, h4, h5, h6, h7, h8, h9⟩ := x
    exact ⟨t, p, dx, c, fs, xs, v, d2, h1, h2, s.h _ _ h3 (hp t (by rw [h9]; simp)), s.h _ _ h4 (hp p (by rw [h9]; simp)), h5, h6.mono s.g, h7.mono s.g, h8, h9⟩
/-- every owned address is tracked -/
theorem SlotOk.there {f : Flg} {sv : Option (Option V)} {d : D} {fp : List Addr} (x : SlotOk K T B G H f sv d fp) : ∀ p ∈ fp, ∃ o, H p = some o := by
  intro q hq
  cases f with
  | un =>
    unfold SlotOk at x
    rw [x] at hq
    cases hq
  | dat =>
    rw [x.1] at hq
    cases hq
  | bag =>
    rw [x.1] at hq
    cases hq
  | ol =>
    obtain ⟨p, vs, ds, h1, h2, h3, h4, h5⟩ := x
    rw [h5] at hq
    rw [List.mem_singleton.mp hq]
    exact ⟨_, h3⟩
  | od =>
    obtain ⟨p, vs, ds, h1, h2, h3, h4, h5⟩ := x
    rw [h5] at hq
    rw [List.mem_singleton.mp hq]
    exact ⟨_, h3⟩
  | oi =>
    obtain ⟨p, c, dx, fs, xs, h1, h2, h3, h4, h5, h6⟩ := x
    rw [h6] at hq
    rw [List.mem_singleton.mp hq]
    exact ⟨_, h3⟩
  | oll =>
    obtain ⟨p, q', vs, ds, us, l, h1, h2, h3, h4, h5, h6, h7, h8⟩ := x
    rw [h8] at hq
    rcases List.mem_cons.mp hq with e | hq
    · rw [e]
      exact ⟨_, h3⟩
    · rw [List.mem_singleton.mp hq]
      exact ⟨_, h4⟩
  | og =>
    obtain ⟨t, p, dx, c, fs, xs, v, d2, h1, h2, h3, h4, h5, h6, h7, h8, h9⟩ := x
    rw [h9] at hq
    rcases List.mem_cons.mp hq with e | hq
    · rw [e]
      exact ⟨_, h3⟩
    · rw [List.mem_singleton.mp hq]
      exact ⟨_, h4⟩
theorem Good.step (g : Good K T fl B C G0 H0 G H σ env b) (s : Stp B G H G1 H1) (h : BagAt B H1 b1) : Good K T fl B C G0 H0 G1 H1 σ env b1 := by
  obtain ⟨c, l, fp, h1, h2, h3⟩ := g
  refine ⟨c.step s h, l, fp, fun i => (h1 i).step s fun p hp => c.own_ne (h2 i p hp).2, fun i p hp => ⟨?_, (h2 i p hp).2⟩, h3⟩
  obtain ⟨o, ho⟩ := (h1 i).there p hp
  exact s.own_free (h2 i p hp).1 ho
/-- a slot that is data -/
theorem Good.dat (g : Good K T fl B C G0 H0 G H σ env b) {i : Nat} (h : fl.getD i .un = .dat) : ∃ v, σ[i]? = some (some v) ∧ Rep K T G (env.getD i .non) v := by
  obtain ⟨_, _, fp, h1, _, _⟩ := g
  have x := h1 i
  rw [h] at x
  exact x.2
theorem Good.ol (g : Good K T fl B C G0 H0 G H σ env b) {i : Nat} (h : fl.getD i .un = .ol) : ∃ p vs ds, σ[i]? = some (some (.ref p)) ∧ env.getD i .non = .lst ds ∧ H p = some (.lst vs) ∧ Reps K T G ds vs ∧ G p = none ∧ H0 p = none := by
  obtain ⟨_, _, fp, h1, h2, _⟩ := g
  have x := h1 i
  rw [h] at x
  obtain ⟨p, vs, ds, e1, e2, e3, e4, e5⟩ := x
  have hp := h2 i p (by rw [e5]; exact List.mem_singleton.mpr rfl)
  exact ⟨p, vs, ds, e1, e2, e3, e4, hp.1, hp.2⟩
/-- a slot is given a value -/
theorem getD_set_same {α : Type} {l : List α} {i : Nat} {a d : α} (h : i < l.length) : (l.set i a).getD i d = a := by
  simp [List.getD_eq_getElem?_getD, h]
theorem getD_set_ne {α : Type} {l : List α} {i j : Nat} {a d : α} (h : i ≠ j) : (l.set i a).getD j d = l.getD j d := by
  simp [List.getD_eq_getElem?_getD, List.getElem?_set_ne h]
theorem getD_out {α : Type} {l : List α} {i : Nat} {d : α} (h : l.length ≤ i) : l.getD i d = d := by
  simp [List.getD_eq_getElem?_getD, List.getElem?_eq_none h]
theorem Good.put (g : Good K T fl B C G0 H0 G H σ env b) {i : Nat} {v : V} {d : D} (r : Rep K T G d v) (hi : i < env.length) : Good K T (fl.set i .dat) B C G0 H0 G H (σ.set i (some v)) (env.set i d) b := by
  obtain ⟨c, l, fp, h1, h2, h3⟩ := g
  refine ⟨c, by rw [List.length_set, List.length_set, l], fun j => if j = i then [] else fp j, fun j => ?_, fun j p hp => ?_, fun j k p hj hk => ?_⟩
  · by_cases e : j = i
    · subst e
      simp only [if_pos rfl]
      by_cases hf : j < fl.length
      · rw [getD_set_same hf, getD_set_same hi]
        exact ⟨rfl, v, by rw [List.getElem?_set_self (by omega)], r⟩
      · rw [getD_out (by rw [List.length_set]; omega)]
        rfl
    · simp only [if_neg e]
      rw [getD_set_ne (Ne.symm e), getD_set_ne (Ne.symm e), List.getElem?_set_ne (Ne.symm e)]
      exact h1 j
  · by_cases e : j = i
    · simp only [if_pos e] at hp
      cases hp
    · simp only [if_neg e] at hp
      exact h2 j p hp
  · by_cases e : j = i
    · simp only [if_pos e] at hj
      cases hj
    · by_cases e' : k = i
      · simp only [if_pos e'] at hk
        cases hk
      · simp only [if_neg e] at hj
        simp only [if_neg e'] at hk
        exact h3 j k p hj hk
/-- flags are forgotten -/
theorem Good.weak (g : Good K T fl B C G0 H0 G H σ env b) {fl' : List Flg} (h : ∀ i, fl'.getD i .un = fl.getD i .un ∨ fl'.getD i .un = .un) : Good K T fl' B C G0 H0 G H σ env b := by
  obtain ⟨c, l, fp, h1, h2, h3⟩ := g
  refine ⟨c, l, fun j => if fl'.getD j .un = .un then [] else fp j, fun j => ?_, fun j p hp => ?_, fun j k p hj hk => ?_⟩
  · by_cases e : fl'.getD j .un = .un
    · simp only [if_pos e]
      rw [e]
      rfl
    · simp only [if_neg e]
      rcases h j with z | z
      · rw [z]
        exact h1 j
      · exact absurd z e
  · by_cases e : fl'.getD j .un = .un
    · simp only [if_pos e] at hp
      cases hp
    · simp only [if_neg e] at hp
      exact h2 j p hp
  · by_cases e : fl'.getD j .un = .un
    · simp only [if_pos e] at hj
      cases hj
    · by_cases e' : fl'.getD k .un = .un
      · simp only [if_pos e'] at hk
        cases hk
      · simp only [if_neg e] at hj
        simp only [if_neg e'] at hk
        exact h3 j k p hj hk
theorem Good.there (g : Good K T fl B C G0 H0 G H σ env b) : ∃ fp : Nat → List Addr, (∀ i, SlotOk K T B G H (fl.getD i .un) σ[i]? (env.getD i .non) (fp i)) ∧ (∀ i p, p ∈ fp i → G p = none ∧ H0 p = none ∧ ∃ o, H p = some o) ∧ (∀ i j p, p ∈ fp i → p ∈ fp j → i = j) := by
  obtain ⟨_, _, fp, h1, h2, h3⟩ := g
  exact ⟨fp, h1, fun i p hp => ⟨(h2 i p hp).1, (h2 i p hp).2, (h1 i).there p hp⟩, h3⟩
/-- a slot is given an object that is new, not frozen: f its flag -/
theorem Good.own (g : Good K T fl B C G0 H0 G H σ env b) (s : Stp B G H G1 H1) (hb : BagAt B H1 b1) {i : Nat} {p : Addr} {d : D} {f : Flg} (hp : H p = none) (hg : G1 p = none) (hi : i < env.length)
    (ok : SlotOk K T B G1 H1 f (some (some (.ref p))) d [p]) : Good K T (fl.set i f) B C G0 H0 G1 H1 (σ.set i (some (.ref p))) (env.set i d) b1 := by
  have h0 : H0 p = none := by
    cases e : H0 p with
    | none => rfl
    | some o =>
      obtain ⟨o', e'⟩ := g.core.stp.k p o e
      rw [hp] at e'
      cases e'
  obtain ⟨fpA, _, nA, _⟩ := g.there
  obtain ⟨c, l, fp, h1, h2, h3⟩ := g.step s hb
  obtain ⟨c0, l0, fp0, k1, k2, k3⟩ := g
  -- the footprints are those of the slots ahead of the step
  refine ⟨c, by rw [List.length_set, List.length_set, l], fun j => if j = i then (if i < fl.length then [p] else []) else fp0 j, fun j => ?_, fun j q hq => ?_, fun j k q hj hk => ?_⟩
  · by_cases e : j = i
    · subst e
      simp only [if_pos rfl]
      by_cases hf : j < fl.length
      · rw [getD_set_same hf, getD_set_same hi, List.getElem?_set_self (by omega), if_pos hf]
        exact ok
      · rw [getD_out (by rw [List.length_set]; omega), if_neg hf]
        rfl
    · simp only [if_neg e]
      rw [getD_set_ne (Ne.symm e), getD_set_ne (Ne.symm e), List.getElem?_set_ne (Ne.symm e)]
      exact (k1 j).step s fun q hq => c0.own_ne (k2 j q hq).2
  · by_cases e : j = i
    · simp only [if_pos e] at hq
      split at hq
      · rw [List.mem_singleton.mp hq]
        exact ⟨hg, h0⟩
      · cases hq
    · simp only [if_neg e] at hq
      obtain ⟨o, ho⟩ := (k1 j).there q hq
      exact ⟨s.own_free (k2 j q hq).1 ho, (k2 j q hq).2⟩
  · have old : ∀ m q, q ∈ fp0 m → q ≠ p := fun m q hq z => by
      obtain ⟨o, ho⟩ := (k1 m).there q hq
      rw [z, hp] at ho
      cases ho
    by_cases e : j = i
    · by_cases e' : k = i
      · rw [e, e']
      · simp only [if_pos e] at hj
        simp only [if_neg e'] at hk
        split at hj
        · exact absurd (List.mem_singleton.mp hj) (old k q hk)
        · cases hj
    · by_cases e' : k = i
      · simp only [if_neg e] at hj
        simp only [if_pos e'] at hk
        split at hk
        · exact absurd (List.mem_singleton.mp hk) (old j q hj)
        · cases hk
      · simp only [if_neg e] at hj
        simp only [if_neg e'] at hk
        exact k3 j k q hj hk
end
end ZL
end
section
set_option Elab.async false
set_option linter.all false
set_option maxRecDepth 100000
namespace ZL
open PySem PySem.Spec PyProof.Rows L2 Z

/-! ### values: borrowed, fresh -/
section
variable (K : PySem.W.Frag) (T : Tb)
/-- the object at p is d, its items frozen -/
def RepO (G H : Hp) : D → Addr → Prop
  | .lst ds, p => ∃ vs, H p = some (.lst vs) ∧ Reps K T G ds vs
  | .dct kvs, p => ∃ ks, H p = some (.dK ks) ∧ RepK K T G kvs ks
  | .ins c xs, p => ∃ dx fs, H p = some (.ins (T.adr c) dx fs) ∧ fs.map (·.1) = T.fld c ∧ Reps K T G xs (fs.map (·.2))
  | _, _ => False
/-- d for a look: frozen, or an own object -/
def RepB (B : List Addr) (G H : Hp) (d : D) (v : V) : Prop := Rep K T G d v ∨ ∃ p, v = .ref p ∧ p ∉ B ∧ RepO K T G H d p
/-- an exception of class c with the one field x -/
def ExcAt (G H : Hp) (c : Nat) (x : D) (cls : Value) (dd : Option Addr) : Prop := cls = .ref (T.adr c) ∧ ∃ dx v f, dd = some dx ∧ T.fld c = [f] ∧ H dx = some (.xd [(f, v)]) ∧ Rep K T G x v
/-- what is wanted of an exception -/
def XOk (W : XK) (B C : List Addr) (G0 H0 : Hp) (c : Nat) (x : D) (b : Bag) : Prop := ∀ G H cls dd, Core B C G0 H0 G H b → ExcAt K T G H c x cls dd → W cls dd H
abbrev WF : XK := fun _ _ _ => False
/-! ### readings -/
/-- an outcome: a value, an exception -/
def oW {α : Type} (P : α → Bag → Prop) (E : Nat → D → Bag → Prop) : Rs α → Prop
  | .ok a b => P a b
  | .ex c x b => E c x b
  | .no => False
def tE (W : XK) (fl : List Flg) (F : Z.Ex) : TE := fun σ H Q => ∃ B C G0 H0 G env b, Good K T fl B C G0 H0 G H σ env b ∧ oW (fun d b' => ∀ G' H' v, Stp B G H G' H' → BagAt B H' b' → Rep K T G' d v → Q v H') (XOk K T W B C G0 H0) (F env b)
def tB (W : XK) (fl : List Flg) (F : Z.Ex) : TE := fun σ H Q => ∃ B C G0 H0 G env b, Good K T fl B C G0 H0 G H σ env b ∧ oW (fun d b' => ∀ G' H' v, Stp B G H G' H' → BagAt B H' b' → RepB K T B G' H' d v → Q v H') (XOk K T W B C G0 H0) (F env b)
def tF (W : XK) (fl : List Flg) (F : Z.Ex) : TE := fun σ H Q => ∃ B C G0 H0 G env b, Good K T fl B C G0 H0 G H σ env b ∧ oW (fun d b' => ∀ G' H' p, Stp B G H G' H' → BagAt B H' b' → H p = none → G' p = none → RepO K T G' H' d p → Q (.ref p) H') (XOk K T W B C G0 H0) (F env b)
def isB (P : Bool → Bag → Prop) : D → Bag → Prop
  | .bl c, b => P c b
  | _, _ => False
def tT (W : XK) (fl : List Flg) (F : Z.Ex) : TT := fun σ H Q => ∃ B C G0 H0 G env b, Good K T fl B C G0 H0 G H σ env b ∧ oW (isB fun c b' => ∀ G' H', Stp B G H G' H' → BagAt B H' b' → Q c H') (XOk K T W B C G0 H0) (F env b)
def tAs (W : XK) (fl : List Flg) (F : Z.Exs) : TA := fun σ H Q => ∃ B C G0 H0 G env b, Good K T fl B C G0 H0 G H σ env b ∧ oW (fun ds b' => ∀ G' H' vs, Stp B G H G' H' → BagAt B H' b' → Reps K T G' ds vs → Q vs H') (XOk K T W B C G0 H0) (F env b)
/-- the arguments of a look (len(x), sorted(x) ..): borrowed -/
def RepsB (B : List Addr) (G H : Hp) : List D → List V → Prop
  | [], vs => vs = []
  | d :: ds, vs => ∃ v r, vs = v :: r ∧ RepB K T B G H d v ∧ RepsB B G H ds r
def tAb (W : XK) (fl : List Flg) (F : Z.Exs) : TA := fun σ H Q => ∃ B C G0 H0 G env b, Good K T fl B C G0 H0 G H σ env b ∧ oW (fun ds b' => ∀ G' H' vs, Stp B G H G' H' → BagAt B H' b' → RepsB K T B G' H' ds vs → Q vs H') (XOk K T W B C G0 H0) (F env b)
/-- what a result is asked to be -/
def ResE (G H : Hp) (d : D) (Q : VK) : Prop := ∀ G' H' v, Stp [] G H G' H' → Rep K T G' d v → Q v H'
def ResF (G H : Hp) (d : D) (Q : VK) : Prop := ∀ G' H' p, Stp [] G H G' H' → H p = none → G' p = none → RepO K T G' H' d p → Q (.ref p) H'
def Sem2 (r : R2) (g : D → D → Option D) : Prop := ∀ B G H x y d u v Q, Sub G H → RepB K T B G H x u → RepB K T B G H y v → g x y = some d → ResE K T G H d Q → r u v H Q
def Sem2F (r : R2) (g : D → D → Option D) : Prop := ∀ B G H x y d u v Q, Sub G H → RepB K T B G H x u → RepB K T B G H y v → g x y = some d → ResF K T G H d Q → r u v H Q
def Sem1 (r : V → Hp → VK → Prop) (g : D → Option D) : Prop := ∀ B G H x d u Q, Sub G H → RepB K T B G H x u → g x = some d → ResE K T G H d Q → r u H Q
def Sem1F (r : V → Hp → VK → Prop) (g : D → Option D) : Prop := ∀ B G H x d u Q, Sub G H → RepB K T B G H x u → g x = some d → ResF K T G H d Q → r u H Q
def SemA (r : List V → Hp → VK → Prop) (g : List D → Option D) : Prop := ∀ B G H ds d us Q, Sub G H → RepsB K T B G H ds us → g ds = some d → ResE K T G H d Q → r us H Q
def SemAF (r : List V → Hp → VK → Prop) (g : List D → Option D) : Prop := ∀ B G H ds d us Q, Sub G H → RepsB K T B G H ds us → g ds = some d → ResF K T G H d Q → r us H Q
end

theorem PE.le {X : Cx} {e : Expr} {t t' : TE} (h : PE X e t) (k : ∀ σ H Q, t' σ H Q → t σ H Q) : PE X e t' := ⟨fun pins s σ H Q I q => h.run pins s σ H Q I (k σ H Q q)⟩
theorem PT.le {X : Cx} {e : Expr} {t t' : TT} (h : PT X e t) (k : ∀ σ H Q, t' σ H Q → t σ H Q) : PT X e t' := ⟨fun pins s σ H Q I q => h.run pins s σ H Q I (k σ H Q q)⟩
theorem PW.le {X : Cx} {e : Expr} {t t' : TT} (h : PW X e t) (k : ∀ σ H Q, t' σ H Q → t σ H Q) : PW X e t' := ⟨fun wh pins s σ H Q I q => h.run wh pins s σ H Q I (k σ H Q q)⟩
theorem PA.le {X : Cx} {e : List Expr} {t t' : TA} (h : PA X e t) (k : ∀ σ H Q, t' σ H Q → t σ H Q) : PA X e t' := ⟨fun pos pins s σ H Q I q => h.run pos pins s σ H Q I (k σ H Q q)⟩
theorem PS.le {X : Cx} {e : Stmt} {t t' : TS} (h : PS X e t) (k : ∀ D σ H, t' D σ H → t D σ H) : PS X e t' := ⟨fun pins s σ H D I q => h.run pins s σ H D I (k D σ H q)⟩
theorem PSs.le {X : Cx} {e : List Stmt} {t t' : TS} (h : PSs X e t) (k : ∀ D σ H, t' D σ H → t D σ H) : PSs X e t' := ⟨fun pins s σ H D I q => h.run pins s σ H D I (k D σ H q)⟩
theorem PG.le {X : Cx} {e : Expr} {t t' : TG} (h : PG X e t) (k : ∀ v σ H Q, t' v σ H Q → t v σ H Q) : PG X e t' := ⟨fun pins s σ H v u Q I r q => h.run pins s σ H v u Q I r (k v σ H Q q)⟩
theorem PI.le {X : Cx} {g e : Expr} {t t' : TI} (h : PI X g e t) (k : ∀ σ H R, t' σ H R → t σ H R) : PI X g e t' := ⟨fun pins s σ H R I q => h.run pins s σ H R I (k σ H R q)⟩

section
variable {K : PySem.W.Frag} {T : Tb} {B C : List Addr} {G0 H0 G H G1 H1 : Hp} {σ : L2.St} {env : Sl} {b b1 : Bag} {fl : List Flg} {W : XK} {d : D} {v : V} {p : Addr}
theorem RepO.step (h : RepO K T G H d p) (s : Stp B G H G1 H1) (hp : p ∉ B) : RepO K T G1 H1 d p := by
  cases d with
  | lst ds =>
    obtain ⟨vs, h1, h2⟩ := h
    exact ⟨vs, s.h _ _ h1 hp, h2.mono s.g⟩
  | dct ds =>
    obtain ⟨vs, h1, h2⟩ := h
    exact ⟨vs, s.h _ _ h1 hp, h2.mono s.g⟩
  | ins c xs =>
    obtain ⟨dx, fs, h1, h2, h3⟩ := h
    exact ⟨dx, fs, s.h _ _ h1 hp, h2, h3.mono s.g⟩
  | _ => exact h.elim
theorem RepO.there (h : RepO K T G H d p) : ∃ o, H p = some o ∧ (G p = none → Rep K T (upd G p o) d (.ref p)) := by
  have up : ∀ o, G p = none → Sub G (upd G p o) := fun o hg a u e => by
    rw [upd_ne (ne_of_none e hg)]
    exact e
  cases d with
  | lst ds =>
    obtain ⟨vs, h1, h2⟩ := h
    refine ⟨_, h1, fun hg => ?_⟩
    unfold Rep
    exact ⟨p, vs, rfl, upd_same, h2.mono (up _ hg)⟩
  | dct ds =>
    obtain ⟨vs, h1, h2⟩ := h
    refine ⟨_, h1, fun hg => ?_⟩
    unfold Rep
    exact ⟨p, vs, rfl, upd_same, h2.mono (up _ hg)⟩
  | ins c xs =>
    obtain ⟨dx, fs, h1, h2, h3⟩ := h
    refine ⟨_, h1, fun hg => ?_⟩
    unfold Rep
    exact ⟨p, dx, fs, rfl, upd_same, h2, h3.mono (up _ hg)⟩
  | _ => exact h.elim
theorem RepB.step (h : RepB K T B G H d v) (s : Stp B G H G1 H1) : RepB K T B G1 H1 d v := by
  rcases h with h | ⟨p, e, nb, h⟩
  · exact .inl (h.mono s.g)
  · exact .inr ⟨p, e, nb, h.step s nb⟩
theorem RepsB.step (s : Stp B G H G1 H1) : ∀ {ds : List D} {vs : List V}, RepsB K T B G H ds vs → RepsB K T B G1 H1 ds vs
  | [], _, h => h
  | d :: ds, vs, h => by
    obtain ⟨v, r, e, h1, h2⟩ := h
    exact ⟨v, r, e, h1.step s, RepsB.step s h2⟩
theorem Reps.toB : ∀ {ds : List D} {vs : List V}, Reps K T G ds vs → RepsB K T B G H ds vs
  | [], _, h => by
    unfold Reps at h
    exact h
  | d :: ds, vs, h => by
    unfold Reps at h
    obtain ⟨v, r, e, h1, h2⟩ := h
    exact ⟨v, r, e, .inl h1, Reps.toB h2⟩
/-- a result that may be frozen -/
theorem ResE.f {Q : VK} (h : ResE K T G H d Q) : ResF K T G H d Q := fun G' H' p s hp hg r => by
  obtain ⟨o, ho, k⟩ := r.there
  exact h _ H' (.ref p) (s.freeze hp ho hg) (k hg)
theorem Sem2F.e {r : R2} {g : D → D → Option D} (h : Sem2F K T r g) : Sem2 K T r g := fun B G H x y d u v Q s hx hy e q => h B G H x y d u v Q s hx hy e q.f
theorem Sem1F.e {r : V → Hp → VK → Prop} {g : D → Option D} (h : Sem1F K T r g) : Sem1 K T r g := fun B G H x d u Q s hx e q => h B G H x d u Q s hx e q.f
theorem SemAF.e {r : List V → Hp → VK → Prop} {g : List D → Option D} (h : SemAF K T r g) : SemA K T r g := fun B G H x d u Q s hx e q => h B G H x d u Q s hx e q.f

/-! ### outcomes -/
theorem oW_bnd {α β : Type} {m : M α} {f : α → M β} {P : β → Bag → Prop} {E : Nat → D → Bag → Prop} {b : Bag} : oW P E (M.bnd m f b) = oW (fun a b1 => oW P E (f a b1)) E (m b) := by
  unfold M.bnd
  cases m b <;> rfl
theorem oW.mono {α : Type} {P P' : α → Bag → Prop} {E E' : Nat → D → Bag → Prop} {r : Rs α} (h : oW P E r) (k : ∀ a b, P a b → P' a b) (k' : ∀ c x b, E c x b → E' c x b) : oW P' E' r := by
  cases r with
  | no => exact h
  | ok a b => exact k a b h
  | ex c x b => exact k' c x b h
theorem oW.imp {α : Type} {P P' : α → Bag → Prop} {E : Nat → D → Bag → Prop} {r : Rs α} (h : oW P E r) (k : ∀ a b, P a b → P' a b) : oW P' E r := h.mono k fun _ _ _ z => z
theorem oW.bnd {α β : Type} {m : M α} {f : α → M β} {P : β → Bag → Prop} {E : Nat → D → Bag → Prop} {b : Bag} (h : oW P E (M.bnd m f b)) : oW (fun a b1 => oW P E (f a b1)) E (m b) := by
  rw [← oW_bnd]
  exact h
theorem oW.opt {α : Type} {o : Option α} {P : α → Bag → Prop} {E : Nat → D → Bag → Prop} {b : Bag} (h : oW P E (M.opt o b)) : ∃ a, o = some a ∧ P a b := by
  cases o with
  | none => exact h.elim
  | some a => exact ⟨a, rfl, h⟩

/-! ### from a judgement to a weaker one -/
section
variable {X : Cx} {e : Expr} {F : Z.Ex}
theorem de_b (h : PE X e (tE K T W fl F)) : PE X e (tB K T W fl F) := PE.le h fun σ H Q ⟨B, C, G0, H0, G, env, b, g, q⟩ =>
  ⟨B, C, G0, H0, G, env, b, g, q.imp fun d b' q G' H' v s hb r => q G' H' v s hb (.inl r)⟩
theorem de_f (h : PE X e (tF K T W fl F)) : PE X e (tE K T W fl F) := PE.le h fun σ H Q ⟨B, C, G0, H0, G, env, b, g, q⟩ =>
  ⟨B, C, G0, H0, G, env, b, g, q.imp fun d b' q G' H' p s hb hp hg r => by
    obtain ⟨o, ho, k⟩ := r.there
    exact q _ H' (.ref p) (s.freeze hp ho hg) hb (k hg)⟩
theorem df_b (h : PE X e (tF K T W fl F)) : PE X e (tB K T W fl F) := de_b (de_f h)
end

/-! ### names, constants -/
section
variable {X : Cx}
theorem de_var (i : Nat) {x : Str} {pos : Pos} (hf : fl.getD i .un = .dat) (h : PE X (.Name x pos) (tVar i)) : PE X (.Name x pos) (tE K T W fl (xV i)) := PE.le h fun σ H Q q => by
  obtain ⟨B, C, G0, H0, G, env, b, g, q⟩ := q
  obtain ⟨v, e, r⟩ := g.dat hf
  exact ⟨v, e, q G H v (.refl g.core.sub) g.core.bag r⟩
theorem de_own (i : Nat) {x : Str} {pos : Pos} (hf : fl.getD i .un = .ol) (h : PE X (.Name x pos) (tVar i)) : PE X (.Name x pos) (tB K T W fl (xV i)) := PE.le h fun σ H Q q => by
  obtain ⟨B, C, G0, H0, G, env, b, g, q⟩ := q
  obtain ⟨p, vs, ds, e, ed, hp, r, gp, h0⟩ := g.ol hf
  refine ⟨.ref p, e, q G H (.ref p) (.refl g.core.sub) g.core.bag (.inr ⟨p, rfl, g.core.own_ne h0, ?_⟩)⟩
  rw [ed]
  exact ⟨vs, hp, r⟩
theorem de_c {e : Expr} {d : D} {v : V} (h : PE X e (tC v)) (r : ∀ G, Rep K T G d v) : PE X e (tE K T W fl (xC d)) := PE.le h fun σ H Q q => by
  obtain ⟨B, C, G0, H0, G, env, b, g, q⟩ := q
  exact q G H v (.refl g.core.sub) g.core.bag (r G)
theorem de_int {i : Int} {j pos} : PE X (.Constant (.int i) j pos) (tE K T W fl (xC (.int i))) := de_c pe_int fun _ => by
  unfold Rep
  rfl
theorem de_bl {i : Bool} {j pos} : PE X (.Constant (.bool i) j pos) (tE K T W fl (xC (.bl i))) := de_c pe_bl fun _ => by
  unfold Rep
  rfl
theorem de_non {j pos} : PE X (.Constant .none j pos) (tE K T W fl (xC .non)) := de_c pe_non fun _ => by
  unfold Rep
  rfl
theorem de_str (s : List Char) {x : Str} {j pos} (h : x = toS s) : PE X (.Constant (.str x) j pos) (tE K T W fl (xC (.str s))) := de_c pe_str fun _ => by
  unfold Rep
  rw [h]
end

/-! ### operators -/
section
variable {X : Cx} {a c e : Expr} {Fa Fb Fc : Z.Ex}
theorem op2_e {r : R2} {g : D → D → Option D} (hr : Sem2 K T r g) (h : PE X e (tOp r (tB K T W fl Fa) (tB K T W fl Fb))) : PE X e (tE K T W fl (x2 g Fa Fb)) :=
  PE.le h fun σ H Q ⟨B, C, G0, H0, G, env, b, gd, q⟩ => ⟨B, C, G0, H0, G, env, b, gd, q.bnd.imp fun x b1 q G1 H1 u s1 hb1 r1 =>
    ⟨B, C, G0, H0, G1, env, b1, gd.step s1 hb1, q.bnd.imp fun y b2 q G2 H2 w s2 hb2 r2 => by
      obtain ⟨d, eg, q⟩ := q.opt
      exact hr B G2 H2 x y d u w Q s2.i (r1.step s2) r2 eg fun G3 H3 z s3 r3 => q G3 H3 z ((s1.trans s2).trans s3.pure) (hb2.keep s3) r3⟩⟩
theorem op2_f {r : R2} {g : D → D → Option D} (hr : Sem2F K T r g) (h : PE X e (tOp r (tB K T W fl Fa) (tB K T W fl Fb))) : PE X e (tF K T W fl (x2 g Fa Fb)) :=
  PE.le h fun σ H Q ⟨B, C, G0, H0, G, env, b, gd, q⟩ => ⟨B, C, G0, H0, G, env, b, gd, q.bnd.imp fun x b1 q G1 H1 u s1 hb1 r1 =>
    ⟨B, C, G0, H0, G1, env, b1, gd.step s1 hb1, q.bnd.imp fun y b2 q G2 H2 w s2 hb2 r2 => by
      obtain ⟨d, eg, q⟩ := q.opt
      exact hr B G2 H2 x y d u w Q s2.i (r1.step s2) r2 eg fun G3 H3 z s3 hz gz r3 => q G3 H3 z ((s1.trans s2).trans s3.pure) (hb2.keep s3) ((s1.trans s2).back hz) gz r3⟩⟩
end
end
end ZL
end
section
set_option Elab.async false
set_option linter.all false
set_option maxRecDepth 100000
namespace ZL
open PySem PySem.Spec PyProof.Rows L2 Z

section
variable {K : PySem.W.Frag} {T : Tb} {B C : List Addr} {G H : Hp} {v : V} {d : D}
theorem RepB.int {i : Int} (h : RepB K T B G H (.int i) v) : v = .int i := by
  rcases h with h | ⟨p, e, nb, h⟩
  · unfold Rep at h
    exact h
  · exact h.elim
theorem RepB.bl {i : Bool} (h : RepB K T B G H (.bl i) v) : v = .bl i := by
  rcases h with h | ⟨p, e, nb, h⟩
  · unfold Rep at h
    exact h
  · exact h.elim
theorem RepB.non (h : RepB K T B G H .non v) : v = .non := by
  rcases h with h | ⟨p, e, nb, h⟩
  · unfold Rep at h
    exact h
  · exact h.elim
theorem RepB.str {i : List Char} (h : RepB K T B G H (.str i) v) : v = .str (toS i) := by
  rcases h with h | ⟨p, e, nb, h⟩
  · unfold Rep at h
    exact h
  · exact h.elim
theorem RepB.lst {xs : List D} (s : Sub G H) (h : RepB K T B G H (.lst xs) v) : ∃ p vs, v = .ref p ∧ H p = some (.lst vs) ∧ Reps K T G xs vs := by
  rcases h with h | ⟨p, e, nb, h⟩
  · unfold Rep at h
    obtain ⟨a, vs, h1, h2, h3⟩ := h
    exact ⟨a, vs, h1, s _ _ h2, h3⟩
  · obtain ⟨vs, h1, h2⟩ := h
    exact ⟨p, vs, e, h1, h2⟩
theorem RepB.tup {xs : List D} (s : Sub G H) (h : RepB K T B G H (.tup xs) v) : ∃ p vs, v = .ref p ∧ SqT K H p vs ∧ Reps K T G xs vs := by
  rcases h with h | ⟨p, e, nb, h⟩
  · unfold Rep at h
    obtain ⟨a, vs, h1, h2, h3⟩ := h
    exact ⟨a, vs, h1, sub_t s h2, h3⟩
  · exact h.elim
theorem RepB.rt {xs : List D} (h : RepB K T B G H (.tup xs) v) : Rep K T G (.tup xs) v := by
  rcases h with h | ⟨p, e, nb, h⟩
  · exact h
  · exact h.elim
theorem RepB.scr {xs : List Int} (s : Sub G H) (h : RepB K T B G H (.scr xs) v) : ∃ p, v = .ref p ∧ SqL K H p (xs.map V.int) := by
  rcases h with h | ⟨p, e, nb, h⟩
  · unfold Rep at h
    obtain ⟨a, h1, h2⟩ := h
    exact ⟨a, h1, sub_l s h2⟩
  · exact h.elim
theorem RepB.ftp {xs : List D} (s : Sub G H) (h : RepB K T B G H (.ftp xs) v) : ∃ p o vs, v = .ref p ∧ H p = some (.frz o (.tup vs)) ∧ o.cls = .type "tuple" ∧ o.dict = none ∧ Reps K T G xs vs := by
  rcases h with h | ⟨p, e, nb, h⟩
  · unfold Rep at h
    obtain ⟨a, o, vs, h1, h2, h3, h4, h5⟩ := h
    exact ⟨a, o, vs, h1, s _ _ h2, h3, h4, h5⟩
  · exact h.elim
theorem RepB.set {xs : List D} (h : RepB K T B G H (.set xs) v) : False := by
  rcases h with h | ⟨p, e, nb, h⟩
  · unfold Rep at h
    exact h
  · exact h.elim
theorem Rep.int {i : Int} : Rep K T G (.int i) (.int i) := by
  unfold Rep
  rfl
theorem Rep.bl {i : Bool} : Rep K T G (.bl i) (.bl i) := by
  unfold Rep
  rfl
theorem Rep.non : Rep K T G .non .non := by
  unfold Rep
  rfl
theorem Rep.str {i : List Char} : Rep K T G (.str i) (.str (toS i)) := by
  unfold Rep
  rfl
/-- a scalar result -/
theorem ResE.at {Q : VK} (s : Sub G H) (h : ResE K T G H d Q) {v : V} (r : Rep K T G d v) : Q v H := h G H v (.refl s) r
theorem ResF.at {xs : List D} {Q : VK} (s : Sub G H) (h : ResF K T G H (.lst xs) Q) {vs : List V} (r : Reps K T G xs vs) : ∀ p, H p = none → Q (.ref p) (upd H p (.lst vs)) := fun p hp => by
  have s1 : Stp [] G H G (upd H p (.lst vs)) := Stp.laid s hp
  refine h G _ p s1 hp ?_ ⟨vs, upd_same, r⟩
  cases e : G p with
  | none => rfl
  | some o =>
    rw [s p o e] at hp
    cases hp
theorem ResE.atT {xs : List D} {Q : VK} (s : Sub G H) (h : ResE K T G H (.tup xs) Q) {vs : List V} (r : Reps K T G xs vs) : ∀ p, H p = none → Q (.ref p) (upd H p (.tup vs)) := fun p hp => by
  have s1 : Stp [] G H (upd G p (.tup vs)) (upd H p (.tup vs)) := Stp.new s hp
  refine h _ _ (.ref p) s1 ?_
  unfold Rep
  exact ⟨p, vs, rfl, SqT.of upd_same, r.mono s1.g⟩

/-! ### data as the library's data -/
mutual
def toPy : D → PyData
  | .non => .none
  | .bl b => .bool b
  | .int i => .int i
  | .str s => .str (toS s)
  | .lst xs => .list (toPyL xs)
  | .tup xs => .tuple (toPyL xs)
  | _ => .none
def toPyL : List D → List PyData
  | [] => []
  | x :: xs => toPy x :: toPyL xs
end
theorem toPyL_map : ∀ xs : List D, toPyL xs = xs.map toPy
  | [] => by simp [toPyL]
  | x :: xs => by simp [toPyL, toPyL_map xs]
theorem strOk_toS (s : List Char) : PyData.strOk (toS s) = true := by
  unfold PyData.strOk toS
  rw [Array.all_eq_true]
  intro i hi
  simp only [List.size_toArray, List.length_map] at hi
  simp only [List.getElem_toArray, List.getElem_map, decide_eq_true_eq]
  have h := (s[i]).valid
  have h2 : (s[i]).toNat = (s[i]).val.toNat := rfl
  rw [h2]
  rcases h with h | h
  · have : (s[i]).val.toNat < 0xd800 := h
    omega
  · have : (s[i]).val.toNat < 0x110000 := h.2
    omega
mutual
theorem py_lay : ∀ d : D, (toPy d).canLay0 = true
  | .non => by simp [toPy, PyData.canLay0]
  | .bl _ => by simp [toPy, PyData.canLay0]
  | .int _ => by simp [toPy, PyData.canLay0]
  | .str s => by simp [toPy, PyData.canLay0, strOk_toS]
  | .lst xs => by simp [toPy, PyData.canLay0, py_layL xs]
  | .tup xs => by simp [toPy, PyData.canLay0, py_layL xs]
  | .dct _ => by simp [toPy, PyData.canLay0]
  | .set _ => by simp [toPy, PyData.canLay0]
  | .ins _ _ => by simp [toPy, PyData.canLay0]
  | .scr _ => by simp [toPy, PyData.canLay0]
  | .ftp _ => by simp [toPy, PyData.canLay0]
theorem py_layL : ∀ xs : List D, PyData.canLayAll0 (toPyL xs) = true
  | [] => by simp [toPyL, PyData.canLayAll0]
  | x :: xs => by simp [toPyL, PyData.canLayAll0, py_lay x, py_layL xs]
end
mutual
theorem py_dep : ∀ d : D, (toPy d).depth ≤ dep d
  | .non => by simp [toPy, PyData.depth]
  | .bl _ => by simp [toPy, PyData.depth]
  | .int _ => by simp [toPy, PyData.depth]
  | .str s => by simp [toPy, PyData.depth]
  | .lst xs => by
    have := py_depL xs
    simp [toPy, PyData.depth, dep]
    omega
  | .tup xs => by
    have := py_depL xs
    simp [toPy, PyData.depth, dep]
    omega
  | .dct _ => by simp [toPy, PyData.depth]
  | .set _ => by simp [toPy, PyData.depth]
  | .ins _ _ => by simp [toPy, PyData.depth]
  | .scr _ => by simp [toPy, PyData.depth]
  | .ftp _ => by simp [toPy, PyData.depth]
theorem py_depL : ∀ xs : List D, PyData.depthAll (toPyL xs) ≤ depL xs
  | [] => by simp [toPyL, PyData.depthAll]
  | x :: xs => by
    have := py_dep x
    have := py_depL xs
    simp [toPyL, PyData.depthAll, depL]
    omega
end
theorem py_shaped {d : D} (h : shp d = true) : SeqAt.shaped (toPy d) = true := by
  unfold shp at h
  unfold SeqAt.shaped
  rw [Bool.and_eq_true] at h ⊢
  refine ⟨py_lay d, ?_⟩
  have h1 := of_decide_eq_true h.2
  have h2 := py_dep d
  exact decide_eq_true (by omega)
mutual
theorem py_eqv : ∀ a b : D, pln a = true → pln b = true → PyData.eqv (toPy a) (toPy b) = eqD a b
  | .non, b, _, hb => by cases b <;> first | (simp [pln] at hb; done) | simp [toPy, PyData.eqv, eqD]
  | .bl x, b, _, hb => by
    cases b with
    | int j =>
      simp only [toPy, PyData.eqv, eqD, bI]
      rfl
    | _ => first | (simp [pln] at hb; done) | simp [toPy, PyData.eqv, eqD]
  | .int x, b, _, hb => by
    cases b with
    | bl j =>
      simp only [toPy, PyData.eqv, eqD, bI]
      rfl
    | int j =>
      simp only [toPy, PyData.eqv, eqD]
      rfl
    | _ => first | (simp [pln] at hb; done) | simp [toPy, PyData.eqv, eqD]
  | .str x, b, _, hb => by
    cases b with
    | str y =>
      simp only [toPy, PyData.eqv, eqD]
      by_cases e : x = y
      · subst e
        simp
      · rw [decide_eq_false e]
        exact beq_eq_false_iff_ne.mpr fun z => e (toS_inj z)
    | _ => first | (simp [pln] at hb; done) | simp [toPy, PyData.eqv, eqD]
  | .lst xs, b, ha, hb => by
    cases b with
    | lst ys =>
      simp only [pln] at ha hb
      simp only [toPy, PyData.eqv, eqD]
      exact py_eqvL xs ys ha hb
    | _ => first | (simp [pln] at hb; done) | simp [toPy, PyData.eqv, eqD]
  | .tup xs, b, ha, hb => by
    cases b with
    | tup ys =>
      simp only [pln] at ha hb
      simp only [toPy, PyData.eqv, eqD]
      exact py_eqvL xs ys ha hb
    | _ => first | (simp [pln] at hb; done) | simp [toPy, PyData.eqv, eqD]
  | .dct _, _, ha, _ => by simp [pln] at ha
  | .set _, _, ha, _ => by simp [pln] at ha
  | .ins _ _, _, ha, _ => by simp [pln] at ha
  | .scr _, _, ha, _ => by simp [pln] at ha
  | .ftp _, _, ha, _ => by simp [pln] at ha
theorem py_eqvL : ∀ xs ys : List D, plnL xs = true → plnL ys = true → PyData.eqvAll (toPyL xs) (toPyL ys) = eqL xs ys
  | [], [], _, _ => by simp [toPyL, PyData.eqvAll, eqL]
  | [], _ :: _, _, _ => by simp [toPyL, PyData.eqvAll, eqL]
  | _ :: _, [], _, _ => by simp [toPyL, PyData.eqvAll, eqL]
  | x :: xs, y :: ys, ha, hb => by
    simp only [plnL, Bool.and_eq_true] at ha hb
    simp only [toPyL, PyData.eqvAll, eqL]
    rw [py_eqv x y ha.1 hb.1, py_eqvL xs ys ha.2 hb.2]
end
mutual
theorem dp_of (s : Sub G H) : ∀ (d : D) (v : V), pln d = true → Rep K T G d v → Dp K H v (toPy d)
  | .non, v, _, h => by
    unfold Rep at h
    subst h
    simp only [toPy]
    exact .non
  | .bl b, v, _, h => by
    unfold Rep at h
    subst h
    simp only [toPy]
    exact .bl b
  | .int i, v, _, h => by
    unfold Rep at h
    subst h
    simp only [toPy]
    exact .int i
  | .str x, v, _, h => by
    unfold Rep at h
    subst h
    simp only [toPy]
    exact .str _
  | .lst xs, v, hp, h => by
    unfold Rep at h
    obtain ⟨a, vs, h1, h2, h3⟩ := h
    simp only [pln] at hp
    subst h1
    simp only [toPy]
    exact .lst (SqL.of (s _ _ h2)) (dps_of s xs vs hp h3)
  | .tup xs, v, hp, h => by
    unfold Rep at h
    obtain ⟨a, vs, h1, h2, h3⟩ := h
    simp only [pln] at hp
    subst h1
    simp only [toPy]
    exact .tup (sub_t s h2) (dps_of s xs vs hp h3)
  | .dct _, _, ha, _ => by simp [pln] at ha
  | .set _, _, ha, _ => by simp [pln] at ha
  | .ins _ _, _, ha, _ => by simp [pln] at ha
  | .scr _, _, ha, _ => by simp [pln] at ha
  | .ftp _, _, ha, _ => by simp [pln] at ha
theorem dps_of (s : Sub G H) : ∀ (ds : List D) (vs : List V), plnL ds = true → Reps K T G ds vs → DpAll K H vs (toPyL ds)
  | [], vs, _, h => by
    unfold Reps at h
    subst h
    simp only [toPyL]
    exact .nil
  | x :: xs, vs, hp, h => by
    unfold Reps at h
    obtain ⟨v, r, h1, h2, h3⟩ := h
    simp only [plnL, Bool.and_eq_true] at hp
    subst h1
    simp only [toPyL]
    exact .cons (dp_of s x v hp.1 h2) (dps_of s xs r hp.2 h3)
end
theorem dpB_of (s : Sub G H) {d : D} {v : V} (hp : pln d = true) (h : RepB K T B G H d v) : Dp K H v (toPy d) := by
  cases d with
  | lst xs =>
    obtain ⟨p, vs, e, h1, h2⟩ := h.lst s
    subst e
    simp only [toPy]
    simp only [pln] at hp
    exact .lst (SqL.of h1) (dps_of s xs vs hp h2)
  | tup xs =>
    obtain ⟨p, vs, e, h1, h2⟩ := h.tup s
    subst e
    simp only [toPy]
    simp only [pln] at hp
    exact .tup h1 (dps_of s xs vs hp h2)
  | dct _ => simp [pln] at hp
  | ins _ _ => simp [pln] at hp
  | _ =>
    rcases h with h | ⟨p, e, nb, h⟩
    · exact dp_of s _ _ hp h
    · exact h.elim
theorem shp_pln {d : D} (h : shp d = true) : pln d = true := (Bool.and_eq_true_iff.mp h).1
end

/-! ### operators -/
theorem OpR.or {X : Cx} {f : Value → Value → Sem Value} {r r' : R2} (h : OpR X f r) (h' : OpR X f r') : OpR X f (fun x y H Q => r x y H Q ∨ r' x y H Q) :=
  fun pins s σ H x y v u Q I rx ry q => q.elim (h pins s σ H x y v u Q I rx ry) (h' pins s σ H x y v u Q I rx ry)
theorem IxR.or {X : Cx} {r r' : R2} (h : IxR X r) (h' : IxR X r') : IxR X (fun x y H Q => r x y H Q ∨ r' x y H Q) := by
  intro value slice pins s σ H x y v u Q I rx ry q hs
  rcases q with q | q
  · exact h value slice pins s σ H x y v u Q I rx ry q hs
  · exact h' value slice pins s σ H x y v u Q I rx ry q hs
theorem CallR.or {X : Cx} {f : Value} {r r' : List V → Hp → VK → Prop} (h : CallR X f r) (h' : CallR X f r') : CallR X f (fun x H Q => r x H Q ∨ r' x H Q) :=
  fun pins s σ H xs us Q I rx q => q.elim (h pins s σ H xs us Q I rx) (h' pins s σ H xs us Q I rx)
section
variable {K : PySem.W.Frag} {T : Tb}
theorem lim_line {n : Nat} (h : n ≤ lim) : n ≤ sizeLine := Nat.le_trans h (by decide)
theorem lim_line2 {n m : Nat} (h : n ≤ lim) (h' : m ≤ lim) : n + m ≤ sizeLine := Nat.le_trans (Nat.add_le_add h h') (by decide)
theorem sem_eq : Sem2 K T (rEqD K) oEq := by
  intro B G H x y d u v Q s hx hy e q
  unfold oEq at e
  split at e
  · rename_i hs
    rw [Bool.and_eq_true] at hs
    cases e
    refine ⟨toPy x, toPy y, dpB_of s (shp_pln hs.1) hx, dpB_of s (shp_pln hs.2) hy, py_shaped hs.1, py_shaped hs.2, ?_⟩
    rw [py_eqv x y (shp_pln hs.1) (shp_pln hs.2)]
    exact q.at s .bl
  · cases e
theorem sem_ne : Sem2 K T (rNeD K) oNe := by
  intro B G H x y d u v Q s hx hy e q
  unfold oNe at e
  split at e
  · rename_i hs
    rw [Bool.and_eq_true] at hs
    cases e
    refine ⟨toPy x, toPy y, dpB_of s (shp_pln hs.1) hx, dpB_of s (shp_pln hs.2) hy, py_shaped hs.1, py_shaped hs.2, ?_⟩
    rw [py_eqv x y (shp_pln hs.1) (shp_pln hs.2)]
    exact q.at s .bl
  · cases e
theorem sem_cmp {p : Int → Int → Bool} : Sem2 K T (rI0 fun i j => .bl (p i j)) (cmpI p) := by
  intro B G H x y d u v Q s hx hy e q
  unfold cmpI at e
  split at e
  · cases e
    exact ⟨_, _, hx.int, hy.int, q.at s .bl⟩
  · cases e
def rAdd (K : PySem.W.Frag) : R2 := fun x y H Q => ((rI0 fun i j => .int (i + j)) x y H Q ∨ (∃ i j, x = .str i ∧ y = .str j ∧ i.length + j.length ≤ sizeLine ∧ Q (.str (i ++ j)) H)) ∨ rCat x y H Q
theorem op_addA {X : Cx} : OpR X (binaryOp .Add) (rAdd X.K) := (op_add.or op_add_str).or op_cat
theorem toS_app (s t : List Char) : toS s ++ toS t = toS (s ++ t) := by
  show Str.append (toS s) (toS t) = toS (s ++ t)
  simp [Str.append, toS]
/-- + of ints, texts, lists: a new list -/
def oAddF : D → D → Option D
  | .lst xs, .lst ys => oAdd (.lst xs) (.lst ys)
  | _, _ => none
theorem sem_addF : Sem2F K T (rAdd K) oAddF := by
  intro B G H x y d u v Q s hx hy e q
  unfold oAddF at e
  split at e
  · rename_i xs ys
    unfold oAdd at e
    dsimp only at e
    split at e
    · rename_i hl
      cases e
      obtain ⟨p, vs, e1, h1, h2⟩ := hx.lst s
      obtain ⟨p', vs', e1', h1', h2'⟩ := hy.lst s
      refine .inr ⟨p, p', vs, vs', e1, e1', h1, h1', ?_, q.at s (h2.append h2')⟩
      rw [h2.length, h2'.length]
      exact lim_line2 hl.1 hl.2
    · cases e
  · cases e
def rAddT (K : PySem.W.Frag) : R2 := fun x y H Q => rAdd K x y H Q ∨ rCatA K x y H Q
theorem op_addT {X : Cx} : OpR X (binaryOp .Add) (rAddT X.K) := op_addA.or op_catA
theorem sem_add : Sem2 K T (rAddT K) oAdd := by
  intro B G H x y d u v Q s hx hy e q
  unfold oAdd at e
  split at e
  · cases e
    exact .inl (.inl (.inl ⟨_, _, hx.int, hy.int, q.at s .int⟩))
  · split at e
    · rename_i hl
      cases e
      refine .inl (.inl (.inr ⟨_, _, hx.str, hy.str, ?_, ?_⟩))
      · rw [toS_len, toS_len]
        exact lim_line hl
      · rw [toS_app]
        exact q.at s .str
    · cases e
  · rename_i xs ys
    exact .inl (sem_addF B G H (.lst xs) (.lst ys) d u v Q s hx hy (by unfold oAddF oAdd; exact e) q.f)
  · rename_i xs ys
    split at e
    · rename_i hl
      cases e
      obtain ⟨p, vs, e1, h1, h2⟩ := hx.tup s
      obtain ⟨p', vs', e1', h1', h2'⟩ := hy.tup s
      refine .inr ⟨p, p', vs, vs', e1, e1', h1, h1', ?_, fun z => ?_, fun _ z => ?_, fun _ _ => q.atT s (h2.append h2')⟩
      · rw [h2.length, h2'.length]
        exact lim_line2 hl.1 hl.2
      · have e0 : xs = [] := by
          have := h2.length
          rw [z] at this
          exact List.eq_nil_of_length_eq_zero this.symm
        subst e0
        rw [List.nil_append] at q
        refine q.at s ?_
        rw [← e1']
        exact hy.rt
      · have e0 : ys = [] := by
          have := h2'.length
          rw [z] at this
          exact List.eq_nil_of_length_eq_zero this.symm
        subst e0
        rw [List.append_nil] at q
        refine q.at s ?_
        rw [← e1]
        exact hx.rt
    · cases e
  · cases e
end
end ZL
end
section
set_option Elab.async false
set_option linter.all false
set_option maxRecDepth 100000
namespace ZL
open PySem PySem.Spec PyProof.Rows L2 Z

section
variable {K : PySem.W.Frag} {T : Tb} {fl : List Flg} {W : XK} {X : Cx} {e a b c : Expr} {Fa Fb Fc F : Z.Ex} {Fs : Z.Exs}

/-! ### a judgement's step, in one lemma -/
/-- the first part, then the rest -/
theorem tE_then {F : Z.Ex} {α : Type} {k : D → M α} {σ : L2.St} {H : Hp} {Q : VK} {B C : List Addr} {G0 H0 G : Hp} {env : Sl} {b : Bag} {P : α → Bag → Prop} (g : Good K T fl B C G0 H0 G H σ env b)
    (q : oW P (XOk K T W B C G0 H0) (M.bnd (F env) k b)) (h : ∀ d b1 G1 H1 v, Stp B G H G1 H1 → BagAt B H1 b1 → Rep K T G1 d v → Good K T fl B C G0 H0 G1 H1 σ env b1 → oW P (XOk K T W B C G0 H0) (k d b1) → Q v H1) : tE K T W fl F σ H Q :=
  ⟨B, C, G0, H0, G, env, b, g, q.bnd.imp fun d b1 q G1 H1 v s hb r => h d b1 G1 H1 v s hb r (g.step s hb) q⟩
theorem tB_then {F : Z.Ex} {α : Type} {k : D → M α} {σ : L2.St} {H : Hp} {Q : VK} {B C : List Addr} {G0 H0 G : Hp} {env : Sl} {b : Bag} {P : α → Bag → Prop} (g : Good K T fl B C G0 H0 G H σ env b)
    (q : oW P (XOk K T W B C G0 H0) (M.bnd (F env) k b)) (h : ∀ d b1 G1 H1 v, Stp B G H G1 H1 → BagAt B H1 b1 → RepB K T B G1 H1 d v → Good K T fl B C G0 H0 G1 H1 σ env b1 → oW P (XOk K T W B C G0 H0) (k d b1) → Q v H1) : tB K T W fl F σ H Q :=
  ⟨B, C, G0, H0, G, env, b, g, q.bnd.imp fun d b1 q G1 H1 v s hb r => h d b1 G1 H1 v s hb r (g.step s hb) q⟩
theorem tF_then {F : Z.Ex} {α : Type} {k : D → M α} {σ : L2.St} {H : Hp} {Q : VK} {B C : List Addr} {G0 H0 G : Hp} {env : Sl} {b : Bag} {P : α → Bag → Prop} (g : Good K T fl B C G0 H0 G H σ env b)
    (q : oW P (XOk K T W B C G0 H0) (M.bnd (F env) k b)) (h : ∀ d b1 G1 H1 p, Stp B G H G1 H1 → BagAt B H1 b1 → H p = none → G1 p = none → RepO K T G1 H1 d p → Good K T fl B C G0 H0 G1 H1 σ env b1 → oW P (XOk K T W B C G0 H0) (k d b1) → Q (.ref p) H1) : tF K T W fl F σ H Q :=
  ⟨B, C, G0, H0, G, env, b, g, q.bnd.imp fun d b1 q G1 H1 v s hb h1 h2 r => h d b1 G1 H1 v s hb h1 h2 r (g.step s hb) q⟩
theorem tT_then {F : Z.Ex} {α : Type} {k : D → M α} {σ : L2.St} {H : Hp} {Q : Bool → Hp → Prop} {B C : List Addr} {G0 H0 G : Hp} {env : Sl} {b : Bag} {P : α → Bag → Prop} (g : Good K T fl B C G0 H0 G H σ env b)
    (q : oW P (XOk K T W B C G0 H0) (M.bnd (F env) k b)) (hk : ∀ d b1, oW P (XOk K T W B C G0 H0) (k d b1) → ∃ c, d = .bl c) (h : ∀ c b1 G1 H1, Stp B G H G1 H1 → BagAt B H1 b1 → Good K T fl B C G0 H0 G1 H1 σ env b1 → oW P (XOk K T W B C G0 H0) (k (.bl c) b1) → Q c H1) : tT K T W fl F σ H Q :=
  ⟨B, C, G0, H0, G, env, b, g, q.bnd.imp fun d b1 q => by
    obtain ⟨c, rfl⟩ := hk d b1 q
    exact fun G1 H1 s hb => h c b1 G1 H1 s hb (g.step s hb) q⟩
theorem tAs_then {F : Z.Exs} {α : Type} {k : List D → M α} {σ : L2.St} {H : Hp} {Q : List V → Hp → Prop} {B C : List Addr} {G0 H0 G : Hp} {env : Sl} {b : Bag} {P : α → Bag → Prop} (g : Good K T fl B C G0 H0 G H σ env b)
    (q : oW P (XOk K T W B C G0 H0) (M.bnd (F env) k b)) (h : ∀ d b1 G1 H1 v, Stp B G H G1 H1 → BagAt B H1 b1 → Reps K T G1 d v → Good K T fl B C G0 H0 G1 H1 σ env b1 → oW P (XOk K T W B C G0 H0) (k d b1) → Q v H1) : tAs K T W fl F σ H Q :=
  ⟨B, C, G0, H0, G, env, b, g, q.bnd.imp fun d b1 q G1 H1 v s hb r => h d b1 G1 H1 v s hb r (g.step s hb) q⟩
theorem tAb_then {F : Z.Exs} {α : Type} {k : List D → M α} {σ : L2.St} {H : Hp} {Q : List V → Hp → Prop} {B C : List Addr} {G0 H0 G : Hp} {env : Sl} {b : Bag} {P : α → Bag → Prop} (g : Good K T fl B C G0 H0 G H σ env b)
    (q : oW P (XOk K T W B C G0 H0) (M.bnd (F env) k b)) (h : ∀ d b1 G1 H1 v, Stp B G H G1 H1 → BagAt B H1 b1 → RepsB K T B G1 H1 d v → Good K T fl B C G0 H0 G1 H1 σ env b1 → oW P (XOk K T W B C G0 H0) (k d b1) → Q v H1) : tAb K T W fl F σ H Q :=
  ⟨B, C, G0, H0, G, env, b, g, q.bnd.imp fun d b1 q G1 H1 v s hb r => h d b1 G1 H1 v s hb r (g.step s hb) q⟩
theorem Rep.bl_inv {G : Hp} {c : Bool} {v : V} (h : Rep K T G (.bl c) v) : v = .bl c := by
  unfold Rep at h
  exact h

/-! ### tests -/
theorem dt_val (h : PE X e (tE K T W fl F)) (he : ∀ whole, isTrue e X.env whole = (do let v ← whole; standAt e.pos; holding [v] (truthy v)) := by intro _; rfl) : PT X e (tT K T W fl F) :=
  PT.le (pt_val h he) fun σ H Q ⟨B, C, G0, H0, G, env, b, g, q⟩ => ⟨B, C, G0, H0, G, env, b, g, q.imp fun d b1 q G1 H1 v s hb r => by
    cases d with
    | bl c => exact ⟨c, r.bl_inv, q G1 H1 s hb⟩
    | _ => exact q.elim⟩
theorem dt_not (h : PT X a (tT K T W fl Fa)) {pos : Pos} : PT X (.UnaryOp .Not a pos) (tT K T W fl (xNot Fa)) :=
  PT.le (pt_not h) fun σ H Q ⟨B, C, G0, H0, G, env, b, g, q⟩ => tT_then g q (fun d b1 q => by
    cases d with
    | bl c => exact ⟨c, rfl⟩
    | _ => exact q.elim) fun c b1 G1 H1 s hb g1 q => q G1 H1 s hb
theorem isB_ret {P : Bool → Bag → Prop} {E : Nat → D → Bag → Prop} {c : Bool} {b : Bag} (h : oW (isB P) E (M.ret (.bl c) b)) : P c b := h
theorem dw_and {rest : List Expr} {pos : Pos} (ha : PT X a (tT K T W fl Fa)) (hb : PW X (.BoolOp .And (b :: rest) pos) (tT K T W fl Fb)) : PW X (.BoolOp .And (a :: b :: rest) pos) (tT K T W fl (xAnd Fa Fb)) :=
  PW.le (pw_and ha hb) fun σ H Q ⟨B, C, G0, H0, G, env, b, g, q⟩ => tT_then g q (fun d b1 q => by
    cases d with
    | bl c => exact ⟨c, rfl⟩
    | _ => exact q.elim) fun c b1 G1 H1 s hb g1 q => by
      cases c with
      | true => exact iteT ⟨B, C, G0, H0, G1, env, b1, g1, q.imp fun d b2 q => by
          cases d with
          | bl c => exact fun G2 H2 s2 hb2 => q G2 H2 (s.trans s2) hb2
          | _ => exact q.elim⟩
      | false => exact iteF (isB_ret q G1 H1 s hb)
theorem dw_or {rest : List Expr} {pos : Pos} (ha : PT X a (tT K T W fl Fa)) (hb : PW X (.BoolOp .Or (b :: rest) pos) (tT K T W fl Fb)) : PW X (.BoolOp .Or (a :: b :: rest) pos) (tT K T W fl (xOr Fa Fb)) :=
  PW.le (pw_or ha hb) fun σ H Q ⟨B, C, G0, H0, G, env, b, g, q⟩ => tT_then g q (fun d b1 q => by
    cases d with
    | bl c => exact ⟨c, rfl⟩
    | _ => exact q.elim) fun c b1 G1 H1 s hb g1 q => by
      cases c with
      | false => exact iteF ⟨B, C, G0, H0, G1, env, b1, g1, q.imp fun d b2 q => by
          cases d with
          | bl c => exact fun G2 H2 s2 hb2 => q G2 H2 (s.trans s2) hb2
          | _ => exact q.elim⟩
      | true => exact iteT (isB_ret q G1 H1 s hb)
theorem dw_and1 {pos : Pos} (ha : PT X a (tT K T W fl Fa)) : PW X (.BoolOp .And [a] pos) (tT K T W fl Fa) := pw_and1 ha
theorem dw_or1 {pos : Pos} (ha : PT X a (tT K T W fl Fa)) : PW X (.BoolOp .Or [a] pos) (tT K T W fl Fa) := pw_or1 ha

/-! ### and, or, not as values; if-expressions -/
theorem de_one {op : BoolOp} {pos : Pos} (h : PE X e (tE K T W fl F)) (k : PE X e (tE K T W fl F) → PE X (.BoolOp op [e] pos) (tE K T W fl F)) : PE X (.BoolOp op [e] pos) (tE K T W fl F) := k h
theorem de_and {rest : List Expr} {pos : Pos} (ha : PE X a (tE K T W fl Fa)) (hb : PE X (.BoolOp .And (b :: rest) pos) (tE K T W fl Fb)) : PE X (.BoolOp .And (a :: b :: rest) pos) (tE K T W fl (xAnd Fa Fb)) :=
  PE.le (pe_and ha hb) fun σ H Q ⟨B, C, G0, H0, G, env, b, g, q⟩ => tE_then g q fun d b1 G1 H1 v s hb r g1 q => by
    cases d with
    | bl c =>
      refine ⟨c, r.bl_inv, ?_⟩
      cases c with
      | true => exact iteT ⟨B, C, G0, H0, G1, env, b1, g1, q.imp fun d b2 q G2 H2 v s2 hb2 r2 => q G2 H2 v (s.trans s2) hb2 r2⟩
      | false => exact iteF (q G1 H1 (.bl false) s hb .bl)
    | _ => exact q.elim
theorem de_or {rest : List Expr} {pos : Pos} (ha : PE X a (tE K T W fl Fa)) (hb : PE X (.BoolOp .Or (b :: rest) pos) (tE K T W fl Fb)) : PE X (.BoolOp .Or (a :: b :: rest) pos) (tE K T W fl (xOr Fa Fb)) :=
  PE.le (pe_or ha hb) fun σ H Q ⟨B, C, G0, H0, G, env, b, g, q⟩ => tE_then g q fun d b1 G1 H1 v s hb r g1 q => by
    cases d with
    | bl c =>
      refine ⟨c, r.bl_inv, ?_⟩
      cases c with
      | false => exact iteF ⟨B, C, G0, H0, G1, env, b1, g1, q.imp fun d b2 q G2 H2 v s2 hb2 r2 => q G2 H2 v (s.trans s2) hb2 r2⟩
      | true => exact iteT (q G1 H1 (.bl true) s hb .bl)
    | _ => exact q.elim
theorem de_not {pos : Pos} (ha : PE X a (tE K T W fl Fa)) : PE X (.UnaryOp .Not a pos) (tE K T W fl (xNot Fa)) :=
  PE.le (pe_not ha) fun σ H Q ⟨B, C, G0, H0, G, env, b, g, q⟩ => tE_then g q fun d b1 G1 H1 v s hb r g1 q => by
    cases d with
    | bl c => exact ⟨c, r.bl_inv, q G1 H1 _ s hb .bl⟩
    | _ => exact q.elim
theorem de_if {pos : Pos} (hc : PT X c (tT K T W fl Fc)) (ha : PE X a (tE K T W fl Fa)) (hb : PE X b (tE K T W fl Fb)) : PE X (.IfExp c a b pos) (tE K T W fl (xIf Fc Fa Fb)) :=
  PE.le (pe_ifExp hc ha hb) fun σ H Q ⟨B, C, G0, H0, G, env, b, g, q⟩ => tT_then g q (fun d b1 q => by
    cases d with
    | bl c => exact ⟨c, rfl⟩
    | _ => exact q.elim) fun c b1 G1 H1 s hb g1 q => by
      cases c with
      | true => exact iteT ⟨B, C, G0, H0, G1, env, b1, g1, q.imp fun d b2 q G2 H2 v s2 hb2 r2 => q G2 H2 v (s.trans s2) hb2 r2⟩
      | false => exact iteF ⟨B, C, G0, H0, G1, env, b1, g1, q.imp fun d b2 q G2 H2 v s2 hb2 r2 => q G2 H2 v (s.trans s2) hb2 r2⟩

/-! ### arguments -/
theorem da_nil : PA X [] (tAs K T W fl xNil) := PA.le pa_nil fun σ H Q ⟨B, C, G0, H0, G, env, b, g, q⟩ => q G H [] (.refl g.core.sub) g.core.bag Reps.nil
theorem da_cons {es : List Expr} (ha : PE X e (tE K T W fl F)) (hr : PA X es (tAs K T W fl Fs)) (hs : starEach (e :: es) X.env = (false, eval e X.env) :: starEach es X.env := by rfl) : PA X (e :: es) (tAs K T W fl (xCons F Fs)) :=
  PA.le (pa_cons ha hr hs) fun σ H Q ⟨B, C, G0, H0, G, env, b, g, q⟩ => tE_then g q fun d b1 G1 H1 v s hb r g1 q =>
    tAs_then g1 q fun ds b2 G2 H2 vs s2 hb2 r2 g2 q => q G2 H2 (v :: vs) (s.trans s2) hb2 (.cons (r.mono s2.g) r2)
theorem db_nil : PA X [] (tAb K T W fl xNil) := PA.le pa_nil fun σ H Q ⟨B, C, G0, H0, G, env, b, g, q⟩ => q G H [] (.refl g.core.sub) g.core.bag rfl
theorem db_cons {es : List Expr} (ha : PE X e (tB K T W fl F)) (hr : PA X es (tAb K T W fl Fs)) (hs : starEach (e :: es) X.env = (false, eval e X.env) :: starEach es X.env := by rfl) : PA X (e :: es) (tAb K T W fl (xCons F Fs)) :=
  PA.le (pa_cons ha hr hs) fun σ H Q ⟨B, C, G0, H0, G, env, b, g, q⟩ => tB_then g q fun d b1 G1 H1 v s hb r g1 q =>
    tAb_then g1 q fun ds b2 G2 H2 vs s2 hb2 r2 g2 q => q G2 H2 (v :: vs) (s.trans s2) hb2 ⟨v, vs, rfl, r.step s2, r2⟩

/-! ### displays -/
theorem xL_len : ∀ {as : List Z.Ex} {env : Sl} {b b' : Bag} {ds : List D}, xL as env b = .ok ds b' → ds.length = as.length
  | [], _, _, _, ds, h => by
    cases h
    rfl
  | a :: r, env, b, b', ds, h => by
    unfold xL xCons at h
    unfold M.bnd at h
    split at h
    · cases h
    · rename_i x b1 _
      have h2 : M.bnd (xL r env) (fun xs => M.ret (x :: xs)) b1 = .ok ds b' := h
      unfold M.bnd at h2
      split at h2
      · cases h2
      · rename_i xs b2 e2
        cases h2
        rw [List.length_cons, List.length_cons, xL_len e2]
      · cases h2
    · cases h
theorem oW_len {as : List Z.Ex} {env : Sl} {b : Bag} {P : List D → Bag → Prop} {E : Nat → D → Bag → Prop} (h : oW P E (xL as env b)) : oW (fun ds b' => ds.length = as.length ∧ P ds b') E (xL as env b) := by
  cases e : xL as env b with
  | no =>
    rw [e] at h
    exact h
  | ok ds b' =>
    rw [e] at h
    exact ⟨xL_len e, h⟩
  | ex c x b' =>
    rw [e] at h
    exact h
theorem de_tup {es : List Expr} {k : Nat} {pos : Pos} {as : List Z.Ex} {x1} (h : PA X es (tAs K T W fl (xL as))) (hl : as.length ≤ 1000 := by decide) : PE X (.Tuple es x1 pos) (tE K T W fl (xTup (xL as))) :=
  PE.le (pe_tup h) fun σ H Q ⟨B, C, G0, H0, G, env, b, g, q⟩ => ⟨B, C, G0, H0, G, env, b, g, (oW_len q.bnd).imp fun ds b1 ⟨hn, q⟩ G1 H1 vs s hb r => by
    refine ⟨?_, fun p hp => ?_⟩
    · rw [r.length, hn]
      exact Nat.le_trans hl (by decide)
    · have s1 : Stp [] G1 H1 (upd G1 p (.tup vs)) (upd H1 p (.tup vs)) := Stp.new s.i hp
      refine q _ _ (.ref p) (s.trans s1.pure) (hb.keep s1) ?_
      unfold Rep
      exact ⟨p, vs, rfl, SqT.of upd_same, r.mono s1.g⟩⟩
theorem df_lst {es : List Expr} {pos : Pos} {as : List Z.Ex} (h : PA X es (tAs K T W fl (xL as))) (hl : as.length ≤ 1000 := by decide) : PE X (.List es pos) (tF K T W fl (xLst (xL as))) :=
  PE.le (pe_lst h) fun σ H Q ⟨B, C, G0, H0, G, env, b, g, q⟩ => ⟨B, C, G0, H0, G, env, b, g, (oW_len q.bnd).imp fun ds b1 ⟨hn, q⟩ G1 H1 vs s hb r => by
    refine ⟨?_, fun p hp => ?_⟩
    · rw [r.length, hn]
      exact Nat.le_trans hl (by decide)
    · have s1 : Stp [] G1 H1 G1 (upd H1 p (.lst vs)) := Stp.laid s.i hp
      refine q _ _ p (s.trans s1.pure) (hb.keep s1) (s.back hp) ?_ ⟨vs, upd_same, r⟩
      cases e : G1 p with
      | none => rfl
      | some o =>
        rw [s.i p o e] at hp
        cases hp⟩

/-! ### operators by their values -/
theorem op1_e {r : V → Hp → VK → Prop} {g : D → Option D} (hr : Sem1 K T r g) (h : PE X e (tUn r (tB K T W fl Fa))) : PE X e (tE K T W fl (x1 g Fa)) :=
  PE.le h fun σ H Q ⟨B, C, G0, H0, G, env, b, gd, q⟩ => tB_then gd q fun x b1 G1 H1 u s1 hb1 r1 g1 q => by
    obtain ⟨d, eg, q⟩ := q.opt
    exact hr B G1 H1 x d u Q s1.i r1 eg fun G3 H3 z s3 r3 => q G3 H3 z (s1.trans s3.pure) (hb1.keep s3) r3
theorem opA_e {r : List V → Hp → VK → Prop} {g : List D → Option D} (hr : SemA K T r g) (h : PE X e (tCB r (tAb K T W fl Fs))) : PE X e (tE K T W fl (xA g Fs)) :=
  PE.le h fun σ H Q ⟨B, C, G0, H0, G, env, b, gd, q⟩ => tAb_then gd q fun x b1 G1 H1 u s1 hb1 r1 g1 q => by
    obtain ⟨d, eg, q⟩ := q.opt
    exact hr B G1 H1 x d u Q s1.i r1 eg fun G3 H3 z s3 r3 => q G3 H3 z (s1.trans s3.pure) (hb1.keep s3) r3
theorem opA_f {r : List V → Hp → VK → Prop} {g : List D → Option D} (hr : SemAF K T r g) (h : PE X e (tCB r (tAb K T W fl Fs))) : PE X e (tF K T W fl (xA g Fs)) :=
  PE.le h fun σ H Q ⟨B, C, G0, H0, G, env, b, gd, q⟩ => tAb_then gd q fun x b1 G1 H1 u s1 hb1 r1 g1 q => by
    obtain ⟨d, eg, q⟩ := q.opt
    exact hr B G1 H1 x d u Q s1.i r1 eg fun G3 H3 z s3 hz gz r3 => q G3 H3 z (s1.trans s3.pure) (hb1.keep s3) (s1.back hz) gz r3
/-- a < b < c -/
theorem de_chain {r r' : R2} {g g' : D → D → Option D} (hr : Sem2 K T r g) (hr' : Sem2 K T r' g') (h : PE X e (tChain r r' (tB K T W fl Fa) (tB K T W fl Fb) (tB K T W fl Fc))) : PE X e (tE K T W fl (xCh g g' Fa Fb Fc)) :=
  PE.le h fun σ H Q ⟨B, C, G0, H0, G, env, b, gd, q⟩ => tB_then gd q fun x b1 G1 H1 u s1 hb1 r1 g1 q => tB_then g1 q fun y b2 G2 H2 v s2 hb2 r2 g2 q => by
    obtain ⟨d, eg, q⟩ := q.bnd.opt
    refine hr B G2 H2 x y d u v _ s2.i (r1.step s2) r2 eg fun G3 H3 z s3 r3 => ?_
    cases d with
    | bl c =>
      refine ⟨c, r3.bl_inv, ?_⟩
      cases c with
      | true => exact iteT (tB_then (g2.step s3.pure (hb2.keep s3)) q fun w b4 G4 H4 w' s4 hb4 r4 g4 q => by
          obtain ⟨d', eg', q⟩ := q.opt
          exact hr' B G4 H4 y w d' v w' Q s4.i ((r2.step s3.pure).step s4) r4 eg' fun G5 H5 z s5 r5 => q G5 H5 z ((((s1.trans s2).trans s3.pure).trans s4).trans s5.pure) (hb4.keep s5) r5)
      | false => exact iteF (q G3 H3 _ ((s1.trans s2).trans s3.pure) (hb2.keep s3) .bl)
    | _ => exact q.elim
end
end ZL
end
section
set_option Elab.async false
set_option linter.all false
set_option maxRecDepth 100000
namespace ZL
open PySem PySem.Spec PyProof.Rows L2 Z

/-! ### statements: flags behind -/
structure Fo where
  nx : List Flg
  bk : List Flg
  ct : List Flg
def flLe (a b : List Flg) : Bool := (List.range (max a.length b.length)).all fun i => decide (a.getD i .un = b.getD i .un) || decide (a.getD i .un = .un)
theorem flLe_of {a b : List Flg} (h : flLe a b = true) : ∀ i, a.getD i .un = b.getD i .un ∨ a.getD i .un = .un := fun i => by
  unfold flLe at h
  rw [List.all_eq_true] at h
  by_cases hi : i < max a.length b.length
  · have := h i (List.mem_range.mpr hi)
    rw [Bool.or_eq_true] at this
    exact this.imp of_decide_eq_true of_decide_eq_true
  · right
    exact getD_out (by omega)
/-- the slots at kp are as they were -/
def Kept (kp : List Nat) (σ σ' : L2.St) : Prop := ∀ j ∈ kp, σ'[j]? = σ[j]?
theorem Kept.refl {kp : List Nat} {σ : L2.St} : Kept kp σ σ := fun _ _ => rfl
theorem Kept.trans {kp : List Nat} {σ σ' σ2 : L2.St} (a : Kept kp σ σ') (b : Kept kp σ' σ2) : Kept kp σ σ2 := fun j hj => (b j hj).trans (a j hj)
def apart (kp js : List Nat) : Bool := kp.all fun j => decide (j ∉ js)
theorem Kept.of {kp js : List Nat} {σ σ' : L2.St} (h : apart kp js = true) (k : ∀ j, j ∉ js → σ'[j]? = σ[j]?) : Kept kp σ σ' := fun j hj => k j (of_decide_eq_true (List.all_eq_true.mp h j hj))
section
variable (K : PySem.W.Frag) (T : Tb)
/-- what a statement's outcome is asked -/
def FlO (kp : List Nat) (fo : Fo) (Dd : Ends) (B C : List Addr) (G0 H0 Gs : Hp) (ss : L2.St) : Fl → Bag → Prop
  | .nx env, b => ∀ σ G H, Good K T fo.nx B C G0 H0 G H σ env b → Sub Gs G → Kept kp ss σ → Dd.nx σ H
  | .rt d, b => ∀ v G H, Core B C G0 H0 G H b → Rep K T G d v → Dd.rt v H
  | .bk env, b => ∀ σ G H, Good K T fo.bk B C G0 H0 G H σ env b → Sub Gs G → Kept kp ss σ → Dd.bk σ H
  | .ct env, b => ∀ σ G H, Good K T fo.ct B C G0 H0 G H σ env b → Sub Gs G → Kept kp ss σ → Dd.ct σ H
def tS (W : XK) (kp : List Nat) (fl : List Flg) (fo : Fo) (S : Z.Sm) : TS := fun Dd σ H => ∃ B C G0 H0 G env b, Good K T fl B C G0 H0 G H σ env b ∧ oW (FlO K T kp fo Dd B C G0 H0 G σ) (XOk K T W B C G0 H0) (S env b)
/-- a target: it stores into the slots at is alone -/
def tG (fl fl' : List Flg) (js : List Nat) (g : Z.Tg) : TG := fun v σ H Q => ∃ B C G0 H0 G env b d env', Good K T fl B C G0 H0 G H σ env b ∧ Rep K T G d v ∧ g d env = some env' ∧
  ∀ σ', Good K T fl' B C G0 H0 G H σ' env' b → σ'.length = σ.length → (∀ j, j ∉ js → σ'[j]? = σ[j]?) → Q σ' H
def tGs (fl fl' : List Flg) (js : List Nat) (gs : List Z.Tg) : TGs := fun vs σ H Q => ∃ B C G0 H0 G env b ds env', Good K T fl B C G0 H0 G H σ env b ∧ Reps K T G ds vs ∧ gSeq gs ds env = some env' ∧
  ∀ σ', Good K T fl' B C G0 H0 G H σ' env' b → σ'.length = σ.length → (∀ j, j ∉ js → σ'[j]? = σ[j]?) → Q σ' H
/-- what is walked gives these, as long as the frozen part stands -/
structure Walks (J : L2.It) (G1 : Hp) (ds : List D) : Prop where
  go : ∀ G H i, Sub G1 G → Sub G H → i < ds.length → J.go i H
  yld : ∀ G H i x H' d, Sub G1 G → Sub G H → ds[i]? = some d → J.yld i H x H' → ∃ G', Stp [] G H G' H' ∧ Rep K T G' d x
  stop : ∀ G H, Sub G1 G → Sub G H → J.stop ds.length H
def tI (W : XK) (fl : List Flg) (I : Z.Iw) : TI := fun σ H R => ∃ B C G0 H0 G env b, Good K T fl B C G0 H0 G H σ env b ∧ oW (fun ds b' => ∀ G' H' J, Stp B G H G' H' → BagAt B H' b' → Walks K T J G' ds → R J H') (XOk K T W B C G0 H0) (I env b)
end

section
variable {K : PySem.W.Frag} {T : Tb} {kp : List Nat} {fl fl' flm : List Flg} {fo : Fo} {W : XK} {X : Cx} {e a b c : Expr} {Fa Fb Fc F : Z.Ex} {Fs : Z.Exs} {S R : Z.Sm} {st : Stmt} {rest : List Stmt} {pos : Pos}

/-! ### weakening -/
theorem FlO.sub {Dd : Ends} {B C : List Addr} {G0 H0 G G' : Hp} {σ σ' : L2.St} {f : Fl} {b : Bag} (s : Sub G G') (k : Kept kp σ σ') (h : FlO K T kp fo Dd B C G0 H0 G σ f b) : FlO K T kp fo Dd B C G0 H0 G' σ' f b := by
  cases f with
  | nx env => exact fun σ2 G1 H1 g s1 k1 => h σ2 G1 H1 g (s.trans s1) (k.trans k1)
  | rt d => exact h
  | bk env => exact fun σ2 G1 H1 g s1 k1 => h σ2 G1 H1 g (s.trans s1) (k.trans k1)
  | ct env => exact fun σ2 G1 H1 g s1 k1 => h σ2 G1 H1 g (s.trans s1) (k.trans k1)
theorem ds_weak {fl fl' : List Flg} {fo fo' : Fo} (h : PS X st (tS K T W kp fl' fo' S)) (h0 : flLe fl' fl = true) (h1 : flLe fo.nx fo'.nx = true) (h2 : flLe fo.bk fo'.bk = true) (h3 : flLe fo.ct fo'.ct = true) : PS X st (tS K T W kp fl fo S) :=
  PS.le h fun Dd σ H ⟨B, C, G0, H0, G, env, b, g, q⟩ => ⟨B, C, G0, H0, G, env, b, g.weak (flLe_of h0), q.imp fun f b' q => by
    cases f with
    | nx env' => exact fun σ' G' H' g' s' k' => q σ' G' H' (g'.weak (flLe_of h1)) s' k'
    | rt d => exact q
    | bk env' => exact fun σ' G' H' g' s' k' => q σ' G' H' (g'.weak (flLe_of h2)) s' k'
    | ct env' => exact fun σ' G' H' g' s' k' => q σ' G' H' (g'.weak (flLe_of h3)) s' k'⟩
theorem dss_weak {sts : List Stmt} {fl fl' : List Flg} {fo fo' : Fo} (h : PSs X sts (tS K T W kp fl' fo' S)) (h0 : flLe fl' fl = true) (h1 : flLe fo.nx fo'.nx = true) (h2 : flLe fo.bk fo'.bk = true) (h3 : flLe fo.ct fo'.ct = true) : PSs X sts (tS K T W kp fl fo S) :=
  PSs.le h fun Dd σ H ⟨B, C, G0, H0, G, env, b, g, q⟩ => ⟨B, C, G0, H0, G, env, b, g.weak (flLe_of h0), q.imp fun f b' q => by
    cases f with
    | nx env' => exact fun σ' G' H' g' s' k' => q σ' G' H' (g'.weak (flLe_of h1)) s' k'
    | rt d => exact q
    | bk env' => exact fun σ' G' H' g' s' k' => q σ' G' H' (g'.weak (flLe_of h2)) s' k'
    | ct env' => exact fun σ' G' H' g' s' k' => q σ' G' H' (g'.weak (flLe_of h3)) s' k'⟩

/-! ### small statements, blocks -/
theorem dss_nil {bk ct : List Flg} : PSs X [] (tS K T W kp fl ⟨fl, bk, ct⟩ sPass) := PSs.le pss_nil fun Dd σ H ⟨B, C, G0, H0, G, env, b, g, q⟩ => q σ G H g (Sub.refl G) .refl
theorem ds_pass {bk ct : List Flg} : PS X (.Pass pos) (tS K T W kp fl ⟨fl, bk, ct⟩ sPass) := PS.le ps_pass fun Dd σ H ⟨B, C, G0, H0, G, env, b, g, q⟩ => q σ G H g (Sub.refl G) .refl
theorem ds_brk {nx ct : List Flg} : PS X (.Break pos) (tS K T W kp fl ⟨nx, fl, ct⟩ sBrk) := PS.le ps_break fun Dd σ H ⟨B, C, G0, H0, G, env, b, g, q⟩ => q σ G H g (Sub.refl G) .refl
theorem ds_cnt {nx bk : List Flg} : PS X (.Continue pos) (tS K T W kp fl ⟨nx, bk, fl⟩ sCnt) := PS.le ps_continue fun Dd σ H ⟨B, C, G0, H0, G, env, b, g, q⟩ => q σ G H g (Sub.refl G) .refl
theorem dss_one (h : PS X st (tS K T W kp fl fo S)) : PSs X [st] (tS K T W kp fl fo S) := pss_one h
theorem dss_cons {fm : List Flg} {bk ct nx : List Flg} (h1 : PS X st (tS K T W kp fl ⟨fm, bk, ct⟩ S)) (h2 : PSs X rest (tS K T W kp fm ⟨nx, bk, ct⟩ R)) : PSs X (st :: rest) (tS K T W kp fl ⟨nx, bk, ct⟩ (sAnd S R)) :=
  PSs.le (pss_cons h1 h2) fun Dd σ H ⟨B, C, G0, H0, G, env, b, g, q⟩ => ⟨B, C, G0, H0, G, env, b, g, q.bnd.imp fun f b1 q => by
    cases f with
    | nx env1 => exact fun σ' G' H' g' s' k' => ⟨B, C, G0, H0, G', env1, b1, g', q.imp fun _ _ z => z.sub s' k'⟩
    | rt d => exact q
    | bk env1 => exact q
    | ct env1 => exact q⟩
theorem ds_ret (h : PE X e (tE K T W fl F)) : PS X (.Return (some e) pos) (tS K T W kp fl fo (sRet F)) := PS.le (ps_ret h) fun Dd σ H ⟨B, C, G0, H0, G, env, b, g, q⟩ => tE_then g q fun d b1 G1 H1 v s hb r g1 q => q v G1 H1 g1.core r
theorem ds_retN : PS X (.Return none pos) (tS K T W kp fl fo sRetN) := PS.le ps_retN fun Dd σ H ⟨B, C, G0, H0, G, env, b, g, q⟩ => q .non G H g.core .non
theorem ds_do {bk ct : List Flg} (h : PE X e (tE K T W fl F)) (hs : swapsWith e none pos.line X.env = pure false := by rfl) : PS X (.Expr e pos) (tS K T W kp fl ⟨fl, bk, ct⟩ (sDo F)) :=
  PS.le (ps_expr h hs) fun Dd σ H ⟨B, C, G0, H0, G, env, b, g, q⟩ => tE_then g q fun d b1 G1 H1 v s hb r g1 q => q σ G1 H1 g1 s.g .refl
theorem ds_if {A C : List Stmt} (hc : PT X c (tT K T W fl Fc)) (ha : PSs X A (tS K T W kp fl fo S)) (hb : PSs X C (tS K T W kp fl fo R)) : PS X (.If c A C pos) (tS K T W kp fl fo (sIf Fc S R)) :=
  PS.le (ps_if hc ha hb) fun Dd σ H ⟨B, C, G0, H0, G, env, b, g, q⟩ => tT_then g q (fun d b1 q => by
    cases d with
    | bl c => exact ⟨c, rfl⟩
    | _ => exact q.elim) fun c b1 G1 H1 s hb g1 q => by
      cases c with
      | true => exact iteT ⟨B, C, G0, H0, G1, env, b1, g1, q.imp fun _ _ z => z.sub s.g .refl⟩
      | false => exact iteF ⟨B, C, G0, H0, G1, env, b1, g1, q.imp fun _ _ z => z.sub s.g .refl⟩

/-! ### targets -/
theorem dg_name {i : Nat} {x : Str} (h : PG X (.Name x pos) (gName i)) (hi : i < X.N.length) : PG X (.Name x pos) (tG K T fl (fl.set i .dat) [i] (gN i)) := by
  refine ⟨fun pins s σ H v u Q I r q => ?_⟩
  obtain ⟨B, C, G0, H0, G, env, b, d, env', g, rd, e, q⟩ := q
  cases e
  have hl : i < env.length := by
    rw [← g.len, I.len]
    exact hi
  refine h.run pins s σ H v u Q I r (q _ (g.put rd hl) (List.length_set ..) fun j hj => ?_)
  rw [List.getElem?_set_ne fun z => hj (by rw [z]; exact List.mem_singleton.mpr rfl)]
theorem dgs_nil : PGs X [] (tGs K T fl fl [] []) := by
  refine ⟨fun pins s σ H vs us Q I r q => ?_⟩
  obtain ⟨B, C, G0, H0, G, env, b, ds, env', g, rd, e, q⟩ := q
  cases ds with
  | nil =>
    unfold Reps at rd
    subst rd
    cases e
    exact pgs_nil.run pins s σ H [] us Q I r ⟨rfl, q σ g rfl fun _ _ => rfl⟩
  | cons d ds => cases e
theorem dgs_cons {es : List Expr} {js ks : List Nat} {gd : Z.Tg} {gs : List Z.Tg} (h1 : PG X e (tG K T fl flm js gd)) (h2 : PGs X es (tGs K T flm fl' ks gs))
    (hs : (assignEach (e :: es) X.env).map (·.2) = assign e X.env :: (assignEach es X.env).map (·.2) := by rfl) : PGs X (e :: es) (tGs K T fl fl' (js ++ ks) (gd :: gs)) := by
  refine ⟨fun pins s σ H vs us Q I r q => (pgs_cons h1 h2 hs).run pins s σ H vs us Q I r ?_⟩
  obtain ⟨B, C, G0, H0, G, env, b, ds, env', g, rd, e, q⟩ := q
  cases ds with
  | nil => cases e
  | cons d ds =>
    unfold Reps at rd
    obtain ⟨v, vr, e1, r1, r2⟩ := rd
    have e' : (gd d env).bind (gSeq gs ds) = some env' := e
    cases e2 : gd d env with
    | none =>
      rw [e2] at e'
      cases e'
    | some env1 =>
      rw [e2] at e'
      refine ⟨v, vr, e1, B, C, G0, H0, G, env, b, d, env1, g, r1, e2, fun σ1 g1 l1 k1 => ?_⟩
      exact ⟨B, C, G0, H0, G, env1, b, ds, env', g1, r2, e', fun σ2 g2 l2 k2 => q σ2 g2 (l2.trans l1) fun j hj => by
        rw [List.mem_append, not_or] at hj
        rw [k2 j hj.2, k1 j hj.1]⟩
theorem Reps.len2 {G : Hp} {ds : List D} {vs : List V} (h : Reps K T G ds vs) : vs.length = ds.length := h.length
theorem gSeq_len : ∀ {gs : List Z.Tg} {ds : List D} {env env' : Sl}, gSeq gs ds env = some env' → ds.length = gs.length
  | [], [], _, _, _ => rfl
  | [], _ :: _, _, _, h => by cases h
  | _ :: _, [], _, _, h => by cases h
  | g :: gs, d :: ds, env, env', h => by
    have h' : (g d env).bind (gSeq gs ds) = some env' := h
    cases e : g d env with
    | none =>
      rw [e] at h'
      cases h'
    | some env1 =>
      rw [e] at h'
      rw [List.length_cons, List.length_cons, gSeq_len (show gSeq gs ds env1 = some env' from h')]
theorem dg_tup {es : List Expr} {k : Nat} {js : List Nat} {gs : List Z.Tg} (hc : X.calm = true) (h : PGs X es (tGs X.K T fl fl' js gs)) (hn : (assignEach es X.env).length = gs.length := by rfl) (hst : (assignEach es X.env).findIdx? (·.1) = none := by rfl) :
    PG X (.Tuple es k pos) (tG X.K T fl fl' js (gT gs)) :=
  PG.le (pg_tup hc h hn hst) fun v σ H Q q => by
    obtain ⟨B, C, G0, H0, G, env, b, d, env', g, rd, e, q⟩ := q
    cases d with
    | tup ds =>
      unfold Rep at rd
      obtain ⟨a, vs, e1, h1, h2⟩ := rd
      exact ⟨a, vs, e1, sub_t g.core.sub h1, by rw [h2.length]; exact gSeq_len e, B, C, G0, H0, G, env, b, ds, env', g, h2, e, q⟩
    | _ => cases e

/-! ### assignments -/
theorem ds_set {tg : Expr} {js : List Nat} {gd : Z.Tg} {bk ct : List Flg} (he : PE X e (tE K T W fl F)) (hg : PG X tg (tG K T fl fl' js gd)) (hkp : apart kp js = true := by rfl) (hs : swapsWithSole [tg] e pos.line X.env = pure false := by rfl) (hw : swappedStores [tg] e X.env = pure none := by rfl)
    (h1 : (assignEach [tg] X.env).map (·.2) = [assign tg X.env] := by rfl) : PS X (.Assign [tg] e pos) (tS K T W kp fl ⟨fl', bk, ct⟩ (sSet gd F)) :=
  PS.le (ps_asg he hg hs hw h1) fun Dd σ H ⟨B, C, G0, H0, G, env, b, g, q⟩ => tE_then g q fun d b1 G1 H1 v s hb r g1 q => by
    obtain ⟨env1, e1, q⟩ := q.bnd.opt
    exact ⟨B, C, G0, H0, G1, env, b1, d, env1, g1, r, e1, fun σ' g2 _ k2 => q σ' G1 H1 g2 s.g (.of hkp k2)⟩
/-- x = a new list, to be changed -/
theorem ds_own {i : Nat} {x : Str} {bk ct : List Flg} {pos' : Pos} (he : PE X e (tF K T W fl F)) (hl : ∀ env b d b', F env b = .ok d b' → ∃ ds, d = .lst ds) (hN : X.N.Nodup) (hi : X.N[i]? = some x) (hx : Loc X.env.scope x) (hkp : apart kp [i] = true := by rfl) (hs : swapsWith e (some (.Name x pos')) pos.line X.env = pure false := by rfl)
    (hf : X.fn x = true ∨ X.env.scope.names.lookup x = some .local := by first | exact .inl rfl | exact .inr rfl | assumption) :
    PS X (.Assign [.Name x pos'] e pos) (tS K T W kp fl ⟨fl.set i .ol, bk, ct⟩ (sSet (gN i) F)) := by
  have hp := ps_set (pos := pos) hN hi hx he hs hf
  refine ⟨fun pins s σ H Dd I q => hp.run pins s σ H Dd I ?_⟩
  obtain ⟨B, C, G0, H0, G, env, b, g, q⟩ := q
  have hle : i < env.length := by
    rw [← g.len, I.len]
    exact (List.getElem?_eq_some_iff.mp hi).1
  refine ⟨B, C, G0, H0, G, env, b, g, ?_⟩
  have q := q.bnd
  cases eF : F env b with
  | no =>
    rw [eF] at q
    exact q
  | ex c x b1 =>
    rw [eF] at q
    exact q
  | ok d b1 =>
    rw [eF] at q
    obtain ⟨ds, rfl⟩ := hl _ _ _ _ eF
    intro G1 H1 p s1 hb hp0 hg r
    obtain ⟨vs, h1, h2⟩ := r
    exact q _ G1 H1 (g.own s1 hb hp0 hg hle ⟨p, vs, ds, rfl, rfl, h1, h2, rfl⟩) s1.g (.of hkp fun j hj => List.getElem?_set_ne fun z => hj (by rw [z]; exact List.mem_singleton.mpr rfl))

/-! ### for -/
theorem forGo_nil {gd : Z.Tg} {env : Sl} {b : Bag} : forGo gd S [] env b = .ok (.nx env) b := rfl
theorem ds_for {tg iter : Expr} {body : List Stmt} {I : Z.Iw} {gd : Z.Tg} {fl1 flL fln : List Flg} {js : List Nat} {bk ct : List Flg} (hp : PassesOwn (model X.prog X.w) X.A X.env X.xe) (hc : X.calm = true) (hi : PI X tg iter (tI K T W fl I)) (hg : PG X tg (tG K T flL fl1 js gd))
    (hb : PSs X body (tS K T W kp fl1 ⟨flL, fln, flL⟩ S)) (h1 : flLe flL fl = true) (h2 : flLe fln flL = true) (hkp : apart kp js = true := by rfl) (hs : ∀ x, foldedSetIterable iter X.env x = pure x := by intro _; rfl) :
    PS X (.For tg iter body [] pos) (tS K T W kp fl ⟨fln, bk, ct⟩ (sFor I gd S)) :=
  PS.le (ps_for hp hc hi hg hb hs) fun Dd ss H ⟨B, C, G0, H0, G, env, b, g, q⟩ => ⟨B, C, G0, H0, G, env, b, g, q.bnd.imp fun ds b1 q G1 H1 J s hbag w => by
    have g1 := (g.step s hbag).weak (flLe_of h1)
    refine ⟨fun i m σ H => Kept kp ss σ ∧ ∃ G' env b, m = ds.length - i ∧ i ≤ ds.length ∧ Good K T flL B C G0 H0 G' H σ env b ∧ Sub G1 G' ∧ oW (FlO K T kp ⟨fln, bk, ct⟩ Dd B C G0 H0 G ss) (XOk K T W B C G0 H0) (forGo gd S (ds.drop i) env b), ⟨ds.length, .refl, G1, env, b1, by simp, Nat.zero_le _, g1, Sub.refl _, by simpa using q⟩, ?_⟩
    rintro i m σ2 H2 ⟨kk, G2, env2, b2, rfl, hi2, g2, s2, q2⟩
    by_cases hlt : i < ds.length
    · refine .inr ⟨w.go G2 H2 i s2 g2.core.sub hlt, fun σ' H' => Kept kp ss σ' ∧ ∃ G' env b, Good K T flL B C G0 H0 G' H' σ' env b ∧ Sub G1 G' ∧ oW (FlO K T kp ⟨fln, bk, ct⟩ Dd B C G0 H0 G ss) (XOk K T W B C G0 H0) (forGo gd S (ds.drop (i + 1)) env b), ?_, ?_⟩
      · rintro σ' H' ⟨k', G', env', b', g', s', q'⟩
        exact ⟨ds.length - (i + 1), by omega, k', G', env', b', rfl, hlt, g', s', q'⟩
      · intro x H' hy
        obtain ⟨G', s', r'⟩ := w.yld G2 H2 i x H' ds[i] s2 g2.core.sub (List.getElem?_eq_getElem hlt) hy
        have g' := g2.step s'.pure (g2.core.bag.keep s')
        rw [List.drop_eq_getElem_cons hlt] at q2
        have q3 : oW (FlO K T kp ⟨fln, bk, ct⟩ Dd B C G0 H0 G ss) (XOk K T W B C G0 H0) (M.bnd (M.opt (gd ds[i] env2)) (fun env1 => M.bnd (S env1) fun f => match f with
          | .nx env2 => forGo gd S (ds.drop (i + 1)) env2
          | .ct env2 => forGo gd S (ds.drop (i + 1)) env2
          | .bk env2 => M.ret (.nx env2)
          | .rt v => M.ret (.rt v)) b2) := q2
        obtain ⟨env3, e3, q3⟩ := q3.bnd.opt
        refine ⟨B, C, G0, H0, G', env2, b2, ds[i], env3, g', r', e3, fun σ3 g3 _ k3 => ?_⟩
        have kk3 := kk.trans (Kept.of hkp k3)
        refine ⟨B, C, G0, H0, G', env3, b2, g3, q3.bnd.imp fun f b4 q4 => ?_⟩
        cases f with
        | nx env4 => exact fun σ4 G4 H4 g4 s4 k4 => ⟨kk3.trans k4, G4, env4, b4, g4, s2.trans (s'.g.trans s4), q4⟩
        | ct env4 => exact fun σ4 G4 H4 g4 s4 k4 => ⟨kk3.trans k4, G4, env4, b4, g4, s2.trans (s'.g.trans s4), q4⟩
        | bk env4 => exact fun σ4 G4 H4 g4 s4 k4 => q4 σ4 G4 H4 g4 ((s.g.trans s2).trans (s'.g.trans s4)) (kk3.trans k4)
        | rt d => exact q4
    · have e : i = ds.length := by omega
      subst e
      rw [List.drop_length] at q2
      exact .inl ⟨w.stop G2 H2 s2 g2.core.sub, q2 σ2 G2 H2 (g2.weak (flLe_of h2)) (s.g.trans s2) kk⟩⟩
end
end ZL
end
section
set_option Elab.async false
set_option linter.all false
set_option maxRecDepth 100000
namespace ZL
open PySem PySem.Spec PyProof.Rows L2 Z

/-! ### slots wiped -/
theorem wipe_get (σ : L2.St) (j : Nat) : ∀ vs : List Nat, (wipe σ vs)[j]? = if j ∈ vs ∧ j < σ.length then some none else σ[j]?
  | [] => by simp [wipe]
  | v :: vs => by
    unfold wipe
    by_cases h : v = j
    · subst h
      by_cases hl : v < σ.length
      · rw [List.getElem?_set_self (by rw [wipe_length]; exact hl), if_pos ⟨List.mem_cons_self, hl⟩]
      · rw [if_neg fun z => hl z.2, List.getElem?_eq_none (by rw [List.length_set, wipe_length]; omega), List.getElem?_eq_none (by omega)]
    · rw [List.getElem?_set_ne h, wipe_get σ j vs]
      have e : (j ∈ v :: vs) ↔ j ∈ vs := by
        rw [List.mem_cons]
        exact ⟨fun z => z.elim (fun z => absurd z.symm h) id, .inr⟩
      simp only [e]
theorem wipe_eq {σ σ' : L2.St} {vs : List Nat} (hl : σ'.length = σ.length) (h : ∀ j, j ∉ vs → σ'[j]? = σ[j]?) : wipe σ' vs = wipe σ vs := by
  apply List.ext_getElem?
  intro j
  rw [wipe_get, wipe_get, hl]
  by_cases hj : j ∈ vs
  · by_cases hl' : j < σ.length
    · rw [if_pos ⟨hj, hl'⟩, if_pos ⟨hj, hl'⟩]
    · rw [if_neg fun z => hl' z.2, if_neg fun z => hl' z.2, List.getElem?_eq_none (by omega), List.getElem?_eq_none (by omega)]
  · rw [if_neg fun z => hj z.1, if_neg fun z => hj z.1, h j hj]
theorem wipe_idem (σ : L2.St) (vs : List Nat) : wipe (wipe σ vs) vs = wipe σ vs := wipe_eq (wipe_length _ _) fun j hj => by rw [wipe_get, if_neg fun z => hj z.1]
def flw : List Flg → List Nat → List Flg
  | fl, [] => fl
  | fl, v :: vs => (flw fl vs).set v .un
theorem flw_get (fl : List Flg) (j : Nat) : ∀ vs : List Nat, (flw fl vs).getD j .un = if j ∈ vs then .un else fl.getD j .un
  | [] => by simp [flw]
  | v :: vs => by
    unfold flw
    by_cases h : v = j
    · subst h
      rw [if_pos List.mem_cons_self]
      by_cases hl : v < (flw fl vs).length
      · exact getD_set_same hl
      · exact getD_out (by rw [List.length_set]; omega)
    · rw [getD_set_ne h, flw_get fl j vs]
      have e : (j ∈ v :: vs) ↔ j ∈ vs := by
        rw [List.mem_cons]
        exact ⟨fun z => z.elim (fun z => absurd z.symm h) id, .inr⟩
      simp only [e]
section
variable {K : PySem.W.Frag} {T : Tb} {B C : List Addr} {G0 H0 G H G1 H1 : Hp} {σ : L2.St} {env : Sl} {b b1 : Bag} {fl : List Flg}
theorem Good.wipe (g : Good K T fl B C G0 H0 G H σ env b) (vs : List Nat) : Good K T (flw fl vs) B C G0 H0 G H (L2.wipe σ vs) env b := by
  obtain ⟨c, l, fp, h1, h2, h3⟩ := g
  refine ⟨c, by rw [wipe_length, l], fun j => if j ∈ vs then [] else fp j, fun j => ?_, fun j p hp => ?_, fun j k p hj hk => ?_⟩
  · by_cases e : j ∈ vs
    · simp only [if_pos e]
      rw [flw_get, if_pos e]
      rfl
    · simp only [if_neg e]
      rw [flw_get, if_neg e, wipe_get, if_neg fun z => e z.1]
      exact h1 j
  · by_cases e : j ∈ vs
    · simp only [if_pos e] at hp
      cases hp
    · simp only [if_neg e] at hp
      exact h2 j p hp
  · by_cases e : j ∈ vs
    · simp only [if_pos e] at hj
      cases hj
    · by_cases e' : k ∈ vs
      · simp only [if_pos e'] at hk
        cases hk
      · simp only [if_neg e] at hj
        simp only [if_neg e'] at hk
        exact h3 j k p hj hk
theorem BagAt.ne (h : BagAt B H b) {D : Addr} (hD : H D = none) : D ∉ B := fun e => by
  rw [(h D e).1] at hD
  cases hD
theorem Sub.free {p : Addr} (s : Sub G H) (h : H p = none) : G p = none := by
  cases e : G p with
  | none => rfl
  | some o =>
    rw [s p o e] at h
    cases h
theorem BagAt.at (h : BagAt B H b) {D : Addr} {o : HO} (hD : D ∉ B) : BagAt B (upd H D o) b := fun a e => by
  refine ⟨?_, (h a e).2⟩
  rw [upd_ne (by intro z; subst z; exact hD e)]
  exact (h a e).1
/-- the object at D is changed -/
theorem Stp.poke (s : Sub G H) {D : Addr} {o : HO} (gD : G D = none) (hD : ∃ o', H D = some o') : Stp (D :: B) G H G (upd H D o) where
  g := Sub.refl G
  i := fun a u e => by
    rw [upd_ne (ne_of_none e gD)]
    exact s a u e
  h := fun a u e nb => by
    rw [upd_ne fun z => nb (by rw [z]; exact List.mem_cons_self)]
    exact e
  k := fun a u e => by
    by_cases z : a = D
    · exact ⟨o, by rw [z]; exact upd_same⟩
    · exact ⟨u, by rw [upd_ne z]; exact e⟩
  n := fun a u e1 e2 => by
    rw [e2] at e1
    cases e1
/-- what was done to a new object is not seen from ahead of it -/
theorem Stp.drop {Gs Hs : Hp} {D : Addr} {o : HO} (x : Stp B Gs Hs G H) (hD : H D = none) (y : Stp (D :: B) G (upd H D o) G1 H1) : Stp B Gs Hs G1 H1 where
  g := x.g.trans y.g
  i := y.i
  h := fun a u e nb => by
    have ne : a ≠ D := ne_of_none e (x.back hD)
    refine y.h a u ?_ fun z => (List.mem_cons.mp z).elim ne nb
    rw [upd_ne ne]
    exact x.h a u e nb
  k := fun a u e => by
    have ne : a ≠ D := ne_of_none e (x.back hD)
    obtain ⟨u', e'⟩ := x.k a u e
    exact y.k a u' (by rw [upd_ne ne]; exact e')
  n := fun a u e1 e2 => by
    cases e : G a with
    | some o1 => exact x.n a o1 e e2
    | none =>
      have e3 := y.n a u e1 e
      by_cases z : a = D
      · rw [z]
        exact x.back hD
      · rw [upd_ne z] at e3
        exact x.back e3
/-- over a step that may change what is at C too -/
theorem Good.jump {Cs : List Addr} (g : Good K T fl B C G0 H0 G H σ env b) (s : Stp Cs G H G1 H1) (hC : ∀ a ∈ Cs, a ∈ C) (h : BagAt B H1 b1) : Good K T fl B C G0 H0 G1 H1 σ env b1 := by
  obtain ⟨c, l, fp, h1, h2, h3⟩ := g
  have nC : ∀ i p, p ∈ fp i → p ∉ Cs := fun i p hp z => by
    obtain ⟨_, o, h4⟩ := c.bg p (hC p z)
    rw [(h2 i p hp).2] at h4
    cases h4
  refine ⟨⟨c.stp.trans (s.more hC), h, c.bc, fun a e => ?_⟩, l, fp, fun i => (h1 i).step s (nC i), fun i p hp => ⟨?_, (h2 i p hp).2⟩, h3⟩
  · obtain ⟨h5, o, h6⟩ := c.bg a e
    refine ⟨?_, o, h6⟩
    cases e1 : G1 a with
    | none => rfl
    | some o1 =>
      have e2 := s.n a o1 e1 h5
      obtain ⟨o3, e3⟩ := c.stp.k a o h6
      rw [e2] at e3
      cases e3
  · obtain ⟨o, ho⟩ := (h1 i).there p hp
    exact s.own_free (h2 i p hp).1 ho
/-- a new object is set apart: it may change -/
theorem Good.reserve (g : Good K T fl B C G0 H0 G H σ env b) {D : Addr} {o : HO} (hD : H D = none) : Good K T fl B (D :: C) G0 (upd H0 D o) G (upd H D o) σ env b := by
  have gD := g.core.sub.free hD
  have h0D := g.core.stp.back hD
  obtain ⟨fp, k1, k2, k3⟩ := g.there
  have s1 : Stp [] G H G (upd H D o) := Stp.laid g.core.sub hD
  have g1 := g.step s1.pure (g.core.bag.keep s1)
  obtain ⟨c, l, _⟩ := g
  refine ⟨⟨⟨c.stp.g, s1.i, fun a u e n => ?_, fun a u e => ?_, fun a u e1 e2 => ?_⟩, g1.core.bag, fun a e => List.mem_cons_of_mem _ (c.bc a e), fun a e => ?_⟩, l, fp, fun i => ?_, fun i p hp => ⟨(k2 i p hp).1, ?_⟩, k3⟩
  · have ne : a ≠ D := fun z => n (by rw [z]; exact List.mem_cons_self)
    rw [upd_ne ne] at e ⊢
    exact c.stp.h a u e fun z => n (List.mem_cons_of_mem _ z)
  · by_cases z : a = D
    · exact ⟨o, by rw [z]; exact upd_same⟩
    · rw [upd_ne z] at e ⊢
      exact c.stp.k a u e
  · by_cases z : a = D
    · rw [z, gD] at e1
      cases e1
    · rw [upd_ne z]
      exact c.stp.n a u e1 e2
  · rcases List.mem_cons.mp e with z | z
    · rw [z]
      exact ⟨gD, o, upd_same⟩
    · obtain ⟨h5, o6, h6⟩ := c.bg a z
      refine ⟨h5, ?_⟩
      by_cases z2 : a = D
      · exact ⟨o, by rw [z2]; exact upd_same⟩
      · exact ⟨o6, by rw [upd_ne z2]; exact h6⟩
  · exact (k1 i).step s1 fun p hp => by simp
  · obtain ⟨_, h5, o6, h6⟩ := k2 i p hp
    rw [upd_ne (ne_of_none h6 hD)]
    exact h5
end

/-! ### comprehensions -/
theorem oW.nox {α : Type} {m : M α} {P : α → Bag → Prop} {E E' : Nat → D → Bag → Prop} {b : Bag} (h : oW P E (M.nox m b)) : oW P E' (m b) := by
  unfold M.nox at h
  cases e : m b with
  | no =>
    rw [e] at h
    exact h
  | ok a b1 =>
    rw [e] at h
    exact h
  | ex c x b1 =>
    rw [e] at h
    exact h.elim
section
variable {K : PySem.W.Frag} {T : Tb} {fl fl1 : List Flg} {W : XK} {X : Cx} {F : Z.Ex} {I : Z.Iw} {gd : Z.Tg} {Ft Fe : Z.Ex} {js vs : List Nat}
def allIn (js vs : List Nat) : Bool := js.all fun j => decide (j ∈ vs)
theorem allIn_of (h : allIn js vs = true) : ∀ j ∈ js, j ∈ vs := fun j hj => of_decide_eq_true (List.all_eq_true.mp h j hj)
/-- the turns: from acc, the list at Dl, which is set apart -/
theorem lc_turns {B C : List Addr} {G0 H0 G1 H1 : Hp} {σ : L2.St} {env : Sl} {b1 : Bag} {ds : List D} {J : L2.It} {Dl : Addr} {P : List D → Bag → Prop} {Qd : Hp → Prop} {acc0 : List D} {vs0 : List V}
    (g : Good K T (flw fl vs) B C G0 H0 G1 H1 (wipe σ vs) env b1) (w : Walks K T J G1 ds) (hC : ∀ a ∈ Dl :: B, a ∈ C) (nb : Dl ∉ B) (hjs : allIn js vs = true) (h0 : H1 Dl = some (.lst vs0)) (r0 : Reps K T G1 acc0 vs0) (gD0 : G1 Dl = none)
    (q : oW P (XOk K T W B C G0 H0) (lcGo gd Ft Fe ds env acc0 b1))
    (hd : ∀ G H acc us b, Stp (Dl :: B) G1 H1 G H → BagAt B H b → H Dl = some (.lst us) → G Dl = none → Reps K T G acc us → P acc b → Qd H) :
    ∃ Wv : Nat → Nat → Hp → Prop, (∃ m, Wv 0 m H1) ∧ ∀ i m H, Wv i m H → (J.stop i H ∧ Qd H) ∨ (J.go i H ∧ ∃ Nx : Hp → Prop, (∀ H', Nx H' → ∃ m', m' < m ∧ Wv (i + 1) m' H') ∧ ∀ x H', J.yld i H x H' →
      tG K T (flw fl vs) fl1 js gd x (wipe σ vs) H' fun σ2 H2 => wipe σ2 vs = wipe σ vs ∧ tT K T W fl1 Ft σ2 H2 fun b H3 =>
        if b = true then tE K T W fl1 Fe σ2 H3 fun y H4 => ∃ acc, H4 Dl = some (.lst acc) ∧ acc.length < sizeLine ∧ Nx (upd H4 Dl (.lst (acc ++ [y]))) else Nx H3) := by
  refine ⟨fun i m H => ∃ G b acc us, m = ds.length - i ∧ i ≤ ds.length ∧ Stp (Dl :: B) G1 H1 G H ∧ BagAt B H b ∧ H Dl = some (.lst us) ∧ G Dl = none ∧ Reps K T G acc us ∧ oW P (XOk K T W B C G0 H0) (lcGo gd Ft Fe (ds.drop i) env acc b),
    ⟨ds.length, G1, b1, acc0, vs0, by simp, Nat.zero_le _, .refl g.core.sub, g.core.bag, h0, gD0, r0, by simpa using q⟩, ?_⟩
  rintro i m H ⟨G, b, acc, us, rfl, hi, s, hb, hl, gD, r, q⟩
  have g1 := g.jump s hC hb
  by_cases hlt : i < ds.length
  · refine .inr ⟨w.go G H i s.g s.i hlt, fun H' => ∃ G b acc us, Stp (Dl :: B) G1 H1 G H' ∧ BagAt B H' b ∧ H' Dl = some (.lst us) ∧ G Dl = none ∧ Reps K T G acc us ∧ oW P (XOk K T W B C G0 H0) (lcGo gd Ft Fe (ds.drop (i + 1)) env acc b), ?_, ?_⟩
    · rintro H' ⟨G', b', acc', us', h1, h2, h3, h4, h5, h6⟩
      exact ⟨ds.length - (i + 1), by omega, G', b', acc', us', rfl, hlt, h1, h2, h3, h4, h5, h6⟩
    · intro x H' hy
      obtain ⟨G', s', r'⟩ := w.yld G H i x H' ds[i] s.g s.i (List.getElem?_eq_getElem hlt) hy
      have g' := g1.step s'.pure (hb.keep s')
      rw [List.drop_eq_getElem_cons hlt] at q
      have q3 : oW P (XOk K T W B C G0 H0) (M.bnd (M.opt (gd ds[i] env)) (fun env1 => M.bnd (Ft env1) fun b => match b with
        | .bl true => M.bnd (Fe env1) fun v => if acc.length < lim then lcGo gd Ft Fe (ds.drop (i + 1)) env (acc ++ [v]) else M.no
        | .bl false => lcGo gd Ft Fe (ds.drop (i + 1)) env acc
        | _ => M.no) b) := q
      obtain ⟨env3, e3, q3⟩ := q3.bnd.opt
      refine ⟨B, C, G0, H0, G', env, b, ds[i], env3, g', r', e3, fun σ3 g3 l3 k3 => ⟨?_, ?_⟩⟩
      · rw [← wipe_idem σ vs]
        exact wipe_eq l3 fun j hj => k3 j fun z => hj (allIn_of hjs j z)
      · have sD : H' Dl = some (.lst us) := s'.h _ _ hl (by simp)
        refine tT_then g3 q3 (fun d b1 q => ?_) fun c b4 G4 H4 s4 hb4 g4 q4 => ?_
        · cases d with
          | bl c => exact ⟨c, rfl⟩
          | _ => exact q.elim
        · have sD4 : H4 Dl = some (.lst us) := s4.h _ _ sD nb
          have gD4 : G4 Dl = none := s4.own_free (s'.own_free gD hl) sD
          have t4 := (s.trans s'.pure).trans (s4.more fun a h => List.mem_cons_of_mem Dl h)
          have r4 := r.mono (s'.g.trans s4.g)
          cases c with
          | true =>
            refine iteT (tE_then g4 q4 fun d b5 G5 H5 v s5 hb5 r5 g5 q5 => ?_)
            have sD5 : H5 Dl = some (.lst us) := s5.h _ _ sD4 nb
            have gD5 : G5 Dl = none := s5.own_free gD4 sD4
            have t5 := t4.trans (s5.more fun a h => List.mem_cons_of_mem Dl h)
            by_cases hz : acc.length < lim
            · rw [if_pos hz] at q5
              refine ⟨us, sD5, ?_, G5, b5, acc ++ [d], us ++ [v], t5.trans (Stp.poke s5.i gD5 ⟨_, sD5⟩), hb5.at nb, upd_same, gD5, (r4.mono s5.g).append (.one r5), q5⟩
              rw [r.length]
              exact Nat.lt_of_lt_of_le hz (by decide)
            · rw [if_neg hz] at q5
              exact q5.elim
          | false => exact iteF ⟨G4, b4, acc, us, t4, hb4, sD4, gD4, r4, q4⟩
  · have e : i = ds.length := by omega
    subst e
    rw [List.drop_length] at q
    exact .inl ⟨w.stop G H s.g s.i, hd G H acc us b s hb hl gD r q⟩
theorem tF_lc (hjs : allIn js vs = true) {σ : L2.St} {H : Hp} {Q : VK} (q : tF K T W fl (xLc I gd Ft Fe) σ H Q) : tLc (tI K T W fl I) (tG K T (flw fl vs) fl1 js gd) (tT K T WF fl1 Ft) (tE K T WF fl1 Fe) vs σ H Q := by
  obtain ⟨B, C, G0, H0, G, env, b, g, q⟩ := q
  refine ⟨B, C, G0, H0, G, env, b, g, q.bnd.imp fun ds b1 q G1 H1 J s hb w Dl hD => ?_⟩
  have g1 := ((g.step s hb).wipe vs).reserve (o := .lst []) hD
  have nb := hb.ne hD
  refine lc_turns (K := K) (T := T) (fl := fl) (W := WF) (σ := σ) (acc0 := []) (vs0 := []) g1 w (fun a h => ?_) nb hjs upd_same .nil (s.i.free hD) (q.bnd.nox) ?_
  · rcases List.mem_cons.mp h with z | z
    · rw [z]
      exact List.mem_cons_self
    · exact List.mem_cons_of_mem _ ((g.core.bc) a z)
  · intro G2 H2 acc us b2 s2 hb2 h2 gD2 r2 q2
    exact q2 G2 H2 Dl (s.drop hD s2) hb2 (s.back hD) gD2 ⟨us, h2, r2⟩
/-! the tests of a comprehension -/
theorem dts_nil : PTs X [] (tT K T W fl xYes) := ⟨fun pins s σ H Q I q => pts_nil.run pins s σ H Q I (by
  obtain ⟨B, C, G0, H0, G, env, b, g, q⟩ := q
  exact q G H (.refl g.core.sub) g.core.bag)⟩
theorem df_lc {elt tg iter : Expr} {ifs : List Expr} {scope : Scope} {own : List (Str × Nat)} {pos : Pos} (hc : X.calm = true) (hN : X.N.Nodup) (hi : PI X tg iter (tI K T W fl I)) (ok : BlkOk X.N X.env.scope scope own)
    (hg : ∀ (s : Shared) (H : Hp) (C : Addr) (cl : List (Str × Addr)) (fp : List Addr), PG (X.blk s H scope (compEnvC scope cl C X.env) fp) tg (tG K T (flw fl (own.map (·.2))) fl1 js gd)) (ht : ∀ (s : Shared) (H : Hp) (C : Addr) (cl : List (Str × Addr)) (fp : List Addr), PTs (X.blk s H scope (compEnvC scope cl C X.env) fp) ifs (tT K T WF fl1 Ft))
    (he : ∀ (s : Shared) (H : Hp) (C : Addr) (cl : List (Str × Addr)) (fp : List Addr), PE (X.blk s H scope (compEnvC scope cl C X.env) fp) elt (tE K T WF fl1 Fe)) (hjs : allIn js (own.map (·.2)) = true) (hs : ∀ x, foldedSetIterable iter X.env x = pure x := by intro _; rfl) :
    PE X (.ListComp elt [⟨tg, iter, ifs, 0⟩] scope pos) (tF K T W fl (xLc I gd Ft Fe)) :=
  PE.le (pe_lc hc hN hi ok hg ht he hs) fun σ H Q q => tF_lc hjs q
/-- name = [..], kept as data -/
theorem asg_dat {kp : List Nat} {i : Nat} {te : TE} {bk ct : List Flg} {st : Stmt} (hi : i < X.N.length) (h : PS X st (tAsg te (gName i))) (hk : ∀ σ H Q, tF K T W fl F σ H Q → te σ H Q) (hkp : apart kp [i] = true := by rfl) : PS X st (tS K T W kp fl ⟨fl.set i .dat, bk, ct⟩ (sSet (gN i) F)) := by
  refine ⟨fun pins s σ H Dd I q => h.run pins s σ H Dd I ?_⟩
  obtain ⟨B, C, G0, H0, G, env, b, g, q⟩ := q
  have hle : i < env.length := by
    rw [← g.len, I.len]
    exact hi
  refine hk σ H _ ⟨B, C, G0, H0, G, env, b, g, q.bnd.imp fun d b1 q G1 H1 p s1 hb hp0 hg r => ?_⟩
  obtain ⟨o, ho, k⟩ := r.there
  have s2 := s1.freeze hp0 ho hg
  exact q _ _ H1 ((g.step s2 hb).put (k hg) hle) s2.g (.of hkp fun j hj => List.getElem?_set_ne fun z => hj (by rw [z]; exact List.mem_singleton.mpr rfl))
/-- name = [..], to be changed -/
theorem asg_own {kp : List Nat} {i : Nat} {te : TE} {bk ct : List Flg} {st : Stmt} (hi : i < X.N.length) (h : PS X st (tAsg te (gName i))) (hk : ∀ σ H Q, tF K T W fl F σ H Q → te σ H Q) (hl : ∀ env b d b', F env b = .ok d b' → ∃ ds, d = .lst ds) (hkp : apart kp [i] = true := by rfl) : PS X st (tS K T W kp fl ⟨fl.set i .ol, bk, ct⟩ (sSet (gN i) F)) := by
  refine ⟨fun pins s σ H Dd I q => h.run pins s σ H Dd I ?_⟩
  obtain ⟨B, C, G0, H0, G, env, b, g, q⟩ := q
  have hle : i < env.length := by
    rw [← g.len, I.len]
    exact hi
  refine hk σ H _ ⟨B, C, G0, H0, G, env, b, g, ?_⟩
  have q := q.bnd
  cases eF : F env b with
  | no =>
    rw [eF] at q
    exact q
  | ex c x b1 =>
    rw [eF] at q
    exact q
  | ok d b1 =>
    rw [eF] at q
    obtain ⟨ds, rfl⟩ := hl _ _ _ _ eF
    intro G1 H1 p s1 hb hp0 hg r
    obtain ⟨vs, h1, h2⟩ := r
    exact q _ G1 H1 (g.own s1 hb hp0 hg hle ⟨p, vs, ds, rfl, rfl, h1, h2, rfl⟩) s1.g (.of hkp fun j hj => List.getElem?_set_ne fun z => hj (by rw [z]; exact List.mem_singleton.mpr rfl))
end
end ZL
end
section
set_option Elab.async false
set_option linter.all false
set_option maxRecDepth 100000
namespace ZL
open PySem PySem.Spec PyProof.Rows L2 Z

/-! ### two fors -/
section
variable {K : PySem.W.Frag} {T : Tb} {fl fl1 fl2 : List Flg} {W : XK} {X : Cx} {F : Z.Ex} {I I1 : Z.Iw} {gd gd1 : Z.Tg} {Ft Ft1 Fe : Z.Ex} {js js1 vs vs1 : List Nat}
theorem mem_res {Dl : Addr} {B C : List Addr} (h : ∀ a ∈ B, a ∈ C) : ∀ a ∈ Dl :: B, a ∈ Dl :: C := fun a ha => by
  rcases List.mem_cons.mp ha with z | z
  · rw [z]
    exact List.mem_cons_self
  · exact List.mem_cons_of_mem _ (h a z)
theorem lc2_turns {B C : List Addr} {G0 H0 G1 H1 : Hp} {σ : L2.St} {env : Sl} {b1 : Bag} {ds : List D} {J : L2.It} {Dl : Addr} {P : List D → Bag → Prop} {Qd : Hp → Prop} {acc0 : List D} {vs0 : List V}
    (g : Good K T (flw fl vs) B C G0 H0 G1 H1 (wipe σ vs) env b1) (w : Walks K T J G1 ds) (hC : ∀ a ∈ Dl :: B, a ∈ C) (nb : Dl ∉ B) (hjs : allIn js vs = true) (hjs1 : allIn js1 vs1 = true) (h0 : H1 Dl = some (.lst vs0)) (r0 : Reps K T G1 acc0 vs0) (gD0 : G1 Dl = none)
    (q : oW P (XOk K T W B C G0 H0) (lc2Go gd Ft I1 gd1 Ft1 Fe ds env acc0 b1))
    (hd : ∀ G H acc us b, Stp (Dl :: B) G1 H1 G H → BagAt B H b → H Dl = some (.lst us) → G Dl = none → Reps K T G acc us → P acc b → Qd H) :
    ∃ Wv : Nat → Nat → Hp → Prop, (∃ m, Wv 0 m H1) ∧ ∀ i m H, Wv i m H → (J.stop i H ∧ Qd H) ∨ (J.go i H ∧ ∃ Nx : Hp → Prop, (∀ H', Nx H' → ∃ m', m' < m ∧ Wv (i + 1) m' H') ∧ ∀ x H', J.yld i H x H' →
      tG K T (flw fl vs) fl1 js gd x (wipe σ vs) H' fun σ2 H2 => wipe σ2 vs = wipe σ vs ∧ tT K T W fl1 Ft σ2 H2 fun b H3 =>
        if b = true then tI K T W fl1 I1 σ2 H3 fun J1 H4 => ∃ W1 : Nat → Nat → Hp → Prop, (∃ m, W1 0 m H4) ∧ ∀ j k H, W1 j k H →
          (J1.stop j H ∧ Nx H) ∨ (J1.go j H ∧ ∃ Nx1 : Hp → Prop, (∀ H', Nx1 H' → ∃ k', k' < k ∧ W1 (j + 1) k' H') ∧ ∀ x H', J1.yld j H x H' → tG K T (flw fl1 vs1) fl2 js1 gd1 x (wipe σ2 vs1) H' fun σ3 H5 => wipe σ3 vs1 = wipe σ2 vs1 ∧ tT K T W fl2 Ft1 σ3 H5 fun b H6 =>
            if b = true then tE K T W fl2 Fe σ3 H6 fun y H7 => ∃ acc, H7 Dl = some (.lst acc) ∧ acc.length < sizeLine ∧ Nx1 (upd H7 Dl (.lst (acc ++ [y]))) else Nx1 H6)
        else Nx H3) := by
  refine ⟨fun i m H => ∃ G b acc us, m = ds.length - i ∧ i ≤ ds.length ∧ Stp (Dl :: B) G1 H1 G H ∧ BagAt B H b ∧ H Dl = some (.lst us) ∧ G Dl = none ∧ Reps K T G acc us ∧ oW P (XOk K T W B C G0 H0) (lc2Go gd Ft I1 gd1 Ft1 Fe (ds.drop i) env acc b),
    ⟨ds.length, G1, b1, acc0, vs0, by simp, Nat.zero_le _, .refl g.core.sub, g.core.bag, h0, gD0, r0, by simpa using q⟩, ?_⟩
  rintro i m H ⟨G, b, acc, us, rfl, hi, s, hb, hl, gD, r, q⟩
  have g1 := g.jump s hC hb
  by_cases hlt : i < ds.length
  · refine .inr ⟨w.go G H i s.g s.i hlt, fun H' => ∃ G b acc us, Stp (Dl :: B) G1 H1 G H' ∧ BagAt B H' b ∧ H' Dl = some (.lst us) ∧ G Dl = none ∧ Reps K T G acc us ∧ oW P (XOk K T W B C G0 H0) (lc2Go gd Ft I1 gd1 Ft1 Fe (ds.drop (i + 1)) env acc b), ?_, ?_⟩
    · rintro H' ⟨G', b', acc', us', h1, h2, h3, h4, h5, h6⟩
      exact ⟨ds.length - (i + 1), by omega, G', b', acc', us', rfl, hlt, h1, h2, h3, h4, h5, h6⟩
    · intro x H' hy
      obtain ⟨G', s', r'⟩ := w.yld G H i x H' ds[i] s.g s.i (List.getElem?_eq_getElem hlt) hy
      have g' := g1.step s'.pure (hb.keep s')
      rw [List.drop_eq_getElem_cons hlt] at q
      have q3 : oW P (XOk K T W B C G0 H0) (M.bnd (M.opt (gd ds[i] env)) (fun env1 => M.bnd (Ft env1) fun b => match b with
        | .bl true => M.bnd (I1 env1) fun es => M.bnd (lcGo gd1 Ft1 Fe es env1 acc) fun acc1 => lc2Go gd Ft I1 gd1 Ft1 Fe (ds.drop (i + 1)) env acc1
        | .bl false => lc2Go gd Ft I1 gd1 Ft1 Fe (ds.drop (i + 1)) env acc
        | _ => M.no) b) := q
      obtain ⟨env3, e3, q3⟩ := q3.bnd.opt
      refine ⟨B, C, G0, H0, G', env, b, ds[i], env3, g', r', e3, fun σ3 g3 l3 k3 => ⟨?_, ?_⟩⟩
      · rw [← wipe_idem σ vs]
        exact wipe_eq l3 fun j hj => k3 j fun z => hj (allIn_of hjs j z)
      · have sD : H' Dl = some (.lst us) := s'.h _ _ hl (by simp)
        refine tT_then g3 q3 (fun d b1 q => ?_) fun c b4 G4 H4 s4 hb4 g4 q4 => ?_
        · cases d with
          | bl c => exact ⟨c, rfl⟩
          | _ => exact q.elim
        · have sD4 : H4 Dl = some (.lst us) := s4.h _ _ sD nb
          have gD4 : G4 Dl = none := s4.own_free (s'.own_free gD hl) sD
          have t4 := (s.trans s'.pure).trans (s4.more fun a h => List.mem_cons_of_mem Dl h)
          have r4 := r.mono (s'.g.trans s4.g)
          cases c with
          | true =>
            refine iteT ⟨B, C, G0, H0, G4, env3, b4, g4, q4.bnd.imp fun es b5 q5 G5 H5 J1 s5 hb5 w5 => ?_⟩
            have sD5 : H5 Dl = some (.lst us) := s5.h _ _ sD4 nb
            have gD5 : G5 Dl = none := s5.own_free gD4 sD4
            have t5 := t4.trans (s5.more fun a h => List.mem_cons_of_mem Dl h)
            refine lc_turns (fl := fl1) (σ := σ3) ((g4.step s5 hb5).wipe vs1) w5 hC nb hjs1 sD5 (r4.mono s5.g) gD5 q5.bnd ?_
            intro G6 H6 acc6 us6 b6 s6 hb6 h6 gD6 r6 q6
            exact ⟨G6, b6, acc6, us6, t5.trans s6, hb6, h6, gD6, r6, q6⟩
          | false => exact iteF ⟨G4, b4, acc, us, t4, hb4, sD4, gD4, r4, q4⟩
  · have e : i = ds.length := by omega
    subst e
    rw [List.drop_length] at q
    exact .inl ⟨w.stop G H s.g s.i, hd G H acc us b s hb hl gD r q⟩
theorem tF_lc2 (hjs : allIn js vs = true) (hjs1 : allIn js1 vs1 = true) {σ : L2.St} {H : Hp} {Q : VK} (q : tF K T W fl (xLc2 I gd Ft I1 gd1 Ft1 Fe) σ H Q) :
    tLc2 (tI K T W fl I) (tG K T (flw fl vs) fl1 js gd) (tT K T WF fl1 Ft) (tI K T WF fl1 I1) (tG K T (flw fl1 vs1) fl2 js1 gd1) (tT K T WF fl2 Ft1) (tE K T WF fl2 Fe) vs vs1 σ H Q := by
  obtain ⟨B, C, G0, H0, G, env, b, g, q⟩ := q
  refine ⟨B, C, G0, H0, G, env, b, g, q.bnd.imp fun ds b1 q G1 H1 J s hb w Dl hD => ?_⟩
  have g1 := ((g.step s hb).wipe vs).reserve (o := .lst []) hD
  refine lc2_turns (K := K) (T := T) (fl := fl) (W := WF) (σ := σ) (acc0 := []) (vs0 := []) g1 w (mem_res g.core.bc) (hb.ne hD) hjs hjs1 upd_same .nil (s.i.free hD) (q.bnd.nox) ?_
  intro G2 H2 acc us b2 s2 hb2 h2 gD2 r2 q2
  exact q2 G2 H2 Dl (s.drop hD s2) hb2 (s.back hD) gD2 ⟨us, h2, r2⟩
theorem df_lc2 {elt tg iter tg1 iter1 : Expr} {ifs ifs1 : List Expr} {scope : Scope} {own : List (Str × Nat)} {pos : Pos} (hc : X.calm = true) (hN : X.N.Nodup) (hi : PI X tg iter (tI K T W fl I)) (ok : BlkOk X.N X.env.scope scope own) (hv : ∀ i ∈ vs1, i ∈ own.map (·.2))
    (hg : ∀ (s : Shared) (H : Hp) (C : Addr) (cl : List (Str × Addr)) (fp : List Addr), PG (X.blk s H scope (compEnvC scope cl C X.env) fp) tg (tG K T (flw fl (own.map (·.2))) fl1 js gd)) (ht : ∀ (s : Shared) (H : Hp) (C : Addr) (cl : List (Str × Addr)) (fp : List Addr), PTs (X.blk s H scope (compEnvC scope cl C X.env) fp) ifs (tT K T WF fl1 Ft))
    (hi1 : ∀ (s : Shared) (H : Hp) (C : Addr) (cl : List (Str × Addr)) (fp : List Addr), PI (X.blk s H scope (compEnvC scope cl C X.env) fp) tg1 iter1 (tI K T WF fl1 I1))
    (hg1 : ∀ (s : Shared) (H : Hp) (C : Addr) (cl : List (Str × Addr)) (fp : List Addr), PG (X.blk s H scope (compEnvC scope cl C X.env) fp) tg1 (tG K T (flw fl1 vs1) fl2 js1 gd1)) (ht1 : ∀ (s : Shared) (H : Hp) (C : Addr) (cl : List (Str × Addr)) (fp : List Addr), PTs (X.blk s H scope (compEnvC scope cl C X.env) fp) ifs1 (tT K T WF fl2 Ft1))
    (he : ∀ (s : Shared) (H : Hp) (C : Addr) (cl : List (Str × Addr)) (fp : List Addr), PE (X.blk s H scope (compEnvC scope cl C X.env) fp) elt (tE K T WF fl2 Fe)) (hjs : allIn js (own.map (·.2)) = true) (hjs1 : allIn js1 vs1 = true) (hs : ∀ x, foldedSetIterable iter X.env x = pure x := by intro _; rfl) (hs1 : ∀ env x, foldedSetIterable iter1 env x = pure x := by intro _ _; rfl) :
    PE X (.ListComp elt [⟨tg, iter, ifs, 0⟩, ⟨tg1, iter1, ifs1, 0⟩] scope pos) (tF K T W fl (xLc2 I gd Ft I1 gd1 Ft1 Fe)) :=
  PE.le (pe_lc2 hc hN hi ok hv hg ht hi1 hg1 ht1 he hs hs1) fun σ H Q q => tF_lc2 hjs hjs1 q
end

/-! ### what is walked -/
section
variable {K : PySem.W.Frag} {T : Tb} {fl : List Flg} {W : XK} {X : Cx} {F Fa Fb : Z.Ex} {a b e tg : Expr}
theorem items_lst {d : D} {ds : List D} (h : items d = some ds) : d = .lst ds ∨ d = .tup ds ∨ (∃ s : List Char, d = .str s ∧ ds = s.map fun c => .str [c]) ∨ d = .ftp ds := by
  cases d with
  | lst xs =>
    cases h
    exact .inl rfl
  | tup xs =>
    cases h
    exact .inr (.inl rfl)
  | str s =>
    cases h
    exact .inr (.inr (.inl ⟨s, rfl, rfl⟩))
  | ftp xs =>
    cases h
    exact .inr (.inr (.inr rfl))
  | _ => cases h
theorem walks_l {G : Hp} {p : Addr} {vs : List V} {ds : List D} (h : G p = some (.lst vs)) (r : Reps K T G ds vs) : Walks K T (Itl K p) G ds where
  go := fun G1 H1 i s1 s2 hi => by
    have hl : i < vs.length := by
      rw [r.length]
      exact hi
    exact ⟨vs, vs[i], SqL.of (s2 _ _ (s1 _ _ h)), List.getElem?_eq_getElem hl⟩
  yld := fun G1 H1 i x H' d s1 s2 hd hy => by
    obtain ⟨e, k⟩ := hy
    subst e
    obtain ⟨v, e1, e2⟩ := r.get hd
    have := k vs (SqL.of (s2 _ _ (s1 _ _ h)))
    rw [e1] at this
    cases this
    exact ⟨G1, .refl s2, e2.mono s1⟩
  stop := fun G1 H1 s1 s2 => ⟨vs, SqL.of (s2 _ _ (s1 _ _ h)), by rw [r.length]; exact Nat.le_refl _⟩
theorem walks_t {G : Hp} {p : Addr} {vs : List V} {ds : List D} (h : SqT K G p vs) (r : Reps K T G ds vs) : Walks K T (Itt K p) G ds where
  go := fun G1 H1 i s1 s2 hi => by
    have hl : i < vs.length := by
      rw [r.length]
      exact hi
    exact ⟨vs, vs[i], sub_t s2 (sub_t s1 h), List.getElem?_eq_getElem hl⟩
  yld := fun G1 H1 i x H' d s1 s2 hd hy => by
    obtain ⟨e, k⟩ := hy
    subst e
    obtain ⟨v, e1, e2⟩ := r.get hd
    have := k vs (sub_t s2 (sub_t s1 h))
    rw [e1] at this
    cases this
    exact ⟨G1, .refl s2, e2.mono s1⟩
  stop := fun G1 H1 s1 s2 => ⟨vs, sub_t s2 (sub_t s1 h), by rw [r.length]; exact Nat.le_refl _⟩
theorem PI.or {tg e : Expr} {w1 w2 : TI} (h1 : PI X tg e w1) (h2 : PI X tg e w2) : PI X tg e (fun σ H R => w1 σ H R ∨ w2 σ H R) := ⟨fun pins s σ H R I q => q.elim (h1.run pins s σ H R I) (h2.run pins s σ H R I)⟩
theorem di_of (he : PE X e (tE K T W fl F)) (hK : X.K = K) : PI X tg e (tI K T W fl (iOf F)) := by
  subst hK
  refine PI.le (ZL.PI.or (pi_list he) (ZL.PI.or (pi_tup he) (pi_str he))) fun σ H R q => ?_
  obtain ⟨B, C, G0, H0, G, env, b, g, q⟩ := q
  have q := q.bnd
  cases hF : F env b with
  | no =>
    rw [hF] at q
    exact q.elim
  | ex c x b1 =>
    rw [hF] at q
    exact .inl ⟨B, C, G0, H0, G, env, b, g, by rw [hF]; exact q⟩
  | ok d b1 =>
    rw [hF] at q
    obtain ⟨ds, e1, q⟩ := oW.opt q
    rcases items_lst e1 with rfl | rfl | ⟨s, rfl, rfl⟩ | rfl
    · refine .inl ⟨B, C, G0, H0, G, env, b, g, ?_⟩
      rw [hF]
      intro G1 H1 v s hb r
      unfold Rep at r
      obtain ⟨p, vs, e2, h1, h2⟩ := r
      exact ⟨p, e2, ⟨vs, SqL.of (s.i _ _ h1)⟩, q G1 H1 _ s hb (walks_l h1 h2)⟩
    · refine .inr (.inl ⟨B, C, G0, H0, G, env, b, g, ?_⟩)
      rw [hF]
      intro G1 H1 v s hb r
      unfold Rep at r
      obtain ⟨p, vs, e2, h1, h2⟩ := r
      exact ⟨p, e2, ⟨vs, sub_t s.i h1⟩, q G1 H1 _ s hb (walks_t h1 h2)⟩
    · refine .inr (.inr ⟨B, C, G0, H0, G, env, b, g, ?_⟩)
      rw [hF]
      intro G1 H1 v st hb r
      unfold Rep at r
      refine ⟨_, r, q G1 H1 _ st hb ⟨fun G2 H2 i s1 s2 hi => ?_, fun G2 H2 i x H' d s1 s2 hd hy => ?_, fun G2 H2 s1 s2 => ?_⟩⟩
      · show i < (toS s).cps.size
        simpa [toS] using hi
      · obtain ⟨e3, c, e4, e5⟩ := hy
        subst e3
        refine ⟨G2, .refl s2, ?_⟩
        rw [List.getElem?_map] at hd
        cases e6 : s[i]? with
        | none =>
          rw [e6] at hd
          cases hd
        | some c0 =>
          rw [e6] at hd
          cases hd
          have e7 : (toS s).cps[i]? = some c0.toNat := by simp [toS, e6]
          rw [e7] at e4
          cases e4
          rw [e5]
          unfold Rep
          rfl
      · show (toS s).cps.size ≤ _
        simp [toS]
    · refine .inr (.inl ⟨B, C, G0, H0, G, env, b, g, ?_⟩)
      rw [hF]
      intro G1 H1 v s hb r
      unfold Rep at r
      obtain ⟨p, o, vs, e2, h1, _, _, h2⟩ := r
      have h3 : SqT X.K G1 p vs := .inl (.inr ⟨o, h1⟩)
      exact ⟨p, e2, ⟨vs, sub_t s.i h3⟩, q G1 H1 _ s hb (walks_t h3 h2)⟩
theorem walks_r {G : Hp} {lo hi : Int} : Walks K T (Itr lo (hi - lo).toNat) G (rng lo hi) where
  go := fun G1 H1 i s1 s2 h => by
    unfold rng at h
    rw [List.length_map, List.length_range] at h
    exact h
  yld := fun G1 H1 i x H' d s1 s2 hd hy => by
    obtain ⟨e, k⟩ := hy
    subst e
    refine ⟨G1, .refl s2, ?_⟩
    unfold rng at hd
    rw [List.getElem?_map] at hd
    cases e1 : (List.range (hi - lo).toNat)[i]? with
    | none =>
      rw [e1] at hd
      cases hd
    | some j =>
      rw [e1] at hd
      cases hd
      have : j = i := by
        have := List.getElem?_eq_some_iff.mp e1
        obtain ⟨h1, h2⟩ := this
        rw [List.getElem_range] at h2
        exact h2.symm
      subst this
      rw [k]
      exact .int
  stop := fun G1 H1 s1 s2 => by
    show (hi - lo).toNat ≤ _
    unfold rng
    rw [List.length_map, List.length_range]
    exact Nat.le_refl _
theorem di_rng1 {p pos : Pos} (hg : Gl X "range") (hm : X.mg "range" = none) (ha : PE X a (tE K T W fl Fa)) (hs : starEach [a] X.env = [(false, eval a X.env)] := by rfl) : PI X tg (.Call (.Name "range" p) [a] [] pos) (tI K T W fl (iRng1 Fa)) :=
  PI.le (pi_range1 hg hm (pa_cons ha pa_nil hs) hs) fun σ H R ⟨B, C, G0, H0, G, env, b, g, q⟩ => tE_then g q fun d b1 G1 H1 v s hb r g1 q => by
    cases d with
    | int n =>
      by_cases hn : -(lim : Int) ≤ n ∧ n ≤ (lim : Int)
      · have q2 : oW _ _ ((if -(lim : Int) ≤ n ∧ n ≤ (lim : Int) then M.ret (rng 0 n) else M.no) b1) := q
        rw [if_pos hn] at q2
        unfold Rep at r
        have hl : (lim : Int) = 1000000 := rfl
        refine ⟨n, by rw [r], by omega, by omega, q2 G1 H1 _ s hb ?_⟩
        have e : n.toNat = (n - 0).toNat := by rw [Int.sub_zero]
        rw [e]
        exact walks_r
      · have q2 : oW _ _ ((if -(lim : Int) ≤ n ∧ n ≤ (lim : Int) then M.ret (rng 0 n) else M.no) b1) := q
        rw [if_neg hn] at q2
        exact q2.elim
    | _ => exact q.elim
theorem di_rng2 {p pos : Pos} (hg : Gl X "range") (hm : X.mg "range" = none) (ha : PE X a (tE K T W fl Fa)) (hb : PE X b (tE K T W fl Fb)) (hs : starEach [a, b] X.env = [(false, eval a X.env), (false, eval b X.env)] := by rfl) (hs2 : starEach [b] X.env = [(false, eval b X.env)] := by rfl)
    (hs3 : starEach (a :: [b]) X.env = (false, eval a X.env) :: starEach [b] X.env := by rfl) : PI X tg (.Call (.Name "range" p) [a, b] [] pos) (tI K T W fl (iRng2 Fa Fb)) :=
  PI.le (pi_range2 hg hm (pa_cons ha (pa_cons hb pa_nil hs2) hs3) hs hs2) fun σ H R ⟨B, C, G0, H0, G, env, b, g, q⟩ => tE_then g q fun d b1 G1 H1 v s hb r g1 q => tE_then g1 q fun d2 b2 G2 H2 v2 s2 hb2 r2 g2 q => by
    cases d with
    | int m =>
      cases d2 with
      | int n =>
        have q2 : oW _ _ ((if (-(lim : Int) ≤ m ∧ m ≤ (lim : Int)) ∧ -(lim : Int) ≤ n ∧ n ≤ (lim : Int) then M.ret (rng m n) else M.no) b2) := q
        by_cases hn : (-(lim : Int) ≤ m ∧ m ≤ (lim : Int)) ∧ -(lim : Int) ≤ n ∧ n ≤ (lim : Int)
        · rw [if_pos hn] at q2
          unfold Rep at r r2
          have hl : (lim : Int) = 1000000 := rfl
          exact ⟨m, n, by rw [r, r2], ⟨by omega, by omega, by omega, by omega⟩, q2 G2 H2 _ (s.trans s2) hb2 walks_r⟩
        · rw [if_neg hn] at q2
          exact q2.elim
      | _ => exact q.elim
    | _ => exact q.elim
theorem enumFrom_get : ∀ {k : Int} {xs : List D} {i : Nat} {d : D}, (enumFrom k xs)[i]? = some d → ∃ x, xs[i]? = some x ∧ d = .tup [.int (k + i), x]
  | _, [], _, _, h => by simp [enumFrom] at h
  | k, x :: r, 0, d, h => by
    simp [enumFrom] at h
    exact ⟨x, rfl, by rw [← h]; simp⟩
  | k, x :: r, i + 1, d, h => by
    simp only [enumFrom, List.getElem?_cons_succ] at h
    obtain ⟨y, h1, h2⟩ := enumFrom_get h
    refine ⟨y, by simpa using h1, ?_⟩
    rw [h2]
    have : k + 1 + (i : Int) = k + ((i + 1 : Nat) : Int) := by omega
    rw [this]
theorem enumFrom_len : ∀ {k : Int} {xs : List D}, (enumFrom k xs).length = xs.length
  | _, [] => rfl
  | k, x :: r => by
    simp only [enumFrom, List.length_cons]
    rw [enumFrom_len]
theorem di_enum {p pos tpos : Pos} {elts : List Expr} {kk : Nat} (hg : Gl X "enumerate") (hm : X.mg "enumerate" = none) (ha : PE X a (tE K T W fl Fa)) (hK : X.K = K) (hs : starEach [a] X.env = [(false, eval a X.env)] := by rfl) :
    PI X (.Tuple elts kk tpos) (.Call (.Name "enumerate" p) [a] [] pos) (tI K T W fl (iEnum Fa)) := by
  subst hK
  refine PI.le (pi_enum hg hm (pa_cons ha pa_nil hs) hs) fun σ H R ⟨B, C, G0, H0, G, env, b, g, q⟩ => tE_then g q fun d b1 G1 H1 v s hb r g1 q => ?_
  cases d with
  | lst xs =>
    unfold Rep at r
    obtain ⟨p, vs, e2, h1, h2⟩ := r
    subst e2
    refine ⟨p, vs, rfl, SqL.of (s.i _ _ h1), q G1 H1 _ s hb ⟨fun G2 H2 i s1 s2 hi => ?_, fun G2 H2 i x H' d s1 s2 hd hy => ?_, fun G2 H2 s1 s2 => ?_⟩⟩
    · rw [enumFrom_len] at hi
      have hl : i < vs.length := by
        rw [h2.length]
        exact hi
      exact ⟨vs, vs[i], SqL.of (s2 _ _ (s1 _ _ h1)), List.getElem?_eq_getElem hl⟩
    · obtain ⟨Tt, x0, e3, hT, e4, k⟩ := hy
      obtain ⟨y, e5, e6⟩ := enumFrom_get hd
      obtain ⟨w, e7, e8⟩ := h2.get e5
      have e9 := k vs (SqL.of (s2 _ _ (s1 _ _ h1)))
      rw [e7] at e9
      cases e9
      subst e3 e4 e6
      have st := Stp.new (o := .tup [.int (i : Nat), x0]) s2 hT
      refine ⟨_, st, ?_⟩
      unfold Rep
      refine ⟨Tt, _, rfl, SqT.of upd_same, .cons ?_ (.one (e8.mono (s1.trans st.g)))⟩
      rw [Int.zero_add]
      exact .int
    · exact ⟨vs, SqL.of (s2 _ _ (s1 _ _ h1)), by rw [enumFrom_len, h2.length]; exact Nat.le_refl _⟩
  | _ => exact q.elim
theorem zipD_get : ∀ {xs ys : List D} {i : Nat} {d : D}, (zipD xs ys)[i]? = some d → ∃ x y, xs[i]? = some x ∧ ys[i]? = some y ∧ d = .tup [x, y]
  | [], _, _, _, h => by simp [zipD] at h
  | _ :: _, [], _, _, h => by simp [zipD] at h
  | x :: r, y :: t, 0, d, h => by
    simp [zipD] at h
    exact ⟨x, y, rfl, rfl, h.symm⟩
  | x :: r, y :: t, i + 1, d, h => by
    simp only [zipD, List.getElem?_cons_succ] at h
    obtain ⟨x', y', h1, h2, h3⟩ := zipD_get h
    exact ⟨x', y', by simpa using h1, by simpa using h2, h3⟩
theorem zipD_len : ∀ {xs ys : List D}, (zipD xs ys).length = min xs.length ys.length
  | [], _ => by simp [zipD]
  | _ :: _, [] => by simp [zipD]
  | x :: r, y :: t => by
    simp only [zipD, List.length_cons]
    rw [zipD_len]
    omega
theorem di_zip {p pos tpos : Pos} {elts : List Expr} {kk : Nat} (hg : Gl X "zip") (hm : X.mg "zip" = none) (ha : PE X a (tE K T W fl Fa)) (hb : PE X b (tE K T W fl Fb)) (hK : X.K = K)
    (hs : starEach [a, b] X.env = (false, eval a X.env) :: starEach [b] X.env := by rfl) (hs2 : starEach [b] X.env = (false, eval b X.env) :: starEach [] X.env := by rfl) (hpl : (backTo pos (starEach [b] X.env)).any (·.1) = false := by rfl) :
    PI X (.Tuple elts kk tpos) (.Call (.Name "zip" p) [a, b] [] pos) (tI K T W fl (iZip Fa Fb)) := by
  subst hK
  refine PI.le (pi_zip hg hm (pa_cons ha (pa_cons hb pa_nil hs2) hs) hs hpl) fun σ H R ⟨B, C, G0, H0, G, env, b, g, q⟩ => tE_then g q fun d b1 G1 H1 v s hb r g1 q => tE_then g1 q fun d2 b2 G2 H2 v2 s2 hb2 r2 g2 q => ?_
  cases d with
  | lst xs =>
    cases d2 with
    | lst ys =>
      unfold Rep at r r2
      obtain ⟨p, vs, e2, h1, h2⟩ := r
      obtain ⟨p', us, e2', h1', h2'⟩ := r2
      subst e2 e2'
      have k1 := s2.g _ _ h1
      have k2 := h2.mono s2.g
      refine ⟨p, p', vs, us, rfl, SqL.of (s2.i _ _ k1), SqL.of (s2.i _ _ h1'), q G2 H2 _ (s.trans s2) hb2 ⟨fun G3 H3 i t1 t2 hi => ?_, fun G3 H3 i x H' d t1 t2 hd hy => ?_, fun G3 H3 t1 t2 => ?_⟩⟩
      · rw [zipD_len] at hi
        have l1 : i < vs.length := by
          rw [h2.length]
          omega
        have l2 : i < us.length := by
          rw [h2'.length]
          omega
        exact ⟨vs, us, vs[i], us[i], SqL.of (t2 _ _ (t1 _ _ k1)), SqL.of (t2 _ _ (t1 _ _ h1')), List.getElem?_eq_getElem l1, List.getElem?_eq_getElem l2⟩
      · obtain ⟨Tt, x0, y0, e3, hT, e4, k, k'⟩ := hy
        obtain ⟨x1, y1, e5, e5', e6⟩ := zipD_get hd
        obtain ⟨w, e7, e8⟩ := k2.get e5
        obtain ⟨w', e7', e8'⟩ := h2'.get e5'
        have e9 := k vs (SqL.of (t2 _ _ (t1 _ _ k1)))
        rw [e7] at e9
        cases e9
        have e9' := k' us (SqL.of (t2 _ _ (t1 _ _ h1')))
        rw [e7'] at e9'
        cases e9'
        subst e3 e4 e6
        have st := Stp.new (o := .tup [x0, y0]) t2 hT
        refine ⟨_, st, ?_⟩
        unfold Rep
        exact ⟨Tt, _, rfl, SqT.of upd_same, .cons (e8.mono (t1.trans st.g)) (.one (e8'.mono (t1.trans st.g)))⟩
      · refine ⟨vs, us, SqL.of (t2 _ _ (t1 _ _ k1)), SqL.of (t2 _ _ (t1 _ _ h1')), ?_⟩
        rw [zipD_len, h2.length, h2'.length]
        omega
    | _ => exact q.elim
  | _ => exact q.elim
end
end ZL
end
section
set_option Elab.async false
set_option linter.all false
set_option maxRecDepth 100000
namespace ZL
open PySem PySem.Spec PyProof.Rows L2 Z

/-! ### what a def promises -/
section
variable (K : PySem.W.Frag) (T : Tb)
def spM (np : Nat) (hb : Bool) (f : List D → M D) : Sp := fun vs H Q E => ∃ (B : List Addr) (G : Hp) (ds : List D) (vs' : List V) (b : Bag),
  (match hb with
    | true => ∃ a, B = [a] ∧ vs = .ref a :: vs' ∧ G a = none
    | false => B = [] ∧ vs = vs') ∧ ds.length = np ∧ Sub G H ∧ BagAt B H b ∧ Reps K T G ds vs' ∧
  oW (fun d b' => ∀ v G' H', Stp B G H G' H' → BagAt B H' b' → Rep K T G' d v → Q v H') (fun c x b' => ∀ G' H' cls dd, Core B B G H G' H' b' → ExcAt K T G' H' c x cls dd → E cls dd H') (f ds b)
end
def bN (hb : Bool) : Nat := if hb then 1 else 0
def fl0 (hb : Bool) (np : Nat) : List Flg := (if hb then [.bag] else []) ++ List.replicate np .dat
theorem spM_len {K : PySem.W.Frag} {T : Tb} {np : Nat} {hb : Bool} {f : List D → M D} {vs : List V} {H : Hp} {Q : VK} {E : XK} (h : spM K T np hb f vs H Q E) : vs.length = bN hb + np := by
  obtain ⟨B, G, ds, vs', b, hB, hl, s, hbag, r, q⟩ := h
  have e := r.length
  cases hb with
  | true =>
    obtain ⟨a, _, e2, _⟩ := hB
    rw [e2, List.length_cons, e, hl]
    unfold bN
    simp
    omega
  | false =>
    obtain ⟨_, e2⟩ := hB
    rw [e2, e, hl]
    unfold bN
    simp
section
variable {K : PySem.W.Frag} {T : Tb} {P : Program} {w : World} {mg : Str → Option Value} {base : Heap}
theorem good_start {N : List Str} {np n : Nat} {G H : Hp} {ds : List D} {vs : List V} {b : Bag} (hn : N.length = n) (hl : ds.length = np) (hnp : np ≤ n) (s : Sub G H) (r : Reps K T G ds vs) :
    Good K T (fl0 false np) [] [] G H G H (L2.start N vs) (ds ++ List.replicate (n - np) .non) b := by
  refine ⟨⟨.refl s, fun a h => by simp at h, fun a h => by simp at h, fun a h => by simp at h⟩, ?_, fun _ => [], fun i => ?_, fun i p h => by simp at h, fun i j p h => by simp at h⟩
  · unfold L2.start
    simp only [List.length_append, List.length_map, List.length_replicate, r.length, hl, hn]
  · unfold fl0
    simp only [Bool.false_eq_true, if_false, List.nil_append]
    by_cases hi : i < np
    · have e1 : (List.replicate np Flg.dat).getD i .un = .dat := by simp [List.getD_eq_getElem?_getD, List.getElem?_replicate, hi]
      rw [e1]
      have hd : i < ds.length := by omega
      obtain ⟨v, e2, e3⟩ := r.get (List.getElem?_eq_getElem hd)
      refine ⟨rfl, v, ?_, ?_⟩
      · unfold L2.start
        rw [List.getElem?_append_left (by rw [List.length_map, r.length]; omega), List.getElem?_map, e2]
        rfl
      · have e4 : (ds ++ List.replicate (n - np) D.non).getD i .non = ds[i] := by
          simp [List.getD_eq_getElem?_getD, List.getElem?_append_left hd, hd]
        rw [e4]
        exact e3
    · have e1 : (List.replicate np Flg.dat).getD i .un = .un := getD_out (by rw [List.length_replicate]; omega)
      rw [e1]
      rfl
theorem good_startB {N : List Str} {np n : Nat} {G H : Hp} {ds : List D} {vs : List V} {b : Bag} {a : Addr} (hn : N.length = n) (hl : ds.length = np) (hnp : 1 + np ≤ n) (s : Sub G H) (ga : G a = none) (hb : BagAt [a] H b) (r : Reps K T G ds vs) :
    Good K T (fl0 true np) [a] [a] G H G H (L2.start N (.ref a :: vs)) (.non :: (ds ++ List.replicate (n - (1 + np)) .non)) b := by
  refine ⟨⟨.refl s, hb, fun a h => h, fun a' h => ?_⟩, ?_, fun _ => [], fun i => ?_, fun i p h => by simp at h, fun i j p h => by simp at h⟩
  · rw [List.mem_singleton.mp h]
    exact ⟨ga, _, (hb a (List.mem_singleton.mpr rfl)).1⟩
  · unfold L2.start
    simp only [List.length_append, List.length_map, List.length_cons, List.length_replicate, r.length, hl, hn]
    omega
  · unfold fl0
    simp only [if_true]
    cases i with
    | zero =>
      refine ⟨rfl, a, rfl, ?_⟩
      unfold L2.start
      rfl
    | succ i =>
      show SlotOk K T [a] G H ((List.replicate np Flg.dat).getD i .un) (L2.start N (.ref a :: vs))[i + 1]? ((ds ++ List.replicate (n - (1 + np)) D.non).getD i .non) []
      by_cases hi : i < np
      · have e1 : (List.replicate np Flg.dat).getD i .un = .dat := by simp [List.getD_eq_getElem?_getD, List.getElem?_replicate, hi]
        rw [e1]
        have hd : i < ds.length := by omega
        obtain ⟨v, e2, e3⟩ := r.get (List.getElem?_eq_getElem hd)
        refine ⟨rfl, v, ?_, ?_⟩
        · unfold L2.start
          rw [List.getElem?_append_left (by rw [List.length_map, List.length_cons, r.length]; omega), List.getElem?_map, List.getElem?_cons_succ, e2]
          rfl
        · have e4 : (ds ++ List.replicate (n - (1 + np)) D.non).getD i .non = ds[i] := by
            simp [List.getD_eq_getElem?_getD, List.getElem?_append_left hd, hd]
          rw [e4]
          exact e3
      · have e1 : (List.replicate np Flg.dat).getD i .un = .un := getD_out (by rw [List.length_replicate]; omega)
        rw [e1]
        rfl
/-- THE RULE for a def: its body's denotation is what it promises -/
theorem def_ok {x qual : Str} {params : Arguments} {body : List Stmt} {scope : Scope} {dvs : List V} {kws : List (Str × V)} {f : Addr} {fd : FuncData} {N ps : List Str} {k np n : Nat} {hb : Bool} {S : Z.Sm} (F : FunD K x qual params body scope dvs kws f fd) (Sc : FnScope N ps scope)
    (hn : N.length = n) (hp : ps.length = bN hb + np) (hnp : bN hb + np ≤ n)
    (hbody : ∀ (cdv : Value) (A : Around) (outer : List Env) (s : Shared) (H : Hp) (E : XK), Room k (A.deeper (envOfC qual scope s.heap.objs.size f cdv)) → PSs (cxOf (CX P w) P w K mg base N qual scope f cdv A outer s H E) body (tS K T E [] (fl0 hb np) ⟨[], [], []⟩ S)) :
    FnOk P w K mg base (CX P w) (k + 1) f fd ps (spM K T np hb (runD hb n S)) := by
  refine F.ok Sc (fun vs H Q E h => (spM_len h).trans hp.symm) fun cdv A outer s H vs Q E hr h => ⟨_, hbody cdv A outer s H E hr, ?_⟩
  obtain ⟨B, G, ds, vs', b, hB, hl, sb, hbag, r, q⟩ := h
  have fin : ∀ env, Good K T (fl0 hb np) B B G H G H (L2.start N vs) env b → oW (fun d b' => ∀ v G' H', Stp B G H G' H' → BagAt B H' b' → Rep K T G' d v → Q v H') (fun c x b' => ∀ G' H' cls dd, Core B B G H G' H' b' → ExcAt K T G' H' c x cls dd → E cls dd H') (M.bnd (S env) (fun f => match f with
      | .rt d => M.ret d
      | .nx _ => M.ret .non
      | _ => M.no) b) → tS K T E [] (fl0 hb np) ⟨[], [], []⟩ S { nx := fun _ H' => Q .non H', rt := Q } (L2.start N vs) H := fun env g q =>
    ⟨B, B, G, H, G, env, b, g, q.bnd.imp fun f b1 q => by
      cases f with
      | nx env1 => exact fun σ G1 H1 g1 _ _ => q .non G1 H1 g1.core.stp g1.core.bag .non
      | rt d => exact fun v G1 H1 c r => q v G1 H1 c.stp c.bag r
      | bk env1 => exact q.elim
      | ct env1 => exact q.elim⟩
  cases hb with
  | true =>
    obtain ⟨a, rfl, rfl, ga⟩ := hB
    refine fin _ (good_startB hn hl (by unfold bN at hnp; simpa using hnp) sb ga hbag r) ?_
    have e : runD true n S ds b = M.bnd (S (.non :: (ds ++ List.replicate (n - (1 + np)) .non))) (fun f => match f with
      | .rt d => M.ret d
      | .nx _ => M.ret .non
      | _ => M.no) b := by
      unfold runD
      rw [hl]
      rfl
    rw [← e]
    exact q
  | false =>
    obtain ⟨rfl, rfl⟩ := hB
    refine fin _ (good_start hn hl (by unfold bN at hnp; simpa using hnp) sb r) ?_
    have e : runD false n S ds b = M.bnd (S (ds ++ List.replicate (n - np) .non)) (fun f => match f with
      | .rt d => M.ret d
      | .nx _ => M.ret .non
      | _ => M.no) b := by
      unfold runD
      rw [hl]
      simp <;> rfl
    rw [← e]
    exact q
end

/-! ### calls -/
/-- the def that the module's name x stands for: k its level, np its parameters (without the bag), dds the defaults that fill up -/
structure CalOk (P : Program) (w : World) (K : PySem.W.Frag) (T : Tb) (mg : Str → Option Value) (base : Heap) (x : Str) (k np : Nat) (hb : Bool) (dds : List D) (f : List D → M D) : Prop where
  ex : ∃ (fa : Addr) (fd : FuncData) (ps : List Str) (ds : List Value) (dvs : List V), FnOk P w K mg base (CX P w) k fa fd ps (spM K T np hb f) ∧ mg x = some (.ref fa) ∧ PySem.W.keepIn K (.ref fa) = true ∧ Binds K fd ps ds ∧ Vals dvs ds ∧ ∀ G, Reps K T G dds dvs
theorem passF {P : Program} {w : World} {X : Cx} : Passes (CX P w) X WF := fun _ _ _ _ _ _ _ h => by
  obtain ⟨_, _, _, _, _, _, _, _, _, _, _, _, z⟩ := h
  exact z.elim
section
variable {T : Tb} {fl : List Flg} {W : XK} {X : Cx} {e : Expr} {es : List Expr} {x : Str} {p pos : Pos} {k np : Nat} {dds : List D} {f : List D → M D} {as : List Z.Ex}
theorem callQ_at {K : PySem.W.Frag} {B C : List Addr} {G0 H0 G1 H1 : Hp} {σ : L2.St} {env : Sl} {b1 : Bag} {P : D → Bag → Prop} {Q : VK} {ds : List D} {vs : List V} (g1 : Good K T fl B C G0 H0 G1 H1 σ env b1) (r : Reps K T G1 ds vs) (hl : ds.length = np)
    (q : oW P (XOk K T W B C G0 H0) (pureC f ds b1)) (hP : ∀ d b2, P d b2 → b2 = b1 → ∀ v G' H', Stp [] G1 H1 G' H' → Rep K T G' d v → Q v H') : spM K T np false f vs H1 Q W := by
  refine ⟨[], G1, ds, vs, ⟨0, 0, 0⟩, ⟨rfl, rfl⟩, hl, g1.core.sub, fun a h => by simp at h, r, ?_⟩
  unfold pureC at q
  cases e : f ds ⟨0, 0, 0⟩ with
  | no =>
    rw [e] at q
    exact q
  | ok d b' =>
    rw [e] at q
    exact fun v G' H' s _ r => hP d b1 q rfl v G' H' s r
  | ex c y b' =>
    rw [e] at q
    exact fun G' H' cls dd c' ex => q G' H' cls dd (g1.core.step c'.stp.pure (g1.core.bag.keep c'.stp)) ex
theorem de_callQ (o : CalOk X.prog X.w X.K T X.mg X.base x k np false dds f) (hr : Room k X.A) (hg : Gl X x) (hx : Passes (CX X.prog X.w) X W) (ha : PA X (e :: es) (tAs X.K T W fl (xL as))) (hn : as.length + dds.length = np := by rfl)
    (hdb : (x == ("__debug__" : Str)) = false := by decide) (he : starEach (e :: es) X.env = (false, eval e X.env) :: starEach es X.env := by rfl) (hpl : (backTo pos (starEach es X.env)).any (·.1) = false := by rfl) :
    PE X (.Call (.Name x p) (e :: es) [] pos) (tE X.K T W fl (xQ f (xApp (xL as) dds))) := by
  obtain ⟨fa, fd, ps, dsv, dvs, F, hm, hk, hb, hd, hdd⟩ := o.ex
  refine PE.le (pe_call F hr hg hm hk hb hd hx ha hdb he hpl) fun σ H Q ⟨B, C, G0, H0, G, env, b, g, q⟩ => ?_
  have q2 := q.bnd.bnd
  refine ⟨B, C, G0, H0, G, env, b, g, (oW_len q2).imp fun ds b1 ⟨hl, q⟩ G1 H1 vs s hb r => ?_⟩
  have g1 := g.step s hb
  have q : oW (fun d b' => ∀ G' H' v, Stp B G H G' H' → BagAt B H' b' → Rep X.K T G' d v → Q v H') (XOk X.K T W B C G0 H0) (pureC f (ds ++ dds) b1) := q
  refine callQ_at g1 (r.append (hdd G1)) (by rw [List.length_append, hl, hn]) q fun d b2 q' e v G' H' s' r' => ?_
  rw [e] at q'
  exact q' G' H' v (s.trans s'.pure) (hb.keep s') r'
/-- the bag ahead of the arguments -/
def tAg (K : PySem.W.Frag) (T : Tb) (W : XK) (fl : List Flg) (F : Z.Exs) : TA := fun σ H Q => ∃ B C G0 H0 G env b, Good K T fl B C G0 H0 G H σ env b ∧ oW (fun ds b' => ∀ G' H' vs a, Stp B G H G' H' → BagAt B H' b' → B = [a] → G' a = none → Reps K T G' ds vs → Q (.ref a :: vs) H') (XOk K T W B C G0 H0) (F env b)
theorem da_bag {K : PySem.W.Frag} {i : Nat} {y : Str} {py : Pos} {Fs : Z.Exs} (hf : fl.getD i .un = .bag) (h : PE X (.Name y py) (tVar i)) (hr : PA X es (tAs K T W fl Fs)) (hs : starEach (.Name y py :: es) X.env = (false, eval (.Name y py) X.env) :: starEach es X.env := by rfl) : PA X (.Name y py :: es) (tAg K T W fl Fs) :=
  PA.le (pa_cons h hr hs) fun σ H Q ⟨B, C, G0, H0, G, env, b, g, q⟩ => by
    obtain ⟨_, _, fp, h1, _, _⟩ := id g
    have x := h1 i
    rw [hf] at x
    obtain ⟨_, a, hB, hs⟩ := x
    refine ⟨.ref a, hs, B, C, G0, H0, G, env, b, g, q.imp fun ds b1 q G1 H1 vs s hb r => q G1 H1 vs a s hb hB ?_ r⟩
    have g1 := g.step s hb
    exact (g1.core.bg a (g1.core.bc a (by rw [hB]; exact List.mem_singleton.mpr rfl))).1
theorem de_callB (o : CalOk X.prog X.w X.K T X.mg X.base x k np true dds f) (hr : Room k X.A) (hg : Gl X x) (hx : Passes (CX X.prog X.w) X W) (ha : PA X (e :: es) (tAg X.K T W fl (xL as))) (hn : as.length + dds.length = np := by rfl)
    (hdb : (x == ("__debug__" : Str)) = false := by decide) (he : starEach (e :: es) X.env = (false, eval e X.env) :: starEach es X.env := by rfl) (hpl : (backTo pos (starEach es X.env)).any (·.1) = false := by rfl) :
    PE X (.Call (.Name x p) (e :: es) [] pos) (tE X.K T W fl (xP f (xApp (xL as) dds))) := by
  obtain ⟨fa, fd, ps, dsv, dvs, F, hm, hk, hb, hd, hdd⟩ := o.ex
  refine PE.le (pe_call F hr hg hm hk hb hd hx ha hdb he hpl) fun σ H Q ⟨B, C, G0, H0, G, env, b, g, q⟩ => ?_
  have q2 := q.bnd.bnd
  refine ⟨B, C, G0, H0, G, env, b, g, (oW_len q2).imp fun ds b1 ⟨hl, q⟩ G1 H1 vs a s hb hB ga r => ?_⟩
  subst hB
  have g1 := g.step s hb
  refine ⟨[a], G1, ds ++ dds, vs ++ dvs, b1, ⟨a, rfl, rfl, ga⟩, by rw [List.length_append, hl, hn], g1.core.sub, hb, r.append (hdd G1), ?_⟩
  have q : oW (fun d b' => ∀ G' H' v, Stp [a] G H G' H' → BagAt [a] H' b' → Rep X.K T G' d v → Q v H') (XOk X.K T W [a] C G0 H0) (f (ds ++ dds) b1) := q
  exact q.mono (fun d b2 q v G' H' s' hb' r' => q G' H' v (s.trans s') hb' r') fun c y b2 q G' H' cls dd c' ex => q G' H' cls dd (g1.core.step c'.stp c'.bag) ex
end
end ZL
end
section
set_option Elab.async false
set_option linter.all false
set_option maxRecDepth 100000
namespace ZL
open PySem PySem.Spec PyProof.Rows L2 Z

section
variable {K : PySem.W.Frag} {T : Tb} {fl : List Flg} {W : XK} {X : Cx} {a b e : Expr} {es : List Expr} {x : Str} {p pos : Pos} {F Fa Fb : Z.Ex} {Fs : Z.Exs}
/-! ### built-ins by name -/
theorem de_bi {id : String} {r : List V → Hp → VK → Prop} {g : List D → Option D} (hc : CallR X (.builtin id) r) (hr : SemA K T r g) (hv : bootBuiltins x = some (.builtin id)) (hg : Gl X x) (hm : X.mg x = none) (ha : PA X (e :: es) (tAb K T W fl Fs)) (hn : x ≠ "__name__" := by decide) (hdb : (x == ("__debug__" : Str)) = false := by decide)
    (he : starEach (e :: es) X.env = (false, eval e X.env) :: starEach es X.env := by rfl) (hpl : (backTo pos (starEach es X.env)).any (·.1) = false := by rfl) : PE X (.Call (.Name x p) (e :: es) [] pos) (tE K T W fl (xA g Fs)) := opA_e hr (pe_callB hc hg hm hv ha hn hdb he hpl)
theorem df_bi {id : String} {r : List V → Hp → VK → Prop} {g : List D → Option D} (hc : CallR X (.builtin id) r) (hr : SemAF K T r g) (hv : bootBuiltins x = some (.builtin id)) (hg : Gl X x) (hm : X.mg x = none) (ha : PA X (e :: es) (tAb K T W fl Fs)) (hn : x ≠ "__name__" := by decide) (hdb : (x == ("__debug__" : Str)) = false := by decide)
    (he : starEach (e :: es) X.env = (false, eval e X.env) :: starEach es X.env := by rfl) (hpl : (backTo pos (starEach es X.env)).any (·.1) = false := by rfl) : PE X (.Call (.Name x p) (e :: es) [] pos) (tF K T W fl (xA g Fs)) := opA_f hr (pe_callB hc hg hm hv ha hn hdb he hpl)
theorem de_ty {Tn : String} {r : List V → Hp → VK → Prop} {g : List D → Option D} (hc : CallR X (.type Tn) r) (hr : SemA K T r g) (hv : bootBuiltins x = some (.type Tn)) (hg : Gl X x) (hm : X.mg x = none) (ha : PA X (e :: es) (tAb K T W fl Fs)) (hn : x ≠ "__name__" := by decide) (hdb : (x == ("__debug__" : Str)) = false := by decide)
    (he : starEach (e :: es) X.env = (false, eval e X.env) :: starEach es X.env := by rfl) (hpl : (backTo pos (starEach es X.env)).any (·.1) = false := by rfl) : PE X (.Call (.Name x p) (e :: es) [] pos) (tE K T W fl (xA g Fs)) := opA_e hr (pe_callTy hc hg hm hv ha hn hdb he hpl)
theorem df_ty {Tn : String} {r : List V → Hp → VK → Prop} {g : List D → Option D} (hc : CallR X (.type Tn) r) (hr : SemAF K T r g) (hv : bootBuiltins x = some (.type Tn)) (hg : Gl X x) (hm : X.mg x = none) (ha : PA X (e :: es) (tAb K T W fl Fs)) (hn : x ≠ "__name__" := by decide) (hdb : (x == ("__debug__" : Str)) = false := by decide)
    (he : starEach (e :: es) X.env = (false, eval e X.env) :: starEach es X.env := by rfl) (hpl : (backTo pos (starEach es X.env)).any (·.1) = false := by rfl) : PE X (.Call (.Name x p) (e :: es) [] pos) (tF K T W fl (xA g Fs)) := opA_f hr (pe_callTy hc hg hm hv ha hn hdb he hpl)
end

section
variable {K : PySem.W.Frag} {T : Tb} {B : List Addr} {G H : Hp} {v : V} {d : D}
theorem repsB1 {d : D} {vs : List V} (h : RepsB K T B G H [d] vs) : ∃ v, vs = [v] ∧ RepB K T B G H d v := by
  obtain ⟨v, r, e, h1, h2⟩ := h
  have : r = [] := h2
  subst this
  exact ⟨v, e, h1⟩
theorem repsB2 {d d' : D} {vs : List V} (h : RepsB K T B G H [d, d'] vs) : ∃ v v', vs = [v, v'] ∧ RepB K T B G H d v ∧ RepB K T B G H d' v' := by
  obtain ⟨v, r, e, h1, h2⟩ := h
  obtain ⟨v', e', h3⟩ := repsB1 h2
  subst e'
  exact ⟨v, v', e, h1, h3⟩
theorem semA1 {r : List V → Hp → VK → Prop} {g : D → Option D} (h : ∀ B G H x d u Q, Sub G H → RepB K T B G H x u → g x = some d → ResE K T G H d Q → r [u] H Q) : SemA K T r (o1 g) := by
  intro B G H ds d us Q s hs e q
  unfold o1 at e
  split at e
  · obtain ⟨u, rfl, hu⟩ := repsB1 hs
    exact h B G H _ d u Q s hu e q
  · cases e
theorem semA1F {r : List V → Hp → VK → Prop} {g : D → Option D} (h : ∀ B G H x d u Q, Sub G H → RepB K T B G H x u → g x = some d → ResF K T G H d Q → r [u] H Q) : SemAF K T r (o1 g) := by
  intro B G H ds d us Q s hs e q
  unfold o1 at e
  split at e
  · obtain ⟨u, rfl, hu⟩ := repsB1 hs
    exact h B G H _ d u Q s hu e q
  · cases e
theorem semA2 {r : List V → Hp → VK → Prop} {g : D → D → Option D} (h : ∀ B G H x y d u v Q, Sub G H → RepB K T B G H x u → RepB K T B G H y v → g x y = some d → ResE K T G H d Q → r [u, v] H Q) : SemA K T r (o2 g) := by
  intro B G H ds d us Q s hs e q
  unfold o2 at e
  split at e
  · obtain ⟨u, v, rfl, hu, hv⟩ := repsB2 hs
    exact h B G H _ _ d u v Q s hu hv e q
  · cases e
/-! ### len -/
def rLenA (K : PySem.W.Frag) : List V → Hp → VK → Prop := fun xs H Q => ∃ x n, xs = [x] ∧ LenV K x H n ∧ Q (.int n) H
theorem sem_len : SemA K T (rLenA K) (o1 oLen) := semA1 fun B G H x d u Q s hu e q => by
  unfold oLen at e
  split at e
  · cases e
    obtain ⟨p, vs, e1, h1, h2⟩ := hu.lst s
    subst e1
    rw [← h2.length] at q
    exact ⟨_, _, rfl, .inl ⟨vs, SqL.of h1, rfl⟩, q.at s .int⟩
  · cases e
    obtain ⟨p, vs, e1, h1, h2⟩ := hu.tup s
    subst e1
    rw [← h2.length] at q
    exact ⟨_, _, rfl, .inr ⟨vs, h1, rfl⟩, q.at s .int⟩
  · cases e
    obtain ⟨p, e1, h1⟩ := hu.scr s
    subst e1
    exact ⟨_, _, rfl, .inl ⟨_, h1, rfl⟩, by rw [List.length_map]; exact q.at s .int⟩
  · cases e
    obtain ⟨p, o, vs, e1, h1, _, _, h2⟩ := hu.ftp s
    subst e1
    rw [← h2.length] at q
    exact ⟨_, _, rfl, .inr ⟨vs, .inl (.inr ⟨o, h1⟩), rfl⟩, q.at s .int⟩
  · split at e
    · rename_i hl
      cases e
      have := hu.str
      subst this
      refine ⟨_, _, rfl, ⟨by rw [toS_len]; exact lim_line hl, rfl⟩, ?_⟩
      rw [toS_len]
      exact q.at s .int
    · cases e
  · cases e
theorem call_lenA {X : Cx} : CallR X (.builtin "len") (rLenA X.K) := call_len
/-! ### list(..), tuple(..) -/
def rListA (K : PySem.W.Frag) : List V → Hp → VK → Prop := fun xs H Q => ∃ p ys, xs = [.ref p] ∧ (SqL K H p ys ∨ SqT K H p ys) ∧ ∀ l, H l = none → Q (.ref l) (upd H l (.lst ys))
theorem call_listA {X : Cx} : CallR X (.type "list") (rListA X.K) := call_list_of
theorem sem_list : SemAF K T (rListA K) (o1 oList) := semA1F fun B G H x d u Q s hu e q => by
  unfold oList at e
  split at e
  · cases e
    obtain ⟨p, vs, e1, h1, h2⟩ := hu.lst s
    subst e1
    exact ⟨p, vs, rfl, .inl (SqL.of h1), q.at s h2⟩
  · cases e
    obtain ⟨p, o, vs, e1, h1, _, _, h2⟩ := hu.ftp s
    subst e1
    exact ⟨p, vs, rfl, .inr (.inl (.inr ⟨o, h1⟩)), q.at s h2⟩
  · cases e
    obtain ⟨p, vs, e1, h1, h2⟩ := hu.tup s
    subst e1
    exact ⟨p, vs, rfl, .inr h1, q.at s h2⟩
  · cases e
def rTupleA (K : PySem.W.Frag) : List V → Hp → VK → Prop := fun xs H Q => ∃ p ys, xs = [.ref p] ∧ ((SqL K H p ys ∧ ∀ l, H l = none → Q (.ref l) (upd H l (.tup ys))) ∨ (SqT K H p ys ∧ Q (.ref p) H))
theorem call_tupleA {X : Cx} : CallR X (.type "tuple") (rTupleA X.K) := call_tuple_of
theorem sem_tuple : SemA K T (rTupleA K) (o1 oTuple) := semA1 fun B G H x d u Q s hu e q => by
  unfold oTuple at e
  split at e
  · cases e
    obtain ⟨p, vs, e1, h1, h2⟩ := hu.lst s
    subst e1
    exact ⟨p, vs, rfl, .inl ⟨SqL.of h1, q.atT s h2⟩⟩
  · cases e
    obtain ⟨p, vs, e1, h1, h2⟩ := hu.tup s
    refine ⟨p, vs, by rw [e1], .inr ⟨h1, ?_⟩⟩
    have := hu.rt
    rw [e1] at this
    exact q.at s this
  · cases e
/-- tuple(a list), remembered as the object it is -/
def rTupleF (K : PySem.W.Frag) : List V → Hp → VK → Prop := fun xs H Q => ∃ p ys, xs = [.ref p] ∧ SqL K H p ys ∧ ∀ l o, H l = none → o.cls = .type "tuple" → o.dict = none → Q (.ref l) (upd H l (.frz o (.tup ys)))
theorem call_tupleF {X : Cx} : CallR X (.type "tuple") (rTupleF X.K) := by
  intro pins s σ H xs us Q I r h
  obtain ⟨p, ys, rfl, hq, q⟩ := h
  obtain ⟨u, rfl, rx⟩ := vals1 r
  cases rx
  obtain ⟨its, r', pl, hz⟩ := I.list hq
  have hlen := r'.length
  refine call_tuple_list pl.isList (fun h' kp => ?_) (by simp only [List.size_toArray] <;> omega)
  have I1 : Inv X pins σ H { s with heap := h' } := I.kept (t' := s.toks) kp
  have I2 : Inv X pins σ (upd H h'.objs.size (.frz { cls := .type "tuple", data := .seq its.toArray } (.tup ys))) { s with heap := h'.push { cls := .type "tuple", data := .seq its.toArray } } :=
    I1.laid (t' := s.toks) (fun b o e => Heap.get?_push_of_some _ e) (Nat.le_refl _) ⟨Heap.get?_push_size _ rfl, hz, its, r', IsTup.new _ _⟩
  exact ⟨.ref h'.objs.size, _, I2, rfl, q _ _ (I1.hok.fresh (Nat.le_refl _)) rfl rfl⟩
theorem sem_tupleF : SemA K T (rTupleF K) (o1 oTupleF) := semA1 fun B G H x d u Q s hu e q => by
  unfold oTupleF at e
  split at e
  · cases e
    obtain ⟨p, vs, e1, h1, h2⟩ := hu.lst s
    subst e1
    refine ⟨p, vs, rfl, SqL.of h1, fun l o hl c1 c2 => ?_⟩
    have s1 : Stp [] G H (upd G l (.frz o (.tup vs))) (upd H l (.frz o (.tup vs))) := Stp.new s hl
    refine q _ _ _ s1 ?_
    unfold Rep
    exact ⟨l, o, vs, rfl, upd_same, c1, c2, h2.mono s1.g⟩
  · cases e
/-! ### all, any -/
theorem bools_rep : ∀ {ds : List D} {vs : List V} {bs : List Bool}, Reps K T G ds vs → bools ds = some bs → vs = bs.map V.bl
  | [], vs, bs, h, e => by
    unfold Reps at h
    subst h
    cases e
    rfl
  | d :: ds, vs, bs, h, e => by
    unfold Reps at h
    obtain ⟨v, r, e1, h1, h2⟩ := h
    cases d with
    | bl c =>
      have e2 : (bools ds).map (c :: ·) = some bs := e
      cases e3 : bools ds with
      | none =>
        rw [e3] at e2
        cases e2
      | some cs =>
        rw [e3] at e2
        cases e2
        unfold Rep at h1
        rw [e1, h1, bools_rep h2 e3]
        rfl
    | _ => cases e
theorem sem_all : SemA K T (rAll K) (o1 oAll) := semA1 fun B G H x d u Q s hu e q => by
  unfold oAll at e
  split at e
  · rename_i xs
    cases e1 : bools xs with
    | none =>
      rw [e1] at e
      cases e
    | some bs =>
      rw [e1] at e
      cases e
      obtain ⟨p, vs, e2, h1, h2⟩ := hu.lst s
      subst e2
      have := bools_rep h2 e1
      subst this
      exact ⟨p, bs, rfl, SqL.of h1, q.at s .bl⟩
  · cases e
theorem sem_any : SemA K T (rAny K) (o1 oAny) := semA1 fun B G H x d u Q s hu e q => by
  unfold oAny at e
  split at e
  · rename_i xs
    cases e1 : bools xs with
    | none =>
      rw [e1] at e
      cases e
    | some bs =>
      rw [e1] at e
      cases e
      obtain ⟨p, vs, e2, h1, h2⟩ := hu.lst s
      subst e2
      have := bools_rep h2 e1
      subst this
      exact ⟨p, bs, rfl, SqL.of h1, q.at s .bl⟩
  · cases e
/-! ### ints -/
def rInt1 : List V → Hp → VK → Prop := fun xs H Q => (∃ i, xs = [.int i] ∧ Q (.int i) H) ∨ ∃ k, xs = [.bl k] ∧ Q (.int (if k then 1 else 0)) H
theorem call_intA {X : Cx} : CallR X (.type "int") rInt1 := call_int1
theorem sem_int : SemA K T rInt1 (o1 oInt) := semA1 fun B G H x d u Q s hu e q => by
  unfold oInt at e
  split at e
  · cases e
    exact .inl ⟨_, by rw [hu.int], q.at s .int⟩
  · cases e
    exact .inr ⟨_, by rw [hu.bl], q.at s .int⟩
  · cases e
def rAbs1 : List V → Hp → VK → Prop := fun xs H Q => ∃ i, xs = [.int i] ∧ Q (.int (if i < 0 then -i else i)) H
theorem call_absA {X : Cx} : CallR X (.builtin "abs") rAbs1 := call_abs
theorem sem_abs : SemA K T rAbs1 (o1 oAbs) := semA1 fun B G H x d u Q s hu e q => by
  unfold oAbs at e
  split at e
  · cases e
    exact ⟨_, by rw [hu.int], q.at s .int⟩
  · cases e
def rMaxA : List V → Hp → VK → Prop := fun xs H Q => ∃ i j, xs = [.int i, .int j] ∧ Q (.int (if j > i then j else i)) H
def rMinA : List V → Hp → VK → Prop := fun xs H Q => ∃ i j, xs = [.int i, .int j] ∧ Q (.int (if j < i then j else i)) H
theorem call_maxA {X : Cx} (hc : X.calm = true) : CallR X (.builtin "max") rMaxA := call_max2 hc
theorem call_minA {X : Cx} (hc : X.calm = true) : CallR X (.builtin "min") rMinA := call_min2 hc
theorem sem_max2 : SemA K T rMaxA (o2 oMax2) := semA2 fun B G H x y d u v Q s hu hv e q => by
  unfold oMax2 at e
  split at e
  · cases e
    exact ⟨_, _, by rw [hu.int, hv.int], q.at s .int⟩
  · cases e
theorem sem_min2 : SemA K T rMinA (o2 oMin2) := semA2 fun B G H x y d u v Q s hu hv e q => by
  unfold oMin2 at e
  split at e
  · cases e
    exact ⟨_, _, by rw [hu.int, hv.int], q.at s .int⟩
  · cases e
theorem sem_sub : Sem2 K T (rI0 fun i j => .int (i - j)) oSub := by
  intro B G H x y d u v Q s hx hy e q
  unfold oSub at e
  split at e
  · cases e
    exact ⟨_, _, hx.int, hy.int, q.at s .int⟩
  · cases e
/-! ### subscripts -/
theorem atD_ix {xs : List D} {i : Int} {d : D} (h : atD xs i = some d) : ∃ j, ixN xs.length i = some j ∧ xs[j]? = some d := by
  unfold atD at h
  unfold ixN
  by_cases h0 : 0 ≤ i
  · rw [if_pos h0] at h ⊢
    have hl := (List.getElem?_eq_some_iff.mp h).1
    exact ⟨i.toNat, by rw [if_pos (by omega)], h⟩
  · rw [if_neg h0] at h ⊢
    by_cases h1 : -(xs.length : Int) ≤ i
    · rw [if_pos h1] at h ⊢
      exact ⟨(i + xs.length).toNat, rfl, by rw [← h, Int.add_comm]⟩
    · rw [if_neg h1] at h
      cases h
theorem at_rep {ds : List D} {vs : List V} {i : Int} {d : D} (r : Reps K T G ds vs) (h : atD ds i = some d) : ∃ v, atI vs i = some v ∧ Rep K T G d v := by
  obtain ⟨j, h1, h2⟩ := atD_ix h
  obtain ⟨v, h3, h4⟩ := r.get h2
  refine ⟨v, ?_, h4⟩
  unfold atI
  rw [r.length, h1]
  exact h3
def rIxA (K : PySem.W.Frag) : R2 := fun x y H Q => rIxL K x y H Q ∨ (rIxT K x y H Q ∨ rIxS x y H Q)
theorem ix_A {X : Cx} : IxR X (rIxA X.K) := ZL.IxR.or ix_list (ZL.IxR.or ix_tup ix_str)
theorem sem_ix : Sem2 K T (rIxA K) oIx := by
  intro B G H x y d u v Q s hx hy e q
  unfold oIx at e
  split at e
  · obtain ⟨p, vs, e1, h1, h2⟩ := hx.lst s
    obtain ⟨w, h3, h4⟩ := at_rep h2 e
    exact .inl ⟨p, vs, _, w, e1, hy.int, SqL.of h1, h3, q.at s h4⟩
  · obtain ⟨p, vs, e1, h1, h2⟩ := hx.tup s
    obtain ⟨w, h3, h4⟩ := at_rep h2 e
    exact .inr (.inl ⟨p, vs, _, w, e1, hy.int, h1, h3, q.at s h4⟩)
  · obtain ⟨p, e1, h1⟩ := hx.scr s
    obtain ⟨j, h3, h4⟩ := atD_ix e
    rw [List.length_map] at h3
    rw [List.getElem?_map] at h4
    rename_i ns i
    cases e5 : ns[j]? with
    | none =>
      rw [e5] at h4
      cases h4
    | some n =>
      rw [e5] at h4
      cases h4
      refine .inl ⟨p, _, _, .int n, e1, hy.int, h1, ?_, q.at s .int⟩
      unfold atI
      rw [List.length_map, h3]
      show (ns.map V.int)[j]? = some (.int n)
      rw [List.getElem?_map, e5]
      rfl
  · split at e
    · rename_i st i hl
      obtain ⟨j, h3, h4⟩ := atD_ix e
      rw [List.length_map] at h3
      rw [List.getElem?_map] at h4
      cases e5 : st[j]? with
      | none =>
        rw [e5] at h4
        cases h4
      | some c =>
        rw [e5] at h4
        cases h4
        refine .inr (.inr ⟨_, _, c.toNat, hx.str, hy.int, by rw [toS_len]; exact lim_line hl, ?_, q.at s .str⟩)
        unfold atI
        rw [toS_cps, List.length_map, h3]
        show (st.map Char.toNat)[j]? = some c.toNat
        rw [List.getElem?_map, e5]
        rfl
    · cases e
  · cases e
/-! ### in -/
theorem any_py : ∀ {x : D} {ys : List D}, pln x = true → plnL ys = true → (toPyL ys).any (fun z => PyData.eqv z (toPy x)) = inD x ys
  | x, [], _, _ => rfl
  | x, y :: ys, hx, hy => by
    simp only [plnL, Bool.and_eq_true] at hy
    have ih := any_py hx hy.2
    unfold inD at ih ⊢
    simp only [toPyL, List.any_cons]
    rw [py_eqv y x hy.1 hx, ih]
theorem shps_pln : ∀ {ys : List D}, ys.all shp = true → plnL ys = true ∧ depL ys ≤ 60
  | [], _ => ⟨rfl, by simp [depL]⟩
  | y :: ys, h => by
    rw [List.all_cons, Bool.and_eq_true] at h
    obtain ⟨h1, h2⟩ := shps_pln h.2
    have h3 := h.1
    unfold shp at h3
    rw [Bool.and_eq_true] at h3
    refine ⟨by simp only [plnL, h3.1, h1]; rfl, ?_⟩
    have := of_decide_eq_true h3.2
    simp only [depL]
    omega
theorem shaped_list {ys : List D} (h : ys.all shp = true) : SeqAt.shaped (.list (toPyL ys)) = true := by
  obtain ⟨h1, h2⟩ := shps_pln h
  unfold SeqAt.shaped
  rw [Bool.and_eq_true]
  refine ⟨by simp [PyData.canLay0, py_layL ys], ?_⟩
  have := py_depL ys
  refine decide_eq_true ?_
  have e : PyData.depth (.list (toPyL ys)) = PyData.depthAll (toPyL ys) + 1 := by simp [PyData.depth]
  omega
theorem flat_rep {x : D} {v : V} (h : flD x = true) (r : Rep K T G x v) : flatV v = true := by
  cases x with
  | non =>
    unfold Rep at r
    rw [r]
    rfl
  | bl c =>
    unfold Rep at r
    rw [r]
    rfl
  | int c =>
    unfold Rep at r
    rw [r]
    rfl
  | str c =>
    unfold Rep at r
    rw [r]
    rfl
  | _ => cases h
theorem flats_rep : ∀ {xs : List D} {vs : List V}, xs.all flD = true → Reps K T G xs vs → vs.all flatV = true
  | [], vs, _, r => by
    unfold Reps at r
    subst r
    rfl
  | x :: xs, vs, h, r => by
    unfold Reps at r
    obtain ⟨v, r', e, h1, h2⟩ := r
    rw [List.all_cons, Bool.and_eq_true] at h
    rw [e, List.all_cons, flat_rep h.1 h1, flats_rep h.2 h2]
    rfl
theorem eqV_rep {x y : D} {u v : V} (hx : flD x = true) (hy : flD y = true) (r : Rep K T G x u) (r' : Rep K T G y v) : eqV v u = eqD y x := by
  cases x <;> first | (cases hx; done) | skip
  all_goals (unfold Rep at r; subst r)
  all_goals (cases y <;> first | (cases hy; done) | skip)
  all_goals (unfold Rep at r'; subst r')
  all_goals first
    | rfl
    | (simp only [eqV, eqD, bI]; done)
    | (simp only [eqV, eqD, bI]; rfl)
    | skip
  rename_i s t
  show (toS t == toS s) = decide (t = s)
  by_cases e : t = s
  · subst e
    simp
  · rw [decide_eq_false e]
    exact beq_eq_false_iff_ne.mpr fun z => e (toS_inj z)
theorem inV_rep {x : D} {u : V} (hx : flD x = true) (r : Rep K T G x u) : ∀ {ys : List D} {vs : List V}, ys.all flD = true → Reps K T G ys vs → inV u vs = inD x ys
  | [], vs, _, h => by
    unfold Reps at h
    subst h
    rfl
  | y :: ys, vs, h, h' => by
    unfold Reps at h'
    obtain ⟨v, r', e, h1, h2⟩ := h'
    rw [List.all_cons, Bool.and_eq_true] at h
    have ih := inV_rep hx r h.2 h2
    unfold inV inD at ih ⊢
    rw [e, List.any_cons, List.any_cons, eqV_rep hx h.1 r h1, ih]
def rInS1 (neg : Bool) : R2 := fun x y H Q => ∃ (c : Nat) (z : Str), x = .str ⟨#[c]⟩ ∧ y = .str z ∧ Q (.bl (if neg then !decide (c ∈ z.cps.toList) else decide (c ∈ z.cps.toList))) H
def rInA (K : PySem.W.Frag) : R2 := fun x y H Q => (∃ (c : Nat) (z : Str), x = .str ⟨#[c]⟩ ∧ y = .str z ∧ Q (.bl (decide (c ∈ z.cps.toList))) H) ∨ (rInD K x y H Q ∨ rIn K false x y H Q)
def rNotInA (K : PySem.W.Frag) : R2 := fun x y H Q => (∃ (c : Nat) (z : Str), x = .str ⟨#[c]⟩ ∧ y = .str z ∧ Q (.bl (!decide (c ∈ z.cps.toList))) H) ∨ (rNotInD K x y H Q ∨ rIn K true x y H Q)
theorem op_inA {X : Cx} (hu : X.A.units + 65 < cLine) : OpR X (compareOp .In) (rInA X.K) := ZL.OpR.or op_in_sign (ZL.OpR.or (op_inD hu) op_in_seq)
theorem op_notInA {X : Cx} (hu : X.A.units + 65 < cLine) : OpR X (compareOp .NotIn) (rNotInA X.K) := ZL.OpR.or op_notIn_sign (ZL.OpR.or (op_notInD hu) op_notIn_seq)
theorem mem_nat {c : Char} : ∀ {t : List Char}, (c.toNat ∈ (toS t).cps.toList) ↔ c ∈ t
  | t => by
    rw [toS_cps, List.mem_map]
    exact ⟨fun ⟨d, h1, h2⟩ => by rw [← charNat_inj h2]; exact h1, fun h => ⟨c, h, rfl⟩⟩
theorem in_cases {x y d : D} (e : oIn x y = some d) : (∃ c t, x = .str [c] ∧ y = .str t ∧ d = .bl (decide (c ∈ t))) ∨ (∃ ys, y = .lst ys ∧ shp x = true ∧ ys.all shp = true ∧ d = .bl (inD x ys)) ∨ (∃ ys, y = .tup ys ∧ flD x = true ∧ ys.all flD = true ∧ d = .bl (inD x ys)) := by
  unfold oIn at e
  split at e
  · cases e
    exact .inl ⟨_, _, rfl, rfl, rfl⟩
  · split at e
    · rename_i h
      rw [Bool.and_eq_true] at h
      cases e
      exact .inr (.inl ⟨_, rfl, h.1, h.2, rfl⟩)
    · cases e
  · split at e
    · rename_i h
      rw [Bool.and_eq_true] at h
      cases e
      exact .inr (.inr ⟨_, rfl, h.1, h.2, rfl⟩)
    · cases e
  · cases e
theorem RepB.flat {x : D} {u : V} (hx : flD x = true) (h : RepB K T B G H x u) : Rep K T G x u := by
  rcases h with h | ⟨p, e, nb, h⟩
  · exact h
  · cases x <;> first | (cases hx; done) | exact h.elim
theorem sem_in : Sem2 K T (rInA K) oIn := by
  intro B G H x y d u v Q s hx hy e q
  rcases in_cases e with ⟨c, t, rfl, rfl, rfl⟩ | ⟨ys, rfl, h1, h2, rfl⟩ | ⟨ys, rfl, h1, h2, rfl⟩
  · refine .inl ⟨c.toNat, toS t, hx.str, hy.str, ?_⟩
    have : decide (c.toNat ∈ (toS t).cps.toList) = decide (c ∈ t) := decide_eq_decide.mpr mem_nat
    rw [this]
    exact q.at s .bl
  · obtain ⟨p, vs, e1, h3, h4⟩ := hy.lst s
    subst e1
    refine .inr (.inl ⟨toPy x, toPyL ys, dpB_of s (shp_pln h1) hx, .lst (SqL.of h3) (dps_of s ys vs (shps_pln h2).1 h4), py_shaped h1, shaped_list h2, ?_⟩)
    rw [any_py (shp_pln h1) (shps_pln h2).1]
    exact q.at s .bl
  · obtain ⟨p, vs, e1, h3, h4⟩ := hy.tup s
    subst e1
    have rx := hx.flat h1
    refine .inr (.inr ⟨p, vs, rfl, .inr h3, flat_rep h1 rx, flats_rep h2 h4, ?_⟩)
    rw [inV_rep h1 rx h2 h4]
    exact q.at s .bl
theorem sem_notIn : Sem2 K T (rNotInA K) oNotIn := by
  intro B G H x y d u v Q s hx hy e q
  unfold oNotIn at e
  cases e0 : oIn x y with
  | none =>
    rw [e0] at e
    cases e
  | some d0 =>
    rw [e0] at e
    rcases in_cases e0 with ⟨c, t, rfl, rfl, rfl⟩ | ⟨ys, rfl, h1, h2, rfl⟩ | ⟨ys, rfl, h1, h2, rfl⟩
    · cases e
      refine .inl ⟨c.toNat, toS t, hx.str, hy.str, ?_⟩
      have : decide (c.toNat ∈ (toS t).cps.toList) = decide (c ∈ t) := decide_eq_decide.mpr mem_nat
      rw [this]
      exact q.at s .bl
    · cases e
      obtain ⟨p, vs, e1, h3, h4⟩ := hy.lst s
      subst e1
      refine .inr (.inl ⟨toPy x, toPyL ys, dpB_of s (shp_pln h1) hx, .lst (SqL.of h3) (dps_of s ys vs (shps_pln h2).1 h4), py_shaped h1, shaped_list h2, ?_⟩)
      rw [any_py (shp_pln h1) (shps_pln h2).1]
      exact q.at s .bl
    · cases e
      obtain ⟨p, vs, e1, h3, h4⟩ := hy.tup s
      subst e1
      have rx := hx.flat h1
      refine .inr (.inr ⟨p, vs, rfl, .inr h3, flat_rep h1 rx, flats_rep h2 h4, ?_⟩)
      rw [inV_rep h1 rx h2 h4]
      exact q.at s .bl
end
end ZL
end
section
set_option Elab.async false
set_option linter.all false
set_option maxRecDepth 100000
namespace ZL
open PySem PySem.Spec PyProof.Rows L2 Z

/-! ### the order of data -/
mutual
theorem py_alike : ∀ a b : D, pln a = true → pln b = true → W.alike (toPy a) (toPy b) = alk a b
  | .non, b, _, hb => by cases b <;> first | (simp [pln] at hb; done) | simp [toPy, W.alike, alk]
  | .bl x, b, _, hb => by cases b <;> first | (simp [pln] at hb; done) | simp [toPy, W.alike, alk]
  | .int x, b, _, hb => by cases b <;> first | (simp [pln] at hb; done) | simp [toPy, W.alike, alk]
  | .str x, b, _, hb => by cases b <;> first | (simp [pln] at hb; done) | simp [toPy, W.alike, alk]
  | .lst xs, b, ha, hb => by
    cases b with
    | lst ys =>
      simp only [pln] at ha hb
      simp only [toPy, W.alike, alk]
      exact py_alikeL xs ys ha hb
    | _ => first | (simp [pln] at hb; done) | simp [toPy, W.alike, alk]
  | .tup xs, b, ha, hb => by
    cases b with
    | tup ys =>
      simp only [pln] at ha hb
      simp only [toPy, W.alike, alk]
      exact py_alikeL xs ys ha hb
    | _ => first | (simp [pln] at hb; done) | simp [toPy, W.alike, alk]
  | .dct _, _, ha, _ => by simp [pln] at ha
  | .set _, _, ha, _ => by simp [pln] at ha
  | .ins _ _, _, ha, _ => by simp [pln] at ha
  | .scr _, _, ha, _ => by simp [pln] at ha
  | .ftp _, _, ha, _ => by simp [pln] at ha
theorem py_alikeL : ∀ xs ys : List D, plnL xs = true → plnL ys = true → W.alikeAll (toPyL xs) (toPyL ys) = alkL xs ys
  | [], [], _, _ => by simp [toPyL, W.alikeAll, alkL]
  | [], _ :: _, _, _ => by simp [toPyL, W.alikeAll, alkL]
  | _ :: _, [], _, _ => by simp [toPyL, W.alikeAll, alkL]
  | x :: xs, y :: ys, ha, hb => by
    simp only [plnL, Bool.and_eq_true] at ha hb
    simp only [toPyL, W.alikeAll, alkL]
    rw [py_alike x y ha.1 hb.1, py_alikeL xs ys ha.2 hb.2]
end
theorem char_lt {a b : Char} : a < b ↔ a.toNat < b.toNat := Iff.rfl
theorem map_lt : ∀ {s t : List Char}, (s.map Char.toNat < t.map Char.toNat) ↔ s < t
  | [], [] => by simp
  | [], _ :: _ => by simp
  | _ :: _, [] => by simp
  | a :: s, b :: t => by
    rw [List.map_cons, List.map_cons, List.cons_lt_cons_iff, List.cons_lt_cons_iff, map_lt, char_lt]
    constructor
    · rintro (h | ⟨h, h'⟩)
      · exact .inl h
      · exact .inr ⟨charNat_inj h, h'⟩
    · rintro (h | ⟨h, h'⟩)
      · exact .inl h
      · exact .inr ⟨by rw [h], h'⟩
mutual
theorem py_lt : ∀ a b : D, pln a = true → pln b = true → alk a b = true → W.dataLt (toPy a) (toPy b) = ltD a b
  | .non, b, _, hb, h => by
    cases b <;> first | (simp [alk] at h; done) | skip
    simp [toPy, ltD]
    rfl
  | .bl x, b, _, hb, h => by
    cases b <;> first | (simp [alk] at h; done) | skip
    simp only [toPy, ltD, bI]
    rw [W.dataLt_bool]
    rfl
  | .int x, b, _, hb, h => by
    cases b <;> first | (simp [alk] at h; done) | skip
    simp only [toPy, ltD]
    rw [W.dataLt_int]
  | .str x, b, _, hb, h => by
    cases b <;> first | (simp [alk] at h; done) | skip
    simp only [toPy, ltD]
    rw [W.dataLt_str, toS_cps, toS_cps]
    exact decide_eq_decide.mpr map_lt
  | .lst xs, b, ha, hb, h => by
    cases b <;> first | (simp [alk] at h; done) | skip
    simp only [pln, alk] at ha hb h
    simp only [toPy, ltD]
    rw [W.dataLt_list]
    exact py_ltL xs _ ha hb h
  | .tup xs, b, ha, hb, h => by
    cases b <;> first | (simp [alk] at h; done) | skip
    simp only [pln, alk] at ha hb h
    simp only [toPy, ltD]
    rw [W.dataLt_tuple]
    exact py_ltL xs _ ha hb h
  | .dct _, _, ha, _, _ => by simp [pln] at ha
  | .set _, _, ha, _, _ => by simp [pln] at ha
  | .ins _ _, _, ha, _, _ => by simp [pln] at ha
  | .scr _, _, ha, _, _ => by simp [pln] at ha
  | .ftp _, _, ha, _, _ => by simp [pln] at ha
theorem py_ltL : ∀ xs ys : List D, plnL xs = true → plnL ys = true → alkL xs ys = true → PyProof.Rows.lexLt PyProof.Rows.itemOrd (W.keyToksAll (toPyL xs)) (W.keyToksAll (toPyL ys)) = ltL xs ys
  | [], [], _, _, _ => by
    simp only [toPyL, ltL]
    exact lex_irrefl _
  | [], y :: ys, _, _, _ => by
    simp only [toPyL, ltL, W.keyToksAll]
    rfl
  | x :: xs, [], _, _, _ => by
    simp only [toPyL, ltL, W.keyToksAll]
    rfl
  | x :: xs, y :: ys, ha, hb, h => by
    simp only [plnL, alkL, Bool.and_eq_true] at ha hb h
    simp only [toPyL, ltL]
    rw [PySem.W.dataLt_cons (by rw [py_alike x y ha.1 hb.1]; exact h.1), py_eqv x y ha.1 hb.1, py_ltL xs ys ha.2 hb.2 h.2, py_lt x y ha.1 hb.1 h.1]
end
/-! ### sorted -/
def rSortD (K : PySem.W.Frag) : List V → Hp → VK → Prop := fun vs H Q => ∃ (a : Addr) (xs : List V) (zs : List PyData), vs = [V.ref a] ∧ (SqL K H a xs) ∧ DpAll K H xs zs ∧ W.AllAlike zs ∧ W.Sortable zs ∧ (∀ z ∈ zs, z.depth ≤ 64) ∧
  ∀ (p : Addr), H p = none → Q (.ref p) (upd H p (.lst (((xs.zip zs).mergeSort (W.dataLe false Prod.snd)).map Prod.fst)))
theorem dpAll_len {K : PySem.W.Frag} {H : Hp} : ∀ {xs : List V} {zs : List PyData}, DpAll K H xs zs → xs.length = zs.length
  | [], _, h => by
    cases h
    rfl
  | x :: xs, _, h => by
    cases h with
    | cons h1 h2 => rw [List.length_cons, List.length_cons, dpAll_len h2]
section
variable {X : Cx} {pins : List (Addr × Obj)} {σ : L2.St} {H : Hp} {s : Shared}
theorem each_vals : ∀ {xs : List V} {zs : List PyData} {us : List Value}, Vals xs us → xs.length = zs.length → W.EachIs (fun u (b : V × PyData) => RelV b.1 u) us (xs.zip zs)
  | [], [], _, .nil, _ => .nil
  | x :: xs, z :: zs, _, .cons r t, h => .cons r (each_vals t (by simpa using h))
  | [], _ :: _, _, _, h => by simp at h
  | _ :: _, [], _, _, h => by simp at h
theorem each_reads (I : Inv X pins σ H s) : ∀ {xs : List V} {zs : List PyData} {us : List Value}, Vals xs us → DpAll X.K H xs zs → W.EachIs (fun u (b : V × PyData) => ∃ as, PySem.Reads s.heap u b.2 as) us (xs.zip zs)
  | [], [], _, .nil, _ => .nil
  | x :: xs, z :: zs, _, .cons r t, .cons h1 h2 => .cons (Dp.reads I z x _ h1 r) (each_reads I t h2)
theorem vals_each : ∀ {bs : List (V × PyData)} {us : List Value}, W.EachIs (fun u (b : V × PyData) => RelV b.1 u) us bs → Vals (bs.map Prod.fst) us
  | [], _, .nil => .nil
  | b :: bs, _, .cons r t => .cons r (vals_each t)
end
theorem cr_sortD {X : Cx} (hu : X.A.units + 70 < cLine) : CallR X (.builtin "sorted") (rSortD X.K) := by
  intro pins s σ H vs us Q I r h
  obtain ⟨a, xs, zs, rfl, hs, hd, hal, hso, hdep, q⟩ := h
  obtain ⟨its, rv, hl, hz⟩ := I.list hs
  rw [Vals.ref1 r]
  have hlen := dpAll_len hd
  have hsnd : (xs.zip zs).map Prod.snd = zs := List.map_snd_zip (by omega)
  refine W.sorted_data (enc := Prod.snd) hl.isList (each_vals rv hlen) (each_reads I rv hd) (by rw [hsnd]; exact hal) (by rw [hsnd]; exact hso) (by rw [List.length_zip]; omega) (fun b hb => ?_) fun out h1 h2 => ?_
  · have := hdep b.2 (by rw [← hsnd]; exact List.mem_map.mpr ⟨b, hb, rfl⟩)
    omega
  · obtain ⟨ep, he'⟩ := PyProof.Rows.sortedAll_at s.heap its out.toArray
    have hv := vals_each h2
    have hl2 : (((xs.zip zs).mergeSort (W.dataLe false Prod.snd)).map Prod.fst).length ≤ sizeLine := by
      rw [List.length_map, List.length_mergeSort, List.length_zip]
      omega
    exact ⟨.ref _, upd H (s.heap.objs.size + 1) (.lst (((xs.zip zs).mergeSort (W.dataLe false Prod.snd)).map Prod.fst)), I.laid (t' := s.toks) (fun _ _ => PyProof.Rows.sortedAll_old) (Nat.le_succ _) ⟨hl2, out, ep, hv, he'⟩, rfl, q _ (I.hok.fresh (Nat.le_succ _))⟩
section
variable {K : PySem.W.Frag} {T : Tb} {G H : Hp}
theorem sortable_of {ds : List D} (h : sortable ds = true) : (∀ x ∈ ds, ∀ y ∈ ds, alk x y = true) ∧ (∀ x ∈ ds, pln x = true) ∧ (∀ x ∈ ds, dep x ≤ 60) ∧ ((∀ x ∈ ds, ∃ y r, x = .tup (y :: r)) ∨ (∀ x ∈ ds, x ≠ .non ∧ ∀ r, x ≠ .tup r)) ∧ ds.length ≤ lim := by
  unfold sortable at h
  simp only [Bool.and_eq_true, Bool.or_eq_true, List.all_eq_true, decide_eq_true_eq] at h
  obtain ⟨⟨⟨⟨h1, h2⟩, h3⟩, h4⟩, h5⟩ := h
  refine ⟨h1, h2, h3, ?_, h5⟩
  rcases h4 with h4 | h4
  · left
    intro x hx
    have := h4 x hx
    split at this
    · exact ⟨_, _, rfl⟩
    · cases this
  · right
    intro x hx
    have := h4 x hx
    constructor
    · rintro rfl
      simp at this
    · rintro r rfl
      simp at this
theorem plnL_of : ∀ {ds : List D}, (∀ x ∈ ds, pln x = true) → plnL ds = true
  | [], _ => rfl
  | x :: xs, h => by
    simp only [plnL, h x List.mem_cons_self, plnL_of (ds := xs) fun y hy => h y (List.mem_cons_of_mem _ hy)]
    rfl
theorem reps_zip : ∀ {ds : List D} {vs : List V}, Reps K T G ds vs → ∀ p ∈ vs.zip ds, Rep K T G p.2 p.1
  | [], vs, h => by
    unfold Reps at h
    subst h
    simp
  | d :: ds, vs, h => by
    unfold Reps at h
    obtain ⟨v, r, e, h1, h2⟩ := h
    subst e
    intro p hp
    rw [List.zip_cons_cons] at hp
    rcases List.mem_cons.mp hp with z | z
    · rw [z]
      exact h1
    · exact reps_zip h2 p z
theorem reps_maps : ∀ {L : List (V × D)}, (∀ p ∈ L, Rep K T G p.2 p.1) → Reps K T G (L.map Prod.snd) (L.map Prod.fst)
  | [], _ => .nil
  | p :: L, h => .cons (h p List.mem_cons_self) (reps_maps fun q hq => h q (List.mem_cons_of_mem _ hq))
theorem zip_py : ∀ {vs : List V} {ds : List D}, vs.zip (toPyL ds) = (vs.zip ds).map fun p => (p.1, toPy p.2)
  | [], _ => by simp
  | _ :: _, [] => by simp [toPyL]
  | v :: vs, d :: ds => by simp [toPyL, zip_py (vs := vs) (ds := ds)]
/-- the sorted values stand for the sorted data -/
theorem sorted_reps {ds : List D} {vs : List V} (h : sortable ds = true) (r : Reps K T G ds vs) : Reps K T G (sortL ds) (((vs.zip (toPyL ds)).mergeSort (W.dataLe false Prod.snd)).map Prod.fst) := by
  obtain ⟨h1, h2, h3, h4, h5⟩ := sortable_of h
  have hl := r.length
  have mem : ∀ p ∈ vs.zip ds, p.2 ∈ ds := fun p hp => (List.of_mem_zip hp).2
  have e1 : (vs.zip (toPyL ds)).mergeSort (W.dataLe false Prod.snd) = ((vs.zip ds).mergeSort (fun p q => leD p.2 q.2)).map fun p => (p.1, toPy p.2) := by
    rw [zip_py]
    refine (W.sort_maps (fun p : V × D => (p.1, toPy p.2)) fun p hp q hq => ?_).symm
    show leD p.2 q.2 = !W.dataLt (toPy q.2) (toPy p.2)
    rw [py_lt _ _ (h2 _ (mem q hq)) (h2 _ (mem p hp)) (h1 _ (mem q hq) _ (mem p hp))]
    rfl
  have e2 : sortL ds = ((vs.zip ds).mergeSort (fun p q => leD p.2 q.2)).map Prod.snd := by
    have e3 : (vs.zip ds).map Prod.snd = ds := List.map_snd_zip (by omega)
    rw [W.sort_maps (s := leD) Prod.snd (fun _ _ _ _ => rfl), e3]
    rfl
  rw [e1, e2, List.map_map]
  exact reps_maps fun p hp => reps_zip r p ((List.mergeSort_perm _ _).mem_iff.mp hp)
theorem sem_sorted : SemAF K T (rSortD K) (o1 oSorted) := semA1F fun B G H x d u Q s hu e q => by
  unfold oSorted at e
  split at e
  · split at e
    · rename_i xs h
      cases e
      obtain ⟨p, vs, e1, k1, k2⟩ := hu.lst s
      subst e1
      obtain ⟨h1, h2, h3, h4, h5⟩ := sortable_of h
      refine ⟨p, vs, toPyL xs, rfl, SqL.of k1, dps_of s xs vs (plnL_of h2) k2, ?_, ?_, ?_, q.at s (sorted_reps h k2)⟩
      · rw [toPyL_map]
        intro d hd d' hd'
        obtain ⟨y, hy, rfl⟩ := List.mem_map.mp hd
        obtain ⟨y', hy', rfl⟩ := List.mem_map.mp hd'
        rw [py_alike _ _ (h2 y hy) (h2 y' hy')]
        exact h1 y hy y' hy'
      · rw [toPyL_map]
        rcases h4 with h4 | h4
        · left
          intro d hd
          obtain ⟨y, hy, rfl⟩ := List.mem_map.mp hd
          obtain ⟨z, r, rfl⟩ := h4 y hy
          exact ⟨toPy z, toPyL r, by simp only [toPy, toPyL]⟩
        · right
          intro d hd
          obtain ⟨y, hy, rfl⟩ := List.mem_map.mp hd
          obtain ⟨k3, k4⟩ := h4 y hy
          have k5 := h2 y hy
          cases y with
          | non => exact absurd rfl k3
          | tup r => exact absurd rfl (k4 r)
          | bl c => simp [toPy]
          | int c => simp [toPy]
          | str c => simp [toPy]
          | lst c => simp [toPy]
          | _ => simp [pln] at k5
      · rw [toPyL_map]
        intro z hz
        obtain ⟨y, hy, rfl⟩ := List.mem_map.mp hz
        have := h3 y hy
        have := py_dep y
        omega
    · cases e
  · cases e
end
end ZL
end
section
set_option Elab.async false
set_option linter.all false
set_option maxRecDepth 100000
namespace ZL
open PySem PySem.Spec PyProof.Rows L2 Z

section
variable {K : PySem.W.Frag} {T : Tb} {fl : List Flg} {W : XK} {X : Cx} {a b c e o : Expr} {es : List Expr} {x : Str} {p pos apos : Pos} {F Fa Fb Fc : Z.Ex} {Fs : Z.Exs} {i : Nat}
/-! ### isinstance of a built-in class -/
/-- what isinstance answers for the classes that data have -/
def isiTab (Tn : String) (g : D → Option D) : Prop := ∀ d r, g d = some r → (match d with
  | .non => ∃ c, r = .bl c ∧ kitB "NoneType" Tn = some c
  | .bl _ => ∃ c, r = .bl c ∧ kitB "bool" Tn = some c
  | .int _ => ∃ c, r = .bl c ∧ kitB "int" Tn = some c
  | .str _ => ∃ c, r = .bl c ∧ kitB "str" Tn = some c
  | .lst _ => ∃ c, r = .bl c ∧ kitB "list" Tn = some c
  | .tup _ => ∃ c, r = .bl c ∧ kitB "tuple" Tn = some c
  | .dct _ => ∃ c, r = .bl c ∧ kitB "dict" Tn = some c
  | _ => False)
theorem tup_ty {H : Hp} {p : Addr} {vs : List V} (h : SqT K H p vs) : TyX K H (.ref p) (.type "tuple") := by
  rcases h with (h | ⟨o, h⟩) | ⟨o, its, n, h1, h2, _⟩
  · exact .base (.tup h)
  · exact .fTuple h
  · exact .kTuple h1 h2
theorem de_isi {Tn : String} {g : D → Option D} (ht : isiTab Tn g) (ha : PE X a (tB K T W fl Fa)) (hb : PE X b (tC (.ty Tn))) (hK : X.K = K) (hg : Gl X "isinstance") (hm : X.mg "isinstance" = none)
    (he : starEach (a :: [b]) X.env = (false, eval a X.env) :: starEach [b] X.env := by rfl) (he2 : starEach (b :: []) X.env = (false, eval b X.env) :: starEach [] X.env := by rfl) (hpl : (backTo pos (starEach [b] X.env)).any (·.1) = false := by rfl) :
    PE X (.Call (.Name "isinstance" p) [a, b] [] pos) (tE K T W fl (x1 g Fa)) := by
  subst hK
  refine PE.le (pe_callB call_isi hg hm (by decide +kernel) (pa_cons ha (pa_cons hb pa_nil he2) he) (he := he) (hpl := hpl)) fun σ H Q ⟨B, C, G0, H0, G, env, b, gd, q⟩ => tB_then gd q fun d b1 G1 H1 v s hb r g1 q => ?_
  obtain ⟨d', e, q⟩ := q.opt
  have fin : ∀ (t : Value) (cc : Bool), TyX X.K H1 v t → PySem.W.kitOne X.K t (.type Tn) = some cc → d' = .bl cc → rIsi X.K [v, .ty Tn] H1 Q := fun t cc h1 h2 h3 => by
    subst h3
    exact ⟨v, .ty Tn, t, .type Tn, cc, rfl, .ty Tn, h1, h2, q G1 H1 _ s hb .bl⟩
  have tt := ht d d' e
  cases d with
  | non =>
    obtain ⟨cc, e1, e2⟩ := tt
    have := r.non
    subst this
    exact fin _ cc (.base .non) (kit_ty e2) e1
  | bl z =>
    obtain ⟨cc, e1, e2⟩ := tt
    have := r.bl
    subst this
    exact fin _ cc (.base (.bl _)) (kit_ty e2) e1
  | int z =>
    obtain ⟨cc, e1, e2⟩ := tt
    have := r.int
    subst this
    exact fin _ cc (.base (.int _)) (kit_ty e2) e1
  | str z =>
    obtain ⟨cc, e1, e2⟩ := tt
    have := r.str
    subst this
    exact fin _ cc (.base (.str _)) (kit_ty e2) e1
  | lst z =>
    obtain ⟨cc, e1, e2⟩ := tt
    obtain ⟨p, vs, e3, h1, h2⟩ := r.lst s.i
    subst e3
    exact fin _ cc (.base (.lst h1)) (kit_ty e2) e1
  | tup z =>
    obtain ⟨cc, e1, e2⟩ := tt
    obtain ⟨p, vs, e3, h1, h2⟩ := r.tup s.i
    subst e3
    exact fin _ cc (tup_ty h1) (kit_ty e2) e1
  | dct z =>
    obtain ⟨cc, e1, e2⟩ := tt
    have : ∃ p ks, v = .ref p ∧ H1 p = some (.dK ks) := by
      rcases r with h | ⟨p, e, nb, h⟩
      · unfold Rep at h
        obtain ⟨a, ks, h1, h2, _⟩ := h
        exact ⟨a, ks, h1, s.i _ _ h2⟩
      · obtain ⟨ks, h1, _⟩ := h
        exact ⟨p, ks, e, h1⟩
    obtain ⟨p, ks, e3, h1⟩ := this
    subst e3
    exact fin _ cc (.base (.dK h1)) (kit_ty e2) e1
  | _ => exact tt.elim
theorem tab_of {Tn : String} {g : D → Option D} (h0 : ∀ r, g .non = some r → ∃ c, r = .bl c ∧ kitB "NoneType" Tn = some c) (h1 : ∀ z r, g (.bl z) = some r → ∃ c, r = .bl c ∧ kitB "bool" Tn = some c) (h2 : ∀ z r, g (.int z) = some r → ∃ c, r = .bl c ∧ kitB "int" Tn = some c)
    (h3 : ∀ z r, g (.str z) = some r → ∃ c, r = .bl c ∧ kitB "str" Tn = some c) (h4 : ∀ z r, g (.lst z) = some r → ∃ c, r = .bl c ∧ kitB "list" Tn = some c) (h5 : ∀ z r, g (.tup z) = some r → ∃ c, r = .bl c ∧ kitB "tuple" Tn = some c)
    (h6 : ∀ z r, g (.dct z) = some r → ∃ c, r = .bl c ∧ kitB "dict" Tn = some c) (h7 : ∀ z, g (.set z) = none) (h8 : ∀ k z, g (.ins k z) = none) (h9 : ∀ z, g (.scr z) = none) (h10 : ∀ z, g (.ftp z) = none) : isiTab Tn g := by
  intro d r e
  cases d with
  | non => exact h0 r e
  | bl z => exact h1 z r e
  | int z => exact h2 z r e
  | str z => exact h3 z r e
  | lst z => exact h4 z r e
  | tup z => exact h5 z r e
  | dct z => exact h6 z r e
  | set z =>
    rw [h7] at e
    cases e
  | ins k z =>
    rw [h8] at e
    cases e
  | scr z =>
    rw [h9] at e
    cases e
  | ftp z =>
    rw [h10] at e
    cases e
theorem tab_str : isiTab "str" isStr := tab_of (fun r e => ⟨false, by cases e; rfl, by decide +kernel⟩) (fun z r e => ⟨false, by cases e; rfl, by decide +kernel⟩) (fun z r e => ⟨false, by cases e; rfl, by decide +kernel⟩) (fun z r e => ⟨true, by cases e; rfl, by decide +kernel⟩) (fun z r e => ⟨false, by cases e; rfl, by decide +kernel⟩) (fun z r e => ⟨false, by cases e; rfl, by decide +kernel⟩) (fun z r e => ⟨false, by cases e; rfl, by decide +kernel⟩) (fun _ => rfl) (fun _ _ => rfl) (fun _ => rfl) (fun _ => rfl)
theorem tab_tup : isiTab "tuple" isTup := tab_of (fun r e => ⟨false, by cases e; rfl, by decide +kernel⟩) (fun z r e => ⟨false, by cases e; rfl, by decide +kernel⟩) (fun z r e => ⟨false, by cases e; rfl, by decide +kernel⟩) (fun z r e => ⟨false, by cases e; rfl, by decide +kernel⟩) (fun z r e => ⟨false, by cases e; rfl, by decide +kernel⟩) (fun z r e => ⟨true, by cases e; rfl, by decide +kernel⟩) (fun z r e => ⟨false, by cases e; rfl, by decide +kernel⟩) (fun _ => rfl) (fun _ _ => rfl) (fun _ => rfl) (fun _ => rfl)
theorem tab_lst : isiTab "list" isLst := tab_of (fun r e => ⟨false, by cases e; rfl, by decide +kernel⟩) (fun z r e => ⟨false, by cases e; rfl, by decide +kernel⟩) (fun z r e => ⟨false, by cases e; rfl, by decide +kernel⟩) (fun z r e => ⟨false, by cases e; rfl, by decide +kernel⟩) (fun z r e => ⟨true, by cases e; rfl, by decide +kernel⟩) (fun z r e => ⟨false, by cases e; rfl, by decide +kernel⟩) (fun z r e => ⟨false, by cases e; rfl, by decide +kernel⟩) (fun _ => rfl) (fun _ _ => rfl) (fun _ => rfl) (fun _ => rfl)
theorem tab_int : isiTab "int" isInt := tab_of (fun r e => ⟨false, by cases e; rfl, by decide +kernel⟩) (fun z r e => ⟨true, by cases e; rfl, by decide +kernel⟩) (fun z r e => ⟨true, by cases e; rfl, by decide +kernel⟩) (fun z r e => ⟨false, by cases e; rfl, by decide +kernel⟩) (fun z r e => ⟨false, by cases e; rfl, by decide +kernel⟩) (fun z r e => ⟨false, by cases e; rfl, by decide +kernel⟩) (fun z r e => ⟨false, by cases e; rfl, by decide +kernel⟩) (fun _ => rfl) (fun _ _ => rfl) (fun _ => rfl) (fun _ => rfl)
theorem tab_bool : isiTab "bool" isBool := tab_of (fun r e => ⟨false, by cases e; rfl, by decide +kernel⟩) (fun z r e => ⟨true, by cases e; rfl, by decide +kernel⟩) (fun z r e => ⟨false, by cases e; rfl, by decide +kernel⟩) (fun z r e => ⟨false, by cases e; rfl, by decide +kernel⟩) (fun z r e => ⟨false, by cases e; rfl, by decide +kernel⟩) (fun z r e => ⟨false, by cases e; rfl, by decide +kernel⟩) (fun z r e => ⟨false, by cases e; rfl, by decide +kernel⟩) (fun _ => rfl) (fun _ _ => rfl) (fun _ => rfl) (fun _ => rfl)

/-! ### join -/
theorem strs_rep {G : Hp} : ∀ {ds : List D} {vs : List V} {ys : List (List Char)}, Reps K T G ds vs → strL ds = some ys → vs = (ys.map toS).map V.str
  | [], vs, ys, h, e => by
    unfold Reps at h
    subst h
    cases e
    rfl
  | d :: ds, vs, ys, h, e => by
    unfold Reps at h
    obtain ⟨v, r, e1, h1, h2⟩ := h
    cases d with
    | str s =>
      have e2 : (strL ds).map (s :: ·) = some ys := e
      cases e3 : strL ds with
      | none =>
        rw [e3] at e2
        cases e2
      | some cs =>
        rw [e3] at e2
        cases e2
        unfold Rep at h1
        rw [e1, h1, strs_rep h2 e3]
        rfl
    | _ => cases e
theorem toS_emp : toS [] = Str.empty := rfl
theorem join_toS (sep : List Char) : ∀ ys : List (List Char), Txt.join (toS sep) (ys.map toS) = toS (joinS sep ys)
  | [] => by
    rw [TL.join_eq]
    rfl
  | [x] => by
    rw [TL.join_eq]
    rfl
  | x :: z :: r => by
    rw [TL.join_eq]
    show toS x ++ toS sep ++ Str.join (toS sep) ((z :: r).map toS) = toS (x ++ sep ++ joinS sep (z :: r))
    rw [← TL.join_eq, join_toS sep (z :: r), toS_app, toS_app]
theorem sum_toS : ∀ ys : List (List Char), ((ys.map toS).map (·.length)).sum = (ys.map List.length).sum
  | [] => rfl
  | y :: ys => by
    rw [List.map_cons, List.map_cons, List.sum_cons, List.map_cons, List.sum_cons, sum_toS ys, toS_len]
theorem join_inv {sep : List Char} {y d : D} (h : oJoin (.str sep) y = some d) : ∃ xs ys, y = .lst xs ∧ strL xs = some ys ∧ (ys.map List.length).sum + ys.length * sep.length ≤ lim ∧ d = .str (joinS sep ys) := by
  cases y with
  | lst xs =>
    have h : ((strL xs).bind fun ys => if (ys.map List.length).sum + ys.length * sep.length ≤ lim then some (D.str (joinS sep ys)) else none) = some d := h
    cases e3 : strL xs with
    | none =>
      rw [e3] at h
      cases h
    | some ys =>
      rw [e3] at h
      have h : (if (ys.map List.length).sum + ys.length * sep.length ≤ lim then some (D.str (joinS sep ys)) else none) = some d := h
      split at h
      · rename_i hl
        cases h
        exact ⟨xs, ys, rfl, e3, hl, rfl⟩
      · cases h
  | _ => cases h
theorem de_join {sep : List Char} (ha : PE X o (tC (.str (toS sep)))) (hb : PE X e (tB K T W fl Fb)) (hK : X.K = K) (hs : starEach [e] X.env = [(false, eval e X.env)] := by rfl) (hbase : attributeBase o "join" X.env (eval o X.env) = eval o X.env := by rfl) (hline : (apos.endLine == pos.line) = true := by rfl) :
    PE X (.Call (.Attribute o "join" apos) [e] [] pos) (tE K T W fl (x2 oJoin (xC (.str sep)) Fb)) := by
  subst hK
  refine PE.le (pe_join ha hb hs hbase hline) fun σ H Q ⟨B, C, G0, H0, G, env, b, gd, q⟩ => ⟨⟨toS sep, rfl⟩, ?_⟩
  have q : oW _ _ (M.bnd (Fb env) (fun y => M.opt (oJoin (.str sep) y)) b) := q
  refine tB_then gd q fun d b1 G1 H1 v s hb r g1 q => ?_
  obtain ⟨d', e, q⟩ := q.opt
  obtain ⟨xs, ys, rfl, e3, hl, rfl⟩ := join_inv e
  obtain ⟨p, vs, e4, k1, k2⟩ := r.lst s.i
  subst e4
  have := strs_rep k2 e3
  subst this
  refine ⟨_, p, ys.map toS, rfl, rfl, .inl (SqL.of k1), ?_, ?_⟩
  · rw [sum_toS, List.length_map, toS_len]
    exact Nat.le_trans hl (by decide)
  · rw [join_toS]
    exact q G1 H1 _ s hb .str
/-! ### one part of an f-string behind a written text: f'n{..}' -/
theorem toStr_int (i : Int) : (toString i : String) = String.ofList (strI i) := by
  unfold strI
  simp
theorem de_fmt {pre : List Char} {c1 : Expr} {fpos : Pos} (h1 : PE X c1 (tC (.str (toS pre)))) (hb : PE X e (tE K T W fl F)) (hp : pre.length ≤ 1000) : PE X (.JoinedStr [c1, .FormattedValue e (-1) none fpos] pos) (tE K T W fl (x1 (oFmt pre) F)) :=
  PE.le (pe_joined (.cons h1 (.cons (pe_fmt hb) .nil))) fun σ H Q ⟨B, C, G0, H0, G, env, b, gd, q⟩ => by
    have l0 : (Str.empty ++ toS pre) = toS pre := by
      show Str.append Str.empty (toS pre) = toS pre
      simp [Str.append, toS, Str.empty]
    refine ⟨toS pre, rfl, by rw [l0, toS_len]; exact Nat.le_trans hp (by decide), tE_then gd q fun d b1 G1 H1 v s hb r g1 q => ?_⟩
    obtain ⟨d', e, q⟩ := q.opt
    unfold oFmt at e
    split at e
    · rename_i i
      split at e
      · rename_i hl
        cases e
        have := r
        unfold Rep at this
        subst this
        have e5 : ((toString i : String) : Str) = toS (strI i) := by
          rw [toStr_int]
          exact toS_of _
        refine .inr ⟨i, rfl, ?_, toS (strI i), by rw [← e5], ?_, ?_⟩
        · have : i.natAbs.log2 ≤ i.natAbs := Nat.log2_le_self _
          have h2 : i.natAbs < 2 ^ 20 := Nat.lt_of_lt_of_le hl.1 (by decide)
          have h3 : i.natAbs.log2 < 20 := by
            by_cases z : i.natAbs = 0
            · rw [z]
              decide
            · exact (Nat.log2_lt z).mpr h2
          omega
        · rw [l0, toS_app, toS_len, List.length_append]
          have := hl.2
          rw [sizeLine_eq]
          omega
        · show Q (.str (Str.empty ++ toS pre ++ toS (strI i))) H1
          rw [l0, toS_app]
          exact q G1 H1 _ s hb .str
      · cases e
    · split at e
      · rename_i st hl
        cases e
        have := r
        unfold Rep at this
        subst this
        refine .inl ⟨toS st, rfl, ?_, toS st, rfl, ?_, ?_⟩
        · rw [toS_len]
          exact lim_line (by omega)
        · rw [l0, toS_app, toS_len, List.length_append]
          exact lim_line hl
        · show Q (.str (Str.empty ++ toS pre ++ toS st)) H1
          rw [l0, toS_app]
          exact q G1 H1 _ s hb .str
      · cases e
    · cases e
end
end ZL
end
section
set_option Elab.async false
set_option linter.all false
set_option maxRecDepth 100000
/-! LAYER, sets 0: the set as an object of values; what a mode of adding gives; set(list) under any mode. -/
namespace ZL
open PySem PySem.Spec PyProof.Rows L2 Z

abbrev newSetO (w : World) : Obj := { cls := .type "set", dict := none, data := .set #[] 0 (.fresh 0 0 (!w.params.followText "set-order")) }
/-- at a stands a set of the values vs, in some order -/
def SetV (w : World) (h : Heap) (a : Addr) (vs : List Value) : Prop :=
  ∃ o es ep t, h.get? a = some o ∧ o.ExactSet ∧ o.data = .set es ep t ∧ (es.toList.map (·.2)).Perm vs ∧ t.fits es.size = true ∧ Ris t.place.toList ∧
    (w.params.followText "set-order" = true ∨ t.led = true) ∧ es.size < scanBound
theorem SetV.at {w : World} {h h' : Heap} {a : Addr} {vs : List Value} (x : SetV w h a vs) (k : ∀ o, h.get? a = some o → h'.get? a = some o) : SetV w h' a vs := by
  obtain ⟨o, es, ep, t, ho, r⟩ := x
  exact ⟨o, es, ep, t, k o ho, r⟩

section
variable {α : Type}
open Classical in
/-- one more, where no like datum is -/
noncomputable def pile1 (L : List (α × D)) (p : α × D) : List (α × D) := if p.2 ∈ L.map (·.2) then L else p :: L
noncomputable def pile : List (α × D) → List (α × D) → List (α × D) := List.foldl pile1
theorem pile1_perm {L M : List (α × D)} (h : L.Perm M) (p : α × D) : (pile1 L p).Perm (pile1 M p) := by
  unfold pile1
  have e : p.2 ∈ L.map (·.2) ↔ p.2 ∈ M.map (·.2) := (h.map _).mem_iff
  by_cases c : p.2 ∈ L.map (·.2)
  · rw [if_pos c, if_pos (e.mp c)]
    exact h
  · rw [if_neg c, if_neg (fun z => c (e.mpr z))]
    exact h.cons p
theorem pile1_len (L : List (α × D)) (p : α × D) : L.length ≤ (pile1 L p).length := by
  unfold pile1
  split
  · exact Nat.le_refl _
  · exact Nat.le_succ _
theorem pile_len : ∀ (ps L : List (α × D)), L.length ≤ (pile L ps).length
  | [], _ => Nat.le_refl _
  | p :: ps, L => Nat.le_trans (pile1_len L p) (pile_len ps (pile1 L p))
theorem pile_take (ks : List (α × D)) (i : Nat) : (pile [] (ks.take i)).length ≤ (pile [] ks).length := by
  have e : pile [] ks = pile (pile [] (ks.take i)) (ks.drop i) := by
    unfold pile
    rw [← List.foldl_append, List.take_append_drop]
  rw [e]
  exact pile_len _ _
theorem pile_succ {ks : List (α × D)} {i : Nat} {p : α × D} (h : ks[i]? = some p) : pile [] (ks.take (i + 1)) = pile1 (pile [] (ks.take i)) p := by
  unfold pile
  rw [List.take_succ, h, List.foldl_append]
  rfl

theorem pile1_sub {L : List (α × D)} {p q : α × D} (h : q ∈ pile1 L p) : q ∈ L ∨ q = p := by
  unfold pile1 at h
  split at h
  · exact .inl h
  · rcases List.mem_cons.mp h with z | z
    · exact .inr z
    · exact .inl z
theorem pile_sub' : ∀ (ks L : List (α × D)) (q : α × D), q ∈ pile L ks → q ∈ L ∨ q ∈ ks
  | [], L, q, h => .inl h
  | p :: ks, L, q, h => by
    rcases pile_sub' ks (pile1 L p) q h with z | z
    · rcases pile1_sub z with z | z
      · exact .inl z
      · exact .inr (z ▸ List.mem_cons_self)
    · exact .inr (List.mem_cons_of_mem _ z)
theorem pile_sub (ks : List (α × D)) (q : α × D) (h : q ∈ pile [] ks) : q ∈ ks := (pile_sub' ks [] q h).resolve_left (by simp)

theorem pile1_map {β : Type} (f : α → β) (L : List (α × D)) (p : α × D) : pile1 (L.map fun q => (f q.1, q.2)) (f p.1, p.2) = (pile1 L p).map fun q => (f q.1, q.2) := by
  have e : (L.map fun q => (f q.1, q.2)).map (·.2) = L.map (·.2) := by rw [List.map_map]; rfl
  unfold pile1
  by_cases c : p.2 ∈ L.map (·.2)
  · rw [if_pos (by rw [e]; exact c), if_pos c]
  · rw [if_neg (by rw [e]; exact c), if_neg c]
    rfl
theorem pile_map {β : Type} (f : α → β) : ∀ (ks L : List (α × D)), pile (L.map fun q => (f q.1, q.2)) (ks.map fun q => (f q.1, q.2)) = (pile L ks).map fun q => (f q.1, q.2)
  | [], _ => rfl
  | p :: ks, L => by
    show pile (pile1 (L.map fun q => (f q.1, q.2)) (f p.1, p.2)) _ = _
    rw [pile1_map]
    exact pile_map f ks (pile1 L p)
theorem pile_nodup : ∀ (ks L : List (α × D)), (L.map (·.2)).Nodup → ((pile L ks).map (·.2)).Nodup
  | [], _, h => h
  | p :: ks, L, h => pile_nodup ks (pile1 L p) (by
    unfold pile1
    split
    · exact h
    · rename_i c
      exact List.nodup_cons.mpr ⟨c, h⟩)
theorem pile_mem : ∀ (ks L : List (α × D)) (d : D), d ∈ (pile L ks).map (·.2) ↔ d ∈ L.map (·.2) ∨ d ∈ ks.map (·.2)
  | [], L, d => by simp [pile]
  | p :: ks, L, d => by
    show d ∈ (pile (pile1 L p) ks).map (·.2) ↔ _
    rw [pile_mem ks (pile1 L p) d, List.map_cons, List.mem_cons]
    unfold pile1
    split
    · rename_i c
      constructor
      · rintro (z | z)
        · exact .inl z
        · exact .inr (.inr z)
      · rintro (z | z | z)
        · exact .inl z
        · exact .inl (z ▸ c)
        · exact .inr z
    · rw [List.map_cons, List.mem_cons]
      constructor
      · rintro ((z | z) | z)
        · exact .inr (.inl z)
        · exact .inl z
        · exact .inr (.inr z)
      · rintro (z | z | z)
        · exact .inl (.inr z)
        · exact .inl (.inl z)
        · exact .inr z
end

/-- a mode of adding: what stands for what, the set so far, and the add -/
structure Md (P : Program) (w : World) where
  Is : Heap → D → Value → Prop
  Inv : Heap → Addr → List (Value × D) → Prop
  most : Nat
  fresh : ∀ {h a}, h.get? a = some (newSetO w) → Inv h a []
  at_ : ∀ {h h' a L}, Inv h a L → (∀ o, h.get? a = some o → h'.get? a = some o) → (∀ p ∈ L, Is h' p.2 p.1) → Inv h' a L
  there : ∀ {h h' d v}, Is h d v → (∀ b o, h.get? b = some o → h'.get? b = some o) → Is h' d v
  mem : ∀ {h a L p}, Inv h a L → p ∈ L → Is h p.2 p.1
  add : ∀ {A : Around} {E : Value → Shared → Prop} {s : Shared} {a : Addr} {L : List (Value × D)} {v : Value} {d : D} {Q : Bool → Shared → Prop}, A.units < cLine → Inv s.heap a L → Is s.heap d v → L.length + 1 < most →
    (∀ b h' tk L', Heap.SameBut a s.heap h' → Inv h' a L' → L'.Perm (pile1 L (v, d)) → Q b { s with heap := h', toks := s.toks + tk }) → wpAny (model P w) A (setAdd a v) Q E s
  done : ∀ {h a L}, Inv h a L → SetV w h a (L.map (·.1))

section
variable {P : Program} {w : World} {A : Around} {E : Value → Shared → Prop} {s : Shared}
/-- what the loop of set.update does -/
theorem md_loop (m : Md P w) {I : Addr} {fp wr : List Addr} {G : Array GenState → Array GenState → Prop} {n : Nat} {Pv : Nat → Value → Prop} {St : Nat → Shared → Prop} {R : Result → Shared → Prop}
    (W : WalksS P w A.in1 I fp wr G n Pv St) (S : Addr) (hSf : S ∉ fp) (ks : List (Value × D)) (hn : n = ks.length) (hm : (pile [] ks).length + 1 < m.most) (hv : ∀ i v, Pv i v → ∃ p, ks[i]? = some p ∧ v = p.1)
    (h0 : Heap) (hk : ∀ p ∈ ks, m.Is h0 p.2 p.1) (hS0 : h0.get? S = none) (hw0 : ∀ b ∈ wr, h0.get? b = none) (hu : A.in1.units < cLine) :
    ∀ (j i : Nat) (s : Shared), n - i = j → i ≤ n → St i s → (∀ b o, h0.get? b = some o → s.heap.get? b = some o) → (∃ L, m.Inv s.heap S L ∧ L.Perm (pile [] (ks.take i))) →
      (∀ s' L, Moved (S :: wr) G s s' → m.Inv s'.heap S L → L.Perm (pile [] ks) → (∀ b o, h0.get? b = some o → s'.heap.get? b = some o) → R (.ok (.ret .none)) s') →
      codeAny (model P w) A (.builtin "set.update.loop" ⟨[.ref S, .ref I], []⟩) R s := by
  have nS : S ∉ wr := fun h => hSf (W.sub _ h)
  have sub : ∀ b ∈ wr, b ∈ S :: wr := fun b hb => List.mem_cons_of_mem _ hb
  have stay : ∀ {s s' : Shared}, Moved wr G s s' → (∀ b o, h0.get? b = some o → s.heap.get? b = some o) → ∀ b o, h0.get? b = some o → s'.heap.get? b = some o := fun mv kp b o e =>
    mv.heap b o (fun hb => by
      rw [hw0 b hb] at e
      cases e) (kp b o e)
  intro j
  induction j with
  | zero =>
    intro i s e1 e2 hst kp ⟨L, iv, pm⟩ hR
    obtain rfl : i = n := by omega
    refine codeAny_builtin F.entry_set_update_loop ?_
    rw [Around.under_plainId F.plain_set_update_loop _]
    show wpAny _ A.in1 (pyNext (.ref I) >>= _) _ _ s
    refine wpAny_bind (W.done s _ _ hst fun s' mv => ?_)
    have kp' := stay mv kp
    rw [hn, List.take_length] at pm
    refine wpAny_pure (hR s' L (mv.mono sub) ?_ pm kp')
    exact m.at_ iv (fun o e => mv.heap S o nS e) fun p hp => m.there (hk p (pile_sub ks p (pm.mem_iff.mp hp))) kp'
  | succ j ih =>
    intro i s e1 e2 hst kp ⟨L, iv, pm⟩ hR
    have hlt : i < n := by omega
    refine codeAny_builtin F.entry_set_update_loop ?_
    rw [Around.under_plainId F.plain_set_update_loop _]
    show wpAny _ A.in1 (pyNext (.ref I) >>= _) _ _ s
    refine wpAny_bind (W.item i s _ _ hlt hst fun v s' hP hst' mv => ?_)
    obtain ⟨p, hp, rfl⟩ := hv i v hP
    have kp' := stay mv kp
    have inks : ∀ q ∈ L, q ∈ ks := fun q hq => List.mem_of_mem_take (pile_sub _ q (pm.mem_iff.mp hq))
    have iv' : m.Inv s'.heap S L := m.at_ iv (fun o e => mv.heap S o nS e) fun q hq => m.there (hk q (inks q hq)) kp'
    have px : m.Is s'.heap p.2 p.1 := m.there (hk p (List.mem_of_getElem? hp)) kp'
    show wpAny _ A.in1 (holding [p.1] (setAdd S p.1) >>= _) _ _ s'
    have few : L.length + 1 < m.most := by
      rw [pm.length_eq]
      exact Nat.lt_of_le_of_lt (Nat.succ_le_succ (pile_take ks i)) hm
    refine wpAny_bind (wpAny_holding (m.add hu iv' px few fun b h' tk L' sb iv2 pm2 => ?_))
    have kp2 : ∀ b o, h0.get? b = some o → h'.get? b = some o := fun b o e => (sb.2 b (fun z => by
      rw [z, hS0] at e
      cases e)).trans (kp' b o e)
    have oth : ∀ b o, b ≠ S → s'.heap.get? b = some o → h'.get? b = some o := fun b o hb e => (sb.2 b hb).trans e
    refine wpAny_pure ⟨plainId_quiet F.plain_set_update_loop _, ih (i + 1) _ (by omega) hlt (W.frame _ s' _ _ hst' (Nat.le_add_right _ _) fun b hb o e => oth b o (fun z => hSf (z ▸ hb)) e) kp2 ⟨L', iv2, ?_⟩ fun s2 L2 mv3 iv3 pm3 kp3 => hR s2 L2 ?_ iv3 pm3 kp3⟩
    · rw [pile_succ hp]
      exact pm2.trans (pile1_perm pm _)
    · exact Moved.trans W.gtrans ((mv.mono sub).then_heap (Nat.le_add_right _ _) fun b o hb e => oth b o (fun z => hb (z ▸ List.mem_cons_self)) e) mv3
set_option maxHeartbeats 3200000 in
/-- set(a list) -/
theorem md_set (m : Md P w) {l : Addr} {items : Array Value} (ks : List (Value × D)) {Q : Value → Shared → Prop} (hh : A.handled = none) (hl : s.heap.IsList l items) (hit : items.toList = ks.map (·.1))
    (hk : ∀ p ∈ ks, m.Is s.heap p.2 p.1) (hm : (pile [] ks).length + 1 < m.most) (hu : A.units + 3 < cLine)
    (h : ∀ (h' : Heap) (tk : Nat) (L : List (Value × D)), SetV w h' s.heap.objs.size (L.map (·.1)) → L.Perm (pile [] ks) → (∀ b o, s.heap.get? b = some o → h'.get? b = some o) → Q (.ref s.heap.objs.size) { s with heap := h', toks := tk }) :
    wpAny (model P w) A (call (.type "set") [.ref l]) Q E s := by
  have isz : items.size = ks.length := by
    have q := congrArg List.length hit
    rw [Array.length_toList, List.length_map] at q
    exact q
  obtain ⟨c, tl, mro⟩ := F.called_set.mro
  have made := F.called_set.made
  have under := F.called_set.sub
  refine wpAny_call (codeAny_of_tree ?_)
  show wpAny _ _ (callAny (.type "set") _) _ _ _
  refine wpAny_pure ⟨Code.quiet_builtin _ (by decide +kernel), codeAny_builtin F.entry_type_call ?_⟩
  rw [Around.under_plain (weight_type_call_type "set" [.ref l] []) rfl]
  have f1 := F.called_set.notType
  have f2 := F.called_set.canCreate
  have f3 := F.typeCall_set_1 (.ref l)
  repeat (any_goals (first | assumption | wp_step))
  refine codeAny_mono (code_set_led1 (.ref l) (E := E) (Q₁ := fun obj s₁ => obj = .ref s.heap.objs.size ∧ s₁ = { s with heap := s.heap.push (newSetO w) }) ⟨rfl, rfl⟩) fun r s₁ hr => ?_
  cases r with
  | error e => exact hr
  | ok fl =>
    cases fl with
    | ret obj =>
      obtain ⟨rfl, rfl⟩ := hr
      have oS : (s.heap.push (newSetO w)).get? s.heap.objs.size = some (newSetO w) := Heap.get?_push_size _ rfl
      have tS : Shared.TypeIs { s with heap := s.heap.push (newSetO w) } (.ref s.heap.objs.size) "set" := ⟨_, oS, rfl⟩
      have il := F.called_set.init.lookup
      have ib := F.called_set.init.bind (.ref s.heap.objs.size)
      repeat (any_goals (first | assumption | wp_step))
      refine codeAny_mono (codeAny_call_builtin (R := wants (fun r s₂ => r = .none ∧ ∃ h' tk L, s₂ = { s with heap := h', toks := tk } ∧ m.Inv h' s.heap.objs.size L ∧ L.Perm (pile [] ks) ∧
          (∀ b o, s.heap.get? b = some o → h'.get? b = some o)) E) F.called_set.init.plain F.entry_set_init (check_set_init_1 tS ?_)) fun r₂ s₂ hr₂ => ?_
      · obtain ⟨ol, hol, hcl, nl, hdl⟩ := hl
        obtain ⟨ocls, odict, odata, oslots⟩ := ol
        simp only at hcl hdl
        subst hcl hdl
        have oL : (s.heap.push (newSetO w)).get? l = some { cls := .type "list", dict := odict, data := .seq items nl, slots := oslots } := Heap.get?_push_of_some _ hol
        have sub1 := F.sub_list_set
        have sub2 := F.sub_list_frozenset
        have nd : (Value.type "list" == Value.type "dict") = false := by decide
        have iL : (s.heap.push (newSetO w)).IsList l items := ⟨_, oL, rfl, nl, rfl⟩
        unfold Builtin.«set.__init__» noKeywords Builtin.Frozenset.updateFrom
        generalize hPI : pyIter = PI
        wp_walk
        subst hPI
        refine wpAny_pyIter_list iL ?_
        refine wpAny_bind (wpAny_runValue ?_)
        have ltl : l < s.heap.objs.size := Heap.lt_size hol
        have h3 : A.in1.in1.in1.handled = none := by simp [hh]
        have neI : l ≠ (s.heap.push (newSetO w)).objs.size := by
          rw [Heap.size_push]
          exact Nat.ne_of_lt (Nat.lt_succ_of_lt ltl)
        have nSf : s.heap.objs.size ∉ [(s.heap.push (newSetO w)).objs.size, l] := by
          rw [Heap.size_push]
          simp only [List.mem_cons, List.not_mem_nil, or_false, not_or]
          exact ⟨Nat.ne_of_lt (Nat.lt_succ_self _), Nat.ne_of_gt ltl⟩
        have at_i : ∀ (i : Nat) (v : Value), items[i]? = some v → ∃ p, ks[i]? = some p ∧ v = p.1 := fun i v e => by
          have q : items.toList[i]? = some v := (Array.getElem?_toList ..).trans e
          rw [hit, List.getElem?_map] at q
          cases z : ks[i]? with
          | none =>
            rw [z] at q
            cases q
          | some p =>
            rw [z] at q
            exact ⟨p, rfl, (Option.some.inj q).symm⟩
        have none_at : ∀ b, s.heap.objs.size ≤ b → s.heap.get? b = none := fun b hb => by
          cases q : s.heap.get? b with
          | none => rfl
          | some o => exact absurd (Nat.lt_of_lt_of_le (Heap.lt_size q) hb) (Nat.lt_irrefl _)
        refine md_loop m ((Walks.list h3 _ l neI items).toS) s.heap.objs.size nSf ks isz hm at_i s.heap hk (none_at _ (Nat.le_refl _)) (fun b hb => none_at b (by
            rw [List.mem_singleton.mp hb, Heap.size_push]
            exact Nat.le_succ _)) hu (items.size - 0) 0 _ (by omega) (Nat.zero_le _)
          ⟨⟨_, Heap.get?_push_size _ rfl, rfl, rfl⟩, (iL.push _)⟩ (fun b o e => Heap.get?_push_of_some _ (Heap.get?_push_of_some _ e)) ⟨[], m.fresh (Heap.get?_push_of_some _ oS), .refl _⟩ fun s' L mv iv pm kp => ?_
        obtain ⟨h', g2, d', tk', os'⟩ := s'
        have e1 : g2 = s.gens := mv.gens
        have e2 : d' = s.drawn := mv.drawn
        have e3 : os' = s.os := mv.os
        subst e1 e2 e3
        show wpAny _ _ _ _ _ _
        refine wpAny_pure ?_
        show wpAny _ _ (ret Value.none) _ _ _
        exact wpAny_pure ⟨rfl, h', tk', L, rfl, iv, pm, kp⟩
      · cases r₂ with
        | error e => exact hr₂
        | ok fl₂ =>
          cases fl₂ with
          | ret r =>
            obtain ⟨rfl, h', tk, L, rfl, iv, pm, kp⟩ := hr₂
            repeat (any_goals (first | assumption | wp_step))
            exact h _ _ _ (m.done iv) pm kp
          | _ => exact hr₂.elim
    | _ => exact hr.elim
end
end ZL
end
section
set_option Elab.async false
set_option linter.all false
set_option maxRecDepth 100000
/-! LAYER, sets 1: numbers and texts, added by scan. -/
namespace ZL
open PySem PySem.Spec PyProof.Rows L2 Z

theorem keyD_inj {d d' : D} {k : Key} (h : keyD d = some k) (h' : keyD d' = some k) : d = d' := by
  cases d <;> simp only [keyD, Option.some.injEq] at h <;> first | (cases h; done) | skip
  all_goals (cases d' <;> simp only [keyD, Option.some.injEq] at h' <;> first | (cases h'; done) | skip)
  all_goals subst h
  all_goals first
    | (injection h' with h'; rw [h']; done)
    | (injection h' with h'; rw [toS_inj h']; done)
    | (exact nomatch h')
def ScIs (d : D) (v : Value) : Prop := ∃ k, keyD d = some k ∧ keyIs k v = true
theorem kis_scan {k : Key} {v : Value} (h : keyIs k v = true) : v.scannable = true := by
  rcases keyIs_shape h with ⟨i, t, _, rfl⟩ | ⟨x, t, _, rfl⟩ <;> rfl
theorem sc_scan {d : D} {v : Value} (h : ScIs d v) : v.scannable = true := by
  obtain ⟨k, _, h⟩ := h
  rcases keyIs_shape h with ⟨i, t, _, rfl⟩ | ⟨x, t, _, rfl⟩ <;> rfl
def ScanAt (P : Program) (w : World) (h : Heap) (a : Addr) (vs : List Value) : Prop :=
  ∃ o es ep t, h.get? a = some o ∧ o.ExactSet ∧ o.data = .set es ep t ∧ ElemsOf (mixKind P w) es.toList ∧ (es.toList.map (·.2)).Perm vs ∧ t.fits es.size = true ∧ Ris t.place.toList ∧
    (w.params.followText "set-order" = true ∨ t.led = true) ∧ es.size < scanBound
section
variable {P : Program} {w : World} {A : Around} {E : Value → Shared → Prop} {s : Shared} {a : Addr}
theorem sc_tail {g : Bool → Sem Unit} (hg : ∀ (b : Bool) (s1 : Shared) (Q' : Unit → Shared → Prop), Q' () s1 → wpAny (model P w) A (g b) Q' E s1)
    {o : Obj} {es : Array (Int × Value)} {ep : Nat} {t : SetTable} (ho : s.heap.get? a = some o) (hx : o.ExactSet) (hd : o.data = .set es ep t)
    {es1 : Array (Int × Value)} {t2 : SetTable} (el : ElemsOf (mixKind P w) es1.toList) {vs : List Value} (pv : (es1.toList.map (·.2)).Perm vs)
    (b1 : es1.size < scanBound) (f2 : t2.fits es1.size = true) (r2 : Ris t2.place.toList) (l2 : w.params.followText "set-order" = true ∨ t2.led = true) {dm : Bool} {R : Option Bool → Shared → Prop}
    (hR : ∀ h', Heap.SameBut a s.heap h' → ScanAt P w h' a vs → R (some true) { s with heap := h' }) :
    wpAny (model P w) A (do
        storeSet a es1 t2
        if (!dm && t2.tooFull) = true then do
            g (relayAll t2 es1 (SetTable.grown es1.size)).2.2
            storeSet a (relayAll t2 es1 (SetTable.grown es1.size)).1 (relayAll t2 es1 (SetTable.grown es1.size)).2.1
            pure (some true)
          else pure (some true)) R E s := by
  refine wpAny_bind (wpAny_storeSet_of ho hd ?_ (fits_of_scanBound b1))
  have o1 := store_at (es' := es1) (t' := t2) ho hd
  have sb := Heap.SameBut.update s.heap a (Obj.putSet es1 t2)
  split
  · have pm := relayAll_perm t2 es1 (SetTable.grown es1.size)
    have f3 := relayAll_fits t2 es1 (SetTable.grown es1.size)
    have r3 := relayAll_ris t2 es1 (SetTable.grown es1.size)
    have l3 := relayAll_led t2 es1 (SetTable.grown es1.size)
    generalize relayAll t2 es1 (SetTable.grown es1.size) = Y at pm f3 r3 l3 ⊢
    obtain ⟨es2, t3, gv⟩ := Y
    dsimp only at pm f3 r3 l3 ⊢
    have sz : es2.size = es1.size := by rw [← Array.length_toList, pm.length_eq, Array.length_toList]
    have b2 : es2.size < scanBound := sz ▸ b1
    refine wpAny_bind (hg _ _ _ (wpAny_bind (wpAny_storeSet_of o1 rfl ?_ (fits_of_scanBound b2))))
    have o2 := store_at (es' := es2) (t' := t3) o1 rfl
    exact wpAny_pure (hR _ (sb.trans (Heap.SameBut.update _ a _)) ⟨_, es2, _, t3, o2, hx, rfl, fun e he => el e (pm.mem_iff.mp he), (pm.map _).trans pv, f3, r3, l2.imp id fun z => l3.trans z, b2⟩)
  · exact wpAny_pure (hR _ sb ⟨_, es1, _, t2, o1, hx, rfl, el, pv, f2, r2, l2, b1⟩)
/-- a number or text, added -/
theorem sc_add {v : Value} {k : Key} {vs : List Value} {Q : Bool → Shared → Prop} (kv : keyIs k v = true) (iv : ScanAt P w s.heap a vs) (room : vs.length + 1 < scanBound)
    (h1 : (∃ u ∈ vs, keyIs k u = true) → Q false s) (h2 : (∀ u ∈ vs, keyIs k u = false) → ∀ h', Heap.SameBut a s.heap h' → ScanAt P w h' a (v :: vs) → Q true { s with heap := h' }) :
    wpAny (model P w) A (setAddHashed a v (keyH w k)) Q E s := by
  obtain ⟨o, es, ep, t, ho, hx, hd, el, pv, hf, hr, hl, hb⟩ := iv
  have km : (mixKind P w).is k v = true := kv
  have sc := kis_scan kv
  have sz : es.size = vs.length := by rw [← pv.length_eq, List.length_map, Array.length_toList]
  unfold setAddHashed setAddHashedIn
  refine wpAny_holding (wpAny_bind (wpAny_setState_of ho hd hf ?_))
  dsimp only
  rw [byScan_of sc hb el]
  simp only [↓reduceIte]
  unfold setAddByScan
  refine wpAny_bind (wpAny_bind (wpAny_rule (wpAny_bind (wpAny_setScan_of km ho hd hf el ?_))))
  cases fi : List.findIdx? (fun e => (mixKind P w).is k e.2) es.toList with
  | some j =>
    obtain ⟨q1, q2, _⟩ := List.findIdx?_eq_some_iff_getElem.mp fi
    dsimp only
    exact wpAny_pure (wpAny_pure (h1 ⟨_, pv.mem_iff.mp (List.mem_map.mpr ⟨_, List.getElem_mem q1, rfl⟩), q2⟩))
  | none =>
    have no : ∀ u ∈ vs, keyIs k u = false := fun u hu => by
      obtain ⟨e, he, rfl⟩ := List.mem_map.mp (pv.mem_iff.mpr hu)
      exact List.findIdx?_eq_none_iff.mp fi e he
    have fin := h2 no
    dsimp only
    have gw : ∀ (b : Bool) {s1 : Shared} {Q' : Unit → Shared → Prop}, Q' () s1 → wpAny (model P w) A (match b with | true => rule "set.scan.the-table-gave-way" | false => pure ()) Q' E s1 := fun b s1 Q' q => by
      cases b
      · exact wpAny_pure q
      · exact wpAny_rule q
    have pm := layNew_perm t es (keyH w k) v
    have f1 := layNew_fits t es (keyH w k) v
    have r1 := layNew_ris t es (keyH w k) v hr
    have l1 := layNew_led t es (keyH w k) v
    generalize layNew t es (keyH w k) v = Y at pm f1 r1 l1 ⊢
    obtain ⟨es1, t1, dm, gv⟩ := Y
    dsimp only at pm f1 r1 l1 ⊢
    rw [Array.toList_push] at pm
    have pc : es1.toList.Perm ((keyH w k, v) :: es.toList) := pm.trans (List.perm_append_singleton _ _)
    have el1 : ElemsOf (mixKind P w) es1.toList := fun e he => by
      rcases List.mem_cons.mp (pc.mem_iff.mp he) with z | z
      · rw [z]
        exact ⟨⟨k, kv, rfl⟩, sc⟩
      · exact el e z
    have pv1 : (es1.toList.map (·.2)).Perm (v :: vs) := (pc.map _).trans (pv.cons v)
    have b1 : es1.size < scanBound := by
      have := pv1.length_eq
      rw [List.length_map, Array.length_toList, List.length_cons] at this
      omega
    have ld : w.params.followText "set-order" = true ∨ t1.led = true := hl.imp id fun z => l1.trans z
    refine wpAny_bind (gw _ ?_)
    split
    · refine wpAny_bind ?_
      rw [hashByValue_scannable 8 sc]
      refine wpAny_pure ?_
      refine sc_tail (vs := v :: vs) ?_ ho hx hd el1 pv1 b1 ?_ ?_ ?_ ?_
      · intro b s1 Q' q
        cases b
        · exact wpAny_pure q
        · exact wpAny_rule q
      · first | (split <;> first | exact f1 | exact SetTable.fits_plain_off f1) | exact f1
      · first | (split <;> exact r1) | exact r1
      · first | (split <;> exact ld) | exact ld
      · intro h' sb r
        dsimp only
        exact wpAny_pure (fin h' sb r)
    · refine wpAny_bind (wpAny_pure ?_)
      simp only [↓reduceIte]
      refine sc_tail (vs := v :: vs) ?_ ho hx hd el1 pv1 b1 f1 r1 ld ?_
      · intro b s1 Q' q
        cases b
        · exact wpAny_pure q
        · exact wpAny_rule q
      · intro h' sb r
        dsimp only
        exact wpAny_pure (fin h' sb r)
end
theorem keyIs_one {k k' : Key} {v : Value} (h : keyIs k v = true) (h' : keyIs k' v = true) : k = k' := by
  rcases keyIs_shape h with ⟨i, t, rfl, rfl⟩ | ⟨x, t, rfl, rfl⟩
  · rcases keyIs_shape h' with ⟨j, u, rfl, e⟩ | ⟨y, u, rfl, e⟩
    · injection e with e
      rw [e]
    · exact nomatch e
  · rcases keyIs_shape h' with ⟨j, u, rfl, e⟩ | ⟨y, u, rfl, e⟩
    · exact nomatch e
    · injection e with e
      rw [e]
/-- the mode of numbers and texts -/
def mdScan (P : Program) (w : World) : Md P w where
  Is := fun _ d v => ScIs d v
  Inv := fun h a L => ScanAt P w h a (L.map (·.1)) ∧ ∀ p ∈ L, ScIs p.2 p.1
  most := scanBound
  fresh := fun {h a} ho => ⟨⟨_, #[], 0, _, ho, ⟨rfl, rfl, rfl⟩, rfl, fun e he => by simp at he, .refl _, by rfl, List.Pairwise.nil, by
    show _ ∨ (!w.params.followText "set-order") = true
    cases w.params.followText "set-order"
    · exact .inr rfl
    · exact .inl rfl, by decide⟩, fun p hp => by cases hp⟩
  at_ := by
    intro h h' a L x k _
    obtain ⟨⟨o, es, ep, t, ho, r⟩, q⟩ := x
    exact ⟨⟨o, es, ep, t, k o ho, r⟩, q⟩
  there := fun x _ => x
  mem := fun ⟨_, q⟩ hp => q _ hp
  add := fun {A E s a L v d Q} hu ⟨iv, q⟩ is room hQ => by
    obtain ⟨k, k1, k2⟩ := id is
    unfold setAdd
    refine wpAny_holding (wpAny_bind ((mixKind P w).pyHash k2 ?_))
    refine sc_add (s := { s with toks := s.toks + 1 }) k2 iv (by rw [List.length_map]; exact room) (fun ⟨u, hu', ku⟩ => ?_) fun no h' sb iv' => ?_
    · obtain ⟨p, hp, rfl⟩ := List.mem_map.mp hu'
      obtain ⟨k', k3, k4⟩ := q p hp
      have e : p.2 = d := keyD_inj k3 ((keyIs_one ku k4) ▸ k1)
      refine hQ false s.heap 1 L (Heap.SameBut.refl a s.heap) ⟨iv, q⟩ ?_
      have m : d ∈ L.map (·.2) := List.mem_map.mpr ⟨p, hp, e⟩
      unfold pile1
      rw [if_pos m]
    · refine hQ true h' 1 ((v, d) :: L) sb ⟨iv', fun p hp => ?_⟩ ?_
      · rcases List.mem_cons.mp hp with z | z
        · rw [z]
          exact is
        · exact q p z
      · have m : d ∉ L.map (·.2) := fun m => by
          obtain ⟨p, hp, e⟩ := List.mem_map.mp m
          obtain ⟨k', k3, k4⟩ := q p hp
          rw [e] at k3
          have ek : k' = k := Option.some.inj (k3.symm.trans k1)
          have := no p.1 (List.mem_map.mpr ⟨p, hp, rfl⟩)
          rw [← ek, k4] at this
          cases this
        unfold pile1
        rw [if_neg m]
  done := fun ⟨⟨o, es, ep, t, ho, hx, hd, el, pv, hf, hr, hl, hb⟩, _⟩ => ⟨o, es, ep, t, ho, hx, hd, pv, hf, hr, hl, hb⟩
end ZL
end
section
set_option Elab.async false
set_option linter.all false
set_option maxRecDepth 100000
/-! LAYER, sets 2: tuples, added by search. -/
namespace ZL
open PySem PySem.Spec PyProof.Rows L2 Z

/-- keys of tuples, and what sets ask of them -/
structure Sk (P : Program) (w : World) (K : Type) [DecidableEq K] where
  knd : HeapKind P w K
  st : knd.Stays
  cls : ∀ {A : Around} {E : Value → Shared → Prop} {s : Shared} {k : K} {b : Addr} {Q : Bool → Shared → Prop}, knd.is s.heap k b → Q false s → wpAny (model P w) A (ofAClassStatement 8 (.ref b)) Q E s
  hby : ∀ {A : Around} {E : Value → Shared → Prop} {s : Shared} {k : K} {b : Addr} {Q : Bool → Shared → Prop}, knd.is s.heap k b → (∀ c, Q c s) → wpAny (model P w) A (hashByValue 8 (.ref b)) Q E s
  room : ∀ A : Around, A.units < cLine → knd.room A
  kd : D → Option K
  inj : ∀ {d d' : D} {k : K}, kd d = some k → kd d' = some k → d = d'
section
variable {P : Program} {w : World} {K : Type} [DecidableEq K] (S : Sk P w K)
def Sk.hk (d : D) : Int := ((S.kd d).map S.knd.hash).getD 0
def Sk.Is (h : Heap) (d : D) (v : Value) : Prop := ∃ k b, S.kd d = some k ∧ v = .ref b ∧ S.knd.is h k b
structure Sk.Tab (h : Heap) (a : Addr) (L : List (Value × D)) (es : Array (Int × Value)) (ep : Nat) (t : SetTable) : Prop where
  ob : ∃ o, h.get? a = some o ∧ o.ExactSet ∧ o.data = .set es ep t
  rows : es.toList = L.map fun p => (S.hk p.2, p.1)
  tab : TabOk t (L.map fun p => S.hk p.2)
  nd : (L.map (·.2)).Nodup
  is : ∀ p ∈ L, S.Is h p.2 p.1
  led : w.params.followText "set-order" = true ∨ t.led = true
  room : L.length * 5 < t.mask * 3
  few : L.length < 64
variable {S} {A : Around} {E : Value → Shared → Prop} {s : Shared} {a : Addr} {L : List (Value × D)} {es : Array (Int × Value)} {ep : Nat} {t : SetTable}
theorem Sk.Tab.size {h : Heap} (R : S.Tab h a L es ep t) : es.size = L.length := by
  have := congrArg List.length R.rows
  rwa [Array.length_toList, List.length_map] at this
theorem fits_of {hs : List Int} (T : TabOk t hs) (h : es.size = hs.length) (h2 : hs.length ≤ t.mask) : t.fits es.size = true := by
  unfold SetTable.fits SetTable.fill
  have h1 := T.sz
  rw [T.dm, Bool.and_eq_true, beq_iff_eq, decide_eq_true_eq]
  exact ⟨h1.trans h.symm, by show t.place.size + 0 ≤ t.mask; omega⟩
theorem Sk.Tab.fits {h : Heap} (R : S.Tab h a L es ep t) : t.fits es.size = true := fits_of R.tab (by rw [List.length_map]; exact R.size) (by
  have := R.room
  rw [List.length_map]
  omega)
theorem rows_at {hk : D → Int} (hr : es.toList = L.map fun p => (hk p.2, p.1)) {i : Nat} {p : Value × D} (h : L[i]? = some p) : es[i]? = some (hk p.2, p.1) := by
  rw [← Array.getElem?_toList, hr, List.getElem?_map, h]
  rfl
theorem Sk.Tab.way_even {h : Heap} (R : S.Tab h a L es ep t) : ¬ t.gaveWay = true := by
  unfold SetTable.gaveWay
  rw [mask_odd R.tab.mok]
  decide
/-- nothing of a search is seen -/
theorem Sk.unseen {x : Value} {d : D} (hx : S.Is s.heap d x) {ys : List Value} (hy : ∀ y ∈ ys, ∃ d', S.Is s.heap d' y) {Q : Bool → Shared → Prop} (h : Q false s) : wpAny (model P w) A (searchCouldBeSeen x ys) Q E s := by
  obtain ⟨k, b, k1, rfl, k2⟩ := hx
  unfold searchCouldBeSeen
  refine wpAny_bind (wpAny_forIn_list _ (fun rest r s' => r.1 = none ∧ s' = s ∧ ∀ y ∈ rest, ∃ d', S.Is s.heap d' y) _ ?_ ?_ _ _ ⟨rfl, rfl, hy⟩)
  · rintro y rest r s' ⟨e1, rfl, all⟩
    obtain ⟨d', k', c, e2, rfl, e3⟩ := all y List.mem_cons_self
    have more := fun u hu => all u (List.mem_cons_of_mem _ hu)
    dsimp only
    by_cases very : (b == c || (carriedByValue (.ref b) && carriedByValue (.ref c))) = true
    · exact wp_if_pos very (wpAny_pure ⟨rfl, rfl, more⟩)
    · refine wp_if_neg very (wpAny_bind (S.knd.quiet k2 ?_))
      simp only [Bool.not_true, Bool.false_eq_true, if_false]
      refine wpAny_bind (S.knd.quiet e3 ?_)
      simp only [Bool.not_true, Bool.false_eq_true, if_false]
      refine wpAny_bind (S.cls k2 ?_)
      simp only [Bool.false_eq_true, if_false]
      refine wpAny_bind (S.cls e3 ?_)
      simp only [Bool.false_eq_true, if_false]
      exact wpAny_pure ⟨rfl, rfl, more⟩
  · rintro ⟨r1, r2⟩ s' ⟨e1, rfl, _⟩
    simp only at e1
    subst e1
    exact wpAny_pure h
/-- the c-th step of the way of a hash -/
def stepN (m : Nat) (h : Int) (c : Nat) : SetTable.Probe := nth m (runAt m (SetTable.bits h % (m + 1)) (SetTable.bits h)) c
theorem step_j (m : Nat) (h : Int) (c : Nat) : (stepN m h c).j = way m h c := rfl
theorem step_add (m : Nat) (h : Int) (c q : Nat) : nth m (stepN m h c) q = stepN m h (c + q) := (nth_add m c _ q).symm
theorem nth_dummy (m : Nat) : ∀ (n : Nat) (p : SetTable.Probe), p.dummy = none → (nth m p n).dummy = none
  | 0, _, h => h
  | n + 1, p, h => nth_dummy m n (adv m p) (by
    unfold adv
    split <;> exact h)
theorem step_dummy (m : Nat) (h : Int) (c : Nat) : (stepN m h c).dummy = none := nth_dummy m c _ rfl
/-- the search, from the c-th step on -/
theorem Sk.hunt (R : S.Tab s.heap a L es ep t) {x : Value} {d : D} (hx : S.Is s.heap d x) (hu : A.units < cLine) {n : Nat} (nf : n < 10 * SetTable.turns t.mask)
    (free : way t.mask (S.hk d) n ∉ t.place.toList) (full : ∀ c, c < n → way t.mask (S.hk d) c ∈ t.place.toList) {Q : SetFound → Shared → Prop}
    (inside : d ∈ L.map (·.2) → Q (.there none) s) (outside : d ∉ L.map (·.2) → Q (.free (way t.mask (S.hk d) n) false) s) :
    ∀ (left c fuel : Nat) (stand : Option SetTable.Probe), n - c = left → c ≤ n → left < fuel → stand.getD (t.probeStart (S.hk d)) = stepN t.mask (S.hk d) c →
      (∀ (i : Nat) p, L[i]? = some p → p.2 = d → ∃ c', c ≤ c' ∧ c' < n ∧ t.place.toList[i]? = some (way t.mask (S.hk d) c')) →
      wpAny (model P w) A (setSearchFrom a x (S.hk d) true fuel stand) Q E s := by
  intro left
  induction left using Nat.strongRecOn with
  | ind left ih =>
    intro c fuel stand e1 e2 e3 e4 ahead
    obtain ⟨fuel, rfl⟩ : ∃ f, fuel = f + 1 := ⟨fuel - 1, by omega⟩
    obtain ⟨o, ho, _, hd⟩ := R.ob
    rw [setSearchFrom_succ]
    refine wpAny_bind (wpAny_setState_of ho hd R.fits ?_)
    dsimp only
    refine wp_if_neg R.way_even ?_
    try refine wpAny_bind (wpAny_pure ?_)
    have jq : ∀ q, (nth t.mask (stepN t.mask (S.hk d) c) q).j = way t.mask (S.hk d) (c + q) := fun q => by rw [step_add]; rfl
    have last : c + (n - c) = n := by omega
    have spec := go_spec t R.tab.ris R.tab.dm (fun i => (es[i]?.map (·.1)).getD 0) (S.hk d) (10 * SetTable.turns t.mask) (n - c) (stepN t.mask (S.hk d) c) (step_dummy _ _ _) (by omega)
      (fun q hq => by rw [jq]; exact full _ (by omega)) (by rw [jq, last]; exact free)
    have hashAt : ∀ (i : Nat) p, L[i]? = some p → ((es[i]?.map (·.1)).getD 0) = S.hk p.2 := fun i p hp => by
      rw [rows_at R.rows hp]
      rfl
    rcases spec with ⟨q, i, hq, hi, hh, before, pr⟩ | ⟨before, pr⟩
    · have pr' : t.probe (fun i => (es[i]?.map (·.1)).getD 0) (S.hk d) (stand.getD (t.probeStart (S.hk d))) = some (.candidate (way t.mask (S.hk d) (c + q)) i (stepN t.mask (S.hk d) (c + (q + 1)))) := by
        rw [e4, ← jq, ← step_add]
        exact pr
      rw [pr']
      dsimp only
      rw [jq] at hi
      have il : i < L.length := by
        have a1 : i < t.place.toList.length := (List.getElem?_eq_some_iff.mp hi).1
        have a2 := R.tab.sz
        rw [List.length_map] at a2
        rw [Array.length_toList] at a1
        omega
      obtain ⟨p, hp⟩ : ∃ p, L[i]? = some p := ⟨_, List.getElem?_eq_getElem il⟩
      have pm : p ∈ L := List.mem_of_getElem? hp
      obtain ⟨k, b, k1, kx, k2⟩ := id hx
      obtain ⟨k', b', k1', ky, k2'⟩ := R.is p pm
      have body : wpAny (model P w) A (searchRest a x (S.hk d) true fuel es t (way t.mask (S.hk d) (c + q)) i (stepN t.mask (S.hk d) (c + (q + 1)))) Q E s := by
        unfold searchRest
        rw [rows_at R.rows hp]
        dsimp only
        rw [kx, ky]
        refine wpAny_bind (wpAny_holding (S.knd.eqBool (S.room A hu) k2' k2 ?_))
        refine wpAny_bind (wpAny_setState_of ho hd R.fits ?_)
        dsimp only
        by_cases kk : k' = k
        · refine wp_if_pos (by simp [kk]) (wpAny_pure (inside ?_))
          exact List.mem_map.mpr ⟨p, pm, S.inj (kk ▸ k1') k1⟩
        · have dd : p.2 ≠ d := fun e => kk (by
            rw [e, k1] at k1'
            exact (Option.some.inj k1').symm)
          refine wp_if_neg (by simp [kk]) ?_
          try refine wpAny_bind (wpAny_pure ?_)
          rw [sameMem]
          dsimp only
          have sl : t.slot (way t.mask (S.hk d) (c + q)) = .live i := slot_live R.tab.ris hi
          simp only [if_true, sl, rows_at R.rows hp]
          rw [ky]
          refine wpAny_bind (wpAny_isSame_ref_self (wpAny_bind (wpAny_pure ?_)))
          simp only [if_true]
          refine wp_if_neg (by simp [kk]) ?_
          rw [← kx]
          refine ih (n - (c + (q + 1))) (by omega) _ fuel _ rfl (by omega) (by omega) rfl fun i2 p2 h2 hd2 => ?_
          obtain ⟨c', a1, a2, a3⟩ := ahead i2 p2 h2 hd2
          refine ⟨c', ?_, a2, a3⟩
          rcases Nat.lt_trichotomy c' (c + q) with z | z | z
          · refine absurd ((hashAt i2 p2 h2).trans (congrArg S.hk hd2)) (before (c' - c) i2 (by omega) ?_)
            rw [jq, show c + (c' - c) = c' by omega]
            exact a3
          · rw [z] at a3
            have := slot_live R.tab.ris a3
            rw [sl] at this
            injection this with this
            rw [← this, hp] at h2
            exact absurd ((congrArg Prod.snd (Option.some.inj h2)).trans hd2) dd
          · omega
      by_cases hl : t.led = true
      · refine wp_if_neg (by simp [hl]) ?_
        try refine wpAny_bind (wpAny_pure ?_)
        exact body
      · refine wp_if_pos (by simp [hl]) ?_
        refine wpAny_bind (Sk.unseen hx (fun y hy => ?_) ?_)
        · obtain ⟨e, he, rfl⟩ := List.mem_map.mp hy
          have he2 : e ∈ es.toList := by
            have : e ∈ es ∧ e.1 = S.hk d := by simpa using he
            simpa using this.1
          rw [R.rows] at he2
          obtain ⟨p2, hp2, rfl⟩ := List.mem_map.mp he2
          exact ⟨p2.2, R.is p2 hp2⟩
        · refine wp_if_neg (by decide) ?_
          try refine wpAny_bind (wpAny_pure ?_)
          exact body
    · have pr' : t.probe (fun i => (es[i]?.map (·.1)).getD 0) (S.hk d) (stand.getD (t.probeStart (S.hk d))) = some (.empty (way t.mask (S.hk d) n) none) := by
        have : way t.mask (S.hk d) n = (nth t.mask (stepN t.mask (S.hk d) c) (n - c)).j := by rw [jq, last]
        rw [e4, this]
        exact pr
      rw [pr']
      dsimp only
      refine wpAny_pure (outside fun hm => ?_)
      obtain ⟨p2, m2, d2⟩ := List.mem_map.mp hm
      obtain ⟨i2, hi2⟩ := List.getElem?_of_mem m2
      obtain ⟨c', a1, a2, a3⟩ := ahead i2 p2 hi2 d2
      refine before (c' - c) i2 (by omega) ?_ ((hashAt i2 p2 hi2).trans (congrArg S.hk d2))
      rw [jq, show c + (c' - c) = c' by omega]
      exact a3
theorem Sk.seek (R : S.Tab s.heap a L es ep t) {x : Value} {d : D} (hx : S.Is s.heap d x) (hu : A.units < cLine) {Q : SetFound → Shared → Prop} (inside : d ∈ L.map (·.2) → Q (.there none) s)
    (outside : ∀ n, d ∉ L.map (·.2) → way t.mask (S.hk d) n ∉ t.place.toList → (∀ c, c < n → way t.mask (S.hk d) c ∈ t.place.toList) → Q (.free (way t.mask (S.hk d) n) false) s) :
    wpAny (model P w) A (setSearch a x (S.hk d) true) Q E s := by
  have rm := R.room
  obtain ⟨n, n1, n2, n3⟩ := R.tab.first (by rw [List.length_map]; omega) (S.hk d)
  have big : n < 100000 := by
    have : 10 * SetTable.turns t.mask ≤ 1420 := by
      unfold SetTable.turns
      rcases R.tab.mok with e | e | e <;> omega
    omega
  unfold setSearch
  refine Sk.hunt R hx hu n1 n2 n3 inside (fun no => outside n no n2 n3) n 0 100000 none rfl (Nat.zero_le _) big rfl fun i p hp e => ?_
  have hi : (L.map fun p => S.hk p.2)[i]? = some (S.hk d) := by rw [List.getElem?_map, hp, ← e]; rfl
  have il : i < t.place.toList.length := by
    have a1 : i < L.length := (List.getElem?_eq_some_iff.mp hp).1
    have a2 := R.tab.sz
    rw [List.length_map] at a2
    rw [Array.length_toList]
    omega
  have hj := List.getElem?_eq_getElem il
  obtain ⟨c, hc, ec⟩ := R.tab.before n2 hi hj
  exact ⟨c, Nat.zero_le _, hc, hj.trans (congrArg some ec.symm)⟩
end
end ZL
end
section
set_option Elab.async false
set_option linter.all false
set_option maxRecDepth 100000
/-! LAYER, sets 3: tuples, added: the table laid anew, the mode; tuples of numbers and texts. -/
namespace ZL
open PySem PySem.Spec PyProof.Rows L2 Z

section
variable {P : Program} {w : World} {K : Type} [DecidableEq K] {S : Sk P w K} {A : Around} {E : Value → Shared → Prop} {s : Shared} {a : Addr} {L : List (Value × D)} {es : Array (Int × Value)} {ep : Nat} {t : SetTable}
theorem Sk.Is.keep {h h' : Heap} {d : D} {v : Value} (x : S.Is h d v) (k : ∀ b o vs n, h.get? b = some o → o.data = .seq vs n → h'.get? b = some o) : S.Is h' d v := by
  obtain ⟨q, b, e1, e2, e3⟩ := x
  exact ⟨q, b, e1, e2, S.st.stays k e3⟩
theorem Sk.Is.but {h h' : Heap} {d : D} {v : Value} (x : S.Is h d v) {o : Obj} (ho : h.get? a = some o) (hd : o.data = .set es ep t) (sb : Heap.SameBut a h h') : S.Is h' d v :=
  x.keep fun b o' vs n e q => by
    have : b ≠ a := by
      rintro rfl
      rw [ho] at e
      cases e
      rw [hd] at q
      cases q
    exact (sb.2 b this).trans e
/-- the rows in another order -/
theorem turned {α : Type} [Inhabited α] {β : Type} (row : α → β) (L : List α) (es : Array β) (hr : es.toList = L.map row) (o : Array Nat) (hp : o.toList.Perm (List.range L.length)) :
    ∃ M : List α, M.Perm L ∧ (o.filterMap (es[·]?)).toList = M.map row ∧ M = o.toList.map fun i => L.getD i default := by
  have lt : ∀ i ∈ o.toList, i < L.length := fun i hi => List.mem_range.mp (hp.mem_iff.mp hi)
  have at_ : ∀ i, i < L.length → es[i]? = some (row (L.getD i default)) := fun i hi => by
    rw [← Array.getElem?_toList, hr, List.getElem?_map, List.getElem?_eq_getElem hi]
    simp [List.getD, List.getElem?_eq_getElem hi]
  refine ⟨o.toList.map fun i => L.getD i default, ?_, ?_, rfl⟩
  · refine (hp.map _).trans ?_
    have : (List.range L.length).map (fun i => L.getD i default) = L := by
      refine List.ext_getElem (by simp) fun i h1 h2 => ?_
      simp [List.getD, List.getElem?_eq_getElem h2]
    rw [this]
  · rw [Array.toList_filterMap, List.map_map]
    revert lt
    generalize o.toList = os
    intro lt
    induction os with
    | nil => rfl
    | cons i os ih =>
      rw [List.filterMap_cons_some (at_ i (lt i List.mem_cons_self)), ih fun j hj => lt j (List.mem_cons_of_mem _ hj)]
      rfl
/-- the table laid anew -/
theorem Sk.relay {o : Obj} (ho : s.heap.get? a = some o) (hx : o.ExactSet) (hd : o.data = .set es ep t) (rows : es.toList = L.map fun p => (S.hk p.2, p.1)) (fits : t.fits es.size = true)
    (nd : (L.map (·.2)).Nodup) (is : ∀ p ∈ L, S.Is s.heap p.2 p.1) (ld : w.params.followText "set-order" = true ∨ t.led = true) (few : L.length < 64) {wanted M : Nat}
    (hw : SetTable.sizeAbove wanted - 1 = M) (mo : MaskOk M) (small : SetTable.sizeAbove wanted ≤ 128) (rm : L.length * 5 < M * 3) {Q : Unit → Shared → Prop}
    (hQ : ∀ h' L' es' ep' t', Heap.SameBut a s.heap h' → S.Tab h' a L' es' ep' t' → L'.Perm L → Q () { s with heap := h' }) : wpAny (model P w) A (setRelay a wanted) Q E s := by
  have sz : es.size = L.length := by
    have := congrArg List.length rows
    rwa [Array.length_toList, List.length_map] at this
  obtain ⟨t', od, e, hp, T, em, el, _, _⟩ := relaid_ok t (hs := es.map (·.1)) (wanted := wanted) hw mo (by rw [Array.size_map, sz]; omega)
  rw [Array.size_map, sz] at hp
  haveI : Inhabited (Value × D) := ⟨(.none, .non)⟩
  obtain ⟨N, r1, r2, r3⟩ := turned (fun p : Value × D => (S.hk p.2, p.1)) L es rows od hp
  have hs : (od.toList.map fun i => (es.map (·.1)).getD i 0) = N.map fun p => S.hk p.2 := by
    rw [r3, List.map_map]
    refine List.map_congr_left fun i hi => ?_
    have hi' : i < L.length := List.mem_range.mp (hp.mem_iff.mp hi)
    have : es[i]? = some (S.hk (L.getD i default).2, (L.getD i default).1) := rows_at rows (by simp [List.getD, List.getElem?_eq_getElem hi'])
    have e5 : (es.map (·.1))[i]? = some (S.hk (L.getD i default).2) := by rw [Array.getElem?_map, this]; rfl
    simp [Array.getD_eq_getD_getElem?, e5]
  rw [hs] at T
  have sz2 : (od.filterMap (es[·]?)).size = es.size := by
    have := congrArg List.length r2
    rw [Array.length_toList, List.length_map, r1.length_eq] at this
    rw [this, sz]
  rw [setRelay_eq]
  refine wpAny_bind (wpAny_setState_of ho hd fits ?_)
  dsimp only
  refine wp_if_neg (by rw [sizeLine_eq]; omega) ?_
  try refine wpAny_bind (wpAny_pure ?_)
  rw [e]
  dsimp only
  refine wpAny_bind (wp_if_neg (by rw [sz2]; simp) ?_)
  try refine wpAny_bind (wpAny_pure ?_)
  refine wpAny_pure ?_
  dsimp only
  refine wpAny_storeSet_of ho hd ?_ (by rw [sz2, sz, sizeLine_eq]; omega)
  have sb : Heap.SameBut a s.heap (s.heap.update a (Obj.putSet (od.filterMap (es[·]?)) t')) := Heap.SameBut.update ..
  exact hQ _ N (od.filterMap (es[·]?)) (ep + 1) t' sb ⟨⟨_, store_at ho hd, ⟨hx.1, hx.2.1, hx.2.2⟩, rfl⟩, r2, T, (r1.map _).nodup_iff.mpr nd, fun p hp' => (is p (r1.mem_iff.mp hp')).but ho hd sb, by rw [el]; exact ld, by rw [r1.length_eq, em]; exact rm, by rw [r1.length_eq]; exact few⟩ r1
/-- a tuple, added -/
theorem Sk.put (R : S.Tab s.heap a L es ep t) {x : Value} {d : D} (hx : S.Is s.heap d x) (hu : A.units < cLine) (few : L.length + 1 < 64) {Q : Bool → Shared → Prop}
    (hQ : ∀ b h' L' es' ep' t', Heap.SameBut a s.heap h' → S.Tab h' a L' es' ep' t' → L'.Perm (pile1 L (x, d)) → Q b { s with heap := h' }) :
    wpAny (model P w) A (setAddHashed a x (S.hk d)) Q E s := by
  obtain ⟨o, ho, xs, hd⟩ := R.ob
  have sz := R.size
  have rm := R.room
  obtain ⟨k, b0, k1, kx, k2⟩ := id hx
  unfold setAddHashed
  refine wpAny_holding ?_
  rw [show (100000 : Nat) = 99999 + 1 from rfl, setAddHashedIn_succ]
  refine wpAny_bind (wpAny_setState_of ho hd R.fits ?_)
  dsimp only
  refine wp_if_neg (by rw [kx]; simp [byScan, Value.scannable]) ?_
  try refine wpAny_bind (wpAny_pure ?_)
  refine wpAny_bind (Sk.seek R hx hu (fun hm => ?_) fun n hm free full => ?_)
  · dsimp only
    refine wpAny_pure (hQ false s.heap L es ep t (Heap.SameBut.refl a s.heap) R ?_)
    unfold pile1
    rw [if_pos hm]
  · dsimp only
    refine wpAny_bind (wpAny_setState_of ho hd R.fits ?_)
    dsimp only
    obtain ⟨q1, q2, q3, q4, q5, q6, q7, q8, q9⟩ := R.tab.put free full
    generalize hpt : t.put (way t.mask (S.hk d) n) = pt at q1 q3 q4 q5 q6 q7 q8 q9 ⊢
    obtain ⟨t1, at1⟩ := pt
    dsimp only at q1 q3 q4 q5 q6 q7 q8 q9 ⊢
    subst q1
    generalize SetTable.below t.place (way t.mask (S.hk d) n) = at1 at q2 q3 ⊢
    have pm : (L.take at1 ++ (x, d) :: L.drop at1).Perm ((x, d) :: L) := by
      have := List.perm_middle (a := (x, d)) (l₁ := L.take at1) (l₂ := L.drop at1)
      rwa [List.take_append_drop] at this
    have rows1 : (SetTable.insertAt es at1 (S.hk d, x)).toList = (L.take at1 ++ (x, d) :: L.drop at1).map fun p => (S.hk p.2, p.1) := by
      rw [SetTable.toList_insertAt, R.rows, List.map_append, List.map_cons, List.map_take, List.map_drop]
    have hs1 : (L.map fun p => S.hk p.2).take at1 ++ S.hk d :: (L.map fun p => S.hk p.2).drop at1 = (L.take at1 ++ (x, d) :: L.drop at1).map fun p => S.hk p.2 := by
      rw [List.map_append, List.map_cons, List.map_take, List.map_drop]
    rw [hs1] at q3
    generalize L.take at1 ++ (x, d) :: L.drop at1 = L1 at pm rows1 q3
    have len1 : L1.length = L.length + 1 := pm.length_eq
    have nd1 : (L1.map (·.2)).Nodup := (pm.map (·.2)).nodup_iff.mpr (by
      rw [List.map_cons]
      exact List.nodup_cons.mpr ⟨hm, R.nd⟩)
    have sz1 : (SetTable.insertAt es at1 (S.hk d, x)).size = L1.length := by
      have := congrArg List.length rows1
      rwa [Array.length_toList, List.length_map] at this
    generalize SetTable.insertAt es at1 (S.hk d, x) = es1 at rows1 sz1 ⊢
    have pile_eq : pile1 L (x, d) = (x, d) :: L := by
      unfold pile1
      rw [if_neg hm]
    rw [pile_eq] at hQ
    -- whatever is told of the hash
    have rest : ∀ t2 : SetTable, t2.place = t1.place → t2.mask = t1.mask → t2.dummies = t1.dummies → t2.led = t1.led → t2.fill = t1.fill →
        wpAny (model P w) A (do
          storeSet a es1 t2
          if (!false && t2.tooFull) = true then setRelay a (SetTable.grown (es.size + 1))
          return true) Q E s := fun t2 g1 g2 g3 g4 g5 => by
      have T2 : TabOk t2 (L1.map fun p => S.hk p.2) := ⟨by rw [g1]; exact q3.ris, by rw [g3]; exact q3.dm, by rw [g1]; exact q3.sz, by rw [g2]; exact q3.mok, by rw [g1, g2]; exact q3.bd, by rw [g1, g2]; exact q3.reach⟩
      refine wpAny_bind (wpAny_storeSet_of ho hd ?_ (by rw [sz1, len1, sizeLine_eq]; omega))
      have sb : Heap.SameBut a s.heap (s.heap.update a (Obj.putSet es1 t2)) := Heap.SameBut.update ..
      have o1 := store_at (es' := es1) (t' := t2) ho hd
      generalize s.heap.update a (Obj.putSet es1 t2) = h1 at sb o1 ⊢
      have is1 : ∀ p ∈ L1, S.Is h1 p.2 p.1 := fun p hp => by
        rcases List.mem_cons.mp (pm.mem_iff.mp hp) with e | hp
        · rw [e]
          exact hx.but ho hd sb
        · exact (R.is p hp).but ho hd sb
      have ld : w.params.followText "set-order" = true ∨ t2.led = true := by
        rw [g4, q5]
        exact R.led
      have mk : t2.mask = t.mask := g2.trans q4
      have fl : t2.fill = L.length + 1 := by rw [g5, q9, List.length_map]
      have ft : t2.fits es1.size = true := fits_of T2 (by rw [List.length_map]; exact sz1) (by
        rw [List.length_map, len1, mk]
        rcases R.tab.mok with e | e | e <;> rw [e] at rm ⊢ <;> omega)
      by_cases hf : t2.tooFull = true
      · have full2 : (L.length + 1) * 5 ≥ t2.mask * 3 := by
          have h := hf
          unfold SetTable.tooFull at h
          rw [decide_eq_true_eq, fl] at h
          exact h
        rw [mk] at full2
        have two : (t.mask = 7 ∧ L.length = 4) ∨ (t.mask = 31 ∧ L.length = 18) := by
          rcases R.tab.mok with e | e | e
          · left
            rw [e] at rm full2
            exact ⟨e, by omega⟩
          · right
            rw [e] at rm full2
            exact ⟨e, by omega⟩
          · exfalso
            rw [e] at full2
            omega
        have go : ∀ M, SetTable.sizeAbove (SetTable.grown (L.length + 1)) - 1 = M → MaskOk M → SetTable.sizeAbove (SetTable.grown (L.length + 1)) ≤ 128 → (L.length + 1) * 5 < M * 3 →
            wpAny (model P w) A (setRelay a (SetTable.grown (L.length + 1))) (fun _ s' => wpAny (model P w) A (pure true) Q E s') E { s with heap := h1 } := fun M z1 z2 z3 z4 =>
          Sk.relay (s := { s with heap := h1 }) o1 ⟨xs.1, xs.2.1, xs.2.2⟩ rfl rows1 ft nd1 is1 ld (by rw [len1]; exact few) z1 z2 z3 (by rw [len1]; exact z4) fun h2 L2 es2 ep2 t3 sb2 R2 pm2 =>
            wpAny_pure (hQ true h2 L2 es2 ep2 t3 (sb.trans sb2) R2 (pm2.trans pm))
        rw [sz]
        have fin : wpAny (model P w) A (setRelay a (SetTable.grown (L.length + 1))) (fun _ s' => wpAny (model P w) A (pure true) Q E s') E { s with heap := h1 } := by
          rcases two with ⟨_, e2⟩ | ⟨_, e2⟩
          · exact go 31 (by rw [e2, size_20]) (.inr (.inl rfl)) (by rw [e2, size_20]; decide) (by omega)
          · exact go 127 (by rw [e2, size_76]) (.inr (.inr rfl)) (by rw [e2, size_76]; decide) (by omega)
        first
          | exact wpAny_bind (wp_if_pos (by simp [hf]) fin)
          | exact wp_if_pos (by simp [hf]) (wpAny_bind fin)
      · have nf := hf
        unfold SetTable.tooFull at nf
        rw [decide_eq_true_eq, fl] at nf
        have R1 : S.Tab h1 a L1 es1 (ep + 1) t2 := ⟨⟨_, o1, ⟨xs.1, xs.2.1, xs.2.2⟩, rfl⟩, rows1, T2, nd1, is1, ld, by rw [len1]; omega, by rw [len1]; exact few⟩
        first
          | exact wpAny_bind (wp_if_neg (by simp [hf]) (wpAny_pure (wpAny_pure (hQ true h1 L1 es1 (ep + 1) t2 sb R1 pm))))
          | exact wp_if_neg (by simp [hf]) (wpAny_pure (hQ true h1 L1 es1 (ep + 1) t2 sb R1 pm))
    by_cases pl : t1.plain = true
    · first
        | (refine wpAny_bind (wp_if_pos pl ?_)
           rw [kx]
           refine S.hby k2 fun c => ?_
           cases c
           · exact rest _ rfl rfl rfl rfl rfl
           · exact rest _ rfl rfl rfl rfl rfl)
        | (refine wp_if_pos pl (wpAny_bind ?_)
           rw [kx]
           refine S.hby k2 fun c => ?_
           cases c
           · exact rest _ rfl rfl rfl rfl rfl
           · exact rest _ rfl rfl rfl rfl rfl)
    · first
        | exact wpAny_bind (wp_if_neg pl (wpAny_pure (rest _ rfl rfl rfl rfl rfl)))
        | exact wp_if_neg pl (wpAny_bind (wpAny_pure (rest _ rfl rfl rfl rfl rfl)))
        | exact wp_if_neg pl (rest _ rfl rfl rfl rfl rfl)
end
end ZL
end
section
set_option Elab.async false
set_option linter.all false
set_option maxRecDepth 100000
/-! LAYER, sets 4: the mode of tuples; sorted of a set, len of a set, at the model's level. -/
namespace ZL
open PySem PySem.Spec PyProof.Rows L2 Z

def mdSeek {P : Program} {w : World} {K : Type} [DecidableEq K] (S : Sk P w K) : Md P w where
  Is := S.Is
  Inv := fun h a L => ∃ es ep t, S.Tab h a L es ep t
  most := 64
  fresh := by
    intro h a ho
    have ld : w.params.followText "set-order" = true ∨ (SetTable.fresh 0 0 (!w.params.followText "set-order")).led = true := by
      show _ ∨ (!w.params.followText "set-order") = true
      cases w.params.followText "set-order"
      · exact .inr rfl
      · exact .inl rfl
    have tb : TabOk (SetTable.fresh 0 0 (!w.params.followText "set-order")) (([] : List (Value × D)).map fun p => S.hk p.2) :=
      ⟨List.Pairwise.nil, rfl, rfl, .inl rfl, fun x hx => (by cases hx), fun i h j hi => (by simp at hi)⟩
    refine ⟨#[], 0, _, ⟨_, ho, ⟨rfl, rfl, rfl⟩, rfl⟩, rfl, tb, List.nodup_nil, fun p hp => (by cases hp), ld, ?_, ?_⟩
    · show 0 * 5 < 7 * 3
      decide
    · show 0 < 64
      decide
  at_ := by
    intro h h' a L x k is
    obtain ⟨es, ep, t, R⟩ := x
    obtain ⟨o, ho, r⟩ := R.ob
    exact ⟨es, ep, t, ⟨o, k o ho, r⟩, R.rows, R.tab, R.nd, is, R.led, R.room, R.few⟩
  there := fun x k => x.keep fun b o vs n e _ => k b o e
  mem := fun ⟨_, _, _, R⟩ hp => R.is _ hp
  add := fun {A E s a L v d Q} hu ⟨es, ep, t, R⟩ is room hQ => by
    obtain ⟨k, b, k1, rfl, k2⟩ := id is
    have eh : S.hk d = S.knd.hash k := by
      unfold Sk.hk
      rw [k1]
      rfl
    unfold setAdd
    refine wpAny_holding (wpAny_bind (S.knd.pyHash (S.room A hu) k2 ?_))
    rw [← eh]
    exact Sk.put (s := { s with toks := s.toks + S.knd.draws k }) R is hu room fun b' h' L' es' ep' t' sb R' pm => hQ b' h' _ L' sb ⟨es', ep', t', R'⟩ pm
  done := fun {h a L} ⟨es, ep, t, R⟩ => by
    obtain ⟨o, ho, hx, hd⟩ := R.ob
    refine ⟨o, es, ep, t, ho, hx, hd, ?_, R.fits, R.tab.ris, R.led, ?_⟩
    · rw [R.rows, List.map_map]
      exact .refl _
    · rw [R.size]
      exact Nat.lt_trans R.few (by decide)

def keysD : List D → Option (List Key)
  | [] => some []
  | d :: ds => (keyD d).bind fun k => (keysD ds).map (k :: ·)
theorem keysD_inj : ∀ {ds es : List D} {ks : List Key}, keysD ds = some ks → keysD es = some ks → ds = es
  | [], [], _, _, _ => rfl
  | [], e :: es, ks, h, h' => by
    simp only [keysD, Option.some.injEq] at h
    subst h
    simp only [keysD, Option.bind_eq_some_iff, Option.map_eq_some_iff] at h'
    obtain ⟨_, _, _, _, h'⟩ := h'
    cases h'
  | d :: ds, [], ks, h, h' => by
    simp only [keysD, Option.some.injEq] at h'
    subst h'
    simp only [keysD, Option.bind_eq_some_iff, Option.map_eq_some_iff] at h
    obtain ⟨_, _, _, _, h⟩ := h
    cases h
  | d :: ds, e :: es, ks, h, h' => by
    simp only [keysD, Option.bind_eq_some_iff, Option.map_eq_some_iff] at h h'
    obtain ⟨k, h1, r, h2, h3⟩ := h
    obtain ⟨k', h1', r', h2', h3'⟩ := h'
    subst h3
    injection h3' with e1 e2
    subst e1 e2
    rw [keyD_inj h1 h1', keysD_inj h2 h2']
theorem items_key {P : Program} {w : World} {k : List Key} {vs : List Value} (h : ItemsAre (mixKind P w) k vs) : ∀ v ∈ vs, ∃ q, keyIs q v = true := by
  induction h with
  | nil => intro v hv; cases hv
  | cons h1 _ ih =>
    intro v hv
    rcases List.mem_cons.mp hv with e | hv
    · exact ⟨_, e ▸ h1⟩
    · exact ih v hv
theorem cls_key {k : Key} {v : Value} (h : keyIs k v = true) (n : Nat) : ofAClassStatement n v = pure false := by
  rcases keyIs_shape h with ⟨i, t, _, rfl⟩ | ⟨x, t, _, rfl⟩ <;> cases n <;> rfl
theorem hby_key {k : Key} {v : Value} (h : keyIs k v = true) (n : Nat) : ∃ b, hashByValue n v = pure b := by
  rcases keyIs_shape h with ⟨i, t, _, rfl⟩ | ⟨x, t, _, rfl⟩ <;> cases n <;> exact ⟨_, rfl⟩
/-- tuples of numbers and texts -/
def mixSk (P : Program) (w : World) : Sk P w (List Key) where
  knd := tupleKind (mixKind P w)
  st := tupleKind_stays
  cls := fun {A E s k b Q} hk h => by
    have tt := IsTupleKey.typeIs hk
    obtain ⟨o, its, n, ho, _, hd, hi⟩ := hk
    unfold ofAClassStatement
    refine wpAny_bind (wpAny_typeOf tt ?_)
    dsimp only
    have e : (("tuple" : String) == "tuple") = true := by decide
    simp only [e, if_true, Bool.not_true, Bool.false_eq_true, if_false]
    try refine wpAny_bind (wpAny_pure ?_)
    try simp only [Bool.not_true, Bool.false_eq_true, if_false]
    show wpAny _ _ (seqItems? (.ref b) >>= _) _ _ s
    refine wpAny_bind (wpAny_seqItems ho hd ?_)
    dsimp only
    refine wpAny_bind ?_
    show wpAny _ _ (forIn its _ _) _ _ s
    rw [← Array.forIn_toList]
    refine wpAny_forIn_list _ (fun rest r s' => r.1 = none ∧ s' = s ∧ ∀ v ∈ rest, ∃ q, keyIs q v = true) _ ?_ ?_ _ _ ⟨rfl, rfl, items_key hi⟩
    · rintro v rest r s' ⟨e1, rfl, all⟩
      obtain ⟨q, hq⟩ := all v List.mem_cons_self
      rw [cls_key hq]
      refine wpAny_bind (wpAny_pure ?_)
      simp only [Bool.false_eq_true, if_false]
      exact wpAny_pure ⟨rfl, rfl, fun u hu => all u (List.mem_cons_of_mem _ hu)⟩
    · rintro ⟨r1, r2⟩ s' ⟨e1, rfl, _⟩
      simp only at e1
      subst e1
      exact wpAny_pure h
  hby := fun {A E s k b Q} hk h => by
    have tt := IsTupleKey.typeIs hk
    obtain ⟨o, its, n, ho, _, hd, hi⟩ := hk
    unfold hashByValue
    refine wpAny_bind (wpAny_specialOf tt F.slot_tuple_hash.lookup ?_)
    show wpAny _ _ (seqItems? (.ref b) >>= _) _ _ s
    refine wpAny_bind (wpAny_seqItems ho hd ?_)
    refine wpAny_bind ?_
    show wpAny _ _ (forIn its _ _) _ _ s
    rw [← Array.forIn_toList]
    refine wpAny_forIn_list _ (fun rest r s' => (r.1 = none ∨ r.1 = some false) ∧ s' = s ∧ ∀ v ∈ rest, ∃ q, keyIs q v = true) _ ?_ ?_ _ _ ⟨.inl rfl, rfl, items_key hi⟩
    · rintro v rest r s' ⟨e1, rfl, all⟩
      obtain ⟨q, hq⟩ := all v List.mem_cons_self
      obtain ⟨c, ec⟩ := hby_key hq 7
      rw [ec]
      refine wpAny_bind (wpAny_pure ?_)
      have more := fun u hu => all u (List.mem_cons_of_mem _ hu)
      cases c
      · simp only [Bool.not_false, if_true]
        exact wpAny_pure (wpAny_pure (h false))
      · simp only [Bool.not_true, Bool.false_eq_true, if_false]
        exact wpAny_pure ⟨.inl rfl, rfl, more⟩
    · rintro ⟨r1, r2⟩ s' ⟨e1, rfl, _⟩
      simp only at e1
      rcases e1 with rfl | rfl
      · exact wpAny_pure (h true)
      · exact wpAny_pure (h false)
  room := fun A h => h
  kd := fun d => match d with
    | .tup ds => keysD ds
    | _ => none
  inj := fun {d d' k} h h' => by
    cases d <;> first | (cases h; done) | skip
    cases d' <;> first | (cases h'; done) | skip
    exact congrArg D.tup (keysD_inj h h')
end ZL
end
section
set_option Elab.async false
set_option linter.all false
set_option maxRecDepth 100000
/-! LAYER, sets 5: set(list), len(set), sorted(set) as calls. -/
namespace ZL
open PySem PySem.Spec PyProof.Rows L2 Z

def SetO (w : World) (p : Addr) (vs : List V) : HO := .ext fun h => ∃ us, Vals vs us ∧ SetV w h p us
theorem setO_new {P : Program} {w : World} {H : Hp} {h : Heap} {a : Addr} {vs : List V} {us : List Value} (r : Vals vs us) (x : SetV w h a us) : ObjOk P w H h a (SetO w a vs) := by
  obtain ⟨o, es, ep, t, ho, q⟩ := id x
  refine ⟨⟨us, r, x⟩, ⟨o, ho⟩, fun h1 h2 p k => ?_⟩
  obtain ⟨us', r', x'⟩ := p
  exact ⟨us', r', x'.at fun o e => k o e⟩
theorem SetV.perm {w : World} {h : Heap} {a : Addr} {us us' : List Value} (x : SetV w h a us) (p : us.Perm us') : SetV w h a us' := by
  obtain ⟨o, es, ep, t, ho, hx, hd, pm, r⟩ := x
  exact ⟨o, es, ep, t, ho, hx, hd, pm.trans p, r⟩
/-- at p stands a set of vs -/
def IsSt (w : World) (H : Hp) (p : Addr) (vs : List V) : Prop := ∃ φ, H p = some (.ext φ) ∧ ∀ h, φ h → ∃ us, Vals vs us ∧ SetV w h p us
theorem IsSt.of {w : World} {H : Hp} {p : Addr} {vs : List V} (h : H p = some (SetO w p vs)) : IsSt w H p vs := ⟨_, h, fun _ x => x⟩
def tupKeys : D → Option (List Key)
  | .tup ds => keysD ds
  | _ => none
def ScV (p : V × D) : Prop := ∃ k, keyD p.2 = some k ∧ p.1 = kV k
def TpV (K : PySem.W.Frag) (H : Hp) (p : V × D) : Prop := ∃ ks a, tupKeys p.2 = some ks ∧ p.1 = .ref a ∧ SqT K H a (ks.map kV)
theorem kV_is {k : Key} {u : Value} (r : RelV (kV k) u) : keyIs k u = true := by
  cases k with
  | inl i =>
    obtain ⟨t, rfl⟩ := r
    exact keyIs_int i t
  | inr x =>
    obtain ⟨t, rfl⟩ := r
    exact keyIs_str x t
theorem items_kV {P : Program} {w : World} : ∀ {k : List Key} {us : List Value}, Vals (k.map kV) us → ItemsAre (mixKind P w) k us
  | [], _, .nil => .nil
  | n :: k, _, .cons r t => .cons (kV_is r) (items_kV t)
theorem three_of : ∀ {ks : List (V × D)} {us : List Value}, Vals (ks.map (·.1)) us → ∃ k3 : List ((V × Value) × D), k3.map (fun q => (q.1.1, q.2)) = ks ∧ k3.map (fun q => q.1.2) = us ∧ ∀ q ∈ k3, RelV q.1.1 q.1.2
  | [], _, .nil => ⟨[], rfl, rfl, fun q h => by cases h⟩
  | p :: ks, _, @Paired.cons _ _ _ _ u _ _ r t => by
    obtain ⟨k3, e1, e2, e3⟩ := three_of t
    refine ⟨((p.1, u), p.2) :: k3, by rw [List.map_cons, e1], by rw [List.map_cons, e2], fun q h => ?_⟩
    rcases List.mem_cons.mp h with z | z
    · rw [z]
      exact r
    · exact e3 q z
theorem vals_three : ∀ {k3 : List ((V × Value) × D)}, (∀ q ∈ k3, RelV q.1.1 q.1.2) → Vals (k3.map fun q => q.1.1) (k3.map fun q => q.1.2)
  | [], _ => .nil
  | q :: k3, h => .cons (h q List.mem_cons_self) (vals_three fun r hr => h r (List.mem_cons_of_mem _ hr))
section
variable {X : Cx}
def rSetD (K : PySem.W.Frag) (w : World) : List V → Hp → VK → Prop := fun xs H Q => ∃ (l : Addr) (ks : List (V × D)), xs = [.ref l] ∧ SqL K H l (ks.map (·.1)) ∧
  (((∀ p ∈ ks, ScV p) ∧ (pile [] ks).length + 1 < scanBound) ∨ ((∀ p ∈ ks, TpV K H p) ∧ (pile [] ks).length + 1 < 64)) ∧ ∀ a, H a = none → Q (.ref a) (upd H a (SetO w a ((pile [] ks).map (·.1))))
theorem cr_setD (hc : X.calm = true) (hu : X.A.units + 70 < cLine) : CallR X (.type "set") (rSetD X.K X.w) := by
  intro pins s σ H xs us Q I r h
  obtain ⟨l, ks, rfl, hl, hm, q⟩ := h
  rw [Vals.ref1 r]
  obtain ⟨its, rv, pl, hz⟩ := I.list hl
  have hn : H s.heap.objs.size = none := I.hok.fresh (Nat.le_refl _)
  obtain ⟨k3, e1, e2, e3⟩ := three_of rv
  have eU : (k3.map fun q => (q.1.2, q.2)).map (·.1) = its := by
    rw [List.map_map]
    exact e2
  have pV : pile [] ks = (pile [] k3).map fun q => (q.1.1, q.2) := by rw [← e1]; exact pile_map (fun q : V × Value => q.1) k3 []
  have pU : pile [] (k3.map fun q => (q.1.2, q.2)) = (pile [] k3).map fun q => (q.1.2, q.2) := pile_map (fun q : V × Value => q.2) k3 []
  have lenU : (pile [] (k3.map fun q => (q.1.2, q.2))).length = (pile [] ks).length := by rw [pU, pV, List.length_map, List.length_map]
  have rel : Vals ((pile [] ks).map (·.1)) ((pile [] (k3.map fun q => (q.1.2, q.2))).map (·.1)) := by
    rw [pU, pV, List.map_map, List.map_map]
    exact vals_three fun q hq => e3 q (pile_sub k3 q hq)
  have fin : ∀ (h' : Heap) (tk : Nat) (L : List (Value × D)), SetV X.w h' s.heap.objs.size (L.map (·.1)) → L.Perm (pile [] (k3.map fun q => (q.1.2, q.2))) → (∀ b o, s.heap.get? b = some o → h'.get? b = some o) →
      ∃ v H', Inv X pins σ H' { s with heap := h', toks := tk } ∧ RelV v (.ref s.heap.objs.size) ∧ Q v H' := fun h' tk L sv pm k =>
    ⟨.ref s.heap.objs.size, upd H s.heap.objs.size (SetO X.w s.heap.objs.size ((pile [] ks).map (·.1))), I.laid (t' := tk) k (Nat.le_refl _) (setO_new rel (sv.perm (pm.map _))), rfl, q _ hn⟩
  have inks : ∀ q ∈ k3, (q.1.1, q.2) ∈ ks := fun q hq => by
    rw [← e1]
    exact List.mem_map.mpr ⟨q, hq, rfl⟩
  rcases hm with ⟨hm, few⟩ | ⟨hm, few⟩
  · refine md_set (mdScan X.prog X.w) (k3.map fun q => (q.1.2, q.2)) (I.ok.hd hc) pl.isList (by simpa using eU.symm) (fun p hp => ?_) (by rw [lenU]; exact few) (by omega) fin
    obtain ⟨q, hq, rfl⟩ := List.mem_map.mp hp
    obtain ⟨k, k1, k2⟩ := hm _ (inks q hq)
    have := e3 q hq
    dsimp only at k2
    rw [k2] at this
    exact ⟨k, k1, kV_is this⟩
  · refine md_set (mdSeek (mixSk X.prog X.w)) (k3.map fun q => (q.1.2, q.2)) (I.ok.hd hc) pl.isList (by simpa using eU.symm) (fun p hp => ?_) (by rw [lenU]; exact few) (by omega) fin
    obtain ⟨q, hq, rfl⟩ := List.mem_map.mp hp
    obtain ⟨k, a, k1, k2, k4⟩ := hm _ (inks q hq)
    have := e3 q hq
    dsimp only at k2
    rw [k2] at this
    have this : q.1.2 = .ref a := this
    obtain ⟨ts, tv, ⟨o, ho, oc, n, od⟩, _⟩ := I.tuple k4
    refine ⟨k, a, ?_, this, o, ts.toArray, n, ho, oc, od, by simpa using items_kV tv⟩
    show (match q.2 with | .tup ds => keysD ds | _ => none) = some k
    dsimp only at k1
    cases hd : q.2 <;> rw [hd] at k1 <;> first | exact k1 | cases k1
def rLenS (w : World) : List V → Hp → VK → Prop := fun xs H Q => ∃ a vs, xs = [.ref a] ∧ IsSt w H a vs ∧ Q (.int vs.length) H
theorem cr_lenS : CallR X (.builtin "len") (rLenS X.w) := by
  intro pins s σ H xs us Q I r h
  obtain ⟨a, vs, rfl, ha, q⟩ := h
  rw [Vals.ref1 r]
  obtain ⟨φ, ha, hφ⟩ := ha
  obtain ⟨us, rv, o, es, ep, t, ho, hx, hd, pm, hf, _, _, hb⟩ := hφ _ (I.hok a _ ha).1
  have e : es.size = vs.length := by rw [rv.length, ← pm.length_eq, List.length_map, Array.length_toList]
  exact call_len_set ho hx hd hf (by unfold scanBound at hb; omega) ⟨.int vs.length, H, I.tok _, ⟨_, by rw [e]⟩, q⟩
theorem each_perm {α β : Type} {R : α → β → Prop} {us out : List α} (p : out.Perm us) : ∀ {bs : List β}, W.EachIs R us bs → ∃ cs, W.EachIs R out cs ∧ cs.Perm bs := by
  induction p with
  | nil => intro bs h; exact ⟨bs, h, .refl _⟩
  | cons x _ ih =>
    intro bs h
    cases h with
    | cons h1 h2 =>
      obtain ⟨cs, c1, c2⟩ := ih h2
      exact ⟨_ :: cs, .cons h1 c1, c2.cons _⟩
  | swap x y l =>
    intro bs h
    cases h with
    | cons h1 h2 =>
      cases h2 with
      | cons h2 h3 => exact ⟨_ :: _ :: _, .cons h2 (.cons h1 h3), List.Perm.swap ..⟩
  | trans _ _ ih1 ih2 =>
    intro bs h
    obtain ⟨cs, c1, c2⟩ := ih2 h
    obtain ⟨ds, d1, d2⟩ := ih1 c1
    exact ⟨ds, d1, d2.trans c2⟩
end
end ZL
end
section
set_option Elab.async false
set_option linter.all false
set_option maxRecDepth 100000
/-! LAYER, sets 6: sorted(set); the plain side: what is piled is what is deduped, and sorts alike. -/
namespace ZL
open PySem PySem.Spec PyProof.Rows L2 Z

section
variable {X : Cx} {K : PySem.W.Frag} {H : Hp}
theorem each_rel : ∀ {L : List (V × PyData)} {us : List Value}, Vals (L.map (·.1)) us → W.EachIs (fun u (b : V × PyData) => RelV b.1 u) us L
  | [], _, .nil => .nil
  | _ :: _, _, .cons r t => .cons r (each_rel t)
theorem each_in {α β : Type} {R : α → β → Prop} : ∀ {us : List α} {bs : List β}, W.EachIs R us bs → W.EachIs (fun u b => R u b ∧ b ∈ bs) us bs
  | _, _, .nil => .nil
  | _, _, .cons r t => .cons ⟨r, List.mem_cons_self⟩ ((each_in t).mono fun _ _ z => ⟨z.1, List.mem_cons_of_mem _ z.2⟩)
theorem vals_of_each : ∀ {L : List (V × PyData)} {us : List Value}, W.EachIs (fun u (b : V × PyData) => RelV b.1 u) us L → Vals (L.map (·.1)) us
  | [], _, .nil => .nil
  | _ :: _, _, .cons r t => .cons r (vals_of_each t)
def rSortS (K : PySem.W.Frag) (w : World) : List V → Hp → VK → Prop := fun xs H Q => ∃ (a : Addr) (L0 : List (V × PyData)), xs = [.ref a] ∧ IsSt w H a (L0.map (·.1)) ∧ (∀ p ∈ L0, Dp K H p.1 p.2) ∧ W.AllAlike (L0.map (·.2)) ∧ W.Sortable (L0.map (·.2)) ∧
  (∀ p ∈ L0, p.2.depth ≤ 60) ∧ ∀ (L : List (V × PyData)) (p : Addr), L.Perm L0 → H p = none → Q (.ref p) (upd H p (.lst ((L.mergeSort (W.dataLe false Prod.snd)).map Prod.fst)))
theorem cr_sortS (hc : X.calm = true) (hu : X.A.units + 70 < cLine) : CallR X (.builtin "sorted") (rSortS X.K X.w) := by
  intro pins s σ H xs us Q I r h
  obtain ⟨a, L0, rfl, ha, hd, hal, hso, hdep, q⟩ := h
  rw [Vals.ref1 r]
  obtain ⟨φ, ha, hφ⟩ := ha
  obtain ⟨vs, rv, o, es, ep, t, ho, hx, hda, pm, hf, hr, hl, hb⟩ := hφ _ (I.hok a _ ha).1
  have e0 := each_rel rv
  have er0 : W.EachIs (fun u (b : V × PyData) => RelV b.1 u ∧ ∃ as, PySem.Reads s.heap u b.2 as) vs L0 := (each_in e0).mono fun u b z => ⟨z.1, Dp.reads I _ _ _ (hd _ z.2) z.1⟩
  refine Calls.call_function_entry kind_sorted plain_sorted entry_sorted (args_sorted1 _) ?_
  unfold Builtin.«sorted»
  refine wpAny_bind (m := checkCount "sorted" 1 1 _) (wpAny_pure ?_)
  refine wpAny_bind (collect_set (A := X.A.in1) (I.ok.hd hc) ⟨o, ho, hx.1, hda⟩ hf hb hr hl fun s1 out k1 hz g1 o1 po => ?_)
  obtain ⟨L, e1, pL⟩ := each_perm (po.trans pm) er0
  have len : out.length = L.length := e1.length
  have hL : out.length ≤ sizeLine := by
    rw [po.length_eq, List.length_map, Array.length_toList]
    exact fits_of_scanBound hb
  refine wpAny_bind (wpAny_newList ?_ hL)
  have oL : (s1.heap.push (seqObj "list" out.toArray 0)).get? s1.heap.objs.size = some (seqObj "list" out.toArray 0) := Heap.get?_push_size _ rfl
  have keep : ∀ b u, s.heap.get? b = some u → (W.sortingHeap (s1.heap.push (seqObj "list" out.toArray 0)) s1.heap.objs.size out).get? b = some u := fun b u e =>
    W.sortingHeap_old (Nat.ne_of_lt (Heap.lt_size (k1 b u e))) (Heap.get?_push_of_some _ (k1 b u e))
  have er1 : W.EachIs (fun u (b : V × PyData) => ∃ as, PySem.Reads (W.sortingHeap (s1.heap.push (seqObj "list" out.toArray 0)) s1.heap.objs.size out) u b.2 as) out L := e1.mono fun u b ⟨_, as, z⟩ => ⟨as, PyProof.Rows.Reads.keeps keep z⟩
  have pmem : ∀ b ∈ L, b ∈ L0 := fun b hb' => pL.mem_iff.mp hb'
  have hal1 : W.AllAlike (L.map Prod.snd) := fun d hd' d' hd2 => hal d ((pL.map _).mem_iff.mp hd') d' ((pL.map _).mem_iff.mp hd2)
  have hso1 : W.Sortable (L.map Prod.snd) := hso.imp (fun z d hd' => z d ((pL.map _).mem_iff.mp hd')) (fun z d hd' => z d ((pL.map _).mem_iff.mp hd'))
  have srt := W.sortVals_data (enc := Prod.snd) (R := fun u (b : V × PyData) => RelV b.1 u) false (e1.mono fun _ _ z => z.1) er1 hal1
  refine wpAny_bind (wpAny_holding (wpAny_call_entry slot_list_sort ⟨_, oL, rfl⟩ entry_list_sort (W.list_sort_vals (s := { s1 with heap := s1.heap.push (seqObj "list" out.toArray 0) }) oL
    (W.SortsAt.data (s := { s1 with heap := W.sortingHeap (s1.heap.push (seqObj "list" out.toArray 0)) s1.heap.objs.size out }) (W.each_map (R := fun v d => ∃ as, PySem.Reads (W.sortingHeap (s1.heap.push (seqObj "list" out.toArray 0)) s1.heap.objs.size out) v d as) Prod.snd er1) hal1 hso1
      (W.bound_map fun b hb' => by
        have := hdep b (pmem b hb')
        show X.A.units + 2 + b.2.depth < cLine
        omega)) hL ⟨.none, rfl, ?_⟩) (args_list_sort _)))
  have hv : Vals ((L.mergeSort (W.dataLe false Prod.snd)).map Prod.fst) (W.sortVals (W.dataKind (W.sortingHeap (s1.heap.push (seqObj "list" out.toArray 0)) s1.heap.objs.size out) (L.map Prod.snd)) false out out) := vals_of_each srt
  obtain ⟨c, oc⟩ := PyProof.Rows.sortedHeap_at (vs := out) (out := (W.sortVals (W.dataKind (W.sortingHeap (s1.heap.push (seqObj "list" out.toArray 0)) s1.heap.objs.size out) (L.map Prod.snd)) false out out).toArray) oL
  have hn : H s1.heap.objs.size = none := I.hok.fresh hz
  have hl2 : ((L.mergeSort (W.dataLe false Prod.snd)).map Prod.fst).length ≤ sizeLine := by
    rw [List.length_map, List.length_mergeSort, ← len]
    exact hL
  have kp : ∀ b u, s.heap.get? b = some u → (sortedHeap (s1.heap.push (seqObj "list" out.toArray 0)) s1.heap.objs.size out (W.sortVals (W.dataKind (W.sortingHeap (s1.heap.push (seqObj "list" out.toArray 0)) s1.heap.objs.size out) (L.map Prod.snd)) false out out).toArray).get? b = some u := fun b u e => by
    have z := k1 b u e
    have lt := Heap.lt_size z
    rw [sortedHeap_old (Nat.ne_of_lt lt) (by rw [size_push']; exact Nat.lt_succ_of_lt lt)]
    exact Heap.get?_push_of_some _ z
  generalize W.sortVals (W.dataKind (W.sortingHeap (s1.heap.push (seqObj "list" out.toArray 0)) s1.heap.objs.size out) (L.map Prod.snd)) false out out = sv at hv oc kp ⊢
  refine wpAny_pure ⟨_, rfl, ?_⟩
  show ∃ v H', Inv X pins σ H' _ ∧ RelV v _ ∧ Q v H'
  obtain ⟨h1, gn, dr, tk, os⟩ := s1
  dsimp only at g1 o1 hz oc kp hn ⊢
  subst g1 o1
  have J : Inv X pins σ (upd H h1.objs.size (.lst ((L.mergeSort (W.dataLe false Prod.snd)).map Prod.fst))) { s with heap := sortedHeap (h1.push (seqObj "list" out.toArray 0)) h1.objs.size out sv.toArray, drawn := dr, toks := tk } :=
    I.call (ch := []) (Un.laid kp hz hn) (I.hok.laid kp hz ⟨hl2, sv, c, hv, oc⟩) I.bare (fun _ z => nomatch z)
  exact ⟨.ref h1.objs.size, _, J, rfl, q L _ pL hn⟩
end
end ZL
end
section
set_option linter.all false
/-! PLAIN: sets. -/
namespace Z
open M
def flat1 : D → Bool
  | .int _ => true
  | .str _ => true
  | _ => false
def flatT : D → Bool
  | .tup xs => xs.all flat1
  | _ => false
def setable (xs : List D) : Bool := (xs.all flat1 && decide (xs.length ≤ 4000)) || (xs.all flatT && decide ((dedup xs).length ≤ 60))
/-- a set: its members, each once, by the first place -/
def oSet : D → Option D
  | .lst xs => if setable xs then some (.set (dedup xs)) else none
  | _ => none
def oLenS : D → Option D
  | .set xs => some (.int xs.length)
  | _ => none
def oSortS : D → Option D
  | .set xs => if sortable xs && (xs.all flat1 || xs.all flatT) then some (.lst (sortL xs)) else none
  | _ => none
/-- {e for g in it if t}, of ints and texts -/
def lsGo (g : Tg) (t : Ex) (e : Ex) : List D → Sl → List D → M (List D)
  | [], _, acc => ret acc
  | d :: ds, env, acc => bnd (opt (g d env)) fun env1 => bnd (t env1) fun b => match b with
    | .bl true => bnd (e env1) fun v => if acc.length < 4000 ∧ flat1 v = true then lsGo g t e ds env (acc ++ [v]) else no
    | .bl false => lsGo g t e ds env acc
    | _ => no
def xSc (it : Iw) (g : Tg) (t : Ex) (e : Ex) : Ex := fun env => bnd (it env) fun ds => bnd (nox (lsGo g t e ds env [])) fun r => if r.length ≤ 4000 then ret (.set (dedup r)) else no
def ls2Go (g : Tg) (t : Ex) (it1 : Iw) (g1 : Tg) (t1 : Ex) (e : Ex) : List D → Sl → List D → M (List D)
  | [], _, acc => ret acc
  | d :: ds, env, acc => bnd (opt (g d env)) fun env1 => bnd (t env1) fun b => match b with
    | .bl true => bnd (it1 env1) fun es => bnd (lsGo g1 t1 e es env1 acc) fun acc1 => ls2Go g t it1 g1 t1 e ds env acc1
    | .bl false => ls2Go g t it1 g1 t1 e ds env acc
    | _ => no
def xSc2 (it : Iw) (g : Tg) (t : Ex) (it1 : Iw) (g1 : Tg) (t1 : Ex) (e : Ex) : Ex := fun env => bnd (it env) fun ds => bnd (nox (ls2Go g t it1 g1 t1 e ds env [])) fun r => if r.length ≤ 4000 then ret (.set (dedup r)) else no
theorem flat1_eq : ∀ {x y : D}, flat1 x = true → flat1 y = true → eqD x y = true → x = y
  | .int i, .int j, _, _, h => by
    simp only [eqD, decide_eq_true_eq] at h
    rw [h]
  | .str i, .str j, _, _, h => by
    simp only [eqD, decide_eq_true_eq] at h
    rw [h]
  | .int i, .str j, _, _, h => by simp [eqD] at h
  | .str i, .int j, _, _, h => by simp [eqD] at h
  | .non, _, h, _, _ => by simp [flat1] at h
  | .bl _, _, h, _, _ => by simp [flat1] at h
  | .lst _, _, h, _, _ => by simp [flat1] at h
  | .tup _, _, h, _, _ => by simp [flat1] at h
  | .dct _, _, h, _, _ => by simp [flat1] at h
  | .set _, _, h, _, _ => by simp [flat1] at h
  | .ins _ _, _, h, _, _ => by simp [flat1] at h
  | .ftp _, _, h, _, _ => by simp [flat1] at h
  | .scr _, _, h, _, _ => by simp [flat1] at h
  | .int _, .non, _, h, _ => by simp [flat1] at h
  | .int _, .bl _, _, h, _ => by simp [flat1] at h
  | .int _, .lst _, _, h, _ => by simp [flat1] at h
  | .int _, .tup _, _, h, _ => by simp [flat1] at h
  | .int _, .dct _, _, h, _ => by simp [flat1] at h
  | .int _, .set _, _, h, _ => by simp [flat1] at h
  | .int _, .ins _ _, _, h, _ => by simp [flat1] at h
  | .int _, .ftp _, _, h, _ => by simp [flat1] at h
  | .int _, .scr _, _, h, _ => by simp [flat1] at h
  | .str _, .non, _, h, _ => by simp [flat1] at h
  | .str _, .bl _, _, h, _ => by simp [flat1] at h
  | .str _, .lst _, _, h, _ => by simp [flat1] at h
  | .str _, .tup _, _, h, _ => by simp [flat1] at h
  | .str _, .dct _, _, h, _ => by simp [flat1] at h
  | .str _, .set _, _, h, _ => by simp [flat1] at h
  | .str _, .ins _ _, _, h, _ => by simp [flat1] at h
  | .str _, .ftp _, _, h, _ => by simp [flat1] at h
  | .str _, .scr _, _, h, _ => by simp [flat1] at h
theorem flatL_eq : ∀ {xs ys : List D}, xs.all flat1 = true → ys.all flat1 = true → eqL xs ys = true → xs = ys
  | [], [], _, _, _ => rfl
  | [], _ :: _, _, _, h => by simp [eqL] at h
  | _ :: _, [], _, _, h => by simp [eqL] at h
  | x :: xs, y :: ys, h1, h2, h => by
    simp only [List.all_cons, Bool.and_eq_true] at h1 h2
    simp only [eqL, Bool.and_eq_true] at h
    rw [flat1_eq h1.1 h2.1 h.1, flatL_eq h1.2 h2.2 h.2]
theorem flatT_eq {x y : D} (h1 : flatT x = true) (h2 : flatT y = true) (h : eqD x y = true) : x = y := by
  cases x <;> first | (simp [flatT] at h1; done) | skip
  cases y <;> first | (simp [flatT] at h2; done) | skip
  simp only [flatT] at h1 h2
  simp only [eqD] at h
  rw [flatL_eq h1 h2 h]
theorem flat1_refl {x : D} (h : flat1 x = true) : eqD x x = true := by
  cases x <;> first | (simp [flat1] at h; done) | simp [eqD]
theorem flatL_refl : ∀ {xs : List D}, xs.all flat1 = true → eqL xs xs = true
  | [], _ => rfl
  | x :: xs, h => by
    simp only [List.all_cons, Bool.and_eq_true] at h
    simp only [eqL, flat1_refl h.1, flatL_refl h.2, Bool.and_self]
theorem flatT_refl {x : D} (h : flatT x = true) : eqD x x = true := by
  cases x <;> first | (simp [flatT] at h; done) | skip
  simp only [flatT] at h
  simp only [eqD]
  exact flatL_refl h
/-- on xs, eqD is equality -/
def EqOn (xs : List D) : Prop := ∀ x ∈ xs, ∀ y ∈ xs, (eqD x y = true ↔ x = y)
theorem eqOn1 {xs : List D} (h : xs.all flat1 = true) : EqOn xs := fun x hx y hy => by
  have h' := List.all_eq_true.mp h
  exact ⟨flat1_eq (h' x hx) (h' y hy), fun e => e ▸ flat1_refl (h' x hx)⟩
theorem eqOnT {xs : List D} (h : xs.all flatT = true) : EqOn xs := fun x hx y hy => by
  have h' := List.all_eq_true.mp h
  exact ⟨flatT_eq (h' x hx) (h' y hy), fun e => e ▸ flatT_refl (h' x hx)⟩
theorem eqOn_set {xs : List D} (h : setable xs = true) : EqOn xs := by
  unfold setable at h
  rw [Bool.or_eq_true, Bool.and_eq_true, Bool.and_eq_true] at h
  exact h.elim (fun z => eqOn1 z.1) (fun z => eqOnT z.1)
theorem dedup_mem {xs : List D} (e : EqOn xs) (x : D) : x ∈ dedup xs ↔ x ∈ xs := by
  induction xs with
  | nil => simp [dedup]
  | cons y ys ih =>
    have e' : EqOn ys := fun a ha b hb => e a (List.mem_cons_of_mem _ ha) b (List.mem_cons_of_mem _ hb)
    rw [dedup, List.mem_cons, List.mem_cons, List.mem_filter, ih e']
    constructor
    · rintro (z | z)
      · exact .inl z
      · exact .inr z.1
    · rintro (z | z)
      · exact .inl z
      · by_cases c : x = y
        · exact .inl c
        · refine .inr ⟨z, ?_⟩
          have := e y List.mem_cons_self x (List.mem_cons_of_mem _ z)
          cases q : eqD y x
          · rfl
          · exact absurd (this.mp q).symm c
theorem dedup_nodup {xs : List D} (e : EqOn xs) : (dedup xs).Nodup := by
  induction xs with
  | nil => simp [dedup]
  | cons y ys ih =>
    have e' : EqOn ys := fun a ha b hb => e a (List.mem_cons_of_mem _ ha) b (List.mem_cons_of_mem _ hb)
    rw [dedup]
    refine List.nodup_cons.mpr ⟨fun h => ?_, (ih e').filter _⟩
    have := (List.mem_filter.mp h).2
    rw [(e y List.mem_cons_self y List.mem_cons_self).mpr rfl] at this
    cases this
end Z
end
section
set_option Elab.async false
set_option linter.all false
set_option maxRecDepth 100000
/-! LAYER, sets 7: sets as data: set(e), len(set), sorted(set). -/
namespace ZL
open PySem PySem.Spec PyProof.Rows L2 Z

/-- one order of all data -/
def leT (x y : D) : Bool := W.dataLe false toPy x y
abbrev tkO : KeyOrd := PyProof.Rows.listOrd itemOrd
theorem leT_iff (x y : D) : leT x y = true ↔ KeyOrd.kle (O := tkO) (W.keyToks (toPy x)) (W.keyToks (toPy y)) := by
  unfold leT W.dataLe W.sortLe KeyOrd.kle
  simp only [cond_false, Bool.not_eq_true']
theorem leT_trans (a b c : D) (h1 : leT a b = true) (h2 : leT b c = true) : leT a c = true := (leT_iff a c).mpr (KeyOrd.kle_trans ((leT_iff a b).mp h1) ((leT_iff b c).mp h2))
theorem leT_total (a b : D) : (leT a b || leT b a) = true := by
  rw [Bool.or_eq_true]
  cases h : leT a b with
  | true => exact .inl rfl
  | false =>
    right
    rw [leT_iff]
    have : ¬ KeyOrd.kle (O := tkO) (W.keyToks (toPy a)) (W.keyToks (toPy b)) := fun z => by
      rw [(leT_iff a b).mpr z] at h
      cases h
    refine KeyOrd.klt_asymm (O := tkO) ?_
    unfold KeyOrd.kle at this
    unfold KeyOrd.klt
    cases q : (KeyOrd.blt tkO (W.keyToks (toPy b)) (W.keyToks (toPy a))) with
    | true => rfl
    | false => exact absurd q this
theorem leT_antisymm {a b : D} (ha : pln a = true) (hb : pln b = true) (k : alk a b = true) (h1 : leT a b = true) (h2 : leT b a = true) : eqD a b = true := by
  have e : W.keyToks (toPy a) = W.keyToks (toPy b) := KeyOrd.kle_antisymm (O := tkO) ((leT_iff a b).mp h1) ((leT_iff b a).mp h2)
  rw [← py_eqv a b ha hb]
  cases q : PyData.eqv (toPy a) (toPy b) with
  | true => rfl
  | false =>
    have z := (W.toks_eqv _ _ (by rw [py_alike a b ha hb]; exact k)).2 q [] [.inl 0]
    rw [e, List.append_nil] at z
    have z1 : PyProof.Rows.lexLt itemOrd (W.keyToks (toPy b)) (W.keyToks (toPy b)) = false := PyProof.Rows.lex_irrefl (O := itemOrd) _
    have z2 : PyProof.Rows.lexLt itemOrd (W.keyToks (toPy b)) (W.keyToks (toPy b) ++ [Sum.inl 0]) = true := by
      have := W.lex_pre (W.keyToks (toPy b)) [] [Sum.inl 0]
      rw [List.append_nil] at this
      rw [this]
      rfl
    rw [z1, z2] at z
    cases z
theorem leD_leT {xs : List D} (h : sortable xs = true) : ∀ a ∈ xs, ∀ b ∈ xs, leD a b = leT a b := fun a ha b hb => by
  obtain ⟨h1, h2, _⟩ := sortable_of h
  show (!ltD b a) = !W.dataLt (toPy b) (toPy a)
  rw [py_lt _ _ (h2 b hb) (h2 a ha) (h1 b hb a ha)]
/-- the sorted list is one -/
theorem sortL_perm {xs ys : List D} (h : xs.Perm ys) (hs : sortable ys = true) (he : EqOn ys) : sortL xs = sortL ys := by
  have e1 : sortL xs = xs.mergeSort leT := W.sort_congr fun a ha b hb => leD_leT hs a (h.mem_iff.mp ha) b (h.mem_iff.mp hb)
  have e2 : sortL ys = ys.mergeSort leT := W.sort_congr fun a ha b hb => leD_leT hs a ha b hb
  rw [e1, e2]
  obtain ⟨h1, h2, _⟩ := sortable_of hs
  refine List.Perm.eq_of_pairwise (le := fun a b => leT a b = true) (fun a b ha hb l1 l2 => ?_) (List.pairwise_mergeSort leT_trans leT_total _) (List.pairwise_mergeSort leT_trans leT_total _)
    ((List.mergeSort_perm _ _).trans (h.trans (List.mergeSort_perm _ _).symm))
  have ma : a ∈ ys := h.mem_iff.mp ((List.mergeSort_perm _ _).mem_iff.mp ha)
  have mb : b ∈ ys := (List.mergeSort_perm _ _).mem_iff.mp hb
  exact (he a ma b mb).mp (leT_antisymm (h2 a ma) (h2 b mb) (h1 a ma b mb) l1 l2)
theorem pile_dedup {α : Type} {ks : List (α × D)} (he : EqOn (ks.map (·.2))) : ((pile [] ks).map (·.2)).Perm (dedup (ks.map (·.2))) :=
  (List.perm_ext_iff_of_nodup (pile_nodup ks [] List.nodup_nil) (dedup_nodup he)).mpr fun d => by
    rw [pile_mem, dedup_mem he]
    simp
section
variable {K : PySem.W.Frag} {T : Tb} {G H : Hp}
def SetRep (K : PySem.W.Frag) (T : Tb) (w : World) (G H : Hp) (d : D) (p : Addr) : Prop := ∃ (xs : List D) (L : List (V × D)), d = .set xs ∧ (L.map (·.2)).Perm xs ∧ (∀ q ∈ L, Rep K T G q.2 q.1) ∧ IsSt w H p (L.map (·.1)) ∧ L.length ≤ lim
def tSt (K : PySem.W.Frag) (T : Tb) (w : World) (W : XK) (fl : List Flg) (F : Z.Ex) : TE := fun σ H Q => ∃ B C G0 H0 G env b, Good K T fl B C G0 H0 G H σ env b ∧
  oW (fun d b' => ∀ G' H' p, Stp B G H G' H' → BagAt B H' b' → H p = none → G' p = none → SetRep K T w G' H' d p → Q (.ref p) H') (XOk K T W B C G0 H0) (F env b)
theorem keyD_kV {d : D} {v : V} (h : flat1 d = true) (r : Rep K T G d v) : ∃ k, keyD d = some k ∧ v = kV k := by
  cases d <;> first | (simp [flat1] at h; done) | skip
  · unfold Rep at r
    exact ⟨.inl _, rfl, r⟩
  · unfold Rep at r
    exact ⟨.inr _, rfl, r⟩
theorem keysD_kV : ∀ {ds : List D} {vs : List V}, ds.all flat1 = true → Reps K T G ds vs → ∃ ks, keysD ds = some ks ∧ vs = ks.map kV
  | [], vs, _, r => by
    unfold Reps at r
    exact ⟨[], rfl, r⟩
  | d :: ds, vs, h, r => by
    unfold Reps at r
    obtain ⟨v, us, rfl, r1, r2⟩ := r
    simp only [List.all_cons, Bool.and_eq_true] at h
    obtain ⟨k, k1, rfl⟩ := keyD_kV h.1 r1
    obtain ⟨ks, k2, rfl⟩ := keysD_kV h.2 r2
    exact ⟨k :: ks, by simp [keysD, k1, k2], rfl⟩
def rSetA (K : PySem.W.Frag) (w : World) := rSetD K w
theorem set_laid {w : World} {B : List Addr} {x d : D} {u : V} {Q : VK} (s : Sub G H) (hu : RepB K T B G H x u) (e : oSet x = some d)
    (q : ∀ p H', H' = upd H p (H' p |>.getD (.lst [])) → Stp [] G H G H' → H p = none → SetRep K T w G H' d p → Q (.ref p) H') : rSetD K w [u] H Q := by
  unfold oSet at e
  split at e
  · rename_i xs
    split at e
    · rename_i hs
      cases e
      obtain ⟨p, vs, rfl, h1, h2⟩ := hu.lst s
      have len := h2.length
      have es : (vs.zip xs).map (·.2) = xs := List.map_snd_zip (by omega)
      have ef : (vs.zip xs).map (·.1) = vs := List.map_fst_zip (by omega)
      have eo : EqOn ((vs.zip xs).map (·.2)) := by
        rw [es]
        exact eqOn_set hs
      have pd := pile_dedup eo
      rw [es] at pd
      have plen : (pile [] (vs.zip xs)).length = (dedup xs).length := by
        have := pd.length_eq
        rwa [List.length_map] at this
      have ple : (pile [] (vs.zip xs)).length ≤ xs.length := by
        have : ∀ (ks L : List (V × D)), (pile L ks).length ≤ L.length + ks.length := by
          intro ks
          induction ks with
          | nil => intro L; exact Nat.le_refl _
          | cons p ks ih =>
            intro L
            refine Nat.le_trans (ih (pile1 L p)) ?_
            have : (pile1 L p).length ≤ L.length + 1 := by
              unfold pile1
              split
              · omega
              · exact Nat.le_refl _
            rw [List.length_cons]
            omega
        have := this (vs.zip xs) []
        rw [List.length_zip] at this
        simp only [List.length_nil] at this
        omega
      have rz := reps_zip h2
      have small : (pile [] (vs.zip xs)).length ≤ 4000 := by
        unfold setable at hs
        simp only [Bool.or_eq_true, Bool.and_eq_true, decide_eq_true_eq] at hs
        rcases hs with hs | hs
        · omega
        · omega
      refine ⟨p, vs.zip xs, rfl, by rw [ef]; exact SqL.of h1, ?_, fun a ha => ?_⟩
      · unfold setable at hs
        simp only [Bool.or_eq_true, Bool.and_eq_true, decide_eq_true_eq, List.all_eq_true] at hs
        rcases hs with ⟨a1, a2⟩ | ⟨a1, a2⟩
        · refine .inl ⟨fun q hq => ?_, by unfold scanBound; omega⟩
          exact keyD_kV (a1 _ (List.of_mem_zip hq).2) (rz q hq)
        · refine .inr ⟨fun q hq => ?_, by omega⟩
          have f := a1 _ (List.of_mem_zip hq).2
          have r := rz q hq
          obtain ⟨v, d⟩ := q
          dsimp only at f r
          cases d <;> first | (simp [flatT] at f; done) | skip
          simp only [flatT] at f
          unfold Rep at r
          obtain ⟨a, us, r1, r2, r3⟩ := r
          obtain ⟨ks, k1, rfl⟩ := keysD_kV f r3
          exact ⟨ks, a, k1, r1, sub_t s r2⟩
      · have st : Stp [] G H G (upd H a (SetO w a ((pile [] (vs.zip xs)).map (·.1)))) := Stp.laid s ha
        refine q a _ ?_ st ha ⟨dedup xs, pile [] (vs.zip xs), rfl, pd, fun q hq => rz q (pile_sub _ q hq), .of upd_same, Nat.le_trans small (by decide)⟩
        funext b
        simp only [upd]
        split <;> simp
    · cases e
  · cases e
end
end ZL
end
section
set_option Elab.async false
set_option linter.all false
set_option maxRecDepth 100000
/-! LAYER, sets 8: the rules. -/
namespace ZL
open PySem PySem.Spec PyProof.Rows L2 Z

section
variable {X : Cx} {K : PySem.W.Frag} {T : Tb} {fl : List Flg} {W : XK} {e : Expr} {p pos : Pos} {F : Z.Ex} {Fs : Z.Exs}
theorem semS {w : World} {B : List Addr} {G H : Hp} {ds : List D} {d : D} {us : List V} {Q : VK} (s : Sub G H) (hu : RepsB K T B G H ds us) (e : o1 oSet ds = some d)
    (q : ∀ p H', Stp [] G H G H' → H p = none → SetRep K T w G H' d p → Q (.ref p) H') : rSetD K w us H Q := by
  unfold o1 at e
  split at e
  · obtain ⟨u, rfl, h1⟩ := repsB1 hu
    exact set_laid s h1 e fun p H' _ st hp r => q p H' st hp r
  · cases e
theorem dst_set (hc : X.calm = true) (hu : X.A.units + 70 < cLine) (hK : X.K = K) (hg : Gl X "set") (hm : X.mg "set" = none) (ha : PA X [e] (tAb K T W fl Fs)) (he : starEach [e] X.env = (false, eval e X.env) :: starEach [] X.env := by rfl) :
    PE X (.Call (.Name "set" p) [e] [] pos) (tSt K T X.w W fl (xA (o1 oSet) Fs)) := by
  subst hK
  exact PE.le (pe_callTy (cr_setD hc hu) hg hm PyProof.Rows.boot_set ha (by decide) (by decide) he rfl) fun σ H Q ⟨B, C, G0, H0, G, env, b, gd, q⟩ => tAb_then gd q fun x b1 G1 H1 u s1 hb1 r1 g1 q => by
    obtain ⟨d, eg, q⟩ := q.opt
    exact semS s1.i r1 eg fun p H' s3 hp r3 => q G1 H' p (s1.trans s3.pure) (hb1.keep s3) (s1.back hp) (s1.i.free hp) r3
theorem tSt_then {w : World} {α : Type} {k : D → M α} {σ : L2.St} {H : Hp} {Q : VK} {B C : List Addr} {G0 H0 G : Hp} {env : Sl} {b : Bag} {P : α → Bag → Prop} (g : Good K T fl B C G0 H0 G H σ env b)
    (h : oW P (XOk K T W B C G0 H0) (M.bnd (F env) k b)) (q : ∀ d b1 G1 H1 p, Stp B G H G1 H1 → BagAt B H1 b1 → H p = none → G1 p = none → SetRep K T w G1 H1 d p → Good K T fl B C G0 H0 G1 H1 σ env b1 → oW P (XOk K T W B C G0 H0) (k d b1) → Q (.ref p) H1) : tSt K T w W fl F σ H Q :=
  ⟨B, C, G0, H0, G, env, b, g, h.bnd.imp fun d b1 h1 G1 H1 p s hb hp gp r => q d b1 G1 H1 p s hb hp gp r (g.step s hb) h1⟩
theorem tSt_pa {w : World} (he : PE X e (tSt K T w W fl F)) (hs : starEach [e] X.env = (false, eval e X.env) :: starEach [] X.env := by rfl) : PA X [e] (tCons (tSt K T w W fl F) tNil) := pa_cons he pa_nil hs
/-- len of a set -/
theorem de_lenS (hK : X.K = K) (hg : Gl X "len") (hm : X.mg "len" = none) (ha : PE X e (tSt K T X.w W fl F)) (he : starEach [e] X.env = (false, eval e X.env) :: starEach [] X.env := by rfl) :
    PE X (.Call (.Name "len" p) [e] [] pos) (tE K T W fl (x1 oLenS F)) :=
  PE.le (pe_callB cr_lenS hg hm PySem.boot_len (tSt_pa ha he) (by decide) (by decide) he rfl) fun σ H Q ⟨B, C, G0, H0, G, env, b, gd, q⟩ => by
    show tSt K T X.w W fl F σ H fun x H1 => rLenS X.w [x] H1 Q
    refine tSt_then gd q fun x b1 G1 H1 u s1 hb1 hp gp r1 g1 q => ?_
    obtain ⟨d, eg, q⟩ := q.opt
    obtain ⟨xs, L, rfl, pm, _, hs, _⟩ := r1
    simp only [oLenS, Option.some.injEq] at eg
    subst eg
    refine ⟨u, L.map (·.1), rfl, hs, ?_⟩
    have : (L.map (·.1)).length = xs.length := by rw [← pm.length_eq, List.length_map, List.length_map]
    rw [this]
    exact q G1 H1 _ s1 hb1 .int
theorem map_perm_back {α β : Type} {f : α → β} : ∀ {L : List α} {M : List β}, M.Perm (L.map f) → ∃ N : List α, M = N.map f ∧ N.Perm L := by
  intro L M p
  generalize hZ : L.map f = Y at p
  induction p generalizing L with
  | nil => cases L with
    | nil => exact ⟨[], rfl, .refl _⟩
    | cons _ _ => cases hZ
  | cons x q ih => cases L with
    | nil => cases hZ
    | cons y L => 
      injection hZ with h1 h2
      obtain ⟨N, e, pn⟩ := ih h2
      exact ⟨y :: N, by rw [List.map_cons, h1, e], pn.cons y⟩
  | swap x y l => cases L with
    | nil => cases hZ
    | cons a L => cases L with
      | nil => cases hZ
      | cons b L =>
        injection hZ with h1 h2
        injection h2 with h2 h3
        exact ⟨b :: a :: L, by rw [List.map_cons, List.map_cons, h1, h2, h3], List.Perm.swap ..⟩
  | trans _ _ ih1 ih2 =>
    obtain ⟨N2, e2, p2⟩ := ih2 hZ
    obtain ⟨N1, e1, p1⟩ := ih1 e2.symm
    exact ⟨N1, e1, p1.trans p2⟩
theorem eqOn_of {xs : List D} (h : (xs.all flat1 || xs.all flatT) = true) : EqOn xs := by
  rw [Bool.or_eq_true] at h
  exact h.elim eqOn1 eqOnT
/-- sorted of a set -/
theorem df_sortS (hc : X.calm = true) (hu : X.A.units + 70 < cLine) (hK : X.K = K) (hg : Gl X "sorted") (hm : X.mg "sorted" = none) (ha : PE X e (tSt K T X.w W fl F)) (he : starEach [e] X.env = (false, eval e X.env) :: starEach [] X.env := by rfl) :
    PE X (.Call (.Name "sorted" p) [e] [] pos) (tF K T W fl (x1 oSortS F)) := by
  subst hK
  exact PE.le (pe_callB (cr_sortS hc hu) hg hm (by rfl) (tSt_pa ha he) (by decide) (by decide) he rfl) fun σ H Q ⟨B, C, G0, H0, G, env, b, gd, q⟩ => by
    show tSt X.K T X.w W fl F σ H fun x H1 => rSortS X.K X.w [x] H1 Q
    refine tSt_then gd q fun x b1 G1 H1 u s1 hb1 hp gp r1 g1 q => ?_
    obtain ⟨d, eg, q⟩ := q.opt
    obtain ⟨ys, L, rfl, pm, rL, hs, hl⟩ := r1
    simp only [oSortS] at eg
    · split at eg
      · rename_i hc2
        rw [Bool.and_eq_true] at hc2
        cases eg
        obtain ⟨h1, h2, h3, h4, h5⟩ := sortable_of hc2.1
        have hx : ∀ q ∈ L, q.2 ∈ ys := fun q hq => pm.mem_iff.mp (List.mem_map.mpr ⟨q, hq, rfl⟩)
        have e0 : (L.map fun q => (q.1, toPy q.2)).map (·.1) = L.map (·.1) := by
          rw [List.map_map]
          rfl
        refine ⟨u, L.map fun q => (q.1, toPy q.2), rfl, by rw [e0]; exact hs, ?_, ?_, ?_, ?_, ?_⟩
        · intro z hz
          obtain ⟨q, hq, rfl⟩ := List.mem_map.mp hz
          exact dp_of s1.i q.2 q.1 (h2 _ (hx q hq)) (rL q hq)
        · rw [List.map_map]
          intro z hz z' hz'
          obtain ⟨q, hq, rfl⟩ := List.mem_map.mp hz
          obtain ⟨q', hq', rfl⟩ := List.mem_map.mp hz'
          show PySem.W.alike (toPy q.2) (toPy q'.2) = true
          rw [py_alike _ _ (h2 _ (hx q hq)) (h2 _ (hx q' hq'))]
          exact h1 _ (hx q hq) _ (hx q' hq')
        · rw [List.map_map]
          rcases h4 with h4 | h4
          · left
            intro z hz
            obtain ⟨q, hq, rfl⟩ := List.mem_map.mp hz
            obtain ⟨y, r, e⟩ := h4 _ (hx q hq)
            exact ⟨toPy y, toPyL r, by show toPy q.2 = _; rw [e]; simp only [toPy, toPyL]⟩
          · right
            intro z hz
            obtain ⟨q, hq, rfl⟩ := List.mem_map.mp hz
            obtain ⟨k3, k4⟩ := h4 _ (hx q hq)
            have k5 := h2 _ (hx q hq)
            obtain ⟨v, y⟩ := q
            dsimp only at k3 k4 k5
            cases y with
            | non => exact absurd rfl k3
            | tup r => exact absurd rfl (k4 r)
            | bl c => simp [toPy]
            | int c => simp [toPy]
            | str c => simp [toPy]
            | lst c => simp [toPy]
            | _ => simp [pln] at k5
        · intro z hz
          obtain ⟨q, hq, rfl⟩ := List.mem_map.mp hz
          have := h3 _ (hx q hq)
          have := py_dep q.2
          show (toPy q.2).depth ≤ 60
          omega
        · intro M r pM hr
          have ⟨N, eN, pN⟩ : ∃ N : List (V × D), M = N.map (fun q => (q.1, toPy q.2)) ∧ N.Perm L := map_perm_back pM
          subst eN
          have hN : ∀ q ∈ N, q.2 ∈ ys := fun q hq => hx q (pN.mem_iff.mp hq)
          have e1 : (N.map fun q => (q.1, toPy q.2)).mergeSort (PySem.W.dataLe false Prod.snd) = (N.mergeSort fun p q => leD p.2 q.2).map fun q => (q.1, toPy q.2) := by
            refine (PySem.W.sort_maps (fun q : V × D => (q.1, toPy q.2)) fun p hp q hq => ?_).symm
            show leD p.2 q.2 = !PySem.W.dataLt (toPy q.2) (toPy p.2)
            rw [py_lt _ _ (h2 _ (hN q hq)) (h2 _ (hN p hp)) (h1 _ (hN q hq) _ (hN p hp))]
            rfl
          have e2 : sortL (N.map (·.2)) = (N.mergeSort fun p q => leD p.2 q.2).map Prod.snd := by
            rw [PySem.W.sort_maps (s := leD) Prod.snd (fun _ _ _ _ => rfl)]
            rfl
          have e3 : sortL ys = sortL (N.map (·.2)) := (sortL_perm ((pN.map _).trans pm) hc2.1 (eqOn_of hc2.2)).symm
          have rN : Reps X.K T G1 (sortL ys) (((N.map fun q => (q.1, toPy q.2)).mergeSort (PySem.W.dataLe false Prod.snd)).map Prod.fst) := by
            rw [e1, e3, e2, List.map_map]
            exact reps_maps fun q hq => rL q (pN.mem_iff.mp ((List.mergeSort_perm _ _).mem_iff.mp hq))
          have st : Stp [] G1 H1 G1 (upd H1 r (.lst (((N.map fun q => (q.1, toPy q.2)).mergeSort (PySem.W.dataLe false Prod.snd)).map Prod.fst))) := Stp.laid s1.i hr
          exact q G1 _ r (s1.trans st.pure) (hb1.keep st) (s1.back hr) (s1.i.free hr) ⟨_, upd_same, rN⟩
      · cases eg
end
end ZL
end
section
set_option Elab.async false
set_option linter.all false
set_option maxRecDepth 100000
/-! LAYER, set comprehensions 0: the block of {elt for .. for ..}, of numbers and texts. -/
namespace ZL
open PySem PySem.Spec PyProof.Rows L2 Z

/-- the set that has got the items ks -/
def ScL (P : Program) (w : World) (p : Addr) (ks : List (V × D)) : HO := .ext fun h => ∃ us, Vals ((pile [] ks).map (·.1)) us ∧ ScanAt P w h p us
theorem ScanAt.at {P : Program} {w : World} {h h' : Heap} {a : Addr} {vs : List Value} (x : ScanAt P w h a vs) (k : ∀ o, h.get? a = some o → h'.get? a = some o) : ScanAt P w h' a vs := by
  obtain ⟨o, es, ep, t, ho, r⟩ := x
  exact ⟨o, es, ep, t, k o ho, r⟩
theorem scL_new {P : Program} {w : World} {H : Hp} {h : Heap} {a : Addr} {ks : List (V × D)} {us : List Value} (r : Vals ((pile [] ks).map (·.1)) us) (x : ScanAt P w h a us) : ObjOk P w H h a (ScL P w a ks) := by
  obtain ⟨o, es, ep, t, ho, q⟩ := id x
  refine ⟨⟨us, r, x⟩, ⟨o, ho⟩, fun h1 h2 p k => ?_⟩
  obtain ⟨us', r', x'⟩ := p
  exact ⟨us', r', x'.at fun o e => k o e⟩
theorem pile_snoc {α : Type} (ks : List (α × D)) (p : α × D) : pile [] (ks ++ [p]) = pile1 (pile [] ks) p := by
  unfold pile
  rw [List.foldl_append]
  rfl
theorem pile_le {α : Type} : ∀ (ks L : List (α × D)), (pile L ks).length ≤ L.length + ks.length
  | [], _ => Nat.le_refl _
  | p :: ks, L => by
    have h := pile_le ks (pile1 L p)
    have : (pile1 L p).length ≤ L.length + 1 := by
      unfold pile1
      split
      · omega
      · exact Nat.le_refl _
    show (pile (pile1 L p) ks).length ≤ _
    rw [List.length_cons]
    omega
theorem vals_at {vs : List V} {us : List Value} (r : Vals vs us) {u : Value} (h : u ∈ us) : ∃ v ∈ vs, RelV v u := by
  induction r with
  | nil => cases h
  | cons h1 _ ih =>
    rcases List.mem_cons.mp h with z | z
    · exact ⟨_, List.mem_cons_self, z ▸ h1⟩
    · obtain ⟨v, hv, r⟩ := ih z
      exact ⟨v, List.mem_cons_of_mem _ hv, r⟩
theorem at_vals {vs : List V} {us : List Value} (r : Vals vs us) {v : V} (h : v ∈ vs) : ∃ u ∈ us, RelV v u := by
  induction r with
  | nil => cases h
  | cons h1 _ ih =>
    rcases List.mem_cons.mp h with z | z
    · exact ⟨_, List.mem_cons_self, z ▸ h1⟩
    · obtain ⟨v, hv, r⟩ := ih z
      exact ⟨v, List.mem_cons_of_mem _ hv, r⟩
section
variable {X : Cx}
/-- set.add of a number or text -/
theorem addK_ok {pins : List (Addr × Obj)} {σ : L2.St} {H : Hp} {s : Shared} {E : Value → Shared → Prop} {S : Addr} {ks : List (V × D)} {y : V} {d : D} {u : Value} {Q : Value → Shared → Prop} (I : Inv X pins σ H s) (hS : H S = some (ScL X.prog X.w S ks)) (room : ks.length + 2 < scanBound)
    (all : ∀ p ∈ ks, ScV p) (hy : ScV (y, d)) (r : RelV y u) (h : ∀ s', Inv X pins σ (upd H S (ScL X.prog X.w S (ks ++ [(y, d)]))) s' → Q .none s') : wpAny (model X.prog X.w) X.A (call (.builtin "set.add") [.ref S, u]) Q E s := by
  obtain ⟨us, rv, sc⟩ : ∃ us, Vals ((pile [] ks).map (·.1)) us ∧ ScanAt X.prog X.w s.heap S us := (I.hok S _ hS).1
  obtain ⟨k, k1, k2⟩ := hy
  dsimp only at k1 k2
  subst k2
  have ku := kV_is r
  have len : us.length = (pile [] ks).length := by rw [← rv.length, List.length_map]
  have le := pile_le ks []
  rw [List.length_nil] at le
  obtain ⟨o, es, ep, t, ho, hx, hd, _⟩ := id sc
  have tS : s.TypeIs (.ref S) "set" := ⟨o, ho, hx.1⟩
  have fin : ∀ (h' : Heap) (us' : List Value), Heap.SameBut S s.heap h' → ScanAt X.prog X.w h' S us' → Vals ((pile [] (ks ++ [(kV k, d)])).map (·.1)) us' → Q .none { s with heap := h', toks := s.toks + 1 } := fun h' us' sb sc' rv' => by
    have he : ∃ z, h'.get? S = some z := by
      obtain ⟨o', _, _, _, ho', _⟩ := sc'
      exact ⟨o', ho'⟩
    exact h _ (I.write (e := S) (t' := s.toks + 1) (by rw [hS]; trivial) (.inl rfl) (fun b z hb hz => (sb.2 b hb).trans hz) he (scL_new rv' sc'))
  refine wpAny_call_entry F.slot_set_add tS F.entry_set_add ?_ (F.args_set_add_2 _ _)
  unfold Builtin.«set.add» Builtin.Frozenset.oneOther
  simp only [List.isEmpty_nil, bind_assoc]
  unfold Builtin.Frozenset.addrOf setAdd
  refine wpAny_bind (wpAny_pure ?_)
  try dsimp only
  refine wpAny_bind (wpAny_pure ?_)
  try dsimp only
  refine wpAny_bind (wpAny_holding (wpAny_bind ((mixKind X.prog X.w).pyHash ku ?_)))
  refine sc_add (s := { s with toks := s.toks + 1 }) ku sc (by omega) (fun ⟨u', hu', ku'⟩ => ?_) fun no h' sb sc' => ?_
  · show wpAny _ _ (ret Value.none) _ _ _
    refine wpAny_pure ⟨_, rfl, fin s.heap us (Heap.SameBut.refl S s.heap) sc ?_⟩
    rw [pile_snoc]
    have : pile1 (pile [] ks) (kV k, d) = pile [] ks := by
      obtain ⟨v, hv, rv'⟩ := vals_at rv hu'
      obtain ⟨p, hp, rfl⟩ := List.mem_map.mp hv
      obtain ⟨k', k3, k4⟩ := all p (pile_sub ks p hp)
      rw [k4] at rv'
      have e : p.2 = d := keyD_inj k3 ((keyIs_one ku' (kV_is rv')) ▸ k1)
      unfold pile1
      rw [if_pos (List.mem_map.mpr ⟨p, hp, e⟩)]
    rw [this]
    exact rv
  · show wpAny _ _ (ret Value.none) _ _ _
    refine wpAny_pure ⟨_, rfl, fin h' (u :: us) sb sc' ?_⟩
    rw [pile_snoc]
    have : pile1 (pile [] ks) (kV k, d) = (kV k, d) :: pile [] ks := by
      unfold pile1
      rw [if_neg fun z => ?_]
      obtain ⟨p, hp, e⟩ := List.mem_map.mp z
      obtain ⟨k', k3, k4⟩ := all p (pile_sub ks p hp)
      rw [e] at k3
      have ek : k' = k := Option.some.inj (k3.symm.trans k1)
      obtain ⟨u', hu', ru⟩ := at_vals rv (List.mem_map.mpr ⟨p, hp, rfl⟩)
      rw [k4, ek] at ru
      have := no u' hu'
      rw [kV_is ru] at this
      cases this
    rw [this]
    exact .cons r rv
end
/-- a turn of a block's loop, up to the tests' answer -/
theorem turn_part {X : Cx} (hc : X.calm = true) (hx : X.xe = fun _ _ => False) {pins : List (Addr × Obj)} {σ0 : L2.St} {it : Addr} {fp : List Addr} {tn : Nat → Heap → Prop} {J : It} {tg : Expr} {ifs : List Expr} (T : Turn X.prog X.w X.K tg J fp it tn) {g : TG} {tt : TT} {vs : List Nat}
    (pg : PG X tg g) (pt : PTs X ifs tt) {i n : Nat} {H5 : Hp} {s5 : Shared} (I5 : Inv X pins (wipe σ0 vs) H5 s5) (st5 : tn i s5.heap) (n5 : ∀ b ∈ fp, H5 b = none) (stat : ∀ H', (∀ b ∈ fp, H' b = none) → ∀ b ∈ fp, FpOk X pins H' b) {Wm : Nat → Nat → Hp → Prop} {Z : Hp → Prop} {Y : (Hp → Prop) → Bool → L2.St → Hp → Prop}
    (turn : (J.stop i H5 ∧ Z H5) ∨ (J.go i H5 ∧ ∃ Nx : Hp → Prop, (∀ H', Nx H' → ∃ m', m' < n ∧ Wm (i + 1) m' H') ∧ ∀ x H', J.yld i H5 x H' → g x (wipe σ0 vs) H' fun σ2 H2 => wipe σ2 vs = wipe σ0 vs ∧ tt σ2 H2 fun b H3 => Y Nx b σ2 H3))
    {R : Shared → Prop} {Kn : Bool → Shared → Prop} {E : Value → Shared → Prop} (hZ : ∀ s', Inv X pins (wipe σ0 vs) H5 s' → Z H5 → R s')
    (hY : ∀ (Nx : Hp → Prop) (b : Bool) (s' : Shared) (σ2 : L2.St) (H3 : Hp) (pl : List (Addr × Obj)), Inv X (pins ++ pl) σ2 H3 s' → wipe σ2 vs = wipe σ0 vs → Y Nx b σ2 H3 →
      (∀ (σ9 : L2.St) (s2 : Shared) (H' : Hp), Inv X (pins ++ pl) σ9 H' s2 → (wipe σ0 vs).length = σ9.length → (∀ (j : Nat) v, (wipe σ0 vs)[j]? = some (some v) → σ9[j]? = some (some v)) → Nx H' →
        ∃ m, m < n ∧ ∃ i H', Inv X pins (wipe σ0 vs) H' s2 ∧ tn i s2.heap ∧ (∀ b ∈ fp, H' b = none) ∧ Wm i m H') → Kn b s') :
    wpAny (model X.prog X.w) X.A (pyNext (.ref it)) (fun r s1 => match r with
      | none => R s1
      | some v => wpAny (model X.prog X.w) X.A (letOwnedTupleGo tg (.ref it) v) (fun _ s1' => wpAny (model X.prog X.w) X.A (assign tg X.env v) (fun _ s2 =>
          wpAny (model X.prog X.w) X.A (forIn ifs true fun c r => if r = true then do let ok ← isTrue c X.env (eval c X.env); pure (ForInStep.yield ok) else pure (ForInStep.yield r)) (fun ok s3 => Kn ok s3) E s2) E s1') E s1) E s5 := by
  rcases turn with ⟨stop, z⟩ | ⟨go, Nx, hNx, step⟩
  · refine thnF (T.done X rfl rfl rfl hc i pins s5 _ H5 (fun _ _ => False) I5 (stat _ n5) st5 stop) fun r s6 ⟨hr, I6⟩ => ?_
    subst hr
    exact hZ s6 I6 z
  · refine thnF (T.item X rfl rfl rfl hc i pins s5 _ H5 (fun _ _ => False) I5 (stat _ n5) st5 go) fun r s6 ⟨u, hr, h6⟩ => ?_
    subst hr
    refine thnF h6 fun _ s7 ⟨x, H7, I7, r7, y7, st7, n7⟩ => ?_
    have I8 := I7.pinned (stat _ n7) (T.obj _ _ st7)
    have g7 := pg.run _ s7 _ H7 x u _ I8 r7 (step x H7 y7)
    rw [hx] at g7
    refine thnF g7 fun _ s8 ⟨σ8, H8, I9, hw, q8⟩ => ?_
    have t8 := pt.run _ s8 σ8 H8 _ I9 q8
    rw [hx] at t8
    refine thnF t8 fun b s9 ⟨H9, I10, q9⟩ => ?_
    refine hY Nx b s9 σ8 H9 _ I10 hw q9 fun σ9 s2 H' I' hl hk nx => ?_
    obtain ⟨m', hm, w'⟩ := hNx H' nx
    have pin : ∀ b ∈ fp, ∀ o, s7.heap.get? b = some o → s2.heap.get? b = some o ∧ H' b = none := fun b hb o e =>
      let z := I'.pin (b, o) (List.mem_append_right _ (List.mem_append_right _ (mem_pinsAt hb e)))
      ⟨z.1, z.2.1⟩
    refine ⟨m', hm, i + 1, H', I'.unpinned.weak hl hk, T.keep _ _ _ st7 fun b hb o e => (pin b hb o e).1, fun b hb => ?_, w'⟩
    obtain ⟨o, e, _⟩ := T.obj _ _ st7 b hb
    exact (pin b hb o e).2
end ZL
end
section
set_option Elab.async false
set_option linter.all false
set_option maxRecDepth 100000
/-! LAYER, set comprehensions 1: one for, and two. -/
namespace ZL
open PySem PySem.Spec PyProof.Rows L2 Z PpSet

section
variable {X : Cx}
/-- up to the block's loop -/
theorem sc_start {pins : List (Addr × Obj)} {s : Shared} {σ : L2.St} {H : Hp} {Q : VK} {elt tg iter : Expr} {ifs : List Expr} {rest : List Comprehension} {scope : Scope} {own : List (Str × Nat)} {pos : Pos} {wi : TI} {Go : It → Addr → Hp → Prop}
    (hN : X.N.Nodup) (I : Inv X pins σ H s) (hi : PI X tg iter wi) (ok : BlkOk X.N X.env.scope scope own) (hs : ∀ x, foldedSetIterable iter X.env x = pure x)
    (h : wi σ H fun J H1 => ∀ S, H1 S = none → Go J S (upd H1 S (ScL X.prog X.w S [])))
    (loop : ∀ (s3 s4 : Shared) (H3 : Hp) (C : Addr) (cl : List (Str × Addr)) (fp : List Addr) (it : Addr) (tn : Nat → Heap → Prop) (J : It) (S : Addr) (R : Result → Shared → Prop), Inv (X.blk s3 H3 scope (compEnvC scope cl C X.env) fp) [] (wipe σ (own.map (·.2))) H3 s4 →
      Turn X.prog X.w X.K tg J fp it tn → tn 0 s4.heap → (∀ b ∈ fp, H3 b = none) → (∀ {H' : Hp}, (∀ b ∈ fp, H' b = none) → ∀ b ∈ fp, FpOk (X.blk s3 H3 scope (compEnvC scope cl C X.env) fp) [] H' b) → Go J S H3 →
      (∀ s' H', Inv (X.blk s3 H3 scope (compEnvC scope cl C X.env) fp) [] (wipe σ (own.map (·.2))) H' s' → Q (.ref S) H' → R (.ok .next) s') →
      codeAny (model X.prog X.w) X.A (.compLoop (.SetComp elt (⟨tg, iter, ifs, 0⟩ :: rest) scope pos) 0 (.ref it) (.ref S) (compEnvC scope cl C X.env)) R s4) :
    wpAny (model X.prog X.w) X.A (eval (.SetComp elt (⟨tg, iter, ifs, 0⟩ :: rest) scope pos) X.env) (fun v s' => ∃ x H', Inv X pins σ H' s' ∧ RelV x v ∧ Q x H') X.xe s := by
  have hfree : ∀ y ∈ scope.names, y.2 = .free → ∃ c, X.env.cells.lookup y.1 = some c := fun y hy e => by
    rcases ok.free y hy e with k | k
    · exact I.ok.has _ (.inl k)
    · exact I.ok.has _ (.inr k)
  rw [eval_SetComp]
  refine wpAny_comprehension_free (use := none) rfl hs (closure_ok hfree) ok.kind (fun y hy e => by rw [ok.uniq y hy, e])
    (thn (hi.run pins s σ H _ I h) fun xv s1 z1 => thn z1 fun itv s2 z2 => ?_)
  obtain ⟨it, fp, tn, J, H2, rfl, I2, T, st2, f2, q⟩ := z2
  refine newSet_ok (newEnv_comp ?_)
  have sn : H2 s2.heap.objs.size = none := I2.hok.fresh (Nat.le_refl _)
  have q := q _ sn
  have I3 : Inv X pins σ (upd H2 s2.heap.objs.size (ScL X.prog X.w s2.heap.objs.size [])) { s2 with heap := s2.heap.push (newSetO X.w) } := by
    refine I2.laid (t' := s2.toks) (fun b o e => Heap.get?_push_of_some _ e) (Nat.le_refl _) (scL_new (us := []) .nil ?_)
    exact ((mdScan X.prog X.w).fresh (Heap.get?_push_size _ rfl)).1
  generalize hH3 : upd H2 s2.heap.objs.size (ScL X.prog X.w s2.heap.objs.size []) = H3 at I3 q
  have lt : ∀ b ∈ fp, b < s2.heap.objs.size := fun b hb => by
    obtain ⟨o, e, _⟩ := T.obj _ _ st2 b hb
    exact Heap.lt_size e
  generalize s2.heap.objs.size = S at sn q I3 lt hH3 ⊢
  generalize hs3 : ({ s2 with heap := s2.heap.push (newSetO X.w) } : Shared) = s3 at I3 ⊢
  have k3 : ∀ b o, s2.heap.get? b = some o → s3.heap.get? b = some o := fun b o e => by
    rw [← hs3]
    exact Heap.get?_push_of_some _ e
  have f3 : ∀ b ∈ fp, FpOk X pins H3 b ∧ b < s3.heap.objs.size := fun b hb => by
    obtain ⟨o, e, _⟩ := T.obj _ _ st2 b hb
    refine ⟨⟨?_, (f2 b hb).2⟩, Heap.lt_size (k3 b o e)⟩
    rw [← hH3, upd_ne (Nat.ne_of_lt (lt b hb))]
    exact (f2 b hb).1
  have st3 : tn 0 s3.heap := T.keep _ _ _ st2 fun b _ o e => k3 b o e
  have I4 := block_start I3 ok hN f3
  have nfp : ∀ b ∈ fp, H3 b = none := fun b hb => (f3 b hb).1.1
  show codeAny _ _ (.compStart (.SetComp elt (⟨tg, iter, ifs, 0⟩ :: rest) scope pos) 0 (.ref it) (.ref S) (compEnvC scope (cellsFrom (s3.heap.objs.size + 1) scope.names (cloFrom X.env.cells scope.names [])) s3.heap.objs.size X.env)) (compPost (model X.prog X.w) X.A X.xe none _ (.ref S) s3.heap.objs.size) { s3 with heap := pushCells (s3.heap.push { cls := .type "dict", data := .dict #[] }) scope.names }
  have st4 : tn 0 (pushCells (s3.heap.push { cls := .type "dict", data := .dict #[] }) scope.names) := T.keep _ _ _ st3 fun b _ o e => pushCells_keeps _ _ _ _ (Heap.get?_push_of_some _ e)
  generalize hcl : cellsFrom (s3.heap.objs.size + 1) scope.names (cloFrom X.env.cells scope.names []) = cl at I4 ⊢
  generalize hs4 : ({ s3 with heap := pushCells (s3.heap.push { cls := .type "dict", data := .dict #[] }) scope.names } : Shared) = s4 at I4 ⊢
  have st5 : tn 0 s4.heap := by
    rw [← hs4]
    exact st4
  have stat : ∀ {H' : Hp}, (∀ b ∈ fp, H' b = none) → ∀ b ∈ fp, FpOk (X.blk s3 H3 scope (compEnvC scope cl s3.heap.objs.size X.env) fp) [] H' b := fun {H'} hn b hb =>
    ⟨hn b hb, (I4.ok.exf b hb).1, I4.ok.exfs b hb, .inl hb, fun x c e => (I4.ok.exf b hb).2 x c e, fun p hp => absurd (show p ∈ ([] : List (Addr × Obj)) ++ [] from hp) (by simp)⟩
  have go := loop s3 s4 H3 s3.heap.objs.size cl fp it tn J S (compPost (model X.prog X.w) X.A X.xe none (fun v s' => ∃ x H', Inv X pins σ H' s' ∧ RelV x v ∧ Q x H') (.ref S) s3.heap.objs.size) I4 T st5 nfp stat q fun s' H' I' qq => by
    have I7 : Inv X pins σ H' s' := I3.call' (ch := fp) I'.os I'.base I'.hok I'.bare fun b hb => ⟨(f3 b hb).1.2.2.2.1, (f3 b hb).1.2.1, (f3 b hb).1.2.2.2.2.1, (f3 b hb).1.2.2.2.2.2⟩
    have nC : H' s3.heap.objs.size = none := I'.free
    obtain ⟨m, hn, _⟩ := I'.loc
    have hn : s'.heap.Ns s3.heap.objs.size m := hn
    obtain ⟨e0, e1, e2, e3, e4, e5⟩ := I3.fpOk (Nat.le_refl _) nC
    exact ⟨m, hn, fun h'' sb => ⟨.ref S, H', I7.turned (t' := s'.toks) (fun b o hb e => (sb.2 b hb).trans e) e0 e1 e3 e4 e5, rfl, qq⟩⟩
  exact codeAny_compStart_set go (T.self X.A 0 _ _ _ st5 go)

/-- {elt for tg in iter if ..} -/
def tSc1 (P : Program) (w : World) (wi : TI) (g : TG) (tt : TT) (te : TE) (vs : List Nat) : TE := fun σ H Q => wi σ H fun J H1 => ∀ S, H1 S = none → ∃ Wm : Nat → Nat → Hp → Prop, (∃ m, Wm 0 m (upd H1 S (ScL P w S []))) ∧ ∀ i m H, Wm i m H →
  (J.stop i H ∧ Q (.ref S) H) ∨ (J.go i H ∧ ∃ Nx : Hp → Prop, (∀ H', Nx H' → ∃ m', m' < m ∧ Wm (i + 1) m' H') ∧ ∀ x H', J.yld i H x H' → g x (wipe σ vs) H' fun σ2 H2 => wipe σ2 vs = wipe σ vs ∧ tt σ2 H2 fun b H3 =>
    if b = true then te σ2 H3 fun y H4 => ∃ ks d, H4 S = some (ScL P w S ks) ∧ ks.length + 2 < scanBound ∧ (∀ p ∈ ks, ScV p) ∧ ScV (y, d) ∧ Nx (upd H4 S (ScL P w S (ks ++ [(y, d)]))) else Nx H3)
theorem pe_sc1 {elt tg iter : Expr} {ifs : List Expr} {scope : Scope} {own : List (Str × Nat)} {pos : Pos} {wi : TI} {g : TG} {tt : TT} {te : TE} (hc : X.calm = true) (hN : X.N.Nodup) (hi : PI X tg iter wi) (ok : BlkOk X.N X.env.scope scope own)
    (hg : ∀ (s : Shared) (H : Hp) (C : Addr) (cl : List (Str × Addr)) (fp : List Addr), PG (X.blk s H scope (compEnvC scope cl C X.env) fp) tg g) (ht : ∀ (s : Shared) (H : Hp) (C : Addr) (cl : List (Str × Addr)) (fp : List Addr), PTs (X.blk s H scope (compEnvC scope cl C X.env) fp) ifs tt)
    (he : ∀ (s : Shared) (H : Hp) (C : Addr) (cl : List (Str × Addr)) (fp : List Addr), PE (X.blk s H scope (compEnvC scope cl C X.env) fp) elt te) (hs : ∀ x, foldedSetIterable iter X.env x = pure x := by intro _; rfl) :
    PE X (.SetComp elt [⟨tg, iter, ifs, 0⟩] scope pos) (tSc1 X.prog X.w wi g tt te (own.map (·.2))) := by
  refine ⟨fun pins s σ H Q I h => sc_start (Go := fun J S H1 => ∃ Wm : Nat → Nat → Hp → Prop, (∃ m, Wm 0 m H1) ∧ ∀ i m H, Wm i m H →
    (J.stop i H ∧ Q (.ref S) H) ∨ (J.go i H ∧ ∃ Nx : Hp → Prop, (∀ H', Nx H' → ∃ m', m' < m ∧ Wm (i + 1) m' H') ∧ ∀ x H', J.yld i H x H' → g x (wipe σ (own.map (·.2))) H' fun σ2 H2 => wipe σ2 (own.map (·.2)) = wipe σ (own.map (·.2)) ∧ tt σ2 H2 fun b H3 =>
      if b = true then te σ2 H3 fun y H4 => ∃ ks d, H4 S = some (ScL X.prog X.w S ks) ∧ ks.length + 2 < scanBound ∧ (∀ p ∈ ks, ScV p) ∧ ScV (y, d) ∧ Nx (upd H4 S (ScL X.prog X.w S (ks ++ [(y, d)]))) else Nx H3)) hN I hi ok hs h fun s3 s4 H3 C cl fp it tn J S R I4 T st4 nfp stat go fin => ?_⟩
  obtain ⟨Wm, ⟨m0, w0⟩, turn⟩ := go
  have pg := hg s3 H3 C cl fp
  have pt := ht s3 H3 C cl fp
  have pe := he s3 H3 C cl fp
  refine compLoopS_any (fun n s' => ∃ i H', Inv (X.blk s3 H3 scope (compEnvC scope cl C X.env) fp) [] (wipe σ (own.map (·.2))) H' s' ∧ tn i s'.heap ∧ (∀ b ∈ fp, H' b = none) ∧ Wm i n H') ?_ m0 ⟨0, H3, I4, st4, nfp, w0⟩
  rintro n s5 ⟨i, H5, I5, st5, n5, w5⟩
  refine turn_part (X := X.blk s3 H3 scope (compEnvC scope cl C X.env) fp) hc rfl T pg pt I5 st5 n5 (fun H' => stat) (turn i n H5 w5) (fun s' I' z => fin s' H5 I' z) fun Nx b s' σ2 H6 pl I6 hw y nxt => ?_
  have hl : (wipe σ (own.map (·.2))).length = σ2.length := by rw [← hw, wipe_length]
  have hk : ∀ (j : Nat) v, (wipe σ (own.map (·.2)))[j]? = some (some v) → σ2[j]? = some (some v) := fun j v e => by
    rw [← hw] at e
    exact (wipe_some e).1
  cases b with
  | false =>
    simp only [Bool.false_eq_true, if_false] at y ⊢
    exact nxt σ2 s' H6 I6 hl hk y
  | true =>
    simp only [if_true] at y ⊢
    refine thnF (pe.run _ s' σ2 H6 _ I6 y) fun z s10 ⟨yv, H10, I10, r10, ks, d, hS, few, all, sc, nx⟩ => ?_
    exact addK_ok (X := X.blk s3 H3 scope (compEnvC scope cl C X.env) fp) I10 hS few all sc r10 fun s11 I11 => nxt σ2 s11 _ I11 hl hk nx
end
end ZL
end
section
set_option Elab.async false
set_option linter.all false
set_option maxRecDepth 100000
/-! LAYER, set comprehensions 2: {elt for .. for ..}. -/
namespace ZL
open PySem PySem.Spec PyProof.Rows L2 Z PpSet

abbrev two (elt t0 i0 t1 i1 : Expr) (c0 c1 : List Expr) (scope : Scope) (pos : Pos) : Expr := .SetComp elt [⟨t0, i0, c0, 0⟩, ⟨t1, i1, c1, 0⟩] scope pos
theorem turn_out (elt t0 i0 t1 i1 : Expr) (c0 c1 : List Expr) (scope : Scope) (pos : Pos) (it acc : Value) (env : Env) :
    compTurn (two elt t0 i0 t1 i1 c0 c1 scope pos) 0 it acc env = (do
      standAt i0.pos
      match ← pyNext it with
      | none => pure (.done .next)
      | some u =>
        letOwnedTupleGo t0 it u
        assign t0 env u
        let mut yes := true
        for c in c0 do
          if yes then yes ← isTrue c env (eval c env)
        if yes then
          let x ← eval i1 env
          standAt i1.pos
          let x ← foldedSetIterable i1 env x
          let _ ← runOwn (.compStart (two elt t0 i0 t1 i1 c0 c1 scope pos) 1 (← holding [x] (pyIter x)) acc env) env
        again (.compLoop (two elt t0 i0 t1 i1 c0 c1 scope pos) 0 it acc env)) := by rfl
theorem turn_in (elt t0 i0 t1 i1 : Expr) (c0 c1 : List Expr) (scope : Scope) (pos : Pos) (it acc : Value) (env : Env) :
    compTurn (two elt t0 i0 t1 i1 c0 c1 scope pos) 1 it acc env = (do
      standAt i1.pos
      match ← pyNext it with
      | none => pure (.done .next)
      | some u =>
        letOwnedTupleGo t1 it u
        assign t1 env u
        let mut yes := true
        for c in c1 do
          if yes then yes ← isTrue c env (eval c env)
        if yes then
          (do let z ← eval elt env; standAt elt.pos; let _ ← call (.builtin "set.add") [acc, z])
        again (.compLoop (two elt t0 i0 t1 i1 c0 c1 scope pos) 1 it acc env)) := by rfl
section
variable {prog : Program} {w : World} {A : Around} {R : Result → Shared → Prop} {s : Shared} {elt t0 i0 t1 i1 : Expr} {c0 c1 : List Expr} {scope : Scope} {pos : Pos} {it acc : Value} {env : Env}
abbrev tests (cs : List Expr) (env : Env) : Sem Bool := forIn cs true fun c r => if r = true then do let ok ← isTrue c env (eval c env); pure (ForInStep.yield ok) else pure (ForInStep.yield r)
abbrev upE (prog : Program) (w : World) (A : Around) (R : Result → Shared → Prop) (env : Env) : Value → Shared → Prop := notedBy (model prog w) A env fun e s' => R (.error e) s'
theorem loop_out (hs : ∀ x, foldedSetIterable i1 env x = pure x) (J : Nat → Shared → Prop)
    (turn : ∀ n s, J n s → wpAny (model prog w) A (pyNext it) (fun r s₁ => match r with
      | none => R (.ok .next) s₁
      | some v => wpAny (model prog w) A (letOwnedTupleGo t0 it v) (fun _ s₁' => wpAny (model prog w) A (assign t0 env v) (fun _ s₂ => wpAny (model prog w) A (tests c0 env) (fun ok s₃ =>
            if ok = true then wpAny (model prog w) A (eval i1 env) (fun x s₄ => wpAny (model prog w) A (pyIter x) (fun it1 s₅ =>
              codeAny (model prog w) A (.compStart (two elt t0 i0 t1 i1 c0 c1 scope pos) 1 it1 acc env) (fun r s' => match r with
                | .ok _ => ∃ m, m < n ∧ J m s'
                | .error _ => False) s₅) (upE prog w A R env) s₄) (upE prog w A R env) s₃
            else ∃ m, m < n ∧ J m s₃) (upE prog w A R env) s₂) (upE prog w A R env) s₁') (upE prog w A R env) s₁) (upE prog w A R env) s)
    (n : Nat) (h : J n s) : codeAny (model prog w) A (.compLoop (two elt t0 i0 t1 i1 c0 c1 scope pos) 0 it acc env) R s := by
  refine codeAny_loop rfl J (fun n s hJ => ?_) n h
  show wpAny _ A ((compTurn (two elt t0 i0 t1 i1 c0 c1 scope pos) 0 it acc env).onRaise (fun x => do noteFrame x env; theTreesLotGoes x)) _ _ s
  refine wpAny_noted ?_
  rw [turn_out]
  have stay : ∀ {x : Value} {s : Shared}, upE prog w A R env x s → upE prog w A R env x s := fun z => z
  refine wpAny_bind (wpAny_standAt (wpAny_bind (wpAny_mono (turn n s hJ) (fun r s1 h1 => ?_) fun _ _ => stay)))
  cases r with
  | none => exact wpAny_pure h1
  | some v =>
    refine wpAny_bind (wpAny_mono h1 (fun _ s2 h2 => wpAny_bind (wpAny_mono h2 (fun _ s3 h3 => wpAny_bind (wpAny_mono h3 (fun ok s4 h4 => ?_) fun _ _ => stay)) fun _ _ => stay)) fun _ _ => stay)
    cases ok with
    | false => exact wpAny_pure ⟨rfl, h4⟩
    | true =>
      refine wpAny_bind (wpAny_mono h4 (fun x s5 h5 => wpAny_bind (wpAny_standAt (wpAny_bind (wpAny_of_eq (hs x) (wpAny_bind (wpAny_holding (wpAny_mono h5 (fun it1 s6 h6 => ?_) fun _ _ => stay))))))) fun _ _ => stay)
      refine wpAny_bind (wpAny_runOwn ?_)
      rw [Around.mark_none]
      refine codeAny_mono h6 fun r s7 hr => ?_
      cases r with
      | ok f => first | exact wpAny_pure ⟨rfl, hr⟩ | exact wpAny_bind (wpAny_pure (wpAny_pure ⟨rfl, hr⟩))
      | error e => exact hr.elim
theorem loop_in (J : Nat → Shared → Prop)
    (turn : ∀ n s, J n s → wpAny (model prog w) A (pyNext it) (fun r s₁ => match r with
      | none => R (.ok .next) s₁
      | some v => wpAny (model prog w) A (letOwnedTupleGo t1 it v) (fun _ s₁' => wpAny (model prog w) A (assign t1 env v) (fun _ s₂ => wpAny (model prog w) A (tests c1 env) (fun ok s₃ =>
            if ok = true then wpAny (model prog w) A (eval elt env) (fun x s₄ => wpAny (model prog w) A (call (.builtin "set.add") [acc, x]) (fun _ s₅ => ∃ m, m < n ∧ J m s₅) (upE prog w A R env) s₄) (upE prog w A R env) s₃
            else ∃ m, m < n ∧ J m s₃) (upE prog w A R env) s₂) (upE prog w A R env) s₁') (upE prog w A R env) s₁) (upE prog w A R env) s)
    (n : Nat) (h : J n s) : codeAny (model prog w) A (.compLoop (two elt t0 i0 t1 i1 c0 c1 scope pos) 1 it acc env) R s := by
  refine codeAny_loop rfl J (fun n s hJ => ?_) n h
  show wpAny _ A ((compTurn (two elt t0 i0 t1 i1 c0 c1 scope pos) 1 it acc env).onRaise (fun x => do noteFrame x env; theTreesLotGoes x)) _ _ s
  refine wpAny_noted ?_
  rw [turn_in]
  have stay : ∀ {x : Value} {s : Shared}, upE prog w A R env x s → upE prog w A R env x s := fun z => z
  refine wpAny_bind (wpAny_standAt (wpAny_bind (wpAny_mono (turn n s hJ) (fun r s1 h1 => ?_) fun _ _ => stay)))
  cases r with
  | none => exact wpAny_pure h1
  | some v =>
    refine wpAny_bind (wpAny_mono h1 (fun _ s2 h2 => wpAny_bind (wpAny_mono h2 (fun _ s3 h3 => wpAny_bind (wpAny_mono h3 (fun ok s4 h4 => ?_) fun _ _ => stay)) fun _ _ => stay)) fun _ _ => stay)
    cases ok with
    | false => exact wpAny_pure ⟨rfl, h4⟩
    | true => exact wpAny_bind (wpAny_bind (wpAny_mono h4 (fun x s5 h5 => wpAny_bind (wpAny_standAt (wpAny_bind (wpAny_mono h5 (fun _ s6 h6 => wpAny_pure (wpAny_pure ⟨rfl, h6⟩)) fun _ _ => stay)))) fun _ _ => stay))
theorem start_in (h0 : codeAny (model prog w) A (.compLoop (two elt t0 i0 t1 i1 c0 c1 scope pos) 1 it acc env) R s)
    (h : wpAny (model prog w) A (pyIter it) (fun it' s' => codeAny (model prog w) A (.compLoop (two elt t0 i0 t1 i1 c0 c1 scope pos) 1 it' acc env) R s') (notedBy (model prog w) A env fun x s' => R (.error x) s') s) :
    codeAny (model prog w) A (.compStart (two elt t0 i0 t1 i1 c0 c1 scope pos) 1 it acc env) R s := by
  refine codeAny_of_tree ?_
  show wpAny _ _ ((compStart (two elt t0 i0 t1 i1 c0 c1 scope pos) 1 it acc env).onRaise (fun x => do noteFrame x env; standAt theWindowsPlace)) _ _ s
  refine wpAny_notedAt ?_
  unfold compStart
  show wpAny _ _ (ask >>= _) _ _ s
  refine wpAny_bind (wpAny_askSetting (wpAny_ite ?_))
  have then_ : ∀ {t : Sem Value}, wpAny (model prog w) A t (fun it' s' => codeAny (model prog w) A (.compLoop (two elt t0 i0 t1 i1 c0 c1 scope pos) 1 it' acc env) R s') (notedBy (model prog w) A env fun x s' => R (.error x) s') s → True := fun _ => trivial
  split
  · first
      | exact wpAny_bind (wpAny_pure (wpAny_pure (And.intro rfl h0)))
      | exact wpAny_pure (And.intro rfl h0)
  · first
      | exact wpAny_bind (wpAny_rule (wpAny_bind (wpAny_standAt (wpAny_bind (wpAny_mono h (fun it' s' h' => wpAny_pure (And.intro rfl h')) fun _ _ x => x)))))
      | (refine wpAny_bind (wpAny_rule ?_); show wpAny _ _ (standAt i1.pos >>= _) _ _ s; exact wpAny_bind (wpAny_standAt (wpAny_bind (wpAny_mono h (fun it' s' h' => wpAny_pure (And.intro rfl h')) fun _ _ x => x))))
end
section
variable {X : Cx}
def tSc2 (P : Program) (w : World) (wi : TI) (g : TG) (tt : TT) (wi1 : TI) (g1 : TG) (tt1 : TT) (te : TE) (vs vs1 : List Nat) : TE := fun σ H Q => wi σ H fun J H1 => ∀ S, H1 S = none → ∃ Wm : Nat → Nat → Hp → Prop, (∃ m, Wm 0 m (upd H1 S (ScL P w S []))) ∧ ∀ i m H, Wm i m H →
  (J.stop i H ∧ Q (.ref S) H) ∨ (J.go i H ∧ ∃ Nx : Hp → Prop, (∀ H', Nx H' → ∃ m', m' < m ∧ Wm (i + 1) m' H') ∧ ∀ x H', J.yld i H x H' → g x (wipe σ vs) H' fun σ2 H2 => wipe σ2 vs = wipe σ vs ∧ tt σ2 H2 fun b H3 =>
    if b = true then wi1 σ2 H3 fun J1 H4 => ∃ W1 : Nat → Nat → Hp → Prop, (∃ m, W1 0 m H4) ∧ ∀ j k H, W1 j k H →
      (J1.stop j H ∧ Nx H) ∨ (J1.go j H ∧ ∃ Nx1 : Hp → Prop, (∀ H', Nx1 H' → ∃ k', k' < k ∧ W1 (j + 1) k' H') ∧ ∀ x H', J1.yld j H x H' → g1 x (wipe σ2 vs1) H' fun σ3 H5 => wipe σ3 vs1 = wipe σ2 vs1 ∧ tt1 σ3 H5 fun b H6 =>
        if b = true then te σ3 H6 fun y H7 => ∃ ks d, H7 S = some (ScL P w S ks) ∧ ks.length + 2 < scanBound ∧ (∀ p ∈ ks, ScV p) ∧ ScV (y, d) ∧ Nx1 (upd H7 S (ScL P w S (ks ++ [(y, d)]))) else Nx1 H6)
    else Nx H3)
theorem pe_sc2 {elt tg iter tg1 iter1 : Expr} {ifs ifs1 : List Expr} {scope : Scope} {own : List (Str × Nat)} {vs1 : List Nat} {pos : Pos} {wi wi1 : TI} {g g1 : TG} {tt tt1 : TT} {te : TE} (hc : X.calm = true) (hN : X.N.Nodup) (hi : PI X tg iter wi) (ok : BlkOk X.N X.env.scope scope own) (hv : ∀ i ∈ vs1, i ∈ own.map (·.2))
    (hg : ∀ (s : Shared) (H : Hp) (C : Addr) (cl : List (Str × Addr)) (fp : List Addr), PG (X.blk s H scope (compEnvC scope cl C X.env) fp) tg g) (ht : ∀ (s : Shared) (H : Hp) (C : Addr) (cl : List (Str × Addr)) (fp : List Addr), PTs (X.blk s H scope (compEnvC scope cl C X.env) fp) ifs tt)
    (hi1 : ∀ (s : Shared) (H : Hp) (C : Addr) (cl : List (Str × Addr)) (fp : List Addr), PI (X.blk s H scope (compEnvC scope cl C X.env) fp) tg1 iter1 wi1)
    (hg1 : ∀ (s : Shared) (H : Hp) (C : Addr) (cl : List (Str × Addr)) (fp : List Addr), PG (X.blk s H scope (compEnvC scope cl C X.env) fp) tg1 g1) (ht1 : ∀ (s : Shared) (H : Hp) (C : Addr) (cl : List (Str × Addr)) (fp : List Addr), PTs (X.blk s H scope (compEnvC scope cl C X.env) fp) ifs1 tt1)
    (he : ∀ (s : Shared) (H : Hp) (C : Addr) (cl : List (Str × Addr)) (fp : List Addr), PE (X.blk s H scope (compEnvC scope cl C X.env) fp) elt te) (hs : ∀ x, foldedSetIterable iter X.env x = pure x := by intro _; rfl) (hs1 : ∀ env x, foldedSetIterable iter1 env x = pure x := by intro _ _; rfl) :
    PE X (two elt tg iter tg1 iter1 ifs ifs1 scope pos) (tSc2 X.prog X.w wi g tt wi1 g1 tt1 te (own.map (·.2)) vs1) := by
  refine ⟨fun pins s σ H Q I h => sc_start (Go := fun J S H1 => ∃ Wm : Nat → Nat → Hp → Prop, (∃ m, Wm 0 m H1) ∧ ∀ i m H, Wm i m H →
    (J.stop i H ∧ Q (.ref S) H) ∨ (J.go i H ∧ ∃ Nx : Hp → Prop, (∀ H', Nx H' → ∃ m', m' < m ∧ Wm (i + 1) m' H') ∧ ∀ x H', J.yld i H x H' → g x (wipe σ (own.map (·.2))) H' fun σ2 H2 => wipe σ2 (own.map (·.2)) = wipe σ (own.map (·.2)) ∧ tt σ2 H2 fun b H3 =>
      if b = true then wi1 σ2 H3 fun J1 H4 => ∃ W1 : Nat → Nat → Hp → Prop, (∃ m, W1 0 m H4) ∧ ∀ j k H, W1 j k H →
        (J1.stop j H ∧ Nx H) ∨ (J1.go j H ∧ ∃ Nx1 : Hp → Prop, (∀ H', Nx1 H' → ∃ k', k' < k ∧ W1 (j + 1) k' H') ∧ ∀ x H', J1.yld j H x H' → g1 x (wipe σ2 vs1) H' fun σ3 H5 => wipe σ3 vs1 = wipe σ2 vs1 ∧ tt1 σ3 H5 fun b H6 =>
          if b = true then te σ3 H6 fun y H7 => ∃ ks d, H7 S = some (ScL X.prog X.w S ks) ∧ ks.length + 2 < scanBound ∧ (∀ p ∈ ks, ScV p) ∧ ScV (y, d) ∧ Nx1 (upd H7 S (ScL X.prog X.w S (ks ++ [(y, d)]))) else Nx1 H6)
      else Nx H3)) hN I hi ok hs h fun s3 s4 H3 C cl fp it tn J S R I4 T st4 nfp stat go fin => ?_⟩
  obtain ⟨Wm, ⟨m0, w0⟩, turn⟩ := go
  have pg := hg s3 H3 C cl fp
  have pt := ht s3 H3 C cl fp
  have pe := he s3 H3 C cl fp
  have pi1 := hi1 s3 H3 C cl fp
  have pg1 := hg1 s3 H3 C cl fp
  have pt1 := ht1 s3 H3 C cl fp
  refine loop_out (hs1 _) (fun n s' => ∃ i H', Inv (X.blk s3 H3 scope (compEnvC scope cl C X.env) fp) [] (wipe σ (own.map (·.2))) H' s' ∧ tn i s'.heap ∧ (∀ b ∈ fp, H' b = none) ∧ Wm i n H') ?_ m0 ⟨0, H3, I4, st4, nfp, w0⟩
  rintro n s5 ⟨i, H5, I5, st5, n5, w5⟩
  refine turn_part (X := X.blk s3 H3 scope (compEnvC scope cl C X.env) fp) hc rfl T pg pt I5 st5 n5 (fun H' => stat) (turn i n H5 w5) (fun s' I' z => fin s' H5 I' z) fun Nx b s' σ2 H6 pl I6 hw y nxt => ?_
  have hl : (wipe σ (own.map (·.2))).length = σ2.length := by rw [← hw, wipe_length]
  have hk : ∀ (j : Nat) v, (wipe σ (own.map (·.2)))[j]? = some (some v) → σ2[j]? = some (some v) := fun j v e => by
    rw [← hw] at e
    exact (wipe_some e).1
  have hk1 : ∀ (j : Nat) v, (wipe σ (own.map (·.2)))[j]? = some (some v) → (wipe σ2 vs1)[j]? = some (some v) := fun j v e => by
    rw [← hw] at e
    obtain ⟨e1, e2⟩ := wipe_some e
    rw [wipe_out fun z => e2 (hv j z)]
    exact e1
  cases b with
  | false =>
    simp only [Bool.false_eq_true, if_false] at y ⊢
    exact nxt σ2 s' H6 I6 hl hk y
  | true =>
    simp only [if_true] at y ⊢
    refine thnF (pi1.run _ s' σ2 H6 _ I6 y) fun xv s10 hx => thnF hx fun itv s11 h11 => ?_
    obtain ⟨it1, fp1, tn1, J1, H11, rfl, I11, T1, st11, f11, W1, ⟨m1, w1⟩, turn1⟩ := h11
    have stat1 : ∀ (H' : Hp), (∀ b ∈ fp1, H' b = none) → ∀ b ∈ fp1, FpOk (X.blk s3 H3 scope (compEnvC scope cl C X.env) fp) ([] ++ pl) H' b := fun H' hn b hb => ⟨hn b hb, (f11 b hb).2⟩
    have inner : codeAny (model X.prog X.w) X.A (.compLoop (two elt tg iter tg1 iter1 ifs ifs1 scope pos) 1 (.ref it1) (.ref S) (compEnvC scope cl C X.env))
        (fun r s' => match r with
          | .ok _ => ∃ m, m < n ∧ ∃ i H', Inv (X.blk s3 H3 scope (compEnvC scope cl C X.env) fp) [] (wipe σ (own.map (·.2))) H' s' ∧ tn i s'.heap ∧ (∀ b ∈ fp, H' b = none) ∧ Wm i m H'
          | .error _ => False) s11 := by
      refine loop_in (fun k s' => ∃ j H', Inv (X.blk s3 H3 scope (compEnvC scope cl C X.env) fp) ([] ++ pl) (wipe σ2 vs1) H' s' ∧ tn1 j s'.heap ∧ (∀ b ∈ fp1, H' b = none) ∧ W1 j k H') ?_ m1 ⟨0, H11, I11.weak (wipe_length _ _) (fun j v e => (wipe_some e).1), st11, fun b hb => (f11 b hb).1, w1⟩
      rintro k s12 ⟨j, H12, I12, st12, n12, w12⟩
      refine turn_part (X := X.blk s3 H3 scope (compEnvC scope cl C X.env) fp) hc rfl T1 pg1 pt1 I12 st12 n12 stat1 (turn1 j k H12 w12) (fun s' I' z => nxt _ s' H12 I' (hl.trans (wipe_length σ2 vs1).symm) hk1 z) fun Nx1 b1 s13 σ3 H13 pl1 I13 hw1 y1 nxt1 => ?_
      have hl1 : (wipe σ2 vs1).length = σ3.length := by rw [← hw1, wipe_length]
      have hk2 : ∀ (j : Nat) v, (wipe σ2 vs1)[j]? = some (some v) → σ3[j]? = some (some v) := fun j v e => by
        rw [← hw1] at e
        exact (wipe_some e).1
      cases b1 with
      | false =>
        simp only [Bool.false_eq_true, if_false] at y1 ⊢
        exact nxt1 σ3 s13 H13 I13 hl1 hk2 y1
      | true =>
        simp only [if_true] at y1 ⊢
        refine thnF (pe.run _ s13 σ3 H13 _ I13 y1) fun z s14 ⟨yv, H14, I14, r14, ks, d, hS, few, all, sc, nx⟩ => ?_
        exact addK_ok (X := X.blk s3 H3 scope (compEnvC scope cl C X.env) fp) I14 hS few all sc r14 fun s15 I15 => nxt1 σ3 s15 _ I15 hl1 hk2 nx
    exact start_in inner (T1.self X.A 0 _ _ _ st11 inner)
end
end ZL
end
section
set_option Elab.async false
set_option linter.all false
set_option maxRecDepth 100000
/-! LAYER, set comprehensions 3: as data. -/
namespace ZL
open PySem PySem.Spec PyProof.Rows L2 Z PpSet

/-- the items ks are the data acc -/
structure Zip (K : PySem.W.Frag) (T : Tb) (G : Hp) (acc : List D) (ks : List (V × D)) : Prop where
  snd : ks.map (·.2) = acc
  rep : ∀ p ∈ ks, Rep K T G p.2 p.1
  flat : acc.all flat1 = true
section
variable {K : PySem.W.Frag} {T : Tb} {G G' : Hp} {acc : List D} {ks : List (V × D)}
theorem Zip.nil : Zip K T G [] [] := by
  refine ⟨rfl, fun p h => ?_, rfl⟩
  cases h
theorem Zip.mono (z : Zip K T G acc ks) (s : Sub G G') : Zip K T G' acc ks := ⟨z.snd, fun p h => (z.rep p h).mono s, z.flat⟩
theorem Zip.len (z : Zip K T G acc ks) : ks.length = acc.length := by
  rw [← z.snd, List.length_map]
theorem Zip.snoc (z : Zip K T G acc ks) {v : V} {d : D} (r : Rep K T G d v) (f : flat1 d = true) : Zip K T G (acc ++ [d]) (ks ++ [(v, d)]) where
  snd := by rw [List.map_append, z.snd]; rfl
  rep := fun p h => by
    rcases List.mem_append.mp h with q | q
    · exact z.rep p q
    · rw [List.mem_singleton.mp q]
      exact r
  flat := by rw [List.all_append, z.flat]; simp [f]
theorem Zip.sc (z : Zip K T G acc ks) : ∀ p ∈ ks, ScV p := fun p h => keyD_kV (List.all_eq_true.mp z.flat _ (by
  rw [← z.snd]
  exact List.mem_map.mpr ⟨p, h, rfl⟩)) (z.rep p h)
end
section
variable {K : PySem.W.Frag} {T : Tb} {fl fl1 fl2 : List Flg} {W : XK} {X : Cx} {F : Z.Ex} {I I1 : Z.Iw} {gd gd1 : Z.Tg} {Ft Ft1 Fe : Z.Ex} {js js1 vs vs1 : List Nat}
/-- the turns: from acc, the list at Dl, which is set apart -/
theorem ls_turns {B C : List Addr} {G0 H0 G1 H1 : Hp} {σ : L2.St} {env : Sl} {b1 : Bag} {ds : List D} {J : L2.It} {Dl : Addr} {P : List D → Bag → Prop} {Qd : Hp → Prop} {acc0 : List D} {vs0 : List (V × D)} {P0 : Program} {w0 : World}
    (g : Good K T (flw fl vs) B C G0 H0 G1 H1 (wipe σ vs) env b1) (w : Walks K T J G1 ds) (hC : ∀ a ∈ Dl :: B, a ∈ C) (nb : Dl ∉ B) (hjs : allIn js vs = true) (h0 : H1 Dl = some (ScL P0 w0 Dl vs0)) (r0 : Zip K T G1 acc0 vs0) (gD0 : G1 Dl = none)
    (q : oW P (XOk K T W B C G0 H0) (lsGo gd Ft Fe ds env acc0 b1))
    (hd : ∀ G H acc us b, Stp (Dl :: B) G1 H1 G H → BagAt B H b → H Dl = some (ScL P0 w0 Dl us) → G Dl = none → Zip K T G acc us → P acc b → Qd H) :
    ∃ Wv : Nat → Nat → Hp → Prop, (∃ m, Wv 0 m H1) ∧ ∀ i m H, Wv i m H → (J.stop i H ∧ Qd H) ∨ (J.go i H ∧ ∃ Nx : Hp → Prop, (∀ H', Nx H' → ∃ m', m' < m ∧ Wv (i + 1) m' H') ∧ ∀ x H', J.yld i H x H' →
      tG K T (flw fl vs) fl1 js gd x (wipe σ vs) H' fun σ2 H2 => wipe σ2 vs = wipe σ vs ∧ tT K T W fl1 Ft σ2 H2 fun b H3 =>
        if b = true then tE K T W fl1 Fe σ2 H3 fun y H4 => ∃ ks d, H4 Dl = some (ScL P0 w0 Dl ks) ∧ ks.length + 2 < scanBound ∧ (∀ p ∈ ks, ScV p) ∧ ScV (y, d) ∧ Nx (upd H4 Dl (ScL P0 w0 Dl (ks ++ [(y, d)]))) else Nx H3) := by
  refine ⟨fun i m H => ∃ G b acc us, m = ds.length - i ∧ i ≤ ds.length ∧ Stp (Dl :: B) G1 H1 G H ∧ BagAt B H b ∧ H Dl = some (ScL P0 w0 Dl us) ∧ G Dl = none ∧ Zip K T G acc us ∧ oW P (XOk K T W B C G0 H0) (lsGo gd Ft Fe (ds.drop i) env acc b),
    ⟨ds.length, G1, b1, acc0, vs0, by simp, Nat.zero_le _, .refl g.core.sub, g.core.bag, h0, gD0, r0, by simpa using q⟩, ?_⟩
  rintro i m H ⟨G, b, acc, us, rfl, hi, s, hb, hl, gD, r, q⟩
  have g1 := g.jump s hC hb
  by_cases hlt : i < ds.length
  · refine .inr ⟨w.go G H i s.g s.i hlt, fun H' => ∃ G b acc us, Stp (Dl :: B) G1 H1 G H' ∧ BagAt B H' b ∧ H' Dl = some (ScL P0 w0 Dl us) ∧ G Dl = none ∧ Zip K T G acc us ∧ oW P (XOk K T W B C G0 H0) (lsGo gd Ft Fe (ds.drop (i + 1)) env acc b), ?_, ?_⟩
    · rintro H' ⟨G', b', acc', us', h1, h2, h3, h4, h5, h6⟩
      exact ⟨ds.length - (i + 1), by omega, G', b', acc', us', rfl, hlt, h1, h2, h3, h4, h5, h6⟩
    · intro x H' hy
      obtain ⟨G', s', r'⟩ := w.yld G H i x H' ds[i] s.g s.i (List.getElem?_eq_getElem hlt) hy
      have g' := g1.step s'.pure (hb.keep s')
      rw [List.drop_eq_getElem_cons hlt] at q
      have q3 : oW P (XOk K T W B C G0 H0) (M.bnd (M.opt (gd ds[i] env)) (fun env1 => M.bnd (Ft env1) fun b => match b with
        | .bl true => M.bnd (Fe env1) fun v => if acc.length < 4000 ∧ flat1 v = true then lsGo gd Ft Fe (ds.drop (i + 1)) env (acc ++ [v]) else M.no
        | .bl false => lsGo gd Ft Fe (ds.drop (i + 1)) env acc
        | _ => M.no) b) := q
      obtain ⟨env3, e3, q3⟩ := q3.bnd.opt
      refine ⟨B, C, G0, H0, G', env, b, ds[i], env3, g', r', e3, fun σ3 g3 l3 k3 => ⟨?_, ?_⟩⟩
      · rw [← wipe_idem σ vs]
        exact wipe_eq l3 fun j hj => k3 j fun z => hj (allIn_of hjs j z)
      · have sD : H' Dl = some (ScL P0 w0 Dl us) := s'.h _ _ hl (by simp)
        refine tT_then g3 q3 (fun d b1 q => ?_) fun c b4 G4 H4 s4 hb4 g4 q4 => ?_
        · cases d with
          | bl c => exact ⟨c, rfl⟩
          | _ => exact q.elim
        · have sD4 : H4 Dl = some (ScL P0 w0 Dl us) := s4.h _ _ sD nb
          have gD4 : G4 Dl = none := s4.own_free (s'.own_free gD hl) sD
          have t4 := (s.trans s'.pure).trans (s4.more fun a h => List.mem_cons_of_mem Dl h)
          have r4 := r.mono (s'.g.trans s4.g)
          cases c with
          | true =>
            refine iteT (tE_then g4 q4 fun d b5 G5 H5 v s5 hb5 r5 g5 q5 => ?_)
            have sD5 : H5 Dl = some (ScL P0 w0 Dl us) := s5.h _ _ sD4 nb
            have gD5 : G5 Dl = none := s5.own_free gD4 sD4
            have t5 := t4.trans (s5.more fun a h => List.mem_cons_of_mem Dl h)
            by_cases hz : acc.length < 4000 ∧ flat1 d = true
            · rw [if_pos hz] at q5
              have r6 := r4.mono s5.g
              refine ⟨us, d, sD5, ?_, r6.sc, keyD_kV hz.2 r5, G5, b5, acc ++ [d], us ++ [(v, d)], t5.trans (Stp.poke s5.i gD5 ⟨_, sD5⟩), hb5.at nb, upd_same, gD5, r6.snoc r5 hz.2, q5⟩
              have := r.len
              have h4 := hz.1
              unfold scanBound
              omega
            · rw [if_neg hz] at q5
              exact q5.elim
          | false => exact iteF ⟨G4, b4, acc, us, t4, hb4, sD4, gD4, r4, q4⟩
  · have e : i = ds.length := by omega
    subst e
    rw [List.drop_length] at q
    exact .inl ⟨w.stop G H s.g s.i, hd G H acc us b s hb hl gD r q⟩
theorem ls2_turns {B C : List Addr} {G0 H0 G1 H1 : Hp} {σ : L2.St} {env : Sl} {b1 : Bag} {ds : List D} {J : L2.It} {Dl : Addr} {P : List D → Bag → Prop} {Qd : Hp → Prop} {acc0 : List D} {vs0 : List (V × D)} {P0 : Program} {w0 : World}
    (g : Good K T (flw fl vs) B C G0 H0 G1 H1 (wipe σ vs) env b1) (w : Walks K T J G1 ds) (hC : ∀ a ∈ Dl :: B, a ∈ C) (nb : Dl ∉ B) (hjs : allIn js vs = true) (hjs1 : allIn js1 vs1 = true) (h0 : H1 Dl = some (ScL P0 w0 Dl vs0)) (r0 : Zip K T G1 acc0 vs0) (gD0 : G1 Dl = none)
    (q : oW P (XOk K T W B C G0 H0) (ls2Go gd Ft I1 gd1 Ft1 Fe ds env acc0 b1))
    (hd : ∀ G H acc us b, Stp (Dl :: B) G1 H1 G H → BagAt B H b → H Dl = some (ScL P0 w0 Dl us) → G Dl = none → Zip K T G acc us → P acc b → Qd H) :
    ∃ Wv : Nat → Nat → Hp → Prop, (∃ m, Wv 0 m H1) ∧ ∀ i m H, Wv i m H → (J.stop i H ∧ Qd H) ∨ (J.go i H ∧ ∃ Nx : Hp → Prop, (∀ H', Nx H' → ∃ m', m' < m ∧ Wv (i + 1) m' H') ∧ ∀ x H', J.yld i H x H' →
      tG K T (flw fl vs) fl1 js gd x (wipe σ vs) H' fun σ2 H2 => wipe σ2 vs = wipe σ vs ∧ tT K T W fl1 Ft σ2 H2 fun b H3 =>
        if b = true then tI K T W fl1 I1 σ2 H3 fun J1 H4 => ∃ W1 : Nat → Nat → Hp → Prop, (∃ m, W1 0 m H4) ∧ ∀ j k H, W1 j k H →
          (J1.stop j H ∧ Nx H) ∨ (J1.go j H ∧ ∃ Nx1 : Hp → Prop, (∀ H', Nx1 H' → ∃ k', k' < k ∧ W1 (j + 1) k' H') ∧ ∀ x H', J1.yld j H x H' → tG K T (flw fl1 vs1) fl2 js1 gd1 x (wipe σ2 vs1) H' fun σ3 H5 => wipe σ3 vs1 = wipe σ2 vs1 ∧ tT K T W fl2 Ft1 σ3 H5 fun b H6 =>
            if b = true then tE K T W fl2 Fe σ3 H6 fun y H7 => ∃ ks d, H7 Dl = some (ScL P0 w0 Dl ks) ∧ ks.length + 2 < scanBound ∧ (∀ p ∈ ks, ScV p) ∧ ScV (y, d) ∧ Nx1 (upd H7 Dl (ScL P0 w0 Dl (ks ++ [(y, d)]))) else Nx1 H6)
        else Nx H3) := by
  refine ⟨fun i m H => ∃ G b acc us, m = ds.length - i ∧ i ≤ ds.length ∧ Stp (Dl :: B) G1 H1 G H ∧ BagAt B H b ∧ H Dl = some (ScL P0 w0 Dl us) ∧ G Dl = none ∧ Zip K T G acc us ∧ oW P (XOk K T W B C G0 H0) (ls2Go gd Ft I1 gd1 Ft1 Fe (ds.drop i) env acc b),
    ⟨ds.length, G1, b1, acc0, vs0, by simp, Nat.zero_le _, .refl g.core.sub, g.core.bag, h0, gD0, r0, by simpa using q⟩, ?_⟩
  rintro i m H ⟨G, b, acc, us, rfl, hi, s, hb, hl, gD, r, q⟩
  have g1 := g.jump s hC hb
  by_cases hlt : i < ds.length
  · refine .inr ⟨w.go G H i s.g s.i hlt, fun H' => ∃ G b acc us, Stp (Dl :: B) G1 H1 G H' ∧ BagAt B H' b ∧ H' Dl = some (ScL P0 w0 Dl us) ∧ G Dl = none ∧ Zip K T G acc us ∧ oW P (XOk K T W B C G0 H0) (ls2Go gd Ft I1 gd1 Ft1 Fe (ds.drop (i + 1)) env acc b), ?_, ?_⟩
    · rintro H' ⟨G', b', acc', us', h1, h2, h3, h4, h5, h6⟩
      exact ⟨ds.length - (i + 1), by omega, G', b', acc', us', rfl, hlt, h1, h2, h3, h4, h5, h6⟩
    · intro x H' hy
      obtain ⟨G', s', r'⟩ := w.yld G H i x H' ds[i] s.g s.i (List.getElem?_eq_getElem hlt) hy
      have g' := g1.step s'.pure (hb.keep s')
      rw [List.drop_eq_getElem_cons hlt] at q
      have q3 : oW P (XOk K T W B C G0 H0) (M.bnd (M.opt (gd ds[i] env)) (fun env1 => M.bnd (Ft env1) fun b => match b with
        | .bl true => M.bnd (I1 env1) fun es => M.bnd (lsGo gd1 Ft1 Fe es env1 acc) fun acc1 => ls2Go gd Ft I1 gd1 Ft1 Fe (ds.drop (i + 1)) env acc1
        | .bl false => ls2Go gd Ft I1 gd1 Ft1 Fe (ds.drop (i + 1)) env acc
        | _ => M.no) b) := q
      obtain ⟨env3, e3, q3⟩ := q3.bnd.opt
      refine ⟨B, C, G0, H0, G', env, b, ds[i], env3, g', r', e3, fun σ3 g3 l3 k3 => ⟨?_, ?_⟩⟩
      · rw [← wipe_idem σ vs]
        exact wipe_eq l3 fun j hj => k3 j fun z => hj (allIn_of hjs j z)
      · have sD : H' Dl = some (ScL P0 w0 Dl us) := s'.h _ _ hl (by simp)
        refine tT_then g3 q3 (fun d b1 q => ?_) fun c b4 G4 H4 s4 hb4 g4 q4 => ?_
        · cases d with
          | bl c => exact ⟨c, rfl⟩
          | _ => exact q.elim
        · have sD4 : H4 Dl = some (ScL P0 w0 Dl us) := s4.h _ _ sD nb
          have gD4 : G4 Dl = none := s4.own_free (s'.own_free gD hl) sD
          have t4 := (s.trans s'.pure).trans (s4.more fun a h => List.mem_cons_of_mem Dl h)
          have r4 := r.mono (s'.g.trans s4.g)
          cases c with
          | true =>
            refine iteT ⟨B, C, G0, H0, G4, env3, b4, g4, q4.bnd.imp fun es b5 q5 G5 H5 J1 s5 hb5 w5 => ?_⟩
            have sD5 : H5 Dl = some (ScL P0 w0 Dl us) := s5.h _ _ sD4 nb
            have gD5 : G5 Dl = none := s5.own_free gD4 sD4
            have t5 := t4.trans (s5.more fun a h => List.mem_cons_of_mem Dl h)
            refine ls_turns (fl := fl1) (σ := σ3) ((g4.step s5 hb5).wipe vs1) w5 hC nb hjs1 sD5 (r4.mono s5.g) gD5 q5.bnd ?_
            intro G6 H6 acc6 us6 b6 s6 hb6 h6 gD6 r6 q6
            exact ⟨G6, b6, acc6, us6, t5.trans s6, hb6, h6, gD6, r6, q6⟩
          | false => exact iteF ⟨G4, b4, acc, us, t4, hb4, sD4, gD4, r4, q4⟩
  · have e : i = ds.length := by omega
    subst e
    rw [List.drop_length] at q
    exact .inl ⟨w.stop G H s.g s.i, hd G H acc us b s hb hl gD r q⟩

theorem setRep_of {P0 : Program} {w0 : World} {G H : Hp} {acc : List D} {us : List (V × D)} {p : Addr} (h : H p = some (ScL P0 w0 p us)) (z : Zip K T G acc us) (le : us.length ≤ lim) : SetRep K T w0 G H (.set (dedup acc)) p := by
  refine ⟨dedup acc, pile [] us, rfl, ?_, fun q hq => z.rep q (pile_sub us q hq), ⟨_, h, fun hh x => ?_⟩, ?_⟩
  · have := pile_dedup (ks := us) (by rw [z.snd]; exact eqOn1 z.flat)
    rwa [z.snd] at this
  · obtain ⟨vs, rv, o, es, ep, t, ho, hx, hd, _, pm, hf, hr, hl, hb⟩ := x
    exact ⟨vs, rv, o, es, ep, t, ho, hx, hd, pm, hf, hr, hl, hb⟩
  · have := pile_le us []
    simp only [List.length_nil] at this
    omega
theorem dst_sc {elt tg iter : Expr} {ifs : List Expr} {scope : Scope} {own : List (Str × Nat)} {pos : Pos} (hc : X.calm = true) (hN : X.N.Nodup) (hi : PI X tg iter (tI K T W fl I)) (ok : BlkOk X.N X.env.scope scope own)
    (hg : ∀ (s : Shared) (H : Hp) (C : Addr) (cl : List (Str × Addr)) (fp : List Addr), PG (X.blk s H scope (compEnvC scope cl C X.env) fp) tg (tG K T (flw fl (own.map (·.2))) fl1 js gd)) (ht : ∀ (s : Shared) (H : Hp) (C : Addr) (cl : List (Str × Addr)) (fp : List Addr), PTs (X.blk s H scope (compEnvC scope cl C X.env) fp) ifs (tT K T WF fl1 Ft))
    (he : ∀ (s : Shared) (H : Hp) (C : Addr) (cl : List (Str × Addr)) (fp : List Addr), PE (X.blk s H scope (compEnvC scope cl C X.env) fp) elt (tE K T WF fl1 Fe)) (hjs : allIn js (own.map (·.2)) = true) (hs : ∀ x, foldedSetIterable iter X.env x = pure x := by intro _; rfl) :
    PE X (.SetComp elt [⟨tg, iter, ifs, 0⟩] scope pos) (tSt K T X.w W fl (xSc I gd Ft Fe)) :=
  PE.le (pe_sc1 hc hN hi ok hg ht he hs) fun σ H Q ⟨B, C, G0, H0, G, env, b, g, q⟩ => by
    refine ⟨B, C, G0, H0, G, env, b, g, q.bnd.imp fun ds b1 q G1 H1 J s hb w Dl hD => ?_⟩
    have g1 := ((g.step s hb).wipe (own.map (·.2))).reserve (o := ScL X.prog X.w Dl []) hD
    refine ls_turns (K := K) (T := T) (fl := fl) (W := WF) (σ := σ) (acc0 := []) (vs0 := []) g1 w (mem_res g.core.bc) (hb.ne hD) hjs upd_same .nil (s.i.free hD) (q.bnd.nox) ?_
    intro G2 H2 acc us b2 s2 hb2 h2 gD2 r2 q2
    by_cases le : acc.length ≤ 4000
    · rw [if_pos le] at q2
      exact q2 G2 H2 Dl (s.drop hD s2) hb2 (s.back hD) gD2 (setRep_of h2 r2 (by
        have := r2.len
        unfold lim
        omega))
    · rw [if_neg le] at q2
      exact q2.elim
theorem dst_sc2 {elt tg iter tg1 iter1 : Expr} {ifs ifs1 : List Expr} {scope : Scope} {own : List (Str × Nat)} {pos : Pos} (hc : X.calm = true) (hN : X.N.Nodup) (hi : PI X tg iter (tI K T W fl I)) (ok : BlkOk X.N X.env.scope scope own) (hv : ∀ i ∈ vs1, i ∈ own.map (·.2))
    (hg : ∀ (s : Shared) (H : Hp) (C : Addr) (cl : List (Str × Addr)) (fp : List Addr), PG (X.blk s H scope (compEnvC scope cl C X.env) fp) tg (tG K T (flw fl (own.map (·.2))) fl1 js gd)) (ht : ∀ (s : Shared) (H : Hp) (C : Addr) (cl : List (Str × Addr)) (fp : List Addr), PTs (X.blk s H scope (compEnvC scope cl C X.env) fp) ifs (tT K T WF fl1 Ft))
    (hi1 : ∀ (s : Shared) (H : Hp) (C : Addr) (cl : List (Str × Addr)) (fp : List Addr), PI (X.blk s H scope (compEnvC scope cl C X.env) fp) tg1 iter1 (tI K T WF fl1 I1))
    (hg1 : ∀ (s : Shared) (H : Hp) (C : Addr) (cl : List (Str × Addr)) (fp : List Addr), PG (X.blk s H scope (compEnvC scope cl C X.env) fp) tg1 (tG K T (flw fl1 vs1) fl2 js1 gd1)) (ht1 : ∀ (s : Shared) (H : Hp) (C : Addr) (cl : List (Str × Addr)) (fp : List Addr), PTs (X.blk s H scope (compEnvC scope cl C X.env) fp) ifs1 (tT K T WF fl2 Ft1))
    (he : ∀ (s : Shared) (H : Hp) (C : Addr) (cl : List (Str × Addr)) (fp : List Addr), PE (X.blk s H scope (compEnvC scope cl C X.env) fp) elt (tE K T WF fl2 Fe)) (hjs : allIn js (own.map (·.2)) = true) (hjs1 : allIn js1 vs1 = true) (hs : ∀ x, foldedSetIterable iter X.env x = pure x := by intro _; rfl) (hs1 : ∀ env x, foldedSetIterable iter1 env x = pure x := by intro _ _; rfl) :
    PE X (.SetComp elt [⟨tg, iter, ifs, 0⟩, ⟨tg1, iter1, ifs1, 0⟩] scope pos) (tSt K T X.w W fl (xSc2 I gd Ft I1 gd1 Ft1 Fe)) :=
  PE.le (pe_sc2 hc hN hi ok hv hg ht hi1 hg1 ht1 he hs hs1) fun σ H Q ⟨B, C, G0, H0, G, env, b, g, q⟩ => by
    refine ⟨B, C, G0, H0, G, env, b, g, q.bnd.imp fun ds b1 q G1 H1 J s hb w Dl hD => ?_⟩
    have g1 := ((g.step s hb).wipe (own.map (·.2))).reserve (o := ScL X.prog X.w Dl []) hD
    refine ls2_turns (K := K) (T := T) (fl := fl) (W := WF) (σ := σ) (acc0 := []) (vs0 := []) g1 w (mem_res g.core.bc) (hb.ne hD) hjs hjs1 upd_same .nil (s.i.free hD) (q.bnd.nox) ?_
    intro G2 H2 acc us b2 s2 hb2 h2 gD2 r2 q2
    by_cases le : acc.length ≤ 4000
    · rw [if_pos le] at q2
      exact q2 G2 H2 Dl (s.drop hD s2) hb2 (s.back hD) gD2 (setRep_of h2 r2 (by
        have := r2.len
        unfold lim
        omega))
    · rw [if_neg le] at q2
      exact q2.elim
end
end ZL
end
section
set_option linter.all false
/-! PLAIN: more statements. -/
namespace Z
open M
def xNo : Ex := fun _ => no
def sNo : Sm := fun _ => no
/-- xs.append(ys.pop(e)) -/
def sAppPop (i j : Nat) (e : Ex) : Sm := fun env => bnd (e env) fun v => match v, env.getD i .non, env.getD j .non with
  | .int k, .lst xs, .lst ys => if 0 ≤ k ∧ k < ys.length ∧ ys.length ≤ lim ∧ xs.length < lim then match ys[k.toNat]? with
    | some y => ret (.nx ((env.set j (.lst (ys.eraseIdx k.toNat))).set i (.lst (xs ++ [y]))))
    | none => no
    else no
  | _, _, _ => no
/-- a, b = x, y -/
def sPar (i j : Nat) (e f : Ex) : Sm := fun env => bnd (e env) fun x => bnd (f env) fun y => ret (.nx ((env.set i x).set j y))
def xBag (k : Nat) : Ex := fun _ b => .ok (.int (if k = 0 then b.dg else if k = 1 then b.sd else b.ct)) b
def okBag (b : Bag) : Bool := decide (0 ≤ b.dg) && decide (0 ≤ b.sd) && decide (b.sd < 12000000000000000000) && decide (0 ≤ b.ct) && decide (b.ct ≤ 2 ^ 40)
def setBag (k : Nat) (v : Int) (b : Bag) : Bag := if k = 0 then { b with dg := v } else if k = 1 then { b with sd := v } else { b with ct := v }
/-- bag[k] = e -/
def sBag (k : Nat) (e : Ex) : Sm := fun env => bnd (e env) fun d => match d with
  | .int v => fun b => if okBag (setBag k v b) then .ok (.nx env) (setBag k v b) else .no
  | _ => no
def bag3 : D → Option Bag
  | .lst [.int g, .int h, .int c] => some ⟨g, h, c⟩
  | _ => none
theorem bag3_of {d : D} {b : Bag} (h : bag3 d = some b) : d = .lst [.int b.dg, .int b.sd, .int b.ct] := by
  unfold bag3 at h
  split at h
  · cases h
    rfl
  · cases h
/-- bag = e, and what is done with it: the bag of the def ahead stays -/
def sNewBag (e : Ex) (s : Sm) : Sm := fun env => bnd (e env) fun d => match bag3 d with
  | some n => fun b => if okBag n then match s env n with
    | .ok f _ => .ok f b
    | .ex _ _ _ => .no
    | .no => .no
    else .no
  | none => no
/-- a def whose last word is a new list: nothing is returned ahead of it -/
def sAndF (s t : Sm) : Sm := fun env => bnd (s env) fun f => match f with
  | .nx env1 => t env1
  | _ => no
def runF (n : Nat) (s : Sm) : List D → M D := fun ds => bnd (s (ds ++ List.replicate (n - ds.length) .non)) fun f => match f with
  | .rt d => ret d
  | _ => no
end Z
end
section
set_option Elab.async false
set_option linter.all false
set_option maxRecDepth 100000
/-! LAYER: own lists changed; parallel assignments; what is not reached. -/
namespace ZL
open PySem PySem.Spec PyProof.Rows L2 Z

section
variable {K : PySem.W.Frag} {T : Tb} {B C : List Addr} {G0 H0 G H : Hp} {σ : L2.St} {env : Sl} {b : Bag} {fl : List Flg}
/-- an own object is changed -/
theorem Good.poke (g : Good K T fl B C G0 H0 G H σ env b) {i : Nat} {p : Addr} {o : HO} {d : D} {sv : Option (Option V)} {fp : List Addr} (old : SlotOk K T B G H (fl.getD i .un) σ[i]? (env.getD i .non) fp) (hp : p ∈ fp) (gp : G p = none) (h0 : H0 p = none) (only : ∀ fp', SlotOk K T B G H (fl.getD i .un) σ[i]? (env.getD i .non) fp' → fp' = fp)
    (new : SlotOk K T B G (upd H p o) (fl.getD i .un) σ[i]? d fp) (hi : i < env.length) : Good K T fl B C G0 H0 G (upd H p o) σ (env.set i d) b := by
  obtain ⟨c, l, F, h1, h2, h3⟩ := g
  have hF : F i = fp := only _ (h1 i)
  have hH : ∃ u, H p = some u := (h1 i).there p (hF ▸ hp)
  have st : Stp [p] G H G (upd H p o) := Stp.poke c.sub gp hH
  have nb : p ∉ B := c.own_ne h0
  refine ⟨⟨⟨c.stp.g, st.i, fun a u e n => ?_, fun a u e => ?_, c.stp.n⟩, c.bag.at nb, c.bc, c.bg⟩, by rw [List.length_set]; exact l, F, fun j => ?_, h2, h3⟩
  · rw [upd_ne (ne_of_none e h0)]
    exact c.stp.h a u e n
  · obtain ⟨u', e'⟩ := c.stp.k a u e
    exact st.k a u' e'
  · by_cases e : j = i
    · subst e
      rw [getD_set_same hi, hF]
      exact new
    · rw [getD_set_ne (Ne.symm e)]
      refine (h1 j).step st fun q hq hm => e ?_
      rw [List.mem_singleton.mp hm] at hq
      exact h3 j i p hq (hF ▸ hp)
theorem Good.setL (g : Good K T fl B C G0 H0 G H σ env b) {i : Nat} {p : Addr} {vs : List V} {ds : List D} (hf : fl.getD i .un = .ol) (e1 : σ[i]? = some (some (.ref p))) (gp : G p = none) (h0 : H0 p = none) (r : Reps K T G ds vs) (hi : i < env.length) :
    Good K T fl B C G0 H0 G (upd H p (.lst vs)) σ (env.set i (.lst ds)) b := by
  obtain ⟨_, _, F, h1, _, _⟩ := id g
  have x := h1 i
  refine g.poke (fp := [p]) (sv := none) ?_ (List.mem_singleton.mpr rfl) gp h0 (fun fp' y => ?_) ?_ hi
  · rw [hf] at x ⊢
    obtain ⟨p', vs', ds', a1, a2, a3, a4, a5⟩ := x
    have : p' = p := by
      rw [a1] at e1
      cases e1
      rfl
    subst this
    exact ⟨p', vs', ds', a1, a2, a3, a4, rfl⟩
  · rw [hf] at y
    obtain ⟨p', vs', ds', a1, a2, a3, a4, a5⟩ := y
    rw [a1] at e1
    cases e1
    exact a5
  · rw [hf]
    exact ⟨p, vs, ds, e1, rfl, upd_same, r, rfl⟩
theorem SlotOk.mono {G' : Hp} (s : Sub G G') {f : Flg} {sv : Option (Option V)} {d : D} {fp : List Addr} (x : SlotOk K T B G H f sv d fp) : SlotOk K T B G' H f sv d fp := by
  cases f with
  | un => exact x
  | dat =>
    obtain ⟨h, v, e, r⟩ := x
    exact ⟨h, v, e, r.mono s⟩
  | bag => exact x
  | ol =>
    obtain ⟨p, vs, ds, a1, a2, a3, a4, a5⟩ := x
    exact ⟨p, vs, ds, a1, a2, a3, a4.mono s, a5⟩
  | od =>
    obtain ⟨p, vs, ds, a1, a2, a3, a4, a5⟩ := x
    exact ⟨p, vs, ds, a1, a2, a3, a4.mono s, a5⟩
  | oi =>
    obtain ⟨p, c, dx, fs, xs, a1, a2, a3, a4, a5, a6⟩ := x
    exact ⟨p, c, dx, fs, xs, a1, a2, a3, a4, a5.mono s, a6⟩
  | oll =>
    obtain ⟨p, q, vs, ds, us, l, a1, a2, a3, a4, a5, a6, a7⟩ := x
    exact ⟨p, q, vs, ds, us, l, a1, a2, a3, a4, a5.mono s, a6.mono s, a7⟩
  | og =>
    obtain ⟨t, p, dx, c, fs, xs, v, d2, a1, a2, a3, a4, a5, a6, a7, a8⟩ := x
    exact ⟨t, p, dx, c, fs, xs, v, d2, a1, a2, a3, a4, a5, a6.mono s, a7.mono s, a8⟩
/-- an own list becomes data -/
theorem Good.frz (g : Good K T fl B C G0 H0 G H σ env b) {i : Nat} (hf : fl.getD i .un = .ol) (hl : i < fl.length) : ∃ G', Sub G G' ∧ Good K T (fl.set i .dat) B C G0 H0 G' H σ env b := by
  obtain ⟨p, vs, ds, e1, e2, e3, e4, gp, h0⟩ := g.ol hf
  obtain ⟨c, l, F, h1, h2, h3⟩ := id g
  have sg : Sub G (upd G p (.lst vs)) := fun a u e => by
    rw [upd_ne (ne_of_none e gp)]
    exact e
  have hF : F i = [p] := by
    have x := h1 i
    rw [hf] at x
    obtain ⟨p', _, _, a1, _, _, _, a5⟩ := x
    rw [a1] at e1
    cases e1
    exact a5
  refine ⟨upd G p (.lst vs), sg, ⟨c.stp.freeze h0 e3 gp, c.bag, c.bc, fun a ha => ?_⟩, l, fun j => if j = i then [] else F j, fun j => ?_, fun j q hq => ?_, fun j k q hj hk => ?_⟩
  · obtain ⟨z1, o, z2⟩ := c.bg a ha
    refine ⟨?_, o, z2⟩
    rw [upd_ne (by
      rintro rfl
      rw [h0] at z2
      cases z2)]
    exact z1
  · by_cases e : j = i
    · subst e
      simp only [if_pos rfl]
      rw [getD_set_same hl]
      refine ⟨rfl, .ref p, e1, ?_⟩
      rw [e2]
      unfold Rep
      exact ⟨p, vs, rfl, upd_same, e4.mono sg⟩
    · simp only [if_neg e]
      rw [getD_set_ne (Ne.symm e)]
      exact (h1 j).mono sg
  · by_cases e : j = i
    · simp only [if_pos e] at hq
      cases hq
    · simp only [if_neg e] at hq
      obtain ⟨z1, z2⟩ := h2 j q hq
      refine ⟨?_, z2⟩
      rw [upd_ne (by
        rintro rfl
        exact e (h3 j i q hq (by rw [hF]; exact List.mem_singleton.mpr rfl)))]
      exact z1
  · by_cases e : j = i
    · simp only [if_pos e] at hj
      cases hj
    · by_cases e' : k = i
      · simp only [if_pos e'] at hk
        cases hk
      · simp only [if_neg e] at hj
        simp only [if_neg e'] at hk
        exact h3 j k q hj hk
end
section
variable {K : PySem.W.Frag} {T : Tb} {kp : List Nat} {fl fl' : List Flg} {fo : Fo} {W : XK} {X : Cx} {e a b c : Expr} {Fa Fb F : Z.Ex} {S R : Z.Sm} {st : Stmt} {sts rest : List Stmt} {pos : Pos}
/-! ### what is not reached -/
theorem ds_no : PS X st (tS K T W kp fl fo sNo) := ⟨fun pins s σ H Dd I ⟨_, _, _, _, _, _, _, _, q⟩ => q.elim⟩
theorem dss_no : PSs X sts (tS K T W kp fl fo sNo) := ⟨fun pins s σ H Dd I ⟨_, _, _, _, _, _, _, _, q⟩ => q.elim⟩
theorem de_no : PE X e (tE K T W fl xNo) := ⟨fun pins s σ H Q I ⟨_, _, _, _, _, _, _, _, q⟩ => q.elim⟩
/-! ### an own list becomes data -/
theorem dss_frz {i : Nat} (hf : fl.getD i .un = .ol) (hl : i < fl.length) (h : PSs X sts (tS K T W kp (fl.set i .dat) fo S)) : PSs X sts (tS K T W kp fl fo S) :=
  PSs.le h fun Dd σ H ⟨B, C, G0, H0, G, env, b, g, q⟩ => by
    obtain ⟨G', s, g'⟩ := g.frz hf hl
    exact ⟨B, C, G0, H0, G', env, b, g', q.imp fun f b1 z => z.sub s .refl⟩
theorem ds_frz {i : Nat} (hf : fl.getD i .un = .ol) (hl : i < fl.length) (h : PS X st (tS K T W kp (fl.set i .dat) fo S)) : PS X st (tS K T W kp fl fo S) :=
  PS.le h fun Dd σ H ⟨B, C, G0, H0, G, env, b, g, q⟩ => by
    obtain ⟨G', s, g'⟩ := g.frz hf hl
    exact ⟨B, C, G0, H0, G', env, b, g', q.imp fun f b1 z => z.sub s .refl⟩
/-! ### xs.append(e) -/
theorem ds_app {i : Nat} {x : Str} {p1 apos cpos : Pos} {bk ct : List Flg} (hf : fl.getD i .un = .ol) (hN : i < X.N.length) (hv : PE X (.Name x p1) (tVar i)) (he : PE X e (tE K T W fl F)) (hK : X.K = K)
    (hbase : attributeBase (.Name x p1) "append" X.env (eval (.Name x p1) X.env) = eval (.Name x p1) X.env := by rfl)
    (hfew : ((backTo cpos (starEach [e] X.env)).all (fun x => !x.1) && (backToKw cpos (keywordEach [] X.env)).all (fun x => x.1.isSome)
      && decide (([e] : List Expr).length + ([] : List Keyword).length + (if ([] : List Keyword).isEmpty then 0 else 1) < 30)) = true := by rfl)
    (hline : (apos.endLine == cpos.line) = true := by rfl) (hs : starEach [e] X.env = (false, eval e X.env) :: starEach [] X.env := by rfl) (hsw : swapsWith (.Call (.Attribute (.Name x p1) "append" apos) [e] [] cpos) none pos.line X.env = pure false := by rfl) :
    PS X (.Expr (.Call (.Attribute (.Name x p1) "append" apos) [e] [] cpos) pos) (tS K T W kp fl ⟨fl, bk, ct⟩ (sApp i F)) := by
  subst hK
  refine PS.le (ps_expr (pe_bm PySem.F.plainAttrs_list PySem.F.slot_list_append PySem.F.type_list_append mt_append hv (pa_cons he pa_nil hs) hbase hfew hline hs rfl) hsw) fun Dd σ H ⟨B, C, G0, H0, G, env, b, g, q⟩ => ?_
  obtain ⟨p, vs, ds, e1, e2, e3, e4, gp, h0⟩ := g.ol hf
  refine ⟨.ref p, e1, .inl ⟨rfl, vs, SqL.of e3⟩, ?_⟩
  refine tE_then g q fun d b1 G1 H1 v s hb r g1 q => ?_
  obtain ⟨p', vs', ds', a1, a2, a3, a4, gp', h0'⟩ := g1.ol hf
  rw [e1] at a1
  cases a1
  rw [a2] at q
  simp only at q
  by_cases hz : ds'.length < lim
  · rw [if_pos hz] at q
    have hi : i < env.length := by
      rw [← g.len]
      exact (List.getElem?_eq_some_iff.mp e1).1
    refine ⟨p, vs', v, rfl, rfl, a3, ?_, ?_⟩
    · rw [a4.length]
      exact Nat.lt_of_lt_of_le hz (by decide)
    · exact q σ G1 _ (g1.setL hf e1 gp' h0' (a4.append (.one r)) hi) s.g .refl
  · rw [if_neg hz] at q
    exact q.elim
end
end ZL
end
section
set_option Elab.async false
set_option linter.all false
set_option maxRecDepth 100000
/-! LAYER: two at once; xs.append(ys.pop(e)). -/
namespace ZL
open PySem PySem.Spec PyProof.Rows L2 Z

section
variable {K : PySem.W.Frag} {T : Tb} {kp : List Nat} {fl fl' : List Flg} {fo : Fo} {W : XK} {X : Cx} {e a b c : Expr} {Fa Fb Fe : Z.Ex} {S R : Z.Sm} {st : Stmt} {sts rest : List Stmt} {pos : Pos} {i j : Nat} {x y : Str} {px py pt pt2 : Pos}
theorem setLt {α : Type} {l : List α} {i : Nat} {v : α} (h : i < l.length) : i < (l.set j v).length := by rw [List.length_set]; exact h
theorem par_kept {σ : L2.St} {u v : Option V} (h : apart kp [i, j] = true) : Kept kp σ ((σ.set i u).set j v) := .of h fun k hk => by
  simp only [List.mem_cons, List.not_mem_nil, or_false, not_or] at hk
  rw [List.getElem?_set_ne (Ne.symm hk.2), List.getElem?_set_ne (Ne.symm hk.1)]
theorem tFl_then {α : Type} {k : D → M α} {σ : L2.St} {H : Hp} {Q : VK} {B C : List Addr} {G0 H0 G : Hp} {env : Sl} {b : Bag} {P : α → Bag → Prop} (g : Good K T fl B C G0 H0 G H σ env b) (hl : ∀ env b d b', Fe env b = .ok d b' → ∃ ds, d = .lst ds)
    (h : oW P (XOk K T W B C G0 H0) (M.bnd (Fe env) k b)) (q : ∀ ds b1 G1 H1 p vs, Stp B G H G1 H1 → BagAt B H1 b1 → H p = none → G1 p = none → H1 p = some (.lst vs) → Reps K T G1 ds vs → Good K T fl B C G0 H0 G1 H1 σ env b1 → oW P (XOk K T W B C G0 H0) (k (.lst ds) b1) → Q (.ref p) H1) : tF K T W fl Fe σ H Q := by
  refine ⟨B, C, G0, H0, G, env, b, g, ?_⟩
  have h := h.bnd
  cases eF : Fe env b with
  | no =>
    rw [eF] at h
    exact h
  | ex c x b1 =>
    rw [eF] at h
    exact h
  | ok d b1 =>
    rw [eF] at h
    obtain ⟨ds, rfl⟩ := hl _ _ _ _ eF
    intro G1 H1 p s1 hb hp0 hg r
    obtain ⟨vs, h1, h2⟩ := r
    exact q ds b1 G1 H1 p vs s1 hb hp0 hg h1 h2 (g.step s1 hb) h
section
variable {bk ct : List Flg} {k2 : Nat}
theorem ds_parEE {kt : Nat} (hc : X.calm = true) (hN : X.N.Nodup) (hi : X.N[i]? = some x) (hj : X.N[j]? = some y) (hij : i ≠ j) (hx : X.env.scope.names.lookup x = some .local) (hy : X.env.scope.names.lookup y = some .local)
    (ha : PE X a (tE K T W fl Fa)) (hb : PE X b (tE K T W fl Fb)) (hkp : apart kp [i, j] = true := by rfl) (hs : starEach [a, b] X.env = (false, eval a X.env) :: starEach [b] X.env := by rfl) (hs2 : starEach [b] X.env = (false, eval b X.env) :: starEach [] X.env := by rfl)
    (hw : swappedStores [.Tuple [.Name x px, .Name y py] kt pt] (.Tuple [a, b] k2 pt2) X.env = pure (some [x, y]) := by rfl) (hsw : swapsWithSole [.Tuple [.Name x px, .Name y py] kt pt] (.Tuple [a, b] k2 pt2) pos.line X.env = pure false := by rfl) :
    PS X (.Assign [.Tuple [.Name x px, .Name y py] kt pt] (.Tuple [a, b] k2 pt2) pos) (tS K T W kp fl ⟨(fl.set i .dat).set j .dat, bk, ct⟩ (sPar i j Fa Fb)) := by
  have hp := ps_par (pos := pos) hc hN hi hj hij hx hy (pa_cons ha (pa_cons hb pa_nil hs2) hs) hw hsw
  refine ⟨fun pins s σ H Dd I q => hp.run pins s σ H Dd I ?_⟩
  obtain ⟨B, C, G0, H0, G, env, b, g, q⟩ := q
  have li : i < env.length := by
    rw [← g.len, I.len]
    exact (List.getElem?_eq_some_iff.mp hi).1
  have lj : j < env.length := by
    rw [← g.len, I.len]
    exact (List.getElem?_eq_some_iff.mp hj).1
  refine tE_then g q fun d b1 G1 H1 v s1 hb1 r1 g1 q => ?_
  have gn := g1.put r1 li
  refine tE_then g1 q fun d2 b2 G2 H2 v2 s2 hb2 r2 g2 q => ⟨_, v2, rfl, ?_⟩
  exact q _ G2 H2 ((gn.step s2 hb2).put r2 (setLt lj)) (s1.g.trans s2.g) (par_kept hkp)
theorem ds_parEF {kt : Nat} (hc : X.calm = true) (hN : X.N.Nodup) (hi : X.N[i]? = some x) (hj : X.N[j]? = some y) (hij : i ≠ j) (hx : X.env.scope.names.lookup x = some .local) (hy : X.env.scope.names.lookup y = some .local)
    (ha : PE X a (tE K T W fl Fa)) (hb : PE X b (tF K T W fl Fb)) (hlb : ∀ env b d b', Fb env b = .ok d b' → ∃ ds, d = .lst ds) (hkp : apart kp [i, j] = true := by rfl) (hs : starEach [a, b] X.env = (false, eval a X.env) :: starEach [b] X.env := by rfl) (hs2 : starEach [b] X.env = (false, eval b X.env) :: starEach [] X.env := by rfl)
    (hw : swappedStores [.Tuple [.Name x px, .Name y py] kt pt] (.Tuple [a, b] k2 pt2) X.env = pure (some [x, y]) := by rfl) (hsw : swapsWithSole [.Tuple [.Name x px, .Name y py] kt pt] (.Tuple [a, b] k2 pt2) pos.line X.env = pure false := by rfl) :
    PS X (.Assign [.Tuple [.Name x px, .Name y py] kt pt] (.Tuple [a, b] k2 pt2) pos) (tS K T W kp fl ⟨(fl.set i .dat).set j .ol, bk, ct⟩ (sPar i j Fa Fb)) := by
  have hp := ps_par (pos := pos) hc hN hi hj hij hx hy (pa_cons ha (pa_cons hb pa_nil hs2) hs) hw hsw
  refine ⟨fun pins s σ H Dd I q => hp.run pins s σ H Dd I ?_⟩
  obtain ⟨B, C, G0, H0, G, env, b, g, q⟩ := q
  have li : i < env.length := by
    rw [← g.len, I.len]
    exact (List.getElem?_eq_some_iff.mp hi).1
  have lj : j < env.length := by
    rw [← g.len, I.len]
    exact (List.getElem?_eq_some_iff.mp hj).1
  refine tE_then g q fun d b1 G1 H1 v s1 hb1 r1 g1 q => ?_
  have gn := g1.put r1 li
  refine tFl_then g1 hlb q fun ds2 b2 G2 H2 p2 vs2 s2 hb2 hp2 gp2 h2 r2 g2 q => ⟨_, _, rfl, ?_⟩
  exact q _ G2 H2 (gn.own s2 hb2 hp2 gp2 (setLt lj) (d := .lst ds2) (f := .ol) ⟨p2, vs2, ds2, rfl, rfl, h2, r2, rfl⟩) (s1.g.trans s2.g) (par_kept hkp)
theorem ds_parFE {kt : Nat} (hc : X.calm = true) (hN : X.N.Nodup) (hi : X.N[i]? = some x) (hj : X.N[j]? = some y) (hij : i ≠ j) (hx : X.env.scope.names.lookup x = some .local) (hy : X.env.scope.names.lookup y = some .local)
    (ha : PE X a (tF K T W fl Fa)) (hb : PE X b (tE K T W fl Fb)) (hla : ∀ env b d b', Fa env b = .ok d b' → ∃ ds, d = .lst ds) (hkp : apart kp [i, j] = true := by rfl) (hs : starEach [a, b] X.env = (false, eval a X.env) :: starEach [b] X.env := by rfl) (hs2 : starEach [b] X.env = (false, eval b X.env) :: starEach [] X.env := by rfl)
    (hw : swappedStores [.Tuple [.Name x px, .Name y py] kt pt] (.Tuple [a, b] k2 pt2) X.env = pure (some [x, y]) := by rfl) (hsw : swapsWithSole [.Tuple [.Name x px, .Name y py] kt pt] (.Tuple [a, b] k2 pt2) pos.line X.env = pure false := by rfl) :
    PS X (.Assign [.Tuple [.Name x px, .Name y py] kt pt] (.Tuple [a, b] k2 pt2) pos) (tS K T W kp fl ⟨(fl.set i .ol).set j .dat, bk, ct⟩ (sPar i j Fa Fb)) := by
  have hp := ps_par (pos := pos) hc hN hi hj hij hx hy (pa_cons ha (pa_cons hb pa_nil hs2) hs) hw hsw
  refine ⟨fun pins s σ H Dd I q => hp.run pins s σ H Dd I ?_⟩
  obtain ⟨B, C, G0, H0, G, env, b, g, q⟩ := q
  have li : i < env.length := by
    rw [← g.len, I.len]
    exact (List.getElem?_eq_some_iff.mp hi).1
  have lj : j < env.length := by
    rw [← g.len, I.len]
    exact (List.getElem?_eq_some_iff.mp hj).1
  show tF K T W fl Fa σ H fun v H1 => tE K T W fl Fb σ H1 fun v2 H2 => ∃ v' w, [v, v2] = [v', w] ∧ Dd.nx ((σ.set i (some v')).set j (some w)) H2
  refine tFl_then g hla q fun ds b1 G1 H1 p vs s1 hb1 hp1 gp1 h1 r1 g1 q => ?_
  have gn := g.own s1 hb1 hp1 gp1 li (d := .lst ds) (f := .ol) ⟨p, vs, ds, rfl, rfl, h1, r1, rfl⟩
  refine tE_then g1 q fun d2 b2 G2 H2 v2 s2 hb2 r2 g2 q => ⟨_, v2, rfl, ?_⟩
  exact q _ G2 H2 ((gn.step s2 hb2).put r2 (setLt lj)) (s1.g.trans s2.g) (par_kept hkp)
theorem ds_parFF {kt : Nat} (hc : X.calm = true) (hN : X.N.Nodup) (hi : X.N[i]? = some x) (hj : X.N[j]? = some y) (hij : i ≠ j) (hx : X.env.scope.names.lookup x = some .local) (hy : X.env.scope.names.lookup y = some .local)
    (ha : PE X a (tF K T W fl Fa)) (hb : PE X b (tF K T W fl Fb)) (hla : ∀ env b d b', Fa env b = .ok d b' → ∃ ds, d = .lst ds) (hlb : ∀ env b d b', Fb env b = .ok d b' → ∃ ds, d = .lst ds) (hkp : apart kp [i, j] = true := by rfl) (hs : starEach [a, b] X.env = (false, eval a X.env) :: starEach [b] X.env := by rfl) (hs2 : starEach [b] X.env = (false, eval b X.env) :: starEach [] X.env := by rfl)
    (hw : swappedStores [.Tuple [.Name x px, .Name y py] kt pt] (.Tuple [a, b] k2 pt2) X.env = pure (some [x, y]) := by rfl) (hsw : swapsWithSole [.Tuple [.Name x px, .Name y py] kt pt] (.Tuple [a, b] k2 pt2) pos.line X.env = pure false := by rfl) :
    PS X (.Assign [.Tuple [.Name x px, .Name y py] kt pt] (.Tuple [a, b] k2 pt2) pos) (tS K T W kp fl ⟨(fl.set i .ol).set j .ol, bk, ct⟩ (sPar i j Fa Fb)) := by
  have hp := ps_par (pos := pos) hc hN hi hj hij hx hy (pa_cons ha (pa_cons hb pa_nil hs2) hs) hw hsw
  refine ⟨fun pins s σ H Dd I q => hp.run pins s σ H Dd I ?_⟩
  obtain ⟨B, C, G0, H0, G, env, b, g, q⟩ := q
  have li : i < env.length := by
    rw [← g.len, I.len]
    exact (List.getElem?_eq_some_iff.mp hi).1
  have lj : j < env.length := by
    rw [← g.len, I.len]
    exact (List.getElem?_eq_some_iff.mp hj).1
  show tF K T W fl Fa σ H fun v H1 => tF K T W fl Fb σ H1 fun v2 H2 => ∃ v' w, [v, v2] = [v', w] ∧ Dd.nx ((σ.set i (some v')).set j (some w)) H2
  refine tFl_then g hla q fun ds b1 G1 H1 p vs s1 hb1 hp1 gp1 h1 r1 g1 q => ?_
  have gn := g.own s1 hb1 hp1 gp1 li (d := .lst ds) (f := .ol) ⟨p, vs, ds, rfl, rfl, h1, r1, rfl⟩
  refine tFl_then g1 hlb q fun ds2 b2 G2 H2 p2 vs2 s2 hb2 hp2 gp2 h2 r2 g2 q => ⟨_, _, rfl, ?_⟩
  exact q _ G2 H2 (gn.own s2 hb2 hp2 gp2 (setLt lj) (d := .lst ds2) (f := .ol) ⟨p2, vs2, ds2, rfl, rfl, h2, r2, rfl⟩) (s1.g.trans s2.g) (par_kept hkp)
end
/-- xs.append(ys.pop(e)) -/
theorem Reps.erase {G : Hp} : ∀ {ds : List D} {vs : List V} (k : Nat), Reps K T G ds vs → Reps K T G (ds.eraseIdx k) (vs.eraseIdx k)
  | [], vs, k, h => by
    unfold Reps at h
    subst h
    exact .nil
  | d :: ds, vs, 0, h => by
    unfold Reps at h
    obtain ⟨v, r, rfl, h1, h2⟩ := h
    exact h2
  | d :: ds, vs, k + 1, h => by
    unfold Reps at h
    obtain ⟨v, r, rfl, h1, h2⟩ := h
    exact .cons h1 (Reps.erase k h2)
theorem seqIx {k : Int} {n : Nat} (h0 : 0 ≤ k) (h1 : k < n) : seqIndex? k n = some k.toNat := by
  unfold seqIndex?
  have e : ¬ k < 0 := by omega
  simp [e, h0, h1]
theorem ds_apppop {bk ct : List Flg} {p1 p2 apos cpos apos2 cpos2 : Pos} (hf : fl.getD i .un = .ol) (hf2 : fl.getD j .un = .ol) (hij : i ≠ j) (hN : i < X.N.length) (hv : PE X (.Name x p1) (tVar i)) (hv2 : PE X (.Name y p2) (tVar j)) (he : PE X e (tE K T W fl Fe)) (hK : X.K = K)
    (hbase : attributeBase (.Name x p1) "append" X.env (eval (.Name x p1) X.env) = eval (.Name x p1) X.env := by rfl) (hbase2 : attributeBase (.Name y p2) "pop" X.env (eval (.Name y p2) X.env) = eval (.Name y p2) X.env := by rfl)
    (hfew : ((backTo cpos (starEach [.Call (.Attribute (.Name y p2) "pop" apos2) [e] [] cpos2] X.env)).all (fun x => !x.1) && (backToKw cpos (keywordEach [] X.env)).all (fun x => x.1.isSome)
      && decide (([.Call (.Attribute (.Name y p2) "pop" apos2) [e] [] cpos2] : List Expr).length + ([] : List Keyword).length + (if ([] : List Keyword).isEmpty then 0 else 1) < 30)) = true := by rfl)
    (hfew2 : ((backTo cpos2 (starEach [e] X.env)).all (fun x => !x.1) && (backToKw cpos2 (keywordEach [] X.env)).all (fun x => x.1.isSome)
      && decide (([e] : List Expr).length + ([] : List Keyword).length + (if ([] : List Keyword).isEmpty then 0 else 1) < 30)) = true := by rfl)
    (hline : (apos.endLine == cpos.line) = true := by rfl) (hline2 : (apos2.endLine == cpos2.line) = true := by rfl)
    (hs : starEach [.Call (.Attribute (.Name y p2) "pop" apos2) [e] [] cpos2] X.env = (false, eval (.Call (.Attribute (.Name y p2) "pop" apos2) [e] [] cpos2) X.env) :: starEach [] X.env := by rfl) (hs2 : starEach [e] X.env = (false, eval e X.env) :: starEach [] X.env := by rfl)
    (hsw : swapsWith (.Call (.Attribute (.Name x p1) "append" apos) [.Call (.Attribute (.Name y p2) "pop" apos2) [e] [] cpos2] [] cpos) none pos.line X.env = pure false := by rfl) :
    PS X (.Expr (.Call (.Attribute (.Name x p1) "append" apos) [.Call (.Attribute (.Name y p2) "pop" apos2) [e] [] cpos2] [] cpos) pos) (tS K T W kp fl ⟨fl, bk, ct⟩ (sAppPop i j Fe)) := by
  subst hK
  have pp := pe_bm (cpos := cpos2) PySem.F.plainAttrs_list PySem.F.slot_list_pop PySem.F.type_list_pop mt_popAt hv2 (pa_cons he pa_nil hs2) hbase2 hfew2 hline2 hs2 rfl
  refine PS.le (ps_expr (pe_bm PySem.F.plainAttrs_list PySem.F.slot_list_append PySem.F.type_list_append mt_append hv (pa_cons pp pa_nil hs) hbase hfew hline hs rfl) hsw) fun Dd σ H ⟨B, C, G0, H0, G, env, b, g, q⟩ => ?_
  obtain ⟨p, vs, ds, e1, e2, e3, e4, gp, h0⟩ := g.ol hf
  obtain ⟨r, us, zs, k1, k2, k3, k4, gr, hr0⟩ := g.ol hf2
  refine ⟨.ref p, e1, .inl ⟨rfl, vs, SqL.of e3⟩, ⟨.ref r, k1, .inl ⟨rfl, us, SqL.of k3⟩, ?_⟩⟩
  refine tE_then g q fun d b1 G1 H1 v s hb rd g1 q => ?_
  obtain ⟨p', vs', ds', a1, a2, a3, a4, gp', h0'⟩ := g1.ol hf
  obtain ⟨r', us', zs', c1, c2, c3, c4, gr', hr0'⟩ := g1.ol hf2
  rw [e1] at a1
  cases a1
  rw [k1] at c1
  cases c1
  cases d with
  | int kk =>
    rw [a2, c2] at q
    simp only at q
    by_cases hz : 0 ≤ kk ∧ kk < zs'.length ∧ zs'.length ≤ lim ∧ ds'.length < lim
    · rw [if_pos hz] at q
      cases hy : zs'[kk.toNat]? with
      | none =>
        rw [hy] at q
        exact q.elim
      | some yy =>
        rw [hy] at q
        obtain ⟨yv, y1, y2⟩ := c4.get hy
        cases (show v = .int kk from by unfold Rep at rd; exact rd)
        have hi : i < env.length := by
          rw [← g.len]
          exact (List.getElem?_eq_some_iff.mp e1).1
        have hj : j < env.length := by
          rw [← g.len]
          exact (List.getElem?_eq_some_iff.mp k1).1
        have lu : us'.length = zs'.length := c4.length
        have pr : p ≠ r := by
          rintro rfl
          obtain ⟨_, _, fp, h1, _, h3⟩ := g1
          have x1 := h1 i
          have x2 := h1 j
          rw [hf] at x1
          rw [hf2] at x2
          obtain ⟨p1, _, _, w1, _, _, _, w2⟩ := x1
          obtain ⟨p2, _, _, w3, _, _, _, w4⟩ := x2
          rw [e1] at w1
          rw [k1] at w3
          cases w1
          cases w3
          exact hij (h3 i j p (by rw [w2]; exact List.mem_singleton.mpr rfl) (by rw [w4]; exact List.mem_singleton.mpr rfl))
        have g2 := g1.setL hf2 k1 gr' hr0' (c4.erase kk.toNat) hj
        refine ⟨r, us', kk, kk.toNat, yv, rfl, rfl, c3, ?_, ?_, by rw [lu]; exact seqIx hz.1 hz.2.1, y1, ?_⟩
        · have := hz.1
          omega
        · have h1 := hz.2.1
          have h2 := hz.2.2.1
          unfold lim at h2
          omega
        · refine ⟨p, vs', yv, rfl, rfl, by rw [upd_ne pr]; exact a3, ?_, ?_⟩
          · rw [a4.length]
            exact Nat.lt_of_lt_of_le hz.2.2.2 (by decide)
          · exact q σ G1 _ (g2.setL hf e1 gp' h0' (a4.append (.one y2)) (setLt hi)) s.g .refl
    · rw [if_neg hz] at q
      exact q.elim
  | _ => exact q.elim
end
end ZL
end
section
set_option Elab.async false
set_option linter.all false
set_option maxRecDepth 100000
/-! LAYER: the bag: read, written, made; defs that give a new list. -/
namespace ZL
open PySem PySem.Spec PyProof.Rows L2 Z

section
variable {K : PySem.W.Frag} {T : Tb} {kp : List Nat} {fl fl' : List Flg} {fo : Fo} {W : XK} {X : Cx} {e a b c : Expr} {Fa Fb Fe : Z.Ex} {S R : Z.Sm} {st : Stmt} {sts rest : List Stmt} {pos p2 py sp : Pos} {i : Nat} {y : Str} {jn : Nat}
theorem Good.bag {B C : List Addr} {G0 H0 G H : Hp} {σ : L2.St} {env : Sl} {bg : Bag} (g : Good K T fl B C G0 H0 G H σ env bg) (h : fl.getD i .un = .bag) : ∃ a, B = [a] ∧ σ[i]? = some (some (.ref a)) ∧ H a = some (bagO bg) ∧ BagOk bg ∧ G a = none := by
  obtain ⟨c, _, fp, h1, _, _⟩ := g
  have x := h1 i
  rw [h] at x
  obtain ⟨_, a, hB, hs⟩ := x
  subst hB
  have m : a ∈ [a] := List.mem_singleton.mpr rfl
  exact ⟨a, rfl, hs, (c.bag a m).1, (c.bag a m).2, (c.bg a (c.bc a m)).1⟩
theorem de_bagix (k : Nat) {kI : Int} (hk : kI = (k : Int)) (h3 : k < 3) (hf : fl.getD i .un = .bag) (hv : PE X (.Name y py) (tVar i)) : PE X (.Subscript (.Name y py) (.Constant (.int kI) jn p2) pos) (tE K T W fl (xBag k)) := by
  refine PE.le (pe_ix ix_list hv pe_int (by intro _ _; rfl)) fun σ H Q ⟨B, C, G0, H0, G, env, b, g, q⟩ => ?_
  obtain ⟨a, hB, hs, ha, _, _⟩ := g.bag hf
  refine ⟨.ref a, hs, ?_⟩
  show rIxL X.K (.ref a) (.int kI) H Q
  refine ⟨a, [.int b.dg, .int b.sd, .int b.ct], kI, .int (if k = 0 then b.dg else if k = 1 then b.sd else b.ct), rfl, rfl, SqL.of ha, ?_, q G H _ (.refl g.core.sub) g.core.bag .int⟩
  subst hk
  rcases k with _ | _ | _ | k
  · rfl
  · rfl
  · rfl
  · omega
theorem okBag_of {b : Bag} (h : okBag b = true) : BagOk b := by
  unfold okBag at h
  simp only [Bool.and_eq_true, decide_eq_true_eq] at h
  exact ⟨h.1.1.1.1, h.1.1.1.2, h.1.1.2, h.1.2, h.2⟩
theorem ds_bag (k : Nat) {kI : Int} {bk ct : List Flg} (hk : kI = (k : Int)) (h3 : k < 3) (hf : fl.getD i .un = .bag) (hv : PE X (.Name y py) (tVar i)) (he : PE X e (tE K T W fl Fe))
    (hs : swapsWithSole [.Subscript (.Name y py) (.Constant (.int kI) jn p2) sp] e pos.line X.env = pure false := by rfl) (hw : swappedStores [.Subscript (.Name y py) (.Constant (.int kI) jn p2) sp] e X.env = pure none := by rfl)
    (h1 : (assignEach [.Subscript (.Name y py) (.Constant (.int kI) jn p2) sp] X.env).map (·.2) = [assign (.Subscript (.Name y py) (.Constant (.int kI) jn p2) sp) X.env] := by rfl) :
    PS X (.Assign [.Subscript (.Name y py) (.Constant (.int kI) jn p2) sp] e pos) (tS K T W kp fl ⟨fl, bk, ct⟩ (sBag k Fe)) := by
  refine PS.le (ps_asg he (pg_sub hv pe_int set_list) hs hw h1) fun Dd σ H ⟨B, C, G0, H0, G, env, b, g, q⟩ => tE_then g q fun d b1 G1 H1 v s hb r g1 q => ?_
  cases d with
  | int n =>
    simp only at q
    by_cases ok : okBag (setBag k n b1) = true
    · rw [if_pos ok] at q
      cases (show v = .int n from by unfold Rep at r; exact r)
      obtain ⟨a, hB, hs, ha, _, ga⟩ := g1.bag hf
      refine ⟨.ref a, hs, ?_⟩
      show rSetL (.ref a) (.int kI) (.int n) H1 fun H3 => Dd.nx σ H3
      have hx : ([.int b1.dg, .int b1.sd, .int b1.ct] : List V).set k (.int n) = [.int (setBag k n b1).dg, .int (setBag k n b1).sd, .int (setBag k n b1).ct] := by
        rcases k with _ | _ | _ | k
        · rfl
        · rfl
        · rfl
        · omega
      refine ⟨a, [.int b1.dg, .int b1.sd, .int b1.ct], kI, k, rfl, rfl, ha, ?_, ?_⟩
      · subst hk
        rcases k with _ | _ | _ | k
        · rfl
        · rfl
        · rfl
        · omega
      · rw [hx]
        have st : Stp B G1 H1 G1 (upd H1 a (bagO (setBag k n b1))) := by
          rw [hB]
          exact Stp.poke g1.core.sub ga ⟨_, ha⟩
        have hb2 : BagAt B (upd H1 a (bagO (setBag k n b1))) (setBag k n b1) := fun a' h' => by
          rw [hB] at h'
          rw [List.mem_singleton.mp h']
          exact ⟨upd_same, okBag_of ok⟩
        exact q σ G1 _ (g1.step st hb2) s.g .refl
    · rw [if_neg ok] at q
      exact q.elim
  | _ => exact q.elim

/-! ### defs that give a new list -/
def tSF (K : PySem.W.Frag) (T : Tb) (W : XK) (kp : List Nat) (fl : List Flg) (S : Z.Sm) : TS := fun Dd σ H => ∃ B C G0 H0 G env b, Good K T fl B C G0 H0 G H σ env b ∧ oW (fun f b' => match f with
  | .rt d => ∀ p G' H', Core B C G0 H0 G' H' b' → H0 p = none → G' p = none → RepO K T G' H' d p → Dd.rt (.ref p) H'
  | _ => False) (XOk K T W B C G0 H0) (S env b)
theorem dssF_ret (h : PE X e (tF K T W fl Fe)) : PSs X [.Return (some e) pos] (tSF K T W kp fl (sRet Fe)) :=
  PSs.le (pss_one (ps_ret h)) fun Dd σ H ⟨B, C, G0, H0, G, env, b, g, q⟩ => ⟨B, C, G0, H0, G, env, b, g, q.bnd.imp fun d b1 q G1 H1 p s hb hp gp r => by
    have g1 := g.step s hb
    refine q p G1 H1 g1.core ?_ gp r
    cases e : H0 p with
    | none => rfl
    | some o =>
      obtain ⟨o', e'⟩ := g.core.stp.k p o e
      rw [hp] at e'
      cases e'⟩
theorem dssF_cons {fm : List Flg} (h1 : PS X st (tS K T W kp fl ⟨fm, [], []⟩ S)) (h2 : PSs X rest (tSF K T W kp fm R)) : PSs X (st :: rest) (tSF K T W kp fl (sAndF S R)) :=
  PSs.le (pss_cons h1 h2) fun Dd σ H ⟨B, C, G0, H0, G, env, b, g, q⟩ => ⟨B, C, G0, H0, G, env, b, g, q.bnd.imp fun f b1 q => by
    cases f with
    | nx env1 => exact fun σ' G' H' g' s' k' => ⟨B, C, G0, H0, G', env1, b1, g', q⟩
    | rt d => exact q.elim
    | bk env1 => exact q.elim
    | ct env1 => exact q.elim⟩
end
/-- what a def that gives a new list promises -/
def spF (K : PySem.W.Frag) (T : Tb) (np : Nat) (f : List D → M D) : Sp := fun vs H Q E => ∃ (G : Hp) (ds : List D) (b : Bag), ds.length = np ∧ Sub G H ∧ Reps K T G ds vs ∧
  oW (fun d b' => ∀ p G' H', Stp [] G H G' H' → H p = none → G' p = none → RepO K T G' H' d p → Q (.ref p) H') (fun c x b' => ∀ G' H' cls dd, Core [] [] G H G' H' b' → ExcAt K T G' H' c x cls dd → E cls dd H') (f ds b)
section
variable {K : PySem.W.Frag} {T : Tb} {P : Program} {w : World} {mg : Str → Option Value} {base : Heap}
theorem def_okF {x qual : Str} {params : Arguments} {body : List Stmt} {scope : Scope} {dvs : List V} {kws : List (Str × V)} {f : Addr} {fd : FuncData} {N ps : List Str} {k np n : Nat} {S : Z.Sm} (F : FunD K x qual params body scope dvs kws f fd) (Sc : FnScope N ps scope)
    (hn : N.length = n) (hp : ps.length = np) (hnp : np ≤ n)
    (hbody : ∀ (cdv : Value) (A : Around) (outer : List Env) (s : Shared) (H : Hp) (E : XK), Room k (A.deeper (envOfC qual scope s.heap.objs.size f cdv)) → PSs (cxOf (CX P w) P w K mg base N qual scope f cdv A outer s H E) body (tSF K T E [] (fl0 false np) S)) :
    FnOk P w K mg base (CX P w) (k + 1) f fd ps (spF K T np (runF n S)) := by
  refine F.ok Sc (fun vs H Q E ⟨G, ds, b, hl, _, r, _⟩ => by rw [r.length, hl, hp]) fun cdv A outer s H vs Q E hr h => ⟨_, hbody cdv A outer s H E hr, ?_⟩
  obtain ⟨G, ds, b, hl, sb, r, q⟩ := h
  unfold runF at q
  rw [hl] at q
  refine ⟨[], [], G, H, G, _, b, good_start hn hl (by omega) sb r, q.bnd.mono (fun f' b1 q => ?_) fun c x b1 q => q⟩
  cases f' with
  | nx env1 => exact q.elim
  | rt d => exact fun p G' H' c h0 gp r => q p G' H' c.stp h0 gp r
  | bk env1 => exact q.elim
  | ct env1 => exact q.elim
end
structure CalOkF (P : Program) (w : World) (K : PySem.W.Frag) (T : Tb) (mg : Str → Option Value) (base : Heap) (x : Str) (k np : Nat) (dds : List D) (f : List D → M D) : Prop where
  ex : ∃ (fa : Addr) (fd : FuncData) (ps : List Str) (ds : List Value) (dvs : List V), FnOk P w K mg base (CX P w) k fa fd ps (spF K T np f) ∧ mg x = some (.ref fa) ∧ PySem.W.keepIn K (.ref fa) = true ∧ Binds K fd ps ds ∧ Vals dvs ds ∧ ∀ G, Reps K T G dds dvs
section
variable {T : Tb} {fl : List Flg} {W : XK} {X : Cx} {e : Expr} {es : List Expr} {x : Str} {p pos : Pos} {k np : Nat} {dds : List D} {f : List D → M D} {as : List Z.Ex}
theorem df_callF (o : CalOkF X.prog X.w X.K T X.mg X.base x k np dds f) (hr : Room k X.A) (hg : Gl X x) (hx : Passes (CX X.prog X.w) X W) (ha : PA X (e :: es) (tAs X.K T W fl (xL as))) (hn : as.length + dds.length = np := by rfl)
    (hdb : (x == ("__debug__" : Str)) = false := by decide) (he : starEach (e :: es) X.env = (false, eval e X.env) :: starEach es X.env := by rfl) (hpl : (backTo pos (starEach es X.env)).any (·.1) = false := by rfl) :
    PE X (.Call (.Name x p) (e :: es) [] pos) (tF X.K T W fl (xQ f (xApp (xL as) dds))) := by
  obtain ⟨fa, fd, ps, dsv, dvs, F, hm, hk, hb, hd, hdd⟩ := o.ex
  refine PE.le (pe_call F hr hg hm hk hb hd hx ha hdb he hpl) fun σ H Q ⟨B, C, G0, H0, G, env, b, g, q⟩ => ?_
  have q2 := q.bnd.bnd
  refine ⟨B, C, G0, H0, G, env, b, g, (oW_len q2).imp fun ds b1 ⟨hl, q⟩ G1 H1 vs s hb r => ?_⟩
  have g1 := g.step s hb
  have q : oW (fun d b' => ∀ G' H' p, Stp B G H G' H' → BagAt B H' b' → H p = none → G' p = none → RepO X.K T G' H' d p → Q (.ref p) H') (XOk X.K T W B C G0 H0) (pureC f (ds ++ dds) b1) := q
  refine ⟨G1, ds ++ dds, ⟨0, 0, 0⟩, by rw [List.length_append, hl, hn], g1.core.sub, r.append (hdd G1), ?_⟩
  unfold pureC at q
  cases e : f (ds ++ dds) ⟨0, 0, 0⟩ with
  | no =>
    rw [e] at q
    exact q
  | ok d b' =>
    rw [e] at q
    exact fun p G' H' s' hp gp r' => q G' H' p (s.trans s'.pure) (hb.keep s') (s.back hp) gp r'
  | ex c y b' =>
    rw [e] at q
    exact fun G' H' cls dd c' ex => q G' H' cls dd (g1.core.step c'.stp.pure (g1.core.bag.keep c'.stp)) ex
end
end ZL
end
section
set_option Elab.async false
set_option linter.all false
set_option maxRecDepth 100000
/-! LAYER: a bag of one's own. -/
namespace ZL
open PySem PySem.Spec PyProof.Rows L2 Z

def noBag (fl : List Flg) : List Flg := fl.map fun f => if f = .bag then .un else f
theorem noBag_get (fl : List Flg) (i : Nat) : (noBag fl).getD i .un = if fl.getD i .un = .bag then .un else fl.getD i .un := by
  unfold noBag
  rw [List.getD_eq_getElem?_getD, List.getD_eq_getElem?_getD, List.getElem?_map]
  cases fl[i]? with
  | none => rfl
  | some f => rfl
def datOnly (fl : List Flg) : Bool := fl.all fun f => decide (f = .dat) || decide (f = .un)
theorem datOnly_get {fl : List Flg} (h : datOnly fl = true) (i : Nat) : fl.getD i .un = .dat ∨ fl.getD i .un = .un := by
  rw [List.getD_eq_getElem?_getD]
  cases e : fl[i]? with
  | none => exact .inr rfl
  | some f =>
    have := List.all_eq_true.mp h f (List.mem_of_getElem? e)
    rw [Bool.or_eq_true] at this
    exact this.imp of_decide_eq_true of_decide_eq_true
section
variable {K : PySem.W.Frag} {T : Tb} {B C : List Addr} {G0 H0 G H G1 H1 G2 H2 : Hp} {b b2 : Bag} {p : Addr}
theorem Core.unroot (c : Core B C G0 H0 G1 H1 b) (h0 : H0 p = none) (nb : p ∉ B) (s : Stp [p] G1 H1 G2 H2) : Core B C G0 H0 G2 H2 b := by
  have back : ∀ a o, H0 a = some o → a ≠ p := fun a o e z => by
    rw [z, h0] at e
    cases e
  refine ⟨⟨c.stp.g.trans s.g, s.i, fun a o e n => s.h a o (c.stp.h a o e n) (by simpa using back a o e), fun a o e => ?_, fun a o e1 e2 => ?_⟩, fun a ha => ?_, c.bc, fun a ha => ?_⟩
  · obtain ⟨o', e'⟩ := c.stp.k a o e
    exact s.k a o' e'
  · cases e3 : G1 a with
    | some o1 => exact c.stp.n a o1 e3 e2
    | none =>
      have e4 := s.n a o e1 e3
      exact c.stp.back e4
  · obtain ⟨z1, z2⟩ := c.bag a ha
    exact ⟨s.h a _ z1 (by
      simp only [List.mem_singleton]
      rintro rfl
      exact nb ha), z2⟩
  · obtain ⟨z1, o, z2⟩ := c.bg a ha
    refine ⟨?_, o, z2⟩
    cases e : G2 a with
    | none => rfl
    | some o1 =>
      have e4 := s.n a o1 e z1
      have := c.stp.back e4
      rw [z2] at this
      cases this
theorem Good.unroot {fl2 : List Flg} {σ2 : L2.St} {env2 : Sl} (c : Core B C G0 H0 G1 H1 b) (h0 : H0 p = none) (nb : p ∉ B) (g : Good K T fl2 [p] [p] G1 H1 G2 H2 σ2 env2 b2) : Good K T (noBag fl2) B C G0 H0 G2 H2 σ2 env2 b := by
  obtain ⟨c2, l, F, k1, k2, k3⟩ := g
  refine ⟨c.unroot h0 nb c2.stp, l, F, fun i => ?_, fun i q hq => ⟨(k2 i q hq).1, c.stp.back (k2 i q hq).2⟩, k3⟩
  have x := k1 i
  rw [noBag_get]
  generalize fl2.getD i .un = f at x ⊢
  cases f with
  | bag =>
    rw [if_pos rfl]
    exact x.1
  | un => exact x
  | dat => exact x
  | ol => exact x
  | od => exact x
  | oi => exact x
  | oll => exact x
  | og => exact x
/-- the new bag -/
theorem Good.reroot {fl : List Flg} {σ : L2.St} {env : Sl} (g : Good K T fl B C G0 H0 G1 H1 σ env b) (hd : datOnly fl = true) {i : Nat} (hi : i < env.length) (gp : G1 p = none) (hp : H1 p = some (bagO b2)) (ok : BagOk b2) :
    Good K T (fl.set i .bag) [p] [p] G1 H1 G1 H1 (σ.set i (some (.ref p))) env b2 := by
  obtain ⟨c, l, F, k1, k2, k3⟩ := g
  refine ⟨⟨.refl c.sub, fun a ha => ?_, fun a ha => ha, fun a ha => ?_⟩, by rw [List.length_set]; exact l, fun _ => [], fun j => ?_, fun j q hq => (by cases hq), fun j k q hq => (by cases hq)⟩
  · rw [List.mem_singleton.mp ha]
    exact ⟨hp, ok⟩
  · rw [List.mem_singleton.mp ha]
    exact ⟨gp, _, hp⟩
  · by_cases e : j = i
    · subst e
      by_cases hf : j < fl.length
      · rw [getD_set_same hf, List.getElem?_set_self (by omega)]
        exact ⟨rfl, p, rfl, rfl⟩
      · rw [getD_out (by rw [List.length_set]; omega)]
        rfl
    · rw [getD_set_ne (Ne.symm e), List.getElem?_set_ne (Ne.symm e)]
      have x := k1 j
      rcases datOnly_get hd j with z | z
      · rw [z] at x ⊢
        exact ⟨rfl, x.2⟩
      · rw [z]
        rfl
end
section
variable {K : PySem.W.Frag} {T : Tb} {kp : List Nat} {fl : List Flg} {fo : Fo} {W : XK} {X : Cx} {e : Expr} {Fe : Z.Ex} {R : Z.Sm} {rest : List Stmt} {pos pos' : Pos} {i : Nat} {x : Str}
theorem dss_newbag (he : PE X e (tF K T W fl Fe)) (hd : datOnly fl = true) (hN : X.N.Nodup) (hi : X.N[i]? = some x) (hx : Loc X.env.scope x) (hr : PSs X rest (tS K T W kp (fl.set i .bag) fo R)) (hkp : apart kp [i] = true := by rfl) (hs : swapsWith e (some (.Name x pos')) pos.line X.env = pure false := by rfl)
    (hf : X.fn x = true ∨ X.env.scope.names.lookup x = some .local := by first | exact .inl rfl | exact .inr rfl | assumption) :
    PSs X (.Assign [.Name x pos'] e pos :: rest) (tS K T W kp fl ⟨noBag fo.nx, noBag fo.bk, noBag fo.ct⟩ (sNewBag Fe R)) := by
  have hp := pss_cons (ps_set (pos := pos) hN hi hx he hs hf) hr
  refine ⟨fun pins s σ H Dd I q => hp.run pins s σ H Dd I ?_⟩
  obtain ⟨B, C, G0, H0, G, env, b, g, q⟩ := q
  have hle : i < env.length := by
    rw [← g.len, I.len]
    exact (List.getElem?_eq_some_iff.mp hi).1
  refine ⟨B, C, G0, H0, G, env, b, g, q.bnd.imp fun d b1 q G1 H1 p s1 hb hp0 gp r => ?_⟩
  have g1 := g.step s1 hb
  have h0 : H0 p = none := by
    cases e : H0 p with
    | none => rfl
    | some o =>
      obtain ⟨o', e'⟩ := g.core.stp.k p o e
      rw [hp0] at e'
      cases e'
  have nb : p ∉ B := g.core.own_ne h0
  cases e3 : bag3 d with
  | none =>
    rw [e3] at q
    exact q.elim
  | some n =>
    rw [e3] at q
    have ed := bag3_of e3
    subst ed
    obtain ⟨vs, h1, h2⟩ := r
    by_cases ok : okBag n = true
    · simp only [ok, if_true] at q
      have hv : vs = [.int n.dg, .int n.sd, .int n.ct] := by
        unfold Reps at h2
        obtain ⟨v1, r1, rfl, a1, h2⟩ := h2
        unfold Reps at h2
        obtain ⟨v2, r2, rfl, a2, h2⟩ := h2
        unfold Reps at h2
        obtain ⟨v3, r3, rfl, a3, h2⟩ := h2
        unfold Reps at h2
        unfold Rep at a1 a2 a3
        rw [a1, a2, a3, h2]
      rw [hv] at h1
      have gn := g1.reroot hd hle gp (b2 := n) h1 (okBag_of ok)
      show tS K T W kp (fl.set i .bag) fo R _ (σ.set i (some (.ref p))) H1
      refine ⟨[p], [p], G1, H1, G1, env, n, gn, ?_⟩
      have kk : Kept kp σ (σ.set i (some (.ref p))) := .of hkp fun j hj => List.getElem?_set_ne fun z => hj (by rw [z]; exact List.mem_singleton.mpr rfl)
      cases eR : R env n with
      | no =>
        rw [eR] at q
        exact q
      | ex c x b3 =>
        rw [eR] at q
        exact q.elim
      | ok f b3 =>
        rw [eR] at q
        cases f with
        | nx env1 => exact fun σ2 G2 H2 g2 s2 k2 => q σ2 G2 H2 (Good.unroot g1.core h0 nb g2) (s1.g.trans s2) (kk.trans k2)
        | rt d => exact fun v G2 H2 c2 r2 => q v G2 H2 (g1.core.unroot h0 nb c2.stp) r2
        | bk env1 => exact fun σ2 G2 H2 g2 s2 k2 => q σ2 G2 H2 (Good.unroot g1.core h0 nb g2) (s1.g.trans s2) (kk.trans k2)
        | ct env1 => exact fun σ2 G2 H2 g2 s2 k2 => q σ2 G2 H2 (Good.unroot g1.core h0 nb g2) (s1.g.trans s2) (kk.trans k2)
    · simp only [ok, if_false] at q
      exact q.elim
end
end ZL
end
section
set_option linter.all false
/-! PLAIN: more expressions. -/
namespace Z
open M
def oMul : D → D → Option D
  | .int i, .int j => if (-(2 ^ 64) < i ∧ i < 2 ^ 64) ∨ (-(2 ^ 64) < j ∧ j < 2 ^ 64) then some (.int (i * j)) else none
  | _, _ => none
def oFdiv : D → D → Option D
  | .int i, .int j => if 0 < j ∧ j < 1073741824 then some (.int (i / j)) else none
  | _, _ => none
def oMod : D → D → Option D
  | .int i, .int j => if 0 < j then some (.int (i % j)) else none
  | _, _ => none
def oPow : D → D → Option D
  | .int i, .int j => if 0 ≤ j ∧ j ≤ 1000000 ∧ i.natAbs < 2 ^ 64 then some (.int (i ^ j.toNat)) else none
  | _, _ => none
def oNeg : D → Option D
  | .int i => some (.int (-i))
  | _ => none
/-- str(e) -/
def oStr : D → Option D
  | .int i => if i.natAbs < 1000000 then some (.str (strI i)) else none
  | .str s => some (.str s)
  | _ => none
/-- xs[:k] -/
def oCut : D → D → Option D
  | .lst xs, .int k => if 0 ≤ k then some (.lst (xs.take k.toNat)) else none
  | _, _ => none
def oCutT : D → D → Option D
  | .tup xs, .int k => if 0 ≤ k ∧ k < xs.length then some (.tup (xs.take k.toNat)) else none
  | _, _ => none
theorem oCut_inv {x y d : D} (e : oCut x y = some d) : ∃ xs k, x = .lst xs ∧ y = .int k ∧ 0 ≤ k ∧ d = .lst (xs.take k.toNat) := by
  unfold oCut at e
  split at e
  · split at e
    · rename_i xs k h
      cases e
      exact ⟨xs, k, rfl, rfl, h, rfl⟩
    · cases e
  · cases e
theorem oCutT_inv {x y d : D} (e : oCutT x y = some d) : ∃ xs k, x = .tup xs ∧ y = .int k ∧ 0 ≤ k ∧ k < (xs.length : Int) ∧ d = .tup (xs.take k.toNat) := by
  unfold oCutT at e
  split at e
  · split at e
    · rename_i xs k h
      cases e
      exact ⟨xs, k, rfl, rfl, h.1, h.2, rfl⟩
    · cases e
  · cases e
theorem fld_inv {c j : Nat} {x d : D} (e : fld c j x = some d) : ∃ xs, x = .ins c xs ∧ xs[j]? = some d := by
  unfold fld at e
  split at e
  · split at e
    · rename_i k xs h
      subst h
      exact ⟨xs, rfl, e⟩
    · cases e
  · cases e
def seqD : D → Option (List D)
  | .lst xs => some xs
  | .tup xs => some xs
  | .ftp xs => some xs
  | _ => none
/-- *a, .. -/
def xStar (a : Ex) (r : Exs) : Exs := fun env => bnd (a env) fun x => bnd (opt (seqD x)) fun ds => bnd (r env) fun es => ret (ds ++ es)
def xLstG (as : Exs) : Ex := fun env => bnd (as env) fun ds => if ds.length ≤ lim then ret (.lst ds) else no
def intsD : List D → Option (List Int)
  | [] => some []
  | .int i :: r => (intsD r).map (i :: ·)
  | _ => none
def maxI : List Int → Int
  | [] => 0
  | x :: r => r.foldl max x
/-- max of a tuple or list of ints -/
def oMaxS (d : D) : Option D := (match d with
  | .lst xs => intsD xs
  | .tup xs => intsD xs
  | _ => none).bind fun ns => if ns = [] then none else some (.int (maxI ns))
/-- a own field of the instance in slot i -/
def xOwnF (i c j : Nat) : Ex := fun env => match env.getD i .non with
  | .ins k xs => if k = c then opt xs[j]? else no
  | _ => no
/-- the field j of the instance in slot i is set -/
def sOwnF (i c j : Nat) (e : Ex) : Sm := fun env => bnd (e env) fun d => match env.getD i .non with
  | .ins k xs => if k = c ∧ j ≤ xs.length then ret (.nx (env.set i (.ins c (if j < xs.length then xs.set j d else xs ++ [d])))) else no
  | _ => no
/-- names.index(x), a list or a remembered tuple -/
def oIndex : D → D → Option D
  | .lst ys, x => if shp x && ys.all shp then (idxD x ys).map fun (j : Nat) => .int j else none
  | .ftp ys, .str s => (strL ys).bind fun _ => (idxD (.str s) ys).map fun (j : Nat) => .int j
  | _, _ => none
def lstD : D → Option (List D)
  | .lst xs => some xs
  | _ => none
def ftpD : D → Option (List D)
  | .ftp xs => some xs
  | _ => none
theorem lstD_inv {x : D} {ys : List D} (e : lstD x = some ys) : x = .lst ys := by
  cases x <;> simp [lstD] at e
  rw [e]
theorem ftpD_inv {x : D} {ys : List D} (e : ftpD x = some ys) : x = .ftp ys := by
  cases x <;> simp [ftpD] at e
  rw [e]
def xIndexL (a b : Ex) : Ex := fun env => bnd (a env) fun x => bnd (opt (lstD x)) fun ys => bnd (b env) fun y => opt (oIndexL (.lst ys) y)
def xIndexT (a b : Ex) : Ex := fun env => bnd (a env) fun x => bnd (opt (ftpD x)) fun ys => bnd (b env) fun y => opt (oIndexT (.ftp ys) y)
def insD (c : Nat) : D → Option (List D)
  | .ins k xs => if k = c then some xs else none
  | _ => none
theorem insD_inv {c : Nat} {x : D} {ys : List D} (e : insD c x = some ys) : x = .ins c ys := by
  unfold insD at e
  split at e
  · split at e
    · rename_i h
      cases e
      rw [h]
    · cases e
  · cases e
/-- a call of the method of class c -/
def xMeth (c : Nat) (f : List D → M D) (o : Ex) (as : Exs) : Ex := fun env => bnd (o env) fun d => bnd (opt (insD c d)) fun _ => bnd (as env) fun ds => pureC f (d :: ds)
end Z
end
section
set_option Elab.async false
set_option linter.all false
set_option maxRecDepth 100000
/-! LAYER: numbers, str(), slices, starred items, fields, index. -/
namespace ZL
open PySem PySem.Spec PyProof.Rows L2 Z

section
variable {K : PySem.W.Frag} {T : Tb}
theorem sem_mul : Sem2 K T (rI CMul fun i j => .int (i * j)) oMul := by
  intro B G H x y d u v Q s hx hy e q
  unfold oMul at e
  split at e
  · split at e
    · rename_i h
      cases e
      exact ⟨_, _, hx.int, hy.int, h, q.at s .int⟩
    · cases e
  · cases e
theorem sem_fdiv : Sem2 K T (rI CDiv fun i j => .int (i / j)) oFdiv := by
  intro B G H x y d u v Q s hx hy e q
  unfold oFdiv at e
  split at e
  · split at e
    · rename_i h
      cases e
      exact ⟨_, _, hx.int, hy.int, h, q.at s .int⟩
    · cases e
  · cases e
theorem sem_mod : Sem2 K T (rI (fun _ j => 0 < j) fun i j => .int (i % j)) oMod := by
  intro B G H x y d u v Q s hx hy e q
  unfold oMod at e
  split at e
  · split at e
    · rename_i h
      cases e
      exact ⟨_, _, hx.int, hy.int, h, q.at s .int⟩
    · cases e
  · cases e
theorem sem_pow : Sem2 K T (rI CPow fun i j => .int (i ^ j.toNat)) oPow := by
  intro B G H x y d u v Q s hx hy e q
  unfold oPow at e
  split at e
  · split at e
    · rename_i h
      cases e
      exact ⟨_, _, hx.int, hy.int, h, q.at s .int⟩
    · cases e
  · cases e
theorem sem_neg : Sem1 K T (rU fun i => .int (-i)) oNeg := by
  intro B G H x d u Q s hx e q
  unfold oNeg at e
  split at e
  · cases e
    exact ⟨_, hx.int, q.at s .int⟩
  · cases e
/-! ### str(..) -/
def rStrA : List V → Hp → VK → Prop := fun xs H Q => (∃ i, xs = [.int i] ∧ i.natAbs.log2 < 1920 ∧ Q (.str (toString i)) H) ∨ ∃ a, xs = [.str a] ∧ Q (.str a) H
theorem call_strA {X : Cx} : CallR X (.type "str") rStrA := ZL.CallR.or call_str_int SkE.call_str_str
theorem sem_str : SemA K T rStrA (o1 oStr) := semA1 fun B G H x d u Q s hu e q => by
  unfold oStr at e
  split at e
  · rename_i i
    split at e
    · rename_i h
      cases e
      refine .inl ⟨i, by rw [hu.int], ?_, ?_⟩
      · have : i.natAbs.log2 ≤ i.natAbs := Nat.log2_le_self _
        have h2 : i.natAbs < 2 ^ 20 := Nat.lt_trans h (by decide)
        by_cases z : i.natAbs = 0
        · rw [z]
          decide
        · have := (Nat.log2_lt z).mpr h2
          omega
      · have := q.at s (.str (i := strI i))
        rw [← toS_of, ← toStr_int] at this
        exact this
    · cases e
  · cases e
    exact .inr ⟨_, by rw [hu.str], q.at s .str⟩
  · cases e
/-! ### max of a tuple or a list -/
theorem ints_rep {G : Hp} : ∀ {ds : List D} {vs : List V} {ns : List Int}, Reps K T G ds vs → intsD ds = some ns → vs = ns.map V.int
  | [], vs, ns, h, e => by
    unfold Reps at h
    subst h
    cases e
    rfl
  | d :: ds, vs, ns, h, e => by
    unfold Reps at h
    obtain ⟨v, r, rfl, h1, h2⟩ := h
    cases d with
    | int i =>
      simp only [intsD, Option.map_eq_some_iff] at e
      obtain ⟨ms, e1, rfl⟩ := e
      unfold Rep at h1
      rw [h1, ints_rep h2 e1]
      rfl
    | _ => simp [intsD] at e
theorem foldl_max : ∀ (r : List Int) (x : Int), (r.foldl max x ∈ x :: r) ∧ ∀ y ∈ x :: r, y ≤ r.foldl max x
  | [], x => by simp
  | z :: r, x => by
    obtain ⟨h1, h2⟩ := foldl_max r (max x z)
    rw [List.foldl_cons]
    have hm := h2 (max x z) List.mem_cons_self
    refine ⟨?_, fun y hy => ?_⟩
    · rcases List.mem_cons.mp h1 with e | e
      · rw [e]
        by_cases c : x ≤ z
        · rw [Int.max_eq_right c]
          exact List.mem_cons_of_mem _ List.mem_cons_self
        · rw [Int.max_eq_left (by omega)]
          exact List.mem_cons_self
      · exact List.mem_cons_of_mem _ (List.mem_cons_of_mem _ e)
    · rcases List.mem_cons.mp hy with e | e
      · omega
      · rcases List.mem_cons.mp e with e | e
        · omega
        · exact h2 y (List.mem_cons_of_mem _ e)
theorem max_one {ns : List Int} {m : Int} (h1 : m ∈ ns) (h2 : ∀ y ∈ ns, y ≤ m) : m = maxI ns := by
  cases ns with
  | nil => cases h1
  | cons x r =>
    obtain ⟨a, b⟩ := foldl_max r x
    have e1 := h2 _ a
    have e2 := b _ h1
    show m = r.foldl max x
    omega
def rMaxT (K : PySem.W.Frag) : List V → Hp → VK → Prop := fun xs H Q => ∃ (p : Addr) (ns : List Int), xs = [.ref p] ∧ ns ≠ [] ∧ (SqL K H p (ns.map V.int) ∨ SqT K H p (ns.map V.int)) ∧ Q (.int (maxI ns)) H
theorem toPy_ints : ∀ {xs : List V} {zs : List PyData} {K : PySem.W.Frag} {H : Hp} (ns : List Int), DpAll K H (ns.map V.int) (ns.map .int)
  | _, _, _, _, [] => .nil
  | xs, zs, K, H, n :: ns => .cons (.int n) (toPy_ints (xs := xs) (zs := zs) ns)
theorem cr_maxT {X : Cx} (hc : X.calm = true) (hu : X.A.units + 70 < cLine) : CallR X (.builtin "max") (rMaxT X.K) := by
  intro pins s σ H xs us Q I r h
  obtain ⟨p, ns, rfl, hne, hq, q⟩ := h
  rcases hq with hq | hq
  · refine cr_max hc pins s σ H _ us Q I r ⟨p, ns, rfl, hq, ?_, fun m h1 h2 => ?_⟩
    · cases ns with
      | nil => exact absurd rfl hne
      | cons _ _ => exact Nat.succ_pos _
    · rw [max_one h1 h2]
      exact q
  · rw [Vals.ref1 r]
    obtain ⟨its, rv, ht, hz⟩ := I.tuple hq
    cases ns with
    | nil => exact absurd rfl hne
    | cons n ns =>
      obtain ⟨as, rs⟩ := Dp.readsAll I _ _ its (toPy_ints (xs := []) (zs := []) (n :: ns)) rv
      have dep : PyData.depthAll ((n :: ns).map PyData.int) = 0 := by
        have : ∀ l : List Int, PyData.depthAll (l.map PyData.int) = 0 := fun l => by
          induction l with
          | nil => rfl
          | cons a l ih => simp [PyData.depthAll, PyData.depth, ih]
        exact this _
      refine PySem.W.max_tuple_data (I.ok.hd hc) ht (x := .int n) (xs := ns.map .int) (as := as) (by simpa using rs) ?_ ?_ fun i v h' tk bs hi hr hk => ?_
      · constructor
        · intro x hx y hy
          rw [← List.map_cons (f := PyData.int)] at hx hy
          obtain ⟨a, _, rfl⟩ := List.mem_map.mp hx
          obtain ⟨b, _, rfl⟩ := List.mem_map.mp hy
          rfl
        · intro x hx
          rw [← List.map_cons (f := PyData.int)] at hx
          obtain ⟨a, _, rfl⟩ := List.mem_map.mp hx
          intro z
          cases z
      · have : PyData.depthAll (.int n :: ns.map .int) = 0 := dep
        rw [this]
        omega
      · rw [PySem.W.maxD_ints] at hr
        cases hr with
        | int _ t => exact ⟨.int (maxI (n :: ns)), H, I.kept hk, ⟨_, rfl⟩, q⟩
theorem sem_maxT : SemA K T (rMaxT K) (o1 oMaxS) := semA1 fun B G H x d u Q s hu e q => by
  unfold oMaxS at e
  simp only [Option.bind_eq_some_iff] at e
  obtain ⟨ns, e1, e2⟩ := e
  split at e2
  · cases e2
  · rename_i hne
    cases e2
    cases x <;> first | (cases e1; done) | skip
    · obtain ⟨p, vs, rfl, h1, h2⟩ := hu.lst s
      have := ints_rep h2 e1
      subst this
      exact ⟨p, ns, rfl, hne, .inl (SqL.of h1), q.at s .int⟩
    · obtain ⟨p, vs, rfl, h1, h2⟩ := hu.tup s
      have := ints_rep h2 e1
      subst this
      exact ⟨p, ns, rfl, hne, .inr h1, q.at s .int⟩
/-! ### slices -/
def rCutA (K : PySem.W.Frag) : V → Option Int → Option Int → Hp → VK → Prop := fun x lo hi H Q => rSlL K x lo hi H Q ∨ rSlT K x lo hi H Q
theorem cutV_to (xs : List V) (k : Nat) : cutV xs none (some (k : Int)) = xs.take k := by
  unfold cutV
  rw [HT.sIx_nat, HT.sIx_none, List.drop_zero, Nat.sub_zero]
  by_cases h : k ≤ xs.length
  · rw [Nat.min_eq_left h]
  · rw [Nat.min_eq_right (by omega), List.take_length, List.take_of_length_le (by omega)]
theorem Reps.take {G : Hp} : ∀ {ds : List D} {vs : List V} (k : Nat), Reps K T G ds vs → Reps K T G (ds.take k) (vs.take k)
  | _, _, 0, _ => by simpa using Reps.nil
  | [], vs, k + 1, h => by
    unfold Reps at h
    subst h
    exact .nil
  | d :: ds, vs, k + 1, h => by
    unfold Reps at h
    obtain ⟨v, r, rfl, h1, h2⟩ := h
    exact .cons h1 (Reps.take k h2)
section
variable {fl : List Flg} {W : XK} {X : Cx} {e a b o : Expr} {es : List Expr} {p pos p2 apos : Pos} {F Fa Fb : Z.Ex} {Fs : Z.Exs} {i : Nat}
theorem df_cut (ha : PE X a (tB K T W fl Fa)) (hb : PE X b (tE K T W fl Fb)) (hK : X.K = K) : PE X (.Subscript a (.Slice none (some b) none p2) pos) (tF K T W fl (x2 oCut Fa Fb)) := by
  subst hK
  refine PE.le (pe_slice sl_list ha po_none (po_some hb)) fun σ H Q ⟨B, C, G0, H0, G, env, bg, g, q⟩ => tB_then g q fun d b1 G1 H1 v s hb1 r g1 q => ?_
  show tE X.K T W fl Fb σ H1 fun x H2 => ∃ k, x = .int k ∧ rSlL X.K v none (some k) H2 Q
  refine tE_then g1 q fun d2 b2 G2 H2 v2 s2 hb2 r2 g2 q => ?_
  obtain ⟨d3, e, q⟩ := q.opt
  obtain ⟨xs, k, rfl, rfl, hk, rfl⟩ := oCut_inv e
  have r' := r.step s2
  obtain ⟨pp, vs, rfl, h1, h2⟩ := r'.lst s2.i
  refine ⟨k, by unfold Rep at r2; exact r2, pp, vs, rfl, SqL.of h1, fun y hy => ?_⟩
  obtain ⟨n, rfl⟩ : ∃ n : Nat, k = n := ⟨k.toNat, by omega⟩
  rw [cutV_to]
  have st : Stp [] G2 H2 G2 (upd H2 y (.lst (vs.take n))) := Stp.laid s2.i hy
  exact q G2 _ y ((s.trans s2).trans st.pure) (hb2.keep st) ((s.trans s2).back hy) (s2.i.free hy) ⟨_, upd_same, by simpa using h2.take n⟩
theorem de_cutT (ha : PE X a (tB K T W fl Fa)) (hb : PE X b (tE K T W fl Fb)) (hK : X.K = K) : PE X (.Subscript a (.Slice none (some b) none p2) pos) (tE K T W fl (x2 oCutT Fa Fb)) := by
  subst hK
  refine PE.le (pe_slice sl_tup ha po_none (po_some hb)) fun σ H Q ⟨B, C, G0, H0, G, env, bg, g, q⟩ => tB_then g q fun d b1 G1 H1 v s hb1 r g1 q => ?_
  show tE X.K T W fl Fb σ H1 fun x H2 => ∃ k, x = .int k ∧ rSlT X.K v none (some k) H2 Q
  refine tE_then g1 q fun d2 b2 G2 H2 v2 s2 hb2 r2 g2 q => ?_
  obtain ⟨d3, e, q⟩ := q.opt
  obtain ⟨xs, k, rfl, rfl, hk, hk2, rfl⟩ := oCutT_inv e
  have r' := r.step s2
  obtain ⟨pp, vs, rfl, h1, h2⟩ := r'.tup s2.i
  have hl := h2.length
  obtain ⟨n, rfl⟩ : ∃ n : Nat, k = n := ⟨k.toNat, by omega⟩
  refine ⟨n, by unfold Rep at r2; exact r2, pp, vs, rfl, h1, ?_, fun y hy => ?_⟩
  · rw [HT.sIx_nat, HT.sIx_none]
    omega
  · rw [cutV_to]
    have st : Stp [] G2 H2 (upd G2 y (.tup (vs.take n))) (upd H2 y (.tup (vs.take n))) := Stp.new s2.i hy
    refine q _ _ (.ref y) ((s.trans s2).trans st.pure) (hb2.keep st) ?_
    unfold Rep
    exact ⟨y, _, rfl, SqT.of upd_same, by simpa using (h2.take n).mono st.g⟩
/-! ### starred items -/
theorem seq_rep {B : List Addr} {G H : Hp} {x : D} {ds : List D} {v : V} (s : Sub G H) (r : RepB K T B G H x v) (e : seqD x = some ds) : ∃ p vs, v = .ref p ∧ (SqT K H p vs ∨ SqL K H p vs) ∧ Reps K T G ds vs := by
  cases x <;> first | (simp [seqD] at e; done) | skip
  · simp only [seqD, Option.some.injEq] at e
    subst e
    obtain ⟨p, vs, rfl, h1, h2⟩ := r.lst s
    exact ⟨p, vs, rfl, .inr (SqL.of h1), h2⟩
  · simp only [seqD, Option.some.injEq] at e
    subst e
    obtain ⟨p, vs, rfl, h1, h2⟩ := r.tup s
    exact ⟨p, vs, rfl, .inl h1, h2⟩
  · simp only [seqD, Option.some.injEq] at e
    subst e
    obtain ⟨p, o, vs, rfl, h1, _, _, h2⟩ := r.ftp s
    exact ⟨p, vs, rfl, .inl (.inl (.inr ⟨o, h1⟩)), h2⟩
theorem da_star (ha : PE X e (tB K T W fl F)) (hr : PA X es (tAs K T W fl Fs)) (hK : X.K = K) (hs : starEach (.Starred e p :: es) X.env = (true, eval e X.env) :: starEach es X.env := by rfl) : PA X (.Starred e p :: es) (tAs K T W fl (xStar F Fs)) := by
  subst hK
  refine PA.le (StX.pa_star ha hr hs) fun σ H Q ⟨B, C, G0, H0, G, env, bg, g, q⟩ => tB_then g q fun d b1 G1 H1 v s hb r g1 q => ?_
  obtain ⟨ds, e, q⟩ := q.bnd.opt
  obtain ⟨pp, vs, rfl, h1, h2⟩ := seq_rep s.i r e
  refine ⟨pp, vs, rfl, h1, tAs_then g1 q fun es2 b2 G2 H2 us s2 hb2 r2 g2 q => ?_⟩
  exact q G2 H2 (vs ++ us) (s.trans s2) hb2 ((h2.mono s2.g).append r2)
theorem df_lstG (h : PA X es (tAs K T W fl Fs)) : PE X (.List es pos) (tF K T W fl (xLstG Fs)) :=
  PE.le (pe_lst h) fun σ H Q ⟨B, C, G0, H0, G, env, b, g, q⟩ => tAs_then g q fun ds b1 G1 H1 vs s hb r g1 q => by
    by_cases hl : ds.length ≤ lim
    · rw [if_pos hl] at q
      refine ⟨by rw [r.length]; exact lim_line hl, fun p hp => ?_⟩
      have s1 : Stp [] G1 H1 G1 (upd H1 p (.lst vs)) := Stp.laid s.i hp
      exact q _ _ p (s.trans s1.pure) (hb.keep s1) (s.back hp) (s.i.free hp) ⟨vs, upd_same, r⟩
    · rw [if_neg hl] at q
      exact q.elim
/-! ### fields -/
theorem lookup_at {fs : List (Str × V)} {ns : List Str} (e : fs.map (·.1) = ns) (nd : ns.Nodup) {j : Nat} {f : Str} (h : ns[j]? = some f) : fs.lookup f = (fs.map (·.2))[j]? := by
  subst e
  induction fs generalizing j with
  | nil => cases h
  | cons q fs ih =>
    rw [List.map_cons] at nd h
    obtain ⟨n1, n2⟩ := List.nodup_cons.mp nd
    obtain ⟨q1, q2⟩ := q
    cases j with
    | zero =>
      cases h
      simp [List.lookup]
    | succ j =>
      have h' : (fs.map (·.1))[j]? = some f := h
      have ne : (f == q1) = false := by
        rw [beq_eq_false_iff_ne]
        rintro rfl
        exact n1 (List.mem_of_getElem? h')
      rw [List.lookup, ne]
      exact ih n2 h'
theorem de_fld {c j : Nat} {f : Str} (he : PE X e (tE K T W fl F)) (hK : X.K = K) (cl : Cls K (T.adr c)) (na : NoAttr K (T.adr c) f) (hj : (T.fld c)[j]? = some f) (nd : (T.fld c).Nodup) (hb : attributeBase e f X.env (eval e X.env) = eval e X.env := by rfl) :
    PE X (.Attribute e f pos) (tE K T W fl (x1 (fld c j) F)) := by
  subst hK
  refine PE.le (pe_fld he hb) fun σ H Q ⟨B, C, G0, H0, G, env, b, g, q⟩ => tE_then g q fun d b1 G1 H1 v s hb r g1 q => ?_
  obtain ⟨d2, e2, q5⟩ := q.opt
  obtain ⟨xs, rfl, e3⟩ := fld_inv e2
  unfold Rep at r
  obtain ⟨a, dx, fs, rfl, h1, h2, h3⟩ := r
  obtain ⟨w, w1, w2⟩ := h3.get e3
  exact ⟨a, T.adr c, dx, fs, w, rfl, s.i _ _ h1, cl, na, by rw [lookup_at h2 nd hj]; exact w1, q5 G1 H1 w s hb w2⟩
end
end
end ZL
end
section
set_option Elab.async false
set_option linter.all false
set_option maxRecDepth 100000
/-! LAYER: index; methods of data; isinstance of an own class. -/
namespace ZL
open PySem PySem.Spec PyProof.Rows L2 Z

theorem idx_py {x : D} : ∀ {ys : List D} {j : Nat}, pln x = true → plnL ys = true → idxD x ys = some j → ∃ z, (toPyL ys)[j]? = some z ∧ PyData.eqv z (toPy x) = true ∧ ∀ (m : Nat) z', m < j → (toPyL ys)[m]? = some z' → PyData.eqv z' (toPy x) = false
  | [], j, _, _, h => by cases h
  | y :: ys, j, hx, hy, h => by
    simp only [plnL, Bool.and_eq_true] at hy
    simp only [idxD] at h
    by_cases c : eqD y x = true
    · rw [if_pos c] at h
      cases h
      exact ⟨toPy y, by simp [toPyL], by rw [py_eqv y x hy.1 hx]; exact c, fun m z' hm => absurd hm (Nat.not_lt_zero _)⟩
    · rw [if_neg c] at h
      cases h2 : idxD x ys with
      | none =>
        rw [h2] at h
        cases h
      | some i =>
        rw [h2] at h
        cases h
        obtain ⟨z, z1, z2, z3⟩ := idx_py hx hy.2 h2
        refine ⟨z, by simpa [toPyL] using z1, z2, fun m z' hm hz => ?_⟩
        cases m with
        | zero =>
          simp [toPyL] at hz
          rw [← hz, py_eqv y x hy.1 hx]
          simpa using c
        | succ m => exact z3 m z' (Nat.lt_of_succ_lt_succ hm) (by simpa [toPyL] using hz)
theorem oIndexL_inv {x y d : D} (e : oIndexL x y = some d) : ∃ ys j, x = .lst ys ∧ shp y = true ∧ ys.all shp = true ∧ idxD y ys = some j ∧ d = .int (j : Nat) := by
  unfold oIndexL at e
  split at e
  · split at e
    · rename_i ys x h
      rw [Bool.and_eq_true] at h
      simp only [Option.map_eq_some_iff] at e
      obtain ⟨j, e1, rfl⟩ := e
      exact ⟨_, j, rfl, h.1, h.2, e1, rfl⟩
    · cases e
  · cases e
theorem oIndexT_inv {x y d : D} (e : oIndexT x y = some d) : ∃ ys s zs j, x = .ftp ys ∧ y = .str s ∧ strL ys = some zs ∧ idxD (.str s) ys = some j ∧ d = .int (j : Nat) := by
  unfold oIndexT at e
  split at e
  · rename_i ys s
    simp only [Option.bind_eq_some_iff, Option.map_eq_some_iff] at e
    obtain ⟨zs, e1, j, e2, rfl⟩ := e
    exact ⟨ys, s, zs, j, rfl, rfl, e1, e2, rfl⟩
  · cases e
theorem idx_str {s : List Char} : ∀ {ys : List D} {zs : List (List Char)} {j : Nat}, strL ys = some zs → idxD (.str s) ys = some j → (zs.map toS)[j]? = some (toS s) ∧ ∀ m, m < j → (zs.map toS)[m]? ≠ some (toS s)
  | [], zs, j, _, h => by cases h
  | y :: ys, zs, j, hz, h => by
    cases y <;> first | (simp [strL] at hz; done) | skip
    rename_i t
    simp only [strL, Option.map_eq_some_iff] at hz
    obtain ⟨ws, w1, rfl⟩ := hz
    simp only [idxD, eqD, decide_eq_true_eq] at h
    by_cases c : t = s
    · rw [if_pos c] at h
      cases h
      subst c
      exact ⟨by simp, fun m hm => absurd hm (Nat.not_lt_zero _)⟩
    · rw [if_neg c] at h
      cases h2 : idxD (.str s) ys with
      | none =>
        rw [h2] at h
        cases h
      | some i =>
        rw [h2] at h
        cases h
        obtain ⟨a, b⟩ := idx_str w1 h2
        refine ⟨by simpa using a, fun m hm => ?_⟩
        cases m with
        | zero =>
          simp only [List.map_cons, List.getElem?_cons_zero, ne_eq, Option.some.injEq]
          exact fun z => c (toS_inj z)
        | succ m =>
          have := b m (Nat.lt_of_succ_lt_succ hm)
          simpa using this
section
variable {K : PySem.W.Frag} {T : Tb} {fl : List Flg} {W : XK} {X : Cx} {e o : Expr} {es : List Expr} {p pos apos cpos : Pos} {Fo Fe : Z.Ex} {as : List Z.Ex}
theorem de_indexL (hu : X.A.units + 65 < cLine) (ho : PE X o (tB K T W fl Fo)) (he : PE X e (tB K T W fl Fe)) (hK : X.K = K)
    (hbase : attributeBase o "index" X.env (eval o X.env) = eval o X.env := by rfl)
    (hfew : ((backTo cpos (starEach [e] X.env)).all (fun x => !x.1) && (backToKw cpos (keywordEach [] X.env)).all (fun x => x.1.isSome)
      && decide (([e] : List Expr).length + ([] : List Keyword).length + (if ([] : List Keyword).isEmpty then 0 else 1) < 30)) = true := by rfl)
    (hline : (apos.endLine == cpos.line) = true := by rfl) (hs : starEach [e] X.env = (false, eval e X.env) :: starEach [] X.env := by rfl) :
    PE X (.Call (.Attribute o "index" apos) [e] [] cpos) (tE K T W fl (xIndexL Fo Fe)) := by
  subst hK
  refine PE.le (pe_bm PySem.F.plainAttrs_list PySem.F.slot_list_index PySem.F.type_list_index (mt_indexD hu) ho (pa_cons he pa_nil hs) hbase hfew hline hs rfl) fun σ H Q ⟨B, C, G0, H0, G, env, b, g, q⟩ => ?_
  show tB X.K T W fl Fo σ H fun x H1 => tyV X.K "list" x H1 ∧ tB X.K T W fl Fe σ H1 fun y H2 => rIndexD X.K x [y] H2 Q
  refine tB_then g q fun d b1 G1 H1 v s hb r g1 q => ?_
  obtain ⟨ys, ed, q⟩ := q.bnd.opt
  have ed := lstD_inv ed
  subst ed
  obtain ⟨a, vs, rfl, h1, h2⟩ := r.lst s.i
  refine ⟨.inl ⟨rfl, vs, SqL.of h1⟩, tB_then g1 q fun d2 b2 G2 H2 v2 s2 hb2 r2 g2 q => ?_⟩
  obtain ⟨d3, e3, q3⟩ := q.opt
  obtain ⟨ys', j, ey, sx, sy, ix, rfl⟩ := oIndexL_inv e3
  cases ey
  obtain ⟨a', vs', ea, h1', h2'⟩ := (r.step s2).lst s2.i
  cases ea
  obtain ⟨z, z1, z2, z3⟩ := idx_py (shp_pln sx) (shps_pln sy).1 ix
  exact ⟨a, v2, toPy d2, toPyL ys, j, z, rfl, rfl, .lst (SqL.of h1') (dps_of s2.i ys vs' (shps_pln sy).1 h2'), dpB_of s2.i (shp_pln sx) r2, shaped_list sy, py_shaped sx, z1, z2, z3, q3 G2 H2 _ (s.trans s2) hb2 .int⟩
/-- a tuple that is remembered as the object it is -/
def tFM (K : PySem.W.Frag) (r : V → List V → Hp → VK → Prop) (to : TE) (t : TA) : TE := fun σ H Q => to σ H fun x H1 => (∃ p o vs, x = .ref p ∧ H1 p = some (.frz o (.tup vs)) ∧ o.cls = .type "tuple" ∧ o.dict = none) ∧ t σ H1 fun xs H2 => r x xs H2 Q
theorem pe_fm {to : TE} {t : TA} {r : V → List V → Hp → VK → Prop} {name : Str} {id : String} (slot : Slot "tuple" name id) (hty : typeOf (.builtin id) = pure (.type "method_descriptor")) (hm : MtR X id r) (ho : PE X o to) (ha : PA X [e] t)
    (hbase : attributeBase o name X.env (eval o X.env) = eval o X.env)
    (hfew : ((backTo cpos (starEach [e] X.env)).all (fun x => !x.1) && (backToKw cpos (keywordEach [] X.env)).all (fun x => x.1.isSome)
      && decide (([e] : List Expr).length + ([] : List Keyword).length + (if ([] : List Keyword).isEmpty then 0 else 1) < 30)) = true)
    (hline : (apos.endLine == cpos.line) = true) (hs : starEach [e] X.env = (false, eval e X.env) :: starEach [] X.env) : PE X (.Call (.Attribute o name apos) [e] [] cpos) (tFM X.K r to t) := by
  refine ⟨fun pins s σ H Q I h => wpAny_Call_method_late hbase hfew hline rfl (thn (ho.run pins s σ H _ I h) fun v s1 ⟨x, H1, I1, r1, ⟨p, ob, vs, ex, hp, c1, c2⟩, q1⟩ => ?_)⟩
  subst ex
  obtain rfl : v = Value.ref p := r1
  have at_ : s1.heap.get? p = some ob := (I1.hok p _ hp).1
  refine ⟨"tuple", id, PySem.F.plainAttrs_tuple, slot, hty, ⟨ob, at_, c1⟩, fun a ea => ?_, ?_⟩
  · cases ea
    exact ⟨ob, at_, c2⟩
  · have hA := ha.run cpos pins s1 σ H1 _ I1 q1
    rw [hs] at hA ⊢
    refine Calls.callWith_builtin (by show (false || (backTo cpos (starEach [] X.env)).any (·.1)) = false; rfl) (Calls.evalArgs_plain ?_)
    exact thn hA fun us s2 ⟨ws, H2, I2, r2, q2⟩ => hm pins s2 σ H2 (.ref p) ws (.ref p) us Q I2 rfl r2 q2
theorem de_indexT (ho : PE X o (tE K T W fl Fo)) (he : PE X e (tE K T W fl Fe)) (hK : X.K = K)
    (hbase : attributeBase o "index" X.env (eval o X.env) = eval o X.env := by rfl)
    (hfew : ((backTo cpos (starEach [e] X.env)).all (fun x => !x.1) && (backToKw cpos (keywordEach [] X.env)).all (fun x => x.1.isSome)
      && decide (([e] : List Expr).length + ([] : List Keyword).length + (if ([] : List Keyword).isEmpty then 0 else 1) < 30)) = true := by rfl)
    (hline : (apos.endLine == cpos.line) = true := by rfl) (hs : starEach [e] X.env = (false, eval e X.env) :: starEach [] X.env := by rfl) :
    PE X (.Call (.Attribute o "index" apos) [e] [] cpos) (tE K T W fl (xIndexT Fo Fe)) := by
  subst hK
  refine PE.le (pe_fm PySem.F.slot_tuple_index PySem.F.type_tuple_index mt_tup_index ho (pa_cons he pa_nil hs) hbase hfew hline hs) fun σ H Q ⟨B, C, G0, H0, G, env, b, g, q⟩ => ?_
  refine tE_then g q fun d b1 G1 H1 v s hb r g1 q => ?_
  obtain ⟨ys, ed, q⟩ := q.bnd.opt
  have ed := ftpD_inv ed
  subst ed
  unfold Rep at r
  obtain ⟨a, ob, vs, rfl, h1, c1, c2, h2⟩ := r
  refine ⟨⟨a, ob, vs, rfl, s.i _ _ h1, c1, c2⟩, ?_⟩
  show tE X.K T W fl Fe σ H1 fun y H2 => _
  refine tE_then g1 q fun d2 b2 G2 H2 v2 s2 hb2 r2 g2 q => ?_
  obtain ⟨d3, e3, q3⟩ := q.opt
  obtain ⟨ys', sc, zs, j, ey, rfl, e4, ix, rfl⟩ := oIndexT_inv e3
  cases ey
  unfold Rep at r2
  subst r2
  obtain ⟨i1, i2⟩ := idx_str e4 ix
  have hv := strs_rep h2 e4
  refine ⟨a, zs.map toS, toS sc, j, rfl, rfl, .inl (.inr ⟨ob, ?_⟩), i1, i2, q3 G2 H2 _ (s.trans s2) hb2 .int⟩
  have := s2.i _ _ (s2.g _ _ h1)
  rw [this, hv]
end
end ZL
end
section
set_option linter.all false
/-! PLAIN: instances. -/
namespace Z
open M
/-- __init__: the new instance of class c with its nf fields -/
def runIn (c nf n : Nat) (s : Sm) : List D → M D := fun ds => bnd (s (.ins c [] :: (ds ++ List.replicate (n - (1 + ds.length)) .non))) fun f => match f with
  | .nx env => match env.getD 0 .non with
    | .ins k xs => if k = c ∧ xs.length = nf then ret (.ins c xs) else no
    | _ => no
  | _ => no
/-- isinstance(x, C), x an instance of it -/
def isInsC (c : Nat) : D → Option D
  | .ins k _ => if k = c then some (.bl true) else none
  | _ => none
end Z
end
section
set_option Elab.async false
set_option linter.all false
set_option maxRecDepth 100000
/-! LAYER: instances: fields of one's own, __init__, making, methods. -/
namespace ZL
open PySem PySem.Spec PyProof.Rows L2 Z

section
variable {K : PySem.W.Frag} {T : Tb} {kp : List Nat} {fl : List Flg} {fo : Fo} {W : XK} {X : Cx} {e o : Expr} {es : List Expr} {p pos pos' : Pos} {Fe Fo' : Z.Ex} {i c j : Nat} {x f : Str}
theorem Good.oi {B C : List Addr} {G0 H0 G H : Hp} {σ : L2.St} {env : Sl} {b : Bag} (g : Good K T fl B C G0 H0 G H σ env b) (h : fl.getD i .un = .oi) : ∃ p c dx fs xs, σ[i]? = some (some (.ref p)) ∧ env.getD i .non = .ins c xs ∧ H p = some (.ins (T.adr c) dx fs) ∧ fs.map (·.1) = (T.fld c).take fs.length ∧ Reps K T G xs (fs.map (·.2)) ∧ G p = none ∧ H0 p = none := by
  obtain ⟨_, _, fp, h1, h2, _⟩ := g
  have y := h1 i
  rw [h] at y
  obtain ⟨p, c, dx, fs, xs, e1, e2, e3, e4, e5, e6⟩ := y
  have hp := h2 i p (by rw [e6]; exact List.mem_singleton.mpr rfl)
  exact ⟨p, c, dx, fs, xs, e1, e2, e3, e4, e5, hp.1, hp.2⟩
theorem take_get {ns : List Str} {n j : Nat} {f : Str} (h : ns[j]? = some f) (hj : j < n) : (ns.take n)[j]? = some f := by
  rw [List.getElem?_take, if_pos hj]
  exact h
theorem de_ownF (hf : fl.getD i .un = .oi) (hv : PE X (.Name x p) (tVar i)) (hK : X.K = K) (cl : Cls K (T.adr c)) (na : NoAttr K (T.adr c) f) (hj : (T.fld c)[j]? = some f) (nd : (T.fld c).Nodup) (hb : attributeBase (.Name x p) f X.env (eval (.Name x p) X.env) = eval (.Name x p) X.env := by rfl) :
    PE X (.Attribute (.Name x p) f pos) (tE K T W fl (xOwnF i c j)) := by
  subst hK
  refine PE.le (pe_fld hv hb) fun σ H Q ⟨B, C, G0, H0, G, env, b, g, q⟩ => ?_
  obtain ⟨a, k, dx, fs, xs, e1, e2, e3, e4, e5, _, _⟩ := g.oi hf
  unfold xOwnF at q
  rw [e2] at q
  simp only at q
  by_cases hk : k = c
  · rw [if_pos hk] at q
    obtain ⟨d, ed, q⟩ := q.opt
    subst hk
    obtain ⟨w, w1, w2⟩ := e5.get ed
    have hl : j < fs.length := by
      have := (List.getElem?_eq_some_iff.mp w1).1
      rwa [List.length_map] at this
    refine ⟨.ref a, e1, a, T.adr k, dx, fs, w, rfl, e3, cl, na, ?_, q G H w (.refl g.core.sub) g.core.bag w2⟩
    rw [lookup_at e4 (nd.sublist (List.take_sublist _ _)) (take_get hj hl)]
    exact w1
  · rw [if_neg hk] at q
    exact q.elim
theorem putF_at {v : V} : ∀ {fs : List (Str × V)} {j : Nat} {f : Str}, (fs.map (·.1)).Nodup → (fs.map (·.1))[j]? = some f → (putF f v fs).map (·.1) = fs.map (·.1) ∧ (putF f v fs).map (·.2) = (fs.map (·.2)).set j v
  | [], j, f, _, h => by cases h
  | (g, y) :: fs, 0, f, nd, h => by
    have : g = f := by simpa using h
    subst this
    unfold putF
    rw [if_pos rfl]
    exact ⟨rfl, rfl⟩
  | (g, y) :: fs, j + 1, f, nd, h => by
    have h' : (fs.map (·.1))[j]? = some f := h
    rw [List.map_cons] at nd
    obtain ⟨n1, n2⟩ := List.nodup_cons.mp nd
    have ne : g ≠ f := fun z => n1 (by rw [z]; exact List.mem_of_getElem? h')
    obtain ⟨i1, i2⟩ := putF_at (v := v) n2 h'
    unfold putF
    rw [if_neg ne]
    exact ⟨by rw [List.map_cons, List.map_cons, i1], by rw [List.map_cons, List.map_cons, i2]; rfl⟩
theorem putF_new {v : V} : ∀ {fs : List (Str × V)} {f : Str}, f ∉ fs.map (·.1) → putF f v fs = fs ++ [(f, v)]
  | [], f, _ => rfl
  | (g, y) :: fs, f, h => by
    rw [List.map_cons, List.mem_cons, not_or] at h
    unfold putF
    rw [if_neg (Ne.symm h.1), putF_new h.2]
    rfl
theorem Reps.set {G : Hp} {d : D} {v : V} (r : Rep K T G d v) : ∀ {ds : List D} {vs : List V} (k : Nat), Reps K T G ds vs → Reps K T G (ds.set k d) (vs.set k v)
  | [], vs, k, h => by
    unfold Reps at h
    subst h
    exact .nil
  | y :: ds, vs, 0, h => by
    unfold Reps at h
    obtain ⟨u, r', rfl, h1, h2⟩ := h
    exact .cons r h2
  | y :: ds, vs, k + 1, h => by
    unfold Reps at h
    obtain ⟨u, r', rfl, h1, h2⟩ := h
    exact .cons h1 (Reps.set r k h2)
theorem ds_ownF {bk ct : List Flg} (hf : fl.getD i .un = .oi) (hv : PE X (.Name x p) (tVar i)) (he : PE X e (tE K T W fl Fe)) (hK : X.K = K) (cl : Cls K (T.adr c)) (na : NoAttr K (T.adr c) f) (hj : (T.fld c)[j]? = some f) (nd : (T.fld c).Nodup) (nf : (T.fld c).length ≤ 100)
    (hs : swapsWith e (some (.Attribute (.Name x p) f pos')) pos.line X.env = pure false := by rfl) : PS X (.Assign [.Attribute (.Name x p) f pos'] e pos) (tS K T W kp fl ⟨fl, bk, ct⟩ (sOwnF i c j Fe)) := by
  subst hK
  refine PS.le (ps_fld hv he hs) fun Dd σ H ⟨B, C, G0, H0, G, env, b, g, q⟩ => tE_then g q fun d b1 G1 H1 v s hb r g1 q => ?_
  obtain ⟨a, k, dx, fs, xs, e1, e2, e3, e4, e5, ga, h0⟩ := g1.oi hf
  rw [e2] at q
  simp only at q
  by_cases hk : k = c ∧ j ≤ xs.length
  · rw [if_pos hk] at q
    obtain ⟨hk1, hk2⟩ := hk
    subst hk1
    have lf : fs.length = xs.length := by
      have := e5.length
      rwa [List.length_map] at this
    have fle : fs.length ≤ (T.fld k).length := by
      have := congrArg List.length e4
      rw [List.length_map, List.length_take] at this
      omega
    have hi : i < env.length := by
      rw [← g1.len]
      exact (List.getElem?_eq_some_iff.mp e1).1
    have ndf : (fs.map (·.1)).Nodup := by
      rw [e4]
      exact nd.sublist (List.take_sublist _ _)
    have new : ∃ fs', putF f v fs = fs' ∧ fs'.map (·.1) = (T.fld k).take fs'.length ∧ Reps X.K T G1 (if j < xs.length then xs.set j d else xs ++ [d]) (fs'.map (·.2)) := by
      refine ⟨_, rfl, ?_⟩
      by_cases c : j < xs.length
      · rw [if_pos c]
        have hat : (fs.map (·.1))[j]? = some f := by
          rw [e4]
          exact take_get hj (by omega)
        obtain ⟨p1, p2⟩ := putF_at (v := v) ndf hat
        have ln : (putF f v fs).length = fs.length := by
          have := congrArg List.length p1
          rwa [List.length_map, List.length_map] at this
        rw [p1, p2, ln]
        exact ⟨e4, Reps.set r j e5⟩
      · rw [if_neg c]
        have hjl : j = fs.length := by omega
        have nin : f ∉ fs.map (·.1) := by
          rw [e4]
          intro m
          obtain ⟨n, hn⟩ := List.getElem?_of_mem m
          have hn1 : n < fs.length := by
            have := (List.getElem?_eq_some_iff.mp hn).1
            rw [List.length_take] at this
            omega
          rw [List.getElem?_take, if_pos hn1] at hn
          have a1 := (List.getElem?_eq_some_iff.mp hn).1
          have a2 := (List.getElem?_eq_some_iff.mp hj).1
          have := List.pairwise_iff_getElem.mp nd n j a1 a2 (by omega)
          rw [(List.getElem?_eq_some_iff.mp hn).2, (List.getElem?_eq_some_iff.mp hj).2] at this
          exact this rfl
        rw [putF_new nin, List.map_append, List.map_append, List.length_append]
        refine ⟨?_, e5.append (.one r)⟩
        rw [e4]
        show _ ++ [f] = _
        rw [List.length_singleton, List.take_succ, ← hjl, hj]
        rfl
    obtain ⟨fs', hp, n1, n2⟩ := new
    refine ⟨.ref a, e1, a, T.adr k, dx, fs, rfl, e3, cl, na, by omega, ?_⟩
    rw [hp]
    refine q σ G1 _ (g1.poke (fp := [a]) (sv := none) ?_ (List.mem_singleton.mpr rfl) ga h0 (fun fp' y => ?_) ?_ hi) s.g .refl
    · rw [hf]
      exact ⟨a, k, dx, fs, xs, e1, e2, e3, e4, e5, rfl⟩
    · rw [hf] at y
      obtain ⟨p', c', dx', fs2, xs2, a1, _, _, _, _, a6⟩ := y
      rw [e1] at a1
      cases a1
      exact a6
    · rw [hf]
      exact ⟨a, k, dx, fs', _, e1, rfl, upd_same, n1, n2, rfl⟩
  · rw [if_neg hk] at q
    exact q.elim
end
end ZL
end
section
set_option Elab.async false
set_option linter.all false
set_option maxRecDepth 100000
/-! LAYER: __init__, making, methods, isinstance of an own class. -/
namespace ZL
open PySem PySem.Spec PyProof.Rows L2 Z

/-- what an __init__ promises -/
def spI (K : PySem.W.Frag) (T : Tb) (c np : Nat) (f : List D → M D) : Sp := fun vs H Q E => ∃ (x dx : Addr) (H1 G : Hp) (ds : List D) (vs' : List V) (b : Bag), vs = .ref x :: vs' ∧ H1 x = none ∧ H1 dx = none ∧ dx ≠ x ∧ H = upd (upd H1 dx (.own x)) x (.ins (T.adr c) dx []) ∧ ds.length = np ∧ Sub G H1 ∧ Reps K T G ds vs' ∧
  oW (fun d b' => ∀ G' H' dx' fs xs, Stp [] G H1 G' H' → G' x = none → d = .ins c xs → H' x = some (.ins (T.adr c) dx' fs) → fs.map (·.1) = T.fld c → Reps K T G' xs (fs.map (·.2)) → Q .non H') (fun k y b' => ∀ G' H' cls dd, Core [] [] G H1 G' H' b' → ExcAt K T G' H' k y cls dd → E cls dd H') (f ds b)
section
variable {K : PySem.W.Frag} {T : Tb} {P : Program} {w : World} {mg : Str → Option Value} {base : Heap}
theorem good_startI {N : List Str} {np n c : Nat} {x dx : Addr} {G H1 : Hp} {ds : List D} {vs : List V} {b : Bag} (hn : N.length = n) (hl : ds.length = np) (hnp : 1 + np ≤ n) (s : Sub G H1) (hx : H1 x = none) (hdx : H1 dx = none) (ne : dx ≠ x) (r : Reps K T G ds vs) :
    Good K T (.oi :: List.replicate np .dat) [] [] G H1 G (upd (upd H1 dx (.own x)) x (.ins (T.adr c) dx [])) (L2.start N (.ref x :: vs)) (.ins c [] :: (ds ++ List.replicate (n - (1 + np)) .non)) b := by
  have up : Sub H1 (upd (upd H1 dx (.own x)) x (.ins (T.adr c) dx [])) := fun a o e => by
    rw [upd_ne (ne_of_none e hx), upd_ne (ne_of_none e hdx)]
    exact e
  refine ⟨⟨⟨Sub.refl G, s.trans up, fun a o e _ => up a o e, fun a o e => ⟨o, up a o e⟩, fun a o e1 e2 => ?_⟩, fun a h => by simp at h, fun a h => by simp at h, fun a h => by simp at h⟩, ?_, fun i => if i = 0 then [x] else [], fun i => ?_, fun i p h => ?_, fun i j p h h' => ?_⟩
  · rw [e1] at e2
    cases e2
  · unfold L2.start
    simp only [List.length_append, List.length_map, List.length_cons, List.length_replicate, r.length, hl, hn]
    omega
  · cases i with
    | zero => exact ⟨x, c, dx, [], [], rfl, rfl, upd_same, rfl, .nil, rfl⟩
    | succ i =>
      show SlotOk K T [] G _ ((List.replicate np Flg.dat).getD i .un) (L2.start N (.ref x :: vs))[i + 1]? ((ds ++ List.replicate (n - (1 + np)) D.non).getD i .non) []
      by_cases hi : i < np
      · have e1 : (List.replicate np Flg.dat).getD i .un = .dat := by simp [List.getD_eq_getElem?_getD, List.getElem?_replicate, hi]
        rw [e1]
        have hd : i < ds.length := by omega
        obtain ⟨v, e2, e3⟩ := r.get (List.getElem?_eq_getElem hd)
        refine ⟨rfl, v, ?_, ?_⟩
        · unfold L2.start
          rw [List.getElem?_append_left (by rw [List.length_map, List.length_cons, r.length]; omega), List.getElem?_map, List.getElem?_cons_succ, e2]
          rfl
        · have e4 : (ds ++ List.replicate (n - (1 + np)) D.non).getD i .non = ds[i] := by
            simp [List.getD_eq_getElem?_getD, List.getElem?_append_left hd, hd]
          rw [e4]
          exact e3
      · have e1 : (List.replicate np Flg.dat).getD i .un = .un := getD_out (by rw [List.length_replicate]; omega)
        rw [e1]
        rfl
  · by_cases z : i = 0
    · simp only [if_pos z] at h
      rw [List.mem_singleton.mp h]
      exact ⟨s.free hx, hx⟩
    · simp only [if_neg z] at h
      cases h
  · by_cases z : i = 0
    · by_cases z' : j = 0
      · rw [z, z']
      · simp only [if_neg z'] at h'
        cases h'
    · simp only [if_neg z] at h
      cases h
theorem def_okI {y qual : Str} {params : Arguments} {body : List Stmt} {scope : Scope} {dvs : List V} {kws : List (Str × V)} {f : Addr} {fd : FuncData} {N ps : List Str} {k np n c nf : Nat} {S : Z.Sm} {flx : List Flg} (F : FunD K y qual params body scope dvs kws f fd) (Sc : FnScope N ps scope)
    (hn : N.length = n) (hp : ps.length = 1 + np) (hnp : 1 + np ≤ n) (hnf : (T.fld c).length = nf) (hfl : flx.getD 0 .un = .oi)
    (hbody : ∀ (cdv : Value) (A : Around) (outer : List Env) (s : Shared) (H : Hp) (E : XK), Room k (A.deeper (envOfC qual scope s.heap.objs.size f cdv)) → PSs (cxOf (CX P w) P w K mg base N qual scope f cdv A outer s H E) body (tS K T E [0] (.oi :: List.replicate np .dat) ⟨flx, [], []⟩ S)) :
    FnOk P w K mg base (CX P w) (k + 1) f fd ps (spI K T c np (runIn c nf n S)) := by
  refine F.ok Sc (fun vs H Q E ⟨x, dx, H1, G, ds, vs', b, e, _, _, _, _, hl, _, r, _⟩ => by rw [e, List.length_cons, r.length, hl, hp, Nat.add_comm]) fun cdv A outer s H vs Q E hr h => ⟨_, hbody cdv A outer s H E hr, ?_⟩
  obtain ⟨x, dx, H1, G, ds, vs', b, rfl, hx, hdx, ne, rfl, hl, sb, r, q⟩ := h
  unfold runIn at q
  rw [hl] at q
  refine ⟨[], [], G, H1, G, _, b, good_startI hn hl hnp sb hx hdx ne r, q.bnd.mono (fun f' b1 q => ?_) fun c x b1 q => q⟩
  cases f' with
  | nx env1 =>
    intro σ' G' H' g' _ kk
    obtain ⟨p, c', dx', fs, xs, e1, e2, e3, e4, e5, gp, _⟩ := g'.oi hfl
    have ep := kk 0 (List.mem_singleton.mpr rfl)
    rw [e1] at ep
    have : p = x := by
      have h0 : (L2.start N (V.ref x :: vs'))[0]? = some (some (.ref x)) := rfl
      rw [h0] at ep
      cases ep
      rfl
    subst this
    simp only [e2] at q
    by_cases hk : c' = c ∧ xs.length = nf
    · rw [if_pos hk] at q
      obtain ⟨rfl, hlen⟩ := hk
      have lf : fs.length = xs.length := by
        have := e5.length
        rwa [List.length_map] at this
      refine q G' H' dx' fs xs g'.core.stp gp rfl e3 ?_ e5
      rw [e4, List.take_of_length_le (by omega)]
    · rw [if_neg hk] at q
      exact q.elim
  | rt d => exact q.elim
  | bk env1 => exact q.elim
  | ct env1 => exact q.elim
end
/-- the class that the module's name x stands for, and its __init__ -/
structure MakOk (P : Program) (w : World) (K : PySem.W.Frag) (T : Tb) (mg : Str → Option Value) (base : Heap) (x : Str) (k c np : Nat) (dds : List D) (f : List D → M D) : Prop where
  ex : ∃ (fa : Addr) (fd : FuncData) (ps : List Str) (ds : List Value) (dvs : List V), Mk K (T.adr c) fa ∧ FnOk P w K mg base (CX P w) k fa fd ps (spI K T c np f) ∧ mg x = some (.ref (T.adr c)) ∧ Binds K fd ps ds ∧ Vals dvs ds ∧ ∀ G, Reps K T G dds dvs
section
variable {T : Tb} {fl : List Flg} {W : XK} {X : Cx} {e o : Expr} {es : List Expr} {x : Str} {p pos apos : Pos} {k np c : Nat} {dds : List D} {f : List D → M D} {as : List Z.Ex} {Fo' : Z.Ex}
theorem make_at {K : PySem.W.Frag} {B C : List Addr} {G0 H0 G H G1 H1 : Hp} {σ : L2.St} {env : Sl} {b1 : Bag} {ds : List D} {vs : List V} {Q : VK} {P : D → Bag → Prop} (g1 : Good K T fl B C G0 H0 G1 H1 σ env b1) (s : Stp B G H G1 H1) (r : Reps K T G1 ds vs) (hl : ds.length = np)
    (q : oW P (XOk K T W B C G0 H0) (pureC f ds b1)) (hP : ∀ d b2, P d b2 → b2 = b1 → ∀ G' H' pp, Stp [] G1 H1 G' H' → H1 pp = none → G' pp = none → RepO K T G' H' d pp → Q (.ref pp) H') :
    ∀ x dx, H1 x = none → H1 dx = none → dx ≠ x → spI K T c np f (.ref x :: vs) (upd (upd H1 dx (.own x)) x (.ins (T.adr c) dx [])) (fun v H2 => v = .non ∧ Q (.ref x) H2) W := by
  intro x dx hx hdx ne
  refine ⟨x, dx, H1, G1, ds, vs, ⟨0, 0, 0⟩, rfl, hx, hdx, ne, rfl, hl, g1.core.sub, r, ?_⟩
  unfold pureC at q
  cases e : f ds ⟨0, 0, 0⟩ with
  | no =>
    rw [e] at q
    exact q
  | ok d b' =>
    rw [e] at q
    exact fun G' H' dx' fs xs s' gx ed h1 h2 h3 => ⟨rfl, hP d b1 q rfl G' H' x s' hx gx (by subst ed; exact ⟨dx', fs, h1, h2, h3⟩)⟩
  | ex c y b' =>
    rw [e] at q
    exact fun G' H' cls dd c' ex => q G' H' cls dd (g1.core.step c'.stp.pure (g1.core.bag.keep c'.stp)) ex
/-- C(e, ..) -/
theorem df_make (o : MakOk X.prog X.w X.K T X.mg X.base x k c np dds f) (hr : Room (k + 1) X.A) (hg : Gl X x) (hx : Passes (CX X.prog X.w) X W) (ha : PA X (e :: es) (tAs X.K T W fl (xL as))) (hn : as.length + dds.length = np := by rfl)
    (hdb : (x == ("__debug__" : Str)) = false := by decide) (he : starEach (e :: es) X.env = (false, eval e X.env) :: starEach es X.env := by rfl) (hpl : (backTo pos (starEach es X.env)).any (·.1) = false := by rfl) :
    PE X (.Call (.Name x p) (e :: es) [] pos) (tF X.K T W fl (xQ f (xApp (xL as) dds))) := by
  obtain ⟨fa, fd, ps, dsv, dvs, M, F, hm, hb, hd, hdd⟩ := o.ex
  refine PE.le (pe_make M F hr hg hm hb hd hx ha hdb he hpl) fun σ H Q ⟨B, C, G0, H0, G, env, b, g, q⟩ => ?_
  have q2 := q.bnd.bnd
  refine ⟨B, C, G0, H0, G, env, b, g, (oW_len q2).imp fun ds b1 ⟨hl, q⟩ G1 H1 vs s hb r => ?_⟩
  have g1 := g.step s hb
  refine make_at (c := c) g1 s (r.append (hdd G1)) (by rw [List.length_append, hl, hn]) q fun d b2 q6 e G' H' pp s' hp gp ro => ?_
  subst e
  exact q6 G' H' pp (s.trans s'.pure) (hb.keep s') (s.back hp) gp ro
/-- a class made with keyword-only arguments: n positional ones, then the keywords -/
structure MakKw (P : Program) (w : World) (K : PySem.W.Frag) (T : Tb) (mg : Str → Option Value) (base : Heap) (x : Str) (k c n : Nat) (ks : List Str) (f : List D → M D) : Prop where
  ex : ∃ (fa : Addr) (fd : FuncData) (ps : List Str) (gv : List Value → List Value → List Value), Mk K (T.adr c) fa ∧ FnOk P w K mg base (CX P w) k fa fd ps (spI K T c (n + ks.length) f) ∧ mg x = some (.ref (T.adr c)) ∧ KBn K fd ps (n + 1) ks gv (fun vs zs => vs ++ zs)
theorem df_makeK {n : Nat} {ks : List Str} {kws : List Keyword} {bs : List Z.Ex} (o : MakKw X.prog X.w X.K T X.mg X.base x k c n ks f) (hr : Room (k + 1) X.A) (hg : Gl X x) (hx : Passes (CX X.prog X.w) X W) (ha : PA X (e :: es) (tAs X.K T W fl (xL as))) (hkw : PK X kws (tAs X.K T W fl (xL bs)))
    (hn : as.length = n := by rfl) (hn2 : bs.length = ks.length := by rfl)
    (hall : (backToKw pos (keywordEach kws X.env)).all (·.1.isSome) = true := by rfl) (hks : (backToKw pos (keywordEach kws X.env)).filterMap (·.1) = ks := by rfl) (hdb : (x == ("__debug__" : Str)) = false := by decide)
    (he : starEach (e :: es) X.env = (false, eval e X.env) :: starEach es X.env := by rfl) (hpl : ((backTo pos (starEach (e :: es) X.env)).any (·.1) || (backToKw pos (keywordEach kws X.env)).any (·.1.isNone)) = false := by rfl) :
    PE X (.Call (.Name x p) (e :: es) kws pos) (tF X.K T W fl (fun env => M.bnd (xL as env) fun ds => M.bnd (xL bs env) fun es => pureC f (ds ++ es))) := by
  obtain ⟨fa, fd, ps, gv, M, F, hm, hb⟩ := o.ex
  refine PE.le (pe_makeK M F hr hg hm hb hx ha hkw hall hks hdb he hpl) fun σ H Q ⟨B, C, G0, H0, G, env, b, g, q⟩ => ?_
  refine ⟨B, C, G0, H0, G, env, b, g, (oW_len q.bnd).imp fun ds b1 ⟨hl, q⟩ G1 H1 vs s hb1 r => ?_⟩
  have g1 := g.step s hb1
  refine ⟨B, C, G0, H0, G1, env, b1, g1, (oW_len q.bnd).imp fun es2 b2 ⟨hl2, q⟩ G2 H2 zs s2 hb2 r2 => ⟨by rw [r.length, hl, hn], by rw [r2.length, hl2, hn2], ?_⟩⟩
  have g2 := g1.step s2 hb2
  refine make_at (c := c) g2 (s.trans s2) ((r.mono s2.g).append r2) (by rw [List.length_append, hl, hn, hl2, hn2]) q fun d b3 q6 e G' H' pp s' hp gp ro => ?_
  subst e
  exact q6 G' H' pp ((s.trans s2).trans s'.pure) (hb2.keep s') ((s.trans s2).back hp) gp ro
end
end ZL
end
section
set_option Elab.async false
set_option linter.all false
set_option maxRecDepth 100000
/-! LAYER: methods of data, isinstance of an own class. -/
namespace ZL
open PySem PySem.Spec PyProof.Rows L2 Z

structure MetOk (P : Program) (w : World) (K : PySem.W.Frag) (T : Tb) (mg : Str → Option Value) (base : Heap) (k c np : Nat) (m : Str) (f : List D → M D) : Prop where
  ex : ∃ (fa : Addr) (fd : FuncData) (ps : List Str), Cls K (T.adr c) ∧ Meth K (T.adr c) m fa ∧ FnOk P w K mg base (CX P w) k fa fd ps (spM K T np false f) ∧ Binds K fd ps [] ∧ m ∉ T.fld c
section
variable {T : Tb} {fl : List Flg} {W : XK} {X : Cx} {e o : Expr} {es : List Expr} {x : Str} {p pos apos : Pos} {k np c : Nat} {m : Str} {f : List D → M D} {as : List Z.Ex} {Fo' : Z.Ex}
theorem lookup_no {fs : List (Str × V)} {ns : List Str} {m : Str} (e : fs.map (·.1) = ns) (h : m ∉ ns) : fs.lookup m = none := by
  subst e
  induction fs with
  | nil => rfl
  | cons q fs ih =>
    obtain ⟨q1, q2⟩ := q
    rw [List.map_cons, List.mem_cons, not_or] at h
    rw [List.lookup, beq_eq_false_iff_ne.mpr h.1]
    exact ih h.2
theorem meth_at {K : PySem.W.Frag} {B C : List Addr} {G0 H0 G H G1 H1 : Hp} {σ : L2.St} {env : Sl} {b1 : Bag} {ds : List D} {vs : List V} {Q : VK} (g1 : Good K T fl B C G0 H0 G1 H1 σ env b1) (s : Stp B G H G1 H1) (hb : BagAt B H1 b1) (r : Reps K T G1 ds vs) (hl : ds.length = np)
    (q : oW (fun d b' => ∀ G' H' v, Stp B G H G' H' → BagAt B H' b' → Rep K T G' d v → Q v H') (XOk K T W B C G0 H0) (pureC f ds b1)) : spM K T np false f vs H1 Q W :=
  callQ_at g1 r hl q fun d b2 q6 e v G' H' s' r' => by
    subst e
    exact q6 G' H' v (s.trans s'.pure) (hb.keep s') r'
/-- o.m(e, ..) -/
theorem de_meth {pl : Sem Bool} (mo : MetOk X.prog X.w X.K T X.mg X.base k c np m f) (hr : Room k X.A) (hx : Passes (CX X.prog X.w) X W) (ho : PE X o (tE X.K T W fl Fo')) (ha : PA X (e :: es) (tAs X.K T W fl (xL as))) (hn : as.length + 1 = np := by rfl)
    (hst : starEach (e :: es) X.env = (false, eval e X.env) :: starEach es X.env := by rfl) (hpl : (backTo pos (starEach es X.env)).any (·.1) = false := by rfl)
    (ht : eval (.Call (.Attribute o m apos) (e :: es) [] pos) X.env = (do
      let ov ← eval o X.env
      standAt apos.atName
      let (f, first) ← holding [ov] (getMethod ov m pl)
      callWith pos f first (backTo pos (starEach (e :: es) X.env)) (backToKw pos (keywordEach [] X.env))) := by rfl) :
    PE X (.Call (.Attribute o m apos) (e :: es) [] pos) (tE X.K T W fl (xMeth c f Fo' (xL as))) := by
  obtain ⟨fa, fd, ps, cl, hm, F, hb, nm⟩ := mo.ex
  refine PE.le (pe_meth (pl := pl) ho cl hm F hr hb (dvs := []) .nil hx ha hst hpl ht) fun σ H Q ⟨B, C, G0, H0, G, env, b, g, q⟩ => tE_then g q fun d b1 G1 H1 v s hb1 rd g1 q => ?_
  obtain ⟨ys, ed, q⟩ := q.bnd.opt
  have ed := insD_inv ed
  subst ed
  have rd0 := rd
  unfold Rep at rd
  obtain ⟨a, dx, fs, rfl, h1, h2, h3⟩ := rd
  refine ⟨a, dx, fs, rfl, s.i _ _ h1, lookup_no h2 nm, ?_⟩
  refine ⟨B, C, G0, H0, G1, env, b1, g1, (oW_len q.bnd).imp fun ds b2 ⟨hl, q⟩ G2 H2 vs s2 hb2 r => ?_⟩
  have g2 := g1.step s2 hb2
  show spM X.K T np false f (.ref a :: (vs ++ [])) H2 Q W
  rw [List.append_nil]
  exact meth_at g2 (s.trans s2) hb2 (Reps.cons (rd0.mono s2.g) r) (by rw [List.length_cons, hl]; exact hn) q
/-- o.m() -/
theorem de_meth0 {pl : Sem Bool} (mo : MetOk X.prog X.w X.K T X.mg X.base k c 1 m f) (hr : Room k X.A) (hx : Passes (CX X.prog X.w) X W) (ho : PE X o (tE X.K T W fl Fo'))
    (ht : eval (.Call (.Attribute o m apos) [] [] pos) X.env = (do
      let ov ← eval o X.env
      standAt apos.atName
      let (f, first) ← holding [ov] (getMethod ov m pl)
      callWith pos f first (backTo pos (starEach [] X.env)) (backToKw pos (keywordEach [] X.env))) := by rfl) :
    PE X (.Call (.Attribute o m apos) [] [] pos) (tE X.K T W fl (xMeth c f Fo' xNil)) := by
  obtain ⟨fa, fd, ps, cl, hm, F, hb, nm⟩ := mo.ex
  refine PE.le (pe_meth0 (pl := pl) ho cl hm F hr hb (dvs := []) .nil hx ht) fun σ H Q ⟨B, C, G0, H0, G, env, b, g, q⟩ => tE_then g q fun d b1 G1 H1 v s hb1 rd g1 q => ?_
  obtain ⟨ys, ed, q⟩ := q.bnd.opt
  have ed := insD_inv ed
  subst ed
  have rd0 := rd
  unfold Rep at rd
  obtain ⟨a, dx, fs, rfl, h1, h2, h3⟩ := rd
  refine ⟨a, dx, fs, rfl, s.i _ _ h1, lookup_no h2 nm, ?_⟩
  show spM X.K T 1 false f [.ref a] H1 Q W
  exact meth_at g1 s hb1 (Reps.one rd0) rfl q
theorem de_isC {K : PySem.W.Frag} {Fa : Z.Ex} {a b : Expr} (ic : C8.InsC K (T.adr c)) (ha : PE X a (tB K T W fl Fa)) (hb : PE X b (tC (.ref (T.adr c)))) (hK : X.K = K) (hg : Gl X "isinstance") (hm : X.mg "isinstance" = none)
    (he : starEach (a :: [b]) X.env = (false, eval a X.env) :: starEach [b] X.env := by rfl) (he2 : starEach (b :: []) X.env = (false, eval b X.env) :: starEach [] X.env := by rfl) (hpl : (backTo pos (starEach [b] X.env)).any (·.1) = false := by rfl) :
    PE X (.Call (.Name "isinstance" p) [a, b] [] pos) (tE K T W fl (x1 (isInsC c) Fa)) := by
  subst hK
  refine PE.le (pe_callB (C8.call_isC ic) hg hm (by decide +kernel) (pa_cons ha (pa_cons hb pa_nil he2) he) (he := he) (hpl := hpl)) fun σ H Q ⟨B, C, G0, H0, G, env, b, gd, q⟩ => tB_then gd q fun d b1 G1 H1 v s hb r g1 q => ?_
  obtain ⟨d', e, q⟩ := q.opt
  have : ∃ ys, d = .ins c ys ∧ d' = .bl true := by
    unfold isInsC at e
    split at e
    · split at e
      · rename_i h
        cases e
        exact ⟨_, by rw [h], rfl⟩
      · cases e
    · cases e
  obtain ⟨ys, rfl, rfl⟩ := this
  rcases r with r | ⟨pp, rfl, _, r⟩
  · unfold Rep at r
    obtain ⟨a, dx, fs, rfl, h1, _⟩ := r
    exact ⟨a, dx, fs, rfl, s.i _ _ h1, q G1 H1 _ s hb .bl⟩
  · obtain ⟨dx, fs, h1, _⟩ := r
    exact ⟨pp, dx, fs, rfl, h1, q G1 H1 _ s hb .bl⟩
end
end ZL
end
section
set_option linter.all false
/-! PLAIN: an own list of own lists; an own pair. -/
namespace Z
open M
/-- x = [[]] -/
def sOll (i : Nat) : Sm := fun env => ret (.nx (env.set i (.lst [.lst []])))
def lastD : D → Option (List D × List D)
  | .lst ys => match ys.getLast? with
    | some (.lst l) => some (ys.dropLast, l)
    | _ => none
  | _ => none
/-- x[-1] -/
def xLast (i : Nat) : Ex := fun env => bnd (opt (lastD (env.getD i .non))) fun p => ret (.lst p.2)
/-- x.append([]) -/
def sAppNil (i : Nat) : Sm := fun env => bnd (opt (lastD (env.getD i .non))) fun p => if p.1.length + 1 < lim then ret (.nx (env.set i (.lst ((p.1 ++ [.lst p.2]) ++ [.lst []])))) else no
/-- x[-1].append(e) -/
def sAppLast (i : Nat) (e : Ex) : Sm := fun env => bnd (e env) fun v => bnd (opt (lastD (env.getD i .non))) fun p => if p.2.length < lim then ret (.nx (env.set i (.lst (p.1 ++ [.lst (p.2 ++ [v])])))) else no
theorem lastD_inv {d : D} {p : List D × List D} (e : lastD d = some p) : d = .lst (p.1 ++ [.lst p.2]) := by
  unfold lastD at e
  split at e
  · rename_i ys
    split at e
    · rename_i l h
      cases e
      have hne : ys ≠ [] := by
        rintro rfl
        cases h
      have h2 : ys.getLast hne = .lst l := by
        rw [List.getLast?_eq_some_getLast hne] at h
        exact Option.some.inj h
      have := List.dropLast_concat_getLast hne
      rw [h2] at this
      exact congrArg D.lst this.symm
    · cases e
  · cases e
theorem lastD_of (ds l : List D) : lastD (.lst (ds ++ [.lst l])) = some (ds, l) := by
  unfold lastD
  simp
end Z
end
section
set_option Elab.async false
set_option linter.all false
set_option maxRecDepth 100000
/-! LAYER: own objects of more than one part. -/
namespace ZL
open PySem PySem.Spec PyProof.Rows L2 Z

section
variable {K : PySem.W.Frag} {T : Tb} {B C : List Addr} {G0 H0 G H G1 H1 : Hp} {σ σ1 : L2.St} {env : Sl} {b b1 : Bag} {fl : List Flg}
theorem SlotOk.move (s : Sub G G1) {f : Flg} {sv : Option (Option V)} {d : D} {fp : List Addr} (x : SlotOk K T B G H f sv d fp) (k : ∀ a ∈ fp, ∀ o, H a = some o → H1 a = some o) : SlotOk K T B G1 H1 f sv d fp := by
  cases f with
  | un => exact x
  | dat =>
    obtain ⟨h, v, e, r⟩ := x
    exact ⟨h, v, e, r.mono s⟩
  | bag => exact x
  | ol =>
    obtain ⟨p, vs, ds, a1, a2, a3, a4, a5⟩ := x
    exact ⟨p, vs, ds, a1, a2, k p (by rw [a5]; simp) _ a3, a4.mono s, a5⟩
  | od =>
    obtain ⟨p, vs, ds, a1, a2, a3, a4, a5⟩ := x
    exact ⟨p, vs, ds, a1, a2, k p (by rw [a5]; simp) _ a3, a4.mono s, a5⟩
  | oi =>
    obtain ⟨p, c, dx, fs, xs, a1, a2, a3, a4, a5, a6⟩ := x
    exact ⟨p, c, dx, fs, xs, a1, a2, k p (by rw [a6]; simp) _ a3, a4, a5.mono s, a6⟩
  | oll =>
    obtain ⟨p, q, vs, ds, us, l, a1, a2, a3, a4, a5, a6, a7, a8⟩ := x
    exact ⟨p, q, vs, ds, us, l, a1, a2, k p (by rw [a8]; simp) _ a3, k q (by rw [a8]; simp) _ a4, a5.mono s, a6.mono s, a7, a8⟩
  | og =>
    obtain ⟨t, p, dx, c, fs, xs, v, d2, a1, a2, a3, a4, a5, a6, a7, a8, a9⟩ := x
    exact ⟨t, p, dx, c, fs, xs, v, d2, a1, a2, k t (by rw [a9]; simp) _ a3, k p (by rw [a9]; simp) _ a4, a5, a6.mono s, a7.mono s, a8, a9⟩
/-- the slot i is given anew: what was its own may have changed or be frozen, what is its own now was or is new -/
theorem Good.swap (g : Good K T fl B C G0 H0 G H σ env b) {i : Nat} {f : Flg} {d : D} {fp' : List Addr} (hb : BagAt B H1 b1) (s : Sub G G1) (si : Sub G1 H1) (hi : i < env.length) (hl : i < fl.length) (ls : σ1.length = σ.length) (ks : ∀ j, j ≠ i → σ1[j]? = σ[j]?)
    (fpi : List Addr) (only : ∀ fp, SlotOk K T B G H (fl.getD i .un) σ[i]? (env.getD i .non) fp → fp = fpi)
    (keep : ∀ a o, H a = some o → a ∉ fpi → a ∉ B → H1 a = some o) (there : ∀ a ∈ fpi, ∃ o, H1 a = some o)
    (new : SlotOk K T B G1 H1 f σ1[i]? d fp') (own : ∀ a ∈ fp', G1 a = none ∧ (a ∈ fpi ∨ H a = none)) (frz : ∀ a o, G1 a = some o → G a = none → a ∈ fpi ∨ H a = none) :
    Good K T (fl.set i f) B C G0 H0 G1 H1 σ1 (env.set i d) b1 := by
  obtain ⟨c, l, F, h1, h2, h3⟩ := g
  have hF : F i = fpi := only _ (h1 i)
  have back : ∀ a, H a = none → H0 a = none := fun a e => c.stp.back e
  have fpi0 : ∀ a ∈ fpi, H0 a = none := fun a ha => (h2 i a (hF ▸ ha)).2
  have some0 : ∀ a o, H0 a = some o → a ∉ fpi := fun a o e m => by
    rw [fpi0 a m] at e
    cases e
  refine ⟨⟨⟨c.stp.g.trans s, si, fun a o e n => ?_, fun a o e => ?_, fun a o e1 e2 => ?_⟩, hb, c.bc, fun a ha => ?_⟩, by rw [List.length_set, ls]; exact l, fun j => if j = i then fp' else F j, fun j => ?_, fun j q hq => ?_, fun j k q hj hk => ?_⟩
  · exact keep a o (c.stp.h a o e n) (some0 a o e) fun m => n (c.bc a m)
  · obtain ⟨o', e'⟩ := c.stp.k a o e
    by_cases m : a ∈ B
    · exact ⟨_, (hb a m).1⟩
    · exact ⟨o', keep a o' e' (some0 a o e) m⟩
  · cases e3 : G a with
    | some o3 => exact c.stp.n a o3 e3 e2
    | none =>
      rcases frz a o e1 e3 with z | z
      · exact fpi0 a z
      · exact back a z
  · obtain ⟨z1, o, z2⟩ := c.bg a ha
    refine ⟨?_, o, z2⟩
    cases e : G1 a with
    | none => rfl
    | some o1 =>
      rcases frz a o1 e z1 with z | z
      · rw [fpi0 a z] at z2
        cases z2
      · rw [back a z] at z2
        cases z2
  · by_cases e : j = i
    · subst e
      simp only [if_pos rfl]
      rw [getD_set_same hl, getD_set_same hi]
      exact new
    · simp only [if_neg e]
      rw [getD_set_ne (Ne.symm e), getD_set_ne (Ne.symm e), ks j e]
      refine (h1 j).move s fun a ha o eo => keep a o eo (fun m => e (h3 j i a ha (hF ▸ m))) (c.own_ne (h2 j a ha).2)
  · by_cases e : j = i
    · simp only [if_pos e] at hq
      obtain ⟨z1, z2⟩ := own q hq
      exact ⟨z1, z2.elim (fpi0 q) (back q)⟩
    · simp only [if_neg e] at hq
      obtain ⟨z1, z2⟩ := h2 j q hq
      refine ⟨?_, z2⟩
      obtain ⟨o, ho⟩ := (h1 j).there q hq
      cases eg : G1 q with
      | none => rfl
      | some o1 =>
        rcases frz q o1 eg z1 with z | z
        · exact absurd (h3 j i q hq (hF ▸ z)) e
        · rw [ho] at z
          cases z
  · by_cases e : j = i
    · by_cases e' : k = i
      · rw [e, e']
      · simp only [if_pos e] at hj
        simp only [if_neg e'] at hk
        exfalso
        rcases (own q hj).2 with z | z
        · exact e' (h3 k i q hk (hF ▸ z))
        · obtain ⟨o, ho⟩ := (h1 k).there q hk
          rw [ho] at z
          cases z
    · by_cases e' : k = i
      · simp only [if_neg e] at hj
        simp only [if_pos e'] at hk
        exfalso
        rcases (own q hk).2 with z | z
        · exact e (h3 j i q hj (hF ▸ z))
        · obtain ⟨o, ho⟩ := (h1 j).there q hj
          rw [ho] at z
          cases z
      · simp only [if_neg e] at hj
        simp only [if_neg e'] at hk
        exact h3 j k q hj hk
theorem Good.oll (g : Good K T fl B C G0 H0 G H σ env b) {i : Nat} (h : fl.getD i .un = .oll) : ∃ p q vs ds us l, σ[i]? = some (some (.ref p)) ∧ env.getD i .non = .lst (ds ++ [.lst l]) ∧ H p = some (.lst (vs ++ [.ref q])) ∧ H q = some (.lst us) ∧ Reps K T G ds vs ∧ Reps K T G l us ∧ p ≠ q ∧
    G p = none ∧ G q = none ∧ H0 p = none ∧ H0 q = none ∧ ∀ fp, SlotOk K T B G H (fl.getD i .un) σ[i]? (env.getD i .non) fp → fp = [p, q] := by
  obtain ⟨_, _, F, h1, h2, _⟩ := g
  have x := h1 i
  rw [h] at x
  obtain ⟨p, q, vs, ds, us, l, a1, a2, a3, a4, a5, a6, a7, a8⟩ := x
  have hp := h2 i p (by rw [a8]; simp)
  have hq := h2 i q (by rw [a8]; simp)
  refine ⟨p, q, vs, ds, us, l, a1, a2, a3, a4, a5, a6, a7, hp.1, hq.1, hp.2, hq.2, fun fp y => ?_⟩
  rw [h] at y
  obtain ⟨p', q', vs', ds', us', l', b1, b2, b3, b4, b5, b6, b7, b8⟩ := y
  rw [a1] at b1
  cases b1
  rw [a3] at b3
  injection b3 with b3
  injection b3 with b3
  have := List.append_inj_right' b3 rfl
  injection this with this _
  injection this with this
  rw [b8, this]
end
end ZL
end
section
set_option Elab.async false
set_option linter.all false
set_option maxRecDepth 100000
/-! LAYER: an own list of lists, the last of which is own. -/
namespace ZL
open PySem PySem.Spec PyProof.Rows L2 Z

section
variable {K : PySem.W.Frag} {T : Tb} {kp : List Nat} {fl : List Flg} {fo : Fo} {W : XK} {X : Cx} {e : Expr} {Fe : Z.Ex} {S : Z.Sm} {sts : List Stmt} {pos p1 lp lp2 apos cpos sp up cp : Pos} {i : Nat} {x : Str}
theorem weak_un {fl : List Flg} {i : Nat} : ∀ j, (fl.set i .un).getD j .un = fl.getD j .un ∨ (fl.set i .un).getD j .un = .un := fun j => by
  by_cases e : j = i
  · subst e
    right
    by_cases h : j < fl.length
    · exact getD_set_same h
    · exact getD_out (by rw [List.length_set]; omega)
  · exact .inl (getD_set_ne (Ne.symm e))
theorem set_un {fl : List Flg} {i : Nat} (h : i < fl.length) : (fl.set i .un).getD i .un = .un := getD_set_same h
theorem ds_oll {bk ct : List Flg} (hN : X.N.Nodup) (hi : X.N[i]? = some x) (hx : Loc X.env.scope x) (hl : i < fl.length) (hkp : apart kp [i] = true := by rfl) (hs0 : starEach [.List [] lp2] X.env = (false, eval (.List [] lp2) X.env) :: starEach [] X.env := by rfl) (hs : swapsWith (.List [.List [] lp2] lp) (some (.Name x p1)) pos.line X.env = pure false := by rfl)
    (hf : X.fn x = true ∨ X.env.scope.names.lookup x = some .local := by first | exact .inl rfl | exact .inr rfl | assumption) :
    PS X (.Assign [.Name x p1] (.List [.List [] lp2] lp) pos) (tS K T W kp fl ⟨fl.set i .oll, bk, ct⟩ (sOll i)) := by
  have hp := ps_set (pos := pos) hN hi hx (pe_lst (pos := lp) (pa_cons (pe_lst (pos := lp2) pa_nil) pa_nil hs0)) hs hf
  refine ⟨fun pins s σ H Dd I q => hp.run pins s σ H Dd I ?_⟩
  obtain ⟨B, C, G0, H0, G, env, b, g, q⟩ := q
  have li : i < env.length := by
    rw [← g.len, I.len]
    exact (List.getElem?_eq_some_iff.mp hi).1
  refine ⟨Nat.zero_le _, fun r hr => ⟨by rw [sizeLine_eq]; exact Nat.succ_le_succ (Nat.zero_le _), fun p hp => ?_⟩⟩
  have ne : p ≠ r := by
    rintro rfl
    rw [upd_same] at hp
    cases hp
  have hp' : H p = none := by
    rw [upd_ne ne] at hp
    exact hp
  have gw := g.weak (fl' := fl.set i .un) weak_un
  have keep : ∀ a o, H a = some o → (upd (upd H r (.lst [])) p (.lst [.ref r])) a = some o := fun a o e => by
    rw [upd_ne (ne_of_none e hp'), upd_ne (ne_of_none e hr)]
    exact e
  have g2 := gw.swap (i := i) (f := .oll) (d := .lst ([] ++ [.lst []])) (fp' := [p, r]) (b1 := b) (G1 := G) (H1 := upd (upd H r (.lst [])) p (.lst [.ref r])) (σ1 := σ.set i (some (.ref p))) (fun a ha => ⟨keep a _ (g.core.bag a ha).1, (g.core.bag a ha).2⟩) (Sub.refl G)
    (fun a o e => keep a o (g.core.sub a o e)) li (by rw [List.length_set]; exact hl) (List.length_set ..) (fun j hj => List.getElem?_set_ne (Ne.symm hj)) [] (fun fp y => by
      rw [set_un hl] at y
      exact y) (fun a o e _ _ => keep a o e) (fun a ha => by cases ha)
    ⟨p, r, [], [], [], [], by rw [List.getElem?_set_self (by rw [g.len]; exact li)], rfl, upd_same, by rw [upd_ne (Ne.symm ne), upd_same], .nil, .nil, ne, rfl⟩ (fun a ha => by
      rcases List.mem_cons.mp ha with z | z
      · rw [z]
        exact ⟨g.core.sub.free hp', .inr hp'⟩
      · rw [List.mem_singleton.mp z]
        exact ⟨g.core.sub.free hr, .inr hr⟩) (fun a o e1 e2 => by
      rw [e1] at e2
      cases e2)
  rw [List.set_set] at g2
  exact q _ G _ g2 (Sub.refl G) (.of hkp fun j hj => List.getElem?_set_ne fun z => hj (by rw [z]; exact List.mem_singleton.mpr rfl))
theorem set_getD {fl : List Flg} {i : Nat} (h : i < fl.length) : fl.set i (fl.getD i .un) = fl := by
  refine List.ext_getElem (List.length_set ..) fun j h1 h2 => ?_
  rw [List.getElem_set]
  split
  · rename_i e
    subst e
    simp [List.getD, List.getElem?_eq_getElem h]
  · rfl
/-- x[-1] -/
theorem pe_last (hv : PE X (.Name x p1) (tVar i)) : PE X (.Subscript (.Name x p1) (.UnaryOp .USub (.Constant (.int 1) 0 cp) up) sp) (tOp (rIxL X.K) (tVar i) (tUn (rU fun i => .int (-i)) (tC (.int 1)))) := pe_ix ix_list hv (pe_un un_neg pe_int) (by intro _ _; rfl)
theorem last_at {vs : List V} {v : V} : atI (vs ++ [v]) (-1) = some v := by
  unfold atI ixN
  rw [if_neg (by omega), if_pos (by rw [List.length_append, List.length_singleton]; omega)]
  have : (-1 + ((vs ++ [v]).length : Int)).toNat = vs.length := by
    rw [List.length_append, List.length_singleton]
    omega
  show (vs ++ [v])[(-1 + ((vs ++ [v]).length : Int)).toNat]? = some v
  rw [this]
  simp
theorem db_last (hf : fl.getD i .un = .oll) (hv : PE X (.Name x p1) (tVar i)) : PE X (.Subscript (.Name x p1) (.UnaryOp .USub (.Constant (.int 1) 0 cp) up) sp) (tB K T W fl (xLast i)) := by
  refine PE.le (pe_last hv) fun σ H Q ⟨B, C, G0, H0, G, env, b, g, q⟩ => ?_
  obtain ⟨p, r, vs, ds, us, l, e1, e2, e3, e4, e5, e6, ne, gp, gr, hp0, hr0, _⟩ := g.oll hf
  refine ⟨.ref p, e1, 1, rfl, ?_⟩
  refine ⟨p, vs ++ [.ref r], -1, .ref r, rfl, rfl, SqL.of e3, last_at, ?_⟩
  unfold xLast at q
  rw [e2, lastD_of] at q
  exact q G H (.ref r) (.refl g.core.sub) g.core.bag (.inr ⟨r, rfl, g.core.own_ne hr0, us, e4, e6⟩)
/-- x.append([]) -/
theorem ds_appNil {bk ct : List Flg} (hf : fl.getD i .un = .oll) (hl : i < fl.length) (hv : PE X (.Name x p1) (tVar i))
    (hbase : attributeBase (.Name x p1) "append" X.env (eval (.Name x p1) X.env) = eval (.Name x p1) X.env := by rfl)
    (hfew : ((backTo cpos (starEach [.List [] lp] X.env)).all (fun x => !x.1) && (backToKw cpos (keywordEach [] X.env)).all (fun x => x.1.isSome)
      && decide (([.List [] lp] : List Expr).length + ([] : List Keyword).length + (if ([] : List Keyword).isEmpty then 0 else 1) < 30)) = true := by rfl)
    (hline : (apos.endLine == cpos.line) = true := by rfl) (hs : starEach [.List [] lp] X.env = (false, eval (.List [] lp) X.env) :: starEach [] X.env := by rfl) (hsw : swapsWith (.Call (.Attribute (.Name x p1) "append" apos) [.List [] lp] [] cpos) none pos.line X.env = pure false := by rfl) :
    PS X (.Expr (.Call (.Attribute (.Name x p1) "append" apos) [.List [] lp] [] cpos) pos) (tS K T W kp fl ⟨fl, bk, ct⟩ (sAppNil i)) := by
  refine PS.le (ps_expr (pe_bm PySem.F.plainAttrs_list PySem.F.slot_list_append PySem.F.type_list_append mt_append hv (pa_cons (pe_lst (pos := lp) pa_nil) pa_nil hs) hbase hfew hline hs rfl) hsw) fun Dd σ H ⟨B, C, G0, H0, G, env, b, g, q⟩ => ?_
  obtain ⟨p, r, vs, ds, us, l, e1, e2, e3, e4, e5, e6, ne, gp, gr, hp0, hr0, only⟩ := g.oll hf
  unfold sAppNil at q
  rw [e2, lastD_of] at q
  have q : oW (FlO K T kp ⟨fl, bk, ct⟩ Dd B C G0 H0 G σ) (XOk K T W B C G0 H0) ((if ds.length + 1 < lim then M.ret (.nx (env.set i (.lst ((ds ++ [.lst l]) ++ [.lst []])))) else M.no) b) := q
  by_cases hz : ds.length + 1 < lim
  · rw [if_pos hz] at q
    refine ⟨.ref p, e1, .inl ⟨rfl, _, SqL.of e3⟩, Nat.zero_le _, fun s hs => ?_⟩
    have nps : p ≠ s := by
      rintro rfl
      rw [e3] at hs
      cases hs
    have nrs : r ≠ s := by
      rintro rfl
      rw [e4] at hs
      cases hs
    have hi : i < env.length := by
      rw [← g.len]
      exact (List.getElem?_eq_some_iff.mp e1).1
    refine ⟨p, vs ++ [.ref r], .ref s, rfl, rfl, by rw [upd_ne nps]; exact e3, ?_, ?_⟩
    · rw [List.length_append, List.length_singleton, e5.length]
      exact Nat.lt_of_lt_of_le hz (by decide)
    have sg : Sub G (upd G r (.lst us)) := fun a u e => by
      rw [upd_ne (ne_of_none e gr)]
      exact e
    have keep : ∀ a o, H a = some o → a ≠ p → (upd (upd H s (.lst [])) p (.lst (vs ++ [.ref r] ++ [.ref s]))) a = some o := fun a o e n => by
      rw [upd_ne n, upd_ne (ne_of_none e hs)]
      exact e
    have g2 := g.swap (i := i) (f := .oll) (d := .lst ((ds ++ [.lst l]) ++ [.lst []])) (fp' := [p, s]) (b1 := b) (G1 := upd G r (.lst us)) (H1 := upd (upd H s (.lst [])) p (.lst (vs ++ [.ref r] ++ [.ref s]))) (σ1 := σ)
      (fun a ha => ⟨keep a _ (g.core.bag a ha).1 (fun z => g.core.own_ne hp0 (z ▸ ha)), (g.core.bag a ha).2⟩) sg
      (fun a o e => by
        by_cases z : a = r
        · subst z
          rw [upd_same] at e
          cases e
          exact keep a _ e4 (Ne.symm ne)
        · rw [upd_ne z] at e
          exact keep a o (g.core.sub a o e) (ne_of_none e gp)) hi hl rfl (fun _ _ => rfl) [p, r] only
      (fun a o e n _ => keep a o e (fun z => n (by rw [z]; simp))) (fun a ha => by
        rcases List.mem_cons.mp ha with z | z
        · rw [z]
          exact ⟨_, upd_same⟩
        · rw [List.mem_singleton.mp z]
          exact ⟨_, keep r _ e4 (Ne.symm ne)⟩)
      ⟨p, s, vs ++ [.ref r], ds ++ [.lst l], [], [], e1, rfl, upd_same, by rw [upd_ne (Ne.symm nps), upd_same], (e5.mono sg).append (.one (by unfold Rep; exact ⟨r, us, rfl, upd_same, e6.mono sg⟩)), .nil, nps, rfl⟩
      (fun a ha => by
        rcases List.mem_cons.mp ha with z | z
        · rw [z]
          exact ⟨by rw [upd_ne ne]; exact gp, .inl (by simp)⟩
        · rw [List.mem_singleton.mp z]
          exact ⟨by rw [upd_ne (Ne.symm nrs)]; exact g.core.sub.free hs, .inr hs⟩)
      (fun a o e1 e2 => by
        by_cases z : a = r
        · exact .inl (by rw [z]; simp)
        · rw [upd_ne z, e2] at e1
          cases e1)
    have ef : fl.set i .oll = fl := by
      rw [← hf]
      exact set_getD hl
    rw [ef] at g2
    exact q _ _ _ g2 sg .refl
  · rw [if_neg hz] at q
    exact q.elim
end
end ZL
end
section
set_option Elab.async false
set_option linter.all false
set_option maxRecDepth 100000
/-! LAYER: an own list of lists 2. -/
namespace ZL
open PySem PySem.Spec PyProof.Rows L2 Z

section
variable {K : PySem.W.Frag} {T : Tb} {kp : List Nat} {fl : List Flg} {fo : Fo} {W : XK} {X : Cx} {e : Expr} {Fe : Z.Ex} {S : Z.Sm} {sts : List Stmt} {pos p1 lp lp2 apos cpos sp up cp : Pos} {i : Nat} {x : Str}
/-- x[-1].append(e) -/
theorem ds_appLast {bk ct : List Flg} (hf : fl.getD i .un = .oll) (hl : i < fl.length) (hv : PE X (.Name x p1) (tVar i)) (he : PE X e (tE K T W fl Fe)) (hK : X.K = K)
    (hbase : attributeBase (.Subscript (.Name x p1) (.UnaryOp .USub (.Constant (.int 1) 0 cp) up) sp) "append" X.env (eval (.Subscript (.Name x p1) (.UnaryOp .USub (.Constant (.int 1) 0 cp) up) sp) X.env) = eval (.Subscript (.Name x p1) (.UnaryOp .USub (.Constant (.int 1) 0 cp) up) sp) X.env := by rfl)
    (hfew : ((backTo cpos (starEach [e] X.env)).all (fun x => !x.1) && (backToKw cpos (keywordEach [] X.env)).all (fun x => x.1.isSome)
      && decide (([e] : List Expr).length + ([] : List Keyword).length + (if ([] : List Keyword).isEmpty then 0 else 1) < 30)) = true := by rfl)
    (hline : (apos.endLine == cpos.line) = true := by rfl) (hs : starEach [e] X.env = (false, eval e X.env) :: starEach [] X.env := by rfl) (hsw : swapsWith (.Call (.Attribute (.Subscript (.Name x p1) (.UnaryOp .USub (.Constant (.int 1) 0 cp) up) sp) "append" apos) [e] [] cpos) none pos.line X.env = pure false := by rfl) :
    PS X (.Expr (.Call (.Attribute (.Subscript (.Name x p1) (.UnaryOp .USub (.Constant (.int 1) 0 cp) up) sp) "append" apos) [e] [] cpos) pos) (tS K T W kp fl ⟨fl, bk, ct⟩ (sAppLast i Fe)) := by
  subst hK
  refine PS.le (ps_expr (pe_bm PySem.F.plainAttrs_list PySem.F.slot_list_append PySem.F.type_list_append mt_append (pe_last hv) (pa_cons he pa_nil hs) hbase hfew hline hs rfl) hsw) fun Dd σ H ⟨B, C, G0, H0, G, env, b, g, q⟩ => ?_
  obtain ⟨p, r, vs, ds, us, l, e1, e2, e3, e4, e5, e6, ne, gp, gr, hp0, hr0, only⟩ := g.oll hf
  refine ⟨.ref p, e1, 1, rfl, ?_⟩
  refine ⟨p, vs ++ [.ref r], -1, .ref r, rfl, rfl, SqL.of e3, last_at, .inl ⟨rfl, us, SqL.of e4⟩, ?_⟩
  show tE X.K T W fl Fe σ H fun y H2 => rAppend (.ref r) [y] H2 fun _ H3 => Dd.nx σ H3
  refine tE_then g q fun d b1 G1 H1 v s hb rd g1 q => ?_
  obtain ⟨p', r', vs', ds', us', l', c1, c2, c3, c4, c5, c6, ne', gp', gr', hp0', hr0', only'⟩ := g1.oll hf
  rw [e1] at c1
  cases c1
  have hr : r' = r := by
    have z := s.h p _ e3 (g.core.own_ne hp0)
    rw [c3] at z
    injection z with z
    injection z with z
    have := List.append_inj_right' z rfl
    injection this with this _
    injection this with this
  subst hr
  rw [c2, lastD_of] at q
  have q : oW (FlO X.K T kp ⟨fl, bk, ct⟩ Dd B C G0 H0 G σ) (XOk X.K T W B C G0 H0) ((if l'.length < lim then M.ret (.nx (env.set i (.lst (ds' ++ [.lst (l' ++ [d])])))) else M.no) b1) := q
  by_cases hz : l'.length < lim
  · rw [if_pos hz] at q
    have hi : i < env.length := by
      rw [← g1.len]
      exact (List.getElem?_eq_some_iff.mp e1).1
    refine ⟨r', us', v, rfl, rfl, c4, ?_, ?_⟩
    · rw [c6.length]
      exact Nat.lt_of_lt_of_le hz (by decide)
    have keep : ∀ a o, H1 a = some o → a ≠ r' → (upd H1 r' (.lst (us' ++ [v]))) a = some o := fun a o e n => by
      rw [upd_ne n]
      exact e
    have g2 := g1.swap (i := i) (f := .oll) (d := .lst (ds' ++ [.lst (l' ++ [d])])) (fp' := [p, r']) (b1 := b1) (G1 := G1) (H1 := upd H1 r' (.lst (us' ++ [v]))) (σ1 := σ)
      (fun a ha => ⟨keep a _ (g1.core.bag a ha).1 (fun z => g1.core.own_ne hr0 (z ▸ ha)), (g1.core.bag a ha).2⟩) (Sub.refl G1)
      (fun a o e => keep a o (g1.core.sub a o e) (ne_of_none e gr')) hi hl rfl (fun _ _ => rfl) [p, r'] only'
      (fun a o e n _ => keep a o e (fun z => n (by rw [z]; simp))) (fun a ha => by
        rcases List.mem_cons.mp ha with z | z
        · rw [z]
          exact ⟨_, keep p _ c3 ne⟩
        · rw [List.mem_singleton.mp z]
          exact ⟨_, upd_same⟩)
      ⟨p, r', vs', ds', us' ++ [v], l' ++ [d], e1, rfl, by rw [upd_ne ne]; exact c3, upd_same, c5, c6.append (.one rd), ne, rfl⟩
      (fun a ha => by
        rcases List.mem_cons.mp ha with z | z
        · rw [z]
          exact ⟨gp', .inl (by simp)⟩
        · rw [List.mem_singleton.mp z]
          exact ⟨gr', .inl (by simp)⟩)
      (fun a o e1 e2 => by
        rw [e1] at e2
        cases e2)
    have ef : fl.set i .oll = fl := by
      rw [← hf]
      exact set_getD hl
    rw [ef] at g2
    exact q _ _ _ g2 s.g .refl
  · rw [if_neg hz] at q
    exact q.elim
/-- it becomes data -/
theorem dss_frzL (hf : fl.getD i .un = .oll) (hl : i < fl.length) (h : PSs X sts (tS K T W kp (fl.set i .dat) fo S)) : PSs X sts (tS K T W kp fl fo S) :=
  PSs.le h fun Dd σ H ⟨B, C, G0, H0, G, env, b, g, q⟩ => by
    obtain ⟨p, r, vs, ds, us, l, e1, e2, e3, e4, e5, e6, ne, gp, gr, hp0, hr0, only⟩ := g.oll hf
    have sg1 : Sub G (upd G r (.lst us)) := fun a u e => by
      rw [upd_ne (ne_of_none e gr)]
      exact e
    have sg : Sub G (upd (upd G r (.lst us)) p (.lst (vs ++ [.ref r]))) := fun a u e => by
      rw [upd_ne (ne_of_none e gp)]
      exact sg1 a u e
    have hi : i < env.length := by
      rw [← g.len]
      exact (List.getElem?_eq_some_iff.mp e1).1
    have gr2 : (upd (upd G r (.lst us)) p (.lst (vs ++ [.ref r]))) r = some (.lst us) := by rw [upd_ne (Ne.symm ne), upd_same]
    have g2 := g.swap (i := i) (f := .dat) (d := .lst (ds ++ [.lst l])) (fp' := []) (b1 := b) (G1 := upd (upd G r (.lst us)) p (.lst (vs ++ [.ref r]))) (H1 := H) (σ1 := σ) g.core.bag sg
      (fun a o e => by
        by_cases z : a = p
        · subst z
          rw [upd_same] at e
          rw [e3]
          exact e
        · rw [upd_ne z] at e
          by_cases z' : a = r
          · subst z'
            rw [upd_same] at e
            rw [e4]
            exact e
          · rw [upd_ne z'] at e
            exact g.core.sub a o e) hi hl rfl (fun _ _ => rfl) [p, r] only (fun a o e _ _ => e) (fun a ha => by
        rcases List.mem_cons.mp ha with z | z
        · rw [z]
          exact ⟨_, e3⟩
        · rw [List.mem_singleton.mp z]
          exact ⟨_, e4⟩)
      ⟨rfl, .ref p, e1, by
        unfold Rep
        refine ⟨p, _, rfl, upd_same, (e5.mono sg).append (.one ?_)⟩
        unfold Rep
        exact ⟨r, us, rfl, gr2, e6.mono sg⟩⟩ (fun a ha => by cases ha)
      (fun a o e1 e2 => by
        by_cases z : a = p
        · exact .inl (by rw [z]; simp)
        · rw [upd_ne z] at e1
          by_cases z' : a = r
          · exact .inl (by rw [z']; simp)
          · rw [upd_ne z', e2] at e1
            cases e1)
    have ee : env.set i (.lst (ds ++ [.lst l])) = env := by
      rw [← e2]
      refine List.ext_getElem (List.length_set ..) fun j h1 h2 => ?_
      rw [List.getElem_set]
      split
      · rename_i e
        subst e
        simp [List.getD, List.getElem?_eq_getElem hi]
      · rfl
    rw [ee] at g2
    exact ⟨B, C, G0, H0, _, env, b, g2, q.imp fun f b1 z => z.sub sg .refl⟩
end
end ZL
end
section
set_option linter.all false
/-! PLAIN: an own pair of an instance and data. -/
namespace Z
open M
/-- set of a tuple -/
def oSetT : D → Option D
  | .tup xs => if setable xs then some (.set (dedup xs)) else none
  | _ => none
def insA : D → Option (Nat × List D)
  | .ins c xs => some (c, xs)
  | _ => none
theorem insA_inv {d : D} {p : Nat × List D} (e : insA d = some p) : d = .ins p.1 p.2 := by
  unfold insA at e
  split at e
  · cases e
    rfl
  · cases e
/-- (a new instance, data) -/
def xPair (a b : Ex) : Ex := fun env => bnd (a env) fun x => bnd (opt (insA x)) fun _ => bnd (b env) fun y => ret (.tup [x, y])
def pairD : D → Option (Nat × List D × D)
  | .tup [.ins c xs, d] => some (c, xs, d)
  | _ => none
theorem pairD_inv {d : D} {p : Nat × List D × D} (e : pairD d = some p) : d = .tup [.ins p.1 p.2.1, p.2.2] := by
  unfold pairD at e
  split at e
  · cases e
    rfl
  · cases e
def xOg0 (i : Nat) : Ex := fun env => bnd (opt (pairD (env.getD i .non))) fun p => ret (.ins p.1 p.2.1)
def xOg1 (i : Nat) : Ex := fun env => bnd (opt (pairD (env.getD i .non))) fun p => ret p.2.2
def xOgT (i : Nat) : Ex := fun env => bnd (opt (pairD (env.getD i .non))) fun _ => ret (.bl true)
def xOgL (i : Nat) : Ex := fun env => bnd (opt (pairD (env.getD i .non))) fun _ => ret (.int 2)
/-- a method of an own instance that changes nothing and gives plain data -/
def xMethP (c : Nat) (f : List D → M D) (o : Ex) : Ex := fun env => bnd (o env) fun d => bnd (opt (insD c d)) fun _ => bnd (nox (pureC f [d])) fun r => if pln r then ret r else no
def pairC (c : Nat) (d : D) : Option (List D × D) := (pairD d).bind fun p => if p.1 = c then some p.2 else none
theorem pairC_inv {c : Nat} {d : D} {p : List D × D} (e : pairC c d = some p) : d = .tup [.ins c p.1, p.2] := by
  unfold pairC at e
  simp only [Option.bind_eq_some_iff] at e
  obtain ⟨q, e1, e2⟩ := e
  split at e2
  · rename_i h
    cases e2
    rw [pairD_inv e1, h]
  · cases e2
/-- both[0].m(e), which changes the instance -/
def sPut (i c : Nat) (f : List D → M D) (as : Exs) : Sm := fun env => bnd (opt (pairC c (env.getD i .non))) fun p => bnd (as env) fun ds => bnd (nox (pureC f (.ins c p.1 :: ds))) fun r => match r with
  | .ins _ xs => ret (.nx (env.set i (.tup [.ins c xs, p.2])))
  | _ => no
/-- a method that changes its instance: its fields behind -/
def runU (c nf n : Nat) (s : Sm) : List D → M D := fun ds => bnd (s (ds ++ List.replicate (n - ds.length) .non)) fun f => match f with
  | .nx env => match env.getD 0 .non with
    | .ins k xs => if k = c ∧ xs.length = nf then ret (.ins c xs) else no
    | _ => no
  | _ => no
end Z
end
section
set_option Elab.async false
set_option linter.all false
set_option maxRecDepth 100000
/-! LAYER: an own pair of an instance and data. -/
namespace ZL
open PySem PySem.Spec PyProof.Rows L2 Z

structure Pr (K : PySem.W.Frag) (T : Tb) (G H : Hp) (d : D) (t p : Addr) : Prop where
  ex : ∃ (dx : Addr) (c : Nat) (fs : List (Str × V)) (xs : List D) (v : V) (d2 : D), d = .tup [.ins c xs, d2] ∧ H t = some (.tup [.ref p, v]) ∧ H p = some (.ins (T.adr c) dx fs) ∧ fs.map (·.1) = T.fld c ∧ Reps K T G xs (fs.map (·.2)) ∧ Rep K T G d2 v ∧ t ≠ p
def tP (K : PySem.W.Frag) (T : Tb) (W : XK) (fl : List Flg) (F : Z.Ex) : TE := fun σ H Q => ∃ B C G0 H0 G env b, Good K T fl B C G0 H0 G H σ env b ∧
  oW (fun d b' => ∀ G' H' t p, Stp B G H G' H' → BagAt B H' b' → H t = none → G' t = none → H p = none → G' p = none → Pr K T G' H' d t p → Q (.ref t) H') (XOk K T W B C G0 H0) (F env b)
section
variable {K : PySem.W.Frag} {T : Tb} {kp : List Nat} {fl : List Flg} {fo : Fo} {W : XK} {X : Cx} {e a o : Expr} {Fe Fa Fb : Z.Ex} {S R : Z.Sm} {st : Stmt} {rest : List Stmt} {pos p1 p tp sp cp apos : Pos} {i : Nat} {x : Str}
theorem ds_pair {bk ct : List Flg} (he : PE X e (tP K T W fl Fe)) (hN : X.N.Nodup) (hi : X.N[i]? = some x) (hx : Loc X.env.scope x) (hl : i < fl.length) (hkp : apart kp [i] = true := by rfl) (hs : swapsWith e (some (.Name x p1)) pos.line X.env = pure false := by rfl)
    (hf : X.fn x = true ∨ X.env.scope.names.lookup x = some .local := by first | exact .inl rfl | exact .inr rfl | assumption) :
    PS X (.Assign [.Name x p1] e pos) (tS K T W kp fl ⟨fl.set i .og, bk, ct⟩ (sSet (gN i) Fe)) := by
  have hp := ps_set (pos := pos) hN hi hx he hs hf
  refine ⟨fun pins s σ H Dd I q => hp.run pins s σ H Dd I ?_⟩
  obtain ⟨B, C, G0, H0, G, env, b, g, q⟩ := q
  have li : i < env.length := by
    rw [← g.len, I.len]
    exact (List.getElem?_eq_some_iff.mp hi).1
  refine ⟨B, C, G0, H0, G, env, b, g, q.bnd.imp fun d b1 q G1 H1 t p s hb ht gt hp gp pr => ?_⟩
  obtain ⟨dx, c, fs, xs, v, d2, rfl, h1, h2, h3, h4, h5, ne⟩ := pr.ex
  have gw := g.weak (fl' := fl.set i .un) weak_un
  have g2 := gw.swap (i := i) (f := .og) (d := .tup [.ins c xs, d2]) (fp' := [t, p]) (b1 := b1) (G1 := G1) (H1 := H1) (σ1 := σ.set i (some (.ref t))) hb s.g s.i li (by rw [List.length_set]; exact hl) (List.length_set ..) (fun j hj => List.getElem?_set_ne (Ne.symm hj)) []
    (fun fp y => by
      rw [set_un hl] at y
      exact y) (fun a o e _ nb => s.h a o e nb) (fun a ha => by cases ha)
    ⟨t, p, dx, c, fs, xs, v, d2, by rw [List.getElem?_set_self (by rw [g.len]; exact li)], rfl, h1, h2, h3, h4, h5, ne, rfl⟩ (fun a ha => by
      rcases List.mem_cons.mp ha with z | z
      · rw [z]
        exact ⟨gt, .inr ht⟩
      · rw [List.mem_singleton.mp z]
        exact ⟨gp, .inr hp⟩) (fun a o e1 e2 => .inr (s.n a o e1 e2))
  rw [List.set_set] at g2
  exact q _ G1 _ g2 s.g (.of hkp fun j hj => List.getElem?_set_ne fun z => hj (by rw [z]; exact List.mem_singleton.mpr rfl))
theorem Good.og {B C : List Addr} {G0 H0 G H : Hp} {σ : L2.St} {env : Sl} {b : Bag} (g : Good K T fl B C G0 H0 G H σ env b) (h : fl.getD i .un = .og) : ∃ t p dx c fs xs v d2, σ[i]? = some (some (.ref t)) ∧ env.getD i .non = .tup [.ins c xs, d2] ∧ H t = some (.tup [.ref p, v]) ∧ H p = some (.ins (T.adr c) dx fs) ∧ fs.map (·.1) = T.fld c ∧ Reps K T G xs (fs.map (·.2)) ∧ Rep K T G d2 v ∧ t ≠ p ∧
    G t = none ∧ G p = none ∧ H0 t = none ∧ H0 p = none ∧ ∀ fp, SlotOk K T B G H (fl.getD i .un) σ[i]? (env.getD i .non) fp → fp = [t, p] := by
  obtain ⟨_, _, F, h1, h2, _⟩ := g
  have x := h1 i
  rw [h] at x
  obtain ⟨t, p, dx, c, fs, xs, v, d2, a1, a2, a3, a4, a5, a6, a7, a8, a9⟩ := x
  have ht := h2 i t (by rw [a9]; simp)
  have hp := h2 i p (by rw [a9]; simp)
  refine ⟨t, p, dx, c, fs, xs, v, d2, a1, a2, a3, a4, a5, a6, a7, a8, ht.1, hp.1, ht.2, hp.2, fun fp y => ?_⟩
  rw [h] at y
  obtain ⟨t', p', dx', c', fs', xs', v', d2', b1, b2, b3, b4, b5, b6, b7, b8, b9⟩ := y
  rw [a1] at b1
  cases b1
  rw [a3] at b3
  cases b3
  exact b9
theorem pairD_of (c : Nat) (xs : List D) (d : D) : pairD (.tup [.ins c xs, d]) = some (c, xs, d) := rfl
/-- both[0] -/
theorem db_og0 (hf : fl.getD i .un = .og) (hv : PE X (.Name x p1) (tVar i)) : PE X (.Subscript (.Name x p1) (.Constant (.int 0) 0 cp) sp) (tB K T W fl (xOg0 i)) := by
  refine PE.le (pe_ix ix_tup hv pe_int (by intro _ _; rfl)) fun σ H Q ⟨B, C, G0, H0, G, env, b, g, q⟩ => ?_
  obtain ⟨t, p, dx, c, fs, xs, v, d2, e1, e2, e3, e4, e5, e6, e7, ne, gt, gp, ht0, hp0, _⟩ := g.og hf
  refine ⟨.ref t, e1, t, [.ref p, v], 0, .ref p, rfl, rfl, SqT.of e3, rfl, ?_⟩
  unfold xOg0 at q
  rw [e2, pairD_of] at q
  exact q G H (.ref p) (.refl g.core.sub) g.core.bag (.inr ⟨p, rfl, g.core.own_ne hp0, dx, fs, e4, e5, e6⟩)
/-- both[1] -/
theorem de_og1 (hf : fl.getD i .un = .og) (hv : PE X (.Name x p1) (tVar i)) : PE X (.Subscript (.Name x p1) (.Constant (.int 1) 0 cp) sp) (tE K T W fl (xOg1 i)) := by
  refine PE.le (pe_ix ix_tup hv pe_int (by intro _ _; rfl)) fun σ H Q ⟨B, C, G0, H0, G, env, b, g, q⟩ => ?_
  obtain ⟨t, p, dx, c, fs, xs, v, d2, e1, e2, e3, e4, e5, e6, e7, ne, gt, gp, ht0, hp0, _⟩ := g.og hf
  refine ⟨.ref t, e1, t, [.ref p, v], 1, v, rfl, rfl, SqT.of e3, rfl, ?_⟩
  unfold xOg1 at q
  rw [e2, pairD_of] at q
  exact q G H v (.refl g.core.sub) g.core.bag e7
theorem de_ogT (hf : fl.getD i .un = .og) (hv : PE X (.Name x p1) (tVar i)) {b : Expr} (hb : PE X b (tC (.ty "tuple"))) (hK : X.K = K) (hg : Gl X "isinstance") (hm : X.mg "isinstance" = none)
    (he : starEach (.Name x p1 :: [b]) X.env = (false, eval (.Name x p1) X.env) :: starEach [b] X.env := by rfl) (he2 : starEach (b :: []) X.env = (false, eval b X.env) :: starEach [] X.env := by rfl) (hpl : (backTo pos (starEach [b] X.env)).any (·.1) = false := by rfl) :
    PE X (.Call (.Name "isinstance" p) [.Name x p1, b] [] pos) (tE K T W fl (xOgT i)) := by
  subst hK
  refine PE.le (pe_callB call_isi hg hm (by decide +kernel) (pa_cons hv (pa_cons hb pa_nil he2) he) (he := he) (hpl := hpl)) fun σ H Q ⟨B, C, G0, H0, G, env, b, g, q⟩ => ?_
  obtain ⟨t, p, dx, c, fs, xs, v, d2, e1, e2, e3, e4, e5, e6, e7, ne, gt, gp, ht0, hp0, _⟩ := g.og hf
  refine ⟨.ref t, e1, ?_⟩
  unfold xOgT at q
  rw [e2, pairD_of] at q
  exact ⟨.ref t, .ty "tuple", .type "tuple", .type "tuple", true, rfl, .ty "tuple", .base (.tup e3), kit_ty (by decide +kernel), q G H _ (.refl g.core.sub) g.core.bag .bl⟩
theorem de_ogL (hf : fl.getD i .un = .og) (hv : PE X (.Name x p1) (tVar i)) (hK : X.K = K) (hg : Gl X "len") (hm : X.mg "len" = none) (he : starEach [.Name x p1] X.env = (false, eval (.Name x p1) X.env) :: starEach [] X.env := by rfl) :
    PE X (.Call (.Name "len" p) [.Name x p1] [] pos) (tE K T W fl (xOgL i)) := by
  subst hK
  refine PE.le (pe_callB call_lenA hg hm PySem.boot_len (pa_cons hv pa_nil he) (by decide) (by decide) he rfl) fun σ H Q ⟨B, C, G0, H0, G, env, b, g, q⟩ => ?_
  obtain ⟨t, p, dx, c, fs, xs, v, d2, e1, e2, e3, e4, e5, e6, e7, ne, gt, gp, ht0, hp0, _⟩ := g.og hf
  refine ⟨.ref t, e1, .ref t, 2, rfl, ?_, ?_⟩
  · exact .inr ⟨_, SqT.of e3, rfl⟩
  · unfold xOgL at q
    rw [e2, pairD_of] at q
    exact q G H _ (.refl g.core.sub) g.core.bag .int
end
end ZL
end
section
set_option Elab.async false
set_option linter.all false
set_option maxRecDepth 100000
/-! LAYER: methods of an own instance. -/
namespace ZL
open PySem PySem.Spec PyProof.Rows L2 Z

def cutP (p : Addr) (G : Hp) : Hp := fun a => if a = p then none else G a
section
variable {K : PySem.W.Frag} {T : Tb} {G : Hp} {p : Addr} {C dx : Addr} {fs : List (Str × V)}
theorem cut_ne {a : Addr} (h : a ≠ p) : cutP p G a = G a := if_neg h
theorem cut_eq : cutP p G p = none := if_pos rfl
mutual
theorem rep_cut (hp : G p = some (.ins C dx fs)) : ∀ (d : D) (v : V), pln d = true → Rep K T G d v → Rep K T (cutP p G) d v
  | .non, v, _, h => by
    unfold Rep at h ⊢
    exact h
  | .bl _, v, _, h => by
    unfold Rep at h ⊢
    exact h
  | .int _, v, _, h => by
    unfold Rep at h ⊢
    exact h
  | .str _, v, _, h => by
    unfold Rep at h ⊢
    exact h
  | .lst xs, v, hl, h => by
    unfold Rep at h ⊢
    obtain ⟨a, vs, e, h1, h2⟩ := h
    simp only [pln] at hl
    refine ⟨a, vs, e, ?_, reps_cut hp xs vs hl h2⟩
    rw [cut_ne (by
      rintro rfl
      rw [hp] at h1
      cases h1)]
    exact h1
  | .tup xs, v, hl, h => by
    unfold Rep at h ⊢
    obtain ⟨a, vs, e, h1, h2⟩ := h
    simp only [pln] at hl
    refine ⟨a, vs, e, ?_, reps_cut hp xs vs hl h2⟩
    rcases h1 with (h1 | ⟨o, h1⟩) | h1
    · refine .inl (.inl ?_)
      rw [cut_ne (by
        rintro rfl
        rw [hp] at h1
        cases h1)]
      exact h1
    · refine .inl (.inr ⟨o, ?_⟩)
      rw [cut_ne (by
        rintro rfl
        rw [hp] at h1
        cases h1)]
      exact h1
    · exact .inr h1
  | .dct _, _, h, _ => by simp [pln] at h
  | .set _, _, h, _ => by simp [pln] at h
  | .ins _ _, _, h, _ => by simp [pln] at h
  | .ftp _, _, h, _ => by simp [pln] at h
  | .scr _, _, h, _ => by simp [pln] at h
theorem reps_cut (hp : G p = some (.ins C dx fs)) : ∀ (ds : List D) (vs : List V), plnL ds = true → Reps K T G ds vs → Reps K T (cutP p G) ds vs
  | [], vs, _, h => by
    unfold Reps at h ⊢
    exact h
  | d :: ds, vs, hl, h => by
    unfold Reps at h ⊢
    obtain ⟨v, r, e, h1, h2⟩ := h
    simp only [plnL, Bool.and_eq_true] at hl
    exact ⟨v, r, e, rep_cut hp d v hl.1 h1, reps_cut hp ds r hl.2 h2⟩
end
end
theorem pure_nox {α : Type} {f : List D → M D} {ds : List D} {k : D → M α} {P : α → Bag → Prop} {E : Nat → D → Bag → Prop} {b : Bag} (q : oW P E (M.bnd (M.nox (pureC f ds)) k b)) : ∃ d b', f ds ⟨0, 0, 0⟩ = .ok d b' ∧ oW P E (k d b) := by
  unfold M.bnd M.nox pureC at q
  cases e : f ds ⟨0, 0, 0⟩ with
  | no =>
    rw [e] at q
    exact q.elim
  | ex c x b1 =>
    rw [e] at q
    exact q.elim
  | ok d b1 =>
    rw [e] at q
    exact ⟨d, b1, rfl, q⟩
section
variable {T : Tb} {fl : List Flg} {W : XK} {X : Cx} {e o : Expr} {es : List Expr} {x : Str} {p pos apos : Pos} {k np c : Nat} {m : Str} {f : List D → M D} {as : List Z.Ex} {Fo' : Z.Ex}
theorem upd_sub {G : Hp} {a : Addr} {o : HO} (h : G a = none) : Sub G (upd G a o) := fun b u e => by
  rw [upd_ne (ne_of_none e h)]
  exact e
/-- an instance is frozen for a call -/
theorem Stp.cut {G H G1 H1 : Hp} {a : Addr} {o : HO} (ga : G a = none) (s : Stp [] (upd G a o) H G1 H1) : Stp [] G H (cutP a G1) H1 where
  g := fun b u e => by
    have ne := ne_of_none e ga
    rw [cut_ne ne]
    exact s.g b u (by rw [upd_ne ne]; exact e)
  i := fun b u e => by
    by_cases z : b = a
    · rw [z, cut_eq] at e
      cases e
    · rw [cut_ne z] at e
      exact s.i b u e
  h := s.h
  k := s.k
  n := fun b u e1 e2 => by
    by_cases z : b = a
    · rw [z, cut_eq] at e1
      cases e1
    · rw [cut_ne z] at e1
      exact s.n b u e1 (by rw [upd_ne z]; exact e2)
/-- o.m() of an own instance, that changes nothing and gives plain data -/
theorem de_methP {pl : Sem Bool} (mo : MetOk X.prog X.w X.K T X.mg X.base k c 1 m f) (hr : Room k X.A) (ho : PE X o (tB X.K T W fl Fo'))
    (ht : eval (.Call (.Attribute o m apos) [] [] pos) X.env = (do
      let ov ← eval o X.env
      standAt apos.atName
      let (f, first) ← holding [ov] (getMethod ov m pl)
      callWith pos f first (backTo pos (starEach [] X.env)) (backToKw pos (keywordEach [] X.env))) := by rfl) :
    PE X (.Call (.Attribute o m apos) [] [] pos) (tE X.K T W fl (xMethP c f Fo')) := by
  obtain ⟨fa, fd, ps, cl, hm, F, hb, nm⟩ := mo.ex
  refine PE.le (pe_meth0 (pl := pl) ho cl hm F hr hb (dvs := []) .nil (passF (X := X)) ht) fun σ H Q ⟨B, C, G0, H0, G, env, b, g, q⟩ => tB_then g q fun d b1 G1 H1 v s hb1 rd g1 q => ?_
  obtain ⟨ys, ed, q⟩ := q.bnd.opt
  have ed := insD_inv ed
  subst ed
  obtain ⟨r, b', er, q⟩ := pure_nox q
  by_cases hp : pln r = true
  · rw [if_pos hp] at q
    -- as data
    have asD : ∀ (a dx : Addr) (fs : List (Str × V)), v = .ref a → Rep X.K T G1 (.ins c ys) v → spM X.K T 1 false f [.ref a] H1 Q WF := fun a dx fs ev rd => by
      subst ev
      refine ⟨[], G1, [.ins c ys], [.ref a], ⟨0, 0, 0⟩, ⟨rfl, rfl⟩, rfl, s.i, fun a h => by simp at h, .one rd, ?_⟩
      rw [er]
      exact fun v' G' H' s' _ r' => q G' H' v' (s.trans s'.pure) (hb1.keep s') r'
    have go : ∀ (a dx : Addr) (fs : List (Str × V)), v = .ref a → H1 a = some (.ins (T.adr c) dx fs) → fs.map (·.1) = T.fld c → Reps X.K T G1 ys (fs.map (·.2)) → spM X.K T 1 false f [.ref a] H1 Q WF := fun a dx fs ev h1 h2 h3 => by
      cases eg : G1 a with
      | some o =>
        have := s.i a o eg
        rw [h1] at this
        cases this
        refine asD a dx fs ev ?_
        subst ev
        unfold Rep
        exact ⟨a, dx, fs, rfl, eg, h2, h3⟩
      | none =>
        subst ev
        have up : Sub G1 (upd G1 a (.ins (T.adr c) dx fs)) := upd_sub eg
        refine ⟨[], upd G1 a (.ins (T.adr c) dx fs), [.ins c ys], [.ref a], ⟨0, 0, 0⟩, ⟨rfl, rfl⟩, rfl, fun b u e => ?_, fun a h => by simp at h, .one ?_, ?_⟩
        · by_cases z : b = a
          · subst z
            rw [upd_same] at e
            cases e
            exact h1
          · rw [upd_ne z] at e
            exact s.i b u e
        · unfold Rep
          exact ⟨a, dx, fs, rfl, upd_same, h2, h3.mono up⟩
        · rw [er]
          exact fun v' G' H' s' _ r' => by
            have s2 := s'.cut eg
            exact q _ H' v' (s.trans s2.pure) (hb1.keep s2) (rep_cut (s'.g a _ upd_same) r v' hp r')
    rcases rd with rd | ⟨a, rfl, nb, dx, fs, h1, h2, h3⟩
    · have rd0 := rd
      unfold Rep at rd
      obtain ⟨a, dx, fs, rfl, h1, h2, h3⟩ := rd
      exact ⟨a, dx, fs, rfl, s.i _ _ h1, lookup_no h2 nm, asD a dx fs rfl rd0⟩
    · exact ⟨a, dx, fs, rfl, h1, lookup_no h2 nm, go a dx fs rfl h1 h2 h3⟩
  · rw [if_neg hp] at q
    exact q.elim
end
end ZL
end
section
set_option Elab.async false
set_option linter.all false
set_option maxRecDepth 100000
/-! LAYER: defs that give a new pair. -/
namespace ZL
open PySem PySem.Spec PyProof.Rows L2 Z

def tSP (K : PySem.W.Frag) (T : Tb) (W : XK) (kp : List Nat) (fl : List Flg) (S : Z.Sm) : TS := fun Dd σ H => ∃ B C G0 H0 G env b, Good K T fl B C G0 H0 G H σ env b ∧ oW (fun f b' => match f with
  | .rt d => ∀ t p G' H', Core B C G0 H0 G' H' b' → H0 t = none → G' t = none → H0 p = none → G' p = none → Pr K T G' H' d t p → Dd.rt (.ref t) H'
  | _ => False) (XOk K T W B C G0 H0) (S env b)
section
variable {K : PySem.W.Frag} {T : Tb} {kp : List Nat} {fl : List Flg} {W : XK} {X : Cx} {e1 e2 : Expr} {Fa Fb : Z.Ex} {S R : Z.Sm} {st : Stmt} {rest : List Stmt} {pos tp : Pos}
theorem dssP_ret {tk : Nat} (h1 : PE X e1 (tF K T W fl Fa)) (h2 : PE X e2 (tE K T W fl Fb)) (hs : starEach [e1, e2] X.env = (false, eval e1 X.env) :: starEach [e2] X.env := by rfl) (hs2 : starEach [e2] X.env = (false, eval e2 X.env) :: starEach [] X.env := by rfl) :
    PSs X [.Return (some (.Tuple [e1, e2] tk tp)) pos] (tSP K T W kp fl (sRet (xPair Fa Fb))) :=
  PSs.le (pss_one (ps_ret (pe_tup (pos := tp) (pa_cons h1 (pa_cons h2 pa_nil hs2) hs)))) fun Dd σ H ⟨B, C, G0, H0, G, env, b, g, q⟩ => by
    have q := q.bnd.bnd
    refine ⟨B, C, G0, H0, G, env, b, g, q.imp fun d b1 q G1 H1 p s hb hp gp ro => ?_⟩
    obtain ⟨pr, ed, q⟩ := q.bnd.opt
    have ed := insA_inv ed
    subst ed
    have g1 := g.step s hb
    refine tE_then g1 q fun d2 b2 G2 H2 v s2 hb2 r2 g2 q => ⟨by rw [sizeLine_eq]; exact Nat.succ_le_succ (Nat.succ_le_succ (Nat.zero_le _)), fun t ht => ?_⟩
    obtain ⟨dx, fs, h1, h2, h3⟩ := ro.step s2 (fun m => by
      rw [(g.core.bag p m).1] at hp
      cases hp)
    have np : t ≠ p := by
      rintro rfl
      rw [h1] at ht
      cases ht
    have st : Stp [] G2 H2 G2 (upd H2 t (.tup [.ref p, v])) := Stp.laid s2.i ht
    have g3 := g2.step st.pure (hb2.keep st)
    have h0 : ∀ a, H a = none → H0 a = none := fun a e => g.core.stp.back e
    have hp1 : ∃ o, H1 p = some o := by
      obtain ⟨o, ho, _⟩ := ro.there
      exact ⟨o, ho⟩
    obtain ⟨ob, hob⟩ := hp1
    refine q t p G2 _ g3.core (h0 t (s.back (s2.back ht))) (s2.i.free ht) (h0 p hp) (s2.own_free gp hob) ⟨dx, _, fs, _, v, d2, rfl, upd_same, by rw [upd_ne (Ne.symm np)]; exact h1, h2, h3, r2, np⟩
theorem dssP_cons {fm : List Flg} (h1 : PS X st (tS K T W kp fl ⟨fm, [], []⟩ S)) (h2 : PSs X rest (tSP K T W kp fm R)) : PSs X (st :: rest) (tSP K T W kp fl (sAndF S R)) :=
  PSs.le (pss_cons h1 h2) fun Dd σ H ⟨B, C, G0, H0, G, env, b, g, q⟩ => ⟨B, C, G0, H0, G, env, b, g, q.bnd.imp fun f b1 q => by
    cases f with
    | nx env1 => exact fun σ' G' H' g' s' k' => ⟨B, C, G0, H0, G', env1, b1, g', q⟩
    | rt d => exact q.elim
    | bk env1 => exact q.elim
    | ct env1 => exact q.elim⟩
end
def spP (K : PySem.W.Frag) (T : Tb) (np : Nat) (f : List D → M D) : Sp := fun vs H Q E => ∃ (G : Hp) (ds : List D) (b : Bag), ds.length = np ∧ Sub G H ∧ Reps K T G ds vs ∧
  oW (fun d b' => ∀ t p G' H', Stp [] G H G' H' → H t = none → G' t = none → H p = none → G' p = none → Pr K T G' H' d t p → Q (.ref t) H') (fun c x b' => ∀ G' H' cls dd, Core [] [] G H G' H' b' → ExcAt K T G' H' c x cls dd → E cls dd H') (f ds b)
section
variable {K : PySem.W.Frag} {T : Tb} {P : Program} {w : World} {mg : Str → Option Value} {base : Heap}
theorem def_okP {x qual : Str} {params : Arguments} {body : List Stmt} {scope : Scope} {dvs : List V} {kws : List (Str × V)} {f : Addr} {fd : FuncData} {N ps : List Str} {k np n : Nat} {S : Z.Sm} (F : FunD K x qual params body scope dvs kws f fd) (Sc : FnScope N ps scope)
    (hn : N.length = n) (hp : ps.length = np) (hnp : np ≤ n)
    (hbody : ∀ (cdv : Value) (A : Around) (outer : List Env) (s : Shared) (H : Hp) (E : XK), Room k (A.deeper (envOfC qual scope s.heap.objs.size f cdv)) → PSs (cxOf (CX P w) P w K mg base N qual scope f cdv A outer s H E) body (tSP K T E [] (fl0 false np) S)) :
    FnOk P w K mg base (CX P w) (k + 1) f fd ps (spP K T np (runF n S)) := by
  refine F.ok Sc (fun vs H Q E ⟨G, ds, b, hl, _, r, _⟩ => by rw [r.length, hl, hp]) fun cdv A outer s H vs Q E hr h => ⟨_, hbody cdv A outer s H E hr, ?_⟩
  obtain ⟨G, ds, b, hl, sb, r, q⟩ := h
  unfold runF at q
  rw [hl] at q
  refine ⟨[], [], G, H, G, _, b, good_start hn hl (by omega) sb r, q.bnd.mono (fun f' b1 q => ?_) fun c x b1 q => q⟩
  cases f' with
  | nx env1 => exact q.elim
  | rt d => exact fun t p G' H' c h1 h2 h3 h4 pr => q t p G' H' c.stp h1 h2 h3 h4 pr
  | bk env1 => exact q.elim
  | ct env1 => exact q.elim
end
structure CalOkP (P : Program) (w : World) (K : PySem.W.Frag) (T : Tb) (mg : Str → Option Value) (base : Heap) (x : Str) (k np : Nat) (dds : List D) (f : List D → M D) : Prop where
  ex : ∃ (fa : Addr) (fd : FuncData) (ps : List Str) (ds : List Value) (dvs : List V), FnOk P w K mg base (CX P w) k fa fd ps (spP K T np f) ∧ mg x = some (.ref fa) ∧ PySem.W.keepIn K (.ref fa) = true ∧ Binds K fd ps ds ∧ Vals dvs ds ∧ ∀ G, Reps K T G dds dvs
section
variable {T : Tb} {fl : List Flg} {W : XK} {X : Cx} {e : Expr} {es : List Expr} {x : Str} {p pos : Pos} {k np : Nat} {dds : List D} {f : List D → M D} {as : List Z.Ex}
theorem dp_callP (o : CalOkP X.prog X.w X.K T X.mg X.base x k np dds f) (hr : Room k X.A) (hg : Gl X x) (hx : Passes (CX X.prog X.w) X W) (ha : PA X (e :: es) (tAs X.K T W fl (xL as))) (hn : as.length + dds.length = np := by rfl)
    (hdb : (x == ("__debug__" : Str)) = false := by decide) (he : starEach (e :: es) X.env = (false, eval e X.env) :: starEach es X.env := by rfl) (hpl : (backTo pos (starEach es X.env)).any (·.1) = false := by rfl) :
    PE X (.Call (.Name x p) (e :: es) [] pos) (tP X.K T W fl (xQ f (xApp (xL as) dds))) := by
  obtain ⟨fa, fd, ps, dsv, dvs, F, hm, hk, hb, hd, hdd⟩ := o.ex
  refine PE.le (pe_call F hr hg hm hk hb hd hx ha hdb he hpl) fun σ H Q ⟨B, C, G0, H0, G, env, b, g, q⟩ => ?_
  have q2 := q.bnd.bnd
  refine ⟨B, C, G0, H0, G, env, b, g, (oW_len q2).imp fun ds b1 ⟨hl, q⟩ G1 H1 vs s hb r => ?_⟩
  have g1 := g.step s hb
  have q : oW (fun d b' => ∀ G' H' t p, Stp B G H G' H' → BagAt B H' b' → H t = none → G' t = none → H p = none → G' p = none → Pr X.K T G' H' d t p → Q (.ref t) H') (XOk X.K T W B C G0 H0) (pureC f (ds ++ dds) b1) := q
  refine ⟨G1, ds ++ dds, ⟨0, 0, 0⟩, by rw [List.length_append, hl, hn], g1.core.sub, r.append (hdd G1), ?_⟩
  unfold pureC at q
  cases e : f (ds ++ dds) ⟨0, 0, 0⟩ with
  | no =>
    rw [e] at q
    exact q
  | ok d b' =>
    rw [e] at q
    exact fun t p G' H' s' ht gt hp gp pr => q G' H' t p (s.trans s'.pure) (hb.keep s') (s.back ht) gt (s.back hp) gp pr
  | ex c y b' =>
    rw [e] at q
    exact fun G' H' cls dd c' ex => q G' H' cls dd (g1.core.step c'.stp.pure (g1.core.bag.keep c'.stp)) ex
end
end ZL
end
section
set_option Elab.async false
set_option linter.all false
set_option maxRecDepth 100000
/-! LAYER: a method that changes its instance and gives True. -/
namespace ZL
open PySem PySem.Spec PyProof.Rows L2 Z

/-- S, then return True: the instance in slot 0 behind -/
def tSU (K : PySem.W.Frag) (T : Tb) (W : XK) (fl flx : List Flg) (S : Z.Sm) : TS := fun Dd σ H => ∃ B C G0 H0 G env b, Good K T fl B C G0 H0 G H σ env b ∧ oW (fun f b' => match f with
  | .nx env' => ∀ σ' G' H', Good K T flx B C G0 H0 G' H' σ' env' b' → Kept [0] σ σ' → Dd.rt (.bl true) H'
  | _ => False) (XOk K T W B C G0 H0) (S env b)
section
variable {K : PySem.W.Frag} {T : Tb} {fl flx : List Flg} {W : XK} {X : Cx} {S R : Z.Sm} {st : Stmt} {rest : List Stmt} {pos cp : Pos} {j : Nat}
theorem dssU_ret : PSs X [.Return (some (.Constant (.bool true) j cp)) pos] (tSU K T W fl fl sPass) :=
  PSs.le (pss_one (ps_ret pe_bl)) fun Dd σ H ⟨B, C, G0, H0, G, env, b, g, q⟩ => q σ G H g .refl
theorem dssU_cons {fm : List Flg} (h1 : PS X st (tS K T W [0] fl ⟨fm, [], []⟩ S)) (h2 : PSs X rest (tSU K T W fm flx R)) : PSs X (st :: rest) (tSU K T W fl flx (sAndF S R)) :=
  PSs.le (pss_cons h1 h2) fun Dd σ H ⟨B, C, G0, H0, G, env, b, g, q⟩ => by
    refine ⟨B, C, G0, H0, G, env, b, g, q.bnd.imp fun f b1 q => ?_⟩
    cases f with
    | nx env1 =>
      intro σ' G' H' g' s' k'
      refine ⟨B, C, G0, H0, G', env1, b1, g', q.imp fun f2 b2 q2 => ?_⟩
      cases f2 with
      | nx env2 => exact fun σ2 G2 H2 g2 k2 => q2 σ2 G2 H2 g2 (k'.trans k2)
      | rt d => exact q2
      | bk _ => exact q2
      | ct _ => exact q2
    | rt d => exact q.elim
    | bk env1 => exact q.elim
    | ct env1 => exact q.elim
end
/-- what such a method promises -/
def spU (K : PySem.W.Frag) (T : Tb) (c np : Nat) (f : List D → M D) : Sp := fun vs H Q E => ∃ (p dx : Addr) (fs : List (Str × V)) (xs : List D) (G : Hp) (ds : List D) (vs' : List V) (b : Bag), vs = .ref p :: vs' ∧ H p = some (.ins (T.adr c) dx fs) ∧ fs.map (·.1) = T.fld c ∧ Sub G H ∧ G p = none ∧ Reps K T G xs (fs.map (·.2)) ∧ ds.length = np ∧ Reps K T G ds vs' ∧
  oW (fun d b' => ∀ G' H' dx' fs' xs', d = .ins c xs' → Stp [p] G H G' H' → G' p = none → H' p = some (.ins (T.adr c) dx' fs') → fs'.map (·.1) = T.fld c → Reps K T G' xs' (fs'.map (·.2)) → Q (.bl true) H') (fun _ _ _ => False) (f (.ins c xs :: ds) b)
section
variable {K : PySem.W.Frag} {T : Tb} {P : Program} {w : World} {mg : Str → Option Value} {base : Heap}
theorem good_startU {N : List Str} {np n c : Nat} {p dx : Addr} {fs : List (Str × V)} {xs : List D} {G H : Hp} {ds : List D} {vs : List V} {b : Bag} (hn : N.length = n) (hl : ds.length = np) (hnp : 1 + np ≤ n) (s : Sub G H) (gp : G p = none) (hp : H p = some (.ins (T.adr c) dx fs)) (hf : fs.map (·.1) = T.fld c) (rx : Reps K T G xs (fs.map (·.2))) (r : Reps K T G ds vs) :
    Good K T (.oi :: List.replicate np .dat) [] [] G (cutP p H) G H (L2.start N (.ref p :: vs)) (.ins c xs :: (ds ++ List.replicate (n - (1 + np)) .non)) b := by
  have up : Sub (cutP p H) H := fun a o e => by
    by_cases z : a = p
    · rw [z, cut_eq] at e
      cases e
    · rw [cut_ne z] at e
      exact e
  refine ⟨⟨⟨Sub.refl G, s, fun a o e _ => up a o e, fun a o e => ⟨o, up a o e⟩, fun a o e1 e2 => ?_⟩, fun a h => by simp at h, fun a h => by simp at h, fun a h => by simp at h⟩, ?_, fun i => if i = 0 then [p] else [], fun i => ?_, fun i q h => ?_, fun i j q h h' => ?_⟩
  · rw [e1] at e2
    cases e2
  · unfold L2.start
    simp only [List.length_append, List.length_map, List.length_cons, List.length_replicate, r.length, hl, hn]
    omega
  · cases i with
    | zero =>
      refine ⟨p, c, dx, fs, xs, rfl, rfl, hp, ?_, rx, rfl⟩
      have := congrArg List.length hf
      rw [List.length_map] at this
      rw [this, List.take_length]
      exact hf
    | succ i =>
      show SlotOk K T [] G _ ((List.replicate np Flg.dat).getD i .un) (L2.start N (.ref p :: vs))[i + 1]? ((ds ++ List.replicate (n - (1 + np)) D.non).getD i .non) []
      by_cases hi : i < np
      · have e1 : (List.replicate np Flg.dat).getD i .un = .dat := by simp [List.getD_eq_getElem?_getD, List.getElem?_replicate, hi]
        rw [e1]
        have hd : i < ds.length := by omega
        obtain ⟨v, e2, e3⟩ := r.get (List.getElem?_eq_getElem hd)
        refine ⟨rfl, v, ?_, ?_⟩
        · unfold L2.start
          rw [List.getElem?_append_left (by rw [List.length_map, List.length_cons, r.length]; omega), List.getElem?_map, List.getElem?_cons_succ, e2]
          rfl
        · have e4 : (ds ++ List.replicate (n - (1 + np)) D.non).getD i .non = ds[i] := by
            simp [List.getD_eq_getElem?_getD, List.getElem?_append_left hd, hd]
          rw [e4]
          exact e3
      · have e1 : (List.replicate np Flg.dat).getD i .un = .un := getD_out (by rw [List.length_replicate]; omega)
        rw [e1]
        rfl
  · by_cases z : i = 0
    · simp only [if_pos z] at h
      rw [List.mem_singleton.mp h]
      exact ⟨gp, cut_eq⟩
    · simp only [if_neg z] at h
      cases h
  · by_cases z : i = 0
    · by_cases z' : j = 0
      · rw [z, z']
      · simp only [if_neg z'] at h'
        cases h'
    · simp only [if_neg z] at h
      cases h
theorem stp_uncut {G H G1 H1 : Hp} {p : Addr} (s : Stp [] G (cutP p H) G1 H1) (h : ∃ o, H1 p = some o) (g1 : G1 p = none) : Stp [p] G H G1 H1 where
  g := s.g
  i := s.i
  h := fun a o e n => s.h a o (by rw [cut_ne (by simpa using n)]; exact e) (by simp)
  k := fun a o e => by
    by_cases z : a = p
    · rw [z]
      exact h
    · exact s.k a o (by rw [cut_ne z]; exact e)
  n := fun a o e1 e2 => by
    have ne : a ≠ p := by
      rintro rfl
      rw [g1] at e1
      cases e1
    have := s.n a o e1 e2
    rw [cut_ne ne] at this
    exact this
theorem def_okU {y qual : Str} {params : Arguments} {body : List Stmt} {scope : Scope} {dvs : List V} {kws : List (Str × V)} {f : Addr} {fd : FuncData} {N ps : List Str} {k np n c nf : Nat} {S : Z.Sm} {flx : List Flg} (F : FunD K y qual params body scope dvs kws f fd) (Sc : FnScope N ps scope)
    (hn : N.length = n) (hp : ps.length = 1 + np) (hnp : 1 + np ≤ n) (hnf : (T.fld c).length = nf) (hfl : flx.getD 0 .un = .oi)
    (hbody : ∀ (cdv : Value) (A : Around) (outer : List Env) (s : Shared) (H : Hp) (E : XK), Room k (A.deeper (envOfC qual scope s.heap.objs.size f cdv)) → PSs (cxOf (CX P w) P w K mg base N qual scope f cdv A outer s H E) body (tSU K T E (.oi :: List.replicate np .dat) flx S)) :
    FnOk P w K mg base (CX P w) (k + 1) f fd ps (spU K T c np (runU c nf n S)) := by
  refine F.ok Sc (fun vs H Q E ⟨p, dx, fs, xs, G, ds, vs', b, e, _, _, _, _, _, hl, r, _⟩ => by rw [e, List.length_cons, r.length, hl, hp, Nat.add_comm]) fun cdv A outer s H vs Q E hr h => ⟨_, hbody cdv A outer s H E hr, ?_⟩
  obtain ⟨p, dx, fs, xs, G, ds, vs', b, rfl, hp, hf, sb, gp, rx, hl, r, q⟩ := h
  unfold runU at q
  rw [List.length_cons, hl, show n - (np + 1) = n - (1 + np) by omega, List.cons_append] at q
  refine ⟨[], [], G, cutP p H, G, _, b, good_startU hn hl hnp sb gp hp hf rx r, q.bnd.mono (fun f' b1 q => ?_) fun c x b1 q => q.elim⟩
  cases f' with
  | nx env1 =>
    intro σ' G' H' g' kk
    obtain ⟨p', c', dx', fs', xs', e1, e2, e3, e4, e5, gp', _⟩ := g'.oi hfl
    have ep := kk 0 (List.mem_singleton.mpr rfl)
    rw [e1] at ep
    have : p' = p := by
      have h0 : (L2.start N (V.ref p :: vs'))[0]? = some (some (.ref p)) := rfl
      rw [h0] at ep
      cases ep
      rfl
    subst this
    simp only [e2] at q
    by_cases hk : c' = c ∧ xs'.length = nf
    · rw [if_pos hk] at q
      obtain ⟨rfl, hlen⟩ := hk
      have lf : fs'.length = xs'.length := by
        have := e5.length
        rwa [List.length_map] at this
      refine q G' H' dx' fs' xs' rfl (stp_uncut g'.core.stp ⟨_, e3⟩ gp') gp' e3 ?_ e5
      rw [e4, List.take_of_length_le (by omega)]
    · rw [if_neg hk] at q
      exact q.elim
  | rt d => exact q.elim
  | bk env1 => exact q.elim
  | ct env1 => exact q.elim
end
end ZL
end
section
set_option Elab.async false
set_option linter.all false
set_option maxRecDepth 100000
/-! LAYER: both[0].put(..). -/
namespace ZL
open PySem PySem.Spec PyProof.Rows L2 Z

structure PutOk (P : Program) (w : World) (K : PySem.W.Frag) (T : Tb) (mg : Str → Option Value) (base : Heap) (k c np : Nat) (m : Str) (f : List D → M D) : Prop where
  ex : ∃ (fa : Addr) (fd : FuncData) (ps : List Str), Cls K (T.adr c) ∧ Meth K (T.adr c) m fa ∧ FnOk P w K mg base (CX P w) k fa fd ps (spU K T c np f) ∧ Binds K fd ps [] ∧ m ∉ T.fld c
section
variable {T : Tb} {kp : List Nat} {fl : List Flg} {W : XK} {X : Cx} {e : Expr} {es : List Expr} {x : Str} {pos cpos apos p1 cp sp : Pos} {k np c i : Nat} {m : Str} {f : List D → M D} {as : List Z.Ex}
theorem ds_put {pl : Sem Bool} {bk ct : List Flg} (mo : PutOk X.prog X.w X.K T X.mg X.base k c np m f) (hr : Room k X.A) (hf : fl.getD i .un = .og) (hl : i < fl.length) (hv : PE X (.Name x p1) (tVar i)) (ha : PA X (e :: es) (tAs X.K T W fl (xL as))) (hn : as.length = np := by rfl)
    (hst : starEach (e :: es) X.env = (false, eval e X.env) :: starEach es X.env := by rfl) (hpl : (backTo cpos (starEach es X.env)).any (·.1) = false := by rfl)
    (ht : eval (.Call (.Attribute (.Subscript (.Name x p1) (.Constant (.int 0) 0 cp) sp) m apos) (e :: es) [] cpos) X.env = (do
      let ov ← eval (.Subscript (.Name x p1) (.Constant (.int 0) 0 cp) sp) X.env
      standAt apos.atName
      let (f, first) ← holding [ov] (getMethod ov m pl)
      callWith cpos f first (backTo cpos (starEach (e :: es) X.env)) (backToKw cpos (keywordEach [] X.env))) := by rfl)
    (hsw : swapsWith (.Call (.Attribute (.Subscript (.Name x p1) (.Constant (.int 0) 0 cp) sp) m apos) (e :: es) [] cpos) none pos.line X.env = pure false := by rfl) :
    PS X (.Expr (.Call (.Attribute (.Subscript (.Name x p1) (.Constant (.int 0) 0 cp) sp) m apos) (e :: es) [] cpos) pos) (tS X.K T W kp fl ⟨fl, bk, ct⟩ (sPut i c f (xL as))) := by
  obtain ⟨fa, fd, ps, cl, hm, F, hb, nm⟩ := mo.ex
  refine PS.le (ps_expr (pe_meth (pl := pl) (pe_ix (pos := sp) ix_tup hv (pe_int (j := 0) (pos := cp)) (by intro _ _; rfl)) cl hm F hr hb (dvs := []) .nil (passF (X := X)) ha hst hpl ht) hsw) fun Dd σ H ⟨B, C, G0, H0, G, env, b, g, q⟩ => ?_
  obtain ⟨t, p, dx, c0, fs, xs, v, d2, e1, e2, e3, e4, e5, e6, e7, ne, gt, gp, ht0, hp0, _⟩ := g.og hf
  obtain ⟨pr, ep, q⟩ := q.bnd.opt
  have ep := pairC_inv ep
  rw [e2] at ep
  injection ep with ep
  injection ep with ep1 ep2
  injection ep1 with ep1 ep3
  injection ep2 with ep2 _
  have q2 := oW_len q.bnd
  subst ep1
  · refine ⟨.ref t, e1, t, [.ref p, v], 0, .ref p, rfl, rfl, SqT.of e3, rfl, p, dx, fs, rfl, e4, lookup_no e5 nm, ?_⟩
    refine ⟨B, C, G0, H0, G, env, b, g, q2.imp fun ds b1 ⟨hlen, q⟩ G1 H1 vs s hb1 r => ?_⟩
    have g1 := g.step s hb1
    obtain ⟨t', p', dx', c', fs', xs', v', d2', a1, a2, a3, a4, a5, a6, a7, ne', gt', gp', ht0', hp0', only⟩ := g1.og hf
    rw [e1] at a1
    cases a1
    have z := s.h t _ e3 (g.core.own_ne ht0)
    rw [a3] at z
    cases z
    have z2 := s.h p _ e4 (g.core.own_ne hp0)
    rw [a4] at z2
    rw [a2] at e2
    cases e2
    rw [← ep2, ← ep3] at q
    obtain ⟨rd, b', er, q⟩ := pure_nox q
    have hi : i < env.length := by
      rw [← g1.len]
      exact (List.getElem?_eq_some_iff.mp e1).1
    show spU X.K T c0 np f (.ref p :: (vs ++ [])) H1 _ WF
    rw [List.append_nil]
    refine ⟨p, dx', fs', xs, G1, ds, vs, ⟨0, 0, 0⟩, rfl, a4, a5, s.i, gp', a6, by rw [hlen]; exact hn, r, ?_⟩
    rw [er]
    intro G2 H2 dx2 fs2 xs2 ed s2 g2 h2 n2 r2
    subst ed
    have hb2 : BagAt B H2 b1 := fun a ha => ⟨s2.h a _ (hb1 a ha).1 (by
      simp only [List.mem_singleton]
      rintro rfl
      exact g.core.own_ne hp0 ha), (hb1 a ha).2⟩
    have ht2 : H2 t = some (.tup [.ref p, v]) := s2.h t _ a3 (by simpa using ne)
    have gt2 : G2 t = none := by
      cases e : G2 t with
      | none => rfl
      | some o =>
        have := s2.n t o e gt'
        rw [a3] at this
        cases this
    have gg := g1.swap (i := i) (f := .og) (d := .tup [.ins c0 xs2, d2]) (fp' := [t, p]) (b1 := b1) (G1 := G2) (H1 := H2) (σ1 := σ) hb2 s2.g s2.i hi hl rfl (fun _ _ => rfl) [t, p] only
      (fun a o e n _ => s2.h a o e (by
        simp only [List.mem_singleton]
        rintro rfl
        exact n (by simp))) (fun a ha => by
        rcases List.mem_cons.mp ha with z | z
        · rw [z]
          exact ⟨_, ht2⟩
        · rw [List.mem_singleton.mp z]
          exact ⟨_, h2⟩)
      ⟨t, p, dx2, c0, fs2, xs2, v, d2, e1, rfl, ht2, h2, n2, r2, a7.mono s2.g, ne, rfl⟩ (fun a ha => by
        rcases List.mem_cons.mp ha with z | z
        · rw [z]
          exact ⟨gt2, .inl (by simp)⟩
        · rw [List.mem_singleton.mp z]
          exact ⟨g2, .inl (by simp)⟩) (fun a o e1 e2 => .inr (s2.n a o e1 e2))
    have ef : fl.set i .og = fl := by
      rw [← hf]
      exact set_getD hl
    rw [ef] at gg
    exact q σ G2 H2 gg (s.g.trans s2.g) .refl
end
end ZL
end
section
set_option Elab.async false
set_option linter.all false
set_option maxRecDepth 100000
/-! LAYER: set(a tuple). -/
namespace ZL
open PySem PySem.Spec PyProof.Rows L2 Z

section
variable {P : Program} {w : World} {A : Around} {E : Value → Shared → Prop} {s : Shared}
set_option maxHeartbeats 3200000 in
/-- set(a tuple) -/
theorem md_setT (m : Md P w) {l : Addr} {items : Array Value} (ks : List (Value × D)) {Q : Value → Shared → Prop} (hh : A.handled = none) (hl : s.heap.IsTuple l items) (hit : items.toList = ks.map (·.1))
    (hk : ∀ p ∈ ks, m.Is s.heap p.2 p.1) (hm : (pile [] ks).length + 1 < m.most) (hu : A.units + 3 < cLine)
    (h : ∀ (h' : Heap) (tk : Nat) (L : List (Value × D)), SetV w h' s.heap.objs.size (L.map (·.1)) → L.Perm (pile [] ks) → (∀ b o, s.heap.get? b = some o → h'.get? b = some o) → Q (.ref s.heap.objs.size) { s with heap := h', toks := tk }) :
    wpAny (model P w) A (call (.type "set") [.ref l]) Q E s := by
  have isz : items.size = ks.length := by
    have q := congrArg List.length hit
    rw [Array.length_toList, List.length_map] at q
    exact q
  obtain ⟨c, tl, mro⟩ := F.called_set.mro
  have made := F.called_set.made
  have under := F.called_set.sub
  refine wpAny_call (codeAny_of_tree ?_)
  show wpAny _ _ (callAny (.type "set") _) _ _ _
  refine wpAny_pure ⟨Code.quiet_builtin _ (by decide +kernel), codeAny_builtin F.entry_type_call ?_⟩
  rw [Around.under_plain (weight_type_call_type "set" [.ref l] []) rfl]
  have f1 := F.called_set.notType
  have f2 := F.called_set.canCreate
  have f3 := F.typeCall_set_1 (.ref l)
  repeat (any_goals (first | assumption | wp_step))
  refine codeAny_mono (code_set_led1 (.ref l) (E := E) (Q₁ := fun obj s₁ => obj = .ref s.heap.objs.size ∧ s₁ = { s with heap := s.heap.push (newSetO w) }) ⟨rfl, rfl⟩) fun r s₁ hr => ?_
  cases r with
  | error e => exact hr
  | ok fl =>
    cases fl with
    | ret obj =>
      obtain ⟨rfl, rfl⟩ := hr
      have oS : (s.heap.push (newSetO w)).get? s.heap.objs.size = some (newSetO w) := Heap.get?_push_size _ rfl
      have tS : Shared.TypeIs { s with heap := s.heap.push (newSetO w) } (.ref s.heap.objs.size) "set" := ⟨_, oS, rfl⟩
      have il := F.called_set.init.lookup
      have ib := F.called_set.init.bind (.ref s.heap.objs.size)
      repeat (any_goals (first | assumption | wp_step))
      refine codeAny_mono (codeAny_call_builtin (R := wants (fun r s₂ => r = .none ∧ ∃ h' tk L, s₂ = { s with heap := h', toks := tk } ∧ m.Inv h' s.heap.objs.size L ∧ L.Perm (pile [] ks) ∧
          (∀ b o, s.heap.get? b = some o → h'.get? b = some o)) E) F.called_set.init.plain F.entry_set_init (check_set_init_1 tS ?_)) fun r₂ s₂ hr₂ => ?_
      · obtain ⟨ol, hol, hcl, nl, hdl⟩ := hl
        obtain ⟨ocls, odict, odata, oslots⟩ := ol
        simp only at hcl hdl
        subst hcl hdl
        have oL : (s.heap.push (newSetO w)).get? l = some { cls := .type "tuple", dict := odict, data := .seq items nl, slots := oslots } := Heap.get?_push_of_some _ hol
        have sub1 := F.sub_tuple_set
        have sub2 := F.sub_tuple_frozenset
        have nd : (Value.type "tuple" == Value.type "dict") = false := by decide
        have iL : (s.heap.push (newSetO w)).IsTuple l items := ⟨_, oL, rfl, nl, rfl⟩
        unfold Builtin.«set.__init__» noKeywords Builtin.Frozenset.updateFrom
        generalize hPI : pyIter = PI
        wp_walk
        subst hPI
        refine wpAny_pyIter_tuple iL ?_
        refine wpAny_bind (wpAny_runValue ?_)
        have ltl : l < s.heap.objs.size := Heap.lt_size hol
        have h3 : A.in1.in1.in1.handled = none := by simp [hh]
        have neI : l ≠ (s.heap.push (newSetO w)).objs.size := by
          rw [Heap.size_push]
          exact Nat.ne_of_lt (Nat.lt_succ_of_lt ltl)
        have nSf : s.heap.objs.size ∉ [(s.heap.push (newSetO w)).objs.size, l] := by
          rw [Heap.size_push]
          simp only [List.mem_cons, List.not_mem_nil, or_false, not_or]
          exact ⟨Nat.ne_of_lt (Nat.lt_succ_self _), Nat.ne_of_gt ltl⟩
        have at_i : ∀ (i : Nat) (v : Value), items[i]? = some v → ∃ p, ks[i]? = some p ∧ v = p.1 := fun i v e => by
          have q : items.toList[i]? = some v := (Array.getElem?_toList ..).trans e
          rw [hit, List.getElem?_map] at q
          cases z : ks[i]? with
          | none =>
            rw [z] at q
            cases q
          | some p =>
            rw [z] at q
            exact ⟨p, rfl, (Option.some.inj q).symm⟩
        have none_at : ∀ b, s.heap.objs.size ≤ b → s.heap.get? b = none := fun b hb => by
          cases q : s.heap.get? b with
          | none => rfl
          | some o => exact absurd (Nat.lt_of_lt_of_le (Heap.lt_size q) hb) (Nat.lt_irrefl _)
        refine md_loop m ((Walks.tuple h3 _ l neI items).toS) s.heap.objs.size nSf ks isz hm at_i s.heap hk (none_at _ (Nat.le_refl _)) (fun b hb => none_at b (by
            rw [List.mem_singleton.mp hb, Heap.size_push]
            exact Nat.le_succ _)) hu (items.size - 0) 0 _ (by omega) (Nat.zero_le _)
          ⟨⟨_, Heap.get?_push_size _ rfl, rfl, rfl⟩, (iL.push _)⟩ (fun b o e => Heap.get?_push_of_some _ (Heap.get?_push_of_some _ e)) ⟨[], m.fresh (Heap.get?_push_of_some _ oS), .refl _⟩ fun s' L mv iv pm kp => ?_
        obtain ⟨h', g2, d', tk', os'⟩ := s'
        have e1 : g2 = s.gens := mv.gens
        have e2 : d' = s.drawn := mv.drawn
        have e3 : os' = s.os := mv.os
        subst e1 e2 e3
        show wpAny _ _ _ _ _ _
        refine wpAny_pure ?_
        show wpAny _ _ (ret Value.none) _ _ _
        exact wpAny_pure ⟨rfl, h', tk', L, rfl, iv, pm, kp⟩
      · cases r₂ with
        | error e => exact hr₂
        | ok fl₂ =>
          cases fl₂ with
          | ret r =>
            obtain ⟨rfl, h', tk, L, rfl, iv, pm, kp⟩ := hr₂
            repeat (any_goals (first | assumption | wp_step))
            exact h _ _ _ (m.done iv) pm kp
          | _ => exact hr₂.elim
    | _ => exact hr.elim
end
section
variable {X : Cx}
def rSetDT (K : PySem.W.Frag) (w : World) : List V → Hp → VK → Prop := fun xs H Q => ∃ (l : Addr) (ks : List (V × D)), xs = [.ref l] ∧ SqT K H l (ks.map (·.1)) ∧
  (((∀ p ∈ ks, ScV p) ∧ (pile [] ks).length + 1 < scanBound) ∨ ((∀ p ∈ ks, TpV K H p) ∧ (pile [] ks).length + 1 < 64)) ∧ ∀ a, H a = none → Q (.ref a) (upd H a (SetO w a ((pile [] ks).map (·.1))))
theorem cr_setDT (hc : X.calm = true) (hu : X.A.units + 70 < cLine) : CallR X (.type "set") (rSetDT X.K X.w) := by
  intro pins s σ H xs us Q I r h
  obtain ⟨l, ks, rfl, hl, hm, q⟩ := h
  rw [Vals.ref1 r]
  obtain ⟨its, rv, pl, hz⟩ := I.tuple hl
  have hn : H s.heap.objs.size = none := I.hok.fresh (Nat.le_refl _)
  obtain ⟨k3, e1, e2, e3⟩ := three_of rv
  have eU : (k3.map fun q => (q.1.2, q.2)).map (·.1) = its := by
    rw [List.map_map]
    exact e2
  have pV : pile [] ks = (pile [] k3).map fun q => (q.1.1, q.2) := by rw [← e1]; exact pile_map (fun q : V × Value => q.1) k3 []
  have pU : pile [] (k3.map fun q => (q.1.2, q.2)) = (pile [] k3).map fun q => (q.1.2, q.2) := pile_map (fun q : V × Value => q.2) k3 []
  have lenU : (pile [] (k3.map fun q => (q.1.2, q.2))).length = (pile [] ks).length := by rw [pU, pV, List.length_map, List.length_map]
  have rel : Vals ((pile [] ks).map (·.1)) ((pile [] (k3.map fun q => (q.1.2, q.2))).map (·.1)) := by
    rw [pU, pV, List.map_map, List.map_map]
    exact vals_three fun q hq => e3 q (pile_sub k3 q hq)
  have fin : ∀ (h' : Heap) (tk : Nat) (L : List (Value × D)), SetV X.w h' s.heap.objs.size (L.map (·.1)) → L.Perm (pile [] (k3.map fun q => (q.1.2, q.2))) → (∀ b o, s.heap.get? b = some o → h'.get? b = some o) →
      ∃ v H', Inv X pins σ H' { s with heap := h', toks := tk } ∧ RelV v (.ref s.heap.objs.size) ∧ Q v H' := fun h' tk L sv pm k =>
    ⟨.ref s.heap.objs.size, upd H s.heap.objs.size (SetO X.w s.heap.objs.size ((pile [] ks).map (·.1))), I.laid (t' := tk) k (Nat.le_refl _) (setO_new rel (sv.perm (pm.map _))), rfl, q _ hn⟩
  have inks : ∀ q ∈ k3, (q.1.1, q.2) ∈ ks := fun q hq => by
    rw [← e1]
    exact List.mem_map.mpr ⟨q, hq, rfl⟩
  rcases hm with ⟨hm, few⟩ | ⟨hm, few⟩
  · refine md_setT (mdScan X.prog X.w) (k3.map fun q => (q.1.2, q.2)) (I.ok.hd hc) pl (by simpa using eU.symm) (fun p hp => ?_) (by rw [lenU]; exact few) (by omega) fin
    obtain ⟨q, hq, rfl⟩ := List.mem_map.mp hp
    obtain ⟨k, k1, k2⟩ := hm _ (inks q hq)
    have := e3 q hq
    dsimp only at k2
    rw [k2] at this
    exact ⟨k, k1, kV_is this⟩
  · refine md_setT (mdSeek (mixSk X.prog X.w)) (k3.map fun q => (q.1.2, q.2)) (I.ok.hd hc) pl (by simpa using eU.symm) (fun p hp => ?_) (by rw [lenU]; exact few) (by omega) fin
    obtain ⟨q, hq, rfl⟩ := List.mem_map.mp hp
    obtain ⟨k, a, k1, k2, k4⟩ := hm _ (inks q hq)
    have := e3 q hq
    dsimp only at k2
    rw [k2] at this
    have this : q.1.2 = .ref a := this
    obtain ⟨ts, tv, ⟨o, ho, oc, n, od⟩, _⟩ := I.tuple k4
    refine ⟨k, a, ?_, this, o, ts.toArray, n, ho, oc, od, by simpa using items_kV tv⟩
    show (match q.2 with | .tup ds => keysD ds | _ => none) = some k
    dsimp only at k1
    cases hd : q.2 <;> rw [hd] at k1 <;> first | exact k1 | cases k1
end
section
variable {K : PySem.W.Frag} {T : Tb} {G H : Hp}
theorem set_laidT {w : World} {B : List Addr} {x d : D} {u : V} {Q : VK} (s : Sub G H) (hu : RepB K T B G H x u) (e : oSetT x = some d)
    (q : ∀ p H', H' = upd H p (H' p |>.getD (.lst [])) → Stp [] G H G H' → H p = none → SetRep K T w G H' d p → Q (.ref p) H') : rSetDT K w [u] H Q := by
  unfold oSetT at e
  split at e
  · rename_i xs
    split at e
    · rename_i hs
      cases e
      obtain ⟨p, vs, rfl, h1, h2⟩ := hu.tup s
      have len := h2.length
      have es : (vs.zip xs).map (·.2) = xs := List.map_snd_zip (by omega)
      have ef : (vs.zip xs).map (·.1) = vs := List.map_fst_zip (by omega)
      have eo : EqOn ((vs.zip xs).map (·.2)) := by
        rw [es]
        exact eqOn_set hs
      have pd := pile_dedup eo
      rw [es] at pd
      have plen : (pile [] (vs.zip xs)).length = (dedup xs).length := by
        have := pd.length_eq
        rwa [List.length_map] at this
      have ple : (pile [] (vs.zip xs)).length ≤ xs.length := by
        have : ∀ (ks L : List (V × D)), (pile L ks).length ≤ L.length + ks.length := by
          intro ks
          induction ks with
          | nil => intro L; exact Nat.le_refl _
          | cons p ks ih =>
            intro L
            refine Nat.le_trans (ih (pile1 L p)) ?_
            have : (pile1 L p).length ≤ L.length + 1 := by
              unfold pile1
              split
              · omega
              · exact Nat.le_refl _
            rw [List.length_cons]
            omega
        have := this (vs.zip xs) []
        rw [List.length_zip] at this
        simp only [List.length_nil] at this
        omega
      have rz := reps_zip h2
      have small : (pile [] (vs.zip xs)).length ≤ 4000 := by
        unfold setable at hs
        simp only [Bool.or_eq_true, Bool.and_eq_true, decide_eq_true_eq] at hs
        rcases hs with hs | hs
        · omega
        · omega
      refine ⟨p, vs.zip xs, rfl, by rw [ef]; exact h1, ?_, fun a ha => ?_⟩
      · unfold setable at hs
        simp only [Bool.or_eq_true, Bool.and_eq_true, decide_eq_true_eq, List.all_eq_true] at hs
        rcases hs with ⟨a1, a2⟩ | ⟨a1, a2⟩
        · refine .inl ⟨fun q hq => ?_, by unfold scanBound; omega⟩
          exact keyD_kV (a1 _ (List.of_mem_zip hq).2) (rz q hq)
        · refine .inr ⟨fun q hq => ?_, by omega⟩
          have f := a1 _ (List.of_mem_zip hq).2
          have r := rz q hq
          obtain ⟨v, d⟩ := q
          dsimp only at f r
          cases d <;> first | (simp [flatT] at f; done) | skip
          simp only [flatT] at f
          unfold Rep at r
          obtain ⟨a, us, r1, r2, r3⟩ := r
          obtain ⟨ks, k1, rfl⟩ := keysD_kV f r3
          exact ⟨ks, a, k1, r1, sub_t s r2⟩
      · have st : Stp [] G H G (upd H a (SetO w a ((pile [] (vs.zip xs)).map (·.1)))) := Stp.laid s ha
        refine q a _ ?_ st ha ⟨dedup xs, pile [] (vs.zip xs), rfl, pd, fun q hq => rz q (pile_sub _ q hq), .of upd_same, Nat.le_trans small (by decide)⟩
        funext b
        simp only [upd]
        split <;> simp
    · cases e
  · cases e
end
section
variable {X : Cx} {K : PySem.W.Frag} {T : Tb} {fl : List Flg} {W : XK} {e : Expr} {p pos : Pos} {F : Z.Ex} {Fs : Z.Exs}
theorem semST {w : World} {B : List Addr} {G H : Hp} {ds : List D} {d : D} {us : List V} {Q : VK} (s : Sub G H) (hu : RepsB K T B G H ds us) (e : o1 oSetT ds = some d)
    (q : ∀ p H', Stp [] G H G H' → H p = none → SetRep K T w G H' d p → Q (.ref p) H') : rSetDT K w us H Q := by
  unfold o1 at e
  split at e
  · obtain ⟨u, rfl, h1⟩ := repsB1 hu
    exact set_laidT s h1 e fun p H' _ st hp r => q p H' st hp r
  · cases e
theorem dst_setT (hc : X.calm = true) (hu : X.A.units + 70 < cLine) (hK : X.K = K) (hg : Gl X "set") (hm : X.mg "set" = none) (ha : PA X [e] (tAb K T W fl Fs)) (he : starEach [e] X.env = (false, eval e X.env) :: starEach [] X.env := by rfl) :
    PE X (.Call (.Name "set" p) [e] [] pos) (tSt K T X.w W fl (xA (o1 oSetT) Fs)) := by
  subst hK
  exact PE.le (pe_callTy (cr_setDT hc hu) hg hm PyProof.Rows.boot_set ha (by decide) (by decide) he rfl) fun σ H Q ⟨B, C, G0, H0, G, env, b, gd, q⟩ => tAb_then gd q fun x b1 G1 H1 u s1 hb1 r1 g1 q => by
    obtain ⟨d, eg, q⟩ := q.opt
    exact semST s1.i r1 eg fun p H' s3 hp r3 => q G1 H' p (s1.trans s3.pure) (hb1.keep s3) (s1.back hp) (s1.i.free hp) r3
end
end ZL
end
section
set_option Elab.async false
set_option linter.all false
set_option maxRecDepth 100000
/-! comparisons as tests; a single test of a comprehension; one-element and/or as a value -/
namespace ZL
open PySem PySem.Spec PyProof.Rows L2 Z
section
variable {K : PySem.W.Frag} {T : Tb} {fl : List Flg} {W : XK} {X : Cx} {a b c e : Expr} {Fa Fb Fc F : Z.Ex}
theorem tT_tE {σ : L2.St} {H : Hp} {Q : Bool → Hp → Prop} (h : tT K T W fl F σ H Q) : tE K T W fl F σ H fun v H1 => ∃ k, v = .bl k ∧ Q k H1 := by
  obtain ⟨B, C, G0, H0, G, env, b, g, q⟩ := h
  exact ⟨B, C, G0, H0, G, env, b, g, q.imp fun d b1 q G1 H1 v s hb r => by
    cases d with
    | bl c => exact ⟨c, r.bl_inv, q G1 H1 s hb⟩
    | _ => exact q.elim⟩
theorem op2_le {r : R2} {g : D → D → Option D} (hr : Sem2 K T r g) : ∀ (σ : L2.St) (H : Hp) (Q : VK), tE K T W fl (x2 g Fa Fb) σ H Q → tOp r (tB K T W fl Fa) (tB K T W fl Fb) σ H Q :=
  fun σ H Q ⟨B, C, G0, H0, G, env, b, gd, q⟩ => ⟨B, C, G0, H0, G, env, b, gd, q.bnd.imp fun x b1 q G1 H1 u s1 hb1 r1 =>
    ⟨B, C, G0, H0, G1, env, b1, gd.step s1 hb1, q.bnd.imp fun y b2 q G2 H2 w s2 hb2 r2 => by
      obtain ⟨d, eg, q⟩ := q.opt
      exact hr B G2 H2 x y d u w Q s2.i (r1.step s2) r2 eg fun G3 H3 z s3 r3 => q G3 H3 z ((s1.trans s2).trans s3.pure) (hb2.keep s3) r3⟩⟩

theorem chain_le {r r' : R2} {g g' : D → D → Option D} (hr : Sem2 K T r g) (hr' : Sem2 K T r' g') : ∀ (σ : L2.St) (H : Hp) (Q : VK), tE K T W fl (xCh g g' Fa Fb Fc) σ H Q → tChain r r' (tB K T W fl Fa) (tB K T W fl Fb) (tB K T W fl Fc) σ H Q :=
  fun σ H Q ⟨B, C, G0, H0, G, env, b, gd, q⟩ => tB_then gd q fun x b1 G1 H1 u s1 hb1 r1 g1 q => tB_then g1 q fun y b2 G2 H2 v s2 hb2 r2 g2 q => by
    obtain ⟨d, eg, q⟩ := q.bnd.opt
    refine hr B G2 H2 x y d u v _ s2.i (r1.step s2) r2 eg fun G3 H3 z s3 r3 => ?_
    cases d with
    | bl c =>
      refine ⟨c, r3.bl_inv, ?_⟩
      cases c with
      | true => exact iteT (tB_then (g2.step s3.pure (hb2.keep s3)) q fun w b4 G4 H4 w' s4 hb4 r4 g4 q => by
          obtain ⟨d', eg', q⟩ := q.opt
          exact hr' B G4 H4 y w d' v w' Q s4.i ((r2.step s3.pure).step s4) r4 eg' fun G5 H5 z s5 r5 => q G5 H5 z ((((s1.trans s2).trans s3.pure).trans s4).trans s5.pure) (hb4.keep s5) r5)
      | false => exact iteF (q G3 H3 _ ((s1.trans s2).trans s3.pure) (hb2.keep s3) .bl)
    | _ => exact q.elim
theorem dt_cmp {r : R2} {g : D → D → Option D} (hr : Sem2 K T r g) (h : PT X e (tTest (tOp r (tB K T W fl Fa) (tB K T W fl Fb)))) : PT X e (tT K T W fl (x2 g Fa Fb)) := PT.le h fun σ H Q q => op2_le hr σ H _ (tT_tE q)
theorem dt_chain {r r' : R2} {g g' : D → D → Option D} (hr : Sem2 K T r g) (hr' : Sem2 K T r' g') (h : PT X e (tTest (tChain r r' (tB K T W fl Fa) (tB K T W fl Fb) (tB K T W fl Fc)))) : PT X e (tT K T W fl (xCh g g' Fa Fb Fc)) := PT.le h fun σ H Q q => chain_le hr hr' σ H _ (tT_tE q)
theorem dts_one (h : PT X e (tT K T W fl F)) : PTs X [e] (tT K T W fl F) := pts_one h
theorem de_and1 {op : BoolOp} {pos : Pos} (h : PE X e (tE K T W fl F)) : PE X (.BoolOp op [e] pos) (tE K T W fl F) := pe_one h
theorem de_or1 {op : BoolOp} {pos : Pos} (h : PE X e (tE K T W fl F)) : PE X (.BoolOp op [e] pos) (tE K T W fl F) := pe_one h
end
end ZL
end
section
set_option Elab.async false
set_option linter.all false
set_option maxRecDepth 100000
/-! the module's constants -/
namespace ZL
open PySem PySem.Spec PyProof.Rows L2 Z
section
variable {K : PySem.W.Frag} {T : Tb} {fl : List Flg} {W : XK} {X : Cx} {x : Str} {pos : Pos}
theorem de_glI {i : Int} (hg : Gl X x) (h : ∃ t, X.mg x = some (.int i t)) (hd : (x == ("__debug__" : Str)) = false := by decide) : PE X (.Name x pos) (tE K T W fl (xC (.int i))) := by
  obtain ⟨t, h⟩ := h
  exact de_c (pe_glob (v := .int i) hg h ⟨_, rfl⟩ hd) fun _ => Rep.int
theorem de_glS (s : List Char) {y : Str} (hg : Gl X x) (h : ∃ t, X.mg x = some (.str y t)) (e : y = toS s) (hd : (x == ("__debug__" : Str)) = false := by decide) : PE X (.Name x pos) (tE K T W fl (xC (.str s))) := by
  obtain ⟨t, h⟩ := h
  subst e
  exact de_c (pe_glob (v := .str (toS s)) hg h ⟨_, rfl⟩ hd) fun _ => Rep.str
end
end ZL
end
section
set_option Elab.async false
set_option linter.all false
set_option maxRecDepth 100000
/-! expressions that give a list; keywords -/
namespace ZL
open PySem PySem.Spec PyProof.Rows L2 Z
theorem bnd_ok {α β : Type} {m : M α} {f : α → M β} {b b' : Bag} {d : β} (h : M.bnd m f b = .ok d b') : ∃ a b1, m b = .ok a b1 ∧ f a b1 = .ok d b' := by
  unfold M.bnd at h
  cases e : m b with
  | no =>
    rw [e] at h
    cases h
  | ok a b1 =>
    rw [e] at h
    exact ⟨a, b1, rfl, h⟩
  | ex c x b1 =>
    rw [e] at h
    cases h
theorem lst_xLst {as : Z.Exs} : ∀ env b d b', xLst as env b = .ok d b' → ∃ ds, d = .lst ds := fun env b d b' h => by
  obtain ⟨ds, b1, _, h⟩ := bnd_ok h
  cases h
  exact ⟨_, rfl⟩
theorem lst_xLc {it : Z.Iw} {g : Z.Tg} {t e : Z.Ex} : ∀ env b d b', xLc it g t e env b = .ok d b' → ∃ ds, d = .lst ds := fun env b d b' h => by
  obtain ⟨ds, b1, _, h⟩ := bnd_ok h
  obtain ⟨r, b2, _, h⟩ := bnd_ok h
  cases h
  exact ⟨_, rfl⟩
theorem oList_lst {x d : D} (h : oList x = some d) : ∃ xs, d = .lst xs := by
  unfold oList at h
  split at h
  · cases h
    exact ⟨_, rfl⟩
  · cases h
    exact ⟨_, rfl⟩
  · cases h
    exact ⟨_, rfl⟩
  · cases h
theorem o1_some {g : D → Option D} {ds : List D} {d : D} (h : o1 g ds = some d) : ∃ x, ds = [x] ∧ g x = some d := by
  unfold o1 at h
  split at h
  · exact ⟨_, rfl, h⟩
  · cases h
theorem opt_ok {α : Type} {o : Option α} {b b' : Bag} {d : α} (h : M.opt o b = .ok d b') : o = some d := by
  cases o with
  | none => cases h
  | some a =>
    cases h
    rfl
theorem lst_oList {as : Z.Exs} : ∀ env b d b', xA (o1 oList) as env b = .ok d b' → ∃ ds, d = .lst ds := fun env b d b' h => by
  obtain ⟨ds, b1, _, h⟩ := bnd_ok h
  obtain ⟨x, _, e⟩ := o1_some (opt_ok h)
  exact oList_lst e
end ZL
end
section
set_option Elab.async false
set_option linter.all false
set_option maxRecDepth 100000
/-! keywords; lists of comprehensions with two fors. -/
namespace ZL
open PySem PySem.Spec PyProof.Rows L2 Z
section
variable {K : PySem.W.Frag} {T : Tb} {fl : List Flg} {W : XK} {X : Cx} {e : Expr} {kws : List Keyword} {F : Z.Ex} {Fs : Z.Exs} {nm : Option Str} {kpos : Pos}
theorem PK.le {t t' : TA} (h : PK X kws t) (l : ∀ σ H Q, t' σ H Q → t σ H Q) : PK X kws t' := ⟨fun pos pins s σ H Q I q => h.run pos pins s σ H Q I (l σ H Q q)⟩
theorem dk_nil : PK X [] (tAs K T W fl xNil) := PK.le pk_nil fun σ H Q ⟨B, C, G0, H0, G, env, b, g, q⟩ => q G H [] (.refl g.core.sub) g.core.bag Reps.nil
theorem dk_cons (ha : PE X e (tE K T W fl F)) (hr : PK X kws (tAs K T W fl Fs)) : PK X (⟨nm, e, kpos⟩ :: kws) (tAs K T W fl (xCons F Fs)) :=
  PK.le (pk_cons ha hr) fun σ H Q ⟨B, C, G0, H0, G, env, b, g, q⟩ => tE_then g q fun d b1 G1 H1 v s hb r g1 q =>
    tAs_then g1 q fun ds b2 G2 H2 vs s2 hb2 r2 g2 q => q G2 H2 (v :: vs) (s.trans s2) hb2 (.cons (r.mono s2.g) r2)
end
end ZL
end
section
set_option Elab.async false
set_option linter.all false
set_option maxRecDepth 100000
/-! name = [..] on one line; weakening of what follows alone. -/
namespace ZL
open PySem PySem.Spec PyProof.Rows L2 Z
section
variable {K : PySem.W.Frag} {T : Tb} {kp : List Nat} {fl fl' fl1 fl2 nx nx' bk ct : List Flg} {W : XK} {X : Cx} {S : Z.Sm} {sts : List Stmt} {st : Stmt} {I I1 : Z.Iw} {gd gd1 : Z.Tg} {Ft Ft1 Fe : Z.Ex} {js js1 : List Nat}
theorem dss_weakN (nx' : List Flg) (h : PSs X sts (tS K T W kp fl ⟨nx', bk, ct⟩ S)) (h1 : flLe nx nx' = true) : PSs X sts (tS K T W kp fl ⟨nx, bk, ct⟩ S) :=
  PSs.le h fun Dd σ H ⟨B, C, G0, H0, G, env, b, g, q⟩ => ⟨B, C, G0, H0, G, env, b, g, q.imp fun f b' q => by
    cases f with
    | nx env' => exact fun σ' G' H' g' s' k' => q σ' G' H' (g'.weak (flLe_of h1)) s' k'
    | rt d => exact q
    | bk env' => exact q
    | ct env' => exact q⟩
theorem dt_nt {a : Expr} {pos : Pos} {fl : List Flg} {Fa : Z.Ex} (h : PT X a (tT K T W fl Fa)) : PT X (.UnaryOp .Not a pos) (tT K T W fl (xNot Fa)) := dt_not h
theorem ds_setLc {i : Nat} {y : Str} {py : Pos} {elt tg iter : Expr} {ifs : List Expr} {scope : Scope} {own : List (Str × Nat)} {pos spos : Pos} (hc : X.calm = true) (hN : X.N.Nodup) (hi : PI X tg iter (tI K T W fl I)) (ok : BlkOk X.N X.env.scope scope own)
    (hg : ∀ (s : Shared) (H : Hp) (C : Addr) (cl : List (Str × Addr)) (fp : List Addr), PG (X.blk s H scope (compEnvC scope cl C X.env) fp) tg (tG K T (flw fl (own.map (·.2))) fl1 js gd)) (ht : ∀ (s : Shared) (H : Hp) (C : Addr) (cl : List (Str × Addr)) (fp : List Addr), PTs (X.blk s H scope (compEnvC scope cl C X.env) fp) ifs (tT K T WF fl1 Ft))
    (he : ∀ (s : Shared) (H : Hp) (C : Addr) (cl : List (Str × Addr)) (fp : List Addr), PE (X.blk s H scope (compEnvC scope cl C X.env) fp) elt (tE K T WF fl1 Fe)) (hjs : allIn js (own.map (·.2)) = true)
    (hy : X.N[i]? = some y) (hl : i < X.N.length) (hyl : X.env.scope.names.lookup y = some .local) (hsw : swapsWith (.ListComp elt [⟨tg, iter, ifs, 0⟩] scope pos) (some (.Name y py)) spos.line X.env = pure true) (hkp : apart kp [i] = true := by rfl) (hs : ∀ x, foldedSetIterable iter X.env x = pure x := by intro _; rfl) :
    PS X (.Assign [.Name y py] (.ListComp elt [⟨tg, iter, ifs, 0⟩] scope pos) spos) (tS K T W kp fl ⟨fl.set i .dat, bk, ct⟩ (sSet (gN i) (xLc I gd Ft Fe))) :=
  asg_dat hl (ps_setLc hc hN hy hyl hsw hi ok hg ht he hs) (fun σ H Q q => tF_lc hjs q) hkp
theorem ds_ownLc {i : Nat} {y : Str} {py : Pos} {elt tg iter : Expr} {ifs : List Expr} {scope : Scope} {own : List (Str × Nat)} {pos spos : Pos} (hc : X.calm = true) (hN : X.N.Nodup) (hi : PI X tg iter (tI K T W fl I)) (ok : BlkOk X.N X.env.scope scope own)
    (hg : ∀ (s : Shared) (H : Hp) (C : Addr) (cl : List (Str × Addr)) (fp : List Addr), PG (X.blk s H scope (compEnvC scope cl C X.env) fp) tg (tG K T (flw fl (own.map (·.2))) fl1 js gd)) (ht : ∀ (s : Shared) (H : Hp) (C : Addr) (cl : List (Str × Addr)) (fp : List Addr), PTs (X.blk s H scope (compEnvC scope cl C X.env) fp) ifs (tT K T WF fl1 Ft))
    (he : ∀ (s : Shared) (H : Hp) (C : Addr) (cl : List (Str × Addr)) (fp : List Addr), PE (X.blk s H scope (compEnvC scope cl C X.env) fp) elt (tE K T WF fl1 Fe)) (hjs : allIn js (own.map (·.2)) = true)
    (hy : X.N[i]? = some y) (hl : i < X.N.length) (hyl : X.env.scope.names.lookup y = some .local) (hsw : swapsWith (.ListComp elt [⟨tg, iter, ifs, 0⟩] scope pos) (some (.Name y py)) spos.line X.env = pure true) (hkp : apart kp [i] = true := by rfl) (hs : ∀ x, foldedSetIterable iter X.env x = pure x := by intro _; rfl) :
    PS X (.Assign [.Name y py] (.ListComp elt [⟨tg, iter, ifs, 0⟩] scope pos) spos) (tS K T W kp fl ⟨fl.set i .ol, bk, ct⟩ (sSet (gN i) (xLc I gd Ft Fe))) :=
  asg_own hl (ps_setLc hc hN hy hyl hsw hi ok hg ht he hs) (fun σ H Q q => tF_lc hjs q) lst_xLc hkp
theorem ds_setLc2 {i : Nat} {y : Str} {py : Pos} {elt tg iter tg1 iter1 : Expr} {ifs ifs1 : List Expr} {scope : Scope} {own : List (Str × Nat)} {vs1 : List Nat} {pos spos : Pos} (hc : X.calm = true) (hN : X.N.Nodup) (hi : PI X tg iter (tI K T W fl I)) (ok : BlkOk X.N X.env.scope scope own) (hv : ∀ i ∈ vs1, i ∈ own.map (·.2))
    (hg : ∀ (s : Shared) (H : Hp) (C : Addr) (cl : List (Str × Addr)) (fp : List Addr), PG (X.blk s H scope (compEnvC scope cl C X.env) fp) tg (tG K T (flw fl (own.map (·.2))) fl1 js gd)) (ht : ∀ (s : Shared) (H : Hp) (C : Addr) (cl : List (Str × Addr)) (fp : List Addr), PTs (X.blk s H scope (compEnvC scope cl C X.env) fp) ifs (tT K T WF fl1 Ft))
    (hi1 : ∀ (s : Shared) (H : Hp) (C : Addr) (cl : List (Str × Addr)) (fp : List Addr), PI (X.blk s H scope (compEnvC scope cl C X.env) fp) tg1 iter1 (tI K T WF fl1 I1))
    (hg1 : ∀ (s : Shared) (H : Hp) (C : Addr) (cl : List (Str × Addr)) (fp : List Addr), PG (X.blk s H scope (compEnvC scope cl C X.env) fp) tg1 (tG K T (flw fl1 vs1) fl2 js1 gd1)) (ht1 : ∀ (s : Shared) (H : Hp) (C : Addr) (cl : List (Str × Addr)) (fp : List Addr), PTs (X.blk s H scope (compEnvC scope cl C X.env) fp) ifs1 (tT K T WF fl2 Ft1))
    (he : ∀ (s : Shared) (H : Hp) (C : Addr) (cl : List (Str × Addr)) (fp : List Addr), PE (X.blk s H scope (compEnvC scope cl C X.env) fp) elt (tE K T WF fl2 Fe)) (hjs : allIn js (own.map (·.2)) = true) (hjs1 : allIn js1 vs1 = true)
    (hy : X.N[i]? = some y) (hl : i < X.N.length) (hyl : X.env.scope.names.lookup y = some .local) (hsw : swapsWith (.ListComp elt [⟨tg, iter, ifs, 0⟩, ⟨tg1, iter1, ifs1, 0⟩] scope pos) (some (.Name y py)) spos.line X.env = pure true) (hkp : apart kp [i] = true := by rfl) (hs : ∀ x, foldedSetIterable iter X.env x = pure x := by intro _; rfl) (hs1 : ∀ env x, foldedSetIterable iter1 env x = pure x := by intro _ _; rfl) :
    PS X (.Assign [.Name y py] (.ListComp elt [⟨tg, iter, ifs, 0⟩, ⟨tg1, iter1, ifs1, 0⟩] scope pos) spos) (tS K T W kp fl ⟨fl.set i .dat, bk, ct⟩ (sSet (gN i) (xLc2 I gd Ft I1 gd1 Ft1 Fe))) :=
  asg_dat hl (ps_setLc2 hc hN hy hyl hsw hi ok hv hg ht hi1 hg1 ht1 he hs hs1) (fun σ H Q q => tF_lc2 hjs hjs1 q) hkp
theorem flLe_refl (a : List Flg) : flLe a a = true := by
  unfold flLe
  rw [List.all_eq_true]
  intro i _
  simp
theorem dss_newbagW {e : Expr} {Fe : Z.Ex} {R : Z.Sm} {rest : List Stmt} {pos pos' : Pos} {i : Nat} {x : Str} (nx' : List Flg) (he : PE X e (tF K T W fl Fe)) (hd : datOnly fl = true) (hN : X.N.Nodup) (hi : X.N[i]? = some x) (hx : Loc X.env.scope x) (hr : PSs X rest (tS K T W kp (fl.set i .bag) ⟨nx', bk, ct⟩ R))
    (h1 : flLe nx (noBag nx') = true) (h2 : flLe bk (noBag bk) = true) (h3 : flLe ct (noBag ct) = true) (hkp : apart kp [i] = true := by rfl) (hs : swapsWith e (some (.Name x pos')) pos.line X.env = pure false := by rfl)
    (hf : X.fn x = true ∨ X.env.scope.names.lookup x = some .local := by first | exact .inl rfl | exact .inr rfl | assumption) :
    PSs X (.Assign [.Name x pos'] e pos :: rest) (tS K T W kp fl ⟨nx, bk, ct⟩ (sNewBag Fe R)) :=
  dss_weak (dss_newbag he hd hN hi hx hr hkp hs hf) (flLe_refl fl) h1 h2 h3
end
end ZL
end
section
set_option linter.all false
/-! PLAIN: dicts with int and text keys; lists times; is None. -/
namespace Z
open M
def keyP : D → Bool
  | .int _ => true
  | .str _ => true
  | _ => false
def dGetP : List (D × D) → D → Option D
  | [], _ => none
  | (k, v) :: r, q => if eqD k q then some v else dGetP r q
def dPutP (kvs : List (D × D)) (k v : D) : List (D × D) := if (dGetP kvs k).isSome then kvs.map (fun kv => if eqD kv.1 k then (kv.1, v) else kv) else kvs ++ [(k, v)]
def dctD : D → Option (List (D × D))
  | .dct kvs => some kvs
  | _ => none
theorem dctD_inv {x : D} {ys : List (D × D)} (e : dctD x = some ys) : x = .dct ys := by
  cases x <;> simp [dctD] at e
  rw [e]
/-- d[k] -/
def xDIx (a b : Ex) : Ex := fun env => bnd (a env) fun x => bnd (b env) fun y => bnd (opt (dctD x)) fun kvs => if keyP y then opt (dGetP kvs y) else no
/-- d.get(k, z) -/
def xDGet2 (a b c : Ex) : Ex := fun env => bnd (a env) fun x => bnd (opt (dctD x)) fun kvs => bnd (b env) fun y => bnd (c env) fun z => if keyP y then ret ((dGetP kvs y).getD z) else no
/-- k in d -/
def xDIn (b a : Ex) : Ex := fun env => bnd (b env) fun y => bnd (a env) fun x => bnd (opt (dctD x)) fun kvs => if keyP y then ret (.bl (dGetP kvs y).isSome) else no
/-- dict(d) -/
def oDict : D → Option D
  | .dct kvs => some (.dct kvs)
  | _ => none
def xDct0 : Ex := fun _ => ret (.dct [])
/-- x[k] = e, x an own dict -/
def sDPut (i : Nat) (ek ev : Ex) : Sm := fun env => bnd (ev env) fun v => bnd (ek env) fun k => match env.getD i .non with
  | .dct kvs => if keyP k = true ∧ kvs.length < lim then ret (.nx (env.set i (.dct (dPutP kvs k v)))) else no
  | _ => no
/-- x is None -/
def isNon : D → Bool
  | .non => true
  | _ => false
def oIsNone (d : D) : Option D := some (.bl (isNon d))
def oIsNotNone (d : D) : Option D := some (.bl (!isNon d))
/-- xs * n -/
def oMulL : D → D → Option D
  | .lst xs, .int n => if 0 ≤ n ∧ n ≤ 1000 ∧ xs.length ≤ 1000 then some (.lst (List.replicate n.toNat xs).flatten) else none
  | _, _ => none
end Z
end
section
set_option Elab.async false
set_option linter.all false
set_option maxRecDepth 100000
/-! LAYER: dicts with int and text keys. -/
namespace ZL
open PySem PySem.Spec PyProof.Rows L2 Z
section
variable {K : PySem.W.Frag} {T : Tb} {B : List Addr} {G H : Hp} {v : V}
theorem RepB.dct {kvs : List (D × D)} (s : Sub G H) (h : RepB K T B G H (.dct kvs) v) : ∃ p ks, v = .ref p ∧ H p = some (.dK ks) ∧ RepK K T G kvs ks := by
  rcases h with h | ⟨p, rfl, _, h⟩
  · unfold Rep at h
    obtain ⟨a, ks, h1, h2, h3⟩ := h
    exact ⟨a, ks, h1, s _ _ h2, h3⟩
  · obtain ⟨ks, h1, h2⟩ := h
    exact ⟨p, ks, rfl, h1, h2⟩
theorem keyD_of {y : D} (h : keyP y = true) : ∃ k, keyD y = some k := by
  cases y <;> simp [keyP] at h
  · exact ⟨_, rfl⟩
  · exact ⟨_, rfl⟩
theorem key_rep {y : D} {k : Key} (e : keyD y = some k) (r : Rep K T G y v) : v = kV k := by
  cases y with
  | int i =>
    cases e
    unfold Rep at r
    exact r
  | str s =>
    cases e
    unfold Rep at r
    exact r
  | _ => cases e
theorem keyD_eq {x y : D} {j k : Key} (e1 : keyD x = some j) (e2 : keyD y = some k) : eqD x y = decide (j = k) := by
  cases x <;> cases e1 <;> cases y <;> cases e2
  · simp only [eqD, Sum.inl.injEq]
  · rfl
  · rfl
  · rename_i s t
    simp only [eqD, Sum.inr.injEq]
    by_cases c : s = t
    · rw [c, decide_eq_true rfl, decide_eq_true rfl]
    · rw [decide_eq_false c, decide_eq_false fun z => c (toS_inj z)]
theorem repK_get {y : D} {k : Key} (e : keyD y = some k) : ∀ {kvs : List (D × D)} {ks : List (Key × V)}, RepK K T G kvs ks → (∀ d, dGetP kvs y = some d → ∃ v, valV ks k = some v ∧ Rep K T G d v) ∧ (dGetP kvs y = none → valV ks k = none)
  | [], ks, h => by
    unfold RepK at h
    subst h
    exact ⟨fun d z => (by cases z), fun _ => rfl⟩
  | (x, d) :: kvs, ks, h => by
    unfold RepK at h
    obtain ⟨q, v, r, rfl, h1, h2, h3⟩ := h
    obtain ⟨i1, i2⟩ := repK_get e h3
    have ee := keyD_eq h1 e
    by_cases c : q = k
    · have e1 : eqD x y = true := by rw [ee, decide_eq_true c]
      refine ⟨fun d' z => ?_, fun z => ?_⟩
      · rw [dGetP, if_pos e1] at z
        cases z
        exact ⟨v, valV_pos c, h2⟩
      · rw [dGetP, if_pos e1] at z
        cases z
    · have e1 : ¬ eqD x y = true := by rw [ee, decide_eq_false c]; simp
      refine ⟨fun d' z => ?_, fun z => ?_⟩
      · rw [dGetP, if_neg e1] at z
        rw [valV_neg c]
        exact i1 d' z
      · rw [dGetP, if_neg e1] at z
        rw [valV_neg c]
        exact i2 z
theorem RepK.snoc {y d : D} {k : Key} (e : keyD y = some k) (r : Rep K T G d v) : ∀ {kvs : List (D × D)} {ks : List (Key × V)}, RepK K T G kvs ks → RepK K T G (kvs ++ [(y, d)]) (ks ++ [(k, v)])
  | [], ks, h => by
    unfold RepK at h
    subst h
    show RepK K T G ((y, d) :: []) _
    unfold RepK
    exact ⟨k, v, [], rfl, e, r, by unfold RepK; rfl⟩
  | (x, c) :: kvs, ks, h => by
    unfold RepK at h
    obtain ⟨q, u, r', rfl, h1, h2, h3⟩ := h
    show RepK K T G ((x, c) :: (kvs ++ [(y, d)])) _
    unfold RepK
    exact ⟨q, u, _, rfl, h1, h2, RepK.snoc e r h3⟩
theorem repK_set {y d : D} {k : Key} (e : keyD y = some k) (r : Rep K T G d v) : ∀ {kvs : List (D × D)} {ks : List (Key × V)}, RepK K T G kvs ks → RepK K T G (kvs.map fun kv => if eqD kv.1 y then (kv.1, d) else kv) (ks.map fun kv => if kv.1 = k then (kv.1, v) else kv)
  | [], ks, h => by
    unfold RepK at h
    subst h
    show RepK K T G [] _
    unfold RepK
    rfl
  | (x, c) :: kvs, ks, h => by
    unfold RepK at h
    obtain ⟨q, u, r', rfl, h1, h2, h3⟩ := h
    have ee := keyD_eq h1 e
    have ih := repK_set e r h3
    rw [List.map_cons, List.map_cons]
    by_cases z : q = k
    · rw [if_pos (show eqD (x, c).1 y = true from by rw [ee, decide_eq_true z]), if_pos (show (q, u).1 = k from z)]
      unfold RepK
      exact ⟨q, v, _, rfl, h1, r, ih⟩
    · rw [if_neg (show ¬ eqD (x, c).1 y = true from by rw [ee, decide_eq_false z]; simp), if_neg (show ¬ (q, u).1 = k from z)]
      unfold RepK
      exact ⟨q, u, _, rfl, h1, h2, ih⟩
theorem repK_put {y d : D} {k : Key} {kvs : List (D × D)} {ks : List (Key × V)} (e : keyD y = some k) (r : Rep K T G d v) (h : RepK K T G kvs ks) : RepK K T G (dPutP kvs y d) (putK ks k v) := by
  obtain ⟨i1, i2⟩ := repK_get e h
  unfold dPutP putK
  rw [valV_any]
  cases c : dGetP kvs y with
  | none =>
    rw [i2 c, if_neg (by simp), if_neg (by simp)]
    exact RepK.snoc e r h
  | some d' =>
    obtain ⟨v', z, _⟩ := i1 d' c
    rw [z, if_pos (by simp), if_pos (by simp)]
    exact repK_set e r h
theorem RepK.len : ∀ {kvs : List (D × D)} {ks : List (Key × V)}, RepK K T G kvs ks → ks.length = kvs.length
  | [], ks, h => by
    unfold RepK at h
    subst h
    rfl
  | (x, c) :: kvs, ks, h => by
    unfold RepK at h
    obtain ⟨q, u, r', rfl, h1, h2, h3⟩ := h
    rw [List.length_cons, List.length_cons, RepK.len h3]
end
section
variable {K : PySem.W.Frag} {T : Tb} {kp : List Nat} {fl : List Flg} {fo : Fo} {W : XK} {X : Cx} {o e f value : Expr} {p pos pos' cpos apos : Pos} {Fa Fb Fc Fe : Z.Ex} {i : Nat} {x : Str} {S : Z.Sm} {sts : List Stmt}
theorem un1 (h : X.A.units + 64 < cLine) : X.A.units + 1 < cLine := by omega
/-- d.get(k, z) -/
theorem de_dget2 (hu : X.A.units + 64 < cLine) (ho : PE X o (tB K T W fl Fa)) (he : PE X e (tE K T W fl Fb)) (hf : PE X f (tE K T W fl Fc)) (hb : attributeBase o "get" X.env (eval o X.env) = eval o X.env := by rfl)
    (hfew : ((backTo cpos (starEach [e, f] X.env)).all (fun x => !x.1) && (backToKw cpos (keywordEach [] X.env)).all (fun x => x.1.isSome)
      && decide (([e, f] : List Expr).length + ([] : List Keyword).length + (if ([] : List Keyword).isEmpty then 0 else 1) < 30)) = true := by rfl) (hline : (apos.endLine == cpos.line) = true := by rfl)
    (htr : backTo cpos (starEach [e, f] X.env) = [(false, eval e X.env), (false, eval f X.env)] := by rfl) : PE X (.Call (.Attribute o "get" apos) [e, f] [] cpos) (tE K T W fl (xDGet2 Fa Fb Fc)) := by
  refine PE.le (pe_dget2 (un1 hu) ho he hf ⟨hb, hfew, hline, htr⟩) fun σ H Q ⟨B, C, G0, H0, G, env, b, g, q⟩ => tB_then g q fun d b1 G1 H1 v s hb1 r g1 q => ?_
  obtain ⟨kvs, ed, q⟩ := q.bnd.opt
  have ed := dctD_inv ed
  subst ed
  obtain ⟨a, ks, rfl, h1, h2⟩ := r.dct s.i
  refine ⟨a, rfl, .inl ⟨ks, .inl h1⟩, tE_then g1 q fun y b2 G2 H2 u s2 hb2 r2 g2 q => tE_then g2 q fun z b3 G3 H3 w s3 hb3 r3 g3 q => ?_⟩
  obtain ⟨a', ks', ea, h1', h2'⟩ := ((r.step s2).step s3).dct s3.i
  cases ea
  by_cases hk : keyP y = true
  · rw [if_pos hk] at q
    obtain ⟨k, ek⟩ := keyD_of hk
    have eu := key_rep ek r2
    subst eu
    obtain ⟨i1, i2⟩ := repK_get ek h2'
    refine ⟨valV ks' k, .inl ⟨ks', k, .inl h1', rfl, rfl⟩, ?_⟩
    cases c : dGetP kvs y with
    | none =>
      rw [c] at q
      rw [i2 c]
      exact q G3 H3 w ((s.trans s2).trans s3) hb3 r3
    | some d' =>
      rw [c] at q
      obtain ⟨v', e1, e2⟩ := i1 d' c
      rw [e1]
      exact q G3 H3 v' ((s.trans s2).trans s3) hb3 e2
  · rw [if_neg hk] at q
    exact q.elim
/-- d[k] -/
theorem de_dix (hu : X.A.units + 64 < cLine) (ho : PE X o (tB K T W fl Fa)) (he : PE X e (tE K T W fl Fb)) (hs : NoSl e := by intro _ _; rfl) : PE X (.Subscript o e pos) (tE K T W fl (xDIx Fa Fb)) := by
  refine PE.le (pe_dget (un1 hu) ho he hs) fun σ H Q ⟨B, C, G0, H0, G, env, b, g, q⟩ => tB_then g q fun d b1 G1 H1 v s hb1 r g1 q => tE_then g1 q fun y b2 G2 H2 u s2 hb2 r2 g2 q => ?_
  obtain ⟨kvs, ed, q2⟩ := q.bnd.opt
  clear q
  have ed := dctD_inv ed
  subst ed
  obtain ⟨a, ks, rfl, h1, h2⟩ := (r.step s2).dct s2.i
  by_cases hk : keyP y = true
  · rw [if_pos hk] at q2
    obtain ⟨k, ek⟩ := keyD_of hk
    have eu := key_rep ek r2
    subst eu
    obtain ⟨d', ed, q3⟩ := q2.opt
    obtain ⟨v', e1, e2⟩ := (repK_get ek h2).1 d' ed
    exact ⟨a, v', rfl, .inl ⟨ks, k, .inl h1, rfl, e1.symm⟩, q3 G2 H2 v' (s.trans s2) hb2 e2⟩
  · rw [if_neg hk] at q2
    exact q2.elim
/-- dict(d) -/
def rDictC : List V → Hp → VK → Prop := fun xs H Q => ∃ a kvs, xs = [.ref a] ∧ H a = some (.dK kvs) ∧ ∀ p, H p = none → Q (.ref p) (upd H p (.dK kvs))
theorem call_dictC : CallR X (.type "dict") rDictC := by
  intro pins s σ H xs us Q I r h
  obtain ⟨a, kvs, rfl, ha, q⟩ := h
  cases r with
  | cons r1 r2 =>
    cases r2
    cases r1
    exact d_copyOf I (.inl ha) fun p s' hp I' => ⟨.ref p, _, I', rfl, q p hp⟩
theorem sem_dict : SemAF K T rDictC (o1 oDict) := by
  intro B G H ds d us Q s h e q
  obtain ⟨y, rfl, ey⟩ := o1_some e
  obtain ⟨v, rfl, r⟩ := repsB1 h
  cases y with
  | dct kvs =>
    cases ey
    obtain ⟨p, ks, rfl, h1, h2⟩ := r.dct s
    exact ⟨p, ks, rfl, h1, fun p' hp => q G _ p' (Stp.laid s hp) hp (s.free hp) ⟨ks, upd_same, h2⟩⟩
  | _ => cases ey
/-- {} -/
theorem df_dct0 : PE X (.Dict [] [] pos) (tF K T W fl xDct0) := by
  refine PE.le pe_dnewK fun σ H Q ⟨B, C, G0, H0, G, env, b, g, q⟩ p hp => ?_
  exact q G _ p (Stp.laid g.core.sub hp).pure (g.core.bag.keep (Stp.laid g.core.sub hp)) hp (g.core.sub.free hp) ⟨[], upd_same, by unfold RepK; rfl⟩
theorem Good.od {B C : List Addr} {G0 H0 G H : Hp} {σ : L2.St} {env : Sl} {b : Bag} (g : Good K T fl B C G0 H0 G H σ env b) (h : fl.getD i .un = .od) : ∃ p ks kvs, σ[i]? = some (some (.ref p)) ∧ env.getD i .non = .dct kvs ∧ H p = some (.dK ks) ∧ RepK K T G kvs ks ∧ G p = none ∧ H0 p = none := by
  obtain ⟨_, _, fp, h1, h2, _⟩ := g
  have x := h1 i
  rw [h] at x
  obtain ⟨p, ks, kvs, e1, e2, e3, e4, e5⟩ := x
  have hp := h2 i p (by rw [e5]; exact List.mem_singleton.mpr rfl)
  exact ⟨p, ks, kvs, e1, e2, e3, e4, hp.1, hp.2⟩
theorem de_ownD (i : Nat) (hf : fl.getD i .un = .od) (h : PE X (.Name x pos) (tVar i)) : PE X (.Name x pos) (tB K T W fl (xV i)) := PE.le h fun σ H Q ⟨B, C, G0, H0, G, env, b, g, q⟩ => by
  obtain ⟨p, ks, kvs, e, ed, hp, r, gp, h0⟩ := g.od hf
  refine ⟨.ref p, e, q G H (.ref p) (.refl g.core.sub) g.core.bag (.inr ⟨p, rfl, g.core.own_ne h0, ?_⟩)⟩
  rw [ed]
  exact ⟨ks, hp, r⟩
theorem ds_ownD {bk ct : List Flg} (he : PE X e (tF K T W fl Fe)) (hl : ∀ env b d b', Fe env b = .ok d b' → ∃ ds, d = .dct ds) (hN : X.N.Nodup) (hi : X.N[i]? = some x) (hx : Loc X.env.scope x) (hkp : apart kp [i] = true := by rfl) (hs : swapsWith e (some (.Name x pos')) pos.line X.env = pure false := by rfl)
    (hf : X.fn x = true ∨ X.env.scope.names.lookup x = some .local := by first | exact .inl rfl | exact .inr rfl | assumption) :
    PS X (.Assign [.Name x pos'] e pos) (tS K T W kp fl ⟨fl.set i .od, bk, ct⟩ (sSet (gN i) Fe)) := by
  have hp := ps_set (pos := pos) hN hi hx he hs hf
  refine ⟨fun pins s σ H Dd I q => hp.run pins s σ H Dd I ?_⟩
  obtain ⟨B, C, G0, H0, G, env, b, g, q⟩ := q
  have hle : i < env.length := by
    rw [← g.len, I.len]
    exact (List.getElem?_eq_some_iff.mp hi).1
  refine ⟨B, C, G0, H0, G, env, b, g, ?_⟩
  have q := q.bnd
  cases eF : Fe env b with
  | no =>
    rw [eF] at q
    exact q
  | ex c x b1 =>
    rw [eF] at q
    exact q
  | ok d b1 =>
    rw [eF] at q
    obtain ⟨ds, rfl⟩ := hl _ _ _ _ eF
    intro G1 H1 p s1 hb hp0 hg r
    obtain ⟨ks, h1, h2⟩ := r
    exact q _ G1 H1 (g.own s1 hb hp0 hg hle ⟨p, ks, ds, rfl, rfl, h1, h2, rfl⟩) s1.g (.of hkp fun j hj => List.getElem?_set_ne fun z => hj (by rw [z]; exact List.mem_singleton.mpr rfl))
theorem dct_oDict {as : Z.Exs} : ∀ env b d b', xA (o1 oDict) as env b = .ok d b' → ∃ ds, d = .dct ds := fun env b d b' h => by
  obtain ⟨ds, b1, _, h⟩ := bnd_ok h
  obtain ⟨y, _, ey⟩ := o1_some (opt_ok h)
  cases y with
  | dct kvs =>
    cases ey
    exact ⟨_, rfl⟩
  | _ => cases ey
theorem dct_xDct0 : ∀ env b d b', xDct0 env b = .ok d b' → ∃ ds, d = .dct ds := fun env b d b' h => by
  cases h
  exact ⟨[], rfl⟩
/-- x[k] = e -/
theorem ds_dput {bk ct : List Flg} (hu : X.A.units + 64 < cLine) (hf : fl.getD i .un = .od) (hv : PE X (.Name x p) (tVar i)) (hk : PE X e (tE K T W fl Fb)) (he : PE X value (tE K T W fl Fe)) (hs : swapsWith value (some (.Subscript (.Name x p) e pos')) pos.line X.env = pure false := by rfl) :
    PS X (.Assign [.Subscript (.Name x p) e pos'] value pos) (tS K T W kp fl ⟨fl, bk, ct⟩ (sDPut i Fb Fe)) := by
  refine PS.le (ps_dput (un1 hu) hv hk he hs) fun Dd σ H ⟨B, C, G0, H0, G, env, b, g, q⟩ => tE_then g q fun d b1 G1 H1 v s hb1 r g1 q => ?_
  obtain ⟨p0, _, _, e1, _⟩ := g1.od hf
  refine ⟨.ref p0, e1, tE_then g1 q fun y b2 G2 H2 u s2 hb2 r2 g2 q => ?_⟩
  obtain ⟨a, ks, kvs, a1, a2, a3, a4, ga, h0⟩ := g2.od hf
  rw [e1] at a1
  cases a1
  rw [a2] at q
  simp only at q
  by_cases hz : keyP y = true ∧ kvs.length < lim
  · rw [if_pos hz] at q
    obtain ⟨k, ek⟩ := keyD_of hz.1
    have eu := key_rep ek r2
    subst eu
    have hi : i < env.length := by
      rw [← g2.len]
      exact (List.getElem?_eq_some_iff.mp e1).1
    refine ⟨p0, _, rfl, .inl ⟨ks, k, a3, rfl, ?_, rfl⟩, ?_⟩
    · rw [RepK.len a4]
      exact Nat.lt_of_lt_of_le hz.2 (by decide)
    · refine q σ G2 _ (g2.poke (fp := [p0]) (sv := none) ?_ (List.mem_singleton.mpr rfl) ga h0 (fun fp' y => ?_) ?_ hi) (s.g.trans s2.g) .refl
      · rw [hf]
        exact ⟨p0, ks, kvs, e1, a2, a3, a4, rfl⟩
      · rw [hf] at y
        obtain ⟨p', _, _, b1, _, _, _, b5⟩ := y
        rw [e1] at b1
        cases b1
        exact b5
      · rw [hf]
        exact ⟨p0, _, _, e1, rfl, upd_same, repK_put ek (r.mono s2.g) a4, rfl⟩
  · rw [if_neg hz] at q
    exact q.elim
theorem env_getD {env : Sl} {d : D} (h : i < env.length) (e : env.getD i .non = d) : env.set i d = env := by
  subst e
  refine List.ext_getElem (List.length_set ..) fun j h1 h2 => ?_
  rw [List.getElem_set]
  split
  · rename_i e
    subst e
    simp [List.getD, List.getElem?_eq_getElem h]
  · rfl
theorem dss_frzD (hf : fl.getD i .un = .od) (hl : i < fl.length) (h : PSs X sts (tS K T W kp (fl.set i .dat) fo S)) : PSs X sts (tS K T W kp fl fo S) :=
  PSs.le h fun Dd σ H ⟨B, C, G0, H0, G, env, b, g, q⟩ => by
    obtain ⟨p, ks, kvs, e1, e2, e3, e4, gp, h0⟩ := g.od hf
    have sg : Sub G (upd G p (.dK ks)) := fun a u e => by
      rw [upd_ne (ne_of_none e gp)]
      exact e
    have hi : i < env.length := by
      rw [← g.len]
      exact (List.getElem?_eq_some_iff.mp e1).1
    have g2 := g.swap (i := i) (f := .dat) (d := .dct kvs) (fp' := []) (b1 := b) (G1 := upd G p (.dK ks)) (H1 := H) (σ1 := σ) g.core.bag sg
      (fun a o e => by
        by_cases z : a = p
        · subst z
          rw [upd_same] at e
          rw [e3]
          exact e
        · rw [upd_ne z] at e
          exact g.core.sub a o e) hi hl rfl (fun _ _ => rfl) [p] (fun fp y => by
        rw [hf] at y
        obtain ⟨p', _, _, b1, _, _, _, b5⟩ := y
        rw [e1] at b1
        cases b1
        exact b5) (fun a o e _ _ => e) (fun a ha => by
        rw [List.mem_singleton.mp ha]
        exact ⟨_, e3⟩)
      ⟨rfl, .ref p, e1, by
        unfold Rep
        exact ⟨p, ks, rfl, upd_same, RepK.mono sg kvs ks e4⟩⟩ (fun a ha => by cases ha) (fun a o e1 e2 => by
        by_cases z : a = p
        · exact .inl (by rw [z]; exact List.mem_singleton.mpr rfl)
        · rw [upd_ne z, e2] at e1
          cases e1)
    rw [env_getD hi e2] at g2
    exact ⟨B, C, G0, H0, _, env, b, g2, q.imp fun f b1 z => z.sub sg .refl⟩
end
end ZL
end
section
set_option Elab.async false
set_option linter.all false
set_option maxRecDepth 100000
/-! LAYER: own ==, own !=, len of an own instance; is None; list * int; zip of tuples. -/
namespace ZL
open PySem PySem.Spec PyProof.Rows L2 Z
section
variable {prog : Program} {w : World} {A : Around} {E : Value → Shared → Prop} {s : Shared} {K : PySem.W.Frag} {x y C L f : Addr} {h₀ : Heap} {m : Str → Option Value} {ox : Obj} {od : Option Obj} {tb : Value}
theorem bind_ne (self : Value) : bindSpecial (.builtin "object.__ne__") self = pure (.builtin "object.__ne__", [self]) :=
  (Slot.of (T := "object") (name := "__ne__") (owner := "object") (n := "__ne__") (by rw [typeLookup_type, builtinLookup_eq_fast]; kernel_rfl) (by decide +kernel) (by decide +kernel) (by decide +kernel)
    (.inl (by decide +kernel)) (by rw [isSubtype_type]; kernel_rfl)).bind self
theorem plain_ne : plainId "object.__ne__" = true := by decide +kernel
theorem entry_ne : entryFor table "object.__ne__" = some Builtin.«object.__ne__» := entryFor_of_tree (by kernel_rfl)
theorem kind_ne : builtinKind "object.__ne__" = some .slot := by decide +kernel
theorem split_ne : splitId "object.__ne__" = some ("object", "__ne__") := by decide +kernel
theorem args_ne (a b : Value) : argsOk "object.__ne__" ⟨[a, b], []⟩ := by unfold argsOk; kernel_rfl
/-- x != y where the class has == and no !=: what == says, turned -/
theorem own_ne {Q : Value → Shared → Prop} (hu : A.units + 1 < cLine) (X : K.In s.heap) (I : PySem.W.InstAt s.heap x ox C od) (hb : PySem.W.Looks (model prog w) s.heap (typeOf (.ref y)) (.ref C))
    (hn : PySem.W.findIn K (.ref C) "__ne__" = some (some (.builtin "object.__ne__"))) (hm : PySem.W.mroIn K C (.type "object") = some true) (hs : PySem.W.findIn K (.ref C) "__eq__" = some (some (.ref f))) (hf : PySem.W.isFn K (.ref f) = true)
    (h : wpAny (model prog w) A.in1 (call (.ref f) [.ref x, .ref y]) (fun v s' => ∃ b, v = .bool b ∧ Q (.bool (!b)) s') E s) : wpAny (model prog w) A (richCompare .NotEq (.ref x) (.ref y)) Q E s := by
  have one : wpAny (model prog w) A (tryCompare (.ref x) (cmpInfo .NotEq).2.1 (.ref y)) (fun r s' => ∃ v, r = some v ∧ Q v s') E s := by
    unfold tryCompare
    refine wpAny_bind ?_
    simp only [callSpecialIfBound?, bindSpecialIfBound?]
    refine wpAny_holding (wpAny_bind (wpAny_bind (wpAny_bind (I.type.here ((PySem.W.looks_findIn X hn).here ?_)))))
    refine wpAny_bind (wpAny_askSetting (wpAny_ite ?_))
    rw [bind_ne]
    have fin : wpAny (model prog w) A (call (.builtin "object.__ne__") ([.ref x] ++ [.ref y]) >>= fun v => pure (some v)) (fun r s' => wpAny (model prog w) A (match r with
        | some .notImplemented => pure none
        | none => pure none
        | some v => pure (some v)) (fun r s' => ∃ v, r = some v ∧ Q v s') E s') E s := by
      refine wpAny_bind (wpAny_call (codeAny_call_builtin plain_ne entry_ne (PySem.W.check_slot kind_ne split_ne (I.type.andThen (PySem.W.looks_mroIn X hm)) (args_ne _ _) ?_)))
      show wpAny _ A.in1 (Builtin.«object.__ne__» _) _ _ s
      unfold Builtin.«object.__ne__»
      refine wpAny_bind (wpAny_pure ?_)
      refine wpAny_bind (wpAny_cRoomFor hu ?_)
      refine wpAny_bind (PySem.W.ifBound_K X I hs hf (wpAny_mono h (fun v s' hv => ?_) fun _ _ e => e))
      obtain ⟨b, rfl, q⟩ := hv
      refine wpAny_bind (wpAny_truthy_bool (wpAny_pure ?_))
      exact wpAny_pure (wpAny_pure ⟨_, rfl, q⟩)
    split
    · exact wpAny_bind (wpAny_pure (wpAny_pure fin))
    · exact wpAny_tryCatch (wpAny_bind (wpAny_pure (wpAny_pure fin)))
  unfold richCompare
  simp only [oneThing_ref]
  refine wpAny_holding (wpAny_bind (wpAny_cRoomFor (by omega) ?_))
  refine wpAny_bind (I.type.here (wpAny_bind (hb.here ?_)))
  rw [show (Value.ref C != Value.ref C) = false from by simp]
  simp only [Bool.false_eq_true, if_false]
  refine wpAny_bind (wpAny_pure ?_)
  simp only [Bool.false_eq_true, if_false]
  refine wpAny_bind (wpAny_mono one (fun r s' z => ?_) fun _ _ e => e)
  obtain ⟨v, rfl, hq⟩ := z
  exact wpAny_pure hq
end
section
variable {X : Cx} {CX : CXT} {k : Nat} {f C : Addr} {fd : FuncData} {ps : List Str} {sp : Sp} {E : XK} {pins : List (Addr × Obj)} {σ : L2.St} {H : Hp} {s : Shared} {vs : List V} {us : List Value} {Q : VK}
theorem run_own {A : Around} (hA : A.frames = X.A.frames) (room : Room k A) (F : FnOk X.prog X.w X.K X.mg X.base CX k f fd ps sp) (hb : Binds X.K fd ps []) (hx : Passes CX X E) (I : Inv X pins σ H s) (r2 : Vals vs us) (h : sp vs H Q E) :
    wpAny (model X.prog X.w) A (call (.ref f) us) (EP X pins σ Q) X.xe s := by
  have e0 : Env0 X.prog X.w X.K X.mg X.base A X.stack s H := by
    have e := I.env0
    exact ⟨by rw [hA]; exact e.frames, e.mod, e.bs, e.bsz, e.funs, e.frf, e.hok, e.bare⟩
  have hl := F.len _ _ _ _ h
  have hl2 : us.length = ps.length := by
    rw [← r2.length]
    exact hl
  refine wpAny_call (codeAny_mono (F.run A X.stack s H ⟨us, []⟩ us vs Q E room e0 (by
    have := hb s us I.kIn (by simpa using hl2)
    simpa using this) r2 h) fun r s' hq => ?_)
  cases r with
  | error e => exact hx pins σ H s e s' I hq
  | ok fl =>
    cases fl with
    | ret w => exact I.after hq
    | next => exact False.elim hq
    | brk => exact False.elim hq
    | cont => exact False.elim hq
/-- own == and !=, whatever the answer -/
def rOwnE (C : Addr) (sp : Sp) (E : XK) (g : Bool → Bool) : R2 := fun x y H Q => ∃ a b dx dy fs gs, x = .ref a ∧ y = .ref b ∧ H a = some (.ins C dx fs) ∧ H b = some (.ins C dy gs) ∧ sp [.ref a, .ref b] H (fun v H' => ∃ t, v = .bl t ∧ Q (.bl (g t)) H') E
theorem op_ownEq (F : FnOk X.prog X.w X.K X.mg X.base CX k f fd ps sp) (hr : Room k X.A) (hs : PySem.W.findIn X.K (.ref C) "__eq__" = some (some (.ref f))) (hf : PySem.W.isFn X.K (.ref f) = true) (hb : Binds X.K fd ps []) (hx : Passes CX X E) : OpR X (compareOp .Eq) (rOwnE C sp E id) := by
  intro pins s σ H x y v u Q I rx ry h
  obtain ⟨a, b, dx, dy, fs, gs, rfl, rfl, ha, hb', h⟩ := h
  cases rx
  cases ry
  obtain ⟨mA, J, _⟩ := ins_get I.hok ha
  obtain ⟨mB, J', _⟩ := ins_get I.hok hb'
  obtain ⟨od, J, _⟩ := J.look
  obtain ⟨od', J', _⟩ := J'.look
  obtain ⟨m, hF⟩ := I.fr
  show wpAny (model X.prog X.w) X.A (richCompare .Eq (.ref a) (.ref b)) (EP X pins σ Q) X.xe s
  refine PySem.W.cmp_K (op := .Eq) (tb := .ref C) hr.units0 hF I.ok.mod.kin J J'.type (by simp [PySem.W.notFirst]) hs hf (wpAny_mono (run_own rfl hr F hb hx I (show Vals [V.ref a, V.ref b] [Value.ref a, Value.ref b] from .cons rfl (.cons rfl .nil)) h) (fun r s' z => ?_) fun _ _ e => e)
  obtain ⟨v, H', I', rv, t, rfl, q⟩ := z
  cases rv
  exact ⟨.bl t, H', I', rfl, q⟩
theorem op_ownNe (F : FnOk X.prog X.w X.K X.mg X.base CX k f fd ps sp) (hr : Room (k + 1) X.A) (hn : PySem.W.findIn X.K (.ref C) "__ne__" = some (some (.builtin "object.__ne__"))) (hm : PySem.W.mroIn X.K C (.type "object") = some true)
    (hs : PySem.W.findIn X.K (.ref C) "__eq__" = some (some (.ref f))) (hf : PySem.W.isFn X.K (.ref f) = true) (hb : Binds X.K fd ps []) (hx : Passes CX X E) : OpR X (compareOp .NotEq) (rOwnE C sp E not) := by
  intro pins s σ H x y v u Q I rx ry h
  obtain ⟨a, b, dx, dy, fs, gs, rfl, rfl, ha, hb', h⟩ := h
  cases rx
  cases ry
  obtain ⟨mA, J, _⟩ := ins_get I.hok ha
  obtain ⟨mB, J', _⟩ := ins_get I.hok hb'
  obtain ⟨od, J, _⟩ := J.look
  obtain ⟨od', J', _⟩ := J'.look
  obtain ⟨m, hF⟩ := I.fr
  show wpAny (model X.prog X.w) X.A (richCompare .NotEq (.ref a) (.ref b)) (EP X pins σ Q) X.xe s
  refine own_ne (by have := hr.un; omega) I.kIn J J'.type hn hm hs hf (wpAny_mono (run_own rfl hr.in1 F hb hx I (show Vals [V.ref a, V.ref b] [Value.ref a, Value.ref b] from .cons rfl (.cons rfl .nil)) h) (fun r s' z => ?_) fun _ _ e => e)
  obtain ⟨v, H', I', rv, t, rfl, q⟩ := z
  cases rv
  exact ⟨t, rfl, .bl (!t), H', I', rfl, q⟩
/-- len of an own instance -/
def rOwnL (C : Addr) (sp : Sp) (E : XK) : List V → Hp → VK → Prop := fun xs H Q => ∃ a dx fs, xs = [.ref a] ∧ H a = some (.ins C dx fs) ∧ sp [.ref a] H (fun v H' => ∃ n : Nat, v = .int n ∧ n ≤ lim ∧ Q (.int n) H') E
theorem call_ownLen (F : FnOk X.prog X.w X.K X.mg X.base CX k f fd ps sp) (hr : Room (k + 1) X.A) (hs : PySem.W.findIn X.K (.ref C) "__len__" = some (some (.ref f))) (hf : PySem.W.isFn X.K (.ref f) = true) (hb : Binds X.K fd ps []) (hx : Passes CX X E) : CallR X (.builtin "len") (rOwnL C sp E) := by
  intro pins s σ H xs us Q I r h
  obtain ⟨a, dx, fs, rfl, ha, h⟩ := h
  cases r with
  | cons r1 r2 =>
    cases r2
    cases r1
    obtain ⟨mA, J, _⟩ := ins_get I.hok ha
    obtain ⟨od, J, _⟩ := J.look
    obtain ⟨m, hF⟩ := I.fr
    refine PySem.W.len_K hF I.ok.mod.kin J hs hf (wpAny_mono (run_own rfl hr.in1 F hb hx I (show Vals [V.ref a] [Value.ref a] from .cons rfl .nil) h) (fun r s' z => ?_) fun _ _ e => e)
    obtain ⟨v, H', I', rv, n, rfl, hn, q⟩ := z
    obtain ⟨t, rfl⟩ := rv
    unfold lim at hn
    exact ⟨⟨by omega, by omega⟩, .int n, H', I'.tok _, ⟨_, rfl⟩, q⟩
end
end ZL
end
section
set_option linter.all false
/-! PLAIN: own == and !=, len of an own instance; zip of tuples; is None. -/
namespace Z
open M
def xEqI (c : Nat) (f : List D → M D) (g : Bool → Bool) (a b : Ex) : Ex := fun env => bnd (a env) fun x => bnd (b env) fun y => bnd (opt (insD c x)) fun _ => bnd (opt (insD c y)) fun _ => bnd (pureC f [x, y]) fun r => match r with
  | .bl t => ret (.bl (g t))
  | _ => no
def xLenI (c : Nat) (f : List D → M D) (a : Ex) : Ex := fun env => bnd (a env) fun x => bnd (opt (insD c x)) fun _ => bnd (pureC f [x]) fun r => match r with
  | .int n => if 0 ≤ n ∧ n ≤ (lim : Int) then ret (.int n) else no
  | _ => no
def iZipT (a b : Ex) : Iw := fun env => bnd (a env) fun x => bnd (b env) fun y => match x, y with
  | .tup u, .tup v => ret (zipD u v)
  | _, _ => no
def oIs (x y : D) : Option D := match y with
  | .non => some (.bl (isNon x))
  | _ => none
def oIsNot (x y : D) : Option D := match y with
  | .non => some (.bl (!isNon x))
  | _ => none
end Z
namespace Z
/-- xs[:k], list or tuple -/
def oCutA (x y : D) : Option D := match x with
  | .tup xs => oCutT (.tup xs) y
  | x => oCut x y
end Z
namespace Z
open M
/-- enumerate of a list or a tuple -/
def iEnumA (a : Ex) : Iw := fun env => bnd (a env) fun x => match x with
  | .lst xs => ret (enumFrom 0 xs)
  | .tup xs => ret (enumFrom 0 xs)
  | _ => no
end Z
end
section
set_option Elab.async false
set_option linter.all false
set_option maxRecDepth 100000
/-! LAYER: the rules of these. -/
namespace ZL
open PySem PySem.Spec PyProof.Rows L2 Z
structure EqOk (P : Program) (w : World) (K : PySem.W.Frag) (T : Tb) (mg : Str → Option Value) (base : Heap) (k c : Nat) (f : List D → M D) : Prop where
  ex : ∃ (fa : Addr) (fd : FuncData) (ps : List Str), PySem.W.findIn K (.ref (T.adr c)) "__eq__" = some (some (.ref fa)) ∧ PySem.W.isFn K (.ref fa) = true ∧ PySem.W.findIn K (.ref (T.adr c)) "__ne__" = some (some (.builtin "object.__ne__")) ∧ PySem.W.mroIn K (T.adr c) (.type "object") = some true ∧
    FnOk P w K mg base (CX P w) k fa fd ps (spM K T 2 false f) ∧ Binds K fd ps []
structure LenOk (P : Program) (w : World) (K : PySem.W.Frag) (T : Tb) (mg : Str → Option Value) (base : Heap) (k c : Nat) (f : List D → M D) : Prop where
  ex : ∃ (fa : Addr) (fd : FuncData) (ps : List Str), PySem.W.findIn K (.ref (T.adr c)) "__len__" = some (some (.ref fa)) ∧ PySem.W.isFn K (.ref fa) = true ∧ FnOk P w K mg base (CX P w) k fa fd ps (spM K T 1 false f) ∧ Binds K fd ps []
section
variable {T : Tb} {fl : List Flg} {W : XK} {X : Cx} {a b : Expr} {p pos : Pos} {k c : Nat} {f : List D → M D} {Fa Fb : Z.Ex}
theorem ins_of {K : PySem.W.Frag} {G H : Hp} {x : D} {xs : List D} {v : V} (e : insD c x = some xs) (s : Sub G H) (r : Rep K T G x v) : ∃ a dx fs, v = .ref a ∧ H a = some (.ins (T.adr c) dx fs) := by
  have e := insD_inv e
  subst e
  unfold Rep at r
  obtain ⟨a, dx, fs, rfl, h1, _⟩ := r
  exact ⟨a, dx, fs, rfl, s _ _ h1⟩
theorem own_cmp {K : PySem.W.Frag} {g : Bool → Bool} {B C : List Addr} {G0 H0 G H : Hp} {σ : L2.St} {env : Sl} {b0 : Bag} {Q : VK} (gd : Good K T fl B C G0 H0 G H σ env b0)
    (q : oW (fun d b' => ∀ G' H' v, Stp B G H G' H' → BagAt B H' b' → Rep K T G' d v → Q v H') (XOk K T W B C G0 H0) (xEqI c f g Fa Fb env b0)) : tOp (rOwnE (T.adr c) (spM K T 2 false f) W g) (tE K T W fl Fa) (tE K T W fl Fb) σ H Q := by
  refine tE_then gd q fun x b1 G1 H1 u s hb1 rx g1 q => tE_then g1 q fun y b2 G2 H2 v s2 hb2 ry g2 q => ?_
  obtain ⟨xs, ex, q⟩ := q.bnd.opt
  obtain ⟨ys, ey, q⟩ := q.bnd.opt
  have rx2 := rx.mono s2.g
  obtain ⟨a1, dx, fs, rfl, ha⟩ := ins_of ex s2.i rx2
  obtain ⟨a2, dy, gs, rfl, hb'⟩ := ins_of ey s2.i ry
  refine ⟨a1, a2, dx, dy, fs, gs, rfl, rfl, ha, hb', ?_⟩
  refine callQ_at g2 (.cons rx2 (.one ry)) rfl q.bnd fun d b3 q6 e w G' H' s' r' => ?_
  cases d with
  | bl t =>
    unfold Rep at r'
    subst r' e
    exact ⟨t, rfl, q6 G' H' _ ((s.trans s2).trans s'.pure) (hb2.keep s') .bl⟩
  | _ => exact q6.elim
theorem de_eqI (mo : EqOk X.prog X.w X.K T X.mg X.base k c f) (hr : Room k X.A) (hx : Passes (CX X.prog X.w) X W) (ha : PE X a (tE X.K T W fl Fa)) (hb : PE X b (tE X.K T W fl Fb)) : PE X (.Compare a [.Eq] [b] pos) (tE X.K T W fl (xEqI c f id Fa Fb)) := by
  obtain ⟨fa, fd, ps, h1, h2, h3, h4, F, hb'⟩ := mo.ex
  exact PE.le (pe_cmpR (op_ownEq F hr h1 h2 hb' hx) ha hb (nomark _)) fun σ H Q ⟨B, C, G0, H0, G, env, b0, g, q⟩ => own_cmp g q
theorem de_neI (mo : EqOk X.prog X.w X.K T X.mg X.base k c f) (hr : Room (k + 1) X.A) (hx : Passes (CX X.prog X.w) X W) (ha : PE X a (tE X.K T W fl Fa)) (hb : PE X b (tE X.K T W fl Fb)) : PE X (.Compare a [.NotEq] [b] pos) (tE X.K T W fl (xEqI c f not Fa Fb)) := by
  obtain ⟨fa, fd, ps, h1, h2, h3, h4, F, hb'⟩ := mo.ex
  exact PE.le (pe_cmpR (op_ownNe F hr h3 h4 h1 h2 hb' hx) ha hb (nomark _)) fun σ H Q ⟨B, C, G0, H0, G, env, b0, g, q⟩ => own_cmp g q
theorem de_lenI (mo : LenOk X.prog X.w X.K T X.mg X.base k c f) (hr : Room (k + 1) X.A) (hx : Passes (CX X.prog X.w) X W) (hg : Gl X "len") (hm : X.mg "len" = none) (ha : PE X a (tE X.K T W fl Fa)) (he : starEach [a] X.env = (false, eval a X.env) :: starEach [] X.env := by rfl) (hpl : (backTo pos (starEach [] X.env)).any (·.1) = false := by rfl) :
    PE X (.Call (.Name "len" p) [a] [] pos) (tE X.K T W fl (xLenI c f Fa)) := by
  obtain ⟨fa, fd, ps, h1, h2, F, hb'⟩ := mo.ex
  refine PE.le (pe_callB (call_ownLen F hr h1 h2 hb' hx) hg hm PySem.boot_len (pa_cons ha pa_nil he) (he := he) (hpl := hpl)) fun σ H Q ⟨B, C, G0, H0, G, env, b0, g, q⟩ => tE_then g q fun x b1 G1 H1 u s hb1 rx g1 q => ?_
  obtain ⟨xs, ex, q⟩ := q.bnd.opt
  obtain ⟨a1, dx, fs, rfl, ha⟩ := ins_of ex s.i rx
  refine ⟨a1, dx, fs, rfl, ha, ?_⟩
  refine callQ_at g1 (.one rx) rfl q.bnd fun d b3 q6 e w G' H' s' r' => ?_
  cases d with
  | int n =>
    unfold Rep at r'
    subst r' e
    by_cases hn : 0 ≤ n ∧ n ≤ (lim : Int)
    · have q7 := q6
      simp only at q7
      rw [if_pos hn] at q7
      obtain ⟨m, rfl⟩ := Int.eq_ofNat_of_zero_le hn.1
      exact ⟨m, rfl, by omega, q7 G' H' _ (s.trans s'.pure) (hb1.keep s') .int⟩
    · have q7 := q6
      simp only at q7
      rw [if_neg hn] at q7
      exact q7.elim
  | _ => exact q6.elim
end
/-! is None, list * int, zip of tuples -/
section
variable {K : PySem.W.Frag} {T : Tb} {B : List Addr} {G H : Hp}
theorem non_iff {x : D} {u : V} (h : RepB K T B G H x u) : decide (u = .non) = isNon x := by
  have key : Rep K T G x u → decide (u = .non) = isNon x := fun h => by
    cases x <;> unfold Rep at h
    · subst h; rfl
    · subst h; rfl
    · subst h; rfl
    · subst h; rfl
    · obtain ⟨a, vs, rfl, _⟩ := h; rfl
    · obtain ⟨a, vs, rfl, _⟩ := h; rfl
    · obtain ⟨a, vs, rfl, _⟩ := h; rfl
    · exact h.elim
    · obtain ⟨a, dx, fs, rfl, _⟩ := h; rfl
    · obtain ⟨a, o, vs, rfl, _⟩ := h; rfl
    · obtain ⟨a, rfl, _⟩ := h; rfl
  rcases h with h | ⟨p, rfl, _, h⟩
  · exact key h
  · cases x <;> first | rfl | exact h.elim
theorem sem_is : Sem2 K T rIsN oIs := by
  intro B G H x y d u v Q s hx hy e q
  cases y with
  | non =>
    cases e
    refine ⟨hy.non, ?_⟩
    rw [non_iff hx]
    exact q.at s .bl
  | _ => cases e
theorem sem_isnot : Sem2 K T rNotN oIsNot := by
  intro B G H x y d u v Q s hx hy e q
  cases y with
  | non =>
    cases e
    refine ⟨hy.non, ?_⟩
    rw [non_iff hx]
    exact q.at s .bl
  | _ => cases e
theorem Reps.rep {ds : List D} {vs : List V} (h : Reps K T G ds vs) : ∀ n : Nat, Reps K T G (List.replicate n ds).flatten (List.replicate n vs).flatten
  | 0 => .nil
  | n + 1 => by
    rw [List.replicate_succ, List.replicate_succ, List.flatten_cons, List.flatten_cons]
    exact h.append (Reps.rep h n)
theorem sem_mulL : Sem2F K T rRep oMulL := by
  intro B G H x y d u v Q s hx hy e q
  unfold oMulL at e
  split at e
  · split at e
    · rename_i xs n hn
      cases e
      obtain ⟨p, vs, e1, h1, h2⟩ := hx.lst s
      have hl := h2.length
      refine ⟨p, n, vs, e1, hy.int, h1, by omega, by omega, ?_, fun p' hp => q G _ p' (Stp.laid s hp) hp (s.free hp) ⟨_, upd_same, h2.rep _⟩⟩
      rw [hl]
      have : n.toNat ≤ 1000 := by omega
      exact Nat.le_trans (Nat.mul_le_mul hn.2.2 this) (by decide)
    · cases e
  · cases e
end
section
variable {K : PySem.W.Frag} {T : Tb} {fl : List Flg} {W : XK} {X : Cx} {a b : Expr} {p pos tpos : Pos} {Fa Fb : Z.Ex}
theorem di_zipT {elts : List Expr} {kk : Nat} (hg : Gl X "zip") (hm : X.mg "zip" = none) (ha : PE X a (tE K T W fl Fa)) (hb : PE X b (tE K T W fl Fb)) (hK : X.K = K)
    (hs : starEach [a, b] X.env = (false, eval a X.env) :: starEach [b] X.env := by rfl) (hs2 : starEach [b] X.env = (false, eval b X.env) :: starEach [] X.env := by rfl) (hpl : (backTo pos (starEach [b] X.env)).any (·.1) = false := by rfl) :
    PI X (.Tuple elts kk tpos) (.Call (.Name "zip" p) [a, b] [] pos) (tI K T W fl (iZipT Fa Fb)) := by
  subst hK
  refine PI.le (RZ.pi_zipA hg hm (pa_cons ha (pa_cons hb pa_nil hs2) hs) hs hpl) fun σ H R ⟨B, C, G0, H0, G, env, b, g, q⟩ => tE_then g q fun d b1 G1 H1 v s hb r g1 q => tE_then g1 q fun d2 b2 G2 H2 v2 s2 hb2 r2 g2 q => ?_
  cases d with
  | tup xs =>
    cases d2 with
    | tup ys =>
      unfold Rep at r r2
      obtain ⟨p, vs, e2, h1, h2⟩ := r
      obtain ⟨p', us, e2', h1', h2'⟩ := r2
      subst e2 e2'
      have k1 := sub_t s2.g h1
      have k2 := h2.mono s2.g
      refine ⟨p, p', vs, us, rfl, .inr ⟨sub_t s2.i k1, sub_t s2.i h1', q G2 H2 _ (s.trans s2) hb2 ⟨fun G3 H3 i t1 t2 hi => ?_, fun G3 H3 i x H' d t1 t2 hd hy => ?_, fun G3 H3 t1 t2 => ?_⟩⟩⟩
      · rw [zipD_len] at hi
        have l1 : i < vs.length := by
          rw [h2.length]
          omega
        have l2 : i < us.length := by
          rw [h2'.length]
          omega
        exact ⟨vs, us, vs[i], us[i], sub_t t2 (sub_t t1 k1), sub_t t2 (sub_t t1 h1'), List.getElem?_eq_getElem l1, List.getElem?_eq_getElem l2⟩
      · obtain ⟨Tt, x0, y0, e3, hT, e4, k, k'⟩ := hy
        obtain ⟨x1, y1, e5, e5', e6⟩ := zipD_get hd
        obtain ⟨w, e7, e8⟩ := k2.get e5
        obtain ⟨w', e7', e8'⟩ := h2'.get e5'
        have e9 := k vs (sub_t t2 (sub_t t1 k1))
        rw [e7] at e9
        cases e9
        have e9' := k' us (sub_t t2 (sub_t t1 h1'))
        rw [e7'] at e9'
        cases e9'
        subst e3 e4 e6
        have st := Stp.new (o := .tup [x0, y0]) t2 hT
        refine ⟨_, st, ?_⟩
        unfold Rep
        exact ⟨Tt, _, rfl, SqT.of upd_same, .cons (e8.mono (t1.trans st.g)) (.one (e8'.mono (t1.trans st.g)))⟩
      · refine ⟨vs, us, sub_t t2 (sub_t t1 k1), sub_t t2 (sub_t t1 h1'), ?_⟩
        rw [zipD_len, h2.length, h2'.length]
        omega
    | _ => exact q.elim
  | _ => exact q.elim
end
end ZL
end
section
set_option Elab.async false
set_option linter.all false
set_option maxRecDepth 100000
/-! LAYER: a, b = x, [..] where a tuple is built (a name is a cell); more looks of the head. -/
namespace ZL
open PySem PySem.Spec PyProof.Rows L2 Z
section
variable {K : PySem.W.Frag} {T : Tb} {kp : List Nat} {fl : List Flg} {W : XK} {X : Cx} {a b : Expr} {x y : Str} {i j : Nat} {px py pt pt2 pos : Pos} {kt k2 : Nat} {bk ct : List Flg} {Fa Fb : Z.Ex}
theorem ds_tupEF (hc : X.calm = true) (hN : X.N.Nodup) (hi : X.N[i]? = some x) (hj : X.N[j]? = some y) (hx : Loc X.env.scope x) (hy : Loc X.env.scope y)
    (ha : PE X a (tE K T W fl Fa)) (hb : PE X b (tF K T W fl Fb)) (hlb : ∀ env b d b', Fb env b = .ok d b' → ∃ ds, d = .lst ds) (hK : X.K = K) (hkp : apart kp [i, j] = true := by rfl) (hs : starEach [a, b] X.env = (false, eval a X.env) :: starEach [b] X.env := by rfl) (hs2 : starEach [b] X.env = (false, eval b X.env) :: starEach [] X.env := by rfl)
    (h1 : swapsWithSole [.Tuple [.Name x px, .Name y py] kt pt] (.Tuple [a, b] k2 pt2) pos.line X.env = pure false := by rfl) (hw : swappedStores [.Tuple [.Name x px, .Name y py] kt pt] (.Tuple [a, b] k2 pt2) X.env = pure none := by rfl)
    (h2 : (assignEach [.Tuple [.Name x px, .Name y py] kt pt] X.env).map (·.2) = [assign (.Tuple [.Name x px, .Name y py] kt pt) X.env] := by rfl)
    (hn : (assignEach [.Name x px, .Name y py] X.env).length = 2 := by rfl) (hst : (assignEach [.Name x px, .Name y py] X.env).findIdx? (·.1) = none := by rfl)
    (h3 : (assignEach [.Name x px, .Name y py] X.env).map (·.2) = assign (.Name x px) X.env :: (assignEach [.Name y py] X.env).map (·.2) := by rfl) (h4 : (assignEach [.Name y py] X.env).map (·.2) = assign (.Name y py) X.env :: (assignEach [] X.env).map (·.2) := by rfl)
    (hfx : X.fn x = true ∨ X.env.scope.names.lookup x = some .local := by first | exact .inl rfl | exact .inr rfl | assumption) (hfy : X.fn y = true ∨ X.env.scope.names.lookup y = some .local := by first | exact .inl rfl | exact .inr rfl | assumption) :
    PS X (.Assign [.Tuple [.Name x px, .Name y py] kt pt] (.Tuple [a, b] k2 pt2) pos) (tS K T W kp fl ⟨(fl.set i .dat).set j .ol, bk, ct⟩ (sPar i j Fa Fb)) := by
  subst hK
  have hp := ps_asg (pos := pos) (pe_tup (x1 := k2) (pos := pt2) (pa_cons ha (pa_cons hb pa_nil hs2) hs)) (pg_tup (k := kt) (pos := pt) hc (pgs_cons (pg_name (pos := px) hN hi hx hfx) (pgs_cons (pg_name (pos := py) hN hj hy hfy) pgs_nil h4) h3) hn hst) h1 hw h2
  refine ⟨fun pins s σ H Dd I q => hp.run pins s σ H Dd I ?_⟩
  obtain ⟨B, C, G0, H0, G, env, b, g, q⟩ := q
  have li : i < env.length := by
    rw [← g.len, I.len]
    exact (List.getElem?_eq_some_iff.mp hi).1
  have lj : j < env.length := by
    rw [← g.len, I.len]
    exact (List.getElem?_eq_some_iff.mp hj).1
  refine tE_then g q fun d b1 G1 H1 v s1 hb1 r1 g1 q => ?_
  have gn := g1.put r1 li
  refine tFl_then g1 hlb q fun ds2 b2 G2 H2 p2 vs2 s2 hb2 hp2 gp2 h2 r2 g2 q => ⟨by rw [sizeLine_eq]; exact Nat.succ_le_succ (Nat.succ_le_succ (Nat.zero_le _)), fun t ht => ?_⟩
  have np : p2 ≠ t := by
    rintro rfl
    rw [h2] at ht
    cases ht
  have st : Stp [] G2 H2 G2 (upd H2 t (.tup [v, .ref p2])) := Stp.laid s2.i ht
  refine ⟨t, [v, .ref p2], rfl, SqT.of upd_same, rfl, v, [.ref p2], rfl, .ref p2, [], rfl, rfl, ?_⟩
  exact q _ G2 _ (gn.own (s2.trans st.pure) (hb2.keep st) hp2 gp2 (setLt lj) (d := .lst ds2) (f := .ol) ⟨p2, vs2, ds2, rfl, rfl, by rw [upd_ne np]; exact h2, r2, rfl⟩) (s1.g.trans s2.g) (par_kept hkp)
end
section
variable {K : PySem.W.Frag} {T : Tb} {fl : List Flg} {W : XK} {X : Cx} {a b : Expr} {pos p2 : Pos} {Fa Fb : Z.Ex}
theorem de_cutA (ha : PE X a (tB K T W fl Fa)) (hb : PE X b (tE K T W fl Fb)) (hK : X.K = K) : PE X (.Subscript a (.Slice none (some b) none p2) pos) (tE K T W fl (x2 oCutA Fa Fb)) := by
  subst hK
  refine PE.le (pe_slice (sl_list.or sl_tup) ha po_none (po_some hb)) fun σ H Q ⟨B, C, G0, H0, G, env, bg, g, q⟩ => tB_then g q fun d b1 G1 H1 v s hb1 r g1 q => ?_
  show tE X.K T W fl Fb σ H1 fun x H2 => ∃ k, x = .int k ∧ (rSlL X.K v none (some k) H2 Q ∨ rSlT X.K v none (some k) H2 Q)
  refine tE_then g1 q fun d2 b2 G2 H2 v2 s2 hb2 r2 g2 q => ?_
  obtain ⟨d3, e, q⟩ := q.opt
  have r' := r.step s2
  by_cases c : ∃ xs, d = .tup xs
  · obtain ⟨xs, rfl⟩ := c
    have e : oCutT (.tup xs) d2 = some d3 := e
    obtain ⟨xs', k, ex, rfl, hk, hk2, rfl⟩ := oCutT_inv e
    cases ex
    obtain ⟨pp, vs, rfl, h1, h2⟩ := r'.tup s2.i
    have hl := h2.length
    obtain ⟨n, rfl⟩ : ∃ n : Nat, k = n := ⟨k.toNat, by omega⟩
    refine ⟨n, by unfold Rep at r2; exact r2, .inr ⟨pp, vs, rfl, h1, ?_, fun y hy => ?_⟩⟩
    · rw [HT.sIx_nat, HT.sIx_none]
      omega
    · rw [cutV_to]
      have st : Stp [] G2 H2 (upd G2 y (.tup (vs.take n))) (upd H2 y (.tup (vs.take n))) := Stp.new s2.i hy
      refine q _ _ (.ref y) ((s.trans s2).trans st.pure) (hb2.keep st) ?_
      unfold Rep
      exact ⟨y, _, rfl, SqT.of upd_same, by simpa using (h2.take n).mono st.g⟩
  · have e : oCut d d2 = some d3 := by
      unfold oCutA at e
      split at e
      · exact absurd ⟨_, rfl⟩ c
      · exact e
    obtain ⟨xs, k, rfl, rfl, hk, rfl⟩ := oCut_inv e
    obtain ⟨pp, vs, rfl, h1, h2⟩ := r'.lst s2.i
    refine ⟨k, by unfold Rep at r2; exact r2, .inl ⟨pp, vs, rfl, SqL.of h1, fun y hy => ?_⟩⟩
    obtain ⟨n, rfl⟩ : ∃ n : Nat, k = n := ⟨k.toNat, by omega⟩
    rw [cutV_to]
    have st : Stp [] G2 H2 (upd G2 y (.lst (vs.take n))) (upd H2 y (.lst (vs.take n))) := Stp.new s2.i hy
    refine q _ _ (.ref y) ((s.trans s2).trans st.pure) (hb2.keep st) ?_
    unfold Rep
    exact ⟨y, _, rfl, upd_same, by simpa using (h2.take n).mono st.g⟩
end
/-- no own != -/
def neB (K : PySem.W.Frag) (x : Str) : Bool := decide (PySem.W.findIn K (.ref (He.ga K x)) "__ne__" = some (some (.builtin "object.__ne__"))) && decide (PySem.W.mroIn K (He.ga K x) (.type "object") = some true)
theorem neB_ok {K : PySem.W.Frag} {x : Str} (h : neB K x = true) : PySem.W.findIn K (.ref (He.ga K x)) "__ne__" = some (some (.builtin "object.__ne__")) := of_decide_eq_true (Bool.and_eq_true_iff.mp h).1
theorem objB_ok {K : PySem.W.Frag} {x : Str} (h : neB K x = true) : PySem.W.mroIn K (He.ga K x) (.type "object") = some true := of_decide_eq_true (Bool.and_eq_true_iff.mp h).2
end ZL
end
section
set_option Elab.async false
set_option linter.all false
set_option maxRecDepth 100000
/-! LAYER: enumerate of a tuple. -/
namespace ZL
open PySem PySem.Spec PyProof.Rows L2 Z
set_option maxHeartbeats 1000000 in
theorem meets_enum1 {v : Value} {o : Obj} {H : Heap → Prop} (B : Begins v o H) :
    Meets (Builtin.«enumerate.__new__» ⟨[.type "enumerate", v], []⟩) (fun _ R s => H s.heap ∧
      R (.ok (.ret (.ref (s.heap.push o).objs.size))) { s with heap := (s.heap.push o).push { cls := .type "enumerate", data := .fields #[.none, .bool false, .ref s.heap.objs.size, rawInt 0, .none, .none] } }) :=
  .of_wp fun prog w A R s h => by
    obtain ⟨hp, g, d, tk, os⟩ := s; obtain ⟨h1, h⟩ := h
    have isSub := sub_enumerate
    have q1 : ∀ {A' : Around} {E : Value → Shared → Prop} {Q : Value → Shared → Prop}, Q (.ref hp.objs.size) ⟨hp.push o, g, d, tk, os⟩ → wpAny (model prog w) A' (pyIter v) Q E ⟨hp, g, d, tk, os⟩ :=
      fun q => B.iter prog w _ _ ⟨hp, g, d, tk, os⟩ _ h1 q
    wp_walk using q1
    refine wpAny_stack_any fun st => wpAny_pure ?_
    split
    · rename_i c _ _ _ _ _
      cases (c == Value.type "enumerate") <;> (wp_walk using q1; exact ⟨_, rfl, h⟩)
    · wp_walk using q1
      exact ⟨_, rfl, h⟩
section
variable {prog : Program} {w : World} {A : Around} {E : Value → Shared → Prop} {s : Shared}
theorem call_enumT {t : Addr} {items : Array Value} {Q : Value → Shared → Prop} (ht : s.heap.IsTuple t items)
    (h : ∀ h', IsEnum h' (s.heap.objs.size + 1) s.heap.objs.size 0 .none → h'.IsTupleIter s.heap.objs.size t 0 → (∀ b o, s.heap.get? b = some o → h'.get? b = some o) → Q (.ref (s.heap.objs.size + 1)) { s with heap := h' }) :
    wpAny (model prog w) A (call (.type "enumerate") [.ref t]) Q E s := by
  refine callType_new F.called_enumerate (by decide) (F.typeCall_enumerate_1 _) (F.newCall_enumerate_1 _) (fun obj => F.args_object_init_2 obj _) F.entry_enumerate_new (meets_enum1 (begins_tuple t items)) ⟨ht, ?_⟩
  have hz : (s.heap.push { cls := .type "tuple_iterator", data := .fields #[.ref t, .int 0 0] }).objs.size = s.heap.objs.size + 1 := Heap.size_push ..
  show _ ∧ _
  rw [hz]
  have he : IsEnum ((s.heap.push { cls := .type "tuple_iterator", data := .fields #[.ref t, .int 0 0] }).push { cls := .type "enumerate", data := .fields #[.none, .bool false, .ref s.heap.objs.size, rawInt 0, .none, .none] }) (s.heap.objs.size + 1) s.heap.objs.size 0 .none := by
    have := Heap.get?_push_size (s.heap.push { cls := .type "tuple_iterator", data := .fields #[.ref t, .int 0 0] }) (o := { cls := .type "enumerate", data := .fields #[.none, .bool false, .ref s.heap.objs.size, rawInt 0, .none, .none] }) rfl
    rw [hz] at this
    exact this
  exact ⟨⟨_, he, rfl⟩, h _ he ⟨_, Heap.get?_push_of_some _ (Heap.get?_push_size _ rfl), rfl, rfl⟩ fun b o x => Heap.get?_push_of_some _ (Heap.get?_push_of_some _ x)⟩
end
/-- the tuple at a, each item in a new pair -/
def IteT (K : PySem.W.Frag) (a : Addr) : It :=
  ⟨fun i H => ∃ (xs : List V) (x : V), SqT K H a xs ∧ xs[i]? = some x, fun i H v H' => ∃ T x, v = .ref T ∧ H T = none ∧ H' = upd H T (.tup [.int (i : Nat), x]) ∧ ∀ xs, SqT K H a xs → xs[i]? = some x, fun i H => ∃ xs : List V, SqT K H a xs ∧ xs.length ≤ i⟩
theorem turn_enumT {P : Program} {w : World} {K : PySem.W.Frag} {elts : List Expr} {kk : Nat} {tpos : Pos} (a e it : Addr) :
    Turn P w K (.Tuple elts kk tpos) (IteT K a) [e, it] e (fun i h => (∃ old, IsEnum h e it ((i : Nat) : Int) old) ∧ h.IsTupleIter it a i ∧ e ≠ it ∧ a ≠ it ∧ a ≠ e) where
  mem := by simp
  obj := fun i h st b hb => by
    obtain ⟨⟨old, he⟩, ⟨o, ho, hc, hd⟩, _⟩ := st
    have e' : b = e ∨ b = it := by simpa using hb
    rcases e' with z | z
    · rw [z]; exact ⟨_, he, fun v q => nomatch q⟩
    · rw [z]; exact ⟨o, ho, fun v q => by rw [hd] at q; cases q⟩
  keep := fun i h h' st k => let ⟨⟨old, he⟩, hi, hne⟩ := st; ⟨⟨old, k e (by simp) _ he⟩, hi.at fun o q => k it (by simp) o q, hne⟩
  item := by
    intro X hP hw hK hc i pins s σ H E I hf st hg
    subst hP hw hK
    obtain ⟨⟨old, he⟩, hit, hne, hai, hae⟩ := st
    obtain ⟨xs, x, hq, hx⟩ := hg
    obtain ⟨its, rv, p, hz⟩ := I.tuple hq
    obtain ⟨u, hu, ru⟩ := rv.get hx
    have hlt : i < its.toArray.size := by
      have := (List.getElem?_eq_some_iff.mp hu).1
      simpa using this
    have hel : e < s.heap.objs.size := Heap.lt_size he
    have hil : it < s.heap.objs.size := by obtain ⟨_, q, _⟩ := hit; exact Heap.lt_size q
    have pt : s.heap.IsTuple a its.toArray := p
    refine wpAny_pyNext_enum_itemD (Draws.tuple (A := X.A.in1) (show X.A.in1.handled = none from I.ok.hd hc) it a hai its.toArray) he ⟨hit, pt⟩ hlt hne (by simpa using ⟨hne, Ne.symm hae⟩) fun u' h' tk hu' ho st' hT hsz hk => ?_
    have eu : u' = u := by
      have : its.toArray[i]? = some u := by simpa using hu
      rw [this] at hu'
      exact (Option.some.inj hu').symm
    subst eu
    obtain ⟨hit', _⟩ := st'
    refine ⟨_, rfl, wpAny_letOwnedTupleGo_enum (s := { s with heap := h', toks := tk + 1 }) ho fun h'' he' sb => ?_⟩
    have hT2 : h''.get? s.heap.objs.size = some { cls := .type "tuple", data := .seq #[.int i tk, u'] } := (sb.2 _ (Nat.ne_of_gt hel)).trans hT
    have new : ObjOk X.prog X.w (upd H s.heap.objs.size (.tup [.int (i : Nat), x])) h'' s.heap.objs.size (.tup [.int (i : Nat), x]) :=
      ⟨by show 2 ≤ sizeLine; decide, [.int i tk, u'], .cons ⟨_, rfl⟩ (.cons ru .nil), ⟨_, hT2, rfl, _, rfl⟩⟩
    have I1 : Inv X pins σ (upd H s.heap.objs.size (.tup [.int (i : Nat), x])) { s with heap := h'', toks := tk + 1 } :=
      I.turnedNew (ch := [e, it]) (fun b ob hb q => (sb.2 b (fun z => hb (by simp [z]))).trans (hk b ob (fun z => hb (by simp [z])) (fun z => hb (by simp [z])) q)) hf (Nat.le_refl _) new
    refine ⟨.ref s.heap.objs.size, _, I1, rfl, ⟨_, x, rfl, I.hok.fresh (Nat.le_refl _), rfl, fun ys hy => by rw [I.tuple_inj hy hq]; exact hx⟩, ⟨⟨u', ?_⟩, hit'.at fun o q => (sb.2 it (Ne.symm hne)).trans q, hne, hai, hae⟩, fun b hb => ?_⟩
    · have e1 : ((i + 1 : Nat) : Int) = (i : Int) + 1 := by omega
      rw [e1]; exact he'
    · have hb' : b < s.heap.objs.size := by
        have e' : b = e ∨ b = it := by simpa using hb
        rcases e' with z | z
        · rw [z]; exact hel
        · rw [z]; exact hil
      rw [upd_ne (Nat.ne_of_lt hb')]
      exact (hf b hb).1
  done := by
    intro X hP hw hK hc i pins s σ H E I hf st hg
    subst hP hw hK
    obtain ⟨⟨old, he⟩, hit, hne, hai, hae⟩ := st
    obtain ⟨xs, hq, hx⟩ := hg
    obtain ⟨its, rv, p, hz⟩ := I.tuple hq
    obtain ⟨f0, f1, f2, f3, f4, f5⟩ := hf it (by simp)
    have hl := rv.length
    have pt : s.heap.IsTuple a its.toArray := p
    have hT : s.TypeIs (.ref e) "enumerate" := ⟨_, he, rfl⟩
    unfold pyNext
    refine wpAny_bind (wpAny_attempt (wpAny_callSpecial?_slot (name := Str.ofString "__next__") hT F.slot_enumerate_next (wpAny_call_entry F.slot_enumerate_next hT F.entry_enumerate_next ?_ (F.args_enumerate_next_1 _))))
    show wpAny _ _ (PySem.field (.ref e) 2 >>= _) _ _ _
    refine wpAny_bind (wpAny_field he rfl (x := .ref it) rfl ?_)
    refine wpAny_bind (wpAny_nextOf_tuple_end (show X.A.in1.handled = none from I.ok.hd hc) hit pt (by simp; omega) fun h' x he' hx' => ?_)
    obtain ⟨o, ho, hc'⟩ := hx'
    refine wpAny_bind (wpAny_isInstance (T := "StopIteration") (b := true) ⟨o, ho, hc'⟩ isSubtype_stop ?_)
    exact wpAny_pure ⟨rfl, I.turned (t' := s.toks) (fun b o hb q => he' b o hb q) f0 f1 f3 f4 f5⟩
  self := fun A i s Q E st h => let ⟨⟨_, he⟩, _⟩ := st; wpAny_pyIter_enum he h
def iEnumB (K : PySem.W.Frag) (ta : TA) : TI := fun σ H R => ta σ H fun vs H1 => ∃ a xs, vs = [.ref a] ∧ ((SqL K H1 a xs ∧ R (Ite K a) H1) ∨ (SqT K H1 a xs ∧ R (IteT K a) H1))
theorem pi_enumB {X : Cx} {e : Expr} {ta : TA} {p pos tpos : Pos} {elts : List Expr} {kk : Nat} (hg : Gl X "enumerate") (hm : X.mg "enumerate" = none) (ha : PA X [e] ta) (hs : starEach [e] X.env = [(false, eval e X.env)] := by rfl) :
    PI X (.Tuple elts kk tpos) (.Call (.Name "enumerate" p) [e] [] pos) (iEnumB X.K ta) := by
  refine ⟨fun pins s σ H R I h => ?_⟩
  refine Call_ (ld_blt I hg hm boot_enumerate (PyProof.Rows.callWith_type1 (thn (ha.run pos pins s σ H _ I h) fun us s1 ⟨vs, H1, I1, r1, q1⟩ => ?_) hs rfl))
  obtain ⟨a, xs, ex, q1⟩ := q1
  subst ex
  cases r1 with
  | cons r rr =>
    cases rr
    cases r
    have hfp : ∀ b ∈ [s1.heap.objs.size + 1, s1.heap.objs.size], FpOk X pins H1 b := fun b hb => by
      have e' : b = s1.heap.objs.size + 1 ∨ b = s1.heap.objs.size := by simpa using hb
      have hle : s1.heap.objs.size ≤ b := by
        rcases e' with z | z
        · rw [z]; exact Nat.le_add_right _ _
        · rw [z]; exact Nat.le_refl _
      exact I1.fpOk hle (I1.hok.fresh hle)
    rcases q1 with ⟨hq, q⟩ | ⟨hq, q⟩
    · obtain ⟨its, rv, p', hz⟩ := I1.list hq
      refine call_enumerate_list p'.isList fun h' he hit hsz hk => wpAny_pyIter_enum he ?_
      have I2 : Inv X pins σ H1 { s1 with heap := h' } := I1.kept (t' := s1.toks) hk
      exact ⟨s1.heap.objs.size + 1, [s1.heap.objs.size + 1, s1.heap.objs.size], _, _, H1, rfl, I2, turn_enum a (s1.heap.objs.size + 1) s1.heap.objs.size, ⟨⟨.none, he⟩, hit, Nat.succ_ne_self _⟩, hfp, q⟩
    · obtain ⟨its, rv, p', hz⟩ := I1.tuple hq
      obtain ⟨o1, ho1, _⟩ := id p'
      have hal := Heap.lt_size ho1
      refine call_enumT (show s1.heap.IsTuple a its.toArray from p') fun h' he hit hk => wpAny_pyIter_enum he ?_
      have I2 : Inv X pins σ H1 { s1 with heap := h' } := I1.kept (t' := s1.toks) hk
      exact ⟨s1.heap.objs.size + 1, [s1.heap.objs.size + 1, s1.heap.objs.size], _, _, H1, rfl, I2, turn_enumT a (s1.heap.objs.size + 1) s1.heap.objs.size, ⟨⟨.none, he⟩, hit, Nat.succ_ne_self _, Nat.ne_of_lt hal, Nat.ne_of_lt (Nat.lt_succ_of_lt hal)⟩, hfp, q⟩
section
variable {K : PySem.W.Frag} {T : Tb} {fl : List Flg} {W : XK} {X : Cx} {a : Expr} {Fa : Z.Ex}
theorem di_enumA {p pos tpos : Pos} {elts : List Expr} {kk : Nat} (hg : Gl X "enumerate") (hm : X.mg "enumerate" = none) (ha : PE X a (tE K T W fl Fa)) (hK : X.K = K) (hs : starEach [a] X.env = [(false, eval a X.env)] := by rfl) :
    PI X (.Tuple elts kk tpos) (.Call (.Name "enumerate" p) [a] [] pos) (tI K T W fl (iEnumA Fa)) := by
  subst hK
  refine PI.le (pi_enumB hg hm (pa_cons ha pa_nil hs) hs) fun σ H R ⟨B, C, G0, H0, G, env, b, g, q⟩ => tE_then g q fun d b1 G1 H1 v s hb r g1 q => ?_
  cases d with
  | lst xs =>
    unfold Rep at r
    obtain ⟨p, vs, e2, h1, h2⟩ := r
    subst e2
    refine ⟨p, vs, rfl, .inl ⟨SqL.of (s.i _ _ h1), q G1 H1 _ s hb ⟨fun G2 H2 i s1 s2 hi => ?_, fun G2 H2 i x H' d s1 s2 hd hy => ?_, fun G2 H2 s1 s2 => ?_⟩⟩⟩
    · rw [enumFrom_len] at hi
      have hl : i < vs.length := by
        rw [h2.length]
        exact hi
      exact ⟨vs, vs[i], SqL.of (s2 _ _ (s1 _ _ h1)), List.getElem?_eq_getElem hl⟩
    · obtain ⟨Tt, x0, e3, hT, e4, k⟩ := hy
      obtain ⟨y, e5, e6⟩ := enumFrom_get hd
      obtain ⟨w, e7, e8⟩ := h2.get e5
      have e9 := k vs (SqL.of (s2 _ _ (s1 _ _ h1)))
      rw [e7] at e9
      cases e9
      subst e3 e4 e6
      have st := Stp.new (o := .tup [.int (i : Nat), x0]) s2 hT
      refine ⟨_, st, ?_⟩
      unfold Rep
      refine ⟨Tt, _, rfl, SqT.of upd_same, .cons ?_ (.one (e8.mono (s1.trans st.g)))⟩
      rw [Int.zero_add]
      exact .int
    · exact ⟨vs, SqL.of (s2 _ _ (s1 _ _ h1)), by rw [enumFrom_len, h2.length]; exact Nat.le_refl _⟩
  | tup xs =>
    unfold Rep at r
    obtain ⟨p, vs, e2, h1, h2⟩ := r
    subst e2
    refine ⟨p, vs, rfl, .inr ⟨sub_t s.i h1, q G1 H1 _ s hb ⟨fun G2 H2 i s1 s2 hi => ?_, fun G2 H2 i x H' d s1 s2 hd hy => ?_, fun G2 H2 s1 s2 => ?_⟩⟩⟩
    · rw [enumFrom_len] at hi
      have hl : i < vs.length := by
        rw [h2.length]
        exact hi
      exact ⟨vs, vs[i], sub_t s2 (sub_t s1 h1), List.getElem?_eq_getElem hl⟩
    · obtain ⟨Tt, x0, e3, hT, e4, k⟩ := hy
      obtain ⟨y, e5, e6⟩ := enumFrom_get hd
      obtain ⟨w, e7, e8⟩ := h2.get e5
      have e9 := k vs (sub_t s2 (sub_t s1 h1))
      rw [e7] at e9
      cases e9
      subst e3 e4 e6
      have st := Stp.new (o := .tup [.int (i : Nat), x0]) s2 hT
      refine ⟨_, st, ?_⟩
      unfold Rep
      refine ⟨Tt, _, rfl, SqT.of upd_same, .cons ?_ (.one (e8.mono (s1.trans st.g)))⟩
      rw [Int.zero_add]
      exact .int
    · exact ⟨vs, sub_t s2 (sub_t s1 h1), by rw [enumFrom_len, h2.length]; exact Nat.le_refl _⟩
  | _ => exact q.elim
end
end ZL
end
section
set_option Elab.async false
set_option linter.all false
set_option maxRecDepth 100000
/-! LAYER: own == and != as tests. -/
namespace ZL
open PySem PySem.Spec PyProof.Rows L2 Z
section
variable {T : Tb} {fl : List Flg} {W : XK} {X : Cx} {a b : Expr} {p pos : Pos} {k c : Nat} {f : List D → M D} {Fa Fb : Z.Ex}
theorem dt_eqI (mo : EqOk X.prog X.w X.K T X.mg X.base k c f) (hr : Room k X.A) (hx : Passes (CX X.prog X.w) X W) (ha : PE X a (tE X.K T W fl Fa)) (hb : PE X b (tE X.K T W fl Fb)) : PT X (.Compare a [.Eq] [b] pos) (tT X.K T W fl (xEqI c f id Fa Fb)) := by
  obtain ⟨fa, fd, ps, h1, h2, h3, h4, F, hb'⟩ := mo.ex
  exact PT.le (pt_cmpR (op_ownEq F hr h1 h2 hb' hx) ha hb (nomark _)) fun σ H Q q => by
    obtain ⟨B, C, G0, H0, G, env, b0, g, q⟩ := tT_tE q
    exact own_cmp g q
theorem dt_neI (mo : EqOk X.prog X.w X.K T X.mg X.base k c f) (hr : Room (k + 1) X.A) (hx : Passes (CX X.prog X.w) X W) (ha : PE X a (tE X.K T W fl Fa)) (hb : PE X b (tE X.K T W fl Fb)) : PT X (.Compare a [.NotEq] [b] pos) (tT X.K T W fl (xEqI c f not Fa Fb)) := by
  obtain ⟨fa, fd, ps, h1, h2, h3, h4, F, hb'⟩ := mo.ex
  exact PT.le (pt_cmpR (op_ownNe F hr h3 h4 h1 h2 hb' hx) ha hb (nomark _)) fun σ H Q q => by
    obtain ⟨B, C, G0, H0, G, env, b0, g, q⟩ := tT_tE q
    exact own_cmp g q
end
end ZL
end
section
set_option Elab.async false
set_option linter.all false
set_option maxRecDepth 100000
set_option maxHeartbeats 0
/-! JOIN: the hook, the end of a law. -/
namespace ZL
open PySem PySem.Spec PyProof.Rows L2 Z
/-- the keyword-only default of x of the def at f, if it is an object -/
def kwdAt (f : Str × Option Str) (x : Str) (K : PySem.W.Frag) : Addr := match K.lookup (He.fAd K f) with
  | some ⟨_, _, .func fd, _⟩ => (match fd.kwdefaults with
    | .ref D => (match PySem.W.nsIn K D x with
      | some (some (.ref a)) => a
      | _ => 0)
    | _ => 0)
  | _ => 0
/-- () at a -/
def tup0 (K : PySem.W.Frag) (a : Addr) : Bool := match K.lookup a with
  | some ⟨.type c, _, .seq its _, _⟩ => decide (c = "tuple") && decide (its.toList = [])
  | _ => false
theorem tup0_ok {K : PySem.W.Frag} {T : Tb} {a : Addr} {G : Hp} (h : tup0 K a = true) : Rep K T G (.tup []) (.ref a) := by
  unfold tup0 at h
  cases q : K.lookup a with
  | none =>
    rw [q] at h
    cases h
  | some o =>
    obtain ⟨oc, od, dt, osl⟩ := o
    rw [q] at h
    cases oc with
    | type c =>
      cases dt with
      | seq its n =>
        obtain ⟨h1, h2⟩ := He.ba (show (decide (c = "tuple") && decide (its.toList = [])) = true from h)
        have e : its.toList = [] := of_decide_eq_true h2
        have e2 : its.size = 0 := by
          rw [← Array.length_toList, e]
          rfl
        unfold Rep
        refine ⟨a, [], rfl, .inr ⟨_, its, n, q, congrArg Value.type (of_decide_eq_true h1), rfl, by rw [e2]; exact Nat.zero_le _, ?_⟩, ?_⟩
        · rw [e]
          exact .nil
        · unfold Reps
          rfl
      | _ => cases h
    | _ => cases dt <;> cases h
/-- what isinstance asks of the class that the module's name x stands for -/
def insB (K : PySem.W.Frag) (x : Str) : Bool := decide (PySem.W.findIn K (.ref (He.ga K x)) "__class__" = some (some (.builtin "object.__class__"))) && (decide (PySem.W.specialIn K (.builtin "object.__class__") "__get__" = some (some (.builtin "getset_descriptor.__get__"))) &&
  (decide (PySem.W.takesIn K (.builtin "object.__class__") = some true) && (decide (PySem.W.mroIn K (He.ga K x) (.type "object") = some true) && decide (PySem.W.kitOne K (.ref (He.ga K x)) (.ref (He.ga K x)) = some true))))
theorem insB_ok {K : PySem.W.Frag} {x : Str} (cl : Cls K (He.ga K x)) (h : insB K x = true) : C8.InsC K (He.ga K x) := by
  obtain ⟨h1, h⟩ := He.ba h
  obtain ⟨h2, h⟩ := He.ba h
  obtain ⟨h3, h⟩ := He.ba h
  obtain ⟨h4, h5⟩ := He.ba h
  exact ⟨cl, of_decide_eq_true h1, of_decide_eq_true h2, of_decide_eq_true h3, of_decide_eq_true h4, of_decide_eq_true h5⟩
abbrev AlX : Type := He.AlD × Bool
def obsX (fa : List He.Fa) (fn : List He.DefD) (ex : PySem.W.Frag → Bool) (K : PySem.W.Frag) : AlX := (He.obsD fa fn K, ex K)
def obsXG (n : Nat) (fa : List He.Fa) (fn : List He.DefD) (ex : PySem.W.Frag → Bool) (g : Addr → Option Obj) : AlX := obsX fa fn ex (He.frG g (He.asD g n))
/-- the head's hook with a look of one's own -/
def hookX (n : Nat) (fa : List He.Fa) (fn : List He.DefD) (ex : PySem.W.Frag → Bool) : PySem.W.Hook where
  α := AlX
  obs := fun s => obsXG n fa fn ex s.heap.get?
  val := fun _ => (He.valD fn, true)
  says := fun _ h => ∃ K : PySem.W.Frag, K.In h ∧ He.SaysD fa fn K ∧ ex K = true
  of := fun _ _ e => ⟨_, He.frG_in, congrArg Prod.fst e, congrArg Prod.snd e⟩
  keeps := fun _ _ _ ⟨K, hK, c⟩ k => ⟨K, PySem.W.Frag.In.keeps hK k, c⟩
theorem obsXG_eq {n : Nat} {fa : List He.Fa} {fn : List He.DefD} {ex : PySem.W.Frag → Bool} {g : Addr → Option Obj} {s : Shared} (h : ∀ a, g a = s.heap.get? a) : obsXG n fa fn ex g = (hookX n fa fn ex).obs s := by
  have e : g = s.heap.get? := funext h
  rw [e] <;> rfl
/-- the end: the law's def, the denotation, and that it says True of each script -/
theorem end_of {l : PySem.W.OpenLaw} {n k : Nat} {q : Program} {loose : List Str} {XL : (Str → Option Value) → Heap → Prop} {Says : World → Heap → Prop} {d : DefRec} {x : Str} (hmost : l.most = some n) (hsz : n ≤ sizeLine) (hnd : d.params.defaults = []) (room : Room k callerA)
    (H0 : ∀ (w : World) (mg : Str → Option Value) (fa : Addr) (h : Heap), Says w h → mg d.name = some (.ref fa) → h.Ns mainGlobals mg → ∃ (K : PySem.W.Frag) (fd : FuncData) (T : Tb) (f : List D → M D), K.In h ∧ (∀ (s : Shared) (v : Value), BindsTo s fd ⟨[v], []⟩ [(x, v)]) ∧
      (∀ ns : List Int, ns.length ≤ n → ∃ b', f [.scr ns] ⟨0, 0, 0⟩ = .ok (.bl true) b') ∧ ∀ base : Heap, K.In base → base.Ns mainGlobals mg → FnOk l.prog w K mg base (CX l.prog w) k fa fd [x] (spM K T 1 false f)) :
    PySem.W.WalkO q loose XL Says l.row.toRowW d [] (fun f vs => PySem.call f vs) := by
  refine Att.attach_call hmost hnd ?_
  intro w st0 st1 mg mb fa o1 o2 o3 o4 a vs ns gr says o5 o6 o7 named hO hI hS hG
  obtain ⟨K, fd, T, f, inK, binds, isTrue, ok⟩ := H0 w mg fa _ says named gr.T.g
  refine law_call inK gr.T.g gr.T.b gr.T.builtins gr.T.nolimit hG hO hI (Nat.le_trans hS hsz) room ok binds (fun H only seq => ?_) fun H e s' z => ?_
  · obtain ⟨b', hb'⟩ := isTrue ns hS
    refine ⟨[], H, [.scr ns], [.ref a], ⟨0, 0, 0⟩, ⟨rfl, rfl⟩, rfl, .refl H, fun a h => (by cases h), ?_, ?_⟩
    · refine .one ?_
      unfold Rep
      exact ⟨a, rfl, seq⟩
    · rw [hb']
      intro v G' H' _ _ r
      unfold Rep at r
      exact r
  · obtain ⟨_, _, _, _, _, _, _, _, _, _, _, _, no⟩ := z
    exact no.elim
end ZL
end
section
set_option linter.all false
/-! PLAIN: the denotations of law_k82_regrouped_patterns, printed by gen.py. -/
namespace Zp
open Z
/- _law_bag : 0:script 1:at 2:cell 3:digits -/
def s__law_bag : Sm := (sAndF (sSet (gN 2) (xIf (x2 oLt (xV 1) (xA (o1 oLen) (xL [(xV 0)]))) (x2 oIx (xV 0) (xV 1)) (xC (.int 0)))) (sAndF (sSet (gN 3) (xIf (x2 oGe (xA (o1 oAbs) (xL [(xV 2)])) (x2 oPow (xC (.int 10)) (xC (.int 18)))) (xA (o1 oAbs) (xL [(xV 2)])) (xC (.int 0)))) (sRet (xLst (xL [(xV 3), (x2 oAdd (x2 oAdd (x2 oMul (x2 oMod (xA (o1 oInt) (xL [(xV 2)])) (xC (.int 2305843009213693951))) (xC (.int 5))) (x2 oMul (xC (.int 9973)) (xV 1))) (xC (.int 65537))), (xC (.int 0))])))))
def f__law_bag : List D → M D := runF 4 s__law_bag
/- _law_take : 0:bag 1:many 2:mixed 3:digit -/
def s__law_take : Sm := (sAnd (sIf (x2 oGt (xBag 0) (xC (.int 0))) (sAnd (sSet (gN 3) (x2 oMod (xA (o1 oInt) (xL [(xBag 0)])) (xV 1))) (sAnd (sBag 0 (x2 oFdiv (xBag 0) (xV 1))) (sRet (xV 3)))) sPass) (sAnd (sBag 2 (x2 oAdd (xBag 2) (xC (.int 1)))) (sAnd (sSet (gN 2) (x2 oMod (xA (o1 oInt) (xL [(x2 oPow (x2 oAdd (xBag 1) (x2 oMul (xC (.int 1000033)) (xBag 2))) (xC (.int 3)))])) (xC (.int 2305843009213693921)))) (sAnd (sSet (gN 2) (x2 oMod (xA (o1 oInt) (xL [(x2 oPow (x2 oAdd (xV 2) (x2 oMul (xC (.int 32452867)) (xBag 2))) (xC (.int 2)))])) (xC (.int 2305843009213693951)))) (sRet (x2 oMod (xA (o1 oInt) (xL [(x2 oFdiv (xV 2) (xC (.int 4096)))])) (xV 1)))))))
def f__law_take : List D → M D := runD true 4 s__law_take
/- _law_of : 0:bag 1:some -/
def s__law_of : Sm := (sRet (x2 oIx (xV 1) (xP f__law_take (xApp (xL [(xA (o1 oLen) (xL [(xV 1)]))]) []))))
def f__law_of : List D → M D := runD true 2 s__law_of
/- _law_names : 0:bag 1:many 2:found 3:turn 4:size 5:name 6:k 7:letter -/
def s__law_names : Sm := (sAnd (sSet (gN 2) (xLst (xL []))) (sAnd (sFor (iRng1 (xV 1)) (gN 3) (sAnd (sSet (gN 4) (x2 oIx (xLst (xL [(xC (.int 1)), (xC (.int 1)), (xC (.int 1)), (xC (.int 2)), (xC (.int 8))])) (xP f__law_take (xApp (xL [(xC (.int 5))]) [])))) (sAnd (sSet (gN 5) (x2 oJoin (xC (.str [])) (xLc (iRng1 (xV 4)) (gN 6) xYes (xP f__law_of (xApp (xL [(xC (.str ['a', 'b', 'c', 'd', 'e', 'f', 'g', 'h', 'i', 'j', 'k', 'l', 'm', 'n', 'o', 'p', 'q', 'r', 's', 't', 'u', 'v', 'w', 'x', 'y', 'z']))]) []))))) (sAnd (sIf (x2 oIn (xV 5) (xV 2)) (sSet (gN 5) (x2 oIx (xLc (iOf (xC (.str ['a', 'b', 'c', 'd', 'e', 'f', 'g', 'h', 'i', 'j', 'k', 'l', 'm', 'n', 'o', 'p', 'q', 'r', 's', 't', 'u', 'v', 'w', 'x', 'y', 'z']))) (gN 7) (x2 oNotIn (xV 7) (xV 2)) (xV 7)) (xC (.int 0)))) sPass) (sApp 2 (xV 5)))))) (sRet (xV 2))))
def f__law_names : List D → M D := runD true 8 s__law_names
/- _law_nodes : 0:bag 1:many 2:signs 3:found 4:turn 5:size 6:name 7:k 8:sign -/
def s__law_nodes : Sm := (sAnd (sPar 2 3 (xC (.str ['0', '1', '2', '3', '4', '5', '6', '7', '8', '9', 'a', 'b', 'c', 'd', 'e', 'f', 'g', 'h', 'i', 'j', 'k', 'l', 'm', 'n', 'o', 'p', 'q', 'r', 's', 't', 'u', 'v', 'w', 'x', 'y', 'z'])) (xLst (xL []))) (sAnd (sFor (iRng1 (xV 1)) (gN 4) (sAnd (sSet (gN 5) (x2 oIx (xLst (xL [(xC (.int 1)), (xC (.int 1)), (xC (.int 1)), (xC (.int 2)), (xC (.int 8))])) (xP f__law_take (xApp (xL [(xC (.int 5))]) [])))) (sAnd (sSet (gN 6) (x2 oJoin (xC (.str [])) (xLc (iRng1 (xV 5)) (gN 7) xYes (xP f__law_of (xApp (xL [(xV 2)]) []))))) (sAnd (sIf (x2 oIn (xV 6) (xV 3)) (sSet (gN 6) (x2 oIx (xLc (iOf (xV 2)) (gN 8) (x2 oNotIn (xV 8) (xV 3)) (xV 8)) (xC (.int 0)))) sPass) (sApp 3 (xV 6)))))) (sRet (xV 3))))
def f__law_nodes : List D → M D := runD true 9 s__law_nodes
/- _law_steps : 0:bag 1:many 2:names 3:labels 4:k -/
def s__law_steps : Sm := (sRet (xLc (iRng1 (xV 1)) (gN 4) xYes (xTup (xL [(xP f__law_of (xApp (xL [(xV 2)]) [])), (xP f__law_of (xApp (xL [(xV 3)]) [])), (xP f__law_of (xApp (xL [(xV 2)]) []))]))))
def f__law_steps : List D → M D := runD true 5 s__law_steps
/- _law_grouped : 0:bag 1:steps 2:clauses 3:step -/
def s__law_grouped : Sm := (sAnd (sOll 2) (sAnd (sFor (iOf (xV 1)) (gN 3) (sAnd (sIf (xAnd (x2 oNe (xLast 2) (xLst (xL []))) (x2 oEq (xP f__law_take (xApp (xL [(xC (.int 2))]) [])) (xC (.int 0)))) (sAppNil 2) sPass) (sAppLast 2 (xV 3)))) (sRet (xV 2))))
def f__law_grouped : List D → M D := runD true 4 s__law_grouped
/- _law_shown : 0:bag 1:names 2:many 3:left 4:found 5:turn -/
def s__law_shown : Sm := (sAnd (sPar 3 4 (xA (o1 oList) (xL [(xV 1)])) (xLst (xL []))) (sAnd (sFor (iRng1 (xV 2)) (gN 5) (sIf (x2 oNe (xV 3) (xLst (xL []))) (sAppPop 4 3 (xP f__law_take (xApp (xL [(xA (o1 oLen) (xL [(xV 3)]))]) []))) sPass)) (sRet (xV 4))))
def f__law_shown : List D → M D := runD true 6 s__law_shown
/- _law_used : 0:clauses 1:found 2:clause 3:source 4:label 5:target -/
def s__law_used : Sm := (sAnd (sSet (gN 1) (xLst (xL []))) (sAnd (sFor (iOf (xV 0)) (gN 2) (sFor (iOf (xV 2)) (gT [(gN 3), (gN 4), (gN 5)]) (sSet (gN 1) (x2 oAdd (xV 1) (xLst (xL [(xV 3), (xV 5)])))))) (sRet (x1 oSortS (xA (o1 oSet) (xL [(xV 1)]))))))
def f__law_used : List D → M D := runD false 6 s__law_used
/- _law_edges : 0:bag 1:nodes 2:labels 3:many 4:found 5:turn 6:edge -/
def s__law_edges : Sm := (sAnd (sSet (gN 4) (xLst (xL []))) (sAnd (sFor (iRng1 (xV 3)) (gN 5) (sAnd (sSet (gN 6) (xTup (xL [(xP f__law_of (xApp (xL [(xV 1)]) [])), (xP f__law_of (xApp (xL [(xV 2)]) [])), (xP f__law_of (xApp (xL [(xV 1)]) []))]))) (sIf (x2 oNotIn (xV 6) (xV 4)) (sApp 4 (xV 6)) sPass))) (sRet (xV 4))))
def f__law_edges : List D → M D := runD true 7 s__law_edges
/- is_label : 0:thing 1:sign -/
def s_is_label : Sm := (sRet (xAnd (x1 isStr (xV 0)) (xAnd (xCh oLt oLe (xC (.int 0)) (xA (o1 oLen) (xL [(xV 0)])) (xC (.int 8))) (xA (o1 oAll) (xL [(xLc (iOf (xV 0)) (gN 1) xYes (x2 oIn (xV 1) (xC (.str ['a', 'b', 'c', 'd', 'e', 'f', 'g', 'h', 'i', 'j', 'k', 'l', 'm', 'n', 'o', 'p', 'q', 'r', 's', 't', 'u', 'v', 'w', 'x', 'y', 'z']))))])))))
def f_is_label : List D → M D := runD false 2 s_is_label
/- is_step : 0:thing 1:one -/
def s_is_step : Sm := (sRet (xAnd (x1 isTup (xV 0)) (xAnd (x2 oEq (xA (o1 oLen) (xL [(xV 0)])) (xC (.int 3))) (xA (o1 oAll) (xL [(xLc (iOf (xV 0)) (gN 1) xYes (xQ f_is_label (xApp (xL [(xV 1)]) [])))])))))
def f_is_step : List D → M D := runD false 2 s_is_step
/- is_clause : 0:thing 1:one -/
def s_is_clause : Sm := (sRet (xAnd (x1 isLst (xV 0)) (xAnd (x2 oGt (xA (o1 oLen) (xL [(xV 0)])) (xC (.int 0))) (xA (o1 oAll) (xL [(xLc (iOf (xV 0)) (gN 1) xYes (xQ f_is_step (xApp (xL [(xV 1)]) [])))])))))
def f_is_clause : List D → M D := runD false 2 s_is_clause
/- Pattern.__init__ : 0:self 1:clauses 2:shown 3:at 4:clause 5:steps 6:names 7:name 8:step -/
def s_Pattern_init : Sm := (sAnd (sIf (x2 oEq (xA (o1 oLen) (xL [(xV 1)])) (xC (.int 0))) sNo sPass) (sAnd (sFor (iEnumA (xV 1)) (gT [(gN 3), (gN 4)]) (sIf (xNot (xQ f_is_clause (xApp (xL [(xV 4)]) []))) sNo sPass)) (sAnd (sSet (gN 5) (xLc2 (iOf (xV 1)) (gN 4) xYes (iOf (xV 4)) (gN 8) xYes (xV 8))) (sAnd (sIf (x2 oGt (xA (o1 oLen) (xL [(xV 5)])) (xC (.int 5))) sNo sPass) (sAnd (sSet (gN 6) (x1 oSortS (xSc2 (iOf (xV 5)) (gN 8) xYes (iOf (xTup (xL [(x2 oIx (xV 8) (xC (.int 0))), (x2 oIx (xV 8) (xC (.int 2)))]))) (gN 7) xYes (xV 7)))) (sAnd (sIf (x2 oGt (xA (o1 oLen) (xL [(xV 6)])) (xC (.int 5))) sNo sPass) (sAnd (sFor (iEnumA (xV 2)) (gT [(gN 3), (gN 7)]) (sIf (xOr (x2 oNotIn (xV 7) (xV 6)) (x2 oIn (xV 7) (x2 oCutA (xV 2) (xV 3)))) sNo sPass)) (sAnd (sOwnF 0 2 0 (xA (o1 oTuple) (xL [(xLc (iOf (xV 1)) (gN 4) xYes (xA (o1 oTuple) (xL [(xV 4)])))]))) (sAnd (sOwnF 0 2 1 (xA (o1 oTuple) (xL [(xV 2)]))) (sAnd (sOwnF 0 2 2 (xA (o1 oTuple) (xL [(xV 5)]))) (sOwnF 0 2 3 (xA (o1 oTupleF) (xL [(xV 6)])))))))))))))
def f_Pattern_init : List D → M D := runIn 2 4 9 s_Pattern_init
/- _law_made : 0:told 1:clause -/
def s__law_made : Sm := (sRet (fun env => M.bnd (xL [(xLc (iOf (x2 oIx (xV 0) (xC (.int 0)))) (gN 1) xYes (xA (o1 oList) (xL [(xV 1)])))] env) fun ds => M.bnd (xL [(xA (o1 oList) (xL [(x2 oIx (xV 0) (xC (.int 1)))]))] env) fun es => pureC f_Pattern_init (ds ++ es)))
def f__law_made : List D → M D := runD false 2 s__law_made
/- is_node : 0:thing 1:sign -/
def s_is_node : Sm := (sRet (xAnd (x1 isStr (xV 0)) (xAnd (xCh oLt oLe (xC (.int 0)) (xA (o1 oLen) (xL [(xV 0)])) (xC (.int 8))) (xA (o1 oAll) (xL [(xLc (iOf (xV 0)) (gN 1) xYes (x2 oIn (xV 1) (x2 oAdd (xC (.str ['a', 'b', 'c', 'd', 'e', 'f', 'g', 'h', 'i', 'j', 'k', 'l', 'm', 'n', 'o', 'p', 'q', 'r', 's', 't', 'u', 'v', 'w', 'x', 'y', 'z'])) (xC (.str ['0', '1', '2', '3', '4', '5', '6', '7', '8', '9'])))))])))))
def f_is_node : List D → M D := runD false 2 s_is_node
/- is_edge : 0:thing -/
def s_is_edge : Sm := (sAnd (sIf (xOr (xNot (x1 isTup (xV 0))) (x2 oNe (xA (o1 oLen) (xL [(xV 0)])) (xC (.int 3)))) (sRet (xC (.bl false))) sPass) (sRet (xAnd (xQ f_is_node (xApp (xL [(x2 oIx (xV 0) (xC (.int 0)))]) [])) (xAnd (xQ f_is_label (xApp (xL [(x2 oIx (xV 0) (xC (.int 1)))]) [])) (xQ f_is_node (xApp (xL [(x2 oIx (xV 0) (xC (.int 2)))]) []))))))
def f_is_edge : List D → M D := runD false 1 s_is_edge
/- check_edges : 0:edges 1:at 2:edge -/
def s_check_edges : Sm := (sFor (iEnum (xV 0)) (gT [(gN 1), (gN 2)]) (sIf (xNot (xQ f_is_edge (xApp (xL [(xV 2)]) []))) sNo sPass))
def f_check_edges : List D → M D := runD false 3 s_check_edges
/- ends_of : 0:edges 1:source 2:_ 3:target -/
def s_ends_of : Sm := (sRet (x2 oAdd (xLc (iOf (xV 0)) (gT [(gN 1), (gN 2), (gN 2)]) xYes (xV 1)) (xLc (iOf (xV 0)) (gT [(gN 2), (gN 2), (gN 3)]) xYes (xV 3))))
def f_ends_of : List D → M D := runD false 4 s_ends_of
/- Graph.__init__ : 0:self 1:edges 2:nodes 3:node -/
def s_Graph_init : Sm := (sAnd (sDo (xQ f_check_edges (xApp (xL [(xV 1)]) []))) (sAnd (sFor (iOf (xV 2)) (gN 3) (sIf (xNot (xQ f_is_node (xApp (xL [(xV 3)]) []))) sNo sPass)) (sAnd (sOwnF 0 1 0 (x1 oSortS (xA (o1 oSet) (xL [(xV 1)])))) (sOwnF 0 1 1 (x1 oSortS (xA (o1 oSet) (xL [(xLstG (xStar (xQ f_ends_of (xApp (xL [(xOwnF 0 1 0)]) [])) (xStar (xV 2) xNil)))])))))))
def f_Graph_init : List D → M D := runIn 1 2 4 s_Graph_init
/- _law_numberings : 0:many 1:found 2:k 3:longer 4:one 5:more -/
def s__law_numberings : Sm := (sAnd (sSet (gN 1) (xLst (xL [(xTup (xL []))]))) (sAnd (sFor (iRng1 (xV 0)) (gN 2) (sAnd (sSet (gN 3) (xLst (xL []))) (sAnd (sFor (iOf (xV 1)) (gN 4) (sSet (gN 3) (x2 oAdd (xV 3) (xLc (iRng1 (x2 oAdd (x1 oLenS (xA (o1 oSetT) (xL [(xV 4)]))) (xC (.int 1)))) (gN 5) xYes (x2 oAdd (xV 4) (xTup (xL [(xV 5)]))))))) (sSet (gN 1) (xV 3))))) (sRet (xV 1))))
def f__law_numberings : List D → M D := runD false 6 s__law_numberings
/- is_numbering : 0:thing 1:many 2:top 3:one -/
def s_is_numbering : Sm := (sAnd (sIf (xOr (xNot (x1 isTup (xV 0))) (x2 oNe (xA (o1 oLen) (xL [(xV 0)])) (xV 1))) (sRet (xC (.bl false))) sPass) (sAnd (sSet (gN 2) (x1 oNeg (xC (.int 1)))) (sAnd (sFor (iOf (xV 0)) (gN 3) (sAnd (sIf (xOr (xNot (x1 isInt (xV 3))) (xOr (x1 isBool (xV 3)) (xNot (xCh oLe oLe (xC (.int 0)) (xV 3) (x2 oAdd (xV 2) (xC (.int 1))))))) (sRet (xC (.bl false))) sPass) (sSet (gN 2) (xA (o2 oMax2) (xL [(xV 2), (xV 3)]))))) (sRet (xC (.bl true))))))
def f_is_numbering : List D → M D := runD false 4 s_is_numbering
/- Pattern.__len__ : 0:self -/
def s_Pattern_len : Sm := (sRet (xA (o1 oLen) (xL [(x1 (fld 2 2) (xV 0))])))
def f_Pattern_len : List D → M D := runD false 1 s_Pattern_len
/- regrouped : 0:pattern 1:regrouping 2:clauses 3:number 4:step 5:at -/
def s_regrouped : Sm := (sAnd (sIf (xNot (xQ f_is_numbering (xApp (xL [(xV 1), (xLenI 2 f_Pattern_len (xV 0))]) []))) sNo sPass) (sAnd (sSet (gN 2) (xLc (iRng1 (x2 oAdd (xA (o1 oMaxS) (xL [(xV 1)])) (xC (.int 1)))) (gN 3) xYes (xLc (iZipT (x1 (fld 2 2) (xV 0)) (xV 1)) (gT [(gN 4), (gN 5)]) (x2 oEq (xV 5) (xV 3)) (xV 4)))) (sRet (fun env => M.bnd (xL [(xV 2)] env) fun ds => M.bnd (xL [(x1 (fld 2 1) (xV 0))] env) fun es => pureC f_Pattern_init (ds ++ es)))))
def f_regrouped : List D → M D := runD false 6 s_regrouped
/- _law_put_anew : 0:steps 1:numbers 2:clauses 3:number 4:k -/
def s__law_put_anew : Sm := (sAnd (sSet (gN 2) (xLst (xL []))) (sAnd (sFor (iRng1 (x2 oAdd (xA (o1 oMaxS) (xL [(xV 1)])) (xC (.int 1)))) (gN 3) (sApp 2 (xLc (iRng1 (xA (o1 oLen) (xL [(xV 0)]))) (gN 4) (x2 oEq (x2 oIx (xV 1) (xV 4)) (xV 3)) (x2 oIx (xV 0) (xV 4))))) (sRet (xV 2))))
def f__law_put_anew : List D → M D := runD false 5 s__law_put_anew
/- Pattern.__eq__ : 0:self 1:other -/
def s_Pattern_eq : Sm := (sRet (xAnd (x1 (isInsC 2) (xV 1)) (xAnd (x2 oEq (x1 (fld 2 0) (xV 0)) (x1 (fld 2 0) (xV 1))) (x2 oEq (x1 (fld 2 1) (xV 0)) (x1 (fld 2 1) (xV 1))))))
def f_Pattern_eq : List D → M D := runD false 2 s_Pattern_eq
/- Graph.__len__ : 0:self -/
def s_Graph_len : Sm := (sRet (xA (o1 oLen) (xL [(x1 (fld 1 0) (xV 0))])))
def f_Graph_len : List D → M D := runD false 1 s_Graph_len
/- extended_places : 0:places 1:step 2:edge 3:source 4:label 5:target 6:found -/
def s_extended_places : Sm := (sAnd (sSet (gT [(gN 3), (gN 4), (gN 5)]) (xV 1)) (sAnd (sIf (xOr (x2 oNe (x2 oIx (xV 2) (xC (.int 1))) (xV 4)) (x2 oNe (xDGet2 (xV 0) (xV 3) (x2 oIx (xV 2) (xC (.int 0)))) (x2 oIx (xV 2) (xC (.int 0))))) (sRet (xC .non)) sPass) (sAnd (sSet (gN 6) (xA (o1 oDict) (xL [(xV 0)]))) (sAnd (sDPut 6 (xV 3) (x2 oIx (xV 2) (xC (.int 0)))) (sAnd (sIf (x2 oNe (xDGet2 (xV 6) (xV 5) (x2 oIx (xV 2) (xC (.int 2)))) (x2 oIx (xV 2) (xC (.int 2)))) (sRet (xC .non)) sPass) (sAnd (sDPut 6 (xV 5) (x2 oIx (xV 2) (xC (.int 2)))) (sRet (xV 6))))))))
def f_extended_places : List D → M D := runD false 7 s_extended_places
/- placements : 0:clauses 1:edges 2:places 3:found 4:clause 5:step 6:longer 7:one 8:used 9:edge 10:more -/
def s_placements : Sm := (sAnd (sSet (gN 3) (xLst (xL [(xV 2)]))) (sAnd (sFor (iOf (xV 0)) (gN 4) (sAnd (sSet (gN 3) (xLc (iOf (xV 3)) (gN 7) xYes (xTup (xL [(xV 7), (xLst (xL []))])))) (sAnd (sFor (iOf (xV 4)) (gN 5) (sAnd (sSet (gN 6) (xLst (xL []))) (sAnd (sFor (iOf (xV 3)) (gT [(gN 7), (gN 8)]) (sFor (iOf (xV 1)) (gN 9) (sAnd (sSet (gN 10) (xIf (x2 oIn (xV 9) (xV 8)) (xC .non) (xQ f_extended_places (xApp (xL [(xV 7), (xV 5), (xV 9)]) [])))) (sIf (x2 oIsNot (xV 10) (xC .non)) (sApp 6 (xTup (xL [(xV 10), (x2 oAdd (xV 8) (xLst (xL [(xV 9)])))]))) sPass)))) (sSet (gN 3) (xA (o1 oList) (xL [(xV 6)])))))) (sSet (gN 3) (xLc (iOf (xV 3)) (gT [(gN 7), (gN 8)]) xYes (xV 7)))))) (sRet (xV 3))))
def f_placements : List D → M D := runD false 11 s_placements
/- Graph.edges : 0:self -/
def s_Graph_edges : Sm := (sRet (xA (o1 oList) (xL [(x1 (fld 1 0) (xV 0))])))
def f_Graph_edges : List D → M D := runD false 1 s_Graph_edges
/- Pattern.row_of : 0:self 1:places 2:name -/
def s_Pattern_row_of : Sm := (sRet (xA (o1 oTuple) (xL [(xLc (iOf (x1 (fld 2 3) (xV 0))) (gN 2) xYes (xDIx (xV 1) (xV 2)))])))
def f_Pattern_row_of : List D → M D := runD false 3 s_Pattern_row_of
/- Pattern.rows : 0:self 1:graph 2:one -/
def s_Pattern_rows : Sm := (sAnd (sIf (x2 oGt (xLenI 1 f_Graph_len (xV 1)) (xC (.int 6))) sNo sPass) (sRet (xA (o1 oSorted) (xL [(xLc (iOf (xQ f_placements (xApp (xL [(x1 (fld 2 0) (xV 0)), (xMeth 1 f_Graph_edges (xV 1) (xL [])), xDct0]) []))) (gN 2) xYes (xMeth 2 f_Pattern_row_of (xV 0) (xL [(xV 2)])))]))))
def f_Pattern_rows : List D → M D := runD false 3 s_Pattern_rows
/- _law_rows : 0:clauses 1:edges 2:found 3:clause 4:step 5:longer 6:places 7:used 8:edge 9:more 10:name 11:node 12:pair -/
def s__law_rows : Sm := (sAnd (sSet (gN 2) (xLst (xL [(xLst (xL []))]))) (sAnd (sFor (iOf (xV 0)) (gN 3) (sAnd (sSet (gN 2) (xLc (iOf (xV 2)) (gN 6) xYes (xTup (xL [(xV 6), (xLst (xL []))])))) (sAnd (sFor (iOf (xV 3)) (gN 4) (sAnd (sSet (gN 5) (xLst (xL []))) (sAnd (sFor (iOf (xV 2)) (gT [(gN 6), (gN 7)]) (sFor (iOf (xLc (iOf (xV 1)) (gN 8) (xAnd (x2 oEq (x2 oIx (xV 8) (xC (.int 1))) (x2 oIx (xV 4) (xC (.int 1)))) (x2 oNotIn (xV 8) (xV 7))) (xV 8))) (gN 8) (sAnd (sSet (gN 9) (x2 oAdd (xV 6) (xLc (iOf (xLst (xL [(xTup (xL [(x2 oIx (xV 4) (xC (.int 0))), (x2 oIx (xV 8) (xC (.int 0)))])), (xTup (xL [(x2 oIx (xV 4) (xC (.int 2))), (x2 oIx (xV 8) (xC (.int 2)))]))]))) (gN 12) (x2 oNotIn (xV 12) (xV 6)) (xV 12)))) (sIf (x2 oEq (x1 oLenS (xA (o1 oSet) (xL [(xLc (iOf (xV 9)) (gN 12) xYes (x2 oIx (xV 12) (xC (.int 0))))]))) (x1 oLenS (xA (o1 oSet) (xL [(xV 9)])))) (sApp 5 (xTup (xL [(xV 9), (x2 oAdd (xV 7) (xLst (xL [(xV 8)])))]))) sPass)))) (sSet (gN 2) (xA (o1 oList) (xL [(xV 5)])))))) (sSet (gN 2) (xLc (iOf (xV 2)) (gT [(gN 6), (gN 7)]) xYes (xV 6)))))) (sRet (xA (o1 oSorted) (xL [(xLc (iOf (xV 2)) (gN 6) xYes (xA (o1 oTuple) (xL [(xLc (iOf (x1 oSortS (xA (o1 oSet) (xL [(xV 6)])))) (gT [(gN 10), (gN 11)]) xYes (xV 11))])))])))))
def f__law_rows : List D → M D := runD false 13 s__law_rows
/- law : 0:script 1:at 2:bag 3:names 4:labels 5:nodes 6:steps 7:clauses 8:stands 9:k 10:shown 11:edges 12:made 13:graph 14:all_numbers 15:some 16:numbers 17:told 18:due 19:turn 20:clause -/
def s_law : Sm := (sAnd (sFor (iRng1 (xA (o2 oMax2) (xL [(xC (.int 1)), (xA (o2 oMin2) (xL [(xC (.int 4)), (xA (o1 oLen) (xL [(xV 0)]))]))]))) (gN 1) (sNewBag (xQ f__law_bag (xApp (xL [(xV 0), (xV 1)]) [])) (sAnd (sSet (gN 3) (xP f__law_names (xApp (xL [(x2 oAdd (xC (.int 1)) (xP f__law_take (xApp (xL [(xC (.int 5))]) [])))]) []))) (sAnd (sSet (gN 4) (xP f__law_names (xApp (xL [(x2 oAdd (xC (.int 1)) (xP f__law_take (xApp (xL [(xC (.int 2))]) [])))]) []))) (sAnd (sSet (gN 5) (xP f__law_nodes (xApp (xL [(x2 oAdd (xC (.int 1)) (xP f__law_take (xApp (xL [(xC (.int 3))]) [])))]) []))) (sAnd (sSet (gN 6) (xP f__law_steps (xApp (xL [(x2 oAdd (xC (.int 1)) (xP f__law_take (xApp (xL [(xC (.int 5))]) []))), (xV 3), (xV 4)]) []))) (sAnd (sPar 7 8 (xP f__law_grouped (xApp (xL [(xV 6)]) [])) (xLst (xL []))) (sAnd (sFor (iRng1 (xA (o1 oLen) (xL [(xV 7)]))) (gN 9) (sSet (gN 8) (x2 oAdd (xV 8) (x2 oMulL (xLst (xL [(xV 9)])) (xA (o1 oLen) (xL [(x2 oIx (xV 7) (xV 9))])))))) (sAnd (sSet (gN 10) (xP f__law_shown (xApp (xL [(xQ f__law_used (xApp (xL [(xV 7)]) [])), (xP f__law_take (xApp (xL [(xC (.int 4))]) []))]) []))) (sAnd (sPar 11 12 (xP f__law_edges (xApp (xL [(xV 5), (xV 4), (x2 oAdd (xC (.int 1)) (xP f__law_take (xApp (xL [(xC (.int 6))]) [])))]) [])) (xQ f__law_made (xApp (xL [(xTup (xL [(xV 7), (xV 10)]))]) []))) (sAnd (sSet (gT [(gN 13), (gN 14)]) (xTup (xL [(xQ f_Graph_init (xApp (xL [(xA (o1 oList) (xL [(xV 11)]))]) [.tup []])), (xQ f__law_numberings (xApp (xL [(xA (o1 oLen) (xL [(xV 6)]))]) []))]))) (sAnd (sSet (gN 15) (x2 oAdd (xLc (iRng1 (xC (.int 4))) (gN 19) xYes (xP f__law_of (xApp (xL [(xV 14)]) []))) (xLst (xL [(x2 oIx (xV 14) (xC (.int 0))), (x2 oIx (xV 14) (x1 oNeg (xC (.int 1))))])))) (sAnd (sFor (iOf (xV 15)) (gN 16) (sAnd (sPar 17 18 (xQ f_regrouped (xApp (xL [(xV 12), (xV 16)]) [])) (xQ f__law_put_anew (xApp (xL [(xV 6), (xV 16)]) []))) (sAnd (sIf (xOr (x2 oNe (x1 (fld 2 0) (xV 17)) (xA (o1 oTuple) (xL [(xLc (iOf (xV 18)) (gN 20) xYes (xA (o1 oTuple) (xL [(xV 20)])))]))) (x2 oNe (x1 (fld 2 1) (xV 17)) (xA (o1 oTuple) (xL [(xV 10)])))) (sRet (xC (.bl false))) sPass) (sIf (xOr (x2 oNe (xMeth 2 f_Pattern_rows (xV 17) (xL [(xV 13)])) (xQ f__law_rows (xApp (xL [(xV 18), (xV 11)]) []))) (xEqI 2 f_Pattern_eq not (xV 17) (xQ f__law_made (xApp (xL [(xTup (xL [(xV 18), (xV 10)]))]) [])))) (sRet (xC (.bl false))) sPass)))) (sIf (xOr (xEqI 2 f_Pattern_eq not (xQ f_regrouped (xApp (xL [(xV 12), (xA (o1 oTuple) (xL [(xV 8)]))]) [])) (xV 12)) (x2 oNe (x1 (fld 2 0) (xV 12)) (xA (o1 oTuple) (xL [(xLc (iOf (xV 7)) (gN 20) xYes (xA (o1 oTuple) (xL [(xV 20)])))])))) (sRet (xC (.bl false))) sPass)))))))))))))) (sRet (xC (.bl true))))
def f_law : List D → M D := runD false 21 s_law
end Zp
end
section
set_option autoImplicit false
set_option Elab.async false
set_option linter.all false
set_option maxRecDepth 100000
set_option maxHeartbeats 0
namespace Wk
open PySem PySem.Spec PyProof.Rows L2 Z ZL
def top (i : Nat) : Stmt := PySem.Challenge.pw_pathmodes_k82_regrouped_patterns.main.body.getD i (.Pass ⟨0, 0, 0, 0⟩)
theorem un_le {u k m n : Nat} (h : u + m < n) (hk : k ≤ m) : u + k < n := by omega
structure Mg (K : PySem.W.Frag) (T : Tb) (mg : Str → Option Value) : Prop where
  b_abs : mg "abs" = none
  b_all : mg "all" = none
  b_bool : mg "bool" = none
  b_dict : mg "dict" = none
  b_enumerate : mg "enumerate" = none
  b_int : mg "int" = none
  b_isinstance : mg "isinstance" = none
  b_len : mg "len" = none
  b_list : mg "list" = none
  b_max : mg "max" = none
  b_min : mg "min" = none
  b_range : mg "range" = none
  b_set : mg "set" = none
  b_sorted : mg "sorted" = none
  b_str : mg "str" = none
  b_tuple : mg "tuple" = none
  b_zip : mg "zip" = none
  c_DIGITS : ∃ t, mg "DIGITS" = some (.str "0123456789" t)
  c_LETTERS : ∃ t, mg "LETTERS" = some (.str "abcdefghijklmnopqrstuvwxyz" t)
  c_LONGEST : ∃ t, mg "LONGEST" = some (.int (8) t)
  c_MOST_EDGES : ∃ t, mg "MOST_EDGES" = some (.int (6) t)
  c_MOST_STEPS : ∃ t, mg "MOST_STEPS" = some (.int (5) t)
  c_MOST_VARIABLES : ∃ t, mg "MOST_VARIABLES" = some (.int (5) t)
  na_Graph_points : NoAttr K (T.adr 1) "points"
  na_Graph_triples : NoAttr K (T.adr 1) "triples"
  na_Pattern_all_steps : NoAttr K (T.adr 2) "all_steps"
  na_Pattern_clauses : NoAttr K (T.adr 2) "clauses"
  na_Pattern_names : NoAttr K (T.adr 2) "names"
  na_Pattern_shown : NoAttr K (T.adr 2) "shown"
  cls_Graph : Cls K (T.adr 1)
  fld_Graph : T.fld 1 = (["triples", "points"] : List Str)
  mg_Graph : mg "Graph" = some (.ref (T.adr 1))
  ic_Graph : C8.InsC K (T.adr 1)
  cls_Pattern : Cls K (T.adr 2)
  fld_Pattern : T.fld 2 = (["clauses", "shown", "all_steps", "names"] : List Str)
  mg_Pattern : mg "Pattern" = some (.ref (T.adr 2))
  ic_Pattern : C8.InsC K (T.adr 2)
section
variable {P : Program} {w : World} {K : PySem.W.Frag} {T : Tb} {mg : Str → Option Value} {base : Heap}
theorem sc__law_bag : FnScope ["script", "at", "cell", "digits"] ["script", "at"] (defScope (top 35)) := ⟨rfl, rfl, rfl, by decide +kernel, rfl, by decide +kernel, by decide +kernel⟩
theorem ok__law_bag (M : Mg K T mg)  {f : Addr} {fd : FuncData} (F : FunD K "_law_bag" "_law_bag" (defArgs (top 35)) (defBody (top 35)) (defScope (top 35)) [] [] f fd) : FnOk P w K mg base (CX P w) 1 f fd ["script", "at"] (spF K T 2 Zp.f__law_bag) :=
  def_okF (S := Zp.s__law_bag) F sc__law_bag rfl rfl (by decide) fun cdv A outer s H E hr =>
    have Sc := @sc__law_bag
    have hx : Passes (CX P w) (cxOf (CX P w) P w K mg base ["script", "at", "cell", "digits"] "_law_bag" (defScope (top 35)) f cdv A outer s H E) E := passes_call (takes_of rfl rfl rfl rfl) fun _ _ _ _ h => h
    have hp : PassesOwn (model P w) (cxOf (CX P w) P w K mg base ["script", "at", "cell", "digits"] "_law_bag" (defScope (top 35)) f cdv A outer s H E).A (cxOf (CX P w) P w K mg base ["script", "at", "cell", "digits"] "_law_bag" (defScope (top 35)) f cdv A outer s H E).env (cxOf (CX P w) P w K mg base ["script", "at", "cell", "digits"] "_law_bag" (defScope (top 35)) f cdv A outer s H E).xe := passes_of rfl
    (dssF_cons (fm := [.dat, .dat, .dat, .un]) (ds_weak (fl' := [.dat, .dat, .un, .un]) (fo' := ⟨[.dat, .dat, .dat, .un], [], []⟩) (ds_set (de_if (dt_cmp sem_cmp (pt_cmpR op_lt (de_b (de_var 1 rfl (pv 1))) (de_b (de_bi call_lenA sem_len PySem.boot_len rfl M.b_len (db_cons (de_b (de_var 0 rfl (pv 0))) db_nil))) (nomark _))) (op2_e sem_ix (pe_ix ix_A (de_b (de_var 0 rfl (pv 0))) (de_b (de_var 1 rfl (pv 1))) (by intro _ _; rfl))) de_int) (dg_name (pg_name (i := 2) Sc.nd rfl (Or.inl rfl)) (Nat.le_of_ble_eq_true rfl))) rfl rfl rfl rfl) (dssF_cons (fm := [.dat, .dat, .dat, .dat]) (ds_set (de_if (dt_cmp sem_cmp (pt_cmpR op_ge (de_b (de_bi call_absA sem_abs (by decide +kernel) rfl M.b_abs (db_cons (de_b (de_var 2 rfl (pv 2))) db_nil))) (de_b (op2_e sem_pow (pe_op op_pow (de_b de_int) (de_b de_int)))) (nomark _))) (de_bi call_absA sem_abs (by decide +kernel) rfl M.b_abs (db_cons (de_b (de_var 2 rfl (pv 2))) db_nil)) de_int) (dg_name (pg_name (i := 3) Sc.nd rfl (Or.inl rfl)) (Nat.le_of_ble_eq_true rfl))) (dssF_ret (df_lst (da_cons (de_var 3 rfl (pv 3)) (da_cons (op2_e sem_add (pe_op op_addT (de_b (op2_e sem_add (pe_op op_addT (de_b (op2_e sem_mul (pe_op op_mul (de_b (op2_e sem_mod (pe_op op_mod (de_b (de_ty call_intA sem_int (by decide +kernel) rfl M.b_int (db_cons (de_b (de_var 2 rfl (pv 2))) db_nil))) (de_b de_int)))) (de_b de_int)))) (de_b (op2_e sem_mul (pe_op op_mul (de_b de_int) (de_b (de_var 1 rfl (pv 1))))))))) (de_b de_int))) (da_cons de_int da_nil)))))))

theorem sc__law_take : FnScope ["bag", "many", "mixed", "digit"] ["bag", "many"] (defScope (top 36)) := ⟨rfl, rfl, rfl, by decide +kernel, rfl, by decide +kernel, by decide +kernel⟩
theorem ok__law_take (M : Mg K T mg)  {f : Addr} {fd : FuncData} (F : FunD K "_law_take" "_law_take" (defArgs (top 36)) (defBody (top 36)) (defScope (top 36)) [] [] f fd) : FnOk P w K mg base (CX P w) 1 f fd ["bag", "many"] (spM K T 1 true Zp.f__law_take) :=
  def_ok (S := Zp.s__law_take) F sc__law_take rfl rfl (by decide) fun cdv A outer s H E hr =>
    have Sc := @sc__law_take
    have hx : Passes (CX P w) (cxOf (CX P w) P w K mg base ["bag", "many", "mixed", "digit"] "_law_take" (defScope (top 36)) f cdv A outer s H E) E := passes_call (takes_of rfl rfl rfl rfl) fun _ _ _ _ h => h
    have hp : PassesOwn (model P w) (cxOf (CX P w) P w K mg base ["bag", "many", "mixed", "digit"] "_law_take" (defScope (top 36)) f cdv A outer s H E).A (cxOf (CX P w) P w K mg base ["bag", "many", "mixed", "digit"] "_law_take" (defScope (top 36)) f cdv A outer s H E).env (cxOf (CX P w) P w K mg base ["bag", "many", "mixed", "digit"] "_law_take" (defScope (top 36)) f cdv A outer s H E).xe := passes_of rfl
    (dss_weak (fl' := [.bag, .dat, .un, .un]) (fo' := ⟨[], [], []⟩) (dss_cons (ds_if (dt_cmp sem_cmp (pt_cmpR op_gt (de_b (de_bagix 0 rfl (by decide) rfl (pv 0))) (de_b de_int) (nomark _))) (dss_cons (ds_set (op2_e sem_mod (pe_op op_mod (de_b (de_ty call_intA sem_int (by decide +kernel) rfl M.b_int (db_cons (de_b (de_bagix 0 rfl (by decide) rfl (pv 0))) db_nil))) (de_b (de_var 1 rfl (pv 1))))) (dg_name (pg_name (i := 3) Sc.nd rfl (Or.inl rfl)) (Nat.le_of_ble_eq_true rfl))) (dss_cons (ds_bag 0 rfl (by decide) rfl (pv 0) (op2_e sem_fdiv (pe_op op_fdiv (de_b (de_bagix 0 rfl (by decide) rfl (pv 0))) (de_b (de_var 1 rfl (pv 1)))))) (dss_one (ds_ret (de_var 3 rfl (pv 3)))))) dss_nil) (dss_cons (ds_bag 2 rfl (by decide) rfl (pv 0) (op2_e sem_add (pe_op op_addT (de_b (de_bagix 2 rfl (by decide) rfl (pv 0))) (de_b de_int)))) (dss_cons (ds_set (op2_e sem_mod (pe_op op_mod (de_b (de_ty call_intA sem_int (by decide +kernel) rfl M.b_int (db_cons (de_b (op2_e sem_pow (pe_op op_pow (de_b (op2_e sem_add (pe_op op_addT (de_b (de_bagix 1 rfl (by decide) rfl (pv 0))) (de_b (op2_e sem_mul (pe_op op_mul (de_b de_int) (de_b (de_bagix 2 rfl (by decide) rfl (pv 0))))))))) (de_b de_int)))) db_nil))) (de_b de_int))) (dg_name (pg_name (i := 2) Sc.nd rfl (Or.inl rfl)) (Nat.le_of_ble_eq_true rfl))) (dss_cons (ds_set (op2_e sem_mod (pe_op op_mod (de_b (de_ty call_intA sem_int (by decide +kernel) rfl M.b_int (db_cons (de_b (op2_e sem_pow (pe_op op_pow (de_b (op2_e sem_add (pe_op op_addT (de_b (de_var 2 rfl (pv 2))) (de_b (op2_e sem_mul (pe_op op_mul (de_b de_int) (de_b (de_bagix 2 rfl (by decide) rfl (pv 0))))))))) (de_b de_int)))) db_nil))) (de_b de_int))) (dg_name (pg_name (i := 2) Sc.nd rfl (Or.inl rfl)) (Nat.le_of_ble_eq_true rfl))) (dss_one (ds_ret (op2_e sem_mod (pe_op op_mod (de_b (de_ty call_intA sem_int (by decide +kernel) rfl M.b_int (db_cons (de_b (op2_e sem_fdiv (pe_op op_fdiv (de_b (de_var 2 rfl (pv 2))) (de_b de_int)))) db_nil))) (de_b (de_var 1 rfl (pv 1))))))))))) rfl rfl rfl rfl)

theorem sc__law_of : FnScope ["bag", "some"] ["bag", "some"] (defScope (top 37)) := ⟨rfl, rfl, rfl, by decide +kernel, rfl, by decide +kernel, by decide +kernel⟩
theorem ok__law_of (M : Mg K T mg) (o__law_take : CalOk P w K T mg base "_law_take" 1 1 true [] Zp.f__law_take) {f : Addr} {fd : FuncData} (F : FunD K "_law_of" "_law_of" (defArgs (top 37)) (defBody (top 37)) (defScope (top 37)) [] [] f fd) : FnOk P w K mg base (CX P w) 2 f fd ["bag", "some"] (spM K T 1 true Zp.f__law_of) :=
  def_ok (S := Zp.s__law_of) F sc__law_of rfl rfl (by decide) fun cdv A outer s H E hr =>
    have Sc := @sc__law_of
    have hx : Passes (CX P w) (cxOf (CX P w) P w K mg base ["bag", "some"] "_law_of" (defScope (top 37)) f cdv A outer s H E) E := passes_call (takes_of rfl rfl rfl rfl) fun _ _ _ _ h => h
    have hp : PassesOwn (model P w) (cxOf (CX P w) P w K mg base ["bag", "some"] "_law_of" (defScope (top 37)) f cdv A outer s H E).A (cxOf (CX P w) P w K mg base ["bag", "some"] "_law_of" (defScope (top 37)) f cdv A outer s H E).env (cxOf (CX P w) P w K mg base ["bag", "some"] "_law_of" (defScope (top 37)) f cdv A outer s H E).xe := passes_of rfl
    (dss_weak (fl' := [.bag, .dat]) (fo' := ⟨[], [], []⟩) (dss_one (ds_ret (op2_e sem_ix (pe_ix ix_A (de_b (de_var 1 rfl (pv 1))) (de_b (de_callB o__law_take (hr.mono (by decide)) rfl hx (da_bag rfl (pv 0) (da_cons (de_bi call_lenA sem_len PySem.boot_len rfl M.b_len (db_cons (de_b (de_var 1 rfl (pv 1))) db_nil)) da_nil)))) (by intro _ _; rfl))))) rfl rfl rfl rfl)

theorem sc__law_names : FnScope ["bag", "many", "found", "turn", "size", "name", "k", "letter"] ["bag", "many"] (defScope (top 38)) := ⟨rfl, rfl, rfl, by decide +kernel, rfl, by decide +kernel, by decide +kernel⟩
theorem ok__law_names (M : Mg K T mg) (o__law_of : CalOk P w K T mg base "_law_of" 2 1 true [] Zp.f__law_of) (o__law_take : CalOk P w K T mg base "_law_take" 1 1 true [] Zp.f__law_take) {f : Addr} {fd : FuncData} (F : FunD K "_law_names" "_law_names" (defArgs (top 38)) (defBody (top 38)) (defScope (top 38)) [] [] f fd) : FnOk P w K mg base (CX P w) 3 f fd ["bag", "many"] (spM K T 1 true Zp.f__law_names) :=
  def_ok (S := Zp.s__law_names) F sc__law_names rfl rfl (by decide) fun cdv A outer s H E hr =>
    have Sc := @sc__law_names
    have hx : Passes (CX P w) (cxOf (CX P w) P w K mg base ["bag", "many", "found", "turn", "size", "name", "k", "letter"] "_law_names" (defScope (top 38)) f cdv A outer s H E) E := passes_call (takes_of rfl rfl rfl rfl) fun _ _ _ _ h => h
    have hp : PassesOwn (model P w) (cxOf (CX P w) P w K mg base ["bag", "many", "found", "turn", "size", "name", "k", "letter"] "_law_names" (defScope (top 38)) f cdv A outer s H E).A (cxOf (CX P w) P w K mg base ["bag", "many", "found", "turn", "size", "name", "k", "letter"] "_law_names" (defScope (top 38)) f cdv A outer s H E).env (cxOf (CX P w) P w K mg base ["bag", "many", "found", "turn", "size", "name", "k", "letter"] "_law_names" (defScope (top 38)) f cdv A outer s H E).xe := passes_of rfl
    (dss_weak (fl' := [.bag, .dat, .un, .un, .un, .un, .un, .un]) (fo' := ⟨[], [], []⟩) (dss_cons (ds_own (i := 2) (df_lst da_nil) lst_xLst Sc.nd rfl (Or.inr rfl)) (dss_cons (ds_for (flL := [.bag, .dat, .ol, .un, .un, .un, .un, .un]) (fln := [.bag, .dat, .ol, .un, .un, .un, .un, .un]) hp rfl (di_rng1 rfl M.b_range (de_var 1 rfl (pv 1))) (dg_name (pg_name (i := 3) Sc.nd rfl (Or.inl rfl)) (Nat.le_of_ble_eq_true rfl)) (dss_weakN [.bag, .dat, .ol, .dat, .dat, .dat, .un, .un] (dss_cons (ds_set (op2_e sem_ix (pe_ix ix_A (df_b (df_lst (da_cons de_int (da_cons de_int (da_cons de_int (da_cons de_int (da_cons de_int da_nil))))))) (de_b (de_callB o__law_take (hr.mono (by decide)) rfl hx (da_bag rfl (pv 0) (da_cons de_int da_nil)))) (by intro _ _; rfl))) (dg_name (pg_name (i := 4) Sc.nd rfl (Or.inl rfl)) (Nat.le_of_ble_eq_true rfl))) (dss_cons (ds_set (de_join pe_str (df_b (df_lc rfl Sc.nd (di_rng1 rfl M.b_range (de_var 4 rfl (pv 4))) (blkOk_by (own := [("k", 6)]) rfl) (fun _ _ _ _ _ => (dg_name (pg_name (i := 6) Sc.nd rfl (Or.inl rfl)) (Nat.le_of_ble_eq_true rfl))) (fun _ _ _ _ _ => dts_nil) (fun _ _ _ _ _ => (de_callB o__law_of (hr.mono (by decide)) rfl passF (da_bag rfl (pv 0) (da_cons (de_str ['a', 'b', 'c', 'd', 'e', 'f', 'g', 'h', 'i', 'j', 'k', 'l', 'm', 'n', 'o', 'p', 'q', 'r', 's', 't', 'u', 'v', 'w', 'x', 'y', 'z'] rfl) da_nil)))) rfl)) rfl) (dg_name (pg_name (i := 5) Sc.nd rfl (Or.inl rfl)) (Nat.le_of_ble_eq_true rfl))) (dss_cons (ds_if (dt_cmp sem_in (pt_cmpR (op_inA (un_le hr.un (by decide))) (de_b (de_var 5 rfl (pv 5))) (de_own 2 rfl (pv 2)) rfl)) (dss_one (ds_set (op2_e sem_ix (pe_ix ix_A (df_b (df_lc rfl Sc.nd (di_of (de_str ['a', 'b', 'c', 'd', 'e', 'f', 'g', 'h', 'i', 'j', 'k', 'l', 'm', 'n', 'o', 'p', 'q', 'r', 's', 't', 'u', 'v', 'w', 'x', 'y', 'z'] rfl) rfl) (blkOk_by (own := [("letter", 7)]) rfl) (fun _ _ _ _ _ => (dg_name (pg_name (i := 7) Sc.nd rfl (Or.inl rfl)) (Nat.le_of_ble_eq_true rfl))) (fun _ _ _ _ _ => (dts_one (dt_cmp sem_notIn (pt_cmpR (op_notInA (un_le hr.un (by decide))) (de_b (de_var 7 rfl (pv 7))) (de_own 2 rfl (pv 2)) rfl)))) (fun _ _ _ _ _ => (de_var 7 rfl (pv 7))) rfl)) (de_b de_int) (by intro _ _; rfl))) (dg_name (pg_name (i := 5) Sc.nd rfl (Or.inl rfl)) (Nat.le_of_ble_eq_true rfl)))) dss_nil) (dss_one (ds_app rfl (Nat.le_of_ble_eq_true rfl) (pv 2) (de_var 5 rfl (pv 5)) rfl))))) rfl) rfl rfl) (dss_frz (i := 2) rfl (by decide) (dss_one (ds_ret (de_var 2 rfl (pv 2))))))) rfl rfl rfl rfl)

theorem sc__law_nodes : FnScope ["bag", "many", "signs", "found", "turn", "size", "name", "k", "sign"] ["bag", "many"] (defScope (top 39)) := ⟨rfl, rfl, rfl, by decide +kernel, rfl, by decide +kernel, by decide +kernel⟩
theorem ok__law_nodes (M : Mg K T mg) (o__law_of : CalOk P w K T mg base "_law_of" 2 1 true [] Zp.f__law_of) (o__law_take : CalOk P w K T mg base "_law_take" 1 1 true [] Zp.f__law_take) {f : Addr} {fd : FuncData} (F : FunD K "_law_nodes" "_law_nodes" (defArgs (top 39)) (defBody (top 39)) (defScope (top 39)) [] [] f fd) : FnOk P w K mg base (CX P w) 3 f fd ["bag", "many"] (spM K T 1 true Zp.f__law_nodes) :=
  def_ok (S := Zp.s__law_nodes) F sc__law_nodes rfl rfl (by decide) fun cdv A outer s H E hr =>
    have Sc := @sc__law_nodes
    have hx : Passes (CX P w) (cxOf (CX P w) P w K mg base ["bag", "many", "signs", "found", "turn", "size", "name", "k", "sign"] "_law_nodes" (defScope (top 39)) f cdv A outer s H E) E := passes_call (takes_of rfl rfl rfl rfl) fun _ _ _ _ h => h
    have hp : PassesOwn (model P w) (cxOf (CX P w) P w K mg base ["bag", "many", "signs", "found", "turn", "size", "name", "k", "sign"] "_law_nodes" (defScope (top 39)) f cdv A outer s H E).A (cxOf (CX P w) P w K mg base ["bag", "many", "signs", "found", "turn", "size", "name", "k", "sign"] "_law_nodes" (defScope (top 39)) f cdv A outer s H E).env (cxOf (CX P w) P w K mg base ["bag", "many", "signs", "found", "turn", "size", "name", "k", "sign"] "_law_nodes" (defScope (top 39)) f cdv A outer s H E).xe := passes_of rfl
    (dss_weak (fl' := [.bag, .dat, .un, .un, .un, .un, .un, .un, .un]) (fo' := ⟨[], [], []⟩) (dss_cons (ds_tupEF rfl Sc.nd (i := 2) (j := 3) rfl rfl (Or.inr rfl) (Or.inr rfl) (de_str ['0', '1', '2', '3', '4', '5', '6', '7', '8', '9', 'a', 'b', 'c', 'd', 'e', 'f', 'g', 'h', 'i', 'j', 'k', 'l', 'm', 'n', 'o', 'p', 'q', 'r', 's', 't', 'u', 'v', 'w', 'x', 'y', 'z'] rfl) (df_lst da_nil) lst_xLst rfl) (dss_cons (ds_for (flL := [.bag, .dat, .dat, .ol, .un, .un, .un, .un, .un]) (fln := [.bag, .dat, .dat, .ol, .un, .un, .un, .un, .un]) hp rfl (di_rng1 rfl M.b_range (de_var 1 rfl (pv 1))) (dg_name (pg_name (i := 4) Sc.nd rfl (Or.inl rfl)) (Nat.le_of_ble_eq_true rfl)) (dss_weakN [.bag, .dat, .dat, .ol, .dat, .dat, .dat, .un, .un] (dss_cons (ds_set (op2_e sem_ix (pe_ix ix_A (df_b (df_lst (da_cons de_int (da_cons de_int (da_cons de_int (da_cons de_int (da_cons de_int da_nil))))))) (de_b (de_callB o__law_take (hr.mono (by decide)) rfl hx (da_bag rfl (pv 0) (da_cons de_int da_nil)))) (by intro _ _; rfl))) (dg_name (pg_name (i := 5) Sc.nd rfl (Or.inl rfl)) (Nat.le_of_ble_eq_true rfl))) (dss_cons (ds_set (de_join pe_str (df_b (df_lc rfl Sc.nd (di_rng1 rfl M.b_range (de_var 5 rfl (pv 5))) (blkOk_by (own := [("k", 7)]) rfl) (fun _ _ _ _ _ => (dg_name (pg_name (i := 7) Sc.nd rfl (Or.inl rfl)) (Nat.le_of_ble_eq_true rfl))) (fun _ _ _ _ _ => dts_nil) (fun _ _ _ _ _ => (de_callB o__law_of (hr.mono (by decide)) rfl passF (da_bag rfl (pv 0) (da_cons (de_var 2 rfl (pv 2)) da_nil)))) rfl)) rfl) (dg_name (pg_name (i := 6) Sc.nd rfl (Or.inl rfl)) (Nat.le_of_ble_eq_true rfl))) (dss_cons (ds_if (dt_cmp sem_in (pt_cmpR (op_inA (un_le hr.un (by decide))) (de_b (de_var 6 rfl (pv 6))) (de_own 3 rfl (pv 3)) rfl)) (dss_one (ds_set (op2_e sem_ix (pe_ix ix_A (df_b (df_lc rfl Sc.nd (di_of (de_var 2 rfl (pv 2)) rfl) (blkOk_by (own := [("sign", 8)]) rfl) (fun _ _ _ _ _ => (dg_name (pg_name (i := 8) Sc.nd rfl (Or.inl rfl)) (Nat.le_of_ble_eq_true rfl))) (fun _ _ _ _ _ => (dts_one (dt_cmp sem_notIn (pt_cmpR (op_notInA (un_le hr.un (by decide))) (de_b (de_var 8 rfl (pv 8))) (de_own 3 rfl (pv 3)) rfl)))) (fun _ _ _ _ _ => (de_var 8 rfl (pv 8))) rfl)) (de_b de_int) (by intro _ _; rfl))) (dg_name (pg_name (i := 6) Sc.nd rfl (Or.inl rfl)) (Nat.le_of_ble_eq_true rfl)))) dss_nil) (dss_one (ds_app rfl (Nat.le_of_ble_eq_true rfl) (pv 3) (de_var 6 rfl (pv 6)) rfl))))) rfl) rfl rfl) (dss_frz (i := 3) rfl (by decide) (dss_one (ds_ret (de_var 3 rfl (pv 3))))))) rfl rfl rfl rfl)

theorem sc__law_steps : FnScope ["bag", "many", "names", "labels", "k"] ["bag", "many", "names", "labels"] (defScope (top 40)) := ⟨rfl, rfl, rfl, by decide +kernel, rfl, by decide +kernel, by decide +kernel⟩
theorem ok__law_steps (M : Mg K T mg) (o__law_of : CalOk P w K T mg base "_law_of" 2 1 true [] Zp.f__law_of) {f : Addr} {fd : FuncData} (F : FunD K "_law_steps" "_law_steps" (defArgs (top 40)) (defBody (top 40)) (defScope (top 40)) [] [] f fd) : FnOk P w K mg base (CX P w) 3 f fd ["bag", "many", "names", "labels"] (spM K T 3 true Zp.f__law_steps) :=
  def_ok (S := Zp.s__law_steps) F sc__law_steps rfl rfl (by decide) fun cdv A outer s H E hr =>
    have Sc := @sc__law_steps
    have hx : Passes (CX P w) (cxOf (CX P w) P w K mg base ["bag", "many", "names", "labels", "k"] "_law_steps" (defScope (top 40)) f cdv A outer s H E) E := passes_call (takes_of rfl rfl rfl rfl) fun _ _ _ _ h => h
    have hp : PassesOwn (model P w) (cxOf (CX P w) P w K mg base ["bag", "many", "names", "labels", "k"] "_law_steps" (defScope (top 40)) f cdv A outer s H E).A (cxOf (CX P w) P w K mg base ["bag", "many", "names", "labels", "k"] "_law_steps" (defScope (top 40)) f cdv A outer s H E).env (cxOf (CX P w) P w K mg base ["bag", "many", "names", "labels", "k"] "_law_steps" (defScope (top 40)) f cdv A outer s H E).xe := passes_of rfl
    (dss_weak (fl' := [.bag, .dat, .dat, .dat, .un]) (fo' := ⟨[], [], []⟩) (dss_one (ds_ret (de_f (df_lc rfl Sc.nd (di_rng1 rfl M.b_range (de_var 1 rfl (pv 1))) (blkOk_by (own := [("k", 4)]) rfl) (fun _ _ _ _ _ => (dg_name (pg_name (i := 4) Sc.nd rfl (Or.inl rfl)) (Nat.le_of_ble_eq_true rfl))) (fun _ _ _ _ _ => dts_nil) (fun _ _ _ _ _ => (de_tup (k := 0) (da_cons (de_callB o__law_of (hr.mono (by decide)) rfl passF (da_bag rfl (pv 0) (da_cons (de_var 2 rfl (pv 2)) da_nil))) (da_cons (de_callB o__law_of (hr.mono (by decide)) rfl passF (da_bag rfl (pv 0) (da_cons (de_var 3 rfl (pv 3)) da_nil))) (da_cons (de_callB o__law_of (hr.mono (by decide)) rfl passF (da_bag rfl (pv 0) (da_cons (de_var 2 rfl (pv 2)) da_nil))) da_nil))))) rfl)))) rfl rfl rfl rfl)

theorem sc__law_grouped : FnScope ["bag", "steps", "clauses", "step"] ["bag", "steps"] (defScope (top 41)) := ⟨rfl, rfl, rfl, by decide +kernel, rfl, by decide +kernel, by decide +kernel⟩
theorem ok__law_grouped (M : Mg K T mg) (o__law_take : CalOk P w K T mg base "_law_take" 1 1 true [] Zp.f__law_take) {f : Addr} {fd : FuncData} (F : FunD K "_law_grouped" "_law_grouped" (defArgs (top 41)) (defBody (top 41)) (defScope (top 41)) [] [] f fd) : FnOk P w K mg base (CX P w) 2 f fd ["bag", "steps"] (spM K T 1 true Zp.f__law_grouped) :=
  def_ok (S := Zp.s__law_grouped) F sc__law_grouped rfl rfl (by decide) fun cdv A outer s H E hr =>
    have Sc := @sc__law_grouped
    have hx : Passes (CX P w) (cxOf (CX P w) P w K mg base ["bag", "steps", "clauses", "step"] "_law_grouped" (defScope (top 41)) f cdv A outer s H E) E := passes_call (takes_of rfl rfl rfl rfl) fun _ _ _ _ h => h
    have hp : PassesOwn (model P w) (cxOf (CX P w) P w K mg base ["bag", "steps", "clauses", "step"] "_law_grouped" (defScope (top 41)) f cdv A outer s H E).A (cxOf (CX P w) P w K mg base ["bag", "steps", "clauses", "step"] "_law_grouped" (defScope (top 41)) f cdv A outer s H E).env (cxOf (CX P w) P w K mg base ["bag", "steps", "clauses", "step"] "_law_grouped" (defScope (top 41)) f cdv A outer s H E).xe := passes_of rfl
    (dss_weak (fl' := [.bag, .dat, .un, .un]) (fo' := ⟨[], [], []⟩) (dss_cons (ds_oll (i := 2) Sc.nd rfl (Or.inl rfl) (by decide)) (dss_cons (ds_for (flL := [.bag, .dat, .oll, .un]) (fln := [.bag, .dat, .oll, .un]) hp rfl (di_of (de_var 1 rfl (pv 1)) rfl) (dg_name (pg_name (i := 3) Sc.nd rfl (Or.inl rfl)) (Nat.le_of_ble_eq_true rfl)) (dss_weakN [.bag, .dat, .oll, .dat] (dss_cons (ds_if (PW.pt (dw_and (dt_cmp sem_ne (pt_cmpR (op_neD (un_le hr.un (by decide))) (db_last rfl (pv 2)) (df_b (df_lst da_nil)) (nomark _))) (dw_and1 (dt_cmp sem_eq (pt_cmpR (op_eqD (un_le hr.un (by decide))) (de_b (de_callB o__law_take (hr.mono (by decide)) rfl hx (da_bag rfl (pv 0) (da_cons de_int da_nil)))) (de_b de_int) (nomark _)))))) (dss_one (ds_appNil rfl (by decide) (pv 2))) dss_nil) (dss_one (ds_appLast rfl (by decide) (pv 2) (de_var 3 rfl (pv 3)) rfl))) rfl) rfl rfl) (dss_frzL (i := 2) rfl (by decide) (dss_one (ds_ret (de_var 2 rfl (pv 2))))))) rfl rfl rfl rfl)

theorem sc__law_shown : FnScope ["bag", "names", "many", "left", "found", "turn"] ["bag", "names", "many"] (defScope (top 43)) := ⟨rfl, rfl, rfl, by decide +kernel, rfl, by decide +kernel, by decide +kernel⟩
theorem ok__law_shown (M : Mg K T mg) (o__law_take : CalOk P w K T mg base "_law_take" 1 1 true [] Zp.f__law_take) {f : Addr} {fd : FuncData} (F : FunD K "_law_shown" "_law_shown" (defArgs (top 43)) (defBody (top 43)) (defScope (top 43)) [] [] f fd) : FnOk P w K mg base (CX P w) 2 f fd ["bag", "names", "many"] (spM K T 2 true Zp.f__law_shown) :=
  def_ok (S := Zp.s__law_shown) F sc__law_shown rfl rfl (by decide) fun cdv A outer s H E hr =>
    have Sc := @sc__law_shown
    have hx : Passes (CX P w) (cxOf (CX P w) P w K mg base ["bag", "names", "many", "left", "found", "turn"] "_law_shown" (defScope (top 43)) f cdv A outer s H E) E := passes_call (takes_of rfl rfl rfl rfl) fun _ _ _ _ h => h
    have hp : PassesOwn (model P w) (cxOf (CX P w) P w K mg base ["bag", "names", "many", "left", "found", "turn"] "_law_shown" (defScope (top 43)) f cdv A outer s H E).A (cxOf (CX P w) P w K mg base ["bag", "names", "many", "left", "found", "turn"] "_law_shown" (defScope (top 43)) f cdv A outer s H E).env (cxOf (CX P w) P w K mg base ["bag", "names", "many", "left", "found", "turn"] "_law_shown" (defScope (top 43)) f cdv A outer s H E).xe := passes_of rfl
    (dss_weak (fl' := [.bag, .dat, .dat, .un, .un, .un]) (fo' := ⟨[], [], []⟩) (dss_cons (ds_parFF rfl Sc.nd (i := 3) (j := 4) rfl rfl (by decide) rfl rfl (df_ty call_listA sem_list (by decide +kernel) rfl M.b_list (db_cons (de_b (de_var 1 rfl (pv 1))) db_nil)) (df_lst da_nil) lst_oList lst_xLst) (dss_cons (ds_for (flL := [.bag, .dat, .dat, .ol, .ol, .un]) (fln := [.bag, .dat, .dat, .ol, .ol, .un]) hp rfl (di_rng1 rfl M.b_range (de_var 2 rfl (pv 2))) (dg_name (pg_name (i := 5) Sc.nd rfl (Or.inl rfl)) (Nat.le_of_ble_eq_true rfl)) (dss_weakN [.bag, .dat, .dat, .ol, .ol, .dat] (dss_one (ds_if (dt_cmp sem_ne (pt_cmpR (op_neD (un_le hr.un (by decide))) (de_own 3 rfl (pv 3)) (df_b (df_lst da_nil)) (nomark _))) (dss_one (ds_apppop rfl rfl (by decide) (Nat.le_of_ble_eq_true rfl) (pv 4) (pv 3) (de_callB o__law_take (hr.mono (by decide)) rfl hx (da_bag rfl (pv 0) (da_cons (de_bi call_lenA sem_len PySem.boot_len rfl M.b_len (db_cons (de_own 3 rfl (pv 3)) db_nil)) da_nil))) rfl)) dss_nil)) rfl) rfl rfl) (dss_frz (i := 4) rfl (by decide) (dss_one (ds_ret (de_var 4 rfl (pv 4))))))) rfl rfl rfl rfl)

theorem sc__law_used : FnScope ["clauses", "found", "clause", "source", "label", "target"] ["clauses"] (defScope (top 42)) := ⟨rfl, rfl, rfl, by decide +kernel, rfl, by decide +kernel, by decide +kernel⟩
theorem ok__law_used (M : Mg K T mg)  {f : Addr} {fd : FuncData} (F : FunD K "_law_used" "_law_used" (defArgs (top 42)) (defBody (top 42)) (defScope (top 42)) [] [] f fd) : FnOk P w K mg base (CX P w) 1 f fd ["clauses"] (spM K T 1 false Zp.f__law_used) :=
  def_ok (S := Zp.s__law_used) F sc__law_used rfl rfl (by decide) fun cdv A outer s H E hr =>
    have Sc := @sc__law_used
    have hx : Passes (CX P w) (cxOf (CX P w) P w K mg base ["clauses", "found", "clause", "source", "label", "target"] "_law_used" (defScope (top 42)) f cdv A outer s H E) E := passes_call (takes_of rfl rfl rfl rfl) fun _ _ _ _ h => h
    have hp : PassesOwn (model P w) (cxOf (CX P w) P w K mg base ["clauses", "found", "clause", "source", "label", "target"] "_law_used" (defScope (top 42)) f cdv A outer s H E).A (cxOf (CX P w) P w K mg base ["clauses", "found", "clause", "source", "label", "target"] "_law_used" (defScope (top 42)) f cdv A outer s H E).env (cxOf (CX P w) P w K mg base ["clauses", "found", "clause", "source", "label", "target"] "_law_used" (defScope (top 42)) f cdv A outer s H E).xe := passes_of rfl
    (dss_weak (fl' := [.dat, .un, .un, .un, .un, .un]) (fo' := ⟨[], [], []⟩) (dss_cons (ds_set (de_f (df_lst da_nil)) (dg_name (pg_name (i := 1) Sc.nd rfl (Or.inl rfl)) (Nat.le_of_ble_eq_true rfl))) (dss_cons (ds_for (flL := [.dat, .dat, .un, .un, .un, .un]) (fln := [.dat, .dat, .un, .un, .un, .un]) hp rfl (di_of (de_var 0 rfl (pv 0)) rfl) (dg_name (pg_name (i := 2) Sc.nd rfl (Or.inl rfl)) (Nat.le_of_ble_eq_true rfl)) (dss_weakN [.dat, .dat, .dat, .un, .un, .un] (dss_one (ds_for (flL := [.dat, .dat, .dat, .un, .un, .un]) (fln := [.dat, .dat, .dat, .un, .un, .un]) hp rfl (di_of (de_var 2 rfl (pv 2)) rfl) (dg_tup rfl (dgs_cons (dg_name (pg_name (i := 3) Sc.nd rfl (Or.inl rfl)) (Nat.le_of_ble_eq_true rfl)) (dgs_cons (dg_name (pg_name (i := 4) Sc.nd rfl (Or.inl rfl)) (Nat.le_of_ble_eq_true rfl)) (dgs_cons (dg_name (pg_name (i := 5) Sc.nd rfl (Or.inl rfl)) (Nat.le_of_ble_eq_true rfl)) dgs_nil)))) (dss_weakN [.dat, .dat, .dat, .dat, .dat, .dat] (dss_one (ds_set (op2_e sem_add (pe_op op_addT (de_b (de_var 1 rfl (pv 1))) (df_b (df_lst (da_cons (de_var 3 rfl (pv 3)) (da_cons (de_var 5 rfl (pv 5)) da_nil)))))) (dg_name (pg_name (i := 1) Sc.nd rfl (Or.inl rfl)) (Nat.le_of_ble_eq_true rfl)))) rfl) rfl rfl)) rfl) rfl rfl) (dss_one (ds_ret (de_f (df_sortS rfl (un_le hr.un (by decide)) rfl rfl M.b_sorted (dst_set rfl (un_le hr.un (by decide)) rfl rfl M.b_set (db_cons (de_b (de_var 1 rfl (pv 1))) db_nil)))))))) rfl rfl rfl rfl)

theorem sc__law_edges : FnScope ["bag", "nodes", "labels", "many", "found", "turn", "edge"] ["bag", "nodes", "labels", "many"] (defScope (top 47)) := ⟨rfl, rfl, rfl, by decide +kernel, rfl, by decide +kernel, by decide +kernel⟩
theorem ok__law_edges (M : Mg K T mg) (o__law_of : CalOk P w K T mg base "_law_of" 2 1 true [] Zp.f__law_of) {f : Addr} {fd : FuncData} (F : FunD K "_law_edges" "_law_edges" (defArgs (top 47)) (defBody (top 47)) (defScope (top 47)) [] [] f fd) : FnOk P w K mg base (CX P w) 3 f fd ["bag", "nodes", "labels", "many"] (spM K T 3 true Zp.f__law_edges) :=
  def_ok (S := Zp.s__law_edges) F sc__law_edges rfl rfl (by decide) fun cdv A outer s H E hr =>
    have Sc := @sc__law_edges
    have hx : Passes (CX P w) (cxOf (CX P w) P w K mg base ["bag", "nodes", "labels", "many", "found", "turn", "edge"] "_law_edges" (defScope (top 47)) f cdv A outer s H E) E := passes_call (takes_of rfl rfl rfl rfl) fun _ _ _ _ h => h
    have hp : PassesOwn (model P w) (cxOf (CX P w) P w K mg base ["bag", "nodes", "labels", "many", "found", "turn", "edge"] "_law_edges" (defScope (top 47)) f cdv A outer s H E).A (cxOf (CX P w) P w K mg base ["bag", "nodes", "labels", "many", "found", "turn", "edge"] "_law_edges" (defScope (top 47)) f cdv A outer s H E).env (cxOf (CX P w) P w K mg base ["bag", "nodes", "labels", "many", "found", "turn", "edge"] "_law_edges" (defScope (top 47)) f cdv A outer s H E).xe := passes_of rfl
    (dss_weak (fl' := [.bag, .dat, .dat, .dat, .un, .un, .un]) (fo' := ⟨[], [], []⟩) (dss_cons (ds_own (i := 4) (df_lst da_nil) lst_xLst Sc.nd rfl (Or.inl rfl)) (dss_cons (ds_for (flL := [.bag, .dat, .dat, .dat, .ol, .un, .un]) (fln := [.bag, .dat, .dat, .dat, .ol, .un, .un]) hp rfl (di_rng1 rfl M.b_range (de_var 3 rfl (pv 3))) (dg_name (pg_name (i := 5) Sc.nd rfl (Or.inl rfl)) (Nat.le_of_ble_eq_true rfl)) (dss_weakN [.bag, .dat, .dat, .dat, .ol, .dat, .dat] (dss_cons (ds_set (de_tup (k := 0) (da_cons (de_callB o__law_of (hr.mono (by decide)) rfl hx (da_bag rfl (pv 0) (da_cons (de_var 1 rfl (pv 1)) da_nil))) (da_cons (de_callB o__law_of (hr.mono (by decide)) rfl hx (da_bag rfl (pv 0) (da_cons (de_var 2 rfl (pv 2)) da_nil))) (da_cons (de_callB o__law_of (hr.mono (by decide)) rfl hx (da_bag rfl (pv 0) (da_cons (de_var 1 rfl (pv 1)) da_nil))) da_nil)))) (dg_name (pg_name (i := 6) Sc.nd rfl (Or.inl rfl)) (Nat.le_of_ble_eq_true rfl))) (dss_one (ds_if (dt_cmp sem_notIn (pt_cmpR (op_notInA (un_le hr.un (by decide))) (de_b (de_var 6 rfl (pv 6))) (de_own 4 rfl (pv 4)) rfl)) (dss_one (ds_app rfl (Nat.le_of_ble_eq_true rfl) (pv 4) (de_var 6 rfl (pv 6)) rfl)) dss_nil))) rfl) rfl rfl) (dss_frz (i := 4) rfl (by decide) (dss_one (ds_ret (de_var 4 rfl (pv 4))))))) rfl rfl rfl rfl)

theorem sc_is_label : FnScope ["thing", "sign"] ["thing"] (defScope (top 15)) := ⟨rfl, rfl, rfl, by decide +kernel, rfl, by decide +kernel, by decide +kernel⟩
theorem ok_is_label (M : Mg K T mg)  {f : Addr} {fd : FuncData} (F : FunD K "is_label" "is_label" (defArgs (top 15)) (defBody (top 15)) (defScope (top 15)) [] [] f fd) : FnOk P w K mg base (CX P w) 1 f fd ["thing"] (spM K T 1 false Zp.f_is_label) :=
  def_ok (S := Zp.s_is_label) F sc_is_label rfl rfl (by decide) fun cdv A outer s H E hr =>
    have Sc := @sc_is_label
    have hx : Passes (CX P w) (cxOf (CX P w) P w K mg base ["thing", "sign"] "is_label" (defScope (top 15)) f cdv A outer s H E) E := passes_call (takes_of rfl rfl rfl rfl) fun _ _ _ _ h => h
    have hp : PassesOwn (model P w) (cxOf (CX P w) P w K mg base ["thing", "sign"] "is_label" (defScope (top 15)) f cdv A outer s H E).A (cxOf (CX P w) P w K mg base ["thing", "sign"] "is_label" (defScope (top 15)) f cdv A outer s H E).env (cxOf (CX P w) P w K mg base ["thing", "sign"] "is_label" (defScope (top 15)) f cdv A outer s H E).xe := passes_of rfl
    (dss_weak (fl' := [.dat, .un]) (fo' := ⟨[], [], []⟩) (dss_one (ds_ret (de_and (de_isi tab_str (de_b (de_var 0 rfl (pv 0))) (pe_bltn rfl M.b_str (by decide +kernel) rfl) rfl rfl M.b_isinstance) (de_and (de_chain sem_cmp sem_cmp (pe_chain op_lt op_le (de_b de_int) (de_b (de_bi call_lenA sem_len PySem.boot_len rfl M.b_len (db_cons (de_b (de_var 0 rfl (pv 0))) db_nil))) (de_b (de_glI rfl M.c_LONGEST)))) (de_and1 (de_bi (cr_all rfl) sem_all (by decide +kernel) rfl M.b_all (db_cons (df_b (df_lc rfl Sc.nd (di_of (de_var 0 rfl (pv 0)) rfl) (blkOk_by (own := [("sign", 1)]) rfl) (fun _ _ _ _ _ => (dg_name (pg_name (i := 1) Sc.nd rfl (Or.inl rfl)) (Nat.le_of_ble_eq_true rfl))) (fun _ _ _ _ _ => dts_nil) (fun _ _ _ _ _ => (op2_e sem_in (pe_cmpR (op_inA (un_le hr.un (by decide))) (de_b (de_var 1 rfl (pv 1))) (de_b (de_glS ['a', 'b', 'c', 'd', 'e', 'f', 'g', 'h', 'i', 'j', 'k', 'l', 'm', 'n', 'o', 'p', 'q', 'r', 's', 't', 'u', 'v', 'w', 'x', 'y', 'z'] rfl M.c_LETTERS rfl)) rfl))) rfl)) db_nil))))))) rfl rfl rfl rfl)

theorem sc_is_step : FnScope ["thing", "one"] ["thing"] (defScope (top 25)) := ⟨rfl, rfl, rfl, by decide +kernel, rfl, by decide +kernel, by decide +kernel⟩
theorem ok_is_step (M : Mg K T mg) (o_is_label : CalOk P w K T mg base "is_label" 1 1 false [] Zp.f_is_label) {f : Addr} {fd : FuncData} (F : FunD K "is_step" "is_step" (defArgs (top 25)) (defBody (top 25)) (defScope (top 25)) [] [] f fd) : FnOk P w K mg base (CX P w) 2 f fd ["thing"] (spM K T 1 false Zp.f_is_step) :=
  def_ok (S := Zp.s_is_step) F sc_is_step rfl rfl (by decide) fun cdv A outer s H E hr =>
    have Sc := @sc_is_step
    have hx : Passes (CX P w) (cxOf (CX P w) P w K mg base ["thing", "one"] "is_step" (defScope (top 25)) f cdv A outer s H E) E := passes_call (takes_of rfl rfl rfl rfl) fun _ _ _ _ h => h
    have hp : PassesOwn (model P w) (cxOf (CX P w) P w K mg base ["thing", "one"] "is_step" (defScope (top 25)) f cdv A outer s H E).A (cxOf (CX P w) P w K mg base ["thing", "one"] "is_step" (defScope (top 25)) f cdv A outer s H E).env (cxOf (CX P w) P w K mg base ["thing", "one"] "is_step" (defScope (top 25)) f cdv A outer s H E).xe := passes_of rfl
    (dss_weak (fl' := [.dat, .un]) (fo' := ⟨[], [], []⟩) (dss_one (ds_ret (de_and (de_isi tab_tup (de_b (de_var 0 rfl (pv 0))) (pe_bltn rfl M.b_tuple (by decide +kernel) rfl) rfl rfl M.b_isinstance) (de_and (op2_e sem_eq (pe_cmpR (op_eqD (un_le hr.un (by decide))) (de_b (de_bi call_lenA sem_len PySem.boot_len rfl M.b_len (db_cons (de_b (de_var 0 rfl (pv 0))) db_nil))) (de_b de_int) (nomark _))) (de_and1 (de_bi (cr_all rfl) sem_all (by decide +kernel) rfl M.b_all (db_cons (df_b (df_lc rfl Sc.nd (di_of (de_var 0 rfl (pv 0)) rfl) (blkOk_by (own := [("one", 1)]) rfl) (fun _ _ _ _ _ => (dg_name (pg_name (i := 1) Sc.nd rfl (Or.inl rfl)) (Nat.le_of_ble_eq_true rfl))) (fun _ _ _ _ _ => dts_nil) (fun _ _ _ _ _ => (de_callQ o_is_label (hr.mono (by decide)) rfl passF (da_cons (de_var 1 rfl (pv 1)) da_nil))) rfl)) db_nil))))))) rfl rfl rfl rfl)

theorem sc_is_clause : FnScope ["thing", "one"] ["thing"] (defScope (top 26)) := ⟨rfl, rfl, rfl, by decide +kernel, rfl, by decide +kernel, by decide +kernel⟩
theorem ok_is_clause (M : Mg K T mg) (o_is_step : CalOk P w K T mg base "is_step" 2 1 false [] Zp.f_is_step) {f : Addr} {fd : FuncData} (F : FunD K "is_clause" "is_clause" (defArgs (top 26)) (defBody (top 26)) (defScope (top 26)) [] [] f fd) : FnOk P w K mg base (CX P w) 3 f fd ["thing"] (spM K T 1 false Zp.f_is_clause) :=
  def_ok (S := Zp.s_is_clause) F sc_is_clause rfl rfl (by decide) fun cdv A outer s H E hr =>
    have Sc := @sc_is_clause
    have hx : Passes (CX P w) (cxOf (CX P w) P w K mg base ["thing", "one"] "is_clause" (defScope (top 26)) f cdv A outer s H E) E := passes_call (takes_of rfl rfl rfl rfl) fun _ _ _ _ h => h
    have hp : PassesOwn (model P w) (cxOf (CX P w) P w K mg base ["thing", "one"] "is_clause" (defScope (top 26)) f cdv A outer s H E).A (cxOf (CX P w) P w K mg base ["thing", "one"] "is_clause" (defScope (top 26)) f cdv A outer s H E).env (cxOf (CX P w) P w K mg base ["thing", "one"] "is_clause" (defScope (top 26)) f cdv A outer s H E).xe := passes_of rfl
    (dss_weak (fl' := [.dat, .un]) (fo' := ⟨[], [], []⟩) (dss_one (ds_ret (de_and (de_isi tab_lst (de_b (de_var 0 rfl (pv 0))) (pe_bltn rfl M.b_list (by decide +kernel) rfl) rfl rfl M.b_isinstance) (de_and (op2_e sem_cmp (pe_cmpR op_gt (de_b (de_bi call_lenA sem_len PySem.boot_len rfl M.b_len (db_cons (de_b (de_var 0 rfl (pv 0))) db_nil))) (de_b de_int) (nomark _))) (de_and1 (de_bi (cr_all rfl) sem_all (by decide +kernel) rfl M.b_all (db_cons (df_b (df_lc rfl Sc.nd (di_of (de_var 0 rfl (pv 0)) rfl) (blkOk_by (own := [("one", 1)]) rfl) (fun _ _ _ _ _ => (dg_name (pg_name (i := 1) Sc.nd rfl (Or.inl rfl)) (Nat.le_of_ble_eq_true rfl))) (fun _ _ _ _ _ => dts_nil) (fun _ _ _ _ _ => (de_callQ o_is_step (hr.mono (by decide)) rfl passF (da_cons (de_var 1 rfl (pv 1)) da_nil))) rfl)) db_nil))))))) rfl rfl rfl rfl)

theorem sc_Pattern_init : FnScope ["self", "clauses", "shown", "at", "clause", "steps", "names", "name", "step"] ["self", "clauses", "shown"] (defScope (inClass (top 29) 0)) := ⟨rfl, rfl, rfl, by decide +kernel, rfl, by decide +kernel, by decide +kernel⟩
theorem ok_Pattern_init (M : Mg K T mg) (o_is_clause : CalOk P w K T mg base "is_clause" 3 1 false [] Zp.f_is_clause) {kws : List (Str × V)} {f : Addr} {fd : FuncData} (F : FunD K "__init__" "Pattern.__init__" (defArgs (inClass (top 29) 0)) (defBody (inClass (top 29) 0)) (defScope (inClass (top 29) 0)) [] kws f fd) : FnOk P w K mg base (CX P w) 4 f fd ["self", "clauses", "shown"] (spI K T 2 2 Zp.f_Pattern_init) :=
  def_okI (S := Zp.s_Pattern_init) (c := 2) (nf := 4) (flx := [.oi, .dat, .dat, .un, .un, .dat, .dat, .un, .un]) F sc_Pattern_init rfl rfl (by decide) (by rw [M.fld_Pattern]; rfl) rfl fun cdv A outer s H E hr =>
    have Sc := @sc_Pattern_init
    have hx : Passes (CX P w) (cxOf (CX P w) P w K mg base ["self", "clauses", "shown", "at", "clause", "steps", "names", "name", "step"] "Pattern.__init__" (defScope (inClass (top 29) 0)) f cdv A outer s H E) E := passes_call (takes_of rfl rfl rfl rfl) fun _ _ _ _ h => h
    have hp : PassesOwn (model P w) (cxOf (CX P w) P w K mg base ["self", "clauses", "shown", "at", "clause", "steps", "names", "name", "step"] "Pattern.__init__" (defScope (inClass (top 29) 0)) f cdv A outer s H E).A (cxOf (CX P w) P w K mg base ["self", "clauses", "shown", "at", "clause", "steps", "names", "name", "step"] "Pattern.__init__" (defScope (inClass (top 29) 0)) f cdv A outer s H E).env (cxOf (CX P w) P w K mg base ["self", "clauses", "shown", "at", "clause", "steps", "names", "name", "step"] "Pattern.__init__" (defScope (inClass (top 29) 0)) f cdv A outer s H E).xe := passes_of rfl
    (dss_weak (fl' := [.oi, .dat, .dat, .un, .un, .un, .un, .un, .un]) (fo' := ⟨[.oi, .dat, .dat, .un, .un, .dat, .dat, .un, .un], [], []⟩) (dss_cons (ds_if (dt_cmp sem_eq (pt_cmpR (op_eqD (un_le hr.un (by decide))) (de_b (de_bi call_lenA sem_len PySem.boot_len rfl M.b_len (db_cons (de_b (de_var 1 rfl (pv 1))) db_nil))) (de_b de_int) (nomark _))) (dss_one ds_no) dss_nil) (dss_cons (ds_for (flL := [.oi, .dat, .dat, .un, .un, .un, .un, .un, .un]) (fln := [.oi, .dat, .dat, .un, .un, .un, .un, .un, .un]) hp rfl (di_enumA rfl M.b_enumerate (de_var 1 rfl (pv 1)) rfl) (dg_tup rfl (dgs_cons (dg_name (pg_name (i := 3) Sc.nd rfl (Or.inl rfl)) (Nat.le_of_ble_eq_true rfl)) (dgs_cons (dg_name (pg_name (i := 4) Sc.nd rfl (Or.inl rfl)) (Nat.le_of_ble_eq_true rfl)) dgs_nil))) (dss_weakN [.oi, .dat, .dat, .dat, .dat, .un, .un, .un, .un] (dss_one (ds_if (dt_nt (dt_val (de_callQ o_is_clause (hr.mono (by decide)) rfl hx (da_cons (de_var 4 rfl (pv 4)) da_nil)))) (dss_one ds_no) dss_nil)) rfl) rfl rfl) (dss_cons (ds_setLc2 (vs1 := [8]) rfl Sc.nd (di_of (de_var 1 rfl (pv 1)) rfl) (blkOk_by (own := [("clause", 4), ("step", 8)]) rfl) (by decide) (fun _ _ _ _ _ => (dg_name (pg_name (i := 4) Sc.nd rfl (Or.inl rfl)) (Nat.le_of_ble_eq_true rfl))) (fun _ _ _ _ _ => dts_nil) (fun _ _ _ _ _ => (di_of (de_var 4 rfl (pv 4)) rfl)) (fun _ _ _ _ _ => (dg_name (pg_name (i := 8) Sc.nd rfl (Or.inl rfl)) (Nat.le_of_ble_eq_true rfl))) (fun _ _ _ _ _ => dts_nil) (fun _ _ _ _ _ => (de_var 8 rfl (pv 8))) rfl rfl (i := 5) rfl (Nat.le_of_ble_eq_true rfl) rfl (sw_true rfl rfl rfl rfl)) (dss_cons (ds_if (dt_cmp sem_cmp (pt_cmpR op_gt (de_b (de_bi call_lenA sem_len PySem.boot_len rfl M.b_len (db_cons (de_b (de_var 5 rfl (pv 5))) db_nil))) (de_b (de_glI rfl M.c_MOST_STEPS)) (nomark _))) (dss_one ds_no) dss_nil) (dss_cons (ds_set (de_f (df_sortS rfl (un_le hr.un (by decide)) rfl rfl M.b_sorted (dst_sc2 (vs1 := [7]) rfl Sc.nd (di_of (de_var 5 rfl (pv 5)) rfl) (blkOk_by (own := [("step", 8), ("name", 7)]) rfl) (by decide) (fun _ _ _ _ _ => (dg_name (pg_name (i := 8) Sc.nd rfl (Or.inl rfl)) (Nat.le_of_ble_eq_true rfl))) (fun _ _ _ _ _ => dts_nil) (fun _ _ _ _ _ => (di_of (de_tup (k := 0) (da_cons (op2_e sem_ix (pe_ix ix_A (de_b (de_var 8 rfl (pv 8))) (de_b de_int) (by intro _ _; rfl))) (da_cons (op2_e sem_ix (pe_ix ix_A (de_b (de_var 8 rfl (pv 8))) (de_b de_int) (by intro _ _; rfl))) da_nil))) rfl)) (fun _ _ _ _ _ => (dg_name (pg_name (i := 7) Sc.nd rfl (Or.inl rfl)) (Nat.le_of_ble_eq_true rfl))) (fun _ _ _ _ _ => dts_nil) (fun _ _ _ _ _ => (de_var 7 rfl (pv 7))) rfl rfl))) (dg_name (pg_name (i := 6) Sc.nd rfl (Or.inl rfl)) (Nat.le_of_ble_eq_true rfl))) (dss_cons (ds_if (dt_cmp sem_cmp (pt_cmpR op_gt (de_b (de_bi call_lenA sem_len PySem.boot_len rfl M.b_len (db_cons (de_b (de_var 6 rfl (pv 6))) db_nil))) (de_b (de_glI rfl M.c_MOST_VARIABLES)) (nomark _))) (dss_one ds_no) dss_nil) (dss_cons (ds_for (flL := [.oi, .dat, .dat, .un, .un, .dat, .dat, .un, .un]) (fln := [.oi, .dat, .dat, .un, .un, .dat, .dat, .un, .un]) hp rfl (di_enumA rfl M.b_enumerate (de_var 2 rfl (pv 2)) rfl) (dg_tup rfl (dgs_cons (dg_name (pg_name (i := 3) Sc.nd rfl (Or.inl rfl)) (Nat.le_of_ble_eq_true rfl)) (dgs_cons (dg_name (pg_name (i := 7) Sc.nd rfl (Or.inl rfl)) (Nat.le_of_ble_eq_true rfl)) dgs_nil))) (dss_weakN [.oi, .dat, .dat, .dat, .un, .dat, .dat, .dat, .un] (dss_one (ds_if (PW.pt (dw_or (dt_cmp sem_notIn (pt_cmpR (op_notInA (un_le hr.un (by decide))) (de_b (de_var 7 rfl (pv 7))) (de_b (de_var 6 rfl (pv 6))) rfl)) (dw_or1 (dt_cmp sem_in (pt_cmpR (op_inA (un_le hr.un (by decide))) (de_b (de_var 7 rfl (pv 7))) (de_b (de_cutA (de_b (de_var 2 rfl (pv 2))) (de_var 3 rfl (pv 3)) rfl)) rfl))))) (dss_one ds_no) dss_nil)) rfl) rfl rfl) (dss_cons (ds_ownF rfl (pv 0) (de_ty call_tupleA sem_tuple (by decide +kernel) rfl M.b_tuple (db_cons (df_b (df_lc rfl Sc.nd (di_of (de_var 1 rfl (pv 1)) rfl) (blkOk_by (own := [("clause", 4)]) rfl) (fun _ _ _ _ _ => (dg_name (pg_name (i := 4) Sc.nd rfl (Or.inl rfl)) (Nat.le_of_ble_eq_true rfl))) (fun _ _ _ _ _ => dts_nil) (fun _ _ _ _ _ => (de_ty call_tupleA sem_tuple (by decide +kernel) rfl M.b_tuple (db_cons (de_b (de_var 4 rfl (pv 4))) db_nil))) rfl)) db_nil)) rfl M.cls_Pattern M.na_Pattern_clauses (by rw [M.fld_Pattern]; rfl) (by rw [M.fld_Pattern]; decide +kernel) (by rw [M.fld_Pattern]; decide)) (dss_cons (ds_ownF rfl (pv 0) (de_ty call_tupleA sem_tuple (by decide +kernel) rfl M.b_tuple (db_cons (de_b (de_var 2 rfl (pv 2))) db_nil)) rfl M.cls_Pattern M.na_Pattern_shown (by rw [M.fld_Pattern]; rfl) (by rw [M.fld_Pattern]; decide +kernel) (by rw [M.fld_Pattern]; decide)) (dss_cons (ds_ownF rfl (pv 0) (de_ty call_tupleA sem_tuple (by decide +kernel) rfl M.b_tuple (db_cons (de_b (de_var 5 rfl (pv 5))) db_nil)) rfl M.cls_Pattern M.na_Pattern_all_steps (by rw [M.fld_Pattern]; rfl) (by rw [M.fld_Pattern]; decide +kernel) (by rw [M.fld_Pattern]; decide)) (dss_one (ds_ownF rfl (pv 0) (de_ty call_tupleF sem_tupleF (by decide +kernel) rfl M.b_tuple (db_cons (de_b (de_var 6 rfl (pv 6))) db_nil)) rfl M.cls_Pattern M.na_Pattern_names (by rw [M.fld_Pattern]; rfl) (by rw [M.fld_Pattern]; decide +kernel) (by rw [M.fld_Pattern]; decide))))))))))))) rfl rfl rfl rfl)

theorem sc__law_made : FnScope ["told", "clause"] ["told"] (defScope (top 44)) := ⟨rfl, rfl, rfl, by decide +kernel, rfl, by decide +kernel, by decide +kernel⟩
theorem ok__law_made (M : Mg K T mg) (o_Pattern_init_K : MakKw P w K T mg base "Pattern" 4 2 1 ["shown"] Zp.f_Pattern_init) {f : Addr} {fd : FuncData} (F : FunD K "_law_made" "_law_made" (defArgs (top 44)) (defBody (top 44)) (defScope (top 44)) [] [] f fd) : FnOk P w K mg base (CX P w) 6 f fd ["told"] (spM K T 1 false Zp.f__law_made) :=
  def_ok (S := Zp.s__law_made) F sc__law_made rfl rfl (by decide) fun cdv A outer s H E hr =>
    have Sc := @sc__law_made
    have hx : Passes (CX P w) (cxOf (CX P w) P w K mg base ["told", "clause"] "_law_made" (defScope (top 44)) f cdv A outer s H E) E := passes_call (takes_of rfl rfl rfl rfl) fun _ _ _ _ h => h
    have hp : PassesOwn (model P w) (cxOf (CX P w) P w K mg base ["told", "clause"] "_law_made" (defScope (top 44)) f cdv A outer s H E).A (cxOf (CX P w) P w K mg base ["told", "clause"] "_law_made" (defScope (top 44)) f cdv A outer s H E).env (cxOf (CX P w) P w K mg base ["told", "clause"] "_law_made" (defScope (top 44)) f cdv A outer s H E).xe := passes_of rfl
    (dss_weak (fl' := [.dat, .un]) (fo' := ⟨[], [], []⟩) (dss_one (ds_ret (de_f (df_makeK o_Pattern_init_K (hr.mono (by decide)) rfl hx (da_cons (de_f (df_lc rfl Sc.nd (di_of (op2_e sem_ix (pe_ix ix_A (de_b (de_var 0 rfl (pv 0))) (de_b de_int) (by intro _ _; rfl))) rfl) (blkOk_by (own := [("clause", 1)]) rfl) (fun _ _ _ _ _ => (dg_name (pg_name (i := 1) Sc.nd rfl (Or.inl rfl)) (Nat.le_of_ble_eq_true rfl))) (fun _ _ _ _ _ => dts_nil) (fun _ _ _ _ _ => (de_f (df_ty call_listA sem_list (by decide +kernel) rfl M.b_list (db_cons (de_b (de_var 1 rfl (pv 1))) db_nil)))) rfl)) da_nil) (dk_cons (de_f (df_ty call_listA sem_list (by decide +kernel) rfl M.b_list (db_cons (de_b (op2_e sem_ix (pe_ix ix_A (de_b (de_var 0 rfl (pv 0))) (de_b de_int) (by intro _ _; rfl)))) db_nil))) dk_nil))))) rfl rfl rfl rfl)

theorem sc_is_node : FnScope ["thing", "sign"] ["thing"] (defScope (top 16)) := ⟨rfl, rfl, rfl, by decide +kernel, rfl, by decide +kernel, by decide +kernel⟩
theorem ok_is_node (M : Mg K T mg)  {f : Addr} {fd : FuncData} (F : FunD K "is_node" "is_node" (defArgs (top 16)) (defBody (top 16)) (defScope (top 16)) [] [] f fd) : FnOk P w K mg base (CX P w) 1 f fd ["thing"] (spM K T 1 false Zp.f_is_node) :=
  def_ok (S := Zp.s_is_node) F sc_is_node rfl rfl (by decide) fun cdv A outer s H E hr =>
    have Sc := @sc_is_node
    have hx : Passes (CX P w) (cxOf (CX P w) P w K mg base ["thing", "sign"] "is_node" (defScope (top 16)) f cdv A outer s H E) E := passes_call (takes_of rfl rfl rfl rfl) fun _ _ _ _ h => h
    have hp : PassesOwn (model P w) (cxOf (CX P w) P w K mg base ["thing", "sign"] "is_node" (defScope (top 16)) f cdv A outer s H E).A (cxOf (CX P w) P w K mg base ["thing", "sign"] "is_node" (defScope (top 16)) f cdv A outer s H E).env (cxOf (CX P w) P w K mg base ["thing", "sign"] "is_node" (defScope (top 16)) f cdv A outer s H E).xe := passes_of rfl
    (dss_weak (fl' := [.dat, .un]) (fo' := ⟨[], [], []⟩) (dss_one (ds_ret (de_and (de_isi tab_str (de_b (de_var 0 rfl (pv 0))) (pe_bltn rfl M.b_str (by decide +kernel) rfl) rfl rfl M.b_isinstance) (de_and (de_chain sem_cmp sem_cmp (pe_chain op_lt op_le (de_b de_int) (de_b (de_bi call_lenA sem_len PySem.boot_len rfl M.b_len (db_cons (de_b (de_var 0 rfl (pv 0))) db_nil))) (de_b (de_glI rfl M.c_LONGEST)))) (de_and1 (de_bi (cr_all rfl) sem_all (by decide +kernel) rfl M.b_all (db_cons (df_b (df_lc rfl Sc.nd (di_of (de_var 0 rfl (pv 0)) rfl) (blkOk_by (own := [("sign", 1)]) rfl) (fun _ _ _ _ _ => (dg_name (pg_name (i := 1) Sc.nd rfl (Or.inl rfl)) (Nat.le_of_ble_eq_true rfl))) (fun _ _ _ _ _ => dts_nil) (fun _ _ _ _ _ => (op2_e sem_in (pe_cmpR (op_inA (un_le hr.un (by decide))) (de_b (de_var 1 rfl (pv 1))) (de_b (op2_e sem_add (pe_op op_addT (de_b (de_glS ['a', 'b', 'c', 'd', 'e', 'f', 'g', 'h', 'i', 'j', 'k', 'l', 'm', 'n', 'o', 'p', 'q', 'r', 's', 't', 'u', 'v', 'w', 'x', 'y', 'z'] rfl M.c_LETTERS rfl)) (de_b (de_glS ['0', '1', '2', '3', '4', '5', '6', '7', '8', '9'] rfl M.c_DIGITS rfl))))) rfl))) rfl)) db_nil))))))) rfl rfl rfl rfl)

theorem sc_is_edge : FnScope ["thing"] ["thing"] (defScope (top 17)) := ⟨rfl, rfl, rfl, by decide +kernel, rfl, by decide +kernel, by decide +kernel⟩
theorem ok_is_edge (M : Mg K T mg) (o_is_label : CalOk P w K T mg base "is_label" 1 1 false [] Zp.f_is_label) (o_is_node : CalOk P w K T mg base "is_node" 1 1 false [] Zp.f_is_node) {f : Addr} {fd : FuncData} (F : FunD K "is_edge" "is_edge" (defArgs (top 17)) (defBody (top 17)) (defScope (top 17)) [] [] f fd) : FnOk P w K mg base (CX P w) 2 f fd ["thing"] (spM K T 1 false Zp.f_is_edge) :=
  def_ok (S := Zp.s_is_edge) F sc_is_edge rfl rfl (by decide) fun cdv A outer s H E hr =>
    have Sc := @sc_is_edge
    have hx : Passes (CX P w) (cxOf (CX P w) P w K mg base ["thing"] "is_edge" (defScope (top 17)) f cdv A outer s H E) E := passes_call (takes_of rfl rfl rfl rfl) fun _ _ _ _ h => h
    have hp : PassesOwn (model P w) (cxOf (CX P w) P w K mg base ["thing"] "is_edge" (defScope (top 17)) f cdv A outer s H E).A (cxOf (CX P w) P w K mg base ["thing"] "is_edge" (defScope (top 17)) f cdv A outer s H E).env (cxOf (CX P w) P w K mg base ["thing"] "is_edge" (defScope (top 17)) f cdv A outer s H E).xe := passes_of rfl
    (dss_weak (fl' := [.dat]) (fo' := ⟨[], [], []⟩) (dss_cons (ds_if (PW.pt (dw_or (dt_nt (dt_val (de_isi tab_tup (de_b (de_var 0 rfl (pv 0))) (pe_bltn rfl M.b_tuple (by decide +kernel) rfl) rfl rfl M.b_isinstance))) (dw_or1 (dt_cmp sem_ne (pt_cmpR (op_neD (un_le hr.un (by decide))) (de_b (de_bi call_lenA sem_len PySem.boot_len rfl M.b_len (db_cons (de_b (de_var 0 rfl (pv 0))) db_nil))) (de_b de_int) (nomark _)))))) (dss_one (ds_ret de_bl)) dss_nil) (dss_one (ds_ret (de_and (de_callQ o_is_node (hr.mono (by decide)) rfl hx (da_cons (op2_e sem_ix (pe_ix ix_A (de_b (de_var 0 rfl (pv 0))) (de_b de_int) (by intro _ _; rfl))) da_nil)) (de_and (de_callQ o_is_label (hr.mono (by decide)) rfl hx (da_cons (op2_e sem_ix (pe_ix ix_A (de_b (de_var 0 rfl (pv 0))) (de_b de_int) (by intro _ _; rfl))) da_nil)) (de_and1 (de_callQ o_is_node (hr.mono (by decide)) rfl hx (da_cons (op2_e sem_ix (pe_ix ix_A (de_b (de_var 0 rfl (pv 0))) (de_b de_int) (by intro _ _; rfl))) da_nil)))))))) rfl rfl rfl rfl)

theorem sc_check_edges : FnScope ["edges", "at", "edge"] ["edges"] (defScope (top 18)) := ⟨rfl, rfl, rfl, by decide +kernel, rfl, by decide +kernel, by decide +kernel⟩
theorem ok_check_edges (M : Mg K T mg) (o_is_edge : CalOk P w K T mg base "is_edge" 2 1 false [] Zp.f_is_edge) {f : Addr} {fd : FuncData} (F : FunD K "check_edges" "check_edges" (defArgs (top 18)) (defBody (top 18)) (defScope (top 18)) [] [] f fd) : FnOk P w K mg base (CX P w) 3 f fd ["edges"] (spM K T 1 false Zp.f_check_edges) :=
  def_ok (S := Zp.s_check_edges) F sc_check_edges rfl rfl (by decide) fun cdv A outer s H E hr =>
    have Sc := @sc_check_edges
    have hx : Passes (CX P w) (cxOf (CX P w) P w K mg base ["edges", "at", "edge"] "check_edges" (defScope (top 18)) f cdv A outer s H E) E := passes_call (takes_of rfl rfl rfl rfl) fun _ _ _ _ h => h
    have hp : PassesOwn (model P w) (cxOf (CX P w) P w K mg base ["edges", "at", "edge"] "check_edges" (defScope (top 18)) f cdv A outer s H E).A (cxOf (CX P w) P w K mg base ["edges", "at", "edge"] "check_edges" (defScope (top 18)) f cdv A outer s H E).env (cxOf (CX P w) P w K mg base ["edges", "at", "edge"] "check_edges" (defScope (top 18)) f cdv A outer s H E).xe := passes_of rfl
    (dss_weak (fl' := [.dat, .un, .un]) (fo' := ⟨[.dat, .un, .un], [], []⟩) (dss_one (ds_for (flL := [.dat, .un, .un]) (fln := [.dat, .un, .un]) hp rfl (di_enum rfl M.b_enumerate (de_var 0 rfl (pv 0)) rfl) (dg_tup rfl (dgs_cons (dg_name (pg_name (i := 1) Sc.nd rfl (Or.inl rfl)) (Nat.le_of_ble_eq_true rfl)) (dgs_cons (dg_name (pg_name (i := 2) Sc.nd rfl (Or.inl rfl)) (Nat.le_of_ble_eq_true rfl)) dgs_nil))) (dss_weakN [.dat, .dat, .dat] (dss_one (ds_if (dt_nt (dt_val (de_callQ o_is_edge (hr.mono (by decide)) rfl hx (da_cons (de_var 2 rfl (pv 2)) da_nil)))) (dss_one ds_no) dss_nil)) rfl) rfl rfl)) rfl rfl rfl rfl)

theorem sc_ends_of : FnScope ["edges", "source", "_", "target"] ["edges"] (defScope (top 19)) := ⟨rfl, rfl, rfl, by decide +kernel, rfl, by decide +kernel, by decide +kernel⟩
theorem ok_ends_of (M : Mg K T mg)  {f : Addr} {fd : FuncData} (F : FunD K "ends_of" "ends_of" (defArgs (top 19)) (defBody (top 19)) (defScope (top 19)) [] [] f fd) : FnOk P w K mg base (CX P w) 1 f fd ["edges"] (spM K T 1 false Zp.f_ends_of) :=
  def_ok (S := Zp.s_ends_of) F sc_ends_of rfl rfl (by decide) fun cdv A outer s H E hr =>
    have Sc := @sc_ends_of
    have hx : Passes (CX P w) (cxOf (CX P w) P w K mg base ["edges", "source", "_", "target"] "ends_of" (defScope (top 19)) f cdv A outer s H E) E := passes_call (takes_of rfl rfl rfl rfl) fun _ _ _ _ h => h
    have hp : PassesOwn (model P w) (cxOf (CX P w) P w K mg base ["edges", "source", "_", "target"] "ends_of" (defScope (top 19)) f cdv A outer s H E).A (cxOf (CX P w) P w K mg base ["edges", "source", "_", "target"] "ends_of" (defScope (top 19)) f cdv A outer s H E).env (cxOf (CX P w) P w K mg base ["edges", "source", "_", "target"] "ends_of" (defScope (top 19)) f cdv A outer s H E).xe := passes_of rfl
    (dss_weak (fl' := [.dat, .un, .un, .un]) (fo' := ⟨[], [], []⟩) (dss_one (ds_ret (op2_e sem_add (pe_op op_addT (df_b (df_lc rfl Sc.nd (di_of (de_var 0 rfl (pv 0)) rfl) (blkOk_by (own := [("source", 1), ("_", 2)]) rfl) (fun _ _ _ _ _ => (dg_tup rfl (dgs_cons (dg_name (pg_name (i := 1) Sc.nd rfl (Or.inl rfl)) (Nat.le_of_ble_eq_true rfl)) (dgs_cons (dg_name (pg_name (i := 2) Sc.nd rfl (Or.inl rfl)) (Nat.le_of_ble_eq_true rfl)) (dgs_cons (dg_name (pg_name (i := 2) Sc.nd rfl (Or.inl rfl)) (Nat.le_of_ble_eq_true rfl)) dgs_nil))))) (fun _ _ _ _ _ => dts_nil) (fun _ _ _ _ _ => (de_var 1 rfl (pv 1))) rfl)) (df_b (df_lc rfl Sc.nd (di_of (de_var 0 rfl (pv 0)) rfl) (blkOk_by (own := [("_", 2), ("target", 3)]) rfl) (fun _ _ _ _ _ => (dg_tup rfl (dgs_cons (dg_name (pg_name (i := 2) Sc.nd rfl (Or.inl rfl)) (Nat.le_of_ble_eq_true rfl)) (dgs_cons (dg_name (pg_name (i := 2) Sc.nd rfl (Or.inl rfl)) (Nat.le_of_ble_eq_true rfl)) (dgs_cons (dg_name (pg_name (i := 3) Sc.nd rfl (Or.inl rfl)) (Nat.le_of_ble_eq_true rfl)) dgs_nil))))) (fun _ _ _ _ _ => dts_nil) (fun _ _ _ _ _ => (de_var 3 rfl (pv 3))) rfl)))))) rfl rfl rfl rfl)

theorem sc_Graph_init : FnScope ["self", "edges", "nodes", "node"] ["self", "edges", "nodes"] (defScope (inClass (top 20) 0)) := ⟨rfl, rfl, rfl, by decide +kernel, rfl, by decide +kernel, by decide +kernel⟩
theorem ok_Graph_init (M : Mg K T mg) (o_check_edges : CalOk P w K T mg base "check_edges" 3 1 false [] Zp.f_check_edges) (o_ends_of : CalOk P w K T mg base "ends_of" 1 1 false [] Zp.f_ends_of) (o_is_node : CalOk P w K T mg base "is_node" 1 1 false [] Zp.f_is_node) {kws : List (Str × V)} {f : Addr} {fd : FuncData} (F : FunD K "__init__" "Graph.__init__" (defArgs (inClass (top 20) 0)) (defBody (inClass (top 20) 0)) (defScope (inClass (top 20) 0)) [] kws f fd) : FnOk P w K mg base (CX P w) 4 f fd ["self", "edges", "nodes"] (spI K T 1 2 Zp.f_Graph_init) :=
  def_okI (S := Zp.s_Graph_init) (c := 1) (nf := 2) (flx := [.oi, .dat, .dat, .un]) F sc_Graph_init rfl rfl (by decide) (by rw [M.fld_Graph]; rfl) rfl fun cdv A outer s H E hr =>
    have Sc := @sc_Graph_init
    have hx : Passes (CX P w) (cxOf (CX P w) P w K mg base ["self", "edges", "nodes", "node"] "Graph.__init__" (defScope (inClass (top 20) 0)) f cdv A outer s H E) E := passes_call (takes_of rfl rfl rfl rfl) fun _ _ _ _ h => h
    have hp : PassesOwn (model P w) (cxOf (CX P w) P w K mg base ["self", "edges", "nodes", "node"] "Graph.__init__" (defScope (inClass (top 20) 0)) f cdv A outer s H E).A (cxOf (CX P w) P w K mg base ["self", "edges", "nodes", "node"] "Graph.__init__" (defScope (inClass (top 20) 0)) f cdv A outer s H E).env (cxOf (CX P w) P w K mg base ["self", "edges", "nodes", "node"] "Graph.__init__" (defScope (inClass (top 20) 0)) f cdv A outer s H E).xe := passes_of rfl
    (dss_weak (fl' := [.oi, .dat, .dat, .un]) (fo' := ⟨[.oi, .dat, .dat, .un], [], []⟩) (dss_cons (ds_do (de_callQ o_check_edges (hr.mono (by decide)) rfl hx (da_cons (de_var 1 rfl (pv 1)) da_nil))) (dss_cons (ds_for (flL := [.oi, .dat, .dat, .un]) (fln := [.oi, .dat, .dat, .un]) hp rfl (di_of (de_var 2 rfl (pv 2)) rfl) (dg_name (pg_name (i := 3) Sc.nd rfl (Or.inl rfl)) (Nat.le_of_ble_eq_true rfl)) (dss_weakN [.oi, .dat, .dat, .dat] (dss_one (ds_if (dt_nt (dt_val (de_callQ o_is_node (hr.mono (by decide)) rfl hx (da_cons (de_var 3 rfl (pv 3)) da_nil)))) (dss_one ds_no) dss_nil)) rfl) rfl rfl) (dss_cons (ds_ownF rfl (pv 0) (de_f (df_sortS rfl (un_le hr.un (by decide)) rfl rfl M.b_sorted (dst_set rfl (un_le hr.un (by decide)) rfl rfl M.b_set (db_cons (de_b (de_var 1 rfl (pv 1))) db_nil)))) rfl M.cls_Graph M.na_Graph_triples (by rw [M.fld_Graph]; rfl) (by rw [M.fld_Graph]; decide +kernel) (by rw [M.fld_Graph]; decide)) (dss_one (ds_ownF rfl (pv 0) (de_f (df_sortS rfl (un_le hr.un (by decide)) rfl rfl M.b_sorted (dst_set rfl (un_le hr.un (by decide)) rfl rfl M.b_set (db_cons (df_b (df_lstG (da_star (de_b (de_callQ o_ends_of (hr.mono (by decide)) rfl hx (da_cons (de_ownF rfl (pv 0) rfl M.cls_Graph M.na_Graph_triples (by rw [M.fld_Graph]; rfl) (by rw [M.fld_Graph]; decide +kernel)) da_nil))) (da_star (de_b (de_var 2 rfl (pv 2))) da_nil rfl) rfl))) db_nil)))) rfl M.cls_Graph M.na_Graph_points (by rw [M.fld_Graph]; rfl) (by rw [M.fld_Graph]; decide +kernel) (by rw [M.fld_Graph]; decide)))))) rfl rfl rfl rfl)

theorem sc__law_numberings : FnScope ["many", "found", "k", "longer", "one", "more"] ["many"] (defScope (top 45)) := ⟨rfl, rfl, rfl, by decide +kernel, rfl, by decide +kernel, by decide +kernel⟩
theorem ok__law_numberings (M : Mg K T mg)  {f : Addr} {fd : FuncData} (F : FunD K "_law_numberings" "_law_numberings" (defArgs (top 45)) (defBody (top 45)) (defScope (top 45)) [] [] f fd) : FnOk P w K mg base (CX P w) 1 f fd ["many"] (spM K T 1 false Zp.f__law_numberings) :=
  def_ok (S := Zp.s__law_numberings) F sc__law_numberings rfl rfl (by decide) fun cdv A outer s H E hr =>
    have Sc := @sc__law_numberings
    have hx : Passes (CX P w) (cxOf (CX P w) P w K mg base ["many", "found", "k", "longer", "one", "more"] "_law_numberings" (defScope (top 45)) f cdv A outer s H E) E := passes_call (takes_of rfl rfl rfl rfl) fun _ _ _ _ h => h
    have hp : PassesOwn (model P w) (cxOf (CX P w) P w K mg base ["many", "found", "k", "longer", "one", "more"] "_law_numberings" (defScope (top 45)) f cdv A outer s H E).A (cxOf (CX P w) P w K mg base ["many", "found", "k", "longer", "one", "more"] "_law_numberings" (defScope (top 45)) f cdv A outer s H E).env (cxOf (CX P w) P w K mg base ["many", "found", "k", "longer", "one", "more"] "_law_numberings" (defScope (top 45)) f cdv A outer s H E).xe := passes_of rfl
    (dss_weak (fl' := [.dat, .un, .un, .un, .un, .un]) (fo' := ⟨[], [], []⟩) (dss_cons (ds_set (de_f (df_lst (da_cons (de_tup (k := 0) da_nil) da_nil))) (dg_name (pg_name (i := 1) Sc.nd rfl (Or.inl rfl)) (Nat.le_of_ble_eq_true rfl))) (dss_cons (ds_for (flL := [.dat, .dat, .un, .un, .un, .un]) (fln := [.dat, .dat, .un, .un, .un, .un]) hp rfl (di_rng1 rfl M.b_range (de_var 0 rfl (pv 0))) (dg_name (pg_name (i := 2) Sc.nd rfl (Or.inl rfl)) (Nat.le_of_ble_eq_true rfl)) (dss_weakN [.dat, .dat, .dat, .dat, .un, .un] (dss_cons (ds_set (de_f (df_lst da_nil)) (dg_name (pg_name (i := 3) Sc.nd rfl (Or.inl rfl)) (Nat.le_of_ble_eq_true rfl))) (dss_cons (ds_for (flL := [.dat, .dat, .dat, .dat, .un, .un]) (fln := [.dat, .dat, .dat, .dat, .un, .un]) hp rfl (di_of (de_var 1 rfl (pv 1)) rfl) (dg_name (pg_name (i := 4) Sc.nd rfl (Or.inr rfl)) (Nat.le_of_ble_eq_true rfl)) (dss_weakN [.dat, .dat, .dat, .dat, .dat, .un] (dss_one (ds_set (op2_e sem_add (pe_op op_addT (de_b (de_var 3 rfl (pv 3))) (df_b (df_lc rfl Sc.nd (di_rng1 rfl M.b_range (op2_e sem_add (pe_op op_addT (de_b (de_lenS rfl rfl M.b_len (dst_setT rfl (un_le hr.un (by decide)) rfl rfl M.b_set (db_cons (de_b (de_var 4 rfl (pv 4))) db_nil)))) (de_b de_int)))) (blkOk_by (own := [("more", 5)]) rfl) (fun _ _ _ _ _ => (dg_name (pg_name (i := 5) Sc.nd rfl (Or.inl rfl)) (Nat.le_of_ble_eq_true rfl))) (fun _ _ _ _ _ => dts_nil) (fun _ _ _ _ _ => (op2_e sem_add (pe_op op_addT (de_b (de_var 4 rfl (pv 4))) (de_b (de_tup (k := 0) (da_cons (de_var 5 rfl (pv 5)) da_nil)))))) rfl)))) (dg_name (pg_name (i := 3) Sc.nd rfl (Or.inl rfl)) (Nat.le_of_ble_eq_true rfl)))) rfl) rfl rfl) (dss_one (ds_set (de_var 3 rfl (pv 3)) (dg_name (pg_name (i := 1) Sc.nd rfl (Or.inl rfl)) (Nat.le_of_ble_eq_true rfl)))))) rfl) rfl rfl) (dss_one (ds_ret (de_var 1 rfl (pv 1)))))) rfl rfl rfl rfl)

theorem sc_is_numbering : FnScope ["thing", "many", "top", "one"] ["thing", "many"] (defScope (top 31)) := ⟨rfl, rfl, rfl, by decide +kernel, rfl, by decide +kernel, by decide +kernel⟩
theorem ok_is_numbering (M : Mg K T mg)  {f : Addr} {fd : FuncData} (F : FunD K "is_numbering" "is_numbering" (defArgs (top 31)) (defBody (top 31)) (defScope (top 31)) [] [] f fd) : FnOk P w K mg base (CX P w) 1 f fd ["thing", "many"] (spM K T 2 false Zp.f_is_numbering) :=
  def_ok (S := Zp.s_is_numbering) F sc_is_numbering rfl rfl (by decide) fun cdv A outer s H E hr =>
    have Sc := @sc_is_numbering
    have hx : Passes (CX P w) (cxOf (CX P w) P w K mg base ["thing", "many", "top", "one"] "is_numbering" (defScope (top 31)) f cdv A outer s H E) E := passes_call (takes_of rfl rfl rfl rfl) fun _ _ _ _ h => h
    have hp : PassesOwn (model P w) (cxOf (CX P w) P w K mg base ["thing", "many", "top", "one"] "is_numbering" (defScope (top 31)) f cdv A outer s H E).A (cxOf (CX P w) P w K mg base ["thing", "many", "top", "one"] "is_numbering" (defScope (top 31)) f cdv A outer s H E).env (cxOf (CX P w) P w K mg base ["thing", "many", "top", "one"] "is_numbering" (defScope (top 31)) f cdv A outer s H E).xe := passes_of rfl
    (dss_weak (fl' := [.dat, .dat, .un, .un]) (fo' := ⟨[], [], []⟩) (dss_cons (ds_if (PW.pt (dw_or (dt_nt (dt_val (de_isi tab_tup (de_b (de_var 0 rfl (pv 0))) (pe_bltn rfl M.b_tuple (by decide +kernel) rfl) rfl rfl M.b_isinstance))) (dw_or1 (dt_cmp sem_ne (pt_cmpR (op_neD (un_le hr.un (by decide))) (de_b (de_bi call_lenA sem_len PySem.boot_len rfl M.b_len (db_cons (de_b (de_var 0 rfl (pv 0))) db_nil))) (de_b (de_var 1 rfl (pv 1))) (nomark _)))))) (dss_one (ds_ret de_bl)) dss_nil) (dss_cons (ds_set (op1_e sem_neg (pe_un un_neg (de_b de_int))) (dg_name (pg_name (i := 2) Sc.nd rfl (Or.inl rfl)) (Nat.le_of_ble_eq_true rfl))) (dss_cons (ds_for (flL := [.dat, .dat, .dat, .un]) (fln := [.dat, .dat, .dat, .un]) hp rfl (di_of (de_var 0 rfl (pv 0)) rfl) (dg_name (pg_name (i := 3) Sc.nd rfl (Or.inl rfl)) (Nat.le_of_ble_eq_true rfl)) (dss_weakN [.dat, .dat, .dat, .dat] (dss_cons (ds_if (PW.pt (dw_or (dt_nt (dt_val (de_isi tab_int (de_b (de_var 3 rfl (pv 3))) (pe_bltn rfl M.b_int (by decide +kernel) rfl) rfl rfl M.b_isinstance))) (dw_or (dt_val (de_isi tab_bool (de_b (de_var 3 rfl (pv 3))) (pe_bltn rfl M.b_bool (by decide +kernel) rfl) rfl rfl M.b_isinstance)) (dw_or1 (dt_nt (dt_chain sem_cmp sem_cmp (pt_chain op_le op_le (de_b de_int) (de_b (de_var 3 rfl (pv 3))) (de_b (op2_e sem_add (pe_op op_addT (de_b (de_var 2 rfl (pv 2))) (de_b de_int))))))))))) (dss_one (ds_ret de_bl)) dss_nil) (dss_one (ds_set (de_bi (call_maxA rfl) sem_max2 (by decide +kernel) rfl M.b_max (db_cons (de_b (de_var 2 rfl (pv 2))) (db_cons (de_b (de_var 3 rfl (pv 3))) db_nil))) (dg_name (pg_name (i := 2) Sc.nd rfl (Or.inl rfl)) (Nat.le_of_ble_eq_true rfl))))) rfl) rfl rfl) (dss_one (ds_ret de_bl))))) rfl rfl rfl rfl)

theorem sc_Pattern_len : FnScope ["self"] ["self"] (defScope (inClass (top 29) 2)) := ⟨rfl, rfl, rfl, by decide +kernel, rfl, by decide +kernel, by decide +kernel⟩
theorem ok_Pattern_len (M : Mg K T mg)  {f : Addr} {fd : FuncData} (F : FunD K "__len__" "Pattern.__len__" (defArgs (inClass (top 29) 2)) (defBody (inClass (top 29) 2)) (defScope (inClass (top 29) 2)) [] [] f fd) : FnOk P w K mg base (CX P w) 1 f fd ["self"] (spM K T 1 false Zp.f_Pattern_len) :=
  def_ok (S := Zp.s_Pattern_len) F sc_Pattern_len rfl rfl (by decide) fun cdv A outer s H E hr =>
    have Sc := @sc_Pattern_len
    have hx : Passes (CX P w) (cxOf (CX P w) P w K mg base ["self"] "Pattern.__len__" (defScope (inClass (top 29) 2)) f cdv A outer s H E) E := passes_call (takes_of rfl rfl rfl rfl) fun _ _ _ _ h => h
    have hp : PassesOwn (model P w) (cxOf (CX P w) P w K mg base ["self"] "Pattern.__len__" (defScope (inClass (top 29) 2)) f cdv A outer s H E).A (cxOf (CX P w) P w K mg base ["self"] "Pattern.__len__" (defScope (inClass (top 29) 2)) f cdv A outer s H E).env (cxOf (CX P w) P w K mg base ["self"] "Pattern.__len__" (defScope (inClass (top 29) 2)) f cdv A outer s H E).xe := passes_of rfl
    (dss_weak (fl' := [.dat]) (fo' := ⟨[], [], []⟩) (dss_one (ds_ret (de_bi call_lenA sem_len PySem.boot_len rfl M.b_len (db_cons (de_b (de_fld (de_var 0 rfl (pv 0)) rfl M.cls_Pattern M.na_Pattern_all_steps (by rw [M.fld_Pattern]; rfl) (by rw [M.fld_Pattern]; decide +kernel))) db_nil)))) rfl rfl rfl rfl)

theorem sc_regrouped : FnScope ["pattern", "regrouping", "clauses", "number", "step", "at"] ["pattern", "regrouping"] (defScope (top 33)) := ⟨rfl, rfl, rfl, by decide +kernel, rfl, by decide +kernel, by decide +kernel⟩
theorem ok_regrouped (M : Mg K T mg) (o_Pattern_init_K : MakKw P w K T mg base "Pattern" 4 2 1 ["shown"] Zp.f_Pattern_init) (o_Pattern_len : LenOk P w K T mg base 1 2 Zp.f_Pattern_len) (o_is_numbering : CalOk P w K T mg base "is_numbering" 1 2 false [] Zp.f_is_numbering) {f : Addr} {fd : FuncData} (F : FunD K "regrouped" "regrouped" (defArgs (top 33)) (defBody (top 33)) (defScope (top 33)) [] [] f fd) : FnOk P w K mg base (CX P w) 6 f fd ["pattern", "regrouping"] (spM K T 2 false Zp.f_regrouped) :=
  def_ok (S := Zp.s_regrouped) F sc_regrouped rfl rfl (by decide) fun cdv A outer s H E hr =>
    have Sc := @sc_regrouped
    have hx : Passes (CX P w) (cxOf (CX P w) P w K mg base ["pattern", "regrouping", "clauses", "number", "step", "at"] "regrouped" (defScope (top 33)) f cdv A outer s H E) E := passes_call (takes_of rfl rfl rfl rfl) fun _ _ _ _ h => h
    have hp : PassesOwn (model P w) (cxOf (CX P w) P w K mg base ["pattern", "regrouping", "clauses", "number", "step", "at"] "regrouped" (defScope (top 33)) f cdv A outer s H E).A (cxOf (CX P w) P w K mg base ["pattern", "regrouping", "clauses", "number", "step", "at"] "regrouped" (defScope (top 33)) f cdv A outer s H E).env (cxOf (CX P w) P w K mg base ["pattern", "regrouping", "clauses", "number", "step", "at"] "regrouped" (defScope (top 33)) f cdv A outer s H E).xe := passes_of rfl
    (dss_weak (fl' := [.dat, .dat, .un, .un, .un, .un]) (fo' := ⟨[], [], []⟩) (dss_cons (ds_if (dt_nt (dt_val (de_callQ o_is_numbering (hr.mono (by decide)) rfl hx (da_cons (de_var 1 rfl (pv 1)) (da_cons (de_lenI o_Pattern_len (hr.mono (by decide)) hx rfl M.b_len (de_var 0 rfl (pv 0))) da_nil))))) (dss_one ds_no) dss_nil) (dss_cons (ds_setLc rfl Sc.nd (di_rng1 rfl M.b_range (op2_e sem_add (pe_op op_addT (de_b (de_bi (cr_maxT rfl (un_le hr.un (by decide))) sem_maxT (by decide +kernel) rfl M.b_max (db_cons (de_b (de_var 1 rfl (pv 1))) db_nil))) (de_b de_int)))) (blkOk_by (own := [("number", 3)]) rfl) (fun _ _ _ _ _ => (dg_name (pg_name (i := 3) Sc.nd rfl (Or.inr rfl)) (Nat.le_of_ble_eq_true rfl))) (fun _ _ _ _ _ => dts_nil) (fun _ _ _ _ _ => (de_f (df_lc rfl Sc.nd (di_zipT rfl M.b_zip (de_fld (de_var 0 rfl (pv 0)) rfl M.cls_Pattern M.na_Pattern_all_steps (by rw [M.fld_Pattern]; rfl) (by rw [M.fld_Pattern]; decide +kernel)) (de_var 1 rfl (pv 1)) rfl) (blkOk_by (own := [("step", 4), ("at", 5)]) rfl) (fun _ _ _ _ _ => (dg_tup rfl (dgs_cons (dg_name (pg_name (i := 4) Sc.nd rfl (Or.inl rfl)) (Nat.le_of_ble_eq_true rfl)) (dgs_cons (dg_name (pg_name (i := 5) Sc.nd rfl (Or.inl rfl)) (Nat.le_of_ble_eq_true rfl)) dgs_nil)))) (fun _ _ _ _ _ => (dts_one (dt_cmp sem_eq (pt_cmpR (op_eqD (un_le hr.un (by decide))) (de_b (de_var 5 rfl (pv 5))) (de_b (de_var 3 rfl (pv 3))) (nomark _))))) (fun _ _ _ _ _ => (de_var 4 rfl (pv 4))) rfl))) rfl (i := 2) rfl (Nat.le_of_ble_eq_true rfl) rfl (sw_true rfl rfl rfl rfl)) (dss_one (ds_ret (de_f (df_makeK o_Pattern_init_K (hr.mono (by decide)) rfl hx (da_cons (de_var 2 rfl (pv 2)) da_nil) (dk_cons (de_fld (de_var 0 rfl (pv 0)) rfl M.cls_Pattern M.na_Pattern_shown (by rw [M.fld_Pattern]; rfl) (by rw [M.fld_Pattern]; decide +kernel)) dk_nil))))))) rfl rfl rfl rfl)

theorem sc__law_put_anew : FnScope ["steps", "numbers", "clauses", "number", "k"] ["steps", "numbers"] (defScope (top 48)) := ⟨rfl, rfl, rfl, by decide +kernel, rfl, by decide +kernel, by decide +kernel⟩
theorem ok__law_put_anew (M : Mg K T mg)  {f : Addr} {fd : FuncData} (F : FunD K "_law_put_anew" "_law_put_anew" (defArgs (top 48)) (defBody (top 48)) (defScope (top 48)) [] [] f fd) : FnOk P w K mg base (CX P w) 1 f fd ["steps", "numbers"] (spM K T 2 false Zp.f__law_put_anew) :=
  def_ok (S := Zp.s__law_put_anew) F sc__law_put_anew rfl rfl (by decide) fun cdv A outer s H E hr =>
    have Sc := @sc__law_put_anew
    have hx : Passes (CX P w) (cxOf (CX P w) P w K mg base ["steps", "numbers", "clauses", "number", "k"] "_law_put_anew" (defScope (top 48)) f cdv A outer s H E) E := passes_call (takes_of rfl rfl rfl rfl) fun _ _ _ _ h => h
    have hp : PassesOwn (model P w) (cxOf (CX P w) P w K mg base ["steps", "numbers", "clauses", "number", "k"] "_law_put_anew" (defScope (top 48)) f cdv A outer s H E).A (cxOf (CX P w) P w K mg base ["steps", "numbers", "clauses", "number", "k"] "_law_put_anew" (defScope (top 48)) f cdv A outer s H E).env (cxOf (CX P w) P w K mg base ["steps", "numbers", "clauses", "number", "k"] "_law_put_anew" (defScope (top 48)) f cdv A outer s H E).xe := passes_of rfl
    (dss_weak (fl' := [.dat, .dat, .un, .un, .un]) (fo' := ⟨[], [], []⟩) (dss_cons (ds_own (i := 2) (df_lst da_nil) lst_xLst Sc.nd rfl (Or.inl rfl)) (dss_cons (ds_for (flL := [.dat, .dat, .ol, .un, .un]) (fln := [.dat, .dat, .ol, .un, .un]) hp rfl (di_rng1 rfl M.b_range (op2_e sem_add (pe_op op_addT (de_b (de_bi (cr_maxT rfl (un_le hr.un (by decide))) sem_maxT (by decide +kernel) rfl M.b_max (db_cons (de_b (de_var 1 rfl (pv 1))) db_nil))) (de_b de_int)))) (dg_name (pg_name (i := 3) Sc.nd rfl (Or.inr rfl)) (Nat.le_of_ble_eq_true rfl)) (dss_weakN [.dat, .dat, .ol, .dat, .un] (dss_one (ds_app rfl (Nat.le_of_ble_eq_true rfl) (pv 2) (de_f (df_lc rfl Sc.nd (di_rng1 rfl M.b_range (de_bi call_lenA sem_len PySem.boot_len rfl M.b_len (db_cons (de_b (de_var 0 rfl (pv 0))) db_nil))) (blkOk_by (own := [("k", 4)]) rfl) (fun _ _ _ _ _ => (dg_name (pg_name (i := 4) Sc.nd rfl (Or.inl rfl)) (Nat.le_of_ble_eq_true rfl))) (fun _ _ _ _ _ => (dts_one (dt_cmp sem_eq (pt_cmpR (op_eqD (un_le hr.un (by decide))) (de_b (op2_e sem_ix (pe_ix ix_A (de_b (de_var 1 rfl (pv 1))) (de_b (de_var 4 rfl (pv 4))) (by intro _ _; rfl)))) (de_b (de_var 3 rfl (pv 3))) (nomark _))))) (fun _ _ _ _ _ => (op2_e sem_ix (pe_ix ix_A (de_b (de_var 0 rfl (pv 0))) (de_b (de_var 4 rfl (pv 4))) (by intro _ _; rfl)))) rfl)) rfl)) rfl) rfl rfl) (dss_frz (i := 2) rfl (by decide) (dss_one (ds_ret (de_var 2 rfl (pv 2))))))) rfl rfl rfl rfl)

theorem sc_Pattern_eq : FnScope ["self", "other"] ["self", "other"] (defScope (inClass (top 29) 3)) := ⟨rfl, rfl, rfl, by decide +kernel, rfl, by decide +kernel, by decide +kernel⟩
theorem ok_Pattern_eq (M : Mg K T mg)  {f : Addr} {fd : FuncData} (F : FunD K "__eq__" "Pattern.__eq__" (defArgs (inClass (top 29) 3)) (defBody (inClass (top 29) 3)) (defScope (inClass (top 29) 3)) [] [] f fd) : FnOk P w K mg base (CX P w) 1 f fd ["self", "other"] (spM K T 2 false Zp.f_Pattern_eq) :=
  def_ok (S := Zp.s_Pattern_eq) F sc_Pattern_eq rfl rfl (by decide) fun cdv A outer s H E hr =>
    have Sc := @sc_Pattern_eq
    have hx : Passes (CX P w) (cxOf (CX P w) P w K mg base ["self", "other"] "Pattern.__eq__" (defScope (inClass (top 29) 3)) f cdv A outer s H E) E := passes_call (takes_of rfl rfl rfl rfl) fun _ _ _ _ h => h
    have hp : PassesOwn (model P w) (cxOf (CX P w) P w K mg base ["self", "other"] "Pattern.__eq__" (defScope (inClass (top 29) 3)) f cdv A outer s H E).A (cxOf (CX P w) P w K mg base ["self", "other"] "Pattern.__eq__" (defScope (inClass (top 29) 3)) f cdv A outer s H E).env (cxOf (CX P w) P w K mg base ["self", "other"] "Pattern.__eq__" (defScope (inClass (top 29) 3)) f cdv A outer s H E).xe := passes_of rfl
    (dss_weak (fl' := [.dat, .dat]) (fo' := ⟨[], [], []⟩) (dss_one (ds_ret (de_and (de_isC M.ic_Pattern (de_b (de_var 1 rfl (pv 1))) (pe_glob rfl M.mg_Pattern rfl) rfl rfl M.b_isinstance) (de_and (op2_e sem_eq (pe_cmpR (op_eqD (un_le hr.un (by decide))) (de_b (de_fld (de_var 0 rfl (pv 0)) rfl M.cls_Pattern M.na_Pattern_clauses (by rw [M.fld_Pattern]; rfl) (by rw [M.fld_Pattern]; decide +kernel))) (de_b (de_fld (de_var 1 rfl (pv 1)) rfl M.cls_Pattern M.na_Pattern_clauses (by rw [M.fld_Pattern]; rfl) (by rw [M.fld_Pattern]; decide +kernel))) (nomark _))) (de_and1 (op2_e sem_eq (pe_cmpR (op_eqD (un_le hr.un (by decide))) (de_b (de_fld (de_var 0 rfl (pv 0)) rfl M.cls_Pattern M.na_Pattern_shown (by rw [M.fld_Pattern]; rfl) (by rw [M.fld_Pattern]; decide +kernel))) (de_b (de_fld (de_var 1 rfl (pv 1)) rfl M.cls_Pattern M.na_Pattern_shown (by rw [M.fld_Pattern]; rfl) (by rw [M.fld_Pattern]; decide +kernel))) (nomark _)))))))) rfl rfl rfl rfl)

theorem sc_Graph_len : FnScope ["self"] ["self"] (defScope (inClass (top 20) 7)) := ⟨rfl, rfl, rfl, by decide +kernel, rfl, by decide +kernel, by decide +kernel⟩
theorem ok_Graph_len (M : Mg K T mg)  {f : Addr} {fd : FuncData} (F : FunD K "__len__" "Graph.__len__" (defArgs (inClass (top 20) 7)) (defBody (inClass (top 20) 7)) (defScope (inClass (top 20) 7)) [] [] f fd) : FnOk P w K mg base (CX P w) 1 f fd ["self"] (spM K T 1 false Zp.f_Graph_len) :=
  def_ok (S := Zp.s_Graph_len) F sc_Graph_len rfl rfl (by decide) fun cdv A outer s H E hr =>
    have Sc := @sc_Graph_len
    have hx : Passes (CX P w) (cxOf (CX P w) P w K mg base ["self"] "Graph.__len__" (defScope (inClass (top 20) 7)) f cdv A outer s H E) E := passes_call (takes_of rfl rfl rfl rfl) fun _ _ _ _ h => h
    have hp : PassesOwn (model P w) (cxOf (CX P w) P w K mg base ["self"] "Graph.__len__" (defScope (inClass (top 20) 7)) f cdv A outer s H E).A (cxOf (CX P w) P w K mg base ["self"] "Graph.__len__" (defScope (inClass (top 20) 7)) f cdv A outer s H E).env (cxOf (CX P w) P w K mg base ["self"] "Graph.__len__" (defScope (inClass (top 20) 7)) f cdv A outer s H E).xe := passes_of rfl
    (dss_weak (fl' := [.dat]) (fo' := ⟨[], [], []⟩) (dss_one (ds_ret (de_bi call_lenA sem_len PySem.boot_len rfl M.b_len (db_cons (de_b (de_fld (de_var 0 rfl (pv 0)) rfl M.cls_Graph M.na_Graph_triples (by rw [M.fld_Graph]; rfl) (by rw [M.fld_Graph]; decide +kernel))) db_nil)))) rfl rfl rfl rfl)

theorem sc_extended_places : FnScope ["places", "step", "edge", "source", "label", "target", "found"] ["places", "step", "edge"] (defScope (top 27)) := ⟨rfl, rfl, rfl, by decide +kernel, rfl, by decide +kernel, by decide +kernel⟩
theorem ok_extended_places (M : Mg K T mg)  {f : Addr} {fd : FuncData} (F : FunD K "extended_places" "extended_places" (defArgs (top 27)) (defBody (top 27)) (defScope (top 27)) [] [] f fd) : FnOk P w K mg base (CX P w) 1 f fd ["places", "step", "edge"] (spM K T 3 false Zp.f_extended_places) :=
  def_ok (S := Zp.s_extended_places) F sc_extended_places rfl rfl (by decide) fun cdv A outer s H E hr =>
    have Sc := @sc_extended_places
    have hx : Passes (CX P w) (cxOf (CX P w) P w K mg base ["places", "step", "edge", "source", "label", "target", "found"] "extended_places" (defScope (top 27)) f cdv A outer s H E) E := passes_call (takes_of rfl rfl rfl rfl) fun _ _ _ _ h => h
    have hp : PassesOwn (model P w) (cxOf (CX P w) P w K mg base ["places", "step", "edge", "source", "label", "target", "found"] "extended_places" (defScope (top 27)) f cdv A outer s H E).A (cxOf (CX P w) P w K mg base ["places", "step", "edge", "source", "label", "target", "found"] "extended_places" (defScope (top 27)) f cdv A outer s H E).env (cxOf (CX P w) P w K mg base ["places", "step", "edge", "source", "label", "target", "found"] "extended_places" (defScope (top 27)) f cdv A outer s H E).xe := passes_of rfl
    (dss_weak (fl' := [.dat, .dat, .dat, .un, .un, .un, .un]) (fo' := ⟨[], [], []⟩) (dss_cons (ds_set (de_var 1 rfl (pv 1)) (dg_tup rfl (dgs_cons (dg_name (pg_name (i := 3) Sc.nd rfl (Or.inl rfl)) (Nat.le_of_ble_eq_true rfl)) (dgs_cons (dg_name (pg_name (i := 4) Sc.nd rfl (Or.inl rfl)) (Nat.le_of_ble_eq_true rfl)) (dgs_cons (dg_name (pg_name (i := 5) Sc.nd rfl (Or.inl rfl)) (Nat.le_of_ble_eq_true rfl)) dgs_nil))))) (dss_cons (ds_if (PW.pt (dw_or (dt_cmp sem_ne (pt_cmpR (op_neD (un_le hr.un (by decide))) (de_b (op2_e sem_ix (pe_ix ix_A (de_b (de_var 2 rfl (pv 2))) (de_b de_int) (by intro _ _; rfl)))) (de_b (de_var 4 rfl (pv 4))) (nomark _))) (dw_or1 (dt_cmp sem_ne (pt_cmpR (op_neD (un_le hr.un (by decide))) (de_b (de_dget2 (un_le hr.un (by decide)) (de_b (de_var 0 rfl (pv 0))) (de_var 3 rfl (pv 3)) (op2_e sem_ix (pe_ix ix_A (de_b (de_var 2 rfl (pv 2))) (de_b de_int) (by intro _ _; rfl))))) (de_b (op2_e sem_ix (pe_ix ix_A (de_b (de_var 2 rfl (pv 2))) (de_b de_int) (by intro _ _; rfl)))) (nomark _)))))) (dss_one (ds_ret de_non)) dss_nil) (dss_cons (ds_ownD (i := 6) (df_ty call_dictC sem_dict (by decide +kernel) rfl M.b_dict (db_cons (de_b (de_var 0 rfl (pv 0))) db_nil)) dct_oDict Sc.nd rfl (Or.inl rfl)) (dss_cons (ds_dput (un_le hr.un (by decide)) rfl (pv 6) (de_var 3 rfl (pv 3)) (op2_e sem_ix (pe_ix ix_A (de_b (de_var 2 rfl (pv 2))) (de_b de_int) (by intro _ _; rfl)))) (dss_cons (ds_if (dt_cmp sem_ne (pt_cmpR (op_neD (un_le hr.un (by decide))) (de_b (de_dget2 (un_le hr.un (by decide)) (de_ownD 6 rfl (pv 6)) (de_var 5 rfl (pv 5)) (op2_e sem_ix (pe_ix ix_A (de_b (de_var 2 rfl (pv 2))) (de_b de_int) (by intro _ _; rfl))))) (de_b (op2_e sem_ix (pe_ix ix_A (de_b (de_var 2 rfl (pv 2))) (de_b de_int) (by intro _ _; rfl)))) (nomark _))) (dss_one (ds_ret de_non)) dss_nil) (dss_cons (ds_dput (un_le hr.un (by decide)) rfl (pv 6) (de_var 5 rfl (pv 5)) (op2_e sem_ix (pe_ix ix_A (de_b (de_var 2 rfl (pv 2))) (de_b de_int) (by intro _ _; rfl)))) (dss_frzD (i := 6) rfl (by decide) (dss_one (ds_ret (de_var 6 rfl (pv 6))))))))))) rfl rfl rfl rfl)

theorem sc_placements : FnScope ["clauses", "edges", "places", "found", "clause", "step", "longer", "one", "used", "edge", "more"] ["clauses", "edges", "places"] (defScope (top 28)) := ⟨rfl, rfl, rfl, by decide +kernel, rfl, by decide +kernel, by decide +kernel⟩
theorem ok_placements (M : Mg K T mg) (o_extended_places : CalOk P w K T mg base "extended_places" 1 3 false [] Zp.f_extended_places) {f : Addr} {fd : FuncData} (F : FunD K "placements" "placements" (defArgs (top 28)) (defBody (top 28)) (defScope (top 28)) [] [] f fd) : FnOk P w K mg base (CX P w) 2 f fd ["clauses", "edges", "places"] (spM K T 3 false Zp.f_placements) :=
  def_ok (S := Zp.s_placements) F sc_placements rfl rfl (by decide) fun cdv A outer s H E hr =>
    have Sc := @sc_placements
    have hx : Passes (CX P w) (cxOf (CX P w) P w K mg base ["clauses", "edges", "places", "found", "clause", "step", "longer", "one", "used", "edge", "more"] "placements" (defScope (top 28)) f cdv A outer s H E) E := passes_call (takes_of rfl rfl rfl rfl) fun _ _ _ _ h => h
    have hp : PassesOwn (model P w) (cxOf (CX P w) P w K mg base ["clauses", "edges", "places", "found", "clause", "step", "longer", "one", "used", "edge", "more"] "placements" (defScope (top 28)) f cdv A outer s H E).A (cxOf (CX P w) P w K mg base ["clauses", "edges", "places", "found", "clause", "step", "longer", "one", "used", "edge", "more"] "placements" (defScope (top 28)) f cdv A outer s H E).env (cxOf (CX P w) P w K mg base ["clauses", "edges", "places", "found", "clause", "step", "longer", "one", "used", "edge", "more"] "placements" (defScope (top 28)) f cdv A outer s H E).xe := passes_of rfl
    (dss_weak (fl' := [.dat, .dat, .dat, .un, .un, .un, .un, .un, .un, .un, .un]) (fo' := ⟨[], [], []⟩) (dss_cons (ds_set (de_f (df_lst (da_cons (de_var 2 rfl (pv 2)) da_nil))) (dg_name (pg_name (i := 3) Sc.nd rfl (Or.inl rfl)) (Nat.le_of_ble_eq_true rfl))) (dss_cons (ds_for (flL := [.dat, .dat, .dat, .dat, .un, .un, .un, .un, .un, .un, .un]) (fln := [.dat, .dat, .dat, .dat, .un, .un, .un, .un, .un, .un, .un]) hp rfl (di_of (de_var 0 rfl (pv 0)) rfl) (dg_name (pg_name (i := 4) Sc.nd rfl (Or.inl rfl)) (Nat.le_of_ble_eq_true rfl)) (dss_weakN [.dat, .dat, .dat, .dat, .dat, .un, .un, .un, .un, .un, .un] (dss_cons (ds_setLc rfl Sc.nd (di_of (de_var 3 rfl (pv 3)) rfl) (blkOk_by (own := [("one", 7)]) rfl) (fun _ _ _ _ _ => (dg_name (pg_name (i := 7) Sc.nd rfl (Or.inl rfl)) (Nat.le_of_ble_eq_true rfl))) (fun _ _ _ _ _ => dts_nil) (fun _ _ _ _ _ => (de_tup (k := 0) (da_cons (de_var 7 rfl (pv 7)) (da_cons (de_f (df_lst da_nil)) da_nil)))) rfl (i := 3) rfl (Nat.le_of_ble_eq_true rfl) rfl (sw_true rfl rfl rfl rfl)) (dss_cons (ds_for (flL := [.dat, .dat, .dat, .dat, .dat, .un, .un, .un, .un, .un, .un]) (fln := [.dat, .dat, .dat, .dat, .dat, .un, .un, .un, .un, .un, .un]) hp rfl (di_of (de_var 4 rfl (pv 4)) rfl) (dg_name (pg_name (i := 5) Sc.nd rfl (Or.inl rfl)) (Nat.le_of_ble_eq_true rfl)) (dss_weakN [.dat, .dat, .dat, .dat, .dat, .dat, .ol, .un, .un, .un, .un] (dss_cons (ds_own (i := 6) (df_lst da_nil) lst_xLst Sc.nd rfl (Or.inl rfl)) (dss_cons (ds_for (flL := [.dat, .dat, .dat, .dat, .dat, .dat, .ol, .un, .un, .un, .un]) (fln := [.dat, .dat, .dat, .dat, .dat, .dat, .ol, .un, .un, .un, .un]) hp rfl (di_of (de_var 3 rfl (pv 3)) rfl) (dg_tup rfl (dgs_cons (dg_name (pg_name (i := 7) Sc.nd rfl (Or.inl rfl)) (Nat.le_of_ble_eq_true rfl)) (dgs_cons (dg_name (pg_name (i := 8) Sc.nd rfl (Or.inl rfl)) (Nat.le_of_ble_eq_true rfl)) dgs_nil))) (dss_weakN [.dat, .dat, .dat, .dat, .dat, .dat, .ol, .dat, .dat, .un, .un] (dss_one (ds_for (flL := [.dat, .dat, .dat, .dat, .dat, .dat, .ol, .dat, .dat, .un, .un]) (fln := [.dat, .dat, .dat, .dat, .dat, .dat, .ol, .dat, .dat, .un, .un]) hp rfl (di_of (de_var 1 rfl (pv 1)) rfl) (dg_name (pg_name (i := 9) Sc.nd rfl (Or.inl rfl)) (Nat.le_of_ble_eq_true rfl)) (dss_weakN [.dat, .dat, .dat, .dat, .dat, .dat, .ol, .dat, .dat, .dat, .dat] (dss_cons (ds_set (de_if (dt_cmp sem_in (pt_cmpR (op_inA (un_le hr.un (by decide))) (de_b (de_var 9 rfl (pv 9))) (de_b (de_var 8 rfl (pv 8))) rfl)) de_non (de_callQ o_extended_places (hr.mono (by decide)) rfl hx (da_cons (de_var 7 rfl (pv 7)) (da_cons (de_var 5 rfl (pv 5)) (da_cons (de_var 9 rfl (pv 9)) da_nil))))) (dg_name (pg_name (i := 10) Sc.nd rfl (Or.inl rfl)) (Nat.le_of_ble_eq_true rfl))) (dss_one (ds_if (dt_cmp sem_isnot (pt_cmpR op_notN1 (de_b (de_var 10 rfl (pv 10))) (de_b de_non) (nomark _))) (dss_one (ds_app rfl (Nat.le_of_ble_eq_true rfl) (pv 6) (de_tup (k := 0) (da_cons (de_var 10 rfl (pv 10)) (da_cons (op2_e sem_add (pe_op op_addT (de_b (de_var 8 rfl (pv 8))) (df_b (df_lst (da_cons (de_var 9 rfl (pv 9)) da_nil))))) da_nil))) rfl)) dss_nil))) rfl) rfl rfl)) rfl) rfl rfl) (dss_one (ds_set (de_f (df_ty call_listA sem_list (by decide +kernel) rfl M.b_list (db_cons (de_own 6 rfl (pv 6)) db_nil))) (dg_name (pg_name (i := 3) Sc.nd rfl (Or.inl rfl)) (Nat.le_of_ble_eq_true rfl)))))) rfl) rfl rfl) (dss_one (ds_setLc rfl Sc.nd (di_of (de_var 3 rfl (pv 3)) rfl) (blkOk_by (own := [("one", 7), ("used", 8)]) rfl) (fun _ _ _ _ _ => (dg_tup rfl (dgs_cons (dg_name (pg_name (i := 7) Sc.nd rfl (Or.inl rfl)) (Nat.le_of_ble_eq_true rfl)) (dgs_cons (dg_name (pg_name (i := 8) Sc.nd rfl (Or.inl rfl)) (Nat.le_of_ble_eq_true rfl)) dgs_nil)))) (fun _ _ _ _ _ => dts_nil) (fun _ _ _ _ _ => (de_var 7 rfl (pv 7))) rfl (i := 3) rfl (Nat.le_of_ble_eq_true rfl) rfl (sw_true rfl rfl rfl rfl))))) rfl) rfl rfl) (dss_one (ds_ret (de_var 3 rfl (pv 3)))))) rfl rfl rfl rfl)

theorem sc_Graph_edges : FnScope ["self"] ["self"] (defScope (inClass (top 20) 3)) := ⟨rfl, rfl, rfl, by decide +kernel, rfl, by decide +kernel, by decide +kernel⟩
theorem ok_Graph_edges (M : Mg K T mg)  {f : Addr} {fd : FuncData} (F : FunD K "edges" "Graph.edges" (defArgs (inClass (top 20) 3)) (defBody (inClass (top 20) 3)) (defScope (inClass (top 20) 3)) [] [] f fd) : FnOk P w K mg base (CX P w) 1 f fd ["self"] (spM K T 1 false Zp.f_Graph_edges) :=
  def_ok (S := Zp.s_Graph_edges) F sc_Graph_edges rfl rfl (by decide) fun cdv A outer s H E hr =>
    have Sc := @sc_Graph_edges
    have hx : Passes (CX P w) (cxOf (CX P w) P w K mg base ["self"] "Graph.edges" (defScope (inClass (top 20) 3)) f cdv A outer s H E) E := passes_call (takes_of rfl rfl rfl rfl) fun _ _ _ _ h => h
    have hp : PassesOwn (model P w) (cxOf (CX P w) P w K mg base ["self"] "Graph.edges" (defScope (inClass (top 20) 3)) f cdv A outer s H E).A (cxOf (CX P w) P w K mg base ["self"] "Graph.edges" (defScope (inClass (top 20) 3)) f cdv A outer s H E).env (cxOf (CX P w) P w K mg base ["self"] "Graph.edges" (defScope (inClass (top 20) 3)) f cdv A outer s H E).xe := passes_of rfl
    (dss_weak (fl' := [.dat]) (fo' := ⟨[], [], []⟩) (dss_one (ds_ret (de_f (df_ty call_listA sem_list (by decide +kernel) rfl M.b_list (db_cons (de_b (de_fld (de_var 0 rfl (pv 0)) rfl M.cls_Graph M.na_Graph_triples (by rw [M.fld_Graph]; rfl) (by rw [M.fld_Graph]; decide +kernel))) db_nil))))) rfl rfl rfl rfl)

theorem sc_Pattern_row_of : FnScope ["self", "places", "name"] ["self", "places"] (defScope (inClass (top 29) 5)) := ⟨rfl, rfl, rfl, by decide +kernel, rfl, by decide +kernel, by decide +kernel⟩
theorem ok_Pattern_row_of (M : Mg K T mg)  {f : Addr} {fd : FuncData} (F : FunD K "row_of" "Pattern.row_of" (defArgs (inClass (top 29) 5)) (defBody (inClass (top 29) 5)) (defScope (inClass (top 29) 5)) [] [] f fd) : FnOk P w K mg base (CX P w) 1 f fd ["self", "places"] (spM K T 2 false Zp.f_Pattern_row_of) :=
  def_ok (S := Zp.s_Pattern_row_of) F sc_Pattern_row_of rfl rfl (by decide) fun cdv A outer s H E hr =>
    have Sc := @sc_Pattern_row_of
    have hx : Passes (CX P w) (cxOf (CX P w) P w K mg base ["self", "places", "name"] "Pattern.row_of" (defScope (inClass (top 29) 5)) f cdv A outer s H E) E := passes_call (takes_of rfl rfl rfl rfl) fun _ _ _ _ h => h
    have hp : PassesOwn (model P w) (cxOf (CX P w) P w K mg base ["self", "places", "name"] "Pattern.row_of" (defScope (inClass (top 29) 5)) f cdv A outer s H E).A (cxOf (CX P w) P w K mg base ["self", "places", "name"] "Pattern.row_of" (defScope (inClass (top 29) 5)) f cdv A outer s H E).env (cxOf (CX P w) P w K mg base ["self", "places", "name"] "Pattern.row_of" (defScope (inClass (top 29) 5)) f cdv A outer s H E).xe := passes_of rfl
    (dss_weak (fl' := [.dat, .dat, .un]) (fo' := ⟨[], [], []⟩) (dss_one (ds_ret (de_ty call_tupleA sem_tuple (by decide +kernel) rfl M.b_tuple (db_cons (df_b (df_lc rfl Sc.nd (di_of (de_fld (de_var 0 rfl (pv 0)) rfl M.cls_Pattern M.na_Pattern_names (by rw [M.fld_Pattern]; rfl) (by rw [M.fld_Pattern]; decide +kernel)) rfl) (blkOk_by (own := [("name", 2)]) rfl) (fun _ _ _ _ _ => (dg_name (pg_name (i := 2) Sc.nd rfl (Or.inl rfl)) (Nat.le_of_ble_eq_true rfl))) (fun _ _ _ _ _ => dts_nil) (fun _ _ _ _ _ => (de_dix (un_le hr.un (by decide)) (de_b (de_var 1 rfl (pv 1))) (de_var 2 rfl (pv 2)))) rfl)) db_nil)))) rfl rfl rfl rfl)

theorem sc_Pattern_rows : FnScope ["self", "graph", "one"] ["self", "graph"] (defScope (inClass (top 29) 7)) := ⟨rfl, rfl, rfl, by decide +kernel, rfl, by decide +kernel, by decide +kernel⟩
theorem ok_Pattern_rows (M : Mg K T mg) (o_Graph_len : LenOk P w K T mg base 1 1 Zp.f_Graph_len) (o_Graph_edges : MetOk P w K T mg base 1 1 1 "edges" Zp.f_Graph_edges) (o_Pattern_row_of : MetOk P w K T mg base 1 2 2 "row_of" Zp.f_Pattern_row_of) (o_placements : CalOk P w K T mg base "placements" 2 3 false [] Zp.f_placements) {f : Addr} {fd : FuncData} (F : FunD K "rows" "Pattern.rows" (defArgs (inClass (top 29) 7)) (defBody (inClass (top 29) 7)) (defScope (inClass (top 29) 7)) [] [] f fd) : FnOk P w K mg base (CX P w) 3 f fd ["self", "graph"] (spM K T 2 false Zp.f_Pattern_rows) :=
  def_ok (S := Zp.s_Pattern_rows) F sc_Pattern_rows rfl rfl (by decide) fun cdv A outer s H E hr =>
    have Sc := @sc_Pattern_rows
    have hx : Passes (CX P w) (cxOf (CX P w) P w K mg base ["self", "graph", "one"] "Pattern.rows" (defScope (inClass (top 29) 7)) f cdv A outer s H E) E := passes_call (takes_of rfl rfl rfl rfl) fun _ _ _ _ h => h
    have hp : PassesOwn (model P w) (cxOf (CX P w) P w K mg base ["self", "graph", "one"] "Pattern.rows" (defScope (inClass (top 29) 7)) f cdv A outer s H E).A (cxOf (CX P w) P w K mg base ["self", "graph", "one"] "Pattern.rows" (defScope (inClass (top 29) 7)) f cdv A outer s H E).env (cxOf (CX P w) P w K mg base ["self", "graph", "one"] "Pattern.rows" (defScope (inClass (top 29) 7)) f cdv A outer s H E).xe := passes_of rfl
    (dss_weak (fl' := [.dat, .dat, .un]) (fo' := ⟨[], [], []⟩) (dss_cons (ds_if (dt_cmp sem_cmp (pt_cmpR op_gt (de_b (de_lenI o_Graph_len (hr.mono (by decide)) hx rfl M.b_len (de_var 1 rfl (pv 1)))) (de_b (de_glI rfl M.c_MOST_EDGES)) (nomark _))) (dss_one ds_no) dss_nil) (dss_one (ds_ret (de_f (df_bi (cr_sortD (un_le hr.un (by decide))) sem_sorted (by decide +kernel) rfl M.b_sorted (db_cons (df_b (df_lc rfl Sc.nd (di_of (de_callQ o_placements (hr.mono (by decide)) rfl hx (da_cons (de_fld (de_var 0 rfl (pv 0)) rfl M.cls_Pattern M.na_Pattern_clauses (by rw [M.fld_Pattern]; rfl) (by rw [M.fld_Pattern]; decide +kernel)) (da_cons (de_meth0 o_Graph_edges (hr.mono (by decide)) hx (de_var 1 rfl (pv 1))) (da_cons (de_f df_dct0) da_nil)))) rfl) (blkOk_by (own := [("one", 2)]) rfl) (fun _ _ _ _ _ => (dg_name (pg_name (i := 2) Sc.nd rfl (Or.inl rfl)) (Nat.le_of_ble_eq_true rfl))) (fun _ _ _ _ _ => dts_nil) (fun _ _ _ _ _ => (de_meth o_Pattern_row_of (hr.mono (by decide)) passF (de_var 0 rfl (pv 0)) (da_cons (de_var 2 rfl (pv 2)) da_nil))) rfl)) db_nil)))))) rfl rfl rfl rfl)

theorem sc__law_rows : FnScope ["clauses", "edges", "found", "clause", "step", "longer", "places", "used", "edge", "more", "name", "node", "pair"] ["clauses", "edges"] (defScope (top 46)) := ⟨rfl, rfl, rfl, by decide +kernel, rfl, by decide +kernel, by decide +kernel⟩
theorem ok__law_rows (M : Mg K T mg)  {f : Addr} {fd : FuncData} (F : FunD K "_law_rows" "_law_rows" (defArgs (top 46)) (defBody (top 46)) (defScope (top 46)) [] [] f fd) : FnOk P w K mg base (CX P w) 1 f fd ["clauses", "edges"] (spM K T 2 false Zp.f__law_rows) :=
  def_ok (S := Zp.s__law_rows) F sc__law_rows rfl rfl (by decide) fun cdv A outer s H E hr =>
    have Sc := @sc__law_rows
    have hx : Passes (CX P w) (cxOf (CX P w) P w K mg base ["clauses", "edges", "found", "clause", "step", "longer", "places", "used", "edge", "more", "name", "node", "pair"] "_law_rows" (defScope (top 46)) f cdv A outer s H E) E := passes_call (takes_of rfl rfl rfl rfl) fun _ _ _ _ h => h
    have hp : PassesOwn (model P w) (cxOf (CX P w) P w K mg base ["clauses", "edges", "found", "clause", "step", "longer", "places", "used", "edge", "more", "name", "node", "pair"] "_law_rows" (defScope (top 46)) f cdv A outer s H E).A (cxOf (CX P w) P w K mg base ["clauses", "edges", "found", "clause", "step", "longer", "places", "used", "edge", "more", "name", "node", "pair"] "_law_rows" (defScope (top 46)) f cdv A outer s H E).env (cxOf (CX P w) P w K mg base ["clauses", "edges", "found", "clause", "step", "longer", "places", "used", "edge", "more", "name", "node", "pair"] "_law_rows" (defScope (top 46)) f cdv A outer s H E).xe := passes_of rfl
    (dss_weak (fl' := [.dat, .dat, .un, .un, .un, .un, .un, .un, .un, .un, .un, .un, .un]) (fo' := ⟨[], [], []⟩) (dss_cons (ds_set (de_f (df_lst (da_cons (de_f (df_lst da_nil)) da_nil))) (dg_name (pg_name (i := 2) Sc.nd rfl (Or.inl rfl)) (Nat.le_of_ble_eq_true rfl))) (dss_cons (ds_for (flL := [.dat, .dat, .dat, .un, .un, .un, .un, .un, .un, .un, .un, .un, .un]) (fln := [.dat, .dat, .dat, .un, .un, .un, .un, .un, .un, .un, .un, .un, .un]) hp rfl (di_of (de_var 0 rfl (pv 0)) rfl) (dg_name (pg_name (i := 3) Sc.nd rfl (Or.inl rfl)) (Nat.le_of_ble_eq_true rfl)) (dss_weakN [.dat, .dat, .dat, .dat, .un, .un, .un, .un, .un, .un, .un, .un, .un] (dss_cons (ds_setLc rfl Sc.nd (di_of (de_var 2 rfl (pv 2)) rfl) (blkOk_by (own := [("places", 6)]) rfl) (fun _ _ _ _ _ => (dg_name (pg_name (i := 6) Sc.nd rfl (Or.inl rfl)) (Nat.le_of_ble_eq_true rfl))) (fun _ _ _ _ _ => dts_nil) (fun _ _ _ _ _ => (de_tup (k := 0) (da_cons (de_var 6 rfl (pv 6)) (da_cons (de_f (df_lst da_nil)) da_nil)))) rfl (i := 2) rfl (Nat.le_of_ble_eq_true rfl) rfl (sw_true rfl rfl rfl rfl)) (dss_cons (ds_for (flL := [.dat, .dat, .dat, .dat, .un, .un, .un, .un, .un, .un, .un, .un, .un]) (fln := [.dat, .dat, .dat, .dat, .un, .un, .un, .un, .un, .un, .un, .un, .un]) hp rfl (di_of (de_var 3 rfl (pv 3)) rfl) (dg_name (pg_name (i := 4) Sc.nd rfl (Or.inr rfl)) (Nat.le_of_ble_eq_true rfl)) (dss_weakN [.dat, .dat, .dat, .dat, .dat, .ol, .un, .un, .un, .un, .un, .un, .un] (dss_cons (ds_own (i := 5) (df_lst da_nil) lst_xLst Sc.nd rfl (Or.inl rfl)) (dss_cons (ds_for (flL := [.dat, .dat, .dat, .dat, .dat, .ol, .un, .un, .un, .un, .un, .un, .un]) (fln := [.dat, .dat, .dat, .dat, .dat, .ol, .un, .un, .un, .un, .un, .un, .un]) hp rfl (di_of (de_var 2 rfl (pv 2)) rfl) (dg_tup rfl (dgs_cons (dg_name (pg_name (i := 6) Sc.nd rfl (Or.inr rfl)) (Nat.le_of_ble_eq_true rfl)) (dgs_cons (dg_name (pg_name (i := 7) Sc.nd rfl (Or.inr rfl)) (Nat.le_of_ble_eq_true rfl)) dgs_nil))) (dss_weakN [.dat, .dat, .dat, .dat, .dat, .ol, .dat, .dat, .un, .un, .un, .un, .un] (dss_one (ds_for (flL := [.dat, .dat, .dat, .dat, .dat, .ol, .dat, .dat, .un, .un, .un, .un, .un]) (fln := [.dat, .dat, .dat, .dat, .dat, .ol, .dat, .dat, .un, .un, .un, .un, .un]) hp rfl (di_of (de_f (df_lc rfl Sc.nd (di_of (de_var 1 rfl (pv 1)) rfl) (blkOk_by (own := [("edge", 8)]) rfl) (fun _ _ _ _ _ => (dg_name (pg_name (i := 8) Sc.nd rfl (Or.inl rfl)) (Nat.le_of_ble_eq_true rfl))) (fun _ _ _ _ _ => (dts_one (PW.pt (dw_and (dt_cmp sem_eq (pt_cmpR (op_eqD (un_le hr.un (by decide))) (de_b (op2_e sem_ix (pe_ix ix_A (de_b (de_var 8 rfl (pv 8))) (de_b de_int) (by intro _ _; rfl)))) (de_b (op2_e sem_ix (pe_ix ix_A (de_b (de_var 4 rfl (pv 4))) (de_b de_int) (by intro _ _; rfl)))) (nomark _))) (dw_and1 (dt_cmp sem_notIn (pt_cmpR (op_notInA (un_le hr.un (by decide))) (de_b (de_var 8 rfl (pv 8))) (de_b (de_var 7 rfl (pv 7))) rfl))))))) (fun _ _ _ _ _ => (de_var 8 rfl (pv 8))) rfl)) rfl) (dg_name (pg_name (i := 8) Sc.nd rfl (Or.inl rfl)) (Nat.le_of_ble_eq_true rfl)) (dss_weakN [.dat, .dat, .dat, .dat, .dat, .ol, .dat, .dat, .dat, .dat, .un, .un, .un] (dss_cons (ds_set (op2_e sem_add (pe_op op_addT (de_b (de_var 6 rfl (pv 6))) (df_b (df_lc rfl Sc.nd (di_of (de_f (df_lst (da_cons (de_tup (k := 0) (da_cons (op2_e sem_ix (pe_ix ix_A (de_b (de_var 4 rfl (pv 4))) (de_b de_int) (by intro _ _; rfl))) (da_cons (op2_e sem_ix (pe_ix ix_A (de_b (de_var 8 rfl (pv 8))) (de_b de_int) (by intro _ _; rfl))) da_nil))) (da_cons (de_tup (k := 0) (da_cons (op2_e sem_ix (pe_ix ix_A (de_b (de_var 4 rfl (pv 4))) (de_b de_int) (by intro _ _; rfl))) (da_cons (op2_e sem_ix (pe_ix ix_A (de_b (de_var 8 rfl (pv 8))) (de_b de_int) (by intro _ _; rfl))) da_nil))) da_nil)))) rfl) (blkOk_by (own := [("pair", 12)]) rfl) (fun _ _ _ _ _ => (dg_name (pg_name (i := 12) Sc.nd rfl (Or.inl rfl)) (Nat.le_of_ble_eq_true rfl))) (fun _ _ _ _ _ => (dts_one (dt_cmp sem_notIn (pt_cmpR (op_notInA (un_le hr.un (by decide))) (de_b (de_var 12 rfl (pv 12))) (de_b (de_var 6 rfl (pv 6))) rfl)))) (fun _ _ _ _ _ => (de_var 12 rfl (pv 12))) rfl)))) (dg_name (pg_name (i := 9) Sc.nd rfl (Or.inl rfl)) (Nat.le_of_ble_eq_true rfl))) (dss_one (ds_if (dt_cmp sem_eq (pt_cmpR (op_eqD (un_le hr.un (by decide))) (de_b (de_lenS rfl rfl M.b_len (dst_set rfl (un_le hr.un (by decide)) rfl rfl M.b_set (db_cons (df_b (df_lc rfl Sc.nd (di_of (de_var 9 rfl (pv 9)) rfl) (blkOk_by (own := [("pair", 12)]) rfl) (fun _ _ _ _ _ => (dg_name (pg_name (i := 12) Sc.nd rfl (Or.inl rfl)) (Nat.le_of_ble_eq_true rfl))) (fun _ _ _ _ _ => dts_nil) (fun _ _ _ _ _ => (op2_e sem_ix (pe_ix ix_A (de_b (de_var 12 rfl (pv 12))) (de_b de_int) (by intro _ _; rfl)))) rfl)) db_nil)))) (de_b (de_lenS rfl rfl M.b_len (dst_set rfl (un_le hr.un (by decide)) rfl rfl M.b_set (db_cons (de_b (de_var 9 rfl (pv 9))) db_nil)))) (nomark _))) (dss_one (ds_app rfl (Nat.le_of_ble_eq_true rfl) (pv 5) (de_tup (k := 0) (da_cons (de_var 9 rfl (pv 9)) (da_cons (op2_e sem_add (pe_op op_addT (de_b (de_var 7 rfl (pv 7))) (df_b (df_lst (da_cons (de_var 8 rfl (pv 8)) da_nil))))) da_nil))) rfl)) dss_nil))) rfl) rfl rfl)) rfl) rfl rfl) (dss_one (ds_set (de_f (df_ty call_listA sem_list (by decide +kernel) rfl M.b_list (db_cons (de_own 5 rfl (pv 5)) db_nil))) (dg_name (pg_name (i := 2) Sc.nd rfl (Or.inl rfl)) (Nat.le_of_ble_eq_true rfl)))))) rfl) rfl rfl) (dss_one (ds_setLc rfl Sc.nd (di_of (de_var 2 rfl (pv 2)) rfl) (blkOk_by (own := [("places", 6), ("used", 7)]) rfl) (fun _ _ _ _ _ => (dg_tup rfl (dgs_cons (dg_name (pg_name (i := 6) Sc.nd rfl (Or.inl rfl)) (Nat.le_of_ble_eq_true rfl)) (dgs_cons (dg_name (pg_name (i := 7) Sc.nd rfl (Or.inl rfl)) (Nat.le_of_ble_eq_true rfl)) dgs_nil)))) (fun _ _ _ _ _ => dts_nil) (fun _ _ _ _ _ => (de_var 6 rfl (pv 6))) rfl (i := 2) rfl (Nat.le_of_ble_eq_true rfl) rfl (sw_true rfl rfl rfl rfl))))) rfl) rfl rfl) (dss_one (ds_ret (de_f (df_bi (cr_sortD (un_le hr.un (by decide))) sem_sorted (by decide +kernel) rfl M.b_sorted (db_cons (df_b (df_lc rfl Sc.nd (di_of (de_var 2 rfl (pv 2)) rfl) (blkOk_by (own := [("places", 6)]) rfl) (fun _ _ _ _ _ => (dg_name (pg_name (i := 6) Sc.nd rfl (Or.inl rfl)) (Nat.le_of_ble_eq_true rfl))) (fun _ _ _ _ _ => dts_nil) (fun _ _ _ _ _ => (de_ty call_tupleA sem_tuple (by decide +kernel) rfl M.b_tuple (db_cons (df_b (df_lc rfl Sc.nd (di_of (de_f (df_sortS rfl (un_le hr.un (by decide)) rfl rfl M.b_sorted (dst_set rfl (un_le hr.un (by decide)) rfl rfl M.b_set (db_cons (de_b (de_var 6 rfl (pv 6))) db_nil)))) rfl) (blkOk_by (own := [("name", 10), ("node", 11)]) rfl) (fun _ _ _ _ _ => (dg_tup rfl (dgs_cons (dg_name (pg_name (i := 10) Sc.nd rfl (Or.inl rfl)) (Nat.le_of_ble_eq_true rfl)) (dgs_cons (dg_name (pg_name (i := 11) Sc.nd rfl (Or.inl rfl)) (Nat.le_of_ble_eq_true rfl)) dgs_nil)))) (fun _ _ _ _ _ => dts_nil) (fun _ _ _ _ _ => (de_var 11 rfl (pv 11))) rfl)) db_nil))) rfl)) db_nil))))))) rfl rfl rfl rfl)

theorem sc_law : FnScope ["script", "at", "bag", "names", "labels", "nodes", "steps", "clauses", "stands", "k", "shown", "edges", "made", "graph", "all_numbers", "some", "numbers", "told", "due", "turn", "clause"] ["script"] (defScope (top 49)) := ⟨rfl, rfl, rfl, by decide +kernel, rfl, by decide +kernel, by decide +kernel⟩
theorem ok_law (M : Mg K T mg) (o_Graph_init : MakOk P w K T mg base "Graph" 4 1 2 [.tup []] Zp.f_Graph_init) (o_Pattern_eq : EqOk P w K T mg base 1 2 Zp.f_Pattern_eq) (o_Pattern_rows : MetOk P w K T mg base 3 2 2 "rows" Zp.f_Pattern_rows) (o__law_bag : CalOkF P w K T mg base "_law_bag" 1 2 [] Zp.f__law_bag) (o__law_edges : CalOk P w K T mg base "_law_edges" 3 3 true [] Zp.f__law_edges) (o__law_grouped : CalOk P w K T mg base "_law_grouped" 2 1 true [] Zp.f__law_grouped) (o__law_made : CalOk P w K T mg base "_law_made" 6 1 false [] Zp.f__law_made) (o__law_names : CalOk P w K T mg base "_law_names" 3 1 true [] Zp.f__law_names) (o__law_nodes : CalOk P w K T mg base "_law_nodes" 3 1 true [] Zp.f__law_nodes) (o__law_numberings : CalOk P w K T mg base "_law_numberings" 1 1 false [] Zp.f__law_numberings) (o__law_of : CalOk P w K T mg base "_law_of" 2 1 true [] Zp.f__law_of) (o__law_put_anew : CalOk P w K T mg base "_law_put_anew" 1 2 false [] Zp.f__law_put_anew) (o__law_rows : CalOk P w K T mg base "_law_rows" 1 2 false [] Zp.f__law_rows) (o__law_shown : CalOk P w K T mg base "_law_shown" 2 2 true [] Zp.f__law_shown) (o__law_steps : CalOk P w K T mg base "_law_steps" 3 3 true [] Zp.f__law_steps) (o__law_take : CalOk P w K T mg base "_law_take" 1 1 true [] Zp.f__law_take) (o__law_used : CalOk P w K T mg base "_law_used" 1 1 false [] Zp.f__law_used) (o_regrouped : CalOk P w K T mg base "regrouped" 6 2 false [] Zp.f_regrouped) {f : Addr} {fd : FuncData} (F : FunD K "law" "law" (defArgs (top 49)) (defBody (top 49)) (defScope (top 49)) [] [] f fd) : FnOk P w K mg base (CX P w) 7 f fd ["script"] (spM K T 1 false Zp.f_law) :=
  def_ok (S := Zp.s_law) F sc_law rfl rfl (by decide) fun cdv A outer s H E hr =>
    have Sc := @sc_law
    have hx : Passes (CX P w) (cxOf (CX P w) P w K mg base ["script", "at", "bag", "names", "labels", "nodes", "steps", "clauses", "stands", "k", "shown", "edges", "made", "graph", "all_numbers", "some", "numbers", "told", "due", "turn", "clause"] "law" (defScope (top 49)) f cdv A outer s H E) E := passes_call (takes_of rfl rfl rfl rfl) fun _ _ _ _ h => h
    have hp : PassesOwn (model P w) (cxOf (CX P w) P w K mg base ["script", "at", "bag", "names", "labels", "nodes", "steps", "clauses", "stands", "k", "shown", "edges", "made", "graph", "all_numbers", "some", "numbers", "told", "due", "turn", "clause"] "law" (defScope (top 49)) f cdv A outer s H E).A (cxOf (CX P w) P w K mg base ["script", "at", "bag", "names", "labels", "nodes", "steps", "clauses", "stands", "k", "shown", "edges", "made", "graph", "all_numbers", "some", "numbers", "told", "due", "turn", "clause"] "law" (defScope (top 49)) f cdv A outer s H E).env (cxOf (CX P w) P w K mg base ["script", "at", "bag", "names", "labels", "nodes", "steps", "clauses", "stands", "k", "shown", "edges", "made", "graph", "all_numbers", "some", "numbers", "told", "due", "turn", "clause"] "law" (defScope (top 49)) f cdv A outer s H E).xe := passes_of rfl
    (dss_weak (fl' := [.dat, .un, .un, .un, .un, .un, .un, .un, .un, .un, .un, .un, .un, .un, .un, .un, .un, .un, .un, .un, .un]) (fo' := ⟨[], [], []⟩) (dss_cons (ds_for (flL := [.dat, .un, .un, .un, .un, .un, .un, .un, .un, .un, .un, .un, .un, .un, .un, .un, .un, .un, .un, .un, .un]) (fln := [.dat, .un, .un, .un, .un, .un, .un, .un, .un, .un, .un, .un, .un, .un, .un, .un, .un, .un, .un, .un, .un]) hp rfl (di_rng1 rfl M.b_range (de_bi (call_maxA rfl) sem_max2 (by decide +kernel) rfl M.b_max (db_cons (de_b de_int) (db_cons (de_b (de_bi (call_minA rfl) sem_min2 (by decide +kernel) rfl M.b_min (db_cons (de_b de_int) (db_cons (de_b (de_bi call_lenA sem_len PySem.boot_len rfl M.b_len (db_cons (de_b (de_var 0 rfl (pv 0))) db_nil))) db_nil)))) db_nil)))) (dg_name (pg_name (i := 1) Sc.nd rfl (Or.inl rfl)) (Nat.le_of_ble_eq_true rfl)) (dss_weakN [.dat, .dat, .un, .dat, .dat, .dat, .dat, .dat, .dat, .un, .dat, .dat, .dat, .dat, .dat, .dat, .un, .un, .un, .un, .un] (dss_newbagW (i := 2) [.dat, .dat, .bag, .dat, .dat, .dat, .dat, .dat, .dat, .un, .dat, .dat, .dat, .dat, .dat, .dat, .un, .un, .un, .un, .un] (df_callF o__law_bag (hr.mono (by decide)) rfl hx (da_cons (de_var 0 rfl (pv 0)) (da_cons (de_var 1 rfl (pv 1)) da_nil))) rfl Sc.nd rfl (Or.inr rfl) (dss_cons (ds_set (de_callB o__law_names (hr.mono (by decide)) rfl hx (da_bag rfl (pv 2) (da_cons (op2_e sem_add (pe_op op_addT (de_b de_int) (de_b (de_callB o__law_take (hr.mono (by decide)) rfl hx (da_bag rfl (pv 2) (da_cons de_int da_nil)))))) da_nil))) (dg_name (pg_name (i := 3) Sc.nd rfl (Or.inl rfl)) (Nat.le_of_ble_eq_true rfl))) (dss_cons (ds_set (de_callB o__law_names (hr.mono (by decide)) rfl hx (da_bag rfl (pv 2) (da_cons (op2_e sem_add (pe_op op_addT (de_b de_int) (de_b (de_callB o__law_take (hr.mono (by decide)) rfl hx (da_bag rfl (pv 2) (da_cons de_int da_nil)))))) da_nil))) (dg_name (pg_name (i := 4) Sc.nd rfl (Or.inl rfl)) (Nat.le_of_ble_eq_true rfl))) (dss_cons (ds_set (de_callB o__law_nodes (hr.mono (by decide)) rfl hx (da_bag rfl (pv 2) (da_cons (op2_e sem_add (pe_op op_addT (de_b de_int) (de_b (de_callB o__law_take (hr.mono (by decide)) rfl hx (da_bag rfl (pv 2) (da_cons de_int da_nil)))))) da_nil))) (dg_name (pg_name (i := 5) Sc.nd rfl (Or.inl rfl)) (Nat.le_of_ble_eq_true rfl))) (dss_cons (ds_set (de_callB o__law_steps (hr.mono (by decide)) rfl hx (da_bag rfl (pv 2) (da_cons (op2_e sem_add (pe_op op_addT (de_b de_int) (de_b (de_callB o__law_take (hr.mono (by decide)) rfl hx (da_bag rfl (pv 2) (da_cons de_int da_nil)))))) (da_cons (de_var 3 rfl (pv 3)) (da_cons (de_var 4 rfl (pv 4)) da_nil))))) (dg_name (pg_name (i := 6) Sc.nd rfl (Or.inl rfl)) (Nat.le_of_ble_eq_true rfl))) (dss_cons (ds_parEE rfl Sc.nd (i := 7) (j := 8) rfl rfl (by decide) rfl rfl (de_callB o__law_grouped (hr.mono (by decide)) rfl hx (da_bag rfl (pv 2) (da_cons (de_var 6 rfl (pv 6)) da_nil))) (de_f (df_lst da_nil)) ) (dss_cons (ds_for (flL := [.dat, .dat, .bag, .dat, .dat, .dat, .dat, .dat, .dat, .un, .un, .un, .un, .un, .un, .un, .un, .un, .un, .un, .un]) (fln := [.dat, .dat, .bag, .dat, .dat, .dat, .dat, .dat, .dat, .un, .un, .un, .un, .un, .un, .un, .un, .un, .un, .un, .un]) hp rfl (di_rng1 rfl M.b_range (de_bi call_lenA sem_len PySem.boot_len rfl M.b_len (db_cons (de_b (de_var 7 rfl (pv 7))) db_nil))) (dg_name (pg_name (i := 9) Sc.nd rfl (Or.inl rfl)) (Nat.le_of_ble_eq_true rfl)) (dss_weakN [.dat, .dat, .bag, .dat, .dat, .dat, .dat, .dat, .dat, .dat, .un, .un, .un, .un, .un, .un, .un, .un, .un, .un, .un] (dss_one (ds_set (op2_e sem_add (pe_op op_addT (de_b (de_var 8 rfl (pv 8))) (df_b (op2_f sem_mulL (pe_op op_rep (df_b (df_lst (da_cons (de_var 9 rfl (pv 9)) da_nil))) (de_b (de_bi call_lenA sem_len PySem.boot_len rfl M.b_len (db_cons (de_b (op2_e sem_ix (pe_ix ix_A (de_b (de_var 7 rfl (pv 7))) (de_b (de_var 9 rfl (pv 9))) (by intro _ _; rfl)))) db_nil)))))))) (dg_name (pg_name (i := 8) Sc.nd rfl (Or.inl rfl)) (Nat.le_of_ble_eq_true rfl)))) rfl) rfl rfl) (dss_cons (ds_set (de_callB o__law_shown (hr.mono (by decide)) rfl hx (da_bag rfl (pv 2) (da_cons (de_callQ o__law_used (hr.mono (by decide)) rfl hx (da_cons (de_var 7 rfl (pv 7)) da_nil)) (da_cons (de_callB o__law_take (hr.mono (by decide)) rfl hx (da_bag rfl (pv 2) (da_cons de_int da_nil))) da_nil)))) (dg_name (pg_name (i := 10) Sc.nd rfl (Or.inl rfl)) (Nat.le_of_ble_eq_true rfl))) (dss_cons (ds_parEE rfl Sc.nd (i := 11) (j := 12) rfl rfl (by decide) rfl rfl (de_callB o__law_edges (hr.mono (by decide)) rfl hx (da_bag rfl (pv 2) (da_cons (de_var 5 rfl (pv 5)) (da_cons (de_var 4 rfl (pv 4)) (da_cons (op2_e sem_add (pe_op op_addT (de_b de_int) (de_b (de_callB o__law_take (hr.mono (by decide)) rfl hx (da_bag rfl (pv 2) (da_cons de_int da_nil)))))) da_nil))))) (de_callQ o__law_made (hr.mono (by decide)) rfl hx (da_cons (de_tup (k := 0) (da_cons (de_var 7 rfl (pv 7)) (da_cons (de_var 10 rfl (pv 10)) da_nil))) da_nil)) ) (dss_cons (ds_set (de_tup (k := 0) (da_cons (de_f (df_make o_Graph_init (hr.mono (by decide)) rfl hx (da_cons (de_f (df_ty call_listA sem_list (by decide +kernel) rfl M.b_list (db_cons (de_b (de_var 11 rfl (pv 11))) db_nil))) da_nil))) (da_cons (de_callQ o__law_numberings (hr.mono (by decide)) rfl hx (da_cons (de_bi call_lenA sem_len PySem.boot_len rfl M.b_len (db_cons (de_b (de_var 6 rfl (pv 6))) db_nil)) da_nil)) da_nil))) (dg_tup rfl (dgs_cons (dg_name (pg_name (i := 13) Sc.nd rfl (Or.inl rfl)) (Nat.le_of_ble_eq_true rfl)) (dgs_cons (dg_name (pg_name (i := 14) Sc.nd rfl (Or.inr rfl)) (Nat.le_of_ble_eq_true rfl)) dgs_nil)))) (dss_cons (ds_set (op2_e sem_add (pe_op op_addT (df_b (df_lc rfl Sc.nd (di_rng1 rfl M.b_range de_int) (blkOk_by (own := [("turn", 19)]) rfl) (fun _ _ _ _ _ => (dg_name (pg_name (i := 19) Sc.nd rfl (Or.inl rfl)) (Nat.le_of_ble_eq_true rfl))) (fun _ _ _ _ _ => dts_nil) (fun _ _ _ _ _ => (de_callB o__law_of (hr.mono (by decide)) rfl passF (da_bag rfl (pv 2) (da_cons (de_var 14 rfl (pv 14)) da_nil)))) rfl)) (df_b (df_lst (da_cons (op2_e sem_ix (pe_ix ix_A (de_b (de_var 14 rfl (pv 14))) (de_b de_int) (by intro _ _; rfl))) (da_cons (op2_e sem_ix (pe_ix ix_A (de_b (de_var 14 rfl (pv 14))) (de_b (op1_e sem_neg (pe_un un_neg (de_b de_int)))) (by intro _ _; rfl))) da_nil)))))) (dg_name (pg_name (i := 15) Sc.nd rfl (Or.inl rfl)) (Nat.le_of_ble_eq_true rfl))) (dss_cons (ds_for (flL := [.dat, .dat, .bag, .dat, .dat, .dat, .dat, .dat, .dat, .un, .dat, .dat, .dat, .dat, .dat, .dat, .un, .un, .un, .un, .un]) (fln := [.dat, .dat, .bag, .dat, .dat, .dat, .dat, .dat, .dat, .un, .dat, .dat, .dat, .dat, .dat, .dat, .un, .un, .un, .un, .un]) hp rfl (di_of (de_var 15 rfl (pv 15)) rfl) (dg_name (pg_name (i := 16) Sc.nd rfl (Or.inl rfl)) (Nat.le_of_ble_eq_true rfl)) (dss_weakN [.dat, .dat, .bag, .dat, .dat, .dat, .dat, .dat, .dat, .un, .dat, .dat, .dat, .dat, .dat, .dat, .dat, .dat, .dat, .un, .un] (dss_cons (ds_parEE rfl Sc.nd (i := 17) (j := 18) rfl rfl (by decide) rfl rfl (de_callQ o_regrouped (hr.mono (by decide)) rfl hx (da_cons (de_var 12 rfl (pv 12)) (da_cons (de_var 16 rfl (pv 16)) da_nil))) (de_callQ o__law_put_anew (hr.mono (by decide)) rfl hx (da_cons (de_var 6 rfl (pv 6)) (da_cons (de_var 16 rfl (pv 16)) da_nil))) ) (dss_cons (ds_if (PW.pt (dw_or (dt_cmp sem_ne (pt_cmpR (op_neD (un_le hr.un (by decide))) (de_b (de_fld (de_var 17 rfl (pv 17)) rfl M.cls_Pattern M.na_Pattern_clauses (by rw [M.fld_Pattern]; rfl) (by rw [M.fld_Pattern]; decide +kernel))) (de_b (de_ty call_tupleA sem_tuple (by decide +kernel) rfl M.b_tuple (db_cons (df_b (df_lc rfl Sc.nd (di_of (de_var 18 rfl (pv 18)) rfl) (blkOk_by (own := [("clause", 20)]) rfl) (fun _ _ _ _ _ => (dg_name (pg_name (i := 20) Sc.nd rfl (Or.inl rfl)) (Nat.le_of_ble_eq_true rfl))) (fun _ _ _ _ _ => dts_nil) (fun _ _ _ _ _ => (de_ty call_tupleA sem_tuple (by decide +kernel) rfl M.b_tuple (db_cons (de_b (de_var 20 rfl (pv 20))) db_nil))) rfl)) db_nil))) (nomark _))) (dw_or1 (dt_cmp sem_ne (pt_cmpR (op_neD (un_le hr.un (by decide))) (de_b (de_fld (de_var 17 rfl (pv 17)) rfl M.cls_Pattern M.na_Pattern_shown (by rw [M.fld_Pattern]; rfl) (by rw [M.fld_Pattern]; decide +kernel))) (de_b (de_ty call_tupleA sem_tuple (by decide +kernel) rfl M.b_tuple (db_cons (de_b (de_var 10 rfl (pv 10))) db_nil))) (nomark _)))))) (dss_one (ds_ret de_bl)) dss_nil) (dss_one (ds_if (PW.pt (dw_or (dt_cmp sem_ne (pt_cmpR (op_neD (un_le hr.un (by decide))) (de_b (de_meth o_Pattern_rows (hr.mono (by decide)) hx (de_var 17 rfl (pv 17)) (da_cons (de_var 13 rfl (pv 13)) da_nil))) (de_b (de_callQ o__law_rows (hr.mono (by decide)) rfl hx (da_cons (de_var 18 rfl (pv 18)) (da_cons (de_var 11 rfl (pv 11)) da_nil)))) (nomark _))) (dw_or1 (dt_neI o_Pattern_eq (hr.mono (by decide)) hx (de_var 17 rfl (pv 17)) (de_callQ o__law_made (hr.mono (by decide)) rfl hx (da_cons (de_tup (k := 0) (da_cons (de_var 18 rfl (pv 18)) (da_cons (de_var 10 rfl (pv 10)) da_nil))) da_nil)))))) (dss_one (ds_ret de_bl)) dss_nil)))) rfl) rfl rfl) (dss_one (ds_if (PW.pt (dw_or (dt_neI o_Pattern_eq (hr.mono (by decide)) hx (de_callQ o_regrouped (hr.mono (by decide)) rfl hx (da_cons (de_var 12 rfl (pv 12)) (da_cons (de_ty call_tupleA sem_tuple (by decide +kernel) rfl M.b_tuple (db_cons (de_b (de_var 8 rfl (pv 8))) db_nil)) da_nil))) (de_var 12 rfl (pv 12))) (dw_or1 (dt_cmp sem_ne (pt_cmpR (op_neD (un_le hr.un (by decide))) (de_b (de_fld (de_var 12 rfl (pv 12)) rfl M.cls_Pattern M.na_Pattern_clauses (by rw [M.fld_Pattern]; rfl) (by rw [M.fld_Pattern]; decide +kernel))) (de_b (de_ty call_tupleA sem_tuple (by decide +kernel) rfl M.b_tuple (db_cons (df_b (df_lc rfl Sc.nd (di_of (de_var 7 rfl (pv 7)) rfl) (blkOk_by (own := [("clause", 20)]) rfl) (fun _ _ _ _ _ => (dg_name (pg_name (i := 20) Sc.nd rfl (Or.inl rfl)) (Nat.le_of_ble_eq_true rfl))) (fun _ _ _ _ _ => dts_nil) (fun _ _ _ _ _ => (de_ty call_tupleA sem_tuple (by decide +kernel) rfl M.b_tuple (db_cons (de_b (de_var 20 rfl (pv 20))) db_nil))) rfl)) db_nil))) (nomark _)))))) (dss_one (ds_ret de_bl)) dss_nil))))))))))))) rfl rfl rfl) rfl) rfl rfl) (dss_one (ds_ret de_bl))) rfl rfl rfl rfl)

end
end Wk
end
section
set_option autoImplicit false
set_option Elab.async false
set_option linter.all false
set_option maxRecDepth 100000
set_option maxHeartbeats 0
namespace Jn
open PySem PySem.Spec PyProof.Rows L2 Z ZL Wk
def d0 : He.DefD := ⟨("_law_bag", none), "_law_bag", "_law_bag", defArgs (top 35), defBody (top 35), defScope (top 35), [], []⟩
def d1 : He.DefD := ⟨("_law_take", none), "_law_take", "_law_take", defArgs (top 36), defBody (top 36), defScope (top 36), [], []⟩
def d2 : He.DefD := ⟨("_law_of", none), "_law_of", "_law_of", defArgs (top 37), defBody (top 37), defScope (top 37), [], []⟩
def d3 : He.DefD := ⟨("_law_names", none), "_law_names", "_law_names", defArgs (top 38), defBody (top 38), defScope (top 38), [], []⟩
def d4 : He.DefD := ⟨("_law_nodes", none), "_law_nodes", "_law_nodes", defArgs (top 39), defBody (top 39), defScope (top 39), [], []⟩
def d5 : He.DefD := ⟨("_law_steps", none), "_law_steps", "_law_steps", defArgs (top 40), defBody (top 40), defScope (top 40), [], []⟩
def d6 : He.DefD := ⟨("_law_grouped", none), "_law_grouped", "_law_grouped", defArgs (top 41), defBody (top 41), defScope (top 41), [], []⟩
def d7 : He.DefD := ⟨("_law_shown", none), "_law_shown", "_law_shown", defArgs (top 43), defBody (top 43), defScope (top 43), [], []⟩
def d8 : He.DefD := ⟨("_law_used", none), "_law_used", "_law_used", defArgs (top 42), defBody (top 42), defScope (top 42), [], []⟩
def d9 : He.DefD := ⟨("_law_edges", none), "_law_edges", "_law_edges", defArgs (top 47), defBody (top 47), defScope (top 47), [], []⟩
def d10 : He.DefD := ⟨("is_label", none), "is_label", "is_label", defArgs (top 15), defBody (top 15), defScope (top 15), [], []⟩
def d11 : He.DefD := ⟨("is_step", none), "is_step", "is_step", defArgs (top 25), defBody (top 25), defScope (top 25), [], []⟩
def d12 : He.DefD := ⟨("is_clause", none), "is_clause", "is_clause", defArgs (top 26), defBody (top 26), defScope (top 26), [], []⟩
def d13 : He.DefD := ⟨("Pattern", some "__init__"), "__init__", "Pattern.__init__", defArgs (inClass (top 29) 0), defBody (inClass (top 29) 0), defScope (inClass (top 29) 0), [], [("shown", .adr (ZL.kwdAt ("Pattern", some "__init__") "shown"))]⟩
def d14 : He.DefD := ⟨("_law_made", none), "_law_made", "_law_made", defArgs (top 44), defBody (top 44), defScope (top 44), [], []⟩
def d15 : He.DefD := ⟨("is_node", none), "is_node", "is_node", defArgs (top 16), defBody (top 16), defScope (top 16), [], []⟩
def d16 : He.DefD := ⟨("is_edge", none), "is_edge", "is_edge", defArgs (top 17), defBody (top 17), defScope (top 17), [], []⟩
def d17 : He.DefD := ⟨("check_edges", none), "check_edges", "check_edges", defArgs (top 18), defBody (top 18), defScope (top 18), [], []⟩
def d18 : He.DefD := ⟨("ends_of", none), "ends_of", "ends_of", defArgs (top 19), defBody (top 19), defScope (top 19), [], []⟩
def d19 : He.DefD := ⟨("Graph", some "__init__"), "__init__", "Graph.__init__", defArgs (inClass (top 20) 0), defBody (inClass (top 20) 0), defScope (inClass (top 20) 0), [], [("nodes", .adr (ZL.kwdAt ("Graph", some "__init__") "nodes"))]⟩
def d20 : He.DefD := ⟨("_law_numberings", none), "_law_numberings", "_law_numberings", defArgs (top 45), defBody (top 45), defScope (top 45), [], []⟩
def d21 : He.DefD := ⟨("is_numbering", none), "is_numbering", "is_numbering", defArgs (top 31), defBody (top 31), defScope (top 31), [], []⟩
def d22 : He.DefD := ⟨("Pattern", some "__len__"), "__len__", "Pattern.__len__", defArgs (inClass (top 29) 2), defBody (inClass (top 29) 2), defScope (inClass (top 29) 2), [], []⟩
def d23 : He.DefD := ⟨("regrouped", none), "regrouped", "regrouped", defArgs (top 33), defBody (top 33), defScope (top 33), [], []⟩
def d24 : He.DefD := ⟨("_law_put_anew", none), "_law_put_anew", "_law_put_anew", defArgs (top 48), defBody (top 48), defScope (top 48), [], []⟩
def d25 : He.DefD := ⟨("Pattern", some "__eq__"), "__eq__", "Pattern.__eq__", defArgs (inClass (top 29) 3), defBody (inClass (top 29) 3), defScope (inClass (top 29) 3), [], []⟩
def d26 : He.DefD := ⟨("Graph", some "__len__"), "__len__", "Graph.__len__", defArgs (inClass (top 20) 7), defBody (inClass (top 20) 7), defScope (inClass (top 20) 7), [], []⟩
def d27 : He.DefD := ⟨("extended_places", none), "extended_places", "extended_places", defArgs (top 27), defBody (top 27), defScope (top 27), [], []⟩
def d28 : He.DefD := ⟨("placements", none), "placements", "placements", defArgs (top 28), defBody (top 28), defScope (top 28), [], []⟩
def d29 : He.DefD := ⟨("Graph", some "edges"), "edges", "Graph.edges", defArgs (inClass (top 20) 3), defBody (inClass (top 20) 3), defScope (inClass (top 20) 3), [], []⟩
def d30 : He.DefD := ⟨("Pattern", some "row_of"), "row_of", "Pattern.row_of", defArgs (inClass (top 29) 5), defBody (inClass (top 29) 5), defScope (inClass (top 29) 5), [], []⟩
def d31 : He.DefD := ⟨("Pattern", some "rows"), "rows", "Pattern.rows", defArgs (inClass (top 29) 7), defBody (inClass (top 29) 7), defScope (inClass (top 29) 7), [], []⟩
def d32 : He.DefD := ⟨("_law_rows", none), "_law_rows", "_law_rows", defArgs (top 46), defBody (top 46), defScope (top 46), [], []⟩
def d33 : He.DefD := ⟨("law", none), "law", "law", defArgs (top 49), defBody (top 49), defScope (top 49), [], []⟩
def fn : List He.DefD := [d0, d1, d2, d3, d4, d5, d6, d7, d8, d9, d10, d11, d12, d13, d14, d15, d16, d17, d18, d19, d20, d21, d22, d23, d24, d25, d26, d27, d28, d29, d30, d31, d32, d33]
def fa : List He.Fa := [.glo "_law_bag", .glo "_law_take", .glo "_law_of", .glo "_law_names", .glo "_law_nodes", .glo "_law_steps", .glo "_law_grouped", .glo "_law_shown", .glo "_law_used", .glo "_law_edges", .glo "is_label", .glo "is_step", .glo "is_clause", .glo "_law_made", .glo "is_node", .glo "is_edge", .glo "check_edges", .glo "ends_of", .glo "_law_numberings", .glo "is_numbering", .meth "Pattern" "__len__", .glo "regrouped", .glo "_law_put_anew", .meth "Pattern" "__eq__", .meth "Graph" "__len__", .glo "extended_places", .glo "placements", .meth "Graph" "edges", .meth "Pattern" "row_of", .meth "Pattern" "rows", .glo "_law_rows", .glo "law", .free "abs", .free "all", .free "bool", .free "dict", .free "enumerate", .free "int", .free "isinstance", .free "len", .free "list", .free "max", .free "min", .free "range", .free "set", .free "sorted", .free "str", .free "tuple", .free "zip", .str "DIGITS" "0123456789", .str "LETTERS" "abcdefghijklmnopqrstuvwxyz", .int "LONGEST" (8), .int "MOST_EDGES" (6), .int "MOST_STEPS" (5), .int "MOST_VARIABLES" (5), .noat "Graph" "points", .noat "Graph" "triples", .noat "Pattern" "all_steps", .noat "Pattern" "clauses", .noat "Pattern" "names", .noat "Pattern" "shown", .glo "Graph", .cls "Graph", .mkr "Graph", .glo "Pattern", .cls "Pattern", .mkr "Pattern"]
def ex (K : PySem.W.Frag) : Bool := ZL.tup0 K (ZL.kwdAt ("Pattern", some "__init__") "shown" K) && (ZL.tup0 K (ZL.kwdAt ("Graph", some "__init__") "nodes" K) && (ZL.insB K "Graph" && (ZL.insB K "Pattern" && (ZL.neB K "Pattern"))))
def TT (K : PySem.W.Frag) : Tb := ⟨fun i => match i with
  | 1 => He.ga K "Graph"
  | 2 => He.ga K "Pattern"
  | _ => 0, fun i => match i with
  | 1 => (["triples", "points"] : List Str)
  | 2 => (["clauses", "shown", "all_steps", "names"] : List Str)
  | _ => []⟩
abbrev R : PySem.W.OpenRow := PySem.W.OpenLaw.row PySem.Challenge.rw_pathmodes_k82_regrouped_patterns
abbrev hk : PySem.W.Hook := ZL.hookX 6 fa fn ex
def ob (s : PySem.W.SharedT) : ZL.AlX := ZL.obsXG 6 fa fn ex (HandSHeadRun.getT s)
theorem ob_eq (s : PySem.W.SharedT) : ob s = hk.obs s.abs := ZL.obsXG_eq (HandSHeadRun.getT_eq s)
def nm0 : List Str := ["_wall", "PathmodesError", "BadLabel", "BadNode", "BadEdge", "BadPattern", "BadShown", "BadFolding", "TooMany", "NoNode", "LETTERS", "DIGITS", "LONGEST", "is_label", "is_node", "is_edge", "check_edges", "ends_of", "Graph", "MOST_STEPS", "MOST_VARIABLES", "MOST_EDGES", "is_step", "is_clause", "extended_places", "placements", "Pattern", "is_numbering", "regrouped", "_law_bag"]
def nm1 : List Str := ["_law_take", "_law_of", "_law_names", "_law_nodes", "_law_steps", "_law_grouped", "_law_used", "_law_shown", "_law_made", "_law_numberings", "_law_rows", "_law_edges", "_law_put_anew"]
def loose : List Str := nm0 ++ nm1
theorem facts {P : Program} {w : World} {K : PySem.W.Frag} {h : Heap} {mg : Str → Option Value} {f : Addr} (X : K.In h) (G : h.Ns mainGlobals mg) (hfa : mg ("law" : Str) = some (.ref f)) (c : He.SaysD fa fn K) (cx : ex K = true) :
    ∃ fd : FuncData, (∀ (s : Shared) (v : Value), BindsTo s fd ⟨[v], []⟩ [("script", v)]) ∧ ∀ base : Heap, K.In base → base.Ns mainGlobals mg → FnOk P w K mg base (CX P w) 7 f fd ["script"] (spM K (TT K) 1 false Zp.f_law) := by
  obtain ⟨fd, F⟩ := c.def_ 33 (d := d33) rfl
  have e := hfa.symm.trans (He.glo_ok X G (c.fact 31 (f := .glo "law") rfl))
  cases e
  have b := FunD.bindsA (ps := ["script"]) F fun _ _ _ _ _ _ us hl => match us, hl with | [_], _ => rfl
  refine ⟨fd, fun s v => b s [v] rfl, fun base _ _ => ?_⟩
  have key : FnOk P w K mg base (CX P w) 7 (He.ga K "law") fd ["script"] (spM K (TT K) 1 false Zp.f_law) := by
    obtain ⟨ht13, cx0⟩ := He.ba cx
    obtain ⟨ht19, cx1⟩ := He.ba cx0
    obtain ⟨hx_Graph, cx2⟩ := He.ba cx1
    obtain ⟨hx_Pattern, cx3⟩ := He.ba cx2
    have hn_Pattern := cx3
    have M : Mg K (TT K) mg := { b_abs := He.free_ok X G (x := "abs") (c.fact 32 rfl), b_all := He.free_ok X G (x := "all") (c.fact 33 rfl), b_bool := He.free_ok X G (x := "bool") (c.fact 34 rfl), b_dict := He.free_ok X G (x := "dict") (c.fact 35 rfl), b_enumerate := He.free_ok X G (x := "enumerate") (c.fact 36 rfl), b_int := He.free_ok X G (x := "int") (c.fact 37 rfl), b_isinstance := He.free_ok X G (x := "isinstance") (c.fact 38 rfl), b_len := He.free_ok X G (x := "len") (c.fact 39 rfl), b_list := He.free_ok X G (x := "list") (c.fact 40 rfl), b_max := He.free_ok X G (x := "max") (c.fact 41 rfl), b_min := He.free_ok X G (x := "min") (c.fact 42 rfl), b_range := He.free_ok X G (x := "range") (c.fact 43 rfl), b_set := He.free_ok X G (x := "set") (c.fact 44 rfl), b_sorted := He.free_ok X G (x := "sorted") (c.fact 45 rfl), b_str := He.free_ok X G (x := "str") (c.fact 46 rfl), b_tuple := He.free_ok X G (x := "tuple") (c.fact 47 rfl), b_zip := He.free_ok X G (x := "zip") (c.fact 48 rfl), c_DIGITS := He.str_ok X G (x := "DIGITS") (c.fact 49 rfl), c_LETTERS := He.str_ok X G (x := "LETTERS") (c.fact 50 rfl), c_LONGEST := He.int_ok X G (x := "LONGEST") (c.fact 51 rfl), c_MOST_EDGES := He.int_ok X G (x := "MOST_EDGES") (c.fact 52 rfl), c_MOST_STEPS := He.int_ok X G (x := "MOST_STEPS") (c.fact 53 rfl), c_MOST_VARIABLES := He.int_ok X G (x := "MOST_VARIABLES") (c.fact 54 rfl), na_Graph_points := He.noat_ok (x := "Graph") (f := "points") (c.fact 55 rfl), na_Graph_triples := He.noat_ok (x := "Graph") (f := "triples") (c.fact 56 rfl), na_Pattern_all_steps := He.noat_ok (x := "Pattern") (f := "all_steps") (c.fact 57 rfl), na_Pattern_clauses := He.noat_ok (x := "Pattern") (f := "clauses") (c.fact 58 rfl), na_Pattern_names := He.noat_ok (x := "Pattern") (f := "names") (c.fact 59 rfl), na_Pattern_shown := He.noat_ok (x := "Pattern") (f := "shown") (c.fact 60 rfl), cls_Graph := He.cls_ok (x := "Graph") (c.fact 62 rfl), fld_Graph := rfl, mg_Graph := He.glo_ok X G (x := "Graph") (c.fact 61 rfl), ic_Graph := ZL.insB_ok (x := "Graph") (He.cls_ok (c.fact 62 rfl)) hx_Graph, cls_Pattern := He.cls_ok (x := "Pattern") (c.fact 65 rfl), fld_Pattern := rfl, mg_Pattern := He.glo_ok X G (x := "Pattern") (c.fact 64 rfl), ic_Pattern := ZL.insB_ok (x := "Pattern") (He.cls_ok (c.fact 65 rfl)) hx_Pattern }
    obtain ⟨fd0, F0⟩ := c.def_ 0 (d := d0) rfl
    have k0 := ok__law_bag (P := P) (w := w) (base := base) M  F0
    have o__law_bag : CalOkF P w K (TT K) mg base "_law_bag" 1 2 [] Zp.f__law_bag := ⟨_, _, _, [], [], k0, He.glo_ok X G (x := "_law_bag") (c.fact 0 rfl), F0.kp, F0.bindsN (fun _ _ _ _ _ _ us hl => match us, hl with | [_, _], _ => rfl), .nil, fun _ => .nil⟩
    obtain ⟨fd1, F1⟩ := c.def_ 1 (d := d1) rfl
    have k1 := ok__law_take (P := P) (w := w) (base := base) M  F1
    have o__law_take : CalOk P w K (TT K) mg base "_law_take" 1 1 true [] Zp.f__law_take := ⟨_, _, _, [], [], k1, He.glo_ok X G (x := "_law_take") (c.fact 1 rfl), F1.kp, F1.bindsN (fun _ _ _ _ _ _ us hl => match us, hl with | [_, _], _ => rfl), .nil, fun _ => .nil⟩
    obtain ⟨fd2, F2⟩ := c.def_ 2 (d := d2) rfl
    have k2 := ok__law_of (P := P) (w := w) (base := base) M o__law_take F2
    have o__law_of : CalOk P w K (TT K) mg base "_law_of" 2 1 true [] Zp.f__law_of := ⟨_, _, _, [], [], k2, He.glo_ok X G (x := "_law_of") (c.fact 2 rfl), F2.kp, F2.bindsN (fun _ _ _ _ _ _ us hl => match us, hl with | [_, _], _ => rfl), .nil, fun _ => .nil⟩
    obtain ⟨fd3, F3⟩ := c.def_ 3 (d := d3) rfl
    have k3 := ok__law_names (P := P) (w := w) (base := base) M o__law_of o__law_take F3
    have o__law_names : CalOk P w K (TT K) mg base "_law_names" 3 1 true [] Zp.f__law_names := ⟨_, _, _, [], [], k3, He.glo_ok X G (x := "_law_names") (c.fact 3 rfl), F3.kp, F3.bindsN (fun _ _ _ _ _ _ us hl => match us, hl with | [_, _], _ => rfl), .nil, fun _ => .nil⟩
    obtain ⟨fd4, F4⟩ := c.def_ 4 (d := d4) rfl
    have k4 := ok__law_nodes (P := P) (w := w) (base := base) M o__law_of o__law_take F4
    have o__law_nodes : CalOk P w K (TT K) mg base "_law_nodes" 3 1 true [] Zp.f__law_nodes := ⟨_, _, _, [], [], k4, He.glo_ok X G (x := "_law_nodes") (c.fact 4 rfl), F4.kp, F4.bindsN (fun _ _ _ _ _ _ us hl => match us, hl with | [_, _], _ => rfl), .nil, fun _ => .nil⟩
    obtain ⟨fd5, F5⟩ := c.def_ 5 (d := d5) rfl
    have k5 := ok__law_steps (P := P) (w := w) (base := base) M o__law_of F5
    have o__law_steps : CalOk P w K (TT K) mg base "_law_steps" 3 3 true [] Zp.f__law_steps := ⟨_, _, _, [], [], k5, He.glo_ok X G (x := "_law_steps") (c.fact 5 rfl), F5.kp, F5.bindsN (fun _ _ _ _ _ _ us hl => match us, hl with | [_, _, _, _], _ => rfl), .nil, fun _ => .nil⟩
    obtain ⟨fd6, F6⟩ := c.def_ 6 (d := d6) rfl
    have k6 := ok__law_grouped (P := P) (w := w) (base := base) M o__law_take F6
    have o__law_grouped : CalOk P w K (TT K) mg base "_law_grouped" 2 1 true [] Zp.f__law_grouped := ⟨_, _, _, [], [], k6, He.glo_ok X G (x := "_law_grouped") (c.fact 6 rfl), F6.kp, F6.bindsN (fun _ _ _ _ _ _ us hl => match us, hl with | [_, _], _ => rfl), .nil, fun _ => .nil⟩
    obtain ⟨fd7, F7⟩ := c.def_ 7 (d := d7) rfl
    have k7 := ok__law_shown (P := P) (w := w) (base := base) M o__law_take F7
    have o__law_shown : CalOk P w K (TT K) mg base "_law_shown" 2 2 true [] Zp.f__law_shown := ⟨_, _, _, [], [], k7, He.glo_ok X G (x := "_law_shown") (c.fact 7 rfl), F7.kp, F7.bindsN (fun _ _ _ _ _ _ us hl => match us, hl with | [_, _, _], _ => rfl), .nil, fun _ => .nil⟩
    obtain ⟨fd8, F8⟩ := c.def_ 8 (d := d8) rfl
    have k8 := ok__law_used (P := P) (w := w) (base := base) M  F8
    have o__law_used : CalOk P w K (TT K) mg base "_law_used" 1 1 false [] Zp.f__law_used := ⟨_, _, _, [], [], k8, He.glo_ok X G (x := "_law_used") (c.fact 8 rfl), F8.kp, F8.bindsN (fun _ _ _ _ _ _ us hl => match us, hl with | [_], _ => rfl), .nil, fun _ => .nil⟩
    obtain ⟨fd9, F9⟩ := c.def_ 9 (d := d9) rfl
    have k9 := ok__law_edges (P := P) (w := w) (base := base) M o__law_of F9
    have o__law_edges : CalOk P w K (TT K) mg base "_law_edges" 3 3 true [] Zp.f__law_edges := ⟨_, _, _, [], [], k9, He.glo_ok X G (x := "_law_edges") (c.fact 9 rfl), F9.kp, F9.bindsN (fun _ _ _ _ _ _ us hl => match us, hl with | [_, _, _, _], _ => rfl), .nil, fun _ => .nil⟩
    obtain ⟨fd10, F10⟩ := c.def_ 10 (d := d10) rfl
    have k10 := ok_is_label (P := P) (w := w) (base := base) M  F10
    have o_is_label : CalOk P w K (TT K) mg base "is_label" 1 1 false [] Zp.f_is_label := ⟨_, _, _, [], [], k10, He.glo_ok X G (x := "is_label") (c.fact 10 rfl), F10.kp, F10.bindsN (fun _ _ _ _ _ _ us hl => match us, hl with | [_], _ => rfl), .nil, fun _ => .nil⟩
    obtain ⟨fd11, F11⟩ := c.def_ 11 (d := d11) rfl
    have k11 := ok_is_step (P := P) (w := w) (base := base) M o_is_label F11
    have o_is_step : CalOk P w K (TT K) mg base "is_step" 2 1 false [] Zp.f_is_step := ⟨_, _, _, [], [], k11, He.glo_ok X G (x := "is_step") (c.fact 11 rfl), F11.kp, F11.bindsN (fun _ _ _ _ _ _ us hl => match us, hl with | [_], _ => rfl), .nil, fun _ => .nil⟩
    obtain ⟨fd12, F12⟩ := c.def_ 12 (d := d12) rfl
    have k12 := ok_is_clause (P := P) (w := w) (base := base) M o_is_step F12
    have o_is_clause : CalOk P w K (TT K) mg base "is_clause" 3 1 false [] Zp.f_is_clause := ⟨_, _, _, [], [], k12, He.glo_ok X G (x := "is_clause") (c.fact 12 rfl), F12.kp, F12.bindsN (fun _ _ _ _ _ _ us hl => match us, hl with | [_], _ => rfl), .nil, fun _ => .nil⟩
    obtain ⟨fd13, F13⟩ := c.def_ 13 (d := d13) rfl
    have k13 := ok_Pattern_init (P := P) (w := w) (base := base) M o_is_clause F13
    obtain ⟨mv13, kb13⟩ := FunD.kbinds0 (ps := ["self", "clauses", "shown"]) F13 2 (["shown"] : List Str) [] (fun us _ ws => us ++ ws) (List.cons_ne_nil _ _) (fun q h => by cases h) (fun r1 _ r3 => r1.append r3) (fun _ _ _ _ _ _ us mv ws hu hm hw => match us, hu, mv, hm, ws, hw with | [_, _], _, [], _, [_], _ => rfl)
    have o_Pattern_init_K : MakKw P w K (TT K) mg base "Pattern" 4 2 1 ["shown"] Zp.f_Pattern_init := ⟨_, _, _, _, He.mkr_ok (x := "Pattern") (c.fact 66 rfl), k13, He.glo_ok X G (x := "Pattern") (c.fact 64 rfl), kb13⟩
    obtain ⟨fd14, F14⟩ := c.def_ 14 (d := d14) rfl
    have k14 := ok__law_made (P := P) (w := w) (base := base) M o_Pattern_init_K F14
    have o__law_made : CalOk P w K (TT K) mg base "_law_made" 6 1 false [] Zp.f__law_made := ⟨_, _, _, [], [], k14, He.glo_ok X G (x := "_law_made") (c.fact 13 rfl), F14.kp, F14.bindsN (fun _ _ _ _ _ _ us hl => match us, hl with | [_], _ => rfl), .nil, fun _ => .nil⟩
    obtain ⟨fd15, F15⟩ := c.def_ 15 (d := d15) rfl
    have k15 := ok_is_node (P := P) (w := w) (base := base) M  F15
    have o_is_node : CalOk P w K (TT K) mg base "is_node" 1 1 false [] Zp.f_is_node := ⟨_, _, _, [], [], k15, He.glo_ok X G (x := "is_node") (c.fact 14 rfl), F15.kp, F15.bindsN (fun _ _ _ _ _ _ us hl => match us, hl with | [_], _ => rfl), .nil, fun _ => .nil⟩
    obtain ⟨fd16, F16⟩ := c.def_ 16 (d := d16) rfl
    have k16 := ok_is_edge (P := P) (w := w) (base := base) M o_is_label o_is_node F16
    have o_is_edge : CalOk P w K (TT K) mg base "is_edge" 2 1 false [] Zp.f_is_edge := ⟨_, _, _, [], [], k16, He.glo_ok X G (x := "is_edge") (c.fact 15 rfl), F16.kp, F16.bindsN (fun _ _ _ _ _ _ us hl => match us, hl with | [_], _ => rfl), .nil, fun _ => .nil⟩
    obtain ⟨fd17, F17⟩ := c.def_ 17 (d := d17) rfl
    have k17 := ok_check_edges (P := P) (w := w) (base := base) M o_is_edge F17
    have o_check_edges : CalOk P w K (TT K) mg base "check_edges" 3 1 false [] Zp.f_check_edges := ⟨_, _, _, [], [], k17, He.glo_ok X G (x := "check_edges") (c.fact 16 rfl), F17.kp, F17.bindsN (fun _ _ _ _ _ _ us hl => match us, hl with | [_], _ => rfl), .nil, fun _ => .nil⟩
    obtain ⟨fd18, F18⟩ := c.def_ 18 (d := d18) rfl
    have k18 := ok_ends_of (P := P) (w := w) (base := base) M  F18
    have o_ends_of : CalOk P w K (TT K) mg base "ends_of" 1 1 false [] Zp.f_ends_of := ⟨_, _, _, [], [], k18, He.glo_ok X G (x := "ends_of") (c.fact 17 rfl), F18.kp, F18.bindsN (fun _ _ _ _ _ _ us hl => match us, hl with | [_], _ => rfl), .nil, fun _ => .nil⟩
    obtain ⟨fd19, F19⟩ := c.def_ 19 (d := d19) rfl
    have k19 := ok_Graph_init (P := P) (w := w) (base := base) M o_check_edges o_ends_of o_is_node F19
    obtain ⟨dv19, v19, b19⟩ := FunD.binds0 (ps := ["self", "edges", "nodes"]) F19 2 (List.cons_ne_nil _ _) rfl (fun _ _ _ _ _ _ us ks hu hk => match us, hu, ks, hk with | [_, _], _, [_], _ => ⟨_, _, _, _, _, _, rfl, rfl, rfl⟩)
    have o_Graph_init : MakOk P w K (TT K) mg base "Graph" 4 1 2 [.tup []] Zp.f_Graph_init := ⟨_, _, _, _, _, He.mkr_ok (x := "Graph") (c.fact 63 rfl), k19, He.glo_ok X G (x := "Graph") (c.fact 61 rfl), b19, v19, fun G => (.cons (ZL.tup0_ok ht19) .nil)⟩
    obtain ⟨fd20, F20⟩ := c.def_ 20 (d := d20) rfl
    have k20 := ok__law_numberings (P := P) (w := w) (base := base) M  F20
    have o__law_numberings : CalOk P w K (TT K) mg base "_law_numberings" 1 1 false [] Zp.f__law_numberings := ⟨_, _, _, [], [], k20, He.glo_ok X G (x := "_law_numberings") (c.fact 18 rfl), F20.kp, F20.bindsN (fun _ _ _ _ _ _ us hl => match us, hl with | [_], _ => rfl), .nil, fun _ => .nil⟩
    obtain ⟨fd21, F21⟩ := c.def_ 21 (d := d21) rfl
    have k21 := ok_is_numbering (P := P) (w := w) (base := base) M  F21
    have o_is_numbering : CalOk P w K (TT K) mg base "is_numbering" 1 2 false [] Zp.f_is_numbering := ⟨_, _, _, [], [], k21, He.glo_ok X G (x := "is_numbering") (c.fact 19 rfl), F21.kp, F21.bindsN (fun _ _ _ _ _ _ us hl => match us, hl with | [_, _], _ => rfl), .nil, fun _ => .nil⟩
    obtain ⟨fd22, F22⟩ := c.def_ 22 (d := d22) rfl
    have k22 := ok_Pattern_len (P := P) (w := w) (base := base) M  F22
    have o_Pattern_len : LenOk P w K (TT K) mg base 1 2 Zp.f_Pattern_len := ⟨_, _, _, (He.meth_ok (x := "Pattern") (m := "__len__") (c.fact 20 rfl)).at_, (He.meth_ok (x := "Pattern") (m := "__len__") (c.fact 20 rfl)).fn, k22, F22.bindsN (fun _ _ _ _ _ _ us hl => match us, hl with | [_], _ => rfl)⟩
    obtain ⟨fd23, F23⟩ := c.def_ 23 (d := d23) rfl
    have k23 := ok_regrouped (P := P) (w := w) (base := base) M o_Pattern_init_K o_Pattern_len o_is_numbering F23
    have o_regrouped : CalOk P w K (TT K) mg base "regrouped" 6 2 false [] Zp.f_regrouped := ⟨_, _, _, [], [], k23, He.glo_ok X G (x := "regrouped") (c.fact 21 rfl), F23.kp, F23.bindsN (fun _ _ _ _ _ _ us hl => match us, hl with | [_, _], _ => rfl), .nil, fun _ => .nil⟩
    obtain ⟨fd24, F24⟩ := c.def_ 24 (d := d24) rfl
    have k24 := ok__law_put_anew (P := P) (w := w) (base := base) M  F24
    have o__law_put_anew : CalOk P w K (TT K) mg base "_law_put_anew" 1 2 false [] Zp.f__law_put_anew := ⟨_, _, _, [], [], k24, He.glo_ok X G (x := "_law_put_anew") (c.fact 22 rfl), F24.kp, F24.bindsN (fun _ _ _ _ _ _ us hl => match us, hl with | [_, _], _ => rfl), .nil, fun _ => .nil⟩
    obtain ⟨fd25, F25⟩ := c.def_ 25 (d := d25) rfl
    have k25 := ok_Pattern_eq (P := P) (w := w) (base := base) M  F25
    have o_Pattern_eq : EqOk P w K (TT K) mg base 1 2 Zp.f_Pattern_eq := ⟨_, _, _, (He.meth_ok (x := "Pattern") (m := "__eq__") (c.fact 23 rfl)).at_, (He.meth_ok (x := "Pattern") (m := "__eq__") (c.fact 23 rfl)).fn, ZL.neB_ok hn_Pattern, ZL.objB_ok hn_Pattern, k25, F25.bindsN (fun _ _ _ _ _ _ us hl => match us, hl with | [_, _], _ => rfl)⟩
    obtain ⟨fd26, F26⟩ := c.def_ 26 (d := d26) rfl
    have k26 := ok_Graph_len (P := P) (w := w) (base := base) M  F26
    have o_Graph_len : LenOk P w K (TT K) mg base 1 1 Zp.f_Graph_len := ⟨_, _, _, (He.meth_ok (x := "Graph") (m := "__len__") (c.fact 24 rfl)).at_, (He.meth_ok (x := "Graph") (m := "__len__") (c.fact 24 rfl)).fn, k26, F26.bindsN (fun _ _ _ _ _ _ us hl => match us, hl with | [_], _ => rfl)⟩
    obtain ⟨fd27, F27⟩ := c.def_ 27 (d := d27) rfl
    have k27 := ok_extended_places (P := P) (w := w) (base := base) M  F27
    have o_extended_places : CalOk P w K (TT K) mg base "extended_places" 1 3 false [] Zp.f_extended_places := ⟨_, _, _, [], [], k27, He.glo_ok X G (x := "extended_places") (c.fact 25 rfl), F27.kp, F27.bindsN (fun _ _ _ _ _ _ us hl => match us, hl with | [_, _, _], _ => rfl), .nil, fun _ => .nil⟩
    obtain ⟨fd28, F28⟩ := c.def_ 28 (d := d28) rfl
    have k28 := ok_placements (P := P) (w := w) (base := base) M o_extended_places F28
    have o_placements : CalOk P w K (TT K) mg base "placements" 2 3 false [] Zp.f_placements := ⟨_, _, _, [], [], k28, He.glo_ok X G (x := "placements") (c.fact 26 rfl), F28.kp, F28.bindsN (fun _ _ _ _ _ _ us hl => match us, hl with | [_, _, _], _ => rfl), .nil, fun _ => .nil⟩
    obtain ⟨fd29, F29⟩ := c.def_ 29 (d := d29) rfl
    have k29 := ok_Graph_edges (P := P) (w := w) (base := base) M  F29
    have o_Graph_edges : MetOk P w K (TT K) mg base 1 1 1 "edges" Zp.f_Graph_edges := ⟨_, _, _, M.cls_Graph, He.meth_ok (x := "Graph") (m := "edges") (c.fact 27 rfl), k29, F29.bindsN (fun _ _ _ _ _ _ us hl => match us, hl with | [_], _ => rfl), by show ("edges" : Str) ∉ (["triples", "points"] : List Str); decide⟩
    obtain ⟨fd30, F30⟩ := c.def_ 30 (d := d30) rfl
    have k30 := ok_Pattern_row_of (P := P) (w := w) (base := base) M  F30
    have o_Pattern_row_of : MetOk P w K (TT K) mg base 1 2 2 "row_of" Zp.f_Pattern_row_of := ⟨_, _, _, M.cls_Pattern, He.meth_ok (x := "Pattern") (m := "row_of") (c.fact 28 rfl), k30, F30.bindsN (fun _ _ _ _ _ _ us hl => match us, hl with | [_, _], _ => rfl), by show ("row_of" : Str) ∉ (["clauses", "shown", "all_steps", "names"] : List Str); decide⟩
    obtain ⟨fd31, F31⟩ := c.def_ 31 (d := d31) rfl
    have k31 := ok_Pattern_rows (P := P) (w := w) (base := base) M o_Graph_len o_Graph_edges o_Pattern_row_of o_placements F31
    have o_Pattern_rows : MetOk P w K (TT K) mg base 3 2 2 "rows" Zp.f_Pattern_rows := ⟨_, _, _, M.cls_Pattern, He.meth_ok (x := "Pattern") (m := "rows") (c.fact 29 rfl), k31, F31.bindsN (fun _ _ _ _ _ _ us hl => match us, hl with | [_, _], _ => rfl), by show ("rows" : Str) ∉ (["clauses", "shown", "all_steps", "names"] : List Str); decide⟩
    obtain ⟨fd32, F32⟩ := c.def_ 32 (d := d32) rfl
    have k32 := ok__law_rows (P := P) (w := w) (base := base) M  F32
    have o__law_rows : CalOk P w K (TT K) mg base "_law_rows" 1 2 false [] Zp.f__law_rows := ⟨_, _, _, [], [], k32, He.glo_ok X G (x := "_law_rows") (c.fact 30 rfl), F32.kp, F32.bindsN (fun _ _ _ _ _ _ us hl => match us, hl with | [_, _], _ => rfl), .nil, fun _ => .nil⟩
    have F33 := F
    exact ok_law (P := P) (w := w) (base := base) M o_Graph_init o_Pattern_eq o_Pattern_rows o__law_bag o__law_edges o__law_grouped o__law_made o__law_names o__law_nodes o__law_numberings o__law_of o__law_put_anew o__law_rows o__law_shown o__law_steps o__law_take o__law_used o_regrouped F33
  exact key
end Jn
end
section
set_option linter.all false
/-! PLAIN: what holds behind a denotation (W), rule by rule. -/
namespace Pl
open Z M
/-- m answers, and so that Q -/
@[irreducible] def W {α : Type} (m : M α) (Q : α → Bag → Prop) (b : Bag) : Prop := match m b with
  | .ok a b' => Q a b'
  | _ => False
section
variable {α β : Type} {m : M α} {Q R : α → Bag → Prop} {b : Bag}
theorem W.mono (h : W m Q b) (k : ∀ a b', Q a b' → R a b') : W m R b := by
  unfold W at *
  cases e : m b with
  | ok a b1 =>
    rw [e] at h
    exact k _ _ h
  | no =>
    rw [e] at h
    exact h.elim
  | ex c x b1 =>
    rw [e] at h
    exact h.elim
theorem W.out (h : W m Q b) : ∃ a b', m b = .ok a b' ∧ Q a b' := by
  unfold W at *
  cases e : m b with
  | ok a b1 =>
    rw [e] at h
    exact ⟨_, _, rfl, h⟩
  | no =>
    rw [e] at h
    exact h.elim
  | ex c x b1 =>
    rw [e] at h
    exact h.elim
theorem W.of {a : α} {b' : Bag} (h : m b = .ok a b') (q : Q a b') : W m Q b := by
  unfold W
  rw [h]
  exact q
@[simp] theorem W_ret {a : α} : W (ret a) Q b ↔ Q a b := by
  unfold W
  exact Iff.rfl
@[simp] theorem W_no : W (no : M α) Q b ↔ False := by
  unfold W
  exact Iff.rfl
@[simp] theorem W_bnd {f : α → M β} {Q : β → Bag → Prop} : W (bnd m f) Q b ↔ W m (fun a b' => W (f a) Q b') b := by
  unfold W bnd
  cases m b <;> rfl
@[simp] theorem W_opt {o : Option α} : W (opt o) Q b ↔ ∃ d, o = some d ∧ Q d b := by
  cases o with
  | none => simp [opt]
  | some a => simp [opt]
@[simp] theorem W_nox : W (nox m) Q b ↔ W m Q b := by
  unfold W nox
  cases m b <;> rfl
@[simp] theorem W_ite {p : Prop} [Decidable p] {m' : M α} : W (if p then m else m') Q b ↔ (p → W m Q b) ∧ (¬p → W m' Q b) := by
  by_cases h : p <;> simp [h]
end
section
variable {env : Sl} {Q : D → Bag → Prop} {b : Bag} {a c e : Ex} {as : Exs} {i k : Nat}
@[simp] theorem W_xV : W (xV i env) Q b ↔ Q (env.getD i .non) b := by
  unfold W
  exact Iff.rfl
@[simp] theorem W_xC {d : D} : W (xC d env) Q b ↔ Q d b := by
  unfold W
  exact Iff.rfl
@[simp] theorem W_x1 {g : D → Option D} : W (x1 g a env) Q b ↔ W (a env) (fun x b1 => ∃ d, g x = some d ∧ Q d b1) b := by simp [x1]
@[simp] theorem W_x2 {g : D → D → Option D} : W (x2 g a c env) Q b ↔ W (a env) (fun x b1 => W (c env) (fun y b2 => ∃ d, g x y = some d ∧ Q d b2) b1) b := by simp [x2]
@[simp] theorem W_xA {g : List D → Option D} : W (xA g as env) Q b ↔ W (as env) (fun x b1 => ∃ d, g x = some d ∧ Q d b1) b := by simp [xA]
@[simp] theorem W_xTup : W (xTup as env) Q b ↔ W (as env) (fun x b1 => Q (.tup x) b1) b := by simp [xTup]
@[simp] theorem W_xLst : W (xLst as env) Q b ↔ W (as env) (fun x b1 => Q (.lst x) b1) b := by simp [xLst]
@[simp] theorem W_xP {f : List D → M D} : W (xP f as env) Q b ↔ W (as env) (fun x b1 => W (f x) Q b1) b := by simp [xP]
@[simp] theorem W_pureC {f : List D → M D} {ds : List D} : W (pureC f ds) Q b ↔ W (f ds) (fun d _ => Q d b) ⟨0, 0, 0⟩ := by
  unfold W pureC
  cases f ds ⟨0, 0, 0⟩ <;> rfl
@[simp] theorem W_xQ {f : List D → M D} : W (xQ f as env) Q b ↔ W (as env) (fun x b1 => W (f x) (fun d _ => Q d b1) ⟨0, 0, 0⟩) b := by simp [xQ]
@[simp] theorem W_xAnd : W (xAnd a c env) Q b ↔ W (a env) (fun x b1 => ∃ t, x = .bl t ∧ (t = true → W (c env) Q b1) ∧ (t = false → Q (.bl false) b1)) b := by
  unfold xAnd
  simp only [W_bnd]
  refine iff_of_eq (congrArg (W (a env) · b) ?_)
  funext x b1
  cases x <;> simp
  rename_i t
  cases t <;> simp
@[simp] theorem W_xOr : W (xOr a c env) Q b ↔ W (a env) (fun x b1 => ∃ t, x = .bl t ∧ (t = true → Q (.bl true) b1) ∧ (t = false → W (c env) Q b1)) b := by
  unfold xOr
  simp only [W_bnd]
  refine iff_of_eq (congrArg (W (a env) · b) ?_)
  funext x b1
  cases x <;> simp
  rename_i t
  cases t <;> simp
@[simp] theorem W_xNot : W (xNot a env) Q b ↔ W (a env) (fun x b1 => ∃ t, x = .bl t ∧ Q (.bl (!t)) b1) b := by
  unfold xNot
  simp only [W_bnd]
  refine iff_of_eq (congrArg (W (a env) · b) ?_)
  funext x b1
  cases x <;> simp
@[simp] theorem W_xIf : W (xIf e a c env) Q b ↔ W (e env) (fun x b1 => ∃ t, x = .bl t ∧ (t = true → W (a env) Q b1) ∧ (t = false → W (c env) Q b1)) b := by
  unfold xIf
  simp only [W_bnd]
  refine iff_of_eq (congrArg (W (e env) · b) ?_)
  funext x b1
  cases x <;> simp
  rename_i t
  cases t <;> simp
@[simp] theorem W_xCh {g h : D → D → Option D} : W (xCh g h a c e env) Q b ↔ W (a env) (fun x b1 => W (c env) (fun y b2 => ∃ t, g x y = some (.bl t) ∧ (t = true → W (e env) (fun z b3 => ∃ d, h y z = some d ∧ Q d b3) b2) ∧ (t = false → Q (.bl false) b2)) b1) b := by
  unfold xCh
  simp only [W_bnd, W_opt]
  refine iff_of_eq (congrArg (W (a env) · b) ?_)
  funext x b1
  refine congrArg (W (c env) · b1) ?_
  funext y b2
  cases g x y with
  | none => simp
  | some r =>
    cases r <;> simp
    rename_i t
    cases t <;> simp
@[simp] theorem W_xBag : W (xBag k env) Q b ↔ Q (.int (if k = 0 then b.dg else if k = 1 then b.sd else b.ct)) b := by
  unfold W
  exact Iff.rfl
@[simp] theorem W_xOwnF {j cl : Nat} : W (xOwnF i cl j env) Q b ↔ ∃ xs d, env.getD i .non = .ins cl xs ∧ xs[j]? = some d ∧ Q d b := by
  unfold xOwnF
  cases h : env.getD i .non <;> simp
  rename_i k xs
  by_cases e : k = cl <;> simp [e]
@[simp] theorem W_xIndexL : W (xIndexL a c env) Q b ↔ W (a env) (fun x b1 => ∃ ys, x = .lst ys ∧ W (c env) (fun y b2 => ∃ d, oIndexL (.lst ys) y = some d ∧ Q d b2) b1) b := by
  unfold xIndexL
  simp only [W_bnd, W_opt]
  refine iff_of_eq (congrArg (W (a env) · b) ?_)
  funext x b1
  cases x <;> simp [lstD]
@[simp] theorem W_xIndexT : W (xIndexT a c env) Q b ↔ W (a env) (fun x b1 => ∃ ys, x = .ftp ys ∧ W (c env) (fun y b2 => ∃ d, oIndexT (.ftp ys) y = some d ∧ Q d b2) b1) b := by
  unfold xIndexT
  simp only [W_bnd, W_opt]
  refine iff_of_eq (congrArg (W (a env) · b) ?_)
  funext x b1
  cases x <;> simp [ftpD]
@[simp] theorem W_xMeth {cl : Nat} {f : List D → M D} : W (xMeth cl f a as env) Q b ↔ W (a env) (fun d b1 => ∃ xs, d = .ins cl xs ∧ W (as env) (fun ds b2 => W (f (.ins cl xs :: ds)) (fun d _ => Q d b2) ⟨0, 0, 0⟩) b1) b := by
  unfold xMeth
  simp only [W_bnd, W_opt]
  refine iff_of_eq (congrArg (W (a env) · b) ?_)
  funext x b1
  cases x <;> simp [insD]
  rename_i k xs
  by_cases e : k = cl <;> simp [e]
end
section
variable {env : Sl} {Q : List D → Bag → Prop} {b : Bag} {a : Ex} {as : Exs}
@[simp] theorem W_xNil : W (xNil env) Q b ↔ Q [] b := by
  unfold W
  exact Iff.rfl
@[simp] theorem W_xCons : W (xCons a as env) Q b ↔ W (a env) (fun x b1 => W (as env) (fun xs b2 => Q (x :: xs) b2) b1) b := by simp [xCons]
@[simp] theorem xL_nil : xL [] = xNil := rfl
@[simp] theorem xL_cons {r : List Ex} : xL (a :: r) = xCons a (xL r) := rfl
@[simp] theorem W_xApp {ds : List D} : W (xApp as ds env) Q b ↔ W (as env) (fun x b1 => Q (x ++ ds) b1) b := by simp [xApp]
@[simp] theorem W_xStar : W (xStar a as env) Q b ↔ W (a env) (fun x b1 => ∃ ds, seqD x = some ds ∧ W (as env) (fun xs b2 => Q (ds ++ xs) b2) b1) b := by simp [xStar]
@[simp] theorem W_iOf : W (iOf a env) Q b ↔ W (a env) (fun x b1 => ∃ ds, items x = some ds ∧ Q ds b1) b := by simp [iOf]
@[simp] theorem W_iRng1 : W (iRng1 a env) Q b ↔ W (a env) (fun x b1 => ∃ n : Int, x = .int n ∧ (-(lim : Int) ≤ n ∧ n ≤ (lim : Int)) ∧ Q (rng 0 n) b1) b := by
  unfold iRng1
  simp only [W_bnd]
  refine iff_of_eq (congrArg (W (a env) · b) ?_)
  funext x b1
  cases x <;> simp
  rename_i n
  by_cases h : -(lim : Int) ≤ n ∧ n ≤ (lim : Int) <;> simp [h]
@[simp] theorem W_iEnum : W (iEnum a env) Q b ↔ W (a env) (fun x b1 => ∃ xs, x = .lst xs ∧ Q (enumFrom 0 xs) b1) b := by
  unfold iEnum
  simp only [W_bnd]
  refine iff_of_eq (congrArg (W (a env) · b) ?_)
  funext x b1
  cases x <;> simp
end
theorem W_xLstG {env : Sl} {Q : D → Bag → Prop} {b : Bag} {as : Exs} : W (xLstG as env) Q b ↔ W (as env) (fun ds b1 => ds.length ≤ lim ∧ Q (.lst ds) b1) b := by
  unfold xLstG
  simp only [W_bnd]
  refine iff_of_eq (congrArg (W (as env) · b) ?_)
  funext x b1
  by_cases h : x.length ≤ lim <;> simp [h]
/-! ### statements -/
section
variable {env : Sl} {Q : Fl → Bag → Prop} {b : Bag} {e c : Ex} {s t : Sm} {g : Tg} {i j k : Nat}
/-- what holds where a statement went on, or ended -/
def Nx (N : Sl → Bag → Prop) (Q : Fl → Bag → Prop) : Fl → Bag → Prop := fun f b => match f with
  | .nx e => N e b
  | f => Q f b
@[simp] theorem Nx_nx {N : Sl → Bag → Prop} : Nx N Q (.nx env) b ↔ N env b := Iff.rfl
@[simp] theorem Nx_rt {N : Sl → Bag → Prop} {d : D} : Nx N Q (.rt d) b ↔ Q (.rt d) b := Iff.rfl
@[simp] theorem W_sPass : W (sPass env) Q b ↔ Q (.nx env) b := by
  unfold W
  exact Iff.rfl
@[simp] theorem W_sNo : W (sNo env) Q b ↔ False := by
  unfold W
  exact Iff.rfl
@[simp] theorem W_sRetN : W (sRetN env) Q b ↔ Q (.rt .non) b := by
  unfold W
  exact Iff.rfl
@[simp] theorem W_sRet : W (sRet e env) Q b ↔ W (e env) (fun d b1 => Q (.rt d) b1) b := by simp [sRet]
@[simp] theorem W_sDo : W (sDo e env) Q b ↔ W (e env) (fun _ b1 => Q (.nx env) b1) b := by simp [sDo]
@[simp] theorem W_sSet : W (sSet g e env) Q b ↔ W (e env) (fun d b1 => ∃ e1, g d env = some e1 ∧ Q (.nx e1) b1) b := by simp [sSet]
@[simp] theorem gN_eq {d : D} : gN i d env = some (env.set i d) := rfl
@[simp] theorem W_sAnd : W (sAnd s t env) Q b ↔ W (s env) (Nx (fun e1 b1 => W (t e1) Q b1) Q) b := by
  unfold sAnd
  simp only [W_bnd]
  refine iff_of_eq (congrArg (W (s env) · b) ?_)
  funext f b1
  cases f <;> simp [Nx]
@[simp] theorem W_sAndF : W (sAndF s t env) Q b ↔ W (s env) (Nx (fun e1 b1 => W (t e1) Q b1) (fun _ _ => False)) b := by
  unfold sAndF
  simp only [W_bnd]
  refine iff_of_eq (congrArg (W (s env) · b) ?_)
  funext f b1
  cases f <;> simp [Nx]
@[simp] theorem W_sIf : W (sIf c s t env) Q b ↔ W (c env) (fun x b1 => ∃ r, x = .bl r ∧ (r = true → W (s env) Q b1) ∧ (r = false → W (t env) Q b1)) b := by
  unfold sIf
  simp only [W_bnd]
  refine iff_of_eq (congrArg (W (c env) · b) ?_)
  funext x b1
  cases x <;> simp
  rename_i t
  cases t <;> simp
@[simp] theorem W_sBag : W (sBag k e env) Q b ↔ W (e env) (fun d b1 => ∃ v, d = .int v ∧ okBag (setBag k v b1) = true ∧ Q (.nx env) (setBag k v b1)) b := by
  unfold sBag
  simp only [W_bnd]
  refine iff_of_eq (congrArg (W (e env) · b) ?_)
  funext x b1
  cases x <;> simp
  rename_i v
  unfold W
  by_cases h : okBag (setBag k v b1) = true <;> simp [h]
@[simp] theorem W_sPar {f : Ex} : W (sPar i j e f env) Q b ↔ W (e env) (fun x b1 => W (f env) (fun y b2 => Q (.nx ((env.set i x).set j y)) b2) b1) b := by simp [sPar]
@[simp] theorem W_sApp : W (sApp i e env) Q b ↔ W (e env) (fun v b1 => ∃ xs, env.getD i .non = .lst xs ∧ xs.length < lim ∧ Q (.nx (env.set i (.lst (xs ++ [v])))) b1) b := by
  unfold sApp
  simp only [W_bnd]
  refine iff_of_eq (congrArg (W (e env) · b) ?_)
  funext v b1
  cases env.getD i .non <;> simp
  rename_i xs
  by_cases h : xs.length < lim <;> simp [h]
@[simp] theorem W_sOwnF {cl : Nat} : W (sOwnF i cl j e env) Q b ↔ W (e env) (fun d b1 => ∃ xs, env.getD i .non = .ins cl xs ∧ j ≤ xs.length ∧ Q (.nx (env.set i (.ins cl (if j < xs.length then xs.set j d else xs ++ [d])))) b1) b := by
  unfold sOwnF
  simp only [W_bnd]
  refine iff_of_eq (congrArg (W (e env) · b) ?_)
  funext v b1
  cases env.getD i .non <;> simp
  rename_i k xs
  by_cases h : k = cl ∧ j ≤ xs.length
  · simp [h]
  · by_cases h1 : k = cl
    · have : ¬ j ≤ xs.length := fun z => h ⟨h1, z⟩
      simp [h1, this]
    · simp [h1]
/-- for, by an invariant -/
theorem W_sFor {it : Iw} (h : W (it env) (fun ds b1 => ∃ I : Nat → Sl → Bag → Prop, I 0 env b1 ∧ (∀ i d e b, ds[i]? = some d → I i e b → ∃ e1, g d e = some e1 ∧ W (s e1) (fun f b2 => match f with
      | .nx e2 => I (i + 1) e2 b2
      | .ct e2 => I (i + 1) e2 b2
      | .bk e2 => Q (.nx e2) b2
      | .rt v => Q (.rt v) b2) b) ∧ (∀ e b, I ds.length e b → Q (.nx e) b)) b) : W (sFor it g s env) Q b := by
  unfold sFor
  rw [W_bnd]
  refine h.mono fun ds b1 ⟨I, h0, hs, hq⟩ => ?_
  have key : ∀ (k : Nat) (ds' : List D), ds.drop k = ds' → k ≤ ds.length → ∀ e b, I k e b → W (forGo g s ds' e) Q b := by
    intro k ds'
    induction ds' generalizing k with
    | nil =>
      intro hd hk e b hI
      have : k = ds.length := by
        have := congrArg List.length hd
        rw [List.length_drop] at this
        simp at this
        omega
      subst this
      exact W_ret.mpr (hq e b hI)
    | cons d ds' ih =>
      intro hd hk e b hI
      have hdk : ds[k]? = some d := by
        have := congrArg (·[0]?) hd
        simpa using this
      obtain ⟨e1, he, hw⟩ := hs k d e b hdk hI
      have hlt : k < ds.length := (List.getElem?_eq_some_iff.mp hdk).1
      have hd' : ds.drop (k + 1) = ds' := by
        rw [← List.drop_drop, hd]
        rfl
      unfold forGo
      simp only [W_bnd, W_opt, he]
      refine ⟨e1, rfl, hw.mono fun f b2 z => ?_⟩
      cases f with
      | nx e2 => exact ih (k + 1) hd' hlt e2 b2 z
      | ct e2 => exact ih (k + 1) hd' hlt e2 b2 z
      | bk e2 => exact W_ret.mpr z
      | rt v => exact W_ret.mpr z
  exact key 0 ds rfl (Nat.zero_le _) env b1 h0
end
section
variable {env : Sl} {Q : D → Bag → Prop} {b : Bag} {e : Ex} {t : Ex} {g : Tg} {it : Iw}
theorem W_lcGo {R : List D → Bag → Prop} {ds acc0 : List D} (I : Nat → List D → Bag → Prop) (h0 : I 0 acc0 b) (hs : ∀ i d acc b, ds[i]? = some d → I i acc b → ∃ e1, g d env = some e1 ∧ W (t e1) (fun x b1 => ∃ r, x = .bl r ∧ (r = true → W (e e1) (fun v b2 => acc.length < lim ∧ I (i + 1) (acc ++ [v]) b2) b1) ∧ (r = false → I (i + 1) acc b1)) b) (hq : ∀ acc b, I ds.length acc b → R acc b) : W (lcGo g t e ds env acc0) R b := by
  have key : ∀ (k : Nat) (ds' : List D), ds.drop k = ds' → k ≤ ds.length → ∀ acc b, I k acc b → W (lcGo g t e ds' env acc) R b := by
    intro k ds'
    induction ds' generalizing k with
    | nil =>
      intro hd hk acc b hI
      have : k = ds.length := by
        have := congrArg List.length hd
        rw [List.length_drop] at this
        simp at this
        omega
      subst this
      exact W_ret.mpr (hq acc b hI)
    | cons d ds' ih =>
      intro hd hk acc b hI
      have hdk : ds[k]? = some d := by
        have := congrArg (·[0]?) hd
        simpa using this
      obtain ⟨e1, he, hw⟩ := hs k d acc b hdk hI
      have hlt : k < ds.length := (List.getElem?_eq_some_iff.mp hdk).1
      have hd' : ds.drop (k + 1) = ds' := by
        rw [← List.drop_drop, hd]
        rfl
      unfold lcGo
      simp only [W_bnd, W_opt, he]
      refine ⟨e1, rfl, hw.mono fun x b1 ⟨r, hr, h1, h2⟩ => ?_⟩
      subst hr
      cases r with
      | true =>
        simp only [W_bnd]
        refine (h1 rfl).mono fun v b2 ⟨hl, z⟩ => ?_
        rw [if_pos hl]
        exact ih (k + 1) hd' hlt _ _ z
      | false => exact ih (k + 1) hd' hlt _ _ (h2 rfl)
  exact key 0 ds rfl (Nat.zero_le _) acc0 b h0
theorem W_xLc (h : W (it env) (fun ds b1 => ∃ I : Nat → List D → Bag → Prop, I 0 [] b1 ∧ (∀ i d acc b, ds[i]? = some d → I i acc b → ∃ e1, g d env = some e1 ∧ W (t e1) (fun x b1 => ∃ r, x = .bl r ∧ (r = true → W (e e1) (fun v b2 => acc.length < lim ∧ I (i + 1) (acc ++ [v]) b2) b1) ∧ (r = false → I (i + 1) acc b1)) b) ∧ (∀ acc b, I ds.length acc b → Q (.lst acc) b)) b) : W (xLc it g t e env) Q b := by
  unfold xLc
  rw [W_bnd]
  refine h.mono fun ds b1 ⟨I, h0, hs, hq⟩ => ?_
  rw [W_bnd, W_nox]
  exact W_lcGo I h0 hs fun acc b z => W_ret.mpr (hq acc b z)
/-- a comprehension that draws nothing and has no test: a map -/
theorem W_xLcM (h : W (it env) (fun ds b1 => ds.length ≤ lim ∧ ∃ f : D → D, (∀ d ∈ ds, ∃ e1, g d env = some e1 ∧ ∀ R : D → Bag → Prop, R (f d) b1 → W (e e1) R b1) ∧ Q (.lst (ds.map f)) b1) b) : W (xLc it g xYes e env) Q b := by
  refine W_xLc (h.mono fun ds b1 ⟨hl, f, hf, hq⟩ => ⟨fun i acc b => b = b1 ∧ acc = (ds.take i).map f, ⟨rfl, rfl⟩, fun i d acc b hd ⟨hb, ha⟩ => ?_, fun acc b ⟨hb, ha⟩ => ?_⟩)
  · subst hb ha
    have hlt := (List.getElem?_eq_some_iff.mp hd).1
    obtain ⟨e1, he, hw⟩ := hf d (List.mem_of_getElem? hd)
    refine ⟨e1, he, W_xC.mpr ⟨true, rfl, fun _ => hw _ ⟨?_, rfl, ?_⟩, fun z => by cases z⟩⟩
    · rw [List.length_map, List.length_take]
      omega
    · rw [List.take_succ, hd, List.map_append]
      rfl
  · subst hb ha
    rw [List.take_length]
    exact hq
end
end Pl
end
section
set_option linter.all false
/-! PLAIN: ints. -/
namespace Pl
open Z M
@[simp] theorem oAdd_i {i j : Int} : oAdd (.int i) (.int j) = some (.int (i + j)) := rfl
@[simp] theorem oLt_i {i j : Int} : oLt (.int i) (.int j) = some (.bl (decide (i < j))) := rfl
@[simp] theorem oLe_i {i j : Int} : oLe (.int i) (.int j) = some (.bl (decide (i ≤ j))) := rfl
@[simp] theorem oGt_i {i j : Int} : oGt (.int i) (.int j) = some (.bl (decide (j < i))) := rfl
@[simp] theorem oGe_i {i j : Int} : oGe (.int i) (.int j) = some (.bl (decide (j ≤ i))) := rfl
@[simp] theorem oSub_i {i j : Int} : oSub (.int i) (.int j) = some (.int (i - j)) := rfl
@[simp] theorem oInt_i {i : Int} : oInt (.int i) = some (.int i) := rfl
@[simp] theorem oNeg_i {i : Int} : oNeg (.int i) = some (.int (-i)) := rfl
@[simp] theorem oAbs_i {i : Int} : oAbs (.int i) = some (.int (if i < 0 then -i else i)) := rfl
@[simp] theorem o1_1 {g : D → Option D} {x : D} : o1 g [x] = g x := rfl
@[simp] theorem o2_2 {g : D → D → Option D} {x y : D} : o2 g [x, y] = g x y := rfl
@[simp] theorem oMod_i {i j : Int} {d : D} : oMod (.int i) (.int j) = some d ↔ d = .int (i % j) ∧ 0 < j := by
  unfold oMod
  by_cases h : 0 < j <;> simp [h, eq_comm]
@[simp] theorem oFdiv_i {i j : Int} {d : D} : oFdiv (.int i) (.int j) = some d ↔ d = .int (i / j) ∧ 0 < j ∧ j < 1073741824 := by
  unfold oFdiv
  by_cases h : 0 < j ∧ j < 1073741824 <;> simp [h, eq_comm]
@[simp] theorem oMul_i {i j : Int} {d : D} : oMul (.int i) (.int j) = some d ↔ d = .int (i * j) ∧ ((-(2 ^ 64) < i ∧ i < 2 ^ 64) ∨ (-(2 ^ 64) < j ∧ j < 2 ^ 64)) := by
  show (if (-(2 ^ 64) < i ∧ i < 2 ^ 64) ∨ (-(2 ^ 64) < j ∧ j < 2 ^ 64) then some (D.int (i * j)) else none) = some d ↔ _
  by_cases h : (-(2 ^ 64) < i ∧ i < 2 ^ 64) ∨ (-(2 ^ 64) < j ∧ j < 2 ^ 64)
  · rw [if_pos h]
    constructor
    · intro e
      cases e
      exact ⟨rfl, h⟩
    · rintro ⟨rfl, _⟩
      rfl
  · rw [if_neg h]
    constructor
    · intro e
      cases e
    · rintro ⟨_, z⟩
      exact absurd z h
@[simp] theorem oPow_i {i j : Int} {d : D} : oPow (.int i) (.int j) = some d ↔ d = .int (i ^ j.toNat) ∧ 0 ≤ j ∧ j ≤ 1000000 ∧ i.natAbs < 2 ^ 64 := by
  unfold oPow
  by_cases h : 0 ≤ j ∧ j ≤ 1000000 ∧ i.natAbs < 2 ^ 64 <;> simp [h, eq_comm]
end Pl
end
section
set_option linter.all false
/-! PLAIN: typed lists as data: dedup, sort, index. -/
namespace Pl
open Z M
abbrev Tx := List Char
/-- a type whose members are data: == and < are its own -/
class En (α : Type) where
  en : α → D
  le : α → α → Bool
  eq_iff : ∀ a b, eqD (en a) (en b) = true ↔ a = b
  le_iff : ∀ a b, leD (en a) (en b) = le a b
  total : ∀ a b, (le a b || le b a) = true
  trans : ∀ a b c, le a b = true → le b c = true → le a c = true
  anti : ∀ a b, le a b = true → le b a = true → a = b
open En
theorem strLt_iff (s t : Tx) : ltD (.str s) (.str t) = decide (s < t) := rfl
theorem tx_total (a b : Tx) : ((!decide (b < a)) || !decide (a < b)) = true := by
  rw [Bool.or_eq_true, Bool.not_eq_true', Bool.not_eq_true', decide_eq_false_iff_not, decide_eq_false_iff_not]
  by_cases h : b < a
  · exact .inr (List.lt_asymm h)
  · exact .inl h
theorem tx_trans (a b c : Tx) (h1 : ¬ b < a) (h2 : ¬ c < b) : ¬ c < a := by
  rw [List.not_lt] at *
  exact List.le_trans h1 h2
theorem tx_anti (a b : Tx) (h1 : ¬ b < a) (h2 : ¬ a < b) : a = b := by
  rw [List.not_lt] at *
  exact List.le_antisymm h1 h2
instance : En Tx where
  en := .str
  le a b := !decide (b < a)
  eq_iff a b := by simp [eqD]
  le_iff a b := by simp [leD, ltD]
  total a b := tx_total a b
  trans a b c h1 h2 := by
    simp only [Bool.not_eq_true', decide_eq_false_iff_not] at *
    exact tx_trans a b c h1 h2
  anti a b h1 h2 := by
    simp only [Bool.not_eq_true', decide_eq_false_iff_not] at *
    exact tx_anti a b h1 h2
instance : En Int where
  en := .int
  le a b := decide (a ≤ b)
  eq_iff a b := by simp [eqD]
  le_iff a b := by
    rw [Bool.eq_iff_iff]
    simp [leD, ltD]
  total a b := by
    simp only [Bool.or_eq_true, decide_eq_true_eq]
    omega
  trans a b c := by
    simp only [decide_eq_true_eq]
    omega
  anti a b := by
    simp only [decide_eq_true_eq]
    omega
instance : En Nat where
  en n := .int n
  le a b := decide (a ≤ b)
  eq_iff a b := by
    simp only [eqD, decide_eq_true_eq]
    omega
  le_iff a b := by
    rw [Bool.eq_iff_iff]
    simp [leD, ltD]
  total a b := by
    simp only [Bool.or_eq_true, decide_eq_true_eq]
    omega
  trans a b c := by
    simp only [decide_eq_true_eq]
    omega
  anti a b := by
    simp only [decide_eq_true_eq]
    omega
/-- three in a tuple -/
def leP {α β : Type} [En α] [DecidableEq α] (le2 : β → β → Bool) (x y : α × β) : Bool := if x.1 = y.1 then le2 x.2 y.2 else le x.1 y.1
theorem leP_total {α β : Type} [En α] [DecidableEq α] {le2 : β → β → Bool} (h : ∀ a b, (le2 a b || le2 b a) = true) (x y : α × β) : (leP le2 x y || leP le2 y x) = true := by
  unfold leP
  by_cases e : x.1 = y.1
  · simp only [e, if_true]
    exact h _ _
  · simp only [e, Ne.symm e, if_false]
    exact total _ _
theorem leP_anti {α β : Type} [En α] [DecidableEq α] {le2 : β → β → Bool} (h : ∀ a b, le2 a b = true → le2 b a = true → a = b) (x y : α × β) (h1 : leP le2 x y = true) (h2 : leP le2 y x = true) : x = y := by
  unfold leP at *
  by_cases e : x.1 = y.1
  · simp only [e, if_true] at h1 h2
    exact Prod.ext e (h _ _ h1 h2)
  · simp only [e, Ne.symm e, if_false] at h1 h2
    exact absurd (anti _ _ h1 h2) e
theorem leP_trans {α β : Type} [En α] [DecidableEq α] {le2 : β → β → Bool} (h : ∀ a b c, le2 a b = true → le2 b c = true → le2 a c = true) (x y z : α × β) (h1 : leP le2 x y = true) (h2 : leP le2 y z = true) : leP le2 x z = true := by
  unfold leP at *
  by_cases e1 : x.1 = y.1
  · by_cases e2 : y.1 = z.1
    · rw [if_pos e1] at h1
      rw [if_pos e2] at h2
      rw [if_pos (e1.trans e2)]
      exact h _ _ _ h1 h2
    · rw [if_neg e2] at h2
      rw [if_neg (by rw [e1]; exact e2), e1]
      exact h2
  · rw [if_neg e1] at h1
    by_cases e2 : y.1 = z.1
    · rw [if_neg (by rw [← e2]; exact e1), ← e2]
      exact h1
    · rw [if_neg e2] at h2
      have h3 := trans _ _ _ h1 h2
      by_cases e3 : x.1 = z.1
      · rw [e3] at h1
        exact absurd (anti _ _ h2 h1) e2
      · rw [if_neg e3]
        exact h3
theorem tup_le {a b : D} {xs ys : List D} : ltL (a :: xs) (b :: ys) = if eqD a b then ltL xs ys else ltD a b := rfl
instance {α β γ : Type} [En α] [En β] [En γ] [DecidableEq α] [DecidableEq β] : En (α × β × γ) where
  en x := .tup [en x.1, en x.2.1, en x.2.2]
  le := leP (leP le)
  eq_iff a b := by
    simp only [eqD, eqL, Bool.and_eq_true, eq_iff, and_true]
    exact ⟨fun ⟨h1, h2, h3⟩ => Prod.ext h1 (Prod.ext h2 h3), fun h => by subst h; exact ⟨rfl, rfl, rfl⟩⟩
  le_iff a b := by
    simp only [leD, ltD, ltL, leP]
    by_cases e1 : a.1 = b.1
    · rw [if_pos e1, if_pos (by rw [eq_iff]; exact e1.symm)]
      by_cases e2 : a.2.1 = b.2.1
      · rw [if_pos e2, if_pos (by rw [eq_iff]; exact e2.symm), ← le_iff]
        by_cases e3 : eqD (en b.2.2) (en a.2.2) = true
        · rw [if_pos e3]
          have e4 := (eq_iff _ _).mp e3
          rw [e4]
          unfold leD
          have : le a.2.2 a.2.2 = true := by simpa using total a.2.2 a.2.2
          rw [← le_iff] at this
          unfold leD at this
          rw [this]
          rfl
        · rw [if_neg e3]
          rfl
      · rw [if_neg e2, if_neg (by rw [eq_iff]; exact Ne.symm e2), ← le_iff]
        rfl
    · rw [if_neg e1, if_neg (by rw [eq_iff]; exact Ne.symm e1), ← le_iff]
      rfl
  total a b := leP_total (leP_total total) a b
  trans a b c := leP_trans (leP_trans trans) a b c
  anti a b := leP_anti (leP_anti anti) a b
section
variable {α : Type} [En α] [DecidableEq α]
theorem eqD_en (a b : α) : eqD (en a) (en b) = decide (a = b) := by
  by_cases h : a = b
  · rw [decide_eq_true h, eq_iff]
    exact h
  · rw [decide_eq_false h]
    cases e : eqD (en a) (en b) with
    | false => rfl
    | true => exact absurd ((eq_iff _ _).mp e) h
theorem en_inj {a b : α} (h : en a = en b) : a = b := by
  have := (eq_iff a a).mpr rfl
  rw [h] at this
  exact ((eq_iff b a).mp (by rw [← h]; rw [h]; rw [← h] at this ⊢; exact this)).symm
def dd : List α → List α
  | [] => []
  | x :: r => x :: (dd r).filter fun y => decide (y ≠ x)
theorem dedup_en : ∀ xs : List α, dedup (xs.map en) = (dd xs).map en
  | [] => rfl
  | x :: r => by
    rw [List.map_cons, dedup, dd, List.map_cons, dedup_en r, List.filter_map]
    congr 2
    refine List.filter_congr fun y _ => ?_
    simp only [Function.comp, eqD_en]
    by_cases h : x = y
    · subst h
      simp
    · have : ¬ y = x := fun z => h z.symm
      simp [h, this]
theorem mem_dd {xs : List α} {x : α} : x ∈ dd xs ↔ x ∈ xs := by
  induction xs with
  | nil => simp [dd]
  | cons y r ih =>
    rw [dd, List.mem_cons, List.mem_cons, List.mem_filter, ih]
    by_cases h : x = y <;> simp [h]
theorem nodup_dd : ∀ xs : List α, (dd xs).Nodup
  | [] => by simp [dd]
  | x :: r => by
    rw [dd]
    refine List.nodup_cons.mpr ⟨fun h => ?_, (nodup_dd r).filter _⟩
    have := (List.mem_filter.mp h).2
    simp at this
theorem length_dd (xs : List α) : (dd xs).length ≤ xs.length := by
  induction xs with
  | nil => simp [dd]
  | cons x r ih =>
    rw [dd, List.length_cons, List.length_cons]
    have := List.length_filter_le (fun y => decide (y ≠ x)) (dd r)
    omega
def srt (xs : List α) : List α := xs.mergeSort le
theorem sortL_en (xs : List α) : sortL (xs.map en) = (srt xs).map en := by
  unfold sortL srt
  rw [List.map_mergeSort]
  intro a _ b _
  exact (le_iff a b).symm
theorem srt_perm {xs ys : List α} (h : xs.Perm ys) : srt xs = srt ys := by
  have p : (srt xs).Perm (srt ys) := (List.mergeSort_perm xs le).trans (h.trans (List.mergeSort_perm ys le).symm)
  refine p.eq_of_pairwise (le := fun a b => le a b = true) (fun a b _ _ h1 h2 => anti a b h1 h2) ?_ ?_
  · exact List.pairwise_mergeSort trans total xs
  · exact List.pairwise_mergeSort trans total ys
theorem mem_srt {xs : List α} {x : α} : x ∈ srt xs ↔ x ∈ xs := List.mem_mergeSort
theorem length_srt (xs : List α) : (srt xs).length = xs.length := List.length_mergeSort xs
theorem nodup_srt {xs : List α} (h : xs.Nodup) : (srt xs).Nodup := (List.mergeSort_perm xs le).nodup_iff.mpr h
theorem idxD_en0 {x : α} : ∀ {xs : List α}, x ∈ xs → idxD (en x) (xs.map en) = some (xs.idxOf x)
  | [], h => by cases h
  | y :: r, h => by
    rw [List.map_cons, idxD, eqD_en]
    by_cases e : y = x
    · subst e
      simp
    · have e2 : x ∈ r := by
        rcases List.mem_cons.mp h with z | z
        · exact absurd z.symm e
        · exact z
      rw [decide_eq_false e, idxD_en0 e2, List.idxOf_cons, beq_eq_false_iff_ne.mpr e]
      simp
/-- the first place -/
def ixO (x : α) (xs : List α) : Nat := xs.idxOf x
theorem idxD_en {x : α} {xs : List α} (h : x ∈ xs) : idxD (en x) (xs.map en) = some (ixO x xs) := idxD_en0 h
theorem ixO_lt {α : Type} [DecidableEq α] {x : α} {xs : List α} (h : x ∈ xs) : xs.idxOf x < xs.length := List.idxOf_lt_length_of_mem h
theorem idx_lt {x : α} {xs : List α} (h : x ∈ xs) : ixO x xs < xs.length := ixO_lt h
theorem ixO_at {x : α} {xs : List α} (h : x ∈ xs) : xs[ixO x xs]? = some x := by
  unfold ixO
  rw [List.getElem?_eq_getElem (ixO_lt h), List.getElem_idxOf]
theorem ixO_of {xs : List α} (nd : xs.Nodup) {i : Nat} {x : α} (h : xs[i]? = some x) : ixO x xs = i := by
  obtain ⟨l, e⟩ := List.getElem?_eq_some_iff.mp h
  subst e
  exact nd.idxOf_getElem i l
end
end Pl
end
section
set_option linter.all false
namespace Pl
open Z M En
/-- ints or texts -/
class Fl1 (α : Type) [En α] : Prop where
  flat : ∀ a : α, flat1 (en a) = true
  alk : ∀ a b : α, Z.alk (en a) (en b) = true
instance : Fl1 Tx := ⟨fun _ => rfl, fun _ _ => rfl⟩
instance : Fl1 Int := ⟨fun _ => rfl, fun _ _ => rfl⟩
instance : Fl1 Nat := ⟨fun _ => rfl, fun _ _ => rfl⟩
theorem flat1_pln {d : D} (h : flat1 d = true) : pln d = true ∧ dep d = 0 ∧ flD d = true ∧ (match d with
  | .tup _ => false
  | .non => false
  | _ => true) = true := by
  cases d <;> simp [flat1] at h <;> exact ⟨rfl, rfl, rfl, rfl⟩
theorem nott (d : D) : flat1 d = true → (fun x : D => match x with
  | .tup _ => false
  | .non => false
  | _ => true) d = true := by
  intro h
  cases d <;> simp [flat1] at h <;> rfl
theorem flat1_shp {d : D} (h : flat1 d = true) : shp d = true := by
  obtain ⟨h1, h2, _, _⟩ := flat1_pln h
  simp [shp, h1, h2]
section
variable {α β γ : Type} [En α] [En β] [En γ] [Fl1 α] [Fl1 β] [Fl1 γ] [DecidableEq α] [DecidableEq β] [DecidableEq γ]
theorem all_en {α : Type} [En α] {p : D → Bool} (h : ∀ a : α, p (en a) = true) (xs : List α) : (xs.map en).all p = true := by
  rw [List.all_eq_true]
  intro d hd
  obtain ⟨a, _, rfl⟩ := List.mem_map.mp hd
  exact h a
theorem flat_all (xs : List α) : (xs.map en).all flat1 = true := all_en Fl1.flat xs
theorem inD_en {α : Type} [En α] [DecidableEq α] (x : α) (xs : List α) : inD (en x) (xs.map en) = decide (x ∈ xs) := by
  unfold inD
  rw [List.any_map, Bool.eq_iff_iff, List.any_eq_true, decide_eq_true_eq]
  constructor
  · rintro ⟨y, hy, e⟩
    have := (eq_iff _ _).mp e
    subst this
    exact hy
  · exact fun h => ⟨x, h, (eq_iff _ _).mpr rfl⟩
theorem oIn_lst (x : D) (ys : List D) : oIn x (.lst ys) = if shp x && ys.all shp then some (.bl (inD x ys)) else none := by
  cases x <;> try rfl
  rename_i s
  rcases s with _ | ⟨c, _ | ⟨c2, r⟩⟩ <;> rfl
theorem oIn_en (x : α) (xs : List α) : oIn (en x) (.lst (xs.map en)) = some (.bl (decide (x ∈ xs))) := by
  rw [oIn_lst, flat1_shp (Fl1.flat x), all_en (fun a => flat1_shp (Fl1.flat a)), inD_en]
  rfl
theorem oNotIn_en (x : α) (xs : List α) : oNotIn (en x) (.lst (xs.map en)) = some (.bl (decide (x ∉ xs))) := by
  unfold oNotIn
  rw [oIn_en]
  simp [notB]
theorem oIn_ex (x : α) (xs : List α) : ∃ r, oIn (en x) (.lst (xs.map en)) = some (.bl r) ∧ (r = true ↔ x ∈ xs) := ⟨_, oIn_en x xs, decide_eq_true_iff⟩
theorem oNotIn_ex (x : α) (xs : List α) : ∃ r, oNotIn (en x) (.lst (xs.map en)) = some (.bl r) ∧ (r = true ↔ x ∉ xs) := ⟨_, oNotIn_en x xs, decide_eq_true_iff⟩
theorem oIndexL_en {x : α} {xs : List α} (h : x ∈ xs) : oIndexL (.lst (xs.map en)) (en x) = some (.int (ixO x xs : Nat)) := by
  show (if shp (en x) && (xs.map en).all shp then (idxD (en x) (xs.map en)).map fun (j : Nat) => D.int j else none) = _
  rw [flat1_shp (Fl1.flat x), all_en (fun a => flat1_shp (Fl1.flat a)), idxD_en h]
  rfl
theorem sortable_en (xs : List α) (h : xs.length ≤ lim) : sortable (xs.map en) = true := by
  unfold sortable
  simp only [Bool.and_eq_true, Bool.or_eq_true]
  exact ⟨⟨⟨⟨all_en (fun a => all_en (Fl1.alk a) xs) xs, all_en (fun a => (flat1_pln (Fl1.flat a)).1) xs⟩, all_en (fun a => by rw [(flat1_pln (Fl1.flat a)).2.1]; rfl) xs⟩, .inr (all_en (fun a => nott _ (Fl1.flat a)) xs)⟩, decide_eq_true (by rw [List.length_map]; exact h)⟩
theorem oSet_en (xs : List α) (h : xs.length ≤ 4000) : oSet (.lst (xs.map en)) = some (.set ((dd xs).map en)) := by
  show (if setable (xs.map en) then some (D.set (dedup (xs.map en))) else none) = _
  rw [if_pos, dedup_en]
  unfold setable
  rw [flat_all, List.length_map, decide_eq_true h]
  rfl
theorem oSetT_en (xs : List α) (h : xs.length ≤ 4000) : oSetT (.tup (xs.map en)) = some (.set ((dd xs).map en)) := by
  show (if setable (xs.map en) then some (D.set (dedup (xs.map en))) else none) = _
  rw [if_pos, dedup_en]
  unfold setable
  rw [flat_all, List.length_map, decide_eq_true h]
  rfl
theorem oSortS_en (xs : List α) (h : xs.length ≤ lim) : oSortS (.set (xs.map en)) = some (.lst ((srt xs).map en)) := by
  show (if sortable (xs.map en) && ((xs.map en).all flat1 || (xs.map en).all flatT) then some (D.lst (sortL (xs.map en))) else none) = _
  rw [sortable_en xs h, flat_all, sortL_en]
  rfl
theorem oSorted_en (xs : List α) (h : xs.length ≤ lim) : oSorted (.lst (xs.map en)) = some (.lst ((srt xs).map en)) := by
  show (if sortable (xs.map en) then some (D.lst (sortL (xs.map en))) else none) = _
  rw [sortable_en xs h, sortL_en]
  rfl
/-! triples -/
theorem flatT3 (x : α × β × γ) : flatT (en x) = true := by
  show [en x.1, en x.2.1, en x.2.2].all flat1 = true
  simp [Fl1.flat]
theorem pln3 (x : α × β × γ) : pln (en x) = true ∧ dep (en x) = 1 ∧ shp (en x) = true := by
  have h1 := flat1_pln (Fl1.flat x.1)
  have h2 := flat1_pln (Fl1.flat x.2.1)
  have h3 := flat1_pln (Fl1.flat x.2.2)
  have p : pln (en x) = true := by
    show plnL [en x.1, en x.2.1, en x.2.2] = true
    simp [plnL, h1.1, h2.1, h3.1]
  have d : dep (en x) = 1 := by
    show depL [en x.1, en x.2.1, en x.2.2] + 1 = 1
    simp [depL, h1.2.1, h2.2.1, h3.2.1]
  exact ⟨p, d, by simp [shp, p, d]⟩
theorem sortable3 (xs : List (α × β × γ)) (h : xs.length ≤ lim) : sortable (xs.map en) = true := by
  unfold sortable
  simp only [Bool.and_eq_true, Bool.or_eq_true]
  refine ⟨⟨⟨⟨all_en (fun a => all_en (fun b => ?_) xs) xs, all_en (fun a => (pln3 a).1) xs⟩, all_en (fun a => by rw [(pln3 a).2.1]; rfl) xs⟩, .inl (all_en (fun a => rfl) xs)⟩, decide_eq_true (by rw [List.length_map]; exact h)⟩
  show alkL [en a.1, en a.2.1, en a.2.2] [en b.1, en b.2.1, en b.2.2] = true
  simp [alkL, Fl1.alk]
theorem oSet3 (xs : List (α × β × γ)) (h : xs.length ≤ 60) : oSet (.lst (xs.map en)) = some (.set ((dd xs).map en)) := by
  show (if setable (xs.map en) then some (D.set (dedup (xs.map en))) else none) = _
  rw [if_pos, dedup_en]
  unfold setable
  rw [all_en flatT3, dedup_en, decide_eq_true (show ((dd xs).map en).length ≤ 60 from by rw [List.length_map]; exact Nat.le_trans (length_dd xs) h)]
  simp
theorem oSortS3 (xs : List (α × β × γ)) (h : xs.length ≤ lim) : oSortS (.set (xs.map en)) = some (.lst ((srt xs).map en)) := by
  show (if sortable (xs.map en) && ((xs.map en).all flat1 || (xs.map en).all flatT) then some (D.lst (sortL (xs.map en))) else none) = _
  rw [sortable3 xs h, all_en flatT3, sortL_en]
  simp
theorem oSorted3 (xs : List (α × β × γ)) (h : xs.length ≤ lim) : oSorted (.lst (xs.map en)) = some (.lst ((srt xs).map en)) := by
  show (if sortable (xs.map en) then some (D.lst (sortL (xs.map en))) else none) = _
  rw [sortable3 xs h, sortL_en]
  rfl
theorem oIn3 (x : α × β × γ) (xs : List (α × β × γ)) : oIn (en x) (.lst (xs.map en)) = some (.bl (decide (x ∈ xs))) := by
  rw [oIn_lst, (pln3 x).2.2, all_en (fun a => (pln3 a).2.2), inD_en]
  simp
theorem oIn3_ex (x : α × β × γ) (xs : List (α × β × γ)) : ∃ r, oIn (en x) (.lst (xs.map en)) = some (.bl r) ∧ (r = true ↔ x ∈ xs) := ⟨_, oIn3 x xs, decide_eq_true_iff⟩
theorem eqL_en {α : Type} [En α] [DecidableEq α] : ∀ xs ys : List α, eqL (xs.map en) (ys.map en) = decide (xs = ys)
  | [], [] => rfl
  | [], _ :: _ => rfl
  | _ :: _, [] => rfl
  | x :: xs, y :: ys => by
    show (eqD (en x) (en y) && eqL (xs.map en) (ys.map en)) = _
    rw [eqD_en, eqL_en xs ys]
    simp
end
end Pl
end
section
set_option linter.all false
/-! PLAIN: one draw. -/
namespace Pl
open Z M
/-- the bag behind at most n draws -/
def Inv (n : Nat) (b : Bag) : Prop := 0 ≤ b.dg ∧ 0 ≤ b.sd ∧ b.sd < 12000000000000000000 ∧ 0 ≤ b.ct ∧ b.ct ≤ n
theorem Inv.mono {n m : Nat} {b : Bag} (h : Inv n b) (k : n ≤ m) : Inv m b := ⟨h.1, h.2.1, h.2.2.1, h.2.2.2.1, by have := h.2.2.2.2; omega⟩
theorem take_spec {m : Int} {n : Nat} {b : Bag} (h1 : 0 < m) (h2 : m < 1073741824) (hb : Inv n b) (hn : n < 1000000) : W (Zp.f__law_take [.int m]) (fun d b' => ∃ k, d = .int k ∧ 0 ≤ k ∧ k < m ∧ Inv (n + 1) b') b := by
  obtain ⟨i1, i2, i3, i4, i5⟩ := hb
  simp [Zp.f__law_take, Zp.s__law_take, runD, h1, h2, and_assoc, setBag]
  by_cases c : 0 < b.dg
  · refine .inr ⟨c, ?_, Int.emod_nonneg _ (by omega), Int.emod_lt_of_pos _ h1, ?_⟩
    · have a1 := Int.ediv_nonneg i1 (Int.le_of_lt h1)
      simp [okBag, i2, i4, a1]
      omega
    · exact ⟨Int.ediv_nonneg i1 (Int.le_of_lt h1), i2, i3, i4, by show b.ct ≤ _; omega⟩
  · have a1 := Int.emod_nonneg ((b.sd + 1000033 * (b.ct + 1)) ^ 3) (b := 2305843009213693921) (by omega)
    have a2 := Int.emod_lt_of_pos ((b.sd + 1000033 * (b.ct + 1)) ^ 3) (b := 2305843009213693921) (by omega)
    refine .inl ⟨by omega, ?_, ?_, ?_, Int.emod_nonneg _ (by omega), Int.emod_lt_of_pos _ h1, ?_⟩
    · simp [okBag, i1, i2]
      omega
    · omega
    · omega
    · exact ⟨i1, i2, i3, by show 0 ≤ b.ct + 1; omega, by show b.ct + 1 ≤ _; omega⟩
end Pl
end
section
set_option linter.all false
/-! PLAIN: the draws of the laws. -/
namespace Pl
open Z M En
theorem getD_some {xs : List D} {i : Nat} {d : D} (h : xs[i]? = some d) : xs.getD i .non = d := by
  rw [List.getD_eq_getElem?_getD, h]
  rfl
theorem atD_nat {xs : List D} {k : Nat} : atD xs (k : Int) = xs[k]? := by
  unfold atD
  rw [if_pos (by omega)]
  rfl
theorem bag_spec {ns : List Int} {at_ : Nat} (h : at_ < 9) {b : Bag} : W (Zp.f__law_bag [.scr ns, .int at_]) (fun d _ => ∃ n, bag3 d = some n ∧ okBag n = true ∧ Inv 0 n) b := by
  have key : ∀ cell : Int, ∃ n, bag3 (.lst [.int (if 1000000000000000000 ≤ (if cell < 0 then -cell else cell) then (if cell < 0 then -cell else cell) else 0), .int (cell % 2305843009213693951 * 5 + 9973 * (at_ : Int) + 65537), .int 0]) = some n ∧ okBag n = true ∧ Inv 0 n := fun cell => by
    refine ⟨_, rfl, ?_, ?_⟩
    · simp only [okBag, Bool.and_eq_true, decide_eq_true_eq]
      refine ⟨⟨⟨⟨?_, ?_⟩, ?_⟩, ?_⟩, ?_⟩ <;> (try split) <;> (try split) <;> omega
    · refine ⟨?_, ?_, ?_, ?_, ?_⟩ <;> (try split) <;> (try split) <;> simp only <;> omega
  simp [Zp.f__law_bag, Zp.s__law_bag, runF, and_assoc, oLen]
  by_cases c : at_ < ns.length
  · refine .inr ⟨c, .int ns[at_], by simp [oIx, atD_nat, c], ?_⟩
    have := key ns[at_]
    simp [and_assoc]
    by_cases c2 : 1000000000000000000 ≤ if ns[at_] < 0 then -ns[at_] else ns[at_]
    · rw [if_pos c2] at this
      exact .inr ⟨c2, this⟩
    · rw [if_neg c2] at this
      exact .inl ⟨by omega, this⟩
  · refine .inl ⟨by omega, ?_⟩
    have := key 0
    simpa using this
theorem atD_mem {xs : List D} {k : Int} (h0 : 0 ≤ k) (h1 : k < xs.length) : ∃ d, atD xs k = some d ∧ d ∈ xs := by
  obtain ⟨n, rfl⟩ := Int.eq_ofNat_of_zero_le h0
  have hn : n < xs.length := by omega
  rw [atD_nat]
  exact ⟨xs[n], List.getElem?_eq_getElem hn, List.getElem_mem hn⟩
/-- _law_of -/
theorem of_spec {xs : List D} (h0 : xs ≠ []) (h1 : xs.length ≤ lim) {n : Nat} {b : Bag} (hb : Inv n b) (hn : n < 1000000) : W (Zp.f__law_of [.lst xs]) (fun d b' => d ∈ xs ∧ Inv (n + 1) b') b := by
  have hl : 0 < xs.length := List.length_pos_iff.mpr h0
  unfold lim at h1
  simp [Zp.f__law_of, Zp.s__law_of, runD, oLen]
  refine (take_spec (by omega) (by omega) hb hn).mono fun d b' ⟨k, e, k0, k1, i⟩ => ?_
  subst e
  obtain ⟨d, e, m⟩ := atD_mem k0 k1
  exact ⟨d, e, m, i⟩
theorem ofS_spec {s : Tx} (h0 : s ≠ []) (h1 : s.length ≤ lim) {n : Nat} {b : Bag} (hb : Inv n b) (hn : n < 1000000) : W (Zp.f__law_of [.str s]) (fun d b' => (∃ c ∈ s, d = .str [c]) ∧ Inv (n + 1) b') b := by
  have hl : 0 < s.length := List.length_pos_iff.mpr h0
  have h1' := h1
  unfold lim at h1
  simp [Zp.f__law_of, Zp.s__law_of, runD, oLen, h1']
  refine (take_spec (by omega) (by omega) hb hn).mono fun d b' ⟨k, e, k0, k1, i⟩ => ?_
  subst e
  obtain ⟨d, e, m⟩ := atD_mem (xs := s.map fun c => .str [c]) k0 (by rw [List.length_map]; exact k1)
  refine ⟨d, by show (if s.length ≤ lim then _ else _) = _; rw [if_pos h1']; exact e, ?_, i⟩
  obtain ⟨c, hc, e⟩ := List.mem_map.mp m
  exact ⟨c, hc, e.symm⟩
def abc : Tx := ['a', 'b', 'c', 'd', 'e', 'f', 'g', 'h', 'i', 'j', 'k', 'l', 'm', 'n', 'o', 'p', 'q', 'r', 's', 't', 'u', 'v', 'w', 'x', 'y', 'z']
/-- a label -/
def Lab (s : Tx) : Prop := (0 < s.length ∧ s.length ≤ 8) ∧ ∀ c ∈ s, c ∈ abc
theorem rng0 (n : Nat) : rng 0 (n : Int) = (List.range n).map fun (k : Nat) => D.int (k : Int) := by
  unfold rng
  simp
theorem joinS_nil : ∀ xs : List Tx, joinS [] xs = xs.flatten
  | [] => rfl
  | [x] => by simp [joinS]
  | x :: y :: r => by
    rw [joinS, joinS_nil (y :: r)]
    · simp
    · simp
theorem strL_map (xs : List Tx) : strL (xs.map .str) = some xs := by
  induction xs with
  | nil => rfl
  | cons x r ih => simp [strL, ih]
end Pl
end
section
set_option linter.all false
/-! PLAIN: names, steps, groups. -/
namespace Pl
open Z M En
abbrev xAbc : Ex := xC (.str ['a', 'b', 'c', 'd', 'e', 'f', 'g', 'h', 'i', 'j', 'k', 'l', 'm', 'n', 'o', 'p', 'q', 'r', 's', 't', 'u', 'v', 'w', 'x', 'y', 'z'])
theorem flat_one : ∀ s : Tx, (s.map fun c => [c]).flatten = s
  | [] => rfl
  | x :: r => by simp [flat_one r]
theorem len_le {α : Type} [DecidableEq α] : ∀ {xs ys : List α}, xs.Nodup → (∀ x ∈ xs, x ∈ ys) → xs.length ≤ ys.length
  | [], ys, _, _ => Nat.zero_le _
  | x :: r, ys, nd, h => by
    obtain ⟨n1, n2⟩ := List.nodup_cons.mp nd
    have hx := h x List.mem_cons_self
    have := len_le (ys := ys.erase x) n2 fun y hy => (List.mem_erase_of_ne (by rintro rfl; exact n1 hy)).mpr (h y (List.mem_cons_of_mem _ hy))
    rw [List.length_erase_of_mem hx] at this
    have := List.length_pos_of_mem hx
    rw [List.length_cons]
    omega
theorem word_spec {size n : Nat} {env : Sl} {b : Bag} {i j : Nat} (he : env.getD i .non = .int size) (h8 : size ≤ 8) (hb : Inv n b) (hn : n < 900000) {Q : D → Bag → Prop}
    (hq : ∀ s b', s.length = size → (∀ c ∈ s, c ∈ abc) → Inv (n + size) b' → Q (.str s) b') : W (x2 oJoin (xC (.str [])) (xLc (iRng1 (xV i)) (gN j) xYes (xP Zp.f__law_of (xApp (xL [xAbc]) []))) env) Q b := by
  rw [W_x2, W_xC]
  refine W_xLc ?_
  rw [W_iRng1, W_xV, he]
  refine ⟨size, rfl, by unfold lim; omega, fun m acc b => ∃ s : Tx, acc = s.map (fun c => .str [c]) ∧ s.length = m ∧ (∀ c ∈ s, c ∈ abc) ∧ Inv (n + m) b, ⟨[], rfl, rfl, by simp, hb⟩, ?_, ?_⟩
  · rintro m d acc b hd ⟨s, rfl, hl, hs, hb⟩
    rw [rng0] at hd
    have hm : m < size := by
      have := (List.getElem?_eq_some_iff.mp hd).1
      simpa using this
    refine ⟨_, rfl, ?_⟩
    simp only [xYes, W_xC]
    refine ⟨true, rfl, fun _ => ?_, fun z => by cases z⟩
    simp only [W_xP, W_xApp, xL_cons, xL_nil, W_xCons, W_xC, W_xNil, List.append_nil]
    refine (ofS_spec (by decide) (by decide) hb (by omega)).mono fun d b' ⟨⟨c, hc, e⟩, ib⟩ => ?_
    subst e
    refine ⟨by rw [List.length_map]; unfold lim; omega, s ++ [c], by simp, by simp [hl], ?_, ib⟩
    intro x hx
    rcases List.mem_append.mp hx with z | z
    · exact hs x z
    · rw [List.mem_singleton.mp z]
      exact hc
  · rintro acc b ⟨s, rfl, hl, hs, hb⟩
    have hl2 : s.length = size := by
      rw [hl, rng0]
      simp
    refine ⟨.str s, ?_, hq s b hl2 hs ?_⟩
    · show ((strL (s.map fun c => .str [c])).bind _) = _
      have : (s.map fun c => D.str [c]) = (s.map fun c => [c]).map .str := by simp
      rw [this, strL_map]
      simp only [Option.bind_some, joinS_nil]
      rw [if_pos]
      · rw [flat_one]
      · have : ∀ s : Tx, (List.map List.length (s.map fun c => [c])).sum = s.length := by
          intro s
          induction s with
          | nil => rfl
          | cons x r ih =>
            rw [List.map_cons, List.map_cons, List.sum_cons, ih]
            simp
            omega
        rw [this]
        simp [lim]
        omega
    · rw [← hl2, hl]
      exact hb
theorem letter_free {xs : List Tx} (h : xs.length < 26) : ∃ c ∈ abc, [c] ∉ xs := by
  apply Classical.byContradiction
  intro hc
  have hsub : ∀ s ∈ abc.map (fun c => [c]), s ∈ xs := fun s hs => by
    obtain ⟨c, h1, rfl⟩ := List.mem_map.mp hs
    apply Classical.byContradiction
    intro z
    exact hc ⟨c, h1, z⟩
  have nd : (abc.map fun c => [c]).Nodup := by decide
  have := len_le nd hsub
  have e : (abc.map fun c => [c]).length = 26 := by decide
  omega

theorem names_spec {many : Nat} (h : many ≤ 5) {n : Nat} {b : Bag} (hb : Inv n b) (hn : n < 800000) : W (Zp.f__law_names [.int many]) (fun d b' => ∃ xs : List Tx, d = .lst (xs.map .str) ∧ xs.length = many ∧ (∀ s ∈ xs, Lab s) ∧ Inv (n + 9 * many) b') b := by
  unfold Zp.f__law_names runD
  rw [W_bnd]
  unfold Zp.s__law_names
  rw [W_sAnd]
  simp only [W_sSet, W_xLst, xL_nil, W_xNil, gN_eq]
  refine ⟨_, rfl, ?_⟩
  rw [Nx_nx, W_sAnd]
  refine W_sFor ?_
  rw [W_iRng1, W_xV]
  refine ⟨many, rfl, by unfold lim; omega, fun i env b => ∃ (xs : List Tx) (t s nm : D), env = [.non, .int many, .lst (xs.map .str), t, s, nm, .non, .non] ∧ xs.length = i ∧ (∀ s ∈ xs, Lab s) ∧ Inv (n + 9 * i) b, ⟨[], .non, .non, .non, rfl, rfl, by simp, hb⟩, ?_, ?_⟩
  · rintro i d env b hd ⟨xs, t, s, nm, rfl, hl, hx, hb⟩
    rw [rng0] at hd
    have hm : i < many := by
      have := (List.getElem?_eq_some_iff.mp hd).1
      simpa using this
    refine ⟨_, rfl, ?_⟩
    rw [W_sAnd]
    simp only [W_sSet, W_x2, W_xLst, xL_cons, xL_nil, W_xCons, W_xC, W_xNil, W_xP, W_xApp, List.append_nil, gN_eq]
    refine (take_spec (by omega) (by omega) hb (by omega)).mono fun d1 b1 ⟨k, e, k0, k1, hb1⟩ => ?_
    subst e
    have : ∃ size : Nat, oIx (.lst [.int 1, .int 1, .int 1, .int 2, .int 8]) (.int k) = some (.int size) ∧ size ≤ 8 ∧ 0 < size := by
      have : k = 0 ∨ k = 1 ∨ k = 2 ∨ k = 3 ∨ k = 4 := by omega
      rcases this with rfl | rfl | rfl | rfl | rfl
      · exact ⟨1, rfl, by omega, by omega⟩
      · exact ⟨1, rfl, by omega, by omega⟩
      · exact ⟨1, rfl, by omega, by omega⟩
      · exact ⟨2, rfl, by omega, by omega⟩
      · exact ⟨8, rfl, by omega, by omega⟩
    obtain ⟨size, es, h8, h0⟩ := this
    refine ⟨_, es, _, rfl, ?_⟩
    rw [Nx_nx, W_sAnd, W_sSet]
    refine word_spec (size := size) rfl h8 hb1 (by omega) fun w b2 hw hc hb2 => ?_
    refine ⟨_, rfl, ?_⟩
    rw [Nx_nx, W_sAnd, W_sIf]
    simp only [W_x2, W_xV]
    have hi : Inv (n + 9 * (i + 1)) b2 := hb2.mono (by omega)
    refine ⟨_, oIn_en (α := Tx) w xs, _, rfl, fun hw2 => ?_, fun hw2 => ?_⟩
    · rw [W_sSet, W_x2]
      refine W_xLc ?_
      rw [W_iOf, W_xC]
      refine ⟨_, rfl, fun m acc b => b = b2 ∧ ∃ s : Tx, acc = s.map (fun c => .str [c]) ∧ s = (abc.take m).filter (fun c => decide ([c] ∉ xs)), ⟨rfl, [], rfl, rfl⟩, ?_, ?_⟩
      · rintro m d acc b hd ⟨rfl, s, rfl, hs⟩
        rw [List.getElem?_map] at hd
        obtain ⟨c, hc, rfl⟩ := Option.map_eq_some_iff.mp hd
        refine ⟨_, rfl, ?_⟩
        simp only [W_x2, W_xV]
        have hl := List.length_filter_le (fun c => decide ([c] ∉ xs)) (abc.take m)
        have hl2 : (abc.take m).length ≤ 26 := Nat.le_trans (List.length_take_le' m abc) (by decide)
        have ht : abc.take (m + 1) = abc.take m ++ [c] := by
          rw [List.take_succ]
          have : abc[m]? = some c := hc
          rw [this]
          rfl
        refine ⟨_, oNotIn_en (α := Tx) [c] xs, _, rfl, fun hr => ?_, fun hr => ?_⟩
        · refine ⟨by rw [List.length_map, hs]; unfold lim; omega, trivial, s ++ [c], by simp, ?_⟩
          rw [ht, List.filter_append, ← hs]
          simp only [decide_eq_true_eq] at hr
          simp [hr]
        · refine ⟨trivial, s, rfl, ?_⟩
          rw [ht, List.filter_append, ← hs]
          simp only [decide_eq_false_iff_not] at hr
          simp at hr
          simp [hr]
      · rintro acc b ⟨rfl, s, rfl, hs⟩
        obtain ⟨c, c1, c2⟩ := letter_free (xs := xs) (by omega)
        have hs2 : s = abc.filter (fun c => decide ([c] ∉ xs)) := hs
        have hc : c ∈ s := by
          rw [hs2, List.mem_filter]
          exact ⟨c1, by simpa using c2⟩
        obtain ⟨c0, r, e⟩ : ∃ c0 r, s = c0 :: r := by
          cases s with
          | nil => cases hc
          | cons c0 r => exact ⟨c0, r, rfl⟩
        have hc0 : c0 ∈ abc := by
          have : c0 ∈ s := by rw [e]; exact List.mem_cons_self
          rw [hs2, List.mem_filter] at this
          exact this.1
        subst e
        rw [W_xC]
        refine ⟨.str [c0], rfl, _, rfl, ?_⟩
        rw [Nx_nx, W_sApp, W_xV]
        refine ⟨xs.map .str, rfl, by rw [List.length_map]; unfold lim; omega, xs ++ [[c0]], _, _, _, by simp; exact ⟨rfl, rfl, rfl⟩, by simp [hl], fun s hs => ?_, hi⟩
        rcases List.mem_append.mp hs with z | z
        · exact hx s z
        · rw [List.mem_singleton.mp z]
          exact ⟨⟨Nat.one_pos, show 1 ≤ 8 by decide⟩, fun c hc => by rw [List.mem_singleton.mp hc]; exact hc0⟩
    · rw [W_sPass, Nx_nx, W_sApp, W_xV]
      refine ⟨xs.map .str, rfl, by rw [List.length_map]; unfold lim; omega, xs ++ [w], _, _, _, by simp; exact ⟨rfl, rfl, rfl⟩, by simp [hl], fun s hs => ?_, hi⟩
      rcases List.mem_append.mp hs with z | z
      · exact hx s z
      · rw [List.mem_singleton.mp z]
        exact ⟨⟨by omega, by omega⟩, hc⟩
  · rintro env b ⟨xs, t, s, nm, rfl, hl, hx, hb⟩
    rw [Nx_nx, W_sRet, W_xV]
    have e : (rng 0 (many : Int)).length = many := by
      rw [rng0]
      simp
    rw [e] at hb hl
    rw [W_ret]
    exact ⟨xs, rfl, hl, hx, hb⟩
end Pl
end
section
set_option linter.all false
/-! PLAIN: steps, groups, shown names. -/
namespace Pl
open Z M En
theorem of_en {α : Type} [En α] {xs : List α} (h0 : xs ≠ []) (h1 : xs.length ≤ lim) {n : Nat} {b : Bag} (hb : Inv n b) (hn : n < 1000000) : W (Zp.f__law_of [.lst (xs.map en)]) (fun d b' => (∃ x ∈ xs, d = en x) ∧ Inv (n + 1) b') b :=
  (of_spec (by simpa using h0) (by rw [List.length_map]; exact h1) hb hn).mono fun d b' ⟨m, i⟩ => by
    obtain ⟨x, hx, e⟩ := List.mem_map.mp m
    exact ⟨⟨x, hx, e.symm⟩, i⟩
abbrev St := Tx × Tx × Tx
theorem rng_lt {size m : Nat} {d : D} (h : (rng 0 (size : Int))[m]? = some d) : m < size := by
  rw [rng0] at h
  have := (List.getElem?_eq_some_iff.mp h).1
  simpa using this
theorem rng_len (size : Nat) : (rng 0 (size : Int)).length = size := by
  rw [rng0]
  simp
theorem rng_at {size m : Nat} {d : D} (h : (rng 0 (size : Int))[m]? = some d) : d = .int m := by
  have := rng_lt h
  rw [rng0, List.getElem?_map, List.getElem?_range this] at h
  simpa using h.symm
theorem steps_spec {many : Nat} (h : many ≤ 5) {ns ls : List Tx} (hns : ns ≠ []) (hls : ls ≠ []) (hn1 : ns.length ≤ 100) (hl1 : ls.length ≤ 100) {n : Nat} {b : Bag} (hb : Inv n b) (hn : n < 800000) :
    W (Zp.f__law_steps [.int many, .lst (ns.map en), .lst (ls.map en)]) (fun d b' => ∃ ss : List St, d = .lst (ss.map en) ∧ ss.length = many ∧ (∀ x ∈ ss, x.1 ∈ ns ∧ x.2.1 ∈ ls ∧ x.2.2 ∈ ns) ∧ Inv (n + 3 * many) b') b := by
  unfold Zp.f__law_steps runD
  rw [W_bnd]
  unfold Zp.s__law_steps
  rw [W_sRet]
  refine W_xLc ?_
  rw [W_iRng1, W_xV]
  refine ⟨many, rfl, by unfold lim; omega, fun i acc b => ∃ ss : List St, acc = ss.map en ∧ ss.length = i ∧ (∀ x ∈ ss, x.1 ∈ ns ∧ x.2.1 ∈ ls ∧ x.2.2 ∈ ns) ∧ Inv (n + 3 * i) b, ⟨[], rfl, rfl, by simp, hb⟩, ?_, ?_⟩
  · rintro i d acc b hd ⟨ss, rfl, hl, hx, hb⟩
    have hm := rng_lt hd
    refine ⟨_, rfl, ?_⟩
    simp only [xYes, W_xC]
    refine ⟨true, rfl, fun _ => ?_, fun z => by cases z⟩
    simp only [W_xTup, xL_cons, xL_nil, W_xCons, W_xNil, W_xP, W_xApp, W_xV, List.append_nil]
    refine (of_en (xs := ns) hns (by unfold lim; omega) hb (by omega)).mono fun d1 b1 ⟨⟨s, s1, e1⟩, i1⟩ => ?_
    refine (of_en (xs := ls) hls (by unfold lim; omega) i1 (by omega)).mono fun d2 b2 ⟨⟨l, l1, e2⟩, i2⟩ => ?_
    refine (of_en (xs := ns) hns (by unfold lim; omega) i2 (by omega)).mono fun d3 b3 ⟨⟨t, t1, e3⟩, i3⟩ => ?_
    subst e1 e2 e3
    refine ⟨by rw [List.length_map]; unfold lim; omega, ss ++ [(s, l, t)], by rw [List.map_append]; rfl, by rw [List.length_append, hl]; rfl, fun x hx' => ?_, i3.mono (by omega)⟩
    rcases List.mem_append.mp hx' with z | z
    · exact hx x z
    · rw [List.mem_singleton.mp z]
      exact ⟨s1, l1, t1⟩
  · rintro acc b ⟨ss, rfl, hl, hx, hb⟩
    rw [rng_len] at hl hb
    exact W_ret.mpr ⟨ss, rfl, hl, hx, hb⟩
/-- lists of lists as data -/
def en2 {α : Type} [En α] (cs : List (List α)) : D := .lst (cs.map fun c => .lst (c.map en))
theorem lastD_en {α : Type} [En α] (cs : List (List α)) (l : List α) : lastD (en2 (cs ++ [l])) = some (cs.map (fun c => .lst (c.map en)), l.map en) := by
  unfold en2
  rw [List.map_append]
  exact lastD_of _ _
theorem grouped_spec {ss : List St} (h : ss.length ≤ 100) (h0 : ss ≠ []) {n : Nat} {b : Bag} (hb : Inv n b) (hn : n < 800000) :
    W (Zp.f__law_grouped [.lst (ss.map en)]) (fun d b' => ∃ cs : List (List St), d = en2 cs ∧ cs.flatten = ss ∧ (∀ c ∈ cs, c ≠ []) ∧ Inv (n + ss.length) b') b := by
  unfold Zp.f__law_grouped runD
  rw [W_bnd]
  unfold Zp.s__law_grouped
  rw [W_sAnd]
  show W (ret _) _ _
  rw [W_ret, Nx_nx, W_sAnd]
  refine W_sFor ?_
  rw [W_iOf, W_xV]
  refine ⟨ss.map en, rfl, fun i env b => ∃ (cs : List (List St)) (l : List St) (s : D), env = [.non, .lst (ss.map en), en2 (cs ++ [l]), s] ∧ (cs ++ [l]).flatten = ss.take i ∧ (∀ c ∈ cs, c ≠ []) ∧ (0 < i → l ≠ []) ∧ cs.length ≤ i ∧ Inv (n + i) b, ⟨[], [], .non, rfl, by simp, by simp, by omega, by simp, hb⟩, ?_, ?_⟩
  · rintro i d env b hd ⟨cs, l, s, rfl, hf, hx, hl0, hci, hb⟩
    rw [List.getElem?_map] at hd
    obtain ⟨st, hst, rfl⟩ := Option.map_eq_some_iff.mp hd
    have hi : i < ss.length := (List.getElem?_eq_some_iff.mp hst).1
    have hll : l.length ≤ i := by
      have := congrArg List.length hf
      rw [List.length_flatten, List.length_take, List.map_append, List.sum_append] at this
      simp at this
      omega
    refine ⟨_, rfl, ?_⟩
    rw [W_sAnd, W_sIf, W_xAnd]
    have hne : ∃ r, oNe (D.lst (l.map en)) (.lst []) = some (.bl r) ∧ (r = true ↔ l ≠ []) := by
      refine ⟨!eqD (.lst (l.map en)) (.lst []), ?_, ?_⟩
      · unfold oNe
        rw [if_pos]
        have p1 : plnL (l.map en) = true := by
          clear hf hl0 hll
          induction l with
          | nil => rfl
          | cons x r ih => simp [plnL, ih, (pln3 x).1]
        have p2 : depL (l.map en) ≤ 1 := by
          clear hf hl0 hll p1
          induction l with
          | nil => simp [depL]
          | cons x r ih =>
            have := (pln3 x).2.1
            simp only [List.map_cons, depL]
            omega
        have : shp (.lst (l.map en)) = true := by
          have d : dep (.lst (l.map en)) ≤ 60 := by
            show depL (l.map en) + 1 ≤ 60
            omega
          simp [shp, pln, p1, d]
        rw [this]
        rfl
      · cases l <;> simp [eqD, eqL]
    have hlast : (lastD (([D.non, .lst (ss.map en), en2 (cs ++ [l]), s].set 3 (en st)).getD 2 .non)) = some (cs.map (fun c => .lst (c.map en)), l.map en) := lastD_en cs l
    have step : ∀ (cs' : List (List St)) (l' : List St) (b' : Bag), (cs' ++ [l']).flatten = ss.take i → (∀ c ∈ cs', c ≠ []) → cs'.length ≤ i + 1 → l'.length ≤ i → Inv (n + (i + 1)) b' →
        W (sAppLast 2 (xV 3) [.non, .lst (ss.map en), en2 (cs' ++ [l']), en st]) (fun f b2 => match f with
          | .nx e2 => ∃ (cs : List (List St)) (l : List St) (s : D), e2 = [.non, .lst (ss.map en), en2 (cs ++ [l]), s] ∧ (cs ++ [l]).flatten = ss.take (i + 1) ∧ (∀ c ∈ cs, c ≠ []) ∧ (0 < i + 1 → l ≠ []) ∧ cs.length ≤ i + 1 ∧ Inv (n + (i + 1)) b2
          | .ct e2 => ∃ (cs : List (List St)) (l : List St) (s : D), e2 = [.non, .lst (ss.map en), en2 (cs ++ [l]), s] ∧ (cs ++ [l]).flatten = ss.take (i + 1) ∧ (∀ c ∈ cs, c ≠ []) ∧ (0 < i + 1 → l ≠ []) ∧ cs.length ≤ i + 1 ∧ Inv (n + (i + 1)) b2
          | .bk e2 => False
          | .rt v => False) b' := by
      intro cs' l' b' h1 h2 h3 h4 h5
      unfold sAppLast
      rw [W_bnd, W_xV, W_bnd, W_opt]
      refine ⟨_, lastD_en cs' l', ?_⟩
      rw [W_ite]
      refine ⟨fun _ => W_ret.mpr ⟨cs', l' ++ [st], en st, ?_, ?_, h2, fun _ => by simp, h3, h5⟩, fun z => absurd (show (l'.map en).length < lim from by rw [List.length_map]; unfold lim; omega) z⟩
      · unfold en2
        simp
      · rw [List.take_succ, hst, ← h1]
        simp
    unfold xLast
    rw [W_x2, W_bnd, W_opt]
    refine ⟨_, hlast, ?_⟩
    simp only [W_ret, W_xLst, xL_nil, W_xNil]
    obtain ⟨r, hr, hr2⟩ := hne
    refine ⟨_, hr, r, rfl, fun z => ?_, fun z => ?_⟩
    · simp only [W_x2, W_xP, W_xApp, xL_cons, xL_nil, W_xCons, W_xC, W_xNil, List.append_nil]
      refine (take_spec (by omega) (by omega) hb (by omega)).mono fun d1 b1 ⟨k, e, k0, k1, hb1⟩ => ?_
      subst e
      refine ⟨.bl (decide (k = 0)), by simp [oEq, shp, pln, dep, eqD], _, rfl, fun z2 => ?_, fun z2 => ?_⟩
      · unfold sAppNil
        rw [W_bnd, W_opt]
        refine ⟨_, hlast, ?_⟩
        rw [W_ite]
        refine ⟨fun _ => ?_, fun z => absurd (show (cs.map fun c => D.lst (c.map en)).length + 1 < lim from by rw [List.length_map]; unfold lim; omega) z⟩
        rw [W_ret, Nx_nx]
        have : ([D.non, .lst (ss.map en), en2 (cs ++ [l]), s].set 3 (en st)).set 2 (.lst (cs.map (fun c => .lst (c.map en)) ++ [.lst (l.map en)] ++ [.lst []])) = [.non, .lst (ss.map en), en2 ((cs ++ [l]) ++ [[]]), en st] := by
          unfold en2
          simp
        rw [this]
        refine (step (cs ++ [l]) [] b1 (by simpa using hf) (fun c hc => ?_) (by simp; omega) (by simp) hb1).mono fun f b2 q => ?_
        · rcases List.mem_append.mp hc with z3 | z3
          · exact hx c z3
          · rw [List.mem_singleton.mp z3]
            exact hr2.mp z
        · cases f <;> first | exact q | exact q.elim
      · rw [W_sPass, Nx_nx]
        refine (step cs l b1 hf hx (by omega) hll hb1).mono fun f b2 q => ?_
        cases f <;> first | exact q | exact q.elim
    · refine ⟨false, rfl, fun z => (by cases z), fun _ => ?_⟩
      rw [W_sPass, Nx_nx]
      refine (step cs l b hf hx (by omega) hll (hb.mono (by omega))).mono fun f b2 q => ?_
      cases f <;> first | exact q | exact q.elim
  · rintro env b ⟨cs, l, s, rfl, hf, hx, hl0, hci, hb⟩
    rw [List.length_map] at hf hl0 hb
    rw [Nx_nx, W_sRet, W_xV]
    refine W_ret.mpr ⟨cs ++ [l], rfl, by rw [hf, List.take_length], fun c hc => ?_, hb⟩
    rcases List.mem_append.mp hc with z | z
    · exact hx c z
    · rw [List.mem_singleton.mp z]
      exact hl0 (List.length_pos_iff.mpr h0)
end Pl
end
section
set_option linter.all false
/-! PLAIN: values without draws; maps; shown names, used names. -/
namespace Pl
open Z M En
/-- m gives d and draws nothing -/
def Ev (m : M D) (d : D) : Prop := ∀ b, W m (fun d' b' => d' = d ∧ b' = b) b
theorem Ev.use {m : M D} {d : D} (h : Ev m d) {Q : D → Bag → Prop} {b : Bag} (q : Q d b) : W m Q b := (h b).mono fun d' b' ⟨h1, h2⟩ => by rw [h1, h2]; exact q
/-- f of ds is v, whatever the bag -/
def Pv (f : List D → M D) (ds : List D) (v : D) : Prop := ∀ b, W (f ds) (fun d _ => d = v) b
theorem Pv.use {f : List D → M D} {ds : List D} {v : D} (h : Pv f ds v) {Q : D → Prop} {b : Bag} (q : Q v) : W (f ds) (fun d _ => Q d) b := (h b).mono fun d _ e => by rw [e]; exact q
section
variable {env : Sl} {Q : D → Bag → Prop} {b : Bag} {e t : Ex} {g : Tg} {it : Iw}
theorem W_xLcT {α : Type} (xs : List α) (i f : α → D) (h : W (it env) (fun ds b1 => ds = xs.map i ∧ xs.length ≤ lim ∧ (∀ x ∈ xs, ∃ e1, g (i x) env = some e1 ∧ Ev (e e1) (f x)) ∧ Q (.lst (xs.map f)) b1) b) : W (xLc it g xYes e env) Q b := by
  refine W_xLc (h.mono fun ds b1 ⟨hd, hl, hf, hq⟩ => ⟨fun n acc b => b = b1 ∧ acc = (xs.take n).map f, ⟨rfl, rfl⟩, fun n d acc b hdn ⟨hb, ha⟩ => ?_, fun acc b ⟨hb, ha⟩ => ?_⟩)
  · subst hb ha hd
    rw [List.getElem?_map] at hdn
    obtain ⟨x, hx, rfl⟩ := Option.map_eq_some_iff.mp hdn
    have hlt := (List.getElem?_eq_some_iff.mp hx).1
    obtain ⟨e1, he, hw⟩ := hf x (List.mem_of_getElem? hx)
    refine ⟨e1, he, W_xC.mpr ⟨true, rfl, fun _ => hw.use ⟨?_, rfl, ?_⟩, fun z => by cases z⟩⟩
    · rw [List.length_map, List.length_take]
      omega
    · rw [List.take_succ, hx, List.map_append]
      rfl
  · subst hb ha hd
    rw [List.length_map, List.take_length]
    exact hq
end
@[simp] theorem W_sAppPop {i j : Nat} {e : Ex} {env : Sl} {Q : Fl → Bag → Prop} {b : Bag} : W (sAppPop i j e env) Q b ↔ W (e env) (fun v b1 => ∃ k xs ys y, v = .int k ∧ env.getD i .non = .lst xs ∧ env.getD j .non = .lst ys ∧ (0 ≤ k ∧ k < ys.length ∧ ys.length ≤ lim ∧ xs.length < lim) ∧ ys[k.toNat]? = some y ∧
    Q (.nx ((env.set j (.lst (ys.eraseIdx k.toNat))).set i (.lst (xs ++ [y])))) b1) b := by
  unfold sAppPop
  simp only [W_bnd]
  refine iff_of_eq (congrArg (W (e env) · b) ?_)
  funext v b1
  cases v <;> try (simp; done)
  rename_i k
  cases h1 : env.getD i .non <;> try (simp; done)
  rename_i xs
  cases h2 : env.getD j .non <;> try (simp; done)
  rename_i ys
  dsimp only
  by_cases h : 0 ≤ k ∧ k < ys.length ∧ ys.length ≤ lim ∧ xs.length < lim
  · rw [if_pos h]
    cases h3 : ys[k.toNat]? with
    | none =>
      simp only [W_no, eq_iff_iff, false_iff]
      rintro ⟨k', xs', ys', y, e1, e2, e3, e4, e5, _⟩
      cases e1
      cases e3
      rw [h3] at e5
      cases e5
    | some y =>
      simp only [W_ret, eq_iff_iff]
      constructor
      · exact fun q => ⟨k, xs, ys, y, rfl, rfl, rfl, h, h3, q⟩
      · rintro ⟨k', xs', ys', y', e1, e2, e3, e4, e5, q⟩
        cases e1
        cases e2
        cases e3
        rw [h3] at e5
        cases e5
        exact q
  · rw [if_neg h]
    simp only [W_no, eq_iff_iff, false_iff]
    rintro ⟨k', xs', ys', y, e1, e2, e3, e4, e5, _⟩
    cases e1
    cases e2
    cases e3
    exact h e4
section
variable {α β γ : Type} [En α] [En β] [En γ] [Fl1 α] [Fl1 β] [Fl1 γ] [DecidableEq α] [DecidableEq β] [DecidableEq γ]
theorem plnL_en {α : Type} [En α] (h : ∀ a : α, pln (en a) = true) : ∀ xs : List α, plnL (xs.map en) = true
  | [] => rfl
  | x :: r => by
    show (pln (en x) && plnL (r.map en)) = true
    rw [h x, plnL_en h r]
    rfl
theorem depL_en {α : Type} [En α] {n : Nat} (h : ∀ a : α, dep (en a) ≤ n) : ∀ xs : List α, depL (xs.map en) ≤ n
  | [] => Nat.zero_le _
  | x :: r => by
    show max (dep (en x)) (depL (r.map en)) ≤ n
    have := h x
    have := depL_en h r
    omega
theorem shpL_en {α : Type} [En α] (h1 : ∀ a : α, pln (en a) = true) (h2 : ∀ a : α, dep (en a) ≤ 50) (xs : List α) : shp (.lst (xs.map en)) = true ∧ shp (.tup (xs.map en)) = true := by
  have p := plnL_en h1 xs
  have d := depL_en h2 xs
  constructor
  · show (plnL (xs.map en) && decide (depL (xs.map en) + 1 ≤ 60)) = true
    rw [p, decide_eq_true (by omega)]
    rfl
  · show (plnL (xs.map en) && decide (depL (xs.map en) + 1 ≤ 60)) = true
    rw [p, decide_eq_true (by omega)]
    rfl
theorem shpL1 (xs : List α) : shp (.lst (xs.map en)) = true ∧ shp (.tup (xs.map en)) = true := shpL_en (fun a => (flat1_pln (Fl1.flat a)).1) (fun a => by rw [(flat1_pln (Fl1.flat a)).2.1]; omega) xs
theorem shpL3 (xs : List (α × β × γ)) : shp (.lst (xs.map en)) = true ∧ shp (.tup (xs.map en)) = true := shpL_en (fun a => (pln3 a).1) (fun a => by rw [(pln3 a).2.1]; omega) xs
theorem oNe_lst {x y : D} (h1 : shp x = true) (h2 : shp y = true) : oNe x y = some (.bl (!eqD x y)) := by
  unfold oNe
  rw [h1, h2]
  rfl
theorem oEq_lst {x y : D} (h1 : shp x = true) (h2 : shp y = true) : oEq x y = some (.bl (eqD x y)) := by
  unfold oEq
  rw [h1, h2]
  rfl
theorem eqD_lst {α : Type} [En α] [DecidableEq α] (xs ys : List α) : eqD (.lst (xs.map en)) (.lst (ys.map en)) = decide (xs = ys) := eqL_en xs ys
theorem eqD_tup {α : Type} [En α] [DecidableEq α] (xs ys : List α) : eqD (.tup (xs.map en)) (.tup (ys.map en)) = decide (xs = ys) := eqL_en xs ys
end
theorem map_erase {α β : Type} (f : α → β) : ∀ (xs : List α) (k : Nat), (xs.map f).eraseIdx k = (xs.eraseIdx k).map f
  | [], _ => rfl
  | x :: r, 0 => rfl
  | x :: r, k + 1 => by
    show f x :: (r.map f).eraseIdx k = f x :: (r.eraseIdx k).map f
    rw [map_erase f r k]
theorem perm_erase {α : Type} : ∀ {xs : List α} {k : Nat} (h : k < xs.length), (xs[k] :: xs.eraseIdx k).Perm xs
  | [], _, h => by cases h
  | x :: r, 0, h => .refl _
  | x :: r, k + 1, h => (List.Perm.swap x _ _).trans (.cons x (perm_erase (xs := r) (by simpa using h)))
theorem flat_take {α : Type} (k : Nat) (cs : List (List α)) : (cs.take k).flatten.length ≤ cs.flatten.length := by
  have e : cs.flatten = (cs.take k).flatten ++ (cs.drop k).flatten := by
    rw [← List.flatten_append, List.take_append_drop]
  rw [e, List.length_append]
  omega
theorem shown_spec {ns : List Tx} {many : Nat} (hm : many ≤ 10) (hl : ns.length ≤ 100) (nd : ns.Nodup) {n : Nat} {b : Bag} (hb : Inv n b) (hn : n < 800000) :
    W (Zp.f__law_shown [.lst (ns.map en), .int many]) (fun d b' => ∃ fs : List Tx, d = .lst (fs.map en) ∧ fs.Nodup ∧ (∀ x ∈ fs, x ∈ ns) ∧ Inv (n + many) b') b := by
  unfold Zp.f__law_shown runD
  rw [W_bnd]
  unfold Zp.s__law_shown
  rw [W_sAnd]
  simp only [W_sPar, W_xA, xL_cons, xL_nil, W_xCons, W_xV, W_xNil, W_xLst]
  refine ⟨_, rfl, ?_⟩
  rw [Nx_nx, W_sAnd]
  refine W_sFor ?_
  rw [W_iRng1, W_xV]
  refine ⟨many, rfl, by unfold lim; omega, fun i env b => ∃ (left found : List Tx) (t : D), env = [.non, .lst (ns.map en), .int many, .lst (left.map en), .lst (found.map en), t] ∧ (found ++ left).Perm ns ∧ Inv (n + i) b, ⟨ns, [], .non, rfl, .refl _, hb⟩, ?_, ?_⟩
  · rintro i d env b hd ⟨left, found, t, rfl, hp, hb⟩
    have hi := rng_lt hd
    have hlen := hp.length_eq
    rw [List.length_append] at hlen
    refine ⟨_, rfl, ?_⟩
    rw [W_sIf, W_x2, W_xV, W_xLst, W_xNil]
    refine ⟨_, oNe_lst (shpL1 left).1 (shpL1 ([] : List Tx)).1, _, rfl, fun h => ?_, fun h => ?_⟩
    · have hne : left ≠ [] := by
        rintro rfl
        simp [eqD, eqL] at h
      have hpos := List.length_pos_iff.mpr hne
      rw [W_sAppPop]
      simp only [W_xP, W_xApp, W_xCons, W_xA, W_xV, W_xNil, List.append_nil]
      refine ⟨.int left.length, by show some (D.int (left.map en).length) = _; rw [List.length_map], ?_⟩
      refine (take_spec (by omega) (by omega) hb (by omega)).mono fun d1 b1 ⟨k, e, k0, k1, hb1⟩ => ?_
      subst e
      obtain ⟨m, rfl⟩ := Int.eq_ofNat_of_zero_le k0
      have hm : m < left.length := by omega
      refine ⟨m, found.map en, left.map en, en left[m], rfl, rfl, rfl, ⟨k0, by rw [List.length_map]; exact k1, by rw [List.length_map]; unfold lim; omega, by rw [List.length_map]; unfold lim; omega⟩, ?_, left.eraseIdx m, found ++ [left[m]], d, ?_, ?_, hb1⟩
      · rw [Int.toNat_natCast, List.getElem?_map, List.getElem?_eq_getElem hm]
        rfl
      · simp [map_erase]
      · have p := perm_erase hm
        rw [List.append_assoc]
        exact (List.Perm.append_left found p).trans hp
    · rw [W_sPass]
      exact ⟨left, found, d, rfl, hp, hb.mono (by omega)⟩
  · rintro env b ⟨left, found, t, rfl, hp, hb⟩
    rw [rng_len] at hb
    rw [Nx_nx, W_sRet, W_xV]
    have nd2 := hp.nodup_iff.mpr nd
    exact W_ret.mpr ⟨found, rfl, (List.nodup_append.mp nd2).1, fun x hx => hp.subset (List.mem_append_left _ hx), hb⟩
/-- the names of steps -/
def namesOf (ss : List St) : List Tx := ss.flatMap fun s => [s.1, s.2.2]
def usedT (ss : List St) : List Tx := srt (dd (namesOf ss))
theorem namesOf_len (ss : List St) : (namesOf ss).length = 2 * ss.length := by
  unfold namesOf
  induction ss with
  | nil => rfl
  | cons s r ih => simp [ih]; omega
theorem oAdd_lst {xs ys : List D} (h1 : xs.length ≤ lim) (h2 : ys.length ≤ lim) : oAdd (.lst xs) (.lst ys) = some (.lst (xs ++ ys)) := by
  show (if xs.length ≤ lim ∧ ys.length ≤ lim then some (D.lst (xs ++ ys)) else none) = _
  rw [if_pos ⟨h1, h2⟩]
theorem used_spec {cs : List (List St)} (h : cs.flatten.length ≤ 1000) : Pv Zp.f__law_used [en2 cs] (.lst ((usedT cs.flatten).map en)) := by
  intro b
  unfold Zp.f__law_used runD
  rw [W_bnd]
  unfold Zp.s__law_used
  rw [W_sAnd, W_sSet, W_xLst, xL_nil, W_xNil]
  refine ⟨_, rfl, ?_⟩
  rw [Nx_nx, W_sAnd]
  refine W_sFor ?_
  rw [W_iOf, W_xV]
  refine ⟨_, rfl, fun i env b => ∃ (c s l t : D), env = [en2 cs, .lst ((namesOf (cs.take i).flatten).map en), c, s, l, t], ⟨.non, .non, .non, .non, rfl⟩, ?_, ?_⟩
  · rintro i d env b hd ⟨c, s, l, t, rfl⟩
    rw [List.getElem?_map] at hd
    obtain ⟨cl, hc, rfl⟩ := Option.map_eq_some_iff.mp hd
    have htk : cs.take (i + 1) = cs.take i ++ [cl] := by rw [List.take_succ, hc]; rfl
    have hsub : ((cs.take i).flatten ++ cl).length ≤ 1000 := by
      have e : (cs.take (i + 1)).flatten = (cs.take i).flatten ++ cl := by rw [htk]; simp
      have : (cs.take (i + 1)).flatten.length ≤ cs.flatten.length := flat_take (i + 1) cs
      rw [← e]
      omega
    refine ⟨_, rfl, ?_⟩
    refine W_sFor ?_
    rw [W_iOf, W_xV]
    refine ⟨_, rfl, fun j env b => ∃ (s l t : D), env = [en2 cs, .lst ((namesOf ((cs.take i).flatten ++ cl.take j)).map en), .lst (cl.map en), s, l, t], ⟨s, l, t, by simp⟩, ?_, ?_⟩
    · rintro j d env b hd ⟨s, l, t, rfl⟩
      rw [List.getElem?_map] at hd
      obtain ⟨st, hst, rfl⟩ := Option.map_eq_some_iff.mp hd
      have htk2 : cl.take (j + 1) = cl.take j ++ [st] := by rw [List.take_succ, hst]; rfl
      refine ⟨_, rfl, ?_⟩
      rw [W_sSet, W_x2, W_xV, W_xLst]
      simp only [xL_cons, xL_nil, W_xCons, W_xV, W_xNil]
      have hb1 : (namesOf ((cs.take i).flatten ++ cl.take j)).length ≤ lim := by
        rw [namesOf_len, List.length_append, List.length_take]
        rw [List.length_append] at hsub
        unfold lim
        omega
      refine ⟨_, oAdd_lst (by rw [List.length_map]; exact hb1) (by show 2 ≤ lim; unfold lim; omega), _, rfl, en st.1, en st.2.1, en st.2.2, ?_⟩
      rw [htk2, ← List.append_assoc]
      unfold namesOf
      simp
    · rintro env b ⟨s, l, t, rfl⟩
      rw [List.length_map, List.take_length]
      refine ⟨.lst (cl.map en), s, l, t, ?_⟩
      rw [htk]
      simp
  · rintro env b ⟨c, s, l, t, rfl⟩
    rw [List.length_map, List.take_length, Nx_nx, W_sRet, W_x1]
    simp only [W_xA, xL_cons, xL_nil, W_xCons, W_xV, W_xNil]
    have hl : (namesOf cs.flatten).length ≤ 2000 := by
      rw [namesOf_len]
      omega
    have hl2 : (dd (namesOf cs.flatten)).length ≤ lim := by
      have := length_dd (namesOf cs.flatten)
      unfold lim
      omega
    refine ⟨_, oSet_en (α := Tx) _ (by omega), _, oSortS_en _ hl2, W_ret.mpr rfl⟩
end Pl
end
section
set_option linter.all false
/-! PLAIN: comprehensions with two fors; a pattern made. -/
namespace Pl
open Z M En
section
variable {env : Sl} {Q : D → Bag → Prop} {b : Bag} {e t : Ex} {g g1 : Tg} {it it1 : Iw}
/-- m gives the list ds and draws nothing -/
def EvL (m : M (List D)) (ds : List D) : Prop := ∀ b, W m (fun d' b' => d' = ds ∧ b' = b) b
theorem EvL.use {m : M (List D)} {ds : List D} (h : EvL m ds) {Q : List D → Bag → Prop} {b : Bag} (q : Q ds b) : W m Q b := (h b).mono fun d' b' ⟨h1, h2⟩ => by rw [h1, h2]; exact q
theorem lcGo_ev {β : Type} {j f : β → D} {env1 : Sl} : ∀ {ys : List β} {acc : List D}, acc.length + ys.length ≤ lim → (∀ y ∈ ys, ∃ e2, g1 (j y) env1 = some e2 ∧ Ev (e e2) (f y)) → EvL (lcGo g1 xYes e (ys.map j) env1 acc) (acc ++ ys.map f)
  | [], acc, _, _ => fun b => by
    show W (ret acc) _ b
    simp
  | y :: r, acc, hl, hf => fun b => by
    obtain ⟨e2, h1, h2⟩ := hf y List.mem_cons_self
    rw [List.map_cons, lcGo, W_bnd, W_opt]
    refine ⟨e2, h1, ?_⟩
    simp only [xYes, W_bnd, W_xC]
    refine h2.use ?_
    rw [List.length_cons] at hl
    rw [if_pos (by omega)]
    have := lcGo_ev (ys := r) (acc := acc ++ [f y]) (by simp; omega) fun z hz => hf z (List.mem_cons_of_mem _ hz)
    refine (this b).mono fun d b' ⟨z1, z2⟩ => ⟨?_, z2⟩
    rw [z1]
    simp
theorem W_xLc2T {α β : Type} (xs : List α) (i : α → D) (ys : α → List β) (j : α → β → D) (f : α → β → D) (h : W (it env) (fun ds b1 => ds = xs.map i ∧ (xs.flatMap ys).length ≤ lim ∧
    (∀ x ∈ xs, ∃ e1, g (i x) env = some e1 ∧ EvL (it1 e1) ((ys x).map (j x)) ∧ ∀ y ∈ ys x, ∃ e2, g1 (j x y) e1 = some e2 ∧ Ev (e e2) (f x y)) ∧ Q (.lst (xs.flatMap fun x => (ys x).map (f x))) b1) b) : W (xLc2 it g xYes it1 g1 xYes e env) Q b := by
  unfold xLc2
  rw [W_bnd]
  refine h.mono fun ds b1 ⟨hd, hl, hf, hq⟩ => ?_
  subst hd
  rw [W_bnd, W_nox]
  have key : ∀ (xs : List α) (acc : List D), acc.length + (xs.flatMap ys).length ≤ lim → (∀ x ∈ xs, ∃ e1, g (i x) env = some e1 ∧ EvL (it1 e1) ((ys x).map (j x)) ∧ ∀ y ∈ ys x, ∃ e2, g1 (j x y) e1 = some e2 ∧ Ev (e e2) (f x y)) →
      EvL (lc2Go g xYes it1 g1 xYes e (xs.map i) env acc) (acc ++ xs.flatMap fun x => (ys x).map (f x)) := by
    intro xs
    induction xs with
    | nil =>
      intro acc _ _ b
      show W (ret acc) _ b
      simp
    | cons x r ih =>
      intro acc hl hf b
      obtain ⟨e1, h1, h2, h3⟩ := hf x List.mem_cons_self
      rw [List.flatMap_cons, List.length_append] at hl
      rw [List.map_cons, lc2Go, W_bnd, W_opt]
      refine ⟨e1, h1, ?_⟩
      simp only [xYes, W_bnd, W_xC]
      refine h2.use ?_
      refine (lcGo_ev (by omega) h3).use ?_
      refine (ih (acc ++ (ys x).map (f x)) (by rw [List.length_append, List.length_map]; omega) (fun z hz => hf z (List.mem_cons_of_mem _ hz)) b).mono fun d b' ⟨z1, z2⟩ => ⟨?_, z2⟩
      rw [z1]
      simp
  refine (key xs [] (by simpa using hl) hf).use ?_
  simpa using hq
theorem lsGo_ev {β : Type} {j f : β → D} {env1 : Sl} : ∀ {ys : List β} {acc : List D}, acc.length + ys.length ≤ 4000 → (∀ y ∈ ys, ∃ e2, g1 (j y) env1 = some e2 ∧ flat1 (f y) = true ∧ Ev (e e2) (f y)) → EvL (lsGo g1 xYes e (ys.map j) env1 acc) (acc ++ ys.map f)
  | [], acc, _, _ => fun b => by
    show W (ret acc) _ b
    simp
  | y :: r, acc, hl, hf => fun b => by
    obtain ⟨e2, h1, h3, h2⟩ := hf y List.mem_cons_self
    rw [List.map_cons, lsGo, W_bnd, W_opt]
    refine ⟨e2, h1, ?_⟩
    simp only [xYes, W_bnd, W_xC]
    refine h2.use ?_
    rw [List.length_cons] at hl
    rw [if_pos ⟨by omega, h3⟩]
    have := lsGo_ev (ys := r) (acc := acc ++ [f y]) (by simp; omega) fun z hz => hf z (List.mem_cons_of_mem _ hz)
    refine (this b).mono fun d b' ⟨z1, z2⟩ => ⟨?_, z2⟩
    rw [z1]
    simp
theorem W_xSc2T {α β : Type} (xs : List α) (i : α → D) (ys : α → List β) (j : α → β → D) (f : α → β → D) (h : W (it env) (fun ds b1 => ds = xs.map i ∧ (xs.flatMap ys).length ≤ 4000 ∧
    (∀ x ∈ xs, ∃ e1, g (i x) env = some e1 ∧ EvL (it1 e1) ((ys x).map (j x)) ∧ ∀ y ∈ ys x, ∃ e2, g1 (j x y) e1 = some e2 ∧ flat1 (f x y) = true ∧ Ev (e e2) (f x y)) ∧ Q (.set (dedup (xs.flatMap fun x => (ys x).map (f x)))) b1) b) : W (xSc2 it g xYes it1 g1 xYes e env) Q b := by
  unfold xSc2
  rw [W_bnd]
  refine h.mono fun ds b1 ⟨hd, hl, hf, hq⟩ => ?_
  subst hd
  rw [W_bnd, W_nox]
  have key : ∀ (xs : List α) (acc : List D), acc.length + (xs.flatMap ys).length ≤ 4000 → (∀ x ∈ xs, ∃ e1, g (i x) env = some e1 ∧ EvL (it1 e1) ((ys x).map (j x)) ∧ ∀ y ∈ ys x, ∃ e2, g1 (j x y) e1 = some e2 ∧ flat1 (f x y) = true ∧ Ev (e e2) (f x y)) →
      EvL (ls2Go g xYes it1 g1 xYes e (xs.map i) env acc) (acc ++ xs.flatMap fun x => (ys x).map (f x)) := by
    intro xs
    induction xs with
    | nil =>
      intro acc _ _ b
      show W (ret acc) _ b
      simp
    | cons x r ih =>
      intro acc hl hf b
      obtain ⟨e1, h1, h2, h3⟩ := hf x List.mem_cons_self
      rw [List.flatMap_cons, List.length_append] at hl
      rw [List.map_cons, ls2Go, W_bnd, W_opt]
      refine ⟨e1, h1, ?_⟩
      simp only [xYes, W_bnd, W_xC]
      refine h2.use ?_
      refine (lsGo_ev (by omega) h3).use ?_
      refine (ih (acc ++ (ys x).map (f x)) (by rw [List.length_append, List.length_map]; omega) (fun z hz => hf z (List.mem_cons_of_mem _ hz)) b).mono fun d b' ⟨z1, z2⟩ => ⟨?_, z2⟩
      rw [z1]
      simp
  have hlen : (xs.flatMap fun x => (ys x).map (f x)).length ≤ 4000 := by
    have : (xs.flatMap fun x => (ys x).map (f x)).length = (xs.flatMap ys).length := by
      clear hl hf hq key
      induction xs with
      | nil => rfl
      | cons x r ih => simp [ih]
    omega
  refine (key xs [] (by simpa using hl) hf).use ?_
  rw [List.nil_append, W_ite]
  exact ⟨fun _ => W_ret.mpr hq, fun z => absurd hlen z⟩
end
theorem enum_at : ∀ {xs : List D} {k : Int} {i : Nat}, (enumFrom k xs)[i]? = (xs[i]?).map fun x => .tup [.int (k + i), x]
  | [], k, i => by simp [enumFrom]
  | x :: r, k, 0 => by simp [enumFrom]
  | x :: r, k, i + 1 => by
    show (enumFrom (k + 1) r)[i]? = _
    rw [enum_at]
    have : k + 1 + (i : Int) = k + ((i + 1 : Nat) : Int) := by omega
    rw [this]
    rfl
theorem enum_len : ∀ {xs : List D} {k : Int}, (enumFrom k xs).length = xs.length
  | [], k => rfl
  | x :: r, k => by
    show (enumFrom (k + 1) r).length + 1 = r.length + 1
    rw [enum_len]
@[simp] theorem oEq_i {i j : Int} : oEq (.int i) (.int j) = some (.bl (decide (i = j))) := by simp [oEq, shp, pln, dep, eqD]
@[simp] theorem oNe_i {i j : Int} : oNe (.int i) (.int j) = some (.bl (!decide (i = j))) := by simp [oNe, shp, pln, dep, eqD]
theorem all_true {α : Type} (xs : List α) : oAll (.lst (xs.map fun _ => .bl true)) = some (.bl true) := by
  have : bools (xs.map fun _ => D.bl true) = some (xs.map fun _ => true) := by
    induction xs with
    | nil => rfl
    | cons x r ih => simp [bools, ih]
  show (bools (xs.map fun _ => D.bl true)).map _ = _
  rw [this]
  have e : (xs.map fun _ => true).all id = true := by simp
  show some (D.bl ((xs.map fun _ => true).all id)) = _
  rw [e]
theorem label_spec {s : Tx} (h : Lab s) : Pv Zp.f_is_label [.str s] (.bl true) := by
  intro b
  obtain ⟨⟨h1, h2⟩, h3⟩ := h
  have hlim : s.length ≤ lim := by unfold lim; omega
  unfold Zp.f_is_label runD
  rw [W_bnd]
  unfold Zp.s_is_label
  simp only [W_sRet, W_xAnd, W_x1, W_xV, W_xCh, W_xC, W_xA, xL_cons, xL_nil, W_xCons, W_xNil]
  refine ⟨_, rfl, true, rfl, fun _ => ?_, fun z => by cases z⟩
  refine ⟨.int s.length, by show (if s.length ≤ lim then _ else _) = _; rw [if_pos hlim], ?_⟩
  refine ⟨_, oLt_i, fun _ => ⟨.bl true, ?_, true, rfl, fun _ => ?_, fun z => by cases z⟩, fun z => ?_⟩
  · rw [oLe_i, decide_eq_true (by omega)]
  · refine W_xLcT s (fun c => .str [c]) (fun _ => .bl true) ?_
    simp only [W_iOf, W_xV]
    refine ⟨_, rfl, rfl, hlim, fun c hc => ⟨_, rfl, fun b => ?_⟩, .bl true, ?_, W_ret.mpr rfl⟩
    · simp only [W_x2, W_xV, W_xC]
      refine ⟨.bl true, ?_, rfl, trivial⟩
      exact congrArg (fun t => some (D.bl t)) (decide_eq_true (h3 c hc))
    · exact all_true s
  · rw [decide_eq_false_iff_not] at z
    omega
/-- a step of labels -/
def StepOk (s : St) : Prop := Lab s.1 ∧ Lab s.2.1 ∧ Lab s.2.2
theorem step_spec {s : St} (h : StepOk s) : Pv Zp.f_is_step [en s] (.bl true) := by
  intro b
  unfold Zp.f_is_step runD
  rw [W_bnd]
  unfold Zp.s_is_step
  simp only [W_sRet, W_xAnd, W_x1, W_xV, W_x2, W_xC, W_xA, xL_cons, xL_nil, W_xCons, W_xNil]
  refine ⟨_, rfl, true, rfl, fun _ => ⟨_, rfl, _, oEq_i, true, rfl, fun _ => ?_, fun z => by cases z⟩, fun z => by cases z⟩
  refine W_xLcT [s.1, s.2.1, s.2.2] en (fun _ => .bl true) ?_
  simp only [W_iOf, W_xV]
  refine ⟨_, rfl, rfl, by show 3 ≤ lim; unfold lim; omega, fun x hx => ⟨_, rfl, fun b => ?_⟩, _, all_true [s.1, s.2.1, s.2.2], W_ret.mpr rfl⟩
  simp only [W_xQ, W_xApp, xL_cons, xL_nil, W_xCons, W_xV, W_xNil, List.append_nil]
  refine (label_spec ?_).use (Q := fun d => d = .bl true ∧ True) ⟨rfl, trivial⟩
  rcases List.mem_cons.mp hx with z | hx
  · rw [z]; exact h.1
  rcases List.mem_cons.mp hx with z | hx
  · rw [z]; exact h.2.1
  · rw [List.mem_singleton.mp hx]; exact h.2.2
theorem clause_spec {c : List St} (h : ∀ s ∈ c, StepOk s) (h0 : c ≠ []) (hl : c.length ≤ 1000) : Pv Zp.f_is_clause [.lst (c.map en)] (.bl true) := by
  intro b
  have hp := List.length_pos_iff.mpr h0
  unfold Zp.f_is_clause runD
  rw [W_bnd]
  unfold Zp.s_is_clause
  simp only [W_sRet, W_xAnd, W_x1, W_xV, W_x2, W_xC, W_xA, xL_cons, xL_nil, W_xCons, W_xNil]
  refine ⟨_, rfl, true, rfl, fun _ => ⟨_, rfl, _, oGt_i, true, ?_, fun _ => ?_, fun z => by cases z⟩, fun z => by cases z⟩
  · rw [List.length_map, decide_eq_true (by omega)]
  refine W_xLcT c en (fun _ => .bl true) ?_
  simp only [W_iOf, W_xV]
  refine ⟨_, rfl, rfl, by unfold lim; omega, fun x hx => ⟨_, rfl, fun b => ?_⟩, _, all_true c, W_ret.mpr rfl⟩
  simp only [W_xQ, W_xApp, xL_cons, xL_nil, W_xCons, W_xV, W_xNil, List.append_nil]
  exact (step_spec (h x hx)).use (Q := fun d => d = .bl true ∧ True) ⟨rfl, trivial⟩
end Pl
end
section
set_option linter.all false
/-! PLAIN: a pattern made. -/
namespace Pl
open Z M En
structure PatOk (cs : List (List St)) (sh : List Tx) : Prop where
  ne : cs ≠ []
  ce : ∀ c ∈ cs, c ≠ []
  ok : ∀ s ∈ cs.flatten, StepOk s
  l5 : cs.flatten.length ≤ 5
  u5 : (usedT cs.flatten).length ≤ 5
  nd : sh.Nodup
  su : ∀ x ∈ sh, x ∈ usedT cs.flatten
def patD (cs : List (List St)) (sh : List Tx) : D := .ins 2 [.tup (cs.map fun c => .tup (c.map en)), .tup (sh.map en), .tup (cs.flatten.map en), .ftp ((usedT cs.flatten).map en)]
theorem nodup_take {α : Type} [DecidableEq α] {xs : List α} (nd : xs.Nodup) {i : Nat} {x : α} (h : xs[i]? = some x) : x ∉ xs.take i := by
  intro m
  obtain ⟨j, hj⟩ := List.getElem?_of_mem m
  have hj1 : j < i := by
    have := (List.getElem?_eq_some_iff.mp hj).1
    rw [List.length_take] at this
    omega
  rw [List.getElem?_take, if_pos hj1] at hj
  have a1 := (List.getElem?_eq_some_iff.mp h)
  have a2 := (List.getElem?_eq_some_iff.mp hj)
  obtain ⟨l1, e1⟩ := a1
  obtain ⟨l2, e2⟩ := a2
  have := List.pairwise_iff_getElem.mp nd j i l2 l1 hj1
  rw [e1, e2] at this
  exact this rfl
theorem flat_cl_len {cs : List (List St)} {c : List St} (h : c ∈ cs) : c.length ≤ cs.flatten.length := by
  induction cs with
  | nil => cases h
  | cons x r ih =>
    rw [List.flatten_cons, List.length_append]
    rcases List.mem_cons.mp h with z | z
    · rw [z]; omega
    · have := ih z
      omega
theorem cs_len {cs : List (List St)} (h : ∀ c ∈ cs, c ≠ []) : cs.length ≤ cs.flatten.length := by
  induction cs with
  | nil => exact Nat.le_refl _
  | cons x r ih =>
    have := ih fun c hc => h c (List.mem_cons_of_mem _ hc)
    have := List.length_pos_iff.mpr (h x List.mem_cons_self)
    rw [List.flatten_cons, List.length_append, List.length_cons]
    omega
theorem W_iEnumA {env : Sl} {Q : List D → Bag → Prop} {b : Bag} {a : Ex} : W (iEnumA a env) Q b ↔ W (a env) (fun x b1 => ∃ xs, (x = .lst xs ∨ x = .tup xs) ∧ Q (enumFrom 0 xs) b1) b := by
  unfold iEnumA
  simp only [W_bnd]
  refine iff_of_eq (congrArg (W (a env) · b) ?_)
  funext x b1
  cases x <;> simp
theorem oInT_ex {α : Type} [En α] [Fl1 α] [DecidableEq α] (x : α) (xs : List α) : ∃ r, oIn (en x) (.tup (xs.map en)) = some (.bl r) ∧ (r = true ↔ x ∈ xs) := by
  refine ⟨inD (en x) (xs.map en), ?_, ?_⟩
  · have h : flD (en x) = true := (flat1_pln (Fl1.flat x)).2.2.1
    have h2 : (xs.map en).all flD = true := all_en (fun a => (flat1_pln (Fl1.flat a)).2.2.1) xs
    have e : oIn (en x) (.tup (xs.map en)) = if flD (en x) && (xs.map en).all flD then some (.bl (inD (en x) (xs.map en))) else none := by
      have := Fl1.flat x
      cases hx : en x <;> (rw [hx] at this) <;> first | (simp [flat1] at this; done) | rfl | skip
      rename_i s
      rcases s with _ | ⟨c, _ | ⟨c2, r⟩⟩ <;> rfl
    rw [e, h, h2]
    rfl
  · rw [inD_en, decide_eq_true_iff]
/-- the shown names as a list or a tuple -/
def Sd (sd : D) (sh : List Tx) : Prop := sd = .lst (sh.map en) ∨ sd = .tup (sh.map en)
theorem Sd.cut {sd : D} {sh : List Tx} (h : Sd sd sh) {i : Nat} {y : Tx} (hy : sh[i]? = some y) : ∃ d r, oCutA sd (.int (0 + (i : Int))) = some d ∧ oIn (en y) d = some (.bl r) ∧ (r = true ↔ y ∈ sh.take i) := by
  have hi := (List.getElem?_eq_some_iff.mp hy).1
  have en1 : (0 + (i : Int)).toNat = i := by omega
  rcases h with rfl | rfl
  · obtain ⟨r, h1, h2⟩ := oIn_ex y (sh.take i)
    refine ⟨_, r, ?_, h1, h2⟩
    show (if 0 ≤ 0 + (i : Int) then some (D.lst ((sh.map en).take (0 + (i : Int)).toNat)) else none) = _
    rw [if_pos (by omega), en1, ← List.map_take]
  · obtain ⟨r, h1, h2⟩ := oInT_ex y (sh.take i)
    refine ⟨_, r, ?_, h1, h2⟩
    show (if 0 ≤ 0 + (i : Int) ∧ 0 + (i : Int) < ((sh.map en).length : Nat) then some (D.tup ((sh.map en).take (0 + (i : Int)).toNat)) else none) = _
    rw [if_pos ⟨by omega, by rw [List.length_map]; omega⟩, en1, ← List.map_take]
theorem Sd.tup {sd : D} {sh : List Tx} (h : Sd sd sh) : oTuple sd = some (.tup (sh.map en)) := by
  rcases h with rfl | rfl <;> rfl
theorem init_spec {cs : List (List St)} {sh : List Tx} {sd : D} (h : PatOk cs sh) (hsd : Sd sd sh) : Pv Zp.f_Pattern_init [en2 cs, sd] (patD cs sh) := by
  intro b
  have hp := List.length_pos_iff.mpr h.ne
  have hcl := cs_len h.ce
  have h5 := h.l5
  have hsh : sh.length ≤ 5 := Nat.le_trans (len_le h.nd h.su) h.u5
  have hu : (namesOf cs.flatten).length ≤ 10 := by
    rw [namesOf_len]
    omega
  unfold Zp.f_Pattern_init runIn
  rw [W_bnd]
  unfold Zp.s_Pattern_init
  rw [W_sAnd, W_sIf]
  simp only [W_x2, W_xA, xL_cons, xL_nil, W_xCons, W_xNil, W_xV, W_xC]
  refine ⟨_, rfl, _, oEq_i, _, rfl, fun z => ?_, fun _ => ?_⟩
  · rw [decide_eq_true_eq, List.length_map] at z
    omega
  rw [W_sPass, Nx_nx, W_sAnd]
  refine W_sFor ?_
  rw [W_iEnumA, W_xV]
  refine ⟨cs.map (fun c => .lst (c.map en)), .inl rfl, fun i env b => ∃ a c, env = [.ins 2 [], en2 cs, sd, a, c, .non, .non, .non, .non], ⟨.non, .non, rfl⟩, ?_, ?_⟩
  · rintro i d env b hd ⟨a, c, rfl⟩
    rw [enum_at] at hd
    obtain ⟨x, hx, rfl⟩ := Option.map_eq_some_iff.mp hd
    rw [List.getElem?_map] at hx
    obtain ⟨y, hy, rfl⟩ := Option.map_eq_some_iff.mp hx
    have my := List.mem_of_getElem? hy
    refine ⟨_, rfl, ?_⟩
    rw [W_sIf, W_xNot, W_xQ]
    simp only [W_xApp, xL_cons, xL_nil, W_xCons, W_xV, W_xNil, List.append_nil]
    refine ((clause_spec (c := y) (fun s hs => h.ok s (List.mem_flatten.mpr ⟨y, my, hs⟩)) (h.ce y my) (by have := flat_cl_len my; omega)) _).mono fun d b' e => ?_
    subst e
    refine ⟨true, rfl, false, rfl, (fun z => by cases z), fun _ => ?_⟩
    rw [W_sPass]
    exact ⟨_, _, rfl⟩
  rintro env b ⟨a, c, rfl⟩
  rw [Nx_nx, W_sAnd, W_sSet]
  refine W_xLc2T cs (fun c => .lst (c.map en)) (fun c => c) (fun _ s => en s) (fun _ s => en s) ?_
  rw [W_iOf, W_xV]
  refine ⟨_, rfl, rfl, by rw [show (cs.flatMap fun c => c) = cs.flatten from by simp [List.flatMap]]; unfold lim; omega, fun x hx => ⟨_, rfl, fun b => ?_, fun y hy => ⟨_, rfl, fun b => ?_⟩⟩, _, rfl, ?_⟩
  · rw [W_iOf, W_xV]
    exact ⟨_, rfl, rfl, rfl⟩
  · rw [W_xV]
    exact ⟨rfl, rfl⟩
  have e1 : (cs.flatMap fun c => c.map fun s => (en s : D)) = cs.flatten.map en := by simp [List.flatMap, List.map_flatten]
  rw [e1, Nx_nx, W_sAnd, W_sIf]
  simp only [W_x2, W_xA, xL_cons, xL_nil, W_xCons, W_xNil, W_xV, W_xC]
  refine ⟨_, rfl, _, oGt_i, _, rfl, fun z => ?_, fun _ => ?_⟩
  · rw [decide_eq_true_eq, List.length_map] at z
    omega
  rw [W_sPass, Nx_nx, W_sAnd, W_sSet, W_x1]
  refine W_xSc2T cs.flatten en (fun s => [s.1, s.2.2]) (fun _ t => en t) (fun _ t => en t) ?_
  rw [W_iOf, W_xV]
  refine ⟨_, rfl, rfl, by show (namesOf cs.flatten).length ≤ 4000; omega, fun x hx => ⟨_, rfl, fun b => ?_, fun y hy => ⟨_, rfl, Fl1.flat y, fun b => ?_⟩⟩, ?_⟩
  · simp only [W_iOf, W_xTup, xL_cons, xL_nil, W_xCons, W_xNil, W_x2, W_xV, W_xC]
    exact ⟨_, rfl, _, rfl, _, rfl, rfl, trivial⟩
  · rw [W_xV]
    exact ⟨rfl, rfl⟩
  have e2 : (cs.flatten.flatMap fun s => [s.1, s.2.2].map fun t => (en t : D)) = (namesOf cs.flatten).map en := by
    unfold namesOf
    rw [List.map_flatMap]
  rw [e2, dedup_en]
  have hdl : (dd (namesOf cs.flatten)).length ≤ lim := by
    have := length_dd (namesOf cs.flatten)
    unfold lim
    omega
  refine ⟨_, oSortS_en _ hdl, _, rfl, ?_⟩
  rw [Nx_nx, W_sAnd, W_sIf]
  simp only [W_x2, W_xA, xL_cons, xL_nil, W_xCons, W_xNil, W_xV, W_xC]
  refine ⟨_, rfl, _, oGt_i, _, rfl, fun z => ?_, fun _ => ?_⟩
  · rw [decide_eq_true_eq, List.length_map] at z
    have := h.u5
    unfold usedT at this
    omega
  rw [W_sPass, Nx_nx, W_sAnd]
  refine W_sFor ?_
  rw [W_iEnumA, W_xV]
  refine ⟨sh.map en, hsd, fun i env b => ∃ a n, env = [.ins 2 [], en2 cs, sd, a, c, .lst (cs.flatten.map en), .lst ((usedT cs.flatten).map en), n, .non], ⟨a, .non, rfl⟩, ?_, ?_⟩
  · rintro i d env b hd ⟨a, n, rfl⟩
    rw [enum_at] at hd
    obtain ⟨x, hx, rfl⟩ := Option.map_eq_some_iff.mp hd
    rw [List.getElem?_map] at hx
    obtain ⟨y, hy, rfl⟩ := Option.map_eq_some_iff.mp hx
    have my := List.mem_of_getElem? hy
    refine ⟨_, rfl, ?_⟩
    rw [W_sIf, W_xOr]
    simp only [W_x2, W_xV]
    obtain ⟨r1, hr1, hr2⟩ := oNotIn_ex (α := Tx) y (usedT cs.flatten)
    refine ⟨_, hr1, r1, rfl, fun z => ?_, fun _ => ?_⟩
    · exact absurd (h.su y my) (hr2.mp z)
    · obtain ⟨dc, r3, hcut, hr3, hr4⟩ := hsd.cut hy
      refine ⟨_, hcut, _, hr3, r3, rfl, fun z => ?_, fun _ => ?_⟩
      · exact absurd (hr4.mp z) (nodup_take h.nd hy)
      · rw [W_sPass]
        exact ⟨_, _, rfl⟩
  rintro env b ⟨a, n, rfl⟩
  rw [Nx_nx, W_sAnd, W_sOwnF]
  simp only [W_xA, xL_cons, xL_nil, W_xCons, W_xNil, W_xV]
  refine W_xLcT cs (fun c => .lst (c.map en)) (fun c => .tup (c.map en)) ?_
  rw [W_iOf, W_xV]
  refine ⟨_, rfl, rfl, by unfold lim; omega, fun x hx => ⟨_, rfl, fun b => ?_⟩, _, rfl, [], rfl, Nat.le_refl 0, ?_⟩
  · simp only [W_xA, W_xCons, W_xNil, W_xV]
    exact ⟨_, rfl, rfl, trivial⟩
  rw [Nx_nx, W_sAnd, W_sOwnF]
  simp only [W_xA, xL_cons, xL_nil, W_xCons, W_xNil, W_xV]
  refine ⟨_, hsd.tup, _, rfl, Nat.le_refl 1, ?_⟩
  rw [Nx_nx, W_sAnd, W_sOwnF]
  simp only [W_xA, xL_cons, xL_nil, W_xCons, W_xNil, W_xV]
  refine ⟨_, rfl, _, rfl, Nat.le_refl 2, ?_⟩
  rw [Nx_nx, W_sOwnF]
  simp only [W_xA, xL_cons, xL_nil, W_xCons, W_xNil, W_xV]
  refine ⟨_, rfl, _, rfl, Nat.le_refl 3, ?_⟩
  exact W_ret.mpr rfl
end Pl
end
section
set_option linter.all false
/-! PLAIN: numberings (restricted growth). -/
namespace Pl
open Z M En
theorem made_spec {cs : List (List St)} {sh : List Tx} (h : PatOk cs sh) : Pv Zp.f__law_made [.tup [en2 cs, .lst (sh.map en)]] (patD cs sh) := by
  intro b
  have hcl := cs_len h.ce
  have h5 := h.l5
  unfold Zp.f__law_made runD
  rw [W_bnd]
  unfold Zp.s__law_made
  rw [W_sRet, W_bnd]
  simp only [xL_cons, xL_nil, W_xCons, W_xNil]
  refine W_xLcT cs (fun c => .lst (c.map en)) (fun c => .lst (c.map en)) ?_
  simp only [W_iOf, W_x2, W_xV, W_xC]
  refine ⟨_, rfl, _, rfl, rfl, by unfold lim; omega, fun x hx => ⟨_, rfl, fun b => ?_⟩, ?_⟩
  · simp only [W_xA, xL_cons, xL_nil, W_xCons, W_xNil, W_xV]
    exact ⟨_, rfl, rfl, trivial⟩
  simp only [W_bnd, W_xA, xL_cons, xL_nil, W_xCons, W_xNil, W_x2, W_xV, W_xC, W_pureC]
  refine ⟨_, rfl, _, rfl, ?_⟩
  exact ((init_spec h (.inl rfl)) _).mono fun d _ e => W_ret.mpr e
def tp (xs : List Nat) : Nat := xs.foldl (fun t x => max t (x + 1)) 0
theorem tp_snoc (xs : List Nat) (m : Nat) : tp (xs ++ [m]) = max (tp xs) (m + 1) := by
  unfold tp
  rw [List.foldl_append]
  rfl
/-- each number is at most one above those ahead of it -/
def Rg (xs : List Nat) : Prop := ∀ i x, xs[i]? = some x → x ≤ tp (xs.take i)
theorem Rg.nil : Rg [] := fun i x h => by simp at h
theorem Rg.snoc {xs : List Nat} (h : Rg xs) {m : Nat} (hm : m ≤ tp xs) : Rg (xs ++ [m]) := by
  intro i x hx
  by_cases c : i < xs.length
  · rw [List.getElem?_append_left c] at hx
    rw [List.take_append_of_le_length (by omega)]
    exact h i x hx
  · have hi : i = xs.length := by
      have := (List.getElem?_eq_some_iff.mp hx).1
      simp at this
      omega
    subst hi
    rw [List.getElem?_append_right (Nat.le_refl _)] at hx
    simp at hx
    subst hx
    rw [List.take_append_of_le_length (Nat.le_refl _), List.take_length]
    exact hm
theorem Rg.mem_take {xs : List Nat} (h : Rg xs) : ∀ n, n ≤ xs.length → ∀ x, x ∈ xs.take n ↔ x < tp (xs.take n)
  | 0, _, x => by simp [tp]
  | n + 1, hn, x => by
    have ih := Rg.mem_take h n (by omega) x
    have hlt : n < xs.length := by omega
    have e : xs.take (n + 1) = xs.take n ++ [xs[n]] := by
      rw [List.take_succ, List.getElem?_eq_getElem hlt]
      rfl
    have hy := h n xs[n] (List.getElem?_eq_getElem hlt)
    rw [e, tp_snoc, List.mem_append, List.mem_singleton, ih]
    omega
theorem Rg.mem {xs : List Nat} (h : Rg xs) (x : Nat) : x ∈ xs ↔ x < tp xs := by
  have := h.mem_take xs.length (Nat.le_refl _) x
  rwa [List.take_length] at this
theorem len_eq {α : Type} [DecidableEq α] {xs ys : List α} (h1 : xs.Nodup) (h2 : ys.Nodup) (h : ∀ x, x ∈ xs ↔ x ∈ ys) : xs.length = ys.length :=
  Nat.le_antisymm (len_le h1 fun x hx => (h x).mp hx) (len_le h2 fun x hx => (h x).mpr hx)
theorem Rg.dd_len {xs : List Nat} (h : Rg xs) : (dd xs).length = tp xs := by
  have := len_eq (nodup_dd xs) (List.nodup_range (n := tp xs)) fun x => by rw [mem_dd, h.mem, List.mem_range]
  rw [this, List.length_range]
theorem tp_le (xs : List Nat) (h : Rg xs) : tp xs ≤ xs.length := by
  rw [← h.dd_len]
  exact length_dd xs
/-- all numberings of k -/
def numbs : Nat → List (List Nat)
  | 0 => [[]]
  | k + 1 => (numbs k).flatMap fun one => (List.range (tp one + 1)).map fun m => one ++ [m]
theorem numbs_mem : ∀ {k : Nat} {xs : List Nat}, xs ∈ numbs k → Rg xs ∧ xs.length = k
  | 0, xs, h => by
    rw [numbs, List.mem_singleton] at h
    subst h
    exact ⟨.nil, rfl⟩
  | k + 1, xs, h => by
    rw [numbs, List.mem_flatMap] at h
    obtain ⟨one, h1, h2⟩ := h
    obtain ⟨m, hm, rfl⟩ := List.mem_map.mp h2
    obtain ⟨h3, h4⟩ := numbs_mem h1
    rw [List.mem_range] at hm
    exact ⟨h3.snoc (by omega), by rw [List.length_append, h4]; rfl⟩
theorem numbs_len : ∀ k, k ≤ 5 → (numbs k).length ≤ 6 ^ k ∧ 0 < (numbs k).length
  | 0, _ => by simp [numbs]
  | k + 1, hk => by
    obtain ⟨h1, h2⟩ := numbs_len k (by omega)
    have hb : ∀ one ∈ numbs k, tp one ≤ 5 := fun one ho => by
      obtain ⟨a1, a2⟩ := numbs_mem ho
      have := tp_le one a1
      omega
    have key : ∀ L : List (List Nat), (∀ one ∈ L, tp one ≤ 5) → (L.flatMap fun one => (List.range (tp one + 1)).map fun m => one ++ [m]).length ≤ 6 * L.length ∧ L.length ≤ (L.flatMap fun one => (List.range (tp one + 1)).map fun m => one ++ [m]).length := by
      intro L
      induction L with
      | nil => intro _; exact ⟨Nat.le_refl _, Nat.le_refl _⟩
      | cons x r ih =>
        intro hL
        obtain ⟨i1, i2⟩ := ih fun o ho => hL o (List.mem_cons_of_mem _ ho)
        have := hL x List.mem_cons_self
        rw [List.flatMap_cons, List.length_append, List.length_map, List.length_range, List.length_cons]
        omega
    obtain ⟨k1, k2⟩ := key (numbs k) hb
    rw [numbs]
    have : 6 ^ (k + 1) = 6 * 6 ^ k := by rw [Nat.pow_succ]; omega
    omega
abbrev tD (xs : List Nat) : D := .tup (xs.map en)
theorem flat_take_map {α β : Type} (f : α → List β) (k : Nat) (xs : List α) : ((xs.take k).flatMap f).length ≤ (xs.flatMap f).length := by
  have e : xs.flatMap f = (xs.take k).flatMap f ++ (xs.drop k).flatMap f := by
    rw [← List.flatMap_append, List.take_append_drop]
  rw [e, List.length_append]
  omega
theorem numberings_spec {k : Nat} (hk : k ≤ 5) : Pv Zp.f__law_numberings [.int k] (.lst ((numbs k).map tD)) := by
  intro b
  have h6 : ∀ j, j ≤ 5 → 6 ^ j ≤ 7776 := fun j hj => Nat.le_trans (Nat.pow_le_pow_right (by omega) hj) (by decide)
  unfold Zp.f__law_numberings runD
  rw [W_bnd]
  unfold Zp.s__law_numberings
  rw [W_sAnd, W_sSet]
  simp only [W_xLst, W_xTup, xL_cons, xL_nil, W_xCons, W_xNil]
  refine ⟨_, rfl, ?_⟩
  rw [Nx_nx, W_sAnd]
  refine W_sFor ?_
  rw [W_iRng1, W_xV]
  refine ⟨k, rfl, by unfold lim; omega, fun i env b => ∃ a l o : D, env = [.int k, .lst ((numbs i).map tD), a, l, o, .non], ⟨.non, .non, .non, rfl⟩, ?_, ?_⟩
  · rintro i d env b hd ⟨a, l, o, rfl⟩
    have hi := rng_lt hd
    obtain ⟨n1, _⟩ := numbs_len i (by omega)
    obtain ⟨n2, _⟩ := numbs_len (i + 1) (by omega)
    have b1 := h6 i (by omega)
    have b2 := h6 (i + 1) (by omega)
    refine ⟨_, rfl, ?_⟩
    rw [W_sAnd, W_sSet]
    simp only [W_xLst, xL_nil, W_xNil]
    refine ⟨_, rfl, ?_⟩
    rw [Nx_nx, W_sAnd]
    refine W_sFor ?_
    rw [W_iOf, W_xV]
    refine ⟨_, rfl, fun j env b => ∃ o : D, env = [.int k, .lst ((numbs i).map tD), d, .lst ((((numbs i).take j).flatMap fun one => (List.range (tp one + 1)).map fun m => one ++ [m]).map tD), o, .non], ⟨o, rfl⟩, ?_, ?_⟩
    · rintro j d2 env b hd2 ⟨o, rfl⟩
      rw [List.getElem?_map] at hd2
      obtain ⟨one, hone, rfl⟩ := Option.map_eq_some_iff.mp hd2
      have mone := List.mem_of_getElem? hone
      obtain ⟨rg, rl⟩ := numbs_mem mone
      have htp := tp_le one rg
      have hfl : (((numbs i).take j).flatMap fun one => (List.range (tp one + 1)).map fun m => one ++ [m]).length ≤ lim := by
        have := flat_take_map (fun one : List Nat => (List.range (tp one + 1)).map fun m => one ++ [m]) j (numbs i)
        have e : ((numbs i).flatMap fun one => (List.range (tp one + 1)).map fun m => one ++ [m]) = numbs (i + 1) := rfl
        rw [e] at this
        unfold lim
        omega
      refine ⟨_, rfl, ?_⟩
      rw [W_sSet, W_x2, W_xV]
      refine W_xLcT (List.range (tp one + 1)) (fun m => .int m) (fun m => tD (one ++ [m])) ?_
      rw [W_iRng1]
      simp only [W_x2, W_x1, W_xA, xL_cons, xL_nil, W_xCons, W_xNil, W_xV, W_xC]
      refine ⟨_, oSetT_en (α := Nat) one (by omega), .int (tp one), ?_, _, oAdd_i, (tp one : Int) + 1, rfl, by unfold lim; omega, ?_, by rw [List.length_range]; unfold lim; omega, fun m hm => ⟨_, rfl, fun b => ?_⟩, ?_⟩
      · show some (D.int ((dd one).map en).length) = _
        rw [List.length_map, rg.dd_len]
      · have : (tp one : Int) + 1 = ((tp one + 1 : Nat) : Int) := by omega
        rw [this, rng0]
      · simp only [W_x2, W_xV, W_xTup, xL_cons, xL_nil, W_xCons, W_xNil]
        refine ⟨_, ?_, rfl, trivial⟩
        show (if (one.map en).length ≤ lim ∧ _ then _ else _) = _
        rw [if_pos ⟨by rw [List.length_map]; unfold lim; omega, by show 1 ≤ lim; unfold lim; omega⟩]
        unfold tD
        rw [List.map_append]
        rfl
      · refine ⟨_, oAdd_lst (by rw [List.length_map]; exact hfl) (by rw [List.length_map, List.length_range]; unfold lim; omega), _, rfl, tD one, ?_⟩
        have : (numbs i).take (j + 1) = (numbs i).take j ++ [one] := by rw [List.take_succ, hone]; rfl
        rw [this, List.flatMap_append]
        simp
    · rintro env b ⟨o, rfl⟩
      rw [List.length_map, List.take_length, Nx_nx, W_sSet, W_xV]
      exact ⟨_, rfl, _, _, _, rfl⟩
  · rintro env b ⟨a, l, o, rfl⟩
    rw [rng_len, Nx_nx, W_sRet, W_xV]
    exact W_ret.mpr rfl
theorem numbering_spec {xs : List Nat} (h : Rg xs) {n : Nat} (hl : xs.length = n) (h5 : n ≤ 1000) : Pv Zp.f_is_numbering [tD xs, .int n] (.bl true) := by
  intro b
  unfold Zp.f_is_numbering runD
  rw [W_bnd]
  unfold Zp.s_is_numbering
  rw [W_sAnd, W_sIf]
  simp only [W_xOr, W_xNot, W_x1, W_x2, W_xA, xL_cons, xL_nil, W_xCons, W_xNil, W_xV]
  refine ⟨_, rfl, true, rfl, false, rfl, (fun z => by cases z), fun _ => ⟨_, rfl, _, oNe_i, _, rfl, fun z => ?_, fun _ => ?_⟩⟩
  · rw [List.length_map, hl] at z
    simp at z
  rw [W_sPass, Nx_nx, W_sAnd, W_sSet]
  simp only [W_x1, W_xC]
  refine ⟨_, rfl, _, rfl, ?_⟩
  rw [Nx_nx, W_sAnd]
  refine W_sFor ?_
  rw [W_iOf, W_xV]
  refine ⟨_, rfl, fun i env b => ∃ o : D, env = [tD xs, .int n, .int ((tp (xs.take i) : Int) - 1), o], ⟨.non, rfl⟩, ?_, ?_⟩
  · rintro i d env b hd ⟨o, rfl⟩
    rw [List.getElem?_map] at hd
    obtain ⟨x, hx, rfl⟩ := Option.map_eq_some_iff.mp hd
    have hxt := h i x hx
    refine ⟨_, rfl, ?_⟩
    rw [W_sAnd, W_sIf]
    simp only [W_xOr, W_xNot, W_x1, W_x2, W_xCh, W_xV, W_xC]
    refine ⟨_, rfl, true, rfl, false, rfl, (fun z => by cases z), fun _ => ⟨_, rfl, false, rfl, (fun z => by cases z), fun _ => ⟨decide ((0 : Int) ≤ (x : Int)), rfl, fun _ => ⟨_, oAdd_i, _, oLe_i, _, rfl, _, rfl, fun z => ?_, fun _ => ?_⟩, fun z => ?_⟩⟩⟩
    · simp at z
      omega
    · rw [W_sPass, Nx_nx, W_sSet]
      simp only [W_xA, xL_cons, xL_nil, W_xCons, W_xNil, W_xV]
      refine ⟨_, rfl, _, rfl, en x, ?_⟩
      have e : xs.take (i + 1) = xs.take i ++ [x] := by rw [List.take_succ, hx]; rfl
      have e2 : (if (x : Int) > (tp (xs.take i) : Int) - 1 then (x : Int) else (tp (xs.take i) : Int) - 1) = (tp (xs.take (i + 1)) : Int) - 1 := by
        rw [e, tp_snoc]
        split <;> omega
      show [tD xs, D.int n, D.int (if (x : Int) > (tp (xs.take i) : Int) - 1 then (x : Int) else (tp (xs.take i) : Int) - 1), en x] = _
      rw [e2]
    · simp at z
  · rintro env b ⟨o, rfl⟩
    rw [Nx_nx, W_sRet, W_xC]
    exact W_ret.mpr rfl
end Pl
end
section
set_option linter.all false
/-! PLAIN: graphs. -/
namespace Pl
open Z M En
def nt (k : Nat) : Tx := 'n' :: strI k
theorem nt_facts : ∀ k : Nat, k ≤ 9 → (strI k).length = 1 ∧ (∀ c ∈ strI k, c ∈ ['0', '1', '2', '3', '4', '5', '6', '7', '8', '9']) := by decide
theorem nt_inj {j k : Nat} (hj : j ≤ 9) (hk : k ≤ 9) (h : nt j = nt k) : j = k := by
  have : ∀ j : Nat, j ≤ 9 → ∀ k : Nat, k ≤ 9 → nt j = nt k → j = k := by decide
  exact this j hj k hk h
theorem fmt_nt {k : Nat} (h : k ≤ 9) : oFmt ['n'] (.int k) = some (.str (nt k)) := by
  show (if (k : Int).natAbs < 1000000 ∧ (strI k).length ≤ 1000 then some (D.str (['n'] ++ strI k)) else none) = _
  rw [if_pos ⟨by omega, by rw [(nt_facts k h).1]; omega⟩]
  rfl
theorem str_nt {k : Nat} (h : k ≤ 9) : oStr (.int k) = some (.str (strI k)) := by
  show (if (k : Int).natAbs < 1000000 then some (D.str (strI k)) else none) = _
  rw [if_pos (by omega)]
theorem add_nt {k : Nat} (h : k ≤ 9) : oAdd (.str ['n']) (.str (strI k)) = some (.str (nt k)) := by
  show (if ['n'].length + (strI k).length ≤ lim then some (D.str (['n'] ++ strI k)) else none) = _
  rw [if_pos (by rw [(nt_facts k h).1]; decide)]
  rfl
def Node (s : Tx) : Prop := (0 < s.length ∧ s.length ≤ 8) ∧ ∀ c ∈ s, c ∈ abc ++ ['0', '1', '2', '3', '4', '5', '6', '7', '8', '9']
theorem nt_node {k : Nat} (h : k ≤ 9) : Node (nt k) := by
  obtain ⟨h1, h2⟩ := nt_facts k h
  refine ⟨⟨Nat.succ_pos _, by show (strI k).length + 1 ≤ 8; omega⟩, fun c hc => ?_⟩
  rcases List.mem_cons.mp hc with z | z
  · rw [z]
    decide
  · exact List.mem_append_right _ (h2 c z)
theorem node_spec {s : Tx} (h : Node s) : Pv Zp.f_is_node [.str s] (.bl true) := by
  intro b
  obtain ⟨⟨h1, h2⟩, h3⟩ := h
  have hlim : s.length ≤ lim := by unfold lim; omega
  unfold Zp.f_is_node runD
  rw [W_bnd]
  unfold Zp.s_is_node
  simp only [W_sRet, W_xAnd, W_x1, W_xV, W_xCh, W_xC, W_xA, xL_cons, xL_nil, W_xCons, W_xNil]
  refine ⟨_, rfl, true, rfl, fun _ => ?_, fun z => by cases z⟩
  refine ⟨.int s.length, by show (if s.length ≤ lim then _ else _) = _; rw [if_pos hlim], ?_⟩
  refine ⟨_, oLt_i, fun _ => ⟨.bl true, ?_, true, rfl, fun _ => ?_, fun z => by cases z⟩, fun z => ?_⟩
  · rw [oLe_i, decide_eq_true (by omega)]
  · refine W_xLcT s (fun c => .str [c]) (fun _ => .bl true) ?_
    simp only [W_iOf, W_xV]
    refine ⟨_, rfl, rfl, hlim, fun c hc => ⟨_, rfl, fun b => ?_⟩, .bl true, ?_, W_ret.mpr rfl⟩
    · simp only [W_x2, W_xV, W_xC]
      refine ⟨.str (abc ++ ['0', '1', '2', '3', '4', '5', '6', '7', '8', '9']), rfl, .bl true, ?_, rfl, trivial⟩
      exact congrArg (fun t => some (D.bl t)) (decide_eq_true (h3 c hc))
    · exact all_true s
  · rw [decide_eq_false_iff_not] at z
    omega
structure EdgeOk (e : St) : Prop where
  s : Node e.1
  l : Lab e.2.1
  t : Node e.2.2
theorem edge_spec {e : St} (h : EdgeOk e) : Pv Zp.f_is_edge [en e] (.bl true) := by
  intro b
  unfold Zp.f_is_edge runD
  rw [W_bnd]
  unfold Zp.s_is_edge
  rw [W_sAnd, W_sIf]
  simp only [W_xOr, W_xNot, W_x1, W_x2, W_xA, xL_cons, xL_nil, W_xCons, W_xNil, W_xV, W_xC]
  refine ⟨_, rfl, true, rfl, false, rfl, (fun z => by cases z), fun _ => ⟨_, rfl, _, oNe_i, _, rfl, (fun z => by cases z), fun _ => ?_⟩⟩
  rw [W_sPass, Nx_nx, W_sRet]
  simp only [W_xAnd, W_xQ, W_xApp, W_x2, xL_cons, xL_nil, W_xCons, W_xNil, W_xV, W_xC, List.append_nil]
  refine ⟨_, rfl, ((node_spec h.s) _).mono fun d b' e1 => ?_⟩
  subst e1
  refine ⟨true, rfl, fun _ => ⟨_, rfl, ((label_spec h.l) _).mono fun d b' e1 => ?_⟩, fun z => by cases z⟩
  subst e1
  refine ⟨true, rfl, fun _ => ⟨_, rfl, ((node_spec h.t) _).mono fun d b' e1 => ?_⟩, fun z => by cases z⟩
  subst e1
  exact W_ret.mpr rfl
theorem check_spec {E : List St} (h : ∀ e ∈ E, EdgeOk e) : Pv Zp.f_check_edges [.lst (E.map en)] .non := by
  intro b
  unfold Zp.f_check_edges runD
  rw [W_bnd]
  unfold Zp.s_check_edges
  refine W_sFor ?_
  rw [W_iEnum, W_xV]
  refine ⟨_, rfl, fun i env b => ∃ a c, env = [.lst (E.map en), a, c], ⟨_, _, rfl⟩, ?_, ?_⟩
  · rintro i d env b hd ⟨a, c, rfl⟩
    rw [enum_at] at hd
    obtain ⟨x, hx, rfl⟩ := Option.map_eq_some_iff.mp hd
    rw [List.getElem?_map] at hx
    obtain ⟨y, hy, rfl⟩ := Option.map_eq_some_iff.mp hx
    refine ⟨_, rfl, ?_⟩
    rw [W_sIf, W_xNot, W_xQ]
    simp only [W_xApp, xL_cons, xL_nil, W_xCons, W_xV, W_xNil, List.append_nil]
    refine ((edge_spec (h y (List.mem_of_getElem? hy))) _).mono fun d b' e => ?_
    subst e
    refine ⟨true, rfl, false, rfl, (fun z => by cases z), fun _ => ?_⟩
    rw [W_sPass]
    exact ⟨_, _, rfl⟩
  · rintro env b ⟨a, c, rfl⟩
    exact W_ret.mpr rfl
def endsOf (T : List St) : List Tx := T.map (·.1) ++ T.map (·.2.2)
theorem ends_spec {T : List St} (h : T.length ≤ 1000) : Pv Zp.f_ends_of [.lst (T.map en)] (.lst ((endsOf T).map en)) := by
  intro b
  unfold Zp.f_ends_of runD
  rw [W_bnd]
  unfold Zp.s_ends_of
  rw [W_sRet, W_x2]
  refine W_xLcT T en (fun s => en s.1) ?_
  rw [W_iOf, W_xV]
  refine ⟨_, rfl, rfl, by unfold lim; omega, fun x hx => ⟨_, rfl, fun b => ?_⟩, ?_⟩
  · rw [W_xV]
    exact ⟨rfl, rfl⟩
  refine W_xLcT T en (fun s => en s.2.2) ?_
  rw [W_iOf, W_xV]
  refine ⟨_, rfl, rfl, by unfold lim; omega, fun x hx => ⟨_, rfl, fun b => ?_⟩, ?_⟩
  · rw [W_xV]
    exact ⟨rfl, rfl⟩
  refine ⟨_, oAdd_lst (by rw [List.length_map]; unfold lim; omega) (by rw [List.length_map]; unfold lim; omega), ?_⟩
  refine W_ret.mpr (show D.lst _ = D.lst _ from ?_)
  unfold endsOf
  rw [List.map_append, List.map_map, List.map_map]
  rfl
def triT (E : List St) : List St := srt (dd E)
def poiT (E : List St) : List Tx := srt (dd (endsOf (triT E)))
def grD (E : List St) : D := .ins 1 [.lst ((triT E).map en), .lst ((poiT E).map en)]
theorem endsOf_len (T : List St) : (endsOf T).length = 2 * T.length := by
  unfold endsOf
  rw [List.length_append, List.length_map, List.length_map]
  omega
theorem triT_len (E : List St) : (triT E).length ≤ E.length := by
  unfold triT
  rw [length_srt]
  exact length_dd E
theorem poiT_len (E : List St) : (poiT E).length ≤ 2 * E.length := by
  unfold poiT
  rw [length_srt]
  have h1 := length_dd (endsOf (triT E))
  have h2 := triT_len E
  rw [endsOf_len] at h1
  omega
theorem ginit_spec {E : List St} (h : ∀ e ∈ E, EdgeOk e) (hl : E.length ≤ 60) : Pv Zp.f_Graph_init [.lst (E.map en), .tup []] (grD E) := by
  intro b
  have ht := triT_len E
  unfold Zp.f_Graph_init runIn
  rw [W_bnd]
  unfold Zp.s_Graph_init
  rw [W_sAnd, W_sDo, W_xQ]
  simp only [W_xApp, xL_cons, xL_nil, W_xCons, W_xV, W_xNil, List.append_nil]
  refine ((check_spec h) _).mono fun d b' e => ?_
  rw [Nx_nx, W_sAnd]
  refine W_sFor ?_
  rw [W_iOf, W_xV]
  refine ⟨[], rfl, fun i env b => env = [.ins 1 [], .lst (E.map en), .tup [], .non], rfl, ?_, ?_⟩
  · intro i d env b hd
    simp at hd
  rintro env b rfl
  rw [Nx_nx, W_sAnd, W_sOwnF]
  simp only [W_x1, W_xA, xL_cons, xL_nil, W_xCons, W_xV, W_xNil]
  have hd60 : (dd E).length ≤ lim := by
    have := length_dd E
    unfold lim
    omega
  refine ⟨_, oSet3 E hl, _, oSortS3 _ hd60, [], rfl, Nat.le_refl 0, ?_⟩
  rw [Nx_nx, W_sOwnF]
  simp only [W_x1, W_xA, xL_cons, xL_nil, W_xCons, W_xV, W_xNil, W_xLstG, W_xStar, W_xQ, W_xApp, W_xOwnF, List.append_nil]
  refine ⟨_, _, rfl, rfl, ((ends_spec (T := triT E) (by omega)) _).mono fun d b' e => ?_⟩
  subst e
  have hel := endsOf_len (triT E)
  refine ⟨_, rfl, [], rfl, by rw [List.append_nil, List.length_map]; unfold lim; omega, ?_⟩
  rw [List.append_nil]
  have hdl := length_dd (endsOf (triT E))
  refine ⟨_, oSet_en (α := Tx) _ (by omega), _, oSortS_en _ (by unfold lim; omega), _, rfl, Nat.le_refl 1, ?_⟩
  exact W_ret.mpr rfl
end Pl
end
section
set_option linter.all false
set_option maxRecDepth 100000
/-! PLAIN: nodes, edges drawn. -/
namespace Pl
open Z M En
def s36 : Tx := ['0', '1', '2', '3', '4', '5', '6', '7', '8', '9', 'a', 'b', 'c', 'd', 'e', 'f', 'g', 'h', 'i', 'j', 'k', 'l', 'm', 'n', 'o', 'p', 'q', 'r', 's', 't', 'u', 'v', 'w', 'x', 'y', 'z']
theorem wordV_spec {S : Tx} (hS0 : S ≠ []) (hS : S.length ≤ lim) {size n : Nat} {env : Sl} {b : Bag} {i j v : Nat} (he : env.getD i .non = .int size) (hv : ∀ d, (env.set j d).getD v .non = .str S) (h8 : size ≤ 8) (hb : Inv n b) (hn : n < 900000) {Q : D → Bag → Prop}
    (hq : ∀ s b', s.length = size → (∀ c ∈ s, c ∈ S) → Inv (n + size) b' → Q (.str s) b') : W (x2 oJoin (xC (.str [])) (xLc (iRng1 (xV i)) (gN j) xYes (xP Zp.f__law_of (xApp (xL [(xV v)]) []))) env) Q b := by
  rw [W_x2, W_xC]
  refine W_xLc ?_
  rw [W_iRng1, W_xV, he]
  refine ⟨size, rfl, by unfold lim; omega, fun m acc b => ∃ s : Tx, acc = s.map (fun c => .str [c]) ∧ s.length = m ∧ (∀ c ∈ s, c ∈ S) ∧ Inv (n + m) b, ⟨[], rfl, rfl, by simp, hb⟩, ?_, ?_⟩
  · rintro m d acc b hd ⟨s, rfl, hl, hs, hb⟩
    have hm := rng_lt hd
    refine ⟨_, rfl, ?_⟩
    simp only [xYes, W_xC]
    refine ⟨true, rfl, fun _ => ?_, fun z => by cases z⟩
    simp only [W_xP, W_xApp, xL_cons, xL_nil, W_xCons, W_xV, W_xNil, List.append_nil]
    rw [hv]
    refine (ofS_spec hS0 hS hb (by omega)).mono fun d b' ⟨⟨c, hc, e⟩, ib⟩ => ?_
    subst e
    refine ⟨by rw [List.length_map]; unfold lim; omega, s ++ [c], by simp, by simp [hl], ?_, ib⟩
    intro x hx
    rcases List.mem_append.mp hx with z | z
    · exact hs x z
    · rw [List.mem_singleton.mp z]
      exact hc
  · rintro acc b ⟨s, rfl, hl, hs, hb⟩
    have hl2 : s.length = size := by
      rw [hl, rng_len]
    refine ⟨.str s, ?_, hq s b hl2 hs ?_⟩
    · show ((strL (s.map fun c => .str [c])).bind _) = _
      have : (s.map fun c => D.str [c]) = (s.map fun c => [c]).map .str := by simp
      rw [this, strL_map]
      simp only [Option.bind_some, joinS_nil]
      rw [if_pos]
      · rw [flat_one]
      · have : ∀ s : Tx, (List.map List.length (s.map fun c => [c])).sum = s.length := by
          intro s
          induction s with
          | nil => rfl
          | cons x r ih =>
            rw [List.map_cons, List.map_cons, List.sum_cons, ih]
            simp
            omega
        rw [this]
        simp [lim]
        omega
    · rw [← hl2, hl]
      exact hb
theorem sign_free {xs : List Tx} (h : xs.length < 36) : ∃ c ∈ s36, [c] ∉ xs := by
  apply Classical.byContradiction
  intro hc
  have hsub : ∀ s ∈ s36.map (fun c => [c]), s ∈ xs := fun s hs => by
    obtain ⟨c, h1, rfl⟩ := List.mem_map.mp hs
    apply Classical.byContradiction
    intro z
    exact hc ⟨c, h1, z⟩
  have nd : (s36.map fun c => [c]).Nodup := by decide
  have := len_le nd hsub
  have e : (s36.map fun c => [c]).length = 36 := by decide
  omega
theorem s36_node {s : Tx} (h0 : 0 < s.length) (h8 : s.length ≤ 8) (h : ∀ c ∈ s, c ∈ s36) : Node s := by
  refine ⟨⟨h0, h8⟩, fun c hc => ?_⟩
  have : ∀ c ∈ s36, c ∈ abc ++ ['0', '1', '2', '3', '4', '5', '6', '7', '8', '9'] := by decide
  exact this c (h c hc)
theorem nodes_spec {many : Nat} (h : many ≤ 5) {n : Nat} {b : Bag} (hb : Inv n b) (hn : n < 800000) : W (Zp.f__law_nodes [.int many]) (fun d b' => ∃ xs : List Tx, d = .lst (xs.map .str) ∧ xs.length = many ∧ (∀ s ∈ xs, Node s) ∧ Inv (n + 9 * many) b') b := by
  unfold Zp.f__law_nodes runD
  rw [W_bnd]
  unfold Zp.s__law_nodes
  rw [W_sAnd]
  simp only [W_sPar, W_xC, W_xLst, xL_nil, W_xNil]
  rw [Nx_nx, W_sAnd]
  refine W_sFor ?_
  rw [W_iRng1, W_xV]
  refine ⟨many, rfl, by unfold lim; omega, fun i env b => ∃ (xs : List Tx) (t s nm : D), env = [.non, .int many, .str s36, .lst (xs.map .str), t, s, nm, .non, .non] ∧ xs.length = i ∧ (∀ s ∈ xs, Node s) ∧ Inv (n + 9 * i) b, ⟨[], .non, .non, .non, rfl, rfl, by simp, hb⟩, ?_, ?_⟩
  · rintro i d env b hd ⟨xs, t, s, nm, rfl, hl, hx, hb⟩
    have hm := rng_lt hd
    refine ⟨_, rfl, ?_⟩
    rw [W_sAnd]
    simp only [W_sSet, W_x2, W_xLst, xL_cons, xL_nil, W_xCons, W_xC, W_xNil, W_xP, W_xApp, List.append_nil, gN_eq]
    refine (take_spec (by omega) (by omega) hb (by omega)).mono fun d1 b1 ⟨k, e, k0, k1, hb1⟩ => ?_
    subst e
    have : ∃ size : Nat, oIx (.lst [.int 1, .int 1, .int 1, .int 2, .int 8]) (.int k) = some (.int size) ∧ size ≤ 8 ∧ 0 < size := by
      have : k = 0 ∨ k = 1 ∨ k = 2 ∨ k = 3 ∨ k = 4 := by omega
      rcases this with rfl | rfl | rfl | rfl | rfl
      · exact ⟨1, rfl, by omega, by omega⟩
      · exact ⟨1, rfl, by omega, by omega⟩
      · exact ⟨1, rfl, by omega, by omega⟩
      · exact ⟨2, rfl, by omega, by omega⟩
      · exact ⟨8, rfl, by omega, by omega⟩
    obtain ⟨size, es, h8, h0⟩ := this
    refine ⟨_, es, _, rfl, ?_⟩
    rw [Nx_nx, W_sAnd, W_sSet]
    refine wordV_spec (S := s36) (by decide) (by decide) (size := size) rfl (fun d => rfl) h8 hb1 (by omega) fun w b2 hw hc hb2 => ?_
    refine ⟨_, rfl, ?_⟩
    rw [Nx_nx, W_sAnd, W_sIf]
    simp only [W_x2, W_xV]
    have hi : Inv (n + 9 * (i + 1)) b2 := hb2.mono (by omega)
    refine ⟨_, oIn_en (α := Tx) w xs, _, rfl, fun hw2 => ?_, fun hw2 => ?_⟩
    · rw [W_sSet, W_x2]
      refine W_xLc ?_
      rw [W_iOf, W_xV]
      refine ⟨_, rfl, fun m acc b => b = b2 ∧ ∃ s : Tx, acc = s.map (fun c => .str [c]) ∧ s = (s36.take m).filter (fun c => decide ([c] ∉ xs)), ⟨rfl, [], rfl, rfl⟩, ?_, ?_⟩
      · rintro m d acc b hd ⟨rfl, s, rfl, hs⟩
        rw [List.getElem?_map] at hd
        obtain ⟨c, hc, rfl⟩ := Option.map_eq_some_iff.mp hd
        refine ⟨_, rfl, ?_⟩
        simp only [W_x2, W_xV]
        have hl := List.length_filter_le (fun c => decide ([c] ∉ xs)) (s36.take m)
        have hl2 : (s36.take m).length ≤ 36 := Nat.le_trans (List.length_take_le' m s36) (by decide)
        have ht : s36.take (m + 1) = s36.take m ++ [c] := by
          rw [List.take_succ]
          have : s36[m]? = some c := hc
          rw [this]
          rfl
        refine ⟨_, oNotIn_en (α := Tx) [c] xs, _, rfl, fun hr => ?_, fun hr => ?_⟩
        · refine ⟨by rw [List.length_map, hs]; unfold lim; omega, trivial, s ++ [c], by simp, ?_⟩
          rw [ht, List.filter_append, ← hs]
          simp only [decide_eq_true_eq] at hr
          simp [hr]
        · refine ⟨trivial, s, rfl, ?_⟩
          rw [ht, List.filter_append, ← hs]
          simp only [decide_eq_false_iff_not] at hr
          simp at hr
          simp [hr]
      · rintro acc b ⟨rfl, s, rfl, hs⟩
        obtain ⟨c, c1, c2⟩ := sign_free (xs := xs) (by omega)
        have hs2 : s = s36.filter (fun c => decide ([c] ∉ xs)) := hs
        have hc : c ∈ s := by
          rw [hs2, List.mem_filter]
          exact ⟨c1, by simpa using c2⟩
        obtain ⟨c0, r, e⟩ : ∃ c0 r, s = c0 :: r := by
          cases s with
          | nil => cases hc
          | cons c0 r => exact ⟨c0, r, rfl⟩
        have hc0 : c0 ∈ s36 := by
          have : c0 ∈ s := by rw [e]; exact List.mem_cons_self
          rw [hs2, List.mem_filter] at this
          exact this.1
        subst e
        rw [W_xC]
        refine ⟨.str [c0], rfl, _, rfl, ?_⟩
        rw [Nx_nx, W_sApp, W_xV]
        refine ⟨xs.map .str, rfl, by rw [List.length_map]; unfold lim; omega, xs ++ [[c0]], _, _, _, by simp; exact ⟨rfl, rfl, rfl⟩, by simp [hl], fun s hs => ?_, hi⟩
        rcases List.mem_append.mp hs with z | z
        · exact hx s z
        · rw [List.mem_singleton.mp z]
          exact s36_node Nat.one_pos (show 1 ≤ 8 by decide) (fun c hc => by rw [List.mem_singleton.mp hc]; exact hc0)
    · rw [W_sPass, Nx_nx, W_sApp, W_xV]
      refine ⟨xs.map .str, rfl, by rw [List.length_map]; unfold lim; omega, xs ++ [w], _, _, _, by simp; exact ⟨rfl, rfl, rfl⟩, by simp [hl], fun s hs => ?_, hi⟩
      rcases List.mem_append.mp hs with z | z
      · exact hx s z
      · rw [List.mem_singleton.mp z]
        exact s36_node (by omega) (by omega) hc
  · rintro env b ⟨xs, t, s, nm, rfl, hl, hx, hb⟩
    rw [Nx_nx, W_sRet, W_xV]
    rw [rng_len] at hb hl
    exact W_ret.mpr ⟨xs, rfl, hl, hx, hb⟩
theorem edges_spec {many : Nat} (h : many ≤ 6) {ns ls : List Tx} (hns : ns ≠ []) (hls : ls ≠ []) (hn1 : ns.length ≤ 100) (hl1 : ls.length ≤ 100) {n : Nat} {b : Bag} (hb : Inv n b) (hn : n < 800000) :
    W (Zp.f__law_edges [.lst (ns.map en), .lst (ls.map en), .int many]) (fun d b' => ∃ E : List St, d = .lst (E.map en) ∧ E.length ≤ many ∧ E.Nodup ∧ (∀ e ∈ E, e.1 ∈ ns ∧ e.2.1 ∈ ls ∧ e.2.2 ∈ ns) ∧ Inv (n + 3 * many) b') b := by
  unfold Zp.f__law_edges runD
  rw [W_bnd]
  unfold Zp.s__law_edges
  rw [W_sAnd, W_sSet, W_xLst, xL_nil, W_xNil]
  refine ⟨_, rfl, ?_⟩
  rw [Nx_nx, W_sAnd]
  refine W_sFor ?_
  rw [W_iRng1, W_xV]
  refine ⟨many, rfl, by unfold lim; omega, fun i env b => ∃ (E : List St) (t e : D), env = [.non, .lst (ns.map en), .lst (ls.map en), .int many, .lst (E.map en), t, e] ∧ E.length ≤ i ∧ E.Nodup ∧ (∀ e ∈ E, e.1 ∈ ns ∧ e.2.1 ∈ ls ∧ e.2.2 ∈ ns) ∧ Inv (n + 3 * i) b, ⟨[], .non, .non, rfl, Nat.le_refl 0, List.nodup_nil, by simp, hb⟩, ?_, ?_⟩
  · rintro i d env b hd ⟨E, t, e, rfl, hl, nd, hx, hb⟩
    have hm := rng_lt hd
    refine ⟨_, rfl, ?_⟩
    rw [W_sAnd, W_sSet]
    simp only [W_xTup, xL_cons, xL_nil, W_xCons, W_xNil, W_xP, W_xApp, W_xV, List.append_nil]
    refine (of_en (xs := ns) hns (by unfold lim; omega) hb (by omega)).mono fun d1 b1 ⟨⟨s, s1, e1⟩, i1⟩ => ?_
    refine (of_en (xs := ls) hls (by unfold lim; omega) i1 (by omega)).mono fun d2 b2 ⟨⟨l, l1, e2⟩, i2⟩ => ?_
    refine (of_en (xs := ns) hns (by unfold lim; omega) i2 (by omega)).mono fun d3 b3 ⟨⟨t, t1, e3⟩, i3⟩ => ?_
    subst e1 e2 e3
    refine ⟨_, rfl, ?_⟩
    rw [Nx_nx, W_sIf, W_x2, W_xV, W_xV]
    obtain ⟨r, hr, hr2⟩ := oIn3_ex ((s, l, t) : St) E
    refine ⟨.bl (!r), ?_, !r, rfl, fun z => ?_, fun z => ?_⟩
    · show (oIn (en ((s, l, t) : St)) (.lst (E.map en))).bind notB = _
      rw [hr]
      rfl
    · have hr3 : r = false := by simpa using z
      have hnin : ((s, l, t) : St) ∉ E := fun m => by
        rw [hr2.mpr m] at hr3
        cases hr3
      rw [W_sApp, W_xV]
      refine ⟨E.map en, rfl, by rw [List.length_map]; unfold lim; omega, E ++ [(s, l, t)], d, _, by simp; exact ⟨rfl, rfl⟩, by rw [List.length_append]; show _ + 1 ≤ _; omega, ?_, fun x hx' => ?_, i3.mono (by omega)⟩
      · rw [List.nodup_append]
        exact ⟨nd, (by simp), fun a ha b hb' => by
          rw [List.mem_singleton.mp hb']
          rintro rfl
          exact hnin ha⟩
      · rcases List.mem_append.mp hx' with z | z
        · exact hx x z
        · rw [List.mem_singleton.mp z]
          exact ⟨s1, l1, t1⟩
    · rw [W_sPass]
      exact ⟨E, d, _, rfl, by omega, nd, hx, i3.mono (by omega)⟩
  · rintro env b ⟨E, t, e, rfl, hl, nd, hx, hb⟩
    rw [rng_len] at hl hb
    rw [Nx_nx, W_sRet, W_xV]
    exact W_ret.mpr ⟨E, rfl, hl, nd, hx, hb⟩
end Pl
end
section
set_option linter.all false
set_option maxRecDepth 100000
/-! PLAIN: groups; == of data. -/
namespace Pl
open Z M En
mutual
theorem eqD_refl : ∀ {d : D}, pln d = true → eqD d d = true
  | .non, _ => rfl
  | .bl b, _ => by simp [eqD]
  | .int i, _ => by simp [eqD]
  | .str s, _ => by simp [eqD]
  | .lst xs, h => by
    show eqL xs xs = true
    exact eqL_refl (by simpa [pln] using h)
  | .tup xs, h => by
    show eqL xs xs = true
    exact eqL_refl (by simpa [pln] using h)
  | .dct _, h => by simp [pln] at h
  | .set _, h => by simp [pln] at h
  | .ins _ _, h => by simp [pln] at h
  | .ftp _, h => by simp [pln] at h
  | .scr _, h => by simp [pln] at h
theorem eqL_refl : ∀ {xs : List D}, plnL xs = true → eqL xs xs = true
  | [], _ => rfl
  | x :: r, h => by
    simp only [plnL, Bool.and_eq_true] at h
    simp only [eqL, Bool.and_eq_true]
    exact ⟨eqD_refl h.1, eqL_refl h.2⟩
end
theorem oEq_same {d : D} (h : shp d = true) : oEq d d = some (.bl true) := by
  rw [oEq_lst h h, eqD_refl (by unfold shp at h; exact (Bool.and_eq_true_iff.mp h).1)]
theorem oNe_same {d : D} (h : shp d = true) : oNe d d = some (.bl false) := by
  rw [oNe_lst h h, eqD_refl (by unfold shp at h; exact (Bool.and_eq_true_iff.mp h).1)]
  rfl
theorem plnL_map {α : Type} {f : α → D} (h : ∀ a, pln (f a) = true) : ∀ xs : List α, plnL (xs.map f) = true
  | [] => rfl
  | x :: r => by
    show (pln (f x) && plnL (r.map f)) = true
    rw [h x, plnL_map h r]
    rfl
theorem depL_map {α : Type} {f : α → D} {n : Nat} (h : ∀ a, dep (f a) ≤ n) : ∀ xs : List α, depL (xs.map f) ≤ n
  | [] => Nat.zero_le _
  | x :: r => by
    show max (dep (f x)) (depL (r.map f)) ≤ n
    have := h x
    have := depL_map h r
    omega
theorem shp_tup2 (cs : List (List St)) : shp (.tup (cs.map fun c => .tup (c.map en))) = true := by
  have p1 : ∀ c : List St, pln (.tup (c.map en)) = true := fun c => plnL_map (fun a => (pln3 a).1) c
  have d1 : ∀ c : List St, dep (.tup (c.map en)) ≤ 2 := fun c => by
    show depL (c.map en) + 1 ≤ 2
    have := depL_map (f := en) (n := 1) (fun a : St => by rw [(pln3 a).2.1]; exact Nat.le_refl 1) c
    omega
  show (plnL (cs.map fun c => .tup (c.map en)) && decide (depL (cs.map fun c => .tup (c.map en)) + 1 ≤ 60)) = true
  have := depL_map d1 cs
  rw [plnL_map p1 cs, decide_eq_true (by omega)]
  rfl
/-- the steps at whose place stands n -/
def grp (ss : List St) (xs : List Nat) (n : Nat) : List St := ((ss.zip xs).filter fun p => decide (p.2 = n)).map (·.1)
def groupT (ss : List St) (xs : List Nat) : List (List St) := (List.range (tp xs)).map (grp ss xs)
theorem grp_mem {ss : List St} {xs : List Nat} {n : Nat} {s : St} (h : s ∈ grp ss xs n) : s ∈ ss := by
  unfold grp at h
  obtain ⟨p, hp, rfl⟩ := List.mem_map.mp h
  exact (List.of_mem_zip (List.mem_filter.mp hp).1).1
theorem grp_ne {ss : List St} {xs : List Nat} (hl : xs.length = ss.length) (rg : Rg xs) {n : Nat} (h : n < tp xs) : grp ss xs n ≠ [] := by
  obtain ⟨i, hi⟩ := List.getElem?_of_mem ((rg.mem n).mpr h)
  have il := (List.getElem?_eq_some_iff.mp hi).1
  have hz : (ss.zip xs)[i]? = some (ss[i], n) := by
    rw [List.getElem?_zip_eq_some]
    exact ⟨List.getElem?_eq_getElem (by omega), hi⟩
  have hm : (ss[i], n) ∈ (ss.zip xs).filter fun p => decide (p.2 = n) := List.mem_filter.mpr ⟨List.mem_of_getElem? hz, by simp⟩
  intro e
  have : ss[i] ∈ grp ss xs n := List.mem_map.mpr ⟨_, hm, rfl⟩
  rw [e] at this
  cases this
theorem filt_range {α : Type} {zs : List (α × Nat)} : ∀ {t : Nat}, (∀ p ∈ zs, p.2 < t) → ((List.range t).flatMap fun n => zs.filter fun p => decide (p.2 = n)).Perm zs := by
  intro t h
  induction zs with
  | nil => simp
  | cons p zs ih =>
    have ih := ih fun q hq => h q (List.mem_cons_of_mem _ hq)
    have hp := h p List.mem_cons_self
    have key : ∀ L : List Nat, L.Nodup → p.2 ∈ L → (L.flatMap fun n => (p :: zs).filter fun q => decide (q.2 = n)).Perm (p :: L.flatMap fun n => zs.filter fun q => decide (q.2 = n)) := by
      intro L nd hm
      induction L with
      | nil => cases hm
      | cons n L ihL =>
        obtain ⟨n1, n2⟩ := List.nodup_cons.mp nd
        rw [List.flatMap_cons, List.flatMap_cons]
        by_cases e : p.2 = n
        · rw [List.filter_cons_of_pos (by simpa using e)]
          have hL : (L.flatMap fun n => (p :: zs).filter fun q => decide (q.2 = n)) = L.flatMap fun n => zs.filter fun q => decide (q.2 = n) := by
            have : ∀ m ∈ L, ((p :: zs).filter fun q => decide (q.2 = m)) = zs.filter fun q => decide (q.2 = m) := fun m hm => by
              rw [List.filter_cons_of_neg]
              simp only [decide_eq_true_eq]
              rintro z
              rw [e] at z
              rw [z] at n1
              exact n1 hm
            rw [List.flatMap_def, List.flatMap_def, List.map_congr_left this]
          rw [hL]
          exact .refl _
        · rw [List.filter_cons_of_neg (by simpa using e)]
          have hm2 : p.2 ∈ L := by
            rcases List.mem_cons.mp hm with z | z
            · exact absurd z e
            · exact z
          exact ((ihL n2 hm2).append_left _).trans List.perm_middle
    exact (key (List.range t) List.nodup_range (List.mem_range.mpr hp)).trans (.cons p ih)
theorem group_perm {ss : List St} {xs : List Nat} (hl : xs.length = ss.length) (rg : Rg xs) : (groupT ss xs).flatten.Perm ss := by
  have h := filt_range (zs := ss.zip xs) (t := tp xs) fun p hp => (rg.mem p.2).mp (List.of_mem_zip hp).2
  have h2 := h.map (·.1)
  have e1 : (ss.zip xs).map (·.1) = ss := List.map_fst_zip (by omega)
  have e2 : ((List.range (tp xs)).flatMap fun n => (ss.zip xs).filter fun p => decide (p.2 = n)).map (·.1) = (groupT ss xs).flatten := by
    unfold groupT grp
    rw [List.map_flatMap, List.flatMap_def]
  rw [e1, e2] at h2
  exact h2
theorem used_perm {ss ss' : List St} (h : ss.Perm ss') : usedT ss = usedT ss' := by
  unfold usedT
  refine srt_perm ((List.perm_ext_iff_of_nodup (nodup_dd _) (nodup_dd _)).mpr fun x => ?_)
  rw [mem_dd, mem_dd]
  unfold namesOf
  rw [List.mem_flatMap, List.mem_flatMap]
  exact ⟨fun ⟨s, hs, hx⟩ => ⟨s, h.subset hs, hx⟩, fun ⟨s, hs, hx⟩ => ⟨s, h.symm.subset hs, hx⟩⟩
theorem group_ok {cs : List (List St)} {sh : List Tx} {xs : List Nat} (h : PatOk cs sh) (rg : Rg xs) (hl : xs.length = cs.flatten.length) : PatOk (groupT cs.flatten xs) sh := by
  have p := group_perm hl rg
  have eu := used_perm p
  have hne : cs.flatten ≠ [] := by
    intro e
    obtain ⟨c, r, ec⟩ := List.exists_cons_of_ne_nil h.ne
    obtain ⟨s, r2, es⟩ := List.exists_cons_of_ne_nil (h.ce c (by rw [ec]; exact List.mem_cons_self))
    have : s ∈ cs.flatten := List.mem_flatten.mpr ⟨c, by rw [ec]; exact List.mem_cons_self, by rw [es]; exact List.mem_cons_self⟩
    rw [e] at this
    cases this
  refine ⟨fun e => ?_, fun c hc => ?_, fun s hs => h.ok s (p.subset hs), by rw [p.length_eq]; exact h.l5, by rw [eu]; exact h.u5, h.nd, fun x hx => by rw [eu]; exact h.su x hx⟩
  · rw [e] at p
    exact hne p.symm.eq_nil
  · obtain ⟨n, hn, rfl⟩ := List.mem_map.mp hc
    exact grp_ne hl rg (List.mem_range.mp hn)
theorem max_tp {xs : List Nat} (hne : xs ≠ []) : oMaxS (tD xs) = some (.int ((tp xs : Int) - 1)) := by
  show (intsD (xs.map en)).bind (fun ns => if ns = [] then none else some (D.int (maxI ns))) = _
  have e : intsD (xs.map en) = some (xs.map fun (n : Nat) => (n : Int)) := by
    clear hne
    induction xs with
    | nil => rfl
    | cons x r ih =>
      show (intsD (r.map en)).map _ = _
      rw [ih]
      rfl
  have key : ∀ (r : List Nat) (m t : Nat), (m : Int) = (t : Int) - 1 → (r.map fun (n : Nat) => (n : Int)).foldl max (m : Int) = ((r.foldl (fun t x => max t (x + 1)) t : Nat) : Int) - 1 := by
    intro r
    induction r with
    | nil => exact fun m t h => h
    | cons y r ih =>
      intro m t h
      have := ih (max m y) (max t (y + 1)) (by omega)
      rw [List.map_cons, List.foldl_cons, List.foldl_cons, ← this]
      congr 1
      omega
  rw [e]
  cases xs with
  | nil => exact absurd rfl hne
  | cons x r =>
    show (if ((x :: r).map fun (n : Nat) => (n : Int)) = [] then none else some (D.int (maxI ((x :: r).map fun (n : Nat) => (n : Int))))) = _
    rw [if_neg (by simp)]
    have : maxI ((x :: r).map fun (n : Nat) => (n : Int)) = (tp (x :: r) : Int) - 1 := key r x (max 0 (x + 1)) (by omega)
    rw [this]
theorem range_tp (xs : List Nat) : rng 0 ((tp xs : Int) - 1 + 1) = (List.range (tp xs)).map fun (k : Nat) => D.int (k : Int) := by
  have : (tp xs : Int) - 1 + 1 = ((tp xs : Nat) : Int) := by omega
  rw [this, rng0]
theorem plen_spec {cs : List (List St)} {sh : List Tx} : Pv Zp.f_Pattern_len [patD cs sh] (.int cs.flatten.length) := by
  intro b
  unfold Zp.f_Pattern_len runD
  rw [W_bnd]
  unfold Zp.s_Pattern_len
  rw [W_sRet, W_xA]
  simp only [xL_cons, xL_nil, W_xCons, W_xV, W_xNil, W_x1]
  refine ⟨_, rfl, .int cs.flatten.length, ?_, W_ret.mpr rfl⟩
  show some (D.int ((cs.flatten.map en).length : Nat)) = _
  rw [List.length_map]
theorem W_xLenI {cl : Nat} {f : List D → M D} {a : Ex} {env : Sl} {Q : D → Bag → Prop} {b : Bag} (h : W (a env) (fun x b1 => ∃ xs, ∃ n : Nat, x = .ins cl xs ∧ Pv f [.ins cl xs] (.int n) ∧ n ≤ lim ∧ Q (.int n) b1) b) : W (xLenI cl f a env) Q b := by
  unfold xLenI
  rw [W_bnd]
  refine h.mono fun x b1 ⟨xs, n, e, hv, hn, q⟩ => ?_
  subst e
  rw [W_bnd, W_opt]
  refine ⟨xs, by simp [insD], ?_⟩
  rw [W_bnd, W_pureC]
  refine (hv _).mono fun d _ e => ?_
  subst e
  simp only
  rw [if_pos ⟨by omega, by omega⟩]
  exact W_ret.mpr q
theorem W_xEqI {cl : Nat} {f : List D → M D} {g : Bool → Bool} {a c : Ex} {env : Sl} {Q : D → Bag → Prop} {b : Bag} (h : W (a env) (fun x b1 => W (c env) (fun y b2 => ∃ xs ys t, x = .ins cl xs ∧ y = .ins cl ys ∧ Pv f [.ins cl xs, .ins cl ys] (.bl t) ∧ Q (.bl (g t)) b2) b1) b) : W (xEqI cl f g a c env) Q b := by
  unfold xEqI
  rw [W_bnd]
  refine h.mono fun x b1 h => ?_
  rw [W_bnd]
  refine h.mono fun y b2 ⟨xs, ys, t, e1, e2, hv, q⟩ => ?_
  subst e1 e2
  rw [W_bnd, W_opt]
  refine ⟨xs, by simp [insD], ?_⟩
  rw [W_bnd, W_opt]
  refine ⟨ys, by simp [insD], ?_⟩
  rw [W_bnd, W_pureC]
  refine (hv _).mono fun d _ e => ?_
  subst e
  exact W_ret.mpr q
theorem peq_spec {cs : List (List St)} {sh : List Tx} : Pv Zp.f_Pattern_eq [patD cs sh, patD cs sh] (.bl true) := by
  intro b
  unfold Zp.f_Pattern_eq runD
  rw [W_bnd]
  unfold Zp.s_Pattern_eq
  rw [W_sRet]
  simp only [W_xAnd, W_x1, W_x2, W_xV]
  refine ⟨_, rfl, true, rfl, fun _ => ⟨_, rfl, _, rfl, _, oEq_same (shp_tup2 cs), true, rfl, fun _ => ⟨_, rfl, _, rfl, _, oEq_same (shpL1 (α := Tx) sh).2, W_ret.mpr rfl⟩, fun z => by cases z⟩, fun z => by cases z⟩
end Pl
end
section
set_option linter.all false
set_option maxRecDepth 100000
/-! PLAIN: regrouped, put anew, where steps stand. -/
namespace Pl
open Z M En
section
variable {env : Sl} {Q : D → Bag → Prop} {b : Bag} {e t : Ex} {g : Tg} {it : Iw}
theorem W_xLcF {α : Type} (xs : List α) (i f : α → D) (p : α → Bool) (h : W (it env) (fun ds b1 => ds = xs.map i ∧ xs.length ≤ lim ∧ (∀ x ∈ xs, ∃ e1, g (i x) env = some e1 ∧ Ev (t e1) (.bl (p x)) ∧ (p x = true → Ev (e e1) (f x))) ∧ Q (.lst ((xs.filter p).map f)) b1) b) : W (xLc it g t e env) Q b := by
  refine W_xLc (h.mono fun ds b1 ⟨hd, hl, hf, hq⟩ => ⟨fun n acc b => b = b1 ∧ acc = ((xs.take n).filter p).map f, ⟨rfl, rfl⟩, fun n d acc b hdn ⟨hb, ha⟩ => ?_, fun acc b ⟨hb, ha⟩ => ?_⟩)
  · subst hb ha hd
    rw [List.getElem?_map] at hdn
    obtain ⟨x, hx, rfl⟩ := Option.map_eq_some_iff.mp hdn
    have hlt := (List.getElem?_eq_some_iff.mp hx).1
    obtain ⟨e1, he, ht, hw⟩ := hf x (List.mem_of_getElem? hx)
    have htk : xs.take (n + 1) = xs.take n ++ [x] := by rw [List.take_succ, hx]; rfl
    refine ⟨e1, he, ht.use ⟨p x, rfl, fun hp => (hw hp).use ⟨?_, rfl, ?_⟩, fun hp => ⟨rfl, ?_⟩⟩⟩
    · have := List.length_filter_le p (xs.take n)
      rw [List.length_take] at this
      rw [List.length_map]
      omega
    · rw [htk, List.filter_append, List.map_append, List.filter_cons_of_pos hp]
      rfl
    · rw [htk, List.filter_append, List.filter_cons_of_neg (by rw [hp]; simp)]
      simp
  · subst hb ha hd
    rw [List.length_map, List.take_length]
    exact hq
theorem W_iZipT {Q : List D → Bag → Prop} {a c : Ex} : W (iZipT a c env) Q b ↔ W (a env) (fun x b1 => W (c env) (fun y b2 => ∃ u v, x = .tup u ∧ y = .tup v ∧ Q (zipD u v) b2) b1) b := by
  unfold iZipT
  simp only [W_bnd]
  refine iff_of_eq (congrArg (W (a env) · b) ?_)
  funext x b1
  refine congrArg (W (c env) · b1) ?_
  funext y b2
  cases x <;> cases y <;> simp
end
theorem zip_en {α β : Type} [En α] [En β] : ∀ (xs : List α) (ys : List β), zipD (xs.map en) (ys.map en) = (xs.zip ys).map fun p => .tup [en p.1, en p.2]
  | [], _ => by simp [zipD]
  | x :: xs, [] => by simp [zipD]
  | x :: xs, y :: ys => by
    show D.tup [en x, en y] :: zipD (xs.map en) (ys.map en) = _
    rw [zip_en xs ys]
    rfl
theorem regrouped_spec {cs : List (List St)} {sh : List Tx} {xs : List Nat} (h : PatOk cs sh) (rg : Rg xs) (hl : xs.length = cs.flatten.length) (hne : xs ≠ []) : Pv Zp.f_regrouped [patD cs sh, tD xs] (patD (groupT cs.flatten xs) sh) := by
  intro b
  have h5 := h.l5
  have htp := tp_le xs rg
  unfold Zp.f_regrouped runD
  rw [W_bnd]
  unfold Zp.s_regrouped
  rw [W_sAnd, W_sIf, W_xNot]
  simp only [W_xQ, W_xApp, xL_cons, xL_nil, W_xCons, W_xV, W_xNil, List.append_nil]
  refine W_xLenI ?_
  rw [W_xV]
  refine ⟨_, _, rfl, plen_spec, by unfold lim; omega, ?_⟩
  refine ((numbering_spec rg hl (by omega)) _).mono fun d b' e => ?_
  subst e
  refine ⟨true, rfl, false, rfl, (fun z => by cases z), fun _ => ?_⟩
  rw [W_sPass, Nx_nx, W_sAnd, W_sSet]
  refine W_xLcT (List.range (tp xs)) (fun k => .int k) (fun n => .lst ((grp cs.flatten xs n).map en)) ?_
  rw [W_iRng1]
  simp only [W_x2, W_xA, xL_cons, xL_nil, W_xCons, W_xNil, W_xV, W_xC]
  refine ⟨_, max_tp hne, _, oAdd_i, (tp xs : Int) - 1 + 1, rfl, by unfold lim; omega, range_tp xs, by rw [List.length_range]; unfold lim; omega, fun n hn => ⟨_, rfl, fun b => ?_⟩, _, rfl, ?_⟩
  · refine W_xLcF (cs.flatten.zip xs) (fun p => .tup [en p.1, en p.2]) (fun p => en p.1) (fun p => decide (p.2 = n)) ?_
    rw [W_iZipT]
    simp only [W_x1, W_xV]
    refine ⟨_, rfl, _, _, rfl, rfl, zip_en _ _, by rw [List.length_zip]; unfold lim; omega, fun p hp => ⟨_, rfl, fun b => ?_, fun _ b => ?_⟩, ?_, trivial⟩
    · simp only [W_x2, W_xV]
      refine ⟨.bl (decide (p.2 = n)), ?_, rfl, trivial⟩
      show oEq (.int p.2) (.int n) = _
      rw [oEq_i]
      refine congrArg (fun t => some (D.bl t)) ?_
      rw [decide_eq_decide]
      omega
    · rw [W_xV]
      exact ⟨rfl, rfl⟩
    · unfold grp
      rw [List.map_map]
      rfl
  rw [Nx_nx, W_sRet, W_bnd]
  simp only [xL_cons, xL_nil, W_xCons, W_xNil, W_xV, W_bnd, W_x1, W_pureC]
  have e2 : D.lst ((List.range (tp xs)).map fun n => D.lst ((grp cs.flatten xs n).map en)) = en2 (groupT cs.flatten xs) := by
    unfold en2 groupT
    rw [List.map_map]
    rfl
  refine ⟨_, rfl, ?_⟩
  have := init_spec (group_ok h rg hl) (sd := .tup (sh.map en)) (.inr rfl)
  rw [← e2] at this
  exact (this _).mono fun d _ e => W_ret.mpr e
theorem grp_range {ss : List St} {xs : List Nat} (hl : xs.length = ss.length) (n : Nat) (d0 : St) : ((List.range ss.length).filter fun k => decide (xs.getD k 0 = n)).map (fun k => ss.getD k d0) = grp ss xs n := by
  have hz : ss.zip xs = (List.range ss.length).map fun k => (ss.getD k d0, xs.getD k 0) := by
    refine List.ext_getElem (by simp [hl]) fun i h1 h2 => ?_
    have i1 : i < ss.length := by
      rw [List.length_zip] at h1
      omega
    simp [List.getD_eq_getElem?_getD, i1, show i < xs.length by omega]
  unfold grp
  rw [hz, List.filter_map, List.map_map]
  rfl
theorem at_lst {α : Type} [En α] {ss : List α} {i : Nat} (d0 : α) (h : i < ss.length) : oIx (.lst (ss.map en)) (.int i) = some (en (ss.getD i d0)) := by
  show atD (ss.map en) (i : Int) = _
  rw [atD_nat, List.getElem?_map, List.getElem?_eq_getElem h, List.getD_eq_getElem?_getD, List.getElem?_eq_getElem h]
  rfl
theorem at_tupN {xs : List Nat} {i : Nat} (h : i < xs.length) : oIx (tD xs) (.int i) = some (.int (xs.getD i 0 : Nat)) := by
  show atD (xs.map en) (i : Int) = _
  rw [atD_nat, List.getElem?_map, List.getElem?_eq_getElem h, List.getD_eq_getElem?_getD, List.getElem?_eq_getElem h]
  rfl
theorem put_anew_spec {ss : List St} {xs : List Nat} (rg : Rg xs) (hl : xs.length = ss.length) (h5 : ss.length ≤ 1000) (hne : xs ≠ []) : Pv Zp.f__law_put_anew [.lst (ss.map en), tD xs] (en2 (groupT ss xs)) := by
  intro b
  have htp := tp_le xs rg
  unfold Zp.f__law_put_anew runD
  rw [W_bnd]
  unfold Zp.s__law_put_anew
  rw [W_sAnd, W_sSet, W_xLst, xL_nil, W_xNil]
  refine ⟨_, rfl, ?_⟩
  rw [Nx_nx, W_sAnd]
  refine W_sFor ?_
  rw [W_iRng1]
  simp only [W_x2, W_xA, xL_cons, xL_nil, W_xCons, W_xNil, W_xV, W_xC]
  refine ⟨_, max_tp hne, _, oAdd_i, (tp xs : Int) - 1 + 1, rfl, by unfold lim; omega, fun i env b => ∃ n : D, env = [.lst (ss.map en), tD xs, .lst ((List.range i).map fun n => .lst ((grp ss xs n).map en)), n, .non], ⟨.non, rfl⟩, ?_, ?_⟩
  · rintro i d env b hd ⟨n, rfl⟩
    rw [range_tp, ← rng0] at hd
    have hi := rng_lt hd
    have e := rng_at hd
    subst e
    refine ⟨_, rfl, ?_⟩
    rw [W_sApp]
    obtain ⟨d0⟩ : Nonempty St := ⟨([], [], [])⟩
    refine W_xLcF (List.range ss.length) (fun k => .int k) (fun k => en (ss.getD k d0)) (fun k => decide (xs.getD k 0 = i)) ?_
    rw [W_iRng1]
    simp only [W_xA, xL_cons, xL_nil, W_xCons, W_xNil, W_xV]
    refine ⟨.int ss.length, by show some (D.int ((ss.map en).length : Nat)) = _; rw [List.length_map], ss.length, rfl, by unfold lim; omega, rng0 _, by rw [List.length_range]; unfold lim; omega, fun k hk => ⟨_, rfl, fun b => ?_, fun _ b => ?_⟩, ?_⟩
    · have hk := List.mem_range.mp hk
      simp only [W_x2, W_xV]
      refine ⟨_, at_tupN (by omega), .bl (decide (xs.getD k 0 = i)), ?_, rfl, trivial⟩
      rw [show ((List.set [D.lst (ss.map en), tD xs, D.lst ((List.range i).map fun n => D.lst ((grp ss xs n).map en)), n, D.non] 3 (D.int i)).set 4 (D.int k)).getD 3 D.non = D.int i from rfl, oEq_i]
      refine congrArg (fun t => some (D.bl t)) ?_
      rw [decide_eq_decide]
      omega
    · have hk := List.mem_range.mp hk
      simp only [W_x2, W_xV]
      exact ⟨_, at_lst d0 (by omega), rfl, trivial⟩
    · refine ⟨_, rfl, by rw [List.length_map, List.length_range]; unfold lim; omega, .int i, ?_⟩
      have e1 : ((List.range ss.length).filter fun k => decide (xs.getD k 0 = i)).map (fun k => (en (ss.getD k d0) : D)) = (grp ss xs i).map en := by
        rw [← grp_range hl i d0, List.map_map]
        rfl
      rw [e1, List.range_succ, List.map_append]
      rfl
  · rintro env b ⟨n, rfl⟩
    rw [range_tp, List.length_map, List.length_range, Nx_nx, W_sRet, W_xV]
    refine W_ret.mpr ?_
    unfold en2 groupT
    rw [List.map_map]
    rfl
/-- where the steps of clauses stand -/
def stT (cs : List (List St)) : List Nat := cs.zipIdx.flatMap fun p => List.replicate p.1.length p.2
theorem stT_snoc (cs : List (List St)) (c : List St) : stT (cs ++ [c]) = stT cs ++ List.replicate c.length cs.length := by
  unfold stT
  rw [List.zipIdx_append, List.flatMap_append]
  simp
theorem stT_len (cs : List (List St)) : (stT cs).length = cs.flatten.length := by
  suffices ∀ n, ∀ cs : List (List St), cs.length = n → (stT cs).length = cs.flatten.length from this _ cs rfl
  intro n
  induction n with
  | zero =>
    intro cs h
    rw [List.length_eq_zero_iff] at h
    subst h
    rfl
  | succ n ih =>
    intro cs h
    have hne : cs ≠ [] := by rintro rfl; simp at h
    rw [← List.dropLast_concat_getLast hne, stT_snoc, List.length_append, List.length_replicate, List.flatten_append, List.length_append, ih cs.dropLast (by rw [List.length_dropLast]; omega)]
    simp
theorem rep_rg {xs : List Nat} {k : Nat} (h : Rg xs) (hk : k ≤ tp xs) : ∀ m, Rg (xs ++ List.replicate m k) ∧ tp (xs ++ List.replicate m k) = if m = 0 then tp xs else max (tp xs) (k + 1)
  | 0 => by simpa using h
  | m + 1 => by
    obtain ⟨i1, i2⟩ := rep_rg h hk m
    rw [List.replicate_succ', ← List.append_assoc]
    refine ⟨i1.snoc (by rw [i2]; split <;> omega), ?_⟩
    rw [tp_snoc, i2]
    split <;> simp <;> omega
theorem stT_rg : ∀ (n : Nat) (cs : List (List St)), cs.length = n → (∀ c ∈ cs, c ≠ []) → Rg (stT cs) ∧ tp (stT cs) = cs.length
  | 0, cs, h, _ => by
    rw [List.length_eq_zero_iff] at h
    subst h
    exact ⟨.nil, rfl⟩
  | n + 1, cs, h, hc => by
    have hne : cs ≠ [] := by rintro rfl; simp at h
    have hl : cs.dropLast.length = n := by rw [List.length_dropLast]; omega
    obtain ⟨i1, i2⟩ := stT_rg n cs.dropLast hl fun c m => hc c (List.dropLast_sublist cs |>.subset m)
    have hlast := List.length_pos_iff.mpr (hc _ (List.getLast_mem hne))
    obtain ⟨r1, r2⟩ := rep_rg i1 (k := cs.dropLast.length) (by omega) (cs.getLast hne).length
    have e : stT cs = stT cs.dropLast ++ List.replicate (cs.getLast hne).length cs.dropLast.length := by
      rw [← stT_snoc, List.dropLast_concat_getLast hne]
    rw [e]
    refine ⟨r1, ?_⟩
    rw [r2, if_neg (by omega), i2]
    omega
theorem stT_lt {cs : List (List St)} {k : Nat} (h : k ∈ stT cs) : k < cs.length := by
  unfold stT at h
  obtain ⟨p, hp, hk⟩ := List.mem_flatMap.mp h
  rw [List.eq_of_mem_replicate hk]
  have := List.mem_zipIdx hp
  omega
theorem grp_stT : ∀ (n : Nat) (cs : List (List St)), cs.length = n → ∀ k (hk : k < cs.length), grp cs.flatten (stT cs) k = cs[k]
  | 0, cs, h, k, hk => by omega
  | n + 1, cs, h, k, hk => by
    have hne : cs ≠ [] := by rintro rfl; simp at h
    have hl : cs.dropLast.length = n := by rw [List.length_dropLast]; omega
    have ih := grp_stT n cs.dropLast hl
    have e : cs = cs.dropLast ++ [cs.getLast hne] := (List.dropLast_concat_getLast hne).symm
    have key : ∀ (ds : List (List St)) (c : List St), (∀ k (hk : k < ds.length), grp ds.flatten (stT ds) k = ds[k]) → ∀ k (hk : k < (ds ++ [c]).length), grp (ds ++ [c]).flatten (stT (ds ++ [c])) k = (ds ++ [c])[k] := by
      intro ds c ih k hk
      have hz : ((ds ++ [c]).flatten).zip (stT (ds ++ [c])) = (ds.flatten.zip (stT ds)) ++ c.zip (List.replicate c.length ds.length) := by
        rw [stT_snoc, List.flatten_append, List.zip_append (stT_len ds).symm]
        simp
      unfold grp
      rw [hz, List.filter_append, List.map_append]
      have hk' : k < ds.length + 1 := by simpa using hk
      by_cases c1 : k < ds.length
      · have e2 : ((c.zip (List.replicate c.length ds.length)).filter fun p => decide (p.2 = k)) = [] := by
          rw [List.filter_eq_nil_iff]
          intro p hp
          have := List.eq_of_mem_replicate (List.of_mem_zip hp).2
          simp only [decide_eq_true_eq]
          omega
        have := ih k c1
        unfold grp at this
        rw [e2, this, List.getElem_append_left c1]
        simp
      · have ek : k = ds.length := by omega
        subst ek
        have e2 : ((ds.flatten.zip (stT ds)).filter fun p => decide (p.2 = ds.length)) = [] := by
          rw [List.filter_eq_nil_iff]
          intro p hp
          have := stT_lt (List.of_mem_zip hp).2
          simp only [decide_eq_true_eq]
          omega
        have e3 : ((c.zip (List.replicate c.length ds.length)).filter fun p => decide (p.2 = ds.length)) = c.zip (List.replicate c.length ds.length) := by
          rw [List.filter_eq_self]
          intro p hp
          have := List.eq_of_mem_replicate (List.of_mem_zip hp).2
          simpa using this
        rw [e2, e3, List.map_fst_zip (by simp)]
        simp
    have := key cs.dropLast (cs.getLast hne) ih
    rw [List.dropLast_concat_getLast hne] at this
    exact this k hk
theorem group_stT {cs : List (List St)} (hc : ∀ c ∈ cs, c ≠ []) : groupT cs.flatten (stT cs) = cs := by
  obtain ⟨_, ht⟩ := stT_rg cs.length cs rfl hc
  unfold groupT
  rw [ht]
  refine List.ext_getElem (by simp) fun i h1 h2 => ?_
  rw [List.getElem_map, List.getElem_range]
  exact grp_stT cs.length cs rfl i h2
end Pl
end
section
set_option linter.all false
set_option maxRecDepth 100000
/-! PLAIN: places (dicts) and pairs. -/
namespace Pl
open Z M En
theorem oNe_en {α : Type} [En α] [Fl1 α] [DecidableEq α] (a b : α) : oNe (en a) (en b) = some (.bl (!decide (a = b))) := by
  rw [oNe_lst (flat1_shp (Fl1.flat a)) (flat1_shp (Fl1.flat b)), eqD_en]
theorem oEq_en {α : Type} [En α] [Fl1 α] [DecidableEq α] (a b : α) : oEq (en a) (en b) = some (.bl (decide (a = b))) := by
  rw [oEq_lst (flat1_shp (Fl1.flat a)) (flat1_shp (Fl1.flat b)), eqD_en]
abbrev Pc := List (Tx × Tx)
def dctT (pl : Pc) : D := .dct (pl.map fun p => (en p.1, en p.2))
def getP : Pc → Tx → Option Tx
  | [], _ => none
  | (k, v) :: r, q => if k = q then some v else getP r q
def putP (pl : Pc) (k v : Tx) : Pc := if (getP pl k).isSome then pl.map (fun kv => if kv.1 = k then (kv.1, v) else kv) else pl ++ [(k, v)]
theorem get_en (k : Tx) : ∀ pl : Pc, dGetP (pl.map fun p => (en p.1, en p.2)) (en k) = (getP pl k).map en
  | [] => rfl
  | (a, b) :: r => by
    show (if eqD (en a) (en k) then some (en b) else dGetP (r.map fun p => (en p.1, en p.2)) (en k)) = _
    rw [eqD_en, get_en k r, getP]
    by_cases c : a = k <;> simp [c]
theorem put_en (k v : Tx) (pl : Pc) : dPutP (pl.map fun p => (en p.1, en p.2)) (en k) (en v) = (putP pl k v).map fun p => (en p.1, en p.2) := by
  unfold dPutP putP
  rw [get_en]
  cases c : getP pl k with
  | none => simp
  | some w =>
    simp only [Option.map_some, Option.isSome_some, if_true, List.map_map]
    refine List.map_congr_left fun p _ => ?_
    simp only [Function.comp, eqD_en]
    by_cases e : p.1 = k <;> simp [e]
theorem put_len (k v : Tx) (pl : Pc) : (putP pl k v).length ≤ pl.length + 1 := by
  unfold putP
  split
  · rw [List.length_map]
    omega
  · rw [List.length_append]
    exact Nat.le_refl _
def keys (pl : Pc) : List Tx := pl.map (·.1)
theorem get_none {k : Tx} : ∀ {pl : Pc}, getP pl k = none ↔ k ∉ keys pl
  | [] => by simp [getP, keys]
  | (a, b) :: r => by
    rw [getP]
    by_cases c : a = k
    · simp [c, keys]
    · rw [if_neg c, get_none]
      simp only [keys, List.map_cons, List.mem_cons, not_or]
      exact ⟨fun h => ⟨fun z => c z.symm, h⟩, fun h => h.2⟩
theorem get_mem {k v : Tx} : ∀ {pl : Pc}, (keys pl).Nodup → (getP pl k = some v ↔ (k, v) ∈ pl)
  | [], _ => by simp [getP]
  | (a, b) :: r, nd => by
    unfold keys at nd
    rw [List.map_cons] at nd
    obtain ⟨n1, n2⟩ := List.nodup_cons.mp nd
    rw [getP, List.mem_cons]
    by_cases c : a = k
    · subst c
      rw [if_pos rfl]
      constructor
      · intro e
        cases e
        exact .inl rfl
      · rintro (e | e)
        · cases e
          rfl
        · exact absurd (List.mem_map.mpr ⟨_, e, rfl⟩) n1
    · rw [if_neg c, get_mem n2]
      constructor
      · exact .inr
      · rintro (e | e)
        · cases e
          exact absurd rfl c
        · exact e
theorem put_keys (k v : Tx) (pl : Pc) (nd : (keys pl).Nodup) : (keys (putP pl k v)).Nodup ∧ ∀ a, a ∈ keys (putP pl k v) ↔ a = k ∨ a ∈ keys pl := by
  unfold putP
  cases c : getP pl k with
  | none =>
    have hk := get_none.mp c
    simp only [Option.isSome_none, Bool.false_eq_true, if_false]
    unfold keys at *
    rw [List.map_append]
    refine ⟨List.nodup_append.mpr ⟨nd, (by simp), fun a ha b hb => ?_⟩, fun a => ?_⟩
    · simp at hb
      subst hb
      rintro rfl
      exact hk ha
    · simp only [List.mem_append, List.map_cons, List.map_nil, List.mem_singleton]
      exact Or.comm
  | some w =>
    have hm : k ∈ keys pl := by
      apply Classical.byContradiction
      intro z
      rw [get_none.mpr z] at c
      cases c
    simp only [Option.isSome_some, if_true]
    have e : keys (pl.map fun kv => if kv.1 = k then (kv.1, v) else kv) = keys pl := by
      unfold keys
      rw [List.map_map]
      refine List.map_congr_left fun p _ => ?_
      simp only [Function.comp]
      split <;> rfl
    rw [e]
    exact ⟨nd, fun a => ⟨.inr, fun z => z.elim (fun z => z ▸ hm) id⟩⟩
theorem put_mem {k v a b : Tx} {pl : Pc} (nd : (keys pl).Nodup) : (a, b) ∈ putP pl k v ↔ (a = k ∧ b = v) ∨ (a ≠ k ∧ (a, b) ∈ pl) := by
  unfold putP
  cases c : getP pl k with
  | none =>
    have hk := get_none.mp c
    simp only [Option.isSome_none, Bool.false_eq_true, if_false, List.mem_append, List.mem_singleton, Prod.mk.injEq]
    constructor
    · rintro (h | h)
      · refine .inr ⟨?_, h⟩
        rintro rfl
        exact hk (List.mem_map.mpr ⟨_, h, rfl⟩)
      · exact .inl h
    · rintro (h | h)
      · exact .inr h
      · exact .inl h.2
  | some w =>
    simp only [Option.isSome_some, if_true, List.mem_map]
    constructor
    · rintro ⟨⟨p, q⟩, hm, e⟩
      by_cases z : p = k
      · rw [if_pos z] at e
        cases e
        exact .inl ⟨z, rfl⟩
      · rw [if_neg z] at e
        cases e
        exact .inr ⟨z, hm⟩
    · rintro (⟨rfl, rfl⟩ | ⟨h1, h2⟩)
      · exact ⟨(a, w), (get_mem nd).mp c, by simp⟩
      · exact ⟨(a, b), h2, by simp [h1]⟩
def extT (pl : Pc) (st e : St) : Option Pc :=
  if e.2.1 = st.2.1 ∧ (getP pl st.1).getD e.1 = e.1 then
    if (getP (putP pl st.1 e.1) st.2.2).getD e.2.2 = e.2.2 then some (putP (putP pl st.1 e.1) st.2.2 e.2.2) else none
  else none
def optD : Option Pc → D
  | some m => dctT m
  | none => .non
theorem W_xDGet2 {env : Sl} {Q : D → Bag → Prop} {b : Bag} {a c e : Ex} : W (xDGet2 a c e env) Q b ↔ W (a env) (fun x b1 => ∃ kvs, x = .dct kvs ∧ W (c env) (fun y b2 => W (e env) (fun z b3 => keyP y = true ∧ Q ((dGetP kvs y).getD z) b3) b2) b1) b := by
  unfold xDGet2
  simp only [W_bnd, W_opt]
  refine iff_of_eq (congrArg (W (a env) · b) ?_)
  funext x b1
  cases x <;> simp [dctD]
  refine iff_of_eq (congrArg (W (c env) · b1) ?_)
  funext y b2
  refine congrArg (W (e env) · b2) ?_
  funext z b3
  exact propext ⟨fun h => ⟨h.2, h.1 h.2⟩, fun h => ⟨fun _ => h.2, h.1⟩⟩
@[simp] theorem W_sDPut {i : Nat} {ek ev : Ex} {env : Sl} {Q : Fl → Bag → Prop} {b : Bag} : W (sDPut i ek ev env) Q b ↔ W (ev env) (fun v b1 => W (ek env) (fun k b2 => ∃ kvs, env.getD i .non = .dct kvs ∧ (keyP k = true ∧ kvs.length < lim) ∧ Q (.nx (env.set i (.dct (dPutP kvs k v)))) b2) b1) b := by
  unfold sDPut
  simp only [W_bnd]
  refine iff_of_eq (congrArg (W (ev env) · b) ?_)
  funext v b1
  refine congrArg (W (ek env) · b1) ?_
  funext k b2
  cases env.getD i .non <;> simp
  rename_i kvs
  by_cases h : keyP k = true ∧ kvs.length < lim
  · simp [h]
  · by_cases h1 : keyP k = true
    · have : ¬ kvs.length < lim := fun z => h ⟨h1, z⟩
      simp [h1, this]
    · simp [h1]
theorem getD_en (o : Option Tx) (z : Tx) : (o.map (en : Tx → D)).getD (en z) = en (o.getD z) := by
  cases o <;> rfl
theorem ext_spec {pl : Pc} (h : pl.length < 1000) (st e : St) : Pv Zp.f_extended_places [dctT pl, en st, en e] (optD (extT pl st e)) := by
  intro b
  have hl : (pl.map fun p => ((en p.1 : D), (en p.2 : D))).length < lim := by
    rw [List.length_map]
    unfold lim
    omega
  unfold Zp.f_extended_places runD
  rw [W_bnd]
  unfold Zp.s_extended_places
  rw [W_sAnd, W_sSet, W_xV]
  refine ⟨_, rfl, ?_⟩
  rw [Nx_nx, W_sAnd, W_sIf]
  simp only [W_xOr, W_x2, W_xV, W_xC, W_xDGet2]
  refine ⟨_, rfl, _, oNe_en (α := Tx) e.2.1 st.2.1, _, rfl, fun z => ?_, fun z => ?_⟩
  · refine ⟨true, rfl, fun _ => ?_, fun z => by cases z⟩
    have hne : ¬ (e.2.1 = st.2.1 ∧ (getP pl st.1).getD e.1 = e.1) := fun q => by
      rw [decide_eq_true q.1] at z
      cases z
    rw [W_sRet, W_xC]
    refine W_ret.mpr ?_
    unfold extT
    rw [if_neg hne]
    rfl
  · have hl1 : e.2.1 = st.2.1 := by
      apply Classical.byContradiction
      intro q
      rw [decide_eq_false q] at z
      cases z
    refine ⟨_, rfl, _, rfl, rfl, _, rfl, ?_⟩
    have e1 : (dGetP (pl.map fun p => (en p.1, en p.2)) (en st.1)).getD (en e.1) = (en ((getP pl st.1).getD e.1) : D) := by
      rw [get_en, getD_en]
    refine ⟨.bl (!decide ((getP pl st.1).getD e.1 = e.1)), ?_, _, rfl, fun z => ?_, fun z => ?_⟩
    · show oNe ((dGetP (pl.map fun p => (en p.1, en p.2)) (en st.1)).getD (en e.1)) (en e.1) = _
      rw [e1, oNe_en]
    · have hne : ¬ (e.2.1 = st.2.1 ∧ (getP pl st.1).getD e.1 = e.1) := fun q => by
        rw [decide_eq_true q.2] at z
        cases z
      rw [W_sRet, W_xC]
      refine W_ret.mpr ?_
      unfold extT
      rw [if_neg hne]
      rfl
    · have hl2 : (getP pl st.1).getD e.1 = e.1 := by
        apply Classical.byContradiction
        intro q
        rw [decide_eq_false q] at z
        cases z
      rw [W_sPass, Nx_nx, W_sAnd, W_sSet]
      simp only [W_xA, xL_cons, xL_nil, W_xCons, W_xNil, W_xV]
      refine ⟨_, rfl, _, rfl, ?_⟩
      rw [Nx_nx, W_sAnd, W_sDPut]
      simp only [W_x2, W_xV, W_xC]
      refine ⟨_, rfl, _, rfl, ⟨rfl, hl⟩, ?_⟩
      rw [Nx_nx, W_sAnd, W_sIf]
      simp only [W_x2, W_xV, W_xC, W_xDGet2]
      have e2 : dPutP (pl.map fun p => (en p.1, en p.2)) (en st.1) (en e.1) = (putP pl st.1 e.1).map fun p => ((en p.1 : D), (en p.2 : D)) := put_en _ _ _
      have e3 : (dGetP (dPutP (pl.map fun p => (en p.1, en p.2)) (en st.1) (en e.1)) (en st.2.2)).getD (en e.2.2) = (en ((getP (putP pl st.1 e.1) st.2.2).getD e.2.2) : D) := by
        rw [e2, get_en, getD_en]
      refine ⟨_, rfl, _, rfl, rfl, _, rfl, .bl (!decide ((getP (putP pl st.1 e.1) st.2.2).getD e.2.2 = e.2.2)), ?_, _, rfl, fun z => ?_, fun z => ?_⟩
      · show oNe ((dGetP (dPutP (pl.map fun p => (en p.1, en p.2)) (en st.1) (en e.1)) (en st.2.2)).getD (en e.2.2)) (en e.2.2) = _
        rw [e3, oNe_en]
      · have hne : ¬ (getP (putP pl st.1 e.1) st.2.2).getD e.2.2 = e.2.2 := fun q => by
          rw [decide_eq_true q] at z
          cases z
        rw [W_sRet, W_xC]
        refine W_ret.mpr ?_
        unfold extT
        rw [if_pos ⟨hl1, hl2⟩, if_neg hne]
        rfl
      · have hl3 : (getP (putP pl st.1 e.1) st.2.2).getD e.2.2 = e.2.2 := by
          apply Classical.byContradiction
          intro q
          rw [decide_eq_false q] at z
          cases z
        rw [W_sPass, Nx_nx, W_sAnd, W_sDPut]
        simp only [W_x2, W_xV, W_xC]
        have hput := put_len st.1 e.1 pl
        refine ⟨_, rfl, _, rfl, ⟨rfl, ?_⟩, ?_⟩
        · show (dPutP (pl.map fun p => (en p.1, en p.2)) (en st.1) (en e.1)).length < lim
          rw [e2, List.length_map]
          unfold lim
          omega
        rw [Nx_nx, W_sRet, W_xV]
        refine W_ret.mpr ?_
        have ee : extT pl st e = some (putP (putP pl st.1 e.1) st.2.2 e.2.2) := by
          unfold extT
          rw [if_pos ⟨hl1, hl2⟩, if_pos hl3]
        rw [ee]
        show D.dct (dPutP (dPutP (pl.map fun p => (en p.1, en p.2)) (en st.1) (en e.1)) (en st.2.2) (en e.2.2)) = dctT _
        rw [e2, put_en]
        rfl
end Pl
end
section
set_option linter.all false
set_option maxRecDepth 100000
/-! PLAIN: the two searches of rows go alike. -/
namespace Pl
open Z M En
structure Pr2 where
  a : Tx
  b : Tx
  deriving DecidableEq
instance : En Pr2 where
  en x := .tup [.str x.a, .str x.b]
  le x y := if x.a = y.a then le x.b y.b else le x.a y.a
  eq_iff x y := by
    obtain ⟨a, b⟩ := x
    obtain ⟨c, d⟩ := y
    simp [eqD, eqL]
  le_iff x y := by
    have e1 := fun (s t : Tx) => le_iff (α := Tx) s t
    have e2 := fun (s t : Tx) => eqD_en (α := Tx) s t
    show (!(if eqD (.str y.a) (.str x.a) then (if eqD (.str y.b) (.str x.b) then false else ltD (.str y.b) (.str x.b)) else ltD (.str y.a) (.str x.a))) = _
    have q1 : eqD (.str y.a) (.str x.a) = decide (y.a = x.a) := e2 y.a x.a
    have q2 : eqD (.str y.b) (.str x.b) = decide (y.b = x.b) := e2 y.b x.b
    rw [q1, q2]
    by_cases c : x.a = y.a
    · rw [if_pos c, if_pos (by rw [decide_eq_true c.symm])]
      by_cases c2 : x.b = y.b
      · rw [if_pos (by rw [decide_eq_true c2.symm]), c2]
        have := total y.b y.b
        simpa using this
      · rw [if_neg (by rw [decide_eq_false (Ne.symm c2)]; simp)]
        exact e1 x.b y.b
    · rw [if_neg c, if_neg (by rw [decide_eq_false (Ne.symm c)]; simp)]
      exact e1 x.a y.a
  total x y := leP_total total (x.a, x.b) (y.a, y.b)
  trans x y z := leP_trans trans (x.a, x.b) (y.a, y.b) (z.a, z.b)
  anti x y h1 h2 := by
    have := leP_anti anti (x.a, x.b) (y.a, y.b) h1 h2
    obtain ⟨a, b⟩ := x
    obtain ⟨c, d⟩ := y
    cases this
    rfl
def moreT (ps : List Pr2) (st e : St) : List Pr2 := ps ++ ([⟨st.1, e.1⟩, ⟨st.2.2, e.2.2⟩] : List Pr2).filter fun p => decide (p ∉ ps)
def consB (m : List Pr2) : Bool := decide ((dd (m.map (·.a))).length = (dd m).length)
theorem mem_more {ps : List Pr2} {st e : St} {p : Pr2} : p ∈ moreT ps st e ↔ p ∈ ps ∨ p = ⟨st.1, e.1⟩ ∨ p = ⟨st.2.2, e.2.2⟩ := by
  unfold moreT
  rw [List.mem_append, List.mem_filter]
  simp only [List.mem_cons, List.not_mem_nil, or_false, decide_eq_true_eq]
  by_cases h : p ∈ ps <;> simp [h]
theorem dd_nodup {α : Type} [En α] [DecidableEq α] : ∀ {xs : List α}, (dd xs).length = xs.length → xs.Nodup
  | [], _ => List.nodup_nil
  | x :: r, h => by
    rw [dd, List.length_cons, List.length_cons] at h
    have h1 := List.length_filter_le (fun y => decide (y ≠ x)) (dd r)
    have h2 := length_dd r
    have e : (dd r).length = r.length := by omega
    refine List.nodup_cons.mpr ⟨fun m => ?_, dd_nodup e⟩
    have hm : x ∈ dd r := mem_dd.mpr m
    have : ((dd r).filter fun y => decide (y ≠ x)).length < (dd r).length := by
      rw [List.length_filter_lt_length_iff_exists]
      exact ⟨x, hm, by simp⟩
    omega
theorem cons_iff {m : List Pr2} : consB m = true ↔ ∀ p ∈ m, ∀ q ∈ m, p.a = q.a → p = q := by
  unfold consB
  rw [decide_eq_true_eq]
  have same : (dd (m.map (·.a))).length = (dd ((dd m).map (·.a))).length := len_eq (nodup_dd _) (nodup_dd _) fun x => by
    rw [mem_dd, mem_dd, List.mem_map, List.mem_map]
    exact ⟨fun ⟨p, hp, e⟩ => ⟨p, mem_dd.mpr hp, e⟩, fun ⟨p, hp, e⟩ => ⟨p, mem_dd.mp hp, e⟩⟩
  constructor
  · intro h p hp q hq e
    have hl : (dd ((dd m).map (·.a))).length = ((dd m).map (·.a)).length := by
      rw [List.length_map]
      omega
    have nd := dd_nodup hl
    obtain ⟨i, hi⟩ := List.getElem?_of_mem (mem_dd.mpr hp)
    obtain ⟨j, hj⟩ := List.getElem?_of_mem (mem_dd.mpr hq)
    obtain ⟨il, ie⟩ := List.getElem?_eq_some_iff.mp hi
    obtain ⟨jl, je⟩ := List.getElem?_eq_some_iff.mp hj
    have hij : i = j := by
      have i2 : i < ((dd m).map (·.a)).length := by rw [List.length_map]; exact il
      have j2 : j < ((dd m).map (·.a)).length := by rw [List.length_map]; exact jl
      have ee : ((dd m).map (·.a))[i] = ((dd m).map (·.a))[j] := by
        rw [List.getElem_map, List.getElem_map, ie, je]
        exact e
      have pw := List.pairwise_iff_getElem.mp (List.nodup_iff_pairwise_ne.mp nd)
      rcases Nat.lt_trichotomy i j with c | c | c
      · exact absurd ee (pw i j i2 j2 c)
      · exact c
      · exact absurd ee.symm (pw j i j2 i2 c)
    subst hij
    rw [← ie, ← je]
  · intro h
    have e : dd (m.map (·.a)) = (dd m).map (·.a) := by
      have key : ∀ m : List Pr2, (∀ p ∈ m, ∀ q ∈ m, p.a = q.a → p = q) → dd (m.map (·.a)) = (dd m).map (·.a) := by
        intro m
        induction m with
        | nil => intro _; rfl
        | cons x r ih =>
          intro h
          have ih := ih fun p hp q hq => h p (List.mem_cons_of_mem _ hp) q (List.mem_cons_of_mem _ hq)
          rw [List.map_cons, dd, dd, List.map_cons, ih, List.filter_map]
          congr 2
          refine List.filter_congr fun y hy => ?_
          have hy2 : y ∈ r := mem_dd.mp hy
          simp only [Function.comp]
          by_cases c : y = x
          · subst c
            simp
          · have c2 : y.a ≠ x.a := fun z => c (h y (List.mem_cons_of_mem _ hy2) x List.mem_cons_self z)
            simp [c, c2]
      exact key m h
    rw [e, List.length_map]
def R (pl : Pc) (ps : List Pr2) : Prop := (keys pl).Nodup ∧ ∀ x y, (⟨x, y⟩ : Pr2) ∈ ps ↔ (x, y) ∈ pl
theorem R.cons {pl : Pc} {ps : List Pr2} (h : R pl ps) : consB ps = true := by
  rw [cons_iff]
  intro p hp q hq e
  obtain ⟨a, b⟩ := p
  obtain ⟨c, d⟩ := q
  have e : a = c := e
  subst e
  have h1 := (get_mem h.1).mpr ((h.2 a b).mp hp)
  have h2 := (get_mem h.1).mpr ((h.2 a d).mp hq)
  rw [h1] at h2
  cases h2
  rfl
theorem getD_ne {pl : Pc} {k z : Tx} (h : ¬ (getP pl k).getD z = z) : ∃ v, getP pl k = some v ∧ v ≠ z := by
  cases c : getP pl k with
  | none =>
    rw [c] at h
    exact absurd rfl h
  | some v =>
    rw [c] at h
    exact ⟨v, rfl, h⟩
theorem ext_some {pl : Pc} {ps : List Pr2} {st e : St} {m : Pc} (h : R pl ps) (hm : extT pl st e = some m) : e.2.1 = st.2.1 ∧ R m (moreT ps st e) ∧ ∀ x, x ∈ keys m ↔ x = st.1 ∨ x = st.2.2 ∨ x ∈ keys pl := by
  unfold extT at hm
  split at hm
  · rename_i h12
    split at hm
    · rename_i h3
      cases hm
      obtain ⟨nf, kf⟩ := put_keys st.1 e.1 pl h.1
      obtain ⟨nm, km⟩ := put_keys st.2.2 e.2.2 (putP pl st.1 e.1) nf
      have a1 : ∀ v, (st.1, v) ∈ pl → v = e.1 := fun v hv => by
        have := (get_mem h.1).mpr hv
        have q := h12.2
        rw [this] at q
        exact q
      have a2 : ∀ v, (st.2.2, v) ∈ putP pl st.1 e.1 → v = e.2.2 := fun v hv => by
        have := (get_mem nf).mpr hv
        rw [this] at h3
        exact h3
      refine ⟨h12.1, ⟨nm, fun x y => ?_⟩, fun x => ?_⟩
      · rw [mem_more, put_mem nf, put_mem h.1, h.2]
        simp only [Pr2.mk.injEq]
        constructor
        · have via : (x, y) ∈ putP pl st.1 e.1 → (x = st.2.2 ∧ y = e.2.2) ∨ (x ≠ st.2.2 ∧ ((x = st.1 ∧ y = e.1) ∨ (x ≠ st.1 ∧ (x, y) ∈ pl))) := fun q => by
            by_cases c : x = st.2.2
            · subst c
              exact .inl ⟨rfl, a2 y q⟩
            · exact .inr ⟨c, (put_mem h.1).mp q⟩
          rintro (q | q | q)
          · refine via ((put_mem h.1).mpr ?_)
            by_cases c : x = st.1
            · subst c
              exact .inl ⟨rfl, a1 y q⟩
            · exact .inr ⟨c, q⟩
          · exact via ((put_mem h.1).mpr (.inl q))
          · exact .inl q
        · rintro (q | ⟨_, q | ⟨_, q⟩⟩)
          · exact .inr (.inr q)
          · exact .inr (.inl q)
          · exact .inl q
      · rw [km, kf]
        constructor
        · rintro (q | q | q)
          · exact .inr (.inl q)
          · exact .inl q
          · exact .inr (.inr q)
        · rintro (q | q | q)
          · exact .inr (.inl q)
          · exact .inl q
          · exact .inr (.inr q)
    · cases hm
  · cases hm
theorem ext_none {pl : Pc} {ps : List Pr2} {st e : St} (h : R pl ps) (hm : extT pl st e = none) (hl : e.2.1 = st.2.1) : consB (moreT ps st e) = false := by
  rw [Bool.eq_false_iff]
  intro hc
  have f := cons_iff.mp hc
  unfold extT at hm
  have m1 : (⟨st.1, e.1⟩ : Pr2) ∈ moreT ps st e := mem_more.mpr (.inr (.inl rfl))
  have m2 : (⟨st.2.2, e.2.2⟩ : Pr2) ∈ moreT ps st e := mem_more.mpr (.inr (.inr rfl))
  by_cases h2 : (getP pl st.1).getD e.1 = e.1
  · rw [if_pos ⟨hl, h2⟩] at hm
    by_cases h3 : (getP (putP pl st.1 e.1) st.2.2).getD e.2.2 = e.2.2
    · rw [if_pos h3] at hm
      cases hm
    · obtain ⟨v, e1, ne⟩ := getD_ne h3
      have hv := (get_mem (put_keys st.1 e.1 pl h.1).1).mp e1
      have : (⟨st.2.2, v⟩ : Pr2) ∈ moreT ps st e := by
        rcases (put_mem h.1).mp hv with ⟨z1, z2⟩ | ⟨_, z⟩
        · rw [mem_more, z1, z2]
          exact .inr (.inl rfl)
        · exact mem_more.mpr (.inl ((h.2 _ _).mpr z))
      have := f _ this _ m2 rfl
      simp only [Pr2.mk.injEq] at this
      exact ne this.2
  · obtain ⟨v, e1, ne⟩ := getD_ne h2
    have hv := (get_mem h.1).mp e1
    have := f _ (mem_more.mpr (.inl ((h.2 _ _).mpr hv))) _ m1 rfl
    simp only [Pr2.mk.injEq] at this
    exact ne this.2
/-! the searches -/
def rowP (E : List St) (st : St) (x : Pc × List St) : List (Pc × List St) := E.filterMap fun e => if e ∈ x.2 then none else (extT x.1 st e).map fun m => (m, x.2 ++ [e])
def rowL (E : List St) (st : St) (x : List Pr2 × List St) : List (List Pr2 × List St) := (E.filter fun e => decide (e.2.1 = st.2.1) && decide (e ∉ x.2)).filterMap fun e => if consB (moreT x.1 st e) then some (moreT x.1 st e, x.2 ++ [e]) else none
def stepP (E : List St) (f : List (Pc × List St)) (st : St) : List (Pc × List St) := f.flatMap (rowP E st)
def stepL (E : List St) (f : List (List Pr2 × List St)) (st : St) : List (List Pr2 × List St) := f.flatMap (rowL E st)
def clP (E : List St) (f : List Pc) (c : List St) : List Pc := (c.foldl (stepP E) (f.map fun p => (p, []))).map (·.1)
def clL (E : List St) (f : List (List Pr2)) (c : List St) : List (List Pr2) := (c.foldl (stepL E) (f.map fun p => (p, []))).map (·.1)
def placT (E : List St) (cs : List (List St)) : List Pc := cs.foldl (clP E) [[]]
def rowsT (E : List St) (cs : List (List St)) : List (List Pr2) := cs.foldl (clL E) [[]]
inductive F2 {α β : Type} (S : α → β → Prop) : List α → List β → Prop where
  | nil : F2 S [] []
  | cons {a : α} {b : β} {as : List α} {bs : List β} : S a b → F2 S as bs → F2 S (a :: as) (b :: bs)
section
variable {α β γ δ : Type} {S : α → β → Prop} {S' : γ → δ → Prop}
theorem F2.append {as as' : List α} {bs bs' : List β} (h : F2 S as bs) (h' : F2 S as' bs') : F2 S (as ++ as') (bs ++ bs') := by
  induction h with
  | nil => exact h'
  | cons h1 _ ih => exact .cons h1 ih
theorem F2.flatMap {as : List α} {bs : List β} {f : α → List γ} {g : β → List δ} (h : F2 S as bs) (hf : ∀ a b, S a b → F2 S' (f a) (g b)) : F2 S' (as.flatMap f) (bs.flatMap g) := by
  induction h with
  | nil => exact .nil
  | cons h1 _ ih =>
    rw [List.flatMap_cons, List.flatMap_cons]
    exact (hf _ _ h1).append ih
theorem F2.map {as : List α} {bs : List β} {f : α → γ} {g : β → δ} (h : F2 S as bs) (hf : ∀ a b, S a b → S' (f a) (g b)) : F2 S' (as.map f) (bs.map g) := by
  induction h with
  | nil => exact .nil
  | cons h1 _ ih => exact .cons (hf _ _ h1) ih
theorem F2.eq {as : List α} {bs : List β} {f : α → γ} {g : β → γ} (h : F2 S as bs) (hf : ∀ a b, S a b → f a = g b) : as.map f = bs.map g := by
  induction h with
  | nil => rfl
  | cons h1 _ ih => rw [List.map_cons, List.map_cons, hf _ _ h1, ih]
end
/-- alike behind the steps of names ks -/
def Sm1 (ks : List Tx) (x : Pc) (y : List Pr2) : Prop := R x y ∧ ∀ a, a ∈ keys x ↔ a ∈ ks
def Sm2 (ks : List Tx) (x : Pc × List St) (y : List Pr2 × List St) : Prop := Sm1 ks x.1 y.1 ∧ x.2 = y.2
theorem row_rel {ks : List Tx} {x : Pc × List St} {y : List Pr2 × List St} {st : St} (h : Sm2 ks x y) : ∀ E : List St, F2 (Sm2 (ks ++ [st.1, st.2.2])) (rowP E st x) (rowL E st y)
  | [] => .nil
  | e :: E => by
    have ih := row_rel (st := st) h E
    unfold rowP rowL at *
    obtain ⟨⟨hR, hk⟩, hu⟩ := h
    rw [List.filterMap_cons]
    by_cases c : e ∈ x.2
    · rw [if_pos c, List.filter_cons_of_neg (by rw [← hu]; simp [c])]
      exact ih
    · rw [if_neg c]
      cases q : extT x.1 st e with
      | some m =>
        obtain ⟨h1, h2, h3⟩ := ext_some hR q
        rw [List.filter_cons_of_pos (by rw [← hu]; simp [c, h1]), List.filterMap_cons, if_pos h2.cons]
        refine .cons ⟨⟨h2, fun a => ?_⟩, by rw [hu]⟩ ih
        rw [h3, hk]
        simp only [List.mem_append, List.mem_cons, List.not_mem_nil, or_false]
        constructor
        · rintro (z | z | z)
          · exact .inr (.inl z)
          · exact .inr (.inr z)
          · exact .inl z
        · rintro (z | z | z)
          · exact .inr (.inr z)
          · exact .inl z
          · exact .inr (.inl z)
      | none =>
        by_cases hl : e.2.1 = st.2.1
        · rw [List.filter_cons_of_pos (by rw [← hu]; simp [c, hl]), List.filterMap_cons, ext_none hR q hl]
          exact ih
        · rw [List.filter_cons_of_neg (by simp [hl])]
          exact ih
theorem fold_rel (E : List St) : ∀ (c : List St) {ks : List Tx} {f : List (Pc × List St)} {g : List (List Pr2 × List St)}, F2 (Sm2 ks) f g → F2 (Sm2 (ks ++ namesOf c)) (c.foldl (stepP E) f) (c.foldl (stepL E) g)
  | [], ks, f, g, h => by
    have : ks ++ namesOf [] = ks := by simp [namesOf]
    rw [this]
    exact h
  | st :: c, ks, f, g, h => by
    have e : ks ++ namesOf (st :: c) = (ks ++ [st.1, st.2.2]) ++ namesOf c := by simp [namesOf]
    rw [e]
    exact fold_rel E c (h.flatMap fun a b hab => row_rel hab E)
theorem cl_rel (E : List St) {c : List St} {ks : List Tx} {f : List Pc} {g : List (List Pr2)} (h : F2 (Sm1 ks) f g) : F2 (Sm1 (ks ++ namesOf c)) (clP E f c) (clL E g c) :=
  (fold_rel E c (h.map (S' := Sm2 ks) fun a b hab => ⟨hab, rfl⟩)).map fun a b hab => hab.1
theorem place_rel (E : List St) (cs : List (List St)) : F2 (Sm1 (namesOf cs.flatten)) (placT E cs) (rowsT E cs) := by
  have key : ∀ (cs : List (List St)) {ks : List Tx} {f : List Pc} {g : List (List Pr2)}, F2 (Sm1 ks) f g → F2 (Sm1 (ks ++ namesOf cs.flatten)) (cs.foldl (clP E) f) (cs.foldl (clL E) g) := by
    intro cs
    induction cs with
    | nil =>
      intro ks f g h
      have : ks ++ namesOf ([] : List (List St)).flatten = ks := by simp [namesOf]
      rw [this]
      exact h
    | cons c cs ih =>
      intro ks f g h
      have e : ks ++ namesOf (c :: cs).flatten = (ks ++ namesOf c) ++ namesOf cs.flatten := by simp [namesOf]
      rw [e]
      exact ih (cl_rel E h)
  exact key cs (ks := []) (.cons ⟨⟨List.nodup_nil, fun x y => by simp⟩, fun a => by simp [keys]⟩ .nil)
/-! the edges in another order -/
theorem flat_perm {α β : Type} {f g : α → List β} (h : ∀ a, (f a).Perm (g a)) : ∀ xs : List α, (xs.flatMap f).Perm (xs.flatMap g)
  | [] => .refl _
  | x :: r => by
    rw [List.flatMap_cons, List.flatMap_cons]
    exact (h x).append (flat_perm h r)
theorem perm_flat {α β : Type} {f : α → List β} {xs ys : List α} (h : xs.Perm ys) : (xs.flatMap f).Perm (ys.flatMap f) := by
  induction h with
  | nil => exact .refl _
  | cons x _ ih =>
    rw [List.flatMap_cons, List.flatMap_cons]
    exact ih.append_left _
  | swap x y l =>
    rw [List.flatMap_cons, List.flatMap_cons, List.flatMap_cons, List.flatMap_cons, ← List.append_assoc, ← List.append_assoc]
    exact List.perm_append_comm.append_right _
  | trans _ _ i1 i2 => exact i1.trans i2
theorem rows_perm {E E' : List St} (h : E.Perm E') (cs : List (List St)) : (rowsT E cs).Perm (rowsT E' cs) := by
  have st1 : ∀ (f f' : List (List Pr2 × List St)) (st : St), f.Perm f' → (stepL E f st).Perm (stepL E' f' st) := fun f f' st hf => by
    unfold stepL
    refine (perm_flat hf).trans (flat_perm (fun x => ?_) f')
    unfold rowL
    exact (h.filter _).filterMap _
  have fo : ∀ (c : List St) (f f' : List (List Pr2 × List St)), f.Perm f' → (c.foldl (stepL E) f).Perm (c.foldl (stepL E') f') := by
    intro c
    induction c with
    | nil => exact fun f f' hf => hf
    | cons st c ih => exact fun f f' hf => ih _ _ (st1 f f' st hf)
  have key : ∀ (cs : List (List St)) (f f' : List (List Pr2)), f.Perm f' → (cs.foldl (clL E) f).Perm (cs.foldl (clL E') f') := by
    intro cs
    induction cs with
    | nil => exact fun f f' hf => hf
    | cons c cs ih => exact fun f f' hf => ih _ _ ((fo c _ _ (hf.map _)).map _)
  exact key cs _ _ (.refl _)
/-! one row -/
def rowOfP (ns : List Tx) (pl : Pc) : List Tx := ns.map fun n => (getP pl n).getD []
def rowOfL (ps : List Pr2) : List Tx := (srt (dd ps)).map (·.b)
theorem row_eq {ss : List St} {pl : Pc} {ps : List Pr2} (h : Sm1 (namesOf ss) pl ps) : rowOfP (usedT ss) pl = rowOfL ps := by
  obtain ⟨hR, hk⟩ := h
  have und : (usedT ss).Nodup := nodup_srt (nodup_dd _)
  have us : (usedT ss).Pairwise fun x y => le x y = true := List.pairwise_mergeSort trans total _
  have hin : ∀ n ∈ usedT ss, ∃ v, getP pl n = some v := fun n hn => by
    have : n ∈ keys pl := by
      rw [hk]
      unfold usedT at hn
      rwa [mem_srt, mem_dd] at hn
    cases c : getP pl n with
    | some v => exact ⟨v, rfl⟩
    | none => exact absurd this (get_none.mp c)
  have hsrt : srt (dd ps) = (usedT ss).map fun n => (⟨n, (getP pl n).getD []⟩ : Pr2) := by
    have nd2 : ((usedT ss).map fun n => (⟨n, (getP pl n).getD []⟩ : Pr2)).Nodup := by
      rw [List.nodup_iff_pairwise_ne, List.pairwise_map]
      exact und.imp fun {x y} ne e => ne (by simpa using congrArg Pr2.a e)
    have p : (dd ps).Perm ((usedT ss).map fun n => (⟨n, (getP pl n).getD []⟩ : Pr2)) := by
      refine (List.perm_ext_iff_of_nodup (nodup_dd _) nd2).mpr fun q => ?_
      obtain ⟨x, y⟩ := q
      rw [mem_dd, hR.2, List.mem_map]
      constructor
      · intro hm
        have hx : x ∈ usedT ss := by
          unfold usedT
          rw [mem_srt, mem_dd, ← hk]
          exact List.mem_map.mpr ⟨_, hm, rfl⟩
        exact ⟨x, hx, by rw [(get_mem hR.1).mpr hm]; rfl⟩
      · rintro ⟨n, hn, e⟩
        obtain ⟨v, hv⟩ := hin n hn
        rw [hv] at e
        cases e
        exact (get_mem hR.1).mp hv
    rw [srt_perm p]
    unfold srt
    refine List.mergeSort_of_pairwise ?_
    rw [List.pairwise_map]
    have both := us.and und
    refine both.imp fun {x y} ⟨h1, h2⟩ => ?_
    show (if x = y then _ else le x y) = true
    rw [if_neg h2]
    exact h1
  unfold rowOfP rowOfL
  rw [hsrt, List.map_map]
  rfl
end Pl
end
section
set_option linter.all false
set_option maxRecDepth 100000
/-! PLAIN: bounds of the searches; places are found as placT says. -/
namespace Pl
open Z M En
def BG {X : Type} (sz : X → Nat) (m : Nat) (f : List (X × List St)) : Prop := f.length ≤ 6 ^ m ∧ ∀ x ∈ f, sz x.1 ≤ 2 * m ∧ x.2.length ≤ m
theorem flat_le {α β : Type} {g : α → List β} {k : Nat} : ∀ {xs : List α}, (∀ x ∈ xs, (g x).length ≤ k) → (xs.flatMap g).length ≤ xs.length * k
  | [], _ => Nat.zero_le _
  | x :: r, h => by
    have h1 := h x List.mem_cons_self
    have h2 := flat_le (xs := r) fun y hy => h y (List.mem_cons_of_mem _ hy)
    rw [List.flatMap_cons, List.length_append, List.length_cons, Nat.succ_mul]
    omega
theorem BG.step {X : Type} {sz : X → Nat} {m : Nat} {f : List (X × List St)} {row : X × List St → List (X × List St)} (h : BG sz m f) (hr : ∀ x, (row x).length ≤ 6 ∧ ∀ y ∈ row x, sz y.1 ≤ sz x.1 + 2 ∧ y.2.length = x.2.length + 1) : BG sz (m + 1) (f.flatMap row) := by
  refine ⟨?_, fun y hy => ?_⟩
  · have h1 := flat_le (g := row) (k := 6) (xs := f) fun x _ => (hr x).1
    have h2 := h.1
    rw [Nat.pow_succ]
    omega
  · obtain ⟨x, hx, hy⟩ := List.mem_flatMap.mp hy
    have h1 := (hr x).2 y hy
    have h2 := h.2 x hx
    omega
theorem pow5 {m : Nat} (h : m ≤ 5) : 6 ^ m ≤ 7776 := Nat.le_trans (Nat.pow_le_pow_right (by omega) h) (by decide)
theorem filterMap_le {α β : Type} {g : α → Option β} (xs : List α) : (xs.filterMap g).length ≤ xs.length := List.length_filterMap_le g xs
theorem rowP_ok {E : List St} (hE : E.length ≤ 6) (st : St) (x : Pc × List St) : (rowP E st x).length ≤ 6 ∧ ∀ y ∈ rowP E st x, y.1.length ≤ x.1.length + 2 ∧ y.2.length = x.2.length + 1 := by
  unfold rowP
  refine ⟨Nat.le_trans (filterMap_le _) hE, fun y hy => ?_⟩
  obtain ⟨e, he, h⟩ := List.mem_filterMap.mp hy
  split at h
  · cases h
  · obtain ⟨m, hm, rfl⟩ := Option.map_eq_some_iff.mp h
    refine ⟨?_, by simp⟩
    unfold extT at hm
    split at hm
    · split at hm
      · cases hm
        have h1 := put_len st.1 e.1 x.1
        have h2 := put_len st.2.2 e.2.2 (putP x.1 st.1 e.1)
        show (putP (putP x.1 st.1 e.1) st.2.2 e.2.2).length ≤ x.1.length + 2
        omega
      · cases hm
    · cases hm
theorem rowL_ok {E : List St} (hE : E.length ≤ 6) (st : St) (x : List Pr2 × List St) : (rowL E st x).length ≤ 6 ∧ ∀ y ∈ rowL E st x, y.1.length ≤ x.1.length + 2 ∧ y.2.length = x.2.length + 1 := by
  unfold rowL
  refine ⟨Nat.le_trans (filterMap_le _) (Nat.le_trans (List.length_filter_le _ _) hE), fun y hy => ?_⟩
  obtain ⟨e, he, h⟩ := List.mem_filterMap.mp hy
  split at h
  · cases h
    refine ⟨?_, by simp⟩
    show (moreT x.1 st e).length ≤ _
    unfold moreT
    have := List.length_filter_le (fun p => decide (p ∉ x.1)) ([⟨st.1, e.1⟩, ⟨st.2.2, e.2.2⟩] : List Pr2)
    rw [List.length_append]
    have e2 : ([⟨st.1, e.1⟩, ⟨st.2.2, e.2.2⟩] : List Pr2).length = 2 := rfl
    omega
  · cases h
def enF (x : Pc × List St) : D := .tup [dctT x.1, .lst (x.2.map en)]
theorem optD_isnot (m : Option Pc) : oIsNot (optD m) .non = some (.bl m.isSome) := by
  cases m <;> rfl
theorem take_at {α : Type} {xs : List α} {i : Nat} {x : α} (h : xs[i]? = some x) : xs.take (i + 1) = xs.take i ++ [x] := by
  rw [List.take_succ, h]
  rfl
section
variable {d0 d2 d3 d4 : D} {E : List St} {st : St} {x : Pc × List St} {L : List (Pc × List St)} {Q : Fl → Bag → Prop} {b : Bag}
theorem pl_edges (hE : E.length ≤ 6) (hL : L.length ≤ 50000) (hx : x.1.length ≤ 100 ∧ x.2.length ≤ 100) (d9 d10 : D) (hq : ∀ d9 d10, Q (.nx [d0, .lst (E.map en), d2, d3, d4, en st, .lst ((L ++ rowP E st x).map enF), dctT x.1, .lst (x.2.map en), d9, d10]) b) :
    W (sFor (iOf (xV 1)) (gN 9) (sAnd (sSet (gN 10) (xIf (x2 oIn (xV 9) (xV 8)) (xC .non) (xQ Zp.f_extended_places (xApp (xL [(xV 7), (xV 5), (xV 9)]) [])))) (sIf (x2 oIsNot (xV 10) (xC .non)) (sApp 6 (xTup (xL [(xV 10), (x2 oAdd (xV 8) (xLst (xL [(xV 9)])))]))) sPass)) [d0, .lst (E.map en), d2, d3, d4, en st, .lst (L.map enF), dctT x.1, .lst (x.2.map en), d9, d10]) Q b := by
  refine W_sFor ?_
  rw [W_iOf, W_xV]
  refine ⟨E.map en, rfl, fun i env b1 => b1 = b ∧ ∃ d9 d10, env = [d0, .lst (E.map en), d2, d3, d4, en st, .lst ((L ++ rowP (E.take i) st x).map enF), dctT x.1, .lst (x.2.map en), d9, d10], ⟨rfl, _, _, by rw [List.take_zero]; show _ = [_, _, _, _, _, _, D.lst ((L ++ []).map enF), _, _, _, _]; rw [List.append_nil]⟩, ?_, ?_⟩
  · rintro i d env b1 hd ⟨rfl, d9, d10, rfl⟩
    rw [List.getElem?_map] at hd
    obtain ⟨e, he, rfl⟩ := Option.map_eq_some_iff.mp hd
    have hi := (List.getElem?_eq_some_iff.mp he).1
    refine ⟨_, rfl, ?_⟩
    rw [W_sAnd, W_sSet, W_xIf]
    simp only [W_x2, W_xV, W_xC, W_xQ, W_xApp, xL_cons, xL_nil, W_xCons, W_xNil, List.append_nil]
    have htk : rowP (E.take (i + 1)) st x = rowP (E.take i) st x ++ rowP [e] st x := by
      unfold rowP
      rw [take_at he, List.filterMap_append]
    rw [htk]
    have hlen : (rowP (E.take i) st x).length ≤ 6 := by
      unfold rowP
      refine Nat.le_trans (filterMap_le _) ?_
      rw [List.length_take]
      omega
    obtain ⟨r, hr, hr2⟩ := oIn3_ex e x.2
    refine ⟨_, hr, _, rfl, fun z => ?_, fun z => ?_⟩
    · have hin : e ∈ x.2 := hr2.mp z
      refine ⟨_, rfl, ?_⟩
      rw [Nx_nx, W_sIf, W_x2, W_xV, W_xC]
      refine ⟨.bl false, rfl, false, rfl, (fun z => by cases z), fun _ => ?_⟩
      rw [W_sPass]
      have : rowP [e] st x = [] := by
        unfold rowP
        simp [hin]
      rw [this, List.append_nil]
      exact ⟨rfl, _, _, rfl⟩
    · have hin : e ∉ x.2 := fun q => by
        rw [hr2.mpr q] at z
        cases z
      refine ((ext_spec (pl := x.1) (by omega) st e) _).mono fun d b' ed => ?_
      subst ed
      refine ⟨_, rfl, ?_⟩
      rw [Nx_nx, W_sIf, W_x2, W_xV, W_xC]
      refine ⟨_, optD_isnot (extT x.1 st e), _, rfl, fun z2 => ?_, fun z2 => ?_⟩
      · obtain ⟨m, hm⟩ := Option.isSome_iff_exists.mp z2
        rw [hm]
        rw [W_sApp]
        simp only [W_xTup, xL_cons, xL_nil, W_xCons, W_xNil, W_xV, W_x2, W_xLst]
        refine ⟨_, oAdd_lst (by rw [List.length_map]; unfold lim; omega) (show 1 ≤ lim by decide), _, rfl, by rw [List.length_map, List.length_append]; unfold lim; omega, trivial, en e, optD (some m), ?_⟩
        have : rowP [e] st x = [(m, x.2 ++ [e])] := by
          unfold rowP
          simp [hin, hm]
        rw [this, ← List.append_assoc, List.map_append (l₂ := [(m, x.2 ++ [e])])]
        have e3 : enF (m, x.2 ++ [e]) = .tup [dctT m, .lst (x.2.map en ++ [en e])] := by
          unfold enF
          rw [List.map_append]
          rfl
        rw [List.map_cons, e3]
        rfl
      · have hm : extT x.1 st e = none := by
          cases c : extT x.1 st e with
          | none => rfl
          | some m => rw [c] at z2; cases z2
        rw [hm, W_sPass]
        have : rowP [e] st x = [] := by
          unfold rowP
          simp [hin, hm]
        rw [this, List.append_nil]
        exact ⟨rfl, _, _, rfl⟩
  · rintro env b1 ⟨rfl, d9, d10, rfl⟩
    rw [List.length_map, List.take_length]
    exact hq _ _
theorem pl_found (hE : E.length ≤ 6) {m : Nat} (hm : m ≤ 4) {f : List (Pc × List St)} (hf : BG List.length m f) (d7 d8 d9 d10 : D) (hq : ∀ d7 d8 d9 d10, Q (.nx [d0, .lst (E.map en), d2, .lst (f.map enF), d4, en st, .lst ((stepP E f st).map enF), d7, d8, d9, d10]) b) :
    W (sFor (iOf (xV 3)) (gT [(gN 7), (gN 8)]) (sFor (iOf (xV 1)) (gN 9) (sAnd (sSet (gN 10) (xIf (x2 oIn (xV 9) (xV 8)) (xC .non) (xQ Zp.f_extended_places (xApp (xL [(xV 7), (xV 5), (xV 9)]) [])))) (sIf (x2 oIsNot (xV 10) (xC .non)) (sApp 6 (xTup (xL [(xV 10), (x2 oAdd (xV 8) (xLst (xL [(xV 9)])))]))) sPass))) [d0, .lst (E.map en), d2, .lst (f.map enF), d4, en st, .lst [], d7, d8, d9, d10]) Q b := by
  have h7 := pow5 (m := m) (by omega)
  refine W_sFor ?_
  rw [W_iOf, W_xV]
  refine ⟨f.map enF, rfl, fun i env b1 => b1 = b ∧ ∃ d7 d8 d9 d10, env = [d0, .lst (E.map en), d2, .lst (f.map enF), d4, en st, .lst ((stepP E (f.take i) st).map enF), d7, d8, d9, d10], ⟨rfl, _, _, _, _, rfl⟩, ?_, ?_⟩
  · rintro i d env b1 hd ⟨rfl, d7, d8, d9, d10, rfl⟩
    rw [List.getElem?_map] at hd
    obtain ⟨x, hx, rfl⟩ := Option.map_eq_some_iff.mp hd
    have hxm := List.mem_of_getElem? hx
    have hb := hf.2 x hxm
    refine ⟨_, rfl, ?_⟩
    refine pl_edges (d3 := .lst (f.map enF)) (L := stepP E (f.take i) st) hE ?_ ⟨by omega, by omega⟩ d9 d10 fun d9 d10 => ⟨rfl, dctT x.1, .lst (x.2.map en), d9, d10, ?_⟩
    · unfold stepP
      refine Nat.le_trans (flat_le (k := 6) fun x _ => (rowP_ok hE st x).1) ?_
      have := hf.1
      rw [List.length_take]
      omega
    · have : stepP E (f.take (i + 1)) st = stepP E (f.take i) st ++ rowP E st x := by
        unfold stepP
        rw [take_at hx, List.flatMap_append]
        simp
      rw [this]
  · rintro env b1 ⟨rfl, d7, d8, d9, d10, rfl⟩
    rw [List.length_map, List.take_length]
    exact hq _ _ _ _
end
theorem BG.stepP {E : List St} (hE : E.length ≤ 6) {m : Nat} {f : List (Pc × List St)} (h : BG List.length m f) (st : St) : BG List.length (m + 1) (stepP E f st) := h.step fun x => rowP_ok hE st x
theorem BG.foldP {E : List St} (hE : E.length ≤ 6) : ∀ (c : List St) {m : Nat} {f : List (Pc × List St)}, BG List.length m f → BG List.length (m + c.length) (c.foldl (Pl.stepP E) f)
  | [], m, f, h => h
  | st :: c, m, f, h => by
    have := BG.foldP hE c (h.stepP hE st)
    rw [List.length_cons, show m + (c.length + 1) = m + 1 + c.length from by omega]
    exact this
section
variable {d0 d2 : D} {E : List St} {Q : Fl → Bag → Prop} {b : Bag}
theorem pl_steps (hE : E.length ≤ 6) {c : List St} {m : Nat} (hm : m + c.length ≤ 5) {f : List (Pc × List St)} (hf : BG List.length m f) (d5 d6 d7 d8 d9 d10 : D) (hq : ∀ d5 d6 d7 d8 d9 d10, Q (.nx [d0, .lst (E.map en), d2, .lst ((c.foldl (stepP E) f).map enF), .tup (c.map en), d5, d6, d7, d8, d9, d10]) b) :
    W (sFor (iOf (xV 4)) (gN 5) (sAnd (sSet (gN 6) (xLst (xL []))) (sAnd (sFor (iOf (xV 3)) (gT [(gN 7), (gN 8)]) (sFor (iOf (xV 1)) (gN 9) (sAnd (sSet (gN 10) (xIf (x2 oIn (xV 9) (xV 8)) (xC .non) (xQ Zp.f_extended_places (xApp (xL [(xV 7), (xV 5), (xV 9)]) [])))) (sIf (x2 oIsNot (xV 10) (xC .non)) (sApp 6 (xTup (xL [(xV 10), (x2 oAdd (xV 8) (xLst (xL [(xV 9)])))]))) sPass)))) (sSet (gN 3) (xA (o1 oList) (xL [(xV 6)]))))) [d0, .lst (E.map en), d2, .lst (f.map enF), .tup (c.map en), d5, d6, d7, d8, d9, d10]) Q b := by
  refine W_sFor ?_
  rw [W_iOf, W_xV]
  refine ⟨c.map en, rfl, fun i env b1 => b1 = b ∧ ∃ d5 d6 d7 d8 d9 d10, env = [d0, .lst (E.map en), d2, .lst (((c.take i).foldl (stepP E) f).map enF), .tup (c.map en), d5, d6, d7, d8, d9, d10], ⟨rfl, _, _, _, _, _, _, rfl⟩, ?_, ?_⟩
  · rintro i d env b1 hd ⟨rfl, d5, d6, d7, d8, d9, d10, rfl⟩
    rw [List.getElem?_map] at hd
    obtain ⟨st, hs, rfl⟩ := Option.map_eq_some_iff.mp hd
    have hi := (List.getElem?_eq_some_iff.mp hs).1
    refine ⟨_, rfl, ?_⟩
    rw [W_sAnd, W_sSet, W_xLst, xL_nil, W_xNil]
    refine ⟨_, rfl, ?_⟩
    rw [Nx_nx, W_sAnd]
    have hb := hf.foldP hE (c.take i)
    rw [List.length_take, Nat.min_eq_left (by omega)] at hb
    refine pl_found hE (m := m + i) (by omega) hb d7 d8 d9 d10 fun d7 d8 d9 d10 => ?_
    rw [Nx_nx, W_sSet]
    simp only [W_xA, xL_cons, xL_nil, W_xCons, W_xNil, W_xV]
    refine ⟨_, rfl, _, rfl, trivial, en st, .lst ((stepP E ((c.take i).foldl (stepP E) f) st).map enF), d7, d8, d9, d10, ?_⟩
    rw [take_at hs, List.foldl_append]
    rfl
  · rintro env b1 ⟨rfl, d5, d6, d7, d8, d9, d10, rfl⟩
    rw [List.length_map, List.take_length]
    exact hq _ _ _ _ _ _
end
def BP0 (m : Nat) (f : List Pc) : Prop := f.length ≤ 6 ^ m ∧ ∀ p ∈ f, p.length ≤ 2 * m
theorem BP0.pair {m : Nat} {f : List Pc} (h : BP0 m f) : BG List.length m (f.map fun p => (p, ([] : List St))) := by
  refine ⟨by rw [List.length_map]; exact h.1, fun x hx => ?_⟩
  obtain ⟨p, hp, rfl⟩ := List.mem_map.mp hx
  exact ⟨h.2 p hp, Nat.zero_le _⟩
theorem BP0.cl {E : List St} (hE : E.length ≤ 6) (c : List St) {m : Nat} {f : List Pc} (h : BP0 m f) : BP0 (m + c.length) (clP E f c) := by
  have := h.pair.foldP hE c
  unfold clP
  refine ⟨by rw [List.length_map]; exact this.1, fun p hp => ?_⟩
  obtain ⟨x, hx, rfl⟩ := List.mem_map.mp hp
  exact (this.2 x hx).1
theorem BP0.fold {E : List St} (hE : E.length ≤ 6) : ∀ (cs : List (List St)) {m : Nat} {f : List Pc}, BP0 m f → BP0 (m + cs.flatten.length) (cs.foldl (clP E) f)
  | [], m, f, h => h
  | c :: cs, m, f, h => by
    have := BP0.fold hE cs (h.cl hE c)
    rw [List.flatten_cons, List.length_append, ← Nat.add_assoc]
    exact this
theorem plac_bnd {E : List St} (hE : E.length ≤ 6) (cs : List (List St)) : BP0 cs.flatten.length (placT E cs) := by
  have := BP0.fold hE cs (m := 0) (f := [[]]) ⟨by simp, fun p hp => by rw [List.mem_singleton.mp hp]; exact Nat.zero_le _⟩
  rw [Nat.zero_add] at this
  exact this
theorem take_flat_le {cs : List (List St)} {i : Nat} {c : List St} (h : cs[i]? = some c) : (cs.take i).flatten.length + c.length ≤ cs.flatten.length := by
  have hi := (List.getElem?_eq_some_iff.mp h).1
  have e : cs = cs.take i ++ c :: cs.drop (i + 1) := by
    have := (List.take_append_drop i cs).symm
    rw [List.drop_eq_getElem_cons hi, (List.getElem?_eq_some_iff.mp h).2] at this
    exact this
  have := congrArg (fun cs => cs.flatten.length) e
  simp only [List.flatten_append, List.flatten_cons, List.length_append] at this
  omega
theorem places_spec {E : List St} (hE : E.length ≤ 6) {cs : List (List St)} (h5 : cs.flatten.length ≤ 5) : Pv Zp.f_placements [.tup (cs.map fun c => .tup (c.map en)), .lst (E.map en), .dct []] (.lst ((placT E cs).map dctT)) := by
  intro b
  unfold Zp.f_placements runD
  rw [W_bnd]
  unfold Zp.s_placements
  rw [W_sAnd, W_sSet]
  simp only [W_xLst, xL_cons, xL_nil, W_xCons, W_xNil, W_xV]
  refine ⟨_, rfl, ?_⟩
  rw [Nx_nx, W_sAnd]
  refine W_sFor ?_
  rw [W_iOf, W_xV]
  refine ⟨cs.map fun c => .tup (c.map en), rfl, fun i env b1 => b1 = b ∧ ∃ d4 d5 d6 d7 d8 d9 d10, env = [.tup (cs.map fun c => .tup (c.map en)), .lst (E.map en), .dct [], .lst ((placT E (cs.take i)).map dctT), d4, d5, d6, d7, d8, d9, d10], ⟨rfl, _, _, _, _, _, _, _, rfl⟩, ?_, ?_⟩
  · rintro i d env b1 hd ⟨rfl, d4, d5, d6, d7, d8, d9, d10, rfl⟩
    rw [List.getElem?_map] at hd
    obtain ⟨c, hc, rfl⟩ := Option.map_eq_some_iff.mp hd
    have hl := take_flat_le hc
    have hb := plac_bnd hE (cs.take i)
    have h7 := pow5 (m := (cs.take i).flatten.length) (by omega)
    have h8 := hb.1
    refine ⟨_, rfl, ?_⟩
    rw [W_sAnd, W_sSet]
    refine W_xLcT (placT E (cs.take i)) dctT (fun p => enF (p, [])) ?_
    rw [W_iOf, W_xV]
    refine ⟨_, rfl, rfl, by unfold lim; omega, fun p hp => ⟨_, rfl, fun b => ?_⟩, _, rfl, ?_⟩
    · simp only [W_xTup, xL_cons, xL_nil, W_xCons, W_xNil, W_xV, W_xLst]
      exact ⟨rfl, trivial⟩
    rw [Nx_nx, W_sAnd]
    have e1 : (placT E (cs.take i)).map (fun p => enF (p, [])) = ((placT E (cs.take i)).map fun p => (p, ([] : List St))).map enF := by
      rw [List.map_map]
      rfl
    rw [e1]
    refine pl_steps hE (c := c) (m := (cs.take i).flatten.length) (by omega) hb.pair d5 d6 d7 d8 d9 d10 fun d5 d6 d7 d8 d9 d10 => ?_
    rw [Nx_nx, W_sSet]
    have hb2 := hb.pair.foldP hE c
    have h9 := pow5 (m := (cs.take i).flatten.length + c.length) (by omega)
    have h10 := hb2.1
    refine W_xLcT (c.foldl (stepP E) ((placT E (cs.take i)).map fun p => (p, ([] : List St)))) enF (fun x => dctT x.1) ?_
    rw [W_iOf, W_xV]
    refine ⟨_, rfl, rfl, Nat.le_trans h10 (Nat.le_trans h9 (by decide)), fun p hp => ⟨_, rfl, fun b => ?_⟩, _, rfl, rfl, .tup (c.map en), d5, d6, d7, d8, d9, d10, ?_⟩
    · rw [W_xV]
      exact ⟨rfl, rfl⟩
    · have e2 : placT E (cs.take (i + 1)) = clP E (placT E (cs.take i)) c := by
        unfold placT
        rw [take_at hc, List.foldl_append]
        rfl
      rw [e2]
      unfold clP
      rw [List.map_map]
      rfl
  · rintro env b1 ⟨rfl, d4, d5, d6, d7, d8, d9, d10, rfl⟩
    rw [List.length_map, List.take_length, Nx_nx, W_sRet, W_xV]
    exact W_ret.mpr rfl
end Pl
end
section
set_option linter.all false
set_option maxRecDepth 100000
/-! PLAIN: the law's own rows. -/
namespace Pl
open Z M En
/-! pairs as data -/
theorem flatP (x : Pr2) : flatT (en x) = true := rfl
theorem plnP (x : Pr2) : pln (en x) = true ∧ dep (en x) = 1 ∧ shp (en x) = true := ⟨rfl, rfl, rfl⟩
theorem sortableP (xs : List Pr2) (h : xs.length ≤ lim) : sortable (xs.map en) = true := by
  unfold sortable
  simp only [Bool.and_eq_true, Bool.or_eq_true]
  exact ⟨⟨⟨⟨all_en (fun a => all_en (fun b => rfl) xs) xs, all_en (fun a => rfl) xs⟩, all_en (fun a => rfl) xs⟩, .inl (all_en (fun a => rfl) xs)⟩, decide_eq_true (by rw [List.length_map]; exact h)⟩
theorem oSetP (xs : List Pr2) (h : xs.length ≤ 60) : oSet (.lst (xs.map en)) = some (.set ((dd xs).map en)) := by
  show (if setable (xs.map en) then some (D.set (dedup (xs.map en))) else none) = _
  rw [if_pos, dedup_en]
  unfold setable
  rw [all_en flatP, dedup_en, decide_eq_true (show ((dd xs).map en).length ≤ 60 from by rw [List.length_map]; exact Nat.le_trans (length_dd xs) h)]
  simp
theorem oSortSP (xs : List Pr2) (h : xs.length ≤ lim) : oSortS (.set (xs.map en)) = some (.lst ((srt xs).map en)) := by
  show (if sortable (xs.map en) && ((xs.map en).all flat1 || (xs.map en).all flatT) then some (D.lst (sortL (xs.map en))) else none) = _
  rw [sortableP xs h, all_en flatP, sortL_en]
  simp
theorem oInP_ex (x : Pr2) (xs : List Pr2) : ∃ r, oIn (en x) (.lst (xs.map en)) = some (.bl r) ∧ (r = true ↔ x ∈ xs) := by
  refine ⟨decide (x ∈ xs), ?_, decide_eq_true_iff⟩
  rw [oIn_lst, (plnP x).2.2, all_en (fun a => (plnP a).2.2), inD_en]
  rfl
/-! rows as data -/
structure Rw where
  r : List Tx
  deriving DecidableEq
def leL : List Tx → List Tx → Bool
  | [], _ => true
  | _ :: _, [] => false
  | x :: xs, y :: ys => if x = y then leL xs ys else le x y
theorem leL_total : ∀ xs ys : List Tx, (leL xs ys || leL ys xs) = true
  | [], _ => by simp [leL]
  | _ :: _, [] => by simp [leL]
  | x :: xs, y :: ys => by
    rw [leL, leL]
    by_cases e : x = y
    · rw [if_pos e, if_pos e.symm]
      exact leL_total xs ys
    · rw [if_neg e, if_neg (Ne.symm e)]
      exact total x y
theorem leL_anti : ∀ xs ys : List Tx, leL xs ys = true → leL ys xs = true → xs = ys
  | [], [], _, _ => rfl
  | [], _ :: _, _, h => by simp [leL] at h
  | _ :: _, [], h, _ => by simp [leL] at h
  | x :: xs, y :: ys, h1, h2 => by
    rw [leL] at h1 h2
    by_cases e : x = y
    · rw [if_pos e] at h1
      rw [if_pos e.symm] at h2
      rw [e, leL_anti xs ys h1 h2]
    · rw [if_neg e] at h1
      rw [if_neg (Ne.symm e)] at h2
      exact absurd (anti _ _ h1 h2) e
theorem leL_trans : ∀ xs ys zs : List Tx, leL xs ys = true → leL ys zs = true → leL xs zs = true
  | [], _, _, _, _ => by simp [leL]
  | _ :: _, [], _, h, _ => by simp [leL] at h
  | _ :: _, _ :: _, [], _, h => by simp [leL] at h
  | x :: xs, y :: ys, z :: zs, h1, h2 => by
    rw [leL] at h1 h2 ⊢
    by_cases e1 : x = y
    · by_cases e2 : y = z
      · rw [if_pos e1] at h1
        rw [if_pos e2] at h2
        rw [if_pos (e1.trans e2)]
        exact leL_trans xs ys zs h1 h2
      · rw [if_neg e2] at h2
        rw [if_neg (by rw [e1]; exact e2), e1]
        exact h2
    · rw [if_neg e1] at h1
      by_cases e2 : y = z
      · rw [if_neg (by rw [← e2]; exact e1), ← e2]
        exact h1
      · rw [if_neg e2] at h2
        have h3 := trans _ _ _ h1 h2
        by_cases e3 : x = z
        · rw [e3] at h1
          exact absurd (anti _ _ h2 h1) e2
        · rw [if_neg e3]
          exact h3
theorem ltL_le : ∀ xs ys : List Tx, (!ltL (ys.map en) (xs.map en)) = leL xs ys
  | [], [] => rfl
  | [], _ :: _ => rfl
  | _ :: _, [] => rfl
  | x :: xs, y :: ys => by
    show (!(if eqD (en y) (en x) then ltL (ys.map en) (xs.map en) else ltD (en y) (en x))) = _
    rw [leL, eqD_en]
    by_cases e : x = y
    · rw [if_pos e, if_pos (by rw [decide_eq_true e.symm]), ltL_le xs ys]
    · rw [if_neg e, if_neg (by rw [decide_eq_false (Ne.symm e)]; simp)]
      exact le_iff x y
instance : En Rw where
  en x := .tup (x.r.map en)
  le x y := leL x.r y.r
  eq_iff x y := by
    show eqL (x.r.map en) (y.r.map en) = true ↔ _
    rw [eqL_en, decide_eq_true_eq]
    constructor
    · intro h
      cases x
      cases y
      cases h
      rfl
    · rintro rfl
      rfl
  le_iff x y := ltL_le x.r y.r
  total x y := leL_total x.r y.r
  trans x y z := leL_trans x.r y.r z.r
  anti x y h1 h2 := by
    have := leL_anti x.r y.r h1 h2
    cases x
    cases y
    cases this
    rfl
theorem alkL_tx : ∀ xs ys : List Tx, alkL (xs.map en) (ys.map en) = true
  | [], _ => by simp [alkL]
  | _ :: _, [] => by simp [alkL]
  | x :: xs, y :: ys => by
    show (alk (en x) (en y) && alkL (xs.map en) (ys.map en)) = true
    rw [alkL_tx xs ys, Fl1.alk]
    rfl
theorem plnR (x : Rw) : pln (en x) = true ∧ dep (en x) ≤ 1 := by
  refine ⟨plnL_map (fun a : Tx => rfl) x.r, ?_⟩
  show depL (x.r.map en) + 1 ≤ 1
  have := depL_map (f := en) (n := 0) (fun a : Tx => show dep (D.str a) ≤ 0 from Nat.le_refl 0) x.r
  omega
theorem oSortedR (xs : List Rw) (hne : ∀ x ∈ xs, x.r ≠ []) (h : xs.length ≤ lim) : oSorted (.lst (xs.map en)) = some (.lst ((srt xs).map en)) := by
  show (if sortable (xs.map en) then some (D.lst (sortL (xs.map en))) else none) = _
  rw [sortL_en, if_pos]
  unfold sortable
  simp only [Bool.and_eq_true, Bool.or_eq_true]
  refine ⟨⟨⟨⟨all_en (fun a => all_en (fun b => alkL_tx a.r b.r) xs) xs, all_en (fun a => (plnR a).1) xs⟩, all_en (fun a => decide_eq_true (Nat.le_trans (plnR a).2 (by omega))) xs⟩, .inl ?_⟩, decide_eq_true (by rw [List.length_map]; exact h)⟩
  rw [List.all_eq_true]
  intro d hd
  obtain ⟨x, hx, rfl⟩ := List.mem_map.mp hd
  have := hne x hx
  obtain ⟨r⟩ := x
  cases r with
  | nil => exact absurd rfl this
  | cons a r => rfl
theorem shpRows (xs : List Rw) : shp (.lst (xs.map en)) = true := by
  show (plnL (xs.map en) && decide (depL (xs.map en) + 1 ≤ 60)) = true
  have := depL_map (f := en) (n := 1) (fun a : Rw => (plnR a).2) xs
  rw [plnL_map (fun a => (plnR a).1) xs, decide_eq_true (by omega)]
  rfl
def enG (x : List Pr2 × List St) : D := .tup [.lst (x.1.map en), .lst (x.2.map en)]
def twoP (st e : St) : List Pr2 := [⟨st.1, e.1⟩, ⟨st.2.2, e.2.2⟩]
def edgeOk (st : St) (u : List St) (e : St) : Bool := decide (e.2.1 = st.2.1) && decide (e ∉ u)
section
variable {d0 d2 d3 : D} {E : List St} {st : St} {x : List Pr2 × List St} {L : List (List Pr2 × List St)} {Q : Fl → Bag → Prop} {b : Bag}
abbrev bodyL : Sm := sAnd (sSet (gN 9) (x2 oAdd (xV 6) (xLc (iOf (xLst (xL [(xTup (xL [(x2 oIx (xV 4) (xC (.int 0))), (x2 oIx (xV 8) (xC (.int 0)))])), (xTup (xL [(x2 oIx (xV 4) (xC (.int 2))), (x2 oIx (xV 8) (xC (.int 2)))]))]))) (gN 12) (x2 oNotIn (xV 12) (xV 6)) (xV 12)))) (sIf (x2 oEq (x1 oLenS (xA (o1 oSet) (xL [(xLc (iOf (xV 9)) (gN 12) xYes (x2 oIx (xV 12) (xC (.int 0))))]))) (x1 oLenS (xA (o1 oSet) (xL [(xV 9)])))) (sApp 5 (xTup (xL [(xV 9), (x2 oAdd (xV 7) (xLst (xL [(xV 8)])))]))) sPass)
theorem law_body (hL : L.length ≤ 50000) (hx : x.1.length ≤ 50 ∧ x.2.length ≤ 100) (e : St) (d9 d10 d11 d12 : D) (hq : ∀ d9 d12, Q (.nx [d0, .lst (E.map en), d2, d3, en st, .lst ((L ++ if consB (moreT x.1 st e) then [(moreT x.1 st e, x.2 ++ [e])] else []).map enG), .lst (x.1.map en), .lst (x.2.map en), en e, d9, d10, d11, d12]) b) :
    W (bodyL [d0, .lst (E.map en), d2, d3, en st, .lst (L.map enG), .lst (x.1.map en), .lst (x.2.map en), en e, d9, d10, d11, d12]) Q b := by
  have hm : (moreT x.1 st e).length ≤ 60 := by
    unfold moreT
    have := List.length_filter_le (fun p => decide (p ∉ x.1)) (twoP st e)
    have e2 : (twoP st e).length = 2 := rfl
    rw [List.length_append]
    unfold twoP at *
    omega
  rw [W_sAnd, W_sSet, W_x2, W_xV]
  refine W_xLcF (twoP st e) en en (fun p => decide (p ∉ x.1)) ?_
  simp only [W_iOf, W_xLst, W_xTup, xL_cons, xL_nil, W_xCons, W_xNil, W_xV, W_xC, W_x2]
  refine ⟨_, rfl, _, rfl, _, rfl, _, rfl, _, rfl, rfl, show 2 ≤ lim by decide, fun p hp => ⟨_, rfl, fun b => ?_, fun _ b => ?_⟩, ?_⟩
  · simp only [W_x2, W_xV]
    obtain ⟨r, hr, hr2⟩ := oInP_ex p x.1
    refine ⟨.bl (!r), ?_, ?_, trivial⟩
    · show (oIn (en p) (.lst (x.1.map en))).bind notB = _
      rw [hr]
      rfl
    · refine congrArg D.bl ?_
      by_cases c : p ∈ x.1
      · rw [hr2.mpr c, decide_eq_false (fun z => z c)]
        rfl
      · have : r = false := by
          cases r with
          | false => rfl
          | true => exact absurd (hr2.mp rfl) c
        rw [this, decide_eq_true c]
        rfl
  · rw [W_xV]
    exact ⟨rfl, rfl⟩
  · have h2 := List.length_filter_le (fun p => decide (p ∉ x.1)) (twoP st e)
    have h3 : (twoP st e).length = 2 := rfl
    refine ⟨_, oAdd_lst (by rw [List.length_map]; unfold lim; omega) (by rw [List.length_map]; unfold lim; omega), _, rfl, ?_⟩
    rw [← List.map_append, show x.1 ++ (twoP st e).filter (fun p => decide (p ∉ x.1)) = moreT x.1 st e from rfl]
    rw [Nx_nx, W_sIf, W_x2, W_x1]
    simp only [W_xA, xL_cons, xL_nil, W_xCons, W_xNil, W_x1, W_xV]
    refine W_xLcT (moreT x.1 st e) en (fun p => en p.a) ?_
    rw [W_iOf, W_xV]
    refine ⟨_, rfl, rfl, by unfold lim; omega, fun p hp => ⟨_, rfl, fun b => ?_⟩, ?_⟩
    · simp only [W_x2, W_xV, W_xC]
      exact ⟨_, rfl, rfl, trivial⟩
    · have e1 : (moreT x.1 st e).map (fun p => (en p.a : D)) = ((moreT x.1 st e).map (·.a)).map en := by
        rw [List.map_map]
        rfl
      rw [e1]
      refine ⟨_, oSet_en (α := Tx) _ (by rw [List.length_map]; omega), _, rfl, _, oSetP _ hm, _, rfl, .bl (consB (moreT x.1 st e)), ?_, _, rfl, fun z => ?_, fun z => ?_⟩
      · show oEq (.int (((dd ((moreT x.1 st e).map (·.a))).map en).length : Nat)) (.int (((dd (moreT x.1 st e)).map en).length : Nat)) = _
        rw [oEq_i, List.length_map, List.length_map]
        refine congrArg (fun t => some (D.bl t)) ?_
        unfold consB
        rw [decide_eq_decide]
        omega
      · rw [W_sApp]
        simp only [W_xTup, xL_cons, xL_nil, W_xCons, W_xNil, W_xV, W_x2, W_xLst]
        refine ⟨_, oAdd_lst (by rw [List.length_map]; unfold lim; omega) (show 1 ≤ lim by decide), L.map enG, rfl, by rw [List.length_map]; unfold lim; omega, ?_⟩
        have := hq (.lst ((moreT x.1 st e).map en)) d12
        rw [if_pos z, List.map_append, List.map_cons] at this
        have e3 : enG (moreT x.1 st e, x.2 ++ [e]) = .tup [.lst ((moreT x.1 st e).map en), .lst (x.2.map en ++ [en e])] := by
          unfold enG
          rw [List.map_append]
          rfl
        rw [e3] at this
        exact this
      · rw [W_sPass]
        have := hq (.lst ((moreT x.1 st e).map en)) d12
        rw [if_neg (by rw [z]; simp), List.append_nil] at this
        exact this
end
end Pl
end
section
set_option linter.all false
set_option maxRecDepth 100000
/-! PLAIN: the law's own rows, searched as rowsT says. -/
namespace Pl
open Z M En
def enRow (ps : List Pr2) : D := .lst (ps.map en)
section
variable {d0 d2 d3 : D} {E : List St} {st : St} {x : List Pr2 × List St} {L : List (List Pr2 × List St)} {Q : Fl → Bag → Prop} {b : Bag}
abbrev edgesL : Sm := sFor (iOf (xLc (iOf (xV 1)) (gN 8) (xAnd (x2 oEq (x2 oIx (xV 8) (xC (.int 1))) (x2 oIx (xV 4) (xC (.int 1)))) (x2 oNotIn (xV 8) (xV 7))) (xV 8))) (gN 8) bodyL
theorem law_edges (hE : E.length ≤ 6) (hL : L.length ≤ 49000) (hx : x.1.length ≤ 50 ∧ x.2.length ≤ 100) (d8 d9 d10 d11 d12 : D) (hq : ∀ d8 d9 d12, Q (.nx [d0, .lst (E.map en), d2, d3, en st, .lst ((L ++ rowL E st x).map enG), .lst (x.1.map en), .lst (x.2.map en), d8, d9, d10, d11, d12]) b) :
    W (edgesL [d0, .lst (E.map en), d2, d3, en st, .lst (L.map enG), .lst (x.1.map en), .lst (x.2.map en), d8, d9, d10, d11, d12]) Q b := by
  refine W_sFor ?_
  rw [W_iOf]
  refine W_xLcF E en en (edgeOk st x.2) ?_
  rw [W_iOf, W_xV]
  refine ⟨_, rfl, rfl, by unfold lim; omega, fun e he => ⟨_, rfl, fun b => ?_, fun _ b => ?_⟩, ?_⟩
  · simp only [W_xAnd, W_x2, W_xV, W_xC]
    refine ⟨_, rfl, _, rfl, _, oEq_en (α := Tx) e.2.1 st.2.1, _, rfl, fun z => ?_, fun z => ?_⟩
    · obtain ⟨r, hr, hr2⟩ := oIn3_ex e x.2
      refine ⟨.bl (!r), ?_, ?_, trivial⟩
      · show (oIn (en e) (.lst (x.2.map en))).bind notB = _
        rw [hr]
        rfl
      · refine congrArg D.bl ?_
        unfold edgeOk
        rw [z, Bool.true_and]
        by_cases c : e ∈ x.2
        · rw [hr2.mpr c, decide_eq_false (fun z => z c)]
          rfl
        · have : r = false := by
            cases r with
            | false => rfl
            | true => exact absurd (hr2.mp rfl) c
          rw [this, decide_eq_true c]
          rfl
    · unfold edgeOk
      rw [z]
      exact ⟨rfl, trivial⟩
  · rw [W_xV]
    exact ⟨rfl, rfl⟩
  · refine ⟨(E.filter (edgeOk st x.2)).map en, rfl, fun i env b1 => b1 = b ∧ ∃ d8 d9 d12, env = [d0, .lst (E.map en), d2, d3, en st, .lst ((L ++ (((E.filter (edgeOk st x.2)).take i).filterMap fun e => if consB (moreT x.1 st e) then some (moreT x.1 st e, x.2 ++ [e]) else none)).map enG), .lst (x.1.map en), .lst (x.2.map en), d8, d9, d10, d11, d12], ⟨rfl, d8, d9, d12, by rw [List.take_zero, List.filterMap_nil, List.append_nil]⟩, ?_, ?_⟩
    · rintro i d env b1 hd ⟨rfl, d8, d9, d12, rfl⟩
      rw [List.getElem?_map] at hd
      obtain ⟨e, he, rfl⟩ := Option.map_eq_some_iff.mp hd
      refine ⟨_, rfl, ?_⟩
      have hl1 : (((E.filter (edgeOk st x.2)).take i).filterMap fun e => if consB (moreT x.1 st e) then some (moreT x.1 st e, x.2 ++ [e]) else none).length ≤ 6 := by
        refine Nat.le_trans (filterMap_le _) ?_
        rw [List.length_take]
        have := List.length_filter_le (edgeOk st x.2) E
        omega
      refine law_body (L := L ++ (((E.filter (edgeOk st x.2)).take i).filterMap fun e => if consB (moreT x.1 st e) then some (moreT x.1 st e, x.2 ++ [e]) else none)) (by rw [List.length_append]; omega) hx e d9 d10 d11 d12 fun d9 d12 => ⟨rfl, en e, d9, d12, ?_⟩
      rw [take_at he, List.filterMap_append, ← List.append_assoc]
      have e4 : ([e].filterMap fun e => if consB (moreT x.1 st e) then some (moreT x.1 st e, x.2 ++ [e]) else none) = if consB (moreT x.1 st e) then [(moreT x.1 st e, x.2 ++ [e])] else [] := by
        by_cases c : consB (moreT x.1 st e) = true <;> simp [c]
      rw [e4]
    · rintro env b1 ⟨rfl, d8, d9, d12, rfl⟩
      rw [List.length_map, List.take_length]
      exact hq _ _ _
theorem law_found (hE : E.length ≤ 6) {m : Nat} (hm : m ≤ 4) {f : List (List Pr2 × List St)} (hf : BG List.length m f) (d6 d7 d8 d9 d10 d11 d12 : D) (hq : ∀ d6 d7 d8 d9 d12, Q (.nx [d0, .lst (E.map en), .lst (f.map enG), d3, en st, .lst ((stepL E f st).map enG), d6, d7, d8, d9, d10, d11, d12]) b) :
    W (sFor (iOf (xV 2)) (gT [(gN 6), (gN 7)]) edgesL [d0, .lst (E.map en), .lst (f.map enG), d3, en st, .lst [], d6, d7, d8, d9, d10, d11, d12]) Q b := by
  have h7 := pow5 (m := m) (by omega)
  refine W_sFor ?_
  rw [W_iOf, W_xV]
  refine ⟨f.map enG, rfl, fun i env b1 => b1 = b ∧ ∃ d6 d7 d8 d9 d12, env = [d0, .lst (E.map en), .lst (f.map enG), d3, en st, .lst ((stepL E (f.take i) st).map enG), d6, d7, d8, d9, d10, d11, d12], ⟨rfl, _, _, _, _, _, rfl⟩, ?_, ?_⟩
  · rintro i d env b1 hd ⟨rfl, d6, d7, d8, d9, d12, rfl⟩
    rw [List.getElem?_map] at hd
    obtain ⟨x, hx, rfl⟩ := Option.map_eq_some_iff.mp hd
    have hxm := List.mem_of_getElem? hx
    have hb := hf.2 x hxm
    refine ⟨_, rfl, ?_⟩
    refine law_edges (d2 := .lst (f.map enG)) (L := stepL E (f.take i) st) hE ?_ ⟨by omega, by omega⟩ d8 d9 d10 d11 d12 fun d8 d9 d12 => ⟨rfl, .lst (x.1.map en), .lst (x.2.map en), d8, d9, d12, ?_⟩
    · unfold stepL
      refine Nat.le_trans (flat_le (k := 6) fun x _ => (rowL_ok hE st x).1) ?_
      have := hf.1
      rw [List.length_take]
      omega
    · have : stepL E (f.take (i + 1)) st = stepL E (f.take i) st ++ rowL E st x := by
        unfold stepL
        rw [take_at hx, List.flatMap_append]
        simp
      rw [this]
  · rintro env b1 ⟨rfl, d6, d7, d8, d9, d12, rfl⟩
    rw [List.length_map, List.take_length]
    exact hq _ _ _ _ _
end
theorem BG.stepL {E : List St} (hE : E.length ≤ 6) {m : Nat} {f : List (List Pr2 × List St)} (h : BG List.length m f) (st : St) : BG List.length (m + 1) (stepL E f st) := h.step fun x => rowL_ok hE st x
theorem BG.foldL {E : List St} (hE : E.length ≤ 6) : ∀ (c : List St) {m : Nat} {f : List (List Pr2 × List St)}, BG List.length m f → BG List.length (m + c.length) (c.foldl (Pl.stepL E) f)
  | [], m, f, h => h
  | st :: c, m, f, h => by
    have := BG.foldL hE c (h.stepL hE st)
    rw [List.length_cons, show m + (c.length + 1) = m + 1 + c.length from by omega]
    exact this
section
variable {d0 : D} {E : List St} {Q : Fl → Bag → Prop} {b : Bag}
theorem law_stepsL (hE : E.length ≤ 6) {c : List St} {m : Nat} (hm : m + c.length ≤ 5) {f : List (List Pr2 × List St)} (hf : BG List.length m f) (d4 d5 d6 d7 d8 d9 d10 d11 d12 : D) (hq : ∀ d4 d5 d6 d7 d8 d9 d12, Q (.nx [d0, .lst (E.map en), .lst ((c.foldl (stepL E) f).map enG), .lst (c.map en), d4, d5, d6, d7, d8, d9, d10, d11, d12]) b) :
    W (sFor (iOf (xV 3)) (gN 4) (sAnd (sSet (gN 5) (xLst (xL []))) (sAnd (sFor (iOf (xV 2)) (gT [(gN 6), (gN 7)]) edgesL) (sSet (gN 2) (xA (o1 oList) (xL [(xV 5)]))))) [d0, .lst (E.map en), .lst (f.map enG), .lst (c.map en), d4, d5, d6, d7, d8, d9, d10, d11, d12]) Q b := by
  refine W_sFor ?_
  rw [W_iOf, W_xV]
  refine ⟨c.map en, rfl, fun i env b1 => b1 = b ∧ ∃ d4 d5 d6 d7 d8 d9 d12, env = [d0, .lst (E.map en), .lst (((c.take i).foldl (stepL E) f).map enG), .lst (c.map en), d4, d5, d6, d7, d8, d9, d10, d11, d12], ⟨rfl, _, _, _, _, _, _, _, rfl⟩, ?_, ?_⟩
  · rintro i d env b1 hd ⟨rfl, d4, d5, d6, d7, d8, d9, d12, rfl⟩
    rw [List.getElem?_map] at hd
    obtain ⟨st, hs, rfl⟩ := Option.map_eq_some_iff.mp hd
    have hi := (List.getElem?_eq_some_iff.mp hs).1
    refine ⟨_, rfl, ?_⟩
    rw [W_sAnd, W_sSet, W_xLst, xL_nil, W_xNil]
    refine ⟨_, rfl, ?_⟩
    rw [Nx_nx, W_sAnd]
    have hb := hf.foldL hE (c.take i)
    rw [List.length_take, Nat.min_eq_left (by omega)] at hb
    refine law_found hE (m := m + i) (by omega) hb d6 d7 d8 d9 d10 d11 d12 fun d6 d7 d8 d9 d12 => ?_
    rw [Nx_nx, W_sSet]
    simp only [W_xA, xL_cons, xL_nil, W_xCons, W_xNil, W_xV]
    refine ⟨_, rfl, _, rfl, trivial, en st, .lst ((stepL E ((c.take i).foldl (stepL E) f) st).map enG), d6, d7, d8, d9, d12, ?_⟩
    rw [take_at hs, List.foldl_append]
    rfl
  · rintro env b1 ⟨rfl, d4, d5, d6, d7, d8, d9, d12, rfl⟩
    rw [List.length_map, List.take_length]
    exact hq _ _ _ _ _ _ _
end
def BL0 (m : Nat) (f : List (List Pr2)) : Prop := f.length ≤ 6 ^ m ∧ ∀ p ∈ f, p.length ≤ 2 * m
theorem BL0.pair {m : Nat} {f : List (List Pr2)} (h : BL0 m f) : BG List.length m (f.map fun p => (p, ([] : List St))) := by
  refine ⟨by rw [List.length_map]; exact h.1, fun x hx => ?_⟩
  obtain ⟨p, hp, rfl⟩ := List.mem_map.mp hx
  exact ⟨h.2 p hp, Nat.zero_le _⟩
theorem BL0.cl {E : List St} (hE : E.length ≤ 6) (c : List St) {m : Nat} {f : List (List Pr2)} (h : BL0 m f) : BL0 (m + c.length) (clL E f c) := by
  have := h.pair.foldL hE c
  unfold clL
  refine ⟨by rw [List.length_map]; exact this.1, fun p hp => ?_⟩
  obtain ⟨x, hx, rfl⟩ := List.mem_map.mp hp
  exact (this.2 x hx).1
theorem BL0.fold {E : List St} (hE : E.length ≤ 6) : ∀ (cs : List (List St)) {m : Nat} {f : List (List Pr2)}, BL0 m f → BL0 (m + cs.flatten.length) (cs.foldl (clL E) f)
  | [], m, f, h => h
  | c :: cs, m, f, h => by
    have := BL0.fold hE cs (h.cl hE c)
    rw [List.flatten_cons, List.length_append, ← Nat.add_assoc]
    exact this
theorem rows_bnd {E : List St} (hE : E.length ≤ 6) (cs : List (List St)) : BL0 cs.flatten.length (rowsT E cs) := by
  have := BL0.fold hE cs (m := 0) (f := [[]]) ⟨by simp, fun p hp => by rw [List.mem_singleton.mp hp]; exact Nat.zero_le _⟩
  rw [Nat.zero_add] at this
  exact this
def rwL (ps : List Pr2) : Rw := ⟨rowOfL ps⟩
theorem law_rows_spec {E : List St} (hE : E.length ≤ 6) {cs : List (List St)} (h5 : cs.flatten.length ≤ 5) (hne : ∀ ps ∈ rowsT E cs, rowOfL ps ≠ []) : Pv Zp.f__law_rows [en2 cs, .lst (E.map en)] (.lst ((srt ((rowsT E cs).map rwL)).map en)) := by
  intro b
  unfold Zp.f__law_rows runD
  rw [W_bnd]
  unfold Zp.s__law_rows
  rw [W_sAnd, W_sSet]
  simp only [W_xLst, xL_cons, xL_nil, W_xCons, W_xNil, W_xV]
  refine ⟨_, rfl, ?_⟩
  rw [Nx_nx, W_sAnd]
  refine W_sFor ?_
  rw [W_iOf, W_xV]
  refine ⟨cs.map fun c => .lst (c.map en), rfl, fun i env b1 => b1 = b ∧ ∃ d3 d4 d5 d6 d7 d8 d9 d12, env = [en2 cs, .lst (E.map en), .lst ((rowsT E (cs.take i)).map enRow), d3, d4, d5, d6, d7, d8, d9, .non, .non, d12], ⟨rfl, _, _, _, _, _, _, _, _, rfl⟩, ?_, ?_⟩
  · rintro i d env b1 hd ⟨rfl, d3, d4, d5, d6, d7, d8, d9, d12, rfl⟩
    rw [List.getElem?_map] at hd
    obtain ⟨c, hc, rfl⟩ := Option.map_eq_some_iff.mp hd
    have hl := take_flat_le hc
    have hb := rows_bnd hE (cs.take i)
    have h7 := pow5 (m := (cs.take i).flatten.length) (by omega)
    have h8 := hb.1
    refine ⟨_, rfl, ?_⟩
    rw [W_sAnd, W_sSet]
    refine W_xLcT (rowsT E (cs.take i)) enRow (fun p => enG (p, [])) ?_
    rw [W_iOf, W_xV]
    refine ⟨_, rfl, rfl, by unfold lim; omega, fun p hp => ⟨_, rfl, fun b => ?_⟩, _, rfl, ?_⟩
    · simp only [W_xTup, xL_cons, xL_nil, W_xCons, W_xNil, W_xV, W_xLst]
      exact ⟨rfl, trivial⟩
    rw [Nx_nx, W_sAnd]
    have e1 : (rowsT E (cs.take i)).map (fun p => enG (p, [])) = ((rowsT E (cs.take i)).map fun p => (p, ([] : List St))).map enG := by
      rw [List.map_map]
      rfl
    rw [e1]
    refine law_stepsL hE (c := c) (m := (cs.take i).flatten.length) (by omega) hb.pair d4 d5 d6 d7 d8 d9 .non .non d12 fun d4 d5 d6 d7 d8 d9 d12 => ?_
    rw [Nx_nx, W_sSet]
    have hb2 := hb.pair.foldL hE c
    have h9 := pow5 (m := (cs.take i).flatten.length + c.length) (by omega)
    have h10 := hb2.1
    refine W_xLcT (c.foldl (stepL E) ((rowsT E (cs.take i)).map fun p => (p, ([] : List St)))) enG (fun x => enRow x.1) ?_
    rw [W_iOf, W_xV]
    refine ⟨_, rfl, rfl, Nat.le_trans h10 (Nat.le_trans h9 (by decide)), fun p hp => ⟨_, rfl, fun b => ?_⟩, _, rfl, rfl, .lst (c.map en), d4, d5, d6, d7, d8, d9, d12, ?_⟩
    · rw [W_xV]
      exact ⟨rfl, rfl⟩
    · have e2 : rowsT E (cs.take (i + 1)) = clL E (rowsT E (cs.take i)) c := by
        unfold rowsT
        rw [take_at hc, List.foldl_append]
        rfl
      rw [e2]
      unfold clL
      rw [List.map_map]
      rfl
  · rintro env b1 ⟨rfl, d3, d4, d5, d6, d7, d8, d9, d12, rfl⟩
    rw [List.length_map, List.take_length, Nx_nx, W_sRet]
    have hb := rows_bnd hE cs
    have h7 := pow5 (m := cs.flatten.length) (by omega)
    have h8 := hb.1
    simp only [W_xA, xL_cons, xL_nil, W_xCons, W_xNil]
    refine W_xLcT (rowsT E cs) enRow (fun ps => en (rwL ps)) ?_
    rw [W_iOf, W_xV]
    refine ⟨_, rfl, rfl, by unfold lim; omega, fun ps hp => ⟨_, rfl, fun b => ?_⟩, ?_⟩
    · have hp2 := hb.2 ps hp
      have hdd := length_dd ps
      simp only [W_xA, xL_cons, xL_nil, W_xCons, W_xNil]
      refine W_xLcT (srt (dd ps)) en (fun p => en p.b) ?_
      simp only [W_iOf, W_x1, W_xA, xL_cons, xL_nil, W_xCons, W_xNil, W_xV]
      refine ⟨_, oSetP _ (by omega), _, oSortSP _ (by unfold lim; omega), _, rfl, rfl, by rw [length_srt]; unfold lim; omega, fun p hp => ⟨_, rfl, fun b => ?_⟩, _, rfl, ?_, trivial⟩
      · rw [W_xV]
        exact ⟨rfl, rfl⟩
      · show D.tup _ = D.tup ((rowOfL ps).map en)
        unfold rowOfL
        rw [List.map_map]
        rfl
    · have e1 : (rowsT E cs).map (fun ps => en (rwL ps)) = ((rowsT E cs).map rwL).map en := by
        rw [List.map_map]
        rfl
      rw [e1]
      refine ⟨_, oSortedR _ (fun x hx => ?_) (by rw [List.length_map]; unfold lim; omega), W_ret.mpr rfl⟩
      obtain ⟨ps, hp, rfl⟩ := List.mem_map.mp hx
      exact hne ps hp
end Pl
end
section
set_option linter.all false
set_option maxRecDepth 100000
/-! PLAIN: the rows of a pattern, and that they are the law's own. -/
namespace Pl
open Z M En
@[simp] theorem W_xDct0 {env : Sl} {Q : D → Bag → Prop} {b : Bag} : W (xDct0 env) Q b ↔ Q (.dct []) b := by
  unfold xDct0
  exact W_ret
theorem W_xDIx {env : Sl} {Q : D → Bag → Prop} {b : Bag} {a c : Ex} : W (xDIx a c env) Q b ↔ W (a env) (fun x b1 => W (c env) (fun y b2 => ∃ kvs, x = .dct kvs ∧ keyP y = true ∧ ∃ d, dGetP kvs y = some d ∧ Q d b2) b1) b := by
  unfold xDIx
  simp only [W_bnd, W_opt]
  refine iff_of_eq (congrArg (W (a env) · b) ?_)
  funext x b1
  refine congrArg (W (c env) · b1) ?_
  funext y b2
  cases x <;> simp [dctD]
  rename_i kvs
  by_cases h : keyP y = true <;> simp [h]
def RowOk (ns : List Tx) (pl : Pc) : Prop := ∀ n ∈ ns, ∃ v, getP pl n = some v
theorem Sm1.ok {ss : List St} {pl : Pc} {ps : List Pr2} (h : Sm1 (namesOf ss) pl ps) : RowOk (usedT ss) pl := fun n hn => by
  obtain ⟨hR, hk⟩ := h
  have : n ∈ keys pl := by
    rw [hk]
    unfold usedT at hn
    rwa [mem_srt, mem_dd] at hn
  cases c : getP pl n with
  | some v => exact ⟨v, rfl⟩
  | none => exact absurd this (get_none.mp c)
theorem F2.left {α β : Type} {S : α → β → Prop} {as : List α} {bs : List β} (h : F2 S as bs) : ∀ a ∈ as, ∃ b ∈ bs, S a b := by
  induction h with
  | nil => intro a ha; cases ha
  | cons h1 _ ih =>
    intro a ha
    rcases List.mem_cons.mp ha with rfl | z
    · exact ⟨_, List.mem_cons_self, h1⟩
    · obtain ⟨b, hb, h⟩ := ih a z
      exact ⟨b, List.mem_cons_of_mem _ hb, h⟩
theorem F2.right {α β : Type} {S : α → β → Prop} {as : List α} {bs : List β} (h : F2 S as bs) : ∀ b ∈ bs, ∃ a ∈ as, S a b := by
  induction h with
  | nil => intro a ha; cases ha
  | cons h1 _ ih =>
    intro a ha
    rcases List.mem_cons.mp ha with rfl | z
    · exact ⟨_, List.mem_cons_self, h1⟩
    · obtain ⟨b, hb, h⟩ := ih a z
      exact ⟨b, List.mem_cons_of_mem _ hb, h⟩
def rwP (ss : List St) (pl : Pc) : Rw := ⟨rowOfP (usedT ss) pl⟩
theorem row_of_spec {cs : List (List St)} {sh : List Tx} (h : PatOk cs sh) {pl : Pc} (ok : RowOk (usedT cs.flatten) pl) : Pv Zp.f_Pattern_row_of [patD cs sh, dctT pl] (en (rwP cs.flatten pl)) := by
  intro b
  have h5 := h.u5
  unfold Zp.f_Pattern_row_of runD
  rw [W_bnd]
  unfold Zp.s_Pattern_row_of
  rw [W_sRet]
  simp only [W_xA, xL_cons, xL_nil, W_xCons, W_xNil]
  refine W_xLcT (usedT cs.flatten) en (fun n => en ((getP pl n).getD [])) ?_
  simp only [W_iOf, W_x1, W_xV]
  refine ⟨_, rfl, _, rfl, rfl, by unfold lim; omega, fun n hn => ⟨_, rfl, fun b => ?_⟩, _, rfl, ?_⟩
  · rw [W_xDIx]
    simp only [W_xV]
    obtain ⟨v, hv⟩ := ok n hn
    refine ⟨_, rfl, rfl, en v, ?_, ?_, trivial⟩
    · show dGetP (pl.map fun p => (en p.1, en p.2)) (en n) = _
      rw [get_en, hv]
      rfl
    · rw [hv]
      rfl
  · refine W_ret.mpr ?_
    show D.tup _ = D.tup ((rowOfP (usedT cs.flatten) pl).map en)
    unfold rowOfP
    rw [List.map_map]
    rfl
theorem glen_spec {E : List St} : Pv Zp.f_Graph_len [grD E] (.int ((triT E).length : Nat)) := by
  intro b
  unfold Zp.f_Graph_len runD
  rw [W_bnd]
  unfold Zp.s_Graph_len
  rw [W_sRet]
  simp only [W_xA, xL_cons, xL_nil, W_xCons, W_xNil, W_x1, W_xV]
  refine ⟨_, rfl, _, rfl, W_ret.mpr ?_⟩
  show D.int (((triT E).map en).length : Nat) = _
  rw [List.length_map]
theorem gedges_spec {E : List St} : Pv Zp.f_Graph_edges [grD E] (.lst ((triT E).map en)) := by
  intro b
  unfold Zp.f_Graph_edges runD
  rw [W_bnd]
  unfold Zp.s_Graph_edges
  rw [W_sRet]
  simp only [W_xA, xL_cons, xL_nil, W_xCons, W_xNil, W_x1, W_xV]
  exact ⟨_, rfl, _, rfl, W_ret.mpr rfl⟩
theorem used_ne {cs : List (List St)} {sh : List Tx} (h : PatOk cs sh) : usedT cs.flatten ≠ [] := by
  obtain ⟨c, r, e⟩ : ∃ c r, cs = c :: r := by
    cases cs with
    | nil => exact absurd rfl h.ne
    | cons c r => exact ⟨c, r, rfl⟩
  obtain ⟨s, t, e2⟩ : ∃ s t, c = s :: t := by
    cases c with
    | nil => exact absurd rfl (h.ce [] (by rw [e]; exact List.mem_cons_self))
    | cons s t => exact ⟨s, t, rfl⟩
  have : s.1 ∈ usedT cs.flatten := by
    unfold usedT namesOf
    rw [mem_srt, mem_dd, e, e2]
    simp
  intro z
  rw [z] at this
  cases this
theorem rowOfP_ne {cs : List (List St)} {sh : List Tx} (h : PatOk cs sh) (pl : Pc) : rowOfP (usedT cs.flatten) pl ≠ [] := by
  unfold rowOfP
  intro z
  rw [List.map_eq_nil_iff] at z
  exact used_ne h z
theorem rows_spec {cs : List (List St)} {sh : List Tx} (h : PatOk cs sh) {E : List St} (hE : E.length ≤ 6) : Pv Zp.f_Pattern_rows [patD cs sh, grD E] (.lst ((srt ((placT (triT E) cs).map (rwP cs.flatten))).map en)) := by
  intro b
  have h5 := h.l5
  have ht : (triT E).length ≤ 6 := Nat.le_trans (triT_len E) hE
  have hb := plac_bnd ht cs
  have h7 := pow5 (m := cs.flatten.length) h5
  have h8 := hb.1
  unfold Zp.f_Pattern_rows runD
  rw [W_bnd]
  unfold Zp.s_Pattern_rows
  rw [W_sAnd, W_sIf, W_x2]
  refine W_xLenI ?_
  rw [W_xV]
  refine ⟨_, _, rfl, glen_spec, by unfold lim; omega, ?_⟩
  rw [W_xC]
  refine ⟨_, oGt_i, _, rfl, fun z => ?_, fun _ => ?_⟩
  · rw [decide_eq_true_eq] at z
    omega
  rw [W_sPass, Nx_nx, W_sRet]
  simp only [W_xA, xL_cons, xL_nil, W_xCons, W_xNil]
  refine W_xLcT (placT (triT E) cs) dctT (fun pl => en (rwP cs.flatten pl)) ?_
  simp only [W_iOf, W_xQ, W_xApp, xL_cons, xL_nil, W_xCons, W_xNil, W_x1, W_xV, W_xMeth, W_xDct0, List.append_nil]
  refine ⟨_, rfl, _, rfl, (gedges_spec _).mono fun d b' e => ?_⟩
  subst e
  refine ((places_spec ht h5) _).mono fun d b' e => ?_
  subst e
  refine ⟨_, rfl, rfl, by unfold lim; omega, fun pl hp => ⟨_, rfl, fun b => ?_⟩, ?_⟩
  · rw [W_xMeth, W_xV]
    refine ⟨_, rfl, ?_⟩
    simp only [W_xCons, W_xNil, W_xV]
    obtain ⟨ps, _, hs⟩ := (place_rel (triT E) cs).left pl hp
    refine ((row_of_spec h hs.ok) _).mono fun d b' e => ?_
    exact ⟨e, trivial⟩
  · have e1 : (placT (triT E) cs).map (fun pl => en (rwP cs.flatten pl)) = ((placT (triT E) cs).map (rwP cs.flatten)).map en := by
      rw [List.map_map]
      rfl
    rw [e1]
    refine ⟨_, oSortedR _ (fun x hx => ?_) (by rw [List.length_map]; unfold lim; omega), W_ret.mpr rfl⟩
    obtain ⟨pl, hp, rfl⟩ := List.mem_map.mp hx
    exact rowOfP_ne h pl
theorem dd_of_nodup {α : Type} [En α] [DecidableEq α] : ∀ {xs : List α}, xs.Nodup → dd xs = xs
  | [], _ => rfl
  | x :: r, h => by
    obtain ⟨h1, h2⟩ := List.nodup_cons.mp h
    rw [dd, dd_of_nodup h2, List.filter_eq_self.mpr]
    intro y hy
    simp only [decide_eq_true_eq]
    rintro rfl
    exact h1 hy
theorem rows_same {cs : List (List St)} {E : List St} (nd : E.Nodup) : srt ((placT (triT E) cs).map (rwP cs.flatten)) = srt ((rowsT E cs).map rwL) := by
  have h1 : (placT (triT E) cs).map (rwP cs.flatten) = (rowsT (triT E) cs).map rwL := (place_rel (triT E) cs).eq fun pl ps h => by
    unfold rwP rwL
    rw [row_eq h]
  have p : (triT E).Perm E := by
    unfold triT
    rw [dd_of_nodup nd]
    exact List.mergeSort_perm E le
  rw [h1]
  exact srt_perm ((rows_perm p cs).map rwL)
theorem rows_ne {cs : List (List St)} {sh : List Tx} (h : PatOk cs sh) {E : List St} : ∀ ps ∈ rowsT E cs, rowOfL ps ≠ [] := fun ps hp => by
  obtain ⟨pl, _, hs⟩ := (place_rel E cs).right ps hp
  rw [← row_eq hs]
  exact rowOfP_ne h pl
end Pl
end
section
set_option linter.all false
set_option maxRecDepth 100000
/-! PLAIN: law_k82 whole. -/
namespace Pl
open Z M En
theorem W_sNewBag {e : Ex} {s : Sm} {env : Sl} {Q : Fl → Bag → Prop} {b : Bag} (h : W (e env) (fun d b1 => ∃ n, bag3 d = some n ∧ okBag n = true ∧ W (s env) (fun f _ => Q f b1) n) b) : W (sNewBag e s env) Q b := by
  unfold sNewBag
  rw [W_bnd]
  refine h.mono fun d b1 ⟨n, h1, h2, h3⟩ => ?_
  obtain ⟨f, b2, e1, q⟩ := h3.out
  rw [h1]
  unfold W
  simp only [h2, if_true, e1]
  exact q
theorem oAdd_1 (m : Nat) : oAdd (.int 1) (.int (m : Int)) = some (.int ((m + 1 : Nat) : Int)) := by
  rw [oAdd_i, show (1 + (m : Int)) = ((m + 1 : Nat) : Int) from by omega]
theorem last_at {xs : List D} (h : 0 < xs.length) : ∃ d, oIx (.lst xs) (.int (-1)) = some d ∧ d ∈ xs := by
  show ∃ d, atD xs (-1) = some d ∧ d ∈ xs
  unfold atD
  rw [if_neg (by omega), if_pos (by omega)]
  have hl : (xs.length + (-1 : Int)).toNat < xs.length := by omega
  exact ⟨_, List.getElem?_eq_getElem hl, List.getElem_mem hl⟩
theorem first_at {xs : List D} (h : 0 < xs.length) : ∃ d, oIx (.lst xs) (.int 0) = some d ∧ d ∈ xs := ⟨xs[0], by show atD xs ((0 : Nat) : Int) = _; rw [atD_nat]; exact List.getElem?_eq_getElem h, List.getElem_mem h⟩
theorem mul_en {n i : Nat} (h : n ≤ 1000) : oMulL (.lst [.int (i : Int)]) (.int (n : Int)) = some (.lst ((List.replicate n i).map en)) := by
  show (if 0 ≤ (n : Int) ∧ (n : Int) ≤ 1000 ∧ 1 ≤ 1000 then some (D.lst (List.replicate (n : Int).toNat [D.int (i : Int)]).flatten) else none) = _
  rw [if_pos ⟨by omega, by omega, by omega⟩, show (n : Int).toNat = n from by omega]
  refine congrArg (fun t => some (D.lst t)) ?_
  induction n with
  | zero => rfl
  | succ n ih =>
    rw [List.replicate_succ, List.replicate_succ, List.flatten_cons, List.map_cons, ih (by omega)]
    rfl
theorem clauses_tup {env : Sl} {Q : D → Bag → Prop} {b : Bag} {i j : Nat} {cs : List (List St)} (h : env.getD i .non = en2 cs) (hl : cs.length ≤ lim) (hs : ∀ d, (env.set j d).getD j .non = d) (q : Q (.tup (cs.map fun c => .tup (c.map en))) b) : W (xA (o1 oTuple) (xL [(xLc (iOf (xV i)) (gN j) xYes (xA (o1 oTuple) (xL [(xV j)])))]) env) Q b := by
  simp only [W_xA, xL_cons, xL_nil, W_xCons, W_xNil]
  refine W_xLcT cs (fun c => .lst (c.map en)) (fun c => .tup (c.map en)) ?_
  rw [W_iOf, W_xV, h]
  refine ⟨_, rfl, rfl, hl, fun c hc => ⟨_, rfl, fun b => ?_⟩, _, rfl, q⟩
  simp only [W_xA, W_xCons, W_xNil, W_xV, hs]
  exact ⟨_, rfl, rfl, trivial⟩
theorem law_ok (ns : List Int) (hns : ns.length ≤ 63) (b : Bag) : W (Zp.f_law [.scr ns]) (fun d _ => d = .bl true) b := by
  unfold Zp.f_law runD
  rw [W_bnd]
  unfold Zp.s_law
  rw [W_sAnd]
  refine W_sFor ?_
  rw [W_iRng1]
  simp only [W_xA, xL_cons, xL_nil, W_xCons, W_xNil, W_xV, W_xC]
  refine ⟨_, rfl, _, rfl, _, rfl, _, rfl, ?_⟩
  have hr : ∃ k : Nat, (if (if (ns.length : Int) < 4 then (ns.length : Int) else 4) > 1 then (if (ns.length : Int) < 4 then (ns.length : Int) else 4) else 1) = (k : Int) ∧ k ≤ 4 := by
    by_cases c : (ns.length : Int) < 4
    · by_cases c2 : (ns.length : Int) > 1
      · exact ⟨ns.length, by rw [if_pos c, if_pos c2], by omega⟩
      · exact ⟨1, by rw [if_pos c, if_neg c2]; rfl, by omega⟩
    · exact ⟨4, by rw [if_neg c, if_pos (by omega)]; rfl, by omega⟩
  obtain ⟨k, hk, hk3⟩ := hr
  rw [hk]
  refine ⟨by unfold lim; omega, fun i env b => ∃ a1 a2 a3 a4 a5 a6 a7 a8 a9 a10 a11 a12 a13 a14 a15 a16 a17 a18 a19 a20 : D, env = [.scr ns, a1, a2, a3, a4, a5, a6, a7, a8, a9, a10, a11, a12, a13, a14, a15, a16, a17, a18, a19, a20], ⟨_, _, _, _, _, _, _, _, _, _, _, _, _, _, _, _, _, _, _, _, rfl⟩, ?_, ?_⟩
  · rintro at_ d env b hd ⟨a1, a2, a3, a4, a5, a6, a7, a8, a9, a10, a11, a12, a13, a14, a15, a16, a17, a18, a19, a20, rfl⟩
    have hat := rng_lt hd
    have e := rng_at hd
    subst e
    refine ⟨_, rfl, ?_⟩
    refine W_sNewBag ?_
    simp only [W_xQ, W_xApp, xL_cons, xL_nil, W_xCons, W_xV, W_xNil, List.append_nil]
    refine (bag_spec (ns := ns) (at_ := at_) (by omega)).mono fun d b' ⟨n0, h1, h2, h3⟩ => ⟨n0, h1, h2, ?_⟩
    rw [W_sAnd, W_sSet]
    simp only [W_xP, W_xApp, xL_cons, xL_nil, W_xCons, W_xC, W_xNil, W_x2, List.append_nil]
    apply W.mono (take_spec (by omega) (by omega) h3 (by omega))
    rintro d b1 ⟨k1, e, k10, k11, i1⟩
    subst e
    obtain ⟨m1, rfl⟩ := Int.eq_ofNat_of_zero_le k10
    refine ⟨_, oAdd_1 m1, ?_⟩
    apply W.mono (names_spec (many := m1 + 1) (by omega) i1 (by omega))
    rintro d b2 ⟨nn, e, nl, nlab, i2⟩
    subst e
    have i2 : Inv 50 b2 := i2.mono (by omega)
    refine ⟨_, rfl, ?_⟩
    rw [Nx_nx, W_sAnd, W_sSet]
    simp only [W_xP, W_xApp, W_xCons, W_xC, W_xNil, W_x2, List.append_nil]
    apply W.mono (take_spec (by omega) (by omega) i2 (by omega))
    rintro d b3 ⟨k2, e, k20, k21, i3⟩
    subst e
    obtain ⟨m2, rfl⟩ := Int.eq_ofNat_of_zero_le k20
    refine ⟨_, oAdd_1 m2, ?_⟩
    apply W.mono (names_spec (many := m2 + 1) (by omega) i3 (by omega))
    rintro d b4 ⟨ll, e, lnl, llab, i4⟩
    subst e
    have i4 : Inv 100 b4 := i4.mono (by omega)
    refine ⟨_, rfl, ?_⟩
    rw [Nx_nx, W_sAnd, W_sSet]
    simp only [W_xP, W_xApp, W_xCons, W_xC, W_xNil, W_x2, List.append_nil]
    apply W.mono (take_spec (by omega) (by omega) i4 (by omega))
    rintro d b4a ⟨k5, e, k50, k51, i4a⟩
    subst e
    obtain ⟨m5, rfl⟩ := Int.eq_ofNat_of_zero_le k50
    refine ⟨_, oAdd_1 m5, ?_⟩
    apply W.mono (nodes_spec (many := m5 + 1) (by omega) i4a (by omega))
    rintro d b4b ⟨dd, e, dnl, dlab, i4b⟩
    subst e
    have i4b : Inv 150 b4b := i4b.mono (by omega)
    refine ⟨_, rfl, ?_⟩
    rw [Nx_nx, W_sAnd, W_sSet]
    simp only [W_xP, W_xApp, W_xCons, W_xC, W_xNil, W_x2, W_xV, List.append_nil]
    apply W.mono (take_spec (by omega) (by omega) i4b (by omega))
    rintro d b5 ⟨k3, e, k30, k31, i5⟩
    subst e
    obtain ⟨m3, rfl⟩ := Int.eq_ofNat_of_zero_le k30
    refine ⟨_, oAdd_1 m3, ?_⟩
    apply W.mono (steps_spec (many := m3 + 1) (ns := nn) (ls := ll) (by omega) (by rintro rfl; simp at nl) (by rintro rfl; simp at lnl) (by omega) (by omega) i5 (by omega))
    rintro d b6 ⟨ss, e, sl, smem, i6⟩
    subst e
    have i6 : Inv 200 b6 := i6.mono (by omega)
    refine ⟨_, rfl, ?_⟩
    rw [Nx_nx, W_sAnd, W_sPar]
    simp only [W_xP, W_xApp, W_xCons, W_xC, W_xNil, W_xV, W_xLst, List.append_nil]
    apply W.mono (grouped_spec (ss := ss) (by omega) (by rintro rfl; simp at sl) i6 (by omega))
    rintro d b7 ⟨cs, e, cfl, cne, i7⟩
    subst e
    have i7 : Inv 250 b7 := i7.mono (by omega)
    subst cfl
    have hcs : cs ≠ [] := by
      rintro rfl
      simp at sl
    have hu : ∀ x ∈ usedT cs.flatten, x ∈ nn := by
      intro x hx
      unfold usedT namesOf at hx
      simp only [mem_srt, mem_dd, List.mem_flatMap, List.mem_cons, List.not_mem_nil, or_false] at hx
      obtain ⟨s, hs, e | e⟩ := hx
      · rw [e]; exact (smem s hs).1
      · rw [e]; exact (smem s hs).2.2
    have und : (usedT cs.flatten).Nodup := nodup_srt (nodup_dd _)
    have hu5 : (usedT cs.flatten).length ≤ 5 := by
      have := len_le und hu
      omega
    have hcl := cs_len cne
    rw [Nx_nx, W_sAnd]
    refine W_sFor ?_
    rw [W_iRng1]
    simp only [W_xA, xL_cons, xL_nil, W_xCons, W_xNil, W_xV]
    refine ⟨.int cs.length, by show some (D.int ((cs.map fun c => D.lst (c.map en)).length : Nat)) = _; rw [List.length_map], cs.length, rfl, by unfold lim; omega, fun i env b => b = b7 ∧ ∃ n : D, env = [.scr ns, .int at_, a2, .lst (nn.map en), .lst (ll.map en), .lst (dd.map en), .lst (cs.flatten.map en), en2 cs, .lst ((stT (cs.take i)).map en), n, a10, a11, a12, a13, a14, a15, a16, a17, a18, a19, a20], ⟨rfl, a9, rfl⟩, ?_, ?_⟩
    · rintro i d env b hd ⟨rfl, n, rfl⟩
      have hi := rng_lt hd
      have e := rng_at hd
      subst e
      refine ⟨_, rfl, ?_⟩
      rw [W_sSet]
      simp only [W_x2, W_xLst, W_xA, xL_cons, xL_nil, W_xCons, W_xNil, W_xV]
      have hci : cs[i]? = some cs[i] := List.getElem?_eq_getElem hi
      have hfl := take_flat_le hci
      refine ⟨.lst (cs[i].map en), ?_, .int (cs[i].length : Nat), by show some (D.int ((cs[i].map en).length : Nat)) = _; rw [List.length_map], _, mul_en (by omega), _, oAdd_lst (by rw [List.length_map, stT_len]; unfold lim; omega) (by rw [List.length_map, List.length_replicate]; unfold lim; omega), _, rfl, trivial, .int i, ?_⟩
      · show atD (cs.map fun c => D.lst (c.map en)) (i : Int) = _
        rw [atD_nat, List.getElem?_map, hci]
        rfl
      · have : stT (cs.take (i + 1)) = stT (cs.take i) ++ List.replicate cs[i].length i := by
          rw [take_at hci, stT_snoc, List.length_take, Nat.min_eq_left (by omega)]
        rw [this, List.map_append]
        rfl
    rintro env b ⟨rfl, n9, rfl⟩
    rw [rng_len, List.take_length, Nx_nx, W_sAnd, W_sSet]
    simp only [W_xTup, W_xP, W_xQ, W_xApp, xL_cons, xL_nil, W_xCons, W_xC, W_xNil, W_xV, List.append_nil]
    apply W.mono ((used_spec (cs := cs) (by omega)) _)
    rintro d b' e
    subst e
    apply W.mono (take_spec (by omega) (by omega) i7 (by omega))
    rintro d b8 ⟨k4, e, k40, k41, i8⟩
    subst e
    obtain ⟨m4, rfl⟩ := Int.eq_ofNat_of_zero_le k40
    apply W.mono (shown_spec (ns := usedT cs.flatten) (many := m4) (by omega) (by omega) und i8 (by omega))
    rintro d b9 ⟨sh, e, shnd, shsub, i9⟩
    subst e
    have i9 : Inv 300 b9 := i9.mono (by omega)
    have pok : PatOk cs sh := ⟨hcs, cne, fun s hs => ⟨nlab _ (smem s hs).1, llab _ (smem s hs).2.1, nlab _ (smem s hs).2.2⟩, by omega, hu5, shnd, shsub⟩
    refine ⟨_, rfl, ?_⟩
    rw [Nx_nx, W_sAnd, W_sPar]
    simp only [W_xTup, W_xP, W_xQ, W_xApp, W_x2, xL_cons, xL_nil, W_xCons, W_xC, W_xNil, W_xV, List.append_nil]
    apply W.mono (take_spec (by omega) (by omega) i9 (by omega))
    rintro d b10 ⟨k6, e, k60, k61, i10⟩
    subst e
    obtain ⟨m6, rfl⟩ := Int.eq_ofNat_of_zero_le k60
    refine ⟨_, oAdd_1 m6, ?_⟩
    apply W.mono (edges_spec (many := m6 + 1) (ns := dd) (ls := ll) (by omega) (by rintro rfl; simp at dnl) (by rintro rfl; simp at lnl) (by omega) (by omega) i10 (by omega))
    rintro d b11 ⟨E, e, El, End, Emem, i11⟩
    subst e
    have i11 : Inv 400 b11 := i11.mono (by omega)
    have El6 : E.length ≤ 6 := by omega
    have Eok : ∀ e ∈ E, EdgeOk e := fun e he => ⟨dlab _ (Emem e he).1, llab _ (Emem e he).2.1, dlab _ (Emem e he).2.2⟩
    apply W.mono ((made_spec pok) _)
    rintro d b' e
    subst e
    rw [Nx_nx, W_sAnd, W_sSet]
    simp only [W_xTup, W_xQ, W_xApp, W_xA, xL_cons, xL_nil, W_xCons, W_xC, W_xNil, W_xV]
    refine ⟨_, rfl, ?_⟩
    apply W.mono ((ginit_spec Eok (by omega)) _)
    rintro d b' e
    subst e
    refine ⟨.int cs.flatten.length, by show some (D.int ((cs.flatten.map en).length : Nat)) = _; rw [List.length_map], ?_⟩
    rw [List.append_nil]
    apply W.mono ((numberings_spec (k := cs.flatten.length) (by omega)) _)
    rintro d b' e
    subst e
    obtain ⟨nbl, nbp⟩ := numbs_len cs.flatten.length (by omega)
    have nb6 : (numbs cs.flatten.length).length ≤ 7776 := Nat.le_trans nbl (pow5 (by omega))
    have np : 0 < ((numbs cs.flatten.length).map tD).length := by rw [List.length_map]; exact nbp
    refine ⟨_, rfl, ?_⟩
    rw [Nx_nx, W_sAnd, W_sSet, W_x2]
    refine W_xLc ?_
    rw [W_iRng1, W_xC]
    refine ⟨4, rfl, by unfold lim; omega, fun i acc b => acc.length = i ∧ (∀ d ∈ acc, d ∈ (numbs cs.flatten.length).map tD) ∧ Inv (400 + i) b, ⟨rfl, (fun d h => by cases h), i11⟩, ?_, ?_⟩
    · rintro i d acc b hd ⟨al, am, ib⟩
      have hi := rng_lt (size := 4) hd
      refine ⟨_, rfl, ?_⟩
      simp only [xYes, W_xC]
      refine ⟨true, rfl, fun _ => ?_, fun z => by cases z⟩
      simp only [W_xP, W_xApp, xL_cons, xL_nil, W_xCons, W_xNil, W_xV, List.append_nil]
      apply W.mono (of_spec (xs := (numbs cs.flatten.length).map tD) (List.length_pos_iff.mp np) (by rw [List.length_map]; unfold lim; omega) ib (by omega))
      rintro d b' ⟨dm, ib'⟩
      refine ⟨by unfold lim; omega, by rw [List.length_append, al]; rfl, fun d' hd' => ?_, ib'⟩
      rcases List.mem_append.mp hd' with z | z
      · exact am d' z
      · rw [List.mem_singleton.mp z]
        exact dm
    rintro acc b12 ⟨al, am, ib⟩
    have al : acc.length = 4 := al.trans (rng_len 4)
    obtain ⟨d0, f1, f2⟩ := first_at np
    obtain ⟨d1, l1, l2⟩ := last_at np
    simp only [W_xLst, xL_cons, xL_nil, W_xCons, W_xNil, W_x2, W_x1, W_xV, W_xC]
    refine ⟨_, f1, _, rfl, _, l1, _, oAdd_lst (by rw [al]; decide) (by show 2 ≤ lim; decide), _, rfl, ?_⟩
    rw [Nx_nx, W_sAnd]
    have hsome : ∀ d ∈ acc ++ [d0, d1], d ∈ (numbs cs.flatten.length).map tD := by
      intro d hd
      rcases List.mem_append.mp hd with z | z
      · exact am d z
      · rcases List.mem_cons.mp z with z | z
        · rw [z]; exact f2
        · rw [List.mem_singleton.mp z]; exact l2
    refine W_sFor ?_
    simp only [W_iOf, W_xV]
    refine ⟨acc ++ [d0, d1], rfl, fun i env b => ∃ c16 c17 c18 : D, env = [.scr ns, .int at_, a2, .lst (nn.map en), .lst (ll.map en), .lst (dd.map en), .lst (cs.flatten.map en), en2 cs, .lst ((stT cs).map en), n9, .lst (sh.map en), .lst (E.map en), patD cs sh, grD E, .lst ((numbs cs.flatten.length).map tD), .lst (acc ++ [d0, d1]), c16, c17, c18, a19, a20], ⟨a16, a17, a18, rfl⟩, ?_, ?_⟩
    · rintro i d env b hd ⟨c16, c17, c18, rfl⟩
      obtain ⟨xs, hx, rfl⟩ := List.mem_map.mp (hsome d (List.mem_of_getElem? hd))
      obtain ⟨rg, xl⟩ := numbs_mem hx
      have xne : xs ≠ [] := by
        rintro rfl
        rw [List.length_nil] at xl
        omega
      have gok := group_ok pok rg xl
      have gl := cs_len gok.ce
      have gl5 := gok.l5
      refine ⟨_, rfl, ?_⟩
      rw [W_sAnd, W_sPar]
      simp only [W_xQ, W_xApp, xL_cons, xL_nil, W_xCons, W_xNil, W_xV, List.append_nil]
      apply W.mono ((regrouped_spec pok rg xl xne) _)
      rintro d b' e
      subst e
      apply W.mono ((put_anew_spec rg xl (by omega) xne) _)
      rintro d b' e
      subst e
      rw [Nx_nx, W_sAnd, W_sIf, W_xOr, W_x2]
      simp only [W_x1, W_xV]
      refine ⟨_, rfl, ?_⟩
      refine clauses_tup (cs := groupT cs.flatten xs) rfl (by unfold lim; omega) (fun d => rfl) ?_
      refine ⟨_, oNe_same (shp_tup2 _), false, rfl, (fun z => by cases z), fun _ => ?_⟩
      simp only [W_x2, W_x1, W_xA, xL_cons, xL_nil, W_xCons, W_xNil, W_xV]
      refine ⟨_, rfl, _, rfl, _, oNe_same (shpL1 (α := Tx) sh).2, false, rfl, (fun z => by cases z), fun _ => ?_⟩
      rw [W_sPass, Nx_nx, W_sIf, W_xOr, W_x2, W_xMeth, W_xV]
      refine ⟨_, rfl, ?_⟩
      simp only [W_xQ, W_xApp, xL_cons, xL_nil, W_xCons, W_xNil, W_xV, List.append_nil]
      apply W.mono ((rows_spec gok El6) _)
      rintro d b' e
      subst e
      apply W.mono ((law_rows_spec El6 gl5 (rows_ne gok)) _)
      rintro d b' e
      subst e
      rw [rows_same End]
      refine ⟨_, oNe_same (shpRows _), false, rfl, (fun z => by cases z), fun _ => ?_⟩
      refine W_xEqI ?_
      simp only [W_xQ, W_xApp, W_xTup, xL_cons, xL_nil, W_xCons, W_xNil, W_xV, List.append_nil]
      apply W.mono ((made_spec gok) _)
      rintro d b' e
      subst e
      refine ⟨_, _, _, rfl, rfl, peq_spec, false, rfl, (fun z => by cases z), fun _ => ?_⟩
      rw [W_sPass]
      exact ⟨_, _, _, rfl⟩
    · rintro env b ⟨c16, c17, c18, rfl⟩
      have hne : stT cs ≠ [] := by
        intro z
        have := stT_len cs
        rw [z, List.length_nil] at this
        omega
      obtain ⟨srg, _⟩ := stT_rg cs.length cs rfl cne
      rw [Nx_nx, W_sIf, W_xOr]
      refine W_xEqI ?_
      simp only [W_xQ, W_xApp, W_xA, xL_cons, xL_nil, W_xCons, W_xNil, W_xV, List.append_nil]
      refine ⟨_, rfl, ?_⟩
      apply W.mono ((regrouped_spec pok srg (stT_len cs) hne) _)
      rintro d b' e
      subst e
      rw [group_stT cne]
      refine ⟨_, _, _, rfl, rfl, peq_spec, false, rfl, (fun z => by cases z), fun _ => ?_⟩
      rw [W_x2, W_x1, W_xV]
      refine ⟨_, rfl, ?_⟩
      refine clauses_tup (cs := cs) rfl (by unfold lim; omega) (fun d => rfl) ?_
      refine ⟨_, oNe_same (shp_tup2 _), false, rfl, (fun z => by cases z), fun _ => ?_⟩
      rw [W_sPass]
      exact ⟨_, _, _, _, _, _, _, _, _, _, _, _, _, _, _, _, _, _, _, _, rfl⟩
  · rintro env b ⟨a1, a2, a3, a4, a5, a6, a7, a8, a9, a10, a11, a12, a13, a14, a15, a16, a17, a18, a19, a20, rfl⟩
    rw [Nx_nx, W_sRet, W_xC]
    exact W_ret.mpr rfl
theorem law_true (ns : List Int) (h : ns.length ≤ 63) : ∃ b', Zp.f_law [.scr ns] ⟨0, 0, 0⟩ = .ok (.bl true) b' := by
  obtain ⟨d, b', e, q⟩ := (law_ok ns h ⟨0, 0, 0⟩).out
  rw [q] at e
  exact ⟨b', e⟩
end Pl
end
set_option Elab.async false
set_option linter.all false
set_option maxRecDepth 100000
set_option maxHeartbeats 0
namespace Jn
theorem run (w : PySem.World) : HandSHeadRun.RunEq R (PySem.W.view R.prog [49]) hk ob 8000 loose w := by
  intro os
  kernel_rfl
end Jn
open PySem PySem.W PySem.Calls PyProof.Rows
theorem PySem.Challenge.cw_pathmodes_k82_regrouped_patterns_holds : PySem.Challenge.rw_pathmodes_k82_regrouped_patterns.Holds := by
  w_on; o_law
  refine HandSHeadRun.head_any (r := OpenLaw.row PySem.Challenge.rw_pathmodes_k82_regrouped_patterns) (q := view (OpenLaw.row PySem.Challenge.rw_pathmodes_k82_regrouped_patterns).prog [49]) (H := Jn.hk) (ob := Jn.ob) (M := 8000) (loose := Jn.loose) (d := HandSHeadRun.topDef (OpenLaw.row PySem.Challenge.rw_pathmodes_k82_regrouped_patterns).prog 49) (kwd := []) Jn.ob_eq
    (by kernel_rfl) (fun s => by kernel_rfl) Jn.run (by kernel_rfl) (by kernel_rfl) (by kernel_rfl) (by rfl) (by first | assumption | decide +kernel) (by decide +kernel) ⟨rfl, rfl, rfl, rfl, rfl, by decide +kernel⟩ ?hw ?hc
  case hw => w_witness2
  case hc =>
    refine ZL.end_of (l := PySem.Challenge.rw_pathmodes_k82_regrouped_patterns) (n := 63) (k := 7) (x := "script") rfl (by decide) (by kernel_rfl) ⟨rfl, by decide, by decide⟩ fun w mg fa h ⟨K, KX, c, cx⟩ hmg0 G => ?_
    have hmg : mg ("law" : PySem.Str) = some (.ref fa) := by
      have e : (HandSHeadRun.topDef (OpenLaw.row PySem.Challenge.rw_pathmodes_k82_regrouped_patterns).prog 49).name = ("law" : PySem.Str) := by kernel_rfl
      rw [← e]
      exact hmg0
    obtain ⟨fd, hb, hF⟩ := Jn.facts (P := (PySem.Challenge.rw_pathmodes_k82_regrouped_patterns).prog) (w := w) KX G hmg c cx
    exact ⟨K, fd, Jn.TT K, Zp.f_law, KX, hb, Pl.law_true, hF⟩
