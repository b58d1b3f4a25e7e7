import PyProof.Rows.All
import Wide.All
import OpenK.AllK
import Wide.FinOn
import HandS.ForMost
import PyProof.ReprReads
import PyProof.EqLayable
import HandS.TupAny
import HandS.TupMul
import HandS.WideBits
import HandS.TupLe
import HandS.Deep
import HandS.Style
import HandS.IsInst
import PyProof.StrBlock2
import HandS.Dict
import HandS.Iter
import KE.GoesMore
import HandS.Zip
import KE.GoesZip
import HandS.Finally
import PyProof.DictUpdate
import HandS.SortRule
import HandS.SortInts
import PyProof.ReprRoads
import PyProof.StrLawsRepr
import PyProof.FitsInt
import HandS.ExcCtx
import HandS.ExcIs
import HandS.TryOnly
import HandS.HeadWalk
import HandS.Conv
import HandS.ExcValue
import HandS.WideMore
import HandS.Codes
import HandS.EndBits
import PySem.Challenge.RW_looplearn_k20_all_trees
set_option Elab.async false
set_option linter.all false
set_option maxRecDepth 100000
section
/-! LpA: data, a small syntax, its interpreter. Plain Lean. -/
namespace Lp
open PySem

/-! ### data -/
inductive D where
  | non | bl (b : Bool) | int (i : Int) | str (s : List Nat)
  | tup (l : List D) | lst (l : List D) | dic (l : List (D × D)) | hd (k : Nat)
  /-- an object of a class of the program's own: where the class stands, its attributes -/
  | obj (c : Nat) (fs : List (Str × D))
  /-- a caught error: its class's name, where the class stands -/
  | exc (n : Str) (c : Nat)
  deriving Inhabited

/-- what a name holds: data that nobody changes any more, or an object of its own -/
inductive R where
  | frz (d : D) | lst (l : List D) | dic (l : List (D × D)) | tup (l : List R) | obj (c : Nat) (fs : List (Str × D))
  deriving Inhabited

mutual
def D.py : D → PyData
  | .non => .none | .bl b => .bool b | .int i => .int i | .str s => .str ⟨s.toArray⟩
  | .tup l => .tuple (D.pyL l) | .lst l => .list (D.pyL l) | .dic l => .dict (D.pyK l) | .hd _ => .none | .obj _ _ => .none | .exc _ _ => .none
def D.pyL : List D → List PyData
  | [] => [] | d :: r => d.py :: D.pyL r
def D.pyK : List (D × D) → List (PyData × PyData)
  | [] => [] | (k, v) :: r => (k.py, v.py) :: D.pyK r
end
mutual
/-- no handle, no dict within; texts of true signs -/
def D.flat : D → Bool
  | .non => true | .bl _ => true | .int _ => true | .str s => s.all (· < 0x110000)
  | .tup l => D.flatL l | .lst l => D.flatL l | .dic _ => false | .hd _ => false | .obj _ _ => false | .exc _ _ => false
def D.flatL : List D → Bool
  | [] => true | d :: r => d.flat && D.flatL r
end
mutual
def D.dep : D → Nat
  | .non => 0 | .bl _ => 0 | .int _ => 0 | .str _ => 0
  | .tup l => D.depL l + 1 | .lst l => D.depL l + 1 | .dic l => D.depK l + 1 | .hd _ => 0 | .obj _ _ => 0 | .exc _ _ => 0
def D.depL : List D → Nat
  | [] => 0 | d :: r => max d.dep (D.depL r)
def D.depK : List (D × D) → Nat
  | [] => 0 | (k, v) :: r => max (max k.dep v.dep) (D.depK r)
end
mutual
/-- a bound of the length of what repr tells -/
def D.wt : D → Nat
  | .non => 5 | .bl _ => 5 | .int i => if i.natAbs < 2 ^ 250 then 100 else 16777216
  | .str s => if s.all (· < 0x110000) = true then 10 * s.length + 2 else 16777216
  | .tup l => D.wtL l + 3 | .lst l => D.wtL l + 2 | .dic l => if l.isEmpty = true then 2 else 16777216 | .hd _ => 16777216 | .obj _ _ => 16777216 | .exc _ _ => 16777216
def D.wtL : List D → Nat
  | [] => 0 | d :: r => d.wt + 2 + D.wtL r
end
mutual
@[simp] def R.d : R → D
  | .frz d => d | .lst l => .lst l | .dic l => .dic l | .tup l => .tup (R.dL l) | .obj c fs => .obj c fs
@[simp] def R.dL : List R → List D
  | [] => [] | r :: rs => r.d :: R.dL rs
end
mutual
/-- it may become data that nobody changes -/
@[simp] def R.fr : R → Bool
  | .frz _ => true | .lst _ => true | .dic _ => true | .tup l => R.frL l | .obj _ _ => true
@[simp] def R.frL : List R → Bool
  | [] => true | r :: rs => r.fr && R.frL rs
end
def D.rep (d : D) : List Nat := (d.py.shown).cps.toList

/-! ### outcomes -/
structure Exn where
  c : Str
  a : Option D
structure Env where
  sl : List (Option R)
  st : List R
inductive Ev (α : Type) where
  | ok (a : α) (e : Env) | ex (x : Exn) (e : Env) | no
/-- within a comprehension's block nothing may be raised -/
def Ev.calm {α : Type} : Ev α → Ev α
  | .ok a e => .ok a e
  | _ => .no
def Ev.bind {α β : Type} : Ev α → (α → Env → Ev β) → Ev β
  | .ok a e, f => f a e
  | .ex x e, _ => .ex x e
  | .no, _ => .no
/-! what stands behind is looked at last -/
theorem bind_first {α β : Type} {x y : Ev α} {f : α → Env → Ev β} (h : x = y) : x.bind f = y.bind f := by rw [h]
@[simp] theorem calm_ok {α : Type} (a : α) (e : Env) : (Ev.ok a e).calm = .ok a e := rfl
@[simp] theorem calm_ex {α : Type} (x : Exn) (e : Env) : (Ev.ex x e : Ev α).calm = .no := rfl
@[simp] theorem calm_no {α : Type} : (Ev.no : Ev α).calm = .no := rfl
@[simp] theorem bind_ok {α β : Type} (a : α) (e : Env) (f : α → Env → Ev β) : (Ev.ok a e).bind f = f a e := rfl
@[simp] theorem bind_ex {α β : Type} (x : Exn) (e : Env) (f : α → Env → Ev β) : (Ev.ex x e).bind f = .ex x e := rfl
@[simp] theorem bind_no {α β : Type} (f : α → Env → Ev β) : Ev.no.bind f = .no := rfl
/-- a value, or the own object at a name's place -/
inductive A where
  | val (r : R) | bor (i : Nat)
inductive CR where
  | ok (r : R) (ps : List (Option R)) (st : List R) | ex (x : Exn) (ps : List (Option R)) (st : List R) | no
inductive Out where
  | nx (e : Env) | rt (r : R) (e : Env) | bk (e : Env) | ct (e : Env) | ex (x : Exn) (e : Env) | no

/-! ### syntax -/
inductive BOp where | add | sub | mul | fdiv | mod | pow
  deriving DecidableEq
inductive COp where | eq | ne | lt | le | gt | ge | is | isnot | isin | notin
  deriving DecidableEq
inductive Ty where | int | bool | str | tuple | list | dict
  deriving DecidableEq
inductive Bi where | len | all | sum | max | min | repr | sorted | tuple | list | int | str | dict | divmod
  deriving DecidableEq
inductive Mt where | append | pop | extend | reverse | clear | count | index | join | split | get | items | update | upper
  deriving DecidableEq
mutual
inductive Tg where
  | nm (i : Nat) | tp (ts : Tgs) | ls (ts : Tgs)
inductive Tgs where
  | nil | cons (t : Tg) (ts : Tgs)
end
mutual
inductive Ex where
  | var (i : Nat)
  | cst (d : D)
  | glob (x : Str)
  | bin (o : BOp) (a b : Ex)
  | neg (a : Ex)
  | not (a : Ex)
  | cmp (o : COp) (a b : Ex)
  | chain (o p : COp) (a b c : Ex)
  | and (a b : Ex)
  | or (a b : Ex)
  | ite (c a b : Ex)
  | tup (es : Exs)
  | lst (es : Exs)
  | dct (ks vs : Exs)
  | ix (a b : Ex)
  | sl (a lo hi : Ex)
  | nosl
  | rev (a : Ex)
  | isi (a : Ex) (ts : List Ty)
  | bi (b : Bi) (es : Exs)
  | mt (m : Mt) (o : Ex) (es : Exs)
  | call (f : Str) (es : Exs)
  | lc (own : List Nat) (t : Tg) (it : It) (c : Ex) (e : Ex)
  | dc (own : List Nat) (t : Tg) (it : It) (k v : Ex)
  | rg (tu : Bool) (a b : Ex)
  | upd (a b : Ex)
  /-- a.f, of the class c -/
  | fld (c : Str) (a : Ex) (f : Str)
  /-- o.m(..), m of the class c, which is the def g -/
  | mth (c m g : Str) (o : Ex) (es : Exs)
  /-- c(..), whose __init__ is the def g -/
  | new (c g : Str) (es : Exs)
  /-- isinstance of a caught error -/
  | isx (a : Ex) (cs : List Str)
  /-- [f, g, ..][i](..), defs of the module -/
  | callt (fs : List Str) (i : Ex) (es : Exs)
  /-- a comprehension of two clauses; own1: the second's own names -/
  | lc2 (own : List Nat) (t : Tg) (it : It) (c : Ex) (own1 : List Nat) (t1 : Tg) (it1 : It) (c1 : Ex) (e : Ex)
inductive Exs where
  | nil | cons (e : Ex) (es : Exs)
inductive It where
  | sq (e : Ex) | rg1 (a : Ex) | rg2 (a b : Ex) | en (e : Ex) | zp (a b : Ex)
end
inductive Stm where
  | expr (e : Ex)
  | set (t : Tg) (e : Ex)
  | par (ts : List Nat) (es : Exs)
  | setix (o i e : Ex)
  | augix (o : Ex) (i : Ex) (op : BOp) (e : Ex)
  | aug (i : Nat) (op : BOp) (e : Ex)
  | ret (e : Ex)
  | ret0
  | ifs (c : Ex) (a b : List Stm)
  | whl (c : Ex) (b : List Stm)
  | for_ (t : Tg) (it : It) (b : List Stm)
  | pass | brk | cont
  | raise (c : Str) (a : Option Ex)
  /-- try: b except c as i: j = i -/
  | tryc (b : List Stm) (c : Str) (i j : Nat)
  | setf (c : Str) (i : Nat) (f : Str) (a : Ex)

/-! ### operations -/
def big : Nat := 1000000
def clamp (n : Nat) (i : Int) : Nat := if i < 0 then (i + n).toNat else min i.toNat n
def slice {α : Type} (l : List α) (lo hi : Option Int) : List α :=
  let a := match lo with | none => 0 | some i => clamp l.length i
  let b := match hi with | none => l.length | some i => clamp l.length i
  (l.drop a).take (b - a)
def at? {α : Type} (l : List α) (i : Int) : Option α :=
  if 0 ≤ i then l[i.toNat]? else if -(l.length : Int) ≤ i then l[(i + l.length).toNat]? else none
/-- the place in the list that an index means -/
def pos? (n : Nat) (i : Int) : Option Nat :=
  if 0 ≤ i then (if i < n then some i.toNat else none) else if -(n : Int) ≤ i then some (i + n).toNat else none
def mulOk (i j : Int) : Bool :=
  decide (i.natAbs < 2 ^ 63) || decide (j.natAbs < 2 ^ 63) || (decide (i.natAbs < 2 ^ 250) && decide (j.natAbs < 2 ^ 250))
@[simp] def R.lst? : R → Option (List D)
  | .frz (.lst l) => some l | .lst l => some l | _ => none
/-- the items of a list or a tuple of frozen things -/
@[simp] def R.its : R → Option (List D)
  | .frz (.lst l) => some l | .frz (.tup l) => some l | .lst l => some l | _ => none
def binR : BOp → R → R → Option R
  | .add, .frz (.int i), .frz (.int j) => some (.frz (.int (i + j)))
  | .add, .frz (.str a), .frz (.str b) => if a.length + b.length ≤ big then some (.frz (.str (a ++ b))) else none
  | .add, .frz (.tup a), .frz (.tup b) => if a.length + b.length ≤ big then some (.frz (.tup (a ++ b))) else none
  | .add, x, y => match x.lst?, y.lst? with
    | some a, some b => if a.length + b.length ≤ big then some (.lst (a ++ b)) else none
    | _, _ => none
  | .sub, .frz (.int i), .frz (.int j) => some (.frz (.int (i - j)))
  | .mul, .frz (.int i), .frz (.int j) => if mulOk i j then some (.frz (.int (i * j))) else none
  | .mul, .frz (.tup a), .frz (.int j) => if a.length ≤ 1000 ∧ j.natAbs ≤ 1000 then some (.frz (.tup (List.replicate j.toNat a).flatten)) else none
  | .mul, .frz (.str a), .frz (.int j) => if a.length * j.toNat ≤ big ∧ j.natAbs ≤ big then some (.frz (.str (List.replicate j.toNat a).flatten)) else none
  | .mul, x, .frz (.int j) => match x.lst? with
    | some a => if a.length * j.toNat ≤ big ∧ j.natAbs ≤ big then some (.lst (List.replicate j.toNat a).flatten) else none
    | none => none
  | .fdiv, .frz (.int i), .frz (.int j) => if 0 < j ∧ j.natAbs < 2 ^ 250 then some (.frz (.int (i / j))) else none
  | .mod, .frz (.int i), .frz (.int j) => if 0 < j then some (.frz (.int (i % j))) else none
  | .pow, .frz (.int i), .frz (.int j) => if 0 ≤ j ∧ j ≤ 100 ∧ i.natAbs < 2 ^ 250 then some (.frz (.int (i ^ j.toNat))) else none
  | _, _, _ => none
/-- name op= thing: numbers and texts alone -/
def augR : BOp → R → R → Option R
  | .add, .frz (.int i), .frz (.int j) => some (.frz (.int (i + j)))
  | .add, .frz (.str a), .frz (.str b) => if a.length + b.length ≤ big then some (.frz (.str (a ++ b))) else none
  | .sub, .frz (.int i), .frz (.int j) => some (.frz (.int (i - j)))
  | .mul, .frz (.int i), .frz (.int j) => if mulOk i j then some (.frz (.int (i * j))) else none
  | .fdiv, .frz (.int i), .frz (.int j) => if 0 < j ∧ j.natAbs < 2 ^ 250 then some (.frz (.int (i / j))) else none
  | .mod, .frz (.int i), .frz (.int j) => if 0 < j then some (.frz (.int (i % j))) else none
  | _, _, _ => none
/-! dicts: keys are numbers or texts -/
def sameK : D → D → Bool
  | .int i, .int j => decide (i = j)
  | .str i, .str j => decide (i = j)
  | _, _ => false
def isKey : D → Bool
  | .int _ => true | .str _ => true | _ => false
def lookD (l : List (D × D)) (k : D) : Option D := (l.find? fun p => sameK p.1 k).map (·.2)
def putD (l : List (D × D)) (k v : D) : List (D × D) := if (l.any fun p => sameK p.1 k) = true then l.map (fun p => if sameK p.1 k = true then (p.1, v) else p) else l ++ [(k, v)]
@[simp] def R.dic? : R → Option (List (D × D))
  | .frz (.dic l) => some l | .dic l => some l | _ => none
/-- a number, a truth, a text, none -/
def D.sc : D → Bool
  | .non => true | .bl _ => true | .int _ => true | .str _ => true | _ => false
def eqS : D → D → Bool
  | .non, .non => true
  | .bl a, .bl b => decide (a = b)
  | .bl a, .int j => decide ((if a then 1 else 0) = j)
  | .int i, .bl b => decide (i = (if b then 1 else 0))
  | .int i, .int j => decide (i = j)
  | .str x, .str y => decide (x = y)
  | _, _ => false
def D.eqOk (d : D) : Bool := d.flat && decide (d.dep ≤ 60)
def eqD : D → D → Option Bool
  | .int i, .int j => some (decide (i = j))
  | .bl i, .bl j => some (decide (i = j))
  | .str i, .str j => some (decide (i = j))
  | .non, .non => some true
  | a, b => if a.eqOk && b.eqOk then some (PyData.eqv a.py b.py) else none
def isIn (x : D) (l : List D) : Option Bool :=
  if x.sc && l.all D.sc then some (l.any fun z => eqS z x)
  else if x.eqOk && (D.lst l).eqOk then some (l.any fun z => PyData.eqv z.py x.py) else none
def cmpD : COp → D → D → Option Bool
  | .eq, a, b => eqD a b
  | .ne, a, b => (eqD a b).map (!·)
  | .lt, .int i, .int j => some (decide (i < j))
  | .le, .int i, .int j => some (decide (i ≤ j))
  | .gt, .int i, .int j => some (decide (j < i))
  | .ge, .int i, .int j => some (decide (j ≤ i))
  | .lt, .str i, .str j => some (decide (i < j))
  | .le, .str i, .str j => some (!decide (j < i))
  | .gt, .str i, .str j => some (decide (j < i))
  | .ge, .str i, .str j => some (!decide (i < j))
  | .is, .non, .non => some true
  | .is, .bl _, .non => some false
  | .is, .int _, .non => some false
  | .is, .str _, .non => some false
  | .is, .tup _, .non => some false
  | .is, .lst _, .non => some false
  | .is, .dic _, .non => some false
  | .is, .hd _, .non => some false
  | .is, .obj _ _, .non => some false
  | .is, .exc _ _, .non => some false
  | .is, .bl a, .bl b => some (decide (a = b))
  | .isnot, .non, .non => some false
  | .isnot, .bl _, .non => some true
  | .isnot, .int _, .non => some true
  | .isnot, .str _, .non => some true
  | .isnot, .tup _, .non => some true
  | .isnot, .lst _, .non => some true
  | .isnot, .dic _, .non => some true
  | .isnot, .hd _, .non => some true
  | .isnot, .obj _ _, .non => some true
  | .isnot, .exc _ _, .non => some true
  | .isnot, .bl a, .bl b => some (!decide (a = b))
  | .isin, .str [c], .str z => some (decide (c ∈ z))
  | .notin, .str [c], .str z => some (!decide (c ∈ z))
  | .isin, x, .dic l => if isKey x = true then some (lookD l x).isSome else none
  | .notin, x, .dic l => if isKey x = true then some (!(lookD l x).isSome) else none
  | .isin, x, .lst l => isIn x l
  | .notin, x, .lst l => (isIn x l).map (!·)
  | .isin, x, .tup l => if x.sc && l.all D.sc then some (l.any fun z => eqS z x) else none
  | .notin, x, .tup l => if x.sc && l.all D.sc then some (!l.any fun z => eqS z x) else none
  | _, _, _ => none
@[simp] def isT : Ty → D → Bool
  | .int, .int _ => true | .int, .bl _ => true | .bool, .bl _ => true | .str, .str _ => true
  | .tuple, .tup _ => true | .list, .lst _ => true | .dict, .dic _ => true | _, _ => false
/-- what isinstance can be asked of here -/
def isiOk : D → Bool
  | .hd _ => false | .obj _ _ => false | .exc _ _ => false | _ => true
@[simp] theorem isiOk_non : isiOk .non = true := (rfl)
@[simp] theorem isiOk_bl (b : Bool) : isiOk (.bl b) = true := (rfl)
@[simp] theorem isiOk_int (i : Int) : isiOk (.int i) = true := (rfl)
@[simp] theorem isiOk_str (s : List Nat) : isiOk (.str s) = true := (rfl)
@[simp] theorem isiOk_tup (l : List D) : isiOk (.tup l) = true := (rfl)
@[simp] theorem isiOk_lst (l : List D) : isiOk (.lst l) = true := (rfl)
@[simp] theorem isiOk_dic (l : List (D × D)) : isiOk (.dic l) = true := (rfl)
@[simp] theorem isiOk_hd (k : Nat) : isiOk (.hd k) = false := (rfl)
@[simp] theorem isiOk_obj (c : Nat) (fs : List (Str × D)) : isiOk (.obj c fs) = false := (rfl)
@[simp] theorem isiOk_exc (n : Str) (c : Nat) : isiOk (.exc n c) = false := (rfl)
@[simp] theorem isKey_int (i : Int) : isKey (.int i) = true := (rfl)
@[simp] theorem isKey_str (s : List Nat) : isKey (.str s) = true := (rfl)
def ixR : R → R → Option R
  | .frz (.str s), .frz (.int i) => if s.length ≤ big then (at? s i).map fun c => .frz (.str [c]) else none
  | x, .frz (.int i) => match x.its with
    | some l => (at? l i).map .frz
    | none => match x.dic? with
      | some l => (lookD l (.int i)).map .frz
      | none => none
  | x, .frz (.str i) => match x.dic? with
    | some l => (lookD l (.str i)).map .frz
    | none => none
  | _, _ => none
@[simp] def optI : Option R → Option (Option Int)
  | none => some none
  | some (.frz (.int i)) => some (some i)
  | _ => none
def slR : R → Option Int → Option Int → Option R
  | .frz (.str s), lo, hi => if s.length ≤ big then some (.frz (.str (slice s lo hi))) else none
  | .frz (.tup l), lo, hi => some (.frz (.tup (slice l lo hi)))
  | x, lo, hi => match x.lst? with
    | some l => some (.lst (slice l lo hi))
    | none => none
def revR : R → Option R
  | .frz (.str s) => if s.length ≤ big then some (.frz (.str s.reverse)) else none
  | .frz (.tup l) => some (.frz (.tup l.reverse))
  | x => match x.lst? with
    | some l => some (.lst l.reverse)
    | none => none
def ints? : List D → Option (List Int)
  | [] => some []
  | .int i :: r => (ints? r).map (i :: ·)
  | _ :: _ => none
def bls? : List D → Option (List Bool)
  | [] => some []
  | .bl b :: r => (bls? r).map (b :: ·)
  | _ :: _ => none
def strs? : List D → Option (List (List Nat))
  | [] => some []
  | .str s :: r => (strs? r).map (s :: ·)
  | _ :: _ => none
def maxL : Int → List Int → Int
  | m, [] => m
  | m, x :: r => maxL (if x > m then x else m) r
def minL : Int → List Int → Int
  | m, [] => m
  | m, x :: r => minL (if x < m then x else m) r
@[simp] def lenD : D → Option Nat
  | .str s => if s.length ≤ big then some s.length else none | .tup l => some l.length | .lst l => some l.length | .dic l => some l.length | _ => none
@[simp] def bi1 (f : R → Option R) : List R → Option R
  | [x] => f x
  | _ => none
@[simp] def bi2 (f : R → R → Option R) : List R → Option R
  | [x, y] => f x y
  | _ => none
@[simp] def lenR (x : R) : Option R := (lenD x.d).map fun (n : Nat) => R.frz (.int (n : Int))
def allR (x : R) : Option R := match x.lst? with
  | some l => (bls? l).map fun bs => .frz (.bl (bs.all id))
  | none => none
def sumR (x : R) : Option R := match x.its with
  | some l => (ints? l).map fun is => .frz (.int is.sum)
  | none => none
def insI (i : Int) : List Int → List Int
  | [] => [i]
  | j :: l => if i ≤ j then i :: j :: l else j :: insI i l
def sortI : List Int → List Int
  | [] => []
  | i :: l => insI i (sortI l)
/-- one pair not behind another -/
def leP (p q : Int × Int) : Prop := p.1 < q.1 ∨ (p.1 = q.1 ∧ p.2 ≤ q.2)
instance (p q : Int × Int) : Decidable (leP p q) := by unfold leP; infer_instance
def insP (p : Int × Int) : List (Int × Int) → List (Int × Int)
  | [] => [p]
  | q :: l => if leP p q then p :: q :: l else q :: insP p l
def sortP : List (Int × Int) → List (Int × Int)
  | [] => []
  | p :: l => insP p (sortP l)
def prs? : List D → Option (List (Int × Int))
  | [] => some []
  | .tup [.int i, .int j] :: r => (prs? r).map ((i, j) :: ·)
  | _ :: _ => none
def prD (p : Int × Int) : D := .tup [.int p.1, .int p.2]
/-- the numbers at a tuple's beginning -/
def leadI : List D → List Int
  | .int i :: r => i :: leadI r
  | _ => []
def D.lead : D → List Int
  | .tup l => leadI l | _ => []
def D.isTup : D → Bool
  | .tup _ => true | _ => false
/-- numbers alone -/
def D.fullI : D → Bool
  | .tup l => decide ((leadI l).length = l.length) | _ => false
/-- one row of numbers ahead of another -/
def lexI : List Int → List Int → Bool
  | [], [] => false
  | [], _ :: _ => true
  | _ :: _, [] => false
  | a :: x, b :: y => if a = b then lexI x y else decide (a < b)
def insT (d : D) : List D → List D
  | [] => [d]
  | e :: l => if lexI e.lead d.lead = true then e :: insT d l else d :: e :: l
def sortT : List D → List D
  | [] => []
  | d :: l => insT d (sortT l)
/-- tuples that begin with as many numbers: of numbers alone, or of unlike beginnings -/
def sortOk (l : List D) : Bool := l.all D.isTup && (decide (l.length < 2) || match l with
  | d :: _ => decide (0 < d.lead.length) && l.all (fun e => decide (e.lead.length = d.lead.length)) && (l.all D.fullI || decide ((l.map D.lead).Nodup))
  | [] => true)
/-- sorted(x), x a list of numbers, of pairs of numbers, of tuples -/
def sortR (x : R) : Option R := match x.lst? with
  | some l => match ints? l with
    | some is => some (.lst ((sortI is).map .int))
    | none => match prs? l with
      | some ps => some (.lst ((sortP ps).map prD))
      | none => if sortOk l = true then some (.lst (sortT l)) else none
  | none => none
def maxR (x : R) : Option R := match x.its with
  | some l => match ints? l with
    | some (i :: is) => some (.frz (.int (maxL i is)))
    | _ => none
  | none => none
def minR (x : R) : Option R := match x.its with
  | some l => match ints? l with
    | some (i :: is) => some (.frz (.int (minL i is)))
    | _ => none
  | none => none
@[simp] def max2 : R → R → Option R
  | .frz (.int i), .frz (.int j) => some (.frz (.int (if j > i then j else i)))
  | _, _ => none
@[simp] def min2 : R → R → Option R
  | .frz (.int i), .frz (.int j) => some (.frz (.int (if j < i then j else i)))
  | _, _ => none
def reprR : R → Option R
  | .tup _ => none
  | x => if x.d.wt ≤ big && decide (x.d.dep ≤ 60) then some (.frz (.str x.d.rep)) else none
@[simp] def tupOf (x : R) : Option R := x.its.map fun l => .frz (.tup l)
@[simp] def lstOf (x : R) : Option R := x.its.map .lst
@[simp] def intOf : R → Option R
  | .frz (.bl b) => some (.frz (.int (if b then 1 else 0)))
  | .frz (.int i) => some (.frz (.int i))
  | _ => none
def divR : R → R → Option R
  | .frz (.int i), .frz (.int j) => if 0 < j ∧ j.natAbs < 2 ^ 250 then some (.frz (.tup [.int (i / j), .int (i % j)])) else none
  | _, _ => none
@[simp] def biR : Bi → List R → Option R
  | .len, rs => bi1 lenR rs
  | .all, rs => bi1 allR rs
  | .sum, rs => bi1 sumR rs
  | .max, rs => match rs with
    | [x] => maxR x
    | [x, y] => max2 x y
    | _ => none
  | .min, rs => match rs with
    | [x] => minR x
    | [x, y] => min2 x y
    | _ => none
  | .repr, rs => bi1 reprR rs
  | .tuple, rs => bi1 tupOf rs
  | .list, rs => bi1 lstOf rs
  | .int, rs => bi1 intOf rs
  | .divmod, rs => bi2 divR rs
  | .sorted, rs => bi1 sortR rs
  | _, _ => none
/-- one dict, another written into it -/
def mrgD (l m : List (D × D)) : List (D × D) := m.foldl (fun acc p => putD acc p.1 p.2) l
@[simp] def D.isB : D → Bool
  | .bl _ => true | _ => false
@[simp] def D.isBl (k : Bool) : D → Bool
  | .bl b => b == k | _ => false
/-- a method that changes its list: what it tells, and the list behind it -/
def mtOwn : Mt → List D → List D → Option (D × List D)
  | .append, l, [d] => if l.length < big then some (.non, l ++ [d]) else none
  | .pop, l, [] => match l.getLast? with
    | some d => some (d, l.dropLast)
    | none => none
  | .pop, l, [.int i] => match pos? l.length i with
    | some k => match l[k]? with
      | some d => some (d, l.eraseIdx k)
      | none => none
    | none => none
  | .extend, l, [.lst r] => if l.length + r.length ≤ big then some (.non, l ++ r) else none
  | .reverse, l, [] => some (.non, l.reverse)
  | .clear, _, [] => some (.non, [])
  | .count, l, [.bl k] => if l.all D.isB = true then some (.int ((l.countP (D.isBl k) : Nat) : Int), l) else none
  | .index, l, [.bl k] => if l.all D.isB = true then (match l.findIdx? (D.isBl k) with
    | some j => some (.int (j : Int), l)
    | none => none) else none
  | _, _, _ => none

/-- a method that reads alone -/
def mtRd : Mt → R → List R → Option R
  | .count, x, [y] => match x.lst? with
    | some l => if (D.lst l).eqOk && y.d.eqOk then some (.frz (.int (l.countP fun z => PyData.eqv z.py y.d.py))) else none
    | none => none
  | _, _, _ => none
@[simp] def Mt.own : Mt → Bool
  | .append => true | .pop => true | .extend => true | .reverse => true | .clear => true | .update => true | .count => true | .index => true | _ => false

/-! ### places -/
@[simp] def Env.set (e : Env) (i : Nat) (r : Option R) : Env := { e with sl := e.sl.set i r }
def Env.get (e : Env) (i : Nat) : Option R := (e.sl[i]?).join
/-- what an argument is now -/
@[simp] def Env.look (e : Env) : A → Option R
  | .val r => some r
  | .bor i => e.get i
@[simp] def Env.looks (e : Env) : List A → Option (List R)
  | [] => some []
  | a :: r => match e.look a, e.looks r with
    | some x, some xs => some (x :: xs)
    | _, _ => none
/-- as data that nobody changes any more -/
@[simp] def Env.frz (e : Env) : A → Option (D × Env)
  | .val r => if r.fr then some (r.d, e) else none
  | .bor i => match e.get i with
    | some r => if r.fr then some (r.d, e.set i (some (.frz r.d))) else none
    | none => none
@[simp] def Env.frzs (e : Env) : List A → Option (List D × Env)
  | [] => some ([], e)
  | a :: r => match e.frz a with
    | some (d, e1) => match e1.frzs r with
      | some (ds, e2) => some (d :: ds, e2)
      | none => none
    | none => none
/-- to be held by a name -/
@[simp] def Env.take (e : Env) : A → Option (R × Env)
  | .val r => some (r, e)
  | .bor i => match e.frz (.bor i) with
    | some (d, e1) => some (.frz d, e1)
    | none => none
/-- handed out of the def: the name's own object goes -/
@[simp] def Env.mov (e : Env) : A → Option (R × Env)
  | .val r => some (r, e)
  | .bor i => match e.get i with
    | some r => some (r, e.set i none)
    | none => none
@[simp] def Env.movs (e : Env) : List A → Option (List R × Env)
  | [] => some ([], e)
  | a :: r => match e.mov a with
    | some (x, e1) => match e1.movs r with
      | some (xs, e2) => some (x :: xs, e2)
      | none => none
    | none => none
@[simp] def frzR? : List R → Option (List D)
  | [] => some []
  | .frz d :: r => (frzR? r).map (d :: ·)
  | _ :: _ => none
@[simp] def tupR (rs : List R) : R := match frzR? rs with
  | some ds => .frz (.tup ds)
  | none => .tup rs
/-- arguments of a def: those at the places refs may be own objects of names -/
@[simp] def Env.prep (e : Env) (refs : List Nat) : Nat → List A → Option (List A × Env)
  | _, [] => some ([], e)
  | j, .val r :: l => match e.prep refs (j + 1) l with
    | some (as, e2) => some (.val r :: as, e2)
    | none => none
  | j, .bor i :: l => if refs.contains j then match e.prep refs (j + 1) l with
      | some (as, e2) => some (.bor i :: as, e2)
      | none => none
    else match e.frz (.bor i) with
      | some (d, e1) => match e1.prep refs (j + 1) l with
        | some (as, e2) => some (.val (.frz d) :: as, e2)
        | none => none
      | none => none
@[simp] def Env.pull (e : Env) : List A → Option (List R × Env)
  | [] => some ([], e)
  | a :: l => match e.mov a with
    | some (r, e1) => match e1.pull l with
      | some (rs, e2) => some (r :: rs, e2)
      | none => none
    | none => none
@[simp] def Env.back (e : Env) : List A → List (Option R) → Env
  | .bor i :: l, p :: ps => (e.set i p).back l ps
  | .val _ :: l, _ :: ps => e.back l ps
  | _, _ => e
@[simp] def R.comps : R → Option (List R)
  | .frz (.tup ds) => some (ds.map .frz)
  | .tup rs => some rs
  | _ => none
mutual
@[simp] def stT : Tg → R → Env → Option Env
  | .nm i, r, e => some (e.set i (some r))
  | .tp ts, r, e => match r.comps with
    | some rs => stTs ts rs e
    | none => none
  | .ls ts, r, e => match r.lst? with
    | some l => stTs ts (l.map .frz) e
    | none => none
@[simp] def stTs : Tgs → List R → Env → Option Env
  | .nil, [], e => some e
  | .cons t ts, r :: rs, e => match stT t r e with
    | some e1 => stTs ts rs e1
    | none => none
  | _, _, _ => none
end
@[simp] def Env.hide (e : Env) : List Nat → Env
  | [] => e
  | i :: l => (e.hide l).set i none
@[simp] def Env.unhide (e : Env) (o : Env) : List Nat → Env
  | [] => e
  | i :: l => (e.unhide o l).set i (o.get i)

/-! ### evaluation -/
structure Calls where
  refs : Str → List Nat
  run : Str → List R → List R → CR
  glob : Str → Option D
  /-- where a class of the program's own stands -/
  cl : Str → Nat
  /-- a def that a class's call runs: one level below -/
  mkr : Str → List R → List R → CR
  /-- is the error class a class of the other kind? -/
  sub : Str → Str → Option Bool

/-- an attribute, stored -/
def putFD (f : Str) (v : D) : List (Str × D) → List (Str × D)
  | [] => [(f, v)]
  | (g, w) :: r => if g = f then (g, v) :: r else (g, w) :: putFD f v r

/-- is it of one of the classes? -/
@[simp] def subAny (f : Str → Option Bool) : List Str → Option Bool
  | [] => some false
  | x :: r => match f x, subAny f r with
    | some a, some b => some (a || b)
    | _, _ => none
def lcLoop (g : D → Env → Option Env) (c : Env → Ev Bool) (f : Env → Ev D) : List D → List D → Env → Ev (List D)
  | [], acc, e => .ok acc e
  | d :: ds, acc, e => match g d e with
    | none => .no
    | some e1 => (c e1).bind fun b e2 => if b then (f e2).bind fun x e3 => if acc.length < big then lcLoop g c f ds (acc ++ [x]) e3 else .no
        else lcLoop g c f ds acc e2
/-- a comprehension, once its items are known -/
def lcRun (own : List Nat) (t : Tg) (c : Env → Ev Bool) (x : Env → Ev A) (ds : List D) (e1 : Env) : Ev A :=
  (lcLoop (fun d e => stT t (.frz d) (e.hide own)) (fun e => (c e).calm) (fun e => (x e).calm.bind fun a e2 => match e2.frz a with
        | some (d, e3) => .ok d e3
        | none => .no) ds [] e1).bind fun acc e2 => .ok (.val (.lst acc)) (e2.unhide e1 own)
/-- what stands behind the list, one item of a comprehension -/
def lcItem (x : Env → Ev A) (e : Env) : Ev D := (x e).calm.bind fun a e2 => match e2.frz a with
  | some (d, e3) => .ok d e3
  | none => .no
/-- the outer loop of a comprehension of two clauses -/
def lc2Loop (g : D → Env → Option Env) (c : Env → Ev Bool) (inner : List D → Env → Ev (List D)) : List D → List D → Env → Ev (List D)
  | [], acc, e => .ok acc e
  | d :: ds, acc, e => match g d e with
    | none => .no
    | some e1 => (c e1).bind fun b e2 => if b then (inner acc e2).bind fun acc' e3 => lc2Loop g c inner ds acc' e3 else lc2Loop g c inner ds acc e2
/-- the inner loop of a comprehension of two clauses -/
def lc2In (own1 : List Nat) (t1 : Tg) (it1 : Env → Ev (List D)) (c1 : Env → Ev Bool) (x : Env → Ev A) (acc : List D) (e : Env) : Ev (List D) :=
  (it1 e).calm.bind fun ds1 e3 => lcLoop (fun d e => stT t1 (.frz d) (e.hide own1)) (fun e => (c1 e).calm) (lcItem x) ds1 acc e3
def lc2Run (own : List Nat) (t : Tg) (c : Env → Ev Bool) (inner : List D → Env → Ev (List D)) (ds : List D) (e1 : Env) : Ev A :=
  (lc2Loop (fun d e => stT t (.frz d) (e.hide own)) (fun e => (c e).calm) inner ds [] e1).bind fun acc e2 => .ok (.val (.lst acc)) (e2.unhide e1 own)
/-- what a call leaves -/
def CR.fin (c : CR) (bs : List A) (e : Env) : Ev A := match c with
  | .ok r ps st => .ok (.val r) ({ e with st := st }.back bs ps)
  | .ex x ps st => .ex x ({ e with st := st }.back bs ps)
  | .no => .no
/-- what a class's call leaves: the new object, as __init__ hands it back -/
def CR.made (c : CR) (bs : List A) (e : Env) : Ev A := match c with
  | .ok (.frz .non) (some r :: ps) st => .ok (.val r) ({ e with st := st }.back bs ps)
  | .ex x (_ :: ps) st => .ex x ({ e with st := st }.back bs ps)
  | _ => .no
def asB : A → Env → Ev Bool
  | .val (.frz (.bl b)), e => .ok b e
  | _, _ => .no
def onVal (o : Option R) (e : Env) : Ev A := match o with
  | some r => .ok (.val r) e
  | none => .no
def optB : Option Bool → Env → Ev Bool
  | some b, e => .ok b e
  | none, _ => .no
@[simp] theorem optB_some (b : Bool) (e : Env) : optB (some b) e = .ok b e := rfl
@[simp] theorem optB_none (e : Env) : optB none e = .no := rfl
@[simp] theorem asB_bl (b : Bool) (e : Env) : asB (.val (.frz (.bl b))) e = .ok b e := rfl
@[simp] theorem onVal_some (r : R) (e : Env) : onVal (some r) e = .ok (.val r) e := rfl
@[simp] theorem onVal_none (e : Env) : onVal none e = .no := rfl
def enumD : Nat → List D → List D
  | _, [] => []
  | k, d :: r => .tup [.int k, d] :: enumD (k + 1) r
def zipD : List D → List D → List D
  | a :: x, b :: y => .tup [a, b] :: zipD x y
  | _, _ => []
/-- the items of what is walked -/
@[simp] def itD : D → Option (List D)
  | .lst l => some l | .tup l => some l | .str s => some (s.map fun c => .str [c]) | _ => none
def rgD (lo hi : Int) : List D := (List.range (hi - lo).toNat).map fun (k : Nat) => .int (lo + (k : Int))
def small (i : Int) : Bool := decide (i.natAbs < 1099511627776)

mutual
@[simp] def ev (C : Calls) : Ex → Env → Ev A
  | .var i, e => match e.get i with
    | some (.frz d) => .ok (.val (.frz d)) e
    | some _ => .ok (.bor i) e
    | none => .no
  | .cst d, e => .ok (.val (.frz d)) e
  | .glob x, e => match C.glob x with
    | some d => .ok (.val (.frz d)) e
    | none => .no
  | .bin o a b, e => (ev C a e).bind fun x e1 => (ev C b e1).bind fun y e2 => match e2.look x, e2.look y with
    | some r, some s => onVal (binR o r s) e2
    | _, _ => .no
  | .neg a, e => (ev C a e).bind fun x e1 => match x with
    | .val (.frz (.int i)) => .ok (.val (.frz (.int (-i)))) e1
    | _ => .no
  | .not a, e => (evT C a e).bind fun b e1 => .ok (.val (.frz (.bl (!b)))) e1
  | .cmp o a b, e => (ev C a e).bind fun x e1 => (ev C b e1).bind fun y e2 => match e2.look x, e2.look y with
    | some r, some s => onVal ((cmpD o r.d s.d).map fun b => .frz (.bl b)) e2
    | _, _ => .no
  | .chain o p a b c, e => (ev C a e).bind fun x e1 => (ev C b e1).bind fun y e2 => match e2.look x, e2.look y with
    | some r, some s => (optB (cmpD o r.d s.d) e2).bind fun t e2 => if t = true then (ev C c e2).bind fun z e3 => match e3.look y, e3.look z with
        | some s, some t => onVal ((cmpD p s.d t.d).map fun b => .frz (.bl b)) e3
        | _, _ => .no
      else .ok (.val (.frz (.bl false))) e2
    | _, _ => .no
  | .and a b, e => (evT C a e).bind fun x e1 => if x then ev C b e1 else .ok (.val (.frz (.bl false))) e1
  | .or a b, e => (evT C a e).bind fun x e1 => if x then .ok (.val (.frz (.bl true))) e1 else ev C b e1
  | .ite c a b, e => (evT C c e).bind fun x e1 => if x then ev C a e1 else ev C b e1
  | .tup es, e => (evs C es e).bind fun as e1 => match e1.frzs as with
    | some (ds, e2) => .ok (.val (.frz (.tup ds))) e2
    | none => .no
  | .lst es, e => (evs C es e).bind fun as e1 => match e1.frzs as with
    | some (ds, e2) => .ok (.val (.lst ds)) e2
    | none => .no
  | .dct ks vs, e => match ks, vs with
    | .nil, .nil => .ok (.val (.dic [])) e
    | .cons k .nil, .cons v .nil => (ev C k e).bind fun x e1 => (ev C v e1).bind fun y e2 => match x, e2.frz y with
      | .val (.frz kd), some (d, e3) => if isKey kd = true then .ok (.val (.dic (putD [] kd d))) e3 else .no
      | _, _ => .no
    | _, _ => .no
  | .ix a b, e => (ev C a e).bind fun x e1 => (ev C b e1).bind fun y e2 => match e2.look x, e2.look y with
    | some r, some s => onVal (ixR r s) e2
    | _, _ => .no
  | .sl a lo hi, e => (ev C a e).bind fun x e1 => (evO C lo e1).bind fun i e2 => (evO C hi e2).bind fun j e3 => match e3.look x with
    | some r => onVal (slR r i j) e3
    | none => .no
  | .nosl, _ => .no
  | .rev a, e => (ev C a e).bind fun x e1 => match e1.look x with
    | some r => onVal (revR r) e1
    | none => .no
  | .isi a ts, e => (ev C a e).bind fun x e1 => match e1.look x with
    | some r => if isiOk r.d then .ok (.val (.frz (.bl (ts.any fun t => isT t r.d)))) e1 else .no
    | none => .no
  | .bi b es, e => (evs C es e).bind fun as e1 => match e1.looks as with
    | some rs => onVal (biR b rs) e1
    | none => .no
  | .mt m o es, e => (ev C o e).bind fun x e1 => if m.own = true then (match x with
      | .bor i => match e1.get i with
        | some (.lst _) => (evs C es e1).bind fun as e2 => match e2.frzs as with
          | some (ds, e3) => match e3.get i with
            | some (.lst l) => match mtOwn m l ds with
              | some (d, l') => .ok (.val (.frz d)) (e3.set i (some (.lst l')))
              | none => .no
            | _ => .no
          | none => .no
        | _ => .no
      | _ => .no) else (evs C es e1).bind fun as e2 => match e2.look x, e2.looks as with
      | some r, some rs => onVal (mtRd m r rs) e2
      | _, _ => .no
  | .call f es, e => (evs C es e).bind fun as e1 => match e1.prep (C.refs f) 0 as with
    | some (bs, e2) => match e2.pull bs with
      | some (rs, e3) => (C.run f rs e3.st).fin bs e3
      | none => .no
    | none => .no
  | .lc own t it c x, e => (evIt C it e).bind fun ds e1 => lcRun own t (evT C c) (ev C x) ds e1
  | .dc _ _ _ _ _, _ => .no
  | .upd a b, e => (ev C a e).bind fun x e1 => match x with
    | .bor i => match e1.get i with
      | some (.dic _) => (ev C b e1).bind fun y e2 => match e2.frz y with
        | some (.dic m, e3) => match e3.get i with
          | some (.dic l) => if l.length + m.length ≤ big then .ok (.val (.frz .non)) (e3.set i (some (.dic (mrgD l m)))) else .no
          | _ => .no
        | _ => .no
      | _ => .no
    | _ => .no
  | .rg tu a b, e => (ev C a e).bind fun x e1 => (ev C b e1).bind fun y e2 => match x, y with
    | .val (.frz (.int i)), .val (.frz (.int j)) => if small i && small j && decide (j - i ≤ 1000000) then .ok (.val (if tu then .frz (.tup (rgD i j)) else .lst (rgD i j))) e2 else .no
    | _, _ => .no
  | .fld c a f, e => (ev C a e).bind fun x e1 => match e1.look x with
    | some r => match r.d with
      | .obj c' fs => if c' = C.cl c then (match fs.lookup f with
        | some d => .ok (.val (.frz d)) e1
        | none => .no) else .no
      | _ => .no
    | none => .no
  | .mth c m g o es, e => (ev C o e).bind fun x e1 => match e1.frz x with
    | some (.obj c' fs, e2) => if c' = C.cl c ∧ (fs.lookup m).isNone = true then (evs C es e2).bind fun as e3 => match e3.prep (C.refs g) 0 (.val (.frz (.obj c' fs)) :: as) with
        | some (bs, e4) => match e4.pull bs with
          | some (rs, e5) => (C.run g rs e5.st).fin bs e5
          | none => .no
        | none => .no
      else .no
    | _ => .no
  | .new c g es, e => (evs C es e).bind fun as e1 => match e1.prep (C.refs g) 1 as with
    | some (bs, e2) => match e2.pull bs with
      | some (rs, e3) => (C.mkr g (.obj (C.cl c) [] :: rs) e3.st).made bs e3
      | none => .no
    | none => .no
  | .isx a cs, e => (ev C a e).bind fun x e1 => match e1.look x with
    | some (.frz (.exc n c)) => if c = C.cl n then (match subAny (C.sub n) cs with
        | some b => .ok (.val (.frz (.bl b))) e1
        | none => .no) else .no
    | _ => .no
  | .lc2 own t it c own1 t1 it1 c1 x, e => (evIt C it e).bind fun ds e1 => lc2Run own t (evT C c) (lc2In own1 t1 (evIt C it1) (evT C c1) (ev C x)) ds e1
  | .callt fs i es, e => (ev C i e).bind fun x e1 => match x with
    | .val (.frz (.int k)) => match at? fs k with
      | some f => (evs C es e1).bind fun as e2 => match e2.prep (C.refs f) 0 as with
        | some (bs, e3) => match e3.pull bs with
          | some (rs, e4) => (C.run f rs e4.st).fin bs e4
          | none => .no
        | none => .no
      | none => .no
    | _ => .no
@[simp] def evT (C : Calls) : Ex → Env → Ev Bool
  | a, e => (ev C a e).bind asB
@[simp] def evO (C : Calls) : Ex → Env → Ev (Option Int)
  | .nosl, e => .ok none e
  | a, e => (ev C a e).bind fun x e1 => match x with
    | .val (.frz (.int i)) => .ok (some i) e1
    | _ => .no
@[simp] def evs (C : Calls) : Exs → Env → Ev (List A)
  | .nil, e => .ok [] e
  | .cons a r, e => (ev C a e).bind fun x e1 => (evs C r e1).bind fun xs e2 => .ok (x :: xs) e2
@[simp] def evIt (C : Calls) : It → Env → Ev (List D)
  | .sq a, e => (ev C a e).bind fun x e1 => match e1.frz x with
    | some (d, e2) => match itD d with
      | some l => .ok l e2
      | none => .no
    | none => .no
  | .rg1 a, e => (ev C a e).bind fun x e1 => match x with
    | .val (.frz (.int i)) => if small i then .ok (rgD 0 i) e1 else .no
    | _ => .no
  | .rg2 a b, e => (ev C a e).bind fun x e1 => (ev C b e1).bind fun y e2 => match x, y with
    | .val (.frz (.int i)), .val (.frz (.int j)) => if small i && small j then .ok (rgD i j) e2 else .no
    | _, _ => .no
  | .en a, e => (ev C a e).bind fun x e1 => match e1.frz x with
    | some (.lst l, e2) => .ok (enumD 0 l) e2
    | some (.tup l, e2) => .ok (enumD 0 l) e2
    | _ => .no
  | .zp a b, e => (ev C a e).bind fun x e1 => (ev C b e1).bind fun y e2 => match e2.frz x with
    | some (dx, e3) => match e3.frz y with
      | some (dy, e4) => match dx, dy with
        | .lst l, .lst m => .ok (zipD l m) e4
        | .tup l, .tup m => .ok (zipD l m) e4
        | .tup l, .lst m => .ok (zipD l m) e4
        | _, _ => .no
      | none => .no
    | none => .no
end

/-! ### statements -/
def Ev.out {α : Type} : Ev α → (α → Env → Out) → Out
  | .ok a e, f => f a e
  | .ex x e, _ => .ex x e
  | .no, _ => .no
def Out.seq : Out → (Env → Out) → Out
  | .nx e, f => f e
  | o, _ => o
theorem out_first {α : Type} {x y : Ev α} {f : α → Env → Out} (h : x = y) : x.out f = y.out f := by rw [h]
theorem seq_first {x y : Out} {f : Env → Out} (h : x = y) : x.seq f = y.seq f := by rw [h]
@[simp] theorem out_ok {α : Type} (a : α) (e : Env) (f : α → Env → Out) : (Ev.ok a e).out f = f a e := rfl
@[simp] theorem out_ex {α : Type} (x : Exn) (e : Env) (f : α → Env → Out) : (Ev.ex x e).out f = .ex x e := rfl
@[simp] theorem out_no {α : Type} (f : α → Env → Out) : Ev.no.out f = .no := rfl
@[simp] theorem seq_nx (e : Env) (f : Env → Out) : (Out.nx e).seq f = f e := rfl
@[simp] theorem seq_rt (r : R) (e : Env) (f : Env → Out) : (Out.rt r e).seq f = .rt r e := rfl
@[simp] theorem seq_bk (e : Env) (f : Env → Out) : (Out.bk e).seq f = .bk e := rfl
@[simp] theorem seq_ct (e : Env) (f : Env → Out) : (Out.ct e).seq f = .ct e := rfl
@[simp] theorem seq_ex (x : Exn) (e : Env) (f : Env → Out) : (Out.ex x e).seq f = .ex x e := rfl
@[simp] theorem seq_no (f : Env → Out) : Out.no.seq f = .no := rfl
/-- an error is caught, and kept at j -/
def Out.caught (o : Out) (C : Calls) (c : Str) (i j : Nat) : Out := match o with
  | .ex x e => match C.sub x.c c with
    | some true => .nx ((e.set i none).set j (some (.frz (.exc x.c (C.cl x.c)))))
    | some false => .ex x e
    | none => .no
  | o => o
/-- the loops' turns at most -/
def turns : Nat := 1000000000
def wLoop (c : Env → Ev Bool) (b : Env → Out) : Nat → Env → Out
  | 0, _ => .no
  | n + 1, e => (c e).out fun t e1 => if t then match b e1 with
      | .nx e2 => wLoop c b n e2
      | .ct e2 => wLoop c b n e2
      | .bk e2 => .nx e2
      | .rt r e2 => .rt r e2
      | .ex x e2 => .ex x e2
      | .no => .no
    else .nx e1
def fLoop (g : D → Env → Option Env) (b : Env → Out) : List D → Env → Out
  | [], e => .nx e
  | d :: ds, e => match g d e with
    | none => .no
    | some e1 => match b e1 with
      | .nx e2 => fLoop g b ds e2
      | .ct e2 => fLoop g b ds e2
      | .bk e2 => .nx e2
      | .rt r e2 => .rt r e2
      | .ex x e2 => .ex x e2
      | .no => .no
/-- what is handed out: own objects go with it -/
@[simp] def evR (C : Calls) : Ex → Env → Ev R
  | .tup es, e => (evs C es e).bind fun as e1 => match e1.movs as with
    | some (rs, e2) => .ok (tupR rs) e2
    | none => .no
  | a, e => (ev C a e).bind fun x e1 => match e1.mov x with
    | some (r, e2) => .ok r e2
    | none => .no
/-- to be held by names -/
@[simp] def evH (C : Calls) (a : Ex) (e : Env) : Ev R := (ev C a e).bind fun x e1 => match e1.take x with
  | some (r, e2) => .ok r e2
  | none => .no
@[simp] def Env.takes (e : Env) : List A → Option (List R × Env)
  | [] => some ([], e)
  | a :: r => match e.take a with
    | some (x, e1) => match e1.takes r with
      | some (xs, e2) => some (x :: xs, e2)
      | none => none
    | none => none
@[simp] def setAll : List Nat → List R → Env → Env
  | i :: l, r :: rs, e => setAll l rs (e.set i (some r))
  | _, _, e => e
mutual
@[simp] def exec (C : Calls) : Stm → Env → Out
  | .expr a, e => (ev C a e).out fun _ e1 => .nx e1
  | .set t a, e => (evH C a e).out fun r e1 => match stT t r e1 with
    | some e2 => .nx e2
    | none => .no
  | .par ts es, e => (evs C es e).out fun as e1 => match e1.takes as with
    | some (rs, e2) => if rs.length = ts.length then .nx (setAll ts rs e2) else .no
    | none => .no
  | .setix o i a, e => (ev C a e).out fun x e1 => (ev C o e1).out fun y e2 => (ev C i e2).out fun z e3 => match y, z, e3.frz x with
    | .bor j, .val (.frz k), some (d, e4) => match e4.get j with
      | some (.lst l) => match k with
        | .int k => match pos? l.length k with
          | some n => .nx (e4.set j (some (.lst (l.set n d))))
          | none => .no
        | _ => .no
      | some (.dic l) => if isKey k = true ∧ l.length < big then .nx (e4.set j (some (.dic (putD l k d)))) else .no
      | _ => .no
    | _, _, _ => .no
  | .augix o i op a, e => (ev C o e).out fun y e1 => (ev C i e1).out fun z e2 => match y, z with
    | .bor j, .val (.frz (.int k)) => match e2.get j with
      | some (.lst l) => match at? l k with
        | some old => (ev C a e2).out fun x e3 => match x with
          | .val s => match augR op (.frz old) s, e3.get j with
            | some (.frz d), some (.lst l') => match pos? l'.length k with
              | some n => .nx (e3.set j (some (.lst (l'.set n d))))
              | none => .no
            | _, _ => .no
          | _ => .no
        | none => .no
      | _ => .no
    | _, _ => .no
  | .aug i op a, e => match e.get i with
    | some (.frz old) => (ev C a e).out fun x e1 => match x with
      | .val (.frz d) => match augR op (.frz old) (.frz d) with
        | some r => .nx (e1.set i (some r))
        | none => .no
      | _ => .no
    | _ => .no
  | .ret a, e => (evR C a e).out fun r e1 => .rt r e1
  | .ret0, e => .rt (.frz .non) e
  | .ifs c a b, e => (evT C c e).out fun t e1 => if t then execs C a e1 else execs C b e1
  | .whl c b, e => wLoop (evT C c) (execs C b) turns e
  | .for_ t it b, e => (evIt C it e).out fun ds e1 => fLoop (fun d => stT t (.frz d)) (execs C b) ds e1
  | .pass, e => .nx e
  | .brk, e => .bk e
  | .cont, e => .ct e
  | .raise c none, e => .ex ⟨c, none⟩ e
  | .raise _ (some _), _ => .no
  | .tryc b c i j, e => (execs C b e).caught C c i j
  | .setf cn i f a, e => (ev C a e).out fun x e1 => match e1.frz x with
    | some (d, e2) => match e2.get i with
      | some (.obj c fs) => if c = C.cl cn ∧ fs.length < 1000 then .nx (e2.set i (some (.obj c (putFD f d fs)))) else .no
      | _ => .no
    | none => .no
@[simp] def execs (C : Calls) : List Stm → Env → Out
  | [], e => .nx e
  | s :: r, e => (exec C s e).seq fun e1 => execs C r e1
end
/-- a def: its parameters, all its names, the parameters through which it changes what it is handed -/
structure Fn where
  np : Nat
  ns : Nat
  refs : List Nat
  body : List Stm
@[simp] def given (refs : List Nat) (sl : List (Option R)) : Nat → Nat → List (Option R)
  | _, 0 => []
  | j, n + 1 => (if refs.contains j then (sl[j]?).join else none) :: given refs sl (j + 1) n
def Fn.run (F : Fn) (C : Calls) (rs : List R) (st : List R) : CR :=
  if rs.length = F.np then
    match execs C F.body ⟨rs.map some ++ List.replicate (F.ns - F.np) none, st⟩ with
    | .nx e => .ok (.frz .non) (given F.refs e.sl 0 F.np) e.st
    | .rt r e => .ok r (given F.refs e.sl 0 F.np) e.st
    | .ex x e => .ex x (given F.refs e.sl 0 F.np) e.st
    | _ => .no
  else .no
structure Prog where
  fns : List (Str × Fn)
  globs : List (Str × D)
  cl : Str → Nat
  /-- the error classes, each with all that it is -/
  exs : List (Str × List (Str × Bool))
def Prog.sub (P : Prog) (n x : Str) : Option Bool := match P.exs.lookup n with
  | some l => l.lookup x
  | none => none
def Prog.fn (P : Prog) (f : Str) : Option Fn := P.fns.lookup f
def Prog.calls (P : Prog) : Nat → Calls
  | 0 => ⟨fun f => match P.fn f with | some F => F.refs | none => [], fun _ _ _ => .no, fun x => P.globs.lookup x, P.cl, fun _ _ _ => .no, P.sub⟩
  | n + 1 => ⟨fun f => match P.fn f with | some F => F.refs | none => [], fun f rs st => match P.fn f with
      | some F => F.run (P.calls n) rs st
      | none => .no, fun x => P.globs.lookup x, P.cl, (P.calls n).run, P.sub⟩
/-! ### sorting -/
theorem srt_uniq {α : Type} {le : α → α → Prop} (anti : ∀ a b, le a b → le b a → a = b) : ∀ {l m : List α}, l.Perm m → l.Pairwise le → m.Pairwise le → l = m
  | [], m, h, _, _ => h.nil_eq
  | a :: l, [], h, _, _ => absurd h.length_eq (by simp)
  | a :: l, b :: m, h, hl, hm => by
    have hl' := List.pairwise_cons.mp hl
    have hm' := List.pairwise_cons.mp hm
    have e : a = b := by
      rcases List.mem_cons.mp (h.mem_iff.mp (List.mem_cons_self (a := a) (l := l))) with e | ha
      · exact e
      · rcases List.mem_cons.mp (h.mem_iff.mpr (List.mem_cons_self (a := b) (l := m))) with e | hb
        · exact e.symm
        · exact anti a b (hl'.1 b hb) (hm'.1 a ha)
    subst e
    rw [srt_uniq anti h.cons_inv hl'.2 hm'.2]
theorem insI_perm (i : Int) : ∀ l, (insI i l).Perm (i :: l)
  | [] => List.Perm.refl _
  | j :: l => by
    unfold insI
    split
    · exact List.Perm.refl _
    · exact ((insI_perm i l).cons j).trans (List.Perm.swap i j l)
theorem sortI_perm : ∀ l, (sortI l).Perm l
  | [] => List.Perm.refl _
  | i :: l => (insI_perm i (sortI l)).trans ((sortI_perm l).cons i)
theorem insI_srt (i : Int) : ∀ {l : List Int}, l.Pairwise (· ≤ ·) → (insI i l).Pairwise (· ≤ ·)
  | [], _ => List.pairwise_singleton _ _
  | j :: l, h => by
    have h' := List.pairwise_cons.mp h
    unfold insI
    split
    · rename_i hij
      refine List.pairwise_cons.mpr ⟨fun x hx => ?_, h⟩
      rcases List.mem_cons.mp hx with e | hx
      · rw [e]
        exact hij
      · exact Int.le_trans hij (h'.1 x hx)
    · rename_i hij
      refine List.pairwise_cons.mpr ⟨fun x hx => ?_, insI_srt i h'.2⟩
      rcases List.mem_cons.mp ((insI_perm i l).mem_iff.mp hx) with e | hx
      · rw [e]
        omega
      · exact h'.1 x hx
theorem sortI_srt : ∀ l, (sortI l).Pairwise (· ≤ ·)
  | [] => List.Pairwise.nil
  | i :: l => insI_srt i (sortI_srt l)
theorem leP_anti (p q : Int × Int) (h : leP p q) (h2 : leP q p) : p = q := by
  unfold leP at h h2
  exact Prod.ext (by omega) (by omega)
theorem insP_perm (i : Int × Int) : ∀ l, (insP i l).Perm (i :: l)
  | [] => List.Perm.refl _
  | j :: l => by
    unfold insP
    split
    · exact List.Perm.refl _
    · exact ((insP_perm i l).cons j).trans (List.Perm.swap i j l)
theorem sortP_perm : ∀ l, (sortP l).Perm l
  | [] => List.Perm.refl _
  | i :: l => (insP_perm i (sortP l)).trans ((sortP_perm l).cons i)
theorem insP_srt (i : Int × Int) : ∀ {l : List (Int × Int)}, l.Pairwise leP → (insP i l).Pairwise leP
  | [], _ => List.pairwise_singleton _ _
  | j :: l, h => by
    have h' := List.pairwise_cons.mp h
    unfold insP
    split
    · rename_i hij
      refine List.pairwise_cons.mpr ⟨fun x hx => ?_, h⟩
      rcases List.mem_cons.mp hx with e | hx
      · rw [e]
        exact hij
      · have := h'.1 x hx
        unfold leP at *
        omega
    · rename_i hij
      refine List.pairwise_cons.mpr ⟨fun x hx => ?_, insP_srt i h'.2⟩
      rcases List.mem_cons.mp ((insP_perm i l).mem_iff.mp hx) with e | hx
      · rw [e]
        unfold leP at *
        omega
      · exact h'.1 x hx
theorem sortP_srt : ∀ l, (sortP l).Pairwise leP
  | [] => List.Pairwise.nil
  | i :: l => insP_srt i (sortP_srt l)
theorem lexI_asym : ∀ x y : List Int, lexI x y = true → lexI y x = false
  | [], [], h => by simp [lexI] at h
  | [], _ :: _, _ => rfl
  | _ :: _, [], h => by simp [lexI] at h
  | a :: x, b :: y, h => by
    unfold lexI at h ⊢
    by_cases e : a = b
    · rw [if_pos e] at h
      rw [if_pos e.symm]
      exact lexI_asym x y h
    · rw [if_neg e, decide_eq_true_eq] at h
      rw [if_neg (Ne.symm e), decide_eq_false_iff_not]
      omega
theorem lexI_tr : ∀ x y z : List Int, lexI y x = false → lexI z y = false → lexI z x = false
  | [], _, [], _, _ => rfl
  | [], _, _ :: _, _, _ => rfl
  | _ :: _, [], _, h, _ => by simp [lexI] at h
  | _ :: _, _ :: _, [], _, h => by simp [lexI] at h
  | a :: x, b :: y, c :: z, h1, h2 => by
    unfold lexI at h1 h2 ⊢
    by_cases e1 : b = a
    · rw [if_pos e1] at h1
      by_cases e2 : c = b
      · rw [if_pos e2] at h2
        rw [if_pos (e2.trans e1)]
        exact lexI_tr x y z h1 h2
      · rw [if_neg e2] at h2
        rw [if_neg (by omega)]
        rw [decide_eq_false_iff_not] at h2 ⊢
        omega
    · rw [if_neg e1, decide_eq_false_iff_not] at h1
      by_cases e2 : c = b
      · rw [if_neg (by omega), decide_eq_false_iff_not]
        omega
      · rw [if_neg e2, decide_eq_false_iff_not] at h2
        rw [if_neg (by omega), decide_eq_false_iff_not]
        omega
theorem lexI_anti : ∀ x y : List Int, lexI x y = false → lexI y x = false → x = y
  | [], [], _, _ => rfl
  | [], _ :: _, h, _ => by simp [lexI] at h
  | _ :: _, [], _, h => by simp [lexI] at h
  | a :: x, b :: y, h1, h2 => by
    unfold lexI at h1 h2
    by_cases e : a = b
    · rw [if_pos e] at h1
      rw [if_pos e.symm] at h2
      rw [e, lexI_anti x y h1 h2]
    · rw [if_neg e, decide_eq_false_iff_not] at h1
      rw [if_neg (Ne.symm e), decide_eq_false_iff_not] at h2
      omega
theorem insT_perm (d : D) : ∀ l, (insT d l).Perm (d :: l)
  | [] => List.Perm.refl _
  | e :: l => by
    unfold insT
    split
    · exact ((insT_perm d l).cons e).trans (List.Perm.swap d e l)
    · exact List.Perm.refl _
theorem sortT_perm : ∀ l, (sortT l).Perm l
  | [] => List.Perm.refl _
  | d :: l => (insT_perm d (sortT l)).trans ((sortT_perm l).cons d)
/-- not behind -/
def leT (d e : D) : Prop := lexI e.lead d.lead = false
theorem insT_srt (d : D) : ∀ {l : List D}, l.Pairwise leT → (insT d l).Pairwise leT
  | [], _ => List.pairwise_singleton _ _
  | e :: l, h => by
    have h' := List.pairwise_cons.mp h
    unfold insT
    split
    · rename_i he
      refine List.pairwise_cons.mpr ⟨fun x hx => ?_, insT_srt d h'.2⟩
      rcases List.mem_cons.mp ((insT_perm d l).mem_iff.mp hx) with q | hx
      · rw [q]
        exact lexI_asym _ _ he
      · exact h'.1 x hx
    · rename_i he
      have he : lexI e.lead d.lead = false := by simpa using he
      refine List.pairwise_cons.mpr ⟨fun x hx => ?_, h⟩
      rcases List.mem_cons.mp hx with q | hx
      · rw [q]
        exact he
      · exact lexI_tr _ _ _ he (h'.1 x hx)
theorem sortT_srt : ∀ l, (sortT l).Pairwise leT
  | [] => List.Pairwise.nil
  | d :: l => insT_srt d (sortT_srt l)
/-- what is sorted stays -/
theorem sortT_id : ∀ {l : List D}, l.Pairwise leT → sortT l = l
  | [], _ => rfl
  | d :: l, h => by
    have h' := List.pairwise_cons.mp h
    unfold sortT
    rw [sortT_id h'.2]
    cases l with
    | nil => rfl
    | cons e l =>
      unfold insT
      rw [if_neg]
      have := h'.1 e List.mem_cons_self
      unfold leT at this
      rw [this]
      exact Bool.false_ne_true
end Lp

end
section
/-! LpB1: which values stand for which data; ownership. -/
namespace Lp
open PySem L2

def keyD : L2.Key → D
  | .inl i => .int i
  | .inr x => .str x.cps.toList

/-- a caught error of the class c, held as a value -/
def CaO (c a : Addr) : HO := .ext fun h => ∃ ox, PySem.W.InstAt h a ox c none
/-- a list that may be read: its very object is known -/
def SqX (K : PySem.W.Frag) (F : Hp) (a : Addr) (xs : List V) : Prop :=
  Rd F a (.lst xs) ∨ ∃ (its : List Value) (n : Nat), K.lookup a = some { cls := .type "list", data := .seq its.toArray n } ∧ xs.length ≤ sizeLine ∧ Vals xs its
section
variable (K : PySem.W.Frag) (F : Hp) (m : List Addr)
mutual
/-- v stands for the data d, all within F -/
inductive Dr : V → D → Prop
  | non : Dr .non .non
  | bl (b : Bool) : Dr (.bl b) (.bl b)
  | int (i : Int) : Dr (.int i) (.int i)
  | str (s : List Nat) : Dr (.str ⟨s.toArray⟩) (.str s)
  | tup {a : Addr} {xs : List V} {l : List D} : Rd F a (.tup xs) → DrL xs l → Dr (.ref a) (.tup l)
  | lst {a : Addr} {xs : List V} {l : List D} : SqX K F a xs → DrL xs l → Dr (.ref a) (.lst l)
  | dic {a : Addr} {ks : List (L2.Key × V)} {l : List (D × D)} : Rd F a (.dK ks) → DrK ks l → Dr (.ref a) (.dic l)
  | hd {a : Addr} {k : Nat} : m[k]? = some a → Dr (.ref a) (.hd k)
  | obj {a c dx : Addr} {xs : List (Str × V)} {fs : List (Str × D)} : F a = some (.ins c dx xs) → DrF xs fs → Dr (.ref a) (.obj c fs)
  | exc {a c : Addr} {n : Str} : F a = some (CaO c a) → Dr (.ref a) (.exc n c)
inductive DrL : List V → List D → Prop
  | nil : DrL [] []
  | cons {v : V} {vs : List V} {d : D} {ds : List D} : Dr v d → DrL vs ds → DrL (v :: vs) (d :: ds)
inductive DrK : List (L2.Key × V) → List (D × D) → Prop
  | nil : DrK [] []
  | cons {k : L2.Key} {v : V} {r : List (L2.Key × V)} {kd d : D} {l : List (D × D)} : kd = keyD k → Dr v d → DrK r l → DrK ((k, v) :: r) ((kd, d) :: l)
inductive DrF : List (Str × V) → List (Str × D) → Prop
  | nil : DrF [] []
  | cons {f : Str} {v : V} {r : List (Str × V)} {d : D} {l : List (Str × D)} : Dr v d → DrF r l → DrF ((f, v) :: r) ((f, d) :: l)
end
end

section
variable {K : PySem.W.Frag} {F F' : Hp} {m m' : List Addr}
def Grow (m m' : List Addr) : Prop := ∀ (k : Nat) (a : Addr), m[k]? = some a → m'[k]? = some a
theorem Grow.refl (m : List Addr) : Grow m m := fun _ _ h => h
theorem sqx_mono {a : Addr} {xs : List V} (e : Same F F') (h : SqX K F a xs) : SqX K F' a xs := by
  rcases h with (h | ⟨o, h⟩) | h
  · exact .inl (.inl (e _ _ h))
  · exact .inl (.inr ⟨o, e _ _ h⟩)
  · exact .inr h
theorem SqX.sqL {a : Addr} {xs : List V} (h : SqX K F a xs) : SqL K F a xs := by
  rcases h with h | ⟨its, n, h1, h2, h3⟩
  · exact .inl h
  · exact .inr ⟨_, its.toArray, n, h1, rfl, rfl, rfl, by rw [List.size_toArray, ← h3.length]; exact h2, h3⟩
theorem inv_exact {X : Cx} {pins : List (Addr × Obj)} {σ : St} {H : Hp} {s : Shared} {a : Addr} {xs : List V} (I : Inv X pins σ H s) (h : SqX X.K H a xs) :
    xs.length ≤ sizeLine ∧ ∃ (its : List Value) (n : Nat), Vals xs its ∧ xs.length = its.length ∧ s.heap.get? a = some { cls := .type "list", data := .seq its.toArray n } := by
  rcases h with h | ⟨its, n, h1, h2, h3⟩
  · obtain ⟨z, its, n, r, e⟩ := h.ok I.hok
    exact ⟨z, its, n, r, r.length, e⟩
  · exact ⟨h2, its, n, h3, h3.length, I.kIn _ _ h1⟩
theorem rd_mono {a : Addr} {u : HO} (e : Same F F') (h : Rd F a u) : Rd F' a u := by
  rcases h with h | ⟨o, h⟩
  · exact .inl (e _ _ h)
  · exact .inr ⟨o, e _ _ h⟩
mutual
theorem Dr.mono (e : Same F F') (g : Grow m m') : ∀ {v : V} {d : D}, Dr K F m v d → Dr K F' m' v d
  | _, _, .non => .non
  | _, _, .bl b => .bl b
  | _, _, .int i => .int i
  | _, _, .str s => .str s
  | _, _, .tup h t => .tup (rd_mono e h) (DrL.mono e g t)
  | _, _, .lst h t => .lst (sqx_mono e h) (DrL.mono e g t)
  | _, _, .dic h t => .dic (rd_mono e h) (DrK.mono e g t)
  | _, _, .hd h => .hd (g _ _ h)
  | _, _, .obj h t => .obj (e _ _ h) (DrF.mono e g t)
  | _, _, .exc h => .exc (e _ _ h)
theorem DrL.mono (e : Same F F') (g : Grow m m') : ∀ {vs : List V} {ds : List D}, DrL K F m vs ds → DrL K F' m' vs ds
  | _, _, .nil => .nil
  | _, _, .cons h t => .cons (Dr.mono e g h) (DrL.mono e g t)
theorem DrK.mono (e : Same F F') (g : Grow m m') : ∀ {vs : List (L2.Key × V)} {ds : List (D × D)}, DrK K F m vs ds → DrK K F' m' vs ds
  | _, _, .nil => .nil
  | _, _, .cons q h t => .cons q (Dr.mono e g h) (DrK.mono e g t)
theorem DrF.mono (e : Same F F') (g : Grow m m') : ∀ {vs : List (Str × V)} {ds : List (Str × D)}, DrF K F m vs ds → DrF K F' m' vs ds
  | _, _, .nil => .nil
  | _, _, .cons h t => .cons (Dr.mono e g h) (DrF.mono e g t)
end
theorem DrF.len : ∀ {vs : List (Str × V)} {ds : List (Str × D)}, DrF K F m vs ds → vs.length = ds.length
  | _, _, .nil => rfl
  | _, _, .cons _ t => congrArg (· + 1) t.len
theorem DrF.get : ∀ {vs : List (Str × V)} {ds : List (Str × D)} {f : Str} {d : D}, DrF K F m vs ds → ds.lookup f = some d → ∃ v, vs.lookup f = some v ∧ Dr K F m v d
  | _, _, _, _, .nil, e => nomatch e
  | _, _, f, d, .cons (f := g) (v := v) h t, e => by
    rw [List.lookup_cons] at e ⊢
    cases q : f == g with
    | true =>
      rw [q] at e
      have := Option.some.inj e
      subst this
      exact ⟨v, rfl, h⟩
    | false =>
      rw [q] at e
      exact t.get e
theorem DrF.none : ∀ {vs : List (Str × V)} {ds : List (Str × D)} {f : Str}, DrF K F m vs ds → ds.lookup f = none → vs.lookup f = none
  | _, _, _, .nil, _ => rfl
  | _, _, f, .cons (f := g) (v := v) h t, e => by
    rw [List.lookup_cons] at e ⊢
    cases q : f == g with
    | true =>
      rw [q] at e
      cases e
    | false =>
      rw [q] at e
      exact t.none e
theorem DrF.put {f : Str} {v : V} {d : D} (hd : Dr K F m v d) : ∀ {vs : List (Str × V)} {ds : List (Str × D)}, DrF K F m vs ds → DrF K F m (putF f v vs) (putFD f d ds)
  | _, _, .nil => .cons hd .nil
  | _, _, .cons (f := g) h t => by
    unfold putF putFD
    by_cases q : g = f
    · rw [if_pos q, if_pos q]
      exact .cons hd t
    · rw [if_neg q, if_neg q]
      exact .cons h (t.put hd)
theorem DrL.len : ∀ {vs : List V} {ds : List D}, DrL K F m vs ds → vs.length = ds.length
  | _, _, .nil => rfl
  | _, _, .cons _ t => congrArg (· + 1) t.len
theorem DrL.app : ∀ {vs ws : List V} {ds es : List D}, DrL K F m vs ds → DrL K F m ws es → DrL K F m (vs ++ ws) (ds ++ es)
  | _, _, _, _, .nil, h => h
  | _, _, _, _, .cons h t, r => .cons h (t.app r)
theorem DrL.take : ∀ {vs : List V} {ds : List D} (n : Nat), DrL K F m vs ds → DrL K F m (vs.take n) (ds.take n)
  | _, _, 0, _ => .nil
  | _, _, _ + 1, .nil => .nil
  | _, _, n + 1, .cons h t => .cons h (t.take n)
theorem DrL.drop : ∀ {vs : List V} {ds : List D} (n : Nat), DrL K F m vs ds → DrL K F m (vs.drop n) (ds.drop n)
  | _, _, 0, h => h
  | _, _, _ + 1, .nil => .nil
  | _, _, n + 1, .cons _ t => t.drop n
theorem DrL.rev : ∀ {vs : List V} {ds : List D}, DrL K F m vs ds → DrL K F m vs.reverse ds.reverse
  | _, _, .nil => .nil
  | _, _, .cons h t => by
    rw [List.reverse_cons, List.reverse_cons]
    exact t.rev.app (.cons h .nil)
theorem DrL.get : ∀ {vs : List V} {ds : List D} {i : Nat} {d : D}, DrL K F m vs ds → ds[i]? = some d → ∃ v, vs[i]? = some v ∧ Dr K F m v d
  | _, _, _, _, .nil, e => by simp at e
  | _, _, 0, _, .cons h _, e => by
    simp at e
    subst e
    exact ⟨_, rfl, h⟩
  | _, _, i + 1, _, .cons _ t, e => by
    obtain ⟨v, h1, h2⟩ := t.get (i := i) (by simpa using e)
    exact ⟨v, by simpa using h1, h2⟩
theorem DrL.set : ∀ {vs : List V} {ds : List D} (i : Nat) {v : V} {d : D}, DrL K F m vs ds → Dr K F m v d → DrL K F m (vs.set i v) (ds.set i d)
  | _, _, _, _, _, .nil, _ => .nil
  | _, _, 0, _, _, .cons _ t, h => .cons h t
  | _, _, i + 1, _, _, .cons q t, h => .cons q (t.set i h)
theorem DrL.erase : ∀ {vs : List V} {ds : List D} (i : Nat), DrL K F m vs ds → DrL K F m (vs.eraseIdx i) (ds.eraseIdx i)
  | _, _, _, .nil => .nil
  | _, _, 0, .cons _ t => t
  | _, _, i + 1, .cons q t => .cons q (t.erase i)
theorem DrL.flat : ∀ {n : Nat} {vs : List V} {ds : List D}, DrL K F m vs ds → DrL K F m (List.replicate n vs).flatten (List.replicate n ds).flatten
  | 0, _, _, _ => .nil
  | n + 1, _, _, h => by
    rw [List.replicate_succ, List.replicate_succ, List.flatten_cons, List.flatten_cons]
    exact h.app (DrL.flat h)
theorem DrL.dropLast {vs : List V} {ds : List D} (h : DrL K F m vs ds) : DrL K F m vs.dropLast ds.dropLast := by
  rw [List.dropLast_eq_take, List.dropLast_eq_take, h.len]
  exact h.take _
end

section
variable (K : PySem.W.Frag) (F H : Hp) (m : List Addr)
mutual
/-- v stands for r; fp: the objects that are its own -/
inductive Rv : List Addr → V → R → Prop
  | frz {v : V} {d : D} : Dr K F m v d → Rv [] v (.frz d)
  | lst {a : Addr} {xs : List V} {l : List D} : H a = some (.lst xs) → DrL K F m xs l → Rv [a] (.ref a) (.lst l)
  | dic {a : Addr} {ks : List (L2.Key × V)} {l : List (D × D)} : H a = some (.dK ks) → DrK K F m ks l → Rv [a] (.ref a) (.dic l)
  | tup {a : Addr} {fp : List Addr} {xs : List V} {rs : List R} : H a = some (.tup xs) → RvL fp xs rs → Rv (a :: fp) (.ref a) (.tup rs)
  | obj {a c dx : Addr} {xs : List (Str × V)} {fs : List (Str × D)} : H a = some (.ins c dx xs) → DrF K F m xs fs → Rv [a] (.ref a) (.obj c fs)
inductive RvL : List Addr → List V → List R → Prop
  | nil : RvL [] [] []
  | cons {fp fq : List Addr} {v : V} {vs : List V} {r : R} {rs : List R} : Rv fp v r → RvL fq vs rs → RvL (fp ++ fq) (v :: vs) (r :: rs)
end
end
/-- what is alive: a value and what it is; an object that is known whole; a shared cell -/
inductive En where
  | it (v : V) (r : R) | cap (a : Addr) (o : HO) | cell (k : Nat) (a : Addr) (r : R)
section
variable (K : PySem.W.Frag) (F H : Hp) (m : List Addr)
inductive EnOk : List Addr → En → Prop
  | it {fp : List Addr} {v : V} {r : R} : Rv K F H m fp v r → EnOk fp (.it v r)
  | cap {a : Addr} {o : HO} : H a = some o → EnOk [a] (.cap a o)
  | cell {k : Nat} {a : Addr} {fp : List Addr} {r : R} : m[k]? = some a → Rv K F H m fp (.ref a) r → EnOk fp (.cell k a r)
inductive EnsOk : List Addr → List En → Prop
  | nil : EnsOk [] []
  | cons {fp fq : List Addr} {x : En} {L : List En} : EnOk K F H m fp x → EnsOk fq L → EnsOk (fp ++ fq) (x :: L)
end
def Own (K : PySem.W.Frag) (H : Hp) (L : List En) : Prop := ∃ (F : Hp) (m fps : List Addr), Same F H ∧ EnsOk K F H m fps L ∧ fps.Nodup ∧ ∀ a ∈ fps, F a = none

section
variable {K : PySem.W.Frag} {F F' H H' : Hp} {m m' : List Addr}
mutual
theorem Rv.there : ∀ {fp : List Addr} {v : V} {r : R}, Rv K F H m fp v r → ∀ a ∈ fp, H a ≠ none
  | _, _, _, .frz _ => fun _ h => nomatch h
  | _, _, _, .lst h _ => fun b hb => by
    rw [List.mem_singleton] at hb
    subst hb
    rw [h]
    exact nofun
  | _, _, _, .dic h _ => fun b hb => by
    rw [List.mem_singleton] at hb
    subst hb
    rw [h]
    exact nofun
  | _, _, _, .tup h t => fun b hb => by
    rcases List.mem_cons.mp hb with rfl | hb
    · rw [h]
      exact nofun
    · exact t.there b hb
  | _, _, _, .obj h _ => fun b hb => by
    rw [List.mem_singleton] at hb
    subst hb
    rw [h]
    exact nofun
theorem RvL.there : ∀ {fp : List Addr} {v : List V} {r : List R}, RvL K F H m fp v r → ∀ a ∈ fp, H a ≠ none
  | _, _, _, .nil => fun _ h => nomatch h
  | _, _, _, .cons h t => fun b hb => (List.mem_append.mp hb).elim (h.there b) (t.there b)
end
theorem EnOk.there {fp : List Addr} {x : En} (h : EnOk K F H m fp x) : ∀ a ∈ fp, H a ≠ none := by
  cases h with
  | it h => exact h.there
  | cap h =>
    intro b hb
    rw [List.mem_singleton] at hb
    subst hb
    rw [h]
    exact nofun
  | cell _ h => exact h.there
theorem EnsOk.there : ∀ {fp : List Addr} {L : List En}, EnsOk K F H m fp L → ∀ a ∈ fp, H a ≠ none
  | _, _, .nil => fun _ h => nomatch h
  | _, _, .cons h t => fun b hb => (List.mem_append.mp hb).elim (h.there b) (t.there b)
mutual
theorem Rv.stay (e : Same F F') (g : Grow m m') : ∀ {fp : List Addr} {v : V} {r : R}, Rv K F H m fp v r → (∀ a ∈ fp, H' a = H a) → Rv K F' H' m' fp v r
  | _, _, _, .frz h, _ => .frz (h.mono e g)
  | _, _, _, .lst h t, k => .lst ((k _ List.mem_cons_self).trans h) (t.mono e g)
  | _, _, _, .dic h t, k => .dic ((k _ List.mem_cons_self).trans h) (t.mono e g)
  | _, _, _, .tup h t, k => .tup ((k _ List.mem_cons_self).trans h) (t.stay e g fun a ha => k a (List.mem_cons_of_mem _ ha))
  | _, _, _, .obj h t, k => .obj ((k _ List.mem_cons_self).trans h) (t.mono e g)
theorem RvL.stay (e : Same F F') (g : Grow m m') : ∀ {fp : List Addr} {v : List V} {r : List R}, RvL K F H m fp v r → (∀ a ∈ fp, H' a = H a) → RvL K F' H' m' fp v r
  | _, _, _, .nil, _ => .nil
  | _, _, _, .cons h t, k => .cons (h.stay e g fun a ha => k a (List.mem_append_left _ ha)) (t.stay e g fun a ha => k a (List.mem_append_right _ ha))
end
theorem EnOk.stay (e : Same F F') (g : Grow m m') {fp : List Addr} {x : En} (h : EnOk K F H m fp x) (k : ∀ a ∈ fp, H' a = H a) : EnOk K F' H' m' fp x := by
  cases h with
  | it h => exact .it (h.stay e g k)
  | cap h => exact .cap ((k _ List.mem_cons_self).trans h)
  | cell q h => exact .cell (g _ _ q) (h.stay e g k)
theorem EnsOk.stay (e : Same F F') (g : Grow m m') : ∀ {fp : List Addr} {L : List En}, EnsOk K F H m fp L → (∀ a ∈ fp, H' a = H a) → EnsOk K F' H' m' fp L
  | _, _, .nil, _ => .nil
  | _, _, .cons h t, k => .cons (h.stay e g fun a ha => k a (List.mem_append_left _ ha)) (t.stay e g fun a ha => k a (List.mem_append_right _ ha))
theorem EnsOk.perm {L L' : List En} (p : L.Perm L') : ∀ {fp : List Addr}, EnsOk K F H m fp L → ∃ fp', fp.Perm fp' ∧ EnsOk K F H m fp' L' := by
  induction p with
  | nil => exact fun h => ⟨_, .refl _, h⟩
  | cons x _ ih =>
    intro fp h
    cases h with
    | cons h t =>
      obtain ⟨fq, p1, h1⟩ := ih t
      exact ⟨_, p1.append_left _, .cons h h1⟩
  | swap x y l =>
    intro fp h
    cases h with
    | cons h t =>
      cases t with
      | cons h2 t =>
        refine ⟨_, ?_, .cons h2 (.cons h t)⟩
        rw [← List.append_assoc, ← List.append_assoc]
        exact List.perm_append_comm.append_right _
  | trans _ _ ih1 ih2 =>
    intro fp h
    obtain ⟨f1, p1, h1⟩ := ih1 h
    obtain ⟨f2, p2, h2⟩ := ih2 h1
    exact ⟨f2, p1.trans p2, h2⟩
theorem EnsOk.split {A B : List En} : ∀ {fp : List Addr}, EnsOk K F H m fp (A ++ B) → ∃ f1 f2, fp = f1 ++ f2 ∧ EnsOk K F H m f1 A ∧ EnsOk K F H m f2 B := by
  induction A with
  | nil => exact fun h => ⟨[], _, rfl, .nil, h⟩
  | cons x A ih =>
    intro fp h
    cases h with
    | cons h t =>
      obtain ⟨f1, f2, rfl, a, b⟩ := ih t
      exact ⟨_, f2, (List.append_assoc _ _ _).symm, .cons h a, b⟩
theorem EnsOk.join {A B : List En} : ∀ {f1 f2 : List Addr}, EnsOk K F H m f1 A → EnsOk K F H m f2 B → EnsOk K F H m (f1 ++ f2) (A ++ B) := by
  induction A with
  | nil =>
    intro f1 f2 a b
    cases a
    exact b
  | cons x A ih =>
    intro f1 f2 a b
    cases a with
    | cons h t =>
      rw [List.append_assoc]
      exact .cons h (ih t b)
end

namespace Own
variable {K : PySem.W.Frag} {H H' : Hp} {L L' A B : List En}
theorem perm (h : Own K H L) (p : L.Perm L') : Own K H L' := by
  obtain ⟨F, m, fp, e, k, nd, z⟩ := h
  obtain ⟨fq, pq, k'⟩ := k.perm p
  exact ⟨F, m, fq, e, k', pq.nodup_iff.mp nd, fun a ha => z a (pq.mem_iff.mpr ha)⟩
theorem dropR (h : Own K H (A ++ B)) : Own K H A := by
  obtain ⟨F, m, fp, e, k, nd, z⟩ := h
  obtain ⟨f1, f2, rfl, a, b⟩ := k.split
  exact ⟨F, m, f1, e, a, (List.nodup_append.mp nd).1, fun a ha => z a (List.mem_append_left _ ha)⟩
theorem dropL (h : Own K H (A ++ B)) : Own K H B := (h.perm List.perm_append_comm).dropR
theorem tail {x : En} (h : Own K H (x :: L)) : Own K H L := dropL (A := [x]) h
theorem mid {x : List En} (h : Own K H (A ++ (x ++ B))) : Own K H (A ++ B) :=
  ((h.perm (by rw [← List.append_assoc]; exact List.perm_append_comm.append_right _ |>.trans (by rw [List.append_assoc]))).dropL)
theorem sub (h : Own K H L) {M : List En} (p : L.Perm (L' ++ M)) : Own K H L' := (h.perm p).dropR
/-- a thing without own objects comes beside -/
theorem add {v : V} {d : D} (h : Own K H L) (q : ∀ F m, Same F H → Dr K F m v d) : Own K H (.it v (.frz d) :: L) := by
  obtain ⟨F, m, fp, e, k, nd, z⟩ := h
  exact ⟨F, m, fp, e, .cons (fp := []) (.it (.frz (q F m e))) k, nd, z⟩
theorem int (h : Own K H L) (i : Int) : Own K H (.it (.int i) (.frz (.int i)) :: L) := h.add fun _ _ _ => .int i
theorem bl (h : Own K H L) (b : Bool) : Own K H (.it (.bl b) (.frz (.bl b)) :: L) := h.add fun _ _ _ => .bl b
theorem non (h : Own K H L) : Own K H (.it .non (.frz .non) :: L) := h.add fun _ _ _ => .non
theorem str (h : Own K H L) (s : List Nat) : Own K H (.it (.str ⟨s.toArray⟩) (.frz (.str s)) :: L) := h.add fun _ _ _ => .str s
theorem str' (h : Own K H L) (s : Str) : Own K H (.it (.str s) (.frz (.str s.cps.toList)) :: L) := h.str s.cps.toList
/-- frozen things are there twice -/
theorem dup {v : V} {d : D} (h : Own K H L) (hm : .it v (.frz d) ∈ L) : Own K H (.it v (.frz d) :: L) := by
  obtain ⟨P, S, rfl⟩ := List.append_of_mem hm
  have h2 := h.perm (List.perm_middle (a := En.it v (.frz d)) (l₁ := P) (l₂ := S))
  obtain ⟨F, m, fp, e, k, nd, z⟩ := h2
  cases k with
  | cons q k =>
    cases q with
    | it q =>
      cases q with
      | frz q =>
        refine Own.perm (L := .it v (.frz d) :: .it v (.frz d) :: (P ++ S)) ⟨F, m, _, e, .cons (fp := []) (.it (.frz q)) (.cons (fp := []) (.it (.frz q)) k), nd, z⟩ ?_
        exact List.Perm.cons _ (List.perm_middle (a := En.it v (.frz d)) (l₁ := P) (l₂ := S)).symm
/-- a new object -/
theorem new {p : Addr} {o : HO} (h : Own K H L) (hp : H p = none) : Own K (upd H p o) L := by
  obtain ⟨F, m, fp, e, k, nd, z⟩ := h
  refine ⟨F, m, fp, fun b u q => ?_, k.stay (Same.refl F) (Grow.refl m) fun a ha => upd_ne fun q => k.there a ha (q ▸ hp), nd, z⟩
  rw [upd_ne (ne_of_none (e _ _ q) hp)]
  exact e _ _ q
/-- .. known whole -/
theorem cap {p : Addr} {o : HO} (h : Own K H L) (hp : H p = none) : Own K (upd H p o) (.cap p o :: L) := by
  have h0 := h
  obtain ⟨F, m, fp, e, k, nd, z⟩ := h0
  obtain ⟨F', m', fp', e', k', nd', z'⟩ := h.new (o := o) hp
  have hF : ∀ b u, F b = some u → b ≠ p := fun b u q => ne_of_none (e _ _ q) hp
  refine ⟨F, m, p :: fp, fun b u q => ?_, .cons (fp := [p]) (.cap upd_same) (k.stay (Same.refl F) (Grow.refl m) fun a ha => upd_ne fun q => k.there a ha (q ▸ hp)), List.nodup_cons.mpr ⟨fun hm => k.there p hm hp, nd⟩, fun a ha => ?_⟩
  · rw [upd_ne (hF b u q)]
    exact e _ _ q
  · rcases List.mem_cons.mp ha with rfl | ha
    · cases q : F a with
      | none => rfl
      | some u => exact absurd rfl (hF a u q)
    · exact z a ha
end Own
end Lp

end
section
/-! LpB2: freezing, opening and closing of what is owned. -/
namespace Lp
open PySem L2

section
variable {K : PySem.W.Frag} {F F' H H' : Hp} {m m' : List Addr}
mutual
theorem Rv.freeze (e : Same F F') : ∀ {fp : List Addr} {v : V} {r : R}, Rv K F H m fp v r → r.fr = true → (∀ a ∈ fp, F' a = H a) → Dr K F' m v r.d
  | _, _, _, .frz h, _, _ => h.mono e (Grow.refl m)
  | _, _, _, .lst h t, _, k => .lst (.inl (.inl ((k _ List.mem_cons_self).trans h))) (t.mono e (Grow.refl m))
  | _, _, _, .dic h t, _, k => .dic (.inl ((k _ List.mem_cons_self).trans h)) (t.mono e (Grow.refl m))
  | _, _, _, .tup h t, q, k => .tup (.inl ((k _ List.mem_cons_self).trans h)) (t.freeze e (by simpa [R.fr] using q) fun a ha => k a (List.mem_cons_of_mem _ ha))
  | _, _, _, .obj h t, _, k => .obj ((k _ List.mem_cons_self).trans h) (t.mono e (Grow.refl m))
theorem RvL.freeze (e : Same F F') : ∀ {fp : List Addr} {v : List V} {r : List R}, RvL K F H m fp v r → R.frL r = true → (∀ a ∈ fp, F' a = H a) → DrL K F' m v (R.dL r)
  | _, _, _, .nil, _, _ => .nil
  | _, _, _, .cons h t, q, k => by
    have q' := q
    simp only [R.frL, Bool.and_eq_true] at q'
    exact .cons (h.freeze e q'.1 fun a ha => k a (List.mem_append_left _ ha)) (t.freeze e q'.2 fun a ha => k a (List.mem_append_right _ ha))
end
/-- what is frozen, and some objects more -/
def fz (F H : Hp) (fp : List Addr) : Hp := fun b => if b ∈ fp then H b else F b
theorem fz_in {fp : List Addr} {b : Addr} (h : b ∈ fp) : fz F H fp b = H b := if_pos h
theorem fz_out {fp : List Addr} {b : Addr} (h : b ∉ fp) : fz F H fp b = F b := if_neg h
theorem fz_up {fp : List Addr} (z : ∀ a ∈ fp, F a = none) : Same F (fz F H fp) := fun b o q => by
  rw [fz_out]
  · exact q
  · intro hb
    rw [z b hb] at q
    cases q
theorem fz_dn {fp : List Addr} (e : Same F H) : Same (fz F H fp) H := fun b o q => by
  by_cases hb : b ∈ fp
  · rw [fz_in hb] at q
    exact q
  · rw [fz_out hb] at q
    exact e _ _ q
end

def itz : List V → List D → List En
  | v :: vs, d :: ds => .it v (.frz d) :: itz vs ds
  | _, _ => []
def itr : List V → List R → List En
  | v :: vs, r :: rs => .it v r :: itr vs rs
  | _, _ => []

namespace Own
variable {K : PySem.W.Frag} {H H' : Hp} {L L' A B : List En}
theorem frz {v : V} {r : R} (h : Own K H (.it v r :: L)) (q : r.fr = true) : Own K H (.it v (.frz r.d) :: L) := by
  obtain ⟨F, m, fp, e, k, nd, z⟩ := h
  cases k with
  | @cons f1 f2 _ _ k1 k2 =>
    cases k1 with
    | it k1 =>
      have z1 : ∀ a ∈ f1, F a = none := fun a ha => z a (List.mem_append_left _ ha)
      have ap := List.nodup_append.mp nd
      have up : Same F (fz F H f1) := fz_up z1
      refine ⟨fz F H f1, m, f2, fz_dn e, .cons (fp := []) (.it (.frz (k1.freeze up q fun a ha => fz_in ha))) (k2.stay up (Grow.refl m) fun _ _ => rfl), ap.2.1, fun a ha => ?_⟩
      rw [fz_out fun hb => ap.2.2 a hb a ha rfl]
      exact z a (List.mem_append_right _ ha)
/-- frozen items -/
theorem itz_of {xs : List V} {l : List D} {F : Hp} {m : List Addr} : DrL K F m xs l → EnsOk K F H m [] (itz xs l)
  | .nil => .nil
  | .cons h t => .cons (fp := []) (.it (.frz h)) (itz_of t)
theorem of_itz {F : Hp} {m : List Addr} : ∀ {xs : List V} {l : List D} {fp : List Addr}, xs.length = l.length → EnsOk K F H m fp (itz xs l) → fp = [] ∧ DrL K F m xs l
  | [], [], _, _, .nil => ⟨rfl, .nil⟩
  | x :: xs, d :: l, _, e, .cons h t => by
    obtain ⟨q, t'⟩ := of_itz (Nat.succ.inj e) t
    cases h with
    | it h =>
      cases h with
      | frz h => exact ⟨by rw [q]; rfl, .cons h t'⟩
  | [], _ :: _, _, e, _ => nomatch e
  | _ :: _, [], _, e, _ => nomatch e
theorem of_itr {F : Hp} {m : List Addr} : ∀ {xs : List V} {l : List R} {fp : List Addr}, xs.length = l.length → EnsOk K F H m fp (itr xs l) → RvL K F H m fp xs l
  | [], [], _, _, .nil => .nil
  | x :: xs, d :: l, _, e, .cons h t => by
    have t' := of_itr (Nat.succ.inj e) t
    cases h with
    | it h => exact .cons h t'
  | [], _ :: _, _, e, _ => nomatch e
  | _ :: _, [], _, e, _ => nomatch e
theorem itr_of {F : Hp} {m : List Addr} : ∀ {xs : List V} {l : List R} {fp : List Addr}, RvL K F H m fp xs l → EnsOk K F H m fp (itr xs l)
  | _, _, _, .nil => .nil
  | _, _, _, .cons h t => .cons (.it h) (itr_of t)
theorem _root_.Lp.RvL.len {F : Hp} {m : List Addr} : ∀ {xs : List V} {l : List R} {fp : List Addr}, RvL K F H m fp xs l → xs.length = l.length
  | _, _, _, .nil => rfl
  | _, _, _, .cons _ t => congrArg (· + 1) t.len
/-- an own list, opened -/
theorem openL {v : V} {l : List D} (h : Own K H (.it v (.lst l) :: L)) : ∃ a xs, v = .ref a ∧ H a = some (.lst xs) ∧ xs.length = l.length ∧ Own K H (.cap a (.lst xs) :: (itz xs l ++ L)) := by
  obtain ⟨F, m, fp, e, k, nd, z⟩ := h
  cases k with
  | cons k1 k2 =>
    cases k1 with
    | it k1 =>
      cases k1 with
      | lst q t => exact ⟨_, _, rfl, q, t.len, F, m, _, e, .cons (.cap q) ((itz_of t).join k2), nd, z⟩
theorem openK {v : V} {l : List (D × D)} (h : Own K H (.it v (.dic l) :: L)) : ∃ a ks, v = .ref a ∧ H a = some (.dK ks) ∧ ks.length = l.length ∧ Own K H (.cap a (.dK ks) :: L) := by
  obtain ⟨F, m, fp, e, k, nd, z⟩ := h
  cases k with
  | cons k1 k2 =>
    cases k1 with
    | it k1 =>
      cases k1 with
      | dic q t =>
        refine ⟨_, _, rfl, q, ?_, F, m, _, e, .cons (.cap q) k2, nd, z⟩
        clear q
        have len : ∀ {ks : List (L2.Key × V)} {l : List (D × D)}, DrK K F m ks l → ks.length = l.length := by
          intro ks
          induction ks with
          | nil =>
            intro l h
            cases h
            rfl
          | cons x r ih =>
            intro l h
            cases h with
            | cons _ _ t => exact congrArg (· + 1) (ih t)
        exact len t
theorem openT {v : V} {l : List R} (h : Own K H (.it v (.tup l) :: L)) : ∃ a xs, v = .ref a ∧ H a = some (.tup xs) ∧ xs.length = l.length ∧ Own K H (.cap a (.tup xs) :: (itr xs l ++ L)) := by
  obtain ⟨F, m, fp, e, k, nd, z⟩ := h
  cases k with
  | cons k1 k2 =>
    cases k1 with
    | it k1 =>
      cases k1 with
      | @tup a fq xs _ q t =>
        refine ⟨_, _, rfl, q, t.len, F, m, a :: (fq ++ _), e, .cons (fp := [a]) (.cap q) ((itr_of t).join k2), nd, z⟩
theorem capAt {a : Addr} {o : HO} (h : Own K H (.cap a o :: L)) : H a = some o := by
  obtain ⟨F, m, fp, e, k, nd, z⟩ := h
  cases k with
  | cons k1 k2 =>
    cases k1 with
    | cap k1 => exact k1
/-- .. closed -/
theorem closeL {a : Addr} {xs : List V} {l : List D} (h : Own K H (.cap a (.lst xs) :: (itz xs l ++ L))) (e : xs.length = l.length) : Own K H (.it (.ref a) (.lst l) :: L) := by
  obtain ⟨F, m, fp, e0, k, nd, z⟩ := h
  cases k with
  | cons k1 k2 =>
    cases k1 with
    | cap k1 =>
      obtain ⟨f1, f2, rfl, q1, q2⟩ := k2.split
      obtain ⟨rfl, t⟩ := of_itz e q1
      exact ⟨F, m, _, e0, .cons (.it (.lst k1 t)) q2, nd, z⟩
theorem closeT {a : Addr} {xs : List V} {l : List D} (h : Own K H (.cap a (.tup xs) :: (itz xs l ++ L))) (e : xs.length = l.length) : Own K H (.it (.ref a) (.frz (.tup l)) :: L) := by
  obtain ⟨F, m, fp, e0, k, nd, z⟩ := h
  cases k with
  | cons k1 k2 =>
    cases k1 with
    | cap k1 =>
      obtain ⟨f1, f2, rfl, q1, q2⟩ := k2.split
      obtain ⟨rfl, t⟩ := of_itz e q1
      have nd' : a ∉ f2 ∧ f2.Nodup := List.nodup_cons.mp nd
      have up : Same F (fz F H [a]) := fz_up fun b hb => z b (by rw [List.mem_singleton] at hb; subst hb; exact List.mem_cons_self)
      refine ⟨fz F H [a], m, f2, fz_dn e0, .cons (fp := []) (.it (.frz (.tup (.inl ?_) (t.mono up (Grow.refl m))))) (q2.stay up (Grow.refl m) fun _ _ => rfl), nd'.2, fun b hb => ?_⟩
      · rw [fz_in List.mem_cons_self]
        exact k1
      · rw [fz_out]
        · exact z b (List.mem_cons_of_mem _ hb)
        · intro q
          rw [List.mem_singleton] at q
          subst q
          exact nd'.1 hb
theorem closeR {a : Addr} {xs : List V} {l : List R} (h : Own K H (.cap a (.tup xs) :: (itr xs l ++ L))) (e : xs.length = l.length) : Own K H (.it (.ref a) (.tup l) :: L) := by
  obtain ⟨F, m, fp, e0, k, nd, z⟩ := h
  cases k with
  | cons k1 k2 =>
    cases k1 with
    | cap k1 =>
      obtain ⟨f1, f2, rfl, q1, q2⟩ := k2.split
      exact ⟨F, m, a :: (f1 ++ f2), e0, .cons (fp := a :: f1) (.it (.tup k1 (of_itr e q1))) q2, nd, z⟩
/-- an own object is changed -/
theorem put {a : Addr} {o o' : HO} (h : Own K H (.cap a o :: L)) : Own K (upd H a o') (.cap a o' :: L) := by
  obtain ⟨F, m, fp, e, k, nd, z⟩ := h
  cases k with
  | @cons f1 f2 _ _ k1 k2 =>
    cases k1 with
    | cap k1 =>
      have nd' : a ∉ f2 ∧ f2.Nodup := List.nodup_cons.mp nd
      refine ⟨F, m, _, fun b u q => ?_, .cons (.cap upd_same) (k2.stay (Same.refl F) (Grow.refl m) fun b hb => upd_ne fun q => nd'.1 (q ▸ hb)), nd, z⟩
      rw [upd_ne fun q' => by rw [q', z a List.mem_cons_self] at q; cases q]
      exact e _ _ q
/-- a member, brought to the front -/
theorem front {x : En} (h : Own K H L) (hm : x ∈ L) : ∃ M, L.Perm (x :: M) ∧ Own K H (x :: M) := by
  obtain ⟨P, S, rfl⟩ := List.append_of_mem hm
  exact ⟨P ++ S, List.perm_middle, h.perm List.perm_middle⟩
/-- the items of a list, an own one or not -/
theorem atL {v : V} {r : R} {l : List D} (h : Own K H L) (hm : .it v r ∈ L) (hl : r.lst? = some l) : ∃ a xs, v = .ref a ∧ SqX K H a xs ∧ xs.length = l.length ∧ Own K H (itz xs l ++ L) := by
  obtain ⟨M, p, h2⟩ := h.front hm
  obtain ⟨F, m, fp, e, k, nd, z⟩ := h2
  cases k with
  | @cons f1 f2 _ _ k1 k2 =>
    cases k1 with
    | it k1 =>
      cases k1 with
      | @frz v d q =>
        cases d <;> simp only [R.lst?, Option.some.injEq, reduceCtorEq] at hl
        subst hl
        cases q with
        | lst s t => exact ⟨_, _, rfl, sqx_mono e s, t.len, Own.perm ⟨F, m, _, e, (itz_of t).join (.cons (fp := []) (.it (.frz (.lst s t))) k2), nd, z⟩ (p.symm.append_left _)⟩
      | lst q t =>
        simp only [R.lst?, Option.some.injEq] at hl
        subst hl
        exact ⟨_, _, rfl, .inl (.inl q), t.len, Own.perm ⟨F, m, _, e, (itz_of t).join (.cons (.it (.lst q t)) k2), nd, z⟩ (p.symm.append_left _)⟩
      | _ => simp [R.lst?] at hl
theorem atT {v : V} {l : List D} (h : Own K H L) (hm : .it v (.frz (.tup l)) ∈ L) : ∃ a xs, v = .ref a ∧ Rd H a (.tup xs) ∧ xs.length = l.length ∧ Own K H (itz xs l ++ L) := by
  obtain ⟨M, p, h2⟩ := h.front hm
  obtain ⟨F, m, fp, e, k, nd, z⟩ := h2
  cases k with
  | @cons f1 f2 _ _ k1 k2 =>
    cases k1 with
    | it k1 =>
      cases k1 with
      | frz q =>
        cases q with
        | tup s t => exact ⟨_, _, rfl, rd_mono e s, t.len, Own.perm ⟨F, m, _, e, (itz_of t).join (.cons (fp := []) (.it (.frz (.tup s t))) k2), nd, z⟩ (p.symm.append_left _)⟩
theorem atI {v : V} {i : Int} (h : Own K H L) (hm : .it v (.frz (.int i)) ∈ L) : v = .int i := by
  obtain ⟨M, p, F, m, fp, e, k, nd, z⟩ := h.front hm
  cases k with
  | cons k1 k2 =>
    cases k1 with
    | it k1 =>
      cases k1 with
      | frz q =>
        cases q
        rfl
theorem atB {v : V} {i : Bool} (h : Own K H L) (hm : .it v (.frz (.bl i)) ∈ L) : v = .bl i := by
  obtain ⟨M, p, F, m, fp, e, k, nd, z⟩ := h.front hm
  cases k with
  | cons k1 k2 =>
    cases k1 with
    | it k1 =>
      cases k1 with
      | frz q =>
        cases q
        rfl
theorem atS {v : V} {s : List Nat} (h : Own K H L) (hm : .it v (.frz (.str s)) ∈ L) : v = .str ⟨s.toArray⟩ := by
  obtain ⟨M, p, F, m, fp, e, k, nd, z⟩ := h.front hm
  cases k with
  | cons k1 k2 =>
    cases k1 with
    | it k1 =>
      cases k1 with
      | frz q =>
        cases q
        rfl
theorem atN {v : V} (h : Own K H L) (hm : .it v (.frz .non) ∈ L) : v = .non := by
  obtain ⟨M, p, F, m, fp, e, k, nd, z⟩ := h.front hm
  cases k with
  | cons k1 k2 =>
    cases k1 with
    | it k1 =>
      cases k1 with
      | frz q =>
        cases q
        rfl
/-- an object of the program's own, an own one or not -/
theorem atO {v : V} {r : R} {c : Nat} {fs : List (Str × D)} (h : Own K H L) (hm : .it v r ∈ L) (e : r.d = .obj c fs) : ∃ a dx xs F m, v = .ref a ∧ H a = some (.ins c dx xs) ∧ Same F H ∧ DrF K F m xs fs := by
  obtain ⟨M, p, F, m, fp, e0, k, nd, z⟩ := h.front hm
  cases k with
  | cons k1 k2 =>
    cases k1 with
    | it k1 =>
      cases k1 with
      | frz q =>
        cases e
        cases q with
        | obj h t => exact ⟨_, _, _, F, m, rfl, e0 _ _ h, e0, t⟩
      | obj h t =>
        cases e
        exact ⟨_, _, _, F, m, rfl, h, e0, t⟩
      | _ => cases e
/-- one of its attributes comes beside -/
theorem atF {v : V} {r : R} {c : Nat} {fs : List (Str × D)} {f : Str} {d : D} (h : Own K H L) (hm : .it v r ∈ L) (e : r.d = .obj c fs) (hf : fs.lookup f = some d) : ∃ a dx xs w, v = .ref a ∧ H a = some (.ins c dx xs) ∧ xs.lookup f = some w ∧ Own K H (.it w (.frz d) :: L) := by
  obtain ⟨M, p, F, m, fp, e0, k, nd, z⟩ := h.front hm
  cases k with
  | @cons f1 f2 _ _ k1 k2 =>
    cases k1 with
    | it k1 =>
      cases k1 with
      | frz q =>
        cases e
        cases q with
        | obj h t =>
          obtain ⟨w, h1, h2⟩ := t.get hf
          exact ⟨_, _, _, w, rfl, e0 _ _ h, h1, Own.perm ⟨F, m, _, e0, .cons (fp := []) (.it (.frz h2)) (.cons (fp := []) (.it (.frz (.obj h t))) k2), nd, z⟩ (p.symm.cons _)⟩
      | obj h t =>
        cases e
        obtain ⟨w, h1, h2⟩ := t.get hf
        exact ⟨_, _, _, w, rfl, h, h1, Own.perm ⟨F, m, _, e0, .cons (fp := []) (.it (.frz h2)) (.cons (.it (.obj h t)) k2), nd, z⟩ (p.symm.cons _)⟩
      | _ => cases e
/-- a caught error -/
theorem atX {v : V} {r : R} {n : Str} {c : Nat} (h : Own K H L) (hm : .it v r ∈ L) (e : r.d = .exc n c) : ∃ a, v = .ref a ∧ H a = some (CaO c a) := by
  obtain ⟨F, m, fp, e0, k, nd, z⟩ := h
  obtain ⟨P, S, rfl⟩ := List.append_of_mem hm
  obtain ⟨fq, p, k1⟩ := k.perm (List.perm_middle (a := En.it v r) (l₁ := P) (l₂ := S))
  cases k1 with
  | cons k1 k2 =>
    cases k1 with
    | it k1 =>
      cases k1 with
      | frz k1 =>
        simp only [R.d] at e
        subst e
        cases k1 with
        | exc h => exact ⟨_, rfl, e0 _ _ h⟩
      | lst => simp [R.d] at e
      | dic => simp [R.d] at e
      | tup => simp [R.d] at e
      | obj => simp [R.d] at e
theorem newX {p c : Addr} {n : Str} (h : Own K H L) (hp : H p = none) : Own K (upd H p (CaO c p)) (.it (.ref p) (.frz (.exc n c)) :: L) := by
  obtain ⟨F, m, fp, e, k, nd, z⟩ := h
  have hF : ∀ b u, F b = some u → b ≠ p := fun b u q => ne_of_none (e _ _ q) hp
  have up : Same F (upd F p (CaO c p)) := fun b u q => by
    rw [upd_ne (hF b u q)]
    exact q
  have np : ∀ a ∈ fp, a ≠ p := fun a ha q => k.there a ha (q ▸ hp)
  refine ⟨upd F p (CaO c p), m, fp, fun b u q => ?_, .cons (fp := []) (.it (.frz (.exc upd_same))) (k.stay up (Grow.refl m) fun a ha => upd_ne (np a ha)), nd, fun a ha => ?_⟩
  · by_cases hb : b = p
    · subst hb
      rw [upd_same] at q ⊢
      exact q
    · rw [upd_ne hb] at q ⊢
      exact e _ _ q
  · rw [upd_ne (np a ha)]
    exact z a ha
/-- an attribute of an own object is stored -/
theorem putO {v w : V} {c : Nat} {fs : List (Str × D)} {f : Str} {d : D} (h : Own K H (.it v (.obj c fs) :: .it w (.frz d) :: L)) : ∃ a dx xs, v = .ref a ∧ H a = some (.ins c dx xs) ∧ xs.length = fs.length ∧ Own K (upd H a (.ins c dx (putF f w xs))) (.it v (.obj c (putFD f d fs)) :: L) := by
  obtain ⟨F, m, fp, e, k, nd, z⟩ := h
  cases k with
  | @cons f1 f2 _ _ k1 k2 =>
    cases k1 with
    | it k1 =>
      cases k1 with
      | @obj a c dx xs fs q t =>
        cases k2 with
        | @cons g1 g2 _ _ k2 k3 =>
          cases k2 with
          | it k2 =>
            cases k2 with
            | frz hw =>
              have nd' : a ∉ g2 ∧ g2.Nodup := List.nodup_cons.mp nd
              refine ⟨a, dx, xs, rfl, q, t.len, F, m, a :: g2, fun b u q' => ?_, .cons (fp := [a]) (.it (.obj upd_same (t.put hw))) (k3.stay (Same.refl F) (Grow.refl m) fun b hb => upd_ne fun q => nd'.1 (q ▸ hb)), nd, z⟩
              rw [upd_ne fun q'' => by rw [q'', z a List.mem_cons_self] at q'; cases q']
              exact e _ _ q'
/-- a new object, without attributes -/
theorem newO {p dx c : Addr} (h : Own K H L) (h1 : H p = none) (h2 : H dx = none) (h3 : dx ≠ p) : Own K (upd (upd H dx (.own p)) p (.ins c dx [])) (.it (.ref p) (.obj c []) :: L) := by
  have o1 := h.new (o := .own p) h2
  have hp : upd H dx (.own p) p = none := by rw [upd_ne (Ne.symm h3)]; exact h1
  obtain ⟨F, m, fp, e, k, nd, z⟩ := o1.cap (o := .ins c dx []) hp
  cases k with
  | cons k1 k2 =>
    cases k1 with
    | cap k1 => exact ⟨F, m, _, e, .cons (.it (.obj k1 .nil)) k2, nd, z⟩
/-- the value of any thing that is alive: its shape in the heap -/
theorem rvAt {v : V} {r : R} (h : Own K H L) (hm : .it v r ∈ L) : ∃ F m fp, Same F H ∧ Rv K F H m fp v r := by
  obtain ⟨M, p, F, m, fp, e, k, nd, z⟩ := h.front hm
  cases k with
  | cons k1 k2 =>
    cases k1 with
    | it k1 => exact ⟨F, m, _, e, k1⟩
theorem itz_len : ∀ (xs : List V) (l : List D), xs.length = l.length → (itz xs l).length = l.length
  | [], [], _ => rfl
  | _ :: xs, _ :: l, e => congrArg (· + 1) (itz_len xs l (Nat.succ.inj e))
theorem mem_itz : ∀ {xs : List V} {l : List D} {i : Nat} {d : D}, xs.length = l.length → l[i]? = some d → ∃ v, xs[i]? = some v ∧ En.it v (.frz d) ∈ itz xs l
  | [], [], _, _, _, e => by simp at e
  | x :: xs, d0 :: l, 0, d, _, e => by
    simp at e
    subst e
    exact ⟨x, rfl, List.mem_cons_self⟩
  | x :: xs, d0 :: l, i + 1, d, h, e => by
    obtain ⟨v, h1, h2⟩ := mem_itz (i := i) (Nat.succ.inj h) (by simpa using e)
    exact ⟨v, by simpa using h1, List.mem_cons_of_mem _ h2⟩
  | [], _ :: _, _, _, h, _ => nomatch h
  | _ :: _, [], _, _, h, _ => nomatch h
end Own
end Lp

end
section
/-! LpB3: operators. -/
namespace Lp
open PySem PySem.Spec PyProof.Rows L2

theorem sline : sizeLine = 16777216 := sizeLine_eq
theorem big_le {n : Nat} (h : n ≤ big) : n ≤ sizeLine := by
  have e : big = 1000000 := rfl
  rw [sline]
  omega
theorem big_lt {n : Nat} (h : n < big) : n < sizeLine := by
  have e : big = 1000000 := rfl
  rw [sline]
  omega
theorem strApp (a b : List Nat) : (⟨a.toArray⟩ : Str) ++ ⟨b.toArray⟩ = ⟨(a ++ b).toArray⟩ := by
  show Str.append _ _ = _
  unfold Str.append
  simp
theorem strLen (a : List Nat) : (⟨a.toArray⟩ : Str).length = a.length := by
  show a.toArray.size = _
  exact List.size_toArray
theorem strCps (a : List Nat) : (⟨a.toArray⟩ : Str).cps.toList = a := rfl
theorem strInj {a b : List Nat} : (⟨a.toArray⟩ : Str) = ⟨b.toArray⟩ ↔ a = b := by
  constructor
  · intro h
    have := congrArg (fun x : Str => x.cps.toList) h
    exact this
  · intro h
    rw [h]

def bop : BOp → Operator
  | .add => .Add | .sub => .Sub | .mul => .Mult | .fdiv => .FloorDiv | .mod => .Mod | .pow => .Pow
def cop : COp → CmpOp
  | .eq => .Eq | .ne => .NotEq | .lt => .Lt | .le => .LtE | .gt => .Gt | .ge => .GtE | .is => .Is | .isnot => .IsNot | .isin => .In | .notin => .NotIn
/-- an operation on things that are alive -/
def rB (K : PySem.W.Frag) (f : R → R → Option R) : R2 := fun x y H Q => ∃ L r s z, Own K H L ∧ .it x r ∈ L ∧ .it y s ∈ L ∧ f r s = some z ∧ ∀ v H', Own K H' (.it v z :: L) → Q v H'

section
variable {X : Cx}
theorem mulOk_ok {i j : Int} (h : mulOk i j = true) : IntMulOk i j := by
  unfold mulOk at h
  simp only [Bool.or_eq_true, decide_eq_true_eq, Bool.and_eq_true] at h
  rcases h with (h | h) | ⟨h1, h2⟩
  · exact CMul.ok (.inl ⟨by omega, by omega⟩)
  · exact CMul.ok (.inr ⟨by omega, by omega⟩)
  · exact CMulW.ok (wide_mul h1 h2 (by decide) (by decide) (by decide))
theorem o_mul : OpR X (binaryOp .Mult) (rI (fun i j => mulOk i j = true) fun i j => .int (i * j)) := opI fun _ _ _ _ _ _ _ hc q => mul_int q (mulOk_ok hc)
theorem o_pow : OpR X (binaryOp .Pow) (rI (fun i j => 0 ≤ j ∧ j ≤ 100 ∧ i.natAbs < 2 ^ 250) fun i j => .int (i ^ j.toNat)) := opI fun i j _ _ _ _ _ hc q => by
  refine pow_int hc.1 ?_ q
  have h1 : Builtin.Int.intBits i ≤ 250 := intBits_le hc.2.2
  have h2 : (Builtin.Int.intBits i : Int) * j ≤ 250 * j := Int.mul_le_mul_of_nonneg_right (by omega) hc.1
  have h3 : (2 : Int) ^ 27 = 134217728 := by decide
  rw [h3]
  have := hc.2.1
  omega
theorem o_fdiv : OpR X (binaryOp .FloorDiv) (rI (fun _ j => 0 < j ∧ j.natAbs < 2 ^ 250) fun i j => .int (i / j)) := by
  intro pins s σ H x y v u Q I rx ry h
  obtain ⟨i, j, rfl, rfl, ⟨h1, h2⟩, q⟩ := h
  refine op_fdivW pins s σ H _ _ v u Q I rx ry ⟨i, j, rfl, rfl, wide_div h1 (b := 250) (by omega) (by decide) (by decide), q⟩
/-- str * int -/
theorem txt_mul (a : List Nat) (j : Int) : Txt.mul ⟨a.toArray⟩ j = ⟨(List.replicate j.toNat a).flatten.toArray⟩ := by
  have fold : ∀ (n : Nat) (acc : List Nat), List.foldl (fun x1 x2 => x1 ++ x2) acc.toArray (List.replicate n a.toArray) = (acc ++ (List.replicate n a).flatten).toArray := by
    intro n
    induction n with
    | zero => simp
    | succ n ih =>
      intro acc
      rw [List.replicate_succ, List.foldl_cons, List.replicate_succ, List.flatten_cons]
      have e : acc.toArray ++ a.toArray = (acc ++ a).toArray := by simp
      rw [e, ih, List.append_assoc]
  unfold Txt.mul
  by_cases h : j < 1
  · rw [if_pos h]
    have e : j.toNat = 0 := by omega
    rw [e]
    rfl
  · rw [if_neg h]
    by_cases h2 : (j == 1 || (⟨a.toArray⟩ : Str).length == 0) = true
    · rw [if_pos h2]
      rw [Bool.or_eq_true, strLen] at h2
      rcases h2 with h2 | h2
      · have e : j = 1 := by simpa using h2
        subst e
        simp
      · have e : a = [] := by simpa using h2
        subst e
        have : ∀ n : Nat, (List.replicate n ([] : List Nat)).flatten = [] := fun n => by simp
        rw [this]
    · rw [if_neg h2]
      have := fold j.toNat []
      rw [List.nil_append] at this
      exact congrArg Str.mk this
theorem o_strMul : OpR X (binaryOp .Mult) (fun x y H Q => ∃ a j, x = .str ⟨a.toArray⟩ ∧ y = .int j ∧ a.length * j.toNat ≤ big ∧ j.natAbs ≤ big ∧ Q (.str ⟨(List.replicate j.toNat a).flatten.toArray⟩) H) := by
  intro pins s σ H x y v u Q I rx ry h
  obtain ⟨a, j, rfl, rfl, h1, h2, q⟩ := h
  obtain ⟨t, rfl⟩ := rx
  obtain ⟨t', rfl⟩ := ry
  have hb : big = 1000000 := rfl
  rw [hb] at h1 h2
  refine PySem.SB.mul ⟨?_, fun h3 h4 => ?_, fun h3 h4 => ?_⟩ fun t2 k => ?_
  · rw [decide_eq_false (by omega), decide_eq_false (by omega)]
    rfl
  · rw [strLen]
    have h5 : 1 ≤ j := by omega
    have h6 : (a.length : Int) * j ≤ 1000000 := by
      have : ((a.length * j.toNat : Nat) : Int) ≤ 1000000 := by omega
      rw [Int.natCast_mul, Int.toNat_of_nonneg (by omega)] at this
      exact this
    have h7 : (a.length : Int) ≤ (2 ^ 63 - 1) / j := by
      rw [Int.le_ediv_iff_mul_le (by omega)]
      omega
    omega
  · rw [strLen]
    unfold Builtin.Str.tooLong
    rw [sline]
    exact decide_eq_false (by omega)
  · rw [txt_mul]
    exact ⟨.str _, H, I.tok _, ⟨_, rfl⟩, q⟩
end

/-! ### tuple * int -/
theorem tup_mul_same (l : Addr) (items : Array Value) (n : Nat) (dd : Option Addr) (sl : Array (Option Value)) (x : Int) (u : Tok) (c0 : (decide (x < -(2 ^ 63)) || decide (x ≥ 2 ^ 63)) = false) (c1 : (items.isEmpty || x == 1) = true) :
    Meets (Builtin.«tuple.__mul__» ⟨[.ref l, .int x u], []⟩) (fun _ R s => s.heap.get? l = some { cls := .type "tuple", dict := dd, data := .seq items n, slots := sl } ∧ R (.ok (.ret (.ref l))) s) :=
  .of_wp fun prog w A R s h => by
    obtain ⟨hp, g, d, tk, os⟩ := s
    obtain ⟨hl, h⟩ := h
    have f1 := AutoSeq1.idx_int
    wp_walk using wpAny_loadPart' hl
    refine wpAny_ite_false (decide_eq_false (by rw [c0]; exact Bool.false_ne_true)) ?_
    wp_walk using wpAny_loadPart' hl
    exact ⟨_, rfl, h⟩
theorem tup_mul_nil (l : Addr) (items : Array Value) (n : Nat) (dd : Option Addr) (sl : Array (Option Value)) (x : Int) (u : Tok) (c0 : (decide (x < -(2 ^ 63)) || decide (x ≥ 2 ^ 63)) = false) (c1 : (items.isEmpty || x == 1) = false)
    (c2 : (decide (x ≤ 0) || items.isEmpty) = true) :
    Meets (Builtin.«tuple.__mul__» ⟨[.ref l, .int x u], []⟩) (fun _ R s => s.heap.get? l = some { cls := .type "tuple", dict := dd, data := .seq items n, slots := sl } ∧
      R (.ok (.ret (Value.ref s.heap.objs.size))) { s with heap := s.heap.push { cls := Value.type "tuple", data := Data.seq #[] } }) :=
  .of_wp fun prog w A R s h => by
    obtain ⟨hp, g, d, tk, os⟩ := s
    obtain ⟨hl, h⟩ := h
    have f1 := AutoSeq1.idx_int
    wp_walk using wpAny_loadPart' hl
    refine wpAny_ite_false (decide_eq_false (by rw [c0]; exact Bool.false_ne_true)) ?_
    wp_walk using wpAny_loadPart' hl
    exact ⟨_, rfl, h⟩
section
variable {X : Cx}
theorem rep_nil {α : Type} (n : Nat) : (List.replicate n ([] : List α)).flatten = [] := by
  induction n with
  | zero => rfl
  | succ n ih =>
    rw [List.replicate_succ, List.flatten_cons, ih]
    rfl
theorem o_tupMul : OpR X (binaryOp .Mult) (fun x y H Q => ∃ l k xs, x = .ref l ∧ y = .int k ∧ Rd H l (.tup xs) ∧ xs.length ≤ 1000 ∧ k.natAbs ≤ 1000 ∧
    ((List.replicate k.toNat xs).flatten = xs → Q (.ref l) H) ∧ ∀ p, H p = none → Q (.ref p) (upd H p (.tup (List.replicate k.toNat xs).flatten))) := by
  intro pins s σ H x y v u Q I rx ry h
  obtain ⟨l, k, xs, rfl, rfl, hT, hl, hk, q1, q2⟩ := h
  have c0 : (decide (k < -(2 ^ 63)) || decide (k ≥ 2 ^ 63)) = false := by
    rw [decide_eq_false (by omega), decide_eq_false (by omega)]
    rfl
  by_cases hg : xs ≠ [] ∧ 2 ≤ k
  · exact op_repT pins s σ H _ _ v u Q I rx ry ⟨l, k, xs, rfl, rfl, .inl hT, hg.1, hg.2, by omega, hl, q2⟩
  · cases rx
    obtain ⟨t, rfl⟩ := ry
    obtain ⟨its, r, ⟨⟨cls, dd, data, sl⟩, ho, hc, n, hd⟩, hs⟩ := I.tuple (.inl hT)
    simp only at hc hd
    subst hc hd
    have hle : its.length = xs.length := r.length.symm
    by_cases c1 : (its.toArray.isEmpty || k == 1) = true
    · refine wpAny_binaryOp_repeat_ref (T := "tuple") (U := "int") (by decide) ⟨_, ho, rfl⟩ (fun s' => typeIs_int s' k t) noFill_tuple_mul F.fills_int_mul F.slot_int_rmul repeat_tuple F.slot_int_index.lookup
        (call_meets F.slot_int_rmul (typeIs_int s k t) F.entry_int_rmul (F.args_int_rmul_2 _ _) (int_rmul_tuple k t l its.toArray n dd sl)
          ⟨ho, rfl, ⟨_, ho, rfl⟩, call_meets F.slot_tuple_mul ⟨_, ho, rfl⟩ F.entry_tuple_mul (F.args_tuple_mul_2 _ _) (tup_mul_same l its.toArray n dd sl k t c0 c1) ⟨ho, ?_⟩⟩)
      refine ⟨.ref l, H, I, rfl, q1 ?_⟩
      rw [Bool.or_eq_true] at c1
      rcases c1 with c1 | c1
      · have e : xs = [] := by
          apply List.eq_nil_of_length_eq_zero
          rw [← hle]
          simpa using c1
        rw [e, rep_nil]
      · have e : k = 1 := by simpa using c1
        rw [e]
        show xs ++ [] = xs
        exact List.append_nil _
    · have c1 : (its.toArray.isEmpty || k == 1) = false := by simpa using c1
      have c2 : (decide (k ≤ 0) || its.toArray.isEmpty) = true := by
        rw [Bool.or_eq_false_iff] at c1
        have hn : xs ≠ [] := by
          intro e
          rw [e] at hle
          have : its = [] := List.eq_nil_of_length_eq_zero hle
          rw [this] at c1
          exact absurd c1.1 (by decide)
        have h1 : k ≠ 1 := by
          intro e
          rw [e] at c1
          exact absurd c1.2 (by decide)
        have : k ≤ 0 := by
          have : ¬ 2 ≤ k := fun z => hg ⟨hn, z⟩
          omega
        rw [decide_eq_true this]
        rfl
      refine wpAny_binaryOp_repeat_ref (T := "tuple") (U := "int") (by decide) ⟨_, ho, rfl⟩ (fun s' => typeIs_int s' k t) noFill_tuple_mul F.fills_int_mul F.slot_int_rmul repeat_tuple F.slot_int_index.lookup
        (call_meets F.slot_int_rmul (typeIs_int s k t) F.entry_int_rmul (F.args_int_rmul_2 _ _) (int_rmul_tuple k t l its.toArray n dd sl)
          ⟨ho, rfl, ⟨_, ho, rfl⟩, call_meets F.slot_tuple_mul ⟨_, ho, rfl⟩ F.entry_tuple_mul (F.args_tuple_mul_2 _ _) (tup_mul_nil l its.toArray n dd sl k t c0 c1 c2) ⟨ho, ?_⟩⟩)
      have e : (List.replicate k.toNat xs).flatten = [] := by
        rw [Bool.or_eq_true] at c2
        rcases c2 with c2 | c2
        · have : k.toNat = 0 := by
            have := of_decide_eq_true c2
            omega
          rw [this]
          rfl
        · have e : xs = [] := by
            apply List.eq_nil_of_length_eq_zero
            rw [← hle]
            simpa using c2
          rw [e, rep_nil]
      refine ⟨.ref s.heap.objs.size, _, I.laid (t' := s.toks) (o := .tup (List.replicate k.toNat xs).flatten) (fun b ob q => Heap.get?_push_of_some _ q) (Nat.le_refl _) ?_, rfl, q2 _ (I.hok.fresh (Nat.le_refl _))⟩
      rw [e]
      exact ⟨Nat.zero_le _, [], .nil, IsTup.new _ _⟩
/-- list + list -/
theorem o_lstAdd : OpR X (binaryOp .Add) (fun x y H Q => ∃ l b xs zs, x = .ref l ∧ y = .ref b ∧ SqX X.K H l xs ∧ SqX X.K H b zs ∧ xs.length + zs.length ≤ sizeLine ∧ ∀ p, H p = none → Q (.ref p) (upd H p (.lst (xs ++ zs)))) := by
  intro pins s σ H x y v u Q I rx ry h
  obtain ⟨l, b, xs, zs, rfl, rfl, hH, hB, hz, q⟩ := h
  cases rx
  cases ry
  obtain ⟨_, its, n, r, hl, e⟩ := inv_exact I hH
  obtain ⟨_, its2, n2, r2, hl2, e2⟩ := inv_exact I hB
  have ea : its.toArray ++ its2.toArray = (its ++ its2).toArray := by simp
  refine PySem.P.add_list e e2 ?_ (by rw [List.size_toArray, List.size_toArray]; omega)
  rw [ea]
  exact ⟨.ref _, _, I.lnew (t' := s.toks) (r.append r2) (by rw [List.length_append]; omega), rfl, q _ I.fresh⟩
theorem itz_app {xs ys : List V} {a b : List D} (e : xs.length = a.length) : itz (xs ++ ys) (a ++ b) = itz xs a ++ itz ys b := by
  induction xs generalizing a with
  | nil =>
    cases a with
    | nil => rfl
    | cons _ _ => cases e
  | cons x p ih =>
    cases a with
    | nil => cases e
    | cons d p' =>
      show _ :: itz (p ++ ys) (p' ++ b) = _ :: (itz p p' ++ itz ys b)
      rw [ih (Nat.succ.inj e)]
theorem rep_len {xs : List V} {a : List D} (e : xs.length = a.length) (n : Nat) : (List.replicate n xs).flatten.length = (List.replicate n a).flatten.length := by
  rw [PyProof.Rows.lm_len_rep_flat, PyProof.Rows.lm_len_rep_flat, e]
theorem rep_same {xs : List V} {a : List D} {n : Nat} (e : xs.length = a.length) (h : (List.replicate n xs).flatten = xs) : (List.replicate n a).flatten = a := by
  have h1 := congrArg List.length h
  rw [PyProof.Rows.lm_len_rep_flat] at h1
  cases n with
  | zero =>
    have : a = [] := List.eq_nil_of_length_eq_zero (by omega)
    rw [this]
    rfl
  | succ n =>
    by_cases hx : xs.length = 0
    · have : a = [] := List.eq_nil_of_length_eq_zero (by omega)
      rw [this, rep_nil]
    · have h2 : (n + 1) * xs.length = 1 * xs.length := by omega
      have h3 := Nat.eq_of_mul_eq_mul_right (by omega) h2
      have : n = 0 := by omega
      subst this
      show a ++ [] = a
      exact List.append_nil _
/-- items many times over -/
theorem Own.reps {K : PySem.W.Frag} {H : Hp} {x : En} {L : List En} {xs : List V} {a : List D} (h : Own K H (x :: (itz xs a ++ L))) (e : xs.length = a.length) (n : Nat) :
    Own K H (x :: (itz (List.replicate n xs).flatten (List.replicate n a).flatten ++ L)) := by
  obtain ⟨F, m, fp, e0, k, nd, z⟩ := h
  cases k with
  | cons k1 k2 =>
    obtain ⟨f1, f2, rfl, q1, q2⟩ := k2.split
    obtain ⟨rfl, t⟩ := Own.of_itz e q1
    exact ⟨F, m, _, e0, .cons k1 ((Own.itz_of (DrL.flat (n := n) t)).join q2), nd, z⟩
/-- list * int -/
theorem o_lstMul : OpR X (binaryOp .Mult) (fun x y H Q => ∃ l k xs, x = .ref l ∧ y = .int k ∧ SqX X.K H l xs ∧ -(2 ^ 63) ≤ k ∧ k < 2 ^ 63 ∧ xs.length * k.toNat ≤ sizeLine ∧
    ∀ p, H p = none → Q (.ref p) (upd H p (.lst (List.replicate k.toNat xs).flatten))) := by
  intro pins s σ H x y v u Q I rx ry h
  obtain ⟨l, k, xs, rfl, rfl, hH, h1, h2, hz, q⟩ := h
  cases rx
  obtain ⟨t, rfl⟩ := ry
  obtain ⟨_, its, n, r, hl, e⟩ := inv_exact I hH
  have size : its.toArray.size * k.toNat ≤ sizeLine := by
    rw [List.size_toArray, ← hl]
    exact hz
  have few : ¬ its.toArray.size * k.toNat > (2 ^ 63 - 1) / 8 := by
    have : (sizeLine : Nat) ≤ (2 ^ 63 - 1) / 8 := by decide
    omega
  have fits : ¬ (!Builtin.List.listFitsIndex k) = true := by
    rw [fitsIndex_both h1 h2]
    exact Bool.false_ne_true
  have short : ¬ Builtin.List.listTooLong (its.toArray.size * k.toNat) = true := by
    rw [notLongL size]
    exact Bool.false_ne_true
  have made : List.foldl (fun x1 x2 => x1 ++ x2) #[] (List.replicate (if its.toArray.isEmpty = true then 0 else k.toNat) its.toArray) = (List.replicate k.toNat its).flatten.toArray := by
    rw [size_rep]
    cases its with
    | nil => rw [rep_nil, rep_nil]
    | cons a b => rw [if_neg (by simp)]
  refine wpAny_binaryOp_repeat_ref (T := "list") (U := "int") (by decide) ⟨_, e, rfl⟩ (fun s' => typeIs_int s' k t) noFill_list_mul F.fills_int_mul F.slot_int_rmul repeat_list F.slot_int_index.lookup
    (call_meets F.slot_int_rmul (typeIs_int s k t) F.entry_int_rmul (F.args_int_rmul_2 _ _) (int___rmul___int_list k t l its.toArray n)
      ⟨e, rfl, ⟨_, e, rfl⟩, call_meets F.slot_list_mul ⟨_, e, rfl⟩ F.entry_list_mul (F.args_list_mul_2 _ _) (AutoListH.list___mul___list_int_3 l its.toArray n k t fits few short) ⟨e, ?_⟩⟩)
  rw [made]
  exact ⟨.ref _, _, I.lnew (t' := s.toks) (r.rep k.toNat) (by rw [PyProof.Rows.lm_len_rep_flat, Nat.mul_comm]; exact hz), rfl, q _ I.fresh⟩
/-- an operator of the small syntax -/
theorem op_bin (o : BOp) : OpR X (binaryOp (bop o)) (rB X.K (binR o)) := by
  intro pins s σ H x y v u Q I rx ry h
  obtain ⟨L, r, t, z, ow, m1, m2, hz, q⟩ := h
  have go : ∀ {rr : R2}, OpR X (binaryOp (bop o)) rr → rr x y H Q → wpAny (model X.prog X.w) X.A (binaryOp (bop o) v u) (EP X pins σ Q) X.xe s := fun {rr} h1 h2 => h1 pins s σ H x y v u Q I rx ry h2
  have lstlst : ∀ {a b : List D}, o = .add → r.lst? = some a → t.lst? = some b → (if a.length + b.length ≤ big then some (R.lst (a ++ b)) else none) = some z → wpAny (model X.prog X.w) X.A (binaryOp (bop o) v u) (EP X pins σ Q) X.xe s := by
    intro a b eo h1 h2 h3
    subst eo
    split at h3
    · rename_i hl
      injection h3 with h3
      subst h3
      obtain ⟨ax, xs, rfl, sx, lx, ow1⟩ := ow.atL m1 h1
      obtain ⟨ay, ys, rfl, sy, ly, ow2⟩ := ow1.atL (List.mem_append_right _ m2) h2
      refine go o_lstAdd ⟨ax, ay, xs, ys, rfl, rfl, sx, sy, big_le (by omega), fun p hp => q _ _ ?_⟩
      have ow3 := ow2.cap (o := .lst (xs ++ ys)) hp
      have key : Own X.K (upd H p (.lst (xs ++ ys))) (.cap p (.lst (xs ++ ys)) :: (itz (xs ++ ys) (a ++ b) ++ L)) := by
        refine ow3.perm (.cons _ ?_)
        have e : ∀ (p : List V) (p' : List D), p.length = p'.length → itz (p ++ ys) (p' ++ b) = itz p p' ++ itz ys b := by
          intro p
          induction p with
          | nil =>
            intro p' e
            cases p' with
            | nil => rfl
            | cons _ _ => cases e
          | cons x p ih =>
            intro p' e
            cases p' with
            | nil => cases e
            | cons d p' =>
              show _ :: itz (p ++ ys) (p' ++ b) = _ :: (itz p p' ++ itz ys b)
              rw [ih p' (Nat.succ.inj e)]
        rw [e xs a lx, List.append_assoc]
        exact List.perm_append_comm_assoc _ _ _
      exact key.closeL (by rw [List.length_append, List.length_append, lx, ly])
    · cases h3
  unfold binR at hz
  split at hz
  · -- int + int
    injection hz with hz
    subst hz
    exact go op_add ⟨_, _, ow.atI m1, ow.atI m2, q _ _ (ow.int _)⟩
  · -- str + str
    rename_i a b
    split at hz
    · injection hz with hz
      subst hz
      refine go op_add_str ⟨_, _, ow.atS m1, ow.atS m2, ?_, ?_⟩
      · rw [strLen, strLen]
        exact big_le (by assumption)
      · rw [strApp]
        exact q _ _ (ow.str _)
    · cases hz
  · -- tuple + tuple
    rename_i a b
    split at hz
    · rename_i hl
      injection hz with hz
      subst hz
      obtain ⟨ax, xs, rfl, sx, lx, ow1⟩ := ow.atT m1
      obtain ⟨ay, ys, rfl, sy, ly, ow2⟩ := ow1.atT (List.mem_append_right _ m2)
      refine go op_catA ⟨ax, ay, xs, ys, rfl, rfl, .inl sx, .inl sy, big_le (by omega), fun e => ?_, fun _ e => ?_, fun _ _ p hp => ?_⟩
      · have : a = [] := List.eq_nil_of_length_eq_zero (by rw [← lx, e]; rfl)
        subst this
        exact q _ _ (ow.dup m2)
      · have : b = [] := List.eq_nil_of_length_eq_zero (by rw [← ly, e]; rfl)
        subst this
        rw [List.append_nil] at q
        exact q _ _ (ow.dup m1)
      · refine q _ _ (Own.closeT (xs := xs ++ ys) ?_ (by rw [List.length_append, List.length_append, lx, ly]))
        rw [itz_app lx, List.append_assoc]
        exact (ow2.cap (o := .tup (xs ++ ys)) hp).perm (.cons _ (List.perm_append_comm_assoc _ _ _))
    · cases hz
  · -- list + list
    rename_i x1 y1 h1 h2 h3
    split at hz
    · exact lstlst rfl (by assumption) (by assumption) hz
    · cases hz
  · injection hz with hz
    subst hz
    exact go op_sub ⟨_, _, ow.atI m1, ow.atI m2, q _ _ (ow.int _)⟩
  · split at hz
    · injection hz with hz
      subst hz
      exact go o_mul ⟨_, _, ow.atI m1, ow.atI m2, by assumption, q _ _ (ow.int _)⟩
    · cases hz
  · -- tuple * int
    rename_i a j
    split at hz
    · rename_i hl
      injection hz with hz
      subst hz
      obtain ⟨ax, xs, rfl, sx, lx, ow1⟩ := ow.atT m1
      refine go o_tupMul ⟨ax, j, xs, rfl, ow.atI m2, sx, by omega, hl.2, fun e => ?_, fun p hp => ?_⟩
      · have e2 : (List.replicate j.toNat a).flatten = a := rep_same lx e
        rw [e2] at q
        exact q _ _ (ow.dup m1)
      · exact q _ _ (Own.closeT (xs := (List.replicate j.toNat xs).flatten) ((ow1.cap (o := .tup _) hp).reps lx _) (rep_len lx _))
    · cases hz
  · -- str * int
    split at hz
    · rename_i hl
      injection hz with hz
      subst hz
      exact go o_strMul ⟨_, _, ow.atS m1, ow.atI m2, hl.1, hl.2, q _ _ (ow.str _)⟩
    · cases hz
  · -- list * int
    rename_i j h1 h2 h3
    split at hz
    · rename_i a hx
      split at hz
      · rename_i hl
        injection hz with hz
        subst hz
        obtain ⟨ax, xs, rfl, sx, lx, ow1⟩ := ow.atL m1 hx
        have hb : big = 1000000 := rfl
        refine go o_lstMul ⟨ax, j, xs, rfl, ow.atI m2, sx, by omega, by omega, big_le (by rw [lx]; exact hl.1), fun p hp => ?_⟩
        exact q _ _ (Own.closeL (xs := (List.replicate j.toNat xs).flatten) ((ow1.cap (o := .lst _) hp).reps lx _) (rep_len lx _))
      · cases hz
    · cases hz
  · split at hz
    · injection hz with hz
      subst hz
      exact go o_fdiv ⟨_, _, ow.atI m1, ow.atI m2, by assumption, q _ _ (ow.int _)⟩
    · cases hz
  · split at hz
    · injection hz with hz
      subst hz
      exact go op_mod ⟨_, _, ow.atI m1, ow.atI m2, by assumption, q _ _ (ow.int _)⟩
    · cases hz
  · split at hz
    · injection hz with hz
      subst hz
      exact go o_pow ⟨_, _, ow.atI m1, ow.atI m2, by assumption, q _ _ (ow.int _)⟩
    · cases hz
  · cases hz
end
end Lp

end
section
/-! LpB4: comparisons, what is read as data, repr. -/
namespace Lp
open PySem PySem.Spec PyProof.Rows L2

theorem R.d_int {r : R} {i : Int} (h : r.d = .int i) : r = .frz (.int i) := by
  cases r with
  | frz d => exact congrArg R.frz h
  | _ => simp [R.d] at h
theorem R.d_bl {r : R} {i : Bool} (h : r.d = .bl i) : r = .frz (.bl i) := by
  cases r with
  | frz d => exact congrArg R.frz h
  | _ => simp [R.d] at h
theorem R.d_str {r : R} {i : List Nat} (h : r.d = .str i) : r = .frz (.str i) := by
  cases r with
  | frz d => exact congrArg R.frz h
  | _ => simp [R.d] at h
theorem R.d_non {r : R} (h : r.d = .non) : r = .frz .non := by
  cases r with
  | frz d => exact congrArg R.frz h
  | _ => simp [R.d] at h

section
variable {K : PySem.W.Frag} {F H : Hp} {m : List Addr}
mutual
theorem Dr.dp (e : Same F H) : ∀ {v : V} {d : D}, Dr K F m v d → d.flat = true → Dp K H v d.py
  | _, _, .non, _ => .non
  | _, _, .bl b, _ => .bl b
  | _, _, .int i, _ => .int i
  | _, _, .str s, _ => .str _
  | _, _, .tup h t, q => .tup (.inl (rd_mono e h)) (DrL.dp e t (by simpa [D.flat] using q))
  | _, _, .lst h t, q => .lst (sqx_mono e h).sqL (DrL.dp e t (by simpa [D.flat] using q))
  | _, _, .dic _ _, q => by simp [D.flat] at q
  | _, _, .hd _, q => by simp [D.flat] at q
  | _, _, .obj _ _, q => by simp [D.flat] at q
  | _, _, .exc _, q => by simp [D.flat] at q
theorem DrL.dp (e : Same F H) : ∀ {v : List V} {d : List D}, DrL K F m v d → D.flatL d = true → DpAll K H v (D.pyL d)
  | _, _, .nil, _ => .nil
  | _, _, .cons h t, q => by
    have q' := q
    simp only [D.flatL, Bool.and_eq_true] at q'
    exact .cons (Dr.dp e h q'.1) (DrL.dp e t q'.2)
end
mutual
theorem Rv.dp (e : Same F H) : ∀ {fp : List Addr} {v : V} {r : R}, Rv K F H m fp v r → r.d.flat = true → Dp K H v r.d.py
  | _, _, _, .frz h, q => h.dp e q
  | _, _, _, .lst h t, q => .lst (.inl (.inl h)) (t.dp e (by simpa [R.d, D.flat] using q))
  | _, _, _, .dic _ _, q => by simp [R.d, D.flat] at q
  | _, _, _, .tup h t, q => .tup (.inl (.inl h)) (t.dp e (by simpa [R.d, D.flat] using q))
theorem RvL.dp (e : Same F H) : ∀ {fp : List Addr} {v : List V} {r : List R}, RvL K F H m fp v r → D.flatL (R.dL r) = true → DpAll K H v (D.pyL (R.dL r))
  | _, _, _, .nil, _ => .nil
  | _, _, _, .cons h t, q => by
    have q' := q
    simp only [R.dL, D.flatL, Bool.and_eq_true] at q'
    exact .cons (h.dp e q'.1) (t.dp e q'.2)
end
end
theorem Own.dp {K : PySem.W.Frag} {H : Hp} {L : List En} {v : V} {r : R} (h : Own K H L) (hm : .it v r ∈ L) (q : r.d.flat = true) : Dp K H v r.d.py := by
  obtain ⟨F, m, fp, e, k⟩ := h.rvAt hm
  exact k.dp e q
mutual
theorem D.py_lay : ∀ d : D, d.flat = true → d.py.canLay0 = true
  | .non, _ => by simp [D.py, PyData.canLay0]
  | .bl _, _ => by simp [D.py, PyData.canLay0]
  | .int _, _ => by simp [D.py, PyData.canLay0]
  | .str s, h => by
    simp only [D.py, PyData.canLay0, PyData.strOk]
    have h' : s.all (fun c => decide (c < 0x110000)) = true := by simpa [D.flat] using h
    simpa using h'
  | .tup l, h => by
    simp only [D.py, PyData.canLay0]
    exact D.pyL_lay l (by simpa [D.flat] using h)
  | .lst l, h => by
    simp only [D.py, PyData.canLay0]
    exact D.pyL_lay l (by simpa [D.flat] using h)
  | .dic _, h => by simp [D.flat] at h
  | .hd _, h => by simp [D.flat] at h
  | .obj _ _, h => by simp [D.flat] at h
  | .exc _ _, h => by simp [D.flat] at h
theorem D.pyL_lay : ∀ l : List D, D.flatL l = true → PyData.canLayAll0 (D.pyL l) = true
  | [], _ => by simp [D.pyL, PyData.canLayAll0]
  | d :: l, h => by
    have h' := h
    simp only [D.flatL, Bool.and_eq_true] at h'
    simp only [D.pyL, PyData.canLayAll0, D.py_lay d h'.1, D.pyL_lay l h'.2, Bool.and_self]
end
mutual
theorem D.py_dep : ∀ d : D, d.py.depth = d.dep
  | .non => by simp [D.py, PyData.depth, D.dep]
  | .bl _ => by simp [D.py, PyData.depth, D.dep]
  | .int _ => by simp [D.py, PyData.depth, D.dep]
  | .str s => by simp [D.py, PyData.depth, D.dep]
  | .tup l => by simp [D.py, PyData.depth, D.dep, D.pyL_dep l]
  | .lst l => by simp [D.py, PyData.depth, D.dep, D.pyL_dep l]
  | .dic l => by simp [D.py, PyData.depth, D.dep, D.pyK_dep l]
  | .hd _ => by simp [D.py, PyData.depth, D.dep]
  | .obj _ _ => by simp [D.py, PyData.depth, D.dep]
  | .exc _ _ => by simp [D.py, PyData.depth, D.dep]
theorem D.pyL_dep : ∀ l : List D, PyData.depthAll (D.pyL l) = D.depL l
  | [] => by simp [D.pyL, PyData.depthAll, D.depL]
  | d :: l => by simp [D.pyL, PyData.depthAll, D.depL, D.py_dep d, D.pyL_dep l]
theorem D.pyK_dep : ∀ l : List (D × D), PyData.depthKv (D.pyK l) = D.depK l
  | [] => by simp [D.pyK, PyData.depthKv, D.depK]
  | (k, v) :: l => by simp [D.pyK, PyData.depthKv, D.depK, D.py_dep k, D.py_dep v, D.pyK_dep l]
end
theorem D.eqOk_shaped {d : D} (h : d.eqOk = true) : SeqAt.shaped d.py = true := by
  unfold D.eqOk at h
  rw [Bool.and_eq_true, decide_eq_true_eq] at h
  unfold SeqAt.shaped
  rw [D.py_lay d h.1, D.py_dep, decide_eq_true (by omega)]
  rfl
theorem D.eqOk_flat {d : D} (h : d.eqOk = true) : d.flat = true := by
  unfold D.eqOk at h
  rw [Bool.and_eq_true] at h
  exact h.1

section
variable {K : PySem.W.Frag} {F H : Hp} {m : List Addr}
theorem Dr.sc {v : V} {d : D} (h : Dr K F m v d) (q : d.sc = true) : flatV v = true := by
  cases h <;> first | rfl | (simp [D.sc] at q)
theorem strEq (a b : List Nat) : ((⟨a.toArray⟩ : Str) == ⟨b.toArray⟩) = decide (a = b) := by
  by_cases h : a = b
  · subst h
    rw [decide_eq_true rfl]
    exact beq_self_eq_true _
  · rw [decide_eq_false h]
    exact beq_eq_false_iff_ne.mpr fun e => h (strInj.mp e)
theorem Dr.eqV {v w : V} {d e : D} (h : Dr K F m v d) (k : Dr K F m w e) (q1 : d.sc = true) (q2 : e.sc = true) : eqV v w = eqS d e := by
  cases h <;> cases k <;> first
    | rfl
    | (simp [D.sc] at q1; done)
    | (simp [D.sc] at q2; done)
    | (simp [L2.eqV, eqS]; done)
    | (simp only [L2.eqV, eqS, strEq]; done)
    | (simp only [L2.eqV, eqS, Bool.beq_eq_decide_eq]; done)
theorem DrL.inV {w : V} {e : D} (k : Dr K F m w e) (q2 : e.sc = true) : ∀ {vs : List V} {l : List D}, DrL K F m vs l → l.all D.sc = true → vs.all flatV = true ∧ L2.inV w vs = l.any fun z => eqS z e
  | _, _, .nil, _ => ⟨rfl, rfl⟩
  | _, _, .cons h t, q => by
    rw [List.all_cons, Bool.and_eq_true] at q
    obtain ⟨h1, h2⟩ := DrL.inV k q2 t q.2
    refine ⟨by rw [List.all_cons, h.sc q.1, h1]; rfl, ?_⟩
    unfold L2.inV at h2 ⊢
    rw [List.any_cons, List.any_cons, h.eqV k q.1 q2, h2]
end
/-- the items as values, with the thing sought -/
theorem Own.inV {K : PySem.W.Frag} {H : Hp} {L : List En} {w : V} {r : R} {xs : List V} {l : List D} (h : Own K H (itz xs l ++ L)) (e : xs.length = l.length) (hm : .it w r ∈ L) (q : r.d.sc = true) (ql : l.all D.sc = true) :
    flatV w = true ∧ xs.all flatV = true ∧ L2.inV w xs = l.any fun z => eqS z r.d := by
  obtain ⟨P, S, rfl⟩ := List.append_of_mem hm
  have h2 := h.perm (L' := .it w r :: (itz xs l ++ (P ++ S))) (by
    rw [← List.append_assoc, ← List.append_assoc]
    exact List.perm_middle)
  obtain ⟨F, m, fp, e0, k, nd, z⟩ := h2
  cases k with
  | cons k1 k2 =>
    cases k1 with
    | it k1 =>
      obtain ⟨f1, f2, rfl, q1, q2⟩ := k2.split
      obtain ⟨_, t⟩ := Own.of_itz e q1
      cases k1 with
      | frz k1 =>
        obtain ⟨a, b⟩ := DrL.inV k1 q t ql
        exact ⟨k1.sc q, a, b⟩
      | _ => simp [R.d, D.sc] at q

/-- a comparison of the small syntax, on things that are alive -/
def cmpR (o : COp) (r s : R) : Option R := (cmpD o r.d s.d).map fun b => .frz (.bl b)
section
variable {X : Cx}
theorem own_eq (hu : X.A.units + 65 < cLine) {pins : List (Addr × Obj)} {s : Shared} {σ : L2.St} {H : Hp} {x y : V} {v u : Value} {Q : VK} (I : Inv X pins σ H s) (rx : RelV x v) (ry : RelV y u) {L : List En} {r t : R} {b : Bool} (ow : Own X.K H L) (m1 : .it x r ∈ L)
    (m2 : .it y t ∈ L) (hb : eqD r.d t.d = some b) : (Q (.bl b) H → wpAny (model X.prog X.w) X.A (compareOp .Eq v u) (EP X pins σ Q) X.xe s) ∧ (Q (.bl !b) H → wpAny (model X.prog X.w) X.A (compareOp .NotEq v u) (EP X pins σ Q) X.xe s) := by
  have scal : ∀ {x' y' : V}, x = x' → y = y' → L2.scal x' y' = true → decide (x' = y') = b →
      (Q (.bl b) H → wpAny (model X.prog X.w) X.A (compareOp .Eq v u) (EP X pins σ Q) X.xe s) ∧ (Q (.bl !b) H → wpAny (model X.prog X.w) X.A (compareOp .NotEq v u) (EP X pins σ Q) X.xe s) := by
    intro x' y' e1 e2 h1 h2
    subst e1 e2 h2
    exact ⟨fun q => op_eq pins s σ H x y v u Q I rx ry ⟨h1, q⟩, fun q => op_ne pins s σ H x y v u Q I rx ry ⟨h1, q⟩⟩
  unfold eqD at hb
  split at hb
  · rename_i e1 e2
    injection hb with hb
    refine scal (ow.atI (R.d_int e1 ▸ m1)) (ow.atI (R.d_int e2 ▸ m2)) rfl ?_
    rw [← hb]
    exact decide_eq_decide.mpr ⟨fun e => V.int.inj e, fun e => congrArg V.int e⟩
  · rename_i e1 e2
    injection hb with hb
    refine scal (ow.atB (R.d_bl e1 ▸ m1)) (ow.atB (R.d_bl e2 ▸ m2)) rfl ?_
    rw [← hb]
    exact decide_eq_decide.mpr ⟨fun e => V.bl.inj e, fun e => congrArg V.bl e⟩
  · rename_i e1 e2
    injection hb with hb
    refine scal (ow.atS (R.d_str e1 ▸ m1)) (ow.atS (R.d_str e2 ▸ m2)) rfl ?_
    rw [← hb]
    exact decide_eq_decide.mpr ⟨fun e => strInj.mp (V.str.inj e), fun e => congrArg V.str (strInj.mpr e)⟩
  · rename_i e1 e2
    injection hb with hb
    refine scal (ow.atN (R.d_non e1 ▸ m1)) (ow.atN (R.d_non e2 ▸ m2)) rfl ?_
    rw [← hb]
    rfl
  · split at hb
    · rename_i hk
      rw [Bool.and_eq_true] at hk
      injection hb with hb
      subst hb
      have d1 := ow.dp m1 (D.eqOk_flat hk.1)
      have d2 := ow.dp m2 (D.eqOk_flat hk.2)
      exact ⟨fun q => op_eqD (by omega) pins s σ H x y v u Q I rx ry ⟨_, _, d1, d2, D.eqOk_shaped hk.1, D.eqOk_shaped hk.2, q⟩,
        fun q => op_neD (by omega) pins s σ H x y v u Q I rx ry ⟨_, _, d1, d2, D.eqOk_shaped hk.1, D.eqOk_shaped hk.2, q⟩⟩
    · cases hb
theorem own_in (hu : X.A.units + 65 < cLine) {pins : List (Addr × Obj)} {s : Shared} {σ : L2.St} {H : Hp} {x y : V} {v u : Value} {Q : VK} (I : Inv X pins σ H s) (rx : RelV x v) (ry : RelV y u) {L : List En} {r t : R} {l : List D} {b : Bool} (ow : Own X.K H L) (m1 : .it x r ∈ L)
    (m2 : .it y t ∈ L) (hl : t.lst? = some l) (hb : isIn r.d l = some b) : (Q (.bl b) H → wpAny (model X.prog X.w) X.A (compareOp .In v u) (EP X pins σ Q) X.xe s) ∧ (Q (.bl !b) H → wpAny (model X.prog X.w) X.A (compareOp .NotIn v u) (EP X pins σ Q) X.xe s) := by
  unfold isIn at hb
  split at hb
  · rename_i hk
    rw [Bool.and_eq_true] at hk
    injection hb with hb
    obtain ⟨a, xs, rfl, sx, lx, ow1⟩ := ow.atL m2 hl
    obtain ⟨f1, f2, f3⟩ := ow1.inV lx m1 hk.1 hk.2
    rw [hb] at f3
    subst f3
    exact ⟨fun q => op_in_seq pins s σ H x _ v u Q I rx ry ⟨a, xs, rfl, .inl sx.sqL, f1, f2, q⟩, fun q => op_notIn_seq pins s σ H x _ v u Q I rx ry ⟨a, xs, rfl, .inl sx.sqL, f1, f2, q⟩⟩
  · split at hb
    · rename_i hk
      rw [Bool.and_eq_true] at hk
      injection hb with hb
      have et : t.d = .lst l := by
        cases t with
        | frz d => cases d <;> simp [R.lst?] at hl; subst hl; rfl
        | lst l' => simp [R.lst?] at hl; subst hl; simp [R.d]
        | _ => simp [R.lst?] at hl
      have d1 := ow.dp m1 (D.eqOk_flat hk.1)
      have d2 := ow.dp m2 (by rw [et]; exact D.eqOk_flat hk.2)
      have s2 := D.eqOk_shaped hk.2
      rw [et] at d2
      simp only [D.py] at d2 s2
      have any : ∀ l : List D, ((D.pyL l).any fun z => PyData.eqv z r.d.py) = l.any fun z => PyData.eqv z.py r.d.py := by
        intro l
        induction l with
        | nil => rfl
        | cons x l ih => simp only [D.pyL, List.any_cons, ih]
      rw [← any] at hb
      subst hb
      exact ⟨fun q => op_inD hu pins s σ H x y v u Q I rx ry ⟨_, _, d1, d2, D.eqOk_shaped hk.1, s2, q⟩, fun q => op_notInD hu pins s σ H x y v u Q I rx ry ⟨_, _, d1, d2, D.eqOk_shaped hk.1, s2, q⟩⟩
    · cases hb
end
end Lp

end
section
/-! LpB4d: dicts. -/
namespace Lp
open PySem PySem.Spec PyProof.Rows L2
theorem sameK_key : ∀ (a b : L2.Key), sameK (keyD a) (keyD b) = decide (a = b)
  | .inl i, .inl j => by
    show decide (i = j) = _
    exact decide_eq_decide.mpr ⟨fun e => congrArg _ e, fun e => Sum.inl.inj e⟩
  | .inr i, .inr j => by
    show decide (i.cps.toList = j.cps.toList) = _
    refine decide_eq_decide.mpr ⟨fun e => congrArg _ ?_, fun e => by rw [Sum.inr.inj e]⟩
    obtain ⟨⟨i⟩⟩ := i
    obtain ⟨⟨j⟩⟩ := j
    exact congrArg _ (congrArg _ e)
  | .inl i, .inr j => by
    show false = _
    exact (decide_eq_false nofun).symm
  | .inr i, .inl j => by
    show false = _
    exact (decide_eq_false nofun).symm
section
variable {K : PySem.W.Frag} {F : Hp} {m : List Addr}
theorem drk_look (k : L2.Key) : ∀ {ks : List (L2.Key × V)} {l : List (D × D)}, DrK K F m ks l → (lookD l (keyD k) = none ∧ valV ks k = none) ∨ ∃ d v, lookD l (keyD k) = some d ∧ valV ks k = some v ∧ Dr K F m v d
  | _, _, .nil => .inl ⟨rfl, rfl⟩
  | _, _, .cons (k := k0) (v := v) (r := r) (kd := kd) (d := d) (l := l) e h t => by
    subst e
    have hs := sameK_key k0 k
    by_cases q : k0 = k
    · rw [decide_eq_true q] at hs
      refine .inr ⟨d, v, ?_, valV_pos (p := (k0, v)) q, h⟩
      unfold lookD
      rw [List.find?_cons]
      simp only [hs]
      rfl
    · rw [decide_eq_false q] at hs
      have e1 : lookD ((keyD k0, d) :: l) (keyD k) = lookD l (keyD k) := by
        unfold lookD
        rw [List.find?_cons]
        simp only [hs]
      rw [e1, valV_neg (p := (k0, v)) (r := r) q]
      exact drk_look k t
theorem drk_any (k : L2.Key) : ∀ {ks : List (L2.Key × V)} {l : List (D × D)}, DrK K F m ks l → (l.any fun p => sameK p.1 (keyD k)) = ks.any fun p => decide (p.1 = k)
  | _, _, .nil => rfl
  | _, _, .cons (k := k0) e h t => by
    subst e
    rw [List.any_cons, List.any_cons, drk_any k t]
    show (sameK (keyD k0) (keyD k) || _) = _
    rw [sameK_key]
theorem drk_map (k : L2.Key) {y : V} {dy : D} (hy : Dr K F m y dy) : ∀ {ks : List (L2.Key × V)} {l : List (D × D)}, DrK K F m ks l → DrK K F m (ks.map fun p => if p.1 = k then (p.1, y) else p) (l.map fun p => if sameK p.1 (keyD k) = true then (p.1, dy) else p)
  | _, _, .nil => .nil
  | _, _, .cons (k := k0) (v := v) (d := d) e h t => by
    subst e
    rw [List.map_cons, List.map_cons]
    have hs := sameK_key k0 k
    by_cases q : k0 = k
    · rw [decide_eq_true q] at hs
      show DrK K F m ((if k0 = k then (k0, y) else (k0, v)) :: _) ((if sameK (keyD k0) (keyD k) = true then (keyD k0, dy) else (keyD k0, d)) :: _)
      rw [if_pos q, if_pos hs]
      exact .cons rfl hy (drk_map k hy t)
    · rw [decide_eq_false q] at hs
      show DrK K F m ((if k0 = k then (k0, y) else (k0, v)) :: _) ((if sameK (keyD k0) (keyD k) = true then (keyD k0, dy) else (keyD k0, d)) :: _)
      rw [if_neg q, if_neg (by rw [hs]; exact Bool.false_ne_true)]
      exact .cons rfl h (drk_map k hy t)
theorem drk_snoc {k : L2.Key} {y : V} {dy : D} (hy : Dr K F m y dy) : ∀ {ks : List (L2.Key × V)} {l : List (D × D)}, DrK K F m ks l → DrK K F m (ks ++ [(k, y)]) (l ++ [(keyD k, dy)])
  | _, _, .nil => .cons rfl hy .nil
  | _, _, .cons e h t => .cons e h (drk_snoc hy t)
theorem drk_put (k : L2.Key) {y : V} {dy : D} (hy : Dr K F m y dy) {ks : List (L2.Key × V)} {l : List (D × D)} (h : DrK K F m ks l) : DrK K F m (putK ks k y) (putD l (keyD k) dy) := by
  unfold putK putD
  rw [drk_any k h]
  split
  · exact drk_map k hy h
  · exact drk_snoc hy h
theorem drk_len : ∀ {ks : List (L2.Key × V)} {l : List (D × D)}, DrK K F m ks l → ks.length = l.length
  | _, _, .nil => rfl
  | _, _, .cons _ _ t => congrArg (· + 1) (drk_len t)
end
/-- which key a thing is -/
theorem Own.key {K : PySem.W.Frag} {H : Hp} {L : List En} {v : V} {r : R} (h : Own K H L) (hm : .it v r ∈ L) (hk : isKey r.d = true) : ∃ k : L2.Key, v = kV k ∧ r.d = keyD k := by
  cases e : r.d with
  | int i =>
    rw [R.d_int e] at hm
    exact ⟨.inl i, h.atI hm, rfl⟩
  | str s =>
    rw [R.d_str e] at hm
    exact ⟨.inr ⟨s.toArray⟩, h.atS hm, rfl⟩
  | _ =>
    rw [e] at hk
    cases hk
theorem Own.getK {K : PySem.W.Frag} {H : Hp} {L : List En} {x : V} {r : R} {l : List (D × D)} (h : Own K H L) (hm : .it x r ∈ L) (hl : r.dic? = some l) :
    ∃ a ks, x = .ref a ∧ Rd H a (.dK ks) ∧ ∀ k : L2.Key, (lookD l (keyD k) = none ∧ valV ks k = none) ∨ ∃ d v, lookD l (keyD k) = some d ∧ valV ks k = some v ∧ Own K H (.it v (.frz d) :: L) := by
  obtain ⟨M, p, h2⟩ := h.front hm
  obtain ⟨F, m, fp, e, k, nd, z⟩ := h2
  have fin : ∀ {ks : List (L2.Key × V)} (t : DrK K F m ks l), ∀ k' : L2.Key, (lookD l (keyD k') = none ∧ valV ks k' = none) ∨ ∃ d v, lookD l (keyD k') = some d ∧ valV ks k' = some v ∧ Own K H (.it v (.frz d) :: L) := fun t k' => by
    rcases drk_look k' t with q | ⟨d, v, q1, q2, q3⟩
    · exact .inl q
    · exact .inr ⟨d, v, q1, q2, Own.perm (L := .it v (.frz d) :: .it x r :: M) ⟨F, m, _, e, .cons (fp := []) (.it (.frz q3)) k, nd, z⟩ (.cons _ p.symm)⟩
  cases k with
  | cons k1 k2 =>
    cases k1 with
    | it k1 =>
      cases k1 with
      | @frz v d q =>
        cases d <;> simp only [R.dic?, Option.some.injEq, reduceCtorEq] at hl
        subst hl
        cases q with
        | dic s t => exact ⟨_, _, rfl, rd_mono e s, fin t⟩
      | dic q t =>
        simp only [R.dic?, Option.some.injEq] at hl
        subst hl
        exact ⟨_, _, rfl, .inl q, fin t⟩
      | _ => simp [R.dic?] at hl
theorem Own.putK {K : PySem.W.Frag} {H : Hp} {L : List En} {x y : V} {l : List (D × D)} {d : D} (h : Own K H (.it x (.dic l) :: .it y (.frz d) :: L)) :
    ∃ a ks, x = .ref a ∧ H a = some (.dK ks) ∧ ks.length = l.length ∧ ∀ k : L2.Key, Own K (upd H a (.dK (L2.putK ks k y))) (.it x (.dic (putD l (keyD k) d)) :: L) := by
  obtain ⟨F, m, fp, e, k, nd, z⟩ := h
  cases k with
  | @cons f1 f2 _ _ k1 k2 =>
    cases k1 with
    | it k1 =>
      cases k1 with
      | @dic a ks _ q t =>
        cases k2 with
        | @cons g1 g2 _ _ k3 k4 =>
          cases k3 with
          | it k3 =>
            cases k3 with
            | frz k3 =>
              have nd' : a ∉ g2 ∧ g2.Nodup := List.nodup_cons.mp nd
              refine ⟨a, ks, rfl, q, drk_len t, fun k => ⟨F, m, a :: g2, fun b u w => ?_, .cons (fp := [a]) (.it (.dic upd_same (drk_put k k3 t))) (k4.stay (Same.refl F) (Grow.refl m) fun b hb => upd_ne fun w => nd'.1 (w ▸ hb)), nd, z⟩⟩
              rw [upd_ne fun w' => by rw [w', z a List.mem_cons_self] at w; cases w]
              exact e _ _ w
end Lp

end
section
/-! LpB4e: enumerate of a tuple. -/
namespace Lp
open PySem PySem.Spec PyProof.Rows L2
set_option maxHeartbeats 1000000 in
theorem mt_enumT (tp : Addr) (zs : Array Value) :
    Meets (Builtin.«enumerate.__new__» ⟨[.type "enumerate", .ref tp], []⟩) (fun _ R s => s.heap.IsTuple tp zs ∧
      R (.ok (.ret (.ref (s.heap.push { cls := .type "tuple_iterator", data := .fields #[.ref tp, .int 0 0] }).objs.size)))
        { s with heap := (s.heap.push { cls := .type "tuple_iterator", data := .fields #[.ref tp, .int 0 0] }).push { cls := .type "enumerate", data := .fields #[.none, .bool false, .ref s.heap.objs.size, rawInt 0, .none, .none] } }) :=
  .of_wp fun pr wo Ar Rr st hst => by
    obtain ⟨hp, gg, dd, tk, oo⟩ := st
    obtain ⟨ht, hr⟩ := hst
    have hsub := sub_enumerate
    have go1 : ∀ {B : Around} {E : Value → Shared → Prop} {Q : Value → Shared → Prop}, Q (.ref hp.objs.size) ⟨hp.push { cls := .type "tuple_iterator", data := .fields #[.ref tp, .int 0 0] }, gg, dd, tk, oo⟩ → wpAny (model pr wo) B (pyIter (.ref tp)) Q E ⟨hp, gg, dd, tk, oo⟩ :=
      fun q => wpAny_pyIter_tuple (s := ⟨hp, gg, dd, tk, oo⟩) ht q
    wp_walk using go1
    refine wpAny_stack_any fun below => wpAny_pure ?_
    split
    · rename_i c _ _ _ _ _
      cases (c == Value.type "enumerate") <;> (wp_walk using go1; exact ⟨_, rfl, hr⟩)
    · wp_walk using go1
      exact ⟨_, rfl, hr⟩
section
variable {prog : Program} {w : World} {A : Around} {E : Value → Shared → Prop} {s : Shared}
theorem call_enumT {tp : Addr} {zs : Array Value} {Q : Value → Shared → Prop} (ht : s.heap.IsTuple tp zs)
    (k : ∀ h', IsEnum h' (s.heap.objs.size + 1) s.heap.objs.size 0 .none → h'.IsTupleIter s.heap.objs.size tp 0 → h'.objs.size = s.heap.objs.size + 2 →
      (∀ c ob, s.heap.get? c = some ob → h'.get? c = some ob) → Q (.ref (s.heap.objs.size + 1)) { s with heap := h' }) : wpAny (model prog w) A (call (.type "enumerate") [.ref tp]) Q E s := by
  refine callType_new F.called_enumerate (by decide) (F.typeCall_enumerate_1 _) (F.newCall_enumerate_1 _) (fun ob => F.args_object_init_2 ob _) F.entry_enumerate_new (mt_enumT tp zs) ⟨ht, ?_⟩
  have sz : (s.heap.push { cls := .type "tuple_iterator", data := .fields #[.ref tp, .int 0 0] }).objs.size = s.heap.objs.size + 1 := Heap.size_push ..
  show _ ∧ _
  rw [sz]
  have en : IsEnum ((s.heap.push { cls := .type "tuple_iterator", data := .fields #[.ref tp, .int 0 0] }).push
      { cls := .type "enumerate", data := .fields #[.none, .bool false, .ref s.heap.objs.size, rawInt 0, .none, .none] }) (s.heap.objs.size + 1) s.heap.objs.size 0 .none := by
    have z := Heap.get?_push_size (s.heap.push { cls := .type "tuple_iterator", data := .fields #[.ref tp, .int 0 0] }) (o := { cls := .type "enumerate", data := .fields #[.none, .bool false, .ref s.heap.objs.size, rawInt 0, .none, .none] }) rfl
    rw [sz] at z
    exact z
  exact ⟨⟨_, en, rfl⟩, k _ en ⟨_, Heap.get?_push_of_some _ (Heap.get?_push_size _ rfl), rfl, rfl⟩ (by rw [Heap.size_push, sz]) fun c ob q => Heap.get?_push_of_some _ (Heap.get?_push_of_some _ q)⟩
end
section
variable {prog : Program} {w : World} {A : Around} {E : Value → Shared → Prop} {s : Shared}
theorem next_enumT_end {e it tp : Addr} {i : Nat} {zs : Array Value} {old : Value} {Q : Option Value → Shared → Prop} (hh : A.handled = none) (he : IsEnum s.heap e it i old) (hit : s.heap.IsTupleIter it tp i) (ht : s.heap.IsTuple tp zs) (hz : zs[i]? = none)
    (k : ∀ h', Heap.ExtBut it s.heap h' → Q none { s with heap := h' }) : wpAny (model prog w) A (pyNext (.ref e)) Q E s := by
  have ty : s.TypeIs (.ref e) "enumerate" := ⟨_, he, rfl⟩
  unfold pyNext
  refine wpAny_bind (wpAny_attempt (wpAny_callSpecial?_slot (name := Str.ofString "__next__") ty F.slot_enumerate_next (wpAny_call_entry F.slot_enumerate_next ty F.entry_enumerate_next ?_ (F.args_enumerate_next_1 _))))
  show wpAny _ _ (field (.ref e) 2 >>= _) _ _ _
  refine wpAny_bind (wpAny_field he rfl (x := .ref it) rfl (wpAny_bind (wpAny_nextOf_tuple_end hh hit ht hz fun h' x eb hx => ?_)))
  obtain ⟨o, ho, hc⟩ := hx
  exact wpAny_bind (wpAny_isInstance (T := "StopIteration") (b := true) ⟨o, ho, hc⟩ isSubtype_stop (wpAny_pure (k _ eb)))
end
/-- the tuple at a, each item in a new pair with its number -/
def ItT (K : PySem.W.Frag) (a : Addr) : L2.It :=
  ⟨fun i H => ∃ (zs : List V) (z : V), SqT K H a zs ∧ zs[i]? = some z, fun i H v H' => ∃ T z, v = .ref T ∧ H T = none ∧ H' = upd H T (.tup [.int (i : Nat), z]) ∧ ∀ zs, SqT K H a zs → zs[i]? = some z, fun i H => ∃ zs : List V, SqT K H a zs ∧ zs.length ≤ i⟩
theorem turn_enumT {P : Program} {w : World} {K : PySem.W.Frag} {els : List Expr} {n1 : Nat} {tp : Pos} (a e it : Addr) (hai : a ≠ it) (hae : a ≠ e) (hei : e ≠ it) :
    Turn P w K (.Tuple els n1 tp) (ItT K a) [e, it] e (fun i h => (∃ old, IsEnum h e it ((i : Nat) : Int) old) ∧ h.IsTupleIter it a i) where
  mem := by simp
  obj := fun i h st b hb => by
    obtain ⟨⟨old, q⟩, o, ho, hc, hd⟩ := st
    rcases List.mem_cons.mp hb with z | z
    · subst z
      exact ⟨_, q, fun v r => nomatch r⟩
    · obtain rfl : b = it := by simpa using z
      exact ⟨o, ho, fun v r => by rw [hd] at r; cases r⟩
  keep := fun i h h' st k => by
    obtain ⟨⟨old, q⟩, r⟩ := st
    exact ⟨⟨old, k e (by simp) _ q⟩, r.at fun o z => k it (by simp) o z⟩
  item := by
    intro X hP hw hK hc i pins s σ H E I hf st hg
    subst hP hw hK
    obtain ⟨⟨old, he⟩, hit⟩ := st
    obtain ⟨zs, z, hq, hz⟩ := hg
    obtain ⟨its, rv, tu, _⟩ := I.tuple hq
    obtain ⟨u, hu, ru⟩ := rv.get hz
    have tu : s.heap.IsTuple a its.toArray := tu
    have le : e < s.heap.objs.size := Heap.lt_size he
    have li : it < s.heap.objs.size := by
      obtain ⟨_, q, _⟩ := hit
      exact Heap.lt_size q
    have ilt : i < its.toArray.size := by
      have := (List.getElem?_eq_some_iff.mp hu).1
      simpa using this
    refine wpAny_pyNext_enum_itemD (Draws.tuple (show X.A.in1.handled = none from I.ok.hd hc) it a hai its.toArray) he ⟨hit, tu⟩ ilt hei (by simp [hei, Ne.symm hae]) fun y h' tk hy ho st' hT hs hk => ?_
    obtain rfl : u = y := by
      have hy : its.toArray[i]? = some y := hy
      rw [List.getElem?_toArray, hu] at hy
      exact Option.some.inj hy
    refine ⟨_, rfl, wpAny_letOwnedTupleGo_enum (s := { s with heap := h', toks := tk + 1 }) ho fun h2 he2 sb => ?_⟩
    have hT2 : h2.get? s.heap.objs.size = some { cls := .type "tuple", data := .seq #[.int i tk, u] } := (sb.2 _ (Nat.ne_of_gt le)).trans hT
    have new : ObjOk X.prog X.w (upd H s.heap.objs.size (.tup [.int (i : Nat), z])) h2 s.heap.objs.size (.tup [.int (i : Nat), z]) :=
      ⟨by show 2 ≤ sizeLine; decide, [.int i tk, u], .cons ⟨_, rfl⟩ (.cons ru .nil), ⟨_, hT2, rfl, _, rfl⟩⟩
    have I1 : Inv X pins σ (upd H s.heap.objs.size (.tup [.int (i : Nat), z])) { s with heap := h2, toks := tk + 1 } :=
      I.turnedNew (ch := [e, it]) (fun c ob hb q => (sb.2 c (fun r => hb (by simp [r]))).trans (hk c ob (fun r => hb (by simp [r])) (fun r => hb (by simp [r])) q)) hf (Nat.le_refl _) new
    refine ⟨.ref s.heap.objs.size, _, I1, rfl, ⟨_, z, rfl, I.hok.fresh (Nat.le_refl _), rfl, fun ys hy => by rw [I.tuple_inj hy hq]; exact hz⟩, ⟨⟨u, ?_⟩, st'.1.at fun o q => (sb.2 it (Ne.symm hei)).trans q⟩, fun b hb => ?_⟩
    · rw [show ((i + 1 : Nat) : Int) = (i : Int) + 1 by omega]
      exact he2
    · have : b < s.heap.objs.size := by
        rcases List.mem_cons.mp hb with r | r
        · exact r ▸ le
        · obtain rfl : b = it := by simpa using r
          exact li
      rw [upd_ne (Nat.ne_of_lt this)]
      exact (hf b hb).1
  done := by
    intro X hP hw hK hc i pins s σ H E I hf st hg
    subst hP hw hK
    obtain ⟨⟨old, he⟩, hit⟩ := st
    obtain ⟨zs, hq, hz⟩ := hg
    obtain ⟨its, rv, tu, _⟩ := I.tuple hq
    have tu : s.heap.IsTuple a its.toArray := tu
    have ln := rv.length
    obtain ⟨f0, f1, f2, f3, f4, f5⟩ := hf it (by simp)
    refine next_enumT_end (I.ok.hd hc) he hit tu (by simp; omega) fun h' eb => ⟨rfl, ?_⟩
    exact I.turned (t' := s.toks) (fun c ob hb q => eb c ob hb q) f0 f1 f3 f4 f5
  self := fun A i s Q E st h => by
    obtain ⟨⟨_, q⟩, _⟩ := st
    exact wpAny_pyIter_enum q h
/-- enumerate(e), of a list or of a tuple -/
def iEnumA (K : PySem.W.Frag) (ta : TA) : TI := fun σ H R => ta σ H fun vs H1 => ∃ a, vs = [.ref a] ∧ ((∃ xs, SqL K H1 a xs ∧ R (Ite K a) H1) ∨ ∃ xs, SqT K H1 a xs ∧ R (ItT K a) H1)
theorem pi_enumA {X : Cx} {e : Expr} {ta : TA} {p pos tpos : Pos} {els : List Expr} {n1 : Nat} (hg : Gl X "enumerate") (hm : X.mg "enumerate" = none) (ha : PA X [e] ta) (hs : starEach [e] X.env = [(false, eval e X.env)] := by rfl) : PI X (.Tuple els n1 tpos) (.Call (.Name "enumerate" p) [e] [] pos) (iEnumA X.K ta) := by
  refine ⟨fun pins s σ H R I h => Call_ (ld_blt I hg hm boot_enumerate (PyProof.Rows.callWith_type1 (thn (ha.run pos pins s σ H _ I h) fun us s1 ⟨vs, H1, I1, r1, a, ex, q1⟩ => ?_) hs rfl))⟩
  subst ex
  cases r1 with
  | cons r rr =>
    cases rr
    cases r
    have big : ∀ b : Addr, b = s1.heap.objs.size + 1 ∨ b = s1.heap.objs.size → FpOk X pins H1 b := fun b z => by
      have le : s1.heap.objs.size ≤ b := by
        rcases z with z | z <;> (rw [z]; first | exact Nat.le_succ _ | exact Nat.le_refl _)
      exact I1.fpOk le (I1.hok.fresh le)
    rcases q1 with ⟨xs, hq, q⟩ | ⟨xs, hq, q⟩
    · obtain ⟨its, rv, tu, _⟩ := I1.list hq
      refine call_enumerate_list tu.isList fun h' he hit _ kp => wpAny_pyIter_enum he ?_
      have I2 : Inv X pins σ H1 { s1 with heap := h' } := I1.kept (t' := s1.toks) kp
      exact ⟨s1.heap.objs.size + 1, [s1.heap.objs.size + 1, s1.heap.objs.size], _, _, H1, rfl, I2, turn_enum a (s1.heap.objs.size + 1) s1.heap.objs.size, ⟨⟨.none, he⟩, hit, Nat.succ_ne_self _⟩, fun b hb => big b (by simpa using hb), q⟩
    · obtain ⟨its, rv, tu, _⟩ := I1.tuple hq
      have tu : s1.heap.IsTuple a its.toArray := tu
      have la : a < s1.heap.objs.size := by
        obtain ⟨o, ho, _⟩ := tu
        exact Heap.lt_size ho
      refine call_enumT tu fun h' he hit _ kp => wpAny_pyIter_enum he ?_
      have I2 : Inv X pins σ H1 { s1 with heap := h' } := I1.kept (t' := s1.toks) kp
      exact ⟨s1.heap.objs.size + 1, [s1.heap.objs.size + 1, s1.heap.objs.size], _, _, H1, rfl, I2, turn_enumT a (s1.heap.objs.size + 1) s1.heap.objs.size (Nat.ne_of_lt la) (Nat.ne_of_lt (Nat.lt_succ_of_lt la)) (Nat.succ_ne_self _), ⟨⟨.none, he⟩, hit⟩, fun b hb => big b (by simpa using hb), q⟩
end Lp

end
section
/-! LpB4f: zip of a tuple and a list. -/
namespace Lp
open PySem PySem.Spec PyProof.Rows L2
abbrev zipMH1 (h : Heap) (l1 : Addr) : Heap := h.push { cls := .type "tuple_iterator", data := .fields #[.ref l1, .int 0 0] }
abbrev zipMH2 (h : Heap) (l1 l2 : Addr) : Heap := (zipMH1 h l1).push { cls := .type "list_iterator", data := .fields #[.ref l2, .int 0 0] }
abbrev zipMH3 (h : Heap) (l1 l2 : Addr) : Heap := (zipMH2 h l1 l2).push { cls := .type "tuple", data := .seq #[.ref h.objs.size, .ref (zipMH1 h l1).objs.size] }
abbrev zipMH4 (h : Heap) (l1 l2 : Addr) : Heap := (zipMH3 h l1 l2).push { cls := .type "tuple", data := .seq #[.none, .none] }
abbrev zipMH5 (h : Heap) (l1 l2 : Addr) : Heap := (zipMH4 h l1 l2).push { cls := .type "zip", data := .fields #[.none, .bool false, .bool false, .ref (zipMH2 h l1 l2).objs.size, .ref (zipMH3 h l1 l2).objs.size] }
set_option maxHeartbeats 1000000 in
theorem meets_zipM_new (l1 l2 : Addr) (xs ys : Array Value) :
    Meets (Builtin.«zip.__new__» ⟨[.type "zip", .ref l1, .ref l2], []⟩) (fun _ R s => s.heap.IsTuple l1 xs ∧ s.heap.IsList l2 ys ∧
      R (.ok (.ret (.ref (zipMH4 s.heap l1 l2).objs.size))) { s with heap := zipMH5 s.heap l1 l2 }) :=
  .of_wp fun prog w A R s h => by
    obtain ⟨hp, g, d, tk, os⟩ := s; obtain ⟨hl1, hl2, h⟩ := h
    have hsub := sub_zip
    have hL1 : Heap.IsTuple (Shared.heap ⟨hp, g, d, tk, os⟩) l1 xs := hl1
    have hL2 : Heap.IsList (Shared.heap ⟨hp.push { cls := .type "tuple_iterator", data := .fields #[.ref l1, .int 0 0] }, g, d, tk, os⟩) l2 ys := Heap.IsList.push hl2 _
    wp_walk using wpAny_pyIter_tuple hL1, wpAny_pyIter_list hL2
    exact ⟨_, rfl, h⟩
section
variable {prog : Program} {w : World} {A : Around} {E : Value → Shared → Prop} {s : Shared}
theorem call_zipM {l1 l2 : Addr} {xs ys : Array Value} {Q : Value → Shared → Prop} (hl1 : s.heap.IsTuple l1 xs) (hl2 : s.heap.IsList l2 ys)
    (h : ∀ h', IsZip h' (s.heap.objs.size + 4) (s.heap.objs.size + 2) (s.heap.objs.size + 3) .none → IsPair h' (s.heap.objs.size + 2) (.ref s.heap.objs.size) (.ref (s.heap.objs.size + 1)) →
      IsPair h' (s.heap.objs.size + 3) .none .none → h'.IsTupleIter s.heap.objs.size l1 0 → h'.IsListIter (s.heap.objs.size + 1) l2 0 → h'.objs.size = s.heap.objs.size + 5 →
      (∀ c o, s.heap.get? c = some o → h'.get? c = some o) → Q (.ref (s.heap.objs.size + 4)) { s with heap := h' }) :
    wpAny (model prog w) A (call (.type "zip") [.ref l1, .ref l2]) Q E s := by
  refine callType_new F.called_zip (by decide) (F.typeCall_zip_2 _ _) (F.newCall_zip_2 _ _) (fun obj => F.args_object_init_3 obj _ _) F.entry_zip_new
    (meets_zipM_new l1 l2 xs ys) ⟨hl1, hl2, ?_⟩
  have z1 : (zipMH1 s.heap l1).objs.size = s.heap.objs.size + 1 := Heap.size_push ..
  have z2 : (zipMH2 s.heap l1 l2).objs.size = s.heap.objs.size + 2 := by rw [Heap.size_push, z1]
  have z3 : (zipMH3 s.heap l1 l2).objs.size = s.heap.objs.size + 3 := by rw [Heap.size_push, z2]
  have z4 : (zipMH4 s.heap l1 l2).objs.size = s.heap.objs.size + 4 := by rw [Heap.size_push, z3]
  have z5 : (zipMH5 s.heap l1 l2).objs.size = s.heap.objs.size + 5 := by rw [Heap.size_push, z4]
  have g5 : (zipMH5 s.heap l1 l2).get? (zipMH4 s.heap l1 l2).objs.size = some _ := Heap.get?_push_size _ rfl
  have g4 : (zipMH5 s.heap l1 l2).get? (zipMH3 s.heap l1 l2).objs.size = some _ := Heap.get?_push_of_some _ (Heap.get?_push_size _ rfl)
  have g3 : (zipMH5 s.heap l1 l2).get? (zipMH2 s.heap l1 l2).objs.size = some _ := Heap.get?_push_of_some _ (Heap.get?_push_of_some _ (Heap.get?_push_size _ rfl))
  have g2 : (zipMH5 s.heap l1 l2).get? (zipMH1 s.heap l1).objs.size = some _ := Heap.get?_push_of_some _ (Heap.get?_push_of_some _ (Heap.get?_push_of_some _ (Heap.get?_push_size _ rfl)))
  have g1 : (zipMH5 s.heap l1 l2).get? s.heap.objs.size = some _ := Heap.get?_push_of_some _ (Heap.get?_push_of_some _ (Heap.get?_push_of_some _ (Heap.get?_push_of_some _ (Heap.get?_push_size _ rfl))))
  show _ ∧ _
  rw [z2, z3, z4] at g5
  rw [z1, z2] at g3
  rw [z3] at g4
  rw [z1] at g2
  rw [z4]
  exact ⟨⟨_, g5, rfl⟩, h _ g5 g3 g4 ⟨_, g1, rfl, rfl⟩ ⟨_, g2, rfl, rfl⟩ z5 fun c o x =>
    Heap.get?_push_of_some _ (Heap.get?_push_of_some _ (Heap.get?_push_of_some _ (Heap.get?_push_of_some _ (Heap.get?_push_of_some _ x))))⟩
end
/-- a tuple at a and a list at b, as they stand at each turn, the items in new pairs -/
def ItzM (K : PySem.W.Frag) (a b : Addr) : L2.It :=
  ⟨fun i H => ∃ (xs ys : List V) (x y : V), SqT K H a xs ∧ SqL K H b ys ∧ xs[i]? = some x ∧ ys[i]? = some y,
    fun i H v H' => ∃ T x y, v = .ref T ∧ H T = none ∧ H' = upd H T (.tup [x, y]) ∧ (∀ xs, SqT K H a xs → xs[i]? = some x) ∧ ∀ ys, SqL K H b ys → ys[i]? = some y,
    fun i H => ∃ xs ys : List V, SqT K H a xs ∧ SqL K H b ys ∧ i = min xs.length ys.length⟩
theorem sepM {z TI TO i1 i2 a b : Addr} (D : ZipApart z TI TO i1 i2 a b) : ZipSep2 z TI TO i1 i2 [i1, a] [i2, b] where
  TIz := D.TIz
  TOz := D.TOz
  TITO := D.TITO
  TIi1 := D.TIi1
  mem1 := by simp
  zf1 := by simp [Ne.symm D.i1z, Ne.symm D.l1z]
  Tf1 := by simp [D.TOi1, Ne.symm D.l1TO]
  TIi2 := D.TIi2
  mem2 := by simp
  zf2 := by simp [Ne.symm D.i2z, Ne.symm D.l2z]
  Tf2 := by simp [D.TOi2, Ne.symm D.l2TO]
  sep1_2 := by simp [D.i12, Ne.symm D.l2i1]
  sep2_1 := by simp [Ne.symm D.i12, Ne.symm D.l1i2]
theorem turn_zipM {P : Program} {w : World} {K : PySem.W.Frag} {elts : List Expr} {kk : Nat} {tpos : Pos} {a b z TI TO i1 i2 : Addr} (D : ZipApart z TI TO i1 i2 a b) :
    Turn P w K (.Tuple elts kk tpos) (ItzM K a b) [z, TI, TO, i1, i2] z (fun i h => IsZip h z TI TO .none ∧ IsPair h TI (.ref i1) (.ref i2) ∧ (∃ x y, IsPair h TO x y) ∧ h.IsTupleIter i1 a i ∧ h.IsListIter i2 b i) where
  mem := by simp
  obj := fun i h st c hc => by
    obtain ⟨hz, hTI, ⟨x, y, hTO⟩, ⟨o1, e1, _, d1⟩, ⟨o2, e2, _, d2⟩⟩ := st
    have e' : c = z ∨ c = TI ∨ c = TO ∨ c = i1 ∨ c = i2 := by simpa using hc
    rcases e' with q | q | q | q | q
    · rw [q]; exact ⟨_, hz, fun v q => nomatch q⟩
    · rw [q]; exact ⟨_, hTI, fun v q => nomatch q⟩
    · rw [q]; exact ⟨_, hTO, fun v q => nomatch q⟩
    · rw [q]; exact ⟨o1, e1, fun v q => by rw [d1] at q; cases q⟩
    · rw [q]; exact ⟨o2, e2, fun v q => by rw [d2] at q; cases q⟩
  keep := fun i h h' st k => by
    obtain ⟨hz, hTI, ⟨x, y, hTO⟩, h1, h2⟩ := st
    exact ⟨k z (by simp) _ hz, k TI (by simp) _ hTI, ⟨x, y, k TO (by simp) _ hTO⟩, h1.at fun o q => k i1 (by simp) o q, h2.at fun o q => k i2 (by simp) o q⟩
  item := by
    intro X hP hw hK hc i pins s σ H E I hf st hg
    subst hP hw hK
    obtain ⟨hz, hTI, ⟨x0, y0, hTO⟩, h1, h2⟩ := st
    obtain ⟨xs, ys, x, y, hqx, hqy, hx, hy⟩ := hg
    obtain ⟨its, rv, p, _⟩ := I.tuple hqx
    obtain ⟨its2, rv2, p2, _⟩ := I.list hqy
    obtain ⟨u, hu, ru⟩ := rv.get hx
    obtain ⟨u2, hu2, ru2⟩ := rv2.get hy
    have p : s.heap.IsTuple a its.toArray := p
    have hzl : z < s.heap.objs.size := Heap.lt_size hz
    have lt1 : i < its.toArray.size := by
      have := (List.getElem?_eq_some_iff.mp hu).1
      simpa using this
    have lt2 : i < its2.toArray.size := by
      have := (List.getElem?_eq_some_iff.mp hu2).1
      simpa using this
    have hin : X.A.in1.handled = none := I.ok.hd hc
    refine wpAny_pyNext_zipD2_item (sepM D) (Draws.tuple hin i1 a D.l1i1 its.toArray) (Draws.list hin i2 b D.l2i2 its2.toArray) hz hTI hTO ⟨h1, p⟩ ⟨h2, p2.isList⟩ lt1 lt2 fun v1 v2 h' tk q1 q2 z' TO' h1' h2' hT hsz hk => ?_
    obtain rfl : u = v1 := by
      have q1 : its.toArray[i]? = some v1 := q1
      rw [List.getElem?_toArray, hu] at q1
      exact Option.some.inj q1
    obtain rfl : u2 = v2 := by
      have q2 : its2.toArray[i]? = some v2 := q2
      rw [List.getElem?_toArray, hu2] at q2
      exact Option.some.inj q2
    refine ⟨_, rfl, wpAny_letOwnedTupleGo_zip (s := { s with heap := h', toks := tk }) z' fun h'' z'' sb => ?_⟩
    have hT2 : h''.get? s.heap.objs.size = some { cls := .type "tuple", data := .seq #[u, u2] } := (sb.2 _ (Nat.ne_of_gt hzl)).trans hT
    have new : ObjOk X.prog X.w (upd H s.heap.objs.size (.tup [x, y])) h'' s.heap.objs.size (.tup [x, y]) :=
      ⟨by show 2 ≤ sizeLine; decide, [u, u2], .cons ru (.cons ru2 .nil), ⟨_, hT2, rfl, _, rfl⟩⟩
    have I1 : Inv X pins σ (upd H s.heap.objs.size (.tup [x, y])) { s with heap := h'', toks := tk } :=
      I.turnedNew (ch := [z, TI, TO, i1, i2]) (fun c o hb q => (sb.2 c (fun q' => hb (by simp [q']))).trans (hk c o (fun q' => hb (by simp [q'])) (fun q' => hb (by simp [q'])) (fun q' => hb (by simp [q'])) (fun q' => hb (by simp [q'])) q)) hf (Nat.le_refl _) new
    refine ⟨.ref s.heap.objs.size, _, I1, rfl, ⟨_, x, y, rfl, I.hok.fresh (Nat.le_refl _), rfl, fun l hl => by rw [I.tuple_inj hl hqx]; exact hx, fun l hl => by rw [I.list_inj hl hqy]; exact hy⟩, ⟨z'', ?_, ⟨u, u2, ?_⟩, ?_, ?_⟩, fun c hcm => ?_⟩
    · exact (sb.2 _ D.TIz).trans (hk _ _ D.TIz D.TITO D.TIi1 D.TIi2 hTI)
    · exact (sb.2 _ D.TOz).trans TO'
    · exact h1'.1.at fun o q => (sb.2 _ D.i1z).trans q
    · exact h2'.1.at fun o q => (sb.2 _ D.i2z).trans q
    · have hlt : c < s.heap.objs.size := by
        have e' : c = z ∨ c = TI ∨ c = TO ∨ c = i1 ∨ c = i2 := by simpa using hcm
        rcases e' with q | q | q | q | q
        · rw [q]; exact hzl
        · rw [q]; exact Heap.lt_size hTI
        · rw [q]; exact Heap.lt_size hTO
        · rw [q]; obtain ⟨_, e1, _⟩ := h1; exact Heap.lt_size e1
        · rw [q]; obtain ⟨_, e2, _⟩ := h2; exact Heap.lt_size e2
      rw [upd_ne (Nat.ne_of_lt hlt)]
      exact (hf c hcm).1
  done := by
    intro X hP hw hK hc i pins s σ H E I hf st hg
    subst hP hw hK
    obtain ⟨hz, hTI, ⟨x0, y0, hTO⟩, h1, h2⟩ := st
    obtain ⟨xs, ys, hqx, hqy, hend⟩ := hg
    obtain ⟨its, rv, p, _⟩ := I.tuple hqx
    obtain ⟨its2, rv2, p2, _⟩ := I.list hqy
    have p : s.heap.IsTuple a its.toArray := p
    have l1 := rv.length
    have l2 := rv2.length
    have s1 : its.toArray.size = its.length := by simp
    have s2 : its2.toArray.size = its2.length := by simp
    have hin : X.A.in1.handled = none := I.ok.hd hc
    exact wpAny_pyNext_zipD2_end (sepM D) (Draws.tuple hin i1 a D.l1i1 its.toArray) (Draws.list hin i2 b D.l2i2 its2.toArray) hz hTI hTO ⟨h1, p⟩ ⟨h2, p2.isList⟩ (by omega) (by omega) (by omega) fun h' tk hk => ⟨rfl, I.turnedL (ch := [z, TI, TO, i1, i2]) (fun c o hb q =>
      hk c o (fun q' => hb (by simp [q'])) (fun q' => hb (by simp [q'])) (fun q' => hb (by simp [q'])) (fun q' => hb (by simp [q'])) q) hf⟩
  self := fun A i s Q E st h => wpAny_pyIter_zip st.1 h
def iZipM (K : PySem.W.Frag) (ta : TA) : TI := fun σ H R => ta σ H fun vs H1 => ∃ a b xs ys, vs = [.ref a, .ref b] ∧ ((SqL K H1 a xs ∧ SqL K H1 b ys ∧ R (Itz K a b) H1) ∨ (SqT K H1 a xs ∧ SqT K H1 b ys ∧ R (RZ.ItzT K a b) H1) ∨ (SqT K H1 a xs ∧ SqL K H1 b ys ∧ R (ItzM K a b) H1))
theorem pi_zipM {X : Cx} {e e2 : Expr} {ta : TA} {p pos tpos : Pos} {elts : List Expr} {kk : Nat} (hg : Gl X "zip") (hm : X.mg "zip" = none) (ha : PA X [e, e2] ta)
    (hs : starEach [e, e2] X.env = (false, eval e X.env) :: starEach [e2] X.env := by rfl) (hpl : (backTo pos (starEach [e2] X.env)).any (·.1) = false := by rfl) :
    PI X (.Tuple elts kk tpos) (.Call (.Name "zip" p) [e, e2] [] pos) (iZipM X.K ta) := by
  refine ⟨fun pins s σ H R I h => ?_⟩
  refine Call_ (ld_blt I hg hm PyProof.Rows.boot_zip (PyProof.Rows.callWith_type1 (thn (ha.run pos pins s σ H _ I h) fun us s1 ⟨vs, H1, I1, r1, q1⟩ => ?_) hs hpl))
  obtain ⟨a, b, xs, ys, ex, q1⟩ := q1
  subst ex
  cases r1 with
  | cons r rr =>
    cases rr with
    | cons r' rr =>
      cases rr
      cases r
      cases r'
      have fresh5 : ∀ c, c ∈ [s1.heap.objs.size + 4, s1.heap.objs.size + 2, s1.heap.objs.size + 3, s1.heap.objs.size, s1.heap.objs.size + 1] → FpOk X pins H1 c := fun c hcm => by
        have e' : c = s1.heap.objs.size + 4 ∨ c = s1.heap.objs.size + 2 ∨ c = s1.heap.objs.size + 3 ∨ c = s1.heap.objs.size ∨ c = s1.heap.objs.size + 1 := by simpa using hcm
        have hle : s1.heap.objs.size ≤ c := by
          rcases e' with z | z | z | z | z
          · rw [z]; exact Nat.le_add_right _ _
          · rw [z]; exact Nat.le_add_right _ _
          · rw [z]; exact Nat.le_add_right _ _
          · rw [z]; exact Nat.le_refl _
          · rw [z]; exact Nat.le_add_right _ _
        exact I1.fpOk hle (I1.hok.fresh hle)
      rcases q1 with ⟨hqx, hqy, q⟩ | ⟨hqx, hqy, q⟩ | ⟨hqx, hqy, q⟩
      · obtain ⟨its, rv, p1, _⟩ := I1.list hqx
        obtain ⟨its2, rv2, p2, _⟩ := I1.list hqy
        refine call_zip_2 p1.isList p2.isList fun h' hz hTI hTO h1 h2 hsz hk => wpAny_pyIter_zip hz ?_
        have I2 : Inv X pins σ H1 { s1 with heap := h' } := I1.kept (t' := s1.toks) hk
        exact ⟨s1.heap.objs.size + 4, [s1.heap.objs.size + 4, s1.heap.objs.size + 2, s1.heap.objs.size + 3, s1.heap.objs.size, s1.heap.objs.size + 1], _, _, H1, rfl, I2, turn_zip (PySem.W.ktu_apart s1.heap.objs.size a b p1.lt p2.lt), ⟨hz, hTI, ⟨_, _, hTO⟩, h1, h2⟩, fresh5, q⟩
      · obtain ⟨its, rv, p1, _⟩ := I1.tuple hqx
        obtain ⟨its2, rv2, p2, _⟩ := I1.tuple hqy
        obtain ⟨o1, ho1, _⟩ := id p1
        obtain ⟨o2, ho2, _⟩ := id p2
        refine RZ.call_zipT (show s1.heap.IsTuple a its.toArray from p1) (show s1.heap.IsTuple b its2.toArray from p2) fun h' hz hTI hTO h1 h2 hsz hk => wpAny_pyIter_zip hz ?_
        have I2 : Inv X pins σ H1 { s1 with heap := h' } := I1.kept (t' := s1.toks) hk
        exact ⟨s1.heap.objs.size + 4, [s1.heap.objs.size + 4, s1.heap.objs.size + 2, s1.heap.objs.size + 3, s1.heap.objs.size, s1.heap.objs.size + 1], _, _, H1, rfl, I2, RZ.turn_zipT (PySem.W.ktu_apart s1.heap.objs.size a b (Heap.lt_size ho1) (Heap.lt_size ho2)), ⟨hz, hTI, ⟨_, _, hTO⟩, h1, h2⟩, fresh5, q⟩
      · obtain ⟨its, rv, p1, _⟩ := I1.tuple hqx
        obtain ⟨its2, rv2, p2, _⟩ := I1.list hqy
        obtain ⟨o1, ho1, _⟩ := id p1
        refine call_zipM (show s1.heap.IsTuple a its.toArray from p1) p2.isList fun h' hz hTI hTO h1 h2 hsz hk => wpAny_pyIter_zip hz ?_
        have I2 : Inv X pins σ H1 { s1 with heap := h' } := I1.kept (t' := s1.toks) hk
        exact ⟨s1.heap.objs.size + 4, [s1.heap.objs.size + 4, s1.heap.objs.size + 2, s1.heap.objs.size + 3, s1.heap.objs.size, s1.heap.objs.size + 1], _, _, H1, rfl, I2, turn_zipM (PySem.W.ktu_apart s1.heap.objs.size a b (Heap.lt_size ho1) p2.lt), ⟨hz, hTI, ⟨_, _, hTO⟩, h1, h2⟩, fresh5, q⟩
end Lp

end
section
/-! LpB4g: d.update(e), e a dict. -/
namespace Lp
open PySem PySem.Spec PyProof.Rows L2
def mrgK (ks ms : List (L2.Key × V)) : List (L2.Key × V) := ms.foldl (fun acc p => L2.putK acc p.1 p.2) ks
theorem mrgK_len : ∀ (ms ks : List (L2.Key × V)), (mrgK ks ms).length ≤ ks.length + ms.length
  | [], ks => Nat.le_refl _
  | p :: ms, ks => by
    have h1 := mrgK_len ms (L2.putK ks p.1 p.2)
    have h2 := L2.length_putK ks p.1 p.2
    show (mrgK (L2.putK ks p.1 p.2) ms).length ≤ ks.length + (ms.length + 1)
    omega
theorem drk_mrg {K : PySem.W.Frag} {F : Hp} {m : List Addr} : ∀ {ms : List (L2.Key × V)} {lm : List (D × D)} {ks : List (L2.Key × V)} {l : List (D × D)}, DrK K F m ms lm → DrK K F m ks l → DrK K F m (mrgK ks ms) (mrgD l lm)
  | _, _, _, _, .nil, h => h
  | _, _, _, _, .cons (k := k) e hv t, h => by
    subst e
    have := drk_mrg t (drk_put k hv h)
    exact this
theorem kv_mrg {ms : List (L2.Key × V)} {vs2 : List (L2.Key × Value)} (r2 : KV ms vs2) : ∀ {ks : List (L2.Key × V)} {vs : List (L2.Key × Value)}, KV ks vs → KV (mrgK ks ms) (merged vs vs2) := by
  induction r2 with
  | nil => exact fun r => r
  | cons h t ih =>
    rename_i a b l1 l2
    intro ks vs r
    obtain ⟨h1, h2⟩ := h
    obtain ⟨k1, v1⟩ := a
    obtain ⟨k2, v2⟩ := b
    have h1 : k1 = k2 := h1
    subst h1
    have := ih (r.put k1 h2)
    exact this
theorem Own.mrgK {K : PySem.W.Frag} {H : Hp} {L : List En} {x y : V} {l lm : List (D × D)} (h : Own K H (.it x (.dic l) :: .it y (.frz (.dic lm)) :: L)) :
    ∃ a b ks ms, x = .ref a ∧ y = .ref b ∧ H a = some (.dK ks) ∧ Rd H b (.dK ms) ∧ a ≠ b ∧ ks.length = l.length ∧ ms.length = lm.length ∧ Own K (upd H a (.dK (Lp.mrgK ks ms))) (.it x (.dic (mrgD l lm)) :: L) := by
  obtain ⟨F, m, fp, e, k, nd, z⟩ := h
  cases k with
  | @cons f1 f2 _ _ k1 k2 =>
    cases k1 with
    | it k1 =>
      cases k1 with
      | @dic a ks _ q t =>
        cases k2 with
        | @cons g1 g2 _ _ k3 k4 =>
          cases k3 with
          | it k3 =>
            cases k3 with
            | frz k3 =>
              cases k3 with
              | @dic b ms _ rd t2 =>
                have nd' : a ∉ g2 ∧ g2.Nodup := List.nodup_cons.mp nd
                have za := z a List.mem_cons_self
                refine ⟨a, b, ks, ms, rfl, rfl, q, rd_mono e rd, fun w => ?_, drk_len t, drk_len t2, ⟨F, m, a :: g2, fun b u w => ?_, .cons (fp := [a]) (.it (.dic upd_same (drk_mrg t2 t))) (k4.stay (Same.refl F) (Grow.refl m) fun b hb => upd_ne fun w => nd'.1 (w ▸ hb)), nd, z⟩⟩
                · subst w
                  rcases rd with r | ⟨o, r⟩ <;> rw [za] at r <;> cases r
                · rw [upd_ne fun w' => by rw [w', za] at w; cases w]
                  exact e _ _ w
/-- d.update(e) -/
theorem mt_dupd {X : Cx} : MtR X "dict.update" (fun x xs H Q => ∃ (a b : Addr) (ks ms : List (L2.Key × V)), x = .ref a ∧ xs = [.ref b] ∧ H a = some (.dK ks) ∧ Rd H b (.dK ms) ∧ a ≠ b ∧ ks.length + ms.length ≤ sizeLine ∧ Q .non (upd H a (.dK (mrgK ks ms)))) := by
  intro pins s σ H x xs v us Q I rx rv h
  obtain ⟨a, b, ks, ms, rfl, rfl, e, e2, hab, hz, q⟩ := h
  obtain rfl : v = Value.ref a := rx
  rw [Vals.ref1 rv]
  obtain ⟨z, hd, vs, rel, dd⟩ := dk_of I.hok e
  obtain ⟨z2, hd2, vs2, rel2, dd2⟩ := dk_rd I.hok e2
  refine call_meetsIn PySem.F.slot_dict_update dd.typeIs PySem.F.entry_dict_update (PySem.F.args_dict_update_2 _ _) (meets_dict_update (mixKind X.prog X.w) a b hab hd2) ⟨vs, vs2, dd, dd2, by rw [← rel.length, ← rel2.length]; exact hz, fun h' dd' dd2' hs => ?_⟩
  have he : ∃ q, h'.get? a = some q := let ⟨q, _, _, hq, _⟩ := dd'; ⟨q, hq⟩
  have hl := mrgK_len ms ks
  exact ⟨.non, _, d_write (t' := s.toks) I (by rw [e]; exact True.intro) hs he (dk_new (by omega) hd (kv_mrg rel2 rel) dd'), rfl, q⟩
end Lp

end
section
/-! LpB5: comparisons as operators. -/
namespace Lp
open PySem PySem.Spec PyProof.Rows L2
section
variable {X : Cx}
/-- v is not None -/
theorem Own.notNon {K : PySem.W.Frag} {H : Hp} {L : List En} {v : V} {r : R} (h : Own K H L) (hm : .it v r ∈ L) (q : r.d ≠ .non) : v ≠ .non := by
  obtain ⟨F, m, fp, e, k⟩ := h.rvAt hm
  intro z
  subst z
  cases k with
  | frz k =>
    cases k
    exact q rfl
theorem R.d_lst {r : R} {l : List D} (h : r.d = .lst l) : r.lst? = some l := by
  cases r with
  | frz d =>
    have h' : d = .lst l := h
    subst h'
    rfl
  | lst l' => simp [R.d] at h; subst h; rfl
  | _ => simp [R.d] at h
theorem R.d_dic {r : R} {l : List (D × D)} (h : r.d = .dic l) : r.dic? = some l := by
  cases r with
  | frz d =>
    have h' : d = .dic l := h
    subst h'
    rfl
  | dic l' => simp [R.d] at h; subst h; rfl
  | _ => simp [R.d] at h
theorem RvL.scal {K : PySem.W.Frag} {F H : Hp} {m : List Addr} : ∀ {fp : List Addr} {vs : List V} {rs : List R}, RvL K F H m fp vs rs → (R.dL rs).all D.sc = true → DrL K F m vs (R.dL rs)
  | _, _, _, .nil, _ => .nil
  | _, _, _, .cons h t, q => by
    have q' := q
    simp only [R.dL, List.all_cons, Bool.and_eq_true] at q'
    cases h with
    | frz h => exact .cons h (t.scal q'.2)
    | _ => simp [R.d, D.sc] at q'
/-- the items of a tuple of plain things, an own one or not -/
theorem Own.atTs {K : PySem.W.Frag} {H : Hp} {L : List En} {v : V} {r : R} {l : List D} (h : Own K H L) (hm : .it v r ∈ L) (e : r.d = .tup l) (hs : l.all D.sc = true) :
    ∃ a xs, v = .ref a ∧ Rd H a (.tup xs) ∧ xs.length = l.length ∧ Own K H (itz xs l ++ L) := by
  cases r with
  | frz d =>
    have e' : d = .tup l := e
    subst e'
    exact h.atT hm
  | tup rs =>
    have e' : R.dL rs = l := by simpa [R.d] using e
    obtain ⟨M, p, F, m, fp, e0, k, nd, z⟩ := h.front hm
    cases k with
    | cons k1 k2 =>
      cases k1 with
      | it k1 =>
        cases k1 with
        | tup q t =>
          have t' := t.scal (by rw [e']; exact hs)
          rw [e'] at t'
          exact ⟨_, _, rfl, .inl q, t'.len, Own.perm ⟨F, m, _, e0, (Own.itz_of t').join (.cons (.it (.tup q t)) k2), nd, z⟩ (p.symm.append_left _)⟩
  | _ => simp [R.d] at e
theorem op_cmp (hu : X.A.units + 65 < cLine) (o : COp) : OpR X (compareOp (cop o)) (rB X.K (cmpR o)) := by
  intro pins s σ H x y v u Q I rx ry h
  obtain ⟨L, r, t, z, ow, m1, m2, hz, q⟩ := h
  unfold cmpR at hz
  obtain ⟨b, hb, ez⟩ := Option.map_eq_some_iff.mp hz
  subst ez
  have fin : Q (.bl b) H := q _ _ (ow.bl b)
  have go : ∀ {rr : R2}, OpR X (compareOp (cop o)) rr → rr x y H Q → wpAny (model X.prog X.w) X.A (compareOp (cop o) v u) (EP X pins σ Q) X.xe s := fun {rr} h1 h2 => h1 pins s σ H x y v u Q I rx ry h2
  have numb : ∀ {i j : Int} {f : Int → Int → Bool}, r.d = .int i → t.d = .int j → f i j = b → OpR X (compareOp (cop o)) (rI0 fun i j => .bl (f i j)) → wpAny (model X.prog X.w) X.A (compareOp (cop o) v u) (EP X pins σ Q) X.xe s := by
    intro i j f e1 e2 e3 ho
    exact go ho ⟨i, j, ow.atI (R.d_int e1 ▸ m1), ow.atI (R.d_int e2 ▸ m2), by show Q (.bl (f i j)) H; rw [e3]; exact fin⟩
  have isN : r.d = .non ∨ r.d ≠ .non → t.d = .non → o = .is → (r.d = .non → b = true) → (r.d ≠ .non → b = false) → wpAny (model X.prog X.w) X.A (compareOp (cop o) v u) (EP X pins σ Q) X.xe s := by
    intro h1 h2 h3 h4 h5
    subst h3
    refine go op_isN ⟨ow.atN (R.d_non h2 ▸ m2), ?_⟩
    rcases h1 with h1 | h1
    · have ex : x = .non := ow.atN (R.d_non h1 ▸ m1)
      rw [decide_eq_true ex, ← h4 h1]
      exact fin
    · rw [decide_eq_false (ow.notNon m1 h1), ← h5 h1]
      exact fin
  have notN : r.d = .non ∨ r.d ≠ .non → t.d = .non → o = .isnot → (r.d = .non → b = false) → (r.d ≠ .non → b = true) → wpAny (model X.prog X.w) X.A (compareOp (cop o) v u) (EP X pins σ Q) X.xe s := by
    intro h1 h2 h3 h4 h5
    subst h3
    refine go op_notN ⟨ow.atN (R.d_non h2 ▸ m2), ?_⟩
    rcases h1 with h1 | h1
    · have ex : x = .non := ow.atN (R.d_non h1 ▸ m1)
      rw [decide_eq_true ex]
      have := h4 h1
      subst this
      exact fin
    · rw [decide_eq_false (ow.notNon m1 h1)]
      have := h5 h1
      subst this
      exact fin
  unfold cmpD at hb
  split at hb
  · exact (own_eq hu I rx ry ow m1 m2 hb).1 fin
  · obtain ⟨b', hb', e⟩ := Option.map_eq_some_iff.mp hb
    subst e
    exact (own_eq hu I rx ry ow m1 m2 hb').2 fin
  · exact numb (by assumption) (by assumption) (Option.some.inj hb) op_lt
  · exact numb (by assumption) (by assumption) (Option.some.inj hb) op_le
  · exact numb (by assumption) (by assumption) (Option.some.inj hb) op_gt
  · exact numb (by assumption) (by assumption) (Option.some.inj hb) op_ge
  · rename_i e1 e2
    refine go op_lt_str ⟨_, _, ow.atS (R.d_str e1 ▸ m1), ow.atS (R.d_str e2 ▸ m2), ?_⟩
    rw [strCps, strCps, Option.some.inj hb]
    exact fin
  · rename_i e1 e2
    refine go op_le_str ⟨_, _, ow.atS (R.d_str e1 ▸ m1), ow.atS (R.d_str e2 ▸ m2), ?_⟩
    rw [strCps, strCps, Option.some.inj hb]
    exact fin
  · rename_i e1 e2
    refine go op_gt_str ⟨_, _, ow.atS (R.d_str e1 ▸ m1), ow.atS (R.d_str e2 ▸ m2), ?_⟩
    rw [strCps, strCps, Option.some.inj hb]
    exact fin
  · rename_i e1 e2
    refine go op_ge_str ⟨_, _, ow.atS (R.d_str e1 ▸ m1), ow.atS (R.d_str e2 ▸ m2), ?_⟩
    rw [strCps, strCps, Option.some.inj hb]
    exact fin
  · exact isN (.inl (by assumption)) (by assumption) rfl (fun _ => (Option.some.inj hb).symm) (fun h => absurd (by assumption) h)
  all_goals first
    | (rename_i e1 e2
       exact isN (.inr (by rw [e1]; exact nofun)) e2 rfl (fun h => by rw [e1] at h; cases h) (fun _ => (Option.some.inj hb).symm))
    | (rename_i e1 e2
       exact notN (.inr (by rw [e1]; exact nofun)) e2 rfl (fun h => by rw [e1] at h; cases h) (fun _ => (Option.some.inj hb).symm))
    | exact notN (.inl (by assumption)) (by assumption) rfl (fun _ => (Option.some.inj hb).symm) (fun h => absurd (by assumption) h)
    | skip
  · rename_i e1 e2
    refine go op_is_bl ⟨_, _, ow.atB (R.d_bl e1 ▸ m1), ow.atB (R.d_bl e2 ▸ m2), ?_⟩
    rw [Option.some.inj hb]
    exact fin
  · rename_i e1 e2
    refine go op_isnot_bl ⟨_, _, ow.atB (R.d_bl e1 ▸ m1), ow.atB (R.d_bl e2 ▸ m2), ?_⟩
    rw [Option.some.inj hb]
    exact fin
  · rename_i e1 e2
    refine go op_in_sign ⟨_, _, ow.atS (R.d_str e1 ▸ m1), ow.atS (R.d_str e2 ▸ m2), ?_⟩
    rw [strCps, Option.some.inj hb]
    exact fin
  · rename_i e1 e2
    refine go op_notIn_sign ⟨_, _, ow.atS (R.d_str e1 ▸ m1), ow.atS (R.d_str e2 ▸ m2), ?_⟩
    rw [strCps, Option.some.inj hb]
    exact fin
  · rename_i l e2
    split at hb
    · rename_i hk
      obtain ⟨k, ek, ed⟩ := ow.key m1 hk
      subst ek
      obtain ⟨a, ks, ea, rd, h5⟩ := ow.getK m2 (R.d_dic e2)
      subst ea
      obtain rfl : u = Value.ref a := ry
      have hz2 : (valV ks k).isSome = b := by
        rw [← Option.some.inj hb, ed]
        rcases h5 k with ⟨q1, q2⟩ | ⟨d, w, q1, q2, _⟩
        · rw [q1, q2]
          rfl
        · rw [q1, q2]
          rfl
      exact d_in (by omega) I (.inl ⟨ks, k, rd, rfl, rfl⟩) rx fun s3 I3 => ⟨.bl (valV ks k).isSome, H, I3, rfl, hz2 ▸ fin⟩
    · cases hb
  · rename_i l e2
    split at hb
    · rename_i hk
      obtain ⟨k, ek, ed⟩ := ow.key m1 hk
      subst ek
      obtain ⟨a, ks, ea, rd, h5⟩ := ow.getK m2 (R.d_dic e2)
      subst ea
      obtain rfl : u = Value.ref a := ry
      have hz2 : (!(valV ks k).isSome) = b := by
        rw [← Option.some.inj hb, ed]
        rcases h5 k with ⟨q1, q2⟩ | ⟨d, w, q1, q2, _⟩
        · rw [q1, q2]
          rfl
        · rw [q1, q2]
          rfl
      exact d_notIn (by omega) I (.inl ⟨ks, k, rd, rfl, rfl⟩) rx fun s3 I3 => ⟨.bl (!(valV ks k).isSome), H, I3, rfl, hz2 ▸ fin⟩
    · cases hb
  · rename_i e2
    exact (own_in hu I rx ry ow m1 m2 (R.d_lst e2) hb).1 fin
  · rename_i e2
    obtain ⟨b', hb', e⟩ := Option.map_eq_some_iff.mp hb
    subst e
    exact (own_in hu I rx ry ow m1 m2 (R.d_lst e2) hb').2 fin
  · rename_i l e2
    split at hb
    · rename_i hk
      rw [Bool.and_eq_true] at hk
      obtain ⟨a, xs, ea, sx, lx, ow1⟩ := ow.atTs m2 e2 hk.2
      obtain ⟨f1, f2, f3⟩ := ow1.inV lx m1 hk.1 hk.2
      rw [Option.some.inj hb] at f3
      refine go op_in_seq ⟨a, xs, ea, .inr (.inl sx), f1, f2, ?_⟩
      rw [f3]
      exact fin
    · cases hb
  · rename_i l e2
    split at hb
    · rename_i hk
      rw [Bool.and_eq_true] at hk
      obtain ⟨a, xs, ea, sx, lx, ow1⟩ := ow.atTs m2 e2 hk.2
      obtain ⟨f1, f2, f3⟩ := ow1.inV lx m1 hk.1 hk.2
      refine go op_notIn_seq ⟨a, xs, ea, .inr (.inl sx), f1, f2, ?_⟩
      rw [f3]
      rw [← Option.some.inj hb] at fin
      exact fin
    · cases hb
  · cases hb
end
end Lp

end
section
/-! LpB6: places, slices, turning about, built-in functions, methods, by values. -/
namespace Lp
open PySem PySem.Spec PyProof.Rows L2

/-! ### places -/
theorem atI_eq {α : Type} (xs : List α) (i : Int) : atI xs i = at? xs i := by
  unfold atI at? ixN
  by_cases h0 : 0 ≤ i
  · rw [if_pos h0, if_pos h0]
    by_cases h1 : i < (xs.length : Int)
    · rw [if_pos h1]
      rfl
    · rw [if_neg h1, List.getElem?_eq_none (by omega)]
      rfl
  · rw [if_neg h0, if_neg h0]
    by_cases h1 : -(xs.length : Int) ≤ i
    · rw [if_pos h1, if_pos h1]
      rfl
    · rw [if_neg h1, if_neg h1]
      rfl
theorem pos_eq (n : Nat) (i : Int) : ixN n i = pos? n i := rfl
theorem at_pos {α : Type} {l : List α} {i : Int} {d : α} (h : at? l i = some d) : ∃ j, ixN l.length i = some j ∧ l[j]? = some d := by
  rw [← atI_eq] at h
  unfold atI at h
  cases e : ixN l.length i with
  | none =>
    rw [e] at h
    cases h
  | some j =>
    rw [e] at h
    exact ⟨j, rfl, h⟩
theorem at_mem {xs : List V} {l : List D} {i : Int} {d : D} (e : xs.length = l.length) (h : at? l i = some d) : ∃ v, atI xs i = some v ∧ En.it v (.frz d) ∈ itz xs l := by
  obtain ⟨j, h1, h2⟩ := at_pos h
  obtain ⟨v, h3, h4⟩ := Own.mem_itz e h2
  refine ⟨v, ?_, h4⟩
  unfold atI
  rw [e, h1]
  exact h3
theorem clamp_some (n d : Nat) (i : Int) : HT.sIx n d (some i) = clamp n i := rfl
theorem sIx_lo (n : Nat) (o : Option Int) : HT.sIx n 0 o = (match o with | none => 0 | some i => clamp n i) := by cases o <;> rfl
theorem sIx_hi (n : Nat) (o : Option Int) : HT.sIx n n o = (match o with | none => n | some i => clamp n i) := by cases o <;> rfl
theorem slice_eq {α : Type} (l : List α) (lo hi : Option Int) : slice l lo hi = (l.drop (HT.sIx l.length 0 lo)).take (HT.sIx l.length l.length hi - HT.sIx l.length 0 lo) := by
  cases lo <;> cases hi <;> rfl
theorem itz_take (xs : List V) (l : List D) (n : Nat) : itz (xs.take n) (l.take n) = (itz xs l).take n := by
  induction xs generalizing l n with
  | nil =>
    cases n <;> cases l <;> rfl
  | cons x xs ih =>
    cases n with
    | zero => rfl
    | succ n =>
      cases l with
      | nil => rfl
      | cons d l => exact congrArg (_ :: ·) (ih l n)
theorem itz_drop (xs : List V) (l : List D) (n : Nat) : itz (xs.drop n) (l.drop n) = (itz xs l).drop n := by
  induction xs generalizing l n with
  | nil =>
    cases n <;> cases l <;> simp [itz]
  | cons x xs ih =>
    cases n with
    | zero => rfl
    | succ n =>
      cases l with
      | nil =>
        show itz (xs.drop n) [] = _
        cases xs.drop n <;> rfl
      | cons d l => exact ih l n
theorem itz_rev {xs : List V} {l : List D} (e : xs.length = l.length) : itz xs.reverse l.reverse = (itz xs l).reverse := by
  induction xs generalizing l with
  | nil =>
    cases l with
    | nil => rfl
    | cons _ _ => cases e
  | cons x xs ih =>
    cases l with
    | nil => cases e
    | cons d l =>
      have e' := Nat.succ.inj e
      rw [List.reverse_cons, List.reverse_cons, itz_app (by rw [List.length_reverse, List.length_reverse, e']), ih e']
      show _ = (_ :: itz xs l).reverse
      rw [List.reverse_cons]
      rfl

/-! ### counting, to order things anew -/
open Classical in
noncomputable def one (x y : En) : Nat := if x = y then 1 else 0
noncomputable def cnt (x : En) : List En → Nat
  | [] => 0
  | y :: l => one x y + cnt x l
theorem cnt_nil (x : En) : cnt x [] = 0 := rfl
theorem cnt_cons (x y : En) (l : List En) : cnt x (y :: l) = one x y + cnt x l := rfl
theorem cnt_app (x : En) (a b : List En) : cnt x (a ++ b) = cnt x a + cnt x b := by
  induction a with
  | nil => exact (Nat.zero_add _).symm
  | cons y a ih =>
    show one x y + cnt x (a ++ b) = one x y + cnt x a + cnt x b
    rw [ih, Nat.add_assoc]
theorem cnt_perm {x : En} {a b : List En} (p : a.Perm b) : cnt x a = cnt x b := by
  induction p with
  | nil => rfl
  | cons y _ ih =>
    show _ + _ = _ + _
    rw [ih]
  | swap y z l =>
    show one x z + (one x y + cnt x l) = one x y + (one x z + cnt x l)
    omega
  | trans _ _ h1 h2 => exact h1.trans h2
theorem cnt_mem {x : En} {l : List En} : 0 < cnt x l → x ∈ l := by
  induction l with
  | nil => exact fun h => absurd h (Nat.lt_irrefl 0)
  | cons y l ih =>
    intro h
    have h : 0 < one x y + cnt x l := h
    by_cases e : x = y
    · exact e ▸ List.mem_cons_self
    · have : one x y = 0 := if_neg e
      exact List.mem_cons_of_mem _ (ih (by omega))
theorem one_self (x : En) : one x x = 1 := if_pos rfl
theorem sub_of_cnt : ∀ {a b : List En}, (∀ x, cnt x a ≤ cnt x b) → ∃ m, b.Perm (a ++ m)
  | [], b, _ => ⟨b, .refl _⟩
  | y :: a, b, h => by
    have hy : y ∈ b := cnt_mem (by
      have := h y
      rw [cnt_cons, one_self] at this
      omega)
    obtain ⟨P, S, rfl⟩ := List.append_of_mem hy
    have p := List.perm_middle (a := y) (l₁ := P) (l₂ := S)
    obtain ⟨m, q⟩ := sub_of_cnt (a := a) (b := P ++ S) fun x => by
      have := h x
      rw [cnt_perm p, cnt_cons, cnt_cons] at this
      omega
    exact ⟨m, p.trans (.cons _ q)⟩
theorem Own.by {K : PySem.W.Frag} {H : Hp} {L L' : List En} (h : Own K H L) (c : ∀ x, cnt x L' ≤ cnt x L) : Own K H L' := by
  obtain ⟨m, p⟩ := sub_of_cnt c
  exact h.sub p

/-! ### items of a list or a tuple -/
theorem Own.atIt {K : PySem.W.Frag} {H : Hp} {L : List En} {v : V} {r : R} {l : List D} (h : Own K H L) (hm : .it v r ∈ L) (hl : r.its = some l) :
    ∃ a xs, v = .ref a ∧ (SqX K H a xs ∨ Rd H a (.tup xs)) ∧ xs.length = l.length ∧ Own K H (itz xs l ++ L) := by
  have viaL : r.lst? = some l → ∃ a xs, v = .ref a ∧ (SqX K H a xs ∨ Rd H a (.tup xs)) ∧ xs.length = l.length ∧ Own K H (itz xs l ++ L) := fun q => by
    obtain ⟨a, xs, h1, h2, h3, h4⟩ := h.atL hm q
    exact ⟨a, xs, h1, .inl h2, h3, h4⟩
  cases r with
  | frz d =>
    cases d with
    | lst l' => exact viaL hl
    | tup l' =>
      have e : l' = l := Option.some.inj hl
      subst e
      obtain ⟨a, xs, h1, h2, h3, h4⟩ := h.atT hm
      exact ⟨a, xs, h1, .inr h2, h3, h4⟩
    | _ => cases hl
  | lst l' => exact viaL hl
  | _ => cases hl
section
variable {X : Cx}
theorem op_ix (hu : X.A.units + 65 < cLine) : IxR X (rB X.K ixR) := by
  intro value slice pins s σ H x y v u Q I rx ry h hs
  obtain ⟨L, r, t, z, ow, m1, m2, hz, q⟩ := h
  have seq : ∀ {i : Int} {l : List D}, t = .frz (.int i) → r.its = some l → (at? l i).map R.frz = some z → wpAny (model X.prog X.w) X.A (subscriptTail value slice v u) (EP X pins σ Q) X.xe s := by
    intro i l et hl e
    subst et
    obtain ⟨d, hd, ez⟩ := Option.map_eq_some_iff.mp e
    subst ez
    have ey := ow.atI m2
    obtain ⟨a, xs, ea, hx, len, ow1⟩ := ow.atIt m1 hl
    obtain ⟨w, hw, mw⟩ := at_mem len hd
    have fin : Q w H := q w H ((ow1.dup (List.mem_append_left _ mw)).by fun x => by
      simp only [cnt_cons, cnt_app]
      omega)
    rcases hx with hx | hx
    · exact ix_list value slice pins s σ H x y v u Q I rx ry ⟨a, xs, i, w, ea, ey, hx.sqL, hw, fin⟩ hs
    · exact ix_tup value slice pins s σ H x y v u Q I rx ry ⟨a, xs, i, w, ea, ey, .inl hx, hw, fin⟩ hs
  have dic : ∀ {l : List (D × D)} (kk : D), isKey t.d = true → t.d = kk → r.dic? = some l → (lookD l kk).map R.frz = some z → wpAny (model X.prog X.w) X.A (subscriptTail value slice v u) (EP X pins σ Q) X.xe s := by
    intro l kk hk ek hl e
    obtain ⟨k, ey, ed⟩ := ow.key m2 hk
    obtain ⟨a, ks, ea, rd, h5⟩ := ow.getK m1 hl
    subst ea ey
    obtain rfl : v = Value.ref a := rx
    rw [← ek, ed] at e
    rcases h5 k with ⟨q1, q2⟩ | ⟨d, w, q1, q2, ow1⟩
    · rw [q1] at e
      cases e
    · rw [q1] at e
      cases e
      have gg : DGet H a (kV k) (some w) := .inl ⟨ks, k, rd, rfl, q2.symm⟩
      exact tail_any (dict_typeIs I gg) PySem.F.slot_dict_getitem.lookup (d_getItem (by omega) I gg ry fun w' s3 I3 rw' => ⟨w, H, I3, rw', q w H ow1⟩) hs
  unfold ixR at hz
  split at hz
  · rename_i sl i
    split at hz
    · rename_i hb
      obtain ⟨c, hc, ez⟩ := Option.map_eq_some_iff.mp hz
      subst ez
      refine ix_str value slice pins s σ H x y v u Q I rx ry ⟨_, i, c, ow.atS m1, ow.atI m2, by rw [strLen]; exact big_le hb, by rw [strCps, atI_eq]; exact hc, ?_⟩ hs
      exact q _ H (ow.str [c])
    · cases hz
  · rename_i i _
    split at hz
    · rename_i l hl
      exact seq rfl hl hz
    · split at hz
      · rename_i l hl
        exact dic _ rfl rfl hl hz
      · cases hz
  · split at hz
    · rename_i l hl
      exact dic _ rfl rfl hl hz
    · cases hz
  · cases hz
/-- o[i], by values alone -/
theorem get_list : PGet X (fun o i H Q => ∃ p xs k v, o = .ref p ∧ i = .int k ∧ SqL X.K H p xs ∧ atI xs k = some v ∧ Q v H) := by
  intro pins s σ H o i ov iv Q I ro ri h
  obtain ⟨p, xs, k, z, rfl, rfl, hq, he, q⟩ := h
  cases ro
  obtain ⟨t, rfl⟩ := ri
  obtain ⟨its, r, pl, hz⟩ := I.list hq
  obtain ⟨j, h1, h2, h3, h4, h5⟩ := atI_get he
  obtain ⟨w, ew, rw'⟩ := r.get h2
  have hl := r.length
  have hn := line63
  have fin : EP X pins σ Q w s := ⟨z, H, I, rw', q⟩
  by_cases h0 : 0 ≤ k
  · have hj : k.toNat = j := by
      rw [seqIndex_of h0 h5] at h1
      exact Option.some.inj h1
    exact wpAny_getItem_list pl.isList h0 (by omega) (by rw [hj]; simpa using ew) fin
  · have hj : (k + (its.toArray.size : Int)).toNat = j := by
      rw [seqIndex_neg (by omega) h4] at h1
      rw [List.size_toArray, ← hl]
      exact Option.some.inj h1
    exact wpAny_getItem_list_neg pl.isList (by omega) (by rw [List.size_toArray] <;> omega) (by omega) (by rw [hj]; simpa using ew) fin
end
end Lp

end
section
/-! LpB7: slices, turning about. -/
namespace Lp
open PySem PySem.Spec PyProof.Rows L2

/-- a slice of a thing that is alive -/
def rSl (K : PySem.W.Frag) : V → Option Int → Option Int → Hp → VK → Prop := fun x lo hi H Q => ∃ L r z, Own K H L ∧ .it x r ∈ L ∧ slR r lo hi = some z ∧ ∀ v H', Own K H' (.it v z :: L) → Q v H'
/-- an operation on one thing that is alive -/
def rU1 (K : PySem.W.Frag) (f : R → Option R) : V → Hp → VK → Prop := fun x H Q => ∃ L r z, Own K H L ∧ .it x r ∈ L ∧ f r = some z ∧ ∀ v H', Own K H' (.it v z :: L) → Q v H'
theorem cnt_take_drop (y : En) (l : List En) (i n : Nat) : cnt y ((l.drop i).take n) ≤ cnt y l := by
  have h1 := cnt_app y (l.take i) (l.drop i)
  rw [List.take_append_drop] at h1
  have h2 := cnt_app y ((l.drop i).take n) ((l.drop i).drop n)
  rw [List.take_append_drop] at h2
  omega
theorem itz_cut {xs : List V} {l : List D} (e : xs.length = l.length) (lo hi : Option Int) : itz (cutV xs lo hi) (slice l lo hi) = ((itz xs l).drop (HT.sIx l.length 0 lo)).take (HT.sIx l.length l.length hi - HT.sIx l.length 0 lo) := by
  unfold cutV
  rw [slice_eq, e, itz_take, itz_drop]
theorem cut_len {xs : List V} {l : List D} (e : xs.length = l.length) (lo hi : Option Int) : (cutV xs lo hi).length = (slice l lo hi).length := by
  unfold cutV
  rw [slice_eq, List.length_take, List.length_take, List.length_drop, List.length_drop, e]
theorem rev_cnt (y : En) (l : List En) : cnt y l.reverse = cnt y l := cnt_perm l.reverse_perm
/-- a new list of items that are alive -/
theorem Own.newL {K : PySem.W.Frag} {H : Hp} {L L' : List En} {xs : List V} {l : List D} (h : Own K H L) (c : ∀ x, cnt x (itz xs l ++ L') ≤ cnt x L) (e : xs.length = l.length) {p : Addr} (hp : H p = none) : Own K (upd H p (.lst xs)) (.it (.ref p) (.lst l) :: L') :=
  ((h.by c).cap (o := .lst xs) hp).closeL e
theorem Own.newT {K : PySem.W.Frag} {H : Hp} {L L' : List En} {xs : List V} {l : List D} (h : Own K H L) (c : ∀ x, cnt x (itz xs l ++ L') ≤ cnt x L) (e : xs.length = l.length) {p : Addr} (hp : H p = none) : Own K (upd H p (.tup xs)) (.it (.ref p) (.frz (.tup l)) :: L') :=
  ((h.by c).cap (o := .tup xs) hp).closeT e
section
variable {prog : Program} {w : World} {A : Around} {E : Value → Shared → Prop} {s : Shared}
theorem pick_back (xs : Array Value) : ((List.range xs.size).filterMap fun (m : Nat) => xs[(((xs.size : Int) - 1) + (m : Int) * (-1)).toNat]?).toArray = xs.toList.reverse.toArray := by
  have e : (List.range xs.size).filterMap (fun (m : Nat) => xs[(((xs.size : Int) - 1) + (m : Int) * (-1)).toNat]?) = ((List.range xs.size).map fun k => xs.size - 1 - k).filterMap (xs[·]?) := by
    rw [List.filterMap_map]
    congr 1
    funext m
    show xs[(((xs.size : Int) - 1) + (m : Int) * (-1)).toNat]? = xs[xs.size - 1 - m]?
    by_cases hm : (m : Int) ≤ (xs.size : Int) - 1
    · have : (((xs.size : Int) - 1) + (m : Int) * (-1)).toNat = xs.size - 1 - m := by omega
      rw [this]
    · have : (((xs.size : Int) - 1) + (m : Int) * (-1)).toNat = xs.size - 1 - m := by omega
      rw [this]
  rw [e, PySem.W.krv_range, List.filterMap_reverse, PySem.W.krv_all]
theorem applied_back {sl : Addr} {vl vu vs : Value} {n : Nat} {Q : Int × Int × Nat → Shared → Prop} (hs : s.heap.IsSliceOf sl vl vu vs) (pl : IsPart vl none) (pu : IsPart vu none) (ps : IsPart vs (some (-1)))
    (h : Q ((n : Int) - 1, -1, n) s) : wpAny (model prog w) A (Builtin.Slice.sliceApplied (.ref sl) (pure (n : Int))) Q E s := by
  obtain ⟨os, hos, hcs, hds⟩ := id hs
  unfold Builtin.Slice.sliceApplied Builtin.Slice.sliceFields
  refine wpAny_bind (wpAny_bind (wpAny_field hos hds (x := vl) rfl ?_))
  refine wpAny_bind (wpAny_field hos hds (x := vu) rfl ?_)
  refine wpAny_bind (wpAny_field hos hds (x := vs) rfl (wpAny_pure ?_))
  refine wpAny_bind (HT.slicePart_ ps ?_)
  show wpAny _ _ (if ((-1 : Int) == 0) = true then _ else _) _ _ s
  rw [if_neg (by decide)]
  refine wpAny_bind (HT.slicePart_ pl ?_)
  refine wpAny_bind (HT.slicePart_ pu ?_)
  refine wpAny_bind (wpAny_pure ?_)
  have e1 : Builtin.Slice.sliceAdjust none none (-1) (n : Int) = ((n : Int) - 1, -1) := rfl
  have e2 : Builtin.Slice.slicePlaces ((n : Int) - 1) (-1) (-1) = n := by
    unfold Builtin.Slice.slicePlaces
    rw [if_neg (by decide)]
    by_cases hn : (n : Int) - 1 > -1
    · rw [if_pos hn]
      have e : (- -1 : Int) = 1 := by decide
      rw [e, Int.ediv_one]
      omega
    · rw [if_neg hn]
      omega
  show wpAny _ _ (match Builtin.Slice.sliceAdjust none none (-1) (n : Int) with | (lo, hi) => pure (lo, (-1 : Int), Builtin.Slice.slicePlaces lo hi (-1))) _ _ s
  rw [e1]
  show wpAny _ _ (pure ((n : Int) - 1, (-1 : Int), Builtin.Slice.slicePlaces ((n : Int) - 1) (-1) (-1))) _ _ s
  rw [e2]
  exact wpAny_pure h
theorem item_tup_back {t sl : Addr} {items : Array Value} {vl vu vs : Value} {Q : Value → Shared → Prop} (ht : IsTup s.heap t items) (hs : s.heap.IsSliceOf sl vl vu vs) (pl : IsPart vl none) (pu : IsPart vu none) (ps : IsPart vs (some (-1)))
    (h : Q (.ref s.heap.objs.size) { s with heap := s.heap.push { cls := .type "tuple", data := .seq items.toList.reverse.toArray } })
    (hsz : items.size ≤ sizeLine) : wpAny (model prog w) A (getItem (.ref t) (.ref sl)) Q E s := by
  have fits : sizeOk (.seq items.toList.reverse.toArray) := by
    show items.toList.reverse.toArray.size ≤ sizeLine
    rw [List.size_toArray, List.length_reverse, Array.length_toList]
    exact hsz
  obtain ⟨os, hos, hcs, hds⟩ := id hs
  have hTs : s.TypeIs (.ref sl) "slice" := ⟨os, hos, hcs⟩
  unfold getItem
  try with_reducible refine wpAny_holding ?_
  first | refine wpAny_bind (wpAny_pure ?_) | skip
  refine wpAny_bind (wpAny_sequenceKey ht.typeIs (by decide) ?_)
  refine wpAny_bind (wpAny_callSpecial?_slot (name := Str.ofString "__getitem__") ht.typeIs PyProof.Rows.slot_tuple_getitem (wpAny_call_entry PyProof.Rows.slot_tuple_getitem ht.typeIs entry_tuple_getitem ?_ (args_tuple_getitem _ _)))
  show wpAny _ _ (Builtin.Tuple.tupleItemsOf (.ref t) >>= _) _ _ s
  refine wpAny_bind (tupleItemsOf_ ht ?_)
  refine wpAny_bind (wpAny_typeOf hTs ?_)
  rw [if_pos (by decide)]
  refine wpAny_bind (applied_back hs pl pu ps ?_)
  show wpAny _ _ (if ((((items.size : Int) - 1) == 0 && (-1 : Int) == 1) && items.size == items.size) = true then _ else _) _ _ s
  have no : ¬ (((((items.size : Int) - 1) == 0 && (-1 : Int) == 1) && items.size == items.size) = true) := by
    intro q
    rw [Bool.and_eq_true, Bool.and_eq_true] at q
    exact absurd q.1.2 (by decide)
  rw [if_neg no, pick_back]
  first
    | exact wpAny_bind (m := Builtin.Tuple.tupleExact _) (wpAny_newObj_type (wpAny_pure ⟨_, rfl, wpAny_pure h⟩) fits)
    | exact wpAny_bind (m := Builtin.Tuple.tupleExact _) (wpAny_newObj_type (wpAny_bind (wpAny_pure (wpAny_pure ⟨_, rfl, wpAny_pure h⟩))) fits)
    | exact wpAny_bind (wpAny_bind (m := Builtin.Tuple.tupleExact _) (wpAny_newObj_type (wpAny_pure (wpAny_pure ⟨_, rfl, wpAny_pure h⟩)) fits))
    | exact wpAny_bind (wpAny_bind (m := Builtin.Tuple.tupleExact _) (wpAny_newObj_type (wpAny_pure ⟨_, rfl, wpAny_pure h⟩) fits))
theorem str_back (a : List Nat) (u : Tok) : Txt.sliceBy ⟨a.toArray⟩ none none (-1, u) = ⟨a.reverse.toArray⟩ := by
  have h := step_rev_list ⟨a.toArray⟩ u
  have e : (Txt.sliceBy ⟨a.toArray⟩ none none (-1, u)).cps.toList = a.reverse := by
    rw [h, strLen]
    apply List.ext_getElem
    · simp
    · intro i h1 h2
      simp at h1 h2
      simp [List.getElem_reverse, h2]
      have : a.length - 1 - i < a.length := by omega
      simp [this]
  generalize Txt.sliceBy ⟨a.toArray⟩ none none (-1, u) = z at e
  obtain ⟨⟨c⟩⟩ := z
  have e : c = a.reverse := e
  rw [e]
end
section
variable {X : Cx}
theorem op_sl : SlR X (rSl X.K) := by
  intro pins s σ H x v vl vu lo hi sl Q I rx hs pl pu h
  obtain ⟨L, r, z, ow, m1, hz, q⟩ := h
  unfold slR at hz
  split at hz
  · rename_i a
    split at hz
    · rename_i hb
      have ez := Option.some.inj hz
      subst ez
      refine sl_str pins s σ H x v vl vu lo hi sl Q I rx hs pl pu ⟨_, ow.atS m1, by rw [strLen]; exact big_le hb, ?_⟩
      have e : cutS ⟨a.toArray⟩ lo hi = ⟨(slice a lo hi).toArray⟩ := by
        unfold cutS
        rw [slice_eq, strLen]
        all_goals rfl
      rw [e]
      exact q _ H (ow.str _)
    · cases hz
  · rename_i l
    have ez := Option.some.inj hz
    subst ez
    obtain ⟨a, xs, ea, hx, len, ow1⟩ := ow.atT m1
    refine sl_tupA pins s σ H x v vl vu lo hi sl Q I rx hs pl pu ⟨a, xs, ea, .inl hx, fun hw => ?_, fun _ p hp => ?_⟩
    · have e : slice l lo hi = l := by
        rw [slice_eq, ← len, hw.1, hw.2]
        show List.take (xs.length - 0) l = l
        rw [len]
        exact List.take_length
      refine q _ H ?_
      rw [e, ← ea]
      exact ow.dup m1
    · refine q _ _ (ow1.newT (fun y => ?_) (cut_len len lo hi) hp)
      rw [itz_cut len, cnt_app, cnt_app]
      have := cnt_take_drop y (itz xs l) (HT.sIx l.length 0 lo) (HT.sIx l.length l.length hi - HT.sIx l.length 0 lo)
      omega
  · split at hz
    · rename_i l hl
      have ez := Option.some.inj hz
      subst ez
      obtain ⟨a, xs, ea, hx, len, ow1⟩ := ow.atL m1 hl
      refine sl_list pins s σ H x v vl vu lo hi sl Q I rx hs pl pu ⟨a, xs, ea, hx.sqL, fun p hp => ?_⟩
      refine q _ _ (ow1.newL (fun y => ?_) (cut_len len lo hi) hp)
      rw [itz_cut len, cnt_app, cnt_app]
      have := cnt_take_drop y (itz xs l) (HT.sIx l.length 0 lo) (HT.sIx l.length l.length hi - HT.sIx l.length 0 lo)
      omega
    · cases hz
/-- e[::-1] -/
theorem pe_rev {e : Expr} {te : TE} {k : Nat} {p1 p2 p3 pos : Pos} (he : PE X e te) : PE X (.Subscript e (.Slice none none (some (.UnaryOp .USub (.Constant (.int 1) k p1) p2)) p3) pos) (tUn (rU1 X.K revR) te) := by
  refine ⟨fun pins s σ H Q I h => ?_⟩
  refine Subscript_ (thn (he.run pins s σ H _ I h) fun v s1 ⟨x, H1, I1, r1, q1⟩ => ?_)
  obtain ⟨L, r, z, ow, m1, hz, q⟩ := q1
  have hst : PO X (some (.UnaryOp .USub (.Constant (.int 1) k p1) p2)) (tPart (tUn (rU fun i => .int (-i)) (tC (.int 1)))) := po_some (pe_un un_neg pe_int)
  refine wpAny_Slice (thn (po_none.run pins s1 σ H1 (fun o H2 => o = none ∧ H2 = H1) I1 ⟨rfl, rfl⟩) fun vl s2 ⟨l, H2, I2, pl, el, e2⟩ => ?_)
  subst el e2
  refine thn (po_none.run pins s2 σ H2 (fun o H3 => o = none ∧ H3 = H2) I2 ⟨rfl, rfl⟩) fun vu s3 ⟨u, H3, I3, pu, eu, e3⟩ => ?_
  subst eu e3
  refine thn (hst.run pins s3 σ H3 (fun o H4 => o = some (-1) ∧ H4 = H3) I3 ⟨1, rfl, -1, rfl, rfl, rfl⟩) fun vs s4 ⟨o, H4, I4, ps, eo, e4⟩ => ?_
  subst eo e4
  have I5 : Inv X pins σ H4 { s4 with heap := s4.heap.push { cls := .type "slice", data := .fields #[vl, vu, vs] } } := I4.kept (t' := s4.toks) fun b ob q => Heap.get?_push_of_some _ q
  show wpAny (model X.prog X.w) X.A (subscriptTail e (.Slice none none (some (.UnaryOp .USub (.Constant (.int 1) k p1) p2)) p3) v (.ref s4.heap.objs.size)) (EP X pins σ Q) X.xe { s4 with heap := s4.heap.push { cls := .type "slice", data := .fields #[vl, vu, vs] } }
  have hS : { s4 with heap := s4.heap.push { cls := .type "slice", data := .fields #[vl, vu, vs] } }.heap.IsSliceOf s4.heap.objs.size vl vu vs := Heap.IsSliceOf.new _ vl vu vs
  unfold revR at hz
  split at hz
  · rename_i a
    split at hz
    · rename_i hb
      have ez := Option.some.inj hz
      subst ez
      have ex := ow.atS m1
      subst ex
      obtain ⟨t, rfl⟩ := r1
      refine tail_any (ops := [.str ⟨a.toArray⟩ t, .ref s4.heap.objs.size]) (typeIs_str _ _ _) F.slot_str_getitem.lookup ?_ (by with_unfolding_all rfl)
      obtain ⟨lp, el, er⟩ := IsPart.raw pl
      obtain ⟨up, eu, er2⟩ := IsPart.raw pu
      obtain ⟨sp, es, er3⟩ := IsPart.raw ps
      cases lp with
      | some _ => cases er
      | none =>
        cases up with
        | some _ => cases er2
        | none =>
          cases sp with
          | none => cases er3
          | some sp =>
            obtain ⟨i, tk⟩ := sp
            have ei : i = -1 := Option.some.inj er3
            subst ei
            subst el eu es
            refine wpAny_getItem_str_slice (l := none) (u := none) (st := some (-1, tk)) hS rfl ?_
            have e : sliceMade ⟨a.toArray⟩ t none none (some (-1, tk)) = .str (Txt.sliceBy ⟨a.toArray⟩ none none (-1, tk)) := by
              have h1 : ((((some ((-1 : Int), tk)).map (·.1)).getD 1 == 1)) = false := rfl
              unfold sliceMade Txt.sliceBy
              simp [h1]
            rw [e, str_back]
            refine ⟨?_, .str ⟨a.reverse.toArray⟩, H4, I5.tok _, ⟨_, rfl⟩, q _ H4 (ow.str _)⟩
            show (⟨a.reverse.toArray⟩ : Str).length ≤ sizeLine
            rw [strLen, List.length_reverse]
            exact big_le hb
    · cases hz
  · rename_i l
    have ez := Option.some.inj hz
    subst ez
    obtain ⟨a, xs, ea, hx, len, ow1⟩ := ow.atT m1
    subst ea
    cases r1
    obtain ⟨its, rv, ht, hzz⟩ := I5.tuple (.inl hx)
    have hlen := rv.length
    refine tail_any (ops := [.ref a, .ref s4.heap.objs.size]) ht.typeIs PyProof.Rows.slot_tuple_getitem.lookup ?_ (by with_unfolding_all rfl)
    refine item_tup_back ht hS pl pu ps ?_ (by rw [List.size_toArray]; omega)
    refine ⟨.ref _, _, I5.laid (t' := s4.toks) (o := .tup xs.reverse) (fun b ob q => Heap.get?_push_of_some _ q) (Nat.le_refl _) ?_, rfl, q _ _ (ow1.newT (xs := xs.reverse) (l := l.reverse) (fun y => ?_) (by simp [len]) (I5.hok.fresh (Nat.le_refl _)))⟩
    · exact ⟨by rw [List.length_reverse]; exact hzz, its.reverse, rv.reverse, IsTup.new _ _⟩
    · rw [itz_rev len, cnt_app, cnt_app, rev_cnt]
      exact Nat.le_refl _
  · split at hz
    · rename_i l hl
      have ez := Option.some.inj hz
      subst ez
      obtain ⟨a, xs, ea, hx, len, ow1⟩ := ow.atL m1 hl
      subst ea
      cases r1
      obtain ⟨its, rv, ht, hzz⟩ := I5.list hx.sqL
      have hlen := rv.length
      refine tail_any (ops := [.ref a, .ref s4.heap.objs.size]) ht.isList.typeIs PySem.slot_list_getitem.lookup ?_ (by with_unfolding_all rfl)
      refine wpAny_getItem_list_slice ht.isList hS pl pu ps (by decide) ?_ (by rw [List.size_toArray]; omega)
      rw [PySem.W.krv_pick]
      refine ⟨.ref _, _, I5.laid (t' := s4.toks) (o := .lst xs.reverse) (fun b ob q => Heap.get?_push_of_some _ q) (Nat.le_refl _) ?_, rfl, q _ _ (ow1.newL (xs := xs.reverse) (l := l.reverse) (fun y => ?_) (by simp [len]) (I5.hok.fresh (Nat.le_refl _)))⟩
      · exact ⟨by rw [List.length_reverse]; exact hzz, _, 0, rv.reverse, Heap.get?_push_size _ rfl⟩
      · rw [itz_rev len, cnt_app, cnt_app, rev_cnt]
        exact Nat.le_refl _
    · cases hz
end
end Lp

end
section
/-! LpB8: built-in functions, methods, stores, by values. -/
namespace Lp
open PySem PySem.Spec PyProof.Rows L2
/-- a built-in function of things that are alive -/
def rC (K : PySem.W.Frag) (f : List R → Option R) : List V → Hp → VK → Prop := fun xs H Q => ∃ L rs z, Own K H L ∧ xs.length = rs.length ∧ (∀ e ∈ itr xs rs, e ∈ L) ∧ f rs = some z ∧ ∀ v H', Own K H' (.it v z :: L) → Q v H'
section
variable {K : PySem.W.Frag} {F H : Hp} {m : List Addr}
theorem ints_of : ∀ {vs : List V} {l : List D} {is : List Int}, DrL K F m vs l → ints? l = some is → vs = is.map V.int
  | _, _, _, .nil, e => by
    cases e
    rfl
  | _, _, _, .cons (d := d) (ds := ds) h t, e => by
    cases h with
    | int i =>
      simp only [ints?, Option.map_eq_some_iff] at e
      obtain ⟨r, h1, rfl⟩ := e
      rw [ints_of t h1]
      rfl
    | _ => simp [ints?] at e
theorem bls_of : ∀ {vs : List V} {l : List D} {bs : List Bool}, DrL K F m vs l → bls? l = some bs → vs = bs.map V.bl
  | _, _, _, .nil, e => by
    cases e
    rfl
  | _, _, _, .cons (d := d) (ds := ds) h t, e => by
    cases h with
    | bl i =>
      simp only [bls?, Option.map_eq_some_iff] at e
      obtain ⟨r, h1, rfl⟩ := e
      rw [bls_of t h1]
      rfl
    | _ => simp [bls?] at e
theorem DrK.len : ∀ {ks : List (L2.Key × V)} {l : List (D × D)}, DrK K F m ks l → ks.length = l.length
  | _, _, .nil => rfl
  | _, _, .cons _ _ t => congrArg (· + 1) t.len
end
theorem Own.itzAll {K : PySem.W.Frag} {H : Hp} {L : List En} {xs : List V} {l : List D} (h : Own K H (itz xs l ++ L)) (e : xs.length = l.length) : ∃ F m, DrL K F m xs l := by
  obtain ⟨F, m, fp, e0, k, nd, z⟩ := h
  obtain ⟨f1, f2, rfl, q1, q2⟩ := k.split
  exact ⟨F, m, (Own.of_itz e q1).2⟩
/-- the items, without being owned -/
theorem Own.raw {K : PySem.W.Frag} {H : Hp} {L : List En} {v : V} {r : R} (h : Own K H L) (hm : .it v r ∈ L) :
    (∀ l, r.d = .lst l → ∃ a xs, v = .ref a ∧ SqX K H a xs ∧ xs.length = l.length) ∧ (∀ l, r.d = .tup l → ∃ a xs, v = .ref a ∧ Rd H a (.tup xs) ∧ xs.length = l.length) ∧
    (∀ l, r.d = .dic l → ∃ a ks, v = .ref a ∧ Rd H a (.dK ks) ∧ ks.length = l.length) := by
  have lenL : ∀ {rs : List R}, (R.dL rs).length = rs.length := by
    intro rs
    induction rs with
    | nil => rfl
    | cons _ _ ih =>
      simp only [R.dL, List.length_cons, ih]
  obtain ⟨F, m, fp, e, k⟩ := h.rvAt hm
  refine ⟨fun l q => ?_, fun l q => ?_, fun l q => ?_⟩ <;> cases k <;> rename_i k
  · have q : _ = D.lst l := q
    subst q
    cases k with
    | lst s t => exact ⟨_, _, rfl, sqx_mono e s, t.len⟩
  · have q : D.lst _ = D.lst l := q
    cases q
    exact ⟨_, _, rfl, .inl (.inl (by assumption)), k.len⟩
  · simp [R.d] at q
  · simp [R.d] at q
  · cases q
  · have q : _ = D.tup l := q
    subst q
    cases k with
    | tup s t => exact ⟨_, _, rfl, rd_mono e s, t.len⟩
  · simp [R.d] at q
  · simp [R.d] at q
  · simp only [R.d] at q
    cases q
    exact ⟨_, _, rfl, .inl (by assumption), k.len.trans lenL.symm⟩
  · cases q
  · have q : _ = D.dic l := q
    subst q
    cases k with
    | dic s t => exact ⟨_, _, rfl, rd_mono e s, t.len⟩
  · simp [R.d] at q
  · have q : D.dic _ = D.dic l := q
    cases q
    exact ⟨_, _, rfl, .inl (by assumption), k.len⟩
  · simp [R.d] at q
  · cases q
def bool3 (b : Bool) : R := .frz (.bl b)
def tyN : Ty → String
  | .int => "int" | .bool => "bool" | .str => "str" | .tuple => "tuple" | .list => "list" | .dict => "dict"
def dTy : D → String
  | .non => "NoneType" | .bl _ => "bool" | .int _ => "int" | .str _ => "str" | .tup _ => "tuple" | .lst _ => "list" | .dic _ => "dict" | .hd _ => "" | .obj _ _ => "" | .exc _ _ => ""
theorem kit_at (t : Ty) (d : D) (h : isiOk d = true) : kitB (dTy d) (tyN t) = some (isT t d) := by
  cases d <;> cases t <;> first | (cases h; done) | (simp only [dTy, tyN, isT]; decide +kernel)
/-- what isinstance asks of a value -/
theorem Own.ty {K : PySem.W.Frag} {H : Hp} {L : List En} {v : V} {r : R} (h : Own K H L) (hm : .it v r ∈ L) (q : isiOk r.d = true) : TyX K H v (.type (dTy r.d)) := by
  obtain ⟨h1, h2, h3⟩ := h.raw hm
  have viaL : ∀ l, r.d = .lst l → TyX K H v (.type (dTy r.d)) := fun l e => by
    obtain ⟨a, xs, rfl, s, _⟩ := h1 l e
    rw [e]
    rcases s with (s | ⟨o, s⟩) | ⟨its, n, s, _⟩
    · exact .base (.lst s)
    · exact .base (.frz s)
    · exact .kList s rfl
  have viaT : ∀ l, r.d = .tup l → TyX K H v (.type (dTy r.d)) := fun l e => by
    obtain ⟨a, xs, rfl, s, _⟩ := h2 l e
    rw [e]
    rcases s with s | ⟨o, s⟩
    · exact .base (.tup s)
    · exact .fTuple s
  have viaD : ∀ l, r.d = .dic l → TyX K H v (.type (dTy r.d)) := fun l e => by
    obtain ⟨a, xs, rfl, s, _⟩ := h3 l e
    rw [e]
    rcases s with s | ⟨o, s⟩
    · exact .base (.dK s)
    · exact .fDict s
  cases ed : r.d with
  | lst l =>
    rw [← ed]
    exact viaL l ed
  | tup l =>
    rw [← ed]
    exact viaT l ed
  | dic l =>
    rw [← ed]
    exact viaD l ed
  | hd k =>
    rw [ed] at q
    cases q
  | obj _ _ =>
    rw [ed] at q
    cases q
  | exc _ _ =>
    rw [ed] at q
    cases q
  | non =>
    rw [R.d_non ed] at hm
    cases h.atN hm
    exact .base .non
  | bl b =>
    rw [R.d_bl ed] at hm
    cases h.atB hm
    exact .base (.bl b)
  | int i =>
    rw [R.d_int ed] at hm
    cases h.atI hm
    exact .base (.int i)
  | str z =>
    rw [R.d_str ed] at hm
    cases h.atS hm
    exact .base (.str _)
section
variable {X : Cx}
/-- a function of one thing -/
theorem cOne {g : Value} {f : R → Option R} (h : ∀ (pins : List (Addr × Obj)) (s : Shared) (σ : L2.St) (H : Hp) (x : V) (us : List Value) (Q : VK), Inv X pins σ H s → Vals [x] us → rU1 X.K f x H Q → wpAny (model X.prog X.w) X.A (call g us) (EP X pins σ Q) X.xe s) : CallR X g (rC X.K (bi1 f)) := by
  intro pins s σ H xs us Q I rv hr
  obtain ⟨L, rs, z, ow, e, hs, hz, q⟩ := hr
  match rs, xs, e, hs, hz with
  | [r], [x], _, hs, hz => exact h pins s σ H x us Q I rv ⟨L, r, z, ow, hs _ List.mem_cons_self, hz, q⟩
  | [], _, _, _, hz => cases hz
  | _ :: _ :: _, _, _, _, hz => cases hz
theorem cTwo {g : Value} {f : R → R → Option R} (h : ∀ (pins : List (Addr × Obj)) (s : Shared) (σ : L2.St) (H : Hp) (x y : V) (us : List Value) (Q : VK), Inv X pins σ H s → Vals [x, y] us → rB X.K f x y H Q → wpAny (model X.prog X.w) X.A (call g us) (EP X pins σ Q) X.xe s) : CallR X g (rC X.K (bi2 f)) := by
  intro pins s σ H xs us Q I rv hr
  obtain ⟨L, rs, z, ow, e, hs, hz, q⟩ := hr
  match rs, xs, e, hs, hz with
  | [r, t], [x, y], _, hs, hz => exact h pins s σ H x y us Q I rv ⟨L, r, t, z, ow, hs _ List.mem_cons_self, hs _ (List.mem_cons_of_mem _ List.mem_cons_self), hz, q⟩
  | [], _, _, _, hz => cases hz
  | [_], _, _, _, hz => cases hz
  | _ :: _ :: _ :: _, _, _, _, hz => cases hz
theorem c_len : CallR X (.builtin "len") (rC X.K (bi1 lenR)) := cOne fun pins s σ H x us Q I rv h => by
  obtain ⟨L, r, z, ow, hm, hz, q⟩ := h
  obtain ⟨n, hn, ez⟩ := Option.map_eq_some_iff.mp hz
  subst ez
  have fin : Q (.int n) H := q _ H (ow.int n)
  obtain ⟨h1, h2, h3⟩ := ow.raw hm
  cases ed : r.d with
  | str a =>
    rw [ed] at hn
    unfold lenD at hn
    simp only at hn
    split at hn
    · rename_i hb
      have e := Option.some.inj hn
      rw [R.d_str ed] at hm
      cases ow.atS hm
      refine call_len pins s σ H _ us Q I rv ⟨_, n, rfl, ⟨by rw [strLen]; exact big_le hb, by rw [strLen]; exact e.symm⟩, fin⟩
    · cases hn
  | tup l =>
    rw [ed] at hn
    cases hn
    obtain ⟨a, xs, rfl, s', le⟩ := h2 l ed
    exact call_len pins s σ H _ us Q I rv ⟨_, l.length, rfl, .inr ⟨xs, .inl s', le.symm⟩, fin⟩
  | lst l =>
    rw [ed] at hn
    cases hn
    obtain ⟨a, xs, rfl, s', le⟩ := h1 l ed
    exact call_len pins s σ H _ us Q I rv ⟨_, l.length, rfl, .inl ⟨xs, s'.sqL, le.symm⟩, fin⟩
  | dic l =>
    rw [ed] at hn
    cases hn
    obtain ⟨a, ks, rfl, s', le⟩ := h3 l ed
    obtain ⟨u, rfl, ru⟩ := vals1 rv
    cases ru
    rw [← le] at fin
    exact d_len I s' fun t s2 I2 => ⟨.int ks.length, H, I2, ⟨t, rfl⟩, fin⟩
  | _ =>
    rw [ed] at hn
    cases hn
theorem c_all (hc : X.calm = true) : CallR X (.builtin "all") (rC X.K (bi1 allR)) := cOne fun pins s σ H x us Q I rv h => by
  obtain ⟨L, r, z, ow, hm, hz, q⟩ := h
  unfold allR at hz
  split at hz
  · rename_i l hl
    obtain ⟨bs, hb, ez⟩ := Option.map_eq_some_iff.mp hz
    subst ez
    obtain ⟨a, xs, rfl, sx, len, ow1⟩ := ow.atL hm hl
    obtain ⟨F, m, t⟩ := ow1.itzAll len
    have e := bls_of t hb
    subst e
    exact cr_all hc pins s σ H _ us Q I rv ⟨a, bs, rfl, sx.sqL, q _ H (ow.bl _)⟩
  · cases hz
theorem sum_tup {prog : Program} {w : World} {A : Around} {E : Value → Shared → Prop} {s : Shared} {l : Addr} {its : List Value} {ns : List Int} {Q : Value → Shared → Prop} (hh : A.handled = none) (hl : IsTup s.heap l its.toArray) (hi : IntsAre its ns)
    (h : ∀ h' tk t', (∀ b o, s.heap.get? b = some o → h'.get? b = some o) → Q (.int ns.sum t') { s with heap := h', toks := tk }) : wpAny (model prog w) A (call (.builtin "sum") [.ref l]) Q E s := by
  obtain ⟨xs, e⟩ := hi.allInts.items
  have hn : numsOf (intItems xs).toList = ns := by rw [← e]; exact hi.numsOf
  rw [nums_intItems] at hn
  rw [e] at hl
  have hT : s.heap.IsTuple l (intItems xs) := hl
  have hlt : l < s.heap.objs.size := hl.lt
  refine call_sum_walkG (wpAny_pyIter_tuple hT ?_)
  refine ⟨_, _, _, _, _, _, numAt xs, rfl, Walks.tuple (A := A.in1) hh _ l (Nat.ne_of_lt hlt) (intItems xs), ⟨⟨_, Heap.get?_push_size _ rfl, rfl, rfl⟩, hT.push _⟩, ?_, (fun _ _ => intItems_at), fun h' tk t' hk => ?_⟩
  · intro b hb
    simp only [List.mem_cons, List.not_mem_nil, or_false] at hb
    rw [Heap.size_push]
    rcases hb with e | e
    · rw [e]
      exact Nat.lt_succ_self _
    · rw [e]
      exact Nat.lt_succ_of_lt hlt
  · have := h h' tk t' fun b o e => hk b o (fun hb => by
      simp only [List.mem_cons, List.not_mem_nil, or_false] at hb
      subst hb
      exact absurd (Heap.lt_size e) (Nat.lt_irrefl _)) (Heap.get?_push_of_some _ e)
    have e2 : preSum (numAt xs) (intItems xs).size = ns.sum := by
      rw [preSum_eq, List.take_of_length_le (by simp [intItems]), hn]
    rw [e2]
    exact this
theorem c_sum (hc : X.calm = true) : CallR X (.builtin "sum") (rC X.K (bi1 sumR)) := cOne fun pins s σ H x us Q I rv h => by
  obtain ⟨L, r, z, ow, hm, hz, q⟩ := h
  unfold sumR at hz
  split at hz
  · rename_i l hl
    obtain ⟨bs, hb, ez⟩ := Option.map_eq_some_iff.mp hz
    subst ez
    obtain ⟨a, xs, rfl, sx, len, ow1⟩ := ow.atIt hm hl
    obtain ⟨F, m, t⟩ := ow1.itzAll len
    have e := ints_of t hb
    subst e
    rcases sx with sx | sx
    · exact cr_sum hc pins s σ H _ us Q I rv ⟨a, bs, rfl, sx.sqL, q _ H (ow.int _)⟩
    · obtain ⟨u, rfl, ru⟩ := vals1 rv
      cases ru
      obtain ⟨its, rr, pl, hz⟩ := I.tuple (.inl sx)
      exact sum_tup (I.ok.hd hc) pl (intsAre_of rr) fun h' tk t' hk => ⟨.int _, H, I.kept hk, ⟨_, rfl⟩, q _ H (ow.int _)⟩
  · cases hz
theorem c_max2 (hc : X.calm = true) : CallR X (.builtin "max") (rC X.K (bi2 max2)) := cTwo fun pins s σ H x y us Q I rv h => by
  obtain ⟨L, r, t, z, ow, m1, m2, hz, q⟩ := h
  unfold max2 at hz
  split at hz
  · cases hz
    exact call_max2 hc pins s σ H _ us Q I rv ⟨_, _, by rw [ow.atI m1, ow.atI m2], q _ H (ow.int _)⟩
  · cases hz
theorem c_min2 (hc : X.calm = true) : CallR X (.builtin "min") (rC X.K (bi2 min2)) := cTwo fun pins s σ H x y us Q I rv h => by
  obtain ⟨L, r, t, z, ow, m1, m2, hz, q⟩ := h
  unfold min2 at hz
  split at hz
  · cases hz
    exact call_min2 hc pins s σ H _ us Q I rv ⟨_, _, by rw [ow.atI m1, ow.atI m2], q _ H (ow.int _)⟩
  · cases hz
theorem maxL_is : ∀ (is : List Int) (i : Int), maxL i is ∈ i :: is ∧ ∀ y ∈ i :: is, y ≤ maxL i is
  | [], i => ⟨List.mem_cons_self, fun y hy => by
    rw [List.mem_singleton] at hy
    subst hy
    exact Int.le_refl _⟩
  | x :: r, i => by
    obtain ⟨h1, h2⟩ := maxL_is r (if x > i then x else i)
    show maxL (if x > i then x else i) r ∈ _ ∧ _
    by_cases hx : x > i
    · rw [if_pos hx] at h1 h2 ⊢
      refine ⟨List.mem_cons_of_mem _ h1, fun y hy => ?_⟩
      show y ≤ maxL (if x > i then x else i) r
      rw [if_pos hx]
      rcases List.mem_cons.mp hy with rfl | hy
      · have := h2 x List.mem_cons_self
        omega
      · exact h2 y hy
    · rw [if_neg hx] at h1 h2 ⊢
      refine ⟨?_, fun y hy => ?_⟩
      · rcases List.mem_cons.mp h1 with h | h
        · rw [h]
          exact List.mem_cons_self
        · exact List.mem_cons_of_mem _ (List.mem_cons_of_mem _ h)
      · show y ≤ maxL (if x > i then x else i) r
        rw [if_neg hx]
        rcases List.mem_cons.mp hy with rfl | hy
        · exact h2 y List.mem_cons_self
        · rcases List.mem_cons.mp hy with rfl | hy
          · have := h2 i List.mem_cons_self
            omega
          · exact h2 y (List.mem_cons_of_mem _ hy)
theorem minL_is : ∀ (is : List Int) (i : Int), minL i is ∈ i :: is ∧ ∀ y ∈ i :: is, minL i is ≤ y
  | [], i => ⟨List.mem_cons_self, fun y hy => by
    rw [List.mem_singleton] at hy
    subst hy
    exact Int.le_refl _⟩
  | x :: r, i => by
    obtain ⟨h1, h2⟩ := minL_is r (if x < i then x else i)
    show minL (if x < i then x else i) r ∈ _ ∧ _
    by_cases hx : x < i
    · rw [if_pos hx] at h1 h2 ⊢
      refine ⟨List.mem_cons_of_mem _ h1, fun y hy => ?_⟩
      show minL (if x < i then x else i) r ≤ y
      rw [if_pos hx]
      rcases List.mem_cons.mp hy with rfl | hy
      · have := h2 x List.mem_cons_self
        omega
      · exact h2 y hy
    · rw [if_neg hx] at h1 h2 ⊢
      refine ⟨?_, fun y hy => ?_⟩
      · rcases List.mem_cons.mp h1 with h | h
        · rw [h]
          exact List.mem_cons_self
        · exact List.mem_cons_of_mem _ (List.mem_cons_of_mem _ h)
      · show minL (if x < i then x else i) r ≤ y
        rw [if_neg hx]
        rcases List.mem_cons.mp hy with rfl | hy
        · exact h2 y List.mem_cons_self
        · rcases List.mem_cons.mp hy with rfl | hy
          · have := h2 i List.mem_cons_self
            omega
          · exact h2 y (List.mem_cons_of_mem _ hy)
theorem c_tuple : CallR X (.type "tuple") (rC X.K (bi1 tupOf)) := cOne fun pins s σ H x us Q I rv h => by
  obtain ⟨L, r, z, ow, hm, hz, q⟩ := h
  obtain ⟨l, hl, ez⟩ := Option.map_eq_some_iff.mp hz
  subst ez
  obtain ⟨a, xs, ea, sx, len, ow1⟩ := ow.atIt hm hl
  subst ea
  rcases sx with sx | sx
  · exact call_tuple_of pins s σ H _ us Q I rv ⟨a, xs, rfl, .inl ⟨sx.sqL, fun p hp => q _ _ (ow1.newT (fun _ => Nat.le_refl _) len hp)⟩⟩
  · refine call_tuple_of pins s σ H _ us Q I rv ⟨a, xs, rfl, .inr ⟨.inl sx, q _ H ?_⟩⟩
    cases r with
    | frz d =>
      cases d with
      | tup l' =>
        cases hl
        exact ow.dup hm
      | lst l' =>
        obtain ⟨F, m, fp, e, k⟩ := ow.rvAt hm
        cases k with
        | frz k =>
          cases k with
          | lst k1 _ =>
            exfalso
            obtain ⟨_, its, _, _, _, g1⟩ := inv_exact I (sqx_mono e k1)
            obtain ⟨its2, _, ⟨o, g2, g3, _⟩, _⟩ := I.tuple (.inl sx)
            rw [g1] at g2
            cases g2
            exact absurd (Value.type.inj g3) (by decide)
      | _ => cases hl
    | lst l' =>
      obtain ⟨F, m, fp, e, k⟩ := ow.rvAt hm
      cases k with
      | lst k1 _ =>
        exfalso
        obtain ⟨_, its, _, _, _, g1⟩ := inv_exact I (show SqX X.K H _ _ from .inl (.inl k1))
        obtain ⟨its2, _, ⟨o, g2, g3, _⟩, _⟩ := I.tuple (.inl sx)
        rw [g1] at g2
        cases g2
        exact absurd (Value.type.inj g3) (by decide)
    | _ => cases hl
theorem c_list : CallR X (.type "list") (rC X.K (bi1 lstOf)) := cOne fun pins s σ H x us Q I rv h => by
  obtain ⟨L, r, z, ow, hm, hz, q⟩ := h
  obtain ⟨l, hl, ez⟩ := Option.map_eq_some_iff.mp hz
  subst ez
  obtain ⟨a, xs, ea, sx, len, ow1⟩ := ow.atIt hm hl
  subst ea
  exact call_list_of pins s σ H _ us Q I rv ⟨a, xs, rfl, sx.imp (fun k => k.sqL) (fun k => .inl k), fun p hp => q _ _ (ow1.newL (fun _ => Nat.le_refl _) len hp)⟩
theorem c_int : CallR X (.type "int") (rC X.K (bi1 intOf)) := cOne fun pins s σ H x us Q I rv h => by
  obtain ⟨L, r, z, ow, hm, hz, q⟩ := h
  unfold intOf at hz
  split at hz
  · cases hz
    cases ow.atB hm
    exact call_int1 pins s σ H _ us Q I rv (.inr ⟨_, rfl, q _ H (ow.int _)⟩)
  · cases hz
    cases ow.atI hm
    exact call_int1 pins s σ H _ us Q I rv (.inl ⟨_, rfl, q _ H (ow.int _)⟩)
  · cases hz
theorem divp_small {i j : Int} (h : 0 < j) (h3 : j.natAbs < 2 ^ 250) : CDivP i j := by
  have h2 : j < 2 ^ 250 := by omega
  refine ⟨h, ?_⟩
  show (decide ((if j == 0 then 0 else j.natAbs.log2 / 30 + 1) > 300) && _) = false
  have hl : j.natAbs.log2 < 250 := (Nat.log2_lt (by omega)).mpr (by omega)
  have : ¬ (if j == 0 then 0 else j.natAbs.log2 / 30 + 1) > 300 := by
    split <;> omega
  rw [decide_eq_false this, Bool.false_and]
theorem c_divmod : CallR X (.builtin "divmod") (rC X.K (bi2 divR)) := cTwo fun pins s σ H x y us Q I rv h => by
  obtain ⟨L, r, t, z, ow, m1, m2, hz, q⟩ := h
  unfold divR at hz
  split at hz
  · rename_i i j
    split at hz
    · rename_i hb
      have ez := Option.some.inj hz
      subst ez
      refine call_divmodW pins s σ H _ us Q I rv ⟨i, j, by rw [ow.atI m1, ow.atI m2], divp_small hb.1 hb.2, fun p hp => q _ _ ?_⟩
      exact ((ow.int (i % j)).int (i / j)).newT (xs := [.int (i / j), .int (i % j)]) (l := [.int (i / j), .int (i % j)]) (fun _ => Nat.le_refl _) rfl hp
    · cases hz
  · cases hz

/-! ### methods that change their list -/
def Mt.nm : Mt → String
  | .append => "append" | .pop => "pop" | .extend => "extend" | .reverse => "reverse" | .clear => "clear" | .count => "count" | .index => "index" | .join => "join" | .split => "split" | .get => "get" | .items => "items" | .update => "update" | .upper => "upper"
/-- x.m(xs), x an own list -/
def rM (K : PySem.W.Frag) (m : Mt) : V → List V → Hp → VK → Prop := fun x xs H Q => ∃ L l ds d l', Own K H (.it x (.lst l) :: (itz xs ds ++ L)) ∧ xs.length = ds.length ∧ mtOwn m l ds = some (d, l') ∧ ∀ v H', Own K H' (.it v (.frz d) :: .it x (.lst l') :: L) → Q v H'
theorem own_putL {K : PySem.W.Frag} {H : Hp} {L L' : List En} {a : Addr} {o : HO} {xs : List V} {l : List D} (h : Own K H (.cap a o :: L)) (c : ∀ x, cnt x (itz xs l ++ L') ≤ cnt x L) (e : xs.length = l.length) : Own K (upd H a (.lst xs)) (.it (.ref a) (.lst l) :: L') :=
  ((h.put (o' := .lst xs)).by (L' := .cap a (.lst xs) :: (itz xs l ++ L')) fun x => by
    have := c x
    simp only [cnt_cons, cnt_app] at this ⊢
    omega).closeL e
theorem m_append : MtR X "list.append" (rM X.K .append) := by
  intro pins s σ H x xs v us Q I rx rv h
  obtain ⟨L, l, ds, d, l', ow, le, hz, q⟩ := h
  match ds, xs, le, ow, hz with
  | [e], [y], _, ow, hz =>
    unfold mtOwn at hz
    simp only at hz
    split at hz
    · rename_i hb
      have ez := Option.some.inj hz
      cases ez
      obtain ⟨a, zs, rfl, ha, len, ow1⟩ := ow.openL
      refine mt_append pins s σ H _ _ v us Q I rx rv ⟨a, zs, y, rfl, rfl, ha, by rw [len]; exact big_lt hb, q _ _ ?_⟩
      refine Own.non (own_putL ow1 (fun z => ?_) (by simp [len]))
      rw [itz_app len, cnt_app, cnt_app, cnt_app, cnt_app]
      show _ + cnt z [_] + _ ≤ _ + (cnt z [_] + _)
      omega
    · cases hz
  | [], _, _, _, hz => cases hz
  | _ :: _ :: _, _, _, _, hz => cases hz
theorem m_pop : MtR X "list.pop" (rM X.K .pop) := by
  intro pins s σ H x xs v us Q I rx rv h
  obtain ⟨L, l, ds, d, l', ow, le, hz, q⟩ := h
  match ds, xs, le, ow, hz with
  | [], [], _, ow, hz =>
    unfold mtOwn at hz
    simp only at hz
    split at hz
    · rename_i d0 hd
      have ez := Option.some.inj hz
      cases ez
      obtain ⟨a, zs, rfl, ha, len, ow1⟩ := ow.openL
      rw [List.getLast?_eq_getElem?] at hd
      obtain ⟨y, hy, my⟩ := Own.mem_itz len hd
      refine mt_pop pins s σ H _ _ v us Q I rx rv ⟨a, zs, y, rfl, rfl, ha, by rw [len]; exact hy, q _ _ ?_⟩
      have ow2 := (ow1.dup (v := y) (d := d) (List.mem_cons_of_mem _ (List.mem_append_left _ my))).by (L' := .cap a (.lst zs) :: (.it y (.frz d) :: (itz zs l ++ L))) fun z => by
        simp only [cnt_cons, cnt_app, itz, cnt_nil]
        omega
      refine ((own_putL (L' := .it y (.frz d) :: L) (xs := zs.dropLast) (l := l.dropLast) ow2 (fun z => ?_) (by simp [len]))).by fun z => ?_
      · have : cnt z (itz zs.dropLast l.dropLast) ≤ cnt z (itz zs l) := by
          rw [List.dropLast_eq_take, List.dropLast_eq_take, len, itz_take]
          have := cnt_take_drop z (itz zs l) 0 (l.length - 1)
          simpa using this
        simp only [cnt_cons, cnt_app]
        omega
      · simp only [cnt_cons, cnt_app]
        omega
    · cases hz
  | [.int i], [y0], _, ow, hz =>
    unfold mtOwn at hz
    simp only at hz
    split at hz
    · rename_i k hk
      split at hz
      · rename_i d0 hd
        have ez := Option.some.inj hz
        cases ez
        have ey : y0 = .int i := ow.atI (List.mem_cons_of_mem _ List.mem_cons_self)
        subst ey
        obtain ⟨a, zs, rfl, ha, len, ow1⟩ := ow.openL
        obtain ⟨y, hy, my⟩ := Own.mem_itz len hd
        obtain ⟨g1, g2, g3, g4⟩ := ixN_seq hk
        obtain ⟨zl, _⟩ := I.hok a _ ha
        have big := line63
        have small : l.length ≤ sizeLine := by rw [← len]; exact zl
        refine mt_popAt pins s σ H _ _ v us Q I rx rv ⟨a, zs, i, k, y, rfl, rfl, ha, by omega, by omega, by rw [len]; exact g1, hy, q _ _ ?_⟩
        have ow2 := (ow1.dup (v := y) (d := d) (List.mem_cons_of_mem _ (List.mem_append_left _ my))).by (L' := .cap a (.lst zs) :: (.it y (.frz d) :: (itz zs l ++ L))) fun z => by
          simp only [cnt_cons, cnt_app, itz, cnt_nil]
          omega
        refine ((own_putL (L' := .it y (.frz d) :: L) (xs := zs.eraseIdx k) (l := l.eraseIdx k) ow2 (fun z => ?_) (by rw [List.length_eraseIdx, List.length_eraseIdx, len]))).by fun z => ?_
        · have : ∀ (zs : List V) (l : List D) (k : Nat), zs.length = l.length → cnt z (itz (zs.eraseIdx k) (l.eraseIdx k)) ≤ cnt z (itz zs l) := by
            intro zs
            induction zs with
            | nil =>
              intro l k e
              cases l with
              | nil => exact Nat.le_refl _
              | cons _ _ => cases e
            | cons w zs ih =>
              intro l k e
              cases l with
              | nil => cases e
              | cons d l =>
                cases k with
                | zero =>
                  show cnt z (itz zs l) ≤ one z _ + cnt z (itz zs l)
                  omega
                | succ k =>
                  have := ih l k (Nat.succ.inj e)
                  show one z _ + cnt z (itz (zs.eraseIdx k) (l.eraseIdx k)) ≤ one z _ + cnt z (itz zs l)
                  omega
          have := this zs l k len
          simp only [cnt_cons, cnt_app]
          omega
        · simp only [cnt_cons, cnt_app]
          omega
      · cases hz
    · cases hz
  | _ :: _ :: _, _, _, _, hz => simp [mtOwn] at hz
  | [.non], _, _, _, hz => cases hz
  | [.bl _], _, _, _, hz => cases hz
  | [.str _], _, _, _, hz => cases hz
  | [.tup _], _, _, _, hz => cases hz
  | [.lst _], _, _, _, hz => cases hz
  | [.dic _], _, _, _, hz => cases hz
  | [.hd _], _, _, _, hz => cases hz
  | [.obj _ _], _, _, _, hz => cases hz
  | [.exc _ _], _, _, _, hz => cases hz
theorem bools_of : ∀ {l : List D}, l.all D.isB = true → ∃ bs : List Bool, l = bs.map D.bl
  | [], _ => ⟨[], rfl⟩
  | d :: l, h => by
    rw [List.all_cons, Bool.and_eq_true] at h
    obtain ⟨bs, e⟩ := bools_of h.2
    cases d with
    | bl b => exact ⟨b :: bs, by rw [e]; rfl⟩
    | _ => cases h.1
theorem own_bools {K : PySem.W.Frag} {H : Hp} {L : List En} : ∀ {bs : List Bool} {zs : List V}, Own K H (itz zs (bs.map D.bl) ++ L) → zs.length = bs.length → zs = bs.map V.bl
  | [], [], _, _ => rfl
  | b :: bs, z :: zs, ow, e => by
    have e1 : z = .bl b := ow.atB List.mem_cons_self
    rw [e1, own_bools (bs := bs) (zs := zs) ow.tail (Nat.succ.inj e)]
    rfl
  | [], _ :: _, _, e => nomatch e
  | _ :: _, [], _, e => nomatch e
theorem vals_bools : ∀ {bs : List Bool} {us : List Value}, Vals (bs.map V.bl) us → us = bs.map Value.bool
  | [], _, .nil => rfl
  | b :: bs, _, .cons r t => by
    rw [vals_bools t]
    exact congrArg (· :: bs.map Value.bool) r
theorem count_bools (k : Bool) (bs : List Bool) : (bs.map Value.bool).countP (isBoolOf k) = (bs.map D.bl).countP (D.isBl k) := by
  rw [List.countP_map, List.countP_map]
  rfl
theorem m_count : MtR X "list.count" (rM X.K .count) := by
  intro pins s σ H x xs v us Q I rx rxs h
  obtain ⟨L, l, ds, d, l', ow, le, hz, q⟩ := h
  match ds, xs, le, ow, hz with
  | [], _, _, _, hz => cases hz
  | _ :: _ :: _, _, _, _, hz => simp [mtOwn] at hz
  | [.bl k], [y], _, ow, hz =>
    unfold mtOwn at hz
    simp only at hz
    split at hz
    · rename_i hb
      have ez := Option.some.inj hz
      cases ez
      have ey : y = .bl k := ow.atB (List.mem_cons_of_mem _ List.mem_cons_self)
      subst ey
      obtain ⟨bs, el⟩ := bools_of hb
      subst el
      obtain ⟨a, zs, ex, ha, len, ow1⟩ := ow.openL
      have ezs := own_bools (L := .it (.bl k) (.frz (.bl k)) :: L) (bs := bs) (zs := zs) (Own.by (L := .cap a (.lst zs) :: (itz zs (bs.map D.bl) ++ ([.it (.bl k) (.frz (.bl k))] ++ L))) ow1 fun z => by
        simp only [cnt_cons, cnt_app, cnt_nil]
        omega) (by rw [len, List.length_map])
      subst ezs
      subst ex
      cases rx
      obtain ⟨u, rfl, ru⟩ := rxs.one
      cases (show u = Value.bool k from ru)
      obtain ⟨its, rv, ⟨⟨cls, dd, data, sl⟩, n, ho, hc, hdn, hd⟩, hlen⟩ := I.list (xs := bs.map V.bl) (.inl (.inl ha))
      simp only at hc hd
      subst hc hd
      have ei := vals_bools rv
      subst ei
      refine call_meets PySem.F.slot_list_count ⟨_, ho, rfl⟩ PySem.F.entry_list_count (PySem.F.args_list_count_2 _ _)
        (SeqAt.list_countAt a (bs.map Value.bool).toArray n dd sl (.bool k) (isBoolOf k)) ⟨ho, fun y hy => ?_, ?_⟩
      · have hy' : y ∈ bs.map Value.bool := by simpa using hy
        obtain ⟨b, _, rfl⟩ := List.mem_map.mp hy'
        exact SeqAt.EqAt.bool_bool b k
      · refine ⟨.int (((bs.map D.bl).countP (D.isBl k) : Nat) : Int), H, I.tok _, ⟨s.toks, ?_⟩, q _ _ ?_⟩
        · rw [← count_bools]
        · exact (ow.int (((bs.map D.bl).countP (D.isBl k) : Nat) : Int)).by fun z => by
            simp only [cnt_cons, cnt_app, itz, cnt_nil]
            omega
    · cases hz
  | [.non], _, _, _, hz => cases hz
  | [.int _], _, _, _, hz => cases hz
  | [.str _], _, _, _, hz => cases hz
  | [.tup _], _, _, _, hz => cases hz
  | [.lst _], _, _, _, hz => cases hz
  | [.dic _], _, _, _, hz => cases hz
  | [.hd _], _, _, _, hz => cases hz
  | [.obj _ _], _, _, _, hz => cases hz
  | [.exc _ _], _, _, _, hz => cases hz
theorem m_index : MtR X "list.index" (rM X.K .index) := by
  intro pins s σ H x xs v us Q I rx rxs h
  obtain ⟨L, l, ds, d, l', ow, le, hz, q⟩ := h
  match ds, xs, le, ow, hz with
  | [], _, _, _, hz => cases hz
  | _ :: _ :: _, _, _, _, hz => simp [mtOwn] at hz
  | [.bl k], [y], _, ow, hz =>
    unfold mtOwn at hz
    simp only at hz
    split at hz
    · rename_i hb
      split at hz
      · rename_i j hj
        have ez := Option.some.inj hz
        cases ez
        have ey : y = .bl k := ow.atB (List.mem_cons_of_mem _ List.mem_cons_self)
        subst ey
        obtain ⟨bs, el⟩ := bools_of hb
        subst el
        obtain ⟨a, zs, ex, ha, len, ow1⟩ := ow.openL
        have ezs := own_bools (L := .it (.bl k) (.frz (.bl k)) :: L) (bs := bs) (zs := zs) (Own.by (L := .cap a (.lst zs) :: (itz zs (bs.map D.bl) ++ ([.it (.bl k) (.frz (.bl k))] ++ L))) ow1 fun z => by
          simp only [cnt_cons, cnt_app, cnt_nil]
          omega) (by rw [len, List.length_map])
        subst ezs
        subst ex
        cases rx
        obtain ⟨u, rfl, ru⟩ := rxs.one
        cases (show u = Value.bool k from ru)
        obtain ⟨its, rv, ⟨⟨cls, dd, data, sl⟩, n, ho, hc, hdn, hd⟩, hlen⟩ := I.list (xs := bs.map V.bl) (.inl (.inl ha))
        simp only at hc hd
        subst hc hd
        have ei := vals_bools rv
        subst ei
        rw [List.findIdx?_map] at hj
        have hj2 := List.findIdx?_eq_some_iff_getElem.mp hj
        obtain ⟨j1, j2, j3⟩ := hj2
        have bl := line63
        rw [List.length_map] at hlen
        refine call_meets PySem.F.slot_list_index ⟨_, ho, rfl⟩ PySem.F.entry_list_index (PySem.F.args_list_index_2 _ _)
          (SeqAt.list_indexAt a (bs.map Value.bool).toArray n dd sl (.bool k) (isBoolOf k) j (by simpa using j1) (by omega) ?_ ?_) ⟨ho, fun y hy => ?_, ?_⟩
        · simpa [isBoolOf, D.isBl] using j2
        · intro m hm hmj
          have := j3 m hmj
          simpa [isBoolOf, D.isBl] using this
        · have hy' : y ∈ bs.map Value.bool := by simpa using hy
          obtain ⟨b, _, rfl⟩ := List.mem_map.mp hy'
          exact SeqAt.EqAt.bool_bool b k
        · refine ⟨.int (j : Int), H, I.tok _, ⟨s.toks, rfl⟩, q _ _ ?_⟩
          exact (ow.int (j : Int)).by fun z => by
            simp only [cnt_cons, cnt_app, itz, cnt_nil]
            omega
      · cases hz
    · cases hz
  | [.non], _, _, _, hz => cases hz
  | [.int _], _, _, _, hz => cases hz
  | [.str _], _, _, _, hz => cases hz
  | [.tup _], _, _, _, hz => cases hz
  | [.lst _], _, _, _, hz => cases hz
  | [.dic _], _, _, _, hz => cases hz
  | [.hd _], _, _, _, hz => cases hz
  | [.obj _ _], _, _, _, hz => cases hz
  | [.exc _ _], _, _, _, hz => cases hz
theorem m_reverse : MtR X "list.reverse" (rM X.K .reverse) := by
  intro pins s σ H x xs v us Q I rx rv h
  obtain ⟨L, l, ds, d, l', ow, le, hz, q⟩ := h
  match ds, xs, le, ow, hz with
  | [], [], _, ow, hz =>
    unfold mtOwn at hz
    have ez := Option.some.inj hz
    cases ez
    obtain ⟨a, zs, rfl, ha, len, ow1⟩ := ow.openL
    refine mt_reverse pins s σ H _ _ v us Q I rx rv ⟨a, zs, rfl, rfl, ha, q _ _ ?_⟩
    refine Own.non (own_putL ow1 (fun z => ?_) (by rw [List.length_reverse, List.length_reverse, len]))
    rw [itz_rev len]
    simp only [cnt_app, itz, cnt_nil]
    have : cnt z (itz zs l).reverse = cnt z (itz zs l) := cnt_perm (List.reverse_perm _)
    omega
  | _ :: _, _, _, _, hz => simp [mtOwn] at hz
theorem m_extend : MtR X "list.extend" (rM X.K .extend) := by
  intro pins s σ H x xs v us Q I rx rxs h
  obtain ⟨L, l, ds, d, l', ow, le, hz, q⟩ := h
  match ds, xs, le, ow, hz with
  | [], _, _, _, hz => cases hz
  | _ :: _ :: _, _, _, _, hz => simp [mtOwn] at hz
  | [.lst r], [y], _, ow, hz =>
    unfold mtOwn at hz
    simp only at hz
    split at hz
    · rename_i hb
      have ez := Option.some.inj hz
      cases ez
      obtain ⟨b, ys, ey, sy, len2, ow2⟩ := ow.atL (v := y) (r := .frz (.lst r)) (List.mem_cons_of_mem _ List.mem_cons_self) rfl
      have ow3 : Own X.K H (.it x (.lst l) :: (itz ys r ++ L)) := ow2.by fun z => by
        simp only [cnt_cons, cnt_app, itz, cnt_nil]
        omega
      obtain ⟨a, zs, ex, ha, len, ow4⟩ := ow3.openL
      subst ex ey
      cases rx
      obtain ⟨u, rfl, ru⟩ := rxs.one
      cases ru
      obtain ⟨z1, its, n, r1, hl1, e⟩ := I.lstM ha
      obtain ⟨z2, its2, n2, r2, hl2, e2⟩ := inv_exact I sy
      have bl := big_le hb
      have hsz : its.toArray.size + its2.toArray.size ≤ sizeLine := by rw [List.size_toArray, List.size_toArray]; omega
      have hlong : ¬ (!its.toArray.isEmpty && Builtin.List.listTooLong (its.toArray.size + its2.toArray.size)) = true := by
        rw [notLongL hsz, Bool.and_false]
        exact Bool.false_ne_true
      have l63 := line63
      refine call_meets PySem.F.slot_list_extend ⟨_, e, rfl⟩ PySem.F.entry_list_extend (PySem.F.args_list_extend_2 _ _)
        (AutoSeq1.list_extend_list_list_0 a its.toArray n b its2.toArray n2 hlong (by rw [List.size_toArray]; omega) (by omega)) ⟨e, e2, ?_⟩
      refine ⟨.non, _, I.lset (its' := its ++ its2) ha e (by simp) (r1.append r2) (by rw [List.length_append]; omega), rfl, q _ _ ?_⟩
      refine Own.non (own_putL ow4 (fun z => ?_) (by rw [List.length_append, List.length_append, len, len2]))
      rw [itz_app len]
      simp only [cnt_app]
      omega
    · cases hz
  | [.non], _, _, _, hz => cases hz
  | [.bl _], _, _, _, hz => cases hz
  | [.int _], _, _, _, hz => cases hz
  | [.str _], _, _, _, hz => cases hz
  | [.tup _], _, _, _, hz => cases hz
  | [.dic _], _, _, _, hz => cases hz
  | [.hd _], _, _, _, hz => cases hz
  | [.obj _ _], _, _, _, hz => cases hz
  | [.exc _ _], _, _, _, hz => cases hz
/-- xs[i] = v, xs an own list -/
theorem s_list : PSet X (fun o i v H Q => ∃ L l k n d, Own X.K H (.it o (.lst l) :: .it v (.frz d) :: L) ∧ i = .int k ∧ pos? l.length k = some n ∧ ∀ H', Own X.K H' (.it o (.lst (l.set n d)) :: L) → Q H') := by
  intro pins s σ H o i v ov iv u Q I ro ri rv h
  obtain ⟨L, l, k, n, d, ow, ei, hn, q⟩ := h
  obtain ⟨a, zs, rfl, ha, len, ow1⟩ := ow.openL
  refine set_list pins s σ H _ i v ov iv u Q I ro ri rv ⟨a, zs, k, n, rfl, ei, ha, by rw [len]; exact hn, q _ ?_⟩
  refine own_putL ow1 (fun z => ?_) (by rw [List.length_set, List.length_set, len])
  have : ∀ (zs : List V) (l : List D) (n : Nat), cnt z (itz (zs.set n v) (l.set n d)) ≤ cnt z (itz zs l) + one z (.it v (.frz d)) := by
    intro zs
    induction zs with
    | nil =>
      intro l n
      exact Nat.zero_le _
    | cons w zs ih =>
      intro l n
      cases l with
      | nil => cases n <;> exact Nat.zero_le _
      | cons e l =>
        cases n with
        | zero =>
          show one z _ + cnt z (itz zs l) ≤ one z _ + cnt z (itz zs l) + one z _
          omega
        | succ n =>
          have := ih l n
          show one z _ + cnt z (itz (zs.set n v) (l.set n d)) ≤ one z _ + cnt z (itz zs l) + one z _
          omega
  have := this zs l n
  simp only [cnt_cons, cnt_app]
  omega
end
end Lp

end
section
/-! LpB8s: sorted of a list of numbers, of pairs of numbers. -/
namespace Lp
open PySem PySem.Spec PyProof.Rows L2
section
variable {X : Cx}
/-- sorted(xs), xs a list of pairs of numbers, wherever they stand -/
theorem cr_sortedR : CallR X (.builtin "sorted") (fun vs H Q => ∃ (a : Addr) (xs : List V) (k : V → Int × Int), vs = [V.ref a] ∧ SqL X.K H a xs ∧ (∀ x ∈ xs, ∃ t, x = V.ref t ∧ SqT X.K H t [.int (k x).1, .int (k x).2]) ∧
    ∀ ys p, SrtO.Srtd (ltP k) ys → SrtO.Stb (ltP k) ys xs → H p = none → Q (.ref p) (upd H p (.lst ys))) := by
  intro pins s σ H vs us Q I r h
  obtain ⟨a, xs, k, rfl, hs, hx, q⟩ := h
  obtain ⟨its, rv, hl, hz⟩ := I.list hs
  obtain ⟨u, rfl, ru⟩ := vals1 r
  obtain rfl : u = Value.ref a := ru
  obtain ⟨e1, e2⟩ := refs_back rv fun x m => by
    obtain ⟨t, e, _⟩ := hx x m
    exact ⟨t, e⟩
  refine SrtO.sorted_pairsO (k := fun u => k (backV u)) hl.isList (by rw [← rv.length]; exact hz) (fun v hv => ?_) fun h' d out h1 h2 kp hd hn => ?_
  · obtain ⟨t, rfl⟩ := e2 v hv
    have hm : V.ref t ∈ xs := by rw [e1]; exact List.mem_map.mpr ⟨_, hv, rfl⟩
    obtain ⟨t', e, ht⟩ := hx _ hm
    cases e
    obtain ⟨its2, r2, ⟨o, ho, hc, n, hd⟩, _⟩ := I.tuple ht
    obtain ⟨u1, u2, rfl, ri, rj⟩ := vals2 r2
    obtain ⟨t1, rfl⟩ := ri
    obtain ⟨t2, rfl⟩ := rj
    exact ⟨t, o, t1, t2, n, rfl, ho, hc, hd⟩
  · have h3 : ∀ u ∈ out, ∃ a, u = Value.ref a := fun u hu => e2 u (h2.perm.mem_iff.mp hu)
    obtain ⟨n, hn⟩ := hn
    have hb : SrtO.Stb (ltP k) (out.map backV) xs := by
      rw [e1]
      exact SrtO.Stb.map (ltP_swo k) backV h2
    refine ⟨.ref d, upd H d (.lst (out.map backV)), I.laid (t' := s.toks) kp hd ⟨?_, out, n, vals_back h3, hn⟩, rfl, q _ d (SrtO.srtd_map h1) hb (I.hok.fresh hd)⟩
    rw [hb.len]
    exact hz
/-- the pair a thing stands for -/
noncomputable def keyV (H : Hp) (x : V) : Int × Int := @Classical.epsilon (Int × Int) ⟨(0, 0)⟩ fun p => ∃ t, x = V.ref t ∧ Rd H t (.tup [.int p.1, .int p.2])
theorem rd_inj {H : Hp} {t : Addr} {xs ys : List V} (h : Rd H t (.tup xs)) (h2 : Rd H t (.tup ys)) : xs = ys := by
  rcases h with h | ⟨o, h⟩ <;> rcases h2 with h2 | ⟨o2, h2⟩ <;> rw [h] at h2 <;> cases h2 <;> rfl
theorem keyV_eq {H : Hp} {t : Addr} {i j : Int} (h : Rd H t (.tup [.int i, .int j])) : keyV H (.ref t) = (i, j) := by
  have q := @Classical.epsilon_spec (Int × Int) (fun p => ∃ t', V.ref t = V.ref t' ∧ Rd H t' (.tup [.int p.1, .int p.2])) ⟨(i, j), t, rfl, h⟩
  obtain ⟨t', e, h2⟩ := q
  cases e
  have e := rd_inj h2 h
  have e1 := List.cons.inj e
  have e2 := V.int.inj e1.1
  have e3 := V.int.inj (List.cons.inj e1.2).1
  exact Prod.ext e2 e3
theorem prs_of {K : PySem.W.Frag} {F H : Hp} {m : List Addr} (e : Same F H) : ∀ {vs : List V} {l : List D} {ps : List (Int × Int)}, DrL K F m vs l → prs? l = some ps →
    vs.map (keyV H) = ps ∧ (∀ x ∈ vs, ∃ t, x = V.ref t ∧ Rd H t (.tup [.int (keyV H x).1, .int (keyV H x).2])) ∧ l = ps.map prD
  | _, _, _, .nil, h => by
    cases h
    exact ⟨rfl, (fun _ h => absurd h List.not_mem_nil), rfl⟩
  | _, _, _, .cons (d := d) (ds := ds) hd t, h => by
    unfold prs? at h
    split at h
    · rename_i h0
      cases h0
    · rename_i i j r h0
      cases h0
      obtain ⟨ps, h1, h2⟩ := Option.map_eq_some_iff.mp h
      subst h2
      obtain ⟨q1, q2, q3⟩ := prs_of e t h1
      cases hd with
      | @tup a xs _ rd dl =>
        cases dl with
        | cons d1 d2 =>
          cases d2 with
          | cons d3 d4 =>
            cases d4
            cases d1
            cases d3
            have rd2 := rd_mono e rd
            have ek := keyV_eq rd2
            refine ⟨by rw [List.map_cons, q1, ek], fun x hx => ?_, by rw [q3]; rfl⟩
            rcases List.mem_cons.mp hx with e | hx
            · subst e
              exact ⟨a, rfl, by rw [ek]; exact rd2⟩
            · exact q2 x hx
    · cases h
theorem itz_map (g : V → D) : ∀ xs : List V, itz xs (xs.map g) = xs.map fun x => En.it x (.frz (g x))
  | [] => rfl
  | x :: xs => by
    rw [List.map_cons, List.map_cons, ← itz_map g xs]
    rfl
theorem own_ints {K : PySem.W.Frag} {H : Hp} {L : List En} (h : Own K H L) : ∀ is : List Int, Own K H (itz (is.map V.int) (is.map D.int) ++ L)
  | [] => h
  | i :: is => (own_ints h is).int i
end
end Lp

end
section
/-! LpB8t: sorted of a list of tuples that begin with numbers. -/
namespace Lp
open PySem PySem.Spec PyProof.Rows L2
/-- the numbers at the beginning, what stands behind them -/
inductive HeadI : List Int → List Value → List Value → Prop
  | nil (r : List Value) : HeadI [] r r
  | cons {i : Int} {t : Tok} {ks : List Int} {xs r : List Value} : HeadI ks xs r → HeadI (i :: ks) (.int i t :: xs) r
theorem HeadI.det : ∀ {ks : List Int} {xs r q : List Value}, HeadI ks xs r → HeadI ks xs q → r = q
  | _, _, _, _, .nil _, .nil _ => rfl
  | _, _, _, _, .cons h, .cons k => h.det k
theorem HeadI.len : ∀ {ks : List Int} {xs r : List Value}, HeadI ks xs r → xs.length = ks.length + r.length
  | _, _, _, .nil _ => by simp
  | _, _, _, .cons h => by
    rw [List.length_cons, List.length_cons, h.len]
    omega
section
variable {prog : Program} {w : World} {A : Around} {E : Value → Shared → Prop} {s : Shared}
theorem kat_same {Q : Bool → Shared → Prop} {b fin : Bool} (h : Q fin s) : ∀ (r : List Value) (i : Nat), PySem.W.KatLex prog w A b fin Q (r.zip r) i s
  | [], _ => PySem.W.kat_nil h
  | v :: r, i => PySem.W.kat_cons (SeqAt.EqAt.same v prog w _ _ (PySem.W.kat_yes (kat_same h r (i + 1))))
theorem one_ints (c : Bool) {p q : Int} {t u : Tok} {Q : Bool → Shared → Prop} (h : Q (decide (p < q)) s) : wpAny (model prog w) A (oneLt' c (.int p t) (.int q u)) Q E s := by
  cases c with
  | true => exact oneLt_int h
  | false => exact PySem.W.kat_one _ _ (PyProof.Rows.lt_int (Q := PySem.W.BoolBack Q) h)
theorem kat_heads {b fin : Bool} : ∀ {ks ls : List Int} {xs ys rx ry : List Value} (i : Nat), HeadI ks xs rx → HeadI ls ys ry → ks.length = ls.length → (ks = ls → rx = ry ∧ fin = false) →
    PySem.W.KatLex prog w A b fin (fun r s' => s' = s ∧ r = lexI ks ls) (xs.zip ys) i s
  | _, _, _, _, rx, _, i, .nil _, .nil _, _, h => by
    obtain ⟨e, f⟩ := h rfl
    subst e f
    exact kat_same (Q := fun r s' => s' = s ∧ r = lexI [] []) ⟨rfl, rfl⟩ rx i
  | _, _, _, _, _, _, _, .nil _, .cons _, h, _ => by simp at h
  | _, _, _, _, _, _, _, .cons _, .nil _, h, _ => by simp at h
  | _, _, _, _, _, _, i, .cons (i := a) (t := t) (ks := ks) h1, .cons (i := c) (t := u) (ks := ls) h2, hl, h => by
    refine PySem.W.kat_cons (SeqAt.EqAt.int_int a t c u prog w _ _ ?_)
    refine PySem.W.kat_go (fun e => ?_) fun e => ?_
    · have e : a = c := by simpa using e
      have el : lexI (a :: ks) (c :: ls) = lexI ks ls := by
        rw [lexI, if_pos e]
      rw [el]
      exact PySem.W.kat_yes (kat_heads (i + 1) h1 h2 (by simpa using hl) fun q => h (by rw [e, q]))
    · have e : ¬ a = c := by simpa using e
      have el : lexI (a :: ks) (c :: ls) = decide (a < c) := by
        rw [lexI, if_neg e]
      rw [el]
      exact PySem.W.kat_no (one_ints _ ⟨rfl, rfl⟩)
/-- v is a tuple with ks ahead -/
def TupK (h : Heap) (v : Value) (ks : List Int) (full : Bool) : Prop := ∃ (a : Addr) (o : Obj) (xs : List Value) (n : Nat) (r : List Value), v = .ref a ∧ h.get? a = some o ∧ o.cls = .type "tuple" ∧ o.data = .seq xs.toArray n ∧ HeadI ks xs r ∧ (full = true → r = [])
theorem TupK.keeps {h h' : Heap} {v : Value} {ks : List Int} {full : Bool} (p : TupK h v ks full) (k : ∀ b o, h.get? b = some o → o.cls = .type "tuple" → h'.get? b = some o) : TupK h' v ks full := by
  obtain ⟨a, o, xs, n, r, e, ho, hc, hd, z⟩ := p
  exact ⟨a, o, xs, n, r, e, k _ _ ho hc, hc, hd, z⟩
theorem tup_cmp {vs : List Value} {k : Value → List Int} {n0 : Nat} {full : Bool} (hp : ∀ v ∈ vs, TupK s.heap v (k v) full) (hn : ∀ v ∈ vs, (k v).length = n0) (hu : full = true ∨ ∀ v ∈ vs, ∀ u ∈ vs, k v = k u → v = u) :
    SrtO.Cmp prog w A s (tuples' true) (fun p => p.1 ∈ vs) (SrtO.lt2 fun v u => lexI (k v) (k u)) := by
  intro p q hm hm'
  show wpAny (model prog w) A (keyLt' (tuples' true) p.1 q.1) (fun r s' => s' = s ∧ r = lexI (k p.1) (k q.1)) (fun _ _ => False) s
  have h1 := hp _ hm
  have h2 := hp _ hm'
  have l1 := hn _ hm
  have l2 := hn _ hm'
  obtain ⟨a, o, xs, n, r, e, ho, hc, hd, hh, hf⟩ := h1
  obtain ⟨a', o', ys, n', r', e', ho', hc', hd', hh', hf'⟩ := h2
  have same : k p.1 = k q.1 → r = r' ∧ decide (xs.toArray.size < ys.toArray.size) = false := fun ek => by
    have er : r = r' := by
      rcases hu with z | z
      · rw [hf z, hf' z]
      · have ev := z _ hm _ hm' ek
        rw [e, e'] at ev
        cases ev
        rw [ho] at ho'
        cases ho'
        rw [hd] at hd'
        have ex : xs = ys := by
          injection hd' with q1 q2
          simpa using congrArg Array.toList q1
        subst ex
        rw [ek] at hh
        exact hh.det hh'
    refine ⟨er, ?_⟩
    rw [List.size_toArray, List.size_toArray, hh.len, hh'.len, er, ek]
    simp
  generalize hk1 : k p.1 = k1 at *
  generalize hk2 : k q.1 = k2 at *
  rw [e, e']
  refine PySem.W.kat_lt ho hd ho' hd' ?_
  exact kat_heads 0 hh hh' (by rw [l1, l2]) same
theorem tup_firsts {h : Heap} {k : Value → List Int} {full : Bool} : ∀ {vs : List Value}, (∀ v ∈ vs, TupK h v (k v) full ∧ 0 < (k v).length) → ∃ fs : List Value, PySem.W.KatTups h vs fs ∧ fs.length = vs.length ∧ ∀ f ∈ fs, ∃ x t, f = Value.int x t
  | [], _ => ⟨[], PySem.W.KatTups.nil, rfl, fun _ hm => by simp at hm⟩
  | v :: vs, hp => by
    obtain ⟨fs, h1, h2, h3⟩ := tup_firsts (k := k) (full := full) (vs := vs) fun u hm => hp u (List.mem_cons_of_mem _ hm)
    obtain ⟨⟨a, o, xs, n, r, e, ho, hc, hd, hh, _⟩, pos⟩ := hp v List.mem_cons_self
    generalize k v = kv at hh pos
    cases hh with
    | nil => simp at pos
    | @cons x t ks xs' _ hh =>
      subst e
      refine ⟨.int x t :: fs, PySem.W.KatTups.cons ho hc hd rfl h1, by rw [List.length_cons, List.length_cons, h2], fun f hm => ?_⟩
      rcases List.mem_cons.mp hm with rfl | hm
      · exact ⟨x, t, rfl⟩
      · exact h3 f hm
theorem swo_lexI (k : Value → List Int) : SrtO.Swo fun v u => lexI (k v) (k u) := ⟨fun x y h => lexI_asym _ _ h, fun x y z h1 h2 => lexI_tr _ _ _ h1 h2⟩
theorem sorted_tupsO {l : Addr} {vs : List Value} {k : Value → List Int} {n0 : Nat} {full : Bool} {Q : Value → Shared → Prop} (hl : s.heap.IsList l vs.toArray) (hz : vs.length ≤ sizeLine)
    (hp : 2 ≤ vs.length → 0 < n0 ∧ (∀ v ∈ vs, TupK s.heap v (k v) full) ∧ (∀ v ∈ vs, (k v).length = n0) ∧ (full = true ∨ ∀ v ∈ vs, ∀ u ∈ vs, k v = k u → v = u))
    (h : ∀ (h' : Heap) (d : Addr) (out : List Value), SrtO.Srtd (fun v u => lexI (k v) (k u)) out → SrtO.Stb (fun v u => lexI (k v) (k u)) out vs → (∀ b o, s.heap.get? b = some o → h'.get? b = some o) → s.heap.objs.size ≤ d → (∃ n, h'.get? d = some (seqObj "list" out.toArray n)) → Q (.ref d) { s with heap := h' }) :
    wpAny (model prog w) A (call (.builtin "sorted") [.ref l]) Q E s := by
  refine SrtO.sorted_ord (swo_lexI k) hl hz (fun h2 h₁ a ha kk => ?_) fun out hs hb => ?_
  · obtain ⟨p1, p2, p3, p4⟩ := hp h2
    intro h' keep
    have nt : ∀ b o, s.heap.get? b = some o → h'.get? b = some o := fun b o e => keep b o (kk b o e).1 (kk b o e).2
    have p2' : ∀ v ∈ vs, TupK h' v (k v) full := fun v hm => (p2 v hm).keeps fun b o e _ => nt b o e
    obtain ⟨fs, f1, f2, f3⟩ := tup_firsts (h := h') (k := k) (full := full) (vs := vs) fun v hm => ⟨p2' v hm, by rw [p3 v hm]; exact p1⟩
    refine ⟨tuples' true, fun Q E hq => ?_, tup_cmp (s := { s with heap := h' }) p2' p3 p4⟩
    refine PySem.W.kat_kind (T := .type "int") f1 (by omega) (fun f hm => ?_) (by rfl) ?_
    · obtain ⟨x, t, rfl⟩ := f3 f hm
      exact PySem.W.Looks.now
    · have e : (Value.type "int" != Value.type "tuple") = true := by first | decide +kernel | rfl | decide
      rw [e]
      exact hq
  · exact h _ _ out hs hb (fun b o e => PyProof.Rows.sortedAll_old e) (Nat.le_succ _) (PyProof.Rows.sortedAll_at s.heap vs out.toArray)
end
/-! ### the layer's values -/
def headV : List V → List Int
  | .int i :: r => i :: headV r
  | _ => []
def keyW (H : Hp) : V → List Int
  | .ref t => match H t with
    | some (.tup ys) => headV ys
    | some (.frz _ (.tup ys)) => headV ys
    | _ => []
  | _ => []
theorem keyW_eq {H : Hp} {t : Addr} {ys : List V} (h : Rd H t (.tup ys)) : keyW H (.ref t) = headV ys := by
  rcases h with h | ⟨o, h⟩ <;> simp only [keyW, h]
theorem head_vals : ∀ {ys : List V} {its : List Value}, Vals ys its → ∃ r, HeadI (headV ys) its r ∧ ((headV ys).length = ys.length → r = [])
  | [], _, h => by
    cases h
    exact ⟨[], .nil _, fun _ => rfl⟩
  | y :: ys, _, .cons hy ht => by
    obtain ⟨r, h1, h2⟩ := head_vals ht
    cases y with
    | int i =>
      obtain ⟨t, rfl⟩ := hy
      exact ⟨r, .cons h1, fun e => h2 (by simpa [headV] using e)⟩
    | _ => exact ⟨_, .nil _, fun e => by simp [headV] at e⟩
theorem lead_head {K : PySem.W.Frag} {F : Hp} {m : List Addr} : ∀ {ys : List V} {l : List D}, DrL K F m ys l → leadI l = headV ys
  | _, _, .nil => rfl
  | _, _, .cons h t => by
    cases h <;> first | (simp [leadI, headV]; done) | (simp only [leadI, headV]; rw [lead_head t])
section
variable {X : Cx}
theorem cr_sortedT : CallR X (.builtin "sorted") (fun vs H Q => ∃ (a : Addr) (xs : List V) (n0 : Nat) (full : Bool), vs = [V.ref a] ∧ SqL X.K H a xs ∧ (∀ x ∈ xs, ∃ t ys, x = V.ref t ∧ SqT X.K H t ys ∧ keyW H x = headV ys ∧ (full = true → (headV ys).length = ys.length)) ∧
    (2 ≤ xs.length → 0 < n0 ∧ (∀ x ∈ xs, (keyW H x).length = n0) ∧ (full = true ∨ ∀ x ∈ xs, ∀ y ∈ xs, keyW H x = keyW H y → x = y)) ∧
    ∀ ys p, SrtO.Srtd (fun x y => lexI (keyW H x) (keyW H y)) ys → SrtO.Stb (fun x y => lexI (keyW H x) (keyW H y)) ys xs → H p = none → Q (.ref p) (upd H p (.lst ys))) := by
  intro pins s σ H vs us Q I r h
  obtain ⟨a, xs, n0, full, rfl, hs, hx, h2, q⟩ := h
  obtain ⟨its, rv, hl, hz⟩ := I.list hs
  obtain ⟨u, rfl, ru⟩ := vals1 r
  obtain rfl : u = Value.ref a := ru
  obtain ⟨e1, e2⟩ := refs_back rv fun x m => by
    obtain ⟨t, ys, e, _⟩ := hx x m
    exact ⟨t, e⟩
  have swo : SrtO.Swo fun x y : V => lexI (keyW H x) (keyW H y) := ⟨fun x y h => lexI_asym _ _ h, fun x y z h1 h2 => lexI_tr _ _ _ h1 h2⟩
  have inv : ∀ v ∈ its, backV v ∈ xs := fun v hv => by rw [e1]; exact List.mem_map.mpr ⟨_, hv, rfl⟩
  refine sorted_tupsO (k := fun u => keyW H (backV u)) (n0 := n0) (full := full) hl.isList (by rw [← rv.length]; exact hz) (fun hz2 => ?_) fun h' d out h1 h2 kp hd hn => ?_
  · obtain ⟨p1, p2, p3⟩ := h2 (by rw [rv.length]; exact hz2)
    refine ⟨p1, fun v hv => ?_, fun v hv => p2 _ (inv v hv), p3.imp id fun z v hv u hu e => ?_⟩
    · obtain ⟨t, rfl⟩ := e2 v hv
      obtain ⟨t', ys, e, ht, hk, hfu⟩ := hx _ (inv _ hv)
      cases e
      obtain ⟨its2, r2, ⟨o, ho, hc, n, hd⟩, _⟩ := I.tuple ht
      obtain ⟨r', q1, q2⟩ := head_vals r2
      refine ⟨t, o, its2, n, r', rfl, ho, hc, hd, ?_, fun z => q2 (hfu z)⟩
      show HeadI (keyW H (V.ref t)) its2 r'
      rw [show keyW H (V.ref t) = headV ys from hk]
      exact q1
    · obtain ⟨t, rfl⟩ := e2 v hv
      obtain ⟨t', rfl⟩ := e2 u hu
      have := z _ (inv _ hv) _ (inv _ hu) e
      cases this
      rfl
  · have h3 : ∀ u ∈ out, ∃ a, u = Value.ref a := fun u hu => e2 u (h2.perm.mem_iff.mp hu)
    obtain ⟨n, hn⟩ := hn
    have hb : SrtO.Stb (fun x y => lexI (keyW H x) (keyW H y)) (out.map backV) xs := by
      rw [e1]
      exact SrtO.Stb.map swo backV h2
    refine ⟨.ref d, upd H d (.lst (out.map backV)), I.laid (t' := s.toks) kp hd ⟨?_, out, n, vals_back h3, hn⟩, rfl, q _ d (SrtO.srtd_map h1) hb (I.hok.fresh hd)⟩
    rw [hb.len]
    exact hz
theorem lead_of {K : PySem.W.Frag} {F H : Hp} {m : List Addr} (e : Same F H) : ∀ {vs : List V} {l : List D}, DrL K F m vs l → l.all D.isTup = true →
    vs.map (keyW H) = l.map D.lead ∧ ∀ x ∈ vs, ∃ t ys, x = V.ref t ∧ Rd H t (.tup ys) ∧ (l.all D.fullI = true → (headV ys).length = ys.length)
  | _, _, .nil, _ => ⟨rfl, fun _ h => absurd h List.not_mem_nil⟩
  | _, _, .cons (d := d) (ds := ds) hd t, h => by
    rw [List.all_cons, Bool.and_eq_true] at h
    obtain ⟨q1, q2⟩ := lead_of e t h.2
    cases hd with
    | @tup a xs l rd dl =>
      have rd2 := rd_mono e rd
      have ek := keyW_eq rd2
      refine ⟨by rw [List.map_cons, List.map_cons, q1, ek, ← lead_head dl]; rfl, fun x hx => ?_⟩
      rcases List.mem_cons.mp hx with ex | hx
      · subst ex
        refine ⟨a, xs, rfl, rd2, fun hf => ?_⟩
        rw [List.all_cons, Bool.and_eq_true] at hf
        have := hf.1
        simp only [D.fullI, decide_eq_true_eq] at this
        rw [← lead_head dl, this, dl.len]
      · obtain ⟨t', ys, w1, w2, w3⟩ := q2 x hx
        refine ⟨t', ys, w1, w2, fun hf => w3 ?_⟩
        rw [List.all_cons, Bool.and_eq_true] at hf
        exact hf.2
    | _ => simp [D.isTup] at h
theorem full_eq : ∀ {l m : List D}, (leadI l).length = l.length → (leadI m).length = m.length → leadI l = leadI m → l = m
  | [], [], _, _, _ => rfl
  | [], x :: m, _, h, e => by
    rw [← e] at h
    simp [leadI] at h
  | x :: l, [], h, _, e => by
    rw [e] at h
    simp [leadI] at h
  | x :: l, y :: m, h1, h2, e => by
    cases x <;> first | (simp [leadI] at h1; done) | skip
    cases y <;> first | (simp [leadI] at h2; done) | skip
    simp only [leadI, List.cons.injEq, List.length_cons, Nat.add_right_cancel_iff] at h1 h2 e
    rw [e.1, full_eq h1 h2 e.2]
theorem inj_of_nodup {α β : Type} {f : α → β} : ∀ {l : List α}, (l.map f).Nodup → ∀ x ∈ l, ∀ y ∈ l, f x = f y → x = y
  | [], _, _, h, _, _, _ => absurd h List.not_mem_nil
  | a :: l, nd, x, hx, y, hy, e => by
    rw [List.map_cons, List.nodup_cons] at nd
    rcases List.mem_cons.mp hx with ex | hx
    · rcases List.mem_cons.mp hy with ey | hy
      · rw [ex, ey]
      · exact absurd (List.mem_map.mpr ⟨y, hy, by rw [← e, ex]⟩) nd.1
    · rcases List.mem_cons.mp hy with ey | hy
      · exact absurd (List.mem_map.mpr ⟨x, hx, by rw [e, ey]⟩) nd.1
      · exact inj_of_nodup nd.2 x hx y hy e
/-- the same lists, told by their keys -/
theorem list_by {α β : Type} {f : α → β} {P : α → Prop} (inj : ∀ x y, P x → P y → f x = f y → x = y) : ∀ {l m : List α}, (∀ x ∈ l, P x) → (∀ x ∈ m, P x) → l.map f = m.map f → l = m
  | [], [], _, _, _ => rfl
  | [], _ :: _, _, _, h => by simp at h
  | _ :: _, [], _, _, h => by simp at h
  | a :: l, b :: m, h1, h2, h => by
    simp only [List.map_cons, List.cons.injEq] at h
    rw [inj a b (h1 a List.mem_cons_self) (h2 b List.mem_cons_self) h.1, list_by inj (fun x hx => h1 x (List.mem_cons_of_mem _ hx)) (fun x hx => h2 x (List.mem_cons_of_mem _ hx)) h.2]
theorem sorted_tup {pins : List (Addr × Obj)} {s : Shared} {σ : L2.St} {H : Hp} {x : V} {us : List Value} {Q : VK} {L : List En} {r z : R} {l : List D} (I : Inv X pins σ H s) (rv : Vals [x] us) (ow : Own X.K H L) (hm : .it x r ∈ L) (hl : r.lst? = some l)
    (hz : (if sortOk l = true then some (R.lst (sortT l)) else none) = some z) (q : ∀ v H', Own X.K H' (.it v z :: L) → Q v H') :
    wpAny (model X.prog X.w) X.A (call (.builtin "sorted") us) (EP X pins σ Q) X.xe s := by
  obtain ⟨a, xs, rfl, sx, len, ow1⟩ := ow.atL hm hl
  obtain ⟨ok, rfl⟩ : sortOk l = true ∧ z = R.lst (sortT l) := by
    by_cases c : sortOk l = true
    · rw [if_pos c] at hz
      exact ⟨c, (Option.some.inj hz).symm⟩
    · rw [if_neg c] at hz
      cases hz
  unfold sortOk at ok
  rw [Bool.and_eq_true] at ok
  obtain ⟨tu, ok⟩ := ok
  have k : xs.map (keyW H) = l.map D.lead ∧ ∀ x ∈ xs, ∃ t ys, x = V.ref t ∧ Rd H t (.tup ys) ∧ (l.all D.fullI = true → (headV ys).length = ys.length) := by
    obtain ⟨F, m, fp, e0, k, nd, zz⟩ := id ow1
    obtain ⟨f1, f2, rfl, q1, q2⟩ := k.split
    exact lead_of e0 (Own.of_itz len q1).2 tu
  obtain ⟨k1, k2⟩ := k
  have big2 : 2 ≤ l.length → ∃ n0, 0 < n0 ∧ (∀ d ∈ l, d.lead.length = n0) ∧ (l.all D.fullI = true ∨ (l.map D.lead).Nodup) := fun h2 => by
    rw [Bool.or_eq_true, decide_eq_true_eq] at ok
    rcases ok with z | z
    · omega
    · cases l with
      | nil => simp at h2
      | cons d l' =>
        simp only [Bool.and_eq_true, Bool.or_eq_true, decide_eq_true_eq] at z
        refine ⟨d.lead.length, z.1.1, fun e he => ?_, z.2⟩
        have := List.all_eq_true.mp z.1.2 e he
        simpa using this
  have inj : ∀ d e, d ∈ l → e ∈ l → d.lead = e.lead → d = e := fun d e hd he h => by
    by_cases h2 : 2 ≤ l.length
    · obtain ⟨n0, _, _, z | z⟩ := big2 h2
      · have f1 := List.all_eq_true.mp z d hd
        have f2 := List.all_eq_true.mp z e he
        cases d <;> first | (simp [D.fullI] at f1; done) | skip
        cases e <;> first | (simp [D.fullI] at f2; done) | skip
        simp only [D.fullI, decide_eq_true_eq] at f1 f2
        exact congrArg D.tup (full_eq f1 f2 h)
      · exact inj_of_nodup z d hd e he h
    · cases l with
      | nil => cases hd
      | cons x l' =>
        cases l' with
        | nil => rw [List.mem_singleton.mp hd, List.mem_singleton.mp he]
        | cons _ _ => simp at h2
  let g : V → D := fun x => (l.find? fun d => decide (d.lead = keyW H x)).getD .non
  have hg : ∀ x ∈ xs, g x ∈ l ∧ (g x).lead = keyW H x := fun x hx => by
    have hmem : keyW H x ∈ l.map D.lead := by rw [← k1]; exact List.mem_map.mpr ⟨x, hx, rfl⟩
    obtain ⟨d, hd, e⟩ := List.mem_map.mp hmem
    cases hf : l.find? fun d => decide (d.lead = keyW H x) with
    | none =>
      have := List.find?_eq_none.mp hf d hd
      simp [e] at this
    | some d' =>
      have e1 : g x = d' := by
        show (l.find? fun d => decide (d.lead = keyW H x)).getD .non = d'
        rw [hf]
        rfl
      rw [e1]
      exact ⟨List.mem_of_find?_eq_some hf, by simpa using List.find?_some hf⟩
  have el : l = xs.map g := list_by (f := D.lead) (P := (· ∈ l)) inj (fun _ h => h) (fun d hd => by
    obtain ⟨x, hx, e⟩ := List.mem_map.mp hd
    rw [← e]
    exact (hg x hx).1) (by
    rw [← k1, List.map_map]
    exact List.map_congr_left fun x hx => (hg x hx).2.symm)
  refine cr_sortedT pins s σ H _ us Q I rv ⟨a, xs, (l.head?.map fun d => d.lead.length).getD 0, l.all D.fullI, rfl, sx.sqL, fun x hx => ?_, fun h2 => ?_, fun ys p h1 h2 hn => ?_⟩
  · obtain ⟨t, ys, e, rd, hf⟩ := k2 x hx
    exact ⟨t, ys, e, .inl rd, by rw [e]; exact keyW_eq rd, hf⟩
  · obtain ⟨n0, p1, p2, p3⟩ := big2 (by rw [← len]; exact h2)
    have e0 : (l.head?.map fun d => d.lead.length).getD 0 = n0 := by
      cases l with
      | nil =>
        simp at len
        subst len
        simp at h2
      | cons d l' => exact p2 d List.mem_cons_self
    rw [e0]
    refine ⟨p1, fun x hx => ?_, p3.imp id fun z x hx y hy e => ?_⟩
    · rw [← (hg x hx).2]
      exact p2 _ (hg x hx).1
    · rw [← k1] at z
      exact inj_of_nodup z x hx y hy e
  · have inx : ∀ y ∈ ys, y ∈ xs := fun y hy => h2.perm.mem_iff.mp hy
    have key : (ys.map g).map D.lead = ys.map (keyW H) := by
      rw [List.map_map]
      exact List.map_congr_left fun y hy => (hg y (inx y hy)).2
    have e2 : sortT l = ys.map g := list_by (f := D.lead) (P := (· ∈ l)) inj (fun d hd => (sortT_perm l).mem_iff.mp hd) (fun d hd => by
      obtain ⟨y, hy, e⟩ := List.mem_map.mp hd
      rw [← e]
      exact (hg y (inx y hy)).1) (by
      rw [key]
      refine srt_uniq (le := fun a b => lexI b a = false) (fun a b h1 h2 => lexI_anti a b h2 h1) ?_ (List.pairwise_map.mpr (sortT_srt l)) (List.pairwise_map.mpr h1)
      exact ((sortT_perm l).map D.lead).trans (k1 ▸ (h2.perm.symm.map (keyW H))))
    rw [e2] at q
    rw [el, itz_map] at ow1
    have ow2 : Own X.K H (itz ys (ys.map g) ++ L) := by
      rw [itz_map]
      exact ow1.perm ((h2.perm.symm.map _).append_right L)
    exact q _ _ (ow2.newL (fun _ => Nat.le_refl _) (by simp) hn)
theorem c_sorted : CallR X (.builtin "sorted") (rC X.K (bi1 sortR)) := cOne fun pins s σ H x us Q I rv h => by
  obtain ⟨L, r, z, ow, hm, hz, q⟩ := h
  unfold sortR at hz
  split at hz
  · rename_i l hl
    obtain ⟨a, xs, rfl, sx, len, ow1⟩ := ow.atL hm hl
    split at hz
    · rename_i is hb
      cases hz
      obtain ⟨F, m, t⟩ := ow1.itzAll len
      have e := ints_of t hb
      subst e
      refine cr_sortedI pins s σ H _ us Q I rv ⟨a, is, rfl, sx.sqL, fun ns' p h1 h2 hp => ?_⟩
      have e2 : ns' = sortI is := srt_uniq (le := (· ≤ ·)) (fun a b h1 h2 => Int.le_antisymm h1 h2) (h1.trans (sortI_perm is).symm) h2 (sortI_srt is)
      subst e2
      exact q _ _ ((own_ints ow _).newL (fun _ => Nat.le_refl _) (by simp) hp)
    · split at hz
      rotate_left 1
      · exact sorted_tup I rv ow hm hl hz q
      rename_i ps hp
      cases hz
      have k : xs.map (keyV H) = ps ∧ (∀ x ∈ xs, ∃ t, x = V.ref t ∧ Rd H t (.tup [.int (keyV H x).1, .int (keyV H x).2])) ∧ l = ps.map prD := by
        obtain ⟨F, m, fp, e0, k, nd, zz⟩ := id ow1
        obtain ⟨f1, f2, rfl, q1, q2⟩ := k.split
        exact prs_of e0 (Own.of_itz len q1).2 hp
      obtain ⟨k1, k2, k3⟩ := k
      refine cr_sortedR pins s σ H _ us Q I rv ⟨a, xs, keyV H, rfl, sx.sqL, fun x hx => ?_, fun ys p h1 h2 hn => ?_⟩
      · obtain ⟨t, e, rd⟩ := k2 x hx
        exact ⟨t, e, .inl rd⟩
      · have e2 : ys.map (keyV H) = sortP ps := srt_uniq leP_anti ((h2.perm.map (keyV H)).trans (k1 ▸ (sortP_perm ps).symm)) (List.pairwise_map.mpr (h1.imp fun {x y} h => by
          have h := SrtO.lexB_no.mp h
          unfold leP
          omega)) (sortP_srt ps)
        have e3 : (sortP ps).map prD = ys.map fun y => prD (keyV H y) := by
          rw [← e2, List.map_map]
          rfl
        have e4 : l = xs.map fun y => prD (keyV H y) := by
          rw [k3, ← k1, List.map_map]
          rfl
        rw [e3] at q
        rw [e4, itz_map] at ow1
        have ow2 : Own X.K H (itz ys (ys.map fun y => prD (keyV H y)) ++ L) := by
          rw [itz_map]
          exact ow1.perm ((h2.perm.symm.map _).append_right L)
        exact q _ _ (ow2.newL (fun _ => Nat.le_refl _) (by simp) hn)
  · cases hz
end
end Lp

end
section
/-! LpB9: greatest, least, the text of things. -/
namespace Lp
open PySem PySem.Spec PyProof.Rows L2
/-! ### how long a text of a thing is -/
theorem textFrom_le : ∀ (ts : List Str) (k : Nat) (acc : Str), (textFrom k acc ts).length ≤ acc.length + piled ts
  | [], k, acc => Nat.le_refl _
  | t :: r, k, acc => by
    have h := textFrom_le r (k + 1) (acc ++ (if k > 0 then ", " else "" : String) ++ t)
    have e : (acc ++ (if k > 0 then ", " else "" : String) ++ t).length = acc.length + (if k > 0 then 2 else 0) + t.length := by
      rw [strLen_append, strLen_append]
      split <;> rfl
    have e2 : (if k > 0 then 2 else 0) ≤ 2 := by split <;> omega
    rw [e] at h
    rw [piled_cons]
    show (textFrom (k + 1) _ r).length ≤ _
    omega
theorem listText_le (ts : List Str) : (listText ts).length ≤ piled ts + 2 := by
  have h := textFrom_le ts 0 "["
  unfold listText
  rw [strLen_append]
  have e1 : (("[" : String) : Str).length = 1 := rfl
  have e2 : (("]" : String) : Str).length = 1 := rfl
  omega
theorem tupleText_le (ts : List Str) : (tupleText ts).length ≤ piled ts + 3 := by
  unfold tupleText
  rw [strLen_append, strLen_append]
  have e1 : (("(" : String) : Str).length = 1 := rfl
  have e2 : (Str.join ", " ts).length ≤ piled ts := by
    by_cases h : ts = []
    · subst h
      exact Nat.le_refl 0
    · have := join_length_add ts h
      omega
  have e3 : (((if ts.length == 1 then ",)" else ")") : String) : Str).length ≤ 2 := by
    split
    · exact Nat.le_refl 2
    · exact Nat.le_succ 1
  omega
mutual
theorem D.show_le : ∀ d : D, d.wt ≤ 2000000 → d.py.shown.length ≤ d.wt ∧ d.py.showable = true
  | .non, _ => ⟨by simp only [D.py, D.wt, PyData.shown]; decide, rfl⟩
  | .bl b, _ => ⟨by cases b <;> (simp only [D.py, D.wt, PyData.shown]; decide), rfl⟩
  | .int i, h => by
    simp only [D.wt] at h ⊢
    split at h
    · rename_i hi
      rw [if_pos hi]
      refine ⟨?_, ?_⟩
      · simp only [D.py, PyData.shown]
        have := int_text_length_le10 (a := i) (k := 76) (by decide) (Nat.lt_of_lt_of_le hi (by decide))
        have e : (Str.ofString (toString i)).length = (toString i).length := PySem.ofString_length _
        show (Str.ofString (toString i)).length ≤ 100
        omega
      · simp only [D.py, PyData.showable, decide_eq_true_eq]
        have : i.natAbs.log2 < 251 := by
          by_cases z : i.natAbs = 0
          · rw [z]
            decide
          · have := (Nat.log2_lt z (k := 250)).mpr hi
            omega
        omega
    · omega
  | .str s, h => by
    simp only [D.wt] at h ⊢
    split at h
    · rename_i hs
      rw [if_pos hs]
      refine ⟨?_, rfl⟩
      simp only [D.py, PyData.shown]
      have := PySem.StrLaws.reprText_len ⟨s.toArray⟩ (fun c hc => by
        have hc : c ∈ s := by simpa using hc
        have := List.all_eq_true.mp hs c hc
        have := of_decide_eq_true this
        exact Nat.lt_of_lt_of_le this (by decide))
      rw [strLen] at this
      exact this
    · omega
  | .tup l, h => by
    simp only [D.wt] at h ⊢
    obtain ⟨h1, h2⟩ := D.show_leL l (by omega)
    simp only [D.py, PyData.shown, PyData.showable]
    exact ⟨Nat.le_trans (tupleText_le _) (by omega), h2⟩
  | .lst l, h => by
    simp only [D.wt] at h ⊢
    obtain ⟨h1, h2⟩ := D.show_leL l (by omega)
    simp only [D.py, PyData.shown, PyData.showable]
    exact ⟨Nat.le_trans (listText_le _) (by omega), h2⟩
  | .dic l, h => by
    simp only [D.wt] at h ⊢
    split at h
    · rename_i hl
      have e : l = [] := by simpa using hl
      subst e
      simp only [D.py, D.pyK, PyData.shown, PyData.shownKv, PyData.showable, PyData.showableKv, List.isEmpty_nil, if_true]
      exact ⟨by decide, trivial⟩
    · omega
  | .hd _, h => by
    simp only [D.wt] at h
    omega
  | .obj _ _, h => by
    simp only [D.wt] at h
    omega
  | .exc _ _, h => by
    simp only [D.wt] at h
    omega
theorem D.show_leL : ∀ l : List D, D.wtL l ≤ 2000000 → piled (PyData.shownAll (D.pyL l)) ≤ D.wtL l ∧ PyData.showableAll (D.pyL l) = true
  | [], _ => ⟨by simp only [D.pyL, PyData.shownAll, D.wtL]; decide, rfl⟩
  | d :: l, h => by
    simp only [D.wtL] at h ⊢
    obtain ⟨h1, h2⟩ := D.show_le d (by omega)
    obtain ⟨h3, h4⟩ := D.show_leL l (by omega)
    simp only [D.pyL, PyData.shownAll, PyData.showableAll, piled_cons, h2, h4]
    exact ⟨by omega, rfl⟩
end
theorem wt_line {n : Nat} (h : n ≤ 2000000) : n ≤ sizeLine := by
  rw [sline]
  omega
section
variable {X : Cx} {pins : List (Addr × Obj)} {σ : L2.St} {H F : Hp} {s : Shared} {m : List Addr}
/-- a list, a tuple, whose items are told -/
theorem list_told (I : Inv X pins σ H s) {a : Addr} {xs : List V} {ds : List D} (sx : SqX X.K H a xs) (hw : (D.lst ds).wt ≤ 2000000)
    (ih : ∀ us, Vals xs us → ∃ as bs, ReadsAll s.heap us (D.pyL ds) as ∧ ReadAtMost s.heap (PyData.depthAll (D.pyL ds)) bs ∧ ReprAllK X.prog X.w bs s.heap (PyData.depthAll (D.pyL ds)) us (PyData.shownAll (D.pyL ds))) :
    ∃ as bs, Reads s.heap (.ref a) (D.lst ds).py as ∧ ReadAtMost s.heap (D.lst ds).py.depth (a :: bs) ∧ ReprK X.prog X.w (a :: bs) s.heap (D.lst ds).py.depth (.ref a) (D.lst ds).py.shown ∧
      (∀ (A : Around) (E : Value → Shared → Prop) (Q : Value → Shared → Prop), A.guards = some [] → A.units + 66 < cLine → (D.lst ds).py.depth ≤ 60 → (∀ h' u tk, (∀ b o, s.heap.get? b = some o → h'.get? b = some o) → Q (.str (D.lst ds).py.shown u) { s with heap := h', toks := tk }) → wpAny (model X.prog X.w) A (call (.builtin "repr") [.ref a]) Q E s) := by
  obtain ⟨_, its, n, rv, len, ho⟩ := inv_exact I sx
  obtain ⟨as, bs, r1, r2, r3⟩ := ih its rv
  have r : Reads s.heap (.ref a) (D.lst ds).py (a :: as) := by
    simp only [D.py]
    exact .list ho rfl rfl r1
  have dp : (D.lst ds).py.depth = PyData.depthAll (D.pyL ds) + 1 := by simp only [D.py, PyData.depth]
  have hna : a ∉ bs := not_mem_of_deeper r (by omega) r2
  have sz : (listText (PyData.shownAll (D.pyL ds))).length ≤ sizeLine := by
    have := (D.show_le _ hw).1
    simp only [D.py, PyData.shown] at this
    exact wt_line (by omega)
  refine ⟨_, bs, r, ReadAtMost.cons r (by omega) r2, ?_, fun A E Q hg hu hd hQ => ?_⟩
  · rw [dp]
    simp only [D.py, PyData.shown]
    cases its with
    | nil =>
      have e : D.pyL ds = [] := by
        cases h : D.pyL ds with
        | nil => rfl
        | cons _ _ =>
          rw [h] at r1
          cases r1
      rw [e]
      simp only [PyData.shownAll, listText_nil]
      exact ReprK.listEmpty ho rfl rfl
    | cons y l => exact ReprK.list ho rfl rfl hna (by simpa using r3.length_eq) (fun i z e => r3.item i z (by simpa using e))
  · refine call_repr_slot (by omega) ⟨_, ho, rfl⟩ F.slot_list_repr.toG ?_
    simp only [D.py, PyData.shown] at hQ
    rw [dp] at hd
    cases its with
    | nil =>
      have e : D.pyL ds = [] := by
        cases h : D.pyL ds with
        | nil => rfl
        | cons _ _ =>
          rw [h] at r1
          cases r1
      rw [e] at hQ
      simp only [PyData.shownAll, listText_nil] at hQ
      exact call_list_repr_empty ⟨_, ho, rfl⟩ ho rfl ⟨_, _, rfl, hQ s.heap _ _ fun _ _ e => e⟩
    | cons y l => exact call_list_reprK ho rfl rfl hna (by simpa using r3.length_eq) (fun i z e => r3.item i z (by simpa using e)) hg (fun b _ => Clear.nil b) (by show A.units + 1 + _ < _; omega) (fun _ _ e => e) (fun h' u tk hk => ⟨_, _, rfl, hQ h' u tk hk⟩) sz
theorem tup_told (I : Inv X pins σ H s) {a : Addr} {xs : List V} {ds : List D} (sx : Rd H a (.tup xs)) (hw : (D.tup ds).wt ≤ 2000000)
    (ih : ∀ us, Vals xs us → ∃ as bs, ReadsAll s.heap us (D.pyL ds) as ∧ ReadAtMost s.heap (PyData.depthAll (D.pyL ds)) bs ∧ ReprAllK X.prog X.w bs s.heap (PyData.depthAll (D.pyL ds)) us (PyData.shownAll (D.pyL ds))) :
    ∃ as bs, Reads s.heap (.ref a) (D.tup ds).py as ∧ ReadAtMost s.heap (D.tup ds).py.depth (a :: bs) ∧ ReprK X.prog X.w (a :: bs) s.heap (D.tup ds).py.depth (.ref a) (D.tup ds).py.shown ∧
      (∀ (A : Around) (E : Value → Shared → Prop) (Q : Value → Shared → Prop), A.guards = some [] → A.units + 66 < cLine → (D.tup ds).py.depth ≤ 60 → (∀ h' u tk, (∀ b o, s.heap.get? b = some o → h'.get? b = some o) → Q (.str (D.tup ds).py.shown u) { s with heap := h', toks := tk }) → wpAny (model X.prog X.w) A (call (.builtin "repr") [.ref a]) Q E s) := by
  obtain ⟨its, rv, ⟨o, ho, hc, n, hd⟩, _⟩ := I.tuple (.inl sx)
  obtain ⟨as, bs, r1, r2, r3⟩ := ih its rv
  have r : Reads s.heap (.ref a) (D.tup ds).py as := by
    simp only [D.py]
    exact .tuple ho hc hd r1
  have dp : (D.tup ds).py.depth = PyData.depthAll (D.pyL ds) + 1 := by simp only [D.py, PyData.depth]
  have hna : a ∉ bs := not_mem_of_deeper r (by omega) r2
  have sz : (tupleText (PyData.shownAll (D.pyL ds))).length ≤ sizeLine := by
    have := (D.show_le _ hw).1
    simp only [D.py, PyData.shown] at this
    exact wt_line (by omega)
  refine ⟨_, bs, r, ReadAtMost.cons r (by omega) r2, ?_, fun A E Q hg hu hd' hQ => ?_⟩
  · rw [dp]
    simp only [D.py, PyData.shown]
    exact ReprK.tuple ho hc hd hna r3
  · refine call_repr_slot (by omega) ⟨_, ho, hc⟩ F.slot_tuple_repr ?_
    simp only [D.py, PyData.shown] at hQ
    rw [dp] at hd'
    exact call_tuple_reprK ho hc hd hna r3 hg (fun b _ => Clear.nil b) (by show A.units + 1 + _ < _; omega) (fun _ _ e => e) (fun h' u tk hk => ⟨_, _, rfl, hQ h' u tk hk⟩) sz
theorem dic_told (I : Inv X pins σ H s) {a : Addr} (sx : Rd H a (.dK [])) : ∃ as bs, Reads s.heap (.ref a) (PyData.dict []) as ∧ ReadAtMost s.heap (PyData.dict []).depth (a :: bs) ∧ ReprK X.prog X.w (a :: bs) s.heap (PyData.dict []).depth (.ref a) (PyData.dict []).shown ∧
      (∀ (A : Around) (E : Value → Shared → Prop) (Q : Value → Shared → Prop), A.guards = some [] → A.units + 66 < cLine → (∀ h' u tk, (∀ b o, s.heap.get? b = some o → h'.get? b = some o) → Q (.str (PyData.dict []).shown u) { s with heap := h', toks := tk }) → wpAny (model X.prog X.w) A (call (.builtin "repr") [.ref a]) Q E s) := by
  obtain ⟨_, hs, vs, rel, o, es, ep, ho, hc, hd, _, pr, _⟩ := dk_rd I.hok sx
  have ev : vs = [] := by cases rel; rfl
  subst ev
  have ee : es.toList = [] := by
    cases h : es.toList with
    | nil => rfl
    | cons _ _ =>
      rw [h] at pr
      cases pr
  have r : Reads s.heap (.ref a) (PyData.dict []) ([a] ++ []) := .dict ho hc.1 hd (by rw [ee]; exact .nil) (by rw [ee]; exact .nil)
  have en : ReprEntriesK X.prog X.w [] s.heap 0 es.toList [] := by
    rw [ee]
    exact .nil
  have dp : (PyData.dict []).depth = 1 := by simp only [PyData.depth, PyData.depthKv]
  refine ⟨_, [], r, ReadAtMost.cons r (Nat.zero_le _) (fun _ h => nomatch h : ReadAtMost s.heap 0 []), ?_, fun A E Q hg hu hQ => ?_⟩
  · rw [dp]
    simp only [PyData.shown, PyData.shownKv]
    exact ReprK.dict ho hc.1 hd hs (fun h => nomatch h) en
  · refine call_repr_slot (by omega) ⟨_, ho, hc.1⟩ F.slot_dict_repr ?_
    simp only [PyData.shown, PyData.shownKv] at hQ
    exact call_dict_reprK (as := []) ho hc.1 hd hs List.not_mem_nil en hg (fun b _ => Clear.nil b) (by show A.units + 1 + _ < _; omega) (fun _ _ e => e) (fun h' u tk hk => ⟨_, _, rfl, hQ h' u tk hk⟩) (by decide)
theorem vals_cut {x : V} {xs : List V} {us : List Value} (r : Vals (x :: xs) us) : ∃ u us', us = u :: us' ∧ RelV x u ∧ Vals xs us' := by
  cases r with
  | cons r rs => exact ⟨_, _, rfl, r, rs⟩
theorem none_read {h : Heap} {n : Nat} : ReadAtMost h n [] := fun _ h => nomatch h
mutual
theorem Dr.told (I : Inv X pins σ H s) (e : Same F H) : ∀ {v : V} {d : D} {u : Value}, Dr X.K F m v d → RelV v u → d.wt ≤ 2000000 → ∃ as bs, Reads s.heap u d.py as ∧ ReadAtMost s.heap d.py.depth bs ∧ ReprK X.prog X.w bs s.heap d.py.depth u d.py.shown
  | _, _, _, .non, r, _ => by
    cases r
    exact ⟨_, [], .none, none_read, by simp only [D.py, PyData.shown]; exact .of_is ReprIs.none _ _ _⟩
  | _, _, _, .bl b, r, _ => by
    cases r
    exact ⟨_, [], .bool b, none_read, by simp only [D.py, PyData.shown]; exact .of_is (ReprIs.bool b) _ _ _⟩
  | _, _, _, .int i, r, h => by
    obtain ⟨t, rfl⟩ := r
    have := (D.show_le (.int i) h).2
    exact ⟨_, [], .int i t, none_read, by simp only [D.py, PyData.shown]; exact .of_is (ReprIs.int t (by simpa [D.py, PyData.showable] using this)) _ _ _⟩
  | _, _, _, .str z, r, h => by
    obtain ⟨t, rfl⟩ := r
    have := (D.show_le (.str z) h).1
    exact ⟨_, [], .str _ t, none_read, by simp only [D.py, PyData.shown] at this ⊢; exact .of_is (ReprIs.str _ t (wt_line (by omega))) _ _ _⟩
  | _, _, _, .tup (l := l) rd t, r, h => by
    cases r
    have hl : D.wtL l ≤ 2000000 := by
      simp only [D.wt] at h
      omega
    obtain ⟨as, bs, r1, r2, r3, _⟩ := tup_told I (rd_mono e rd) h fun us rv => DrL.told I e t rv hl
    exact ⟨as, _, r1, r2, r3⟩
  | _, _, _, .lst (l := l) rd t, r, h => by
    cases r
    have hl : D.wtL l ≤ 2000000 := by
      simp only [D.wt] at h
      omega
    obtain ⟨as, bs, r1, r2, r3, _⟩ := list_told I (sqx_mono e rd) h fun us rv => DrL.told I e t rv hl
    exact ⟨as, _, r1, r2, r3⟩
  | _, _, _, .dic (l := l) rd t, r, h => by
    cases r
    have el : l = [] := by
      simp only [D.wt] at h
      split at h
      · rename_i q
        simpa using q
      · omega
    subst el
    cases t
    simp only [D.py, D.pyK]
    obtain ⟨as, bs, r1, r2, r3, _⟩ := dic_told I (rd_mono e rd)
    exact ⟨as, _, r1, r2, r3⟩
  | _, _, _, .hd _, _, h => by
    simp only [D.wt] at h
    omega
  | _, _, _, .obj _ _, _, h => by
    simp only [D.wt] at h
    omega
  | _, _, _, .exc _, _, h => by
    simp only [D.wt] at h
    omega
theorem DrL.told (I : Inv X pins σ H s) (e : Same F H) : ∀ {vs : List V} {ds : List D} {us : List Value}, DrL X.K F m vs ds → Vals vs us → D.wtL ds ≤ 2000000 → ∃ as bs, ReadsAll s.heap us (D.pyL ds) as ∧ ReadAtMost s.heap (PyData.depthAll (D.pyL ds)) bs ∧ ReprAllK X.prog X.w bs s.heap (PyData.depthAll (D.pyL ds)) us (PyData.shownAll (D.pyL ds))
  | _, _, _, .nil, r, _ => by
    cases r
    exact ⟨_, [], .nil, none_read, by simp only [D.pyL, PyData.shownAll]; exact .nil⟩
  | _, _, _, .cons (d := d) (ds := ds) h t, r, hw => by
    obtain ⟨u, us', rfl, r, rs⟩ := vals_cut r
    simp only [D.wtL] at hw
    obtain ⟨a1, b1, p1, q1, k1⟩ := Dr.told I e h r (by omega)
    obtain ⟨a2, b2, p2, q2, k2⟩ := DrL.told I e t rs (by omega)
    simp only [D.pyL, PyData.depthAll, PyData.shownAll]
    exact ⟨_, b1 ++ b2, .cons p1 p2, (q1.mono (Nat.le_max_left _ _)).append (q2.mono (Nat.le_max_right _ _)),
      .cons ((k1.more fun b hb => List.mem_append_left _ hb).level_le (Nat.le_max_left _ _)) (k2.more_le (fun b hb => List.mem_append_right _ hb) (Nat.le_max_right _ _))⟩
end
theorem c_repr (hg : X.A.guards = some []) (hu : X.A.units + 66 < cLine) : CallR X (.builtin "repr") (rC X.K (bi1 reprR)) := cOne fun pins s σ H x us Q I rv h => by
  obtain ⟨L, r, z, ow, hm, hz, q⟩ := h
  unfold reprR at hz
  split at hz
  · cases hz
  split at hz
  · rename_i nt hk
    rw [Bool.and_eq_true, decide_eq_true_eq, decide_eq_true_eq] at hk
    have ez := Option.some.inj hz
    subst ez
    have hb : big = 1000000 := rfl
    have hw : r.d.wt ≤ 2000000 := by omega
    have hdp : r.d.py.depth ≤ 60 := by
      rw [D.py_dep]
      exact hk.2
    obtain ⟨u, rfl, ru⟩ := vals1 rv
    have fin : ∀ h' t tk, (∀ b o, s.heap.get? b = some o → h'.get? b = some o) → EP X pins σ Q (.str r.d.py.shown t) { s with heap := h', toks := tk } := fun h' t tk kp => by
      refine ⟨.str r.d.py.shown, H, I.kept kp, ⟨t, rfl⟩, ?_⟩
      have := q (.str ⟨r.d.rep.toArray⟩) H (ow.str _)
      unfold D.rep at this
      exact this
    have fin0 : EP X pins σ Q (.str r.d.py.shown s.toks) { s with toks := s.toks + 1 } := fin s.heap s.toks (s.toks + 1) fun _ _ e => e
    have sl := D.show_le r.d hw
    obtain ⟨F, m, fp, e, k⟩ := ow.rvAt hm
    cases k with
    | tup ha t => exact (nt _ rfl).elim
    | @frz v d k =>
      cases k with
      | non =>
        cases ru
        simp only [R.d, D.py, PyData.shown] at fin0
        exact PySem.P.repr_of_none fin0
      | bl b =>
        cases ru
        simp only [R.d, D.py, PyData.shown] at fin0
        exact PySem.P.repr_of_bool fin0
      | int i =>
        obtain ⟨t, rfl⟩ := ru
        simp only [R.d, D.py, PyData.shown, PyData.showable] at fin0 sl
        exact PySem.P.repr_of_int (by simpa using sl.2) fin0
      | str z =>
        obtain ⟨t, rfl⟩ := ru
        have h9 := Nat.le_trans sl.1 hw
        simp only [R.d, D.py, PyData.shown] at fin0 h9
        exact PySem.P.repr_of_str fin0 (wt_line h9)
      | @tup a xs l rd t =>
        cases ru
        have hl : D.wtL l ≤ 2000000 := by
          simp only [R.d, D.wt] at hw
          omega
        obtain ⟨_, _, _, _, _, go⟩ := tup_told I (rd_mono e rd) hw fun us rv => DrL.told I e t rv hl
        exact go X.A X.xe _ hg hu hdp fin
      | @lst a xs l rd t =>
        cases ru
        have hl : D.wtL l ≤ 2000000 := by
          simp only [R.d, D.wt] at hw
          omega
        obtain ⟨_, _, _, _, _, go⟩ := list_told I (sqx_mono e rd) hw fun us rv => DrL.told I e t rv hl
        exact go X.A X.xe _ hg hu hdp fin
      | @dic a ks l rd t =>
        cases ru
        have el : l = [] := by
          simp only [R.d, D.wt] at hw
          split at hw
          · rename_i q
            simpa using q
          · omega
        subst el
        cases t
        simp only [R.d, D.py, D.pyK] at fin
        obtain ⟨_, _, _, _, _, go⟩ := dic_told I (rd_mono e rd)
        exact go X.A X.xe _ hg hu fin
      | hd =>
        simp only [R.d, D.wt] at hw
        omega
      | obj =>
        simp only [R.d, D.wt] at hw
        omega
      | exc =>
        simp only [R.d, D.wt] at hw
        omega
    | obj =>
      simp only [R.d, D.wt] at hw
      omega
    | @lst a xs l ha t =>
      cases ru
      simp only [R.d] at hw fin hdp
      have hl : D.wtL l ≤ 2000000 := by
        simp only [D.wt] at hw
        omega
      obtain ⟨_, _, _, _, _, go⟩ := list_told I (.inl (.inl ha)) hw fun us rv => DrL.told I e t rv hl
      exact go X.A X.xe _ hg hu hdp fin
    | @dic a ks l ha t =>
      cases ru
      simp only [R.d] at hw fin
      have el : l = [] := by
        simp only [D.wt] at hw
        split at hw
        · rename_i q
          simpa using q
        · omega
      subst el
      cases t
      simp only [D.py, D.pyK] at fin
      obtain ⟨_, _, _, _, _, go⟩ := dic_told I (.inl ha)
      exact go X.A X.xe _ hg hu fin
  · cases hz
theorem ext_uniq {m n : Int} {is : List Int} (h1 : m ∈ is) (h2 : ∀ y ∈ is, y ≤ m) (h3 : n ∈ is) (h4 : ∀ y ∈ is, y ≤ n) : m = n := by
  have := h2 n h3
  have := h4 m h1
  omega
theorem ext_uniq' {m n : Int} {is : List Int} (h1 : m ∈ is) (h2 : ∀ y ∈ is, m ≤ y) (h3 : n ∈ is) (h4 : ∀ y ∈ is, n ≤ y) : m = n := by
  have := h2 n h3
  have := h4 m h1
  omega
theorem max_tup {prog : Program} {w : World} {A : Around} {E : Value → Shared → Prop} {s : Shared} {l : Addr} {its : List Value} {ns : List Int} {Q : Value → Shared → Prop} (hh : A.handled = none) (hl : IsTup s.heap l its.toArray) (hi : IntsAre its ns) (hne : 0 < ns.length)
    (h : ∀ h' tk M t', (∀ b o, s.heap.get? b = some o → h'.get? b = some o) → M ∈ ns → (∀ a, a ∈ ns → a ≤ M) → Q (.int M t') { s with heap := h', toks := tk }) : wpAny (model prog w) A (call (.builtin "max") [.ref l]) Q E s := by
  obtain ⟨xs, e⟩ := hi.allInts.items
  have hn : numsOf (intItems xs).toList = ns := by rw [← e]; exact hi.numsOf
  rw [nums_intItems] at hn
  subst hn
  rw [e] at hl
  have hT : s.heap.IsTuple l (intItems xs) := hl
  have hlt : l < s.heap.objs.size := hl.lt
  have hsz : 0 < xs.size := by simpa using hne
  refine call_max_walk (wpAny_pyIter_tuple hT ?_)
  refine ⟨_, _, _, _, _, _, _, rfl, Walks.tuple (A := A.in1) hh _ l (Nat.ne_of_lt hlt) (intItems xs), ⟨⟨_, Heap.get?_push_size _ rfl, rfl, rfl⟩, hT.push _⟩, ?_, by simpa [intItems] using hsz, CmpOf.ints_gt (numAt xs) (fun _ _ => intItems_at), fun v h' tk hP hk => ?_⟩
  · intro b hb
    simp only [List.mem_cons, List.not_mem_nil, or_false] at hb
    rw [Heap.size_push]
    rcases hb with e | e
    · rw [e]
      exact Nat.lt_succ_self _
    · rw [e]
      exact Nat.lt_succ_of_lt hlt
  · have hv : (intItems xs)[argBest (fun i j => decide (numAt xs i > numAt xs j)) (xs.size - 1)]? = some v := by simpa [intItems] using hP
    obtain ⟨t, rfl⟩ := intItems_at hv
    obtain ⟨h1, h2⟩ := argBest_gt (numAt xs) (xs.size - 1)
    refine h h' tk _ t (fun b o e => hk b o (fun hb => by
      simp only [List.mem_cons, List.not_mem_nil, or_false] at hb
      subst hb
      exact absurd (Heap.lt_size e) (Nat.lt_irrefl _)) (Heap.get?_push_of_some _ e)) ?_ fun a ha => ?_
    · rw [numAt_eq]
      exact PySem.getD_mem (by rw [List.length_map, Array.length_toList]; omega)
    · obtain ⟨j, hj, rfl⟩ := mem_getD ha
      rw [List.length_map, Array.length_toList] at hj
      rw [← numAt_eq]
      exact h2 j (by omega)
theorem c_max1 (hc : X.calm = true) : CallR X (.builtin "max") (rC X.K (bi1 maxR)) := cOne fun pins s σ H x us Q I rv h => by
  obtain ⟨L, r, z, ow, hm, hz, q⟩ := h
  unfold maxR at hz
  split at hz
  · rename_i l hl
    split at hz
    · rename_i i is hb
      cases hz
      obtain ⟨a, xs, rfl, sx, len, ow1⟩ := ow.atIt hm hl
      obtain ⟨F, m, t⟩ := ow1.itzAll len
      have e := ints_of t hb
      subst e
      obtain ⟨m1, m2⟩ := maxL_is is i
      rcases sx with sx | sx
      · exact cr_max hc pins s σ H _ us Q I rv ⟨a, i :: is, rfl, sx.sqL, Nat.succ_pos _, fun n n1 n2 => by
          rw [ext_uniq n1 n2 m1 m2]
          exact q _ H (ow.int _)⟩
      · obtain ⟨u, rfl, ru⟩ := vals1 rv
        cases ru
        obtain ⟨its, rr, pl, hz⟩ := I.tuple (.inl sx)
        exact max_tup (I.ok.hd hc) pl (intsAre_of rr) (Nat.succ_pos _) fun h' tk n t' hk n1 n2 => ⟨.int _, H, I.kept hk, ⟨_, rfl⟩, by
          rw [ext_uniq n1 n2 m1 m2]
          exact q _ H (ow.int _)⟩
    · cases hz
  · cases hz
theorem min_tup {prog : Program} {w : World} {A : Around} {E : Value → Shared → Prop} {s : Shared} {l : Addr} {its : List Value} {ns : List Int} {Q : Value → Shared → Prop} (hh : A.handled = none) (hl : IsTup s.heap l its.toArray) (hi : IntsAre its ns) (hne : 0 < ns.length)
    (h : ∀ h' tk M t', (∀ b o, s.heap.get? b = some o → h'.get? b = some o) → M ∈ ns → (∀ a, a ∈ ns → M ≤ a) → Q (.int M t') { s with heap := h', toks := tk }) : wpAny (model prog w) A (call (.builtin "min") [.ref l]) Q E s := by
  obtain ⟨xs, e⟩ := hi.allInts.items
  have hn : numsOf (intItems xs).toList = ns := by rw [← e]; exact hi.numsOf
  rw [nums_intItems] at hn
  subst hn
  rw [e] at hl
  have hT : s.heap.IsTuple l (intItems xs) := hl
  have hlt : l < s.heap.objs.size := hl.lt
  have hsz : 0 < xs.size := by simpa using hne
  refine call_min_walk (wpAny_pyIter_tuple hT ?_)
  refine ⟨_, _, _, _, _, _, _, rfl, Walks.tuple (A := A.in1) hh _ l (Nat.ne_of_lt hlt) (intItems xs), ⟨⟨_, Heap.get?_push_size _ rfl, rfl, rfl⟩, hT.push _⟩, ?_, by simpa [intItems] using hsz, CmpOf.ints_lt (numAt xs) (fun _ _ => intItems_at), fun v h' tk hP hk => ?_⟩
  · intro b hb
    simp only [List.mem_cons, List.not_mem_nil, or_false] at hb
    rw [Heap.size_push]
    rcases hb with e | e
    · rw [e]
      exact Nat.lt_succ_self _
    · rw [e]
      exact Nat.lt_succ_of_lt hlt
  · have hv : (intItems xs)[argBest (fun i j => decide (numAt xs i < numAt xs j)) (xs.size - 1)]? = some v := by simpa [intItems] using hP
    obtain ⟨t, rfl⟩ := intItems_at hv
    obtain ⟨h1, h2⟩ := argBest_lt (numAt xs) (xs.size - 1)
    refine h h' tk _ t (fun b o e => hk b o (fun hb => by
      simp only [List.mem_cons, List.not_mem_nil, or_false] at hb
      subst hb
      exact absurd (Heap.lt_size e) (Nat.lt_irrefl _)) (Heap.get?_push_of_some _ e)) ?_ fun a ha => ?_
    · rw [numAt_eq]
      exact PySem.getD_mem (by rw [List.length_map, Array.length_toList]; omega)
    · obtain ⟨j, hj, rfl⟩ := mem_getD ha
      rw [List.length_map, Array.length_toList] at hj
      rw [← numAt_eq]
      exact h2 j (by omega)
theorem c_min1 (hc : X.calm = true) : CallR X (.builtin "min") (rC X.K (bi1 minR)) := cOne fun pins s σ H x us Q I rv h => by
  obtain ⟨L, r, z, ow, hm, hz, q⟩ := h
  unfold minR at hz
  split at hz
  · rename_i l hl
    split at hz
    · rename_i i is hb
      cases hz
      obtain ⟨a, xs, rfl, sx, len, ow1⟩ := ow.atIt hm hl
      obtain ⟨F, m, t⟩ := ow1.itzAll len
      have e := ints_of t hb
      subst e
      obtain ⟨m1, m2⟩ := minL_is is i
      rcases sx with sx | sx
      · exact cr_min hc pins s σ H _ us Q I rv ⟨a, i :: is, rfl, sx.sqL, Nat.succ_pos _, fun n n1 n2 => by
          rw [ext_uniq' n1 n2 m1 m2]
          exact q _ H (ow.int _)⟩
      · obtain ⟨u, rfl, ru⟩ := vals1 rv
        cases ru
        obtain ⟨its, rr, pl, hz⟩ := I.tuple (.inl sx)
        exact min_tup (I.ok.hd hc) pl (intsAre_of rr) (Nat.succ_pos _) fun h' tk n t' hk n1 n2 => ⟨.int _, H, I.kept hk, ⟨_, rfl⟩, by
          rw [ext_uniq' n1 n2 m1 m2]
          exact q _ H (ow.int _)⟩
    · cases hz
  · cases hz
theorem c_max (hc : X.calm = true) (hu : X.A.units + 66 < cLine) : CallR X (.builtin "max") (rC X.K (biR .max)) := by
  intro pins s σ H xs us Q I rv h
  obtain ⟨L, rs, z, ow, e, hs, hz, q⟩ := h
  match rs, xs, e, hs, hz with
  | [r], [x], _, hs, hz => exact c_max1 hc pins s σ H _ us Q I rv ⟨L, [r], z, ow, rfl, hs, hz, q⟩
  | [r, t], [x, y], _, hs, hz => exact c_max2 hc pins s σ H _ us Q I rv ⟨L, [r, t], z, ow, rfl, hs, hz, q⟩
  | [], _, _, _, hz => cases hz
  | _ :: _ :: _ :: _, _, _, _, hz => cases hz
theorem c_min (hc : X.calm = true) (hu : X.A.units + 66 < cLine) : CallR X (.builtin "min") (rC X.K (biR .min)) := by
  intro pins s σ H xs us Q I rv h
  obtain ⟨L, rs, z, ow, e, hs, hz, q⟩ := h
  match rs, xs, e, hs, hz with
  | [r], [x], _, hs, hz => exact c_min1 hc pins s σ H _ us Q I rv ⟨L, [r], z, ow, rfl, hs, hz, q⟩
  | [r, t], [x, y], _, hs, hz => exact c_min2 hc pins s σ H _ us Q I rv ⟨L, [r, t], z, ow, rfl, hs, hz, q⟩
  | [], _, _, _, hz => cases hz
  | _ :: _ :: _ :: _, _, _, _, hz => cases hz
end
end Lp

end
section
/-! LpC1: what the names hold, and what an evaluation keeps. -/
namespace Lp
open PySem PySem.Spec PyProof.Rows L2

/-- what the names hold -/
def live : L2.St → List (Option R) → List En
  | some v :: σ, some r :: l => .it v r :: live σ l
  | _ :: σ, _ :: l => live σ l
  | _, _ => []
theorem live_nil (σ : L2.St) : live σ [] = [] := by
  cases σ with
  | nil => rfl
  | cons a _ => cases a <;> rfl
structure Fits (σ : L2.St) (sl : List (Option R)) : Prop where
  len : σ.length = sl.length
  has : ∀ (i : Nat) (r : R), sl[i]? = some (some r) → ∃ v, σ[i]? = some (some v)
theorem live_get : ∀ {σ : L2.St} {sl : List (Option R)} {i : Nat} {v : V} {r : R}, σ[i]? = some (some v) → sl[i]? = some (some r) → ∀ x, cnt x (live σ sl) = one x (.it v r) + cnt x (live σ (sl.set i none))
  | [], _, _, _, _, h, _ => by simp at h
  | _ :: _, [], _, _, _, _, h => by simp at h
  | s :: σ, t :: sl, 0, v, r, h1, h2 => fun x => by
    simp at h1 h2
    subst h1 h2
    rfl
  | s :: σ, t :: sl, i + 1, v, r, h1, h2 => fun x => by
    have ih := live_get (σ := σ) (sl := sl) (i := i) (by simpa using h1) (by simpa using h2) x
    rw [List.set_cons_succ]
    cases s with
    | none => exact ih
    | some s =>
      cases t with
      | none => exact ih
      | some t =>
        show one x _ + cnt x (live σ sl) = one x _ + (one x _ + cnt x (live σ (sl.set i none)))
        omega
theorem live_st : ∀ {σ : L2.St} {sl : List (Option R)} {i : Nat} {v : Option V}, live (σ.set i v) (sl.set i none) = live σ (sl.set i none)
  | [], _, _, _ => by simp
  | _ :: _, [], _, _ => by
    rw [List.set_nil, live_nil, live_nil]
  | s :: σ, t :: sl, 0, v => by
    simp only [List.set_cons_zero]
    cases v <;> cases s <;> rfl
  | s :: σ, t :: sl, i + 1, v => by
    rw [List.set_cons_succ, List.set_cons_succ]
    have ih := live_st (σ := σ) (sl := sl) (i := i) (v := v)
    cases s with
    | none => exact ih
    | some s =>
      cases t with
      | none => exact ih
      | some t => exact congrArg (_ :: ·) ih
theorem live_none_le : ∀ {σ : L2.St} {sl : List (Option R)} {i : Nat} (x : En), cnt x (live σ (sl.set i none)) ≤ cnt x (live σ sl)
  | [], _, _ => fun _ => by simp [live, cnt_nil]
  | _ :: _, [], _ => fun _ => by simp [live, cnt_nil]
  | s :: σ, t :: sl, 0 => fun x => by
    simp only [List.set_cons_zero]
    cases s <;> cases t <;> simp [live, cnt_cons]
  | s :: σ, t :: sl, i + 1 => fun x => by
    rw [List.set_cons_succ]
    have ih := live_none_le (σ := σ) (sl := sl) (i := i) x
    cases s with
    | none => exact ih
    | some s =>
      cases t with
      | none => exact ih
      | some t => exact Nat.add_le_add_left ih _
/-- a name's new thing -/
theorem live_put {σ : L2.St} {sl : List (Option R)} {i : Nat} {v : V} {r : R} (h1 : σ[i]? = some (some v)) (h2 : i < sl.length) (x : En) : cnt x (live σ (sl.set i (some r))) = one x (.it v r) + cnt x (live σ (sl.set i none)) := by
  have := live_get h1 (show (sl.set i (some r))[i]? = some (some r) by simp [h2]) x
  rw [List.set_set] at this
  exact this
theorem live_new {σ : L2.St} {sl : List (Option R)} {i : Nat} {v : V} {r : R} (h1 : i < σ.length) (h2 : i < sl.length) (x : En) : cnt x (live (σ.set i (some v)) (sl.set i (some r))) = one x (.it v r) + cnt x (live σ (sl.set i none)) := by
  rw [live_put (σ := σ.set i (some v)) (v := v) (by simp [h1]) h2, live_st]
theorem Fits.lt {σ : L2.St} {sl : List (Option R)} (f : Fits σ sl) {i : Nat} {r : Option R} (h : sl[i]? = some r) : i < σ.length ∧ i < sl.length := by
  have := (List.getElem?_eq_some_iff.mp h).1
  have := f.len
  omega
theorem Fits.none {σ : L2.St} {sl : List (Option R)} (f : Fits σ sl) (i : Nat) : Fits σ (sl.set i none) := by
  refine ⟨by rw [List.length_set]; exact f.len, fun j r h => ?_⟩
  by_cases e : i = j
  · subst e
    rw [List.getElem?_set] at h
    simp at h
  · rw [List.getElem?_set_ne e] at h
    exact f.has j r h
theorem Fits.put {σ : L2.St} {sl : List (Option R)} (f : Fits σ sl) {i : Nat} {v : V} {r : R} (h1 : σ[i]? = some (some v)) : Fits σ (sl.set i (some r)) := by
  refine ⟨by rw [List.length_set]; exact f.len, fun j r h => ?_⟩
  by_cases e : i = j
  · subst e
    exact ⟨v, h1⟩
  · rw [List.getElem?_set_ne e] at h
    exact f.has j r h
theorem Fits.new {σ : L2.St} {sl : List (Option R)} (f : Fits σ sl) {i : Nat} {v : V} {r : R} : Fits (σ.set i (some v)) (sl.set i (some r)) := by
  refine ⟨by rw [List.length_set, List.length_set]; exact f.len, fun j r h => ?_⟩
  by_cases e : i = j
  · subst e
    have : i < sl.length := by
      have := (List.getElem?_eq_some_iff.mp h).1
      rwa [List.length_set] at this
    exact ⟨v, by rw [List.getElem?_set_self (by rw [f.len]; exact this)]⟩
  · rw [List.getElem?_set_ne e] at h ⊢
    exact f.has j r h
theorem get_iff {e : Env} {i : Nat} {r : R} : e.get i = some r ↔ e.sl[i]? = some (some r) := by
  unfold Env.get
  cases e.sl[i]? with
  | none => simp [Option.join]
  | some o => simp [Option.join]

/-! ### outcomes -/
/-- what is wished behind an error, what else -/
def Post {α : Type} (r : Ev α) (E : Exn → Env → Prop) (P : α → Env → Prop) : Prop := match r with
  | .ok a e => P a e
  | .ex x e => E x e
  | .no => False
theorem Post.bind {α β : Type} {r : Ev α} {f : α → Env → Ev β} {E : Exn → Env → Prop} {P : β → Env → Prop} : Post (r.bind f) E P ↔ Post r E fun a e => Post (f a e) E P := by
  cases r <;> exact Iff.rfl
theorem Post.calm {α : Type} {r : Ev α} {E E' : Exn → Env → Prop} {P : α → Env → Prop} (h : Post r.calm E P) : Post r E' P := by
  cases r <;> first | exact h | exact False.elim h
/-- the class of an error -/
abbrev eC (C : Calls) (x : Exn) : Value := .ref (C.cl x.c)
/-- the wish behind an error, where F is held beside the names -/
def PX (K : PySem.W.Frag) (C : Calls) (Wx : WX) (σ : L2.St) (F : List En) (x : Exn) (e : Env) : Prop := ∀ H', Fits σ e.sl → Own K H' (live σ e.sl ++ F) → Wx (eC C x) none σ H'
theorem PX.wk {K : PySem.W.Frag} {C : Calls} {Wx : WX} {σ : L2.St} {F F' : List En} {x : Exn} {e : Env} (h : PX K C Wx σ F x e) (k : ∀ z, cnt z F ≤ cnt z F') : PX K C Wx σ F' x e := fun H' fi ow => h H' fi (ow.by fun z => by
  have := k z
  simp only [cnt_app]
  omega)

/-! ### what comes out -/
def ent (v : V) : A → List En
  | .val r => [.it v r]
  | .bor _ => []
def bok (σ : L2.St) (v : V) : A → Prop
  | .val _ => True
  | .bor i => σ[i]? = some (some v)
def ents : List V → List A → List En
  | v :: vs, a :: as => ent v a ++ ents vs as
  | _, _ => []
theorem Post.mono {α : Type} {r : Ev α} {E E' : Exn → Env → Prop} {P P' : α → Env → Prop} (h : Post r E P) (k : ∀ a e, P a e → P' a e)
    (q : ∀ x e, E x e → E' x e := by first | exact fun _ _ h => h | exact fun _ _ h => PX.wk h fun z => by simp only [ents, ent, cnt_app, cnt_cons, cnt_nil]; omega) : Post r E' P' := by
  cases r with
  | ok a e => exact k a e h
  | ex x e => exact q x e h
  | no => exact h
inductive Boks (σ : L2.St) : List V → List A → Prop
  | nil : Boks σ [] []
  | cons {v : V} {a : A} {vs : List V} {as : List A} : bok σ v a → Boks σ vs as → Boks σ (v :: vs) (a :: as)
theorem Boks.len {σ : L2.St} : ∀ {vs : List V} {as : List A}, Boks σ vs as → vs.length = as.length
  | _, _, .nil => rfl
  | _, _, .cons _ t => congrArg (· + 1) t.len
section
variable (K : PySem.W.Frag) (C : Calls) (Wx : WX)
/-- what an expression of the small syntax says of the model's -/
def tEv (m : Ex) : TE := fun σ H Q => ∃ e F, Fits σ e.sl ∧ Own K H (live σ e.sl ++ F) ∧ Post (ev C m e) (PX K C Wx σ F) fun a e' => ∀ v H', Fits σ e'.sl → Own K H' (ent v a ++ (live σ e'.sl ++ F)) → bok σ v a → Q v H'
def tTs (m : Ex) : TT := fun σ H Q => ∃ e F, Fits σ e.sl ∧ Own K H (live σ e.sl ++ F) ∧ Post (evT C m e) (PX K C Wx σ F) fun b e' => ∀ H', Fits σ e'.sl → Own K H' (live σ e'.sl ++ F) → Q b H'
def tEvs (ms : Exs) : TA := fun σ H Q => ∃ e F, Fits σ e.sl ∧ Own K H (live σ e.sl ++ F) ∧ Post (evs C ms e) (PX K C Wx σ F) fun as e' => ∀ vs H', Fits σ e'.sl → Own K H' (ents vs as ++ (live σ e'.sl ++ F)) → Boks σ vs as → Q vs H'
end
section
variable {K : PySem.W.Frag} {H : Hp} {F : List En} {σ : L2.St} {e e' : Env} {v : V} {a : A} {r : R}
/-- a thing that is looked at is alive -/
theorem look_mem (f : Fits σ e.sl) (hb : bok σ v a) (h : e.look a = some r) : .it v r ∈ ent v a ++ live σ e.sl := by
  cases a with
  | val r' =>
    have e1 : r' = r := Option.some.inj h
    subst e1
    exact List.mem_append_left _ List.mem_cons_self
  | bor i =>
    have h1 := get_iff.mp h
    have := live_get hb h1 (.it v r)
    rw [one_self] at this
    exact List.mem_append_right _ (cnt_mem (by omega))
theorem looks_mem (f : Fits σ e.sl) : ∀ {vs : List V} {as : List A} {rs : List R}, Boks σ vs as → e.looks as = some rs → vs.length = rs.length ∧ ∀ x ∈ itr vs rs, x ∈ ents vs as ++ live σ e.sl
  | _, _, _, .nil, h => by
    cases h
    exact ⟨rfl, fun _ h => nomatch h⟩
  | _, _, _, .cons (v := v) (a := a) (vs := vs) (as := as) hb t, h => by
    simp only [Env.looks] at h
    cases h1 : e.look a with
    | none =>
      rw [h1] at h
      cases h
    | some r =>
      cases h2 : e.looks as with
      | none =>
        rw [h1, h2] at h
        cases h
      | some rs' =>
        rw [h1, h2] at h
        cases h
        obtain ⟨g1, g2⟩ := looks_mem f t h2
        refine ⟨congrArg (· + 1) g1, fun x hx => ?_⟩
        rcases List.mem_cons.mp hx with rfl | hx
        · have := look_mem f hb h1
          rcases List.mem_append.mp this with h | h
          · exact List.mem_append_left _ (List.mem_append_left _ h)
          · exact List.mem_append_right _ h
        · rcases List.mem_append.mp (g2 x hx) with h | h
          · exact List.mem_append_left _ (List.mem_append_right _ h)
          · exact List.mem_append_right _ h
/-- a thing becomes data that nobody changes -/
theorem frz_ok {d : D} (f : Fits σ e.sl) (hb : bok σ v a) (ow : Own K H (ent v a ++ (live σ e.sl ++ F))) (h : e.frz a = some (d, e')) : Fits σ e'.sl ∧ Own K H (.it v (.frz d) :: (live σ e'.sl ++ F)) := by
  cases a with
  | val r =>
    simp only [Env.frz] at h
    split at h
    · rename_i q
      cases h
      exact ⟨f, Own.frz (r := r) ow q⟩
    · cases h
  | bor i =>
    simp only [Env.frz] at h
    cases h1 : e.get i with
    | none =>
      rw [h1] at h
      cases h
    | some r =>
      rw [h1] at h
      simp only at h
      split at h
      · rename_i q
        cases h
        have g1 := get_iff.mp h1
        have fl := f.lt g1
        refine ⟨f.put hb, ?_⟩
        have ow1 : Own K H (.it v r :: (live σ (e.sl.set i none) ++ F)) := ow.by fun x => by
          have := live_get hb g1 x
          simp only [cnt_cons, cnt_app, ent, cnt_nil] at this ⊢
          omega
        have ow2 := (ow1.frz q).dup List.mem_cons_self
        refine ow2.by fun x => ?_
        have := live_put (r := .frz r.d) hb fl.2 x
        simp only [cnt_cons, cnt_app, Env.set] at this ⊢
        omega
      · cases h
theorem frz_sl {d : D} {e e' : Env} {a : A} (h : e.frz a = some (d, e')) : e'.st = e.st := by
  cases a with
  | val r =>
    simp only [Env.frz] at h
    split at h
    · cases h
      rfl
    · cases h
  | bor i =>
    simp only [Env.frz] at h
    cases h1 : e.get i with
    | none =>
      rw [h1] at h
      cases h
    | some r =>
      rw [h1] at h
      simp only at h
      split at h
      · cases h
        rfl
      · cases h
theorem frzs_ok : ∀ {vs : List V} {as : List A} {ds : List D} {e e' : Env} {F : List En}, Fits σ e.sl → Boks σ vs as → Own K H (ents vs as ++ (live σ e.sl ++ F)) → e.frzs as = some (ds, e') →
    Fits σ e'.sl ∧ vs.length = ds.length ∧ Own K H (itz vs ds ++ (live σ e'.sl ++ F))
  | _, _, _, _, _, _, f, .nil, ow, h => by
    simp only [Env.frzs] at h
    cases h
    exact ⟨f, rfl, ow⟩
  | _, _, _, e, _, F, f, .cons (v := v) (a := a) (vs := vs) (as := as) hb t, ow, h => by
    simp only [Env.frzs] at h
    cases h1 : e.frz a with
    | none =>
      rw [h1] at h
      cases h
    | some p =>
      obtain ⟨d, e1⟩ := p
      rw [h1] at h
      simp only at h
      cases h2 : e1.frzs as with
      | none =>
        rw [h2] at h
        cases h
      | some p2 =>
        obtain ⟨ds', e2⟩ := p2
        rw [h2] at h
        cases h
        obtain ⟨f1, ow1⟩ := frz_ok (F := ents vs as ++ F) f hb (ow.by fun x => by
          simp only [cnt_app, ents]
          omega) h1
        obtain ⟨f2, le, ow2⟩ := frzs_ok (F := .it v (.frz d) :: F) f1 t (ow1.by fun x => by
          simp only [cnt_app, cnt_cons]
          omega) h2
        refine ⟨f2, congrArg (· + 1) le, ow2.by fun x => ?_⟩
        simp only [cnt_app, cnt_cons, itz]
        omega
/-- a thing goes out of its name -/
theorem mov_ok (f : Fits σ e.sl) (hb : bok σ v a) (ow : Own K H (ent v a ++ (live σ e.sl ++ F))) (h : e.mov a = some (r, e')) : Fits σ e'.sl ∧ Own K H (.it v r :: (live σ e'.sl ++ F)) := by
  cases a with
  | val r =>
    cases h
    exact ⟨f, ow⟩
  | bor i =>
    simp only [Env.mov] at h
    cases h1 : e.get i with
    | none =>
      rw [h1] at h
      cases h
    | some r =>
      rw [h1] at h
      cases h
      have g1 := get_iff.mp h1
      refine ⟨f.none i, ow.by fun x => ?_⟩
      have := live_get hb g1 x
      simp only [cnt_cons, cnt_app, ent, cnt_nil, Env.set] at this ⊢
      omega
theorem take_ok (f : Fits σ e.sl) (hb : bok σ v a) (ow : Own K H (ent v a ++ (live σ e.sl ++ F))) (h : e.take a = some (r, e')) : Fits σ e'.sl ∧ Own K H (.it v r :: (live σ e'.sl ++ F)) := by
  cases a with
  | val r =>
    cases h
    exact ⟨f, ow⟩
  | bor i =>
    simp only [Env.take] at h
    cases h1 : e.frz (.bor i) with
    | none =>
      rw [h1] at h
      cases h
    | some p =>
      obtain ⟨d, e1⟩ := p
      rw [h1] at h
      cases h
      exact frz_ok f hb ow h1
end
end Lp

end
section
/-! LpC2: from the model's syntax to the small one: expressions. -/
namespace Lp
open PySem PySem.Spec PyProof.Rows L2

/-- a class of the program's own: its attributes, its methods and what def each is, its __init__ -/
structure CI where
  nm : Str
  fl : List Str
  mt : List (Str × Str)
  init : Str
/-- the classes of the program's own; those of errors that are raised or caught; those that isinstance is asked of -/
structure CS where
  cl : List CI
  er : List Str
  tc : List Str
/-- what is known of a block: its names' places, its scope, the places that it may store to, the module's functions and constants -/
structure SC where
  N : List Str
  sc : Scope
  st : List Nat
  fns : List Str
  gl : List Str
  cs : CS
/-- the class that has an attribute -/
def SC.flOf (S : SC) (f : Str) : Option CI := S.cs.cl.find? fun c => c.fl.contains f
/-- the class that has a method, and the def -/
def SC.mtOf (S : SC) (m : Str) : Option (CI × Str) := match S.cs.cl.find? fun c => (c.mt.lookup m).isSome with
  | some c => (c.mt.lookup m).map fun g => (c, g)
  | none => none
def SC.clOf (S : SC) (x : Str) : Option CI := S.cs.cl.find? fun c => c.nm == x
theorem SC.flOf_ok {S : SC} {f : Str} {c : CI} (h : S.flOf f = some c) : c ∈ S.cs.cl ∧ f ∈ c.fl := ⟨List.mem_of_find?_eq_some h, by simpa using List.find?_some h⟩
theorem SC.mtOf_ok {S : SC} {m g : Str} {c : CI} (h : S.mtOf m = some (c, g)) : c ∈ S.cs.cl ∧ c.mt.lookup m = some g := by
  unfold SC.mtOf at h
  split at h
  · rename_i c' hc
    obtain ⟨g', h1, h2⟩ := Option.map_eq_some_iff.mp h
    cases h2
    exact ⟨List.mem_of_find?_eq_some hc, h1⟩
  · cases h
theorem SC.clOf_ok {S : SC} {x : Str} {c : CI} (h : S.clOf x = some c) : c ∈ S.cs.cl ∧ c.nm = x := ⟨List.mem_of_find?_eq_some h, by simpa using List.find?_some h⟩
/-- what an attribute or a method may be asked of -/
def plainRecv : Expr → Bool
  | .Name .. => true
  | .Call (.Name _ _) (_ :: _) _ _ => true
  | _ => false
def ixOf : List Str → Str → Nat → Option Nat
  | [], _, _ => none
  | y :: l, x, n => if y = x then some n else ixOf l x (n + 1)
theorem ixOf_get : ∀ {l : List Str} {x : Str} {n i : Nat}, ixOf l x n = some i → n ≤ i ∧ l[i - n]? = some x
  | [], _, _, _, h => nomatch h
  | y :: l, x, n, i, h => by
    unfold ixOf at h
    split at h
    · rename_i e
      have : n = i := Option.some.inj h
      subst this
      rw [Nat.sub_self]
      exact ⟨Nat.le_refl _, congrArg some e⟩
    · obtain ⟨h1, h2⟩ := ixOf_get h
      refine ⟨by omega, ?_⟩
      rw [show i - n = (i - (n + 1)) + 1 by omega]
      exact h2
def SC.ix (S : SC) (x : Str) : Option Nat := ixOf S.N x 0
theorem SC.ix_get {S : SC} {x : Str} {i : Nat} (h : S.ix x = some i) : S.N[i]? = some x := by
  have := (ixOf_get h).2
  simpa using this
def visK : Option NameKind → Bool
  | some .local => true | some .cell => true | some .free => true | _ => false
def SC.glb (S : SC) (x : Str) : Bool := decide (S.sc.names.lookup x = some .globalImplicit)
def plainN (x : Str) : Bool := !(x == ("__debug__" : Str)) && !(x == ("__classdict__" : Str)) && !(x == ("__name__" : Str))
def trN (S : SC) (x : Str) : Option Ex :=
  if plainN x = false then none
  else if visK (S.sc.names.lookup x) = true then (S.ix x).map .var
  else if S.glb x = true && S.gl.contains x = true then some (.glob x) else none
def trK : Const → Option D
  | .none => some .non
  | .bool b => some (.bl b)
  | .int i => some (.int i)
  | .str x => some (.str x.cps.toList)
  | _ => none
def unB : Operator → Option BOp
  | .Add => some .add | .Sub => some .sub | .Mult => some .mul | .FloorDiv => some .fdiv | .Mod => some .mod | .Pow => some .pow | _ => none
def unC : CmpOp → COp
  | .Eq => .eq | .NotEq => .ne | .Lt => .lt | .LtE => .le | .Gt => .gt | .GtE => .ge | .Is => .is | .IsNot => .isnot | .In => .isin | .NotIn => .notin
theorem cop_unC (o : CmpOp) : cop (unC o) = o := by cases o <;> rfl
theorem bop_unB {o : Operator} {b : BOp} (h : unB o = some b) : bop b = o := by cases o <;> cases h <;> rfl
def noStar : Expr → Bool
  | .Starred .. => false
  | _ => true
def noSlice : Expr → Bool
  | .Slice .. => false
  | _ => true
def trL (f : Expr → Option Ex) : List Expr → Option Exs
  | [] => some .nil
  | e :: es => match noStar e, f e, trL f es with
    | true, some m, some ms => some (.cons m ms)
    | _, _, _ => none
def trB (f : Expr → Option Ex) (op : BoolOp) : List Expr → Option Ex
  | [] => none
  | [a] => f a
  | a :: r => match f a, trB f op r with
    | some x, some y => some (match op with | .And => .and x y | .Or => .or x y)
    | _, _ => none
def isNosl : Ex → Bool
  | .nosl => true
  | _ => false
def trO (f : Expr → Option Ex) : Option Expr → Option Ex
  | none => some .nosl
  | some e => match f e with
    | some m => if isNosl m = true then none else some m
    | none => none
def tyOf : Expr → Option Ty
  | .Name x _ => if x = ("int" : Str) then some .int else if x = ("bool" : Str) then some .bool else if x = ("str" : Str) then some .str else if x = ("tuple" : Str) then some .tuple
    else if x = ("list" : Str) then some .list else if x = ("dict" : Str) then some .dict else none
  | _ => none
def tysOf : List Expr → Option (List Ty)
  | [] => some []
  | e :: es => match tyOf e, tysOf es with
    | some t, some ts => some (t :: ts)
    | _, _ => none
def nmOf : Expr → Str
  | .Name x _ => x
  | _ => Str.ofString ""
def biOf (x : Str) : Option Bi :=
  if x = ("len" : Str) then some .len else if x = ("all" : Str) then some .all else if x = ("sum" : Str) then some .sum else if x = ("max" : Str) then some .max else if x = ("min" : Str) then some .min
  else if x = ("repr" : Str) then some .repr else if x = ("tuple" : Str) then some .tuple else if x = ("list" : Str) then some .list else if x = ("int" : Str) then some .int else if x = ("divmod" : Str) then some .divmod else if x = ("sorted" : Str) then some .sorted else none
def mtOf (x : Str) : Option Mt :=
  if x = ("append" : Str) then some .append else if x = ("pop" : Str) then some .pop else if x = ("count" : Str) then some .count else if x = ("index" : Str) then some .index else if x = ("extend" : Str) then some .extend else if x = ("reverse" : Str) then some .reverse else none
def trCall (S : SC) (f : Expr → Option Ex) (x : Str) (args : List Expr) : Option Ex :=
  if S.glb x = false || plainN x = false then none
  else if S.fns.contains x = true then (trL f args).map (.call x)
  else if (S.clOf x).isSome = true then (match S.clOf x, args with
    | some c, e :: es => (trL f (e :: es)).map (.new c.nm c.init)
    | _, _ => none)
  else if x = ("isinstance" : Str) then (match args with
    | [a, .Name y p] => match noStar a, S.glb y, f a, tyOf (.Name y p) with
      | true, true, some m, some t => some (.isi m [t])
      | _, _, _, _ => none
    | [a, .Tuple ts _ _] => match noStar a, ts.all (fun e => S.glb (nmOf e)) && decide (ts.length < 1000), f a, tysOf ts with
      | true, true, some m, some ts => some (.isi m ts)
      | _, _, _, _ => none
    | _ => none)
  else match biOf x, args with
    | some b, e :: es => (trL f (e :: es)).map (.bi b)
    | _, _ => none
/-- an error class that isinstance may be asked of -/
def ercOf (S : SC) : Expr → Option Str
  | .Name y _ => if S.glb y && plainN y && (S.cs.tc.contains y || decide (y = ("ValueError" : Str))) then some y else none
  | _ => none
def ercsOf (S : SC) : List Expr → Option (List Str)
  | [] => some []
  | e :: r => match ercOf S e, ercsOf S r with
    | some a, some l => some (a :: l)
    | _, _ => none
/-- isinstance of a caught error -/
def trIsx (S : SC) (f : Expr → Option Ex) (x : Str) (args : List Expr) : Option Ex :=
  if S.glb x && plainN x && decide (x = ("isinstance" : Str)) then (match args with
    | [a, .Name y p] => match noStar a, f a, ercOf S (.Name y p) with
      | true, some m, some t => some (.isx m [t])
      | _, _, _ => none
    | [a, .Tuple ts _ _] => match noStar a && decide (ts.length < 1000 ∧ 0 < ts.length), f a, ercsOf S ts with
      | true, some m, some ts => some (.isx m ts)
      | _, _, _ => none
    | _ => none) else none
/-- defs of the module, by their names -/
def fnsOf (S : SC) : List Expr → Option (List Str)
  | [] => some []
  | .Name x _ :: r => if S.glb x && plainN x && S.fns.contains x then (fnsOf S r).map (x :: ·) else none
  | _ => none
/-- o.m(..), a method of a class of the program's own -/
def trMth (S : SC) (f : Expr → Option Ex) (o : Expr) (m : Str) (args : List Expr) : Option Ex :=
  match S.mtOf m with
  | some (c, g) => if (plainRecv o && decide (args.length < 20)) = true then (match f o, trL f args with
    | some a, some ms => some (.mth c.nm m g a ms)
    | _, _ => none) else none
  | none => none
/-- o.f, an attribute -/
def trFld (S : SC) (f : Expr → Option Ex) (o : Expr) (n : Str) : Option Ex :=
  match S.flOf n with
  | some c => if plainRecv o = true then (match f o with
    | some a => some (.fld c.nm a n)
    | none => none) else none
  | none => none
def trM (S : SC) (f : Expr → Option Ex) (o : Expr) (m : Str) (args : List Expr) : Option Ex :=
  match o with
  | .Name x p => match mtOf m, f (.Name x p), args with
    | some k, some a, [] => some (.mt k a .nil)
    | some k, some a, [e] => match noStar e, f e with
      | true, some b => some (.mt k a (.cons b .nil))
      | _, _ => none
    | _, _, _ => none
  | _ => none
def trSub (f : Expr → Option Ex) (a b : Expr) : Option Ex :=
  match b with
  | .Slice lo hi none _ => match f a, trO f lo, trO f hi with
    | some x, some y, some z => some (.sl x y z)
    | _, _, _ => none
  | .Slice none none (some (.UnaryOp .USub (.Constant (.int 1) _ _) _)) _ => (f a).map .rev
  | .Slice .. => none
  | b => match f a, f b with
    | some x, some y => some (.ix x y)
    | _, _ => none
end Lp

end
section
/-! LpC3: the translation, what a block must bear, targets, walks. -/
namespace Lp
open PySem PySem.Spec PyProof.Rows L2

mutual
def trT (S : SC) : Expr → Option Tg
  | .Name x _ => if plainN x = true then (match S.ix x with
      | some i => if S.st.contains i = true then some (.nm i) else none
      | none => none) else none
  | .Tuple es _ _ => (trTs S es).map .tp
  | .List es _ => (trTs S es).map .ls
  | _ => none
def trTs (S : SC) : List Expr → Option Tgs
  | [] => some .nil
  | e :: es => match noStar e, trT S e, trTs S es with
    | true, some t, some ts => some (.cons t ts)
    | _, _, _ => none
end
mutual
def Tg.sl : Tg → List Nat
  | .nm i => [i]
  | .tp ts => Tgs.sl ts
  | .ls ts => Tgs.sl ts
def Tgs.sl : Tgs → List Nat
  | .nil => []
  | .cons t ts => t.sl ++ Tgs.sl ts
end
def isTupE : Expr → Bool
  | .Tuple .. => true
  | _ => false
def trI (S : SC) (f : Expr → Option Ex) (tg : Expr) (e : Expr) : Option It :=
  match e with
  | .Set .. => none
  | .Call (.Name x p) args [] pos => if S.glb x = true && x = ("range" : Str) then (match args with
      | [a] => match noStar a, f a with
        | true, some m => some (.rg1 m)
        | _, _ => none
      | [a, b] => match noStar a, noStar b, f a, f b with
        | true, true, some m, some k => some (.rg2 m k)
        | _, _, _, _ => none
      | _ => none)
    else if S.glb x = true && x = ("enumerate" : Str) then (match args with
      | [a] => match isTupE tg, noStar a, f a with
        | true, true, some m => some (.en m)
        | _, _, _ => none
      | _ => none)
    else if S.glb x = true && x = ("zip" : Str) then (match args with
      | [a, b] => match isTupE tg, noStar a && noStar b, f a, f b with
        | true, true, some m, some k => some (.zp m k)
        | _, _, _, _ => none
      | _ => none)
    else (f (.Call (.Name x p) args [] pos)).map .sq
  | e => (f e).map .sq
/-- the names of a comprehension's own -/
def ownOf (S : SC) (scope : Scope) : List (Str × Nat) := scope.names.filterMap fun y => match y.2 with
  | .local => (S.ix y.1).map fun i => (y.1, i)
  | .cell => (S.ix y.1).map fun i => (y.1, i)
  | _ => none
def SC.blk (S : SC) (scope : Scope) : SC := ⟨S.N, relS scope S.sc, (ownOf S scope).map (·.2), S.fns, S.gl, S.cs⟩
/-- the own names may be stored -/
def stC (scope : Scope) (own : List (Str × Nat)) : Bool := own.all fun p => decide (scope.names.lookup p.1 = some .local) || decide (scope.names.lookup p.1 = some .cell)
/-- list(range(..)) and tuple(range(..)) -/
def trRg (S : SC) (f : Expr → Option Ex) (x : Str) (args : List Expr) : Option Ex :=
  match args with
  | [.Call (.Name y _) [a] [] _] => if S.glb x && S.glb y && decide (y = ("range" : Str)) && noStar a then (match f a with
      | some m => if x = ("list" : Str) then some (.rg false (.cst (.int 0)) m) else if x = ("tuple" : Str) then some (.rg true (.cst (.int 0)) m) else none
      | none => none) else none
  | [.Call (.Name y _) [a, b] [] _] => if S.glb x && S.glb y && decide (y = ("range" : Str)) && noStar a && noStar b then (match f a, f b with
      | some m, some k => if x = ("list" : Str) then some (.rg false m k) else if x = ("tuple" : Str) then some (.rg true m k) else none
      | _, _ => none) else none
  | _ => none
/-- d.update(e) -/
def trU (f : Expr → Option Ex) (o : Expr) (m : Str) (args : List Expr) : Option Ex :=
  match o, args with
  | .Name x p, [e] => if m = ("update" : Str) && noStar e then (match f (.Name x p), f e with
      | some a, some b => some (.upd a b)
      | _, _ => none) else none
  | _, _ => none
/-- a clause's tests: one, or none -/
def trIfs (f : Expr → Option Ex) : List Expr → Option Ex
  | [] => some (Ex.cst (.bl true))
  | [c] => f c
  | _ => none
def tr : Nat → SC → Expr → Option Ex
  | 0, _, _ => none
  | n + 1, S, e => match e with
    | .Name x _ => trN S x
    | .Constant c _ _ => (trK c).map .cst
    | .BinOp a op b _ => match unB op, tr n S a, tr n S b with
      | some o, some x, some y => some (.bin o x y)
      | _, _, _ => none
    | .UnaryOp .USub a _ => (tr n S a).map .neg
    | .UnaryOp .Not a _ => (tr n S a).map .not
    | .Compare a [op] [b] _ => match behindInMarks op b, tr n S a, tr n S b with
      | false, some x, some y => some (.cmp (unC op) x y)
      | _, _, _ => none
    | .Compare a [op, op'] [b, c] _ => match lastMarks [op, op'] [b, c], tr n S a, tr n S b, tr n S c with
      | false, some x, some y, some z => some (.chain (unC op) (unC op') x y z)
      | _, _, _, _ => none
    | .BoolOp op es _ => trB (tr n S) op es
    | .IfExp c a b _ => match tr n S c, tr n S a, tr n S b with
      | some x, some y, some z => some (.ite x y z)
      | _, _, _ => none
    | .Tuple es _ _ => if es.length < 1000 then (trL (tr n S) es).map .tup else none
    | .List es _ => if es.length < 1000 then (trL (tr n S) es).map .lst else none
    | .Dict [] [] _ => some (.dct .nil .nil)
    | .Dict [some a] [b] _ => match tr n S a, tr n S b with
      | some x, some y => some (.dct (.cons x .nil) (.cons y .nil))
      | _, _ => none
    | .Subscript a b _ => trSub (tr n S) a b
    | .Call (.Name x _) args [] _ => match trRg S (tr n S) x args with
      | some m => some m
      | none => match trCall S (tr n S) x args with
        | some m => some m
        | none => trIsx S (tr n S) x args
    | .Call (.Attribute o m ap) args [] cp => if ap.endLine == cp.line then (match trMth S (tr n S) o m args with
      | some z => some z
      | none => match trU (tr n S) o m args with | some z => some z | none => trM S (tr n S) o m args) else none
    | .Call (.Subscript (.List fs _) i _) (a :: as) [] _ => if fs.length < 1000 && noSlice i then (match fnsOf S fs, tr n S i, trL (tr n S) (a :: as) with
        | some xs, some x, some ms => some (.callt xs x ms)
        | _, _, _ => none) else none
    | .Attribute o f _ => trFld S (tr n S) o f
    | .ListComp elt [⟨tg, iter, ifs, 0⟩, ⟨tg1, iter1, ifs1, 0⟩] scope _ => if blkC S.N S.sc scope (ownOf S scope) && stC scope (ownOf S scope) && decide ((ownOf S scope).map (·.2)).Nodup then (match trT (S.blk scope) tg, trI S (tr n S) tg iter, trIfs (tr n (S.blk scope)) ifs, trT (S.blk scope) tg1, trI (S.blk scope) (tr n (S.blk scope)) tg1 iter1, trIfs (tr n (S.blk scope)) ifs1, tr n (S.blk scope) elt with
      | some t, some it, some c, some t1, some it1, some c1, some x => if t.sl.all (fun j => ((ownOf S scope).map (·.2)).contains j) && t1.sl.all (fun j => ((ownOf S scope).map (·.2)).contains j) && decide t1.sl.Nodup then some (.lc2 ((ownOf S scope).map (·.2)) t it c t1.sl t1 it1 c1 x) else none
      | _, _, _, _, _, _, _ => none) else none
    | .ListComp elt [⟨tg, iter, ifs, 0⟩] scope _ => if blkC S.N S.sc scope (ownOf S scope) && stC scope (ownOf S scope) && decide ((ownOf S scope).map (·.2)).Nodup then (match trT (S.blk scope) tg, trI S (tr n S) tg iter, trIfs (tr n (S.blk scope)) ifs, tr n (S.blk scope) elt with
      | some t, some it, some c, some x => if t.sl.all (fun j => ((ownOf S scope).map (·.2)).contains j) then some (.lc ((ownOf S scope).map (·.2)) t it c x) else none
      | _, _, _, _ => none) else none
    | _ => none

/-- what the names that a def calls mean at the level k -/
def bltFs : List Str := ["len", "all", "sum", "max", "min", "repr", "divmod", "isinstance", "sorted"]
def bltTs : List Str := ["tuple", "list", "int", "bool", "str", "dict", "range", "enumerate", "zip"]
/-- a def's promise: as the small syntax says -/
def spR (K : PySem.W.Frag) (cl : Str → Nat) (run : List R → List R → CR) : Sp := fun vs H Q E => ∃ rs st F, Own K H (itr vs rs ++ F) ∧ vs.length = rs.length ∧
  match run rs st with
  | .ok r ps st' => ∀ v H', Own K H' (.it v r :: (live (vs.map some) ps ++ F)) → Q v H'
  | .ex x ps st' => ∀ H', Own K H' (live (vs.map some) ps ++ F) → E (.ref (cl x.c)) none H'
  | .no => False
abbrev spF (K : PySem.W.Frag) (C : Calls) (f : Str) : Sp := spR K C.cl (C.run f)
/-- what a def promises, where no text of things is being made (no guard stands) -/
structure FnG (P : Program) (w : World) (K : PySem.W.Frag) (mg : Str → Option Value) (base : Heap) (k : Nat) (f : Addr) (fd : FuncData) (ps : List Str) (sp : Sp) : Prop where
  len : ∀ vs H Q E, sp vs H Q E → vs.length = ps.length
  run : ∀ (A : Around) (outer : List PySem.Env) (s : Shared) (H : Hp) (args : Args) (us : List Value) (vs : List V) (Q : VK) (E : XK), A.guards = some [] → Room k A → Env0 P w K mg base A outer s H → BindsTo s fd args (ps.zip us) → Vals vs us → sp vs H Q E →
    codeAny (model P w) A (.call (.ref f) args) (L2.CR (L2N.CX P w) outer P w H s Q E) s
/-- a class of the program's own, as it stands behind the top -/
structure ClsAt (P : Program) (w : World) (K : PySem.W.Frag) (mg : Str → Option Value) (base : Heap) (C : Calls) (k : Nat) (c : CI) : Prop where
  at_ : mg c.nm = some (.ref (C.cl c.nm))
  kp : PySem.W.keepIn K (.ref (C.cl c.nm)) = true
  cl : Cls K (C.cl c.nm)
  na : ∀ f ∈ c.fl, NoAttr K (C.cl c.nm) f
  mt : ∀ m g, c.mt.lookup m = some g → ∃ (f : Addr) (fd : FuncData) (ps : List Str), FnG P w K mg base k f fd ps (spF K C g) ∧ Meth K (C.cl c.nm) m f ∧ Binds K fd ps []
  made : (∀ rs st, C.mkr c.init rs st = .no) ∨ ∃ (j : Nat) (f : Addr) (fd : FuncData) (ps : List Str), j + 1 ≤ k ∧ FnG P w K mg base j f fd ps (spR K C.cl (C.mkr c.init)) ∧ Mk K (C.cl c.nm) f ∧ Binds K fd ps []
/-- an error class of the program's own, over ValueError -/
structure ErrAt (K : PySem.W.Frag) (mg : Str → Option Value) (cl : Str → Nat) (x : Str) : Prop where
  at_ : mg x = some (.ref (cl x))
  kp : PySem.W.keepIn K (.ref (cl x)) = true
  ex : PySem.W.excIn K (cl x) [.type "ValueError", .type "Exception", .type "BaseException", .type "object"] "ValueError.__new__" = true
  sb : PySem.W.subIn K (.ref (cl x)) (.type "BaseException") = some true
  ty : PySem.W.typeIn K (.ref (cl x)) = some (.type "type")
  ec : ExcC K (cl x)
/-- the class that a name means in an except clause, or when isinstance is asked -/
def cvE (cl : Str → Nat) (x : Str) : Value := if x = ("ValueError" : Str) then .type "ValueError" else .ref (cl x)
/-- what stands of the error classes -/
structure ErrsAt (K : PySem.W.Frag) (mg : Str → Option Value) (cl : Str → Nat) (sub : Str → Str → Option Bool) (cs : CS) : Prop where
  er : ∀ x ∈ cs.er, ErrAt K mg cl x
  tc : ∀ x ∈ cs.tc, mg x = some (.ref (cl x))
  ve : mg "ValueError" = none
  sub : ∀ n x b, sub n x = some b → n ∈ cs.er ∧ PySem.W.subIn K (.ref (cl n)) (cvE cl x) = some b ∧ PySem.W.kitOne K (.ref (cl n)) (cvE cl x) = some b
structure Mo (P : Program) (w : World) (K : PySem.W.Frag) (mg : Str → Option Value) (base : Heap) (C : Calls) (k : Nat) (fns gl : List Str) (cs : CS) : Prop where
  er : ErrsAt K mg C.cl C.sub cs
  cs : ∀ c ∈ cs.cl, ClsAt P w K mg base C k c
  bl : ∀ x, x ∈ bltFs ∨ x ∈ bltTs → mg x = none
  gl : ∀ x ∈ gl, ∀ d, C.glob x = some d → ∃ v u, mg x = some u ∧ RelV v u ∧ ∀ F m, Dr K F m v d
  fn : ∀ x ∈ fns, ∃ (f : Addr) (fd : FuncData) (ps : List Str), FnG P w K mg base k f fd ps (spF K C x) ∧ mg x = some (.ref f) ∧ PySem.W.keepIn K (.ref f) = true ∧ Binds K fd ps []
structure Good (X : Cx) (S : SC) (C : Calls) (k : Nat) (Wx : WX) : Prop where
  n : X.N = S.N
  nd : S.N.Nodup
  sc : X.env.scope = S.sc
  calm : X.calm = true
  room : Room k X.A
  gd : X.A.guards = some []
  st : ∀ i ∈ S.st, ∀ x, S.N[i]? = some x → Loc S.sc x ∧ (X.fn x = true ∨ S.sc.names.lookup x = some .local)
  tk : L2N.Takes X Wx
  po : PassesOwn (model X.prog X.w) X.A X.env X.xe
  mo : Mo X.prog X.w X.K X.mg X.base C k S.fns S.gl S.cs
section
variable {X : Cx} {S : SC} {C : Calls} {Wx : WX} {k : Nat}
theorem Good.blk (g : Good X S C k Wx) {scope : Scope} (h2 : stC scope (ownOf S scope) = true) (s : Shared) (H : Hp) (Ca : Addr) (cl : List (Str × Addr)) (fp : List Addr) :
    Good (X.blk s H scope (compEnvC scope cl Ca X.env) fp) (S.blk scope) C k (fun _ _ _ _ => False) where
  n := g.n
  nd := g.nd
  sc := by
    show relabel scope X.env = relS scope S.sc
    rw [← g.sc]
    rfl
  calm := g.calm
  room := g.room
  gd := g.gd
  st := by
    intro i hi x hx
    obtain ⟨p, hp, e⟩ := List.mem_map.mp hi
    unfold stC at h2
    have q := List.all_eq_true.mp h2 p hp
    rw [Bool.or_eq_true, decide_eq_true_eq, decide_eq_true_eq] at q
    have ep : p.1 = x := by
      unfold ownOf at hp
      obtain ⟨y, hy, e2⟩ := List.mem_filterMap.mp hp
      have viaI : (S.ix y.1).map (fun i => (y.1, i)) = some p → p.1 = x := fun h => by
        obtain ⟨j, hj, e3⟩ := Option.map_eq_some_iff.mp h
        subst e3
        subst e
        have := SC.ix_get hj
        have hx : S.N[j]? = some x := hx
        rw [this] at hx
        exact Option.some.inj hx
      split at e2
      · exact viaI e2
      · exact viaI e2
      · cases e2
    subst ep
    show Loc (relS scope S.sc) p.1 ∧ ((scope.names.lookup p.1 == some .cell) = true ∨ (relS scope S.sc).names.lookup p.1 = some .local)
    rcases q with q | q
    · have := lookup_relS_keep (sc := S.sc) (by decide) q
      exact ⟨.inl this, .inr this⟩
    · have := lookup_relS_keep (sc := S.sc) (by decide) q
      exact ⟨.inr this, .inl (by rw [q]; rfl)⟩
  tk := fun _ _ ⟨_, _, _, _, _, _, _, _, _, _, _, _, _, _, _, _, w⟩ => w.elim
  po := PassesOwn.never
  mo := g.mo

/-! ### targets -/
/-- σ' is σ but at ws -/
structure Agr (ws : List Nat) (σ σ' : L2.St) : Prop where
  len : σ'.length = σ.length
  at_ : ∀ j, j ∉ ws → σ'[j]? = σ[j]?
theorem Agr.refl (ws : List Nat) (σ : L2.St) : Agr ws σ σ := ⟨rfl, fun _ _ => rfl⟩
theorem Agr.trans {ws : List Nat} {a b c : L2.St} (h : Agr ws a b) (k : Agr ws b c) : Agr ws a c := ⟨k.len.trans h.len, fun j hj => (k.at_ j hj).trans (h.at_ j hj)⟩
theorem Agr.mono {ws ws' : List Nat} {a b : L2.St} (h : Agr ws a b) (k : ∀ j ∈ ws, j ∈ ws') : Agr ws' a b := ⟨h.len, fun j hj => h.at_ j fun z => hj (k j z)⟩
theorem Agr.set {ws : List Nat} {σ : L2.St} {i : Nat} {v : Option V} (h : i ∈ ws) : Agr ws σ (σ.set i v) := ⟨List.length_set, fun j hj => List.getElem?_set_ne fun e => hj (by rw [← e]; exact h)⟩
def tTg (K : PySem.W.Frag) (t : Tg) : TG := fun v σ H Q => ∃ e F r e', Fits σ e.sl ∧ Own K H (.it v r :: (live σ e.sl ++ F)) ∧ stT t r e = some e' ∧ e'.st = e.st ∧ ∀ σ' H', Agr t.sl σ σ' → Fits σ' e'.sl → Own K H' (live σ' e'.sl ++ F) → Q σ' H'
def tTgs (K : PySem.W.Frag) (t : Tgs) : TGs := fun vs σ H Q => ∃ e F rs e', Fits σ e.sl ∧ vs.length = rs.length ∧ Own K H (itr vs rs ++ (live σ e.sl ++ F)) ∧ stTs t rs e = some e' ∧ ∀ σ' H', Agr t.sl σ σ' → Fits σ' e'.sl → Own K H' (live σ' e'.sl ++ F) → Q σ' H'
theorem _root_.L2.PG.wk {tg : Expr} {t t' : TG} (h : PG X tg t) (k : ∀ v σ H Q, t' v σ H Q → t v σ H Q) : PG X tg t' := ⟨fun pins s σ H v u Q I r w => h.run pins s σ H v u Q I r (k _ _ _ _ w)⟩
theorem _root_.L2.PGs.wk {tg : List Expr} {t t' : TGs} (h : PGs X tg t) (k : ∀ v σ H Q, t' v σ H Q → t v σ H Q) : PGs X tg t' := ⟨fun pins s σ H v u Q I r w => h.run pins s σ H v u Q I r (k _ _ _ _ w)⟩
theorem each_star : ∀ {es : List Expr} {env : PySem.Env}, es.all noStar = true → (assignEach es env).length = es.length ∧ (assignEach es env).findIdx? (·.1) = none
  | [], _, _ => ⟨rfl, rfl⟩
  | e :: es, env, h => by
    rw [List.all_cons, Bool.and_eq_true] at h
    obtain ⟨h1, h2⟩ := each_star (env := env) h.2
    have e1 : assignEach (e :: es) env = (false, assign e env) :: assignEach es env := by
      cases e <;> first | rfl | cases h.1
    rw [e1]
    refine ⟨congrArg (· + 1) h1, ?_⟩
    rw [List.findIdx?_cons]
    simp [h2]
theorem trTs_star : ∀ {es : List Expr} {ts : Tgs}, trTs S es = some ts → es.all noStar = true
  | [], _, _ => rfl
  | e :: es, ts, h => by
    unfold trTs at h
    split at h
    · rename_i h1 h2 h3
      rw [List.all_cons, h1, trTs_star h3]
      rfl
    · cases h
theorem itr_frz : ∀ (xs : List V) (ds : List D), itr xs (ds.map .frz) = itz xs ds
  | [], _ => rfl
  | _ :: _, [] => rfl
  | x :: xs, d :: ds => congrArg (_ :: ·) (itr_frz xs ds)
theorem pg_listT {es : List Expr} {pos : Pos} {t : TGs} {n : Nat} (hc : X.calm = true) (h : PGs X es t) (hn : (assignEach es X.env).length = n) (hst : (assignEach es X.env).findIdx? (·.1) = none) : PG X (.List es pos) (gLst X.K n t) :=
  ⟨fun pins s σ H v u Q I r hw => by
    have z := (pg_lst (k := 0) (pos := pos) hc h hn hst).run pins s σ H v u Q I r hw
    rw [assign_Tuple] at z
    rw [arm_assign_List]
    exact z⟩
theorem comps_len {r : R} {rs : List R} {K : PySem.W.Frag} {H : Hp} {L : List En} {v : V} (ow : Own K H (.it v r :: L)) (h : r.comps = some rs) : ∃ a xs, v = .ref a ∧ SqT K H a xs ∧ xs.length = rs.length ∧ Own K H (itr xs rs ++ L) := by
  unfold R.comps at h
  split at h
  · rename_i ds
    have e := Option.some.inj h
    subst e
    obtain ⟨a, xs, rfl, rd, len, ow1⟩ := ow.atT List.mem_cons_self
    refine ⟨a, xs, rfl, .inl rd, by rw [List.length_map]; exact len, ow1.by fun x => ?_⟩
    have : ∀ (xs : List V) (ds : List D), itr xs (ds.map .frz) = itz xs ds := by
      intro xs
      induction xs with
      | nil => intro ds; rfl
      | cons x xs ih =>
        intro ds
        cases ds with
        | nil => rfl
        | cons d ds => exact congrArg (_ :: ·) (ih ds)
    rw [this]
    simp only [cnt_app, cnt_cons]
    omega
  · have e := Option.some.inj h
    subst e
    obtain ⟨a, xs, rfl, ha, len, ow1⟩ := ow.openT
    exact ⟨a, xs, rfl, .inl (.inl ha), len, ow1.tail⟩
  · cases h
mutual
theorem stT_st : ∀ {t : Tg} {r : R} {e e' : Lp.Env}, stT t r e = some e' → e'.st = e.st
  | .nm i, r, e, e', h => by
    simp only [stT] at h
    cases h
    rfl
  | .tp ts, r, e, e', h => by
    simp only [stT] at h
    split at h
    · exact stTs_st h
    · cases h
  | .ls ts, r, e, e', h => by
    simp only [stT] at h
    split at h
    · exact stTs_st h
    · cases h
theorem stTs_st : ∀ {t : Tgs} {r : List R} {e e' : Lp.Env}, stTs t r e = some e' → e'.st = e.st
  | .nil, [], e, e', h => by
    simp only [stTs] at h
    cases h
    rfl
  | .nil, _ :: _, e, e', h => by simp [stTs] at h
  | .cons t ts, [], e, e', h => by simp [stTs] at h
  | .cons t ts, r :: rs, e, e', h => by
    simp only [stTs] at h
    split at h
    · rename_i e1 h1
      exact (stTs_st h).trans (stT_st h1)
    · cases h
end
mutual
theorem pg_ok (g : Good X S C k Wx) : ∀ {tg : Expr} {t : Tg}, trT S tg = some t → (∀ j ∈ t.sl, j ∈ S.st) ∧ PG X tg (tTg X.K t)
  | .Name x pos, t, h => by
    unfold trT at h
    split at h
    · rename_i hp
      split at h
      · rename_i i hi
        split at h
        · rename_i hs
          have e := Option.some.inj h
          subst e
          have hs : i ∈ S.st := by simpa using hs
          have hN := SC.ix_get hi
          obtain ⟨l1, l2⟩ := g.st i hs x hN
          refine ⟨fun j hj => ?_, (pg_name (i := i) (by rw [g.n]; exact g.nd) (by rw [g.n]; exact hN) (by rw [g.sc]; exact l1) (by rw [g.sc]; exact l2)).wk fun v σ H Q hq => ?_⟩
          · have : j = i := by simpa [Tg.sl] using hj
            exact this ▸ hs
          · obtain ⟨e, F, r, e', fi, ow, hst, _, q⟩ := hq
            have e1 : e.set i (some r) = e' := by
              simp only [stT] at hst
              exact Option.some.inj hst
            subst e1
            by_cases hl : i < σ.length
            · refine q _ _ (Agr.set (by simp [Tg.sl])) fi.new (ow.by fun z => ?_)
              have := live_new (v := v) (r := r) hl (by rw [← fi.len]; exact hl) z
              have := live_none_le (σ := σ) (sl := e.sl) (i := i) z
              simp only [Env.set, cnt_app, cnt_cons] at *
              omega
            · have e1 : σ.set i (some v) = σ := List.set_eq_of_length_le (by omega)
              have e2 : (e.set i (some r)).sl = e.sl := List.set_eq_of_length_le (by have := fi.len; omega)
              refine q _ _ (by rw [e1]; exact Agr.refl _ _) (by rw [e1, e2]; exact fi) (by rw [e1, e2]; exact ow.tail)
        · cases h
      · cases h
    · cases h
  | .Tuple es kk pos, t, h => by
    unfold trT at h
    obtain ⟨ts, h1, e⟩ := Option.map_eq_some_iff.mp h
    subst e
    obtain ⟨g1, g2⟩ := pgs_ok g h1
    obtain ⟨l1, l2⟩ := each_star (env := X.env) (trTs_star h1)
    refine ⟨g1, (pg_tup g.calm g2 l1 l2).wk fun v σ H Q hq => ?_⟩
    obtain ⟨e, F, r, e', fi, ow, hst, _, q⟩ := hq
    simp only [stT] at hst
    split at hst
    · rename_i rs hr
      obtain ⟨a, xs, ev, sq, len, ow1⟩ := comps_len ow hr
      refine ⟨a, xs, ev, sq, ?_, e, F, rs, e', fi, len, ow1, hst, q⟩
      rw [len]
      exact pgs_len h1 hst
    · cases hst
  | .BoolOp .., _, h => by simp [trT] at h
  | .NamedExpr .., _, h => by simp [trT] at h
  | .BinOp .., _, h => by simp [trT] at h
  | .UnaryOp .., _, h => by simp [trT] at h
  | .Lambda .., _, h => by simp [trT] at h
  | .IfExp .., _, h => by simp [trT] at h
  | .Dict .., _, h => by simp [trT] at h
  | .Set .., _, h => by simp [trT] at h
  | .ListComp .., _, h => by simp [trT] at h
  | .SetComp .., _, h => by simp [trT] at h
  | .DictComp .., _, h => by simp [trT] at h
  | .GeneratorExp .., _, h => by simp [trT] at h
  | .Await .., _, h => by simp [trT] at h
  | .Yield .., _, h => by simp [trT] at h
  | .YieldFrom .., _, h => by simp [trT] at h
  | .Compare .., _, h => by simp [trT] at h
  | .Call .., _, h => by simp [trT] at h
  | .FormattedValue .., _, h => by simp [trT] at h
  | .JoinedStr .., _, h => by simp [trT] at h
  | .Constant .., _, h => by simp [trT] at h
  | .Attribute .., _, h => by simp [trT] at h
  | .Subscript .., _, h => by simp [trT] at h
  | .Starred .., _, h => by simp [trT] at h
  | .List es pos, t, h => by
    unfold trT at h
    obtain ⟨ts, h1, e⟩ := Option.map_eq_some_iff.mp h
    subst e
    obtain ⟨g1, g2⟩ := pgs_ok g h1
    obtain ⟨l1, l2⟩ := each_star (env := X.env) (trTs_star h1)
    refine ⟨g1, (pg_listT g.calm g2 l1 l2).wk fun v σ H Q hq => ?_⟩
    obtain ⟨e, F, r, e', fi, ow, hst, _, q⟩ := hq
    simp only [stT] at hst
    split at hst
    · rename_i l hr
      obtain ⟨a, xs, ev, sx, len, ow1⟩ := ow.atL List.mem_cons_self hr
      refine ⟨a, xs, ev, sx.sqL, ?_, e, F, l.map .frz, e', fi, by rw [List.length_map]; exact len, ow1.by fun x => ?_, hst, q⟩
      · rw [len, ← pgs_len h1 hst, List.length_map]
      · rw [itr_frz]
        simp only [cnt_app, cnt_cons]
        omega
    · cases hst
  | .Slice .., _, h => by simp [trT] at h
theorem pgs_ok (g : Good X S C k Wx) : ∀ {tgs : List Expr} {ts : Tgs}, trTs S tgs = some ts → (∀ j ∈ ts.sl, j ∈ S.st) ∧ PGs X tgs (tTgs X.K ts)
  | [], ts, h => by
    unfold trTs at h
    have e := Option.some.inj h
    subst e
    refine ⟨fun j hj => by simp [Tgs.sl] at hj, pgs_nil.wk fun vs σ H Q hq => ?_⟩
    obtain ⟨e, F, rs, e', fi, len, ow, hst, q⟩ := hq
    cases rs with
    | nil =>
      simp only [stTs] at hst
      have e1 := Option.some.inj hst
      subst e1
      have ev : vs = [] := List.eq_nil_of_length_eq_zero len
      subst ev
      exact ⟨rfl, q _ _ (Agr.refl _ _) fi ow⟩
    | cons _ _ => simp [stTs] at hst
  | tg :: tgs, ts, h => by
    unfold trTs at h
    split at h
    · rename_i t ts' hs h1 h2
      have e := Option.some.inj h
      subst e
      obtain ⟨a1, a2⟩ := pg_ok g h1
      obtain ⟨b1, b2⟩ := pgs_ok g h2
      refine ⟨fun j hj => ?_, (pgs_cons a2 b2 (by cases tg <;> first | rfl | cases hs)).wk fun vs σ H Q hq => ?_⟩
      · rcases List.mem_append.mp (by simpa only [Tgs.sl] using hj) with hj | hj
        · exact a1 j hj
        · exact b1 j hj
      · obtain ⟨e, F, rs, e', fi, len, ow, hst, q⟩ := hq
        cases rs with
        | nil => simp [stTs] at hst
        | cons r rs =>
          cases vs with
          | nil => cases len
          | cons v vs =>
            simp only [stTs] at hst
            split at hst
            · rename_i e1 he1
              refine ⟨v, vs, rfl, e, itr vs rs ++ F, r, e1, fi, ow.by fun z => ?_, he1, stT_st he1, fun σ1 H1 ag1 fi1 ow1 => ?_⟩
              · simp only [itr, cnt_cons, cnt_app]
                omega
              · refine ⟨e1, F, rs, e', fi1, Nat.succ.inj len, ow1.by fun z => ?_, hst, fun σ2 H2 ag2 fi2 ow2 => q _ _ ?_ fi2 ow2⟩
                · simp only [cnt_app]
                  omega
                · exact (ag1.mono fun j hj => by simp only [Tgs.sl]; exact List.mem_append_left _ hj).trans (ag2.mono fun j hj => by simp only [Tgs.sl]; exact List.mem_append_right _ hj)
            · cases hst
    · cases h
theorem pgs_len : ∀ {tgs : List Expr} {ts : Tgs} {rs : List R} {e e' : Lp.Env}, trTs S tgs = some ts → stTs ts rs e = some e' → rs.length = tgs.length
  | [], ts, rs, e, e', h, h2 => by
    unfold trTs at h
    have e := Option.some.inj h
    subst e
    cases rs with
    | nil => rfl
    | cons _ _ => simp [stTs] at h2
  | tg :: tgs, ts, rs, e, e', h, h2 => by
    unfold trTs at h
    split at h
    · rename_i t ts' hs h1 h3
      have e := Option.some.inj h
      subst e
      cases rs with
      | nil => simp [stTs] at h2
      | cons r rs =>
        simp only [stTs] at h2
        split at h2
        · exact congrArg (· + 1) (pgs_len h3 h2)
        · cases h2
    · cases h
end
end
end Lp

end
section
/-! LpC4: the parts of an expression, one by one. -/
namespace Lp
open PySem PySem.Spec PyProof.Rows L2
theorem _root_.L2.PE.wk {X : Cx} {e : Expr} {t t' : TE} (h : PE X e t) (k : ∀ σ H Q, t' σ H Q → t σ H Q) : PE X e t' := ⟨fun pins s σ H Q I w => h.run pins s σ H Q I (k _ _ _ w)⟩
theorem _root_.L2.PT.wk {X : Cx} {e : Expr} {t t' : TT} (h : PT X e t) (k : ∀ σ H Q, t' σ H Q → t σ H Q) : PT X e t' := ⟨fun pins s σ H Q I w => h.run pins s σ H Q I (k _ _ _ w)⟩
theorem _root_.L2.PW.wk {X : Cx} {e : Expr} {t t' : TT} (h : PW X e t) (k : ∀ σ H Q, t' σ H Q → t σ H Q) : PW X e t' := ⟨fun w pins s σ H Q I w' => h.run w pins s σ H Q I (k _ _ _ w')⟩
theorem _root_.L2.PA.wk {X : Cx} {e : List Expr} {t t' : TA} (h : PA X e t) (k : ∀ σ H Q, t' σ H Q → t σ H Q) : PA X e t' := ⟨fun p pins s σ H Q I w => h.run p pins s σ H Q I (k _ _ _ w)⟩
theorem evT_eq (C : Calls) (a : Ex) (e : Env) : evT C a e = (ev C a e).bind asB := by rw [evT]
section
variable {X : Cx} {S : SC} {C : Calls} {Wx : WX} {k : Nat} {a b c : Expr} {ma mb mc : Ex} {pos : Pos}
/-- a test's value -/
theorem asB_ok {K : PySem.W.Frag} {H : Hp} {F : List En} {e : Env} {σ : L2.St} {v : V} {x : A} {E : Exn → Env → Prop} {P : Bool → Env → Prop} (ow : Own K H (ent v x ++ (live σ e.sl ++ F))) (h : Post (asB x e) E P) : ∃ t, v = .bl t ∧ P t e ∧ Own K H (live σ e.sl ++ F) := by
  unfold asB at h
  split at h
  · rename_i t
    have e1 := ow.atB (List.mem_append_left _ List.mem_cons_self)
    exact ⟨t, e1, h, ow.dropL⟩
  · exact h.elim
theorem tTs_of {K : PySem.W.Frag} {m : Ex} {σ : L2.St} {H : Hp} {Q : Bool → Hp → Prop} (h : tTs K C Wx m σ H Q) : tEv K C Wx m σ H fun x H' => ∃ t, x = .bl t ∧ Q t H' := by
  obtain ⟨e, F, fi, ow, p⟩ := h
  rw [evT_eq, Post.bind] at p
  refine ⟨e, F, fi, ow, p.mono fun x e1 p1 v H1 fi1 ow1 b1 => ?_⟩
  obtain ⟨t, e2, q, ow2⟩ := asB_ok ow1 p1
  exact ⟨t, e2, q H1 fi1 ow2⟩
/-- a test whose value is asked -/
theorem s_test (ha : PE X a (tEv X.K C Wx ma)) (he : ∀ whole, isTrue a X.env whole = (do let v ← whole; standAt a.pos; holding [v] (truthy v))) : PT X a (tTs X.K C Wx ma) := (pt_val ha he).wk fun σ H Q h => tTs_of h
theorem val_of {K : PySem.W.Frag} {H : Hp} {F : List En} {e : Env} {σ : L2.St} {o : Option R} {E : Exn → Env → Prop} {P : A → Env → Prop} (h : Post (onVal o e) E P) : ∃ z, o = some z ∧ P (.val z) e := by
  unfold onVal at h
  cases o with
  | none => exact h.elim
  | some z => exact ⟨z, rfl, h⟩
/-- two things, then an operation -/
theorem two {K : PySem.W.Frag} {f : R → R → Option R} {ma mb : Ex} {σ : L2.St} {H : Hp} {Q : VK} {e : Env} {F : List En} (fi : Fits σ e.sl) (ow : Own K H (live σ e.sl ++ F))
    (p : Post ((ev C ma e).bind fun x e1 => (ev C mb e1).bind fun y e2 => match e2.look x, e2.look y with | some r, some s => onVal (f r s) e2 | _, _ => .no) (PX K C Wx σ F) fun a e' => ∀ v H', Fits σ e'.sl → Own K H' (ent v a ++ (live σ e'.sl ++ F)) → bok σ v a → Q v H') :
    tOp (rB K f) (tEv K C Wx ma) (tEv K C Wx mb) σ H Q := by
  rw [Post.bind] at p
  refine ⟨e, F, fi, ow, p.mono fun x e1 p1 v H1 fi1 ow1 b1 => ?_⟩
  rw [Post.bind] at p1
  refine ⟨e1, ent v x ++ F, fi1, ow1.by fun z => by simp only [cnt_app]; omega, p1.mono fun y e2 p2 u H2 fi2 ow2 b2 => ?_⟩
  split at p2
  · rename_i r s hr hs
    obtain ⟨z, hz, q⟩ := val_of (K := K) (H := H2) (F := F) (σ := σ) p2
    have m1 := look_mem fi2 b1 hr
    have m2 := look_mem fi2 b2 hs
    refine ⟨_, r, s, z, ow2, ?_, ?_, hz, fun w H3 ow3 => q w H3 fi2 (ow3.by fun y => ?_) trivial⟩
    · rcases List.mem_append.mp m1 with h | h
      · exact List.mem_append_right _ (List.mem_append_right _ (List.mem_append_left _ h))
      · exact List.mem_append_right _ (List.mem_append_left _ h)
    · rcases List.mem_append.mp m2 with h | h
      · exact List.mem_append_left _ h
      · exact List.mem_append_right _ (List.mem_append_left _ h)
    · simp only [ent, cnt_app, cnt_cons, cnt_nil]
      omega
  · exact p2.elim
theorem s_bin {o : BOp} (ha : PE X a (tEv X.K C Wx ma)) (hb : PE X b (tEv X.K C Wx mb)) : PE X (.BinOp a (bop o) b pos) (tEv X.K C Wx (.bin o ma mb)) := (pe_op (op_bin o) ha hb).wk fun σ H Q h => by
  obtain ⟨e, F, fi, ow, p⟩ := h
  rw [ev] at p
  exact two fi ow p
theorem cmp_two {K : PySem.W.Frag} {o : COp} {σ : L2.St} {H : Hp} {Q : VK} (h : tEv K C Wx (.cmp o ma mb) σ H Q) : tOp (rB K (cmpR o)) (tEv K C Wx ma) (tEv K C Wx mb) σ H Q := by
  obtain ⟨e, F, fi, ow, p⟩ := h
  rw [ev] at p
  exact two fi ow p
theorem s_cmp {o : COp} (g : Good X S C k Wx) (ha : PE X a (tEv X.K C Wx ma)) (hb : PE X b (tEv X.K C Wx mb)) (hm : behindInMarks (cop o) b = false) : PE X (.Compare a [cop o] [b] pos) (tEv X.K C Wx (.cmp o ma mb)) ∧ PT X (.Compare a [cop o] [b] pos) (tTs X.K C Wx (.cmp o ma mb)) :=
  have hu : X.A.units + 65 < cLine := by have := g.room.un; omega
  ⟨(pe_cmpR (op_cmp hu o) ha hb hm).wk fun σ H Q h => cmp_two h, (pt_cmpR (op_cmp hu o) ha hb hm).wk fun σ H Q h => cmp_two (tTs_of h)⟩
theorem chain_two {K : PySem.W.Frag} {o p : COp} {σ : L2.St} {H : Hp} {Q : VK} (h : tEv K C Wx (.chain o p ma mb mc) σ H Q) : tChain (rB K (cmpR o)) (rB K (cmpR p)) (tEv K C Wx ma) (tEv K C Wx mb) (tEv K C Wx mc) σ H Q := by
  obtain ⟨e, F, fi, ow, p⟩ := h
  rw [ev, Post.bind] at p
  refine ⟨e, F, fi, ow, p.mono fun x e1 p1 v H1 fi1 ow1 b1 => ?_⟩
  rw [Post.bind] at p1
  refine ⟨e1, ent v x ++ F, fi1, ow1.by fun z => by simp only [cnt_app]; omega, p1.mono fun y e2 p2 u H2 fi2 ow2 b2 => ?_⟩
  split at p2
  · rename_i r s hr hs
    have m1 := look_mem fi2 b1 hr
    have m2 := look_mem fi2 b2 hs
    have mm1 : .it v r ∈ ent u y ++ (live σ e2.sl ++ (ent v x ++ F)) := by
      rcases List.mem_append.mp m1 with h | h
      · exact List.mem_append_right _ (List.mem_append_right _ (List.mem_append_left _ h))
      · exact List.mem_append_right _ (List.mem_append_left _ h)
    have mm2 : .it u s ∈ ent u y ++ (live σ e2.sl ++ (ent v x ++ F)) := by
      rcases List.mem_append.mp m2 with h | h
      · exact List.mem_append_left _ h
      · exact List.mem_append_right _ (List.mem_append_left _ h)
    rw [Post.bind] at p2
    cases hc : cmpD o r.d s.d with
    | none =>
      rw [hc] at p2
      exact p2.elim
    | some tt =>
    rw [hc] at p2
    have p2 : Post (if tt = true then _ else _ : Ev A) _ _ := p2
    cases tt with
    | true =>
      rw [if_pos rfl] at p2
      refine ⟨_, r, s, .frz (.bl true), ow2, mm1, mm2, ?_, fun w H3 ow3 => ⟨true, ow3.atB List.mem_cons_self, ?_⟩⟩
      · unfold cmpR
        rw [hc]
        rfl
      · rw [if_pos rfl]
        rw [Post.bind] at p2
        refine ⟨e2, ent u y ++ (ent v x ++ F), fi2, ow3.by fun z => by simp only [cnt_app, cnt_cons]; omega, p2.mono fun zz e3 p3 t H4 fi4 ow4 b4 => ?_⟩
        split at p3
        · rename_i s' t' hs' ht'
          obtain ⟨z, hz, q⟩ := val_of (K := K) (H := H2) (F := F) (σ := σ) p3
          have n1 := look_mem fi4 b2 hs'
          have n2 := look_mem fi4 b4 ht'
          refine ⟨_, s', t', z, ow4, ?_, ?_, hz, fun w H5 ow5 => q w H5 fi4 (ow5.by fun y => ?_) trivial⟩
          · rcases List.mem_append.mp n1 with h | h
            · exact List.mem_append_right _ (List.mem_append_right _ (List.mem_append_left _ h))
            · exact List.mem_append_right _ (List.mem_append_left _ h)
          · rcases List.mem_append.mp n2 with h | h
            · exact List.mem_append_left _ h
            · exact List.mem_append_right _ (List.mem_append_left _ h)
          · simp only [ent, cnt_app, cnt_cons, cnt_nil]
            omega
        · exact p3.elim
    | false =>
      rw [if_neg Bool.false_ne_true] at p2
      refine ⟨_, r, s, .frz (.bl false), ow2, mm1, mm2, ?_, fun w H3 ow3 => ⟨false, ow3.atB List.mem_cons_self, ?_⟩⟩
      · unfold cmpR
        rw [hc]
        rfl
      · rw [if_neg Bool.false_ne_true]
        have ew := ow3.atB List.mem_cons_self
        subst ew
        exact p2 (.bl false) H3 fi2 (ow3.by fun z => by simp only [ent, cnt_app, cnt_cons, cnt_nil]; omega) trivial
  · exact p2.elim
theorem s_chain {o p : COp} (g : Good X S C k Wx) (ha : PE X a (tEv X.K C Wx ma)) (hb : PE X b (tEv X.K C Wx mb)) (hc : PE X c (tEv X.K C Wx mc)) (hm : lastMarks [cop o, cop p] [b, c] = false) :
    PE X (.Compare a [cop o, cop p] [b, c] pos) (tEv X.K C Wx (.chain o p ma mb mc)) ∧ PT X (.Compare a [cop o, cop p] [b, c] pos) (tTs X.K C Wx (.chain o p ma mb mc)) :=
  have hu : X.A.units + 65 < cLine := by have := g.room.un; omega
  ⟨(pe_chain (op_cmp hu o) (op_cmp hu p) ha hb hc hm).wk fun σ H Q h => chain_two h, (pt_chain (op_cmp hu o) (op_cmp hu p) ha hb hc hm).wk fun σ H Q h => chain_two (tTs_of h)⟩
theorem s_neg (ha : PE X a (tEv X.K C Wx ma)) : PE X (.UnaryOp .USub a pos) (tEv X.K C Wx (.neg ma)) := (pe_un un_neg ha).wk fun σ H Q h => by
  obtain ⟨e, F, fi, ow, p⟩ := h
  rw [ev, Post.bind] at p
  refine ⟨e, F, fi, ow, p.mono fun x e1 p1 v H1 fi1 ow1 b1 => ?_⟩
  split at p1
  · rename_i i
    exact ⟨i, ow1.atI (List.mem_append_left _ List.mem_cons_self), p1 _ H1 fi1 (Own.int ow1.dropL _) trivial⟩
  · exact p1.elim
theorem s_not (ha : PE X a (tEv X.K C Wx ma)) (ht : PT X a (tTs X.K C Wx ma)) : PE X (.UnaryOp .Not a pos) (tEv X.K C Wx (.not ma)) ∧ PT X (.UnaryOp .Not a pos) (tTs X.K C Wx (.not ma)) := by
  refine ⟨(pe_not ha).wk fun σ H Q h => ?_, (pt_not ht).wk fun σ H Q h => ?_⟩
  · obtain ⟨e, F, fi, ow, p⟩ := h
    rw [ev, Post.bind] at p
    exact tTs_of (Q := fun t H' => Q (.bl (!t)) H') ⟨e, F, fi, ow, p.mono fun t e1 p1 H1 fi1 ow1 => p1 _ H1 fi1 (ow1.bl _) trivial⟩
  · obtain ⟨e, F, fi, ow, p⟩ := h
    rw [evT_eq, ev, Post.bind, Post.bind] at p
    exact ⟨e, F, fi, ow, p.mono fun t e1 p1 H1 fi1 ow1 => p1 H1 fi1 ow1⟩
theorem s_and (ha : PE X a (tEv X.K C Wx ma)) {rest : List Expr} (hb : PE X (.BoolOp .And (b :: rest) pos) (tEv X.K C Wx mb)) : PE X (.BoolOp .And (a :: b :: rest) pos) (tEv X.K C Wx (.and ma mb)) := (pe_and ha hb).wk fun σ H Q h => by
  obtain ⟨e, F, fi, ow, p⟩ := h
  rw [ev, Post.bind] at p
  have := tTs_of (K := X.K) (m := ma) (σ := σ) (H := H) (Q := fun t H1 => if t = true then tEv X.K C Wx mb σ H1 Q else Q (.bl false) H1) ⟨e, F, fi, ow, p.mono fun t e1 p1 H1 fi1 ow1 => ?_⟩
  · exact this
  · cases t with
    | true => exact ⟨e1, F, fi1, ow1, p1⟩
    | false => exact p1 _ H1 fi1 (ow1.bl _) trivial
theorem s_or (ha : PE X a (tEv X.K C Wx ma)) {rest : List Expr} (hb : PE X (.BoolOp .Or (b :: rest) pos) (tEv X.K C Wx mb)) : PE X (.BoolOp .Or (a :: b :: rest) pos) (tEv X.K C Wx (.or ma mb)) := (pe_or ha hb).wk fun σ H Q h => by
  obtain ⟨e, F, fi, ow, p⟩ := h
  rw [ev, Post.bind] at p
  have := tTs_of (K := X.K) (m := ma) (σ := σ) (H := H) (Q := fun t H1 => if t = true then Q (.bl true) H1 else tEv X.K C Wx mb σ H1 Q) ⟨e, F, fi, ow, p.mono fun t e1 p1 H1 fi1 ow1 => ?_⟩
  · exact this
  · cases t with
    | true => exact p1 _ H1 fi1 (ow1.bl _) trivial
    | false => exact ⟨e1, F, fi1, ow1, p1⟩
theorem w_and (ha : PT X a (tTs X.K C Wx ma)) {rest : List Expr} (hb : PW X (.BoolOp .And (b :: rest) pos) (tTs X.K C Wx mb)) : PW X (.BoolOp .And (a :: b :: rest) pos) (tTs X.K C Wx (.and ma mb)) := (pw_and ha hb).wk fun σ H Q h => by
  obtain ⟨e, F, fi, ow, p⟩ := h
  rw [evT_eq, ev, Post.bind, Post.bind] at p
  refine ⟨e, F, fi, ow, p.mono fun t e1 p1 H1 fi1 ow1 => ?_⟩
  cases t with
  | true =>
    rw [if_pos rfl] at p1 ⊢
    exact ⟨e1, F, fi1, ow1, by rw [evT_eq, Post.bind]; exact p1⟩
  | false => exact p1 H1 fi1 ow1
theorem w_or (ha : PT X a (tTs X.K C Wx ma)) {rest : List Expr} (hb : PW X (.BoolOp .Or (b :: rest) pos) (tTs X.K C Wx mb)) : PW X (.BoolOp .Or (a :: b :: rest) pos) (tTs X.K C Wx (.or ma mb)) := (pw_or ha hb).wk fun σ H Q h => by
  obtain ⟨e, F, fi, ow, p⟩ := h
  rw [evT_eq, ev, Post.bind, Post.bind] at p
  refine ⟨e, F, fi, ow, p.mono fun t e1 p1 H1 fi1 ow1 => ?_⟩
  cases t with
  | true => exact p1 H1 fi1 ow1
  | false =>
    rw [if_neg Bool.false_ne_true] at p1 ⊢
    exact ⟨e1, F, fi1, ow1, by rw [evT_eq, Post.bind]; exact p1⟩
theorem s_ite (hc : PT X c (tTs X.K C Wx mc)) (ha : PE X a (tEv X.K C Wx ma)) (hb : PE X b (tEv X.K C Wx mb)) : PE X (.IfExp c a b pos) (tEv X.K C Wx (.ite mc ma mb)) := (pe_ifExp hc ha hb).wk fun σ H Q h => by
  obtain ⟨e, F, fi, ow, p⟩ := h
  rw [ev, Post.bind] at p
  refine ⟨e, F, fi, ow, p.mono fun t e1 p1 H1 fi1 ow1 => ?_⟩
  cases t with
  | true => exact ⟨e1, F, fi1, ow1, p1⟩
  | false => exact ⟨e1, F, fi1, ow1, p1⟩
theorem t_ite (hc : PT X c (tTs X.K C Wx mc)) (ha : PT X a (tTs X.K C Wx ma)) (hb : PT X b (tTs X.K C Wx mb)) : PT X (.IfExp c a b pos) (tTs X.K C Wx (.ite mc ma mb)) := by
  refine ⟨fun pins s σ H Q I h => ?_⟩
  obtain ⟨e, F, fi, ow, p⟩ := h
  rw [evT_eq, ev, Post.bind, Post.bind] at p
  rw [PySem.isTrue]
  refine wpAny_bind (thn (hc.run pins s σ H (fun t H1 => if t = true then tTs X.K C Wx ma σ H1 Q else tTs X.K C Wx mb σ H1 Q) I ⟨e, F, fi, ow, p.mono fun t e1 p1 H1 fi1 ow1 => ?_⟩) fun t s1 ⟨H1, I1, q1⟩ => ?_)
  · cases t with
    | true => exact ⟨e1, F, fi1, ow1, by rw [evT_eq, Post.bind]; exact p1⟩
    | false => exact ⟨e1, F, fi1, ow1, by rw [evT_eq, Post.bind]; exact p1⟩
  · cases t with
    | true => exact ha.run pins s1 σ H1 Q I1 q1
    | false => exact hb.run pins s1 σ H1 Q I1 q1
theorem s_cst {cc : Const} {d : D} {j : Nat} (h : trK cc = some d) : PE X (.Constant cc j pos) (tEv X.K C Wx (.cst d)) := by
  have go : ∀ {v : V}, PE X (.Constant cc j pos) (tC v) → (∀ (H : Hp) (L : List En), Own X.K H L → Own X.K H (.it v (.frz d) :: L)) → PE X (.Constant cc j pos) (tEv X.K C Wx (.cst d)) := fun {v} h1 h2 => h1.wk fun σ H Q hq => by
    obtain ⟨e, F, fi, ow, p⟩ := hq
    rw [ev] at p
    exact p v H fi (h2 _ _ ow) trivial
  unfold trK at h
  split at h
  · cases h
    exact go pe_non fun _ _ o => o.non
  · cases h
    exact go pe_bl fun _ _ o => o.bl _
  · cases h
    exact go pe_int fun _ _ o => o.int _
  · cases h
    exact go pe_str fun _ _ o => o.str' _
  · cases h
theorem s_name (g : Good X S C k Wx) {x : Str} {m : Ex} (h : trN S x = some m) : PE X (.Name x pos) (tEv X.K C Wx m) := by
  unfold trN at h
  split at h
  · cases h
  · rename_i hp
    have hp : plainN x = true := by simpa using hp
    unfold plainN at hp
    simp only [Bool.and_eq_true, Bool.not_eq_true'] at hp
    split at h
    · rename_i hv
      obtain ⟨i, hi, e⟩ := Option.map_eq_some_iff.mp h
      subst e
      have vis : Vis X.env.scope x := by
        rw [g.sc]
        unfold visK at hv
        split at hv
        · exact .inl (by assumption)
        · exact .inr (.inl (by assumption))
        · exact .inr (.inr (by assumption))
        · cases hv
      refine (pe_var (i := i) (by rw [g.n]; exact SC.ix_get hi) vis hp.1.1 hp.1.2).wk fun σ H Q hq => ?_
      obtain ⟨e, F, fi, ow, p⟩ := hq
      rw [ev] at p
      split at p
      · rename_i d hd
        have h1 := get_iff.mp hd
        obtain ⟨v, hv⟩ := fi.has _ _ h1
        have hm : .it v (.frz d) ∈ live σ e.sl := by
          have := live_get hv h1 (.it v (.frz d))
          rw [one_self] at this
          exact cnt_mem (by omega)
        exact ⟨v, hv, p v H fi (ow.dup (List.mem_append_left _ hm)) trivial⟩
      · rename_i r _ hd
        have h1 := get_iff.mp hd
        obtain ⟨v, hv⟩ := fi.has _ _ h1
        exact ⟨v, hv, p v H fi ow hv⟩
      · exact p.elim
    · split at h
      · rename_i hg
        rw [Bool.and_eq_true] at hg
        have e := Option.some.inj h
        subst e
        have hx : x ∈ S.gl := by simpa using hg.2
        cases hd : C.glob x with
        | none =>
          refine PE.wk (t := fun _ _ _ => False) ⟨fun _ _ _ _ _ _ h => h.elim⟩ fun σ H Q hq => ?_
          obtain ⟨e, F, fi, ow, p⟩ := hq
          rw [ev, hd] at p
          exact p
        | some d =>
          obtain ⟨v, u, h1, h2, h3⟩ := g.mo.gl x hx d hd
          refine (pe_glob (v := v) (u := u) (by show X.env.scope.names.lookup x = _; rw [g.sc]; exact of_decide_eq_true (of_decide_eq_true hg.1)) h1 h2 hp.1.1).wk fun σ H Q hq => ?_
          obtain ⟨e, F, fi, ow, p⟩ := hq
          rw [ev, hd] at p
          exact p v H fi (ow.add fun F m _ => h3 F m) trivial
      · cases h
end
end Lp

end
section
/-! LpC5: rows of expressions, displays, places, calls. -/
namespace Lp
open PySem PySem.Spec PyProof.Rows L2
def Exs.len : Exs → Nat
  | .nil => 0
  | .cons _ es => es.len + 1
theorem trL_len {f : Expr → Option Ex} : ∀ {es : List Expr} {ms : Exs}, trL f es = some ms → ms.len = es.length
  | [], _, h => by
    unfold trL at h
    cases h
    rfl
  | e :: es, ms, h => by
    unfold trL at h
    split at h
    · rename_i h1 h2 h3
      cases h
      exact congrArg (· + 1) (trL_len h3)
    · cases h
theorem evs_len {C : Calls} : ∀ {ms : Exs} {e : Env} {E : Exn → Env → Prop} {P : List A → Env → Prop}, Post (evs C ms e) E P → Post (evs C ms e) E fun as e' => as.length = ms.len ∧ P as e'
  | .nil, e, E, P, h => by
    rw [evs] at h ⊢
    exact ⟨rfl, h⟩
  | .cons m ms, e, E, P, h => by
    rw [evs, Post.bind] at h ⊢
    refine h.mono fun x e1 h1 => ?_
    rw [Post.bind] at h1 ⊢
    exact (evs_len h1).mono fun xs e2 h2 => ⟨congrArg (· + 1) h2.1, h2.2⟩
section
variable {X : Cx} {S : SC} {C : Calls} {Wx : WX} {k : Nat} {a b c : Expr} {ma mb mc : Ex} {pos : Pos}
theorem star_eq {e : Expr} {es : List Expr} {env : PySem.Env} (h : noStar e = true) : starEach (e :: es) env = (false, eval e env) :: starEach es env := by
  cases e <;> first | rfl | cases h
theorem stars_plain {f : Expr → Option Ex} {env : PySem.Env} {p : Pos} : ∀ {es : List Expr} {ms : Exs}, trL f es = some ms → (backTo p (starEach es env)).any (·.1) = false
  | [], _, _ => rfl
  | e :: es, ms, h => by
    unfold trL at h
    split at h
    · rename_i h1 h2 h3
      have : starEach (e :: es) env = (false, eval e env) :: starEach es env := star_eq h1
      rw [this]
      have ih := stars_plain (env := env) (p := p) h3
      unfold backTo at ih ⊢
      rw [List.map_cons, List.any_cons, ih]
      rfl
    · cases h
theorem s_args {f : Expr → Option Ex} (hf : ∀ e m, f e = some m → PE X e (tEv X.K C Wx m)) : ∀ {es : List Expr} {ms : Exs}, trL f es = some ms → PA X es (tEvs X.K C Wx ms)
  | [], ms, h => by
    unfold trL at h
    cases h
    refine pa_nil.wk fun σ H Q hq => ?_
    obtain ⟨e, F, fi, ow, p⟩ := hq
    rw [evs] at p
    exact p [] H fi ow .nil
  | e :: es, ms, h => by
    unfold trL at h
    split at h
    · rename_i m ms' h1 h2 h3
      cases h
      refine (pa_cons (hf _ _ h2) (s_args hf h3) (star_eq h1)).wk fun σ H Q hq => ?_
      obtain ⟨e, F, fi, ow, p⟩ := hq
      rw [evs, Post.bind] at p
      refine ⟨e, F, fi, ow, p.mono fun x e1 p1 v H1 fi1 ow1 b1 => ?_⟩
      rw [Post.bind] at p1
      refine ⟨e1, ent v x ++ F, fi1, ow1.by fun z => by simp only [cnt_app]; omega, p1.mono fun xs e2 p2 vs H2 fi2 ow2 b2 => ?_⟩
      exact p2 (v :: vs) H2 fi2 (ow2.by fun z => by simp only [ents, cnt_app]; omega) (.cons b1 b2)
    · cases h
theorem lt_line {n : Nat} (h : n < 1000) : n ≤ sizeLine := by
  rw [sline]
  omega
theorem s_tup {es : List Expr} {ms : Exs} {x1 : Nat} (hn : ms.len < 1000) (h : PA X es (tEvs X.K C Wx ms)) : PE X (.Tuple es x1 pos) (tEv X.K C Wx (.tup ms)) := (pe_tup h).wk fun σ H Q hq => by
  obtain ⟨e, F, fi, ow, p⟩ := hq
  rw [ev, Post.bind] at p
  refine ⟨e, F, fi, ow, (evs_len p).mono fun as e1 p1 vs H1 fi1 ow1 b1 => ?_⟩
  obtain ⟨le, p1⟩ := p1
  refine ⟨lt_line (by rw [b1.len, le]; exact hn), fun q hq => ?_⟩
  split at p1
  · rename_i ds e2 hz
    obtain ⟨f2, l2, ow2⟩ := frzs_ok fi1 b1 ow1 hz
    exact p1 _ _ f2 (ow2.newT (fun _ => Nat.le_refl _) l2 hq) trivial
  · exact p1.elim
theorem s_lst {es : List Expr} {ms : Exs} (hn : ms.len < 1000) (h : PA X es (tEvs X.K C Wx ms)) : PE X (.List es pos) (tEv X.K C Wx (.lst ms)) := (pe_lst h).wk fun σ H Q hq => by
  obtain ⟨e, F, fi, ow, p⟩ := hq
  rw [ev, Post.bind] at p
  refine ⟨e, F, fi, ow, (evs_len p).mono fun as e1 p1 vs H1 fi1 ow1 b1 => ?_⟩
  obtain ⟨le, p1⟩ := p1
  refine ⟨lt_line (by rw [b1.len, le]; exact hn), fun q hq => ?_⟩
  split at p1
  · rename_i ds e2 hz
    obtain ⟨f2, l2, ow2⟩ := frzs_ok fi1 b1 ow1 hz
    exact p1 _ _ f2 (ow2.newL (fun _ => Nat.le_refl _) l2 hq) trivial
  · exact p1.elim
theorem s_dnew : PE X (.Dict [] [] pos) (tEv X.K C Wx (.dct .nil .nil)) := pe_dnewK.wk fun σ H Q hq => by
  obtain ⟨e, F, fi, ow, p⟩ := hq
  rw [ev] at p
  intro q hq
  refine p _ _ fi ?_ trivial
  obtain ⟨F0, m, fp, e0, kk, nd, z⟩ := ow.cap (o := .dK []) hq
  cases kk with
  | cons k1 k2 =>
    cases k1 with
    | cap k1 => exact ⟨F0, m, _, e0, .cons (.it (.dic k1 .nil)) k2, nd, z⟩
theorem s_disp1 (hk : PE X a (tEv X.K C Wx ma)) (hv : PE X b (tEv X.K C Wx mb)) : PE X (.Dict [some a] [b] pos) (tEv X.K C Wx (.dct (.cons ma .nil) (.cons mb .nil))) := (pe_disp (pps_cons hk hv pps_nil) rfl rfl (by simp) (show 1 ≤ 15 by decide)).wk fun σ H Q hq => by
  obtain ⟨e, F, fi, ow, p⟩ := hq
  rw [ev] at p
  intro q hq
  have ow0 : Own X.K (upd H q (.dK [])) (.it (.ref q) (.dic []) :: (live σ e.sl ++ F)) := by
    obtain ⟨F0, m, fp, e0, kk, nd, z⟩ := ow.cap (o := .dK []) hq
    cases kk with
    | cons k1 k2 =>
      cases k1 with
      | cap k1 => exact ⟨F0, m, _, e0, .cons (.it (.dic k1 .nil)) k2, nd, z⟩
  have p : Post ((ev C ma e).bind fun x e1 => (ev C mb e1).bind fun y e2 => match x, e2.frz y with
      | .val (.frz kd), some (d, e3) => if isKey kd = true then .ok (.val (.dic (putD [] kd d))) e3 else .no
      | _, _ => .no) (PX X.K C Wx σ F) fun a e' => ∀ v H', Fits σ e'.sl → Own X.K H' (ent v a ++ (live σ e'.sl ++ F)) → bok σ v a → Q v H' := p
  rw [Post.bind] at p
  refine ⟨e, .it (.ref q) (.dic []) :: F, fi, ow0.by fun z => by simp only [cnt_app, cnt_cons]; omega, p.mono fun x e1 p1 v H1 fi1 ow1 b1 => ?_⟩
  rw [Post.bind] at p1
  refine ⟨e1, ent v x ++ (.it (.ref q) (.dic []) :: F), fi1, ow1.by fun z => by simp only [cnt_app, cnt_cons]; omega, p1.mono fun y e2 p2 u H2 fi2 ow2 b2 => ?_⟩
  split at p2
  · rename_i kd d e3 hz
    obtain ⟨f3, ow3⟩ := frz_ok (F := .it v (.frz kd) :: .it (.ref q) (.dic []) :: F) fi2 b2 (ow2.by fun z => by simp only [ent, cnt_app, cnt_cons, cnt_nil]; omega) hz
    split at p2
    · rename_i hk
      obtain ⟨k', eq, ek⟩ := ow3.key (v := v) (r := .frz kd) (List.mem_cons_of_mem _ (List.mem_append_right _ List.mem_cons_self)) hk
      have ow3' : Own X.K H2 (.it (.ref q) (.dic []) :: .it u (.frz d) :: (live σ e3.sl ++ F)) := ow3.by fun z => by simp only [cnt_app, cnt_cons]; omega
      obtain ⟨a', ks, ea, ha, len, ow4⟩ := ow3'.putK
      cases ea
      have e0 : ks = [] := List.eq_nil_of_length_eq_zero len
      subst e0
      have ek : kd = keyD k' := ek
      subst eq ek
      exact ⟨ha, [(k', u)], rfl, (show 1 ≤ 15 by decide), p2 _ _ f3 (ow4 k') trivial⟩
    · exact p2.elim
  · exact p2.elim
theorem s_ix (hu : X.A.units + 65 < cLine) (ha : PE X a (tEv X.K C Wx ma)) (hb : PE X b (tEv X.K C Wx mb)) (hs : noSlice b = true) : PE X (.Subscript a b pos) (tEv X.K C Wx (.ix ma mb)) := (pe_ix (op_ix hu) ha hb (fun o i => by cases b <;> first | rfl | cases hs)).wk fun σ H Q h => by
  obtain ⟨e, F, fi, ow, p⟩ := h
  rw [ev] at p
  exact two fi ow p
/-- a slice's part -/
def tEvO (K : PySem.W.Frag) (C : Calls) (Wx : WX) (m : Ex) : TO := fun σ H Q => ∃ e F, Fits σ e.sl ∧ Own K H (live σ e.sl ++ F) ∧ Post (evO C m e) (PX K C Wx σ F) fun o e' => ∀ H', Fits σ e'.sl → Own K H' (live σ e'.sl ++ F) → Q o H'
theorem _root_.L2.PO.wk {e : Option Expr} {t t' : TO} (h : PO X e t) (k : ∀ σ H Q, t' σ H Q → t σ H Q) : PO X e t' := ⟨fun pins s σ H Q I w => h.run pins s σ H Q I (k _ _ _ w)⟩
theorem evO_val {C : Calls} {m : Ex} {e : Env} (h : m ≠ .nosl) : evO C m e = (ev C m e).bind fun x e1 => match x with | .val (.frz (.int i)) => .ok (some i) e1 | _ => .no := by
  cases m <;> first | (exact absurd rfl h) | (rw [evO] <;> first | rfl | (intro z; cases z))
theorem s_part {f : Expr → Option Ex} (hf : ∀ e m, f e = some m → PE X e (tEv X.K C Wx m)) {o : Option Expr} {m : Ex} (h : trO f o = some m) : PO X o (tEvO X.K C Wx m) := by
  unfold trO at h
  split at h
  · cases h
    refine po_none.wk fun σ H Q hq => ?_
    obtain ⟨e, F, fi, ow, p⟩ := hq
    rw [evO] at p
    exact p H fi ow
  · rename_i e
    split at h
    · rename_i m' h1
      split at h
      · cases h
      · rename_i hn
        cases h
        refine (po_some (hf _ _ h1)).wk fun σ H Q hq => ?_
        obtain ⟨e', F, fi, ow, p⟩ := hq
        rw [evO_val (fun z => hn (by subst z; rfl)), Post.bind] at p
        refine ⟨e', F, fi, ow, p.mono fun x e1 p1 v H1 fi1 ow1 b1 => ?_⟩
        split at p1
        · rename_i i
          exact ⟨i, ow1.atI (List.mem_append_left _ List.mem_cons_self), p1 H1 fi1 ow1.dropL⟩
        · exact p1.elim
    · cases h
theorem s_sl {lo hi : Option Expr} {ml mh : Ex} {p2 : Pos} (ha : PE X a (tEv X.K C Wx ma)) (hl : PO X lo (tEvO X.K C Wx ml)) (hh : PO X hi (tEvO X.K C Wx mh)) : PE X (.Subscript a (.Slice lo hi none p2) pos) (tEv X.K C Wx (.sl ma ml mh)) := (pe_slice op_sl ha hl hh).wk fun σ H Q h => by
  obtain ⟨e, F, fi, ow, p⟩ := h
  rw [ev, Post.bind] at p
  refine ⟨e, F, fi, ow, p.mono fun x e1 p1 v H1 fi1 ow1 b1 => ?_⟩
  rw [Post.bind] at p1
  refine ⟨e1, ent v x ++ F, fi1, ow1.by fun z => by simp only [cnt_app]; omega, p1.mono fun i e2 p2 H2 fi2 ow2 => ?_⟩
  rw [Post.bind] at p2
  refine ⟨e2, ent v x ++ F, fi2, ow2, p2.mono fun j e3 p3 H3 fi3 ow3 => ?_⟩
  split at p3
  · rename_i r hr
    obtain ⟨z, hz, q⟩ := val_of (K := X.K) (H := H3) (F := F) (σ := σ) p3
    refine ⟨_, r, z, ow3, ?_, hz, fun w H4 ow4 => q w H4 fi3 (ow4.by fun y => by simp only [ent, cnt_app, cnt_cons, cnt_nil]; omega) trivial⟩
    rcases List.mem_append.mp (look_mem fi3 b1 hr) with h | h
    · exact List.mem_append_right _ (List.mem_append_left _ h)
    · exact List.mem_append_left _ h
  · exact p3.elim
theorem s_rev {kk : Nat} {p1 p2 p3 : Pos} (ha : PE X a (tEv X.K C Wx ma)) : PE X (.Subscript a (.Slice none none (some (.UnaryOp .USub (.Constant (.int 1) kk p1) p2)) p3) pos) (tEv X.K C Wx (.rev ma)) := (pe_rev ha).wk fun σ H Q h => by
  obtain ⟨e, F, fi, ow, p⟩ := h
  rw [ev, Post.bind] at p
  refine ⟨e, F, fi, ow, p.mono fun x e1 p1 v H1 fi1 ow1 b1 => ?_⟩
  split at p1
  · rename_i r hr
    obtain ⟨z, hz, q⟩ := val_of (K := X.K) (H := H1) (F := F) (σ := σ) p1
    refine ⟨_, r, z, ow1, ?_, hz, fun w H4 ow4 => q w H4 fi1 (ow4.by fun y => by simp only [ent, cnt_app, cnt_cons, cnt_nil]; omega) trivial⟩
    rcases List.mem_append.mp (look_mem fi1 b1 hr) with h | h
    · exact List.mem_append_left _ h
    · exact List.mem_append_right _ (List.mem_append_left _ h)
  · exact p1.elim
theorem s_sub (hu : X.A.units + 65 < cLine) {f : Expr → Option Ex} (hf : ∀ e m, f e = some m → PE X e (tEv X.K C Wx m)) {m : Ex} (h : trSub f a b = some m) : PE X (.Subscript a b pos) (tEv X.K C Wx m) := by
  unfold trSub at h
  split at h
  · split at h
    · rename_i h1 h2 h3
      cases h
      exact s_sl (hf _ _ h1) (s_part hf h2) (s_part hf h3)
    · cases h
  · obtain ⟨z, h1, e⟩ := Option.map_eq_some_iff.mp h
    subst e
    exact s_rev (hf _ _ h1)
  · cases h
  · rename_i h0
    split at h
    · rename_i h1 h2
      cases h
      refine s_ix hu (hf _ _ h1) (hf _ _ h2) ?_
      cases b <;> first | rfl | (exact (h0 _ _ _ _ rfl).elim)
    · cases h

/-! ### built-in functions -/
def tyS : Ty → Str
  | .int => "int" | .bool => "bool" | .str => "str" | .tuple => "tuple" | .list => "list" | .dict => "dict"
theorem boot_ty (t : Ty) : bootBuiltins (tyS t) = some (.type (tyN t)) := by cases t <;> decide +kernel
theorem ty_in (t : Ty) : tyS t ∈ bltTs := by cases t <;> decide +kernel
theorem ty_plain (t : Ty) : tyS t ≠ "__name__" ∧ (tyS t == ("__debug__" : Str)) = false := by cases t <;> exact ⟨by decide +kernel, by decide +kernel⟩
theorem tyOf_ok {e : Expr} {t : Ty} (h : tyOf e = some t) : ∃ p, e = .Name (tyS t) p := by
  unfold tyOf at h
  split at h
  · rename_i x p
    repeat (split at h; · (rename_i e; cases h; subst e; exact ⟨p, rfl⟩))
    cases h
  · cases h
theorem s_ty (g : Good X S C k Wx) {e : Expr} {t : Ty} (h : tyOf e = some t) (hg : S.glb (nmOf e) = true) : PE X e (tC (.ty (tyN t))) := by
  obtain ⟨p, rfl⟩ := tyOf_ok h
  exact pe_bltn (by show X.env.scope.names.lookup _ = _; rw [g.sc]; exact of_decide_eq_true hg) (g.mo.bl _ (.inr (ty_in t))) (boot_ty t) rfl (ty_plain t).1 (ty_plain t).2
theorem glb_of (g : Good X S C k Wx) {x : Str} (h : S.glb x = true) : Gl X x := by
  show X.env.scope.names.lookup _ = _
  rw [g.sc]
  exact of_decide_eq_true h
theorem s_isi1 (g : Good X S C k Wx) {t : Ty} {e : Expr} {p : Pos} (hx : S.glb "isinstance" = true) (ns : noStar a = true) (hg : S.glb (nmOf e) = true) (ha : PE X a (tEv X.K C Wx ma)) (ht : tyOf e = some t) :
    PE X (.Call (.Name "isinstance" p) [a, e] [] pos) (tEv X.K C Wx (.isi ma [t])) := by
  have hs : noStar e = true := by
    obtain ⟨p, rfl⟩ := tyOf_ok ht
    rfl
  refine (pe_callB call_isi (glb_of g hx) (g.mo.bl _ (.inl (by decide +kernel))) (by decide +kernel) (pa_cons ha (pa_cons (s_ty g ht hg) pa_nil (star_eq hs)) (star_eq ns)) (by decide +kernel) (by decide +kernel) (star_eq ns) (by rw [star_eq hs]; rfl)).wk fun σ H Q h => ?_
  obtain ⟨e', F, fi, ow, q⟩ := h
  rw [ev, Post.bind] at q
  refine ⟨e', F, fi, ow, q.mono fun x e1 q1 v H1 fi1 ow1 b1 => ?_⟩
  split at q1
  · rename_i r hr
    split at q1
    · rename_i hok
      have hm : .it v r ∈ ent v x ++ (live σ e1.sl ++ F) := by
        rcases List.mem_append.mp (look_mem fi1 b1 hr) with h | h
        · exact List.mem_append_left _ h
        · exact List.mem_append_right _ (List.mem_append_left _ h)
      refine ⟨v, .ty (tyN t), _, _, isT t r.d, rfl, .ty _, ow1.ty hm hok, kit_ty (kit_at t r.d hok), ?_⟩
      have e2 : ([t].any fun t => isT t r.d) = isT t r.d := by simp
      rw [e2] at q1
      exact q1 _ H1 fi1 (ow1.dropL.bl _) trivial
    · exact q1.elim
  · exact q1.elim
theorem tys_pa (g : Good X S C k Wx) : ∀ {es : List Expr} {ts : List Ty}, tysOf es = some ts → es.all (fun e => S.glb (nmOf e)) = true → PA X es (fun _ H Q => Q (ts.map fun t => .ty (tyN t)) H)
  | [], ts, h, _ => by
    unfold tysOf at h
    cases h
    exact pa_nil
  | e :: es, ts, h, hg => by
    unfold tysOf at h
    rw [List.all_cons, Bool.and_eq_true] at hg
    split at h
    · rename_i t ts' h1 h2
      cases h
      have hs : noStar e = true := by
        obtain ⟨p, rfl⟩ := tyOf_ok h1
        rfl
      exact (pa_cons (s_ty g h1 hg.1) (tys_pa g h2 hg.2) (star_eq hs)).wk fun σ H Q hq => hq
    · cases h
theorem kitAny_at (K : PySem.W.Frag) (d : D) (h : isiOk d = true) : ∀ ts : List Ty, PySem.W.kitAny K (.type (dTy d)) (ts.map fun t => .type (tyN t)) = some (ts.any fun t => isT t d)
  | [] => rfl
  | t :: ts => by
    refine kitAny_cons (kit_ty (kit_at t d h)) (fun hb => ?_) fun hb => ?_
    · rw [List.any_cons, hb, Bool.false_or]
      exact kitAny_at K d h ts
    · rw [List.any_cons, hb, Bool.true_or]
theorem tysOf_len : ∀ {es : List Expr} {ts : List Ty}, tysOf es = some ts → ts.length = es.length
  | [], _, h => by
    unfold tysOf at h
    cases h
    rfl
  | e :: es, ts, h => by
    unfold tysOf at h
    split at h
    · rename_i h1 h2
      cases h
      exact congrArg (· + 1) (tysOf_len h2)
    · cases h
theorem s_isiT (g : Good X S C k Wx) {ts : List Ty} {es : List Expr} {p p2 : Pos} {kk : Nat} (hx : S.glb "isinstance" = true) (ns : noStar a = true) (hg : es.all (fun e => S.glb (nmOf e)) = true) (ha : PE X a (tEv X.K C Wx ma)) (ht : tysOf es = some ts) (hl : es.length < 1000) :
    PE X (.Call (.Name "isinstance" p) [a, .Tuple es kk p2] [] pos) (tEv X.K C Wx (.isi ma ts)) := by
  refine (pe_callB call_isiT (glb_of g hx) (g.mo.bl _ (.inl (by decide +kernel))) (by decide +kernel) (pa_cons ha (pa_cons (pe_tup (tys_pa g ht hg)) pa_nil rfl) (star_eq ns)) (by decide +kernel) (by decide +kernel) (star_eq ns) rfl).wk fun σ H Q h => ?_
  obtain ⟨e', F, fi, ow, q⟩ := h
  rw [ev, Post.bind] at q
  refine ⟨e', F, fi, ow, q.mono fun x e1 q1 v H1 fi1 ow1 b1 => ?_⟩
  refine ⟨lt_line (by rw [List.length_map, tysOf_len ht]; exact hl), fun tp htp => ?_⟩
  split at q1
  · rename_i r hr
    split at q1
    · rename_i hok
      have hm : .it v r ∈ ent v x ++ (live σ e1.sl ++ F) := by
        rcases List.mem_append.mp (look_mem fi1 b1 hr) with h | h
        · exact List.mem_append_left _ h
        · exact List.mem_append_right _ (List.mem_append_left _ h)
      have ow2 := ow1.new (o := .tup (ts.map fun t => .ty (tyN t))) htp
      have pr : ∀ ts : List Ty, Paired ClsV (ts.map fun t => .ty (tyN t)) (ts.map fun t => .type (tyN t)) := by
        intro ts
        induction ts with
        | nil => exact .nil
        | cons t ts ih => exact .cons (.ty _) ih
      refine ⟨v, tp, _, _, _, _, rfl, upd_same, pr ts, ow2.ty hm hok, kitAny_at _ _ hok ts, ?_⟩
      exact q1 _ _ fi1 (ow2.dropL.bl _) trivial
    · exact q1.elim
  · exact q1.elim
end
end Lp

end
section
/-! LpC5x: isinstance of a caught error. -/
namespace Lp
open PySem PySem.Spec PyProof.Rows L2
def clV (cl : Str → Nat) (x : Str) : V := if x = ("ValueError" : Str) then .ty "ValueError" else .ref (cl x)
theorem clV_ok (cl : Str → Nat) (x : Str) : ClsV (clV cl x) (cvE cl x) := by
  unfold clV cvE
  split
  · exact .ty _
  · exact .own _
section
variable {X : Cx} {S : SC} {C : Calls} {Wx : WX} {k : Nat} {a : Expr} {ma : Ex} {pos : Pos}
theorem kit_exc {pins : List (Addr × Obj)} {σ : L2.St} {H : Hp} {s : Shared} {a c : Addr} (I : Inv X pins σ H s) (E : ExcC X.K c) (h : H a = some (CaO c a)) : ∃ P : Heap → Prop, PySem.W.KitX X.K (.ref a) (.ref c) P ∧ P s.heap := by
  obtain ⟨⟨ox, J⟩, _, _⟩ := (show ObjOk X.prog X.w H s.heap a (CaO c a) from I.hok a _ h)
  exact ⟨_, PySem.W.handS_kitx_exc E.hg E.hk E.hs E.hd E.ha E.hn E.ht E.hm, J⟩
def rXis (K : PySem.W.Frag) : List V → Hp → VK → Prop := fun xs H Q => ∃ (a c : Addr) (cv : V) (u : Value) (b : Bool), xs = [.ref a, cv] ∧ ClsV cv u ∧ H a = some (CaO c a) ∧ ExcC K c ∧ PySem.W.kitOne K (.ref c) u = some b ∧ Q (.bl b) H
def rXisT (K : PySem.W.Frag) : List V → Hp → VK → Prop := fun xs H Q => ∃ (a c tp : Addr) (cs : List V) (us : List Value) (b : Bool), xs = [.ref a, .ref tp] ∧ H tp = some (.tup cs) ∧ Paired ClsV cs us ∧ H a = some (CaO c a) ∧ ExcC K c ∧ PySem.W.kitAny K (.ref c) us = some b ∧ Q (.bl b) H
theorem call_xis : CallR X (.builtin "isinstance") (rXis X.K) := by
  intro pins s σ H xs us Q I r h
  obtain ⟨a, c, cv, u, b, rfl, k, ha, E, e, q⟩ := h
  obtain ⟨u1, u2, rfl, r1, r2⟩ := vals2 r
  have e2 := k.eq r2
  subst e2
  cases (show u1 = Value.ref a from r1)
  obtain ⟨P, Z, p⟩ := kit_exc I E ha
  exact PySem.W.kia_one Z I.kIn p e (fun z => nomatch z) fun tk => ⟨.bl b, H, I.tok tk, rfl, q⟩
theorem call_xisT : CallR X (.builtin "isinstance") (rXisT X.K) := by
  intro pins s σ H xs us Q I r h
  obtain ⟨a, c, tp, cs, ws, b, rfl, hT, k, ha, E, e, q⟩ := h
  obtain ⟨u1, u2, rfl, r1, r2⟩ := vals2 r
  cases (show u1 = Value.ref a from r1)
  cases (show u2 = Value.ref tp from r2)
  obtain ⟨P, Z, p⟩ := kit_exc I E ha
  obtain ⟨_, its, rv, o, h1, h2, n, h3⟩ := (show ObjOk X.prog X.w H s.heap tp (.tup cs) from I.hok tp _ hT)
  have e3 := ClsV.all k rv
  subst e3
  obtain ⟨oc, od, dt, sl⟩ := o
  simp only at h2 h3
  subst h2 h3
  exact PySem.W.kia_tup Z I.kIn p h1 e (fun z => nomatch z) fun tk => ⟨.bl b, H, I.tok tk, rfl, q⟩
theorem erc_ok (g : Good X S C k Wx) {e : Expr} {x : Str} (h : ercOf S e = some x) : noStar e = true ∧ PE X e (tC (clV C.cl x)) := by
  unfold ercOf at h
  split at h
  · rename_i y p
    split at h
    · rename_i hc
      cases h
      simp only [Bool.and_eq_true, Bool.or_eq_true, decide_eq_true_eq] at hc
      obtain ⟨⟨h1, h2⟩, h3⟩ := hc
      refine ⟨rfl, ?_⟩
      obtain ⟨n1, n2⟩ : x ≠ "__name__" ∧ (x == ("__debug__" : Str)) = false := by
        unfold plainN at h2
        simp only [Bool.and_eq_true, Bool.not_eq_true'] at h2
        exact ⟨fun e => by rw [e] at h2; exact absurd h2.2 (by decide +kernel), h2.1.1⟩
      unfold clV
      by_cases hv : x = ("ValueError" : Str)
      · rw [if_pos hv]
        subst hv
        exact pe_bltn (glb_of g h1) g.mo.er.ve (by decide +kernel : bootBuiltins "ValueError" = some (.type "ValueError")) rfl n1 n2
      · rw [if_neg hv]
        have hm : x ∈ S.cs.tc := by
          rcases h3 with h3 | h3
          · simpa using h3
          · exact absurd h3 hv
        exact pe_glob (glb_of g h1) (g.mo.er.tc x hm) rfl n2
    · cases h
  · cases h
theorem ercs_ok (g : Good X S C k Wx) : ∀ {es : List Expr} {xs : List Str}, ercsOf S es = some xs → xs.length = es.length ∧ PA X es (fun _ H Q => Q (xs.map (clV C.cl)) H)
  | [], xs, h => by
    unfold ercsOf at h
    cases h
    exact ⟨rfl, pa_nil⟩
  | e :: es, xs, h => by
    unfold ercsOf at h
    split at h
    · rename_i x l h1 h2
      cases h
      obtain ⟨a1, a2⟩ := erc_ok g h1
      obtain ⟨b1, b2⟩ := ercs_ok g h2
      exact ⟨congrArg (· + 1) b1, (pa_cons a2 b2 (star_eq a1)).wk fun σ H Q hq => hq⟩
    · cases h
theorem sub_one (g : Good X S C k Wx) {n x : Str} {b : Bool} (h : C.sub n x = some b) : ExcC X.K (C.cl n) ∧ PySem.W.kitOne X.K (.ref (C.cl n)) (cvE C.cl x) = some b :=
  have q := g.mo.er.sub n x b h
  ⟨(g.mo.er.er n q.1).ec, q.2.2⟩
theorem sub_any (g : Good X S C k Wx) {n : Str} : ∀ {xs : List Str} {b : Bool}, subAny (C.sub n) xs = some b → PySem.W.kitAny X.K (.ref (C.cl n)) (xs.map (cvE C.cl)) = some b
  | [], b, h => by
    cases h
    rfl
  | x :: xs, b, h => by
    unfold subAny at h
    split at h
    · rename_i a1 b1 h1 h2
      cases h
      refine kitAny_cons (sub_one g h1).2 (fun hb => ?_) fun hb => ?_
      · rw [hb, Bool.false_or]
        exact sub_any g h2
      · rw [hb, Bool.true_or]
    · cases h
theorem sub_exc (g : Good X S C k Wx) {n : Str} {xs : List Str} {b : Bool} (h : subAny (C.sub n) xs = some b) (hx : xs ≠ []) : ExcC X.K (C.cl n) := by
  cases xs with
  | nil => exact absurd rfl hx
  | cons x xs =>
    unfold subAny at h
    split at h
    · rename_i h1 _
      exact (sub_one g h1).1
    · cases h
theorem s_isx1 (g : Good X S C k Wx) {e : Expr} {t : Str} {p : Pos} (hx : S.glb "isinstance" = true) (ns : noStar a = true) (ha : PE X a (tEv X.K C Wx ma)) (ht : ercOf S e = some t) :
    PE X (.Call (.Name "isinstance" p) [a, e] [] pos) (tEv X.K C Wx (.isx ma [t])) := by
  obtain ⟨hs, he⟩ := erc_ok g ht
  refine (pe_callB call_xis (glb_of g hx) (g.mo.bl _ (.inl (by decide +kernel))) (by decide +kernel) (pa_cons ha (pa_cons he pa_nil (star_eq hs)) (star_eq ns)) (by decide +kernel) (by decide +kernel) (star_eq ns) (by rw [star_eq hs]; rfl)).wk fun σ H Q h => ?_
  obtain ⟨e', F, fi, ow, q⟩ := h
  rw [ev, Post.bind] at q
  refine ⟨e', F, fi, ow, q.mono fun x e1 q1 v H1 fi1 ow1 b1 => ?_⟩
  split at q1
  · rename_i n c hr
    split at q1
    · rename_i hc
      split at q1
      · rename_i b hb
        have hm : .it v (.frz (.exc n c)) ∈ ent v x ++ (live σ e1.sl ++ F) := by
          rcases List.mem_append.mp (look_mem fi1 b1 hr) with h | h
          · exact List.mem_append_left _ h
          · exact List.mem_append_right _ (List.mem_append_left _ h)
        obtain ⟨ad, rfl, had⟩ := ow1.atX hm rfl
        subst hc
        have hb' := hb
        unfold subAny at hb'
        split at hb'
        · rename_i b1 b2 g1 g2
          cases g2
          cases hb'
          refine ⟨ad, _, _, _, b1, rfl, clV_ok C.cl t, had, (sub_one g g1).1, (sub_one g g1).2, ?_⟩
          rw [Bool.or_false] at q1
          exact q1 _ H1 fi1 (ow1.dropL.bl _) trivial
        · cases hb'
      · exact q1.elim
    · exact q1.elim
  · exact q1.elim
theorem s_isxT (g : Good X S C k Wx) {ts : List Str} {es : List Expr} {p p2 : Pos} {kk : Nat} (hx : S.glb "isinstance" = true) (ns : noStar a = true) (ha : PE X a (tEv X.K C Wx ma)) (ht : ercsOf S es = some ts) (hl : es.length < 1000) (hn : ts ≠ []) :
    PE X (.Call (.Name "isinstance" p) [a, .Tuple es kk p2] [] pos) (tEv X.K C Wx (.isx ma ts)) := by
  obtain ⟨len, he⟩ := ercs_ok g ht
  refine (pe_callB call_xisT (glb_of g hx) (g.mo.bl _ (.inl (by decide +kernel))) (by decide +kernel) (pa_cons ha (pa_cons (pe_tup he) pa_nil rfl) (star_eq ns)) (by decide +kernel) (by decide +kernel) (star_eq ns) rfl).wk fun σ H Q h => ?_
  obtain ⟨e', F, fi, ow, q⟩ := h
  rw [ev, Post.bind] at q
  refine ⟨e', F, fi, ow, q.mono fun x e1 q1 v H1 fi1 ow1 b1 => ?_⟩
  refine ⟨lt_line (by rw [List.length_map, len]; exact hl), fun tp htp => ?_⟩
  split at q1
  · rename_i n c hr
    split at q1
    · rename_i hc
      split at q1
      · rename_i b hb
        have hm : .it v (.frz (.exc n c)) ∈ ent v x ++ (live σ e1.sl ++ F) := by
          rcases List.mem_append.mp (look_mem fi1 b1 hr) with h | h
          · exact List.mem_append_left _ h
          · exact List.mem_append_right _ (List.mem_append_left _ h)
        have ow2 := ow1.new (o := .tup (ts.map (clV C.cl))) htp
        obtain ⟨ad, rfl, had⟩ := ow2.atX hm rfl
        subst hc
        have pr : ∀ ts : List Str, Paired ClsV (ts.map (clV C.cl)) (ts.map (cvE C.cl)) := by
          intro ts
          induction ts with
          | nil => exact .nil
          | cons t ts ih => exact .cons (clV_ok C.cl t) ih
        exact ⟨ad, _, tp, _, _, b, rfl, upd_same, pr ts, had, sub_exc g hb hn, sub_any g hb, q1 _ _ fi1 (ow2.dropL.bl _) trivial⟩
      · exact q1.elim
    · exact q1.elim
  · exact q1.elim
/-- isinstance of a caught error -/
theorem s_isx (g : Good X S C k Wx) {f : Expr → Option Ex} (hf : ∀ e m, f e = some m → PE X e (tEv X.K C Wx m)) {x : Str} {args : List Expr} {p : Pos} {m : Ex} (h : trIsx S f x args = some m) : PE X (.Call (.Name x p) args [] pos) (tEv X.K C Wx m) := by
  unfold trIsx at h
  split at h
  · rename_i hc
    simp only [Bool.and_eq_true, decide_eq_true_eq] at hc
    obtain ⟨⟨h1, h2⟩, h3⟩ := hc
    subst h3
    split at h
    · split at h
      · rename_i g1 g2 g3
        cases h
        exact s_isx1 g h1 g1 (hf _ _ g2) g3
      · cases h
    · split at h
      · rename_i g1 g2 g3
        cases h
        rw [Bool.and_eq_true, decide_eq_true_eq] at g1
        rename_i ts
        exact s_isxT g h1 g1.1 (hf _ _ g2) g3 g1.2.1 fun e => by
          have := (ercs_ok g g3).1
          rw [e] at this
          have h0 := g1.2.2
          rw [← this] at h0
          exact absurd h0 (by decide)
      · cases h
    · cases h
  · cases h
end
end Lp

end
section
/-! LpC6: calls of built-in functions, of methods, of defs. -/
namespace Lp
open PySem PySem.Spec PyProof.Rows L2
section
variable {X : Cx} {S : SC} {C : Calls} {Wx : WX} {k : Nat} {a b c : Expr} {ma mb mc : Ex} {pos : Pos}
theorem plain_of {x : Str} (h : plainN x = true) : x ≠ "__name__" ∧ (x == ("__debug__" : Str)) = false := by
  unfold plainN at h
  simp only [Bool.and_eq_true, Bool.not_eq_true'] at h
  exact ⟨fun e => by rw [e] at h; exact absurd h.2 (by decide +kernel), h.1.1⟩
/-- which rule stands for which function -/
structure BiR (X : Cx) (x : Str) (b : Bi) : Prop where
  inn : x ∈ bltFs ∨ x ∈ bltTs
  rule : (∃ id, bootBuiltins x = some (.builtin id) ∧ CallR X (.builtin id) (rC X.K (biR b))) ∨ ∃ T, bootBuiltins x = some (.type T) ∧ CallR X (.type T) (rC X.K (biR b))
theorem bi_ok (g : Good X S C k Wx) {x : Str} {b : Bi} (h : biOf x = some b) : BiR X x b := by
  unfold biOf at h
  split at h
  · rename_i e
    cases h
    subst e
    exact ⟨.inl (by decide +kernel), .inl ⟨_, PySem.boot_len, c_len⟩⟩
  split at h
  · rename_i e
    cases h
    subst e
    exact ⟨.inl (by decide +kernel), .inl ⟨"all", by decide +kernel, c_all g.calm⟩⟩
  split at h
  · rename_i e
    cases h
    subst e
    exact ⟨.inl (by decide +kernel), .inl ⟨"sum", by decide +kernel, c_sum g.calm⟩⟩
  split at h
  · rename_i e
    cases h
    subst e
    exact ⟨.inl (by decide +kernel), .inl ⟨"max", by decide +kernel, c_max g.calm (by have := g.room.un; omega)⟩⟩
  split at h
  · rename_i e
    cases h
    subst e
    exact ⟨.inl (by decide +kernel), .inl ⟨"min", by decide +kernel, c_min g.calm (by have := g.room.un; omega)⟩⟩
  split at h
  · rename_i e
    cases h
    subst e
    exact ⟨.inl (by decide +kernel), .inl ⟨"repr", by decide +kernel, c_repr g.gd (by have := g.room.un; omega)⟩⟩
  split at h
  · rename_i e
    cases h
    subst e
    exact ⟨.inr (by decide +kernel), .inr ⟨"tuple", by decide +kernel, c_tuple⟩⟩
  split at h
  · rename_i e
    cases h
    subst e
    exact ⟨.inr (by decide +kernel), .inr ⟨"list", by decide +kernel, c_list⟩⟩
  split at h
  · rename_i e
    cases h
    subst e
    exact ⟨.inr (by decide +kernel), .inr ⟨"int", by decide +kernel, c_int⟩⟩
  split at h
  · rename_i e
    cases h
    subst e
    exact ⟨.inl (by decide +kernel), .inl ⟨"divmod", by decide +kernel, c_divmod⟩⟩
  split at h
  · rename_i e
    cases h
    subst e
    exact ⟨.inl (by decide +kernel), .inl ⟨"sorted", by decide +kernel, c_sorted⟩⟩
  cases h
theorem bi_val {b : Bi} {ms : Exs} {σ : L2.St} {H : Hp} {Q : VK} (h : tEv X.K C Wx (.bi b ms) σ H Q) : tCB (rC X.K (biR b)) (tEvs X.K C Wx ms) σ H Q := by
  obtain ⟨e, F, fi, ow, p⟩ := h
  rw [ev, Post.bind] at p
  refine ⟨e, F, fi, ow, p.mono fun as e1 p1 vs H1 fi1 ow1 b1 => ?_⟩
  split at p1
  · rename_i rs hr
    obtain ⟨z, hz, q⟩ := val_of (K := X.K) (H := H1) (F := F) (σ := σ) p1
    obtain ⟨l1, l2⟩ := looks_mem fi1 b1 hr
    refine ⟨_, rs, z, ow1, l1, fun x hx => ?_, hz, fun w H4 ow4 => q w H4 fi1 (ow4.by fun y => by simp only [ent, cnt_app, cnt_cons, cnt_nil]; omega) trivial⟩
    rcases List.mem_append.mp (l2 x hx) with h | h
    · exact List.mem_append_left _ h
    · exact List.mem_append_right _ (List.mem_append_left _ h)
  · exact p1.elim
theorem s_bi (g : Good X S C k Wx) {f : Expr → Option Ex} (hf : ∀ e m, f e = some m → PE X e (tEv X.K C Wx m)) {x : Str} {b : Bi} {e : Expr} {es : List Expr} {ms : Exs} {p : Pos} (hx : S.glb x = true) (hp : plainN x = true) (hb : biOf x = some b) (hl : trL f (e :: es) = some ms) :
    PE X (.Call (.Name x p) (e :: es) [] pos) (tEv X.K C Wx (.bi b ms)) := by
  have ns : noStar e = true := by
    unfold trL at hl
    split at hl
    · assumption
    · cases hl
  have hpl : (backTo pos (starEach es X.env)).any (·.1) = false := by
    unfold trL at hl
    split at hl
    · rename_i h3
      exact stars_plain h3
    · cases hl
  obtain ⟨h1, h2⟩ := bi_ok g hb
  obtain ⟨n1, n2⟩ := plain_of hp
  rcases h2 with ⟨id, q1, q2⟩ | ⟨T, q1, q2⟩
  · exact (pe_callB q2 (glb_of g hx) (g.mo.bl _ h1) q1 (s_args hf hl) n1 n2 (star_eq ns) hpl).wk fun σ H Q h => bi_val h
  · exact (pe_callTy q2 (glb_of g hx) (g.mo.bl _ h1) q1 (s_args hf hl) n1 n2 (star_eq ns) hpl).wk fun σ H Q h => bi_val h

/-! ### defs -/
theorem prep_ok {K : PySem.W.Frag} {H : Hp} {σ : L2.St} {refs : List Nat} : ∀ {vs : List V} {as bs : List A} {j : Nat} {e e' : Env} {F : List En}, Fits σ e.sl → Boks σ vs as → Own K H (ents vs as ++ (live σ e.sl ++ F)) → e.prep refs j as = some (bs, e') →
    Fits σ e'.sl ∧ Boks σ vs bs ∧ Own K H (ents vs bs ++ (live σ e'.sl ++ F)) ∧ e'.st = e.st
  | _, _, _, j, e, _, F, f, .nil, ow, h => by
    simp only [Env.prep] at h
    cases h
    exact ⟨f, .nil, ow, rfl⟩
  | _, _, _, j, e, _, F, f, .cons (v := v) (a := .val r) (vs := vs) (as := as) hb t, ow, h => by
    simp only [Env.prep] at h
    split at h
    · rename_i bs e2 h2
      cases h
      obtain ⟨f2, b2, ow2, st⟩ := prep_ok (F := .it v r :: F) f t (ow.by fun x => by simp only [ents, ent, cnt_app, cnt_cons, cnt_nil]; omega) h2
      exact ⟨f2, .cons trivial b2, ow2.by fun x => by simp only [ents, ent, cnt_app, cnt_cons, cnt_nil]; omega, st⟩
    · cases h
  | _, _, _, j, e, _, F, f, .cons (v := v) (a := .bor i) (vs := vs) (as := as) hb t, ow, h => by
    simp only [Env.prep] at h
    split at h
    · split at h
      · rename_i bs e2 h2
        cases h
        obtain ⟨f2, b2, ow2, st⟩ := prep_ok (F := F) f t (ow.by fun x => by simp only [ents, ent, cnt_app, cnt_cons, cnt_nil]; omega) h2
        exact ⟨f2, .cons hb b2, ow2.by fun x => by simp only [ents, ent, cnt_app, cnt_cons, cnt_nil]; omega, st⟩
      · cases h
    · split at h
      · rename_i d e1 h1
        split at h
        · rename_i bs e2 h2
          cases h
          obtain ⟨f1, ow1⟩ := frz_ok (a := .bor i) (F := ents vs as ++ F) f hb (ow.by fun x => by simp only [ents, ent, cnt_app, cnt_cons, cnt_nil]; omega) h1
          obtain ⟨f2, b2, ow2, st⟩ := prep_ok (F := .it v (.frz d) :: F) f1 t (ow1.by fun x => by simp only [cnt_app, cnt_cons, cnt_nil]; omega) h2
          exact ⟨f2, .cons trivial b2, ow2.by fun x => by simp only [ents, ent, cnt_app, cnt_cons, cnt_nil]; omega, st.trans (frz_sl h1)⟩
        · cases h
      · cases h
theorem pull_ok {K : PySem.W.Frag} {H : Hp} {σ : L2.St} : ∀ {vs : List V} {as : List A} {rs : List R} {e e' : Env} {F : List En}, Fits σ e.sl → Boks σ vs as → Own K H (ents vs as ++ (live σ e.sl ++ F)) → e.pull as = some (rs, e') →
    Fits σ e'.sl ∧ vs.length = rs.length ∧ Own K H (itr vs rs ++ (live σ e'.sl ++ F))
  | _, _, _, e, _, F, f, .nil, ow, h => by
    simp only [Env.pull] at h
    cases h
    exact ⟨f, rfl, ow⟩
  | _, _, _, e, _, F, f, .cons (v := v) (a := a) (vs := vs) (as := as) hb t, ow, h => by
    simp only [Env.pull] at h
    split at h
    · rename_i r e1 h1
      split at h
      · rename_i rs e2 h2
        cases h
        obtain ⟨f1, ow1⟩ := mov_ok (F := ents vs as ++ F) f hb (ow.by fun x => by simp only [ents, cnt_app]; omega) h1
        obtain ⟨f2, l2, ow2⟩ := pull_ok (F := .it v r :: F) f1 t (ow1.by fun x => by simp only [cnt_app, cnt_cons]; omega) h2
        exact ⟨f2, congrArg (· + 1) l2, ow2.by fun x => by simp only [itr, cnt_app, cnt_cons]; omega⟩
      · cases h
    · cases h
theorem back_ok {K : PySem.W.Frag} {H : Hp} {σ : L2.St} : ∀ {vs : List V} {as : List A} {ps : List (Option R)} {e : Env} {F : List En}, Fits σ e.sl → Boks σ vs as → Own K H (live (vs.map some) ps ++ (live σ e.sl ++ F)) →
    Fits σ (e.back as ps).sl ∧ Own K H (live σ (e.back as ps).sl ++ F)
  | _, _, ps, e, F, f, .nil, ow => by
    have : e.back [] ps = e := by cases ps <;> rfl
    rw [this]
    exact ⟨f, ow.dropL⟩
  | _, _, [], e, F, f, .cons (v := v) (a := a) (as := as) hb t, ow => by
    have : e.back (a :: as) [] = e := by cases a <;> rfl
    rw [this]
    exact ⟨f, ow.dropL⟩
  | _, _, q :: ps, e, F, f, .cons (v := v) (a := .val r) (vs := vs) (as := as) hb t, ow => by
    show Fits σ (e.back as ps).sl ∧ _
    refine back_ok f t (ow.by fun x => ?_)
    cases q with
    | none =>
      show _ ≤ cnt x (live (vs.map some) ps ++ _)
      exact Nat.le_refl _
    | some q =>
      show _ ≤ cnt x (_ :: live (vs.map some) ps ++ _)
      simp only [cnt_app, cnt_cons]
      omega
  | _, _, q :: ps, e, F, f, .cons (v := v) (a := .bor i) (vs := vs) (as := as) hb t, ow => by
    show Fits σ ((e.set i q).back as ps).sl ∧ _
    cases q with
    | none =>
      refine back_ok (e := e.set i none) (f.none i) t (ow.by fun x => ?_)
      have := live_none_le (σ := σ) (sl := e.sl) (i := i) x
      show _ ≤ cnt x (live (vs.map some) ps ++ _)
      simp only [cnt_app, Env.set] at this ⊢
      omega
    | some q =>
      refine back_ok (e := e.set i (some q)) (f.put hb) t (ow.by fun x => ?_)
      show _ ≤ cnt x (.it v q :: live (vs.map some) ps ++ _)
      by_cases hl : i < e.sl.length
      · have h1 := live_none_le (σ := σ) (sl := e.sl) (i := i) x
        have h2 := live_put (σ := σ) (sl := e.sl) (r := q) hb hl x
        simp only [cnt_app, cnt_cons, Env.set] at h1 h2 ⊢
        omega
      · have : (e.set i (some q)).sl = e.sl := List.set_eq_of_length_le (by omega)
        rw [this]
        simp only [cnt_app, cnt_cons]
        omega
theorem call_val {x : Str} {ms : Exs} {σ : L2.St} {H : Hp} {Q : VK} (h : tEv X.K C Wx (.call x ms) σ H Q) : tEvs X.K C Wx ms σ H fun vs H1 => spF X.K C x vs H1 Q (WE Wx σ) := by
  obtain ⟨e, F, fi, ow, p⟩ := h
  rw [ev, Post.bind] at p
  refine ⟨e, F, fi, ow, p.mono fun as e1 p1 vs H1 fi1 ow1 b1 => ?_⟩
  split at p1
  · rename_i bs e2 h2
    split at p1
    · rename_i rs e3 h3
      obtain ⟨f2, b2, ow2, _⟩ := prep_ok fi1 b1 ow1 h2
      obtain ⟨f3, l3, ow3⟩ := pull_ok f2 b2 ow2 h3
      refine ⟨rs, e3.st, live σ e3.sl ++ F, ow3, l3, ?_⟩
      unfold CR.fin at p1
      split at p1
      · rename_i r ps st' hr
        try rw [hr]
        intro v H' ow4
        obtain ⟨f5, ow5⟩ := back_ok (ps := ps) (e := { e3 with st := st' }) (F := .it v r :: F) f3 b2 (ow4.by fun x => by simp only [cnt_app, cnt_cons]; omega)
        exact p1 v H' f5 (ow5.by fun x => by simp only [ent, cnt_app, cnt_cons, cnt_nil]; omega) trivial
      · rename_i x ps st' hr
        try rw [hr]
        intro H' ow4
        obtain ⟨f5, ow5⟩ := back_ok (ps := ps) (e := { e3 with st := st' }) (F := F) f3 b2 (ow4.by fun x => by simp only [cnt_app]; omega)
        exact p1 H' f5 ow5
      · exact p1.elim
    · exact p1.elim
  · exact p1.elim
/-- the callee runs -/
theorem run_g {j : Nat} {f : Addr} {fd : FuncData} {ps : List Str} {sp : Sp} {pins : List (Addr × Obj)} {σ : L2.St} {H : Hp} {s : Shared} {Q : VK} {us : List Value} {vs : List V} (F : FnG X.prog X.w X.K X.mg X.base j f fd ps sp) (hg : X.A.guards = some []) (hr : Room j X.A) (hb : Binds X.K fd ps []) (tk : L2N.Takes X Wx)
    (I : Inv X pins σ H s) (r : Vals vs us) (h : sp vs H Q (WE Wx σ)) : wpAny (model X.prog X.w) X.A (call (.ref f) us) (EP X pins σ Q) X.xe s := by
  have hl : us.length = ps.length := by
    rw [← r.length]
    exact F.len _ _ _ _ h
  have bd := hb s us I.kIn (by rw [List.append_nil]; exact hl)
  rw [List.append_nil] at bd
  refine wpAny_call (codeAny_mono (F.run X.A X.stack s H ⟨us, []⟩ us vs Q (WE Wx σ) hg hr I.env0 bd r h) fun res s' hq => ?_)
  cases res with
  | error e => exact L2N.passAt tk σ pins H s e s' I hq
  | ok fl =>
    cases fl with
    | ret u => exact I.after hq
    | next => exact hq.elim
    | brk => exact hq.elim
    | cont => exact hq.elim
theorem s_call (g : Good X S C k Wx) {f : Expr → Option Ex} (hf : ∀ e m, f e = some m → PE X e (tEv X.K C Wx m)) {x : Str} {es : List Expr} {ms : Exs} {p : Pos} (hx : S.glb x = true) (hp : plainN x = true) (hb : x ∈ S.fns) (hl : trL f es = some ms) :
    PE X (.Call (.Name x p) es [] pos) (tEv X.K C Wx (.call x ms)) := by
  obtain ⟨fa, fd, ps, F, hm, kp, bi⟩ := g.mo.fn x hb
  obtain ⟨n1, n2⟩ := plain_of hp
  cases es with
  | nil =>
    unfold trL at hl
    cases hl
    refine ⟨fun pins s σ H Q I h => ?_⟩
    refine wpAny_Call_Name_kw (ld_glob I (glb_of g hx) hm ?_ n2)
    have h2 := call_val h
    obtain ⟨e, F', fi, ow, q⟩ := h2
    rw [evs] at q
    exact PySem.W.callWith_K0 I.kIn kp (run_g F g.gd g.room bi g.tk I .nil (q [] H fi ow .nil))
  | cons e es =>
    have ns : noStar e = true := by
      unfold trL at hl
      split at hl
      · assumption
      · cases hl
    have hpl : (backTo pos (starEach es X.env)).any (·.1) = false := by
      unfold trL at hl
      split at hl
      · rename_i h3
        exact stars_plain h3
      · cases hl
    refine ⟨fun pins s σ H Q I h => ?_⟩
    refine wpAny_Call_Name_kw (ld_glob I (glb_of g hx) hm ?_ n2)
    refine PySem.W.callWith_K (h₀ := X.base) I.ok.mod.kin kp (thn ((s_args hf hl).run pos pins s σ H _ I (call_val h)) fun us s1 ⟨vs, H1, I1, r, q⟩ => ⟨I1.kIn, ?_⟩) (star_eq ns) hpl
    exact run_g F g.gd g.room bi g.tk I1 r q

/-! ### methods that change their list -/
theorem mtOf_ok {x : Str} {m : Mt} (h : mtOf x = some m) : m.own = true ∧ ∃ id, Slot "list" x id ∧ typeOf (.builtin id) = pure (.type "method_descriptor") ∧ MtR X id (rM X.K m) := by
  unfold mtOf at h
  split at h
  · rename_i e
    cases h
    subst e
    exact ⟨rfl, _, PySem.F.slot_list_append, PySem.F.type_list_append, m_append⟩
  split at h
  · rename_i e
    cases h
    subst e
    exact ⟨rfl, _, PySem.F.slot_list_pop, PySem.F.type_list_pop, m_pop⟩
  split at h
  · rename_i e
    cases h
    subst e
    exact ⟨rfl, _, PySem.F.slot_list_count, PySem.F.type_list_count, m_count⟩
  split at h
  · rename_i e
    cases h
    subst e
    exact ⟨rfl, _, PySem.F.slot_list_index, PySem.F.type_list_index, m_index⟩
  split at h
  · rename_i e
    cases h
    subst e
    exact ⟨rfl, _, PySem.F.slot_list_extend, PySem.F.type_list_extend, m_extend⟩
  split at h
  · rename_i e
    cases h
    subst e
    exact ⟨rfl, _, PySem.F.slot_list_reverse, PySem.F.type_list_reverse, m_reverse⟩
  cases h
theorem mt_end {K : PySem.W.Frag} {m : Mt} {σ : L2.St} {H : Hp} {Q : VK} {i : Nat} {v : V} {vs : List V} {as : List A} {e2 : Env} {F : List En} (hv : σ[i]? = some (some v)) (fi : Fits σ e2.sl) (ow : Own K H (ents vs as ++ (live σ e2.sl ++ F))) (b : Boks σ vs as)
    {E : Exn → Env → Prop} (p : Post (match e2.frzs as with
          | some (ds, e3) => match e3.get i with
            | some (.lst l) => match mtOwn m l ds with
              | some (d, l') => .ok (.val (.frz d)) (e3.set i (some (.lst l')))
              | none => .no
            | _ => .no
          | none => .no) E fun a e' => ∀ v H', Fits σ e'.sl → Own K H' (ent v a ++ (live σ e'.sl ++ F)) → bok σ v a → Q v H') : rM K m v vs H Q := by
  split at p
  · rename_i ds e3 hz
    obtain ⟨f3, l3, ow3⟩ := frzs_ok fi b ow hz
    split at p
    · rename_i l hl
      have h1 := get_iff.mp hl
      have fl := f3.lt h1
      split at p
      · rename_i d l' hm
        refine ⟨live σ (e3.sl.set i none) ++ F, l, ds, d, l', ow3.by fun x => ?_, l3, hm, fun w H' ow4 => p w H' (f3.put hv) (ow4.by fun x => ?_) trivial⟩
        · have := live_get hv h1 x
          simp only [cnt_app, cnt_cons]
          omega
        · have := live_put (r := .lst l') hv fl.2 x
          simp only [cnt_app, cnt_cons, ent, cnt_nil, Env.set]
          omega
      · exact p.elim
    · exact p.elim
  · exact p.elim
/-- the receiver is a list of its own -/
theorem mt_recv {K : PySem.W.Frag} {σ : L2.St} {H : Hp} {i : Nat} {v : V} {e : Env} {F : List En} {l : List D} (hv : σ[i]? = some (some v)) (ow : Own K H (live σ e.sl ++ F)) (h : e.get i = some (.lst l)) : tyV K "list" v H := by
  have h1 := get_iff.mp h
  have ow1 : Own K H (.it v (.lst l) :: (live σ (e.sl.set i none) ++ F)) := ow.by fun x => by
    have := live_get hv h1 x
    simp only [cnt_app, cnt_cons]
    omega
  obtain ⟨a, xs, rfl, ha, _⟩ := ow1.openL
  exact .inl ⟨rfl, xs, .inl (.inl ha)⟩
theorem s_mt (g : Good X S C k Wx) {f : Expr → Option Ex} (hf : ∀ e m, f e = some m → PE X e (tEv X.K C Wx m)) {o : Expr} {mn : Str} {es : List Expr} {m : Ex} {ap : Pos} (hl : (ap.endLine == pos.line) = true) (h : trM S f o mn es = some m) :
    PE X (.Call (.Attribute o mn ap) es [] pos) (tEv X.K C Wx m) := by
  unfold trM at h
  split at h
  · rename_i x p
    split at h
    · rename_i k' a' h1 h2
      cases h
      obtain ⟨mo, id, s1, s2, s3⟩ := mtOf_ok (X := X) h1
      refine (pe_bm0 PySem.F.plainAttrs_list s1 s2 s3 (hf _ _ h2) (by rfl) hl).wk fun σ H Q hq => ?_
      obtain ⟨e, F, fi, ow, q⟩ := hq
      rw [ev, Post.bind] at q
      refine ⟨e, F, fi, ow, q.mono fun y e1 q1 v H1 fi1 ow1 b1 => ?_⟩
      rw [if_pos mo] at q1
      split at q1
      · rename_i i
        split at q1
        · rename_i l hg
          refine ⟨mt_recv b1 ow1 hg, ?_⟩
          rw [Post.bind, evs] at q1
          exact mt_end (vs := []) b1 fi1 ow1 .nil q1
        · exact q1.elim
      · exact q1.elim
    · rename_i k' a' e h1 h2
      split at h
      · rename_i b' h3 h4
        cases h
        obtain ⟨mo, id, s1, s2, s3⟩ := mtOf_ok (X := X) h1
        have hs : starEach [e] X.env = (false, eval e X.env) :: starEach [] X.env := star_eq h3
        refine (pe_bm PySem.F.plainAttrs_list s1 s2 s3 (hf _ _ h2) (pa_cons (hf _ _ h4) pa_nil hs) (by rfl) (by rw [hs]; rfl) hl hs rfl).wk fun σ H Q hq => ?_
        obtain ⟨e0, F, fi, ow, q⟩ := hq
        rw [ev, Post.bind] at q
        refine ⟨e0, F, fi, ow, q.mono fun y e1 q1 v H1 fi1 ow1 b1 => ?_⟩
        rw [if_pos mo] at q1
        split at q1
        · rename_i i
          split at q1
          · rename_i l hg
            refine ⟨mt_recv b1 ow1 hg, ?_⟩
            rw [Post.bind, evs, Post.bind] at q1
            refine ⟨e1, F, fi1, ow1, q1.mono fun z e2 q2 w H2 fi2 ow2 b2 => ?_⟩
            rw [Post.bind, evs] at q2
            exact mt_end (vs := [w]) (as := [z]) b1 fi2 (ow2.by fun x => by simp only [ents, cnt_app, cnt_nil]; omega) (.cons b2 .nil) q2
          · exact q1.elim
        · exact q1.elim
      · cases h
    · cases h
  · cases h
theorem s_upd {f : Expr → Option Ex} (hf : ∀ e m, f e = some m → PE X e (tEv X.K C Wx m)) {o : Expr} {mn : Str} {es : List Expr} {m : Ex} {ap : Pos} (hl : (ap.endLine == pos.line) = true) (h : trU f o mn es = some m) :
    PE X (.Call (.Attribute o mn ap) es [] pos) (tEv X.K C Wx m) := by
  unfold trU at h
  split at h
  · rename_i x p e
    split at h
    · rename_i hc
      simp only [Bool.and_eq_true, decide_eq_true_eq] at hc
      obtain ⟨em, ns⟩ := hc
      subst em
      split at h
      · rename_i a' b' h1 h2
        cases h
        have hs : starEach [e] X.env = (false, eval e X.env) :: starEach [] X.env := star_eq ns
        refine (pe_bm PySem.F.plainAttrs_dict PySem.F.slot_dict_update PySem.F.type_dict_update mt_dupd (hf _ _ h1) (pa_cons (hf _ _ h2) pa_nil hs) (by rfl) (by rw [hs]; rfl) hl hs rfl).wk fun σ H Q hq => ?_
        obtain ⟨e0, F, fi, ow, q⟩ := hq
        rw [ev, Post.bind] at q
        refine ⟨e0, F, fi, ow, q.mono fun y e1 q1 v H1 fi1 ow1 b1 => ?_⟩
        split at q1
        · rename_i i
          split at q1
          · rename_i l0 hg
            have hv : σ[i]? = some (some v) := b1
            have g1 := get_iff.mp hg
            refine ⟨?_, ?_⟩
            · have ow2 : Own X.K H1 (.it v (.dic l0) :: (live σ (e1.sl.set i none) ++ F)) := Own.by (L := live σ e1.sl ++ F) ow1 fun x => by
                have := live_get hv g1 x
                simp only [cnt_app, cnt_cons]
                omega
              obtain ⟨F0, m0, fp, e00, k0, nd, zz⟩ := ow2
              cases k0 with
              | cons k1 k2 =>
                cases k1 with
                | it k1 =>
                  cases k1 with
                  | dic q t => exact .inr (.inr (.inl ⟨rfl, .inl ⟨_, q⟩⟩))
            rw [Post.bind] at q1
            refine ⟨e1, F, fi1, ow1, q1.mono fun z e2 q2 w H2 fi2 ow2 b2 => ?_⟩
            split at q2
            · rename_i m e3 hz
              obtain ⟨f3, ow3⟩ := frz_ok fi2 b2 ow2 hz
              split at q2
              · rename_i l hg3
                have g3 := get_iff.mp hg3
                have fl := f3.lt g3
                split at q2
                · rename_i hb
                  have ow4 : Own X.K H2 (.it v (.dic l) :: .it w (.frz (.dic m)) :: (live σ (e3.sl.set i none) ++ F)) := ow3.by fun x => by
                    have := live_get hv g3 x
                    simp only [cnt_app, cnt_cons]
                    omega
                  obtain ⟨a, b, ks, ms, rfl, rfl, ha, hr, hab, l1, l2, ow5⟩ := ow4.mrgK
                  refine ⟨a, b, ks, ms, rfl, rfl, ha, hr, hab, ?_, ?_⟩
                  · rw [l1, l2]
                    have := big_le hb
                    exact this
                  · refine q2 _ _ (f3.put hv) ((Own.non ow5).by fun x => ?_) trivial
                    have := live_put (r := .dic (mrgD l m)) hv fl.2 x
                    simp only [cnt_app, cnt_cons, ent, cnt_nil, Env.set]
                    omega
                · exact q2.elim
              · exact q2.elim
            · exact q2.elim
          · exact q1.elim
        · exact q1.elim
      · cases h
    · cases h
  · cases h
end
end Lp

end
section
/-! LpC6t: a def out of a table of defs is called. -/
namespace Lp
open PySem PySem.Spec PyProof.Rows L2
/-- where a def of the module stands -/
def fnA (mg : Str → Option Value) (x : Str) : Nat := match mg x with
  | some (.ref f) => f
  | _ => 0
theorem fnA_of {mg : Str → Option Value} {x : Str} {f : Nat} (h : mg x = some (.ref f)) : fnA mg x = f := by
  unfold fnA
  rw [h]
theorem Own.capHas {K : PySem.W.Frag} {H : Hp} {L : List En} {p : Addr} {o : HO} (h : Own K H (.cap p o :: L)) : H p = some o := by
  obtain ⟨F, m, fp, e, k, nd, z⟩ := h
  cases k with
  | cons k1 k2 =>
    cases k1 with
    | cap k1 => exact k1
section
variable {X : Cx} {S : SC} {C : Calls} {Wx : WX} {k : Nat} {pos : Pos}
theorem fns_pa (g : Good X S C k Wx) : ∀ {es : List Expr} {xs : List Str}, fnsOf S es = some xs → xs.length = es.length ∧ (∀ x ∈ xs, x ∈ S.fns) ∧ PA X es (fun _ H Q => Q (xs.map fun x => .ref (fnA X.mg x)) H)
  | [], xs, h => by
    unfold fnsOf at h
    cases h
    exact ⟨rfl, (fun _ h => nomatch h), pa_nil⟩
  | .Name x p :: r, xs, h => by
    unfold fnsOf at h
    split at h
    · rename_i hc
      simp only [Bool.and_eq_true] at hc
      obtain ⟨⟨h1, h2⟩, h3⟩ := hc
      obtain ⟨l, hl, e⟩ := Option.map_eq_some_iff.mp h
      subst e
      obtain ⟨a1, a2, a3⟩ := fns_pa g hl
      have hf : x ∈ S.fns := by simpa using h3
      obtain ⟨fa, fd, ps, F, hm, kp, bi⟩ := g.mo.fn x hf
      obtain ⟨n1, n2⟩ := plain_of h2
      refine ⟨congrArg (· + 1) a1, fun y hy => ?_, (pa_cons (pe_glob (v := .ref fa) (glb_of g h1) hm rfl n2) a3 rfl).wk fun σ H Q hq => ?_⟩
      · rcases List.mem_cons.mp hy with rfl | hy
        · exact hf
        · exact a2 y hy
      · rw [List.map_cons, fnA_of hm] at hq
        exact hq
    · cases h
  | .BoolOp .. :: _, _, h => by simp [fnsOf] at h
  | .NamedExpr .. :: _, _, h => by simp [fnsOf] at h
  | .BinOp .. :: _, _, h => by simp [fnsOf] at h
  | .UnaryOp .. :: _, _, h => by simp [fnsOf] at h
  | .Lambda .. :: _, _, h => by simp [fnsOf] at h
  | .IfExp .. :: _, _, h => by simp [fnsOf] at h
  | .Dict .. :: _, _, h => by simp [fnsOf] at h
  | .Set .. :: _, _, h => by simp [fnsOf] at h
  | .ListComp .. :: _, _, h => by simp [fnsOf] at h
  | .SetComp .. :: _, _, h => by simp [fnsOf] at h
  | .DictComp .. :: _, _, h => by simp [fnsOf] at h
  | .GeneratorExp .. :: _, _, h => by simp [fnsOf] at h
  | .Await .. :: _, _, h => by simp [fnsOf] at h
  | .Yield .. :: _, _, h => by simp [fnsOf] at h
  | .YieldFrom .. :: _, _, h => by simp [fnsOf] at h
  | .Compare .. :: _, _, h => by simp [fnsOf] at h
  | .Call .. :: _, _, h => by simp [fnsOf] at h
  | .FormattedValue .. :: _, _, h => by simp [fnsOf] at h
  | .JoinedStr .. :: _, _, h => by simp [fnsOf] at h
  | .Constant .. :: _, _, h => by simp [fnsOf] at h
  | .Attribute .. :: _, _, h => by simp [fnsOf] at h
  | .Subscript .. :: _, _, h => by simp [fnsOf] at h
  | .Starred .. :: _, _, h => by simp [fnsOf] at h
  | .Tuple .. :: _, _, h => by simp [fnsOf] at h
  | .List .. :: _, _, h => by simp [fnsOf] at h
  | .Slice .. :: _, _, h => by simp [fnsOf] at h
theorem callt_val {xs : List Str} {a : Ex} {ms : Exs} {σ : L2.St} {H : Hp} {Q : VK} (h : tEv X.K C Wx (.callt xs a ms) σ H Q) : ∀ q, H q = none → tEv X.K C Wx a σ (upd H q (.lst (xs.map fun x => .ref (fnA X.mg x)))) fun y H2 => rIxL X.K (.ref q) y H2 fun w H3 =>
    ∃ f, f ∈ xs ∧ w = .ref (fnA X.mg f) ∧ tEvs X.K C Wx ms σ H3 fun us H4 => spF X.K C f us H4 Q (WE Wx σ) := by
  obtain ⟨e, F, fi, ow, p⟩ := h
  rw [ev, Post.bind] at p
  intro q hq
  refine ⟨e, .cap q (.lst (xs.map fun x => .ref (fnA X.mg x))) :: F, fi, (ow.cap hq).by fun z => by simp only [cnt_app, cnt_cons]; omega, p.mono (fun x e1 p1 y H1 fi1 ow1 b1 => ?_) fun x e h => PX.wk h fun z => by simp only [cnt_cons]; omega⟩
  split at p1
  · rename_i kk
    split at p1
    · rename_i f hf
      have ey : y = .int kk := ow1.atI (List.mem_append_left _ List.mem_cons_self)
      have ow2 : Own X.K H1 (.cap q (.lst (xs.map fun x => .ref (fnA X.mg x))) :: (live σ e1.sl ++ F)) := ow1.by fun z => by
        simp only [cnt_app, cnt_cons, ent, cnt_nil]
        omega
      obtain ⟨j, h1, h2⟩ := at_pos hf
      refine ⟨q, _, kk, .ref (fnA X.mg f), rfl, ey, .inl (.inl ow2.capHas), ?_, f, List.mem_of_getElem? h2, rfl, ?_⟩
      · unfold atI
        rw [List.length_map, h1]
        show (xs.map _)[j]? = _
        rw [List.getElem?_map, h2]
        rfl
      · exact call_val (x := f) ⟨e1, F, fi1, ow2.tail, by rw [ev]; exact p1⟩
    · exact p1.elim
  · exact p1.elim
theorem s_callt (g : Good X S C k Wx) {f : Expr → Option Ex} (hf : ∀ e m, f e = some m → PE X e (tEv X.K C Wx m)) {fs es : List Expr} {i e : Expr} {xs : List Str} {a : Ex} {ms : Exs} {lp sp : Pos} (h1 : fnsOf S fs = some xs) (h2 : f i = some a) (h3 : trL f (e :: es) = some ms) (hn : fs.length < 1000) (hs : noSlice i = true) :
    PE X (.Call (.Subscript (.List fs lp) i sp) (e :: es) [] pos) (tEv X.K C Wx (.callt xs a ms)) := by
  obtain ⟨l1, l2, l3⟩ := fns_pa g h1
  have ns : noStar e = true := by
    unfold trL at h3
    split at h3
    · assumption
    · cases h3
  have hpl : (backTo pos (starEach es X.env)).any (·.1) = false := by
    unfold trL at h3
    split at h3
    · rename_i h4
      exact stars_plain h4
    · cases h3
  have pf := pe_ix ix_list (pe_lst (pos := lp) l3) (hf _ _ h2) (pos := sp) (fun o i' => by cases i <;> first | rfl | cases hs)
  refine ⟨fun pins s σ H Q I h => ?_⟩
  refine Call_ (thn (pf.run pins s σ H _ I (show tOp _ _ _ σ H _ from ⟨lt_line (by rw [List.length_map, l1]; exact hn), callt_val h⟩)) fun u s1 ⟨x, H1, I1, rx, fn, m1, ex, q⟩ => ?_) rfl
  subst ex
  obtain ⟨fa, fd, ps, F, hm, kp, bi⟩ := g.mo.fn fn (l2 fn m1)
  rw [fnA_of hm] at rx
  obtain rfl : u = Value.ref fa := rx
  exact PySem.W.callWith_K (h₀ := X.base) I.ok.mod.kin kp (thn ((s_args hf h3).run pos pins s1 σ H1 _ I1 q) fun us s2 ⟨vs, H2, I2, r, q2⟩ => ⟨I2.kIn, run_g F g.gd g.room bi g.tk I2 r q2⟩) (star_eq ns) hpl
end
end Lp

end
section
/-! LpC6o: objects of the program's own classes: attributes, methods, classes called. -/
namespace Lp
open PySem PySem.Spec PyProof.Rows L2
section
variable {X : Cx} {S : SC} {C : Calls} {Wx : WX} {k : Nat} {pos : Pos}
theorem base_eq {o : Expr} {f : Str} {env : PySem.Env} {w : Sem Value} (h : plainRecv o = true) : attributeBase o f env w = w := by
  unfold plainRecv at h
  split at h
  · rfl
  · rfl
  · cases h
theorem s_fld (g : Good X S C k Wx) {f : Expr → Option Ex} (hf : ∀ e m, f e = some m → PE X e (tEv X.K C Wx m)) {o : Expr} {n : Str} {m : Ex} (h : trFld S f o n = some m) : PE X (.Attribute o n pos) (tEv X.K C Wx m) := by
  unfold trFld at h
  split at h
  · rename_i c hc
    split at h
    · rename_i hp
      split at h
      · rename_i a ha
        cases h
        obtain ⟨c1, c2⟩ := SC.flOf_ok hc
        have ca := g.mo.cs c c1
        refine (pe_fld (hf _ _ ha) (base_eq hp)).wk fun σ H Q hq => ?_
        obtain ⟨e, F, fi, ow, p⟩ := hq
        rw [ev, Post.bind] at p
        refine ⟨e, F, fi, ow, p.mono fun x e1 p1 v H1 fi1 ow1 b1 => ?_⟩
        split at p1
        · rename_i r hl
          split at p1
          · rename_i c' fs hd
            split at p1
            · rename_i hcc
              split at p1
              · rename_i d hfd
                have hm : .it v r ∈ ent v x ++ (live σ e1.sl ++ F) := by
                  rcases List.mem_append.mp (look_mem fi1 b1 hl) with z | z
                  · exact List.mem_append_left _ z
                  · exact List.mem_append_right _ (List.mem_append_left _ z)
                obtain ⟨ad, dx, xs, w, rfl, ha, hw, ow2⟩ := ow1.atF hm hd hfd
                subst hcc
                exact ⟨ad, _, dx, xs, w, rfl, ha, ca.cl, ca.na _ c2, hw, p1 w H1 fi1 (ow2.by fun z => by simp only [ent, cnt_app, cnt_cons, cnt_nil]; omega) trivial⟩
              · exact p1.elim
            · exact p1.elim
          · exact p1.elim
        · exact p1.elim
      · cases h
    · cases h
  · cases h
theorem mth_val {c m gn : Str} {mo : Ex} {ms : Exs} {σ : L2.St} {H : Hp} {Q : VK} (h : tEv X.K C Wx (.mth c m gn mo ms) σ H Q) :
    tEv X.K C Wx mo σ H fun x H1 => ∃ a dx fs, x = .ref a ∧ H1 a = some (.ins (C.cl c) dx fs) ∧ fs.lookup m = none ∧ tEvs X.K C Wx ms σ H1 fun vs H2 => spF X.K C gn (x :: vs) H2 Q (WE Wx σ) := by
  obtain ⟨e, F, fi, ow, p⟩ := h
  rw [ev, Post.bind] at p
  refine ⟨e, F, fi, ow, p.mono fun x e1 p1 v H1 fi1 ow1 b1 => ?_⟩
  split at p1
  · rename_i c' fs e2 hz
    split at p1
    · rename_i hc
      obtain ⟨f2, ow2⟩ := frz_ok fi1 b1 ow1 hz
      obtain ⟨ad, dx, xs, F0, m0, rfl, ha, _, t⟩ := ow2.atO (r := .frz (.obj c' fs)) List.mem_cons_self rfl
      refine ⟨ad, dx, xs, rfl, by rw [← hc.1]; exact ha, t.none (by simpa using hc.2), ?_⟩
      rw [Post.bind] at p1
      refine ⟨e2, .it (.ref ad) (.frz (.obj c' fs)) :: F, f2, ow2.by fun z => by simp only [cnt_app, cnt_cons]; omega, p1.mono fun as e3 p3 vs H2 fi3 ow3 b3 => ?_⟩
      split at p3
      · rename_i bs e4 h4
        split at p3
        · rename_i rs e5 h5
          obtain ⟨f4, b4, ow4, _⟩ := prep_ok (σ := σ) (vs := .ref ad :: vs) (as := .val (.frz (.obj c' fs)) :: as) (F := F) fi3 (.cons trivial b3) (ow3.by fun z => by simp only [ents, ent, cnt_app, cnt_cons, cnt_nil]; omega) h4
          obtain ⟨f5, l5, ow5⟩ := pull_ok f4 b4 ow4 h5
          refine ⟨rs, e5.st, live σ e5.sl ++ F, ow5, l5, ?_⟩
          unfold CR.fin at p3
          split at p3
          · rename_i r ps st' hr
            try rw [hr]
            intro v H' ow6
            obtain ⟨f7, ow7⟩ := back_ok (ps := ps) (e := { e5 with st := st' }) (F := .it v r :: F) f5 b4 (ow6.by fun x => by simp only [cnt_app, cnt_cons]; omega)
            exact p3 v H' f7 (ow7.by fun x => by simp only [ent, cnt_app, cnt_cons, cnt_nil]; omega) trivial
          · rename_i x ps st' hr
            try rw [hr]
            intro H' ow6
            obtain ⟨f7, ow7⟩ := back_ok (ps := ps) (e := { e5 with st := st' }) (F := F) f5 b4 (ow6.by fun x => by simp only [cnt_app]; omega)
            exact p3 H' f7 ow7
          · exact p3.elim
        · exact p3.elim
      · exact p3.elim
    · exact p1.elim
  · exact p1.elim
theorem s_mth (g : Good X S C k Wx) {f : Expr → Option Ex} (hf : ∀ e m, f e = some m → PE X e (tEv X.K C Wx m)) {o : Expr} {mn : Str} {es : List Expr} {m : Ex} {ap : Pos} (hl0 : (ap.endLine == pos.line) = true) (h : trMth S f o mn es = some m) :
    PE X (.Call (.Attribute o mn ap) es [] pos) (tEv X.K C Wx m) := by
  unfold trMth at h
  split at h
  · rename_i c gn hc
    split at h
    · rename_i hp
      split at h
      · rename_i a ms ha hl
        cases h
        obtain ⟨c1, c2⟩ := SC.mtOf_ok hc
        have ca := g.mo.cs c c1
        obtain ⟨fa, fd, ps, FG, hm, bi⟩ := ca.mt _ _ c2
        rw [Bool.and_eq_true, decide_eq_true_eq] at hp
        have hform : methodCallForm (es.length + ([] : List Keyword).length) (backTo pos (starEach es X.env)) (backToKw pos (keywordEach [] X.env)) = true := by
          have h1 := stars_plain (env := X.env) (p := pos) hl
          have h2 : (backTo pos (starEach es X.env)).all (!·.1) = true := by
            rw [List.all_eq_true]
            intro x hx
            rw [List.any_eq_false] at h1
            have := h1 x hx
            simpa using this
          unfold methodCallForm
          rw [h2, Bool.true_and, Bool.and_eq_true]
          refine ⟨rfl, ?_⟩
          have := hp.2
          simp only [List.length_nil, Nat.add_zero]
          exact decide_eq_true (Nat.lt_of_le_of_lt (Nat.add_le_add_left (show (if (backToKw pos (keywordEach [] X.env)).isEmpty = true then 0 else 1) ≤ 1 by split <;> omega) _) (by omega))
        have key : eval (.Call (.Attribute o mn ap) es [] pos) X.env = (do
            let ov ← eval o X.env
            standAt ap.atName
            let (f, first) ← holding [ov] (getMethod ov mn (plainOf o X.env))
            callWith pos f first (backTo pos (starEach es X.env)) (backToKw pos (keywordEach [] X.env))) := by
          have e1 : eval (.Call (.Attribute o mn ap) es [] pos) X.env = (do
              let ov ← attributeBase o mn X.env (eval o X.env)
              standAt ap.atName
              methodCall o mn ap pos X.env ov (es.length + ([] : List Keyword).length) (backTo pos (starEach es X.env)) (backToKw pos (keywordEach [] X.env))) := by
            rfl
          rw [e1, base_eq hp.1]
          congr 1
          funext ov
          congr 1
          funext _
          exact mcall_line hform hl0
        cases es with
        | nil =>
          unfold trL at hl
          cases hl
          refine ⟨fun pins s σ H Q I h => ?_⟩
          refine PySem.W.methodCall_KW (pl := plainOf o X.env) (thn ((hf _ _ ha).run pins s σ H _ I (mth_val h)) fun u s1 ⟨x, H1, I1, rx, ad, dx, fs, ex, ea, l, q⟩ => ?_) key
          subst ex
          obtain rfl : u = Value.ref ad := rx
          refine getmeth_ok I1 ea ca.cl hm l ?_
          obtain ⟨e, F', fi, ow, q⟩ := q
          rw [evs] at q
          exact PySem.W.callWith_K0 (first := [.ref ad]) I1.kIn hm.kp (run_g (us := [.ref ad]) (vs := [.ref ad]) FG g.gd g.room bi g.tk I1 (.cons rfl .nil) (q [] H1 fi ow .nil))
        | cons e es =>
          have ns : noStar e = true := by
            unfold trL at hl
            split at hl
            · assumption
            · cases hl
          have hpl : (backTo pos (starEach es X.env)).any (·.1) = false := by
            unfold trL at hl
            split at hl
            · rename_i h3
              exact stars_plain h3
            · cases hl
          refine ⟨fun pins s σ H Q I h => ?_⟩
          refine PySem.W.methodCall_KW (pl := plainOf o X.env) (thn ((hf _ _ ha).run pins s σ H _ I (mth_val h)) fun u s1 ⟨x, H1, I1, rx, ad, dx, fs, ex, ea, l, q⟩ => ?_) key
          subst ex
          obtain rfl : u = Value.ref ad := rx
          refine getmeth_ok I1 ea ca.cl hm l ?_
          refine PySem.W.callWith_K (first := [.ref ad]) (h₀ := X.base) I.ok.mod.kin hm.kp (thn ((s_args hf hl).run pos pins s1 σ H1 _ I1 q) fun us s2 ⟨vs, H2, I2, r, q2⟩ => ⟨I2.kIn, ?_⟩) (star_eq ns) hpl
          exact run_g (us := .ref ad :: us) (vs := .ref ad :: vs) FG g.gd g.room bi g.tk I2 (.cons rfl r) q2
      · cases h
    · cases h
  · cases h
theorem new_val {c gn : Str} {ms : Exs} {σ : L2.St} {H : Hp} {Q : VK} (h : tEv X.K C Wx (.new c gn ms) σ H Q) :
    tEvs X.K C Wx ms σ H fun vs H1 => ∀ x dx, H1 x = none → H1 dx = none → dx ≠ x → spR X.K C.cl (C.mkr gn) (.ref x :: vs) (upd (upd H1 dx (.own x)) x (.ins (C.cl c) dx [])) (fun v H2 => v = .non ∧ Q (.ref x) H2) (WE Wx σ) := by
  obtain ⟨e, F, fi, ow, p⟩ := h
  rw [ev, Post.bind] at p
  refine ⟨e, F, fi, ow, p.mono fun as e1 p1 vs H1 fi1 ow1 b1 x dx hx hdx hne => ?_⟩
  split at p1
  · rename_i bs e2 h2
    split at p1
    · rename_i rs e3 h3
      obtain ⟨f2, b2, ow2, _⟩ := prep_ok fi1 b1 ow1 h2
      obtain ⟨f3, l3, ow3⟩ := pull_ok f2 b2 ow2 h3
      refine ⟨.obj (C.cl c) [] :: rs, e3.st, live σ e3.sl ++ F, ow3.newO hx hdx hne, congrArg (· + 1) l3, ?_⟩
      unfold CR.made at p1
      split at p1
      · rename_i r ps st' hr
        try rw [hr]
        intro v H' ow4
        have ev := ow4.atN List.mem_cons_self
        refine ⟨ev, ?_⟩
        obtain ⟨f5, ow5⟩ := back_ok (ps := ps) (vs := vs) (e := { e3 with st := st' }) (F := .it (.ref x) r :: F) f3 b2 (ow4.by fun z => by
          show cnt z (live (vs.map some) ps ++ (live σ e3.sl ++ (.it (.ref x) r :: F))) ≤ cnt z (.it v (.frz .non) :: ((.it (.ref x) r :: live (vs.map some) ps) ++ (live σ e3.sl ++ F)))
          simp only [cnt_app, cnt_cons]
          omega)
        exact p1 (.ref x) H' f5 (ow5.by fun x => by simp only [ent, cnt_app, cnt_cons, cnt_nil]; omega) trivial
      · rename_i xx p0 ps st' hr
        try rw [hr]
        intro H' ow4
        obtain ⟨f5, ow5⟩ := back_ok (ps := ps) (vs := vs) (e := { e3 with st := st' }) (F := F) f3 b2 (ow4.by fun z => by
          show cnt z (live (vs.map some) ps ++ (live σ e3.sl ++ F)) ≤ cnt z (live (some (.ref x) :: vs.map some) (p0 :: ps) ++ (live σ e3.sl ++ F))
          cases p0 with
          | none => exact Nat.le_refl _
          | some r =>
            show _ ≤ cnt z (.it (.ref x) r :: live (vs.map some) ps ++ (live σ e3.sl ++ F))
            simp only [cnt_app, cnt_cons]
            omega)
        exact p1 H' f5 ow5
      · exact p1.elim
    · exact p1.elim
  · exact p1.elim
/-- a class's call runs its __init__ -/
theorem run_mk {j : Nat} {f Ca : Addr} {fd : FuncData} {ps : List Str} {sp : Sp} {pins : List (Addr × Obj)} {σ : L2.St} {H : Hp} {s : Shared} {Q : VK} {us : List Value} {vs : List V} (M : Mk X.K Ca f) (F : FnG X.prog X.w X.K X.mg X.base j f fd ps sp) (hg : X.A.guards = some []) (hr : Room (j + 1) X.A) (hb : Binds X.K fd ps []) (tk : L2N.Takes X Wx)
    (I : Inv X pins σ H s) (r : Vals vs us) (h : ∀ x dx, H x = none → H dx = none → dx ≠ x → sp (.ref x :: vs) (upd (upd H dx (.own x)) x (.ins Ca dx [])) (fun v H2 => v = .non ∧ Q (.ref x) H2) (WE Wx σ)) : wpAny (model X.prog X.w) X.A (call (.ref Ca) us) (EP X pins σ Q) X.xe s := by
  have hq := h (s.heap.objs.size + 1) s.heap.objs.size (I.hok.fresh (Nat.le_succ _)) (I.hok.fresh (Nat.le_refl _)) (Nat.ne_of_lt (Nat.lt_succ_self _))
  have I2 := Inv.made (C := Ca) I
  have r2 : Vals (V.ref (s.heap.objs.size + 1) :: vs) (Value.ref (s.heap.objs.size + 1) :: us) := .cons rfl r
  have hl : (Value.ref (s.heap.objs.size + 1) :: us).length = ps.length := by
    have e := r2.length
    rw [F.len _ _ _ _ hq] at e
    exact e.symm
  have bd := hb _ (Value.ref (s.heap.objs.size + 1) :: us) I2.kIn (by rw [List.append_nil]; exact hl)
  rw [List.append_nil] at bd
  refine wpAny_call (make_map (f := f) I.kIn M.makes M.init (beq_iff_eq.mp M.fn) (codeAny_mono (F.run _ X.stack _ _ ⟨Value.ref (s.heap.objs.size + 1) :: us, []⟩ (Value.ref (s.heap.objs.size + 1) :: us) _ _ _ hg (hr.make Ca us [])
    (I2.env0.make Ca us []) bd r2 hq) fun r s' hq' => ?_))
  cases r with
  | error e => exact L2N.passAt tk σ pins _ _ e s' I2 hq'
  | ok fl =>
    cases fl with
    | ret u =>
      obtain ⟨v, H', I3, rv, ev, q3⟩ := I2.after hq'
      subst ev
      exact ⟨rv, ⟨V.ref (s.heap.objs.size + 1), H', I3, rfl, q3⟩⟩
    | next => exact False.elim hq'
    | brk => exact False.elim hq'
    | cont => exact False.elim hq'
theorem s_new (g : Good X S C k Wx) {f : Expr → Option Ex} (hf : ∀ e m, f e = some m → PE X e (tEv X.K C Wx m)) {x : Str} {e : Expr} {es : List Expr} {ms : Exs} {p : Pos} {c : CI} (hx : S.glb x = true) (hp : plainN x = true) (hc : S.clOf x = some c) (hl : trL f (e :: es) = some ms) :
    PE X (.Call (.Name x p) (e :: es) [] pos) (tEv X.K C Wx (.new c.nm c.init ms)) := by
  obtain ⟨c1, c2⟩ := SC.clOf_ok hc
  have ca := g.mo.cs c c1
  subst c2
  obtain ⟨n1, n2⟩ := plain_of hp
  have ns : noStar e = true := by
    unfold trL at hl
    split at hl
    · assumption
    · cases hl
  have hpl : (backTo pos (starEach es X.env)).any (·.1) = false := by
    unfold trL at hl
    split at hl
    · rename_i h3
      exact stars_plain h3
    · cases hl
  rcases ca.made with no | ⟨j, fa, fd, ps, hj, FG, M, bi⟩
  · have none_ : ∀ σ H Q, tEv X.K C Wx (.new c.nm c.init ms) σ H Q → tEvs X.K C Wx ms σ H fun _ _ => False := fun σ H Q h => by
      obtain ⟨e0, F, fi, ow, q⟩ := h
      rw [ev, Post.bind] at q
      refine ⟨e0, F, fi, ow, q.mono fun as e1 p1 vs H1 fi1 ow1 b1 => ?_⟩
      split at p1
      · split at p1
        · rw [no] at p1
          exact p1.elim
        · exact p1.elim
      · exact p1.elim
    refine ⟨fun pins s σ H Q I h => ?_⟩
    refine wpAny_Call_Name_kw (ld_glob I (glb_of g hx) ca.at_ ?_ n2)
    exact PySem.W.callWith_K (h₀ := X.base) I.ok.mod.kin ca.kp (thn ((s_args hf hl).run pos pins s σ H _ I (none_ _ _ _ h)) fun us s1 ⟨vs, H1, I1, r, q⟩ => q.elim) (star_eq ns) hpl
  · refine ⟨fun pins s σ H Q I h => ?_⟩
    refine wpAny_Call_Name_kw (ld_glob I (glb_of g hx) ca.at_ ?_ n2)
    refine PySem.W.callWith_K (h₀ := X.base) I.ok.mod.kin M.kp (thn ((s_args hf hl).run pos pins s σ H _ I (new_val h)) fun us s1 ⟨vs, H1, I1, r, q⟩ => ⟨I1.kIn, ?_⟩) (star_eq ns) hpl
    exact run_mk M FG g.gd (g.room.mono hj) bi g.tk I1 r q
end
end Lp

end
section
/-! LpC7: what is walked; comprehensions. -/
namespace Lp
open PySem PySem.Spec PyProof.Rows L2
/-- J walks ds, as long as G is alive -/
def Walk (K : PySem.W.Frag) (J : L2.It) (ds : List D) (G : List En) : Prop := ∀ (i : Nat) (H : Hp) (L : List En), Own K H (G ++ L) → (ds.length = i → J.stop i H) ∧ ∀ d, ds[i]? = some d → J.go i H ∧ ∀ x H', J.yld i H x H' → Own K H' (.it x (.frz d) :: (G ++ L))
def tIt (K : PySem.W.Frag) (C : Calls) (Wx : WX) (m : It) : TI := fun σ H R => ∃ e F, Fits σ e.sl ∧ Own K H (live σ e.sl ++ F) ∧ Post (evIt C m e) (PX K C Wx σ F) fun ds e' => ∀ (J : L2.It) (H' : Hp) (G : List En), Fits σ e'.sl → Own K H' (G ++ (live σ e'.sl ++ F)) → Walk K J ds G → R J H'
theorem _root_.L2.PI.wk {X : Cx} {tg e : Expr} {t t' : TI} (h : PI X tg e t) (k : ∀ σ H Q, t' σ H Q → t σ H Q) : PI X tg e t' := ⟨fun pins s σ H Q I w => h.run pins s σ H Q I (k _ _ _ w)⟩
section
variable {K : PySem.W.Frag}
theorem walk_l {v : V} {a : Addr} {l : List D} (ev : v = .ref a) : Walk K (Itl K a) l [.it v (.frz (.lst l))] := fun i H L ow => by
  obtain ⟨b, xs, e1, sx, len, ow1⟩ := ow.atL (v := v) (r := .frz (.lst l)) (l := l) List.mem_cons_self rfl
  have eb : b = a := V.ref.inj (e1.symm.trans ev)
  subst eb
  refine ⟨fun h => ⟨xs, sx.sqL, by omega⟩, fun d hd => ?_⟩
  obtain ⟨w, h1, h2⟩ := Own.mem_itz len hd
  refine ⟨⟨xs, w, sx.sqL, h1⟩, fun x H' hy => ?_⟩
  obtain ⟨e2, hx⟩ := hy
  subst e2
  have e3 := Option.some.inj ((hx xs sx.sqL).symm.trans h1)
  subst e3
  exact (ow1.dup (List.mem_append_left _ h2)).by fun z => by simp only [cnt_app, cnt_cons]; omega
theorem walk_t {v : V} {a : Addr} {l : List D} (ev : v = .ref a) : Walk K (Itt K a) l [.it v (.frz (.tup l))] := fun i H L ow => by
  obtain ⟨b, xs, e1, sx, len, ow1⟩ := ow.atT (v := v) (l := l) List.mem_cons_self
  have eb : b = a := V.ref.inj (e1.symm.trans ev)
  subst eb
  have sq : SqT K H b xs := .inl sx
  refine ⟨fun h => ⟨xs, sq, by omega⟩, fun d hd => ?_⟩
  obtain ⟨w, h1, h2⟩ := Own.mem_itz len hd
  refine ⟨⟨xs, w, sq, h1⟩, fun x H' hy => ?_⟩
  obtain ⟨e2, hx⟩ := hy
  subst e2
  have e3 := Option.some.inj ((hx xs sq).symm.trans h1)
  subst e3
  exact (ow1.dup (List.mem_append_left _ h2)).by fun z => by simp only [cnt_app, cnt_cons]; omega
theorem walk_s {l : List Nat} : Walk K (Its ⟨l.toArray⟩) (l.map fun c => .str [c]) [] := fun i H L ow => by
  refine ⟨fun h => ?_, fun d hd => ?_⟩
  · show l.toArray.size ≤ i
    rw [List.size_toArray]
    simp at h
    omega
  · rw [List.getElem?_map] at hd
    obtain ⟨c, hc, e⟩ := Option.map_eq_some_iff.mp hd
    subst e
    refine ⟨?_, fun x H' hy => ?_⟩
    · show i < l.toArray.size
      rw [List.size_toArray]
      exact (List.getElem?_eq_some_iff.mp hc).1
    · obtain ⟨e2, c', h1, h2⟩ := hy
      subst e2
      have e3 : c' = c := by
        have h1' : l[i]? = some c' := by simpa using h1
        exact Option.some.inj (h1'.symm.trans hc)
      subst e3
      subst h2
      exact ow.str [c']
theorem walk_r {lo : Int} {n : Nat} : Walk K (Itr lo n) ((List.range n).map fun (k : Nat) => .int (lo + (k : Int))) [] := fun i H L ow => by
  refine ⟨fun h => ?_, fun d hd => ?_⟩
  · show n ≤ i
    simp at h
    omega
  · rw [List.getElem?_map] at hd
    obtain ⟨c, hc, e⟩ := Option.map_eq_some_iff.mp hd
    subst e
    have hi := (List.getElem?_eq_some_iff.mp hc).1
    rw [List.length_range] at hi
    rw [List.getElem?_range hi] at hc
    have e4 := Option.some.inj hc
    subst e4
    refine ⟨hi, fun x H' hy => ?_⟩
    obtain ⟨e2, h2⟩ := hy
    subst e2
    subst h2
    exact ow.int _
theorem enumD_get : ∀ {l : List D} {k i : Nat}, (enumD k l)[i]? = l[i]?.map fun d => .tup [.int ((k + i : Nat) : Int), d]
  | [], k, i => by simp [enumD]
  | d :: l, k, 0 => by simp [enumD]
  | d :: l, k, i + 1 => by
    have := enumD_get (l := l) (k := k + 1) (i := i)
    simp only [enumD, List.getElem?_cons_succ]
    rw [this]
    have e : k + 1 + i = k + (i + 1) := by omega
    rw [e]
theorem enumD_len : ∀ {l : List D} {k : Nat}, (enumD k l).length = l.length
  | [], _ => rfl
  | _ :: l, k => congrArg (· + 1) (enumD_len (l := l) (k := k + 1))
theorem walk_e {v : V} {a : Addr} {l : List D} (ev : v = .ref a) : Walk K (Ite K a) (enumD 0 l) [.it v (.frz (.lst l))] := fun i H L ow => by
  obtain ⟨b, xs, e1, sx, len, ow1⟩ := ow.atL (v := v) (r := .frz (.lst l)) (l := l) List.mem_cons_self rfl
  have eb : b = a := V.ref.inj (e1.symm.trans ev)
  subst eb
  refine ⟨fun h => ⟨xs, sx.sqL, by rw [enumD_len] at h; omega⟩, fun d hd => ?_⟩
  rw [enumD_get] at hd
  obtain ⟨d0, hd0, e⟩ := Option.map_eq_some_iff.mp hd
  subst e
  obtain ⟨w, h1, h2⟩ := Own.mem_itz len hd0
  refine ⟨⟨xs, w, sx.sqL, h1⟩, fun x H' hy => ?_⟩
  obtain ⟨T, y, ex, nT, eH, hx⟩ := hy
  subst ex eH
  have e3 := Option.some.inj ((hx xs sx.sqL).symm.trans h1)
  subst e3
  have ow2 := (ow1.dup (List.mem_append_left _ h2)).int ((i : Nat) : Int)
  have := ow2.newT (L' := [.it v (.frz (.lst l))] ++ L) (xs := [.int ((i : Nat) : Int), y]) (l := [.int ((0 + i : Nat) : Int), d0]) (fun z => by
    simp only [itz, cnt_app, cnt_cons, cnt_nil, Nat.zero_add]
    omega) rfl nT
  exact this
theorem walk_eT {v : V} {a : Addr} {l : List D} (ev : v = .ref a) : Walk K (ItT K a) (enumD 0 l) [.it v (.frz (.tup l))] := fun i H L ow => by
  obtain ⟨b, xs, e1, sx, len, ow1⟩ := ow.atT (v := v) (l := l) List.mem_cons_self
  have eb : b = a := V.ref.inj (e1.symm.trans ev)
  subst eb
  have sq : SqT K H b xs := .inl sx
  refine ⟨fun h => ⟨xs, sq, by rw [enumD_len] at h; omega⟩, fun d hd => ?_⟩
  rw [enumD_get] at hd
  obtain ⟨d0, hd0, e⟩ := Option.map_eq_some_iff.mp hd
  subst e
  obtain ⟨w, h1, h2⟩ := Own.mem_itz len hd0
  refine ⟨⟨xs, w, sq, h1⟩, fun x H' hy => ?_⟩
  obtain ⟨T, y, ex, nT, eH, hx⟩ := hy
  subst ex eH
  have e3 := Option.some.inj ((hx xs sq).symm.trans h1)
  subst e3
  have ow2 := (ow1.dup (List.mem_append_left _ h2)).int ((i : Nat) : Int)
  have := ow2.newT (L' := [.it v (.frz (.tup l))] ++ L) (xs := [.int ((i : Nat) : Int), y]) (l := [.int ((0 + i : Nat) : Int), d0]) (fun z => by
    simp only [itz, cnt_app, cnt_cons, cnt_nil, Nat.zero_add]
    omega) rfl nT
  exact this
theorem zipD_get : ∀ {l m : List D} {i : Nat} {d : D}, (zipD l m)[i]? = some d → ∃ x y, l[i]? = some x ∧ m[i]? = some y ∧ d = .tup [x, y]
  | [], m, i, d, h => by simp [zipD] at h
  | x :: l, [], i, d, h => by simp [zipD] at h
  | x :: l, y :: m, 0, d, h => by
    simp [zipD] at h
    exact ⟨x, y, rfl, rfl, h.symm⟩
  | x :: l, y :: m, i + 1, d, h => by
    simp only [zipD, List.getElem?_cons_succ] at h ⊢
    exact zipD_get h
theorem zipD_len : ∀ {l m : List D}, (zipD l m).length = min l.length m.length
  | [], m => by simp [zipD]
  | x :: l, [] => by simp [zipD]
  | x :: l, y :: m => by
    show (zipD l m).length + 1 = min (l.length + 1) (m.length + 1)
    rw [zipD_len]
    omega
theorem walk_z {v u : V} {a b : Addr} {l m : List D} (ev : v = .ref a) (eu : u = .ref b) : Walk K (Itz K a b) (zipD l m) [.it v (.frz (.lst l)), .it u (.frz (.lst m))] := fun i H L ow => by
  obtain ⟨a', xs, e1, sx, len, _⟩ := ow.atL (v := v) (r := .frz (.lst l)) (l := l) List.mem_cons_self rfl
  obtain ⟨b', ys, e2, sy, len2, _⟩ := ow.atL (v := u) (r := .frz (.lst m)) (l := m) (List.mem_cons_of_mem _ List.mem_cons_self) rfl
  have ea : a' = a := V.ref.inj (e1.symm.trans ev)
  have eb : b' = b := V.ref.inj (e2.symm.trans eu)
  subst ea eb
  refine ⟨fun h => ⟨xs, ys, sx.sqL, sy.sqL, by rw [zipD_len] at h; omega⟩, fun d hd => ?_⟩
  obtain ⟨d1, d2, h1, h2, ed⟩ := zipD_get hd
  subst ed
  obtain ⟨a2, xs2, e1', sx2, len', ow1⟩ := ow.atL (v := v) (r := .frz (.lst l)) (l := l) List.mem_cons_self rfl
  obtain ⟨w1, g1, g2⟩ := Own.mem_itz len' h1
  have ow2 := (ow1.dup (List.mem_append_left _ g2)).by (L' := .it w1 (.frz d1) :: ([.it v (.frz (.lst l)), .it u (.frz (.lst m))] ++ L)) fun z => by
    simp only [cnt_app, cnt_cons]
    omega
  obtain ⟨b2, ys2, e2', sy2, len2', ow3⟩ := ow2.atL (v := u) (r := .frz (.lst m)) (l := m) (List.mem_cons_of_mem _ (List.mem_cons_of_mem _ List.mem_cons_self)) rfl
  obtain ⟨w2, g3, g4⟩ := Own.mem_itz len2' h2
  have ow4 := ow3.dup (List.mem_append_left _ g4)
  have ea2 : a2 = a' := V.ref.inj (e1'.symm.trans e1)
  have eb2 : b2 = b' := V.ref.inj (e2'.symm.trans e2)
  subst ea2 eb2
  refine ⟨⟨xs2, ys2, w1, w2, sx2.sqL, sy2.sqL, g1, g3⟩, fun x H' hy => ?_⟩
  obtain ⟨T, y1, y2, ex, nT, eH, hx, hy⟩ := hy
  subst ex eH
  have e3 := Option.some.inj ((hx xs2 sx2.sqL).symm.trans g1)
  have e4 := Option.some.inj ((hy ys2 sy2.sqL).symm.trans g3)
  subst e3 e4
  exact ow4.newT (xs := [y1, y2]) (l := [d1, d2]) (fun z => by
    simp only [itz, cnt_app, cnt_cons, cnt_nil]
    omega) rfl nT
theorem walk_zt {v u : V} {a b : Addr} {l m : List D} (ev : v = .ref a) (eu : u = .ref b) : Walk K (RZ.ItzT K a b) (zipD l m) [.it v (.frz (.tup l)), .it u (.frz (.tup m))] := fun i H L ow => by
  obtain ⟨a', xs, e1, sx, len, _⟩ := ow.atT (v := v) (l := l) List.mem_cons_self
  obtain ⟨b', ys, e2, sy, len2, _⟩ := ow.atT (v := u) (l := m) (List.mem_cons_of_mem _ List.mem_cons_self)
  have ea : a' = a := V.ref.inj (e1.symm.trans ev)
  have eb : b' = b := V.ref.inj (e2.symm.trans eu)
  subst ea eb
  refine ⟨fun h => ⟨xs, ys, .inl sx, .inl sy, by rw [zipD_len] at h; omega⟩, fun d hd => ?_⟩
  obtain ⟨d1, d2, h1, h2, ed⟩ := zipD_get hd
  subst ed
  obtain ⟨a2, xs2, e1', sx2, len', ow1⟩ := ow.atT (v := v) (l := l) List.mem_cons_self
  obtain ⟨w1, g1, g2⟩ := Own.mem_itz len' h1
  have ow2 := (ow1.dup (List.mem_append_left _ g2)).by (L' := .it w1 (.frz d1) :: ([.it v (.frz (.tup l)), .it u (.frz (.tup m))] ++ L)) fun z => by
    simp only [cnt_app, cnt_cons]
    omega
  obtain ⟨b2, ys2, e2', sy2, len2', ow3⟩ := ow2.atT (v := u) (l := m) (List.mem_cons_of_mem _ (List.mem_cons_of_mem _ List.mem_cons_self))
  obtain ⟨w2, g3, g4⟩ := Own.mem_itz len2' h2
  have ow4 := ow3.dup (List.mem_append_left _ g4)
  have ea2 : a2 = a' := V.ref.inj (e1'.symm.trans e1)
  have eb2 : b2 = b' := V.ref.inj (e2'.symm.trans e2)
  subst ea2 eb2
  have s1 : SqT K H a2 xs2 := .inl sx2
  have s2 : SqT K H b2 ys2 := .inl sy2
  refine ⟨⟨xs2, ys2, w1, w2, s1, s2, g1, g3⟩, fun x H' hy => ?_⟩
  obtain ⟨T, y1, y2, ex, nT, eH, hx, hy⟩ := hy
  subst ex eH
  have e3 := Option.some.inj ((hx xs2 s1).symm.trans g1)
  have e4 := Option.some.inj ((hy ys2 s2).symm.trans g3)
  subst e3 e4
  exact ow4.newT (xs := [y1, y2]) (l := [d1, d2]) (fun z => by
    simp only [itz, cnt_app, cnt_cons, cnt_nil]
    omega) rfl nT
theorem walk_zm {v u : V} {a b : Addr} {l m : List D} (ev : v = .ref a) (eu : u = .ref b) : Walk K (ItzM K a b) (zipD l m) [.it v (.frz (.tup l)), .it u (.frz (.lst m))] := fun i H L ow => by
  obtain ⟨a', xs, e1, sx, len, _⟩ := ow.atT (v := v) (l := l) List.mem_cons_self
  obtain ⟨b', ys, e2, sy, len2, _⟩ := ow.atL (v := u) (r := .frz (.lst m)) (l := m) (List.mem_cons_of_mem _ List.mem_cons_self) rfl
  have ea : a' = a := V.ref.inj (e1.symm.trans ev)
  have eb : b' = b := V.ref.inj (e2.symm.trans eu)
  subst ea eb
  refine ⟨fun h => ⟨xs, ys, .inl sx, sy.sqL, by rw [zipD_len] at h; omega⟩, fun d hd => ?_⟩
  obtain ⟨d1, d2, h1, h2, ed⟩ := zipD_get hd
  subst ed
  obtain ⟨a2, xs2, e1', sx2, len', ow1⟩ := ow.atT (v := v) (l := l) List.mem_cons_self
  obtain ⟨w1, g1, g2⟩ := Own.mem_itz len' h1
  have ow2 := (ow1.dup (List.mem_append_left _ g2)).by (L' := .it w1 (.frz d1) :: ([.it v (.frz (.tup l)), .it u (.frz (.lst m))] ++ L)) fun z => by
    simp only [cnt_app, cnt_cons]
    omega
  obtain ⟨b2, ys2, e2', sy2, len2', ow3⟩ := ow2.atL (v := u) (r := .frz (.lst m)) (l := m) (List.mem_cons_of_mem _ (List.mem_cons_of_mem _ List.mem_cons_self)) rfl
  obtain ⟨w2, g3, g4⟩ := Own.mem_itz len2' h2
  have ow4 := ow3.dup (List.mem_append_left _ g4)
  have ea2 : a2 = a' := V.ref.inj (e1'.symm.trans e1)
  have eb2 : b2 = b' := V.ref.inj (e2'.symm.trans e2)
  subst ea2 eb2
  have s1 : SqT K H a2 xs2 := .inl sx2
  have s2 : SqL K H b2 ys2 := sy2.sqL
  refine ⟨⟨xs2, ys2, w1, w2, s1, s2, g1, g3⟩, fun x H' hy => ?_⟩
  obtain ⟨T, y1, y2, ex, nT, eH, hx, hy⟩ := hy
  subst ex eH
  have e3 := Option.some.inj ((hx xs2 s1).symm.trans g1)
  have e4 := Option.some.inj ((hy ys2 s2).symm.trans g3)
  subst e3 e4
  exact ow4.newT (xs := [y1, y2]) (l := [d1, d2]) (fun z => by
    simp only [itz, cnt_app, cnt_cons, cnt_nil]
    omega) rfl nT
end
section
variable {X : Cx} {S : SC} {C : Calls} {Wx : WX} {k : Nat} {a b tg : Expr} {ma mb : Ex} {pos : Pos}
/-- a list, a tuple or a text, walked -/
def iSq (K : PySem.W.Frag) (tl : TE) : TI := fun σ H R => tl σ H fun x H1 => (∃ a, x = .ref a ∧ (∃ xs, SqL K H1 a xs) ∧ R (Itl K a) H1) ∨ (∃ a, x = .ref a ∧ (∃ xs, SqT K H1 a xs) ∧ R (Itt K a) H1) ∨ ∃ z, x = .str z ∧ R (Its z) H1
theorem pi_sq {e : Expr} {te : TE} (he : PE X e te) : PI X tg e (iSq X.K te) := by
  refine ⟨fun pins s σ H R I h => ?_⟩
  refine thn (he.run pins s σ H _ I h) fun v s1 ⟨x, H1, I1, r1, q1⟩ => ?_
  have fresh : ∀ b ∈ [s1.heap.objs.size], FpOk X pins H1 b := fun b hb => by
    rw [List.mem_singleton] at hb
    subst hb
    exact I1.fpOk (Nat.le_refl _) (I1.hok.fresh (Nat.le_refl _))
  rcases q1 with ⟨a, e1, ⟨xs, sq⟩, q⟩ | ⟨a, e1, ⟨xs, sq⟩, q⟩ | ⟨z, e1, q⟩
  · subst e1
    cases r1
    obtain ⟨its, rv, p, _⟩ := I1.list sq
    exact wpAny_pyIter_list p.isList ⟨_, _, _, _, H1, rfl, I1.kept (t' := s1.toks) fun b o e => Heap.get?_push_of_some _ e, turn_list a _, ⟨_, Heap.get?_push_size _ rfl, rfl, rfl⟩, fresh, q⟩
  · subst e1
    cases r1
    obtain ⟨its, rv, p, _⟩ := I1.tuple sq
    exact wpAny_pyIter_tuple (show s1.heap.IsTuple a its.toArray from p) ⟨_, _, _, _, H1, rfl, I1.kept (t' := s1.toks) fun b o e => Heap.get?_push_of_some _ e, turn_tuple a _, ⟨_, Heap.get?_push_size _ rfl, rfl, rfl⟩, fresh, q⟩
  · subst e1
    obtain ⟨t, rfl⟩ := r1
    cases hz : z.cps.all (· < 128)
    · exact wpAny_pyIter_wide hz (pi_one (tk := s1.toks) I1 _ (turn_str _ z t "str_iterator" (.inr rfl)) ⟨_, Heap.get?_push_size _ rfl, rfl, rfl⟩ q)
    · exact wpAny_pyIter_ascii hz (pi_one (tk := s1.toks) I1 _ (turn_str _ z t "str_ascii_iterator" (.inl rfl)) ⟨_, Heap.get?_push_size _ rfl, rfl, rfl⟩ q)
theorem s_sq (ha : PE X a (tEv X.K C Wx ma)) : PI X tg a (tIt X.K C Wx (.sq ma)) := (pi_sq ha).wk fun σ H R h => by
  obtain ⟨e, F, fi, ow, p⟩ := h
  rw [evIt, Post.bind] at p
  refine ⟨e, F, fi, ow, p.mono fun x e1 p1 v H1 fi1 ow1 b1 => ?_⟩
  split at p1
  · rename_i d e2 hz
    obtain ⟨f2, ow2⟩ := frz_ok fi1 b1 ow1 hz
    split at p1
    · rename_i l hl
      unfold itD at hl
      split at hl
      · cases hl
        obtain ⟨a', xs, e3, sx, len, _⟩ := ow2.atL (r := .frz (.lst l)) (l := l) List.mem_cons_self rfl
        exact .inl ⟨a', e3, ⟨xs, sx.sqL⟩, p1 _ H1 _ f2 ow2 (walk_l e3)⟩
      · cases hl
        obtain ⟨a', xs, e3, sx, len, _⟩ := ow2.atT (l := l) List.mem_cons_self
        exact .inr (.inl ⟨a', e3, ⟨xs, .inl sx⟩, p1 _ H1 _ f2 ow2 (walk_t e3)⟩)
      · cases hl
        exact .inr (.inr ⟨_, ow2.atS List.mem_cons_self, p1 _ H1 [] f2 ow2.tail walk_s⟩)
      · cases hl
    · exact p1.elim
  · exact p1.elim
theorem small_ok {i : Int} (h : small i = true) : -(2 ^ 62) ≤ i ∧ i < 2 ^ 62 := by
  unfold small at h
  simp only [Bool.and_eq_true, decide_eq_true_eq] at h
  omega
theorem s_rg1 (g : Good X S C k Wx) {p : Pos} (hx : S.glb "range" = true) (ns : noStar a = true) (ha : PE X a (tEv X.K C Wx ma)) : PI X tg (.Call (.Name "range" p) [a] [] pos) (tIt X.K C Wx (.rg1 ma)) :=
  (pi_range1 (glb_of g hx) (g.mo.bl _ (.inr (by decide +kernel))) (pa_cons ha pa_nil (star_eq ns)) (star_eq ns)).wk fun σ H R h => by
  obtain ⟨e, F, fi, ow, q⟩ := h
  rw [evIt, Post.bind] at q
  refine ⟨e, F, fi, ow, q.mono fun x e1 q1 v H1 fi1 ow1 b1 => ?_⟩
  split at q1
  · rename_i i
    split at q1
    · rename_i hs
      obtain ⟨h1, h2⟩ := small_ok hs
      refine ⟨i, by rw [ow1.atI (List.mem_append_left _ List.mem_cons_self)], h1, h2, ?_⟩
      have := q1 (Itr 0 i.toNat) H1 [] fi1 ow1.dropL
      unfold rgD at this
      rw [Int.sub_zero] at this
      exact this walk_r
    · exact q1.elim
  · exact q1.elim
theorem s_rg2 (g : Good X S C k Wx) {p : Pos} (hx : S.glb "range" = true) (ns : noStar a = true) (nb : noStar b = true) (ha : PE X a (tEv X.K C Wx ma)) (hb : PE X b (tEv X.K C Wx mb)) : PI X tg (.Call (.Name "range" p) [a, b] [] pos) (tIt X.K C Wx (.rg2 ma mb)) :=
  have e1 : starEach [b] X.env = [(false, eval b X.env)] := star_eq nb
  (pi_range2 (glb_of g hx) (g.mo.bl _ (.inr (by decide +kernel))) (pa_cons ha (pa_cons hb pa_nil e1) (star_eq ns)) (by rw [star_eq ns, e1]) e1).wk fun σ H R h => by
  obtain ⟨e, F, fi, ow, q⟩ := h
  rw [evIt, Post.bind] at q
  refine ⟨e, F, fi, ow, q.mono fun x e1 q1 v H1 fi1 ow1 b1 => ?_⟩
  rw [Post.bind] at q1
  refine ⟨e1, ent v x ++ F, fi1, ow1.by fun z => by simp only [cnt_app]; omega, q1.mono fun y e2 q2 u H2 fi2 ow2 b2 => ?_⟩
  split at q2
  · rename_i i j
    split at q2
    · rename_i hs
      rw [Bool.and_eq_true] at hs
      obtain ⟨h1, h2⟩ := small_ok hs.1
      obtain ⟨h3, h4⟩ := small_ok hs.2
      refine ⟨i, j, ?_, ⟨h1, h2, h3, h4⟩, ?_⟩
      · rw [ow2.atI (i := j) (List.mem_append_left _ List.mem_cons_self), ow2.atI (i := i) (v := v) (List.mem_append_right _ (List.mem_append_right _ (List.mem_append_left _ List.mem_cons_self)))]
      · have := q2 (Itr i (j - i).toNat) H2 [] fi2 (ow2.by fun z => by simp only [cnt_app, cnt_nil]; omega)
        exact this walk_r
    · exact q2.elim
  · exact q2.elim
theorem s_en (g : Good X S C k Wx) {p tpos : Pos} {elts : List Expr} {kk : Nat} (hx : S.glb "enumerate" = true) (ns : noStar a = true) (ha : PE X a (tEv X.K C Wx ma)) : PI X (.Tuple elts kk tpos) (.Call (.Name "enumerate" p) [a] [] pos) (tIt X.K C Wx (.en ma)) :=
  (pi_enumA (glb_of g hx) (g.mo.bl _ (.inr (by decide +kernel))) (pa_cons ha pa_nil (star_eq ns)) (star_eq ns)).wk fun σ H R h => by
  obtain ⟨e, F, fi, ow, q⟩ := h
  rw [evIt, Post.bind] at q
  refine ⟨e, F, fi, ow, q.mono fun x e1 q1 v H1 fi1 ow1 b1 => ?_⟩
  split at q1
  · rename_i l e2 hz
    obtain ⟨f2, ow2⟩ := frz_ok fi1 b1 ow1 hz
    obtain ⟨a', xs, e3, sx, len, _⟩ := ow2.atL (r := .frz (.lst l)) (l := l) List.mem_cons_self rfl
    exact ⟨a', by rw [e3], .inl ⟨xs, sx.sqL, q1 _ H1 _ f2 ow2 (walk_e e3)⟩⟩
  · rename_i l e2 hz
    obtain ⟨f2, ow2⟩ := frz_ok fi1 b1 ow1 hz
    obtain ⟨a', xs, e3, sx, len, _⟩ := ow2.atT (l := l) List.mem_cons_self
    exact ⟨a', by rw [e3], .inr ⟨xs, .inl sx, q1 _ H1 _ f2 ow2 (walk_eT e3)⟩⟩
  · exact q1.elim
theorem s_zp (g : Good X S C k Wx) {p tpos : Pos} {elts : List Expr} {kk : Nat} (hx : S.glb "zip" = true) (ns : noStar a = true) (nb : noStar b = true) (ha : PE X a (tEv X.K C Wx ma)) (hb : PE X b (tEv X.K C Wx mb)) : PI X (.Tuple elts kk tpos) (.Call (.Name "zip" p) [a, b] [] pos) (tIt X.K C Wx (.zp ma mb)) :=
  have e1 : starEach [b] X.env = [(false, eval b X.env)] := star_eq nb
  (pi_zipM (glb_of g hx) (g.mo.bl _ (.inr (by decide +kernel))) (pa_cons ha (pa_cons hb pa_nil e1) (star_eq ns)) (star_eq ns) (by rw [e1]; rfl)).wk fun σ H R h => by
  obtain ⟨e, F, fi, ow, q⟩ := h
  rw [evIt, Post.bind] at q
  refine ⟨e, F, fi, ow, q.mono fun x e1 q1 v H1 fi1 ow1 b1 => ?_⟩
  rw [Post.bind] at q1
  refine ⟨e1, ent v x ++ F, fi1, ow1.by fun z => by simp only [cnt_app]; omega, q1.mono fun y e2 q2 u H2 fi2 ow2 b2 => ?_⟩
  split at q2
  · rename_i dx e3 hz
    obtain ⟨f3, ow3⟩ := frz_ok (F := ent u y ++ F) fi2 b1 (ow2.by fun z => by simp only [cnt_app]; omega) hz
    split at q2
    · rename_i dy e4 hz2
      obtain ⟨f4, ow4⟩ := frz_ok (F := .it v (.frz dx) :: F) f3 b2 (ow3.by fun z => by simp only [cnt_app, cnt_cons]; omega) hz2
      split at q2
      · rename_i l m
        have ow5 : Own X.K H2 ([.it v (.frz (.lst l)), .it u (.frz (.lst m))] ++ (live σ e4.sl ++ F)) := ow4.by fun z => by simp only [cnt_app, cnt_cons, cnt_nil]; omega
        obtain ⟨a', xs, g1, sx, len, _⟩ := ow5.atL (v := v) (r := .frz (.lst l)) (l := l) List.mem_cons_self rfl
        obtain ⟨b', ys, g2, sy, len2, _⟩ := ow5.atL (v := u) (r := .frz (.lst m)) (l := m) (List.mem_cons_of_mem _ List.mem_cons_self) rfl
        exact ⟨a', b', xs, ys, by rw [g1, g2], .inl ⟨sx.sqL, sy.sqL, q2 _ H2 _ f4 ow5 (walk_z g1 g2)⟩⟩
      · rename_i l m
        have ow5 : Own X.K H2 ([.it v (.frz (.tup l)), .it u (.frz (.tup m))] ++ (live σ e4.sl ++ F)) := ow4.by fun z => by simp only [cnt_app, cnt_cons, cnt_nil]; omega
        obtain ⟨a', xs, g1, sx, len, _⟩ := ow5.atT (v := v) (l := l) List.mem_cons_self
        obtain ⟨b', ys, g2, sy, len2, _⟩ := ow5.atT (v := u) (l := m) (List.mem_cons_of_mem _ List.mem_cons_self)
        exact ⟨a', b', xs, ys, by rw [g1, g2], .inr (.inl ⟨.inl sx, .inl sy, q2 _ H2 _ f4 ow5 (walk_zt g1 g2)⟩)⟩
      · rename_i l m
        have ow5 : Own X.K H2 ([.it v (.frz (.tup l)), .it u (.frz (.lst m))] ++ (live σ e4.sl ++ F)) := ow4.by fun z => by simp only [cnt_app, cnt_cons, cnt_nil]; omega
        obtain ⟨a', xs, g1, sx, len, _⟩ := ow5.atT (v := v) (l := l) List.mem_cons_self
        obtain ⟨b', ys, g2, sy, len2, _⟩ := ow5.atL (v := u) (r := .frz (.lst m)) (l := m) (List.mem_cons_of_mem _ List.mem_cons_self) rfl
        exact ⟨a', b', xs, ys, by rw [g1, g2], .inr (.inr ⟨.inl sx, sy.sqL, q2 _ H2 _ f4 ow5 (walk_zm g1 g2)⟩)⟩
      · exact q2.elim
    · exact q2.elim
  · exact q2.elim
theorem s_it (g : Good X S C k Wx) {f : Expr → Option Ex} (hf : ∀ e m, f e = some m → PE X e (tEv X.K C Wx m)) {e : Expr} {m : It} (h : trI S f tg e = some m) : PI X tg e (tIt X.K C Wx m) := by
  have sq : ∀ {e : Expr}, (f e).map It.sq = some m → PI X tg e (tIt X.K C Wx m) := fun {e} h => by
    obtain ⟨z, h1, e1⟩ := Option.map_eq_some_iff.mp h
    subst e1
    exact s_sq (hf _ _ h1)
  have tupE : isTupE tg = true → ∃ elts kk tpos, tg = .Tuple elts kk tpos := fun h => by
    cases tg <;> first | (cases h; done) | exact ⟨_, _, _, rfl⟩
  unfold trI at h
  split at h
  · cases h
  · rename_i x p args pos'
    split at h
    · rename_i hx
      rw [Bool.and_eq_true, decide_eq_true_eq] at hx
      obtain ⟨hx, e⟩ := hx
      have e := of_decide_eq_true e
      subst e
      split at h
      · split at h
        · rename_i h1 h2
          cases h
          exact s_rg1 g hx h1 (hf _ _ h2)
        · cases h
      · split at h
        · rename_i h1 h2 h3 h4
          cases h
          exact s_rg2 g hx h1 h2 (hf _ _ h3) (hf _ _ h4)
        · cases h
      · cases h
    · split at h
      · rename_i hx
        rw [Bool.and_eq_true, decide_eq_true_eq] at hx
        obtain ⟨hx, e⟩ := hx
        have e := of_decide_eq_true e
        subst e
        split at h
        · split at h
          · rename_i h1 h2 h3
            cases h
            obtain ⟨elts, kk, tpos, rfl⟩ := tupE h1
            exact s_en g hx h2 (hf _ _ h3)
          · cases h
        · cases h
      · split at h
        · rename_i hx
          rw [Bool.and_eq_true, decide_eq_true_eq] at hx
          obtain ⟨hx, e⟩ := hx
          have e := of_decide_eq_true e
          subst e
          split at h
          · split at h
            · rename_i h1 h2 h3 h4
              cases h
              rw [Bool.and_eq_true] at h2
              obtain ⟨elts, kk, tpos, rfl⟩ := tupE h1
              exact s_zp g hx h2.1 h2.2 (hf _ _ h3) (hf _ _ h4)
            · cases h
          · cases h
        · exact sq h
  · exact sq h
theorem trI_fold {f : Expr → Option Ex} {e : Expr} {m : It} (h : trI S f tg e = some m) (env : PySem.Env) (x : Value) : foldedSetIterable e env x = pure x := by
  cases e <;> first | rfl | (simp [trI] at h)
end
end Lp

end
section
/-! LpC8: comprehensions; the translation holds. -/
namespace Lp
open PySem PySem.Spec PyProof.Rows L2
def hid (σ : L2.St) (sl : List (Option R)) : List Nat → List En
  | [] => []
  | i :: l => (match σ[i]?, sl[i]? with | some (some v), some (some r) => [.it v r] | _, _ => []) ++ hid σ sl l
def hideL (sl : List (Option R)) : List Nat → List (Option R)
  | [] => sl
  | i :: l => (hideL sl l).set i none
def unhL (sl o : List (Option R)) : List Nat → List (Option R)
  | [] => sl
  | i :: l => (unhL sl o l).set i ((o[i]?).join)
theorem hide_sl : ∀ (l : List Nat) (e : Env), (e.hide l).sl = hideL e.sl l
  | [], _ => rfl
  | i :: l, e => by
    show ((e.hide l).sl).set i none = _
    rw [hide_sl l e]
    rfl
theorem unh_sl : ∀ (l : List Nat) (e o : Env), (e.unhide o l).sl = unhL e.sl o.sl l
  | [], _, _ => rfl
  | i :: l, e, o => by
    show ((e.unhide o l).sl).set i (o.get i) = _
    rw [unh_sl l e o]
    rfl
theorem hideL_len : ∀ (l : List Nat) (sl : List (Option R)), (hideL sl l).length = sl.length
  | [], _ => rfl
  | i :: l, sl => by
    show ((hideL sl l).set i none).length = _
    rw [List.length_set, hideL_len l sl]
theorem hideL_set : ∀ (l : List Nat) (sl : List (Option R)) (i : Nat) (o : Option R), i ∉ l → hideL (sl.set i o) l = (hideL sl l).set i o
  | [], _, _, _, _ => rfl
  | j :: l, sl, i, o, h => by
    rw [List.mem_cons, not_or] at h
    show (hideL (sl.set i o) l).set j none = ((hideL sl l).set j none).set i o
    rw [hideL_set l sl i o h.2, List.set_comm _ _ h.1]
theorem unhL_set : ∀ (l : List Nat) (sl a : List (Option R)) (i : Nat) (o : Option R), i ∉ l → unhL (sl.set i o) a l = (unhL sl a l).set i o
  | [], _, _, _, _, _ => rfl
  | j :: l, sl, a, i, o, h => by
    rw [List.mem_cons, not_or] at h
    show (unhL (sl.set i o) a l).set j _ = ((unhL sl a l).set j _).set i o
    rw [unhL_set l sl a i o h.2, List.set_comm _ _ h.1]
theorem hideL_at : ∀ (l : List Nat) (sl : List (Option R)) (i : Nat), i ∉ l → (hideL sl l)[i]? = sl[i]?
  | [], _, _, _ => rfl
  | j :: l, sl, i, h => by
    rw [List.mem_cons, not_or] at h
    show ((hideL sl l).set j none)[i]? = _
    rw [List.getElem?_set_ne (fun e => h.1 e.symm)]
    exact hideL_at l sl i h.2
theorem hideL_in : ∀ (l : List Nat) (sl : List (Option R)) (i : Nat) (r : R), (hideL sl l)[i]? = some (some r) → i ∉ l ∧ sl[i]? = some (some r)
  | [], _, _, _, h => ⟨by simp, h⟩
  | j :: l, sl, i, r, h => by
    have h : ((hideL sl l).set j none)[i]? = some (some r) := h
    by_cases e : j = i
    · subst e
      rw [List.getElem?_set] at h
      simp at h
    · rw [List.getElem?_set_ne e] at h
      obtain ⟨h1, h2⟩ := hideL_in l sl i r h
      exact ⟨by rw [List.mem_cons, not_or]; exact ⟨fun z => e z.symm, h1⟩, h2⟩
theorem unhL_at : ∀ (l : List Nat) (sl o : List (Option R)) (i : Nat) (r : R), (unhL sl o l)[i]? = some (some r) → (i ∈ l ∧ o[i]? = some (some r)) ∨ (i ∉ l ∧ sl[i]? = some (some r))
  | [], _, _, _, _, h => .inr ⟨by simp, h⟩
  | j :: l, sl, o, i, r, h => by
    have h : ((unhL sl o l).set j ((o[j]?).join))[i]? = some (some r) := h
    by_cases e : j = i
    · subst e
      rw [List.getElem?_set] at h
      simp only [if_pos] at h
      split at h
      · have h := Option.some.inj h
        refine .inl ⟨List.mem_cons_self, ?_⟩
        cases q : o[j]? with
        | none =>
          rw [q] at h
          cases h
        | some z =>
          rw [q] at h
          exact congrArg some h
      · cases h
    · rw [List.getElem?_set_ne e] at h
      rcases unhL_at l sl o i r h with ⟨h1, h2⟩ | ⟨h1, h2⟩
      · exact .inl ⟨List.mem_cons_of_mem _ h1, h2⟩
      · exact .inr ⟨by rw [List.mem_cons, not_or]; exact ⟨fun z => e z.symm, h1⟩, h2⟩
theorem unhL_len : ∀ (l : List Nat) (sl o : List (Option R)), (unhL sl o l).length = sl.length
  | [], _, _ => rfl
  | i :: l, sl, o => by
    show ((unhL sl o l).set i _).length = _
    rw [List.length_set, unhL_len l sl o]
theorem wipe_at : ∀ (l : List Nat) (σ : L2.St) (i : Nat), i ∉ l → (wipe σ l)[i]? = σ[i]?
  | [], _, _, _ => rfl
  | j :: l, σ, i, h => by
    rw [List.mem_cons, not_or] at h
    show ((wipe σ l).set j none)[i]? = _
    rw [List.getElem?_set_ne (fun e => h.1 e.symm)]
    exact wipe_at l σ i h.2
theorem wipe_in : ∀ (l : List Nat) (σ : L2.St) (i : Nat), i ∈ l → i < σ.length → (wipe σ l)[i]? = some none
  | j :: l, σ, i, h, hl => by
    show ((wipe σ l).set j none)[i]? = _
    by_cases e : j = i
    · subst e
      rw [List.getElem?_set_self (by rw [wipe_length]; exact hl)]
    · rw [List.getElem?_set_ne e]
      rcases List.mem_cons.mp h with h | h
      · exact absurd h.symm e
      · exact wipe_in l σ i h hl
theorem wipe_agr {ws l : List Nat} {σ σ2 : L2.St} (a : Agr ws (wipe σ l) σ2) (h : ∀ j ∈ ws, j ∈ l) : wipe σ2 l = wipe σ l := by
  apply List.ext_getElem?
  intro i
  have len : σ2.length = σ.length := by rw [a.len, wipe_length]
  by_cases hi : i ∈ l
  · by_cases hl : i < σ.length
    · rw [wipe_in l σ2 i hi (by omega), wipe_in l σ i hi hl]
    · rw [List.getElem?_eq_none (by rw [wipe_length]; omega), List.getElem?_eq_none (by rw [wipe_length]; omega)]
  · rw [wipe_at l σ2 i hi, a.at_ i fun z => hi (h i z)]
/-- the block's own places are hidden -/
theorem live_hide : ∀ {l : List Nat} {σ : L2.St} {sl : List (Option R)} (x : En), l.Nodup → cnt x (live (wipe σ l) (hideL sl l)) + cnt x (hid σ sl l) = cnt x (live σ sl)
  | [], σ, sl, x, _ => by
    show cnt x (live σ sl) + 0 = _
    omega
  | i :: l, σ, sl, x, nd => by
    rw [List.nodup_cons] at nd
    have ih := live_hide (l := l) (σ := σ) (sl := sl) x nd.2
    show cnt x (live ((wipe σ l).set i none) ((hideL sl l).set i none)) + cnt x (_ ++ hid σ sl l) = _
    rw [live_st, cnt_app]
    split
    · rename_i v r h1 h2
      have := live_get (σ := wipe σ l) (sl := hideL sl l) (i := i) (v := v) (r := r) (by rw [wipe_at l σ i nd.1]; exact h1) (by rw [hideL_at l sl i nd.1]; exact h2) x
      simp only [cnt_cons, cnt_nil]
      omega
    · rename_i hn
      have same : ∀ {σ : L2.St} {sl : List (Option R)} {i : Nat}, (∀ v r, σ[i]? = some (some v) → sl[i]? = some (some r) → False) → live σ (sl.set i none) = live σ sl := by
        intro σ
        induction σ with
        | nil =>
          intro sl i _
          rfl
        | cons s σ ih =>
          intro sl i h
          cases sl with
          | nil => rfl
          | cons t sl =>
            cases i with
            | zero =>
              simp only [List.set_cons_zero]
              cases s with
              | none => cases t <;> rfl
              | some s =>
                cases t with
                | none => rfl
                | some t => exact (h s t rfl rfl).elim
            | succ i =>
              rw [List.set_cons_succ]
              have := ih (sl := sl) (i := i) fun v r a b => h v r (by simpa using a) (by simpa using b)
              cases s with
              | none => exact this
              | some s =>
                cases t with
                | none => exact this
                | some t => exact congrArg (_ :: ·) this
      rw [same fun v r a b => hn v r (by rw [← wipe_at l σ i nd.1]; exact a) (by rw [← hideL_at l sl i nd.1]; exact b)]
      simp only [cnt_nil]
      omega
/-- .. and are there again -/
theorem live_unh : ∀ {l : List Nat} {σ : L2.St} {sl o : List (Option R)} (x : En), l.Nodup → Fits σ o → sl.length = o.length → cnt x (live σ (unhL sl o l)) ≤ cnt x (hid σ o l) + cnt x (live (wipe σ l) (hideL sl l))
  | [], σ, sl, o, x, _, _, _ => by
    show cnt x (live σ sl) ≤ 0 + cnt x (live σ sl)
    omega
  | i :: l, σ, sl, o, x, nd, f, le => by
    rw [List.nodup_cons] at nd
    have ih := live_unh (l := l) (σ := σ) (sl := sl.set i none) (o := o) x nd.2 f (by rw [List.length_set]; exact le)
    rw [unhL_set l sl o i none nd.1, hideL_set l sl i none nd.1] at ih
    show cnt x (live σ ((unhL sl o l).set i ((o[i]?).join))) ≤ cnt x (_ ++ hid σ o l) + cnt x (live ((wipe σ l).set i none) ((hideL sl l).set i none))
    rw [live_st, cnt_app]
    cases q : o[i]? with
    | none =>
      show cnt x (live σ ((unhL sl o l).set i none)) ≤ _
      split
      · rename_i h2
        cases h2
      · simp only [cnt_nil]
        omega
    | some z =>
      cases z with
      | none =>
        show cnt x (live σ ((unhL sl o l).set i none)) ≤ _
        split
        · rename_i h2
          cases h2
        · simp only [cnt_nil]
          omega
      | some r =>
        show cnt x (live σ ((unhL sl o l).set i (some r))) ≤ _
        obtain ⟨v, hv⟩ := f.has i r q
        have hl : i < (unhL sl o l).length := by
          rw [unhL_len, le]
          exact (List.getElem?_eq_some_iff.mp q).1
        have := live_put (r := r) hv hl x
        rw [hv]
        simp only [cnt_cons, cnt_nil]
        omega
section
variable {X : Cx} {S : SC} {C : Calls} {Wx : WX} {k : Nat}
theorem lc_turns {K : PySem.W.Frag} {J : L2.It} {ds : List D} {G F : List En} {σ : L2.St} {o : Env} {own : List Nat} {t : Tg} {mc mx : Ex} {D0 : Addr} {Q : VK} {H0 : Hp} {E : Exn → Env → Prop} {Wz : WX} (hw : Walk K J ds G) (nd : own.Nodup) (ht : ∀ j ∈ t.sl, j ∈ own) (fo : Fits σ o.sl)
    {e0 : Env} (f0 : Fits (wipe σ own) (hideL e0.sl own)) (l0 : e0.sl.length = o.sl.length) (ow0 : Own K H0 (.it (.ref D0) (.lst []) :: (G ++ (live (wipe σ own) (hideL e0.sl own) ++ (hid σ o.sl own ++ F)))))
    (p : Post (lcLoop (fun d e => stT t (.frz d) (e.hide own)) (fun e => (evT C mc e).calm) (fun e => (ev C mx e).calm.bind fun a e2 => match e2.frz a with | some (d, e3) => .ok d e3 | none => .no) ds [] e0)
      E fun acc e2 => ∀ H', Fits σ (e2.unhide o own).sl → Own K H' (.it (.ref D0) (.lst acc) :: (live σ (e2.unhide o own).sl ++ F)) → Q (.ref D0) H') :
    ∃ W : Nat → Nat → Hp → Prop, (∃ m, W 0 m H0) ∧ ∀ i m H, W i m H → (J.stop i H ∧ Q (.ref D0) H) ∨ (J.go i H ∧ ∃ Nx : Hp → Prop, (∀ H', Nx H' → ∃ m', m' < m ∧ W (i + 1) m' H') ∧ ∀ x H', J.yld i H x H' → tTg K t x (wipe σ own) H' fun σ2 H2 => wipe σ2 own = wipe σ own ∧ tTs K C Wz mc σ2 H2 fun b H3 =>
      if b = true then tEv K C Wz mx σ2 H3 fun y H4 => ∃ acc, H4 D0 = some (.lst acc) ∧ acc.length < sizeLine ∧ Nx (upd H4 D0 (.lst (acc ++ [y]))) else Nx H3) := by
  let W : Nat → Nat → Hp → Prop := fun i m H => i + m = ds.length ∧ ∃ e acc, Fits (wipe σ own) (hideL e.sl own) ∧ e.sl.length = o.sl.length ∧ Own K H (.it (.ref D0) (.lst acc) :: (G ++ (live (wipe σ own) (hideL e.sl own) ++ (hid σ o.sl own ++ F)))) ∧
    Post (lcLoop (fun d e => stT t (.frz d) (e.hide own)) (fun e => (evT C mc e).calm) (fun e => (ev C mx e).calm.bind fun a e2 => match e2.frz a with | some (d, e3) => .ok d e3 | none => .no) (ds.drop i) acc e)
      E fun acc e2 => ∀ H', Fits σ (e2.unhide o own).sl → Own K H' (.it (.ref D0) (.lst acc) :: (live σ (e2.unhide o own).sl ++ F)) → Q (.ref D0) H'
  refine ⟨W, ⟨ds.length, Nat.zero_add _, e0, [], f0, l0, ow0, p⟩, ?_⟩
  rintro i m H ⟨him, e, acc, fi, len, ow, q⟩
  obtain ⟨w1, w2⟩ := hw i H (.it (.ref D0) (.lst acc) :: (live (wipe σ own) (hideL e.sl own) ++ (hid σ o.sl own ++ F))) (ow.by fun x => by simp only [cnt_cons, cnt_app]; omega)
  by_cases hi : i < ds.length
  · right
    have hd : ds[i]? = some ds[i] := List.getElem?_eq_getElem hi
    obtain ⟨w3, w4⟩ := w2 _ hd
    rw [List.drop_eq_getElem_cons hi] at q
    unfold lcLoop at q
    refine ⟨w3, fun H' => W (i + 1) (m - 1) H', fun H' h => ⟨m - 1, by omega, h⟩, fun x H' hy => ?_⟩
    have ow1 := w4 x H' hy
    split at q
    · exact q.elim
    · rename_i e1 he1
      refine ⟨e.hide own, .it (.ref D0) (.lst acc) :: (G ++ (hid σ o.sl own ++ F)), .frz ds[i], e1, by rw [hide_sl]; exact fi, ow1.by fun z => ?_, he1, stT_st he1, fun σ2 H2 ag f2 ow2 => ?_⟩
      · rw [hide_sl]
        simp only [cnt_cons, cnt_app]
        omega
      have wa := wipe_agr ag ht
      -- behind an evaluation in the block: at the next turn
      have back : ∀ {e3 : Env} {H3 : Hp} {acc' : List D}, Fits σ2 e3.sl → Own K H3 (.it (.ref D0) (.lst acc') :: (G ++ (live σ2 e3.sl ++ (hid σ o.sl own ++ F)))) →
          Post (lcLoop (fun d e => stT t (.frz d) (e.hide own)) (fun e => (evT C mc e).calm) (fun e => (ev C mx e).calm.bind fun a e2 => match e2.frz a with | some (d, e3) => .ok d e3 | none => .no) (ds.drop (i + 1)) acc' e3)
            E (fun acc e2 => ∀ H', Fits σ (e2.unhide o own).sl → Own K H' (.it (.ref D0) (.lst acc) :: (live σ (e2.unhide o own).sl ++ F)) → Q (.ref D0) H') → W (i + 1) (m - 1) H3 := by
        intro e3 H3 acc' f3 ow3 q3
        refine ⟨by omega, e3, acc', ?_, ?_, ow3.by fun z => ?_, q3⟩
        · refine ⟨by rw [hideL_len, wipe_length, ← f3.len, ag.len, wipe_length], fun j r h => ?_⟩
          obtain ⟨h1, h2⟩ := hideL_in own e3.sl j r h
          obtain ⟨v, hv⟩ := f3.has j r h2
          rw [← wa]
          exact ⟨v, by rw [wipe_at own σ2 j h1]; exact hv⟩
        · rw [← f3.len, ag.len, wipe_length]
          exact fo.len
        · have := live_hide (l := own) (σ := σ2) (sl := e3.sl) z nd
          rw [wa] at this
          simp only [cnt_cons, cnt_app]
          omega
      rw [Post.bind] at q
      refine ⟨wa, e1, .it (.ref D0) (.lst acc) :: (G ++ (hid σ o.sl own ++ F)), f2, ow2, q.calm.mono fun b e2 q2 H3 f3 ow3 => ?_⟩
      cases b with
      | false =>
        rw [if_neg Bool.false_ne_true] at q2 ⊢
        exact back f3 (ow3.by fun z => by simp only [cnt_cons, cnt_app]; omega) q2
      | true =>
        rw [if_pos rfl] at q2 ⊢
        rw [Post.bind, Post.bind] at q2
        refine ⟨e2, .it (.ref D0) (.lst acc) :: (G ++ (hid σ o.sl own ++ F)), f3, ow3, q2.calm.mono fun a e3 q3 y H4 f4 ow4 b4 => ?_⟩
        split at q3
        · rename_i dd e4 hz
          obtain ⟨f5, ow5⟩ := frz_ok f4 b4 ow4 hz
          have q3 : Post (if acc.length < big then _ else Ev.no) _ _ := q3
          split at q3
          · rename_i hb
            have ow6 : Own K H4 (.it (.ref D0) (.lst acc) :: (.it y (.frz dd) :: (live σ2 e4.sl ++ (G ++ (hid σ o.sl own ++ F))))) := ow5.by fun z => by simp only [cnt_cons, cnt_app]; omega
            obtain ⟨a', zs, ea, ha, ln, ow7⟩ := ow6.openL
            have ea := V.ref.inj ea
            subst ea
            refine ⟨zs, ha, by rw [ln]; exact big_lt hb, back f5 ?_ q3⟩
            refine own_putL ow7 (fun z => ?_) (by simp [ln])
            rw [itz_app ln]
            show cnt z ((itz zs acc ++ [.it y (.frz dd)]) ++ (G ++ (live σ2 e4.sl ++ (hid σ o.sl own ++ F)))) ≤ _
            simp only [cnt_app, cnt_cons, cnt_nil]
            omega
          · exact q3.elim
        · exact q3.elim
  · left
    have hd : ds.drop i = [] := List.drop_eq_nil_of_le (by omega)
    rw [hd] at q
    unfold lcLoop at q
    refine ⟨w1 (by omega), q H ?_ (ow.by fun z => ?_)⟩
    · rw [unh_sl]
      refine ⟨by rw [unhL_len, len]; exact fo.len, fun j r h => ?_⟩
      rcases unhL_at own e.sl o.sl j r h with ⟨_, h2⟩ | ⟨h1, h2⟩
      · exact fo.has j r h2
      · obtain ⟨v, hv⟩ := fi.has j r (by rw [hideL_at own e.sl j h1]; exact h2)
        exact ⟨v, by rw [← wipe_at own σ j h1]; exact hv⟩
    · rw [unh_sl]
      have := live_unh (l := own) (σ := σ) (sl := e.sl) (o := o.sl) z nd fo len
      simp only [cnt_cons, cnt_app]
      omega
/-- what a comprehension says -/
theorem lc_val {K : PySem.W.Frag} {m : It} {t : Tg} {mc mx : Ex} {own : List Nat} {σ : L2.St} {H : Hp} {Q : VK} (nd : own.Nodup) (ht : ∀ j ∈ t.sl, j ∈ own) (h : tEv K C Wx (.lc own t m mc mx) σ H Q) : tLc (tIt K C Wx m) (tTg K t) (tTs K C (fun _ _ _ _ => False) mc) (tEv K C (fun _ _ _ _ => False) mx) own σ H Q := by
  obtain ⟨e, F, fi, ow, p⟩ := h
  rw [ev, Post.bind] at p
  refine ⟨e, F, fi, ow, p.mono fun ds e1 p1 J H1 G fi1 ow1 hw D0 hD => ?_⟩
  unfold lcRun at p1
  rw [Post.bind] at p1
  refine lc_turns (o := e1) (F := F) hw nd ht fi1 (e0 := e1) ?_ rfl ?_ (p1.mono fun acc e2 p2 H' f2 ow2 => p2 _ H' f2 ow2 trivial)
  · refine ⟨by rw [hideL_len, wipe_length]; exact fi1.len, fun j r h => ?_⟩
    obtain ⟨h1, h2⟩ := hideL_in own e1.sl j r h
    obtain ⟨v, hv⟩ := fi1.has j r h2
    exact ⟨v, by rw [wipe_at own σ j h1]; exact hv⟩
  · refine ow1.newL (xs := []) (l := []) (fun z => ?_) rfl hD
    have := live_hide (l := own) (σ := σ) (sl := e1.sl) z nd
    simp only [itz, cnt_app, cnt_nil]
    omega
end
end Lp

end
section
/-! LpC8b: a comprehension of two clauses. -/
namespace Lp
open PySem PySem.Spec PyProof.Rows L2
section
variable {X : Cx} {S : SC} {C : Calls} {Wx : WX} {k : Nat}
/-- a loop that puts behind a list, whatever comes behind it -/
theorem lc_core {K : PySem.W.Frag} {J : L2.It} {ds : List D} {G Fh : List En} {σ : L2.St} {own : List Nat} {t : Tg} {mc mx : Ex} {D0 : Addr} {H0 : Hp} {E : Exn → Env → Prop} {Wz : WX} {N : Nat} {Qd : Hp → Prop} (hw : Walk K J ds G) (nd : own.Nodup) (ht : ∀ j ∈ t.sl, j ∈ own) (hN : σ.length = N)
    {e0 : Env} {acc0 : List D} (f0 : Fits (wipe σ own) (hideL e0.sl own)) (l0 : e0.sl.length = N) (ow0 : Own K H0 (.it (.ref D0) (.lst acc0) :: (G ++ (live (wipe σ own) (hideL e0.sl own) ++ Fh))))
    (p : Post (lcLoop (fun d e => stT t (.frz d) (e.hide own)) (fun e => (evT C mc e).calm) (lcItem (ev C mx)) ds acc0 e0)
      E fun acc e2 => ∀ H', Fits (wipe σ own) (hideL e2.sl own) → e2.sl.length = N → Own K H' (.it (.ref D0) (.lst acc) :: (G ++ (live (wipe σ own) (hideL e2.sl own) ++ Fh))) → Qd H') :
    ∃ W : Nat → Nat → Hp → Prop, (∃ m, W 0 m H0) ∧ ∀ i m H, W i m H → (J.stop i H ∧ Qd H) ∨ (J.go i H ∧ ∃ Nx : Hp → Prop, (∀ H', Nx H' → ∃ m', m' < m ∧ W (i + 1) m' H') ∧ ∀ x H', J.yld i H x H' → tTg K t x (wipe σ own) H' fun σ2 H2 => wipe σ2 own = wipe σ own ∧ tTs K C Wz mc σ2 H2 fun b H3 =>
      if b = true then tEv K C Wz mx σ2 H3 fun y H4 => ∃ acc, H4 D0 = some (.lst acc) ∧ acc.length < sizeLine ∧ Nx (upd H4 D0 (.lst (acc ++ [y]))) else Nx H3) := by
  let W : Nat → Nat → Hp → Prop := fun i m H => i + m = ds.length ∧ ∃ e acc, Fits (wipe σ own) (hideL e.sl own) ∧ e.sl.length = N ∧ Own K H (.it (.ref D0) (.lst acc) :: (G ++ (live (wipe σ own) (hideL e.sl own) ++ Fh))) ∧
    Post (lcLoop (fun d e => stT t (.frz d) (e.hide own)) (fun e => (evT C mc e).calm) (lcItem (ev C mx)) (ds.drop i) acc e)
      E fun acc e2 => ∀ H', Fits (wipe σ own) (hideL e2.sl own) → e2.sl.length = N → Own K H' (.it (.ref D0) (.lst acc) :: (G ++ (live (wipe σ own) (hideL e2.sl own) ++ Fh))) → Qd H'
  refine ⟨W, ⟨ds.length, Nat.zero_add _, e0, acc0, f0, l0, ow0, p⟩, ?_⟩
  rintro i m H ⟨him, e, acc, fi, len, ow, q⟩
  obtain ⟨w1, w2⟩ := hw i H (.it (.ref D0) (.lst acc) :: (live (wipe σ own) (hideL e.sl own) ++ Fh)) (ow.by fun x => by simp only [cnt_cons, cnt_app]; omega)
  by_cases hi : i < ds.length
  · right
    have hd : ds[i]? = some ds[i] := List.getElem?_eq_getElem hi
    obtain ⟨w3, w4⟩ := w2 _ hd
    rw [List.drop_eq_getElem_cons hi] at q
    unfold lcLoop at q
    refine ⟨w3, fun H' => W (i + 1) (m - 1) H', fun H' h => ⟨m - 1, by omega, h⟩, fun x H' hy => ?_⟩
    have ow1 := w4 x H' hy
    split at q
    · exact q.elim
    · rename_i e1 he1
      refine ⟨e.hide own, .it (.ref D0) (.lst acc) :: (G ++ Fh), .frz ds[i], e1, by rw [hide_sl]; exact fi, ow1.by fun z => ?_, he1, stT_st he1, fun σ2 H2 ag f2 ow2 => ?_⟩
      · rw [hide_sl]
        simp only [cnt_cons, cnt_app]
        omega
      have wa := wipe_agr ag ht
      have back : ∀ {e3 : Env} {H3 : Hp} {acc' : List D}, Fits σ2 e3.sl → Own K H3 (.it (.ref D0) (.lst acc') :: (G ++ (live σ2 e3.sl ++ Fh))) →
          Post (lcLoop (fun d e => stT t (.frz d) (e.hide own)) (fun e => (evT C mc e).calm) (lcItem (ev C mx)) (ds.drop (i + 1)) acc' e3)
            E (fun acc e2 => ∀ H', Fits (wipe σ own) (hideL e2.sl own) → e2.sl.length = N → Own K H' (.it (.ref D0) (.lst acc) :: (G ++ (live (wipe σ own) (hideL e2.sl own) ++ Fh))) → Qd H') → W (i + 1) (m - 1) H3 := by
        intro e3 H3 acc' f3 ow3 q3
        refine ⟨by omega, e3, acc', ?_, ?_, ow3.by fun z => ?_, q3⟩
        · refine ⟨by rw [hideL_len, wipe_length, ← f3.len, ag.len, wipe_length], fun j r h => ?_⟩
          obtain ⟨h1, h2⟩ := hideL_in own e3.sl j r h
          obtain ⟨v, hv⟩ := f3.has j r h2
          rw [← wa]
          exact ⟨v, by rw [wipe_at own σ2 j h1]; exact hv⟩
        · rw [← f3.len, ag.len, wipe_length]
          exact hN
        · have := live_hide (l := own) (σ := σ2) (sl := e3.sl) z nd
          rw [wa] at this
          simp only [cnt_cons, cnt_app]
          omega
      rw [Post.bind] at q
      refine ⟨wa, e1, .it (.ref D0) (.lst acc) :: (G ++ Fh), f2, ow2, q.calm.mono fun b e2 q2 H3 f3 ow3 => ?_⟩
      cases b with
      | false =>
        rw [if_neg Bool.false_ne_true] at q2 ⊢
        exact back f3 (ow3.by fun z => by simp only [cnt_cons, cnt_app]; omega) q2
      | true =>
        rw [if_pos rfl] at q2 ⊢
        rw [Post.bind] at q2
        have q2 : Post ((ev C mx e2).calm.bind fun a e2 => match e2.frz a with | some (d, e3) => .ok d e3 | none => .no) E _ := q2
        rw [Post.bind] at q2
        refine ⟨e2, .it (.ref D0) (.lst acc) :: (G ++ Fh), f3, ow3, q2.calm.mono fun a e3 q3 y H4 f4 ow4 b4 => ?_⟩
        split at q3
        · rename_i dd e4 hz
          obtain ⟨f5, ow5⟩ := frz_ok f4 b4 ow4 hz
          have q3 : Post (if acc.length < big then _ else Ev.no) _ _ := q3
          split at q3
          · rename_i hb
            have ow6 : Own K H4 (.it (.ref D0) (.lst acc) :: (.it y (.frz dd) :: (live σ2 e4.sl ++ (G ++ Fh)))) := ow5.by fun z => by simp only [cnt_cons, cnt_app]; omega
            obtain ⟨a', zs, ea, ha, ln, ow7⟩ := ow6.openL
            have ea := V.ref.inj ea
            subst ea
            refine ⟨zs, ha, by rw [ln]; exact big_lt hb, back f5 ?_ q3⟩
            refine own_putL ow7 (fun z => ?_) (by simp [ln])
            rw [itz_app ln]
            show cnt z ((itz zs acc ++ [.it y (.frz dd)]) ++ (G ++ (live σ2 e4.sl ++ Fh))) ≤ _
            simp only [cnt_app, cnt_cons, cnt_nil]
            omega
          · exact q3.elim
        · exact q3.elim
  · left
    have hd : ds.drop i = [] := List.drop_eq_nil_of_le (by omega)
    rw [hd] at q
    unfold lcLoop at q
    exact ⟨w1 (by omega), q H fi len ow⟩
/-! ### two clauses -/
theorem wipe_sub {l1 l : List Nat} {σ : L2.St} (h : ∀ j ∈ l1, j ∈ l) : wipe (wipe σ l1) l = wipe σ l := by
  apply List.ext_getElem?
  intro i
  by_cases hi : i ∈ l
  · by_cases hl : i < σ.length
    · rw [wipe_in l _ i hi (by rw [wipe_length]; exact hl), wipe_in l σ i hi hl]
    · rw [List.getElem?_eq_none (by rw [wipe_length, wipe_length]; omega), List.getElem?_eq_none (by rw [wipe_length]; omega)]
  · rw [wipe_at l _ i hi, wipe_at l σ i hi, wipe_at l1 σ i fun z => hi (h i z)]
theorem hideL_out : ∀ (l : List Nat) (sl : List (Option R)) (i : Nat), i ∈ l → i < sl.length → (hideL sl l)[i]? = some none
  | j :: l, sl, i, h, hl => by
    show ((hideL sl l).set j none)[i]? = _
    by_cases e : j = i
    · subst e
      rw [List.getElem?_set_self (by rw [hideL_len]; exact hl)]
    · rw [List.getElem?_set_ne e]
      rcases List.mem_cons.mp h with h | h
      · exact absurd h.symm e
      · exact hideL_out l sl i h hl
theorem hideL_sub {l1 l : List Nat} {sl : List (Option R)} (h : ∀ j ∈ l1, j ∈ l) : hideL (hideL sl l1) l = hideL sl l := by
  apply List.ext_getElem?
  intro i
  by_cases hi : i ∈ l
  · by_cases hl : i < sl.length
    · rw [hideL_out l _ i hi (by rw [hideL_len]; exact hl), hideL_out l sl i hi hl]
    · rw [List.getElem?_eq_none (by rw [hideL_len, hideL_len]; omega), List.getElem?_eq_none (by rw [hideL_len]; omega)]
  · rw [hideL_at l _ i hi, hideL_at l sl i hi, hideL_at l1 sl i fun z => hi (h i z)]
theorem fits_sub {l1 l : List Nat} {σ : L2.St} {sl : List (Option R)} (h : ∀ j ∈ l1, j ∈ l) (f : Fits (wipe σ l1) (hideL sl l1)) : Fits (wipe σ l) (hideL sl l) := by
  refine ⟨by rw [wipe_length, hideL_len]; have := f.len; rw [wipe_length, hideL_len] at this; exact this, fun j r hj => ?_⟩
  obtain ⟨q1, q2⟩ := hideL_in l sl j r hj
  have q3 : j ∉ l1 := fun z => q1 (h j z)
  obtain ⟨v, hv⟩ := f.has j r (by rw [hideL_at l1 sl j q3]; exact q2)
  rw [wipe_at l1 σ j q3] at hv
  exact ⟨v, by rw [wipe_at l σ j q1]; exact hv⟩
theorem fits_hide {l : List Nat} {σ : L2.St} {sl : List (Option R)} (f : Fits σ sl) : Fits (wipe σ l) (hideL sl l) := by
  refine ⟨by rw [hideL_len, wipe_length]; exact f.len, fun j r h => ?_⟩
  obtain ⟨h1, h2⟩ := hideL_in l sl j r h
  obtain ⟨v, hv⟩ := f.has j r h2
  exact ⟨v, by rw [wipe_at l σ j h1]; exact hv⟩
/-- the outer loop -/
theorem lc2_turns {K : PySem.W.Frag} {J : L2.It} {ds : List D} {G F : List En} {σ : L2.St} {o : Env} {own own1 : List Nat} {t t1 : Tg} {m1 : It} {mc mc1 mx : Ex} {D0 : Addr} {Q : VK} {H0 : Hp} {E : Exn → Env → Prop} (hw : Walk K J ds G) (nd : own.Nodup) (nd1 : own1.Nodup) (sub : ∀ j ∈ own1, j ∈ own) (ht : ∀ j ∈ t.sl, j ∈ own) (ht1 : ∀ j ∈ t1.sl, j ∈ own1) (fo : Fits σ o.sl)
    {e0 : Env} (f0 : Fits (wipe σ own) (hideL e0.sl own)) (l0 : e0.sl.length = o.sl.length) (ow0 : Own K H0 (.it (.ref D0) (.lst []) :: (G ++ (live (wipe σ own) (hideL e0.sl own) ++ (hid σ o.sl own ++ F)))))
    (p : Post (lc2Loop (fun d e => stT t (.frz d) (e.hide own)) (fun e => (evT C mc e).calm) (lc2In own1 t1 (evIt C m1) (evT C mc1) (ev C mx)) ds [] e0)
      E fun acc e2 => ∀ H', Fits σ (e2.unhide o own).sl → Own K H' (.it (.ref D0) (.lst acc) :: (live σ (e2.unhide o own).sl ++ F)) → Q (.ref D0) H') :
    ∃ W : Nat → Nat → Hp → Prop, (∃ m, W 0 m H0) ∧ ∀ i m H, W i m H → (J.stop i H ∧ Q (.ref D0) H) ∨ (J.go i H ∧ ∃ Nx : Hp → Prop, (∀ H', Nx H' → ∃ m', m' < m ∧ W (i + 1) m' H') ∧ ∀ x H', J.yld i H x H' → tTg K t x (wipe σ own) H' fun σ2 H2 => wipe σ2 own = wipe σ own ∧ tTs K C (fun _ _ _ _ => False) mc σ2 H2 fun b H3 =>
      if b = true then tIt K C (fun _ _ _ _ => False) m1 σ2 H3 fun J1 H4 => ∃ W1 : Nat → Nat → Hp → Prop, (∃ m, W1 0 m H4) ∧ ∀ j k H, W1 j k H →
        (J1.stop j H ∧ Nx H) ∨ (J1.go j H ∧ ∃ Nx1 : Hp → Prop, (∀ H', Nx1 H' → ∃ k', k' < k ∧ W1 (j + 1) k' H') ∧ ∀ x H', J1.yld j H x H' → tTg K t1 x (wipe σ2 own1) H' fun σ3 H5 => wipe σ3 own1 = wipe σ2 own1 ∧ tTs K C (fun _ _ _ _ => False) mc1 σ3 H5 fun b H6 =>
          if b = true then tEv K C (fun _ _ _ _ => False) mx σ3 H6 fun y H7 => ∃ acc, H7 D0 = some (.lst acc) ∧ acc.length < sizeLine ∧ Nx1 (upd H7 D0 (.lst (acc ++ [y]))) else Nx1 H6)
      else Nx H3) := by
  let L := lc2Loop (fun d e => stT t (.frz d) (e.hide own)) (fun e => (evT C mc e).calm) (lc2In own1 t1 (evIt C m1) (evT C mc1) (ev C mx))
  let PE_ : List D → Env → Prop := fun acc e2 => ∀ H', Fits σ (e2.unhide o own).sl → Own K H' (.it (.ref D0) (.lst acc) :: (live σ (e2.unhide o own).sl ++ F)) → Q (.ref D0) H'
  let W : Nat → Nat → Hp → Prop := fun i m H => i + m = ds.length ∧ ∃ e acc, Fits (wipe σ own) (hideL e.sl own) ∧ e.sl.length = o.sl.length ∧ Own K H (.it (.ref D0) (.lst acc) :: (G ++ (live (wipe σ own) (hideL e.sl own) ++ (hid σ o.sl own ++ F)))) ∧ Post (L (ds.drop i) acc e) E PE_
  refine ⟨W, ⟨ds.length, Nat.zero_add _, e0, [], f0, l0, ow0, p⟩, ?_⟩
  rintro i m H ⟨him, e, acc, fi, len, ow, q⟩
  obtain ⟨w1, w2⟩ := hw i H (.it (.ref D0) (.lst acc) :: (live (wipe σ own) (hideL e.sl own) ++ (hid σ o.sl own ++ F))) (ow.by fun x => by simp only [cnt_cons, cnt_app]; omega)
  by_cases hi : i < ds.length
  · right
    have hd : ds[i]? = some ds[i] := List.getElem?_eq_getElem hi
    obtain ⟨w3, w4⟩ := w2 _ hd
    rw [List.drop_eq_getElem_cons hi] at q
    simp only [L] at q
    unfold lc2Loop at q
    refine ⟨w3, fun H' => W (i + 1) (m - 1) H', fun H' h => ⟨m - 1, by omega, h⟩, fun x H' hy => ?_⟩
    have ow1 := w4 x H' hy
    split at q
    · exact q.elim
    · rename_i e1 he1
      refine ⟨e.hide own, .it (.ref D0) (.lst acc) :: (G ++ (hid σ o.sl own ++ F)), .frz ds[i], e1, by rw [hide_sl]; exact fi, ow1.by fun z => ?_, he1, stT_st he1, fun σ2 H2 ag f2 ow2 => ?_⟩
      · rw [hide_sl]
        simp only [cnt_cons, cnt_app]
        omega
      have wa := wipe_agr ag ht
      have ln2 : σ2.length = o.sl.length := by
        rw [ag.len, wipe_length]
        exact fo.len
      rw [Post.bind] at q
      refine ⟨wa, e1, .it (.ref D0) (.lst acc) :: (G ++ (hid σ o.sl own ++ F)), f2, ow2, q.calm.mono fun b e2 q2 H3 f3 ow3 => ?_⟩
      cases b with
      | false =>
        rw [if_neg Bool.false_ne_true] at q2 ⊢
        refine ⟨by omega, e2, acc, ?_, by rw [← f3.len]; exact ln2, ow3.by fun z => ?_, q2⟩
        · have := fits_hide (l := own) f3
          rw [wa] at this
          exact this
        · have := live_hide (l := own) (σ := σ2) (sl := e2.sl) z nd
          rw [wa] at this
          simp only [cnt_cons, cnt_app]
          omega
      | true =>
        rw [if_pos rfl] at q2 ⊢
        rw [Post.bind] at q2
        have q2 : Post ((evIt C m1 e2).calm.bind _) E _ := q2
        rw [Post.bind] at q2
        refine ⟨e2, .it (.ref D0) (.lst acc) :: (G ++ (hid σ o.sl own ++ F)), f3, ow3, q2.calm.mono fun ds1 e3 q3 J1 H4 G1 f4 ow4 hw1 => ?_⟩
        refine lc_core (E := E) (N := o.sl.length) (Fh := hid σ2 e3.sl own1 ++ (G ++ (hid σ o.sl own ++ F))) hw1 nd1 ht1 ln2 (fits_hide f4) (by rw [← f4.len]; exact ln2) (ow4.by fun z => ?_) (q3.mono fun acc' e5 q5 H5 f5 l5 ow5 => ?_)
        · have := live_hide (l := own1) (σ := σ2) (sl := e3.sl) z nd1
          simp only [cnt_cons, cnt_app]
          omega
        · refine ⟨by omega, e5, acc', ?_, l5, ow5.by fun z => ?_, q5⟩
          · have := fits_sub sub f5
            rw [wa] at this
            exact this
          · have := live_hide (l := own) (σ := wipe σ2 own1) (sl := hideL e5.sl own1) z nd
            rw [wipe_sub sub, hideL_sub sub, wa] at this
            simp only [cnt_cons, cnt_app]
            omega
  · left
    have hd : ds.drop i = [] := List.drop_eq_nil_of_le (by omega)
    rw [hd] at q
    simp only [L] at q
    unfold lc2Loop at q
    refine ⟨w1 (by omega), q H ?_ (ow.by fun z => ?_)⟩
    · rw [unh_sl]
      refine ⟨by rw [unhL_len, len]; exact fo.len, fun j r h => ?_⟩
      rcases unhL_at own e.sl o.sl j r h with ⟨_, h2⟩ | ⟨h1, h2⟩
      · exact fo.has j r h2
      · obtain ⟨v, hv⟩ := fi.has j r (by rw [hideL_at own e.sl j h1]; exact h2)
        exact ⟨v, by rw [← wipe_at own σ j h1]; exact hv⟩
    · rw [unh_sl]
      have := live_unh (l := own) (σ := σ) (sl := e.sl) (o := o.sl) z nd fo len
      simp only [cnt_cons, cnt_app]
      omega
/-- what a comprehension of two clauses says -/
theorem lc2_val {K : PySem.W.Frag} {m m1 : It} {t t1 : Tg} {mc mc1 mx : Ex} {own own1 : List Nat} {σ : L2.St} {H : Hp} {Q : VK} (nd : own.Nodup) (nd1 : own1.Nodup) (sub : ∀ j ∈ own1, j ∈ own) (ht : ∀ j ∈ t.sl, j ∈ own) (ht1 : ∀ j ∈ t1.sl, j ∈ own1) (h : tEv K C Wx (.lc2 own t m mc own1 t1 m1 mc1 mx) σ H Q) :
    tLc2 (tIt K C Wx m) (tTg K t) (tTs K C (fun _ _ _ _ => False) mc) (tIt K C (fun _ _ _ _ => False) m1) (tTg K t1) (tTs K C (fun _ _ _ _ => False) mc1) (tEv K C (fun _ _ _ _ => False) mx) own own1 σ H Q := by
  obtain ⟨e, F, fi, ow, p⟩ := h
  rw [ev, Post.bind] at p
  refine ⟨e, F, fi, ow, p.mono fun ds e1 p1 J H1 G fi1 ow1 hw D0 hD => ?_⟩
  unfold lc2Run at p1
  rw [Post.bind] at p1
  refine lc2_turns (o := e1) (F := F) hw nd nd1 sub ht ht1 fi1 (e0 := e1) (fits_hide fi1) rfl ?_ (p1.mono fun acc e2 p2 H' f2 ow2 => p2 _ H' f2 ow2 trivial)
  refine ow1.newL (xs := []) (l := []) (fun z => ?_) rfl hD
  have := live_hide (l := own) (σ := σ) (sl := e1.sl) z nd
  simp only [itz, cnt_app, cnt_nil]
  omega
end
end Lp

end
section
/-! LpC9: the translation of expressions holds. -/
namespace Lp
open PySem PySem.Spec PyProof.Rows L2
section
variable {X : Cx} {S : SC} {C : Calls} {Wx : WX} {k : Nat} {pos : Pos}
theorem B_val {f : Expr → Option Ex} (hf : ∀ e m, f e = some m → PE X e (tEv X.K C Wx m)) : ∀ {es : List Expr} {op : BoolOp} {m : Ex}, trB f op es = some m → PE X (.BoolOp op es pos) (tEv X.K C Wx m)
  | [], _, _, h => by cases h
  | [a], op, m, h => pe_one (hf _ _ h)
  | a :: b :: r, op, m, h => by
    unfold trB at h
    split at h
    · rename_i x y h1 h2
      cases op with
      | And =>
        cases h
        exact s_and (hf _ _ h1) (B_val hf h2)
      | Or =>
        cases h
        exact s_or (hf _ _ h1) (B_val hf h2)
    · cases h
theorem B_test {f : Expr → Option Ex} (hf : ∀ e m, f e = some m → PT X e (tTs X.K C Wx m)) : ∀ {es : List Expr} {op : BoolOp} {m : Ex}, trB f op es = some m → PW X (.BoolOp op es pos) (tTs X.K C Wx m)
  | [], _, _, h => by cases h
  | [a], op, m, h => by
    cases op with
    | And => exact pw_and1 (hf _ _ h)
    | Or => exact pw_or1 (hf _ _ h)
  | a :: b :: r, op, m, h => by
    unfold trB at h
    split at h
    · rename_i x y h1 h2
      cases op with
      | And =>
        cases h
        exact w_and (hf _ _ h1) (B_test hf h2)
      | Or =>
        cases h
        exact w_or (hf _ _ h1) (B_test hf h2)
    · cases h
/-- as a value alone: tests ask it -/
theorem both {e : Expr} {m : Ex} (h : PE X e (tEv X.K C Wx m)) (he : ∀ whole, isTrue e X.env whole = (do let v ← whole; standAt e.pos; holding [v] (truthy v))) : PE X e (tEv X.K C Wx m) ∧ PT X e (tTs X.K C Wx m) := ⟨h, s_test h he⟩
theorem rgV_len (i j : Int) : (rgV i j).length = (rgD i j).length := by
  unfold rgD
  rw [rgV_length, List.length_map, List.length_range]
theorem own_rg {K : PySem.W.Frag} {i j : Int} {H : Hp} {L : List En} (h : Own K H L) : Own K H (itz (rgV i j) (rgD i j) ++ L) := by
  unfold rgV rgD
  generalize List.range (j - i).toNat = l
  induction l with
  | nil => exact h
  | cons d l ih => exact ih.int _
theorem rg_ok {i j : Int} (h : (small i && small j && decide (j - i ≤ 1000000)) = true) : RgOk i j := by
  rw [Bool.and_eq_true, Bool.and_eq_true, decide_eq_true_eq] at h
  obtain ⟨h1, h2⟩ := small_ok h.1.1
  obtain ⟨h3, h4⟩ := small_ok h.1.2
  exact ⟨h1, h2, h3, h4, by omega⟩
theorem ev_rg1 {C : Calls} {tu : Bool} {m : Ex} {e : Env} : ev C (.rg tu (.cst (.int 0)) m) e = (ev C m e).bind fun y e2 => match A.val (.frz (.int 0)), y with
    | .val (.frz (.int i)), .val (.frz (.int j)) => if small i && small j && decide (j - i ≤ 1000000) then .ok (.val (if tu then .frz (.tup (rgD i j)) else .lst (rgD i j))) e2 else .no
    | _, _ => .no := by
  rw [ev, ev]
  rfl
theorem s_rgE1 {tu : Bool} {ma : Ex} {σ : L2.St} {H : Hp} {Q : VK} (h : tEv X.K C Wx (.rg tu (.cst (.int 0)) ma) σ H Q) :
    tEv X.K C Wx ma σ H fun x H1 => ∃ n, x = .int n ∧ RgOk 0 n ∧ ∀ q, H1 q = none → Q (.ref q) (upd H1 q (if tu then .tup (rgV 0 n) else .lst (rgV 0 n))) := by
  obtain ⟨e, F, fi, ow, q⟩ := h
  rw [ev_rg1, Post.bind] at q
  refine ⟨e, F, fi, ow, q.mono fun x1 e1 q1 v H1 fi1 ow1 b1 => ?_⟩
  split at q1
  · rename_i i j h1
    cases h1
    split at q1
    · rename_i hs
      refine ⟨j, ow1.atI List.mem_cons_self, rg_ok hs, fun q' hq' => ?_⟩
      have o2 := own_rg (i := 0) (j := j) (ow1.dropL (A := [.it v (.frz (.int j))]))
      cases tu with
      | true => exact q1 _ _ fi1 (o2.newT (fun _ => Nat.le_refl _) (rgV_len _ _) hq') trivial
      | false => exact q1 _ _ fi1 (o2.newL (fun _ => Nat.le_refl _) (rgV_len _ _) hq') trivial
    · exact q1.elim
  · exact q1.elim
theorem s_rgE2 {tu : Bool} {ma mb : Ex} {σ : L2.St} {H : Hp} {Q : VK} (h : tEv X.K C Wx (.rg tu ma mb) σ H Q) :
    tEv X.K C Wx ma σ H fun x H1 => tEv X.K C Wx mb σ H1 fun y H2 => ∃ i j, x = .int i ∧ y = .int j ∧ RgOk i j ∧ ∀ q, H2 q = none → Q (.ref q) (upd H2 q (if tu then .tup (rgV i j) else .lst (rgV i j))) := by
  obtain ⟨e, F, fi, ow, q⟩ := h
  rw [ev, Post.bind] at q
  refine ⟨e, F, fi, ow, q.mono fun x e1 q1 v H1 fi1 ow1 b1 => ?_⟩
  rw [Post.bind] at q1
  refine ⟨e1, ent v x ++ F, fi1, ow1.by fun z => by simp only [cnt_app]; omega, q1.mono fun y e2 q2 u H2 fi2 ow2 b2 => ?_⟩
  split at q2
  · rename_i i j
    split at q2
    · rename_i hs
      have ow3 : Own X.K H2 ([.it v (.frz (.int i)), .it u (.frz (.int j))] ++ (live σ e2.sl ++ F)) := ow2.by fun z => by simp only [ent, cnt_app, cnt_cons, cnt_nil]; omega
      refine ⟨i, j, ow3.atI List.mem_cons_self, ow3.atI (List.mem_cons_of_mem _ List.mem_cons_self), rg_ok hs, fun q' hq' => ?_⟩
      have o2 := own_rg (i := i) (j := j) ow3.dropL
      cases tu with
      | true => exact q2 _ _ fi2 (o2.newT (fun _ => Nat.le_refl _) (rgV_len _ _) hq') trivial
      | false => exact q2 _ _ fi2 (o2.newL (fun _ => Nat.le_refl _) (rgV_len _ _) hq') trivial
    · exact q2.elim
  · exact q2.elim
theorem rgc_ok (g : Good X S C k Wx) {f : Expr → Option Ex} (hf : ∀ e m, f e = some m → PE X e (tEv X.K C Wx m)) {x : Str} {p : Pos} {args : List Expr} {m : Ex} (h : trRg S f x args = some m) : PE X (.Call (.Name x p) args [] pos) (tEv X.K C Wx m) := by
  unfold trRg at h
  split at h
  · rename_i y q a r
    split at h
    · rename_i hc
      simp only [Bool.and_eq_true, decide_eq_true_eq] at hc
      obtain ⟨⟨⟨hx, hy⟩, ey⟩, ns⟩ := hc
      subst ey
      split at h
      · rename_i ma hm
        have pr := prg_1 (p := q) (pos := r) (glb_of g hy) (g.mo.bl _ (.inr (by decide +kernel))) (hf _ _ hm) (star_eq ns)
        split at h
        · rename_i ex
          subst ex
          cases h
          exact (pe_listRg (p := p) (pos := pos) g.calm (glb_of g hx) (g.mo.bl _ (.inr (by decide +kernel))) pr).wk fun σ H Q hq => s_rgE1 hq
        · split at h
          · rename_i ex
            subst ex
            cases h
            exact (pe_tupRg (p := p) (pos := pos) g.calm (glb_of g hx) (g.mo.bl _ (.inr (by decide +kernel))) pr).wk fun σ H Q hq => s_rgE1 hq
          · cases h
      · cases h
    · cases h
  · rename_i y q a b r
    split at h
    · rename_i hc
      simp only [Bool.and_eq_true, decide_eq_true_eq] at hc
      obtain ⟨⟨⟨⟨hx, hy⟩, ey⟩, ns⟩, nb⟩ := hc
      subst ey
      split at h
      · rename_i ma mb hm hm2
        have e1 : starEach [b] X.env = [(false, eval b X.env)] := star_eq nb
        have pr := prg_2 (p := q) (pos := r) (glb_of g hy) (g.mo.bl _ (.inr (by decide +kernel))) (hf _ _ hm) (hf _ _ hm2) (star_eq ns) (star_eq nb) (by rw [e1]; rfl)
        split at h
        · rename_i ex
          subst ex
          cases h
          exact (pe_listRg (p := p) (pos := pos) g.calm (glb_of g hx) (g.mo.bl _ (.inr (by decide +kernel))) pr).wk fun σ H Q hq => s_rgE2 hq
        · split at h
          · rename_i ex
            subst ex
            cases h
            exact (pe_tupRg (p := p) (pos := pos) g.calm (glb_of g hx) (g.mo.bl _ (.inr (by decide +kernel))) pr).wk fun σ H Q hq => s_rgE2 hq
          · cases h
      · cases h
    · cases h
  · cases h
theorem call_ok (g : Good X S C k Wx) {f : Expr → Option Ex} (hf : ∀ e m, f e = some m → PE X e (tEv X.K C Wx m)) {x : Str} {p : Pos} {args : List Expr} {m : Ex} (h : trCall S f x args = some m) : PE X (.Call (.Name x p) args [] pos) (tEv X.K C Wx m) := by
  unfold trCall at h
  split at h
  · cases h
  · rename_i hx
    simp only [Bool.or_eq_true, decide_eq_true_eq, not_or, Bool.not_eq_false] at hx
    split at h
    · rename_i hc
      obtain ⟨ms, h1, e⟩ := Option.map_eq_some_iff.mp h
      subst e
      exact s_call g hf hx.1 hx.2 (by simpa using hc) h1
    · split at h
      · split at h
        · rename_i c _ _ _ h1
          obtain ⟨ms, h2, e⟩ := Option.map_eq_some_iff.mp h
          subst e
          exact s_new g hf hx.1 hx.2 h1 h2
        · cases h
      split at h
      · rename_i e
        subst e
        split at h
        · split at h
          · rename_i h1 h2 h3 h4
            cases h
            exact s_isi1 g hx.1 h1 h2 (hf _ _ h3) h4
          · cases h
        · split at h
          · rename_i h1 h2 h3 h4
            cases h
            rw [Bool.and_eq_true, decide_eq_true_eq] at h2
            exact s_isiT g hx.1 h1 h2.1 (hf _ _ h3) h4 h2.2
          · cases h
        · cases h
      · split at h
        · rename_i h1 
          obtain ⟨ms, h2, e⟩ := Option.map_eq_some_iff.mp h
          subst e
          exact s_bi g hf hx.1 hx.2 h1 h2
        · cases h
theorem ifs_ok {f : Expr → Option Ex} (hf : ∀ e m, f e = some m → PT X e (tTs X.K C Wx m)) : ∀ {ifs : List Expr} {c : Ex}, trIfs f ifs = some c → PTs X ifs (tTs X.K C Wx c)
  | [], c, h => by
    cases h
    refine ⟨fun pins s σ H Q I w => pts_nil.run pins s σ H Q I ?_⟩
    obtain ⟨e, F, fi, ow, p⟩ := w
    rw [evT_eq, ev] at p
    exact p H fi ow
  | [c0], c, h => pts_one (hf _ _ h)
  | _ :: _ :: _, _, h => by cases h
end
theorem tr_ok : ∀ (n : Nat) (X : Cx) (S : SC) (C : Calls) (k : Nat) (Wx : WX), Good X S C k Wx → ∀ e m, tr n S e = some m → PE X e (tEv X.K C Wx m) ∧ PT X e (tTs X.K C Wx m)
  | 0, _, _, _, _, _, _, _, _, h => by simp [tr] at h
  | n + 1, X, S, C, k, Wx, g, e, m, h => by
    have ih := tr_ok n X S C k Wx g
    have hv : ∀ e m, tr n S e = some m → PE X e (tEv X.K C Wx m) := fun e m h => (ih e m h).1
    have hp : ∀ e m, tr n S e = some m → PT X e (tTs X.K C Wx m) := fun e m h => (ih e m h).2
    unfold tr at h
    split at h
    · exact both (s_name g h) (fun _ => rfl)
    · obtain ⟨d, h1, e⟩ := Option.map_eq_some_iff.mp h
      subst e
      exact both (s_cst h1) (fun _ => rfl)
    · split at h
      · rename_i o x y h1 h2 h3
        cases h
        rw [← bop_unB h1]
        exact both (s_bin (hv _ _ h2) (hv _ _ h3)) (fun _ => rfl)
      · cases h
    · obtain ⟨d, h1, e⟩ := Option.map_eq_some_iff.mp h
      subst e
      exact both (s_neg (hv _ _ h1)) (fun _ => rfl)
    · obtain ⟨d, h1, e⟩ := Option.map_eq_some_iff.mp h
      subst e
      exact s_not (hv _ _ h1) (hp _ _ h1)
    · rename_i a op b _
      split at h
      · rename_i h1 h2 h3
        cases h
        have := s_cmp (o := unC op) (pos := ‹Pos›) g (hv _ _ h2) (hv _ _ h3) (by rw [cop_unC]; exact h1)
        rw [cop_unC] at this
        exact this
      · cases h
    · rename_i a op op' b c _
      split at h
      · rename_i h1 h2 h3 h4
        cases h
        have := s_chain (o := unC op) (p := unC op') (pos := ‹Pos›) g (hv _ _ h2) (hv _ _ h3) (hv _ _ h4) (by rw [cop_unC, cop_unC]; exact h1)
        rw [cop_unC, cop_unC] at this
        exact this
      · cases h
    · exact ⟨B_val hv h, (B_test hp h).pt⟩
    · split at h
      · rename_i h1 h2 h3
        cases h
        exact ⟨s_ite (hp _ _ h1) (hv _ _ h2) (hv _ _ h3), t_ite (hp _ _ h1) (hp _ _ h2) (hp _ _ h3)⟩
      · cases h
    · split at h
      · rename_i hl
        obtain ⟨d, h1, e⟩ := Option.map_eq_some_iff.mp h
        subst e
        exact both (s_tup (by rw [trL_len h1]; exact hl) (s_args hv h1)) (fun _ => rfl)
      · cases h
    · split at h
      · rename_i hl
        obtain ⟨d, h1, e⟩ := Option.map_eq_some_iff.mp h
        subst e
        exact both (s_lst (by rw [trL_len h1]; exact hl) (s_args hv h1)) (fun _ => rfl)
      · cases h
    · cases h
      exact both s_dnew (fun _ => rfl)
    · split at h
      · rename_i h1 h2
        cases h
        exact both (s_disp1 (hv _ _ h1) (hv _ _ h2)) (fun _ => rfl)
      · cases h
    · exact both (s_sub (by have := g.room.un; omega) hv h) (fun _ => rfl)
    · split at h
      · rename_i m' h1
        cases h
        exact both (rgc_ok g hv h1) (fun _ => rfl)
      · split at h
        · rename_i m' h1
          cases h
          exact both (call_ok g hv h1) (fun _ => rfl)
        · exact both (s_isx g hv h) (fun _ => rfl)
    · split at h
      · rename_i hl
        split at h
        · rename_i z h1
          cases h
          exact both (s_mth g hv hl h1) (fun _ => rfl)
        split at h
        · rename_i z h1
          cases h
          exact both (s_upd hv hl h1) (fun _ => rfl)
        · exact both (s_mt g hv hl h) (fun _ => rfl)
      · cases h
    · split at h
      · rename_i hc
        rw [Bool.and_eq_true, decide_eq_true_eq] at hc
        split at h
        · rename_i h1 h2 h3
          cases h
          exact both (s_callt g hv h1 h2 h3 hc.1 hc.2) (fun _ => rfl)
        · cases h
      · cases h
    · exact both (s_fld g hv h) (fun _ => rfl)
    · rename_i elt tg iter ifs tg1 iter1 ifs1 scope _
      split at h
      · rename_i hb
        rw [Bool.and_eq_true, Bool.and_eq_true, decide_eq_true_eq] at hb
        obtain ⟨⟨b1, b2⟩, b3⟩ := hb
        split at h
        · rename_i t it c t1 it1 c1 x h1 h2 h3 h4 h5 h6 h7
          split at h
          · rename_i hs
            cases h
            simp only [Bool.and_eq_true, decide_eq_true_eq] at hs
            have hs' : ∀ j ∈ t.sl, j ∈ (ownOf S scope).map (·.2) := fun j hj => by
              have := List.all_eq_true.mp hs.1.1 j hj
              simpa using this
            have hs1 : ∀ j ∈ t1.sl, j ∈ (ownOf S scope).map (·.2) := fun j hj => by
              have := List.all_eq_true.mp hs.1.2 j hj
              simpa using this
            have gb : ∀ (s : Shared) (H : Hp) (Ca : Addr) (cl : List (Str × Addr)) (fp : List Addr), Good (X.blk s H scope (compEnvC scope cl Ca X.env) fp) (S.blk scope) C k (fun _ _ _ _ => False) := fun s H Ca cl fp => g.blk b2 s H Ca cl fp
            refine both ((pe_lc2 (own := ownOf S scope) (vs1 := t1.sl) (g := tTg X.K t) (g1 := tTg X.K t1) (tt := tTs X.K C (fun _ _ _ _ => False) c) (tt1 := tTs X.K C (fun _ _ _ _ => False) c1) (wi1 := tIt X.K C (fun _ _ _ _ => False) it1) (te := tEv X.K C (fun _ _ _ _ => False) x) g.calm (by rw [g.n]; exact g.nd) (s_it g hv h2) (by rw [g.n, g.sc]; exact blkOk_by b1) hs1
              (fun s H Ca cl fp => (pg_ok (gb s H Ca cl fp) h1).2) (fun s H Ca cl fp => ifs_ok (fun e m h => (tr_ok n _ _ C k _ (gb s H Ca cl fp) e m h).2) h3)
              (fun s H Ca cl fp => s_it (gb s H Ca cl fp) (fun e m h => (tr_ok n _ _ C k _ (gb s H Ca cl fp) e m h).1) h5) (fun s H Ca cl fp => (pg_ok (gb s H Ca cl fp) h4).2) (fun s H Ca cl fp => ifs_ok (fun e m h => (tr_ok n _ _ C k _ (gb s H Ca cl fp) e m h).2) h6)
              (fun s H Ca cl fp => (tr_ok n _ _ C k _ (gb s H Ca cl fp) _ _ h7).1) (trI_fold h2 X.env) (fun env x => trI_fold h5 env x)).wk fun σ H Q hq => ?_) (fun _ => rfl)
            exact lc2_val b3 hs.2 hs1 hs' (fun _ h => h) hq
          · cases h
        · cases h
      · cases h
    · rename_i elt tg iter ifs scope _
      split at h
      · rename_i hb
        rw [Bool.and_eq_true, Bool.and_eq_true, decide_eq_true_eq] at hb
        obtain ⟨⟨b1, b2⟩, b3⟩ := hb
        split at h
        · rename_i t it c x h1 h2 h3 h4
          split at h
          · rename_i hs
            cases h
            have hs' : ∀ j ∈ t.sl, j ∈ (ownOf S scope).map (·.2) := fun j hj => by
              have := List.all_eq_true.mp hs j hj
              simpa using this
            have gb : ∀ (s : Shared) (H : Hp) (Ca : Addr) (cl : List (Str × Addr)) (fp : List Addr), Good (X.blk s H scope (compEnvC scope cl Ca X.env) fp) (S.blk scope) C k (fun _ _ _ _ => False) := fun s H Ca cl fp => g.blk b2 s H Ca cl fp
            have tests : ∀ (s : Shared) (H : Hp) (Ca : Addr) (cl : List (Str × Addr)) (fp : List Addr), PTs (X.blk s H scope (compEnvC scope cl Ca X.env) fp) ifs (tTs X.K C (fun _ _ _ _ => False) c) := fun s H Ca cl fp => ifs_ok (fun e m h => (tr_ok n _ _ C k _ (gb s H Ca cl fp) e m h).2) h3
            refine both ((pe_lc (own := ownOf S scope) (g := tTg X.K t) (tt := tTs X.K C (fun _ _ _ _ => False) c) (te := tEv X.K C (fun _ _ _ _ => False) x) g.calm (by rw [g.n]; exact g.nd) (s_it g hv h2) (by rw [g.n, g.sc]; exact blkOk_by b1) (fun s H Ca cl fp => (pg_ok (gb s H Ca cl fp) h1).2) tests (fun s H Ca cl fp => (tr_ok n _ _ C k _ (gb s H Ca cl fp) _ _ h4).1) (trI_fold h2 X.env)).wk fun σ H Q hq => ?_) (fun _ => rfl)
            exact lc_val b3 hs' hq
          · cases h
        · cases h
      · cases h

    · cases h
end Lp

end
section
set_option maxHeartbeats 1000000
/-! LpD0: try .. except C as n: c = n. The caught error is kept as a value. -/
namespace Lp
open PySem PySem.Spec PyProof.Rows L2 L2N
section
variable {X : Cx} {pins : List (Addr × Obj)} {σ : L2.St} {H : Hp} {s : Shared}
/-- an object that stands, new since the entry, is tracked from now on -/
theorem inv_keep {a : Addr} {o : HO} (I : Inv X pins σ H s) (n0 : X.s_0.heap.get? a = none) (hn : H a = none) (nl : X.env.locals ≠ a) (nc : ∀ x c, X.env.cells.lookup x = some c → c ≠ a) (np : ∀ p ∈ X.pn ++ pins, p.1 ≠ a)
    (new : ObjOk X.prog X.w (upd H a o) s.heap a o) : Inv X pins σ (upd H a o) s := by
  refine ⟨I.ok, I.os, I.bare, ⟨I.base.keep, I.base.slot, fun b u e n hb => ?_, I.base.there, fun b xs e => ?_, fun b u xs e => ?_, fun b ps e => ?_⟩, I.loc, I.cell, ?_, fun x c e => ?_, fun p hp => ?_, HOk.laidN I.hok (fun _ _ q => q) hn new, I.len⟩
  · rw [upd_ne fun z => by rw [z, n0] at e; cases e]
    exact I.base.free b u e n hb
  · have q := I.base.tups b xs e
    rw [upd_ne (ne_of_none q hn)]
    exact q
  · have q := I.base.frzs b u xs e
    rw [upd_ne (ne_of_none q hn)]
    exact q
  · obtain ⟨m, q⟩ := I.base.tbls b ps e
    exact ⟨m, by rw [upd_ne (ne_of_none q hn)]; exact q⟩
  · rw [upd_ne nl]
    exact I.free
  · rw [upd_ne (nc x c e)]
    exact I.freeC x c e
  · obtain ⟨e, n, r⟩ := I.pin p hp
    exact ⟨e, by rw [upd_ne (np p hp)]; exact n, r⟩
end
/-- what the clause wishes of an error of the body: slot i is its name's, j's the name that keeps it -/
def wKeep (K : PySem.W.Frag) (c : Value) (i j : Nat) (Wout : WX) (D : Ends) : WX := fun cls d σ H => ∃ b, PySem.W.exmOne K cls c = some b ∧
  (b = true → ∃ C, cls = .ref C ∧ d = none ∧ ∀ a, H a = none → D.nx (((σ.set i (some (.ref a))).set j (some (.ref a))).set i none) (upd H a (CaO C a))) ∧ (b = false → Wout cls d σ H)
theorem ca_ok {P : Program} {w : World} {H : Hp} {h : Heap} {a C : Addr} {oe : Obj} (he : h.get? a = some oe) (hz : Zn (.ref C) none oe) (hd : ∃ vs, oe.data = .fields vs) : ObjOk P w H h a (CaO C a) := by
  obtain ⟨vs, hv⟩ := hd
  have J : PySem.W.InstAt h a oe C none := by
    obtain ⟨oc, od, oda, osl⟩ := oe
    obtain ⟨h1, h2, _⟩ := hz
    dsimp only at h1 h2 hv
    subst h1 h2 hv
    exact ⟨he, rfl, rfl, trivial⟩
  refine ⟨⟨oe, J⟩, ⟨oe, he⟩, fun h1 h2 q k => ?_⟩
  obtain ⟨ox, J1, J2, J3, J4⟩ := q
  exact ⟨ox, k _ J1, J2, J3, by
    cases e : ox.dict with
    | none => trivial
    | some d =>
      rw [e] at J4
      exact J4.elim⟩
section
variable {X : Cx} {x n c : Str} {cl : Value} {i j : Nat} {body : List Stmt} {np pos pos' p1 p2 p3 : Pos} {tb : WX → TS} {Wout : WX}
theorem ps_try_keep (hs : X.stack = X.env :: X.outer) (hf : X.env.frame = some X.env.locals) (hex : X.ex = []) (hN : X.N.Nodup) (hi : X.N[i]? = some n) (hj : X.N[j]? = some c) (hln : X.env.kindOf n = some .local) (hlc : X.env.scope.names.lookup c = some .local) (hnm : (n == ("__debug__" : Str)) = false ∧ (n == ("__classdict__" : Str)) = false) (hc : Names X x cl) (tk : L2N.Takes X Wout)
    (hb : ∀ (W : WX) (pn : List (Addr × Obj)) (xe : Value → Shared → Prop), L2N.Takes (X.tr pn xe) W → PassesOwn (model X.prog X.w) X.A X.env xe → PSs (X.tr pn xe) body (tb W)) :
    PS X (.Try body [.ExceptHandler (some (.Name x np)) (some n) [.Assign [.Name c p1] (.Name n p2) p3] pos'] [] [] pos) (fun D σ H => tb (wKeep X.K cl i j Wout D) D σ H) := by
  refine ⟨fun pins s σ H D I h => ?_⟩
  have ok := I.ok
  have hfr : X.A.frames = some (X.env :: X.outer) := by rw [ok.frames, hs]
  have hloc : Loc X.env.scope n := .inl hln
  refine wpAny_Try_except ?_
  refine wpAny_mono ((hb (wKeep X.K cl i j Wout D) (X.pn ++ pins) (fun e s₁ => wpAny (model X.prog X.w) X.A (noteFrame e X.env) (fun _ s₂ => wpAny (model X.prog X.w) X.A (setFlight e none) (fun _ s₃ =>
    wpAny (model X.prog X.w) X.A (handleBy e X.env [.ExceptHandler (some (.Name x np)) (some n) [.Assign [.Name c p1] (.Name n p2) p3] pos']) (SP X pins D) X.xe s₃) X.xe s₂) X.xe s₁) (fun u s' xx => ?_) PassesOwn.looking).run [] s σ H D (I.toTry _) h) (fun f s1 hsp => ?_) (fun e s1 he => he)
  · obtain ⟨a, B, sI, pins', σ', H', cls, d, rfl, J', nb, up, sky, na, os, ag, b, hb1, hyes, hno⟩ := xx
    have J : Inv X pins σ' H' sI := J'.ofTry ok
    have sky' : Sky B (X.env :: X.outer) a (Zn cls d) X.env.locals s'.heap := by rw [← hs]; exact sky
    show wpAny (model X.prog X.w) X.A (noteFrame (.ref a) X.env) _ _ _
    refine Sky.land Zn.steady hfr hf sky' fun h3 fl3 up3 => ?_
    have J3 : Inv X pins σ' H' { s' with heap := h3 } := J.landed nb fl3.1 (up.trans up3) os ag
    obtain ⟨oe3, vs3, he3, hz3, hd3⟩ := fl3.there
    have notFr : ∀ {h : Heap} {o : Obj} {vs : Array Value}, h.FunFrames B (X.env :: X.outer) → h.get? a = some o → o.data = .fields vs → a ∉ frs (X.env :: X.outer) := fun {h o vs} ff e dd hm => by
      obtain ⟨_, o', e', hnf⟩ := ff.mem hm
      rw [e] at e'; cases e'
      exact hnf _ dd
    have nfr := notFr fl3.2.2.1 he3 hd3
    have nL : a ≠ X.env.locals := fun z => nfr (List.mem_filterMap.mpr ⟨X.env, List.mem_cons_self, by rw [hf, z]⟩)
    have nF : a ∉ X.fs := fun hm => by
      obtain ⟨e, he, q⟩ := List.mem_filterMap.mp hm
      exact nfr (List.mem_filterMap.mpr ⟨e, List.mem_cons_of_mem _ he, q⟩)
    have nI : sI.heap.get? a = none := by
      cases e : sI.heap.get? a with
      | none => rfl
      | some o =>
        have := nb a o e (by rw [hs]; exact nfr)
        rw [fl3.2.1] at this
        cases this
    have n0 : X.s_0.heap.get? a = none := by
      cases e : X.s_0.heap.get? a with
      | none => rfl
      | some o =>
        obtain ⟨o', q⟩ := J.base.there a o e (by rw [hex]; exact fun z => nomatch z)
        rw [nI] at q
        cases q
    have nc : ∀ y q, X.env.cells.lookup y = some q → q ≠ a := fun y q e z => by
      obtain ⟨v, o, ho, _⟩ := J.cell y q e
      rw [z, nI] at ho
      cases ho
    have npn : ∀ p ∈ X.pn ++ pins, p.1 ≠ a := fun p hp z => by
      have := (J.pin p hp).1
      rw [z, nI] at this
      cases this
    have S3 := J3.suite he3 hd3 na nL nF
    refine wpAny_handleBy_cons (codeAny_handlers_test ?_) (by intro q; cases q)
    have LT : PySem.W.Looks (model X.prog X.w) h3 (typeOf (.ref a)) cls := fun A Q E s k q => wpAny_typeOf_ref (k _ _ he3) (by rw [hz3.1]; exact q)
    have LM := PySem.W.exm_one (M := model X.prog X.w) (J3.kIn) LT hb1
    have test : ∀ {Q : Value → Shared → Prop} {E : Value → Shared → Prop}, Q cl { s' with heap := h3 } → wpAny (model X.prog X.w) (X.A.mark (some (.ref a))) (eval (.Name x np) X.env) Q E { s' with heap := h3 } := fun {Q E} q => by
      obtain ⟨hg, hdbg, hm | ⟨hm, hv, hnn⟩⟩ := hc
      · exact ld_glob (X := X.suite a ((a, oe3) :: (X.pn ++ pins))) S3 hg hm q hdbg
      · exact ld_blt (X := X.suite a ((a, oe3) :: (X.pn ++ pins))) S3 hg hm hv q hnn hdbg
    refine test (LM.here ?_)
    cases b with
    | true =>
      obtain ⟨C, ec, ed, hq⟩ := hyes rfl
      subst ec ed
      refine codeAny_handlers_suite_as ?_
      refine HandSPX.lands_againZ fl3 fun h4 fl4 up4 => ?_
      have J4 : Inv X pins σ' H' { s' with heap := h4 } := J.landed nb fl4.1 ((up.trans up3).trans up4) os ag
      obtain ⟨oe4, vs4, he4, hz4, hd4⟩ := fl4.there
      have S4 := J4.suite he4 hd4 na nL nF
      refine store_ok (X := X.suite a ((a, oe4) :: (X.pn ++ pins))) (v := .ref a) S4 hN hi hloc rfl (fun s5 S5 => ?_) (.inr hln)
      have su : PSs (X.suite a ((a, oe4) :: (X.pn ++ pins))) [.Assign [.Name c p1] (.Name n p2) p3] _ := pss_cons (ps_set (i := j) hN hj (.inl hlc) (pe_var (i := i) hi (.inl hln) hnm.1 hnm.2) rfl (.inr hlc)) pss_nil
      have hil : i < σ'.length := by
        rw [J4.len]
        exact (List.getElem?_eq_some_iff.mp hi).1
      refine wpAny_mono (su.run [] s5 _ H' { nx := fun σ6 H6 => σ6 = (σ'.set i (some (.ref a))).set j (some (.ref a)) ∧ H6 = H', rt := fun _ _ => False, bk := fun _ _ => False, ct := fun _ _ => False } S5 ⟨.ref a, by simp [hil], rfl, rfl⟩) (fun f s6 hsp => ?_) (fun _ _ z => False.elim z)
      cases f with
      | next =>
        obtain ⟨σ6, H6, S6, e6, e7⟩ := hsp
        subst e6 e7
        have P6 := (S6.pin (a, oe4) (List.mem_append.mpr (.inl List.mem_cons_self))).1
        have I6 := inv_keep (o := CaO C a) (S6.unsuite ok) n0 na (Ne.symm nL) nc npn (ca_ok P6 hz4 ⟨_, hd4⟩)
        exact gone_ok I6 hN hi hln fun s7 J7 => ⟨_, _, J7, hq a na⟩
      | brk =>
        obtain ⟨σ6, H6, S6, q6⟩ := hsp
        exact q6.elim
      | cont =>
        obtain ⟨σ6, H6, S6, q6⟩ := hsp
        exact q6.elim
      | ret u =>
        obtain ⟨v6, σ6, H6, S6, r6, q6⟩ := hsp
        exact q6.elim
    | false =>
      show wpAny _ X.A (handleBy (.ref a) X.env []) _ _ _
      refine wpAny_handleBy_nil ?_
      obtain ⟨k1, k2, k3, oe, vs, T, oT, ts', he, hz, hd, h1, hr⟩ := id fl3
      unfold PySem.passOn
      refine wpAny_bind (wpAny_field he hd h1 ?_)
      rw [if_neg (show ¬ ((Value.ref T == Value.none) = true) from by simp)]
      have fin : wpAny (model X.prog X.w) X.A (setFlight (.ref a) X.env.frame) (fun _ s4 => wpAny (model X.prog X.w) X.A (throw (.ref a) : Sem Flow) (SP X pins D) X.xe s4) X.xe { s' with heap := h3 } := by
        rw [hf]
        refine HandSPX.setFlight_upZ fl3 fun h4 hh4 up4 => wpAny_throw (tk _ _ ?_)
        exact ⟨a, B, sI, pins, σ', H', cls, d, rfl, J, nb, (up.trans up3).trans up4, .inr (.inr (by rw [hs]; exact hh4)), na, os, ag, hno rfl⟩
      first
        | exact wpAny_bind (wpAny_pure (wpAny_bind fin))
        | exact wpAny_bind fin
  · cases f with
    | next =>
      obtain ⟨σ', H', J', q⟩ := hsp
      exact wpAny_execs_nil ⟨σ', H', J'.ofTry ok, q⟩
    | brk =>
      obtain ⟨σ', H', J', q⟩ := hsp
      exact ⟨σ', H', J'.ofTry ok, q⟩
    | cont =>
      obtain ⟨σ', H', J', q⟩ := hsp
      exact ⟨σ', H', J'.ofTry ok, q⟩
    | ret u =>
      obtain ⟨v, σ', H', J', r, q⟩ := hsp
      exact ⟨v, σ', H', J'.ofTry ok, r, q⟩
end
end Lp

end
section
/-! LpD1: statements. -/
namespace Lp
open PySem PySem.Spec PyProof.Rows L2
def noComp : Expr → Bool
  | .ListComp .. => false
  | .SetComp .. => false
  | .DictComp .. => false
  | _ => true
def noTup : Expr → Bool
  | .Tuple .. => false
  | _ => true
/-- is the list of a comprehension stored ahead of its end? -/
def swC (S : SC) (t : Str) (tp vp : Pos) (scope : Scope) : Bool := decide (S.sc.names.lookup t = some .local) && tp.line == vp.line && !(scope.names.any fun (n, k) => n == t && (k == .local || k == .cell))
def nmIx (S : SC) (x : Str) : Option Nat := if plainN x = true then (match S.ix x with
  | some i => if S.st.contains i = true then some i else none
  | none => none) else none
def trLs (f : Stmt → Option Stm) : List Stmt → Option (List Stm)
  | [] => some []
  | s :: r => match f s, trLs f r with
    | some a, some b => some (a :: b)
    | _, _ => none
/-- x, y = a, b: stored from the right -/
def parC (S : SC) (x y : Str) (px py : Pos) (a b : Expr) : Bool := decide (S.sc.names.lookup x = some .local) && decide (S.sc.names.lookup y = some .local) && decide (px.line = py.line) && decide (x ≠ y) && noStar a && noStar b && !([a, b].all (foldedForSure 8)) && !([a, b].all (constantsAlone 8))
def trPar (S : SC) (f : Expr → Option Ex) (es : List Expr) (v : Expr) : Option Stm := match es, v with
  | [.Name x px, .Name y py], .Tuple [a, b] _ _ => if parC S x y px py a b = true then (match nmIx S x, nmIx S y, trL f [a, b] with
    | some i, some j, some ms => if i ≠ j then some (.par [i, j] ms) else none
    | _, _, _ => none) else none
  | _, _ => none
def trA (S : SC) (f : Expr → Option Ex) (t v : Expr) (pos : Pos) : Option Stm :=
  match t with
  | .Subscript o i _ => match noSlice i, f v, f o, f i with
    | true, some x, some y, some z => some (.setix y z x)
    | _, _, _, _ => none
  | .Name x p => match noComp v, nmIx S x, f v with
    | true, some i, some m => some (.set (.nm i) m)
    | false, some i, some m => (match v with
      | .ListComp elt gs scope vp => if swC S x p vp scope = true then (match gs with
          | [⟨_, _, _, 0⟩] => some (.set (.nm i) m)
          | [⟨_, _, _, 0⟩, ⟨_, _, _, 0⟩] => some (.set (.nm i) m)
          | _ => none) else some (.set (.nm i) m)
      | _ => none)
    | _, _, _ => none
  | .Tuple es k p => match noTup v && noComp v, trT S (.Tuple es k p), f v with
    | true, some g, some m => some (.set g m)
    | _, _, _ => trPar S f es v
  | .List es p => match noTup v, trT S (.List es p), f v with
    | true, some g, some m => some (.set g m)
    | _, _, _ => none
  | .Attribute o n _ => match S.flOf n, f o, f v with
    | some c, some (.var i), some m => some (.setf c.nm i n m)
    | _, _, _ => none
  | _ => none
def trS (en : Nat) (S : SC) : Nat → Stmt → Option Stm
  | 0, _ => none
  | n + 1, s => match s with
    | .Expr e _ => if noComp e = true then (tr en S e).map .expr else none
    | .Assign [t] v pos => trA S (tr en S) t v pos
    | .AugAssign (.Name x _) op v _ => match nmIx S x, unB op, tr en S v with
      | some i, some o, some m => some (.aug i o m)
      | _, _, _ => none
    | .AugAssign (.Subscript o i _) op v _ => match noSlice i, tr en S o, tr en S i, unB op, tr en S v with
      | true, some a, some b, some p, some m => some (.augix a b p m)
      | _, _, _, _, _ => none
    | .Return (some (.Tuple es _ _)) _ => if es.length < 1000 then (trL (tr en S) es).map fun ms => .ret (.tup ms) else none
    | .Return (some e) _ => (tr en S e).bind fun m => match m with
      | .tup _ => none
      | m => some (.ret m)
    | .Return none _ => some .ret0
    | .If c a b _ => match tr en S c, trLs (trS en S n) a, trLs (trS en S n) b with
      | some x, some y, some z => some (.ifs x y z)
      | _, _, _ => none
    | .While c b [] _ => match tr en S c, trLs (trS en S n) b with
      | some x, some y => some (.whl x y)
      | _, _ => none
    | .For t i b [] _ => match trT S t, trI S (tr en S) t i, trLs (trS en S n) b with
      | some x, some y, some z => some (.for_ x y z)
      | _, _, _ => none
    | .Pass _ => some .pass
    | .Break _ => some .brk
    | .Continue _ => some .cont
    | .Raise (some (.Call (.Name x _) [a] [] _)) none _ => (match a with
      | .Constant (.str _) _ _ => if (S.cs.er.contains x && S.glb x && plainN x) = true then some (.raise x none) else some (.raise x (some .nosl))
      | _ => some (.raise x (some .nosl)))
    | .Try b [.ExceptHandler (some (.Name x _)) (some m) [.Assign [.Name c _] (.Name m2 _) _] _] [] [] _ => (match nmIx S m, nmIx S c, trLs (trS en S n) b with
      | some i, some j, some z => if (S.cs.er.contains x && S.glb x && plainN x && decide (m2 = m) && decide (i ≠ j) && decide (S.sc.names.lookup m = some .local) && decide (S.sc.names.lookup c = some .local) && decide (x ≠ ("ValueError" : Str))) = true then some (.tryc z x i j) else none
      | _, _, _ => none)
    | _ => none

/-! ### what a statement says -/
def OK (K : PySem.W.Frag) (C : Calls) (Wx : WX) (ws : List Nat) (D : Ends) (σ : L2.St) (F : List En) (o : Out) : Prop := match o with
  | .nx e' => ∀ σ' H', Agr ws σ σ' → Fits σ' e'.sl → Own K H' (live σ' e'.sl ++ F) → D.nx σ' H'
  | .bk e' => ∀ σ' H', Agr ws σ σ' → Fits σ' e'.sl → Own K H' (live σ' e'.sl ++ F) → D.bk σ' H'
  | .ct e' => ∀ σ' H', Agr ws σ σ' → Fits σ' e'.sl → Own K H' (live σ' e'.sl ++ F) → D.ct σ' H'
  | .rt r e' => ∀ v σ' H', Agr ws σ σ' → Fits σ' e'.sl → Own K H' (.it v r :: (live σ' e'.sl ++ F)) → D.rt v H'
  | .ex x e' => ∀ σ' H', Agr ws σ σ' → Fits σ' e'.sl → Own K H' (live σ' e'.sl ++ F) → Wx (eC C x) none σ' H'
  | .no => False
def tX (K : PySem.W.Frag) (C : Calls) (Wx : WX) (ws : List Nat) (x : Env → Out) : TS := fun D σ H => ∃ e F, Fits σ e.sl ∧ Own K H (live σ e.sl ++ F) ∧ OK K C Wx ws D σ F (x e)
theorem OK.shift {K : PySem.W.Frag} {C : Calls} {Wx : WX} {ws : List Nat} {D : Ends} {σ σ1 : L2.St} {F : List En} {o : Out} (a : Agr ws σ σ1) (h : OK K C Wx ws D σ F o) : OK K C Wx ws D σ1 F o := by
  cases o with
  | nx e => exact fun σ' H' b => h σ' H' (a.trans b)
  | bk e => exact fun σ' H' b => h σ' H' (a.trans b)
  | ct e => exact fun σ' H' b => h σ' H' (a.trans b)
  | rt r e => exact fun v σ' H' b => h v σ' H' (a.trans b)
  | ex x e => exact fun σ' H' b => h σ' H' (a.trans b)
  | no => exact h
theorem OK.out {K : PySem.W.Frag} {C : Calls} {Wx : WX} {ws : List Nat} {D : Ends} {σ : L2.St} {F : List En} {α : Type} {r : Ev α} {f : α → Env → Out} (h : OK K C Wx ws D σ F (r.out f)) : Post r (PX K C Wx σ F) fun a e => OK K C Wx ws D σ F (f a e) := by
  cases r with
  | ok a e => exact h
  | ex x e => exact fun H' fi ow => h σ H' (Agr.refl _ _) fi ow
  | no => exact h
theorem _root_.L2.PS.wk {X : Cx} {st : Stmt} {t t' : TS} (h : PS X st t) (k : ∀ D σ H, t' D σ H → t D σ H) : PS X st t' := ⟨fun pins s σ H D I w => h.run pins s σ H D I (k _ _ _ w)⟩
theorem _root_.L2.PSs.wk {X : Cx} {st : List Stmt} {t t' : TS} (h : PSs X st t) (k : ∀ D σ H, t' D σ H → t D σ H) : PSs X st t' := ⟨fun pins s σ H D I w => h.run pins s σ H D I (k _ _ _ w)⟩
section
variable {X : Cx} {S : SC} {C : Calls} {Wx : WX} {k : Nat} {pos : Pos}
theorem ss_ok {f : Stmt → Option Stm} (hf : ∀ s m, f s = some m → PS X s (tX X.K C Wx S.st (exec C m))) : ∀ {ss : List Stmt} {ms : List Stm}, trLs f ss = some ms → PSs X ss (tX X.K C Wx S.st (execs C ms))
  | [], ms, h => by
    unfold trLs at h
    cases h
    refine pss_nil.wk fun D σ H hq => ?_
    obtain ⟨e, F, fi, ow, p⟩ := hq
    rw [execs] at p
    exact p σ H (Agr.refl _ _) fi ow
  | s :: r, ms, h => by
    unfold trLs at h
    split at h
    · rename_i a b h1 h2
      cases h
      refine (pss_cons (hf _ _ h1) (ss_ok hf h2)).wk fun D σ H hq => ?_
      obtain ⟨e, F, fi, ow, p⟩ := hq
      rw [execs] at p
      refine ⟨e, F, fi, ow, ?_⟩
      cases hr : exec C a e with
      | nx e1 =>
        rw [hr] at p
        exact fun σ1 H1 ag f1 ow1 => ⟨e1, F, f1, ow1, OK.shift ag p⟩
      | bk e1 =>
        rw [hr] at p
        exact p
      | ct e1 =>
        rw [hr] at p
        exact p
      | rt r e1 =>
        rw [hr] at p
        exact p
      | ex =>
        rw [hr] at p
        exact p
      | no =>
        rw [hr] at p
        exact p
    · cases h
theorem nmIx_ok (g : Good X S C k Wx) {x : Str} {i : Nat} (h : nmIx S x = some i) : i ∈ S.st ∧ X.N[i]? = some x ∧ Loc X.env.scope x ∧ (X.fn x = true ∨ X.env.scope.names.lookup x = some .local) := by
  unfold nmIx at h
  split at h
  · split at h
    · rename_i j hj
      split at h
      · rename_i hs
        cases h
        have hs : i ∈ S.st := by simpa using hs
        have hN := SC.ix_get hj
        obtain ⟨l1, l2⟩ := g.st i hs x hN
        exact ⟨hs, by rw [g.n]; exact hN, by rw [g.sc]; exact l1, by rw [g.sc]; exact l2⟩
      · cases h
    · cases h
  · cases h
/-- target = value, in the small syntax -/
theorem set_val {te : Ex} {t : Tg} (ht : ∀ j ∈ t.sl, j ∈ S.st) {D : Ends} {σ : L2.St} {H : Hp} (h : tX X.K C Wx S.st (exec C (.set t te)) D σ H) : tAsg (tEv X.K C Wx te) (tTg X.K t) D σ H := by
  obtain ⟨e, F, fi, ow, p⟩ := h
  rw [exec] at p
  have p := OK.out p
  unfold evH at p
  rw [Post.bind] at p
  refine ⟨e, F, fi, ow, p.mono fun x e1 p1 v H1 fi1 ow1 b1 => ?_⟩
  split at p1
  · rename_i r e2 hz
    obtain ⟨f2, ow2⟩ := take_ok fi1 b1 ow1 hz
    have p1 : OK _ _ _ _ _ _ _ (match stT t r e2 with | some e2 => Out.nx e2 | none => Out.no) := p1
    split at p1
    · rename_i e3 he
      exact ⟨e2, F, r, e3, f2, ow2, he, stT_st he, fun σ' H' ag f3 ow3 => p1 σ' H' (ag.mono ht) f3 ow3⟩
    · exact p1.elim
  · exact p1.elim
theorem nm_val {i : Nat} {v : V} {σ : L2.St} {H : Hp} {Q : L2.St → Hp → Prop} (h : tTg X.K (.nm i) v σ H Q) (hl : i < σ.length) : gName i v σ H Q := by
  obtain ⟨e, F, r, e', fi, ow, hst, _, q⟩ := h
  have e1 : e.set i (some r) = e' := by
    simp only [stT] at hst
    exact Option.some.inj hst
  subst e1
  refine q _ _ (Agr.set (by simp [Tg.sl])) fi.new (ow.by fun z => ?_)
  have := live_new (v := v) (r := r) hl (by rw [← fi.len]; exact hl) z
  have := live_none_le (σ := σ) (sl := e.sl) (i := i) z
  simp only [Env.set, cnt_app, cnt_cons] at *
  omega
theorem nm_all {i : Nat} {v : V} {σ : L2.St} {H : Hp} {Q : L2.St → Hp → Prop} (h : tTg X.K (.nm i) v σ H Q) : gName i v σ H Q := by
  by_cases hl : i < σ.length
  · exact nm_val h hl
  · obtain ⟨e, F, r, e', fi, ow, hst, _, q⟩ := h
    have e1 : e.set i (some r) = e' := by
      simp only [stT] at hst
      exact Option.some.inj hst
    subst e1
    have e1 : σ.set i (some v) = σ := List.set_eq_of_length_le (by omega)
    have e2 : (e.set i (some r)).sl = e.sl := List.set_eq_of_length_le (by have := fi.len; omega)
    exact q _ _ (by rw [e1]; exact Agr.refl _ _) (by rw [e1, e2]; exact fi) (by rw [e1, e2]; exact ow.tail)
theorem own_nm {i : Nat} {K : PySem.W.Frag} {v : V} {r : R} {σ : L2.St} {H : Hp} {e : Env} {F : List En} (fi : Fits σ e.sl) (ow : Own K H (.it v r :: (live σ e.sl ++ F))) : Fits (σ.set i (some v)) (e.set i (some r)).sl ∧ Own K H (live (σ.set i (some v)) (e.set i (some r)).sl ++ F) := by
  by_cases hl : i < σ.length
  · refine ⟨fi.new, ow.by fun z => ?_⟩
    have := live_new (v := v) (r := r) hl (by rw [← fi.len]; exact hl) z
    have := live_none_le (σ := σ) (sl := e.sl) (i := i) z
    simp only [Env.set, cnt_app, cnt_cons] at *
    omega
  · have e1 : σ.set i (some v) = σ := List.set_eq_of_length_le (by omega)
    have e2 : (e.set i (some r)).sl = e.sl := List.set_eq_of_length_le (by have := fi.len; omega)
    exact ⟨by rw [e1, e2]; exact fi, by rw [e1, e2]; exact ow.tail⟩
theorem sw_ok (g : Good X S C k Wx) (hk : S.sc.kind = .function) {elt : Expr} {gs : List Comprehension} {scope : Scope} {vp tp : Pos} {x : Str} {l : Nat} : swapsWith (.ListComp elt gs scope vp) (some (.Name x tp)) l X.env = pure (swC S x tp vp scope) := by
  have hb : X.env.blockKind = .function := by
    unfold Env.blockKind
    rw [g.sc, hk]
    rfl
  have hk2 : X.env.kindOf x = S.sc.names.lookup x := by
    show X.env.scope.names.lookup x = _
    rw [g.sc]
  unfold swapsWith swC
  simp only [hb, hk2, Expr.pos]
  by_cases h : S.sc.names.lookup x = some .local
  · simp [h]
  · have h2 : (S.sc.names.lookup x == some .local) = false := beq_eq_false_iff_ne.mpr h
    simp [h, h2]
/-- an own list is put into -/
theorem setix_end {i : Nat} {n : Nat} {kk : Int} {v u w : V} {l : List D} {d : D} {σ : L2.St} {H : Hp} {e4 : Env} {F : List En} {Q : Hp → Prop} (hv : σ[i]? = some (some v)) (fi : Fits σ e4.sl) (ow : Own X.K H (.it u (.frz d) :: (live σ e4.sl ++ F))) (hl : e4.get i = some (.lst l)) (hw : w = .int kk) (hn : pos? l.length kk = some n)
    (q : ∀ H', Fits σ (e4.set i (some (.lst (l.set n d)))).sl → Own X.K H' (live σ (e4.set i (some (.lst (l.set n d)))).sl ++ F) → Q H') :
    ∃ L l k n d, Own X.K H (.it v (.lst l) :: .it u (.frz d) :: L) ∧ w = .int k ∧ pos? l.length k = some n ∧ ∀ H', Own X.K H' (.it v (.lst (l.set n d)) :: L) → Q H' := by
  have h1 := get_iff.mp hl
  have fl := fi.lt h1
  refine ⟨live σ (e4.sl.set i none) ++ F, l, kk, n, d, ow.by fun z => ?_, hw, hn, fun H' ow2 => q H' (fi.put hv) (ow2.by fun z => ?_)⟩
  · have := live_get hv h1 z
    simp only [cnt_cons, cnt_app]
    omega
  · have := live_put (r := .lst (l.set n d)) hv fl.2 z
    simp only [cnt_cons, cnt_app, Env.set]
    omega
theorem s_dicset (hu : X.A.units + 65 < cLine) : PSet X (fun o i v H Q => ∃ L l k d, Own X.K H (.it o (.dic l) :: .it v (.frz d) :: L) ∧ i = kV k ∧ l.length < big ∧ ∀ H', Own X.K H' (.it o (.dic (putD l (keyD k) d)) :: L) → Q H') := by
  intro pins s σ H o i v ov iv u Q I ro ri rv h
  obtain ⟨L, l, k, d, ow, ei, hn, q⟩ := h
  obtain ⟨a, ks, rfl, ha, len, ow1⟩ := ow.putK
  subst ei
  obtain rfl : ov = Value.ref a := ro
  have hb : big ≤ sizeLine := big_le (Nat.le_refl _)
  exact d_setItem (by omega) I (.inl ⟨ks, k, ha, rfl, by omega, rfl⟩) ri rv fun s4 I4 => ⟨_, I4, q _ (ow1 k)⟩
theorem s_seqset (hu : X.A.units + 65 < cLine) : PSet X (fun o i v H Q => (∃ L l k n d, Own X.K H (.it o (.lst l) :: .it v (.frz d) :: L) ∧ i = .int k ∧ pos? l.length k = some n ∧ ∀ H', Own X.K H' (.it o (.lst (l.set n d)) :: L) → Q H') ∨
    ∃ L l k d, Own X.K H (.it o (.dic l) :: .it v (.frz d) :: L) ∧ i = kV k ∧ l.length < big ∧ ∀ H', Own X.K H' (.it o (.dic (putD l (keyD k) d)) :: L) → Q H') := by
  intro pins s σ H o i v ov iv u Q I ro ri rv h
  rcases h with h | h
  · exact s_list pins s σ H o i v ov iv u Q I ro ri rv h
  · exact s_dicset hu pins s σ H o i v ov iv u Q I ro ri rv h
/-- an own dict is put into -/
theorem setdic_end {i : Nat} {k : L2.Key} {v u w : V} {l : List (D × D)} {d kd : D} {σ : L2.St} {H : Hp} {e4 : Env} {F : List En} {Q : Hp → Prop} (hv : σ[i]? = some (some v)) (fi : Fits σ e4.sl) (ow : Own X.K H (.it u (.frz d) :: (live σ e4.sl ++ F))) (hl : e4.get i = some (.dic l)) (hw : w = kV k) (hk : kd = keyD k) (hn : l.length < big)
    (q : ∀ H', Fits σ (e4.set i (some (.dic (putD l kd d)))).sl → Own X.K H' (live σ (e4.set i (some (.dic (putD l kd d)))).sl ++ F) → Q H') :
    ∃ L l k d, Own X.K H (.it v (.dic l) :: .it u (.frz d) :: L) ∧ w = kV k ∧ l.length < big ∧ ∀ H', Own X.K H' (.it v (.dic (putD l (keyD k) d)) :: L) → Q H' := by
  subst hk
  have h1 := get_iff.mp hl
  have fl := fi.lt h1
  refine ⟨live σ (e4.sl.set i none) ++ F, l, k, d, ow.by fun z => ?_, hw, hn, fun H' ow2 => q H' (fi.put hv) (ow2.by fun z => ?_)⟩
  · have := live_get hv h1 z
    simp only [cnt_cons, cnt_app]
    omega
  · have := live_put (r := .dic (putD l (keyD k) d)) hv fl.2 z
    simp only [cnt_cons, cnt_app, Env.set]
    omega
theorem par_sw (g : Good X S C k Wx) (hk : S.sc.kind = .function) {x y : Str} {px py pt pt2 : Pos} {kt k2} {a b : Expr} (h : parC S x y px py a b = true) : swappedStores [.Tuple [.Name x px, .Name y py] kt pt] (.Tuple [a, b] k2 pt2) X.env = pure (some [x, y]) := by
  unfold parC at h
  simp only [Bool.and_eq_true, decide_eq_true_eq, Bool.not_eq_true'] at h
  obtain ⟨⟨⟨⟨⟨⟨⟨h1, h2⟩, h3⟩, h4⟩, h5⟩, h6⟩, h7⟩, h8⟩ := h
  have hb : X.env.blockKind = .function := by
    unfold Env.blockKind
    rw [g.sc, hk]
    rfl
  have e1 : X.env.kindOf x = some .local := by
    show X.env.scope.names.lookup x = _
    rw [g.sc, h1]
  have e2 : X.env.kindOf y = some .local := by
    show X.env.scope.names.lookup y = _
    rw [g.sc, h2]
  have hs : ([a, b].any fun | .Starred .. => true | _ => false) = false := by
    have : ∀ e : Expr, noStar e = true → (match e with | .Starred .. => true | _ => false) = false := by
      intro e he
      cases e <;> first | rfl | cases he
    simp only [List.any_cons, List.any_nil]
    rw [this a h5, this b h6]
    rfl
  have hf : List.filterMap (fun e : Expr => match e with
      | .Name id pos => if (X.env.kindOf id == some .local && pos.line == px.line) = true then some id else none
      | _ => none) [.Name x px, .Name y py] = [x, y] := by
    simp [e1, e2, h3]
  unfold swappedStores
  have hd : [x, y].eraseDups = [x, y] := by
    rw [List.eraseDups_cons]
    have : ([y].filter fun b => !b == x) = [y] := by
      simp [Ne.symm h4]
    rw [this]
    rfl
  simp only [hb, hs, h7, h8]
  simp [e1, e2, h3, hd, h4, Expr.pos]
  rintro (q | q)
  · cases a <;> first | (cases h5; done) | (simp at q; done)
  · cases b <;> first | (cases h6; done) | (simp at q; done)
theorem trPar_ok (g : Good X S C k Wx) (hk : S.sc.kind = .function) (n : Nat) {es : List Expr} {kk p} {v : Expr} {m : Stm} (h : trPar S (tr n S) es v = some m) : PS X (.Assign [.Tuple es kk p] v pos) (tX X.K C Wx S.st (exec C m)) := by
  have hv : ∀ e m, tr n S e = some m → PE X e (tEv X.K C Wx m) := fun e m h => (tr_ok n X S C k Wx g e m h).1
  unfold trPar at h
  split at h
  · rename_i x px y py a b _ _
    split at h
    · rename_i hc
      split at h
      · rename_i i j ms h1 h2 h3
        split at h
        · rename_i hij
          cases h
          obtain ⟨i1, i2, i3, i4⟩ := nmIx_ok g h1
          obtain ⟨j1, j2, j3, j4⟩ := nmIx_ok g h2
          have hc' := hc
          unfold parC at hc'
          simp only [Bool.and_eq_true, decide_eq_true_eq] at hc'
          have l1 := hc'.1.1.1.1.1.1.1
          have l2 := hc'.1.1.1.1.1.1.2
          refine (ps_par g.calm (by rw [g.n]; exact g.nd) i2 j2 hij (by rw [g.sc]; exact l1) (by rw [g.sc]; exact l2) (s_args hv h3) (par_sw g hk hc) (by rfl)).wk fun D σ H hq => ?_
          obtain ⟨e, F, fi, ow, p⟩ := hq
          rw [exec] at p
          refine ⟨e, F, fi, ow, (OK.out p).mono fun as e1 p1 vs H1 f1 ow1 b1 => ?_⟩
          split at p1
          · rename_i rs e2 ht
            split at p1
            · rename_i hl
              cases b1 with
              | nil =>
                simp only [Env.takes] at ht
                cases ht
                cases hl
              | @cons v1 a1 vs as c1 b1 =>
                simp only [Env.takes] at ht
                split at ht
                · rename_i x1 e3 ht1
                  split at ht
                  · rename_i xs e4 ht2
                    cases ht
                    obtain ⟨f3, ow3⟩ := take_ok (F := ents vs as ++ F) f1 c1 (ow1.by fun z => by simp only [ents, cnt_app]; omega) ht1
                    cases b1 with
                    | nil =>
                      simp only [Env.takes] at ht2
                      cases ht2
                      cases hl
                    | @cons v2 a2 vs as c2 b2 =>
                      simp only [Env.takes] at ht2
                      split at ht2
                      · rename_i x2 e5 ht3
                        split at ht2
                        · rename_i xs e6 ht4
                          cases ht2
                          obtain ⟨f5, ow5⟩ := take_ok (F := .it v1 x1 :: (ents vs as ++ F)) f3 c2 (ow3.by fun z => by simp only [ents, cnt_app, cnt_cons]; omega) ht3
                          cases b2 with
                          | cons c3 b3 =>
                            simp only [Env.takes] at ht4
                            split at ht4
                            · split at ht4
                              · cases ht4
                                simp at hl
                              · cases ht4
                            · cases ht4
                          | nil =>
                            simp only [Env.takes] at ht4
                            cases ht4
                            refine ⟨v1, v2, rfl, ?_⟩
                            have p1 : OK X.K C Wx S.st D σ F (.nx ((e2.set i (some x1)).set j (some x2))) := p1
                            obtain ⟨g1, w1⟩ := own_nm (i := i) (v := v1) (r := x1) (F := .it v2 x2 :: F) f5 (ow5.by fun z => by simp only [ents, cnt_app, cnt_cons, cnt_nil]; omega)
                            obtain ⟨g2, w2⟩ := own_nm (i := j) (v := v2) (r := x2) (F := F) g1 (w1.by fun z => by simp only [cnt_app, cnt_cons]; omega)
                            exact p1 _ _ ((Agr.set i1).trans (Agr.set j1)) g2 w2
                        · cases ht2
                      · cases ht2
                  · cases ht
                · cases ht
            · exact p1.elim
          · exact p1.elim
        · cases h
      · cases h
    · cases h
  · cases h
theorem A_ok (g : Good X S C k Wx) (hk : S.sc.kind = .function) (n : Nat) {t v : Expr} {m : Stm} (h : trA S (tr n S) t v pos = some m) : PS X (.Assign [t] v pos) (tX X.K C Wx S.st (exec C m)) := by
  have hv : ∀ e m, tr n S e = some m → PE X e (tEv X.K C Wx m) := fun e m h => (tr_ok n X S C k Wx g e m h).1
  unfold trA at h
  split at h
  · rename_i o i tp
    split at h
    · rename_i x y z hs h1 h2 h3
      cases h
      refine (ps_asg (hv _ _ h1) (pg_sub (hv _ _ h2) (hv _ _ h3) (s_seqset (by have := g.room.un; omega)) (fun v => by cases i <;> first | rfl | cases hs)) (by cases v <;> rfl) (by cases v <;> rfl)).wk fun D σ H hq => ?_
      obtain ⟨e, F, fi, ow, p⟩ := hq
      rw [exec] at p
      refine ⟨e, F, fi, ow, (OK.out p).mono fun a e1 p1 u H1 f1 ow1 b1 => ?_⟩
      refine ⟨e1, ent u a ++ F, f1, ow1.by fun z => by simp only [cnt_app]; omega, (OK.out p1).mono fun b e2 p2 w H2 f2 ow2 b2 => ?_⟩
      refine ⟨e2, ent w b ++ (ent u a ++ F), f2, ow2.by fun z => by simp only [cnt_app]; omega, (OK.out p2).mono fun c e3 p3 q H3 f3 ow3 b3 => ?_⟩
      split at p3
      · rename_i j kk d e4 hz
        obtain ⟨f4, ow4⟩ := frz_ok (a := a) (F := .it q (.frz kk) :: F) f3 b1 (ow3.by fun z => by simp only [ent, cnt_app, cnt_cons, cnt_nil]; omega) hz
        split at p3
        · rename_i l hl
          split at p3
          · rename_i kk
            split at p3
            · rename_i nn hn
              have eq := ow4.atI (v := q) (i := kk) (List.mem_cons_of_mem _ (List.mem_append_right _ List.mem_cons_self))
              exact .inl (setix_end b2 f4 (ow4.by fun z => by simp only [cnt_app, cnt_cons]; omega) hl eq hn fun H' f5 ow5 => p3 σ H' (Agr.refl _ _) f5 ow5)
            · exact p3.elim
          · exact p3.elim
        · rename_i l hl
          split at p3
          · rename_i hk
            obtain ⟨k', eq, ek⟩ := ow4.key (v := q) (r := .frz kk) (List.mem_cons_of_mem _ (List.mem_append_right _ List.mem_cons_self)) hk.1
            exact .inr (setdic_end b2 f4 (ow4.by fun z => by simp only [cnt_app, cnt_cons]; omega) hl eq ek hk.2 fun H' f5 ow5 => p3 σ H' (Agr.refl _ _) f5 ow5)
          · exact p3.elim
        · exact p3.elim
      · exact p3.elim
    · cases h
  · rename_i x p
    split at h
    · rename_i i mm hs h1 h2
      cases h
      obtain ⟨i1, i2, i3, i4⟩ := nmIx_ok g h1
      refine (ps_set (i := i) (by rw [g.n]; exact g.nd) i2 i3 (hv _ _ h2) (by cases v <;> first | rfl | cases hs) i4).wk fun D σ H hq => ?_
      obtain ⟨e, F, fi, ow, p⟩ := set_val (t := .nm i) (fun j hj => by simp only [Tg.sl, List.mem_singleton] at hj; exact hj ▸ i1) hq
      exact ⟨e, F, fi, ow, p.mono fun x e1 p1 v H1 fi1 ow1 b1 => nm_all (p1 v H1 fi1 ow1 b1)⟩
    · rename_i i mm hs h1 h2
      obtain ⟨i1, i2, i3, i4⟩ := nmIx_ok g h1
      have sub : ∀ j ∈ (Tg.nm i).sl, j ∈ S.st := fun j hj => by simp only [Tg.sl, List.mem_singleton] at hj; exact hj ▸ i1
      split at h
      · rename_i elt gs scope vp
        split at h
        · rename_i hsw
          split at h
          · rename_i tg iter ifs
            cases h
            -- the list is stored ahead of the block's end
            cases n with
            | zero => simp [tr] at h2
            | succ n =>
              have hv' : ∀ e m, tr n S e = some m → PE X e (tEv X.K C Wx m) := fun e m h => (tr_ok n X S C k Wx g e m h).1
              unfold tr at h2
              simp only at h2
              split at h2
              · rename_i hb
                rw [Bool.and_eq_true, Bool.and_eq_true, decide_eq_true_eq] at hb
                obtain ⟨⟨b1, b2⟩, b3⟩ := hb
                split at h2
                · rename_i t it c x' g1 g2 g3 g4
                  split at h2
                  · rename_i hs2
                    cases h2
                    have hs' : ∀ j ∈ t.sl, j ∈ (ownOf S scope).map (·.2) := fun j hj => by
                      have := List.all_eq_true.mp hs2 j hj
                      simpa using this
                    have gb : ∀ (s : Shared) (H : Hp) (Ca : Addr) (cl : List (Str × Addr)) (fp : List Addr), Good (X.blk s H scope (compEnvC scope cl Ca X.env) fp) (S.blk scope) C k (fun _ _ _ _ => False) := fun s H Ca cl fp => g.blk b2 s H Ca cl fp
                    have tests : ∀ (s : Shared) (H : Hp) (Ca : Addr) (cl : List (Str × Addr)) (fp : List Addr), PTs (X.blk s H scope (compEnvC scope cl Ca X.env) fp) ifs (tTs X.K C (fun _ _ _ _ => False) c) := fun s H Ca cl fp => ifs_ok (fun e m h => (tr_ok n _ _ C k _ (gb s H Ca cl fp) e m h).2) g3
                    have hsw' := hsw
                    unfold swC at hsw'
                    simp only [Bool.and_eq_true, decide_eq_true_eq] at hsw'
                    refine (ps_setLc (i := i) (own := ownOf S scope) (g := tTg X.K t) (tt := tTs X.K C (fun _ _ _ _ => False) c) (te := tEv X.K C (fun _ _ _ _ => False) x') g.calm (by rw [g.n]; exact g.nd) i2 (by rw [g.sc]; exact hsw'.1.1) (by rw [sw_ok g hk, hsw]) (s_it g hv' g2) (by rw [g.n, g.sc]; exact blkOk_by b1) (fun s H Ca cl fp => (pg_ok (gb s H Ca cl fp) g1).2) tests (fun s H Ca cl fp => (tr_ok n _ _ C k _ (gb s H Ca cl fp) _ _ g4).1) (trI_fold g2 X.env)).wk fun D σ H hq => ?_
                    obtain ⟨e, F, fi, ow, p⟩ := set_val (t := .nm i) sub hq
                    have := lc_val (K := X.K) (C := C) (σ := σ) (H := H) (Q := fun v H1 => gName i v σ H1 D.nx) b3 hs' ⟨e, F, fi, ow, p.mono fun x e1 p1 v H1 fi1 ow1 b1 => nm_all (p1 v H1 fi1 ow1 b1)⟩
                    exact this
                  · cases h2
                · cases h2
              · cases h2
          · rename_i tg iter ifs tg1 iter1 ifs1
            cases h
            cases n with
            | zero => simp [tr] at h2
            | succ n =>
              have hv' : ∀ e m, tr n S e = some m → PE X e (tEv X.K C Wx m) := fun e m h => (tr_ok n X S C k Wx g e m h).1
              unfold tr at h2
              simp only at h2
              split at h2
              · rename_i hb
                rw [Bool.and_eq_true, Bool.and_eq_true, decide_eq_true_eq] at hb
                obtain ⟨⟨b1, b2⟩, b3⟩ := hb
                split at h2
                · rename_i t it c t1 it1 c1 x' g1 g2 g3 g4 g5 g6 g7
                  split at h2
                  · rename_i hs2
                    cases h2
                    simp only [Bool.and_eq_true, decide_eq_true_eq] at hs2
                    have hs' : ∀ j ∈ t.sl, j ∈ (ownOf S scope).map (·.2) := fun j hj => by
                      have := List.all_eq_true.mp hs2.1.1 j hj
                      simpa using this
                    have hs1 : ∀ j ∈ t1.sl, j ∈ (ownOf S scope).map (·.2) := fun j hj => by
                      have := List.all_eq_true.mp hs2.1.2 j hj
                      simpa using this
                    have gb : ∀ (s : Shared) (H : Hp) (Ca : Addr) (cl : List (Str × Addr)) (fp : List Addr), Good (X.blk s H scope (compEnvC scope cl Ca X.env) fp) (S.blk scope) C k (fun _ _ _ _ => False) := fun s H Ca cl fp => g.blk b2 s H Ca cl fp
                    have hsw' := hsw
                    unfold swC at hsw'
                    simp only [Bool.and_eq_true, decide_eq_true_eq] at hsw'
                    refine (ps_setLc2 (i := i) (own := ownOf S scope) (vs1 := t1.sl) (g := tTg X.K t) (g1 := tTg X.K t1) (tt := tTs X.K C (fun _ _ _ _ => False) c) (tt1 := tTs X.K C (fun _ _ _ _ => False) c1) (wi1 := tIt X.K C (fun _ _ _ _ => False) it1) (te := tEv X.K C (fun _ _ _ _ => False) x') g.calm (by rw [g.n]; exact g.nd) i2 (by rw [g.sc]; exact hsw'.1.1) (by rw [sw_ok g hk, hsw]) (s_it g hv' g2) (by rw [g.n, g.sc]; exact blkOk_by b1) hs1
                      (fun s H Ca cl fp => (pg_ok (gb s H Ca cl fp) g1).2) (fun s H Ca cl fp => ifs_ok (fun e m h => (tr_ok n _ _ C k _ (gb s H Ca cl fp) e m h).2) g3)
                      (fun s H Ca cl fp => s_it (gb s H Ca cl fp) (fun e m h => (tr_ok n _ _ C k _ (gb s H Ca cl fp) e m h).1) g5) (fun s H Ca cl fp => (pg_ok (gb s H Ca cl fp) g4).2) (fun s H Ca cl fp => ifs_ok (fun e m h => (tr_ok n _ _ C k _ (gb s H Ca cl fp) e m h).2) g6)
                      (fun s H Ca cl fp => (tr_ok n _ _ C k _ (gb s H Ca cl fp) _ _ g7).1) (trI_fold g2 X.env) (fun env x => trI_fold g5 env x)).wk fun D σ H hq => ?_
                    obtain ⟨e, F, fi, ow, p⟩ := set_val (t := .nm i) sub hq
                    have := lc2_val (K := X.K) (C := C) (σ := σ) (H := H) (Q := fun v H1 => gName i v σ H1 D.nx) b3 hs2.2 hs1 hs' (fun _ h => h) ⟨e, F, fi, ow, p.mono fun x e1 p1 v H1 fi1 ow1 b1 => nm_all (p1 v H1 fi1 ow1 b1)⟩
                    exact this
                  · cases h2
                · cases h2
              · cases h2
          · cases h
        · rename_i hsw
          cases h
          refine (ps_set (i := i) (by rw [g.n]; exact g.nd) i2 i3 (hv _ _ h2) (by rw [sw_ok g hk]; simp only [hsw]) i4).wk fun D σ H hq => ?_
          obtain ⟨e, F, fi, ow, p⟩ := set_val (t := .nm i) sub hq
          exact ⟨e, F, fi, ow, p.mono fun x e1 p1 v H1 fi1 ow1 b1 => nm_all (p1 v H1 fi1 ow1 b1)⟩
      · cases h
    · cases h
  · rename_i es kk p
    split at h
    · rename_i hs h1 h2
      cases h
      rw [Bool.and_eq_true] at hs
      obtain ⟨a1, a2⟩ := pg_ok g h1
      exact (ps_asg (hv _ _ h2) a2 (by cases v <;> first | rfl | cases hs.2) (by cases v <;> first | rfl | cases hs.1)).wk fun D σ H hq => set_val a1 hq
    · exact trPar_ok g hk n h
  · rename_i es p
    split at h
    · rename_i hs h1 h2
      cases h
      obtain ⟨a1, a2⟩ := pg_ok g h1
      exact (ps_asg (hv _ _ h2) a2 (by cases v <;> rfl) (by cases v <;> first | rfl | cases hs)).wk fun D σ H hq => set_val a1 hq
    · cases h
  · rename_i o nm p'
    split at h
    · rename_i c i mm hc h1 h2
      cases h
      obtain ⟨c1, c2⟩ := SC.flOf_ok hc
      have ca := g.mo.cs c c1
      refine (ps_fld (hv _ _ h1) (hv _ _ h2) (by cases v <;> rfl)).wk fun D σ H hq => ?_
      obtain ⟨e, F, fi, ow, p⟩ := hq
      rw [exec] at p
      refine ⟨e, F, fi, ow, (OK.out p).mono fun a e1 p1 u H1 f1 ow1 b1 => ?_⟩
      split at p1
      · rename_i d e2 hz
        obtain ⟨f2, ow2⟩ := frz_ok f1 b1 ow1 hz
        split at p1
        · rename_i cc fs hg
          split at p1
          · rename_i hcc
            obtain ⟨hcc, hlen⟩ := hcc
            subst hcc
            refine ⟨e2, .it u (.frz d) :: F, f2, ow2.by fun z => by simp only [cnt_app, cnt_cons]; omega, ?_⟩
            have ee : ev C (.var i) e2 = .ok (.bor i) e2 := by
              rw [ev, hg]
            rw [ee]
            intro w H2 f3 ow3 b3
            have g1 := get_iff.mp hg
            have fl := f3.lt g1
            have ow4 : Own X.K H2 (.it w (.obj (C.cl c.nm) fs) :: .it u (.frz d) :: (live σ (e2.sl.set i none) ++ F)) := ow3.by fun z => by
              have := live_get b3 g1 z
              simp only [ent, cnt_app, cnt_cons, cnt_nil]
              omega
            obtain ⟨ad, dx, xs, rfl, ha, len, ow5⟩ := ow4.putO
            refine ⟨ad, _, dx, xs, rfl, ha, ca.cl, ca.na _ c2, by rw [len]; exact hlen, ?_⟩
            refine p1 σ _ (Agr.refl _ _) (f3.put b3) (ow5.by fun z => ?_)
            have := live_put (r := .obj (C.cl c.nm) (putFD nm d fs)) b3 fl.2 z
            simp only [cnt_app, cnt_cons, Env.set]
            omega
          · exact p1.elim
        · exact p1.elim
      · exact p1.elim
    · cases h
  · cases h
end
end Lp

end
section
/-! LpD2: the other statements; the translation of statements holds. -/
namespace Lp
open PySem PySem.Spec PyProof.Rows L2
section
variable {X : Cx} {S : SC} {C : Calls} {Wx : WX} {k : Nat} {pos : Pos}
theorem ip_ok (o : BOp) : PIp X (bop o) (rB X.K (augR o)) := by
  intro pins s σ H x y v u Q I rx ry h
  obtain ⟨L, r, t, z, ow, m1, m2, hz, q⟩ := h
  have go : ∀ {rr : R2} {f : Value → Value → Sem Value}, OpR X f rr → rr x y H Q → wpAny (model X.prog X.w) X.A (f v u) (EP X pins σ Q) X.xe s := fun {rr f} h1 h2 => h1 pins s σ H x y v u Q I rx ry h2
  unfold augR at hz
  split at hz
  · cases hz
    exact go iop_add ⟨_, _, ow.atI m1, ow.atI m2, q _ H (ow.int _)⟩
  · split at hz
    · rename_i hb
      cases hz
      refine go iop_add_str ⟨_, _, ow.atS m1, ow.atS m2, by rw [strLen, strLen]; exact big_le hb, ?_⟩
      rw [strApp]
      exact q _ H (ow.str _)
    · cases hz
  · cases hz
    exact go iop_sub ⟨_, _, ow.atI m1, ow.atI m2, q _ H (ow.int _)⟩
  · split at hz
    · rename_i hb
      cases hz
      have im : OpR X (inplaceOp .Mult) (rI (fun i j => mulOk i j = true) fun i j => .int (i * j)) := opI fun _ _ _ _ _ _ _ hc q => imul_int q (mulOk_ok hc)
      exact go im ⟨_, _, ow.atI m1, ow.atI m2, hb, q _ H (ow.int _)⟩
    · cases hz
  · split at hz
    · rename_i hb
      cases hz
      exact go iop_fdivW ⟨_, _, ow.atI m1, ow.atI m2, wide_div hb.1 (b := 250) (by omega) (by decide) (by decide), q _ H (ow.int _)⟩
    · cases hz
  · split at hz
    · rename_i hb
      cases hz
      exact go iop_mod ⟨_, _, ow.atI m1, ow.atI m2, hb, q _ H (ow.int _)⟩
    · cases hz
  · cases hz
theorem aug_ok (g : Good X S C k Wx) {x : Str} {i : Nat} {o : BOp} {v : Expr} {m : Ex} {p : Pos} (hi : nmIx S x = some i) (hv : PE X v (tEv X.K C Wx m)) : PS X (.AugAssign (.Name x p) (bop o) v pos) (tX X.K C Wx S.st (exec C (.aug i o m))) := by
  obtain ⟨i1, i2, i3, i4⟩ := nmIx_ok g hi
  refine (ps_aug (i := i) (by rw [g.n]; exact g.nd) i2 i3 hv (ip_ok o) i4).wk fun D σ H hq => ?_
  obtain ⟨e, F, fi, ow, p⟩ := hq
  rw [exec] at p
  split at p
  · rename_i old hold
    have h1 := get_iff.mp hold
    obtain ⟨w, hw⟩ := fi.has _ _ h1
    have hm : .it w (.frz old) ∈ live σ e.sl ++ F := by
      have := live_get hw h1 (.it w (.frz old))
      rw [one_self] at this
      exact List.mem_append_left _ (cnt_mem (by omega))
    refine ⟨w, hw, e, .it w (.frz old) :: F, fi, (ow.dup hm).by fun z => by simp only [cnt_app, cnt_cons]; omega, (OK.out p).mono fun a e1 p1 u H1 f1 ow1 b1 => ?_⟩
    split at p1
    · rename_i d
      split at p1
      · rename_i r hr
        refine ⟨_, .frz old, .frz d, r, ow1, ?_, ?_, hr, fun zz H2 ow2 => p1 _ H2 (Agr.set i1) f1.new (ow2.by fun z => ?_)⟩
        · exact List.mem_append_right _ (List.mem_append_right _ List.mem_cons_self)
        · exact List.mem_append_left _ List.mem_cons_self
        · have hl : i < σ.length := (List.getElem?_eq_some_iff.mp hw).1
          have := live_new (v := zz) (r := r) hl (by rw [← f1.len]; exact hl) z
          have := live_none_le (σ := σ) (sl := e1.sl) (i := i) z
          simp only [cnt_app, cnt_cons, Env.set] at *
          omega
      · exact p1.elim
    · exact p1.elim
  · exact p.elim
theorem augix_ok {o i v : Expr} {mo mi m : Ex} {op : BOp} {p : Pos} (hs : noSlice i = true) (ho : PE X o (tEv X.K C Wx mo)) (hi : PE X i (tEv X.K C Wx mi)) (hv : PE X v (tEv X.K C Wx m)) :
    PS X (.AugAssign (.Subscript o i p) (bop op) v pos) (tX X.K C Wx S.st (exec C (.augix mo mi op m))) := by
  refine (ps_augS ho hi get_list hv (ip_ok op) s_list (fun ov iv new => by first | rfl | (cases i <;> first | rfl | cases hs))).wk fun D σ H hq => ?_
  obtain ⟨e, F, fi, ow, p⟩ := hq
  rw [exec] at p
  refine ⟨e, F, fi, ow, (OK.out p).mono fun a e1 p1 w H1 f1 ow1 b1 => ?_⟩
  refine ⟨e1, ent w a ++ F, f1, ow1.by fun z => by simp only [cnt_app]; omega, (OK.out p1).mono fun b e2 p2 u H2 f2 ow2 b2 => ?_⟩
  split at p2
  · rename_i j kk
    split at p2
    · rename_i l hl
      have h1 := get_iff.mp hl
      have eu := ow2.atI (v := u) (i := kk) (List.mem_append_left _ List.mem_cons_self)
      split at p2
      · rename_i old hold
        have ow3 : Own X.K H2 (.it w (.lst l) :: (live σ (e2.sl.set j none) ++ F)) := ow2.by fun z => by
          have := live_get b1 h1 z
          simp only [cnt_app, cnt_cons, ent, cnt_nil]
          omega
        obtain ⟨ad, xs, ew, sx, len, ow4⟩ := ow3.atL (r := .lst l) (l := l) List.mem_cons_self rfl
        obtain ⟨y, hy, my⟩ := at_mem len hold
        refine ⟨ad, xs, kk, y, ew, eu, sx.sqL, hy, ?_⟩
        have ow5 := ow4.dup (List.mem_append_left _ my)
        refine ⟨e2, .it y (.frz old) :: F, f2, ow5.by fun z => ?_, (OK.out p2).mono fun c e3 p3 q H3 f3 ow6 b3 => ?_⟩
        · have := live_get b1 h1 z
          simp only [cnt_app, cnt_cons]
          omega
        · split at p3
          · rename_i s
            split at p3
            · rename_i d l' hr hl'
              split at p3
              · rename_i nn hn
                refine ⟨_, .frz old, s, .frz d, ow6, ?_, ?_, hr, fun zz H4 ow7 => ?_⟩
                · exact List.mem_append_right _ (List.mem_append_right _ List.mem_cons_self)
                · exact List.mem_append_left _ List.mem_cons_self
                · exact setix_end b1 f3 (ow7.by fun z => by simp only [cnt_app, cnt_cons]; omega) hl' eu hn fun H' f5 ow8 => p3 σ H' (Agr.refl _ _) f5 ow8
              · exact p3.elim
            · exact p3.elim
          · exact p3.elim
      · exact p2.elim
    · exact p2.elim
  · exact p2.elim
theorem movs_ok {K : PySem.W.Frag} {H : Hp} {σ : L2.St} : ∀ {vs : List V} {as : List A} {rs : List R} {e e' : Env} {F : List En}, Fits σ e.sl → Boks σ vs as → Own K H (ents vs as ++ (live σ e.sl ++ F)) → e.movs as = some (rs, e') →
    Fits σ e'.sl ∧ vs.length = rs.length ∧ Own K H (itr vs rs ++ (live σ e'.sl ++ F))
  | _, _, _, e, _, F, f, .nil, ow, h => by
    simp only [Env.movs] at h
    cases h
    exact ⟨f, rfl, ow⟩
  | _, _, _, e, _, F, f, .cons (v := v) (a := a) (vs := vs) (as := as) hb t, ow, h => by
    simp only [Env.movs] at h
    split at h
    · rename_i r e1 h1
      split at h
      · rename_i rs e2 h2
        cases h
        obtain ⟨f1, ow1⟩ := mov_ok (F := ents vs as ++ F) f hb (ow.by fun x => by simp only [ents, cnt_app]; omega) h1
        obtain ⟨f2, l2, ow2⟩ := movs_ok (F := .it v r :: F) f1 t (ow1.by fun x => by simp only [cnt_app, cnt_cons]; omega) h2
        exact ⟨f2, congrArg (· + 1) l2, ow2.by fun x => by simp only [itr, cnt_app, cnt_cons]; omega⟩
      · cases h
    · cases h
theorem frzR_itz : ∀ {rs : List R} {ds : List D} (vs : List V), frzR? rs = some ds → itr vs rs = itz vs ds ∧ rs.length = ds.length
  | [], ds, vs, h => by
    cases h
    refine ⟨?_, rfl⟩
    cases vs <;> rfl
  | .frz d :: rs, ds, vs, h => by
    unfold frzR? at h
    obtain ⟨ds', h1, e⟩ := Option.map_eq_some_iff.mp h
    subst e
    refine ⟨?_, congrArg (· + 1) (frzR_itz [] h1).2⟩
    cases vs with
    | nil => rfl
    | cons v vs => exact congrArg (_ :: ·) (frzR_itz vs h1).1
  | .lst _ :: rs, ds, vs, h => by cases h
  | .dic _ :: rs, ds, vs, h => by cases h
  | .tup _ :: rs, ds, vs, h => by cases h
  | .obj _ _ :: rs, ds, vs, h => by cases h
/-- a tuple that is handed out -/
theorem ret_tup {es : List Expr} {ms : Exs} {x1 : Nat} {p : Pos} (hn : ms.len < 1000) (h : PA X es (tEvs X.K C Wx ms)) : PS X (.Return (some (.Tuple es x1 p)) pos) (tX X.K C Wx S.st (exec C (.ret (.tup ms)))) := (ps_ret (pe_tup h)).wk fun D σ H hq => by
  obtain ⟨e, F, fi, ow, p⟩ := hq
  rw [exec] at p
  have p := OK.out p
  rw [evR, Post.bind] at p
  refine ⟨e, F, fi, ow, (evs_len p).mono fun as e1 p1 vs H1 fi1 ow1 b1 => ?_⟩
  obtain ⟨le, p1⟩ := p1
  refine ⟨lt_line (by rw [b1.len, le]; exact hn), fun q hq => ?_⟩
  split at p1
  · rename_i rs e2 hz
    obtain ⟨f2, l2, ow2⟩ := movs_ok fi1 b1 ow1 hz
    refine p1 _ σ _ (Agr.refl _ _) f2 ?_
    unfold tupR
    cases hf : frzR? rs with
    | some ds =>
      obtain ⟨e3, e4⟩ := frzR_itz vs hf
      rw [e3] at ow2
      exact ow2.newT (fun _ => Nat.le_refl _) (by omega) hq
    | none => exact (ow2.cap (o := .tup vs) hq).closeR l2
  · exact p1.elim
theorem ret_ok {e : Expr} {m : Ex} (hm : ∀ ms, m ≠ .tup ms) (h : PE X e (tEv X.K C Wx m)) : PS X (.Return (some e) pos) (tX X.K C Wx S.st (exec C (.ret m))) := (ps_ret h).wk fun D σ H hq => by
  obtain ⟨e, F, fi, ow, p⟩ := hq
  rw [exec] at p
  have p := OK.out p
  have er : evR C m e = (ev C m e).bind fun x e1 => match e1.mov x with | some (r, e2) => .ok r e2 | none => .no := by
    cases m <;> first | rfl | exact absurd rfl (hm _)
  rw [er, Post.bind] at p
  refine ⟨e, F, fi, ow, p.mono fun a e1 p1 v H1 f1 ow1 b1 => ?_⟩
  split at p1
  · rename_i r e2 hz
    obtain ⟨f2, ow2⟩ := mov_ok f1 b1 ow1 hz
    exact p1 v σ H1 (Agr.refl _ _) f2 ow2
  · exact p1.elim
theorem if_ok {c : Expr} {a b : List Stmt} {mc : Ex} {ma mb : List Stm} (hc : PT X c (tTs X.K C Wx mc)) (ha : PSs X a (tX X.K C Wx S.st (execs C ma))) (hb : PSs X b (tX X.K C Wx S.st (execs C mb))) : PS X (.If c a b pos) (tX X.K C Wx S.st (exec C (.ifs mc ma mb))) := (ps_if hc ha hb).wk fun D σ H hq => by
  obtain ⟨e, F, fi, ow, p⟩ := hq
  rw [exec] at p
  refine ⟨e, F, fi, ow, (OK.out p).mono fun t e1 p1 H1 f1 ow1 => ?_⟩
  cases t with
  | true => exact ⟨e1, F, f1, ow1, p1⟩
  | false => exact ⟨e1, F, f1, ow1, p1⟩
theorem while_ok (g : Good X S C k Wx) {c : Expr} {b : List Stmt} {mc : Ex} {mb : List Stm} (hc : PT X c (tTs X.K C Wx mc)) (hb : PSs X b (tX X.K C Wx S.st (execs C mb))) : PS X (.While c b [] pos) (tX X.K C Wx S.st (exec C (.whl mc mb))) := (ps_while g.po hc hb).wk fun D σ H hq => by
  obtain ⟨e, F, fi, ow, p⟩ := hq
  rw [exec] at p
  let W : Nat → L2.St → Hp → Prop := fun m σ1 H1 => ∃ e, Agr S.st σ σ1 ∧ Fits σ1 e.sl ∧ Own X.K H1 (live σ1 e.sl ++ F) ∧ OK X.K C Wx S.st D σ1 F (wLoop (fun e => evT C mc e) (fun e => execs C mb e) m e)
  refine ⟨W, ⟨turns, e, Agr.refl _ _, fi, ow, p⟩, ?_⟩
  rintro m σ1 H1 ⟨e, ag, fi, ow, p⟩
  cases m with
  | zero => exact p.elim
  | succ m =>
    unfold wLoop at p
    refine ⟨e, F, fi, ow, (OK.out p).mono fun t e1 p1 H2 f1 ow1 => ?_⟩
    cases t with
    | false =>
      rw [if_neg Bool.false_ne_true] at p1 ⊢
      exact p1 σ1 H2 (Agr.refl _ _) f1 ow1
    | true =>
      rw [if_pos rfl] at p1 ⊢
      refine ⟨W m, fun σ' H' h => ⟨m, Nat.lt_succ_self _, h⟩, e1, F, f1, ow1, ?_⟩
      cases hr : execs C mb e1 with
      | nx e2 =>
        rw [hr] at p1
        exact fun σ' H' a f o => ⟨e2, ag.trans a, f, o, OK.shift a p1⟩
      | ct e2 =>
        rw [hr] at p1
        exact fun σ' H' a f o => ⟨e2, ag.trans a, f, o, OK.shift a p1⟩
      | bk e2 =>
        rw [hr] at p1
        exact p1
      | rt r e2 =>
        rw [hr] at p1
        exact p1
      | ex =>
        rw [hr] at p1
        exact p1
      | no =>
        rw [hr] at p1
        exact p1
theorem for_ok (g : Good X S C k Wx) {tg i : Expr} {b : List Stmt} {t : Tg} {mi : It} {mb : List Stm} (ht : trT S tg = some t) (hi : PI X tg i (tIt X.K C Wx mi)) (hb : PSs X b (tX X.K C Wx S.st (execs C mb))) (hs : ∀ x, foldedSetIterable i X.env x = pure x) : PS X (.For tg i b [] pos) (tX X.K C Wx S.st (exec C (.for_ t mi mb))) := by
  obtain ⟨a1, a2⟩ := pg_ok g ht
  refine (ps_for g.po g.calm hi a2 hb hs).wk fun D σ H hq => ?_
  obtain ⟨e, F, fi, ow, p⟩ := hq
  rw [exec] at p
  refine ⟨e, F, fi, ow, (OK.out p).mono fun ds e1 p1 J H1 G f1 ow1 hw => ?_⟩
  let W : Nat → Nat → L2.St → Hp → Prop := fun i m σ1 H1 => i + m = ds.length ∧ ∃ e, Agr S.st σ σ1 ∧ Fits σ1 e.sl ∧ Own X.K H1 (G ++ (live σ1 e.sl ++ F)) ∧ OK X.K C Wx S.st D σ1 F (fLoop (fun d e => stT t (.frz d) e) (fun e => execs C mb e) (ds.drop i) e)
  refine ⟨W, ⟨ds.length, Nat.zero_add _, e1, Agr.refl _ _, f1, ow1, p1⟩, ?_⟩
  rintro i m σ1 H1 ⟨him, e, ag, fi, ow, q⟩
  obtain ⟨w1, w2⟩ := hw i H1 (live σ1 e.sl ++ F) ow
  by_cases hi : i < ds.length
  · right
    have hd : ds[i]? = some ds[i] := List.getElem?_eq_getElem hi
    obtain ⟨w3, w4⟩ := w2 _ hd
    rw [List.drop_eq_getElem_cons hi] at q
    unfold fLoop at q
    refine ⟨w3, W (i + 1) (m - 1), fun σ' H' h => ⟨m - 1, by omega, h⟩, fun x H' hy => ?_⟩
    have ow2 := w4 x H' hy
    split at q
    · exact q.elim
    · rename_i e2 he2
      refine ⟨e, G ++ F, .frz ds[i], e2, fi, ow2.by fun z => by simp only [cnt_app, cnt_cons]; omega, he2, stT_st he2, fun σ2 H2 ag2 f2 ow3 => ?_⟩
      have ag2' := ag2.mono a1
      have wk : ∀ {σ' : L2.St} {H' : Hp} {e' : Env} {L : List En}, Own X.K H' (L ++ (live σ' e'.sl ++ (G ++ F))) → Own X.K H' (L ++ (live σ' e'.sl ++ F)) := fun h => h.by fun z => by simp only [cnt_app]; omega
      refine ⟨e2, G ++ F, f2, ow3, ?_⟩
      cases hr : execs C mb e2 with
      | nx e3 =>
        rw [hr] at q
        exact fun σ' H' a f o => ⟨by omega, e3, (ag.trans ag2').trans a, f, o.by fun z => by simp only [cnt_app]; omega, OK.shift (ag2'.trans a) q⟩
      | ct e3 =>
        rw [hr] at q
        exact fun σ' H' a f o => ⟨by omega, e3, (ag.trans ag2').trans a, f, o.by fun z => by simp only [cnt_app]; omega, OK.shift (ag2'.trans a) q⟩
      | bk e3 =>
        rw [hr] at q
        exact fun σ' H' a f o => q σ' H' (ag2'.trans a) f (wk (L := []) o)
      | rt r e3 =>
        rw [hr] at q
        exact fun v σ' H' a f o => q v σ' H' (ag2'.trans a) f (wk (L := [.it v r]) o)
      | ex x e3 =>
        rw [hr] at q
        exact fun σ' H' a f o => q σ' H' (ag2'.trans a) f (wk (L := []) o)
      | no =>
        rw [hr] at q
        exact q
  · left
    have hd : ds.drop i = [] := List.drop_eq_nil_of_le (by omega)
    rw [hd] at q
    unfold fLoop at q
    exact ⟨w1 (by omega), q σ1 H1 (Agr.refl _ _) fi (ow.by fun z => by simp only [cnt_app]; omega)⟩
theorem never_ok {st : Stmt} {m : Stm} (h : ∀ D σ H, ¬ tX X.K C Wx S.st (exec C m) D σ H) : PS X st (tX X.K C Wx S.st (exec C m)) := ps_never.wk fun D σ H hq => h D σ H hq
theorem fits_drop {σ : L2.St} {sl : List (Option R)} {i : Nat} (f : Fits σ sl) : Fits (σ.set i none) (sl.set i none) := by
  refine ⟨by rw [List.length_set, List.length_set]; exact f.len, fun j r h => ?_⟩
  by_cases e : i = j
  · subst e
    rw [List.getElem?_set] at h
    simp at h
  · rw [List.getElem?_set_ne e] at h ⊢
    exact f.has j r h
/-- raise x("..") -/
theorem raise_ok (g : Good X S C k Wx) {x m : Str} {j : Nat} {p p2 p3 : Pos} {a : Option Ex} (h : (if (S.cs.er.contains x && S.glb x && plainN x) = true then some (Stm.raise x none) else some (.raise x (some .nosl))) = some (.raise x a)) :
    PS X (.Raise (some (.Call (.Name x p) [.Constant (.str m) j p2] [] p3)) none pos) (tX X.K C Wx S.st (exec C (.raise x a))) := by
  split at h
  · rename_i hc
    cases h
    simp only [Bool.and_eq_true] at hc
    obtain ⟨⟨h1, h2⟩, h3⟩ := hc
    have E := g.mo.er.er x (by simpa using h1)
    refine (L2N.ps_raise g.calm g.tk (L2N.pmk_own PySem.F.excBase_ValueError E.ex E.at_ E.kp (raises_own E.sb E.ty) (glb_of g h2) (plain_of h3).2)).wk fun D σ H hq => ?_
    obtain ⟨e, F, fi, ow, p⟩ := hq
    rw [exec] at p
    exact p σ H (Agr.refl _ _) fi ow
  · cases h
    refine never_ok fun D σ H hq => ?_
    obtain ⟨e, F, fi, ow, p⟩ := hq
    rw [exec] at p
    exact p
/-- a block, its errors caught -/
theorem try_ok (g : Good X S C k Wx) (fr : X.stack = X.env :: X.outer ∧ X.env.frame = some X.env.locals ∧ X.ex = []) {b : List Stmt} {x mm c m2 : Str} {q1 q2 q3 q4 q5 : Pos} {z : List Stm} {i j : Nat} (hi : nmIx S mm = some i) (hj : nmIx S c = some j)
    (hb : ∀ (W : WX) (pn : List (Addr × Obj)) (xe : Value → Shared → Prop), Good (X.tr pn xe) S C k W → PSs (X.tr pn xe) b (tX X.K C W S.st (execs C z)))
    (hc : (S.cs.er.contains x && S.glb x && plainN x && decide (m2 = mm) && decide (i ≠ j) && decide (S.sc.names.lookup mm = some .local) && decide (S.sc.names.lookup c = some .local) && decide (x ≠ ("ValueError" : Str))) = true) :
    PS X (.Try b [.ExceptHandler (some (.Name x q1)) (some mm) [.Assign [.Name c q2] (.Name m2 q3) q4] q5] [] [] pos) (tX X.K C Wx S.st (exec C (.tryc z x i j))) := by
  simp only [Bool.and_eq_true, decide_eq_true_eq] at hc
  obtain ⟨⟨⟨⟨⟨⟨⟨h1, h2⟩, h3⟩, h4⟩, h5⟩, h6⟩, h7⟩, h8⟩ := hc
  subst h4
  obtain ⟨i1, i2, i3, i4⟩ := nmIx_ok g hi
  obtain ⟨j1, j2, j3, j4⟩ := nmIx_ok g hj
  have E := g.mo.er.er x (by simpa using h1)
  have hm : plainN m2 = true := by
    unfold nmIx at hi
    split at hi
    · assumption
    · cases hi
  unfold plainN at hm
  simp only [Bool.and_eq_true, Bool.not_eq_true'] at hm
  refine (ps_try_keep (i := i) (j := j) fr.1 fr.2.1 fr.2.2 (by rw [g.n]; exact g.nd) i2 j2 (by show X.env.scope.names.lookup m2 = _; rw [g.sc]; exact h6) (by rw [g.sc]; exact h7) hm.1 ⟨glb_of g h2, (plain_of h3).2, .inl E.at_⟩ g.tk fun W pn xe tk po => hb W pn xe ⟨g.n, g.nd, g.sc, g.calm, g.room, g.gd, g.st, tk, po, g.mo⟩).wk fun D σ H hq => ?_
  obtain ⟨e, F, fi, ow, p⟩ := hq
  rw [exec] at p
  refine ⟨e, F, fi, ow, ?_⟩
  cases hr : execs C z e with
  | nx e1 =>
    rw [hr] at p
    exact p
  | bk e1 =>
    rw [hr] at p
    exact p
  | ct e1 =>
    rw [hr] at p
    exact p
  | rt r e1 =>
    rw [hr] at p
    exact p
  | no =>
    rw [hr] at p
    exact p
  | ex y e1 =>
    rw [hr] at p
    unfold Out.caught at p
    simp only at p
    intro σ1 H1 ag f1 ow1
    split at p
    · rename_i hsub
      obtain ⟨s1, s3, s4⟩ := g.mo.er.sub _ _ _ hsub
      have s3' : PySem.W.subIn X.K (.ref (C.cl y.c)) (.ref (C.cl x)) = some true := by
        unfold cvE at s3
        rw [if_neg h8] at s3
        exact s3
      refine ⟨true, PySem.W.exm_ref E.sb E.ec.hd E.ty s3', fun _ => ⟨_, rfl, rfl, fun a ha => ?_⟩, fun z => nomatch z⟩
      have ow2 := ow1.newX (p := a) (c := C.cl y.c) (n := y.c) ha
      have f2 : Fits (σ1.set i none) (e1.set i none).sl := fits_drop f1
      obtain ⟨f3, ow3⟩ := own_nm (i := j) (v := .ref a) (r := .frz (.exc y.c (C.cl y.c))) (F := F) f2 (ow2.by fun z => by
        show cnt z (_ :: (live (σ1.set i none) (e1.sl.set i none) ++ F)) ≤ _
        rw [live_st]
        have := live_none_le (σ := σ1) (sl := e1.sl) (i := i) z
        simp only [cnt_cons, cnt_app]
        omega)
      have es : ((σ1.set i (some (.ref a))).set j (some (.ref a))).set i none = (σ1.set i none).set j (some (.ref a)) := by
        rw [List.set_comm _ _ h5, List.set_set, List.set_comm _ _ (Ne.symm h5)]
      rw [es]
      exact p _ _ ((ag.trans (Agr.set i1)).trans (Agr.set j1)) f3 ow3
    · rename_i hsub
      obtain ⟨s1, s3, s4⟩ := g.mo.er.sub _ _ _ hsub
      have s3' : PySem.W.subIn X.K (.ref (C.cl y.c)) (.ref (C.cl x)) = some false := by
        unfold cvE at s3
        rw [if_neg h8] at s3
        exact s3
      exact ⟨false, PySem.W.exm_ref E.sb E.ec.hd E.ty s3', fun z => (nomatch z), fun _ => p σ1 H1 ag f1 ow1⟩
    · exact p.elim
theorem S_ok (hk : S.sc.kind = .function) (en : Nat) : ∀ (n : Nat) {X : Cx} {Wx : WX} (g : Good X S C k Wx) (fr : X.stack = X.env :: X.outer ∧ X.env.frame = some X.env.locals ∧ X.ex = []) (s : Stmt) (m : Stm), trS en S n s = some m → PS X s (tX X.K C Wx S.st (exec C m))
  | 0, _, _, _, _, _, _, h => by simp [trS] at h
  | n + 1, X, Wx, g, fr, s, m, h => by
    have hv : ∀ e m, tr en S e = some m → PE X e (tEv X.K C Wx m) := fun e m h => (tr_ok en X S C k Wx g e m h).1
    have hp : ∀ e m, tr en S e = some m → PT X e (tTs X.K C Wx m) := fun e m h => (tr_ok en X S C k Wx g e m h).2
    have ih := S_ok hk en n g fr
    unfold trS at h
    split at h
    · split at h
      · rename_i hs
        obtain ⟨x, h1, e⟩ := Option.map_eq_some_iff.mp h
        subst e
        refine (ps_expr (hv _ _ h1) (by rename_i e _; cases e <;> first | rfl | cases hs)).wk fun D σ H hq => ?_
        obtain ⟨e, F, fi, ow, p⟩ := hq
        rw [exec] at p
        exact ⟨e, F, fi, ow, (OK.out p).mono fun a e1 p1 v H1 f1 ow1 b1 => p1 σ H1 (Agr.refl _ _) f1 ow1.dropL⟩
      · cases h
    · exact A_ok g hk en h
    · split at h
      · rename_i h1 h2 h3
        cases h
        rw [← bop_unB h2]
        exact aug_ok g h1 (hv _ _ h3)
      · cases h
    · split at h
      · rename_i h1 h2 h3 h4 h5
        cases h
        rw [← bop_unB h4]
        exact augix_ok h1 (hv _ _ h2) (hv _ _ h3) (hv _ _ h5)
      · cases h
    · split at h
      · rename_i hl
        obtain ⟨ms, h1, e⟩ := Option.map_eq_some_iff.mp h
        subst e
        exact ret_tup (by rw [trL_len h1]; exact hl) (s_args hv h1)
      · cases h
    · obtain ⟨x, h1, h2⟩ := Option.bind_eq_some_iff.mp h
      split at h2
      · cases h2
      · rename_i hn
        cases h2
        exact ret_ok (fun ms e => hn ms e) (hv _ _ h1)
    · cases h
      refine ps_retN.wk fun D σ H hq => ?_
      obtain ⟨e, F, fi, ow, p⟩ := hq
      rw [exec] at p
      exact p .non σ H (Agr.refl _ _) fi ow.non
    · split at h
      · rename_i h1 h2 h3
        cases h
        exact if_ok (hp _ _ h1) (ss_ok ih h2) (ss_ok ih h3)
      · cases h
    · split at h
      · rename_i h1 h2
        cases h
        exact while_ok g (hp _ _ h1) (ss_ok ih h2)
      · cases h
    · split at h
      · rename_i h1 h2 h3
        cases h
        exact for_ok g h1 (s_it g hv h2) (ss_ok ih h3) (trI_fold h2 X.env)
      · cases h
    · cases h
      refine ps_pass.wk fun D σ H hq => ?_
      obtain ⟨e, F, fi, ow, p⟩ := hq
      rw [exec] at p
      exact p σ H (Agr.refl _ _) fi ow
    · cases h
      refine ps_break.wk fun D σ H hq => ?_
      obtain ⟨e, F, fi, ow, p⟩ := hq
      rw [exec] at p
      exact p σ H (Agr.refl _ _) fi ow
    · cases h
      refine ps_continue.wk fun D σ H hq => ?_
      obtain ⟨e, F, fi, ow, p⟩ := hq
      rw [exec] at p
      exact p σ H (Agr.refl _ _) fi ow
    · split at h
      · have h' := h
        split at h'
        · cases h'
          exact raise_ok g h
        · cases h'
          exact raise_ok g h
      · cases h
        refine never_ok fun D σ H hq => ?_
        obtain ⟨e, F, fi, ow, p⟩ := hq
        rw [exec] at p
        exact p
    · split at h
      · rename_i h1 h2 h3
        split at h
        · rename_i hc
          cases h
          exact try_ok g fr h1 h2 (fun W pn xe g2 => ss_ok (S_ok hk en n g2 fr) h3) hc
        · cases h
      · cases h
    · cases h
end
end Lp

end
section
/-! LpD3: defs by their bodies; levels. -/
namespace Lp
open PySem PySem.Spec PyProof.Rows L2
section
variable {P : Program} {w : World} {K : PySem.W.Frag} {mg : Str → Option Value} {base : Heap} {C : Calls} {k : Nat} {fns gl : List Str} {cs : CS}
theorem FnG.mono {f : Addr} {fd : FuncData} {ps : List Str} {sp : Sp} {j : Nat} (F : FnG P w K mg base j f fd ps sp) (h : j ≤ k) : FnG P w K mg base k f fd ps sp :=
  ⟨F.len, fun A outer s H args us vs Q E hg hr => F.run A outer s H args us vs Q E hg (hr.mono h)⟩
/-- a def by its body, where no text of things is being made -/
theorem fng_of {f : Addr} {name qual : Str} {params : Arguments} {body : List Stmt} {scope : Scope} {dV kV doc pm cdv ct oc : Value} {an od : Option Addr} {osl : Array (Option Value)} {N ps : List Str} {sp : Sp}
    (lk : K.lookup f = some ⟨oc, od, .func (PySem.W.fnOf name qual params body scope dV kV doc pm an cdv ct), osl⟩) (hcd : PySem.W.codeIn K cdv qual = true) (S : FnScope N ps scope) (len : ∀ vs H Q E, sp vs H Q E → vs.length = ps.length)
    (hbody : ∀ (A : Around) (outer : List PySem.Env) (s : Shared) (H : Hp) (vs : List V) (Q : VK) (E : XK), A.guards = some [] → Room k (A.deeper (envOfC qual scope s.heap.objs.size f cdv)) → sp vs H Q E →
      ∃ t, PSs (cxOf (L2N.CX P w) P w K mg base N qual scope f cdv A outer s H E) body t ∧ t { nx := fun _ H' => Q .non H', rt := Q } (start N vs) H) : FnG P w K mg base (k + 1) f (PySem.W.fnOf name qual params body scope dV kV doc pm an cdv ct) ps sp := by
  refine ⟨len, fun A outer s H args us vs Q E hg hr e0 hb r hsp => ?_⟩
  have hl := len _ _ _ _ hsp
  have kin : K.In s.heap := e0.mod.kin.keeps fun b o e => (e0.bs b o e).1
  have nl : s.heap.NoLimit := e0.mod.nolimit.keeps fun b o e => (e0.bs b o e).1
  have kinds : ∀ y ∈ ps.zip us, scope.names.lookup y.1 = some .local ∨ (scope.names.lookup y.1 = some .cell ∧ ((cellsFrom (s.heap.objs.size + 1) scope.names []).lookup y.1).isSome = true) := by
    rintro ⟨n, v⟩ hy
    rcases S.par n (List.of_mem_zip hy).1 with q | q
    · exact .inl q
    · exact .inr ⟨q, PySem.W.cellsFrom_some _ _ _ (.inl q)⟩
  refine codeAny_call_function hr.depth (kin _ _ lk) rfl S.co S.gen rfl (PySem.W.codeRec_of kin hcd) (hb _ _ _ _ ?_)
  refine wpAny_newFunctionEnv_cells S.kind kinds fun env he s1 x => ?_
  subst he
  refine ⟨nl.keeps x.toInCall.keep, codeAny_func ?_⟩
  obtain ⟨t, ht, hq⟩ := hbody A outer s H vs Q E hg (hr.deeper _) hsp
  have I : Inv (cxOf (L2N.CX P w) P w K mg base N qual scope f cdv A outer s H E) [] (start N vs) H s1 := inv_start S hr.hd e0 hl r x
  refine wpAny_mono (ht.run [] s1 (start N vs) H _ I hq) (fun fl s' hs => ?_) fun e s' hs => hs
  cases fl with
  | ret u =>
    obtain ⟨v, σ', H', J, rv, q⟩ := hs
    exact ⟨v, H', J.os, J.bare, J.base, J.hok, rv, q⟩
  | next =>
    obtain ⟨σ', H', J, q⟩ := hs
    exact ⟨.non, H', J.os, J.bare, J.base, J.hok, rfl, q⟩
  | brk =>
    obtain ⟨_, _, _, q⟩ := hs
    exact q.elim
  | cont =>
    obtain ⟨_, _, _, q⟩ := hs
    exact q.elim

/-! ### a def in the small syntax -/
/-- what is looked at of a def's text: names, scope, body -/
structure DefC where
  ps : List Str
  N : List Str
  st : List Nat
def scOf (d : DefC) (scope : Scope) (fns gl : List Str) (cs : CS) : SC := ⟨d.N, scope, d.st, fns, gl, cs⟩
/-- the places that may be stored: names of the def's own -/
def stOk (d : DefC) (scope : Scope) : Bool := d.st.all fun i => match d.N[i]? with
  | some x => decide (scope.names.lookup x = some .local) || decide (scope.names.lookup x = some .cell)
  | none => true
theorem good_of {qual : Str} {scope : Scope} {f : Addr} {cdv : Value} {A : Around} {outer : List PySem.Env} {s : Shared} {H : Hp} {E : XK} {d : DefC} (S : FnScope d.N d.ps scope) (ho : stOk d scope = true) (hg : A.guards = some []) (hr : Room k (A.deeper (envOfC qual scope s.heap.objs.size f cdv))) (mo : Mo P w K mg base C k fns gl cs) :
    Good (cxOf (L2N.CX P w) P w K mg base d.N qual scope f cdv A outer s H E) (scOf d scope fns gl cs) C k (fun cls d _ H => E cls d H) where
  n := rfl
  nd := S.nd
  sc := rfl
  calm := rfl
  room := hr
  gd := hg
  st := by
    intro i hi x hx
    have q := List.all_eq_true.mp ho i hi
    have hx : d.N[i]? = some x := hx
    rw [hx] at q
    rw [Bool.or_eq_true, decide_eq_true_eq, decide_eq_true_eq] at q
    exact ⟨q, .inl rfl⟩
  tk := L2N.takes_of rfl rfl rfl rfl
  po := passes_of rfl
  mo := mo
theorem given_at {refs : List Nat} {sl : List (Option R)} : ∀ {n j i : Nat} {r : R}, (given refs sl j n)[i]? = some (some r) → i < n ∧ (j + i) ∈ refs ∧ sl[j + i]? = some (some r)
  | 0, _, _, _, h => by simp [given] at h
  | n + 1, j, 0, r, h => by
    simp only [given, List.getElem?_cons_zero, Option.some.injEq] at h
    split at h
    · rename_i hc
      refine ⟨Nat.succ_pos _, by simpa using hc, ?_⟩
      cases q : sl[j]? with
      | none =>
        rw [q] at h
        cases h
      | some z =>
        rw [q] at h
        exact congrArg some h
    · cases h
  | n + 1, j, i + 1, r, h => by
    simp only [given, List.getElem?_cons_succ] at h
    obtain ⟨h1, h2, h3⟩ := given_at h
    exact ⟨by omega, by rw [show j + (i + 1) = j + 1 + i by omega]; exact h2, by rw [show j + (i + 1) = j + 1 + i by omega]; exact h3⟩
theorem given_len {refs : List Nat} {sl : List (Option R)} : ∀ {n j : Nat}, (given refs sl j n).length = n
  | 0, _ => rfl
  | n + 1, j => congrArg (· + 1) (given_len (n := n) (j := j + 1))
/-- what is handed back is what the names hold -/
theorem live_given {refs : List Nat} : ∀ {n : Nat} {vs : List V} {σ : L2.St} {sl : List (Option R)} (pre : List (Option V)) (psl : List (Option R)) (x : En), pre.length = psl.length → vs.length = n → (∀ i, i < n → pre.length + i ∈ refs → σ[i]? = some (vs[i]?)) →
    cnt x (live (vs.map some) (given refs (psl ++ sl) pre.length n)) ≤ cnt x (live σ sl)
  | 0, vs, σ, sl, pre, psl, x, _, e, _ => by
    rw [show given refs (psl ++ sl) pre.length 0 = [] from rfl, live_nil]
    exact Nat.zero_le _
  | n + 1, [], _, _, _, _, _, _, e, _ => by cases e
  | n + 1, v :: vs, σ, sl, pre, psl, x, hp, e, h => by
    cases sl with
    | nil =>
      have all : ∀ (n j : Nat), psl.length ≤ j → given refs (psl ++ []) j n = List.replicate n none := by
        intro n
        induction n with
        | zero => exact fun _ _ => rfl
        | succ n ih =>
          intro j hj
          show (if refs.contains j then (((psl ++ ([] : List (Option R)))[j]?).join) else none) :: given refs (psl ++ []) (j + 1) n = _
          rw [ih (j + 1) (by omega), List.getElem?_eq_none (by simpa using hj)]
          rw [List.replicate_succ]
          split <;> rfl
      rw [all _ _ (by omega)]
      have dead : ∀ (n : Nat) (l : List (Option V)), live l (List.replicate n none) = [] := by
        intro n
        induction n with
        | zero => exact fun l => live_nil l
        | succ n ih =>
          intro l
          cases l with
          | nil => rfl
          | cons a l => cases a <;> exact ih l
      rw [dead]
      exact Nat.zero_le _
    | cons t sl =>
      have hat : (psl ++ t :: sl)[pre.length]? = some t := by
        rw [hp, List.getElem?_append_right (Nat.le_refl _), Nat.sub_self]
        rfl
      have nxt : given refs (psl ++ t :: sl) (pre.length + 1) n = given refs ((psl ++ [t]) ++ sl) (pre ++ [some v]).length n := by
        rw [List.length_append, List.append_assoc]
        rfl
      have ih : ∀ σ' : L2.St, (∀ i, i < n → pre.length + 1 + i ∈ refs → σ'[i]? = some (vs[i]?)) → cnt x (live (vs.map some) (given refs (psl ++ t :: sl) (pre.length + 1) n)) ≤ cnt x (live σ' sl) := fun σ' h' => by
        rw [nxt]
        exact live_given (pre ++ [some v]) (psl ++ [t]) x (by rw [List.length_append, List.length_append, hp]; rfl) (Nat.succ.inj e) fun i hi hr => h' i hi (by rw [List.length_append] at hr; exact hr)
      show cnt x (live (some v :: vs.map some) ((if refs.contains pre.length then (((psl ++ t :: sl)[pre.length]?).join) else none) :: given refs (psl ++ t :: sl) (pre.length + 1) n)) ≤ _
      rw [hat]
      cases σ with
      | nil =>
        have ih0 := ih [] fun i hi hr => by
          have := h (i + 1) (by omega) (by rw [show pre.length + (i + 1) = pre.length + 1 + i by omega]; exact hr)
          simp at this
        have e0 : cnt x (live ([] : L2.St) sl) = 0 := by cases sl <;> rfl
        have e1 : cnt x (live ([] : L2.St) (t :: sl)) = 0 := rfl
        split
        · rename_i hc
          have := h 0 (Nat.succ_pos _) (by simpa using hc)
          simp at this
        · show cnt x (live (vs.map some) _) ≤ _
          omega
      | cons s σ =>
        have ih0 := ih σ fun i hi hr => by
          have := h (i + 1) (by omega) (by rw [show pre.length + (i + 1) = pre.length + 1 + i by omega]; exact hr)
          simpa using this
        split
        · rename_i hc
          have h0 := h 0 (Nat.succ_pos _) (by simpa using hc)
          simp at h0
          subst h0
          cases t with
          | none =>
            show cnt x (live (vs.map some) _) ≤ cnt x (live σ sl)
            exact ih0
          | some t =>
            show one x _ + cnt x (live (vs.map some) _) ≤ one x _ + cnt x (live σ sl)
            omega
        · show cnt x (live (vs.map some) _) ≤ _
          cases s with
          | none => exact ih0
          | some s =>
            cases t with
            | none => exact ih0
            | some t =>
              show _ ≤ one x _ + cnt x (live σ sl)
              omega
theorem start_live : ∀ {vs : List V} {rs : List R} {m : Nat}, vs.length = rs.length → live (vs.map some ++ List.replicate m none) (rs.map some ++ List.replicate m none) = itr vs rs
  | [], [], m, _ => by
    show live (List.replicate m none) (List.replicate m none) = []
    induction m with
    | zero => rfl
    | succ m ih => exact ih
  | v :: vs, r :: rs, m, h => congrArg (_ :: ·) (start_live (Nat.succ.inj h))
  | [], _ :: _, _, h => nomatch h
  | _ :: _, [], _, h => nomatch h
/-- a def does what the small syntax says -/
theorem def_ok {f : Addr} {name qual : Str} {params : Arguments} {body : List Stmt} {scope : Scope} {dV kV doc pm cdv ct oc : Value} {an od : Option Addr} {osl : Array (Option Value)} {d : DefC} {Fd : Fn} {run : List R → List R → CR}
    (lk : K.lookup f = some ⟨oc, od, .func (PySem.W.fnOf name qual params body scope dV kV doc pm an cdv ct), osl⟩) (hcd : PySem.W.codeIn K cdv qual = true) (S : FnScope d.N d.ps scope) (ho : stOk d scope = true)
    (hb : trLs (trS 60 (scOf d scope fns gl cs) 60) body = some Fd.body) (hn : Fd.np = d.ps.length) (hs : Fd.ns = d.N.length) (hr : Fd.refs.all (fun j => !d.st.contains j) = true) (mo : Mo P w K mg base C k fns gl cs) (hC : run = Fd.run C) :
    FnG P w K mg base (k + 1) f (PySem.W.fnOf name qual params body scope dV kV doc pm an cdv ct) d.ps (spR K C.cl run) := by
  refine fng_of lk hcd S (fun vs H Q E h => ?_) fun A outer s H vs Q E hg hroom hsp => ?_
  · obtain ⟨rs, st, F, _, h1, h2⟩ := h
    rw [hC] at h2
    unfold Fn.run at h2
    by_cases hh : rs.length = Fd.np
    · rw [h1, hh, hn]
    · rw [if_neg hh] at h2
      exact h2.elim
  · obtain ⟨rs, st, F, ow, h1, h2⟩ := hsp
    rw [hC] at h2
    unfold Fn.run at h2
    by_cases hh : rs.length = Fd.np
    · rw [if_pos hh] at h2
      have g : Good (cxOf (L2N.CX P w) P w K mg base d.N qual scope f cdv A outer s H E) (scOf d scope fns gl cs) C k (fun cls d _ H => E cls d H) := good_of S ho hg hroom mo
      refine ⟨_, ss_ok (S_ok S.kind 60 60 g ⟨rfl, rfl, rfl⟩) hb, ⟨rs.map some ++ List.replicate (Fd.ns - Fd.np) none, st⟩, F, ?_, ?_, ?_⟩
      · refine ⟨?_, fun i r hi => ?_⟩
        · show (start d.N vs).length = _
          unfold L2.start
          simp only [List.length_append, List.length_map, List.length_replicate]
          omega
        · show ∃ v, (start d.N vs)[i]? = some (some v)
          unfold L2.start
          by_cases hl : i < rs.length
          · rw [List.getElem?_append_left (by simpa using (by omega : i < vs.length)), List.getElem?_map, List.getElem?_eq_getElem (by omega : i < vs.length)]
            exact ⟨_, rfl⟩
          · rw [List.getElem?_append_right (by simpa using hl), List.getElem?_replicate] at hi
            split at hi <;> cases hi
      · show Own K H (live (start d.N vs) _ ++ F)
        have e : start d.N vs = vs.map some ++ List.replicate (Fd.ns - Fd.np) none := by
          unfold L2.start
          rw [hn, hs, h1, hh, hn]
        rw [e, start_live h1]
        exact ow
      · -- what is handed back
        have back : ∀ {σ' : L2.St} {e' : Env} (x : En), Agr d.st (start d.N vs) σ' → cnt x (live (vs.map some) (given Fd.refs e'.sl 0 Fd.np)) ≤ cnt x (live σ' e'.sl) := by
          intro σ' e' x ag
          have := live_given (refs := Fd.refs) (n := Fd.np) (vs := vs) (σ := σ') (sl := e'.sl) [] [] x rfl (by omega) fun i hi hrf => by
            have hrf : i ∈ Fd.refs := by simpa using hrf
            have hno : i ∉ d.st := by
              have := List.all_eq_true.mp hr i hrf
              simpa using this
            rw [ag.at_ i hno]
            unfold L2.start
            rw [List.getElem?_append_left (by rw [List.length_map]; omega), List.getElem?_map, List.getElem?_eq_getElem (by omega : i < vs.length)]
            rfl
          exact this
        cases hx : execs C Fd.body ⟨rs.map some ++ List.replicate (Fd.ns - Fd.np) none, st⟩ with
        | nx e =>
          rw [hx] at h2
          exact fun σ' H' ag fi ow2 => h2 .non H' ((ow2.non).by fun x => by
            have := back (e' := e) x ag
            simp only [cnt_app, cnt_cons]
            omega)
        | rt r e =>
          rw [hx] at h2
          exact fun v σ' H' ag fi ow2 => h2 v H' (ow2.by fun x => by
            have := back (e' := e) x ag
            simp only [cnt_app, cnt_cons]
            omega)
        | bk e =>
          rw [hx] at h2
          exact h2.elim
        | ct e =>
          rw [hx] at h2
          exact h2.elim
        | ex y e =>
          rw [hx] at h2
          exact fun σ' H' ag fi ow2 => h2 H' (ow2.by fun x => by
            have := back (e' := e) x ag
            simp only [cnt_app]
            omega)
        | no =>
          rw [hx] at h2
          exact h2.elim
    · rw [if_neg hh] at h2
      exact h2.elim
end
end Lp

end
section
/-! LpD4: texts held against one another; all defs of a law; the law's end. -/
namespace Lp
open PySem PySem.Spec PyProof.Rows L2
def qD : D → D → Bool
  | .non, .non => true
  | .bl a, .bl b => decide (a = b)
  | .int a, .int b => decide (a = b)
  | .str a, .str b => decide (a = b)
  | _, _ => false
theorem qD_eq : ∀ {a b : D}, qD a b = true → a = b := by
  intro a b h
  cases a <;> cases b <;> first | (cases h; done) | rfl | (exact congrArg _ (of_decide_eq_true h))
mutual
def qTg : Tg → Tg → Bool
  | .nm i, .nm j => decide (i = j)
  | .tp a, .tp b => qTgs a b
  | .ls a, .ls b => qTgs a b
  | _, _ => false
def qTgs : Tgs → Tgs → Bool
  | .nil, .nil => true
  | .cons a r, .cons b s => qTg a b && qTgs r s
  | _, _ => false
end
mutual
theorem qTg_eq : ∀ {a b : Tg}, qTg a b = true → a = b
  | .nm i, .nm j, h => congrArg _ (of_decide_eq_true (by simpa only [qTg] using h))
  | .tp a, .tp b, h => congrArg _ (qTgs_eq (by simpa only [qTg] using h))
  | .ls a, .ls b, h => congrArg _ (qTgs_eq (by simpa only [qTg] using h))
  | .nm _, .tp _, h => by simp [qTg] at h
  | .nm _, .ls _, h => by simp [qTg] at h
  | .tp _, .nm _, h => by simp [qTg] at h
  | .tp _, .ls _, h => by simp [qTg] at h
  | .ls _, .nm _, h => by simp [qTg] at h
  | .ls _, .tp _, h => by simp [qTg] at h
theorem qTgs_eq : ∀ {a b : Tgs}, qTgs a b = true → a = b
  | .nil, .nil, _ => rfl
  | .cons a r, .cons b s, h => by
    simp only [qTgs, Bool.and_eq_true] at h
    rw [qTg_eq h.1, qTgs_eq h.2]
  | .nil, .cons _ _, h => by simp [qTgs] at h
  | .cons _ _, .nil, h => by simp [qTgs] at h
end
mutual
def qE : Ex → Ex → Bool
  | .var i, .var j => decide (i = j)
  | .cst a, .cst b => qD a b
  | .glob x, .glob y => decide (x = y)
  | .bin o a b, .bin p c d => decide (o = p) && qE a c && qE b d
  | .neg a, .neg b => qE a b
  | .not a, .not b => qE a b
  | .cmp o a b, .cmp p c d => decide (o = p) && qE a c && qE b d
  | .chain o p a b c, .chain o' p' a' b' c' => decide (o = o') && decide (p = p') && qE a a' && qE b b' && qE c c'
  | .and a b, .and c d => qE a c && qE b d
  | .or a b, .or c d => qE a c && qE b d
  | .ite a b c, .ite d e f => qE a d && qE b e && qE c f
  | .tup a, .tup b => qEs a b
  | .lst a, .lst b => qEs a b
  | .dct a b, .dct c d => qEs a c && qEs b d
  | .ix a b, .ix c d => qE a c && qE b d
  | .sl a b c, .sl d e f => qE a d && qE b e && qE c f
  | .nosl, .nosl => true
  | .rev a, .rev b => qE a b
  | .isi a t, .isi b u => qE a b && decide (t = u)
  | .bi x a, .bi y b => decide (x = y) && qEs a b
  | .mt m a b, .mt n c d => decide (m = n) && qE a c && qEs b d
  | .call x a, .call y b => decide (x = y) && qEs a b
  | .lc o t i c x, .lc o' t' i' c' x' => decide (o = o') && qTg t t' && qI i i' && qE c c' && qE x x'
  | .lc2 o t i c p t1 i1 c1 x, .lc2 o' t' i' c' p' t1' i1' c1' x' => decide (o = o') && qTg t t' && qI i i' && qE c c' && decide (p = p') && qTg t1 t1' && qI i1 i1' && qE c1 c1' && qE x x'
  | .rg t a b, .rg u c d => decide (t = u) && qE a c && qE b d
  | .upd a b, .upd c d => qE a c && qE b d
  | .fld x a f, .fld y b g => decide (x = y) && decide (f = g) && qE a b
  | .mth x m f a es, .mth y n g b fs => decide (x = y) && decide (m = n) && decide (f = g) && qE a b && qEs es fs
  | .new x f a, .new y g b => decide (x = y) && decide (f = g) && qEs a b
  | .isx a t, .isx b u => qE a b && decide (t = u)
  | .callt x i a, .callt y j b => decide (x = y) && qE i j && qEs a b
  | _, _ => false
def qEs : Exs → Exs → Bool
  | .nil, .nil => true
  | .cons a r, .cons b s => qE a b && qEs r s
  | _, _ => false
def qI : It → It → Bool
  | .sq a, .sq b => qE a b
  | .rg1 a, .rg1 b => qE a b
  | .rg2 a b, .rg2 c d => qE a c && qE b d
  | .en a, .en b => qE a b
  | .zp a b, .zp c d => qE a c && qE b d
  | _, _ => false
end
mutual
theorem qE_eq : ∀ (a b : Ex), qE a b = true → a = b := by
  intro a b h
  cases a <;> cases b <;> first
    | (simp only [qE] at h; cases h; done)
    | rfl
    | (simp only [qE, Bool.and_eq_true, decide_eq_true_eq] at h
       first
         | (subst h; rfl)
         | exact congrArg _ (qD_eq h)
         | exact congrArg _ (qE_eq _ _ h)
         | exact congrArg _ (qEs_eq _ _ h)
         | (rw [qE_eq _ _ h.1, qE_eq _ _ h.2])
         | (rw [qEs_eq _ _ h.1, qEs_eq _ _ h.2])
         | (rw [qE_eq _ _ h.1.1, qE_eq _ _ h.1.2, qE_eq _ _ h.2])
         | (rw [h.1.1, qE_eq _ _ h.1.2, qE_eq _ _ h.2])
         | (rw [h.1, qEs_eq _ _ h.2])
         | (rw [qE_eq _ _ h.1, h.2])
         | (rw [h.1.1, qE_eq _ _ h.1.2, qEs_eq _ _ h.2])
         | (rw [h.1.1.1.1, h.1.1.1.2, qE_eq _ _ h.1.1.2, qE_eq _ _ h.1.2, qE_eq _ _ h.2])
         | (rw [h.1.1.1.1, h.1.1.1.2, h.1.1.2, qE_eq _ _ h.1.2, qEs_eq _ _ h.2])
         | (rw [h.1.1, h.1.2, qE_eq _ _ h.2])
         | (rw [h.1.1, h.1.2, qEs_eq _ _ h.2])
         | (rw [h.1.1.1.1, qTg_eq h.1.1.1.2, qI_eq _ _ h.1.1.2, qE_eq _ _ h.1.2, qE_eq _ _ h.2])
         | (rw [h.1.1.1.1.1.1.1.1, qTg_eq h.1.1.1.1.1.1.1.2, qI_eq _ _ h.1.1.1.1.1.1.2, qE_eq _ _ h.1.1.1.1.1.2, h.1.1.1.1.2, qTg_eq h.1.1.1.2, qI_eq _ _ h.1.1.2, qE_eq _ _ h.1.2, qE_eq _ _ h.2]))
theorem qEs_eq : ∀ (a b : Exs), qEs a b = true → a = b := by
  intro a b h
  cases a <;> cases b <;> first
    | (simp only [qEs] at h; cases h; done)
    | rfl
    | (simp only [qEs, Bool.and_eq_true] at h
       rw [qE_eq _ _ h.1, qEs_eq _ _ h.2])
theorem qI_eq : ∀ (a b : It), qI a b = true → a = b := by
  intro a b h
  cases a <;> cases b <;> first
    | (simp only [qI] at h; cases h; done)
    | (simp only [qI, Bool.and_eq_true] at h
       first
         | (rw [qE_eq _ _ h])
         | (rw [qE_eq _ _ h.1, qE_eq _ _ h.2]))
end
def qO : Option Ex → Option Ex → Bool
  | none, none => true
  | some a, some b => qE a b
  | _, _ => false
theorem qO_eq {a b : Option Ex} (h : qO a b = true) : a = b := by
  cases a <;> cases b <;> first
    | rfl
    | (cases h; done)
    | exact congrArg _ (qE_eq _ _ h)
mutual
def qS : Stm → Stm → Bool
  | .expr a, .expr b => qE a b
  | .set t a, .set u b => qTg t u && qE a b
  | .setix a b c, .setix d e f => qE a d && qE b e && qE c f
  | .augix a b o c, .augix d e p f => qE a d && qE b e && decide (o = p) && qE c f
  | .aug i o a, .aug j p b => decide (i = j) && decide (o = p) && qE a b
  | .ret a, .ret b => qE a b
  | .ret0, .ret0 => true
  | .ifs a b c, .ifs d e f => qE a d && qSs b e && qSs c f
  | .whl a b, .whl d e => qE a d && qSs b e
  | .for_ t i b, .for_ u j e => qTg t u && qI i j && qSs b e
  | .pass, .pass => true
  | .brk, .brk => true
  | .cont, .cont => true
  | .raise c a, .raise d b => decide (c = d) && qO a b
  | .par a b, .par c d => decide (a = c) && qEs b d
  | .tryc a c i j, .tryc b d k l => qSs a b && decide (c = d) && decide (i = k) && decide (j = l)
  | .setf x i f a, .setf y j g b => decide (x = y) && decide (i = j) && decide (f = g) && qE a b
  | _, _ => false
def qSs : List Stm → List Stm → Bool
  | [], [] => true
  | a :: r, b :: s => qS a b && qSs r s
  | _, _ => false
end
mutual
theorem qS_eq : ∀ (a b : Stm), qS a b = true → a = b := by
  intro a b h
  cases a <;> cases b <;> first
    | (simp only [qS] at h; cases h; done)
    | rfl
    | (simp only [qS, Bool.and_eq_true, decide_eq_true_eq] at h
       first
         | (rw [qE_eq _ _ h])
         | (rw [qTg_eq h.1, qE_eq _ _ h.2])
         | (rw [qE_eq _ _ h.1.1, qE_eq _ _ h.1.2, qE_eq _ _ h.2])
         | (rw [qE_eq _ _ h.1.1.1, qE_eq _ _ h.1.1.2, h.1.2, qE_eq _ _ h.2])
         | (rw [h.1.1, h.1.2, qE_eq _ _ h.2])
         | (rw [qE_eq _ _ h.1.1, qSs_eq _ _ h.1.2, qSs_eq _ _ h.2])
         | (rw [qE_eq _ _ h.1, qSs_eq _ _ h.2])
         | (rw [qTg_eq h.1.1, qI_eq _ _ h.1.2, qSs_eq _ _ h.2])
         | (rw [h.1, qO_eq h.2])
         | (rw [h.1, qEs_eq _ _ h.2])
         | (rw [h.1.1.1, h.1.1.2, h.1.2, qE_eq _ _ h.2])
         | (rw [qSs_eq _ _ h.1.1.1, h.1.1.2, h.1.2, h.2]))
theorem qSs_eq : ∀ (a b : List Stm), qSs a b = true → a = b
  | [], [], _ => rfl
  | a :: r, b :: s, h => by
    simp only [qSs, Bool.and_eq_true] at h
    rw [qS_eq _ _ h.1, qSs_eq _ _ h.2]
  | [], _ :: _, h => by simp [qSs] at h
  | _ :: _, [], h => by simp [qSs] at h
end
/-- a look at a def's text -/
def chkDef (st : Stmt) (d : DefC) (F : Fn) (fns gl : List Str) (cs : CS) : Bool :=
  C8.scC d.N d.ps (defScope st) && stOk d (defScope st) && (match trLs (trS 60 (scOf d (defScope st) fns gl cs) 60) (defBody st) with | some b => qSs b F.body | none => false) && decide (F.np = d.ps.length) && decide (F.ns = d.N.length) && F.refs.all (fun j => !d.st.contains j)
section
variable {P : Program} {w : World} {K : PySem.W.Frag} {mg : Str → Option Value} {base : Heap}
/-- a def of the law's text, as it stands behind the top; at_ tells how it is found -/
structure DefAt (K : PySem.W.Frag) (x : Str) (F : Fn) (fns gl : List Str) (cs : CS) (at_ : Addr → Prop) : Prop where
  ex : ∃ (st : Stmt) (d : DefC) (f : Addr) (nm : Str) (dV kV doc pm cdv ct oc : Value) (an od : Option Addr) (osl : Array (Option Value)), K.lookup f = some ⟨oc, od, .func (PySem.W.fnOf nm x (defArgs st) (defBody st) (defScope st) dV kV doc pm an cdv ct), osl⟩ ∧ PySem.W.codeIn K cdv x = true ∧
    chkDef st d F fns gl cs = true ∧ at_ f ∧ Binds K (PySem.W.fnOf nm x (defArgs st) (defBody st) (defScope st) dV kV doc pm an cdv ct) d.ps []
/-- a class of the program's own: its methods, its __init__ -/
structure ClsIn (K : PySem.W.Frag) (mg : Str → Option Value) (G : Prog) (tops : List Str) (cs : CS) (c : CI) : Prop where
  at_ : mg c.nm = some (.ref (G.cl c.nm))
  kp : PySem.W.keepIn K (.ref (G.cl c.nm)) = true
  cl : Cls K (G.cl c.nm)
  na : ∀ f ∈ c.fl, NoAttr K (G.cl c.nm) f
  mt : ∀ m g, c.mt.lookup m = some g → ∃ F, G.fn g = some F ∧ DefAt K g F tops (G.globs.map (·.1)) cs (Meth K (G.cl c.nm) m)
  made : ∃ F, G.fn c.init = some F ∧ DefAt K c.init F tops (G.globs.map (·.1)) cs (Mk K (G.cl c.nm))
/-- what stands of the program in the small syntax; tops: the defs at the top -/
structure ModOk (K : PySem.W.Frag) (mg : Str → Option Value) (G : Prog) (tops : List Str) (cs : CS) : Prop where
  er : ErrsAt K mg G.cl G.sub cs
  bl : ∀ x, x ∈ bltFs ∨ x ∈ bltTs → mg x = none
  gl : ∀ x d, G.globs.lookup x = some d → ∃ v u, mg x = some u ∧ RelV v u ∧ ∀ F m, Dr K F m v d
  fn : ∀ x ∈ tops, ∃ F, G.fn x = some F ∧ DefAt K x F tops (G.globs.map (·.1)) cs (fun f => mg x = some (.ref f) ∧ PySem.W.keepIn K (.ref f) = true)
  cs : ∀ c ∈ cs.cl, ClsIn K mg G tops cs c
theorem fn_def {f : Addr} {nm x : Str} {st : Stmt} {d : DefC} {F : Fn} {fns gl : List Str} {cs : CS} {dV kV doc pm cdv ct oc : Value} {an od : Option Addr} {osl : Array (Option Value)} {C : Calls} {cl : Str → Nat} {run : List R → List R → CR} {k : Nat} (hcl : C.cl = cl)
    (lk : K.lookup f = some ⟨oc, od, .func (PySem.W.fnOf nm x (defArgs st) (defBody st) (defScope st) dV kV doc pm an cdv ct), osl⟩) (hc : PySem.W.codeIn K cdv x = true) (ck : chkDef st d F fns gl cs = true) (mo : Mo P w K mg base C k fns gl cs) (hC : run = F.run C) :
    FnG P w K mg base (k + 1) f (PySem.W.fnOf nm x (defArgs st) (defBody st) (defScope st) dV kV doc pm an cdv ct) d.ps (spR K cl run) := by
  subst hcl
  unfold chkDef at ck
  simp only [Bool.and_eq_true, decide_eq_true_eq] at ck
  obtain ⟨⟨⟨⟨⟨c1, c2⟩, c3⟩, c4⟩, c5⟩, c6⟩ := ck
  split at c3
  · rename_i b hb
    have e := qSs_eq _ _ c3
    subst e
    exact def_ok lk hc (C8.fnScope_by c1) c2 hb c4 c5 c6 mo hC
  · cases c3
theorem fng_no {cl : Str → Nat} {k : Nat} {f : Addr} {fd : FuncData} {ps : List Str} {run : List R → List R → CR} (h : ∀ rs st, run rs st = .no) : FnG P w K mg base k f fd ps (spR K cl run) := by
  refine ⟨fun vs H Q E z => ?_, fun A outer s H args us vs Q E _ _ _ _ _ z => ?_⟩
  · obtain ⟨rs, st, _, _, _, q⟩ := z
    rw [h] at q
    exact q.elim
  · obtain ⟨rs, st, _, _, _, q⟩ := z
    rw [h] at q
    exact q.elim
theorem run_at {G : Prog} {x : Str} {F : Fn} (h : G.fn x = some F) (k : Nat) : (G.calls (k + 1)).run x = F.run (G.calls k) := by
  funext rs st
  show (match G.fn x with | some F => F.run (G.calls k) rs st | none => .no) = _
  rw [h]
theorem calls_cl (G : Prog) (k : Nat) : (G.calls k).cl = G.cl := by cases k <;> rfl
theorem mo_all {G : Prog} {tops : List Str} {cs : CS} (h : ModOk K mg G tops cs) : ∀ k : Nat, Mo P w K mg base (G.calls k) k tops (G.globs.map (·.1)) cs
  | 0 => by
    refine ⟨h.er, fun c hc => ?_, h.bl, fun x _ d hd => h.gl x d hd, fun x hx => ?_⟩
    · have q := h.cs c hc
      refine ⟨q.at_, q.kp, q.cl, q.na, fun m g hm => ?_, .inl fun _ _ => rfl⟩
      obtain ⟨F, hF, ⟨st, d, f, nm, dV, kV, doc, pm, cdv, ct, oc, an, od, osl, l1, l2, l3, l4, l5⟩⟩ := q.mt m g hm
      exact ⟨f, _, d.ps, fng_no fun _ _ => rfl, l4, l5⟩
    · obtain ⟨F, hF, ⟨st, d, f, nm, dV, kV, doc, pm, cdv, ct, oc, an, od, osl, l1, l2, l3, l4, l5⟩⟩ := h.fn x hx
      exact ⟨f, _, d.ps, fng_no fun _ _ => rfl, l4.1, l4.2, l5⟩
  | 1 => by
    refine ⟨h.er, fun c hc => ?_, h.bl, fun x _ d hd => h.gl x d hd, fun x hx => ?_⟩
    · have q := h.cs c hc
      refine ⟨q.at_, q.kp, q.cl, q.na, fun m g hm => ?_, .inl fun _ _ => rfl⟩
      obtain ⟨F, hF, ⟨st, d, f, nm, dV, kV, doc, pm, cdv, ct, oc, an, od, osl, l1, l2, l3, l4, l5⟩⟩ := q.mt m g hm
      exact ⟨f, _, d.ps, fn_def (calls_cl _ _) l1 l2 l3 (mo_all h 0) (run_at hF 0), l4, l5⟩
    · obtain ⟨F, hF, ⟨st, d, f, nm, dV, kV, doc, pm, cdv, ct, oc, an, od, osl, l1, l2, l3, l4, l5⟩⟩ := h.fn x hx
      exact ⟨f, _, d.ps, fn_def (calls_cl _ _) l1 l2 l3 (mo_all h 0) (run_at hF 0), l4.1, l4.2, l5⟩
  | k + 2 => by
    refine ⟨h.er, fun c hc => ?_, h.bl, fun x _ d hd => h.gl x d hd, fun x hx => ?_⟩
    · have q := h.cs c hc
      refine ⟨q.at_, q.kp, q.cl, q.na, fun m g hm => ?_, .inr ?_⟩
      · obtain ⟨F, hF, ⟨st, d, f, nm, dV, kV, doc, pm, cdv, ct, oc, an, od, osl, l1, l2, l3, l4, l5⟩⟩ := q.mt m g hm
        exact ⟨f, _, d.ps, fn_def (calls_cl _ _) l1 l2 l3 (mo_all h (k + 1)) (run_at hF (k + 1)), l4, l5⟩
      · obtain ⟨F, hF, ⟨st, d, f, nm, dV, kV, doc, pm, cdv, ct, oc, an, od, osl, l1, l2, l3, l4, l5⟩⟩ := q.made
        exact ⟨k + 1, f, _, d.ps, Nat.le_refl _, fn_def (calls_cl _ _) l1 l2 l3 (mo_all h k) (run_at hF k), l4, l5⟩
    · obtain ⟨F, hF, ⟨st, d, f, nm, dV, kV, doc, pm, cdv, ct, oc, an, od, osl, l1, l2, l3, l4, l5⟩⟩ := h.fn x hx
      exact ⟨f, _, d.ps, fn_def (calls_cl _ _) l1 l2 l3 (mo_all h (k + 1)) (run_at hF (k + 1)), l4.1, l4.2, l5⟩
end

/-! ### the law's end -/
section
variable {P : Program} {w : World} {K : PySem.W.Frag}
/-- what may be tracked at the entry: the script -/
theorem law_g {mg mb : Str → Option Value} {k : Nat} {fa a : Addr} {fd : FuncData} {x : Str} {sp : Sp} {s1 : Shared} {vs : List Value} {ns : List Int}
    (KX : K.In s1.heap) (hns : s1.heap.Ns mainGlobals mg) (hb : s1.heap.Ns builtinsNs mb) (hbb : ∀ x : Str, x ≠ "__name__" → mb x = bootBuiltins x) (hlim : s1.heap.NoLimit) (hg : s1.gens = #[])
    (ha : s1.heap.get? a = some { cls := .type "list", data := .seq vs.toArray }) (hi : IntsAre vs ns) (hl : ns.length ≤ sizeLine) (hr : Room k callerA)
    (F : ∀ base : Heap, K.In base → base.Ns mainGlobals mg → FnG P w K mg base k fa fd [x] sp) (hbind : ∀ (s : Shared) (u : Value), BindsTo s fd ⟨[u], []⟩ [(x, u)])
    (hsp : ∀ H : Hp, SqX K H a (ns.map V.int) → sp [.ref a] H (fun v _ => v = .bl true) E0) :
    codeAny (model P w) callerA (.call (.ref fa) ⟨[.ref a], []⟩) (fun r s' => r = .ok (.ret (.bool true)) ∧ OldK s1.heap s'.heap ∧ s'.os = s1.os ∧ AllBare s'.gens) s1 := by
  have rv := vals_ints hi
  have lenV := hi.length
  have core : ∀ H : Hp, Only H → SqX K H a (ns.map V.int) → HOk P w H s1.heap → (∀ b, H b ≠ none → b = a) → (H a ≠ none → K.lookup a = none) →
      codeAny (model P w) callerA (.call (.ref fa) ⟨[.ref a], []⟩) (fun r s' => r = .ok (.ret (.bool true)) ∧ OldK s1.heap s'.heap ∧ s'.os = s1.os ∧ AllBare s'.gens) s1 := by
    intro H hO hS hok hA hK
    have untr : ∀ {b : Addr} {o : Obj} {es : Array DictEntry} {ep : Nat}, s1.heap.get? b = some o → o.data = .dict es ep → H b = none := fun {b o es ep} e d => by
      cases q : H b with
      | none => rfl
      | some u =>
        have e' : b = a := hA b (by rw [q]; exact nofun)
        subst e'
        rw [ha] at e
        cases e
        exact nomatch (show Data.seq vs.toArray _ = Data.dict es ep from d)
    have nsK : ∀ {b : Addr} {m : Str → Option Value}, s1.heap.Ns b m → (hidT s1.heap H).Ns b m := fun {b m} ⟨o, es, ep, e, d, r⟩ => ⟨o, es, ep, hidT_get e (untr e d), d, r⟩
    have kb : K.In (hidT s1.heap H) := fun b o e => hidT_get (KX b o e) (by
      cases q : H b with
      | none => rfl
      | some u =>
        have e' : b = a := hA b (by rw [q]; exact nofun)
        subst e'
        have z := hK (by rw [q]; exact nofun)
        rw [z] at e
        cases e)
    have mo : Mod K mg (hidT s1.heap H) := ⟨kb, nsK hns, ⟨mb, nsK hb, hbb⟩, let ⟨mc, h1, h2⟩ := hlim; ⟨mc, nsK h1, h2⟩⟩
    have e0 : Env0 P w K mg (hidT s1.heap H) callerA [] s1 H := ⟨rfl, mo, fun b o e => of_hidT e, Nat.le_of_eq (hidT_size _ _), trivial, fun b hb => (nomatch (show b ∈ ([] : List Addr) from hb)), hok, .of_eq hg⟩
    refine codeAny_mono ((F _ kb (nsK hns)).run callerA [] s1 H ⟨[.ref a], []⟩ [.ref a] [.ref a] _ E0 rfl hr e0 (hbind s1 (.ref a)) (.cons rfl .nil) (hsp H hS)) fun r s' h => ?_
    cases r with
    | error e =>
      obtain ⟨_, _, _, _, _, _, _, _, _, _, _, _, z⟩ := h
      exact z.elim
    | ok fl =>
      cases fl with
      | next => exact h.elim
      | brk => exact h.elim
      | cont => exact h.elim
      | ret u =>
        obtain ⟨v, H', os, bare, un, hok', r', q⟩ := h
        have q' : v = .bl true := q
        subst q'
        obtain rfl : u = Value.bool true := r'
        refine ⟨rfl, OldK.of_keep fun b o e => ?_, os, bare⟩
        cases q : H b with
        | none => exact un.keep b o e q (fun z => nomatch (show b ∈ ([] : List Addr) from z)) (fun z => nomatch z)
        | some u =>
          rcases hO b with z | ⟨ob, xs, z⟩
          · rw [q] at z
            cases z
          · obtain ⟨e1, _⟩ := hok b _ z
            obtain ⟨e2, _⟩ := hok' b _ (un.frzs b ob _ z)
            rw [e] at e1
            cases e1
            exact e2
  cases hk : K.lookup a with
  | some o =>
    have e := KX a o hk
    rw [ha] at e
    cases e
    exact core (fun _ => none) (fun _ => .inl rfl) (.inr ⟨vs, _, hk, by rw [List.length_map]; exact hl, rv⟩) (fun b u z => nomatch (show (none : Option HO) = some u from z)) (fun b z => absurd rfl z) fun z => absurd rfl z
  | none =>
    have at_a : (fun b => if b = a then some (HO.frz { cls := .type "list", data := .seq vs.toArray } (.lst (ns.map V.int))) else none : Hp) a = some (HO.frz { cls := .type "list", data := .seq vs.toArray } (.lst (ns.map V.int))) := if_pos rfl
    refine core (fun b => if b = a then some (HO.frz { cls := .type "list", data := .seq vs.toArray } (.lst (ns.map V.int))) else none) (fun b => ?_) (.inl (.inr ⟨_, at_a⟩)) (fun b u z => ?_) (fun b z => ?_) fun _ => hk
    · by_cases hb : b = a
      · exact .inr ⟨_, _, if_pos hb⟩
      · exact .inl (if_neg hb)
    · by_cases hb : b = a
      · have z' := (if_pos hb).symm.trans z
        cases z'
        subst hb
        exact ⟨ha, by rw [List.length_map]; exact hl, vs, _, rv, ha⟩
      · have z' := (if_neg hb).symm.trans z
        cases z'
    · by_cases hb : b = a
      · exact hb
      · exact absurd (if_neg hb) z
end
/-- what the plain law asks: the law's def in the small syntax answers True at every script -/
def Plain (G : Prog) (n k : Nat) : Prop := ∀ ns : List Int, ns.length ≤ n → (∀ z ∈ ns, Builtin.Int.intBits z ≤ 1048576) → ∃ ps st, (G.calls k).run "law" [.frz (.lst (ns.map .int))] [] = .ok (.frz (.bl true)) ps st
/-- where the classes stand -/
def clsOf (mg : Str → Option Value) (x : Str) : Nat := match mg x with
  | some (.ref C) => C
  | _ => 0
theorem walk_g {l : PySem.W.OpenLaw} {n k : Nat} {q : Program} {loose : List Str} {XP : (Str → Option Value) → Heap → Prop} {YP : World → Heap → Prop} {d : DefRec} {K : Params → PySem.W.Frag} {x : Str} {G : (Str → Nat) → Prog} {tops : List Str} {cs : CS}
    (hn : l.most = some n) (hn2 : n ≤ sizeLine) (hdf : d.params.defaults = []) (hr : Room (k + 1) callerA) (hY : ∀ (w : World) (h : Heap), YP w h → (K w.params).In h) (hd : d.name = "law")
    (F : ∀ (w : World) (mg : Str → Option Value) (h : Heap), (K w.params).In h → h.Ns mainGlobals mg → ModOk (K w.params) mg (G (clsOf mg)) tops cs ∧ ∃ (f : Addr) (fd : FuncData) (st : Stmt) (dc : DefC) (dV kV doc pm cdv ct oc : Value) (an od : Option Addr) (osl : Array (Option Value)) (Fl : Fn),
      mg "law" = some (.ref f) ∧ fd = PySem.W.fnOf "law" "law" (defArgs st) (defBody st) (defScope st) dV kV doc pm an cdv ct ∧ (K w.params).lookup f = some ⟨oc, od, .func fd, osl⟩ ∧ PySem.W.codeIn (K w.params) cdv "law" = true ∧ chkDef st dc Fl tops ((G (clsOf mg)).globs.map (·.1)) cs = true ∧ (G (clsOf mg)).fn "law" = some Fl ∧ dc.ps = [x] ∧ ∀ (s : Shared) (u : Value), BindsTo s fd ⟨[u], []⟩ [(x, u)])
    (hp : ∀ cl, Plain (G cl) n (k + 1)) : PySem.W.WalkO q loose XP YP l.row.toRowW d [] (fun f vs => PySem.call f vs) := by
  refine Att.attach_callB hn hdf fun w s0 s1 mg mb fa o pm cd doc a vs ns Gr Y ho hod hcd hmg hobj hints hlen hbits hg => ?_
  have KX := hY w _ Y
  obtain ⟨mo, f, fd, st, dc, dV, kV, doc', pm', cdv, ct, oc, an, od, osl, Fl, g1, g2, g3, g4, g5, g6, g7, g8⟩ := F w mg _ KX Gr.T.g
  have ef : fa = f := by
    rw [hd] at hmg
    rw [hmg] at g1
    exact Value.ref.inj (Option.some.inj g1)
  subst ef
  subst g2
  refine law_g KX Gr.T.g Gr.T.b Gr.T.builtins Gr.T.nolimit hg hobj hints (Nat.le_trans hlen hn2) hr (sp := spF (K w.params) ((G (clsOf mg)).calls (k + 1)) "law") (x := x) (fd := _) (fun base hK hN => ?_) g8 fun H hS => ?_
  · have := fn_def (calls_cl _ _) (run := ((G (clsOf mg)).calls (k + 1)).run "law") g3 g4 g5 (mo_all (P := l.prog) (w := w) (base := base) mo k) (run_at g6 k)
    rw [g7] at this
    exact this
  · obtain ⟨ps, st', e⟩ := hp (clsOf mg) ns hlen hbits
    refine ⟨[.frz (.lst (ns.map .int))], [], [], ?_, rfl, ?_⟩
    · have dr : ∀ (ns : List Int), DrL (K w.params) H [] (ns.map V.int) (ns.map D.int) := by
        intro ns
        induction ns with
        | nil => exact .nil
        | cons i ns ih => exact .cons (.int i) ih
      exact ⟨H, [], [], fun _ _ h => h, .cons (fp := []) (.it (.frz (.lst hS (dr ns)))) .nil, List.nodup_nil, fun _ h => nomatch h⟩
    · rw [e]
      intro v H' ow
      exact ow.atB List.mem_cons_self
end Lp

end
section
/-! LpD5: what the heap behind the top says, put together. -/
namespace Lp
open PySem PySem.Spec PyProof.Rows L2
def AllP {α : Type} (R : Str → α → Prop) : List (Str × α) → Prop
  | [] => True
  | (x, a) :: l => R x a ∧ AllP R l
theorem look_all {α : Type} {R : Str → α → Prop} : ∀ {l : List (Str × α)}, AllP R l → ∀ x a, l.lookup x = some a → R x a
  | [], _, _, _, h => nomatch h
  | (y, b) :: l, h, x, a, e => by
    rw [List.lookup_cons] at e
    cases q : x == y with
    | true =>
      rw [q] at e
      have e1 : x = y := by simpa using q
      have e2 := Option.some.inj e
      subst e1 e2
      exact h.1
    | false =>
      rw [q] at e
      exact look_all h.2 x a e
section
variable {K : PySem.W.Frag} {h : Heap} {mg : Str → Option Value}
def AllN {α : Type} (R : α → Prop) : List α → Prop
  | [] => True
  | x :: l => R x ∧ AllN R l
theorem alln_all {α : Type} {R : α → Prop} : ∀ {l : List α}, AllN R l → ∀ x ∈ l, R x
  | [], _, _, h => nomatch h
  | y :: l, q, x, h => by
    rcases List.mem_cons.mp h with e | h
    · exact e ▸ q.1
    · exact alln_all q.2 x h
theorem bl_of (X : K.In h) (G : h.Ns mainGlobals mg) (z : AllN (fun x => PySem.W.nsIn K mainGlobals x = some none) (bltFs ++ bltTs)) : ∀ x, x ∈ bltFs ∨ x ∈ bltTs → mg x = none := fun x hx =>
  PySem.W.mg_none_of X G (alln_all z x (List.mem_append.mpr hx))
theorem gl_int (X : K.In h) (G : h.Ns mainGlobals mg) {x : Str} {i : Int} {t : Tok} (z : PySem.W.nsIn K mainGlobals x = some (some (.int i t))) : ∃ v u, mg x = some u ∧ RelV v u ∧ ∀ F m, Dr K F m v (.int i) :=
  ⟨.int i, _, PySem.W.mg_of X G z, ⟨t, rfl⟩, fun _ _ => .int i⟩
theorem gl_str (X : K.In h) (G : h.Ns mainGlobals mg) {x : Str} {s : List Nat} {t : Tok} (z : PySem.W.nsIn K mainGlobals x = some (some (.str ⟨s.toArray⟩ t))) : ∃ v u, mg x = some u ∧ RelV v u ∧ ∀ F m, Dr K F m v (.str s) :=
  ⟨.str ⟨s.toArray⟩, _, PySem.W.mg_of X G z, ⟨t, rfl⟩, fun _ _ => .str s⟩
/-- where a class stands -/
theorem cls_at (X : K.In h) (G : h.Ns mainGlobals mg) {x : Str} {C : Addr} (a : PySem.W.nsIn K mainGlobals x = some (some (.ref C))) : clsOf mg x = C := by
  unfold clsOf
  rw [PySem.W.mg_of X G a]
theorem def_in {at_ : Addr → Prop} {nm x : Str} {st : Stmt} {d : DefC} {F : Fn} {fns gl : List Str} {cs : CS} {f : Addr} {kV dc pm cd ct oc : Value} {an od : Option Addr} {sl : Array (Option Value)}
    (l : K.lookup f = some ⟨oc, od, .func (PySem.W.fnOf nm x (defArgs st) (defBody st) (defScope st) .none kV dc pm an cd ct), sl⟩) (c : PySem.W.codeIn K cd x = true)
    (ck : chkDef st d F fns gl cs = true) (b : ∀ (kV dc pm : Value) (an : Option Addr) (cd ct : Value) (us : List Value), us.length = d.ps.length → bindArgs (PySem.W.fnOf nm x (defArgs st) (defBody st) (defScope st) .none kV dc pm an cd ct) ⟨us, []⟩ = pure (d.ps.zip us)) (q : at_ f) : DefAt K x F fns gl cs at_ :=
  ⟨st, d, f, nm, _, _, _, _, _, _, _, _, _, _, l, c, ck, q, .all (b _ _ _ _ _ _)⟩
theorem def_at (X : K.In h) (G : h.Ns mainGlobals mg) {x : Str} {st : Stmt} {d : DefC} {F : Fn} {fns gl : List Str} {cs : CS} {f : Addr} {kV dc pm cd ct oc : Value} {an od : Option Addr} {sl : Array (Option Value)}
    (a : PySem.W.nsIn K mainGlobals x = some (some (.ref f))) (l : K.lookup f = some ⟨oc, od, .func (PySem.W.fnOf x x (defArgs st) (defBody st) (defScope st) .none kV dc pm an cd ct), sl⟩) (c : PySem.W.codeIn K cd x = true) (kp : PySem.W.keepIn K (.ref f) = true)
    (ck : chkDef st d F fns gl cs = true) (b : ∀ (kV dc pm : Value) (an : Option Addr) (cd ct : Value) (us : List Value), us.length = d.ps.length → bindArgs (PySem.W.fnOf x x (defArgs st) (defBody st) (defScope st) .none kV dc pm an cd ct) ⟨us, []⟩ = pure (d.ps.zip us)) : DefAt K x F fns gl cs (fun f => mg x = some (.ref f) ∧ PySem.W.keepIn K (.ref f) = true) :=
  def_in l c ck b ⟨PySem.W.mg_of X G a, kp⟩
theorem cls_in (X : K.In h) (H : h.Ns mainGlobals mg) {c : CI} {G : Prog} {tops : List Str} {cs : CS} {C : Addr} (hG : G.cl = clsOf mg) (a : PySem.W.nsIn K mainGlobals c.nm = some (some (.ref C))) (kp : PySem.W.keepIn K (.ref C) = true) (cl : Cls K C) (na : AllN (NoAttr K C) c.fl)
    (mt : AllP (fun m g => ∃ F, G.fn g = some F ∧ DefAt K g F tops (G.globs.map (·.1)) cs (Meth K C m)) c.mt) (mk : ∃ F, G.fn c.init = some F ∧ DefAt K c.init F tops (G.globs.map (·.1)) cs (Mk K C)) : ClsIn K mg G tops cs c := by
  have e : G.cl c.nm = C := by
    rw [hG]
    exact cls_at X H a
  exact ⟨by rw [e]; exact PySem.W.mg_of X H a, by rw [e]; exact kp, by rw [e]; exact cl, by rw [e]; exact alln_all na, by rw [e]; exact look_all mt, by rw [e]; exact mk⟩
/-- an error class, as it stands behind the top -/
theorem err_at (X : K.In h) (G : h.Ns mainGlobals mg) (hn : PySem.W.specialIn K (.builtin "object.__class__") "__get__" = some (some (.builtin "getset_descriptor.__get__"))) (ht : PySem.W.takesIn K (.builtin "object.__class__") = some true)
    {x : Str} {C : Addr} (a : PySem.W.nsIn K mainGlobals x = some (some (.ref C))) (kp : PySem.W.keepIn K (.ref C) = true) (ex : PySem.W.excIn K C [.type "ValueError", .type "Exception", .type "BaseException", .type "object"] "ValueError.__new__" = true)
    (sb : PySem.W.subIn K (.ref C) (.type "BaseException") = some true) (ty : PySem.W.typeIn K (.ref C) = some (.type "type")) (hd : PySem.W.hasDictIn K C = true)
    (ga : PySem.W.findIn K (.ref C) "__getattribute__" = some (some (.builtin "BaseException.__getattribute__"))) (gt : PySem.W.findIn K (.ref C) "__getattr__" = some none)
    (ha : PySem.W.findIn K (.ref C) "__class__" = some (some (.builtin "object.__class__"))) (hm : PySem.W.mroIn K C (.type "object") = some true) : ErrAt K mg (clsOf mg) x := by
  have e := cls_at X G a
  exact ⟨by rw [e]; exact PySem.W.mg_of X G a, by rw [e]; exact kp, by rw [e]; exact ex, by rw [e]; exact sb, by rw [e]; exact ty, by rw [e]; exact ⟨ga, gt, sb, hd, ha, hn, ht, hm⟩⟩
theorem tc_at (X : K.In h) (G : h.Ns mainGlobals mg) {x : Str} {C : Addr} (a : PySem.W.nsIn K mainGlobals x = some (some (.ref C))) : mg x = some (.ref (clsOf mg x)) := by
  rw [cls_at X G a]
  exact PySem.W.mg_of X G a
def SubOk (K : PySem.W.Frag) (cl : Str → Nat) (n x : Str) (b : Bool) : Prop := PySem.W.subIn K (.ref (cl n)) (cvE cl x) = some b ∧ PySem.W.kitOne K (.ref (cl n)) (cvE cl x) = some b
/-- one error class asked of another -/
theorem sub_ref (X : K.In h) (G : h.Ns mainGlobals mg) {n x : Str} {A B : Addr} {v : Bool} (a : PySem.W.nsIn K mainGlobals n = some (some (.ref A))) (b : PySem.W.nsIn K mainGlobals x = some (some (.ref B))) (hx : x ≠ ("ValueError" : Str)) (r : PySem.W.subIn K (.ref A) (.ref A) = some true)
    (ty : PySem.W.typeIn K (.ref B) = some (.type "type")) (hd : PySem.W.hasDictIn K B = true) (s : PySem.W.subIn K (.ref A) (.ref B) = some v) : SubOk K (clsOf mg) n x v := by
  unfold SubOk cvE
  rw [if_neg hx, cls_at X G a, cls_at X G b]
  refine ⟨s, ?_⟩
  unfold PySem.W.kitOne
  split
  · rename_i e
    have e1 : A = B := Value.ref.inj (beq_iff_eq.mp e)
    subst e1
    rw [r] at s
    exact s
  · obtain ⟨cd, hc, _⟩ := PySem.W.any_some hd
    have e2 : ((PySem.W.clsIn K B).isSome && PySem.W.typeIn K (.ref B) == some (.type "type")) = true := by rw [hc, ty] <;> rfl
    show (if ((PySem.W.clsIn K B).isSome && PySem.W.typeIn K (.ref B) == some (.type "type")) = true then PySem.W.subIn K (.ref A) (.ref B) else none) = _
    rw [if_pos e2]
    exact s
theorem sub_val (X : K.In h) (G : h.Ns mainGlobals mg) {n : Str} {A : Addr} {v : Bool} (a : PySem.W.nsIn K mainGlobals n = some (some (.ref A))) (s : PySem.W.subIn K (.ref A) (.type "ValueError") = some v) : SubOk K (clsOf mg) n "ValueError" v := by
  unfold SubOk cvE
  rw [if_pos rfl, cls_at X G a]
  refine ⟨s, ?_⟩
  unfold PySem.W.kitOne
  rw [if_neg (show ¬ ((Value.ref A == Value.type "ValueError") = true) from fun z => nomatch (beq_iff_eq.mp z))]
  show (if PySem.W.kitMeta "ValueError" = true then PySem.W.subIn K (.ref A) (.type "ValueError") else none) = _
  rw [if_pos (by decide +kernel)]
  exact s
theorem errs_of (X : K.In h) (G : h.Ns mainGlobals mg) {P : Prog} {cs : CS} (hG : P.cl = clsOf mg) (er : AllN (ErrAt K mg (clsOf mg)) cs.er) (tc : AllN (fun x => mg x = some (.ref (clsOf mg x))) cs.tc) (ve : PySem.W.nsIn K mainGlobals "ValueError" = some none)
    (sub : AllP (fun n l => n ∈ cs.er ∧ AllP (SubOk K (clsOf mg) n) l) P.exs) : ErrsAt K mg P.cl P.sub cs := by
  rw [hG]
  refine ⟨alln_all er, alln_all tc, PySem.W.mg_none_of X G ve, fun n x b h => ?_⟩
  unfold Prog.sub at h
  split at h
  · rename_i l hl
    obtain ⟨q1, q2⟩ := look_all sub n l hl
    exact ⟨q1, look_all q2 x b h⟩
  · cases h
end
end Lp

end
section
/-! LpE: plain reasoning: loops, comprehensions, places. -/
namespace Lp
open PySem
/-! ### simple readings -/
@[simp] theorem get_mk (sl : List (Option R)) (st : List R) (i : Nat) : Env.get ⟨sl, st⟩ i = (sl[i]?).join := rfl
@[simp] theorem at_0 {α : Type} (x : α) (l : List α) : at? (x :: l) 0 = some x := rfl
@[simp] theorem at_1 {α : Type} (x y : α) (l : List α) : at? (x :: y :: l) 1 = some y := rfl
@[simp] theorem at_2 {α : Type} (x y z : α) (l : List α) : at? (x :: y :: z :: l) 2 = some z := rfl
@[simp] theorem at_3 {α : Type} (x y z w : α) (l : List α) : at? (x :: y :: z :: w :: l) 3 = some w := rfl
/-! ### operations on known kinds -/
@[simp] theorem b_addI (i j : Int) : binR .add (.frz (.int i)) (.frz (.int j)) = some (.frz (.int (i + j))) := rfl
@[simp] theorem b_subI (i j : Int) : binR .sub (.frz (.int i)) (.frz (.int j)) = some (.frz (.int (i - j))) := rfl
@[simp] theorem b_mulI (i j : Int) : binR .mul (.frz (.int i)) (.frz (.int j)) = if mulOk i j then some (.frz (.int (i * j))) else none := rfl
@[simp] theorem b_fdiv (i j : Int) : binR .fdiv (.frz (.int i)) (.frz (.int j)) = if 0 < j ∧ j.natAbs < 2 ^ 250 then some (.frz (.int (i / j))) else none := rfl
@[simp] theorem b_mod (i j : Int) : binR .mod (.frz (.int i)) (.frz (.int j)) = if 0 < j then some (.frz (.int (i % j))) else none := rfl
@[simp] theorem b_pow (i j : Int) : binR .pow (.frz (.int i)) (.frz (.int j)) = if 0 ≤ j ∧ j ≤ 100 ∧ i.natAbs < 2 ^ 250 then some (.frz (.int (i ^ j.toNat))) else none := rfl
@[simp] theorem b_addT (a b : List D) : binR .add (.frz (.tup a)) (.frz (.tup b)) = if a.length + b.length ≤ big then some (.frz (.tup (a ++ b))) else none := rfl
@[simp] theorem b_addL (a b : List D) : binR .add (.lst a) (.lst b) = if a.length + b.length ≤ big then some (.lst (a ++ b)) else none := rfl
@[simp] theorem b_addFL (a b : List D) : binR .add (.frz (.lst a)) (.lst b) = if a.length + b.length ≤ big then some (.lst (a ++ b)) else none := rfl
@[simp] theorem b_addFF (a b : List D) : binR .add (.frz (.lst a)) (.frz (.lst b)) = if a.length + b.length ≤ big then some (.lst (a ++ b)) else none := rfl
@[simp] theorem b_addLF (a b : List D) : binR .add (.lst a) (.frz (.lst b)) = if a.length + b.length ≤ big then some (.lst (a ++ b)) else none := rfl
@[simp] theorem b_mulT (a : List D) (j : Int) : binR .mul (.frz (.tup a)) (.frz (.int j)) = if a.length ≤ 1000 ∧ j.natAbs ≤ 1000 then some (.frz (.tup (List.replicate j.toNat a).flatten)) else none := rfl
@[simp] theorem c_ltI (i j : Int) : cmpD .lt (.int i) (.int j) = some (decide (i < j)) := rfl
@[simp] theorem c_leI (i j : Int) : cmpD .le (.int i) (.int j) = some (decide (i ≤ j)) := rfl
@[simp] theorem c_gtI (i j : Int) : cmpD .gt (.int i) (.int j) = some (decide (j < i)) := rfl
@[simp] theorem c_geI (i j : Int) : cmpD .ge (.int i) (.int j) = some (decide (j ≤ i)) := rfl
@[simp] theorem c_eqI (i j : Int) : cmpD .eq (.int i) (.int j) = some (decide (i = j)) := rfl
@[simp] theorem c_neI (i j : Int) : cmpD .ne (.int i) (.int j) = some (!decide (i = j)) := rfl
@[simp] theorem c_eqS (i j : List Nat) : cmpD .eq (.str i) (.str j) = some (decide (i = j)) := rfl
@[simp] theorem c_neS (i j : List Nat) : cmpD .ne (.str i) (.str j) = some (!decide (i = j)) := rfl
@[simp] theorem c_eqB (i j : Bool) : cmpD .eq (.bl i) (.bl j) = some (decide (i = j)) := rfl
@[simp] theorem c_neB (i j : Bool) : cmpD .ne (.bl i) (.bl j) = some (!decide (i = j)) := rfl
@[simp] theorem c_isB (i j : Bool) : cmpD .is (.bl i) (.bl j) = some (decide (i = j)) := rfl
@[simp] theorem c_isnotB (i j : Bool) : cmpD .isnot (.bl i) (.bl j) = some (!decide (i = j)) := rfl
@[simp] theorem c_isN : cmpD .is .non .non = some true := rfl
@[simp] theorem c_isnotN : cmpD .isnot .non .non = some false := rfl
@[simp] theorem c_isnotNB (b : Bool) : cmpD .isnot (.bl b) .non = some true := rfl
@[simp] theorem c_isnotNI (i : Int) : cmpD .isnot (.int i) .non = some true := rfl
@[simp] theorem c_isnotNS (s : List Nat) : cmpD .isnot (.str s) .non = some true := rfl
@[simp] theorem c_isnotNT (l : List D) : cmpD .isnot (.tup l) .non = some true := rfl
@[simp] theorem c_isnotNL (l : List D) : cmpD .isnot (.lst l) .non = some true := rfl
@[simp] theorem c_isNB (b : Bool) : cmpD .is (.bl b) .non = some false := rfl
@[simp] theorem c_isNI (i : Int) : cmpD .is (.int i) .non = some false := rfl
@[simp] theorem c_isNS (s : List Nat) : cmpD .is (.str s) .non = some false := rfl
@[simp] theorem c_isNT (l : List D) : cmpD .is (.tup l) .non = some false := rfl
@[simp] theorem c_isNL (l : List D) : cmpD .is (.lst l) .non = some false := rfl
@[simp] theorem c_isnotNX (n : Str) (c : Nat) : cmpD .isnot (.exc n c) .non = some true := rfl
@[simp] theorem c_isNX (n : Str) (c : Nat) : cmpD .is (.exc n c) .non = some false := rfl
@[simp] theorem ix_L (l : List D) (i : Int) : ixR (.lst l) (.frz (.int i)) = (at? l i).map .frz := rfl
@[simp] theorem ix_FL (l : List D) (i : Int) : ixR (.frz (.lst l)) (.frz (.int i)) = (at? l i).map .frz := rfl
@[simp] theorem ix_T (l : List D) (i : Int) : ixR (.frz (.tup l)) (.frz (.int i)) = (at? l i).map .frz := rfl
@[simp] theorem sl_T (l : List D) (a b : Option Int) : slR (.frz (.tup l)) a b = some (.frz (.tup (slice l a b))) := rfl
@[simp] theorem sl_L (l : List D) (a b : Option Int) : slR (.lst l) a b = some (.lst (slice l a b)) := rfl
@[simp] theorem sl_FL (l : List D) (a b : Option Int) : slR (.frz (.lst l)) a b = some (.lst (slice l a b)) := rfl
@[simp] theorem rev_T (l : List D) : revR (.frz (.tup l)) = some (.frz (.tup l.reverse)) := rfl
theorem mul_left {i : Int} (j : Int) (h : i.natAbs < 2 ^ 63) : mulOk i j = true := by
  unfold mulOk
  rw [decide_eq_true h]
  rfl
theorem mul_right (i : Int) {j : Int} (h : j.natAbs < 2 ^ 63) : mulOk i j = true := by
  unfold mulOk
  rw [decide_eq_true h]
  simp
theorem at_ex {α : Type} {l : List α} {i : Int} (h0 : 0 ≤ i) (h1 : i < l.length) : ∃ x, at? l i = some x ∧ x ∈ l := by
  unfold at?
  rw [if_pos h0]
  have : i.toNat < l.length := by omega
  exact ⟨l[i.toNat], List.getElem?_eq_getElem this, List.getElem_mem this⟩
theorem clamp_le (n : Nat) (i : Int) : clamp n i ≤ n ∨ (i < 0) := by
  unfold clamp
  split
  · exact .inr (by assumption)
  · exact .inl (Nat.min_le_right _ _)
theorem slice_mem {α : Type} {l : List α} {a b : Option Int} {x : α} (h : x ∈ slice l a b) : x ∈ l := List.mem_of_mem_drop (List.mem_of_mem_take h)
theorem slice_len {α : Type} (l : List α) (a b : Option Int) : (slice l a b).length ≤ l.length := by
  unfold slice
  simp only [List.length_take, List.length_drop]
  omega
theorem p10 : (10 : Nat) < 2 ^ 250 := by decide

/-! ### wishes: what is wanted behind a run -/
structure Wish where
  nx : Env → Prop
  rt : R → Env → Prop
  bk : Env → Prop
  ct : Env → Prop
  ex : Exn → Env → Prop
def Out.sat : Out → Wish → Prop
  | .nx e, W => W.nx e
  | .rt r e, W => W.rt r e
  | .bk e, W => W.bk e
  | .ct e, W => W.ct e
  | .ex x e, W => W.ex x e
  | .no, _ => False
def Ev.sat {α : Type} : Ev α → (α → Env → Prop) → (Exn → Env → Prop) → Prop
  | .ok a e, Q, _ => Q a e
  | .ex x e, _, X => X x e
  | .no, _, _ => False
def CR.sat : CR → (R → List (Option R) → List R → Prop) → (Exn → List (Option R) → List R → Prop) → Prop
  | .ok r ps st, P, _ => P r ps st
  | .ex x ps st, _, X => X x ps st
  | .no, _, _ => False
theorem osat_first {x y : Out} {W : Wish} (h : x = y) : x.sat W = y.sat W := by rw [h]
theorem esat_first {α : Type} {x y : Ev α} {Q : α → Env → Prop} {X : Exn → Env → Prop} (h : x = y) : x.sat Q X = y.sat Q X := by rw [h]
theorem csat_first {x y : CR} {P : R → List (Option R) → List R → Prop} {X : Exn → List (Option R) → List R → Prop} (h : x = y) : x.sat P X = y.sat P X := by rw [h]
@[simp] theorem osat_nx (e : Env) (W : Wish) : (Out.nx e).sat W = W.nx e := rfl
@[simp] theorem osat_rt (r : R) (e : Env) (W : Wish) : (Out.rt r e).sat W = W.rt r e := rfl
@[simp] theorem osat_bk (e : Env) (W : Wish) : (Out.bk e).sat W = W.bk e := rfl
@[simp] theorem osat_ct (e : Env) (W : Wish) : (Out.ct e).sat W = W.ct e := rfl
@[simp] theorem osat_ex (x : Exn) (e : Env) (W : Wish) : (Out.ex x e).sat W = W.ex x e := rfl
@[simp] theorem osat_no (W : Wish) : Out.no.sat W = False := rfl
@[simp] theorem esat_ok {α : Type} (a : α) (e : Env) (Q : α → Env → Prop) (X : Exn → Env → Prop) : (Ev.ok a e).sat Q X = Q a e := rfl
@[simp] theorem esat_ex {α : Type} (x : Exn) (e : Env) (Q : α → Env → Prop) (X : Exn → Env → Prop) : (Ev.ex x e).sat Q X = X x e := rfl
@[simp] theorem esat_no {α : Type} (Q : α → Env → Prop) (X : Exn → Env → Prop) : Ev.no.sat Q X = False := rfl
@[simp] theorem csat_ok (r : R) (ps : List (Option R)) (st : List R) (P : R → List (Option R) → List R → Prop) (X : Exn → List (Option R) → List R → Prop) : (CR.ok r ps st).sat P X = P r ps st := rfl
@[simp] theorem csat_ex (x : Exn) (ps : List (Option R)) (st : List R) (P : R → List (Option R) → List R → Prop) (X : Exn → List (Option R) → List R → Prop) : (CR.ex x ps st).sat P X = X x ps st := rfl
@[simp] theorem fin_ok (r : R) (ps : List (Option R)) (st : List R) (bs : List A) (e : Env) : (CR.ok r ps st).fin bs e = .ok (.val r) ({ e with st := st }.back bs ps) := rfl
@[simp] theorem fin_ex (x : Exn) (ps : List (Option R)) (st : List R) (bs : List A) (e : Env) : (CR.ex x ps st).fin bs e = .ex x ({ e with st := st }.back bs ps) := rfl
@[simp] theorem sat_bind {α β : Type} (x : Ev α) (f : α → Env → Ev β) (Q : β → Env → Prop) (X : Exn → Env → Prop) : (x.bind f).sat Q X = x.sat (fun a e => (f a e).sat Q X) X := by
  cases x <;> rfl
@[simp] theorem sat_out {α : Type} (x : Ev α) (f : α → Env → Out) (W : Wish) : (x.out f).sat W = x.sat (fun a e => (f a e).sat W) W.ex := by
  cases x <;> rfl
@[simp] theorem sat_seq (o : Out) (f : Env → Out) (W : Wish) : (o.seq f).sat W = o.sat { W with nx := fun e => (f e).sat W } := by
  cases o <;> rfl
@[simp] theorem sat_calm {α : Type} (x : Ev α) (Q : α → Env → Prop) (X : Exn → Env → Prop) : x.calm.sat Q X = x.sat Q (fun _ _ => False) := by
  cases x <;> rfl
@[simp] theorem sat_ite {α : Type} (c : Prop) [Decidable c] (a b : Ev α) (Q : α → Env → Prop) (X : Exn → Env → Prop) : (if c then a else b).sat Q X = if c then a.sat Q X else b.sat Q X := by
  split <;> rfl
@[simp] theorem sat_iteO (c : Prop) [Decidable c] (a b : Out) (W : Wish) : (if c then a else b).sat W = if c then a.sat W else b.sat W := by
  split <;> rfl
@[simp] theorem sat_onVal (o : Option R) (e : Env) (Q : A → Env → Prop) (X : Exn → Env → Prop) : (onVal o e).sat Q X = ∃ r, o = some r ∧ Q (.val r) e := by
  cases o <;> simp
@[simp] theorem sat_optB (o : Option Bool) (e : Env) (Q : Bool → Env → Prop) (X : Exn → Env → Prop) : (optB o e).sat Q X = ∃ b, o = some b ∧ Q b e := by
  cases o <;> simp
@[simp] theorem sat_made (c : CR) (bs : List A) (e : Env) (Q : A → Env → Prop) (X : Exn → Env → Prop) : (c.made bs e).sat Q X = c.sat (fun r ps st => ∃ r0 ps0, r = .frz .non ∧ ps = some r0 :: ps0 ∧ Q (.val r0) ({ e with st := st }.back bs ps0)) (fun x ps st => ∃ p0 ps0, ps = p0 :: ps0 ∧ X x ({ e with st := st }.back bs ps0)) := by
  cases c with
  | ok r ps st =>
    cases r with
    | frz d =>
      cases d with
      | non =>
        cases ps with
        | nil => simp [CR.made, CR.sat, Ev.sat]
        | cons p ps =>
          cases p with
          | none => simp [CR.made, CR.sat, Ev.sat]
          | some p =>
            exact propext ⟨fun h => ⟨_, _, rfl, rfl, h⟩, fun ⟨_, _, _, e, h⟩ => by
              cases e
              exact h⟩
      | _ => simp [CR.made, CR.sat, Ev.sat]
    | _ => simp [CR.made, CR.sat, Ev.sat]
  | ex x ps st =>
    cases ps with
    | nil => simp [CR.made, CR.sat, Ev.sat]
    | cons p ps =>
      exact propext ⟨fun h => ⟨_, _, rfl, h⟩, fun ⟨_, _, e, h⟩ => by
        cases e
        exact h⟩
  | no => simp [CR.made, CR.sat, Ev.sat]
@[simp] theorem made_ok (r : R) (ps : List (Option R)) (st : List R) (bs : List A) (e : Env) : (CR.ok (.frz .non) (some r :: ps) st).made bs e = .ok (.val r) ({ e with st := st }.back bs ps) := rfl
@[simp] theorem sat_fin (c : CR) (bs : List A) (e : Env) (Q : A → Env → Prop) (X : Exn → Env → Prop) : (c.fin bs e).sat Q X = c.sat (fun r ps st => Q (.val r) ({ e with st := st }.back bs ps)) (fun x ps st => X x ({ e with st := st }.back bs ps)) := by
  cases c <;> rfl
theorem Ev.sat_mono {α : Type} {x : Ev α} {Q Q' : α → Env → Prop} {X X' : Exn → Env → Prop} (h : x.sat Q X) (hq : ∀ a e, Q a e → Q' a e) (hx : ∀ a e, X a e → X' a e) : x.sat Q' X' := by
  cases x with
  | ok a e => exact hq _ _ h
  | ex a e => exact hx _ _ h
  | no => exact h
theorem CR.sat_mono {x : CR} {Q Q' : R → List (Option R) → List R → Prop} {X X' : Exn → List (Option R) → List R → Prop} (h : x.sat Q X) (hq : ∀ a p s, Q a p s → Q' a p s) (hx : ∀ a p s, X a p s → X' a p s) : x.sat Q' X' := by
  cases x with
  | ok => exact hq _ _ _ h
  | ex => exact hx _ _ _ h
  | no => exact h
theorem Out.sat_mono {o : Out} {W W' : Wish} (h : o.sat W) (h1 : ∀ e, W.nx e → W'.nx e) (h2 : ∀ r e, W.rt r e → W'.rt r e) (h3 : ∀ e, W.bk e → W'.bk e) (h4 : ∀ e, W.ct e → W'.ct e) (h5 : ∀ x e, W.ex x e → W'.ex x e) : o.sat W' := by
  cases o with
  | nx => exact h1 _ h
  | rt => exact h2 _ _ h
  | bk => exact h3 _ h
  | ct => exact h4 _ h
  | ex => exact h5 _ _ h
  | no => exact h
/-- nothing is raised -/
abbrev noX : Exn → List (Option R) → List R → Prop := fun _ _ _ => False
/-- a call's way, known by its wish -/
theorem CR.by {x : CR} {Q Q' : R → List (Option R) → List R → Prop} {X' : Exn → List (Option R) → List R → Prop} (h : x.sat Q noX) (hq : ∀ a p s, Q a p s → Q' a p s) : x.sat Q' X' := CR.sat_mono h hq fun _ _ _ h => h.elim
theorem CR.sat_eq {c : CR} {r : R} {ps : List (Option R)} {st : List R} (h : c.sat (fun r' ps' st' => r' = r ∧ ps' = ps ∧ st' = st) noX) : c = .ok r ps st := by
  cases c with
  | ok a b d =>
    obtain ⟨rfl, rfl, rfl⟩ := h
    rfl
  | ex => exact h.elim
  | no => exact h.elim
theorem CR.sat_ex {c : CR} {x : Exn} {ps : List (Option R)} {st : List R} (h : c.sat (fun _ _ _ => False) (fun x' ps' st' => x' = x ∧ ps' = ps ∧ st' = st)) : c = .ex x ps st := by
  cases c with
  | ok => exact h.elim
  | ex a b d =>
    obtain ⟨rfl, rfl, rfl⟩ := h
    rfl
  | no => exact h.elim
/-- statements, run -/
def Run (C : Calls) (ss : List Stm) (e : Env) (W : Wish) : Prop := (execs C ss e).sat W
theorem run_first {C : Calls} {ss ss' : List Stm} {e e' : Env} {W : Wish} (h : ss = ss') (h2 : e = e') : Run C ss e W = Run C ss' e' W := by rw [h, h2]
theorem run_nil {C : Calls} {e : Env} {W : Wish} (h : W.nx e) : Run C [] e W := by
  unfold Run
  rw [execs]
  exact h
theorem run_step {C : Calls} {s : Stm} {ss : List Stm} {e : Env} {W : Wish} (h : (exec C s e).sat ⟨fun e1 => Run C ss e1 W, W.rt, W.bk, W.ct, W.ex⟩) : Run C (s :: ss) e W := by
  unfold Run
  rw [execs, sat_seq]
  exact h
theorem execs_app (C : Calls) : ∀ (a b : List Stm) (e : Env), execs C (a ++ b) e = (execs C a e).seq fun e1 => execs C b e1
  | [], b, e => by
    rw [List.nil_append, execs]
    rfl
  | s :: a, b, e => by
    rw [List.cons_append, execs, execs]
    cases exec C s e <;> simp only [Out.seq] <;> exact execs_app C a b _
theorem run_app {C : Calls} {a b : List Stm} {e : Env} {W : Wish} (h : Run C a e ⟨fun e1 => Run C b e1 W, W.rt, W.bk, W.ct, W.ex⟩) : Run C (a ++ b) e W := by
  unfold Run at h ⊢
  rw [execs_app, sat_seq]
  exact h
theorem run_ifs {C : Calls} {c : Ex} {a b ss : List Stm} {e : Env} {W : Wish} (h : (evT C c e).sat (fun t e1 => if t = true then Run C (a ++ ss) e1 W else Run C (b ++ ss) e1 W) W.ex) : Run C (.ifs c a b :: ss) e W := by
  refine run_step ?_
  rw [exec, sat_out]
  refine Ev.sat_mono h (fun t e1 h1 => ?_) fun _ _ h => h
  cases t with
  | true =>
    rw [if_pos rfl] at h1 ⊢
    unfold Run at h1
    rw [execs_app, sat_seq] at h1
    exact h1
  | false =>
    rw [if_neg Bool.false_ne_true] at h1 ⊢
    unfold Run at h1
    rw [execs_app, sat_seq] at h1
    exact h1
/-- one if, both ways to one place -/
theorem run_ifj {C : Calls} {c : Ex} {a b ss : List Stm} {e : Env} {W : Wish} (J : Env → Prop) (h : (evT C c e).sat (fun t e1 => if t = true then Run C a e1 ⟨J, W.rt, W.bk, W.ct, W.ex⟩ else Run C b e1 ⟨J, W.rt, W.bk, W.ct, W.ex⟩) W.ex) (k : ∀ e, J e → Run C ss e W) : Run C (.ifs c a b :: ss) e W := by
  refine run_step ?_
  rw [exec, sat_out]
  refine Ev.sat_mono h (fun t e1 h1 => ?_) fun _ _ h => h
  have m : ∀ {o : Out}, o.sat ⟨J, W.rt, W.bk, W.ct, W.ex⟩ → o.sat ⟨fun e1 => Run C ss e1 W, W.rt, W.bk, W.ct, W.ex⟩ := fun h => Out.sat_mono h k (fun _ _ h => h) (fun _ h => h) (fun _ h => h) fun _ _ h => h
  cases t with
  | true => exact m h1
  | false => exact m h1
/-- an error caught, and kept -/
theorem run_try {C : Calls} {b ss : List Stm} {c : Str} {i j : Nat} {e : Env} {W : Wish}
    (h : Run C b e ⟨fun e1 => Run C ss e1 W, W.rt, W.bk, W.ct, fun x e1 => (C.sub x.c c = some true ∧ Run C ss ((e1.set i none).set j (some (.frz (.exc x.c (C.cl x.c))))) W) ∨ (C.sub x.c c = some false ∧ W.ex x e1)⟩) : Run C (.tryc b c i j :: ss) e W := by
  refine run_step ?_
  rw [exec]
  unfold Run at h
  cases hb : execs C b e with
  | ex x e1 =>
    rw [hb] at h
    unfold Out.caught
    simp only
    rcases h with ⟨h1, h2⟩ | ⟨h1, h2⟩
    · rw [h1]
      exact h2
    · rw [h1]
      exact h2
  | nx => rw [hb] at h; exact h
  | rt => rw [hb] at h; exact h
  | bk => rw [hb] at h; exact h
  | ct => rw [hb] at h; exact h
  | no => rw [hb] at h; exact h
/-! ### for -/
def ForK (C : Calls) (t : Tg) (b ss : List Stm) (W : Wish) (ds : List D) (e : Env) : Prop := (fLoop (fun d => stT t (.frz d)) (execs C b) ds e).sat ⟨fun e1 => Run C ss e1 W, W.rt, W.bk, W.ct, W.ex⟩
theorem run_for {C : Calls} {t : Tg} {it : It} {b ss : List Stm} {e : Env} {W : Wish} (h : (evIt C it e).sat (fun ds e1 => ForK C t b ss W ds e1) W.ex) : Run C (.for_ t it b :: ss) e W := by
  refine run_step ?_
  rw [exec, sat_out]
  exact h
theorem floop_sat {g : D → Env → Option Env} {b : Env → Out} {W : Wish} (I : Nat → Env → Prop) : ∀ (ds : List D) (k : Nat) (e : Env), I k e →
    (∀ i d e, ds[i]? = some d → I (k + i) e → ∃ e2, g d e = some e2 ∧ (b e2).sat ⟨I (k + i + 1), W.rt, W.nx, I (k + i + 1), W.ex⟩) → (∀ e, I (k + ds.length) e → W.nx e) → (fLoop g b ds e).sat W
  | [], k, e, h0, _, hd => hd e h0
  | d :: ds, k, e, h0, hs, hd => by
    obtain ⟨e2, h1, h2⟩ := hs 0 d e rfl h0
    unfold fLoop
    rw [h1]
    have ih : ∀ e3, I (k + 1) e3 → (fLoop g b ds e3).sat W := fun e3 h3 => floop_sat I ds (k + 1) e3 h3 (fun i d e hi hI => by
      have := hs (i + 1) d e (by simpa using hi) (by rw [show k + (i + 1) = k + 1 + i by omega]; exact hI)
      rw [show k + (i + 1) + 1 = k + 1 + i + 1 by omega] at this
      exact this) fun e h => hd e (by rw [List.length_cons, show k + (ds.length + 1) = k + 1 + ds.length by omega]; exact h)
    show (match b e2 with | .nx e2 => _ | .ct e2 => _ | .bk e2 => _ | .rt r e2 => _ | .ex x e2 => _ | .no => _ : Out).sat W
    cases hb : b e2 with
    | nx e3 =>
      rw [hb] at h2
      exact ih e3 h2
    | ct e3 =>
      rw [hb] at h2
      exact ih e3 h2
    | bk e3 =>
      rw [hb] at h2
      exact h2
    | rt r e3 =>
      rw [hb] at h2
      exact h2
    | ex x e3 =>
      rw [hb] at h2
      exact h2
    | no =>
      rw [hb] at h2
      exact h2
/-- a for, by what holds between two turns -/
theorem for_by {C : Calls} {t : Tg} {b ss : List Stm} {W : Wish} {ds : List D} {e : Env} (I : Nat → Env → Prop) (h0 : I 0 e)
    (hs : ∀ i d e, ds[i]? = some d → I i e → ∃ e2, stT t (.frz d) e = some e2 ∧ Run C b e2 ⟨I (i + 1), W.rt, fun e => Run C ss e W, I (i + 1), W.ex⟩)
    (hd : ∀ e, I ds.length e → Run C ss e W) : ForK C t b ss W ds e := by
  refine floop_sat I ds 0 e h0 (fun i d e hi hI => ?_) fun e h => hd e (by simpa using h)
  rw [Nat.zero_add] at hI ⊢
  exact hs i d e hi hI
/-! ### while -/
def WhlK (C : Calls) (c : Ex) (b ss : List Stm) (W : Wish) (e : Env) : Prop := Run C (.whl c b :: ss) e W
theorem wloop_sat {c : Env → Ev Bool} {b : Env → Out} {W : Wish} (I : Nat → Env → Prop) : ∀ (n m : Nat) (e : Env), m < n → I m e →
    (∀ m e, I m e → (c e).sat (fun t e1 => if t = true then (b e1).sat ⟨fun e2 => ∃ m', m' < m ∧ I m' e2, W.rt, W.nx, fun e2 => ∃ m', m' < m ∧ I m' e2, W.ex⟩ else W.nx e1) W.ex) → (wLoop c b n e).sat W
  | 0, m, e, hm, _, _ => absurd hm (Nat.not_lt_zero _)
  | n + 1, m, e, hm, h0, hs => by
    have h := hs m e h0
    unfold wLoop
    rw [sat_out]
    refine Ev.sat_mono h (fun t e1 h1 => ?_) fun _ _ h => h
    cases t with
    | false => exact h1
    | true =>
      rw [if_pos rfl] at h1 ⊢
      have ih : ∀ e2, (∃ m', m' < m ∧ I m' e2) → (wLoop c b n e2).sat W := fun e2 ⟨m', h2, h3⟩ => wloop_sat I n m' e2 (by omega) h3 hs
      show (match b e1 with | .nx e2 => _ | .ct e2 => _ | .bk e2 => _ | .rt r e2 => _ | .ex x e2 => _ | .no => _ : Out).sat W
      cases hb : b e1 with
      | nx e3 =>
        rw [hb] at h1
        exact ih e3 h1
      | ct e3 =>
        rw [hb] at h1
        exact ih e3 h1
      | bk e3 =>
        rw [hb] at h1
        exact h1
      | rt r e3 =>
        rw [hb] at h1
        exact h1
      | ex x e3 =>
        rw [hb] at h1
        exact h1
      | no =>
        rw [hb] at h1
        exact h1
/-- a while, by what holds between two turns, with so many turns left at most -/
theorem run_whl {C : Calls} {c : Ex} {b ss : List Stm} {e : Env} {W : Wish} (I : Nat → Env → Prop) {m : Nat} (hm : m < turns) (h0 : I m e)
    (hs : ∀ m e, I m e → (evT C c e).sat (fun t e1 => if t = true then Run C b e1 ⟨fun e2 => ∃ m', m' < m ∧ I m' e2, W.rt, fun e => Run C ss e W, fun e2 => ∃ m', m' < m ∧ I m' e2, W.ex⟩ else Run C ss e1 W) W.ex) : Run C (.whl c b :: ss) e W := by
  refine run_step ?_
  rw [exec]
  exact wloop_sat I turns m e hm h0 hs
/-! ### comprehensions -/
theorem lcloop_sat {g : D → Env → Option Env} {c : Env → Ev Bool} {f : Env → Ev D} {Q : List D → Env → Prop} {X : Exn → Env → Prop} (I : Nat → List D → Env → Prop) : ∀ (ds : List D) (k : Nat) (acc : List D) (e : Env), acc.length + ds.length ≤ big → I k acc e →
    (∀ i d acc e, ds[i]? = some d → I (k + i) acc e → ∃ e1, g d e = some e1 ∧ (c e1).sat (fun b e2 => if b = true then (f e2).sat (fun x e3 => I (k + i + 1) (acc ++ [x]) e3) (fun _ _ => False) else I (k + i + 1) acc e2) (fun _ _ => False)) →
    (∀ acc e, I (k + ds.length) acc e → Q acc e) → (lcLoop g c f ds acc e).sat Q X
  | [], k, acc, e, _, h0, _, hd => hd acc e h0
  | d :: ds, k, acc, e, hb, h0, hs, hd => by
    rw [List.length_cons] at hb
    obtain ⟨e1, h1, h2⟩ := hs 0 d acc e rfl h0
    unfold lcLoop
    rw [h1]
    have ih : ∀ acc' e3, acc'.length ≤ acc.length + 1 → I (k + 1) acc' e3 → (lcLoop g c f ds acc' e3).sat Q X := fun acc' e3 hl h3 => lcloop_sat I ds (k + 1) acc' e3 (by omega) h3 (fun i d acc e hi hI => by
      have := hs (i + 1) d acc e (by simpa using hi) (by rw [show k + (i + 1) = k + 1 + i by omega]; exact hI)
      rw [show k + (i + 1) + 1 = k + 1 + i + 1 by omega] at this
      exact this) fun acc e h => hd acc e (by rw [List.length_cons, show k + (ds.length + 1) = k + 1 + ds.length by omega]; exact h)
    show ((c e1).bind _).sat Q X
    rw [sat_bind]
    refine Ev.sat_mono h2 (fun b e2 h3 => ?_) fun _ _ h => h.elim
    cases b with
    | false => exact ih acc e2 (Nat.le_succ _) h3
    | true =>
      rw [if_pos rfl] at h3 ⊢
      rw [sat_bind]
      refine Ev.sat_mono h3 (fun x e3 h4 => ?_) fun _ _ h => h.elim
      rw [if_pos (show acc.length < big by omega)]
      exact ih _ e3 (by rw [List.length_append, List.length_singleton]; omega) h4
/-- a comprehension, by what holds between two turns -/
theorem lc_by {own : List Nat} {t : Tg} {c : Env → Ev Bool} {x : Env → Ev A} {ds : List D} {e : Env} {Q : A → Env → Prop} {X : Exn → Env → Prop} (I : Nat → List D → Env → Prop) (hl : ds.length ≤ big) (h0 : I 0 [] e)
    (hs : ∀ i d acc e, ds[i]? = some d → I i acc e → ∃ e1, stT t (.frz d) (e.hide own) = some e1 ∧ (c e1).sat (fun b e2 => if b = true then (x e2).sat (fun a e3 => ∃ y e4, e3.frz a = some (y, e4) ∧ I (i + 1) (acc ++ [y]) e4) (fun _ _ => False) else I (i + 1) acc e2) (fun _ _ => False))
    (hd : ∀ acc e2, I ds.length acc e2 → Q (.val (.lst acc)) (e2.unhide e own)) : (lcRun own t c x ds e).sat Q X := by
  unfold lcRun
  rw [sat_bind]
  refine lcloop_sat I ds 0 [] e (by simpa using hl) h0 (fun i d acc e hi hI => ?_) fun acc e h => hd acc e (by simpa using h)
  rw [Nat.zero_add] at hI ⊢
  obtain ⟨e1, h1, h2⟩ := hs i d acc e hi hI
  refine ⟨e1, h1, ?_⟩
  rw [sat_calm]
  refine Ev.sat_mono h2 (fun b e2 h3 => ?_) fun _ _ h => h
  cases b with
  | false => exact h3
  | true =>
    rw [if_pos rfl] at h3 ⊢
    rw [sat_bind, sat_calm]
    refine Ev.sat_mono h3 (fun a e3 h4 => ?_) fun _ _ h => h
    obtain ⟨y, e4, h5, h6⟩ := h4
    rw [h5]
    exact h6
theorem Env.ext_get {e e1 : Env} (hl : e.sl.length = e1.sl.length) (hs : e.st = e1.st) (h : ∀ i : Nat, e.sl[i]? = e1.sl[i]?) : e = e1 := by
  obtain ⟨sl, st⟩ := e
  obtain ⟨sl1, st1⟩ := e1
  have : sl = sl1 := List.ext_getElem? h
  simp only [Env.mk.injEq]
  exact ⟨this, hs⟩
theorem unhide_len : ∀ (l : List Nat) (e o : Env), (e.unhide o l).sl.length = e.sl.length
  | [], _, _ => rfl
  | i :: l, e, o => by
    show ((e.unhide o l).sl.set i _).length = _
    rw [List.length_set, unhide_len l e o]
theorem hide_len : ∀ (l : List Nat) (e : Env), (e.hide l).sl.length = e.sl.length
  | [], _ => rfl
  | i :: l, e => by
    show ((e.hide l).sl.set i _).length = _
    rw [List.length_set, hide_len l e]
theorem unhide_st : ∀ (l : List Nat) (e o : Env), (e.unhide o l).st = e.st
  | [], _, _ => rfl
  | i :: l, e, o => unhide_st l e o
theorem hide_st : ∀ (l : List Nat) (e : Env), (e.hide l).st = e.st
  | [], _ => rfl
  | i :: l, e => hide_st l e
theorem hide_at : ∀ (l : List Nat) (e : Env) (j : Nat), (e.hide l).sl[j]? = if j ∈ l ∧ j < e.sl.length then some none else e.sl[j]?
  | [], e, j => by simp
  | i :: l, e, j => by
    show ((e.hide l).sl.set i none)[j]? = _
    rw [List.getElem?_set]
    by_cases q : i = j
    · subst q
      rw [if_pos rfl, hide_len]
      by_cases h : i < e.sl.length
      · rw [if_pos h, if_pos ⟨List.mem_cons_self, h⟩]
      · rw [if_neg h, if_neg fun z => h z.2, List.getElem?_eq_none (by omega)]
    · rw [if_neg q, hide_at l e j]
      by_cases m : j ∈ l ∧ j < e.sl.length
      · rw [if_pos m, if_pos ⟨List.mem_cons_of_mem _ m.1, m.2⟩]
      · rw [if_neg m, if_neg fun z => m ⟨(List.mem_cons.mp z.1).resolve_left (Ne.symm q), z.2⟩]
theorem unhide_at : ∀ (l : List Nat) (e o : Env) (j : Nat), (e.unhide o l).sl[j]? = if j ∈ l ∧ j < e.sl.length then some (o.get j) else e.sl[j]?
  | [], e, o, j => by simp
  | i :: l, e, o, j => by
    show ((e.unhide o l).sl.set i (o.get i))[j]? = _
    rw [List.getElem?_set]
    by_cases q : i = j
    · subst q
      rw [if_pos rfl, unhide_len]
      by_cases h : i < e.sl.length
      · rw [if_pos h, if_pos ⟨List.mem_cons_self, h⟩]
      · rw [if_neg h, if_neg fun z => h z.2, List.getElem?_eq_none (by omega)]
    · rw [if_neg q, unhide_at l e o j]
      by_cases m : j ∈ l ∧ j < e.sl.length
      · rw [if_pos m, if_pos ⟨List.mem_cons_of_mem _ m.1, m.2⟩]
      · rw [if_neg m, if_neg fun z => m ⟨(List.mem_cons.mp z.1).resolve_left (Ne.symm q), z.2⟩]
/-- what a block's own names were comes back -/
theorem unhide_hide {e o : Env} {l : List Nat} (h : e.hide l = o.hide l) : e.unhide o l = o := by
  have len : e.sl.length = o.sl.length := by
    have := congrArg (fun z => z.sl.length) h
    simp only [hide_len] at this
    exact this
  refine Env.ext_get (by rw [unhide_len, len]) (by rw [unhide_st]; have := congrArg Env.st h; rwa [hide_st, hide_st] at this) fun j => ?_
  rw [unhide_at]
  have hj := congrArg (fun z => z.sl[j]?) h
  simp only [hide_at] at hj
  by_cases m : j ∈ l ∧ j < e.sl.length
  · rw [if_pos m]
    have : j < o.sl.length := by omega
    unfold Env.get
    rw [List.getElem?_eq_getElem this]
    rfl
  · rw [if_neg m] at hj ⊢
    rw [hj, if_neg fun z => m ⟨z.1, by omega⟩]
/-- a plain comprehension with a test: each item by itself -/
theorem lc_pick {own : List Nat} {t : Tg} {c : Env → Ev Bool} {x : Env → Ev A} {ds : List D} {e : Env} {Q : A → Env → Prop} {X : Exn → Env → Prop} (γ : D → Bool) (φ : D → D) (hl : ds.length ≤ big)
    (hs : ∀ d ∈ ds, ∃ e1, stT t (.frz d) (e.hide own) = some e1 ∧ e1.hide own = e.hide own ∧ c e1 = .ok (γ d) e1 ∧ (γ d = true → x e1 = .ok (.val (.frz (φ d))) e1))
    (hd : Q (.val (.lst ((ds.filter γ).map φ))) e) : (lcRun own t c x ds e).sat Q X := by
  refine lc_by (fun i acc e1 => acc = ((ds.take i).filter γ).map φ ∧ e1.hide own = e.hide own) hl ⟨rfl, rfl⟩ (fun i d acc e1 hi hI => ?_) fun acc e1 hI => ?_
  · obtain ⟨h1, h2⟩ := hI
    obtain ⟨e2, g1, g2, g3, g4⟩ := hs d (List.mem_of_getElem? hi)
    refine ⟨e2, by rw [h2]; exact g1, ?_⟩
    rw [g3]
    show if γ d = true then _ else _
    have ht : (ds.take (i + 1)) = ds.take i ++ [d] := by
      rw [List.take_add_one, hi]
      rfl
    cases hg : γ d with
    | false =>
      refine ⟨?_, g2⟩
      rw [ht, List.filter_append, h1]
      simp [hg]
    | true =>
      rw [if_pos rfl, g4 hg]
      refine ⟨φ d, e2, rfl, ?_, g2⟩
      rw [ht, List.filter_append, h1]
      simp [hg]
  · obtain ⟨h1, h2⟩ := hI
    rw [List.take_length] at h1
    rw [h1, unhide_hide h2]
    exact hd
/-- a plain comprehension -/
theorem lc_map {own : List Nat} {t : Tg} {x : Env → Ev A} {c : Env → Ev Bool} {ds : List D} {e : Env} {Q : A → Env → Prop} {X : Exn → Env → Prop} (φ : D → D) (hl : ds.length ≤ big) (hc : ∀ e, c e = .ok true e)
    (hs : ∀ d ∈ ds, ∃ e1, stT t (.frz d) (e.hide own) = some e1 ∧ e1.hide own = e.hide own ∧ x e1 = .ok (.val (.frz (φ d))) e1)
    (hd : Q (.val (.lst (ds.map φ))) e) : (lcRun own t c x ds e).sat Q X := by
  refine lc_pick (fun _ => true) φ hl (fun d hd => ?_) ?_
  · obtain ⟨e1, h1, h2, h3⟩ := hs d hd
    exact ⟨e1, h1, h2, hc e1, fun _ => h3⟩
  · rw [List.filter_eq_self.mpr fun _ _ => rfl]
    exact hd
/-- a comprehension of numbers that are drawn -/
theorem lc_ints {own : List Nat} {t : Tg} {c : Env → Ev Bool} {x : Env → Ev A} {ds : List D} {e : Env} {Q : A → Env → Prop} {X : Exn → Env → Prop} (P : Int → Prop) (J : Nat → Env → Prop) (hl : ds.length ≤ big) (h0 : J 0 e) (hc : ∀ e, c e = .ok true e)
    (hs : ∀ i d e1, ds[i]? = some d → J i e1 → ∃ e2, stT t (.frz d) (e1.hide own) = some e2 ∧ (x e2).sat (fun a e3 => ∃ z, a = .val (.frz (.int z)) ∧ P z ∧ J (i + 1) e3) (fun _ _ => False))
    (hd : ∀ (l : List Int) e2, l.length = ds.length → (∀ z ∈ l, P z) → J ds.length e2 → Q (.val (.lst (l.map .int))) (e2.unhide e own)) : (lcRun own t c x ds e).sat Q X := by
  refine lc_by (fun i acc e1 => ∃ l : List Int, acc = l.map .int ∧ l.length = i ∧ (∀ z ∈ l, P z) ∧ J i e1) hl ⟨[], rfl, rfl, (fun _ h => absurd h List.not_mem_nil), h0⟩ (fun i d acc e1 hi hI => ?_) fun acc e1 hI => ?_
  · obtain ⟨l, rfl, h1, h2, h3⟩ := hI
    obtain ⟨e2, g1, g2⟩ := hs i d e1 hi h3
    refine ⟨e2, g1, ?_⟩
    rw [hc]
    show (x e2).sat _ _
    refine Ev.sat_mono g2 (fun a e3 g3 => ?_) fun _ _ h => h
    obtain ⟨z, rfl, g4, g5⟩ := g3
    refine ⟨.int z, e3, rfl, l ++ [z], by simp, by simp [h1], fun y hy => ?_, g5⟩
    rcases List.mem_append.mp hy with hy | hy
    · exact h2 y hy
    · rw [List.mem_singleton.mp hy]
      exact g4
  · obtain ⟨l, rfl, h1, h2, h3⟩ := hI
    exact hd l e1 h1 h2 h3
/-! ### defs -/
theorem fn_run {np ns : Nat} {refs : List Nat} {body : List Stm} {C : Calls} {rs : List R} {st : List R} {P : R → List (Option R) → List R → Prop} {PX : Exn → List (Option R) → List R → Prop} (hl : rs.length = np)
    (h : Run C body ⟨rs.map some ++ List.replicate (ns - np) none, st⟩ ⟨fun e => P (.frz .non) (given refs e.sl 0 np) e.st, fun r e => P r (given refs e.sl 0 np) e.st, fun _ => False, fun _ => False, fun x e => PX x (given refs e.sl 0 np) e.st⟩) : (Fn.run ⟨np, ns, refs, body⟩ C rs st).sat P PX := by
  unfold Fn.run
  rw [if_pos hl]
  unfold Run at h
  show CR.sat (match execs C body ⟨rs.map some ++ List.replicate (ns - np) none, st⟩ with | .nx e => _ | .rt r e => _ | .ex x e => _ | _ => _) P PX
  cases hr : execs C body ⟨rs.map some ++ List.replicate (ns - np) none, st⟩ with
  | nx e =>
    rw [hr] at h
    exact h
  | rt r e =>
    rw [hr] at h
    exact h
  | ex x e =>
    rw [hr] at h
    exact h
  | bk e =>
    rw [hr] at h
    exact h.elim
  | ct e =>
    rw [hr] at h
    exact h.elim
  | no =>
    rw [hr] at h
    exact h.elim
/-- what a def does, at a level -/
structure Sp (C : Calls) (f : Str) (refs : List Nat) (S : (List R → List R → CR) → Prop) : Prop where
  rf : C.refs f = refs
  ok : S (C.run f)
/-- what a class's __init__ does, at a level -/
structure SpN (C : Calls) (f : Str) (refs : List Nat) (S : (List R → List R → CR) → Prop) : Prop where
  rf : C.refs f = refs
  ok : S (C.mkr f)
theorem spn_at {G : Prog} {n : Nat} {x : Str} {refs : List Nat} {S : (List R → List R → CR) → Prop} (h : Sp (G.calls n) x refs S) : SpN (G.calls (n + 1)) x refs S := by
  refine ⟨?_, h.ok⟩
  have := h.rf
  cases n <;> exact this
theorem calls_run (G : Prog) (n : Nat) (x : Str) (F : Fn) (h : G.fn x = some F) : (G.calls (n + 1)).run x = F.run (G.calls n) := by
  funext rs st
  show (match G.fn x with | some F => F.run (G.calls n) rs st | none => .no) = _
  rw [h]
theorem sp_at (G : Prog) (n : Nat) {x : Str} {F : Fn} {refs : List Nat} {S : (List R → List R → CR) → Prop} (h : G.fn x = some F) (hr : F.refs = refs) (k : S (F.run (G.calls n))) : Sp (G.calls (n + 1)) x refs S := by
  refine ⟨?_, ?_⟩
  · show (match G.fn x with | some F => F.refs | none => []) = _
    rw [h]
    exact hr
  · rw [calls_run G n x F h]
    exact k
theorem rg_len (lo hi : Int) : (rgD lo hi).length = (hi - lo).toNat := by
  unfold rgD
  rw [List.length_map, List.length_range]
theorem rg_get {lo hi : Int} {i : Nat} {d : D} (h : (rgD lo hi)[i]? = some d) : d = .int (lo + (i : Int)) ∧ (i : Int) < hi - lo := by
  unfold rgD at h
  rw [List.getElem?_map] at h
  obtain ⟨j, h1, h2⟩ := Option.map_eq_some_iff.mp h
  have hi := (List.getElem?_eq_some_iff.mp h1).1
  rw [List.length_range] at hi
  rw [List.getElem?_range hi] at h1
  have := Option.some.inj h1
  subst this
  exact ⟨h2.symm, by omega⟩
theorem small_of {i : Int} (h0 : -1000000000 ≤ i) (h1 : i ≤ 1000000000) : small i = true := by
  unfold small
  exact decide_eq_true (by omega)
end Lp

end
section
/-! T: lists of numbers, told by their places. -/
namespace Lp
open PySem
abbrev tabI (p : Nat) (f : Nat → Int) : List Int := (List.range p).map f
def tabD (p : Nat) (f : Nat → D) : List D := (List.range p).map f
abbrev tab (p : Nat) (f : Nat → Int) : List D := tabD p fun k => .int (f k)
@[simp] theorem tabD_len (p : Nat) (f : Nat → D) : (tabD p f).length = p := by simp [tabD]
theorem tabD_get {p : Nat} {f : Nat → D} {i : Nat} (h : i < p) : (tabD p f)[i]? = some (f i) := by
  unfold tabD
  rw [List.getElem?_map, List.getElem?_range h]
  rfl
theorem tabD_none {p : Nat} {f : Nat → D} {i : Nat} (h : p ≤ i) : (tabD p f)[i]? = none := List.getElem?_eq_none (by rw [tabD_len]; exact h)
theorem tabD_iget {p : Nat} {f : Nat → D} {i : Nat} {d : D} (h : (tabD p f)[i]? = some d) : i < p ∧ d = f i := by
  have hi := (List.getElem?_eq_some_iff.mp h).1
  rw [tabD_len] at hi
  rw [tabD_get hi] at h
  exact ⟨hi, (Option.some.inj h).symm⟩
theorem tabD_mem {p : Nat} {f : Nat → D} {d : D} : d ∈ tabD p f ↔ ∃ i, i < p ∧ f i = d := by
  unfold tabD
  simp
theorem tab_at {p : Nat} {f : Nat → D} {i : Int} (h0 : 0 ≤ i) (h1 : i < p) : at? (tabD p f) i = some (f i.toNat) := by
  unfold at?
  rw [if_pos h0]
  exact tabD_get (by omega)
theorem tab_at0 {p : Nat} {f : Nat → D} (h1 : 0 < p) : at? (tabD p f) 0 = some (f 0) := tab_at (by decide) (by omega)
theorem tab_pos {p : Nat} {i : Int} (h0 : 0 ≤ i) (h1 : i < p) : pos? p i = some i.toNat := by
  unfold pos?
  rw [if_pos h0, if_pos h1]
theorem tabD_ext {p : Nat} {f g : Nat → D} (h : ∀ i, i < p → f i = g i) : tabD p f = tabD p g := by
  unfold tabD
  exact List.map_congr_left fun i hi => h i (List.mem_range.mp hi)
theorem tab_ext {p : Nat} {f g : Nat → Int} (h : ∀ i, i < p → f i = g i) : tab p f = tab p g := tabD_ext fun i hi => by rw [h i hi]
theorem tab_inj {p : Nat} {f g : Nat → Int} : tab p f = tab p g ↔ ∀ i, i < p → f i = g i := by
  refine ⟨fun h i hi => ?_, tab_ext⟩
  have := congrArg (·[i]?) h
  simp only [tabD_get hi, Option.some.injEq, D.int.injEq] at this
  exact this
theorem list_ext_len {α : Type} {a b : List α} (hl : a.length = b.length) (h : ∀ i, i < a.length → a[i]? = b[i]?) : a = b := by
  apply List.ext_getElem?
  intro i
  by_cases hi : i < a.length
  · exact h i hi
  · rw [List.getElem?_eq_none (by omega), List.getElem?_eq_none (by omega)]
theorem tabD_eq {p : Nat} {f : Nat → D} {l : List D} (hl : l.length = p) (h : ∀ i, i < p → l[i]? = some (f i)) : l = tabD p f :=
  list_ext_len (by rw [tabD_len, hl]) fun i hi => by rw [h i (by omega), tabD_get (by omega)]
@[simp] theorem tabD_set {p : Nat} {f : Nat → D} {n : Nat} {v : D} : (tabD p f).set n v = tabD p fun k => if k = n then v else f k := by
  refine tabD_eq (by rw [List.length_set, tabD_len]) fun i hi => ?_
  by_cases e : n = i
  · subst e
    rw [List.getElem?_set_self (by rw [tabD_len]; exact hi), if_pos rfl]
  · rw [List.getElem?_set_ne e, tabD_get hi, if_neg (Ne.symm e)]
theorem tab_set {p : Nat} {f : Nat → Int} {n : Nat} {v : Int} : (tab p f).set n (.int v) = tab p fun k => if k = n then v else f k := by
  rw [tabD_set]
  exact tabD_ext fun i hi => by
    by_cases h : i = n
    · simp [h]
    · simp [h]
theorem tabD_map {p : Nat} {f : Nat → D} (g : D → D) : (tabD p f).map g = tabD p fun k => g (f k) := by
  unfold tabD
  rw [List.map_map]
  rfl
theorem tab_of (l : List Int) : l.map D.int = tab l.length fun k => l.getD k 0 := tabD_eq (by simp) fun i hi => by
  rw [List.getElem?_map, List.getElem?_eq_getElem hi]
  simp [List.getD_eq_getElem?_getD, hi]
@[simp] theorem rg_tab (n : Nat) : rgD 0 (n : Int) = tab n fun k => (k : Int) := tabD_eq (by rw [rg_len]; omega) fun i hi => by
  unfold rgD
  rw [List.getElem?_map, List.getElem?_range (by omega)]
  show some (D.int (0 + (i : Int))) = _
  rw [Int.zero_add]
theorem rg_tab2 (a : Int) (n : Nat) {b : Int} (h : b = a + n) : rgD a b = tab n fun k => a + (k : Int) := tabD_eq (by rw [rg_len]; omega) fun i hi => by
  unfold rgD
  rw [List.getElem?_map, List.getElem?_range (by omega)]
  rfl
theorem rep_one (p : Nat) (d : D) : (List.replicate p ([d] : List D)).flatten = List.replicate p d := by
  induction p with
  | zero => rfl
  | succ p ih =>
    rw [List.replicate_succ, List.flatten_cons, ih]
    rfl
theorem rep_tab (p : Nat) (d : D) : (List.replicate p ([d] : List D)).flatten = tabD p fun _ => d := tabD_eq (by simp) fun i hi => by
  rw [rep_one, List.getElem?_replicate, if_pos hi]
@[simp] theorem ints_tab (p : Nat) (f : Nat → Int) : ints? (tab p f) = some (tabI p f) := by
  unfold tab tabD tabI
  induction List.range p with
  | nil => rfl
  | cons i is ih => simp only [List.map_cons, ints?, ih, Option.map_some]
@[simp] theorem ints_map (is : List Int) : ints? (is.map .int) = some is := by
  induction is with
  | nil => rfl
  | cons i is ih => simp only [List.map_cons, ints?, ih, Option.map_some]
theorem bls_map (ds : List D) (f : D → Bool) : bls? (ds.map fun d => .bl (f d)) = some (ds.map f) := by
  induction ds with
  | nil => rfl
  | cons d ds ih => simp only [List.map_cons, bls?, ih, Option.map_some]
theorem slice_none {α : Type} (l : List α) : slice l none none = l := by
  unfold slice
  simp
theorem clamp_nat {n : Nat} {i : Int} (h : 0 ≤ i) : clamp n i = min i.toNat n := by
  unfold clamp
  rw [if_neg (by omega)]
theorem slice_take {α : Type} (l : List α) {i : Int} (h : 0 ≤ i) : slice l none (some i) = l.take i.toNat := by
  unfold slice
  simp only [clamp_nat h, List.drop_zero, Nat.sub_zero]
  rw [Nat.min_comm]
  rcases Nat.le_total i.toNat l.length with q | q
  · rw [Nat.min_eq_right q]
  · rw [Nat.min_eq_left q, List.take_length, List.take_of_length_le q]
theorem slice_drop {α : Type} (l : List α) {i : Int} (h : 0 ≤ i) : slice l (some i) none = l.drop i.toNat := by
  unfold slice
  simp only [clamp_nat h]
  rcases Nat.le_total i.toNat l.length with q | q
  · rw [Nat.min_eq_left q, List.take_of_length_le (by simp)]
  · rw [Nat.min_eq_right q, List.drop_length, List.drop_of_length_le q, List.take_nil]
theorem tabD_take {p i : Nat} {f : Nat → D} (h : i ≤ p) : (tabD p f).take i = tabD i f := tabD_eq (by simp; omega) fun j hj => by
  rw [List.getElem?_take_of_lt hj, tabD_get (by omega)]
theorem tabD_drop {p i : Nat} {f : Nat → D} : (tabD p f).drop i = tabD (p - i) fun k => f (i + k) := tabD_eq (by simp) fun j hj => by
  rw [List.getElem?_drop, tabD_get (by omega)]
theorem tabD_app {a b : Nat} {f g : Nat → D} : tabD a f ++ tabD b g = tabD (a + b) fun k => if k < a then f k else g (k - a) := tabD_eq (by simp) fun j hj => by
  rw [List.getElem?_append, tabD_len]
  split
  · rw [tabD_get (by omega)]
  · rw [tabD_get (by omega)]
theorem tabD_one (d : D) : [d] = tabD 1 fun _ => d := rfl
theorem tabD_snoc {a : Nat} {f : Nat → D} {d : D} : tabD a f ++ [d] = tabD (a + 1) fun k => if k < a then f k else d := by rw [tabD_one, tabD_app]
/-- one place otherwise, as the program writes it -/
theorem tab_upd {p : Nat} {f : Nat → D} {i : Int} {x : D} (h0 : 0 ≤ i) (h1 : i < p) : slice (tabD p f) none (some i) ++ ([x] ++ slice (tabD p f) (some (i + 1)) none) = tabD p fun k => if k = i.toNat then x else f k := by
  rw [slice_take _ h0, slice_drop _ (by omega), tabD_take (by omega), tabD_drop, tabD_one, tabD_app, tabD_app]
  have e : i.toNat + (1 + (p - (i + 1).toNat)) = p := by omega
  rw [e]
  refine tabD_ext fun k hk => ?_
  by_cases a : k < i.toNat
  · rw [if_pos a, if_neg (by omega)]
  · rw [if_neg a]
    by_cases b : k = i.toNat
    · rw [if_pos (by omega), if_pos b]
    · rw [if_neg (by omega), if_neg b]
      congr 1
      omega
theorem tab_upd' {p : Nat} {f : Nat → D} {i : Int} {x : D} (h0 : 0 ≤ i) (h1 : i < p) : slice (tabD p f) none (some i) ++ [x] ++ slice (tabD p f) (some (i + 1)) none = tabD p fun k => if k = i.toNat then x else f k := by
  rw [List.append_assoc]
  exact tab_upd h0 h1
theorem enum_get : ∀ {l : List D} {k i : Nat} {d : D}, (enumD k l)[i]? = some d → ∃ x, l[i]? = some x ∧ d = .tup [.int ((k + i : Nat) : Int), x]
  | [], k, i, d, h => by simp [enumD] at h
  | x :: l, k, 0, d, h => by
    simp only [enumD, List.getElem?_cons_zero, Option.some.injEq] at h
    exact ⟨x, rfl, h.symm⟩
  | x :: l, k, i + 1, d, h => by
    simp only [enumD, List.getElem?_cons_succ] at h
    obtain ⟨y, h1, h2⟩ := enum_get h
    refine ⟨y, by simpa using h1, ?_⟩
    rw [h2]
    congr 4
    omega
@[simp] theorem enum_len : ∀ (k : Nat) (l : List D), (enumD k l).length = l.length
  | _, [] => rfl
  | k, _ :: l => congrArg (· + 1) (enum_len (k + 1) l)
theorem enum_tab {p : Nat} {f : Nat → D} : enumD 0 (tabD p f) = tabD p fun k => .tup [.int k, f k] := tabD_eq (by simp) fun i hi => by
  have : i < (enumD 0 (tabD p f)).length := by simp [hi]
  have e := List.getElem?_eq_getElem this
  obtain ⟨x, h1, h2⟩ := enum_get e
  obtain ⟨_, h3⟩ := tabD_iget h1
  rw [e, h2, h3, Nat.zero_add]
@[simp] theorem stT_two (i j : Nat) (x y : D) (e : Env) : stT (.tp (.cons (.nm i) (.cons (.nm j) .nil))) (.frz (.tup [x, y])) e = some ((e.set i (some (.frz x))).set j (some (.frz y))) := rfl
theorem zip_get : ∀ {a b : List D} {i : Nat} {d : D}, (zipD a b)[i]? = some d → ∃ x y, a[i]? = some x ∧ b[i]? = some y ∧ d = .tup [x, y]
  | [], b, i, d, h => by simp [zipD] at h
  | _ :: _, [], i, d, h => by simp [zipD] at h
  | x :: a, y :: b, 0, d, h => by
    simp only [zipD, List.getElem?_cons_zero, Option.some.injEq] at h
    exact ⟨x, y, rfl, rfl, h.symm⟩
  | x :: a, y :: b, i + 1, d, h => by
    simp only [zipD, List.getElem?_cons_succ] at h
    obtain ⟨u, v, h1, h2, h3⟩ := zip_get h
    exact ⟨u, v, by simpa using h1, by simpa using h2, h3⟩
theorem zip_len : ∀ (a b : List D), (zipD a b).length = min a.length b.length
  | [], _ => by simp [zipD]
  | _ :: _, [] => by simp [zipD]
  | _ :: a, _ :: b => by
    simp only [zipD, List.length_cons, zip_len a b]
    omega
theorem zip_tab {p q : Nat} {f g : Nat → D} : zipD (tabD p f) (tabD q g) = tabD (min p q) fun k => .tup [f k, g k] := tabD_eq (by rw [zip_len]; simp) fun i hi => by
  have : i < (zipD (tabD p f) (tabD q g)).length := by rw [zip_len]; simpa using hi
  have e := List.getElem?_eq_getElem this
  obtain ⟨x, y, h1, h2, h3⟩ := zip_get e
  obtain ⟨_, h4⟩ := tabD_iget h1
  obtain ⟨_, h5⟩ := tabD_iget h2
  rw [e, h3, h4, h5]
theorem big_eq : big = 1000000 := rfl
/-! ### what repr asks -/
theorem wtL_le {m : Nat} : ∀ {l : List D}, (∀ d ∈ l, d.wt ≤ m) → D.wtL l ≤ (m + 2) * l.length
  | [], _ => Nat.zero_le _
  | d :: l, h => by
    have h1 := h d List.mem_cons_self
    have h2 := wtL_le (m := m) (l := l) fun x hx => h x (List.mem_cons_of_mem _ hx)
    simp only [D.wtL, List.length_cons, Nat.mul_add, Nat.mul_one]
    omega
theorem depL_le {m : Nat} : ∀ {l : List D}, (∀ d ∈ l, d.dep ≤ m) → D.depL l ≤ m
  | [], _ => Nat.zero_le _
  | d :: l, h => by
    have h1 := h d List.mem_cons_self
    have h2 := depL_le (m := m) (l := l) fun x hx => h x (List.mem_cons_of_mem _ hx)
    simp only [D.depL]
    omega
theorem wt_int {i : Int} (h : i.natAbs < 2 ^ 250) : (D.int i).wt ≤ 100 := by
  simp only [D.wt]
  rw [if_pos h]
  exact Nat.le_refl _
theorem wt_tab {p : Nat} {f : Nat → Int} (h : ∀ k, k < p → (f k).natAbs < 2 ^ 250) : D.wtL (tab p f) ≤ 102 * p := by
  have := wtL_le (m := 100) (l := tab p f) fun d hd => by
    obtain ⟨i, hi, rfl⟩ := tabD_mem.mp hd
    exact wt_int (h i hi)
  rw [tabD_len] at this
  exact this
theorem dep_tab {p : Nat} {f : Nat → Int} : D.depL (tab p f) = 0 := Nat.le_zero.mp (depL_le (m := 0) fun d hd => by
  obtain ⟨i, hi, rfl⟩ := tabD_mem.mp hd
  exact Nat.le_refl _)
theorem repr_frz {d : D} (h : d.wt ≤ big) (h2 : d.dep ≤ 60) : reprR (.frz d) = some (.frz (.str d.rep)) := by
  show (if d.wt ≤ big && decide (d.dep ≤ 60) then some (R.frz (.str d.rep)) else none) = _
  rw [decide_eq_true h2, decide_eq_true h]
  rfl
theorem repr_lst {l : List D} (h : (D.lst l).wt ≤ big) (h2 : (D.lst l).dep ≤ 60) : reprR (.lst l) = some (.frz (.str (D.lst l).rep)) := by
  show (if (D.lst l).wt ≤ big && decide ((D.lst l).dep ≤ 60) then some (R.frz (.str (D.lst l).rep)) else none) = _
  rw [decide_eq_true h2, decide_eq_true h]
  rfl
/-! ### equal data -/
mutual
/-- no truths, no dicts, no handles within -/
def D.nb : D → Bool
  | .non => true | .bl _ => false | .int _ => true | .str _ => true
  | .tup l => D.nbL l | .lst l => D.nbL l | .dic _ => false | .hd _ => false | .obj _ _ => false | .exc _ _ => false
def D.nbL : List D → Bool
  | [] => true | d :: r => d.nb && D.nbL r
end
mutual
theorem eqv_iff : ∀ a b : D, a.nb = true → b.nb = true → (PyData.eqv a.py b.py = true ↔ a = b)
  | .non, b, _, hb => by cases b <;> first | (simp [D.nb] at hb; done) | simp [D.py, PyData.eqv]
  | .int i, b, _, hb => by cases b <;> first | (simp [D.nb] at hb; done) | simp [D.py, PyData.eqv]
  | .str x, b, _, hb => by
    cases b with
    | str y =>
      simp only [D.py, PyData.eqv, D.str.injEq, beq_iff_eq]
      constructor
      · intro h
        have := congrArg (fun s : Str => s.cps.toList) h
        simpa using this
      · intro h
        rw [h]
    | _ => first | (simp [D.nb] at hb; done) | simp [D.py, PyData.eqv]
  | .tup x, b, ha, hb => by
    cases b with
    | tup y =>
      simp only [D.py, PyData.eqv, D.tup.injEq]
      exact eqvL_iff x y (by simpa [D.nb] using ha) (by simpa [D.nb] using hb)
    | _ => first | (simp [D.nb] at hb; done) | simp [D.py, PyData.eqv]
  | .lst x, b, ha, hb => by
    cases b with
    | lst y =>
      simp only [D.py, PyData.eqv, D.lst.injEq]
      exact eqvL_iff x y (by simpa [D.nb] using ha) (by simpa [D.nb] using hb)
    | _ => first | (simp [D.nb] at hb; done) | simp [D.py, PyData.eqv]
  | .bl _, _, ha, _ => by simp [D.nb] at ha
  | .dic _, _, ha, _ => by simp [D.nb] at ha
  | .hd _, _, ha, _ => by simp [D.nb] at ha
  | .obj _ _, _, ha, _ => by simp [D.nb] at ha
  | .exc _ _, _, ha, _ => by simp [D.nb] at ha
theorem eqvL_iff : ∀ a b : List D, D.nbL a = true → D.nbL b = true → (PyData.eqvAll (D.pyL a) (D.pyL b) = true ↔ a = b)
  | [], [], _, _ => by simp [D.pyL, PyData.eqvAll]
  | [], _ :: _, _, _ => by simp [D.pyL, PyData.eqvAll]
  | _ :: _, [], _, _ => by simp [D.pyL, PyData.eqvAll]
  | x :: a, y :: b, ha, hb => by
    simp only [D.nbL, Bool.and_eq_true] at ha hb
    simp only [D.pyL, PyData.eqvAll, Bool.and_eq_true, eqv_iff x y ha.1 hb.1, eqvL_iff a b ha.2 hb.2, List.cons.injEq]
end
theorem nbL_of {l : List D} (h : ∀ d ∈ l, d.nb = true) : D.nbL l = true := by
  induction l with
  | nil => rfl
  | cons d l ih =>
    simp only [D.nbL, Bool.and_eq_true]
    exact ⟨h d List.mem_cons_self, ih fun x hx => h x (List.mem_cons_of_mem _ hx)⟩
theorem flatL_of {l : List D} (h : ∀ d ∈ l, d.flat = true) : D.flatL l = true := by
  induction l with
  | nil => rfl
  | cons d l ih =>
    simp only [D.flatL, Bool.and_eq_true]
    exact ⟨h d List.mem_cons_self, ih fun x hx => h x (List.mem_cons_of_mem _ hx)⟩
/-- data that may be held against one another -/
structure Pl (d : D) : Prop where
  nb : d.nb = true
  fl : d.flat = true
  dp : d.dep ≤ 60
theorem Pl.ok {d : D} (h : Pl d) : d.eqOk = true := by
  unfold D.eqOk
  rw [h.fl, decide_eq_true h.dp]
  rfl
theorem eqD_tt {a b : List D} (ha : Pl (.tup a)) (hb : Pl (.tup b)) : eqD (.tup a) (.tup b) = some (PyData.eqv (D.tup a).py (D.tup b).py) := by
  show (if (D.tup a).eqOk && (D.tup b).eqOk then some (PyData.eqv (D.tup a).py (D.tup b).py) else none) = _
  rw [ha.ok, hb.ok]
  rfl
theorem eqD_ll {a b : List D} (ha : Pl (.lst a)) (hb : Pl (.lst b)) : eqD (.lst a) (.lst b) = some (PyData.eqv (D.lst a).py (D.lst b).py) := by
  show (if (D.lst a).eqOk && (D.lst b).eqOk then some (PyData.eqv (D.lst a).py (D.lst b).py) else none) = _
  rw [ha.ok, hb.ok]
  rfl
theorem eqv_ne {a b : D} (ha : Pl a) (hb : Pl b) (h : a ≠ b) : PyData.eqv a.py b.py = false := by
  cases q : PyData.eqv a.py b.py with
  | false => rfl
  | true => exact absurd ((eqv_iff a b ha.nb hb.nb).mp q) h
theorem eqv_eq {a : D} (ha : Pl a) : PyData.eqv a.py a.py = true := (eqv_iff a a ha.nb ha.nb).mpr rfl
theorem eq_tup_self {a : List D} (h : Pl (.tup a)) : cmpD .eq (.tup a) (.tup a) = some true := (eqD_tt h h).trans (by rw [eqv_eq h])
theorem ne_tup_self {a : List D} (h : Pl (.tup a)) : cmpD .ne (.tup a) (.tup a) = some false := by
  show (eqD (.tup a) (.tup a)).map (!·) = _
  rw [eqD_tt h h, eqv_eq h]
  rfl
theorem eq_lst_self {a : List D} (h : Pl (.lst a)) : cmpD .eq (.lst a) (.lst a) = some true := (eqD_ll h h).trans (by rw [eqv_eq h])
theorem ne_lst_self {a : List D} (h : Pl (.lst a)) : cmpD .ne (.lst a) (.lst a) = some false := by
  show (eqD (.lst a) (.lst a)).map (!·) = _
  rw [eqD_ll h h, eqv_eq h]
  rfl
theorem ne_tup_ne {a b : List D} (h : Pl (.tup a)) (h2 : Pl (.tup b)) (e : a ≠ b) : cmpD .ne (.tup a) (.tup b) = some true := by
  show (eqD (.tup a) (.tup b)).map (!·) = _
  rw [eqD_tt h h2, eqv_ne h h2 (fun z => e (D.tup.inj z))]
  rfl
theorem eq_tup_ne {a b : List D} (h : Pl (.tup a)) (h2 : Pl (.tup b)) (e : a ≠ b) : cmpD .eq (.tup a) (.tup b) = some false := (eqD_tt h h2).trans (by rw [eqv_ne h h2 fun z => e (D.tup.inj z)])
theorem Pl.tab (p : Nat) (f : Nat → Int) : Pl (.tup (tab p f)) := by
  refine ⟨nbL_of fun d hd => ?_, flatL_of fun d hd => ?_, ?_⟩
  · obtain ⟨i, hi, rfl⟩ := tabD_mem.mp hd
    rfl
  · obtain ⟨i, hi, rfl⟩ := tabD_mem.mp hd
    rfl
  · simp only [D.dep, dep_tab]
    omega
end Lp

end
namespace Lp
open PySem
def b__law_bag : List Stm := [(.ret (.lst (.cons (.bi .max (.cons (.cst (.int 0)) (.cons (.bin .sub (.var 0) (.bin .pow (.cst (.int 10)) (.cst (.int 18)))) .nil))) (.cons (.var 0) (.cons (.cst (.int 0)) .nil)))))]
def f__law_bag : Fn := ⟨1, 1, [], b__law_bag⟩
def b__law_pick : List Stm := [(.setix (.var 0) (.cst (.int 2)) (.bin .add (.ix (.var 0) (.cst (.int 2))) (.cst (.int 1)))), (.ifs (.cmp .gt (.ix (.var 0) (.cst (.int 0))) (.cst (.int 0))) [(.set (.nm 2) (.bin .mod (.ix (.var 0) (.cst (.int 0))) (.var 1))), (.setix (.var 0) (.cst (.int 0)) (.bin .fdiv (.ix (.var 0) (.cst (.int 0))) (.var 1))), (.ret (.var 2))] []), (.set (.nm 3) (.bin .mod (.bin .add (.bin .add (.bin .mul (.bin .mod (.ix (.var 0) (.cst (.int 1))) (.cst (.int 2147483629))) (.cst (.int 48271))) (.bin .mul (.ix (.var 0) (.cst (.int 2))) (.cst (.int 69621)))) (.cst (.int 12345))) (.cst (.int 2147483647)))), (.set (.nm 4) (.bin .mod (.bin .add (.bin .mul (.var 3) (.var 3)) (.bin .mul (.ix (.var 0) (.cst (.int 2))) (.cst (.int 40692)))) (.cst (.int 2147483587)))), (.ret (.bin .mod (.bin .fdiv (.bin .add (.bin .mul (.var 3) (.cst (.int 2147483587))) (.var 4)) (.cst (.int 32))) (.var 1)))]
def f__law_pick : Fn := ⟨2, 5, [0], b__law_pick⟩
def b_is_whole : List Stm := [(.ret (.and (.isi (.var 0) [.int]) (.not (.isi (.var 0) [.bool]))))]
def f_is_whole : Fn := ⟨1, 1, [], b_is_whole⟩
def b_is_within : List Stm := [(.ret (.and (.call (Str.ofString "is_whole") (.cons (.var 0) .nil)) (.chain .le .le (.var 1) (.var 0) (.var 2))))]
def f_is_within : Fn := ⟨3, 3, [], b_is_within⟩
def b__law_class : List Stm := [(.ifs (.isx (.var 0) [(Str.ofString "NoKnown")]) [(.set (.nm 1) (.cst (.str [78, 111, 75, 110, 111, 119, 110])))] [(.ifs (.isx (.var 0) [(Str.ofString "NoText")]) [(.set (.nm 1) (.cst (.str [78, 111, 84, 101, 120, 116])))] [(.ifs (.isx (.var 0) [(Str.ofString "NoPairs")]) [(.set (.nm 1) (.cst (.str [78, 111, 80, 97, 105, 114, 115])))] [(.ifs (.isx (.var 0) [(Str.ofString "NoLoop")]) [(.set (.nm 1) (.cst (.str [78, 111, 76, 111, 111, 112])))] [(.ifs (.isx (.var 0) [(Str.ofString "NoCoder")]) [(.set (.nm 1) (.cst (.str [78, 111, 67, 111, 100, 101, 114])))] [(.ifs (.isx (.var 0) [(Str.ofString "NoCount")]) [(.set (.nm 1) (.cst (.str [78, 111, 67, 111, 117, 110, 116])))] [(.set (.nm 1) (.ite (.isx (.var 0) [(Str.ofString "NotRound")]) (.cst (.str [78, 111, 116, 82, 111, 117, 110, 100])) (.cst (.str [111, 100, 100]))))])])])])])]), (.set (.nm 2) (.lst (.cons (.isx (.var 0) [(Str.ofString "NoCounts"), (Str.ofString "NoLog"), (Str.ofString "NoPlace"), (Str.ofString "NoRow"), (Str.ofString "NoSign"), (Str.ofString "NoTree"), (Str.ofString "NoWord"), (Str.ofString "NotLike"), (Str.ofString "Nothing")]) .nil))), (.set (.nm 2) (.bin .add (.var 2) (.lst (.cons (.isx (.var 0) [(Str.ofString "NoKnown")]) (.cons (.isx (.var 0) [(Str.ofString "NoText")]) (.cons (.isx (.var 0) [(Str.ofString "NoPairs")]) .nil)))))), (.set (.nm 2) (.bin .add (.var 2) (.lst (.cons (.isx (.var 0) [(Str.ofString "NoLoop")]) (.cons (.isx (.var 0) [(Str.ofString "NoCoder")]) (.cons (.isx (.var 0) [(Str.ofString "NoCount")]) .nil)))))), (.expr (.mt .append (.var 2) (.cons (.isx (.var 0) [(Str.ofString "NotRound")]) .nil))), (.ret (.ite (.and (.cmp .eq (.mt .count (.var 2) (.cons (.cst (.bl true)) .nil)) (.cst (.int 1))) (.isx (.var 0) [(Str.ofString "ValueError")])) (.var 1) (.cst (.str [111, 100, 100]))))]
def f__law_class : Fn := ⟨1, 3, [], b__law_class⟩
def b_is_coder (gMOST_PLACES : Str) : List Stm := [(.ifs (.or (.not (.isi (.var 0) [.tuple])) (.or (.cmp .ne (.bi .len (.cons (.var 0) .nil)) (.cst (.int 2))) (.not (.isi (.ix (.var 0) (.cst (.int 1))) [.tuple])))) [(.ret (.cst (.bl false)))] []), (.set (.tp (.cons (.nm 1) (.cons (.nm 2) .nil))) (.var 0)), (.ifs (.or (.not (.chain .le .le (.cst (.int 1)) (.bi .len (.cons (.var 2) .nil)) (.glob gMOST_PLACES))) (.not (.bi .all (.cons (.lc [3] (.nm 3) (.sq (.var 2)) (.cst (.bl true)) (.and (.call (Str.ofString "is_whole") (.cons (.var 3) .nil)) (.cmp .ge (.var 3) (.cst (.int 0))))) .nil)))) [(.ret (.cst (.bl false)))] []), (.ret (.call (Str.ofString "is_within") (.cons (.var 1) (.cons (.cst (.int 0)) (.cons (.bin .sub (.bi .len (.cons (.var 2) .nil)) (.cst (.int 1))) .nil)))))]
def f_is_coder (gMOST_PLACES : Str) : Fn := ⟨1, 4, [], b_is_coder gMOST_PLACES⟩
def b_need_coder : List Stm := [(.ifs (.not (.call (Str.ofString "is_coder") (.cons (.var 0) .nil))) [(.raise (Str.ofString "NoCoder") none)] [])]
def f_need_coder : Fn := ⟨1, 1, [], b_need_coder⟩
def b_need_count : List Stm := [(.ifs (.not (.call (Str.ofString "is_within") (.cons (.var 0) (.cons (.var 1) (.cons (.var 2) .nil))))) [(.raise (Str.ofString "NoCount") none)] [])]
def f_need_count : Fn := ⟨3, 3, [], b_need_count⟩
def b_stepped : List Stm := [(.set (.tp (.cons (.nm 1) (.cons (.nm 2) .nil))) (.var 0)), (.set (.nm 3) (.bin .add (.ix (.var 2) (.var 1)) (.cst (.int 1)))), (.ret (.tup (.cons (.bin .mod (.bin .add (.var 1) (.var 3)) (.bi .len (.cons (.var 2) .nil))) (.cons (.bin .add (.bin .add (.sl (.var 2) .nosl (.var 1)) (.tup (.cons (.var 3) .nil))) (.sl (.var 2) (.bin .add (.var 1) (.cst (.int 1))) .nosl)) .nil))))]
def f_stepped : Fn := ⟨1, 4, [], b_stepped⟩
def b_led : List Stm := [(.set (.tp (.cons (.nm 1) (.cons (.nm 2) .nil))) (.var 0)), (.ret (.lc [3, 4] (.tp (.cons (.nm 3) (.cons (.nm 4) .nil))) (.en (.var 2)) (.cst (.bl true)) (.bin .mod (.bin .add (.var 3) (.var 4)) (.bi .len (.cons (.var 2) .nil)))))]
def f_led : Fn := ⟨1, 5, [], b_led⟩
def b_leads_here : List Stm := [(.set (.nm 1) (.call (Str.ofString "led") (.cons (.var 0) .nil))), (.set (.nm 2) (.dct (.cons (.ix (.var 0) (.cst (.int 0))) .nil) (.cons (.cst (.bl true)) .nil))), (.set (.nm 3) (.lst (.cons (.ix (.var 0) (.cst (.int 0))) .nil))), (.whl (.cmp .ne (.var 3) (.lst .nil)) [(.set (.nm 4) (.mt .pop (.var 3) .nil)), (.for_ (.tp (.cons (.nm 5) (.cons (.nm 6) .nil))) (.en (.var 1)) [(.ifs (.and (.cmp .eq (.var 6) (.var 4)) (.cmp .notin (.var 5) (.var 2))) [(.setix (.var 2) (.var 5) (.cst (.bl true))), (.expr (.mt .append (.var 3) (.cons (.var 5) .nil)))] [])])]), (.ret (.cmp .eq (.bi .len (.cons (.var 2) .nil)) (.bi .len (.cons (.var 1) .nil))))]
def f_leads_here : Fn := ⟨1, 7, [], b_leads_here⟩
def b_to_round : List Stm := [(.par [1, 2] (.cons (.cst (.int 0)) (.cons (.var 0) .nil))), (.whl (.not (.call (Str.ofString "leads_here") (.cons (.var 2) .nil))) [(.par [1, 2] (.cons (.bin .add (.var 1) (.cst (.int 1))) (.cons (.call (Str.ofString "stepped") (.cons (.var 2) .nil)) .nil)))]), (.ret (.tup (.cons (.var 1) (.cons (.var 2) .nil))))]
def f_to_round : Fn := ⟨1, 3, [], b_to_round⟩
def b_raised : List Stm := [(.ret (.tup (.cons (.ix (.var 0) (.cst (.int 0))) (.cons (.bi .tuple (.cons (.lc [2] (.nm 2) (.sq (.ix (.var 0) (.cst (.int 1)))) (.cst (.bl true)) (.bin .add (.var 2) (.var 1))) .nil)) .nil))))]
def f_raised : Fn := ⟨2, 3, [], b_raised⟩
def b_gone_on : List Stm := [(.set (.tp (.cons (.nm 2) (.cons (.nm 3) .nil))) (.call (Str.ofString "to_round") (.cons (.var 0) .nil))), (.ifs (.cmp .le (.var 1) (.var 2)) [(.par [3, 4] (.cons (.var 0) (.cons (.var 1) .nil)))] [(.set (.nm 5) (.bi .len (.cons (.ix (.var 0) (.cst (.int 1))) .nil))), (.set (.tp (.cons (.nm 6) (.cons (.nm 4) .nil))) (.bi .divmod (.cons (.bin .sub (.var 1) (.var 2)) (.cons (.bin .mul (.var 5) (.var 5)) .nil)))), (.set (.nm 3) (.call (Str.ofString "raised") (.cons (.var 3) (.cons (.bin .mul (.var 6) (.var 5)) .nil))))]), (.for_ (.nm 7) (.rg1 (.var 4)) [(.set (.nm 3) (.call (Str.ofString "stepped") (.cons (.var 3) .nil)))]), (.ret (.var 3))]
def f_gone_on : Fn := ⟨2, 8, [], b_gone_on⟩
def b_step : List Stm := [(.expr (.call (Str.ofString "need_coder") (.cons (.var 0) .nil))), (.ret (.call (Str.ofString "stepped") (.cons (.var 0) .nil)))]
def f_step : Fn := ⟨1, 1, [], b_step⟩
def b_behind : List Stm := [(.expr (.call (Str.ofString "need_coder") (.cons (.var 0) .nil))), (.expr (.call (Str.ofString "need_count") (.cons (.var 1) (.cons (.cst (.int 0)) (.cons (.glob (Str.ofString "MOST_STEPS")) .nil))))), (.ret (.call (Str.ofString "gone_on") (.cons (.var 0) (.cons (.var 1) .nil))))]
def f_behind : Fn := ⟨2, 2, [], b_behind⟩
def b_words_of : List Stm := [(.expr (.call (Str.ofString "need_coder") (.cons (.var 0) .nil))), (.expr (.call (Str.ofString "need_count") (.cons (.var 1) (.cons (.cst (.int 0)) (.cons (.glob (Str.ofString "MOST_WORDS")) .nil))))), (.set (.nm 2) (.lst .nil)), (.set (.nm 3) (.var 0)), (.for_ (.nm 4) (.rg1 (.var 1)) [(.set (.nm 5) (.ix (.var 3) (.cst (.int 0)))), (.set (.nm 3) (.call (Str.ofString "stepped") (.cons (.var 3) .nil))), (.expr (.mt .append (.var 2) (.cons (.tup (.cons (.var 5) (.cons (.ix (.ix (.var 3) (.cst (.int 1))) (.var 5)) .nil))) .nil)))]), (.ret (.var 2))]
def f_words_of : Fn := ⟨2, 6, [], b_words_of⟩
def b__law_coder : List Stm := [(.set (.nm 2) (.bin .add (.cst (.int 1)) (.call (Str.ofString "_law_pick") (.cons (.var 0) (.cons (.var 1) .nil))))), (.set (.nm 3) (.ix (.lst (.cons (.cst (.int 1)) (.cons (.bin .add (.var 2) (.cst (.int 1))) (.cons (.cst (.int 30)) (.cons (.bin .pow (.cst (.int 10)) (.cst (.int 9))) (.cons (.bin .pow (.cst (.int 10)) (.cst (.int 29))) .nil)))))) (.call (Str.ofString "_law_pick") (.cons (.var 0) (.cons (.cst (.int 5)) .nil))))), (.ret (.tup (.cons (.call (Str.ofString "_law_pick") (.cons (.var 0) (.cons (.var 2) .nil))) (.cons (.bi .tuple (.cons (.lc [4] (.nm 4) (.rg1 (.var 2)) (.cst (.bl true)) (.call (Str.ofString "_law_pick") (.cons (.var 0) (.cons (.var 3) .nil)))) .nil)) .nil))))]
def f__law_coder : Fn := ⟨2, 5, [0], b__law_coder⟩
def b__law_many : List Stm := [(.set (.nm 2) (.lst (.cons (.call (Str.ofString "_law_pick") (.cons (.var 0) (.cons (.cst (.int 400)) .nil))) (.cons (.bin .add (.bin .mul (.bin .mul (.var 1) (.var 1)) (.call (Str.ofString "_law_pick") (.cons (.var 0) (.cons (.bin .pow (.cst (.int 10)) (.cst (.int 9))) .nil)))) (.call (Str.ofString "_law_pick") (.cons (.var 0) (.cons (.cst (.int 5)) .nil)))) (.cons (.call (Str.ofString "_law_pick") (.cons (.var 0) (.cons (.bin .pow (.cst (.int 10)) (.cst (.int 17))) .nil))) .nil))))), (.ret (.ix (.var 2) (.call (Str.ofString "_law_pick") (.cons (.var 0) (.cons (.cst (.int 3)) .nil)))))]
def f__law_many : Fn := ⟨2, 3, [0], b__law_many⟩
def b__law_raised : List Stm := [(.ret (.tup (.cons (.ix (.var 0) (.cst (.int 0))) (.cons (.bi .tuple (.cons (.lc [2, 3] (.tp (.cons (.nm 2) (.cons (.nm 3) .nil))) (.zp (.ix (.var 0) (.cst (.int 1))) (.var 1)) (.cst (.bl true)) (.bin .add (.var 2) (.var 3))) .nil)) .nil))))]
def f__law_raised : Fn := ⟨2, 4, [], b__law_raised⟩
def b_law_v5 : List Stm := [(.for_ (.nm 1) (.sq (.bin .add (.sl (.var 0) .nosl (.cst (.int 12))) (.lst (.cons (.cst (.int 0)) .nil)))) [(.set (.nm 2) (.call (Str.ofString "_law_bag") (.cons (.var 1) .nil))), (.set (.nm 3) (.call (Str.ofString "_law_coder") (.cons (.var 2) (.cons (.cst (.int 12)) .nil)))), (.set (.nm 4) (.bi .len (.cons (.ix (.var 3) (.cst (.int 1))) .nil))), (.for_ (.nm 5) (.rg1 (.cst (.int 4))) [(.par [6, 7] (.cons (.call (Str.ofString "_law_many") (.cons (.var 2) (.cons (.var 4) .nil))) (.cons (.call (Str.ofString "_law_many") (.cons (.var 2) (.cons (.var 4) .nil))) .nil))), (.set (.nm 8) (.call (Str.ofString "behind") (.cons (.var 3) (.cons (.var 6) .nil)))), (.ifs (.cmp .ne (.bi .repr (.cons (.call (Str.ofString "behind") (.cons (.var 8) (.cons (.var 7) .nil))) .nil)) (.bi .repr (.cons (.call (Str.ofString "behind") (.cons (.var 3) (.cons (.bin .add (.var 6) (.var 7)) .nil))) .nil))) [(.ret (.cst (.bl false)))] []), (.ifs (.cmp .ne (.bi .repr (.cons (.call (Str.ofString "behind") (.cons (.var 8) (.cons (.bin .sub (.bin .pow (.cst (.int 10)) (.cst (.int 18))) (.var 6)) .nil))) .nil)) (.bi .repr (.cons (.call (Str.ofString "behind") (.cons (.var 3) (.cons (.bin .pow (.cst (.int 10)) (.cst (.int 18))) .nil))) .nil))) [(.ret (.cst (.bl false)))] []), (.ifs (.or (.cmp .ne (.bi .repr (.cons (.call (Str.ofString "behind") (.cons (.var 3) (.cons (.bin .add (.var 6) (.cst (.int 1))) .nil))) .nil)) (.bi .repr (.cons (.call (Str.ofString "step") (.cons (.var 8) .nil)) .nil))) (.cmp .ne (.call (Str.ofString "behind") (.cons (.var 3) (.cons (.cst (.int 0)) .nil))) (.var 3))) [(.ret (.cst (.bl false)))] []), (.set (.nm 9) (.bin .add (.bin .add (.var 6) (.bin .mul (.bin .mul (.var 4) (.var 4)) (.cst (.int 2)))) (.cst (.int 2)))), (.set (.nm 10) (.call (Str.ofString "behind") (.cons (.var 3) (.cons (.var 9) .nil)))), (.ifs (.cmp .ne (.bi .repr (.cons (.call (Str.ofString "behind") (.cons (.var 3) (.cons (.bin .add (.var 9) (.bin .mul (.var 4) (.var 4))) .nil))) .nil)) (.bi .repr (.cons (.call (Str.ofString "_law_raised") (.cons (.var 10) (.cons (.bin .mul (.lst (.cons (.var 4) .nil)) (.var 4)) .nil))) .nil))) [(.ret (.cst (.bl false)))] []), (.set (.nm 11) (.lc [12] (.nm 12) (.rg1 (.var 4)) (.cst (.bl true)) (.bin .mul (.var 4) (.call (Str.ofString "_law_pick") (.cons (.var 2) (.cons (.bin .pow (.cst (.int 10)) (.cst (.int 9))) .nil)))))), (.ifs (.cmp .ne (.bi .repr (.cons (.call (Str.ofString "behind") (.cons (.call (Str.ofString "_law_raised") (.cons (.var 3) (.cons (.var 11) .nil))) (.cons (.var 6) .nil))) .nil)) (.bi .repr (.cons (.call (Str.ofString "_law_raised") (.cons (.var 8) (.cons (.var 11) .nil))) .nil))) [(.ret (.cst (.bl false)))] [])])]), (.ret (.cst (.bl true)))]
def f_law_v5 : Fn := ⟨1, 13, [], b_law_v5⟩
def b_in_round : List Stm := [(.expr (.call (Str.ofString "need_coder") (.cons (.var 0) .nil))), (.ret (.call (Str.ofString "leads_here") (.cons (.var 0) .nil)))]
def f_in_round : Fn := ⟨1, 1, [], b_in_round⟩
def b_ahead : List Stm := [(.expr (.call (Str.ofString "need_coder") (.cons (.var 0) .nil))), (.ret (.ix (.call (Str.ofString "to_round") (.cons (.var 0) .nil)) (.cst (.int 0))))]
def f_ahead : Fn := ⟨1, 1, [], b_ahead⟩
def b_tree_of : List Stm := [(.expr (.call (Str.ofString "need_coder") (.cons (.var 0) .nil))), (.set (.tp (.cons (.nm 1) (.cons (.nm 2) .nil))) (.call (Str.ofString "to_round") (.cons (.var 0) .nil))), (.set (.nm 3) (.bi .len (.cons (.ix (.var 2) (.cst (.int 1))) .nil))), (.whl (.or (.cmp .ne (.ix (.var 2) (.cst (.int 0))) (.cst (.int 0))) (.cmp .ne (.bin .mod (.ix (.ix (.var 2) (.cst (.int 1))) (.cst (.int 0))) (.var 3)) (.cst (.int 0)))) [(.set (.nm 2) (.call (Str.ofString "stepped") (.cons (.var 2) .nil)))]), (.ret (.bi .tuple (.cons (.sl (.call (Str.ofString "led") (.cons (.var 2) .nil)) (.cst (.int 1)) .nosl) .nil)))]
def f_tree_of : Fn := ⟨1, 4, [], b_tree_of⟩
def b__law_urn : List Stm := [(.ret (.lst (.cons (.bi .max (.cons (.cst (.int 0)) (.cons (.bin .sub (.var 0) (.bin .pow (.cst (.int 10)) (.cst (.int 18)))) .nil))) (.cons (.bin .mod (.var 0) (.bin .add (.bin .pow (.cst (.int 10)) (.cst (.int 35))) (.cst (.int 69)))) (.cons (.cst (.int 0)) .nil)))))]
def f__law_urn : Fn := ⟨1, 1, [], b__law_urn⟩
def b__law_pull : List Stm := [(.ifs (.cmp .gt (.ix (.var 0) (.cst (.int 0))) (.cst (.int 0))) [(.set (.nm 2) (.bin .mod (.ix (.var 0) (.cst (.int 0))) (.var 1))), (.setix (.var 0) (.cst (.int 0)) (.bin .fdiv (.ix (.var 0) (.cst (.int 0))) (.var 1))), (.ret (.var 2))] []), (.setix (.var 0) (.cst (.int 2)) (.bin .add (.ix (.var 0) (.cst (.int 2))) (.cst (.int 1)))), (.set (.nm 3) (.bin .mod (.bin .pow (.bin .add (.ix (.var 0) (.cst (.int 1))) (.bin .mul (.cst (.int 32452843)) (.ix (.var 0) (.cst (.int 2))))) (.cst (.int 3))) (.bin .add (.bin .pow (.cst (.int 10)) (.cst (.int 38))) (.cst (.int 133))))), (.set (.nm 3) (.bin .mod (.bin .pow (.bin .add (.var 3) (.bin .mul (.cst (.int 86028121)) (.ix (.var 0) (.cst (.int 2))))) (.cst (.int 5))) (.bin .add (.bin .pow (.cst (.int 10)) (.cst (.int 36))) (.cst (.int 67))))), (.ret (.bin .mod (.bin .fdiv (.var 3) (.cst (.int 1048576))) (.var 1)))]
def f__law_pull : Fn := ⟨2, 4, [0], b__law_pull⟩
def b__law_coder_v2 : List Stm := [(.set (.nm 2) (.bin .add (.cst (.int 1)) (.call (Str.ofString "_law_pull") (.cons (.var 0) (.cons (.var 1) .nil))))), (.set (.nm 3) (.call (Str.ofString "_law_pull") (.cons (.var 0) (.cons (.cst (.int 4)) .nil)))), (.set (.nm 4) (.lst .nil)), (.for_ (.nm 5) (.rg1 (.var 2)) [(.par [6, 7] (.cons (.call (Str.ofString "_law_pull") (.cons (.var 0) (.cons (.cst (.int 3)) .nil))) (.cons (.call (Str.ofString "_law_pull") (.cons (.var 0) (.cons (.bin .mul (.cst (.int 3)) (.var 2)) .nil))) .nil))), (.set (.nm 8) (.ix (.lst (.cons (.var 6) (.cons (.var 7) (.cons (.bin .sub (.bin .sub (.bin .pow (.cst (.int 10)) (.cst (.int 30))) (.bin .pow (.cst (.int 10)) (.cst (.int 12)))) (.call (Str.ofString "_law_pull") (.cons (.var 0) (.cons (.cst (.int 99)) .nil)))) (.cons (.call (Str.ofString "_law_pull") (.cons (.var 0) (.cons (.bin .pow (.cst (.int 10)) (.cst (.int 29))) .nil))) .nil))))) (.call (Str.ofString "_law_pull") (.cons (.var 0) (.cons (.cst (.int 4)) .nil))))), (.expr (.mt .append (.var 4) (.cons (.ix (.lst (.cons (.var 6) (.cons (.var 7) (.cons (.bin .add (.bin .sub (.var 2) (.cst (.int 1))) (.bin .mul (.var 2) (.call (Str.ofString "_law_pull") (.cons (.var 0) (.cons (.cst (.int 3)) .nil))))) (.cons (.var 8) .nil))))) (.var 3)) .nil)))]), (.ret (.tup (.cons (.call (Str.ofString "_law_pull") (.cons (.var 0) (.cons (.var 2) .nil))) (.cons (.bi .tuple (.cons (.var 4) .nil)) .nil))))]
def f__law_coder_v2 : Fn := ⟨2, 9, [0], b__law_coder_v2⟩
def b__law_step_v2 : List Stm := [(.set (.tp (.cons (.nm 1) (.cons (.nm 2) .nil))) (.var 0)), (.set (.nm 3) (.bi .list (.cons (.var 2) .nil))), (.setix (.var 3) (.var 1) (.bin .add (.ix (.var 3) (.var 1)) (.cst (.int 1)))), (.ret (.tup (.cons (.bin .mod (.bin .add (.var 1) (.ix (.var 3) (.var 1))) (.bi .len (.cons (.var 3) .nil))) (.cons (.bi .tuple (.cons (.var 3) .nil)) .nil))))]
def f__law_step_v2 : Fn := ⟨1, 4, [], b__law_step_v2⟩
def b__law_goals : List Stm := [(.set (.nm 1) (.bi .len (.cons (.ix (.var 0) (.cst (.int 1))) .nil))), (.ret (.lc [2] (.nm 2) (.rg1 (.var 1)) (.cst (.bl true)) (.bin .mod (.bin .add (.var 2) (.ix (.ix (.var 0) (.cst (.int 1))) (.var 2))) (.var 1))))]
def f__law_goals : Fn := ⟨1, 3, [], b__law_goals⟩
def b__law_home : List Stm := [(.for_ (.nm 2) (.rg1 (.bi .len (.cons (.var 0) .nil))) [(.set (.nm 3) (.var 2)), (.for_ (.nm 4) (.rg1 (.bi .len (.cons (.var 0) .nil))) [(.set (.nm 3) (.ite (.cmp .eq (.var 3) (.var 1)) (.var 3) (.ix (.var 0) (.var 3))))]), (.ifs (.cmp .ne (.var 3) (.var 1)) [(.ret (.cst (.bl false)))] [])]), (.ret (.cst (.bl true)))]
def f__law_home : Fn := ⟨2, 5, [], b__law_home⟩
def b__law_in_round : List Stm := [(.set (.nm 1) (.cst (.int 0))), (.whl (.not (.call (Str.ofString "_law_home") (.cons (.call (Str.ofString "_law_goals") (.cons (.var 0) .nil)) (.cons (.ix (.var 0) (.cst (.int 0))) .nil)))) [(.set (.nm 0) (.call (Str.ofString "_law_step") (.cons (.var 0) .nil))), (.set (.nm 1) (.bin .add (.var 1) (.cst (.int 1))))]), (.ret (.tup (.cons (.var 1) (.cons (.var 0) .nil))))]
def f__law_in_round : Fn := ⟨1, 2, [], b__law_in_round⟩
def b__law_tree : List Stm := [(.set (.nm 1) (.ix (.call (Str.ofString "_law_in_round") (.cons (.var 0) .nil)) (.cst (.int 1)))), (.whl (.or (.cmp .ne (.ix (.var 1) (.cst (.int 0))) (.cst (.int 0))) (.cmp .ne (.bin .mod (.ix (.ix (.var 1) (.cst (.int 1))) (.cst (.int 0))) (.bi .len (.cons (.ix (.var 1) (.cst (.int 1))) .nil))) (.cst (.int 0)))) [(.set (.nm 1) (.call (Str.ofString "_law_step") (.cons (.var 1) .nil)))]), (.ret (.bi .tuple (.cons (.sl (.call (Str.ofString "_law_goals") (.cons (.var 1) .nil)) (.cst (.int 1)) .nosl) .nil)))]
def f__law_tree : Fn := ⟨1, 2, [], b__law_tree⟩
def b_law_v10 : List Stm := [(.for_ (.nm 1) (.sq (.bin .add (.sl (.var 0) .nosl (.cst (.int 8))) (.lst (.cons (.cst (.int 0)) .nil)))) [(.set (.nm 2) (.call (Str.ofString "_law_urn") (.cons (.var 1) .nil))), (.for_ (.nm 3) (.rg1 (.cst (.int 3))) [(.set (.nm 4) (.call (Str.ofString "_law_coder") (.cons (.var 2) (.cons (.ix (.lst (.cons (.cst (.int 5)) (.cons (.cst (.int 12)) .nil))) (.call (Str.ofString "_law_pull") (.cons (.var 2) (.cons (.cst (.int 2)) .nil)))) .nil)))), (.set (.nm 5) (.bi .repr (.cons (.var 4) .nil))), (.set (.nm 6) (.call (Str.ofString "_law_tree") (.cons (.var 4) .nil))), (.for_ (.nm 7) (.rg1 (.cst (.int 2))) [(.ifs (.or (.cmp .ne (.bi .repr (.cons (.call (Str.ofString "tree_of") (.cons (.var 4) .nil)) .nil)) (.bi .repr (.cons (.var 6) .nil))) (.cmp .ne (.bi .repr (.cons (.var 4) .nil)) (.var 5))) [(.ret (.cst (.bl false)))] [])])])]), (.ret (.cmp .eq (.call (Str.ofString "tree_of") (.cons (.tup (.cons (.cst (.int 0)) (.cons (.tup (.cons (.cst (.int 0)) (.cons (.cst (.int 0)) (.cons (.cst (.int 0)) .nil)))) .nil))) .nil)) (.tup (.cons (.cst (.int 0)) (.cons (.cst (.int 1)) .nil)))))]
def f_law_v10 : Fn := ⟨1, 8, [], b_law_v10⟩
def b_need_many_places : List Stm := [(.ifs (.not (.call (Str.ofString "is_within") (.cons (.var 0) (.cons (.cst (.int 1)) (.cons (.var 1) .nil))))) [(.raise (Str.ofString "NoCount") none)] [])]
def f_need_many_places : Fn := ⟨2, 2, [], b_need_many_places⟩
def b_all_come_home : List Stm := [(.set (.nm 1) (.dct (.cons (.cst (.int 0)) .nil) (.cons (.cst (.bl true)) .nil))), (.for_ (.nm 2) (.rg2 (.cst (.int 1)) (.bin .add (.bi .len (.cons (.var 0) .nil)) (.cst (.int 1)))) [(.set (.nm 3) (.dct .nil .nil)), (.set (.nm 4) (.var 2)), (.whl (.and (.cmp .notin (.var 4) (.var 1)) (.cmp .notin (.var 4) (.var 3))) [(.setix (.var 3) (.var 4) (.cst (.bl true))), (.set (.nm 4) (.ix (.var 0) (.bin .sub (.var 4) (.cst (.int 1)))))]), (.ifs (.cmp .notin (.var 4) (.var 1)) [(.ret (.cst (.bl false)))] []), (.expr (.upd (.var 1) (.var 3)))]), (.ret (.cst (.bl true)))]
def f_all_come_home : Fn := ⟨1, 5, [], b_all_come_home⟩
def b_is_tree (gMOST_PLACES : Str) : List Stm := [(.expr (.call (Str.ofString "need_many_places") (.cons (.var 0) (.cons (.glob gMOST_PLACES) .nil)))), (.ifs (.or (.not (.isi (.var 1) [.tuple])) (.cmp .ne (.bi .len (.cons (.var 1) .nil)) (.bin .sub (.var 0) (.cst (.int 1))))) [(.ret (.cst (.bl false)))] []), (.ret (.and (.bi .all (.cons (.lc [2] (.nm 2) (.sq (.var 1)) (.cst (.bl true)) (.call (Str.ofString "is_within") (.cons (.var 2) (.cons (.cst (.int 0)) (.cons (.bin .sub (.var 0) (.cst (.int 1))) .nil))))) .nil)) (.call (Str.ofString "all_come_home") (.cons (.var 1) .nil))))]
def f_is_tree (gMOST_PLACES : Str) : Fn := ⟨2, 3, [], b_is_tree gMOST_PLACES⟩
def b__law_drawn_tree : List Stm := [(.set (.nm 2) (.rg false (.cst (.int 1)) (.var 1))), (.set (.nm 3) (.lc [4] (.nm 4) (.rg1 (.bin .sub (.var 1) (.cst (.int 1)))) (.cst (.bl true)) (.mt .pop (.var 2) (.cons (.call (Str.ofString "_law_pull") (.cons (.var 0) (.cons (.bi .len (.cons (.var 2) .nil)) .nil))) .nil)))), (.set (.nm 5) (.bin .mul (.lst (.cons (.cst (.int 0)) .nil)) (.var 1))), (.for_ (.nm 6) (.rg1 (.bin .sub (.var 1) (.cst (.int 1)))) [(.setix (.var 5) (.ix (.var 3) (.var 6)) (.ix (.bin .add (.lst (.cons (.cst (.int 0)) .nil)) (.var 3)) (.call (Str.ofString "_law_pull") (.cons (.var 0) (.cons (.bin .add (.var 6) (.cst (.int 1))) .nil)))))]), (.ret (.bi .tuple (.cons (.sl (.var 5) (.cst (.int 1)) .nosl) .nil)))]
def f__law_drawn_tree : Fn := ⟨2, 7, [0], b__law_drawn_tree⟩
def b__law_due_v4 : List Stm := [(.ifs (.or (.not (.isi (.var 1) [.tuple])) (.cmp .ne (.bi .len (.cons (.var 1) .nil)) (.bin .sub (.var 0) (.cst (.int 1))))) [(.ret (.cst (.bl false)))] []), (.for_ (.nm 2) (.sq (.var 1)) [(.ifs (.or (.isi (.var 2) [.bool]) (.or (.not (.isi (.var 2) [.int])) (.or (.cmp .lt (.var 2) (.cst (.int 0))) (.cmp .ge (.var 2) (.var 0))))) [(.ret (.cst (.bl false)))] [])]), (.ret (.call (Str.ofString "_law_home") (.cons (.bin .add (.lst (.cons (.cst (.int 0)) .nil)) (.bi .list (.cons (.var 1) .nil))) (.cons (.cst (.int 0)) .nil))))]
def f__law_due_v4 : Fn := ⟨2, 3, [], b__law_due_v4⟩
def b_coder_of : List Stm := [(.ifs (.not (.call (Str.ofString "is_tree") (.cons (.var 0) (.cons (.var 1) .nil)))) [(.raise (Str.ofString "NoTree") none)] []), (.ret (.tup (.cons (.cst (.int 0)) (.cons (.bin .add (.tup (.cons (.cst (.int 0)) .nil)) (.bi .tuple (.cons (.lc [2, 3] (.tp (.cons (.nm 2) (.cons (.nm 3) .nil))) (.en (.var 1)) (.cst (.bl true)) (.bin .mod (.bin .sub (.bin .sub (.var 3) (.var 2)) (.cst (.int 1))) (.var 0))) .nil))) .nil))))]
def f_coder_of : Fn := ⟨2, 4, [], b_coder_of⟩
def b__law_least : List Stm := [(.ret (.ix (.lc [3] (.nm 3) (.rg1 (.var 2)) (.cmp .eq (.bin .mod (.bin .add (.var 0) (.var 3)) (.var 2)) (.var 1)) (.var 3)) (.cst (.int 0))))]
def f__law_least : Fn := ⟨3, 4, [], b__law_least⟩
def b_law_v12 : List Stm := [(.for_ (.nm 1) (.sq (.bin .add (.sl (.var 0) .nosl (.cst (.int 8))) (.lst (.cons (.cst (.int 0)) .nil)))) [(.set (.nm 2) (.call (Str.ofString "_law_urn") (.cons (.var 1) .nil))), (.for_ (.nm 3) (.rg1 (.cst (.int 4))) [(.set (.nm 4) (.bin .add (.cst (.int 1)) (.call (Str.ofString "_law_pull") (.cons (.var 2) (.cons (.cst (.int 12)) .nil))))), (.set (.nm 5) (.call (Str.ofString "_law_drawn_tree") (.cons (.var 2) (.cons (.var 4) .nil)))), (.set (.nm 6) (.tup (.cons (.cst (.int 0)) (.cons (.bin .add (.tup (.cons (.cst (.int 0)) .nil)) (.bi .tuple (.cons (.lc [7] (.nm 7) (.rg1 (.bin .sub (.var 4) (.cst (.int 1)))) (.cst (.bl true)) (.call (Str.ofString "_law_least") (.cons (.bin .add (.var 7) (.cst (.int 1))) (.cons (.ix (.var 5) (.var 7)) (.cons (.var 4) .nil))))) .nil))) .nil)))), (.for_ (.nm 8) (.rg1 (.cst (.int 2))) [(.ifs (.cmp .ne (.bi .repr (.cons (.call (Str.ofString "coder_of") (.cons (.var 4) (.cons (.var 5) .nil))) .nil)) (.bi .repr (.cons (.var 6) .nil))) [(.ret (.cst (.bl false)))] [])]), (.ifs (.or (.cmp .isnot (.call (Str.ofString "in_round") (.cons (.var 6) .nil)) (.cst (.bl true))) (.or (.cmp .ne (.bi .repr (.cons (.call (Str.ofString "tree_of") (.cons (.var 6) .nil)) .nil)) (.bi .repr (.cons (.var 5) .nil))) (.cmp .isnot (.call (Str.ofString "is_tree") (.cons (.var 4) (.cons (.var 5) .nil))) (.cst (.bl true))))) [(.ret (.cst (.bl false)))] []), (.set (.nm 9) (.call (Str.ofString "_law_coder") (.cons (.var 2) (.cons (.cst (.int 12)) .nil)))), (.set (.nm 10) (.call (Str.ofString "coder_of") (.cons (.bi .len (.cons (.ix (.var 9) (.cst (.int 1))) .nil)) (.cons (.call (Str.ofString "tree_of") (.cons (.var 9) .nil)) .nil)))), (.ifs (.or (.cmp .ne (.call (Str.ofString "tree_of") (.cons (.var 10) .nil)) (.call (Str.ofString "tree_of") (.cons (.var 9) .nil))) (.or (.cmp .ne (.ix (.var 10) (.cst (.int 0))) (.cst (.int 0))) (.or (.cmp .ne (.ix (.ix (.var 10) (.cst (.int 1))) (.cst (.int 0))) (.cst (.int 0))) (.cmp .ge (.bi .max (.cons (.ix (.var 10) (.cst (.int 1))) .nil)) (.bi .len (.cons (.ix (.var 10) (.cst (.int 1))) .nil)))))) [(.ret (.cst (.bl false)))] [])])]), (.ret (.cst (.bl true)))]
def f_law_v12 : Fn := ⟨1, 11, [], b_law_v12⟩
def b_all_trees : List Stm := [(.expr (.call (Str.ofString "need_many_places") (.cons (.var 0) (.cons (.glob (Str.ofString "MOST_LISTED")) .nil)))), (.set (.nm 1) (.lst (.cons (.tup .nil) .nil))), (.for_ (.nm 2) (.rg2 (.cst (.int 1)) (.var 0)) [(.set (.nm 1) (.lc2 [3, 4] (.nm 3) (.sq (.var 1)) (.cst (.bl true)) [4] (.nm 4) (.rg1 (.var 0)) (.cst (.bl true)) (.bin .add (.var 3) (.tup (.cons (.var 4) .nil)))))]), (.ret (.lc [3] (.nm 3) (.sq (.var 1)) (.call (Str.ofString "all_come_home") (.cons (.var 3) .nil)) (.var 3)))]
def f_all_trees : Fn := ⟨1, 5, [], b_all_trees⟩
def b__law_all : List Stm := [(.set (.nm 1) (.lst (.cons (.tup .nil) .nil))), (.for_ (.nm 2) (.rg2 (.cst (.int 1)) (.var 0)) [(.set (.nm 3) (.lst .nil)), (.for_ (.nm 4) (.sq (.var 1)) [(.expr (.mt .extend (.var 3) (.cons (.lc [5] (.nm 5) (.rg1 (.var 0)) (.cst (.bl true)) (.bin .add (.var 4) (.tup (.cons (.var 5) .nil)))) .nil)))]), (.set (.nm 1) (.var 3))]), (.ret (.lc [4] (.nm 4) (.sq (.var 1)) (.call (Str.ofString "_law_home") (.cons (.bin .add (.lst (.cons (.cst (.int 0)) .nil)) (.bi .list (.cons (.var 4) .nil))) (.cons (.cst (.int 0)) .nil))) (.var 4)))]
def f__law_all : Fn := ⟨1, 6, [], b__law_all⟩
def b_law_v13 : List Stm := [(.for_ (.nm 1) (.sq (.bin .add (.sl (.var 0) .nosl (.cst (.int 4))) (.lst (.cons (.cst (.int 0)) .nil)))) [(.set (.nm 2) (.call (Str.ofString "_law_urn") (.cons (.var 1) .nil))), (.set (.nm 3) (.ix (.lst (.cons (.cst (.int 1)) (.cons (.cst (.int 2)) (.cons (.cst (.int 3)) (.cons (.cst (.int 4)) (.cons (.cst (.int 5)) (.cons (.cst (.int 3)) (.cons (.cst (.int 4)) (.cons (.cst (.int 6)) .nil))))))))) (.call (Str.ofString "_law_pull") (.cons (.var 2) (.cons (.cst (.int 8)) .nil))))), (.set (.nm 4) (.call (Str.ofString "_law_all") (.cons (.var 3) .nil))), (.set (.nm 5) (.cst (.int 1))), (.for_ (.nm 6) (.rg1 (.bin .sub (.var 3) (.cst (.int 2)))) [(.set (.nm 5) (.bin .mul (.var 5) (.var 3)))]), (.ifs (.cmp .ne (.bi .len (.cons (.var 4) .nil)) (.var 5)) [(.ret (.cst (.bl false)))] []), (.for_ (.nm 7) (.rg1 (.cst (.int 2))) [(.set (.nm 8) (.call (Str.ofString "all_trees") (.cons (.var 3) .nil))), (.ifs (.cmp .ne (.bi .repr (.cons (.var 8) .nil)) (.bi .repr (.cons (.var 4) .nil))) [(.ret (.cst (.bl false)))] []), (.expr (.mt .reverse (.var 8) .nil)), (.expr (.mt .append (.var 8) (.cons (.tup .nil) .nil)))]), (.for_ (.nm 9) (.rg1 (.cst (.int 8))) [(.set (.nm 10) (.ix (.var 4) (.call (Str.ofString "_law_pull") (.cons (.var 2) (.cons (.var 5) .nil))))), (.ifs (.or (.cmp .isnot (.call (Str.ofString "is_tree") (.cons (.var 3) (.cons (.var 10) .nil))) (.cst (.bl true))) (.cmp .ne (.call (Str.ofString "tree_of") (.cons (.call (Str.ofString "coder_of") (.cons (.var 3) (.cons (.var 10) .nil))) .nil)) (.var 10))) [(.ret (.cst (.bl false)))] [])])]), (.ret (.cst (.bl true)))]
def f_law_v13 : Fn := ⟨1, 11, [], b_law_v13⟩
def b_as_sign : List Stm := [(.ret (.bi .tuple (.cons (.lc [1] (.nm 1) (.sq (.var 0)) (.cst (.bl true)) (.bin .mod (.bin .sub (.var 1) (.ix (.var 0) (.cst (.int 0)))) (.bi .len (.cons (.var 0) .nil)))) .nil)))]
def f_as_sign : Fn := ⟨1, 2, [], b_as_sign⟩
def b_sign_behind : List Stm := [(.set (.nm 4) (.bi .list (.cons (.var 0) .nil))), (.augix (.var 4) (.var 1) .add (.var 3)), (.for_ (.nm 5) (.rg2 (.cst (.int 1)) (.bin .add (.var 3) (.cst (.int 1)))) [(.augix (.var 4) (.bin .mod (.bin .add (.bin .add (.var 1) (.var 2)) (.var 5)) (.bi .len (.cons (.var 0) .nil))) .sub (.cst (.int 1)))]), (.ret (.call (Str.ofString "as_sign") (.cons (.var 4) .nil)))]
def f_sign_behind : Fn := ⟨4, 6, [], b_sign_behind⟩
def b_sign_of : List Stm := [(.expr (.call (Str.ofString "need_coder") (.cons (.var 0) .nil))), (.set (.tp (.cons (.nm 1) (.cons (.nm 2) .nil))) (.var 0)), (.set (.nm 3) (.bi .len (.cons (.var 2) .nil))), (.set (.nm 4) (.call (Str.ofString "as_sign") (.cons (.lc [5] (.nm 5) (.rg1 (.var 3)) (.cst (.bl true)) (.bi .int (.cons (.cmp .eq (.var 5) (.var 1)) .nil))) .nil))), (.for_ (.tp (.cons (.nm 6) (.cons (.nm 7) .nil))) (.en (.var 2)) [(.set (.nm 4) (.call (Str.ofString "sign_behind") (.cons (.var 4) (.cons (.var 6) (.cons (.cst (.int 0)) (.cons (.bin .mod (.var 7) (.var 3)) .nil))))))]), (.ret (.var 4))]
def f_sign_of : Fn := ⟨1, 8, [], b_sign_of⟩
def b_is_sign (gMOST_PLACES : Str) : List Stm := [(.expr (.call (Str.ofString "need_many_places") (.cons (.var 0) (.cons (.glob gMOST_PLACES) .nil)))), (.ifs (.or (.not (.isi (.var 1) [.tuple])) (.or (.cmp .ne (.bi .len (.cons (.var 1) .nil)) (.var 0)) (.not (.bi .all (.cons (.lc [2] (.nm 2) (.sq (.var 1)) (.cst (.bl true)) (.call (Str.ofString "is_within") (.cons (.var 2) (.cons (.cst (.int 0)) (.cons (.bin .sub (.var 0) (.cst (.int 1))) .nil))))) .nil))))) [(.ret (.cst (.bl false)))] []), (.ret (.and (.cmp .eq (.ix (.var 1) (.cst (.int 0))) (.cst (.int 0))) (.cmp .eq (.bin .mod (.bin .sub (.bi .sum (.cons (.var 1) .nil)) (.cst (.int 1))) (.var 0)) (.cst (.int 0)))))]
def f_is_sign (gMOST_PLACES : Str) : Fn := ⟨2, 3, [], b_is_sign gMOST_PLACES⟩
def b__law_sign : List Stm := [(.set (.tp (.cons (.nm 1) (.cons (.nm 2) .nil))) (.var 0)), (.set (.nm 3) (.bi .len (.cons (.var 2) .nil))), (.set (.nm 4) (.bin .mul (.lst (.cons (.cst (.int 0)) .nil)) (.var 3))), (.setix (.var 4) (.var 1) (.cst (.int 1))), (.for_ (.tp (.cons (.nm 5) (.cons (.nm 6) .nil))) (.en (.var 2)) [(.setix (.var 4) (.var 5) (.bin .add (.ix (.var 4) (.var 5)) (.var 6))), (.for_ (.nm 7) (.rg1 (.var 3)) [(.set (.nm 8) (.bin .add (.bin .mod (.bin .sub (.bin .sub (.var 7) (.var 5)) (.cst (.int 1))) (.var 3)) (.cst (.int 1)))), (.setix (.var 4) (.var 7) (.bin .sub (.ix (.var 4) (.var 7)) (.bin .fdiv (.bi .max (.cons (.cst (.int 0)) (.cons (.bin .add (.bin .sub (.var 6) (.var 8)) (.var 3)) .nil))) (.var 3))))])]), (.ret (.bi .tuple (.cons (.lc [9] (.nm 9) (.sq (.var 4)) (.cst (.bl true)) (.bin .mod (.bin .sub (.var 9) (.ix (.var 4) (.cst (.int 0)))) (.var 3))) .nil)))]
def f__law_sign : Fn := ⟨1, 10, [], b__law_sign⟩
def b_need_two : List Stm := [(.expr (.call (Str.ofString "need_coder") (.cons (.var 0) .nil))), (.expr (.call (Str.ofString "need_coder") (.cons (.var 1) .nil))), (.ifs (.cmp .ne (.bi .len (.cons (.ix (.var 0) (.cst (.int 1))) .nil)) (.bi .len (.cons (.ix (.var 1) (.cst (.int 1))) .nil))) [(.raise (Str.ofString "NotLike") none)] [])]
def f_need_two : Fn := ⟨2, 2, [], b_need_two⟩
def b_one_round : List Stm := [(.expr (.call (Str.ofString "need_two") (.cons (.var 0) (.cons (.var 1) .nil)))), (.ret (.cmp .eq (.call (Str.ofString "sign_of") (.cons (.var 0) .nil)) (.call (Str.ofString "sign_of") (.cons (.var 1) .nil))))]
def f_one_round : Fn := ⟨2, 2, [], b_one_round⟩
def b__law_some_v2 : List Stm := [(.set (.nm 2) (.ix (.lst (.cons (.var 1) (.cons (.bin .mul (.cst (.int 3)) (.var 1)) (.cons (.bin .pow (.cst (.int 10)) (.cst (.int 29))) .nil)))) (.call (Str.ofString "_law_pull") (.cons (.var 0) (.cons (.cst (.int 3)) .nil))))), (.ret (.tup (.cons (.call (Str.ofString "_law_pull") (.cons (.var 0) (.cons (.var 1) .nil))) (.cons (.bi .tuple (.cons (.lc [3] (.nm 3) (.rg1 (.var 1)) (.cst (.bl true)) (.call (Str.ofString "_law_pull") (.cons (.var 0) (.cons (.var 2) .nil)))) .nil)) .nil))))]
def f__law_some_v2 : Fn := ⟨2, 4, [0], b__law_some_v2⟩
def b__law_mate : List Stm := [(.set (.tp (.cons (.nm 2) (.cons (.nm 3) .nil))) (.var 1)), (.set (.nm 4) (.bi .len (.cons (.var 3) .nil))), (.set (.nm 5) (.call (Str.ofString "_law_pull") (.cons (.var 0) (.cons (.cst (.int 4)) .nil)))), (.ifs (.cmp .eq (.var 5) (.cst (.int 0))) [(.ret (.call (Str.ofString "_law_some") (.cons (.var 0) (.cons (.var 4) .nil))))] []), (.ifs (.cmp .eq (.var 5) (.cst (.int 1))) [(.for_ (.nm 6) (.rg1 (.call (Str.ofString "_law_pull") (.cons (.var 0) (.cons (.cst (.int 50)) .nil)))) [(.set (.nm 1) (.call (Str.ofString "_law_step") (.cons (.var 1) .nil)))]), (.ret (.var 1))] []), (.set (.nm 7) (.call (Str.ofString "_law_pull") (.cons (.var 0) (.cons (.var 4) .nil)))), (.set (.nm 8) (.bin .add (.bin .add (.sl (.var 3) .nosl (.var 7)) (.tup (.cons (.bin .add (.ix (.var 3) (.var 7)) (.call (Str.ofString "_law_pull") (.cons (.var 0) (.cons (.bin .add (.bin .mul (.cst (.int 2)) (.var 4)) (.cst (.int 1))) .nil)))) .nil))) (.sl (.var 3) (.bin .add (.var 7) (.cst (.int 1))) .nosl))), (.ret (.ix (.lst (.cons (.tup (.cons (.var 2) (.cons (.var 8) .nil))) (.cons (.tup (.cons (.call (Str.ofString "_law_pull") (.cons (.var 0) (.cons (.var 4) .nil))) (.cons (.var 3) .nil))) .nil))) (.bin .sub (.var 5) (.cst (.int 2)))))]
def f__law_mate : Fn := ⟨2, 9, [0], b__law_mate⟩
def b_law_v17 : List Stm := [(.for_ (.nm 1) (.sq (.bin .add (.sl (.var 0) .nosl (.cst (.int 6))) (.lst (.cons (.cst (.int 0)) .nil)))) [(.set (.nm 2) (.call (Str.ofString "_law_urn") (.cons (.var 1) .nil))), (.for_ (.nm 3) (.rg1 (.cst (.int 6))) [(.set (.nm 4) (.call (Str.ofString "_law_some") (.cons (.var 2) (.cons (.bin .add (.cst (.int 2)) (.call (Str.ofString "_law_pull") (.cons (.var 2) (.cons (.ix (.lst (.cons (.cst (.int 5)) (.cons (.cst (.int 11)) .nil))) (.call (Str.ofString "_law_pull") (.cons (.var 2) (.cons (.cst (.int 2)) .nil)))) .nil)))) .nil)))), (.set (.nm 5) (.call (Str.ofString "_law_mate") (.cons (.var 2) (.cons (.var 4) .nil)))), (.set (.nm 6) (.bi .repr (.cons (.lst (.cons (.var 4) (.cons (.var 5) .nil))) .nil))), (.set (.nm 7) (.cmp .eq (.call (Str.ofString "_law_tree") (.cons (.var 4) .nil)) (.call (Str.ofString "_law_tree") (.cons (.var 5) .nil)))), (.ifs (.cmp .ne (.bi .repr (.cons (.lst (.cons (.call (Str.ofString "one_round") (.cons (.var 4) (.cons (.var 5) .nil))) (.cons (.call (Str.ofString "one_round") (.cons (.var 5) (.cons (.var 4) .nil))) (.cons (.call (Str.ofString "one_round") (.cons (.var 4) (.cons (.var 4) .nil))) .nil)))) .nil)) (.bi .repr (.cons (.lst (.cons (.var 7) (.cons (.var 7) (.cons (.cst (.bl true)) .nil)))) .nil))) [(.ret (.cst (.bl false)))] []), (.ifs (.cmp .ne (.bi .repr (.cons (.lst (.cons (.var 4) (.cons (.var 5) .nil))) .nil)) (.var 6)) [(.ret (.cst (.bl false)))] [])])]), (.ret (.cst (.bl true)))]
def f_law_v17 : Fn := ⟨1, 8, [], b_law_v17⟩
end Lp
section
set_option maxHeartbeats 4000000
/-! P1: whole numbers, coders that are looked at, signs. -/
namespace Lp
open PySem
/-! ### is_whole, is_within -/
def wh : D → Bool
  | .int _ => true
  | _ => false
def wi (a b : Int) : D → Bool
  | .int i => decide (a ≤ i) && decide (i ≤ b)
  | _ => false
@[simp] theorem wh_int (i : Int) : wh (.int i) = true := rfl
@[simp] theorem wi_int (a b i : Int) : wi a b (.int i) = (decide (a ≤ i) && decide (i ≤ b)) := rfl
abbrev S_is_whole (r : List R → List R → CR) : Prop := ∀ d st, isiOk d = true → r [.frz d] st = .ok (.frz (.bl (wh d))) [none] st
abbrev S_is_within (r : List R → List R → CR) : Prop := ∀ d a b st, isiOk d = true → r [.frz d, .frz (.int a), .frz (.int b)] st = .ok (.frz (.bl (wi a b d))) [none, none, none] st
theorem p_is_whole {C : Calls} : S_is_whole (f_is_whole.run C) := fun d st h => by
  cases d <;> first | (cases h; done) | simp [Fn.run, f_is_whole, b_is_whole, wh]
theorem p_is_within {C : Calls} (h_is_whole : Sp C "is_whole" [] S_is_whole) : S_is_within (f_is_within.run C) := fun d a b st h => by
  obtain ⟨r_is_whole, k_is_whole⟩ := h_is_whole
  unfold S_is_whole at k_is_whole
  have hw := k_is_whole d st h
  refine CR.sat_eq (fn_run rfl (run_step ?_))
  cases d with
  | int i =>
    by_cases h1 : a ≤ i <;> simp [*, wi]
  | _ => simp [*, wi, wh]
/-! ### coders -/
abbrev cod (p : Nat) (pl : Int) (L : Nat → Int) : D := .tup [.int pl, .tup (tab p L)]
structure Cod (p : Nat) (pl : Int) (L : Nat → Int) : Prop where
  p1 : 1 ≤ p
  p12 : p ≤ 12
  h0 : 0 ≤ pl
  h1 : pl < p
  hL : ∀ k, k < p → 0 ≤ L k
theorem Cod.i1 {p : Nat} {pl : Int} {L : Nat → Int} (h : Cod p pl L) : (1 : Int) ≤ p := by have := h.p1; omega
theorem Cod.i0 {p : Nat} {pl : Int} {L : Nat → Int} (h : Cod p pl L) : (0 : Int) < p := by have := h.p1; omega
theorem Cod.n0 {p : Nat} {pl : Int} {L : Nat → Int} (h : Cod p pl L) : 0 < p := h.p1
theorem Cod.i12 {p : Nat} {pl : Int} {L : Nat → Int} (h : Cod p pl L) : (p : Int) ≤ 12 := by have := h.p12; omega
theorem Cod.pw {p : Nat} {pl : Int} {L : Nat → Int} (h : Cod p pl L) : p < 2 ^ 250 := by have := h.p12; omega
theorem Cod.ib {p : Nat} {pl : Int} {L : Nat → Int} (h : Cod p pl L) : p ≤ big := by have := h.p12; have := big_eq; omega
abbrev S_is_coder (r : List R → List R → CR) : Prop := ∀ p pl L st, Cod p pl L → r [.frz (cod p pl L)] st = .ok (.frz (.bl true)) [none] st
@[simp] theorem all_true {α : Type} (l : List α) : (bls? (l.map fun _ => D.bl true)) = some (l.map fun _ => true) := by
  induction l with
  | nil => rfl
  | cons d ds ih => simp only [List.map_cons, bls?, ih, Option.map_some]
theorem p_is_coder {C : Calls} {g : Str} (g_MOST_PLACES : C.glob g = some (.int 12)) (h_is_whole : Sp C "is_whole" [] S_is_whole) (h_is_within : Sp C "is_within" [] S_is_within) : S_is_coder ((f_is_coder g).run C) := fun p pl L st h => by
  obtain ⟨r_is_whole, k_is_whole⟩ := h_is_whole
  unfold S_is_whole at k_is_whole
  obtain ⟨r_is_within, k_is_within⟩ := h_is_within
  unfold S_is_within at k_is_within
  obtain ⟨_, _, _, _, hL⟩ := id h
  have h1 := h.i1
  have h12 := h.i12
  have hb := h.ib
  refine CR.sat_eq (fn_run rfl ?_)
  refine run_ifs ?_
  simp [-Nat.reducePow, -Int.reducePow, *]
  refine run_step ?_
  simp [-Nat.reducePow, -Int.reducePow, *]
  refine run_ifs ?_
  simp [-Nat.reducePow, -Int.reducePow, *]
  refine lc_map (φ := fun _ => .bl true) ?_ ?_ ?_ ?_
  · simp [-Nat.reducePow, -Int.reducePow, *]
  · simp
  · intro d hd
    obtain ⟨i, hi, rfl⟩ := tabD_mem.mp hd
    simp [-Nat.reducePow, -Int.reducePow, *]
  · simp [allR]
    refine run_step ?_
    simp [-Nat.reducePow, -Int.reducePow, *]
    omega
abbrev S_need_coder (r : List R → List R → CR) : Prop := ∀ p pl L st, Cod p pl L → r [.frz (cod p pl L)] st = .ok (.frz .non) [none] st
theorem p_need_coder {C : Calls} (h_is_coder : Sp C "is_coder" [] S_is_coder) : S_need_coder (f_need_coder.run C) := fun p pl L st h => by
  obtain ⟨r_is_coder, k_is_coder⟩ := h_is_coder
  unfold S_is_coder at k_is_coder
  refine CR.sat_eq (fn_run rfl ?_)
  refine run_ifs ?_
  simp [-Nat.reducePow, -Int.reducePow, *]
  exact run_nil (by simp)
/-! ### signs -/
def asS (p : Nat) (c : Nat → Int) (k : Nat) : Int := (c k - c 0) % p
abbrev S_as_sign (r : List R → List R → CR) : Prop := ∀ (p : Nat) c st (x : R), 0 < p → p ≤ 1000 → (x = .lst (tab p c) ∨ x = .frz (.lst (tab p c))) → r [x] st = .ok (.frz (.tup (tab p (asS p c)))) [none] st
theorem p_as_sign {C : Calls} : S_as_sign (f_as_sign.run C) := fun p c st x h0 h1 hx => by
  refine CR.sat_eq (fn_run rfl ?_)
  have hb : p ≤ big := by have := big_eq; omega
  have hp : (0 : Int) < p := by omega
  refine run_step ?_
  rcases hx with rfl | rfl <;> simp <;> refine lc_map (φ := fun d => match d with | .int i => .int ((i - c 0) % p) | _ => .non) (by simp [*]) (by simp) (fun d hd => ?_) ?_
  · obtain ⟨i, hi, rfl⟩ := tabD_mem.mp hd
    simp [tab_at0, h0, hp]
  · simp [tabD_map]
    rfl
  · obtain ⟨i, hi, rfl⟩ := tabD_mem.mp hd
    simp [tab_at0, h0, hp]
  · simp [tabD_map]
    rfl
end Lp

end
section
set_option maxHeartbeats 4000000
/-! P2: sign_behind, sign_of. -/
namespace Lp
open PySem
/-- how many of a + 1 .. a + n are k modulo p -/
def cnt1 (p : Nat) (a : Int) : Nat → Nat → Int
  | 0, _ => 0
  | n + 1, k => cnt1 p a n k + if ((a + ((n + 1 : Nat) : Int)) % p).toNat = k then 1 else 0
/-- counts when of a place words more are known -/
def bump (p : Nat) (s : Nat → Int) (pl len : Int) (many : Nat) (k : Nat) : Int := s k + (if k = pl.toNat then (many : Int) else 0) - cnt1 p (pl + len) many k
theorem modNat {p : Nat} (h : 0 < p) (a : Int) : 0 ≤ a % (p : Int) ∧ a % (p : Int) < p := ⟨Int.emod_nonneg _ (by omega), Int.emod_lt_of_pos _ (by omega)⟩
abbrev S_sign_behind (r : List R → List R → CR) : Prop := ∀ (p : Nat) s (pl len : Int) (many : Nat) st, 0 < p → p ≤ 1000 → 0 ≤ pl → pl < p → many ≤ 1000000 →
  r [.frz (.tup (tab p s)), .frz (.int pl), .frz (.int len), .frz (.int many)] st = .ok (.frz (.tup (tab p (asS p (bump p s pl len many))))) [none, none, none, none] st
theorem p_sign_behind {C : Calls} (h_as_sign : Sp C "as_sign" [] S_as_sign) : S_sign_behind (f_sign_behind.run C) := fun p s pl len many st h0 h1 h2 h3 h4 => by
  obtain ⟨r_as_sign, k_as_sign⟩ := h_as_sign
  unfold S_as_sign at k_as_sign
  have hb : p ≤ big := by have := big_eq; omega
  have hp : (0 : Int) < p := by omega
  have sm : small ((many : Int) + 1) = true := small_of (by omega) (by omega)
  have sm1 : small 1 = true := by decide
  have a1 := tab_at (f := fun k => D.int (s k)) h2 h3
  have a2 := tab_pos h2 h3
  have a3 := rg_tab2 1 many (b := (many : Int) + 1) (by omega)
  refine CR.sat_eq (fn_run rfl ?_)
  refine run_step ?_
  simp [-Nat.reducePow, -Int.reducePow, *]
  refine run_step ?_
  simp [-Nat.reducePow, -Int.reducePow, *, augR]
  refine run_for ?_
  simp [-Nat.reducePow, -Int.reducePow, *]
  refine for_by (fun i e => ∃ x, e = ⟨[some (.frz (.tup (tab p s))), some (.frz (.int pl)), some (.frz (.int len)), some (.frz (.int many)), some (.lst (tab p fun k => s k + (if k = pl.toNat then (many : Int) else 0) - cnt1 p (pl + len) i k)), x], st⟩) ?_ (fun i d e hd hI => ?_) (fun e hI => ?_)
  · refine ⟨none, ?_⟩
    simp
    refine tabD_ext fun k hk => ?_
    by_cases e : k = pl.toNat
    · simp [e, cnt1]
    · simp [e, cnt1]
  · obtain ⟨x, rfl⟩ := hI
    obtain ⟨hi, rfl⟩ := tabD_iget hd
    obtain ⟨m1, m2⟩ := modNat h0 (pl + len + (1 + (i : Int)))
    refine ⟨_, rfl, ?_⟩
    have a4 := tab_at (f := fun k => D.int (s k + (if k = pl.toNat then (many : Int) else 0) - cnt1 p (pl + len) i k)) m1 m2
    have a5 := tab_pos m1 m2
    refine run_step ?_
    simp [-Nat.reducePow, -Int.reducePow, *, augR]
    refine run_nil ⟨some (.frz (.int (1 + (i : Int)))), ?_⟩
    simp
    refine tabD_ext fun k hk => ?_
    have e0 : pl + len + ((i + 1 : Nat) : Int) = pl + len + (1 + (i : Int)) := by omega
    simp only [cnt1, e0]
    by_cases e : k = ((pl + len + (1 + (i : Int))) % (p : Int)).toNat
    · rw [if_pos e, if_pos e.symm, ← e]
      congr 1
      omega
    · rw [if_neg e, if_neg (Ne.symm e)]
      congr 1
      omega
  · obtain ⟨x, rfl⟩ := hI
    have := k_as_sign p (fun k => (s k + if k = pl.toNat then (many : Int) else 0) - cnt1 p (pl + len) many k) st _ h0 h1 (.inr rfl)
    refine run_step ?_
    simp [-Nat.reducePow, -Int.reducePow, *]
    rfl
/-- the counts that the program makes, place by place -/
def signP (p : Nat) (pl : Int) (L : Nat → Int) : Nat → Nat → Int
  | 0 => asS p fun k => if (k : Int) = pl then 1 else 0
  | n + 1 => asS p (bump p (signP p pl L n) n 0 (L n % p).toNat)
abbrev S_sign_of0 (r : List R → List R → CR) : Prop := ∀ (p : Nat) pl L st, Cod p pl L → r [.frz (cod p pl L)] st = .ok (.frz (.tup (tab p (signP p pl L p)))) [none] st
@[simp] theorem eval_cmp_eq (i j : Int) : intOf (.frz (.bl (decide (i = j)))) = some (.frz (.int (if i = j then 1 else 0))) := by
  by_cases h : i = j <;> simp [h]
theorem p_sign_of0 {C : Calls} (h_need_coder : Sp C "need_coder" [] S_need_coder) (h_as_sign : Sp C "as_sign" [] S_as_sign) (h_sign_behind : Sp C "sign_behind" [] S_sign_behind) : S_sign_of0 (f_sign_of.run C) := fun p pl L st h => by
  obtain ⟨r_need_coder, k_need_coder⟩ := h_need_coder
  unfold S_need_coder at k_need_coder
  obtain ⟨r_as_sign, k_as_sign⟩ := h_as_sign
  unfold S_as_sign at k_as_sign
  obtain ⟨r_sign_behind, k_sign_behind⟩ := h_sign_behind
  unfold S_sign_behind at k_sign_behind
  have hp := h.i0
  have hp0 := h.n0
  have hb := h.ib
  have h1 := h.p1
  have h12 := h.p12
  have sm : small p = true := small_of (by omega) (by omega)
  refine CR.sat_eq (fn_run rfl ?_)
  refine run_step ?_
  simp [-Nat.reducePow, -Int.reducePow, *]
  refine run_step ?_
  simp [-Nat.reducePow, -Int.reducePow, *]
  refine run_step ?_
  simp [-Nat.reducePow, -Int.reducePow, *]
  refine run_step ?_
  simp [-Nat.reducePow, -Int.reducePow, *]
  refine lc_map (φ := fun d => match d with | .int i => .int (if i = pl then 1 else 0) | _ => .non) (by simp; omega) (by simp) (fun d hd => ?_) ?_
  · obtain ⟨i, hi, rfl⟩ := tabD_mem.mp hd
    by_cases e : (i : Int) = pl <;> simp [e]
  have := k_as_sign p (fun k => if (k : Int) = pl then 1 else 0) st _ (by omega) (by omega) (.inl rfl)
  simp [tabD_map, *]
  refine run_for ?_
  simp [-Nat.reducePow, -Int.reducePow, *]
  refine for_by (fun i e => ∃ x y, e = ⟨[some (.frz (cod p pl L)), some (.frz (.int pl)), some (.frz (.tup (tab p L))), some (.frz (.int p)), some (.frz (.tup (tab p (signP p pl L i)))), none, x, y], st⟩) ⟨_, _, rfl⟩ (fun i d e hd hI => ?_) (fun e hI => ?_)
  · obtain ⟨x, y, rfl⟩ := hI
    rw [enum_tab] at hd
    obtain ⟨hi, rfl⟩ := tabD_iget hd
    refine ⟨_, stT_two _ _ _ _ _, ?_⟩
    obtain ⟨m1, m2⟩ := modNat (p := p) (by omega) (L i)
    have := k_sign_behind p (signP p pl L i) i 0 (L i % p).toNat st (by omega) (by omega) (by omega) (by omega) (by omega)
    rw [Int.toNat_of_nonneg m1] at this
    refine run_step ?_
    simp [-Nat.reducePow, -Int.reducePow, *]
    refine run_nil ?_
    exact ⟨_, _, rfl⟩
  · obtain ⟨x, y, rfl⟩ := hI
    refine run_step ?_
    simp [-Nat.reducePow, -Int.reducePow, *]
end Lp

end
section
namespace Lp
theorem step_div {p x : Int} (hp : 0 < p) : (x + 1) / p = x / p + (if (x + 1) % p = 0 then 1 else 0) := by
  have h1 := Int.mul_ediv_add_emod x p
  have h2 := Int.emod_nonneg x (show p ≠ 0 by omega)
  have h3 := Int.emod_lt_of_pos x hp
  generalize x / p = q at *
  generalize x % p = r at *
  by_cases h : r + 1 < p
  · have e : x + 1 = (r + 1) + p * q := by omega
    rw [e, Int.add_mul_ediv_left _ _ (by omega), Int.add_mul_emod_self_left, Int.ediv_eq_zero_of_lt (by omega) h, Int.emod_eq_of_lt (by omega) h, if_neg (by omega)]
    omega
  · have e : x + 1 = 0 + p * (q + 1) := by
      rw [Int.mul_add]
      omega
    rw [e, Int.add_mul_ediv_left _ _ (by omega), Int.add_mul_emod_self_left]
    simp
/-- how many of the words from place b on, of lengths 1 to L, end at k: the law's own sum -/
def endsF (p b k L : Int) : Int := (if 0 < L - ((k - b - 1) % p + 1) + p then L - ((k - b - 1) % p + 1) + p else 0) / p
theorem endsF_pos {p b k L : Int} (hp : 0 < p) (hL : 0 ≤ L) : endsF p b k L = (L - ((k - b - 1) % p + 1) + p) / p := by
  have h2 := Int.emod_nonneg (k - b - 1) (show p ≠ 0 by omega)
  have h3 := Int.emod_lt_of_pos (k - b - 1) hp
  unfold endsF
  split
  · rfl
  · have : L - ((k - b - 1) % p + 1) + p = 0 := by omega
    rw [this]
theorem endsF_zero {p b k : Int} (hp : 0 < p) : endsF p b k 0 = 0 := by
  have h2 := Int.emod_nonneg (k - b - 1) (show p ≠ 0 by omega)
  have h3 := Int.emod_lt_of_pos (k - b - 1) hp
  rw [endsF_pos hp (Int.le_refl 0)]
  exact Int.ediv_eq_zero_of_lt (by omega) (by omega)
theorem emod_iff {p a k : Int} (hp : 0 < p) (h0 : 0 ≤ k) (h1 : k < p) : a % p = k ↔ (a - k) % p = 0 := by
  rw [← Int.emod_eq_emod_iff_emod_sub_eq_zero, Int.emod_eq_of_lt h0 h1]
theorem endsF_step {p b k L : Int} (hp : 0 < p) (hL : 0 ≤ L) (h0 : 0 ≤ k) (h1 : k < p) : endsF p b k (L + 1) = endsF p b k L + (if (b + (L + 1)) % p = k then 1 else 0) := by
  rw [endsF_pos hp hL, endsF_pos hp (by omega)]
  have e : L + 1 - ((k - b - 1) % p + 1) + p = (L - ((k - b - 1) % p + 1) + p) + 1 := by omega
  rw [e, step_div hp]
  have q : ((L - ((k - b - 1) % p + 1) + p) + 1) % p = 0 ↔ (b + (L + 1)) % p = k := by
    rw [emod_iff hp h0 h1]
    have h := Int.mul_ediv_add_emod (k - b - 1) p
    generalize (k - b - 1) / p = c at h
    generalize (k - b - 1) % p = r at h ⊢
    have e2 : L - (r + 1) + p + 1 = (b + (L + 1) - k) + p * (c + 1) := by
      rw [Int.mul_add]
      omega
    rw [e2, Int.add_mul_emod_self_left]
  by_cases z : (b + (L + 1)) % p = k
  · rw [if_pos z, if_pos (q.mpr z)]
  · rw [if_neg z, if_neg fun y => z (q.mp y)]
/-- as many ends once at each place with p words more -/
theorem endsF_mod {p b k L : Int} (hp : 0 < p) (hL : 0 ≤ L) : endsF p b k L = L / p + endsF p b k (L % p) := by
  rw [endsF_pos hp hL, endsF_pos hp (Int.emod_nonneg L (by omega))]
  have h := Int.mul_ediv_add_emod L p
  generalize L / p = c at h ⊢
  generalize L % p = m at h ⊢
  have e : L - ((k - b - 1) % p + 1) + p = (m - ((k - b - 1) % p + 1) + p) + p * c := by omega
  rw [e, Int.add_mul_ediv_left _ _ (by omega)]
  omega
theorem toNat_mod_eq {p : Nat} (h : 0 < p) (a : Int) (k : Nat) : (a % (p : Int)).toNat = k ↔ a % (p : Int) = k := by
  have := Int.emod_nonneg a (show (p : Int) ≠ 0 by omega)
  omega
theorem cnt1_ends {p : Nat} (h : 0 < p) (a : Int) {k : Nat} (hk : k < p) : ∀ n : Nat, cnt1 p a n k = endsF p a k n
  | 0 => (endsF_zero (by omega)).symm
  | n + 1 => by
    have := endsF_step (p := p) (b := a) (k := k) (L := n) (by omega) (by omega) (by omega) (by omega)
    show cnt1 p a n k + (if ((a + ((n + 1 : Nat) : Int)) % p).toNat = k then 1 else 0) = endsF p a k ((n + 1 : Nat) : Int)
    rw [cnt1_ends h a hk n]
    have e : ((n + 1 : Nat) : Int) = (n : Int) + 1 := by omega
    rw [e, this]
    simp only [toNat_mod_eq h]
/-- the counts of a coder, of the words of its first places -/
def cntW (p : Nat) (pl : Int) (L : Nat → Int) : Nat → Nat → Int
  | 0, k => if (k : Int) = pl then 1 else 0
  | n + 1, k => cntW p pl L n k + (if k = n then L n else 0) - cnt1 p n (L n).toNat k
theorem cnt1_mod {p : Nat} (h : 0 < p) (a : Int) {k : Nat} (hk : k < p) {L : Int} (hL : 0 ≤ L) : cnt1 p a L.toNat k = L / p + cnt1 p a (L % p).toNat k := by
  have m := modNat h L
  rw [cnt1_ends h a hk, cnt1_ends h a hk, Int.toNat_of_nonneg hL, Int.toNat_of_nonneg m.1]
  exact endsF_mod (by omega) hL
theorem emod_congr {p a b : Int} (c : Int) (h : a = b + p * c) : a % p = b % p := by
  rw [h, Int.add_mul_emod_self_left]
theorem sign_cnt {p : Nat} {pl : Int} {L : Nat → Int} (h : Cod p pl L) : ∀ n, n ≤ p → ∀ k, k < p → signP p pl L n k = asS p (cntW p pl L n) k
  | 0, _, k, hk => rfl
  | n + 1, hn, k, hk => by
    have hp := h.n0
    have ih := sign_cnt h n (by omega)
    have hL := h.hL n (by omega)
    show asS p (bump p (signP p pl L n) n 0 (L n % p).toNat) k = _
    unfold asS bump
    rw [ih k hk, ih 0 hp]
    unfold asS
    have m := modNat hp (L n)
    have e1 := cnt1_mod hp (n : Int) hk hL
    have e2 := cnt1_mod hp (n : Int) hp hL
    show _ = (cntW p pl L n k + (if k = n then L n else 0) - cnt1 p n (L n).toNat k - (cntW p pl L n 0 + (if 0 = n then L n else 0) - cnt1 p n (L n).toNat 0)) % p
    rw [e1, e2, Int.toNat_of_nonneg m.1, Int.add_zero]
    have d1 := Int.mul_ediv_add_emod (L n) p
    have d2 := Int.mul_ediv_add_emod (cntW p pl L n k - cntW p pl L n 0) p
    have d3 := Int.mul_ediv_add_emod (cntW p pl L n 0 - cntW p pl L n 0) p
    rw [Int.toNat_natCast]
    generalize (L n) / (p : Int) = q1 at *
    generalize hr : (L n) % (p : Int) = r1 at *
    generalize (cntW p pl L n k - cntW p pl L n 0) / (p : Int) = q2 at *
    generalize (cntW p pl L n k - cntW p pl L n 0) % (p : Int) = r2 at *
    generalize (cntW p pl L n 0 - cntW p pl L n 0) / (p : Int) = q3 at *
    generalize (cntW p pl L n 0 - cntW p pl L n 0) % (p : Int) = r3 at *
    symm
    rcases Decidable.em (k = n) with a1 | a1 <;> rcases Decidable.em (0 = n) with a2 | a2
    · simp only [if_pos a1, if_pos a2]
      refine emod_congr (q2 - q3) ?_
      rw [Int.mul_sub]
      omega
    · simp only [if_pos a1, if_neg a2]
      refine emod_congr (q2 - q3 + q1) ?_
      rw [Int.mul_add, Int.mul_sub]
      omega
    · simp only [if_neg a1, if_pos a2]
      refine emod_congr (q2 - q3 - q1) ?_
      rw [Int.mul_sub, Int.mul_sub]
      omega
    · simp only [if_neg a1, if_neg a2]
      refine emod_congr (q2 - q3) ?_
      rw [Int.mul_sub]
      omega
/-- a sum over places -/
def sumN (f : Nat → Int) : Nat → Int
  | 0 => 0
  | n + 1 => sumN f n + f n
theorem sumN_add (f g : Nat → Int) : ∀ n, sumN (fun k => f k + g k) n = sumN f n + sumN g n
  | 0 => rfl
  | n + 1 => by
    simp only [sumN, sumN_add f g n]
    omega
theorem sumN_sub (f g : Nat → Int) : ∀ n, sumN (fun k => f k - g k) n = sumN f n - sumN g n
  | 0 => rfl
  | n + 1 => by
    simp only [sumN, sumN_sub f g n]
    omega
theorem sumN_const (c : Int) : ∀ n : Nat, sumN (fun _ => c) n = n * c
  | 0 => by simp [sumN]
  | n + 1 => by
    simp only [sumN, sumN_const c n]
    rw [show ((n + 1 : Nat) : Int) = (n : Int) + 1 by omega, Int.add_mul, Int.one_mul]
theorem sumN_one (a : Nat) (c : Int) : ∀ n, sumN (fun k => if k = a then c else 0) n = if a < n then c else 0
  | 0 => by simp [sumN]
  | n + 1 => by
    simp only [sumN, sumN_one a c n]
    by_cases h : a < n
    · rw [if_pos h, if_neg (by omega), if_pos (by omega)]
      omega
    · rw [if_neg h]
      by_cases e : n = a
      · rw [if_pos e, if_pos (by omega)]
        omega
      · rw [if_neg e, if_neg (by omega)]
        omega
theorem sumN_ext {f g : Nat → Int} : ∀ {n : Nat}, (∀ k, k < n → f k = g k) → sumN f n = sumN g n
  | 0, _ => rfl
  | n + 1, h => by
    simp only [sumN]
    rw [sumN_ext fun k hk => h k (by omega), h n (by omega)]
theorem sum_tabI (f : Nat → Int) : ∀ n : Nat, (tabI n f).sum = sumN f n
  | 0 => rfl
  | n + 1 => by
    unfold tabI
    rw [List.range_succ, List.map_append, List.sum_append]
    have := sum_tabI f n
    unfold tabI at this
    rw [this]
    simp [sumN]
theorem sum_cnt1 {p : Nat} (h : 0 < p) (a : Int) : ∀ n : Nat, sumN (cnt1 p a n) p = n
  | 0 => by
    show sumN (fun _ => 0) p = 0
    rw [sumN_const]
    omega
  | n + 1 => by
    show sumN (fun k => cnt1 p a n k + if ((a + ((n + 1 : Nat) : Int)) % p).toNat = k then 1 else 0) p = _
    rw [sumN_add, sum_cnt1 h a n]
    have m := modNat h (a + ((n + 1 : Nat) : Int))
    have e : (fun k => if ((a + ((n + 1 : Nat) : Int)) % p).toNat = k then (1 : Int) else 0) = fun k => if k = ((a + ((n + 1 : Nat) : Int)) % p).toNat then 1 else 0 := by
      funext k
      by_cases h : k = ((a + ((n + 1 : Nat) : Int)) % p).toNat
      · rw [if_pos h, if_pos h.symm]
      · rw [if_neg h, if_neg (Ne.symm h)]
    rw [e, sumN_one, if_pos (by omega)]
    omega
theorem sum_cntW {p : Nat} {pl : Int} {L : Nat → Int} (h : Cod p pl L) : ∀ n, n ≤ p → sumN (cntW p pl L n) p = 1
  | 0, _ => by
    show sumN (fun k => if (k : Int) = pl then (1 : Int) else 0) p = 1
    have e : (fun k : Nat => if (k : Int) = pl then (1 : Int) else 0) = fun k => if k = pl.toNat then 1 else 0 := by
      funext k
      have := h.h0
      by_cases q : (k : Int) = pl
      · rw [if_pos q, if_pos (by omega)]
      · rw [if_neg q, if_neg (by omega)]
    have := h.h0
    have := h.h1
    rw [e, sumN_one, if_pos (by omega)]
  | n + 1, hn => by
    show sumN (fun k => cntW p pl L n k + (if k = n then L n else 0) - cnt1 p n (L n).toNat k) p = 1
    rw [sumN_sub (fun k => cntW p pl L n k + (if k = n then L n else 0)), sumN_add, sum_cntW h n (by omega), sumN_one, if_pos (by omega), sum_cnt1 h.n0]
    have := h.hL n (by omega)
    omega
/-- a coder's sign is a sign -/
theorem sum_asS {p : Nat} (h : 0 < p) (c : Nat → Int) : ∃ q : Int, sumN (asS p c) p = sumN c p + p * q := by
  have : ∀ n : Nat, ∃ q : Int, sumN (asS p c) n = sumN c n - n * c 0 + p * q := by
    intro n
    induction n with
    | zero => exact ⟨0, by simp [sumN]⟩
    | succ n ih =>
      obtain ⟨q, hq⟩ := ih
      refine ⟨q - (c n - c 0) / p, ?_⟩
      simp only [sumN, hq, asS]
      have := Int.mul_ediv_add_emod (c n - c 0) p
      rw [show ((n + 1 : Nat) : Int) = (n : Int) + 1 by omega, Int.add_mul, Int.one_mul, Int.mul_sub]
      omega
  obtain ⟨q, hq⟩ := this p
  refine ⟨q - c 0, ?_⟩
  rw [hq, Int.mul_sub]
  omega
theorem asS_range {p : Nat} (h : 0 < p) (c : Nat → Int) (k : Nat) : 0 ≤ asS p c k ∧ asS p c k < p := modNat h _
theorem asS_zero (p : Nat) (c : Nat → Int) : asS p c 0 = 0 := by simp [asS]
end Lp

end
section
set_option maxHeartbeats 1000000
/-! M2: learners that walk: what leads where, rounds. Plain numbers. -/
namespace Lp
structure WS where
  pl : Nat
  L : Nat → Nat
/-- whither the last going of a place leads -/
def way (p : Nat) (L : Nat → Nat) (i : Nat) : Nat := (i + L i) % p
def WS.step (p : Nat) (s : WS) : WS := ⟨(s.pl + (s.L s.pl + 1)) % p, fun k => if k = s.pl then s.L k + 1 else s.L k⟩
def WS.go (p : Nat) (s : WS) : Nat → WS
  | 0 => s
  | n + 1 => (WS.go p s n).step p
theorem go_succ (p : Nat) (s : WS) (n : Nat) : s.go p (n + 1) = (s.go p n).step p := rfl
theorem go_add (p : Nat) (s : WS) (m : Nat) : ∀ n, s.go p (m + n) = (s.go p m).go p n
  | 0 => rfl
  | n + 1 => by
    show (s.go p (m + n)).step p = _
    rw [go_add p s m n]
    rfl
theorem go_lt {p : Nat} (h : 0 < p) {s : WS} (hs : s.pl < p) : ∀ n, (s.go p n).pl < p
  | 0 => hs
  | n + 1 => Nat.mod_lt _ h
/-- how often a place was gone from -/
def WS.ex (p : Nat) (s : WS) : Nat → Nat → Nat
  | 0, _ => 0
  | n + 1, w => WS.ex p s n w + if w = (s.go p n).pl then 1 else 0
theorem go_L (p : Nat) (s : WS) : ∀ (n w : Nat), (s.go p n).L w = s.L w + s.ex p n w
  | 0, w => rfl
  | n + 1, w => by
    show (if w = (s.go p n).pl then (s.go p n).L w + 1 else (s.go p n).L w) = s.L w + (s.ex p n w + if w = (s.go p n).pl then 1 else 0)
    rw [go_L p s n w]
    split <;> omega
theorem sum_ex {p : Nat} (h : 0 < p) {s : WS} (hs : s.pl < p) : ∀ n, sumN (fun w => (s.ex p n w : Int)) p = n
  | 0 => by
    show sumN (fun _ => ((0 : Nat) : Int)) p = _
    rw [sumN_const]
    simp
  | n + 1 => by
    have e : (fun w => ((s.ex p (n + 1) w : Nat) : Int)) = fun w => (s.ex p n w : Int) + if w = (s.go p n).pl then 1 else 0 := by
      funext w
      show ((s.ex p n w + (if w = (s.go p n).pl then 1 else 0) : Nat) : Int) = _
      split <;> simp
    rw [e, sumN_add, sum_ex h hs n, sumN_one, if_pos (go_lt h hs n)]
    omega
/-- what comes in: how many of the goings lead to v -/
def inn (p : Nat) (L : Nat → Nat) (x : Nat → Nat) (v : Nat) : Int := sumN (fun w : Nat => cnt1 p ((w : Int) + L w) (x w) v) p
theorem bal {p : Nat} (h : 0 < p) {s : WS} (hs : s.pl < p) : ∀ (n v : Nat), v < p → (if v = s.pl then 1 else 0) + inn p s.L (s.ex p n) v = s.ex p n v + (if v = (s.go p n).pl then 1 else 0)
  | 0, v, hv => by
    show _ + sumN (fun w => 0) p = ((0 : Nat) : Int) + _
    rw [sumN_const]
    show (if v = s.pl then (1 : Int) else 0) + _ = _ + (if v = s.pl then (1 : Int) else 0)
    omega
  | n + 1, v, hv => by
    have ih := bal h hs n v hv
    have hpl := go_lt h hs n
    generalize hq : (s.go p n).pl = q at *
    have e : (fun w : Nat => cnt1 p ((w : Int) + s.L w) (s.ex p (n + 1) w) v) = fun w : Nat => cnt1 p ((w : Int) + s.L w) (s.ex p n w) v + if w = q then (if v = (s.go p (n + 1)).pl then 1 else 0) else 0 := by
      funext w
      show cnt1 p ((w : Int) + s.L w) (s.ex p n w + if w = (s.go p n).pl then 1 else 0) v = _
      rw [hq]
      by_cases hw : w = q
      · rw [if_pos hw, if_pos hw]
        show cnt1 p _ (s.ex p n w) v + (if ((((w : Int) + s.L w) + ((s.ex p n w + 1 : Nat) : Int)) % p).toNat = v then 1 else 0) = _
        congr 1
        have e2 : ((((w : Int) + s.L w) + ((s.ex p n w + 1 : Nat) : Int)) % p).toNat = (s.go p (n + 1)).pl := by
          show _ = ((s.go p n).pl + ((s.go p n).L (s.go p n).pl + 1)) % p
          rw [hq, go_L, hw]
          have : ((q : Int) + s.L q) + ((s.ex p n q + 1 : Nat) : Int) = ((q + (s.L q + s.ex p n q + 1) : Nat) : Int) := by omega
          rw [this, ← Int.natCast_emod]
          exact Int.toNat_natCast _
        rw [e2]
        by_cases z : v = (s.go p (n + 1)).pl
        · rw [if_pos z, if_pos z.symm]
        · rw [if_neg z, if_neg (Ne.symm z)]
      · rw [if_neg hw, if_neg hw, Nat.add_zero]
        omega
    unfold inn
    rw [e, sumN_add, sumN_one, if_pos hpl]
    unfold inn at ih
    have e3 : ((s.ex p (n + 1) v : Nat) : Int) = s.ex p n v + if v = q then 1 else 0 := by
      show ((s.ex p n v + (if v = (s.go p n).pl then 1 else 0) : Nat) : Int) = _
      rw [hq]
      split <;> simp
    rw [e3]
    omega
/-! ### counting -/
theorem cnt1_nonneg (p : Nat) (a : Int) : ∀ n k, 0 ≤ cnt1 p a n k
  | 0, _ => Int.le_refl _
  | n + 1, k => by
    have := cnt1_nonneg p a n k
    show 0 ≤ cnt1 p a n k + _
    split <;> omega
theorem cnt1_mono (p : Nat) (a : Int) (k : Nat) {m : Nat} : ∀ {n : Nat}, m ≤ n → cnt1 p a m k ≤ cnt1 p a n k
  | 0, h => by
    have : m = 0 := by omega
    subst this
    exact Int.le_refl _
  | n + 1, h => by
    by_cases e : m = n + 1
    · subst e
      exact Int.le_refl _
    · have := cnt1_mono p a k (m := m) (n := n) (by omega)
      show _ ≤ cnt1 p a n k + _
      split <;> omega
theorem cnt1_le {p : Nat} (h : 0 < p) (a : Int) {n k : Nat} (hk : k < p) (hn : n ≤ p) : cnt1 p a n k ≤ 1 := by
  rw [cnt1_ends h a hk, endsF_pos (by omega) (by omega)]
  have h2 := Int.emod_nonneg ((k : Int) - a - 1) (show (p : Int) ≠ 0 by omega)
  have : ((n : Int) - (((k : Int) - a - 1) % p + 1) + p) / p < 2 := Int.ediv_lt_of_lt_mul (by omega) (by omega)
  omega
theorem cnt1_full {p : Nat} (h : 0 < p) (a : Int) {n k : Nat} (hk : k < p) (hn : p ≤ n) : 1 ≤ cnt1 p a n k := by
  rw [cnt1_ends h a hk, endsF_pos (by omega) (by omega)]
  have h2 := Int.emod_nonneg ((k : Int) - a - 1) (show (p : Int) ≠ 0 by omega)
  have h3 := Int.emod_lt_of_pos ((k : Int) - a - 1) (show (0 : Int) < p by omega)
  exact (Int.le_ediv_iff_mul_le (by omega)).mpr (by omega)
/-- the last one is not among the first ones -/
theorem cnt1_last {p : Nat} (h : 0 < p) (a : Int) {m n k : Nat} (hk : ((a + (n : Int)) % p).toNat = k) (hm : m < n) : cnt1 p a m k + 1 ≤ cnt1 p a n k := by
  obtain ⟨j, rfl⟩ : ∃ j, n = j + 1 := ⟨n - 1, by omega⟩
  have := cnt1_mono p a k (m := m) (n := j) (by omega)
  show _ ≤ cnt1 p a j k + (if ((a + ((j + 1 : Nat) : Int)) % p).toNat = k then 1 else 0)
  rw [if_pos hk]
  omega
theorem cnt1_addp {p : Nat} (h : 0 < p) (a : Int) {k : Nat} (hk : k < p) (n : Nat) : cnt1 p a (n + p) k = cnt1 p a n k + 1 := by
  rw [cnt1_ends h a hk, cnt1_ends h a hk, endsF_pos (by omega) (by omega), endsF_pos (by omega) (by omega)]
  have e : ((n + p : Nat) : Int) - (((k : Int) - a - 1) % p + 1) + p = ((n : Int) - (((k : Int) - a - 1) % p + 1) + p) + p * 1 := by omega
  rw [e, Int.add_mul_ediv_left _ _ (by omega)]
theorem sumN_le {f g : Nat → Int} : ∀ {n : Nat}, (∀ k, k < n → f k ≤ g k) → sumN f n ≤ sumN g n
  | 0, _ => Int.le_refl _
  | n + 1, h => by
    have h1 := sumN_le (f := f) (g := g) (n := n) fun k hk => h k (by omega)
    have h2 := h n (by omega)
    simp only [sumN]
    omega
/-- where sums are one, and no summand is greater, all are one -/
theorem sumN_eq {f g : Nat → Int} : ∀ {n : Nat}, (∀ k, k < n → f k ≤ g k) → sumN f n = sumN g n → ∀ k, k < n → f k = g k
  | 0, _, _, k, hk => absurd hk (Nat.not_lt_zero _)
  | n + 1, h, e, k, hk => by
    have h1 := sumN_le (f := f) (g := g) (n := n) fun k hk => h k (by omega)
    have h2 := h n (by omega)
    simp only [sumN] at e
    by_cases q : k = n
    · subst q
      omega
    · exact sumN_eq (n := n) (fun k hk => h k (by omega)) (by omega) k (by omega)
theorem sumN_lt {f g : Nat → Int} {n k : Nat} (h : ∀ k, k < n → f k ≤ g k) (hk : k < n) (hl : f k < g k) : sumN f n < sumN g n := by
  have := sumN_le h
  have : sumN f n ≠ sumN g n := fun e => by
    have := sumN_eq h e k hk
    omega
  omega
/-! ### led on and on -/
def itw (f : Nat → Nat) : Nat → Nat → Nat
  | 0, i => i
  | n + 1, i => itw f n (f i)
/-- in its round: from each place last goings lead to where it is -/
def inR (p : Nat) (s : WS) : Prop := ∀ i, i < p → ∃ n, itw (way p s.L) n i = s.pl
theorem way_lt {p : Nat} (h : 0 < p) (L : Nat → Nat) (i : Nat) : way p L i < p := Nat.mod_lt _ h
/-- what holds somewhere, and goes on along last goings, holds at the place -/
theorem along {p : Nat} (h : 0 < p) {s : WS} (hr : inR p s) (P : Nat → Prop) (hp : ∀ i, i < p → i ≠ s.pl → P i → P (way p s.L i)) {i : Nat} (hi : i < p) (h0 : P i) : P s.pl := by
  obtain ⟨n, hn⟩ := hr i hi
  induction n generalizing i with
  | zero =>
    rw [show i = s.pl from hn] at h0
    exact h0
  | succ n ih =>
    by_cases e : i = s.pl
    · rw [← e]
      exact h0
    · exact ih (way_lt h _ _) (hp i hi e h0) hn
/-- a step keeps what is led to the place -/
theorem led_step {p : Nat} (h : 0 < p) {s : WS} (hs : s.pl < p) {i : Nat} (n : Nat) : ∀ {i : Nat}, itw (way p s.L) n i = s.pl → ∃ m, itw (way p (s.step p).L) m i = (s.step p).pl := by
  have hw : ∀ j, j ≠ s.pl → way p (s.step p).L j = way p s.L j := fun j hj => by
    show (j + (if j = s.pl then s.L j + 1 else s.L j)) % p = _
    rw [if_neg hj]
    rfl
  have hpl : way p (s.step p).L s.pl = (s.step p).pl := by
    show (s.pl + (if s.pl = s.pl then s.L s.pl + 1 else s.L s.pl)) % p = _
    rw [if_pos rfl]
    rfl
  induction n with
  | zero =>
    intro i hi
    refine ⟨1, ?_⟩
    show way p (s.step p).L i = _
    rw [show i = s.pl from hi]
    exact hpl
  | succ n ih =>
    intro i hi
    by_cases e : i = s.pl
    · refine ⟨1, ?_⟩
      show way p (s.step p).L i = _
      rw [e]
      exact hpl
    · obtain ⟨m, hm⟩ := ih (i := way p s.L i) hi
      refine ⟨m + 1, ?_⟩
      show itw _ m (way p (s.step p).L i) = _
      rw [hw i e]
      exact hm
theorem inR_step {p : Nat} (h : 0 < p) {s : WS} (hs : s.pl < p) (hr : inR p s) : inR p (s.step p) := fun i hi => by
  obtain ⟨n, hn⟩ := hr i hi
  exact led_step h hs (i := i) n hn
theorem inR_go {p : Nat} (h : 0 < p) {s : WS} (hs : s.pl < p) (hr : inR p s) : ∀ n, inR p (s.go p n)
  | 0 => hr
  | n + 1 => inR_step h (go_lt h hs n) (inR_go h hs hr n)
/-- what was gone from leads to the place -/
theorem led_ex {p : Nat} (h : 0 < p) {s : WS} (hs : s.pl < p) : ∀ (n w : Nat), 0 < s.ex p n w → ∃ m, itw (way p (s.go p n).L) m w = (s.go p n).pl
  | 0, w, hw => absurd hw (Nat.lt_irrefl _)
  | n + 1, w, hw => by
    by_cases e : w = (s.go p n).pl
    · exact led_step h (go_lt h hs n) (i := w) 0 e
    · have hw : 0 < s.ex p n w + if w = (s.go p n).pl then 1 else 0 := hw
      rw [if_neg e] at hw
      obtain ⟨m, hm⟩ := led_ex h hs n w (by omega)
      exact led_step h (go_lt h hs n) (i := w) m hm
/-- a place that is not come to: few goings -/
theorem few_goings {p : Nat} (h : 0 < p) {s : WS} (hs : s.pl < p) {n u : Nat} (hu : u < p) (h0 : s.ex p n u = 0) (h1 : u ≠ (s.go p n).pl) : n ≤ (p - 1) * (p - 1) := by
  have hb := bal h hs n u hu
  rw [h0, if_neg h1] at hb
  have hz : ∀ w, w < p → cnt1 p ((w : Int) + s.L w) (s.ex p n w) u = 0 := by
    have nn : ∀ k, k < p → (fun _ => (0 : Int)) k ≤ (fun w : Nat => cnt1 p ((w : Int) + s.L w) (s.ex p n w) u) k := fun k _ => cnt1_nonneg _ _ _ _
    have s0 : sumN (fun _ => (0 : Int)) p = sumN (fun w : Nat => cnt1 p ((w : Int) + s.L w) (s.ex p n w) u) p := by
      rw [sumN_const]
      unfold inn at hb
      have := sumN_le nn
      rw [sumN_const] at this
      split at hb <;> omega
    exact fun w hw => (sumN_eq nn s0 w hw).symm
  have hx : ∀ w, w < p → s.ex p n w ≤ p - 1 := fun w hw => by
    apply Decidable.byContradiction
    intro q
    have := cnt1_full h ((w : Int) + s.L w) (n := s.ex p n w) (k := u) hu (by omega)
    have := hz w hw
    omega
  have hsum := sum_ex h hs n
  have hle : sumN (fun w => (s.ex p n w : Int)) p ≤ sumN (fun w => ((p : Int) - 1) - if w = u then ((p : Int) - 1) else 0) p := sumN_le fun w hw => by
    have := hx w hw
    by_cases q : w = u
    · rw [if_pos q, q, h0]
      omega
    · rw [if_neg q]
      omega
  rw [sumN_sub, sumN_const, sumN_one, if_pos hu] at hle
  have : ((p - 1 : Nat) : Int) = (p : Int) - 1 := by omega
  have e : (((p - 1) * (p - 1) : Nat) : Int) = (p : Int) * ((p : Int) - 1) - ((p : Int) - 1) := by
    rw [Int.natCast_mul, this, Int.sub_mul, Int.one_mul]
  omega
/-- a learner is in its round by then -/
theorem inR_by {p : Nat} (h : 0 < p) {s : WS} (hs : s.pl < p) {n : Nat} (hn : (p - 1) * (p - 1) < n) : inR p (s.go p n) := fun u hu => by
  by_cases e : u = (s.go p n).pl
  · exact ⟨0, e⟩
  · refine led_ex h hs n u ?_
    apply Decidable.byContradiction
    intro q
    have := few_goings h hs (n := n) hu (by omega) e
    omega
/-! ### rounds -/
/-- all the goings of a stock are gone: the walk stops at its beginning, where nothing is left -/
theorem all_gone {p : Nat} (h : 0 < p) {s : WS} (hs : s.pl < p) {t : WS} (ht : t.pl = s.pl) (x : Nat → Nat) (hx : ∀ w, w < p → t.L w % p = (s.L w + x w) % p) (hb : ∀ v, v < p → inn p s.L x v = x v) (hr : inR p t)
    {n : Nat} (hle : ∀ w, w < p → s.ex p n w ≤ x w) (hst : s.ex p n (s.go p n).pl = x (s.go p n).pl) : (s.go p n).pl = s.pl ∧ ∀ w, w < p → s.ex p n w = x w := by
  have hlt := go_lt h hs n
  have hmono : ∀ (v w : Nat), cnt1 p ((w : Int) + s.L w) (s.ex p n w) v ≤ cnt1 p ((w : Int) + s.L w) (x w) v ∨ ¬ w < p := fun v w => by
    by_cases q : w < p
    · exact .inl (cnt1_mono _ _ _ (hle w q))
    · exact .inr q
  have hm2 : ∀ v w, w < p → cnt1 p ((w : Int) + s.L w) (s.ex p n w) v ≤ cnt1 p ((w : Int) + s.L w) (x w) v := fun v w hw => (hmono v w).resolve_right fun q => q hw
  have b1 := bal h hs n _ hlt
  rw [if_pos rfl, hst] at b1
  have b2 := hb _ hlt
  have b3 : inn p s.L (s.ex p n) (s.go p n).pl ≤ inn p s.L x (s.go p n).pl := sumN_le fun w hw => hm2 _ w hw
  have e1 : (s.go p n).pl = s.pl := by
    apply Decidable.byContradiction
    intro q
    rw [if_neg q] at b1
    omega
  refine ⟨e1, ?_⟩
  rw [e1] at b1 b2 b3
  rw [if_pos rfl] at b1
  have b4 : sumN (fun w : Nat => cnt1 p ((w : Int) + s.L w) (s.ex p n w) s.pl) p = sumN (fun w : Nat => cnt1 p ((w : Int) + s.L w) (x w) s.pl) p := by
    unfold inn at b1 b2
    omega
  have b5 := sumN_eq (fun w hw => hm2 s.pl w hw) b4
  intro w hw
  apply Decidable.byContradiction
  intro q
  have lt0 : s.ex p n w < x w := by
    have := hle w hw
    omega
  -- the last going of what is left leads on to what is left
  have lastw : ∀ i, i < p → s.ex p n i < x i → cnt1 p ((i : Int) + s.L i) (s.ex p n i) (way p t.L i) + 1 ≤ cnt1 p ((i : Int) + s.L i) (x i) (way p t.L i) := fun i hi hl => by
    refine cnt1_last h _ ?_ hl
    show (((i : Int) + s.L i + x i) % p).toNat = (i + t.L i) % p
    have e2 : (i : Int) + s.L i + x i = ((i + (s.L i + x i) : Nat) : Int) := by omega
    rw [e2, ← Int.natCast_emod, Int.toNat_natCast, Nat.add_mod, ← hx i hi, ← Nat.add_mod]
  have noend : ∀ i, i < p → s.ex p n i < x i → way p t.L i ≠ s.pl := fun i hi hl e => by
    have a := lastw i hi hl
    rw [e] at a
    have b := b5 i hi
    omega
  have next : ∀ i, i < p → i ≠ t.pl → s.ex p n i < x i → s.ex p n (way p t.L i) < x (way p t.L i) := fun i hi _ hl => by
    have hv : way p t.L i < p := way_lt h _ _
    have ne := noend i hi hl
    have c1 := bal h hs n _ hv
    rw [e1, if_neg ne] at c1
    have c2 := hb _ hv
    have c3 : inn p s.L (s.ex p n) (way p t.L i) < inn p s.L x (way p t.L i) := sumN_lt (k := i) (fun w hw => hm2 _ w hw) hi (by have := lastw i hi hl; omega)
    omega
  have h8 := along h hr (fun i => s.ex p n i < x i) next hw lt0
  rw [ht] at h8
  have h9 := hst
  rw [e1] at h9
  omega
/-- the walk comes to where a stock's going is used up -/
theorem stops {p : Nat} (h : 0 < p) {s : WS} (hs : s.pl < p) (x : Nat → Nat) : ∃ n, (∀ w, w < p → s.ex p n w ≤ x w) ∧ s.ex p n (s.go p n).pl = x (s.go p n).pl := by
  apply Classical.byContradiction
  intro hno
  have all : ∀ n, ∀ w, w < p → s.ex p n w ≤ x w := by
    intro n
    induction n with
    | zero => exact fun w _ => Nat.zero_le _
    | succ n ih =>
      intro w hw
      show s.ex p n w + (if w = (s.go p n).pl then 1 else 0) ≤ x w
      by_cases e : w = (s.go p n).pl
      · rw [if_pos e]
        have := ih w hw
        have : s.ex p n w ≠ x w := fun q => hno ⟨n, ih, by rw [← e]; exact q⟩
        omega
      · rw [if_neg e]
        exact ih w hw
  have hS := sum_ex h hs ((sumN (fun w => (x w : Int)) p).toNat + 1)
  have : sumN (fun w => (s.ex p ((sumN (fun w => (x w : Int)) p).toNat + 1) w : Int)) p ≤ sumN (fun w => (x w : Int)) p := sumN_le fun w hw => by
    have := all ((sumN (fun w => (x w : Int)) p).toNat + 1) w hw
    omega
  omega
theorem inn_p {p : Nat} (h : 0 < p) (L : Nat → Nat) {v : Nat} (hv : v < p) : inn p L (fun _ => p) v = p := by
  unfold inn
  rw [sumN_ext (g := fun _ => 1) fun w hw => ?_, sumN_const]
  · omega
  · show cnt1 p ((w : Int) + L w) p v = 1
    have h1 := cnt1_le h ((w : Int) + L w) (n := p) hv (Nat.le_refl _)
    have h2 := cnt1_full h ((w : Int) + L w) (n := p) hv (Nat.le_refl _)
    omega
/-- a round: p * p steps, each place p times -/
theorem round_go {p : Nat} (h : 0 < p) {s : WS} (hs : s.pl < p) (hr : inR p s) : (s.go p (p * p)).pl = s.pl ∧ ∀ w, w < p → (s.go p (p * p)).L w = s.L w + p := by
  obtain ⟨n, h1, h2⟩ := stops h hs (fun _ => p)
  obtain ⟨h3, h4⟩ := all_gone h hs (t := s) rfl (fun _ => p) (fun w hw => by rw [Nat.add_mod_right]) (fun v hv => inn_p h s.L hv) hr h1 h2
  have hn : n = p * p := by
    have := sum_ex h hs n
    rw [sumN_ext (g := fun _ => (p : Int)) fun w hw => by rw [h4 w hw], sumN_const] at this
    have e : ((p * p : Nat) : Int) = p * p := Int.natCast_mul _ _
    omega
  subst hn
  exact ⟨h3, fun w hw => by rw [go_L, h4 w hw]⟩
/-- what comes back so is in its round -/
theorem inR_of_round {p : Nat} (h : 0 < p) {s : WS} (hs : s.pl < p) {n : Nat} (h1 : (s.go p n).pl = s.pl) {c : Nat} (hc : 0 < c) (h2 : ∀ w, w < p → (s.go p n).L w = s.L w + c * p) : inR p s := fun u hu => by
  obtain ⟨m, hm⟩ := led_ex h hs n u (by
    have := h2 u hu
    rw [go_L] at this
    have : 0 < c * p := Nat.mul_pos hc h
    omega)
  rw [h1] at hm
  have e : ∀ i, i < p → way p (s.go p n).L i = way p s.L i := fun i hi => by
    unfold way
    rw [h2 i hi, ← Nat.add_assoc, Nat.add_mul_mod_self_right]
  refine ⟨m, ?_⟩
  rw [← hm]
  clear hm
  induction m generalizing u with
  | zero => rfl
  | succ m ih =>
    show itw _ m (way p s.L u) = itw _ m (way p (s.go p n).L u)
    rw [e u hu]
    exact ih (way p s.L u) (way_lt h _ _)
end Lp

end
section
set_option maxHeartbeats 4000000
/-! P5: steps, what leads where, whether in its round. -/
namespace Lp
open PySem
/-- a walking learner as data -/
abbrev cdw (p : Nat) (s : WS) : D := cod p (s.pl : Int) fun k => (s.L k : Int)
structure Wk (p : Nat) (s : WS) : Prop where
  p1 : 1 ≤ p
  p12 : p ≤ 12
  h1 : s.pl < p
theorem Wk.cod {p : Nat} {s : WS} (h : Wk p s) : Cod p (s.pl : Int) fun k => (s.L k : Int) := ⟨h.p1, h.p12, by omega, by have := h.h1; omega, fun _ _ => by omega⟩
theorem Wk.step {p : Nat} {s : WS} (h : Wk p s) : Wk p (s.step p) := ⟨h.p1, h.p12, Nat.mod_lt _ h.p1⟩
theorem Wk.go {p : Nat} {s : WS} (h : Wk p s) (n : Nat) : Wk p (s.go p n) := ⟨h.p1, h.p12, go_lt h.p1 h.h1 n⟩
theorem Wk.n0 {p : Nat} {s : WS} (h : Wk p s) : 0 < p := h.p1
/-- every coder is a walking learner -/
def wsOf (pl : Int) (L : Nat → Int) : WS := ⟨pl.toNat, fun k => (L k).toNat⟩
theorem cod_ws {p : Nat} {pl : Int} {L : Nat → Int} (h : Cod p pl L) : cod p pl L = cdw p (wsOf pl L) := by
  have e : tab p L = tab p fun k => ((wsOf pl L).L k : Int) := tab_ext fun k hk => (Int.toNat_of_nonneg (h.hL k hk)).symm
  have e2 : ((wsOf pl L).pl : Int) = pl := Int.toNat_of_nonneg h.h0
  show D.tup [.int pl, .tup (tab p L)] = D.tup [.int ((wsOf pl L).pl : Int), .tup (tab p fun k => ((wsOf pl L).L k : Int))]
  rw [e, e2]
theorem Cod.wk {p : Nat} {pl : Int} {L : Nat → Int} (h : Cod p pl L) : Wk p (wsOf pl L) := ⟨h.p1, h.p12, by
  have := h.h0
  have := h.h1
  show pl.toNat < p
  omega⟩
theorem cdw_ext {p : Nat} {s t : WS} (h : s.pl = t.pl) (h2 : ∀ k, k < p → s.L k = t.L k) : cdw p s = cdw p t := by
  have e : tab p (fun k => (s.L k : Int)) = tab p fun k => (t.L k : Int) := tab_ext fun k hk => by rw [h2 k hk]
  show D.tup [.int s.pl, .tup (tab p _)] = _
  rw [e, h]
theorem cdw_inj {p : Nat} {s t : WS} (h : cdw p s = cdw p t) : s.pl = t.pl ∧ ∀ k, k < p → s.L k = t.L k := by
  simp only [D.tup.injEq, List.cons.injEq, D.int.injEq, and_true, tab_inj] at h
  exact ⟨by omega, fun k hk => by have := h.2 k hk; omega⟩
theorem cdw_pl {p : Nat} {T : WS} {n : Nat} (h : T.pl = n) : cdw p T = .tup [.int (n : Int), .tup (tab p fun k => (T.L k : Int))] := by
  rw [← h]
abbrev S_stepped (r : List R → List R → CR) : Prop := ∀ p s st, Wk p s → r [.frz (cdw p s)] st = .ok (.frz (cdw p (s.step p))) [none] st
theorem p_stepped {C : Calls} : S_stepped (f_stepped.run C) := fun p s st h => by
  have h1 := h.p1
  have h12 := h.p12
  have hl := h.h1
  have hp0 := h.n0
  have hb : p ≤ big := by have := big_eq; omega
  have a1 := tab_at (f := fun k => D.int (s.L k : Int)) (p := p) (i := (s.pl : Int)) (by omega) (by omega)
  have b1 : (slice (tabD p fun k => D.int (s.L k : Int)) none (some (s.pl : Int))).length ≤ p := by have := slice_len (tabD p fun k => D.int (s.L k : Int)) none (some (s.pl : Int)); rwa [tabD_len] at this
  have b2 : (slice (tabD p fun k => D.int (s.L k : Int)) (some ((s.pl : Int) + 1)) none).length ≤ p := by have := slice_len (tabD p fun k => D.int (s.L k : Int)) (some ((s.pl : Int) + 1)) none; rwa [tabD_len] at this
  have b3 : (slice (tabD p fun k => D.int (s.L k : Int)) none (some (s.pl : Int))).length + 1 ≤ big := by have := big_eq; omega
  have b4 : (slice (tabD p fun k => D.int (s.L k : Int)) none (some (s.pl : Int))).length + 1 + (slice (tabD p fun k => D.int (s.L k : Int)) (some ((s.pl : Int) + 1)) none).length ≤ big := by have := big_eq; omega
  have e0 : ∀ x, slice (tabD p fun k => D.int (s.L k : Int)) none (some (s.pl : Int)) ++ x :: slice (tabD p fun k => D.int (s.L k : Int)) (some ((s.pl : Int) + 1)) none = tabD p fun k => if k = s.pl then x else D.int (s.L k : Int) := fun x => by
    have := tab_upd (p := p) (f := fun k => D.int (s.L k : Int)) (i := (s.pl : Int)) (x := x) (by omega) (by omega)
    simpa using this
  refine CR.sat_eq (fn_run rfl ?_)
  refine run_step ?_
  simp [-Nat.reducePow, -Int.reducePow, *]
  refine run_step ?_
  simp [-Nat.reducePow, -Int.reducePow, *]
  refine run_step ?_
  simp [-Nat.reducePow, -Int.reducePow, *]
  have e2 : (tabD p fun k => if k = s.pl then D.int ((s.L s.pl : Int) + 1) else D.int (s.L k : Int)) = tab p fun k => ((s.step p).L k : Int) := tabD_ext fun k hk => by
    show _ = D.int ((if k = s.pl then s.L k + 1 else s.L k : Nat) : Int)
    by_cases e : k = s.pl
    · rw [if_pos e, if_pos e, e]
      rfl
    · rw [if_neg e, if_neg e]
  have e3 : ((s.pl : Int) + ((s.L s.pl : Int) + 1)) % p = ((s.step p).pl : Int) := by
    show _ = (((s.pl + (s.L s.pl + 1)) % p : Nat) : Int)
    rw [Int.natCast_emod]
    simp
  rw [e3]
  simp [e2]
abbrev S_led (r : List R → List R → CR) : Prop := ∀ p s st, Wk p s → r [.frz (cdw p s)] st = .ok (.lst (tab p fun i => (way p s.L i : Int))) [none] st
theorem p_led {C : Calls} : S_led (f_led.run C) := fun p s st h => by
  have h1 := h.p1
  have h12 := h.p12
  have hl := h.h1
  have hp0 := h.n0
  have hb : p ≤ big := by have := big_eq; omega
  refine CR.sat_eq (fn_run rfl ?_)
  refine run_step ?_
  simp [-Nat.reducePow, -Int.reducePow, *]
  refine run_step ?_
  simp [-Nat.reducePow, -Int.reducePow, *, enum_tab]
  refine lc_map (φ := fun d => match d with | .tup [.int i, .int l] => .int ((i + l) % p) | _ => .non) (by simp [*]) (by simp) (fun d hd => ?_) ?_
  · obtain ⟨i, hi, rfl⟩ := tabD_mem.mp hd
    refine ⟨_, stT_two _ _ _ _ _, ?_⟩
    simp [*]
  · simp [tabD_map]
    exact tabD_ext fun i hi => by
      show D.int _ = D.int (((i + s.L i) % p : Nat) : Int)
      rw [Int.natCast_emod]
      simp
/-! ### a dict that tells which places are there -/
def dk (l : List Nat) : List (D × D) := l.map fun (i : Nat) => (.int i, .bl true)
theorem look_dk (l : List Nat) (i : Nat) : (lookD (dk l) (.int i)).isSome = decide (i ∈ l) := by
  unfold lookD dk
  induction l with
  | nil => rfl
  | cons j l ih =>
    by_cases e : j = i
    · subst e
      simp [sameK]
    · have : sameK (.int (j : Int)) (.int (i : Int)) = false := by
        show decide ((j : Int) = i) = false
        exact decide_eq_false (by omega)
      simp only [List.map_cons, List.find?_cons, this, ih, List.mem_cons, Ne.symm e, false_or]
theorem put_dk {l : List Nat} {i : Nat} (h : i ∉ l) : putD (dk l) (.int i) (.bl true) = dk (l ++ [i]) := by
  unfold putD
  have : ((dk l).any fun p => sameK p.1 (.int i)) = false := by
    rw [List.any_eq_false]
    intro x hx
    obtain ⟨j, hj, rfl⟩ := List.mem_map.mp hx
    show ¬ decide ((j : Int) = i) = true
    rw [decide_eq_true_eq]
    intro e
    have : j = i := by omega
    exact h (this ▸ hj)
  rw [this]
  simp [dk]
@[simp] theorem dk_len (l : List Nat) : (dk l).length = l.length := by simp [dk]
theorem c_notin_dk (l : List Nat) (i : Nat) : cmpD .notin (.int i) (.dic (dk l)) = some (!decide (i ∈ l)) := by
  show (if isKey (.int (i : Int)) = true then some (!(lookD (dk l) (.int i)).isSome) else none) = _
  rw [look_dk]
  rfl
theorem nodup_len {p : Nat} {l : List Nat} (hn : l.Nodup) (hl : ∀ i ∈ l, i < p) : l.length ≤ p := by
  have := hn.length_le_of_subset (l₂ := List.range p) fun i hi => List.mem_range.mpr (hl i hi)
  rwa [List.length_range] at this
theorem all_of_len {p : Nat} {l : List Nat} (hn : l.Nodup) (hl : ∀ i ∈ l, i < p) (h : l.length = p) {i : Nat} (hi : i < p) : i ∈ l := by
  apply Classical.byContradiction
  intro q
  have : (i :: l).length ≤ p := nodup_len (List.nodup_cons.mpr ⟨q, hn⟩) fun j hj => by
    rcases List.mem_cons.mp hj with rfl | hj
    · exact hi
    · exact hl j hj
  rw [List.length_cons] at this
  omega
theorem len_of_all {p : Nat} {l : List Nat} (hn : l.Nodup) (hl : ∀ i ∈ l, i < p) (h : ∀ i, i < p → i ∈ l) : l.length = p := by
  have h1 := nodup_len hn hl
  have := (List.nodup_range (n := p)).length_le_of_subset (l₂ := l) fun i hi => h i (List.mem_range.mp hi)
  rw [List.length_range] at this
  omega
/-- whether it is in its round -/
noncomputable def inRB (p : Nat) (s : WS) : Bool := @decide (inR p s) (Classical.propDecidable _)
theorem inRB_iff {p : Nat} {s : WS} : inRB p s = true ↔ inR p s := by
  unfold inRB
  exact @decide_eq_true_iff _ (Classical.propDecidable _)
theorem inRB_eq {p : Nat} {s : WS} {b : Bool} (h : b = true ↔ inR p s) : inRB p s = b := by
  have := inRB_iff (p := p) (s := s)
  cases b <;> cases q : inRB p s <;> simp_all
theorem Pl.ints (l : List Nat) : Pl (.lst (l.map fun (i : Nat) => D.int i)) := by
  have dl : D.depL (l.map fun (i : Nat) => D.int i) ≤ 0 := depL_le fun d hd => by
    obtain ⟨i, hi, rfl⟩ := List.mem_map.mp hd
    exact Nat.le_refl _
  refine ⟨nbL_of fun d hd => ?_, flatL_of fun d hd => ?_, ?_⟩
  · obtain ⟨i, hi, rfl⟩ := List.mem_map.mp hd
    rfl
  · obtain ⟨i, hi, rfl⟩ := List.mem_map.mp hd
    rfl
  · simp only [D.dep]
    omega
theorem ne_lst_ne {a b : List D} (h : Pl (.lst a)) (h2 : Pl (.lst b)) (e : a ≠ b) : cmpD .ne (.lst a) (.lst b) = some true := by
  show (eqD (.lst a) (.lst b)).map (!·) = _
  rw [eqD_ll h h2, eqv_ne h h2 (fun z => e (D.lst.inj z))]
  rfl
theorem c_ne_nil (l : List Nat) : cmpD .ne (.lst (l.map fun (i : Nat) => D.int i)) (.lst []) = some (!l.isEmpty) := by
  cases l with
  | nil => exact ne_lst_self (Pl.ints [])
  | cons i l => exact ne_lst_ne (Pl.ints (i :: l)) (Pl.ints []) (by simp)
abbrev S_leads_here (r : List R → List R → CR) : Prop := ∀ p s st, Wk p s → r [.frz (cdw p s)] st = .ok (.frz (.bl (inRB p s))) [none] st
/-- what stands between two turns of the search -/
structure Srch (p : Nat) (s : WS) (T E : List Nat) : Prop where
  nd : T.Nodup
  lt : ∀ i ∈ T, i < p
  led : ∀ i ∈ T, ∃ n, itw (way p s.L) n i = s.pl
  home : s.pl ∈ T
  sub : ∀ i ∈ E, i ∈ T
  len : E.length ≤ T.length
theorem p_leads_here {C : Calls} (h_led : Sp C "led" [] S_led) : S_leads_here (f_leads_here.run C) := fun p s st h => by
  obtain ⟨r_led, k_led⟩ := h_led
  unfold S_led at k_led
  have h1 := h.p1
  have h12 := h.p12
  have hl := h.h1
  have hp0 := h.n0
  refine CR.sat_eq (fn_run rfl ?_)
  refine run_step ?_
  simp [-Nat.reducePow, -Int.reducePow, *]
  refine run_step ?_
  simp [-Nat.reducePow, -Int.reducePow, *, putD]
  refine run_step ?_
  simp [-Nat.reducePow, -Int.reducePow, *]
  refine run_whl (fun m e => ∃ (T E : List Nat) (w : R) (x y z : Option R), e = ⟨[some (.frz (cdw p s)), some w, some (.dic (dk T)), some (.lst (E.map fun (i : Nat) => D.int i)), x, y, z], st⟩ ∧ (w = .lst (tab p fun i => (way p s.L i : Int)) ∨ w = .frz (.lst (tab p fun i => (way p s.L i : Int)))) ∧ Srch p s T E ∧
    (∀ t ∈ T, t ∉ E → ∀ i, i < p → way p s.L i = t → i ∈ T) ∧ m = E.length + (p - T.length)) (m := p) (by show p < 1000000000; omega) ⟨[s.pl], [s.pl], _, _, _, _, rfl, .inl rfl, ⟨by simp, by simpa using hl, ?_, by simp, by simp, by simp⟩, by simp, ?_⟩ ?_
  · intro i hi
    rw [List.mem_singleton.mp hi]
    exact ⟨0, rfl⟩
  · simp
    omega
  · rintro m e ⟨T, E, w, x, y, z, rfl, hw, hS, hc, hm⟩
    have hTl := nodup_len hS.nd hS.lt
    simp [c_ne_nil]
    rcases List.eq_nil_or_concat E with rfl | ⟨E1, t, rfl⟩
    · simp
      have hall : inRB p s = decide (T.length = p) := inRB_eq (by
        rw [decide_eq_true_eq]
        refine ⟨fun q i hi => hS.led i (all_of_len hS.nd hS.lt q hi), fun q => len_of_all hS.nd hS.lt fun i hi => ?_⟩
        obtain ⟨n, hn⟩ := q i hi
        clear hm
        induction n generalizing i with
        | zero =>
          rw [show i = s.pl from hn]
          exact hS.home
        | succ n ih => exact hc _ (ih (way p s.L i) (way_lt hp0 _ _) hn) (by simp) i hi rfl)
      have e1 : decide (((T.length : Nat) : Int) = (p : Int)) = decide (T.length = p) := decide_eq_decide.mpr (by omega)
      rcases hw with rfl | rfl
      · refine run_step ?_
        simp [e1, hall]
      · refine run_step ?_
        simp [e1, hall]
    · simp [List.concat_eq_append]
      rw [List.concat_eq_append] at hS hc hm
      refine run_step ?_
      simp [-Nat.reducePow, -Int.reducePow, *, mtOwn]
      have hen : ∀ w, (w = R.lst (tab p fun i => (way p s.L i : Int)) ∨ w = .frz (.lst (tab p fun i => (way p s.L i : Int)))) → ∀ (l : List (Option R)) (b : List Stm) (W : Wish), (∀ y z, ForK C (.tp (.cons (.nm 5) (.cons (.nm 6) .nil))) b [] W (tabD p fun k => .tup [.int k, .int (way p s.L k : Int)]) ⟨[some (.frz (cdw p s)), some (.frz (.lst (tab p fun i => (way p s.L i : Int)))), some (.dic (dk T)), some (.lst (E1.map fun (i : Nat) => D.int i)), some (.frz (.int t)), y, z], st⟩) →
          Run C [.for_ (.tp (.cons (.nm 5) (.cons (.nm 6) .nil))) (.en (.var 1)) b] ⟨[some (.frz (cdw p s)), some w, some (.dic (dk T)), some (.lst (E1.map fun (i : Nat) => D.int i)), some (.frz (.int t)), y, z], st⟩ W := by
        intro w hw l b W hk
        rcases hw with rfl | rfl
        · refine run_for ?_
          simp [enum_tab]
          exact hk y z
        · refine run_for ?_
          simp [enum_tab]
          exact hk y z
      refine hen w hw [] _ _ fun y z => ?_
      refine for_by (fun j e => ∃ (T' E' : List Nat) (y z : Option R), e = ⟨[some (.frz (cdw p s)), some (.frz (.lst (tab p fun i => (way p s.L i : Int)))), some (.dic (dk T')), some (.lst (E'.map fun (i : Nat) => D.int i)), some (.frz (.int t)), y, z], st⟩ ∧ Srch p s T' E' ∧
        (∀ i ∈ T, i ∈ T') ∧ (∀ u ∈ T', u ∉ E' → u ∈ T ∧ u ∉ E1) ∧ (∀ i, i < j → way p s.L i = t → i ∈ T') ∧ T'.length + E1.length = E'.length + T.length) ?_ (fun j d e hd hI => ?_) (fun e hI => ?_)
      · refine ⟨T, E1, y, z, rfl, ⟨hS.nd, hS.lt, hS.led, hS.home, fun i hi => hS.sub i (List.mem_append_left _ hi), by have := hS.len; simp at this; omega⟩, fun _ h => h, fun u hu hn => ⟨hu, hn⟩, by omega, by omega⟩
      · obtain ⟨T', E', y, z, rfl, hS', g1, g2, g3, g4⟩ := hI
        obtain ⟨hj, rfl⟩ := tabD_iget hd
        refine ⟨_, stT_two _ _ _ _ _, ?_⟩
        refine run_ifs ?_
        have hTl' := nodup_len hS'.nd hS'.lt
        simp [c_notin_dk]
        have keep : ∀ (y0 z0 : Option R), way p s.L j ≠ t ∨ j ∈ T' → ∃ T'' E'', (∃ y z, (⟨[some (.frz (cdw p s)), some (.frz (.lst (tab p fun i => (way p s.L i : Int)))), some (.dic (dk T')), some (.lst (E'.map fun (i : Nat) => D.int i)), some (.frz (.int t)), y0, z0], st⟩ : Env) = ⟨[some (.frz (cdw p s)), some (.frz (.lst (tab p fun i => (way p s.L i : Int)))), some (.dic (dk T'')), some (.lst (E''.map fun (i : Nat) => D.int i)), some (.frz (.int t)), y, z], st⟩) ∧ Srch p s T'' E'' ∧
            (∀ i ∈ T, i ∈ T'') ∧ (∀ u ∈ T'', u ∉ E'' → u ∈ T ∧ u ∉ E1) ∧ (∀ i, i < j + 1 → way p s.L i = t → i ∈ T'') ∧ T''.length + E1.length = E''.length + T.length := fun y0 z0 q => ⟨T', E', ⟨_, _, rfl⟩, hS', g1, g2, fun i hi hw => by
              by_cases e : i = j
              · subst e
                exact q.resolve_left fun z => z hw
              · exact g3 i (by omega) hw, g4⟩
        by_cases q1 : way p s.L j = t
        · rw [if_pos (by omega)]
          by_cases q2 : j ∈ T'
          · rw [if_pos q2]
            refine run_nil ?_
            exact keep _ _ (.inr q2)
          · rw [if_neg q2]
            have hlen : (dk T').length < big := by have := big_eq; simp; omega
            have hlen2 : T'.length < big := by have := big_eq; omega
            have hE : E'.length < big := by have := big_eq; have := hS'.len; omega
            refine run_step ?_
            simp [-Nat.reducePow, -Int.reducePow, *, put_dk q2]
            refine run_step ?_
            simp [-Nat.reducePow, -Int.reducePow, *, mtOwn]
            refine run_nil ?_
            refine ⟨T' ++ [j], E' ++ [j], ⟨_, _, by rw [List.map_append]; rfl⟩, ⟨?_, fun i hi => ?_, fun i hi => ?_, List.mem_append_left _ hS'.home, fun i hi => ?_, by have := hS'.len; simp; omega⟩, fun i hi => List.mem_append_left _ (g1 i hi), fun u hu hn => ?_, fun i hi hw => ?_, by simp; omega⟩
            · refine List.nodup_append.mpr ⟨hS'.nd, by simp, fun a ha b hb e => ?_⟩
              rw [List.mem_singleton.mp hb] at e
              exact q2 (e ▸ ha)
            · rcases List.mem_append.mp hi with hi | hi
              · exact hS'.lt i hi
              · rw [List.mem_singleton.mp hi]
                exact hj
            · rcases List.mem_append.mp hi with hi | hi
              · exact hS'.led i hi
              · rw [List.mem_singleton.mp hi]
                obtain ⟨n, hn⟩ := hS.led t (hS.sub t (List.mem_append_right _ List.mem_cons_self))
                exact ⟨n + 1, by show itw _ n (way p s.L j) = _; rw [q1]; exact hn⟩
            · rcases List.mem_append.mp hi with hi | hi
              · exact List.mem_append_left _ (hS'.sub i hi)
              · exact List.mem_append_right _ hi
            · rcases List.mem_append.mp hu with hu | hu
              · exact g2 u hu fun z => hn (List.mem_append_left _ z)
              · exact absurd (List.mem_append_right _ hu) hn
            · by_cases e : i = j
              · exact List.mem_append_right _ (by rw [e]; exact List.mem_cons_self)
              · exact List.mem_append_left _ (g3 i (by omega) hw)
        · rw [if_neg (by omega)]
          refine run_nil ?_
          exact keep _ _ (.inl q1)
      · obtain ⟨T', E', y, z, rfl, hS', g1, g2, g3, g4⟩ := hI
        simp only [tabD_len] at g3
        refine run_nil ?_
        refine ⟨E'.length + (p - T'.length), ?_, T', E', _, ⟨_, _, _, rfl⟩, .inr rfl, hS', fun u hu hn i hi hw => ?_, rfl⟩
        · have := nodup_len hS'.nd hS'.lt
          simp at hm
          omega
        · obtain ⟨hu1, hu2⟩ := g2 u hu hn
          by_cases e : u = t
          · exact g3 i hi (hw.trans e)
          · exact g1 i (hc u hu1 (fun z => by
              rcases List.mem_append.mp z with z | z
              · exact hu2 z
              · exact e (List.mem_singleton.mp z)) i hi hw)
end Lp

end
section
set_option maxHeartbeats 4000000
/-! P6: to the round, gone on. -/
namespace Lp
open PySem
theorem least_of {P : Nat → Prop} : ∀ {n : Nat}, P n → ∃ m, m ≤ n ∧ P m ∧ ∀ k, k < m → ¬ P k := by
  intro n
  induction n using Nat.strongRecOn with
  | ind n ih =>
    intro h
    by_cases q : ∃ k, k < n ∧ P k
    · obtain ⟨k, hk, hP⟩ := q
      obtain ⟨m, h1, h2, h3⟩ := ih k hk hP
      exact ⟨m, by omega, h2, h3⟩
    · exact ⟨n, Nat.le_refl _, h, fun k hk hP => q ⟨k, hk, hP⟩⟩
/-- how many steps till it is in its round -/
noncomputable def ahd (p : Nat) (s : WS) : Nat := @Classical.epsilon Nat ⟨0⟩ fun n => inR p (s.go p n) ∧ ∀ k, k < n → ¬ inR p (s.go p k)
theorem ahd_ok {p : Nat} {s : WS} (h : Wk p s) : inR p (s.go p (ahd p s)) ∧ (∀ k, k < ahd p s → ¬ inR p (s.go p k)) ∧ ahd p s ≤ (p - 1) * (p - 1) + 1 := by
  obtain ⟨m, h1, h2, h3⟩ := least_of (P := fun n => inR p (s.go p n)) (inR_by h.n0 h.h1 (n := (p - 1) * (p - 1) + 1) (Nat.lt_succ_self _))
  have q := @Classical.epsilon_spec Nat (fun n => inR p (s.go p n) ∧ ∀ k, k < n → ¬ inR p (s.go p k)) ⟨m, h2, h3⟩
  have q1 : inR p (s.go p (ahd p s)) ∧ ∀ k, k < ahd p s → ¬ inR p (s.go p k) := q
  refine ⟨q1.1, q1.2, ?_⟩
  apply Decidable.byContradiction
  intro z
  exact q1.2 m (by omega) h2
theorem ahd_eq {p : Nat} {s : WS} (h : Wk p s) {n : Nat} (h1 : inR p (s.go p n)) (h2 : ∀ k, k < n → ¬ inR p (s.go p k)) : ahd p s = n := by
  obtain ⟨a, b, _⟩ := ahd_ok h
  apply Decidable.byContradiction
  intro q
  rcases Nat.lt_or_ge (ahd p s) n with c | c
  · exact h2 _ c a
  · exact b n (by omega) h1
theorem ahd_lt {p : Nat} {s : WS} (h : Wk p s) : ahd p s ≤ 122 := by
  have h1 := (ahd_ok h).2.2
  have h2 := h.p12
  have : (p - 1) * (p - 1) ≤ 11 * 11 := Nat.mul_le_mul (by omega) (by omega)
  omega
abbrev S_to_round (r : List R → List R → CR) : Prop := ∀ p s st, Wk p s → r [.frz (cdw p s)] st = .ok (.frz (.tup [.int (ahd p s : Int), cdw p (s.go p (ahd p s))])) [none] st
theorem p_to_round {C : Calls} (h_leads_here : Sp C "leads_here" [] S_leads_here) (h_stepped : Sp C "stepped" [] S_stepped) : S_to_round (f_to_round.run C) := fun p s st h => by
  obtain ⟨r_leads_here, k_leads_here⟩ := h_leads_here
  unfold S_leads_here at k_leads_here
  obtain ⟨r_stepped, k_stepped⟩ := h_stepped
  unfold S_stepped at k_stepped
  obtain ⟨g1, g2, g3⟩ := ahd_ok h
  have g4 := ahd_lt h
  refine CR.sat_eq (fn_run rfl ?_)
  refine run_step ?_
  simp [-Nat.reducePow, -Int.reducePow, *]
  refine run_whl (fun m e => ∃ n : Nat, n + m = ahd p s ∧ e = ⟨[some (.frz (cdw p s)), some (.frz (.int n)), some (.frz (cdw p (s.go p n)))], st⟩) (m := ahd p s) (by show _ < 1000000000; omega) ⟨0, by omega, rfl⟩ ?_
  rintro m e ⟨n, hn, rfl⟩
  have hk := k_leads_here p (s.go p n) st (h.go n)
  have hs := k_stepped p (s.go p n) st (h.go n)
  by_cases q : n = ahd p s
  · have hb : inRB p (s.go p n) = true := inRB_iff.mpr (by rw [q]; exact g1)
    rw [hb] at hk
    simp [r_leads_here, hk]
    refine run_step ?_
    simp [q]
  · have hb : inRB p (s.go p n) = false := by
      cases z : inRB p (s.go p n) with
      | false => rfl
      | true => exact absurd (inRB_iff.mp z) (g2 n (by omega))
    rw [hb] at hk
    simp [r_leads_here, hk]
    refine run_step ?_
    simp [r_stepped, hs]
    refine run_nil ?_
    exact ⟨m - 1, by omega, n + 1, by omega, rfl⟩
/-- lengths raised -/
def WS.up (s : WS) (c : Nat) : WS := ⟨s.pl, fun k => s.L k + c⟩
abbrev S_raised (r : List R → List R → CR) : Prop := ∀ p s (c : Nat) st, Wk p s → r [.frz (cdw p s), .frz (.int c)] st = .ok (.frz (cdw p (s.up c))) [none, none] st
theorem p_raised {C : Calls} : S_raised (f_raised.run C) := fun p s c st h => by
  have h1 := h.p1
  have h12 := h.p12
  have hp0 := h.n0
  have hb : p ≤ big := by have := big_eq; omega
  refine CR.sat_eq (fn_run rfl ?_)
  refine run_step ?_
  simp [-Nat.reducePow, -Int.reducePow, *]
  refine lc_map (φ := fun d => match d with | .int i => .int (i + c) | _ => .non) (by simp [*]) (by simp) (fun d hd => ?_) ?_
  · obtain ⟨i, hi, rfl⟩ := tabD_mem.mp hd
    simp
  · simp [tabD_map]
    exact ⟨rfl, tabD_ext fun i hi => by
      show D.int ((s.L i : Int) + c) = D.int ((s.L i + c : Nat) : Int)
      simp⟩
/-! ### going with lengths alike -/
def WS.alike (p : Nat) (s t : WS) : Prop := s.pl = t.pl ∧ ∀ k, k < p → s.L k = t.L k
theorem alike_go {p : Nat} (h : 0 < p) {s t : WS} (hs : s.pl < p) (q : s.alike p t) : ∀ n, (s.go p n).alike p (t.go p n)
  | 0 => q
  | n + 1 => by
    obtain ⟨q1, q2⟩ := alike_go h hs q n
    have hl := go_lt h hs n
    refine ⟨?_, fun k hk => ?_⟩
    · show ((s.go p n).pl + ((s.go p n).L (s.go p n).pl + 1)) % p = ((t.go p n).pl + ((t.go p n).L (t.go p n).pl + 1)) % p
      rw [q2 _ hl, q1]
    · show (if k = (s.go p n).pl then (s.go p n).L k + 1 else (s.go p n).L k) = if k = (t.go p n).pl then (t.go p n).L k + 1 else (t.go p n).L k
      rw [q2 k hk, q1]
theorem alike.cdw {p : Nat} {s t : WS} (q : s.alike p t) : cdw p s = cdw p t := cdw_ext q.1 q.2
theorem up_go {p : Nat} (h : 0 < p) (s : WS) (c : Nat) : ∀ n, ((s.up (c * p)).go p n).alike p ((s.go p n).up (c * p))
  | 0 => ⟨rfl, fun _ _ => rfl⟩
  | n + 1 => by
    obtain ⟨q1, q2⟩ := up_go h s c n
    refine ⟨?_, fun k hk => ?_⟩
    · show (((s.up (c * p)).go p n).pl + (((s.up (c * p)).go p n).L ((s.up (c * p)).go p n).pl + 1)) % p = ((s.go p n).pl + ((s.go p n).L (s.go p n).pl + 1)) % p
      rw [q1]
      by_cases hl : (s.go p n).pl < p
      · have := q2 (s.go p n).pl hl
        have e : ((s.go p n).up (c * p)).pl = (s.go p n).pl := rfl
        rw [e, this]
        show ((s.go p n).pl + ((s.go p n).L (s.go p n).pl + c * p + 1)) % p = _
        rw [show (s.go p n).pl + ((s.go p n).L (s.go p n).pl + c * p + 1) = (s.go p n).pl + ((s.go p n).L (s.go p n).pl + 1) + c * p by omega, Nat.add_mul_mod_self_right]
      · have e2 : ∀ m k, ¬ k < p → ((s.up (c * p)).go p m).pl = (s.go p m).pl → ((s.up (c * p)).go p m).L k = (s.go p m).L k + c * p ∨ True := fun _ _ _ _ => .inr trivial
        have hL : ((s.up (c * p)).go p n).L (s.go p n).pl = (s.go p n).L (s.go p n).pl + c * p := by
          have key : ∀ m, m ≤ n → ∀ k, ((s.up (c * p)).go p m).pl = (s.go p m).pl → ((s.up (c * p)).go p m).L k = s.L k + c * p + (s.up (c * p)).ex p m k := fun m _ k _ => go_L p (s.up (c * p)) m k
          cases n with
          | zero => rfl
          | succ n => exact absurd (Nat.mod_lt _ h) hl
        have e : ((s.go p n).up (c * p)).pl = (s.go p n).pl := rfl
        rw [e, hL, show (s.go p n).pl + ((s.go p n).L (s.go p n).pl + c * p + 1) = (s.go p n).pl + ((s.go p n).L (s.go p n).pl + 1) + c * p by omega, Nat.add_mul_mod_self_right]
    · show (if k = ((s.up (c * p)).go p n).pl then ((s.up (c * p)).go p n).L k + 1 else ((s.up (c * p)).go p n).L k) = (if k = (s.go p n).pl then (s.go p n).L k + 1 else (s.go p n).L k) + c * p
      rw [q2 k hk, q1]
      show (if k = (s.go p n).pl then (s.go p n).L k + c * p + 1 else (s.go p n).L k + c * p) = _
      split <;> omega
/-- many rounds -/
theorem rounds_go {p : Nat} (h : 0 < p) {s : WS} (hs : s.pl < p) (hr : inR p s) : ∀ c, (s.go p (c * (p * p))).alike p (s.up (c * p))
  | 0 => by
    rw [Nat.zero_mul, Nat.zero_mul]
    exact ⟨rfl, fun _ _ => rfl⟩
  | c + 1 => by
    obtain ⟨q1, q2⟩ := rounds_go h hs hr c
    obtain ⟨r1, r2⟩ := round_go h (go_lt h hs (c * (p * p))) (inR_go h hs hr (c * (p * p)))
    rw [Nat.add_mul, Nat.one_mul, go_add]
    refine ⟨r1.trans q1, fun k hk => ?_⟩
    rw [r2 k hk, q2 k hk]
    show s.L k + c * p + p = s.L k + (c + 1) * p
    rw [Nat.add_mul, Nat.one_mul]
    omega
/-- far steps -/
theorem far_go {p : Nat} {s : WS} (h : Wk p s) {m : Nat} (hm : ahd p s ≤ m) : cdw p (((s.go p (ahd p s)).up ((m - ahd p s) / (p * p) * p)).go p ((m - ahd p s) % (p * p))) = cdw p (s.go p m) := by
  obtain ⟨g1, _, _⟩ := ahd_ok h
  have hp := h.n0
  have e : m = ahd p s + ((m - ahd p s) / (p * p) * (p * p) + (m - ahd p s) % (p * p)) := by
    have := Nat.div_add_mod (m - ahd p s) (p * p)
    rw [Nat.mul_comm] at this
    omega
  have q := rounds_go hp (h.go (ahd p s)).h1 g1 ((m - ahd p s) / (p * p))
  have q2 := alike_go hp (go_lt hp (h.go (ahd p s)).h1 _) q ((m - ahd p s) % (p * p))
  rw [← go_add, ← go_add, ← e] at q2
  exact (cdw_ext q2.1 q2.2).symm
abbrev S_gone_on (r : List R → List R → CR) : Prop := ∀ p s (m : Nat) st, Wk p s → m < 2 ^ 200 → r [.frz (cdw p s), .frz (.int m)] st = .ok (.frz (cdw p (s.go p m))) [none, none] st
theorem p_gone_on {C : Calls} (h_to_round : Sp C "to_round" [] S_to_round) (h_raised : Sp C "raised" [] S_raised) (h_stepped : Sp C "stepped" [] S_stepped) : S_gone_on (f_gone_on.run C) := fun p s m st h hm => by
  obtain ⟨r_to_round, k_to_round⟩ := h_to_round
  unfold S_to_round at k_to_round
  obtain ⟨r_raised, k_raised⟩ := h_raised
  unfold S_raised at k_raised
  obtain ⟨r_stepped, k_stepped⟩ := h_stepped
  unfold S_stepped at k_stepped
  have g4 := ahd_lt h
  have hp := h.n0
  have hp12 := h.p12
  have hpp : p * p ≤ 144 := Nat.mul_le_mul hp12 hp12
  have hpp0 : 0 < p * p := Nat.mul_pos hp hp
  have loop : ∀ (t : WS) (l : Nat) (a b c d : Option R) (W : Wish), (∀ e, e.st = st → W.rt (.frz (cdw p (s.go p m))) e) → Wk p t → l ≤ 200 → cdw p (t.go p l) = cdw p (s.go p m) → Run C [.for_ (.nm 7) (.rg1 (.var 4)) [.set (.nm 3) (.call (Str.ofString "stepped") (.cons (.var 3) .nil))], .ret (.var 3)] ⟨[some (.frz (cdw p s)), some (.frz (.int m)), a, some (.frz (cdw p t)), some (.frz (.int l)), b, c, d], st⟩ W := by
    intro t l a b c d W hW ht hl he
    have sm : small (l : Int) = true := small_of (by omega) (by omega)
    refine run_for ?_
    simp [-Nat.reducePow, -Int.reducePow, *]
    refine for_by (fun i e => ∃ d, e = ⟨[some (.frz (cdw p s)), some (.frz (.int m)), a, some (.frz (cdw p (t.go p i))), some (.frz (.int l)), b, c, d], st⟩) ⟨_, rfl⟩ (fun i d e hd hI => ?_) (fun e hI => ?_)
    · obtain ⟨d, rfl⟩ := hI
      refine ⟨_, rfl, ?_⟩
      have hs := k_stepped p (t.go p i) st (ht.go i)
      refine run_step ?_
      simp [r_stepped, hs]
      refine run_nil ?_
      refine ⟨_, rfl⟩
    · obtain ⟨d, rfl⟩ := hI
      simp only [tabD_len]
      refine run_step ?_
      rw [he]
      simp
      exact hW _ rfl
  refine CR.sat_eq (fn_run rfl ?_)
  refine run_step ?_
  simp [-Nat.reducePow, -Int.reducePow, *]
  refine run_ifs ?_
  simp
  by_cases q : m ≤ ahd p s
  · rw [if_pos q]
    refine run_step ?_
    simp
    exact loop s m _ _ _ _ _ (fun e he => by simp [he]) h (by omega) rfl
  · rw [if_neg q]
    have hsub : (m : Int) - (ahd p s : Int) = ((m - ahd p s : Nat) : Int) := by omega
    have mo : ∀ x : Int, mulOk x p = true := fun x => mul_right _ (by omega)
    have hpi : (0 : Int) < p := by omega
    have hppi : (0 : Int) < (p : Int) * p := Int.mul_pos hpi hpi
    have hpw : ((p : Int) * p).natAbs < 2 ^ 250 := by
      rw [show (p : Int) * p = ((p * p : Nat) : Int) from (Int.natCast_mul _ _).symm]
      omega
    have dv : divR (.frz (.int ((m - ahd p s : Nat) : Int))) (.frz (.int ((p : Int) * p))) = some (.frz (.tup [.int (((m - ahd p s) / (p * p) : Nat) : Int), .int (((m - ahd p s) % (p * p) : Nat) : Int)])) := by
      show (if 0 < (p : Int) * p ∧ ((p : Int) * p).natAbs < 2 ^ 250 then _ else none) = _
      rw [if_pos ⟨hppi, hpw⟩, Int.natCast_ediv, Int.natCast_emod, Int.natCast_mul]
    have hr := k_raised p (s.go p (ahd p s)) ((m - ahd p s) / (p * p) * p) st (h.go _)
    rw [Int.natCast_mul] at hr
    have hlt : (m - ahd p s) % (p * p) < p * p := Nat.mod_lt _ hpp0
    have hfar := far_go h (m := m) (by omega)
    generalize (m - ahd p s) / (p * p) = Q at *
    generalize (m - ahd p s) % (p * p) = M at *
    rw [← hsub] at dv
    refine run_step ?_
    simp
    refine run_step ?_
    simp [mo, dv]
    refine run_step ?_
    simp [mo, r_raised, hr]
    exact loop ((s.go p (ahd p s)).up (Q * p)) _ _ _ _ _ _ (fun e he => by simp [he]) ⟨h.p1, h.p12, (h.go _).h1⟩ (by omega) hfar
abbrev S_need_count (r : List R → List R → CR) : Prop := ∀ (i a b : Int) st, a ≤ i → i ≤ b → r [.frz (.int i), .frz (.int a), .frz (.int b)] st = .ok (.frz .non) [none, none, none] st
theorem p_need_count {C : Calls} (h_is_within : Sp C "is_within" [] S_is_within) : S_need_count (f_need_count.run C) := fun i a b st h1 h2 => by
  obtain ⟨r_is_within, k_is_within⟩ := h_is_within
  unfold S_is_within at k_is_within
  refine CR.sat_eq (fn_run rfl ?_)
  refine run_ifs ?_
  simp [-Nat.reducePow, -Int.reducePow, *]
  exact run_nil (by simp)
abbrev S_step (r : List R → List R → CR) : Prop := ∀ p s st, Wk p s → r [.frz (cdw p s)] st = .ok (.frz (cdw p (s.step p))) [none] st
theorem p_step {C : Calls} (h_need_coder : Sp C "need_coder" [] S_need_coder) (h_stepped : Sp C "stepped" [] S_stepped) : S_step (f_step.run C) := fun p s st h => by
  obtain ⟨r_need_coder, k_need_coder⟩ := h_need_coder
  unfold S_need_coder at k_need_coder
  obtain ⟨r_stepped, k_stepped⟩ := h_stepped
  unfold S_stepped at k_stepped
  have hc := h.cod
  refine CR.sat_eq (fn_run rfl ?_)
  refine run_step ?_
  simp [-Nat.reducePow, -Int.reducePow, *]
  refine run_step ?_
  simp [-Nat.reducePow, -Int.reducePow, *]
abbrev S_behind (r : List R → List R → CR) : Prop := ∀ p s (m : Nat) st, Wk p s → m ≤ 10 ^ 18 → r [.frz (cdw p s), .frz (.int m)] st = .ok (.frz (cdw p (s.go p m))) [none, none] st
theorem p_behind {C : Calls} (g_MOST_STEPS : C.glob "MOST_STEPS" = some (.int 1000000000000000000)) (h_need_coder : Sp C "need_coder" [] S_need_coder) (h_need_count : Sp C "need_count" [] S_need_count) (h_gone_on : Sp C "gone_on" [] S_gone_on) : S_behind (f_behind.run C) := fun p s m st h hm => by
  obtain ⟨r_need_coder, k_need_coder⟩ := h_need_coder
  unfold S_need_coder at k_need_coder
  obtain ⟨r_need_count, k_need_count⟩ := h_need_count
  unfold S_need_count at k_need_count
  obtain ⟨r_gone_on, k_gone_on⟩ := h_gone_on
  unfold S_gone_on at k_gone_on
  have hc := h.cod
  have i1 : (m : Int) ≤ 1000000000000000000 := by omega
  have i2 : m < 2 ^ 200 := by omega
  refine CR.sat_eq (fn_run rfl ?_)
  refine run_step ?_
  simp [-Nat.reducePow, -Int.reducePow, *]
  refine run_step ?_
  simp [-Nat.reducePow, -Int.reducePow, *]
  refine run_step ?_
  simp [-Nat.reducePow, -Int.reducePow, *]
abbrev S_in_round (r : List R → List R → CR) : Prop := ∀ p s st, Wk p s → r [.frz (cdw p s)] st = .ok (.frz (.bl (inRB p s))) [none] st
theorem p_in_round {C : Calls} (h_need_coder : Sp C "need_coder" [] S_need_coder) (h_leads_here : Sp C "leads_here" [] S_leads_here) : S_in_round (f_in_round.run C) := fun p s st h => by
  obtain ⟨r_need_coder, k_need_coder⟩ := h_need_coder
  unfold S_need_coder at k_need_coder
  obtain ⟨r_leads_here, k_leads_here⟩ := h_leads_here
  unfold S_leads_here at k_leads_here
  have hc := h.cod
  refine CR.sat_eq (fn_run rfl ?_)
  refine run_step ?_
  simp [-Nat.reducePow, -Int.reducePow, *]
  refine run_step ?_
  simp [-Nat.reducePow, -Int.reducePow, *]
abbrev S_ahead (r : List R → List R → CR) : Prop := ∀ p s st, Wk p s → r [.frz (cdw p s)] st = .ok (.frz (.int (ahd p s))) [none] st
theorem p_ahead {C : Calls} (h_need_coder : Sp C "need_coder" [] S_need_coder) (h_to_round : Sp C "to_round" [] S_to_round) : S_ahead (f_ahead.run C) := fun p s st h => by
  obtain ⟨r_need_coder, k_need_coder⟩ := h_need_coder
  unfold S_need_coder at k_need_coder
  obtain ⟨r_to_round, k_to_round⟩ := h_to_round
  unfold S_to_round at k_to_round
  have hc := h.cod
  refine CR.sat_eq (fn_run rfl ?_)
  refine run_step ?_
  simp [-Nat.reducePow, -Int.reducePow, *]
  refine run_step ?_
  simp [-Nat.reducePow, -Int.reducePow, *]
end Lp

end
section
set_option maxHeartbeats 1000000
/-! M3: led on and on; where a round is at place 0. -/
namespace Lp
theorem itw_succ (f : Nat → Nat) : ∀ (n i : Nat), itw f (n + 1) i = f (itw f n i)
  | 0, _ => rfl
  | n + 1, i => by
    show itw f (n + 1) (f i) = f (itw f n (f i))
    exact itw_succ f n (f i)
theorem itw_add (f : Nat → Nat) : ∀ (m n i : Nat), itw f (m + n) i = itw f n (itw f m i)
  | 0, n, i => by rw [Nat.zero_add]; rfl
  | m + 1, n, i => by
    rw [show m + 1 + n = (m + n) + 1 by omega]
    exact itw_add f m n (f i)
theorem itw_lt {p : Nat} {w : Nat → Nat} (hw : ∀ i, i < p → w i < p) : ∀ (n i : Nat), i < p → itw w n i < p
  | 0, _, h => h
  | n + 1, i, h => itw_lt hw n (w i) (hw i h)
/-- what is reached is reached soon -/
theorem reach_soon {p : Nat} {w : Nat → Nat} (hw : ∀ i, i < p → w i < p) {i home : Nat} (hi : i < p) (h : ∃ n, itw w n i = home) : ∃ n, n < p ∧ itw w n i = home ∧ ∀ k, k < n → itw w k i ≠ home := by
  obtain ⟨n, hn⟩ := h
  obtain ⟨m, _, hm, hl⟩ := least_of (P := fun n => itw w n i = home) hn
  refine ⟨m, ?_, hm, hl⟩
  have nd : ((List.range (m + 1)).map fun k => itw w k i).Nodup := by
    rw [List.Nodup, List.pairwise_map]
    have : List.Pairwise (fun a b => a < b) (List.range (m + 1)) := List.pairwise_lt_range
    refine List.Pairwise.imp_of_mem ?_ this
    intro a b ha hb hab e
    have hb := List.mem_range.mp hb
    have : itw w (a + (m - b)) i = home := by
      rw [itw_add, e, ← itw_add, show b + (m - b) = m by omega]
      exact hm
    exact hl (a + (m - b)) (by omega) this
  have := nodup_len (p := p) nd fun j hj => by
    obtain ⟨k, _, rfl⟩ := List.mem_map.mp hj
    exact itw_lt hw k i hi
  simp at this
  omega
/-- so many turns, stopping at home -/
def stp (w : Nat → Nat) (home i : Nat) : Nat → Nat
  | 0 => i
  | k + 1 => if stp w home i k = home then stp w home i k else w (stp w home i k)
theorem stp_stay {w : Nat → Nat} {home i k : Nat} (h : stp w home i k = home) : ∀ m, stp w home i (k + m) = home
  | 0 => h
  | m + 1 => by
    show (if stp w home i (k + m) = home then _ else _) = home
    rw [if_pos (stp_stay h m)]
    exact stp_stay h m
theorem stp_itw {w : Nat → Nat} {home i : Nat} : ∀ {k}, (∀ j, j < k → itw w j i ≠ home) → stp w home i k = itw w k i
  | 0, _ => rfl
  | k + 1, h => by
    have ih := stp_itw (k := k) fun j hj => h j (by omega)
    show (if stp w home i k = home then _ else _) = _
    rw [ih, if_neg (h k (by omega)), itw_succ]
theorem stp_iff {p : Nat} {w : Nat → Nat} (hw : ∀ i, i < p → w i < p) {i home : Nat} (hi : i < p) : stp w home i p = home ↔ ∃ n, itw w n i = home := by
  constructor
  · intro h
    apply Classical.byContradiction
    intro q
    exact q ⟨p, by rw [← stp_itw (k := p) (home := home) fun j _ e => q ⟨j, e⟩]; exact h⟩
  · intro h
    obtain ⟨n, h1, h2, h3⟩ := reach_soon hw hi h
    have := stp_stay (k := n) (by rw [stp_itw h3]; exact h2) (p - n)
    rwa [show n + (p - n) = p by omega] at this
theorem stp_lt {p : Nat} {w : Nat → Nat} (hw : ∀ i, i < p → w i < p) {home i : Nat} (hi : i < p) : ∀ k, stp w home i k < p
  | 0 => hi
  | k + 1 => by
    show (if stp w home i k = home then _ else _) < p
    split
    · exact stp_lt hw hi k
    · exact hw _ (stp_lt hw hi k)
/-- whether from each place one comes home -/
noncomputable def homeB (p : Nat) (w : Nat → Nat) (home : Nat) : Bool := @decide (∀ i, i < p → ∃ n, itw w n i = home) (Classical.propDecidable _)
theorem homeB_iff {p : Nat} {w : Nat → Nat} {home : Nat} : homeB p w home = true ↔ ∀ i, i < p → ∃ n, itw w n i = home := by
  unfold homeB
  exact @decide_eq_true_iff _ (Classical.propDecidable _)
theorem homeB_eq {p : Nat} {w : Nat → Nat} {home : Nat} {b : Bool} (h : b = true ↔ ∀ i, i < p → ∃ n, itw w n i = home) : homeB p w home = b := by
  have := homeB_iff (p := p) (w := w) (home := home)
  cases q : homeB p w home with
  | true => exact (h.mpr (this.mp q)).symm
  | false =>
    cases b with
    | false => rfl
    | true => exact absurd (this.mpr (h.mp rfl)) (by rw [q]; exact Bool.false_ne_true)
theorem inRB_home (p : Nat) (s : WS) : inRB p s = homeB p (way p s.L) s.pl := rfl
/-- a thing that grows by one at most passes all -/
theorem passes {f : Nat → Nat} (hf : ∀ n, f (n + 1) = f n ∨ f (n + 1) = f n + 1) {T : Nat} : ∀ {N : Nat}, f 0 ≤ T → T < f N → ∃ n, n < N ∧ f n = T ∧ f (n + 1) = T + 1
  | 0, h0, h1 => by omega
  | N + 1, h0, h1 => by
    by_cases q : T < f N
    · obtain ⟨n, h2, h3⟩ := passes hf (N := N) h0 q
      exact ⟨n, by omega, h3⟩
    · have := hf N
      exact ⟨N, by omega, by omega, by omega⟩
/-- in each round a place is once at each length modulo p -/
theorem at_rest {p : Nat} (h : 0 < p) {s : WS} (hs : s.pl < p) (hr : inR p s) {v : Nat} (hv : v < p) (T : Nat) : ∃ n, n < p * p ∧ (s.go p n).pl = v ∧ (s.go p n).L v % p = T % p := by
  obtain ⟨_, r2⟩ := round_go h hs hr
  have hT : ∃ U, s.L v ≤ U ∧ U < s.L v + p ∧ U % p = T % p := by
    have a := Nat.mod_lt (s.L v) h
    have b := Nat.mod_lt T h
    have c := Nat.div_add_mod (s.L v) p
    by_cases q : s.L v % p ≤ T % p
    · refine ⟨p * (s.L v / p) + T % p, by omega, by omega, ?_⟩
      rw [Nat.mul_add_mod, Nat.mod_mod]
    · refine ⟨p * (s.L v / p) + (T % p + p), by omega, by omega, ?_⟩
      rw [Nat.mul_add_mod, Nat.add_mod_right, Nat.mod_mod]
  obtain ⟨U, u1, u2, u3⟩ := hT
  have hf : ∀ n, (fun n => (s.go p n).L v) (n + 1) = (fun n => (s.go p n).L v) n ∨ (fun n => (s.go p n).L v) (n + 1) = (fun n => (s.go p n).L v) n + 1 := fun n => by
    show (if v = (s.go p n).pl then _ else _) = _ ∨ (if v = (s.go p n).pl then _ else _) = _
    split <;> simp
  obtain ⟨n, n1, n2, n3⟩ := passes (f := fun n => (s.go p n).L v) hf (T := U) (N := p * p) u1 (by show U < (s.go p (p * p)).L v; rw [r2 v hv]; exact u2)
  refine ⟨n, n1, ?_, by rw [show (s.go p n).L v = U from n2, u3]⟩
  apply Classical.byContradiction
  intro q
  have n3 : (if v = (s.go p n).pl then (s.go p n).L v + 1 else (s.go p n).L v) = U + 1 := n3
  rw [if_neg (Ne.symm q)] at n3
  have n2 : (s.go p n).L v = U := n2
  omega
/-- steps, in its round, to where it is at place 0 with a length there that p divides -/
noncomputable def rst (p : Nat) (s : WS) : Nat := @Classical.epsilon Nat ⟨0⟩ fun n => ((s.go p n).pl = 0 ∧ (s.go p n).L 0 % p = 0) ∧ ∀ k, k < n → ¬ ((s.go p k).pl = 0 ∧ (s.go p k).L 0 % p = 0)
theorem rst_ok {p : Nat} (h : 0 < p) {s : WS} (hs : s.pl < p) (hr : inR p s) : ((s.go p (rst p s)).pl = 0 ∧ (s.go p (rst p s)).L 0 % p = 0) ∧ (∀ k, k < rst p s → ¬ ((s.go p k).pl = 0 ∧ (s.go p k).L 0 % p = 0)) ∧ rst p s < p * p := by
  obtain ⟨n, h1, h2, h3⟩ := at_rest h hs hr h 0
  obtain ⟨m, m1, m2, m3⟩ := least_of (P := fun n => (s.go p n).pl = 0 ∧ (s.go p n).L 0 % p = 0) (n := n) ⟨h2, by rw [h3]; exact Nat.zero_mod p⟩
  have q := @Classical.epsilon_spec Nat (fun n => ((s.go p n).pl = 0 ∧ (s.go p n).L 0 % p = 0) ∧ ∀ k, k < n → ¬ ((s.go p k).pl = 0 ∧ (s.go p k).L 0 % p = 0)) ⟨m, m2, m3⟩
  have q1 : ((s.go p (rst p s)).pl = 0 ∧ (s.go p (rst p s)).L 0 % p = 0) ∧ ∀ k, k < rst p s → ¬ ((s.go p k).pl = 0 ∧ (s.go p k).L 0 % p = 0) := q
  refine ⟨q1.1, q1.2, ?_⟩
  apply Decidable.byContradiction
  intro z
  exact q1.2 m (by omega) m2
/-- the state of the round where it is at place 0 so -/
noncomputable def rstS (p : Nat) (s : WS) : WS := (s.go p (ahd p s)).go p (rst p (s.go p (ahd p s)))
/-- the tree of a coder's round -/
noncomputable def treeF (p : Nat) (s : WS) (i : Nat) : Nat := way p (rstS p s).L i
end Lp

end
section
set_option maxHeartbeats 4000000
/-! P3: what the laws draw from an urn. -/
namespace Lp
open PySem
/-- an urn from which at most k numbers were drawn -/
def Urn (k : Nat) (l : List D) : Prop := ∃ a b c : Int, l = [.int a, .int b, .int c] ∧ 0 ≤ b ∧ b < 2 ^ 200 ∧ 0 ≤ c ∧ c ≤ k
theorem Urn.mono {j k : Nat} {l : List D} (h : Urn j l) (e : j ≤ k) : Urn k l := by
  obtain ⟨a, b, c, h1, h2, h3, h4, h5⟩ := h
  exact ⟨a, b, c, h1, h2, h3, h4, by omega⟩
abbrev S__law_pull (r : List R → List R → CR) : Prop := ∀ (k : Nat) (u : List D) (m : Int) st, Urn k u → k < 1000000000000 → 0 < m → m < 10 ^ 60 →
  (r [.lst u, .frz (.int m)] st).sat (fun v ps st' => st = st' ∧ ∃ i u', v = .frz (.int i) ∧ ps = [some (.lst u'), none] ∧ 0 ≤ i ∧ i < m ∧ Urn (k + 1) u') noX
theorem p__law_pull {C : Calls} : S__law_pull (f__law_pull.run C) := fun k u m st hu hk h0 h1 => by
  obtain ⟨a, b, c, rfl, hb, hb2, hc, hc2⟩ := hu
  have m1 : m.natAbs < 2 ^ 250 := by omega
  refine fn_run rfl (run_ifs ?_)
  by_cases ha : 0 < a
  · simp [-Int.reducePow, -Nat.reducePow, ha]
    refine run_step ?_
    simp [-Int.reducePow, -Nat.reducePow, h0]
    refine run_step ?_
    simp [-Int.reducePow, -Nat.reducePow, h0, m1, pos?]
    refine run_step ?_
    simp [-Int.reducePow, -Nat.reducePow]
    exact ⟨Int.emod_nonneg _ (by omega), Int.emod_lt_of_pos _ h0, _, _, _, rfl, hb, hb2, hc, by omega⟩
  · have e1 : mulOk 32452843 (c + 1) = true := mul_left _ (by decide)
    have e2 : mulOk 86028121 (c + 1) = true := mul_left _ (by decide)
    have e3 : (b + 32452843 * (c + 1)).natAbs < 2 ^ 250 := by omega
    have l1 := Int.emod_nonneg ((b + 32452843 * (c + 1)) ^ 3) (show (10 ^ 38 + 133 : Int) ≠ 0 by decide)
    have l2 := Int.emod_lt_of_pos ((b + 32452843 * (c + 1)) ^ 3) (show (0 : Int) < 10 ^ 38 + 133 by decide)
    generalize hx : (b + 32452843 * (c + 1)) ^ 3 % (10 ^ 38 + 133 : Int) = x at l1 l2
    have e4 : (x + 86028121 * (c + 1)).natAbs < 2 ^ 250 := by omega
    have t1 : (0 : Int) < 10 ^ 38 + 133 := by decide
    have t2 : (0 : Int) < 10 ^ 36 + 67 := by decide
    have t3 : (1048576 : Nat) < 2 ^ 250 := by decide
    simp [-Int.reducePow, -Nat.reducePow, ha]
    refine run_step ?_
    simp [-Int.reducePow, -Nat.reducePow, pos?]
    refine run_step ?_
    simp [-Int.reducePow, -Nat.reducePow, e1, e3, hx, p10, t1]
    refine run_step ?_
    simp [-Int.reducePow, -Nat.reducePow, e2, e4, p10, t2]
    refine run_step ?_
    simp [-Int.reducePow, -Nat.reducePow, t3, h0]
    exact ⟨Int.emod_nonneg _ (by omega), Int.emod_lt_of_pos _ h0, _, _, _, rfl, hb, hb2, by omega, by omega⟩
abbrev S__law_urn (r : List R → List R → CR) : Prop := ∀ (i : Int) st, (r [.frz (.int i)] st).sat (fun v ps st' => st = st' ∧ ∃ u, v = .lst u ∧ ps = [none] ∧ Urn 0 u) noX
theorem p__law_urn {C : Calls} : S__law_urn (f__law_urn.run C) := fun i st => by
  have t1 : (0 : Int) < 10 ^ 35 + 69 := by decide
  refine fn_run rfl (run_step ?_)
  simp [-Int.reducePow, -Nat.reducePow, p10, t1]
  refine ⟨_, _, _, rfl, Int.emod_nonneg _ (by decide), ?_, by decide, by decide⟩
  have := Int.emod_lt_of_pos i t1
  have t2 : (10 ^ 35 + 69 : Int) < 2 ^ 200 := by decide
  omega
/-- a coder of at most so many places, lengths below a bound -/
def DrawnC (most : Int) (d : D) : Prop := ∃ p pl L, d = cod p pl L ∧ Cod p pl L ∧ (p : Int) ≤ most ∧ ∀ k, k < p → L k < 10 ^ 31
abbrev S__law_coder_v2 (r : List R → List R → CR) : Prop := ∀ (k : Nat) (u : List D) (m : Int) st, Urn k u → k < 100000000000 → 0 < m → m ≤ 12 →
  (r [.lst u, .frz (.int m)] st).sat (fun v ps st' => st = st' ∧ ∃ d u', v = .frz d ∧ ps = [some (.lst u'), none] ∧ DrawnC m d ∧ Urn (k + 100) u') noX
theorem at_int4 (a b c d : Int) {i : Int} (h0 : 0 ≤ i) (h1 : i < 4) : ∃ z, at? [D.int a, D.int b, D.int c, D.int d] i = some (.int z) ∧ (z = a ∨ z = b ∨ z = c ∨ z = d) := by
  have : i = 0 ∨ i = 1 ∨ i = 2 ∨ i = 3 := by omega
  rcases this with rfl | rfl | rfl | rfl
  · exact ⟨a, rfl, .inl rfl⟩
  · exact ⟨b, rfl, .inr (.inl rfl)⟩
  · exact ⟨c, rfl, .inr (.inr (.inl rfl))⟩
  · exact ⟨d, rfl, .inr (.inr (.inr rfl))⟩
theorem p__law_coder_v2 {C : Calls} (h__law_pull : Sp C "_law_pull" [0] S__law_pull) : S__law_coder_v2 (f__law_coder_v2.run C) := fun k u m st hu hk h0 h1 => by
  obtain ⟨r__law_pull, k__law_pull⟩ := h__law_pull
  unfold S__law_pull at k__law_pull
  refine fn_run rfl ?_
  refine run_step ?_
  simp [-Nat.reducePow, -Int.reducePow, *]
  refine CR.by (k__law_pull _ _ _ _ hu (by omega) (by omega) (by omega)) fun r_ ps_ st_ h_ => ?_
  obtain ⟨rfl, p, u1, rfl, rfl, p0, p1, hu1⟩ := h_
  simp [-Nat.reducePow, -Int.reducePow, *]
  have sm : small (1 + p) = true := small_of (by omega) (by omega)
  refine run_step ?_
  simp [-Nat.reducePow, -Int.reducePow, *]
  refine CR.by (k__law_pull _ _ _ _ hu1 (by omega) (by omega) (by omega)) fun r_ ps_ st_ h_ => ?_
  obtain ⟨rfl, way, u2, rfl, rfl, w0, w1, hu2⟩ := h_
  simp [-Nat.reducePow, -Int.reducePow, *]
  refine run_step ?_
  simp [-Nat.reducePow, -Int.reducePow, *]
  refine run_for ?_
  simp [-Nat.reducePow, -Int.reducePow, *]
  have e10 : (10 : Nat) < 2 ^ 250 := by decide
  have m3 : mulOk 3 (1 + p) = true := mul_left _ (by decide)
  refine for_by (fun i e => ∃ (u : List D) (l : List Int) (a b c d : Option R), e = ⟨[some (.lst u), some (.frz (.int m)), some (.frz (.int (1 + p))), some (.frz (.int way)), some (.lst (l.map .int)), a, b, c, d], st⟩ ∧ Urn (k + 2 + 6 * i) u ∧ l.length = i ∧ ∀ x ∈ l, 0 ≤ x ∧ x < 10 ^ 31) ⟨u2, [], _, _, _, _, rfl, hu2, rfl, by simp⟩ (fun i d e hd hI => ?_) (fun e hI => ?_)
  · obtain ⟨u, l, a, b, c, d', rfl, hu3, hl, hx⟩ := hI
    obtain ⟨rfl, hi⟩ := rg_get hd
    refine ⟨_, rfl, ?_⟩
    have hb : l.length < big := by have := big_eq; omega
    have mp : ∀ x, mulOk (1 + p) x = true := fun x => mul_left _ (by omega)
    refine run_step ?_
    simp [-Int.reducePow, -Nat.reducePow, *]
    refine CR.by (k__law_pull _ _ _ _ hu3 (by omega) (by omega) (by omega)) fun r_ ps_ st_ h_ => ?_
    obtain ⟨rfl, few, u4, rfl, rfl, f0, f1, hu4⟩ := h_
    simp [-Nat.reducePow, -Int.reducePow, *]
    refine CR.by (k__law_pull _ _ _ _ hu4 (by omega) (by omega) (by omega)) fun r_ ps_ st_ h_ => ?_
    obtain ⟨rfl, some', u5, rfl, rfl, s0, s1, hu5⟩ := h_
    simp [-Nat.reducePow, -Int.reducePow, *]
    refine run_step ?_
    simp [-Int.reducePow, -Nat.reducePow, *]
    refine CR.by (k__law_pull _ _ _ _ hu5 (by omega) (by omega) (by omega)) fun r_ ps_ st_ h_ => ?_
    obtain ⟨rfl, q1, u6, rfl, rfl, q10, q11, hu6⟩ := h_
    simp [-Nat.reducePow, -Int.reducePow, *]
    refine CR.by (k__law_pull _ _ _ _ hu6 (by omega) (by omega) (by omega)) fun r_ ps_ st_ h_ => ?_
    obtain ⟨rfl, q2, u7, rfl, rfl, q20, q21, hu7⟩ := h_
    simp [-Nat.reducePow, -Int.reducePow, *]
    refine CR.by (k__law_pull _ _ _ _ hu7 (by omega) (by omega) (by omega)) fun r_ ps_ st_ h_ => ?_
    obtain ⟨rfl, q3, u8, rfl, rfl, q30, q31, hu8⟩ := h_
    simp [-Nat.reducePow, -Int.reducePow, *]
    obtain ⟨g, hg, hg2⟩ := at_int4 few some' (999999999999999999000000000000 - q1) q2 q30 q31
    simp [hg]
    refine run_step ?_
    simp [-Nat.reducePow, -Int.reducePow, *]
    refine CR.by (k__law_pull _ _ _ _ hu8 (by omega) (by omega) (by omega)) fun r_ ps_ st_ h_ => ?_
    obtain ⟨rfl, q4, u9, rfl, rfl, q40, q41, hu9⟩ := h_
    simp [-Nat.reducePow, -Int.reducePow, *]
    have b4 : 0 ≤ (1 + p) * q4 ∧ (1 + p) * q4 < 100 := ⟨Int.mul_nonneg (by omega) q40, by
      have : (1 + p) * q4 ≤ 12 * q4 := Int.mul_le_mul_of_nonneg_right (by omega) q40
      omega⟩
    obtain ⟨z, hz, hz2⟩ := at_int4 few some' (p + (1 + p) * q4) g w0 w1
    have e9 : 1 + p - 1 + (1 + p) * q4 = p + (1 + p) * q4 := by omega
    simp [e9, hz, mtOwn, hb]
    refine run_nil ?_
    refine ⟨u9, l ++ [z], ⟨_, _, _, _, by simp only [List.map_append, List.map_cons, List.map_nil]; rfl⟩, hu9.mono (by omega), by simp [hl], fun x hxm => ?_⟩
    rcases List.mem_append.mp hxm with hxm | hxm
    · exact hx x hxm
    · have := List.mem_singleton.mp hxm
      subst this
      omega
  · obtain ⟨u, l, a, b, c, d, rfl, hu3, hl, hx⟩ := hI
    rw [rg_len] at hu3 hl
    refine run_step ?_
    simp [-Nat.reducePow, -Int.reducePow, *]
    refine CR.by (k__law_pull _ _ _ _ hu3 (by omega) (by omega) (by omega)) fun r_ ps_ st_ h_ => ?_
    obtain ⟨rfl, pl, u4, rfl, rfl, pl0, pl1, hu4⟩ := h_
    simp [-Nat.reducePow, -Int.reducePow, *]
    refine ⟨⟨l.length, pl, fun k => l.getD k 0, ?_, ⟨by omega, by omega, pl0, by omega, fun k hk => ?_⟩, by omega, fun k hk => ?_⟩, hu4.mono (by omega)⟩
    · rw [tab_of]
    · have := hx (l.getD k 0) (by simp [List.getD_eq_getElem?_getD, hk])
      exact this.1
    · have := hx (l.getD k 0) (by simp [List.getD_eq_getElem?_getD, hk])
      exact this.2
end Lp

end
section
set_option maxHeartbeats 4000000
/-! P4: signs looked at; the law's own signs (k23, k26, k30). -/
namespace Lp
open PySem
abbrev S_need_many_places (r : List R → List R → CR) : Prop := ∀ (p m : Int) st, 1 ≤ p → p ≤ m → r [.frz (.int p), .frz (.int m)] st = .ok (.frz .non) [none, none] st
theorem p_need_many_places {C : Calls} (h_is_within : Sp C "is_within" [] S_is_within) : S_need_many_places (f_need_many_places.run C) := fun p m st h1 h2 => by
  obtain ⟨r_is_within, k_is_within⟩ := h_is_within
  unfold S_is_within at k_is_within
  refine CR.sat_eq (fn_run rfl ?_)
  refine run_ifs ?_
  simp [-Nat.reducePow, -Int.reducePow, *]
  exact run_nil (by simp)
/-- is_sign of numbers that are told by their places -/
abbrev S_is_sign (r : List R → List R → CR) : Prop := ∀ (p : Nat) (s : Nat → Int) st, 1 ≤ p → p ≤ 12 → (∀ k, k < p → 0 ≤ s k ∧ s k < p) → s 0 = 0 → (sumN s p - 1) % p = 0 → r [.frz (.int p), .frz (.tup (tab p s))] st = .ok (.frz (.bl true)) [none, none] st
theorem p_is_sign {C : Calls} {g : Str} (g_MOST_PLACES : C.glob g = some (.int 12)) (h_is_within : Sp C "is_within" [] S_is_within) (h_need_many_places : Sp C "need_many_places" [] S_need_many_places) : S_is_sign ((f_is_sign g).run C) := fun p s st h1 h12 hs hz hsum => by
  obtain ⟨r_is_within, k_is_within⟩ := h_is_within
  unfold S_is_within at k_is_within
  obtain ⟨r_need_many_places, k_need_many_places⟩ := h_need_many_places
  unfold S_need_many_places at k_need_many_places
  have i1 : (1 : Int) ≤ p := by omega
  have i12 : (p : Int) ≤ 12 := by omega
  have ip : 0 < p := by omega
  have hb : p ≤ big := by have := big_eq; omega
  refine CR.sat_eq (fn_run rfl ?_)
  refine run_step ?_
  simp [-Nat.reducePow, -Int.reducePow, *]
  refine run_ifs ?_
  simp [-Nat.reducePow, -Int.reducePow, *]
  refine lc_map (φ := fun _ => .bl true) (by simp [*]) (by simp) (fun d hd => ?_) ?_
  · obtain ⟨i, hi, rfl⟩ := tabD_mem.mp hd
    have := hs i hi
    have e : s i ≤ p - 1 := by omega
    simp [*]
  · simp [allR]
    refine run_step ?_
    simp [-Nat.reducePow, -Int.reducePow, *, tab_at0, sumR]
    rw [sum_tabI]
    exact hsum
/-- the sign of a coder -/
def sgn (p : Nat) (pl : Int) (L : Nat → Int) (k : Nat) : Int := asS p (cntW p pl L p) k
abbrev S__law_sign (r : List R → List R → CR) : Prop := ∀ p pl L st, Cod p pl L → r [.frz (cod p pl L)] st = .ok (.frz (.tup (tab p (sgn p pl L)))) [none] st
theorem rep_tabD (p : Nat) (d : D) : List.replicate p d = tabD p fun _ => d := tabD_eq (by simp) fun i hi => by rw [List.getElem?_replicate, if_pos hi]
theorem p__law_sign {C : Calls} : S__law_sign (f__law_sign.run C) := fun p pl L st h => by
  have h1 := h.i1
  have h12 := h.i12
  have hp0 := h.n0
  have hp := h.i0
  have hb := h.ib
  have hq : p ≤ 1000 := by have := h.p12; omega
  have hr : mulOk 0 p = true := mul_left _ (by decide)
  have hpos := tab_pos h.h0 h.h1
  have hbig : p * 1 ≤ big := by omega
  have hnat : (p : Int).natAbs ≤ big := by omega
  have sm : small p = true := small_of (by omega) (by omega)
  have hpb := h.pw
  refine CR.sat_eq (fn_run rfl ?_)
  refine run_step ?_
  simp [-Nat.reducePow, -Int.reducePow, *]
  refine run_step ?_
  simp [-Nat.reducePow, -Int.reducePow, *]
  refine run_step ?_
  simp [-Nat.reducePow, -Int.reducePow, *, binR, rep_tabD]
  refine run_step ?_
  simp [-Nat.reducePow, -Int.reducePow, *]
  have e0 : (tabD p fun k => if k = pl.toNat then D.int 1 else .int 0) = tab p (cntW p pl L 0) := tabD_ext fun k hk => by
    have := h.h0
    show _ = D.int (if (k : Int) = pl then 1 else 0)
    by_cases q : k = pl.toNat
    · rw [if_pos q, if_pos (by omega)]
    · rw [if_neg q, if_neg (by omega)]
  rw [e0]
  refine run_for ?_
  simp [-Nat.reducePow, -Int.reducePow, *]
  refine for_by (fun i e => ∃ a b c d, e = ⟨[some (.frz (cod p pl L)), some (.frz (.int pl)), some (.frz (.tup (tab p L))), some (.frz (.int p)), some (.lst (tab p (cntW p pl L i))), a, b, c, d, none], st⟩) ⟨_, _, _, _, rfl⟩ (fun i d e hd hI => ?_) (fun e hI => ?_)
  · obtain ⟨a, b, c, d', rfl⟩ := hI
    rw [enum_tab] at hd
    obtain ⟨hi, rfl⟩ := tabD_iget hd
    refine ⟨_, stT_two _ _ _ _ _, ?_⟩
    have a1 := tab_at (f := fun k => D.int (cntW p pl L i k)) (p := p) (i := (i : Int)) (by omega) (by omega)
    have a2 := tab_pos (p := p) (i := (i : Int)) (by omega) (by omega)
    refine run_step ?_
    simp [-Nat.reducePow, -Int.reducePow, *]
    refine run_for ?_
    simp [-Nat.reducePow, -Int.reducePow, *]
    refine for_by (fun j e => ∃ c d, e = ⟨[some (.frz (cod p pl L)), some (.frz (.int pl)), some (.frz (.tup (tab p L))), some (.frz (.int p)), some (.lst (tab p fun k => cntW p pl L i k + (if k = i then L i else 0) - if k < j then cnt1 p i (L i).toNat k else 0)), some (.frz (.int i)), some (.frz (.int (L i))), c, d, none], st⟩) ⟨c, d', ?_⟩ (fun j d e hd hI => ?_) (fun e hI => ?_)
    · simp
      refine tabD_ext fun k hk => ?_
      by_cases q : k = i
      · simp [q]
      · simp [q]
    · obtain ⟨c, d'', rfl⟩ := hI
      obtain ⟨hj, rfl⟩ := tabD_iget hd
      refine ⟨_, rfl, ?_⟩
      refine run_step ?_
      simp [-Nat.reducePow, -Int.reducePow, *]
      have b1 := tab_at (f := fun k => D.int (cntW p pl L i k + (if k = i then L i else 0) - if k < j then cnt1 p i (L i).toNat k else 0)) (p := p) (i := (j : Int)) (by omega) (by omega)
      have b2 := tab_pos (p := p) (i := (j : Int)) (by omega) (by omega)
      refine run_step ?_
      simp [-Nat.reducePow, -Int.reducePow, *]
      have e2 : (tabD p fun k => if k = j then D.int (cntW p pl L i j + (if j = i then L i else 0) - (if 0 < L i - (((j : Int) - i - 1) % p + 1) + p then L i - (((j : Int) - i - 1) % p + 1) + p else 0) / p) else .int (cntW p pl L i k + (if k = i then L i else 0) - if k < j then cnt1 p i (L i).toNat k else 0)) =
          tab p fun k => cntW p pl L i k + (if k = i then L i else 0) - if k < j + 1 then cnt1 p i (L i).toNat k else 0 := tabD_ext fun k hk => by
        have z := cnt1_ends hp0 (i : Int) hj (L i).toNat
        rw [Int.toNat_of_nonneg (h.hL i hi)] at z
        unfold endsF at z
        dsimp only
        by_cases q : k = j
        · subst q
          rw [if_pos rfl, if_pos (show k < k + 1 by omega), z]
        · rw [if_neg q]
          by_cases q2 : k < j
          · rw [if_pos q2, if_pos (show k < j + 1 by omega)]
          · rw [if_neg q2, if_neg (show ¬ k < j + 1 by omega)]
      rw [e2]
      refine run_nil ?_
      refine ⟨_, _, rfl⟩
    · obtain ⟨c, d, rfl⟩ := hI
      have e3 : (tab p fun k => cntW p pl L i k + (if k = i then L i else 0) - if k < p then cnt1 p i (L i).toNat k else 0) = tab p (cntW p pl L (i + 1)) := tabD_ext fun k hk => by
        dsimp only
        rw [if_pos hk]
        rfl
      simp only [tabD_len]
      rw [e3]
      refine run_nil ?_
      refine ⟨_, _, _, _, rfl⟩
  · obtain ⟨a, b, c, d, rfl⟩ := hI
    refine run_step ?_
    simp [-Nat.reducePow, -Int.reducePow, *]
    refine lc_map (φ := fun d => match d with | .int i => .int ((i - cntW p pl L p 0) % p) | _ => .non) (by simp [*]) (by simp) (fun d hd => ?_) ?_
    · obtain ⟨i, hi, rfl⟩ := tabD_mem.mp hd
      simp [tab_at0, *]
    · simp [tabD_map]
      rfl
abbrev S_sign_of (r : List R → List R → CR) : Prop := ∀ (p : Nat) pl L st, Cod p pl L → r [.frz (cod p pl L)] st = .ok (.frz (.tup (tab p (sgn p pl L)))) [none] st
theorem p_sign_of {C : Calls} (h_need_coder : Sp C "need_coder" [] S_need_coder) (h_as_sign : Sp C "as_sign" [] S_as_sign) (h_sign_behind : Sp C "sign_behind" [] S_sign_behind) : S_sign_of (f_sign_of.run C) := fun p pl L st h => by
  rw [p_sign_of0 h_need_coder h_as_sign h_sign_behind p pl L st h]
  rw [tab_ext fun k hk => sign_cnt h p (Nat.le_refl _) k hk]
  rfl
theorem sgn_range {p : Nat} (h : 0 < p) (pl : Int) (L : Nat → Int) (k : Nat) : 0 ≤ sgn p pl L k ∧ sgn p pl L k < p := asS_range h _ k
theorem sgn_zero (p : Nat) (pl : Int) (L : Nat → Int) : sgn p pl L 0 = 0 := asS_zero _ _
theorem sgn_sum {p : Nat} {pl : Int} {L : Nat → Int} (h : Cod p pl L) : (sumN (sgn p pl L) p - 1) % p = 0 := by
  obtain ⟨q, hq⟩ := sum_asS h.n0 (cntW p pl L p)
  show (sumN (asS p (cntW p pl L p)) p - 1) % p = 0
  rw [hq, sum_cntW h p (Nat.le_refl _), show (1 + (p : Int) * q - 1) = p * q by omega]
  exact Int.mul_emod_right _ _
end Lp

end
section
set_option maxHeartbeats 4000000
/-! P7: trees told; the law's own steps, rounds, trees (k17, k22, k25, k27, k28). -/
namespace Lp
open PySem
theorem mod0 (a p : Nat) : ((a : Int) % (p : Int) = 0) = (a % p = 0) := by
  rw [← Int.natCast_emod]
  exact propext (by omega)
theorem tabD_tail {p : Nat} {f : Nat → D} : (tabD p f).tail = tabD (p - 1) fun k => f (k + 1) := by
  rw [← List.drop_one, tabD_drop]
  exact tabD_ext fun i hi => by rw [Nat.add_comm]
abbrev S_tree_of (r : List R → List R → CR) : Prop := ∀ p s st, Wk p s → r [.frz (cdw p s)] st = .ok (.frz (.tup (tab (p - 1) fun i => (treeF p s (i + 1) : Int)))) [none] st
theorem p_tree_of {C : Calls} (h_need_coder : Sp C "need_coder" [] S_need_coder) (h_to_round : Sp C "to_round" [] S_to_round) (h_stepped : Sp C "stepped" [] S_stepped) (h_led : Sp C "led" [] S_led) : S_tree_of (f_tree_of.run C) := fun p s st h => by
  obtain ⟨r_need_coder, k_need_coder⟩ := h_need_coder
  unfold S_need_coder at k_need_coder
  obtain ⟨r_to_round, k_to_round⟩ := h_to_round
  unfold S_to_round at k_to_round
  obtain ⟨r_stepped, k_stepped⟩ := h_stepped
  unfold S_stepped at k_stepped
  obtain ⟨r_led, k_led⟩ := h_led
  unfold S_led at k_led
  have hc := h.cod
  have hp0 := h.n0
  have hp12 := h.p12
  have hpi : (0 : Int) < p := by omega
  have hb : p ≤ big := by have := big_eq; omega
  obtain ⟨g1, g2, g3⟩ := ahd_ok h
  have ht := h.go (ahd p s)
  obtain ⟨⟨q1, q2⟩, q3, q4⟩ := rst_ok hp0 ht.h1 g1
  have hpp : p * p ≤ 144 := Nat.mul_le_mul hp12 hp12
  refine CR.sat_eq (fn_run rfl ?_)
  refine run_step ?_
  simp [-Nat.reducePow, -Int.reducePow, *]
  refine run_step ?_
  simp [-Nat.reducePow, -Int.reducePow, *]
  refine run_step ?_
  simp [-Nat.reducePow, -Int.reducePow, *]
  generalize hT : s.go p (ahd p s) = t at *
  refine run_whl (fun m e => ∃ n : Nat, n + m = rst p t ∧ e = ⟨[some (.frz (cdw p s)), some (.frz (.int (ahd p s : Int))), some (.frz (cdw p (t.go p n))), some (.frz (.int p))], st⟩) (m := rst p t) (by show _ < 1000000000; omega) ⟨0, by omega, by simp; exact ⟨rfl, rfl⟩⟩ ?_
  rintro m e ⟨n, hn, rfl⟩
  have hs := k_stepped p (t.go p n) st (ht.go n)
  have a0 := tab_at0 (f := fun k => D.int ((t.go p n).L k : Int)) hp0
  simp [a0, hpi, hp0, mod0]
  by_cases z : (t.go p n).pl = 0 ∧ (t.go p n).L 0 % p = 0
  · rw [if_pos z.1, if_pos z.2]
    have e : n = rst p t := by
      apply Decidable.byContradiction
      intro y
      exact q3 n (by omega) z
    have hl := k_led p (t.go p n) st (ht.go n)
    refine run_step ?_
    simp [r_led, hl, slice_drop, tabD_tail]
    refine tabD_ext fun i hi => ?_
    rw [e, ← hT]
    rfl
  · have hs2 : ¬ n = rst p t := fun y => z (y ▸ ⟨q1, q2⟩)
    have go : ∀ (W : Wish) (a : Option R), (∃ m', m' < m ∧ ∃ n : Nat, n + m' = rst p t ∧ W.nx = W.nx) → (∀ m' n : Nat, m' < m → n + m' = rst p t → W.nx ⟨[some (.frz (cdw p s)), some (.frz (.int (ahd p s : Int))), some (.frz (cdw p (t.go p n))), some (.frz (.int p))], st⟩) → Run C [.set (.nm 2) (.call (Str.ofString "stepped") (.cons (.var 2) .nil))] ⟨[some (.frz (cdw p s)), some (.frz (.int (ahd p s : Int))), some (.frz (cdw p (t.go p n))), some (.frz (.int p))], st⟩ W := fun W _ _ hW => by
      refine run_step ?_
      simp [r_stepped, hs]
      refine run_nil ?_
      exact hW (m - 1) (n + 1) (by omega) (by omega)
    have fin := go
    by_cases z1 : (t.go p n).pl = 0
    · rw [if_pos z1, if_neg fun y => z ⟨z1, y⟩]
      refine go _ none ⟨m - 1, by omega, n + 1, by omega, rfl⟩ fun m' n' h1 h2 => ?_
      exact ⟨m', h1, n', h2, rfl⟩
    · rw [if_neg z1]
      refine go _ none ⟨m - 1, by omega, n + 1, by omega, rfl⟩ fun m' n' h1 h2 => ?_
      exact ⟨m', h1, n', h2, rfl⟩
/-! ### the law's own -/
abbrev S__law_step_v2 (r : List R → List R → CR) : Prop := ∀ p s st, Wk p s → r [.frz (cdw p s)] st = .ok (.frz (cdw p (s.step p))) [none] st
theorem p__law_step_v2 {C : Calls} : S__law_step_v2 (f__law_step_v2.run C) := fun p s st h => by
  have h1 := h.p1
  have h12 := h.p12
  have hl := h.h1
  have hp0 := h.n0
  have hpi : (0 : Int) < p := by omega
  have hb : p ≤ big := by have := big_eq; omega
  have a1 := tab_at (f := fun k => D.int (s.L k : Int)) (p := p) (i := (s.pl : Int)) (by omega) (by omega)
  have a2 := tab_pos (p := p) (i := (s.pl : Int)) (by omega) (by omega)
  have e2 : (tabD p fun k => if k = s.pl then D.int ((s.L s.pl : Int) + 1) else D.int (s.L k : Int)) = tab p fun k => ((s.step p).L k : Int) := tabD_ext fun k hk => by
    show _ = D.int ((if k = s.pl then s.L k + 1 else s.L k : Nat) : Int)
    by_cases e : k = s.pl
    · rw [if_pos e, if_pos e, e]
      rfl
    · rw [if_neg e, if_neg e]
  have a3 := tab_at (f := fun k => D.int ((s.step p).L k : Int)) (p := p) (i := (s.pl : Int)) (by omega) (by omega)
  have e3 : ((s.pl : Int) + (((s.step p).L s.pl : Nat) : Int)) % p = ((s.step p).pl : Int) := by
    show ((s.pl : Int) + ((if s.pl = s.pl then s.L s.pl + 1 else s.L s.pl : Nat) : Int)) % p = (((s.pl + (s.L s.pl + 1)) % p : Nat) : Int)
    rw [if_pos rfl, Int.natCast_emod]
    simp
  refine CR.sat_eq (fn_run rfl ?_)
  refine run_step ?_
  simp [-Nat.reducePow, -Int.reducePow, *]
  refine run_step ?_
  simp [-Nat.reducePow, -Int.reducePow, *]
  refine run_step ?_
  simp [a1, a2]
  rw [e2]
  refine run_step ?_
  simp [a3, hpi, hp0, e3]
abbrev S__law_goals (r : List R → List R → CR) : Prop := ∀ p s st, Wk p s → r [.frz (cdw p s)] st = .ok (.lst (tab p fun i => (way p s.L i : Int))) [none] st
theorem p__law_goals {C : Calls} : S__law_goals (f__law_goals.run C) := fun p s st h => by
  have h1 := h.p1
  have h12 := h.p12
  have hp0 := h.n0
  have hpi : (0 : Int) < p := by omega
  have hb : p ≤ big := by have := big_eq; omega
  have sm : small (p : Int) = true := small_of (by omega) (by omega)
  refine CR.sat_eq (fn_run rfl ?_)
  refine run_step ?_
  simp [-Nat.reducePow, -Int.reducePow, *]
  refine run_step ?_
  simp [-Nat.reducePow, -Int.reducePow, *]
  refine lc_map (φ := fun d => match d with | .int i => .int ((i + (s.L i.toNat : Int)) % p) | _ => .non) (by simp [*]) (by simp) (fun d hd => ?_) ?_
  · obtain ⟨i, hi, rfl⟩ := tabD_mem.mp hd
    have a1 := tab_at (f := fun k => D.int (s.L k : Int)) (p := p) (i := (i : Int)) (by omega) (by omega)
    simp [*]
  · simp [tabD_map]
    exact tabD_ext fun i hi => by
      show D.int _ = D.int (((i + s.L i) % p : Nat) : Int)
      rw [Int.natCast_emod]
      simp
abbrev S__law_home (r : List R → List R → CR) : Prop := ∀ (p : Nat) (w : Nat → Nat) (home : Nat) (x : R) st, 1 ≤ p → p ≤ 12 → (∀ i, i < p → w i < p) → home < p → x = .lst (tab p fun i => (w i : Int)) ∨ x = .frz (.lst (tab p fun i => (w i : Int))) → r [x, .frz (.int home)] st = .ok (.frz (.bl (homeB p w home))) [none, none] st
theorem p__law_home {C : Calls} : S__law_home (f__law_home.run C) := fun p w home x st h1 h12 hw hh hx => by
  have hb : p ≤ big := by have := big_eq; omega
  have sm : small (p : Int) = true := small_of (by omega) (by omega)
  have ats : ∀ i : Nat, i < p → at? (tabD p fun i => D.int (w i : Int)) (i : Int) = some (.int (w i)) := fun i hi => tab_at (f := fun i => D.int (w i : Int)) (p := p) (i := (i : Int)) (by omega) (by omega)
  have inner : ∀ (i : Nat) (x : R) (y z : Option R) (ss : List Stm) (W : Wish), i < p → x = .lst (tab p fun i => (w i : Int)) ∨ x = .frz (.lst (tab p fun i => (w i : Int))) → (∀ z, Run C ss ⟨[some x, some (.frz (.int home)), some (.frz (.int i)), some (.frz (.int (stp w home i p : Int))), z], st⟩ W) →
      Run C (.for_ (.nm 4) (.rg1 (.bi .len (.cons (.var 0) .nil))) [.set (.nm 3) (.ite (.cmp .eq (.var 3) (.var 1)) (.var 3) (.ix (.var 0) (.var 3)))] :: ss) ⟨[some x, some (.frz (.int home)), some (.frz (.int i)), some (.frz (.int i)), z], st⟩ W := fun i x y z ss W hi hx hk => by
    refine run_for ?_
    have e : ForK C (.nm 4) [.set (.nm 3) (.ite (.cmp .eq (.var 3) (.var 1)) (.var 3) (.ix (.var 0) (.var 3)))] ss W (tab p fun k => (k : Int)) ⟨[some x, some (.frz (.int home)), some (.frz (.int i)), some (.frz (.int i)), z], st⟩ := by
      refine for_by (fun j e => ∃ z, e = ⟨[some x, some (.frz (.int home)), some (.frz (.int i)), some (.frz (.int (stp w home i j : Int))), z], st⟩) ⟨z, rfl⟩ (fun j d e hd hI => ?_) (fun e hI => ?_)
      · obtain ⟨z, rfl⟩ := hI
        refine ⟨_, rfl, ?_⟩
        have hlt := stp_lt hw (home := home) hi j
        refine run_step ?_
        have ha := ats _ hlt
        by_cases q : stp w home i j = home
        · have e2 : stp w home i (j + 1) = stp w home i j := by
            show (if stp w home i j = home then _ else _) = _
            rw [if_pos q]
          rcases hx with rfl | rfl
          · simp [q]
            refine run_nil ?_
            rw [e2, q]
            exact ⟨_, rfl⟩
          · simp [q]
            refine run_nil ?_
            rw [e2, q]
            exact ⟨_, rfl⟩
        · have e2 : stp w home i (j + 1) = w (stp w home i j) := by
            show (if stp w home i j = home then _ else _) = _
            rw [if_neg q]
          have q2 : ¬ ((stp w home i j : Int) = home) := by omega
          rcases hx with rfl | rfl
          · simp [q2, ha]
            refine run_nil ?_
            rw [e2]
            exact ⟨_, rfl⟩
          · simp [q2, ha]
            refine run_nil ?_
            rw [e2]
            exact ⟨_, rfl⟩
      · obtain ⟨z, rfl⟩ := hI
        simp only [tabD_len]
        exact hk z
    rcases hx with rfl | rfl
    · simp [sm]
      exact e
    · simp [sm]
      exact e
  have iff_ : homeB p w home = decide (∀ i, i < p → stp w home i p = home) := homeB_eq (by
    rw [decide_eq_true_eq]
    exact ⟨fun q i hi => (stp_iff hw hi).mp (q i hi), fun q i hi => (stp_iff hw hi).mpr (q i hi)⟩)
  have main : ∀ x, x = .lst (tab p fun i => (w i : Int)) ∨ x = .frz (.lst (tab p fun i => (w i : Int))) → ∀ W : Wish, (∀ e, e.st = st → W.rt (.frz (.bl (homeB p w home))) e) → ForK C (.nm 2) [.set (.nm 3) (.var 2), .for_ (.nm 4) (.rg1 (.bi .len (.cons (.var 0) .nil))) [.set (.nm 3) (.ite (.cmp .eq (.var 3) (.var 1)) (.var 3) (.ix (.var 0) (.var 3)))], .ifs (.cmp .ne (.var 3) (.var 1)) [.ret (.cst (.bl false))] []] [.ret (.cst (.bl true))] W (tab p fun k => (k : Int)) ⟨[some x, some (.frz (.int home)), none, none, none], st⟩ := fun x hx W hW => by
    refine for_by (fun i e => (∀ j, j < i → stp w home j p = home) ∧ ∃ a b c, e = ⟨[some x, some (.frz (.int home)), a, b, c], st⟩) ⟨fun j hj => absurd hj (Nat.not_lt_zero _), _, _, _, rfl⟩ (fun i d e hd hI => ?_) (fun e hI => ?_)
    · obtain ⟨hall, a, b, c, rfl⟩ := hI
      obtain ⟨hi, rfl⟩ := tabD_iget hd
      refine ⟨_, rfl, run_step ?_⟩
      simp
      refine inner i x none c _ _ hi hx fun z => ?_
      refine run_ifs ?_
      by_cases q : stp w home i p = home
      · simp [q]
        refine run_nil ?_
        refine ⟨fun j hj => ?_, _, _, _, rfl⟩
        by_cases e : j = i
        · rw [e]
          exact q
        · exact hall j (by omega)
      · have q2 : ¬ ((stp w home i p : Int) = home) := by omega
        simp [q2]
        refine run_step ?_
        simp
        have : homeB p w home = false := by
          rw [iff_]
          exact decide_eq_false fun z => q (z i hi)
        rw [← this]
        exact hW _ rfl
    · obtain ⟨hall, a, b, c, rfl⟩ := hI
      simp only [tabD_len] at hall
      refine run_step ?_
      simp
      have : homeB p w home = true := by
        rw [iff_]
        exact decide_eq_true hall
      rw [← this]
      exact hW _ rfl
  refine CR.sat_eq (fn_run rfl ?_)
  refine run_for ?_
  rcases hx with rfl | rfl
  · simp [sm]
    exact main _ (.inl rfl) _ fun e he => by simp [he]
  · simp [sm]
    exact main _ (.inr rfl) _ fun e he => by simp [he]
end Lp

end
section
set_option maxHeartbeats 4000000
/-! P8: the law's own rounds and trees (k17, k22, k25, k27, k28). -/
namespace Lp
open PySem
abbrev S__law_in_round (r : List R → List R → CR) : Prop := ∀ p s st, Wk p s → r [.frz (cdw p s)] st = .ok (.frz (.tup [.int (ahd p s : Int), cdw p (s.go p (ahd p s))])) [none] st
theorem p__law_in_round {C : Calls} (h__law_goals : Sp C "_law_goals" [] S__law_goals) (h__law_home : Sp C "_law_home" [] S__law_home) (h__law_step : Sp C "_law_step" [] S__law_step_v2) : S__law_in_round (f__law_in_round.run C) := fun p s st h => by
  obtain ⟨r__law_goals, k__law_goals⟩ := h__law_goals
  unfold S__law_goals at k__law_goals
  obtain ⟨r__law_home, k__law_home⟩ := h__law_home
  unfold S__law_home at k__law_home
  obtain ⟨r__law_step, k__law_step⟩ := h__law_step
  obtain ⟨g1, g2, g3⟩ := ahd_ok h
  have g4 := ahd_lt h
  refine CR.sat_eq (fn_run rfl ?_)
  refine run_step ?_
  simp [-Nat.reducePow, -Int.reducePow, *]
  refine run_whl (fun m e => ∃ n : Nat, n + m = ahd p s ∧ e = ⟨[some (.frz (cdw p (s.go p n))), some (.frz (.int n))], st⟩) (m := ahd p s) (by show _ < 1000000000; omega) ⟨0, by omega, rfl⟩ ?_
  rintro m e ⟨n, hn, rfl⟩
  have hw := h.go n
  have hg := k__law_goals p (s.go p n) st hw
  have hk := k__law_home p (way p (s.go p n).L) (s.go p n).pl _ st h.p1 h.p12 (fun i _ => way_lt h.n0 _ i) hw.h1 (.inl rfl)
  have hs := k__law_step p (s.go p n) st hw
  rw [← inRB_home] at hk
  by_cases q : n = ahd p s
  · have hb : inRB p (s.go p n) = true := inRB_iff.mpr (by rw [q]; exact g1)
    rw [hb] at hk
    simp [r__law_goals, hg, r__law_home, hk]
    refine run_step ?_
    simp [q]
  · have hb : inRB p (s.go p n) = false := by
      cases z : inRB p (s.go p n) with
      | false => rfl
      | true => exact absurd (inRB_iff.mp z) (g2 n (by omega))
    rw [hb] at hk
    simp [r__law_goals, hg, r__law_home, hk]
    refine run_step ?_
    simp [r__law_step, hs]
    refine run_step ?_
    simp
    refine run_nil ?_
    exact ⟨m - 1, by omega, n + 1, by omega, rfl⟩
abbrev S__law_tree (r : List R → List R → CR) : Prop := ∀ p s st, Wk p s → r [.frz (cdw p s)] st = .ok (.frz (.tup (tab (p - 1) fun i => (treeF p s (i + 1) : Int)))) [none] st
theorem p__law_tree {C : Calls} (h__law_in_round : Sp C "_law_in_round" [] S__law_in_round) (h__law_goals : Sp C "_law_goals" [] S__law_goals) (h__law_step : Sp C "_law_step" [] S__law_step_v2) : S__law_tree (f__law_tree.run C) := fun p s st h => by
  obtain ⟨r__law_in_round, k__law_in_round⟩ := h__law_in_round
  unfold S__law_in_round at k__law_in_round
  obtain ⟨r__law_goals, k__law_goals⟩ := h__law_goals
  unfold S__law_goals at k__law_goals
  obtain ⟨r__law_step, k__law_step⟩ := h__law_step
  have hp0 := h.n0
  have hp12 := h.p12
  have hpi : (0 : Int) < p := by omega
  have hb : p ≤ big := by have := big_eq; omega
  obtain ⟨g1, g2, g3⟩ := ahd_ok h
  have ht := h.go (ahd p s)
  obtain ⟨⟨q1, q2⟩, q3, q4⟩ := rst_ok hp0 ht.h1 g1
  have hpp : p * p ≤ 144 := Nat.mul_le_mul hp12 hp12
  refine CR.sat_eq (fn_run rfl ?_)
  refine run_step ?_
  simp [-Nat.reducePow, -Int.reducePow, *]
  generalize hT : s.go p (ahd p s) = t at *
  refine run_whl (fun m e => ∃ n : Nat, n + m = rst p t ∧ e = ⟨[some (.frz (cdw p s)), some (.frz (cdw p (t.go p n)))], st⟩) (m := rst p t) (by show _ < 1000000000; omega) ⟨0, by omega, by simp; exact ⟨rfl, rfl⟩⟩ ?_
  rintro m e ⟨n, hn, rfl⟩
  have hs := k__law_step p (t.go p n) st (ht.go n)
  have a0 := tab_at0 (f := fun k => D.int ((t.go p n).L k : Int)) hp0
  simp [a0, hpi, hp0, mod0]
  by_cases z : (t.go p n).pl = 0 ∧ (t.go p n).L 0 % p = 0
  · rw [if_pos z.1, if_pos z.2]
    have e : n = rst p t := by
      apply Decidable.byContradiction
      intro y
      exact q3 n (by omega) z
    have hl := k__law_goals p (t.go p n) st (ht.go n)
    refine run_step ?_
    simp [r__law_goals, hl, slice_drop, tabD_tail]
    refine tabD_ext fun i hi => ?_
    rw [e, ← hT]
    rfl
  · have hs2 : ¬ n = rst p t := fun y => z (y ▸ ⟨q1, q2⟩)
    have go : ∀ (W : Wish), (∀ m' n : Nat, m' < m → n + m' = rst p t → W.nx ⟨[some (.frz (cdw p s)), some (.frz (cdw p (t.go p n)))], st⟩) → Run C [.set (.nm 1) (.call (Str.ofString "_law_step") (.cons (.var 1) .nil))] ⟨[some (.frz (cdw p s)), some (.frz (cdw p (t.go p n)))], st⟩ W := fun W hW => by
      refine run_step ?_
      simp [r__law_step, hs]
      refine run_nil ?_
      exact hW (m - 1) (n + 1) (by omega) (by omega)
    by_cases z1 : (t.go p n).pl = 0
    · rw [if_pos z1, if_neg fun y => z ⟨z1, y⟩]
      refine go _ fun m' n' h1 h2 => ?_
      exact ⟨m', h1, n', h2, rfl⟩
    · rw [if_neg z1]
      refine go _ fun m' n' h1 h2 => ?_
      exact ⟨m', h1, n', h2, rfl⟩
end Lp

end
section
set_option maxHeartbeats 4000000
/-! L17: law k17. -/
namespace Lp
open PySem
theorem inR_dec {p : Nat} (h : 0 < p) {s : WS} : inR p s ↔ ∀ i, i < p → stp (way p s.L) s.pl i p = s.pl :=
  ⟨fun q i hi => (stp_iff (fun i _ => way_lt h _ i) hi).mpr (q i hi), fun q i hi => (stp_iff (fun i _ => way_lt h _ i) hi).mp (q i hi)⟩
theorem rst_eq {p : Nat} (h : 0 < p) {s : WS} (hs : s.pl < p) (hr : inR p s) {n : Nat} (h1 : (s.go p n).pl = 0 ∧ (s.go p n).L 0 % p = 0) (h2 : ∀ k, k < n → ¬ ((s.go p k).pl = 0 ∧ (s.go p k).L 0 % p = 0)) : rst p s = n := by
  obtain ⟨a, b, _⟩ := rst_ok h hs hr
  apply Decidable.byContradiction
  intro q
  rcases Nat.lt_or_ge (rst p s) n with c | c
  · exact h2 _ c a
  · exact b n (by omega) h1
theorem repr_nums {n p : Nat} {f : Nat → Nat} (hn : n ≤ 200) (hp : p ≤ 1000000) (h : ∀ k, k < n → f k < p) : reprR (.frz (.tup (tab n fun k => (f k : Int)))) = some (.frz (.str (D.tup (tab n fun k => (f k : Int))).rep)) := by
  have w : D.wtL (tab n fun k => (f k : Int)) ≤ 102 * n := wt_tab fun k hk => by
    have := h k hk
    omega
  have d : D.depL (tab n fun k => (f k : Int)) = 0 := dep_tab
  refine repr_frz ?_ ?_
  · have := big_eq
    simp only [D.wt]
    omega
  · simp only [D.dep, d]
    omega
theorem repr_cod {p : Nat} {pl : Int} {L : Nat → Int} (h : Cod p pl L) (h2 : ∀ k, k < p → L k < 10 ^ 60) : reprR (.frz (cod p pl L)) = some (.frz (.str (cod p pl L).rep)) := by
  have a := h.h0
  have b := h.h1
  have c := h.p12
  have w : D.wtL (tab p L) ≤ 102 * p := wt_tab fun k hk => by
    have := h.hL k hk
    have := h2 k hk
    omega
  have w2 : (D.int pl).wt ≤ 100 := wt_int (by omega)
  have d : D.depL (tab p L) = 0 := dep_tab
  refine repr_frz ?_ ?_
  · have := big_eq
    simp only [D.wt, D.wtL] at w2 ⊢
    omega
  · simp only [D.dep, D.depL, d]
    omega
/-- a drawn coder walks -/
theorem DrawnC.wk {m : Int} {d : D} (h : DrawnC m d) : ∃ (p : Nat) (s : WS), d = cdw p s ∧ Wk p s ∧ (p : Int) ≤ m ∧ ∀ k, k < p → s.L k < 10 ^ 31 := by
  obtain ⟨p, pl, L, rfl, hc, hm, hL⟩ := h
  refine ⟨p, wsOf pl L, cod_ws hc, hc.wk, hm, fun k hk => ?_⟩
  have := hL k hk
  have := hc.hL k hk
  show (L k).toNat < _
  omega
/-- how a script is handed to a law -/
abbrev S_law (r : List R → List R → CR) : Prop := ∀ (ns : List Int) st, ns.length ≤ 63 → r [.frz (.lst (ns.map .int))] st = .ok (.frz (.bl true)) [none] st
theorem cells_of {ns : List Int} (h : ns.length ≤ 63) {k : Int} (hk : 0 ≤ k) : (slice (ns.map D.int) none (some k)).length + 1 ≤ big ∧ ∀ d ∈ slice (ns.map D.int) none (some k) ++ [D.int 0], ∃ i, d = .int i := by
  refine ⟨?_, fun d hd => ?_⟩
  · have := slice_len (ns.map D.int) none (some k)
    rw [List.length_map] at this
    have := big_eq
    omega
  · rcases List.mem_append.mp hd with hd | hd
    · obtain ⟨i, _, e⟩ := List.mem_map.mp (slice_mem hd)
      exact ⟨i, e.symm⟩
    · rw [List.mem_singleton] at hd
      exact ⟨0, hd⟩
theorem at_two (a b : Int) {i : Int} (h0 : 0 ≤ i) (h1 : i < 2) : ∃ z, at? [D.int a, D.int b] i = some (.int z) ∧ (z = a ∨ z = b) := by
  have : i = 0 ∨ i = 1 := by omega
  rcases this with rfl | rfl
  · exact ⟨a, rfl, .inl rfl⟩
  · exact ⟨b, rfl, .inr rfl⟩
theorem tree3 : tab 2 (fun i => (treeF 3 ⟨0, fun _ => 0⟩ (i + 1) : Int)) = [.int 0, .int 1] := by
  have hw : Wk 3 ⟨0, fun _ => 0⟩ := ⟨by decide, by decide, by decide⟩
  have e1 : ahd 3 ⟨0, fun _ => 0⟩ = 2 := ahd_eq hw ((inR_dec (by decide)).mpr (by decide)) (fun k hk => by rw [inR_dec (by decide)]; revert k; decide)
  have e2 : rst 3 (WS.go 3 ⟨0, fun _ => 0⟩ 2) = 5 := rst_eq (by decide) (by decide) ((inR_dec (by decide)).mpr (by decide)) (by decide) (by decide)
  have e3 : ∀ i, treeF 3 ⟨0, fun _ => 0⟩ i = way 3 ((WS.go 3 ⟨0, fun _ => 0⟩ 2).go 3 5).L i := fun i => by
    unfold treeF rstS
    rw [e1, e2]
  rw [tab_ext (g := fun i => (way 3 ((WS.go 3 ⟨0, fun _ => 0⟩ 2).go 3 5).L (i + 1) : Int)) fun i _ => by rw [e3]]
  rfl
theorem p_law_v10 {C : Calls} (h__law_urn : Sp C "_law_urn" [] S__law_urn) (h__law_pull : Sp C "_law_pull" [0] S__law_pull) (h__law_coder : Sp C "_law_coder" [0] S__law_coder_v2) (h__law_tree : Sp C "_law_tree" [] S__law_tree) (h_tree_of : Sp C "tree_of" [] S_tree_of) : S_law (f_law_v10.run C) := fun ns st hn => by
  obtain ⟨r__law_urn, k__law_urn⟩ := h__law_urn
  unfold S__law_urn at k__law_urn
  obtain ⟨r__law_pull, k__law_pull⟩ := h__law_pull
  unfold S__law_pull at k__law_pull
  obtain ⟨r__law_tree, k__law_tree⟩ := h__law_tree
  unfold S__law_tree at k__law_tree
  obtain ⟨r_tree_of, k_tree_of⟩ := h_tree_of
  unfold S_tree_of at k_tree_of
  obtain ⟨r__law_coder, k__law_coder⟩ := h__law_coder
  obtain ⟨c1, c2⟩ := cells_of hn (k := 8) (by decide)
  refine CR.sat_eq (fn_run rfl ?_)
  refine run_for ?_
  simp [-Nat.reducePow, -Int.reducePow, *]
  refine for_by (fun i e => ∃ a b c d f g h, e = ⟨[some (.frz (.lst (ns.map .int))), a, b, c, d, f, g, h], st⟩) ⟨_, _, _, _, _, _, _, rfl⟩ (fun i d e hd hI => ?_) (fun e hI => ?_)
  · obtain ⟨a, b, c, d2, f, g, h, rfl⟩ := hI
    obtain ⟨z, rfl⟩ := c2 d (List.mem_of_getElem? hd)
    refine ⟨_, rfl, ?_⟩
    refine run_step ?_
    simp [-Nat.reducePow, -Int.reducePow, *]
    refine CR.by (k__law_urn z _) fun r_ ps_ st_ h_ => ?_
    obtain ⟨rfl, u, rfl, rfl, hu⟩ := h_
    simp [-Nat.reducePow, -Int.reducePow, *]
    have sm3 : small 3 = true := by decide
    refine run_for ?_
    simp [-Nat.reducePow, -Int.reducePow, *]
    refine for_by (fun i e => ∃ u, (∃ c d f g h, e = ⟨[some (.frz (.lst (ns.map .int))), some (.frz (.int z)), some (.lst u), c, d, f, g, h], st⟩) ∧ Urn (1000 * i) u) ⟨_, ⟨_, _, _, _, _, rfl⟩, hu⟩ (fun i d e hd hI => ?_) (fun e hI => ?_)
    · obtain ⟨u, ⟨c, d3, f, g, h, rfl⟩, hu⟩ := hI
      obtain ⟨rfl, hi⟩ := rg_get hd
      refine ⟨_, rfl, ?_⟩
      refine run_step ?_
      simp [-Nat.reducePow, -Int.reducePow, *]
      refine CR.by (k__law_pull _ _ _ _ hu (by omega) (by omega) (by omega)) fun r_ ps_ st_ h_ => ?_
      obtain ⟨rfl, y, u1, rfl, rfl, y0, y1, hu1⟩ := h_
      simp [-Nat.reducePow, -Int.reducePow, *]
      obtain ⟨q, hq, hq2⟩ := at_two 5 12 y0 y1
      simp [hq]
      refine CR.by (k__law_coder _ _ _ _ hu1 (by omega) (by omega) (by omega)) fun r_ ps_ st_ h_ => ?_
      obtain ⟨rfl, dd, u2, rfl, rfl, hD, hu2⟩ := h_
      obtain ⟨p, s, rfl, hw, hm, hL⟩ := hD.wk
      have hr := repr_cod hw.cod fun k hk => by have := hL k hk; omega
      have ht := k__law_tree p s st hw
      have ht2 := k_tree_of p s st hw
      have hr2 := repr_nums (n := p - 1) (p := 12) (f := fun i => treeF p s (i + 1)) (by have := hw.p12; omega) (by decide) fun k hk => by
        have := way_lt hw.n0 (rstS p s).L (k + 1)
        have := hw.p12
        show way p (rstS p s).L (k + 1) < 12
        omega
      have sm2 : small 2 = true := by decide
      simp [r__law_coder]
      refine run_step ?_
      simp [hr]
      refine run_step ?_
      simp [r__law_tree, ht]
      refine run_for ?_
      simp [sm2]
      refine for_by (fun i e => ∃ c h, e = ⟨[some (.frz (.lst (ns.map .int))), some (.frz (.int z)), some (.lst u2), c, some (.frz (cdw p s)), some (.frz (.str (cdw p s).rep)), some (.frz (.tup (tab (p - 1) fun i => (treeF p s (i + 1) : Int)))), h], st⟩) ⟨_, _, rfl⟩ (fun i d e hd hI => ?_) (fun e hI => ?_)
      · obtain ⟨c, h, rfl⟩ := hI
        refine ⟨_, rfl, run_ifs ?_⟩
        simp [r_tree_of, ht2, hr2, hr]
        refine run_nil ?_
        refine ⟨_, _, rfl⟩
      · obtain ⟨c, h, rfl⟩ := hI
        refine run_nil ?_
        refine ⟨_, ⟨_, _, _, _, _, rfl⟩, hu2.mono (by omega)⟩
    · obtain ⟨u, ⟨c, d, f, g, h, rfl⟩, hu⟩ := hI
      refine run_nil ?_
      refine ⟨_, _, _, _, _, _, _, rfl⟩
  · obtain ⟨a, b, c, d2, f, g, h, rfl⟩ := hI
    have e1 : C.run "tree_of" [.frz (.tup [.int 0, .tup [.int 0, .int 0, .int 0]])] st = .ok (.frz (.tup [.int 0, .int 1])) [none] st := by
      have := k_tree_of 3 ⟨0, fun _ => 0⟩ st ⟨by decide, by decide, by decide⟩
      rw [show (3 - 1 : Nat) = 2 from rfl, tree3] at this
      exact this
    have q1 : cmpD .eq (.tup [.int 0, .int 1]) (.tup [.int 0, .int 1]) = some true := eq_tup_self (Pl.tab 2 fun k => (k : Int))
    refine run_step ?_
    simp [-Nat.reducePow, -Int.reducePow, *]
end Lp

end
section
set_option maxHeartbeats 4000000
/-! P12: whether all come home. -/
namespace Lp
open PySem
theorem mrg_dk : ∀ (E T : List Nat), E.Nodup → (∀ e ∈ E, e ∉ T) → mrgD (dk T) (dk E) = dk (T ++ E)
  | [], T, _, _ => by rw [List.append_nil]; rfl
  | e :: E, T, hn, hd => by
    have hn' := List.nodup_cons.mp hn
    show mrgD (putD (dk T) (.int (e : Int)) (.bl true)) (dk E) = _
    rw [put_dk (hd e List.mem_cons_self), mrg_dk E (T ++ [e]) hn'.2 fun x hx hm => ?_, List.append_assoc]
    · rfl
    · rcases List.mem_append.mp hm with hm | hm
      · exact hd x (List.mem_cons_of_mem _ hx) hm
      · rw [List.mem_singleton] at hm
        subst hm
        exact hn'.1 hx
/-- the ways that goals are: from 0 nowhere else -/
def wayG (f : Nat → Nat) (i : Nat) : Nat := if i = 0 then 0 else f (i - 1)
abbrev S_all_come_home (r : List R → List R → CR) : Prop := ∀ (n : Nat) (f : Nat → Nat) st, n ≤ 40 → (∀ k, k < n → f k ≤ n) → r [.frz (.tup (tab n fun k => (f k : Int)))] st = .ok (.frz (.bl (homeB (n + 1) (wayG f) 0))) [none] st
/-- what stands between two turns of the way from begin -/
structure Way (p : Nat) (w : Nat → Nat) (T E : List Nat) (b here : Nat) : Prop where
  nd : E.Nodup
  lt : ∀ e ∈ E, e < p
  off : ∀ e ∈ E, e ∉ T
  to : ∀ e ∈ E, ∃ m, itw w m e = here
  nx : ∀ e ∈ E, w e ∈ E ∨ w e = here
  beg : b ∈ E ∨ b = here
  hl : here < p
theorem Way.step {p : Nat} {w : Nat → Nat} (hw : ∀ i, i < p → w i < p) {T E : List Nat} {b here : Nat} (h : Way p w T E b here) (h1 : here ∉ T) (h2 : here ∉ E) : Way p w T (E ++ [here]) b (w here) where
  nd := List.nodup_append.mpr ⟨h.nd, by simp, fun x hx y hy e => h2 (by rw [List.mem_singleton] at hy; rw [← hy, ← e]; exact hx)⟩
  lt := fun e he => by
    rcases List.mem_append.mp he with he | he
    · exact h.lt e he
    · rw [List.mem_singleton.mp he]
      exact h.hl
  off := fun e he => by
    rcases List.mem_append.mp he with he | he
    · exact h.off e he
    · rw [List.mem_singleton.mp he]
      exact h1
  to := fun e he => by
    rcases List.mem_append.mp he with he | he
    · obtain ⟨m, hm⟩ := h.to e he
      exact ⟨m + 1, by rw [itw_succ, hm]⟩
    · rw [List.mem_singleton.mp he]
      exact ⟨1, rfl⟩
  nx := fun e he => by
    rcases List.mem_append.mp he with he | he
    · rcases h.nx e he with q | q
      · exact .inl (List.mem_append_left _ q)
      · exact .inl (by rw [q]; exact List.mem_append_right _ List.mem_cons_self)
    · rw [List.mem_singleton.mp he]
      exact .inr rfl
  beg := by
    rcases h.beg with q | q
    · exact .inl (List.mem_append_left _ q)
    · exact .inl (by rw [q]; exact List.mem_append_right _ List.mem_cons_self)
  hl := hw _ h.hl
theorem Way.lost {p : Nat} {w : Nat → Nat} {T E : List Nat} {b here : Nat} (h : Way p w T E b here) (h0 : 0 ∈ T) (h1 : here ∉ T) (h2 : here ∈ E) : ∀ n, itw w n b ≠ 0 := by
  have clo : ∀ e ∈ E, w e ∈ E := fun e he => by
    rcases h.nx e he with q | q
    · exact q
    · rw [q]
      exact h2
  have st : ∀ n e, e ∈ E → itw w n e ∈ E := fun n => by
    induction n with
    | zero => exact fun e he => he
    | succ n ih => exact fun e he => ih (w e) (clo e he)
  have hb : b ∈ E := by
    rcases h.beg with q | q
    · exact q
    · rw [q]
      exact h2
  intro n e
  have := st n b hb
  rw [e] at this
  exact h.off 0 this h0
theorem c_in_dk (l : List Nat) (i : Nat) : cmpD .isin (.int i) (.dic (dk l)) = some (decide (i ∈ l)) := by
  show (if isKey (.int (i : Int)) = true then some ((lookD (dk l) (.int i)).isSome) else none) = _
  rw [look_dk]
  rfl
theorem wayG_lt {n : Nat} {f : Nat → Nat} (hf : ∀ k, k < n → f k ≤ n) (i : Nat) (hi : i < n + 1) : wayG f i < n + 1 := by
  unfold wayG
  split
  · omega
  · have := hf (i - 1) (by omega)
    omega
theorem p_all_come_home {C : Calls} : S_all_come_home (f_all_come_home.run C) := fun n f st hn hf => by
  have hw := wayG_lt hf
  have sm : small ((n : Int) + 1) = true := small_of (by omega) (by omega)
  have sm1 : small 1 = true := by decide
  have hr : rgD 1 ((n : Int) + 1) = tabD n fun k => .int (1 + (k : Int)) := rg_tab2 1 n (by omega)
  refine CR.sat_eq (fn_run rfl ?_)
  refine run_step ?_
  simp [-Nat.reducePow, -Int.reducePow, *, putD]
  refine run_for ?_
  simp [sm, sm1, hr]
  refine for_by (fun i e => ∃ (T : List Nat) (x y z : Option R), e = ⟨[some (.frz (.tup (tab n fun k => (f k : Int)))), some (.dic (dk T)), x, y, z], st⟩ ∧ T.Nodup ∧ (∀ t ∈ T, t < n + 1 ∧ ∃ m, itw (wayG f) m t = 0) ∧ 0 ∈ T ∧ ∀ b, 1 ≤ b → b ≤ i → b ∈ T) ⟨[0], _, _, _, rfl, by simp, fun t ht => ?_, by simp, fun b h1 h2 => absurd h1 (by omega)⟩ (fun i d e hd hI => ?_) (fun e hI => ?_)
  · rw [List.mem_singleton.mp ht]
    exact ⟨by omega, 0, rfl⟩
  · obtain ⟨T, x, y, z, rfl, hnd, hT, h0, hall⟩ := hI
    obtain ⟨hi, rfl⟩ := tabD_iget hd
    refine ⟨_, rfl, ?_⟩
    have eb : (1 : Int) + (i : Int) = ((i + 1 : Nat) : Int) := by omega
    rw [eb]
    generalize hb : i + 1 = b
    refine run_step ?_
    simp
    refine run_step ?_
    simp
    refine run_whl (fun m e => ∃ (E : List Nat) (here : Nat), e = ⟨[some (.frz (.tup (tab n fun k => (f k : Int)))), some (.dic (dk T)), some (.frz (.int (b : Int))), some (.dic (dk E)), some (.frz (.int (here : Int)))], st⟩ ∧ Way (n + 1) (wayG f) T E b here ∧ m + E.length = n + 1) (m := n + 1) (by show n + 1 < 1000000000; omega) ⟨[], b, rfl, ⟨List.nodup_nil, by simp, by simp, by simp, by simp, .inr rfl, by omega⟩, rfl⟩ ?_
    rintro m e ⟨E, here, rfl, hW, hm⟩
    have hEl := nodup_len hW.nd hW.lt
    have hTl := nodup_len hnd fun t ht => (hT t ht).1
    have hbT : T.length + E.length ≤ big := by have := big_eq; omega
    simp [c_notin_dk]
    by_cases qT : here ∈ T
    · rw [if_pos qT]
      refine run_ifs ?_
      simp [c_notin_dk, qT]
      refine run_step ?_
      simp [hbT, mrg_dk E T hW.nd hW.off]
      refine run_nil ?_
      refine ⟨T ++ E, ⟨_, _, _, rfl⟩, ?_, fun t ht => ?_, List.mem_append_left _ h0, fun b' h1 h2 => ?_⟩
      · exact List.nodup_append.mpr ⟨hnd, hW.nd, fun x hx y hy e => hW.off y hy (e ▸ hx)⟩
      · rcases List.mem_append.mp ht with ht | ht
        · exact hT t ht
        · obtain ⟨m1, e1⟩ := hW.to t ht
          obtain ⟨m2, e2⟩ := (hT here qT).2
          exact ⟨hW.lt t ht, m1 + m2, by rw [itw_add, e1, e2]⟩
      · by_cases e : b' = b
        · subst e
          rcases hW.beg with q | q
          · exact List.mem_append_right _ q
          · rw [q]
            exact List.mem_append_left _ qT
        · exact List.mem_append_left _ (hall b' h1 (by omega))
    · rw [if_neg qT]
      by_cases qE : here ∈ E
      · simp [qE]
        have hf0 : homeB (n + 1) (wayG f) 0 = false := by
          cases q : homeB (n + 1) (wayG f) 0 with
          | false => rfl
          | true =>
            obtain ⟨m1, e1⟩ := homeB_iff.mp q b (by omega)
            exact absurd e1 (hW.lost h0 qT qE m1)
        refine run_ifs ?_
        simp [c_notin_dk, qT]
        refine run_step ?_
        simp [hf0]
      · simp [qE]
        have hl := hW.hl
        have hne : here ≠ 0 := fun e => qT (e ▸ h0)
        have hlen : E.length < big := by have := big_eq; have := List.length_append (as := E) (bs := [here]); omega
        have ha : at? (tabD n fun k => D.int (f k : Int)) ((here : Int) - 1) = some (.int (wayG f here : Nat)) := by
          rw [tab_at (f := fun k => D.int (f k : Int)) (p := n) (i := (here : Int) - 1) (by omega) (by omega)]
          unfold wayG
          rw [if_neg hne, show ((here : Int) - 1).toNat = here - 1 by omega]
        have hS := hW.step hw qT qE
        have hSl := nodup_len hS.nd hS.lt
        rw [List.length_append, List.length_singleton] at hSl
        refine run_step ?_
        simp [put_dk qE, hlen]
        refine run_step ?_
        simp [ha]
        refine run_nil ?_
        exact ⟨m - 1, by omega, E ++ [here], wayG f here, rfl, hS, by rw [List.length_append, List.length_singleton]; omega⟩
  · obtain ⟨T, x, y, z, rfl, hnd, hT, h0, hall⟩ := hI
    simp only [tabD_len] at hall
    have : homeB (n + 1) (wayG f) 0 = true := homeB_iff.mpr fun i hi => by
      by_cases e : i = 0
      · exact ⟨0, e⟩
      · exact (hT i (hall i (by omega) (by omega))).2
    rw [this]
    refine run_step ?_
    simp [-Nat.reducePow, -Int.reducePow, *]
/-- a number, as a place -/
def natD : D → Nat
  | .int i => i.toNat
  | _ => 0
/-- whether a thing is a tree of p places -/
noncomputable def treeB (p : Nat) : D → Bool
  | .tup l => decide (l.length + 1 = p) && l.all (wi 0 ((p : Int) - 1)) && homeB p (wayG fun k => natD (l.getD k .non)) 0
  | _ => false
/-- what is_tree may be asked of -/
def Ask (d : D) : Prop := isiOk d = true ∧ ∀ l, d = .tup l → l.length ≤ 1000 ∧ ∀ x ∈ l, isiOk x = true
abbrev S_is_tree (r : List R → List R → CR) : Prop := ∀ (p : Nat) d st, 1 ≤ p → p ≤ 12 → Ask d → r [.frz (.int p), .frz d] st = .ok (.frz (.bl (treeB p d))) [none, none] st
theorem wi_is {a b : Int} {d : D} (h : wi a b d = true) : ∃ i, d = .int i ∧ a ≤ i ∧ i ≤ b := by
  cases d with
  | int i => exact ⟨i, rfl, by simpa [wi, wh] using h⟩
  | _ => simp [wi, wh] at h
theorem p_is_tree {C : Calls} {g : Str} (g_MOST_PLACES : C.glob g = some (.int 12)) (h_need_many_places : Sp C "need_many_places" [] S_need_many_places) (h_is_within : Sp C "is_within" [] S_is_within) (h_all_come_home : Sp C "all_come_home" [] S_all_come_home) : S_is_tree ((f_is_tree g).run C) := fun p d st h1 h12 hd => by
  obtain ⟨r_need_many_places, k_need_many_places⟩ := h_need_many_places
  unfold S_need_many_places at k_need_many_places
  obtain ⟨r_is_within, k_is_within⟩ := h_is_within
  unfold S_is_within at k_is_within
  obtain ⟨r_all_come_home, k_all_come_home⟩ := h_all_come_home
  unfold S_all_come_home at k_all_come_home
  have i1 : (1 : Int) ≤ p := by omega
  have i12 : (p : Int) ≤ 12 := by omega
  have km := k_need_many_places p 12 st i1 i12
  obtain ⟨hd1, hd2⟩ := hd
  refine CR.sat_eq (fn_run rfl ?_)
  refine run_step ?_
  simp [r_need_many_places, g_MOST_PLACES, km]
  refine run_ifs ?_
  cases d with
  | tup l =>
    obtain ⟨hl, hx⟩ := hd2 l rfl
    have hlb : l.length ≤ big := by have := big_eq; omega
    by_cases q : l.length + 1 = p
    · have q2 : (l.length : Int) = (p : Int) - 1 := by omega
      simp [isT, q2]
      refine run_step ?_
      simp
      refine lc_map (φ := fun x => .bl (wi 0 ((p : Int) - 1) x)) hlb (by simp) (fun x hx' => ?_) ?_
      · have kw := k_is_within x 0 ((p : Int) - 1) st (hx x hx')
        refine ⟨_, rfl, ?_⟩
        simp [r_is_within, kw]
      · simp [allR, bls_map]
        by_cases qa : ∀ x, x ∈ l → wi 0 ((p : Int) - 1) x = true
        · rw [if_pos qa]
          have at_ : ∀ k, k < p - 1 → ∃ i, l[k]? = some (.int i) ∧ 0 ≤ i ∧ i ≤ (p : Int) - 1 := fun k hk => by
            obtain ⟨i, e, a1, a2⟩ := wi_is (qa l[k] (List.getElem_mem (by omega)))
            exact ⟨i, by rw [List.getElem?_eq_getElem (by omega), e], a1, a2⟩
          have nat_ : ∀ k, k < p - 1 → l[k]? = some (.int ((natD (l.getD k .non) : Nat) : Int)) ∧ natD (l.getD k .non) ≤ p - 1 := fun k hk => by
            obtain ⟨i, e, a1, a2⟩ := at_ k hk
            rw [List.getD_eq_getElem?_getD, e]
            show some (D.int i) = some (.int ((i.toNat : Nat) : Int)) ∧ i.toNat ≤ p - 1
            exact ⟨by rw [show ((i.toNat : Nat) : Int) = i by omega], by omega⟩
          have el : l = tab (p - 1) fun k => ((natD (l.getD k .non) : Nat) : Int) := tabD_eq (by omega) fun k hk => (nat_ k hk).1
          have ka := k_all_come_home (p - 1) (fun k => natD (l.getD k .non)) st (by omega) fun k hk => (nat_ k hk).2
          rw [← el, show p - 1 + 1 = p by omega] at ka
          have et : treeB p (.tup l) = homeB p (wayG fun k => natD (l.getD k .non)) 0 := by
            show (decide (l.length + 1 = p) && l.all (wi 0 ((p : Int) - 1)) && homeB p (wayG fun k => natD (l.getD k .non)) 0) = _
            rw [decide_eq_true q, List.all_eq_true.mpr qa]
            rfl
          simp [ka, et]
        · rw [if_neg qa]
          show (decide (l.length + 1 = p) && l.all (wi 0 ((p : Int) - 1)) && homeB p (wayG fun k => natD (l.getD k .non)) 0) = false
          have : l.all (wi 0 ((p : Int) - 1)) = false := by
            cases z : l.all (wi 0 ((p : Int) - 1)) with
            | false => rfl
            | true => exact absurd (List.all_eq_true.mp z) qa
          rw [this, Bool.and_false, Bool.false_and]
    · have q2 : ¬ ((l.length : Int) = (p : Int) - 1) := by omega
      simp [isT, q2, treeB, q]
      refine run_step ?_
      simp [-Nat.reducePow, -Int.reducePow, *]
  | hd k => simp at hd1
  | obj _ _ => simp at hd1
  | exc _ _ => simp at hd1
  | _ =>
    simp [isT, treeB]
    refine run_step ?_
    simp
end Lp

end
section
set_option maxHeartbeats 4000000
/-! P13: the law's own look at trees (k18). -/
namespace Lp
open PySem
theorem treeB_not {p : Nat} {l : List D} {x : D} (hx : x ∈ l) (h : wi 0 ((p : Int) - 1) x = false) : treeB p (.tup l) = false := by
  show (decide (l.length + 1 = p) && l.all (wi 0 ((p : Int) - 1)) && homeB p (wayG fun k => natD (l.getD k .non)) 0) = false
  have : l.all (wi 0 ((p : Int) - 1)) = false := by
    cases z : l.all (wi 0 ((p : Int) - 1)) with
    | false => rfl
    | true =>
      have := List.all_eq_true.mp z x hx
      rw [h] at this
      cases this
  rw [this, Bool.and_false, Bool.false_and]
theorem p__law_due_v4 {C : Calls} (h__law_home : Sp C "_law_home" [] S__law_home) : S_is_tree (f__law_due_v4.run C) := fun p d st h1 h12 hd => by
  obtain ⟨r__law_home, k__law_home⟩ := h__law_home
  unfold S__law_home at k__law_home
  obtain ⟨hd1, hd2⟩ := hd
  refine CR.sat_eq (fn_run rfl ?_)
  refine run_ifs ?_
  cases d with
  | tup l =>
    obtain ⟨hl, hx⟩ := hd2 l rfl
    have hlb : l.length ≤ big := by have := big_eq; omega
    by_cases q : l.length + 1 = p
    · have q2 : (l.length : Int) = (p : Int) - 1 := by omega
      simp [isT, q2]
      refine run_for ?_
      simp [itD]
      refine for_by (fun i e => ∃ x, e = ⟨[some (.frz (.int p)), some (.frz (.tup l)), x], st⟩ ∧ ∀ k, k < i → ∃ y, l[k]? = some y ∧ wi 0 ((p : Int) - 1) y = true) ⟨_, rfl, fun k hk => absurd hk (Nat.not_lt_zero _)⟩ (fun i y e hy hI => ?_) (fun e hI => ?_)
      · obtain ⟨x, rfl, hall⟩ := hI
        refine ⟨_, rfl, ?_⟩
        have hm := List.mem_of_getElem? hy
        have ok := hx y hm
        have more : wi 0 ((p : Int) - 1) y = true → ∀ k, k < i + 1 → ∃ y, l[k]? = some y ∧ wi 0 ((p : Int) - 1) y = true := fun hw k hk => by
          by_cases e : k = i
          · subst e
            exact ⟨y, hy, hw⟩
          · exact hall k (by omega)
        have less : wi 0 ((p : Int) - 1) y = false → treeB p (.tup l) = false := treeB_not hm
        refine run_ifs ?_
        cases y with
        | int v =>
          by_cases v0 : v < 0
          · simp [isT, v0]
            refine run_step ?_
            simp [less (by simp [wi]; omega)]
          · by_cases v1 : (p : Int) ≤ v
            · simp [isT, v0, v1]
              refine run_step ?_
              simp [less (by simp [wi]; omega)]
            · simp [isT, v0, v1]
              refine run_nil ?_
              exact ⟨⟨_, rfl⟩, more (by simp [wi]; omega)⟩
        | hd k => simp at ok
        | obj _ _ => simp at ok
        | exc _ _ => simp at ok
        | _ =>
          simp [isT]
          refine run_step ?_
          simp [less rfl]
      · obtain ⟨x, rfl, hall⟩ := hI
        have nat_ : ∀ k, k < p - 1 → l[k]? = some (.int ((natD (l.getD k .non) : Nat) : Int)) ∧ natD (l.getD k .non) ≤ p - 1 := fun k hk => by
          obtain ⟨y, e, hy⟩ := hall k (by omega)
          obtain ⟨i, rfl, a1, a2⟩ := wi_is hy
          rw [List.getD_eq_getElem?_getD, e]
          show some (D.int i) = some (.int ((i.toNat : Nat) : Int)) ∧ i.toNat ≤ p - 1
          exact ⟨by rw [show ((i.toNat : Nat) : Int) = i by omega], by omega⟩
        have el : D.int 0 :: l = tab p fun k => ((wayG (fun k => natD (l.getD k .non)) k : Nat) : Int) := tabD_eq (by simp; omega) fun k hk => by
          cases k with
          | zero => rfl
          | succ k =>
            rw [List.getElem?_cons_succ, (nat_ k (by omega)).1]
            rfl
        have et : treeB p (.tup l) = homeB p (wayG fun k => natD (l.getD k .non)) 0 := by
          show (decide (l.length + 1 = p) && l.all (wi 0 ((p : Int) - 1)) && homeB p (wayG fun k => natD (l.getD k .non)) 0) = _
          have qa : l.all (wi 0 ((p : Int) - 1)) = true := List.all_eq_true.mpr fun x hx => by
            obtain ⟨k, hk⟩ := List.getElem?_of_mem hx
            have hlt := (List.getElem?_eq_some_iff.mp hk).1
            obtain ⟨y, e, hy⟩ := hall k hlt
            rw [hk] at e
            cases e
            exact hy
          rw [decide_eq_true q, qa]
          rfl
        have kh := k__law_home p (wayG fun k => natD (l.getD k .non)) 0 (.lst (tab p fun k => ((wayG (fun k => natD (l.getD k .non)) k : Nat) : Int))) st h1 h12 (fun i hi => by
          unfold wayG
          split
          · omega
          · have := (nat_ (i - 1) (by omega)).2
            show natD (l.getD (i - 1) .non) < p
            omega) (by omega) (.inl rfl)
        rw [← el] at kh
        rw [show ((0 : Nat) : Int) = 0 from rfl] at kh
        have hl1 : 1 + l.length ≤ big := by have := big_eq; omega
        refine run_step ?_
        simp [r__law_home, lstOf, hl1]
        simp [kh, et]
    · have q2 : ¬ ((l.length : Int) = (p : Int) - 1) := by omega
      simp [isT, q2, treeB, q]
      refine run_step ?_
      simp [-Nat.reducePow, -Int.reducePow, *]
  | hd k => simp at hd1
  | obj _ _ => simp at hd1
  | exc _ _ => simp at hd1
  | _ =>
    simp [isT, treeB]
    refine run_step ?_
    simp
end Lp

end
section
set_option maxHeartbeats 4000000
/-! P14: drawn trees (k18). -/
namespace Lp
open PySem
theorem map_erase {α β : Type} (f : α → β) : ∀ (l : List α) (i : Nat), (l.map f).eraseIdx i = (l.eraseIdx i).map f
  | [], _ => rfl
  | _ :: _, 0 => rfl
  | x :: l, i + 1 => congrArg (f x :: ·) (map_erase f l i)
/-- numbers below a bound -/
def Few (n : Nat) (b : Int) (l : List D) : Prop := ∃ is : List Int, l = is.map .int ∧ is.length = n ∧ ∀ z ∈ is, 0 ≤ z ∧ z < b
theorem Few.len {n : Nat} {b : Int} {l : List D} (h : Few n b l) : l.length = n := by
  obtain ⟨is, rfl, h1, _⟩ := h
  simp [h1]
theorem Few.snoc {n : Nat} {b z : Int} {l : List D} (h : Few n b l) (h0 : 0 ≤ z) (h1 : z < b) : Few (n + 1) b (l ++ [.int z]) := by
  obtain ⟨is, rfl, h2, h3⟩ := h
  refine ⟨is ++ [z], by simp, by simp [h2], fun x hx => ?_⟩
  rcases List.mem_append.mp hx with hx | hx
  · exact h3 x hx
  · rw [List.mem_singleton.mp hx]
    exact ⟨h0, h1⟩
theorem Few.put {n : Nat} {b z : Int} {l : List D} (h : Few n b l) (i : Nat) (h0 : 0 ≤ z) (h1 : z < b) : Few n b (l.set i (.int z)) := by
  obtain ⟨is, rfl, h2, h3⟩ := h
  refine ⟨is.set i z, by rw [List.map_set], by simp [h2], fun x hx => ?_⟩
  rcases List.mem_or_eq_of_mem_set hx with hx | rfl
  · exact h3 x hx
  · exact ⟨h0, h1⟩
theorem Few.tail {n : Nat} {b : Int} {l : List D} (h : Few n b l) : Few (n - 1) b (slice l (some 1) none) := by
  obtain ⟨is, rfl, h2, h3⟩ := h
  rw [slice_drop _ (by decide)]
  exact ⟨is.drop 1, by rw [List.map_drop]; rfl, by simp [h2], fun x hx => h3 x (List.mem_of_mem_drop hx)⟩
theorem Few.at {n : Nat} {b : Int} {l : List D} (h : Few n b l) {i : Int} (h0 : 0 ≤ i) (h1 : i < n) : ∃ z, at? l i = some (.int z) ∧ 0 ≤ z ∧ z < b := by
  obtain ⟨is, rfl, h2, h3⟩ := h
  have hlt : i.toNat < is.length := by omega
  refine ⟨is[i.toNat], ?_, h3 _ (List.getElem_mem hlt)⟩
  unfold at?
  rw [if_pos h0, List.getElem?_map, List.getElem?_eq_getElem hlt]
  rfl
theorem Few.pop {n : Nat} {b : Int} {l : List D} (h : Few (n + 1) b l) {i : Int} (h0 : 0 ≤ i) (h1 : i < n + 1) : ∃ z l', mtOwn .pop l [.int i] = some (.int z, l') ∧ 0 ≤ z ∧ z < b ∧ Few n b l' := by
  obtain ⟨is, rfl, h2, h3⟩ := h
  have hlt : i.toNat < is.length := by omega
  refine ⟨is[i.toNat], (is.eraseIdx i.toNat).map .int, ?_, (h3 _ (List.getElem_mem hlt)).1, (h3 _ (List.getElem_mem hlt)).2, is.eraseIdx i.toNat, rfl, ?_, fun z hz => h3 z (List.mem_of_mem_eraseIdx hz)⟩
  · have e1 : pos? (is.map D.int).length i = some i.toNat := tab_pos h0 (by rw [List.length_map]; omega)
    show (match pos? (is.map D.int).length i with | some k => (match (is.map D.int)[k]? with | some d => some (d, (is.map D.int).eraseIdx k) | none => none) | none => none) = _
    rw [e1]
    show (match (is.map D.int)[i.toNat]? with | some d => some (d, (is.map D.int).eraseIdx i.toNat) | none => none) = _
    rw [List.getElem?_map, List.getElem?_eq_getElem hlt]
    show some (D.int is[i.toNat], (is.map D.int).eraseIdx i.toNat) = _
    rw [map_erase]
  · rw [List.length_eraseIdx_of_lt hlt]
    omega
theorem erase_perm : ∀ (l : List Nat) (i : Nat) (h : i < l.length), (l[i] :: l.eraseIdx i).Perm l
  | [], i, h => absurd h (Nat.not_lt_zero _)
  | x :: l, 0, h => List.Perm.refl _
  | x :: l, i + 1, h => by
    have h' : i < l.length := by simpa using h
    have ih := erase_perm l i h'
    show (l[i] :: x :: l.eraseIdx i).Perm (x :: l)
    exact (List.Perm.swap _ _ _).trans (ih.cons x)
/-- an order of places, each leading to 0 or to one ahead of it -/
def Leads (ord : List Nat) (g : Nat → Nat) (n : Nat) : Prop := ∀ j : Nat, j < n → ∀ v, ord[j]? = some v → g v = 0 ∨ ∃ i w, i < j ∧ ord[i]? = some w ∧ g v = w
theorem leads_home {p : Nat} {ord : List Nat} {g : Nat → Nat} (hall : ∀ v, 1 ≤ v → v < p → v ∈ ord) (h : Leads ord g ord.length) (h0 : ∀ v ∈ ord, v ≠ 0) : homeB p (wayG fun k => g (k + 1)) 0 = true := homeB_iff.mpr fun i hi => by
  by_cases z : i = 0
  · exact ⟨0, z⟩
  · have key : ∀ (j v : Nat), ord[j]? = some v → ∃ n, itw (wayG fun k => g (k + 1)) n v = 0 := by
      intro j
      induction j using Nat.strongRecOn with
      | ind j ih =>
        intro v hv
        have hj := (List.getElem?_eq_some_iff.mp hv).1
        have hv0 := h0 v (List.mem_of_getElem? hv)
        have e : wayG (fun k => g (k + 1)) v = g v := by
          unfold wayG
          rw [if_neg hv0]
          have e9 : v - 1 + 1 = v := by omega
          exact congrArg g e9
        rcases h j hj v hv with q | ⟨i, w, hi, hw, q⟩
        · rw [q] at e
          exact ⟨1, e⟩
        · obtain ⟨n, hn⟩ := ih i hi w hw
          rw [q] at e
          refine ⟨n + 1, ?_⟩
          rw [← e] at hn
          exact hn
    obtain ⟨j, hj⟩ := List.getElem?_of_mem (hall i (by omega) hi)
    exact key j i hj
abbrev S__law_drawn_tree (r : List R → List R → CR) : Prop := ∀ (k : Nat) (u : List D) (p : Nat) st, Urn k u → k < 100000000000 → 1 ≤ p → p ≤ 12 →
  (r [.lst u, .frz (.int p)] st).sat (fun v ps st' => st = st' ∧ ∃ (l u' : List D), v = .frz (.tup l) ∧ ps = [some (.lst u'), none] ∧ (Few (p - 1) p l ∧ ∃ f : Nat → Nat, l = (tab (p - 1) fun k => (f k : Int)) ∧ (∀ k, k < p - 1 → f k < p) ∧ homeB p (wayG f) 0 = true) ∧ Urn (k + 30) u') noX
theorem p__law_drawn_tree {C : Calls} (h__law_pull : Sp C "_law_pull" [0] S__law_pull) : S__law_drawn_tree (f__law_drawn_tree.run C) := fun k u p st hu hk h1 h12 => by
  obtain ⟨r__law_pull, k__law_pull⟩ := h__law_pull
  unfold S__law_pull at k__law_pull
  have sm : small (p : Int) = true := small_of (by omega) (by omega)
  have sm1 : small 1 = true := by decide
  have smp : small ((p : Int) - 1) = true := small_of (by omega) (by omega)
  have hle : (p : Int) - 1 ≤ 1000000 := by omega
  have hr : rgD 1 (p : Int) = (List.range' 1 (p - 1)).map fun (k : Nat) => .int (k : Int) := by
    rw [rg_tab2 1 (p - 1) (by omega), List.range'_eq_map_range, List.map_map]
    show (List.range (p - 1)).map _ = _
    refine List.map_congr_left fun k _ => ?_
    show D.int (1 + (k : Int)) = D.int ((1 + k : Nat) : Int)
    rw [Int.natCast_add]
    rfl
  have hr0 : rgD 0 ((p : Int) - 1) = tabD (p - 1) fun k => .int (0 + (k : Int)) := rg_tab2 0 (p - 1) (by omega)
  have hb : p - 1 ≤ big := by have := big_eq; omega
  refine fn_run rfl (run_step ?_)
  simp [sm, sm1, hle, hr]
  have L0 : (List.range' 1 (p - 1)).length = p - 1 := by simp
  have P0 : ([] ++ List.range' 1 (p - 1)).Perm (List.range' 1 (p - 1)) := List.Perm.refl _
  have N0 : (List.range' 1 (p - 1)).Nodup := List.nodup_range'
  have M0 : ∀ v, v ∈ List.range' 1 (p - 1) ↔ 1 ≤ v ∧ v < p := fun v => by
    rw [List.mem_range'_1]
    omega
  generalize List.range' 1 (p - 1) = all at P0 L0 N0 M0 ⊢
  refine run_step ?_
  simp [smp, hr0]
  refine lc_by (fun i acc e => ∃ (u : List D) (ord left : List Nat), acc = ord.map (fun (k : Nat) => D.int (k : Int)) ∧ ord.length = i ∧ (ord ++ left).Perm all ∧ (∃ x, e = ⟨[some (.lst u), some (.frz (.int p)), some (.lst (left.map fun (k : Nat) => D.int (k : Int))), none, x, none, none], st⟩) ∧ Urn (k + i) u) (by simp [hb]) ⟨u, [], all, rfl, rfl, P0, ⟨_, rfl⟩, hu⟩ (fun i d acc e hd hI => ?_) (fun acc e hI => ?_)
  · obtain ⟨u, ord, left, rfl, ho, hp, ⟨x, rfl⟩, hu⟩ := hI
    obtain ⟨hi, rfl⟩ := tabD_iget hd
    refine ⟨_, rfl, ?_⟩
    have hl : left.length = p - 1 - i := by
      have := hp.length_eq
      rw [List.length_append] at this
      omega
    have hl0 : 0 < left.length := by omega
    have hlb : left.length ≤ big := by have := big_eq; omega
    simp [r__law_pull, hlb]
    refine CR.by (k__law_pull _ _ _ _ hu (by omega) (by omega) (by omega)) fun r_ ps_ st_ h_ => ?_
    obtain ⟨rfl, y, u2, rfl, rfl, y0, y1, hu2⟩ := h_
    have hy : y.toNat < left.length := by omega
    have ep : mtOwn .pop (left.map fun (k : Nat) => D.int (k : Int)) [.int y] = some (.int ((left[y.toNat] : Nat) : Int), (left.eraseIdx y.toNat).map fun (k : Nat) => D.int (k : Int)) := by
      have e1 : pos? (left.map fun (k : Nat) => D.int (k : Int)).length y = some y.toNat := tab_pos y0 (by rw [List.length_map]; omega)
      show (match pos? (left.map fun (k : Nat) => D.int (k : Int)).length y with | some k => (match (left.map fun (k : Nat) => D.int (k : Int))[k]? with | some d => some (d, (left.map fun (k : Nat) => D.int (k : Int)).eraseIdx k) | none => none) | none => none) = _
      rw [e1]
      show (match (left.map fun (k : Nat) => D.int (k : Int))[y.toNat]? with | some d => some (d, (left.map fun (k : Nat) => D.int (k : Int)).eraseIdx y.toNat) | none => none) = _
      rw [List.getElem?_map, List.getElem?_eq_getElem hy]
      show some (D.int ((left[y.toNat] : Nat) : Int), (left.map fun (k : Nat) => D.int (k : Int)).eraseIdx y.toNat) = _
      rw [map_erase]
    simp [ep]
    refine ⟨_, _, ⟨rfl, rfl⟩, u2, ord ++ [left[y.toNat]], by simp, by simp [ho], left.eraseIdx y.toNat, ?_, ⟨_, rfl⟩, hu2.mono (by omega)⟩
    have pc : (left[y.toNat] :: left.eraseIdx y.toNat).Perm left := erase_perm left y.toNat hy
    rw [List.append_assoc]
    exact (List.Perm.append_left ord pc).trans hp
  · obtain ⟨u, ord, left, rfl, ho, hp, ⟨x, rfl⟩, hu⟩ := hI
    simp only [tabD_len] at ho hu
    have hbp : p ≤ big := by have := big_eq; omega
    have hl0 : left = [] := by
      have := hp.length_eq
      rw [List.length_append] at this
      exact List.eq_nil_of_length_eq_zero (by omega)
    subst hl0
    rw [List.append_nil] at hp
    have hnd : ord.Nodup := hp.nodup_iff.mpr N0
    have hmem : ∀ v, v ∈ ord ↔ 1 ≤ v ∧ v < p := fun v => (hp.mem_iff).trans (M0 v)
    clear hp N0 M0 P0 L0 hr
    have bm : binR .mul (.lst [.int 0]) (.frz (.int (p : Int))) = some (.lst (tab p fun _ => ((0 : Nat) : Int))) := by
      show (if [D.int 0].length * (p : Int).toNat ≤ big ∧ (p : Int).natAbs ≤ big then some (R.lst (List.replicate (p : Int).toNat [D.int 0]).flatten) else none) = _
      rw [if_pos ⟨by simp [hbp], by simp [hbp]⟩, Int.toNat_natCast, rep_tab]
      rfl
    simp
    refine run_step ?_
    simp [bm]
    refine run_for ?_
    simp [smp, hr0]
    refine for_by (fun i e => ∃ (u : List D) (g : Nat → Nat), (∃ (x : Option R), e = ⟨[some (.lst u), some (.frz (.int p)), some (.lst []), some (.lst (ord.map fun (k : Nat) => D.int (k : Int))), none, some (.lst (tab p fun k => (g k : Int))), x], st⟩) ∧ (∀ k, g k < p) ∧ Leads ord g i ∧ Urn (k + 12 + i) u) ⟨u, fun _ => 0, ⟨_, rfl⟩, fun _ => (by show 0 < p; omega), fun j hj => absurd hj (Nat.not_lt_zero _), hu.mono (by omega)⟩ (fun i d e hd hI => ?_) (fun e hI => ?_)
    · obtain ⟨u, g, ⟨x, rfl⟩, hg, hL, hu⟩ := hI
      obtain ⟨hi, rfl⟩ := tabD_iget hd
      refine ⟨_, rfl, ?_⟩
      have hio : i < ord.length := by omega
      obtain ⟨w, hw⟩ : ∃ w, ord[i]? = some w := ⟨_, List.getElem?_eq_getElem hio⟩
      have hwm := (hmem w).mp (List.mem_of_getElem? hw)
      have hal : 1 + ord.length ≤ big := by have := big_eq; omega
      have A1 : at? (ord.map fun (k : Nat) => D.int (k : Int)) (i : Int) = some (.int (w : Int)) := by
        unfold at?
        rw [if_pos (by omega), Int.toNat_natCast, List.getElem?_map, hw]
        rfl
      refine run_step ?_
      simp [r__law_pull, hal]
      refine CR.by (k__law_pull _ _ _ _ hu (by omega) (by omega) (by omega)) fun r_ ps_ st_ h_ => ?_
      obtain ⟨rfl, y, u2, rfl, rfl, y0, y1, hu2⟩ := h_
      obtain ⟨v, hv, hv2⟩ : ∃ v : Nat, at? (D.int 0 :: ord.map fun (k : Nat) => D.int (k : Int)) y = some (.int (v : Int)) ∧ (v = 0 ∨ ∃ i' : Nat, i' < i ∧ ord[i']? = some v) := by
        by_cases q : y = 0
        · subst q
          exact ⟨0, rfl, .inl rfl⟩
        · obtain ⟨j, hj⟩ : ∃ j : Nat, y.toNat = j + 1 := ⟨y.toNat - 1, by omega⟩
          have hjo : j < ord.length := by omega
          refine ⟨ord[j], ?_, .inr ⟨j, by omega, List.getElem?_eq_getElem hjo⟩⟩
          unfold at?
          rw [if_pos y0, hj, List.getElem?_cons_succ, List.getElem?_map, List.getElem?_eq_getElem hjo]
          rfl
      have hvp : v < p := by
        rcases hv2 with rfl | ⟨i', _, hi'⟩
        · omega
        · exact ((hmem v).mp (List.mem_of_getElem? hi')).2
      have hpos : pos? p (w : Int) = some w := by
        rw [tab_pos (by omega) (by omega), Int.toNat_natCast]
      simp [hv, A1, hpos]
      refine run_nil ?_
      refine ⟨u2, fun x => if x = w then v else g x, ?_, fun x => ?_, fun j hj v' hv' => ?_, hu2.mono (by omega)⟩
      · have e : (tabD p fun k => if k = w then D.int (v : Int) else D.int (g k : Int)) = tab p fun k => (((if k = w then v else g k) : Nat) : Int) := tabD_ext fun k hk => by
          show _ = D.int ((if k = w then v else g k : Nat) : Int)
          by_cases q : k = w
          · rw [if_pos q, if_pos q]
          · rw [if_neg q, if_neg q]
        exact ⟨_, by rw [e]⟩
      · show (if x = w then v else g x) < p
        split
        · exact hvp
        · exact hg x
      · have hvl := (List.getElem?_eq_some_iff.mp hv').1
        by_cases q : j = i
        · subst q
          rw [hw] at hv'
          have ew : w = v' := Option.some.inj hv'
          subst ew
          rcases hv2 with z | ⟨i', h1', h2'⟩
          · left
            show (if w = w then v else g w) = 0
            rw [if_pos rfl, z]
          · right
            refine ⟨i', v, h1', h2', ?_⟩
            show (if w = w then v else g w) = v
            rw [if_pos rfl]
        · have hne : v' ≠ w := fun e => by
            have hji : j < i := by omega
            have q1 := (List.pairwise_iff_getElem.mp hnd) j i hvl hio hji
            have q2 : ord[j] = v' := by
              rw [List.getElem?_eq_getElem hvl] at hv'
              exact Option.some.inj hv'
            have q3 : ord[i] = w := by
              rw [List.getElem?_eq_getElem hio] at hw
              exact Option.some.inj hw
            exact q1 (by rw [q2, q3, e])
          have := hL j (by omega) v' hv'
          have e : (if v' = w then v else g v') = g v' := if_neg hne
          rcases this with z | ⟨i2, w2, z1, z2, z3⟩
          · exact .inl (e.trans z)
          · exact .inr ⟨i2, w2, z1, z2, e.trans z3⟩
    · obtain ⟨u, g, ⟨x, rfl⟩, hg, hL, hu⟩ := hI
      simp only [tabD_len] at hu hL
      have e1 : slice (tab p fun k => (g k : Int)) (some 1) none = tab (p - 1) fun k => (g (k + 1) : Int) := by
        rw [slice_drop _ (by decide)]
        show (tab p fun k => (g k : Int)).drop 1 = _
        rw [tabD_drop]
        exact tabD_ext fun k hk => by rw [Nat.add_comm]
      refine run_step ?_
      simp [e1]
      refine ⟨⟨⟨(List.range (p - 1)).map fun k => (g (k + 1) : Int), by rw [List.map_map]; rfl, by simp, fun z hz => ?_⟩, fun k => g (k + 1), rfl, fun k hk => hg _, leads_home (fun v h1 h2 => (hmem v).mpr ⟨h1, h2⟩) (by rw [ho]; exact hL) fun v hv => ?_⟩, hu.mono (by omega)⟩
      · obtain ⟨k, hk, rfl⟩ := List.mem_map.mp hz
        have := hg (k + 1)
        omega
      · have := ((hmem v).mp hv).1
        omega
end Lp

end
section
set_option maxHeartbeats 4000000
/-! L19: law k19; coders of trees. -/
namespace Lp
open PySem
/-- the least lengths whose last goings are the ways f -/
def lsW (p : Nat) (f : Nat → Nat) : WS := ⟨0, fun k => if k = 0 then 0 else (f (k - 1) + (p - k)) % p⟩
theorem ls_way {p : Nat} {f : Nat → Nat} {k : Nat} (hk : k + 1 < p) (hf : f k < p) : way p (lsW p f).L (k + 1) = f k := by
  show (k + 1 + (if k + 1 = 0 then 0 else (f (k + 1 - 1) + (p - (k + 1))) % p)) % p = f k
  rw [if_neg (by omega), Nat.add_mod_mod, Nat.add_sub_cancel, show k + 1 + (f k + (p - (k + 1))) = f k + p by omega, Nat.add_mod_right, Nat.mod_eq_of_lt hf]
theorem ls_way0 {p : Nat} (f : Nat → Nat) : way p (lsW p f).L 0 = 0 := by
  show (0 + 0) % p = 0
  exact Nat.zero_mod p
theorem ls_wk {p : Nat} (h1 : 1 ≤ p) (h12 : p ≤ 12) (f : Nat → Nat) : Wk p (lsW p f) := ⟨h1, h12, by show 0 < p; omega⟩
theorem ls_lt {p : Nat} (hp : 0 < p) (f : Nat → Nat) (k : Nat) : (lsW p f).L k < p := by
  show (if k = 0 then 0 else (f (k - 1) + (p - k)) % p) < p
  split
  · exact hp
  · exact Nat.mod_lt _ hp
theorem itw_congr {p : Nat} {w w' : Nat → Nat} (hw : ∀ i, i < p → w i < p) (h : ∀ i, i < p → w i = w' i) : ∀ n i, i < p → itw w n i = itw w' n i
  | 0, _, _ => rfl
  | n + 1, i, hi => by
    show itw w n (w i) = itw w' n (w' i)
    rw [← h i hi]
    exact itw_congr hw h n (w i) (hw i hi)
theorem home_congr {p : Nat} {w w' : Nat → Nat} (hw : ∀ i, i < p → w i < p) (h : ∀ i, i < p → w i = w' i) {o : Nat} (q : homeB p w o = true) : homeB p w' o = true := homeB_iff.mpr fun i hi => by
  obtain ⟨n, hn⟩ := homeB_iff.mp q i hi
  exact ⟨n, by rw [← itw_congr hw h n i hi]; exact hn⟩
/-- ways that lead home make a coder in its round -/
theorem ls_in {p : Nat} (hp : 0 < p) {f : Nat → Nat} (hf : ∀ k, k < p - 1 → f k < p) (q : homeB p (wayG f) 0 = true) : inRB p (lsW p f) = true := by
  rw [inRB_home]
  refine home_congr (w := wayG f) (fun i hi => ?_) (fun i hi => ?_) q
  · unfold wayG
    split
    · exact hp
    · exact hf _ (by omega)
  · cases i with
    | zero => exact (ls_way0 f).symm
    | succ k =>
      show f k = _
      exact (ls_way hi (hf k (by omega))).symm
theorem ls_tree {p : Nat} (h1 : 1 ≤ p) (h12 : p ≤ 12) {f : Nat → Nat} (hf : ∀ k, k < p - 1 → f k < p) (q : homeB p (wayG f) 0 = true) {k : Nat} (hk : k < p - 1) : treeF p (lsW p f) (k + 1) = f k := by
  have hw := ls_wk h1 h12 f
  have hin := inRB_iff.mp (ls_in hw.n0 hf q)
  have e1 : ahd p (lsW p f) = 0 := ahd_eq hw hin fun k hk => absurd hk (Nat.not_lt_zero _)
  have e2 : rst p (lsW p f) = 0 := by
    obtain ⟨_, a2, _⟩ := rst_ok hw.n0 hw.h1 hin
    apply Decidable.byContradiction
    intro z
    exact a2 0 (by omega) ⟨rfl, by show 0 % p = 0; exact Nat.zero_mod p⟩
  unfold treeF rstS
  rw [e1]
  show way p (((lsW p f).go p (rst p (lsW p f)))).L (k + 1) = f k
  rw [e2]
  exact ls_way (by omega) (hf k hk)
/-- each coder's tree leads home -/
theorem tree_home {p : Nat} {s : WS} (h : Wk p s) : (∀ k, k < p - 1 → treeF p s (k + 1) < p) ∧ homeB p (wayG fun k => treeF p s (k + 1)) 0 = true := by
  have hp := h.n0
  have hlt : ∀ i, treeF p s i < p := fun i => way_lt hp _ i
  have g1 := (ahd_ok h).1
  obtain ⟨⟨q1, q2⟩, _, _⟩ := rst_ok hp (h.go (ahd p s)).h1 g1
  have hin : inR p (rstS p s) := inR_go hp (h.go (ahd p s)).h1 g1 _
  have hB : homeB p (way p (rstS p s).L) 0 = true := by
    have := inRB_iff.mpr hin
    rw [inRB_home] at this
    have e : (rstS p s).pl = 0 := q1
    rwa [e] at this
  refine ⟨fun k _ => hlt _, home_congr (w := way p (rstS p s).L) (fun i _ => way_lt hp _ i) (fun i hi => ?_) hB⟩
  cases i with
  | zero =>
    show (0 + (rstS p s).L 0) % p = 0
    rw [Nat.zero_add]
    exact q2
  | succ k => rfl
theorem tree_true {p : Nat} (h1 : 1 ≤ p) {f : Nat → Nat} (hf : ∀ k, k < p - 1 → f k < p) (q : homeB p (wayG f) 0 = true) : treeB p (.tup (tab (p - 1) fun k => (f k : Int))) = true := by
  show (decide ((tab (p - 1) fun k => (f k : Int)).length + 1 = p) && (tab (p - 1) fun k => (f k : Int)).all (wi 0 ((p : Int) - 1)) && homeB p (wayG fun k => natD ((tab (p - 1) fun k => (f k : Int)).getD k .non)) 0) = true
  rw [Bool.and_eq_true, Bool.and_eq_true]
  refine ⟨⟨decide_eq_true (by rw [tabD_len]; omega), List.all_eq_true.mpr fun d hd => ?_⟩, home_congr (w := wayG f) (fun i hi => ?_) (fun i hi => ?_) q⟩
  · obtain ⟨i, hi, rfl⟩ := tabD_mem.mp hd
    have := hf i hi
    simp [wi, wh]
    omega
  · unfold wayG
    split
    · omega
    · exact hf _ (by omega)
  · unfold wayG
    split
    · rfl
    · show f (i - 1) = natD ((tab (p - 1) fun k => (f k : Int)).getD (i - 1) .non)
      rw [List.getD_eq_getElem?_getD, tabD_get (by omega)]
      show f (i - 1) = ((f (i - 1) : Nat) : Int).toNat
      rw [Int.toNat_natCast]
theorem ask_tab (n : Nat) (f : Nat → Int) (hn : n ≤ 1000) : Ask (.tup (tab n f)) := by
  refine ⟨rfl, fun l e => ?_⟩
  cases e
  refine ⟨by rw [tabD_len]; exact hn, fun x hx => ?_⟩
  obtain ⟨i, hi, rfl⟩ := tabD_mem.mp hx
  rfl
theorem tab_first {p : Nat} (h : 0 < p) (f : Nat → Int) : D.int (f 0) :: (tab (p - 1) fun k => f (k + 1)) = tab p f := tabD_eq (by rw [List.length_cons, tabD_len]; omega) fun i hi => by
  cases i with
  | zero => rfl
  | succ i => rw [List.getElem?_cons_succ, tabD_get (by omega)]
theorem ls_int {p k g : Nat} (hk : k + 1 < p) : ((g : Int) - (k : Int) - 1) % (p : Int) = (((g + (p - (k + 1))) % p : Nat) : Int) := by
  rw [Int.natCast_emod, show ((g + (p - (k + 1)) : Nat) : Int) = ((g : Int) - (k : Int) - 1) + (p : Int) * 1 by omega, Int.add_mul_emod_self_left]
theorem ls_cdw {p : Nat} (h : 0 < p) (f : Nat → Nat) : D.tup [.int 0, .tup (.int 0 :: tab (p - 1) fun k => (((f k + (p - (k + 1))) % p : Nat) : Int))] = cdw p (lsW p f) := by
  have e : (tab (p - 1) fun k => (((f k + (p - (k + 1))) % p : Nat) : Int)) = tab (p - 1) fun k => ((lsW p f).L (k + 1) : Int) := tab_ext fun k hk => by
    show _ = ((if k + 1 = 0 then 0 else (f (k + 1 - 1) + (p - (k + 1))) % p : Nat) : Int)
    rw [if_neg (by omega), Nat.add_sub_cancel]
  rw [e]
  have := tab_first h fun k => ((lsW p f).L k : Int)
  show D.tup [.int 0, .tup (.int ((lsW p f).L 0 : Int) :: tab (p - 1) fun k => ((lsW p f).L (k + 1) : Int))] = _
  rw [this]
  rfl
abbrev S_coder_of (r : List R → List R → CR) : Prop := ∀ (p : Nat) (f : Nat → Nat) st, 1 ≤ p → p ≤ 12 → (∀ k, k < p - 1 → f k < p) → homeB p (wayG f) 0 = true → r [.frz (.int (p : Int)), .frz (.tup (tab (p - 1) fun k => (f k : Int)))] st = .ok (.frz (cdw p (lsW p f))) [none, none] st
theorem p_coder_of {C : Calls} (h_is_tree : Sp C "is_tree" [] S_is_tree) : S_coder_of (f_coder_of.run C) := fun p f st h1 h12 hf hh => by
  obtain ⟨r_is_tree, k_is_tree⟩ := h_is_tree
  unfold S_is_tree at k_is_tree
  have hpi : (0 : Int) < p := by omega
  have hp : 0 < p := h1
  have kt := k_is_tree p _ st h1 h12 (ask_tab (p - 1) (fun k => (f k : Int)) (by omega))
  rw [tree_true h1 hf hh] at kt
  have hb : p - 1 ≤ big := by have := big_eq; omega
  have hb2 : 1 + (p - 1) ≤ big := by have := big_eq; omega
  refine CR.sat_eq (fn_run rfl ?_)
  refine run_ifs ?_
  simp [r_is_tree, kt]
  refine run_step ?_
  simp [enum_tab]
  refine lc_map (φ := fun d => match d with | .tup [.int k, .int g] => .int ((g - k - 1) % (p : Int)) | _ => .non) (by simp [hb]) (by simp) (fun d hd => ?_) ?_
  · obtain ⟨i, hi, rfl⟩ := tabD_mem.mp hd
    refine ⟨_, rfl, ?_⟩
    simp [hpi, hp]
  · have e : (tabD (p - 1) fun k => D.tup [.int (k : Int), .int (f k : Int)]).map (fun d => match d with | .tup [.int k, .int g] => D.int ((g - k - 1) % (p : Int)) | _ => .non) = tab (p - 1) fun k => (((f k + (p - (k + 1))) % p : Nat) : Int) := by
      rw [tabD_map]
      exact tabD_ext fun k hk => by
        show D.int (((f k : Int) - (k : Int) - 1) % (p : Int)) = _
        rw [ls_int (by omega)]
    rw [e]
    simp [hb2]
    simpa using ls_cdw hp f
abbrev S__law_least (r : List R → List R → CR) : Prop := ∀ (p a g L : Nat) st, p ≤ 12 → L < p → (a + L) % p = g → r [.frz (.int (a : Int)), .frz (.int (g : Int)), .frz (.int (p : Int))] st = .ok (.frz (.int (L : Int))) [none, none, none] st
theorem p__law_least {C : Calls} : S__law_least (f__law_least.run C) := fun p a g L st h12 hL he => by
  have hp : 0 < p := by omega
  have hpi : (0 : Int) < p := by omega
  have sm : small (p : Int) = true := small_of (by omega) (by omega)
  have hb : p ≤ big := by have := big_eq; omega
  refine CR.sat_eq (fn_run rfl ?_)
  refine run_step ?_
  simp [sm]
  refine lc_pick (γ := fun d => match d with | .int i => decide (((a : Int) + i) % (p : Int) = (g : Int)) | _ => false) (φ := fun d => d) (by simp [hb]) (fun d hd => ?_) ?_
  · obtain ⟨i, hi, rfl⟩ := tabD_mem.mp hd
    refine ⟨_, rfl, rfl, ?_, fun _ => ?_⟩
    · simp [hpi, hp]
    · simp
  · rw [List.map_id']
    have hmem : D.int (L : Int) ∈ (tab p fun k => (k : Int)).filter fun d => match d with | .int i => decide (((a : Int) + i) % (p : Int) = (g : Int)) | _ => false := by
      rw [List.mem_filter]
      refine ⟨tabD_mem.mpr ⟨L, hL, rfl⟩, ?_⟩
      show decide (((a : Int) + (L : Int)) % (p : Int) = (g : Int)) = true
      rw [← he, Int.natCast_emod, Int.natCast_add]
      exact decide_eq_true rfl
    have huniq : ∀ d ∈ (tab p fun k => (k : Int)).filter fun d => match d with | .int i => decide (((a : Int) + i) % (p : Int) = (g : Int)) | _ => false, d = D.int (L : Int) := fun d hd => by
      rw [List.mem_filter] at hd
      obtain ⟨h1, h2⟩ := hd
      obtain ⟨i, hi, rfl⟩ := tabD_mem.mp h1
      have h3 : ((a : Int) + (i : Int)) % (p : Int) = (g : Int) := of_decide_eq_true h2
      have h4 : (a + i) % p = (a + L) % p := by
        have : (((a + i) % p : Nat) : Int) = (g : Int) := by rw [Int.natCast_emod, Int.natCast_add]; exact h3
        omega
      have h5 : i = L := by
        have q1 := Nat.div_add_mod (a + i) p
        have q2 := Nat.div_add_mod (a + L) p
        rw [h4] at q1
        have h6 : p * ((a + i) / p) < p * ((a + L) / p + 1) := by rw [Nat.mul_add, Nat.mul_one]; omega
        have h7 : p * ((a + L) / p) < p * ((a + i) / p + 1) := by rw [Nat.mul_add, Nat.mul_one]; omega
        have h8 := Nat.lt_of_mul_lt_mul_left h6
        have h9 := Nat.lt_of_mul_lt_mul_left h7
        have h10 : (a + i) / p = (a + L) / p := by omega
        rw [h10] at q1
        omega
      rw [h5]
    generalize ((tab p fun k => (k : Int)).filter fun d => match d with | .int i => decide (((a : Int) + i) % (p : Int) = (g : Int)) | _ => false) = l at hmem huniq
    cases l with
    | nil => exact absurd hmem List.not_mem_nil
    | cons x l =>
      have := huniq x List.mem_cons_self
      subst this
      simp
theorem maxL_mem : ∀ (l : List Int) (i : Int), maxL i l ∈ i :: l
  | [], i => List.mem_cons_self
  | x :: l, i => by
    show maxL (if x > i then x else i) l ∈ i :: x :: l
    have := maxL_mem l (if x > i then x else i)
    rcases List.mem_cons.mp this with h | h
    · rw [h]
      split
      · exact List.mem_cons_of_mem _ List.mem_cons_self
      · exact List.mem_cons_self
    · exact List.mem_cons_of_mem _ (List.mem_cons_of_mem _ h)
theorem max_few {p : Nat} (hp : 0 < p) {F : Nat → Nat} {b : Nat} (h : ∀ k, F k < b) : ∃ m : Int, maxR (.frz (.tup (tab p fun k => (F k : Int)))) = some (.frz (.int m)) ∧ m < (b : Int) := by
  have e : ints? (tab p fun k => (F k : Int)) = some ((F 0 : Int) :: (List.range (p - 1)).map fun k => (F (k + 1) : Int)) := by
    rw [← tab_first hp, ints?, ints_tab]
    rfl
  refine ⟨maxL (F 0 : Int) ((List.range (p - 1)).map fun k => (F (k + 1) : Int)), ?_, ?_⟩
  · show (match ints? (tab p fun k => (F k : Int)) with | some (i :: is) => some (R.frz (.int (maxL i is))) | _ => none) = _
    rw [e]
  · rcases List.mem_cons.mp (maxL_mem ((List.range (p - 1)).map fun k => (F (k + 1) : Int)) (F 0 : Int)) with q | q
    · rw [q]
      have := h 0
      omega
    · obtain ⟨k, _, hk⟩ := List.mem_map.mp q
      rw [← hk]
      have := h (k + 1)
      omega
theorem repr_cdw {p : Nat} {s : WS} (h : Wk p s) (hb : ∀ k, k < p → s.L k < 10 ^ 31) : reprR (.frz (cdw p s)) = some (.frz (.str (cdw p s).rep)) := repr_cod h.cod fun k hk => by
  have := hb k hk
  omega
theorem p_law_v12 {C : Calls} (h__law_urn : Sp C "_law_urn" [] S__law_urn) (h__law_pull : Sp C "_law_pull" [0] S__law_pull) (h__law_drawn_tree : Sp C "_law_drawn_tree" [0] S__law_drawn_tree) (h__law_least : Sp C "_law_least" [] S__law_least) (h_coder_of : Sp C "coder_of" [] S_coder_of) (h_in_round : Sp C "in_round" [] S_in_round) (h_tree_of : Sp C "tree_of" [] S_tree_of) (h_is_tree : Sp C "is_tree" [] S_is_tree) (h__law_coder : Sp C "_law_coder" [0] S__law_coder_v2) : S_law (f_law_v12.run C) := fun ns st hn => by
  obtain ⟨r__law_urn, k__law_urn⟩ := h__law_urn
  unfold S__law_urn at k__law_urn
  obtain ⟨r__law_pull, k__law_pull⟩ := h__law_pull
  unfold S__law_pull at k__law_pull
  obtain ⟨r__law_drawn_tree, k__law_drawn_tree⟩ := h__law_drawn_tree
  unfold S__law_drawn_tree at k__law_drawn_tree
  obtain ⟨r__law_least, k__law_least⟩ := h__law_least
  unfold S__law_least at k__law_least
  obtain ⟨r_coder_of, k_coder_of⟩ := h_coder_of
  unfold S_coder_of at k_coder_of
  obtain ⟨r_in_round, k_in_round⟩ := h_in_round
  unfold S_in_round at k_in_round
  obtain ⟨r_tree_of, k_tree_of⟩ := h_tree_of
  unfold S_tree_of at k_tree_of
  obtain ⟨r_is_tree, k_is_tree⟩ := h_is_tree
  unfold S_is_tree at k_is_tree
  obtain ⟨r__law_coder, k__law_coder⟩ := h__law_coder
  obtain ⟨c1, c2⟩ := cells_of hn (k := 8) (by decide)
  have sm4 : small 4 = true := by decide
  have sm2 : small 2 = true := by decide
  refine CR.sat_eq (fn_run rfl ?_)
  refine run_for ?_
  simp [-Nat.reducePow, -Int.reducePow, *]
  refine for_by (fun i e => ∃ x1 x2 x3 x4 x5 x6 x7 x8 x9 x10, e = ⟨[some (.frz (.lst (ns.map .int))), x1, x2, x3, x4, x5, x6, x7, x8, x9, x10], st⟩) ⟨_, _, _, _, _, _, _, _, _, _, rfl⟩ (fun i d e hd hI => ?_) (fun e hI => ?_)
  · obtain ⟨x1, x2, x3, x4, x5, x6, x7, x8, x9, x10, rfl⟩ := hI
    obtain ⟨z, rfl⟩ := c2 d (List.mem_of_getElem? hd)
    refine ⟨_, rfl, ?_⟩
    refine run_step ?_
    simp [r__law_urn]
    refine CR.by (k__law_urn z _) fun r_ ps_ st_ h_ => ?_
    obtain ⟨rfl, u, rfl, rfl, hu⟩ := h_
    simp
    refine run_for ?_
    simp [sm4]
    refine for_by (fun i e => ∃ u, (∃ x3 x4 x5 x6 x7 x8 x9 x10, e = ⟨[some (.frz (.lst (ns.map .int))), some (.frz (.int z)), some (.lst u), x3, x4, x5, x6, x7, x8, x9, x10], st⟩) ∧ Urn (1000 * i) u) ⟨_, ⟨_, _, _, _, _, _, _, _, rfl⟩, hu⟩ (fun i d e hd hI => ?_) (fun e hI => ?_)
    · obtain ⟨u, ⟨x3, x4, x5, x6, x7, x8, x9, x10, rfl⟩, hu⟩ := hI
      obtain ⟨rfl, hi⟩ := rg_get hd
      refine ⟨_, rfl, ?_⟩
      refine run_step ?_
      simp [r__law_pull]
      refine CR.by (k__law_pull _ _ _ _ hu (by omega) (by omega) (by omega)) fun r_ ps_ st_ h_ => ?_
      obtain ⟨rfl, y, u1, rfl, rfl, y0, y1, hu1⟩ := h_
      obtain ⟨p, hp⟩ : ∃ p : Nat, 1 + y = (p : Int) := ⟨(1 + y).toNat, by omega⟩
      have h1 : 1 ≤ p := by omega
      have h12 : p ≤ 12 := by omega
      have hpos : 0 < p := h1
      simp [hp]
      refine run_step ?_
      simp [r__law_drawn_tree]
      refine CR.by (k__law_drawn_tree _ _ _ _ hu1 (by omega) h1 h12) fun r_ ps_ st_ h_ => ?_
      obtain ⟨rfl, tr, u2, rfl, rfl, ⟨_, f, rfl, hf, hh⟩, hu2⟩ := h_
      simp
      have smp : small ((p : Int) - 1) = true := small_of (by omega) (by omega)
      have hr0 : rgD 0 ((p : Int) - 1) = tabD (p - 1) fun k => .int (0 + (k : Int)) := rg_tab2 0 (p - 1) (by omega)
      have hb : p - 1 ≤ big := by have := big_eq; omega
      have hb2 : 1 + (p - 1) ≤ big := by have := big_eq; omega
      have hw := ls_wk h1 h12 f
      have kL : ∀ k, k < p - 1 → C.run (Str.ofString "_law_least") [.frz (.int ((k : Int) + 1)), .frz (.int (f k : Int)), .frz (.int (p : Int))] st = .ok (.frz (.int (((f k + (p - (k + 1))) % p : Nat) : Int))) [none, none, none] st := fun k hk => by
        have hwy := ls_way (p := p) (f := f) (k := k) (by omega) (hf k hk)
        have := k__law_least p (k + 1) (f k) ((f k + (p - (k + 1))) % p) st h12 (Nat.mod_lt _ hpos) (by
          have e : (lsW p f).L (k + 1) = (f k + (p - (k + 1))) % p := by
            show (if k + 1 = 0 then 0 else (f (k + 1 - 1) + (p - (k + 1))) % p) = _
            rw [if_neg (by omega), Nat.add_sub_cancel]
          rw [← e]
          exact hwy)
        rw [show ((k + 1 : Nat) : Int) = (k : Int) + 1 by omega] at this
        exact this
      refine run_step ?_
      simp [smp, hr0]
      refine lc_map (φ := fun d => match d with | .int i => .int (((f i.toNat + (p - (i.toNat + 1))) % p : Nat) : Int) | _ => .non) (by simp [hb]) (by simp) (fun d hd => ?_) ?_
      · obtain ⟨k, hk, rfl⟩ := tabD_mem.mp hd
        have A1 : at? (tab (p - 1) fun k => (f k : Int)) (k : Int) = some (.int (f k : Int)) := by rw [tab_at (by omega) (by omega), Int.toNat_natCast]
        have kl := kL k hk
        refine ⟨_, rfl, ?_⟩
        simp [A1, r__law_least, kl]
      · have e0 : ((tabD (p - 1) fun k => D.int (k : Int)).map fun d => match d with | .int i => D.int (((f i.toNat + (p - (i.toNat + 1))) % p : Nat) : Int) | _ => .non) = tab (p - 1) fun k => (((f k + (p - (k + 1))) % p : Nat) : Int) := by
          rw [tabD_map]
          exact tabD_ext fun k hk => rfl
        rw [e0]
        have kC := k_coder_of p f st h1 h12 hf hh
        have kI := k_in_round p (lsW p f) st hw
        rw [ls_in hpos hf hh] at kI
        have kT := k_tree_of p (lsW p f) st hw
        rw [tab_ext (g := fun i => (f i : Int)) fun k hk => by rw [ls_tree h1 h12 hf hh hk]] at kT
        have kB := k_is_tree p _ st h1 h12 (ask_tab (p - 1) (fun k => (f k : Int)) (by omega))
        rw [tree_true h1 hf hh] at kB
        have rC := repr_cdw hw fun k _ => by have := ls_lt hpos f k; omega
        have rT := repr_nums (n := p - 1) (p := 12) (f := f) (by omega) (by decide) fun k hk => by have := hf k hk; omega
        have ec := ls_cdw hpos f
        have hTL : (tab (p - 1) fun k => (((f k + (p - (k + 1))) % p : Nat) : Int)).length = p - 1 := tabD_len _ _
        generalize (tab (p - 1) fun k => (((f k + (p - (k + 1))) % p : Nat) : Int)) = TL at ec hTL ⊢
        have hb3 : 1 + TL.length ≤ big := by rw [hTL]; exact hb2
        simp [hb3]
        rw [ec]
        refine run_for ?_
        simp [sm2]
        refine for_by (fun i_ e => ∃ x7 x8 x9 x10, e = ⟨[some (.frz (.lst (ns.map .int))), some (.frz (.int z)), some (.lst u2), some (.frz (.int (i : Int))), some (.frz (.int (p : Int))), some (.frz (.tup (tab (p - 1) fun k => (f k : Int)))), some (.frz (cdw p (lsW p f))), x7, x8, x9, x10], st⟩) ⟨_, _, _, _, rfl⟩ (fun i d e hd hI => ?_) (fun e hI => ?_)
        · obtain ⟨x7, x8, x9, x10, rfl⟩ := hI
          refine ⟨_, rfl, run_ifs ?_⟩
          simp [r_coder_of, kC, rC]
          refine run_nil ?_
          refine ⟨_, _, _, _, rfl⟩
        · obtain ⟨x7, x8, x9, x10, rfl⟩ := hI
          refine run_ifs ?_
          simp [r_in_round, kI, r_tree_of, kT, rT, r_is_tree, kB]
          refine run_step ?_
          simp [r__law_coder]
          refine CR.by (k__law_coder _ _ _ _ hu2 (by omega) (by omega) (by omega)) fun r_ ps_ st_ h_ => ?_
          obtain ⟨rfl, dd, u3, rfl, rfl, hD, hu3⟩ := h_
          obtain ⟨q, s, rfl, hs, hm, hL⟩ := hD.wk
          have hq1 := hs.p1
          have hq12 := hs.p12
          have hqb : q ≤ big := by have := big_eq; omega
          obtain ⟨t1, t2⟩ := tree_home hs
          have kT2 := k_tree_of q s st hs
          have kC2 := k_coder_of q (fun k => treeF q s (k + 1)) st hq1 hq12 t1 t2
          have hw2 := ls_wk hq1 hq12 fun k => treeF q s (k + 1)
          have kT3 := k_tree_of q (lsW q fun k => treeF q s (k + 1)) st hw2
          rw [tab_ext (g := fun i => (treeF q s (i + 1) : Int)) fun k hk => by rw [ls_tree hq1 hq12 t1 t2 hk]] at kT3
          have nt := ne_tup_self (Pl.tab (q - 1) fun i => (treeF q s (i + 1) : Int))
          obtain ⟨m, hm1, hm2⟩ := max_few (p := q) hs.n0 (F := (lsW q fun k => treeF q s (k + 1)).L) (b := q) (ls_lt hs.n0 _)
          have hm3 : ¬ ((q : Int) ≤ m) := by omega
          have A0 : at? (tab q fun k => ((lsW q fun k => treeF q s (k + 1)).L k : Int)) 0 = some (.int 0) := tab_at0 hs.n0
          have epl : ((lsW q fun k => treeF q s (k + 1)).pl : Int) = 0 := rfl
          simp
          refine run_step ?_
          simp [hqb, r_tree_of, kT2, r_coder_of, kC2]
          refine run_ifs ?_
          simp [r_tree_of, kT2, kT3, nt, epl, A0, hqb, hm1, hm3]
          refine run_nil ?_
          refine ⟨u3, ⟨_, _, _, _, _, _, _, _, rfl⟩, hu3.mono (by omega)⟩
    · obtain ⟨u, ⟨x3, x4, x5, x6, x7, x8, x9, x10, rfl⟩, hu⟩ := hI
      refine run_nil ?_
      refine ⟨_, _, _, _, _, _, _, _, _, _, rfl⟩
  · obtain ⟨x1, x2, x3, x4, x5, x6, x7, x8, x9, x10, rfl⟩ := hI
    refine run_step ?_
    simp [-Nat.reducePow, -Int.reducePow, *]
end Lp

end
section
set_option maxHeartbeats 1000000
/-! M10: comprehensions of two clauses, plain. -/
namespace Lp
open PySem
theorem hide_sub {l1 l : List Nat} {e o : Env} (hs : ∀ j ∈ l1, j ∈ l) (h : e.hide l1 = o.hide l1) : e.hide l = o.hide l := by
  have len : e.sl.length = o.sl.length := by
    have := congrArg (fun z => z.sl.length) h
    simp only [hide_len] at this
    exact this
  refine Env.ext_get (by rw [hide_len, hide_len, len]) (by rw [hide_st, hide_st]; have := congrArg Env.st h; rwa [hide_st, hide_st] at this) fun j => ?_
  have hj := congrArg (fun z => z.sl[j]?) h
  simp only [hide_at] at hj
  rw [hide_at, hide_at, len]
  by_cases m : j ∈ l ∧ j < o.sl.length
  · rw [if_pos m, if_pos m]
  · rw [if_neg m, if_neg m]
    by_cases q : j < o.sl.length
    · have nm : j ∉ l1 := fun z => m ⟨hs j z, q⟩
      rw [if_neg fun z => nm z.1, if_neg fun z => nm z.1] at hj
      exact hj
    · rw [List.getElem?_eq_none (by omega), List.getElem?_eq_none (by omega)]
theorem lcloop_map {own : List Nat} {t : Tg} {c : Env → Ev Bool} {x : Env → Ev A} {e : Env} (φ : D → D) (hc : ∀ e, c e = .ok true e) : ∀ (ds : List D) (acc : List D) (e' : Env), e'.hide own = e.hide own → acc.length + ds.length ≤ big →
    (∀ d ∈ ds, ∃ e1, stT t (.frz d) (e.hide own) = some e1 ∧ e1.hide own = e.hide own ∧ x e1 = .ok (.val (.frz (φ d))) e1) →
    ∃ e3, lcLoop (fun d e => stT t (.frz d) (e.hide own)) (fun e => (c e).calm) (lcItem x) ds acc e' = .ok (acc ++ ds.map φ) e3 ∧ e3.hide own = e.hide own
  | [], acc, e', h, _, _ => ⟨e', by rw [lcLoop, List.map_nil, List.append_nil], h⟩
  | d :: ds, acc, e', h, hl, hs => by
    obtain ⟨e1, h1, h2, h3⟩ := hs d List.mem_cons_self
    have hl2 : acc.length < big := by simp at hl; omega
    obtain ⟨e3, g1, g2⟩ := lcloop_map φ hc ds (acc ++ [φ d]) e1 h2 (by simp at hl ⊢; omega) fun d hd => hs d (List.mem_cons_of_mem _ hd)
    refine ⟨e3, ?_, g2⟩
    unfold lcLoop
    simp only [h, h1, hc, calm_ok, bind_ok, if_true] at g1 ⊢
    have : lcItem x e1 = .ok (φ d) e1 := by
      unfold lcItem
      rw [h3]
      rfl
    rw [this, bind_ok, if_pos hl2, g1, List.map_cons, List.append_assoc]
    rfl
theorem lc2_in {own1 : List Nat} {t1 : Tg} {it1 : Env → Ev (List D)} {c1 : Env → Ev Bool} {x : Env → Ev A} {acc ds1 : List D} {e : Env} (φ : D → D) (hi : it1 e = .ok ds1 e) (hc : ∀ e, c1 e = .ok true e) (hl : acc.length + ds1.length ≤ big)
    (hs : ∀ d ∈ ds1, ∃ e1, stT t1 (.frz d) (e.hide own1) = some e1 ∧ e1.hide own1 = e.hide own1 ∧ x e1 = .ok (.val (.frz (φ d))) e1) :
    ∃ e3, lc2In own1 t1 it1 c1 x acc e = .ok (acc ++ ds1.map φ) e3 ∧ e3.hide own1 = e.hide own1 := by
  unfold lc2In
  rw [hi, calm_ok, bind_ok]
  exact lcloop_map φ hc ds1 acc e rfl hl hs
theorem lc2loop_map {own : List Nat} {t : Tg} {c : Env → Ev Bool} {inner : List D → Env → Ev (List D)} {e : Env} (ψ : D → List D) (hc : ∀ e, c e = .ok true e) : ∀ (ds : List D) (acc : List D) (e' : Env), e'.hide own = e.hide own → acc.length + (ds.flatMap ψ).length ≤ big →
    (∀ d ∈ ds, ∃ e1, stT t (.frz d) (e.hide own) = some e1 ∧ ∀ acc, acc.length + (ψ d).length ≤ big → ∃ e3, inner acc e1 = .ok (acc ++ ψ d) e3 ∧ e3.hide own = e.hide own) →
    ∃ e3, lc2Loop (fun d e => stT t (.frz d) (e.hide own)) (fun e => (c e).calm) inner ds acc e' = .ok (acc ++ ds.flatMap ψ) e3 ∧ e3.hide own = e.hide own
  | [], acc, e', h, _, _ => ⟨e', by rw [lc2Loop, List.flatMap_nil, List.append_nil], h⟩
  | d :: ds, acc, e', h, hl, hs => by
    obtain ⟨e1, h1, h2⟩ := hs d List.mem_cons_self
    rw [List.flatMap_cons, List.length_append] at hl
    obtain ⟨e2, h3, h4⟩ := h2 acc (by omega)
    obtain ⟨e3, g1, g2⟩ := lc2loop_map ψ hc ds (acc ++ ψ d) e2 h4 (by rw [List.length_append]; omega) fun d hd => hs d (List.mem_cons_of_mem _ hd)
    refine ⟨e3, ?_, g2⟩
    unfold lc2Loop
    simp only [h, h1, hc, calm_ok, bind_ok, if_true] at g1 ⊢
    rw [h3, bind_ok, g1, List.flatMap_cons, List.append_assoc]
theorem lc2_map {own : List Nat} {t : Tg} {c : Env → Ev Bool} {inner : List D → Env → Ev (List D)} {ds : List D} {e : Env} {Q : A → Env → Prop} {X : Exn → Env → Prop} (ψ : D → List D) (hl : (ds.flatMap ψ).length ≤ big) (hc : ∀ e, c e = .ok true e)
    (hs : ∀ d ∈ ds, ∃ e1, stT t (.frz d) (e.hide own) = some e1 ∧ ∀ acc, acc.length + (ψ d).length ≤ big → ∃ e3, inner acc e1 = .ok (acc ++ ψ d) e3 ∧ e3.hide own = e.hide own)
    (hd : Q (.val (.lst (ds.flatMap ψ))) e) : (lc2Run own t c inner ds e).sat Q X := by
  obtain ⟨e3, g1, g2⟩ := lc2loop_map ψ hc ds [] e rfl (by simpa using hl) hs
  unfold lc2Run
  rw [g1, bind_ok]
  show Q _ _
  rw [unhide_hide g2]
  exact hd
end Lp

end
section
set_option maxHeartbeats 4000000
/-! P23: all rows of goals, those that are trees. -/
namespace Lp
open PySem
def rowsT (p : Nat) : Nat → List (List Nat)
  | 0 => [[]]
  | n + 1 => (rowsT p n).flatMap fun r => (List.range p).map fun g => r ++ [g]
theorem rowsT_mem {p : Nat} : ∀ {n : Nat} {r : List Nat}, r ∈ rowsT p n → r.length = n ∧ ∀ x ∈ r, x < p
  | 0, r, h => by
    rw [rowsT, List.mem_singleton] at h
    subst h
    exact ⟨rfl, fun _ h => absurd h List.not_mem_nil⟩
  | n + 1, r, h => by
    rw [rowsT, List.mem_flatMap] at h
    obtain ⟨q, hq, hr⟩ := h
    obtain ⟨g, hg, rfl⟩ := List.mem_map.mp hr
    obtain ⟨h1, h2⟩ := rowsT_mem hq
    refine ⟨by simp [h1], fun x hx => ?_⟩
    rcases List.mem_append.mp hx with hx | hx
    · exact h2 x hx
    · rw [List.mem_singleton.mp hx]
      exact List.mem_range.mp hg
theorem flat_len {α β : Type} {f : α → List β} {c : Nat} : ∀ {l : List α}, (∀ x ∈ l, (f x).length = c) → (l.flatMap f).length = l.length * c
  | [], _ => by simp
  | x :: l, h => by
    rw [List.flatMap_cons, List.length_append, h x List.mem_cons_self, flat_len fun y hy => h y (List.mem_cons_of_mem _ hy), List.length_cons, Nat.succ_mul, Nat.add_comm]
theorem rowsT_len (p : Nat) : ∀ n, (rowsT p n).length = p ^ n
  | 0 => rfl
  | n + 1 => by
    rw [rowsT, flat_len (c := p) fun r _ => by simp, rowsT_len p n, Nat.pow_succ]
def goD (r : List Nat) : D := .tup (r.map fun (x : Nat) => D.int x)
theorem goD_tab (r : List Nat) : goD r = .tup (tab r.length fun k => ((r.getD k 0 : Nat) : Int)) := congrArg D.tup (tabD_eq (by simp) fun i hi => by
  rw [List.getElem?_map, List.getElem?_eq_getElem hi]
  show some (D.int ((r[i] : Nat) : Int)) = some (D.int ((r.getD i 0 : Nat) : Int))
  rw [List.getD_eq_getElem?_getD, List.getElem?_eq_getElem hi]
  rfl)
theorem goD_snoc (r : List Nat) (g : Nat) : goD (r ++ [g]) = .tup ((r.map fun (x : Nat) => D.int x) ++ [.int g]) := by
  unfold goD
  rw [List.map_append]
  rfl
/-- the rows that are trees -/
noncomputable def treeR (p : Nat) (r : List Nat) : Bool := homeB p (wayG fun k => r.getD k 0) 0
noncomputable def filT (p : Nat) : List (List Nat) := (rowsT p (p - 1)).filter (treeR p)
noncomputable def gTree (p : Nat) : D → Bool
  | .tup l => homeB p (wayG fun k => natD (l.getD k .non)) 0 | _ => false
theorem natD_go (r : List Nat) (k : Nat) : natD ((r.map fun (x : Nat) => D.int x).getD k .non) = r.getD k 0 := by
  rw [List.getD_eq_getElem?_getD, List.getD_eq_getElem?_getD, List.getElem?_map]
  cases r[k]? <;> rfl
theorem gTree_go (p : Nat) (r : List Nat) : gTree p (goD r) = treeR p r := by
  show homeB p (wayG fun k => natD ((r.map fun (x : Nat) => D.int x).getD k .non)) 0 = _
  simp only [natD_go]
  rfl
theorem filter_go (p n : Nat) : ((rowsT p n).map goD).filter (gTree p) = ((rowsT p n).filter (treeR p)).map goD := by
  rw [List.filter_map]
  refine congrArg _ (List.filter_congr fun r _ => gTree_go p r)
theorem filT_mem {p : Nat} {r : List Nat} (h : r ∈ filT p) : r.length = p - 1 ∧ (∀ x ∈ r, x < p) ∧ treeR p r = true := by
  obtain ⟨h1, h2⟩ := List.mem_filter.mp h
  exact ⟨(rowsT_mem h1).1, (rowsT_mem h1).2, h2⟩
theorem pow_le6 {p n : Nat} (h : p ≤ 6) (hn : n ≤ 5) : p ^ n ≤ 7776 := Nat.le_trans (Nat.pow_le_pow_left h n) (Nat.le_trans (Nat.pow_le_pow_right (by decide) hn) (by decide))
abbrev S_all_trees (r : List R → List R → CR) : Prop := ∀ (p : Nat) st, 1 ≤ p → p ≤ 6 → r [.frz (.int (p : Int))] st = .ok (.lst ((filT p).map goD)) [none] st
theorem rows_step (p n : Nat) : ((rowsT p n).map goD).flatMap (fun d => (tab p fun k => (k : Int)).map fun g => match d, g with | .tup l, .int i => .tup (l ++ [.int i]) | _, _ => .non) = (rowsT p (n + 1)).map goD := by
  rw [rowsT, List.map_flatMap, List.flatMap_map]
  refine congrArg (fun f => List.flatMap f (rowsT p n)) (funext fun r => ?_)
  show ((List.range p).map _).map _ = ((List.range p).map _).map goD
  rw [List.map_map, List.map_map]
  refine List.map_congr_left fun g _ => ?_
  rw [Function.comp, Function.comp, goD_snoc]
  rfl
theorem tree_way {p : Nat} {r : List Nat} (h1 : 1 ≤ p) (hl : r.length = p - 1) (hr : ∀ x ∈ r, x < p) : (p - 1 : Nat) ≤ 40 → ∀ k, k < p - 1 → r.getD k 0 ≤ p - 1 := fun _ k hk => by
  rw [List.getD_eq_getElem?_getD, List.getElem?_eq_getElem (by omega)]
  have := hr _ (List.getElem_mem (l := r) (n := k) (by omega))
  show r[k] ≤ p - 1
  omega
theorem p_all_trees {C : Calls} (g_MOST_LISTED : C.glob "MOST_LISTED" = some (.int 6)) (h_need_many_places : Sp C "need_many_places" [] S_need_many_places) (h_all_come_home : Sp C "all_come_home" [] S_all_come_home) : S_all_trees (f_all_trees.run C) := fun p st h1 h6 => by
  obtain ⟨r_need_many_places, k_need_many_places⟩ := h_need_many_places
  unfold S_need_many_places at k_need_many_places
  obtain ⟨r_all_come_home, k_all_come_home⟩ := h_all_come_home
  unfold S_all_come_home at k_all_come_home
  have kn := k_need_many_places p 6 st (by omega) (by omega)
  have smp : small (p : Int) = true := small_of (by omega) (by omega)
  have sm1 : small 1 = true := by decide
  have hr : rgD 1 (p : Int) = tabD (p - 1) fun k => .int (1 + (k : Int)) := rg_tab2 1 (p - 1) (by omega)
  refine CR.sat_eq (fn_run rfl ?_)
  refine run_step ?_
  simp [-Nat.reducePow, -Int.reducePow, *, r_need_many_places]
  refine run_step ?_
  simp [-Nat.reducePow, -Int.reducePow, *]
  refine run_for ?_
  simp [smp, sm1, hr]
  refine for_by (fun i e => ∃ x y z, e = ⟨[some (.frz (.int (p : Int))), some (.lst ((rowsT p i).map goD)), x, y, z], st⟩) ⟨_, _, _, rfl⟩ (fun i d e hd hI => ?_) (fun e hI => ?_)
  · obtain ⟨x, y, z, rfl⟩ := hI
    obtain ⟨hi, rfl⟩ := tabD_iget hd
    refine ⟨_, rfl, ?_⟩
    refine run_step ?_
    simp [Env.get, itD]
    refine lc2_map (fun d => (tab p fun k => (k : Int)).map fun g => match d, g with | .tup l, .int i => .tup (l ++ [.int i]) | _, _ => .non) ?_ (fun _ => by simp) (fun d hd => ?_) ?_
    · rw [rows_step, List.length_map, rowsT_len]
      have := pow_le6 h6 (show i + 1 ≤ 5 by omega)
      have := big_eq
      omega
    · obtain ⟨r, hr2, rfl⟩ := List.mem_map.mp hd
      obtain ⟨l1, l2⟩ := rowsT_mem hr2
      refine ⟨_, rfl, fun acc hacc => ?_⟩
      have hin : ∀ g ∈ tab p fun k => (k : Int), ∃ e1, stT (.nm 4) (.frz g) (Env.hide ⟨[some (.frz (.int (p : Int))), some (.frz (.lst ((rowsT p i).map goD))), some (.frz (.int (1 + (i : Int)))), some (.frz (goD r)), none], st⟩ [4]) = some e1 ∧ e1.hide [4] = Env.hide ⟨[some (.frz (.int (p : Int))), some (.frz (.lst ((rowsT p i).map goD))), some (.frz (.int (1 + (i : Int)))), some (.frz (goD r)), none], st⟩ [4] ∧
          ev C (.bin .add (.var 3) (.tup (.cons (.var 4) .nil))) e1 = .ok (.val (.frz (match goD r, g with | .tup l, .int i => .tup (l ++ [.int i]) | _, _ => .non))) e1 := fun g hg => by
        obtain ⟨k, hk, rfl⟩ := tabD_mem.mp hg
        refine ⟨_, rfl, rfl, ?_⟩
        have : r.length + 1 ≤ big := by have := big_eq; omega
        simp [Env.get, goD, binR, this]
      obtain ⟨e3, g1, g2⟩ := lc2_in (acc := acc) (it1 := evIt C (.rg1 (.var 0))) (c1 := evT C (.cst (.bl true))) (fun g => match goD r, g with | .tup l, .int i => .tup (l ++ [.int i]) | _, _ => .non) (by simp [smp, Env.get]) (fun _ => by simp) (by simpa using hacc) hin
      refine ⟨e3, g1, ?_⟩
      rw [hide_sub (l := [3, 4]) (by simp) g2]
      rfl
    · rw [rows_step]
      simp [Env.get]
      exact run_nil ⟨_, _, _, rfl⟩
  · obtain ⟨x, y, z, rfl⟩ := hI
    simp
    refine run_step ?_
    simp [Env.get, itD]
    have hlen : ((rowsT p (p - 1)).map goD).length ≤ big := by
      rw [List.length_map, rowsT_len]
      have := pow_le6 h6 (show p - 1 ≤ 5 by omega)
      have := big_eq
      omega
    refine lc_pick (gTree p) id hlen (fun d hd => ?_) ?_
    · obtain ⟨r, hr2, rfl⟩ := List.mem_map.mp hd
      obtain ⟨l1, l2⟩ := rowsT_mem hr2
      have kh := k_all_come_home (p - 1) (fun k => r.getD k 0) st (by omega) (tree_way h1 l1 l2 (by omega))
      rw [← l1, ← goD_tab, l1, show p - 1 + 1 = p by omega] at kh
      refine ⟨_, rfl, rfl, ?_, fun _ => ?_⟩
      · simp [Env.get, r_all_come_home, kh, gTree_go, treeR]
      · simp [Env.get]
    · rw [filter_go]
      simp [filT]
theorem go_way {p : Nat} {r : List Nat} (h1 : 1 ≤ p) (hl : r.length = p - 1) : D.int 0 :: (r.map fun (x : Nat) => D.int x) = tab p fun k => ((wayG (fun k => r.getD k 0) k : Nat) : Int) := tabD_eq (by simp; omega) fun k hk => by
  cases k with
  | zero => rfl
  | succ k =>
    rw [List.getElem?_cons_succ, List.getElem?_map, List.getElem?_eq_getElem (by omega)]
    show some (D.int ((r[k] : Nat) : Int)) = some (D.int ((wayG (fun k => r.getD k 0) (k + 1) : Nat) : Int))
    unfold wayG
    rw [if_neg (by omega)]
    show _ = some (D.int ((r.getD k 0 : Nat) : Int))
    rw [List.getD_eq_getElem?_getD, List.getElem?_eq_getElem (by omega)]
    rfl
/-- the row, one longer in all ways -/
def longerD (p : Nat) (d : D) : List D := (tab p fun k => (k : Int)).map fun g => match d, g with | .tup l, .int i => .tup (l ++ [.int i]) | _, _ => .non
theorem longer_rows (p n : Nat) : ((rowsT p n).map goD).flatMap (longerD p) = (rowsT p (n + 1)).map goD := rows_step p n
theorem longer_len (p : Nat) (d : D) : (longerD p d).length = p := by simp [longerD]
theorem flat_take {l : List D} {i : Nat} {d : D} (f : D → List D) (h : l[i]? = some d) : (l.take (i + 1)).flatMap f = (l.take i).flatMap f ++ f d := by
  rw [List.take_add_one, h]
  simp
theorem flat_take_len {p : Nat} {l : List D} {i : Nat} : ((l.take i).flatMap (longerD p)).length ≤ l.length * p := by
  rw [flat_len fun x _ => longer_len p x, List.length_take]
  exact Nat.mul_le_mul_right _ (Nat.min_le_right _ _)
theorem p__law_all {C : Calls} (h__law_home : Sp C "_law_home" [] S__law_home) : S_all_trees (f__law_all.run C) := fun p st h1 h6 => by
  obtain ⟨r__law_home, k__law_home⟩ := h__law_home
  unfold S__law_home at k__law_home
  have smp : small (p : Int) = true := small_of (by omega) (by omega)
  have sm1 : small 1 = true := by decide
  have hr : rgD 1 (p : Int) = tabD (p - 1) fun k => .int (1 + (k : Int)) := rg_tab2 1 (p - 1) (by omega)
  have hb := big_eq
  refine CR.sat_eq (fn_run rfl ?_)
  refine run_step ?_
  simp [-Nat.reducePow, -Int.reducePow, *]
  refine run_for ?_
  simp [smp, sm1, hr]
  refine for_by (fun i e => ∃ r, (∃ x y z w, e = ⟨[some (.frz (.int (p : Int))), some r, x, y, z, w], st⟩) ∧ (r = .lst ((rowsT p i).map goD) ∨ r = .frz (.lst ((rowsT p i).map goD)))) ⟨_, ⟨_, _, _, _, rfl⟩, .inl rfl⟩ (fun i d e hd hI => ?_) (fun e hI => ?_)
  · obtain ⟨r, ⟨x, y, z, w, rfl⟩, hr⟩ := hI
    obtain ⟨hi, rfl⟩ := tabD_iget hd
    have hlen : ((rowsT p i).map goD).length * p ≤ 7776 := by
      rw [List.length_map, rowsT_len, ← Nat.pow_succ]
      exact pow_le6 h6 (by omega)
    refine ⟨_, rfl, ?_⟩
    refine run_step ?_
    simp
    refine run_for ?_
    have hd2 : ∀ {P : List D → Env → Prop} {X : Exn → Env → Prop}, P ((rowsT p i).map goD) ⟨[some (.frz (.int (p : Int))), some (.frz (.lst ((rowsT p i).map goD))), some (.frz (.int (1 + (i : Int)))), some (.lst []), z, w], st⟩ → (evIt C (.sq (.var 1)) ⟨[some (.frz (.int (p : Int))), some r, some (.frz (.int (1 + (i : Int)))), some (.lst []), z, w], st⟩).sat P X := fun {P X} h => by
      rcases hr with rfl | rfl <;> simpa [Env.get, itD] using h
    refine hd2 ?_
    refine for_by (fun j e => ∃ z w, e = ⟨[some (.frz (.int (p : Int))), some (.frz (.lst ((rowsT p i).map goD))), some (.frz (.int (1 + (i : Int)))), some (.lst ((((rowsT p i).map goD).take j).flatMap (longerD p))), z, w], st⟩) ⟨_, _, rfl⟩ (fun j d e hd hI => ?_) (fun e hI => ?_)
    · obtain ⟨z, w, rfl⟩ := hI
      obtain ⟨q, hq, rfl⟩ := List.mem_map.mp (List.mem_of_getElem? hd)
      obtain ⟨l1, l2⟩ := rowsT_mem hq
      refine ⟨_, rfl, ?_⟩
      refine run_step ?_
      simp [Env.get, smp]
      refine lc_map (fun g => match goD q, g with | .tup l, .int i => .tup (l ++ [.int i]) | _, _ => .non) (by simp; omega) (fun _ => by simp) (fun g hg => ?_) ?_
      · obtain ⟨k, hk, rfl⟩ := tabD_mem.mp hg
        refine ⟨_, rfl, rfl, ?_⟩
        have : q.length + 1 ≤ big := by omega
        simp [Env.get, goD, binR, this]
      · have hl2 := flat_take_len (p := p) (l := (rowsT p i).map goD) (i := j)
        have hl3 : ((((rowsT p i).map goD).take j).flatMap (longerD p)).length + p ≤ big := by omega
        have ef := flat_take (longerD p) hd
        have el : (tab p fun k => (k : Int)).map (fun g => match goD q, g with | .tup l, .int i => D.tup (l ++ [.int i]) | _, _ => .non) = longerD p (goD q) := rfl
        simp only [el]
        generalize (((rowsT p i).map goD).take j).flatMap (longerD p) = L0 at hl3 ef ⊢
        simp [Env.get, mtOwn, longer_len, hl3]
        refine run_nil ?_
        rw [← ef]
        exact ⟨_, _, rfl⟩
    · obtain ⟨z, w, rfl⟩ := hI
      rw [List.take_length, longer_rows]
      refine run_step ?_
      simp [Env.get]
      refine run_nil ?_
      exact ⟨.frz (.lst ((rowsT p (i + 1)).map goD)), ⟨_, _, _, _, rfl⟩, .inr rfl⟩
  · obtain ⟨r, ⟨x, y, z, w, rfl⟩, hr⟩ := hI
    rw [tabD_len] at hr
    refine run_step ?_
    have hlen : ((rowsT p (p - 1)).map goD).length ≤ big := by
      rw [List.length_map, rowsT_len]
      have := pow_le6 h6 (show p - 1 ≤ 5 by omega)
      omega
    have go : ∀ d ∈ (rowsT p (p - 1)).map goD, ∃ e1, stT (.nm 4) (.frz d) (Env.hide ⟨[some (.frz (.int (p : Int))), some (.frz (.lst ((rowsT p (p - 1)).map goD))), x, y, z, w], st⟩ [4]) = some e1 ∧ e1.hide [4] = Env.hide ⟨[some (.frz (.int (p : Int))), some (.frz (.lst ((rowsT p (p - 1)).map goD))), x, y, z, w], st⟩ [4] ∧
        evT C (.call (Str.ofString "_law_home") (.cons (.bin .add (.lst (.cons (.cst (.int 0)) .nil)) (.bi .list (.cons (.var 4) .nil))) (.cons (.cst (.int 0)) .nil))) e1 = .ok (gTree p d) e1 ∧ (gTree p d = true → ev C (.var 4) e1 = .ok (.val (.frz (id d))) e1) := fun d hd => by
      obtain ⟨q, hq, rfl⟩ := List.mem_map.mp hd
      obtain ⟨l1, l2⟩ := rowsT_mem hq
      have hw := tree_way h1 l1 l2 (by omega)
      have kh := k__law_home p (wayG fun k => q.getD k 0) 0 _ st h1 (by omega) (fun i hi => by
        unfold wayG
        split
        · omega
        · have := hw (i - 1) (by omega)
          show q.getD (i - 1) 0 < p
          omega) (by omega) (.inl rfl)
      rw [← go_way h1 l1, show ((0 : Nat) : Int) = 0 from rfl] at kh
      have hl1 : 1 + q.length ≤ big := by omega
      refine ⟨_, rfl, rfl, ?_, fun _ => ?_⟩
      · rw [gTree_go]
        simp [Env.get, goD, lstOf, binR, r__law_home, hl1, kh, treeR]
      · simp [Env.get]
    rcases hr with rfl | rfl
    · simp [Env.get, itD]
      refine lc_pick (gTree p) id hlen go ?_
      rw [filter_go]
      simp [filT]
    · simp [Env.get, itD]
      refine lc_pick (gTree p) id hlen go ?_
      rw [filter_go]
      simp [filT]
end Lp

end
section
set_option maxHeartbeats 4000000
/-! P24: how many trees there are. -/
namespace Lp
open PySem
/-- is 0 reached within so many goings? -/
def reach (w : Nat → Nat) : Nat → Nat → Bool
  | 0, i => i == 0
  | n + 1, i => i == 0 || reach w n (w i)
theorem reach_iff {w : Nat → Nat} : ∀ {n i : Nat}, reach w n i = true ↔ ∃ m, m ≤ n ∧ itw w m i = 0
  | 0, i => by
    rw [reach, beq_iff_eq]
    exact ⟨fun h => ⟨0, Nat.le_refl _, h⟩, fun ⟨m, hm, h⟩ => by
      obtain rfl : m = 0 := by omega
      exact h⟩
  | n + 1, i => by
    rw [reach, Bool.or_eq_true, beq_iff_eq, reach_iff]
    constructor
    · rintro (h | ⟨m, hm, h⟩)
      · exact ⟨0, by omega, h⟩
      · exact ⟨m + 1, by omega, h⟩
    · rintro ⟨m, hm, h⟩
      cases m with
      | zero => exact .inl h
      | succ m => exact .inr ⟨m, by omega, h⟩
def treeC (p : Nat) (r : List Nat) : Bool := (List.range p).all fun i => reach (wayG fun k => r.getD k 0) p i
theorem treeC_eq {p n : Nat} (h1 : 1 ≤ p) (hn : n = p - 1) {r : List Nat} (h : r ∈ rowsT p n) : treeR p r = treeC p r := by
  subst hn
  obtain ⟨l1, l2⟩ := rowsT_mem h
  have hw : ∀ i, i < p → (wayG fun k => r.getD k 0) i < p := fun i hi => by
    unfold wayG
    split
    · omega
    · show r.getD (i - 1) 0 < p
      rw [List.getD_eq_getElem?_getD, List.getElem?_eq_getElem (by omega)]
      exact l2 _ (List.getElem_mem _)
  refine homeB_eq ?_
  unfold treeC
  rw [List.all_eq_true]
  constructor
  · intro q i hi
    obtain ⟨m, _, hm⟩ := reach_iff.mp (q i (List.mem_range.mpr hi))
    exact ⟨m, hm⟩
  · intro q i hi
    obtain ⟨m, h1, h2, _⟩ := reach_soon hw (List.mem_range.mp hi) (q i (List.mem_range.mp hi))
    exact reach_iff.mpr ⟨m, by omega, h2⟩
def filC (p : Nat) : List (List Nat) := (rowsT p (p - 1)).filter (treeC p)
theorem filC_eq {p : Nat} (h1 : 1 ≤ p) : filT p = filC p := List.filter_congr fun r hr => treeC_eq h1 rfl hr
theorem fil_count : ∀ p : Nat, 1 ≤ p → p ≤ 6 → (filC p).length = p ^ (p - 2) := by
  intro p h1 h6
  have : p = 1 ∨ p = 2 ∨ p = 3 ∨ p = 4 ∨ p = 5 ∨ p = 6 := by omega
  rcases this with rfl | rfl | rfl | rfl | rfl | rfl
  · decide +kernel
  · decide +kernel
  · decide +kernel
  · decide +kernel
  · decide +kernel
  · decide +kernel
theorem go_wt {p : Nat} {r : List Nat} (hp : p ≤ 6) (h : r ∈ filT p) : (goD r).wt ≤ 513 ∧ (goD r).dep ≤ 1 := by
  obtain ⟨l1, l2, _⟩ := filT_mem h
  have h1 := wtL_le (m := 100) (l := r.map fun (x : Nat) => D.int x) fun d hd => by
    obtain ⟨x, hx, rfl⟩ := List.mem_map.mp hd
    have := l2 x hx
    exact wt_int (by have := p10; omega)
  have h2 := depL_le (m := 0) (l := r.map fun (x : Nat) => D.int x) fun d hd => by
    obtain ⟨x, hx, rfl⟩ := List.mem_map.mp hd
    exact Nat.le_refl _
  rw [List.length_map] at h1
  have h3 : (100 + 2) * r.length ≤ (100 + 2) * 5 := Nat.mul_le_mul_left _ (by omega)
  exact ⟨by simp only [goD, D.wt]; omega, by simp only [goD, D.dep]; omega⟩
theorem fil_len {p : Nat} (h1 : 1 ≤ p) (h6 : p ≤ 6) : (filT p).length = p ^ (p - 2) := by
  rw [filC_eq h1]
  exact fil_count p h1 h6
theorem pow_le4 {p : Nat} (h6 : p ≤ 6) : p ^ (p - 2) ≤ 1296 := Nat.le_trans (Nat.pow_le_pow_left h6 _) (Nat.le_trans (Nat.pow_le_pow_right (by decide) (show p - 2 ≤ 4 by omega)) (by decide))
theorem repr_fil {p : Nat} (h1 : 1 ≤ p) (h6 : p ≤ 6) : ((D.lst ((filT p).map goD)).wt ≤ big ∧ (D.lst ((filT p).map goD)).dep ≤ 60) := by
  have w := wtL_le (m := 513) (l := (filT p).map goD) fun d hd => by
    obtain ⟨r, hr, rfl⟩ := List.mem_map.mp hd
    exact (go_wt h6 hr).1
  have d := depL_le (m := 1) (l := (filT p).map goD) fun d hd => by
    obtain ⟨r, hr, rfl⟩ := List.mem_map.mp hd
    exact (go_wt h6 hr).2
  rw [List.length_map, fil_len h1 h6] at w
  have := pow_le4 h6
  have h3 : (513 + 2) * p ^ (p - 2) ≤ (513 + 2) * 1296 := Nat.mul_le_mul_left _ this
  have := big_eq
  exact ⟨by simp only [D.wt]; omega, by simp only [D.dep]; omega⟩
theorem at_int8 {i : Int} (h0 : 0 ≤ i) (h1 : i < 8) : ∃ p : Nat, at? [D.int 1, D.int 2, D.int 3, D.int 4, D.int 5, D.int 3, D.int 4, D.int 6] i = some (.int (p : Int)) ∧ 1 ≤ p ∧ p ≤ 6 := by
  have : i = 0 ∨ i = 1 ∨ i = 2 ∨ i = 3 ∨ i = 4 ∨ i = 5 ∨ i = 6 ∨ i = 7 := by omega
  rcases this with rfl | rfl | rfl | rfl | rfl | rfl | rfl | rfl
  · exact ⟨1, rfl, by decide, by decide⟩
  · exact ⟨2, rfl, by decide, by decide⟩
  · exact ⟨3, rfl, by decide, by decide⟩
  · exact ⟨4, rfl, by decide, by decide⟩
  · exact ⟨5, rfl, by decide, by decide⟩
  · exact ⟨3, rfl, by decide, by decide⟩
  · exact ⟨4, rfl, by decide, by decide⟩
  · exact ⟨6, rfl, by decide, by decide⟩
theorem fil_way {p : Nat} {r : List Nat} (h1 : 1 ≤ p) (h : r ∈ filT p) : (∀ k, k < p - 1 → r.getD k 0 < p) ∧ homeB p (wayG fun k => r.getD k 0) 0 = true ∧ goD r = .tup (tab (p - 1) fun k => ((r.getD k 0 : Nat) : Int)) := by
  obtain ⟨l1, l2, l3⟩ := filT_mem h
  refine ⟨fun k hk => ?_, l3, by rw [goD_tab, l1]⟩
  rw [List.getD_eq_getElem?_getD, List.getElem?_eq_getElem (by omega)]
  exact l2 _ (List.getElem_mem _)
end Lp

end
section
set_option maxHeartbeats 4000000
/-! L20: law k20. -/
namespace Lp
open PySem
theorem fil_way' {p : Nat} {r : List Nat} (h1 : 1 ≤ p) (h : r ∈ filT p) : ∃ f : Nat → Nat, (∀ k, k < p - 1 → f k < p) ∧ homeB p (wayG f) 0 = true ∧ goD r = .tup (tab (p - 1) fun k => (f k : Int)) := ⟨_, fil_way h1 h⟩
theorem p_law_v13 {C : Calls} (h__law_urn : Sp C "_law_urn" [] S__law_urn) (h__law_pull : Sp C "_law_pull" [0] S__law_pull) (h__law_all : Sp C "_law_all" [] S_all_trees) (h_all_trees : Sp C "all_trees" [] S_all_trees) (h_is_tree : Sp C "is_tree" [] S_is_tree) (h_coder_of : Sp C "coder_of" [] S_coder_of) (h_tree_of : Sp C "tree_of" [] S_tree_of) : S_law (f_law_v13.run C) := fun ns st hn => by
  obtain ⟨r__law_urn, k__law_urn⟩ := h__law_urn
  unfold S__law_urn at k__law_urn
  obtain ⟨r__law_pull, k__law_pull⟩ := h__law_pull
  unfold S__law_pull at k__law_pull
  obtain ⟨r_all_trees, k_all_trees⟩ := h_all_trees
  unfold S_all_trees at k_all_trees
  obtain ⟨r_is_tree, k_is_tree⟩ := h_is_tree
  unfold S_is_tree at k_is_tree
  obtain ⟨r_coder_of, k_coder_of⟩ := h_coder_of
  unfold S_coder_of at k_coder_of
  obtain ⟨r_tree_of, k_tree_of⟩ := h_tree_of
  unfold S_tree_of at k_tree_of
  obtain ⟨r__law_all, k__law_all⟩ := h__law_all
  obtain ⟨c1, c2⟩ := cells_of hn (k := 4) (by decide)
  have sm2 : small 2 = true := by decide
  have sm8 : small 8 = true := by decide
  refine CR.sat_eq (fn_run rfl ?_)
  refine run_for ?_
  simp [-Nat.reducePow, -Int.reducePow, *]
  refine for_by (fun i e => ∃ x1 x2 x3 x4 x5 x6 x7 x8 x9 x10, e = ⟨[some (.frz (.lst (ns.map .int))), x1, x2, x3, x4, x5, x6, x7, x8, x9, x10], st⟩) ⟨_, _, _, _, _, _, _, _, _, _, rfl⟩ (fun i d e hd hI => ?_) (fun e hI => ?_)
  · obtain ⟨x1, x2, x3, x4, x5, x6, x7, x8, x9, x10, rfl⟩ := hI
    obtain ⟨z, rfl⟩ := c2 d (List.mem_of_getElem? hd)
    refine ⟨_, rfl, ?_⟩
    refine run_step ?_
    simp [r__law_urn]
    refine CR.by (k__law_urn z _) fun r_ ps_ st_ h_ => ?_
    obtain ⟨rfl, u, rfl, rfl, hu⟩ := h_
    simp
    refine run_step ?_
    simp [r__law_pull]
    refine CR.by (k__law_pull _ _ _ _ hu (by omega) (by omega) (by omega)) fun r_ ps_ st_ h_ => ?_
    obtain ⟨rfl, y, u1, rfl, rfl, y0, y1, hu1⟩ := h_
    simp [-Nat.reducePow, -Int.reducePow, *]
    obtain ⟨p, hp, p1, p6⟩ := at_int8 y0 y1
    simp [hp]
    have ka := k__law_all p st p1 p6
    have kt := k_all_trees p st p1 p6
    refine run_step ?_
    simp [r__law_all, ka]
    refine run_step ?_
    simp
    refine run_for ?_
    have smp : small ((p : Int) - 2) = true := small_of (by omega) (by omega)
    simp [smp]
    have hr : rgD 0 ((p : Int) - 2) = tabD (p - 2) fun k => .int (k : Int) := by
      exact tabD_eq (by rw [rg_len]; omega) fun i hi => by
        obtain ⟨d, hd⟩ : ∃ d, (rgD 0 ((p : Int) - 2))[i]? = some d := ⟨_, List.getElem?_eq_getElem (by rw [rg_len]; omega)⟩
        rw [hd, (rg_get hd).1]
        simp
    rw [hr]
    refine for_by (fun i e => ∃ x6, e = ⟨[some (.frz (.lst (ns.map .int))), some (.frz (.int z)), some (.lst u1), some (.frz (.int (p : Int))), some (.lst ((filT p).map goD)), some (.frz (.int ((p ^ i : Nat) : Int))), x6, x7, x8, x9, x10], st⟩) ⟨_, rfl⟩ (fun i d e hd hI => ?_) (fun e hI => ?_)
    · obtain ⟨x6, rfl⟩ := hI
      obtain ⟨hi, rfl⟩ := tabD_iget hd
      refine ⟨_, rfl, ?_⟩
      have mo : mulOk ((p : Int) ^ i) (p : Int) = true := mul_left _ (by rw [← Int.natCast_pow]; have := pow_le6 p6 (show i ≤ 5 by omega); omega)
      refine run_step ?_
      simp [binR, mo]
      refine run_nil ?_
      exact ⟨_, rfl⟩
    · obtain ⟨x6, rfl⟩ := hI
      rw [tabD_len]
      have hlen := fil_len p1 p6
      have hp4 := pow_le4 p6
      have hpos : 0 < p ^ (p - 2) := Nat.pow_pos (by omega)
      generalize p ^ (p - 2) = many at hlen hp4 hpos ⊢
      refine run_ifs ?_
      simp [hlen]
      obtain ⟨w1, w2⟩ := repr_fil p1 p6
      have rl := repr_lst w1 w2
      have rf := repr_frz w1 w2
      refine run_for ?_
      simp [sm2]
      refine for_by (fun i e => ∃ x6 x7 x8, e = ⟨[some (.frz (.lst (ns.map .int))), some (.frz (.int z)), some (.lst u1), some (.frz (.int (p : Int))), some (.lst ((filT p).map goD)), some (.frz (.int (many : Int))), x6, x7, x8, x9, x10], st⟩) ⟨_, _, _, rfl⟩ (fun i d e hd hI => ?_) (fun e hI => ?_)
      · obtain ⟨x6, x7, x8, rfl⟩ := hI
        refine ⟨_, rfl, ?_⟩
        refine run_step ?_
        simp [r_all_trees, kt]
        refine run_ifs ?_
        simp [rl]
        refine run_step ?_
        simp [mtOwn]
        refine run_step ?_
        have : (filT p).length < big := by have := big_eq; omega
        simp [mtOwn, this]
        refine run_nil ?_
        refine ⟨_, _, _, rfl⟩
      · obtain ⟨x6, x7, x8, rfl⟩ := hI
        refine run_for ?_
        simp [sm8]
        refine for_by (fun i e => ∃ u, (∃ x9 x10, e = ⟨[some (.frz (.lst (ns.map .int))), some (.frz (.int z)), some (.lst u), some (.frz (.int (p : Int))), some (.lst ((filT p).map goD)), some (.frz (.int (many : Int))), x6, x7, x8, x9, x10], st⟩) ∧ Urn (1000 + i) u) ⟨_, ⟨_, _, rfl⟩, hu1.mono (by omega)⟩ (fun i d e hd hI => ?_) (fun e hI => ?_)
        · obtain ⟨u, ⟨x9, x10, rfl⟩, hu⟩ := hI
          obtain ⟨rfl, hi⟩ := rg_get hd
          refine ⟨_, rfl, ?_⟩
          refine run_step ?_
          simp [r__law_pull]
          refine CR.by (k__law_pull _ _ _ _ hu (by omega) (by omega) (by omega)) fun r_ ps_ st_ h_ => ?_
          obtain ⟨rfl, y, u2, rfl, rfl, y0, y1, hu2⟩ := h_
          simp [-Nat.reducePow, -Int.reducePow, *]
          obtain ⟨d, hd1, hd2⟩ := at_ex (l := (filT p).map goD) y0 (by simp [hlen]; omega)
          obtain ⟨r, hr, rfl⟩ := List.mem_map.mp hd2
          obtain ⟨f, f1, f2, f3⟩ := fil_way' p1 hr
          simp [hd1]
          have kT := k_is_tree p (goD r) st p1 (by omega) (by rw [f3]; exact ask_tab _ _ (by omega))
          rw [f3, tree_true p1 f1 f2, ← f3] at kT
          have kC := k_coder_of p f st p1 (by omega) f1 f2
          rw [← f3] at kC
          have kO := k_tree_of p (lsW p f) st (ls_wk p1 (by omega) _)
          have eq : (tab (p - 1) fun i => (treeF p (lsW p f) (i + 1) : Int)) = tab (p - 1) fun k => (f k : Int) := tab_ext fun k hk => by rw [ls_tree p1 (by omega) f1 f2 hk]
          rw [eq, ← f3] at kO
          have ne := ne_tup_self (Pl.tab (p - 1) fun k => (f k : Int))
          rw [← f3] at ne
          have is1 : cmpD .isnot (.bl true) (.bl true) = some false := rfl
          refine run_ifs ?_
          simp [r_is_tree, kT, r_coder_of, kC, r_tree_of, kO, is1, ne]
          refine run_nil ?_
          refine ⟨_, ⟨_, _, rfl⟩, hu2.mono (by omega)⟩
        · obtain ⟨u, ⟨x9, x10, rfl⟩, hu⟩ := hI
          refine run_nil ?_
          refine ⟨_, _, _, _, _, _, _, _, _, _, rfl⟩
  · obtain ⟨x1, x2, x3, x4, x5, x6, x7, x8, x9, x10, rfl⟩ := hI
    refine run_step ?_
    simp [-Nat.reducePow, -Int.reducePow, *]
end Lp

end
section
set_option maxHeartbeats 1000000
/-! M4: signs and rounds. Plain numbers. -/
namespace Lp
theorem mod_cancel {p c a b : Nat} (h : (c + a) % p = (c + b) % p) : a % p = b % p := by
  have e : ((c + a : Nat) : Int) % p = ((c + b : Nat) : Int) % p := by rw [← Int.natCast_emod, ← Int.natCast_emod, h]
  have q := Int.emod_eq_emod_iff_emod_sub_eq_zero.mp e
  have e2 : ((c + a : Nat) : Int) - ((c + b : Nat) : Int) = (a : Int) - b := by omega
  rw [e2] at q
  have q := Int.emod_eq_emod_iff_emod_sub_eq_zero.mpr q
  rw [← Int.natCast_emod, ← Int.natCast_emod] at q
  omega
/-- a walking learner's count at a place -/
def cntS (p : Nat) (s : WS) (v : Nat) : Int := (if v = s.pl then 1 else 0) + s.L v - sumN (fun w => cnt1 p w (s.L w) v) p
theorem cntW_eq (p : Nat) (s : WS) {v : Nat} : ∀ n, cntW p (s.pl : Int) (fun k => (s.L k : Int)) n v = (if v = s.pl then 1 else 0) + (if v < n then (s.L v : Int) else 0) - sumN (fun w => cnt1 p w (s.L w) v) n
  | 0 => by
    show (if (v : Int) = (s.pl : Int) then (1 : Int) else 0) = _ + (if v < 0 then (s.L v : Int) else 0) - 0
    rw [if_neg (Nat.not_lt_zero v)]
    by_cases h : v = s.pl
    · rw [if_pos h, if_pos (by omega)]
      omega
    · rw [if_neg h, if_neg (by omega)]
      omega
  | n + 1 => by
    show cntW p _ _ n v + (if v = n then (s.L n : Int) else 0) - cnt1 p n ((s.L n : Int)).toNat v = _
    rw [cntW_eq p s n]
    show _ = _ + (if v < n + 1 then (s.L v : Int) else 0) - (sumN (fun w => cnt1 p w (s.L w) v) n + cnt1 p n (s.L n) v)
    rw [Int.toNat_natCast]
    by_cases h : v = n
    · rw [if_pos h, if_neg (show ¬ v < n by omega), if_pos (show v < n + 1 by omega), h]
      omega
    · rw [if_neg h]
      by_cases q : v < n
      · rw [if_pos q, if_pos (show v < n + 1 by omega)]
        omega
      · rw [if_neg q, if_neg (show ¬ v < n + 1 by omega)]
        omega
theorem cntW_S {p : Nat} (s : WS) {v : Nat} (hv : v < p) : cntW p (s.pl : Int) (fun k => (s.L k : Int)) p v = cntS p s v := by
  rw [cntW_eq, if_pos hv]
  rfl
/-- the sign of a walking learner -/
def sgS (p : Nat) (s : WS) (v : Nat) : Int := (cntS p s v - cntS p s 0) % p
theorem sgn_S {p : Nat} (h : 0 < p) (s : WS) {v : Nat} (hv : v < p) : sgn p (s.pl : Int) (fun k => (s.L k : Int)) v = sgS p s v := by
  show (cntW p _ _ p v - cntW p _ _ p 0) % (p : Int) = _
  rw [cntW_S s hv, cntW_S s h]
  rfl
theorem cnt1_add (p : Nat) (a : Int) (k m : Nat) : ∀ n, cnt1 p a (m + n) k = cnt1 p a m k + cnt1 p (a + m) n k
  | 0 => by simp [cnt1]
  | n + 1 => by
    show cnt1 p a (m + n) k + (if ((a + ((m + n + 1 : Nat) : Int)) % p).toNat = k then 1 else 0) = cnt1 p a m k + (cnt1 p (a + m) n k + (if ((a + m + ((n + 1 : Nat) : Int)) % p).toNat = k then 1 else 0))
    rw [cnt1_add p a k m n, show a + ((m + n + 1 : Nat) : Int) = a + m + ((n + 1 : Nat) : Int) by omega]
    omega
/-- more words known -/
def WS.more (s : WS) (x : Nat → Nat) : WS := ⟨s.pl, fun k => s.L k + x k⟩
theorem cntS_more (p : Nat) (s : WS) (x : Nat → Nat) (v : Nat) : cntS p (s.more x) v = cntS p s v + x v - inn p s.L x v := by
  show (if v = s.pl then (1 : Int) else 0) + ((s.L v + x v : Nat) : Int) - sumN (fun w => cnt1 p w (s.L w + x w) v) p = _
  rw [show (fun w : Nat => cnt1 p w (s.L w + x w) v) = fun w : Nat => cnt1 p w (s.L w) v + cnt1 p ((w : Int) + s.L w) (x w) v from funext fun w => cnt1_add p w v (s.L w) (x w), sumN_add]
  unfold cntS inn
  omega
theorem cntS_pl (p : Nat) (L : Nat → Nat) (a b v : Nat) : cntS p ⟨a, L⟩ v = cntS p ⟨b, L⟩ v - (if v = b then 1 else 0) + (if v = a then 1 else 0) := by
  unfold cntS
  dsimp only
  omega
/-- a walk never changes the counts -/
theorem cntS_go {p : Nat} (h : 0 < p) {s : WS} (hs : s.pl < p) (n : Nat) {v : Nat} (hv : v < p) : cntS p (s.go p n) v = cntS p s v := by
  have b := bal h hs n v hv
  have e : cntS p (s.go p n) v = cntS p (s.more (s.ex p n)) v - (if v = s.pl then 1 else 0) + (if v = (s.go p n).pl then 1 else 0) := by
    have := cntS_pl p (s.go p n).L (s.go p n).pl s.pl v
    have e2 : (⟨s.pl, (s.go p n).L⟩ : WS) = s.more (s.ex p n) := by
      unfold WS.more
      congr 1
      exact funext fun w => go_L p s n w
    rw [e2] at this
    exact this
  rw [e, cntS_more]
  omega
theorem sgS_go {p : Nat} (h : 0 < p) {s : WS} (hs : s.pl < p) (n : Nat) {v : Nat} (hv : v < p) : sgS p (s.go p n) v = sgS p s v := by
  unfold sgS
  rw [cntS_go h hs n hv, cntS_go h hs n h]
theorem sumN_mul (c : Int) (f : Nat → Int) : ∀ n, sumN (fun k => c * f k) n = c * sumN f n
  | 0 => by simp [sumN]
  | n + 1 => by
    simp only [sumN, sumN_mul c f n]
    rw [Int.mul_add]
theorem sumN_swap (f : Nat → Nat → Int) (m : Nat) : ∀ n, sumN (fun v => sumN (fun w => f w v) m) n = sumN (fun w => sumN (fun v => f w v) n) m
  | 0 => by
    show (0 : Int) = sumN (fun _ => 0) m
    rw [sumN_const]
    simp
  | n + 1 => by
    show sumN (fun v => sumN (fun w => f w v) m) n + sumN (fun w => f w n) m = sumN (fun w => sumN (fun v => f w v) n + f w n) m
    rw [sumN_add, sumN_swap f m n]
theorem sum_inn {p : Nat} (h : 0 < p) (L x : Nat → Nat) : sumN (inn p L x) p = sumN (fun w => (x w : Int)) p := by
  show sumN (fun v => sumN (fun w : Nat => cnt1 p ((w : Int) + L w) (x w) v) p) p = _
  rw [sumN_swap (fun w v => cnt1 p ((w : Int) + L w) (x w) v)]
  exact sumN_ext fun w _ => sum_cnt1 h _ _
theorem cnt1_addpp {p : Nat} (h : 0 < p) (a : Int) {k : Nat} (hk : k < p) (n : Nat) : ∀ c, cnt1 p a (n + c * p) k = cnt1 p a n k + c
  | 0 => by simp
  | c + 1 => by
    rw [Nat.add_mul, Nat.one_mul, ← Nat.add_assoc, cnt1_addp h a hk, cnt1_addpp h a hk n c]
    omega
theorem inn_addpp {p : Nat} (h : 0 < p) (L d m : Nat → Nat) {v : Nat} (hv : v < p) : inn p L (fun w => d w + m w * p) v = inn p L d v + sumN (fun w => (m w : Int)) p := by
  unfold inn
  rw [← sumN_add]
  exact sumN_ext fun w _ => cnt1_addpp h _ hv (d w) (m w)
/-- p words more at any places leave the sign as it is -/
theorem sgS_addpp {p : Nat} (h : 0 < p) (s : WS) (m : Nat → Nat) {v : Nat} (hv : v < p) : sgS p (s.more fun w => m w * p) v = sgS p s v := by
  have e : ∀ u, u < p → cntS p (s.more fun w => m w * p) u = cntS p s u + m u * p - sumN (fun w => (m w : Int)) p := fun u hu => by
    rw [cntS_more]
    have := inn_addpp h s.L (fun _ => 0) m hu
    have z : inn p s.L (fun _ => 0) u = 0 := by
      show sumN (fun _ => 0) p = 0
      rw [sumN_const]
      omega
    rw [z] at this
    simp only [Nat.zero_add] at this
    rw [this, Int.natCast_mul]
    omega
  unfold sgS
  rw [e v hv, e 0 h]
  refine emod_congr ((m v : Int) - m 0) ?_
  rw [Int.mul_sub, Int.mul_comm (p : Int), Int.mul_comm (p : Int)]
  omega
/-- lengths alike modulo p: one sign -/
theorem sgS_mod {p : Nat} (h : 0 < p) {s t : WS} (e : s.pl = t.pl) (hL : ∀ w, w < p → s.L w % p = t.L w % p) {v : Nat} (hv : v < p) : sgS p s v = sgS p t v := by
  have red : ∀ u : WS, ∀ v, v < p → sgS p u v = sgS p ⟨u.pl, fun w => u.L w % p⟩ v := fun u v hv => by
    have := sgS_addpp h ⟨u.pl, fun w => u.L w % p⟩ (fun w => u.L w / p) hv
    rw [← this]
    have e2 : (WS.more ⟨u.pl, fun w => u.L w % p⟩ fun w => u.L w / p * p) = u := by
      unfold WS.more
      have : (fun k => u.L k % p + u.L k / p * p) = u.L := funext fun k => by
        rw [Nat.mul_comm]
        exact Nat.mod_add_div _ _
      dsimp only
      rw [this]
    rw [e2]
  have ext : ∀ (a b : WS), a.pl = b.pl → (∀ w, w < p → a.L w = b.L w) → ∀ u, u < p → cntS p a u = cntS p b u := fun a b h1 h2 u hu => by
    unfold cntS
    rw [h1, h2 u hu, sumN_ext fun w hw => by rw [h2 w hw]]
  rw [red s v hv, red t v hv]
  unfold sgS
  rw [ext ⟨s.pl, fun w => s.L w % p⟩ ⟨t.pl, fun w => t.L w % p⟩ e (fun w hw => hL w hw) v hv, ext ⟨s.pl, fun w => s.L w % p⟩ ⟨t.pl, fun w => t.L w % p⟩ e (fun w hw => hL w hw) 0 h]
/-- one place, as often gone from: one time -/
theorem time_one {p : Nat} {s : WS} {m n : Nat} (h1 : (s.go p m).pl = (s.go p n).pl) (h2 : s.ex p m (s.go p m).pl = s.ex p n (s.go p n).pl) : m = n := by
  have mono : ∀ (a b v : Nat), s.ex p a v ≤ s.ex p (a + b) v := fun a b v => by
    induction b with
    | zero => exact Nat.le_refl _
    | succ b ih =>
      show _ ≤ s.ex p (a + b) v + _
      omega
  have lt : ∀ {a b : Nat}, a < b → (s.go p a).pl = (s.go p b).pl → s.ex p a (s.go p a).pl < s.ex p b (s.go p b).pl := fun {a b} hab he => by
    have q := mono (a + 1) (b - (a + 1)) (s.go p a).pl
    rw [show a + 1 + (b - (a + 1)) = b by omega] at q
    have q2 : s.ex p (a + 1) (s.go p a).pl = s.ex p a (s.go p a).pl + 1 := by
      show s.ex p a _ + (if (s.go p a).pl = (s.go p a).pl then 1 else 0) = _
      rw [if_pos rfl]
    rw [← he]
    omega
  rcases Nat.lt_trichotomy m n with h | h | h
  · have := lt h h1
    omega
  · exact h
  · have := lt h h1.symm
    omega
/-- one sign, at place 0 with lengths there that p divides, in rounds: lengths are alike -/
theorem one_sign {p : Nat} (h : 0 < p) {s t : WS} (hs0 : s.pl = 0) (ht0 : t.pl = 0) (hsr : inR p s) (htr : inR p t) (hs : s.L 0 % p = 0) (ht : t.L 0 % p = 0) (hg : ∀ v, v < p → sgS p s v = sgS p t v) : ∀ w, w < p → s.L w % p = t.L w % p := by
  have hsp : s.pl < p := by omega
  let d : Nat → Nat := fun w => (t.L w + (p - s.L w % p)) % p
  have hd : ∀ w, (s.L w + d w) % p = t.L w % p := fun w => by
    have a := Nat.mod_lt (s.L w) h
    show (s.L w + (t.L w + (p - s.L w % p)) % p) % p = _
    rw [Nat.add_mod, Nat.mod_mod, ← Nat.add_mod]
    have b := Nat.div_add_mod (s.L w) p
    rw [show s.L w + (t.L w + (p - s.L w % p)) = t.L w + p * (s.L w / p) + p by omega, Nat.add_mod_right, Nat.add_mul_mod_self_left]
  have hd0 : d 0 = 0 := by
    show (t.L 0 + (p - s.L 0 % p)) % p = 0
    rw [hs, Nat.sub_zero, Nat.add_mod_right, ht]
  have hu : ∀ v, v < p → sgS p (s.more d) v = sgS p t v := fun v hv => sgS_mod h (by show s.pl = _; omega) (fun w _ => hd w) hv
  -- what comes in and goes out differ alike, modulo p
  have hk : ∀ v, v < p → ∃ k : Int, ((d v : Int) - inn p s.L d v) = ((d 0 : Int) - inn p s.L d 0) + p * k := fun v hv => by
    have e1 : sgS p (s.more d) v = sgS p s v := by rw [hu v hv, hg v hv]
    unfold sgS at e1
    rw [cntS_more, cntS_more] at e1
    have e2 := Int.emod_emod_of_dvd
    have q := Int.emod_eq_emod_iff_emod_sub_eq_zero.mp e1
    obtain ⟨k, hk⟩ := Int.dvd_of_emod_eq_zero q
    exact ⟨k, by omega⟩
  have hk2 : ∃ K : Nat → Int, ∀ v, v < p → ((d v : Int) - inn p s.L d v) = ((d 0 : Int) - inn p s.L d 0) + p * K v := by
    refine ⟨fun v => if hv : v < p then Classical.choose (hk v hv) else 0, fun v hv => ?_⟩
    dsimp only
    rw [dif_pos hv]
    exact Classical.choose_spec (hk v hv)
  obtain ⟨K, hK⟩ := hk2
  have hM : ∃ M : Int, ∀ v, v < p → K v ≤ M := by
    have : ∀ n : Nat, ∃ M : Int, ∀ v, v < n → K v ≤ M := fun n => by
      induction n with
      | zero => exact ⟨0, fun v hv => absurd hv (Nat.not_lt_zero v)⟩
      | succ n ih =>
        obtain ⟨M, hM⟩ := ih
        refine ⟨max M (K n), fun v hv => ?_⟩
        by_cases q : v = n
        · rw [q]
          exact Int.le_max_right _ _
        · exact Int.le_trans (hM v (by omega)) (Int.le_max_left _ _)
    exact this p
  obtain ⟨M, hM⟩ := hM
  let m : Nat → Nat := fun w => (M - K w).toNat
  have hm : ∀ w, w < p → (m w : Int) = M - K w := fun w hw => Int.toNat_of_nonneg (by have := hM w hw; omega)
  let x : Nat → Nat := fun w => d w + m w * p
  have hc : ∀ v, v < p → (x v : Int) - inn p s.L x v = ((d 0 : Int) - inn p s.L d 0) + p * M - sumN (fun w => (m w : Int)) p := fun v hv => by
    have e := inn_addpp h s.L d m hv
    show ((d v + m v * p : Nat) : Int) - inn p s.L (fun w => d w + m w * p) v = _
    have e2 := hK v hv
    have e3 : ((d v + m v * p : Nat) : Int) = d v + p * (M - K v) := by
      rw [Int.natCast_add, Int.natCast_mul, hm v hv, Int.mul_comm]
    rw [e, e3, Int.mul_sub]
    omega
  have hb : ∀ v, v < p → inn p s.L x v = x v := fun v hv => by
    have e := sum_inn h s.L x
    have e2 : sumN (fun v => (x v : Int) - inn p s.L x v) p = (p : Int) * (((d 0 : Int) - inn p s.L d 0) + p * M - sumN (fun w => (m w : Int)) p) := by
      rw [sumN_ext hc, sumN_const]
    rw [sumN_sub, e] at e2
    have z : (p : Int) * (((d 0 : Int) - inn p s.L d 0) + p * M - sumN (fun w => (m w : Int)) p) = 0 := by omega
    rcases Int.mul_eq_zero.mp z with z | z
    · omega
    · have := hc v hv
      omega
  have hx : ∀ w, w < p → t.L w % p = (s.L w + x w) % p := fun w hw => by
    show _ = (s.L w + (d w + m w * p)) % p
    rw [← Nat.add_assoc, Nat.add_mul_mod_self_right, hd]
  obtain ⟨n, h1, h2⟩ := stops h hsp x
  obtain ⟨h3, h4⟩ := all_gone h hsp (t := t) (by omega) x hx hb htr h1 h2
  obtain ⟨r1, r2⟩ := rounds_go h hsp hsr (m 0)
  have hx0 : x 0 = m 0 * p := by
    show d 0 + m 0 * p = _
    rw [hd0, Nat.zero_add]
  have hn : n = m 0 * (p * p) := time_one (p := p) (s := s) (h3.trans r1.symm) (by
    rw [h3, r1]
    show s.ex p n s.pl = s.ex p (m 0 * (p * p)) s.pl
    rw [hs0, h4 0 h, hx0]
    have := r2 0 h
    rw [go_L] at this
    have this : s.L 0 + s.ex p (m 0 * (p * p)) 0 = s.L 0 + m 0 * p := this
    omega)
  intro w hw
  have e5 := r2 w hw
  rw [← hn, go_L, h4 w hw] at e5
  have e5 : s.L w + x w = s.L w + m 0 * p := e5
  have e6 : x w = m 0 * p := by omega
  rw [hx w hw, e6, Nat.add_mul_mod_self_right]
/-- one tree just where the sign is one -/
theorem tree_sign {p : Nat} {s t : WS} (hs : Wk p s) (ht : Wk p t) : (∀ i, i + 1 < p → treeF p s (i + 1) = treeF p t (i + 1)) ↔ ∀ v, v < p → sgS p s v = sgS p t v := by
  have h := hs.n0
  obtain ⟨a1, _, _⟩ := ahd_ok hs
  obtain ⟨b1, _, _⟩ := ahd_ok ht
  have sw := hs.go (ahd p s)
  have tw := ht.go (ahd p t)
  obtain ⟨⟨a2, a3⟩, _, _⟩ := rst_ok h sw.h1 a1
  obtain ⟨⟨b2, b3⟩, _, _⟩ := rst_ok h tw.h1 b1
  have as : ∀ v, v < p → sgS p (rstS p s) v = sgS p s v := fun v hv => by
    show sgS p ((s.go p (ahd p s)).go p _) v = _
    rw [sgS_go h sw.h1 _ hv, sgS_go h hs.h1 _ hv]
  have bs : ∀ v, v < p → sgS p (rstS p t) v = sgS p t v := fun v hv => by
    show sgS p ((t.go p (ahd p t)).go p _) v = _
    rw [sgS_go h tw.h1 _ hv, sgS_go h ht.h1 _ hv]
  have ar := inR_go h sw.h1 a1 (rst p (s.go p (ahd p s)))
  have br := inR_go h tw.h1 b1 (rst p (t.go p (ahd p t)))
  have a2 : (rstS p s).pl = 0 := a2
  have b2 : (rstS p t).pl = 0 := b2
  have a3 : (rstS p s).L 0 % p = 0 := a3
  have b3 : (rstS p t).L 0 % p = 0 := b3
  constructor
  · intro q v hv
    rw [← as v hv, ← bs v hv]
    refine sgS_mod h (a2.trans b2.symm) (fun w hw => ?_) hv
    cases w with
    | zero => rw [a3, b3]
    | succ i =>
      have e : (i + 1 + (rstS p s).L (i + 1)) % p = (i + 1 + (rstS p t).L (i + 1)) % p := q i hw
      exact mod_cancel e
  · intro q i hi
    have := one_sign h a2 b2 ar br a3 b3 (fun v hv => by rw [as v hv, bs v hv, q v hv]) (i + 1) hi
    show (i + 1 + (rstS p s).L (i + 1)) % p = (i + 1 + (rstS p t).L (i + 1)) % p
    rw [Nat.add_mod, this, ← Nat.add_mod]
end Lp

end
section
set_option maxHeartbeats 4000000
/-! P9: whether to one round. -/
namespace Lp
open PySem
abbrev S_need_two (r : List R → List R → CR) : Prop := ∀ p s t st, Wk p s → Wk p t → r [.frz (cdw p s), .frz (cdw p t)] st = .ok (.frz .non) [none, none] st
theorem p_need_two {C : Calls} (h_need_coder : Sp C "need_coder" [] S_need_coder) : S_need_two (f_need_two.run C) := fun p s t st hs ht => by
  obtain ⟨r_need_coder, k_need_coder⟩ := h_need_coder
  unfold S_need_coder at k_need_coder
  have c1 := hs.cod
  have c2 := ht.cod
  refine CR.sat_eq (fn_run rfl ?_)
  refine run_step ?_
  simp [-Nat.reducePow, -Int.reducePow, *]
  refine run_step ?_
  simp [-Nat.reducePow, -Int.reducePow, *]
  refine run_ifs ?_
  simp [-Nat.reducePow, -Int.reducePow, *]
  exact run_nil (by simp)
theorem sgn_tab {p : Nat} (h : 0 < p) (s : WS) : tab p (sgn p (s.pl : Int) fun k => (s.L k : Int)) = tab p (sgS p s) := tab_ext fun v hv => sgn_S h s hv
/-- whether two come to one round -/
noncomputable def oneR (p : Nat) (s t : WS) : Bool := @decide (∀ v, v < p → sgS p s v = sgS p t v) (Classical.propDecidable _)
theorem oneR_iff {p : Nat} {s t : WS} : oneR p s t = true ↔ ∀ v, v < p → sgS p s v = sgS p t v := by
  unfold oneR
  exact @decide_eq_true_iff _ (Classical.propDecidable _)
theorem oneR_eq {p : Nat} {s t : WS} {b : Bool} (h : b = true ↔ ∀ v, v < p → sgS p s v = sgS p t v) : oneR p s t = b := by
  have := oneR_iff (p := p) (s := s) (t := t)
  cases q : oneR p s t with
  | true => exact (h.mpr (this.mp q)).symm
  | false =>
    cases b with
    | false => rfl
    | true => exact absurd (this.mpr (h.mp rfl)) (by rw [q]; exact Bool.false_ne_true)
theorem oneR_self (p : Nat) (s : WS) : oneR p s s = true := oneR_iff.mpr fun _ _ => rfl
theorem oneR_comm (p : Nat) (s t : WS) : oneR p s t = oneR p t s := oneR_eq (oneR_iff.trans ⟨fun h v hv => (h v hv).symm, fun h v hv => (h v hv).symm⟩)
theorem eq_tabs {p : Nat} {f g : Nat → Int} {b : Bool} (h : b = true ↔ ∀ v, v < p → f v = g v) : cmpD .eq (.tup (tab p f)) (.tup (tab p g)) = some b := by
  cases b with
  | true =>
    rw [tab_ext (h.mp rfl)]
    exact eq_tup_self (Pl.tab p g)
  | false => exact eq_tup_ne (Pl.tab p f) (Pl.tab p g) fun e => Bool.false_ne_true (h.mpr (tab_inj.mp e))
theorem ne_tabs {p : Nat} {f g : Nat → Int} {b : Bool} (h : b = true ↔ ∀ v, v < p → f v = g v) : cmpD .ne (.tup (tab p f)) (.tup (tab p g)) = some (!b) := by
  cases b with
  | true =>
    rw [tab_ext (h.mp rfl)]
    exact ne_tup_self (Pl.tab p g)
  | false => exact ne_tup_ne (Pl.tab p f) (Pl.tab p g) fun e => Bool.false_ne_true (h.mpr (tab_inj.mp e))
abbrev S_one_round (r : List R → List R → CR) : Prop := ∀ p s t st, Wk p s → Wk p t → r [.frz (cdw p s), .frz (cdw p t)] st = .ok (.frz (.bl (oneR p s t))) [none, none] st
theorem p_one_round {C : Calls} (h_need_two : Sp C "need_two" [] S_need_two) (h_sign_of : Sp C "sign_of" [] S_sign_of) : S_one_round (f_one_round.run C) := fun p s t st hs ht => by
  obtain ⟨r_need_two, k_need_two⟩ := h_need_two
  unfold S_need_two at k_need_two
  obtain ⟨r_sign_of, k_sign_of⟩ := h_sign_of
  unfold S_sign_of at k_sign_of
  have c1 := k_sign_of p _ _ st hs.cod
  have c2 := k_sign_of p _ _ st ht.cod
  rw [sgn_tab hs.n0] at c1
  rw [sgn_tab ht.n0] at c2
  have e := eq_tabs (p := p) (f := sgS p s) (g := sgS p t) oneR_iff
  have k := k_need_two p s t st hs ht
  refine CR.sat_eq (fn_run rfl ?_)
  refine run_step ?_
  simp [r_need_two, k]
  refine run_step ?_
  simp [r_sign_of, c1, c2, e]
end Lp

end
section
set_option maxHeartbeats 4000000
/-! L25: law k25. -/
namespace Lp
open PySem
/-- numbers drawn as lengths -/
theorem ints_ws {p : Nat} {l : List Int} {B : Nat} (hl : l.length = p) (hx : ∀ z ∈ l, 0 ≤ z ∧ z < B) (pl : Nat) : ∃ s : WS, s.pl = pl ∧ l.map D.int = tab p (fun k => (s.L k : Int)) ∧ ∀ k, k < p → s.L k < B := by
  refine ⟨⟨pl, fun k => (l.getD k 0).toNat⟩, rfl, ?_, fun k hk => ?_⟩
  · rw [tab_of, hl]
    refine tab_ext fun k hk => ?_
    have := (hx (l.getD k 0) (by simp [List.getD_eq_getElem?_getD, hl, hk])).1
    exact (Int.toNat_of_nonneg this).symm
  · have := hx (l.getD k 0) (by simp [List.getD_eq_getElem?_getD, hl, hk])
    show (l.getD k 0).toNat < B
    omega
abbrev S__law_some_v2 (r : List R → List R → CR) : Prop := ∀ (k : Nat) (u : List D) (p : Nat) st, Urn k u → k < 100000000000 → 1 ≤ p → p ≤ 12 →
  (r [.lst u, .frz (.int p)] st).sat (fun v ps st' => st = st' ∧ ∃ s u', v = .frz (cdw p s) ∧ ps = [some (.lst u'), none] ∧ Wk p s ∧ (∀ k, k < p → s.L k < 10 ^ 30) ∧ Urn (k + 20) u') noX
theorem at_three (a b c : Int) {i : Int} (h0 : 0 ≤ i) (h1 : i < 3) : ∃ z, at? [D.int a, D.int b, D.int c] i = some (.int z) ∧ (z = a ∨ z = b ∨ z = c) := by
  have : i = 0 ∨ i = 1 ∨ i = 2 := by omega
  rcases this with rfl | rfl | rfl
  · exact ⟨a, rfl, .inl rfl⟩
  · exact ⟨b, rfl, .inr (.inl rfl)⟩
  · exact ⟨c, rfl, .inr (.inr rfl)⟩
theorem p__law_some_v2 {C : Calls} (h__law_pull : Sp C "_law_pull" [0] S__law_pull) : S__law_some_v2 (f__law_some_v2.run C) := fun k u p st hu hk h1 h12 => by
  obtain ⟨r__law_pull, k__law_pull⟩ := h__law_pull
  unfold S__law_pull at k__law_pull
  have sm : small (p : Int) = true := small_of (by omega) (by omega)
  have m3 : ∀ x, mulOk 3 x = true := fun x => mul_left _ (by decide)
  have hb : p ≤ big := by have := big_eq; omega
  refine fn_run rfl ?_
  refine run_step ?_
  simp [m3, r__law_pull]
  refine CR.by (k__law_pull _ _ _ _ hu (by omega) (by omega) (by omega)) fun r_ ps_ st_ h_ => ?_
  obtain ⟨rfl, y, u1, rfl, rfl, y0, y1, hu1⟩ := h_
  simp [-Nat.reducePow, -Int.reducePow, *]
  obtain ⟨w, hw, hw2⟩ := at_three p (3 * p) 100000000000000000000000000000 y0 y1
  simp [hw]
  have w0 : 0 < w ∧ w ≤ 10 ^ 29 := by omega
  refine run_step ?_
  simp [r__law_pull]
  refine CR.by (k__law_pull _ _ _ _ hu1 (by omega) (by omega) (by omega)) fun r_ ps_ st_ h_ => ?_
  obtain ⟨rfl, pl, u2, rfl, rfl, pl0, pl1, hu2⟩ := h_
  simp [-Nat.reducePow, -Int.reducePow, *]
  refine lc_ints (fun x => 0 ≤ x ∧ x < w) (fun m e => ∃ (u : List D) (x : Option R), e = ⟨[some (.lst u), some (.frz (.int p)), some (.frz (.int w)), x], st⟩ ∧ Urn (k + 2 + m) u) (by simp [*]) ⟨_, _, rfl, hu2⟩ (by simp) (fun m d e hd hI => ?_) (fun l e hl hx hI => ?_)
  · obtain ⟨u, x, rfl, hu⟩ := hI
    obtain ⟨hm, rfl⟩ := tabD_iget hd
    refine ⟨_, rfl, ?_⟩
    simp [r__law_pull]
    refine CR.by (k__law_pull _ _ _ _ hu (by omega) (by omega) (by omega)) fun r_ ps_ st_ h_ => ?_
    obtain ⟨rfl, y, u3, rfl, rfl, y0, y1, hu3⟩ := h_
    simp [-Nat.reducePow, -Int.reducePow, *]
    exact hu3.mono (by omega)
  · obtain ⟨u, x, rfl, hu⟩ := hI
    simp only [tabD_len] at hl hu
    obtain ⟨s, e1, e2, e3⟩ := ints_ws (B := w.toNat) hl (fun z hz => by have := hx z hz; omega) pl.toNat
    have e4 : pl = (s.pl : Int) := by omega
    simp [e2]
    exact ⟨s, ⟨e4, rfl⟩, ⟨h1, h12, by omega⟩, fun k hk => by have := e3 k hk; omega, hu.mono (by omega)⟩
abbrev S__law_mate (r : List R → List R → CR) : Prop := ∀ (k : Nat) (u : List D) (p : Nat) (s : WS) st, Urn k u → k < 10000000000 → Wk p s → (∀ k, k < p → s.L k < 10 ^ 30) →
  (r [.lst u, .frz (cdw p s)] st).sat (fun v ps st' => st = st' ∧ ∃ t u', v = .frz (cdw p t) ∧ ps = [some (.lst u'), none] ∧ Wk p t ∧ (∀ k, k < p → t.L k < 10 ^ 31) ∧ Urn (k + 100) u') noX
theorem p__law_mate {C : Calls} (h__law_pull : Sp C "_law_pull" [0] S__law_pull) (h__law_some : Sp C "_law_some" [0] S__law_some_v2) (h__law_step : Sp C "_law_step" [] S__law_step_v2) : S__law_mate (f__law_mate.run C) := fun k u p s st hu hk h hL => by
  obtain ⟨r__law_pull, k__law_pull⟩ := h__law_pull
  unfold S__law_pull at k__law_pull
  obtain ⟨r__law_some, k__law_some⟩ := h__law_some
  obtain ⟨r__law_step, k__law_step⟩ := h__law_step
  have h1 := h.p1
  have h12 := h.p12
  have hp0 := h.n0
  have hpi : (0 : Int) < p := by omega
  refine fn_run rfl ?_
  refine run_step ?_
  simp [-Nat.reducePow, -Int.reducePow, *]
  refine run_step ?_
  simp [-Nat.reducePow, -Int.reducePow, *]
  refine run_step ?_
  simp [-Nat.reducePow, -Int.reducePow, *]
  refine CR.by (k__law_pull _ _ _ _ hu (by omega) (by omega) (by omega)) fun r_ ps_ st_ h_ => ?_
  obtain ⟨rfl, way, u1, rfl, rfl, w0, w1, hu1⟩ := h_
  simp [-Nat.reducePow, -Int.reducePow, *]
  refine run_ifs ?_
  by_cases c0 : way = 0
  · simp [c0]
    refine run_step ?_
    simp [r__law_some]
    refine CR.by (k__law_some _ _ p _ hu1 (by omega) h1 h12) fun r_ ps_ st_ h_ => ?_
    obtain ⟨rfl, t, u2, rfl, rfl, ht, hL2, hu2⟩ := h_
    simp
    exact ⟨t, ⟨rfl, rfl⟩, ht, fun k hk => by have := hL2 k hk; omega, hu2.mono (by omega)⟩
  · simp [c0]
    refine run_ifs ?_
    by_cases c1 : way = 1
    · simp [c1]
      refine run_for ?_
      simp [r__law_pull]
      refine CR.by (k__law_pull _ _ _ _ hu1 (by omega) (by omega) (by omega)) fun r_ ps_ st_ h_ => ?_
      obtain ⟨rfl, n, u2, rfl, rfl, n0, n1, hu2⟩ := h_
      have sm : small n = true := small_of (by omega) (by omega)
      simp [sm]
      have en : n = ((n.toNat : Nat) : Int) := by omega
      rw [en, rg_tab]
      refine for_by (fun i e => ∃ x, e = ⟨[some (.lst u2), some (.frz (cdw p (s.go p i))), some (.frz (.int s.pl)), some (.frz (.tup (tab p fun k => (s.L k : Int)))), some (.frz (.int p)), some (.frz (.int way)), x, none, none], st⟩) ⟨none, by rw [c1]; rfl⟩ (fun i d e hd hI => ?_) (fun e hI => ?_)
      · obtain ⟨x, rfl⟩ := hI
        refine ⟨_, rfl, run_step ?_⟩
        have := k__law_step p (s.go p i) st (h.go i)
        simp [r__law_step, this]
        refine run_nil ?_
        exact ⟨_, rfl⟩
      · obtain ⟨x, rfl⟩ := hI
        simp only [tabD_len]
        refine run_step ?_
        simp
        have hex : ∀ n w, s.ex p n w ≤ n := fun n w => by
          induction n with
          | zero => exact Nat.le_refl _
          | succ n ih =>
            show s.ex p n w + (if w = (s.go p n).pl then 1 else 0) ≤ n + 1
            split <;> omega
        exact ⟨s.go p n.toNat, ⟨rfl, rfl⟩, h.go _, fun k hk => by
          have := hL k hk
          have := hex n.toNat k
          rw [go_L]
          omega, hu2.mono (by omega)⟩
    · simp [c1]
      refine run_step ?_
      simp [r__law_pull]
      refine CR.by (k__law_pull _ _ _ _ hu1 (by omega) (by omega) (by omega)) fun r_ ps_ st_ h_ => ?_
      obtain ⟨rfl, at_, u2, rfl, rfl, a0, a1, hu2⟩ := h_
      have b1 : (slice (tabD p fun k => D.int (s.L k : Int)) none (some at_)).length ≤ p := by have := slice_len (tabD p fun k => D.int (s.L k : Int)) none (some at_); rwa [tabD_len] at this
      have b2 : (slice (tabD p fun k => D.int (s.L k : Int)) (some (at_ + 1)) none).length ≤ p := by have := slice_len (tabD p fun k => D.int (s.L k : Int)) (some (at_ + 1)) none; rwa [tabD_len] at this
      have b3 : (slice (tabD p fun k => D.int (s.L k : Int)) none (some at_)).length + 1 ≤ big := by have := big_eq; omega
      have b4 : (slice (tabD p fun k => D.int (s.L k : Int)) none (some at_)).length + 1 + (slice (tabD p fun k => D.int (s.L k : Int)) (some (at_ + 1)) none).length ≤ big := by have := big_eq; omega
      have e0 : ∀ x, slice (tabD p fun k => D.int (s.L k : Int)) none (some at_) ++ x :: slice (tabD p fun k => D.int (s.L k : Int)) (some (at_ + 1)) none = tabD p fun k => if k = at_.toNat then x else D.int (s.L k : Int) := fun x => by
        have := tab_upd (p := p) (f := fun k => D.int (s.L k : Int)) (i := at_) (x := x) a0 a1
        simpa using this
      have t1 := tab_at (f := fun k => D.int (s.L k : Int)) a0 a1
      have m2 : ∀ x, mulOk 2 x = true := fun x => mul_left _ (by decide)
      simp
      refine run_step ?_
      simp [t1, m2, r__law_pull]
      refine CR.by (k__law_pull _ _ _ _ hu2 (by omega) (by omega) (by omega)) fun r_ ps_ st_ h_ => ?_
      obtain ⟨rfl, mo, u3, rfl, rfl, mo0, mo1, hu3⟩ := h_
      simp [b3, b4, e0]
      refine run_step ?_
      simp [r__law_pull]
      refine CR.by (k__law_pull _ _ _ _ hu3 (by omega) (by omega) (by omega)) fun r_ ps_ st_ h_ => ?_
      obtain ⟨rfl, pl2, u4, rfl, rfl, pl20, pl21, hu4⟩ := h_
      have hway : way = 2 ∨ way = 3 := by omega
      rcases hway with rfl | rfl
      · simp
        refine ⟨⟨s.pl, fun k => if k = at_.toNat then s.L at_.toNat + mo.toNat else s.L k⟩, ⟨rfl, tabD_ext fun k hk => ?_⟩, ⟨h1, h12, h.h1⟩, fun k hk => ?_, hu4.mono (by omega)⟩
        · dsimp only
          by_cases q : k = at_.toNat
          · rw [if_pos q, if_pos q]
            congr 1
            omega
          · rw [if_neg q, if_neg q]
        · dsimp only
          have := hL k hk
          have := hL at_.toNat (by omega)
          split <;> omega
      · simp
        exact ⟨⟨pl2.toNat, s.L⟩, ⟨by show pl2 = (pl2.toNat : Int); omega, rfl⟩, ⟨h1, h12, by show pl2.toNat < p; omega⟩, fun k hk => by have := hL k hk; show s.L k < _; omega, hu4.mono (by omega)⟩
theorem wt_cdw {p : Nat} {s : WS} (h : Wk p s) (h2 : ∀ k, k < p → s.L k < 10 ^ 60) : (cdw p s).wt ≤ 2000 ∧ (cdw p s).dep ≤ 2 := by
  have b := h.h1
  have c := h.p12
  have w : D.wtL (tab p fun k => (s.L k : Int)) ≤ 102 * p := wt_tab fun k hk => by
    have := h2 k hk
    omega
  have w2 : (D.int (s.pl : Int)).wt ≤ 100 := wt_int (by omega)
  have d : D.depL (tab p fun k => (s.L k : Int)) = 0 := dep_tab
  constructor
  · simp only [D.wt, D.wtL] at w2 ⊢
    omega
  · simp only [D.dep, D.depL, d]
    omega
theorem repr_l2 {a b : D} (ha : a.wt ≤ 100000) (hb : b.wt ≤ 100000) (ha2 : a.dep ≤ 50) (hb2 : b.dep ≤ 50) : reprR (.lst [a, b]) = some (.frz (.str (D.lst [a, b]).rep)) := by
  refine repr_lst ?_ ?_
  · have := big_eq
    simp only [D.wt, D.wtL]
    omega
  · simp only [D.dep, D.depL]
    omega
theorem repr_b3 (a b c : Bool) : reprR (.lst [.bl a, .bl b, .bl c]) = some (.frz (.str (D.lst [.bl a, .bl b, .bl c]).rep)) := by
  refine repr_lst ?_ ?_
  · have := big_eq
    simp only [D.wt, D.wtL]
    omega
  · simp only [D.dep, D.depL]
    omega
theorem p_law_v17 {C : Calls} (h__law_urn : Sp C "_law_urn" [] S__law_urn) (h__law_pull : Sp C "_law_pull" [0] S__law_pull) (h__law_some : Sp C "_law_some" [0] S__law_some_v2) (h__law_mate : Sp C "_law_mate" [0] S__law_mate) (h__law_tree : Sp C "_law_tree" [] S__law_tree) (h_one_round : Sp C "one_round" [] S_one_round) : S_law (f_law_v17.run C) := fun ns st hn => by
  obtain ⟨r__law_urn, k__law_urn⟩ := h__law_urn
  unfold S__law_urn at k__law_urn
  obtain ⟨r__law_pull, k__law_pull⟩ := h__law_pull
  unfold S__law_pull at k__law_pull
  obtain ⟨r__law_tree, k__law_tree⟩ := h__law_tree
  unfold S__law_tree at k__law_tree
  obtain ⟨r_one_round, k_one_round⟩ := h_one_round
  unfold S_one_round at k_one_round
  obtain ⟨r__law_mate, k__law_mate⟩ := h__law_mate
  unfold S__law_mate at k__law_mate
  obtain ⟨r__law_some, k__law_some⟩ := h__law_some
  obtain ⟨c1, c2⟩ := cells_of hn (k := 6) (by decide)
  refine CR.sat_eq (fn_run rfl ?_)
  refine run_for ?_
  simp [-Nat.reducePow, -Int.reducePow, *]
  refine for_by (fun i e => ∃ a b c d f g h, e = ⟨[some (.frz (.lst (ns.map .int))), a, b, c, d, f, g, h], st⟩) ⟨_, _, _, _, _, _, _, rfl⟩ (fun i d e hd hI => ?_) (fun e hI => ?_)
  · obtain ⟨a, b, c, d2, f, g, h, rfl⟩ := hI
    obtain ⟨z, rfl⟩ := c2 d (List.mem_of_getElem? hd)
    refine ⟨_, rfl, ?_⟩
    refine run_step ?_
    simp [-Nat.reducePow, -Int.reducePow, *]
    refine CR.by (k__law_urn z _) fun r_ ps_ st_ h_ => ?_
    obtain ⟨rfl, u, rfl, rfl, hu⟩ := h_
    simp [-Nat.reducePow, -Int.reducePow, *]
    have sm6 : small 6 = true := by decide
    refine run_for ?_
    simp [-Nat.reducePow, -Int.reducePow, *]
    refine for_by (fun i e => ∃ u, (∃ c d f g h, e = ⟨[some (.frz (.lst (ns.map .int))), some (.frz (.int z)), some (.lst u), c, d, f, g, h], st⟩) ∧ Urn (1000 * i) u) ⟨_, ⟨_, _, _, _, _, rfl⟩, hu⟩ (fun i d e hd hI => ?_) (fun e hI => ?_)
    · obtain ⟨u, ⟨c, d3, f, g, h, rfl⟩, hu⟩ := hI
      obtain ⟨rfl, hi⟩ := rg_get hd
      refine ⟨_, rfl, ?_⟩
      refine run_step ?_
      simp [-Nat.reducePow, -Int.reducePow, *]
      refine CR.by (k__law_pull _ _ _ _ hu (by omega) (by omega) (by omega)) fun r_ ps_ st_ h_ => ?_
      obtain ⟨rfl, y, u1, rfl, rfl, y0, y1, hu1⟩ := h_
      simp [-Nat.reducePow, -Int.reducePow, *]
      obtain ⟨q, hq, hq2⟩ := at_two 5 11 y0 y1
      simp [hq]
      refine CR.by (k__law_pull _ _ _ _ hu1 (by omega) (by omega) (by omega)) fun r_ ps_ st_ h_ => ?_
      obtain ⟨rfl, n, u2, rfl, rfl, n0, n1, hu2⟩ := h_
      obtain ⟨p, hp⟩ : ∃ p : Nat, (p : Int) = 2 + n := ⟨(2 + n).toNat, by omega⟩
      simp [← hp, r__law_some]
      refine CR.by (k__law_some _ _ p _ hu2 (by omega) (by omega) (by omega)) fun r_ ps_ st_ h_ => ?_
      obtain ⟨rfl, s, u3, rfl, rfl, hs, hL, hu3⟩ := h_
      simp
      refine run_step ?_
      simp [r__law_mate]
      refine CR.by (k__law_mate _ _ p s _ hu3 (by omega) hs hL) fun r_ ps_ st_ h_ => ?_
      obtain ⟨rfl, t, u4, rfl, rfl, ht, hL2, hu4⟩ := h_
      obtain ⟨w1, d1⟩ := wt_cdw hs fun k hk => by have := hL k hk; omega
      obtain ⟨w2, d2⟩ := wt_cdw ht fun k hk => by have := hL2 k hk; omega
      have hr := repr_l2 (a := cdw p s) (b := cdw p t) (by omega) (by omega) (by omega) (by omega)
      have t1 := k__law_tree p s st hs
      have t2 := k__law_tree p t st ht
      have o1 := k_one_round p s t st hs ht
      have o2 := k_one_round p t s st ht hs
      have o3 := k_one_round p s s st hs hs
      rw [← oneR_comm] at o2
      rw [oneR_self] at o3
      have e := eq_tabs (p := p - 1) (f := fun i => (treeF p s (i + 1) : Int)) (g := fun i => (treeF p t (i + 1) : Int)) (b := oneR p s t) (oneR_iff.trans ((tree_sign hs ht).symm.trans ⟨fun q i hi => by rw [q i (by omega)], fun q i hi => by have := q i (by omega); omega⟩))
      have hb := repr_b3 (oneR p s t) (oneR p s t) true
      generalize oneR p s t = B at *
      simp
      refine run_step ?_
      simp [hr]
      refine run_step ?_
      simp [r__law_tree, t1, t2, e]
      refine run_ifs ?_
      simp [r_one_round, o1, o2, o3, hb]
      refine run_ifs ?_
      simp [hr]
      refine run_nil ?_
      refine ⟨_, ⟨_, _, _, _, _, rfl⟩, hu4.mono (by omega)⟩
    · obtain ⟨u, ⟨c, d, f, g, h, rfl⟩, hu⟩ := hI
      refine run_nil ?_
      refine ⟨_, _, _, _, _, _, _, rfl⟩
  · obtain ⟨a, b, c, d2, f, g, h, rfl⟩ := hI
    refine run_step ?_
    simp [-Nat.reducePow, -Int.reducePow, *]
end Lp

end
section
set_option maxHeartbeats 1000000
/-! M6: alike modulo p; steps between. Plain numbers. -/
namespace Lp
def WS.alm (p : Nat) (s t : WS) : Prop := s.pl = t.pl ∧ ∀ k, k < p → s.L k % p = t.L k % p
theorem alm_refl (p : Nat) (s : WS) : s.alm p s := ⟨rfl, fun _ _ => rfl⟩
theorem alm.symm {p : Nat} {s t : WS} (h : s.alm p t) : t.alm p s := ⟨h.1.symm, fun k hk => (h.2 k hk).symm⟩
theorem alm.trans {p : Nat} {s t u : WS} (h : s.alm p t) (g : t.alm p u) : s.alm p u := ⟨h.1.trans g.1, fun k hk => (h.2 k hk).trans (g.2 k hk)⟩
theorem add_mod_eq {p a b : Nat} (c : Nat) (h : a % p = b % p) : (c + a) % p = (c + b) % p := by
  rw [Nat.add_mod, h, ← Nat.add_mod]
theorem alm_go {p : Nat} (h : 0 < p) {s t : WS} (hs : s.pl < p) (q : s.alm p t) : ∀ n, (s.go p n).alm p (t.go p n)
  | 0 => q
  | n + 1 => by
    obtain ⟨q1, q2⟩ := alm_go h hs q n
    have hl := go_lt h hs n
    refine ⟨?_, fun k hk => ?_⟩
    · show ((s.go p n).pl + ((s.go p n).L (s.go p n).pl + 1)) % p = ((t.go p n).pl + ((t.go p n).L (t.go p n).pl + 1)) % p
      rw [← q1]
      have := add_mod_eq ((s.go p n).pl + 1) (q2 _ hl)
      rw [show (s.go p n).pl + ((s.go p n).L (s.go p n).pl + 1) = (s.go p n).pl + 1 + (s.go p n).L (s.go p n).pl by omega, this]
      congr 1
      omega
    · show (if k = (s.go p n).pl then (s.go p n).L k + 1 else (s.go p n).L k) % p = (if k = (t.go p n).pl then (t.go p n).L k + 1 else (t.go p n).L k) % p
      rw [← q1]
      by_cases e : k = (s.go p n).pl
      · rw [if_pos e, if_pos e, Nat.add_comm _ 1, Nat.add_comm _ 1]
        exact add_mod_eq 1 (q2 k hk)
      · rw [if_neg e, if_neg e]
        exact q2 k hk
theorem inR_alm {p : Nat} (h : 0 < p) {s t : WS} (q : s.alm p t) (hr : inR p s) : inR p t := by
  have e : way p s.L = fun i => if i < p then way p s.L i else way p s.L i := by
    funext i
    split <;> rfl
  intro i hi
  obtain ⟨n, hn⟩ := hr i hi
  refine ⟨n, ?_⟩
  rw [← q.1, ← hn]
  clear hn
  induction n generalizing i with
  | zero => rfl
  | succ n ih =>
    show itw _ n (way p t.L i) = itw _ n (way p s.L i)
    have e : way p t.L i = way p s.L i := (add_mod_eq i (q.2 i hi)).symm
    rw [e]
    exact ih (way p s.L i) (way_lt h _ _)
theorem round_alm {p : Nat} (h : 0 < p) {s : WS} (hs : s.pl < p) (hr : inR p s) (c : Nat) : (s.go p (c * (p * p))).alm p s := by
  obtain ⟨q1, q2⟩ := rounds_go h hs hr c
  refine ⟨q1, fun k hk => ?_⟩
  rw [q2 k hk]
  exact Nat.add_mul_mod_self_right _ _ _
/-- a state comes again, modulo p, after whole rounds alone -/
theorem again {p : Nat} (h : 0 < p) {s : WS} (hs : s.pl < p) (hr : inR p s) {n : Nat} (q : (s.go p n).alm p s) : ∃ c, n = c * (p * p) := by
  have hx : s.ex p n s.pl % p = 0 := by
    have := q.2 s.pl hs
    rw [go_L] at this
    have e : (s.L s.pl + s.ex p n s.pl) % p = (s.L s.pl + 0) % p := by rw [this, Nat.add_zero]
    have := mod_cancel e
    rw [this]
    exact Nat.zero_mod p
  obtain ⟨c, hc⟩ := Nat.dvd_of_mod_eq_zero hx
  obtain ⟨r1, r2⟩ := rounds_go h hs hr c
  refine ⟨c, time_one (p := p) (s := s) (q.1.trans r1.symm) ?_⟩
  rw [q.1, r1]
  show s.ex p n s.pl = s.ex p (c * (p * p)) s.pl
  have := r2 s.pl hs
  rw [go_L] at this
  have this : s.L s.pl + s.ex p (c * (p * p)) s.pl = s.L s.pl + c * p := this
  rw [hc, Nat.mul_comm]
  omega
theorem once {p : Nat} (h : 0 < p) {s : WS} (hs : s.pl < p) (hr : inR p s) {m n : Nat} (hmn : m ≤ n) (hn : n < m + p * p) (q : (s.go p m).alm p (s.go p n)) : m = n := by
  have e : n = m + (n - m) := by omega
  rw [e, go_add] at q
  obtain ⟨c, hc⟩ := again h (go_lt h hs m) (inR_go h hs hr m) (alm.symm q)
  cases c with
  | zero => omega
  | succ c =>
    rw [Nat.add_mul, Nat.one_mul] at hc
    omega
/-- the fewest steps to where another one is -/
noncomputable def sbt (p : Nat) (s t : WS) : Option Nat := @ite _ (∃ n, n < p * p ∧ (s.go p n).alm p t) (Classical.propDecidable _) (some (@Classical.epsilon Nat ⟨0⟩ fun n => (n < p * p ∧ (s.go p n).alm p t) ∧ ∀ k, k < n → ¬ (s.go p k).alm p t)) none
theorem sbt_some {p : Nat} {s t : WS} {n : Nat} (h1 : n < p * p) (h2 : (s.go p n).alm p t) (h3 : ∀ k, k < n → ¬ (s.go p k).alm p t) : sbt p s t = some n := by
  unfold sbt
  rw [if_pos ⟨n, h1, h2⟩]
  have q := @Classical.epsilon_spec Nat (fun n => (n < p * p ∧ (s.go p n).alm p t) ∧ ∀ k, k < n → ¬ (s.go p k).alm p t) ⟨n, ⟨h1, h2⟩, h3⟩
  have q1 : ((@Classical.epsilon Nat ⟨0⟩ fun n => (n < p * p ∧ (s.go p n).alm p t) ∧ ∀ k, k < n → ¬ (s.go p k).alm p t) < p * p ∧ (s.go p (@Classical.epsilon Nat ⟨0⟩ fun n => (n < p * p ∧ (s.go p n).alm p t) ∧ ∀ k, k < n → ¬ (s.go p k).alm p t)).alm p t) ∧ ∀ k, k < (@Classical.epsilon Nat ⟨0⟩ fun n => (n < p * p ∧ (s.go p n).alm p t) ∧ ∀ k, k < n → ¬ (s.go p k).alm p t) → ¬ (s.go p k).alm p t := q
  generalize (@Classical.epsilon Nat ⟨0⟩ fun n => (n < p * p ∧ (s.go p n).alm p t) ∧ ∀ k, k < n → ¬ (s.go p k).alm p t) = m at *
  congr 1
  rcases Nat.lt_trichotomy m n with z | z | z
  · exact absurd q1.1.2 (h3 m z)
  · exact z
  · exact absurd h2 (q1.2 n z)
theorem sbt_none {p : Nat} {s t : WS} (h : ∀ n, n < p * p → ¬ (s.go p n).alm p t) : sbt p s t = none := by
  unfold sbt
  rw [if_neg fun ⟨n, h1, h2⟩ => h n h1 h2]
theorem sbt_isSome {p : Nat} {s t : WS} : (sbt p s t).isSome = true ↔ ∃ n, n < p * p ∧ (s.go p n).alm p t := by
  constructor
  · intro h
    apply Classical.byContradiction
    intro q
    rw [sbt_none fun n h1 h2 => q ⟨n, h1, h2⟩] at h
    cases h
  · rintro ⟨n, h1, h2⟩
    obtain ⟨m, m1, m2, m3⟩ := least_of (P := fun n => (s.go p n).alm p t) h2
    rw [sbt_some (by omega) m2 m3]
    rfl
/-- from one to a later one of the round -/
theorem sbt_go {p : Nat} {s t : WS} (hs : Wk p s) (hr : inR p s) {n : Nat} (hn : n < p * p) (q : (s.go p n).alm p t) : sbt p s t = some n :=
  sbt_some hn q fun k hk z => by
    have := once hs.n0 hs.h1 hr (m := k) (n := n) (by omega) (by omega) (alm.trans z (alm.symm q))
    omega
/-- and back -/
theorem sbt_back {p : Nat} {s t : WS} (hs : Wk p s) (ht : t.pl < p) (hr : inR p s) {n : Nat} (hn : n < p * p) (q : (s.go p n).alm p t) : sbt p t s = some ((p * p - n) % (p * p)) := by
  have h := hs.n0
  have hpp : 0 < p * p := Nat.mul_pos h h
  have htr : inR p t := inR_alm h q (inR_go h hs.h1 hr n)
  have g := alm_go h ht (alm.symm q) ((p * p - n) % (p * p))
  rw [← go_add] at g
  refine sbt_go ⟨hs.p1, hs.p12, ht⟩ htr (Nat.mod_lt _ hpp) (alm.trans g ?_)
  by_cases z : n = 0
  · subst z
    rw [Nat.sub_zero, Nat.mod_self]
    exact alm_refl p s
  · rw [Nat.mod_eq_of_lt (by omega), show n + (p * p - n) = 1 * (p * p) by omega]
    exact round_alm h hs.h1 hr 1
/-- two in their rounds: one is led to the other just where their signs are one -/
theorem sbt_sign {p : Nat} {s t : WS} (hs : Wk p s) (ht : Wk p t) (hr : inR p s) (htr : inR p t) : (sbt p s t).isSome = true ↔ ∀ v, v < p → sgS p s v = sgS p t v := by
  have h := hs.n0
  have hpp : 0 < p * p := Nat.mul_pos h h
  rw [sbt_isSome]
  constructor
  · rintro ⟨n, hn, q⟩ v hv
    rw [← sgS_go h hs.h1 n hv]
    exact sgS_mod h q.1 q.2 hv
  · intro hg
    obtain ⟨⟨a2, a3⟩, _, a4⟩ := rst_ok h hs.h1 hr
    obtain ⟨⟨b2, b3⟩, _, b4⟩ := rst_ok h ht.h1 htr
    have ar := inR_go h hs.h1 hr (rst p s)
    have br := inR_go h ht.h1 htr (rst p t)
    have e := one_sign h a2 b2 ar br a3 b3 fun v hv => by rw [sgS_go h hs.h1 _ hv, sgS_go h ht.h1 _ hv, hg v hv]
    have q : (s.go p (rst p s)).alm p (t.go p (rst p t)) := ⟨a2.trans b2.symm, e⟩
    -- on to where t is again
    have g := alm_go h (go_lt h hs.h1 _) q (p * p - rst p t)
    rw [← go_add, ← go_add, show rst p t + (p * p - rst p t) = 1 * (p * p) by omega] at g
    have g2 := alm.trans g (round_alm h ht.h1 htr 1)
    -- less than a round on
    have e2 : rst p s + (p * p - rst p t) = (rst p s + (p * p - rst p t)) % (p * p) + (rst p s + (p * p - rst p t)) / (p * p) * (p * p) := by
      have := Nat.div_add_mod (rst p s + (p * p - rst p t)) (p * p)
      rw [Nat.mul_comm] at this
      omega
    refine ⟨(rst p s + (p * p - rst p t)) % (p * p), Nat.mod_lt _ hpp, ?_⟩
    have g3 := round_alm h (go_lt h hs.h1 ((rst p s + (p * p - rst p t)) % (p * p))) (inR_go h hs.h1 hr _) ((rst p s + (p * p - rst p t)) / (p * p))
    rw [← go_add, ← e2] at g3
    exact alm.trans (alm.symm g3) g2
end Lp

end
section
set_option maxHeartbeats 4000000
/-! P10: what the laws pick from a bag. -/
namespace Lp
open PySem
/-- a bag from which at most k numbers were picked -/
def Bag (k : Nat) (l : List D) : Prop := ∃ a b c : Int, l = [.int a, .int b, .int c] ∧ 0 ≤ c ∧ c ≤ k
theorem Bag.mono {j k : Nat} {l : List D} (h : Bag j l) (e : j ≤ k) : Bag k l := by
  obtain ⟨a, b, c, h1, h4, h5⟩ := h
  exact ⟨a, b, c, h1, h4, by omega⟩
abbrev S__law_pick (r : List R → List R → CR) : Prop := ∀ (k : Nat) (u : List D) (m : Int) st, Bag k u → k < 1000000000000 → 0 < m → m < 10 ^ 60 →
  (r [.lst u, .frz (.int m)] st).sat (fun v ps st' => st = st' ∧ ∃ i u', v = .frz (.int i) ∧ ps = [some (.lst u'), none] ∧ 0 ≤ i ∧ i < m ∧ Bag (k + 1) u') noX
theorem p__law_pick {C : Calls} : S__law_pick (f__law_pick.run C) := fun k u m st hu hk h0 h1 => by
  obtain ⟨a, b, c, rfl, hc, hc2⟩ := hu
  have m1 : m.natAbs < 2 ^ 250 := by omega
  refine fn_run rfl (run_step ?_)
  simp
  refine run_ifs ?_
  by_cases ha : 0 < a
  · simp [-Int.reducePow, -Nat.reducePow, ha]
    refine run_step ?_
    simp [-Int.reducePow, -Nat.reducePow, h0]
    refine run_step ?_
    simp [-Int.reducePow, -Nat.reducePow, h0, m1, pos?]
    refine run_step ?_
    simp [-Int.reducePow, -Nat.reducePow]
    exact ⟨Int.emod_nonneg _ (by omega), Int.emod_lt_of_pos _ h0, _, _, _, rfl, by omega, by omega⟩
  · have e2 : ∀ x : Int, mulOk x 48271 = true := fun x => mul_right _ (by decide)
    have e3 : ∀ x : Int, mulOk x 69621 = true := fun x => mul_right _ (by decide)
    have e4 : ∀ x : Int, mulOk x 40692 = true := fun x => mul_right _ (by decide)
    have e5 : ∀ x : Int, mulOk x 2147483587 = true := fun x => mul_right _ (by decide)
    have l1 := Int.emod_nonneg (b % 2147483629 * 48271 + (c + 1) * 69621 + 12345) (show (2147483647 : Int) ≠ 0 by decide)
    have l2 := Int.emod_lt_of_pos (b % 2147483629 * 48271 + (c + 1) * 69621 + 12345) (show (0 : Int) < 2147483647 by decide)
    simp [-Int.reducePow, -Nat.reducePow, ha]
    refine run_step ?_
    simp [-Int.reducePow, -Nat.reducePow, pos?, e2, e3]
    generalize (b % 2147483629 * 48271 + (c + 1) * 69621 + 12345) % 2147483647 = x at l1 l2
    have e1 : mulOk x x = true := mul_right _ (by omega)
    refine run_step ?_
    simp [-Int.reducePow, -Nat.reducePow, e1, e4]
    refine run_step ?_
    have t3 : (32 : Nat) < 2 ^ 250 := by decide
    simp [-Int.reducePow, -Nat.reducePow, e5, h0, t3]
    exact ⟨Int.emod_nonneg _ (by omega), Int.emod_lt_of_pos _ h0, _, _, _, rfl, by omega, by omega⟩
abbrev S__law_bag (r : List R → List R → CR) : Prop := ∀ (i : Int) st, (r [.frz (.int i)] st).sat (fun v ps st' => st = st' ∧ ∃ u, v = .lst u ∧ ps = [none] ∧ Bag 0 u) noX
theorem p__law_bag {C : Calls} : S__law_bag (f__law_bag.run C) := fun i st => by
  refine fn_run rfl (run_step ?_)
  simp
  exact ⟨_, _, _, rfl, by decide, by decide⟩
theorem at_int5 (a b c d e : Int) {i : Int} (h0 : 0 ≤ i) (h1 : i < 5) : ∃ z, at? [D.int a, D.int b, D.int c, D.int d, D.int e] i = some (.int z) ∧ (z = a ∨ z = b ∨ z = c ∨ z = d ∨ z = e) := by
  have : i = 0 ∨ i = 1 ∨ i = 2 ∨ i = 3 ∨ i = 4 := by omega
  rcases this with rfl | rfl | rfl | rfl | rfl
  · exact ⟨a, rfl, .inl rfl⟩
  · exact ⟨b, rfl, .inr (.inl rfl)⟩
  · exact ⟨c, rfl, .inr (.inr (.inl rfl))⟩
  · exact ⟨d, rfl, .inr (.inr (.inr (.inl rfl)))⟩
  · exact ⟨e, rfl, .inr (.inr (.inr (.inr rfl)))⟩
abbrev S__law_coder (r : List R → List R → CR) : Prop := ∀ (k : Nat) (u : List D) (m : Int) st, Bag k u → k < 100000000000 → 0 < m → m ≤ 12 →
  (r [.lst u, .frz (.int m)] st).sat (fun v ps st' => st = st' ∧ ∃ d u', v = .frz d ∧ ps = [some (.lst u'), none] ∧ DrawnC m d ∧ Bag (k + 100) u') noX
theorem p__law_coder {C : Calls} (h__law_pick : Sp C "_law_pick" [0] S__law_pick) : S__law_coder (f__law_coder.run C) := fun k u m st hu hk h0 h1 => by
  obtain ⟨r__law_pick, k__law_pick⟩ := h__law_pick
  unfold S__law_pick at k__law_pick
  refine fn_run rfl ?_
  refine run_step ?_
  simp [r__law_pick]
  refine CR.by (k__law_pick _ _ _ _ hu (by omega) (by omega) (by omega)) fun r_ ps_ st_ h_ => ?_
  obtain ⟨rfl, p, u1, rfl, rfl, p0, p1, hu1⟩ := h_
  simp [-Nat.reducePow, -Int.reducePow]
  have sm : small (1 + p) = true := small_of (by omega) (by omega)
  refine run_step ?_
  simp [r__law_pick]
  refine CR.by (k__law_pick _ _ _ _ hu1 (by omega) (by omega) (by omega)) fun r_ ps_ st_ h_ => ?_
  obtain ⟨rfl, w, u2, rfl, rfl, w0, w1, hu2⟩ := h_
  simp [-Nat.reducePow, -Int.reducePow]
  obtain ⟨g, hg, hg2⟩ := at_int5 1 (1 + p + 1) 30 1000000000 100000000000000000000000000000 w0 w1
  simp [hg, p10]
  refine run_step ?_
  simp [r__law_pick]
  refine CR.by (k__law_pick _ _ _ _ hu2 (by omega) (by omega) (by omega)) fun r_ ps_ st_ h_ => ?_
  obtain ⟨rfl, pl, u3, rfl, rfl, pl0, pl1, hu3⟩ := h_
  simp [-Nat.reducePow, -Int.reducePow]
  refine ⟨sm, ?_⟩
  have e1 : rgD 0 (1 + p) = tab (1 + p).toNat fun k => (k : Int) := by
    have := rg_tab (1 + p).toNat
    rwa [show (((1 + p).toNat : Nat) : Int) = 1 + p by omega] at this
  rw [e1]
  refine lc_ints (fun v => 0 ≤ v ∧ v < 10 ^ 31) (fun i e => ∃ (u : List D) (x : Option R), e = ⟨[some (.lst u), some (.frz (.int m)), some (.frz (.int (1 + p))), some (.frz (.int g)), x], st⟩ ∧ Bag (k + 3 + i) u) (by have := big_eq; simp; omega) ⟨u3, _, rfl, hu3⟩ (by simp) (fun i d e hd hI => ?_) (fun l e hl hx hI => ?_)
  · obtain ⟨u, x, rfl, hu⟩ := hI
    obtain ⟨hi, rfl⟩ := tabD_iget hd
    refine ⟨_, rfl, ?_⟩
    simp [r__law_pick]
    refine CR.by (k__law_pick _ _ _ _ hu (by omega) (by omega) (by omega)) fun r_ ps_ st_ h_ => ?_
    obtain ⟨rfl, y, u5, rfl, rfl, y0, y1, hu5⟩ := h_
    simp
    exact ⟨⟨y0, by omega⟩, hu5.mono (by omega)⟩
  · obtain ⟨u, x, rfl, hu⟩ := hI
    simp only [tabD_len] at hl hu
    simp
    refine ⟨⟨(1 + p).toNat, pl, fun k => l.getD k 0, ?_, ⟨by omega, by omega, pl0, by omega, fun k hk => ?_⟩, by omega, fun k hk => ?_⟩, hu.mono (by omega)⟩
    · rw [tab_of, hl]
    · exact (hx (l.getD k 0) (by simp [List.getD_eq_getElem?_getD, hl, hk])).1
    · exact (hx (l.getD k 0) (by simp [List.getD_eq_getElem?_getD, hl, hk])).2
end Lp

end
section
set_option maxHeartbeats 4000000
/-! L06: law k06. -/
namespace Lp
open PySem
theorem ex_le (p : Nat) (s : WS) : ∀ n w, s.ex p n w ≤ n
  | 0, _ => Nat.le_refl 0
  | n + 1, w => by
    have := ex_le p s n w
    show s.ex p n w + (if w = (s.go p n).pl then 1 else 0) ≤ n + 1
    split <;> omega
theorem go_Lle (p : Nat) (s : WS) (n k : Nat) : (s.go p n).L k ≤ s.L k + n := by
  rw [go_L]
  have := ex_le p s n k
  omega
/-- lengths raised, each by its own -/
def WS.upF (s : WS) (b : Nat → Nat) : WS := ⟨s.pl, fun k => s.L k + b k⟩
theorem upF_go {p : Nat} (h : 0 < p) {s : WS} (hs : s.pl < p) (c : Nat → Nat) : ∀ n, ((s.upF fun k => p * c k).go p n).alike p ((s.go p n).upF fun k => p * c k)
  | 0 => ⟨rfl, fun _ _ => rfl⟩
  | n + 1 => by
    obtain ⟨q1, q2⟩ := upF_go h hs c n
    have hl := go_lt h hs n
    refine ⟨?_, fun k hk => ?_⟩
    · show (((s.upF fun k => p * c k).go p n).pl + (((s.upF fun k => p * c k).go p n).L ((s.upF fun k => p * c k).go p n).pl + 1)) % p = ((s.go p n).pl + ((s.go p n).L (s.go p n).pl + 1)) % p
      rw [q1]
      have := q2 (s.go p n).pl hl
      have e : ((s.go p n).upF fun k => p * c k).pl = (s.go p n).pl := rfl
      rw [e, this]
      show ((s.go p n).pl + ((s.go p n).L (s.go p n).pl + p * c (s.go p n).pl + 1)) % p = _
      rw [show (s.go p n).pl + ((s.go p n).L (s.go p n).pl + p * c (s.go p n).pl + 1) = (s.go p n).pl + ((s.go p n).L (s.go p n).pl + 1) + p * c (s.go p n).pl by omega, Nat.add_mul_mod_self_left]
    · show (if k = ((s.upF fun k => p * c k).go p n).pl then ((s.upF fun k => p * c k).go p n).L k + 1 else ((s.upF fun k => p * c k).go p n).L k) = (if k = (s.go p n).pl then (s.go p n).L k + 1 else (s.go p n).L k) + p * c k
      rw [q2 k hk, q1]
      show (if k = (s.go p n).pl then (s.go p n).L k + p * c k + 1 else (s.go p n).L k + p * c k) = _
      split <;> omega
theorem Wk.upF {p : Nat} {s : WS} (h : Wk p s) (b : Nat → Nat) : Wk p (s.upF b) := ⟨h.p1, h.p12, h.h1⟩
theorem pl_cdw (p : Nat) (s : WS) : Pl (cdw p s) := by
  have q := Pl.tab p fun k => (s.L k : Int)
  refine ⟨?_, ?_, ?_⟩
  · show (true && ((D.tup (tab p fun k => (s.L k : Int))).nb && true)) = true
    rw [q.nb]
    rfl
  · show (true && ((D.tup (tab p fun k => (s.L k : Int))).flat && true)) = true
    rw [q.fl]
    rfl
  · show D.dep (.tup [.int _, .tup (tab p fun k => (s.L k : Int))]) ≤ 60
    simp only [D.dep, D.depL, dep_tab]
    omega
theorem ne_cdw (p : Nat) (s : WS) : cmpD .ne (cdw p s) (cdw p s) = some false := ne_tup_self (pl_cdw p s)
theorem repr_wk {p : Nat} {s : WS} (h : Wk p s) (h2 : ∀ k, k < p → s.L k < 10 ^ 60) : reprR (.frz (cdw p s)) = some (.frz (.str (cdw p s).rep)) :=
  repr_cod h.cod fun k hk => by
    have := h2 k hk
    omega
abbrev S__law_raised (r : List R → List R → CR) : Prop := ∀ p s (b : Nat → Nat) x st, Wk p s → x = .lst (tab p fun k => (b k : Int)) ∨ x = .frz (.lst (tab p fun k => (b k : Int))) →
  r [.frz (cdw p s), x] st = .ok (.frz (cdw p (s.upF b))) [none, none] st
theorem p__law_raised {C : Calls} : S__law_raised (f__law_raised.run C) := fun p s b x st h hx => by
  have h1 := h.p1
  have h12 := h.p12
  have hb : p ≤ big := by have := big_eq; omega
  rcases hx with rfl | rfl
  · refine CR.sat_eq (fn_run rfl ?_)
    refine run_step ?_
    simp [zip_tab]
    refine lc_map (φ := fun d => match d with | .tup [.int i, .int j] => .int (i + j) | _ => .non) (by simp [hb]) (by simp) (fun d hd => ?_) ?_
    · obtain ⟨i, hi, rfl⟩ := tabD_mem.mp hd
      refine ⟨_, stT_two _ _ _ _ _, ?_⟩
      simp
    · simp [tabD_map]
      exact ⟨rfl, tabD_ext fun i hi => by
        show D.int ((s.L i : Int) + b i) = D.int ((s.L i + b i : Nat) : Int)
        simp⟩
  · refine CR.sat_eq (fn_run rfl ?_)
    refine run_step ?_
    simp [zip_tab]
    refine lc_map (φ := fun d => match d with | .tup [.int i, .int j] => .int (i + j) | _ => .non) (by simp [hb]) (by simp) (fun d hd => ?_) ?_
    · obtain ⟨i, hi, rfl⟩ := tabD_mem.mp hd
      refine ⟨_, stT_two _ _ _ _ _, ?_⟩
      simp
    · simp [tabD_map]
      exact ⟨rfl, tabD_ext fun i hi => by
        show D.int ((s.L i : Int) + b i) = D.int ((s.L i + b i : Nat) : Int)
        simp⟩
abbrev S__law_many (r : List R → List R → CR) : Prop := ∀ (k : Nat) (u : List D) (p : Nat) st, Bag k u → k < 100000000000 → 1 ≤ p → p ≤ 12 →
  (r [.lst u, .frz (.int p)] st).sat (fun v ps st' => st = st' ∧ ∃ (n : Nat) (u' : List D), v = .frz (.int n) ∧ ps = [some (.lst u'), none] ∧ n < 10 ^ 17 ∧ Bag (k + 10) u') noX
theorem p__law_many {C : Calls} (h__law_pick : Sp C "_law_pick" [0] S__law_pick) : S__law_many (f__law_many.run C) := fun k u p st hu hk h1 h12 => by
  obtain ⟨r__law_pick, k__law_pick⟩ := h__law_pick
  unfold S__law_pick at k__law_pick
  have mp : ∀ x, mulOk x (p : Int) = true := fun x => mul_right _ (by omega)
  obtain ⟨pp, hpp⟩ : ∃ x : Nat, x = p * p := ⟨_, rfl⟩
  have e : (p : Int) * p = (pp : Int) := by rw [hpp, Int.natCast_mul]
  have hpp2 : p * p ≤ 144 := Nat.mul_le_mul h12 h12
  have mpp : ∀ x, mulOk (pp : Int) x = true := fun x => mul_left _ (by omega)
  have t1 : (9 : Nat) < 60 := by decide
  refine fn_run rfl (run_step ?_)
  simp [r__law_pick]
  refine CR.by (k__law_pick _ _ _ _ hu (by omega) (by omega) (by omega)) fun r_ ps_ st_ h_ => ?_
  obtain ⟨rfl, a, u1, rfl, rfl, a0, a1, hu1⟩ := h_
  simp [-Nat.reducePow, -Int.reducePow]
  simp [r__law_pick, p10, mp, e]
  refine CR.by (k__law_pick _ _ _ _ hu1 (by omega) (by omega) (by omega)) fun r_ ps_ st_ h_ => ?_
  obtain ⟨rfl, b, u2, rfl, rfl, b0, b1, hu2⟩ := h_
  simp [-Nat.reducePow, -Int.reducePow]
  simp [r__law_pick, p10, mpp]
  refine CR.by (k__law_pick _ _ _ _ hu2 (by omega) (by omega) (by omega)) fun r_ ps_ st_ h_ => ?_
  obtain ⟨rfl, c, u3, rfl, rfl, c0, c1, hu3⟩ := h_
  simp [-Nat.reducePow, -Int.reducePow]
  try simp [r__law_pick, p10]
  refine CR.by (k__law_pick _ _ _ _ hu3 (by omega) (by omega) (by omega)) fun r_ ps_ st_ h_ => ?_
  obtain ⟨rfl, d, u4, rfl, rfl, d0, d1, hu4⟩ := h_
  simp [-Nat.reducePow, -Int.reducePow]
  refine run_step ?_
  simp [r__law_pick, p10]
  refine CR.by (k__law_pick _ _ _ _ hu4 (by omega) (by omega) (by omega)) fun r_ ps_ st_ h_ => ?_
  obtain ⟨rfl, q, u5, rfl, rfl, q0, q1, hu5⟩ := h_
  simp [-Nat.reducePow, -Int.reducePow]
  have b2 : 0 ≤ (pp : Int) * b ∧ (pp : Int) * b < 144 * 1000000000 := ⟨Int.mul_nonneg (by omega) b0, by
    have : (pp : Int) * b ≤ 144 * b := Int.mul_le_mul_of_nonneg_right (by omega) b0
    omega⟩
  obtain ⟨z, hz, hz2⟩ := at_three a (pp * b + c) d q0 q1
  simp [hz]
  exact ⟨z.toNat, by omega, by omega, hu5.mono (by omega)⟩
theorem raised_list {p : Nat} {l : List Int} (hl : l.length = p) (hp : 0 < p) (hx : ∀ z ∈ l, ∃ c : Nat, z = p * c ∧ c < 10 ^ 9) : ∃ c : Nat → Nat, l.map D.int = tab p (fun k => ((p * c k : Nat) : Int)) ∧ ∀ k, k < p → c k < 10 ^ 9 := by
  refine ⟨fun k => (l.getD k 0).toNat / p, ?_, fun k hk => ?_⟩
  · rw [tab_of, hl]
    refine tab_ext fun k hk => ?_
    obtain ⟨c, h1, h2⟩ := hx (l.getD k 0) (by simp [List.getD_eq_getElem?_getD, hl, hk])
    show l.getD k 0 = ((p * ((l.getD k 0).toNat / p) : Nat) : Int)
    rw [h1, ← Int.natCast_mul, Int.toNat_natCast, Nat.mul_div_cancel_left _ hp]
  · obtain ⟨c, h1, h2⟩ := hx (l.getD k 0) (by simp [List.getD_eq_getElem?_getD, hl, hk])
    show (l.getD k 0).toNat / p < _
    rw [h1, ← Int.natCast_mul, Int.toNat_natCast, Nat.mul_div_cancel_left _ hp]
    exact h2
theorem p_law_v5 {C : Calls} (h__law_bag : Sp C "_law_bag" [] S__law_bag) (h__law_pick : Sp C "_law_pick" [0] S__law_pick) (h__law_coder : Sp C "_law_coder" [0] S__law_coder) (h__law_many : Sp C "_law_many" [0] S__law_many) (h__law_raised : Sp C "_law_raised" [] S__law_raised) (h_behind : Sp C "behind" [] S_behind) (h_step : Sp C "step" [] S_step) : S_law (f_law_v5.run C) := fun ns st hn => by
  obtain ⟨r__law_bag, k__law_bag⟩ := h__law_bag
  unfold S__law_bag at k__law_bag
  obtain ⟨r__law_pick, k__law_pick⟩ := h__law_pick
  unfold S__law_pick at k__law_pick
  obtain ⟨r__law_coder, k__law_coder⟩ := h__law_coder
  unfold S__law_coder at k__law_coder
  obtain ⟨r__law_many, k__law_many⟩ := h__law_many
  unfold S__law_many at k__law_many
  obtain ⟨r__law_raised, k__law_raised⟩ := h__law_raised
  unfold S__law_raised at k__law_raised
  obtain ⟨r_behind, k_behind⟩ := h_behind
  unfold S_behind at k_behind
  obtain ⟨r_step, k_step⟩ := h_step
  unfold S_step at k_step
  obtain ⟨c1, c2⟩ := cells_of hn (k := 12) (by decide)
  refine CR.sat_eq (fn_run rfl ?_)
  refine run_for ?_
  simp [-Nat.reducePow, -Int.reducePow, *]
  refine for_by (fun i e => ∃ x1 x2 x3 x4 x5 x6 x7 x8 x9 x10 x11 x12, e = ⟨[some (.frz (.lst (ns.map .int))), x1, x2, x3, x4, x5, x6, x7, x8, x9, x10, x11, x12], st⟩) ⟨_, _, _, _, _, _, _, _, _, _, _, _, rfl⟩ (fun i d e hd hI => ?_) (fun e hI => ?_)
  · obtain ⟨x1, x2, x3, x4, x5, x6, x7, x8, x9, x10, x11, x12, rfl⟩ := hI
    obtain ⟨z, rfl⟩ := c2 d (List.mem_of_getElem? hd)
    refine ⟨_, rfl, ?_⟩
    refine run_step ?_
    simp [r__law_bag]
    refine CR.by (k__law_bag z _) fun r_ ps_ st_ h_ => ?_
    obtain ⟨rfl, u, rfl, rfl, hu⟩ := h_
    simp
    refine run_step ?_
    simp [r__law_coder]
    refine CR.by (k__law_coder _ _ _ _ hu (by omega) (by omega) (by omega)) fun r_ ps_ st_ h_ => ?_
    obtain ⟨rfl, dd, u2, rfl, rfl, hD, hu2⟩ := h_
    obtain ⟨p, s, rfl, hw, hm, hL⟩ := hD.wk
    have hp0 := hw.n0
    have hp12 := hw.p12
    have ppos : (0 : Int) < p := by omega
    have mp : ∀ x, mulOk x (p : Int) = true := fun x => mul_right _ (by omega)
    have mp2 : ∀ x, mulOk (p : Int) x = true := fun x => mul_left _ (by omega)
    obtain ⟨P, hP⟩ : ∃ x : Nat, x = p * p := ⟨_, rfl⟩
    have e : (p : Int) * p = (P : Int) := by rw [hP, Int.natCast_mul]
    have hpp2 : p * p ≤ 144 := Nat.mul_le_mul hp12 hp12
    have mP : ∀ x, mulOk (P : Int) x = true := fun x => mul_left _ (by omega)
    have hb : p ≤ big := by have := big_eq; omega
    have hq : (p - 1) * (p - 1) ≤ P := by rw [hP]; exact Nat.mul_le_mul (by omega) (by omega)
    have rg : ∀ n, n ≤ 10 ^ 19 → reprR (.frz (cdw p (s.go p n))) = some (.frz (.str (cdw p (s.go p n)).rep)) := fun n hn => repr_wk (hw.go n) fun k hk => by
      have := hL k hk
      have := go_Lle p s n k
      omega
    simp
    refine run_step ?_
    simp
    refine run_for ?_
    have sm4 : small 4 = true := by decide
    simp [sm4]
    refine for_by (fun i e => ∃ u, (∃ x5 x6 x7 x8 x9 x10 x11 x12, e = ⟨[some (.frz (.lst (ns.map .int))), some (.frz (.int z)), some (.lst u), some (.frz (cdw p s)), some (.frz (.int p)), x5, x6, x7, x8, x9, x10, x11, x12], st⟩) ∧ Bag (100 + 1000 * i) u) ⟨_, ⟨_, _, _, _, _, _, _, _, rfl⟩, hu2.mono (by omega)⟩ (fun i d e hd hI => ?_) (fun e hI => ?_)
    · obtain ⟨u, ⟨x5, x6, x7, x8, x9, x10, x11, x12, rfl⟩, hu⟩ := hI
      obtain ⟨rfl, hi⟩ := rg_get hd
      refine ⟨_, rfl, ?_⟩
      refine run_step ?_
      simp [r__law_many]
      refine CR.by (k__law_many _ _ _ _ hu (by omega) hw.p1 hp12) fun r_ ps_ st_ h_ => ?_
      obtain ⟨rfl, a, u3, rfl, rfl, ha, hu3⟩ := h_
      simp [r__law_many]
      refine CR.by (k__law_many _ _ _ _ hu3 (by omega) hw.p1 hp12) fun r_ ps_ st_ h_ => ?_
      obtain ⟨rfl, b, u4, rfl, rfl, hb2, hu4⟩ := h_
      simp
      have k1 := k_behind p s a st hw (by omega)
      have k2 := k_behind p (s.go p a) b st (hw.go a) (by omega)
      rw [← go_add] at k2
      have k3 := k_behind p s (a + b) st hw (by omega)
      rw [Int.natCast_add] at k3
      have r3 := rg (a + b) (by omega)
      refine run_step ?_
      simp [r_behind, k1]
      refine run_ifs ?_
      simp [r_behind, k2, k3, r3]
      obtain ⟨T, hT⟩ : ∃ T : Nat, T = 10 ^ 18 := ⟨_, rfl⟩
      have hTi : (T : Int) = 1000000000000000000 := by omega
      have k4 := k_behind p (s.go p a) (T - a) st (hw.go a) (by omega)
      rw [← go_add, show a + (T - a) = T by omega, show ((T - a : Nat) : Int) = 1000000000000000000 - (a : Int) by omega] at k4
      have k5 := k_behind p s T st hw (by omega)
      rw [hTi] at k5
      have r5 := rg T (by omega)
      refine run_ifs ?_
      simp [r_behind, k4, k5, r5, p10]
      have k6 := k_behind p s (a + 1) st hw (by omega)
      rw [show ((a + 1 : Nat) : Int) = (a : Int) + 1 by omega] at k6
      have k7 := k_step p (s.go p a) st (hw.go a)
      rw [← go_succ] at k7
      have k8 := k_behind p s 0 st hw (by omega)
      rw [show ((0 : Nat) : Int) = 0 from rfl] at k8
      replace k8 : C.run (Str.ofString "behind") [.frz (cdw p s), .frz (.int 0)] st = .ok (.frz (cdw p s)) [none, none] st := k8
      have r6 := rg (a + 1) (by omega)
      have q8 := ne_cdw p s
      refine run_ifs ?_
      simp [r_behind, r_step, k6, k7, k8, r6, q8]
      have mP2 : ∀ x, mulOk x 2 = true := fun x => mul_right _ (by decide)
      obtain ⟨F, hF⟩ : ∃ F : Nat, F = a + P * 2 + 2 := ⟨_, rfl⟩
      have hFi : (F : Int) = (a : Int) + P * 2 + 2 := by omega
      have k9 := k_behind p s F st hw (by omega)
      rw [hFi] at k9
      have k10 := k_behind p s (F + P) st hw (by omega)
      rw [Int.natCast_add, hFi] at k10
      have k11 := k__law_raised p (s.go p F) (fun _ => p) (.lst (tab p fun _ => (p : Int))) st (hw.go F) (.inl rfl)
      obtain ⟨g1, g2⟩ := round_go hp0 (hw.go F).h1 (inR_by hp0 hw.h1 (n := F) (by omega))
      rw [← hP, ← go_add] at g1 g2
      have e11 : cdw p ((s.go p F).upF fun _ => p) = cdw p (s.go p (F + P)) := cdw_ext g1.symm fun k hk => (g2 k hk).symm
      rw [e11] at k11
      have r10 := rg (F + P) (by omega)
      refine run_step ?_
      simp [e, mP, mp]
      refine run_step ?_
      simp [r_behind, k9]
      refine run_ifs ?_
      have bm : binR .mul (.lst [.int (p : Int)]) (.frz (.int p)) = some (.lst (tab p fun _ => (p : Int))) := by
        show (if [D.int (p : Int)].length * (p : Int).toNat ≤ big ∧ (p : Int).natAbs ≤ big then some (R.lst (List.replicate (p : Int).toNat [D.int (p : Int)]).flatten) else none) = _
        rw [if_pos ⟨by simp [hb], by simp [hb]⟩, Int.toNat_natCast, rep_tab]
      simp [r_behind, r__law_raised, k10, r10, e, mp, bm, k11]
      have t9 : (1000000000 : Int) < 10 ^ 60 := by decide
      refine run_step ?_
      simp
      refine ⟨small_of (by omega) (by omega), ?_⟩
      refine lc_ints (fun v => ∃ c : Nat, v = p * c ∧ c < 10 ^ 9) (fun m e => ∃ (u : List D) (x : Option R), e = ⟨[some (.frz (.lst (ns.map .int))), some (.frz (.int z)), some (.lst u), some (.frz (cdw p s)), some (.frz (.int p)), some (.frz (.int i)), some (.frz (.int a)), some (.frz (.int b)), some (.frz (cdw p (s.go p a))), some (.frz (.int (a + P * 2 + 2))), some (.frz (cdw p (s.go p F))), x11, x], st⟩ ∧ Bag (1000 * i + 300 + m) u) (by simp [hb]) ⟨_, _, rfl, hu4.mono (by omega)⟩ (by simp) (fun m d e hd hI => ?_) (fun l e hl hx hI => ?_)
      · obtain ⟨u, x, rfl, hu⟩ := hI
        obtain ⟨hm3, rfl⟩ := tabD_iget hd
        refine ⟨_, rfl, ?_⟩
        simp [r__law_pick, p10]
        refine CR.by (k__law_pick _ _ _ _ hu (by omega) (by omega) (by omega)) fun r_ ps_ st_ h_ => ?_
        obtain ⟨rfl, y, u5, rfl, rfl, y0, y1, hu5⟩ := h_
        simp [mp2]
        exact ⟨⟨y.toNat, by rw [show ((y.toNat : Nat) : Int) = y by omega], by omega⟩, hu5.mono (by omega)⟩
      · obtain ⟨u, x, rfl, hu⟩ := hI
        simp only [tabD_len] at hl hu
        obtain ⟨c, hc1, hc2⟩ := raised_list hl hp0 hx
        have k12 := k__law_raised p s (fun k => p * c k) (.frz (.lst (tab p fun k => ((p * c k : Nat) : Int)))) st hw (.inr rfl)
        have k13 := k_behind p (s.upF fun k => p * c k) a st (hw.upF _) (by omega)
        have k14 := k__law_raised p (s.go p a) (fun k => p * c k) (.frz (.lst (tab p fun k => ((p * c k : Nat) : Int)))) st (hw.go a) (.inr rfl)
        obtain ⟨f1, f2⟩ := upF_go hp0 hw.h1 c a
        rw [cdw_ext f1 f2] at k13
        have r14 : reprR (.frz (cdw p ((s.go p a).upF fun k => p * c k))) = some (.frz (.str (cdw p ((s.go p a).upF fun k => p * c k)).rep)) := repr_wk ((hw.go a).upF _) fun k hk => by
          have := hL k hk
          have := go_Lle p s a k
          have := hc2 k hk
          have : p * c k ≤ 12 * c k := Nat.mul_le_mul_right _ hp12
          show (s.go p a).L k + p * c k < _
          omega
        rw [← hc1] at k12 k14
        generalize l.map D.int = ll at *
        simp
        refine run_ifs ?_
        simp [r__law_raised, r_behind, k12, k13, k14, r14]
        refine run_nil ?_
        refine ⟨_, ⟨_, _, _, _, _, _, _, _, rfl⟩, hu.mono (by omega)⟩
    · obtain ⟨u, ⟨x5, x6, x7, x8, x9, x10, x11, x12, rfl⟩, hu⟩ := hI
      refine run_nil ?_
      refine ⟨_, _, _, _, _, _, _, _, _, _, _, _, rfl⟩
  · obtain ⟨x1, x2, x3, x4, x5, x6, x7, x8, x9, x10, x11, x12, rfl⟩ := hI
    refine run_step ?_
    simp [-Nat.reducePow, -Int.reducePow, *]
end Lp

end
section
set_option maxHeartbeats 4000000
/-! P21: what is refused: no coder, no count; the class of a caught error. -/
namespace Lp
open PySem
/-- not less than nothing -/
def nn : D → Bool
  | .int i => decide (0 ≤ i)
  | _ => false
@[simp] theorem nn_int (i : Int) : nn (.int i) = decide (0 ≤ i) := rfl
/-- is it a coder? -/
def cdB : D → Bool
  | .tup [pl, .tup L] => decide (1 ≤ L.length) && decide (L.length ≤ 12) && L.all nn && wi 0 ((L.length : Int) - 1) pl
  | _ => false
/-- what is_coder can be asked of here -/
structure Okc (d : D) : Prop where
  ok : isiOk d = true
  two : ∀ a b, d = .tup [a, b] → isiOk a = true ∧ isiOk b = true ∧ ∀ L, b = .tup L → L.length ≤ 1000 ∧ ∀ x ∈ L, isiOk x = true
abbrev X_is_coder (r : List R → List R → CR) : Prop := ∀ d st, Okc d → r [.frz d] st = .ok (.frz (.bl (cdB d))) [none] st
theorem all_nn (L : List D) : bls? (L.map fun d => D.bl (nn d)) = some (L.map nn) := by
  induction L with
  | nil => rfl
  | cons d L ih => simp only [List.map_cons, bls?, ih, Option.map_some]
theorem q_is_coder {C : Calls} {g : Str} (g_MOST_PLACES : C.glob g = some (.int 12)) (h_is_whole : Sp C "is_whole" [] S_is_whole) (h_is_within : Sp C "is_within" [] S_is_within) : X_is_coder ((f_is_coder g).run C) := fun d st h => by
  obtain ⟨r_is_whole, k_is_whole⟩ := h_is_whole
  unfold S_is_whole at k_is_whole
  obtain ⟨r_is_within, k_is_within⟩ := h_is_within
  unfold S_is_within at k_is_within
  obtain ⟨ok, two⟩ := h
  refine CR.sat_eq (fn_run rfl ?_)
  refine run_ifs ?_
  cases d with
  | hd k => simp at ok
  | obj _ _ => simp at ok
  | exc _ _ => simp at ok
  | tup l =>
    match l with
    | [] =>
      simp
      refine run_step ?_
      simp [cdB]
    | [a] =>
      simp
      refine run_step ?_
      simp [cdB]
    | a :: b :: c :: r =>
      have e : ¬ ((r.length : Int) + 1 + 1 + 1 = 2) := by omega
      simp [e]
      refine run_step ?_
      simp [cdB]
    | [a, b] =>
      obtain ⟨ha, hb, hL⟩ := two a b rfl
      cases b with
      | hd k => simp at hb
      | obj _ _ => simp at hb
      | exc _ _ => simp at hb
      | tup L =>
        obtain ⟨hl, hx⟩ := hL L rfl
        have hbig : L.length ≤ big := by have := big_eq; omega
        simp
        refine run_step ?_
        simp
        refine run_ifs ?_
        by_cases h1 : 1 ≤ L.length ∧ L.length ≤ 12
        · have h1a : (1 : Int) ≤ L.length := by omega
          have h1b : (L.length : Int) ≤ 12 := by omega
          simp [h1a, h1b, g_MOST_PLACES, itD]
          refine lc_map (φ := fun d => .bl (nn d)) hbig (by simp) (fun d hd => ?_) ?_
          · have hd1 := hx d hd
            simp [r_is_whole, k_is_whole d _ hd1]
            cases d <;> simp [wh, nn]
          · simp [allR, all_nn]
            by_cases q : ∀ x, x ∈ L → nn x = true
            · have q2 : L.all nn = true := List.all_eq_true.mpr q
              rw [if_pos q]
              refine run_step ?_
              simp [r_is_within, k_is_within a _ _ _ ha, cdB, q2, h1]
            · have q2 : L.all nn = false := by
                cases z : L.all nn with
                | false => rfl
                | true => exact absurd (List.all_eq_true.mp z) q
              rw [if_neg q]
              refine run_step ?_
              simp [cdB, q2]
        · have c0 : cdB (.tup [a, .tup L]) = false := by
            show (decide (1 ≤ L.length) && decide (L.length ≤ 12) && L.all nn && wi 0 ((L.length : Int) - 1) a) = false
            rw [← Bool.decide_and, decide_eq_false h1]
            rfl
          rw [c0]
          by_cases h1a : (1 : Int) ≤ L.length
          · have h1b : ¬ ((L.length : Int) ≤ 12) := by omega
            simp [h1a, h1b, g_MOST_PLACES]
            refine run_step ?_
            simp
          · simp [h1a]
            refine run_step ?_
            simp
      | _ =>
        simp
        refine run_step ?_
        simp [cdB]
  | _ =>
    simp
    refine run_step ?_
    simp [cdB]
abbrev X_need_coder (r : List R → List R → CR) : Prop := ∀ d st, Okc d → cdB d = false → r [.frz d] st = .ex ⟨"NoCoder", none⟩ [none] st
theorem q_need_coder {C : Calls} (x_is_coder : Sp C "is_coder" [] X_is_coder) : X_need_coder (f_need_coder.run C) := fun d st h hd => by
  obtain ⟨r_is_coder, k_is_coder⟩ := x_is_coder
  unfold X_is_coder at k_is_coder
  have k := k_is_coder d st h
  refine CR.sat_ex (fn_run rfl ?_)
  refine run_ifs ?_
  simp [-Nat.reducePow, -Int.reducePow, *]
  refine run_step ?_
  rw [exec]
  simp
abbrev X_need_count (r : List R → List R → CR) : Prop := ∀ d a b st, isiOk d = true → wi a b d = false → r [.frz d, .frz (.int a), .frz (.int b)] st = .ex ⟨"NoCount", none⟩ [none, none, none] st
theorem q_need_count {C : Calls} (h_is_within : Sp C "is_within" [] S_is_within) : X_need_count (f_need_count.run C) := fun d a b st h hd => by
  obtain ⟨r_is_within, k_is_within⟩ := h_is_within
  unfold S_is_within at k_is_within
  have k := k_is_within d a b st h
  refine CR.sat_ex (fn_run rfl ?_)
  refine run_ifs ?_
  simp [-Nat.reducePow, -Int.reducePow, *]
  refine run_step ?_
  rw [exec]
  simp
abbrev X_step (r : List R → List R → CR) : Prop := ∀ d st, Okc d → cdB d = false → r [.frz d] st = .ex ⟨"NoCoder", none⟩ [none] st
theorem q_step {C : Calls} (x_need_coder : Sp C "need_coder" [] X_need_coder) : X_step (f_step.run C) := fun d st h hd => by
  obtain ⟨r_need_coder, k_need_coder⟩ := x_need_coder
  unfold X_need_coder at k_need_coder
  have k := k_need_coder d st h hd
  refine CR.sat_ex (fn_run rfl ?_)
  refine run_step ?_
  simp [-Nat.reducePow, -Int.reducePow, *]
abbrev X_words_of (r : List R → List R → CR) : Prop := (∀ d m st, Okc d → cdB d = false → r [.frz d, .frz m] st = .ex ⟨"NoCoder", none⟩ [none, none] st) ∧ ∀ p s m st, Wk p s → isiOk m = true → wi 0 2000 m = false → r [.frz (cdw p s), .frz m] st = .ex ⟨"NoCount", none⟩ [none, none] st
theorem q_words_of {C : Calls} (g_MOST_WORDS : C.glob "MOST_WORDS" = some (.int 2000)) (h_need_coder : Sp C "need_coder" [] S_need_coder) (x_need_coder : Sp C "need_coder" [] X_need_coder) (x_need_count : Sp C "need_count" [] X_need_count) : X_words_of (f_words_of.run C) := by
  obtain ⟨r_need_coder, k_need_coder⟩ := x_need_coder
  unfold X_need_coder at k_need_coder
  obtain ⟨r_need_count, k_need_count⟩ := x_need_count
  unfold X_need_count at k_need_count
  obtain ⟨_, j_need_coder⟩ := h_need_coder
  unfold S_need_coder at j_need_coder
  refine ⟨fun d m st h hd => ?_, fun p s m st h hm hw => ?_⟩
  · have k := k_need_coder d st h hd
    refine CR.sat_ex (fn_run rfl ?_)
    refine run_step ?_
    simp [-Nat.reducePow, -Int.reducePow, *]
  · have k := j_need_coder p _ _ st h.cod
    have k2 := k_need_count m 0 2000 st hm hw
    refine CR.sat_ex (fn_run rfl ?_)
    refine run_step ?_
    simp [-Nat.reducePow, -Int.reducePow, *]
    refine run_step ?_
    simp [-Nat.reducePow, -Int.reducePow, *]
abbrev X_behind (r : List R → List R → CR) : Prop := (∀ d m st, Okc d → cdB d = false → r [.frz d, .frz m] st = .ex ⟨"NoCoder", none⟩ [none, none] st) ∧ ∀ p s m st, Wk p s → isiOk m = true → wi 0 1000000000000000000 m = false → r [.frz (cdw p s), .frz m] st = .ex ⟨"NoCount", none⟩ [none, none] st
theorem q_behind {C : Calls} (g_MOST_STEPS : C.glob "MOST_STEPS" = some (.int 1000000000000000000)) (h_need_coder : Sp C "need_coder" [] S_need_coder) (x_need_coder : Sp C "need_coder" [] X_need_coder) (x_need_count : Sp C "need_count" [] X_need_count) : X_behind (f_behind.run C) := by
  obtain ⟨r_need_coder, k_need_coder⟩ := x_need_coder
  unfold X_need_coder at k_need_coder
  obtain ⟨r_need_count, k_need_count⟩ := x_need_count
  unfold X_need_count at k_need_count
  obtain ⟨_, j_need_coder⟩ := h_need_coder
  unfold S_need_coder at j_need_coder
  refine ⟨fun d m st h hd => ?_, fun p s m st h hm hw => ?_⟩
  · have k := k_need_coder d st h hd
    refine CR.sat_ex (fn_run rfl ?_)
    refine run_step ?_
    simp [-Nat.reducePow, -Int.reducePow, *]
  · have k := j_need_coder p _ _ st h.cod
    have k2 := k_need_count m 0 1000000000000000000 st hm hw
    refine CR.sat_ex (fn_run rfl ?_)
    refine run_step ?_
    simp [-Nat.reducePow, -Int.reducePow, *]
    refine run_step ?_
    simp [-Nat.reducePow, -Int.reducePow, *]
/-! ### the class of a caught error -/
def errT : List Str := ["NoCounts", "NoLog", "NoPlace", "NoRow", "NoSign", "NoTree", "NoWord", "NotLike", "Nothing", "NoKnown", "NoText", "NoPairs", "NoLoop", "NoCoder", "NoCount", "NotRound"]
/-- of all the classes that are asked it is of its own alone; and a LearnError, a ValueError -/
def subAll (sub : Str → Str → Option Bool) (n : Str) : Bool := (sub n "LearnError" == some true) && (sub n "ValueError" == some true) && errT.all fun x => sub n x == some (decide (x = n))
theorem subAll_of {sub : Str → Str → Option Bool} {n : Str} (h : subAll sub n = true) : sub n "LearnError" = some true ∧ sub n "ValueError" = some true ∧ ∀ x ∈ errT, sub n x = some (decide (x = n)) := by
  unfold subAll at h
  simp only [Bool.and_eq_true, beq_iff_eq] at h
  exact ⟨h.1.1, h.1.2, fun x hx => beq_iff_eq.mp (List.all_eq_true.mp h.2 x hx)⟩
abbrev S__law_class (cl : Str → Nat) (sub : Str → Str → Option Bool) (r : List R → List R → CR) : Prop := ∀ (n : Str) st, (n = "NoKnown" ∨ n = "NoText" ∨ n = "NoPairs" ∨ n = "NoLoop" ∨ n = "NoCoder" ∨ n = "NoCount" ∨ n = "NotRound") → subAll sub n = true → r [.frz (.exc n (cl n))] st = .ok (.frz (.str n.cps.toList)) [none] st
theorem p__law_class {C : Calls} : S__law_class C.cl C.sub (f__law_class.run C) := fun n st hn hs => by
  obtain ⟨_, v, f⟩ := subAll_of hs
  have b0 : (3 : Nat) ≤ big := by decide
  have b1 : (4 : Nat) ≤ big := by decide
  have b2 : (7 : Nat) ≤ big := by decide
  rcases hn with rfl | rfl | rfl | rfl | rfl | rfl | rfl
  · have e0 : C.sub "NoKnown" "NoCounts" = some false := f _ (by decide)
    have e1 : C.sub "NoKnown" "NoLog" = some false := f _ (by decide)
    have e2 : C.sub "NoKnown" "NoPlace" = some false := f _ (by decide)
    have e3 : C.sub "NoKnown" "NoRow" = some false := f _ (by decide)
    have e4 : C.sub "NoKnown" "NoSign" = some false := f _ (by decide)
    have e5 : C.sub "NoKnown" "NoTree" = some false := f _ (by decide)
    have e6 : C.sub "NoKnown" "NoWord" = some false := f _ (by decide)
    have e7 : C.sub "NoKnown" "NotLike" = some false := f _ (by decide)
    have e8 : C.sub "NoKnown" "Nothing" = some false := f _ (by decide)
    have e9 : C.sub "NoKnown" "NoKnown" = some true := f _ (by decide)
    have e10 : C.sub "NoKnown" "NoText" = some false := f _ (by decide)
    have e11 : C.sub "NoKnown" "NoPairs" = some false := f _ (by decide)
    have e12 : C.sub "NoKnown" "NoLoop" = some false := f _ (by decide)
    have e13 : C.sub "NoKnown" "NoCoder" = some false := f _ (by decide)
    have e14 : C.sub "NoKnown" "NoCount" = some false := f _ (by decide)
    have e15 : C.sub "NoKnown" "NotRound" = some false := f _ (by decide)
    refine CR.sat_eq (fn_run rfl ?_)
    refine run_ifs ?_
    simp [-Nat.reducePow, -Int.reducePow, *]
    refine run_step ?_
    simp [-Nat.reducePow, -Int.reducePow, *]
    refine run_step ?_
    simp [-Nat.reducePow, -Int.reducePow, *]
    refine run_step ?_
    simp [-Nat.reducePow, -Int.reducePow, *]
    refine run_step ?_
    simp [-Nat.reducePow, -Int.reducePow, *]
    refine run_step ?_
    simp [-Nat.reducePow, -Int.reducePow, *]
    refine run_step ?_
    simp [-Nat.reducePow, -Int.reducePow, *, mtOwn, List.countP_cons]
    decide +kernel
  · have e0 : C.sub "NoText" "NoCounts" = some false := f _ (by decide)
    have e1 : C.sub "NoText" "NoLog" = some false := f _ (by decide)
    have e2 : C.sub "NoText" "NoPlace" = some false := f _ (by decide)
    have e3 : C.sub "NoText" "NoRow" = some false := f _ (by decide)
    have e4 : C.sub "NoText" "NoSign" = some false := f _ (by decide)
    have e5 : C.sub "NoText" "NoTree" = some false := f _ (by decide)
    have e6 : C.sub "NoText" "NoWord" = some false := f _ (by decide)
    have e7 : C.sub "NoText" "NotLike" = some false := f _ (by decide)
    have e8 : C.sub "NoText" "Nothing" = some false := f _ (by decide)
    have e9 : C.sub "NoText" "NoKnown" = some false := f _ (by decide)
    have e10 : C.sub "NoText" "NoText" = some true := f _ (by decide)
    have e11 : C.sub "NoText" "NoPairs" = some false := f _ (by decide)
    have e12 : C.sub "NoText" "NoLoop" = some false := f _ (by decide)
    have e13 : C.sub "NoText" "NoCoder" = some false := f _ (by decide)
    have e14 : C.sub "NoText" "NoCount" = some false := f _ (by decide)
    have e15 : C.sub "NoText" "NotRound" = some false := f _ (by decide)
    refine CR.sat_eq (fn_run rfl ?_)
    refine run_ifs ?_
    simp [-Nat.reducePow, -Int.reducePow, *]
    refine run_ifs ?_
    simp [-Nat.reducePow, -Int.reducePow, *]
    refine run_step ?_
    simp [-Nat.reducePow, -Int.reducePow, *]
    refine run_step ?_
    simp [-Nat.reducePow, -Int.reducePow, *]
    refine run_step ?_
    simp [-Nat.reducePow, -Int.reducePow, *]
    refine run_step ?_
    simp [-Nat.reducePow, -Int.reducePow, *]
    refine run_step ?_
    simp [-Nat.reducePow, -Int.reducePow, *]
    refine run_step ?_
    simp [-Nat.reducePow, -Int.reducePow, *, mtOwn, List.countP_cons]
    decide +kernel
  · have e0 : C.sub "NoPairs" "NoCounts" = some false := f _ (by decide)
    have e1 : C.sub "NoPairs" "NoLog" = some false := f _ (by decide)
    have e2 : C.sub "NoPairs" "NoPlace" = some false := f _ (by decide)
    have e3 : C.sub "NoPairs" "NoRow" = some false := f _ (by decide)
    have e4 : C.sub "NoPairs" "NoSign" = some false := f _ (by decide)
    have e5 : C.sub "NoPairs" "NoTree" = some false := f _ (by decide)
    have e6 : C.sub "NoPairs" "NoWord" = some false := f _ (by decide)
    have e7 : C.sub "NoPairs" "NotLike" = some false := f _ (by decide)
    have e8 : C.sub "NoPairs" "Nothing" = some false := f _ (by decide)
    have e9 : C.sub "NoPairs" "NoKnown" = some false := f _ (by decide)
    have e10 : C.sub "NoPairs" "NoText" = some false := f _ (by decide)
    have e11 : C.sub "NoPairs" "NoPairs" = some true := f _ (by decide)
    have e12 : C.sub "NoPairs" "NoLoop" = some false := f _ (by decide)
    have e13 : C.sub "NoPairs" "NoCoder" = some false := f _ (by decide)
    have e14 : C.sub "NoPairs" "NoCount" = some false := f _ (by decide)
    have e15 : C.sub "NoPairs" "NotRound" = some false := f _ (by decide)
    refine CR.sat_eq (fn_run rfl ?_)
    refine run_ifs ?_
    simp [-Nat.reducePow, -Int.reducePow, *]
    refine run_ifs ?_
    simp [-Nat.reducePow, -Int.reducePow, *]
    refine run_ifs ?_
    simp [-Nat.reducePow, -Int.reducePow, *]
    refine run_step ?_
    simp [-Nat.reducePow, -Int.reducePow, *]
    refine run_step ?_
    simp [-Nat.reducePow, -Int.reducePow, *]
    refine run_step ?_
    simp [-Nat.reducePow, -Int.reducePow, *]
    refine run_step ?_
    simp [-Nat.reducePow, -Int.reducePow, *]
    refine run_step ?_
    simp [-Nat.reducePow, -Int.reducePow, *]
    refine run_step ?_
    simp [-Nat.reducePow, -Int.reducePow, *, mtOwn, List.countP_cons]
    decide +kernel
  · have e0 : C.sub "NoLoop" "NoCounts" = some false := f _ (by decide)
    have e1 : C.sub "NoLoop" "NoLog" = some false := f _ (by decide)
    have e2 : C.sub "NoLoop" "NoPlace" = some false := f _ (by decide)
    have e3 : C.sub "NoLoop" "NoRow" = some false := f _ (by decide)
    have e4 : C.sub "NoLoop" "NoSign" = some false := f _ (by decide)
    have e5 : C.sub "NoLoop" "NoTree" = some false := f _ (by decide)
    have e6 : C.sub "NoLoop" "NoWord" = some false := f _ (by decide)
    have e7 : C.sub "NoLoop" "NotLike" = some false := f _ (by decide)
    have e8 : C.sub "NoLoop" "Nothing" = some false := f _ (by decide)
    have e9 : C.sub "NoLoop" "NoKnown" = some false := f _ (by decide)
    have e10 : C.sub "NoLoop" "NoText" = some false := f _ (by decide)
    have e11 : C.sub "NoLoop" "NoPairs" = some false := f _ (by decide)
    have e12 : C.sub "NoLoop" "NoLoop" = some true := f _ (by decide)
    have e13 : C.sub "NoLoop" "NoCoder" = some false := f _ (by decide)
    have e14 : C.sub "NoLoop" "NoCount" = some false := f _ (by decide)
    have e15 : C.sub "NoLoop" "NotRound" = some false := f _ (by decide)
    refine CR.sat_eq (fn_run rfl ?_)
    refine run_ifs ?_
    simp [-Nat.reducePow, -Int.reducePow, *]
    refine run_ifs ?_
    simp [-Nat.reducePow, -Int.reducePow, *]
    refine run_ifs ?_
    simp [-Nat.reducePow, -Int.reducePow, *]
    refine run_ifs ?_
    simp [-Nat.reducePow, -Int.reducePow, *]
    refine run_step ?_
    simp [-Nat.reducePow, -Int.reducePow, *]
    refine run_step ?_
    simp [-Nat.reducePow, -Int.reducePow, *]
    refine run_step ?_
    simp [-Nat.reducePow, -Int.reducePow, *]
    refine run_step ?_
    simp [-Nat.reducePow, -Int.reducePow, *]
    refine run_step ?_
    simp [-Nat.reducePow, -Int.reducePow, *]
    refine run_step ?_
    simp [-Nat.reducePow, -Int.reducePow, *, mtOwn, List.countP_cons]
    decide +kernel
  · have e0 : C.sub "NoCoder" "NoCounts" = some false := f _ (by decide)
    have e1 : C.sub "NoCoder" "NoLog" = some false := f _ (by decide)
    have e2 : C.sub "NoCoder" "NoPlace" = some false := f _ (by decide)
    have e3 : C.sub "NoCoder" "NoRow" = some false := f _ (by decide)
    have e4 : C.sub "NoCoder" "NoSign" = some false := f _ (by decide)
    have e5 : C.sub "NoCoder" "NoTree" = some false := f _ (by decide)
    have e6 : C.sub "NoCoder" "NoWord" = some false := f _ (by decide)
    have e7 : C.sub "NoCoder" "NotLike" = some false := f _ (by decide)
    have e8 : C.sub "NoCoder" "Nothing" = some false := f _ (by decide)
    have e9 : C.sub "NoCoder" "NoKnown" = some false := f _ (by decide)
    have e10 : C.sub "NoCoder" "NoText" = some false := f _ (by decide)
    have e11 : C.sub "NoCoder" "NoPairs" = some false := f _ (by decide)
    have e12 : C.sub "NoCoder" "NoLoop" = some false := f _ (by decide)
    have e13 : C.sub "NoCoder" "NoCoder" = some true := f _ (by decide)
    have e14 : C.sub "NoCoder" "NoCount" = some false := f _ (by decide)
    have e15 : C.sub "NoCoder" "NotRound" = some false := f _ (by decide)
    refine CR.sat_eq (fn_run rfl ?_)
    refine run_ifs ?_
    simp [-Nat.reducePow, -Int.reducePow, *]
    refine run_ifs ?_
    simp [-Nat.reducePow, -Int.reducePow, *]
    refine run_ifs ?_
    simp [-Nat.reducePow, -Int.reducePow, *]
    refine run_ifs ?_
    simp [-Nat.reducePow, -Int.reducePow, *]
    refine run_ifs ?_
    simp [-Nat.reducePow, -Int.reducePow, *]
    refine run_step ?_
    simp [-Nat.reducePow, -Int.reducePow, *]
    refine run_step ?_
    simp [-Nat.reducePow, -Int.reducePow, *]
    refine run_step ?_
    simp [-Nat.reducePow, -Int.reducePow, *]
    refine run_step ?_
    simp [-Nat.reducePow, -Int.reducePow, *]
    refine run_step ?_
    simp [-Nat.reducePow, -Int.reducePow, *]
    refine run_step ?_
    simp [-Nat.reducePow, -Int.reducePow, *, mtOwn, List.countP_cons]
    decide +kernel
  · have e0 : C.sub "NoCount" "NoCounts" = some false := f _ (by decide)
    have e1 : C.sub "NoCount" "NoLog" = some false := f _ (by decide)
    have e2 : C.sub "NoCount" "NoPlace" = some false := f _ (by decide)
    have e3 : C.sub "NoCount" "NoRow" = some false := f _ (by decide)
    have e4 : C.sub "NoCount" "NoSign" = some false := f _ (by decide)
    have e5 : C.sub "NoCount" "NoTree" = some false := f _ (by decide)
    have e6 : C.sub "NoCount" "NoWord" = some false := f _ (by decide)
    have e7 : C.sub "NoCount" "NotLike" = some false := f _ (by decide)
    have e8 : C.sub "NoCount" "Nothing" = some false := f _ (by decide)
    have e9 : C.sub "NoCount" "NoKnown" = some false := f _ (by decide)
    have e10 : C.sub "NoCount" "NoText" = some false := f _ (by decide)
    have e11 : C.sub "NoCount" "NoPairs" = some false := f _ (by decide)
    have e12 : C.sub "NoCount" "NoLoop" = some false := f _ (by decide)
    have e13 : C.sub "NoCount" "NoCoder" = some false := f _ (by decide)
    have e14 : C.sub "NoCount" "NoCount" = some true := f _ (by decide)
    have e15 : C.sub "NoCount" "NotRound" = some false := f _ (by decide)
    refine CR.sat_eq (fn_run rfl ?_)
    refine run_ifs ?_
    simp [-Nat.reducePow, -Int.reducePow, *]
    refine run_ifs ?_
    simp [-Nat.reducePow, -Int.reducePow, *]
    refine run_ifs ?_
    simp [-Nat.reducePow, -Int.reducePow, *]
    refine run_ifs ?_
    simp [-Nat.reducePow, -Int.reducePow, *]
    refine run_ifs ?_
    simp [-Nat.reducePow, -Int.reducePow, *]
    refine run_ifs ?_
    simp [-Nat.reducePow, -Int.reducePow, *]
    refine run_step ?_
    simp [-Nat.reducePow, -Int.reducePow, *]
    refine run_step ?_
    simp [-Nat.reducePow, -Int.reducePow, *]
    refine run_step ?_
    simp [-Nat.reducePow, -Int.reducePow, *]
    refine run_step ?_
    simp [-Nat.reducePow, -Int.reducePow, *]
    refine run_step ?_
    simp [-Nat.reducePow, -Int.reducePow, *]
    refine run_step ?_
    simp [-Nat.reducePow, -Int.reducePow, *, mtOwn, List.countP_cons]
    decide +kernel
  · have e0 : C.sub "NotRound" "NoCounts" = some false := f _ (by decide)
    have e1 : C.sub "NotRound" "NoLog" = some false := f _ (by decide)
    have e2 : C.sub "NotRound" "NoPlace" = some false := f _ (by decide)
    have e3 : C.sub "NotRound" "NoRow" = some false := f _ (by decide)
    have e4 : C.sub "NotRound" "NoSign" = some false := f _ (by decide)
    have e5 : C.sub "NotRound" "NoTree" = some false := f _ (by decide)
    have e6 : C.sub "NotRound" "NoWord" = some false := f _ (by decide)
    have e7 : C.sub "NotRound" "NotLike" = some false := f _ (by decide)
    have e8 : C.sub "NotRound" "Nothing" = some false := f _ (by decide)
    have e9 : C.sub "NotRound" "NoKnown" = some false := f _ (by decide)
    have e10 : C.sub "NotRound" "NoText" = some false := f _ (by decide)
    have e11 : C.sub "NotRound" "NoPairs" = some false := f _ (by decide)
    have e12 : C.sub "NotRound" "NoLoop" = some false := f _ (by decide)
    have e13 : C.sub "NotRound" "NoCoder" = some false := f _ (by decide)
    have e14 : C.sub "NotRound" "NoCount" = some false := f _ (by decide)
    have e15 : C.sub "NotRound" "NotRound" = some true := f _ (by decide)
    refine CR.sat_eq (fn_run rfl ?_)
    refine run_ifs ?_
    simp [-Nat.reducePow, -Int.reducePow, *]
    refine run_ifs ?_
    simp [-Nat.reducePow, -Int.reducePow, *]
    refine run_ifs ?_
    simp [-Nat.reducePow, -Int.reducePow, *]
    refine run_ifs ?_
    simp [-Nat.reducePow, -Int.reducePow, *]
    refine run_ifs ?_
    simp [-Nat.reducePow, -Int.reducePow, *]
    refine run_ifs ?_
    simp [-Nat.reducePow, -Int.reducePow, *]
    refine run_step ?_
    simp [-Nat.reducePow, -Int.reducePow, *]
    refine run_step ?_
    simp [-Nat.reducePow, -Int.reducePow, *]
    refine run_step ?_
    simp [-Nat.reducePow, -Int.reducePow, *]
    refine run_step ?_
    simp [-Nat.reducePow, -Int.reducePow, *]
    refine run_step ?_
    simp [-Nat.reducePow, -Int.reducePow, *]
    refine run_step ?_
    simp [-Nat.reducePow, -Int.reducePow, *, mtOwn, List.countP_cons]
    decide +kernel
end Lp

end
namespace Lp
open PySem
namespace k20
def globs : List (Str × D) := [("MOST_LISTED", (.int 6)), ("MOST_PLACES_loops", (.int 12)), ("MOST_PLACES_trees", (.int 12))]
def exs : List (Str × List (Str × Bool)) := []
def G (cl : Str → Nat) : Prog := ⟨[(Str.ofString "is_whole", f_is_whole), (Str.ofString "is_within", f_is_within), (Str.ofString "is_coder", (f_is_coder "MOST_PLACES_loops")), (Str.ofString "need_coder", f_need_coder), (Str.ofString "stepped", f_stepped), (Str.ofString "led", f_led), (Str.ofString "leads_here", f_leads_here), (Str.ofString "to_round", f_to_round), (Str.ofString "need_many_places", f_need_many_places), (Str.ofString "all_come_home", f_all_come_home), (Str.ofString "is_tree", (f_is_tree "MOST_PLACES_trees")), (Str.ofString "tree_of", f_tree_of), (Str.ofString "coder_of", f_coder_of), (Str.ofString "all_trees", f_all_trees), (Str.ofString "_law_urn", f__law_urn), (Str.ofString "_law_pull", f__law_pull), (Str.ofString "_law_home", f__law_home), (Str.ofString "_law_all", f__law_all), (Str.ofString "law", f_law_v13)], globs, cl, exs⟩
open PySem.Spec PyProof.Rows L2
def topS (i : Nat) : Stmt := PySem.Challenge.pw_looplearn_k20_all_trees.main.body.getD i (.Pass ⟨0, 0, 0, 0⟩)
def tops : List Str := [Str.ofString "is_whole", Str.ofString "is_within", Str.ofString "is_coder", Str.ofString "need_coder", Str.ofString "stepped", Str.ofString "led", Str.ofString "leads_here", Str.ofString "to_round", Str.ofString "need_many_places", Str.ofString "all_come_home", Str.ofString "is_tree", Str.ofString "tree_of", Str.ofString "coder_of", Str.ofString "all_trees", Str.ofString "_law_urn", Str.ofString "_law_pull", Str.ofString "_law_home", Str.ofString "_law_all", Str.ofString "law"]
def cs : CS := ⟨[], ["NoCoder", "NoCount", "NoTree"], []⟩
def d_is_whole : DefC := ⟨["thing"], ["thing"], [0]⟩
def d_is_within : DefC := ⟨["thing", "least", "most"], ["thing", "least", "most"], [0, 1, 2]⟩
def d_is_coder : DefC := ⟨["thing"], ["thing", "place", "lengths", "length"], [0, 1, 2]⟩
def d_need_coder : DefC := ⟨["thing"], ["thing"], [0]⟩
def d_stepped : DefC := ⟨["coder"], ["coder", "place", "lengths", "length"], [0, 1, 2, 3]⟩
def d_led : DefC := ⟨["coder"], ["coder", "place", "lengths", "here", "length"], [0, 1, 2]⟩
def d_leads_here : DefC := ⟨["coder"], ["coder", "ways", "there", "edge", "here", "place", "way"], [0, 1, 2, 3, 4, 5, 6]⟩
def d_to_round : DefC := ⟨["coder"], ["coder", "many", "here"], [0, 1, 2]⟩
def d_need_many_places : DefC := ⟨["p", "most"], ["p", "most"], [0, 1]⟩
def d_all_come_home : DefC := ⟨["goals"], ["goals", "homes", "begin", "passed", "here"], [0, 1, 2, 3, 4]⟩
def d_is_tree : DefC := ⟨["p", "thing"], ["p", "thing", "goal"], [0, 1]⟩
def d_tree_of : DefC := ⟨["coder"], ["coder", "steps", "here", "p"], [0, 1, 2, 3]⟩
def d_coder_of : DefC := ⟨["p", "tree"], ["p", "tree", "number", "goal"], [0, 1]⟩
def d_all_trees : DefC := ⟨["p"], ["p", "found", "place", "goals", "goal"], [0, 1, 2]⟩
def d__law_urn : DefC := ⟨["cell"], ["cell"], [0]⟩
def d__law_pull : DefC := ⟨["urn", "many"], ["urn", "many", "found", "one"], [1, 2, 3]⟩
def d__law_home : DefC := ⟨["goals", "home"], ["goals", "home", "place", "here", "turn"], [0, 1, 2, 3, 4]⟩
def d__law_all : DefC := ⟨["p"], ["p", "rows", "place", "longer", "row", "goal"], [0, 1, 2, 3, 4]⟩
def d_law : DefC := ⟨["script"], ["script", "cell", "urn", "p", "due", "many", "k", "again", "found", "turn", "tree"], [0, 1, 2, 3, 4, 5, 6, 7, 8, 9, 10]⟩
theorem c_is_whole : chkDef (topS 6) d_is_whole f_is_whole tops (globs.map (·.1)) cs = true := by decide +kernel
theorem c_is_within : chkDef (topS 7) d_is_within f_is_within tops (globs.map (·.1)) cs = true := by decide +kernel
theorem c_is_coder : chkDef (topS 10) d_is_coder (f_is_coder "MOST_PLACES_loops") tops (globs.map (·.1)) cs = true := by decide +kernel
theorem c_need_coder : chkDef (topS 11) d_need_coder f_need_coder tops (globs.map (·.1)) cs = true := by decide +kernel
theorem c_stepped : chkDef (topS 12) d_stepped f_stepped tops (globs.map (·.1)) cs = true := by decide +kernel
theorem c_led : chkDef (topS 13) d_led f_led tops (globs.map (·.1)) cs = true := by decide +kernel
theorem c_leads_here : chkDef (topS 14) d_leads_here f_leads_here tops (globs.map (·.1)) cs = true := by decide +kernel
theorem c_to_round : chkDef (topS 15) d_to_round f_to_round tops (globs.map (·.1)) cs = true := by decide +kernel
theorem c_need_many_places : chkDef (topS 19) d_need_many_places f_need_many_places tops (globs.map (·.1)) cs = true := by decide +kernel
theorem c_all_come_home : chkDef (topS 20) d_all_come_home f_all_come_home tops (globs.map (·.1)) cs = true := by decide +kernel
theorem c_is_tree : chkDef (topS 21) d_is_tree (f_is_tree "MOST_PLACES_trees") tops (globs.map (·.1)) cs = true := by decide +kernel
theorem c_tree_of : chkDef (topS 22) d_tree_of f_tree_of tops (globs.map (·.1)) cs = true := by decide +kernel
theorem c_coder_of : chkDef (topS 23) d_coder_of f_coder_of tops (globs.map (·.1)) cs = true := by decide +kernel
theorem c_all_trees : chkDef (topS 24) d_all_trees f_all_trees tops (globs.map (·.1)) cs = true := by decide +kernel
theorem c__law_urn : chkDef (topS 26) d__law_urn f__law_urn tops (globs.map (·.1)) cs = true := by decide +kernel
theorem c__law_pull : chkDef (topS 27) d__law_pull f__law_pull tops (globs.map (·.1)) cs = true := by decide +kernel
theorem c__law_home : chkDef (topS 28) d__law_home f__law_home tops (globs.map (·.1)) cs = true := by decide +kernel
theorem c__law_all : chkDef (topS 29) d__law_all f__law_all tops (globs.map (·.1)) cs = true := by decide +kernel
theorem c_law : chkDef (topS 30) d_law f_law_v13 tops (globs.map (·.1)) cs = true := by decide +kernel
set_option maxHeartbeats 0 in
theorem mk {K : PySem.W.Frag} {h : Heap} {mg : Str → Option Value} (X : K.In h) (H : h.Ns mainGlobals mg) {ENoCoder : Addr} {ENoCount : Addr} {ENoTree : Addr} {q0 : Addr} {kV0 dc0 pm0 cd0 ct0 oc0 : Value} {an0 od0 : Option Addr} {sl0 : Array (Option Value)} {q1 : Addr} {kV1 dc1 pm1 cd1 ct1 oc1 : Value} {an1 od1 : Option Addr} {sl1 : Array (Option Value)} {q2 : Addr} {kV2 dc2 pm2 cd2 ct2 oc2 : Value} {an2 od2 : Option Addr} {sl2 : Array (Option Value)} {q3 : Addr} {kV3 dc3 pm3 cd3 ct3 oc3 : Value} {an3 od3 : Option Addr} {sl3 : Array (Option Value)} {q4 : Addr} {kV4 dc4 pm4 cd4 ct4 oc4 : Value} {an4 od4 : Option Addr} {sl4 : Array (Option Value)} {q5 : Addr} {kV5 dc5 pm5 cd5 ct5 oc5 : Value} {an5 od5 : Option Addr} {sl5 : Array (Option Value)} {q6 : Addr} {kV6 dc6 pm6 cd6 ct6 oc6 : Value} {an6 od6 : Option Addr} {sl6 : Array (Option Value)} {q7 : Addr} {kV7 dc7 pm7 cd7 ct7 oc7 : Value} {an7 od7 : Option Addr} {sl7 : Array (Option Value)} {q8 : Addr} {kV8 dc8 pm8 cd8 ct8 oc8 : Value} {an8 od8 : Option Addr} {sl8 : Array (Option Value)} {q9 : Addr} {kV9 dc9 pm9 cd9 ct9 oc9 : Value} {an9 od9 : Option Addr} {sl9 : Array (Option Value)} {q10 : Addr} {kV10 dc10 pm10 cd10 ct10 oc10 : Value} {an10 od10 : Option Addr} {sl10 : Array (Option Value)} {q11 : Addr} {kV11 dc11 pm11 cd11 ct11 oc11 : Value} {an11 od11 : Option Addr} {sl11 : Array (Option Value)} {q12 : Addr} {kV12 dc12 pm12 cd12 ct12 oc12 : Value} {an12 od12 : Option Addr} {sl12 : Array (Option Value)} {q13 : Addr} {kV13 dc13 pm13 cd13 ct13 oc13 : Value} {an13 od13 : Option Addr} {sl13 : Array (Option Value)} {q14 : Addr} {kV14 dc14 pm14 cd14 ct14 oc14 : Value} {an14 od14 : Option Addr} {sl14 : Array (Option Value)} {q15 : Addr} {kV15 dc15 pm15 cd15 ct15 oc15 : Value} {an15 od15 : Option Addr} {sl15 : Array (Option Value)} {q16 : Addr} {kV16 dc16 pm16 cd16 ct16 oc16 : Value} {an16 od16 : Option Addr} {sl16 : Array (Option Value)} {q17 : Addr} {kV17 dc17 pm17 cd17 ct17 oc17 : Value} {an17 od17 : Option Addr} {sl17 : Array (Option Value)} {q18 : Addr} {kV18 dc18 pm18 cd18 ct18 oc18 : Value} {an18 od18 : Option Addr} {sl18 : Array (Option Value)} {t0 : Tok} {t1 : Tok} {t2 : Tok}
    (aENoCoder : PySem.W.nsIn K mainGlobals "NoCoder" = some (some (.ref ENoCoder)))
    (tyENoCoder : PySem.W.typeIn K (.ref ENoCoder) = some (.type "type"))
    (hdENoCoder : PySem.W.hasDictIn K ENoCoder = true)
    (kENoCoder : PySem.W.keepIn K (.ref ENoCoder) = true)
    (xENoCoder : PySem.W.excIn K ENoCoder [.type "ValueError", .type "Exception", .type "BaseException", .type "object"] "ValueError.__new__" = true)
    (bENoCoder : PySem.W.subIn K (.ref ENoCoder) (.type "BaseException") = some true)
    (gaENoCoder : PySem.W.findIn K (.ref ENoCoder) "__getattribute__" = some (some (.builtin "BaseException.__getattribute__")))
    (gtENoCoder : PySem.W.findIn K (.ref ENoCoder) "__getattr__" = some none)
    (haENoCoder : PySem.W.findIn K (.ref ENoCoder) "__class__" = some (some (.builtin "object.__class__")))
    (hmENoCoder : PySem.W.mroIn K ENoCoder (.type "object") = some true)
    (aENoCount : PySem.W.nsIn K mainGlobals "NoCount" = some (some (.ref ENoCount)))
    (tyENoCount : PySem.W.typeIn K (.ref ENoCount) = some (.type "type"))
    (hdENoCount : PySem.W.hasDictIn K ENoCount = true)
    (kENoCount : PySem.W.keepIn K (.ref ENoCount) = true)
    (xENoCount : PySem.W.excIn K ENoCount [.type "ValueError", .type "Exception", .type "BaseException", .type "object"] "ValueError.__new__" = true)
    (bENoCount : PySem.W.subIn K (.ref ENoCount) (.type "BaseException") = some true)
    (gaENoCount : PySem.W.findIn K (.ref ENoCount) "__getattribute__" = some (some (.builtin "BaseException.__getattribute__")))
    (gtENoCount : PySem.W.findIn K (.ref ENoCount) "__getattr__" = some none)
    (haENoCount : PySem.W.findIn K (.ref ENoCount) "__class__" = some (some (.builtin "object.__class__")))
    (hmENoCount : PySem.W.mroIn K ENoCount (.type "object") = some true)
    (aENoTree : PySem.W.nsIn K mainGlobals "NoTree" = some (some (.ref ENoTree)))
    (tyENoTree : PySem.W.typeIn K (.ref ENoTree) = some (.type "type"))
    (hdENoTree : PySem.W.hasDictIn K ENoTree = true)
    (kENoTree : PySem.W.keepIn K (.ref ENoTree) = true)
    (xENoTree : PySem.W.excIn K ENoTree [.type "ValueError", .type "Exception", .type "BaseException", .type "object"] "ValueError.__new__" = true)
    (bENoTree : PySem.W.subIn K (.ref ENoTree) (.type "BaseException") = some true)
    (gaENoTree : PySem.W.findIn K (.ref ENoTree) "__getattribute__" = some (some (.builtin "BaseException.__getattribute__")))
    (gtENoTree : PySem.W.findIn K (.ref ENoTree) "__getattr__" = some none)
    (haENoTree : PySem.W.findIn K (.ref ENoTree) "__class__" = some (some (.builtin "object.__class__")))
    (hmENoTree : PySem.W.mroIn K ENoTree (.type "object") = some true)
    (veE : PySem.W.nsIn K mainGlobals "ValueError" = some none)
    (hnE : PySem.W.specialIn K (.builtin "object.__class__") "__get__" = some (some (.builtin "getset_descriptor.__get__")))
    (htE : PySem.W.takesIn K (.builtin "object.__class__") = some true)
    (a0 : PySem.W.nsIn K mainGlobals "is_whole" = some (some (.ref q0)))
    (l0 : K.lookup q0 = some ⟨oc0, od0, .func (PySem.W.fnOf "is_whole" "is_whole" (defArgs (topS 6)) (defBody (topS 6)) (defScope (topS 6)) .none kV0 dc0 pm0 an0 cd0 ct0), sl0⟩)
    (c0 : PySem.W.codeIn K cd0 "is_whole" = true) (k0 : PySem.W.keepIn K (.ref q0) = true)
    (a1 : PySem.W.nsIn K mainGlobals "is_within" = some (some (.ref q1)))
    (l1 : K.lookup q1 = some ⟨oc1, od1, .func (PySem.W.fnOf "is_within" "is_within" (defArgs (topS 7)) (defBody (topS 7)) (defScope (topS 7)) .none kV1 dc1 pm1 an1 cd1 ct1), sl1⟩)
    (c1 : PySem.W.codeIn K cd1 "is_within" = true) (k1 : PySem.W.keepIn K (.ref q1) = true)
    (a2 : PySem.W.nsIn K mainGlobals "is_coder" = some (some (.ref q2)))
    (l2 : K.lookup q2 = some ⟨oc2, od2, .func (PySem.W.fnOf "is_coder" "is_coder" (defArgs (topS 10)) (defBody (topS 10)) (defScope (topS 10)) .none kV2 dc2 pm2 an2 cd2 ct2), sl2⟩)
    (c2 : PySem.W.codeIn K cd2 "is_coder" = true) (k2 : PySem.W.keepIn K (.ref q2) = true)
    (a3 : PySem.W.nsIn K mainGlobals "need_coder" = some (some (.ref q3)))
    (l3 : K.lookup q3 = some ⟨oc3, od3, .func (PySem.W.fnOf "need_coder" "need_coder" (defArgs (topS 11)) (defBody (topS 11)) (defScope (topS 11)) .none kV3 dc3 pm3 an3 cd3 ct3), sl3⟩)
    (c3 : PySem.W.codeIn K cd3 "need_coder" = true) (k3 : PySem.W.keepIn K (.ref q3) = true)
    (a4 : PySem.W.nsIn K mainGlobals "stepped" = some (some (.ref q4)))
    (l4 : K.lookup q4 = some ⟨oc4, od4, .func (PySem.W.fnOf "stepped" "stepped" (defArgs (topS 12)) (defBody (topS 12)) (defScope (topS 12)) .none kV4 dc4 pm4 an4 cd4 ct4), sl4⟩)
    (c4 : PySem.W.codeIn K cd4 "stepped" = true) (k4 : PySem.W.keepIn K (.ref q4) = true)
    (a5 : PySem.W.nsIn K mainGlobals "led" = some (some (.ref q5)))
    (l5 : K.lookup q5 = some ⟨oc5, od5, .func (PySem.W.fnOf "led" "led" (defArgs (topS 13)) (defBody (topS 13)) (defScope (topS 13)) .none kV5 dc5 pm5 an5 cd5 ct5), sl5⟩)
    (c5 : PySem.W.codeIn K cd5 "led" = true) (k5 : PySem.W.keepIn K (.ref q5) = true)
    (a6 : PySem.W.nsIn K mainGlobals "leads_here" = some (some (.ref q6)))
    (l6 : K.lookup q6 = some ⟨oc6, od6, .func (PySem.W.fnOf "leads_here" "leads_here" (defArgs (topS 14)) (defBody (topS 14)) (defScope (topS 14)) .none kV6 dc6 pm6 an6 cd6 ct6), sl6⟩)
    (c6 : PySem.W.codeIn K cd6 "leads_here" = true) (k6 : PySem.W.keepIn K (.ref q6) = true)
    (a7 : PySem.W.nsIn K mainGlobals "to_round" = some (some (.ref q7)))
    (l7 : K.lookup q7 = some ⟨oc7, od7, .func (PySem.W.fnOf "to_round" "to_round" (defArgs (topS 15)) (defBody (topS 15)) (defScope (topS 15)) .none kV7 dc7 pm7 an7 cd7 ct7), sl7⟩)
    (c7 : PySem.W.codeIn K cd7 "to_round" = true) (k7 : PySem.W.keepIn K (.ref q7) = true)
    (a8 : PySem.W.nsIn K mainGlobals "need_many_places" = some (some (.ref q8)))
    (l8 : K.lookup q8 = some ⟨oc8, od8, .func (PySem.W.fnOf "need_many_places" "need_many_places" (defArgs (topS 19)) (defBody (topS 19)) (defScope (topS 19)) .none kV8 dc8 pm8 an8 cd8 ct8), sl8⟩)
    (c8 : PySem.W.codeIn K cd8 "need_many_places" = true) (k8 : PySem.W.keepIn K (.ref q8) = true)
    (a9 : PySem.W.nsIn K mainGlobals "all_come_home" = some (some (.ref q9)))
    (l9 : K.lookup q9 = some ⟨oc9, od9, .func (PySem.W.fnOf "all_come_home" "all_come_home" (defArgs (topS 20)) (defBody (topS 20)) (defScope (topS 20)) .none kV9 dc9 pm9 an9 cd9 ct9), sl9⟩)
    (c9 : PySem.W.codeIn K cd9 "all_come_home" = true) (k9 : PySem.W.keepIn K (.ref q9) = true)
    (a10 : PySem.W.nsIn K mainGlobals "is_tree" = some (some (.ref q10)))
    (l10 : K.lookup q10 = some ⟨oc10, od10, .func (PySem.W.fnOf "is_tree" "is_tree" (defArgs (topS 21)) (defBody (topS 21)) (defScope (topS 21)) .none kV10 dc10 pm10 an10 cd10 ct10), sl10⟩)
    (c10 : PySem.W.codeIn K cd10 "is_tree" = true) (k10 : PySem.W.keepIn K (.ref q10) = true)
    (a11 : PySem.W.nsIn K mainGlobals "tree_of" = some (some (.ref q11)))
    (l11 : K.lookup q11 = some ⟨oc11, od11, .func (PySem.W.fnOf "tree_of" "tree_of" (defArgs (topS 22)) (defBody (topS 22)) (defScope (topS 22)) .none kV11 dc11 pm11 an11 cd11 ct11), sl11⟩)
    (c11 : PySem.W.codeIn K cd11 "tree_of" = true) (k11 : PySem.W.keepIn K (.ref q11) = true)
    (a12 : PySem.W.nsIn K mainGlobals "coder_of" = some (some (.ref q12)))
    (l12 : K.lookup q12 = some ⟨oc12, od12, .func (PySem.W.fnOf "coder_of" "coder_of" (defArgs (topS 23)) (defBody (topS 23)) (defScope (topS 23)) .none kV12 dc12 pm12 an12 cd12 ct12), sl12⟩)
    (c12 : PySem.W.codeIn K cd12 "coder_of" = true) (k12 : PySem.W.keepIn K (.ref q12) = true)
    (a13 : PySem.W.nsIn K mainGlobals "all_trees" = some (some (.ref q13)))
    (l13 : K.lookup q13 = some ⟨oc13, od13, .func (PySem.W.fnOf "all_trees" "all_trees" (defArgs (topS 24)) (defBody (topS 24)) (defScope (topS 24)) .none kV13 dc13 pm13 an13 cd13 ct13), sl13⟩)
    (c13 : PySem.W.codeIn K cd13 "all_trees" = true) (k13 : PySem.W.keepIn K (.ref q13) = true)
    (a14 : PySem.W.nsIn K mainGlobals "_law_urn" = some (some (.ref q14)))
    (l14 : K.lookup q14 = some ⟨oc14, od14, .func (PySem.W.fnOf "_law_urn" "_law_urn" (defArgs (topS 26)) (defBody (topS 26)) (defScope (topS 26)) .none kV14 dc14 pm14 an14 cd14 ct14), sl14⟩)
    (c14 : PySem.W.codeIn K cd14 "_law_urn" = true) (k14 : PySem.W.keepIn K (.ref q14) = true)
    (a15 : PySem.W.nsIn K mainGlobals "_law_pull" = some (some (.ref q15)))
    (l15 : K.lookup q15 = some ⟨oc15, od15, .func (PySem.W.fnOf "_law_pull" "_law_pull" (defArgs (topS 27)) (defBody (topS 27)) (defScope (topS 27)) .none kV15 dc15 pm15 an15 cd15 ct15), sl15⟩)
    (c15 : PySem.W.codeIn K cd15 "_law_pull" = true) (k15 : PySem.W.keepIn K (.ref q15) = true)
    (a16 : PySem.W.nsIn K mainGlobals "_law_home" = some (some (.ref q16)))
    (l16 : K.lookup q16 = some ⟨oc16, od16, .func (PySem.W.fnOf "_law_home" "_law_home" (defArgs (topS 28)) (defBody (topS 28)) (defScope (topS 28)) .none kV16 dc16 pm16 an16 cd16 ct16), sl16⟩)
    (c16 : PySem.W.codeIn K cd16 "_law_home" = true) (k16 : PySem.W.keepIn K (.ref q16) = true)
    (a17 : PySem.W.nsIn K mainGlobals "_law_all" = some (some (.ref q17)))
    (l17 : K.lookup q17 = some ⟨oc17, od17, .func (PySem.W.fnOf "_law_all" "_law_all" (defArgs (topS 29)) (defBody (topS 29)) (defScope (topS 29)) .none kV17 dc17 pm17 an17 cd17 ct17), sl17⟩)
    (c17 : PySem.W.codeIn K cd17 "_law_all" = true) (k17 : PySem.W.keepIn K (.ref q17) = true)
    (a18 : PySem.W.nsIn K mainGlobals "law" = some (some (.ref q18)))
    (l18 : K.lookup q18 = some ⟨oc18, od18, .func (PySem.W.fnOf "law" "law" (defArgs (topS 30)) (defBody (topS 30)) (defScope (topS 30)) .none kV18 dc18 pm18 an18 cd18 ct18), sl18⟩)
    (c18 : PySem.W.codeIn K cd18 "law" = true) (k18 : PySem.W.keepIn K (.ref q18) = true)
    (g0 : PySem.W.nsIn K mainGlobals "MOST_LISTED" = some (some (.int 6 t0)))
    (g1 : PySem.W.nsIn K mainGlobals "MOST_PLACES_loops" = some (some (.int 12 t1)))
    (g2 : PySem.W.nsIn K mainGlobals "MOST_PLACES_trees" = some (some (.int 12 t2)))
    (z0 : PySem.W.nsIn K mainGlobals "len" = some none)
    (z1 : PySem.W.nsIn K mainGlobals "all" = some none)
    (z2 : PySem.W.nsIn K mainGlobals "sum" = some none)
    (z3 : PySem.W.nsIn K mainGlobals "max" = some none)
    (z4 : PySem.W.nsIn K mainGlobals "min" = some none)
    (z5 : PySem.W.nsIn K mainGlobals "repr" = some none)
    (z6 : PySem.W.nsIn K mainGlobals "divmod" = some none)
    (z7 : PySem.W.nsIn K mainGlobals "isinstance" = some none)
    (z8 : PySem.W.nsIn K mainGlobals "sorted" = some none)
    (z9 : PySem.W.nsIn K mainGlobals "tuple" = some none)
    (z10 : PySem.W.nsIn K mainGlobals "list" = some none)
    (z11 : PySem.W.nsIn K mainGlobals "int" = some none)
    (z12 : PySem.W.nsIn K mainGlobals "bool" = some none)
    (z13 : PySem.W.nsIn K mainGlobals "str" = some none)
    (z14 : PySem.W.nsIn K mainGlobals "dict" = some none)
    (z15 : PySem.W.nsIn K mainGlobals "range" = some none)
    (z16 : PySem.W.nsIn K mainGlobals "enumerate" = some none)
    (z17 : PySem.W.nsIn K mainGlobals "zip" = some none) :
    ModOk K mg (G (clsOf mg)) tops cs ∧ ∃ (f : Addr) (fd : FuncData) (st : Stmt) (dc : DefC) (dV kV doc pm cdv ct oc : Value) (an od : Option Addr) (osl : Array (Option Value)) (Fl : Fn),
      mg "law" = some (.ref f) ∧ fd = PySem.W.fnOf "law" "law" (defArgs st) (defBody st) (defScope st) dV kV doc pm an cdv ct ∧ K.lookup f = some ⟨oc, od, .func fd, osl⟩ ∧ PySem.W.codeIn K cdv "law" = true ∧ chkDef st dc Fl tops ((G (clsOf mg)).globs.map (·.1)) cs = true ∧ (G (clsOf mg)).fn "law" = some Fl ∧ dc.ps = [("script" : Str)] ∧ ∀ (s : Shared) (u : Value), BindsTo s fd ⟨[u], []⟩ [("script", u)] := by
  refine ⟨⟨errs_of X H rfl ⟨err_at X H hnE htE aENoCoder kENoCoder xENoCoder bENoCoder tyENoCoder hdENoCoder gaENoCoder gtENoCoder haENoCoder hmENoCoder, err_at X H hnE htE aENoCount kENoCount xENoCount bENoCount tyENoCount hdENoCount gaENoCount gtENoCount haENoCount hmENoCount, err_at X H hnE htE aENoTree kENoTree xENoTree bENoTree tyENoTree hdENoTree gaENoTree gtENoTree haENoTree hmENoTree, trivial⟩ trivial veE trivial, bl_of X H ⟨z0, z1, z2, z3, z4, z5, z6, z7, z8, z9, z10, z11, z12, z13, z14, z15, z16, z17, trivial⟩, look_all ⟨gl_int X H g0, gl_int X H g1, gl_int X H g2, trivial⟩, alln_all ⟨⟨_, rfl, def_at X H (d := d_is_whole) a0 l0 c0 k0 c_is_whole (fun _ _ _ _ _ _ us hl => match us, hl with | [_], _ => rfl)⟩, ⟨_, rfl, def_at X H (d := d_is_within) a1 l1 c1 k1 c_is_within (fun _ _ _ _ _ _ us hl => match us, hl with | [_, _, _], _ => rfl)⟩, ⟨_, rfl, def_at X H (d := d_is_coder) a2 l2 c2 k2 c_is_coder (fun _ _ _ _ _ _ us hl => match us, hl with | [_], _ => rfl)⟩, ⟨_, rfl, def_at X H (d := d_need_coder) a3 l3 c3 k3 c_need_coder (fun _ _ _ _ _ _ us hl => match us, hl with | [_], _ => rfl)⟩, ⟨_, rfl, def_at X H (d := d_stepped) a4 l4 c4 k4 c_stepped (fun _ _ _ _ _ _ us hl => match us, hl with | [_], _ => rfl)⟩, ⟨_, rfl, def_at X H (d := d_led) a5 l5 c5 k5 c_led (fun _ _ _ _ _ _ us hl => match us, hl with | [_], _ => rfl)⟩, ⟨_, rfl, def_at X H (d := d_leads_here) a6 l6 c6 k6 c_leads_here (fun _ _ _ _ _ _ us hl => match us, hl with | [_], _ => rfl)⟩, ⟨_, rfl, def_at X H (d := d_to_round) a7 l7 c7 k7 c_to_round (fun _ _ _ _ _ _ us hl => match us, hl with | [_], _ => rfl)⟩, ⟨_, rfl, def_at X H (d := d_need_many_places) a8 l8 c8 k8 c_need_many_places (fun _ _ _ _ _ _ us hl => match us, hl with | [_, _], _ => rfl)⟩, ⟨_, rfl, def_at X H (d := d_all_come_home) a9 l9 c9 k9 c_all_come_home (fun _ _ _ _ _ _ us hl => match us, hl with | [_], _ => rfl)⟩, ⟨_, rfl, def_at X H (d := d_is_tree) a10 l10 c10 k10 c_is_tree (fun _ _ _ _ _ _ us hl => match us, hl with | [_, _], _ => rfl)⟩, ⟨_, rfl, def_at X H (d := d_tree_of) a11 l11 c11 k11 c_tree_of (fun _ _ _ _ _ _ us hl => match us, hl with | [_], _ => rfl)⟩, ⟨_, rfl, def_at X H (d := d_coder_of) a12 l12 c12 k12 c_coder_of (fun _ _ _ _ _ _ us hl => match us, hl with | [_, _], _ => rfl)⟩, ⟨_, rfl, def_at X H (d := d_all_trees) a13 l13 c13 k13 c_all_trees (fun _ _ _ _ _ _ us hl => match us, hl with | [_], _ => rfl)⟩, ⟨_, rfl, def_at X H (d := d__law_urn) a14 l14 c14 k14 c__law_urn (fun _ _ _ _ _ _ us hl => match us, hl with | [_], _ => rfl)⟩, ⟨_, rfl, def_at X H (d := d__law_pull) a15 l15 c15 k15 c__law_pull (fun _ _ _ _ _ _ us hl => match us, hl with | [_, _], _ => rfl)⟩, ⟨_, rfl, def_at X H (d := d__law_home) a16 l16 c16 k16 c__law_home (fun _ _ _ _ _ _ us hl => match us, hl with | [_, _], _ => rfl)⟩, ⟨_, rfl, def_at X H (d := d__law_all) a17 l17 c17 k17 c__law_all (fun _ _ _ _ _ _ us hl => match us, hl with | [_], _ => rfl)⟩, ⟨_, rfl, def_at X H (d := d_law) a18 l18 c18 k18 c_law (fun _ _ _ _ _ _ us hl => match us, hl with | [_], _ => rfl)⟩, trivial⟩, alln_all trivial⟩, ?_⟩
  exact ⟨q18, _, topS 30, d_law, _, _, _, _, _, _, _, _, _, _, f_law_v13, PySem.W.mg_of X H a18, rfl, l18, c18, c_law, rfl, rfl, fun s v => .of_eq rfl⟩
theorem at__law_urn (cl : Str → Nat) (n : Nat) : Sp ((G cl).calls (n + 1)) "_law_urn" [] S__law_urn := sp_at (G cl) (n) rfl rfl (p__law_urn (C := (G cl).calls (n)) )
theorem at__law_pull (cl : Str → Nat) (n : Nat) : Sp ((G cl).calls (n + 1)) "_law_pull" [0] S__law_pull := sp_at (G cl) (n) rfl rfl (p__law_pull (C := (G cl).calls (n)) )
theorem at__law_home (cl : Str → Nat) (n : Nat) : Sp ((G cl).calls (n + 1)) "_law_home" [] S__law_home := sp_at (G cl) (n) rfl rfl (p__law_home (C := (G cl).calls (n)) )
theorem at__law_all (cl : Str → Nat) (n : Nat) : Sp ((G cl).calls (n + 2)) "_law_all" [] S_all_trees := sp_at (G cl) (n + 1) rfl rfl (p__law_all (C := (G cl).calls (n + 1)) (h__law_home := at__law_home cl n))
theorem at_is_whole (cl : Str → Nat) (n : Nat) : Sp ((G cl).calls (n + 1)) "is_whole" [] S_is_whole := sp_at (G cl) (n) rfl rfl (p_is_whole (C := (G cl).calls (n)) )
theorem at_is_within (cl : Str → Nat) (n : Nat) : Sp ((G cl).calls (n + 2)) "is_within" [] S_is_within := sp_at (G cl) (n + 1) rfl rfl (p_is_within (C := (G cl).calls (n + 1)) (h_is_whole := at_is_whole cl n))
theorem at_need_many_places (cl : Str → Nat) (n : Nat) : Sp ((G cl).calls (n + 3)) "need_many_places" [] S_need_many_places := sp_at (G cl) (n + 2) rfl rfl (p_need_many_places (C := (G cl).calls (n + 2)) (h_is_within := at_is_within cl n))
theorem at_all_come_home (cl : Str → Nat) (n : Nat) : Sp ((G cl).calls (n + 1)) "all_come_home" [] S_all_come_home := sp_at (G cl) (n) rfl rfl (p_all_come_home (C := (G cl).calls (n)) )
theorem at_all_trees (cl : Str → Nat) (n : Nat) : Sp ((G cl).calls (n + 4)) "all_trees" [] S_all_trees := sp_at (G cl) (n + 3) rfl rfl (p_all_trees (C := (G cl).calls (n + 3)) (h_need_many_places := at_need_many_places cl n) (h_all_come_home := at_all_come_home cl (n + 2)) (g_MOST_LISTED := rfl))
theorem at_is_tree (cl : Str → Nat) (n : Nat) : Sp ((G cl).calls (n + 4)) "is_tree" [] S_is_tree := sp_at (G cl) (n + 3) rfl rfl (p_is_tree (C := (G cl).calls (n + 3)) (h_need_many_places := at_need_many_places cl n) (h_is_within := at_is_within cl (n + 1)) (h_all_come_home := at_all_come_home cl (n + 2)) (g_MOST_PLACES := rfl))
theorem at_coder_of (cl : Str → Nat) (n : Nat) : Sp ((G cl).calls (n + 5)) "coder_of" [] S_coder_of := sp_at (G cl) (n + 4) rfl rfl (p_coder_of (C := (G cl).calls (n + 4)) (h_is_tree := at_is_tree cl n))
theorem at_is_coder (cl : Str → Nat) (n : Nat) : Sp ((G cl).calls (n + 3)) "is_coder" [] S_is_coder := sp_at (G cl) (n + 2) rfl rfl (p_is_coder (C := (G cl).calls (n + 2)) (h_is_whole := at_is_whole cl (n + 1)) (h_is_within := at_is_within cl n) (g_MOST_PLACES := rfl))
theorem at_need_coder (cl : Str → Nat) (n : Nat) : Sp ((G cl).calls (n + 4)) "need_coder" [] S_need_coder := sp_at (G cl) (n + 3) rfl rfl (p_need_coder (C := (G cl).calls (n + 3)) (h_is_coder := at_is_coder cl n))
theorem at_led (cl : Str → Nat) (n : Nat) : Sp ((G cl).calls (n + 1)) "led" [] S_led := sp_at (G cl) (n) rfl rfl (p_led (C := (G cl).calls (n)) )
theorem at_leads_here (cl : Str → Nat) (n : Nat) : Sp ((G cl).calls (n + 2)) "leads_here" [] S_leads_here := sp_at (G cl) (n + 1) rfl rfl (p_leads_here (C := (G cl).calls (n + 1)) (h_led := at_led cl n))
theorem at_stepped (cl : Str → Nat) (n : Nat) : Sp ((G cl).calls (n + 1)) "stepped" [] S_stepped := sp_at (G cl) (n) rfl rfl (p_stepped (C := (G cl).calls (n)) )
theorem at_to_round (cl : Str → Nat) (n : Nat) : Sp ((G cl).calls (n + 3)) "to_round" [] S_to_round := sp_at (G cl) (n + 2) rfl rfl (p_to_round (C := (G cl).calls (n + 2)) (h_leads_here := at_leads_here cl n) (h_stepped := at_stepped cl (n + 1)))
theorem at_tree_of (cl : Str → Nat) (n : Nat) : Sp ((G cl).calls (n + 5)) "tree_of" [] S_tree_of := sp_at (G cl) (n + 4) rfl rfl (p_tree_of (C := (G cl).calls (n + 4)) (h_need_coder := at_need_coder cl n) (h_to_round := at_to_round cl (n + 1)) (h_stepped := at_stepped cl (n + 3)) (h_led := at_led cl (n + 3)))
theorem at_law (cl : Str → Nat) (n : Nat) : Sp ((G cl).calls (n + 6)) "law" [] S_law := sp_at (G cl) (n + 5) rfl rfl (p_law_v13 (C := (G cl).calls (n + 5)) (h__law_urn := at__law_urn cl (n + 4)) (h__law_pull := at__law_pull cl (n + 4)) (h__law_all := at__law_all cl (n + 3)) (h_all_trees := at_all_trees cl (n + 1)) (h_is_tree := at_is_tree cl (n + 1)) (h_coder_of := at_coder_of cl n) (h_tree_of := at_tree_of cl n))
theorem plain (cl : Str → Nat) : Plain (G cl) 63 (5 + 1) := fun ns hn _ => ⟨[none], [], (at_law cl 0).ok ns [] hn⟩
end k20
end Lp
open PySem PySem.W PyProof.Rows
set_option maxHeartbeats 0 in
theorem PySem.Challenge.cw_looplearn_k20_all_trees_holds : PySem.Challenge.rw_looplearn_k20_all_trees.Holds := by
  w_on; o_law; k_head; (case hw => w_witness2)
  k_fill
  refine Lp.walk_g (l := PySem.Challenge.rw_looplearn_k20_all_trees) (n := 63) (k := 5) (x := "script") (G := Lp.k20.G) (tops := Lp.k20.tops) (cs := Lp.k20.cs) rfl (by decide) rfl ⟨rfl, by decide, by decide⟩ (fun w h Y => PySem.W.kIn_of Y) rfl ?F Lp.k20.plain
  case F =>
    intro w mg h KX GX
    refine' Lp.k20.mk KX GX ?uaENoCoder ?utyENoCoder ?uhdENoCoder ?ukENoCoder ?uxENoCoder ?ubENoCoder ?ugaENoCoder ?ugtENoCoder ?uhaENoCoder ?uhmENoCoder ?uaENoCount ?utyENoCount ?uhdENoCount ?ukENoCount ?uxENoCount ?ubENoCount ?ugaENoCount ?ugtENoCount ?uhaENoCount ?uhmENoCount ?uaENoTree ?utyENoTree ?uhdENoTree ?ukENoTree ?uxENoTree ?ubENoTree ?ugaENoTree ?ugtENoTree ?uhaENoTree ?uhmENoTree ?uveE ?uhnE ?uhtE ?ua0 ?ul0 ?uc0 ?uk0 ?ua1 ?ul1 ?uc1 ?uk1 ?ua2 ?ul2 ?uc2 ?uk2 ?ua3 ?ul3 ?uc3 ?uk3 ?ua4 ?ul4 ?uc4 ?uk4 ?ua5 ?ul5 ?uc5 ?uk5 ?ua6 ?ul6 ?uc6 ?uk6 ?ua7 ?ul7 ?uc7 ?uk7 ?ua8 ?ul8 ?uc8 ?uk8 ?ua9 ?ul9 ?uc9 ?uk9 ?ua10 ?ul10 ?uc10 ?uk10 ?ua11 ?ul11 ?uc11 ?uk11 ?ua12 ?ul12 ?uc12 ?uk12 ?ua13 ?ul13 ?uc13 ?uk13 ?ua14 ?ul14 ?uc14 ?uk14 ?ua15 ?ul15 ?uc15 ?uk15 ?ua16 ?ul16 ?uc16 ?uk16 ?ua17 ?ul17 ?uc17 ?uk17 ?ua18 ?ul18 ?uc18 ?uk18 ?ug0 ?ug1 ?ug2 ?uz0 ?uz1 ?uz2 ?uz3 ?uz4 ?uz5 ?uz6 ?uz7 ?uz8 ?uz9 ?uz10 ?uz11 ?uz12 ?uz13 ?uz14 ?uz15 ?uz16 ?uz17
    (case uaENoCoder => k_is); (case utyENoCoder => k_is); (case uhdENoCoder => k_is); (case ukENoCoder => k_is); (case uxENoCoder => k_exc); (case ubENoCoder => k_is); (case ugaENoCoder => k_is); (case ugtENoCoder => k_is); (case uhaENoCoder => k_is); (case uhmENoCoder => k_is); (case uaENoCount => k_is); (case utyENoCount => k_is); (case uhdENoCount => k_is); (case ukENoCount => k_is); (case uxENoCount => k_exc); (case ubENoCount => k_is); (case ugaENoCount => k_is); (case ugtENoCount => k_is); (case uhaENoCount => k_is); (case uhmENoCount => k_is); (case uaENoTree => k_is); (case utyENoTree => k_is); (case uhdENoTree => k_is); (case ukENoTree => k_is); (case uxENoTree => k_exc); (case ubENoTree => k_is); (case ugaENoTree => k_is); (case ugtENoTree => k_is); (case uhaENoTree => k_is); (case uhmENoTree => k_is); (case uveE => k_is); (case uhnE => k_is); (case uhtE => k_is); (case ua0 => k_is); (case ul0 => k_is); (case uc0 => k_is); (case uk0 => k_is); (case ua1 => k_is); (case ul1 => k_is); (case uc1 => k_is); (case uk1 => k_is); (case ua2 => k_is); (case ul2 => k_is); (case uc2 => k_is); (case uk2 => k_is); (case ua3 => k_is); (case ul3 => k_is); (case uc3 => k_is); (case uk3 => k_is); (case ua4 => k_is); (case ul4 => k_is); (case uc4 => k_is); (case uk4 => k_is); (case ua5 => k_is); (case ul5 => k_is); (case uc5 => k_is); (case uk5 => k_is); (case ua6 => k_is); (case ul6 => k_is); (case uc6 => k_is); (case uk6 => k_is); (case ua7 => k_is); (case ul7 => k_is); (case uc7 => k_is); (case uk7 => k_is); (case ua8 => k_is); (case ul8 => k_is); (case uc8 => k_is); (case uk8 => k_is); (case ua9 => k_is); (case ul9 => k_is); (case uc9 => k_is); (case uk9 => k_is); (case ua10 => k_is); (case ul10 => k_is); (case uc10 => k_is); (case uk10 => k_is); (case ua11 => k_is); (case ul11 => k_is); (case uc11 => k_is); (case uk11 => k_is); (case ua12 => k_is); (case ul12 => k_is); (case uc12 => k_is); (case uk12 => k_is); (case ua13 => k_is); (case ul13 => k_is); (case uc13 => k_is); (case uk13 => k_is); (case ua14 => k_is); (case ul14 => k_is); (case uc14 => k_is); (case uk14 => k_is); (case ua15 => k_is); (case ul15 => k_is); (case uc15 => k_is); (case uk15 => k_is); (case ua16 => k_is); (case ul16 => k_is); (case uc16 => k_is); (case uk16 => k_is); (case ua17 => k_is); (case ul17 => k_is); (case uc17 => k_is); (case uk17 => k_is); (case ua18 => k_is); (case ul18 => k_is); (case uc18 => k_is); (case uk18 => k_is); (case ug0 => k_is); (case ug1 => k_is); (case ug2 => k_is); (case uz0 => k_is); (case uz1 => k_is); (case uz2 => k_is); (case uz3 => k_is); (case uz4 => k_is); (case uz5 => k_is); (case uz6 => k_is); (case uz7 => k_is); (case uz8 => k_is); (case uz9 => k_is); (case uz10 => k_is); (case uz11 => k_is); (case uz12 => k_is); (case uz13 => k_is); (case uz14 => k_is); (case uz15 => k_is); (case uz16 => k_is); (case uz17 => k_is)
