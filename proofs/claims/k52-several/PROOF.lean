import PyProof.Rows.All
import Wide.All
import OpenK.AllK
import Wide.FinOn
import KE.SortData
import HandS.ForMost
import HandS.ForExc
import HandS.Deep
import HandS.TupAny
import HandS.Style
import HandS.Conv
import HandS.Zip
import HandS.Wide
import HandS.Walk
import HandS.IsInst
import KE.DataMinMax
import KE.OsSortAny
import KE.GoesMore
import HandS.Iter
import HandS.NoneIn
import HandS.TupSets
import HandS.Strs
import HandS.SetFor
import HandS.HeadHook1
import HandS.ExcIs
import HandS.Defaults
import HandS.HeadHook2
import KE.KStateDown
import HandS.Ends
import HandS.More
import HandS.Words
import HandS.WordsExc
import HandS.Head0
import HandS.Head1
import HandS.Head2
import HandS.HeadEnd
import PySem.Challenge.RW_clapcanons_k52_several
set_option Elab.async false
set_option linter.all false
set_option maxRecDepth 100000
namespace Cl
open PySem

/-! ### plain data -/
inductive D where
  | non
  | bl (b : Bool)
  | int (i : Int)
  | str (x : Str)
  | tup (ds : List D)
  | lst (ds : List D)
  | scr (ns : List Int)

mutual
def D.pd : D → PyData
  | .non => .none
  | .bl b => .bool b
  | .int i => .int i
  | .str x => .str x
  | .tup ds => .tuple (D.pds ds)
  | .lst ds => .list (D.pds ds)
  | .scr ns => .list (ns.map PyData.int)
def D.pds : List D → List PyData
  | [] => []
  | d :: ds => d.pd :: D.pds ds
end
theorem pds_map : ∀ ds : List D, D.pds ds = ds.map D.pd
  | [] => by simp [D.pds]
  | d :: ds => by simp [D.pds, pds_map ds]

/-- answers: a value, an exception of the class c, or: not served -/
inductive R (α : Type) where
  | ok (a : α)
  | exc (c : Nat)
  | bad
def R.bind {α β : Type} : R α → (α → R β) → R β
  | .ok a, f => f a
  | .exc c, _ => .exc c
  | .bad, _ => .bad
def R.ofO {α : Type} : Option α → R α
  | some a => .ok a
  | none => .bad
@[simp] theorem R.bind_ok {α β : Type} (a : α) (f : α → R β) : (R.ok a).bind f = f a := rfl
@[simp] theorem R.bind_exc {α β : Type} (c : Nat) (f : α → R β) : (R.exc c : R α).bind f = .exc c := rfl
@[simp] theorem R.bind_bad {α β : Type} (f : α → R β) : (R.bad : R α).bind f = .bad := rfl
@[simp] theorem R.ofO_some {α : Type} (a : α) : R.ofO (some a) = .ok a := rfl
@[simp] theorem R.ofO_none {α : Type} : R.ofO (none : Option α) = .bad := rfl

/-! ### what the operators give -/
def ints? : List D → Option (List Int)
  | [] => some []
  | .int i :: r => (ints? r).map (i :: ·)
  | _ :: _ => none
def bools? : List D → Option (List Bool)
  | [] => some []
  | .bl b :: r => (bools? r).map (b :: ·)
  | _ :: _ => none
def strs? : List D → Option (List Str)
  | [] => some []
  | .str b :: r => (strs? r).map (b :: ·)
  | _ :: _ => none
theorem ints?_map : ∀ ns : List Int, ints? (ns.map D.int) = some ns
  | [] => rfl
  | n :: ns => by simp [ints?, ints?_map ns]
theorem bools?_map : ∀ ns : List Bool, bools? (ns.map D.bl) = some ns
  | [] => rfl
  | n :: ns => by simp [bools?, bools?_map ns]
theorem strs?_map : ∀ ns : List Str, strs? (ns.map D.str) = some ns
  | [] => rfl
  | n :: ns => by simp [strs?, strs?_map ns]
theorem ints?_some : ∀ {ds : List D} {ns : List Int}, ints? ds = some ns → ds = ns.map D.int
  | [], _, h => by simp [ints?] at h; subst h; rfl
  | .int i :: r, _, h => by
    simp only [ints?, Option.map_eq_some_iff] at h
    obtain ⟨m, h1, rfl⟩ := h
    rw [ints?_some h1]; rfl
  | .non :: _, _, h | .bl _ :: _, _, h | .str _ :: _, _, h | .tup _ :: _, _, h | .lst _ :: _, _, h | .scr _ :: _, _, h => by simp [ints?] at h
theorem bools?_some : ∀ {ds : List D} {ns : List Bool}, bools? ds = some ns → ds = ns.map D.bl
  | [], _, h => by simp [bools?] at h; subst h; rfl
  | .bl i :: r, _, h => by
    simp only [bools?, Option.map_eq_some_iff] at h
    obtain ⟨m, h1, rfl⟩ := h
    rw [bools?_some h1]; rfl
  | .non :: _, _, h | .int _ :: _, _, h | .str _ :: _, _, h | .tup _ :: _, _, h | .lst _ :: _, _, h | .scr _ :: _, _, h => by simp [bools?] at h
theorem strs?_some : ∀ {ds : List D} {ns : List Str}, strs? ds = some ns → ds = ns.map D.str
  | [], _, h => by simp [strs?] at h; subst h; rfl
  | .str i :: r, _, h => by
    simp only [strs?, Option.map_eq_some_iff] at h
    obtain ⟨m, h1, rfl⟩ := h
    rw [strs?_some h1]; rfl
  | .non :: _, _, h | .int _ :: _, _, h | .bl _ :: _, _, h | .tup _ :: _, _, h | .lst _ :: _, _, h | .scr _ :: _, _, h => by simp [strs?] at h

inductive BOp where
  | add | sub | mul | fdiv | mod | pow
  deriving DecidableEq
def big : Int := 18446744073709551616
def lim : Nat := 16777216
def repl {α : Type} (n : Nat) (xs : List α) : List α := (List.replicate n xs).flatten
def bopF : BOp → D → D → Option D
  | .add, .int i, .int j => some (.int (i + j))
  | .add, .tup a, .tup b => if a.length + b.length ≤ lim then some (.tup (a ++ b)) else none
  | .add, .lst a, .lst b => if a.length + b.length ≤ lim then some (.lst (a ++ b)) else none
  | .add, .str a, .str b => if a.length + b.length ≤ lim then some (.str (a ++ b)) else none
  | .sub, .int i, .int j => some (.int (i - j))
  | .mul, .int i, .int j => if (-big < i ∧ i < big) ∨ (-big < j ∧ j < big) then some (.int (i * j)) else none
  | .mul, .lst a, .int j => if 0 ≤ j ∧ j ≤ 100000 ∧ a.length * j.toNat ≤ lim then some (.lst (repl j.toNat a)) else none
  | .mul, .str a, .int j => if 0 ≤ j ∧ j ≤ 100000 ∧ a.length * j.toNat ≤ lim then some (.str (Txt.mul a j)) else none
  | .fdiv, .int i, .int j => if 0 < j ∧ j < big then some (.int (i / j)) else none
  | .mod, .int i, .int j => if 0 < j then some (.int (i % j)) else none
  | .pow, .int i, .int j => if 0 ≤ j ∧ j ≤ 1000 ∧ -big < i ∧ i < big then some (.int (i ^ j.toNat)) else none
  | _, _, _ => none

inductive COp where
  | eq | ne | lt | le | gt | ge | isin | notin | is | isnot
  deriving DecidableEq
/-- the data that == serves: no deeper than 64 -/
def D.okD (d : D) : Bool := SeqAt.shaped d.pd
def deq (d e : D) : Bool := PyData.eqv d.pd e.pd
def isNonD : D → Bool
  | .non => true
  | _ => false
def copF : COp → D → D → Option Bool
  | .eq, d, e => if d.okD && e.okD then some (deq d e) else none
  | .ne, d, e => if d.okD && e.okD then some (!deq d e) else none
  | .lt, .int i, .int j => some (decide (i < j))
  | .lt, .tup a, .tup b => match ints? a, ints? b with
    | some x, some y => some (HT.lexLt x y)
    | _, _ => none
  | .le, .int i, .int j => some (decide (i ≤ j))
  | .gt, .int i, .int j => some (decide (j < i))
  | .ge, .int i, .int j => some (decide (j ≤ i))
  | .isin, d, .lst ds => if d.okD && (D.lst ds).okD then some (ds.any fun z => deq z d) else none
  | .isin, d, .tup ds => if d.okD && (D.tup ds).okD then some (ds.any fun z => deq z d) else none
  | .isin, .str a, .str b => some (!(Builtin.Str.occurrences b a 0 b.length 1).isEmpty)
  | .notin, d, .lst ds => if d.okD && (D.lst ds).okD then some (!ds.any fun z => deq z d) else none
  | .notin, d, .tup ds => if d.okD && (D.tup ds).okD then some (!ds.any fun z => deq z d) else none
  | .is, d, .non => some (isNonD d)
  | .is, .bl a, .bl b => some (decide (a = b))
  | .isnot, d, .non => some (!isNonD d)
  | .isnot, .bl a, .bl b => some (!decide (a = b))
  | _, _, _ => none

/-! the insertion sort that sorted gives -/
def dle (d e : D) : Bool := !W.dataLt e.pd d.pd
def ins {α : Type} (le : α → α → Bool) (x : α) : List α → List α
  | [] => [x]
  | y :: r => if le x y then x :: y :: r else y :: ins le x r
def isort {α : Type} (le : α → α → Bool) : List α → List α
  | [] => []
  | x :: r => ins le x (isort le r)
end Cl
set_option Elab.async false
set_option linter.all false
set_option maxRecDepth 100000
namespace Cl
open PySem

/-! ### built-in calls on values -/
inductive Ty where
  | int | bool | tuple | list | str
  deriving DecidableEq
inductive Bi where
  | len | sum | min | max | all | any | tuple | list | sorted | int
  deriving DecidableEq
inductive Mt where
  | count | index | join
  deriving DecidableEq
mutual
def D.plain : D → Bool
  | .scr _ => false
  | .tup ds => D.plains ds
  | .lst ds => D.plains ds
  | _ => true
def D.plains : List D → Bool
  | [] => true
  | d :: ds => d.plain && D.plains ds
end
def isiF : Ty → D → Bool
  | .int, .int _ => true
  | .int, .bl _ => true
  | .bool, .bl _ => true
  | .tuple, .tup _ => true
  | .list, .lst _ => true
  | .list, .scr _ => true
  | .str, .str _ => true
  | _, _ => false
def minI (x : Int) (r : List Int) : Int := r.foldl (fun a b => if b < a then b else a) x
def maxI (x : Int) (r : List Int) : Int := r.foldl (fun a b => if a < b then b else a) x
/-- sorted of data of one kind: ints, or tuples that are not empty -/
def okSort (ds : List D) : Bool :=
  (ds.all fun d => ds.all fun e => W.alike d.pd e.pd) && ds.all (fun d => decide (d.pd.depth ≤ 8)) &&
    ((ds.all fun d => match d with | .tup (_ :: _) => true | _ => false) || ds.all fun d => match d with | .int _ => true | _ => false)
def minDD (x : D) (r : List D) : D := r.foldl (fun a y => if W.dataLt y.pd a.pd then y else a) x
def biF : Bi → List D → Option D
  | .len, [.tup a] => some (.int a.length)
  | .len, [.lst a] => some (.int a.length)
  | .len, [.scr a] => some (.int a.length)
  | .len, [.str a] => if a.length ≤ lim then some (.int a.length) else none
  | .sum, [.lst a] => (ints? a).map fun ns => .int ns.sum
  | .min, [.lst a] => match a with
    | [] => none
    | x :: r => if okSort a && a.all D.plain then some (minDD x r) else none
  | .max, [.lst a] => match ints? a with
    | some (x :: r) => some (.int (maxI x r))
    | _ => none
  | .min, [.int i, .int j] => some (.int (if j < i then j else i))
  | .max, [.int i, .int j] => some (.int (if j > i then j else i))
  | .all, [.lst a] => (bools? a).map fun bs => .bl (bs.all id)
  | .any, [.lst a] => (bools? a).map fun bs => .bl (bs.any id)
  | .tuple, [.lst a] => some (.tup a)
  | .tuple, [.tup a] => some (.tup a)
  | .list, [.lst a] => some (.lst a)
  | .list, [.tup a] => some (.lst a)
  | .sorted, [.lst a] => if okSort a && decide (a.length ≤ lim) then some (.lst (isort dle a)) else none
  | .sorted, [.tup a] => if okSort a && decide (a.length ≤ lim) then some (.lst (isort dle a)) else none
  | .int, [.int i] => some (.int i)
  | _, _ => none
def mtTy : Mt → D → Bool
  | .count, .lst _ => true
  | .index, .lst _ => true
  | .join, .str _ => true
  | _, _ => false
/-- methods of lists and texts that change nothing -/
def mtF : Mt → D → List D → Option D
  | .index, .lst ds, [d] => if d.okD && (D.lst ds).okD then (ds.findIdx? fun z => deq z d).map fun j => .int (j : Nat) else none
  | .count, .lst ds, [d] => if d.okD && (D.lst ds).okD then some (.int (ds.countP (fun z => deq z d) : Nat)) else none
  | .join, .str a, [.lst ds] => (strs? ds).bind fun ys => if (ys.map (·.length)).sum + ys.length * a.length ≤ lim then some (.str (Txt.join a ys)) else none
  | _, _, _ => none

/-- xs[i] -/
def idxF : D → D → Option D
  | .lst a, .int i => L2.atI a i
  | .tup a, .int i => L2.atI a i
  | .scr a, .int i => (L2.atI a i).map D.int
  | .str a, .int i => if a.length ≤ lim then (L2.atI a.cps.toList i).map fun c => .str ⟨#[c]⟩ else none
  | _, _ => none
def cutD {α : Type} (xs : List α) (lo hi : Option Int) : List α := (xs.drop (HT.sIx xs.length 0 lo)).take (HT.sIx xs.length xs.length hi - HT.sIx xs.length 0 lo)
def slcF : D → Option Int → Option Int → Option D
  | .lst a, lo, hi => some (.lst (cutD a lo hi))
  | .tup a, lo, hi => some (.tup (cutD a lo hi))
  | .str a, lo, hi => if a.length ≤ lim then some (.str (L2.cutS a lo hi)) else none
  | _, _, _ => none
def revTF : D → Option D
  | .tup a => some (.tup a.reverse)
  | _ => none
def revF : D → Option D
  | .lst a => some (.lst a.reverse)
  | _ => none
def intD : D → R Int
  | .int i => .ok i
  | _ => .bad
def boolD : D → R Bool
  | .bl b => .ok b
  | _ => .bad
def rgI (a b : Int) : List Int := (List.range (b - a).toNat).map fun (i : Nat) => a + (i : Int)
def okRg (a b : Int) : Bool := decide (-100000 ≤ a ∧ a ≤ 100000 ∧ -100000 ≤ b ∧ b ≤ 100000)
def rgD (a b : Int) : R (List D) := if okRg a b then .ok ((rgI a b).map D.int) else .bad
/-- range(a, b, c), c positive -/
def rgC (a b c : Int) : List Int := (List.range ((b - a + c - 1) / c).toNat).map fun (i : Nat) => a + (i : Int) * c
def rgCD (a b c : Int) : R (List D) := if okRg a b && decide (0 < c ∧ c ≤ 1000) then .ok ((rgC a b c).map D.int) else .bad
def zipD : List D → List D → List D
  | a :: r, b :: s => .tup [a, b] :: zipD r s
  | _, _ => []
def enumD : Nat → List D → List D
  | _, [] => []
  | n, a :: r => .tup [.int n, a] :: enumD (n + 1) r
def strD (x : Str) : List D := x.cps.toList.map fun c => .str ⟨#[c]⟩
def strI : D → R (List D)
  | .str x => .ok (strD x)
  | _ => .bad
def itemsD : D → R (List D)
  | .lst a => .ok a
  | .tup a => .ok a
  | _ => .bad
def lstD : D → R (List D)
  | .lst a => .ok a
  | _ => .bad
def tupD : D → R (List D)
  | .tup a => .ok a
  | _ => .bad
def zipDD : D → D → R (List D)
  | .lst a, .lst b => .ok (zipD a b)
  | .tup a, .tup b => .ok (zipD a b)
  | _, _ => .bad
def optB (k : Bool) (r : R D) : R (Option D) := if k then r.bind fun y => .ok (some y) else .ok none
def optL : Option D → List D → List D
  | some y, ys => y :: ys
  | none, ys => ys

/-! ### slots -/
inductive Slot where
  | no
  | val (d : D)
  | own (ds : List D)
  | raw (v : L2.V)
abbrev Env := List Slot
def slotV : Option Slot → R D
  | some (.val d) => .ok d
  | _ => .bad
def slotO : Option Slot → R (List D)
  | some (.own ds) => .ok ds
  | _ => .bad
inductive Tg where
  | nm (i : Nat)
  | tp (is : List Nat)
def setAll : List Nat → List D → Env → R Env
  | [], [], env => .ok env
  | i :: is, d :: ds, env => setAll is ds (env.set i (.val d))
  | _, _, _ => .bad
def setTg : Tg → D → Env → R Env
  | .nm i, d, env => .ok (env.set i (.val d))
  | .tp is, .tup ds, env => setAll is ds env
  | .tp is, .lst ds, env => setAll is ds env
  | .tp _, _, _ => .bad
def wipeE (env : Env) : List Nat → Env
  | [] => env
  | v :: vs => (wipeE env vs).set v .no
def comp (f : D → R (Option D)) : List D → R (List D)
  | [] => .ok []
  | x :: r => match f x with
    | .ok o => (comp f r).bind fun ys => .ok (optL o ys)
    | _ => .bad
def compCat (f : D → R (List D)) : List D → R (List D)
  | [] => .ok []
  | x :: r => match f x with
    | .ok o => (compCat f r).bind fun ys => .ok (o ++ ys)
    | _ => .bad

/-! ### expressions -/
inductive Cst where
  | non | bl (b : Bool) | int (i : Int) | str (x : Str)
def Cst.d : Cst → D
  | .non => .non
  | .bl b => .bl b
  | .int i => .int i
  | .str x => .str x
mutual
inductive CE where
  | var (i : Nat)
  | bor (i : Nat)
  | cst (c : Cst)
  | glo (x : Str) (c : Cst)
  | bin (op : BOp) (a b : CE)
  | neg (a : CE)
  | cmp (op : COp) (a b : CE)
  | chn (op op' : COp) (a b c : CE)
  | and (a r : CE)
  | or (a r : CE)
  | one (a : CE)
  | not (a : CE)
  | ite (c a b : CE)
  | tup (es : CEs)
  | lst (es : CEs)
  | idx (a b : CE)
  | slc (a : CE) (lo hi : CO)
  | rev (a : CE)
  | revT (a : CE)
  | call (f : Nat) (es : CEs)
  | callD (f : Nat) (es : CEs)
  | callAt (fs : List Nat) (ix : CE) (es : CEs)
  | bi (b : Bi) (es : CEs)
  | meth (m : Mt) (o : CE) (es : CEs)
  | rgl (es : CEs)
  | rgt (es : CEs)
  | lc (elt : CE) (t : Tg) (it : CI) (c : CO) (vs : List Nat)
  | lc2 (elt : CE) (t : Tg) (it : CI) (c : CO) (t1 : Tg) (it1 : CI) (c1 : CO) (vs vs1 : List Nat)
  | sset (e : CE)
  | lset (e : CE)
  | isi (t : Ty) (e : CE)
inductive CEs where
  | nil
  | cons (e : CE) (r : CEs)
inductive CO where
  | none
  | some (e : CE)
inductive CI where
  | lst (e : CE)
  | tup (e : CE)
  | str (e : CE)
  | rng (es : CEs)
  | enum (e : CE)
  | enumS (e : CE)
  | zip (a b : CE)
end
def CE.isBor : CE → Bool
  | .bor _ => true
  | _ => false
def CE.isTest : CE → Bool
  | .and a r => a.isTest && r.isTest
  | .or a r => a.isTest && r.isTest
  | .one a => a.isTest
  | .not a => a.isTest
  | .var _ => true
  | .cst _ => true
  | .cmp _ _ _ => true
  | .chn _ _ _ _ _ => true
  | .call _ _ => true
  | .bi _ _ => true
  | .isi _ _ => true
  | .idx _ _ => true
  | _ => false
/-- an expression that makes a new list -/
def CE.isNew : CE → Bool
  | .lst _ => true
  | .lc _ _ _ _ _ => true
  | .lc2 _ _ _ _ _ _ _ _ _ => true
  | .bin .mul (.lst _) _ => true
  | .bin .add _ _ => true
  | _ => false
def CE.isAO : CE → Bool
  | .and _ _ => true
  | .or _ _ => true
  | .one _ => true
  | _ => false
def CI.noBor : CI → Bool
  | .lst e => !e.isBor
  | .tup e => !e.isBor
  | .str e => !e.isBor
  | .rng _ => true
  | .enum e => !e.isBor
  | .enumS e => !e.isBor
  | .zip a b => !a.isBor && !b.isBor
def Tg.inn : Tg → List Nat → Bool
  | .nm i, vs => vs.contains i
  | .tp is, vs => is.all vs.contains
/-- sorted(set(list)): ints, or tuples of ints of one length -/
def ded {α : Type} [DecidableEq α] : List α → List α
  | [] => []
  | x :: r => if x ∈ r then ded r else x :: ded r
def tups? : List D → Option (List (List Int))
  | [] => some []
  | .tup a :: r => (ints? a).bind fun x => (tups? r).map (x :: ·)
  | _ :: _ => none
def okTs (ls : List (List Int)) : Bool := decide (ls.length < 64) && (ls.isEmpty || decide (0 < (ls.headD []).length)) && ls.all fun l => decide (l.length = (ls.headD []).length) && l.all fun x => decide (0 ≤ x ∧ x < 64)
def ssetF : D → Option D
  | .lst a => match tups? a with
    | some ls => if okTs ls then some (.lst ((isort (fun x y => !HT.lexLt y x) (ded ls)).map fun t => .tup (t.map D.int))) else none
    | none => match ints? a with
      | some ns => if ns.length < 64 then some (.lst ((isort (fun x y : Int => decide (x ≤ y)) (ded ns)).map D.int)) else none
      | none => none
  | _ => none

/-- len(set(..)): ints -/
def lsetF : D → Option D
  | .lst a => (ints? a).bind fun ns => if ns.length < 1000 then some (.int ((ded ns).length : Nat)) else none
  | .tup a => (ints? a).bind fun ns => if ns.length < 1000 then some (.int ((ded ns).length : Nat)) else none
  | _ => none

/-- a call that keeps a table of its own: of a tuple of few ints, it gives an int -/
def memoArgs : List D → Bool
  | [_, .tup a] => (ints? a).isSome && decide (a.length ≤ 20)
  | _ => false
def memoR : R D → R D
  | .ok (.int v) => .ok (.int v)
  | _ => .bad
def CEs.is3 : CEs → Bool
  | .cons _ (.cons _ (.cons _ _)) => true
  | _ => false
section
variable (cl : Nat → List D → R D)
mutual
def ev : CE → Env → R D
  | .var i, env => slotV env[i]?
  | .bor i, env => (slotO env[i]?).bind fun ds => .ok (.lst ds)
  | .cst c, _ => .ok c.d
  | .glo _ c, _ => .ok c.d
  | .bin op a b, env => (ev a env).bind fun x => (ev b env).bind fun y => R.ofO (bopF op x y)
  | .neg a, env => (ev a env).bind fun x => (intD x).bind fun i => .ok (.int (-i))
  | .cmp op a b, env => (ev a env).bind fun x => (ev b env).bind fun y => R.ofO ((copF op x y).map D.bl)
  | .chn op op' a b c, env => (ev a env).bind fun x => (ev b env).bind fun y => (R.ofO (copF op x y)).bind fun k =>
      if k then (ev c env).bind fun z => R.ofO ((copF op' y z).map D.bl) else .ok (.bl false)
  | .and a r, env => (ev a env).bind fun x => (boolD x).bind fun k => if k then (if r.isBor then .bad else ev r env) else .ok (.bl false)
  | .or a r, env => (ev a env).bind fun x => (boolD x).bind fun k => if k then .ok (.bl true) else (if r.isBor then .bad else ev r env)
  | .one a, env => if a.isBor then .bad else ev a env
  | .not a, env => (ev a env).bind fun x => (boolD x).bind fun k => .ok (.bl !k)
  | .ite c a b, env => (if c.isTest then (ev c env).bind boolD else .bad).bind fun k => if k then (if a.isBor then .bad else ev a env) else (if b.isBor then .bad else ev b env)
  | .tup es, env => (evs es env).bind fun ds => if ds.length ≤ lim then .ok (.tup ds) else .bad
  | .lst es, env => (evs es env).bind fun ds => if ds.length ≤ lim then .ok (.lst ds) else .bad
  | .idx a b, env => (ev a env).bind fun x => (ev b env).bind fun y => R.ofO (idxF x y)
  | .slc a lo hi, env => (ev a env).bind fun x => (evo lo env).bind fun l => (evo hi env).bind fun h => R.ofO (slcF x l h)
  | .rev a, env => (ev a env).bind fun x => R.ofO (revF x)
  | .revT a, env => (ev a env).bind fun x => R.ofO (revTF x)
  | .call f es, env => (evs es env).bind fun ds => cl f ds
  | .callD f es, env => (evs es env).bind fun ds => if memoArgs ds then memoR (cl f ds) else .bad
  | .callAt fs ix es, env => if fs.length ≤ lim then (ev ix env).bind fun x => (intD x).bind fun i => (R.ofO (L2.atI fs i)).bind fun f => (evs es env).bind fun ds => cl f ds else .bad
  | .bi b es, env => (evb es env).bind fun ds => R.ofO (biF b ds)
  | .meth m o es, env => (ev o env).bind fun x => if mtTy m x then (evb es env).bind fun ds => R.ofO (mtF m x ds) else .bad
  | .rgl es, env => (evr es env).bind fun ds => .ok (.lst ds)
  | .rgt es, env => match es.is3 with
    | true => .bad
    | false => (evr es env).bind fun ds => .ok (.tup ds)
  | .lc elt t it c vs, env => (evi it env).bind fun ds => if ds.length ≤ lim ∧ t.inn vs = true ∧ elt.isBor = false then
      (comp (fun d => (setTg t d (wipeE env vs)).bind fun e1 => (evt c e1).bind fun k => optB k (ev elt e1)) ds).bind fun ys => .ok (.lst ys) else .bad
  | .lc2 elt t it c t1 it1 c1 vs vs1, env => (evi it env).bind fun ds => if t.inn vs = true ∧ t1.inn vs1 = true ∧ vs1.all vs.contains = true ∧ it1.noBor = true ∧ elt.isBor = false then
      (compCat (fun d => (setTg t d (wipeE env vs)).bind fun e1 => (evt c e1).bind fun k => if k then (evi it1 e1).bind fun ds1 => comp (fun d1 => (setTg t1 d1 (wipeE e1 vs1)).bind fun e2 => (evt c1 e2).bind fun k1 => optB k1 (ev elt e2)) ds1 else .ok []) ds).bind fun ys => if ys.length ≤ lim then .ok (.lst ys) else .bad else .bad
  | .sset e, env => (ev e env).bind fun x => R.ofO (ssetF x)
  | .lset e, env => (ev e env).bind fun x => R.ofO (lsetF x)
  | .isi t e, env => (ev e env).bind fun x => .ok (.bl (isiF t x))
def evs : CEs → Env → R (List D)
  | .nil, _ => .ok []
  | .cons e r, env => if e.isBor then .bad else (ev e env).bind fun d => (evs r env).bind fun ds => .ok (d :: ds)
def evb : CEs → Env → R (List D)
  | .nil, _ => .ok []
  | .cons e r, env => (ev e env).bind fun d => (evb r env).bind fun ds => .ok (d :: ds)
def evo : CO → Env → R (Option Int)
  | .none, _ => .ok none
  | .some e, env => (ev e env).bind fun x => (intD x).bind fun i => .ok (some i)
def evt : CO → Env → R Bool
  | .none, _ => .ok true
  | .some e, env => if e.isTest then (ev e env).bind boolD else .bad
def evr : CEs → Env → R (List D)
  | .cons a .nil, env => (ev a env).bind fun x => (intD x).bind fun i => rgD 0 i
  | .cons a (.cons b .nil), env => (ev a env).bind fun x => (ev b env).bind fun y => (intD x).bind fun i => (intD y).bind fun j => rgD i j
  | .cons a (.cons b (.cons c .nil)), env => (ev a env).bind fun x => (ev b env).bind fun y => (ev c env).bind fun z => (intD x).bind fun i => (intD y).bind fun j => (intD z).bind fun k => rgCD i j k
  | _, _ => .bad
def evi : CI → Env → R (List D)
  | .lst e, env => (ev e env).bind lstD
  | .tup e, env => (ev e env).bind tupD
  | .str e, env => (ev e env).bind strI
  | .rng es, env => evr es env
  | .enum e, env => (ev e env).bind fun x => (lstD x).bind fun a => .ok (enumD 0 a)
  | .enumS e, env => (ev e env).bind fun x => (strI x).bind fun a => .ok (enumD 0 a)
  | .zip a b, env => if a.isBor then .bad else if b.isBor then .bad else (ev a env).bind fun x => (ev b env).bind fun y => zipDD x y
end

/-! ### what an except suite hands back: isinstance(e, X), constants, lists, tuples, l.index(True) -/
mutual
inductive HE where
  | isx (c : Nat)
  | cst (c : Cst)
  | ite (t a b : HE)
  | tup (es : HEs)
  | idx (es : HEs)
inductive HEs where
  | nil
  | cons (e : HE) (r : HEs)
end
/-- the class c is under the class b -/
def subc (c b : Nat) : Bool := decide (c = b) || decide (b = 0)
mutual
def evh (c : Nat) : HE → Option D
  | .isx b => some (.bl (subc c b))
  | .cst k => some k.d
  | .ite t a b => (evh c t).bind fun d => match d with
    | .bl true => evh c a
    | .bl false => evh c b
    | _ => none
  | .tup es => (evhs c es).bind fun ds => if ds.length ≤ lim then some (.tup ds) else none
  | .idx es => (evhs c es).bind fun ds => if ds.length ≤ lim then mtF .index (.lst ds) [.bl true] else none
def evhs (c : Nat) : HEs → Option (List D)
  | .nil => some []
  | .cons e r => (evh c e).bind fun d => (evhs c r).bind fun ds => some (d :: ds)
end
def catchR {α : Type} (f : Nat → R α) : R α → R α
  | .exc c => f c
  | r => r

/-! ### statements -/
mutual
inductive CS where
  | asg (i : Nat) (e : CE)
  | own (i : Nat) (e : CE)
  | own2 (i j : Nat)
  | par (sw : Bool) (is : List Nat) (es : CEs)
  | unp (t : Tg) (e : CE)
  | app (i : Nat) (e : CE)
  | ext (i : Nat) (e : CE)
  | six (i : Nat) (a e : CE)
  | ite (c : CE) (a b : CSs)
  | forr (t : Tg) (it : CI) (b : CSs)
  | whl (c : CE) (b : CSs)
  | ret (e : CE)
  | retO (i : Nat)
  | exp (e : CE)
  | rse (c : Nat)
  | frz (i : Nat)
  | tryx (b : CSs) (i : Nat) (h : HE)
inductive CSs where
  | nil
  | cons (s : CS) (r : CSs)
end
inductive Fl where
  | nx (env : Env)
  | rt (d : D)
def Fl.next (k : Env → R Fl) : Fl → R Fl
  | .nx env => k env
  | .rt d => .ok (.rt d)
def forL (f : D → Env → R Fl) : List D → Env → R Fl
  | [], env => .ok (.nx env)
  | d :: r, env => (f d env).bind (Fl.next (forL f r))
def whileL (c : Env → R Bool) (f : Env → R Fl) : Nat → Env → R Fl
  | 0, _ => .bad
  | n + 1, env => (c env).bind fun k => if k then (f env).bind (Fl.next (whileL c f n)) else .ok (.nx env)
def whFuel : Nat := 2000
def evT (e : CE) (env : Env) : R Bool := if e.isTest then (ev cl e env).bind boolD else .bad
def evV (e : CE) (env : Env) : R D := if e.isBor then .bad else ev cl e env
mutual
def ex : CS → Env → R Fl
  | .asg i e, env => (evV cl e env).bind fun d => .ok (.nx (env.set i (.val d)))
  | .own i e, env => if e.isNew then (ev cl e env).bind fun d => (lstD d).bind fun ds => .ok (.nx (env.set i (.own ds))) else .bad
  | .own2 i j, env => if i = j then .bad else .ok (.nx ((env.set i (.own [])).set j (.own [])))
  | .par sw is es, env => if (sw = true ∧ is.length ≠ 2 ∧ is.length ≠ 3) ∨ 1000 < is.length then .bad else (evs cl es env).bind fun ds => (setAll is ds env).bind fun env' => .ok (.nx env')
  | .unp t e, env => (evV cl e env).bind fun d => (setTg t d env).bind fun env' => .ok (.nx env')
  | .app i e, env => (slotO env[i]?).bind fun ds => (evV cl e env).bind fun d => if ds.length < lim then .ok (.nx (env.set i (.own (ds ++ [d])))) else .bad
  | .ext i e, env => (slotO env[i]?).bind fun ds => (ev cl e env).bind fun d => (lstD d).bind fun es => if ds.length + es.length ≤ lim then .ok (.nx (env.set i (.own (ds ++ es)))) else .bad
  | .six i a e, env => (slotO env[i]?).bind fun ds => (evV cl e env).bind fun d => (ev cl a env).bind fun x => (intD x).bind fun k => (R.ofO (L2.ixN ds.length k)).bind fun j => .ok (.nx (env.set i (.own (ds.set j d))))
  | .ite c a b, env => (evT cl c env).bind fun k => if k then exs a env else exs b env
  | .forr t it b, env => if it.noBor then (evi cl it env).bind fun ds => forL (fun d e => (setTg t d e).bind fun e1 => exs b e1) ds env else .bad
  | .whl c b, env => whileL (evT cl c) (exs b) whFuel env
  | .ret e, env => (evV cl e env).bind fun d => .ok (.rt d)
  | .retO i, env => (slotO env[i]?).bind fun ds => .ok (.rt (.lst ds))
  | .exp e, env => (ev cl e env).bind fun _ => .ok (.nx env)
  | .rse c, _ => .exc c
  | .frz i, env => (slotO env[i]?).bind fun ds => .ok (.nx (env.set i (.val (.lst ds))))
  | .tryx b i h, env => catchR (fun c => (R.ofO (evh c h)).bind fun d => .ok (.rt d)) (exs b env)
def exs : CSs → Env → R Fl
  | .nil, env => .ok (.nx env)
  | .cons s r, env => (ex s env).bind (Fl.next fun env' => exs r env')
end
end

structure Fn where
  np : Nat
  ns : Nat
  body : CSs
abbrev Tab := Nat → Option Fn
def startE (np ns : Nat) (ds : List D) : Env := ds.map Slot.val ++ List.replicate (ns - np) .no
def outR : R Fl → R D
  | .ok (.nx _) => .ok .non
  | .ok (.rt d) => .ok d
  | .exc c => .exc c
  | .bad => .bad
def run (G : Tab) : Nat → Nat → List D → R D
  | 0, _, _ => .bad
  | k + 1, f, ds => (R.ofO (G f)).bind fun F => if ds.length = F.np then outR (exs (run G k) F.body (startE F.np F.ns ds)) else .bad
end Cl
set_option Elab.async false
set_option linter.all false
set_option maxRecDepth 100000
namespace Cl
open PySem L2

/-! ### data in the heap -/
abbrev Ex (H H' : Hp) : Prop := Same H H'
theorem Ex.new {H : Hp} {p : Addr} {o : HO} (h : H p = none) : Ex H (upd H p o) := fun a u e => by
  rw [upd_ne (ne_of_none e h)]
  exact e
mutual
inductive Rep (K : W.Frag) (P : Hp) : D → V → Prop
  | non : Rep K P .non .non
  | bl (b : Bool) : Rep K P (.bl b) (.bl b)
  | int (i : Int) : Rep K P (.int i) (.int i)
  | str (x : Str) : Rep K P (.str x) (.str x)
  | tup {a : Addr} {vs : List V} {ds : List D} : P a = some (.tup vs) → Reps K P ds vs → Rep K P (.tup ds) (.ref a)
  | lst {a : Addr} {vs : List V} {ds : List D} : P a = some (.lst vs) → Reps K P ds vs → Rep K P (.lst ds) (.ref a)
  | scr {a : Addr} {ns : List Int} : SqL K P a (ns.map V.int) → Rep K P (.scr ns) (.ref a)
inductive Reps (K : W.Frag) (P : Hp) : List D → List V → Prop
  | nil : Reps K P [] []
  | cons {d : D} {v : V} {ds : List D} {vs : List V} : Rep K P d v → Reps K P ds vs → Reps K P (d :: ds) (v :: vs)
end
section
variable {K : W.Frag} {P P' H H' : Hp}
theorem sqL_ex {a : Addr} {xs : List V} (e : Ex H H') (h : SqL K H a xs) : SqL K H' a xs := e.seq h
mutual
theorem Rep.mono (e : Ex P P') : ∀ (d : D) (v : V), Rep K P d v → Rep K P' d v
  | .non, _, h => by cases h; exact .non
  | .bl b, _, h => by cases h; exact .bl b
  | .int i, _, h => by cases h; exact .int i
  | .str x, _, h => by cases h; exact .str x
  | .tup ds, _, h => by
    cases h with
    | tup h1 h2 => exact .tup (e _ _ h1) (Reps.mono e ds _ h2)
  | .lst ds, _, h => by
    cases h with
    | lst h1 h2 => exact .lst (e _ _ h1) (Reps.mono e ds _ h2)
  | .scr ns, _, h => by
    cases h with
    | scr h1 => exact .scr (sqL_ex e h1)
theorem Reps.mono (e : Ex P P') : ∀ (ds : List D) (vs : List V), Reps K P ds vs → Reps K P' ds vs
  | [], _, h => by cases h; exact .nil
  | d :: ds, _, h => by
    cases h with
    | cons h1 h2 => exact .cons (Rep.mono e d _ h1) (Reps.mono e ds _ h2)
end
theorem dpAll_ints : ∀ ns : List Int, DpAll K H (ns.map V.int) (ns.map PyData.int)
  | [] => .nil
  | n :: ns => .cons (.int n) (dpAll_ints ns)
mutual
theorem Rep.dp (e : Ex P H) : ∀ (d : D) (v : V), Rep K P d v → Dp K H v d.pd
  | .non, _, h => by cases h; simpa [D.pd] using Dp.non
  | .bl b, _, h => by cases h; simpa [D.pd] using Dp.bl b
  | .int i, _, h => by cases h; simpa [D.pd] using Dp.int i
  | .str x, _, h => by cases h; simpa [D.pd] using Dp.str x
  | .tup ds, _, h => by
    cases h with
    | tup h1 h2 => simp only [D.pd]; exact .tup (SqT.of (e _ _ h1)) (Reps.dp e ds _ h2)
  | .lst ds, _, h => by
    cases h with
    | lst h1 h2 => simp only [D.pd]; exact .lst (SqL.of (e _ _ h1)) (Reps.dp e ds _ h2)
  | .scr ns, _, h => by
    cases h with
    | scr h1 => simp only [D.pd]; exact .lst (sqL_ex e h1) (dpAll_ints ns)
theorem Reps.dp (e : Ex P H) : ∀ (ds : List D) (vs : List V), Reps K P ds vs → DpAll K H vs (D.pds ds)
  | [], _, h => by cases h; simpa [D.pds] using DpAll.nil
  | d :: ds, _, h => by
    cases h with
    | cons h1 h2 => simp only [D.pds]; exact .cons (Rep.dp e d _ h1) (Reps.dp e ds _ h2)
end
theorem Reps.length : ∀ {ds : List D} {vs : List V}, Reps K P ds vs → ds.length = vs.length
  | _, _, .nil => rfl
  | _, _, .cons _ t => by simp [Reps.length t]
theorem Reps.append : ∀ {ds es : List D} {vs ws : List V}, Reps K P ds vs → Reps K P es ws → Reps K P (ds ++ es) (vs ++ ws)
  | _, _, _, _, .nil, s => s
  | _, _, _, _, .cons r t, s => .cons r (Reps.append t s)
theorem Reps.take : ∀ {ds : List D} {vs : List V} (n : Nat), Reps K P ds vs → Reps K P (ds.take n) (vs.take n)
  | _, _, 0, _ => by simpa using Reps.nil
  | _, _, _ + 1, .nil => by simpa using Reps.nil
  | _, _, n + 1, .cons r t => .cons r (Reps.take n t)
theorem Reps.drop : ∀ {ds : List D} {vs : List V} (n : Nat), Reps K P ds vs → Reps K P (ds.drop n) (vs.drop n)
  | _, _, 0, r => r
  | _, _, _ + 1, .nil => by simpa using Reps.nil
  | _, _, n + 1, .cons _ t => Reps.drop n t
theorem Reps.get : ∀ {ds : List D} {vs : List V} {i : Nat} {d : D}, Reps K P ds vs → ds[i]? = some d → ∃ v, vs[i]? = some v ∧ Rep K P d v
  | _, _, _, _, .nil, e => by simp at e
  | _, _, 0, _, .cons r _, e => by simp at e; subst e; exact ⟨_, rfl, r⟩
  | _, _, i + 1, d, .cons _ t, e => by
    obtain ⟨v, h1, h2⟩ := Reps.get (i := i) (d := d) t (by simpa using e)
    exact ⟨v, by simpa using h1, h2⟩
theorem Reps.getV : ∀ {ds : List D} {vs : List V} {i : Nat} {v : V}, Reps K P ds vs → vs[i]? = some v → ∃ d, ds[i]? = some d ∧ Rep K P d v
  | _, _, _, _, .nil, e => by simp at e
  | _, _, 0, _, .cons r _, e => by simp at e; subst e; exact ⟨_, rfl, r⟩
  | _, _, i + 1, d, .cons _ t, e => by
    obtain ⟨v, h1, h2⟩ := Reps.getV (i := i) (v := d) t (by simpa using e)
    exact ⟨v, by simpa using h1, h2⟩
theorem Reps.set {d : D} {v : V} (r : Rep K P d v) : ∀ {ds : List D} {vs : List V} (i : Nat), Reps K P ds vs → Reps K P (ds.set i d) (vs.set i v)
  | _, _, _, .nil => .nil
  | _, _, 0, .cons _ t => .cons r t
  | _, _, i + 1, .cons q t => .cons q (Reps.set r i t)
theorem Reps.reverse : ∀ {ds : List D} {vs : List V}, Reps K P ds vs → Reps K P ds.reverse vs.reverse
  | _, _, .nil => by simpa using Reps.nil
  | _, _, .cons r t => by
    rw [List.reverse_cons, List.reverse_cons]
    exact Reps.append (Reps.reverse t) (.cons r .nil)
theorem Reps.rep {ds : List D} {vs : List V} (h : Reps K P ds vs) : ∀ n : Nat, Reps K P (repl n ds) (List.replicate n vs).flatten
  | 0 => by simpa [repl] using Reps.nil
  | n + 1 => by
    rw [repl, List.replicate_succ, List.replicate_succ, List.flatten_cons, List.flatten_cons]
    exact Reps.append h (Reps.rep h n)
theorem Reps.intsV : ∀ {ns : List Int} {vs : List V}, Reps K P (ns.map D.int) vs → vs = ns.map V.int
  | [], _, h => by cases h; rfl
  | n :: ns, _, h => by
    cases h with
    | cons h1 h2 => cases h1; rw [Reps.intsV h2]; rfl
theorem Reps.blsV : ∀ {ns : List Bool} {vs : List V}, Reps K P (ns.map D.bl) vs → vs = ns.map V.bl
  | [], _, h => by cases h; rfl
  | n :: ns, _, h => by
    cases h with
    | cons h1 h2 => cases h1; rw [Reps.blsV h2]; rfl
theorem Reps.strsV : ∀ {ns : List Str} {vs : List V}, Reps K P (ns.map D.str) vs → vs = ns.map V.str
  | [], _, h => by cases h; rfl
  | n :: ns, _, h => by
    cases h with
    | cons h1 h2 => cases h1; rw [Reps.strsV h2]; rfl
theorem reps_ints : ∀ ns : List Int, Reps K P (ns.map D.int) (ns.map V.int)
  | [] => .nil
  | n :: ns => .cons (.int n) (reps_ints ns)
theorem reps_bls : ∀ ns : List Bool, Reps K P (ns.map D.bl) (ns.map V.bl)
  | [] => .nil
  | n :: ns => .cons (.bl n) (reps_bls ns)
end

/-! ### how the heap grows: P what does not change any more, H all -/
structure Ext (P H P' H' : Hp) : Prop where
  h : Ex H H'
  p : Ex P P'
  ph : Ex P' H'
  fr : ∀ a, P a = none → H a ≠ none → P' a = none
theorem Ext.refl {P H : Hp} (e : Ex P H) : Ext P H P H := ⟨Same.refl H, Same.refl P, e, fun _ h _ => h⟩
theorem Ext.trans {P H P1 H1 P2 H2 : Hp} (a : Ext P H P1 H1) (b : Ext P1 H1 P2 H2) : Ext P H P2 H2 :=
  ⟨a.h.trans b.h, a.p.trans b.p, b.ph, fun x h1 h2 => b.fr x (a.fr x h1 h2) fun z => h2 (a.h.free z)⟩
/-- a new thing that stays -/
theorem Ext.new {P H : Hp} {p : Addr} {o : HO} (e : Ex P H) (h : H p = none) : Ext P H (upd P p o) (upd H p o) :=
  ⟨Ex.new h, Ex.new (e.free h), fun a u q => by
    by_cases ha : a = p
    · subst ha; rw [upd_same] at q ⊢; exact q
    · rw [upd_ne ha] at q ⊢; exact e a u q, fun a h1 h2 => by
    have ha : a ≠ p := fun z => h2 (by rw [z]; exact h)
    rw [upd_ne ha]; exact h1⟩
/-- a new thing that may change -/
theorem Ext.newO {P H : Hp} {p : Addr} {o : HO} (e : Ex P H) (h : H p = none) : Ext P H P (upd H p o) :=
  ⟨Ex.new h, Same.refl P, fun a u q => (Ex.new h) a u (e a u q), fun _ h1 _ => h1⟩

/-- a value: it stays, or it is a list that may change, its items stay -/
def RepB (K : W.Frag) (P H : Hp) (d : D) (v : V) : Prop := Rep K P d v ∨ ∃ (a : Addr) (vs : List V) (ds : List D), d = .lst ds ∧ v = .ref a ∧ H a = some (.lst vs) ∧ Reps K P ds vs
theorem RepB.of {K : W.Frag} {P H : Hp} {d : D} {v : V} (h : Rep K P d v) : RepB K P H d v := .inl h
theorem RepB.mono {K : W.Frag} {P H P' H' : Hp} {d : D} {v : V} (e : Ext P H P' H') (h : RepB K P H d v) : RepB K P' H' d v := by
  rcases h with h | ⟨a, vs, ds, e1, e2, h1, h2⟩
  · exact .inl (h.mono e.p)
  · exact .inr ⟨a, vs, ds, e1, e2, e.h _ _ h1, h2.mono e.p⟩
theorem RepB.dp {K : W.Frag} {P H : Hp} {d : D} {v : V} (e : Ex P H) (h : RepB K P H d v) : Dp K H v d.pd := by
  rcases h with h | ⟨a, vs, ds, rfl, rfl, h1, h2⟩
  · exact h.dp e
  · simp only [D.pd]; exact .lst (SqL.of h1) (h2.dp e)
theorem RepB.lst {K : W.Frag} {P H : Hp} {ds : List D} {v : V} (e : Ex P H) (h : RepB K P H (.lst ds) v) : ∃ a vs, v = .ref a ∧ H a = some (.lst vs) ∧ Reps K P ds vs := by
  rcases h with h | ⟨a, vs, ds', e1, e2, h1, h2⟩
  · cases h with
    | lst h1 h2 => exact ⟨_, _, rfl, e _ _ h1, h2⟩
  · cases e1; exact ⟨a, vs, e2, h1, h2⟩
theorem RepB.tup {K : W.Frag} {P H : Hp} {ds : List D} {v : V} (h : RepB K P H (.tup ds) v) : ∃ a vs, v = .ref a ∧ P a = some (.tup vs) ∧ Reps K P ds vs := by
  rcases h with h | ⟨a, vs, ds', e1, _⟩
  · cases h with
    | tup h1 h2 => exact ⟨_, _, rfl, h1, h2⟩
  · cases e1
theorem RepB.int {K : W.Frag} {P H : Hp} {i : Int} {v : V} (h : RepB K P H (.int i) v) : v = .int i := by
  rcases h with h | ⟨a, vs, ds', e1, _⟩
  · cases h; rfl
  · cases e1
theorem RepB.bl {K : W.Frag} {P H : Hp} {i : Bool} {v : V} (h : RepB K P H (.bl i) v) : v = .bl i := by
  rcases h with h | ⟨a, vs, ds', e1, _⟩
  · cases h; rfl
  · cases e1
theorem RepB.str {K : W.Frag} {P H : Hp} {i : Str} {v : V} (h : RepB K P H (.str i) v) : v = .str i := by
  rcases h with h | ⟨a, vs, ds', e1, _⟩
  · cases h; rfl
  · cases e1
theorem RepB.non {K : W.Frag} {P H : Hp} {v : V} (h : RepB K P H .non v) : v = .non := by
  rcases h with h | ⟨a, vs, ds', e1, _⟩
  · cases h; rfl
  · cases e1
theorem RepB.scr {K : W.Frag} {P H : Hp} {ns : List Int} {v : V} (e : Ex P H) (h : RepB K P H (.scr ns) v) : ∃ a, v = .ref a ∧ SqL K H a (ns.map V.int) := by
  rcases h with h | ⟨a, vs, ds', e1, _⟩
  · cases h with
    | scr h1 => exact ⟨_, rfl, sqL_ex e h1⟩
  · cases e1
/-- what an operation hands back -/
inductive Res (K : W.Frag) (P H : Hp) : D → V → Hp → Prop
  | same {d : D} {v : V} : Rep K P d v → Res K P H d v H
  | newL {p : Addr} {ds : List D} {vs : List V} : H p = none → Reps K P ds vs → Res K P H (.lst ds) (.ref p) (upd H p (.lst vs))
  | newT {p : Addr} {ds : List D} {vs : List V} : H p = none → Reps K P ds vs → Res K P H (.tup ds) (.ref p) (upd H p (.tup vs))
theorem Res.keep {K : W.Frag} {P H H' : Hp} {d : D} {v : V} (e : Ex P H) (h : Res K P H d v H') : ∃ P', Ext P H P' H' ∧ Rep K P' d v := by
  cases h with
  | same h => exact ⟨P, .refl e, h⟩
  | newL hp hr => exact ⟨_, .new e hp, .lst upd_same (hr.mono (Ex.new (e.free hp)))⟩
  | newT hp hr => exact ⟨_, .new e hp, .tup upd_same (hr.mono (Ex.new (e.free hp)))⟩

/-! ### the slots -/
def SlotOk (K : W.Frag) (H0 P H : Hp) : Slot → Option (Option V) → Prop
  | .no, o => ∃ x, o = some x
  | .val d, o => ∃ v, o = some (some v) ∧ Rep K P d v
  | .raw v, o => o = some (some v)
  | .own ds, o => ∃ a vs, o = some (some (.ref a)) ∧ H0 a = none ∧ P a = none ∧ H a = some (.lst vs) ∧ Reps K P ds vs
structure EnvOk (K : W.Frag) (H0 : Hp) (env : Env) (σ : St) (P H : Hp) : Prop where
  ex : Ex P H
  len : env.length = σ.length
  at_ : ∀ (i : Nat) (s : Slot), env[i]? = some s → SlotOk K H0 P H s σ[i]?
  apart : ∀ (i j : Nat) (ds es : List D) (a b : Addr), env[i]? = some (.own ds) → env[j]? = some (.own es) → σ[i]? = some (some (.ref a)) → σ[j]? = some (some (.ref b)) → i ≠ j → a ≠ b
section
variable {K : W.Frag} {H0 P H P' H' : Hp} {env : Env} {σ : St}
theorem SlotOk.mono {s : Slot} {o : Option (Option V)} (e : Ext P H P' H') (h : SlotOk K H0 P H s o) : SlotOk K H0 P' H' s o := by
  cases s with
  | no => exact h
  | raw v => exact h
  | val d => obtain ⟨v, h1, h2⟩ := h; exact ⟨v, h1, h2.mono e.p⟩
  | own ds =>
    obtain ⟨a, vs, h1, h0, h2, h3, h4⟩ := h
    exact ⟨a, vs, h1, h0, e.fr a h2 (by rw [h3]; simp), e.h _ _ h3, h4.mono e.p⟩
theorem EnvOk.mono (e : Ext P H P' H') (h : EnvOk K H0 env σ P H) : EnvOk K H0 env σ P' H' :=
  ⟨e.ph, h.len, fun i s q => (h.at_ i s q).mono e, h.apart⟩
theorem EnvOk.lt (h : EnvOk K H0 env σ P H) {i : Nat} {s : Slot} (q : env[i]? = some s) : i < σ.length := by
  rw [← h.len]; exact (List.getElem?_eq_some_iff.mp q).1
/-- a slot is stored -/
theorem EnvOk.set {i : Nat} {d : D} {v : V} (h : EnvOk K H0 env σ P H) (r : Rep K P d v) : EnvOk K H0 (env.set i (.val d)) (σ.set i (some v)) P H := by
  refine ⟨h.ex, by simpa using h.len, fun j s q => ?_, fun a b ds es x y q1 q2 q3 q4 n => ?_⟩
  · by_cases hj : i = j
    · subst hj
      have hl : i < env.length := by simpa using (List.getElem?_eq_some_iff.mp q).1
      rw [List.getElem?_set_self hl] at q
      cases q
      exact ⟨v, by rw [List.getElem?_set_self (h.len ▸ hl)], r⟩
    · rw [List.getElem?_set_ne hj] at q ⊢
      exact h.at_ j s q
  · have n1 : i ≠ a := fun z => by
      subst z
      have hl : i < env.length := by simpa using (List.getElem?_eq_some_iff.mp q1).1
      rw [List.getElem?_set_self hl] at q1; cases q1
    have n2 : i ≠ b := fun z => by
      subst z
      have hl : i < env.length := by simpa using (List.getElem?_eq_some_iff.mp q2).1
      rw [List.getElem?_set_self hl] at q2; cases q2
    rw [List.getElem?_set_ne n1] at q1 q3
    rw [List.getElem?_set_ne n2] at q2 q4
    exact h.apart a b ds es x y q1 q2 q3 q4 n
/-- a slot is forgotten -/
theorem EnvOk.wipe1 {i : Nat} {o : Option V} (h : EnvOk K H0 env σ P H) : EnvOk K H0 (env.set i .no) (σ.set i o) P H := by
  refine ⟨h.ex, by simpa using h.len, fun j s q => ?_, fun a b ds es x y q1 q2 q3 q4 n => ?_⟩
  · by_cases hj : i = j
    · subst hj
      have hl : i < env.length := by simpa using (List.getElem?_eq_some_iff.mp q).1
      rw [List.getElem?_set_self hl] at q
      cases q
      exact ⟨o, by rw [List.getElem?_set_self (h.len ▸ hl)]⟩
    · rw [List.getElem?_set_ne hj] at q ⊢
      exact h.at_ j s q
  · have n1 : i ≠ a := fun z => by
      subst z
      have hl : i < env.length := by simpa using (List.getElem?_eq_some_iff.mp q1).1
      rw [List.getElem?_set_self hl] at q1; cases q1
    have n2 : i ≠ b := fun z => by
      subst z
      have hl : i < env.length := by simpa using (List.getElem?_eq_some_iff.mp q2).1
      rw [List.getElem?_set_self hl] at q2; cases q2
    rw [List.getElem?_set_ne n1] at q1 q3
    rw [List.getElem?_set_ne n2] at q2 q4
    exact h.apart a b ds es x y q1 q2 q3 q4 n
theorem EnvOk.wipe (h : EnvOk K H0 env σ P H) : ∀ vs : List Nat, EnvOk K H0 (wipeE env vs) (wipe σ vs) P H
  | [] => h
  | v :: vs => (h.wipe vs).wipe1
/-- a slot gets a new list of its own -/
theorem EnvOk.setO {i : Nat} {ds : List D} {vs : List V} {a : Addr} (h : EnvOk K H0 env σ P H) (h0 : H0 a = none) (hp : P a = none) (ha : H a = some (.lst vs)) (r : Reps K P ds vs)
    (ap : ∀ (j : Nat) (es : List D), env[j]? = some (.own es) → i ≠ j → σ[j]? ≠ some (some (.ref a))) : EnvOk K H0 (env.set i (.own ds)) (σ.set i (some (.ref a))) P H := by
  refine ⟨h.ex, by simpa using h.len, fun j s q => ?_, fun x y ds1 es b c q1 q2 q3 q4 n => ?_⟩
  · by_cases hj : i = j
    · subst hj
      have hl : i < env.length := by simpa using (List.getElem?_eq_some_iff.mp q).1
      rw [List.getElem?_set_self hl] at q
      cases q
      exact ⟨a, vs, by rw [List.getElem?_set_self (h.len ▸ hl)], h0, hp, ha, r⟩
    · rw [List.getElem?_set_ne hj] at q ⊢
      exact h.at_ j s q
  · by_cases n1 : i = x
    · subst n1
      have hl : i < env.length := by simpa using (List.getElem?_eq_some_iff.mp q1).1
      rw [List.getElem?_set_self (h.len ▸ hl)] at q3
      cases q3
      rw [List.getElem?_set_ne n] at q2 q4
      exact fun z => ap y es q2 n (z ▸ q4)
    · rw [List.getElem?_set_ne n1] at q1 q3
      by_cases n2 : i = y
      · subst n2
        have hl : i < env.length := by simpa using (List.getElem?_eq_some_iff.mp q2).1
        rw [List.getElem?_set_self (h.len ▸ hl)] at q4
        cases q4
        exact fun z => ap x ds1 q1 n1 (z ▸ q3)
      · rw [List.getElem?_set_ne n2] at q2 q4
        exact h.apart x y ds1 es b c q1 q2 q3 q4 n
/-- the list of a slot changes -/
theorem EnvOk.mut {i : Nat} {ds es : List D} {ws : List V} {a : Addr} (h : EnvOk K H0 env σ P H) (q : env[i]? = some (.own ds)) (hσ : σ[i]? = some (some (.ref a))) (r : Reps K P es ws) : EnvOk K H0 (env.set i (.own es)) σ P (upd H a (.lst ws)) := by
  obtain ⟨a', vs, e1, h0, hp, ha, hr⟩ := h.at_ i _ q
  rw [hσ] at e1
  cases e1
  have hl : i < env.length := (List.getElem?_eq_some_iff.mp q).1
  refine ⟨fun b u z => ?_, by simpa using h.len, fun j s q' => ?_, fun x y ds1 es1 b c q1 q2 q3 q4 n => ?_⟩
  · have nb : b ≠ a := fun w => by rw [w, hp] at z; cases z
    rw [upd_ne nb]; exact h.ex b u z
  · by_cases hj : i = j
    · subst hj
      rw [List.getElem?_set_self hl] at q'
      cases q'
      exact ⟨a, ws, hσ, h0, hp, upd_same, r⟩
    · rw [List.getElem?_set_ne hj] at q'
      have h1 := h.at_ j s q'
      cases s with
      | no => exact h1
      | raw v => exact h1
      | val d => exact h1
      | own ds2 =>
        obtain ⟨b, us, e1, z0, z1, z2, z3⟩ := h1
        have nb : b ≠ a := h.apart j i _ _ b a q' q e1 hσ (Ne.symm hj)
        exact ⟨b, us, e1, z0, z1, by rw [upd_ne nb]; exact z2, z3⟩
  · have f : ∀ (k : Nat) (zs : List D), (env.set i (.own es))[k]? = some (.own zs) → ∃ zs', env[k]? = some (.own zs') := fun k zs hk => by
      by_cases hj : i = k
      · subst hj; exact ⟨_, q⟩
      · rw [List.getElem?_set_ne hj] at hk; exact ⟨_, hk⟩
    obtain ⟨_, w1⟩ := f x ds1 q1
    obtain ⟨_, w2⟩ := f y es1 q2
    exact h.apart x y _ _ b c w1 w2 q3 q4 n
/-- the list of a slot stays from now on -/
theorem EnvOk.frz {i : Nat} {ds : List D} {vs : List V} {a : Addr} (h : EnvOk K H0 env σ P H) (q : env[i]? = some (.own ds)) (hσ : σ[i]? = some (some (.ref a))) (ha : H a = some (.lst vs)) (hr : Reps K P ds vs) (hp : P a = none) :
    EnvOk K H0 (env.set i (.val (.lst ds))) σ (upd P a (.lst vs)) H := by
  have hl : i < env.length := (List.getElem?_eq_some_iff.mp q).1
  have e : Ex P (upd P a (.lst vs)) := Ex.new hp
  refine ⟨fun b u z => ?_, by simpa using h.len, fun j s q' => ?_, fun x y ds1 es1 b c q1 q2 q3 q4 n => ?_⟩
  · by_cases hb : b = a
    · subst hb; rw [upd_same] at z; cases z; exact ha
    · rw [upd_ne hb] at z; exact h.ex b u z
  · by_cases hj : i = j
    · subst hj
      rw [List.getElem?_set_self hl] at q'
      cases q'
      exact ⟨.ref a, hσ, .lst upd_same (hr.mono e)⟩
    · rw [List.getElem?_set_ne hj] at q'
      have h1 := h.at_ j s q'
      cases s with
      | no => exact h1
      | raw v => exact h1
      | val d => obtain ⟨v, h2, h3⟩ := h1; exact ⟨v, h2, h3.mono e⟩
      | own ds2 =>
        obtain ⟨b, us, e1, z0, z1, z2, z3⟩ := h1
        have nb : b ≠ a := h.apart j i _ _ b a q' q e1 hσ (Ne.symm hj)
        exact ⟨b, us, e1, z0, by rw [upd_ne nb]; exact z1, z2, z3.mono e⟩
  · have f : ∀ (k : Nat) (zs : List D), (env.set i (.val (.lst ds)))[k]? = some (.own zs) → env[k]? = some (.own zs) := fun k zs hk => by
      by_cases hj : i = k
      · subst hj; rw [List.getElem?_set_self hl] at hk; cases hk
      · rw [List.getElem?_set_ne hj] at hk; exact hk
    exact h.apart x y _ _ b c (f x _ q1) (f y _ q2) q3 q4 n
end
end Cl
set_option Elab.async false
set_option linter.all false
set_option maxRecDepth 100000
set_option maxHeartbeats 4000000
namespace Cl
open PySem PySem.Spec PyProof.Rows L2

/-! ### the operators, by data -/
/-- a list is a new one -/
def NewIf (K : W.Frag) (P H : Hp) (d : D) (v : V) (H' : Hp) : Prop := ∀ ds, d = .lst ds → ∃ p vs, v = .ref p ∧ H p = none ∧ Reps K P ds vs ∧ H' = upd H p (.lst vs)
def rBop (K : W.Frag) (op : BOp) : R2 := fun x y H Q => ∃ (P : Hp) (d1 d2 d : D), Ex P H ∧ RepB K P H d1 x ∧ RepB K P H d2 y ∧ bopF op d1 d2 = some d ∧ ∀ v H', Res K P H d v H' → NewIf K P H d v H' → Q v H'
def rCop (K : W.Frag) (op : COp) : R2 := fun x y H Q => ∃ (P : Hp) (d1 d2 : D) (b : Bool), Ex P H ∧ RepB K P H d1 x ∧ RepB K P H d2 y ∧ copF op d1 d2 = some b ∧ Q (.bl b) H
def BOp.o : BOp → Operator
  | .add => .Add
  | .sub => .Sub
  | .mul => .Mult
  | .fdiv => .FloorDiv
  | .mod => .Mod
  | .pow => .Pow
def COp.o : COp → CmpOp
  | .eq => .Eq
  | .ne => .NotEq
  | .lt => .Lt
  | .le => .LtE
  | .gt => .Gt
  | .ge => .GtE
  | .isin => .In
  | .notin => .NotIn
  | .is => .Is
  | .isnot => .IsNot
theorem lim_eq : lim = sizeLine := by rw [sizeLine_eq]; rfl
section
variable {X : Cx}
theorem reps_nil {K : W.Frag} {P : Hp} {ds : List D} {vs : List V} (h : Reps K P ds vs) (e : vs = []) : ds = [] := by
  subst e; cases h; rfl
theorem reps_ne {K : W.Frag} {P : Hp} {ds : List D} {vs : List V} (h : Reps K P ds vs) (e : ds = []) : vs = [] := by
  subst e; cases h; rfl
theorem op_mulS : OpR X (binaryOp .Mult) (fun x y H Q => ∃ (a : Str) (j : Int), x = .str a ∧ y = .int j ∧ MulOk a j ∧ Q (.str (Txt.mul a j)) H) := by
  intro pins s σ H x y v u Q I rx ry h
  obtain ⟨a, j, rfl, rfl, hok, q⟩ := h
  obtain ⟨t, rfl⟩ := rx
  obtain ⟨t', rfl⟩ := ry
  exact SB.mul hok fun t' k => ⟨.str (Txt.mul a j), H, I.tok _, ⟨_, rfl⟩, q⟩
theorem mulOk_of {a : Str} {j : Int} (h0 : 0 ≤ j) (h1 : j ≤ 100000) (h2 : a.length * j.toNat ≤ lim) : MulOk a j := by
  have hl : a.length * j.toNat ≤ sizeLine := by rw [← lim_eq]; exact h2
  refine ⟨?_, fun hj _ hc => ?_, fun hj _ => ?_⟩
  · simp only [Bool.or_eq_false_iff, decide_eq_false_iff_not]
    omega
  · have h3 : (a.length : Int) * j ≤ 16777216 := by
      have e : j = ((j.toNat : Nat) : Int) := by omega
      rw [e, ← Int.natCast_mul]
      unfold lim at h2
      omega
    have := Int.le_ediv_of_mul_le (show 0 < j by omega) (Int.le_trans h3 (show (16777216 : Int) ≤ 2 ^ 63 - 1 by decide))
    omega
  · unfold Builtin.Str.tooLong
    simp only [gt_iff_lt, decide_eq_false_iff_not]
    omega
theorem op_bin (op : BOp) : OpR X (binaryOp op.o) (rBop X.K op) := by
  intro pins s σ H x y v u Q I rx ry h
  obtain ⟨P, d1, d2, d, e, h1, h2, hf, q⟩ := h
  cases op with
  | add =>
    cases d1 with
    | int i =>
      cases d2 <;> simp only [bopF, reduceCtorEq, Option.some.injEq] at hf
      subst hf
      obtain rfl := h1.int
      obtain rfl := h2.int
      exact op_add pins s σ H _ _ v u Q I rx ry ⟨_, _, rfl, rfl, q _ _ (.same (.int _)) (fun _ z => by cases z)⟩
    | tup a =>
      cases d2 <;> simp only [bopF, reduceCtorEq, Option.ite_none_right_eq_some, Option.some.injEq] at hf
      obtain ⟨hl, rfl⟩ := hf
      obtain ⟨a1, vs1, rfl, g1, r1⟩ := h1.tup
      obtain ⟨a2, vs2, rfl, g2, r2⟩ := h2.tup
      refine op_catA pins s σ H _ _ v u Q I rx ry ⟨a1, a2, vs1, vs2, rfl, rfl, SqT.of (e _ _ g1), SqT.of (e _ _ g2), by rw [← r1.length, ← r2.length, ← lim_eq]; exact hl, fun z => ?_, fun _ z => ?_, fun _ _ p hp => q _ _ (.newT hp (r1.append r2)) (fun _ z => by cases z)⟩
      · subst z
        obtain rfl := reps_nil r1 rfl
        exact q _ _ (.same (.tup g2 r2)) (fun _ z => by cases z)
      · subst z
        obtain rfl := reps_nil r2 rfl
        rw [List.append_nil] at q
        exact q _ _ (.same (.tup g1 r1)) (fun _ z => by cases z)
    | lst a =>
      cases d2 <;> simp only [bopF, reduceCtorEq, Option.ite_none_right_eq_some, Option.some.injEq] at hf
      obtain ⟨hl, rfl⟩ := hf
      obtain ⟨a1, vs1, rfl, g1, r1⟩ := h1.lst e
      obtain ⟨a2, vs2, rfl, g2, r2⟩ := h2.lst e
      exact op_cat pins s σ H _ _ v u Q I rx ry ⟨a1, a2, vs1, vs2, rfl, rfl, g1, g2, by rw [← r1.length, ← r2.length, ← lim_eq]; exact hl, fun p hp => q _ _ (.newL hp (r1.append r2)) (fun _ z => by cases z; exact ⟨p, _, rfl, hp, r1.append r2, rfl⟩)⟩
    | str a =>
      cases d2 <;> simp only [bopF, reduceCtorEq, Option.ite_none_right_eq_some, Option.some.injEq] at hf
      obtain ⟨hl, rfl⟩ := hf
      obtain rfl := h1.str
      obtain rfl := h2.str
      exact op_add_str pins s σ H _ _ v u Q I rx ry ⟨_, _, rfl, rfl, by rw [← lim_eq]; exact hl, q _ _ (.same (.str _)) (fun _ z => by cases z)⟩
    | _ => simp [bopF] at hf
  | sub =>
    cases d1 <;> cases d2 <;> simp only [bopF, reduceCtorEq, Option.some.injEq] at hf
    subst hf
    obtain rfl := h1.int
    obtain rfl := h2.int
    exact op_sub pins s σ H _ _ v u Q I rx ry ⟨_, _, rfl, rfl, q _ _ (.same (.int _)) (fun _ z => by cases z)⟩
  | mul =>
    cases d1 with
    | int i =>
      cases d2 <;> simp only [bopF, reduceCtorEq, Option.ite_none_right_eq_some, Option.some.injEq] at hf
      obtain ⟨hc, rfl⟩ := hf
      obtain rfl := h1.int
      obtain rfl := h2.int
      refine op_mul pins s σ H _ _ v u Q I rx ry ⟨_, _, rfl, rfl, ?_, q _ _ (.same (.int _)) (fun _ z => by cases z)⟩
      unfold CMul
      simp only [big] at hc
      omega
    | lst a =>
      cases d2 <;> simp only [bopF, reduceCtorEq, Option.ite_none_right_eq_some, Option.some.injEq] at hf
      obtain ⟨⟨hc1, hc2, hc3⟩, rfl⟩ := hf
      obtain ⟨a1, vs1, rfl, g1, r1⟩ := h1.lst e
      obtain rfl := h2.int
      exact op_rep pins s σ H _ _ v u Q I rx ry ⟨a1, _, vs1, rfl, rfl, g1, by omega, by omega, by rw [← r1.length, ← lim_eq]; exact hc3, fun p hp => q _ _ (.newL hp (r1.rep _)) (fun _ z => by cases z; exact ⟨p, _, rfl, hp, r1.rep _, rfl⟩)⟩
    | str a =>
      cases d2 <;> simp only [bopF, reduceCtorEq, Option.ite_none_right_eq_some, Option.some.injEq] at hf
      obtain ⟨⟨hc1, hc2, hc3⟩, rfl⟩ := hf
      obtain rfl := h1.str
      obtain rfl := h2.int
      exact op_mulS pins s σ H _ _ v u Q I rx ry ⟨_, _, rfl, rfl, mulOk_of hc1 hc2 hc3, q _ _ (.same (.str _)) (fun _ z => by cases z)⟩
    | _ => simp [bopF] at hf
  | fdiv =>
    cases d1 <;> cases d2 <;> simp only [bopF, reduceCtorEq, Option.ite_none_right_eq_some, Option.some.injEq] at hf
    obtain ⟨⟨hc1, hc2⟩, rfl⟩ := hf
    obtain rfl := h1.int
    obtain rfl := h2.int
    refine op_fdivW pins s σ H _ _ v u Q I rx ry ⟨_, _, rfl, rfl, wide_div (b := 64) hc1 ?_ (by decide) (by decide), q _ _ (.same (.int _)) (fun _ z => by cases z)⟩
    simp only [big] at hc2
    omega
  | mod =>
    cases d1 <;> cases d2 <;> simp only [bopF, reduceCtorEq, Option.ite_none_right_eq_some, Option.some.injEq] at hf
    obtain ⟨hc1, rfl⟩ := hf
    obtain rfl := h1.int
    obtain rfl := h2.int
    exact op_mod pins s σ H _ _ v u Q I rx ry ⟨_, _, rfl, rfl, hc1, q _ _ (.same (.int _)) (fun _ z => by cases z)⟩
  | pow =>
    cases d1 <;> cases d2 <;> simp only [bopF, reduceCtorEq, Option.ite_none_right_eq_some, Option.some.injEq] at hf
    obtain ⟨⟨hc1, hc2, hc3, hc4⟩, rfl⟩ := hf
    obtain rfl := h1.int
    obtain rfl := h2.int
    refine op_pow pins s σ H _ _ v u Q I rx ry ⟨_, _, rfl, rfl, ⟨hc1, by omega, ?_⟩, q _ _ (.same (.int _)) (fun _ z => by cases z)⟩
    simp only [big] at hc3 hc4
    omega
theorem pds_any (ds : List D) (f : PyData → Bool) : (D.pds ds).any f = ds.any fun d => f d.pd := by
  rw [pds_map, List.any_map]; rfl
theorem op_inT (hu : X.A.units + 65 < cLine) {P : Hp} {H : Hp} {x y : V} {d : D} {ds : List D} {pins : List (Addr × Obj)} {s : Shared} {σ : L2.St} {v u : Value} {Q : VK} (I : Inv X pins σ H s) (rx : RelV x v) (ry : RelV y u) (hd : Dp X.K H x d.pd) (he : Dp X.K H y (D.tup ds).pd)
    (sd : d.okD = true) (se : (D.tup ds).okD = true) (q : Q (.bl (ds.any fun z => deq z d)) H) : wpAny (model X.prog X.w) X.A (compareOp .In v u) (EP X pins σ Q) X.xe s := by
  obtain ⟨as, r1⟩ := Dp.reads I d.pd x v hd rx
  obtain ⟨bs, r2⟩ := Dp.reads I (D.tup ds).pd y u he ry
  unfold D.okD at sd se
  simp only [D.pd] at r2 se
  refine SeqAt.in_tuple_reads r2 r1 (SeqAt.canLay_of_shaped se) (SeqAt.canLay_of_shaped sd) (room_in_shaped sd hu) ⟨.bl _, H, I, rfl, ?_⟩
  rw [pds_any]; exact q
theorem op_notInT (hu : X.A.units + 65 < cLine) {P : Hp} {H : Hp} {x y : V} {d : D} {ds : List D} {pins : List (Addr × Obj)} {s : Shared} {σ : L2.St} {v u : Value} {Q : VK} (I : Inv X pins σ H s) (rx : RelV x v) (ry : RelV y u) (hd : Dp X.K H x d.pd) (he : Dp X.K H y (D.tup ds).pd)
    (sd : d.okD = true) (se : (D.tup ds).okD = true) (q : Q (.bl (!ds.any fun z => deq z d)) H) : wpAny (model X.prog X.w) X.A (compareOp .NotIn v u) (EP X pins σ Q) X.xe s := by
  obtain ⟨as, r1⟩ := Dp.reads I d.pd x v hd rx
  obtain ⟨bs, r2⟩ := Dp.reads I (D.tup ds).pd y u he ry
  unfold D.okD at sd se
  simp only [D.pd] at r2 se
  refine SeqAt.notIn_tuple_reads r2 r1 (SeqAt.canLay_of_shaped se) (SeqAt.canLay_of_shaped sd) (room_in_shaped sd hu) ⟨.bl _, H, I, rfl, ?_⟩
  rw [pds_any]; exact q
theorem rep_nonV {K : W.Frag} {P H : Hp} {d : D} {v : V} (h : RepB K P H d v) : decide (v = .non) = isNonD d := by
  rcases h with h | ⟨a, vs, ds, rfl, rfl, _⟩
  · cases h <;> simp [isNonD]
  · simp [isNonD]
theorem op_cmp (hu : X.A.units + 200 < cLine) (op : COp) : OpR X (compareOp op.o) (rCop X.K op) := by
  intro pins s σ H x y v u Q I rx ry h
  obtain ⟨P, d1, d2, b, e, h1, h2, hf, q⟩ := h
  cases op with
  | eq =>
    simp only [copF, Option.ite_none_right_eq_some, Option.some.injEq, Bool.and_eq_true] at hf
    obtain ⟨⟨o1, o2⟩, rfl⟩ := hf
    exact op_eqD (by omega) pins s σ H _ _ v u Q I rx ry ⟨_, _, h1.dp e, h2.dp e, o1, o2, q⟩
  | ne =>
    simp only [copF, Option.ite_none_right_eq_some, Option.some.injEq, Bool.and_eq_true] at hf
    obtain ⟨⟨o1, o2⟩, rfl⟩ := hf
    exact op_neD (by omega) pins s σ H _ _ v u Q I rx ry ⟨_, _, h1.dp e, h2.dp e, o1, o2, q⟩
  | lt =>
    cases d1 <;> cases d2 <;> simp only [copF, reduceCtorEq, Option.some.injEq] at hf
    · subst hf
      obtain rfl := h1.int
      obtain rfl := h2.int
      exact op_lt pins s σ H _ _ v u Q I rx ry ⟨_, _, rfl, rfl, q⟩
    · rename_i a c
      cases ea : ints? a with
      | none => rw [ea] at hf; simp at hf
      | some xs =>
        cases ec : ints? c with
        | none => rw [ea, ec] at hf; simp at hf
        | some ys =>
          rw [ea, ec] at hf
          simp only [Option.some.injEq] at hf
          subst hf
          obtain ⟨a1, vs1, rfl, g1, r1⟩ := h1.tup
          obtain ⟨a2, vs2, rfl, g2, r2⟩ := h2.tup
          rw [ints?_some ea] at r1
          rw [ints?_some ec] at r2
          rw [r1.intsV] at g1
          rw [r2.intsV] at g2
          exact op_ltT (by omega) pins s σ H _ _ v u Q I rx ry ⟨a1, a2, xs, ys, rfl, rfl, SqT.of (e _ _ g1), SqT.of (e _ _ g2), q⟩
  | le =>
    cases d1 <;> cases d2 <;> simp only [copF, reduceCtorEq, Option.some.injEq] at hf
    subst hf
    obtain rfl := h1.int
    obtain rfl := h2.int
    exact op_le pins s σ H _ _ v u Q I rx ry ⟨_, _, rfl, rfl, q⟩
  | gt =>
    cases d1 <;> cases d2 <;> simp only [copF, reduceCtorEq, Option.some.injEq] at hf
    subst hf
    obtain rfl := h1.int
    obtain rfl := h2.int
    exact op_gt pins s σ H _ _ v u Q I rx ry ⟨_, _, rfl, rfl, q⟩
  | ge =>
    cases d1 <;> cases d2 <;> simp only [copF, reduceCtorEq, Option.some.injEq] at hf
    subst hf
    obtain rfl := h1.int
    obtain rfl := h2.int
    exact op_ge pins s σ H _ _ v u Q I rx ry ⟨_, _, rfl, rfl, q⟩
  | isin =>
    cases d2 with
    | lst ds =>
      simp only [copF, Option.ite_none_right_eq_some, Option.some.injEq, Bool.and_eq_true] at hf
      obtain ⟨⟨o1, o2⟩, rfl⟩ := hf
      have g := h2.dp e
      unfold D.okD at o1 o2
      simp only [D.pd] at g o2
      refine op_inD (by omega) pins s σ H _ _ v u Q I rx ry ⟨_, _, h1.dp e, g, o1, o2, ?_⟩
      rw [pds_any]; exact q
    | tup ds =>
      simp only [copF, Option.ite_none_right_eq_some, Option.some.injEq, Bool.and_eq_true] at hf
      obtain ⟨⟨o1, o2⟩, rfl⟩ := hf
      exact op_inT (P := P) (by omega) I rx ry (h1.dp e) (h2.dp e) o1 o2 q
    | str c =>
      cases d1 <;> simp only [copF, reduceCtorEq, Option.some.injEq] at hf
      subst hf
      obtain rfl := h1.str
      obtain rfl := h2.str
      exact op_in_str pins s σ H _ _ v u Q I rx ry ⟨_, _, rfl, rfl, q⟩
    | _ => simp [copF] at hf
  | notin =>
    cases d2 with
    | lst ds =>
      simp only [copF, Option.ite_none_right_eq_some, Option.some.injEq, Bool.and_eq_true] at hf
      obtain ⟨⟨o1, o2⟩, rfl⟩ := hf
      have g := h2.dp e
      unfold D.okD at o1 o2
      simp only [D.pd] at g o2
      refine op_notInD (by omega) pins s σ H _ _ v u Q I rx ry ⟨_, _, h1.dp e, g, o1, o2, ?_⟩
      rw [pds_any]; exact q
    | tup ds =>
      simp only [copF, Option.ite_none_right_eq_some, Option.some.injEq, Bool.and_eq_true] at hf
      obtain ⟨⟨o1, o2⟩, rfl⟩ := hf
      exact op_notInT (P := P) (by omega) I rx ry (h1.dp e) (h2.dp e) o1 o2 q
    | _ => simp [copF] at hf
  | is =>
    cases d2 with
    | non =>
      simp only [copF, Option.some.injEq] at hf
      obtain rfl := h2.non
      refine op_isN pins s σ H _ _ v u Q I rx ry ⟨rfl, ?_⟩
      rw [rep_nonV h1, hf]; exact q
    | bl c =>
      cases d1 <;> simp only [copF, reduceCtorEq, Option.some.injEq] at hf
      subst hf
      obtain rfl := h1.bl
      obtain rfl := h2.bl
      exact op_isBl pins s σ H _ _ v u Q I rx ry ⟨_, _, rfl, rfl, q⟩
    | _ => simp [copF] at hf
  | isnot =>
    cases d2 with
    | non =>
      simp only [copF, Option.some.injEq] at hf
      obtain rfl := h2.non
      refine op_notN pins s σ H _ _ v u Q I rx ry ⟨rfl, ?_⟩
      have e2 : (!decide (x = V.non)) = b := by
        rw [rep_nonV h1, ← hf]
      rw [e2]; exact q
    | bl c =>
      cases d1 <;> simp only [copF, reduceCtorEq, Option.some.injEq] at hf
      subst hf
      obtain rfl := h1.bl
      obtain rfl := h2.bl
      exact op_notBl pins s σ H _ _ v u Q I rx ry ⟨_, _, rfl, rfl, q⟩
    | _ => simp [copF] at hf

/-! ### subscripts -/
def rIdx (K : W.Frag) : R2 := fun x y H Q => ∃ (P : Hp) (d1 d2 d : D), Ex P H ∧ RepB K P H d1 x ∧ RepB K P H d2 y ∧ idxF d1 d2 = some d ∧ ∀ v H', Res K P H d v H' → Q v H'
theorem atI_reps {K : W.Frag} {P : Hp} {ds : List D} {vs : List V} {i : Int} {d : D} (r : Reps K P ds vs) (h : atI ds i = some d) : ∃ v, atI vs i = some v ∧ Rep K P d v := by
  unfold atI at h ⊢
  rw [← r.length]
  cases e : ixN ds.length i with
  | none => rw [e] at h; simp at h
  | some j =>
    rw [e] at h
    simp only [Option.bind_some] at h ⊢
    exact r.get h
theorem atI_map {α β : Type} {f : α → β} {xs : List α} {i : Int} : atI (xs.map f) i = (atI xs i).map f := by
  unfold atI
  rw [List.length_map]
  cases ixN xs.length i <;> simp
theorem ix_data : IxR X (rIdx X.K) := by
  intro value slice pins s σ H x y v u Q I rx ry h hs
  obtain ⟨P, d1, d2, d, e, h1, h2, hf, q⟩ := h
  refine ix_seq value slice pins s σ H x y v u Q I rx ry ?_ hs
  cases d1 with
  | lst a =>
    cases d2 <;> simp only [idxF, reduceCtorEq] at hf
    obtain ⟨a1, vs1, rfl, g1, r1⟩ := h1.lst e
    obtain rfl := h2.int
    obtain ⟨w, hw, rw'⟩ := atI_reps r1 hf
    exact .inl ⟨a1, vs1, _, w, rfl, rfl, SqL.of g1, hw, q _ _ (.same rw')⟩
  | tup a =>
    cases d2 <;> simp only [idxF, reduceCtorEq] at hf
    obtain ⟨a1, vs1, rfl, g1, r1⟩ := h1.tup
    obtain rfl := h2.int
    obtain ⟨w, hw, rw'⟩ := atI_reps r1 hf
    exact .inr (.inl ⟨a1, vs1, _, w, rfl, rfl, SqT.of (e _ _ g1), hw, q _ _ (.same rw')⟩)
  | scr a =>
    cases d2 <;> simp only [idxF, reduceCtorEq, Option.map_eq_some_iff] at hf
    obtain ⟨n, hn, rfl⟩ := hf
    obtain ⟨a1, rfl, g1⟩ := h1.scr e
    obtain rfl := h2.int
    exact .inl ⟨a1, _, _, .int n, rfl, rfl, g1, by rw [atI_map, hn]; rfl, q _ _ (.same (.int n))⟩
  | str a =>
    cases d2 <;> simp only [idxF, reduceCtorEq, Option.ite_none_right_eq_some, Option.map_eq_some_iff] at hf
    obtain ⟨hl, n, hn, rfl⟩ := hf
    obtain rfl := h1.str
    obtain rfl := h2.int
    exact .inr (.inr ⟨a, _, n, rfl, rfl, by rw [← lim_eq]; exact hl, hn, q _ _ (.same (.str _))⟩)
  | _ => simp [idxF] at hf
def rSlc (K : W.Frag) : V → Option Int → Option Int → Hp → VK → Prop := fun x lo hi H Q => ∃ (P : Hp) (d1 d : D), Ex P H ∧ RepB K P H d1 x ∧ slcF d1 lo hi = some d ∧ ∀ v H', Res K P H d v H' → Q v H'
theorem cut_reps {K : W.Frag} {P : Hp} {ds : List D} {vs : List V} (r : Reps K P ds vs) (lo hi : Option Int) : Reps K P (cutD ds lo hi) (cutV vs lo hi) := by
  unfold cutD cutV
  rw [r.length]
  exact (r.drop _).take _
theorem cut_whole {α : Type} {xs : List α} {lo hi : Option Int} (h : HT.sIx xs.length 0 lo = 0 ∧ HT.sIx xs.length xs.length hi = xs.length) : cutD xs lo hi = xs := by
  unfold cutD
  rw [h.1, h.2]; simp
theorem sl_data : SlR X (rSlc X.K) := by
  intro pins s σ H x v vl vu lo hi sl Q I rx hs pl pu h
  obtain ⟨P, d1, d, e, h1, hf, q⟩ := h
  cases d1 with
  | lst a =>
    simp only [slcF, Option.some.injEq] at hf
    subst hf
    obtain ⟨a1, vs1, rfl, g1, r1⟩ := h1.lst e
    exact sl_list pins s σ H _ v vl vu lo hi sl Q I rx hs pl pu ⟨a1, vs1, rfl, SqL.of g1, fun p hp => q _ _ (.newL hp (cut_reps r1 lo hi))⟩
  | tup a =>
    simp only [slcF, Option.some.injEq] at hf
    subst hf
    obtain ⟨a1, vs1, rfl, g1, r1⟩ := h1.tup
    refine sl_tupA pins s σ H _ v vl vu lo hi sl Q I rx hs pl pu ⟨a1, vs1, rfl, SqT.of (e _ _ g1), fun z => ?_, fun _ p hp => q _ _ (.newT hp (cut_reps r1 lo hi))⟩
    rw [← r1.length] at z
    rw [cut_whole z] at q
    exact q _ _ (.same (.tup g1 r1))
  | str a =>
    simp only [slcF, Option.ite_none_right_eq_some, Option.some.injEq] at hf
    obtain ⟨hl, rfl⟩ := hf
    obtain rfl := h1.str
    exact sl_str pins s σ H _ v vl vu lo hi sl Q I rx hs pl pu ⟨a, rfl, by rw [← lim_eq]; exact hl, q _ _ (.same (.str _))⟩
  | _ => simp [slcF] at hf
end
end Cl
set_option Elab.async false
set_option linter.all false
set_option maxRecDepth 100000
set_option maxHeartbeats 4000000
namespace Cl
open PySem PySem.Spec PySem.Calls PyProof.Rows L2

/-! ### sorting -/
section
variable {prog : Program} {w : World} {A : Around} {E : Value → Shared → Prop} {s : Shared} {β : Type} {vs : List Value} {bs : List β} {enc : β → PyData} {R : Value → β → Prop}
theorem sorted_seq {it : Addr} {T : String} {o : Obj} {n : Nat} {Q : Value → Shared → Prop} (hT : T = "list" ∨ T = "tuple") (ho : s.heap.get? it = some o) (hc : o.cls = .type T) (hd : o.data = .seq vs.toArray n)
    (e : W.EachIs R vs bs) (er : W.EachIs (fun v b => ∃ as, Reads s.heap v (enc b) as) vs bs) (hal : W.AllAlike (bs.map enc)) (hk : W.Sortable (bs.map enc)) (hL : bs.length ≤ sizeLine)
    (hu : ∀ b, b ∈ bs → A.units + 2 + (enc b).depth < cLine)
    (h : ∀ (h1 hp : Heap) (a : Addr) (ep : Nat) (out : List Value), (∀ b o, s.heap.get? b = some o → h1.get? b = some o) → (∀ b o, h1.get? b = some o → hp.get? b = some o) → h1.objs.size ≤ a → hp.get? a = some { cls := .type "list", data := .seq out.toArray ep } → out.length = bs.length →
      W.EachIs R out (bs.mergeSort (W.dataLe false enc)) → Q (.ref a) { s with heap := hp }) :
    wpAny (model prog w) A (call (.builtin "sorted") [.ref it]) Q E s := by
  have hvl : vs.length ≤ sizeLine := by rw [e.length]; exact hL
  refine call_function_entry_kw kind_sorted plain_sorted entry_sorted (args_sorted1 _) ?_
  unfold Builtin.«sorted»
  refine wpAny_bind (m := checkCount "sorted" 1 1 _) (wpAny_pure ?_)
  refine wpAny_bind (wpAny_collect_seq it hT ho hc hd (fun h' k => ?_) (by rw [List.size_toArray]; exact hvl))
  rw [List.toList_toArray]
  refine wpAny_bind (wpAny_newList ?_ hvl)
  have hat : (h'.push (seqObj "list" vs.toArray 0)).get? h'.objs.size = some (seqObj "list" vs.toArray 0) := Heap.get?_push_size _ rfl
  have kp : ∀ b o, s.heap.get? b = some o → (h'.push (seqObj "list" vs.toArray 0)).get? b = some o := fun b o q => Heap.get?_push_of_some _ (k b o q)
  show wpAny _ _ _ _ _ { s with heap := h'.push (seqObj "list" vs.toArray 0) }
  refine wpAny_bind (wpAny_holding (wpAny_call_entry_kw slot_list_sort ⟨_, hat, rfl⟩ entry_list_sort ?body (args_list_sort _)))
  case body =>
    show wpAny (model prog w) A.in1.in1 (Builtin.«list.sort» ⟨[.ref h'.objs.size], []⟩) _ _ _
    have er' : W.EachIs (fun v b => ∃ as, Reads (W.sortingHeap (h'.push (seqObj "list" vs.toArray 0)) h'.objs.size vs) v (enc b) as) vs bs := er.mono fun _ _ ⟨as, r⟩ => ⟨as, PyProof.Rows.Reads.keeps (fun b o q => W.sortingHeap_old (fun z => by
      subst z
      exact absurd (Heap.lt_size (k _ _ q)) (Nat.lt_irrefl _)) (kp b o q)) r⟩
    refine wpAny_mono (W.list_sort_vals (s := { s with heap := h'.push (seqObj "list" vs.toArray 0) }) (P := fun f s' => f = .done (.ret .none) ∧ s' = { s with heap := sortedHeap (h'.push (seqObj "list" vs.toArray 0)) h'.objs.size vs (W.sortVals (W.dataKind (W.sortingHeap (h'.push (seqObj "list" vs.toArray 0)) h'.objs.size vs) (bs.map enc)) false vs vs).toArray })
      hat (W.SortsAt.data (s := { s with heap := W.sortingHeap (h'.push (seqObj "list" vs.toArray 0)) h'.objs.size vs }) (W.each_map (R := fun v d => ∃ as, Reads (W.sortingHeap (h'.push (seqObj "list" vs.toArray 0)) h'.objs.size vs) v d as) enc er') hal hk (W.bound_map hu)) hvl ⟨rfl, rfl⟩) (fun f s' hf => ?_) fun _ _ e => e
    obtain ⟨rfl, rfl⟩ := hf
    refine ⟨_, rfl, wpAny_pure ⟨_, rfl, ?_⟩⟩
    obtain ⟨ep, hep⟩ := sortedHeap_at (out := (W.sortVals (W.dataKind (W.sortingHeap (h'.push (seqObj "list" vs.toArray 0)) h'.objs.size vs) (bs.map enc)) false vs vs).toArray) hat
    refine h h' _ _ ep _ k (fun b o q => ?_) (Nat.le_refl _) hep (by rw [W.sortVals_length false rfl]; exact e.length) (W.sortVals_data false e er' hal)
    have q2 : (h'.push (seqObj "list" vs.toArray 0)).get? b = some o := Heap.get?_push_of_some _ q
    rw [sortedHeap_old (Nat.ne_of_lt (Heap.lt_size q)) (Heap.lt_size q2)]
    exact q2
end
end Cl
set_option Elab.async false
set_option linter.all false
set_option maxRecDepth 100000
set_option maxHeartbeats 4000000
namespace Cl
open PySem PySem.Spec PySem.Calls PyProof.Rows L2

/-! ### the insertion sort is the sort -/
section
variable {α : Type} {le : α → α → Bool}
theorem ins_mem {x z : α} : ∀ {l : List α}, z ∈ ins le x l ↔ z = x ∨ z ∈ l
  | [] => by simp [ins]
  | y :: r => by
    unfold ins
    split
    · simp
    · rw [List.mem_cons, ins_mem (l := r), List.mem_cons]
      constructor
      · rintro (h | h | h)
        · exact .inr (.inl h)
        · exact .inl h
        · exact .inr (.inr h)
      · rintro (h | h | h)
        · exact .inr (.inl h)
        · exact .inl h
        · exact .inr (.inr h)
theorem isort_mem {z : α} : ∀ {l : List α}, z ∈ isort le l ↔ z ∈ l
  | [] => by simp [isort]
  | y :: r => by
    unfold isort
    rw [ins_mem, isort_mem (l := r), List.mem_cons]
theorem ins_length {x : α} : ∀ {l : List α}, (ins le x l).length = l.length + 1
  | [] => rfl
  | y :: r => by
    unfold ins
    split
    · simp
    · simp [ins_length (l := r)]
theorem isort_length : ∀ {l : List α}, (isort le l).length = l.length
  | [] => rfl
  | y :: r => by
    unfold isort
    rw [ins_length, isort_length (l := r)]; rfl
theorem ins_perm {x : α} : ∀ {l : List α}, (ins le x l).Perm (x :: l)
  | [] => .refl _
  | y :: r => by
    unfold ins
    split
    · exact .refl _
    · exact (List.Perm.cons y (ins_perm (l := r))).trans (List.Perm.swap x y r)
theorem isort_perm : ∀ {l : List α}, (isort le l).Perm l
  | [] => .refl _
  | y :: r => by
    unfold isort
    exact ins_perm.trans (List.Perm.cons y (isort_perm (l := r)))
theorem ins_sorted (tr : ∀ a b c, le a b = true → le b c = true → le a c = true) (tt : ∀ a b, (le a b || le b a) = true) {x : α} : ∀ {l : List α}, l.Pairwise (fun a b => le a b = true) → (ins le x l).Pairwise (fun a b => le a b = true)
  | [], _ => by simp [ins]
  | y :: r, h => by
    unfold ins
    obtain ⟨h1, h2⟩ := List.pairwise_cons.mp h
    split
    · rename_i q
      refine List.pairwise_cons.mpr ⟨fun z hz => ?_, h⟩
      rcases List.mem_cons.mp hz with rfl | hz
      · exact q
      · exact tr _ _ _ q (h1 z hz)
    · rename_i q
      refine List.pairwise_cons.mpr ⟨fun z hz => ?_, ins_sorted tr tt h2⟩
      rcases ins_mem.mp hz with rfl | hz
      · have := tt y z
        simp only [Bool.or_eq_true] at this
        rcases this with t | t
        · exact t
        · exact absurd t q
      · exact h1 z hz
theorem isort_sorted (tr : ∀ a b c, le a b = true → le b c = true → le a c = true) (tt : ∀ a b, (le a b || le b a) = true) : ∀ {l : List α}, (isort le l).Pairwise (fun a b => le a b = true)
  | [] => .nil
  | y :: r => by
    unfold isort
    exact ins_sorted tr tt (isort_sorted tr tt (l := r))
theorem ins_filter (tr : ∀ a b c, le a b = true → le b c = true → le a c = true) (z x : α) : ∀ l : List α, (ins le x l).filter (W.Srt.alike le z) = (x :: l).filter (W.Srt.alike le z)
  | [] => rfl
  | y :: r => by
    unfold ins
    split
    · rfl
    · rename_i q
      rw [List.filter_cons, ins_filter tr z x r, List.filter_cons (x := x) (xs := y :: r), List.filter_cons (x := y) (xs := r), List.filter_cons (x := x) (xs := r)]
      by_cases hx : W.Srt.alike le z x = true
      · by_cases hy : W.Srt.alike le z y = true
        · exfalso
          unfold W.Srt.alike at hx hy
          rw [Bool.and_eq_true] at hx hy
          exact q (tr _ _ _ hx.2 hy.1)
        · simp [hy]
      · simp [hx]
theorem isort_filter (tr : ∀ a b c, le a b = true → le b c = true → le a c = true) (z : α) : ∀ l : List α, (isort le l).filter (W.Srt.alike le z) = l.filter (W.Srt.alike le z)
  | [] => rfl
  | y :: r => by
    unfold isort
    rw [ins_filter tr, List.filter_cons, isort_filter tr z r, List.filter_cons]
theorem isort_merge (tr : ∀ a b c, le a b = true → le b c = true → le a c = true) (tt : ∀ a b, (le a b || le b a) = true) (l : List α) : isort le l = l.mergeSort le :=
  W.Srt.the le tr tt (isort_sorted tr tt) fun z => isort_filter tr z l
end
theorem dle_eq : dle = W.dataLe false D.pd := rfl
theorem dle_trans (a b c : D) : dle a b = true → dle b c = true → dle a c = true := (W.sortLe_total (listOrd itemOrd) false fun d : D => W.keyToks d.pd).trans a b c
theorem dle_total (a b : D) : (dle a b || dle b a) = true := by
  rw [Bool.or_eq_true]
  exact (W.sortLe_total (listOrd itemOrd) false fun d : D => W.keyToks d.pd).total a b
theorem isort_dle (ds : List D) : isort dle ds = ds.mergeSort (W.dataLe false D.pd) := by
  rw [← dle_eq]; exact isort_merge dle_trans dle_total ds

/-! ### built-in calls, by data -/
def RepBs (K : W.Frag) (P H : Hp) : List D → List V → Prop := Paired (RepB K P H)
def rBi (K : W.Frag) (b : Bi) : List V → Hp → VK → Prop := fun vs H Q => ∃ (P : Hp) (ds : List D) (d : D), Ex P H ∧ RepBs K P H ds vs ∧ biF b ds = some d ∧ ∀ v H', Res K P H d v H' → Q v H'
def Bi.x : Bi → Str
  | .len => "len"
  | .sum => "sum"
  | .min => "min"
  | .max => "max"
  | .all => "all"
  | .any => "any"
  | .tuple => "tuple"
  | .list => "list"
  | .sorted => "sorted"
  | .int => "int"
def Bi.v : Bi → Value
  | .len => .builtin "len"
  | .sum => .builtin "sum"
  | .min => .builtin "min"
  | .max => .builtin "max"
  | .all => .builtin "all"
  | .any => .builtin "any"
  | .tuple => .type "tuple"
  | .list => .type "list"
  | .sorted => .builtin "sorted"
  | .int => .type "int"
theorem Bi.boot (b : Bi) : bootBuiltins b.x = some b.v := by cases b <;> decide +kernel
theorem one_of {K : W.Frag} {P H : Hp} {d : D} {vs : List V} (h : RepBs K P H [d] vs) : ∃ v, vs = [v] ∧ RepB K P H d v := by
  cases h with
  | cons h1 h2 => cases h2; exact ⟨_, rfl, h1⟩
theorem two_of {K : W.Frag} {P H : Hp} {d e : D} {vs : List V} (h : RepBs K P H [d, e] vs) : ∃ v u, vs = [v, u] ∧ RepB K P H d v ∧ RepB K P H e u := by
  cases h with
  | cons h1 h2 =>
    cases h2 with
    | cons h3 h4 => cases h4; exact ⟨_, _, rfl, h1, h3⟩
theorem maxI_mem : ∀ (r : List Int) (x : Int), maxI x r ∈ x :: r ∧ ∀ y ∈ x :: r, y ≤ maxI x r
  | [], x => by simp [maxI]
  | y :: r, x => by
    obtain ⟨h1, h2⟩ := maxI_mem r (if x < y then y else x)
    have e : maxI x (y :: r) = maxI (if x < y then y else x) r := rfl
    rw [e]
    have hm : x ≤ (if x < y then y else x) ∧ y ≤ (if x < y then y else x) := by split <;> omega
    refine ⟨?_, fun z hz => ?_⟩
    · rcases List.mem_cons.mp h1 with h | h
      · rw [h]
        split <;> simp
      · exact List.mem_cons_of_mem _ (List.mem_cons_of_mem _ h)
    · have h3 := h2 _ (List.mem_cons_self)
      rcases List.mem_cons.mp hz with rfl | hz
      · omega
      · rcases List.mem_cons.mp hz with rfl | hz
        · omega
        · exact h2 z (List.mem_cons_of_mem _ hz)
mutual
theorem pd_inj : ∀ (d e : D), d.plain = true → e.plain = true → d.pd = e.pd → d = e
  | .non, e, _, he, h => by cases e <;> simp_all [D.pd, D.plain]
  | .bl b, e, _, he, h => by cases e <;> simp_all [D.pd, D.plain]
  | .int b, e, _, he, h => by cases e <;> simp_all [D.pd, D.plain]
  | .str b, e, _, he, h => by cases e <;> simp_all [D.pd, D.plain]
  | .scr b, e, hd, he, h => by simp [D.plain] at hd
  | .tup ds, e, hd, he, h => by
    cases e <;> simp only [D.pd, D.plain, reduceCtorEq, PyData.tuple.injEq] at h hd he
    rw [pds_inj ds _ hd he h]
  | .lst ds, e, hd, he, h => by
    cases e <;> simp only [D.pd, D.plain, reduceCtorEq, PyData.list.injEq, Bool.false_eq_true] at h hd he
    rw [pds_inj ds _ hd he h]
theorem pds_inj : ∀ (ds es : List D), D.plains ds = true → D.plains es = true → D.pds ds = D.pds es → ds = es
  | [], es, _, _, h => by cases es <;> simp_all [D.pds]
  | d :: ds, es, hd, he, h => by
    cases es with
    | nil => simp [D.pds] at h
    | cons e es =>
      simp only [D.pds, List.cons.injEq, D.plains, Bool.and_eq_true] at h hd he
      rw [pd_inj d e hd.1 he.1 h.1, pds_inj ds es hd.2 he.2 h.2]
end
theorem minDD_mem : ∀ (r : List D) (x : D), minDD x r ∈ x :: r
  | [], x => by simp [minDD]
  | y :: r, x => by
    have e : minDD x (y :: r) = minDD (if W.dataLt y.pd x.pd then y else x) r := rfl
    rw [e]
    rcases List.mem_cons.mp (minDD_mem r (if W.dataLt y.pd x.pd then y else x)) with h | h
    · rw [h]; split <;> simp
    · exact List.mem_cons_of_mem _ (List.mem_cons_of_mem _ h)
theorem minDD_pd : ∀ (r : List D) (x : D), (minDD x r).pd = W.minD x.pd (D.pds r)
  | [], x => rfl
  | y :: r, x => by
    have e : minDD x (y :: r) = minDD (if W.dataLt y.pd x.pd then y else x) r := rfl
    rw [e, minDD_pd r]
    unfold W.minD
    rw [D.pds, List.foldl_cons]
    split <;> rfl
theorem depthAll_le {n : Nat} : ∀ ds : List D, (∀ d ∈ ds, d.pd.depth ≤ n) → PyData.depthAll (D.pds ds) ≤ n
  | [], _ => by simp [D.pds, PyData.depthAll]
  | d :: ds, h => by
    simp only [D.pds, PyData.depthAll]
    have h1 := h d (List.mem_cons_self)
    have h2 := depthAll_le ds fun e he => h e (List.mem_cons_of_mem _ he)
    omega
theorem okSort_alike {ds : List D} (h : okSort ds = true) : W.AllAlike (ds.map D.pd) := by
  unfold okSort at h
  simp only [Bool.and_eq_true, List.all_eq_true, decide_eq_true_eq] at h
  intro x hx y hy
  obtain ⟨d, hd, rfl⟩ := List.mem_map.mp hx
  obtain ⟨e, he, rfl⟩ := List.mem_map.mp hy
  exact h.1.1 d hd e he
theorem okSort_depth {ds : List D} (h : okSort ds = true) : ∀ d ∈ ds, d.pd.depth ≤ 8 := by
  unfold okSort at h
  simp only [Bool.and_eq_true, List.all_eq_true, decide_eq_true_eq] at h
  exact h.1.2
theorem okSort_sortable {ds : List D} (h : okSort ds = true) : W.Sortable (ds.map D.pd) := by
  unfold okSort at h
  simp only [Bool.and_eq_true, Bool.or_eq_true, List.all_eq_true, decide_eq_true_eq] at h
  rcases h.2 with h | h
  · refine .inl fun x hx => ?_
    obtain ⟨d, hd, rfl⟩ := List.mem_map.mp hx
    have := h d hd
    cases d with
    | tup xs =>
      cases xs with
      | nil => simp at this
      | cons a r => exact ⟨a.pd, D.pds r, by simp [D.pd, D.pds]⟩
    | _ => simp at this
  · refine .inr fun x hx => ?_
    obtain ⟨d, hd, rfl⟩ := List.mem_map.mp hx
    have := h d hd
    cases d with
    | int i => simp [D.pd]
    | _ => simp at this
theorem okSort_nonone {ds : List D} (h : okSort ds = true) : ∀ x ∈ ds.map D.pd, x ≠ .none := by
  unfold okSort at h
  simp only [Bool.and_eq_true, Bool.or_eq_true, List.all_eq_true, decide_eq_true_eq] at h
  intro x hx
  obtain ⟨d, hd, rfl⟩ := List.mem_map.mp hx
  rcases h.2 with h | h
  · have := h d hd
    cases d <;> simp_all [D.pd]
  · have := h d hd
    cases d <;> simp_all [D.pd]
section
variable {X : Cx} {pins : List (Addr × Obj)} {σ : L2.St} {H : Hp} {s : Shared}
theorem each_reps {K : W.Frag} {P : Hp} : ∀ {ds : List D} {vs : List V} {us : List Value}, Reps K P ds vs → Vals vs us → W.EachIs (fun u d => ∃ x, RelV x u ∧ Rep K P d x) us ds
  | _, _, _, .nil, .nil => .nil
  | _, _, _, .cons r t, .cons q u => .cons ⟨_, q, r⟩ (each_reps t u)
theorem each_reads (I : Inv X pins σ H s) {P : Hp} (e : Ex P H) : ∀ {ds : List D} {vs : List V} {us : List Value}, Reps X.K P ds vs → Vals vs us → W.EachIs (fun u d => ∃ as, Reads s.heap u (D.pd d) as) us ds
  | _, _, _, .nil, .nil => .nil
  | _, _, _, .cons r t, .cons q u => .cons (Dp.reads I _ _ _ (r.dp e) q) (each_reads I e t u)
theorem reps_each {K : W.Frag} {P : Hp} : ∀ {us : List Value} {ds : List D}, W.EachIs (fun u d => ∃ x, RelV x u ∧ Rep K P d x) us ds → ∃ vs, Vals vs us ∧ Reps K P ds vs
  | _, _, .nil => ⟨[], .nil, .nil⟩
  | _, _, .cons ⟨x, h1, h2⟩ t => by
    obtain ⟨vs, a, b⟩ := reps_each t
    exact ⟨x :: vs, .cons h1 a, .cons h2 b⟩
theorem sorted_run (hu : X.A.units + 200 < cLine) {P : Hp} {ds : List D} {vs : List V} {us : List Value} {a : Addr} {T : String} {o : Obj} {n : Nat} {Q : VK} (I : Inv X pins σ H s) (e : Ex P H) (hT : T = "list" ∨ T = "tuple") (ho : s.heap.get? a = some o) (hc : o.cls = .type T) (hd : o.data = .seq us.toArray n)
    (r : Reps X.K P ds vs) (rv : Vals vs us) (ok : okSort ds = true) (hl : ds.length ≤ lim) (q : ∀ v H', Res X.K P H (.lst (isort dle ds)) v H' → Q v H') : wpAny (model X.prog X.w) X.A (call (.builtin "sorted") [.ref a]) (EP X pins σ Q) X.xe s := by
  refine sorted_seq (enc := D.pd) (R := fun u d => ∃ x, RelV x u ∧ Rep X.K P d x) hT ho hc hd (each_reps r rv) (each_reads I e r rv) (okSort_alike ok) (okSort_sortable ok) (by rw [← lim_eq]; exact hl) (fun b hb => by have := okSort_depth ok b hb; omega) fun h1 hp p ep out k1 k2 hsz hat hlen he => ?_
  rw [← isort_dle] at he
  obtain ⟨ws, w1, w2⟩ := reps_each he
  have I1 : Inv X pins σ H { s with heap := h1 } := I.kept (t' := s.toks) k1
  have hz : ws.length ≤ sizeLine := by rw [← w2.length, isort_length, ← lim_eq]; exact hl
  have I2 : Inv X pins σ (upd H p (.lst ws)) { s with heap := hp } := I1.laid (t' := s.toks) k2 hsz ⟨hz, out, ep, w1, hat⟩
  exact ⟨.ref p, _, I2, rfl, q _ _ (.newL (I1.hok.fresh hsz) w2)⟩
theorem min_run (hc : X.calm = true) (hu : X.A.units + 200 < cLine) {P : Hp} {x : D} {r : List D} {vs : List V} {a : Addr} {Q : VK} (I : Inv X pins σ H s) (e : Ex P H) (ha : H a = some (.lst vs)) (rr : Reps X.K P (x :: r) vs) (ok : okSort (x :: r) = true) (pl : (x :: r).all D.plain = true)
    (q : ∀ v H', Res X.K P H (minDD x r) v H' → Q v H') : wpAny (model X.prog X.w) X.A (call (.builtin "min") [.ref a]) (EP X pins σ Q) X.xe s := by
  obtain ⟨its, rv, hp, hz⟩ := I.list (SqL.of (K := X.K) ha)
  obtain ⟨as, hr⟩ := Dp.readsAll I _ _ its (rr.dp e) rv
  simp only [D.pds] at hr
  have hdep : PyData.depthAll (x.pd :: D.pds r) ≤ 8 := by
    have := depthAll_le (n := 8) (x :: r) (okSort_depth ok)
    simpa only [D.pds] using this
  refine W.min_list_data (I.ok.hd hc) hp.isList (by simpa using hr) ⟨?_, ?_⟩ (by omega) fun i v h' tk bs hv hrd k => ?_
  · have := okSort_alike ok
    rw [List.map_cons, ← pds_map] at this
    exact this
  · have := okSort_nonone ok
    rw [List.map_cons, ← pds_map] at this
    exact this
  · have hv' : its[i]? = some v := by simpa using hv
    have hil : i < vs.length := by rw [rv.length]; exact (List.getElem?_eq_some_iff.mp hv').1
    obtain ⟨u, hu1, hu2⟩ := rv.get (i := i) (x := vs[i]) (List.getElem?_eq_getElem hil)
    rw [hv'] at hu1
    cases hu1
    obtain ⟨d, hd, hdr⟩ := rr.getV (List.getElem?_eq_getElem hil)
    obtain ⟨cs, rd⟩ := Dp.reads I _ _ _ (hdr.dp e) hu2
    have e1 := (Reads.unique (PyProof.Rows.Reads.keeps k rd) _ _ hrd).1
    rw [← minDD_pd] at e1
    have pm : ∀ z ∈ x :: r, z.plain = true := List.all_eq_true.mp pl
    have ed : d = minDD x r := pd_inj _ _ (pm d (List.mem_of_getElem? hd)) (pm _ (minDD_mem r x)) e1
    rw [ed] at hdr
    exact ⟨vs[i], H, I.kept (t' := tk) k, hu2, q _ _ (.same hdr)⟩
theorem one_arg {b : Bi} (hb : b ≠ .min ∧ b ≠ .max) {ds : List D} {d : D} (h : biF b ds = some d) : ∃ d1, ds = [d1] := by
  cases ds with
  | nil => cases b <;> simp [biF] at h
  | cons d1 r =>
    cases r with
    | nil => exact ⟨d1, rfl⟩
    | cons _ _ => cases b <;> first | (simp [biF] at h; done) | exact absurd rfl hb.1 | exact absurd rfl hb.2
theorem mm_arg {b : Bi} (hb : b = .min ∨ b = .max) {ds : List D} {d : D} (h : biF b ds = some d) : (∃ d1, ds = [d1]) ∨ ∃ d1 d2, ds = [d1, d2] := by
  cases ds with
  | nil => cases b <;> simp [biF] at h
  | cons d1 r =>
    cases r with
    | nil => exact .inl ⟨d1, rfl⟩
    | cons d2 r =>
      cases r with
      | nil => exact .inr ⟨d1, d2, rfl⟩
      | cons _ _ => cases b <;> simp [biF] at h
theorem cr_bi (hc : X.calm = true) (hu : X.A.units + 200 < cLine) (b : Bi) : CallR X b.v (rBi X.K b) := by
  intro pins s σ H xs us Q I rv h
  obtain ⟨P, ds, d, e, hr, hf, q⟩ := h
  cases b with
  | len =>
    cases ds with
    | nil => simp [biF] at hf
    | cons d1 rest =>
      cases rest with
      | cons _ _ => simp [biF] at hf
      | nil =>
        obtain ⟨v, rfl, h1⟩ := one_of hr
        cases d1 with
        | tup a =>
          simp only [biF, Option.some.injEq] at hf; subst hf
          obtain ⟨a1, vs1, rfl, g1, r1⟩ := h1.tup
          refine call_len_seq pins s σ H _ us Q I rv ⟨a1, vs1, rfl, .inr (SqT.of (e _ _ g1)), ?_⟩
          rw [← r1.length]; exact q _ _ (.same (.int _))
        | lst a =>
          simp only [biF, Option.some.injEq] at hf; subst hf
          obtain ⟨a1, vs1, rfl, g1, r1⟩ := h1.lst e
          refine call_len_seq pins s σ H _ us Q I rv ⟨a1, vs1, rfl, .inl (SqL.of g1), ?_⟩
          rw [← r1.length]; exact q _ _ (.same (.int _))
        | scr a =>
          simp only [biF, Option.some.injEq] at hf; subst hf
          obtain ⟨a1, rfl, g1⟩ := h1.scr e
          refine call_len_seq pins s σ H _ us Q I rv ⟨a1, _, rfl, .inl g1, ?_⟩
          rw [List.length_map]; exact q _ _ (.same (.int _))
        | str a =>
          simp only [biF, Option.ite_none_right_eq_some, Option.some.injEq] at hf
          obtain ⟨hl, rfl⟩ := hf
          obtain rfl := h1.str
          exact call_len_str pins s σ H _ us Q I rv ⟨a, rfl, by rw [← lim_eq]; exact hl, q _ _ (.same (.int _))⟩
        | _ => simp [biF] at hf
  | sum =>
    obtain ⟨d1, rfl⟩ := one_arg (by decide) hf
    obtain ⟨v, rfl, h1⟩ := one_of hr
    cases d1 <;> simp only [biF, reduceCtorEq, Option.map_eq_some_iff] at hf
    obtain ⟨ns, hn, rfl⟩ := hf
    obtain ⟨a1, vs1, rfl, g1, r1⟩ := h1.lst e
    rw [ints?_some hn] at r1
    rw [r1.intsV] at g1
    exact cr_sum hc pins s σ H _ us Q I rv ⟨a1, ns, rfl, SqL.of g1, q _ _ (.same (.int _))⟩
  | all =>
    obtain ⟨d1, rfl⟩ := one_arg (by decide) hf
    obtain ⟨v, rfl, h1⟩ := one_of hr
    cases d1 <;> simp only [biF, reduceCtorEq, Option.map_eq_some_iff] at hf
    obtain ⟨ns, hn, rfl⟩ := hf
    obtain ⟨a1, vs1, rfl, g1, r1⟩ := h1.lst e
    rw [bools?_some hn] at r1
    rw [r1.blsV] at g1
    exact cr_all hc pins s σ H _ us Q I rv ⟨a1, ns, rfl, SqL.of g1, q _ _ (.same (.bl _))⟩
  | any =>
    obtain ⟨d1, rfl⟩ := one_arg (by decide) hf
    obtain ⟨v, rfl, h1⟩ := one_of hr
    cases d1 <;> simp only [biF, reduceCtorEq, Option.map_eq_some_iff] at hf
    obtain ⟨ns, hn, rfl⟩ := hf
    obtain ⟨a1, vs1, rfl, g1, r1⟩ := h1.lst e
    rw [bools?_some hn] at r1
    rw [r1.blsV] at g1
    exact cr_any hc pins s σ H _ us Q I rv ⟨a1, ns, rfl, SqL.of g1, q _ _ (.same (.bl _))⟩
  | tuple =>
    obtain ⟨d1, rfl⟩ := one_arg (by decide) hf
    obtain ⟨v, rfl, h1⟩ := one_of hr
    cases d1 <;> simp only [biF, reduceCtorEq, Option.some.injEq] at hf
    · subst hf
      obtain ⟨a1, vs1, rfl, g1, r1⟩ := h1.tup
      exact call_tuple_of pins s σ H _ us Q I rv ⟨a1, vs1, rfl, .inr ⟨SqT.of (e _ _ g1), q _ _ (.same (.tup g1 r1))⟩⟩
    · subst hf
      obtain ⟨a1, vs1, rfl, g1, r1⟩ := h1.lst e
      exact call_tuple_of pins s σ H _ us Q I rv ⟨a1, vs1, rfl, .inl ⟨SqL.of g1, fun l hl => q _ _ (.newT hl r1)⟩⟩
  | list =>
    obtain ⟨d1, rfl⟩ := one_arg (by decide) hf
    obtain ⟨v, rfl, h1⟩ := one_of hr
    cases d1 <;> simp only [biF, reduceCtorEq, Option.some.injEq] at hf
    · subst hf
      obtain ⟨a1, vs1, rfl, g1, r1⟩ := h1.tup
      exact call_list_of pins s σ H _ us Q I rv ⟨a1, vs1, rfl, .inr (SqT.of (e _ _ g1)), fun l hl => q _ _ (.newL hl r1)⟩
    · subst hf
      obtain ⟨a1, vs1, rfl, g1, r1⟩ := h1.lst e
      exact call_list_of pins s σ H _ us Q I rv ⟨a1, vs1, rfl, .inl (SqL.of g1), fun l hl => q _ _ (.newL hl r1)⟩
  | sorted =>
    obtain ⟨d1, rfl⟩ := one_arg (by decide) hf
    obtain ⟨v, rfl, h1⟩ := one_of hr
    cases d1 <;> simp only [biF, reduceCtorEq, Option.ite_none_right_eq_some, Option.some.injEq, Bool.and_eq_true, decide_eq_true_eq] at hf
    · obtain ⟨⟨ok, hl⟩, rfl⟩ := hf
      obtain ⟨a1, vs1, rfl, g1, r1⟩ := h1.tup
      obtain ⟨its, r', ⟨o, ho, hcl, n, hd⟩, hz⟩ := I.tuple (SqT.of (K := X.K) (e _ _ g1))
      rw [Vals.ref1 rv]
      exact sorted_run hu I e (.inr rfl) ho hcl hd r1 r' ok hl q
    · obtain ⟨⟨ok, hl⟩, rfl⟩ := hf
      obtain ⟨a1, vs1, rfl, g1, r1⟩ := h1.lst e
      obtain ⟨its, r', ⟨o, n, ho, hcl, _, hd⟩, hz⟩ := I.list (SqL.of (K := X.K) g1)
      rw [Vals.ref1 rv]
      exact sorted_run hu I e (.inl rfl) ho hcl hd r1 r' ok hl q
  | int =>
    obtain ⟨d1, rfl⟩ := one_arg (by decide) hf
    obtain ⟨v, rfl, h1⟩ := one_of hr
    cases d1 <;> simp only [biF, reduceCtorEq, Option.some.injEq] at hf
    subst hf
    obtain rfl := h1.int
    exact call_int1 pins s σ H _ us Q I rv (.inl ⟨_, rfl, q _ _ (.same (.int _))⟩)
  | min =>
    rcases mm_arg (.inl rfl) hf with ⟨d1, rfl⟩ | ⟨d1, d2, rfl⟩
    · obtain ⟨v, rfl, h1⟩ := one_of hr
      cases d1 <;> simp only [biF, reduceCtorEq] at hf
      rename_i a
      cases a with
      | nil => simp at hf
      | cons x r =>
        simp only [Option.ite_none_right_eq_some, Option.some.injEq, Bool.and_eq_true] at hf
        obtain ⟨⟨ok, pl⟩, rfl⟩ := hf
        obtain ⟨a1, vs1, rfl, g1, r1⟩ := h1.lst e
        rw [Vals.ref1 rv]
        exact min_run hc hu I e g1 r1 ok pl q
    · obtain ⟨v, u, rfl, h1, h2⟩ := two_of hr
      cases d1 <;> cases d2 <;> simp only [biF, reduceCtorEq, Option.some.injEq] at hf
      subst hf
      obtain rfl := h1.int
      obtain rfl := h2.int
      exact call_min2 hc pins s σ H _ us Q I rv ⟨_, _, rfl, q _ _ (.same (.int _))⟩
  | max =>
    rcases mm_arg (.inr rfl) hf with ⟨d1, rfl⟩ | ⟨d1, d2, rfl⟩
    · obtain ⟨v, rfl, h1⟩ := one_of hr
      cases d1 <;> simp only [biF, reduceCtorEq] at hf
      rename_i a
      cases hn : ints? a with
      | none => rw [hn] at hf; simp at hf
      | some ns =>
        rw [hn] at hf
        cases ns with
        | nil => simp at hf
        | cons x r =>
          simp only [Option.some.injEq] at hf
          subst hf
          obtain ⟨a1, vs1, rfl, g1, r1⟩ := h1.lst e
          rw [ints?_some hn] at r1
          rw [r1.intsV] at g1
          refine cr_max hc pins s σ H _ us Q I rv ⟨a1, x :: r, rfl, SqL.of g1, by simp, fun m hm1 hm2 => ?_⟩
          obtain ⟨k1, k2⟩ := maxI_mem r x
          have := hm2 _ k1
          have := k2 _ hm1
          rw [show m = maxI x r by omega]
          exact q _ _ (.same (.int _))
    · obtain ⟨v, u, rfl, h1, h2⟩ := two_of hr
      cases d1 <;> cases d2 <;> simp only [biF, reduceCtorEq, Option.some.injEq] at hf
      subst hf
      obtain rfl := h1.int
      obtain rfl := h2.int
      exact call_max2 hc pins s σ H _ us Q I rv ⟨_, _, rfl, q _ _ (.same (.int _))⟩
end
end Cl
set_option Elab.async false
set_option linter.all false
set_option maxRecDepth 100000
set_option maxHeartbeats 4000000
namespace Cl
open PySem PySem.Spec PyProof.Rows L2 RZ HT
/-! ### t[::-1] of a tuple -/
section
variable {prog : Program} {w : World} {A : Around} {E : Value → Shared → Prop} {s : Shared}
theorem adjust_rev (n : Nat) : Builtin.Slice.sliceAdjust none none (-1) (n : Int) = ((n : Int) - 1, -1) := rfl
theorem places_rev (n : Nat) : Builtin.Slice.slicePlaces ((n : Int) - 1) (-1) (-1) = n := by
  unfold Builtin.Slice.slicePlaces
  rw [if_neg (by decide)]
  by_cases h : n = 0
  · subst h; rfl
  · rw [if_pos (by omega), show (-(-1) : Int) = 1 from rfl, Int.ediv_one]
    omega
theorem fm_congr {α β : Type} {f g : α → Option β} : ∀ {l : List α}, (∀ x ∈ l, f x = g x) → l.filterMap f = l.filterMap g
  | [], _ => rfl
  | a :: l, h => by
    rw [List.filterMap_cons, List.filterMap_cons, h a (List.mem_cons_self ..), fm_congr fun x hx => h x (List.mem_cons_of_mem _ hx)]
theorem pick_rev (xs : Array Value) : ((List.range xs.size).filterMap fun (m : Nat) => xs[(((xs.size : Nat) : Int) - 1 + (m : Int) * (-1)).toNat]?).toArray = xs.toList.reverse.toArray := by
  congr 1
  have e : ((List.range xs.size).filterMap fun (m : Nat) => xs[(((xs.size : Nat) : Int) - 1 + (m : Int) * (-1)).toNat]?) = (List.range xs.size).filterMap fun m => xs.toList.reverse[m]? := by
    refine fm_congr fun m hm => ?_
    have hm' : m < xs.size := List.mem_range.mp hm
    rw [List.getElem?_reverse (by simpa using hm'), Array.getElem?_toList, Array.length_toList]
    congr 1
    omega
  rw [e]
  refine List.ext_getElem? fun i => ?_
  have q : ∀ (l : List Value), (List.range l.length).filterMap (fun m => l[m]?) = l := fun l => by
    induction l with
    | nil => rfl
    | cons x l ih =>
      rw [List.length_cons, List.range_succ_eq_map, List.filterMap_cons]
      simp only [List.getElem?_cons_zero]
      rw [List.filterMap_map]
      congr 1
  have := q xs.toList.reverse
  rw [List.length_reverse, Array.length_toList] at this
  rw [this]
theorem getItem_tuple_rev {t sl : Addr} {items : Array Value} {vs : Value} {Q : Value → Shared → Prop} (ht : IsTup s.heap t items) (hs : s.heap.IsSliceOf sl .none .none vs) (ps : IsPart vs (some (-1)))
    (h : Q (.ref s.heap.objs.size) { s with heap := s.heap.push { cls := .type "tuple", data := .seq items.toList.reverse.toArray } })
    (hsz : items.size ≤ sizeLine) : wpAny (model prog w) A (getItem (.ref t) (.ref sl)) Q E s := by
  have htake : sizeOk (.seq items.toList.reverse.toArray) := by
    show items.toList.reverse.toArray.size ≤ sizeLine
    rw [List.size_toArray, List.length_reverse, Array.length_toList]
    exact hsz
  obtain ⟨os, hos, hcs, hds⟩ := id hs
  have hTs : s.TypeIs (.ref sl) "slice" := ⟨os, hos, hcs⟩
  unfold getItem
  try with_reducible refine wpAny_holding ?_
  first | refine wpAny_bind (wpAny_pure ?_) | skip
  refine wpAny_bind (wpAny_sequenceKey ht.typeIs (by decide) ?_)
  refine wpAny_bind (wpAny_callSpecial?_slot (name := Str.ofString "__getitem__") ht.typeIs PyProof.Rows.slot_tuple_getitem
    (wpAny_call_entry PyProof.Rows.slot_tuple_getitem ht.typeIs entry_tuple_getitem ?_ (args_tuple_getitem _ _)))
  show wpAny _ _ (Builtin.Tuple.tupleItemsOf (.ref t) >>= _) _ _ s
  refine wpAny_bind (tupleItemsOf_ ht ?_)
  refine wpAny_bind (wpAny_typeOf hTs ?_)
  rw [if_pos (by decide)]
  have ap : ∀ {R : Int × Int × Nat → Shared → Prop}, R ((items.size : Int) - 1, -1, items.size) s → wpAny (model prog w) A.in1 (Builtin.Slice.sliceApplied (.ref sl) (pure (items.size : Int))) R E s := fun {R} hR => by
    unfold Builtin.Slice.sliceApplied Builtin.Slice.sliceFields
    refine wpAny_bind (wpAny_bind (wpAny_field hos hds (x := .none) rfl (wpAny_bind (wpAny_field hos hds (x := .none) rfl (wpAny_bind (wpAny_field hos hds (x := vs) rfl (wpAny_pure ?_)))))))
    refine wpAny_bind (slicePart_ ps ?_)
    show wpAny _ _ (if ((-1 : Int) == 0) = true then _ else _) _ _ s
    rw [if_neg (by decide)]
    refine wpAny_bind (slicePart_ .none (wpAny_bind (slicePart_ .none (wpAny_bind (wpAny_pure ?_)))))
    show wpAny _ _ (match Builtin.Slice.sliceAdjust none none (-1) (items.size : Int) with | (lo, hi) => pure (lo, (-1 : Int), Builtin.Slice.slicePlaces lo hi (-1))) _ _ s
    rw [adjust_rev]
    show wpAny _ _ (pure ((items.size : Int) - 1, (-1 : Int), Builtin.Slice.slicePlaces ((items.size : Int) - 1) (-1) (-1))) _ _ s
    rw [places_rev]
    exact wpAny_pure hR
  refine wpAny_bind (ap ?_)
  show wpAny _ _ (if (((items.size : Int) - 1) == 0 && (-1 : Int) == 1 && items.size == items.size) = true then _ else _) _ _ s
  rw [if_neg (by simp), pick_rev]
  first
    | exact wpAny_bind (m := Builtin.Tuple.tupleExact _) (wpAny_newObj_type (wpAny_pure ⟨_, rfl, wpAny_pure h⟩) htake)
    | exact wpAny_bind (m := Builtin.Tuple.tupleExact _) (wpAny_newObj_type (wpAny_bind (wpAny_pure (wpAny_pure ⟨_, rfl, wpAny_pure h⟩))) htake)
    | exact wpAny_bind (wpAny_bind (m := Builtin.Tuple.tupleExact _) (wpAny_newObj_type (wpAny_pure (wpAny_pure ⟨_, rfl, wpAny_pure h⟩)) htake))
    | exact wpAny_bind (wpAny_bind (m := Builtin.Tuple.tupleExact _) (wpAny_newObj_type (wpAny_pure ⟨_, rfl, wpAny_pure h⟩) htake))
end
section
variable {X : Cx}
def tRevT (K : PySem.W.Frag) (te : TE) : TE := fun σ H Q => te σ H fun x H1 => ∃ a xs, x = .ref a ∧ SqT K H1 a xs ∧ ∀ p, H1 p = none → Q (.ref p) (upd H1 p (.tup xs.reverse))
theorem pe_revT {e : Expr} {te : TE} {k : Nat} {p1 p2 p3 pos : Pos} (he : PE X e te) : PE X (.Subscript e (.Slice none none (some (.UnaryOp .USub (.Constant (.int 1) k p1) p2)) p3) pos) (tRevT X.K te) := by
  refine ⟨fun pins s σ H Q I h => ?_⟩
  refine Subscript_ (thn (he.run pins s σ H _ I h) fun v s1 ⟨x, H1, I1, r1, q1⟩ => ?_)
  obtain ⟨a, xs, ex, hx, q⟩ := q1
  subst ex
  cases r1
  have hst : PO X (some (.UnaryOp .USub (.Constant (.int 1) k p1) p2)) (tPart (tUn (rU fun i => .int (-i)) (tC (.int 1)))) := po_some (pe_un un_neg pe_int)
  refine wpAny_Slice ?_
  rw [evalPart_none]
  refine wpAny_pure ?_
  refine wpAny_pure ?_
  refine thn (hst.run pins s1 σ H1 (fun o H4 => o = some (-1) ∧ H4 = H1) I1 ⟨1, rfl, -1, rfl, rfl, rfl⟩) fun vs s4 ⟨o, H4, I4, ps, eo, e4⟩ => ?_
  subst eo e4
  have I5 : Inv X pins σ H4 { s4 with heap := s4.heap.push { cls := .type "slice", data := .fields #[.none, .none, vs] } } := I4.kept (t' := s4.toks) fun b ob q => Heap.get?_push_of_some _ q
  obtain ⟨its, r, ht, hz⟩ := I5.tuple hx
  have hlen := r.length
  show wpAny (model X.prog X.w) X.A (subscriptTail e (.Slice none none (some (.UnaryOp .USub (.Constant (.int 1) k p1) p2)) p3) (.ref a) (.ref s4.heap.objs.size)) (EP X pins σ Q) X.xe { s4 with heap := s4.heap.push { cls := .type "slice", data := .fields #[.none, .none, vs] } }
  refine tail_any (ops := [.ref a, .ref s4.heap.objs.size]) ht.typeIs (PyProof.Rows.slot_tuple_getitem.lookup) ?_ (by with_unfolding_all rfl)
  refine getItem_tuple_rev ht (Heap.IsSliceOf.new _ .none .none vs) ps ?_ (by rw [List.size_toArray]; omega)
  refine ⟨.ref _, _, I5.laid (t' := s4.toks) (o := .tup xs.reverse) (fun b ob q => Heap.get?_push_of_some _ q) (Nat.le_refl _) ?_, rfl, q _ (I5.hok.fresh (Nat.le_refl _))⟩
  exact ⟨by rw [List.length_reverse]; exact hz, _, r.reverse, IsTup.new _ _⟩
/-! ### list(range(a, b, c)) -/
def rgCV (a c : Int) (n : Nat) : List V := (List.range n).map fun i => V.int (a + (i : Nat) * c)
theorem vals_rgC {a c : Int} {n : Nat} {acc : Array Value} (h : ItemsOf (fun i v => ∃ t, v = .int (a + i * c) t) acc n) : Vals (rgCV a c n) acc.toList := by
  have e : acc.toList.length = n := by rw [Array.length_toList]; exact h.1
  unfold rgCV
  rw [← e]
  refine vals_of_get acc.toList _ fun j u hj => ?_
  obtain ⟨t, rfl⟩ := h.2 j u (by rw [← hj, Array.getElem?_toList])
  exact ⟨t, rfl⟩
def tLstRg3 (ta : TA) : TE := fun σ H Q => ta σ H fun vs H1 => ∃ (i j c : Int) (n : Nat), vs = [.int i, .int j, .int c] ∧ RgC i j c n ∧ n ≤ 2 ^ 24 ∧ ∀ q, H1 q = none → Q (.ref q) (upd H1 q (.lst (rgCV i c n)))
theorem pe_listRg3 {a b c : Expr} {ta : TA} {p pos p2 pos2 : Pos} (hcm : X.calm = true) (hg : Gl X "list") (hm : X.mg "list" = none) (hg2 : Gl X "range") (hm2 : X.mg "range" = none) (ha : PA X [a, b, c] ta)
    (hs : starEach [a, b, c] X.env = (false, eval a X.env) :: starEach [b, c] X.env) (hpl : (backTo pos2 (starEach [b, c] X.env)).any (·.1) = false) :
    PE X (.Call (.Name "list" p) [.Call (.Name "range" p2) [a, b, c] [] pos2] [] pos) (tLstRg3 ta) := by
  refine ⟨fun pins s σ H Q I h => ?_⟩
  have na : starEach [(.Call (.Name "range" p2) [a, b, c] [] pos2 : Expr)] X.env = (false, eval (.Call (.Name "range" p2) [a, b, c] [] pos2) X.env) :: starEach [] X.env := rfl
  refine Call_ (ld_blt I hg hm boot_list (PyProof.Rows.callWith_type1 (args_cons ?_ na) na))
  refine Call_ (ld_blt I hg2 hm2 boot_range (PyProof.Rows.callWith_type1 (thn (ha.run pos2 pins s σ H _ I h) fun us s1 ⟨vs, H1, I1, r1, q1⟩ => ?_) hs hpl))
  obtain ⟨i, j, k, n, e, ⟨c0, c1, c2, c3⟩, hn, q⟩ := q1
  subst e
  cases r1 with
  | cons r rr =>
    cases rr with
    | cons r' rr =>
      cases rr with
      | cons r'' rr =>
        cases rr
        obtain ⟨t, rfl⟩ := r
        obtain ⟨t', rfl⟩ := r'
        obtain ⟨t'', rfl⟩ := r''
        refine call_range_3 c0 ?_ (.inl (PyProof.noPylong_small c1))
        have I2 : Inv X pins σ H1 { s1 with heap := s1.heap.push { cls := .type "range", data := .fields #[.int i t, .int j t', .int k t''] } } := I1.kept (t' := s1.toks) fun b o e => Heap.get?_push_of_some _ e
        refine args_nil ?_
        refine call_list_range (n := n) (I2.ok.hd hcm) (IsRange.new _ _ _ _ _ _ _) c2 c3 hn fun h' tk acc c' hk e' hi => ?_
        refine ⟨.ref _, upd H1 _ (.lst (rgCV i k n)), I2.laid hk (Nat.le_refl _) (show ObjOk X.prog X.w _ _ _ (.lst (rgCV i k n)) from ⟨?_, acc.toList, c', vals_rgC hi, ?_⟩), rfl, q _ (I2.hok.fresh (Nat.le_refl _))⟩
        · unfold rgCV
          rw [List.length_map, List.length_range, sizeLine_eq]
          omega
        · rw [Array.toArray_toList]; exact e'
end
end Cl
set_option Elab.async false
set_option linter.all false
set_option maxRecDepth 100000
set_option maxHeartbeats 4000000
namespace Cl
open PySem PySem.Spec PyProof.Rows L2 RZ
/-! ### enumerate(text) -/
def IteS (x : Str) : It := ⟨fun i _ => i < x.cps.size, fun i H v H' => ∃ (T : Addr) (c : Nat), x.cps[i]? = some c ∧ v = .ref T ∧ H T = none ∧ H' = upd H T (.tup [.int (i : Nat), .str ⟨#[c]⟩]), fun i _ => i = x.cps.size⟩
theorem turn_enumS {P : Program} {w : World} {K : PySem.W.Frag} {elts : List Expr} {kk : Nat} {tpos : Pos} (e it : Addr) (x : Str) (t : Tok) :
    Turn P w K (.Tuple elts kk tpos) (IteS x) [e, it] e (fun i h => (∃ old, IsEnum h e it ((i : Nat) : Int) old) ∧ h.IsStrIter it (strIterType x) x t i ∧ e ≠ it) where
  mem := by simp
  obj := fun i h st b hb => by
    obtain ⟨⟨old, he⟩, ⟨o, ho, hc, hd⟩, _⟩ := st
    have e' : b = e ∨ b = it := by simpa using hb
    rcases e' with z | z
    · rw [z]; exact ⟨_, he, fun v q => nomatch q⟩
    · rw [z]; exact ⟨o, ho, fun v q => by rw [hd] at q; cases q⟩
  keep := fun i h h' st k => let ⟨⟨old, he⟩, ⟨o, ho, r⟩, hne⟩ := st; ⟨⟨old, k e (by simp) _ he⟩, ⟨o, k it (by simp) o ho, r⟩, hne⟩
  item := by
    intro X hP hw hK hc i pins s σ H E I hf st hg
    subst hP hw hK
    obtain ⟨⟨old, he⟩, hit, hne⟩ := st
    have hel : e < s.heap.objs.size := Heap.lt_size he
    have hil : it < s.heap.objs.size := by obtain ⟨_, q, _⟩ := hit; exact Heap.lt_size q
    have D := Draws.text (prog := X.prog) (w := X.w) (A := X.A.in1) (I.ok.hd hc) it x t
    refine wpAny_pyNext_enum_itemD D he hit hg hne (fun z => hne (List.mem_singleton.mp z)) fun u h' tk hPu ho hit' hT hsz hk => ?_
    obtain ⟨c, u', hcx, rfl⟩ := hPu
    refine ⟨_, rfl, wpAny_letOwnedTupleGo_enum (s := { s with heap := h', toks := tk + 1 }) ho fun h'' he' sb => ?_⟩
    have hT2 : h''.get? s.heap.objs.size = some { cls := .type "tuple", data := .seq #[.int i tk, .str ⟨#[c]⟩ u'] } := (sb.2 _ (Nat.ne_of_gt hel)).trans hT
    have new : ObjOk X.prog X.w (upd H s.heap.objs.size (.tup [.int (i : Nat), .str ⟨#[c]⟩])) h'' s.heap.objs.size (.tup [.int (i : Nat), .str ⟨#[c]⟩]) :=
      ⟨by show 2 ≤ sizeLine; decide, [.int i tk, .str ⟨#[c]⟩ u'], .cons ⟨_, rfl⟩ (.cons ⟨_, rfl⟩ .nil), ⟨_, hT2, rfl, _, rfl⟩⟩
    have I1 : Inv X pins σ (upd H s.heap.objs.size (.tup [.int (i : Nat), .str ⟨#[c]⟩])) { s with heap := h'', toks := tk + 1 } :=
      I.turnedNew (ch := [e, it]) (fun b ob hb q => (sb.2 b (fun z => hb (by simp [z]))).trans (hk b ob (fun z => hb (by simp [z])) (fun z => hb (by simp [z])) q)) hf (Nat.le_refl _) new
    refine ⟨.ref s.heap.objs.size, _, I1, rfl, ⟨_, c, hcx, rfl, I.hok.fresh (Nat.le_refl _), rfl⟩, ⟨⟨.str ⟨#[c]⟩ u', ?_⟩, ?_, hne⟩, fun b hb => ?_⟩
    · have e1 : ((i + 1 : Nat) : Int) = (i : Int) + 1 := by omega
      rw [e1]; exact he'
    · obtain ⟨o, q, r⟩ := hit'
      exact ⟨o, (sb.2 it (Ne.symm hne)).trans q, r⟩
    · have hb' : b < s.heap.objs.size := by
        have e' : b = e ∨ b = it := by simpa using hb
        rcases e' with z | z
        · rw [z]; exact hel
        · rw [z]; exact hil
      rw [upd_ne (Nat.ne_of_lt hb')]
      exact (hf b hb).1
  done := by
    intro X hP hw hK hc i pins s σ H E I hf st hg
    subst hP hw hK
    obtain ⟨⟨old, he⟩, hit, hne⟩ := st
    have hg' : i = x.cps.size := hg
    subst hg'
    obtain ⟨f0, f1, f2, f3, f4, f5⟩ := hf it (by simp)
    have D := Draws.text (prog := X.prog) (w := X.w) (A := X.A.in1) (I.ok.hd hc) it x t
    exact wpAny_pyNext_enum_endD D he hit fun h' eb => ⟨rfl, I.turned (t' := s.toks) (fun b o hb q => eb b o hb q) f0 f1 f3 f4 f5⟩
  self := fun A i s Q E st h => let ⟨⟨_, he⟩, _⟩ := st; wpAny_pyIter_enum he h
def iEnumS (ta : TA) : TI := fun σ H R => ta σ H fun vs H1 => ∃ x, vs = [.str x] ∧ R (IteS x) H1
theorem pi_enumS {X : Cx} {e : Expr} {ta : TA} {p pos tpos : Pos} {elts : List Expr} {kk : Nat} (hg : Gl X "enumerate") (hm : X.mg "enumerate" = none) (ha : PA X [e] ta) (hs : starEach [e] X.env = [(false, eval e X.env)] := by rfl) :
    PI X (.Tuple elts kk tpos) (.Call (.Name "enumerate" p) [e] [] pos) (iEnumS ta) := by
  refine ⟨fun pins s σ H R I h => ?_⟩
  refine Call_ (ld_blt I hg hm boot_enumerate (PyProof.Rows.callWith_type1 (thn (ha.run pos pins s σ H _ I h) fun us s1 ⟨vs, H1, I1, r1, q1⟩ => ?_) hs rfl))
  obtain ⟨x, ex, q⟩ := q1
  subst ex
  cases r1 with
  | cons r rr =>
    cases rr
    obtain ⟨t, rfl⟩ := r
    refine call_enumerate_str fun h' he hit hsz hk => wpAny_pyIter_enum he ?_
    have I2 : Inv X pins σ H1 { s1 with heap := h' } := I1.kept (t' := s1.toks) hk
    refine ⟨s1.heap.objs.size + 1, [s1.heap.objs.size + 1, s1.heap.objs.size], _, _, H1, rfl, I2, turn_enumS (s1.heap.objs.size + 1) s1.heap.objs.size x t, ⟨⟨.none, he⟩, hit, Nat.succ_ne_self _⟩, fun b hb => ?_, q⟩
    have e' : b = s1.heap.objs.size + 1 ∨ b = s1.heap.objs.size := by simpa using hb
    have hle : s1.heap.objs.size ≤ b := by
      rcases e' with z | z
      · rw [z]; exact Nat.le_add_right _ _
      · rw [z]; exact Nat.le_refl _
    exact I1.fpOk hle (I1.hok.fresh hle)
theorem walk_enumS {x : Str} : Walk (IteS x) x.cps.size (fun _ => True) (YPair (fun i => some (.int (i : Nat))) (fun i => x.cps[i]?.map fun c => .str ⟨#[c]⟩)) :=
  ⟨fun _ _ hi _ => hi, fun _ _ => rfl, fun i H v H' _ _ y => by
    obtain ⟨T, c, h1, h2, h3, h4⟩ := y
    exact ⟨T, _, _, h2, h3, h4, rfl, by show Option.map _ x.cps[i]? = _; rw [h1]; rfl⟩⟩
end Cl
set_option Elab.async false
set_option linter.all false
set_option maxRecDepth 100000
set_option maxHeartbeats 4000000
namespace Cl
open PySem L2 RZ

/-! ### readings of the core's expressions -/
def Cst.v : Cst → V
  | .non => .non
  | .bl b => .bl b
  | .int i => .int i
  | .str x => .str x
def Ty.n : Ty → String
  | .int => "int"
  | .bool => "bool"
  | .tuple => "tuple"
  | .list => "list"
  | .str => "str"
def rIsD (K : W.Frag) (t : Ty) : List V → Hp → VK → Prop := fun xs H Q => ∃ (x : V) (P : Hp) (d : D), xs = [x, .ty t.n] ∧ Ex P H ∧ RepB K P H d x ∧ Q (.bl (isiF t d)) H
/-- methods of lists and texts that change nothing -/
def rMt (K : W.Frag) (m : Mt) : V → List V → Hp → VK → Prop := fun x vs H Q => ∃ (P : Hp) (d0 : D) (ds : List D) (d : D), Ex P H ∧ RepB K P H d0 x ∧ RepBs K P H ds vs ∧ mtF m d0 ds = some d ∧ ∀ v H', Res K P H d v H' → Q v H'
def Mt.T : Mt → String
  | .count => "list"
  | .index => "list"
  | .join => "str"
def gNames : List Nat → TGs
  | [] => gNil
  | i :: is => gCons (gName i) (gNames is)
def tOfG (K : W.Frag) : Tg → TG
  | .nm i => gName i
  | .tp is => fun v σ H Q => gTup K is.length (gNames is) v σ H Q ∨ gUnl K is.length (gNames is) v σ H Q
def rSs (K : W.Frag) : V → Hp → VK → Prop := fun x H Q => ∃ (P : Hp) (d0 d : D), Ex P H ∧ RepB K P H d0 x ∧ ssetF d0 = some d ∧ ∀ v P' H', Ext P H P' H' → Rep K P' d v → Q v H'
def rLs (K : W.Frag) : V → Hp → VK → Prop := fun x H Q => ∃ (P : Hp) (d0 d : D), Ex P H ∧ RepB K P H d0 x ∧ lsetF d0 = some d ∧ ∀ v P' H', Ext P H P' H' → Rep K P' d v → Q v H'
abbrev EX := L2.St → XK
def EX0 : EX := fun _ => E0
/-- [f, g, ..][i](..): a list of defs, one of them called -/
def tRefs : List Addr → TA
  | [] => tNil
  | a :: r => tCons (tC (.ref a)) (tRefs r)
theorem tRefs_of {σ : L2.St} {H : Hp} : ∀ (ads : List Addr) {Q : List V → Hp → Prop}, Q (ads.map V.ref) H → tRefs ads σ H Q
  | [], _, h => h
  | a :: r, Q, h => tRefs_of r (Q := fun xs H2 => Q (.ref a :: xs) H2) h
def tAt (K : W.Frag) (fs : List Nat) (ti : TE) (k : Nat → TE) : TE := fun σ H Q => ∀ ads : List Addr, ads.length = fs.length → tOp (rIxL K) (tLst (tRefs ads)) ti σ H fun u H2 => ∃ (j f : Nat) (a : Addr), fs[j]? = some f ∧ ads[j]? = some a ∧ u = .ref a ∧ k f σ H2 Q
section
variable (K : W.Frag) (sp : Nat → Sp)
def tRg3 (ta tb tc : TE) : TI := fun σ H R => iRng3 (tCons ta (tCons tb (tCons tc tNil))) σ H R
mutual
def tOf (E : EX) : CE → TE
  | .var i => tVar i
  | .bor i => tVar i
  | .cst c => tC c.v
  | .glo _ c => tC c.v
  | .bin op a b => tOp (rBop K op) (tOf E a) (tOf E b)
  | .neg a => tUn (rU fun i => .int (-i)) (tOf E a)
  | .cmp op a b => tOp (rCop K op) (tOf E a) (tOf E b)
  | .chn op op' a b c => tChain (rCop K op) (rCop K op') (tOf E a) (tOf E b) (tOf E c)
  | .and a r => tAndV (tOf E a) (tOf E r)
  | .or a r => tOrV (tOf E a) (tOf E r)
  | .one a => tOf E a
  | .not a => tNotV (tOf E a)
  | .ite c a b => tIf (tOfT E c) (tOf E a) (tOf E b)
  | .tup es => tTup (tOfs E es)
  | .lst es => tLst (tOfs E es)
  | .idx a b => tOp (rIdx K) (tOf E a) (tOf E b)
  | .slc a lo hi => tSl (rSlc K) (tOf E a) (tOfO E lo) (tOfO E hi)
  | .rev a => tRevL K (tOf E a)
  | .revT a => tRevT K (tOf E a)
  | .call f es => tCallS (sp f) E (tOfs E es)
  | .callD f es => tCallS (sp (1000 + f)) E (tOfsD E es)
  | .callAt fs ix es => tAt K fs (tOf E ix) fun f => tCallS (sp f) E (tOfs E es)
  | .bi b es => tCB (rBi K b) (tOfs E es)
  | .meth m o es => tBM K m.T (rMt K m) (tOf E o) (tOfs E es)
  | .rgl es => tOfL E es
  | .rgt es => tTupRg (tOfR E es)
  | .lc elt t it c vs => tLc (tOfI E it) (tOfG K t) (tOfC EX0 c) (tOf EX0 elt) vs
  | .lc2 elt t it c t1 it1 c1 vs vs1 => tLc2 (tOfI E it) (tOfG K t) (tOfC EX0 c) (tOfI EX0 it1) (tOfG K t1) (tOfC EX0 c1) (tOf EX0 elt) vs vs1
  | .sset e => tThen (tOf E e) (rSs K)
  | .lset e => tThen (tOf E e) (rLs K)
  | .isi t e => tCB (rIsD K t) (tCons (tOf E e) (tCons (tC (.ty t.n)) tNil))
def tOfT (E : EX) : CE → TT
  | .and a r => tAnd (tOfT E a) (tOfT E r)
  | .or a r => tOr (tOfT E a) (tOfT E r)
  | .one a => tOfT E a
  | .not a => tNot (tOfT E a)
  | .var i => tB (tVar i)
  | .cst c => tB (tC c.v)
  | .cmp op a b => tB (tOp (rCop K op) (tOf E a) (tOf E b))
  | .chn op op' a b c => tB (tChain (rCop K op) (rCop K op') (tOf E a) (tOf E b) (tOf E c))
  | .call f es => tB (tCallS (sp f) E (tOfs E es))
  | .bi b es => tB (tCB (rBi K b) (tOfs E es))
  | .isi t e => tB (tCB (rIsD K t) (tCons (tOf E e) (tCons (tC (.ty t.n)) tNil)))
  | .idx a b => tB (tOp (rIdx K) (tOf E a) (tOf E b))
  | _ => fun _ _ _ => False
def tOfs (E : EX) : CEs → TA
  | .nil => tNil
  | .cons e r => tCons (tOf E e) (tOfs E r)
def tOfsD (E : EX) : CEs → TA
  | .nil => tCons tDNewT tNil
  | .cons e r => tCons (tOf E e) (tOfsD E r)
def tOfO (E : EX) : CO → TO
  | .none => tNoPart
  | .some e => tPart (tOf E e)
def tOfC (E : EX) : CO → TT
  | .none => tYes
  | .some e => tOfT E e
def tOfR (E : EX) : CEs → L2.St → Hp → (Int → Int → Hp → Prop) → Prop
  | .cons a .nil => tRg1 (tOf E a)
  | .cons a (.cons b .nil) => tRg2 (tOf E a) (tOf E b)
  | _ => fun _ _ _ => False
def tOfL (E : EX) : CEs → TE
  | .cons a .nil => tLstRg (tRg1 (tOf E a))
  | .cons a (.cons b .nil) => tLstRg (tRg2 (tOf E a) (tOf E b))
  | .cons a (.cons b (.cons c .nil)) => tLstRg3 (tCons (tOf E a) (tCons (tOf E b) (tCons (tOf E c) tNil)))
  | _ => fun _ _ _ => False
def tOfI (E : EX) : CI → TI
  | .lst e => iList K (tOf E e)
  | .tup e => iTup K (tOf E e)
  | .str e => iStr (tOf E e)
  | .rng es => tOfN E es
  | .enum e => iEnum K (tCons (tOf E e) tNil)
  | .enumS e => iEnumS (tCons (tOf E e) tNil)
  | .zip a b => iZipA K (tCons (tOf E a) (tCons (tOf E b) tNil))
def tOfN (E : EX) : CEs → TI
  | .cons a .nil => iRng1 (tCons (tOf E a) tNil)
  | .cons a (.cons b .nil) => iRng2 (tCons (tOf E a) (tCons (tOf E b) tNil))
  | .cons a (.cons b (.cons c .nil)) => iRng3 (tCons (tOf E a) (tCons (tOf E b) (tCons (tOf E c) tNil)))
  | _ => fun _ _ _ => False
end
end

/-! ### what they give: by the evaluator -/
section
variable (K : W.Frag) (cls : Nat → Value)
def PostE (E : EX) (σ : L2.St) (P H : Hp) (r : R D) (Q : VK) : Prop := match r with
  | .ok d => ∀ v P' H', Ext P H P' H' → Rep K P' d v → Q v H'
  | .exc c => ∀ P' H', Ext P H P' H' → E σ (cls c) none H'
  | .bad => False
def PostB (E : EX) (σ : L2.St) (P H : Hp) (r : R D) (Q : VK) : Prop := match r with
  | .ok d => ∀ v P' H', Ext P H P' H' → RepB K P' H' d v → Q v H'
  | .exc c => ∀ P' H', Ext P H P' H' → E σ (cls c) none H'
  | .bad => False
def PostN (E : EX) (σ : L2.St) (P H : Hp) (r : R D) (Q : VK) : Prop := match r with
  | .ok (.lst ds) => ∀ p vs P' H', Ext P H P' H' → H p = none → P' p = none → H' p = some (.lst vs) → Reps K P' ds vs → Q (.ref p) H'
  | .ok _ => False
  | .exc c => ∀ P' H', Ext P H P' H' → E σ (cls c) none H'
  | .bad => False
def PostX {α : Type} (E : EX) (σ : L2.St) (P H : Hp) (r : R α) (Q : α → Hp → Prop) : Prop := match r with
  | .ok b => ∀ P' H', Ext P H P' H' → Q b H'
  | .exc c => ∀ P' H', Ext P H P' H' → E σ (cls c) none H'
  | .bad => False
def PostA (E : EX) (σ : L2.St) (P H : Hp) (r : R (List D)) (Q : List V → Hp → Prop) : Prop := match r with
  | .ok ds => ∀ vs P' H', Ext P H P' H' → Reps K P' ds vs → Q vs H'
  | .exc c => ∀ P' H', Ext P H P' H' → E σ (cls c) none H'
  | .bad => False
def PostAB (E : EX) (σ : L2.St) (P H : Hp) (r : R (List D)) (Q : List V → Hp → Prop) : Prop := match r with
  | .ok ds => ∀ vs P' H', Ext P H P' H' → RepBs K P' H' ds vs → Q vs H'
  | .exc c => ∀ P' H', Ext P H P' H' → E σ (cls c) none H'
  | .bad => False
/-- what is walked: ds, while what stands in B stands -/
def WalkD (B P0 : Hp) (J : It) (ds : List D) : Prop := ∃ G Y, Walk J ds.length G Y ∧ (∀ H, Ex B H → G H) ∧ ∀ i P H x H', i < ds.length → Ex P0 P → Ex P H → Y i H x H' → ∃ P' d, ds[i]? = some d ∧ Ext P H P' H' ∧ Rep K P' d x
def PostI (E : EX) (σ : L2.St) (P H : Hp) (keep : Bool) (r : R (List D)) (Q : It → Hp → Prop) : Prop := match r with
  | .ok ds => ∀ J P' H', Ext P H P' H' → WalkD K (if keep then P' else H') P' J ds → Q J H'
  | .exc c => ∀ P' H', Ext P H P' H' → E σ (cls c) none H'
  | .bad => False
def SE (E : EX) (t : TE) (f : Env → R D) : Prop := ∀ H0 env σ P H Q, EnvOk K H0 env σ P H → PostE K cls E σ P H (f env) Q → t σ H Q
def SB (E : EX) (t : TE) (f : Env → R D) : Prop := ∀ H0 env σ P H Q, EnvOk K H0 env σ P H → PostB K cls E σ P H (f env) Q → t σ H Q
def SN (E : EX) (t : TE) (f : Env → R D) : Prop := ∀ H0 env σ P H Q, EnvOk K H0 env σ P H → PostN K cls E σ P H (f env) Q → t σ H Q
def ST (E : EX) (t : TT) (f : Env → R Bool) : Prop := ∀ H0 env σ P H Q, EnvOk K H0 env σ P H → PostX cls E σ P H (f env) Q → t σ H Q
def SO (E : EX) (t : TO) (f : Env → R (Option Int)) : Prop := ∀ H0 env σ P H Q, EnvOk K H0 env σ P H → PostX cls E σ P H (f env) Q → t σ H Q
def SA (E : EX) (t : TA) (f : Env → R (List D)) : Prop := ∀ H0 env σ P H Q, EnvOk K H0 env σ P H → PostA K cls E σ P H (f env) Q → t σ H Q
def SAB (E : EX) (t : TA) (f : Env → R (List D)) : Prop := ∀ H0 env σ P H Q, EnvOk K H0 env σ P H → PostAB K cls E σ P H (f env) Q → t σ H Q
def SI (E : EX) (keep : Bool) (t : TI) (f : Env → R (List D)) : Prop := ∀ H0 env σ P H Q, EnvOk K H0 env σ P H → PostI K cls E σ P H keep (f env) Q → t σ H Q
end
section
variable {K : W.Frag} {cls : Nat → Value} {E : EX} {σ : L2.St} {P H P1 H1 : Hp} {Q : VK} {t ta tb tc : TE} {f fa fb fc : Env → R D}
theorem SE.sb (h : SE K cls E t f) : SB K cls E t f := fun H0 env σ P H Q I p => h H0 env σ P H Q I (by
  cases hf : f env with
  | ok d => rw [hf] at p; exact fun v P' H' e r => p v P' H' e (.inl r)
  | exc c => rw [hf] at p; exact p
  | bad => rw [hf] at p; exact p)
theorem SN.se (h : SN K cls E t f) (hl : ∀ env d, f env = .ok d → ∃ ds, d = .lst ds) : SE K cls E t f := fun H0 env σ P H Q I p => h H0 env σ P H Q I (by
  cases hf : f env with
  | ok d =>
    obtain ⟨ds, rfl⟩ := hl env d hf
    rw [hf] at p
    intro p1 vs P' H' e h1 h2 h3 h4
    have e2 : Ext P H (upd P' p1 (.lst vs)) H' := ⟨e.h, e.p.trans (Ex.new h2), fun a u q => by
      by_cases ha : a = p1
      · subst ha; rw [upd_same] at q; cases q; exact h3
      · rw [upd_ne ha] at q; exact e.ph a u q, fun a z1 z2 => by
      have ha : a ≠ p1 := fun z => z2 (by rw [z]; exact h1)
      rw [upd_ne ha]; exact e.fr a z1 z2⟩
    exact p _ _ _ e2 (.lst upd_same (h4.mono (Ex.new h2)))
  | exc c => rw [hf] at p; exact p
  | bad => rw [hf] at p; exact p)
/-- weaker ends -/
theorem PostX.step {α : Type} {r : R α} {Q : α → Hp → Prop} (e : Ext P H P1 H1) (p : PostX cls E σ P H r Q) : PostX cls E σ P1 H1 r Q := by
  cases r with
  | ok d => exact fun P' H' e2 => p P' H' (e.trans e2)
  | exc c => exact fun P' H' e2 => p P' H' (e.trans e2)
  | bad => exact p
theorem PostE.step {r : R D} (e : Ext P H P1 H1) (p : PostE K cls E σ P H r Q) : PostE K cls E σ P1 H1 r Q := by
  cases r with
  | ok d => exact fun v P' H' e2 rp => p v P' H' (e.trans e2) rp
  | exc c => exact fun P' H' e2 => p P' H' (e.trans e2)
  | bad => exact p
/-- an operand, then the rest -/
theorem SB.then {k : D → R D} {Qb : VK} {H0 : Hp} {env : Env} (h : SB K cls E t f) (I : EnvOk K H0 env σ P H) (p : PostE K cls E σ P H ((f env).bind k) Q)
    (q : ∀ d v P1 H1, f env = .ok d → Ext P H P1 H1 → RepB K P1 H1 d v → PostE K cls E σ P1 H1 (k d) Q → EnvOk K H0 env σ P1 H1 → Qb v H1) : t σ H Qb := h H0 env σ P H Qb I (by
  cases hf : f env with
  | ok d => rw [hf] at p; exact fun v P1 H1 e r => q d v P1 H1 hf e r (PostE.step e p) (I.mono e)
  | exc c => rw [hf] at p; exact p
  | bad => rw [hf] at p; exact p)
theorem SE.then {k : D → R D} {Qb : VK} {H0 : Hp} {env : Env} (h : SE K cls E t f) (I : EnvOk K H0 env σ P H) (p : PostE K cls E σ P H ((f env).bind k) Q)
    (q : ∀ d v P1 H1, f env = .ok d → Ext P H P1 H1 → Rep K P1 d v → PostE K cls E σ P1 H1 (k d) Q → EnvOk K H0 env σ P1 H1 → Qb v H1) : t σ H Qb := h H0 env σ P H Qb I (by
  cases hf : f env with
  | ok d => rw [hf] at p; exact fun v P1 H1 e r => q d v P1 H1 hf e r (PostE.step e p) (I.mono e)
  | exc c => rw [hf] at p; exact p
  | bad => rw [hf] at p; exact p)
/-- the same for ends of any kind -/
theorem SB.thenX {α : Type} {k : D → R α} {Qb : VK} {Qx : α → Hp → Prop} {H0 : Hp} {env : Env} (h : SB K cls E t f) (I : EnvOk K H0 env σ P H) (p : PostX cls E σ P H ((f env).bind k) Qx)
    (q : ∀ d v P1 H1, f env = .ok d → Ext P H P1 H1 → RepB K P1 H1 d v → PostX cls E σ P1 H1 (k d) Qx → EnvOk K H0 env σ P1 H1 → Qb v H1) : t σ H Qb := h H0 env σ P H Qb I (by
  cases hf : f env with
  | ok d => rw [hf] at p; exact fun v P1 H1 e r => q d v P1 H1 hf e r (PostX.step e p) (I.mono e)
  | exc c => rw [hf] at p; exact p
  | bad => rw [hf] at p; exact p)
/-- what an operation gives is an end -/
theorem PostE.res {o : Option D} {d : D} {v : V} {H2 : Hp} (e : Ex P H) (p : PostE K cls E σ P H (R.ofO o) Q) (ho : o = some d) (r : Res K P H d v H2) : Q v H2 := by
  subst ho
  obtain ⟨P', e2, r2⟩ := r.keep e
  exact p v P' H2 e2 r2
theorem PostE.some {o : Option D} (p : PostE K cls E σ P H (R.ofO o) Q) : ∃ d, o = some d := by
  cases o with
  | none => exact p.elim
  | some d => exact ⟨d, rfl⟩
theorem intD_bind {α : Type} {d : D} {k : Int → R α} : (∃ i, d = .int i ∧ (intD d).bind k = k i) ∨ (intD d).bind k = .bad := by
  cases d with
  | int i => exact .inl ⟨i, rfl, rfl⟩
  | _ => exact .inr rfl
theorem boolD_bind {α : Type} {d : D} {k : Bool → R α} : (∃ i, d = .bl i ∧ (boolD d).bind k = k i) ∨ (boolD d).bind k = .bad := by
  cases d with
  | bl i => exact .inl ⟨i, rfl, rfl⟩
  | _ => exact .inr rfl
theorem se_bin {op : BOp} (ha : SB K cls E ta fa) (hb : SB K cls E tb fb) : SE K cls E (tOp (rBop K op) ta tb) (fun env => (fa env).bind fun x => (fb env).bind fun y => R.ofO (bopF op x y)) := fun H0 env σ P H Q I p =>
  ha.then I p fun x v P1 H1 _ e1 r1 p1 I1 => hb.then I1 p1 fun y u P2 H2 _ e2 r2 p2 I2 => by
    obtain ⟨d, hd⟩ := p2.some
    exact ⟨P2, x, y, d, e2.ph, r1.mono e2, r2, hd, fun v H' r _ => p2.res e2.ph hd r⟩
theorem se_idx (ha : SB K cls E ta fa) (hb : SB K cls E tb fb) : SE K cls E (tOp (rIdx K) ta tb) (fun env => (fa env).bind fun x => (fb env).bind fun y => R.ofO (idxF x y)) := fun H0 env σ P H Q I p =>
  ha.then I p fun x v P1 H1 _ e1 r1 p1 I1 => hb.then I1 p1 fun y u P2 H2 _ e2 r2 p2 I2 => by
    obtain ⟨d, hd⟩ := p2.some
    exact ⟨P2, x, y, d, e2.ph, r1.mono e2, r2, hd, fun v H' r => p2.res e2.ph hd r⟩
theorem se_sset (ha : SB K cls E ta fa) : SE K cls E (tThen ta (rSs K)) (fun env => (fa env).bind fun x => R.ofO (ssetF x)) := fun H0 env σ P H Q I p =>
  ha.then I p fun x v P1 H1 _ e1 r1 p1 I1 => by
    cases hd : ssetF x with
    | none => rw [hd] at p1; exact p1.elim
    | some d =>
      rw [hd] at p1
      exact ⟨P1, x, d, e1.ph, r1, hd, p1⟩
theorem se_lset (ha : SB K cls E ta fa) : SE K cls E (tThen ta (rLs K)) (fun env => (fa env).bind fun x => R.ofO (lsetF x)) := fun H0 env σ P H Q I p =>
  ha.then I p fun x v P1 H1 _ e1 r1 p1 I1 => by
    cases hd : lsetF x with
    | none => rw [hd] at p1; exact p1.elim
    | some d =>
      rw [hd] at p1
      exact ⟨P1, x, d, e1.ph, r1, hd, p1⟩
theorem se_cmp {op : COp} (ha : SB K cls E ta fa) (hb : SB K cls E tb fb) : SE K cls E (tOp (rCop K op) ta tb) (fun env => (fa env).bind fun x => (fb env).bind fun y => R.ofO ((copF op x y).map D.bl)) := fun H0 env σ P H Q I p =>
  ha.then I p fun x v P1 H1 _ e1 r1 p1 I1 => hb.then I1 p1 fun y u P2 H2 _ e2 r2 p2 I2 => by
    cases hc : copF op x y with
    | none => rw [hc] at p2; exact p2.elim
    | some b =>
      rw [hc] at p2
      exact ⟨P2, x, y, b, e2.ph, r1.mono e2, r2, hc, p2 _ P2 H2 (.refl e2.ph) (.bl b)⟩
theorem se_chn {op op' : COp} (ha : SB K cls E ta fa) (hb : SB K cls E tb fb) (hc : SB K cls E tc fc) : SE K cls E (tChain (rCop K op) (rCop K op') ta tb tc) (fun env => (fa env).bind fun x => (fb env).bind fun y => (R.ofO (copF op x y)).bind fun k =>
      if k then (fc env).bind fun z => R.ofO ((copF op' y z).map D.bl) else .ok (.bl false)) := fun H0 env σ P H Q I p =>
  ha.then I p fun x v P1 H1 _ e1 r1 p1 I1 => hb.then I1 p1 fun y u P2 H2 _ e2 r2 p2 I2 => by
    cases hk : copF op x y with
    | none => rw [hk] at p2; exact p2.elim
    | some b =>
      rw [hk] at p2
      refine ⟨P2, x, y, b, e2.ph, r1.mono e2, r2, hk, b, rfl, ?_⟩
      cases b with
      | false => exact p2 _ P2 H2 (.refl e2.ph) (.bl false)
      | true =>
        refine hc.then I2 p2 fun z w P3 H3 _ e3 r3 p3 I3 => ?_
        cases hk' : copF op' y z with
        | none => rw [hk'] at p3; exact p3.elim
        | some b' =>
          rw [hk'] at p3
          exact ⟨P3, y, z, b', e3.ph, r2.mono e3, r3, hk', p3 _ P3 H3 (.refl e3.ph) (.bl b')⟩
theorem se_neg (ha : SB K cls E ta fa) : SE K cls E (tUn (rU fun i => .int (-i)) ta) (fun env => (fa env).bind fun x => (intD x).bind fun i => .ok (.int (-i))) := fun H0 env σ P H Q I p =>
  ha.then I p fun x v P1 H1 _ e1 r1 p1 I1 => by
    rcases intD_bind (d := x) (k := fun i => R.ok (D.int (-i))) with ⟨i, rfl, h⟩ | h
    · rw [h] at p1
      exact ⟨i, r1.int, p1 _ P1 H1 (.refl e1.ph) (.int _)⟩
    · rw [h] at p1; exact p1.elim
theorem se_and {r : Bool} (ha : SB K cls E ta fa) (hb : r = false → SE K cls E tb fb) : SE K cls E (tAndV ta tb) (fun env => (fa env).bind fun x => (boolD x).bind fun k => if k then (if r then .bad else fb env) else .ok (.bl false)) := fun H0 env σ P H Q I p =>
  ha.then I p fun x v P1 H1 _ e1 r1 p1 I1 => by
    rcases boolD_bind (d := x) (k := fun k => if k then (if r then .bad else fb env) else .ok (.bl false)) with ⟨i, rfl, h⟩ | h
    · rw [h] at p1
      refine ⟨i, r1.bl, ?_⟩
      cases i with
      | true =>
        cases r with
        | true => exact p1.elim
        | false => exact hb rfl H0 env σ P1 H1 Q I1 p1
      | false => exact p1 _ P1 H1 (.refl e1.ph) (.bl false)
    · rw [h] at p1; exact p1.elim
theorem se_or {r : Bool} (ha : SB K cls E ta fa) (hb : r = false → SE K cls E tb fb) : SE K cls E (tOrV ta tb) (fun env => (fa env).bind fun x => (boolD x).bind fun k => if k then .ok (.bl true) else (if r then .bad else fb env)) := fun H0 env σ P H Q I p =>
  ha.then I p fun x v P1 H1 _ e1 r1 p1 I1 => by
    rcases boolD_bind (d := x) (k := fun k => if k then .ok (.bl true) else (if r then .bad else fb env)) with ⟨i, rfl, h⟩ | h
    · rw [h] at p1
      refine ⟨i, r1.bl, ?_⟩
      cases i with
      | false =>
        cases r with
        | true => exact p1.elim
        | false => exact hb rfl H0 env σ P1 H1 Q I1 p1
      | true => exact p1 _ P1 H1 (.refl e1.ph) (.bl true)
    · rw [h] at p1; exact p1.elim
theorem se_not (ha : SB K cls E ta fa) : SE K cls E (tNotV ta) (fun env => (fa env).bind fun x => (boolD x).bind fun k => .ok (.bl !k)) := fun H0 env σ P H Q I p =>
  ha.then I p fun x v P1 H1 _ e1 r1 p1 I1 => by
    rcases boolD_bind (d := x) (k := fun k => R.ok (D.bl !k)) with ⟨i, rfl, h⟩ | h
    · rw [h] at p1
      exact ⟨i, r1.bl, p1 _ P1 H1 (.refl e1.ph) (.bl _)⟩
    · rw [h] at p1; exact p1.elim
theorem se_ite {tt : TT} {ft : Env → R Bool} {r r' : Bool} (hc : ST K cls E tt ft) (ha : r = false → SE K cls E ta fa) (hb : r' = false → SE K cls E tb fb) : SE K cls E (tIf tt ta tb) (fun env => (ft env).bind fun k => if k then (if r then .bad else fa env) else (if r' then .bad else fb env)) := fun H0 env σ P H Q I p =>
  hc H0 env σ P H _ I (by
    cases hf : ft env with
    | exc c => simp only [hf, R.bind_exc] at p; exact p
    | bad => simp only [hf, R.bind_bad] at p; exact p.elim
    | ok k =>
      intro P1 H1 e1
      simp only [hf, R.bind_ok] at p
      cases k with
      | true =>
        cases r with
        | true => exact p.elim
        | false => exact ha rfl H0 env σ P1 H1 Q (I.mono e1) (p.step e1)
      | false =>
        cases r' with
        | true => exact p.elim
        | false => exact hb rfl H0 env σ P1 H1 Q (I.mono e1) (p.step e1))
/-- a test from a value -/
theorem st_val (ha : SB K cls E ta fa) : ST K cls E (tB ta) (fun env => (fa env).bind boolD) := fun H0 env σ P H Q I p =>
  ha.thenX I p fun x v P1 H1 _ e1 r1 p1 I1 => by
    cases x with
    | bl b => exact ⟨b, r1.bl, p1 P1 H1 (.refl e1.ph)⟩
    | _ => exact p1.elim
theorem st_not {tt : TT} (hc : ST K cls E tt (fun env => (fa env).bind boolD)) : ST K cls E (tNot tt) (fun env => ((fa env).bind fun x => (boolD x).bind fun k => .ok (.bl !k)).bind boolD) := fun H0 env σ P H Q I p =>
  hc H0 env σ P H _ I (by
    cases hf : fa env with
    | exc c => simp only [hf, R.bind_exc] at p ⊢; exact p
    | bad => simp only [hf, R.bind_bad] at p; exact p.elim
    | ok x =>
      simp only [hf, R.bind_ok] at p ⊢
      cases x with
      | bl b => exact fun P1 H1 e1 => p P1 H1 e1
      | _ => exact p.elim)
theorem st_and {tt tu : TT} {r : Bool} (ha : ST K cls E tt (fun env => (fa env).bind boolD)) (hb : r = false → ST K cls E tu (fun env => (fb env).bind boolD)) : ST K cls E (tAnd tt tu) (fun env => ((fa env).bind fun x => (boolD x).bind fun k => if k then (if r then .bad else fb env) else .ok (.bl false)).bind boolD) := fun H0 env σ P H Q I p =>
  ha H0 env σ P H _ I (by
    cases hf : fa env with
    | exc c => simp only [hf, R.bind_exc] at p ⊢; exact p
    | bad => simp only [hf, R.bind_bad] at p; exact p.elim
    | ok x =>
      simp only [hf, R.bind_ok] at p ⊢
      cases x with
      | bl b =>
        intro P1 H1 e1
        cases b with
        | false => exact p P1 H1 e1
        | true =>
          cases r with
          | true => exact p.elim
          | false => exact hb rfl H0 env σ P1 H1 Q (I.mono e1) (PostX.step e1 p)
      | _ => exact p.elim)
theorem st_or {tt tu : TT} {r : Bool} (ha : ST K cls E tt (fun env => (fa env).bind boolD)) (hb : r = false → ST K cls E tu (fun env => (fb env).bind boolD)) : ST K cls E (tOr tt tu) (fun env => ((fa env).bind fun x => (boolD x).bind fun k => if k then .ok (.bl true) else (if r then .bad else fb env)).bind boolD) := fun H0 env σ P H Q I p =>
  ha H0 env σ P H _ I (by
    cases hf : fa env with
    | exc c => simp only [hf, R.bind_exc] at p ⊢; exact p
    | bad => simp only [hf, R.bind_bad] at p; exact p.elim
    | ok x =>
      simp only [hf, R.bind_ok] at p ⊢
      cases x with
      | bl b =>
        intro P1 H1 e1
        cases b with
        | true => exact p P1 H1 e1
        | false =>
          cases r with
          | true => exact p.elim
          | false => exact hb rfl H0 env σ P1 H1 Q (I.mono e1) (PostX.step e1 p)
      | _ => exact p.elim)
/-! argument lists -/
theorem sa_nil : SA K cls E tNil (fun _ => .ok []) := fun H0 env σ P H Q I p => p [] P H (.refl I.ex) .nil
theorem sab_nil : SAB K cls E tNil (fun _ => .ok []) := fun H0 env σ P H Q I p => p [] P H (.refl I.ex) .nil
theorem RepBs.mono {P' H' : Hp} (e : Ext P H P' H') : ∀ {ds : List D} {vs : List V}, RepBs K P H ds vs → RepBs K P' H' ds vs
  | _, _, .nil => .nil
  | _, _, .cons r t => .cons (r.mono e) (RepBs.mono e t)
theorem repBs_of : ∀ {ds : List D} {vs : List V}, Reps K P ds vs → RepBs K P H ds vs
  | _, _, .nil => .nil
  | _, _, .cons r t => .cons (.inl r) (repBs_of t)
theorem sa_cons {tr : TA} {fr : Env → R (List D)} {r : Bool} (ha : r = false → SE K cls E ta fa) (hr : SA K cls E tr fr) : SA K cls E (tCons ta tr) (fun env => if r then .bad else (fa env).bind fun d => (fr env).bind fun ds => .ok (d :: ds)) := fun H0 env σ P H Q I p => by
  cases r with
  | true => exact p.elim
  | false =>
    refine ha rfl H0 env σ P H _ I ?_
    cases hf : fa env with
    | exc c => simp only [hf, R.bind_exc] at p; exact p
    | bad => simp only [hf, R.bind_bad] at p; exact p.elim
    | ok d =>
      intro v P1 H1 e1 r1
      refine hr H0 env σ P1 H1 _ (I.mono e1) ?_
      cases hg : fr env with
      | exc c => simp only [hf, hg, R.bind_exc, R.bind_ok] at p; exact fun P' H' e2 => p P' H' (e1.trans e2)
      | bad => simp only [hf, hg, R.bind_bad, R.bind_ok] at p; exact p.elim
      | ok ds =>
        simp only [hf, hg, R.bind_ok] at p
        exact fun vs P2 H2 e2 r2 => p (v :: vs) P2 H2 (e1.trans e2) (.cons (r1.mono e2.p) r2)
theorem sab_cons {tr : TA} {fr : Env → R (List D)} (ha : SB K cls E ta fa) (hr : SAB K cls E tr fr) : SAB K cls E (tCons ta tr) (fun env => (fa env).bind fun d => (fr env).bind fun ds => .ok (d :: ds)) := fun H0 env σ P H Q I p => by
  refine ha H0 env σ P H _ I ?_
  cases hf : fa env with
  | exc c => simp only [hf, R.bind_exc] at p; exact p
  | bad => simp only [hf, R.bind_bad] at p; exact p.elim
  | ok d =>
    intro v P1 H1 e1 r1
    refine hr H0 env σ P1 H1 _ (I.mono e1) ?_
    cases hg : fr env with
    | exc c => simp only [hf, hg, R.bind_exc, R.bind_ok] at p; exact fun P' H' e2 => p P' H' (e1.trans e2)
    | bad => simp only [hf, hg, R.bind_bad, R.bind_ok] at p; exact p.elim
    | ok ds =>
      simp only [hf, hg, R.bind_ok] at p
      exact fun vs P2 H2 e2 r2 => p (v :: vs) P2 H2 (e1.trans e2) (.cons (r1.mono e2) r2)
theorem SA.then {tr : TA} {fr : Env → R (List D)} {k : List D → R D} {Qb : List V → Hp → Prop} {H0 : Hp} {env : Env} (h : SA K cls E tr fr) (I : EnvOk K H0 env σ P H) (p : PostE K cls E σ P H ((fr env).bind k) Q)
    (q : ∀ ds vs P1 H1, fr env = .ok ds → Ext P H P1 H1 → Reps K P1 ds vs → PostE K cls E σ P1 H1 (k ds) Q → Qb vs H1) : tr σ H Qb := h H0 env σ P H Qb I (by
  cases hf : fr env with
  | ok d => rw [hf] at p; exact fun v P1 H1 e r => q d v P1 H1 hf e r (PostE.step e p)
  | exc c => rw [hf] at p; exact p
  | bad => rw [hf] at p; exact p)
theorem SAB.then {tr : TA} {fr : Env → R (List D)} {k : List D → R D} {Qb : List V → Hp → Prop} {H0 : Hp} {env : Env} (h : SAB K cls E tr fr) (I : EnvOk K H0 env σ P H) (p : PostE K cls E σ P H ((fr env).bind k) Q)
    (q : ∀ ds vs P1 H1, fr env = .ok ds → Ext P H P1 H1 → RepBs K P1 H1 ds vs → PostE K cls E σ P1 H1 (k ds) Q → Qb vs H1) : tr σ H Qb := h H0 env σ P H Qb I (by
  cases hf : fr env with
  | ok d => rw [hf] at p; exact fun v P1 H1 e r => q d v P1 H1 hf e r (PostE.step e p)
  | exc c => rw [hf] at p; exact p
  | bad => rw [hf] at p; exact p)
theorem se_tup {tr : TA} {fr : Env → R (List D)} (h : SA K cls E tr fr) : SE K cls E (tTup tr) (fun env => (fr env).bind fun ds => if ds.length ≤ lim then .ok (.tup ds) else .bad) := fun H0 env σ P H Q I p =>
  h.then I p fun ds vs P1 H1 _ e r p1 => by
    by_cases hl : ds.length ≤ lim
    · rw [if_pos hl] at p1
      refine ⟨by rw [← r.length, ← lim_eq]; exact hl, fun a ha => ?_⟩
      obtain ⟨P2, e2, r2⟩ := Res.keep e.ph (Res.newT ha r)
      exact p1 _ P2 _ e2 r2
    · rw [if_neg hl] at p1; exact p1.elim
theorem sn_lst {tr : TA} {fr : Env → R (List D)} (h : SA K cls E tr fr) : SN K cls E (tLst tr) (fun env => (fr env).bind fun ds => if ds.length ≤ lim then .ok (.lst ds) else .bad) := fun H0 env σ P H Q I p => by
  refine h H0 env σ P H _ I ?_
  cases hf : fr env with
  | exc c => simp only [hf, R.bind_exc] at p; exact p
  | bad => simp only [hf, R.bind_bad] at p; exact p.elim
  | ok ds =>
    intro vs P1 H1 e r
    simp only [hf, R.bind_ok] at p
    by_cases hl : ds.length ≤ lim
    · rw [if_pos hl] at p
      refine ⟨by rw [← r.length, ← lim_eq]; exact hl, fun a ha => ?_⟩
      exact p a vs P1 _ (e.trans (.newO e.ph ha)) (e.h.free ha) (e.ph.free ha) upd_same r
    · rw [if_neg hl] at p; exact p.elim
theorem se_bi {tr : TA} {fr : Env → R (List D)} {b : Bi} (h : SAB K cls E tr fr) : SE K cls E (tCB (rBi K b) tr) (fun env => (fr env).bind fun ds => R.ofO (biF b ds)) := fun H0 env σ P H Q I p =>
  h.then I p fun ds vs P1 H1 _ e r p1 => by
    obtain ⟨d, hd⟩ := p1.some
    exact ⟨P1, ds, d, e.ph, r, hd, fun v H' r => p1.res e.ph hd r⟩
theorem se_isi {ty : Ty} (ha : SB K cls E ta fa) : SE K cls E (tCB (rIsD K ty) (tCons ta (tCons (tC (.ty ty.n)) tNil))) (fun env => (fa env).bind fun x => .ok (.bl (isiF ty x))) := fun H0 env σ P H Q I p =>
  ha.then I p fun x v P1 H1 _ e1 r1 p1 I1 => ⟨v, P1, x, rfl, e1.ph, r1, p1 _ P1 H1 (.refl e1.ph) (.bl _)⟩
theorem se_rev (ha : SB K cls E ta fa) : SE K cls E (tRevL K ta) (fun env => (fa env).bind fun x => R.ofO (revF x)) := fun H0 env σ P H Q I p =>
  ha.then I p fun x v P1 H1 _ e1 r1 p1 I1 => by
    cases x with
    | lst ds =>
      obtain ⟨a, vs, rfl, h1, h2⟩ := r1.lst e1.ph
      exact ⟨a, vs, rfl, SqL.of h1, fun q hq => p1.res e1.ph rfl (.newL hq h2.reverse)⟩
    | _ => exact p1.elim
theorem se_revT (ha : SB K cls E ta fa) : SE K cls E (tRevT K ta) (fun env => (fa env).bind fun x => R.ofO (revTF x)) := fun H0 env σ P H Q I p =>
  ha.then I p fun x v P1 H1 _ e1 r1 p1 I1 => by
    cases x with
    | tup ds =>
      obtain ⟨a, vs, rfl, h1, h2⟩ := r1.tup
      exact ⟨a, vs, rfl, SqT.of (e1.ph _ _ h1), fun q hq => p1.res e1.ph rfl (.newT hq h2.reverse)⟩
    | _ => exact p1.elim
theorem so_none : SO K cls E tNoPart (fun _ => .ok none) := fun H0 env σ P H Q I p => p P H (.refl I.ex)
theorem so_some (ha : SB K cls E ta fa) : SO K cls E (tPart ta) (fun env => (fa env).bind fun x => (intD x).bind fun i => .ok (some i)) := fun H0 env σ P H Q I p =>
  ha.thenX I p fun x v P1 H1 _ e1 r1 p1 I1 => by
    rcases intD_bind (d := x) (k := fun i => R.ok (some i)) with ⟨i, rfl, h⟩ | h
    · rw [h] at p1
      exact ⟨i, r1.int, p1 P1 H1 (.refl e1.ph)⟩
    · rw [h] at p1; exact p1.elim
theorem SO.then {to : TO} {fo : Env → R (Option Int)} {k : Option Int → R D} {Qb : Option Int → Hp → Prop} {H0 : Hp} {env : Env} (h : SO K cls E to fo) (I : EnvOk K H0 env σ P H) (p : PostE K cls E σ P H ((fo env).bind k) Q)
    (q : ∀ o P1 H1, fo env = .ok o → Ext P H P1 H1 → PostE K cls E σ P1 H1 (k o) Q → EnvOk K H0 env σ P1 H1 → Qb o H1) : to σ H Qb := h H0 env σ P H Qb I (by
  cases hf : fo env with
  | ok d => rw [hf] at p; exact fun P1 H1 e => q d P1 H1 hf e (PostE.step e p) (I.mono e)
  | exc c => rw [hf] at p; exact p
  | bad => rw [hf] at p; exact p)
theorem se_slc {tl th : TO} {fl fh : Env → R (Option Int)} (ha : SB K cls E ta fa) (hl : SO K cls E tl fl) (hh : SO K cls E th fh) : SE K cls E (tSl (rSlc K) ta tl th) (fun env => (fa env).bind fun x => (fl env).bind fun l => (fh env).bind fun h => R.ofO (slcF x l h)) := fun H0 env σ P H Q I p =>
  ha.then I p fun x v P1 H1 _ e1 r1 p1 I1 => hl.then I1 p1 fun l P2 H2 _ e2 p2 I2 => hh.then I2 p2 fun h P3 H3 _ e3 p3 I3 => by
    obtain ⟨d, hd⟩ := p3.some
    exact ⟨P3, x, d, e3.ph, (r1.mono e2).mono e3, hd, fun v H' r => p3.res e3.ph hd r⟩
end
end Cl
set_option Elab.async false
set_option linter.all false
set_option maxRecDepth 100000
set_option maxHeartbeats 4000000
namespace Cl
open PySem L2 RZ

section
variable {K : W.Frag} {cls : Nat → Value} {E : EX} {σ : L2.St} {P H P1 H1 : Hp} {Q : VK} {t ta tb tc : TE} {f fa fb fc : Env → R D}

/-! ### what is walked -/
theorem walkD_at {B P0 : Hp} {J : It} {ds : List D} {vs : List V} {G : Hp → Prop} (w : Walk J vs.length G (YAt vs)) (hg : ∀ H, Ex B H → G H) (r : Reps K P0 ds vs) : WalkD K B P0 J ds := by
  refine ⟨G, YAt vs, by rw [r.length]; exact w, hg, fun i P H x H' hi e ph y => ?_⟩
  obtain ⟨rfl, hx⟩ := y
  obtain ⟨d, hd, hr⟩ := r.getV hx
  exact ⟨P, d, hd, .refl ph, hr.mono e⟩
theorem walkD_int {B P0 : Hp} {J : It} {ns : List Int} {n : Nat} {g : Nat → Int} (hn : n = ns.length) (w : Walk J n (fun _ => True) (YFn fun i => .int (g i))) (hg : ∀ i, i < n → ns[i]? = some (g i)) : WalkD K B P0 J (ns.map D.int) := by
  subst hn
  refine ⟨fun _ => True, _, by rw [List.length_map]; exact w, fun _ _ => trivial, fun i P H x H' hi e ph y => ?_⟩
  obtain ⟨rfl, hx⟩ := y
  rw [List.length_map] at hi
  refine ⟨P, .int (g i), by rw [List.getElem?_map, hg i hi]; rfl, .refl ph, ?_⟩
  rw [hx]; exact .int _
theorem walkD_pair {B P0 : Hp} {J : It} {ds : List D} {n : Nat} {G : Hp → Prop} {xs ys : Nat → Option V} (hn : n = ds.length) (w : Walk J n G (YPair xs ys)) (hg : ∀ H, Ex B H → G H)
    (hd : ∀ i x y, i < n → xs i = some x → ys i = some y → ∃ a b, ds[i]? = some (.tup [a, b]) ∧ Rep K P0 a x ∧ Rep K P0 b y) : WalkD K B P0 J ds := by
  subst hn
  refine ⟨G, _, w, hg, fun i P H v H' hi e ph y => ?_⟩
  obtain ⟨T, x, y, rfl, hT, rfl, h1, h2⟩ := y
  obtain ⟨a, b, h3, h4, h5⟩ := hd i x y hi h1 h2
  obtain ⟨P', e2, r2⟩ := Res.keep ph (Res.newT (K := K) hT (.cons (h4.mono e) (.cons (h5.mono e) .nil)))
  exact ⟨P', _, h3, e2, r2⟩
theorem si_lst {keep : Bool} (ha : SB K cls E ta fa) (hk : keep = true → SE K cls E ta fa) : SI K cls E keep (iList K ta) (fun env => (fa env).bind lstD) := fun H0 env σ P H Q I p => by
  have p2 : ∀ (d : D) (v : V) (P1 H1 : Hp), fa env = .ok d → Ext P H P1 H1 → (RepB K P1 H1 d v ∧ (keep = true → Rep K P1 d v)) → ∃ a, v = .ref a ∧ (∃ xs, SqL K H1 a xs) ∧ Q (Itl K a) H1 := fun d v P1 H1 hf e r => by
    simp only [hf, R.bind_ok] at p
    cases d with
    | lst ds =>
      obtain ⟨a, vs, rfl, h1, h2⟩ := r.1.lst e.ph
      refine ⟨a, rfl, ⟨vs, SqL.of h1⟩, p _ P1 H1 e (walkD_at walk_list (fun H2 e2 => ?_) h2)⟩
      cases keep with
      | false => exact sqL_ex e2 (SqL.of h1)
      | true =>
        have := r.2 rfl
        cases this with
        | lst g1 g2 =>
          have := e.ph _ _ g1
          rw [h1] at this; cases this
          exact SqL.of (e2 _ _ g1)
    | _ => exact p.elim
  cases keep with
  | false =>
    refine ha H0 env σ P H _ I ?_
    cases hf : fa env with
    | exc c => simp only [hf, R.bind_exc] at p; exact p
    | bad => simp only [hf, R.bind_bad] at p; exact p.elim
    | ok d => exact fun v P1 H1 e r => p2 d v P1 H1 hf e ⟨r, fun z => by cases z⟩
  | true =>
    refine hk rfl H0 env σ P H _ I ?_
    cases hf : fa env with
    | exc c => simp only [hf, R.bind_exc] at p; exact p
    | bad => simp only [hf, R.bind_bad] at p; exact p.elim
    | ok d => exact fun v P1 H1 e r => p2 d v P1 H1 hf e ⟨.inl r, fun _ => r⟩
theorem si_tup {keep : Bool} (ha : SB K cls E ta fa) : SI K cls E keep (iTup K ta) (fun env => (fa env).bind tupD) := fun H0 env σ P H Q I p => by
  refine ha H0 env σ P H _ I ?_
  cases hf : fa env with
  | exc c => simp only [hf, R.bind_exc] at p; exact p
  | bad => simp only [hf, R.bind_bad] at p; exact p.elim
  | ok d =>
    intro v P1 H1 e r
    simp only [hf, R.bind_ok] at p
    cases d with
    | tup ds =>
      obtain ⟨a, vs, rfl, h1, h2⟩ := r.tup
      refine ⟨a, rfl, ⟨vs, SqT.of (e.ph _ _ h1)⟩, p _ P1 H1 e (walkD_at walk_tup (fun H2 e2 => ?_) h2)⟩
      cases keep with
      | false => exact SqT.of (e2 _ _ (e.ph _ _ h1))
      | true => exact SqT.of (e2 _ _ h1)
    | _ => exact p.elim
theorem strD_len (x : Str) : (strD x).length = x.cps.size := by unfold strD; simp
theorem strD_get (x : Str) (i : Nat) : (strD x)[i]? = x.cps[i]?.map fun c => .str ⟨#[c]⟩ := by
  unfold strD
  rw [List.getElem?_map, Array.getElem?_toList]
theorem walkD_str {B P0 : Hp} {x : Str} : WalkD K B P0 (Its x) (strD x) := by
  refine ⟨fun _ => True, _, by rw [strD_len]; exact walk_str, fun _ _ => trivial, fun i P H v H' hi e ph y => ?_⟩
  obtain ⟨rfl, c, hc, rfl⟩ := y
  exact ⟨P, .str ⟨#[c]⟩, by rw [strD_get, hc]; rfl, .refl ph, .str _⟩
theorem si_str {keep : Bool} (ha : SB K cls E ta fa) : SI K cls E keep (iStr ta) (fun env => (fa env).bind strI) := fun H0 env σ P H Q I p => by
  refine ha H0 env σ P H _ I ?_
  cases hf : fa env with
  | exc c => simp only [hf, R.bind_exc] at p; exact p
  | bad => simp only [hf, R.bind_bad] at p; exact p.elim
  | ok d =>
    intro v P1 H1 e r
    simp only [hf, R.bind_ok] at p
    cases d with
    | str x =>
      obtain rfl := r.str
      exact ⟨x, rfl, p _ P1 H1 e walkD_str⟩
    | _ => exact p.elim
theorem enumD_get : ∀ (ds : List D) (n i : Nat), (enumD n ds)[i]? = ds[i]?.map fun d => .tup [.int ((n + i : Nat) : Int), d]
  | [], n, i => by simp [enumD]
  | d :: ds, n, 0 => by simp [enumD]
  | d :: ds, n, i + 1 => by
    rw [enumD, List.getElem?_cons_succ, enumD_get ds (n + 1) i, List.getElem?_cons_succ]
    have : n + 1 + i = n + (i + 1) := by omega
    rw [this]
theorem enumD_len : ∀ (ds : List D) (n : Nat), (enumD n ds).length = ds.length
  | [], n => rfl
  | d :: ds, n => by rw [enumD, List.length_cons, enumD_len ds]; rfl
theorem zipD_get : ∀ (as bs : List D) (i : Nat) (a b : D), as[i]? = some a → bs[i]? = some b → (zipD as bs)[i]? = some (.tup [a, b])
  | [], _, i, _, _, h, _ => by simp at h
  | _ :: _, [], i, _, _, _, h => by simp at h
  | x :: r, y :: s, 0, a, b, h1, h2 => by simp at h1 h2; subst h1 h2; rfl
  | x :: r, y :: s, i + 1, a, b, h1, h2 => by
    rw [zipD, List.getElem?_cons_succ]
    exact zipD_get r s i a b (by simpa using h1) (by simpa using h2)
theorem zipD_len : ∀ (as bs : List D), (zipD as bs).length = min as.length bs.length
  | [], _ => by simp [zipD]
  | _ :: _, [] => by simp [zipD]
  | x :: r, y :: s => by rw [zipD, List.length_cons, zipD_len r s, List.length_cons, List.length_cons]; omega
theorem si_enum {keep : Bool} (ha : SB K cls E ta fa) (hk : keep = true → SE K cls E ta fa) : SI K cls E keep (iEnum K (tCons ta tNil)) (fun env => (fa env).bind fun x => (lstD x).bind fun a => .ok (enumD 0 a)) := fun H0 env σ P H Q I p => by
  have p2 : ∀ (d : D) (v : V) (P1 H1 : Hp), fa env = .ok d → Ext P H P1 H1 → (RepB K P1 H1 d v ∧ (keep = true → Rep K P1 d v)) → ∃ a xs, [v] = [V.ref a] ∧ SqL K H1 a xs ∧ Q (Ite K a) H1 := fun d v P1 H1 hf e r => by
    simp only [hf, R.bind_ok] at p
    cases d with
    | lst ds =>
      obtain ⟨a, vs, rfl, h1, h2⟩ := r.1.lst e.ph
      refine ⟨a, vs, rfl, SqL.of h1, p _ P1 H1 e (walkD_pair (by rw [enumD_len, h2.length]) walk_enum (fun H2 e2 => ?_) fun i x y hi hx hy => ?_)⟩
      · cases keep with
        | false => exact sqL_ex e2 (SqL.of h1)
        | true =>
          have := r.2 rfl
          cases this with
          | lst g1 g2 =>
            have := e.ph _ _ g1
            rw [h1] at this; cases this
            exact SqL.of (e2 _ _ g1)
      · cases hx
        obtain ⟨d, hd, hr⟩ := h2.getV hy
        refine ⟨_, d, by rw [enumD_get, hd]; rfl, ?_, hr⟩
        rw [Nat.zero_add]; exact .int _
    | _ => exact p.elim
  cases keep with
  | false =>
    refine ha H0 env σ P H _ I ?_
    cases hf : fa env with
    | exc c => simp only [hf, R.bind_exc] at p; exact p
    | bad => simp only [hf, R.bind_bad] at p; exact p.elim
    | ok d => exact fun v P1 H1 e r => p2 d v P1 H1 hf e ⟨r, fun z => by cases z⟩
  | true =>
    refine hk rfl H0 env σ P H _ I ?_
    cases hf : fa env with
    | exc c => simp only [hf, R.bind_exc] at p; exact p
    | bad => simp only [hf, R.bind_bad] at p; exact p.elim
    | ok d => exact fun v P1 H1 e r => p2 d v P1 H1 hf e ⟨.inl r, fun _ => r⟩
theorem si_enumS {keep : Bool} (ha : SB K cls E ta fa) : SI K cls E keep (iEnumS (tCons ta tNil)) (fun env => (fa env).bind fun x => (strI x).bind fun a => .ok (enumD 0 a)) := fun H0 env σ P H Q I p => by
  refine ha H0 env σ P H _ I ?_
  cases hf : fa env with
  | exc c => simp only [hf, R.bind_exc] at p; exact p
  | bad => simp only [hf, R.bind_bad] at p; exact p.elim
  | ok d =>
    intro v P1 H1 e r
    simp only [hf, R.bind_ok] at p
    cases d with
    | str x =>
      obtain rfl := r.str
      refine ⟨x, rfl, p _ P1 H1 e (walkD_pair (by rw [enumD_len, strD_len]) walk_enumS (fun _ _ => trivial) fun i a b hi hx hy => ?_)⟩
      cases hx
      obtain ⟨c, hc, rfl⟩ := Option.map_eq_some_iff.mp hy
      refine ⟨_, .str ⟨#[c]⟩, by rw [enumD_get, strD_get, hc]; rfl, ?_, .str _⟩
      rw [Nat.zero_add]; exact .int _
    | _ => exact p.elim
theorem walk_zipT {a b : Addr} {xs ys : List V} {n : Nat} (hn : n = min xs.length ys.length) : Walk (ItzT K a b) n (fun H => SqT K H a xs ∧ SqT K H b ys) (YPair (fun i => xs[i]?) (fun i => ys[i]?)) := by
  subst hn
  refine ⟨fun i _ hi q => ?_, fun _ q => ⟨xs, ys, q.1, q.2, by omega⟩, fun i H v H' _ q y => ?_⟩
  · have h1 : i < xs.length := by omega
    have h2 : i < ys.length := by omega
    exact ⟨xs, ys, xs[i], ys[i], q.1, q.2, by simp [h1], by simp [h2]⟩
  · obtain ⟨T, x, z, h1, h2, h3, h4, h5⟩ := y
    exact ⟨T, x, z, h1, h2, h3, h4 xs q.1, h5 ys q.2⟩
theorem zip_pair {P0 : Hp} {as bs : List D} {vs ws : List V} (r1 : Reps K P0 as vs) (r2 : Reps K P0 bs ws) (i : Nat) (x y : V) (hx : vs[i]? = some x) (hy : ws[i]? = some y) : ∃ a b, (zipD as bs)[i]? = some (.tup [a, b]) ∧ Rep K P0 a x ∧ Rep K P0 b y := by
  obtain ⟨a, ha, ra⟩ := r1.getV hx
  obtain ⟨b, hb, rb⟩ := r2.getV hy
  exact ⟨a, b, zipD_get as bs i a b ha hb, ra, rb⟩
/-- zip, its operands kept -/
theorem si_zip {keep : Bool} (ha : SE K cls E ta fa) (hb : SE K cls E tb fb) : SI K cls E keep (iZipA K (tCons ta (tCons tb tNil))) (fun env => (fa env).bind fun x => (fb env).bind fun y => zipDD x y) := fun H0 env σ P H Q I p => by
  refine ha H0 env σ P H _ I ?_
  cases hf : fa env with
  | exc c => simp only [hf, R.bind_exc] at p; exact p
  | bad => simp only [hf, R.bind_bad] at p; exact p.elim
  | ok d =>
    intro v P1 H1 e1 r1
    refine hb H0 env σ P1 H1 _ (I.mono e1) ?_
    cases hg : fb env with
    | exc c => simp only [hf, hg, R.bind_exc, R.bind_ok] at p; exact fun P' H' e2 => p P' H' (e1.trans e2)
    | bad => simp only [hf, hg, R.bind_bad, R.bind_ok] at p; exact p.elim
    | ok d2 =>
      simp only [hf, hg, R.bind_ok] at p
      intro u P2 H2 e2 r2
      cases d with
      | lst as =>
        cases d2 with
        | lst bs =>
          cases r1 with
          | lst g1 q1 =>
            cases r2 with
            | lst g2 q2 =>
              have g1' := e2.p _ _ g1
              have q1' := q1.mono e2.p
              refine ⟨_, _, _, _, rfl, .inl ⟨SqL.of (e2.ph _ _ g1'), SqL.of (e2.ph _ _ g2), p _ P2 H2 (e1.trans e2) (walkD_pair (by rw [zipD_len, q1.length, q2.length]) (walk_zip rfl) (fun H3 e3 => ?_) fun i x y hi hx hy => zip_pair q1' q2 i x y hx hy)⟩⟩
              cases keep with
              | false => exact ⟨SqL.of (e3 _ _ (e2.ph _ _ g1')), SqL.of (e3 _ _ (e2.ph _ _ g2))⟩
              | true => exact ⟨SqL.of (e3 _ _ g1'), SqL.of (e3 _ _ g2)⟩
        | _ => exact p.elim
      | tup as =>
        cases d2 with
        | tup bs =>
          cases r1 with
          | tup g1 q1 =>
            cases r2 with
            | tup g2 q2 =>
              have g1' := e2.p _ _ g1
              have q1' := q1.mono e2.p
              refine ⟨_, _, _, _, rfl, .inr ⟨SqT.of (e2.ph _ _ g1'), SqT.of (e2.ph _ _ g2), p _ P2 H2 (e1.trans e2) (walkD_pair (by rw [zipD_len, q1.length, q2.length]) (walk_zipT rfl) (fun H3 e3 => ?_) fun i x y hi hx hy => zip_pair q1' q2 i x y hx hy)⟩⟩
              cases keep with
              | false => exact ⟨SqT.of (e3 _ _ (e2.ph _ _ g1')), SqT.of (e3 _ _ (e2.ph _ _ g2))⟩
              | true => exact ⟨SqT.of (e3 _ _ g1'), SqT.of (e3 _ _ g2)⟩
        | _ => exact p.elim
      | _ => exact p.elim
/-! ranges -/
theorem rgI_get {a b : Int} {i : Nat} (h : i < (b - a).toNat) : (rgI a b)[i]? = some (a + (i : Int)) := by
  unfold rgI
  rw [List.getElem?_map, List.getElem?_range h]; rfl
theorem rgI_len (a b : Int) : (rgI a b).length = (b - a).toNat := by unfold rgI; simp
theorem okRg_iff {a b : Int} (h : okRg a b = true) : -100000 ≤ a ∧ a ≤ 100000 ∧ -100000 ≤ b ∧ b ≤ 100000 := by
  unfold okRg at h; exact of_decide_eq_true h
theorem PostI.step {r : R (List D)} {keep : Bool} {Q : It → Hp → Prop} (e : Ext P H P1 H1) (p : PostI K cls E σ P H keep r Q) : PostI K cls E σ P1 H1 keep r Q := by
  cases r with
  | ok d => exact fun J P' H' e2 rp => p J P' H' (e.trans e2) rp
  | exc c => exact fun P' H' e2 => p P' H' (e.trans e2)
  | bad => exact p
theorem SB.thenI {k : D → R (List D)} {keep : Bool} {Qb : VK} {Qi : It → Hp → Prop} {H0 : Hp} {env : Env} (h : SB K cls E t f) (I : EnvOk K H0 env σ P H) (p : PostI K cls E σ P H keep ((f env).bind k) Qi)
    (q : ∀ d v P1 H1, f env = .ok d → Ext P H P1 H1 → RepB K P1 H1 d v → PostI K cls E σ P1 H1 keep (k d) Qi → EnvOk K H0 env σ P1 H1 → Qb v H1) : t σ H Qb := h H0 env σ P H Qb I (by
  cases hf : f env with
  | ok d => rw [hf] at p; exact fun v P1 H1 e r => q d v P1 H1 hf e r (PostI.step e p) (I.mono e)
  | exc c => rw [hf] at p; exact p
  | bad => rw [hf] at p; exact p)
theorem rgD_ok {a b : Int} {Qi : It → Hp → Prop} {keep : Bool} (e : Ex P H) (p : PostI K cls E σ P H keep (rgD a b) Qi) : (-100000 ≤ a ∧ a ≤ 100000 ∧ -100000 ≤ b ∧ b ≤ 100000) ∧ Qi (Itr a (b - a).toNat) H := by
  unfold rgD at p
  by_cases hk : okRg a b = true
  · rw [if_pos hk] at p
    refine ⟨okRg_iff hk, p _ P H (.refl e) (walkD_int (rgI_len a b).symm walk_range fun i hi => rgI_get hi)⟩
  · rw [if_neg hk] at p; exact p.elim
theorem si_rng1 {keep : Bool} (ha : SB K cls E ta fa) : SI K cls E keep (iRng1 (tCons ta tNil)) (fun env => (fa env).bind fun x => (intD x).bind fun i => rgD 0 i) := fun H0 env σ P H Q I p =>
  ha.thenI I p fun x v P1 H1 _ e1 r1 p1 I1 => by
    rcases intD_bind (d := x) (k := fun i => rgD 0 i) with ⟨i, rfl, h⟩ | h
    · rw [h] at p1
      obtain ⟨hk, q⟩ := rgD_ok e1.ph p1
      rw [Int.sub_zero] at q
      exact ⟨i, by rw [r1.int], by omega, by omega, q⟩
    · rw [h] at p1; exact p1.elim
theorem si_rng2 {keep : Bool} (ha : SB K cls E ta fa) (hb : SB K cls E tb fb) : SI K cls E keep (iRng2 (tCons ta (tCons tb tNil))) (fun env => (fa env).bind fun x => (fb env).bind fun y => (intD x).bind fun i => (intD y).bind fun j => rgD i j) := fun H0 env σ P H Q I p =>
  ha.thenI I p fun x v P1 H1 _ e1 r1 p1 I1 => hb.thenI I1 p1 fun y u P2 H2 _ e2 r2 p2 I2 => by
    rcases intD_bind (d := x) (k := fun i => (intD y).bind fun j => rgD i j) with ⟨i, rfl, h⟩ | h
    · rw [h] at p2
      rcases intD_bind (d := y) (k := fun j => rgD i j) with ⟨j, rfl, h'⟩ | h'
      · rw [h'] at p2
        obtain ⟨hk, q⟩ := rgD_ok e2.ph p2
        exact ⟨i, j, by rw [r1.int, r2.int], ⟨by omega, by omega, by omega, by omega⟩, q⟩
      · rw [h'] at p2; exact p2.elim
    · rw [h] at p2; exact p2.elim
theorem fitsLong {x : Int} (h : -1000000 ≤ x ∧ x ≤ 1000000) : Builtin.Range.rangeFitsLong x = true := by
  unfold Builtin.Range.rangeFitsLong
  simp only [Bool.and_eq_true, decide_eq_true_eq]
  omega
theorem rgC_ok {a b c : Int} (h : -100000 ≤ a ∧ a ≤ 100000 ∧ -100000 ≤ b ∧ b ≤ 100000) (hc : 0 < c ∧ c ≤ 1000) : RgC a b c (rgC a b c).length ∧ (rgC a b c).length ≤ 2 ^ 24 := by
  have hs : Builtin.Range.rangeSize a b c = (((rgC a b c).length : Nat) : Int) := by
    unfold Builtin.Range.rangeSize rgC
    rw [if_pos hc.1, List.length_map, List.length_range]
    have e : b - a + c - 1 = (b - a - 1) + 1 * c := by omega
    rw [e, Int.add_mul_ediv_right _ _ (by omega)]
    by_cases hab : a < b
    · rw [if_pos hab]
      have : 0 ≤ (b - a - 1) / c := Int.ediv_nonneg (by omega) (by omega)
      omega
    · rw [if_neg hab]
      have : (b - a - 1) / c < 0 := Int.ediv_neg_of_neg_of_pos (by omega) hc.1
      omega
  have hl : (rgC a b c).length ≤ 200000 := by
    have : (((rgC a b c).length : Nat) : Int) ≤ 200000 := by
      rw [← hs]
      unfold Builtin.Range.rangeSize
      rw [if_pos hc.1]
      split
      · have := Int.ediv_le_self c (show 0 ≤ b - a - 1 by omega)
        omega
      · omega
    omega
  refine ⟨⟨by omega, by omega, ?_, hs⟩, Nat.le_trans hl (by decide)⟩
  unfold Builtin.Range.small
  rw [hs, fitsLong (by omega), fitsLong (by omega), fitsLong (by omega), fitsLong (by omega), if_pos hc.1, fitsLong (by omega)]
  simp
theorem rgC_get {a b c : Int} {i : Nat} (h : i < (rgC a b c).length) : (rgC a b c)[i]? = some (a + (i : Int) * c) := by
  have h' : i < ((b - a + c - 1) / c).toNat := by unfold rgC at h; simpa using h
  unfold rgC
  rw [List.getElem?_map, List.getElem?_range h']; rfl
theorem rgCV_eq (a b c : Int) : rgCV a c (rgC a b c).length = (rgC a b c).map V.int := by
  unfold rgCV rgC
  rw [List.length_map, List.length_range, List.map_map]; rfl
theorem rgCD_iff {a b c : Int} : (∃ h : (-100000 ≤ a ∧ a ≤ 100000 ∧ -100000 ≤ b ∧ b ≤ 100000) ∧ (0 < c ∧ c ≤ 1000), rgCD a b c = .ok ((rgC a b c).map D.int)) ∨ rgCD a b c = .bad := by
  unfold rgCD
  by_cases h : (okRg a b && decide (0 < c ∧ c ≤ 1000)) = true
  · rw [if_pos h]
    rw [Bool.and_eq_true, decide_eq_true_eq] at h
    exact .inl ⟨⟨okRg_iff h.1, h.2⟩, rfl⟩
  · rw [if_neg h]
    exact .inr rfl
theorem si_rng3 {keep : Bool} (ha : SB K cls E ta fa) (hb : SB K cls E tb fb) (hc : SB K cls E tc fc) : SI K cls E keep (iRng3 (tCons ta (tCons tb (tCons tc tNil)))) (fun env => (fa env).bind fun x => (fb env).bind fun y => (fc env).bind fun z => (intD x).bind fun i => (intD y).bind fun j => (intD z).bind fun k => rgCD i j k) := fun H0 env σ P H Q I p =>
  ha.thenI I p fun x v P1 H1 _ e1 r1 p1 I1 => hb.thenI I1 p1 fun y u P2 H2 _ e2 r2 p2 I2 => hc.thenI I2 p2 fun z w P3 H3 _ e3 r3 p3 I3 => by
    rcases intD_bind (d := x) (k := fun i => (intD y).bind fun j => (intD z).bind fun k => rgCD i j k) with ⟨i, rfl, h⟩ | h
    · rw [h] at p3
      rcases intD_bind (d := y) (k := fun j => (intD z).bind fun k => rgCD i j k) with ⟨j, rfl, h'⟩ | h'
      · rw [h'] at p3
        rcases intD_bind (d := z) (k := fun k => rgCD i j k) with ⟨k, rfl, h''⟩ | h''
        · rw [h''] at p3
          rcases rgCD_iff (a := i) (b := j) (c := k) with ⟨⟨hk, hc⟩, e⟩ | e
          · rw [e] at p3
            exact ⟨i, j, k, _, by rw [r1.int, r2.int, r3.int], (rgC_ok hk hc).1, p3 _ P3 H3 (.refl e3.ph) (walkD_int rfl walk_rangeC fun i hi => rgC_get hi)⟩
          · rw [e] at p3; exact p3.elim
        · rw [h''] at p3; exact p3.elim
      · rw [h'] at p3; exact p3.elim
    · rw [h] at p3; exact p3.elim
theorem se_rg3 (ha : SB K cls E ta fa) (hb : SB K cls E tb fb) (hc : SB K cls E tc fc) : SE K cls E (tLstRg3 (tCons ta (tCons tb (tCons tc tNil)))) (fun env => ((fa env).bind fun x => (fb env).bind fun y => (fc env).bind fun z => (intD x).bind fun i => (intD y).bind fun j => (intD z).bind fun k => rgCD i j k).bind fun ds => .ok (.lst ds)) := fun H0 env σ P H Q I p => by
  have as : ((fa env).bind fun x => (fb env).bind fun y => (fc env).bind fun z => (intD x).bind fun i => (intD y).bind fun j => (intD z).bind fun k => rgCD i j k).bind (fun ds => R.ok (D.lst ds)) = (fa env).bind fun x => (fb env).bind fun y => (fc env).bind fun z => (intD x).bind fun i => (intD y).bind fun j => (intD z).bind fun k => (rgCD i j k).bind fun ds => .ok (.lst ds) := by
    cases fa env <;> try rfl
    cases fb env <;> try rfl
    cases fc env <;> try rfl
    rename_i x y z
    cases x <;> try rfl
    cases y <;> try rfl
    cases z <;> rfl
  have p : PostE K cls E σ P H _ Q := p
  simp only [] at p
  rw [as] at p
  exact ha.then I p fun x v P1 H1 _ e1 r1 p1 I1 => hb.then I1 p1 fun y u P2 H2 _ e2 r2 p2 I2 => hc.then I2 p2 fun z w P3 H3 _ e3 r3 p3 I3 => by
    cases x with
    | int i =>
      cases y with
      | int j =>
        cases z with
        | int k =>
          simp only [intD, R.bind_ok] at p3
          rcases rgCD_iff (a := i) (b := j) (c := k) with ⟨⟨hk, hc⟩, e⟩ | e
          · rw [e, R.bind_ok] at p3
            refine ⟨i, j, k, _, by rw [r1.int, r2.int, r3.int], (rgC_ok hk hc).1, (rgC_ok hk hc).2, fun q hq => ?_⟩
            rw [rgCV_eq]
            obtain ⟨P4, e4, r4⟩ := Res.keep e3.ph (Res.newL (K := K) hq (reps_ints (rgC i j k)))
            exact p3 _ P4 _ e4 r4
          · rw [e] at p3; exact p3.elim
        | _ => exact p3.elim
      | _ => exact p3.elim
    | _ => exact p3.elim
theorem rgV_eq (a b : Int) : rgV a b = (rgI a b).map V.int := by
  unfold rgV rgI
  rw [List.map_map]; rfl
theorem rg_ok {a b : Int} (h : okRg a b = true) : RgOk a b := by
  have := okRg_iff h
  unfold RgOk
  refine ⟨by omega, by omega, by omega, by omega, ?_⟩
  have : (b - a).toNat ≤ 200000 := by omega
  exact Nat.le_trans this (by decide)
theorem se_rg1 (ha : SB K cls E ta fa) : SE K cls E (tLstRg (tRg1 ta)) (fun env => ((fa env).bind fun x => (intD x).bind fun i => rgD 0 i).bind fun ds => .ok (.lst ds)) := fun H0 env σ P H Q I p => by
  refine ha H0 env σ P H _ I ?_
  cases hf : fa env with
  | exc c => simp only [hf, R.bind_exc] at p; exact p
  | bad => simp only [hf, R.bind_bad] at p; exact p.elim
  | ok d =>
    intro v P1 H1 e r
    simp only [hf, R.bind_ok] at p
    cases d with
    | int i =>
      simp only [intD, R.bind_ok, rgD] at p
      by_cases hk : okRg 0 i = true
      · rw [if_pos hk] at p
        refine ⟨i, r.int, rg_ok hk, fun q hq => ?_⟩
        rw [rgV_eq]
        obtain ⟨P2, e2, r2⟩ := Res.keep e.ph (Res.newL (K := K) hq (reps_ints (rgI 0 i)))
        exact p _ P2 _ (e.trans e2) r2
      · rw [if_neg hk] at p; exact p.elim
    | _ => exact p.elim
theorem se_rg2 (ha : SB K cls E ta fa) (hb : SB K cls E tb fb) : SE K cls E (tLstRg (tRg2 ta tb)) (fun env => ((fa env).bind fun x => (fb env).bind fun y => (intD x).bind fun i => (intD y).bind fun j => rgD i j).bind fun ds => .ok (.lst ds)) := fun H0 env σ P H Q I p => by
  refine ha H0 env σ P H _ I ?_
  cases hf : fa env with
  | exc c => simp only [hf, R.bind_exc] at p; exact p
  | bad => simp only [hf, R.bind_bad] at p; exact p.elim
  | ok d =>
    intro v P1 H1 e r
    refine hb H0 env σ P1 H1 _ (I.mono e) ?_
    cases hg : fb env with
    | exc c => simp only [hf, hg, R.bind_exc, R.bind_ok] at p; exact fun P' H' e2 => p P' H' (e.trans e2)
    | bad => simp only [hf, hg, R.bind_bad, R.bind_ok] at p; exact p.elim
    | ok d2 =>
      intro u P2 H2 e2 r2
      simp only [hf, hg, R.bind_ok] at p
      cases d with
      | int i =>
        cases d2 with
        | int j =>
          simp only [intD, R.bind_ok, rgD] at p
          by_cases hk : okRg i j = true
          · rw [if_pos hk] at p
            refine ⟨i, j, r.int, r2.int, rg_ok hk, fun q hq => ?_⟩
            rw [rgV_eq]
            obtain ⟨P3, e3, r3⟩ := Res.keep e2.ph (Res.newL (K := K) hq (reps_ints (rgI i j)))
            exact p _ P3 _ ((e.trans e2).trans e3) r3
          · rw [if_neg hk] at p; exact p.elim
        | _ => exact p.elim
      | _ => cases d2 <;> exact p.elim
theorem se_rt2 (ha : SB K cls E ta fa) (hb : SB K cls E tb fb) : SE K cls E (tTupRg (tRg2 ta tb)) (fun env => ((fa env).bind fun x => (fb env).bind fun y => (intD x).bind fun i => (intD y).bind fun j => rgD i j).bind fun ds => .ok (.tup ds)) := fun H0 env σ P H Q I p => by
  refine ha H0 env σ P H _ I ?_
  cases hf : fa env with
  | exc c => simp only [hf, R.bind_exc] at p; exact p
  | bad => simp only [hf, R.bind_bad] at p; exact p.elim
  | ok d =>
    intro v P1 H1 e r
    refine hb H0 env σ P1 H1 _ (I.mono e) ?_
    cases hg : fb env with
    | exc c => simp only [hf, hg, R.bind_exc, R.bind_ok] at p; exact fun P' H' e2 => p P' H' (e.trans e2)
    | bad => simp only [hf, hg, R.bind_bad, R.bind_ok] at p; exact p.elim
    | ok d2 =>
      intro u P2 H2 e2 r2
      simp only [hf, hg, R.bind_ok] at p
      cases d with
      | int i =>
        cases d2 with
        | int j =>
          simp only [intD, R.bind_ok, rgD] at p
          by_cases hk : okRg i j = true
          · rw [if_pos hk] at p
            refine ⟨i, j, r.int, r2.int, rg_ok hk, fun q hq => ?_⟩
            rw [rgV_eq]
            obtain ⟨P3, e3, r3⟩ := Res.keep e2.ph (Res.newT (K := K) hq (reps_ints (rgI i j)))
            exact p _ P3 _ ((e.trans e2).trans e3) r3
          · rw [if_neg hk] at p; exact p.elim
        | _ => exact p.elim
      | _ => cases d2 <;> exact p.elim
theorem se_rt1 (ha : SB K cls E ta fa) : SE K cls E (tTupRg (tRg1 ta)) (fun env => ((fa env).bind fun x => (intD x).bind fun i => rgD 0 i).bind fun ds => .ok (.tup ds)) := fun H0 env σ P H Q I p => by
  refine ha H0 env σ P H _ I ?_
  cases hf : fa env with
  | exc c => simp only [hf, R.bind_exc] at p; exact p
  | bad => simp only [hf, R.bind_bad] at p; exact p.elim
  | ok d =>
    intro v P1 H1 e r
    simp only [hf, R.bind_ok] at p
    cases d with
    | int i =>
      simp only [intD, R.bind_ok, rgD] at p
      by_cases hk : okRg 0 i = true
      · rw [if_pos hk] at p
        refine ⟨i, r.int, rg_ok hk, fun q hq => ?_⟩
        rw [rgV_eq]
        obtain ⟨P2, e2, r2⟩ := Res.keep e.ph (Res.newT (K := K) hq (reps_ints (rgI 0 i)))
        exact p _ P2 _ (e.trans e2) r2
      · rw [if_neg hk] at p; exact p.elim
    | _ => exact p.elim
/-! ### targets -/
theorem wipe_set_in {x : Option V} : ∀ {vs : List Nat} {σ : L2.St} {j : Nat}, j ∈ vs → wipe (σ.set j x) vs = wipe σ vs
  | [], _, _, h => by simp at h
  | v :: vs, σ, j, h => by
    unfold wipe
    by_cases hj : j ∈ vs
    · rw [wipe_set_in hj]
    · have e : v = j := by
        rcases List.mem_cons.mp h with h | h
        · exact h.symm
        · exact absurd h hj
      subst e
      rw [wipe_set_out hj, List.set_set]
where
  wipe_set_out {x : Option V} : ∀ {vs : List Nat} {σ : L2.St} {j : Nat}, j ∉ vs → wipe (σ.set j x) vs = (wipe σ vs).set j x
    | [], _, _, _ => rfl
    | v :: vs, σ, j, h => by
      unfold wipe
      simp only [List.mem_cons, not_or] at h
      rw [wipe_set_out h.2, List.set_comm _ _ (Ne.symm (Ne.symm h.1))]
theorem wipe_wipe {vs : List Nat} {σ : L2.St} : wipe (wipe σ vs) vs = wipe σ vs := by
  have : ∀ ws : List Nat, (∀ w ∈ ws, w ∈ vs) → wipe (wipe σ ws) vs = wipe σ vs := by
    intro ws
    induction ws with
    | nil => intro _; rfl
    | cons w ws ih =>
      intro h
      show wipe ((wipe σ ws).set w none) vs = wipe σ vs
      rw [wipe_set_in (h w (List.mem_cons_self)), ih fun z hz => h z (List.mem_cons_of_mem _ hz)]
  exact this vs fun _ h => h
theorem sg_names {H0 : Hp} : ∀ (is : List Nat) (ds : List D) (xs : List V) (env env' : Env) (σ : L2.St), EnvOk K H0 env σ P H → Reps K P ds xs → setAll is ds env = .ok env' → ∀ Qg : L2.St → Hp → Prop,
    (∀ σ', EnvOk K H0 env' σ' P H → (∀ vs : List Nat, (∀ i ∈ is, i ∈ vs) → wipe σ' vs = wipe σ vs) → Qg σ' H) → gNames is xs σ H Qg
  | [], ds, xs, env, env', σ, I, r, h, Qg, q => by
    cases ds with
    | nil =>
      cases r
      simp only [setAll, R.ok.injEq] at h
      subst h
      exact ⟨rfl, q σ I fun _ _ => rfl⟩
    | cons _ _ => simp [setAll] at h
  | i :: is, ds, xs, env, env', σ, I, r, h, Qg, q => by
    cases ds with
    | nil => simp [setAll] at h
    | cons d ds =>
      cases r with
      | cons r1 r2 =>
        refine ⟨_, _, rfl, ?_⟩
        show gNames is _ (σ.set i _) H Qg
        refine sg_names is ds _ _ env' _ (I.set r1) r2 h Qg fun σ' I' hw => q σ' I' fun vs hv => ?_
        rw [hw vs fun j hj => hv j (List.mem_cons_of_mem _ hj), wipe_set_in (hv i (List.mem_cons_self))]
theorem setAll_len : ∀ {is : List Nat} {ds : List D} {env env' : Env}, setAll is ds env = .ok env' → ds.length = is.length
  | [], [], _, _, _ => rfl
  | [], _ :: _, _, _, h => by simp [setAll] at h
  | _ :: _, [], _, _, h => by simp [setAll] at h
  | i :: is, d :: ds, env, env', h => by simp [setAll_len (is := is) (ds := ds) h]
theorem sg_of {H0 : Hp} {tg : Tg} {d : D} {x : V} {env env' : Env} (I : EnvOk K H0 env σ P H) (r : Rep K P d x) (h : setTg tg d env = .ok env') {Qg : L2.St → Hp → Prop}
    (q : ∀ σ', EnvOk K H0 env' σ' P H → (∀ vs : List Nat, tg.inn vs = true → wipe σ' vs = wipe σ vs) → Qg σ' H) : tOfG K tg x σ H Qg := by
  cases tg with
  | nm i =>
    simp only [setTg, R.ok.injEq] at h
    subst h
    exact q _ (I.set r) fun vs hv => wipe_set_in (by simpa [Tg.inn] using hv)
  | tp is =>
    cases d with
    | tup ds =>
      cases r with
      | tup g r =>
        refine .inl ⟨_, _, rfl, SqT.of (I.ex _ _ g), by rw [← r.length]; exact setAll_len h, sg_names is ds _ env env' σ I r h Qg fun σ' I' hw => q σ' I' fun vs hv => hw vs fun i hi => ?_⟩
        simp only [Tg.inn, List.all_eq_true] at hv
        simpa using hv i hi
    | lst ds =>
      cases r with
      | lst g r =>
        refine .inr ⟨_, _, rfl, SqL.of (I.ex _ _ g), by rw [← r.length]; exact setAll_len h, sg_names is ds _ env env' σ I r h Qg fun σ' I' hw => q σ' I' fun vs hv => hw vs fun i hi => ?_⟩
        simp only [Tg.inn, List.all_eq_true] at hv
        simpa using hv i hi
    | _ => simp [setTg] at h
theorem sg_tup {H0 : Hp} {is : List Nat} {ds : List D} {x : V} {env env' : Env} (I : EnvOk K H0 env σ P H) (r : Rep K P (.tup ds) x) (h : setAll is ds env = .ok env') {Qg : L2.St → Hp → Prop} (q : ∀ σ', EnvOk K H0 env' σ' P H → Qg σ' H) : gTup K is.length (gNames is) x σ H Qg := by
  cases r with
  | tup g r => exact ⟨_, _, rfl, SqT.of (I.ex _ _ g), by rw [← r.length]; exact setAll_len h, sg_names is ds _ env env' σ I r h Qg fun σ' I' _ => q σ' I'⟩
end
end Cl
set_option Elab.async false
set_option linter.all false
set_option maxRecDepth 100000
set_option maxHeartbeats 4000000
namespace Cl
open PySem L2 RZ

section
variable {K : W.Frag} {cls : Nat → Value} {E : EX} {σ : L2.St} {P H P1 H1 : Hp} {Q : VK} {t ta tb tc te : TE} {f fa fb fc fe : Env → R D}
theorem get_drop {α : Type} {l : List α} {i : Nat} {a : α} (h : l[i]? = some a) : l.drop i = a :: l.drop (i + 1) := by
  obtain ⟨hl, rfl⟩ := List.getElem?_eq_some_iff.mp h
  exact List.drop_eq_getElem_cons hl
/-- the list that a comprehension fills: D the list, the results so far in it, the others to come -/
def Fill (K : W.Frag) (P1 H1 : Hp) (g : D → R (Option D)) (ds ys : List D) (Dl : Addr) (i : Nat) (H' : Hp) : Prop :=
  ∃ P' vs acc rest, Ext P1 H1 P' H' ∧ P' Dl = none ∧ H' Dl = some (.lst vs) ∧ Reps K P' acc vs ∧ ys = acc ++ rest ∧ comp g (ds.drop i) = .ok rest ∧ acc.length ≤ i
theorem sn_lc {wi : TI} {fi : Env → R (List D)} {tt : TT} {ft : Env → R Bool} {tg : Tg} {vs : List Nat} {eb : Bool} (hi : SI K cls E false wi fi) (ht : ST K cls EX0 tt ft) (he : eb = false → SE K cls EX0 te fe) :
    SN K cls E (tLc wi (tOfG K tg) tt te vs) (fun env => (fi env).bind fun ds => if ds.length ≤ lim ∧ tg.inn vs = true ∧ eb = false then
      (comp (fun d => (setTg tg d (wipeE env vs)).bind fun e1 => (ft e1).bind fun k => optB k (fe e1)) ds).bind fun ys => .ok (.lst ys) else .bad) := fun H0 env σ P H Q I p => by
  refine hi H0 env σ P H _ I ?_
  cases hf : fi env with
  | exc c => simp only [hf, R.bind_exc] at p; exact p
  | bad => simp only [hf, R.bind_bad] at p; exact p.elim
  | ok ds =>
    simp only [hf, R.bind_ok] at p
    by_cases hc : ds.length ≤ lim ∧ tg.inn vs = true ∧ eb = false
    case neg => rw [if_neg hc] at p; exact p.elim
    rw [if_pos hc] at p
    obtain ⟨hl, hin, hb⟩ := hc
    generalize hg : (fun d => (setTg tg d (wipeE env vs)).bind fun e1 => (ft e1).bind fun k => optB k (fe e1)) = g at p
    cases hq : comp g ds with
    | exc c =>
      exfalso
      have : ∀ l : List D, ∀ c, comp g l ≠ .exc c := by
        intro l
        induction l with
        | nil => intro c h; simp [comp] at h
        | cons a r ih =>
          intro c h
          unfold comp at h
          cases ha : g a with
          | ok o =>
            simp only [ha] at h
            cases hr : comp g r with
            | ok ys => simp [hr] at h
            | exc c' => exact ih c' hr
            | bad => simp [hr] at h
          | exc c' => simp [ha] at h
          | bad => simp [ha] at h
      exact this ds c hq
    | bad => simp only [hq, R.bind_bad] at p; exact p.elim
    | ok ys =>
      simp only [hq, R.bind_ok] at p
      intro J P1 H1 e1 hw
      obtain ⟨G, Y, w, hG, hY⟩ := hw
      simp only [Bool.false_eq_true, if_false] at hG
      intro Dl hD
      have pD : P1 Dl = none := e1.ph.free hD
      refine lc_it w (Fill K P1 H1 g ds ys Dl) ⟨P1, [], [], ys, Ext.newO e1.ph hD, pD, upd_same, .nil, rfl, by simpa using hq, Nat.le_refl _⟩ (fun i H' _ hF => ?_) (fun i x H2 H3 hi hF hy => ?_) (fun H' hF => ?_)
      · obtain ⟨P', us, acc, rest, e2, _⟩ := hF
        exact hG H' e2.h
      · obtain ⟨P2, us, acc, rest, e2, d0, d1, d2, d3, d4, d5⟩ := hF
        obtain ⟨P3, d, hd, e3, r3⟩ := hY i P2 H2 x H3 hi e2.p e2.ph hy
        rw [get_drop hd] at d4
        unfold comp at d4
        have I3 : EnvOk K H0 (wipeE env vs) (wipe σ vs) P3 H3 := (I.mono ((e1.trans e2).trans e3)).wipe vs
        have z0 : P3 Dl = none := e3.fr Dl d0 (by rw [d1]; simp)
        have z1 : H3 Dl = some (.lst us) := e3.h _ _ d1
        cases hgd : g d with
        | exc c => simp [hgd] at d4
        | bad => simp [hgd] at d4
        | ok o =>
          simp only [hgd] at d4
          cases hcr : comp g (ds.drop (i + 1)) with
          | exc c => simp [hcr] at d4
          | bad => simp [hcr] at d4
          | ok rest' =>
            simp only [hcr, R.bind_ok, R.ok.injEq] at d4
            rw [← hg] at hgd
            cases hs : setTg tg d (wipeE env vs) with
            | exc c => simp [hs] at hgd
            | bad => simp [hs] at hgd
            | ok env' =>
              simp only [hs, R.bind_ok] at hgd
              refine sg_of I3 r3 hs fun σ' I' hw => ⟨by rw [hw vs hin, wipe_wipe], ?_⟩
              refine ht H0 env' σ' P3 H3 _ I' ?_
              cases hk : ft env' with
              | exc c => simp [hk] at hgd
              | bad => simp [hk] at hgd
              | ok k =>
                intro P4 H4 e4
                simp only [hk, R.bind_ok] at hgd
                cases k with
                | false =>
                  simp only [optB, Bool.false_eq_true, if_false, R.ok.injEq] at hgd
                  subst hgd
                  simp only [Bool.false_eq_true, if_false]
                  refine ⟨P4, us, acc, rest, (e2.trans e3).trans e4, e4.fr Dl z0 (by rw [z1]; simp), e4.h _ _ z1, d2.mono (e3.p.trans e4.p), d3, ?_, by omega⟩
                  rw [hcr, ← d4]; rfl
                | true =>
                  simp only [optB, if_true] at hgd ⊢
                  refine he hb H0 env' σ' P4 H4 _ (I'.mono e4) ?_
                  cases hy : fe env' with
                  | exc c => simp [hy] at hgd
                  | bad => simp [hy] at hgd
                  | ok y =>
                    simp only [hy, R.bind_ok, R.ok.injEq] at hgd
                    subst hgd
                    intro v P5 H5 e5 r5
                    have e25 := ((e2.trans e3).trans e4).trans e5
                    have w0 : P5 Dl = none := e5.fr Dl (e4.fr Dl z0 (by rw [z1]; simp)) (by rw [e4.h _ _ z1]; simp)
                    have w1 : H5 Dl = some (.lst us) := e5.h _ _ (e4.h _ _ z1)
                    have hlen := d2.length
                    refine ⟨us, w1, ?_, P5, us ++ [v], acc ++ [y], rest', ?_, w0, upd_same, (d2.mono ((e3.p.trans e4.p).trans e5.p)).append (.cons r5 .nil), ?_, hcr, by simp; omega⟩
                    · rw [← lim_eq]; omega
                    · refine ⟨fun b o hb => ?_, e25.p, fun b o hb => ?_, e25.fr⟩
                      · have nb : b ≠ Dl := ne_of_none hb hD
                        rw [upd_ne nb]; exact e25.h b o hb
                      · have nb : b ≠ Dl := fun z => by rw [z, w0] at hb; cases hb
                        rw [upd_ne nb]; exact e25.ph b o hb
                    · rw [d3, ← d4]; simp [optL]
      · obtain ⟨P', us, acc, rest, e2, d0, d1, d2, d3, d4, _⟩ := hF
        rw [List.drop_length] at d4
        simp only [comp, R.ok.injEq] at d4
        subst d4
        rw [List.append_nil] at d3
        subst d3
        exact p Dl us P' H' (e1.trans e2) (e1.h.free hD) d0 d1 d2
theorem EnvOk.other {H0 : Hp} {env : Env} {a : Addr} {o : HO} (h : EnvOk K H0 env σ P H) (hp : P a = none) (far : ∀ (j : Nat) (es : List D), env[j]? = some (.own es) → σ[j]? ≠ some (some (.ref a))) : EnvOk K H0 env σ P (upd H a o) := by
  refine ⟨fun b u z => ?_, h.len, fun j s q => ?_, h.apart⟩
  · have nb : b ≠ a := fun w => by rw [w, hp] at z; cases z
    rw [upd_ne nb]; exact h.ex b u z
  · have h1 := h.at_ j s q
    cases s with
    | no => exact h1
    | raw v => exact h1
    | val d => exact h1
    | own ds =>
      obtain ⟨b, us, e1, z0, z1, z2, z3⟩ := h1
      have nb : b ≠ a := fun w => far j ds q (by rw [e1, w])
      exact ⟨b, us, e1, z0, z1, by rw [upd_ne nb]; exact z2, z3⟩
theorem set_own {env : Env} {i j : Nat} {s : Slot} {es : List D} (hs : ∀ es, s ≠ .own es) (h : (env.set i s)[j]? = some (.own es)) : i ≠ j ∧ env[j]? = some (.own es) := by
  by_cases hj : i = j
  · subst hj
    have hl : i < env.length := by simpa using (List.getElem?_eq_some_iff.mp h).1
    rw [List.getElem?_set_self hl] at h
    exact absurd (Option.some.inj h) (hs es)
  · rw [List.getElem?_set_ne hj] at h
    exact ⟨hj, h⟩
theorem wipe_own {env : Env} {σ : L2.St} {j : Nat} {es : List D} : ∀ vs : List Nat, (wipeE env vs)[j]? = some (.own es) → env[j]? = some (.own es) ∧ (wipe σ vs)[j]? = σ[j]?
  | [], h => ⟨h, rfl⟩
  | v :: vs, h => by
    obtain ⟨h1, h2⟩ := set_own (fun _ z => by cases z) h
    obtain ⟨h3, h4⟩ := wipe_own vs h2
    refine ⟨h3, ?_⟩
    show ((wipe σ vs).set v none)[j]? = _
    rw [List.getElem?_set_ne h1]
    exact h4
theorem sg_names2 {H0 : Hp} : ∀ (is : List Nat) (ds : List D) (xs : List V) (env env' : Env) (σ : L2.St), EnvOk K H0 env σ P H → Reps K P ds xs → setAll is ds env = .ok env' → ∀ Qg : L2.St → Hp → Prop,
    (∀ σ', EnvOk K H0 env' σ' P H → (∀ vs : List Nat, (∀ i ∈ is, i ∈ vs) → wipe σ' vs = wipe σ vs) → (∀ (j : Nat) (es : List D), env'[j]? = some (.own es) → env[j]? = some (.own es) ∧ σ'[j]? = σ[j]?) → Qg σ' H) → gNames is xs σ H Qg
  | [], ds, xs, env, env', σ, I, r, h, Qg, q => by
    cases ds with
    | nil =>
      cases r
      simp only [setAll, R.ok.injEq] at h
      subst h
      exact ⟨rfl, q σ I (fun _ _ => rfl) fun _ _ z => ⟨z, rfl⟩⟩
    | cons _ _ => simp [setAll] at h
  | i :: is, ds, xs, env, env', σ, I, r, h, Qg, q => by
    cases ds with
    | nil => simp [setAll] at h
    | cons d ds =>
      cases r with
      | cons r1 r2 =>
        refine ⟨_, _, rfl, ?_⟩
        show gNames is _ (σ.set i _) H Qg
        refine sg_names2 is ds _ _ env' _ (I.set r1) r2 h Qg fun σ' I' hw ho => q σ' I' (fun vs hv => ?_) fun j es hj => ?_
        · rw [hw vs fun j hj => hv j (List.mem_cons_of_mem _ hj), wipe_set_in (hv i (List.mem_cons_self))]
        · obtain ⟨h1, h2⟩ := ho j es hj
          obtain ⟨h3, h4⟩ := set_own (fun _ z => by cases z) h1
          exact ⟨h4, by rw [h2, List.getElem?_set_ne h3]⟩
theorem sg_of2 {H0 : Hp} {tg : Tg} {d : D} {x : V} {env env' : Env} (I : EnvOk K H0 env σ P H) (r : Rep K P d x) (h : setTg tg d env = .ok env') {Qg : L2.St → Hp → Prop}
    (q : ∀ σ', EnvOk K H0 env' σ' P H → (∀ vs : List Nat, tg.inn vs = true → wipe σ' vs = wipe σ vs) → (∀ (j : Nat) (es : List D), env'[j]? = some (.own es) → env[j]? = some (.own es) ∧ σ'[j]? = σ[j]?) → Qg σ' H) : tOfG K tg x σ H Qg := by
  cases tg with
  | nm i =>
    simp only [setTg, R.ok.injEq] at h
    subst h
    refine q _ (I.set r) (fun vs hv => wipe_set_in (by simpa [Tg.inn] using hv)) fun j es hj => ?_
    obtain ⟨h3, h4⟩ := set_own (fun _ z => by cases z) hj
    exact ⟨h4, List.getElem?_set_ne h3⟩
  | tp is =>
    cases d with
    | tup ds =>
      cases r with
      | tup g r =>
        refine .inl ⟨_, _, rfl, SqT.of (I.ex _ _ g), by rw [← r.length]; exact setAll_len h, sg_names2 is ds _ env env' σ I r h Qg fun σ' I' hw ho => q σ' I' (fun vs hv => hw vs fun i hi => ?_) ho⟩
        simp only [Tg.inn, List.all_eq_true] at hv
        simpa using hv i hi
    | lst ds =>
      cases r with
      | lst g r =>
        refine .inr ⟨_, _, rfl, SqL.of (I.ex _ _ g), by rw [← r.length]; exact setAll_len h, sg_names2 is ds _ env env' σ I r h Qg fun σ' I' hw ho => q σ' I' (fun vs hv => hw vs fun i hi => ?_) ho⟩
        simp only [Tg.inn, List.all_eq_true] at hv
        simpa using hv i hi
    | _ => simp [setTg] at h
/-- two fors: the same, the results of a turn in a row -/
def Fill2 (K : W.Frag) (P1 H1 : Hp) (g : D → R (List D)) (ds ys : List D) (Dl : Addr) (i : Nat) (H' : Hp) : Prop :=
  ∃ P' vs acc rest, Ext P1 H1 P' H' ∧ P' Dl = none ∧ H' Dl = some (.lst vs) ∧ Reps K P' acc vs ∧ ys = acc ++ rest ∧ compCat g (ds.drop i) = .ok rest
theorem compCat_exc {g : D → R (List D)} : ∀ (l : List D) (c : Nat), compCat g l ≠ .exc c := by
  intro l
  induction l with
  | nil => intro c h; simp [compCat] at h
  | cons a r ih =>
    intro c h
    unfold compCat at h
    cases ha : g a with
    | ok o =>
      simp only [ha] at h
      cases hr : compCat g r with
      | ok ys => simp [hr] at h
      | exc c' => exact ih c' hr
      | bad => simp [hr] at h
    | exc c' => simp [ha] at h
    | bad => simp [ha] at h
theorem sn_lc2 {wi wi1 : TI} {fi fi1 : Env → R (List D)} {tt tt1 : TT} {ft ft1 : Env → R Bool} {tg tg1 : Tg} {vs vs1 : List Nat} {eb nb : Bool} (hi : SI K cls E false wi fi) (ht : ST K cls EX0 tt ft) (hi1 : nb = true → SI K cls EX0 true wi1 fi1) (ht1 : ST K cls EX0 tt1 ft1) (he : eb = false → SE K cls EX0 te fe) :
    SN K cls E (tLc2 wi (tOfG K tg) tt wi1 (tOfG K tg1) tt1 te vs vs1) (fun env => (fi env).bind fun ds => if tg.inn vs = true ∧ tg1.inn vs1 = true ∧ vs1.all vs.contains = true ∧ nb = true ∧ eb = false then
      (compCat (fun d => (setTg tg d (wipeE env vs)).bind fun e1 => (ft e1).bind fun k => if k then (fi1 e1).bind fun ds1 => comp (fun d1 => (setTg tg1 d1 (wipeE e1 vs1)).bind fun e2 => (ft1 e2).bind fun k1 => optB k1 (fe e2)) ds1 else .ok []) ds).bind fun ys => if ys.length ≤ lim then .ok (.lst ys) else .bad else .bad) := fun H0 env σ P H Q I p => by
  refine hi H0 env σ P H _ I ?_
  cases hf : fi env with
  | exc c => simp only [hf, R.bind_exc] at p; exact p
  | bad => simp only [hf, R.bind_bad] at p; exact p.elim
  | ok ds =>
    simp only [hf, R.bind_ok] at p
    by_cases hc : tg.inn vs = true ∧ tg1.inn vs1 = true ∧ vs1.all vs.contains = true ∧ nb = true ∧ eb = false
    case neg => rw [if_neg hc] at p; exact p.elim
    rw [if_pos hc] at p
    obtain ⟨hin, hin1, _, hnb, hb⟩ := hc
    generalize hg : (fun d => (setTg tg d (wipeE env vs)).bind fun e1 => (ft e1).bind fun k => if k then (fi1 e1).bind fun ds1 => comp (fun d1 => (setTg tg1 d1 (wipeE e1 vs1)).bind fun e2 => (ft1 e2).bind fun k1 => optB k1 (fe e2)) ds1 else .ok []) = g at p
    cases hq : compCat g ds with
    | exc c => exact absurd hq (compCat_exc ds c)
    | bad => simp only [hq, R.bind_bad] at p; exact p.elim
    | ok ys =>
      simp only [hq, R.bind_ok] at p
      by_cases hl : ys.length ≤ lim
      case neg => rw [if_neg hl] at p; exact p.elim
      rw [if_pos hl] at p
      intro J P1 H1 e1 hw
      obtain ⟨G, Y, w, hG, hY⟩ := hw
      simp only [Bool.false_eq_true, if_false] at hG
      intro Dl hD
      have pD : P1 Dl = none := e1.ph.free hD
      refine ⟨fun i m H' => m = ds.length - i ∧ i ≤ ds.length ∧ Fill2 K P1 H1 g ds ys Dl i H', ⟨ds.length, by simp, Nat.zero_le _, P1, [], [], ys, Ext.newO e1.ph hD, pD, upd_same, .nil, rfl, by simpa using hq⟩, ?_⟩
      rintro i m H2 ⟨rfl, hi0, hF⟩
      have hGH : G H2 := by
        obtain ⟨P', us, acc, rest, e2, _⟩ := hF
        exact hG H2 e2.h
      by_cases hlt : i < ds.length
      case neg =>
        have e : i = ds.length := by omega
        subst e
        refine .inl ⟨w.stops H2 hGH, ?_⟩
        obtain ⟨P', us, acc, rest, e2, d0, d1, d2, d3, d4⟩ := hF
        rw [List.drop_length] at d4
        simp only [compCat, R.ok.injEq] at d4
        subst d4
        rw [List.append_nil] at d3
        subst d3
        exact p Dl us P' H2 (e1.trans e2) (e1.h.free hD) d0 d1 d2
      refine .inr ⟨w.goes i H2 hlt hGH, Fill2 K P1 H1 g ds ys Dl (i + 1), fun H' p' => ⟨ds.length - (i + 1), by omega, rfl, hlt, p'⟩, fun x H3 hy => ?_⟩
      have hy := w.yields i H2 x H3 hlt hGH hy
      obtain ⟨P2, us, acc, rest, e2, d0, d1, d2, d3, d4⟩ := hF
      obtain ⟨P3, d, hd, e3, r3⟩ := hY i P2 H2 x H3 hlt e2.p e2.ph hy
      rw [get_drop hd] at d4
      unfold compCat at d4
      have I3 : EnvOk K H0 (wipeE env vs) (wipe σ vs) P3 H3 := (I.mono ((e1.trans e2).trans e3)).wipe vs
      have z0 : P3 Dl = none := e3.fr Dl d0 (by rw [d1]; simp)
      have z1 : H3 Dl = some (.lst us) := e3.h _ _ d1
      cases hgd : g d with
      | exc c => simp [hgd] at d4
      | bad => simp [hgd] at d4
      | ok o =>
        simp only [hgd] at d4
        cases hcr : compCat g (ds.drop (i + 1)) with
        | exc c => simp [hcr] at d4
        | bad => simp [hcr] at d4
        | ok rest' =>
          simp only [hcr, R.bind_ok, R.ok.injEq] at d4
          rw [← hg] at hgd
          cases hs : setTg tg d (wipeE env vs) with
          | exc c => simp [hs] at hgd
          | bad => simp [hs] at hgd
          | ok env' =>
            simp only [hs, R.bind_ok] at hgd
            refine sg_of2 I3 r3 hs fun σ' I' hw ho => ⟨by rw [hw vs hin, wipe_wipe], ?_⟩
            have far : ∀ (j : Nat) (es : List D), env'[j]? = some (.own es) → σ'[j]? ≠ some (some (.ref Dl)) := fun j es hj hz => by
              obtain ⟨o1, o2⟩ := ho j es hj
              obtain ⟨o3, o4⟩ := wipe_own vs o1 (σ := σ)
              rw [o2, o4] at hz
              obtain ⟨a, us', q1, _, _, q4, _⟩ := I.at_ j _ o3
              rw [q1] at hz
              cases hz
              have := e1.h _ _ q4
              rw [hD] at this
              cases this
            refine ht H0 env' σ' P3 H3 _ I' ?_
            cases hk : ft env' with
            | exc c => simp [hk] at hgd
            | bad => simp [hk] at hgd
            | ok k =>
              intro P4 H4 e4
              simp only [hk, R.bind_ok] at hgd
              have I4 := I'.mono e4
              have y0 : P4 Dl = none := e4.fr Dl z0 (by rw [z1]; simp)
              have y1 : H4 Dl = some (.lst us) := e4.h _ _ z1
              have e24 := (e2.trans e3).trans e4
              have d24 := d2.mono (e3.p.trans e4.p)
              cases k with
              | false =>
                simp only [Bool.false_eq_true, if_false, R.ok.injEq] at hgd ⊢
                subst hgd
                refine ⟨P4, us, acc, rest, e24, y0, y1, d24, d3, ?_⟩
                rw [hcr, ← d4]; rfl
              | true =>
                simp only [if_true] at hgd ⊢
                refine hi1 hnb H0 env' σ' P4 H4 _ I4 ?_
                cases hf1 : fi1 env' with
                | exc c => simp [hf1] at hgd
                | bad => simp [hf1] at hgd
                | ok ds1 =>
                  simp only [hf1, R.bind_ok] at hgd
                  generalize hg1 : (fun d1 => (setTg tg1 d1 (wipeE env' vs1)).bind fun e2 => (ft1 e2).bind fun k1 => optB k1 (fe e2)) = g1 at hgd
                  intro J1 P5 H5 e5 hw1
                  obtain ⟨G1, Y1, w1, hG1, hY1⟩ := hw1
                  simp only [if_true] at hG1
                  have x0 : P5 Dl = none := e5.fr Dl y0 (by rw [y1]; simp)
                  have x1 : H5 Dl = some (.lst us) := e5.h _ _ y1
                  refine ⟨fun j m H' => m = ds1.length - j ∧ j ≤ ds1.length ∧ ∃ P' vs2 acc' r1, Ext P1 H1 P' H' ∧ Ex P5 P' ∧ EnvOk K H0 env' σ' P' H' ∧ P' Dl = none ∧ H' Dl = some (.lst vs2) ∧ Reps K P' acc' vs2 ∧ ys = acc' ++ (r1 ++ rest') ∧ comp g1 (ds1.drop j) = .ok r1,
                    ⟨ds1.length, by simp, Nat.zero_le _, P5, us, acc, o, e24.trans e5, Same.refl _, I4.mono e5, x0, x1, d24.mono e5.p, by rw [d3, ← d4], by simpa using hgd⟩, ?_⟩
                  rintro j m H6 ⟨rfl, hj0, P6, vs6, acc6, r6, e6, p6, I6, f0, f1, f2, f3, f4⟩
                  have hGH1 : G1 H6 := hG1 H6 (p6.trans e6.ph)
                  by_cases hjl : j < ds1.length
                  case neg =>
                    have e : j = ds1.length := by omega
                    subst e
                    refine .inl ⟨w1.stops H6 hGH1, P6, vs6, acc6, rest', e6, f0, f1, f2, ?_, hcr⟩
                    rw [List.drop_length] at f4
                    simp only [comp, R.ok.injEq] at f4
                    subst f4
                    exact f3
                  refine .inr ⟨w1.goes j H6 hjl hGH1, fun H' => ∃ P' vs2 acc' r1, Ext P1 H1 P' H' ∧ Ex P5 P' ∧ EnvOk K H0 env' σ' P' H' ∧ P' Dl = none ∧ H' Dl = some (.lst vs2) ∧ Reps K P' acc' vs2 ∧ ys = acc' ++ (r1 ++ rest') ∧ comp g1 (ds1.drop (j + 1)) = .ok r1, fun H' p' => ⟨ds1.length - (j + 1), by omega, rfl, hjl, p'⟩, fun x1 H7 hy1 => ?_⟩
                  have hy1 := w1.yields j H6 x1 H7 hjl hGH1 hy1
                  obtain ⟨P7, d1', hd1, e7, r7⟩ := hY1 j P6 H6 x1 H7 hjl p6 e6.ph hy1
                  rw [get_drop hd1] at f4
                  unfold comp at f4
                  have I7 := I6.mono e7
                  have I7' : EnvOk K H0 (wipeE env' vs1) (wipe σ' vs1) P7 H7 := I7.wipe vs1
                  have q0 : P7 Dl = none := e7.fr Dl f0 (by rw [f1]; simp)
                  have q1 : H7 Dl = some (.lst vs6) := e7.h _ _ f1
                  cases hgd1 : g1 d1' with
                  | exc c => simp [hgd1] at f4
                  | bad => simp [hgd1] at f4
                  | ok o1 =>
                    simp only [hgd1] at f4
                    cases hcr1 : comp g1 (ds1.drop (j + 1)) with
                    | exc c => simp [hcr1] at f4
                    | bad => simp [hcr1] at f4
                    | ok rest1 =>
                      simp only [hcr1, R.bind_ok, R.ok.injEq] at f4
                      rw [← hg1] at hgd1
                      cases hs1 : setTg tg1 d1' (wipeE env' vs1) with
                      | exc c => simp [hs1] at hgd1
                      | bad => simp [hs1] at hgd1
                      | ok env2 =>
                        simp only [hs1, R.bind_ok] at hgd1
                        refine sg_of I7' r7 hs1 fun σ2 I2' hw2 => ⟨by rw [hw2 vs1 hin1, wipe_wipe], ?_⟩
                        refine ht1 H0 env2 σ2 P7 H7 _ I2' ?_
                        cases hk1 : ft1 env2 with
                        | exc c => simp [hk1] at hgd1
                        | bad => simp [hk1] at hgd1
                        | ok k1 =>
                          intro P8 H8 e8
                          simp only [hk1, R.bind_ok] at hgd1
                          have t0 : P8 Dl = none := e8.fr Dl q0 (by rw [q1]; simp)
                          have t1 : H8 Dl = some (.lst vs6) := e8.h _ _ q1
                          cases k1 with
                          | false =>
                            simp only [optB, Bool.false_eq_true, if_false, R.ok.injEq] at hgd1
                            subst hgd1
                            simp only [Bool.false_eq_true, if_false]
                            refine ⟨P8, vs6, acc6, r6, (e6.trans e7).trans e8, (p6.trans e7.p).trans e8.p, I7.mono e8, t0, t1, f2.mono (e7.p.trans e8.p), f3, ?_⟩
                            rw [← f4]; rfl
                          | true =>
                            simp only [optB, if_true] at hgd1 ⊢
                            refine he hb H0 env2 σ2 P8 H8 _ (I2'.mono e8) ?_
                            cases hyy : fe env2 with
                            | exc c => simp [hyy] at hgd1
                            | bad => simp [hyy] at hgd1
                            | ok y =>
                              simp only [hyy, R.bind_ok, R.ok.injEq] at hgd1
                              subst hgd1
                              intro v P9 H9 e9 r9
                              have e69 := ((e6.trans e7).trans e8).trans e9
                              have w0 : P9 Dl = none := e9.fr Dl t0 (by rw [t1]; simp)
                              have w1 : H9 Dl = some (.lst vs6) := e9.h _ _ t1
                              have hlen := f2.length
                              have hys : acc6.length < ys.length := by
                                rw [f3, ← f4]
                                simp [optL]
                              have I9 := (I7.mono e8).mono e9
                              refine ⟨vs6, w1, ?_, P9, vs6 ++ [v], acc6 ++ [y], rest1, ?_, ((p6.trans e7.p).trans e8.p).trans e9.p, ?_, w0, upd_same, (f2.mono ((e7.p.trans e8.p).trans e9.p)).append (.cons r9 .nil), ?_, rfl⟩
                              · rw [← lim_eq]; omega
                              · refine ⟨fun b o hb => ?_, e69.p, fun b o hb => ?_, e69.fr⟩
                                · have nb : b ≠ Dl := ne_of_none hb hD
                                  rw [upd_ne nb]; exact e69.h b o hb
                                · have nb : b ≠ Dl := fun z => by rw [z, w0] at hb; cases hb
                                  rw [upd_ne nb]; exact e69.ph b o hb
                              · exact I9.other w0 far
                              · rw [f3, ← f4]; simp [optL]
/-- a call -/
theorem se_call {tr : TA} {fr : Env → R (List D)} {sp : Sp} {cl : List D → R D} (h : SA K cls E tr fr)
    (hs : ∀ (P H : Hp) (ds : List D) (vs : List V) (Q : VK) (Ex' : XK), Ex P H → Reps K P ds vs → (match cl ds with
      | .ok d => ∀ v P' H', Ext P H P' H' → Rep K P' d v → Q v H'
      | .exc c => ∀ P' H', Ext P H P' H' → Ex' (cls c) none H'
      | .bad => False) → sp vs H Q Ex') : SE K cls E (tCallS sp E tr) (fun env => (fr env).bind cl) := fun H0 env σ P H Q I p =>
  h.then I p fun ds vs P1 H1 _ e r p1 => hs P1 H1 ds vs Q (E σ) e.ph r p1
/-- arguments, a new dict behind them -/
def PostAD (K : W.Frag) (cls : Nat → Value) (E : EX) (σ : L2.St) (P H : Hp) (r : R (List D)) (Q : List V → Hp → Prop) : Prop := match r with
  | .ok ds => ∀ vs P' H' d, Ext P H P' H' → Reps K P' ds vs → H' d = none → Q (vs ++ [.ref d]) (upd H' d (.dT []))
  | .exc c => ∀ P' H', Ext P H P' H' → E σ (cls c) none H'
  | .bad => False
def SAD (K : W.Frag) (cls : Nat → Value) (E : EX) (t : TA) (f : Env → R (List D)) : Prop := ∀ H0 env σ P H Q, EnvOk K H0 env σ P H → PostAD K cls E σ P H (f env) Q → t σ H Q
theorem sad_nil : SAD K cls E (tCons tDNewT tNil) (fun _ => .ok []) := fun H0 env σ P H Q I p d hd => p [] P H d (.refl I.ex) .nil hd
theorem sad_cons {tr : TA} {fr : Env → R (List D)} {r : Bool} (ha : r = false → SE K cls E ta fa) (hr : SAD K cls E tr fr) : SAD K cls E (tCons ta tr) (fun env => if r then .bad else (fa env).bind fun d => (fr env).bind fun ds => .ok (d :: ds)) := fun H0 env σ P H Q I p => by
  cases r with
  | true => exact p.elim
  | false =>
    refine ha rfl H0 env σ P H _ I ?_
    cases hf : fa env with
    | exc c => simp only [hf, R.bind_exc] at p; exact p
    | bad => simp only [hf, R.bind_bad] at p; exact p.elim
    | ok d =>
      intro v P1 H1 e1 r1
      refine hr H0 env σ P1 H1 _ (I.mono e1) ?_
      cases hg : fr env with
      | exc c => simp only [hf, hg, R.bind_exc, R.bind_ok] at p; exact fun P' H' e2 => p P' H' (e1.trans e2)
      | bad => simp only [hf, hg, R.bind_bad, R.bind_ok] at p; exact p.elim
      | ok ds =>
        simp only [hf, hg, R.bind_ok] at p
        exact fun vs P2 H2 d2 e2 r2 hd2 => p (v :: vs) P2 H2 d2 (e1.trans e2) (.cons (r1.mono e2.p) r2) hd2
theorem se_callD {tr : TA} {fr : Env → R (List D)} {sp : Sp} {cl : List D → R D} (h : SAD K cls E tr fr)
    (hs : ∀ (P H : Hp) (ds : List D) (vs : List V) (d : Addr) (i : Int) (Q : VK) (Ex' : XK), Ex P H → Reps K P ds vs → H d = none → memoArgs ds = true → cl ds = .ok (.int i) → (∀ P' H', Ext P H P' H' → Q (.int i) H') → sp (vs ++ [.ref d]) (upd H d (.dT [])) Q Ex') : SE K cls E (tCallS sp E tr) (fun env => (fr env).bind fun ds => if memoArgs ds then memoR (cl ds) else .bad) := fun H0 env σ P H Q I p => by
  refine h H0 env σ P H _ I ?_
  cases hf : fr env with
  | exc c => simp only [hf, R.bind_exc] at p; exact p
  | bad => simp only [hf, R.bind_bad] at p; exact p.elim
  | ok ds =>
    simp only [hf, R.bind_ok] at p
    intro vs P1 H1 d e1 r1 hd
    by_cases hm : memoArgs ds = true
    · rw [if_pos hm] at p
      cases hc : cl ds with
      | exc c => rw [hc] at p; exact p.elim
      | bad => rw [hc] at p; exact p.elim
      | ok x =>
        rw [hc] at p
        cases x with
        | int i => exact hs P1 H1 ds vs d i Q (E σ) e1.ph r1 hd hm hc fun P' H' e2 => p _ P' H' (e1.trans e2) (.int i)
        | _ => exact p.elim
    · rw [if_neg hm] at p; exact p.elim
theorem se_callAt {fs : List Nat} {tr : TA} {fr : Env → R (List D)} {sp : Nat → Sp} {cl : Nat → List D → R D} (hi : SB K cls E ta fa) (h : ∀ f, SE K cls E (tCallS (sp f) E tr) (fun env => (fr env).bind fun ds => cl f ds)) : SE K cls E (tAt K fs ta fun f => tCallS (sp f) E tr) (fun env => if fs.length ≤ lim then (fa env).bind fun x => (intD x).bind fun i => (R.ofO (L2.atI fs i)).bind fun f => (fr env).bind fun ds => cl f ds else .bad) := fun H0 env σ P H Q I p ads hads => by
  simp only at p
  by_cases hl : fs.length ≤ lim
  · rw [if_pos hl] at p
    refine tRefs_of ads ⟨by rw [List.length_map, hads, ← lim_eq]; exact hl, fun q hq => ?_⟩
    have e1 : Ext P H P (upd H q (.lst (ads.map V.ref))) := Ext.newO I.ex hq
    refine hi.then (I.mono e1) (PostE.step e1 p) fun x v P1 H1 _ e r p1 I1 => ?_
    rcases intD_bind (d := x) (k := fun i => (R.ofO (L2.atI fs i)).bind fun f => (fr env).bind fun ds => cl f ds) with ⟨i, rfl, h2⟩ | h2
    · rw [h2] at p1
      cases hf : L2.atI fs i with
      | none => rw [hf] at p1; exact p1.elim
      | some f =>
        rw [hf] at p1
        obtain ⟨j, hj1, hj2⟩ := Option.bind_eq_some_iff.mp (show (L2.ixN fs.length i).bind (fun j => fs[j]?) = some f from hf)
        have hjl : j < ads.length := by rw [hads]; exact (List.getElem?_eq_some_iff.mp hj2).1
        have ha : ads[j]? = some ads[j] := List.getElem?_eq_getElem hjl
        refine ⟨q, ads.map V.ref, i, .ref ads[j], rfl, r.int, SqL.of (e.h _ _ upd_same), ?_, j, f, ads[j], hj2, ha, rfl, h f H0 env σ P1 H1 Q I1 p1⟩
        show (L2.ixN (ads.map V.ref).length i).bind (fun j => (ads.map V.ref)[j]?) = _
        rw [List.length_map, hads, hj1, Option.bind_some, List.getElem?_map, ha]
        rfl
    · rw [h2] at p1; exact p1.elim
  · rw [if_neg hl] at p; exact p.elim
theorem sn_add (ha : SB K cls E ta fa) (hb : SB K cls E tb fb) : SN K cls E (tOp (rBop K .add) ta tb) (fun env => (fa env).bind fun x => (fb env).bind fun y => R.ofO (bopF .add x y)) := fun H0 env σ P H Q I p => by
  refine ha H0 env σ P H _ I ?_
  simp only at p
  cases hf : fa env with
  | exc c => rw [hf] at p; exact p
  | bad => rw [hf] at p; exact p
  | ok x =>
    intro v P1 H1 e1 r1
    simp only [hf, R.bind_ok] at p
    refine hb H0 env σ P1 H1 _ (I.mono e1) ?_
    cases hg : fb env with
    | exc c => simp only [hg, R.bind_exc] at p; exact fun P' H' e2 => p P' H' (e1.trans e2)
    | bad => simp only [hg, R.bind_bad] at p; exact p.elim
    | ok y =>
      intro u P2 H2 e2 r2
      simp only [hg, R.bind_ok] at p
      cases ho : bopF .add x y with
      | none => rw [ho] at p; exact p.elim
      | some d =>
        rw [ho] at p
        refine ⟨P2, x, y, d, e2.ph, r1.mono e2, r2, ho, fun v H' _ r => ?_⟩
        cases d with
        | lst ds =>
          obtain ⟨q, ws, rfl, hp, hr, rfl⟩ := r _ rfl
          exact p _ _ P2 _ ((e1.trans e2).trans (.newO e2.ph hp)) ((e1.trans e2).h.free hp) (e2.ph.free hp) upd_same hr
        | _ => exact p.elim
theorem sn_rep {tr : TA} {fr : Env → R (List D)} (h : SA K cls E tr fr) (hb : SB K cls E tb fb) : SN K cls E (tOp (rBop K .mul) (tLst tr) tb) (fun env => ((fr env).bind fun ds => if ds.length ≤ lim then .ok (.lst ds) else .bad).bind fun x => (fb env).bind fun y => R.ofO (bopF .mul x y)) := fun H0 env σ P H Q I p => by
  refine sn_lst h H0 env σ P H _ I ?_
  simp only at p ⊢
  cases hf : (fr env).bind fun ds => if ds.length ≤ lim then R.ok (D.lst ds) else .bad with
  | exc c => simp only [hf, R.bind_exc] at p; exact p
  | bad => simp only [hf, R.bind_bad] at p; exact p.elim
  | ok x =>
    have hx : ∃ ds, x = .lst ds := by
      cases hfr : fr env with
      | exc c => simp [hfr] at hf
      | bad => simp [hfr] at hf
      | ok ds =>
        simp only [hfr, R.bind_ok] at hf
        split at hf
        · cases hf; exact ⟨_, rfl⟩
        · cases hf
    obtain ⟨ds, rfl⟩ := hx
    intro a vs P1 H1 e1 z1 z2 z3 z4
    simp only [hf, R.bind_ok] at p
    refine hb H0 env σ P1 H1 _ (I.mono e1) ?_
    cases hg : fb env with
    | exc c => simp only [hg, R.bind_exc] at p; exact fun P' H' e2 => p P' H' (e1.trans e2)
    | bad => simp only [hg, R.bind_bad] at p; exact p.elim
    | ok y =>
      intro u P2 H2 e2 r2
      simp only [hg, R.bind_ok] at p
      cases ho : bopF .mul (.lst ds) y with
      | none => rw [ho] at p; exact p.elim
      | some d =>
        rw [ho] at p
        refine ⟨P2, .lst ds, y, d, e2.ph, .inr ⟨a, vs, ds, rfl, rfl, e2.h _ _ z3, z4.mono e2.p⟩, r2, ho, fun v H' _ r => ?_⟩
        cases y with
        | int j =>
          simp only [bopF, Option.ite_none_right_eq_some, Option.some.injEq] at ho
          obtain ⟨hj, rfl⟩ := ho
          obtain ⟨q, ws, rfl, hp, hr, rfl⟩ := r _ rfl
          exact p _ _ P2 _ ((e1.trans e2).trans (.newO e2.ph hp)) ((e1.trans e2).h.free hp) (e2.ph.free hp) upd_same hr
        | _ => simp [bopF] at ho
end
end Cl
set_option Elab.async false
set_option linter.all false
set_option maxRecDepth 100000
set_option maxHeartbeats 4000000
namespace Cl
open PySem PySem.Spec PySem.Calls PyProof.Rows L2
def Mt.id : Mt → String
  | .count => "list.count"
  | .index => "list.index"
  | .join => "str.join"
def Mt.x : Mt → Str
  | .count => "count"
  | .index => "index"
  | .join => "join"
theorem Mt.pa : ∀ m : Mt, PlainAttrs m.T
  | .count => PySem.F.plainAttrs_list
  | .index => PySem.F.plainAttrs_list
  | .join => PySem.F.plainAttrs_str
theorem Mt.slot : ∀ m : Mt, PySem.Slot m.T m.x m.id
  | .count => PySem.F.slot_list_count
  | .index => PySem.F.slot_list_index
  | .join => PySem.F.slot_str_join
theorem Mt.ty : ∀ m : Mt, typeOf (.builtin m.id) = pure (.type "method_descriptor")
  | .count => PySem.F.type_list_count
  | .index => PySem.F.type_list_index
  | .join => PySem.F.type_str_join
theorem pds_get (ds : List D) (i : Nat) : (D.pds ds)[i]? = ds[i]?.map D.pd := by rw [pds_map, List.getElem?_map]
section
variable {X : Cx}
theorem mt_data (hu : X.A.units + 200 < cLine) (m : Mt) : MtR X m.id (rMt X.K m) := by
  intro pins s σ H x xs v us Q I rx rxs h
  obtain ⟨P, d0, ds, d, e, h0, hr, hf, q⟩ := h
  cases m with
  | index =>
    cases d0 with
    | lst a =>
      cases ds with
      | nil => simp [mtF] at hf
      | cons y r =>
        cases r with
        | cons _ _ => simp [mtF] at hf
        | nil =>
          obtain ⟨w, rfl, h1⟩ := one_of hr
          simp only [mtF, Option.ite_none_right_eq_some, Bool.and_eq_true, Option.map_eq_some_iff] at hf
          obtain ⟨⟨o1, o2⟩, j, hj, rfl⟩ := hf
          obtain ⟨a1, vs1, rfl, g1, r1⟩ := h0.lst e
          have g := h0.dp e
          unfold D.okD at o1 o2
          simp only [D.pd] at g o2
          rw [List.findIdx?_eq_some_iff_getElem] at hj
          obtain ⟨hl, hp, hno⟩ := hj
          refine mt_indexD (by omega) pins s σ H _ _ v us Q I rx rxs ⟨a1, w, y.pd, D.pds a, j, a[j].pd, rfl, rfl, g, h1.dp e, o2, o1, ?_, hp, fun n z' hn hz' => ?_, q _ _ (.same (.int _))⟩
          · rw [pds_get, List.getElem?_eq_getElem hl]; rfl
          · rw [pds_get, List.getElem?_eq_getElem (by omega)] at hz'
            cases hz'
            have := hno n hn
            simpa [deq] using this
    | _ => simp [mtF] at hf
  | count =>
    cases d0 with
    | lst a =>
      cases ds with
      | nil => simp [mtF] at hf
      | cons y r =>
        cases r with
        | cons _ _ => simp [mtF] at hf
        | nil =>
          obtain ⟨w, rfl, h1⟩ := one_of hr
          simp only [mtF, Option.ite_none_right_eq_some, Bool.and_eq_true, Option.some.injEq] at hf
          obtain ⟨⟨o1, o2⟩, rfl⟩ := hf
          obtain ⟨a1, vs1, rfl, g1, r1⟩ := h0.lst e
          unfold D.okD at o1 o2
          simp only [D.pd] at o2
          cases rx
          obtain ⟨u, rfl, ru⟩ := rxs.one
          obtain ⟨its, rv, ⟨⟨cls, dd, data, sl⟩, n, ho, hc, hdn, hd⟩, hlen⟩ := I.list (SqL.of (K := X.K) g1)
          simp only at hc hd
          subst hc hd
          obtain ⟨bs, rd⟩ := Dp.reads I _ _ _ (h1.dp e) ru
          obtain ⟨as, hra⟩ := Dp.readsAll I _ _ its (r1.dp e) rv
          have hxs : PyData.canLayAll0 (D.pds a) = true := SeqAt.canLay_of_shaped o2
          refine call_meets PySem.F.slot_list_count ⟨_, ho, rfl⟩ PySem.F.entry_list_count (PySem.F.args_list_count_2 _ _)
            (SeqAt.list_countAt a1 its.toArray n dd sl u (fun z => PyData.eqv (SeqAt.readOf s.heap z) y.pd)) ⟨ho, SeqAt.items_eqAt (vs := its.toArray) (show ReadsAll s.heap its.toArray.toList (D.pds a) as from hra) rd hxs (SeqAt.canLay_of_shaped o1) (room_in_shaped o1 (by omega)), ?_⟩
          have hmap : its.map (SeqAt.readOf s.heap) = D.pds a := SeqAt.readsAll_map _ its as hxs hra
          have ec : its.toArray.toList.countP (fun z => PyData.eqv (SeqAt.readOf s.heap z) y.pd) = a.countP (fun z => deq z y) := by
            show its.countP _ = _
            have e1 : its.countP (fun z => PyData.eqv (SeqAt.readOf s.heap z) y.pd) = (its.map (SeqAt.readOf s.heap)).countP (fun z => PyData.eqv z y.pd) := by
              rw [List.countP_map]; rfl
            rw [e1, hmap, pds_map, List.countP_map]; rfl
          refine ⟨.int (a.countP (fun z => deq z y) : Nat), H, I.tok _, ⟨s.toks, ?_⟩, q _ _ (.same (.int _))⟩
          rw [ec]
    | _ => simp [mtF] at hf
  | join =>
    cases d0 with
    | str a =>
      cases ds with
      | nil => simp [mtF] at hf
      | cons y r =>
        cases r with
        | cons _ _ => cases y <;> simp [mtF] at hf
        | nil =>
          obtain ⟨w, rfl, h1⟩ := one_of hr
          cases y with
          | lst b =>
            simp only [mtF, Option.bind_eq_some_iff, Option.ite_none_right_eq_some, Option.some.injEq] at hf
            obtain ⟨ys, hy, hl, rfl⟩ := hf
            obtain rfl := h0.str
            obtain ⟨a1, vs1, rfl, g1, r1⟩ := h1.lst e
            rw [strs?_some hy] at r1
            rw [r1.strsV] at g1
            exact mt_join pins s σ H _ _ v us Q I rx rxs ⟨a, a1, ys, rfl, rfl, .inl (SqL.of g1), hl, q _ _ (.same (.str _))⟩
          | _ => simp [mtF] at hf
    | _ => simp [mtF] at hf
theorem ty_data {K : W.Frag} {P H : Hp} {m : Mt} {d0 d : D} {ds : List D} {x : V} (e : Ex P H) (h : RepB K P H d0 x) (hf : mtF m d0 ds = some d) : tyV K m.T x H := by
  cases m <;> cases d0 <;> simp only [mtF, reduceCtorEq] at hf
  · obtain ⟨a1, vs1, rfl, g1, r1⟩ := h.lst e
    exact .inl ⟨rfl, _, SqL.of g1⟩
  · obtain ⟨a1, vs1, rfl, g1, r1⟩ := h.lst e
    exact .inl ⟨rfl, _, SqL.of g1⟩
  · obtain rfl := h.str
    rfl
end
end Cl
set_option Elab.async false
set_option linter.all false
set_option maxRecDepth 100000
set_option maxHeartbeats 4000000
namespace Cl
open PySem L2 RZ
section
variable {K : W.Frag} {cls : Nat → Value} {sp : Nat → Sp} {cl : Nat → List D → R D}
/-- what a call asks of the promises -/
structure Calls (K : W.Frag) (cls : Nat → Value) (sp : Nat → Sp) (cl : Nat → List D → R D) : Prop where
  c : ∀ (f : Nat) (P H : Hp) (ds : List D) (vs : List V) (Q : VK) (Ex' : XK), Ex P H → Reps K P ds vs → (match cl f ds with
      | .ok d => ∀ v P' H', Ext P H P' H' → Rep K P' d v → Q v H'
      | .exc c => ∀ P' H', Ext P H P' H' → Ex' (cls c) none H'
      | .bad => False) → sp f vs H Q Ex'
  d : ∀ (f : Nat) (P H : Hp) (ds : List D) (vs : List V) (d : Addr) (i : Int) (Q : VK) (Ex' : XK), Ex P H → Reps K P ds vs → H d = none → memoArgs ds = true → cl f ds = .ok (.int i) → (∀ P' H', Ext P H P' H' → Q (.int i) H') → sp (1000 + f) (vs ++ [.ref d]) (upd H d (.dT [])) Q Ex'
theorem rep_cst {P : Hp} : ∀ c : Cst, Rep K P c.d c.v
  | .non => .non
  | .bl b => .bl b
  | .int i => .int i
  | .str x => .str x
theorem se_var {E : EX} {i : Nat} : SE K cls E (tVar i) (fun env => slotV env[i]?) := fun H0 env σ P H Q I p => by
  simp only at p
  cases hs : env[i]? with
  | none => rw [hs] at p; exact p.elim
  | some s =>
    rw [hs] at p
    cases s with
    | no => exact p.elim
    | raw v => exact p.elim
    | own ds => exact p.elim
    | val d =>
      obtain ⟨v, h1, h2⟩ := I.at_ i _ hs
      exact ⟨v, h1, p v P H (.refl I.ex) h2⟩
theorem sb_bor {E : EX} {i : Nat} : SB K cls E (tVar i) (fun env => (slotO env[i]?).bind fun ds => .ok (.lst ds)) := fun H0 env σ P H Q I p => by
  simp only at p
  cases hs : env[i]? with
  | none => rw [hs] at p; exact p.elim
  | some s =>
    rw [hs] at p
    cases s with
    | no => exact p.elim
    | raw v => exact p.elim
    | val d => exact p.elim
    | own ds =>
      obtain ⟨a, vs, h1, h0, h2, h3, h4⟩ := I.at_ i _ hs
      exact ⟨.ref a, h1, p _ P H (.refl I.ex) (.inr ⟨a, vs, ds, rfl, rfl, h3, h4⟩)⟩
theorem se_cst {E : EX} {c : Cst} : SE K cls E (tC c.v) (fun _ => .ok c.d) := fun H0 env σ P H Q I p => p _ P H (.refl I.ex) (rep_cst c)
theorem se_bad {E : EX} {t : TE} : SE K cls E t (fun _ => .bad) := fun H0 env σ P H Q I p => p.elim
theorem si_bad {E : EX} {t : TI} {keep : Bool} : SI K cls E keep t (fun _ => .bad) := fun H0 env σ P H Q I p => p.elim
theorem ty_of {P H : Hp} {m : Mt} {d0 : D} {x : V} (e : Ex P H) (h : RepB K P H d0 x) (hf : mtTy m d0 = true) : tyV K m.T x H := by
  cases m <;> cases d0 <;> simp only [mtTy, Bool.false_eq_true] at hf
  · obtain ⟨a1, vs1, rfl, g1, r1⟩ := h.lst e
    exact .inl ⟨rfl, _, SqL.of g1⟩
  · obtain ⟨a1, vs1, rfl, g1, r1⟩ := h.lst e
    exact .inl ⟨rfl, _, SqL.of g1⟩
  · obtain rfl := h.str
    rfl
theorem se_meth {E : EX} {to : TE} {tr : TA} {fo : Env → R D} {fr : Env → R (List D)} {m : Mt} (ho : SB K cls E to fo) (hr : SAB K cls E tr fr) : SE K cls E (tBM K m.T (rMt K m) to tr) (fun env => (fo env).bind fun x => if mtTy m x then (fr env).bind fun ds => R.ofO (mtF m x ds) else .bad) := fun H0 env σ P H Q I p => by
  refine ho H0 env σ P H _ I ?_
  cases hf : fo env with
  | exc c => simp only [hf, R.bind_exc] at p; exact p
  | bad => simp only [hf, R.bind_bad] at p; exact p.elim
  | ok x =>
    intro v P1 H1 e1 r1
    simp only [hf, R.bind_ok] at p
    by_cases hy : mtTy m x = true
    · rw [if_pos hy] at p
      refine ⟨ty_of e1.ph r1 hy, hr H0 env σ P1 H1 _ (I.mono e1) ?_⟩
      cases hg : fr env with
      | exc c => simp only [hg, R.bind_exc] at p; exact fun P' H' e2 => p P' H' (e1.trans e2)
      | bad => simp only [hg, R.bind_bad] at p; exact p.elim
      | ok ds =>
        simp only [hg, R.bind_ok] at p
        obtain ⟨d, hd⟩ := p.some
        intro vs P2 H2 e2 r2
        exact ⟨P2, x, ds, d, e2.ph, r1.mono e2, r2, hd, fun v H' r => (PostE.step (e1.trans e2) p).res e2.ph hd r⟩
    · rw [if_neg hy] at p; exact p.elim
end
section
variable {K : W.Frag} {cls : Nat → Value} {sp : Nat → Sp} {cl : Nat → List D → R D} (hC : Calls K cls sp cl)
include hC
mutual
theorem se_all : ∀ (e : CE) (E : EX), e.isBor = false → SE K cls E (tOf K sp E e) (ev cl e)
  | .var i, E, _ => se_var
  | .bor i, E, h => by simp [CE.isBor] at h
  | .cst c, E, _ => se_cst
  | .glo x c, E, _ => se_cst
  | .bin op a b, E, _ => se_bin (sb_all a E) (sb_all b E)
  | .neg a, E, _ => se_neg (sb_all a E)
  | .cmp op a b, E, _ => se_cmp (sb_all a E) (sb_all b E)
  | .chn op op' a b c, E, _ => se_chn (sb_all a E) (sb_all b E) (sb_all c E)
  | .and a r, E, _ => se_and (sb_all a E) (se_all r E)
  | .or a r, E, _ => se_or (sb_all a E) (se_all r E)
  | .one a, E, _ => fun H0 env σ P H Q I p => by
    have e : ev cl (.one a) env = if a.isBor then .bad else ev cl a env := by simp only [ev]
    rw [e] at p
    cases hb : a.isBor with
    | true => rw [hb] at p; exact p.elim
    | false => rw [hb] at p; exact se_all a E hb H0 env σ P H Q I p
  | .not a, E, _ => se_not (sb_all a E)
  | .ite c a b, E, _ => se_ite (fun H0 env σ P H Q I p => by
      cases hb : c.isTest with
      | true => rw [hb] at p; exact st_all c E hb H0 env σ P H Q I p
      | false => rw [hb] at p; exact p.elim) (se_all a E) (se_all b E)
  | .tup es, E, _ => se_tup (sa_all es E)
  | .lst es, E, _ => (sn_lst (sa_all es E)).se fun env d h => by
      cases hf : evs cl es env with
      | exc c => simp [hf] at h
      | bad => simp [hf] at h
      | ok ds =>
        simp only [hf, R.bind_ok] at h
        split at h
        · cases h; exact ⟨_, rfl⟩
        · cases h
  | .idx a b, E, _ => se_idx (sb_all a E) (sb_all b E)
  | .slc a lo hi, E, _ => se_slc (sb_all a E) (so_all lo E) (so_all hi E)
  | .rev a, E, _ => se_rev (sb_all a E)
  | .revT a, E, _ => se_revT (sb_all a E)
  | .call f es, E, _ => se_call (sa_all es E) (hC.c f)
  | .callD f es, E, _ => se_callD (sad_all es E) (hC.d f)
  | .callAt fs ix es, E, _ => se_callAt (sb_all ix E) fun f => se_call (sa_all es E) (hC.c f)
  | .bi b es, E, _ => se_bi (sab_all es E)
  | .meth m o es, E, _ => se_meth (sb_all o E) (sab_all es E)
  | .rgl .nil, E, _ => se_bad
  | .rgl (.cons a .nil), E, _ => se_rg1 (sb_all a E)
  | .rgl (.cons a (.cons b .nil)), E, _ => se_rg2 (sb_all a E) (sb_all b E)
  | .rgl (.cons a (.cons b (.cons c .nil))), E, _ => se_rg3 (sb_all a E) (sb_all b E) (sb_all c E)
  | .rgl (.cons a (.cons b (.cons c (.cons d r)))), E, _ => se_bad
  | .rgt .nil, E, _ => se_bad
  | .rgt (.cons a .nil), E, _ => se_rt1 (sb_all a E)
  | .rgt (.cons a (.cons b .nil)), E, _ => se_rt2 (sb_all a E) (sb_all b E)
  | .rgt (.cons a (.cons b (.cons c d))), E, _ => se_bad
  | .lc elt t it c vs, E, _ => (sn_lc (si_all it E false (fun z => by cases z)) (sc_all c EX0) (se_all elt EX0)).se fun env d h => by
      cases hf : evi cl it env with
      | exc c => simp [hf] at h
      | bad => simp [hf] at h
      | ok ds =>
        simp only [hf, R.bind_ok] at h
        split at h
        · revert h
          generalize comp _ ds = r
          intro h
          cases r with
          | ok ys => simp at h; exact ⟨_, h.symm⟩
          | exc c => simp at h
          | bad => simp at h
        · cases h
  | .lc2 elt t it c t1 it1 c1 vs vs1, E, _ => (sn_lc2 (si_all it E false (fun z => by cases z)) (sc_all c EX0) (fun hk => si_all it1 EX0 true (fun _ => hk)) (sc_all c1 EX0) (se_all elt EX0)).se fun env d h => by
      cases hf : evi cl it env with
      | exc c => simp [hf] at h
      | bad => simp [hf] at h
      | ok ds =>
        simp only [hf, R.bind_ok] at h
        split at h
        · revert h
          generalize compCat _ ds = r
          intro h
          cases r with
          | ok ys =>
            simp only [R.bind_ok] at h
            split at h
            · simp at h; exact ⟨_, h.symm⟩
            · cases h
          | exc c => simp at h
          | bad => simp at h
        · cases h
  | .sset e, E, _ => se_sset (sb_all e E)
  | .lset e, E, _ => se_lset (sb_all e E)
  | .isi t e, E, _ => se_isi (sb_all e E)
theorem sb_all : ∀ (e : CE) (E : EX), SB K cls E (tOf K sp E e) (ev cl e)
  | .bor i, E => sb_bor
  | e, E => by
    cases hb : e.isBor with
    | false => exact (se_all e E hb).sb
    | true =>
      cases e <;> simp [CE.isBor] at hb
      exact sb_bor
theorem st_all : ∀ (e : CE) (E : EX), e.isTest = true → ST K cls E (tOfT K sp E e) (fun env => (ev cl e env).bind boolD)
  | .and a r, E, h => by
    simp only [CE.isTest, Bool.and_eq_true] at h
    exact st_and (st_all a E h.1) (fun _ => st_all r E h.2)
  | .or a r, E, h => by
    simp only [CE.isTest, Bool.and_eq_true] at h
    exact st_or (st_all a E h.1) (fun _ => st_all r E h.2)
  | .one a, E, h => fun H0 env σ P H Q I p => by
    have e : ev cl (.one a) env = if a.isBor then .bad else ev cl a env := by simp only [ev]
    simp only [e] at p
    cases hb : a.isBor with
    | true => rw [hb] at p; exact p.elim
    | false => rw [hb] at p; exact st_all a E (by simpa [CE.isTest] using h) H0 env σ P H Q I p
  | .not a, E, h => st_not (st_all a E (by simpa [CE.isTest] using h))
  | .var i, E, _ => st_val se_var.sb
  | .cst c, E, _ => st_val se_cst.sb
  | .cmp op a b, E, _ => st_val (se_cmp (sb_all a E) (sb_all b E)).sb
  | .chn op op' a b c, E, _ => st_val (se_chn (sb_all a E) (sb_all b E) (sb_all c E)).sb
  | .call f es, E, _ => st_val (se_call (sa_all es E) (hC.c f)).sb
  | .bi b es, E, _ => st_val (se_bi (sab_all es E)).sb
  | .isi t e, E, _ => st_val (se_isi (sb_all e E)).sb
  | .idx a b, E, _ => st_val (se_idx (sb_all a E) (sb_all b E)).sb
theorem sa_all : ∀ (es : CEs) (E : EX), SA K cls E (tOfs K sp E es) (evs cl es)
  | .nil, E => sa_nil
  | .cons e r, E => sa_cons (se_all e E) (sa_all r E)
theorem sad_all : ∀ (es : CEs) (E : EX), SAD K cls E (tOfsD K sp E es) (evs cl es)
  | .nil, E => sad_nil
  | .cons e r, E => sad_cons (se_all e E) (sad_all r E)
theorem sab_all : ∀ (es : CEs) (E : EX), SAB K cls E (tOfs K sp E es) (evb cl es)
  | .nil, E => sab_nil
  | .cons e r, E => sab_cons (sb_all e E) (sab_all r E)
theorem so_all : ∀ (o : CO) (E : EX), SO K cls E (tOfO K sp E o) (evo cl o)
  | .none, E => so_none
  | .some e, E => so_some (sb_all e E)
theorem sc_all : ∀ (o : CO) (E : EX), ST K cls E (tOfC K sp E o) (evt cl o)
  | .none, E => fun H0 env σ P H Q I p => p P H (.refl I.ex)
  | .some e, E => fun H0 env σ P H Q I p => by
    have e2 : evt cl (.some e) env = if e.isTest then (ev cl e env).bind boolD else .bad := by simp only [evt]
    rw [e2] at p
    cases hb : e.isTest with
    | true => rw [hb] at p; exact st_all e E hb H0 env σ P H Q I p
    | false => rw [hb] at p; exact p.elim
theorem si_all : ∀ (i : CI) (E : EX) (keep : Bool), (keep = true → i.noBor = true) → SI K cls E keep (tOfI K sp E i) (evi cl i)
  | .lst e, E, keep, h => si_lst (sb_all e E) (fun hk => se_all e E (by simpa [CI.noBor] using h hk))
  | .tup e, E, keep, h => si_tup (sb_all e E)
  | .str e, E, keep, h => si_str (sb_all e E)
  | .rng .nil, E, keep, h => si_bad
  | .rng (.cons a .nil), E, keep, h => si_rng1 (sb_all a E)
  | .rng (.cons a (.cons b .nil)), E, keep, h => si_rng2 (sb_all a E) (sb_all b E)
  | .rng (.cons a (.cons b (.cons c .nil))), E, keep, h => si_rng3 (sb_all a E) (sb_all b E) (sb_all c E)
  | .rng (.cons a (.cons b (.cons c (.cons d r)))), E, keep, h => si_bad
  | .enum e, E, keep, h => si_enum (sb_all e E) (fun hk => se_all e E (by simpa [CI.noBor] using h hk))
  | .enumS e, E, keep, h => si_enumS (sb_all e E)
  | .zip a b, E, keep, h => fun H0 env σ P H Q I p => by
    have e2 : evi cl (.zip a b) env = if a.isBor then .bad else if b.isBor then .bad else (ev cl a env).bind fun x => (ev cl b env).bind fun y => zipDD x y := by simp only [evi]
    rw [e2] at p
    cases ha : a.isBor with
    | true => rw [ha] at p; exact p.elim
    | false =>
      cases hb : b.isBor with
      | true => rw [ha, hb] at p; exact p.elim
      | false => rw [ha, hb] at p; exact si_zip (se_all a E ha) (se_all b E hb) H0 env σ P H Q I p
end
end
end Cl
set_option Elab.async false
set_option linter.all false
set_option maxRecDepth 100000
set_option maxHeartbeats 4000000
namespace Cl
open PySem L2 RZ
section
variable (K : W.Frag) (cls : Nat → Value) (sp : Nat → Sp)
def tParS (is : List Nat) (ta : TA) : TS := match is with
  | [i, j] => tPar i j ta
  | [i, j, l] => tPar3 i j l ta
  | _ => fun _ _ _ => False
/-- an except suite: the slot i holds the error, of the class c -/
def tsH (i : Nat) (h : HE) : Addr → Value → Option Addr → TS := fun a cv d Z σ H => ∃ (c : Nat) (d' : D) (P : Hp) (σ0 : L2.St), cv = cls c ∧ d = none ∧ Ex P H ∧ σ = σ0.set i (some (.ref a)) ∧ evh c h = some d' ∧ ∀ v P' H', Ext P H P' H' → Rep K P' d' v → Z.rt v H'
def eTry (i : Nat) (h : HE) (E : EX) (Z : Ends) : EX := fun σ cv d H => wAs K (cls 0) i (tsH K cls i h) (fun c d σ H => E σ c d H) Z cv d σ H
mutual
def tOfS (E : EX) : CS → TS
  | .asg i e => tAsg (tOf K sp E e) (gName i)
  | .own i e => tAsg (tOf K sp E e) (gName i)
  | .own2 i j => tParS [i, j] (tCons (tLst tNil) (tCons (tLst tNil) tNil))
  | .par true is es => tParS is (tOfs K sp E es)
  | .par false is es => tAsg (tTup (tOfs K sp E es)) (gTup K is.length (gNames is))
  | .unp t e => tAsg (tOf K sp E e) (tOfG K t)
  | .app i e => tDrop (tBM K "list" rAppend (tVar i) (tCons (tOf K sp E e) tNil))
  | .ext i e => tDrop (tBM K "list" rExtend (tVar i) (tCons (tOf K sp E e) tNil))
  | .six i a e => tAsg (tOf K sp E e) (gSub (tVar i) (tOf K sp E a) rSetL)
  | .ite c a b => tIfS (tOfT K sp E c) (tOfSs E a) (tOfSs E b)
  | .forr t it b => tFor (tOfI K sp E it) (tOfG K t) (tOfSs E b)
  | .whl c b => tWhile (tOfT K sp E c) (tOfSs E b)
  | .ret e => tRet (tOf K sp E e)
  | .retO i => tRet (tVar i)
  | .exp e => tDrop (tOf K sp E e)
  | .rse c => fun _ σ H => E σ (cls c) none H
  | .frz _ => tNext
  | .tryx b i h => fun Z σ H => tOfSs (eTry K cls i h E Z) b Z σ H
def tOfSs (E : EX) : CSs → TS
  | .nil => tNext
  | .cons s r => tSeq (tOfS E s) (tOfSs E r)
end
def PostS (E : EX) (P0 H0 P : Hp) (r : R Fl) (D : Ends) : Prop := match r with
  | .ok (.nx env') => ∀ σ' P' H', Ext P0 H0 P' H' → Ex P P' → EnvOk K H0 env' σ' P' H' → D.nx σ' H'
  | .ok (.rt d) => ∀ v P' H', Ext P0 H0 P' H' → Rep K P' d v → D.rt v H'
  | .exc c => ∀ σ' P' H', Ext P0 H0 P' H' → E σ' (cls c) none H'
  | .bad => False
def SS (E : EX) (t : TS) (f : Env → R Fl) : Prop := ∀ P0 H0 env σ P H D, Ext P0 H0 P H → EnvOk K H0 env σ P H → PostS K cls E P0 H0 P (f env) D → t D σ H
end
section
variable {K : W.Frag} {cls : Nat → Value} {sp : Nat → Sp} {cl : Nat → List D → R D} {E : EX} {P0 H0 P H : Hp} {σ : L2.St} {Z : Ends} {env : Env}
theorem PostS.later {P1 : Hp} {r : R Fl} (e : Ex P P1) (p : PostS K cls E P0 H0 P r Z) : PostS K cls E P0 H0 P1 r Z := by
  cases r with
  | ok o =>
    cases o with
    | nx env' => exact fun σ' P' H' a b c => p σ' P' H' a (e.trans b) c
    | rt d => exact p
  | exc c => exact p
  | bad => exact p
/-- an expression ahead of the rest of a statement -/
theorem SE.thenS {t : TE} {f : Env → R D} {k : D → R Fl} {Qb : VK} (h : SE K cls E t f) (x : Ext P0 H0 P H) (I : EnvOk K H0 env σ P H) (p : PostS K cls E P0 H0 P ((f env).bind k) Z)
    (q : ∀ d v P1 H1, f env = .ok d → Ext P H P1 H1 → Rep K P1 d v → PostS K cls E P0 H0 P1 (k d) Z → EnvOk K H0 env σ P1 H1 → Qb v H1) : t σ H Qb := h H0 env σ P H Qb I (by
  cases hf : f env with
  | ok d => rw [hf] at p; exact fun v P1 H1 e r => q d v P1 H1 hf e r (p.later e.p) (I.mono e)
  | exc c => rw [hf] at p; exact fun P' H' e => p σ P' H' (x.trans e)
  | bad => rw [hf] at p; exact p)
theorem SB.thenS {t : TE} {f : Env → R D} {k : D → R Fl} {Qb : VK} (h : SB K cls E t f) (x : Ext P0 H0 P H) (I : EnvOk K H0 env σ P H) (p : PostS K cls E P0 H0 P ((f env).bind k) Z)
    (q : ∀ d v P1 H1, f env = .ok d → Ext P H P1 H1 → RepB K P1 H1 d v → PostS K cls E P0 H0 P1 (k d) Z → EnvOk K H0 env σ P1 H1 → Qb v H1) : t σ H Qb := h H0 env σ P H Qb I (by
  cases hf : f env with
  | ok d => rw [hf] at p; exact fun v P1 H1 e r => q d v P1 H1 hf e r (p.later e.p) (I.mono e)
  | exc c => rw [hf] at p; exact fun P' H' e => p σ P' H' (x.trans e)
  | bad => rw [hf] at p; exact p)
theorem SA.thenS {t : TA} {f : Env → R (List D)} {k : List D → R Fl} {Qb : List V → Hp → Prop} (h : SA K cls E t f) (x : Ext P0 H0 P H) (I : EnvOk K H0 env σ P H) (p : PostS K cls E P0 H0 P ((f env).bind k) Z)
    (q : ∀ d v P1 H1, f env = .ok d → Ext P H P1 H1 → Reps K P1 d v → PostS K cls E P0 H0 P1 (k d) Z → EnvOk K H0 env σ P1 H1 → Qb v H1) : t σ H Qb := h H0 env σ P H Qb I (by
  cases hf : f env with
  | ok d => rw [hf] at p; exact fun v P1 H1 e r => q d v P1 H1 hf e r (p.later e.p) (I.mono e)
  | exc c => rw [hf] at p; exact fun P' H' e => p σ P' H' (x.trans e)
  | bad => rw [hf] at p; exact p)
theorem ST.thenS {t : TT} {f : Env → R Bool} {k : Bool → R Fl} {Qb : Bool → Hp → Prop} (h : ST K cls E t f) (x : Ext P0 H0 P H) (I : EnvOk K H0 env σ P H) (p : PostS K cls E P0 H0 P ((f env).bind k) Z)
    (q : ∀ b P1 H1, f env = .ok b → Ext P H P1 H1 → PostS K cls E P0 H0 P1 (k b) Z → EnvOk K H0 env σ P1 H1 → Qb b H1) : t σ H Qb := h H0 env σ P H Qb I (by
  cases hf : f env with
  | ok d => rw [hf] at p; exact fun P1 H1 e => q d P1 H1 hf e (p.later e.p) (I.mono e)
  | exc c => rw [hf] at p; exact fun P' H' e => p σ P' H' (x.trans e)
  | bad => rw [hf] at p; exact p)
/-- the list of a slot changes: how the heap lies to the entry -/
theorem Ext.mut {a : Addr} {o : HO} (x : Ext P0 H0 P H) (h0 : H0 a = none) (hp : P a = none) : Ext P0 H0 P (upd H a o) :=
  ⟨fun b u e => by rw [upd_ne (ne_of_none e h0)]; exact x.h b u e, x.p, fun b u e => by
    have nb : b ≠ a := fun z => by rw [z, hp] at e; cases e
    rw [upd_ne nb]; exact x.ph b u e, x.fr⟩
theorem Ext.frz {a : Addr} {o : HO} (x : Ext P0 H0 P H) (h0 : H0 a = none) (hp : P a = none) (ha : H a = some o) : Ext P0 H0 (upd P a o) H :=
  ⟨x.h, x.p.trans (Ex.new hp), fun b u e => by
    by_cases hb : b = a
    · subst hb; rw [upd_same] at e; cases e; exact ha
    · rw [upd_ne hb] at e; exact x.ph b u e, fun b z1 z2 => by
    have nb : b ≠ a := fun z => z2 (by rw [z]; exact h0)
    rw [upd_ne nb]; exact x.fr b z1 z2⟩
theorem slotO_some {o : Option Slot} {k : List D → R Fl} : (∃ ds, o = some (.own ds) ∧ (slotO o).bind k = k ds) ∨ (slotO o).bind k = .bad := by
  cases o with
  | none => exact .inr rfl
  | some s =>
    cases s with
    | own ds => exact .inl ⟨ds, rfl, rfl⟩
    | no => exact .inr rfl
    | raw v => exact .inr rfl
    | val d => exact .inr rfl
theorem lstD_some {d : D} {k : List D → R Fl} : (∃ ds, d = .lst ds ∧ (lstD d).bind k = k ds) ∨ (lstD d).bind k = .bad := by
  cases d with
  | lst ds => exact .inl ⟨ds, rfl, rfl⟩
  | _ => exact .inr rfl
theorem ss_asg {i : Nat} {t : TE} {f : Env → R D} (h : SE K cls E t f) : SS K cls E (tAsg t (gName i)) (fun env => (f env).bind fun d => .ok (.nx (env.set i (.val d)))) := fun P0 H0 env σ P H Z x I p =>
  h.thenS x I p fun d v P1 H1 _ e r p1 I1 => p1 _ P1 H1 (x.trans e) (Same.refl _) (I1.set r)
theorem ss_own {i : Nat} {t : TE} {f : Env → R D} (h : SN K cls E t f) : SS K cls E (tAsg t (gName i)) (fun env => (f env).bind fun d => (lstD d).bind fun ds => .ok (.nx (env.set i (.own ds)))) := fun P0 H0 env σ P H Z x I p => by
  refine h H0 env σ P H _ I ?_
  simp only at p
  cases hf : f env with
  | exc c => rw [hf] at p; exact fun P' H' e => p σ P' H' (x.trans e)
  | bad => rw [hf] at p; exact p
  | ok d =>
    rw [hf] at p
    cases d with
    | lst ds =>
      intro a vs P1 H1 e h1 h2 h3 h4
      have I1 := I.mono e
      refine p _ P1 H1 (x.trans e) e.p (I1.setO (x.h.free h1) h2 h3 h4 fun j es hj n hs => ?_)
      obtain ⟨b, us, e1, _, _, e4, _⟩ := I.at_ j _ hj
      rw [hs] at e1
      cases e1
      rw [h1] at e4; cases e4
    | _ => exact p.elim
/-- two new lists at once -/
theorem ss_own2 {i j : Nat} : SS K cls E (tPar i j (tCons (tLst tNil) (tCons (tLst tNil) tNil))) (fun env => if i = j then .bad else .ok (.nx ((env.set i (.own [])).set j (.own [])))) := fun P0 H0 env σ P H Z x I p => by
  simp only at p
  by_cases hij : i = j
  · rw [if_pos hij] at p; exact p.elim
  · rw [if_neg hij] at p
    refine ⟨Nat.zero_le _, fun a ha => ⟨Nat.zero_le _, fun b hb => ⟨_, _, rfl, ?_⟩⟩⟩
    have hab : a ≠ b := fun z => by rw [← z, upd_same] at hb; cases hb
    have hb' : H b = none := by rw [upd_ne (Ne.symm hab)] at hb; exact hb
    have e1 : Ext P H P (upd H a (.lst [])) := Ext.newO I.ex ha
    have e2 : Ext P (upd H a (.lst [])) P (upd (upd H a (.lst [])) b (.lst [])) := Ext.newO e1.ph hb
    have I2 := (I.mono e1).mono e2
    have own_ne : ∀ (c : Addr), H c = none → ∀ (l : Nat) (es : List D), env[l]? = some (.own es) → σ[l]? ≠ some (some (.ref c)) := fun c hc l es hl hs => by
      obtain ⟨b', us, q1, _, _, q4, _⟩ := I.at_ l _ hl
      rw [hs] at q1
      cases q1
      rw [hc] at q4; cases q4
    have I3 := I2.setO (i := i) (ds := []) (vs := []) (a := a) (x.h.free ha) (I.ex.free ha) (by rw [upd_ne hab]; exact upd_same) .nil fun l es hl n => own_ne a ha l es hl
    have I4 := I3.setO (i := j) (ds := []) (vs := []) (a := b) (x.h.free hb') (I.ex.free hb') upd_same .nil fun l es hl n => by
      by_cases hil : i = l
      · subst hil
        have hlt : i < env.length := by simpa using (List.getElem?_eq_some_iff.mp hl).1
        rw [List.getElem?_set_self (I.len ▸ hlt)]
        intro z
        simp only [Option.some.injEq, V.ref.injEq] at z
        exact hab z
      · rw [List.getElem?_set_ne hil] at hl ⊢
        exact own_ne b hb' l es hl
    exact p _ P _ ((x.trans e1).trans e2) (Same.refl _) I4
theorem ss_unp {tg : Tg} {t : TE} {f : Env → R D} (h : SE K cls E t f) : SS K cls E (tAsg t (tOfG K tg)) (fun env => (f env).bind fun d => (setTg tg d env).bind fun env' => .ok (.nx env')) := fun P0 H0 env σ P H Z x I p =>
  h.thenS x I p fun d v P1 H1 _ e r p1 I1 => by
    cases hs : setTg tg d env with
    | exc c => cases tg <;> cases d <;> first | (simp [setTg] at hs; done) | exact absurd hs setAll_noexc
    | bad => rw [hs] at p1; exact p1.elim
    | ok env' =>
      rw [hs] at p1
      exact sg_of I1 r hs fun σ' I' _ => p1 σ' P1 H1 (x.trans e) (Same.refl _) I'
where
  setAll_noexc {is : List Nat} {ds : List D} {env : Env} {c : Nat} : setAll is ds env ≠ .exc c := by
    induction is generalizing ds env with
    | nil => cases ds <;> simp [setAll]
    | cons i is ih =>
      cases ds with
      | nil => simp [setAll]
      | cons d ds => exact ih
theorem ss_ret {t : TE} {f : Env → R D} (h : SE K cls E t f) : SS K cls E (tRet t) (fun env => (f env).bind fun d => .ok (.rt d)) := fun P0 H0 env σ P H Z x I p =>
  h.thenS x I p fun d v P1 H1 _ e r p1 I1 => p1 v P1 H1 (x.trans e) r
theorem ss_exp {t : TE} {f : Env → R D} (h : SB K cls E t f) : SS K cls E (tDrop t) (fun env => (f env).bind fun _ => .ok (.nx env)) := fun P0 H0 env σ P H Z x I p =>
  h.thenS x I p fun d v P1 H1 _ e r p1 I1 => p1 σ P1 H1 (x.trans e) (Same.refl _) I1
theorem ss_app {i : Nat} {t : TE} {f : Env → R D} (h : SE K cls E t f) : SS K cls E (tDrop (tBM K "list" rAppend (tVar i) (tCons t tNil))) (fun env => (slotO env[i]?).bind fun ds => (f env).bind fun d => if ds.length < lim then .ok (.nx (env.set i (.own (ds ++ [d])))) else .bad) := fun P0 H0 env σ P H Z x I p => by
  simp only at p
  rcases slotO_some (o := env[i]?) (k := fun ds => (f env).bind fun d => if ds.length < lim then .ok (.nx (env.set i (.own (ds ++ [d])))) else .bad) with ⟨ds, h1, h2⟩ | h2
  · rw [h2] at p
    obtain ⟨a, vs, e1, h0, hp, ha, hr⟩ := I.at_ i _ h1
    refine ⟨.ref a, e1, .inl ⟨rfl, vs, SqL.of ha⟩, ?_⟩
    refine h.thenS x I p fun d v P1 H1 _ e r p1 I1 => ?_
    obtain ⟨a', vs', e1', h0', hp', ha', hr'⟩ := I1.at_ i _ h1
    rw [e1] at e1'
    cases e1'
    by_cases hl : ds.length < lim
    · rw [if_pos hl] at p1
      refine ⟨a, vs', v, rfl, rfl, ha', by rw [← hr'.length, ← lim_eq]; exact hl, ?_⟩
      exact p1 σ P1 _ ((x.trans e).mut h0' hp') (Same.refl _) (I1.mut h1 e1 (hr'.append (.cons r .nil)))
    · rw [if_neg hl] at p1; exact p1.elim
  · rw [h2] at p; exact p.elim
theorem ss_ext {i : Nat} {t : TE} {f : Env → R D} (h : SB K cls E t f) : SS K cls E (tDrop (tBM K "list" rExtend (tVar i) (tCons t tNil))) (fun env => (slotO env[i]?).bind fun ds => (f env).bind fun d => (lstD d).bind fun es => if ds.length + es.length ≤ lim then .ok (.nx (env.set i (.own (ds ++ es)))) else .bad) := fun P0 H0 env σ P H Z x I p => by
  simp only at p
  rcases slotO_some (o := env[i]?) (k := fun ds => (f env).bind fun d => (lstD d).bind fun es => if ds.length + es.length ≤ lim then .ok (.nx (env.set i (.own (ds ++ es)))) else .bad) with ⟨ds, h1, h2⟩ | h2
  · rw [h2] at p
    obtain ⟨a, vs, e1, h0, hp, ha, hr⟩ := I.at_ i _ h1
    refine ⟨.ref a, e1, .inl ⟨rfl, vs, SqL.of ha⟩, ?_⟩
    refine h.thenS x I p fun d v P1 H1 _ e r p1 I1 => ?_
    obtain ⟨a', vs', e1', h0', hp', ha', hr'⟩ := I1.at_ i _ h1
    rw [e1] at e1'
    cases e1'
    rcases lstD_some (d := d) (k := fun es => if ds.length + es.length ≤ lim then .ok (.nx (env.set i (.own (ds ++ es)))) else .bad) with ⟨es, rfl, h3⟩ | h3
    · rw [h3] at p1
      by_cases hl : ds.length + es.length ≤ lim
      · rw [if_pos hl] at p1
        obtain ⟨b, ws, rfl, g1, g2⟩ := r.lst e.ph
        refine ⟨a, b, vs', ws, rfl, rfl, ha', g1, by rw [← hr'.length, ← g2.length, ← lim_eq]; exact hl, ?_⟩
        exact p1 σ P1 _ ((x.trans e).mut h0' hp') (Same.refl _) (I1.mut h1 e1 (hr'.append g2))
      · rw [if_neg hl] at p1; exact p1.elim
    · rw [h3] at p1; exact p1.elim
  · rw [h2] at p; exact p.elim
theorem ss_six {i : Nat} {t ta : TE} {f fa : Env → R D} (h : SE K cls E t f) (hi : SB K cls E ta fa) : SS K cls E (tAsg t (gSub (tVar i) ta rSetL)) (fun env => (slotO env[i]?).bind fun ds => (f env).bind fun d => (fa env).bind fun x => (intD x).bind fun k => (R.ofO (L2.ixN ds.length k)).bind fun j => .ok (.nx (env.set i (.own (ds.set j d))))) := fun P0 H0 env σ P H Z x I p => by
  simp only at p
  rcases slotO_some (o := env[i]?) (k := fun ds => (f env).bind fun d => (fa env).bind fun x => (intD x).bind fun k => (R.ofO (L2.ixN ds.length k)).bind fun j => .ok (.nx (env.set i (.own (ds.set j d))))) with ⟨ds, h1, h2⟩ | h2
  · rw [h2] at p
    refine h.thenS x I p fun d v P1 H1 _ e r p1 I1 => ?_
    obtain ⟨a, vs, e1, h0, hp, ha, hr⟩ := I1.at_ i _ h1
    refine ⟨.ref a, e1, ?_⟩
    refine hi.thenS (x.trans e) I1 p1 fun y w P2 H2 _ e2 r2 p2 I2 => ?_
    obtain ⟨a', vs', e1', h0', hp', ha', hr'⟩ := I2.at_ i _ h1
    rw [e1] at e1'
    cases e1'
    cases y with
    | int k =>
      simp only [intD, R.bind_ok] at p2
      cases hj : ixN ds.length k with
      | none => rw [hj] at p2; exact p2.elim
      | some j =>
        rw [hj] at p2
        refine ⟨a, vs', k, j, rfl, r2.int, ha', by rw [← hr'.length]; exact hj, ?_⟩
        exact p2 σ P2 _ (((x.trans e).trans e2).mut h0' hp') (Same.refl _) (I2.mut h1 e1 (hr'.set (r.mono e2.p) j))
    | _ => exact p2.elim
  · rw [h2] at p; exact p.elim
theorem ss_frz {i : Nat} : SS K cls E tNext (fun env => (slotO env[i]?).bind fun ds => .ok (.nx (env.set i (.val (.lst ds))))) := fun P0 H0 env σ P H Z x I p => by
  simp only at p
  rcases slotO_some (o := env[i]?) (k := fun ds => .ok (.nx (env.set i (.val (.lst ds))))) with ⟨ds, h1, h2⟩ | h2
  · rw [h2] at p
    obtain ⟨a, vs, e1, h0, hp, ha, hr⟩ := I.at_ i _ h1
    exact p σ _ H (x.frz h0 hp ha) (Ex.new hp) (I.frz h1 e1 ha hr hp)
  · rw [h2] at p; exact p.elim
theorem ss_retO {i : Nat} : SS K cls E (tRet (tVar i)) (fun env => (slotO env[i]?).bind fun ds => .ok (.rt (.lst ds))) := fun P0 H0 env σ P H Z x I p => by
  simp only at p
  rcases slotO_some (o := env[i]?) (k := fun ds => .ok (.rt (.lst ds))) with ⟨ds, h1, h2⟩ | h2
  · rw [h2] at p
    obtain ⟨a, vs, e1, h0, hp, ha, hr⟩ := I.at_ i _ h1
    exact ⟨.ref a, e1, p _ _ H (x.frz h0 hp ha) (.lst upd_same (hr.mono (Ex.new hp)))⟩
  · rw [h2] at p; exact p.elim
theorem ss_ite {c : TT} {t u : TS} {fc : Env → R Bool} {f g : Env → R Fl} (hc : ST K cls E c fc) (h : SS K cls E t f) (h' : SS K cls E u g) : SS K cls E (tIfS c t u) (fun env => (fc env).bind fun k => if k then f env else g env) := fun P0 H0 env σ P H Z x I p =>
  hc.thenS x I p fun b P1 H1 _ e p1 I1 => by
    cases b with
    | true => exact h P0 H0 env σ P1 H1 Z (x.trans e) I1 p1
    | false => exact h' P0 H0 env σ P1 H1 Z (x.trans e) I1 p1
theorem ss_nil : SS K cls E tNext (fun env => .ok (.nx env)) := fun P0 H0 env σ P H Z x I p => p σ P H x (Same.refl _) I
theorem ss_cons {t u : TS} {f g : Env → R Fl} (h : SS K cls E t f) (h' : SS K cls E u g) : SS K cls E (tSeq t u) (fun env => (f env).bind (Fl.next fun env' => g env')) := fun P0 H0 env σ P H Z x I p => by
  refine h P0 H0 env σ P H _ x I ?_
  simp only at p
  cases hf : f env with
  | exc c => rw [hf] at p; exact p
  | bad => rw [hf] at p; exact p
  | ok o =>
    rw [hf] at p
    cases o with
    | rt d => exact p
    | nx env' => exact fun σ' P' H' x' e' I' => h' P0 H0 env' σ' P' H' Z x' I' (PostS.later e' p)
theorem ss_try {i : Nat} {h : HE} {tb : EX → TS} {f : Env → R Fl} (hX : ∀ c, W.exmOne K (cls c) (cls 0) = some true) (hb : ∀ E', SS K cls E' (tb E') f) : SS K cls E (fun Z σ H => tb (eTry K cls i h E Z) Z σ H) (fun env => catchR (fun c => (R.ofO (evh c h)).bind fun d => .ok (.rt d)) (f env)) := fun P0 H0 env σ P H Z x I p => by
  refine hb (eTry K cls i h E Z) P0 H0 env σ P H Z x I ?_
  simp only at p
  cases hf : f env with
  | bad => rw [hf] at p; exact p
  | ok o =>
    rw [hf] at p
    cases o with
    | nx e1 => exact p
    | rt d => exact p
  | exc c =>
    rw [hf] at p
    simp only [catchR] at p
    intro σ' P' H' x'
    refine ⟨true, hX c, fun _ a ha => ?_, fun z => nomatch z⟩
    cases he : evh c h with
    | none => rw [he] at p; exact p.elim
    | some d' =>
      rw [he] at p
      exact ⟨c, d', P', σ', rfl, rfl, x'.ph, rfl, he, fun v P2 H2 e2 r => p v P2 H2 (x'.trans e2) r⟩
theorem ss_rse {c : Nat} : SS K cls E (fun _ σ H => E σ (cls c) none H) (fun _ => .exc c) := fun P0 H0 env σ P H Z x I p => p σ P H x
theorem ss_par2 {i j : Nat} {ta : TA} {f : Env → R (List D)} (h : SA K cls E ta f) : SS K cls E (tPar i j ta) (fun env => (f env).bind fun ds => (setAll [i, j] ds env).bind fun env' => .ok (.nx env')) := fun P0 H0 env σ P H Z x I p =>
  h.thenS x I p fun ds vs P1 H1 _ e r p1 I1 => by
    match ds, vs, r with
    | [d1, d2], _, .cons r1 (.cons r2 .nil) =>
      refine ⟨_, _, rfl, ?_⟩
      exact p1 _ P1 H1 (x.trans e) (Same.refl _) ((I1.set r1).set r2)
    | [], _, _ => exact p1.elim
    | [_], _, _ => exact p1.elim
    | _ :: _ :: _ :: _, _, _ => exact p1.elim
theorem ss_par3 {i j l : Nat} {ta : TA} {f : Env → R (List D)} (h : SA K cls E ta f) : SS K cls E (tPar3 i j l ta) (fun env => (f env).bind fun ds => (setAll [i, j, l] ds env).bind fun env' => .ok (.nx env')) := fun P0 H0 env σ P H Z x I p =>
  h.thenS x I p fun ds vs P1 H1 _ e r p1 I1 => by
    match ds, vs, r with
    | [d1, d2, d3], _, .cons r1 (.cons r2 (.cons r3 .nil)) =>
      refine ⟨_, _, _, rfl, ?_⟩
      exact p1 _ P1 H1 (x.trans e) (Same.refl _) (((I1.set r1).set r2).set r3)
    | [], _, _ => exact p1.elim
    | [_], _, _ => exact p1.elim
    | [_, _], _, _ => exact p1.elim
    | _ :: _ :: _ :: _ :: _, _, _ => exact p1.elim
theorem ss_parT {is : List Nat} {ta : TA} {f : Env → R (List D)} (h : SA K cls E ta f) (hl : is.length ≤ 1000) : SS K cls E (tAsg (tTup ta) (gTup K is.length (gNames is))) (fun env => (f env).bind fun ds => (setAll is ds env).bind fun env' => .ok (.nx env')) := fun P0 H0 env σ P H Z x I p =>
  h.thenS x I p fun ds vs P1 H1 _ e r p1 I1 => by
    cases hs : setAll is ds env with
    | exc c => exact absurd hs ss_unp.setAll_noexc
    | bad => rw [hs] at p1; exact p1.elim
    | ok env' =>
      rw [hs] at p1
      have hdl := setAll_len hs
      refine ⟨?_, fun a ha => ?_⟩
      · rw [← r.length, hdl]
        exact Nat.le_trans hl (by decide)
      · obtain ⟨P2, e2, r2⟩ := Res.keep e.ph (Res.newT (K := K) ha r)
        exact sg_tup (I1.mono e2) r2 hs fun σ' I' => p1 σ' P2 _ ((x.trans e).trans e2) e2.p I'
theorem ss_for {wi : TI} {tg : Tg} {tb : TS} {fi : Env → R (List D)} {fb : Env → R Fl} (hi : SI K cls E true wi fi) (hb : SS K cls E tb fb) : SS K cls E (tFor wi (tOfG K tg) tb) (fun env => (fi env).bind fun ds => forL (fun d e => (setTg tg d e).bind fun e1 => fb e1) ds env) := fun P0 H0 env σ P H Z x I p => by
  refine hi H0 env σ P H _ I ?_
  simp only at p
  cases hf : fi env with
  | exc c => rw [hf] at p; exact fun P' H' e => p σ P' H' (x.trans e)
  | bad => rw [hf] at p; exact p
  | ok ds =>
    rw [hf] at p
    simp only [R.bind_ok] at p
    intro J P1 H1 e1 hw
    obtain ⟨G, Y, w, hG, hY⟩ := hw
    simp only [if_true] at hG
    generalize hr : forL (fun d e => (setTg tg d e).bind fun e1 => fb e1) ds env = r at p
    refine for_it w (fun i σ' H' => ∃ P' env', Ext P0 H0 P' H' ∧ Ex P1 P' ∧ EnvOk K H0 env' σ' P' H' ∧ forL (fun d e => (setTg tg d e).bind fun e1 => fb e1) (ds.drop i) env' = r) ⟨P1, env, x.trans e1, Same.refl _, I.mono e1, hr⟩ (fun i σ' H' _ hp => ?_) (fun i y σ' H' H2 hi hp hy => ?_) (fun σ' H' hp => ?_)
    · obtain ⟨P', env', a1, a2, a3, _⟩ := hp
      exact hG H' (a2.trans a3.ex)
    · obtain ⟨P', env', a1, a2, a3, a4⟩ := hp
      obtain ⟨P2, d, hd, e2, r2⟩ := hY i P' H' y H2 hi a2 a3.ex hy
      rw [get_drop hd] at a4
      simp only [forL] at a4
      have I2 := a3.mono e2
      cases hs : setTg tg d env' with
      | exc c => cases tg <;> cases d <;> first | (simp [setTg] at hs; done) | exact absurd hs ss_unp.setAll_noexc
      | bad => rw [hs] at a4; simp only [R.bind_bad] at a4; rw [← a4] at p; exact p.elim
      | ok env1 =>
        rw [hs] at a4
        simp only [R.bind_ok] at a4
        refine sg_of I2 r2 hs fun σ2 I3 _ => ?_
        refine hb P0 H0 env1 σ2 P2 H2 _ (a1.trans e2) I3 ?_
        cases hq : fb env1 with
        | exc c => rw [hq] at a4; simp only [R.bind_exc] at a4; rw [← a4] at p; exact p
        | bad => rw [hq] at a4; simp only [R.bind_bad] at a4; rw [← a4] at p; exact p.elim
        | ok o =>
          rw [hq] at a4
          simp only [R.bind_ok] at a4
          cases o with
          | rt d => simp only [Fl.next] at a4; rw [← a4] at p; exact p
          | nx env2 =>
            simp only [Fl.next] at a4
            exact fun σ3 P3 H3 x3 e3 I4 => ⟨P3, env2, x3, (a2.trans e2.p).trans e3, I4, a4⟩
    · obtain ⟨P', env', a1, a2, a3, a4⟩ := hp
      rw [List.drop_length] at a4
      simp only [forL] at a4
      rw [← a4] at p
      exact p σ' P' H' a1 (e1.p.trans a2) a3
theorem ss_whl {c : TT} {tb : TS} {fc : Env → R Bool} {fb : Env → R Fl} {n : Nat} (hc : ST K cls E c fc) (hb : SS K cls E tb fb) : SS K cls E (tWhile c tb) (fun env => whileL fc fb n env) := fun P0 H0 env σ P H Z x I p => by
  simp only at p
  generalize hr : whileL fc fb n env = r at p
  refine ⟨fun m σ' H' => ∃ P' env', Ext P0 H0 P' H' ∧ Ex P P' ∧ EnvOk K H0 env' σ' P' H' ∧ whileL fc fb m env' = r, ⟨n, P, env, x, Same.refl _, I, hr⟩, fun m σ' H' hw => ?_⟩
  obtain ⟨P', env', a1, a2, a3, a4⟩ := hw
  cases m with
  | zero => simp only [whileL] at a4; rw [← a4] at p; exact p.elim
  | succ m =>
    simp only [whileL] at a4
    have p' : PostS K cls E P0 H0 P' ((fc env').bind fun k => if k then (fb env').bind (Fl.next (whileL fc fb m)) else .ok (.nx env')) Z := by rw [a4]; exact p.later a2
    refine hc.thenS a1 a3 p' fun b P1 H1 hfc e p1 I1 => ?_
    rw [hfc] at a4
    simp only [R.bind_ok] at a4
    cases b with
    | false => exact p1 σ' P1 H1 (a1.trans e) (Same.refl _) I1
    | true =>
      simp only [if_true] at a4 p1
      refine ⟨fun σ2 H2 => ∃ P2 env2, Ext P0 H0 P2 H2 ∧ Ex P P2 ∧ EnvOk K H0 env2 σ2 P2 H2 ∧ whileL fc fb m env2 = r, fun σ2 H2 hn => ⟨m, Nat.lt_succ_self m, hn⟩, ?_⟩
      refine hb P0 H0 env' σ' P1 H1 _ (a1.trans e) I1 ?_
      cases hq : fb env' with
      | exc c => rw [hq] at p1; exact p1
      | bad => rw [hq] at p1; exact p1
      | ok o =>
        rw [hq] at p1 a4
        simp only [R.bind_ok] at a4
        cases o with
        | rt d => exact p1
        | nx env2 =>
          simp only [Fl.next] at a4
          exact fun σ3 P3 H3 x3 e3 I4 => ⟨P3, env2, x3, (a2.trans e.p).trans e3, I4, a4⟩
end
section
variable {K : W.Frag} {cls : Nat → Value} {sp : Nat → Sp} {cl : Nat → List D → R D} (hC : Calls K cls sp cl)
include hC
theorem se_V (e : CE) (E : EX) : SE K cls E (tOf K sp E e) (evV cl e) := fun H0 env σ P H Q I p => by
  unfold evV at p
  cases hb : e.isBor with
  | true => rw [hb] at p; exact p.elim
  | false => rw [hb] at p; exact se_all hC e E hb H0 env σ P H Q I p
theorem st_T (e : CE) (E : EX) : ST K cls E (tOfT K sp E e) (evT cl e) := fun H0 env σ P H Q I p => by
  unfold evT at p
  cases hb : e.isTest with
  | true => rw [hb] at p; exact st_all hC e E hb H0 env σ P H Q I p
  | false => rw [hb] at p; exact p.elim
theorem sn_new (e : CE) (E : EX) (h : e.isNew = true) : SN K cls E (tOf K sp E e) (ev cl e) := by
  cases e with
  | lst es => exact sn_lst (sa_all hC es E)
  | lc elt t it c vs => exact sn_lc (si_all hC it E false (fun z => by cases z)) (sc_all hC c EX0) (se_all hC elt EX0)
  | lc2 elt t it c t1 it1 c1 vs vs1 => exact sn_lc2 (si_all hC it E false (fun z => by cases z)) (sc_all hC c EX0) (fun hk => si_all hC it1 EX0 true (fun _ => hk)) (sc_all hC c1 EX0) (se_all hC elt EX0)
  | bin op a b =>
    cases op with
    | add => exact sn_add (sb_all hC a E) (sb_all hC b E)
    | mul =>
      cases a <;> simp [CE.isNew] at h
      exact sn_rep (sa_all hC _ E) (sb_all hC b E)
    | _ => simp [CE.isNew] at h
  | _ => simp [CE.isNew] at h
variable (hX : ∀ c, W.exmOne K (cls c) (cls 0) = some true)
include hX
mutual
theorem ss_all : ∀ (s : CS) (E : EX), SS K cls E (tOfS K cls sp E s) (ex cl s)
  | .asg i e, E => ss_asg (se_V hC e E)
  | .own i e, E => fun P0 H0 env σ P H Z x I p => by
    have e2 : ex cl (.own i e) env = if e.isNew then (ev cl e env).bind fun d => (lstD d).bind fun ds => .ok (.nx (env.set i (.own ds))) else .bad := by simp only [ex]
    rw [e2] at p
    cases hb : e.isNew with
    | true => rw [hb] at p; exact ss_own (sn_new hC e E hb) P0 H0 env σ P H Z x I p
    | false => rw [hb] at p; exact p.elim
  | .own2 i j, E => ss_own2
  | .par true [i, j] es, E => fun P0 H0 env σ P H Z x I p => ss_par2 (sa_all hC es E) P0 H0 env σ P H Z x I (by simpa [ex] using p)
  | .par true [i, j, l] es, E => fun P0 H0 env σ P H Z x I p => ss_par3 (sa_all hC es E) P0 H0 env σ P H Z x I (by simpa [ex] using p)
  | .par true [] es, E => fun P0 H0 env σ P H Z x I p => by simp [ex] at p; exact p.elim
  | .par true [_] es, E => fun P0 H0 env σ P H Z x I p => by simp [ex] at p; exact p.elim
  | .par true (_ :: _ :: _ :: _ :: _) es, E => fun P0 H0 env σ P H Z x I p => by simp [ex] at p; exact p.elim
  | .par false is es, E => fun P0 H0 env σ P H Z x I p => by
    by_cases hl : is.length ≤ 1000
    · exact ss_parT (sa_all hC es E) hl P0 H0 env σ P H Z x I (by simpa [ex, Nat.not_lt.mpr hl] using p)
    · simp [ex, Nat.not_le.mp hl] at p; exact p.elim
  | .unp t e, E => ss_unp (se_V hC e E)
  | .app i e, E => ss_app (se_V hC e E)
  | .ext i e, E => ss_ext (sb_all hC e E)
  | .six i a e, E => ss_six (se_V hC e E) (sb_all hC a E)
  | .ite c a b, E => ss_ite (st_T hC c E) (sss_all a E) (sss_all b E)
  | .forr t it b, E => fun P0 H0 env σ P H Z x I p => by
    have e2 : ex cl (.forr t it b) env = if it.noBor then (evi cl it env).bind fun ds => forL (fun d e => (setTg t d e).bind fun e1 => exs cl b e1) ds env else .bad := by simp only [ex]
    rw [e2] at p
    cases hb : it.noBor with
    | true => rw [hb] at p; exact ss_for (si_all hC it E true (fun _ => hb)) (sss_all b E) P0 H0 env σ P H Z x I p
    | false => rw [hb] at p; exact p.elim
  | .whl c b, E => ss_whl (st_T hC c E) (sss_all b E)
  | .ret e, E => ss_ret (se_V hC e E)
  | .retO i, E => ss_retO
  | .exp e, E => ss_exp (sb_all hC e E)
  | .rse c, E => ss_rse
  | .frz i, E => ss_frz
  | .tryx b i h, E => ss_try hX fun E' => sss_all b E'
theorem sss_all : ∀ (s : CSs) (E : EX), SS K cls E (tOfSs K cls sp E s) (exs cl s)
  | .nil, E => ss_nil
  | .cons s r, E => ss_cons (ss_all s E) (sss_all r E)
end
end
end Cl
set_option Elab.async false
set_option linter.all false
set_option maxRecDepth 100000
set_option maxHeartbeats 4000000
namespace Cl
open PySem PySem.Spec PyProof.Rows L2 RZ

/-! ### the text against the core -/
structure Ctx where
  fname : Nat → Option Str
  cst : Str → Option Cst
  exn : Nat → Option Str
def visB (sc : Scope) (x : Str) : Bool := match sc.names.lookup x with
  | some .local => true
  | some .cell => true
  | some .free => true
  | _ => false
def locB (sc : Scope) (x : Str) : Bool := match sc.names.lookup x with
  | some .local => true
  | some .cell => true
  | _ => false
def isLocB (sc : Scope) (x : Str) : Bool := match sc.names.lookup x with
  | some .local => true
  | _ => false
def glB (sc : Scope) (x : Str) : Bool := match sc.names.lookup x with
  | some .globalImplicit => true
  | _ => false
def dbg (x : Str) : Bool := (x == ("__debug__" : Str)) || (x == ("__classdict__" : Str))
def notStar : Expr → Bool
  | .Starred _ _ => false
  | _ => true
def notSet : Expr → Bool
  | .Set _ _ _ => false
  | _ => true
def notComp : Expr → Bool
  | .ListComp _ _ _ _ => false
  | .SetComp _ _ _ _ => false
  | .DictComp _ _ _ _ _ => false
  | _ => true
def notSlice : Expr → Bool
  | .Slice _ _ _ _ => false
  | _ => true
def plainT : Expr → Bool
  | .Name _ _ => true
  | .Call _ _ _ _ => true
  | .Constant _ _ _ => true
  | .Subscript _ _ _ => true
  | _ => false
def plainO : Expr → Bool
  | .Name _ _ => true
  | .Constant _ _ _ => true
  | .List _ _ => true
  | _ => false
def chkC : Cst → Const → Bool
  | .non, .none => true
  | .bl b, .bool c => b == c
  | .int i, .int j => decide (i = j)
  | .str x, .str y => decide (x = y)
  | _, _ => false
def chkOp (op : BOp) (o : Operator) : Bool := match op, o with
  | .add, .Add => true
  | .sub, .Sub => true
  | .mul, .Mult => true
  | .fdiv, .FloorDiv => true
  | .mod, .Mod => true
  | .pow, .Pow => true
  | _, _ => false
def chkCmp (op : COp) (o : CmpOp) : Bool := match op, o with
  | .eq, .Eq => true
  | .ne, .NotEq => true
  | .lt, .Lt => true
  | .le, .LtE => true
  | .gt, .Gt => true
  | .ge, .GtE => true
  | .isin, .In => true
  | .notin, .NotIn => true
  | .is, .Is => true
  | .isnot, .IsNot => true
  | _, _ => false
theorem chkOp_eq {op : BOp} {o : Operator} (h : chkOp op o = true) : o = op.o := by cases op <;> cases o <;> first | rfl | (simp [chkOp] at h)
theorem chkCmp_eq {op : COp} {o : CmpOp} (h : chkCmp op o = true) : o = op.o := by cases op <;> cases o <;> first | rfl | (simp [chkCmp] at h)
def ownOf (N : List Str) (vs : List Nat) : List (Str × Nat) := vs.map fun i => (N.getD i Str.empty, i)
theorem ownOf_snd (N : List Str) (vs : List Nat) : (ownOf N vs).map (·.2) = vs := by
  unfold ownOf
  rw [List.map_map]
  show vs.map (fun i => i) = vs
  simp
def chkNames (N : List Str) (sc : Scope) (fn : Str → Bool) : List Nat → List Expr → Bool
  | [], [] => true
  | i :: is, .Name x _ :: es => decide (N[i]? = some x) && locB sc x && (fn x || isLocB sc x) && chkNames N sc fn is es
  | _, _ => false
def chkG (N : List Str) (sc : Scope) (fn : Str → Bool) : Tg → Expr → Bool
  | .nm i, e => match e with
    | .Name x _ => decide (N[i]? = some x) && locB sc x && (fn x || isLocB sc x)
    | _ => false
  | .tp is, e => match e with
    | .Tuple es _ _ => chkNames N sc fn is es
    | _ => false
def chkCst : Cst → Cst → Bool
  | .non, .non => true
  | .bl b, .bl c => b == c
  | .int i, .int j => decide (i = j)
  | .str x, .str y => decide (x = y)
  | _, _ => false
def isTupE : Expr → Bool
  | .Tuple _ _ _ => true
  | _ => false
/-- [f, g, ..][i](..) in its parts -/
def atParts : Expr → Option (List Expr × Expr × List Expr)
  | .Call (.Subscript (.List xs _) ei _) ys [] _ => some (xs, ei, ys)
  | _ => none
theorem atParts_eq {e : Expr} {q : List Expr × Expr × List Expr} (h : atParts e = some q) : ∃ p1 p2 pos, e = .Call (.Subscript (.List q.1 p1) q.2.1 p2) q.2.2 [] pos := by
  unfold atParts at h
  split at h
  · cases h; exact ⟨_, _, _, rfl⟩
  · cases h
/-- the names of defs -/
def chkFs (C : Ctx) (sc : Scope) : List Nat → List Expr → Bool
  | [], xs => match xs with
    | [] => true
    | _ => false
  | f :: fs, xs => match xs with
    | .Name x _ :: r => decide (C.fname f = some x) && glB sc x && !dbg x && chkFs C sc fs r
    | _ => false
section
variable (C : Ctx) (N : List Str)
mutual
def chkE : CE → Scope → (Str → Bool) → Expr → Bool
  | .var i, sc, fn, e => match e with
    | .Name x _ => decide (N[i]? = some x) && visB sc x && !dbg x
    | _ => false
  | .bor i, sc, fn, e => match e with
    | .Name x _ => decide (N[i]? = some x) && visB sc x && !dbg x
    | _ => false
  | .cst c, sc, fn, e => match e with
    | .Constant k _ _ => chkC c k
    | _ => false
  | .glo x c, sc, fn, e => match e with
    | .Name y _ => decide (x = y) && glB sc x && !dbg x && (match C.cst x with | some d => chkCst c d | none => false)
    | _ => false
  | .bin op a b, sc, fn, e => match e with
    | .BinOp ea o eb _ => chkOp op o && chkE a sc fn ea && chkE b sc fn eb
    | _ => false
  | .neg a, sc, fn, e => match e with
    | .UnaryOp .USub ea _ => chkE a sc fn ea
    | _ => false
  | .cmp op a b, sc, fn, e => match e with
    | .Compare ea [o] [eb] _ => chkCmp op o && notSet eb && chkE a sc fn ea && chkE b sc fn eb
    | _ => false
  | .chn op op' a b c, sc, fn, e => match e with
    | .Compare ea [o, o'] [eb, ec] _ => chkCmp op o && chkCmp op' o' && notSet ec && chkE a sc fn ea && chkE b sc fn eb && chkE c sc fn ec
    | _ => false
  | .and a r, sc, fn, e => match e with
    | .BoolOp .And (ea :: eb :: es) pos => chkE a sc fn ea && chkE r sc fn (.BoolOp .And (eb :: es) pos)
    | _ => false
  | .or a r, sc, fn, e => match e with
    | .BoolOp .Or (ea :: eb :: es) pos => chkE a sc fn ea && chkE r sc fn (.BoolOp .Or (eb :: es) pos)
    | _ => false
  | .one a, sc, fn, e => match e with
    | .BoolOp _ [ea] _ => chkE a sc fn ea
    | _ => false
  | .not a, sc, fn, e => match e with
    | .UnaryOp .Not ea _ => chkE a sc fn ea
    | _ => false
  | .ite c a b, sc, fn, e => match e with
    | .IfExp ec ea eb _ => c.isTest && chkE c sc fn ec && chkE a sc fn ea && chkE b sc fn eb
    | _ => false
  | .tup es, sc, fn, e => match e with
    | .Tuple xs _ _ => chkEs es sc fn xs
    | _ => false
  | .lst es, sc, fn, e => match e with
    | .List xs _ => chkEs es sc fn xs
    | _ => false
  | .idx a b, sc, fn, e => match e with
    | .Subscript ea eb _ => notSlice eb && chkE a sc fn ea && chkE b sc fn eb
    | _ => false
  | .slc a lo hi, sc, fn, e => match e with
    | .Subscript ea (.Slice elo ehi none _) _ => chkE a sc fn ea && chkO lo sc fn elo && chkO hi sc fn ehi
    | _ => false
  | .rev a, sc, fn, e => match e with
    | .Subscript ea (.Slice none none (some (.UnaryOp .USub (.Constant (.int 1) _ _) _)) _) _ => chkE a sc fn ea
    | _ => false
  | .revT a, sc, fn, e => match e with
    | .Subscript ea (.Slice none none (some (.UnaryOp .USub (.Constant (.int 1) _ _) _)) _) _ => chkE a sc fn ea
    | _ => false
  | .call f es, sc, fn, e => match e with
    | .Call (.Name x _) xs [] _ => decide (C.fname f = some x) && glB sc x && !dbg x && chkEs es sc fn xs
    | _ => false
  | .callD f es, sc, fn, e => match e with
    | .Call (.Name x _) xs [] _ => decide (C.fname (1000 + f) = some x) && glB sc x && !dbg x && chkEsD es sc fn xs
    | _ => false
  | .callAt fs ix es, sc, fn, e => match atParts e with
    | some q => chkFs C sc fs q.1 && notSlice q.2.1 && !q.2.2.isEmpty && chkE ix sc fn q.2.1 && chkEs es sc fn q.2.2
    | none => false
  | .bi b es, sc, fn, e => match e with
    | .Call (.Name x _) xs [] _ => decide (x = b.x) && glB sc x && !xs.isEmpty && chkEs es sc fn xs
    | _ => false
  | .meth m o es, sc, fn, e => match e with
    | .Call (.Attribute eo x apos) xs [] pos => decide (x = m.x) && plainO eo && (apos.endLine == pos.line) && !xs.isEmpty && decide (xs.length < 20) && chkE o sc fn eo && chkEs es sc fn xs
    | _ => false
  | .rgl es, sc, fn, e => match e with
    | .Call (.Name x _) [.Call (.Name y _) xs [] _] [] _ => decide (x = "list") && decide (y = "range") && glB sc x && glB sc y && chkR es sc fn xs
    | _ => false
  | .rgt es, sc, fn, e => match e with
    | .Call (.Name x _) [.Call (.Name y _) xs [] _] [] _ => decide (x = "tuple") && decide (y = "range") && glB sc x && glB sc y && !es.is3 && chkR es sc fn xs
    | _ => false
  | .lc elt t it c vs, sc, fn, e => match e with
    | .ListComp eelt [⟨tg, iter, ifs, 0⟩] scope _ => blkC N sc scope (ownOf N vs) && chkI it sc fn tg iter && notSet iter && chkG N (relS scope sc) (fun x => scope.names.lookup x == some .cell) t tg &&
        chkIf c (relS scope sc) (fun x => scope.names.lookup x == some .cell) ifs && chkE elt (relS scope sc) (fun x => scope.names.lookup x == some .cell) eelt
    | _ => false
  | .lc2 elt t it c t1 it1 c1 vs vs1, sc, fn, e => match e with
    | .ListComp eelt [⟨tg, iter, ifs, 0⟩, ⟨tg1, iter1, ifs1, 0⟩] scope _ => blkC N sc scope (ownOf N vs) && vs1.all vs.contains && chkI it sc fn tg iter && notSet iter && notSet iter1 && chkG N (relS scope sc) (fun x => scope.names.lookup x == some .cell) t tg &&
        chkIf c (relS scope sc) (fun x => scope.names.lookup x == some .cell) ifs && chkI it1 (relS scope sc) (fun x => scope.names.lookup x == some .cell) tg1 iter1 && chkG N (relS scope sc) (fun x => scope.names.lookup x == some .cell) t1 tg1 &&
        chkIf c1 (relS scope sc) (fun x => scope.names.lookup x == some .cell) ifs1 && chkE elt (relS scope sc) (fun x => scope.names.lookup x == some .cell) eelt
    | _ => false
  | .lset a, sc, fn, e => match e with
    | .Call (.Name x _) [.Call (.Name y _) [ea] [] _] [] _ => decide (x = "len") && decide (y = "set") && glB sc x && glB sc y && notStar ea && chkE a sc fn ea
    | _ => false
  | .sset a, sc, fn, e => match e with
    | .Call (.Name x _) [.Call (.Name y _) [ea] [] _] [] _ => decide (x = "sorted") && decide (y = "set") && glB sc x && glB sc y && notStar ea && chkE a sc fn ea
    | _ => false
  | .isi t a, sc, fn, e => match e with
    | .Call (.Name x _) [ea, .Name y _] [] _ => decide (x = "isinstance") && decide (y = t.n) && glB sc x && glB sc y && notStar ea && chkE a sc fn ea
    | _ => false
def chkEs : CEs → Scope → (Str → Bool) → List Expr → Bool
  | .nil, sc, fn, xs => match xs with
    | [] => true
    | _ => false
  | .cons e r, sc, fn, xs => match xs with
    | x :: s => notStar x && chkE e sc fn x && chkEs r sc fn s
    | _ => false
def chkEsD : CEs → Scope → (Str → Bool) → List Expr → Bool
  | .nil, sc, fn, xs => match xs with
    | [.Dict [] [] _] => true
    | _ => false
  | .cons e r, sc, fn, xs => match xs with
    | x :: s => notStar x && chkE e sc fn x && chkEsD r sc fn s
    | _ => false
def chkO : CO → Scope → (Str → Bool) → Option Expr → Bool
  | .none, sc, fn, o => match o with
    | none => true
    | _ => false
  | .some e, sc, fn, o => match o with
    | some x => chkE e sc fn x
    | none => false
def chkIf : CO → Scope → (Str → Bool) → List Expr → Bool
  | .none, sc, fn, o => match o with
    | [] => true
    | _ => false
  | .some e, sc, fn, o => match o with
    | [x] => e.isTest && chkE e sc fn x
    | _ => false
def chkR : CEs → Scope → (Str → Bool) → List Expr → Bool
  | .cons a .nil, sc, fn, xs => match xs with
    | [x] => notStar x && chkE a sc fn x
    | _ => false
  | .cons a (.cons b .nil), sc, fn, xs => match xs with
    | [x, y] => notStar x && notStar y && chkE a sc fn x && chkE b sc fn y
    | _ => false
  | .cons a (.cons b (.cons c .nil)), sc, fn, xs => match xs with
    | [x, y, z] => notStar x && notStar y && notStar z && chkE a sc fn x && chkE b sc fn y && chkE c sc fn z
    | _ => false
  | _, _, _, _ => false
def chkI : CI → Scope → (Str → Bool) → Expr → Expr → Bool
  | .lst a, sc, fn, tg, e => chkE a sc fn e
  | .tup a, sc, fn, tg, e => chkE a sc fn e
  | .rng es, sc, fn, tg, e => match e with
    | .Call (.Name y _) xs [] _ => decide (y = "range") && glB sc y && chkR es sc fn xs
    | _ => false
  | .enum a, sc, fn, tg, e => match e with
    | .Call (.Name y _) [x] [] _ => decide (y = "enumerate") && glB sc y && notStar x && isTupE tg && chkE a sc fn x
    | _ => false
  | .zip a b, sc, fn, tg, e => match e with
    | .Call (.Name z _) [x, y] [] _ => decide (z = "zip") && glB sc z && notStar x && notStar y && isTupE tg && chkE a sc fn x && chkE b sc fn y
    | _ => false
  | .str a, sc, fn, tg, e => chkE a sc fn e
  | .enumS a, sc, fn, tg, e => match e with
    | .Call (.Name y _) [x] [] _ => decide (y = "enumerate") && glB sc y && notStar x && isTupE tg && chkE a sc fn x
    | _ => false
end
end
end Cl
set_option Elab.async false
set_option linter.all false
set_option maxRecDepth 100000
set_option maxHeartbeats 4000000
namespace Cl
open PySem PySem.Spec PyProof.Rows L2 RZ

def bltNames : List Str := ["len", "sum", "min", "max", "all", "any", "tuple", "list", "sorted", "int", "range", "enumerate", "zip", "isinstance", "bool", "str", "set"]
structure Good (C : Ctx) (sp : Nat → Sp) (k : Nat) (N : List Str) (sc : Scope) (fn : Str → Bool) (E : EX) (X : Cx) : Prop where
  hN : X.N = N
  nd : N.Nodup
  hsc : X.env.scope = sc
  fnE : X.fn = fn
  calm : X.calm = true
  room : Room k X.A
  blt : ∀ x ∈ bltNames, X.mg x = none
  fns : ∀ f x, C.fname f = some x → ∃ a fd ps, X.mg x = some (.ref a) ∧ W.keepIn X.K (.ref a) = true ∧ FnOk X.prog X.w X.K X.mg X.base (L2.CX X.prog X.w) k a fd ps (sp f) ∧ Binds X.K fd ps []
  csts : ∀ x c, C.cst x = some c → ∃ u, X.mg x = some u ∧ RelV c.v u
  pass : ∀ σ, PassesAt (L2.CX X.prog X.w) X σ (E σ)
theorem vis_of {sc : Scope} {x : Str} (h : visB sc x = true) : Vis sc x := by
  unfold visB at h
  split at h
  · exact .inl (by assumption)
  · exact .inr (.inl (by assumption))
  · exact .inr (.inr (by assumption))
  · cases h
theorem loc_of {sc : Scope} {x : Str} (h : locB sc x = true) : Loc sc x := by
  unfold locB at h
  split at h
  · exact .inl (by assumption)
  · exact .inr (by assumption)
  · cases h
theorem isLoc_of {sc : Scope} {x : Str} (h : isLocB sc x = true) : sc.names.lookup x = some .local := by
  unfold isLocB at h
  split at h
  · assumption
  · cases h
theorem gl_of {X : Cx} {sc : Scope} {x : Str} (hs : X.env.scope = sc) (h : glB sc x = true) : Gl X x := by
  unfold glB at h
  unfold Gl Env.kindOf
  rw [hs]
  split at h
  · assumption
  · cases h
theorem dbg_of {x : Str} (h : (!dbg x) = true) : (x == ("__debug__" : Str)) = false ∧ (x == ("__classdict__" : Str)) = false := by
  unfold dbg at h
  simp only [Bool.not_eq_true', Bool.or_eq_false_iff] at h
  exact h
theorem star_of {e : Expr} (h : notStar e = true) (es : List Expr) (env : PySem.Env) : starEach (e :: es) env = (false, eval e env) :: starEach es env := by
  cases e <;> first | rfl | (simp [notStar] at h)
theorem set_of {e : Expr} (h : notSet e = true) (op : CmpOp) : behindInMarks op e = false := by
  cases e <;> first | rfl | (simp [notSet] at h)
theorem fold_of {e : Expr} (h : notSet e = true) (env : PySem.Env) (x : Value) : foldedSetIterable e env x = pure x := by
  cases e <;> first | rfl | (simp [notSet] at h)
theorem plain_of {e : Expr} (h : plainT e = true) (env : PySem.Env) (whole : Sem Value) : isTrue e env whole = (do let v ← whole; standAt e.pos; holding [v] (truthy v)) := by
  cases e <;> first | rfl | (simp [plainT] at h)
theorem slice_of {e : Expr} (h : notSlice e = true) : PlainIx e := by
  intro o i
  cases e <;> first | rfl | (simp [notSlice] at h)
theorem base_of {e : Expr} {m : Str} (h : plainO e = true) (env : PySem.Env) : attributeBase e m env (eval e env) = eval e env := by
  cases e <;> first | rfl | (simp [plainO] at h)
def starsB : List Expr → Bool
  | [] => true
  | e :: es => notStar e && starsB es
theorem stars_any : ∀ {es : List Expr}, starsB es = true → ∀ (pos : Pos) (env : PySem.Env), (backTo pos (starEach es env)).any (·.1) = false
  | [], _, pos, env => rfl
  | e :: es, h, pos, env => by
    simp only [starsB, Bool.and_eq_true] at h
    rw [star_of h.1]
    show (false || (backTo pos (starEach es env)).any (·.1)) = false
    rw [stars_any h.2 pos env]; rfl
theorem stars_all : ∀ {es : List Expr}, starsB es = true → ∀ (pos : Pos) (env : PySem.Env), (backTo pos (starEach es env)).all (fun x => !x.1) = true
  | [], _, pos, env => rfl
  | e :: es, h, pos, env => by
    simp only [starsB, Bool.and_eq_true] at h
    rw [star_of h.1]
    show (!false && (backTo pos (starEach es env)).all (fun x => !x.1)) = true
    rw [stars_all h.2 pos env]; rfl
theorem chkEs_stars {C : Ctx} {N : List Str} : ∀ {es : CEs} {sc : Scope} {fn : Str → Bool} {xs : List Expr}, chkEs C N es sc fn xs = true → starsB xs = true
  | .nil, sc, fn, xs, h => by
    cases xs with
    | nil => rfl
    | cons _ _ => simp [chkEs] at h
  | .cons e r, sc, fn, xs, h => by
    cases xs with
    | nil => simp [chkEs] at h
    | cons x s =>
      simp only [chkEs, Bool.and_eq_true] at h
      simp only [starsB, Bool.and_eq_true]
      exact ⟨h.1.1, chkEs_stars (es := r) h.2⟩
theorem chkEsD_stars {C : Ctx} {N : List Str} : ∀ {es : CEs} {sc : Scope} {fn : Str → Bool} {xs : List Expr}, chkEsD C N es sc fn xs = true → starsB xs = true ∧ xs ≠ []
  | .nil, sc, fn, xs, h => by
    unfold chkEsD at h
    split at h
    · exact ⟨rfl, by simp⟩
    · cases h
  | .cons e r, sc, fn, xs, h => by
    unfold chkEsD at h
    split at h
    · simp only [Bool.and_eq_true] at h
      simp only [starsB, Bool.and_eq_true]
      exact ⟨⟨h.1.1, (chkEsD_stars (es := r) h.2).1⟩, by simp⟩
    · cases h
theorem pe_callS0 {X : Cx} {CX : CXT} {k : Nat} {f : Addr} {fd : FuncData} {ps : List Str} {sp : Sp} {E : L2.St → XK} {x : Str} {p pos : Pos} (F : FnOk X.prog X.w X.K X.mg X.base CX k f fd ps sp) (hr : Room k X.A) (hg : Gl X x) (hm : X.mg x = some (.ref f)) (hk : PySem.W.keepIn X.K (.ref f) = true) (hb : Binds X.K fd ps []) (hx : ∀ σ, PassesAt CX X σ (E σ))
    (hdb : (x == ("__debug__" : Str)) = false) : PE X (.Call (.Name x p) [] [] pos) (tCallS sp E tNil) := by
  refine ⟨fun pins s σ H Q I h => ?_⟩
  refine wpAny_Call_Name_kw (ld_glob I hg hm ?_ hdb)
  exact PySem.W.callWith_K0 I.kIn hk (run_fnS (us := []) F hr hb (hx σ) I .nil h)
theorem chkC_pe {X : Cx} {c : Cst} {k : Const} {j : Nat} {pos : Pos} (h : chkC c k = true) : PE X (.Constant k j pos) (tC c.v) := by
  cases c <;> cases k <;> simp only [chkC, Bool.false_eq_true, decide_eq_true_eq, beq_iff_eq] at h
  · exact pe_non
  · subst h; exact pe_bl
  · subst h; exact pe_int
  · subst h; exact pe_str
theorem chkCst_eq {c d : Cst} (h : chkCst c d = true) : c = d := by
  cases c <;> cases d <;> simp only [chkCst, Bool.false_eq_true, decide_eq_true_eq, beq_iff_eq] at h
  · rfl
  · subst h; rfl
  · subst h; rfl
  · subst h; rfl
theorem bi_pe {X : Cx} {b : Bi} {e : Expr} {es : List Expr} {t : TA} {p pos : Pos} (hc : X.calm = true) (hu : X.A.units + 200 < cLine) (hg : Gl X b.x) (hm : X.mg b.x = none) (ha : PA X (e :: es) t) (he : starEach (e :: es) X.env = (false, eval e X.env) :: starEach es X.env) (hpl : (backTo pos (starEach es X.env)).any (·.1) = false) :
    PE X (.Call (.Name b.x p) (e :: es) [] pos) (tCB (rBi X.K b) t) := by
  have h := cr_bi (X := X) hc hu b
  have hb := b.boot
  cases b <;> first
    | exact pe_callB h hg hm hb ha (by decide) (by decide) he hpl
    | exact pe_callTy h hg hm hb ha (by decide) (by decide) he hpl
theorem kit_none (t : Ty) : kitB "NoneType" t.n = some (isiF t .non) := by cases t <;> decide +kernel
theorem kit_bool (b : Bool) (t : Ty) : kitB "bool" t.n = some (isiF t (.bl b)) := by cases b <;> cases t <;> decide +kernel
theorem kit_int (i : Int) (t : Ty) : kitB "int" t.n = some (isiF t (.int i)) := by
  have h : kitB "int" t.n = some (isiF t (.int 0)) := by cases t <;> decide +kernel
  rw [h]; cases t <;> rfl
theorem kit_str (x : Str) (t : Ty) : kitB "str" t.n = some (isiF t (.str x)) := by
  have h : kitB "str" t.n = some (isiF t (.str Str.empty)) := by cases t <;> decide +kernel
  rw [h]; cases t <;> rfl
theorem kit_tup (ds : List D) (t : Ty) : kitB "tuple" t.n = some (isiF t (.tup ds)) := by
  have h : kitB "tuple" t.n = some (isiF t (.tup [])) := by cases t <;> decide +kernel
  rw [h]; cases t <;> rfl
theorem kit_lst (ds : List D) (t : Ty) : kitB "list" t.n = some (isiF t (.lst ds)) := by
  have h : kitB "list" t.n = some (isiF t (.lst [])) := by cases t <;> decide +kernel
  rw [h]; cases t <;> rfl
theorem kit_scr (ds : List Int) (t : Ty) : kitB "list" t.n = some (isiF t (.scr ds)) := by
  have h : kitB "list" t.n = some (isiF t (.scr [])) := by cases t <;> decide +kernel
  rw [h]; cases t <;> rfl
theorem TyXof {K : W.Frag} {P H : Hp} {d : D} {v : V} (e : Ex P H) (h : RepB K P H d v) : ∃ n : String, TyX K H v (.type n) ∧ ∀ t : Ty, kitB n t.n = some (isiF t d) := by
  cases d with
  | non => obtain rfl := h.non; exact ⟨"NoneType", .base .non, kit_none⟩
  | bl b => obtain rfl := h.bl; exact ⟨"bool", .base (.bl b), kit_bool b⟩
  | int i => obtain rfl := h.int; exact ⟨"int", .base (.int i), kit_int i⟩
  | str x => obtain rfl := h.str; exact ⟨"str", .base (.str x), kit_str x⟩
  | tup ds => obtain ⟨a, vs, rfl, g, r⟩ := h.tup; exact ⟨"tuple", .base (.tup (e _ _ g)), kit_tup ds⟩
  | lst ds => obtain ⟨a, vs, rfl, g, r⟩ := h.lst e; exact ⟨"list", .base (.lst g), kit_lst ds⟩
  | scr ns =>
    obtain ⟨a, rfl, g⟩ := h.scr e
    refine ⟨"list", ?_, kit_scr ns⟩
    rcases g with (g | ⟨o, g⟩) | ⟨o, its, n, g, gc, _⟩
    · exact .base (.lst g)
    · exact .base (.frz g)
    · exact .kList g gc
theorem cr_isi {X : Cx} (t : Ty) : CallR X (.builtin "isinstance") (rIsD X.K t) := by
  intro pins s σ H xs us Q I rv h
  obtain ⟨x, P, d, rfl, e, hr, q⟩ := h
  obtain ⟨n, h1, h2⟩ := TyXof e hr
  exact call_isi pins s σ H _ us Q I rv ⟨x, .ty t.n, .type n, .type t.n, isiF t d, rfl, .ty _, h1, kit_ty (h2 t), q⟩
def Ty.x : Ty → Str
  | .int => "int"
  | .bool => "bool"
  | .tuple => "tuple"
  | .list => "list"
  | .str => "str"
theorem Ty.boot (t : Ty) : bootBuiltins (t.n : Str) = some (.type t.n) := by cases t <;> decide +kernel
theorem Ty.nn (t : Ty) : (t.n : Str) ≠ "__name__" ∧ ((t.n : Str) == ("__debug__" : Str)) = false := by cases t <;> decide +kernel
theorem Ty.mem (t : Ty) : (t.n : Str) ∈ bltNames := by cases t <;> decide +kernel
theorem Bi.mem (b : Bi) : b.x ∈ bltNames := by cases b <;> decide +kernel
theorem pgs_names {X : Cx} {N : List Str} {sc : Scope} {fn : Str → Bool} (hN : X.N = N) (nd : N.Nodup) (hsc : X.env.scope = sc) (hf : X.fn = fn) : ∀ {is : List Nat} {es : List Expr}, chkNames N sc fn is es = true → PGs X es (gNames is) ∧ (assignEach es X.env).length = is.length ∧ (assignEach es X.env).findIdx? (·.1) = none
  | [], es, h => by
    cases es with
    | nil => exact ⟨pgs_nil, rfl, rfl⟩
    | cons _ _ => simp [chkNames] at h
  | i :: is, es, h => by
    cases es with
    | nil => simp [chkNames] at h
    | cons e es =>
      cases e <;> simp only [chkNames, Bool.false_eq_true, Bool.and_eq_true, decide_eq_true_eq] at h
      rename_i x pos
      obtain ⟨⟨⟨h1, h2⟩, h3⟩, h4⟩ := h
      obtain ⟨k1, k2, k3⟩ := pgs_names hN nd hsc hf h4
      refine ⟨pgs_cons (pg_name (hN ▸ nd) (by rw [hN]; exact h1) (by rw [hsc]; exact loc_of h2) ?_) k1 rfl, ?_, ?_⟩
      · rcases Bool.or_eq_true _ _ ▸ h3 with z | z
        · exact .inl (by rw [hf]; exact z)
        · exact .inr (by rw [hsc]; exact isLoc_of z)
      · show (assignEach es X.env).length + 1 = is.length + 1
        rw [k2]
      · show List.findIdx? _ ((false, _) :: assignEach es X.env) = none
        rw [List.findIdx?_cons]
        simp [k3]
theorem pg_all {X : Cx} {N : List Str} {sc : Scope} {fn : Str → Bool} (hc : X.calm = true) (hN : X.N = N) (nd : N.Nodup) (hsc : X.env.scope = sc) (hf : X.fn = fn) {t : Tg} {e : Expr} (h : chkG N sc fn t e = true) : PG X e (tOfG X.K t) := by
  cases t with
  | nm i =>
    cases e <;> simp only [chkG, Bool.false_eq_true, Bool.and_eq_true, decide_eq_true_eq] at h
    obtain ⟨⟨h1, h2⟩, h3⟩ := h
    refine pg_name (hN ▸ nd) (by rw [hN]; exact h1) (by rw [hsc]; exact loc_of h2) ?_
    rcases Bool.or_eq_true _ _ ▸ h3 with z | z
    · exact .inl (by rw [hf]; exact z)
    · exact .inr (by rw [hsc]; exact isLoc_of z)
  | tp is =>
    cases e <;> simp only [chkG, Bool.false_eq_true] at h
    obtain ⟨k1, k2, k3⟩ := pgs_names hN nd hsc hf h
    exact ⟨fun pins s σ H v u Q I r hw => hw.elim (fun z => (pg_tup hc k1 k2 k3).run pins s σ H v u Q I r z) fun z => (pg_unl hc k1 k2 k3).run pins s σ H v u Q I r z⟩
end Cl
set_option Elab.async false
set_option linter.all false
set_option maxRecDepth 100000
set_option maxHeartbeats 4000000
namespace Cl
open PySem PySem.Spec PyProof.Rows L2 RZ
/-! ### sorted(set(..)) -/
theorem mem_ded {α : Type} [DecidableEq α] {x : α} : ∀ {l : List α}, x ∈ ded l ↔ x ∈ l
  | [] => Iff.rfl
  | y :: r => by
    rw [ded]
    split
    · rename_i h
      rw [mem_ded (l := r), List.mem_cons]
      constructor
      · exact .inr
      · rintro (rfl | q)
        · exact h
        · exact q
    · rw [List.mem_cons, List.mem_cons, mem_ded (l := r)]
theorem ded_nodup {α : Type} [DecidableEq α] : ∀ l : List α, (ded l).Nodup
  | [] => List.nodup_nil
  | y :: r => by
    rw [ded]
    split
    · exact ded_nodup r
    · rename_i h
      exact List.nodup_cons.mpr ⟨fun q => h (mem_ded.mp q), ded_nodup r⟩
theorem tups?_some : ∀ {ds : List D} {ls : List (List Int)}, tups? ds = some ls → ds = ls.map fun t => .tup (t.map D.int)
  | [], _, h => by simp [tups?] at h; subst h; rfl
  | .tup a :: r, _, h => by
    simp only [tups?, Option.bind_eq_some_iff, Option.map_eq_some_iff] at h
    obtain ⟨x, hx, m, hm, rfl⟩ := h
    rw [tups?_some hm, ints?_some hx]
    rfl
  | .non :: _, _, h | .bl _ :: _, _, h | .str _ :: _, _, h | .int _ :: _, _, h | .lst _ :: _, _, h | .scr _ :: _, _, h => by simp [tups?] at h
theorem code_le {B : Int} : ∀ {x y : List Int}, x.length = y.length → TS.Bd B x → TS.Bd B y → TS.code B x ≤ TS.code B y → HT.lexLt y x = false
  | [], [], _, _, _, _ => rfl
  | [], _ :: _, h, _, _, _ => by simp at h
  | _ :: _, [], h, _, _, _ => by simp at h
  | a :: x, b :: y, h, hx, hy, hc => by
    have hl : x.length = y.length := by simpa using h
    rw [HT.lexLt]
    by_cases e : b = a
    · subst e
      rw [if_pos rfl]
      refine code_le hl hx.tail hy.tail ?_
      rcases Int.lt_or_le (TS.code B y) (TS.code B x) with q | q
      · exact absurd ((TS.code_same (d := b) hl.symm).mpr q) (by omega)
      · exact q
    · rw [if_neg e]
      refine decide_eq_false fun q => ?_
      have := TS.code_lt hl.symm hy.tail hx.tail q
      omega
theorem lex_total (a b : List Int) : ((!HT.lexLt b a) || (!HT.lexLt a b)) = true := by
  induction a generalizing b with
  | nil => cases b <;> simp [HT.lexLt]
  | cons x a ih =>
    cases b with
    | nil => simp [HT.lexLt]
    | cons y b =>
      have := ih b
      simp only [HT.lexLt]
      by_cases h : x = y
      · subst h; simpa using this
      · rw [if_neg (Ne.symm h), if_neg h]
        simp only [Bool.or_eq_true, Bool.not_eq_true', decide_eq_false_iff_not]
        omega
theorem lex_anti : ∀ {a b : List Int}, HT.lexLt a b = false → HT.lexLt b a = false → a = b
  | [], [], _, _ => rfl
  | [], _ :: _, h, _ => by simp [HT.lexLt] at h
  | _ :: _, [], _, h => by simp [HT.lexLt] at h
  | x :: a, y :: b, h1, h2 => by
    rw [HT.lexLt] at h1 h2
    by_cases e : x = y
    · subst e
      rw [if_pos rfl] at h1 h2
      rw [lex_anti h1 h2]
    · rw [if_neg e] at h1
      rw [if_neg (Ne.symm e)] at h2
      simp only [decide_eq_false_iff_not] at h1 h2
      omega
theorem lex_trans : ∀ {a b c : List Int}, HT.lexLt b a = false → HT.lexLt c b = false → HT.lexLt c a = false
  | [], _, [], _, _ => rfl
  | [], _, _ :: _, _, _ => rfl
  | x :: a, [], c, h, _ => by simp [HT.lexLt] at h
  | x :: a, y :: b, [], _, h => by simp [HT.lexLt] at h
  | x :: a, y :: b, z :: c, h1, h2 => by
    rw [HT.lexLt] at h1 h2 ⊢
    by_cases e : y = x
    · subst e
      rw [if_pos rfl] at h1
      by_cases e2 : z = y
      · subst e2
        rw [if_pos rfl] at h2 ⊢
        exact lex_trans h1 h2
      · rw [if_neg e2] at h2 ⊢
        exact h2
    · rw [if_neg e] at h1
      by_cases e2 : z = y
      · subst e2
        rw [if_neg e]
        exact h1
      · rw [if_neg e2] at h2
        simp only [decide_eq_false_iff_not] at h1 h2
        rw [if_neg (by omega)]
        exact decide_eq_false (by omega)
/-- two lists in order, without doubles, of the same things -/
theorem same_sorted {α : Type} (le : α → α → Bool) (anti : ∀ a b, le a b = true → le b a = true → a = b) : ∀ {l m : List α}, l.Pairwise (fun a b => le a b = true) → m.Pairwise (fun a b => le a b = true) → l.Nodup → m.Nodup → (∀ x, x ∈ l ↔ x ∈ m) → l = m
  | [], [], _, _, _, _, _ => rfl
  | [], y :: m, _, _, _, _, h => by have := (h y).mpr List.mem_cons_self; cases this
  | x :: l, [], _, _, _, _, h => by have := (h x).mp List.mem_cons_self; cases this
  | x :: l, y :: m, h1, h2, n1, n2, h => by
    obtain ⟨a1, a2⟩ := List.pairwise_cons.mp h1
    obtain ⟨b1, b2⟩ := List.pairwise_cons.mp h2
    obtain ⟨c1, c2⟩ := List.nodup_cons.mp n1
    obtain ⟨d1, d2⟩ := List.nodup_cons.mp n2
    have e : x = y := by
      rcases List.mem_cons.mp ((h x).mp List.mem_cons_self) with e | e
      · exact e
      · rcases List.mem_cons.mp ((h y).mpr List.mem_cons_self) with e' | e'
        · exact e'.symm
        · exact anti _ _ (a1 y e') (b1 x e)
    subst e
    congr 1
    refine same_sorted le anti a2 b2 c2 d2 fun z => ?_
    constructor
    · intro hz
      rcases List.mem_cons.mp ((h z).mp (List.mem_cons_of_mem _ hz)) with e | e
      · exact absurd (e ▸ hz) c1
      · exact e
    · intro hz
      rcases List.mem_cons.mp ((h z).mpr (List.mem_cons_of_mem _ hz)) with e | e
      · exact absurd (e ▸ hz) d1
      · exact e
/-! ### set(list of ints) -/
abbrev nset (w : World) : Obj := { cls := .type "set", dict := none, data := .set #[] 0 (.fresh 0 0 (!w.params.followText "set-order")) }
section
variable {Pg : Program} {w : World} {A : Around} {E : Value → Shared → Prop} {s : Shared}
set_option maxHeartbeats 6400000 in
theorem set_of_ints {l : Addr} {its : Array Value} (ns : List Int) {Q : Value → Shared → Prop} (hh : A.handled = none) (hl : s.heap.IsList l its) (hit : IntsAre its.toList ns) (hb : ns.length + 1 < scanBound)
    (fin : ∀ (h' : Heap) (tk c : Nat), SetR w h' s.heap.objs.size (fun j => decide (j ∈ ns)) c → c ≤ ns.length → (∀ b o, s.heap.get? b = some o → h'.get? b = some o) → Q (.ref s.heap.objs.size) { s with heap := h', toks := tk }) :
    wpAny (model Pg w) A (call (.type "set") [.ref l]) Q E s := by
  have size : its.size = ns.length := by
    have := IntsAre.length hit
    rwa [Array.length_toList] at this
  obtain ⟨cc, tl, mro⟩ := F.called_set.mro
  have made := F.called_set.made
  have sub := F.called_set.sub
  refine wpAny_call (codeAny_of_tree ?_)
  show wpAny _ _ (callAny (.type "set") _) _ _ _
  refine wpAny_pure ⟨Code.quiet_builtin _ (by decide +kernel), codeAny_builtin F.entry_type_call ?_⟩
  rw [Around.under_plain (weight_type_call_type "set" [.ref l] []) rfl]
  have nt := F.called_set.notType
  have cc2 := F.called_set.canCreate
  have tc := F.typeCall_set_1 (.ref l)
  repeat (any_goals (first | assumption | wp_step))
  refine codeAny_mono (code_set_led1 (.ref l) (E := E) (Q₁ := fun ob s₁ => ob = .ref s.heap.objs.size ∧ s₁ = { s with heap := s.heap.push (nset w) }) ⟨rfl, rfl⟩) fun r s₁ hr => ?_
  cases r with
  | error e => exact hr
  | ok fl =>
    cases fl with
    | ret ob =>
      obtain ⟨rfl, rfl⟩ := hr
      have new : (s.heap.push (nset w)).get? s.heap.objs.size = some (nset w) := Heap.get?_push_size _ rfl
      have ty : Shared.TypeIs { s with heap := s.heap.push (nset w) } (.ref s.heap.objs.size) "set" := ⟨_, new, rfl⟩
      have li := F.called_set.init.lookup
      have bi := F.called_set.init.bind (.ref s.heap.objs.size)
      repeat (any_goals (first | assumption | wp_step))
      refine codeAny_mono (codeAny_call_builtin (R := wants (fun r s₂ => r = .none ∧ ∃ h' tk c, s₂ = { s with heap := h', toks := tk } ∧ SetR w h' s.heap.objs.size (fun j => decide (j ∈ ns)) c ∧ c ≤ ns.length ∧
          ∀ b o, s.heap.get? b = some o → h'.get? b = some o) E) F.called_set.init.plain F.entry_set_init (check_set_init_1 ty ?_)) fun r₂ s₂ hr₂ => ?_
      · obtain ⟨ol, hol, hcl, nl, hdl⟩ := hl
        obtain ⟨ocl, odi, oda, osl⟩ := ol
        simp only at hcl hdl
        subst hcl
        subst hdl
        have hol' : (s.heap.push (nset w)).get? l = some { cls := .type "list", dict := odi, data := .seq its nl, slots := osl } := Heap.get?_push_of_some _ hol
        have ss1 := F.sub_list_set
        have ss2 := F.sub_list_frozenset
        have ne1 : (Value.type "list" == Value.type "dict") = false := by decide
        have hl1 : (s.heap.push (nset w)).IsList l its := ⟨_, hol', rfl, nl, rfl⟩
        unfold Builtin.«set.__init__» noKeywords Builtin.Frozenset.updateFrom
        generalize hPI : pyIter = PI
        wp_walk
        subst hPI
        refine wpAny_pyIter_list hl1 ?_
        refine wpAny_bind (wpAny_runValue ?_)
        have below : l < s.heap.objs.size := Heap.lt_size hol
        have calm3 : A.in1.in1.in1.handled = none := by simp [hh]
        have ne2 : l ≠ (s.heap.push (nset w)).objs.size := by
          rw [Heap.size_push]
          exact Nat.ne_of_lt (Nat.lt_succ_of_lt below)
        have apart : s.heap.objs.size ∉ [(s.heap.push (nset w)).objs.size, l] := by
          rw [Heap.size_push]
          simp only [List.mem_cons, List.mem_singleton, List.not_mem_nil, or_false, not_or]
          exact ⟨Nat.ne_of_lt (Nat.lt_succ_self _), Nat.ne_of_gt below⟩
        have each : ∀ (i : Nat) (v : Value), its[i]? = some v → ∃ k t, ns[i]? = some k ∧ v = .int k t := fun i v hv => by
          have hi : i < ns.length := by rw [← size]; exact (Array.getElem?_eq_some_iff.mp hv).1
          obtain ⟨t, e⟩ := IntsAre.int_at hit i v (by rw [Array.getElem?_toList]; exact hv)
          refine ⟨ns[i], t, List.getElem?_eq_getElem hi, ?_⟩
          rw [e, List.getD_eq_getElem?_getD, List.getElem?_eq_getElem hi] <;> rfl
        refine set_update_ints ((Walks.list calm3 _ l ne2 its).toS) s.heap.objs.size apart ns size hb each (its.size - 0) 0 _ (by omega) (Nat.zero_le _) ⟨⟨_, Heap.get?_push_size _ rfl, rfl, rfl⟩, (hl1.push _)⟩ ?start ?done
        case start =>
          have at0 : ((s.heap.push (nset w)).push { cls := .type "list_iterator", data := .fields #[.ref l, .int 0 0] }).get? s.heap.objs.size = some (nset w) := Heap.get?_push_of_some _ new
          exact ⟨0, Nat.le_refl 0, setR_new_at at0⟩
        case done =>
          intro s' c' mvd le' fin'
          obtain ⟨h', g2, d', tk', os'⟩ := s'
          have eg : g2 = s.gens := mvd.gens
          have ed : d' = s.drawn := mvd.drawn
          have eo : os' = s.os := mvd.os
          subst eg
          subst ed
          subst eo
          show wpAny _ _ _ _ _ _
          refine wpAny_pure ?_
          show wpAny _ _ (ret Value.none) _ _ _
          rw [size] at le'
          refine wpAny_pure ⟨rfl, h', tk', c', rfl, fin', le', fun b o e => ?_⟩
          have lt0 : b < s.heap.objs.size := Heap.lt_size e
          have lt1 : b ≠ s.heap.objs.size := Nat.ne_of_lt lt0
          have lt2 : b ≠ (s.heap.push (nset w)).objs.size := by
            rw [Heap.size_push]
            exact Nat.ne_of_lt (Nat.lt_succ_of_lt lt0)
          refine mvd.heap b o ?_ (Heap.get?_push_of_some _ (Heap.get?_push_of_some _ e))
          simp only [List.mem_cons, List.mem_singleton, List.not_mem_nil, or_false, not_or]
          exact ⟨lt1, lt2⟩
      · cases r₂ with
        | error e => exact hr₂
        | ok fl₂ =>
          cases fl₂ with
          | ret r =>
            obtain ⟨rfl, h', tk, c', rfl, z1, z2, z3⟩ := hr₂
            repeat (any_goals (first | assumption | wp_step))
            exact fin _ _ _ z1 z2 z3
          | _ => exact hr₂.elim
    | _ => exact hr.elim
end
theorem ints_vals : ∀ {ns : List Int} {us : List Value}, Vals (ns.map V.int) us → IntsAre us ns
  | [], _, .nil => .nil
  | n :: ns, _, .cons r t => by
    obtain ⟨k, rfl⟩ := r
    exact .cons n k (ints_vals t)
theorem reps_tups {K : W.Frag} {P : Hp} : ∀ {ls : List (List Int)} {vs : List V}, Reps K P (ls.map fun t => D.tup (t.map D.int)) vs → ∃ ks : List (Addr × List Int), ks.map (·.2) = ls ∧ vs = ks.map (fun p => V.ref p.1) ∧ ∀ p ∈ ks, P p.1 = some (.tup (p.2.map V.int))
  | [], _, h => by cases h; exact ⟨[], rfl, rfl, fun p hp => by cases hp⟩
  | t :: ls, _, h => by
    cases h with
    | cons h1 h2 =>
      obtain ⟨ks, e1, e2, e3⟩ := reps_tups h2
      cases h1 with
      | @tup a us _ q1 q2 =>
        have := Reps.intsV q2
        subst this
        refine ⟨(a, t) :: ks, by rw [List.map_cons, e1], by rw [List.map_cons, e2], fun p hp => ?_⟩
        rcases List.mem_cons.mp hp with rfl | hp
        · exact q1
        · exact e3 p hp
theorem tups_reps {K : W.Frag} {P : Hp} : ∀ {ks : List (Addr × List Int)}, (∀ p ∈ ks, P p.1 = some (.tup (p.2.map V.int))) → Reps K P ((ks.map (·.2)).map fun t => D.tup (t.map D.int)) (ks.map fun p => V.ref p.1)
  | [], _ => .nil
  | p :: ks, h => .cons (.tup (h p List.mem_cons_self) (reps_ints _)) (tups_reps fun q hq => h q (List.mem_cons_of_mem _ hq))
theorem pe_sset {X : Cx} {a : Expr} {ta : TE} {p p2 q pos : Pos} (hc : X.calm = true) (hu : X.A.units + 200 < cLine) (hg : Gl X "sorted") (hm : X.mg "sorted" = none) (hg2 : Gl X "set") (hm2 : X.mg "set" = none) (ha : PE X a ta)
    (na : starEach [a] X.env = (false, eval a X.env) :: starEach [] X.env) : PE X (.Call (.Name "sorted" p) [.Call (.Name "set" p2) [a] [] q] [] pos) (tThen ta (rSs X.K)) := by
  refine ⟨fun pins s σ H Q I h => ?_⟩
  refine Call_ (ld_blt I hg hm boot_sorted ?_)
  refine callWith_builtin1 (args_cons ?_ rfl) rfl rfl
  refine Call_ (ld_blt I hg2 hm2 boot_set ?_)
  refine callWith_type1 (args_cons (thn (ha.run pins s σ H _ I h) fun v s1 ⟨x, H1, I1, r1, q1⟩ => args_nil ?_) na) na rfl
  obtain ⟨P, d0, d, e, r, hd, k⟩ := q1
  cases d0 with
  | lst ds =>
    obtain ⟨l, vs, rfl, hl, hr⟩ := r.lst e
    cases r1
    simp only [ssetF] at hd
    cases ht : tups? ds with
    | some ls =>
      rw [ht] at hd
      simp only at hd
      split at hd
      · rename_i hok
        cases hd
        rw [tups?_some ht] at hr
        obtain ⟨ks, e1, e2, e3⟩ := reps_tups hr
        subst e2
        simp only [okTs, Bool.and_eq_true, Bool.or_eq_true, decide_eq_true_eq, List.all_eq_true] at hok
        obtain ⟨⟨o1, o2⟩, o3⟩ := hok
        have hkl : ks.length < 64 := by rw [← e1, List.length_map] at o1; exact o1
        refine thn (cr_setOfT (X := X) hc (by omega) pins s1 σ H1 [V.ref l] [Value.ref l] (fun y H2 => ∃ b L, y = V.ref b ∧ H1 b = none ∧ H2 = upd H1 b (SetTO X.prog X.w b L) ∧ (∀ p ∈ L, p ∈ ks) ∧ ∀ p ∈ ks, p.2 ∈ L.map (·.2)) I1 (.cons rfl .nil)
          ⟨l, ks, rfl, SqL.of hl, fun p hp => SqT.of (e _ _ (e3 p hp)), hkl, fun b L hb m1 m2 => ⟨b, L, rfl, hb, rfl, m1, m2⟩⟩) fun u s2 ⟨y, H2, I2, r2, b, L, ey, hb, eH, m1, m2⟩ => ?_
        subst ey eH
        cases r2
        have x1 : Ext P H1 P (upd H1 b (SetTO X.prog X.w b L)) := Ext.newO e hb
        refine args_nil ?_
        have o2' : ls = [] ∨ 0 < (ls.headD []).length := by
          rcases o2 with q | q
          · exact .inl (List.isEmpty_iff.mp q)
          · exact .inr q
        have hd1 : ∃ n, 1 ≤ n ∧ ∀ p ∈ L, p.2.length = n ∧ TS.Bd 64 p.2 := by
          have key : ∀ p ∈ L, p.2.length = (ls.headD []).length ∧ TS.Bd 64 p.2 := fun p hp => by
            have hm : p.2 ∈ ls := by rw [← e1]; exact List.mem_map.mpr ⟨p, m1 p hp, rfl⟩
            obtain ⟨z1, z2⟩ := o3 _ hm
            exact ⟨z1, fun m hm => z2 m hm⟩
          rcases o2' with q | q
          · refine ⟨1, Nat.le_refl _, fun p hp => ?_⟩
            have hm : p.2 ∈ ls := by rw [← e1]; exact List.mem_map.mpr ⟨p, m1 p hp, rfl⟩
            rw [q] at hm
            cases hm
          · exact ⟨_, q, key⟩
        obtain ⟨n, hn1, hn2⟩ := hd1
        refine cr_sortedT (X := X) hc pins s2 σ _ [V.ref b] [Value.ref b] Q I2 (.cons rfl .nil) ⟨b, L, n, 64, rfl, upd_same, fun p hp => SqT.of (x1.h _ _ (e _ _ (e3 p (m1 p hp)))), hn1, hn2, fun L' p pm nd fw pw hp => ?_⟩
        have m1' : ∀ p ∈ L', p ∈ ks := fun p hp => m1 p (pm.mem_iff.mp hp)
        have ee : L'.map (·.2) = isort (fun x y => !HT.lexLt y x) (ded ls) := by
          refine same_sorted (fun x y => !HT.lexLt y x) (fun a b h1 h2 => lex_anti (by simpa using h2) (by simpa using h1)) ?_ (isort_sorted (fun a b c h1 h2 => by
            simp only [Bool.not_eq_true'] at *
            exact lex_trans h1 h2) lex_total) nd ?_ fun x => ?_
          · rw [List.pairwise_map]
            refine pw.imp_of_mem fun {a b} ha hb hc => ?_
            obtain ⟨a1, a2⟩ := hn2 a (pm.mem_iff.mp ha)
            obtain ⟨b1, b2⟩ := hn2 b (pm.mem_iff.mp hb)
            rw [code_le (a1.trans b1.symm) a2 b2 hc]
            rfl
          · exact isort_perm.nodup_iff.mpr (ded_nodup ls)
          · rw [isort_mem, mem_ded]
            constructor
            · intro hx
              obtain ⟨p, hp, rfl⟩ := List.mem_map.mp hx
              rw [← e1]
              exact List.mem_map.mpr ⟨p, m1' p hp, rfl⟩
            · intro hx
              rw [← e1] at hx
              obtain ⟨p, hp, rfl⟩ := List.mem_map.mp hx
              exact (pm.map (·.2)).mem_iff.mpr (m2 p hp)
        rw [← ee] at k
        obtain ⟨P', x2, rr⟩ := Res.keep (K := X.K) x1.ph (Res.newL hp (tups_reps fun q hq => e3 q (m1' q hq)))
        exact k _ P' _ (x1.trans x2) rr
      · cases hd
    | none =>
      rw [ht] at hd
      simp only at hd
      cases hi : ints? ds with
      | none => rw [hi] at hd; cases hd
      | some ns =>
        rw [hi] at hd
        simp only at hd
        split at hd
        · rename_i hlen
          cases hd
          rw [ints?_some hi] at hr
          have := Reps.intsV hr
          subst this
          obtain ⟨its, rv, pl, hz⟩ := I1.list (SqL.of hl)
          refine set_of_ints (w := X.w) ns (I1.ok.hd hc) pl.isList (by simpa using ints_vals rv) (by unfold scanBound; omega) fun h' tk c R hcl hk => ?_
          refine args_nil ?_
          have hn : H1 s1.heap.objs.size = none := I1.hok.fresh (Nat.le_refl _)
          have I2 : Inv X pins σ (upd H1 s1.heap.objs.size (SetO X.w s1.heap.objs.size (fun j => decide (j ∈ ns)) c)) { s1 with heap := h', toks := tk } := I1.laid (t' := tk) hk (Nat.le_refl _) (setO_new R)
          have x1 : Ext P H1 P (upd H1 s1.heap.objs.size (SetO X.w s1.heap.objs.size (fun j => decide (j ∈ ns)) c)) := Ext.newO e hn
          refine cr_sortedSet (X := X) hc pins _ σ _ [V.ref s1.heap.objs.size] [Value.ref s1.heap.objs.size] Q I2 (.cons rfl .nil) ⟨s1.heap.objs.size, _, c, rfl, upd_same, by omega, fun ms p pw mem ln hp => ?_⟩
          have ee : ms = isort (fun x y : Int => decide (x ≤ y)) (ded ns) := by
            refine same_sorted (fun x y : Int => decide (x ≤ y)) (fun a b h1 h2 => by simp at h1 h2; omega) (pw.imp fun h => by simp; omega) (isort_sorted (fun a b c h1 h2 => by simp at *; omega) fun a b => by simp; omega) (pw.imp fun h => by omega) (isort_perm.nodup_iff.mpr (ded_nodup ns)) fun x => ?_
            rw [isort_mem, mem_ded, mem]
            simp
          rw [← ee] at k
          obtain ⟨P', x2, rr⟩ := Res.keep (K := X.K) x1.ph (Res.newL hp (reps_ints ms))
          exact k _ P' _ (x1.trans x2) rr
        · cases hd
  | _ => cases hd
theorem setR_len {w : World} {h : Heap} {a : Addr} {ns : List Int} {c : Nat} (R : SetR w h a (fun j => decide (j ∈ ns)) c) : c = (ded ns).length := by
  obtain ⟨o, es, ep, t, _, _, _, _, nd, mem, _, _, hn, _⟩ := R
  have pm : (es.toList.map keyOf).Perm (ded ns) := (List.perm_ext_iff_of_nodup nd (ded_nodup ns)).mpr fun x => by
    rw [← mem x, mem_ded]
    simp
  have := pm.length_eq
  rw [List.length_map, Array.length_toList] at this
  omega
theorem pe_lset {X : Cx} {a : Expr} {ta : TE} {p p2 q pos : Pos} (hc : X.calm = true) (hu : X.A.units + 200 < cLine) (hg : Gl X "len") (hm : X.mg "len" = none) (hg2 : Gl X "set") (hm2 : X.mg "set" = none) (ha : PE X a ta)
    (na : starEach [a] X.env = (false, eval a X.env) :: starEach [] X.env) : PE X (.Call (.Name "len" p) [.Call (.Name "set" p2) [a] [] q] [] pos) (tThen ta (rLs X.K)) := by
  refine ⟨fun pins s σ H Q I h => ?_⟩
  refine Call_ (ld_blt I hg hm boot_len ?_)
  refine callWith_builtin1 (args_cons ?_ rfl) rfl rfl
  refine Call_ (ld_blt I hg2 hm2 boot_set ?_)
  refine callWith_type1 (args_cons (thn (ha.run pins s σ H _ I h) fun v s1 ⟨x, H1, I1, r1, q1⟩ => args_nil ?_) na) na rfl
  obtain ⟨P, d0, d, e, r, hd, k⟩ := q1
  have fin : ∀ (ns : List Int) (h' : Heap) (tk c : Nat), ns.length < 1000 → SetR X.w h' s1.heap.objs.size (fun j => decide (j ∈ ns)) c → c ≤ ns.length → (∀ b o, s1.heap.get? b = some o → h'.get? b = some o) → d = .int ((ded ns).length : Nat) →
      wpAny (model X.prog X.w) X.A (call (.builtin "len") [.ref s1.heap.objs.size]) (EP X pins σ Q) X.xe { s1 with heap := h', toks := tk } := fun ns h' tk c hl R hcl hk hdd => by
    have hlen := setR_len R
    obtain ⟨o, es, ep, t, ho, hex, hdt, _, _, _, _, hf, hn, _⟩ := R
    have I2 : Inv X pins σ H1 { s1 with heap := h', toks := tk } := I1.kept hk
    have hsz : es.size = (ded ns).length := by omega
    subst hdd
    exact call_len_set ho hex hdt hf (by rw [hn]; omega) ⟨.int ((ded ns).length : Nat), H1, I2.tok _, ⟨_, by rw [hsz]⟩, k _ P H1 (.refl e) (.int _)⟩
  cases d0 with
  | lst ds =>
    obtain ⟨l, vs, rfl, hl, hr⟩ := r.lst e
    cases r1
    simp only [lsetF, Option.bind_eq_some_iff] at hd
    obtain ⟨ns, hi, hd⟩ := hd
    split at hd
    · rename_i hlen
      cases hd
      rw [ints?_some hi] at hr
      have := Reps.intsV hr
      subst this
      obtain ⟨its, rv, pl, hz⟩ := I1.list (SqL.of hl)
      exact set_of_ints (w := X.w) ns (I1.ok.hd hc) pl.isList (by simpa using ints_vals rv) (by unfold scanBound; omega) fun h' tk c R hcl hk => args_nil (fin ns h' tk c hlen R hcl hk rfl)
    · cases hd
  | tup ds =>
    obtain ⟨l, vs, rfl, hl, hr⟩ := r.tup
    cases r1
    simp only [lsetF, Option.bind_eq_some_iff] at hd
    obtain ⟨ns, hi, hd⟩ := hd
    split at hd
    · rename_i hlen
      cases hd
      rw [ints?_some hi] at hr
      have := Reps.intsV hr
      subst this
      obtain ⟨its, rv, pl, hz⟩ := I1.tuple (SqT.of (e _ _ hl))
      exact call_set_tupI ns (I1.ok.hd hc) pl (by simpa using ints_vals rv) (by unfold scanBound; omega) fun h' tk c R hcl hk => args_nil (fin ns h' tk c hlen R hcl hk rfl)
    · cases hd
  | _ => cases hd
end Cl
set_option Elab.async false
set_option linter.all false
set_option maxRecDepth 100000
set_option maxHeartbeats 4000000
namespace Cl
open PySem PySem.Spec PyProof.Rows L2 RZ
section
variable {C : Ctx} {sp : Nat → Sp} {k : Nat} {N : List Str}
theorem Good.units {sc : Scope} {fn : Str → Bool} {E : EX} {X : Cx} (g : Good C sp k N sc fn E X) : X.A.units + 200 < cLine := by have := g.room.un; omega
theorem Good.nd' {sc : Scope} {fn : Str → Bool} {E : EX} {X : Cx} (g : Good C sp k N sc fn E X) : X.N.Nodup := g.hN ▸ g.nd
/-- the context of a comprehension's block -/
theorem Good.blk {sc : Scope} {fn : Str → Bool} {E : EX} {X : Cx} (g : Good C sp k N sc fn E X) (scope : Scope) (s : Shared) (H : Hp) (C' : Addr) (cl : List (Str × Addr)) (fp : List Addr) :
    Good C sp k N (relS scope sc) (fun x => scope.names.lookup x == some .cell) EX0 (X.blk s H scope (compEnvC scope cl C' X.env) fp) where
  hN := g.hN
  nd := g.nd
  hsc := by show relS scope X.env.scope = _; rw [g.hsc]
  fnE := rfl
  calm := g.calm
  room := g.room
  blt := g.blt
  fns := g.fns
  csts := g.csts
  pass := fun σ pins H s e s' I h => by
    obtain ⟨_, _, _, _, _, _, _, _, _, _, _, _, z⟩ := h
    exact z.elim
theorem ao_of {ce : CE} {sc : Scope} {fn : Str → Bool} {op : BoolOp} {es : List Expr} {pos : Pos} (h : chkE C N ce sc fn (.BoolOp op es pos) = true) : ce.isAO = true := by
  cases ce <;> first | rfl | (simp [chkE] at h; done) | skip
  all_goals (unfold chkE at h; split at h <;> first | rfl | contradiction | cases h)
theorem pa_fs {sc : Scope} {fn : Str → Bool} {E : EX} {X : Cx} (g : Good C sp k N sc fn E X) : ∀ {fs : List Nat} {xs : List Expr}, chkFs C sc fs xs = true → ∃ ads : List Addr, ads.length = fs.length ∧ PA X xs (tRefs ads) ∧ ∀ (j f : Nat) (a : Addr), fs[j]? = some f → ads[j]? = some a → ∃ fd ps, W.keepIn X.K (.ref a) = true ∧ FnOk X.prog X.w X.K X.mg X.base (L2.CX X.prog X.w) k a fd ps (sp f) ∧ Binds X.K fd ps []
  | [], xs, h => by
    unfold chkFs at h
    split at h
    · exact ⟨[], rfl, pa_nil, fun j f a e => by simp at e⟩
    · cases h
  | f :: fs, xs, h => by
    unfold chkFs at h
    split at h
    · rename_i x p r
      simp only [Bool.and_eq_true, decide_eq_true_eq] at h
      obtain ⟨⟨⟨h1, h2⟩, h3⟩, h4⟩ := h
      obtain ⟨a, fd, ps, k1, k2, k3, k4⟩ := g.fns f x h1
      obtain ⟨ads, e1, e2, e3⟩ := pa_fs g h4
      refine ⟨a :: ads, by simp [e1], pa_cons (pe_glob (gl_of g.hsc h2) k1 (show RelV (.ref a) (.ref a) from rfl) (dbg_of h3).1) e2 rfl, fun j f' a' q1 q2 => ?_⟩
      cases j with
      | zero =>
        simp at q1 q2
        subst q1 q2
        exact ⟨fd, ps, k2, k3, k4⟩
      | succ j => exact e3 j f' a' (by simpa using q1) (by simpa using q2)
    · cases h
theorem pe_callAt {sc : Scope} {fn : Str → Bool} {E : EX} {X : Cx} {fs : List Nat} {xs : List Expr} {ei e1 : Expr} {es : List Expr} {ti : TE} {tr : TA} {p1 p2 pos : Pos} (g : Good C sp k N sc fn E X) (hf : chkFs C sc fs xs = true) (hi : PE X ei ti) (hs : notSlice ei = true) (ha : PA X (e1 :: es) tr)
    (he : starEach (e1 :: es) X.env = (false, eval e1 X.env) :: starEach es X.env) (hpl : (backTo pos (starEach es X.env)).any (·.1) = false) : PE X (.Call (.Subscript (.List xs p1) ei p2) (e1 :: es) [] pos) (tAt X.K fs ti fun f => tCallS (sp f) E tr) := by
  obtain ⟨ads, h1, h2, h3⟩ := pa_fs g hf
  have hp : PE X (.Subscript (.List xs p1) ei p2) (tOp (rIxL X.K) (tLst (tRefs ads)) ti) := pe_ix ix_list (pe_lst h2) hi (slice_of hs)
  refine ⟨fun pins s σ H Q I h => ?_⟩
  refine Call_ (thn (hp.run pins s σ H _ I (h ads h1)) fun u s1 ⟨v, H1, I1, r1, q1⟩ => ?_)
  obtain ⟨j, f, a, e2, e3, rfl, q⟩ := q1
  cases r1
  obtain ⟨fd, ps, k2, k3, k4⟩ := h3 j f a e2 e3
  refine PySem.W.callWith_K (h₀ := X.base) I.ok.mod.kin k2 (thn (ha.run pos pins s1 σ H1 _ I1 q) fun us s2 ⟨vs, H2, I2, r, q⟩ => ⟨I2.kIn, ?_⟩) he hpl
  exact run_fnS k3 g.room k4 (g.pass σ) I2 r q
theorem pe_callAtQ {sc : Scope} {fn : Str → Bool} {E : EX} {X : Cx} {fs : List Nat} {es : CEs} {e : Expr} {q : List Expr × Expr × List Expr} {ti : TE} {tr : TA} (g : Good C sp k N sc fn E X) (hq : atParts e = some q) (hf : chkFs C sc fs q.1 = true) (hi : PE X q.2.1 ti) (hs : notSlice q.2.1 = true) (hn : (!q.2.2.isEmpty) = true) (hst : chkEs C N es sc fn q.2.2 = true) (ha : PA X q.2.2 tr) : PE X e (tAt X.K fs ti fun f => tCallS (sp f) E tr) := by
  obtain ⟨p1, p2, pos, rfl⟩ := atParts_eq hq
  obtain ⟨xs, ei, ys⟩ := q
  have hst := chkEs_stars hst
  cases ys with
  | nil => simp at hn
  | cons y1 ys =>
    simp only [starsB, Bool.and_eq_true] at hst
    exact pe_callAt g hf hi hs ha (star_of hst.1 _ _) (stars_any hst.2 _ _)
mutual
theorem pe_all : ∀ (ce : CE) (sc : Scope) (fn : Str → Bool) (E : EX) (X : Cx) (e : Expr), Good C sp k N sc fn E X → chkE C N ce sc fn e = true → PE X e (tOf X.K sp E ce)
  | .var i, sc, fn, E, X, e, g, h => by
    cases e <;> simp only [chkE, Bool.false_eq_true, Bool.and_eq_true, decide_eq_true_eq] at h
    obtain ⟨⟨h1, h2⟩, h3⟩ := h
    exact pe_var (by rw [g.hN]; exact h1) (by rw [g.hsc]; exact vis_of h2) (dbg_of h3).1 (dbg_of h3).2
  | .bor i, sc, fn, E, X, e, g, h => by
    cases e <;> simp only [chkE, Bool.false_eq_true, Bool.and_eq_true, decide_eq_true_eq] at h
    obtain ⟨⟨h1, h2⟩, h3⟩ := h
    exact pe_var (by rw [g.hN]; exact h1) (by rw [g.hsc]; exact vis_of h2) (dbg_of h3).1 (dbg_of h3).2
  | .cst c, sc, fn, E, X, e, g, h => by
    cases e <;> simp only [chkE, Bool.false_eq_true] at h
    exact chkC_pe h
  | .glo x c, sc, fn, E, X, e, g, h => by
    cases e <;> simp only [chkE, Bool.false_eq_true, Bool.and_eq_true, decide_eq_true_eq] at h
    obtain ⟨⟨⟨h1, h2⟩, h3⟩, h4⟩ := h
    subst h1
    cases hc : C.cst x with
    | none => rw [hc] at h4; cases h4
    | some d =>
      rw [hc] at h4
      obtain rfl := chkCst_eq h4
      obtain ⟨u, h5, h6⟩ := g.csts x c hc
      exact pe_glob (gl_of g.hsc h2) h5 h6 (dbg_of h3).1
  | .bin op a b, sc, fn, E, X, e, g, h => by
    cases e <;> simp only [chkE, Bool.false_eq_true, Bool.and_eq_true] at h
    obtain ⟨⟨h1, h2⟩, h3⟩ := h
    rw [chkOp_eq h1]
    exact pe_op (op_bin op) (pe_all a sc fn E X _ g h2) (pe_all b sc fn E X _ g h3)
  | .neg a, sc, fn, E, X, e, g, h => by
    cases e <;> simp only [chkE, Bool.false_eq_true] at h
    rename_i op ea pos
    cases op <;> simp only [chkE, Bool.false_eq_true] at h
    exact pe_un un_neg (pe_all a sc fn E X _ g h)
  | .cmp op a b, sc, fn, E, X, e, g, h => by
    unfold chkE at h
    split at h
    · simp only [Bool.and_eq_true] at h
      obtain ⟨⟨⟨h1, h2⟩, h3⟩, h4⟩ := h
      rw [chkCmp_eq h1]
      exact pe_cmpR (op_cmp g.units op) (pe_all a sc fn E X _ g h3) (pe_all b sc fn E X _ g h4) (set_of h2 _)
    · cases h
  | .chn op op' a b c, sc, fn, E, X, e, g, h => by
    unfold chkE at h
    split at h
    · simp only [Bool.and_eq_true] at h
      obtain ⟨⟨⟨⟨⟨h1, h2⟩, h3⟩, h4⟩, h5⟩, h6⟩ := h
      rw [chkCmp_eq h1, chkCmp_eq h2]
      exact pe_chain (op_cmp g.units op) (op_cmp g.units op') (pe_all a sc fn E X _ g h4) (pe_all b sc fn E X _ g h5) (pe_all c sc fn E X _ g h6) (set_of h3 _)
    · cases h
  | .and a r, sc, fn, E, X, e, g, h => by
    unfold chkE at h
    split at h
    · simp only [Bool.and_eq_true] at h
      exact pe_and (pe_all a sc fn E X _ g h.1) (pe_all r sc fn E X _ g h.2)
    · cases h
  | .or a r, sc, fn, E, X, e, g, h => by
    unfold chkE at h
    split at h
    · simp only [Bool.and_eq_true] at h
      exact pe_or (pe_all a sc fn E X _ g h.1) (pe_all r sc fn E X _ g h.2)
    · cases h
  | .one a, sc, fn, E, X, e, g, h => by
    unfold chkE at h
    split at h
    · exact pe_one (pe_all a sc fn E X _ g h)
    · cases h
  | .not a, sc, fn, E, X, e, g, h => by
    unfold chkE at h
    split at h
    · exact pe_not (pe_all a sc fn E X _ g h)
    · cases h
  | .ite c a b, sc, fn, E, X, e, g, h => by
    unfold chkE at h
    split at h
    · simp only [Bool.and_eq_true] at h
      obtain ⟨⟨⟨h0, h1⟩, h2⟩, h3⟩ := h
      exact pe_ifExp (pt_all c sc fn E X _ g h0 h1) (pe_all a sc fn E X _ g h2) (pe_all b sc fn E X _ g h3)
    · cases h
  | .tup es, sc, fn, E, X, e, g, h => by
    unfold chkE at h
    split at h
    · exact pe_tup (pa_all es sc fn E X _ g h)
    · cases h
  | .lst es, sc, fn, E, X, e, g, h => by
    unfold chkE at h
    split at h
    · exact pe_lst (pa_all es sc fn E X _ g h)
    · cases h
  | .idx a b, sc, fn, E, X, e, g, h => by
    unfold chkE at h
    split at h
    · simp only [Bool.and_eq_true] at h
      exact pe_ix ix_data (pe_all a sc fn E X _ g h.1.2) (pe_all b sc fn E X _ g h.2) (slice_of h.1.1)
    · cases h
  | .slc a lo hi, sc, fn, E, X, e, g, h => by
    unfold chkE at h
    split at h
    · simp only [Bool.and_eq_true] at h
      exact pe_slice sl_data (pe_all a sc fn E X _ g h.1.1) (po_all lo sc fn E X _ g h.1.2) (po_all hi sc fn E X _ g h.2)
    · cases h
  | .rev a, sc, fn, E, X, e, g, h => by
    unfold chkE at h
    split at h
    · exact pe_revL (pe_all a sc fn E X _ g h)
    · cases h
  | .revT a, sc, fn, E, X, e, g, h => by
    unfold chkE at h
    split at h
    · exact pe_revT (pe_all a sc fn E X _ g h)
    · cases h
  | .call f es, sc, fn, E, X, e, g, h => by
    unfold chkE at h
    split at h
    · simp only [Bool.and_eq_true, decide_eq_true_eq] at h
      obtain ⟨⟨⟨h1, h2⟩, h3⟩, h4⟩ := h
      rename_i x _ xs _ 
      obtain ⟨a, fd, ps, k1, k2, k3, k4⟩ := g.fns f x h1
      have hst := chkEs_stars h4
      have ha := pa_all es sc fn E X _ g h4
      cases xs with
      | nil =>
        cases es with
        | nil => exact pe_callS0 k3 g.room (gl_of g.hsc h2) k1 k2 k4 g.pass (dbg_of h3).1
        | cons _ _ => simp [chkEs] at h4
      | cons x1 xs =>
        simp only [starsB, Bool.and_eq_true] at hst
        exact pe_callS k3 g.room (gl_of g.hsc h2) k1 k2 k4 g.pass ha (dbg_of h3).1 (star_of hst.1 _ _) (stars_any hst.2 _ _)
    · cases h
  | .callD f es, sc, fn, E, X, e, g, h => by
    unfold chkE at h
    split at h
    · simp only [Bool.and_eq_true, decide_eq_true_eq] at h
      obtain ⟨⟨⟨h1, h2⟩, h3⟩, h4⟩ := h
      rename_i x _ xs _
      obtain ⟨a, fd, ps, k1, k2, k3, k4⟩ := g.fns (1000 + f) x h1
      obtain ⟨hst, hne⟩ := chkEsD_stars h4
      have ha := pad_all es sc fn E X _ g h4
      cases xs with
      | nil => exact absurd rfl hne
      | cons x1 xs =>
        simp only [starsB, Bool.and_eq_true] at hst
        exact pe_callS k3 g.room (gl_of g.hsc h2) k1 k2 k4 g.pass ha (dbg_of h3).1 (star_of hst.1 _ _) (stars_any hst.2 _ _)
    · cases h
  | .callAt fs ix es, sc, fn, E, X, e, g, h => by
    unfold chkE at h
    cases hq : atParts e with
    | none => rw [hq] at h; cases h
    | some q =>
      rw [hq] at h
      simp only [Bool.and_eq_true] at h
      obtain ⟨⟨⟨⟨h1, h2⟩, h3⟩, h4⟩, h5⟩ := h
      exact pe_callAtQ g hq h1 (pe_all ix sc fn E X _ g h4) h2 h3 h5 (pa_all es sc fn E X _ g h5)
  | .bi b es, sc, fn, E, X, e, g, h => by
    unfold chkE at h
    split at h
    · simp only [Bool.and_eq_true, decide_eq_true_eq] at h
      obtain ⟨⟨⟨h1, h2⟩, h3⟩, h4⟩ := h
      subst h1
      rename_i _ xs _
      have hst := chkEs_stars h4
      have ha := pa_all es sc fn E X _ g h4
      cases xs with
      | nil => simp at h3
      | cons x1 xs =>
        simp only [starsB, Bool.and_eq_true] at hst
        exact bi_pe g.calm g.units (gl_of g.hsc h2) (g.blt _ b.mem) ha (star_of hst.1 _ _) (stars_any hst.2 _ _)
    · cases h
  | .meth m o es, sc, fn, E, X, e, g, h => by
    unfold chkE at h
    split at h
    · simp only [Bool.and_eq_true, decide_eq_true_eq] at h
      obtain ⟨⟨⟨⟨⟨⟨h1, h2⟩, h3⟩, h4⟩, h5⟩, h6⟩, h7⟩ := h
      subst h1
      rename_i eo apos xs pos
      have hst := chkEs_stars h7
      have ha := pa_all es sc fn E X _ g h7
      cases xs with
      | nil => simp at h4
      | cons x1 xs =>
        refine pe_bm m.pa m.slot m.ty (mt_data g.units m) (pe_all o sc fn E X _ g h6) ha (base_of h2 _) ?_ h3 ?_ ?_
        · rw [stars_all hst]
          show (true && true && decide _) = true
          simp only [List.length_nil, List.isEmpty_nil, if_true, Bool.true_and, decide_eq_true_eq]
          omega
        · simp only [starsB, Bool.and_eq_true] at hst
          exact star_of hst.1 _ _
        · simp only [starsB, Bool.and_eq_true] at hst
          exact stars_any hst.2 _ _
    · cases h
  | .rgl es, sc, fn, E, X, e, g, h => by
    unfold chkE at h
    split at h
    · simp only [Bool.and_eq_true, decide_eq_true_eq] at h
      obtain ⟨⟨⟨⟨h1, h2⟩, h3⟩, h4⟩, h5⟩ := h
      subst h1 h2
      exact pl_all es sc fn E X _ _ _ _ _ g h3 h4 h5
    · cases h
  | .rgt es, sc, fn, E, X, e, g, h => by
    unfold chkE at h
    split at h
    · simp only [Bool.and_eq_true, decide_eq_true_eq] at h
      obtain ⟨⟨⟨⟨⟨h1, h2⟩, h3⟩, h4⟩, h6⟩, h5⟩ := h
      subst h1 h2
      exact pe_tupRg g.calm (gl_of g.hsc h3) (g.blt _ (by decide +kernel)) (pr_all es sc fn E X _ _ _ g h4 (by simpa using h6) h5) rfl
    · cases h
  | .lc elt t it c vs, sc, fn, E, X, e, g, h => by
    unfold chkE at h
    split at h
    · simp only [Bool.and_eq_true] at h
      obtain ⟨⟨⟨⟨⟨h1, h2⟩, h3⟩, h4⟩, h5⟩, h6⟩ := h
      rename_i eelt tg iter ifs scope pos
      have key := pe_lc (X := X) (own := ownOf N vs) (pos := pos) (te := tOf X.K sp EX0 elt) (tt := tOfC X.K sp EX0 c) (g := tOfG X.K t) g.calm g.nd' (pi_all it sc fn E X tg iter g h2) (by rw [g.hN, g.hsc]; exact blkOk_by h1)
        (fun s H C' cl fp => pg_all (X := X.blk s H scope (compEnvC scope cl C' X.env) fp) (g.blk scope s H C' cl fp).calm (g.blk scope s H C' cl fp).hN g.nd (g.blk scope s H C' cl fp).hsc (g.blk scope s H C' cl fp).fnE h4)
        (fun s H C' cl fp => pts_all c _ _ EX0 _ ifs (g.blk scope s H C' cl fp) h5)
        (fun s H C' cl fp => pe_all elt _ _ EX0 _ eelt (g.blk scope s H C' cl fp) h6) (fun x => fold_of h3 _ x)
      rw [ownOf_snd] at key
      exact key
    · cases h
  | .lc2 elt t it c t1 it1 c1 vs vs1, sc, fn, E, X, e, g, h => by
    unfold chkE at h
    split at h
    · simp only [Bool.and_eq_true] at h
      obtain ⟨⟨⟨⟨⟨⟨⟨⟨⟨⟨h1, h1'⟩, h2⟩, h3⟩, h3'⟩, h4⟩, h5⟩, h6⟩, h7⟩, h8⟩, h9⟩ := h
      rename_i eelt tg iter ifs tg1 iter1 ifs1 scope pos
      have key := pe_lc2 (X := X) (own := ownOf N vs) (vs1 := vs1) (pos := pos) (te := tOf X.K sp EX0 elt) (tt := tOfC X.K sp EX0 c) (g := tOfG X.K t) (wi1 := tOfI X.K sp EX0 it1) (tt1 := tOfC X.K sp EX0 c1) (g1 := tOfG X.K t1) g.calm g.nd' (pi_all it sc fn E X tg iter g h2) (by rw [g.hN, g.hsc]; exact blkOk_by h1)
        (fun i hi => by rw [ownOf_snd]; simpa using List.all_eq_true.mp h1' i hi)
        (fun s H C' cl fp => pg_all (X := X.blk s H scope (compEnvC scope cl C' X.env) fp) (g.blk scope s H C' cl fp).calm (g.blk scope s H C' cl fp).hN g.nd (g.blk scope s H C' cl fp).hsc (g.blk scope s H C' cl fp).fnE h4)
        (fun s H C' cl fp => pts_all c _ _ EX0 _ ifs (g.blk scope s H C' cl fp) h5)
        (fun s H C' cl fp => pi_all it1 _ _ EX0 _ tg1 iter1 (g.blk scope s H C' cl fp) h6)
        (fun s H C' cl fp => pg_all (X := X.blk s H scope (compEnvC scope cl C' X.env) fp) (g.blk scope s H C' cl fp).calm (g.blk scope s H C' cl fp).hN g.nd (g.blk scope s H C' cl fp).hsc (g.blk scope s H C' cl fp).fnE h7)
        (fun s H C' cl fp => pts_all c1 _ _ EX0 _ ifs1 (g.blk scope s H C' cl fp) h8)
        (fun s H C' cl fp => pe_all elt _ _ EX0 _ eelt (g.blk scope s H C' cl fp) h9) (fun x => fold_of h3 _ x) (fun _ x => fold_of h3' _ x)
      rw [ownOf_snd] at key
      exact key
    · cases h
  | .lset a, sc, fn, E, X, e, g, h => by
    unfold chkE at h
    split at h
    · simp only [Bool.and_eq_true, decide_eq_true_eq] at h
      obtain ⟨⟨⟨⟨⟨h1, h2⟩, h3⟩, h4⟩, h5⟩, h6⟩ := h
      subst h1 h2
      exact pe_lset g.calm g.units (gl_of g.hsc h3) (g.blt _ (by decide +kernel)) (gl_of g.hsc h4) (g.blt _ (by decide +kernel)) (pe_all a sc fn E X _ g h6) (star_of h5 _ _)
    · cases h
  | .sset a, sc, fn, E, X, e, g, h => by
    unfold chkE at h
    split at h
    · simp only [Bool.and_eq_true, decide_eq_true_eq] at h
      obtain ⟨⟨⟨⟨⟨h1, h2⟩, h3⟩, h4⟩, h5⟩, h6⟩ := h
      subst h1 h2
      exact pe_sset g.calm g.units (gl_of g.hsc h3) (g.blt _ (by decide +kernel)) (gl_of g.hsc h4) (g.blt _ (by decide +kernel)) (pe_all a sc fn E X _ g h6) (star_of h5 _ _)
    · cases h
  | .isi t a, sc, fn, E, X, e, g, h => by
    unfold chkE at h
    split at h
    · simp only [Bool.and_eq_true, decide_eq_true_eq] at h
      obtain ⟨⟨⟨⟨⟨h1, h2⟩, h3⟩, h4⟩, h5⟩, h6⟩ := h
      subst h1 h2
      have hc : ∀ po, PE X (.Name (t.n : Str) po) (tC (.ty t.n)) := fun po => pe_bltn (gl_of g.hsc h4) (g.blt _ t.mem) t.boot (show RelV (.ty t.n) (.type t.n) from rfl) t.nn.1 t.nn.2
      exact pe_callB (cr_isi t) (gl_of g.hsc h3) (g.blt _ (by decide +kernel)) (by decide +kernel) (pa_cons (pe_all a sc fn E X _ g h6) (pa_cons (hc _) pa_nil) (star_of h5 _ _)) (by decide) (by decide) (star_of h5 _ _) rfl
    · cases h
theorem pt_all : ∀ (ce : CE) (sc : Scope) (fn : Str → Bool) (E : EX) (X : Cx) (e : Expr), Good C sp k N sc fn E X → ce.isTest = true → chkE C N ce sc fn e = true → PT X e (tOfT X.K sp E ce)
  | .and a r, sc, fn, E, X, e, g, ht, h => (pw_all (.and a r) sc fn E X e g ht rfl h).pt
  | .or a r, sc, fn, E, X, e, g, ht, h => (pw_all (.or a r) sc fn E X e g ht rfl h).pt
  | .one a, sc, fn, E, X, e, g, ht, h => (pw_all (.one a) sc fn E X e g ht rfl h).pt
  | .not a, sc, fn, E, X, e, g, ht, h => by
    unfold chkE at h
    split at h
    · exact pt_not (pt_all a sc fn E X _ g (by simpa [CE.isTest] using ht) h)
    · cases h
  | .var i, sc, fn, E, X, e, g, ht, h => pt_val (pe_all (.var i) sc fn E X e g h) (plain_of (by
    cases e <;> simp only [chkE, Bool.false_eq_true] at h
    rfl) _)
  | .cst c, sc, fn, E, X, e, g, ht, h => pt_val (pe_all (.cst c) sc fn E X e g h) (plain_of (by
    cases e <;> simp only [chkE, Bool.false_eq_true] at h
    rfl) _)
  | .cmp op a b, sc, fn, E, X, e, g, ht, h => by
    unfold chkE at h
    split at h
    · simp only [Bool.and_eq_true] at h
      obtain ⟨⟨⟨h1, h2⟩, h3⟩, h4⟩ := h
      rw [chkCmp_eq h1]
      exact pt_cmpR (op_cmp g.units op) (pe_all a sc fn E X _ g h3) (pe_all b sc fn E X _ g h4) (set_of h2 _)
    · cases h
  | .chn op op' a b c, sc, fn, E, X, e, g, ht, h => by
    unfold chkE at h
    split at h
    · simp only [Bool.and_eq_true] at h
      obtain ⟨⟨⟨⟨⟨h1, h2⟩, h3⟩, h4⟩, h5⟩, h6⟩ := h
      rw [chkCmp_eq h1, chkCmp_eq h2]
      exact pt_chain (op_cmp g.units op) (op_cmp g.units op') (pe_all a sc fn E X _ g h4) (pe_all b sc fn E X _ g h5) (pe_all c sc fn E X _ g h6) (set_of h3 _)
    · cases h
  | .call f es, sc, fn, E, X, e, g, ht, h => pt_val (pe_all (.call f es) sc fn E X e g h) (plain_of (by
    cases e <;> simp only [chkE, Bool.false_eq_true] at h
    rfl) _)
  | .bi b es, sc, fn, E, X, e, g, ht, h => pt_val (pe_all (.bi b es) sc fn E X e g h) (plain_of (by
    cases e <;> simp only [chkE, Bool.false_eq_true] at h
    rfl) _)
  | .isi t a, sc, fn, E, X, e, g, ht, h => pt_val (pe_all (.isi t a) sc fn E X e g h) (plain_of (by
    cases e <;> simp only [chkE, Bool.false_eq_true] at h
    rfl) _)
  | .idx a b, sc, fn, E, X, e, g, ht, h => pt_val (pe_all (.idx a b) sc fn E X e g h) (plain_of (by
    cases e <;> simp only [chkE, Bool.false_eq_true] at h
    rfl) _)
  | .bor _, _, _, _, _, _, _, ht, _ => by simp [CE.isTest] at ht
  | .glo _ _, _, _, _, _, _, _, ht, _ => by simp [CE.isTest] at ht
  | .bin _ _ _, _, _, _, _, _, _, ht, _ => by simp [CE.isTest] at ht
  | .neg _, _, _, _, _, _, _, ht, _ => by simp [CE.isTest] at ht
  | .ite _ _ _, _, _, _, _, _, _, ht, _ => by simp [CE.isTest] at ht
  | .tup _, _, _, _, _, _, _, ht, _ => by simp [CE.isTest] at ht
  | .lst _, _, _, _, _, _, _, ht, _ => by simp [CE.isTest] at ht
  | .slc _ _ _, _, _, _, _, _, _, ht, _ => by simp [CE.isTest] at ht
  | .rev _, _, _, _, _, _, _, ht, _ => by simp [CE.isTest] at ht
  | .revT _, _, _, _, _, _, _, ht, _ => by simp [CE.isTest] at ht
  | .meth _ _ _, _, _, _, _, _, _, ht, _ => by simp [CE.isTest] at ht
  | .rgl _, _, _, _, _, _, _, ht, _ => by simp [CE.isTest] at ht
  | .rgt _, _, _, _, _, _, _, ht, _ => by simp [CE.isTest] at ht
  | .lc _ _ _ _ _, _, _, _, _, _, _, ht, _ => by simp [CE.isTest] at ht
  | .lc2 _ _ _ _ _ _ _ _ _, _, _, _, _, _, _, ht, _ => by simp [CE.isTest] at ht
  | .sset _, _, _, _, _, _, _, ht, _ => by simp [CE.isTest] at ht
  | .lset _, _, _, _, _, _, _, ht, _ => by simp [CE.isTest] at ht
  | .callAt _ _ _, _, _, _, _, _, _, ht, _ => by simp [CE.isTest] at ht
  | .callD _ _, _, _, _, _, _, _, ht, _ => by simp [CE.isTest] at ht
theorem pw_all : ∀ (ce : CE) (sc : Scope) (fn : Str → Bool) (E : EX) (X : Cx) (e : Expr), Good C sp k N sc fn E X → ce.isTest = true → ce.isAO = true → chkE C N ce sc fn e = true → PW X e (tOfT X.K sp E ce)
  | .and a r, sc, fn, E, X, e, g, ht, ho, h => by
    unfold chkE at h
    split at h
    · simp only [Bool.and_eq_true] at h
      simp only [CE.isTest, Bool.and_eq_true] at ht
      exact pw_and (pt_all a sc fn E X _ g ht.1 h.1) (pw_all r sc fn E X _ g ht.2 (ao_of h.2) h.2)
    · cases h
  | .or a r, sc, fn, E, X, e, g, ht, ho, h => by
    unfold chkE at h
    split at h
    · simp only [Bool.and_eq_true] at h
      simp only [CE.isTest, Bool.and_eq_true] at ht
      exact pw_or (pt_all a sc fn E X _ g ht.1 h.1) (pw_all r sc fn E X _ g ht.2 (ao_of h.2) h.2)
    · cases h
  | .one a, sc, fn, E, X, e, g, ht, ho, h => by
    unfold chkE at h
    split at h
    · rename_i op ea pos
      have ht' : a.isTest = true := by simpa [CE.isTest] using ht
      cases op with
      | And => exact pw_and1 (pt_all a sc fn E X _ g ht' h)
      | Or => exact pw_or1 (pt_all a sc fn E X _ g ht' h)
    · cases h
  | .not _, _, _, _, _, _, _, _, ho, _ => by simp [CE.isAO] at ho
  | .var _, _, _, _, _, _, _, _, ho, _ => by simp [CE.isAO] at ho
  | .cst _, _, _, _, _, _, _, _, ho, _ => by simp [CE.isAO] at ho
  | .cmp _ _ _, _, _, _, _, _, _, _, ho, _ => by simp [CE.isAO] at ho
  | .chn _ _ _ _ _, _, _, _, _, _, _, _, ho, _ => by simp [CE.isAO] at ho
  | .call _ _, _, _, _, _, _, _, _, ho, _ => by simp [CE.isAO] at ho
  | .bi _ _, _, _, _, _, _, _, _, ho, _ => by simp [CE.isAO] at ho
  | .isi _ _, _, _, _, _, _, _, _, ho, _ => by simp [CE.isAO] at ho
  | .idx _ _, _, _, _, _, _, _, _, ho, _ => by simp [CE.isAO] at ho
  | .bor _, _, _, _, _, _, _, _, ho, _ => by simp [CE.isAO] at ho
  | .glo _ _, _, _, _, _, _, _, _, ho, _ => by simp [CE.isAO] at ho
  | .bin _ _ _, _, _, _, _, _, _, _, ho, _ => by simp [CE.isAO] at ho
  | .neg _, _, _, _, _, _, _, _, ho, _ => by simp [CE.isAO] at ho
  | .ite _ _ _, _, _, _, _, _, _, _, ho, _ => by simp [CE.isAO] at ho
  | .tup _, _, _, _, _, _, _, _, ho, _ => by simp [CE.isAO] at ho
  | .lst _, _, _, _, _, _, _, _, ho, _ => by simp [CE.isAO] at ho
  | .slc _ _ _, _, _, _, _, _, _, _, ho, _ => by simp [CE.isAO] at ho
  | .rev _, _, _, _, _, _, _, _, ho, _ => by simp [CE.isAO] at ho
  | .revT _, _, _, _, _, _, _, _, ho, _ => by simp [CE.isAO] at ho
  | .meth _ _ _, _, _, _, _, _, _, _, ho, _ => by simp [CE.isAO] at ho
  | .rgl _, _, _, _, _, _, _, _, ho, _ => by simp [CE.isAO] at ho
  | .rgt _, _, _, _, _, _, _, _, ho, _ => by simp [CE.isAO] at ho
  | .lc _ _ _ _ _, _, _, _, _, _, _, _, ho, _ => by simp [CE.isAO] at ho
  | .lc2 _ _ _ _ _ _ _ _ _, _, _, _, _, _, _, _, ho, _ => by simp [CE.isAO] at ho
  | .sset _, _, _, _, _, _, _, _, ho, _ => by simp [CE.isAO] at ho
  | .lset _, _, _, _, _, _, _, _, ho, _ => by simp [CE.isAO] at ho
  | .callAt _ _ _, _, _, _, _, _, _, _, ho, _ => by simp [CE.isAO] at ho
  | .callD _ _, _, _, _, _, _, _, _, ho, _ => by simp [CE.isAO] at ho
theorem pa_all : ∀ (es : CEs) (sc : Scope) (fn : Str → Bool) (E : EX) (X : Cx) (xs : List Expr), Good C sp k N sc fn E X → chkEs C N es sc fn xs = true → PA X xs (tOfs X.K sp E es)
  | .nil, sc, fn, E, X, xs, g, h => by
    unfold chkEs at h
    split at h
    · exact pa_nil
    · cases h
  | .cons e r, sc, fn, E, X, xs, g, h => by
    unfold chkEs at h
    split at h
    · simp only [Bool.and_eq_true] at h
      exact pa_cons (pe_all e sc fn E X _ g h.1.2) (pa_all r sc fn E X _ g h.2) (star_of h.1.1 _ _)
    · cases h
theorem pad_all : ∀ (es : CEs) (sc : Scope) (fn : Str → Bool) (E : EX) (X : Cx) (xs : List Expr), Good C sp k N sc fn E X → chkEsD C N es sc fn xs = true → PA X xs (tOfsD X.K sp E es)
  | .nil, sc, fn, E, X, xs, g, h => by
    unfold chkEsD at h
    split at h
    · exact pa_cons pe_dnewT pa_nil rfl
    · cases h
  | .cons e r, sc, fn, E, X, xs, g, h => by
    unfold chkEsD at h
    split at h
    · simp only [Bool.and_eq_true] at h
      exact pa_cons (pe_all e sc fn E X _ g h.1.2) (pad_all r sc fn E X _ g h.2) (star_of h.1.1 _ _)
    · cases h
theorem po_all : ∀ (o : CO) (sc : Scope) (fn : Str → Bool) (E : EX) (X : Cx) (x : Option Expr), Good C sp k N sc fn E X → chkO C N o sc fn x = true → PO X x (tOfO X.K sp E o)
  | .none, sc, fn, E, X, x, g, h => by
    unfold chkO at h
    split at h
    · exact po_none
    · cases h
  | .some e, sc, fn, E, X, x, g, h => by
    unfold chkO at h
    split at h
    · exact po_some (pe_all e sc fn E X _ g h)
    · cases h
theorem pts_all : ∀ (o : CO) (sc : Scope) (fn : Str → Bool) (E : EX) (X : Cx) (xs : List Expr), Good C sp k N sc fn E X → chkIf C N o sc fn xs = true → PTs X xs (tOfC X.K sp E o)
  | .none, sc, fn, E, X, x, g, h => by
    unfold chkIf at h
    split at h
    · exact pts_nil
    · cases h
  | .some e, sc, fn, E, X, x, g, h => by
    unfold chkIf at h
    split at h
    · simp only [Bool.and_eq_true] at h
      exact pts_one (pt_all e sc fn E X _ g h.1 h.2)
    · cases h
theorem pr_all : ∀ (es : CEs) (sc : Scope) (fn : Str → Bool) (E : EX) (X : Cx) (xs : List Expr) (p pos : Pos), Good C sp k N sc fn E X → glB sc "range" = true → es.is3 = false → chkR C N es sc fn xs = true → PRg X (.Call (.Name "range" p) xs [] pos) (tOfR X.K sp E es)
  | .nil, sc, fn, E, X, xs, p, pos, g, h1, h0, h => by simp [chkR] at h
  | .cons a .nil, sc, fn, E, X, xs, p, pos, g, h1, h0, h => by
    unfold chkR at h
    split at h
    · simp only [Bool.and_eq_true] at h
      exact prg_1 (gl_of g.hsc h1) (g.blt _ (by decide +kernel)) (pe_all a sc fn E X _ g h.2) (star_of h.1 _ _)
    · cases h
  | .cons a (.cons b .nil), sc, fn, E, X, xs, p, pos, g, h1, h0, h => by
    unfold chkR at h
    split at h
    · simp only [Bool.and_eq_true] at h
      obtain ⟨⟨⟨h2, h3⟩, h4⟩, h5⟩ := h
      exact prg_2 (gl_of g.hsc h1) (g.blt _ (by decide +kernel)) (pe_all a sc fn E X _ g h4) (pe_all b sc fn E X _ g h5) (star_of h2 _ _) (star_of h3 _ _) (stars_any (by simp [starsB, h3]) _ _)
    · cases h
  | .cons _ (.cons _ (.cons _ _)), sc, fn, E, X, xs, p, pos, g, h1, h0, h => by simp [CEs.is3] at h0
theorem pl_all : ∀ (es : CEs) (sc : Scope) (fn : Str → Bool) (E : EX) (X : Cx) (xs : List Expr) (p pos p2 pos2 : Pos), Good C sp k N sc fn E X → glB sc "list" = true → glB sc "range" = true → chkR C N es sc fn xs = true → PE X (.Call (.Name "list" p2) [.Call (.Name "range" p) xs [] pos] [] pos2) (tOfL X.K sp E es)
  | .nil, sc, fn, E, X, xs, p, pos, p2, pos2, g, h0, h1, h => by simp [chkR] at h
  | .cons a .nil, sc, fn, E, X, xs, p, pos, p2, pos2, g, h0, h1, h => by
    unfold chkR at h
    split at h
    · simp only [Bool.and_eq_true] at h
      exact pe_listRg g.calm (gl_of g.hsc h0) (g.blt _ (by decide +kernel)) (prg_1 (gl_of g.hsc h1) (g.blt _ (by decide +kernel)) (pe_all a sc fn E X _ g h.2) (star_of h.1 _ _)) rfl
    · cases h
  | .cons a (.cons b .nil), sc, fn, E, X, xs, p, pos, p2, pos2, g, h0, h1, h => by
    unfold chkR at h
    split at h
    · simp only [Bool.and_eq_true] at h
      obtain ⟨⟨⟨h2, h3⟩, h4⟩, h5⟩ := h
      exact pe_listRg g.calm (gl_of g.hsc h0) (g.blt _ (by decide +kernel)) (prg_2 (gl_of g.hsc h1) (g.blt _ (by decide +kernel)) (pe_all a sc fn E X _ g h4) (pe_all b sc fn E X _ g h5) (star_of h2 _ _) (star_of h3 _ _) (stars_any (by simp [starsB, h3]) _ _)) rfl
    · cases h
  | .cons a (.cons b (.cons c .nil)), sc, fn, E, X, xs, p, pos, p2, pos2, g, h0, h1, h => by
    unfold chkR at h
    split at h
    · simp only [Bool.and_eq_true] at h
      obtain ⟨⟨⟨⟨⟨h2, h3⟩, h4⟩, h5⟩, h6⟩, h7⟩ := h
      rename_i x y z
      have sz : ∀ env, starEach [z] env = (false, eval z env) :: [] := star_of h4 []
      have sb : ∀ env, starEach [y, z] env = (false, eval y env) :: starEach [z] env := star_of h3 [z]
      have sa : ∀ env, starEach [x, y, z] env = (false, eval x env) :: starEach [y, z] env := star_of h2 [y, z]
      exact pe_listRg3 g.calm (gl_of g.hsc h0) (g.blt _ (by decide +kernel)) (gl_of g.hsc h1) (g.blt _ (by decide +kernel)) (pa_cons (pe_all a sc fn E X _ g h5) (pa_cons (pe_all b sc fn E X _ g h6) (pa_cons (pe_all c sc fn E X _ g h7) pa_nil (sz _)) (sb _)) (sa _)) (sa _) (stars_any (by simp [starsB, h3, h4]) _ _)
    · cases h
  | .cons _ (.cons _ (.cons _ (.cons _ _))), sc, fn, E, X, xs, p, pos, p2, pos2, g, h0, h1, h => by simp [chkR] at h
theorem pn_all : ∀ (es : CEs) (sc : Scope) (fn : Str → Bool) (E : EX) (X : Cx) (tg : Expr) (xs : List Expr) (p pos : Pos), Good C sp k N sc fn E X → glB sc "range" = true → chkR C N es sc fn xs = true → PI X tg (.Call (.Name "range" p) xs [] pos) (tOfN X.K sp E es)
  | .nil, sc, fn, E, X, tg, xs, p, pos, g, h1, h => by simp [chkR] at h
  | .cons a .nil, sc, fn, E, X, tg, xs, p, pos, g, h1, h => by
    unfold chkR at h
    split at h
    · simp only [Bool.and_eq_true] at h
      have st : ∀ env, starEach [_] env = _ := star_of h.1 []
      exact pi_range1 (gl_of g.hsc h1) (g.blt _ (by decide +kernel)) (pa_cons (pe_all a sc fn E X _ g h.2) pa_nil (st _)) (st _)
    · cases h
  | .cons a (.cons b .nil), sc, fn, E, X, tg, xs, p, pos, g, h1, h => by
    unfold chkR at h
    split at h
    · simp only [Bool.and_eq_true] at h
      obtain ⟨⟨⟨h2, h3⟩, h4⟩, h5⟩ := h
      rename_i x y
      have sb : ∀ env, starEach [y] env = (false, eval y env) :: [] := star_of h3 []
      have sa : ∀ env, starEach [x, y] env = (false, eval x env) :: starEach [y] env := star_of h2 [y]
      exact pi_range2 (gl_of g.hsc h1) (g.blt _ (by decide +kernel)) (pa_cons (pe_all a sc fn E X _ g h4) (pa_cons (pe_all b sc fn E X _ g h5) pa_nil (sb _)) (sa _)) (by rw [sa, sb]) (sb _)
    · cases h
  | .cons a (.cons b (.cons c .nil)), sc, fn, E, X, tg, xs, p, pos, g, h1, h => by
    unfold chkR at h
    split at h
    · simp only [Bool.and_eq_true] at h
      obtain ⟨⟨⟨⟨⟨h2, h3⟩, h4⟩, h5⟩, h6⟩, h7⟩ := h
      rename_i x y z
      have sz : ∀ env, starEach [z] env = (false, eval z env) :: [] := star_of h4 []
      have sb : ∀ env, starEach [y, z] env = (false, eval y env) :: starEach [z] env := star_of h3 [z]
      have sa : ∀ env, starEach [x, y, z] env = (false, eval x env) :: starEach [y, z] env := star_of h2 [y, z]
      exact pi_range3 (gl_of g.hsc h1) (g.blt _ (by decide +kernel)) (pa_cons (pe_all a sc fn E X _ g h5) (pa_cons (pe_all b sc fn E X _ g h6) (pa_cons (pe_all c sc fn E X _ g h7) pa_nil (sz _)) (sb _)) (sa _)) (sa _) (stars_any (by simp [starsB, h3, h4]) _ _)
    · cases h
  | .cons _ (.cons _ (.cons _ (.cons _ _))), sc, fn, E, X, tg, xs, p, pos, g, h1, h => by simp [chkR] at h
theorem pi_all : ∀ (i : CI) (sc : Scope) (fn : Str → Bool) (E : EX) (X : Cx) (tg e : Expr), Good C sp k N sc fn E X → chkI C N i sc fn tg e = true → PI X tg e (tOfI X.K sp E i)
  | .lst a, sc, fn, E, X, tg, e, g, h => pi_list (pe_all a sc fn E X e g (by simpa [chkI] using h))
  | .tup a, sc, fn, E, X, tg, e, g, h => pi_tup (pe_all a sc fn E X e g (by simpa [chkI] using h))
  | .str a, sc, fn, E, X, tg, e, g, h => pi_str (pe_all a sc fn E X e g (by simpa [chkI] using h))
  | .rng es, sc, fn, E, X, tg, e, g, h => by
    unfold chkI at h
    split at h
    · simp only [Bool.and_eq_true, decide_eq_true_eq] at h
      obtain ⟨⟨h1, h2⟩, h3⟩ := h
      subst h1
      exact pn_all es sc fn E X tg _ _ _ g h2 h3
    · cases h
  | .enum a, sc, fn, E, X, tg, e, g, h => by
    unfold chkI at h
    split at h
    · simp only [Bool.and_eq_true, decide_eq_true_eq] at h
      obtain ⟨⟨⟨⟨h1, h2⟩, h3⟩, h4⟩, h5⟩ := h
      subst h1
      cases tg <;> simp only [isTupE, Bool.false_eq_true] at h4
      have st : ∀ env, starEach [_] env = _ := star_of h3 []
      exact pi_enum (gl_of g.hsc h2) (g.blt _ (by decide +kernel)) (pa_cons (pe_all a sc fn E X _ g h5) pa_nil (st _)) (st _)
    · cases h
  | .enumS a, sc, fn, E, X, tg, e, g, h => by
    unfold chkI at h
    split at h
    · simp only [Bool.and_eq_true, decide_eq_true_eq] at h
      obtain ⟨⟨⟨⟨h1, h2⟩, h3⟩, h4⟩, h5⟩ := h
      subst h1
      cases tg <;> simp only [isTupE, Bool.false_eq_true] at h4
      have st : ∀ env, starEach [_] env = _ := star_of h3 []
      exact pi_enumS (gl_of g.hsc h2) (g.blt _ (by decide +kernel)) (pa_cons (pe_all a sc fn E X _ g h5) pa_nil (st _)) (st _)
    · cases h
  | .zip a b, sc, fn, E, X, tg, e, g, h => by
    unfold chkI at h
    split at h
    · simp only [Bool.and_eq_true, decide_eq_true_eq] at h
      obtain ⟨⟨⟨⟨⟨⟨h1, h2⟩, h3⟩, h4⟩, h5⟩, h6⟩, h7⟩ := h
      subst h1
      cases tg <;> simp only [isTupE, Bool.false_eq_true] at h5
      have sb : ∀ env, starEach [_] env = _ := star_of h4 []
      exact pi_zipA (gl_of g.hsc h2) (g.blt _ (by decide +kernel)) (pa_cons (pe_all a sc fn E X _ g h6) (pa_cons (pe_all b sc fn E X _ g h7) pa_nil (sb _)) (star_of h3 _ _)) (star_of h3 _ _) (stars_any (by simp [starsB, h4]) _ _)
    · cases h
end
end
end Cl
set_option Elab.async false
set_option linter.all false
set_option maxRecDepth 100000
set_option maxHeartbeats 4000000
namespace Cl
open PySem PySem.Spec PyProof.Rows L2 RZ

/-! ### statements: the text against the core -/
def isName (x : Str) : Expr → Bool
  | .Name y _ => decide (y = x)
  | _ => false
def namesOf (sc : Scope) (line : Nat) (ts : List Expr) : List Str := ts.filterMap fun
    | .Name id pos => if sc.names.lookup id == some .local && pos.line == line then some id else none
    | _ => none
/-- whether a, b = x, y stores from the right: some names; none: it does not; not said where the model is silent -/
def swF (sc : Scope) (ts vs : List Expr) : Option (List Str) :=
  if !(ts.length == 2 || ts.length == 3) || vs.length != ts.length then none
  else if vs.any (fun e => !notStar e) then none
  else if (namesOf sc ((ts.head?.map (·.pos.line)).getD 0) ts).length != ts.length || (namesOf sc ((ts.head?.map (·.pos.line)).getD 0) ts).eraseDups.length != (namesOf sc ((ts.head?.map (·.pos.line)).getD 0) ts).length then none
  else if vs.all (foldedForSure 8) then none
  else some (namesOf sc ((ts.head?.map (·.pos.line)).getD 0) ts)
def swOk (vs : List Expr) : Bool := vs.all (foldedForSure 8) || !vs.all (constantsAlone 8)
theorem sw_eq {env : PySem.Env} {sc : Scope} {ts vs : List Expr} {k1 k2 : Nat} {p1 p2 : Pos} (hs : env.scope = sc) (hk : sc.kind = .function) (h : swOk vs = true) : swappedStores [.Tuple ts k1 p1] (.Tuple vs k2 p2) env = pure (swF sc ts vs) := by
  subst hs
  have hb : env.blockKind = .function := by unfold Env.blockKind; rw [hk]; rfl
  have hne : (ScopeKind.function != ScopeKind.function) = false := by decide
  unfold swappedStores swF
  dsimp only
  rw [hb, hne, Bool.or_false]
  by_cases c1 : (!(ts.length == 2 || ts.length == 3) || vs.length != ts.length) = true
  · rw [if_pos c1, if_pos c1]
  · rw [if_neg c1, if_neg c1]
    have hst : ∀ f : Expr → Bool, (∀ e, f e = !notStar e) → vs.any f = vs.any (fun e => !notStar e) := fun f hf => by rw [show f = fun e => !notStar e from funext hf]
    by_cases c2 : vs.any (fun e => !notStar e) = true
    · rw [if_pos c2]
      exact if_pos ((hst _ (fun e => by cases e <;> rfl)).trans c2)
    · rw [if_neg c2]
      refine Eq.trans (if_neg fun z => c2 ((hst _ (fun e => by cases e <;> rfl)).symm.trans z)) ?_
      by_cases c3 : ((namesOf env.scope ((ts.head?.map (·.pos.line)).getD 0) ts).length != ts.length || (namesOf env.scope ((ts.head?.map (·.pos.line)).getD 0) ts).eraseDups.length != (namesOf env.scope ((ts.head?.map (·.pos.line)).getD 0) ts).length) = true
      · rw [if_pos c3]
        exact if_pos c3
      · rw [if_neg c3]
        refine Eq.trans (if_neg c3) ?_
        by_cases c4 : vs.all (foldedForSure 8) = true
        · rw [if_pos c4, if_pos c4]
        · rw [if_neg c4, if_neg c4]
          have c5 : ¬ vs.all (constantsAlone 8) = true := by
            unfold swOk at h
            simp only [Bool.or_eq_true, Bool.not_eq_true'] at h
            rcases h with h | h
            · exact absurd h c4
            · rw [h]; simp
          rw [if_neg c5]
          rfl

structure GoodS (C : Ctx) (cls : Nat → Value) (sp : Nat → Sp) (k : Nat) (N : List Str) (sc : Scope) (E : EX) (X : Cx) : Prop where
  g : Good C sp k N sc (fun _ => true) E X
  kind : sc.kind = .function
  own : PassesOwn (model X.prog X.w) X.A X.env X.xe
  takes : Takes X (fun c d σ H => E σ c d H)
  stk : X.stack = X.env :: X.outer
  frm : X.env.frame = some X.env.locals
  exns : ∀ c x, C.exn c = some x → ∃ a, cls c = .ref a ∧ X.mg x = some (.ref a) ∧ W.excIn X.K a He.veBase "ValueError.__new__" = true ∧ W.keepIn X.K (.ref a) = true ∧ W.subIn X.K (.ref a) (.type "BaseException") = some true ∧ W.typeIn X.K (.ref a) = some (.type "type")
  errs : ∀ c, ∃ a, cls c = .ref a ∧ ExcC X.K a ∧ ∀ b x, C.exn b = some x → W.kitOne X.K (.ref a) (cls b) = some (subc c b)
/-- a comprehension that is stored into a local name on its line goes another way -/
def lcSwap (sc : Scope) (x : Str) (px : Pos) : Expr → Bool
  | .ListComp _ [⟨_, _, _, 0⟩] scope pos => isLocB sc x && (px.line == pos.line) && !(scope.names.any fun (n, k) => n == x && (k == .local || k == .cell))
  | _ => false
def lcSwap2 (sc : Scope) (x : Str) (px : Pos) : Expr → Bool
  | .ListComp _ [⟨_, _, _, 0⟩, ⟨_, _, _, 0⟩] scope pos => isLocB sc x && (px.line == pos.line) && !(scope.names.any fun (n, k) => n == x && (k == .local || k == .cell))
  | _ => false
def isCellB (sc : Scope) (x : Str) : Bool := match sc.names.lookup x with
  | some .cell => true
  | _ => false
def isTupV : Expr → Bool
  | .Tuple _ _ _ => true
  | _ => false
def nodupB (xs : List Nat) : Bool := decide xs.Nodup
/-! ### an except suite against the core -/
def HE.isIsx : HE → Bool
  | .isx _ => true
  | _ => false
mutual
def chkH (C : Ctx) (sc : Scope) (n : Str) : HE → Expr → Bool
  | .isx c, e => match e with
    | .Call (.Name f _) [.Name v _, .Name y _] [] _ => decide (f = "isinstance") && decide (v = n) && decide (C.exn c = some y) && glB sc f && glB sc y && !dbg y
    | _ => false
  | .cst c, e => match e with
    | .Constant k _ _ => chkC c k
    | _ => false
  | .ite t a b, e => match e with
    | .IfExp et ea eb _ => t.isIsx && chkH C sc n t et && chkH C sc n a ea && chkH C sc n b eb
    | _ => false
  | .tup es, e => match e with
    | .Tuple xs _ _ => chkHs C sc n es xs
    | _ => false
  | .idx es, e => match e with
    | .Call (.Attribute (.List xs _) m apos) [.Constant (.bool true) _ _] [] pos => decide (m = "index") && (apos.endLine == pos.line) && chkHs C sc n es xs
    | _ => false
def chkHs (C : Ctx) (sc : Scope) (n : Str) : HEs → List Expr → Bool
  | .nil, xs => match xs with
    | [] => true
    | _ => false
  | .cons e r, xs => match xs with
    | x :: s => notStar x && chkH C sc n e x && chkHs C sc n r s
    | _ => false
end
section
variable (C : Ctx) (N : List Str)
def chkSet (i : Nat) (e : CE) (sc : Scope) (st : Stmt) : Bool := match st with
  | .Assign [.Name x px] ev _ => decide (N[i]? = some x) && locB sc x && (notComp ev || isCellB sc x || (lcSwap sc x px ev && lcE e) || (lcSwap2 sc x px ev && lcE2 e)) && chkE C N e sc (fun _ => true) ev
  | _ => false
where
  lcE : CE → Bool
    | .lc _ _ _ _ _ => true
    | _ => false
  lcE2 : CE → Bool
    | .lc2 _ _ _ _ _ _ _ _ _ => true
    | _ => false
def chkPar (sw : Bool) (is : List Nat) (es : CEs) (sc : Scope) (st : Stmt) : Bool := match st with
    | .Assign [.Tuple ts _ _] (.Tuple vs _ _) _ => swOk vs && chkNames N sc (fun _ => true) is ts && chkEs C N es sc (fun _ => true) vs &&
        (match sw with
          | true => nodupB is && decide (swF sc ts vs = some (is.map fun i => N.getD i Str.empty)) && is.all (fun i => isLocB sc (N.getD i Str.empty))
          | false => decide (swF sc ts vs = none))
    | _ => false
mutual
def chkS : CS → Scope → Stmt → Bool
  | .asg i e, sc, st => chkSet C N i e sc st
  | .own i e, sc, st => chkSet C N i e sc st
  | .own2 i j, sc, st => chkPar C N true [i, j] (.cons (.lst .nil) (.cons (.lst .nil) .nil)) sc st
  | .par sw is es, sc, st => chkPar C N sw is es sc st
  | .unp t e, sc, st => match st with
    | .Assign [tg] ev _ => isTupE tg && !isTupV ev && notComp ev && chkG N sc (fun _ => true) t tg && chkE C N e sc (fun _ => true) ev
    | _ => false
  | .app i e, sc, st => match st with
    | .Expr (.Call (.Attribute (.Name x p) m apos) [ev] [] cpos) _ => decide (m = "append") && (apos.endLine == cpos.line) && notStar ev && chkE C N (.var i) sc (fun _ => true) (.Name x p) && chkE C N e sc (fun _ => true) ev
    | _ => false
  | .ext i e, sc, st => match st with
    | .Expr (.Call (.Attribute (.Name x p) m apos) [ev] [] cpos) _ => decide (m = "extend") && (apos.endLine == cpos.line) && notStar ev && chkE C N (.var i) sc (fun _ => true) (.Name x p) && chkE C N e sc (fun _ => true) ev
    | _ => false
  | .six i a e, sc, st => match st with
    | .Assign [.Subscript (.Name x p) ia _] ev _ => notComp ev && !isTupV ev && notSlice ia && chkE C N (.var i) sc (fun _ => true) (.Name x p) && chkE C N a sc (fun _ => true) ia && chkE C N e sc (fun _ => true) ev
    | _ => false
  | .ite c a b, sc, st => match st with
    | .If ec ea eb _ => c.isTest && chkE C N c sc (fun _ => true) ec && chkSs a sc ea && chkSs b sc eb
    | _ => false
  | .forr t it b, sc, st => match st with
    | .For tg iter body [] _ => notSet iter && chkG N sc (fun _ => true) t tg && chkI C N it sc (fun _ => true) tg iter && chkSs b sc body
    | _ => false
  | .whl c b, sc, st => match st with
    | .While ec body [] _ => c.isTest && chkE C N c sc (fun _ => true) ec && chkSs b sc body
    | _ => false
  | .ret e, sc, st => match st with
    | .Return (some ev) _ => chkE C N e sc (fun _ => true) ev
    | _ => false
  | .retO i, sc, st => match st with
    | .Return (some ev) _ => chkE C N (.var i) sc (fun _ => true) ev
    | _ => false
  | .exp e, sc, st => match st with
    | .Expr ev _ => notComp ev && chkE C N e sc (fun _ => true) ev
    | _ => false
  | .rse c, sc, st => match st with
    | .Raise (some (.Call (.Name x _) [.Constant (.str _) _ _] [] _)) none _ => decide (C.exn c = some x) && glB sc x && !dbg x
    | _ => false
  | .frz _, _, _ => false
  | .tryx b i h, sc, st => match st with
    | .Try body [.ExceptHandler (some (.Name x _)) (some n) [.Return (some eh) _] _] [] [] _ => decide (C.exn 0 = some x) && glB sc x && !dbg x && decide (N[i]? = some n) && isLocB sc n && !dbg n && chkH C sc n h eh && chkSs b sc body
    | _ => false
def chkSs : CSs → Scope → List Stmt → Bool
  | .nil, sc, sts => match sts with
    | [] => true
    | _ => false
  | .cons s r, sc, sts => match s with
    | .frz _ => chkSs r sc sts
    | s => match sts with
      | st :: rest => chkS s sc st && chkSs r sc rest
      | [] => false
end
end
end Cl
set_option Elab.async false
set_option linter.all false
set_option maxRecDepth 100000
set_option maxHeartbeats 4000000
namespace Cl
open PySem PySem.Spec PyProof.Rows L2 RZ
/-! ### an except suite: its readings -/
section
variable (K : W.Frag) (cls : Nat → Value) (i : Nat) (a Da : Addr)
def clsV (c : Nat) : V := match cls c with
  | .ref b => .ref b
  | _ => .non
mutual
def tHe : HE → TE
  | .isx b => tCB (rIsE K Da a) (tCons (tVar i) (tCons (tC (clsV cls b)) tNil))
  | .cst k => tC k.v
  | .ite t x y => tIf (tB (tHe t)) (tHe x) (tHe y)
  | .tup es => tTup (tHes es)
  | .idx es => tBM K "list" (rMt K .index) (tLst (tHes es)) (tCons (tC (.bl true)) tNil)
def tHes : HEs → TA
  | .nil => tNil
  | .cons e r => tCons (tHe e) (tHes r)
end
end
section
variable {K : W.Frag} {cls : Nat → Value} {i : Nat} {a Da : Addr} {c : Nat}
mutual
def HE.only (ok : Nat → Prop) : HE → Prop
  | .isx b => ok b
  | .cst _ => True
  | .ite t x y => t.only ok ∧ x.only ok ∧ y.only ok
  | .tup es => es.only ok
  | .idx es => es.only ok
def HEs.only (ok : Nat → Prop) : HEs → Prop
  | .nil => True
  | .cons e r => e.only ok ∧ r.only ok
end
mutual
theorem tHe_ok (hk : ∀ b, W.kitOne K (.ref Da) (cls b) = some (subc c b) ∨ True) (hK : ∀ b, (∃ q, cls b = .ref q) ) : ∀ (h : HE) (d : D) (σ : L2.St) (P H : Hp) (Q : VK), h.only (fun b => W.kitOne K (.ref Da) (cls b) = some (subc c b)) → evh c h = some d → Ex P H → σ[i]? = some (some (.ref a)) → (∀ v P' H', Ext P H P' H' → Rep K P' d v → Q v H') → tHe K cls i a Da h σ H Q
  | .isx b, d, σ, P, H, Q, ho, he, e, hs, q => by
    simp only [evh, Option.some.injEq] at he
    subst he
    obtain ⟨x, hx⟩ := hK b
    refine ⟨.ref a, hs, ?_⟩
    refine ⟨clsV cls b, cls b, subc c b, rfl, fun u hu => ?_, ho, q _ P H (.refl e) (.bl _)⟩
    unfold clsV at hu
    rw [hx] at hu ⊢
    exact hu
  | .cst k, d, σ, P, H, Q, ho, he, e, hs, q => by
    simp only [evh, Option.some.injEq] at he
    subst he
    exact q _ P H (.refl e) (rep_cst k)
  | .ite t x y, d, σ, P, H, Q, ho, he, e, hs, q => by
    simp only [evh, Option.bind_eq_some_iff] at he
    obtain ⟨d1, h1, h2⟩ := he
    refine tHe_ok hk hK t d1 σ P H _ ho.1 h1 e hs fun v P1 H1 e1 r1 => ?_
    cases d1 with
    | bl k =>
      cases r1
      refine ⟨k, rfl, ?_⟩
      cases k with
      | true => exact tHe_ok hk hK x d σ P1 H1 Q ho.2.1 h2 e1.ph hs fun v P' H' e2 r => q v P' H' (e1.trans e2) r
      | false => exact tHe_ok hk hK y d σ P1 H1 Q ho.2.2 h2 e1.ph hs fun v P' H' e2 r => q v P' H' (e1.trans e2) r
    | _ => cases h2
  | .tup es, d, σ, P, H, Q, ho, he, e, hs, q => by
    simp only [evh, Option.bind_eq_some_iff] at he
    obtain ⟨ds, h1, h2⟩ := he
    split at h2
    · rename_i hl
      cases h2
      refine tHes_ok hk hK es ds σ P H _ ho h1 e hs fun vs P1 H1 e1 r1 => ?_
      refine ⟨by rw [← r1.length, ← lim_eq]; exact hl, fun p hp => ?_⟩
      obtain ⟨P2, e2, r2⟩ := Res.keep e1.ph (Res.newT (K := K) hp r1)
      exact q _ P2 _ (e1.trans e2) r2
    · cases h2
  | .idx es, d, σ, P, H, Q, ho, he, e, hs, q => by
    simp only [evh, Option.bind_eq_some_iff] at he
    obtain ⟨ds, h1, h2⟩ := he
    split at h2
    · rename_i hl
      refine tHes_ok hk hK es ds σ P H _ ho h1 e hs fun vs P1 H1 e1 r1 => ?_
      refine ⟨by rw [← r1.length, ← lim_eq]; exact hl, fun p hp => ?_⟩
      obtain ⟨P2, e2, r2⟩ := Res.keep e1.ph (Res.newL (K := K) hp r1)
      refine ⟨ty_data (m := .index) (d := d) (ds := [.bl true]) e2.ph (.inl r2) h2, ?_⟩
      refine ⟨P2, .lst ds, [.bl true], d, e2.ph, .inl r2, .cons (.inl (.bl true)) .nil, h2, fun v H3 res => ?_⟩
      obtain ⟨P3, e3, r3⟩ := res.keep e2.ph
      exact q v P3 H3 ((e1.trans e2).trans e3) r3
    · cases h2
theorem tHes_ok (hk : ∀ b, W.kitOne K (.ref Da) (cls b) = some (subc c b) ∨ True) (hK : ∀ b, (∃ q, cls b = .ref q) ) : ∀ (h : HEs) (ds : List D) (σ : L2.St) (P H : Hp) (Q : List V → Hp → Prop), h.only (fun b => W.kitOne K (.ref Da) (cls b) = some (subc c b)) → evhs c h = some ds → Ex P H → σ[i]? = some (some (.ref a)) → (∀ vs P' H', Ext P H P' H' → Reps K P' ds vs → Q vs H') → tHes K cls i a Da h σ H Q
  | .nil, ds, σ, P, H, Q, ho, he, e, hs, q => by
    simp only [evhs, Option.some.injEq] at he
    subst he
    exact q [] P H (.refl e) .nil
  | .cons h r, ds, σ, P, H, Q, ho, he, e, hs, q => by
    simp only [evhs, Option.bind_eq_some_iff, Option.some.injEq] at he
    obtain ⟨d1, h1, ds1, h2, rfl⟩ := he
    refine tHe_ok hk hK h d1 σ P H _ ho.1 h1 e hs fun v P1 H1 e1 r1 => ?_
    refine tHes_ok hk hK r ds1 σ P1 H1 _ ho.2 h2 e1.ph hs fun vs P2 H2 e2 r2 => ?_
    exact q (v :: vs) P2 H2 (e1.trans e2) (.cons (r1.mono e2.p) r2)
end
end
/-! ### .. and the text -/
section
variable {C : Ctx} {cls : Nat → Value} {sp : Nat → Sp} {k : Nat} {N : List Str} {sc : Scope} {E : EX} {X : Cx} {i : Nat} {n : Str} {a Da : Addr} {oe : Obj} {pn : List (Addr × Obj)}
theorem chkHs_stars : ∀ {es : HEs} {xs : List Expr}, chkHs C sc n es xs = true → starsB xs = true
  | .nil, xs, h => by
    cases xs with
    | nil => rfl
    | cons _ _ => simp [chkHs] at h
  | .cons e r, xs, h => by
    cases xs with
    | nil => simp [chkHs] at h
    | cons x s =>
      simp only [chkHs, Bool.and_eq_true] at h
      simp only [starsB, Bool.and_eq_true]
      exact ⟨h.1.1, chkHs_stars (es := r) h.2⟩
mutual
theorem pe_he (G : GoodS C cls sp k N sc E X) (hi : N[i]? = some n) (hv : isLocB sc n = true) (hdb : (!dbg n) = true) (CD : ExcC X.K Da) (hz : Zc (.ref Da) none oe) (hf : ∃ vs, oe.data = .fields vs) : ∀ (h : HE) (e : Expr), chkH C sc n h e = true → PE (X.suite a ((a, oe) :: pn)) e (tHe X.K cls i a Da h)
  | .isx c, e, h => by
    unfold chkH at h
    split at h
    · simp only [Bool.and_eq_true, decide_eq_true_eq] at h
      obtain ⟨⟨⟨⟨⟨h1, h2⟩, h3⟩, h4⟩, h5⟩, h6⟩ := h
      subst h1 h2
      obtain ⟨b, k1, k2, _⟩ := G.exns _ _ h3
      rename_i vn _ _ _ _ _
      have hvar : ∀ po, PE (X.suite a ((a, oe) :: pn)) (.Name vn po) (tVar i) := fun po => pe_var (X := X.suite a ((a, oe) :: pn)) (by show X.N[i]? = _; rw [G.g.hN]; exact hi) (.inl (by show X.env.scope.names.lookup _ = _; rw [G.g.hsc]; exact isLoc_of hv)) (dbg_of hdb).1 (dbg_of hdb).2
      have hcls : ∀ po, PE (X.suite a ((a, oe) :: pn)) (.Name _ po) (tC (clsV cls c)) := fun po => by
        have : clsV cls c = .ref b := by unfold clsV; rw [k1]
        rw [this]
        exact pe_glob (X := X.suite a ((a, oe) :: pn)) (gl_of (X := X.suite a ((a, oe) :: pn)) G.g.hsc h5) k2 rfl (dbg_of h6).1
      exact pe_callB (X := X.suite a ((a, oe) :: pn)) (call_isE CD hz hf) (gl_of (X := X.suite a ((a, oe) :: pn)) G.g.hsc h4) (G.g.blt _ (by decide +kernel)) (by decide +kernel) (pa_cons (hvar _) (pa_cons (hcls _) pa_nil)) (by decide) (by decide) rfl rfl
    · cases h
  | .cst c, e, h => by
    cases e <;> simp only [chkH, Bool.false_eq_true] at h
    exact chkC_pe h
  | .ite t x y, e, h => by
    unfold chkH at h
    split at h
    · simp only [Bool.and_eq_true] at h
      obtain ⟨⟨⟨h0, h1⟩, h2⟩, h3⟩ := h
      rename_i et ea eb pos
      have pt := pe_he G hi hv hdb CD hz hf t et h1
      refine pe_ifExp (pt_val pt (plain_of ?_ _)) (pe_he G hi hv hdb CD hz hf x ea h2) (pe_he G hi hv hdb CD hz hf y eb h3)
      cases t with
      | isx c =>
        unfold chkH at h1
        split at h1
        · rfl
        · cases h1
      | _ => cases h0
    · cases h
  | .tup es, e, h => by
    unfold chkH at h
    split at h
    · exact pe_tup (pa_hes G hi hv hdb CD hz hf es _ h)
    · cases h
  | .idx es, e, h => by
    unfold chkH at h
    split at h
    · simp only [Bool.and_eq_true, decide_eq_true_eq] at h
      obtain ⟨⟨h1, h2⟩, h3⟩ := h
      subst h1
      have hu : (X.suite a ((a, oe) :: pn)).A.units + 200 < cLine := by
        have := G.g.units
        exact this
      exact pe_bm (X := X.suite a ((a, oe) :: pn)) (Mt.pa .index) (Mt.slot .index) (Mt.ty .index) (mt_data hu .index) (pe_lst (pa_hes G hi hv hdb CD hz hf es _ h3)) (pa_cons (chkC_pe (c := .bl true) rfl) pa_nil) rfl rfl h2 rfl rfl
    · cases h
theorem pa_hes (G : GoodS C cls sp k N sc E X) (hi : N[i]? = some n) (hv : isLocB sc n = true) (hdb : (!dbg n) = true) (CD : ExcC X.K Da) (hz : Zc (.ref Da) none oe) (hf : ∃ vs, oe.data = .fields vs) : ∀ (h : HEs) (xs : List Expr), chkHs C sc n h xs = true → PA (X.suite a ((a, oe) :: pn)) xs (tHes X.K cls i a Da h)
  | .nil, xs, h => by
    unfold chkHs at h
    split at h
    · exact pa_nil
    · cases h
  | .cons e r, xs, h => by
    unfold chkHs at h
    split at h
    · simp only [Bool.and_eq_true] at h
      exact pa_cons (pe_he G hi hv hdb CD hz hf e _ h.1.2) (pa_hes G hi hv hdb CD hz hf r _ h.2) (star_of h.1.1 _ _)
    · cases h
end
mutual
theorem only_of {ok : Nat → Prop} (hok : ∀ b x, C.exn b = some x → ok b) : ∀ (h : HE) (e : Expr), chkH C sc n h e = true → h.only ok
  | .isx c, e, h => by
    unfold chkH at h
    split at h
    · simp only [Bool.and_eq_true, decide_eq_true_eq] at h
      exact hok c _ h.1.1.1.2
    · cases h
  | .cst c, e, h => trivial
  | .ite t x y, e, h => by
    unfold chkH at h
    split at h
    · simp only [Bool.and_eq_true] at h
      exact ⟨only_of hok t _ h.1.1.2, only_of hok x _ h.1.2, only_of hok y _ h.2⟩
    · cases h
  | .tup es, e, h => by
    unfold chkH at h
    split at h
    · exact onlys_of hok es _ h
    · cases h
  | .idx es, e, h => by
    unfold chkH at h
    split at h
    · simp only [Bool.and_eq_true] at h
      exact onlys_of hok es _ h.2
    · cases h
theorem onlys_of {ok : Nat → Prop} (hok : ∀ b x, C.exn b = some x → ok b) : ∀ (h : HEs) (xs : List Expr), chkHs C sc n h xs = true → h.only ok
  | .nil, xs, h => trivial
  | .cons e r, xs, h => by
    unfold chkHs at h
    split at h
    · simp only [Bool.and_eq_true] at h
      exact ⟨only_of hok e _ h.1.2, onlys_of hok r _ h.2⟩
    · cases h
end
theorem pss_h (G : GoodS C cls sp k N sc E X) {h : HE} {eh : Expr} {pos : Pos} (hi : N[i]? = some n) (hv : isLocB sc n = true) (hdb : (!dbg n) = true) (hc : chkH C sc n h eh = true) (a : Addr) (oe : Obj) (cv : Value) (d : Option Addr) (pn : List (Addr × Obj)) (hz : Zc cv d oe) (hf : ∃ vs, oe.data = .fields vs) :
    PSs (X.suite a ((a, oe) :: pn)) [.Return (some eh) pos] (tsH X.K cls i h a cv d) := by
  refine ⟨fun pins s σ H Z I hh => ?_⟩
  obtain ⟨c, d', P, σ0, rfl, rfl, e, rfl, he, q⟩ := hh
  obtain ⟨Da, k1, CD, hkit⟩ := G.errs c
  rw [k1] at hz
  have hlen : (σ0.set i (some (.ref a)) : L2.St)[i]? = some (some (.ref a)) := by
    have hl := I.len
    have hi' : i < N.length := (List.getElem?_eq_some_iff.mp hi).1
    refine List.getElem?_set_self ?_
    have : (σ0.set i (some (.ref a)) : L2.St).length = X.N.length := hl
    rw [List.length_set, G.g.hN] at this
    omega
  refine (pss_one (ps_ret (pe_he G hi hv hdb CD hz hf h eh hc))).run pins s _ H Z I ?_
  exact tHe_ok (c := c) (fun _ => .inr trivial) (fun b => (G.errs b).imp fun _ q => q.1) h d' _ P H Z.rt (only_of (fun b x hb => hkit b x hb) h eh hc) he e hlen q
end
end Cl
set_option Elab.async false
set_option linter.all false
set_option maxRecDepth 100000
set_option maxHeartbeats 4000000
namespace Cl
open PySem PySem.Spec PyProof.Rows L2 RZ
theorem notComp_sw {ev : Expr} {t : Option Expr} {l : Nat} {env : PySem.Env} (h : notComp ev = true) : swapsWith ev t l env = pure false := by
  cases ev <;> first | rfl | (simp [notComp] at h)
theorem cell_sw {ev : Expr} {x : Str} {px : Pos} {l : Nat} {env : PySem.Env} (h : env.scope.names.lookup x = some .cell) : swapsWith ev (some (.Name x px)) l env = pure false := by
  have hk : (env.kindOf x == some .local) = false := by unfold Env.kindOf; rw [h]; decide
  cases ev <;> first | rfl | (unfold swapsWith; simp only [hk, Bool.and_false, Bool.false_and]; done) | (unfold swapsWith; simp only [hk, Bool.and_false, Bool.false_and]; rfl)
theorem isCell_of {sc : Scope} {x : Str} (h : isCellB sc x = true) : sc.names.lookup x = some .cell := by
  unfold isCellB at h
  split at h
  · assumption
  · cases h
theorem sub_assign {o i : Expr} {pos : Pos} (h : notSlice i = true) (env : PySem.Env) (v : Value) : assign (.Subscript o i pos) env v = (do
      let ov ← holding [v] (eval o env)
      let iv ← holding [v, ov] (eval i env)
      standAt pos
      holding [v, ov, iv] (setItem ov iv v)
      release [v, ov, iv] []) := by
  cases i <;> first | rfl | (simp [notSlice] at h)
theorem nostar_tup {tg : Expr} (h : isTupE tg = true) (env : PySem.Env) : (assignEach [tg] env).map (·.2) = [assign tg env] := by
  cases tg <;> first | rfl | (simp [isTupE] at h)
theorem sw_none {tg ev : Expr} {env : PySem.Env} (h : isTupV ev = false) : swappedStores [tg] ev env = pure none := by
  cases ev <;> first | (simp [isTupV] at h; done) | skip
  all_goals (cases tg <;> rfl)
section
variable {C : Ctx} {cls : Nat → Value} {sp : Nat → Sp} {k : Nat} {N : List Str} {sc : Scope} {E : EX} {X : Cx}
theorem ps_seta (G : GoodS C cls sp k N sc E X) {i : Nat} {e : CE} {st : Stmt} (h : chkSet C N i e sc st = true) : PS X st (tAsg (tOf X.K sp E e) (gName i)) := by
  unfold chkSet at h
  split at h
  · simp only [Bool.and_eq_true, Bool.or_eq_true, decide_eq_true_eq] at h
    obtain ⟨⟨⟨h1, h2⟩, h3⟩, h4⟩ := h
    rename_i x px ev pos
    have hf : X.fn x = true ∨ X.env.scope.names.lookup x = some .local := .inl (by rw [G.g.fnE])
    rcases h3 with ((h3 | h3) | h3) | h3
    · exact ps_set G.g.nd' (by rw [G.g.hN]; exact h1) (by rw [G.g.hsc]; exact loc_of h2) (pe_all e sc _ E X ev G.g h4) (notComp_sw h3) hf
    · exact ps_set G.g.nd' (by rw [G.g.hN]; exact h1) (by rw [G.g.hsc]; exact loc_of h2) (pe_all e sc _ E X ev G.g h4) (cell_sw (by rw [G.g.hsc]; exact isCell_of h3)) hf
    · obtain ⟨h3, h5⟩ := h3
      cases e <;> simp only [chkSet.lcE, Bool.false_eq_true] at h5
      rename_i elt t it c vs
      unfold lcSwap at h3
      split at h3
      · simp only [Bool.and_eq_true, Bool.not_eq_true'] at h3
        obtain ⟨⟨k1, k2⟩, k3⟩ := h3
        rename_i eelt tg iter ifs scope lpos
        unfold chkE at h4
        simp only [Bool.and_eq_true] at h4
        obtain ⟨⟨⟨⟨⟨j1, j2⟩, j3⟩, j4⟩, j5⟩, j6⟩ := h4
        have g := G.g
        have hl : X.env.scope.names.lookup x = some .local := by rw [g.hsc]; exact isLoc_of k1
        have key := ps_setLc (X := X) (i := i) (y := x) (py := px) (spos := pos) (own := ownOf N vs) (pos := lpos) (te := tOf X.K sp EX0 elt) (tt := tOfC X.K sp EX0 c) (g := tOfG X.K t) g.calm g.nd' (by rw [g.hN]; exact h1) hl
          (sw_true (by rw [g.hsc]; exact G.kind) hl k2 k3) (pi_all it sc _ E X tg iter g j2) (by rw [g.hN, g.hsc]; exact blkOk_by j1)
          (fun s H C' cl fp => pg_all (X := X.blk s H scope (compEnvC scope cl C' X.env) fp) (g.blk scope s H C' cl fp).calm (g.blk scope s H C' cl fp).hN g.nd (g.blk scope s H C' cl fp).hsc (g.blk scope s H C' cl fp).fnE j4)
          (fun s H C' cl fp => pts_all c _ _ EX0 _ ifs (g.blk scope s H C' cl fp) j5)
          (fun s H C' cl fp => pe_all elt _ _ EX0 _ eelt (g.blk scope s H C' cl fp) j6) (fun x => fold_of j3 _ x)
        rw [ownOf_snd] at key
        exact key
      · cases h3
    · obtain ⟨h3, h5⟩ := h3
      cases e <;> simp only [chkSet.lcE2, Bool.false_eq_true] at h5
      rename_i elt t it c t1 it1 c1 vs vs1
      unfold lcSwap2 at h3
      split at h3
      · simp only [Bool.and_eq_true, Bool.not_eq_true'] at h3
        obtain ⟨⟨k1, k2⟩, k3⟩ := h3
        rename_i eelt tg iter ifs tg1 iter1 ifs1 scope lpos
        unfold chkE at h4
        simp only [Bool.and_eq_true] at h4
        have hx := h1
        obtain ⟨⟨⟨⟨⟨⟨⟨⟨⟨⟨h1, h1'⟩, h2'⟩, h3⟩, h3'⟩, h4⟩, h5⟩, h6⟩, h7⟩, h8⟩, h9⟩ := h4
        have g := G.g
        have hl : X.env.scope.names.lookup x = some .local := by rw [g.hsc]; exact isLoc_of k1
        have key := ps_setLc2 (X := X) (i := i) (y := x) (py := px) (spos := pos) (own := ownOf N vs) (vs1 := vs1) (pos := lpos) (te := tOf X.K sp EX0 elt) (tt := tOfC X.K sp EX0 c) (g := tOfG X.K t) (wi1 := tOfI X.K sp EX0 it1) (tt1 := tOfC X.K sp EX0 c1) (g1 := tOfG X.K t1) g.calm g.nd' (by rw [g.hN]; exact hx) hl (sw_true (by rw [g.hsc]; exact G.kind) hl k2 k3) (pi_all it sc _ E X tg iter g h2') (by rw [g.hN, g.hsc]; exact blkOk_by h1)
          (fun i hi => by rw [ownOf_snd]; simpa using List.all_eq_true.mp h1' i hi)
          (fun s H C' cl fp => pg_all (X := X.blk s H scope (compEnvC scope cl C' X.env) fp) (g.blk scope s H C' cl fp).calm (g.blk scope s H C' cl fp).hN g.nd (g.blk scope s H C' cl fp).hsc (g.blk scope s H C' cl fp).fnE h4)
          (fun s H C' cl fp => pts_all c _ _ EX0 _ ifs (g.blk scope s H C' cl fp) h5)
          (fun s H C' cl fp => pi_all it1 _ _ EX0 _ tg1 iter1 (g.blk scope s H C' cl fp) h6)
          (fun s H C' cl fp => pg_all (X := X.blk s H scope (compEnvC scope cl C' X.env) fp) (g.blk scope s H C' cl fp).calm (g.blk scope s H C' cl fp).hN g.nd (g.blk scope s H C' cl fp).hsc (g.blk scope s H C' cl fp).fnE h7)
          (fun s H C' cl fp => pts_all c1 _ _ EX0 _ ifs1 (g.blk scope s H C' cl fp) h8)
          (fun s H C' cl fp => pe_all elt _ _ EX0 _ eelt (g.blk scope s H C' cl fp) h9) (fun x => fold_of h3 _ x) (fun _ x => fold_of h3' _ x)
        rw [ownOf_snd] at key
        exact key
      · cases h3
  · cases h
theorem getD_of {i : Nat} {x : Str} (h : N[i]? = some x) : N.getD i Str.empty = x := by
  rw [List.getD_eq_getElem?_getD, h]; rfl
theorem chkNames_cons {fn : Str → Bool} {i : Nat} {is : List Nat} {ts : List Expr} (h : chkNames N sc fn (i :: is) ts = true) : ∃ x p rest, ts = .Name x p :: rest ∧ N[i]? = some x ∧ chkNames N sc fn is rest = true := by
  cases ts with
  | nil => simp [chkNames] at h
  | cons t rest =>
    cases t <;> simp only [chkNames, Bool.false_eq_true, Bool.and_eq_true, decide_eq_true_eq] at h
    exact ⟨_, _, _, rfl, h.1.1.1, h.2⟩
theorem chkNames_nil {fn : Str → Bool} {ts : List Expr} (h : chkNames N sc fn [] ts = true) : ts = [] := by
  cases ts with
  | nil => rfl
  | cons _ _ => simp [chkNames] at h
theorem ps_para (G : GoodS C cls sp k N sc E X) {sw : Bool} {is : List Nat} {es : CEs} {st : Stmt} (h : chkPar C N sw is es sc st = true) : PS X st (tOfS X.K cls sp E (.par sw is es)) := by
  unfold chkPar at h
  split at h
  · simp only [Bool.and_eq_true] at h
    obtain ⟨⟨⟨h1, h2⟩, h3⟩, h4⟩ := h
    rename_i ts _ _ vs _ _ pos
    have g := G.g
    have ha := pa_all es sc _ E X vs g h3
    have hsw := fun k1 p1 k2 p2 => sw_eq (env := X.env) (ts := ts) (vs := vs) (k1 := k1) (k2 := k2) (p1 := p1) (p2 := p2) g.hsc G.kind h1
    cases sw with
    | false =>
      simp only [decide_eq_true_eq] at h4
      obtain ⟨k1, k2, k3⟩ := pgs_names g.hN g.nd g.hsc g.fnE h2
      show PS X _ (tAsg (tTup (tOfs X.K sp E es)) (gTup X.K is.length (gNames is)))
      exact ps_asg (pe_tup ha) (pg_tup g.calm k1 k2 k3) rfl (by rw [hsw, h4]) rfl
    | true =>
      simp only [Bool.and_eq_true, decide_eq_true_eq, nodupB, List.all_eq_true] at h4
      obtain ⟨⟨n1, n2⟩, n3⟩ := h4
      show PS X _ (tParS is (tOfs X.K sp E es))
      have hloc : ∀ i x, i ∈ is → N[i]? = some x → X.env.scope.names.lookup x = some .local := fun i x hi hx => by
        rw [g.hsc]
        have := n3 i hi
        rw [getD_of hx] at this
        exact isLoc_of this
      have hvl : vs.length = ts.length := by
        unfold swF at n2
        split at n2
        · cases n2
        · rename_i c
          simp only [Bool.or_eq_true, Bool.not_eq_true', bne_iff_ne, ne_eq, not_or, Decidable.not_not] at c
          exact c.2
      match is with
      | [] => exact ps_never
      | [_] => exact ps_never
      | _ :: _ :: _ :: _ :: _ => exact ps_never
      | [i, j] =>
        obtain ⟨x, px, r1, rfl, hx, h2⟩ := chkNames_cons h2
        obtain ⟨y, py, r2, rfl, hy, h2⟩ := chkNames_cons h2
        obtain rfl := chkNames_nil h2
        match vs, hvl, ha with
        | [a, b], _, ha =>
          refine ps_par g.calm g.nd' (by rw [g.hN]; exact hx) (by rw [g.hN]; exact hy) (fun z => by subst z; simp at n1) (hloc i x (by simp) hx) (hloc j y (by simp) hy) ha ?_ rfl
          rw [hsw, n2]
          simp only [List.map_cons, List.map_nil, getD_of hx, getD_of hy]
      | [i, j, l] =>
        obtain ⟨x, px, r1, rfl, hx, h2⟩ := chkNames_cons h2
        obtain ⟨y, py, r2, rfl, hy, h2⟩ := chkNames_cons h2
        obtain ⟨z, pz, r3, rfl, hz, h2⟩ := chkNames_cons h2
        obtain rfl := chkNames_nil h2
        match vs, hvl, ha with
        | [a, b, d], _, ha =>
          simp only [List.nodup_cons, List.mem_cons, List.not_mem_nil, or_false, not_or] at n1
          refine ps_par3 g.calm g.nd' (by rw [g.hN]; exact hx) (by rw [g.hN]; exact hy) (by rw [g.hN]; exact hz) n1.1.1 n1.1.2 n1.2.1 (hloc i x (by simp) hx) (hloc j y (by simp) hy) (hloc l z (by simp) hz) ha ?_ rfl
          rw [hsw, n2]
          simp only [List.map_cons, List.map_nil, getD_of hx, getD_of hy, getD_of hz]
  · cases h
end
section
variable {C : Ctx} {cls : Nat → Value} {sp : Nat → Sp} {k : Nat} {N : List Str} {sc : Scope}
mutual
theorem ps_all : ∀ (s : CS) (E : EX) (X : Cx) (st : Stmt), GoodS C cls sp k N sc E X → chkS C N s sc st = true → PS X st (tOfS X.K cls sp E s)
  | .asg i e, E, X, st, G, h => ps_seta G (by simpa only [chkS] using h)
  | .own i e, E, X, st, G, h => ps_seta G (by simpa only [chkS] using h)
  | .own2 i j, E, X, st, G, h => ps_para G (sw := true) (is := [i, j]) (es := .cons (.lst .nil) (.cons (.lst .nil) .nil)) (by simpa only [chkS] using h)
  | .par sw is es, E, X, st, G, h => ps_para G (by simpa only [chkS] using h)
  | .unp t e, E, X, st, G, h => by
    unfold chkS at h
    split at h
    · simp only [Bool.and_eq_true, Bool.not_eq_true'] at h
      obtain ⟨⟨⟨⟨h1, h2⟩, h3⟩, h4⟩, h5⟩ := h
      exact ps_asg (pe_all e sc _ E X _ G.g h5) (pg_all G.g.calm G.g.hN G.g.nd G.g.hsc G.g.fnE h4) (notComp_sw h3) (sw_none h2) (nostar_tup h1 _)
    · cases h
  | .app i e, E, X, st, G, h => by
    unfold chkS at h
    split at h
    · simp only [Bool.and_eq_true, decide_eq_true_eq] at h
      obtain ⟨⟨⟨⟨h1, h2⟩, h3⟩, h4⟩, h5⟩ := h
      subst h1
      have hv := pe_all (.var i) sc _ E X _ G.g h4
      exact ps_expr (pe_bm PySem.F.plainAttrs_list PySem.F.slot_list_append PySem.F.type_list_append mt_append hv (pa_cons (pe_all e sc _ E X _ G.g h5) pa_nil (star_of h3 _ _)) rfl (by
        rw [stars_all (by simp [starsB, h3])]; rfl) h2 (star_of h3 _ _) rfl) rfl
    · cases h
  | .ext i e, E, X, st, G, h => by
    unfold chkS at h
    split at h
    · simp only [Bool.and_eq_true, decide_eq_true_eq] at h
      obtain ⟨⟨⟨⟨h1, h2⟩, h3⟩, h4⟩, h5⟩ := h
      subst h1
      have hv := pe_all (.var i) sc _ E X _ G.g h4
      exact ps_expr (pe_bm PySem.F.plainAttrs_list PySem.F.slot_list_extend PySem.F.type_list_extend mt_extend hv (pa_cons (pe_all e sc _ E X _ G.g h5) pa_nil (star_of h3 _ _)) rfl (by
        rw [stars_all (by simp [starsB, h3])]; rfl) h2 (star_of h3 _ _) rfl) rfl
    · cases h
  | .six i a e, E, X, st, G, h => by
    unfold chkS at h
    split at h
    · simp only [Bool.and_eq_true, Bool.not_eq_true'] at h
      obtain ⟨⟨⟨⟨⟨h1, h2⟩, h3⟩, h4⟩, h5⟩, h6⟩ := h
      exact ps_asg (pe_all e sc _ E X _ G.g h6) (pg_sub (pe_all (.var i) sc _ E X _ G.g h4) (pe_all a sc _ E X _ G.g h5) set_list (fun v => sub_assign h3 _ v)) (by unfold swapsWithSole; exact notComp_sw h1) (sw_none h2) rfl
    · cases h
  | .ite c a b, E, X, st, G, h => by
    unfold chkS at h
    split at h
    · simp only [Bool.and_eq_true] at h
      obtain ⟨⟨⟨h1, h2⟩, h3⟩, h4⟩ := h
      exact ps_if (pt_all c sc _ E X _ G.g h1 h2) (pss_all a E X _ G h3) (pss_all b E X _ G h4)
    · cases h
  | .forr t it b, E, X, st, G, h => by
    unfold chkS at h
    split at h
    · simp only [Bool.and_eq_true] at h
      obtain ⟨⟨⟨h1, h2⟩, h3⟩, h4⟩ := h
      exact ps_for G.own G.g.calm (pi_all it sc _ E X _ _ G.g h3) (pg_all G.g.calm G.g.hN G.g.nd G.g.hsc G.g.fnE h2) (pss_all b E X _ G h4) (fun x => fold_of h1 _ x)
    · cases h
  | .whl c b, E, X, st, G, h => by
    unfold chkS at h
    split at h
    · simp only [Bool.and_eq_true] at h
      obtain ⟨⟨h1, h2⟩, h3⟩ := h
      exact ps_while G.own (pt_all c sc _ E X _ G.g h1 h2) (pss_all b E X _ G h3)
    · cases h
  | .ret e, E, X, st, G, h => by
    unfold chkS at h
    split at h
    · exact ps_ret (pe_all e sc _ E X _ G.g h)
    · cases h
  | .retO i, E, X, st, G, h => by
    unfold chkS at h
    split at h
    · exact ps_ret (pe_all (.var i) sc _ E X _ G.g h)
    · cases h
  | .exp e, E, X, st, G, h => by
    unfold chkS at h
    split at h
    · simp only [Bool.and_eq_true] at h
      exact ps_expr (pe_all e sc _ E X _ G.g h.2) (notComp_sw h.1)
    · cases h
  | .rse c, E, X, st, G, h => by
    unfold chkS at h
    split at h
    · simp only [Bool.and_eq_true, decide_eq_true_eq] at h
      obtain ⟨⟨h1, h2⟩, h3⟩ := h
      obtain ⟨a, k1, k2, k3, k4, k5, k6⟩ := G.exns _ _ h1
      have e : tOfS X.K cls sp E (.rse c) = fun _ σ H => E σ (.ref a) none H := by
        simp only [tOfS]; rw [k1]
      rw [e]
      exact ps_raise G.g.calm G.takes (pmk_own PySem.F.excBase_ValueError k3 k2 k4 (raises_own k5 k6) (gl_of G.g.hsc h2) (dbg_of h3).1)
    · cases h
  | .frz i, E, X, st, G, h => by simp [chkS] at h
  | .tryx b i hh, E, X, st, G, h => by
    unfold chkS at h
    split at h
    · simp only [Bool.and_eq_true, decide_eq_true_eq] at h
      obtain ⟨⟨⟨⟨⟨⟨⟨h1, h2⟩, h3⟩, h4⟩, h5⟩, h6⟩, h7⟩, h8⟩ := h
      obtain ⟨a0, k1, k2, _⟩ := G.exns _ _ h1
      exact ps_try_as (X := X) (i := i) (ts := tsH X.K cls i hh) (c := cls 0) (Wout := fun c d σ H => E σ c d H) (tb := fun W => tOfSs X.K cls sp (fun σ c d H => W c d σ H) b) G.stk G.frm G.g.nd' (by rw [G.g.hN]; exact h4) (by unfold Env.kindOf; rw [G.g.hsc]; exact isLoc_of h5) ⟨gl_of G.g.hsc h2, (dbg_of h3).1, .inl (by rw [k1]; exact k2)⟩ G.takes
        (fun W pn xe tk po => pss_all b (fun σ c d H => W c d σ H) (X.tr pn xe) _ ⟨⟨G.g.hN, G.g.nd, G.g.hsc, G.g.fnE, G.g.calm, G.g.room, G.g.blt, G.g.fns, G.g.csts, fun σ => passAt tk σ⟩, G.kind, po, tk, G.stk, G.frm, G.exns, G.errs⟩ h8)
        (fun a oe cv d pn hz hf => pss_h G h4 h5 h6 h7 a oe cv d pn hz hf)
    · cases h
theorem pss_all : ∀ (s : CSs) (E : EX) (X : Cx) (sts : List Stmt), GoodS C cls sp k N sc E X → chkSs C N s sc sts = true → PSs X sts (tOfSs X.K cls sp E s)
  | .nil, E, X, sts, G, h => by
    unfold chkSs at h
    split at h
    · exact pss_nil
    · cases h
  | .cons s r, E, X, sts, G, h => by
    unfold chkSs at h
    split at h
    · exact pss_all r E X sts G h
    · split at h
      · simp only [Bool.and_eq_true] at h
        exact pss_cons (ps_all s E X _ G h.1) (pss_all r E X _ G h.2)
      · cases h
end
end
end Cl
set_option Elab.async false
set_option linter.all false
set_option maxRecDepth 100000
set_option maxHeartbeats 1000000
namespace Cl
open PySem

/-! ### reading the core: equations -/
theorem R.bind_congr1 {α β : Type} {a a' : R α} {f : α → R β} (h : a = a') : a.bind f = a'.bind f := by rw [h]
section
variable {cl : Nat → List D → R D} {env : Env} {e a b c r : CE} {es : CEs} {i : Nat}
@[simp] theorem v_var : ev cl (.var i) env = slotV env[i]? := rfl
@[simp] theorem v_bor : ev cl (.bor i) env = (slotO env[i]?).bind fun ds => .ok (.lst ds) := rfl
@[simp] theorem v_cst {k : Cst} : ev cl (.cst k) env = .ok k.d := rfl
@[simp] theorem v_glo {x : Str} {k : Cst} : ev cl (.glo x k) env = .ok k.d := rfl
@[simp] theorem v_bin {op : BOp} : ev cl (.bin op a b) env = (ev cl a env).bind fun x => (ev cl b env).bind fun y => R.ofO (bopF op x y) := rfl
@[simp] theorem v_neg : ev cl (.neg a) env = (ev cl a env).bind fun x => (intD x).bind fun i => .ok (.int (-i)) := rfl
@[simp] theorem v_cmp {op : COp} : ev cl (.cmp op a b) env = (ev cl a env).bind fun x => (ev cl b env).bind fun y => R.ofO ((copF op x y).map D.bl) := rfl
@[simp] theorem v_chn {op op' : COp} : ev cl (.chn op op' a b c) env = (ev cl a env).bind fun x => (ev cl b env).bind fun y => (R.ofO (copF op x y)).bind fun k =>
      if k then (ev cl c env).bind fun z => R.ofO ((copF op' y z).map D.bl) else .ok (.bl false) := rfl
@[simp] theorem v_and : ev cl (.and a r) env = (ev cl a env).bind fun x => (boolD x).bind fun k => if k then (if r.isBor then .bad else ev cl r env) else .ok (.bl false) := rfl
@[simp] theorem v_or : ev cl (.or a r) env = (ev cl a env).bind fun x => (boolD x).bind fun k => if k then .ok (.bl true) else (if r.isBor then .bad else ev cl r env) := rfl
@[simp] theorem v_one : ev cl (.one a) env = if a.isBor then .bad else ev cl a env := rfl
@[simp] theorem v_not : ev cl (.not a) env = (ev cl a env).bind fun x => (boolD x).bind fun k => .ok (.bl !k) := rfl
@[simp] theorem v_ite : ev cl (.ite c a b) env = (if c.isTest then (ev cl c env).bind boolD else .bad).bind fun k => if k then (if a.isBor then .bad else ev cl a env) else (if b.isBor then .bad else ev cl b env) := rfl
@[simp] theorem v_tup : ev cl (.tup es) env = (evs cl es env).bind fun ds => if ds.length ≤ lim then .ok (.tup ds) else .bad := rfl
@[simp] theorem v_lst : ev cl (.lst es) env = (evs cl es env).bind fun ds => if ds.length ≤ lim then .ok (.lst ds) else .bad := rfl
@[simp] theorem v_idx : ev cl (.idx a b) env = (ev cl a env).bind fun x => (ev cl b env).bind fun y => R.ofO (idxF x y) := rfl
@[simp] theorem v_slc {lo hi : CO} : ev cl (.slc a lo hi) env = (ev cl a env).bind fun x => (evo cl lo env).bind fun l => (evo cl hi env).bind fun h => R.ofO (slcF x l h) := rfl
@[simp] theorem v_revT : ev cl (.revT a) env = (ev cl a env).bind fun x => R.ofO (revTF x) := rfl
@[simp] theorem v_rev : ev cl (.rev a) env = (ev cl a env).bind fun x => R.ofO (revF x) := rfl
@[simp] theorem v_call {f : Nat} : ev cl (.call f es) env = (evs cl es env).bind fun ds => cl f ds := rfl
@[simp] theorem v_callD {f : Nat} : ev cl (.callD f es) env = (evs cl es env).bind fun ds => if memoArgs ds then memoR (cl f ds) else .bad := rfl
@[simp] theorem v_bi {t : Bi} : ev cl (.bi t es) env = (evb cl es env).bind fun ds => R.ofO (biF t ds) := rfl
@[simp] theorem v_meth {m : Mt} {o : CE} : ev cl (.meth m o es) env = (ev cl o env).bind fun x => if mtTy m x then (evb cl es env).bind fun ds => R.ofO (mtF m x ds) else .bad := rfl
@[simp] theorem v_rgl : ev cl (.rgl es) env = (evr cl es env).bind fun ds => .ok (.lst ds) := rfl
@[simp] theorem v_rgt1 : ev cl (.rgt (.cons a .nil)) env = (evr cl (.cons a .nil) env).bind fun ds => .ok (.tup ds) := rfl
@[simp] theorem v_rgt2 : ev cl (.rgt (.cons a (.cons b .nil))) env = (evr cl (.cons a (.cons b .nil)) env).bind fun ds => .ok (.tup ds) := rfl
@[simp] theorem v_callAt {fs : List Nat} : ev cl (.callAt fs a es) env = if fs.length ≤ lim then (ev cl a env).bind fun x => (intD x).bind fun i => (R.ofO (L2.atI fs i)).bind fun f => (evs cl es env).bind fun ds => cl f ds else .bad := rfl
@[simp] theorem v_lset : ev cl (.lset e) env = (ev cl e env).bind fun x => R.ofO (lsetF x) := rfl
@[simp] theorem v_sset : ev cl (.sset e) env = (ev cl e env).bind fun x => R.ofO (ssetF x) := rfl
@[simp] theorem v_isi {t : Ty} : ev cl (.isi t e) env = (ev cl e env).bind fun x => .ok (.bl (isiF t x)) := rfl
@[simp] theorem vs_nil : evs cl .nil env = .ok [] := rfl
@[simp] theorem vs_cons : evs cl (.cons e es) env = if e.isBor then .bad else (ev cl e env).bind fun d => (evs cl es env).bind fun ds => .ok (d :: ds) := rfl
@[simp] theorem vb_nil : evb cl .nil env = .ok [] := rfl
@[simp] theorem vb_cons : evb cl (.cons e es) env = (ev cl e env).bind fun d => (evb cl es env).bind fun ds => .ok (d :: ds) := rfl
@[simp] theorem vo_none : evo cl .none env = .ok none := rfl
@[simp] theorem vo_some : evo cl (.some e) env = (ev cl e env).bind fun x => (intD x).bind fun i => .ok (some i) := rfl
@[simp] theorem vt_none : evt cl .none env = .ok true := rfl
@[simp] theorem vt_some : evt cl (.some e) env = if e.isTest then (ev cl e env).bind boolD else .bad := rfl
@[simp] theorem vr_one : evr cl (.cons a .nil) env = (ev cl a env).bind fun x => (intD x).bind fun i => rgD 0 i := rfl
@[simp] theorem vr_three : evr cl (.cons a (.cons b (.cons c .nil))) env = (ev cl a env).bind fun x => (ev cl b env).bind fun y => (ev cl c env).bind fun z => (intD x).bind fun i => (intD y).bind fun j => (intD z).bind fun k => rgCD i j k := rfl
@[simp] theorem vr_two : evr cl (.cons a (.cons b .nil)) env = (ev cl a env).bind fun x => (ev cl b env).bind fun y => (intD x).bind fun i => (intD y).bind fun j => rgD i j := rfl
@[simp] theorem vi_lst : evi cl (.lst e) env = (ev cl e env).bind lstD := rfl
@[simp] theorem vi_tup : evi cl (.tup e) env = (ev cl e env).bind tupD := rfl
@[simp] theorem vi_str : evi cl (.str e) env = (ev cl e env).bind strI := rfl
@[simp] theorem vi_enumS : evi cl (.enumS e) env = (ev cl e env).bind fun x => (strI x).bind fun a => .ok (enumD 0 a) := rfl
@[simp] theorem vi_rng : evi cl (.rng es) env = evr cl es env := rfl
@[simp] theorem vi_enum : evi cl (.enum e) env = (ev cl e env).bind fun x => (lstD x).bind fun a => .ok (enumD 0 a) := rfl
@[simp] theorem vi_zip : evi cl (.zip a b) env = if a.isBor then .bad else if b.isBor then .bad else (ev cl a env).bind fun x => (ev cl b env).bind fun y => zipDD x y := rfl
@[simp] theorem x_asg : ex cl (.asg i e) env = (evV cl e env).bind fun d => .ok (.nx (env.set i (.val d))) := rfl
@[simp] theorem x_own : ex cl (.own i e) env = if e.isNew then (ev cl e env).bind fun d => (lstD d).bind fun ds => .ok (.nx (env.set i (.own ds))) else .bad := rfl
@[simp] theorem x_own2 {j : Nat} : ex cl (.own2 i j) env = if i = j then .bad else .ok (.nx ((env.set i (.own [])).set j (.own []))) := rfl
@[simp] theorem x_par {sw : Bool} {is : List Nat} : ex cl (.par sw is es) env = if (sw = true ∧ is.length ≠ 2 ∧ is.length ≠ 3) ∨ 1000 < is.length then .bad else (evs cl es env).bind fun ds => (setAll is ds env).bind fun env' => .ok (.nx env') := rfl
@[simp] theorem x_unp {t : Tg} : ex cl (.unp t e) env = (evV cl e env).bind fun d => (setTg t d env).bind fun env' => .ok (.nx env') := rfl
@[simp] theorem x_app : ex cl (.app i e) env = (slotO env[i]?).bind fun ds => (evV cl e env).bind fun d => if ds.length < lim then .ok (.nx (env.set i (.own (ds ++ [d])))) else .bad := rfl
@[simp] theorem x_ext : ex cl (.ext i e) env = (slotO env[i]?).bind fun ds => (ev cl e env).bind fun d => (lstD d).bind fun es => if ds.length + es.length ≤ lim then .ok (.nx (env.set i (.own (ds ++ es)))) else .bad := rfl
@[simp] theorem x_six : ex cl (.six i a e) env = (slotO env[i]?).bind fun ds => (evV cl e env).bind fun d => (ev cl a env).bind fun x => (intD x).bind fun k => (R.ofO (L2.ixN ds.length k)).bind fun j => .ok (.nx (env.set i (.own (ds.set j d)))) := rfl
@[simp] theorem x_ite {p q : CSs} : ex cl (.ite c p q) env = (evT cl c env).bind fun k => if k then exs cl p env else exs cl q env := rfl
@[simp] theorem x_for {t : Tg} {it : CI} {p : CSs} : ex cl (.forr t it p) env = if it.noBor then (evi cl it env).bind fun ds => forL (fun d e => (setTg t d e).bind fun e1 => exs cl p e1) ds env else .bad := rfl
@[simp] theorem x_whl {p : CSs} : ex cl (.whl c p) env = whileL (evT cl c) (exs cl p) whFuel env := rfl
@[simp] theorem x_ret : ex cl (.ret e) env = (evV cl e env).bind fun d => .ok (.rt d) := rfl
@[simp] theorem x_retO : ex cl (.retO i) env = (slotO env[i]?).bind fun ds => .ok (.rt (.lst ds)) := rfl
@[simp] theorem x_exp : ex cl (.exp e) env = (ev cl e env).bind fun _ => .ok (.nx env) := rfl
@[simp] theorem x_rse : ex cl (.rse i) env = .exc i := rfl
@[simp] theorem x_tryx {p : CSs} {h : HE} : ex cl (.tryx p i h) env = catchR (fun c => (R.ofO (evh c h)).bind fun d => .ok (.rt d)) (exs cl p env) := rfl
@[simp] theorem x_frz : ex cl (.frz i) env = (slotO env[i]?).bind fun ds => .ok (.nx (env.set i (.val (.lst ds)))) := rfl
@[simp] theorem xs_nil : exs cl .nil env = .ok (.nx env) := rfl
@[simp] theorem xs_cons {s : CS} {p : CSs} : exs cl (.cons s p) env = (ex cl s env).bind (Fl.next fun env' => exs cl p env') := rfl
@[simp] theorem v_T : evT cl e env = if e.isTest then (ev cl e env).bind boolD else .bad := rfl
@[simp] theorem v_V : evV cl e env = if e.isBor then .bad else ev cl e env := rfl
end
@[simp] theorem next_nx {k : Env → R Fl} {env : Env} : Fl.next k (.nx env) = k env := rfl
@[simp] theorem next_rt {k : Env → R Fl} {d : D} : Fl.next k (.rt d) = .ok (.rt d) := rfl
@[simp] theorem catch_ok {α : Type} {f : Nat → R α} {x : α} : catchR f (.ok x) = .ok x := rfl
@[simp] theorem catch_exc {α : Type} {f : Nat → R α} {c : Nat} : catchR f (.exc c) = f c := rfl
@[simp] theorem outR_nx {env : Env} : outR (.ok (.nx env)) = .ok .non := rfl
@[simp] theorem outR_rt {d : D} : outR (.ok (.rt d)) = .ok d := rfl
@[simp] theorem outR_exc {c : Nat} : outR (.exc c) = .exc c := rfl
@[simp] theorem slotV_val {d : D} : slotV (some (.val d)) = .ok d := rfl
@[simp] theorem slotO_own {ds : List D} : slotO (some (.own ds)) = .ok ds := rfl
@[simp] theorem intD_int {i : Int} : intD (.int i) = .ok i := rfl
@[simp] theorem boolD_bl {k : Bool} : boolD (.bl k) = .ok k := rfl
@[simp] theorem lstD_lst {a : List D} : lstD (.lst a) = .ok a := rfl
@[simp] theorem strI_str {x : Str} : strI (.str x) = .ok (strD x) := rfl
@[simp] theorem tupD_tup {a : List D} : tupD (.tup a) = .ok a := rfl
@[simp] theorem setAll_nil {env : Env} : setAll [] [] env = .ok env := rfl
@[simp] theorem setAll_cons {i : Nat} {is : List Nat} {d : D} {ds : List D} {env : Env} : setAll (i :: is) (d :: ds) env = setAll is ds (env.set i (.val d)) := rfl
@[simp] theorem setTg_nm {i : Nat} {d : D} {env : Env} : setTg (.nm i) d env = .ok (env.set i (.val d)) := rfl
@[simp] theorem setTg_tp {is : List Nat} {ds : List D} {env : Env} : setTg (.tp is) (.tup ds) env = setAll is ds env := rfl
@[simp] theorem setTg_tpL {is : List Nat} {ds : List D} {env : Env} : setTg (.tp is) (.lst ds) env = setAll is ds env := rfl
@[simp] theorem wipe_nil {env : Env} : wipeE env [] = env := rfl
@[simp] theorem wipe_cons {env : Env} {v : Nat} {vs : List Nat} : wipeE env (v :: vs) = (wipeE env vs).set v .no := rfl
@[simp] theorem inn_nm {i : Nat} {vs : List Nat} : Tg.inn (.nm i) vs = vs.contains i := rfl
@[simp] theorem inn_tp {is vs : List Nat} : Tg.inn (.tp is) vs = is.all vs.contains := rfl
@[simp] theorem bor_not {e : CE} : CE.isBor (.not e) = false := rfl
section
variable {a b c r : CE} {es : CEs} {i : Nat}
@[simp] theorem isBor_var : CE.isBor (.var i) = false := rfl
@[simp] theorem isBor_bor : CE.isBor (.bor i) = true := rfl
@[simp] theorem isBor_cst {k : Cst} : CE.isBor (.cst k) = false := rfl
@[simp] theorem isBor_glo {x : Str} {k : Cst} : CE.isBor (.glo x k) = false := rfl
@[simp] theorem isBor_bin {o : BOp} : CE.isBor (.bin o a b) = false := rfl
@[simp] theorem isBor_neg : CE.isBor (.neg a) = false := rfl
@[simp] theorem isBor_cmp {o : COp} : CE.isBor (.cmp o a b) = false := rfl
@[simp] theorem isBor_chn {o o' : COp} : CE.isBor (.chn o o' a b c) = false := rfl
@[simp] theorem isBor_and : CE.isBor (.and a r) = false := rfl
@[simp] theorem isBor_or : CE.isBor (.or a r) = false := rfl
@[simp] theorem isBor_one : CE.isBor (.one a) = false := rfl
@[simp] theorem isBor_ite : CE.isBor (.ite c a b) = false := rfl
@[simp] theorem isBor_tup : CE.isBor (.tup es) = false := rfl
@[simp] theorem isBor_lst : CE.isBor (.lst es) = false := rfl
@[simp] theorem isBor_idx : CE.isBor (.idx a b) = false := rfl
@[simp] theorem isBor_slc {lo hi : CO} : CE.isBor (.slc a lo hi) = false := rfl
@[simp] theorem isBor_revT : CE.isBor (.revT a) = false := rfl
@[simp] theorem isBor_rev : CE.isBor (.rev a) = false := rfl
@[simp] theorem isBor_call : CE.isBor (.call i es) = false := rfl
@[simp] theorem isBor_bi {t : Bi} : CE.isBor (.bi t es) = false := rfl
@[simp] theorem isBor_meth {t : Mt} : CE.isBor (.meth t a es) = false := rfl
@[simp] theorem isBor_rgl : CE.isBor (.rgl es) = false := rfl
@[simp] theorem isBor_rgt : CE.isBor (.rgt es) = false := rfl
@[simp] theorem isBor_lc {t : Tg} {it : CI} {co : CO} {vs : List Nat} : CE.isBor (.lc a t it co vs) = false := rfl
@[simp] theorem isBor_lc2 {t t1 : Tg} {it it1 : CI} {co co1 : CO} {vs vs1 : List Nat} : CE.isBor (.lc2 a t it co t1 it1 co1 vs vs1) = false := rfl
@[simp] theorem isNew_lc2 {t t1 : Tg} {it it1 : CI} {co co1 : CO} {vs vs1 : List Nat} : CE.isNew (.lc2 a t it co t1 it1 co1 vs vs1) = true := rfl
@[simp] theorem isBor_callD : CE.isBor (.callD i es) = false := rfl
@[simp] theorem memoR_int {v : Int} : memoR (.ok (.int v)) = .ok (.int v) := rfl
@[simp] theorem isBor_callAt {fs : List Nat} : CE.isBor (.callAt fs a es) = false := rfl
@[simp] theorem isBor_lset : CE.isBor (.lset a) = false := rfl
@[simp] theorem isNew_add : CE.isNew (.bin .add a b) = true := rfl
@[simp] theorem isBor_sset : CE.isBor (.sset a) = false := rfl
@[simp] theorem isBor_isi {t : Ty} : CE.isBor (.isi t a) = false := rfl
@[simp] theorem isTest_and : CE.isTest (.and a r) = (a.isTest && r.isTest) := rfl
@[simp] theorem isTest_or : CE.isTest (.or a r) = (a.isTest && r.isTest) := rfl
@[simp] theorem isTest_one : CE.isTest (.one a) = a.isTest := rfl
@[simp] theorem isTest_not : CE.isTest (.not a) = a.isTest := rfl
@[simp] theorem isTest_var : CE.isTest (.var i) = true := rfl
@[simp] theorem isTest_cmp {o : COp} : CE.isTest (.cmp o a b) = true := rfl
@[simp] theorem isTest_chn {o o' : COp} : CE.isTest (.chn o o' a b c) = true := rfl
@[simp] theorem isTest_call : CE.isTest (.call i es) = true := rfl
@[simp] theorem isTest_bi {t : Bi} : CE.isTest (.bi t es) = true := rfl
@[simp] theorem isTest_isi {t : Ty} : CE.isTest (.isi t a) = true := rfl
@[simp] theorem isTest_idx : CE.isTest (.idx a b) = true := rfl
@[simp] theorem isNew_lst : CE.isNew (.lst es) = true := rfl
@[simp] theorem isNew_lc {t : Tg} {it : CI} {co : CO} {vs : List Nat} : CE.isNew (.lc a t it co vs) = true := rfl
@[simp] theorem isNew_mul : CE.isNew (.bin .mul (.lst es) b) = true := rfl
@[simp] theorem noBor_lst : CI.noBor (.lst a) = !a.isBor := rfl
@[simp] theorem noBor_str : CI.noBor (.str a) = !a.isBor := rfl
@[simp] theorem noBor_enumS : CI.noBor (.enumS a) = !a.isBor := rfl
@[simp] theorem noBor_tup : CI.noBor (.tup a) = !a.isBor := rfl
@[simp] theorem noBor_rng : CI.noBor (.rng es) = true := rfl
@[simp] theorem noBor_enum : CI.noBor (.enum a) = !a.isBor := rfl
@[simp] theorem noBor_zip : CI.noBor (.zip a b) = (!a.isBor && !b.isBor) := rfl
@[simp] theorem cst_int {i : Int} : Cst.d (.int i) = .int i := rfl
@[simp] theorem cst_bl {i : Bool} : Cst.d (.bl i) = .bl i := rfl
@[simp] theorem cst_str {i : Str} : Cst.d (.str i) = .str i := rfl
@[simp] theorem cst_non : Cst.d .non = .non := rfl
end
/-! ### operators on whole numbers -/
@[simp] theorem b_add (i j : Int) : bopF .add (.int i) (.int j) = some (.int (i + j)) := rfl
@[simp] theorem b_sub (i j : Int) : bopF .sub (.int i) (.int j) = some (.int (i - j)) := rfl
theorem b_mulL (i j : Int) (h : -big < i ∧ i < big) : bopF .mul (.int i) (.int j) = some (.int (i * j)) := by simp [bopF, h]
theorem b_mulR (i j : Int) (h : -big < j ∧ j < big) : bopF .mul (.int i) (.int j) = some (.int (i * j)) := by simp [bopF, h]
theorem b_mod (i j : Int) (h : 0 < j) : bopF .mod (.int i) (.int j) = some (.int (i % j)) := by simp [bopF, h]
theorem b_fdiv (i j : Int) (h : 0 < j ∧ j < big) : bopF .fdiv (.int i) (.int j) = some (.int (i / j)) := by simp [bopF, h]
theorem b_addT (a b : List D) (h : a.length + b.length ≤ lim) : bopF .add (.tup a) (.tup b) = some (.tup (a ++ b)) := by simp [bopF, h]
theorem b_addL (a b : List D) (h : a.length + b.length ≤ lim) : bopF .add (.lst a) (.lst b) = some (.lst (a ++ b)) := by simp [bopF, h]
@[simp] theorem c_lt (i j : Int) : copF .lt (.int i) (.int j) = some (decide (i < j)) := rfl
@[simp] theorem c_le (i j : Int) : copF .le (.int i) (.int j) = some (decide (i ≤ j)) := rfl
@[simp] theorem c_gt (i j : Int) : copF .gt (.int i) (.int j) = some (decide (j < i)) := rfl
@[simp] theorem c_ge (i j : Int) : copF .ge (.int i) (.int j) = some (decide (j ≤ i)) := rfl
@[simp] theorem c_isb (i j : Bool) : copF .is (.bl i) (.bl j) = some (decide (i = j)) := rfl
@[simp] theorem c_isnb (i j : Bool) : copF .isnot (.bl i) (.bl j) = some (!decide (i = j)) := rfl
/-! ### equality: encodings -/
def EqE {α : Type} [DecidableEq α] (f : α → D) : Prop := ∀ a b, deq (f a) (f b) = decide (a = b)
def OkE {α : Type} (n : Nat) (f : α → D) : Prop := ∀ a, (f a).pd.canLay0 = true ∧ (f a).pd.depth ≤ n
theorem eqE_int : EqE D.int := fun a b => by simp [deq, D.pd, PyData.eqv]; rfl
theorem eqE_bl : EqE D.bl := fun a b => by simp [deq, D.pd, PyData.eqv]; cases a <;> cases b <;> rfl
theorem eqvAll_enc {α : Type} [DecidableEq α] {f : α → D} (h : EqE f) : ∀ a b : List α, PyData.eqvAll (D.pds (a.map f)) (D.pds (b.map f)) = decide (a = b)
  | [], [] => by simp [D.pds, PyData.eqvAll]
  | [], _ :: _ => by simp [D.pds, PyData.eqvAll]
  | _ :: _, [] => by simp [D.pds, PyData.eqvAll]
  | x :: a, y :: b => by
    have e := h x y
    unfold deq at e
    simp only [List.map_cons, D.pds, PyData.eqvAll, e, eqvAll_enc h a b]
    by_cases h1 : x = y <;> by_cases h2 : a = b <;> simp [h1, h2]
theorem EqE.tup {α : Type} [DecidableEq α] {f : α → D} (h : EqE f) : EqE fun l : List α => D.tup (l.map f) := fun a b => by
  unfold deq
  simp only [D.pd, PyData.eqv]
  exact eqvAll_enc h a b
theorem EqE.lst {α : Type} [DecidableEq α] {f : α → D} (h : EqE f) : EqE fun l : List α => D.lst (l.map f) := fun a b => by
  unfold deq
  simp only [D.pd, PyData.eqv]
  exact eqvAll_enc h a b
theorem okE_int : OkE 0 D.int := fun a => by simp [D.pd, PyData.canLay0, PyData.depth]
theorem okE_bl : OkE 0 D.bl := fun a => by simp [D.pd, PyData.canLay0, PyData.depth]
theorem okAll_enc {α : Type} {f : α → D} {n : Nat} (h : OkE n f) : ∀ l : List α, PyData.canLayAll0 (D.pds (l.map f)) = true ∧ PyData.depthAll (D.pds (l.map f)) ≤ n
  | [] => by simp [D.pds, PyData.canLayAll0, PyData.depthAll]
  | x :: a => by
    have e := h x
    have r := okAll_enc h a
    simp only [List.map_cons, D.pds, PyData.canLayAll0, PyData.depthAll, e.1, r.1, Bool.and_self, true_and]
    omega
theorem OkE.tup {α : Type} {f : α → D} {n : Nat} (h : OkE n f) : OkE (n + 1) fun l : List α => D.tup (l.map f) := fun l => by
  have r := okAll_enc h l
  simp only [D.pd, PyData.canLay0, PyData.depth, r.1, true_and]
  omega
theorem OkE.lst {α : Type} {f : α → D} {n : Nat} (h : OkE n f) : OkE (n + 1) fun l : List α => D.lst (l.map f) := fun l => by
  have r := okAll_enc h l
  simp only [D.pd, PyData.canLay0, PyData.depth, r.1, true_and]
  omega
theorem OkE.ok {α : Type} {f : α → D} {n : Nat} (h : OkE n f) (hn : n ≤ 64) (a : α) : (f a).okD = true := by
  unfold D.okD SeqAt.shaped
  have := h a
  simp only [this.1, Bool.true_and, decide_eq_true_eq]
  omega
@[simp] theorem ok_int (i : Int) : (D.int i).okD = true := okE_int.ok (by decide) i
@[simp] theorem ok_bl (i : Bool) : (D.bl i).okD = true := okE_bl.ok (by decide) i
@[simp] theorem ok_tI (l : List Int) : (D.tup (l.map D.int)).okD = true := okE_int.tup.ok (by decide) l
@[simp] theorem ok_lI (l : List Int) : (D.lst (l.map D.int)).okD = true := okE_int.lst.ok (by decide) l
@[simp] theorem ok_lB (l : List Bool) : (D.lst (l.map D.bl)).okD = true := okE_bl.lst.ok (by decide) l
@[simp] theorem ok_lT (l : List (List Int)) : (D.lst (l.map fun t => D.tup (t.map D.int))).okD = true := okE_int.tup.lst.ok (by decide) l
@[simp] theorem ok_nilL : (D.lst []).okD = true := ok_lI []
@[simp] theorem ok_nilT : (D.tup []).okD = true := ok_tI []
@[simp] theorem eq_int (i j : Int) : deq (.int i) (.int j) = decide (i = j) := eqE_int i j
@[simp] theorem eq_bl (i j : Bool) : deq (.bl i) (.bl j) = decide (i = j) := eqE_bl i j
@[simp] theorem eq_tI (l m : List Int) : deq (.tup (l.map D.int)) (.tup (m.map D.int)) = decide (l = m) := eqE_int.tup l m
@[simp] theorem eq_lI (l m : List Int) : deq (.lst (l.map D.int)) (.lst (m.map D.int)) = decide (l = m) := eqE_int.lst l m
@[simp] theorem eq_lT (l m : List (List Int)) : deq (.lst (l.map fun t => D.tup (t.map D.int))) (.lst (m.map fun t => D.tup (t.map D.int))) = decide (l = m) := eqE_int.tup.lst l m
@[simp] theorem eq_tI_nil (l : List Int) : deq (.tup (l.map D.int)) (.tup []) = decide (l = []) := eqE_int.tup l []
@[simp] theorem eq_lI_nil (l : List Int) : deq (.lst (l.map D.int)) (.lst []) = decide (l = []) := eqE_int.lst l []
@[simp] theorem eq_lT_nil (l : List (List Int)) : deq (.lst (l.map fun t => D.tup (t.map D.int))) (.lst []) = decide (l = []) := eqE_int.tup.lst l []
theorem any_enc {α : Type} [DecidableEq α] {f : α → D} (h : EqE f) (l : List α) (a : α) : ((l.map f).any fun z => deq z (f a)) = decide (a ∈ l) := by
  rw [List.any_map]
  simp only [Function.comp_def, h _ _]
  rw [Bool.eq_iff_iff]
  simp
@[simp] theorem any_int (l : List Int) (a : Int) : ((l.map D.int).any fun z => deq z (.int a)) = decide (a ∈ l) := any_enc eqE_int l a
@[simp] theorem any_tI (l : List (List Int)) (a : List Int) : ((l.map fun t => D.tup (t.map D.int)).any fun z => deq z (.tup (a.map D.int))) = decide (a ∈ l) := (any_enc eqE_int.tup l a).trans (by simp)
@[simp] theorem c_eq {d e : D} (h : d.okD = true) (k : e.okD = true) : copF .eq d e = some (deq d e) := by simp [copF, h, k]
@[simp] theorem c_ne {d e : D} (h : d.okD = true) (k : e.okD = true) : copF .ne d e = some (!deq d e) := by simp [copF, h, k]
theorem c_inL {d : D} {ds : List D} (h : d.okD = true) (k : (D.lst ds).okD = true) : copF .isin d (.lst ds) = some (ds.any fun z => deq z d) := by cases d <;> simp [copF, h, k]
theorem c_inT {d : D} {ds : List D} (h : d.okD = true) (k : (D.tup ds).okD = true) : copF .isin d (.tup ds) = some (ds.any fun z => deq z d) := by cases d <;> simp [copF, h, k]
theorem c_ninL {d : D} {ds : List D} (h : d.okD = true) (k : (D.lst ds).okD = true) : copF .notin d (.lst ds) = some (!ds.any fun z => deq z d) := by cases d <;> simp [copF, h, k]
theorem c_ninT {d : D} {ds : List D} (h : d.okD = true) (k : (D.tup ds).okD = true) : copF .notin d (.tup ds) = some (!ds.any fun z => deq z d) := by cases d <;> simp [copF, h, k]
/-! ### built-ins -/
@[simp] theorem bi_lenT (a : List D) : biF .len [.tup a] = some (.int a.length) := rfl
@[simp] theorem bi_lenL (a : List D) : biF .len [.lst a] = some (.int a.length) := rfl
@[simp] theorem bi_lenS (a : List Int) : biF .len [.scr a] = some (.int a.length) := rfl
@[simp] theorem bi_sum (a : List Int) : biF .sum [.lst (a.map D.int)] = some (.int a.sum) := by simp [biF, ints?_map]
@[simp] theorem bi_all (a : List Bool) : biF .all [.lst (a.map D.bl)] = some (.bl (a.all id)) := by simp [biF, bools?_map]
@[simp] theorem bi_any (a : List Bool) : biF .any [.lst (a.map D.bl)] = some (.bl (a.any id)) := by simp [biF, bools?_map]
@[simp] theorem bi_tupL (a : List D) : biF .tuple [.lst a] = some (.tup a) := rfl
@[simp] theorem bi_tupT (a : List D) : biF .tuple [.tup a] = some (.tup a) := rfl
@[simp] theorem bi_lstL (a : List D) : biF .list [.lst a] = some (.lst a) := rfl
@[simp] theorem bi_lstT (a : List D) : biF .list [.tup a] = some (.lst a) := rfl
@[simp] theorem bi_int (i : Int) : biF .int [.int i] = some (.int i) := rfl
@[simp] theorem bi_min2 (i j : Int) : biF .min [.int i, .int j] = some (.int (if j < i then j else i)) := rfl
@[simp] theorem bi_max2 (i j : Int) : biF .max [.int i, .int j] = some (.int (if j > i then j else i)) := rfl
theorem rgD_is (a b : Int) (h : -100000 ≤ a ∧ a ≤ 100000 ∧ -100000 ≤ b ∧ b ≤ 100000) : rgD a b = .ok ((rgI a b).map D.int) := by simp [rgD, okRg, h]
theorem mem_rgI {a b x : Int} : x ∈ rgI a b ↔ a ≤ x ∧ x < b := by
  unfold rgI
  simp only [List.mem_map, List.mem_range]
  constructor
  · rintro ⟨n, h, rfl⟩
    omega
  · rintro ⟨h1, h2⟩
    exact ⟨(x - a).toNat, by omega, by omega⟩
@[simp] theorem length_rgI (a b : Int) : (rgI a b).length = (b - a).toNat := by simp [rgI]
/-! ### loops -/
theorem comp_map {α : Type} {f : D → R (Option D)} {e : α → D} {g : α → Option D} : ∀ {l : List α}, (∀ x ∈ l, f (e x) = .ok (g x)) → comp f (l.map e) = .ok (l.filterMap g)
  | [], _ => rfl
  | x :: l, h => by
    have r := comp_map (l := l) fun y hy => h y (List.mem_cons_of_mem _ hy)
    simp only [List.map_cons, comp, h x List.mem_cons_self, r, R.bind_ok]
    cases q : g x with
    | none => simp [optL, q]
    | some y => simp [optL, q]
section
variable {cl : Nat → List D → R D} {env : Env} {elt ce : CE} {t : Tg} {it : CI} {vs : List Nat} {α : Type} {l : List α} {e : α → D} {d : α → D}
theorem lc_map (hi : evi cl it env = .ok (l.map e)) (hl : l.length ≤ lim) (ht : t.inn vs = true) (hb : elt.isBor = false) (h : ∀ x ∈ l, ((setTg t (e x) (wipeE env vs)).bind fun e1 => ev cl elt e1) = .ok (d x)) : ev cl (.lc elt t it .none vs) env = .ok (.lst (l.map d)) := by
  show (evi cl it env).bind _ = _
  rw [hi, R.bind_ok, if_pos ⟨by simpa using hl, ht, hb⟩, comp_map (g := fun x => some (d x)) fun x hx => ?_]
  · simp
  · have := h x hx
    cases q : setTg t (e x) (wipeE env vs) with
    | ok e1 => rw [q] at this; simp only [R.bind_ok] at this ⊢; simp [optB, this]
    | exc c => rw [q] at this; cases this
    | bad => rw [q] at this; cases this
theorem lc_filter {c : α → Bool} (hi : evi cl it env = .ok (l.map e)) (hl : l.length ≤ lim) (ht : t.inn vs = true) (hb : elt.isBor = false) (hc : ∀ x ∈ l, ((setTg t (e x) (wipeE env vs)).bind fun e1 => evt cl (.some ce) e1) = .ok (c x))
    (h : ∀ x ∈ l, c x = true → ((setTg t (e x) (wipeE env vs)).bind fun e1 => ev cl elt e1) = .ok (d x)) : ev cl (.lc elt t it (.some ce) vs) env = .ok (.lst ((l.filter c).map d)) := by
  show (evi cl it env).bind _ = _
  rw [hi, R.bind_ok, if_pos ⟨by simpa using hl, ht, hb⟩, comp_map (g := fun x => if c x then some (d x) else none) fun x hx => ?_]
  · simp only [R.bind_ok]
    congr 2
    rw [← List.filterMap_eq_map, List.filterMap_filter]
    rfl
  · have h1 := hc x hx
    have h2 := h x hx
    cases q : setTg t (e x) (wipeE env vs) with
    | ok e1 =>
      rw [q] at h1 h2
      simp only [R.bind_ok] at h1 h2 ⊢
      rw [h1]
      cases hb : c x with
      | false => rfl
      | true => simp [optB, h2 hb]
    | exc c => rw [q] at h1; cases h1
    | bad => rw [q] at h1; cases h1
end
/-- a loop that keeps I -/
theorem for_inv {α : Type} {f : D → Env → R Fl} {e : α → D} (I : Env → Prop) : ∀ {l : List α}, (∀ x ∈ l, ∀ env, I env → ∃ env', f (e x) env = .ok (.nx env') ∧ I env') → ∀ env, I env → ∃ env', forL f (l.map e) env = .ok (.nx env') ∧ I env'
  | [], _, env, h => ⟨env, rfl, h⟩
  | x :: l, h, env, hI => by
    obtain ⟨e1, h1, h2⟩ := h x List.mem_cons_self env hI
    obtain ⟨e2, h3, h4⟩ := for_inv I (fun y hy => h y (List.mem_cons_of_mem _ hy)) e1 h2
    exact ⟨e2, by simp [forL, h1, h3], h4⟩
theorem exs_nx {cl : Nat → List D → R D} {s : CS} {p : CSs} {env e1 : Env} (h : ex cl s env = .ok (.nx e1)) : exs cl (.cons s p) env = exs cl p e1 := by simp [h]
theorem run_eq {G : Tab} {f : Nat} {F : Fn} {ds : List D} {k : Nat} (h : G f = some F) (hl : ds.length = F.np) : run G (k + 1) f ds = outR (exs (run G k) F.body (startE F.np F.ns ds)) := by
  simp [run, h, hl]
end Cl
set_option Elab.async false
set_option linter.all false
set_option maxRecDepth 100000
set_option maxHeartbeats 1000000
namespace Cl
open PySem
/-! ### better served calls give the same answers -/
def Rle {α : Type} (r r' : R α) : Prop := r = .bad ∨ r = r'
theorem Rle.refl {α : Type} (r : R α) : Rle r r := .inr rfl
theorem Rle.bad {α : Type} {r : R α} : Rle .bad r := .inl rfl
theorem Rle.ok {α : Type} {r r' : R α} {a : α} (h : Rle r r') (e : r = .ok a) : r' = .ok a := by
  rcases h with h | h
  · rw [h] at e; cases e
  · rw [← h]; exact e
theorem Rle.bind {α β : Type} {r r' : R α} {f f' : α → R β} (h : Rle r r') (g : ∀ a, Rle (f a) (f' a)) : Rle (r.bind f) (r'.bind f') := by
  rcases h with rfl | rfl
  · exact .inl rfl
  · cases r with
    | ok a => exact g a
    | exc c => exact .inr rfl
    | bad => exact .inl rfl
theorem Rle.ite {α : Type} {c : Prop} [Decidable c] {a a' b b' : R α} (h : Rle a a') (g : Rle b b') : Rle (if c then a else b) (if c then a' else b') := by
  split
  · exact h
  · exact g
theorem Rle.bind_r {α β : Type} {r r' : R α} {f : α → R β} (h : Rle r r') : Rle (r.bind f) (r'.bind f) := h.bind fun _ => .refl _
theorem Rle.bind_l {α β : Type} {r : R α} {f f' : α → R β} (g : ∀ a, Rle (f a) (f' a)) : Rle (r.bind f) (r.bind f') := (Rle.refl r).bind g
theorem comp_mono {f f' : D → R (Option D)} (h : ∀ d, Rle (f d) (f' d)) : ∀ l, Rle (comp f l) (comp f' l)
  | [] => .refl _
  | x :: r => by
    simp only [comp]
    rcases h x with e | e
    · rw [e]; exact .bad
    · rw [← e]
      cases f x with
      | ok o => exact (comp_mono h r).bind_r
      | exc c => exact .refl _
      | bad => exact .refl _
theorem compCat_mono {f f' : D → R (List D)} (h : ∀ d, Rle (f d) (f' d)) : ∀ l, Rle (compCat f l) (compCat f' l)
  | [] => .refl _
  | x :: r => by
    simp only [compCat]
    rcases h x with e | e
    · rw [e]; exact .bad
    · rw [← e]
      cases f x with
      | ok o => exact (compCat_mono h r).bind_r
      | exc c => exact .refl _
      | bad => exact .refl _
theorem memoR_mono {r r' : R D} (h : Rle r r') : Rle (memoR r) (memoR r') := by
  rcases h with e | e
  · rw [e]; exact .bad
  · rw [e]; exact .refl _
def Le (cl cl' : Nat → List D → R D) : Prop := ∀ f ds, Rle (cl f ds) (cl' f ds)
section
variable {cl cl' : Nat → List D → R D} (h : Le cl cl')
include h
mutual
theorem ev_mono : ∀ (e : CE) (env : Env), Rle (ev cl e env) (ev cl' e env)
  | .var i, env => .refl _
  | .bor i, env => .refl _
  | .cst c, env => .refl _
  | .glo _ c, env => .refl _
  | .bin op a b, env => (ev_mono a env).bind fun _ => (ev_mono b env).bind_r
  | .neg a, env => (ev_mono a env).bind_r
  | .cmp op a b, env => (ev_mono a env).bind fun _ => (ev_mono b env).bind_r
  | .chn op op' a b c, env => (ev_mono a env).bind fun _ => (ev_mono b env).bind fun _ => Rle.bind_l fun _ => .ite (ev_mono c env).bind_r (.refl _)
  | .and a r, env => (ev_mono a env).bind fun _ => Rle.bind_l fun _ => .ite (.ite (.refl _) (ev_mono r env)) (.refl _)
  | .or a r, env => (ev_mono a env).bind fun _ => Rle.bind_l fun _ => .ite (.refl _) (.ite (.refl _) (ev_mono r env))
  | .one a, env => .ite (.refl _) (ev_mono a env)
  | .not a, env => (ev_mono a env).bind_r
  | .ite c a b, env => Rle.bind (.ite (ev_mono c env).bind_r (.refl _)) fun _ => .ite (.ite (.refl _) (ev_mono a env)) (.ite (.refl _) (ev_mono b env))
  | .tup es, env => (evs_mono es env).bind_r
  | .lst es, env => (evs_mono es env).bind_r
  | .idx a b, env => (ev_mono a env).bind fun _ => (ev_mono b env).bind_r
  | .slc a lo hi, env => (ev_mono a env).bind fun _ => (evo_mono lo env).bind fun _ => (evo_mono hi env).bind_r
  | .rev a, env => (ev_mono a env).bind_r
  | .revT a, env => (ev_mono a env).bind_r
  | .call f es, env => (evs_mono es env).bind fun ds => h f ds
  | .callD f es, env => (evs_mono es env).bind fun ds => .ite (memoR_mono (h f ds)) (.refl _)
  | .callAt fs ix es, env => .ite ((ev_mono ix env).bind fun _ => Rle.bind_l fun _ => Rle.bind_l fun f => (evs_mono es env).bind fun ds => h f ds) (.refl _)
  | .bi b es, env => (evb_mono es env).bind_r
  | .meth m o es, env => (ev_mono o env).bind fun _ => .ite (evb_mono es env).bind_r (.refl _)
  | .rgl es, env => (evr_mono es env).bind_r
  | .rgt es, env => by
    unfold ev
    split
    · exact .refl _
    · exact (evr_mono es env).bind_r
  | .lc elt t it c vs, env => (evi_mono it env).bind fun ds => .ite ((comp_mono (fun d => Rle.bind_l fun e1 => (evt_mono c e1).bind fun k => .ite (ev_mono elt e1).bind_r (.refl _)) ds).bind_r) (.refl _)
  | .lc2 elt t it c t1 it1 c1 vs vs1, env => (evi_mono it env).bind fun ds => .ite ((compCat_mono (fun d => Rle.bind_l fun e1 => (evt_mono c e1).bind fun k => .ite ((evi_mono it1 e1).bind fun ds1 => comp_mono (fun d1 => Rle.bind_l fun e2 => (evt_mono c1 e2).bind fun k => .ite (ev_mono elt e2).bind_r (.refl _)) ds1) (.refl _)) ds).bind_r) (.refl _)
  | .sset e, env => (ev_mono e env).bind_r
  | .lset e, env => (ev_mono e env).bind_r
  | .isi t e, env => (ev_mono e env).bind_r
theorem evs_mono : ∀ (es : CEs) (env : Env), Rle (evs cl es env) (evs cl' es env)
  | .nil, env => .refl _
  | .cons e r, env => .ite (.refl _) ((ev_mono e env).bind fun _ => (evs_mono r env).bind_r)
theorem evb_mono : ∀ (es : CEs) (env : Env), Rle (evb cl es env) (evb cl' es env)
  | .nil, env => .refl _
  | .cons e r, env => (ev_mono e env).bind fun _ => (evb_mono r env).bind_r
theorem evo_mono : ∀ (es : CO) (env : Env), Rle (evo cl es env) (evo cl' es env)
  | .none, env => .refl _
  | .some e, env => (ev_mono e env).bind_r
theorem evt_mono : ∀ (es : CO) (env : Env), Rle (evt cl es env) (evt cl' es env)
  | .none, env => .refl _
  | .some e, env => .ite (ev_mono e env).bind_r (.refl _)
theorem evr_mono : ∀ (es : CEs) (env : Env), Rle (evr cl es env) (evr cl' es env)
  | .nil, env => .refl _
  | .cons a .nil, env => (ev_mono a env).bind_r
  | .cons a (.cons b .nil), env => (ev_mono a env).bind fun _ => (ev_mono b env).bind_r
  | .cons a (.cons b (.cons c .nil)), env => (ev_mono a env).bind fun _ => (ev_mono b env).bind fun _ => (ev_mono c env).bind_r
  | .cons a (.cons b (.cons c (.cons d r))), env => .refl _
theorem evi_mono : ∀ (es : CI) (env : Env), Rle (evi cl es env) (evi cl' es env)
  | .lst e, env => (ev_mono e env).bind_r
  | .tup e, env => (ev_mono e env).bind_r
  | .str e, env => (ev_mono e env).bind_r
  | .rng es, env => evr_mono es env
  | .enum e, env => (ev_mono e env).bind_r
  | .enumS e, env => (ev_mono e env).bind_r
  | .zip a b, env => .ite (.refl _) (.ite (.refl _) ((ev_mono a env).bind fun _ => (ev_mono b env).bind_r))
end
theorem evT_mono (e : CE) (env : Env) : Rle (evT cl e env) (evT cl' e env) := .ite (ev_mono h e env).bind_r (.refl _)
theorem evV_mono (e : CE) (env : Env) : Rle (evV cl e env) (evV cl' e env) := .ite (.refl _) (ev_mono h e env)
omit h in
theorem next_mono {k k' : Env → R Fl} (g : ∀ e, Rle (k e) (k' e)) : ∀ f, Rle (Fl.next k f) (Fl.next k' f)
  | .nx e => g e
  | .rt d => .refl _
omit h in
theorem forL_mono {f f' : D → Env → R Fl} (g : ∀ d e, Rle (f d e) (f' d e)) : ∀ l e, Rle (forL f l e) (forL f' l e)
  | [], e => .refl _
  | d :: r, e => (g d e).bind (next_mono (forL_mono g r))
omit h in
theorem whileL_mono {c c' : Env → R Bool} {f f' : Env → R Fl} (hc : ∀ e, Rle (c e) (c' e)) (g : ∀ e, Rle (f e) (f' e)) : ∀ n e, Rle (whileL c f n e) (whileL c' f' n e)
  | 0, e => .refl _
  | n + 1, e => (hc e).bind fun _ => .ite ((g e).bind (next_mono (whileL_mono hc g n))) (.refl _)
omit h in
theorem catch_mono {α : Type} {f : Nat → R α} {r r' : R α} (g : Rle r r') : Rle (catchR f r) (catchR f r') := by
  rcases g with e | e
  · rw [e]; exact .bad
  · rw [e]; exact .refl _
mutual
theorem ex_mono : ∀ (s : CS) (env : Env), Rle (ex cl s env) (ex cl' s env)
  | .asg i e, env => (evV_mono h e env).bind_r
  | .own i e, env => .ite (ev_mono h e env).bind_r (.refl _)
  | .own2 i j, env => .refl _
  | .par sw is es, env => .ite (.refl _) (evs_mono h es env).bind_r
  | .unp t e, env => (evV_mono h e env).bind_r
  | .app i e, env => Rle.bind_l fun _ => (evV_mono h e env).bind_r
  | .ext i e, env => Rle.bind_l fun _ => (ev_mono h e env).bind_r
  | .six i a e, env => Rle.bind_l fun _ => (evV_mono h e env).bind fun _ => (ev_mono h a env).bind_r
  | .ite c a b, env => (evT_mono h c env).bind fun _ => .ite (exs_mono a env) (exs_mono b env)
  | .forr t it b, env => .ite ((evi_mono h it env).bind fun ds => forL_mono (fun _ _ => Rle.bind_l fun e1 => exs_mono b e1) ds env) (.refl _)
  | .whl c b, env => whileL_mono (evT_mono h c) (exs_mono b) _ _
  | .ret e, env => (evV_mono h e env).bind_r
  | .retO i, env => .refl _
  | .exp e, env => (ev_mono h e env).bind_r
  | .rse c, _ => .refl _
  | .frz i, env => .refl _
  | .tryx b i hh, env => catch_mono (exs_mono b env)
theorem exs_mono : ∀ (s : CSs) (env : Env), Rle (exs cl s env) (exs cl' s env)
  | .nil, env => .refl _
  | .cons s r, env => (ex_mono s env).bind (next_mono (exs_mono r))
end
end
theorem outR_mono {r r' : R Fl} (g : Rle r r') : Rle (outR r) (outR r') := by
  rcases g with e | e
  · rw [e]; exact .bad
  · rw [e]; exact .refl _
theorem run_step {G : Tab} {a b : Nat} (h : Le (run G a) (run G b)) : Le (run G (a + 1)) (run G (b + 1)) := fun f ds =>
  Rle.bind_l fun F => .ite (outR_mono (exs_mono h _ _)) (.refl _)
theorem run_mono1 {G : Tab} : ∀ k, Le (run G k) (run G (k + 1))
  | 0 => fun f ds => .bad
  | k + 1 => run_step (run_mono1 k)
theorem Le.trans {a b c : Nat → List D → R D} (h : Le a b) (g : Le b c) : Le a c := fun f ds => by
  rcases h f ds with e | e
  · exact .inl e
  · rw [e]; exact g f ds
theorem run_mono {G : Tab} (k : Nat) : ∀ n, Le (run G k) (run G (k + n))
  | 0 => fun f ds => .refl _
  | n + 1 => (run_mono k n).trans (run_mono1 (k + n))
/-- calls that O answers are not walked -/
def runO (O : Nat → List D → R D) (G : Tab) : Nat → Nat → List D → R D
  | 0, f, ds => O f ds
  | k + 1, f, ds => match O f ds with
    | .ok d => .ok d
    | .exc c => .exc c
    | .bad => (R.ofO (G f)).bind fun F => if ds.length = F.np then outR (exs (runO O G k) F.body (startE F.np F.ns ds)) else .bad
theorem runO_le {O : Nat → List D → R D} {G : Tab} {k : Nat} (h : Le O (run G k)) : ∀ n, Le (runO O G n) (run G (k + n))
  | 0 => h
  | n + 1 => fun f ds => by
    have h2 := h.trans (run_mono k (n + 1)) f ds
    unfold runO
    cases e : O f ds with
    | ok d => rw [e] at h2; exact h2
    | exc c => rw [e] at h2; exact h2
    | bad => exact Rle.bind_l fun F => .ite (outR_mono (exs_mono (runO_le h n) _ _)) (.refl _)
end Cl
set_option Elab.async false
set_option linter.all false
set_option maxRecDepth 100000
set_option maxHeartbeats 4000000
namespace Cl
open PySem PySem.Spec PyProof.Rows L2 RZ
/-! ### a def with a table of known answers: the table at a changes, nothing else -/
structure ExtV (a : Addr) (P0 H0 P H : Hp) : Prop where
  h : ∀ b u, b ≠ a → H0 b = some u → H b = some u
  p : Ex P0 P
  ph : Ex P H
  fr : ∀ b, b ≠ a → P0 b = none → H0 b ≠ none → P b = none
  pa : P a = none
section
variable {a : Addr} {P0 H0 P H P' H' : Hp}
theorem ExtV.refl (e : Ex P H) (hp : P a = none) : ExtV a P H P H := ⟨fun _ _ _ h => h, Same.refl P, e, fun _ _ h _ => h, hp⟩
theorem ExtV.step (x : ExtV a P0 H0 P H) (ha : H a ≠ none) (e : Ext P H P' H') : ExtV a P0 H0 P' H' :=
  ⟨fun b u hb q => e.h b u (x.h b u hb q), x.p.trans e.p, e.ph, fun b hb q1 q2 => e.fr b (x.fr b hb q1 q2) (by
    cases hq : H0 b with
    | none => exact absurd hq q2
    | some u => rw [x.h b u hb hq]; simp), e.fr a x.pa ha⟩
theorem ExtV.trans {P2 H2 : Hp} (x : ExtV a P0 H0 P H) (y : ExtV a P H P2 H2) : ExtV a P0 H0 P2 H2 :=
  ⟨fun b u hb q => y.h b u hb (x.h b u hb q), x.p.trans y.p, y.ph, fun b hb q1 q2 => y.fr b hb (x.fr b hb q1 q2) (by
    cases hq : H0 b with
    | none => exact absurd hq q2
    | some u => rw [x.h b u hb hq]; simp), y.pa⟩
theorem ExtV.put (x : ExtV a P0 H0 P H) (o : HO) : ExtV a P0 H0 P (upd H a o) :=
  ⟨fun b u hb q => by rw [upd_ne hb]; exact x.h b u hb q, x.p, fun b u q => by
    have nb : b ≠ a := fun z => by rw [z, x.pa] at q; cases q
    rw [upd_ne nb]; exact x.ph b u q, x.fr, x.pa⟩
/-- a new table: what is seen from outside -/
theorem ExtV.out {d : Addr} {o : HO} (hd : H d = none) (x : ExtV d P (upd H d o) P' H') : Ext P H P' H' :=
  ⟨fun b u q => by
    have nb : b ≠ d := ne_of_none q hd
    exact x.h b u nb (by rw [upd_ne nb]; exact q), x.p, x.ph, fun b q1 q2 => by
    have nb : b ≠ d := fun z => q2 (by rw [z]; exact hd)
    exact x.fr b nb q1 (by rw [upd_ne nb]; exact q2)⟩
end
def MemoOk (G : Tab) (f : Nat) (td : D) (base : List Int) (kvs : List (List Key × V)) : Prop :=
  (kvs.map (·.1)).Nodup ∧ ∀ p ∈ kvs, ∃ (ns : List Int) (v : Int) (j : Nat), p.1 = ns.map Sum.inl ∧ p.2 = .int v ∧ ns.Sublist base ∧ run G j f [td, .tup (ns.map D.int)] = .ok (.int v)
def spD (K : W.Frag) (G : Tab) (k f : Nat) : Sp := fun vs H Q _ => ∃ (P : Hp) (td : D) (v0 v1 : V) (ns base : List Int) (a : Addr) (kvs : List (List Key × V)) (i : Int), vs = [v0, v1, .ref a] ∧ Ex P H ∧ Rep K P td v0 ∧ Rep K P (.tup (ns.map D.int)) v1 ∧ P a = none ∧ H a = some (.dT kvs) ∧ MemoOk G f td base kvs ∧ ns.Sublist base ∧ base.length ≤ 20 ∧
  run G k f [td, .tup (ns.map D.int)] = .ok (.int i) ∧ ∀ P' H' kvs', ExtV a P H P' H' → H' a = some (.dT kvs') → MemoOk G f td base kvs' → Q (.int i) H'
/-- the call from outside -/
theorem spD_call {K : W.Frag} {G : Tab} {k f : Nat} {P H : Hp} {ds : List D} {vs : List V} {d : Addr} {i : Int} {Q : VK} {Ex' : XK} (e : Ex P H) (r : Reps K P ds vs) (hd : H d = none) (hm : memoArgs ds = true) (hc : run G k f ds = .ok (.int i)) (q : ∀ P' H', Ext P H P' H' → Q (.int i) H') : spD K G k f (vs ++ [.ref d]) (upd H d (.dT [])) Q Ex' := by
  unfold memoArgs at hm
  split at hm
  · rename_i td as
    simp only [Bool.and_eq_true, decide_eq_true_eq] at hm
    obtain ⟨ns, hn⟩ := Option.isSome_iff_exists.mp hm.1
    obtain rfl := ints?_some hn
    match vs, r with
    | [v0, v1], .cons r0 (.cons r1 .nil) =>
      refine ⟨P, td, v0, v1, ns, ns, d, [], i, rfl, fun b u z => ?_, r0, r1, e.free hd, upd_same, ⟨List.nodup_nil, fun p hp => by cases hp⟩, List.Sublist.refl _, by simpa using hm.2, hc, fun P' H' kvs' x _ _ => q P' H' (x.out hd)⟩
      rw [upd_ne (ne_of_none (e b u z) hd)]
      exact e b u z
  · cases hm
/-! how large the table grows -/
def sl : List Int → List (List Int)
  | [] => [[]]
  | x :: r => sl r ++ (sl r).map (x :: ·)
theorem mem_sl : ∀ {l s : List Int}, s.Sublist l → s ∈ sl l
  | _, _, .slnil => by simp [sl]
  | _, _, .cons x h => List.mem_append_left _ (mem_sl h)
  | _, _, .cons₂ x h => List.mem_append_right _ (List.mem_map.mpr ⟨_, mem_sl h, rfl⟩)
theorem sl_len : ∀ l : List Int, (sl l).length = 2 ^ l.length
  | [] => rfl
  | x :: r => by rw [sl, List.length_append, List.length_map, sl_len r, List.length_cons, Nat.pow_succ]; omega
theorem nd_len {α : Type} [DecidableEq α] : ∀ {l m : List α}, l.Nodup → (∀ x ∈ l, x ∈ m) → l.length ≤ m.length
  | [], _, _, _ => Nat.zero_le _
  | x :: l, m, hn, h => by
    obtain ⟨h1, h2⟩ := List.nodup_cons.mp hn
    have hx := h x List.mem_cons_self
    have := nd_len (m := m.erase x) h2 fun y hy => by
      have hne : y ≠ x := fun z => h1 (z ▸ hy)
      exact (List.mem_erase_of_ne hne).mpr (h y (List.mem_cons_of_mem _ hy))
    rw [List.length_erase_of_mem hx] at this
    have hp := List.length_pos_of_mem hx
    rw [List.length_cons]
    omega
theorem inl_inj : ∀ {a b : List Int}, a.map (Sum.inl : Int → Key) = b.map Sum.inl → a = b
  | [], [], _ => rfl
  | [], _ :: _, h => by simp at h
  | _ :: _, [], h => by simp at h
  | x :: a, y :: b, h => by
    simp only [List.map_cons, List.cons.injEq, Sum.inl.injEq] at h
    rw [h.1, inl_inj h.2]
theorem MemoOk.len {G : Tab} {f : Nat} {td : D} {base : List Int} {kvs : List (List Key × V)} (h : MemoOk G f td base kvs) (hb : base.length ≤ 20) : kvs.length < sizeLine := by
  have : (kvs.map (·.1)).length ≤ ((sl base).map fun l => l.map (Sum.inl : Int → Key)).length := nd_len h.1 fun k hk => by
    obtain ⟨p, hp, rfl⟩ := List.mem_map.mp hk
    obtain ⟨ns, v, j, e1, _, e3, _⟩ := h.2 p hp
    rw [e1]
    exact List.mem_map.mpr ⟨ns, mem_sl e3, rfl⟩
  rw [List.length_map, List.length_map, sl_len] at this
  have h2 : 2 ^ base.length ≤ 2 ^ 20 := Nat.pow_le_pow_right (by decide) hb
  have h3 : (2 : Nat) ^ 20 < sizeLine := by rw [sizeLine_eq]; decide
  omega
theorem valV_mem {κ : Type} [DecidableEq κ] {kvs : List (κ × V)} {k : κ} {v : V} (h : valV kvs k = some v) : (k, v) ∈ kvs := by
  unfold valV at h
  obtain ⟨p, h1, h2⟩ := Option.map_eq_some_iff.mp h
  have h3 := List.mem_of_find?_eq_some h1
  have h4 := List.find?_some h1
  rw [decide_eq_true_eq] at h4
  obtain ⟨p1, p2⟩ := p
  simp only at h2 h4
  subst h2 h4
  exact h3
/-- an answer does not hang on the fuel -/
theorem run_same {G : Tab} {f j k : Nat} {ds : List D} {x y : D} (h : run G j f ds = .ok x) (h' : run G k f ds = .ok y) : x = y := by
  have h1 := (run_mono (G := G) j k f ds).ok h
  have h2 := (run_mono (G := G) k j f ds).ok h'
  rw [Nat.add_comm] at h2
  rw [h1] at h2
  exact R.ok.inj h2
/-! ### its text -/
def memoA : CE := .bi .tuple (.cons (.lc (.var 6) (.nm 6) (.tup (.var 1)) (.some (.cmp .notin (.var 6) (.var 5))) [6]) .nil)
def memoL (f : Nat) (T : CE) : CSs := .cons (.ite T (.cons (.asg 3 (.bin .add (.var 3) (.call f (.cons (.var 0) (.cons memoA .nil))))) .nil) .nil) .nil
def memo1 : CS := .ite (.cmp .eq (.var 1) (.tup .nil)) (.cons (.ret (.cst (.int 1))) .nil) .nil
def memoB (f : Nat) (T : CE) : CSs := .cons memo1 (.cons (.asg 3 (.cst (.int 0))) (.cons (.forr (.tp [4, 5]) (.lst (.var 0)) (memoL f T)) (.cons (.ret (.var 3)) .nil)))
def chkM (C : Ctx) (N : List Str) (sc : Scope) (f : Nat) (T : CE) (body : List Stmt) : Bool := match body with
  | [s1, .If (.Compare ek [.NotIn] [ed] _) [s2, .For tg iter [.If et [.Assign [.Name xt _] (.BinOp ev .Add (.Call (.Name xf _) [a1, a2, a3] [] _) _) _] [] _] [] _, .Assign [.Subscript ed2 ek2 _] ev2 _] [] _, .Return (some (.Subscript ed3 ek3 _)) _] =>
    chkS C N memo1 sc s1 && chkS C N (.asg 3 (.cst (.int 0))) sc s2 && notSet ed && chkE C N (.var 1) sc (fun _ => true) ek && chkE C N (.var 2) sc (fun _ => true) ed && notSet iter && chkG N sc (fun _ => true) (.tp [4, 5]) tg && chkI C N (.lst (.var 0)) sc (fun _ => true) tg iter &&
      T.isTest && chkE C N T sc (fun _ => true) et && decide (N[3]? = some xt) && locB sc xt && chkE C N (.var 3) sc (fun _ => true) ev && decide (C.fname (1000 + f) = some xf) && glB sc xf && !dbg xf && notStar a1 && notStar a2 && notStar a3 && chkE C N (.var 0) sc (fun _ => true) a1 && chkE C N memoA sc (fun _ => true) a2 && chkE C N (.var 2) sc (fun _ => true) a3 &&
      notComp ev2 && chkE C N (.var 2) sc (fun _ => true) ed2 && chkE C N (.var 1) sc (fun _ => true) ek2 && chkE C N (.var 3) sc (fun _ => true) ev2 && notSlice ek2 && notSlice ek3 && chkE C N (.var 2) sc (fun _ => true) ed3 && chkE C N (.var 1) sc (fun _ => true) ek3
  | _ => false
def memoT (K : W.Frag) (cls : Nat → Value) (sp : Nat → Sp) (E : EX) (f : Nat) (T : CE) : TS :=
  tSeq (tOfS K cls sp E memo1) (tSeq (tIfS (tB (tDNotIn (tVar 1) (tVar 2))) (tSeq (tOfS K cls sp E (.asg 3 (.cst (.int 0)))) (tSeq (tFor (tOfI K sp E (.lst (.var 0))) (tOfG K (.tp [4, 5])) (tSeq (tIfS (tOfT K sp E T) (tSeq (tAsg (tOp (rBop K .add) (tVar 3) (tCallS (sp (1000 + f)) E (tCons (tVar 0) (tCons (tOf K sp E memoA) (tCons (tVar 2) tNil))))) (gName 3)) tNext) tNext) tNext))
    (tSeq (sDPut (tVar 2) (tVar 1) (tVar 3)) tNext))) tNext) (tSeq (tRet (tDGet (tVar 2) (tVar 1))) tNext))
theorem pss_memo {C : Ctx} {cls : Nat → Value} {sp : Nat → Sp} {k : Nat} {N : List Str} {sc : Scope} {E : EX} {X : Cx} {f : Nat} {T : CE} {body : List Stmt} (G : GoodS C cls sp k N sc E X) (h : chkM C N sc f T body = true) : PSs X body (memoT X.K cls sp E f T) := by
  unfold chkM at h
  split at h
  · rename_i s1 ek ed p1 s2 tg iter et xt px ev xf pf a1 a2 a3 p2 p3 p4 p5 p6 ed2 ek2 p7 ev2 p8 p9 ed3 ek3 p10 p11
    simp only [Bool.and_eq_true, decide_eq_true_eq] at h
    obtain ⟨⟨⟨⟨⟨⟨⟨⟨⟨⟨⟨⟨⟨⟨⟨⟨⟨⟨⟨⟨⟨⟨⟨⟨⟨⟨⟨⟨⟨c1, c2⟩, c3⟩, c4⟩, c5⟩, c6⟩, c7⟩, c8⟩, c9⟩, c10⟩, c11⟩, c12⟩, c13⟩, c14⟩, c15⟩, c16⟩, c17⟩, c18⟩, c19⟩, c20⟩, c21⟩, c22⟩, c23⟩, c24⟩, c25⟩, c26⟩, c27⟩, c28⟩, c29⟩, c30⟩ := h
    have g := G.g
    have hu : X.A.units + 1 < cLine := by have := g.units; omega
    have v1 := fun e h => pe_all (.var 1) sc _ E X e g h
    have v2 := fun e h => pe_all (.var 2) sc _ E X e g h
    have v3 := fun e h => pe_all (.var 3) sc _ E X e g h
    have v0 := fun e h => pe_all (.var 0) sc _ E X e g h
    obtain ⟨fa, fd, ps, k1, k2, k3, k4⟩ := g.fns (1000 + f) xf c14
    have s3 : ∀ env, starEach [a3] env = (false, eval a3 env) :: [] := star_of c19 []
    have s2' : ∀ env, starEach [a2, a3] env = (false, eval a2 env) :: starEach [a3] env := star_of c18 [a3]
    have s1' : ∀ env, starEach [a1, a2, a3] env = (false, eval a1 env) :: starEach [a2, a3] env := star_of c17 [a2, a3]
    have pcall := pe_callS (pos := p2) (p := pf) k3 g.room (gl_of g.hsc c15) k1 k2 k4 g.pass (pa_cons (v0 a1 c20) (pa_cons (pe_all memoA sc _ E X a2 g c21) (pa_cons (v2 a3 c22) pa_nil (s3 _)) (s2' _)) (s1' _)) (dbg_of c16).1 (s1' _) (stars_any (by simp [starsB, c18, c19]) _ _)
    have hf : X.fn xt = true ∨ X.env.scope.names.lookup xt = some .local := .inl (by rw [g.fnE])
    refine pss_cons (ps_all memo1 E X s1 G c1) (pss_cons (ps_if (pt_cmp (pc_dnotin hu (v1 ek c4) (v2 ed c5)) (set_of c3 _)) (pss_cons (ps_all (.asg 3 (.cst (.int 0))) E X s2 G c2) (pss_cons (ps_for G.own g.calm (pi_all (.lst (.var 0)) sc _ E X tg iter g c8) (pg_all g.calm g.hN g.nd g.hsc g.fnE c7) ?_ (fun x => fold_of c6 _ x)) (pss_cons (ps_dput hu (v2 ed2 c24) (v1 ek2 c25) (v3 ev2 c26) (notComp_sw c23)) pss_nil))) pss_nil) (pss_cons (ps_ret (pe_dget hu (v2 ed3 c29) (v1 ek3 c30) (slice_of c28))) pss_nil))
    refine pss_cons (ps_if (pt_all T sc _ E X et g c9 c10) (pss_cons (ps_set g.nd' (by rw [g.hN]; exact c11) (by rw [g.hsc]; exact loc_of c12) (pe_op (op_bin .add) (v3 ev c13) pcall) rfl hf) pss_nil) pss_nil) pss_nil
  · cases h
/-! ### what it gives -/
theorem EnvOk.monoV {K : W.Frag} {a : Addr} {H0 P H P' H' : Hp} {env : Env} {σ : L2.St} (I : EnvOk K H0 env σ P H) (no : ∀ (j : Nat) (es : List D), env[j]? ≠ some (.own es)) (x : ExtV a P H P' H') : EnvOk K H0 env σ P' H' := by
  refine ⟨x.ph, I.len, fun j s q => ?_, fun i j ds es b c q1 => absurd q1 (no i ds)⟩
  have h1 := I.at_ j s q
  cases s with
  | no => exact h1
  | raw v => exact h1
  | val d => obtain ⟨v, h2, h3⟩ := h1; exact ⟨v, h2, h3.mono x.p⟩
  | own ds => exact absurd q (no j ds)
theorem MemoOk.put {G : Tab} {f j : Nat} {td : D} {base ns : List Int} {kvs : List (List Key × V)} {i : Int} (h : MemoOk G f td base kvs) (hs : ns.Sublist base) (hr : run G j f [td, .tup (ns.map D.int)] = .ok (.int i)) : MemoOk G f td base (putK kvs (ns.map Sum.inl) (.int i)) := by
  unfold putK
  split
  · refine ⟨?_, fun p hp => ?_⟩
    · rw [List.map_map]
      have : ((fun p : List Key × V => p.1) ∘ fun kv => if kv.1 = ns.map Sum.inl then (kv.1, V.int i) else kv) = fun kv => kv.1 := by
        funext kv
        simp only [Function.comp]
        split <;> rfl
      rw [this]
      exact h.1
    · obtain ⟨q, hq, rfl⟩ := List.mem_map.mp hp
      split
      · rename_i e
        exact ⟨ns, i, j, e, rfl, hs, hr⟩
      · exact h.2 q hq
  · rename_i e
    refine ⟨?_, fun p hp => ?_⟩
    · rw [List.map_append, List.nodup_append]
      refine ⟨h.1, by simp, fun x hx y hy hxy => ?_⟩
      subst hxy
      obtain ⟨q, hq, rfl⟩ := List.mem_map.mp hx
      simp only [List.map_cons, List.map_nil, List.mem_singleton] at hy
      refine e ?_
      rw [List.any_eq_true]
      exact ⟨q, hq, by simpa using hy⟩
    · rcases List.mem_append.mp hp with hp | hp
      · exact h.2 p hp
      · rw [List.mem_singleton.mp hp]
        exact ⟨ns, i, j, rfl, rfl, hs, hr⟩
theorem comp_sub {g : D → R (Option D)} (hg : ∀ (x : Int) (o : Option D), g (.int x) = .ok o → o = none ∨ o = some (.int x)) : ∀ (ns : List Int) (ys : List D), comp g (ns.map D.int) = .ok ys → ∃ ms : List Int, ys = ms.map D.int ∧ ms.Sublist ns
  | [], ys, h => by
    simp only [List.map_nil, comp, R.ok.injEq] at h
    exact ⟨[], by rw [← h]; rfl, .slnil⟩
  | x :: ns, ys, h => by
    simp only [List.map_cons, comp] at h
    cases hx : g (.int x) with
    | exc c => simp [hx] at h
    | bad => simp [hx] at h
    | ok o =>
      simp only [hx] at h
      cases hr : comp g (ns.map D.int) with
      | exc c => simp [hr] at h
      | bad => simp [hr] at h
      | ok zs =>
        simp only [hr, R.bind_ok, R.ok.injEq] at h
        obtain ⟨ms, e1, e2⟩ := comp_sub hg ns zs hr
        rcases hg x o hx with rfl | rfl
        · exact ⟨ms, by rw [← h, e1]; rfl, e2.cons _⟩
        · exact ⟨x :: ms, by rw [← h, e1]; rfl, e2.cons₂ _⟩
theorem memoA_sub {cl : Nat → List D → R D} {env : Env} {ns : List Int} {z : D} (h1 : env[1]? = some (.val (.tup (ns.map D.int)))) (h : ev cl memoA env = .ok z) : ∃ ms : List Int, z = .tup (ms.map D.int) ∧ ms.Sublist ns := by
  have e : ev cl memoA env = ((ev cl (.lc (.var 6) (.nm 6) (.tup (.var 1)) (.some (.cmp .notin (.var 6) (.var 5))) [6]) env).bind fun d => .ok [d]).bind fun ds => R.ofO (biF .tuple ds) := rfl
  rw [e] at h
  have e2 : ev cl (.lc (.var 6) (.nm 6) (.tup (.var 1)) (.some (.cmp .notin (.var 6) (.var 5))) [6]) env = ((slotV env[1]?).bind tupD).bind fun ds => if ds.length ≤ lim ∧ Tg.inn (.nm 6) [6] = true ∧ CE.isBor (.var 6) = false then
      (comp (fun d => (setTg (.nm 6) d (wipeE env [6])).bind fun e1 => (evt cl (.some (.cmp .notin (.var 6) (.var 5))) e1).bind fun k => optB k (ev cl (.var 6) e1)) ds).bind fun ys => .ok (.lst ys) else .bad := rfl
  rw [e2, h1] at h
  simp only [slotV_val, R.bind_ok, tupD_tup] at h
  split at h
  · cases hc : comp (fun d => (setTg (.nm 6) d (wipeE env [6])).bind fun e1 => (evt cl (.some (.cmp .notin (.var 6) (.var 5))) e1).bind fun k => optB k (ev cl (.var 6) e1)) (ns.map D.int) with
    | exc c => rw [hc] at h; simp at h
    | bad => rw [hc] at h; simp at h
    | ok ys =>
      rw [hc] at h
      simp only [R.bind_ok, bi_tupL, R.ofO_some, R.ok.injEq] at h
      obtain ⟨ms, e3, e4⟩ := comp_sub (fun x o hx => by
        simp only [setTg_nm, R.bind_ok, v_var] at hx
        cases hk : evt cl (.some (.cmp .notin (.var 6) (.var 5))) ((wipeE env [6]).set 6 (.val (.int x))) with
        | exc c => rw [hk] at hx; simp at hx
        | bad => rw [hk] at hx; simp at hx
        | ok b =>
          rw [hk] at hx
          simp only [R.bind_ok] at hx
          cases b with
          | false => simp [optB] at hx; exact .inl hx.symm
          | true =>
            simp only [optB, if_true] at hx
            by_cases hl : 6 < (wipeE env [6]).length
            · rw [List.getElem?_set_self hl] at hx
              simp at hx
              exact .inr hx.symm
            · rw [List.getElem?_eq_none (by rw [List.length_set]; omega)] at hx
              simp [slotV] at hx) ns ys hc
      exact ⟨ms, by rw [← h, e3], e4⟩
  · simp at h
theorem memoL_ok {cl : Nat → List D → R D} {f : Nat} {T : CE} {env : Env} {o : Fl} (h : exs cl (memoL f T) env = .ok o) : (evT cl T env = .ok false ∧ o = .nx env) ∨ (evT cl T env = .ok true ∧ ∃ x y z w d, slotV env[3]? = .ok x ∧ slotV env[0]? = .ok y ∧ ev cl memoA env = .ok z ∧ cl f [y, z] = .ok w ∧ bopF .add x w = some d ∧ o = .nx (env.set 3 (.val d))) := by
  have e : exs cl (memoL f T) env = ((evT cl T env).bind fun k => if k then exs cl (.cons (.asg 3 (.bin .add (.var 3) (.call f (.cons (.var 0) (.cons memoA .nil))))) .nil) env else .ok (.nx env)).bind (Fl.next fun env' => .ok (.nx env')) := rfl
  rw [e] at h
  cases ht : evT cl T env with
  | exc c => rw [ht] at h; simp at h
  | bad => rw [ht] at h; simp at h
  | ok b =>
    rw [ht] at h
    cases b with
    | false =>
      simp at h
      exact .inl ⟨rfl, h.symm⟩
    | true =>
      refine .inr ⟨rfl, ?_⟩
      simp only [R.bind_ok, if_true, xs_cons, x_asg, v_V, isBor_bin, Bool.false_eq_true, if_false, v_bin, v_var, v_call, vs_cons, vs_nil, isBor_var, show memoA.isBor = false from rfl] at h
      cases hx : slotV env[3]? with
      | exc c => simp [hx] at h
      | bad => simp [hx] at h
      | ok x =>
        cases hy : slotV env[0]? with
        | exc c => simp [hx, hy] at h
        | bad => simp [hx, hy] at h
        | ok y =>
          cases hz : ev cl memoA env with
          | exc c => simp [hx, hy, hz] at h
          | bad => simp [hx, hy, hz] at h
          | ok z =>
            cases hw : cl f [y, z] with
            | exc c => simp [hx, hy, hz, hw] at h
            | bad => simp [hx, hy, hz, hw] at h
            | ok w =>
              cases hd : bopF .add x w with
              | none => simp [hx, hy, hz, hw, hd] at h
              | some d =>
                simp [hx, hy, hz, hw, hd] at h
                exact ⟨x, y, z, w, d, rfl, rfl, rfl, hw, hd, h.symm⟩
theorem set2_ok {env env1 : Env} {d : D} (h : setTg (.tp [4, 5]) d env = .ok env1) : ∃ x y, env1 = (env.set 4 (.val x)).set 5 (.val y) := by
  cases d with
  | tup ds =>
    match ds, h with
    | [x, y], h => exact ⟨x, y, (R.ok.inj h).symm⟩
    | [], h => simp [setTg, setAll] at h
    | [_], h => simp [setTg, setAll] at h
    | _ :: _ :: _ :: _, h => simp [setTg, setAll] at h
  | lst ds =>
    match ds, h with
    | [x, y], h => exact ⟨x, y, (R.ok.inj h).symm⟩
    | [], h => simp [setTg, setAll] at h
    | [_], h => simp [setTg, setAll] at h
    | _ :: _ :: _ :: _, h => simp [setTg, setAll] at h
  | _ => simp [setTg] at h
theorem slotV_ok {env : Env} {j : Nat} {d : D} (h : slotV env[j]? = .ok d) : env[j]? = some (.val d) := by
  cases hs : env[j]? with
  | none => rw [hs] at h; cases h
  | some s =>
    rw [hs] at h
    cases s with
    | val x => cases h; rfl
    | no => cases h
    | own _ => cases h
    | raw _ => cases h
theorem memo_read {K : W.Frag} {cls : Nat → Value} {sp : Nat → Sp} {G : Tab} {k f : Nat} {T : CE} {E : EX} {N : List Str} {vs : List V} {H : Hp} {Q : VK} {Ex' : XK} {Z : Ends} (hC : Calls K cls sp (run G k)) (hsp : sp (1000 + f) = spD K G k f) (hG : G f = some ⟨2, 7, memoB f T⟩) (hN : N.length = 7) (hZ : Z.rt = Q) (h : spD K G (k + 1) f vs H Q Ex') : memoT K cls sp E f T Z (start N vs) H := by
  obtain ⟨P, td, v0, v1, ns, base, a, kvs, i, rfl, e, r0, r1, hp, ha, mo, hsub, hbl, hrun, q⟩ := h
  subst hZ
  obtain ⟨env0, henv0⟩ : ∃ env0 : Env, env0 = [.val td, .val (.tup (ns.map D.int)), .no, .no, .no, .no, .no] := ⟨_, rfl⟩
  have hex : exs (run G k) (memoB f T) env0 = .ok (.rt (.int i)) := by
    have er : run G (k + 1) f [td, .tup (ns.map D.int)] = outR (exs (run G k) (memoB f T) env0) := by
      rw [henv0, run, hG]
      rfl
    rw [er] at hrun
    cases hx : exs (run G k) (memoB f T) env0 with
    | exc c => rw [hx] at hrun; cases hrun
    | bad => rw [hx] at hrun; cases hrun
    | ok o =>
      rw [hx] at hrun
      cases o with
      | nx e => cases hrun
      | rt d => cases hrun; rfl
  have hσ : start N [v0, v1, .ref a] = [some v0, some v1, some (.ref a), none, none, none, none] := by
    unfold L2.start
    rw [hN]
    rfl
  rw [hσ]
  obtain ⟨σ0, hσ0⟩ : ∃ σ0 : L2.St, σ0 = [some v0, some v1, some (.ref a), none, none, none, none] := ⟨_, rfl⟩
  rw [← hσ0]
  have I0 : EnvOk K H env0 σ0 P H := by
    rw [henv0, hσ0]
    refine ⟨e, rfl, fun j s hj => ?_, fun j j' ds es b c hj => ?_⟩
    · match j, hj with
      | 0, hj => cases hj; exact ⟨v0, rfl, r0⟩
      | 1, hj => cases hj; exact ⟨v1, rfl, r1⟩
      | 2, hj => cases hj; exact ⟨_, rfl⟩
      | 3, hj => cases hj; exact ⟨_, rfl⟩
      | 4, hj => cases hj; exact ⟨_, rfl⟩
      | 5, hj => cases hj; exact ⟨_, rfl⟩
      | 6, hj => cases hj; exact ⟨_, rfl⟩
      | j + 7, hj => simp at hj
    · match j, hj with
      | 0, hj => simp at hj
      | 1, hj => simp at hj
      | 2, hj => simp at hj
      | 3, hj => simp at hj
      | 4, hj => simp at hj
      | 5, hj => simp at hj
      | 6, hj => simp at hj
      | j + 7, hj => simp at hj
  have no0 : ∀ (j : Nat) (es : List D), env0[j]? ≠ some (.own es) := fun j es hj => by
    obtain ⟨b, _, z, _⟩ := I0.at_ j _ hj
    rw [henv0] at hj
    match j, hj with
    | 0, hj => simp at hj
    | 1, hj => simp at hj
    | 2, hj => simp at hj
    | 3, hj => simp at hj
    | 4, hj => simp at hj
    | 5, hj => simp at hj
    | 6, hj => simp at hj
    | j + 7, hj => simp at hj
  have a0 : env0[0]? = some (.val td) := by rw [henv0]; rfl
  have a1 : env0[1]? = some (.val (.tup (ns.map D.int))) := by rw [henv0]; rfl
  have al : env0.length = 7 := by rw [henv0]; rfl
  have s2 : σ0[2]? = some (some (.ref a)) := by rw [hσ0]; rfl
  have hHa : H a ≠ none := by rw [ha]; simp
  have x0 : ExtV a P H P H := .refl e hp
  clear henv0 hσ0 hσ
  -- if left == ()
  have e1 : exs (run G k) (memoB f T) env0 = ((evT (run G k) (.cmp .eq (.var 1) (.tup .nil)) env0).bind fun b => if b then .ok (.rt (.int 1)) else .ok (.nx env0)).bind (Fl.next fun env1 => exs (run G k) (.cons (.asg 3 (.cst (.int 0))) (.cons (.forr (.tp [4, 5]) (.lst (.var 0)) (memoL f T)) (.cons (.ret (.var 3)) .nil))) env1) := by
    show ((R.bind (evT (run G k) (.cmp .eq (.var 1) (.tup .nil)) env0) fun b => if b then exs (run G k) (.cons (.ret (.cst (.int 1))) .nil) env0 else exs (run G k) .nil env0)).bind _ = _
    rfl
  rw [e1] at hex
  show tIfS (tOfT K sp E (.cmp .eq (.var 1) (.tup .nil))) (tSeq (tRet (tC (.int 1))) tNext) tNext _ σ0 H
  refine st_T hC (.cmp .eq (.var 1) (.tup .nil)) E H env0 σ0 P H _ I0 ?_
  cases hb : evT (run G k) (.cmp .eq (.var 1) (.tup .nil)) env0 with
  | exc c => rw [hb] at hex; simp at hex
  | bad => rw [hb] at hex; simp at hex
  | ok b =>
    rw [hb] at hex
    intro P1 H1 x1
    have ha1 : H1 a = some (.dT kvs) := x1.h _ _ ha
    have xv1 : ExtV a P H P1 H1 := x0.step hHa x1
    have I1 := I0.mono x1
    cases b with
    | true =>
      simp at hex
      subst hex
      exact q P1 H1 kvs xv1 ha1 mo
    | false =>
      simp only [R.bind_ok, Bool.false_eq_true, if_false, next_nx] at hex
      show tIfS (tB (tDNotIn (tVar 1) (tVar 2))) _ tNext _ σ0 H1
      obtain ⟨w1, hw1, rw1⟩ := I1.at_ 1 _ a1
      cases rw1 with
      | tup g1 rr =>
        rename_i b us
        have hus := rr.intsV
        subst hus
        have hkey : ns.map V.int = (ns.map (Sum.inl : Int → Key)).map kV := by rw [List.map_map]; rfl
        have hb1 : H1 b = some (.tup ((ns.map (Sum.inl : Int → Key)).map kV)) := by rw [← hkey]; exact x1.ph _ _ g1
        refine ⟨.ref b, hw1, .ref a, s2, a, _, rfl, DGet.t ha1 hb1, _, rfl, ?_⟩
        cases hv : valV kvs (ns.map (Sum.inl : Int → Key)) with
        | some w =>
          simp only [Option.isSome_some, Bool.not_true, Bool.false_eq_true, if_false]
          show tRet (tDGet (tVar 2) (tVar 1)) _ σ0 H1
          refine ⟨.ref a, s2, .ref b, hw1, a, w, rfl, by rw [← hv]; exact DGet.t ha1 hb1, ?_⟩
          obtain ⟨ms, v, j, z1, z2, _, z4⟩ := mo.2 _ (valV_mem hv)
          have : ns = ms := inl_inj z1
          subst this
          have hvi : D.int v = D.int i := run_same z4 hrun
          have z2' : w = .int v := z2
          rw [z2', D.int.inj hvi]
          exact q P1 H1 kvs xv1 ha1 mo
        | none =>
          simp only [Option.isSome_none, Bool.not_false, if_true]
          -- total = 0
          show tSeq (tFor (tOfI K sp E (.lst (.var 0))) (tOfG K (.tp [4, 5])) _) _ _ (σ0.set 3 (some (.int 0))) H1
          obtain ⟨env2, he2⟩ : ∃ env2, env2 = env0.set 3 (.val (.int 0)) := ⟨_, rfl⟩
          have I2 : EnvOk K H env2 (σ0.set 3 (some (.int 0))) P1 H1 := by rw [he2]; exact I1.set (.int 0)
          have b0 : env2[0]? = some (.val td) := by rw [he2, List.getElem?_set_ne (by decide)]; exact a0
          have b1 : env2[1]? = some (.val (.tup (ns.map D.int))) := by rw [he2, List.getElem?_set_ne (by decide)]; exact a1
          have b3 : env2[3]? = some (.val (.int 0)) := by rw [he2, List.getElem?_set_self (by omega)]
          have no2 : ∀ (j : Nat) (es : List D), env2[j]? ≠ some (.own es) := fun j es hj => by
            rw [he2] at hj
            exact no0 j es (set_own (fun _ z => by cases z) hj).2
          have s2' : (σ0.set 3 (some (V.int 0)))[2]? = some (some (.ref a)) := by rw [List.getElem?_set_ne (by decide)]; exact s2
          have e3 : exs (run G k) (.cons (.asg 3 (.cst (.int 0))) (.cons (.forr (.tp [4, 5]) (.lst (.var 0)) (memoL f T)) (.cons (.ret (.var 3)) .nil))) env0 = ((evi (run G k) (.lst (.var 0)) env2).bind fun ds => forL (fun d e => (setTg (.tp [4, 5]) d e).bind fun e1 => exs (run G k) (memoL f T) e1) ds env2).bind (Fl.next fun env3 => ((slotV env3[3]?).bind fun d => .ok (.rt d)).bind (Fl.next fun env' => .ok (.nx env'))) := by
            rw [he2]
            rfl
          rw [e3] at hex
          change tFor (tOfI K sp E (.lst (.var 0))) (tOfG K (.tp [4, 5])) _ _ (σ0.set 3 (some (.int 0))) H1
          unfold tFor
          refine si_all hC (.lst (.var 0)) E true (fun _ => rfl) H env2 _ P1 H1 _ I2 ?_
          cases hds : evi (run G k) (.lst (.var 0)) env2 with
          | exc c => rw [hds] at hex; simp at hex
          | bad => rw [hds] at hex; simp at hex
          | ok ds =>
            rw [hds] at hex
            simp only [R.bind_ok] at hex
            intro J P2 H2 x2 hw
            obtain ⟨Gd, Y, w, hGd, hY⟩ := hw
            simp only [if_true] at hGd
            generalize hr : forL (fun d e => (setTg (.tp [4, 5]) d e).bind fun e1 => exs (run G k) (memoL f T) e1) ds env2 = r at hex
            have hH1a : H1 a ≠ none := by rw [ha1]; simp
            refine for_it w (fun n σ' H' => ∃ P' env' kv t, ExtV a P H P' H' ∧ Ex P2 P' ∧ EnvOk K H env' σ' P' H' ∧ H' a = some (.dT kv) ∧ MemoOk G f td base kv ∧ σ'[2]? = some (some (.ref a)) ∧ (env'[0]? = some (.val td) ∧ env'[1]? = some (.val (.tup (ns.map D.int))) ∧ env'[3]? = some (.val (.int t)) ∧ ∀ (j : Nat) (es : List D), env'[j]? ≠ some (.own es)) ∧ forL (fun d e => (setTg (.tp [4, 5]) d e).bind fun e1 => exs (run G k) (memoL f T) e1) (ds.drop n) env' = r)
              ⟨P2, env2, kvs, 0, xv1.step hH1a x2, Same.refl _, I2.mono x2, x2.h _ _ ha1, mo, s2', ⟨b0, b1, b3, no2⟩, by simpa using hr⟩ (fun n σ' H' _ hp' => ?_) (fun n y σ' H' H3 hn hp' hy => ?_) (fun σ' H' hp' => ?_)
            · obtain ⟨P', env', kv, t, _, p2, p3, _⟩ := hp'
              exact hGd H' (p2.trans p3.ex)
            · obtain ⟨P', env', kv, t, p1, p2, p3, p4, p5, p6, ⟨p7, p8, p9, p10⟩, p11⟩ := hp'
              obtain ⟨P3, d, hd, x3, r3⟩ := hY n P' H' y H3 hn p2 p3.ex hy
              rw [get_drop hd] at p11
              simp only [forL] at p11
              have I3 := p3.mono x3
              have hH'a : H' a ≠ none := by rw [p4]; simp
              have xv3 := p1.step hH'a x3
              have ha3 : H3 a = some (.dT kv) := x3.h _ _ p4
              cases hs : setTg (.tp [4, 5]) d env' with
              | exc c => rw [hs] at p11; simp only [R.bind_exc] at p11; rw [← p11] at hex; simp at hex
              | bad => rw [hs] at p11; simp only [R.bind_bad] at p11; rw [← p11] at hex; simp at hex
              | ok env1 =>
                rw [hs] at p11
                simp only [R.bind_ok] at p11
                obtain ⟨y4, y5, he1⟩ := set2_ok hs
                have c0 : env1[0]? = some (.val td) := by rw [he1, List.getElem?_set_ne (by decide), List.getElem?_set_ne (by decide)]; exact p7
                have c1 : env1[1]? = some (.val (.tup (ns.map D.int))) := by rw [he1, List.getElem?_set_ne (by decide), List.getElem?_set_ne (by decide)]; exact p8
                have c3 : env1[3]? = some (.val (.int t)) := by rw [he1, List.getElem?_set_ne (by decide), List.getElem?_set_ne (by decide)]; exact p9
                have no1 : ∀ (j : Nat) (es : List D), env1[j]? ≠ some (.own es) := fun j es hj => by
                  rw [he1] at hj
                  exact p10 j es (set_own (fun _ z => by cases z) (set_own (fun _ z => by cases z) hj).2).2
                refine sg_of I3 r3 hs fun σ2 I4 hw2 => ?_
                have t2 : σ2[2]? = some (some (.ref a)) := by
                  have := congrArg (fun l => l[2]?) (hw2 [4, 5] rfl)
                  simp only [wipe] at this
                  rw [List.getElem?_set_ne (by decide), List.getElem?_set_ne (by decide), List.getElem?_set_ne (by decide), List.getElem?_set_ne (by decide)] at this
                  rw [this]; exact p6
                show tIfS (tOfT K sp E T) _ tNext _ σ2 H3
                cases hq : exs (run G k) (memoL f T) env1 with
                | exc c => rw [hq] at p11; simp only [R.bind_exc] at p11; rw [← p11] at hex; simp at hex
                | bad => rw [hq] at p11; simp only [R.bind_bad] at p11; rw [← p11] at hex; simp at hex
                | ok o =>
                  rw [hq] at p11
                  simp only [R.bind_ok] at p11
                  refine st_T hC T E H env1 σ2 P3 H3 _ I4 ?_
                  rcases memoL_ok hq with ⟨ht, ho⟩ | ⟨ht, xx, yy, zz, ww, dd, hx, hy', hz, hw', hdd, ho⟩
                  · subst ho
                    rw [ht]
                    intro P4 H4 x4
                    have hH3a : H3 a ≠ none := by rw [ha3]; simp
                    exact ⟨P4, env1, kv, t, xv3.step hH3a x4, (p2.trans x3.p).trans x4.p, I4.mono x4, x4.h _ _ ha3, p5, t2, ⟨c0, c1, c3, no1⟩, p11⟩
                  · subst ho
                    rw [ht]
                    intro P4 H4 x4
                    have hH3a : H3 a ≠ none := by rw [ha3]; simp
                    have xv4 := xv3.step hH3a x4
                    have I5 := I4.mono x4
                    have ha4 : H4 a = some (.dT kv) := x4.h _ _ ha3
                    have hxx := slotV_ok hx
                    rw [c3] at hxx
                    cases hxx
                    have hyy := slotV_ok hy'
                    rw [c0] at hyy
                    cases hyy
                    obtain ⟨v3, hv3, rv3⟩ := I5.at_ 3 _ c3
                    cases rv3
                    obtain ⟨u0, hu0, ru0⟩ := I5.at_ 0 _ c0
                    obtain ⟨ms, rfl, hms⟩ := memoA_sub c1 hz
                    obtain ⟨jj, rfl, rfl⟩ : ∃ jj, ww = .int jj ∧ dd = .int (t + jj) := by
                      cases ww with
                      | int jj => exact ⟨jj, rfl, (Option.some.inj hdd).symm⟩
                      | _ => simp [bopF] at hdd
                    show tOp (rBop K .add) (tVar 3) (tCallS (sp (1000 + f)) E (tCons (tVar 0) (tCons (tOf K sp E memoA) (tCons (tVar 2) tNil)))) σ2 H4 _
                    refine ⟨.int t, hv3, u0, hu0, ?_⟩
                    refine se_all hC memoA E rfl H env1 σ2 P4 H4 _ I5 ?_
                    rw [hz]
                    intro u1 P5 H5 x5 ru1
                    refine ⟨.ref a, t2, ?_⟩
                    rw [hsp]
                    have hH4a : H4 a ≠ none := by rw [ha4]; simp
                    have xv5 := xv4.step hH4a x5
                    have ha5 : H5 a = some (.dT kv) := x5.h _ _ ha4
                    refine ⟨P5, td, u0, u1, ms, base, a, kv, jj, rfl, x5.ph, ru0.mono x5.p, ru1, xv5.pa, ha5, p5, hms.trans hsub, hbl, hw', fun P6 H6 kv6 x6 ha6 mo6 => ?_⟩
                    refine ⟨P6, .int t, .int jj, .int (t + jj), x6.ph, .inl (.int _), .inl (.int _), rfl, fun v7 H7 rs _ => ?_⟩
                    cases rs with
                    | same rr7 =>
                      cases rr7
                      refine ⟨P6, env1.set 3 (.val (.int (t + jj))), kv6, t + jj, xv5.trans x6, (((p2.trans x3.p).trans x4.p).trans x5.p).trans x6.p, ((I5.mono x5).monoV no1 x6).set (.int _), ha6, mo6, ?_, ⟨?_, ?_, ?_, ?_⟩, p11⟩
                      · rw [List.getElem?_set_ne (by decide)]; exact t2
                      · rw [List.getElem?_set_ne (by decide)]; exact c0
                      · rw [List.getElem?_set_ne (by decide)]; exact c1
                      · rw [List.getElem?_set_self (List.getElem?_eq_some_iff.mp c3).1]
                      · exact fun j es hj => no1 j es (set_own (fun _ z => by cases z) hj).2
            · obtain ⟨P', env', kv, t, p1, p2, p3, p4, p5, p6, ⟨p7, p8, p9, p10⟩, p11⟩ := hp'
              rw [List.drop_length] at p11
              simp only [forL] at p11
              rw [← p11] at hex
              simp only [R.bind_ok, next_nx, p9, slotV_val, next_rt, R.ok.injEq, Fl.rt.injEq, D.int.injEq] at hex
              subst hex
              obtain ⟨v3, hv3, rv3⟩ := p3.at_ 3 _ p9
              cases rv3
              obtain ⟨u1, hu1, ru1⟩ := p3.at_ 1 _ p8
              cases ru1 with
              | tup g2 rr2 =>
                rename_i b' us'
                have hus := rr2.intsV
                subst hus
                have hb2 : H' b' = some (.tup ((ns.map (Sum.inl : Int → Key)).map kV)) := by rw [← hkey]; exact p3.ex _ _ g2
                have nb : b' ≠ a := fun z => by rw [z, p1.pa] at g2; cases g2
                show sDPut (tVar 2) (tVar 1) (tVar 3) _ σ' H'
                refine ⟨.int t, hv3, .ref a, p6, .ref b', hu1, a, _, rfl, DPut.t p4 hb2 (p5.len hbl), ?_⟩
                show tRet (tDGet (tVar 2) (tVar 1)) _ σ' (upd H' a (.dT (putK kv (ns.map Sum.inl) (.int t))))
                refine ⟨.ref a, p6, .ref b', hu1, a, .int t, rfl, ?_, q P' _ _ (p1.put _) upd_same (p5.put hsub hrun)⟩
                have := DGet.t (H := upd H' a (.dT (putK kv (ns.map Sum.inl) (.int t)))) (a := a) (b := b') (k := ns.map Sum.inl) upd_same (by rw [upd_ne nb]; exact hb2)
                rw [valV_put, if_pos rfl] at this
                exact this
end Cl
set_option Elab.async false
set_option linter.all false
set_option maxRecDepth 100000
set_option maxHeartbeats 4000000
namespace Cl
open PySem PySem.Spec PyProof.Rows L2 RZ

/-! ### all defs of a text -/
structure FnE where
  name : Str
  ps : List Str
  N : List Str
  args : Arguments
  body : List Stmt
  scope : Scope
  fn : Fn
  memo : Option CE
abbrev Lst := List (Nat × FnE)
def FnE.at_ (e : FnE) (f : Nat) : Fn := match e.memo with
  | none => e.fn
  | some T => ⟨2, 7, memoB f T⟩
def Lst.tab (L : Lst) : Tab := fun f => (L.lookup f).map fun e => e.at_ f
/-- the names: those of defs with a table from 1000 on -/
def Lst.nm (L : Lst) (f : Nat) : Option Str := if 1000 ≤ f then (L.lookup (f - 1000)).bind fun e => if e.memo.isSome then some e.name else none else (L.lookup f).bind fun e => if e.memo.isSome then none else some e.name
def ctxOf (L : Lst) (cst : List (Str × Cst)) (exn : List (Nat × Str)) : Ctx := ⟨L.nm, fun x => cst.lookup x, fun c => exn.lookup c⟩
def fnScB (N ps : List Str) (sc : Scope) : Bool :=
  (match sc.kind with | .function => true | _ => false) && !sc.isCoroutine && !sc.isGenerator && decide N.Nodup && decide (N.take ps.length = ps) && ps.all (fun x => locB sc x) && sc.names.all (fun y => match y.2 with | .free => false | _ => true)
theorem fnSc_of {N ps : List Str} {sc : Scope} (h : fnScB N ps sc = true) : FnScope N ps sc := by
  unfold fnScB at h
  simp only [Bool.and_eq_true, Bool.not_eq_true', decide_eq_true_eq, List.all_eq_true] at h
  obtain ⟨⟨⟨⟨⟨⟨h1, h2⟩, h3⟩, h4⟩, h5⟩, h6⟩, h7⟩ := h
  refine ⟨?_, h2, h3, h4, h5, fun x hx => loc_of (h6 x hx), fun y hy e => ?_⟩
  · split at h1
    · assumption
    · cases h1
  · have := h7 y hy
    rw [e] at this
    cases this
def okF (C : Ctx) (f : Nat) (e : FnE) : Bool := fnScB e.N e.ps e.scope && decide (f < 1000) && match e.memo with
  | none => decide (e.fn.np = e.ps.length) && decide (e.fn.ns = e.N.length) && decide (e.ps.length ≤ e.N.length) && chkSs C e.N e.fn.body e.scope e.body
  | some T => decide (e.ps.length = 3) && decide (e.N.length = 7) && chkM C e.N e.scope f T e.body
def PostR (K : W.Frag) (cls : Nat → Value) (P H : Hp) (r : R D) (Q : VK) (Ex' : XK) : Prop := match r with
  | .ok d => ∀ v P' H', Ext P H P' H' → Rep K P' d v → Q v H'
  | .exc c => ∀ P' H', Ext P H P' H' → Ex' (cls c) none H'
  | .bad => False
def spOf (K : W.Frag) (cls : Nat → Value) (G : Tab) (k f : Nat) : Sp := fun vs H Q Ex' => ∃ P ds, Ex P H ∧ Reps K P ds vs ∧ PostR K cls P H (run G k f ds) Q Ex'
def spAt (K : W.Frag) (cls : Nat → Value) (G : Tab) (k g : Nat) : Sp := if 1000 ≤ g then spD K G k (g - 1000) else spOf K cls G k g
theorem run_none {G : Tab} {k f : Nat} {ds : List D} (h : G f = none) : run G k f ds = .bad := by
  cases k with
  | zero => rfl
  | succ k => unfold run; rw [h]; rfl
theorem calls_of (K : W.Frag) (cls : Nat → Value) (G : Tab) (hid : ∀ f, 1000 ≤ f → G f = none) (k : Nat) : Calls K cls (spAt K cls G k) (run G k) where
  c := fun f P H ds vs Q Ex' e r p => by
    unfold spAt
    by_cases hf : 1000 ≤ f
    · rw [run_none (hid f hf)] at p
      exact p.elim
    · rw [if_neg hf]
      refine ⟨P, ds, e, r, ?_⟩
      unfold PostR
      cases h : run G k f ds <;> (rw [h] at p; exact p)
  d := fun f P H ds vs d i Q Ex' e r hd hm hc q => by
    unfold spAt
    rw [if_pos (Nat.le_add_right _ _), Nat.add_sub_cancel_left]
    exact spD_call e r hd hm hc q
structure Facts (L : Lst) (cst : List (Str × Cst)) (exn : List (Nat × Str)) (cls : Nat → Value) (K : W.Frag) (mg : Str → Option Value) : Prop where
  blt : ∀ x ∈ bltNames, mg x = none
  fns : ∀ f e, L.lookup f = some e → ∃ a fd, mg e.name = some (.ref a) ∧ FunD K e.name e.name e.args e.body e.scope [] [] a fd ∧ Binds K fd e.ps []
  csts : ∀ x c, cst.lookup x = some c → ∃ u, mg x = some u ∧ RelV c.v u
  errs : ∀ c, ∃ a, cls c = .ref a ∧ ExcC K a ∧ ∀ b x, exn.lookup b = some x → W.kitOne K (.ref a) (cls b) = some (subc c b)
  exm : ∀ c, W.exmOne K (cls c) (cls 0) = some true
  exns : ∀ c x, exn.lookup c = some x → ∃ a, cls c = .ref a ∧ mg x = some (.ref a) ∧ W.excIn K a He.veBase "ValueError.__new__" = true ∧ W.keepIn K (.ref a) = true ∧ W.subIn K (.ref a) (.type "BaseException") = some true ∧ W.typeIn K (.ref a) = some (.type "type")
theorem mem_lookup {α : Type} {l : List (Nat × α)} {f : Nat} {e : α} (h : l.lookup f = some e) : (f, e) ∈ l := by
  induction l with
  | nil => simp at h
  | cons p l ih =>
    obtain ⟨g, d⟩ := p
    rw [List.lookup_cons] at h
    cases hb : (f == g) with
    | true =>
      rw [hb] at h
      simp only [Option.some.injEq] at h
      subst h
      rw [beq_iff_eq.mp hb]
      exact List.mem_cons_self
    | false =>
      rw [hb] at h
      exact List.mem_cons_of_mem _ (ih h)
theorem run_len {G : Tab} {k f : Nat} {ds : List D} {F : Fn} (hG : G f = some F) (h : run G (k + 1) f ds ≠ .bad) : ds.length = F.np := by
  unfold run at h
  rw [hG] at h
  simp only [R.ofO_some, R.bind_ok] at h
  split at h
  · assumption
  · exact absurd rfl h
theorem start_ok {K : W.Frag} {P H : Hp} {N : List Str} {np : Nat} : ∀ {ds : List D} {vs : List V}, Ex P H → Reps K P ds vs → ds.length = np → EnvOk K H (startE np N.length ds) (start N vs) P H := fun {ds vs} e r hl => by
  have hv := r.length
  refine ⟨e, ?_, fun i s q => ?_, fun i j ds' es' a b q1 => ?_⟩
  · unfold startE L2.start
    simp [hl, ← hv]
  · unfold startE at q
    unfold L2.start
    by_cases hi : i < ds.length
    · rw [List.getElem?_append_left (by simpa using hi), List.getElem?_map, List.getElem?_eq_getElem hi] at q
      simp only [Option.map_some, Option.some.injEq] at q
      subst q
      obtain ⟨v, h1, h2⟩ := r.get (List.getElem?_eq_getElem hi)
      refine ⟨v, ?_, h2⟩
      rw [List.getElem?_append_left (by simp; omega), List.getElem?_map, h1]
      rfl
    · rw [List.getElem?_append_right (by simpa using hi)] at q
      have hlt := (List.getElem?_eq_some_iff.mp q).1
      rw [List.getElem?_replicate_of_lt (by simpa using hlt)] at q
      simp only [Option.some.injEq] at q
      subst q
      refine ⟨none, ?_⟩
      rw [List.getElem?_append_right (by simp; omega)]
      simp only [List.length_replicate, List.length_map] at hlt
      rw [List.getElem?_replicate_of_lt (by simp only [List.length_map]; omega)]
  · exfalso
    unfold startE at q1
    by_cases hi : i < ds.length
    · rw [List.getElem?_append_left (by simpa using hi), List.getElem?_map, List.getElem?_eq_getElem hi] at q1
      simp at q1
    · rw [List.getElem?_append_right (by simpa using hi)] at q1
      have hlt := (List.getElem?_eq_some_iff.mp q1).1
      rw [List.getElem?_replicate_of_lt (by simpa using hlt)] at q1
      simp at q1
def spE (K : W.Frag) (cls : Nat → Value) (G : Tab) (k f : Nat) (e : FnE) : Sp := match e.memo with
  | none => spOf K cls G k f
  | some _ => spD K G k f
theorem spE_none {K : W.Frag} {cls : Nat → Value} {G : Tab} {k f : Nat} {e : FnE} (h : e.memo = none) : spE K cls G k f e = spOf K cls G k f := by unfold spE; rw [h]
theorem spE_some {K : W.Frag} {cls : Nat → Value} {G : Tab} {k f : Nat} {e : FnE} {T : CE} (h : e.memo = some T) : spE K cls G k f e = spD K G k f := by unfold spE; rw [h]
theorem tab_id {L : Lst} {C : Ctx} (ok : ∀ p ∈ L, okF C p.1 p.2 = true) : ∀ f, 1000 ≤ f → L.tab f = none := fun f hf => by
  unfold Lst.tab
  cases h : L.lookup f with
  | none => rfl
  | some e =>
    have := ok _ (mem_lookup h)
    unfold okF at this
    simp only [Bool.and_eq_true, decide_eq_true_eq] at this
    have := this.1.2
    omega
theorem fn_all {L : Lst} {cst : List (Str × Cst)} {exn : List (Nat × Str)} {cls : Nat → Value} {K : W.Frag} {mg : Str → Option Value} {P : Program} {w : World} (F : Facts L cst exn cls K mg) (ok : ∀ p ∈ L, okF (ctxOf L cst exn) p.1 p.2 = true) :
    ∀ (k : Nat) (f : Nat) (e : FnE), L.lookup f = some e → ∃ a fd, mg e.name = some (.ref a) ∧ W.keepIn K (.ref a) = true ∧ (∀ base : Heap, FnOk P w K mg base (L2.CX P w) k a fd e.ps (spE K cls L.tab k f e)) ∧ Binds K fd e.ps [] ∧ FunD K e.name e.name e.args e.body e.scope [] [] a fd := by
  intro k
  induction k with
  | zero =>
    intro f e h
    obtain ⟨a, fd, h1, h2, h3⟩ := F.fns f e h
    have no : ∀ vs H Q E', ¬ spE K cls L.tab 0 f e vs H Q E' := fun vs H Q E' q => by
      cases hm : e.memo with
      | none =>
        rw [spE_none hm] at q
        obtain ⟨_, _, _, _, z⟩ := q
        exact z.elim
      | some T =>
        rw [spE_some hm] at q
        obtain ⟨_, _, _, _, _, _, _, _, _, _, _, _, _, _, _, _, _, _, z, _⟩ := q
        cases z
    exact ⟨a, fd, h1, h2.kp, fun base => ⟨fun vs H Q E' q => (no _ _ _ _ q).elim, fun A outer s H args us vs Q E' _ _ _ _ q => (no _ _ _ _ q).elim⟩, h3, h2⟩
  | succ k ih =>
    intro f e h
    obtain ⟨a, fd, h1, h2, h3⟩ := F.fns f e h
    have o := ok _ (mem_lookup h)
    unfold okF at o
    simp only [Bool.and_eq_true, decide_eq_true_eq] at o
    obtain ⟨⟨o1, oid⟩, o⟩ := o
    have S := fnSc_of o1
    have hid := tab_id ok
    have hC := calls_of K cls L.tab hid k
    have good : ∀ (base : Heap) (cdv : Value) (A : Around) (outer : List PySem.Env) (s : Shared) (H : Hp) (E' : XK), Room k (cxOf (L2.CX P w) P w K mg base e.N e.name e.scope a cdv A outer s H E').A → GoodS (ctxOf L cst exn) cls (spAt K cls L.tab k) k e.N e.scope (fun _ => E') (cxOf (L2.CX P w) P w K mg base e.N e.name e.scope a cdv A outer s H E') := fun base cdv A outer s H E' hr => by
      have tk : Takes (cxOf (L2.CX P w) P w K mg base e.N e.name e.scope a cdv A outer s H E') (fun c d σ H => E' c d H) := takes_of rfl rfl rfl rfl
      refine ⟨⟨rfl, S.nd, rfl, rfl, rfl, hr, F.blt, fun g x hx => ?_, F.csts, fun σ => passAt tk σ⟩, S.kind, passes_of rfl, tk, rfl, rfl, fun c x hx => F.exns c x hx, F.errs⟩
      have hx' : L.nm g = some x := hx
      unfold Lst.nm at hx'
      by_cases hg : 1000 ≤ g
      · rw [if_pos hg] at hx'
        obtain ⟨e', he', hx'⟩ := Option.bind_eq_some_iff.mp hx'
        split at hx'
        · rename_i hm
          cases hx'
          obtain ⟨a', fd', k1, k2, k3, k4, _⟩ := ih (g - 1000) e' he'
          refine ⟨a', fd', e'.ps, k1, k2, ?_, k4⟩
          have := k3 base
          unfold spAt
          rw [if_pos hg]
          obtain ⟨T, hT⟩ := Option.isSome_iff_exists.mp hm
          rw [spE_some hT] at this
          exact this
        · cases hx'
      · rw [if_neg hg] at hx'
        obtain ⟨e', he', hx'⟩ := Option.bind_eq_some_iff.mp hx'
        split at hx'
        · cases hx'
        · rename_i hm
          cases hx'
          obtain ⟨a', fd', k1, k2, k3, k4, _⟩ := ih g e' he'
          refine ⟨a', fd', e'.ps, k1, k2, ?_, k4⟩
          have := k3 base
          unfold spAt
          rw [if_neg hg]
          rw [spE_none (Option.not_isSome_iff_eq_none.mp hm)] at this
          exact this
    cases hmm : e.memo with
    | some T =>
      rw [hmm] at o
      simp only [Bool.and_eq_true, decide_eq_true_eq] at o
      obtain ⟨⟨o2, o3⟩, o4⟩ := o
      have hG : L.tab f = some ⟨2, 7, memoB f T⟩ := by unfold Lst.tab FnE.at_; rw [h]; simp only [Option.map_some, hmm]
      have hse : spE K cls L.tab (k + 1) f e = spD K L.tab (k + 1) f := by unfold spE; rw [hmm]
      refine ⟨a, fd, h1, h2.kp, fun base => ?_, h3, h2⟩
      rw [hse]
      refine h2.ok S (fun vs H Q E' q => ?_) (fun cdv A outer s H vs Q E' hr q => ?_)
      · obtain ⟨_, _, _, _, _, _, _, _, _, rfl, _⟩ := q
        rw [o2]
        rfl
      · have hsp : spAt K cls L.tab k (1000 + f) = spD K L.tab k f := by unfold spAt; rw [if_pos (Nat.le_add_right _ _), Nat.add_sub_cancel_left]
        exact ⟨memoT K cls (spAt K cls L.tab k) (fun _ => E') f T, pss_memo (good base cdv A outer s H E' hr) o4, memo_read hC hsp hG o3 rfl q⟩
    | none =>
      rw [hmm] at o
      simp only [Bool.and_eq_true, decide_eq_true_eq] at o
      obtain ⟨⟨⟨o2, o3⟩, o4⟩, o5⟩ := o
      have hG : L.tab f = some e.fn := by unfold Lst.tab FnE.at_; rw [h]; simp only [Option.map_some, hmm]
      have hse : spE K cls L.tab (k + 1) f e = spOf K cls L.tab (k + 1) f := by unfold spE; rw [hmm]
      have hlen : ∀ (P0 H : Hp) (ds : List D) (Q : VK) (E' : XK), PostR K cls P0 H (run L.tab (k + 1) f ds) Q E' → ds.length = e.fn.np := fun P0 H ds Q E' z => run_len hG fun q => by rw [q] at z; exact z
      refine ⟨a, fd, h1, h2.kp, fun base => ?_, h3, h2⟩
      rw [hse]
      refine h2.ok S (fun vs H Q E' q => ?_) (fun cdv A outer s H vs Q E' hr q => ?_)
      · obtain ⟨P0, ds, e1, r, z⟩ := q
        rw [← r.length, hlen P0 H ds Q E' z, o2]
      · obtain ⟨P0, ds, e1, r, z⟩ := q
        have hl := hlen P0 H ds Q E' z
        refine ⟨tOfSs K cls (spAt K cls L.tab k) (fun _ => E') e.fn.body, pss_all e.fn.body (fun _ => E') _ e.body (good base cdv A outer s H E' hr) o5, ?_⟩
        refine sss_all hC F.exm e.fn.body (fun _ => E') P0 H (startE e.fn.np e.fn.ns ds) (start e.N vs) P0 H _ (.refl e1) (by rw [o3]; exact start_ok e1 r hl) ?_
        have er : run L.tab (k + 1) f ds = outR (exs (run L.tab k) e.fn.body (startE e.fn.np e.fn.ns ds)) := by
          rw [run, hG]
          simp only [R.ofO_some, R.bind_ok]
          rw [if_pos hl]
        rw [er] at z
        cases hx : exs (run L.tab k) e.fn.body (startE e.fn.np e.fn.ns ds) with
        | bad => rw [hx] at z; exact z
        | exc c => rw [hx] at z; exact fun σ' P' H' x => z P' H' x
        | ok o =>
          rw [hx] at z
          cases o with
          | nx env' => exact fun σ' P' H' x _ _ => z .non P' H' x .non
          | rt d => exact z
end Cl
set_option Elab.async false
set_option linter.all false
set_option maxRecDepth 100000
set_option maxHeartbeats 4000000
namespace Cl
open PySem PySem.Spec PyProof.Rows L2 RZ
/-! ### from the head to the facts -/
def BindP (e : FnE) : Prop := ∀ (kV doc pm : Value) (an : Option Addr) (cdv ct : Value) (us : List Value), us.length = e.ps.length → bindArgs (W.fnOf e.name e.name e.args e.body e.scope .none kV doc pm an cdv ct) ⟨us, []⟩ = pure (e.ps.zip us)
def FnE.dd (e : FnE) : He.DefD := ⟨(e.name, none), e.name, e.name, e.args, e.body, e.scope, [], []⟩
def Lst.dds (L : Lst) : List He.DefD := L.map fun p => p.2.dd
def cstFa (p : Str × Cst) : He.Fa := match p.2 with
  | .int i => .int p.1 i
  | .str z => .str p.1 z
  | _ => .free p.1
def cstOk (c : Cst) : Bool := match c with | .int _ => true | .str _ => true | _ => false
def Lst.fas (L : Lst) (cst : List (Str × Cst)) (exn : List (Nat × Str)) : List He.Fa :=
  L.map (fun p => He.Fa.glo p.2.name) ++ (bltNames.map He.Fa.free ++ (cst.map cstFa ++ exn.flatMap fun p => [He.Fa.glo p.2, He.Fa.exc p.2]))
theorem lookup_mem {α : Type} {l : List (Str × α)} {f : Str} {e : α} (h : l.lookup f = some e) : (f, e) ∈ l := by
  induction l with
  | nil => simp at h
  | cons p l ih =>
    obtain ⟨g, d⟩ := p
    rw [List.lookup_cons] at h
    cases hb : (f == g) with
    | true =>
      rw [hb] at h
      simp only [Option.some.injEq] at h
      subst h
      rw [beq_iff_eq.mp hb]
      exact List.mem_cons_self
    | false =>
      rw [hb] at h
      exact List.mem_cons_of_mem _ (ih h)
theorem says_fa {fa : List He.Fa} {fn : List He.DefD} {K : W.Frag} (c : He.SaysD fa fn K) {f : He.Fa} (h : f ∈ fa) : f.ok K = true := by
  obtain ⟨i, hi, q⟩ := List.mem_iff_getElem.mp h
  exact c.fact i (by rw [List.getElem?_eq_getElem hi, q])
theorem says_fn {fa : List He.Fa} {fn : List He.DefD} {K : W.Frag} (c : He.SaysD fa fn K) {d : He.DefD} (h : d ∈ fn) : ∃ fd, FunD K d.name d.qual d.params d.body d.scope (d.dvs K) (d.kws K) (He.fAd K d.at_) fd := by
  obtain ⟨i, hi, q⟩ := List.mem_iff_getElem.mp h
  exact c.def_ i (by rw [List.getElem?_eq_getElem hi, q])
/-! the exceptions' classes: what is asked of them beyond the head's own facts -/
def excCB (K : W.Frag) (a : Addr) : Bool :=
  decide (W.findIn K (.ref a) "__getattribute__" = some (some (.builtin "BaseException.__getattribute__"))) && (decide (W.findIn K (.ref a) "__getattr__" = some none) && (decide (W.subIn K (.ref a) (.type "BaseException") = some true) && (W.hasDictIn K a &&
  (decide (W.findIn K (.ref a) "__class__" = some (some (.builtin "object.__class__"))) && (decide (W.specialIn K (.builtin "object.__class__") "__get__" = some (some (.builtin "getset_descriptor.__get__"))) && (decide (W.takesIn K (.builtin "object.__class__") = some true) && decide (W.mroIn K a (.type "object") = some true)))))))
theorem excCB_ok {K : W.Frag} {a : Addr} (h : excCB K a = true) : ExcC K a := by
  unfold excCB at h
  simp only [Bool.and_eq_true, decide_eq_true_eq] at h
  obtain ⟨h1, h2, h3, h4, h5, h6, h7, h8⟩ := h
  exact ⟨h1, h2, h3, h4, h5, h6, h7, h8⟩
def nm0 (exn : List (Nat × Str)) : Str := (exn.lookup 0).getD Str.empty
def exNm (exn : List (Nat × Str)) (c : Nat) : Str := (exn.lookup c).getD (nm0 exn)
def xB (exn : List (Nat × Str)) (K : W.Frag) : Bool := exn.all fun p => excCB K (He.ga K p.2) && (decide (W.exmOne K (.ref (He.ga K p.2)) (.ref (He.ga K (nm0 exn))) = some true) && exn.all fun q => decide (W.kitOne K (.ref (He.ga K p.2)) (.ref (He.ga K q.2)) = some (subc p.1 q.1)))
def hookE (n : Nat) (fa : List He.Fa) (fn : List He.DefD) (ex : W.Frag → Bool) : W.Hook where
  α := He.AlD × Bool
  obs := fun s => (He.obsDG n fa fn s.heap.get?, ex (He.frG s.heap.get? (He.asD s.heap.get? n)))
  val := fun _ => (He.valD fn, true)
  says := fun _ h => ∃ K : W.Frag, K.In h ∧ He.SaysD fa fn K ∧ ex K = true
  of := fun _ _ e => ⟨_, He.frG_in, congrArg Prod.fst e, congrArg Prod.snd e⟩
  keeps := fun _ _ _ ⟨K, hK, c⟩ k => ⟨K, W.Frag.In.keeps hK k, c⟩
def obE (n : Nat) (fa : List He.Fa) (fn : List He.DefD) (ex : W.Frag → Bool) (g : Addr → Option Obj) : He.AlD × Bool := (He.obsDG n fa fn g, ex (He.frG g (He.asD g n)))
theorem obE_eq {n : Nat} {fa : List He.Fa} {fn : List He.DefD} {ex : W.Frag → Bool} {g : Addr → Option Obj} {s : Shared} (h : ∀ a, g a = s.heap.get? a) : obE n fa fn ex g = (hookE n fa fn ex).obs s := by
  have e : g = s.heap.get? := funext h
  rw [e]
  rfl
def clsOf (K : W.Frag) (exn : List (Nat × Str)) (c : Nat) : Value := .ref (He.ga K (exNm exn c))
theorem exNm_of {exn : List (Nat × Str)} {c : Nat} {x : Str} (h : exn.lookup c = some x) : exNm exn c = x := by
  unfold exNm
  rw [h]
  rfl
theorem exNm_mem {exn : List (Nat × Str)} (h0 : (exn.lookup 0).isSome = true) (c : Nat) : ∃ c', (c', exNm exn c) ∈ exn ∧ (∀ b x, exn.lookup b = some x → subc c' b = subc c b) := by
  cases h : exn.lookup c with
  | some x => exact ⟨c, by rw [exNm_of h]; exact mem_lookup h, fun _ _ _ => rfl⟩
  | none =>
    obtain ⟨x, hx⟩ := Option.isSome_iff_exists.mp h0
    refine ⟨0, ?_, fun b y hb => ?_⟩
    · have : exNm exn c = x := by unfold exNm nm0; rw [h, hx]; rfl
      rw [this]
      exact mem_lookup hx
    · have hcb : c ≠ b := fun e => by rw [e, hb] at h; cases h
      unfold subc
      simp only [decide_eq_false hcb, Bool.false_or]
      by_cases hb0 : b = 0
      · subst hb0; rfl
      · simp [hb0, Ne.symm hb0]
theorem xB_ok {exn : List (Nat × Str)} {K : W.Frag} (h0 : (exn.lookup 0).isSome = true) (h : xB exn K = true) : (∀ c, ∃ a, clsOf K exn c = .ref a ∧ ExcC K a ∧ ∀ b x, exn.lookup b = some x → W.kitOne K (.ref a) (clsOf K exn b) = some (subc c b)) ∧ ∀ c, W.exmOne K (clsOf K exn c) (clsOf K exn 0) = some true := by
  unfold xB at h
  have key : ∀ p ∈ exn, ExcC K (He.ga K p.2) ∧ W.exmOne K (.ref (He.ga K p.2)) (.ref (He.ga K (nm0 exn))) = some true ∧ ∀ q ∈ exn, W.kitOne K (.ref (He.ga K p.2)) (.ref (He.ga K q.2)) = some (subc p.1 q.1) := fun p hp => by
    have := List.all_eq_true.mp h p hp
    simp only [Bool.and_eq_true, decide_eq_true_eq, List.all_eq_true] at this
    exact ⟨excCB_ok this.1, this.2.1, this.2.2⟩
  refine ⟨fun c => ?_, fun c => ?_⟩
  · obtain ⟨c', m, hs⟩ := exNm_mem h0 c
    obtain ⟨k1, k2, k3⟩ := key _ m
    refine ⟨_, rfl, k1, fun b x hb => ?_⟩
    have := k3 _ (mem_lookup hb)
    unfold clsOf
    rw [exNm_of hb]
    rw [this]
    exact congrArg some (hs b x hb)
  · obtain ⟨c', m, hs⟩ := exNm_mem h0 c
    obtain ⟨k1, k2, k3⟩ := key _ m
    have e0 : exNm exn 0 = nm0 exn := by
      obtain ⟨x, hx⟩ := Option.isSome_iff_exists.mp h0
      unfold exNm nm0
      rw [hx]
      rfl
    unfold clsOf
    rw [e0]
    exact k2
theorem facts_of {L : Lst} {cst : List (Str × Cst)} {exn : List (Nat × Str)} {K : W.Frag} {h : Heap} {mg : Str → Option Value} (h0 : (exn.lookup 0).isSome = true) (hx : xB exn K = true) (hc : (cst.all fun p => cstOk p.2) = true) (hb : ∀ p ∈ L, BindP p.2) (X : K.In h) (G : h.Ns mainGlobals mg) (c : He.SaysD (L.fas cst exn) L.dds K) : Facts L cst exn (clsOf K exn) K mg := by
  refine ⟨fun x hx => He.free_ok X G (says_fa c ?_), fun f e hl => ?_, fun x d hl => ?_, (xB_ok h0 hx).1, (xB_ok h0 hx).2, fun i x hl => ?_⟩
  · unfold Lst.fas
    simp only [List.mem_append, List.mem_map]
    exact .inr (.inl ⟨x, hx, rfl⟩)
  · have hm := mem_lookup hl
    obtain ⟨fd, F⟩ := says_fn c (d := e.dd) (by unfold Lst.dds; exact List.mem_map.mpr ⟨_, hm, rfl⟩)
    have g := He.glo_ok X G (x := e.name) (says_fa c (by
      unfold Lst.fas
      simp only [List.mem_append, List.mem_map]
      exact .inl ⟨_, hm, rfl⟩))
    exact ⟨_, fd, g, F, FunD.bindsN F (hb _ hm)⟩
  · have hm := lookup_mem hl
    have hk := List.all_eq_true.mp hc _ hm
    have hf := says_fa c (f := cstFa (x, d)) (by
      unfold Lst.fas
      simp only [List.mem_append, List.mem_map]
      exact .inr (.inr (.inl ⟨_, hm, rfl⟩)))
    cases d with
    | int i =>
      obtain ⟨t, q⟩ := He.int_ok X G hf
      exact ⟨_, q, t, rfl⟩
    | str z =>
      obtain ⟨t, q⟩ := He.str_ok X G hf
      exact ⟨_, q, t, rfl⟩
    | non => cases hk
    | bl b => cases hk
  · have hm := mem_lookup hl
    have m1 : ∀ f ∈ [He.Fa.glo x, He.Fa.exc x], f ∈ L.fas cst exn := fun f hf => by
      unfold Lst.fas
      simp only [List.mem_append, List.mem_flatMap]
      exact .inr (.inr (.inr ⟨_, hm, hf⟩))
    have g := He.glo_ok X G (x := x) (says_fa c (m1 _ (by simp)))
    obtain ⟨k1, k2, k3, k4⟩ := He.exc_ok (says_fa c (m1 (.exc x) (by simp)))
    refine ⟨He.ga K x, ?_, g, k1, k2, k3, k4⟩
    unfold clsOf
    rw [exNm_of hl]
theorem tab_map (L : Lst) (f : Nat) : L.tab f = (L.map fun p => (p.1, p.2.at_ p.1)).lookup f := by
  unfold Lst.tab
  induction L with
  | nil => rfl
  | cons p l ih =>
    obtain ⟨g, d⟩ := p
    simp only [List.lookup_cons, List.map_cons]
    cases hb : (f == g) with
    | true => rw [beq_iff_eq.mp hb]; rfl
    | false => exact ih
/-! ### the law's end -/
theorem end_of {l : W.OpenLaw} {n k : Nat} {q : Program} {loose : List Str} {XP : (Str → Option Value) → Heap → Prop} {d : DefRec} {L : Lst} {cst : List (Str × Cst)} {exn : List (Nat × Str)} {f : Nat} {e : FnE} {x : Str} {wd : Nat}
    (h0 : (exn.lookup 0).isSome = true) (hn : l.most = some n) (hn2 : n ≤ sizeLine) (hdf : d.params.defaults = []) (hr : Room k callerA)
    (hc : (cst.all fun p => cstOk p.2) = true) (hb : ∀ p ∈ L, BindP p.2) (ok : ∀ p ∈ L, okF (ctxOf L cst exn) p.1 p.2 = true) (hl : L.lookup f = some e) (hme : e.memo = none) (hps : e.ps = [x]) (hd : d.name = e.name)
    (main : ∀ ns : List Int, ns.length ≤ n → run L.tab k f [.scr ns] = .ok (.bl true)) :
    W.WalkO q loose XP (fun w h => (hookE wd (L.fas cst exn) L.dds (xB exn)).says w h) l.row.toRowW d [] (fun f vs => PySem.call f vs) := by
  refine Att.attach_call hn hdf fun w s₀ s₁ mg mb fa o pm cd doc a vs ns G Y ho hd' hcd hmg hobj hints hlen hg => ?_
  obtain ⟨K, KX, c, hxb⟩ := Y
  have Fx := facts_of h0 hxb hc hb KX G.T.g c
  obtain ⟨b, fd, g1, kp, ok1, bi, F⟩ := fn_all (P := l.prog) (w := w) Fx ok k f e hl
  have A := hb _ (mem_lookup hl)
  have B : ∀ (s : Shared) (u : Value), BindsTo s fd ⟨[u], []⟩ [(x, u)] := fun s u => by
    have := FunD.bindsA (ps := e.ps) F A s [u] (by rw [hps]; rfl)
    rw [hps] at this
    exact this
  have e1 : fa = b := by
    rw [hd] at hmg
    have := hmg.symm.trans g1
    simpa using this
  subst e1
  have hse : spE K (clsOf K exn) L.tab k f e = spOf K (clsOf K exn) L.tab k f := by unfold spE; rw [hme]
  rw [hps, hse] at ok1
  refine law_call KX G.T.g G.T.b G.T.builtins G.T.nolimit hg hobj hints (Nat.le_trans hlen hn2) hr (fun base _ _ => ok1 base) B (fun H hO hS => ?_) (fun H e s' h => ?_)
  · refine ⟨H, [.scr ns], fun _ _ h => h, .cons (.scr hS) .nil, ?_⟩
    rw [main ns hlen]
    intro v P' H' _ r
    cases r
    rfl
  · obtain ⟨_, _, _, _, _, _, _, _, _, _, _, _, z⟩ := h
    exact z
end Cl
set_option Elab.async false
set_option linter.all false
set_option maxRecDepth 100000
set_option maxHeartbeats 1000000
namespace Cl
open PySem

/-! ### rising lists, sets of beats -/
def up : List Int → Bool
  | [] => true
  | [_] => true
  | x :: y :: r => decide (x < y) && up (y :: r)
theorem up_pw : ∀ {l : List Int}, up l = true ↔ l.Pairwise (· < ·)
  | [] => by simp [up]
  | [x] => by simp [up]
  | x :: y :: r => by
    rw [up, Bool.and_eq_true, up_pw (l := y :: r), decide_eq_true_eq, List.pairwise_cons (a := x)]
    constructor
    · rintro ⟨h1, h2⟩
      refine ⟨fun z hz => ?_, h2⟩
      rcases List.mem_cons.mp hz with rfl | hz
      · exact h1
      · have := (List.pairwise_cons.mp h2).1 z hz
        omega
    · rintro ⟨h1, h2⟩
      exact ⟨h1 y List.mem_cons_self, h2⟩
theorem pw_ext : ∀ {l m : List Int}, l.Pairwise (· < ·) → m.Pairwise (· < ·) → (∀ x, x ∈ l ↔ x ∈ m) → l = m
  | [], [], _, _, _ => rfl
  | [], y :: m, _, _, h => by have := (h y).mpr List.mem_cons_self; cases this
  | x :: l, [], _, _, h => by have := (h x).mp List.mem_cons_self; cases this
  | x :: l, y :: m, h1, h2, h => by
    obtain ⟨a1, a2⟩ := List.pairwise_cons.mp h1
    obtain ⟨b1, b2⟩ := List.pairwise_cons.mp h2
    have e : x = y := by
      rcases List.mem_cons.mp ((h x).mp List.mem_cons_self) with e | e
      · exact e
      · rcases List.mem_cons.mp ((h y).mpr List.mem_cons_self) with e' | e'
        · exact e'.symm
        · have := b1 x e; have := a1 y e'; omega
    subst e
    congr 1
    refine pw_ext a2 b2 fun z => ?_
    constructor
    · intro hz
      rcases List.mem_cons.mp ((h z).mp (List.mem_cons_of_mem _ hz)) with e | e
      · have := a1 z hz; omega
      · exact e
    · intro hz
      rcases List.mem_cons.mp ((h z).mpr (List.mem_cons_of_mem _ hz)) with e | e
      · have := b1 z hz; omega
      · exact e
theorem rgI_pw (a b : Int) : (rgI a b).Pairwise (· < ·) := by
  unfold rgI
  rw [List.pairwise_map]
  refine List.Pairwise.imp ?_ List.pairwise_lt_range
  intro x y h
  omega
theorem flt_pw (a b : Int) (p : Int → Bool) : ((rgI a b).filter p).Pairwise (· < ·) := (rgI_pw a b).filter p
def setOk (n : Int) (l : List Int) : Bool := !l.isEmpty && (l.all (fun i => decide (0 ≤ i) && decide (i ≤ n - 1)) && up l)
/-- l is a set of beats of the cycle n -/
structure IsSet (n : Int) (l : List Int) : Prop where
  ne : l ≠ []
  lo : ∀ x ∈ l, 0 ≤ x
  hi : ∀ x ∈ l, x < n
  pw : l.Pairwise (· < ·)
theorem setOk_iff {n : Int} {l : List Int} : setOk n l = true ↔ IsSet n l := by
  unfold setOk
  simp only [Bool.and_eq_true, Bool.not_eq_true', List.isEmpty_eq_false_iff, List.all_eq_true, decide_eq_true_eq, up_pw]
  constructor
  · rintro ⟨h1, h2, h3⟩
    exact ⟨h1, fun x hx => (h2 x hx).1, fun x hx => by have := (h2 x hx).2; omega, h3⟩
  · rintro ⟨h1, h2, h3, h4⟩
    exact ⟨h1, fun x hx => ⟨h2 x hx, by have := h3 x hx; omega⟩, h4⟩
theorem IsSet.pos {n : Int} {l : List Int} (h : IsSet n l) : 0 < n := by
  obtain ⟨x, hx⟩ := List.exists_mem_of_ne_nil _ h.ne
  have := h.lo x hx; have := h.hi x hx; omega
theorem IsSet.len {n : Int} {l : List Int} (h : IsSet n l) : (l.length : Int) ≤ n := by
  have e : l = (rgI 0 n).filter (fun x => decide (x ∈ l)) := pw_ext h.pw (flt_pw _ _ _) fun x => by
    simp only [List.mem_filter, mem_rgI, decide_eq_true_eq]
    exact ⟨fun hx => ⟨⟨h.lo x hx, h.hi x hx⟩, hx⟩, fun hx => hx.2⟩
  have k : l.length ≤ (rgI 0 n).length := by rw [e]; exact List.length_filter_le _ _
  rw [length_rgI] at k
  have := h.pos
  omega
theorem IsSet.ext {n : Int} {l m : List Int} (h : IsSet n l) (k : IsSet n m) (e : ∀ x, 0 ≤ x → x < n → (x ∈ l ↔ x ∈ m)) : l = m := pw_ext h.pw k.pw fun x => ⟨fun hx => (e x (h.lo x hx) (h.hi x hx)).mp hx, fun hx => (e x (k.lo x hx) (k.hi x hx)).mpr hx⟩
theorem IsSet.nd {n : Int} {l : List Int} (h : IsSet n l) : l.Nodup := h.pw.imp fun h => by omega
/-! ### moving -/
def mv (n : Int) (l : List Int) (m : Int) : List Int := (rgI 0 n).filter fun b => decide ((b - m) % n ∈ l)
theorem mem_mv {n : Int} {l : List Int} {m x : Int} : x ∈ mv n l m ↔ (0 ≤ x ∧ x < n) ∧ (x - m) % n ∈ l := by simp [mv, mem_rgI]
theorem mv_pw (n : Int) (l : List Int) (m : Int) : (mv n l m).Pairwise (· < ·) := flt_pw _ _ _
theorem mv_add {n : Int} (h : 0 < n) (l : List Int) (a b : Int) : mv n (mv n l a) b = mv n l (a + b) := by
  refine pw_ext (mv_pw _ _ _) (mv_pw _ _ _) fun x => ?_
  simp only [mem_mv]
  have e : ((x - b) % n - a) % n = (x - (a + b)) % n := by
    rw [Int.emod_sub_emod]
    congr 1; omega
  rw [e]
  exact ⟨fun ⟨h1, _, h2⟩ => ⟨h1, h2⟩, fun ⟨h1, h2⟩ => ⟨h1, ⟨Int.emod_nonneg _ (by omega), Int.emod_lt_of_pos _ h⟩, h2⟩⟩
theorem mv_mod {n : Int} (l : List Int) (a : Int) : mv n l (a % n) = mv n l a := by
  refine pw_ext (mv_pw _ _ _) (mv_pw _ _ _) fun x => ?_
  simp only [mem_mv, Int.sub_emod_emod]
theorem IsSet.mv0 {n : Int} {l : List Int} (h : IsSet n l) : mv n l 0 = l := by
  refine pw_ext (mv_pw _ _ _) h.pw fun x => ?_
  simp only [mem_mv, Int.sub_zero]
  constructor
  · rintro ⟨⟨h1, h2⟩, h3⟩
    rwa [Int.emod_eq_of_lt h1 h2] at h3
  · intro hx
    refine ⟨⟨h.lo x hx, h.hi x hx⟩, ?_⟩
    rwa [Int.emod_eq_of_lt (h.lo x hx) (h.hi x hx)]
theorem IsSet.mvn {n : Int} {l : List Int} (h : IsSet n l) : mv n l n = l := by
  rw [← mv_mod, Int.emod_self, h.mv0]
theorem IsSet.mv {n : Int} {l : List Int} (h : IsSet n l) (m : Int) : IsSet n (mv n l m) := by
  have hp := h.pos
  obtain ⟨x, hx⟩ := List.exists_mem_of_ne_nil _ h.ne
  refine ⟨List.ne_nil_of_mem (a := (x + m) % n) (mem_mv.mpr ⟨⟨Int.emod_nonneg _ (by omega), Int.emod_lt_of_pos _ hp⟩, ?_⟩), fun x hx => (mem_mv.mp hx).1.1, fun x hx => (mem_mv.mp hx).1.2, mv_pw _ _ _⟩
  rw [Int.emod_sub_emod]
  have e : x + m - m = x := by omega
  rw [e, Int.emod_eq_of_lt (h.lo x hx) (h.hi x hx)]
  exact hx
/-! ### sorting whole numbers -/
def srt (l : List Int) : List Int := isort (fun a b => decide (a ≤ b)) l
theorem srt_pw (l : List Int) : (srt l).Pairwise (· ≤ ·) := (isort_sorted (le := fun a b : Int => decide (a ≤ b)) (fun a b c h1 h2 => by simp at *; omega) (fun a b => by simp; omega)).imp fun h => by simpa using h
theorem mem_srt {x : Int} {l : List Int} : x ∈ srt l ↔ x ∈ l := isort_mem
theorem srt_perm (l : List Int) : (srt l).Perm l := isort_perm
theorem srt_lt {l : List Int} (h : l.Nodup) : (srt l).Pairwise (· < ·) := by
  have h1 := srt_pw l
  have h2 : (srt l).Nodup := (srt_perm l).nodup_iff.mpr h
  have h3 := h1.and h2
  exact h3.imp fun ⟨a, b⟩ => by omega
theorem IsSet.srt_mv {n : Int} {l : List Int} (h : IsSet n l) (m : Int) : srt (l.map fun b => (b + m) % n) = Cl.mv n l m := by
  have hp := h.pos
  have inj : ∀ x ∈ l, ((x + m) % n - m) % n = x := fun x hx => by
    rw [Int.emod_sub_emod]
    have e : x + m - m = x := by omega
    rw [e, Int.emod_eq_of_lt (h.lo x hx) (h.hi x hx)]
  refine pw_ext (srt_lt ?_) (mv_pw _ _ _) fun x => ?_
  · rw [List.nodup_iff_pairwise_ne, List.pairwise_map]
    refine h.nd.imp_of_mem fun {a b} ha hb hab e => hab ?_
    rw [← inj a ha, ← inj b hb, e]
  · rw [mem_srt, List.mem_map, mem_mv]
    constructor
    · rintro ⟨b, hb, rfl⟩
      exact ⟨⟨Int.emod_nonneg _ (by omega), Int.emod_lt_of_pos _ hp⟩, by rw [inj b hb]; exact hb⟩
    · rintro ⟨⟨h1, h2⟩, h3⟩
      refine ⟨_, h3, ?_⟩
      rw [Int.emod_add_emod]
      have e : x - m + m = x := by omega
      rw [e, Int.emod_eq_of_lt h1 h2]
theorem ins_map {α : Type} {le : α → α → Bool} {le' : D → D → Bool} {f : α → D} (h : ∀ a b, le' (f a) (f b) = le a b) (x : α) : ∀ l : List α, ins le' (f x) (l.map f) = (ins le x l).map f
  | [] => rfl
  | y :: l => by
    simp only [List.map_cons, ins, h]
    split
    · rfl
    · simp [ins_map h x l]
theorem isort_map {α : Type} {le : α → α → Bool} {le' : D → D → Bool} {f : α → D} (h : ∀ a b, le' (f a) (f b) = le a b) : ∀ l : List α, isort le' (l.map f) = (isort le l).map f
  | [] => rfl
  | y :: l => by simp only [List.map_cons, isort, isort_map h l, ins_map h]
theorem dle_int (a b : Int) : dle (.int a) (.int b) = decide (a ≤ b) := by
  simp only [dle, D.pd, W.dataLt_int]
  by_cases h : a ≤ b <;> simp [h] <;> omega
theorem okSort_int (l : List Int) : okSort (l.map D.int) = true := by
  unfold okSort
  simp [D.pd, W.alike, PyData.depth]
theorem bi_sorted (l : List Int) (h : l.length ≤ lim) : biF .sorted [.lst (l.map D.int)] = some (.lst ((srt l).map D.int)) := by
  have := isort_map (f := D.int) dle_int l
  simp only [biF, okSort_int, List.length_map, Bool.true_and, decide_eq_true_eq, h, if_true, this]
  rfl
theorem atI_nat {α : Type} {xs : List α} {i : Int} {d : α} (h0 : 0 ≤ i) (h : xs[i.toNat]? = some d) : L2.atI xs i = some d := by
  have hl := (List.getElem?_eq_some_iff.mp h).1
  unfold L2.atI L2.ixN
  rw [if_pos h0, if_pos (by omega)]
  exact h
theorem atI_zero {α : Type} {x : α} {xs : List α} : L2.atI (x :: xs) 0 = some x := atI_nat (Int.le_refl 0) rfl
theorem idx_lst {xs : List D} {i : Int} {d : D} (h0 : 0 ≤ i) (h : xs[i.toNat]? = some d) : idxF (.lst xs) (.int i) = some d := atI_nat h0 h
theorem idx_tup {xs : List D} {i : Int} {d : D} (h0 : 0 ≤ i) (h : xs[i.toNat]? = some d) : idxF (.tup xs) (.int i) = some d := atI_nat h0 h
@[simp] theorem idx_lst0 {x : D} {xs : List D} : idxF (.lst (x :: xs)) (.int 0) = some x := atI_zero
@[simp] theorem idx_tup0 {x : D} {xs : List D} : idxF (.tup (x :: xs)) (.int 0) = some x := atI_zero
/-! ### the least of some tuples -/
def tI (l : List Int) : D := .tup (l.map D.int)
@[simp] theorem fold_tI (l : List Int) : D.tup (l.map D.int) = tI l := rfl
@[simp] theorem ok_t (l : List Int) : (tI l).okD = true := ok_tI l
@[simp] theorem ok_lt (l : List (List Int)) : (D.lst (l.map tI)).okD = true := ok_lT l
@[simp] theorem eq_t (l m : List Int) : deq (tI l) (tI m) = decide (l = m) := eq_tI l m
@[simp] theorem eq_t0 (l : List Int) : deq (tI l) (.tup []) = decide (l = []) := eq_tI_nil l
@[simp] theorem eq_lt (l m : List (List Int)) : deq (.lst (l.map tI)) (.lst (m.map tI)) = decide (l = m) := eq_lT l m
@[simp] theorem eq_lt0 (l : List (List Int)) : deq (.lst (l.map tI)) (.lst []) = decide (l = []) := eq_lT_nil l
@[simp] theorem any_t (l : List (List Int)) (a : List Int) : ((l.map tI).any fun z => deq z (tI a)) = decide (a ∈ l) := any_tI l a
@[simp] theorem tupD_t (l : List Int) : tupD (tI l) = .ok (l.map D.int) := rfl
@[simp] theorem len_t (l : List Int) : biF .len [tI l] = some (.int l.length) := by
  show some (D.int ((l.map D.int).length : Nat)) = _
  rw [List.length_map]
@[simp] theorem in_t (l : List Int) (a : Int) : copF .isin (.int a) (tI l) = some (decide (a ∈ l)) := by
  unfold tI
  rw [c_inT (ok_int a) (ok_tI l), any_int]
@[simp] theorem nin_t (l : List Int) (a : Int) : copF .notin (.int a) (tI l) = some (!decide (a ∈ l)) := by
  unfold tI
  rw [c_ninT (ok_int a) (ok_tI l), any_int]
@[simp] theorem in_lI (l : List Int) (a : Int) : copF .isin (.int a) (.lst (l.map D.int)) = some (decide (a ∈ l)) := by rw [c_inL (ok_int a) (ok_lI l), any_int]
@[simp] theorem nin_lI (l : List Int) (a : Int) : copF .notin (.int a) (.lst (l.map D.int)) = some (!decide (a ∈ l)) := by rw [c_ninL (ok_int a) (ok_lI l), any_int]
@[simp] theorem in_lt (l : List (List Int)) (a : List Int) : copF .isin (tI a) (.lst (l.map tI)) = some (decide (a ∈ l)) := by rw [c_inL (ok_t a) (ok_lt l), any_t]
@[simp] theorem nin_lt (l : List (List Int)) (a : List Int) : copF .notin (tI a) (.lst (l.map tI)) = some (!decide (a ∈ l)) := by rw [c_ninL (ok_t a) (ok_lt l), any_t]
@[simp] theorem eq_L00 : deq (.lst []) (.lst []) = true := eq_lI_nil []
@[simp] theorem eq_T00 : deq (.tup []) (.tup []) = true := eq_tI_nil []
@[simp] theorem isi_t (l : List Int) : isiF .tuple (tI l) = true := rfl
@[simp] theorem ints_t (l : List Int) : ints? (l.map D.int) = some l := ints?_map l
theorem pd_tI (l : List Int) : (tI l).pd = .tuple (l.map PyData.int) := by
  unfold tI
  rw [D.pd, pds_map, List.map_map]
  congr 1
theorem lt_tI (a b : List Int) : W.dataLt (tI a).pd (tI b).pd = decide (a < b) := by
  rw [pd_tI, pd_tI, W.dataLt_tuple]
  exact W.dataLt_ints a b
def minT (x : List Int) (r : List (List Int)) : List Int := r.foldl (fun a y => if y < a then y else a) x
theorem minDD_tI : ∀ (r : List (List Int)) (x : List Int), minDD (tI x) (r.map tI) = tI (minT x r)
  | [], x => rfl
  | y :: r, x => by
    simp only [minDD, minT, List.map_cons, List.foldl_cons, lt_tI]
    have := minDD_tI r (if y < x then y else x)
    simp only [minDD, minT] at this
    by_cases h : y < x
    · simp only [h, decide_true, if_true] at this ⊢
      exact this
    · simp only [h, decide_false, if_false] at this ⊢
      exact this
theorem plain_ints : ∀ l : List Int, D.plains (l.map D.int) = true
  | [] => rfl
  | x :: l => by simp [D.plains, D.plain, plain_ints l]
theorem plain_tI (l : List Int) : (tI l).plain = true := by
  unfold tI
  rw [D.plain]
  exact plain_ints l
theorem alike_tI (a b : List Int) : W.alike (tI a).pd (tI b).pd = true := by
  rw [pd_tI, pd_tI, W.alike]
  exact W.alike_ints a b
theorem depth_ints : ∀ l : List Int, PyData.depthAll (l.map PyData.int) = 0
  | [] => rfl
  | x :: l => by simp [PyData.depthAll, PyData.depth, depth_ints l]
theorem okSort_tI (ls : List (List Int)) (h : ∀ l ∈ ls, l ≠ []) : okSort (ls.map tI) = true := by
  unfold okSort
  simp only [List.all_map, Bool.and_eq_true, Bool.or_eq_true, List.all_eq_true]
  refine ⟨⟨fun a ha => List.all_eq_true.mpr fun b _ => alike_tI a b, fun a ha => ?_⟩, .inl fun a ha => ?_⟩
  · simp only [Function.comp_def, pd_tI, PyData.depth, depth_ints]
    decide
  · cases a with
    | nil => exact absurd rfl (h _ ha)
    | cons x r => rfl
theorem bi_minT (x : List Int) (r : List (List Int)) (h : ∀ l ∈ x :: r, l ≠ []) : biF .min [.lst ((x :: r).map tI)] = some (tI (minT x r)) := by
  have h1 := okSort_tI (x :: r) h
  have h2 : ((x :: r).map tI).all D.plain = true := by
    rw [List.all_map, List.all_eq_true]
    exact fun a _ => plain_tI a
  have h3 : biF .min [.lst ((x :: r).map tI)] = if okSort ((x :: r).map tI) && ((x :: r).map tI).all D.plain then some (minDD (tI x) (r.map tI)) else none := rfl
  rw [h3, h1, h2, minDD_tI]
  rfl
theorem mt_index (ls : List (List Int)) (t : List Int) {j : Nat} (h : ls.findIdx? (fun z => decide (z = t)) = some j) : mtF .index (.lst (ls.map tI)) [tI t] = some (.int j) := by
  have e : (ls.map tI).findIdx? (fun z => deq z (tI t)) = some j := by
    rw [List.findIdx?_map]
    simpa [Function.comp_def] using h
  simp [mtF, e]
theorem minT_mem : ∀ (r : List (List Int)) (x : List Int), minT x r ∈ x :: r
  | [], x => by simp [minT]
  | y :: r, x => by
    have := minT_mem r (if y < x then y else x)
    have e : minT x (y :: r) = minT (if y < x then y else x) r := rfl
    rw [e]
    rcases List.mem_cons.mp this with h | h
    · rw [h]
      split <;> simp
    · simp [h]
theorem minT_le : ∀ (r : List (List Int)) (x : List Int), ∀ y ∈ x :: r, minT x r ≤ y
  | [], x, y, h => by
    rw [List.mem_singleton.mp h]
    exact List.le_refl _
  | z :: r, x, y, h => by
    have e : minT x (z :: r) = minT (if z < x then z else x) r := rfl
    rw [e]
    have m := minT_le r (if z < x then z else x)
    have m0 := m _ List.mem_cons_self
    rcases List.mem_cons.mp h with rfl | h
    · refine List.le_trans m0 ?_
      split
      · exact List.le_of_lt ‹_›
      · exact List.le_refl _
    · rcases List.mem_cons.mp h with rfl | h
      · refine List.le_trans m0 ?_
        split
        · exact List.le_refl _
        · exact List.not_lt.mp ‹_›
      · exact m y (List.mem_cons_of_mem _ h)
theorem minT_ext {x y : List Int} {r s : List (List Int)} (h : ∀ z, z ∈ x :: r ↔ z ∈ y :: s) : minT x r = minT y s :=
  List.le_antisymm (minT_le r x _ ((h _).mpr (minT_mem s y))) (minT_le s y _ ((h _).mp (minT_mem r x)))
end Cl
set_option Elab.async false
set_option linter.all false
set_option maxRecDepth 100000
set_option maxHeartbeats 1000000
namespace Cl
open PySem
/-! ### loops with a state -/
theorem for_rel {α σ : Type} {f : D → Env → R Fl} {e : α → D} (I : σ → Env → Prop) (step : σ → α → σ) : ∀ {l : List α}, (∀ x ∈ l, ∀ a env, I a env → ∃ env', f (e x) env = .ok (.nx env') ∧ I (step a x) env') → ∀ a env, I a env → ∃ env', forL f (l.map e) env = .ok (.nx env') ∧ I (l.foldl step a) env'
  | [], _, a, env, h => ⟨env, rfl, h⟩
  | x :: l, h, a, env, hI => by
    obtain ⟨e1, h1, h2⟩ := h x List.mem_cons_self a env hI
    obtain ⟨e2, h3, h4⟩ := for_rel I step (fun y hy => h y (List.mem_cons_of_mem _ hy)) (step a x) e1 h2
    exact ⟨e2, by simp [forL, h1, h3], h4⟩
/-! ### lists over a range -/
theorem rg_get {α : Type} {n p : Int} (f : Int → α) (h : 0 ≤ p ∧ p < n) : ((rgI 0 n).map f)[p.toNat]? = some (f p) := by
  unfold rgI
  rw [List.getElem?_map, List.getElem?_map, List.getElem?_range (by omega)]
  simp
  congr 1
  omega
theorem rg_set {α : Type} {n p : Int} (f : Int → α) (v : α) (h : 0 ≤ p ∧ p < n) : ((rgI 0 n).map f).set p.toNat v = (rgI 0 n).map fun x => if x = p then v else f x := by
  refine List.ext_getElem? fun i => ?_
  rw [List.getElem?_set]
  simp only [List.length_map, length_rgI]
  by_cases hi : (i : Int) < n
  · have e1 := rg_get (n := n) (p := i) f (by omega)
    have e2 := rg_get (n := n) (p := i) (fun x => if x = p then v else f x) (by omega)
    simp only [Int.toNat_natCast] at e1 e2
    rw [e1, e2]
    by_cases hp : p.toNat = i
    · rw [if_pos hp, if_pos (by omega), if_pos (by omega)]
    · rw [if_neg hp, if_neg (by omega)]
  · rw [List.getElem?_eq_none (by simp; omega), List.getElem?_eq_none (by simp; omega)]
    by_cases hp : p.toNat = i
    · rw [if_pos hp, if_neg (by omega)]
    · rw [if_neg hp]
theorem rg_cut {a b c : Int} (h : a ≤ b ∧ b ≤ c) : rgI a c = rgI a b ++ rgI b c := by
  refine pw_ext (rgI_pw _ _) ?_ fun x => ?_
  · rw [List.pairwise_append]
    refine ⟨rgI_pw _ _, rgI_pw _ _, fun x hx y hy => ?_⟩
    have := mem_rgI.mp hx; have := mem_rgI.mp hy; omega
  · simp only [List.mem_append, mem_rgI]
    omega
theorem rg_shift (a b c : Int) : rgI (a + c) (b + c) = (rgI a b).map (· + c) := by
  unfold rgI
  rw [List.map_map, show b + c - (a + c) = b - a by omega]
  refine List.map_congr_left fun x _ => ?_
  simp only [Function.comp_def]
  omega
theorem repl_one {n : Int} (v : D) : repl n.toNat [v] = (rgI 0 n).map fun _ => v := by
  unfold repl rgI
  rw [List.map_map]
  have e : ∀ k : Nat, List.replicate k v = (List.range k).map fun _ => v := fun k => by
    rw [List.map_const']
    simp
  have e2 := e n.toNat
  simp only [Function.comp_def]
  simpa using e2
theorem b_mulI {n : Int} (v : Int) (h : 0 ≤ n ∧ n ≤ 100000) : bopF .mul (.lst [.int v]) (.int n) = some (.lst (((rgI 0 n).map fun _ => v).map D.int)) := by
  have : (1 : Nat) * n.toNat ≤ lim := by unfold lim; omega
  simp only [bopF, List.length_singleton, this, h, and_self, if_true]
  rw [repl_one, List.map_map]
  rfl
/-! ### the greatest, the least -/
def mx (l : List Int) : Int := maxI (l.headD 0) l.tail
def mn (l : List Int) : Int := minI (l.headD 0) l.tail
theorem bi_mx {l : List Int} (h : l ≠ []) : biF .max [.lst (l.map D.int)] = some (.int (mx l)) := by
  cases l with
  | nil => exact absurd rfl h
  | cons x r => simp [biF, ints?_map, mx, ints?]
theorem minDD_int : ∀ (r : List Int) (x : Int), minDD (.int x) (r.map D.int) = .int (minI x r)
  | [], x => rfl
  | y :: r, x => by
    simp only [minDD, minI, List.map_cons, List.foldl_cons, D.pd, W.dataLt_int]
    have := minDD_int r (if y < x then y else x)
    simp only [minDD, minI] at this
    by_cases h : y < x
    · simp only [h, decide_true, if_true] at this ⊢
      exact this
    · simp only [h, decide_false, if_false] at this ⊢
      exact this
theorem bi_mn {l : List Int} (h : l ≠ []) : biF .min [.lst (l.map D.int)] = some (.int (mn l)) := by
  cases l with
  | nil => exact absurd rfl h
  | cons x r =>
    have h1 := okSort_int (x :: r)
    have h2 : ((x :: r).map D.int).all D.plain = true := by
      rw [List.all_map, List.all_eq_true]
      exact fun a _ => rfl
    have h3 : biF .min [.lst ((x :: r).map D.int)] = if okSort ((x :: r).map D.int) && ((x :: r).map D.int).all D.plain then some (minDD (.int x) (r.map D.int)) else none := rfl
    rw [h3, h1, h2, minDD_int]
    rfl
theorem mx_le {l : List Int} (h : l ≠ []) {c : Int} : mx l ≤ c ↔ ∀ x ∈ l, x ≤ c := by
  cases l with
  | nil => exact absurd rfl h
  | cons x r =>
    obtain ⟨m1, m2⟩ := maxI_mem r x
    unfold mx
    simp only [List.headD_cons, List.tail_cons]
    exact ⟨fun hc y hy => Int.le_trans (m2 y hy) hc, fun hc => hc _ m1⟩
theorem minI_mem : ∀ (r : List Int) (x : Int), minI x r ∈ x :: r
  | [], x => by simp [minI]
  | y :: r, x => by
    have := minI_mem r (if y < x then y else x)
    have e : minI x (y :: r) = minI (if y < x then y else x) r := rfl
    rw [e]
    rcases List.mem_cons.mp this with h | h
    · rw [h]; split <;> simp
    · simp [h]
theorem minI_le : ∀ (r : List Int) (x : Int), ∀ y ∈ x :: r, minI x r ≤ y
  | [], x, y, h => by simp [minI] at *; omega
  | z :: r, x, y, h => by
    have e : minI x (z :: r) = minI (if z < x then z else x) r := rfl
    rw [e]
    have m := minI_le r (if z < x then z else x)
    have m0 := m _ List.mem_cons_self
    rcases List.mem_cons.mp h with rfl | h
    · refine Int.le_trans m0 ?_
      split <;> omega
    · rcases List.mem_cons.mp h with rfl | h
      · refine Int.le_trans m0 ?_
        split <;> omega
      · exact m y (List.mem_cons_of_mem _ h)
theorem mn_ge {l : List Int} (h : l ≠ []) {c : Int} : c ≤ mn l ↔ ∀ x ∈ l, c ≤ x := by
  cases l with
  | nil => exact absurd rfl h
  | cons x r =>
    have m1 := minI_mem r x
    have m2 := minI_le r x
    unfold mn
    simp only [List.headD_cons, List.tail_cons]
    exact ⟨fun hc y hy => Int.le_trans hc (m2 y hy), fun hc => hc _ m1⟩
/-! ### claps -/
/-- how often the beat x is clapped -/
def cnt (n : Int) (r s : List Int) (x : Int) : Int := (s.countP fun t => decide ((x - t) % n ∈ r) : Nat)
def clp (n : Int) (r s : List Int) : List Int := (rgI 0 n).map (cnt n r s)
theorem clp_ne {n : Int} (h : 0 < n) (r s : List Int) : clp n r s ≠ [] := by
  unfold clp
  rw [Ne, List.map_eq_nil_iff]
  exact List.ne_nil_of_mem (mem_rgI.mpr ⟨Int.le_refl 0, h⟩)
@[simp] theorem clp_len {n : Int} (r s : List Int) : (clp n r s).length = n.toNat := by simp [clp]
theorem IsSet.canon {n : Int} {l : List Int} (h : IsSet n l) : l = (rgI 0 n).filter fun x => decide (x ∈ l) := pw_ext h.pw (flt_pw _ _ _) fun x => by
  simp only [List.mem_filter, mem_rgI, decide_eq_true_eq]
  exact ⟨fun hx => ⟨⟨h.lo x hx, h.hi x hx⟩, hx⟩, fun hx => hx.2⟩
theorem IsSet.countP {n : Int} {l : List Int} (h : IsSet n l) (p : Int → Bool) : l.countP p = (rgI 0 n).countP fun x => decide (x ∈ l) && p x := by
  conv => lhs; rw [h.canon]
  rw [List.countP_filter]
  exact List.countP_congr fun x _ => by rw [Bool.and_comm]
theorem rg_perm {n : Int} (h : 0 < n) (c : Int) : ((rgI 0 n).map fun t => (c - t) % n).Perm (rgI 0 n) := by
  have inj : ∀ t ∈ rgI 0 n, (c - (c - t) % n) % n = t := fun t ht => by
    have := mem_rgI.mp ht
    rw [Int.sub_emod_emod]
    have e : c - (c - t) = t := by omega
    rw [e, Int.emod_eq_of_lt this.1 this.2]
  refine (List.perm_ext_iff_of_nodup ?_ ((rgI_pw 0 n).imp fun h => by omega)).mpr fun x => ?_
  · rw [List.nodup_iff_pairwise_ne, List.pairwise_map]
    refine List.Pairwise.imp_of_mem ?_ (rgI_pw 0 n)
    intro a b ha hb hab e
    have := inj a ha
    rw [e, inj b hb] at this
    omega
  · rw [List.mem_map, mem_rgI]
    constructor
    · rintro ⟨t, _, rfl⟩
      exact ⟨Int.emod_nonneg _ (by omega), Int.emod_lt_of_pos _ h⟩
    · rintro ⟨h1, h2⟩
      refine ⟨(c - x) % n, mem_rgI.mpr ⟨Int.emod_nonneg _ (by omega), Int.emod_lt_of_pos _ h⟩, ?_⟩
      exact inj x (mem_rgI.mpr ⟨h1, h2⟩)
theorem cnt_comm {n : Int} {r s : List Int} (hr : IsSet n r) (hs : IsSet n s) (x : Int) : cnt n r s x = cnt n s r x := by
  unfold cnt
  congr 1
  rw [hs.countP, hr.countP, ← (rg_perm hr.pos x).countP_eq, List.countP_map]
  refine List.countP_congr fun t ht => ?_
  have := mem_rgI.mp ht
  simp only [Function.comp_def]
  rw [Int.sub_emod_emod]
  have e : x - (x - t) = t := by omega
  rw [e, Int.emod_eq_of_lt this.1 this.2, Bool.and_comm]
theorem clp_comm {n : Int} {r s : List Int} (hr : IsSet n r) (hs : IsSet n s) : clp n r s = clp n s r := by
  unfold clp
  exact List.map_congr_left fun x _ => cnt_comm hr hs x
theorem IsSet.mv_len {n : Int} {l : List Int} (h : IsSet n l) (m : Int) : (Cl.mv n l m).length = l.length := by
  rw [← h.srt_mv, (srt_perm _).length_eq, List.length_map]
theorem sum_cnt {n : Int} {r : List Int} (hr : IsSet n r) : ∀ s : List Int, ((rgI 0 n).map (cnt n r s)).sum = r.length * s.length
  | [] => by
    have e : (rgI 0 n).map (cnt n r []) = (rgI 0 n).map fun _ => (0 : Int) := rfl
    rw [e]
    have : ∀ l : List Int, (l.map fun _ => (0 : Int)).sum = 0 := fun l => by induction l <;> simp_all
    rw [this]
    simp
  | t :: s => by
    have ih := sum_cnt hr s
    have e : ∀ x, cnt n r (t :: s) x = cnt n r s x + (if decide ((x - t) % n ∈ r) then (1 : Int) else 0) := fun x => by
      unfold cnt
      rw [List.countP_cons]
      split <;> simp
    have add : ∀ (f g : Int → Int) (l : List Int), (l.map fun x => f x + g x).sum = (l.map f).sum + (l.map g).sum := fun f g l => by
      induction l with
      | nil => rfl
      | cons y l ih => simp only [List.map_cons, List.sum_cons, ih]; omega
    have cp : ∀ (p : Int → Bool) (l : List Int), (l.map fun x => if p x then (1 : Int) else 0).sum = (l.filter p).length := fun p l => by
      induction l with
      | nil => rfl
      | cons y l ih =>
        simp only [List.map_cons, List.sum_cons, ih, List.filter_cons]
        split <;> simp <;> omega
    rw [show (rgI 0 n).map (cnt n r (t :: s)) = (rgI 0 n).map (fun x => cnt n r s x + (if decide ((x - t) % n ∈ r) then (1 : Int) else 0)) from List.map_congr_left fun x _ => e x, add, ih, cp]
    have := hr.mv_len t
    unfold mv at this
    rw [this, List.length_cons, Int.natCast_add, Int.mul_add]
    simp
theorem cnt_mv {n : Int} (h : 0 < n) (r s : List Int) (b x : Int) : cnt n (mv n r b) s x = cnt n r s ((x - b) % n) := by
  unfold cnt
  congr 1
  refine List.countP_congr fun t _ => ?_
  simp only [mem_mv]
  have e : ((x - t) % n - b) % n = ((x - b) % n - t) % n := by
    rw [Int.emod_sub_emod, Int.emod_sub_emod]
    congr 1; omega
  rw [e]
  have := Int.emod_nonneg (x - t) (show n ≠ 0 by omega)
  have := Int.emod_lt_of_pos (x - t) h
  simp [*]
/-- turned counts -/
theorem rg_turn {n b : Int} (c : Int → Int) (h : 0 ≤ b ∧ b < n) : (rgI 0 n).map (fun x => c ((x - b) % n)) = (rgI (n - b) n).map c ++ (rgI 0 (n - b)).map c := by
  rw [rg_cut (a := 0) (b := b) (c := n) (by omega), List.map_append]
  congr 1
  · have := rg_shift 0 b (n - b)
    rw [show (0 : Int) + (n - b) = n - b by omega, show b + (n - b) = n by omega] at this
    rw [this, List.map_map]
    refine List.map_congr_left fun x hx => ?_
    have := mem_rgI.mp hx
    simp only [Function.comp_def]
    rw [← Int.add_emod_right, Int.emod_eq_of_lt (by omega) (by omega)]
    congr 1; omega
  · have := rg_shift 0 (n - b) b
    rw [show (0 : Int) + b = b by omega, show n - b + b = n by omega] at this
    rw [this, List.map_map]
    refine List.map_congr_left fun x hx => ?_
    have := mem_rgI.mp hx
    simp only [Function.comp_def]
    rw [show x + b - b = x by omega, Int.emod_eq_of_lt (by omega) (by omega)]
theorem rg_drop {α : Type} {n p : Int} (f : Int → α) (h : 0 ≤ p ∧ p ≤ n) : ((rgI 0 n).map f).drop p.toNat = (rgI p n).map f := by
  rw [rg_cut (a := 0) (b := p) (c := n) (by omega), List.map_append]
  exact List.drop_left' (by simp)
theorem rg_take {α : Type} {n p : Int} (f : Int → α) (h : 0 ≤ p ∧ p ≤ n) : ((rgI 0 n).map f).take p.toNat = (rgI 0 p).map f := by
  rw [rg_cut (a := 0) (b := p) (c := n) (by omega), List.map_append]
  exact List.take_left' (by simp)
end Cl
namespace Cl
theorem cut_from {α : Type} (xs : List α) {a : Int} (h : 0 ≤ a) : cutD xs (some a) none = xs.drop a.toNat := by
  unfold cutD HT.sIx
  simp only [if_neg (show ¬ a < 0 by omega)]
  rw [List.take_of_length_le (by simp)]
  by_cases h2 : a.toNat ≤ xs.length
  · rw [Nat.min_eq_left h2]
  · rw [Nat.min_eq_right (by omega), List.drop_eq_nil_of_le (Nat.le_refl _), List.drop_eq_nil_of_le (by omega)]
theorem cut_to {α : Type} (xs : List α) {a : Int} (h : 0 ≤ a) : cutD xs none (some a) = xs.take a.toNat := by
  unfold cutD HT.sIx
  simp only [if_neg (show ¬ a < 0 by omega), List.drop_zero, Nat.sub_zero]
  by_cases h2 : a.toNat ≤ xs.length
  · rw [Nat.min_eq_left h2]
  · rw [Nat.min_eq_right (by omega), List.take_of_length_le (Nat.le_refl _), List.take_of_length_le (by omega)]
end Cl
set_option Elab.async false
set_option linter.all false
set_option maxRecDepth 100000
set_option maxHeartbeats 1000000
namespace Cl
open PySem
/-! ### beats that two moved sets share -/
def sh (n : Int) (r : List Int) (d : Int) : Int := (r.countP fun b => decide ((b - d) % n ∈ r) : Nat)
def shL (n : Int) (r : List Int) : List Int := (rgI 0 n).map (sh n r)
theorem rg_permA {n : Int} (h : 0 < n) (c : Int) : ((rgI 0 n).map fun t => (t + c) % n).Perm (rgI 0 n) := by
  have inj : ∀ t ∈ rgI 0 n, ((t + c) % n - c) % n = t := fun t ht => by
    have := mem_rgI.mp ht
    rw [Int.emod_sub_emod, show t + c - c = t by omega, Int.emod_eq_of_lt this.1 this.2]
  refine (List.perm_ext_iff_of_nodup ?_ ((rgI_pw 0 n).imp fun h => by omega)).mpr fun x => ?_
  · rw [List.nodup_iff_pairwise_ne, List.pairwise_map]
    refine List.Pairwise.imp_of_mem ?_ (rgI_pw 0 n)
    intro a b ha hb hab e
    have := inj a ha
    rw [e, inj b hb] at this
    omega
  · rw [List.mem_map, mem_rgI]
    constructor
    · rintro ⟨t, _, rfl⟩
      exact ⟨Int.emod_nonneg _ (by omega), Int.emod_lt_of_pos _ h⟩
    · rintro ⟨h1, h2⟩
      refine ⟨(x - c) % n, mem_rgI.mpr ⟨Int.emod_nonneg _ (by omega), Int.emod_lt_of_pos _ h⟩, ?_⟩
      rw [Int.emod_add_emod, show x - c + c = x by omega, Int.emod_eq_of_lt h1 h2]
theorem sh_rg {n : Int} {r : List Int} (h : IsSet n r) (d : Int) : sh n r d = ((rgI 0 n).countP fun b => decide (b ∈ r) && decide ((b - d) % n ∈ r) : Nat) := by
  unfold sh
  rw [h.countP]
theorem sh_common {n : Int} {r : List Int} (h : IsSet n r) (d : Int) : (((mv n r d).filter fun b => decide (b ∈ r)).length : Int) = sh n r d := by
  rw [sh_rg h, mv, List.filter_filter, List.countP_eq_length_filter]
theorem sum_sh {n : Int} {r : List Int} (h : IsSet n r) : ∀ q : List Int, ((rgI 0 n).map fun d => ((q.countP fun b => decide ((b - d) % n ∈ r) : Nat) : Int)).sum = q.length * r.length
  | [] => by
    have : ∀ l : List Int, (l.map fun _ => (0 : Int)).sum = 0 := fun l => by induction l <;> simp_all
    simpa using this (rgI 0 n)
  | t :: s => by
    have ih := sum_sh h s
    have e : ∀ x, (((t :: s).countP fun b => decide ((b - x) % n ∈ r) : Nat) : Int) = ((s.countP fun b => decide ((b - x) % n ∈ r) : Nat) : Int) + (if decide ((t - x) % n ∈ r) then (1 : Int) else 0) := fun x => by
      rw [List.countP_cons]
      split <;> simp
    have add : ∀ (f g : Int → Int) (l : List Int), (l.map fun x => f x + g x).sum = (l.map f).sum + (l.map g).sum := fun f g l => by
      induction l with
      | nil => rfl
      | cons y l ih => simp only [List.map_cons, List.sum_cons, ih]; omega
    have cp : ∀ (p : Int → Bool) (l : List Int), (l.map fun x => if p x then (1 : Int) else 0).sum = (l.countP p : Nat) := fun p l => by
      induction l with
      | nil => rfl
      | cons y l ih =>
        simp only [List.map_cons, List.sum_cons, ih, List.countP_cons]
        split <;> simp <;> omega
    rw [List.map_congr_left fun x _ => e x, add, ih, cp]
    have e2 : (rgI 0 n).countP (fun x => decide ((t - x) % n ∈ r)) = r.length := by
      have := (rg_perm h.pos t).countP_eq fun y => decide (y ∈ r)
      rw [List.countP_map] at this
      have e3 : r.length = (rgI 0 n).countP fun y => decide (y ∈ r) := by
        rw [List.countP_eq_length_filter, ← h.canon]
      rw [e3]
      exact this
    rw [e2, List.length_cons, Int.natCast_add, Int.add_mul]
    simp
theorem sh_zero {n : Int} {r : List Int} (h : IsSet n r) : sh n r 0 = r.length := by
  unfold sh
  congr 1
  rw [List.countP_eq_length]
  intro b hb
  rw [Int.sub_zero, Int.emod_eq_of_lt (h.lo b hb) (h.hi b hb)]
  exact decide_eq_true hb
theorem sh_neg {n : Int} {r : List Int} (h : IsSet n r) (d : Int) : sh n r (n - d) = sh n r d := by
  rw [sh_rg h, sh_rg h, ← (rg_permA h.pos d).countP_eq fun b => decide (b ∈ r) && decide ((b - d) % n ∈ r), List.countP_map]
  congr 1
  refine List.countP_congr fun b hb => ?_
  have := mem_rgI.mp hb
  simp only [Function.comp_def]
  rw [Int.emod_sub_emod, show b + d - d = b by omega, Int.emod_eq_of_lt this.1 this.2, show b - (n - d) = b + d - n by omega, Int.sub_emod_right, Bool.and_comm]
theorem sh_mv {n : Int} {r : List Int} (h : IsSet n r) (a d : Int) : sh n (mv n r a) d = sh n r d := by
  have hp := h.pos
  rw [sh_rg (h.mv a), sh_rg h, ← (rg_permA hp a).countP_eq, List.countP_map]
  congr 1
  refine List.countP_congr fun b hb => ?_
  have := mem_rgI.mp hb
  have m : ∀ z : Int, (0 ≤ z % n ∧ z % n < n) := fun z => ⟨Int.emod_nonneg _ (by omega), Int.emod_lt_of_pos _ hp⟩
  have e1 : ((b + a) % n - a) % n = b := by rw [Int.emod_sub_emod, show b + a - a = b by omega, Int.emod_eq_of_lt this.1 this.2]
  have e2 : (((b + a) % n - d) % n - a) % n = (b - d) % n := by
    rw [Int.emod_sub_emod, show (b + a) % n - d - a = (b + a) % n - (d + a) by omega, Int.emod_sub_emod]
    congr 1; omega
  simp only [Function.comp_def, mem_mv, e1, e2, m, and_self, true_and]
theorem sh_pos {n : Int} {r : List Int} {d : Int} : 0 < sh n r d ↔ ∃ b ∈ r, (b - d) % n ∈ r := by
  unfold sh
  rw [show ((0 : Int) < ((r.countP fun b => decide ((b - d) % n ∈ r) : Nat) : Int)) ↔ 0 < (r.countP fun b => decide ((b - d) % n ∈ r)) from by omega, List.countP_pos_iff]
  simp
theorem countP_one {l : List Int} (h : l.Nodup) (p : Int → Bool) : l.countP p ≤ 1 ↔ ∀ a ∈ l, ∀ b ∈ l, p a = true → p b = true → a = b := by
  rw [List.countP_eq_length_filter]
  have hn : (l.filter p).Nodup := h.filter p
  constructor
  · intro hl a ha b hb pa pb
    have ma : a ∈ l.filter p := List.mem_filter.mpr ⟨ha, pa⟩
    have mb : b ∈ l.filter p := List.mem_filter.mpr ⟨hb, pb⟩
    match q : l.filter p, hl with
    | [], _ => rw [q] at ma; cases ma
    | [x], _ =>
      rw [q] at ma mb
      rw [List.mem_singleton.mp ma, List.mem_singleton.mp mb]
  · intro hall
    match q : l.filter p with
    | [] => simp
    | [x] => simp
    | x :: y :: r =>
      exfalso
      have mx : x ∈ l.filter p := by rw [q]; simp
      have my : y ∈ l.filter p := by rw [q]; simp
      obtain ⟨x1, x2⟩ := List.mem_filter.mp mx
      obtain ⟨y1, y2⟩ := List.mem_filter.mp my
      have e := hall x x1 y y1 x2 y2
      rw [q, e] at hn
      simp at hn
theorem pack_iff {n : Int} {r s : List Int} (hr : IsSet n r) (hs : IsSet n s) : (∀ x ∈ clp n r s, x ≤ 1) ↔ ¬ ∃ t ∈ s, ∃ u ∈ s, u ≠ t ∧ 0 < sh n r ((u - t) % n) := by
  have hp := hr.pos
  have e : (∀ x ∈ clp n r s, x ≤ 1) ↔ ∀ x, 0 ≤ x → x < n → (s.countP fun t => decide ((x - t) % n ∈ r)) ≤ 1 := by
    unfold clp
    simp only [List.mem_map, mem_rgI]
    constructor
    · intro h x h1 h2
      have := h _ ⟨x, ⟨h1, h2⟩, rfl⟩
      unfold cnt at this
      omega
    · rintro h _ ⟨x, ⟨h1, h2⟩, rfl⟩
      have := h x h1 h2
      unfold cnt
      omega
  rw [e]
  constructor
  · rintro h ⟨t, ht, u, hu, hne, hsh⟩
    obtain ⟨b, hb, hb2⟩ := sh_pos.mp hsh
    have := (countP_one hs.nd _).mp (h ((b + t) % n) (Int.emod_nonneg _ (by omega)) (Int.emod_lt_of_pos _ hp)) t ht u hu
    refine hne (this ?_ ?_).symm
    · rw [decide_eq_true_eq, Int.emod_sub_emod, show b + t - t = b by omega, Int.emod_eq_of_lt (hr.lo b hb) (hr.hi b hb)]
      exact hb
    · rw [decide_eq_true_eq, Int.emod_sub_emod, show b + t - u = b - (u - t) by omega]
      rwa [Int.sub_emod_emod] at hb2
  · intro h x h1 h2
    rw [countP_one hs.nd]
    intro t ht u hu pt pu
    refine Classical.byContradiction fun hne => h ⟨t, ht, u, hu, fun e => hne e.symm, sh_pos.mpr ⟨(x - t) % n, of_decide_eq_true pt, ?_⟩⟩
    rw [Int.sub_emod_emod, Int.emod_sub_emod, show x - t - (u - t) = x - u by omega]
    exact of_decide_eq_true pu
/-- the distances at which two voices clash -/
def clash (n : Int) (r : List Int) : List Int := (rgI 1 n).filter fun d => decide (0 < sh n r d)
def free (n : Int) (r : List Int) : List Int := (rgI 1 n).filter fun d => decide (sh n r d = 0)
theorem rg01 {n : Int} (h : 0 < n) : rgI 0 n = 0 :: rgI 1 n := by
  rw [rg_cut (a := 0) (b := 1) (c := n) (by omega)]
  rfl
theorem clash_eq {n : Int} {r : List Int} (h : 0 < n) : ((rgI 0 n).filter fun d => decide (0 < d) && decide (0 < sh n r d)) = clash n r := by
  unfold clash
  rw [rg01 h, List.filter_cons]
  simp only [Int.lt_irrefl, decide_false, Bool.false_and, if_false]
  refine (if_neg (by decide)).trans (List.filter_congr fun d hd => ?_)
  have := mem_rgI.mp hd
  simp [show 0 < d by omega]
theorem free_eq {n : Int} {r : List Int} (h : IsSet n r) : ((rgI 0 n).filter fun d => decide (sh n r d = 0)) = free n r := by
  unfold free
  have hl : (r.length : Int) ≠ 0 := by
    have := List.length_pos_iff.mpr h.ne
    omega
  rw [rg01 h.pos, List.filter_cons, sh_zero h]
  simp [hl]
  intro e
  exact absurd e h.ne
/-- some two of the starts clash -/
def bads (n : Int) (r s : List Int) : Bool := s.any fun t => (s.filter fun u => decide (u ≠ t)).any fun u => decide ((u - t) % n ∈ clash n r)
theorem bads_iff {n : Int} {r s : List Int} (hr : IsSet n r) (hs : IsSet n s) : bads n r s = true ↔ ∃ t ∈ s, ∃ u ∈ s, u ≠ t ∧ 0 < sh n r ((u - t) % n) := by
  have hp := hr.pos
  unfold bads
  simp only [List.any_eq_true, List.mem_filter, decide_eq_true_eq]
  constructor
  · rintro ⟨t, ht, u, ⟨hu, hne⟩, hc⟩
    unfold clash at hc
    exact ⟨t, ht, u, hu, hne, of_decide_eq_true (List.mem_filter.mp hc).2⟩
  · rintro ⟨t, ht, u, hu, hne, hc⟩
    refine ⟨t, ht, u, ⟨hu, hne⟩, List.mem_filter.mpr ⟨mem_rgI.mpr ⟨?_, Int.emod_lt_of_pos _ hp⟩, decide_eq_true hc⟩⟩
    have h0 := Int.emod_nonneg (u - t) (show n ≠ 0 by omega)
    have : (u - t) % n ≠ 0 := fun e => by
      have e1 := Int.emod_eq_emod_iff_emod_sub_eq_zero.mpr e
      rw [Int.emod_eq_of_lt (hs.lo u hu) (hs.hi u hu), Int.emod_eq_of_lt (hs.lo t ht) (hs.hi t ht)] at e1
      exact hne e1
    omega
theorem bads_pack {n : Int} {r s : List Int} (hr : IsSet n r) (hs : IsSet n s) : decide (mx (clp n r s) ≤ 1) = !bads n r s := by
  rw [Bool.eq_iff_iff, decide_eq_true_eq, mx_le (clp_ne hr.pos r s), pack_iff hr hs, ← bads_iff hr hs]
  simp
theorem IsSet.take {n : Int} {l : List Int} (h : IsSet n l) {k : Nat} (hk : 0 < k) : IsSet n (l.take k) := by
  refine ⟨?_, fun x hx => h.lo x (List.mem_of_mem_take hx), fun x hx => h.hi x (List.mem_of_mem_take hx), h.pw.sublist (List.take_sublist _ _)⟩
  have := h.ne
  cases l with
  | nil => exact absurd rfl this
  | cons x r =>
    cases k with
    | zero => omega
    | succ k => simp
/-- the mirrored set -/
theorem IsSet.neg {n : Int} {l : List Int} (h : IsSet n l) : IsSet n (srt (l.map fun b => (0 - b) % n)) := by
  have hp := h.pos
  have inj : ∀ x ∈ l, (0 - (0 - x) % n) % n = x := fun x hx => by
    rw [Int.sub_emod_emod, show (0 : Int) - (0 - x) = x by omega, Int.emod_eq_of_lt (h.lo x hx) (h.hi x hx)]
  refine ⟨?_, fun x hx => ?_, fun x hx => ?_, srt_lt ?_⟩
  · obtain ⟨x, hx⟩ := List.exists_mem_of_ne_nil _ h.ne
    exact List.ne_nil_of_mem (mem_srt.mpr (List.mem_map.mpr ⟨x, hx, rfl⟩))
  · obtain ⟨y, _, rfl⟩ := List.mem_map.mp (mem_srt.mp hx)
    exact Int.emod_nonneg _ (by omega)
  · obtain ⟨y, _, rfl⟩ := List.mem_map.mp (mem_srt.mp hx)
    exact Int.emod_lt_of_pos _ hp
  · rw [List.nodup_iff_pairwise_ne, List.pairwise_map]
    refine h.nd.imp_of_mem fun {a b} ha hb hab e => hab ?_
    rw [← inj a ha, ← inj b hb, e]
end Cl
set_option Elab.async false
set_option linter.all false
set_option maxRecDepth 100000
set_option maxHeartbeats 1000000
namespace Cl
open PySem
/-! ### canons -/
/-- the start t claps the beat x -/
abbrev Clp (n : Int) (r : List Int) (t x : Int) : Prop := (x - t) % n ∈ r
structure Uniq (n : Int) (r T : List Int) : Prop where
  u : ∀ x t u, t ∈ T → u ∈ T → Clp n r t x → Clp n r u x → t = u
structure Canon (n : Int) (r S : List Int) : Prop where
  s : IsSet n S
  c : ∀ x, 0 ≤ x → x < n → ∃ t ∈ S, Clp n r t x
  u : ∀ x t u, t ∈ S → u ∈ S → Clp n r t x → Clp n r u x → t = u
theorem clp_mod {n : Int} {r : List Int} {t x : Int} : Clp n r t (x % n) ↔ Clp n r t x := by
  unfold Clp
  rw [Int.emod_sub_emod]
theorem ones_iff {n : Int} {r S : List Int} (hn : 0 < n) (hS : IsSet n S) : (clp n r S = (rgI 0 n).map fun _ => 1) ↔ Canon n r S := by
  have e : (clp n r S = (rgI 0 n).map fun _ => 1) ↔ ∀ x, 0 ≤ x → x < n → S.countP (fun t => decide ((x - t) % n ∈ r)) = 1 := by
    unfold clp
    rw [List.map_inj_left]
    constructor
    · intro h x h1 h2
      have := h x (mem_rgI.mpr ⟨h1, h2⟩)
      unfold cnt at this
      omega
    · intro h x hx
      have hx' := mem_rgI.mp hx
      have := h x hx'.1 hx'.2
      unfold cnt
      omega
  rw [e]
  constructor
  · intro h
    refine ⟨hS, fun x h1 h2 => ?_, fun x t u ht hu c1 c2 => ?_⟩
    · have := h x h1 h2
      have p : 0 < S.countP (fun t => decide ((x - t) % n ∈ r)) := by omega
      obtain ⟨t, ht, hc⟩ := List.countP_pos_iff.mp p
      exact ⟨t, ht, of_decide_eq_true hc⟩
    · have h1 := Int.emod_nonneg x (show n ≠ 0 by omega)
      have h2 := Int.emod_lt_of_pos x hn
      have := (countP_one hS.nd _).mp (Nat.le_of_eq (h (x % n) h1 h2)) t ht u hu
      exact this (decide_eq_true (clp_mod.mpr c1)) (decide_eq_true (clp_mod.mpr c2))
  · intro h x h1 h2
    have a : S.countP (fun t => decide ((x - t) % n ∈ r)) ≤ 1 := (countP_one hS.nd _).mpr fun t ht u hu pt pu => h.u x t u ht hu (of_decide_eq_true pt) (of_decide_eq_true pu)
    obtain ⟨t, ht, hc⟩ := h.c x h1 h2
    have b : 0 < S.countP (fun t => decide ((x - t) % n ∈ r)) := List.countP_pos_iff.mpr ⟨t, ht, decide_eq_true hc⟩
    omega
def opn (n : Int) (tk : Int → Bool) : List Int := (rgI 0 n).filter fun x => !tk x
def plc (n : Int) (r : List Int) (s : Int) : List Int := r.map fun o => (s + o) % n
def tkn (n : Int) (r : List Int) (tk : Int → Bool) (s : Int) : Int → Bool := fun p => tk p || decide (p ∈ plc n r s)
def grw : Nat → Int → List Int → List Int → (Int → Bool) → List (List Int)
  | 0, n, r, T, tk => if opn n tk = [] then [srt T] else []
  | j + 1, n, r, T, tk => match opn n tk with
    | [] => [srt T]
    | x :: _ => r.flatMap fun b => if (plc n r ((x - b) % n)).any tk then [] else grw j n r (T ++ [(x - b) % n]) (tkn n r tk ((x - b) % n))
/-- T's voices clap what is taken, no beat twice -/
structure Gs (n : Int) (r T : List Int) (tk : Int → Bool) : Prop where
  ne : T ≠ []
  lo : ∀ t ∈ T, 0 ≤ t
  hi : ∀ t ∈ T, t < n
  nd : T.Nodup
  tk : ∀ x, 0 ≤ x → x < n → (tk x = true ↔ ∃ t ∈ T, Clp n r t x)
  u : ∀ x t u, t ∈ T → u ∈ T → Clp n r t x → Clp n r u x → t = u
theorem mem_opn {n : Int} {tk : Int → Bool} {x : Int} : x ∈ opn n tk ↔ (0 ≤ x ∧ x < n) ∧ tk x = false := by
  unfold opn
  rw [List.mem_filter, mem_rgI]
  simp
section
variable {n : Int} {r : List Int} (hr : IsSet n r)
include hr
theorem mem_plc {s p : Int} (hp : 0 ≤ p ∧ p < n) : p ∈ plc n r s ↔ Clp n r s p := by
  unfold plc Clp
  rw [List.mem_map]
  constructor
  · rintro ⟨o, ho, rfl⟩
    rw [Int.emod_sub_emod, show s + o - s = o by omega, Int.emod_eq_of_lt (hr.lo o ho) (hr.hi o ho)]
    exact ho
  · intro h
    refine ⟨_, h, ?_⟩
    rw [Int.add_emod_emod, show s + (p - s) = p by omega, Int.emod_eq_of_lt hp.1 hp.2]
theorem plc_rg {s p : Int} (h : p ∈ plc n r s) : 0 ≤ p ∧ p < n := by
  have := hr.pos
  unfold plc at h
  obtain ⟨o, _, rfl⟩ := List.mem_map.mp h
  exact ⟨Int.emod_nonneg _ (by omega), Int.emod_lt_of_pos _ this⟩
theorem start_clp {x b : Int} (hb : b ∈ r) (hx : 0 ≤ x ∧ x < n) : Clp n r ((x - b) % n) x := by
  unfold Clp
  rw [Int.sub_emod_emod, show x - (x - b) = b by omega, Int.emod_eq_of_lt (hr.lo b hb) (hr.hi b hb)]
  exact hb
theorem Gs.step {T : List Int} {tk : Int → Bool} (g : Gs n r T tk) {x b : Int} (hx : x ∈ opn n tk) (hb : b ∈ r) (hc : (plc n r ((x - b) % n)).any tk = false) : Gs n r (T ++ [(x - b) % n]) (tkn n r tk ((x - b) % n)) := by
  have hp := hr.pos
  obtain ⟨hx1, hx2⟩ := mem_opn.mp hx
  have sc := start_clp hr hb hx1
  obtain ⟨s, hs⟩ : ∃ s, s = (x - b) % n := ⟨_, rfl⟩
  rw [← hs] at sc hc ⊢
  have s0 : 0 ≤ s := by rw [hs]; exact Int.emod_nonneg _ (by omega)
  have s1 : s < n := by rw [hs]; exact Int.emod_lt_of_pos _ hp
  have nc : ∀ y, 0 ≤ y → y < n → Clp n r s y → tk y = false := fun y y0 y1 hy => by
    have := (List.any_eq_false.mp hc) y ((mem_plc hr ⟨y0, y1⟩).mpr hy)
    simpa using this
  have cross : ∀ y t, t ∈ T → Clp n r t y → Clp n r s y → False := fun y t ht c1 c2 => by
    have y0 := Int.emod_nonneg y (show n ≠ 0 by omega)
    have y1 := Int.emod_lt_of_pos y hp
    have a := nc (y % n) y0 y1 (clp_mod.mpr c2)
    have b := (g.tk (y % n) y0 y1).mpr ⟨t, ht, clp_mod.mpr c1⟩
    rw [a] at b
    cases b
  have sT : s ∉ T := fun h => cross x s h sc sc
  refine ⟨by simp, fun t ht => ?_, fun t ht => ?_, ?_, fun y y0 y1 => ?_, fun y t u ht hu c1 c2 => ?_⟩
  · rcases List.mem_append.mp ht with h | h
    · exact g.lo t h
    · rw [List.mem_singleton.mp h]; exact s0
  · rcases List.mem_append.mp ht with h | h
    · exact g.hi t h
    · rw [List.mem_singleton.mp h]; exact s1
  · rw [List.nodup_append]
    refine ⟨g.nd, by simp, fun a ha b hb e => ?_⟩
    rw [List.mem_singleton.mp hb] at e
    exact sT (e ▸ ha)
  · unfold tkn
    rw [Bool.or_eq_true, decide_eq_true_eq, g.tk y y0 y1, mem_plc hr ⟨y0, y1⟩]
    constructor
    · rintro (⟨t, ht, h⟩ | h)
      · exact ⟨t, List.mem_append_left _ ht, h⟩
      · exact ⟨s, by simp, h⟩
    · rintro ⟨t, ht, h⟩
      rcases List.mem_append.mp ht with h' | h'
      · exact .inl ⟨t, h', h⟩
      · rw [List.mem_singleton.mp h'] at h
        exact .inr h
  · rcases List.mem_append.mp ht with h | h <;> rcases List.mem_append.mp hu with h' | h'
    · exact g.u y t u h h' c1 c2
    · rw [List.mem_singleton.mp h'] at c2
      exact (cross y t h c1 c2).elim
    · rw [List.mem_singleton.mp h] at c1
      exact (cross y u h' c2 c1).elim
    · rw [List.mem_singleton.mp h, List.mem_singleton.mp h']
theorem opn_step {tk : Int → Bool} {x b : Int} (hx : x ∈ opn n tk) (hb : b ∈ r) (hc : (plc n r ((x - b) % n)).any tk = false) : (opn n (tkn n r tk ((x - b) % n))).length + r.length = (opn n tk).length := by
  obtain ⟨s, hs⟩ : ∃ s, s = (x - b) % n := ⟨_, rfl⟩
  rw [← hs] at hc ⊢
  have hpl : ((rgI 0 n).filter fun y => decide (y ∈ plc n r s)).length = r.length := by
    have e : ((rgI 0 n).filter fun y => decide (y ∈ plc n r s)) = mv n r s := by
      unfold mv
      refine List.filter_congr fun y hy => ?_
      have := mem_plc hr (s := s) (mem_rgI.mp hy)
      rw [Bool.eq_iff_iff, decide_eq_true_eq, decide_eq_true_eq, this]
    rw [e, hr.mv_len]
  have key : ∀ l : List Int, (∀ y ∈ l, y ∈ plc n r s → tk y = false) → (l.filter fun y => !tkn n r tk s y).length + (l.filter fun y => decide (y ∈ plc n r s)).length = (l.filter fun y => !tk y).length := fun l => by
    induction l with
    | nil => intro _; rfl
    | cons y l ih =>
      intro h
      have ih' := ih fun z hz => h z (List.mem_cons_of_mem _ hz)
      have hy := h y List.mem_cons_self
      simp only [List.filter_cons, tkn] at ih' ⊢
      by_cases m : y ∈ plc n r s
      · have t := hy m
        simp only [m, t, decide_true, Bool.false_or, Bool.not_true, Bool.not_false, if_true, List.length_cons]
        simp only [if_neg (show ¬ (false = true) by decide)]
        omega
      · simp only [m, decide_false, Bool.or_false, if_neg (show ¬ (false = true) by decide)]
        split
        · simp only [List.length_cons]
          omega
        · exact ih'
  have := key (rgI 0 n) fun y _ hy => by
    have := (List.any_eq_false.mp hc) y hy
    simpa using this
  rw [hpl] at this
  exact this
theorem grw_full {T : List Int} {tk : Int → Bool} (g : Gs n r T tk) (ho : opn n tk = []) (S : List Int) : S ∈ [srt T] ↔ Canon n r S ∧ ∀ t ∈ T, t ∈ S := by
  have hp := hr.pos
  have all : ∀ x, 0 ≤ x → x < n → ∃ t ∈ T, Clp n r t x := fun x h1 h2 => by
    refine (g.tk x h1 h2).mp ?_
    cases h : tk x with
    | true => rfl
    | false =>
      have : x ∈ opn n tk := mem_opn.mpr ⟨⟨h1, h2⟩, h⟩
      rw [ho] at this
      cases this
  rw [List.mem_singleton]
  constructor
  · rintro rfl
    refine ⟨⟨⟨?_, fun x hx => g.lo x (mem_srt.mp hx), fun x hx => g.hi x (mem_srt.mp hx), srt_lt g.nd⟩, fun x h1 h2 => ?_, fun x t u ht hu => g.u x t u (mem_srt.mp ht) (mem_srt.mp hu)⟩, fun t ht => mem_srt.mpr ht⟩
    · obtain ⟨t, ht⟩ := List.exists_mem_of_ne_nil _ g.ne
      exact List.ne_nil_of_mem (mem_srt.mpr ht)
    · obtain ⟨t, ht, h⟩ := all x h1 h2
      exact ⟨t, mem_srt.mpr ht, h⟩
  · rintro ⟨c, h⟩
    refine pw_ext c.s.pw (srt_lt g.nd) fun s => ?_
    rw [mem_srt]
    refine ⟨fun hs => ?_, h s⟩
    obtain ⟨b, hb⟩ := List.exists_mem_of_ne_nil _ hr.ne
    have sb : Clp n r s ((s + b) % n) := by
      rw [clp_mod]
      unfold Clp
      rw [show s + b - s = b by omega, Int.emod_eq_of_lt (hr.lo b hb) (hr.hi b hb)]
      exact hb
    obtain ⟨t, ht, h2⟩ := all ((s + b) % n) (Int.emod_nonneg _ (by omega)) (Int.emod_lt_of_pos _ hp)
    rw [c.u _ s t hs (h t ht) sb h2]
    exact ht
theorem grw_mem : ∀ (j : Nat) (T : List Int) (tk : Int → Bool), Gs n r T tk → (opn n tk).length ≤ j → ∀ S, S ∈ grw j n r T tk ↔ Canon n r S ∧ ∀ t ∈ T, t ∈ S
  | 0, T, tk, g, hj, S => by
    have ho : opn n tk = [] := List.length_eq_zero_iff.mp (by omega)
    rw [grw, if_pos ho]
    exact grw_full hr g ho S
  | j + 1, T, tk, g, hj, S => by
    rw [grw]
    cases ho : opn n tk with
    | nil => exact grw_full hr g ho S
    | cons x rest =>
      have hx : x ∈ opn n tk := by rw [ho]; exact List.mem_cons_self
      obtain ⟨hx1, hx2⟩ := mem_opn.mp hx
      have hl : 0 < r.length := List.length_pos_iff.mpr hr.ne
      simp only [List.mem_flatMap]
      constructor
      · rintro ⟨b, hb, h⟩
        cases hc : (plc n r ((x - b) % n)).any tk with
        | true =>
          rw [hc, if_pos rfl] at h
          cases h
        | false =>
          rw [hc, if_neg (by decide)] at h
          have os := opn_step hr hx hb hc
          have := (grw_mem j _ _ (Gs.step hr g hx hb hc) (by omega) S).mp h
          exact ⟨this.1, fun t ht => this.2 t (List.mem_append_left _ ht)⟩
      · rintro ⟨c, h⟩
        obtain ⟨s, hs, hsx⟩ := c.c x hx1.1 hx1.2
        have e : (x - (x - s) % n) % n = s := by
          rw [Int.sub_emod_emod, show x - (x - s) = s by omega, Int.emod_eq_of_lt (c.s.lo s hs) (c.s.hi s hs)]
        refine ⟨(x - s) % n, hsx, ?_⟩
        have hc : (plc n r ((x - (x - s) % n) % n)).any tk = false := by
          rw [e, List.any_eq_false]
          intro y hy ht
          have hy' := plc_rg hr hy
          have c1 := (mem_plc hr hy').mp hy
          obtain ⟨t, ht, c2⟩ := (g.tk y hy'.1 hy'.2).mp ht
          have := c.u y s t hs (h t ht) c1 c2
          rw [← this] at ht
          have := (g.tk x hx1.1 hx1.2).mpr ⟨s, ht, hsx⟩
          rw [hx2] at this
          cases this
        rw [hc, if_neg (by decide)]
        have os := opn_step hr hx hsx hc
        refine (grw_mem j _ _ (Gs.step hr g hx hsx hc) (by omega) S).mpr ⟨c, fun t ht => ?_⟩
        rcases List.mem_append.mp ht with ht | ht
        · exact h t ht
        · rw [List.mem_singleton.mp ht, e]
          exact hs
end
end Cl
set_option Elab.async false
set_option linter.all false
set_option maxRecDepth 100000
set_option maxHeartbeats 1000000
namespace Cl
open PySem
/-- a loop, its state told by what was walked -/
theorem for_pre {α : Type} {f : D → Env → R Fl} {e : α → D} (l : List α) (I : List α → Env → Prop) (h : ∀ p x q, l = p ++ x :: q → ∀ env, I p env → ∃ env', f (e x) env = .ok (.nx env') ∧ I (p ++ [x]) env') (env : Env) (h0 : I [] env) : ∃ env', forL f (l.map e) env = .ok (.nx env') ∧ I l env' := by
  have gen : ∀ (q p : List α), l = p ++ q → ∀ env, I p env → ∃ env', forL f (q.map e) env = .ok (.nx env') ∧ I l env' := by
    intro q
    induction q with
    | nil =>
      intro p hp env hI
      rw [List.append_nil] at hp
      subst hp
      exact ⟨env, rfl, hI⟩
    | cons x q ih =>
      intro p hp env hI
      obtain ⟨e1, h1, h2⟩ := h p x q hp env hI
      obtain ⟨e2, h3, h4⟩ := ih (p ++ [x]) (by rw [hp]; simp) e1 h2
      exact ⟨e2, by simp [forL, h1, h3], h4⟩
  exact gen l [] rfl env h0
section
variable {n : Int} {r : List Int} (hr : IsSet n r)
include hr
theorem grw_nodup : ∀ (j : Nat) (T : List Int) (tk : Int → Bool), Gs n r T tk → (opn n tk).length ≤ j → (grw j n r T tk).Nodup
  | 0, T, tk, g, hj => by
    rw [grw]
    split <;> simp
  | j + 1, T, tk, g, hj => by
    rw [grw]
    cases ho : opn n tk with
    | nil => simp
    | cons x rest =>
      have hx : x ∈ opn n tk := by rw [ho]; exact List.mem_cons_self
      obtain ⟨hx1, hx2⟩ := mem_opn.mp hx
      have hl : 0 < r.length := List.length_pos_iff.mpr hr.ne
      show ((r.flatMap fun b => if (plc n r ((x - b) % n)).any tk then [] else grw j n r (T ++ [(x - b) % n]) (tkn n r tk ((x - b) % n))).Pairwise (· ≠ ·))
      rw [List.pairwise_flatMap]
      refine ⟨fun b hb => ?_, hr.nd.imp_of_mem fun {b b'} hb hb' hne S hS S' hS' e => hne ?_⟩
      · cases hc : (plc n r ((x - b) % n)).any tk with
        | true => rw [if_pos rfl]; exact List.Pairwise.nil
        | false =>
          rw [if_neg (by decide)]
          have os := opn_step hr hx hb hc
          exact grw_nodup j _ _ (Gs.step hr g hx hb hc) (by omega)
      · subst e
        have get : ∀ b ∈ r, S ∈ (if (plc n r ((x - b) % n)).any tk then [] else grw j n r (T ++ [(x - b) % n]) (tkn n r tk ((x - b) % n))) → Canon n r S ∧ (x - b) % n ∈ S := fun b hb h => by
          cases hc : (plc n r ((x - b) % n)).any tk with
          | true =>
            rw [hc, if_pos rfl] at h
            cases h
          | false =>
            rw [hc, if_neg (by decide)] at h
            have os := opn_step hr hx hb hc
            have := (grw_mem hr j _ _ (Gs.step hr g hx hb hc) (by omega) S).mp h
            exact ⟨this.1, this.2 _ (by simp)⟩
        obtain ⟨c, m1⟩ := get b hb hS
        obtain ⟨_, m2⟩ := get b' hb' hS'
        have e := c.u x _ _ m1 m2 (start_clp hr hb hx1) (start_clp hr hb' hx1)
        have back : ∀ b ∈ r, (x - (x - b) % n) % n = b := fun b hb => by
          rw [Int.sub_emod_emod, show x - (x - b) = b by omega, Int.emod_eq_of_lt (hr.lo b hb) (hr.hi b hb)]
        rw [← back b hb, e, back b' hb']
theorem grw_len : ∀ (j : Nat) (T : List Int) (tk : Int → Bool), (grw j n r T tk).length ≤ 2 ^ (opn n tk).length
  | 0, T, tk => by
    rw [grw]
    split
    · rename_i h
      rw [h]
      simp
    · simp
  | j + 1, T, tk => by
    rw [grw]
    cases ho : opn n tk with
    | nil => simp
    | cons x rest =>
      have hx : x ∈ opn n tk := by rw [ho]; exact List.mem_cons_self
      simp only [List.length_flatMap]
      rw [← ho]
      have hle : ∀ b ∈ r, (if (plc n r ((x - b) % n)).any tk then [] else grw j n r (T ++ [(x - b) % n]) (tkn n r tk ((x - b) % n))).length * 2 ^ r.length ≤ 2 ^ (opn n tk).length := fun b hb => by
        cases hc : (plc n r ((x - b) % n)).any tk with
        | true => simp
        | false =>
          rw [if_neg (by decide)]
          have os := opn_step hr hx hb hc
          rw [← os, Nat.pow_add]
          exact Nat.mul_le_mul_right _ (grw_len j _ _)
      have sum : ∀ l : List Int, (∀ b ∈ l, b ∈ r) → (l.map fun b => (if (plc n r ((x - b) % n)).any tk then [] else grw j n r (T ++ [(x - b) % n]) (tkn n r tk ((x - b) % n))).length).sum * 2 ^ r.length ≤ l.length * 2 ^ (opn n tk).length := fun l => by
        induction l with
        | nil => simp
        | cons b l ih =>
          intro h
          have h1 := ih fun c hc => h c (List.mem_cons_of_mem _ hc)
          have h2 := hle b (h b List.mem_cons_self)
          simp only [List.map_cons, List.sum_cons, List.length_cons]
          rw [Nat.add_mul, Nat.add_mul]
          omega
      have s := sum r fun b hb => hb
      have p : r.length ≤ 2 ^ r.length := Nat.le_of_lt Nat.lt_two_pow_self
      have q : (r.map fun b => (if (plc n r ((x - b) % n)).any tk then [] else grw j n r (T ++ [(x - b) % n]) (tkn n r tk ((x - b) % n))).length).sum * 2 ^ r.length ≤ 2 ^ (opn n tk).length * 2 ^ r.length := by
        refine Nat.le_trans s ?_
        rw [Nat.mul_comm]
        exact Nat.mul_le_mul_left _ p
      exact Nat.le_of_mul_le_mul_right q (Nat.pow_pos (by decide))
end
/-! ### sorted lists of tuples -/
def leT (a b : List Int) : Bool := !decide (b < a)
def srtT (l : List (List Int)) : List (List Int) := isort leT l
theorem leT_iff {a b : List Int} : leT a b = true ↔ a ≤ b := by
  unfold leT
  simp
theorem dle_tI (a b : List Int) : dle (tI a) (tI b) = leT a b := by
  unfold dle leT
  rw [lt_tI]
theorem bi_sortedT {l : List (List Int)} (h : ∀ t ∈ l, t ≠ []) (hl : l.length ≤ lim) : biF .sorted [.lst (l.map tI)] = some (.lst ((srtT l).map tI)) := by
  have := isort_map (f := tI) dle_tI l
  simp only [biF, okSort_tI l h, List.length_map, Bool.true_and, decide_eq_true_eq, hl, if_true, this]
  rfl
theorem bi_sorted_t (l : List Int) (h : l.length ≤ lim) : biF .sorted [tI l] = some (.lst ((srt l).map D.int)) := by
  have := isort_map (f := D.int) dle_int l
  unfold tI
  simp only [biF, okSort_int, List.length_map, Bool.true_and, decide_eq_true_eq, h, if_true, this]
  rfl
theorem mem_srtT {x : List Int} {l : List (List Int)} : x ∈ srtT l ↔ x ∈ l := isort_mem
theorem srtT_perm (l : List (List Int)) : (srtT l).Perm l := isort_perm
theorem srtT_pw (l : List (List Int)) : (srtT l).Pairwise (· ≤ ·) := (isort_sorted (le := leT) (fun a b c h1 h2 => leT_iff.mpr (List.le_trans (leT_iff.mp h1) (leT_iff.mp h2))) (fun a b => by
  rcases List.le_total a b with h | h
  · rw [leT_iff.mpr h]; rfl
  · rw [leT_iff.mpr h]; simp)).imp fun h => leT_iff.mp h
theorem srtT_lt {l : List (List Int)} (h : l.Nodup) : (srtT l).Pairwise (· < ·) := by
  have h1 := srtT_pw l
  have h2 : (srtT l).Nodup := (srtT_perm l).nodup_iff.mpr h
  have h3 := h1.and h2
  refine h3.imp fun ⟨a, b⟩ => ?_
  refine Classical.byContradiction fun hn => b ?_
  exact List.le_antisymm a (List.not_lt.mp hn)
theorem pwT_ext : ∀ {l m : List (List Int)}, l.Pairwise (· < ·) → m.Pairwise (· < ·) → (∀ x, x ∈ l ↔ x ∈ m) → l = m
  | [], [], _, _, _ => rfl
  | [], y :: m, _, _, h => by have := (h y).mpr List.mem_cons_self; cases this
  | x :: l, [], _, _, h => by have := (h x).mp List.mem_cons_self; cases this
  | x :: l, y :: m, h1, h2, h => by
    obtain ⟨a1, a2⟩ := List.pairwise_cons.mp h1
    obtain ⟨b1, b2⟩ := List.pairwise_cons.mp h2
    have irr : ∀ z : List Int, ¬ z < z := fun z => List.lt_irrefl z
    have e : x = y := by
      rcases List.mem_cons.mp ((h x).mp List.mem_cons_self) with e | e
      · exact e
      · rcases List.mem_cons.mp ((h y).mpr List.mem_cons_self) with e' | e'
        · exact e'.symm
        · exact (irr _ (List.lt_trans (b1 x e) (a1 y e'))).elim
    subst e
    congr 1
    refine pwT_ext a2 b2 fun z => ?_
    constructor
    · intro hz
      rcases List.mem_cons.mp ((h z).mp (List.mem_cons_of_mem _ hz)) with e | e
      · exact (irr _ (e ▸ a1 z hz)).elim
      · exact e
    · intro hz
      rcases List.mem_cons.mp ((h z).mpr (List.mem_cons_of_mem _ hz)) with e | e
      · exact (irr _ (e ▸ b1 z hz)).elim
      · exact e
/-! ### all canons with the beat 0 -/
def cans (n : Int) (r : List Int) : List (List Int) := srtT (grw n.toNat n r [0] fun x => decide (x ∈ r))
section
variable {n : Int} {r : List Int} (hr : IsSet n r)
include hr
theorem gs0 : Gs n r [0] fun x => decide (x ∈ r) := by
  have hp := hr.pos
  refine ⟨by simp, by simp, by simpa using hp, by simp, fun x h1 h2 => ?_, fun x t u ht hu _ _ => ?_⟩
  · simp only [List.mem_singleton, exists_eq_left, decide_eq_true_eq]
    unfold Clp
    rw [Int.sub_zero, Int.emod_eq_of_lt h1 h2]
  · rw [List.mem_singleton.mp ht, List.mem_singleton.mp hu]
theorem opn_le (tk : Int → Bool) : (opn n tk).length ≤ n.toNat := by
  have : (opn n tk).length ≤ (rgI 0 n).length := List.length_filter_le _ _
  simpa using this
theorem mem_cans {S : List Int} : S ∈ cans n r ↔ Canon n r S ∧ 0 ∈ S := by
  unfold cans
  rw [mem_srtT, grw_mem hr _ _ _ (gs0 hr) (opn_le hr _)]
  simp
theorem cans_pw : (cans n r).Pairwise (· < ·) := srtT_lt (grw_nodup hr _ _ _ (gs0 hr) (opn_le hr _))
theorem canon_len {S : List Int} (c : Canon n r S) : (r.length : Int) * S.length = n := by
  have h1 := sum_cnt hr S
  have h2 := (ones_iff hr.pos c.s).mpr c
  unfold clp at h2
  rw [h2] at h1
  rw [← h1]
  have : ∀ l : List Int, (l.map fun _ => (1 : Int)).sum = l.length := fun l => by
    induction l with
    | nil => rfl
    | cons x l ih => simp only [List.map_cons, List.sum_cons, ih, List.length_cons]; omega
  rw [this, length_rgI]
  have := hr.pos
  omega
end
end Cl
set_option Elab.async false
set_option linter.all false
set_option maxRecDepth 100000
namespace Cl
open PySem
/-- 0 value 1 least 2 most -/
def F_is_int : Fn := ⟨3, 3, (.cons (.ret (.and (.isi .int (.var 0)) (.and (.not (.isi .bool (.var 0))) (.one (.chn .le .le (.var 1) (.var 0) (.var 2)))))) .nil)⟩
/-- 0 candidate -/
def F_is_cycle : Fn := ⟨1, 1, (.cons (.ret (.call 0 (.cons (.var 0) (.cons (.cst (.int 1)) (.cons (.glo "MAX_CYCLE_beats" ((.int 24))) .nil))))) .nil)⟩
/-- 0 cycle 1 candidate 2 beat 3 one 4 other -/
def C_has_set1 : CE := .lc (.call 0 (.cons (.var 2) (.cons (.cst (.int 0)) (.cons (.bin .sub (.var 0) (.cst (.int 1))) .nil)))) (.nm 2) (.tup (.var 1)) .none [2]
@[simp] theorem C_has_set1_b : C_has_set1.isBor = false := rfl
@[simp] theorem C_has_set1_n : C_has_set1.isNew = true := rfl
def C_has_set2 : CE := .lc (.cmp .lt (.var 3) (.var 4)) (.tp [3, 4]) (.zip (.var 1) (.slc (.var 1) (.some (.cst (.int 1))) .none)) .none [3, 4]
@[simp] theorem C_has_set2_b : C_has_set2.isBor = false := rfl
@[simp] theorem C_has_set2_n : C_has_set2.isNew = true := rfl
def F_has_set : Fn := ⟨2, 5, (.cons (.ite (.or (.not (.isi .tuple (.var 1))) (.one (.cmp .eq (.var 1) (.tup .nil)))) (.cons (.ret (.cst (.bl false))) .nil) .nil) (.cons (.ite (.not (.bi .all (.cons (C_has_set1) .nil))) (.cons (.ret (.cst (.bl false))) .nil) .nil) (.cons (.ret (.bi .all (.cons (C_has_set2) .nil))) .nil)))⟩
/-- 0 value -/
def F_check_cycle : Fn := ⟨1, 1, (.cons (.ite (.not (.call 1 (.cons (.var 0) .nil))) (.cons (.rse 1) .nil) .nil) .nil)⟩
/-- 0 cycle 1 beats 2 number 3 beat -/
def C_move_by1 : CE := .lc (.bin .mod (.bin .add (.var 3) (.var 2)) (.var 0)) (.nm 3) (.tup (.var 1)) .none [3]
@[simp] theorem C_move_by1_b : C_move_by1.isBor = false := rfl
@[simp] theorem C_move_by1_n : C_move_by1.isNew = true := rfl
def F_move_by : Fn := ⟨3, 4, (.cons (.ret (.bi .tuple (.cons (.bi .sorted (.cons (C_move_by1) .nil)) .nil))) .nil)⟩
/-- 0 cycle 1 beats 2 part -/
def C_find_period1 : CE := .lc (.var 2) (.nm 2) (.rng (.cons (.cst (.int 1)) (.cons (.bin .add (.var 0) (.cst (.int 1))) .nil))) (.some (.and (.cmp .eq (.bin .mod (.var 0) (.var 2)) (.cst (.int 0))) (.one (.cmp .eq (.call 7 (.cons (.var 0) (.cons (.var 1) (.cons (.var 2) .nil)))) (.var 1))))) [2]
@[simp] theorem C_find_period1_b : C_find_period1.isBor = false := rfl
@[simp] theorem C_find_period1_n : C_find_period1.isNew = true := rfl
def F_find_period : Fn := ⟨2, 3, (.cons (.ret (.idx (C_find_period1) (.cst (.int 0)))) .nil)⟩
/-- 0 cycle 1 value 2 rhythm -/
def C_check_rhythms1 : CE := .lc (.call 2 (.cons (.var 0) (.cons (.var 2) .nil))) (.nm 2) (.lst (.var 1)) .none [2]
@[simp] theorem C_check_rhythms1_b : C_check_rhythms1.isBor = false := rfl
@[simp] theorem C_check_rhythms1_n : C_check_rhythms1.isNew = true := rfl
def F_check_rhythms : Fn := ⟨2, 3, (.cons (.exp (.call 3 (.cons (.var 0) .nil))) (.cons (.ite (.or (.not (.isi .list (.var 1))) (.one (.not (.chn .le .le (.cst (.int 1)) (.bi .len (.cons (.var 1) .nil)) (.glo "MAX_RHYTHMS" ((.int 3))))))) (.cons (.rse 11) .nil) .nil) (.cons (.ite (.not (.bi .all (.cons (C_check_rhythms1) .nil))) (.cons (.rse 11) .nil) .nil) .nil)))⟩
/-- 0 cycle 1 rhythms 2 found 3 index 4 rhythm 5 start -/
def S_all_tiles1 : CSs := (.cons (.app 2 (.tup (.cons (.tup (.cons (.var 3) (.cons (.var 5) .nil))) (.cons (.call 7 (.cons (.var 0) (.cons (.var 4) (.cons (.var 5) .nil)))) .nil)))) .nil)
def S_all_tiles2 : CSs := (.cons (.forr (.nm 5) (.rng (.cons (.call 9 (.cons (.var 0) (.cons (.var 4) .nil))) .nil)) S_all_tiles1) .nil)
def F_all_tiles : Fn := ⟨2, 6, (.cons (.own 2 (.lst .nil)) (.cons (.forr (.tp [3, 4]) (.enum (.var 1)) S_all_tiles2) (.cons (.retO 2) .nil)))⟩
/-- 0 cycle 1 rhythms 2 value -/
def F_is_tile : Fn := ⟨3, 3, (.cons (.ite (.or (.not (.isi .tuple (.var 2))) (.or (.cmp .ne (.bi .len (.cons (.var 2) .nil)) (.cst (.int 2))) (.one (.not (.call 0 (.cons (.idx (.var 2) (.cst (.int 0))) (.cons (.cst (.int 0)) (.cons (.bin .sub (.bi .len (.cons (.var 1) .nil)) (.cst (.int 1))) .nil)))))))) (.cons (.ret (.cst (.bl false))) .nil) .nil) (.cons (.ret (.call 0 (.cons (.idx (.var 2) (.cst (.int 1))) (.cons (.cst (.int 0)) (.cons (.bin .sub (.call 9 (.cons (.var 0) (.cons (.idx (.var 1) (.idx (.var 2) (.cst (.int 0)))) .nil))) (.cst (.int 1))) .nil))))) .nil))⟩
/-- 0 cycle 1 rhythms 2 candidate 3 tile 4 one 5 other 6 beats 7 index 8 start 9 beat -/
def C_is_tiling1 : CE := .lc (.call 58 (.cons (.var 0) (.cons (.var 1) (.cons (.var 3) .nil)))) (.nm 3) (.tup (.var 2)) .none [3]
@[simp] theorem C_is_tiling1_b : C_is_tiling1.isBor = false := rfl
@[simp] theorem C_is_tiling1_n : C_is_tiling1.isNew = true := rfl
def C_is_tiling2 : CE := .lc (.cmp .lt (.var 4) (.var 5)) (.tp [4, 5]) (.zip (.var 2) (.slc (.var 2) (.some (.cst (.int 1))) .none)) .none [4, 5]
@[simp] theorem C_is_tiling2_b : C_is_tiling2.isBor = false := rfl
@[simp] theorem C_is_tiling2_n : C_is_tiling2.isNew = true := rfl
def C_is_tiling3 : CE := .lc2 (.var 9) (.tp [7, 8]) (.tup (.var 2)) .none (.nm 9) (.tup (.call 7 (.cons (.var 0) (.cons (.idx (.var 1) (.var 7)) (.cons (.var 8) .nil))))) .none [7, 8, 9] [9]
@[simp] theorem C_is_tiling3_b : C_is_tiling3.isBor = false := rfl
@[simp] theorem C_is_tiling3_n : C_is_tiling3.isNew = true := rfl
def F_is_tiling : Fn := ⟨3, 10, (.cons (.exp (.call 56 (.cons (.var 0) (.cons (.var 1) .nil)))) (.cons (.ite (.or (.not (.isi .tuple (.var 2))) (.one (.not (.bi .all (.cons (C_is_tiling1) .nil))))) (.cons (.ret (.cst (.bl false))) .nil) .nil) (.cons (.ite (.not (.bi .all (.cons (C_is_tiling2) .nil))) (.cons (.ret (.cst (.bl false))) .nil) .nil) (.cons (.asg 6 (C_is_tiling3)) (.cons (.ret (.cmp .eq (.bi .sorted (.cons (.var 6) .nil)) (.rgl (.cons (.var 0) .nil)))) .nil)))))⟩
/-- 0 tiles 1 left 2 known 3 total 4 name 5 beats 6 beat -/
def C_count_covers1 : CE := .lc (.cmp .isin (.var 6) (.var 1)) (.nm 6) (.tup (.var 5)) .none [6]
@[simp] theorem C_count_covers1_b : C_count_covers1.isBor = false := rfl
@[simp] theorem C_count_covers1_n : C_count_covers1.isNew = true := rfl
def M_count_covers : CE := .and (.cmp .isin (.idx (.var 1) (.cst (.int 0))) (.var 5)) (.one (.bi .all (.cons (C_count_covers1) .nil)))
def F_count_covers : Fn := ⟨2, 7, (memoB 60 M_count_covers)⟩
/-- 0 cycle 1 rhythms -/
def F_check_small : Fn := ⟨2, 2, (.cons (.exp (.call 56 (.cons (.var 0) (.cons (.var 1) .nil)))) (.cons (.ite (.cmp .gt (.var 0) (.glo "MAX_CYCLE_several" ((.int 12)))) (.cons (.rse 10) .nil) .nil) .nil))⟩
/-- 0 cycle 1 rhythms -/
def F_find_count : Fn := ⟨2, 2, (.cons (.ret (.callD 60 (.cons (.call 57 (.cons (.var 0) (.cons (.var 1) .nil))) (.cons (.rgt (.cons (.var 0) .nil)) .nil)))) .nil)⟩
/-- 0 cycle 1 rhythms -/
def F_can_tile : Fn := ⟨2, 2, (.cons (.exp (.call 36 (.cons (.var 0) (.cons (.var 1) .nil)))) (.cons (.ret (.cmp .gt (.call 61 (.cons (.var 0) (.cons (.var 1) .nil))) (.cst (.int 0)))) .nil))⟩
/-- 0 cycle 1 rhythms -/
def F_count_tilings : Fn := ⟨2, 2, (.cons (.exp (.call 36 (.cons (.var 0) (.cons (.var 1) .nil)))) (.cons (.ret (.call 61 (.cons (.var 0) (.cons (.var 1) .nil)))) .nil))⟩
/-- 0 cycle 1 rhythms 2 tiles 3 left 4 found 5 name 6 beats 7 rest 8 beat -/
def C_first_tiling1 : CE := .lc (.var 8) (.nm 8) (.tup (.var 3)) (.some (.cmp .notin (.var 8) (.var 6))) [8]
@[simp] theorem C_first_tiling1_b : C_first_tiling1.isBor = false := rfl
@[simp] theorem C_first_tiling1_n : C_first_tiling1.isNew = true := rfl
def S_first_tiling1 : CSs := (.cons (.unp (.tp [5, 6]) (.idx (.var 2) (.cst (.int 0)))) (.cons (.asg 7 (.bi .tuple (.cons (C_first_tiling1) .nil))) (.cons (.asg 2 (.slc (.var 2) (.some (.cst (.int 1))) .none)) (.cons (.ite (.and (.cmp .eq (.bi .len (.cons (.var 7) .nil)) (.bin .sub (.bi .len (.cons (.var 3) .nil)) (.bi .len (.cons (.var 6) .nil)))) (.one (.cmp .gt (.callD 60 (.cons (.var 2) (.cons (.var 7) .nil))) (.cst (.int 0))))) (.cons (.par true [4, 3] (.cons (.bin .add (.var 4) (.tup (.cons (.var 5) .nil))) (.cons (.var 7) .nil))) .nil) .nil) .nil))))
def F_first_tiling : Fn := ⟨2, 9, (.cons (.exp (.call 36 (.cons (.var 0) (.cons (.var 1) .nil)))) (.cons (.ite (.cmp .eq (.call 61 (.cons (.var 0) (.cons (.var 1) .nil))) (.cst (.int 0))) (.cons (.ret (.cst .non)) .nil) .nil) (.cons (.par true [2, 3, 4] (.cons (.call 57 (.cons (.var 0) (.cons (.var 1) .nil))) (.cons (.rgt (.cons (.var 0) .nil)) (.cons (.tup .nil) .nil)))) (.cons (.whl (.and (.cmp .ne (.var 2) (.lst .nil)) (.one (.cmp .ne (.var 3) (.tup .nil)))) S_first_tiling1) (.cons (.ret (.var 4)) .nil)))))⟩
/-- 0 cycle 1 rhythms 2 found 3 index 4 tiles 5 tile -/
def C_needed_rhythms1 : CE := .lc (.var 5) (.nm 5) (.lst (.call 57 (.cons (.var 0) (.cons (.var 1) .nil)))) (.some (.cmp .ne (.idx (.idx (.var 5) (.cst (.int 0))) (.cst (.int 0))) (.var 3))) [5]
@[simp] theorem C_needed_rhythms1_b : C_needed_rhythms1.isBor = false := rfl
@[simp] theorem C_needed_rhythms1_n : C_needed_rhythms1.isNew = true := rfl
def S_needed_rhythms1 : CSs := (.cons (.asg 4 (C_needed_rhythms1)) (.cons (.ite (.cmp .eq (.callD 60 (.cons (.var 4) (.cons (.rgt (.cons (.var 0) .nil)) .nil))) (.cst (.int 0))) (.cons (.app 2 (.var 3)) .nil) .nil) .nil))
def F_needed_rhythms : Fn := ⟨2, 6, (.cons (.exp (.call 36 (.cons (.var 0) (.cons (.var 1) .nil)))) (.cons (.ite (.cmp .eq (.call 61 (.cons (.var 0) (.cons (.var 1) .nil))) (.cst (.int 0))) (.cons (.ret (.cst .non)) .nil) .nil) (.cons (.own 2 (.lst .nil)) (.cons (.forr (.nm 3) (.rng (.cons (.bi .len (.cons (.var 1) .nil)) .nil)) S_needed_rhythms1) (.cons (.retO 2) .nil)))))⟩
/-- 0 script 1 k 2 many 3 cell 4 turn 5 rest -/
def T_law_drawn1 : CS := .asg 3 (.bin .mul (.cst (.int 7)) (.var 1))
def S_law_drawn1 : CSs := (.cons (.asg 5 (.bin .fdiv (.var 5) (.cst (.int 1000000)))) (.cons (.asg 4 (.bin .sub (.var 4) (.cst (.int 1)))) .nil))
def T_law_drawn2 : CS := .ite (.cmp .ne (.var 0) (.lst .nil)) (.cons (.asg 3 (.idx (.var 0) (.bin .mod (.var 1) (.bi .len (.cons (.var 0) .nil))))) (.cons (.asg 4 (.bin .fdiv (.var 1) (.bi .len (.cons (.var 0) .nil)))) (.cons (.ite (.and (.cmp .ge (.var 3) (.bin .pow (.cst (.int 10)) (.cst (.int 18)))) (.one (.cmp .lt (.var 4) (.cst (.int 60))))) (.cons (.asg 5 (.bin .fdiv (.var 3) (.bin .pow (.cst (.int 10)) (.cst (.int 18))))) (.cons (.whl (.and (.cmp .gt (.var 5) (.cst (.int 0))) (.one (.cmp .gt (.var 4) (.cst (.int 0))))) S_law_drawn1) (.cons (.ite (.cmp .gt (.var 5) (.cst (.int 0))) (.cons (.ret (.bin .mod (.bin .mod (.var 5) (.cst (.int 1000000))) (.var 2))) .nil) .nil) .nil))) .nil) (.cons (.asg 3 (.bin .add (.var 3) (.bin .mul (.cst (.int 6553)) (.bin .fdiv (.var 1) (.bi .len (.cons (.var 0) .nil)))))) .nil)))) .nil
def T_law_drawn3 : CS := .asg 3 (.bin .mod (.bin .add (.bin .mul (.bin .mod (.var 3) (.cst (.int 2147483563))) (.cst (.int 69069))) (.bin .mul (.cst (.int 104723)) (.bin .add (.var 1) (.cst (.int 1))))) (.cst (.int 2147483563)))
def T_law_drawn4 : CS := .asg 3 (.bin .mod (.bin .add (.bin .mul (.var 3) (.var 3)) (.bin .fdiv (.var 3) (.cst (.int 3)))) (.cst (.int 2147483399)))
def T_law_drawn5 : CS := .ret (.bin .mod (.bin .fdiv (.bin .mod (.bin .add (.bin .mul (.var 3) (.var 3)) (.bin .fdiv (.var 3) (.cst (.int 7)))) (.cst (.int 2147483647))) (.cst (.int 11))) (.var 2))
def F_law_drawn : Fn := ⟨3, 6, (.cons (T_law_drawn1) (.cons (T_law_drawn2) (.cons (T_law_drawn3) (.cons (T_law_drawn4) (.cons (T_law_drawn5) .nil)))))⟩
/-- 0 script 1 at 2 cycle 3 found 4 beat -/
def C_law_set1 : CE := .lc (.var 4) (.nm 4) (.rng (.cons (.var 2) .nil)) (.some (.cmp .eq (.call 66 (.cons (.var 0) (.cons (.bin .add (.bin .add (.var 1) (.cst (.int 1))) (.var 4)) (.cons (.cst (.int 3)) .nil)))) (.cst (.int 0)))) [4]
@[simp] theorem C_law_set1_b : C_law_set1.isBor = false := rfl
@[simp] theorem C_law_set1_n : C_law_set1.isNew = true := rfl
def F_law_set : Fn := ⟨3, 5, (.cons (.asg 3 (C_law_set1)) (.cons (.ret (.ite (.cmp .ne (.var 3) (.lst .nil)) (.bi .tuple (.cons (.var 3) .nil)) (.tup (.cons (.call 66 (.cons (.var 0) (.cons (.var 1) (.cons (.var 2) .nil)))) .nil)))) .nil))⟩
/-- 0 script 1 at 2 cycle 3 part 4 size 5 found 6 beat -/
def C_law_rhythm1 : CE := .lc (.var 4) (.nm 4) (.rng (.cons (.cst (.int 1)) (.cons (.bin .add (.var 2) (.cst (.int 1))) .nil))) (.some (.cmp .eq (.bin .mod (.var 2) (.var 4)) (.cst (.int 0)))) [4]
@[simp] theorem C_law_rhythm1_b : C_law_rhythm1.isBor = false := rfl
@[simp] theorem C_law_rhythm1_n : C_law_rhythm1.isNew = true := rfl
def S_law_rhythm1 : CSs := (.cons (.app 5 (.bin .mod (.bin .add (.var 6) (.bin .mul (.var 4) (.call 66 (.cons (.var 0) (.cons (.bin .add (.bin .add (.var 1) (.cst (.int 1))) (.var 6)) (.cons (.bin .fdiv (.var 2) (.var 4)) .nil)))))) (.var 2))) .nil)
def F_law_rhythm : Fn := ⟨3, 7, (.cons (.asg 3 (C_law_rhythm1)) (.cons (.asg 4 (.idx (.var 3) (.call 66 (.cons (.var 0) (.cons (.var 1) (.cons (.bi .len (.cons (.var 3) .nil)) .nil)))))) (.cons (.own 5 (.lst .nil)) (.cons (.forr (.nm 6) (.rng (.cons (.var 4) .nil)) S_law_rhythm1) (.cons (.ret (.ite (.cmp .eq (.call 66 (.cons (.var 0) (.cons (.bin .add (.var 1) (.cst (.int 25))) (.cons (.cst (.int 4)) .nil)))) (.cst (.int 0))) (.call 67 (.cons (.var 0) (.cons (.var 1) (.cons (.var 2) .nil)))) (.bi .tuple (.cons (.bi .sorted (.cons (.bor 5) .nil)) .nil)))) .nil)))))⟩
/-- 0 cycle 1 beats 2 number 3 beat -/
def C_law_move1 : CE := .lc (.bin .mod (.bin .add (.var 3) (.var 2)) (.var 0)) (.nm 3) (.tup (.var 1)) .none [3]
@[simp] theorem C_law_move1_b : C_law_move1.isBor = false := rfl
@[simp] theorem C_law_move1_n : C_law_move1.isNew = true := rfl
def F_law_move : Fn := ⟨3, 4, (.cons (.ret (.bi .tuple (.cons (.bi .sorted (.cons (C_law_move1) .nil)) .nil))) .nil)⟩
/-- 0 script 1 at -/
def F_law_badcycle : Fn := ⟨2, 2, (.cons (.ret (.idx (.lst (.cons (.cst .non) (.cons (.cst (.int 0)) (.cons (.cst (.int 25)) (.cons (.cst (.bl true)) (.cons (.cst (.str "8")) .nil)))))) (.call 66 (.cons (.var 0) (.cons (.var 1) (.cons (.cst (.int 5)) .nil)))))) .nil)⟩
/-- 0 script 1 at 2 cycle -/
def F_law_badset : Fn := ⟨3, 3, (.cons (.ret (.idx (.lst (.cons (.cst .non) (.cons (.tup .nil) (.cons (.lst (.cons (.cst (.int 0)) .nil)) (.cons (.tup (.cons (.var 2) .nil)) (.cons (.tup (.cons (.neg (.cst (.int 1))) (.cons (.cst (.int 0)) .nil))) (.cons (.tup (.cons (.cst (.int 0)) (.cons (.cst (.int 0)) .nil))) (.cons (.tup (.cons (.cst (.bl true)) .nil)) (.cons (.tup (.cons (.cst (.str "0")) .nil)) (.cons (.cst (.int 0)) .nil)))))))))) (.call 66 (.cons (.var 0) (.cons (.var 1) (.cons (.cst (.int 9)) .nil)))))) .nil)⟩
/-- 0 way 1 one 2 two 3 three 4 e -/
def T_law_error1 : CS := .ite (.cmp .eq (.var 0) (.cst (.int 0))) (.cons (.exp (.call 59 (.cons (.var 1) (.cons (.var 2) (.cons (.var 3) .nil))))) .nil) (.cons (.exp (.callAt [62, 63, 64, 65] (.bin .sub (.var 0) (.cst (.int 1))) (.cons (.var 1) (.cons (.var 2) .nil)))) .nil)
def T_law_error2 : CS := .tryx (.cons (T_law_error1) .nil) 4 (.idx (.cons (.isx 1) (.cons (.isx 11) (.cons (.isx 10) .nil))))
def T_law_error3 : CS := .ret (.cst .non)
def F_law_error : Fn := ⟨4, 5, (.cons (T_law_error2) (.cons (T_law_error3) .nil))⟩
/-- 0 cycle 1 rhythms 2 found 3 index 4 rhythm 5 held 6 start 7 beats -/
def S_law_tiles1 : CSs := (.cons (.asg 7 (.call 17 (.cons (.var 0) (.cons (.var 4) (.cons (.var 6) .nil))))) (.cons (.ite (.cmp .notin (.var 7) (.bor 5)) (.cons (.app 5 (.var 7)) (.cons (.app 2 (.tup (.cons (.tup (.cons (.var 3) (.cons (.var 6) .nil))) (.cons (.var 7) .nil)))) .nil)) .nil) .nil))
def S_law_tiles2 : CSs := (.cons (.own 5 (.lst .nil)) (.cons (.forr (.nm 6) (.rng (.cons (.var 0) .nil)) S_law_tiles1) .nil))
def F_law_tiles : Fn := ⟨2, 8, (.cons (.own 2 (.lst .nil)) (.cons (.forr (.tp [3, 4]) (.enum (.var 1)) S_law_tiles2) (.cons (.retO 2) .nil)))⟩
/-- 0 tiles 1 left 2 found 3 name 4 beats 5 beat 6 rest 7 some -/
def T_law_tilings1 : CS := .ite (.cmp .eq (.var 1) (.tup .nil)) (.cons (.ret (.lst (.cons (.lst .nil) .nil))) .nil) .nil
def T_law_tilings2 : CS := .asg 2 (.lst .nil)
def C_law_tilings1 : CE := .lc (.var 5) (.nm 5) (.tup (.var 4)) (.some (.cmp .notin (.var 5) (.var 1))) [5]
@[simp] theorem C_law_tilings1_b : C_law_tilings1.isBor = false := rfl
@[simp] theorem C_law_tilings1_n : C_law_tilings1.isNew = true := rfl
def C_law_tilings2 : CE := .lc (.var 5) (.nm 5) (.tup (.var 1)) (.some (.cmp .notin (.var 5) (.var 4))) [5]
@[simp] theorem C_law_tilings2_b : C_law_tilings2.isBor = false := rfl
@[simp] theorem C_law_tilings2_n : C_law_tilings2.isNew = true := rfl
def C_law_tilings3 : CE := .lc (.bin .add (.lst (.cons (.var 3) .nil)) (.var 7)) (.nm 7) (.lst (.call 102 (.cons (.var 0) (.cons (.var 6) .nil)))) .none [7]
@[simp] theorem C_law_tilings3_b : C_law_tilings3.isBor = false := rfl
@[simp] theorem C_law_tilings3_n : C_law_tilings3.isNew = true := rfl
def T_law_tilings3 : CS := .ite (.and (.cmp .isin (.idx (.var 1) (.cst (.int 0))) (.var 4)) (.one (.cmp .eq (C_law_tilings1) (.lst .nil)))) (.cons (.asg 6 (.bi .tuple (.cons (C_law_tilings2) .nil))) (.cons (.asg 2 (.bin .add (.var 2) (C_law_tilings3))) .nil)) .nil
def S_law_tilings1 : CSs := (.cons (T_law_tilings3) .nil)
def T_law_tilings4 : CS := .forr (.tp [3, 4]) (.lst (.var 0)) S_law_tilings1
def T_law_tilings5 : CS := .ret (.var 2)
def F_law_tilings : Fn := ⟨2, 8, (.cons (T_law_tilings1) (.cons (T_law_tilings2) (.cons (T_law_tilings4) (.cons (T_law_tilings5) .nil))))⟩
/-- 0 cycle 1 rhythms 2 tiles 3 rows 4 row 5 index 6 start 7 other 8 name 9 beats 10 rest 11 tile -/
def C_law_beyond1 : CE := .lc (.var 8) (.tp [8, 9]) (.lst (.var 2)) (.some (.cmp .eq (.idx (.var 8) (.cst (.int 0))) (.var 5))) [8, 9]
@[simp] theorem C_law_beyond1_b : C_law_beyond1.isBor = false := rfl
@[simp] theorem C_law_beyond1_n : C_law_beyond1.isNew = true := rfl
def T_law_beyond1 : CS := .asg 7 (.bin .add (.var 6) (.bi .len (.cons (C_law_beyond1) .nil)))
def C_law_beyond2 : CE := .lc (.var 11) (.nm 11) (.tup (.var 4)) (.some (.cmp .ne (.var 11) (.tup (.cons (.var 5) (.cons (.var 6) .nil))))) [11]
@[simp] theorem C_law_beyond2_b : C_law_beyond2.isBor = false := rfl
@[simp] theorem C_law_beyond2_n : C_law_beyond2.isNew = true := rfl
def T_law_beyond2 : CS := .asg 10 (C_law_beyond2)
def T_law_beyond3 : CS := .ite (.and (.cmp .lt (.var 7) (.var 0)) (.one (.call 59 (.cons (.var 0) (.cons (.var 1) (.cons (.bi .tuple (.cons (.bi .sorted (.cons (.bin .add (.var 10) (.lst (.cons (.tup (.cons (.var 5) (.cons (.var 7) .nil))) .nil))) .nil)) .nil)) .nil)))))) (.cons (.ret (.cst (.bl false))) .nil) .nil
def S_law_beyond1 : CSs := (.cons (T_law_beyond1) (.cons (T_law_beyond2) (.cons (T_law_beyond3) .nil)))
def T_law_beyond4 : CS := .forr (.tp [5, 6]) (.tup (.var 4)) S_law_beyond1
def S_law_beyond2 : CSs := (.cons (T_law_beyond4) .nil)
def T_law_beyond5 : CS := .forr (.nm 4) (.lst (.slc (.var 3) .none (.some (.cst (.int 2))))) S_law_beyond2
def T_law_beyond6 : CS := .ret (.cst (.bl true))
def F_law_beyond : Fn := ⟨4, 12, (.cons (T_law_beyond5) (.cons (T_law_beyond6) .nil))⟩
/-- 0 script 1 cycle 2 rhythms 3 rows 4 odd 5 bad 6 refused 7 wrong 8 one 9 told 10 way -/
def T_law_rejected1 : CS := .par false [4, 5] (.cons (.call 99 (.cons (.var 0) (.cons (.cst (.int 3)) .nil))) (.cons (.call 100 (.cons (.var 0) (.cons (.cst (.int 4)) (.cons (.var 1) .nil)))) .nil))
def T_law_rejected2 : CS := .asg 6 (.idx (.lst (.cons (.cst .non) (.cons (.lst .nil) (.cons (.tup (.cons (.idx (.var 2) (.cst (.int 0))) .nil)) (.cons (.lst (.cons (.var 5) .nil)) (.cons (.bin .add (.slc (.var 2) .none (.some (.cst (.int 1)))) (.lst (.cons (.var 5) .nil))) (.cons (.bin .mul (.slc (.var 2) .none (.some (.cst (.int 1)))) (.cst (.int 4))) .nil))))))) (.call 66 (.cons (.var 0) (.cons (.cst (.int 5)) (.cons (.cst (.int 6)) .nil)))))
def T_law_rejected3 : CS := .asg 7 (.ite (.cmp .ne (.var 3) (.lst .nil)) (.bin .add (.revT (.idx (.var 3) (.cst (.int 0)))) (.tup (.cons (.tup (.cons (.cst (.int 0)) (.cons (.cst (.int 0)) .nil))) .nil))) (.cst (.str "0")))
def T_law_rejected4 : CS := .ite (.call 59 (.cons (.var 1) (.cons (.var 2) (.cons (.var 8) .nil)))) (.cons (.ret (.cst (.bl false))) .nil) .nil
def S_law_rejected1 : CSs := (.cons (T_law_rejected4) .nil)
def T_law_rejected5 : CS := .forr (.nm 8) (.tup (.tup (.cons (.cst .non) (.cons (.tup (.cons (.cst (.int 0)) .nil)) (.cons (.tup (.cons (.tup (.cons (.cst (.int 0)) .nil)) .nil)) (.cons (.tup (.cons (.tup (.cons (.cst (.int 0)) (.cons (.var 1) .nil))) .nil)) (.cons (.tup (.cons (.tup (.cons (.cst (.int 9)) (.cons (.cst (.int 0)) .nil))) .nil)) (.cons (.tup (.cons (.tup (.cons (.cst (.bl true)) (.cons (.cst (.int 0)) .nil))) .nil)) (.cons (.var 7) .nil))))))))) S_law_rejected1
def C_law_rejected1 : CE := .lc (.call 101 (.cons (.var 10) (.cons (.var 4) (.cons (.var 6) (.cons (.cst (.int 0)) .nil))))) (.nm 10) (.rng (.cons (.cst (.int 5)) .nil)) .none [10]
@[simp] theorem C_law_rejected1_b : C_law_rejected1.isBor = false := rfl
@[simp] theorem C_law_rejected1_n : C_law_rejected1.isNew = true := rfl
def T_law_rejected6 : CS := .asg 9 (C_law_rejected1)
def C_law_rejected2 : CE := .lc (.call 101 (.cons (.var 10) (.cons (.var 1) (.cons (.var 6) (.cons (.cst (.int 0)) .nil))))) (.nm 10) (.rng (.cons (.cst (.int 5)) .nil)) .none [10]
@[simp] theorem C_law_rejected2_b : C_law_rejected2.isBor = false := rfl
@[simp] theorem C_law_rejected2_n : C_law_rejected2.isNew = true := rfl
def T_law_rejected7 : CS := .asg 9 (.bin .add (.var 9) (C_law_rejected2))
def C_law_rejected3 : CE := .lc (.call 101 (.cons (.var 10) (.cons (.cst (.int 13)) (.cons (.lst (.cons (.tup (.cons (.cst (.int 0)) .nil)) .nil)) (.cons (.cst (.int 0)) .nil))))) (.nm 10) (.rng (.cons (.cst (.int 5)) .nil)) .none [10]
@[simp] theorem C_law_rejected3_b : C_law_rejected3.isBor = false := rfl
@[simp] theorem C_law_rejected3_n : C_law_rejected3.isNew = true := rfl
def T_law_rejected8 : CS := .ret (.cmp .eq (.bin .add (.var 9) (C_law_rejected3)) (.bin .add (.bin .add (.bin .add (.bin .mul (.lst (.cons (.cst (.int 0)) .nil)) (.cst (.int 5))) (.bin .mul (.lst (.cons (.cst (.int 1)) .nil)) (.cst (.int 5)))) (.lst (.cons (.cst .non) .nil))) (.bin .mul (.lst (.cons (.cst (.int 2)) .nil)) (.cst (.int 4)))))
def F_law_rejected : Fn := ⟨4, 11, (.cons (T_law_rejected1) (.cons (T_law_rejected2) (.cons (T_law_rejected3) (.cons (T_law_rejected5) (.cons (T_law_rejected6) (.cons (T_law_rejected7) (.cons (T_law_rejected8) .nil)))))))⟩
/-- 0 script 1 cycle 2 rhythms 3 tiles 4 rows 5 some 6 due 7 index 8 row 9 name 10 start 11 k 12 beats -/
def T_law1 : CS := .asg 1 (.bin .add (.cst (.int 1)) (.call 66 (.cons (.var 0) (.cons (.cst (.int 1)) (.cons (.cst (.int 7)) .nil)))))
def T_law2 : CS := .asg 2 (.lst (.cons (.call 67 (.cons (.var 0) (.cons (.cst (.int 10)) (.cons (.var 1) .nil)))) (.cons (.call 68 (.cons (.var 0) (.cons (.cst (.int 50)) (.cons (.var 1) .nil)))) .nil)))
def T_law3 : CS := .asg 2 (.bin .add (.var 2) (.lst (.cons (.call 67 (.cons (.var 0) (.cons (.cst (.int 90)) (.cons (.var 1) .nil)))) .nil)))
def T_law4 : CS := .asg 2 (.slc (.var 2) .none (.some (.bin .add (.cst (.int 1)) (.call 66 (.cons (.var 0) (.cons (.cst (.int 2)) (.cons (.cst (.int 3)) .nil)))))))
def T_law5 : CS := .asg 3 (.call 96 (.cons (.var 1) (.cons (.var 2) .nil)))
def C_law1 : CE := .lc (.bi .tuple (.cons (.bi .sorted (.cons (.var 5) .nil)) .nil)) (.nm 5) (.lst (.call 102 (.cons (.var 3) (.cons (.rgt (.cons (.var 1) .nil)) .nil)))) .none [5]
@[simp] theorem C_law1_b : C_law1.isBor = false := rfl
@[simp] theorem C_law1_n : C_law1.isNew = true := rfl
def T_law6 : CS := .asg 4 (.bi .sorted (.cons (C_law1) .nil))
def T_law7 : CS := .ite (.or (.cmp .ne (.call 62 (.cons (.var 1) (.cons (.var 2) .nil))) (.cmp .ne (.var 4) (.lst .nil))) (.one (.cmp .ne (.call 63 (.cons (.var 1) (.cons (.var 2) .nil))) (.bi .len (.cons (.var 4) .nil))))) (.cons (.ret (.cst (.bl false))) .nil) .nil
def T_law8 : CS := .ite (.cmp .ne (.call 64 (.cons (.var 1) (.cons (.var 2) .nil))) (.ite (.cmp .ne (.var 4) (.lst .nil)) (.idx (.var 4) (.cst (.int 0))) (.cst .non))) (.cons (.ret (.cst (.bl false))) .nil) .nil
def T_law9 : CS := .own 6 (.lst .nil)
def C_law2 : CE := .lc (.var 9) (.tp [9, 10]) (.tup (.var 8)) .none [9, 10]
@[simp] theorem C_law2_b : C_law2.isBor = false := rfl
@[simp] theorem C_law2_n : C_law2.isNew = true := rfl
def C_law3 : CE := .lc (.var 8) (.nm 8) (.lst (.var 4)) (.some (.cmp .notin (.var 7) (C_law2))) [8]
@[simp] theorem C_law3_b : C_law3.isBor = false := rfl
@[simp] theorem C_law3_n : C_law3.isNew = true := rfl
def T_law10 : CS := .ite (.cmp .eq (C_law3) (.lst .nil)) (.cons (.app 6 (.var 7)) .nil) .nil
def S_law1 : CSs := (.cons (T_law10) .nil)
def T_law11 : CS := .forr (.nm 7) (.rng (.cons (.bi .len (.cons (.var 2) .nil)) .nil)) S_law1
def T_law12 : CS := .ite (.cmp .ne (.call 65 (.cons (.var 1) (.cons (.var 2) .nil))) (.ite (.cmp .ne (.var 4) (.lst .nil)) (.var 6) (.cst .non))) (.cons (.ret (.cst (.bl false))) .nil) .nil
def C_law4 : CE := .lc (.var 9) (.tp [9, 12]) (.lst (.var 3)) (.some (.cmp .eq (.call 66 (.cons (.var 0) (.cons (.bin .add (.bin .add (.bin .add (.cst (.int 120)) (.bin .mul (.cst (.int 20)) (.var 11))) (.bin .mul (.idx (.var 9) (.cst (.int 0))) (.cst (.int 7)))) (.idx (.var 9) (.cst (.int 1)))) (.cons (.cst (.int 3)) .nil)))) (.cst (.int 0)))) [9, 12]
@[simp] theorem C_law4_b : C_law4.isBor = false := rfl
@[simp] theorem C_law4_n : C_law4.isNew = true := rfl
def T_law13 : CS := .asg 8 (.bi .tuple (.cons (C_law4) .nil))
def T_law14 : CS := .asg 8 (.ite (.and (.cmp .ne (.var 4) (.lst .nil)) (.one (.cmp .lt (.var 11) (.cst (.int 2))))) (.idx (.var 4) (.call 66 (.cons (.var 0) (.cons (.bin .add (.cst (.int 230)) (.var 11)) (.cons (.bi .len (.cons (.var 4) .nil)) .nil))))) (.var 8))
def T_law15 : CS := .ite (.or (.cmp .ne (.call 59 (.cons (.var 1) (.cons (.var 2) (.cons (.var 8) .nil)))) (.cmp .isin (.var 8) (.var 4))) (.one (.call 59 (.cons (.var 1) (.cons (.var 2) (.cons (.bi .list (.cons (.var 8) .nil)) .nil)))))) (.cons (.ret (.cst (.bl false))) .nil) .nil
def S_law2 : CSs := (.cons (T_law13) (.cons (T_law14) (.cons (T_law15) .nil)))
def T_law16 : CS := .forr (.nm 11) (.rng (.cons (.cst (.int 5)) .nil)) S_law2
def T_law17 : CS := .ite (.not (.call 103 (.cons (.var 1) (.cons (.var 2) (.cons (.var 3) (.cons (.var 4) .nil)))))) (.cons (.ret (.cst (.bl false))) .nil) .nil
def T_law18 : CS := .ret (.call 104 (.cons (.var 0) (.cons (.var 1) (.cons (.var 2) (.cons (.var 4) .nil)))))
def F_law : Fn := ⟨1, 13, (.cons (T_law1) (.cons (T_law2) (.cons (T_law3) (.cons (T_law4) (.cons (T_law5) (.cons (T_law6) (.cons (T_law7) (.cons (T_law8) (.cons (T_law9) (.cons (T_law11) (.cons (.frz 6) (.cons (T_law12) (.cons (T_law16) (.cons (T_law17) (.cons (T_law18) .nil)))))))))))))))⟩
def tabL : List (Nat × Fn) := [(0, F_is_int), (1, F_is_cycle), (2, F_has_set), (3, F_check_cycle), (7, F_move_by), (9, F_find_period), (56, F_check_rhythms), (57, F_all_tiles), (58, F_is_tile), (59, F_is_tiling), (60, F_count_covers), (36, F_check_small), (61, F_find_count), (62, F_can_tile), (63, F_count_tilings), (64, F_first_tiling), (65, F_needed_rhythms), (66, F_law_drawn), (67, F_law_set), (68, F_law_rhythm), (17, F_law_move), (99, F_law_badcycle), (100, F_law_badset), (101, F_law_error), (96, F_law_tiles), (102, F_law_tilings), (103, F_law_beyond), (104, F_law_rejected), (19, F_law)]
def G : Tab := fun f => tabL.lookup f
theorem U_is_int (k : Nat) (a0 a1 a2 : D) : run G (k + 1) 0 [a0, a1, a2] = outR (exs (run G k) F_is_int.body [.val a0, .val a1, .val a2]) := rfl
theorem U_is_cycle (k : Nat) (a0 : D) : run G (k + 1) 1 [a0] = outR (exs (run G k) F_is_cycle.body [.val a0]) := rfl
theorem U_has_set (k : Nat) (a0 a1 : D) : run G (k + 1) 2 [a0, a1] = outR (exs (run G k) F_has_set.body [.val a0, .val a1, .no, .no, .no]) := rfl
theorem U_check_cycle (k : Nat) (a0 : D) : run G (k + 1) 3 [a0] = outR (exs (run G k) F_check_cycle.body [.val a0]) := rfl
theorem U_move_by (k : Nat) (a0 a1 a2 : D) : run G (k + 1) 7 [a0, a1, a2] = outR (exs (run G k) F_move_by.body [.val a0, .val a1, .val a2, .no]) := rfl
theorem U_find_period (k : Nat) (a0 a1 : D) : run G (k + 1) 9 [a0, a1] = outR (exs (run G k) F_find_period.body [.val a0, .val a1, .no]) := rfl
theorem U_check_rhythms (k : Nat) (a0 a1 : D) : run G (k + 1) 56 [a0, a1] = outR (exs (run G k) F_check_rhythms.body [.val a0, .val a1, .no]) := rfl
theorem U_all_tiles (k : Nat) (a0 a1 : D) : run G (k + 1) 57 [a0, a1] = outR (exs (run G k) F_all_tiles.body [.val a0, .val a1, .no, .no, .no, .no]) := rfl
theorem U_is_tile (k : Nat) (a0 a1 a2 : D) : run G (k + 1) 58 [a0, a1, a2] = outR (exs (run G k) F_is_tile.body [.val a0, .val a1, .val a2]) := rfl
theorem U_is_tiling (k : Nat) (a0 a1 a2 : D) : run G (k + 1) 59 [a0, a1, a2] = outR (exs (run G k) F_is_tiling.body [.val a0, .val a1, .val a2, .no, .no, .no, .no, .no, .no, .no]) := rfl
theorem U_count_covers (k : Nat) (a0 a1 : D) : run G (k + 1) 60 [a0, a1] = outR (exs (run G k) F_count_covers.body [.val a0, .val a1, .no, .no, .no, .no, .no]) := rfl
theorem U_check_small (k : Nat) (a0 a1 : D) : run G (k + 1) 36 [a0, a1] = outR (exs (run G k) F_check_small.body [.val a0, .val a1]) := rfl
theorem U_find_count (k : Nat) (a0 a1 : D) : run G (k + 1) 61 [a0, a1] = outR (exs (run G k) F_find_count.body [.val a0, .val a1]) := rfl
theorem U_can_tile (k : Nat) (a0 a1 : D) : run G (k + 1) 62 [a0, a1] = outR (exs (run G k) F_can_tile.body [.val a0, .val a1]) := rfl
theorem U_count_tilings (k : Nat) (a0 a1 : D) : run G (k + 1) 63 [a0, a1] = outR (exs (run G k) F_count_tilings.body [.val a0, .val a1]) := rfl
theorem U_first_tiling (k : Nat) (a0 a1 : D) : run G (k + 1) 64 [a0, a1] = outR (exs (run G k) F_first_tiling.body [.val a0, .val a1, .no, .no, .no, .no, .no, .no, .no]) := rfl
theorem U_needed_rhythms (k : Nat) (a0 a1 : D) : run G (k + 1) 65 [a0, a1] = outR (exs (run G k) F_needed_rhythms.body [.val a0, .val a1, .no, .no, .no, .no]) := rfl
theorem U_law_drawn (k : Nat) (a0 a1 a2 : D) : run G (k + 1) 66 [a0, a1, a2] = outR (exs (run G k) F_law_drawn.body [.val a0, .val a1, .val a2, .no, .no, .no]) := rfl
theorem U_law_set (k : Nat) (a0 a1 a2 : D) : run G (k + 1) 67 [a0, a1, a2] = outR (exs (run G k) F_law_set.body [.val a0, .val a1, .val a2, .no, .no]) := rfl
theorem U_law_rhythm (k : Nat) (a0 a1 a2 : D) : run G (k + 1) 68 [a0, a1, a2] = outR (exs (run G k) F_law_rhythm.body [.val a0, .val a1, .val a2, .no, .no, .no, .no]) := rfl
theorem U_law_move (k : Nat) (a0 a1 a2 : D) : run G (k + 1) 17 [a0, a1, a2] = outR (exs (run G k) F_law_move.body [.val a0, .val a1, .val a2, .no]) := rfl
theorem U_law_badcycle (k : Nat) (a0 a1 : D) : run G (k + 1) 99 [a0, a1] = outR (exs (run G k) F_law_badcycle.body [.val a0, .val a1]) := rfl
theorem U_law_badset (k : Nat) (a0 a1 a2 : D) : run G (k + 1) 100 [a0, a1, a2] = outR (exs (run G k) F_law_badset.body [.val a0, .val a1, .val a2]) := rfl
theorem U_law_error (k : Nat) (a0 a1 a2 a3 : D) : run G (k + 1) 101 [a0, a1, a2, a3] = outR (exs (run G k) F_law_error.body [.val a0, .val a1, .val a2, .val a3, .no]) := rfl
theorem U_law_tiles (k : Nat) (a0 a1 : D) : run G (k + 1) 96 [a0, a1] = outR (exs (run G k) F_law_tiles.body [.val a0, .val a1, .no, .no, .no, .no, .no, .no]) := rfl
theorem U_law_tilings (k : Nat) (a0 a1 : D) : run G (k + 1) 102 [a0, a1] = outR (exs (run G k) F_law_tilings.body [.val a0, .val a1, .no, .no, .no, .no, .no, .no]) := rfl
theorem U_law_beyond (k : Nat) (a0 a1 a2 a3 : D) : run G (k + 1) 103 [a0, a1, a2, a3] = outR (exs (run G k) F_law_beyond.body [.val a0, .val a1, .val a2, .val a3, .no, .no, .no, .no, .no, .no, .no, .no]) := rfl
theorem U_law_rejected (k : Nat) (a0 a1 a2 a3 : D) : run G (k + 1) 104 [a0, a1, a2, a3] = outR (exs (run G k) F_law_rejected.body [.val a0, .val a1, .val a2, .val a3, .no, .no, .no, .no, .no, .no, .no]) := rfl
theorem U_law (k : Nat) (a0 : D) : run G (k + 1) 19 [a0] = outR (exs (run G k) F_law.body [.val a0, .no, .no, .no, .no, .no, .no, .no, .no, .no, .no, .no, .no]) := rfl
end Cl
set_option Elab.async false
set_option linter.all false
set_option maxRecDepth 100000
set_option maxHeartbeats 4000000
namespace Cl
open PySem PySem.Spec PyProof.Rows L2
def top (i : Nat) : Stmt := PySem.Challenge.pw_clapcanons_k52_several.main.body.getD i (.Pass ⟨0, 0, 0, 0⟩)
def E_is_int : FnE := ⟨"is_int", ["value", "least", "most"], ["value", "least", "most"], defArgs (top 7), defBody (top 7), defScope (top 7), F_is_int, none⟩
theorem B_is_int : BindP E_is_int := fun _ _ _ _ _ _ us hl => match us, hl with | [_, _, _], _ => rfl
def E_is_cycle : FnE := ⟨"is_cycle", ["candidate"], ["candidate"], defArgs (top 8), defBody (top 8), defScope (top 8), F_is_cycle, none⟩
theorem B_is_cycle : BindP E_is_cycle := fun _ _ _ _ _ _ us hl => match us, hl with | [_], _ => rfl
def E_has_set : FnE := ⟨"has_set", ["cycle", "candidate"], ["cycle", "candidate", "beat", "one", "other"], defArgs (top 9), defBody (top 9), defScope (top 9), F_has_set, none⟩
theorem B_has_set : BindP E_has_set := fun _ _ _ _ _ _ us hl => match us, hl with | [_, _], _ => rfl
def E_check_cycle : FnE := ⟨"check_cycle", ["value"], ["value"], defArgs (top 10), defBody (top 10), defScope (top 10), F_check_cycle, none⟩
theorem B_check_cycle : BindP E_check_cycle := fun _ _ _ _ _ _ us hl => match us, hl with | [_], _ => rfl
def E_move_by : FnE := ⟨"move_by", ["cycle", "beats", "number"], ["cycle", "beats", "number", "beat"], defArgs (top 11), defBody (top 11), defScope (top 11), F_move_by, none⟩
theorem B_move_by : BindP E_move_by := fun _ _ _ _ _ _ us hl => match us, hl with | [_, _, _], _ => rfl
def E_find_period : FnE := ⟨"find_period", ["cycle", "beats"], ["cycle", "beats", "part"], defArgs (top 12), defBody (top 12), defScope (top 12), F_find_period, none⟩
theorem B_find_period : BindP E_find_period := fun _ _ _ _ _ _ us hl => match us, hl with | [_, _], _ => rfl
def E_check_rhythms : FnE := ⟨"check_rhythms", ["cycle", "value"], ["cycle", "value", "rhythm"], defArgs (top 16), defBody (top 16), defScope (top 16), F_check_rhythms, none⟩
theorem B_check_rhythms : BindP E_check_rhythms := fun _ _ _ _ _ _ us hl => match us, hl with | [_, _], _ => rfl
def E_all_tiles : FnE := ⟨"all_tiles", ["cycle", "rhythms"], ["cycle", "rhythms", "found", "index", "rhythm", "start"], defArgs (top 17), defBody (top 17), defScope (top 17), F_all_tiles, none⟩
theorem B_all_tiles : BindP E_all_tiles := fun _ _ _ _ _ _ us hl => match us, hl with | [_, _], _ => rfl
def E_is_tile : FnE := ⟨"is_tile", ["cycle", "rhythms", "value"], ["cycle", "rhythms", "value"], defArgs (top 18), defBody (top 18), defScope (top 18), F_is_tile, none⟩
theorem B_is_tile : BindP E_is_tile := fun _ _ _ _ _ _ us hl => match us, hl with | [_, _, _], _ => rfl
def E_is_tiling : FnE := ⟨"is_tiling", ["cycle", "rhythms", "candidate"], ["cycle", "rhythms", "candidate", "tile", "one", "other", "beats", "index", "start", "beat"], defArgs (top 19), defBody (top 19), defScope (top 19), F_is_tiling, none⟩
theorem B_is_tiling : BindP E_is_tiling := fun _ _ _ _ _ _ us hl => match us, hl with | [_, _, _], _ => rfl
def E_count_covers : FnE := ⟨"count_covers", ["tiles", "left", "known"], ["tiles", "left", "known", "total", "name", "beats", "beat"], defArgs (top 20), defBody (top 20), defScope (top 20), F_count_covers, some M_count_covers⟩
theorem B_count_covers : BindP E_count_covers := fun _ _ _ _ _ _ us hl => match us, hl with | [_, _, _], _ => rfl
def E_check_small : FnE := ⟨"check_small", ["cycle", "rhythms"], ["cycle", "rhythms"], defArgs (top 21), defBody (top 21), defScope (top 21), F_check_small, none⟩
theorem B_check_small : BindP E_check_small := fun _ _ _ _ _ _ us hl => match us, hl with | [_, _], _ => rfl
def E_find_count : FnE := ⟨"find_count", ["cycle", "rhythms"], ["cycle", "rhythms"], defArgs (top 22), defBody (top 22), defScope (top 22), F_find_count, none⟩
theorem B_find_count : BindP E_find_count := fun _ _ _ _ _ _ us hl => match us, hl with | [_, _], _ => rfl
def E_can_tile : FnE := ⟨"can_tile", ["cycle", "rhythms"], ["cycle", "rhythms"], defArgs (top 23), defBody (top 23), defScope (top 23), F_can_tile, none⟩
theorem B_can_tile : BindP E_can_tile := fun _ _ _ _ _ _ us hl => match us, hl with | [_, _], _ => rfl
def E_count_tilings : FnE := ⟨"count_tilings", ["cycle", "rhythms"], ["cycle", "rhythms"], defArgs (top 24), defBody (top 24), defScope (top 24), F_count_tilings, none⟩
theorem B_count_tilings : BindP E_count_tilings := fun _ _ _ _ _ _ us hl => match us, hl with | [_, _], _ => rfl
def E_first_tiling : FnE := ⟨"first_tiling", ["cycle", "rhythms"], ["cycle", "rhythms", "tiles", "left", "found", "name", "beats", "rest", "beat"], defArgs (top 25), defBody (top 25), defScope (top 25), F_first_tiling, none⟩
theorem B_first_tiling : BindP E_first_tiling := fun _ _ _ _ _ _ us hl => match us, hl with | [_, _], _ => rfl
def E_needed_rhythms : FnE := ⟨"needed_rhythms", ["cycle", "rhythms"], ["cycle", "rhythms", "found", "index", "tiles", "tile"], defArgs (top 26), defBody (top 26), defScope (top 26), F_needed_rhythms, none⟩
theorem B_needed_rhythms : BindP E_needed_rhythms := fun _ _ _ _ _ _ us hl => match us, hl with | [_, _], _ => rfl
def E_law_drawn : FnE := ⟨"_law_drawn", ["script", "k", "many"], ["script", "k", "many", "cell", "turn", "rest"], defArgs (top 28), defBody (top 28), defScope (top 28), F_law_drawn, none⟩
theorem B_law_drawn : BindP E_law_drawn := fun _ _ _ _ _ _ us hl => match us, hl with | [_, _, _], _ => rfl
def E_law_set : FnE := ⟨"_law_set", ["script", "at", "cycle"], ["script", "at", "cycle", "found", "beat"], defArgs (top 29), defBody (top 29), defScope (top 29), F_law_set, none⟩
theorem B_law_set : BindP E_law_set := fun _ _ _ _ _ _ us hl => match us, hl with | [_, _, _], _ => rfl
def E_law_rhythm : FnE := ⟨"_law_rhythm", ["script", "at", "cycle"], ["script", "at", "cycle", "part", "size", "found", "beat"], defArgs (top 30), defBody (top 30), defScope (top 30), F_law_rhythm, none⟩
theorem B_law_rhythm : BindP E_law_rhythm := fun _ _ _ _ _ _ us hl => match us, hl with | [_, _, _], _ => rfl
def E_law_move : FnE := ⟨"_law_move", ["cycle", "beats", "number"], ["cycle", "beats", "number", "beat"], defArgs (top 31), defBody (top 31), defScope (top 31), F_law_move, none⟩
theorem B_law_move : BindP E_law_move := fun _ _ _ _ _ _ us hl => match us, hl with | [_, _, _], _ => rfl
def E_law_badcycle : FnE := ⟨"_law_badcycle", ["script", "at"], ["script", "at"], defArgs (top 32), defBody (top 32), defScope (top 32), F_law_badcycle, none⟩
theorem B_law_badcycle : BindP E_law_badcycle := fun _ _ _ _ _ _ us hl => match us, hl with | [_, _], _ => rfl
def E_law_badset : FnE := ⟨"_law_badset", ["script", "at", "cycle"], ["script", "at", "cycle"], defArgs (top 33), defBody (top 33), defScope (top 33), F_law_badset, none⟩
theorem B_law_badset : BindP E_law_badset := fun _ _ _ _ _ _ us hl => match us, hl with | [_, _, _], _ => rfl
def E_law_error : FnE := ⟨"_law_error", ["way", "one", "two", "three"], ["way", "one", "two", "three", "e"], defArgs (top 34), defBody (top 34), defScope (top 34), F_law_error, none⟩
theorem B_law_error : BindP E_law_error := fun _ _ _ _ _ _ us hl => match us, hl with | [_, _, _, _], _ => rfl
def E_law_tiles : FnE := ⟨"_law_tiles", ["cycle", "rhythms"], ["cycle", "rhythms", "found", "index", "rhythm", "held", "start", "beats"], defArgs (top 35), defBody (top 35), defScope (top 35), F_law_tiles, none⟩
theorem B_law_tiles : BindP E_law_tiles := fun _ _ _ _ _ _ us hl => match us, hl with | [_, _], _ => rfl
def E_law_tilings : FnE := ⟨"_law_tilings", ["tiles", "left"], ["tiles", "left", "found", "name", "beats", "beat", "rest", "some"], defArgs (top 36), defBody (top 36), defScope (top 36), F_law_tilings, none⟩
theorem B_law_tilings : BindP E_law_tilings := fun _ _ _ _ _ _ us hl => match us, hl with | [_, _], _ => rfl
def E_law_beyond : FnE := ⟨"_law_beyond", ["cycle", "rhythms", "tiles", "rows"], ["cycle", "rhythms", "tiles", "rows", "row", "index", "start", "other", "name", "beats", "rest", "tile"], defArgs (top 37), defBody (top 37), defScope (top 37), F_law_beyond, none⟩
theorem B_law_beyond : BindP E_law_beyond := fun _ _ _ _ _ _ us hl => match us, hl with | [_, _, _, _], _ => rfl
def E_law_rejected : FnE := ⟨"_law_rejected", ["script", "cycle", "rhythms", "rows"], ["script", "cycle", "rhythms", "rows", "odd", "bad", "refused", "wrong", "one", "told", "way"], defArgs (top 38), defBody (top 38), defScope (top 38), F_law_rejected, none⟩
theorem B_law_rejected : BindP E_law_rejected := fun _ _ _ _ _ _ us hl => match us, hl with | [_, _, _, _], _ => rfl
def E_law : FnE := ⟨"law", ["script"], ["script", "cycle", "rhythms", "tiles", "rows", "some", "due", "index", "row", "name", "start", "k", "beats"], defArgs (top 39), defBody (top 39), defScope (top 39), F_law, none⟩
theorem B_law : BindP E_law := fun _ _ _ _ _ _ us hl => match us, hl with | [_], _ => rfl
abbrev L : Lst := [(0, E_is_int), (1, E_is_cycle), (2, E_has_set), (3, E_check_cycle), (7, E_move_by), (9, E_find_period), (56, E_check_rhythms), (57, E_all_tiles), (58, E_is_tile), (59, E_is_tiling), (60, E_count_covers), (36, E_check_small), (61, E_find_count), (62, E_can_tile), (63, E_count_tilings), (64, E_first_tiling), (65, E_needed_rhythms), (66, E_law_drawn), (67, E_law_set), (68, E_law_rhythm), (17, E_law_move), (99, E_law_badcycle), (100, E_law_badset), (101, E_law_error), (96, E_law_tiles), (102, E_law_tilings), (103, E_law_beyond), (104, E_law_rejected), (19, E_law)]
abbrev csts : List (Str × Cst) := [("MAX_CYCLE_beats", (.int 24)), ("MAX_RHYTHMS", (.int 3)), ("MAX_CYCLE_several", (.int 12))]
abbrev exns : List (Nat × Str) := [(0, "CanonError"), (1, "InvalidCycle"), (10, "TooLarge"), (11, "InvalidRhythms")]
theorem tab_eq : Lst.tab L = G := funext fun f => tab_map L f
theorem O_is_int : okF (ctxOf L csts exns) 0 E_is_int = true := by decide +kernel
theorem O_is_cycle : okF (ctxOf L csts exns) 1 E_is_cycle = true := by decide +kernel
theorem O_has_set : okF (ctxOf L csts exns) 2 E_has_set = true := by decide +kernel
theorem O_check_cycle : okF (ctxOf L csts exns) 3 E_check_cycle = true := by decide +kernel
theorem O_move_by : okF (ctxOf L csts exns) 7 E_move_by = true := by decide +kernel
theorem O_find_period : okF (ctxOf L csts exns) 9 E_find_period = true := by decide +kernel
theorem O_check_rhythms : okF (ctxOf L csts exns) 56 E_check_rhythms = true := by decide +kernel
theorem O_all_tiles : okF (ctxOf L csts exns) 57 E_all_tiles = true := by decide +kernel
theorem O_is_tile : okF (ctxOf L csts exns) 58 E_is_tile = true := by decide +kernel
theorem O_is_tiling : okF (ctxOf L csts exns) 59 E_is_tiling = true := by decide +kernel
theorem O_count_covers : okF (ctxOf L csts exns) 60 E_count_covers = true := by decide +kernel
theorem O_check_small : okF (ctxOf L csts exns) 36 E_check_small = true := by decide +kernel
theorem O_find_count : okF (ctxOf L csts exns) 61 E_find_count = true := by decide +kernel
theorem O_can_tile : okF (ctxOf L csts exns) 62 E_can_tile = true := by decide +kernel
theorem O_count_tilings : okF (ctxOf L csts exns) 63 E_count_tilings = true := by decide +kernel
theorem O_first_tiling : okF (ctxOf L csts exns) 64 E_first_tiling = true := by decide +kernel
theorem O_needed_rhythms : okF (ctxOf L csts exns) 65 E_needed_rhythms = true := by decide +kernel
theorem O_law_drawn : okF (ctxOf L csts exns) 66 E_law_drawn = true := by decide +kernel
theorem O_law_set : okF (ctxOf L csts exns) 67 E_law_set = true := by decide +kernel
theorem O_law_rhythm : okF (ctxOf L csts exns) 68 E_law_rhythm = true := by decide +kernel
theorem O_law_move : okF (ctxOf L csts exns) 17 E_law_move = true := by decide +kernel
theorem O_law_badcycle : okF (ctxOf L csts exns) 99 E_law_badcycle = true := by decide +kernel
theorem O_law_badset : okF (ctxOf L csts exns) 100 E_law_badset = true := by decide +kernel
theorem O_law_error : okF (ctxOf L csts exns) 101 E_law_error = true := by decide +kernel
theorem O_law_tiles : okF (ctxOf L csts exns) 96 E_law_tiles = true := by decide +kernel
theorem O_law_tilings : okF (ctxOf L csts exns) 102 E_law_tilings = true := by decide +kernel
theorem O_law_beyond : okF (ctxOf L csts exns) 103 E_law_beyond = true := by decide +kernel
theorem O_law_rejected : okF (ctxOf L csts exns) 104 E_law_rejected = true := by decide +kernel
theorem O_law : okF (ctxOf L csts exns) 19 E_law = true := by decide +kernel
theorem okL : ∀ p ∈ L, okF (ctxOf L csts exns) p.1 p.2 = true := (List.forall_mem_cons.mpr ⟨O_is_int, (List.forall_mem_cons.mpr ⟨O_is_cycle, (List.forall_mem_cons.mpr ⟨O_has_set, (List.forall_mem_cons.mpr ⟨O_check_cycle, (List.forall_mem_cons.mpr ⟨O_move_by, (List.forall_mem_cons.mpr ⟨O_find_period, (List.forall_mem_cons.mpr ⟨O_check_rhythms, (List.forall_mem_cons.mpr ⟨O_all_tiles, (List.forall_mem_cons.mpr ⟨O_is_tile, (List.forall_mem_cons.mpr ⟨O_is_tiling, (List.forall_mem_cons.mpr ⟨O_count_covers, (List.forall_mem_cons.mpr ⟨O_check_small, (List.forall_mem_cons.mpr ⟨O_find_count, (List.forall_mem_cons.mpr ⟨O_can_tile, (List.forall_mem_cons.mpr ⟨O_count_tilings, (List.forall_mem_cons.mpr ⟨O_first_tiling, (List.forall_mem_cons.mpr ⟨O_needed_rhythms, (List.forall_mem_cons.mpr ⟨O_law_drawn, (List.forall_mem_cons.mpr ⟨O_law_set, (List.forall_mem_cons.mpr ⟨O_law_rhythm, (List.forall_mem_cons.mpr ⟨O_law_move, (List.forall_mem_cons.mpr ⟨O_law_badcycle, (List.forall_mem_cons.mpr ⟨O_law_badset, (List.forall_mem_cons.mpr ⟨O_law_error, (List.forall_mem_cons.mpr ⟨O_law_tiles, (List.forall_mem_cons.mpr ⟨O_law_tilings, (List.forall_mem_cons.mpr ⟨O_law_beyond, (List.forall_mem_cons.mpr ⟨O_law_rejected, (List.forall_mem_cons.mpr ⟨O_law, (fun _ h => nomatch h)⟩)⟩)⟩)⟩)⟩)⟩)⟩)⟩)⟩)⟩)⟩)⟩)⟩)⟩)⟩)⟩)⟩)⟩)⟩)⟩)⟩)⟩)⟩)⟩)⟩)⟩)⟩)⟩)⟩)
theorem bindL : ∀ p ∈ L, BindP p.2 := (List.forall_mem_cons.mpr ⟨B_is_int, (List.forall_mem_cons.mpr ⟨B_is_cycle, (List.forall_mem_cons.mpr ⟨B_has_set, (List.forall_mem_cons.mpr ⟨B_check_cycle, (List.forall_mem_cons.mpr ⟨B_move_by, (List.forall_mem_cons.mpr ⟨B_find_period, (List.forall_mem_cons.mpr ⟨B_check_rhythms, (List.forall_mem_cons.mpr ⟨B_all_tiles, (List.forall_mem_cons.mpr ⟨B_is_tile, (List.forall_mem_cons.mpr ⟨B_is_tiling, (List.forall_mem_cons.mpr ⟨B_count_covers, (List.forall_mem_cons.mpr ⟨B_check_small, (List.forall_mem_cons.mpr ⟨B_find_count, (List.forall_mem_cons.mpr ⟨B_can_tile, (List.forall_mem_cons.mpr ⟨B_count_tilings, (List.forall_mem_cons.mpr ⟨B_first_tiling, (List.forall_mem_cons.mpr ⟨B_needed_rhythms, (List.forall_mem_cons.mpr ⟨B_law_drawn, (List.forall_mem_cons.mpr ⟨B_law_set, (List.forall_mem_cons.mpr ⟨B_law_rhythm, (List.forall_mem_cons.mpr ⟨B_law_move, (List.forall_mem_cons.mpr ⟨B_law_badcycle, (List.forall_mem_cons.mpr ⟨B_law_badset, (List.forall_mem_cons.mpr ⟨B_law_error, (List.forall_mem_cons.mpr ⟨B_law_tiles, (List.forall_mem_cons.mpr ⟨B_law_tilings, (List.forall_mem_cons.mpr ⟨B_law_beyond, (List.forall_mem_cons.mpr ⟨B_law_rejected, (List.forall_mem_cons.mpr ⟨B_law, (fun _ h => nomatch h)⟩)⟩)⟩)⟩)⟩)⟩)⟩)⟩)⟩)⟩)⟩)⟩)⟩)⟩)⟩)⟩)⟩)⟩)⟩)⟩)⟩)⟩)⟩)⟩)⟩)⟩)⟩)⟩)⟩)
abbrev hk : W.Hook := hookE 4 (Lst.fas L csts exns) (Lst.dds L) (xB exns)
def ob (s : W.SharedT) : He.AlD × Bool := obE 4 (Lst.fas L csts exns) (Lst.dds L) (xB exns) (HandSHeadRun.getT s)
theorem ob_eq (s : W.SharedT) : ob s = hk.obs s.abs := obE_eq (HandSHeadRun.getT_eq s)
abbrev R0 : W.OpenRow := W.OpenLaw.row PySem.Challenge.rw_clapcanons_k52_several
def loose : List Str := [("__name__" : Str), ("CanonError" : Str), ("InvalidCycle" : Str), ("TooLarge" : Str), ("InvalidRhythms" : Str), ("MAX_CYCLE_beats" : Str), ("is_int" : Str), ("is_cycle" : Str), ("has_set" : Str), ("check_cycle" : Str), ("move_by" : Str), ("find_period" : Str), ("MAX_RHYTHMS" : Str), ("MAX_CYCLE_several" : Str), ("check_rhythms" : Str), ("all_tiles" : Str), ("is_tile" : Str), ("is_tiling" : Str), ("count_covers" : Str), ("check_small" : Str), ("find_count" : Str), ("can_tile" : Str), ("count_tilings" : Str), ("first_tiling" : Str), ("needed_rhythms" : Str), ("_law_drawn" : Str), ("_law_set" : Str), ("_law_rhythm" : Str), ("_law_move" : Str), ("_law_badcycle" : Str), ("_law_badset" : Str), ("_law_error" : Str), ("_law_tiles" : Str), ("_law_tilings" : Str), ("_law_beyond" : Str), ("_law_rejected" : Str)]
theorem headRun (w : World) : HandSHeadRun.RunEq R0 (W.view R0.prog [39]) hk ob 4000 loose w := by
  intro os
  kernel_rfl
end Cl
set_option Elab.async false
set_option linter.all false
set_option maxRecDepth 100000
set_option maxHeartbeats 1000000
namespace Cl
open PySem
/-! ### beats: what each function gives -/
def isInt (d : D) (a b : Int) : Bool := match d with
  | .int i => decide (a ≤ i) && decide (i ≤ b)
  | _ => false
theorem r_is_int {k : Nat} {d : D} {a b : Int} : run G (k + 1) 0 [d, .int a, .int b] = .ok (.bl (isInt d a b)) := by
  rw [U_is_int]
  cases d <;> simp [F_is_int, isiF, isInt]
  · split <;> simp [*]
theorem r_is_cycle {k : Nat} {d : D} : run G (k + 2) 1 [d] = .ok (.bl (isInt d 1 24)) := by
  rw [U_is_cycle]
  simp [F_is_cycle, r_is_int]
def hasSet (n : Int) : D → Bool
  | .tup ds => match ints? ds with
    | some l => setOk n l
    | none => false
  | _ => false
theorem deq_nil (ds : List D) : deq (.tup ds) (.tup []) = ds.isEmpty := by
  cases ds <;> simp [deq, D.pd, D.pds, PyData.eqv, PyData.eqvAll]
theorem allInt : ∀ (ds : List D) (n : Int), (ds.all fun d => isInt d 0 n) = match ints? ds with
    | some l => l.all (fun i => decide (0 ≤ i) && decide (i ≤ n))
    | none => false
  | [], n => rfl
  | d :: ds, n => by
    rw [List.all_cons, allInt ds n]
    cases d <;> simp [isInt, ints?]
    cases q : ints? ds <;> simp
theorem zip_up : ∀ (l : List Int) (x : Int), zipD ((x :: l).map D.int) (l.map D.int) = ((x :: l).zip l).map fun p => .tup [.int p.1, .int p.2]
  | [], x => rfl
  | y :: l, x => by
    have r := zip_up l y
    simp only [List.map_cons] at r ⊢
    rw [zipD, r]
    rfl
theorem up_zip : ∀ (l : List Int) (x : Int), up (x :: l) = ((x :: l).zip l).all fun p => decide (p.1 < p.2)
  | [], x => rfl
  | y :: l, x => by
    rw [up, up_zip l y]
    rfl
theorem cut1 {α : Type} (x : α) (l : List α) : cutD (x :: l) (some 1) none = l := by
  unfold cutD HT.sIx
  simp

def smallT : D → Bool
  | .tup ds => decide (ds.length ≤ lim)
  | _ => true
theorem r_has_set {k : Nat} {n : Int} {d : D} (hd : d.okD = true) (hs : smallT d = true) : run G (k + 2) 2 [.int n, d] = .ok (.bl (hasSet n d)) := by
  rw [U_has_set]
  cases d with
  | tup ds =>
    have h1 : ev (run G (k + 1)) C_has_set1 [.val (.int n), .val (.tup ds), .no, .no, .no] = .ok (.lst ((ds.map fun d => isInt d 0 (n - 1)).map D.bl)) := by
      unfold C_has_set1
      rw [lc_map (l := ds) (e := id) (d := fun d => D.bl (isInt d 0 (n - 1)))]
      · simp
      · simp
      · simpa [smallT] using hs
      · rfl
      · rfl
      · intro x hx
        simp [r_is_int]
    have e0 := deq_nil ds
    have e1 := allInt ds (n - 1)
    cases ds with
    | nil => simp [F_has_set, isiF, e0, hd, hasSet, ints?, setOk]
    | cons d0 dr =>
      rw [show hasSet n (.tup (d0 :: dr)) = (match ints? (d0 :: dr) with | some l => setOk n l | none => false) from rfl]
      cases q : ints? (d0 :: dr) with
      | none =>
        rw [q] at e1
        simp [-List.map_map, -List.map_cons, F_has_set, isiF, e0, hd, h1, List.all_map, Function.comp_def, e1]
      | some l =>
        rw [q] at e1
        have e2 := ints?_some q
        rw [e2] at h1 e0 hd hs e1 ⊢
        cases l with
        | nil => cases e2
        | cons x r =>
          have h2 : ev (run G (k + 1)) C_has_set2 [.val (.int n), .val (.tup ((x :: r).map D.int)), .no, .no, .no] = .ok (.lst ((((x :: r).zip r).map fun p => decide (p.1 < p.2)).map D.bl)) := by
            unfold C_has_set2
            rw [lc_map (l := (x :: r).zip r) (e := fun p => D.tup [.int p.1, .int p.2]) (d := fun p => D.bl (decide (p.1 < p.2)))]
            · simp
            · have := zip_up r x
              rw [List.map_cons] at this
              simp only [vi_zip, v_var, isBor_var, isBor_slc, v_slc]
              simp [-fold_tI, slcF, cut1, zipDD, this]
            · simp only [smallT, List.length_map, List.length_cons, decide_eq_true_eq] at hs
              simp; omega
            · rfl
            · rfl
            · intro p hp
              simp
          have e3 := up_zip r x
          have e4 : setOk n (x :: r) = (((x :: r).all fun i => decide (0 ≤ i) && decide (i ≤ n - 1)) && (((x :: r).zip r).all fun p => decide (p.1 < p.2))) := by
            rw [setOk, ← e3]
            rfl
          show _ = R.ok (D.bl (setOk n (x :: r)))
          rw [e4]
          cases hq : (x :: r).all fun i => decide (0 ≤ i) && decide (i ≤ n - 1) with
          | false =>
            have e5 : (((x :: r).map D.int).map fun d => isInt d 0 (n - 1)).all id = false := by
              rw [List.all_map]
              exact e1.trans hq
            simp only [F_has_set, xs_cons, x_ite, v_T, isTest_or, isTest_not, isTest_isi, isTest_one, isTest_cmp, Bool.and_self, if_true, v_or, v_not, v_isi, v_var, List.getElem?_cons_succ, List.getElem?_cons_zero, slotV_val]
            simp [-List.map_map, -List.map_cons, -fold_tI, isiF, e0, hd, h1, e5, bi_all]
          | true =>
            have e5 : (((x :: r).map D.int).map fun d => isInt d 0 (n - 1)).all id = true := by
              rw [List.all_map]
              exact e1.trans hq
            simp [-List.map_map, -List.map_cons, -fold_tI, F_has_set, isiF, e0, hd, h1, e5, h2, bi_all, List.all_map, Function.comp_def]
  | _ => simp [F_has_set, isiF, hasSet]

theorem small_t {l : List Int} (h : l.length ≤ lim) : smallT (tI l) = true := by
  show decide ((l.map D.int).length ≤ lim) = true
  simpa using h
theorem hasSet_t {n : Int} {l : List Int} : hasSet n (tI l) = setOk n l := by
  unfold tI hasSet
  simp only [ints?_map]
theorem len_lim {n : Int} {l : List Int} (h : IsSet n l) (hn : n ≤ 100000) : l.length ≤ lim := by
  have := h.len
  unfold lim
  omega
theorem r_has_set_t {k : Nat} {n : Int} {l : List Int} (hl : l.length ≤ lim) : run G (k + 2) 2 [.int n, tI l] = .ok (.bl (setOk n l)) := by
  rw [r_has_set (ok_t l) (small_t hl), hasSet_t]
theorem r_check_cycle {k : Nat} {d : D} : run G (k + 3) 3 [d] = if isInt d 1 24 then .ok .non else .exc 1 := by
  rw [U_check_cycle]
  simp [F_check_cycle, r_is_cycle]
  cases isInt d 1 24 <;> simp
theorem r_move_by {k : Nat} {n m : Int} {l : List Int} (h : IsSet n l) (hn : n ≤ 100000) : run G (k + 1) 7 [.int n, tI l, .int m] = .ok (tI (mv n l m)) := by
  rw [U_move_by]
  have hl := len_lim h hn
  have h1 : ev (run G k) C_move_by1 [.val (.int n), .val (tI l), .val (.int m), .no] = .ok (.lst ((l.map fun b => (b + m) % n).map D.int)) := by
    unfold C_move_by1
    rw [lc_map (l := l) (e := D.int) (d := fun b => D.int ((b + m) % n))]
    · simp
    · simp
    · exact hl
    · rfl
    · rfl
    · intro x hx
      simp [b_mod _ _ h.pos]
  simp [-List.map_map, F_move_by, h1, bi_sorted _ (show (l.map fun b => (b + m) % n).length ≤ lim by simpa using hl), h.srt_mv]
/-- the numbers by which l moves onto itself, among the divisors -/
def pds (n : Int) (l : List Int) : List Int := (rgI 1 (n + 1)).filter fun p => decide (n % p = 0) && decide (mv n l p = l)
def per (n : Int) (l : List Int) : Int := (pds n l).headD 0
theorem pds_ne {n : Int} {l : List Int} (h : IsSet n l) : pds n l ≠ [] := by
  have hp := h.pos
  refine List.ne_nil_of_mem (a := n) ?_
  unfold pds
  rw [List.mem_filter, mem_rgI]
  simp [h.mvn]
  omega
theorem r_find_period {k : Nat} {n : Int} {l : List Int} (h : IsSet n l) (hn : n ≤ 10000) : run G (k + 2) 9 [.int n, tI l] = .ok (.int (per n l)) := by
  rw [U_find_period]
  have hp := h.pos
  have h1 : ev (run G (k + 1)) C_find_period1 [.val (.int n), .val (tI l), .no] = .ok (.lst ((pds n l).map D.int)) := by
    unfold C_find_period1
    rw [lc_filter (l := rgI 1 (n + 1)) (e := D.int) (d := D.int) (c := fun p => decide (n % p = 0) && decide (mv n l p = l))]
    · rfl
    · simp [rgD_is 1 (n + 1) (by omega)]
    · simp; unfold lim; omega
    · rfl
    · rfl
    · intro x hx
      have := mem_rgI.mp hx
      simp [b_mod n x (by omega), r_move_by h (show n ≤ 100000 by omega)]
      split <;> simp [*]
    · intro x hx _
      simp
  have h2 := pds_ne h
  simp [F_find_period, h1]
  unfold per
  cases q : pds n l with
  | nil => exact absurd q h2
  | cons x r => simp
/-- all that l moves to; the least of them -/
def orb (n : Int) (l : List Int) : List (List Int) := (rgI 0 n).map (mv n l)
def lst (n : Int) (l : List Int) : List Int := minT ((orb n l).headD []) (orb n l).tail
theorem orb_cons {n : Int} {l : List Int} (hn : 0 < n) : orb n l = (orb n l).headD [] :: (orb n l).tail := by
  have : orb n l ≠ [] := by
    unfold orb
    rw [Ne, List.map_eq_nil_iff]
    exact List.ne_nil_of_mem (mem_rgI.mpr ⟨Int.le_refl 0, hn⟩)
  cases q : orb n l with
  | nil => exact absurd q this
  | cons x r => rfl
theorem orb_ne {n : Int} {l : List Int} (h : IsSet n l) : ∀ m ∈ orb n l, m ≠ [] := fun m hm => by
  unfold orb at hm
  obtain ⟨a, _, rfl⟩ := List.mem_map.mp hm
  exact (h.mv a).ne
theorem min_orb {n : Int} {l : List Int} (h : IsSet n l) : biF .min [.lst ((orb n l).map tI)] = some (tI (lst n l)) := by
  have := bi_minT ((orb n l).headD []) (orb n l).tail (by rw [← orb_cons h.pos]; exact orb_ne h)
  rw [← orb_cons h.pos] at this
  exact this
end Cl
set_option Elab.async false
set_option linter.all false
set_option maxRecDepth 100000
set_option maxHeartbeats 1000000
namespace Cl
open PySem
/-! ### what moves a set onto itself -/
section
variable {n : Int} {l : List Int} (h : IsSet n l)
include h
theorem st_add {a b : Int} (ha : mv n l a = l) (hb : mv n l b = l) : mv n l (a + b) = l := by
  rw [← mv_add h.pos, ha, hb]
theorem st_neg {a : Int} (ha : mv n l a = l) : mv n l (-a) = l := by
  have e : mv n (mv n l a) (-a) = l := by
    rw [mv_add h.pos, Int.add_right_neg, h.mv0]
  rwa [ha] at e
theorem st_nat {a : Int} (ha : mv n l a = l) : ∀ k : Nat, mv n l (a * k) = l
  | 0 => by simpa using h.mv0
  | k + 1 => by
    have e : a * ((k + 1 : Nat) : Int) = a * k + a := by
      rw [Int.natCast_add, Int.mul_add]
      simp
    rw [e]
    exact st_add h (st_nat ha k) ha
theorem st_mul {a : Int} (ha : mv n l a = l) (k : Int) : mv n l (a * k) = l := by
  rcases Int.le_total 0 k with hk | hk
  · have := st_nat h ha k.toNat
    rwa [Int.toNat_of_nonneg hk] at this
  · have := st_neg h (st_nat h ha (-k).toNat)
    rw [Int.toNat_of_nonneg (by omega)] at this
    rwa [Int.mul_neg, Int.neg_neg] at this
theorem st_mod {a b : Int} (ha : mv n l a = l) (hb : mv n l b = l) : mv n l (a % b) = l := by
  have e : a % b = a + -(b * (a / b)) := by
    have := Int.emod_add_mul_ediv a b
    omega
  rw [e]
  exact st_add h ha (st_neg h (st_mul h hb _))
theorem st_gcd (a b : Nat) : mv n l a = l → mv n l b = l → mv n l (Nat.gcd a b : Nat) = l := by
  induction a, b using Nat.gcd.induction with
  | H0 b =>
    intro _ hb
    simpa using hb
  | H1 a b ha ih =>
    intro h1 h2
    rw [Nat.gcd_rec]
    refine ih ?_ h1
    have := st_mod h h2 h1
    rwa [← Int.natCast_emod] at this
theorem per_mem : per n l ∈ pds n l := by
  have := pds_ne h
  unfold per
  cases q : pds n l with
  | nil => exact absurd q this
  | cons x r => simp
theorem per_le : ∀ q ∈ pds n l, per n l ≤ q := by
  have hp : (pds n l).Pairwise (· < ·) := flt_pw _ _ _
  unfold per
  cases e : pds n l with
  | nil => simp
  | cons x r =>
    intro q hq
    rw [e] at hp
    rcases List.mem_cons.mp hq with rfl | hq
    · simp
    · have := (List.pairwise_cons.mp hp).1 q hq
      simp
      omega
theorem per_facts : 1 ≤ per n l ∧ per n l ≤ n ∧ n % per n l = 0 ∧ mv n l (per n l) = l := by
  have h1 := List.mem_filter.mp (per_mem h)
  have h2 := mem_rgI.mp h1.1
  have h3 := h1.2
  simp only [Bool.and_eq_true, decide_eq_true_eq] at h3
  exact ⟨h2.1, by omega, h3.1, h3.2⟩
theorem per_dvd {a : Int} (ha : mv n l a = l) : per n l ∣ a := by
  obtain ⟨h1, h2, h3, h4⟩ := per_facts h
  have hn := h.pos
  -- the gcd of both
  have ha' : mv n l (a.natAbs : Int) = l := by
    rcases Int.natAbs_eq a with e | e
    · rwa [← e]
    · have := st_neg h ha
      rw [e, Int.neg_neg] at this
      exact this
  have hpn : ((per n l).natAbs : Int) = per n l := Int.natAbs_of_nonneg (by omega)
  have hg := st_gcd h (per n l).natAbs a.natAbs (by rw [hpn]; exact h4) ha'
  have d1 : ((Nat.gcd (per n l).natAbs a.natAbs : Nat) : Int) ∣ per n l := by
    rw [← hpn]
    exact Int.natCast_dvd_natCast.mpr (by simpa using Nat.gcd_dvd_left _ _)
  have d2 : ((Nat.gcd (per n l).natAbs a.natAbs : Nat) : Int) ∣ a := Int.dvd_natAbs.mp (Int.natCast_dvd_natCast.mpr (Nat.gcd_dvd_right _ _))
  have hle := Int.le_of_dvd (by omega) d1
  have hpos : 0 < ((Nat.gcd (per n l).natAbs a.natAbs : Nat) : Int) := by
    have : 0 < Nat.gcd (per n l).natAbs a.natAbs := Nat.gcd_pos_of_pos_left _ (by omega)
    omega
  have hmem : ((Nat.gcd (per n l).natAbs a.natAbs : Nat) : Int) ∈ pds n l := by
    refine List.mem_filter.mpr ⟨mem_rgI.mpr (by omega), ?_⟩
    simp only [Bool.and_eq_true, decide_eq_true_eq]
    exact ⟨Int.emod_eq_zero_of_dvd (Int.dvd_trans d1 (Int.dvd_of_emod_eq_zero h3)), hg⟩
  have := per_le h _ hmem
  have e : ((Nat.gcd (per n l).natAbs a.natAbs : Nat) : Int) = per n l := by omega
  rw [e] at d2
  exact d2
theorem mv_eq_iff {a b : Int} : mv n l a = mv n l b ↔ per n l ∣ a - b := by
  obtain ⟨h1, h2, h3, h4⟩ := per_facts h
  constructor
  · intro e
    refine per_dvd h ?_
    have : mv n (mv n l a) (-b) = mv n (mv n l b) (-b) := by rw [e]
    rw [mv_add h.pos, mv_add h.pos, Int.add_right_neg, h.mv0] at this
    rwa [Int.sub_eq_add_neg]
  · rintro ⟨k, hk⟩
    have e : a = per n l * k + b := by omega
    rw [e, ← mv_add h.pos, st_mul h h4]
theorem mem_orb {m : List Int} : m ∈ orb n l ↔ ∃ a, m = mv n l a := by
  unfold orb
  rw [List.mem_map]
  constructor
  · rintro ⟨a, _, rfl⟩
    exact ⟨a, rfl⟩
  · rintro ⟨a, rfl⟩
    refine ⟨a % n, mem_rgI.mpr ⟨Int.emod_nonneg _ (by have := h.pos; omega), Int.emod_lt_of_pos _ h.pos⟩, mv_mod _ _⟩
theorem orb_get {j : Nat} (hj : (j : Int) < n) : (orb n l)[j]? = some (mv n l j) := by
  unfold orb rgI
  rw [List.getElem?_map, List.getElem?_map, List.getElem?_range (by omega)]
  simp
theorem orb_idx {k : Int} (hk : 0 ≤ k ∧ k < n) : (orb n l).findIdx? (fun z => decide (z = mv n l k)) = some (k % per n l).toNat := by
  obtain ⟨h1, h2, h3, h4⟩ := per_facts h
  have hm := Int.emod_nonneg k (show per n l ≠ 0 by omega)
  have hm2 := Int.emod_lt_of_pos k (show 0 < per n l by omega)
  rw [List.findIdx?_eq_some_iff_getElem]
  have hlen : (orb n l).length = n.toNat := by simp [orb]
  refine ⟨by omega, ?_, fun j hj => ?_⟩
  · have g := orb_get h (j := (k % per n l).toNat) (by omega)
    rw [List.getElem?_eq_getElem (by omega)] at g
    rw [Option.some.inj g, Int.toNat_of_nonneg hm, decide_eq_true_eq, mv_eq_iff h]
    have := Int.emod_add_mul_ediv k (per n l)
    exact ⟨-(k / per n l), by rw [Int.mul_neg]; omega⟩
  · have g := orb_get h (j := j) (by omega)
    rw [List.getElem?_eq_getElem (by omega)] at g
    rw [Option.some.inj g]
    intro e
    rw [decide_eq_true_eq, mv_eq_iff h] at e
    have e1 := Int.emod_eq_emod_iff_emod_sub_eq_zero.mpr (Int.emod_eq_zero_of_dvd e)
    rw [Int.emod_eq_of_lt (by omega) (by omega)] at e1
    omega
end
theorem lst_iff {n : Int} {l m : List Int} (h : IsSet n l) (h' : IsSet n m) : lst n l = lst n m ↔ m ∈ orb n l := by
  have c1 := orb_cons (l := l) h.pos
  have c2 := orb_cons (l := m) h.pos
  constructor
  · intro e
    have m1 : lst n l ∈ orb n l := by
      rw [c1]
      exact minT_mem _ _
    have m2 : lst n m ∈ orb n m := by
      rw [c2]
      exact minT_mem _ _
    obtain ⟨a, ha⟩ := (mem_orb h).mp m1
    obtain ⟨b, hb⟩ := (mem_orb h').mp m2
    rw [mem_orb h]
    refine ⟨a + -b, ?_⟩
    rw [← mv_add h.pos, ← ha, e, hb, mv_add h.pos, Int.add_right_neg, h'.mv0]
  · intro hm
    obtain ⟨a, rfl⟩ := (mem_orb h).mp hm
    unfold lst
    refine minT_ext fun z => ?_
    rw [← c1, ← c2, mem_orb h, mem_orb h']
    constructor
    · rintro ⟨b, rfl⟩
      exact ⟨-a + b, by rw [mv_add h.pos]; congr 1; omega⟩
    · rintro ⟨b, rfl⟩
      exact ⟨a + b, by rw [mv_add h.pos]⟩

end Cl
set_option Elab.async false
set_option linter.all false
set_option maxRecDepth 100000
set_option maxHeartbeats 1000000
namespace Cl
open PySem
/-! ### canons: what each function gives -/
abbrev tkD (n : Int) (tk : Int → Bool) : D := .lst (((rgI 0 n).map tk).map D.bl)
theorem tk_idx {n x : Int} (tk : Int → Bool) (h : 0 ≤ x ∧ x < n) : idxF (tkD n tk) (.int x) = some (.bl (tk x)) := by
  unfold tkD
  rw [List.map_map]
  exact idx_lst h.1 (rg_get _ h)
section
variable {k : Nat} {n : Int} {r : List Int} (hn : 1 ≤ n ∧ n ≤ 24) (hr : IsSet n r)
include hn hr
end

end Cl
set_option Elab.async false
set_option linter.all false
set_option maxRecDepth 100000
set_option maxHeartbeats 1000000
namespace Cl
open PySem
/-! ### the law's helpers: what is drawn -/
def pwM : Nat → Int → Int → Int × Int
  | 0, r, a => (r, a)
  | n + 1, r, a => if 0 < r then (if 0 < a then pwM n (r / 1000000) (a - 1) else (r, a)) else (r, a)
theorem drawn_while {cl : Nat → List D → R D} {s0 s1 s2 s3 : Slot} : ∀ (n : Nat) (r a : Int), a.toNat < n →
    whileL (evT cl (.and (.cmp .gt (.var 5) (.cst (.int 0))) (.one (.cmp .gt (.var 4) (.cst (.int 0)))))) (exs cl S_law_drawn1) n [s0, s1, s2, s3, .val (.int a), .val (.int r)] = .ok (.nx [s0, s1, s2, s3, .val (.int (pwM n r a).2), .val (.int (pwM n r a).1)])
  | 0, r, a, h => absurd h (Nat.not_lt_zero _)
  | n + 1, r, a, h => by
    unfold whileL pwM
    by_cases h1 : 0 < r
    · by_cases h2 : 0 < a
      · have q := drawn_while (cl := cl) (s0 := s0) (s1 := s1) (s2 := s2) (s3 := s3) n (r / 1000000) (a - 1) (by omega)
        simp [h1, h2, S_law_drawn1, b_fdiv r 1000000 (by unfold big; omega)]
        exact q
      · simp [h1, h2]
    · simp [h1]
theorem pd_scr' (ns : List Int) : (D.scr ns).pd = (D.lst (ns.map D.int)).pd := by
  simp only [D.pd, pds_map, List.map_map]
  congr 1
@[simp] theorem ok_scr' (ns : List Int) : (D.scr ns).okD = true := by
  have := ok_lI ns
  unfold D.okD at this ⊢
  rw [pd_scr']
  exact this
@[simp] theorem eq_scr0' (ns : List Int) : deq (.scr ns) (.lst []) = decide (ns = []) := by
  have := eq_lI_nil ns
  unfold deq at this ⊢
  rw [pd_scr']
  exact this
theorem drawn_end {cl : Nat → List D → R D} {k many c : Int} {s0 s4 s5 : Slot} (hk : 0 ≤ k ∧ k ≤ 1900) (hm : 0 < many) : ∃ v, (0 ≤ v ∧ v < many) ∧ ∀ cl s0 s4 s5, exs cl (.cons T_law_drawn3 (.cons T_law_drawn4 (.cons T_law_drawn5 .nil))) [s0, .val (.int k), .val (.int many), .val (.int c), s4, s5] = .ok (.rt (.int v)) := by
  obtain ⟨a, ha⟩ : ∃ a, a = (c % 2147483563 * 69069 + 104723 * (k + 1)) % 2147483563 := ⟨_, rfl⟩
  have ha1 : 0 ≤ a ∧ a < 2147483563 := by rw [ha]; exact ⟨Int.emod_nonneg _ (by omega), Int.emod_lt_of_pos _ (by omega)⟩
  obtain ⟨b, hb⟩ : ∃ b, b = (a * a + a / 3) % 2147483399 := ⟨_, rfl⟩
  have hb1 : 0 ≤ b ∧ b < 2147483399 := by rw [hb]; exact ⟨Int.emod_nonneg _ (by omega), Int.emod_lt_of_pos _ (by omega)⟩
  refine ⟨(b * b + b / 7) % 2147483647 / 11 % many, ⟨Int.emod_nonneg _ (by omega), Int.emod_lt_of_pos _ hm⟩, fun cl s0 s4 s5 => ?_⟩
  rw [exs_nx (e1 := [s0, .val (.int k), .val (.int many), .val (.int a), s4, s5]) (by
    simp [T_law_drawn3, b_mod c 2147483563 (by omega), b_mulR _ 69069 (by unfold big; omega), b_mulL 104723 _ (by unfold big; omega), b_mod _ 2147483563 (by omega), ha])]
  rw [exs_nx (e1 := [s0, .val (.int k), .val (.int many), .val (.int b), s4, s5]) (by
    simp [T_law_drawn4, b_mulL a _ (by unfold big; omega), b_fdiv _ 3 (by unfold big; omega), b_mod _ 2147483399 (by omega), hb])]
  simp [T_law_drawn5, b_mulL b _ (by unfold big; omega), b_fdiv _ 7 (by unfold big; omega), b_mod _ 2147483647 (by omega), b_fdiv _ 11 (by unfold big; omega), b_mod _ many hm]
theorem r_drawn {ns : List Int} {k many : Int} (hs : ns.length ≤ 63) (hk : 0 ≤ k ∧ k ≤ 1900) (hm : 0 < many) : ∃ v, (0 ≤ v ∧ v < many) ∧ ∀ f, run G (f + 1) 66 [.scr ns, .int k, .int many] = .ok (.int v) := by
  have st : ∀ f, run G (f + 1) 66 [.scr ns, .int k, .int many] = outR (exs (run G f) (.cons T_law_drawn2 (.cons T_law_drawn3 (.cons T_law_drawn4 (.cons T_law_drawn5 .nil)))) [.val (.scr ns), .val (.int k), .val (.int many), .val (.int (7 * k)), .no, .no]) := fun f => by
    rw [U_law_drawn]
    simp only [F_law_drawn]
    rw [exs_nx (e1 := [.val (.scr ns), .val (.int k), .val (.int many), .val (.int (7 * k)), .no, .no]) (by simp [T_law_drawn1, b_mulL 7 k (by unfold big; omega)])]
  by_cases h : ns = []
  · obtain ⟨v, hv, e⟩ := drawn_end (cl := run G 0) (k := k) (many := many) (c := 7 * k) (s0 := .no) (s4 := .no) (s5 := .no) hk hm
    refine ⟨v, hv, fun f => ?_⟩
    rw [st, exs_nx (e1 := [.val (.scr ns), .val (.int k), .val (.int many), .val (.int (7 * k)), .no, .no]) (by simp [T_law_drawn2, h]), e]
    rfl
  · have hl : 0 < (ns.length : Int) := by
      have := List.length_pos_iff.mpr h
      omega
    obtain ⟨c, hc⟩ : ∃ c, ns[(k % ns.length).toNat]? = some c := by
      have : (k % ns.length).toNat < ns.length := by
        have := Int.emod_lt_of_pos k hl
        omega
      exact ⟨_, List.getElem?_eq_getElem this⟩
    have h2 : idxF (.scr ns) (.int (k % ns.length)) = some (.int c) := by
      show (L2.atI ns (k % ns.length)).map D.int = _
      rw [atI_nat (Int.emod_nonneg _ (by omega)) hc]
      rfl
    obtain ⟨t, ht⟩ : ∃ t, t = k / (ns.length : Int) := ⟨_, rfl⟩
    have ht1 : 0 ≤ t ∧ t ≤ k := by rw [ht]; exact ⟨Int.ediv_nonneg hk.1 (by omega), Int.ediv_le_self _ hk.1⟩
    have hlb : (ns.length : Int) < big := by unfold big; omega
    obtain ⟨q, hq⟩ : ∃ q, q = (ns.length : Int) := ⟨_, rfl⟩
    rw [← hq] at h2 hl hlb ht
    have elen : biF .len [.scr ns] = some (.int q) := by rw [hq]; rfl
    have hm1 := b_mod k q hl
    have hm2 := b_fdiv k q ⟨hl, hlb⟩
    rw [← ht] at hm2
    have hpow : bopF .pow (.int 10) (.int 18) = some (.int (10 ^ 18)) := by simp [bopF, big]
    obtain ⟨v, hv, e⟩ := drawn_end (cl := run G 0) (k := k) (many := many) (c := c + 6553 * t) (s0 := .no) (s4 := .no) (s5 := .no) hk hm
    by_cases hb : (10 : Int) ^ 18 ≤ c ∧ t < 60
    · obtain ⟨r, hr⟩ : ∃ r, r = (pwM whFuel (c / 10 ^ 18) t).1 := ⟨_, rfl⟩
      have hw : ∀ cl, whileL (evT cl (.and (.cmp .gt (.var 5) (.cst (.int 0))) (.one (.cmp .gt (.var 4) (.cst (.int 0)))))) (exs cl S_law_drawn1) whFuel [.val (.scr ns), .val (.int k), .val (.int many), .val (.int c), .val (.int t), .val (.int (c / 10 ^ 18))] = .ok (.nx [.val (.scr ns), .val (.int k), .val (.int many), .val (.int c), .val (.int (pwM whFuel (c / 10 ^ 18) t).2), .val (.int r)]) := fun cl => by
        rw [hr]; exact drawn_while whFuel _ _ (by unfold whFuel; omega)
      have hc10 := b_fdiv c (10 ^ 18) (by unfold big; omega)
      by_cases h3 : 0 < r
      · refine ⟨r % 1000000 % many, ⟨Int.emod_nonneg _ (by omega), Int.emod_lt_of_pos _ hm⟩, fun f => ?_⟩
        rw [st]
        simp [-bi_lenS, -Int.reducePow, T_law_drawn2, h, elen, hm1, hm2, h2, hpow, hb.1, hb.2, hc10, hw, h3, b_mod _ 1000000 (by omega), b_mod _ many hm]
      · refine ⟨v, hv, fun f => ?_⟩
        rw [st, exs_nx (e1 := [.val (.scr ns), .val (.int k), .val (.int many), .val (.int (c + 6553 * t)), .val (.int (pwM whFuel (c / 10 ^ 18) t).2), .val (.int r)]) (by
          simp [-bi_lenS, -Int.reducePow, T_law_drawn2, h, elen, hm1, hm2, h2, hpow, hb.1, hb.2, hc10, hw, h3, b_mulL 6553 t (by unfold big; omega)]), e]
        rfl
    · refine ⟨v, hv, fun f => ?_⟩
      rw [st, exs_nx (e1 := [.val (.scr ns), .val (.int k), .val (.int many), .val (.int (c + 6553 * t)), .val (.int t), .no]) (by
        by_cases hb1 : (10 : Int) ^ 18 ≤ c
        · have hb2 : ¬ t < 60 := fun z => hb ⟨hb1, z⟩
          simp [-bi_lenS, -Int.reducePow, T_law_drawn2, h, elen, hm1, hm2, h2, hpow, hb1, hb2, b_mulL 6553 t (by unfold big; omega)]
        · simp [-bi_lenS, -Int.reducePow, T_law_drawn2, h, elen, hm1, hm2, h2, hpow, hb1, b_mulL 6553 t (by unfold big; omega)]), e]
      rfl
theorem r_set {ns : List Int} {at' n : Int} (hs : ns.length ≤ 63) (hk : 0 ≤ at' ∧ at' ≤ 1800) (hn : 1 ≤ n ∧ n ≤ 24) : ∃ l, IsSet n l ∧ ∀ f : Nat, run G (f + 2) 67 [.scr ns, .int at', .int n] = .ok (tI l) := by
  have hd : ∀ b, ∃ v : Int, 0 ≤ b → b < n → ∀ f, run G (f + 1) 66 [.scr ns, .int (at' + 1 + b), .int 3] = .ok (.int v) := fun b => by
    by_cases hb : 0 ≤ b ∧ b < n
    · obtain ⟨v, _, e⟩ := r_drawn hs (show 0 ≤ at' + 1 + b ∧ at' + 1 + b ≤ 1900 by omega) (show (0 : Int) < 3 by omega)
      exact ⟨v, fun _ _ => e⟩
    · exact ⟨0, fun h1 h2 => absurd ⟨h1, h2⟩ hb⟩
  obtain ⟨g, hg⟩ := Classical.axiomOfChoice hd
  obtain ⟨w, hw, ew⟩ := r_drawn hs (show 0 ≤ at' ∧ at' ≤ 1900 by omega) (show (0 : Int) < n by omega)
  obtain ⟨l, hl⟩ : ∃ l, l = (rgI 0 n).filter fun b => decide (g b = 0) := ⟨_, rfl⟩
  have h1 : ∀ f, ev (run G (f + 1)) C_law_set1 [.val (.scr ns), .val (.int at'), .val (.int n), .no, .no] = .ok (.lst (l.map D.int)) := fun f => by
    unfold C_law_set1
    rw [lc_filter (l := rgI 0 n) (e := D.int) (d := D.int) (c := fun b => decide (g b = 0))]
    · rw [hl]
    · simp [rgD_is 0 n (by omega)]
    · simp; unfold lim; omega
    · rfl
    · rfl
    · intro x hx
      have := mem_rgI.mp hx
      simp [hg x this.1 this.2 f]
    · intro x hx _
      simp
  by_cases he : l = []
  · refine ⟨[w], ⟨by simp, by simp; omega, by simp; omega, by simp⟩, fun f => ?_⟩
    rw [U_law_set]
    simp only [F_law_set]
    rw [exs_nx (e1 := [.val (.scr ns), .val (.int at'), .val (.int n), .val (.lst (l.map D.int)), .no]) (by simp [h1])]
    simp [he, ew f, show (1 : Nat) ≤ lim by decide]
    rfl
  · refine ⟨l, ⟨he, fun x hx => ?_, fun x hx => ?_, ?_⟩, fun f => ?_⟩
    · rw [hl] at hx; exact (mem_rgI.mp (List.mem_filter.mp hx).1).1
    · rw [hl] at hx; exact (mem_rgI.mp (List.mem_filter.mp hx).1).2
    · rw [hl]; exact flt_pw _ _ _
    · rw [U_law_set]
      simp only [F_law_set]
      rw [exs_nx (e1 := [.val (.scr ns), .val (.int at'), .val (.int n), .val (.lst (l.map D.int)), .no]) (by simp [h1])]
      simp [he]
def divs' (n : Int) : List Int := (rgI 1 (n + 1)).filter fun p => decide (n % p = 0)
theorem r_rhythm {ns : List Int} {at' n : Int} (hs : ns.length ≤ 63) (hk : 0 ≤ at' ∧ at' ≤ 1800) (hn : 1 ≤ n ∧ n ≤ 24) : ∃ l, IsSet n l ∧ ∀ f : Nat, run G (f + 3) 68 [.scr ns, .int at', .int n] = .ok (tI l) := by
  have hd : ∀ p ∈ divs' n, 1 ≤ p ∧ p ≤ n ∧ n % p = 0 := fun p hp => by
    obtain ⟨h1, h2⟩ := List.mem_filter.mp hp
    have := mem_rgI.mp h1
    exact ⟨by omega, by omega, of_decide_eq_true h2⟩
  have hd0 : 0 < ((divs' n).length : Int) := by
    have : (1 : Int) ∈ divs' n := List.mem_filter.mpr ⟨mem_rgI.mpr (by omega), by simp⟩
    have := List.length_pos_of_mem this
    omega
  obtain ⟨a, ha, ea⟩ := r_drawn hs (show 0 ≤ at' ∧ at' ≤ 1900 by omega) hd0
  obtain ⟨q, hq⟩ : ∃ q, (divs' n)[a.toNat]? = some q := ⟨_, List.getElem?_eq_getElem (i := a.toNat) (by omega)⟩
  have hq1 := hd q (List.mem_of_getElem? hq)
  have hz : 0 < n / q := by
    have := Int.ediv_mul_cancel (Int.dvd_of_emod_eq_zero hq1.2.2)
    rcases Int.lt_or_le 0 (n / q) with h | h
    · exact h
    · have := Int.mul_le_mul_of_nonneg_right h (show 0 ≤ q by omega)
      omega
  have hzn : n / q ≤ n := Int.ediv_le_self _ (by omega)
  have hdr : ∀ b, ∃ v : Int, 0 ≤ b → b < q → (0 ≤ v ∧ v < n / q) ∧ ∀ f, run G (f + 1) 66 [.scr ns, .int (at' + 1 + b), .int (n / q)] = .ok (.int v) := fun b => by
    by_cases hb : 0 ≤ b ∧ b < q
    · obtain ⟨v, hv, e⟩ := r_drawn hs (show 0 ≤ at' + 1 + b ∧ at' + 1 + b ≤ 1900 by omega) hz
      exact ⟨v, fun _ _ => ⟨hv, e⟩⟩
    · exact ⟨0, fun h1 h2 => absurd ⟨h1, h2⟩ hb⟩
  obtain ⟨g, hg⟩ := Classical.axiomOfChoice hdr
  obtain ⟨w, hw, ew⟩ := r_drawn hs (show 0 ≤ at' + 25 ∧ at' + 25 ≤ 1900 by omega) (show (0 : Int) < 4 by omega)
  obtain ⟨l0, hl0, el0⟩ := r_set hs hk hn
  obtain ⟨h, hh⟩ : ∃ h : Int → Int, h = fun b => (b + q * g b) % n := ⟨_, rfl⟩
  have h1 : ∀ f, ev (run G (f + 2)) C_law_rhythm1 [.val (.scr ns), .val (.int at'), .val (.int n), .no, .no, .no, .no] = .ok (.lst ((divs' n).map D.int)) := fun f => by
    unfold C_law_rhythm1
    rw [lc_filter (l := rgI 1 (n + 1)) (e := D.int) (d := D.int) (c := fun p => decide (n % p = 0))]
    · rfl
    · simp [rgD_is 1 (n + 1) (by omega)]
    · simp; unfold lim; omega
    · rfl
    · rfl
    · intro x hx
      have := mem_rgI.mp hx
      simp [b_mod n x (by omega)]
    · intro x hx _
      simp
  have hx1 : idxF (.lst ((divs' n).map D.int)) (.int a) = some (.int q) := idx_lst ha.1 (by rw [List.getElem?_map, hq]; rfl)
  have hm : ∀ b ∈ rgI 0 q, h b % q = b := fun b hb => by
    have := mem_rgI.mp hb
    rw [hh]
    show (b + q * g b) % n % q = b
    rw [Int.emod_emod_of_dvd _ (Int.dvd_of_emod_eq_zero hq1.2.2), Int.add_mul_emod_self_left, Int.emod_eq_of_lt this.1 this.2]
  have hset : IsSet n (srt ((rgI 0 q).map h)) := by
    refine ⟨?_, fun x hx => ?_, fun x hx => ?_, srt_lt ?_⟩
    · have : h 0 ∈ srt ((rgI 0 q).map h) := mem_srt.mpr (List.mem_map.mpr ⟨0, mem_rgI.mpr (by omega), rfl⟩)
      exact List.ne_nil_of_mem this
    · obtain ⟨y, _, rfl⟩ := List.mem_map.mp (mem_srt.mp hx)
      rw [hh]; exact Int.emod_nonneg _ (by omega)
    · obtain ⟨y, _, rfl⟩ := List.mem_map.mp (mem_srt.mp hx)
      rw [hh]; exact Int.emod_lt_of_pos _ (by omega)
    · rw [List.nodup_iff_pairwise_ne, List.pairwise_map]
      refine (rgI_pw 0 q).imp_of_mem fun {a b} ha hb hab e => ?_
      have e1 := hm a ha
      have e2 := hm b hb
      rw [e, e2] at e1
      omega
  have st : ∀ f, ∃ s, exs (run G (f + 2)) F_law_rhythm.body [.val (.scr ns), .val (.int at'), .val (.int n), .no, .no, .no, .no] = exs (run G (f + 2)) (.cons (.ret (.ite (.cmp .eq (.call 66 (.cons (.var 0) (.cons (.bin .add (.var 1) (.cst (.int 25))) (.cons (.cst (.int 4)) .nil)))) (.cst (.int 0))) (.call 67 (.cons (.var 0) (.cons (.var 1) (.cons (.var 2) .nil)))) (.bi .tuple (.cons (.bi .sorted (.cons (.bor 5) .nil)) .nil)))) .nil) [.val (.scr ns), .val (.int at'), .val (.int n), .val (.lst ((divs' n).map D.int)), .val (.int q), .own (((rgI 0 q).map h).map D.int), s] := fun f => by
    simp only [F_law_rhythm]
    rw [exs_nx (e1 := [.val (.scr ns), .val (.int at'), .val (.int n), .val (.lst ((divs' n).map D.int)), .no, .no, .no]) (by simp [h1])]
    rw [exs_nx (e1 := [.val (.scr ns), .val (.int at'), .val (.int n), .val (.lst ((divs' n).map D.int)), .val (.int q), .no, .no]) (by simp [ea (f + 1), hx1])]
    rw [exs_nx (e1 := [.val (.scr ns), .val (.int at'), .val (.int n), .val (.lst ((divs' n).map D.int)), .val (.int q), .own [], .no]) (by simp)]
    obtain ⟨env', b1, b2⟩ := for_pre (f := fun d e => (setTg (.nm 6) d e).bind fun e1 => exs (run G (f + 2)) S_law_rhythm1 e1) (e := D.int) (rgI 0 q)
      (fun p env => ∃ s, env = [.val (.scr ns), .val (.int at'), .val (.int n), .val (.lst ((divs' n).map D.int)), .val (.int q), .own ((p.map h).map D.int), s])
      (fun p b r hpq env hI => by
        obtain ⟨s, rfl⟩ := hI
        have hb : b ∈ rgI 0 q := by rw [hpq]; simp
        have hb' := mem_rgI.mp hb
        obtain ⟨hv, e⟩ := hg b hb'.1 hb'.2
        have hlen : p.length < lim := by
          have := congrArg List.length hpq
          simp at this
          unfold lim
          omega
        refine ⟨_, ?_, .val (.int b), rfl⟩
        simp [S_law_rhythm1, b_fdiv n q (by unfold big; omega), e (f + 1), b_mulL q _ (by unfold big; omega), b_mod _ n (by omega), hlen, hh]) _ ⟨.no, rfl⟩
    obtain ⟨s, rfl⟩ := b2
    refine ⟨s, ?_⟩
    rw [exs_nx (by
      rw [x_for]
      simp only [noBor_rng, if_true, vi_rng, vr_one, v_var, List.getElem?_cons_succ, List.getElem?_cons_zero, slotV_val, R.bind_ok, intD_int]
      rw [rgD_is 0 q (by omega), R.bind_ok]
      exact b1)]
  by_cases hw0 : w = 0
  · refine ⟨l0, hl0, fun f => ?_⟩
    obtain ⟨s, e⟩ := st f
    rw [U_law_rhythm, e]
    simp [ew (f + 1), hw0, el0 f]
  · refine ⟨srt ((rgI 0 q).map h), hset, fun f => ?_⟩
    obtain ⟨s, e⟩ := st f
    rw [U_law_rhythm, e]
    have hs : biF .sorted [.lst (((rgI 0 q).map h).map D.int)] = some (.lst ((srt ((rgI 0 q).map h)).map D.int)) := bi_sorted _ (by simp; unfold lim; omega)
    simp [-List.map_map, ew (f + 1), hw0, hs]
theorem r_lmove {k : Nat} {n m : Int} {l : List Int} (h : IsSet n l) (hn : n ≤ 100000) : run G (k + 1) 17 [.int n, tI l, .int m] = .ok (tI (mv n l m)) := by
  have hp := h.pos
  have hl := h.len
  rw [U_law_move]
  have h1 : ev (run G k) C_law_move1 [.val (.int n), .val (tI l), .val (.int m), .no] = .ok (.lst ((l.map fun b => (b + m) % n).map D.int)) := by
    unfold C_law_move1
    rw [lc_map (l := l) (e := D.int) (d := fun b => .int ((b + m) % n))]
    · simp
    · simp
    · unfold lim; omega
    · rfl
    · rfl
    · intro x hx
      simp [b_mod _ n hp]
  have hs : biF .sorted [.lst ((l.map fun b => (b + m) % n).map D.int)] = some (.lst ((mv n l m).map D.int)) := by
    rw [bi_sorted _ (by simp; unfold lim; omega), h.srt_mv]
  simp [-List.map_map, F_law_move, h1, hs]

end Cl
set_option Elab.async false
set_option linter.all false
set_option maxRecDepth 100000
set_option maxHeartbeats 1000000
namespace Cl
open PySem
/-- a loop that hands back the first that fits -/
theorem for_find {α : Type} {f : D → Env → R Fl} {e d : α → D} (c : α → Bool) (I : Env → Prop) : ∀ {l : List α}, (∀ x ∈ l, ∀ env, I env → c x = true → f (e x) env = .ok (.rt (d x))) → (∀ x ∈ l, ∀ env, I env → c x = false → ∃ env', f (e x) env = .ok (.nx env') ∧ I env') →
    ∀ env, I env → (∀ x, l.find? c = some x → forL f (l.map e) env = .ok (.rt (d x))) ∧ (l.find? c = none → ∃ env', forL f (l.map e) env = .ok (.nx env') ∧ I env')
  | [], _, _, env, hI => ⟨fun x h => (by cases h), fun _ => ⟨env, rfl, hI⟩⟩
  | x :: l, h1, h2, env, hI => by
    cases hc : c x with
    | true =>
      have := h1 x List.mem_cons_self env hI hc
      simp [List.find?_cons, hc, forL, this]
    | false =>
      obtain ⟨e1, a, b⟩ := h2 x List.mem_cons_self env hI hc
      have := for_find c I (fun y hy => h1 y (List.mem_cons_of_mem _ hy)) (fun y hy => h2 y (List.mem_cons_of_mem _ hy)) e1 b
      simp only [List.find?_cons, hc, List.map_cons, forL, a, R.bind_ok, next_nx]
      exact this
/-! ### pairs of a number and a tuple -/
def pI (p : Int × List Int) : D := .tup [.int p.1, tI p.2]
theorem pI_mk (i : Int) (l : List Int) : D.tup [.int i, tI l] = pI (i, l) := rfl
@[simp] theorem pI_0 (p : Int × List Int) : idxF (pI p) (.int 0) = some (.int p.1) := atI_nat (Int.le_refl 0) rfl
@[simp] theorem pI_1 (p : Int × List Int) : idxF (pI p) (.int 1) = some (tI p.2) := atI_nat (by decide) rfl
def ltP (a b : Int × List Int) : Bool := decide (a.1 < b.1) || (decide (a.1 = b.1) && decide (a.2 < b.2))
theorem pd_pI (p : Int × List Int) : (pI p).pd = .tuple [.int p.1, (tI p.2).pd] := by simp [pI, D.pd, D.pds]
theorem alike_pI (a b : Int × List Int) : W.alike (pI a).pd (pI b).pd = true := by
  rw [pd_pI, pd_pI]
  simp [W.alike, W.alikeAll, alike_tI]
theorem lt_pI (a b : Int × List Int) : W.dataLt (pI a).pd (pI b).pd = ltP a b := by
  rw [pd_pI, pd_pI, W.dataLt_tuple]
  unfold ltP
  by_cases h : a.1 = b.1
  · rw [W.dataLt_all_yes (by simp [W.alike]) (by rw [h]; simp [PyData.eqv])]
    have e := eqE_int.tup a.2 b.2
    unfold deq at e
    by_cases h2 : a.2 = b.2
    · rw [W.dataLt_all_yes (alike_tI _ _) (by
        have e2 := eqE_int.tup b.2 b.2
        unfold deq at e2
        rw [h2, show (tI b.2).pd = (D.tup (b.2.map D.int)).pd from rfl, e2]
        simp)]
      rw [h, h2]
      have : ¬ b.2 < b.2 := List.lt_irrefl _
      simp [this]
      rfl
    · rw [W.dataLt_all_no (alike_tI _ _) (by rw [show (tI a.2).pd = (D.tup (a.2.map D.int)).pd from rfl, show (tI b.2).pd = (D.tup (b.2.map D.int)).pd from rfl, e]; simpa using h2), lt_tI]
      simp [h]
  · rw [W.dataLt_all_no (by simp [W.alike]) (by simpa [PyData.eqv] using h), W.dataLt_int]
    simp [h]
def leP (a b : Int × List Int) : Bool := !ltP b a
theorem dle_pI (a b : Int × List Int) : dle (pI a) (pI b) = leP a b := by
  unfold dle leP
  rw [lt_pI]
def srtP (l : List (Int × List Int)) : List (Int × List Int) := isort leP l
theorem okSort_pI (ls : List (Int × List Int)) : okSort (ls.map pI) = true := by
  unfold okSort
  simp only [List.all_map, Bool.and_eq_true, Bool.or_eq_true, List.all_eq_true]
  refine ⟨⟨fun a ha => List.all_eq_true.mpr fun b _ => alike_pI a b, fun a ha => ?_⟩, .inl fun a ha => rfl⟩
  simp only [Function.comp_def, pd_pI, pd_tI, PyData.depth, PyData.depthAll, depth_ints]
  decide
theorem bi_sortedP {l : List (Int × List Int)} (hl : l.length ≤ lim) : biF .sorted [.lst (l.map pI)] = some (.lst ((srtP l).map pI)) := by
  have := isort_map (f := pI) dle_pI l
  simp only [biF, okSort_pI l, List.length_map, Bool.true_and, decide_eq_true_eq, hl, if_true, this]
  rfl
theorem mem_srtP {x : Int × List Int} {l : List (Int × List Int)} : x ∈ srtP l ↔ x ∈ l := isort_mem
theorem leP_trans (a b c : Int × List Int) (h1 : leP a b = true) (h2 : leP b c = true) : leP a c = true := by
  rw [← dle_pI] at *
  exact dle_trans _ _ _ h1 h2
theorem leP_total (a b : Int × List Int) : (leP a b || leP b a) = true := by
  rw [← dle_pI, ← dle_pI]
  exact dle_total _ _
theorem srtP_pw (l : List (Int × List Int)) : (srtP l).Pairwise fun a b => leP a b = true := isort_sorted leP_trans leP_total
theorem leP_iff {a b : Int × List Int} : leP a b = true ↔ a.1 < b.1 ∨ (a.1 = b.1 ∧ a.2 ≤ b.2) := by
  unfold leP ltP
  simp only [Bool.not_eq_true', Bool.or_eq_false_iff, Bool.and_eq_false_iff, decide_eq_false_iff_not]
  rw [List.not_lt]
  constructor
  · rintro ⟨h1, h2⟩
    rcases h2 with h2 | h2
    · exact .inl (by omega)
    · by_cases h : a.1 = b.1
      · exact .inr ⟨h, h2⟩
      · exact .inl (by omega)
  · rintro (h | ⟨h1, h2⟩)
    · exact ⟨by omega, .inl (by omega)⟩
    · exact ⟨by omega, .inr h2⟩
/-- the first of a sorted list that fits is least -/
theorem find_least {l : List (Int × List Int)} {c : Int × List Int → Bool} {x : Int × List Int} (h : (srtP l).find? c = some x) : x ∈ l ∧ c x = true ∧ ∀ y ∈ l, c y = true → leP x y = true := by
  have hx := List.mem_of_find?_eq_some h
  have hc := List.find?_some h
  refine ⟨mem_srtP.mp hx, hc, fun y hy cy => ?_⟩
  have gen : ∀ m : List (Int × List Int), m.Pairwise (fun a b => leP a b = true) → m.find? c = some x → y ∈ m → leP x y = true := fun m => by
    induction m with
    | nil => intro _ q; cases q
    | cons z m ih =>
      intro pw q hm
      obtain ⟨p1, p2⟩ := List.pairwise_cons.mp pw
      rw [List.find?_cons] at q
      cases cz : c z with
      | true =>
        rw [cz] at q
        cases q
        rcases List.mem_cons.mp hm with e | e
        · rw [e]
          have := leP_total x x
          simpa using this
        · exact p1 y e
      | false =>
        rw [cz] at q
        rcases List.mem_cons.mp hm with e | e
        · rw [← e, cy] at cz
          cases cz
        · exact ih p2 q e
  exact gen _ (srtP_pw l) h (mem_srtP.mpr hy)
def minP (x : Int × List Int) (r : List (Int × List Int)) : Int × List Int := r.foldl (fun a y => if ltP y a then y else a) x
theorem minDD_pI : ∀ (r : List (Int × List Int)) (x : Int × List Int), minDD (pI x) (r.map pI) = pI (minP x r)
  | [], x => rfl
  | y :: r, x => by
    simp only [minDD, minP, List.map_cons, List.foldl_cons, lt_pI]
    have := minDD_pI r (if ltP y x then y else x)
    simp only [minDD, minP] at this
    cases h : ltP y x with
    | true => simp only [h, if_true] at this ⊢; exact this
    | false => simp only [h] at this ⊢; exact this
theorem plain_pI (p : Int × List Int) : (pI p).plain = true := by
  unfold pI
  rw [D.plain, D.plains, D.plains, D.plains, plain_tI]
  rfl
theorem bi_minP (x : Int × List Int) (r : List (Int × List Int)) : biF .min [.lst ((x :: r).map pI)] = some (pI (minP x r)) := by
  have h1 := okSort_pI (x :: r)
  have h2 : ((x :: r).map pI).all D.plain = true := by
    rw [List.all_map, List.all_eq_true]
    exact fun a _ => plain_pI a
  have h3 : biF .min [.lst ((x :: r).map pI)] = if okSort ((x :: r).map pI) && ((x :: r).map pI).all D.plain then some (minDD (pI x) (r.map pI)) else none := rfl
  rw [h3, h1, h2, minDD_pI]
  rfl
theorem minP_spec : ∀ (r : List (Int × List Int)) (x : Int × List Int), minP x r ∈ x :: r ∧ ∀ y ∈ x :: r, leP (minP x r) y = true
  | [], x => ⟨by simp [minP], fun y hy => by
    rw [List.mem_singleton.mp hy]
    have := leP_total x x
    simpa [minP] using this⟩
  | z :: r, x => by
    have e : minP x (z :: r) = minP (if ltP z x then z else x) r := rfl
    obtain ⟨h1, h2⟩ := minP_spec r (if ltP z x then z else x)
    rw [e]
    have lo := h2 _ List.mem_cons_self
    constructor
    · rcases List.mem_cons.mp h1 with q | q
      · rw [q]
        split <;> simp
      · exact List.mem_cons_of_mem _ (List.mem_cons_of_mem _ q)
    · intro y hy
      rcases List.mem_cons.mp hy with q | q
      · rw [q]
        refine leP_trans _ _ _ lo ?_
        cases hz : ltP z x with
        | true =>
          have t := leP_total z x
          have : leP x z = false := by unfold leP; rw [hz]; rfl
          rw [this, Bool.or_false] at t
          simpa using t
        | false =>
          have := leP_total x x
          simpa using this
      · rcases List.mem_cons.mp q with q | q
        · rw [q]
          refine leP_trans _ _ _ lo ?_
          cases hz : ltP z x with
          | true =>
            have := leP_total z z
            simpa using this
          | false =>
            show leP x z = true
            unfold leP
            rw [hz]
            rfl
        · exact h2 y (List.mem_cons_of_mem _ q)
theorem leP_anti {a b : Int × List Int} (h1 : leP a b = true) (h2 : leP b a = true) : a = b := by
  rw [leP_iff] at h1 h2
  obtain ⟨i, l⟩ := a
  obtain ⟨j, m⟩ := b
  simp only at h1 h2
  rcases h1 with h1 | ⟨h1, h1'⟩
  · rcases h2 with h2 | ⟨h2, _⟩ <;> omega
  · rcases h2 with h2 | ⟨_, h2'⟩
    · omega
    · rw [h1, List.le_antisymm h1' h2']
/-! ### all sets -/
def subStep (F : List (List Int)) (b : Int) : List (List Int) := F ++ F.map (· ++ [b])
def subs (n : Int) : List (List Int) := (rgI 0 n).foldl subStep [[]]
theorem mem_subF : ∀ (l : List Int) (F : List (List Int)) (x : List Int), x ∈ l.foldl subStep F ↔ ∃ y ∈ F, ∃ z, z.Sublist l ∧ x = y ++ z
  | [], F, x => by simp
  | b :: l, F, x => by
    rw [List.foldl_cons, mem_subF l]
    constructor
    · rintro ⟨y, hy, z, hz, rfl⟩
      rcases List.mem_append.mp hy with h | h
      · exact ⟨y, h, z, hz.cons _, rfl⟩
      · obtain ⟨w, hw, rfl⟩ := List.mem_map.mp h
        exact ⟨w, hw, b :: z, hz.cons₂ _, by simp⟩
    · rintro ⟨y, hy, z, hz, rfl⟩
      rcases List.sublist_cons_iff.mp hz with h | ⟨r, rfl, h⟩
      · exact ⟨y, List.mem_append_left _ hy, z, h, rfl⟩
      · exact ⟨y ++ [b], List.mem_append_right _ (List.mem_map.mpr ⟨y, hy, rfl⟩), r, h, by simp⟩
theorem mem_subs {n : Int} {x : List Int} : x ∈ subs n ↔ x = [] ∨ IsSet n x := by
  unfold subs
  rw [mem_subF]
  simp only [List.mem_singleton, exists_eq_left, List.nil_append]
  constructor
  · rintro ⟨z, hz, rfl⟩
    by_cases h : x = []
    · exact .inl h
    · exact .inr ⟨h, fun y hy => (mem_rgI.mp (hz.subset hy)).1, fun y hy => (mem_rgI.mp (hz.subset hy)).2, (rgI_pw 0 n).sublist hz⟩
  · rintro (rfl | h)
    · exact ⟨[], List.nil_sublist _, rfl⟩
    · refine ⟨x, ?_, rfl⟩
      rw [h.canon]
      exact List.filter_sublist
theorem subs_head : ∀ (l : List Int) (F : List (List Int)), (∀ x ∈ F, x ≠ []) → ∃ F', l.foldl subStep ([] :: F) = [] :: F' ∧ ∀ x ∈ F', x ≠ []
  | [], F, h => ⟨F, rfl, h⟩
  | b :: l, F, h => by
    rw [List.foldl_cons]
    exact subs_head l (F ++ ([] :: F).map (· ++ [b])) fun x hx => by
      rcases List.mem_append.mp hx with q | q
      · exact h x q
      · obtain ⟨y, _, rfl⟩ := List.mem_map.mp q
        simp
theorem mem_allS {n : Int} {x : List Int} : x ∈ (subs n).drop 1 ↔ IsSet n x := by
  obtain ⟨F, e, h⟩ := subs_head (rgI 0 n) [] (by simp)
  have m : x ∈ subs n ↔ x = [] ∨ IsSet n x := mem_subs
  have e' : subs n = [] :: F := e
  rw [e'] at m ⊢
  rw [List.drop_succ_cons, List.drop_zero]
  rw [List.mem_cons] at m
  constructor
  · intro hx
    rcases m.mp (.inr hx) with q | q
    · exact absurd q (h x hx)
    · exact q
  · intro hx
    rcases m.mpr (.inr hx) with q | q
    · exact absurd q hx.ne
    · exact q
theorem subF_len : ∀ (l : List Int) (F : List (List Int)), (l.foldl subStep F).length = F.length * 2 ^ l.length
  | [], F => by simp
  | b :: l, F => by
    rw [List.foldl_cons, subF_len l]
    simp only [subStep, List.length_append, List.length_map, List.length_cons, Nat.pow_succ]
    rw [← Nat.two_mul, Nat.mul_comm 2, Nat.mul_assoc, Nat.mul_comm 2]
theorem subs_len (n : Int) : (subs n).length = 2 ^ n.toNat := by
  unfold subs
  rw [subF_len]
  simp
theorem subs_nd (n : Int) : (subs n).Nodup := by
  have gen : ∀ (l : List Int) (F : List (List Int)), l.Nodup → F.Nodup → (∀ x ∈ F, ∀ b ∈ l, b ∉ x) → (l.foldl subStep F).Nodup := fun l => by
    induction l with
    | nil => intro F _ h _; exact h
    | cons b l ih =>
      intro F hl hF hb
      obtain ⟨hb1, hl1⟩ := List.nodup_cons.mp hl
      rw [List.foldl_cons]
      refine ih _ hl1 ?_ fun x hx c hc => ?_
      · unfold subStep
        rw [List.nodup_append]
        refine ⟨hF, ?_, fun x hx y hy e => ?_⟩
        · rw [List.nodup_iff_pairwise_ne, List.pairwise_map]
          exact (List.nodup_iff_pairwise_ne.mp hF).imp fun h e => h (List.append_cancel_right e)
        · obtain ⟨z, _, rfl⟩ := List.mem_map.mp hy
          rw [e] at hx
          exact hb _ hx b List.mem_cons_self (by simp)
      · rcases List.mem_append.mp hx with q | q
        · exact hb x q c (List.mem_cons_of_mem _ hc)
        · obtain ⟨z, hz, rfl⟩ := List.mem_map.mp q
          intro hm
          rcases List.mem_append.mp hm with w | w
          · exact hb z hz c (List.mem_cons_of_mem _ hc) w
          · rw [List.mem_singleton.mp w] at hc
            exact hb1 hc
  exact gen _ _ ((rgI_pw 0 n).imp fun h => by omega) (by simp) (by simp)
end Cl
set_option Elab.async false
set_option linter.all false
set_option maxRecDepth 100000
set_option maxHeartbeats 1000000
namespace Cl
open PySem
theorem exs_rt {cl : Nat → List D → R D} {s : CS} {p : CSs} {env : Env} {d : D} (h : ex cl s env = .ok (.rt d)) : exs cl (.cons s p) env = .ok (.rt d) := by simp [h]
theorem lex_lt : ∀ a b : List Int, HT.lexLt a b = decide (a < b)
  | [], [] => by simp [HT.lexLt]
  | [], _ :: _ => by simp [HT.lexLt]
  | _ :: _, [] => by simp [HT.lexLt]
  | x :: a, y :: b => by
    rw [HT.lexLt, lex_lt a b, Bool.eq_iff_iff, decide_eq_true_eq, List.cons_lt_cons_iff]
    by_cases h : x = y
    · subst h
      simp
    · simp [h]
@[simp] theorem c_ltT (a b : List Int) : copF .lt (tI a) (tI b) = some (decide (a < b)) := by
  rw [← lex_lt]
  unfold tI
  simp [copF]
/-! ### how far two sets are apart -/
def dst (a b : List Int) : Int := ((a.filter fun x => !decide (x ∈ b)).length : Nat) + ((b.filter fun x => !decide (x ∈ a)).length : Nat)
theorem dst_comm (a b : List Int) : dst a b = dst b a := by unfold dst; omega
theorem dst_rg {n : Int} {a b : List Int} (ha : IsSet n a) (hb : IsSet n b) : dst a b = ((rgI 0 n).countP fun x => decide (x ∈ a) != decide (x ∈ b) : Nat) := by
  unfold dst
  rw [← List.countP_eq_length_filter, ← List.countP_eq_length_filter, ha.countP, hb.countP]
  have : ∀ l : List Int, (l.countP fun x => decide (x ∈ a) && !decide (x ∈ b)) + (l.countP fun x => decide (x ∈ b) && !decide (x ∈ a)) = l.countP fun x => decide (x ∈ a) != decide (x ∈ b) := fun l => by
    induction l with
    | nil => rfl
    | cons y l ih =>
      simp only [List.countP_cons]
      by_cases h1 : y ∈ a <;> by_cases h2 : y ∈ b <;> simp [h1, h2] <;> omega
  rw [← this]
  omega
theorem dst_self (a : List Int) : dst a a = 0 := by
  unfold dst
  have : (a.filter fun x => !decide (x ∈ a)) = [] := by
    rw [List.filter_eq_nil_iff]
    intro x hx
    simp [hx]
  rw [this]
  rfl
theorem dst_nonneg (a b : List Int) : 0 ≤ dst a b := by unfold dst; omega
theorem dst_tri {n : Int} {a b c : List Int} (ha : IsSet n a) (hb : IsSet n b) (hc : IsSet n c) : dst a c ≤ dst a b + dst b c := by
  rw [dst_rg ha hc, dst_rg ha hb, dst_rg hb hc]
  have : ∀ l : List Int, (l.countP fun x => decide (x ∈ a) != decide (x ∈ c)) ≤ (l.countP fun x => decide (x ∈ a) != decide (x ∈ b)) + (l.countP fun x => decide (x ∈ b) != decide (x ∈ c)) := fun l => by
    induction l with
    | nil => simp
    | cons y l ih =>
      simp only [List.countP_cons]
      by_cases h1 : y ∈ a <;> by_cases h2 : y ∈ b <;> by_cases h3 : y ∈ c <;> simp [h1, h2, h3] <;> omega
  have := this (rgI 0 n)
  omega
theorem dst_zero {n : Int} {a b : List Int} (ha : IsSet n a) (hb : IsSet n b) : dst a b = 0 ↔ a = b := by
  constructor
  · intro h
    rw [dst_rg ha hb] at h
    have h' : (rgI 0 n).countP (fun x => decide (x ∈ a) != decide (x ∈ b)) = 0 := by omega
    rw [List.countP_eq_zero] at h'
    refine ha.ext hb fun x h1 h2 => ?_
    have := h' x (mem_rgI.mpr ⟨h1, h2⟩)
    by_cases q1 : x ∈ a <;> by_cases q2 : x ∈ b <;> simp [q1, q2] at this ⊢
  · rintro rfl
    exact dst_self a
theorem dst_mv {n : Int} {a b : List Int} (ha : IsSet n a) (hb : IsSet n b) (m : Int) : dst (mv n a m) (mv n b m) = dst a b := by
  have hp := ha.pos
  rw [dst_rg (ha.mv m) (hb.mv m), dst_rg ha hb, ← (rg_permA hp m).countP_eq, List.countP_map]
  congr 1
  refine List.countP_congr fun x hx => ?_
  have := mem_rgI.mp hx
  have e1 : ((x + m) % n - m) % n = x := by rw [Int.emod_sub_emod, show x + m - m = x by omega, Int.emod_eq_of_lt this.1 this.2]
  have m1 : ∀ z : Int, (0 ≤ z % n ∧ z % n < n) := fun z => ⟨Int.emod_nonneg _ (by omega), Int.emod_lt_of_pos _ hp⟩
  simp only [Function.comp_def, mem_mv, e1, m1, and_self, true_and]
/-! ### moved sets have the same canons -/
theorem clp_mv {n : Int} (h : 0 < n) {r : List Int} {m t x : Int} : Clp n (mv n r m) t x ↔ Clp n r t (x - m) := by
  unfold Clp
  rw [mem_mv]
  have m1 : 0 ≤ (x - t) % n ∧ (x - t) % n < n := ⟨Int.emod_nonneg _ (by omega), Int.emod_lt_of_pos _ h⟩
  simp only [m1, and_self, true_and]
  rw [Int.emod_sub_emod, show x - t - m = x - m - t by omega]
theorem Canon.mv {n : Int} {r S : List Int} (c : Canon n r S) (m : Int) : Canon n (Cl.mv n r m) S := by
  have hp := c.s.pos
  refine ⟨c.s, fun x h1 h2 => ?_, fun x t u ht hu c1 c2 => c.u (x - m) t u ht hu ((clp_mv hp).mp c1) ((clp_mv hp).mp c2)⟩
  obtain ⟨t, ht, q⟩ := c.c ((x - m) % n) (Int.emod_nonneg _ (by omega)) (Int.emod_lt_of_pos _ hp)
  exact ⟨t, ht, (clp_mv hp).mpr (clp_mod.mp q)⟩
theorem canon_mv {n : Int} {r S : List Int} (hr : IsSet n r) (m : Int) : Canon n (mv n r m) S ↔ Canon n r S := by
  constructor
  · intro c
    have := c.mv (-m)
    rw [mv_add hr.pos, show m + -m = 0 by omega, hr.mv0] at this
    exact this
  · exact fun c => c.mv m
theorem cans_mv {n : Int} {r : List Int} (hr : IsSet n r) (m : Int) : cans n (mv n r m) = cans n r := pwT_ext (cans_pw (hr.mv m)) (cans_pw hr) fun S => by
  rw [mem_cans (hr.mv m), mem_cans hr, canon_mv hr]
theorem cans_one {n a : Int} (h : IsSet n [a]) : cans n [a] ≠ [] := by
  have hp := h.pos
  have : rgI 0 n ∈ cans n [a] := by
    rw [mem_cans h]
    refine ⟨⟨⟨?_, fun x hx => (mem_rgI.mp hx).1, fun x hx => (mem_rgI.mp hx).2, rgI_pw 0 n⟩, fun x h1 h2 => ?_, fun x t u ht hu c1 c2 => ?_⟩, mem_rgI.mpr (by omega)⟩
    · exact List.ne_nil_of_mem (a := 0) (mem_rgI.mpr (by omega))
    · refine ⟨(x - a) % n, mem_rgI.mpr ⟨Int.emod_nonneg _ (by omega), Int.emod_lt_of_pos _ hp⟩, ?_⟩
      unfold Clp
      rw [List.mem_singleton, Int.sub_emod_emod, show x - (x - a) = a by omega]
      exact Int.emod_eq_of_lt (h.lo a (by simp)) (h.hi a (by simp))
    · unfold Clp at c1 c2
      rw [List.mem_singleton] at c1 c2
      have := c1.trans c2.symm
      have e := Int.emod_eq_emod_iff_emod_sub_eq_zero.mp this
      rw [show x - t - (x - u) = u - t by omega] at e
      have e1 := Int.emod_eq_emod_iff_emod_sub_eq_zero.mpr e
      have ht' := mem_rgI.mp ht
      have hu' := mem_rgI.mp hu
      rw [Int.emod_eq_of_lt hu'.1 hu'.2, Int.emod_eq_of_lt ht'.1 ht'.2] at e1
      exact e1.symm
  exact List.ne_nil_of_mem this
/-! ### the nearest set with a canon -/
def rows (n : Int) (r : List Int) : List (Int × List Int) := ((subs n).drop 1).map fun S => (dst r S, S)
def hasC (n : Int) (p : Int × List Int) : Bool := !decide (cans n p.2 = [])
def near (n : Int) (r : List Int) : Int × List Int := ((srtP (rows n r)).find? (hasC n)).getD (0, [])
theorem mem_rows {n : Int} {r : List Int} {p : Int × List Int} : p ∈ rows n r ↔ IsSet n p.2 ∧ p.1 = dst r p.2 := by
  unfold rows
  rw [List.mem_map]
  constructor
  · rintro ⟨S, hS, rfl⟩
    exact ⟨mem_allS.mp hS, rfl⟩
  · rintro ⟨h1, h2⟩
    exact ⟨p.2, mem_allS.mpr h1, by rw [← h2]⟩
theorem near_find {n : Int} (hn : 0 < n) (r : List Int) : (srtP (rows n r)).find? (hasC n) = some (near n r) := by
  have z : IsSet n [0] := ⟨by simp, by simp, by simpa using hn, by simp⟩
  have : ((srtP (rows n r)).find? (hasC n)).isSome = true := by
    rw [List.find?_isSome]
    refine ⟨(dst r [0], [0]), mem_srtP.mpr (mem_rows.mpr ⟨z, rfl⟩), ?_⟩
    unfold hasC
    simpa using cans_one z
  unfold near
  cases h : (srtP (rows n r)).find? (hasC n) with
  | none => rw [h] at this; cases this
  | some x => rfl
structure Near (n : Int) (r : List Int) (d : Int) (S : List Int) : Prop where
  s : IsSet n S
  c : cans n S ≠ []
  e : d = dst r S
  l : ∀ T, IsSet n T → cans n T ≠ [] → leP (d, S) (dst r T, T) = true
theorem near_spec {n : Int} (hn : 0 < n) (r : List Int) : Near n r (near n r).1 (near n r).2 := by
  obtain ⟨h1, h2, h3⟩ := find_least (near_find hn r)
  obtain ⟨h4, h5⟩ := mem_rows.mp h1
  refine ⟨h4, ?_, h5, fun T hT cT => h3 _ (mem_rows.mpr ⟨hT, rfl⟩) ?_⟩
  · unfold hasC at h2
    simpa using h2
  · unfold hasC
    simpa using cT
theorem Near.le {n : Int} {r S : List Int} {d : Int} (h : Near n r d S) {T : List Int} (hT : IsSet n T) (cT : cans n T ≠ []) : d ≤ dst r T := by
  have := leP_iff.mp (h.l T hT cT)
  simp only at this
  omega
theorem Near.first {n : Int} {r S : List Int} {d : Int} (h : Near n r d S) {T : List Int} (hT : IsSet n T) (cT : cans n T ≠ []) (e : dst r T = d) : ¬ T < S := by
  have := leP_iff.mp (h.l T hT cT)
  simp only at this
  rw [List.not_lt]
  rcases this with q | q
  · omega
  · exact q.2
theorem Near.zero {n : Int} {r S : List Int} {d : Int} (hr : IsSet n r) (h : Near n r d S) : (d = 0) ↔ cans n r ≠ [] := by
  constructor
  · intro e
    have := h.e
    rw [e] at this
    rw [(dst_zero hr h.s).mp this.symm]
    exact h.c
  · intro c
    have h1 := h.le hr c
    rw [dst_self] at h1
    have := dst_nonneg r S
    rw [← h.e] at this
    omega
theorem Near.same {n : Int} {r S : List Int} {d : Int} (hr : IsSet n r) (h : Near n r d S) (e : d = 0) : S = r := by
  have := h.e
  rw [e] at this
  exact ((dst_zero hr h.s).mp this.symm).symm
theorem Near.mv {n : Int} {r S S' : List Int} {d d' : Int} (hr : IsSet n r) (m : Int) (h : Near n r d S) (h' : Near n (Cl.mv n r m) d' S') : d' = d := by
  have hp := hr.pos
  have a : d' ≤ d := by
    have := h'.le (h.s.mv m) (by rw [cans_mv h.s]; exact h.c)
    rw [dst_mv hr h.s, ← h.e] at this
    exact this
  have b : d ≤ d' := by
    have c' : cans n (Cl.mv n S' (-m)) ≠ [] := by rw [cans_mv h'.s]; exact h'.c
    have := h.le (h'.s.mv (-m)) c'
    have e : dst r (Cl.mv n S' (-m)) = dst (Cl.mv n r m) S' := by
      rw [← dst_mv hr (h'.s.mv (-m)) m, mv_add hp, show -m + m = 0 by omega, h'.s.mv0]
    rw [e, ← h'.e] at this
    exact this
  omega
/-! ### one beat more, one less -/
def ad (r : List Int) (b : Int) : List Int := srt (r ++ [b])
def rm (r : List Int) (b : Int) : List Int := r.filter fun x => !decide (x = b)
theorem mem_ad {r : List Int} {b x : Int} : x ∈ ad r b ↔ x ∈ r ∨ x = b := by
  unfold ad
  rw [mem_srt]
  simp
theorem mem_rm {r : List Int} {b x : Int} : x ∈ rm r b ↔ x ∈ r ∧ x ≠ b := by
  unfold rm
  rw [List.mem_filter]
  simp
section
variable {n : Int} {r : List Int} (hr : IsSet n r)
include hr
theorem IsSet.ad {b : Int} (hb : 0 ≤ b ∧ b < n) (hn : b ∉ r) : IsSet n (ad r b) := by
  refine ⟨List.ne_nil_of_mem (a := b) (mem_ad.mpr (.inr rfl)), fun x hx => ?_, fun x hx => ?_, srt_lt ?_⟩
  · rcases mem_ad.mp hx with h | h
    · exact hr.lo x h
    · omega
  · rcases mem_ad.mp hx with h | h
    · exact hr.hi x h
    · omega
  · rw [List.nodup_append]
    refine ⟨hr.nd, by simp, fun x hx y hy e => hn ?_⟩
    rw [List.mem_singleton.mp hy] at e
    exact e ▸ hx
theorem IsSet.rm {b : Int} (h : rm r b ≠ []) : IsSet n (rm r b) := ⟨h, fun x hx => hr.lo x (mem_rm.mp hx).1, fun x hx => hr.hi x (mem_rm.mp hx).1, hr.pw.filter _⟩
theorem dst_ad {b : Int} (hb : 0 ≤ b ∧ b < n) (hn : b ∉ r) : dst r (ad r b) = 1 := by
  have ha := hr.ad hb hn
  unfold dst
  have e1 : (r.filter fun x => !decide (x ∈ ad r b)) = [] := by
    rw [List.filter_eq_nil_iff]
    intro x hx
    simp [mem_ad, hx]
  have e2 : ((ad r b).filter fun x => !decide (x ∈ r)) = [b] := by
    refine pw_ext (ha.pw.filter _) (by simp) fun x => ?_
    rw [List.mem_filter, mem_ad, List.mem_singleton]
    simp only [Bool.not_eq_true', decide_eq_false_iff_not]
    constructor
    · rintro ⟨h1 | h1, h2⟩
      · exact absurd h1 h2
      · exact h1
    · rintro rfl
      exact ⟨.inr rfl, hn⟩
  rw [e1, e2]
  rfl
theorem dst_rm {b : Int} (hb : b ∈ r) : dst r (rm r b) = 1 := by
  unfold dst
  have e1 : ((rm r b).filter fun x => !decide (x ∈ r)) = [] := by
    rw [List.filter_eq_nil_iff]
    intro x hx
    simp [(mem_rm.mp hx).1]
  have e2 : (r.filter fun x => !decide (x ∈ rm r b)) = [b] := by
    refine pw_ext (hr.pw.filter _) (by simp) fun x => ?_
    rw [List.mem_filter, List.mem_singleton]
    simp only [Bool.not_eq_true', decide_eq_false_iff_not, mem_rm]
    constructor
    · rintro ⟨h1, h2⟩
      exact Classical.byContradiction fun h => h2 ⟨h1, h⟩
    · rintro rfl
      exact ⟨hb, fun h => h.2 rfl⟩
  rw [e1, e2]
  rfl
theorem dst_one {S : List Int} (hS : IsSet n S) (h : dst r S = 1) : (∃ b, b ∉ r ∧ (0 ≤ b ∧ b < n) ∧ S = ad r b) ∨ (∃ b ∈ r, S = rm r b) := by
  unfold dst at h
  by_cases h0 : (r.filter fun x => !decide (x ∈ S)) = []
  · rw [h0] at h
    have h1 : (S.filter fun x => !decide (x ∈ r)).length = 1 := by simp at h; omega
    obtain ⟨b, hb⟩ := List.length_eq_one_iff.mp h1
    have mb : b ∈ S.filter fun x => !decide (x ∈ r) := by rw [hb]; simp
    obtain ⟨mb1, mb2⟩ := List.mem_filter.mp mb
    have mb3 : b ∉ r := by simpa using mb2
    refine .inl ⟨b, mb3, ⟨hS.lo b mb1, hS.hi b mb1⟩, ?_⟩
    refine pw_ext hS.pw (hr.ad ⟨hS.lo b mb1, hS.hi b mb1⟩ mb3).pw fun x => ?_
    rw [mem_ad]
    constructor
    · intro hx
      by_cases q : x ∈ r
      · exact .inl q
      · have : x ∈ S.filter fun x => !decide (x ∈ r) := List.mem_filter.mpr ⟨hx, by simpa using q⟩
        rw [hb] at this
        exact .inr (List.mem_singleton.mp this)
    · rintro (q | q)
      · refine Classical.byContradiction fun z => ?_
        have : x ∈ r.filter fun x => !decide (x ∈ S) := List.mem_filter.mpr ⟨q, by simpa using z⟩
        rw [h0] at this
        cases this
      · rw [q]; exact mb1
  · have p := List.length_pos_iff.mpr h0
    have h1 : (r.filter fun x => !decide (x ∈ S)).length = 1 := by omega
    have h2 : (S.filter fun x => !decide (x ∈ r)) = [] := List.length_eq_zero_iff.mp (by omega)
    obtain ⟨b, hb⟩ := List.length_eq_one_iff.mp h1
    have mb : b ∈ r.filter fun x => !decide (x ∈ S) := by rw [hb]; simp
    obtain ⟨mb1, mb2⟩ := List.mem_filter.mp mb
    have mb3 : b ∉ S := by simpa using mb2
    refine .inr ⟨b, mb1, pw_ext hS.pw (hr.pw.filter _) fun x => ?_⟩
    rw [mem_rm]
    constructor
    · intro hx
      refine ⟨Classical.byContradiction fun z => ?_, fun e => mb3 (e ▸ hx)⟩
      have : x ∈ S.filter fun x => !decide (x ∈ r) := List.mem_filter.mpr ⟨hx, by simpa using z⟩
      rw [h2] at this
      cases this
    · rintro ⟨q1, q2⟩
      refine Classical.byContradiction fun z => ?_
      have : x ∈ r.filter fun x => !decide (x ∈ S) := List.mem_filter.mpr ⟨q1, by simpa using z⟩
      rw [hb] at this
      exact q2 (List.mem_singleton.mp this)
theorem ad_mv {b : Int} (m : Int) (hb : 0 ≤ b ∧ b < n) (hn : b ∉ r) : ad (Cl.mv n r m) ((b + m) % n) = Cl.mv n (ad r b) m := by
  have hp := hr.pos
  have m1 : 0 ≤ (b + m) % n ∧ (b + m) % n < n := ⟨Int.emod_nonneg _ (by omega), Int.emod_lt_of_pos _ hp⟩
  have back : ((b + m) % n - m) % n = b := by rw [Int.emod_sub_emod, show b + m - m = b by omega, Int.emod_eq_of_lt hb.1 hb.2]
  have n1 : (b + m) % n ∉ Cl.mv n r m := fun h => by
    have := (mem_mv.mp h).2
    rw [back] at this
    exact hn this
  refine pw_ext ((hr.mv m).ad m1 n1).pw (mv_pw _ _ _) fun x => ?_
  rw [mem_ad, mem_mv, mem_mv, mem_ad]
  constructor
  · rintro (⟨h1, h2⟩ | rfl)
    · exact ⟨h1, .inl h2⟩
    · exact ⟨m1, .inr back⟩
  · rintro ⟨h1, h2 | h2⟩
    · exact .inl ⟨h1, h2⟩
    · refine .inr ?_
      rw [← h2, Int.emod_add_emod, show x - m + m = x by omega, Int.emod_eq_of_lt h1.1 h1.2]
theorem len_few {S : List Int} {d : Int} (h : Near n r d S) : d < (if 2 > (r.length : Int) then 2 else (r.length : Int)) := by
  obtain ⟨a, ha⟩ := List.exists_mem_of_ne_nil _ hr.ne
  have z : IsSet n [a] := ⟨by simp, by simpa using hr.lo a ha, by simpa using hr.hi a ha, by simp⟩
  have h1 := h.le z (cans_one z)
  have e : dst r [a] + 1 = r.length := by
    unfold dst
    have e2 : ([a].filter fun x => !decide (x ∈ r)) = [] := by simp [ha]
    rw [e2]
    have : ∀ l : List Int, l.Nodup → a ∈ l → (l.filter fun x => !decide (x ∈ [a])).length + 1 = l.length := fun l => by
      induction l with
      | nil => intro _ q; cases q
      | cons y l ih =>
        intro nd q
        obtain ⟨n1, n2⟩ := List.nodup_cons.mp nd
        by_cases e : y = a
        · subst e
          have : (l.filter fun x => !decide (x ∈ [y])) = l := by
            rw [List.filter_eq_self]
            intro x hx
            simp only [List.mem_singleton, Bool.not_eq_true', decide_eq_false_iff_not]
            exact fun e => n1 (e ▸ hx)
          rw [List.filter_cons, this]
          simp
        · have q' : a ∈ l := by
            rcases List.mem_cons.mp q with w | w
            · exact absurd w.symm e
            · exact w
          have := ih n2 q'
          rw [List.filter_cons]
          simp only [List.mem_singleton, e, decide_false, Bool.not_false, if_true, List.length_cons] at this ⊢
          omega
    have := this r hr.nd ha
    simp only [List.length_nil]
    omega
  split <;> omega
end
/-- the beats that can be added -/
def addb (n : Int) (r : List Int) : List Int := (rgI 0 n).filter fun b => !decide (b ∈ r) && !decide (cans n (ad r b) = [])
def remb (n : Int) (r : List Int) : List Int := r.filter fun b => !decide (rm r b = []) && !decide (cans n (rm r b) = [])
theorem srt_mv' {n : Int} (hn : 0 < n) {l : List Int} (h0 : ∀ x ∈ l, 0 ≤ x ∧ x < n) (pw : l.Pairwise (· < ·)) (m : Int) : srt (l.map fun b => (b + m) % n) = mv n l m := by
  cases l with
  | nil =>
    have : mv n [] m = [] := by
      unfold mv
      rw [List.filter_eq_nil_iff]
      simp
    rw [this]
    rfl
  | cons x l => exact IsSet.srt_mv ⟨by simp, fun y hy => (h0 y hy).1, fun y hy => (h0 y hy).2, pw⟩ m
theorem addb_mv {n : Int} {r : List Int} (hr : IsSet n r) (m : Int) : addb n (mv n r m) = srt ((addb n r).map fun b => (b + m) % n) := by
  have hp := hr.pos
  rw [srt_mv' hp (l := addb n r) (fun x hx => mem_rgI.mp (List.mem_filter.mp hx).1) (flt_pw _ _ _)]
  refine pw_ext (flt_pw _ _ _) (mv_pw _ _ _) fun x => ?_
  rw [mem_mv]
  unfold addb
  rw [List.mem_filter, List.mem_filter, mem_rgI, mem_rgI]
  have m1 : 0 ≤ (x - m) % n ∧ (x - m) % n < n := ⟨Int.emod_nonneg _ (by omega), Int.emod_lt_of_pos _ hp⟩
  simp only [m1, and_self, true_and]
  refine and_congr_right fun hx => ?_
  have hm : x ∈ mv n r m ↔ (x - m) % n ∈ r := by rw [mem_mv]; simp [hx]
  by_cases q : (x - m) % n ∈ r
  · simp [hm, q]
  · have back : ((x - m) % n + m) % n = x := by rw [Int.emod_add_emod, show x - m + m = x by omega, Int.emod_eq_of_lt hx.1 hx.2]
    have e := ad_mv hr m m1 q
    rw [back] at e
    have ha := hr.ad m1 q
    rw [e, cans_mv ha]
    simp [hm, q]
end Cl
set_option Elab.async false
set_option linter.all false
set_option maxRecDepth 100000
set_option maxHeartbeats 1000000
namespace Cl
open PySem
/-- a loop that goes on or hands back -/
theorem for_ret {α : Type} {f : D → Env → R Fl} {e : α → D} (l : List α) (I : List α → Env → Prop) (Po : D → Prop) (h : ∀ p x q, l = p ++ x :: q → ∀ env, I p env → (∃ env', f (e x) env = .ok (.nx env') ∧ I (p ++ [x]) env') ∨ ∃ d, f (e x) env = .ok (.rt d) ∧ Po d) (env : Env) (h0 : I [] env) :
    (∃ env', forL f (l.map e) env = .ok (.nx env') ∧ I l env') ∨ ∃ d, forL f (l.map e) env = .ok (.rt d) ∧ Po d := by
  have gen : ∀ (q p : List α), l = p ++ q → ∀ env, I p env → (∃ env', forL f (q.map e) env = .ok (.nx env') ∧ I l env') ∨ ∃ d, forL f (q.map e) env = .ok (.rt d) ∧ Po d := by
    intro q
    induction q with
    | nil =>
      intro p hp env hI
      rw [List.append_nil] at hp
      subst hp
      exact .inl ⟨env, rfl, hI⟩
    | cons x q ih =>
      intro p hp env hI
      rcases h p x q hp env hI with ⟨e1, h1, h2⟩ | ⟨d, h1, h2⟩
      · rcases ih (p ++ [x]) (by rw [hp]; simp) e1 h2 with ⟨e2, h3, h4⟩ | ⟨d, h3, h4⟩
        · exact .inl ⟨e2, by simp [forL, h1, h3], h4⟩
        · exact .inr ⟨d, by simp [forL, h1, h3], h4⟩
      · exact .inr ⟨d, by simp [forL, h1], h2⟩
  exact gen l [] rfl env h0
theorem app_lt {a b : Int} (h : a < b) (x y : List Int) : ∀ T : List Int, T ++ a :: x < T ++ b :: y
  | [] => List.cons_lt_cons_iff.mpr (.inl h)
  | t :: T => by
    rw [List.cons_append, List.cons_append]
    exact List.cons_lt_cons_iff.mpr (.inr ⟨rfl, app_lt h x y T⟩)
/-! ### packings -/
structure Pack (n : Int) (r S : List Int) : Prop where
  s : IsSet n S
  u : ∀ x t u, t ∈ S → u ∈ S → Clp n r t x → Clp n r u x → t = u
structure Cover (n : Int) (r S : List Int) : Prop where
  s : IsSet n S
  c : ∀ x, 0 ≤ x → x < n → ∃ t ∈ S, Clp n r t x
theorem Canon.pack {n : Int} {r S : List Int} (c : Canon n r S) : Pack n r S := ⟨c.s, c.u⟩
theorem Canon.cover {n : Int} {r S : List Int} (c : Canon n r S) : Cover n r S := ⟨c.s, c.c⟩
theorem ones_sum (l : List Int) : (l.map fun _ => (1 : Int)).sum = l.length := by
  induction l with
  | nil => rfl
  | cons x l ih => simp only [List.map_cons, List.sum_cons, ih, List.length_cons]; omega
theorem sum_le {l : List Int} {f g : Int → Int} (h : ∀ x ∈ l, f x ≤ g x) : (l.map f).sum ≤ (l.map g).sum := by
  induction l with
  | nil => simp
  | cons y l ih =>
    have h1 := h y List.mem_cons_self
    have h2 := ih fun x hx => h x (List.mem_cons_of_mem _ hx)
    simp only [List.map_cons, List.sum_cons]
    omega
theorem sum_eq {l : List Int} {f g : Int → Int} (h : ∀ x ∈ l, f x ≤ g x) (e : (l.map f).sum = (l.map g).sum) : ∀ x ∈ l, f x = g x := by
  induction l with
  | nil => simp
  | cons y l ih =>
    have h1 := h y List.mem_cons_self
    have h2 := sum_le fun x hx => h x (List.mem_cons_of_mem _ hx)
    simp only [List.map_cons, List.sum_cons] at e
    intro x hx
    rcases List.mem_cons.mp hx with q | q
    · rw [q]; omega
    · exact ih (fun x hx => h x (List.mem_cons_of_mem _ hx)) (by omega) x q
theorem pack_cnt {n : Int} {r S : List Int} (hS : IsSet n S) : (∀ x, 0 ≤ x → x < n → cnt n r S x ≤ 1) ↔ Pack n r S := by
  have hn := hS.pos
  constructor
  · intro h
    refine ⟨hS, fun x t u ht hu c1 c2 => ?_⟩
    have h1 := Int.emod_nonneg x (show n ≠ 0 by omega)
    have h2 := Int.emod_lt_of_pos x hn
    have q := h (x % n) h1 h2
    unfold cnt at q
    have := (countP_one hS.nd fun t => decide ((x % n - t) % n ∈ r)).mp (by omega) t ht u hu
    exact this (decide_eq_true (clp_mod.mpr c1)) (decide_eq_true (clp_mod.mpr c2))
  · intro h x h1 h2
    have a : S.countP (fun t => decide ((x - t) % n ∈ r)) ≤ 1 := (countP_one hS.nd _).mpr fun t ht u hu pt pu => h.u x t u ht hu (of_decide_eq_true pt) (of_decide_eq_true pu)
    unfold cnt
    omega
theorem cover_cnt {n : Int} {r S : List Int} (hS : IsSet n S) : (∀ x, 0 ≤ x → x < n → 1 ≤ cnt n r S x) ↔ Cover n r S := by
  constructor
  · intro h
    refine ⟨hS, fun x h1 h2 => ?_⟩
    have := h x h1 h2
    unfold cnt at this
    have p : 0 < S.countP (fun t => decide ((x - t) % n ∈ r)) := by omega
    obtain ⟨t, ht, hc⟩ := List.countP_pos_iff.mp p
    exact ⟨t, ht, of_decide_eq_true hc⟩
  · intro h x h1 h2
    obtain ⟨t, ht, hc⟩ := h.c x h1 h2
    have b : 0 < S.countP (fun t => decide ((x - t) % n ∈ r)) := List.countP_pos_iff.mpr ⟨t, ht, decide_eq_true hc⟩
    unfold cnt
    omega
theorem pack_mx {n : Int} {r S : List Int} (hS : IsSet n S) : mx (clp n r S) ≤ 1 ↔ Pack n r S := by
  rw [mx_le (clp_ne hS.pos r S), ← pack_cnt hS]
  unfold clp
  simp only [List.mem_map, mem_rgI]
  constructor
  · intro h x h1 h2
    exact h _ ⟨x, ⟨h1, h2⟩, rfl⟩
  · rintro h _ ⟨x, ⟨h1, h2⟩, rfl⟩
    exact h x h1 h2
theorem cover_mn {n : Int} {r S : List Int} (hS : IsSet n S) : 1 ≤ mn (clp n r S) ↔ Cover n r S := by
  rw [mn_ge (clp_ne hS.pos r S), ← cover_cnt hS]
  unfold clp
  simp only [List.mem_map, mem_rgI]
  constructor
  · intro h x h1 h2
    exact h _ ⟨x, ⟨h1, h2⟩, rfl⟩
  · rintro h _ ⟨x, ⟨h1, h2⟩, rfl⟩
    exact h x h1 h2
section
variable {n : Int} {r : List Int} (hr : IsSet n r)
include hr
theorem rg_ones : ((rgI 0 n).map fun _ => (1 : Int)).sum = n := by
  have := hr.pos
  rw [ones_sum, length_rgI]
  omega
theorem Pack.len {S : List Int} (h : Pack n r S) : (r.length : Int) * S.length ≤ n := by
  have h1 := sum_cnt hr S
  have h2 := sum_le (l := rgI 0 n) (f := cnt n r S) (g := fun _ => 1) fun x hx => (pack_cnt h.s).mpr h x (mem_rgI.mp hx).1 (mem_rgI.mp hx).2
  rw [rg_ones hr] at h2
  omega
theorem Cover.len {S : List Int} (h : Cover n r S) : n ≤ (r.length : Int) * S.length := by
  have h1 := sum_cnt hr S
  have h2 := sum_le (l := rgI 0 n) (g := cnt n r S) (f := fun _ => 1) fun x hx => (cover_cnt h.s).mpr h x (mem_rgI.mp hx).1 (mem_rgI.mp hx).2
  rw [rg_ones hr] at h2
  omega
theorem Pack.canon {S : List Int} (h : Pack n r S) (e : (r.length : Int) * S.length = n) : Canon n r S := by
  have h1 := sum_cnt hr S
  rw [e] at h1
  have := sum_eq (l := rgI 0 n) (f := cnt n r S) (g := fun _ => 1) (fun x hx => (pack_cnt h.s).mpr h x (mem_rgI.mp hx).1 (mem_rgI.mp hx).2) (by rw [rg_ones hr]; exact h1)
  refine (ones_iff hr.pos h.s).mp ?_
  unfold clp
  exact List.map_congr_left this
theorem Cover.canon {S : List Int} (h : Cover n r S) (e : (r.length : Int) * S.length = n) : Canon n r S := by
  have h1 := sum_cnt hr S
  rw [e] at h1
  have := sum_eq (l := rgI 0 n) (g := cnt n r S) (f := fun _ => 1) (fun x hx => (cover_cnt h.s).mpr h x (mem_rgI.mp hx).1 (mem_rgI.mp hx).2) (by rw [rg_ones hr]; exact h1.symm)
  refine (ones_iff hr.pos h.s).mp ?_
  unfold clp
  exact List.map_congr_left fun x hx => (this x hx).symm
theorem clp_start {s b : Int} (hb : b ∈ r) : Clp n r s ((s + b) % n) := by
  rw [clp_mod]
  unfold Clp
  rw [show s + b - s = b by omega, Int.emod_eq_of_lt (hr.lo b hb) (hr.hi b hb)]
  exact hb
end
theorem clp_shift {n : Int} (hn : 0 < n) {r : List Int} {t x m : Int} : Clp n r ((t + m) % n) x ↔ Clp n r t (x - m) := by
  unfold Clp
  rw [Int.sub_emod_emod, show x - (t + m) = x - m - t by omega]
theorem Pack.mv {n : Int} {r S : List Int} (h : Pack n r S) (m : Int) : Pack n r (Cl.mv n S m) := by
  have hp := h.s.pos
  refine ⟨h.s.mv m, fun x t u ht hu c1 c2 => ?_⟩
  obtain ⟨ht1, ht2⟩ := mem_mv.mp ht
  obtain ⟨hu1, hu2⟩ := mem_mv.mp hu
  have et : t = ((t - m) % n + m) % n := by rw [Int.emod_add_emod, show t - m + m = t by omega, Int.emod_eq_of_lt ht1.1 ht1.2]
  have eu : u = ((u - m) % n + m) % n := by rw [Int.emod_add_emod, show u - m + m = u by omega, Int.emod_eq_of_lt hu1.1 hu1.2]
  rw [et] at c1 ⊢
  rw [eu] at c2 ⊢
  rw [h.u (x - m) _ _ ht2 hu2 ((clp_shift hp).mp c1) ((clp_shift hp).mp c2)]
theorem Cover.mv {n : Int} {r S : List Int} (h : Cover n r S) (m : Int) : Cover n r (Cl.mv n S m) := by
  have hp := h.s.pos
  refine ⟨h.s.mv m, fun x h1 h2 => ?_⟩
  obtain ⟨t, ht, hc⟩ := h.c ((x - m) % n) (Int.emod_nonneg _ (by omega)) (Int.emod_lt_of_pos _ hp)
  refine ⟨(t + m) % n, mem_mv.mpr ⟨⟨Int.emod_nonneg _ (by omega), Int.emod_lt_of_pos _ hp⟩, ?_⟩, (clp_shift hp).mpr (clp_mod.mp hc)⟩
  rw [Int.emod_sub_emod, show t + m - m = t by omega, Int.emod_eq_of_lt (h.s.lo t ht) (h.s.hi t ht)]
  exact ht
theorem Canon.mvS {n : Int} {r S : List Int} (h : Canon n r S) (m : Int) : Canon n r (Cl.mv n S m) := ⟨h.s.mv m, (h.cover.mv m).c, (h.pack.mv m).u⟩
/-- a set moved so that it holds 0 -/
theorem mv_zero {n : Int} {S : List Int} (h : IsSet n S) {s : Int} (hs : s ∈ S) : 0 ∈ mv n S (-s) := by
  have hp := h.pos
  refine mem_mv.mpr ⟨by omega, ?_⟩
  rw [show (0 : Int) - -s = s by omega, Int.emod_eq_of_lt (h.lo s hs) (h.hi s hs)]
  exact hs
theorem head_zero {n : Int} {S : List Int} (h : IsSet n S) (h0 : 0 ∈ S) : ∃ q, S = [0] ++ q := by
  cases S with
  | nil => cases h0
  | cons x q =>
    refine ⟨q, ?_⟩
    rcases List.mem_cons.mp h0 with e | e
    · rw [← e]; rfl
    · have h1 := (List.pairwise_cons.mp h.pw).1 0 e
      have h2 := h.lo x List.mem_cons_self
      omega
/-- sets without 0 come behind those with it -/
theorem zero_first {n : Int} {S T : List Int} (hS : IsSet n S) (hT : IsSet n T) (h0 : 0 ∈ S) (h1 : 0 ∉ T) : S ≤ T := by
  obtain ⟨q, rfl⟩ := head_zero hS h0
  cases T with
  | nil => exact absurd rfl hT.ne
  | cons y p =>
    have : 0 < y := by
      have := hT.lo y List.mem_cons_self
      rcases Int.lt_or_eq_of_le this with z | z
      · exact z
      · exact absurd (z ▸ List.mem_cons_self) h1
    exact List.le_of_lt (List.cons_lt_cons_iff.mpr (.inl this))
structure Best (n : Int) (r T B : List Int) : Prop where
  p : Pack n r B
  e : ∃ q, B = T ++ q
  m : ∀ S, Pack n r S → (∃ q, S = T ++ q) → S.length ≤ B.length ∧ (S.length = B.length → B ≤ S)
theorem Best.unique {n : Int} {r T B B' : List Int} (h : Best n r T B) (h' : Best n r T B') : B = B' := by
  have a := h.m B' h'.p h'.e
  have b := h'.m B h.p h.e
  have e : B'.length = B.length := by omega
  exact List.le_antisymm (a.2 e) (b.2 e.symm)
theorem Best.all {n : Int} {r B : List Int} (h : Best n r [0] B) {S : List Int} (hS : Pack n r S) : S.length ≤ B.length ∧ (S.length = B.length → B ≤ S) := by
  by_cases h0 : 0 ∈ S
  · exact h.m S hS (head_zero hS.s h0)
  · obtain ⟨s, hs⟩ := List.exists_mem_of_ne_nil _ hS.s.ne
    have h1 := h.m _ (hS.mv (-s)) (head_zero (hS.s.mv (-s)) (mv_zero hS.s hs))
    rw [hS.s.mv_len] at h1
    refine ⟨h1.1, fun _ => zero_first h.p.s hS.s ?_ h0⟩
    obtain ⟨q, e⟩ := h.e
    rw [e]
    simp
/-! ### the state of the search -/
def tk2 (n : Int) (r : List Int) (tk : Int → Bool) (s : Int) : Int → Bool := fun p => tk p || decide ((p - s) % n ∈ r)
section
variable {n : Int} {r : List Int} (hr : IsSet n r)
include hr
theorem Gs.add {T : List Int} {tk : Int → Bool} (g : Gs n r T tk) {s : Int} (hs : 0 ≤ s ∧ s < n) (hc : ∀ x, 0 ≤ x → x < n → tk x = true → ¬ Clp n r s x) : Gs n r (T ++ [s]) (tk2 n r tk s) := by
  have hp := hr.pos
  have cross : ∀ y t, t ∈ T → Clp n r t y → Clp n r s y → False := fun y t ht c1 c2 => by
    have y0 := Int.emod_nonneg y (show n ≠ 0 by omega)
    have y1 := Int.emod_lt_of_pos y hp
    exact hc (y % n) y0 y1 ((g.tk (y % n) y0 y1).mpr ⟨t, ht, clp_mod.mpr c1⟩) (clp_mod.mpr c2)
  obtain ⟨b, hb⟩ := List.exists_mem_of_ne_nil _ hr.ne
  have sc := clp_start hr (s := s) hb
  have sT : s ∉ T := fun h => cross _ s h sc sc
  refine ⟨by simp, fun t ht => ?_, fun t ht => ?_, ?_, fun y y0 y1 => ?_, fun y t u ht hu c1 c2 => ?_⟩
  · rcases List.mem_append.mp ht with h | h
    · exact g.lo t h
    · rw [List.mem_singleton.mp h]; exact hs.1
  · rcases List.mem_append.mp ht with h | h
    · exact g.hi t h
    · rw [List.mem_singleton.mp h]; exact hs.2
  · rw [List.nodup_append]
    refine ⟨g.nd, by simp, fun a ha b hb e => ?_⟩
    rw [List.mem_singleton.mp hb] at e
    exact sT (e ▸ ha)
  · unfold tk2
    rw [Bool.or_eq_true, decide_eq_true_eq, g.tk y y0 y1]
    constructor
    · rintro (⟨t, ht, h⟩ | h)
      · exact ⟨t, List.mem_append_left _ ht, h⟩
      · exact ⟨s, by simp, h⟩
    · rintro ⟨t, ht, h⟩
      rcases List.mem_append.mp ht with h' | h'
      · exact .inl ⟨t, h', h⟩
      · rw [List.mem_singleton.mp h'] at h
        exact .inr h
  · rcases List.mem_append.mp ht with h | h <;> rcases List.mem_append.mp hu with h' | h'
    · exact g.u y t u h h' c1 c2
    · rw [List.mem_singleton.mp h'] at c2
      exact (cross y t h c1 c2).elim
    · rw [List.mem_singleton.mp h] at c1
      exact (cross y u h' c2 c1).elim
    · rw [List.mem_singleton.mp h, List.mem_singleton.mp h']
theorem Gs.count {T : List Int} {tk : Int → Bool} (g : Gs n r T tk) : ((opn n tk).length : Int) + r.length * T.length = n := by
  have h1 := sum_cnt hr T
  have e : ∀ x ∈ rgI 0 n, cnt n r T x = if tk x then 1 else 0 := fun x hx => by
    have hx' := mem_rgI.mp hx
    have a : T.countP (fun t => decide ((x - t) % n ∈ r)) ≤ 1 := (countP_one g.nd _).mpr fun t ht u hu pt pu => g.u x t u ht hu (of_decide_eq_true pt) (of_decide_eq_true pu)
    unfold cnt
    cases h : tk x with
    | true =>
      obtain ⟨t, ht, hc⟩ := (g.tk x hx'.1 hx'.2).mp h
      have b : 0 < T.countP (fun t => decide ((x - t) % n ∈ r)) := List.countP_pos_iff.mpr ⟨t, ht, decide_eq_true hc⟩
      simp
      omega
    | false =>
      have : T.countP (fun t => decide ((x - t) % n ∈ r)) = 0 := by
        rw [List.countP_eq_zero]
        intro t ht hc
        have := (g.tk x hx'.1 hx'.2).mpr ⟨t, ht, of_decide_eq_true hc⟩
        rw [h] at this
        cases this
      simp [this]
  rw [List.map_congr_left e] at h1
  have key : ∀ l : List Int, ((l.filter fun x => !tk x).length : Int) + (l.map fun x => if tk x then (1 : Int) else 0).sum = l.length := fun l => by
    induction l with
    | nil => rfl
    | cons y l ih =>
      simp only [List.filter_cons, List.map_cons, List.sum_cons, List.length_cons]
      cases h : tk y with
      | true => simp only [Bool.not_true, if_true]; simp only [Bool.false_eq_true, if_false]; omega
      | false => simp only [Bool.not_false, if_true, List.length_cons]; simp only [Bool.false_eq_true, if_false]; omega
  have k := key (rgI 0 n)
  rw [h1, length_rgI] at k
  have := hr.pos
  unfold opn
  omega
theorem Gs.pack {T : List Int} {tk : Int → Bool} (g : Gs n r T tk) (pw : T.Pairwise (· < ·)) : Pack n r T := ⟨⟨g.ne, g.lo, g.hi, pw⟩, g.u⟩
theorem clash_no {T : List Int} {tk : Int → Bool} (g : Gs n r T tk) {s x : Int} (hx : 0 ≤ x ∧ x < n) (h1 : tk x = true) (h2 : Clp n r s x) (q : List Int) : ¬ Pack n r (T ++ s :: q) := fun h => by
  obtain ⟨t, ht, hc⟩ := (g.tk x hx.1 hx.2).mp h1
  have e := h.u x t s (by simp [ht]) (by simp) hc h2
  have := (List.pairwise_append.mp h.s.pw).2.2 t ht s (by simp)
  omega
end
/-! ### the loop over the starts -/
structure Half (n : Int) (r T p B : List Int) : Prop where
  k : Pack n r B
  e : B = T ∨ ∃ s ∈ p, ∃ q, B = T ++ s :: q
  m : ∀ S, Pack n r S → (S = T ∨ ∃ s ∈ p, ∃ q, S = T ++ s :: q) → S.length ≤ B.length ∧ (S.length = B.length → B ≤ S)
section
variable {n : Int} {r : List Int} (hr : IsSet n r)
include hr
theorem half_start {T : List Int} (h : Pack n r T) : Half n r T [] T := ⟨h, .inl rfl, fun S _ e => by
  rcases e with rfl | ⟨s, hs, _⟩
  · exact ⟨Nat.le_refl _, fun _ => List.le_refl _⟩
  · cases hs⟩
theorem half_skip {T p B : List Int} {s : Int} (h : Half n r T p B) (hn : ∀ q, ¬ Pack n r (T ++ s :: q)) : Half n r T (p ++ [s]) B := ⟨h.k, h.e.imp id fun ⟨t, ht, q⟩ => ⟨t, by simp [ht], q⟩, fun S hS e => by
  rcases e with e | ⟨t, ht, q, rfl⟩
  · exact h.m S hS (.inl e)
  · rcases List.mem_append.mp ht with w | w
    · exact h.m _ hS (.inr ⟨t, w, q, rfl⟩)
    · rw [List.mem_singleton.mp w] at hS
      exact (hn q hS).elim⟩
theorem half_more {T p B F : List Int} {s : Int} (h : Half n r T p B) (hF : Best n r (T ++ [s]) F) (hl : B.length < F.length) : Half n r T (p ++ [s]) F := by
  obtain ⟨q0, e0⟩ := hF.e
  refine ⟨hF.p, .inr ⟨s, by simp, q0, by rw [e0]; simp⟩, fun S hS e => ?_⟩
  rcases e with e | ⟨t, ht, q, rfl⟩
  · have := (h.m S hS (.inl e)).1
    exact ⟨by omega, fun z => by omega⟩
  · rcases List.mem_append.mp ht with w | w
    · have := (h.m _ hS (.inr ⟨t, w, q, rfl⟩)).1
      exact ⟨by omega, fun z => by omega⟩
    · rw [List.mem_singleton.mp w] at hS ⊢
      exact hF.m _ hS ⟨q, by simp⟩
theorem half_less {T p B F : List Int} {s : Int} (h : Half n r T p B) (hp : ∀ t ∈ p, t < s) (hF : Best n r (T ++ [s]) F) (hl : ¬ B.length < F.length) : Half n r T (p ++ [s]) B := by
  refine ⟨h.k, h.e.imp id fun ⟨t, ht, q⟩ => ⟨t, by simp [ht], q⟩, fun S hS e => ?_⟩
  rcases e with e | ⟨t, ht, q, rfl⟩
  · exact h.m S hS (.inl e)
  · rcases List.mem_append.mp ht with w | w
    · exact h.m _ hS (.inr ⟨t, w, q, rfl⟩)
    · rw [List.mem_singleton.mp w] at hS ⊢
      have h1 := (hF.m _ hS ⟨q, by simp⟩).1
      refine ⟨by omega, fun z => ?_⟩
      rcases h.e with e | ⟨u, hu, q', e⟩
      · rw [e] at z
        simp at z
      · rw [e]
        exact List.le_of_lt (app_lt (hp u hu) _ _ T)
theorem half_done {T p B : List Int} {t : Int} (ht : T.getLast? = some t) (hT : Pack n r T) (h : Half n r T (rgI (t + 1) n) B) : Best n r T B := by
  refine ⟨h.k, ?_, fun S hS ⟨q, e⟩ => h.m S hS ?_⟩
  · rcases h.e with e | ⟨s, _, q, e⟩
    · exact ⟨[], by simp [e]⟩
    · exact ⟨_, e⟩
  · cases q with
    | nil => exact .inl (by simpa using e)
    | cons s q =>
      refine .inr ⟨s, mem_rgI.mpr ⟨?_, hS.s.hi s (by rw [e]; simp)⟩, q, e⟩
      have pw := hS.s.pw
      rw [e] at pw
      have := (List.pairwise_append.mp pw).2.2 t (List.mem_of_getLast? ht) s (by simp)
      omega
theorem half_full {T p p' B : List Int} {t : Int} (ht : T.getLast? = some t) (hT : Pack n r T) (hp : rgI (t + 1) n = p ++ p') (h : Half n r T p B) (hl : (B.length : Int) = n / r.length) : Best n r T B := by
  have hl0 : 0 < (r.length : Int) := by
    have := List.length_pos_iff.mpr hr.ne
    omega
  have up : ∀ S, Pack n r S → S.length ≤ B.length := fun S hS => by
    have := hS.len hr
    have := (Int.le_ediv_iff_mul_le hl0).mpr (by rw [Int.mul_comm]; exact this)
    omega
  refine ⟨h.k, ?_, fun S hS ⟨q, e⟩ => ⟨up S hS, fun z => ?_⟩⟩
  · rcases h.e with e | ⟨s, _, q, e⟩
    · exact ⟨[], by simp [e]⟩
    · exact ⟨_, e⟩
  · cases q with
    | nil => exact (h.m S hS (.inl (by simpa using e))).2 z
    | cons s q =>
      have hs : s ∈ rgI (t + 1) n := by
        refine mem_rgI.mpr ⟨?_, hS.s.hi s (by rw [e]; simp)⟩
        have pw := hS.s.pw
        rw [e] at pw
        have := (List.pairwise_append.mp pw).2.2 t (List.mem_of_getLast? ht) s (by simp)
        omega
      rw [hp] at hs
      rcases List.mem_append.mp hs with w | w
      · exact (h.m S hS (.inr ⟨s, w, q, e⟩)).2 z
      · rcases h.e with e' | ⟨u, hu, q', e'⟩
        · rw [e, e'] at z
          simp at z
        · rw [e, e']
          refine List.le_of_lt (app_lt ?_ _ _ T)
          have pw := rgI_pw (t + 1) n
          rw [hp] at pw
          exact (List.pairwise_append.mp pw).2.2 u hu s w
end
/-! ### coverings -/
def cvr : Nat → Int → List Int → List Int → (Int → Bool) → List (List Int)
  | 0, n, r, T, tk => if opn n tk = [] then [srt T] else []
  | l + 1, n, r, T, tk => match opn n tk with
    | [] => [srt T]
    | x :: _ => if ((l : Int) + 1) * r.length < (opn n tk).length then [] else r.flatMap fun b => cvr l n r (T ++ [(x - b) % n]) (tk2 n r tk ((x - b) % n))
/-- T's voices clap what is taken -/
structure Cs (n : Int) (r T : List Int) (tk : Int → Bool) : Prop where
  ne : T ≠ []
  lo : ∀ t ∈ T, 0 ≤ t
  hi : ∀ t ∈ T, t < n
  nd : T.Nodup
  tk : ∀ x, 0 ≤ x → x < n → (tk x = true ↔ ∃ t ∈ T, Clp n r t x)
section
variable {n : Int} {r : List Int} (hr : IsSet n r)
include hr
theorem Cs.step {T : List Int} {tk : Int → Bool} (g : Cs n r T tk) {x b : Int} (hx : x ∈ opn n tk) (hb : b ∈ r) : Cs n r (T ++ [(x - b) % n]) (tk2 n r tk ((x - b) % n)) := by
  have hp := hr.pos
  obtain ⟨hx1, hx2⟩ := mem_opn.mp hx
  have sc := start_clp hr hb hx1
  obtain ⟨s, hs⟩ : ∃ s, s = (x - b) % n := ⟨_, rfl⟩
  rw [← hs] at sc ⊢
  have s0 : 0 ≤ s := by rw [hs]; exact Int.emod_nonneg _ (by omega)
  have s1 : s < n := by rw [hs]; exact Int.emod_lt_of_pos _ hp
  have sT : s ∉ T := fun h => by
    have := (g.tk x hx1.1 hx1.2).mpr ⟨s, h, sc⟩
    rw [hx2] at this
    cases this
  refine ⟨by simp, fun t ht => ?_, fun t ht => ?_, ?_, fun y y0 y1 => ?_⟩
  · rcases List.mem_append.mp ht with h | h
    · exact g.lo t h
    · rw [List.mem_singleton.mp h]; exact s0
  · rcases List.mem_append.mp ht with h | h
    · exact g.hi t h
    · rw [List.mem_singleton.mp h]; exact s1
  · rw [List.nodup_append]
    refine ⟨g.nd, by simp, fun a ha b hb e => ?_⟩
    rw [List.mem_singleton.mp hb] at e
    exact sT (e ▸ ha)
  · unfold tk2
    rw [Bool.or_eq_true, decide_eq_true_eq, g.tk y y0 y1]
    constructor
    · rintro (⟨t, ht, h⟩ | h)
      · exact ⟨t, List.mem_append_left _ ht, h⟩
      · exact ⟨s, by simp, h⟩
    · rintro ⟨t, ht, h⟩
      rcases List.mem_append.mp ht with h' | h'
      · exact .inl ⟨t, h', h⟩
      · rw [List.mem_singleton.mp h'] at h
        exact .inr h
theorem Cs.full {T : List Int} {tk : Int → Bool} (g : Cs n r T tk) (ho : opn n tk = []) : Cover n r (srt T) := by
  refine ⟨⟨?_, fun x hx => g.lo x (mem_srt.mp hx), fun x hx => g.hi x (mem_srt.mp hx), srt_lt g.nd⟩, fun x h1 h2 => ?_⟩
  · obtain ⟨t, ht⟩ := List.exists_mem_of_ne_nil _ g.ne
    exact List.ne_nil_of_mem (mem_srt.mpr ht)
  · have : tk x = true := by
      cases h : tk x with
      | true => rfl
      | false =>
        have : x ∈ opn n tk := mem_opn.mpr ⟨⟨h1, h2⟩, h⟩
        rw [ho] at this
        cases this
    obtain ⟨t, ht, hc⟩ := (g.tk x h1 h2).mp this
    exact ⟨t, mem_srt.mpr ht, hc⟩
theorem cvr_sound : ∀ (l : Nat) (T : List Int) (tk : Int → Bool), Cs n r T tk → ∀ S ∈ cvr l n r T tk, Cover n r S ∧ (∀ t ∈ T, t ∈ S) ∧ S.length ≤ T.length + l
  | 0, T, tk, g, S, hS => by
    rw [cvr] at hS
    split at hS
    · rename_i ho
      rw [List.mem_singleton.mp hS]
      exact ⟨g.full hr ho, fun t ht => mem_srt.mpr ht, Nat.le_of_eq (srt_perm T).length_eq⟩
    · cases hS
  | l + 1, T, tk, g, S, hS => by
    rw [cvr] at hS
    cases ho : opn n tk with
    | nil =>
      rw [ho] at hS
      rw [List.mem_singleton.mp hS]
      exact ⟨g.full hr ho, fun t ht => mem_srt.mpr ht, by rw [(srt_perm T).length_eq]; omega⟩
    | cons x rest =>
      rw [ho] at hS
      simp only at hS
      split at hS
      · cases hS
      · obtain ⟨b, hb, h⟩ := List.mem_flatMap.mp hS
        have hx : x ∈ opn n tk := by rw [ho]; exact List.mem_cons_self
        obtain ⟨a1, a2, a3⟩ := cvr_sound l _ _ (g.step hr hx hb) S h
        refine ⟨a1, fun t ht => a2 t (List.mem_append_left _ ht), ?_⟩
        simp at a3
        omega
theorem opn_le_cover {T S : List Int} {tk : Int → Bool} (g : Cs n r T tk) (hS : Cover n r S) (hT : ∀ t ∈ T, t ∈ S) : ((opn n tk).length : Int) ≤ r.length * ((S.length : Int) - T.length) := by
  have hp := hr.pos
  -- the rest of S covers what is open
  have e1 : ((opn n tk).length : Int) ≤ ((rgI 0 n).map (cnt n r (S.filter fun s => !decide (s ∈ T)))).sum := by
    have key : ∀ l : List Int, (∀ x ∈ l, 0 ≤ x ∧ x < n) → ((l.filter fun x => !tk x).length : Int) ≤ (l.map (cnt n r (S.filter fun s => !decide (s ∈ T)))).sum := fun l => by
      induction l with
      | nil => intro _; simp
      | cons y l ih =>
        intro h
        have ih' := ih fun x hx => h x (List.mem_cons_of_mem _ hx)
        have hy := h y List.mem_cons_self
        simp only [List.filter_cons, List.map_cons, List.sum_cons]
        have c0 : 0 ≤ cnt n r (S.filter fun s => !decide (s ∈ T)) y := by unfold cnt; omega
        cases hk : tk y with
        | true => simp; omega
        | false =>
          obtain ⟨s, hs, hc⟩ := hS.c y hy.1 hy.2
          have sT : s ∉ T := fun z => by
            have := (g.tk y hy.1 hy.2).mpr ⟨s, z, hc⟩
            rw [hk] at this
            cases this
          have : 0 < (S.filter fun s => !decide (s ∈ T)).countP (fun t => decide ((y - t) % n ∈ r)) := List.countP_pos_iff.mpr ⟨s, List.mem_filter.mpr ⟨hs, by simpa using sT⟩, decide_eq_true hc⟩
          have c1 : 1 ≤ cnt n r (S.filter fun s => !decide (s ∈ T)) y := by unfold cnt; omega
          simp
          omega
    exact key _ fun x hx => mem_rgI.mp hx
  rw [sum_cnt hr] at e1
  have e2 : (S.filter fun s => !decide (s ∈ T)).length + T.length = S.length := by
    have h1 : (S.filter fun s => !decide (s ∈ T)).length + (S.filter fun s => decide (s ∈ T)).length = S.length := by
      have key : ∀ l : List Int, (l.filter fun s => !decide (s ∈ T)).length + (l.filter fun s => decide (s ∈ T)).length = l.length := fun l => by
        induction l with
        | nil => rfl
        | cons y l ih =>
          simp only [List.filter_cons]
          by_cases hy : y ∈ T
          · simp [hy]; omega
          · simp [hy]; omega
      exact key S
    have h2 : (S.filter fun s => decide (s ∈ T)).Perm T := by
      refine (List.perm_ext_iff_of_nodup (hS.s.nd.filter _) g.nd).mpr fun x => ?_
      rw [List.mem_filter]
      simp only [decide_eq_true_eq]
      exact ⟨fun z => z.2, fun z => ⟨hT x z, z⟩⟩
    have := h2.length_eq
    omega
  have e3 : ((S.length : Int) - T.length) = ((S.filter fun s => !decide (s ∈ T)).length : Int) := by omega
  rw [e3]
  exact e1
theorem cvr_complete {S : List Int} (hS : Cover n r S) (hm : ∀ S', Cover n r S' → S.length ≤ S'.length) : ∀ (l : Nat) (T : List Int) (tk : Int → Bool), Cs n r T tk → (∀ t ∈ T, t ∈ S) → S.length ≤ T.length + l → S ∈ cvr l n r T tk
  | l, T, tk, g, hT, hl => by
    have full : opn n tk = [] → S ∈ [srt T] := fun ho => by
      have c := g.full hr ho
      have h1 := hm _ c
      rw [(srt_perm T).length_eq] at h1
      have sub : ∀ x, x ∈ srt T ↔ x ∈ S := by
        have h2 : (S.filter fun s => decide (s ∈ T)).Perm T := by
          refine (List.perm_ext_iff_of_nodup (hS.s.nd.filter _) g.nd).mpr fun x => ?_
          rw [List.mem_filter]
          simp only [decide_eq_true_eq]
          exact ⟨fun z => z.2, fun z => ⟨hT x z, z⟩⟩
        have h3 : (S.filter fun s => decide (s ∈ T)).length = S.length := by
          have a := h2.length_eq
          have b : (S.filter fun s => decide (s ∈ T)).length ≤ S.length := List.length_filter_le _ _
          omega
        have h4 : S.filter (fun s => decide (s ∈ T)) = S := List.filter_sublist.eq_of_length h3
        intro x
        rw [mem_srt]
        refine ⟨hT x, fun hx => ?_⟩
        rw [← h4] at hx
        exact of_decide_eq_true (List.mem_filter.mp hx).2
      rw [List.mem_singleton]
      exact pw_ext hS.s.pw c.s.pw fun x => (sub x).symm
    cases l with
    | zero =>
      rw [cvr]
      have h := opn_le_cover hr g hS hT
      have z : opn n tk = [] := by
        have : (r.length : Int) * ((S.length : Int) - T.length) ≤ 0 := by
          refine Int.mul_nonpos_of_nonneg_of_nonpos (by omega) (by omega)
        exact List.length_eq_zero_iff.mp (by omega)
      rw [if_pos z]
      exact full z
    | succ l =>
      rw [cvr]
      cases ho : opn n tk with
      | nil => exact full ho
      | cons x rest =>
        have hx : x ∈ opn n tk := by rw [ho]; exact List.mem_cons_self
        obtain ⟨hx1, hx2⟩ := mem_opn.mp hx
        have h := opn_le_cover hr g hS hT
        have le : ¬ ((l : Int) + 1) * r.length < ((x :: rest).length : Nat) := by
          rw [← ho]
          have : (r.length : Int) * ((S.length : Int) - T.length) ≤ r.length * ((l : Int) + 1) := Int.mul_le_mul_of_nonneg_left (by omega) (by omega)
          rw [Int.mul_comm ((l : Int) + 1)]
          omega
        simp only
        rw [if_neg le]
        obtain ⟨s, hs, hsx⟩ := hS.c x hx1.1 hx1.2
        have e : (x - (x - s) % n) % n = s := by
          rw [Int.sub_emod_emod, show x - (x - s) = s by omega, Int.emod_eq_of_lt (hS.s.lo s hs) (hS.s.hi s hs)]
        refine List.mem_flatMap.mpr ⟨(x - s) % n, hsx, ?_⟩
        refine cvr_complete hS hm l _ _ (g.step hr hx hsx) (fun t ht => ?_) (by simp; omega)
        rcases List.mem_append.mp ht with w | w
        · exact hT t w
        · rw [List.mem_singleton.mp w, e]; exact hs
omit hr in
theorem cvr_len : ∀ (l : Nat) (T : List Int) (tk : Int → Bool), 0 < r.length → (cvr l n r T tk).length ≤ r.length ^ l
  | 0, T, tk, h => by
    rw [cvr]
    split <;> simp
  | l + 1, T, tk, h => by
    rw [cvr]
    split
    · have : 0 < r.length ^ (l + 1) := Nat.pow_pos h
      exact this
    · split
      · simp
      · rw [List.length_flatMap]
        have : ∀ (q : List Int) (g : Int → List (List Int)), (∀ b, (g b).length ≤ r.length ^ l) → (q.map fun b => (g b).length).sum ≤ q.length * r.length ^ l := fun q g hg => by
          induction q with
          | nil => simp
          | cons b q ih =>
            simp only [List.map_cons, List.sum_cons, List.length_cons, Nat.add_mul, Nat.one_mul]
            have := hg b
            omega
        rw [Nat.pow_succ, Nat.mul_comm]
        exact this r _ fun b => cvr_len l _ _ h
theorem cs0 : Cs n r [0] fun x => decide ((x - 0) % n ∈ r) := by
  have hp := hr.pos
  refine ⟨by simp, by simp, by simpa using hp, by simp, fun x h1 h2 => ?_⟩
  simp only [List.mem_singleton, exists_eq_left, decide_eq_true_eq]
theorem gs0' : Gs n r [0] fun x => decide ((x - 0) % n ∈ r) := by
  have hp := hr.pos
  refine ⟨by simp, by simp, by simpa using hp, by simp, fun x h1 h2 => ?_, fun x t u ht hu _ _ => ?_⟩
  · simp only [List.mem_singleton, exists_eq_left, decide_eq_true_eq]
  · rw [List.mem_singleton.mp ht, List.mem_singleton.mp hu]
/-- the whole cycle covers -/
theorem cover_all : Cover n r (rgI 0 n) := by
  have hp := hr.pos
  refine ⟨⟨List.ne_nil_of_mem (a := 0) (mem_rgI.mpr (by omega)), fun x hx => (mem_rgI.mp hx).1, fun x hx => (mem_rgI.mp hx).2, rgI_pw 0 n⟩, fun x h1 h2 => ?_⟩
  obtain ⟨b, hb⟩ := List.exists_mem_of_ne_nil _ hr.ne
  exact ⟨(x - b) % n, mem_rgI.mpr ⟨Int.emod_nonneg _ (by omega), Int.emod_lt_of_pos _ hp⟩, start_clp hr hb ⟨h1, h2⟩⟩
/-- a covering of 0 and all starts that the rhythm moved by 0 leaves open -/
theorem cover_few : ∃ S, Cover n r S ∧ (S.length : Int) ≤ n - r.length + 1 := by
  have hp := hr.pos
  obtain ⟨b, hb⟩ := List.exists_mem_of_ne_nil _ hr.ne
  -- the starts x - b of the beats that are not in r, and 0
  let S := (rgI 0 n).filter fun s => decide (s = 0) || !decide ((s + b) % n ∈ r)
  have hS : IsSet n S := ⟨List.ne_nil_of_mem (a := 0) (List.mem_filter.mpr ⟨mem_rgI.mpr (by omega), by simp⟩), fun x hx => (mem_rgI.mp (List.mem_filter.mp hx).1).1, fun x hx => (mem_rgI.mp (List.mem_filter.mp hx).1).2, flt_pw _ _ _⟩
  refine ⟨S, ⟨hS, fun x h1 h2 => ?_⟩, ?_⟩
  · by_cases q : x ∈ r
    · refine ⟨0, List.mem_filter.mpr ⟨mem_rgI.mpr (by omega), by simp⟩, ?_⟩
      unfold Clp
      rw [Int.sub_zero, Int.emod_eq_of_lt h1 h2]
      exact q
    · refine ⟨(x - b) % n, List.mem_filter.mpr ⟨mem_rgI.mpr ⟨Int.emod_nonneg _ (by omega), Int.emod_lt_of_pos _ hp⟩, ?_⟩, start_clp hr hb ⟨h1, h2⟩⟩
      rw [Int.emod_add_emod, show x - b + b = x by omega, Int.emod_eq_of_lt h1 h2]
      simp [q]
  · have h1 : ((rgI 0 n).filter fun s => !decide ((s + b) % n ∈ r)).length + r.length = n.toNat := by
      have e := (rg_permA hp b).countP_eq fun y => !decide (y ∈ r)
      rw [List.countP_map] at e
      rw [← List.countP_eq_length_filter, show ((rgI 0 n).countP fun s => !decide ((s + b) % n ∈ r)) = (rgI 0 n).countP fun y => !decide (y ∈ r) from e]
      have e2 : r.length = (rgI 0 n).countP fun y => decide (y ∈ r) := by rw [List.countP_eq_length_filter, ← hr.canon]
      rw [e2]
      have := List.length_eq_countP_add_countP (l := rgI 0 n) fun y => decide (y ∈ r)
      rw [length_rgI] at this
      have e3 : (rgI 0 n).countP (fun y => !decide (y ∈ r)) = (rgI 0 n).countP (fun y => decide (¬ decide (y ∈ r) = true)) := by
        congr 1
        funext y
        simp
      rw [e3]
      omega
    have h2 : S.length ≤ ((rgI 0 n).filter fun s => !decide ((s + b) % n ∈ r)).length + 1 := by
      show ((rgI 0 n).filter fun s => decide (s = 0) || !decide ((s + b) % n ∈ r)).length ≤ _
      rw [rg01 hp, List.filter_cons, List.filter_cons]
      have e : (rgI 1 n).filter (fun s => decide (s = 0) || !decide ((s + b) % n ∈ r)) = (rgI 1 n).filter fun s => !decide ((s + b) % n ∈ r) := List.filter_congr fun x hx => by
        have := mem_rgI.mp hx
        simp [show ¬ x = 0 by omega]
      rw [e]
      simp only [decide_true, Bool.true_or, if_true, List.length_cons]
      split
      · simp
      · exact Nat.le_refl _
    omega
end
/-- the least coverings -/
structure Least (n : Int) (r C : List Int) : Prop where
  c : Cover n r C
  m : ∀ S, Cover n r S → C.length ≤ S.length ∧ (S.length = C.length → C ≤ S)
theorem least_len {n : Int} {r : List Int} (hr : IsSet n r) : ∃ m : Nat, (∃ S, Cover n r S ∧ S.length = m) ∧ ∀ S, Cover n r S → m ≤ S.length := by
  have : ∀ k : Nat, (∃ S, Cover n r S ∧ S.length ≤ k) → ∃ m : Nat, (∃ S, Cover n r S ∧ S.length = m) ∧ ∀ S, Cover n r S → m ≤ S.length := fun k => by
    induction k with
    | zero =>
      rintro ⟨S, h1, h2⟩
      exact ⟨0, ⟨S, h1, by omega⟩, fun _ _ => Nat.zero_le _⟩
    | succ k ih =>
      rintro ⟨S, h1, h2⟩
      by_cases h : ∃ S, Cover n r S ∧ S.length ≤ k
      · exact ih h
      · have : ∀ T, Cover n r T → k + 1 ≤ T.length := fun T hT => by
          rcases Nat.lt_or_ge k T.length with z | z
          · exact z
          · exact (h ⟨T, hT, z⟩).elim
        exact ⟨k + 1, ⟨S, h1, by have := this S h1; omega⟩, this⟩
  exact this (rgI 0 n).length ⟨_, cover_all hr, Nat.le_refl _⟩
end Cl
set_option Elab.async false
set_option linter.all false
set_option maxRecDepth 100000
set_option maxHeartbeats 1000000
namespace Cl
open PySem
/-! ### rhythm and starts exchanged -/
theorem Canon.swap {n : Int} {r S : List Int} (hr : IsSet n r) (c : Canon n r S) : Canon n S r := by
  have h := (ones_iff hr.pos c.s).mpr c
  rw [clp_comm hr c.s] at h
  exact (ones_iff hr.pos hr).mp h
/-! ### how many canons -/
theorem grw_len2 {n : Int} {r : List Int} (hr : IsSet n r) : ∀ (j q : Nat) (T : List Int) (tk : Int → Bool), (opn n tk).length ≤ q * r.length → (grw j n r T tk).length ≤ r.length ^ q
  | 0, q, T, tk, h => by
    rw [grw]
    have : 0 < r.length ^ q := Nat.pow_pos (List.length_pos_iff.mpr hr.ne)
    split <;> simp <;> omega
  | j + 1, q, T, tk, h => by
    rw [grw]
    cases ho : opn n tk with
    | nil =>
      have : 0 < r.length ^ q := Nat.pow_pos (List.length_pos_iff.mpr hr.ne)
      simp
      omega
    | cons x rest =>
      have hx : x ∈ opn n tk := by rw [ho]; exact List.mem_cons_self
      cases q with
      | zero => rw [ho] at h; simp at h
      | succ q =>
        simp only [List.length_flatMap]
        have key : ∀ l : List Int, (∀ b ∈ l, b ∈ r) → (l.map fun b => (if (plc n r ((x - b) % n)).any tk then [] else grw j n r (T ++ [(x - b) % n]) (tkn n r tk ((x - b) % n))).length).sum ≤ l.length * r.length ^ q := fun l => by
          induction l with
          | nil => simp
          | cons b l ih =>
            intro hl
            have h1 := ih fun c hc => hl c (List.mem_cons_of_mem _ hc)
            have h2 : (if (plc n r ((x - b) % n)).any tk then [] else grw j n r (T ++ [(x - b) % n]) (tkn n r tk ((x - b) % n))).length ≤ r.length ^ q := by
              cases hc : (plc n r ((x - b) % n)).any tk with
              | true => simp
              | false =>
                rw [if_neg (by decide)]
                have os := opn_step hr hx (hl b List.mem_cons_self) hc
                refine grw_len2 hr j q _ _ ?_
                rw [Nat.add_mul, Nat.one_mul] at h
                omega
            simp only [List.map_cons, List.sum_cons, List.length_cons, Nat.add_mul, Nat.one_mul]
            omega
        have := key r fun b hb => hb
        rw [Nat.pow_succ, Nat.mul_comm]
        exact this
theorem pow_64 : ∀ a < 13, ∀ m < 13, a * m ≤ 12 → a ^ (m - 1) < 64 := by decide +kernel
theorem cans_few {n : Int} {r : List Int} (hr : IsSet n r) (hn : n ≤ 12) : (cans n r).length < 64 := by
  have hp := hr.pos
  have hl0 := List.length_pos_iff.mpr hr.ne
  have hrn := hr.len
  by_cases h : cans n r = []
  · rw [h]; decide
  · obtain ⟨S, hS⟩ := List.exists_mem_of_ne_nil _ h
    have e := canon_len hr ((mem_cans hr).mp hS).1
    have c := (gs0 hr).count hr
    simp only [List.length_cons, List.length_nil] at c
    have hm : 0 < S.length := List.length_pos_iff.mpr ((mem_cans hr).mp hS).1.s.ne
    obtain ⟨m, hm'⟩ : ∃ m, S.length = m + 1 := ⟨S.length - 1, by omega⟩
    have le : (opn n fun x => decide (x ∈ r)).length ≤ m * r.length := by
      have e1 : ((m * r.length : Nat) : Int) = r.length * (m : Int) := by rw [Int.natCast_mul, Int.mul_comm]
      have e2 : (r.length : Int) * ((m + 1 : Nat) : Int) = r.length * (m : Int) + r.length := by rw [Int.natCast_add, Int.mul_add]; simp
      rw [hm'] at e
      omega
    have := grw_len2 hr n.toNat m [0] _ le
    have hsz : r.length * (m + 1) ≤ 12 := by
      have : ((r.length * (m + 1) : Nat) : Int) ≤ 12 := by
        rw [Int.natCast_mul, ← hm', e]
        omega
      omega
    have hmb : m + 1 < 13 := by
      have : m + 1 ≤ r.length * (m + 1) := Nat.le_mul_of_pos_left _ hl0
      omega
    have b := pow_64 r.length (by omega) (m + 1) hmb hsz
    unfold cans
    rw [(srtT_perm _).length_eq]
    simp only [Nat.add_sub_cancel] at b
    omega
theorem sum_swap {α β : Type} (p : α → β → Bool) (l : List α) (m : List β) : (l.map fun a => (m.countP fun b => p a b)).sum = (m.map fun b => (l.countP fun a => p a b)).sum := by
  induction l with
  | nil =>
    have : (m.map fun _ => (0 : Nat)).sum = 0 := by induction m <;> simp_all
    simpa using this.symm
  | cons a l ih =>
    have key : ∀ q : List β, (q.countP fun b => p a b) + (q.map fun b => (l.countP fun a => p a b)).sum = (q.map fun b => ((a :: l).countP fun a => p a b)).sum := fun q => by
      induction q with
      | nil => rfl
      | cons b q ih2 =>
        simp only [List.map_cons, List.sum_cons, List.countP_cons] at ih2 ⊢
        omega
    rw [List.map_cons, List.sum_cons, ih]
    exact key m
theorem pwT_nd {l : List (List Int)} (h : l.Pairwise (· < ·)) : l.Nodup := h.imp fun {a b} h e => by
  rw [e] at h
  exact List.lt_irrefl _ h
theorem count_all {n : Int} {r : List Int} (hr : IsSet n r) {A : List (List Int)} (nd : A.Nodup) (mem : ∀ S, S ∈ A ↔ Canon n r S) : (A.length : Int) = (cans n r).length * r.length := by
  have hp := hr.pos
  have hl0 := List.length_pos_iff.mpr hr.ne
  -- each beat lies in as many canons as 0
  have each : ∀ x ∈ rgI 0 n, (A.countP fun S => decide (x ∈ S)) = (cans n r).length := fun x hx => by
    have hx' := mem_rgI.mp hx
    have pm : ((A.filter fun S => decide (x ∈ S)).map fun S => mv n S (-x)).Perm (cans n r) := by
      refine (List.perm_ext_iff_of_nodup ?_ (pwT_nd (cans_pw hr))).mpr fun T => ?_
      · rw [List.nodup_iff_pairwise_ne, List.pairwise_map]
        refine (List.nodup_iff_pairwise_ne.mp (nd.filter _)).imp_of_mem fun {a b} ha hb hab e => hab ?_
        have sa := ((mem a).mp (List.mem_filter.mp ha).1).s
        have sb := ((mem b).mp (List.mem_filter.mp hb).1).s
        have := congrArg (fun S => mv n S x) e
        simp only [mv_add hp, show -x + x = 0 by omega, sa.mv0, sb.mv0] at this
        exact this
      · rw [List.mem_map, mem_cans hr]
        constructor
        · rintro ⟨S, hS, rfl⟩
          obtain ⟨h1, h2⟩ := List.mem_filter.mp hS
          have c := (mem S).mp h1
          exact ⟨c.mvS (-x), mv_zero c.s (of_decide_eq_true h2)⟩
        · rintro ⟨c, h0⟩
          refine ⟨mv n T x, List.mem_filter.mpr ⟨(mem _).mpr (c.mvS x), decide_eq_true (mem_mv.mpr ⟨hx', ?_⟩)⟩, ?_⟩
          · rw [Int.sub_self, Int.zero_emod]; exact h0
          · rw [mv_add hp, show x + -x = 0 by omega, c.s.mv0]
    rw [List.countP_eq_length_filter, ← pm.length_eq, List.length_map]
  have sw := sum_swap (fun x S => decide (x ∈ S)) (rgI 0 n) A
  rw [List.map_congr_left each] at sw
  have eL : ((rgI 0 n).map fun _ => (cans n r).length).sum = n.toNat * (cans n r).length := by
    have : ∀ l : List Int, (l.map fun _ => (cans n r).length).sum = l.length * (cans n r).length := fun l => by
      induction l with
      | nil => simp
      | cons y l ih => simp only [List.map_cons, List.sum_cons, ih, List.length_cons, Nat.add_mul, Nat.one_mul]; omega
    rw [this]
    simp
  have eR : ∀ S ∈ A, (rgI 0 n).countP (fun x => decide (x ∈ S)) = S.length := fun S hS => by
    rw [List.countP_eq_length_filter, ← ((mem S).mp hS).s.canon]
  rw [eL, List.map_congr_left eR] at sw
  have e2 : (r.length * (A.map fun S => S.length).sum : Nat) = n.toNat * A.length := by
    have : ∀ l : List (List Int), (∀ S ∈ l, S ∈ A) → (r.length * (l.map fun S => S.length).sum : Nat) = n.toNat * l.length := fun l => by
      induction l with
      | nil => intro _; simp
      | cons S l ih =>
        intro h
        have h1 := ih fun T hT => h T (List.mem_cons_of_mem _ hT)
        have h2 := canon_len hr ((mem S).mp (h S List.mem_cons_self))
        have h3 : r.length * S.length = n.toNat := by
          have : ((r.length * S.length : Nat) : Int) = n := by rw [Int.natCast_mul]; exact h2
          omega
        simp only [List.map_cons, List.sum_cons, List.length_cons, Nat.mul_add, Nat.mul_one]
        omega
    exact this A fun S hS => hS
  rw [← sw] at e2
  have hn0 : 0 < n.toNat := by omega
  have : n.toNat * (r.length * (cans n r).length) = n.toNat * A.length := by
    rw [← e2, ← Nat.mul_assoc, ← Nat.mul_assoc, Nat.mul_comm n.toNat]
  have := Nat.eq_of_mul_eq_mul_left hn0 this
  rw [← this, Int.natCast_mul, Int.mul_comm]
/-! ### one of both repeats -/
def rep (n : Int) (l : List Int) : Bool := (rgI 1 n).any fun d => decide (n % d = 0) && decide (mv n l d = l)
def cand (n : Int) : List (List Int) := [0] :: ((rgI 1 n).map fun a => [0, a]) ++ (rgI 1 n).flatMap fun a => (rgI (a + 1) n).map fun b => [0, a, b]
def hajB : Bool := (rgI 2 13).all fun n => (cand n).all fun A => !decide (n % (A.length : Int) = 0) || (cans n A).all fun S => rep n A || rep n S
theorem haj_true : hajB = true := by decide +kernel
theorem mem_cand {n : Int} {A : List Int} (hA : IsSet n A) (h0 : 0 ∈ A) (hl : A.length ≤ 3) : A ∈ cand n := by
  obtain ⟨q, rfl⟩ := head_zero hA h0
  have lo := hA.lo
  have hi := hA.hi
  have pw := hA.pw
  match q with
  | [] => exact List.mem_append_left _ List.mem_cons_self
  | [a] =>
    have : 0 < a := (List.pairwise_cons.mp pw).1 a (by simp)
    refine List.mem_append_left _ (List.mem_cons_of_mem _ (List.mem_map.mpr ⟨a, mem_rgI.mpr ⟨by omega, hi a (by simp)⟩, rfl⟩))
  | [a, b] =>
    have h1 : 0 < a := (List.pairwise_cons.mp pw).1 a (by simp)
    have h2 : a < b := (List.pairwise_cons.mp (List.pairwise_cons.mp pw).2).1 b (by simp)
    refine List.mem_append_right _ (List.mem_flatMap.mpr ⟨a, mem_rgI.mpr ⟨by omega, hi a (by simp)⟩, List.mem_map.mpr ⟨b, mem_rgI.mpr ⟨by omega, hi b (by simp)⟩, rfl⟩⟩)
  | _ :: _ :: _ :: _ => simp at hl
theorem haj_small {n : Int} {A S : List Int} (hn : 2 ≤ n ∧ n ≤ 12) (hA : IsSet n A) (h0 : 0 ∈ A) (c : Canon n A S) (hS : 0 ∈ S) (hl : A.length ≤ S.length) : rep n A = true ∨ rep n S = true := by
  have e := canon_len hA c
  have hl3 : A.length ≤ 3 := by
    rcases Nat.lt_or_ge 3 A.length with h | h
    · have : (4 : Int) * 4 ≤ A.length * S.length := Int.mul_le_mul (by omega) (by omega) (by decide) (by omega)
      omega
    · exact h
  have h := haj_true
  unfold hajB at h
  have h1 := List.all_eq_true.mp h n (mem_rgI.mpr (by omega))
  have h2 := List.all_eq_true.mp h1 A (mem_cand hA h0 hl3)
  have hd : n % (A.length : Int) = 0 := by rw [← e]; exact Int.mul_emod_right _ _
  rw [decide_eq_true hd] at h2
  rw [Bool.not_true, Bool.false_or] at h2
  have h3 := List.all_eq_true.mp h2 S ((mem_cans hA).mpr ⟨c, hS⟩)
  simpa using h3
theorem rep_mv {n : Int} {l : List Int} (h : IsSet n l) (m : Int) (hr : rep n (mv n l m) = true) : rep n l = true := by
  have hp := h.pos
  unfold rep at hr ⊢
  obtain ⟨d, hd, hc⟩ := List.any_eq_true.mp hr
  refine List.any_eq_true.mpr ⟨d, hd, ?_⟩
  simp only [Bool.and_eq_true, decide_eq_true_eq] at hc ⊢
  refine ⟨hc.1, ?_⟩
  have e := congrArg (fun S => mv n S (-m)) hc.2
  simp only [mv_add hp] at e
  rw [show m + d + -m = d by omega, show m + -m = 0 by omega, h.mv0] at e
  exact e
theorem haj {n : Int} {r S : List Int} (hn : 2 ≤ n ∧ n ≤ 12) (hr : IsSet n r) (c : Canon n r S) (hS : 0 ∈ S) : rep n r = true ∨ rep n S = true := by
  obtain ⟨b, hb⟩ := List.exists_mem_of_ne_nil _ hr.ne
  have hr' := hr.mv (-b)
  have c' : Canon n (mv n r (-b)) S := c.mv (-b)
  have h0 := mv_zero hr hb
  rcases Nat.le_total (mv n r (-b)).length S.length with h | h
  · rcases haj_small hn hr' h0 c' hS h with q | q
    · exact .inl (rep_mv hr _ q)
    · exact .inr q
  · rcases haj_small hn c.s hS (c'.swap hr') h0 h with q | q
    · exact .inr q
    · exact .inl (rep_mv hr _ q)
/-! ### all sets of starts that may be a canon -/
def evStep (n : Int) (w : Int) (F : List (List Int)) (b : Int) : List (List Int) := F ++ (F.filter fun x => decide ((x.length : Int) * w < n)).map (· ++ [b])
theorem ev_sub {n w : Int} : ∀ (l : List Int) {F F' : List (List Int)}, F'.Sublist F → (l.foldl (evStep n w) F').Sublist (l.foldl subStep F)
  | [], _, _, h => h
  | b :: l, F, F', h => by
    rw [List.foldl_cons, List.foldl_cons]
    exact ev_sub l (List.Sublist.append h ((List.filter_sublist.trans h).map _))
theorem ev_mem {n w : Int} (hw : 0 < w) : ∀ (l : List Int) (F : List (List Int)) (y z : List Int), y ∈ F → z.Sublist l → ((y ++ z).length : Int) * w ≤ n → y ++ z ∈ l.foldl (evStep n w) F
  | [], F, y, z, hy, hz, hl => by
    rw [List.sublist_nil.mp hz, List.append_nil]
    exact hy
  | b :: l, F, y, z, hy, hz, hl => by
    rw [List.foldl_cons]
    rcases List.sublist_cons_iff.mp hz with h | ⟨r, rfl, h⟩
    · exact ev_mem hw l _ y z (List.mem_append_left _ hy) h hl
    · have e : y ++ b :: r = (y ++ [b]) ++ r := by simp
      rw [e] at hl ⊢
      refine ev_mem hw l _ (y ++ [b]) r (List.mem_append_right _ (List.mem_map.mpr ⟨y, List.mem_filter.mpr ⟨hy, decide_eq_true ?_⟩, rfl⟩)) h hl
      have h1 : (((y ++ [b]) ++ r).length : Int) = (y.length : Int) + 1 + r.length := by simp; omega
      rw [h1, Int.add_mul, Int.add_mul] at hl
      have h2 : 0 ≤ (r.length : Int) * w := Int.mul_nonneg (by omega) (by omega)
      omega
def evy (n w : Int) : List (List Int) := (rgI 0 n).foldl (evStep n w) [[]]
theorem evy_sub (n w : Int) : (evy n w).Sublist (subs n) := ev_sub _ (List.Sublist.refl _)
theorem evy_canon {n : Int} {r S : List Int} (hr : IsSet n r) (c : Canon n r S) : S ∈ evy n r.length := by
  have hl0 := List.length_pos_iff.mpr hr.ne
  have := ev_mem (n := n) (w := r.length) (by omega) (rgI 0 n) [[]] [] S (by simp) (by rw [c.s.canon]; exact List.filter_sublist) (by
    rw [List.nil_append, Int.mul_comm]
    exact Int.le_of_eq (canon_len hr c))
  exact this
def goods (n : Int) (r : List Int) : List (List Int) := srtT ((evy n r.length).filter fun S => !decide (S = []) && decide (clp n r S = (rgI 0 n).map fun _ => 1))
section
variable {n : Int} {r : List Int} (hr : IsSet n r)
include hr
theorem mem_goods {S : List Int} : S ∈ goods n r ↔ Canon n r S := by
  unfold goods
  rw [mem_srtT, List.mem_filter]
  simp only [Bool.and_eq_true, Bool.not_eq_true', decide_eq_false_iff_not, decide_eq_true_eq]
  constructor
  · rintro ⟨h1, h2, h3⟩
    rcases mem_subs.mp ((evy_sub n r.length).subset h1) with z | z
    · exact absurd z h2
    · exact (ones_iff hr.pos z).mp h3
  · intro c
    exact ⟨evy_canon hr c, c.s.ne, (ones_iff hr.pos c.s).mpr c⟩
theorem goods_pw : (goods n r).Pairwise (· < ·) := srtT_lt ((List.Nodup.sublist (evy_sub n r.length) (subs_nd n)).filter _)
theorem goods_due : (goods n r).filter (fun S => decide (S.headD 1 = 0)) = cans n r := by
  refine pwT_ext ((goods_pw hr).filter _) (cans_pw hr) fun S => ?_
  rw [List.mem_filter, mem_goods hr, mem_cans hr]
  refine and_congr_right fun c => ?_
  rw [decide_eq_true_eq]
  constructor
  · intro h
    cases S with
    | nil => exact absurd rfl c.s.ne
    | cons x q =>
      have : x = 0 := h
      rw [this]; simp
  · intro h
    obtain ⟨q, rfl⟩ := head_zero c.s h
    rfl
theorem goods_len : ((goods n r).length : Int) = (cans n r).length * r.length := count_all hr (pwT_nd (goods_pw hr)) fun S => mem_goods hr
end
/-! ### sorted(set(..)) of tuples -/
theorem tups_tI : ∀ ls : List (List Int), tups? (ls.map tI) = some ls
  | [] => rfl
  | l :: ls => by
    have ih := tups_tI ls
    rw [List.map_cons, tI, tups?, ints?_map, Option.bind_some, ih]
    rfl
def ssT (ls : List (List Int)) : List (List Int) := isort (fun x y => !HT.lexLt y x) (ded ls)
theorem sset_tI {ls : List (List Int)} {n : Int} {w : Nat} (hn : n ≤ 64) (h : ∀ l ∈ ls, IsSet n l ∧ l.length = w) (hl : ls.length < 64) : ssetF (.lst (ls.map tI)) = some (.lst ((ssT ls).map tI)) := by
  have ok : okTs ls = true := by
    unfold okTs
    simp only [Bool.and_eq_true, Bool.or_eq_true, decide_eq_true_eq, List.all_eq_true]
    have hd : ∀ l ∈ ls, (ls.headD []).length = l.length := fun l hl => by
      cases ls with
      | nil => cases hl
      | cons x q =>
        rw [(h l hl).2]
        exact (h x List.mem_cons_self).2
    refine ⟨⟨hl, ?_⟩, fun l hl => ⟨(hd l hl).symm, fun x hx => ⟨(h l hl).1.lo x hx, by have := (h l hl).1.hi x hx; omega⟩⟩⟩
    cases ls with
    | nil => exact .inl rfl
    | cons x q => exact .inr (List.length_pos_iff.mpr (h x List.mem_cons_self).1.ne)
  simp only [ssetF, tups_tI, ok, if_true]
  rfl
end Cl
set_option Elab.async false
set_option linter.all false
set_option maxRecDepth 100000
set_option maxHeartbeats 1000000
namespace Cl
open PySem
/-! ### texts by their codes -/
abbrev Ch := Fin 128
def sOf (l : List Ch) : Str := ⟨(l.map Fin.val).toArray⟩
abbrev sT (l : List Ch) : D := .str (sOf l)
theorem val_inj : ∀ {a b : List Ch}, a.map Fin.val = b.map Fin.val → a = b
  | [], [], _ => rfl
  | [], _ :: _, h => by simp at h
  | _ :: _, [], h => by simp at h
  | x :: a, y :: b, h => by
    simp only [List.map_cons, List.cons.injEq] at h
    rw [Fin.ext h.1, val_inj h.2]
theorem sOf_list (l : List Ch) : (sOf l).cps.toList = l.map Fin.val := rfl
theorem sOf_inj {a b : List Ch} : sOf a = sOf b ↔ a = b := ⟨fun h => val_inj (by have := congrArg (fun s : Str => s.cps.toList) h; exact this), fun h => by rw [h]⟩
theorem sOf_len (l : List Ch) : (sOf l).length = l.length := by unfold sOf Str.length; simp
theorem sOf_app (a b : List Ch) : sOf a ++ sOf b = sOf (a ++ b) := by
  show (⟨(sOf a).cps ++ (sOf b).cps⟩ : Str) = _
  unfold sOf; simp
theorem eqE_s : EqE sT := fun a b => by
  simp only [deq, D.pd, PyData.eqv]
  rw [Bool.eq_iff_iff, beq_iff_eq, decide_eq_true_eq]
  exact sOf_inj
theorem okE_s : OkE 0 sT := fun a => by
  simp only [D.pd, PyData.canLay0, PyData.depth, Nat.le_refl, and_true]
  unfold PyData.strOk
  rw [← Array.all_toList, sOf_list, List.all_eq_true]
  intro x hx
  obtain ⟨c, _, rfl⟩ := List.mem_map.mp hx
  have := c.isLt
  simp only [decide_eq_true_eq]
  omega
theorem ok_s (l : List Ch) : (sT l).okD = true := okE_s.ok (by decide) l
theorem eq_s (a b : List Ch) : deq (sT a) (sT b) = decide (a = b) := eqE_s a b
theorem add_s {a b : List Ch} (h : a.length + b.length ≤ lim) : bopF .add (sT a) (sT b) = some (sT (a ++ b)) := by
  have : (sOf a).length + (sOf b).length ≤ lim := by rw [sOf_len, sOf_len]; exact h
  simp only [bopF, this, if_true, sOf_app]
theorem cut_s (a : List Ch) (lo hi : Option Int) : L2.cutS (sOf a) lo hi = sOf (cutD a lo hi) := by
  unfold L2.cutS cutD
  rw [sOf_len, sOf_list]
  unfold sOf
  rw [← List.map_drop, ← List.map_take]
theorem slc_s {a : List Ch} {lo hi : Option Int} (h : a.length ≤ lim) : slcF (sT a) lo hi = some (sT (cutD a lo hi)) := by
  simp only [slcF, sOf_len, h, if_true, cut_s]
theorem glued_one : ∀ (l : List Ch) (acc : Array Nat), (l.map fun c => sOf [c]).foldl (fun acc p => acc ++ (#[] : Array Nat) ++ p.cps) acc = acc ++ (l.map Fin.val).toArray
  | [], acc => by simp
  | c :: l, acc => by
    rw [List.map_cons, List.foldl_cons, glued_one l]
    simp [sOf]
theorem join_one {s : Str} (hs : s = sOf []) (l : List Ch) : Txt.join s (l.map fun c => sOf [c]) = sOf l := by
  subst hs
  cases l with
  | nil => rfl
  | cons c l =>
    show (⟨(l.map fun c => sOf [c]).foldl (fun acc p => acc ++ (#[] : Array Nat) ++ p.cps) #[c.val]⟩ : Str) = _
    rw [glued_one]
    simp [sOf]
theorem strs_s (l : List Ch) : strs? (l.map fun c => sT [c]) = some (l.map fun c => sOf [c]) := by
  have := strs?_map (l.map fun c => sOf [c])
  rw [List.map_map] at this
  exact this
theorem sum_one {α : Type} : ∀ l : List α, (l.map fun _ => 1).sum = l.length
  | [] => rfl
  | _ :: l => by rw [List.map_cons, List.sum_cons, sum_one l, List.length_cons, Nat.add_comm]
theorem join_s {s : Str} (hs : s = sOf []) {l : List Ch} (hl : l.length ≤ lim) : mtF .join (.str s) [.lst (l.map fun c => sT [c])] = some (sT l) := by
  have h1 : ((l.map fun c => sOf [c]).map (·.length)).sum = l.length := by
    rw [List.map_map]
    have : (fun x : Str => x.length) ∘ (fun c => sOf [c]) = fun _ => 1 := funext fun c => sOf_len [c]
    rw [this, sum_one]
  have h2 : s.length = 0 := by rw [hs, sOf_len]; rfl
  simp only [mtF, strs_s, Option.bind_some, h1, h2, Nat.mul_zero, Nat.add_zero, hl, if_true, join_one hs]
theorem strD_s (l : List Ch) : strD (sOf l) = l.map fun c => sT [c] := by
  unfold strD
  rw [sOf_list, List.map_map]
  rfl
theorem len_s {l : List Ch} (h : l.length ≤ lim) : biF .len [sT l] = some (.int l.length) := by simp only [biF, sOf_len, h, if_true]
theorem in_s (l : List Ch) (c : Ch) : copF .isin (sT [c]) (sT l) = some (decide (c ∈ l)) := by
  show some (!(Builtin.Str.occurrences (sOf l) (sOf [c]) 0 (sOf l).length 1).isEmpty) = _
  have := StrLaws.found_one (sOf l) c.val
  rw [sOf_list] at this
  refine congrArg some (Eq.trans this ?_)
  rw [Bool.eq_iff_iff, decide_eq_true_eq, decide_eq_true_eq, List.mem_map]
  exact ⟨fun ⟨a, h1, h2⟩ => Fin.ext h2 ▸ h1, fun h => ⟨c, h, rfl⟩⟩
/-! ### two fors -/
theorem compCat_flat {α : Type} {f : D → R (List D)} {e : α → D} {g : α → List D} : ∀ {l : List α}, (∀ x ∈ l, f (e x) = .ok (g x)) → compCat f (l.map e) = .ok (l.flatMap g)
  | [], _ => rfl
  | x :: l, h => by
    have r := compCat_flat (l := l) fun y hy => h y (List.mem_cons_of_mem _ hy)
    simp only [List.map_cons, compCat, h x List.mem_cons_self, r, R.bind_ok, List.flatMap_cons]
theorem lc2_map {cl : Nat → List D → R D} {env : Env} {elt : CE} {t t1 : Tg} {it it1 : CI} {vs vs1 : List Nat} {α β : Type} {l : List α} {e : α → D} (m : α → List β) (e1 : β → D) (d : α → β → D) (E1 : α → Env)
    (hi : evi cl it env = .ok (l.map e)) (hc : t.inn vs = true ∧ t1.inn vs1 = true ∧ vs1.all vs.contains = true ∧ it1.noBor = true ∧ elt.isBor = false) (hE : ∀ x ∈ l, setTg t (e x) (wipeE env vs) = .ok (E1 x)) (hm : ∀ x ∈ l, evi cl it1 (E1 x) = .ok ((m x).map e1))
    (hd : ∀ x ∈ l, ∀ y ∈ m x, ((setTg t1 (e1 y) (wipeE (E1 x) vs1)).bind fun e2 => ev cl elt e2) = .ok (d x y)) (hl : (l.flatMap fun x => (m x).map (d x)).length ≤ lim) :
    ev cl (.lc2 elt t it .none t1 it1 .none vs vs1) env = .ok (.lst (l.flatMap fun x => (m x).map (d x))) := by
  show (evi cl it env).bind _ = _
  rw [hi, R.bind_ok, if_pos hc, compCat_flat (g := fun x => (m x).map (d x)) fun x hx => ?_, R.bind_ok, if_pos hl]
  rw [hE x hx]
  show (evi cl it1 (E1 x)).bind _ = _
  rw [hm x hx, R.bind_ok, comp_map (g := some ∘ d x) fun y hy => ?_, List.filterMap_eq_map]
  · have := hd x hx y hy
    cases q : setTg t1 (e1 y) (wipeE (E1 x) vs1) with
    | ok e2 => rw [q] at this; simp only [R.bind_ok] at this ⊢; simp [optB, this]
    | exc c => rw [q] at this; cases this
    | bad => rw [q] at this; cases this
/-! ### counting up to the first -/
theorem while_least {c : Env → R Bool} {f : Env → R Fl} (mk : Int → Env) (p : Int → Bool) (N : Int) (hc : ∀ s, 1 ≤ s → s ≤ N → c (mk s) = .ok (!p s)) (hf : ∀ s, 1 ≤ s → s < N → f (mk s) = .ok (.nx (mk (s + 1)))) (hN : p N = true) (h1 : 1 ≤ N) :
    ∃ s, 1 ≤ s ∧ s ≤ N ∧ p s = true ∧ (∀ t, 1 ≤ t → t < s → p t = false) ∧ ∀ n, N.toNat < n → whileL c f n (mk 1) = .ok (.nx (mk s)) := by
  have gen : ∀ (k : Nat) (a : Int), 1 ≤ a → a + k = N → ∃ s, a ≤ s ∧ s ≤ N ∧ p s = true ∧ (∀ t, a ≤ t → t < s → p t = false) ∧ ∀ n, k + 1 < n + 1 → whileL c f n (mk a) = .ok (.nx (mk s)) := by
    intro k
    induction k with
    | zero =>
      intro a ha e
      have e : a = N := by omega
      subst e
      refine ⟨a, Int.le_refl _, Int.le_refl _, hN, fun t h1 h2 => by omega, fun n hn => ?_⟩
      obtain ⟨m, rfl⟩ : ∃ m, n = m + 1 := ⟨n - 1, by omega⟩
      simp [whileL, hc a ha (Int.le_refl _), hN]
    | succ k ih =>
      intro a ha e
      cases hp : p a with
      | true =>
        refine ⟨a, Int.le_refl _, by omega, hp, fun t h1 h2 => by omega, fun n hn => ?_⟩
        obtain ⟨m, rfl⟩ : ∃ m, n = m + 1 := ⟨n - 1, by omega⟩
        simp [whileL, hc a ha (by omega), hp]
      | false =>
        obtain ⟨s, h2, h3, h4, h5, h6⟩ := ih (a + 1) (by omega) (by omega)
        refine ⟨s, by omega, h3, h4, fun t h7 h8 => ?_, fun n hn => ?_⟩
        · by_cases ht : t = a
          · rw [ht]; exact hp
          · exact h5 t (by omega) h8
        · obtain ⟨m, rfl⟩ : ∃ m, n = m + 1 := ⟨n - 1, by omega⟩
          simp only [whileL, hc a ha (by omega), hp, R.bind_ok, Bool.not_false, if_true, hf a ha (by omega), next_nx]
          exact h6 m (by omega)
  obtain ⟨s, a1, a2, a3, a4, a5⟩ := gen (N - 1).toNat 1 (Int.le_refl _) (by omega)
  exact ⟨s, a1, a2, a3, a4, fun n hn => a5 n (by omega)⟩
/-! ### the rising tuples from 0, by length -/
def nvS (n : Int) (F : List (List Int)) : List (List Int) := F.flatMap fun s => (rgI (s.getLastD 0 + 1) n).map fun t => s ++ [t]
def nvL (n : Int) : Nat → List (List Int)
  | 0 => [[0]]
  | j + 1 => nvS n (nvL n j)
structure Nv (n : Int) (j : Nat) (s : List Int) : Prop where
  len : s.length = j + 1
  hd : s.headD 1 = 0
  pw : s.Pairwise (· < ·)
  hi : ∀ x ∈ s, x < n
theorem getLastD_app (q : List Int) (x d : Int) : (q ++ [x]).getLastD d = x := by
  rw [List.getLastD_eq_getLast?, List.getLast?_append]
  rfl
theorem last_of {s : List Int} (h : s ≠ []) : ∃ q x, s = q ++ [x] := ⟨s.dropLast, s.getLast h, (List.dropLast_concat_getLast h).symm⟩
theorem nv_mem {n : Int} (hn : 1 ≤ n) : ∀ (j : Nat) (s : List Int), s ∈ nvL n j ↔ Nv n j s
  | 0, s => by
    rw [nvL, List.mem_singleton]
    constructor
    · rintro rfl
      exact ⟨rfl, rfl, by simp, by simp; omega⟩
    · intro h
      obtain ⟨x, rfl⟩ := List.length_eq_one_iff.mp h.len
      have := h.hd
      simp at this
      rw [this]
  | j + 1, s => by
    rw [nvL, nvS, List.mem_flatMap]
    constructor
    · rintro ⟨q, hq, hs⟩
      obtain ⟨t, ht, rfl⟩ := List.mem_map.mp hs
      have h := (nv_mem hn j q).mp hq
      have ht' := mem_rgI.mp ht
      have hqn : q ≠ [] := fun z => by have := h.len; rw [z] at this; simp at this
      obtain ⟨q', x, rfl⟩ := last_of hqn
      rw [getLastD_app] at ht'
      refine ⟨by rw [List.length_append, h.len]; rfl, ?_, ?_, fun y hy => ?_⟩
      · have := h.hd
        cases q' with
        | nil => simpa using this
        | cons a r => simpa using this
      · rw [List.pairwise_append]
        refine ⟨h.pw, by simp, fun a ha b hb => ?_⟩
        rw [List.mem_singleton.mp hb]
        rcases List.mem_append.mp ha with ha | ha
        · have := (List.pairwise_append.mp h.pw).2.2 a ha x (by simp)
          omega
        · rw [List.mem_singleton.mp ha]; omega
      · rcases List.mem_append.mp hy with hy | hy
        · exact h.hi y hy
        · rw [List.mem_singleton.mp hy]; omega
    · intro h
      have hsn : s ≠ [] := fun z => by have := h.len; rw [z] at this; simp at this
      obtain ⟨q, t, rfl⟩ := last_of hsn
      have hl := h.len
      rw [List.length_append] at hl
      simp at hl
      have hqn : q ≠ [] := fun z => by rw [z] at hl; simp at hl
      have h2 := List.pairwise_append.mp h.pw
      refine ⟨q, (nv_mem hn j q).mpr ⟨hl, ?_, h2.1, fun y hy => h.hi y (List.mem_append_left _ hy)⟩, List.mem_map.mpr ⟨t, mem_rgI.mpr ?_, rfl⟩⟩
      · have := h.hd
        cases q with
        | nil => exact absurd rfl hqn
        | cons a r => simpa using this
      · obtain ⟨q', x, rfl⟩ := last_of hqn
        rw [getLastD_app]
        have := h2.2.2 x (by simp) t (by simp)
        exact ⟨by omega, h.hi t (by simp)⟩
theorem lt_app {a b : List Int} (h : a.length = b.length) (hl : a < b) (c d : List Int) : a ++ c < b ++ d := by
  induction a generalizing b with
  | nil =>
    cases b with
    | nil => exact absurd hl (by simp)
    | cons _ _ => simp at h
  | cons x a ih =>
    cases b with
    | nil => simp at h
    | cons y b =>
      simp only [List.length_cons, Nat.add_right_cancel_iff] at h
      rw [List.cons_append, List.cons_append, List.cons_lt_cons_iff]
      rw [List.cons_lt_cons_iff] at hl
      rcases hl with hl | ⟨rfl, hl⟩
      · exact .inl hl
      · exact .inr ⟨rfl, ih h hl⟩
theorem nv_pw {n : Int} (hn : 1 ≤ n) : ∀ j : Nat, (nvL n j).Pairwise (· < ·)
  | 0 => by simp [nvL]
  | j + 1 => by
    rw [nvL, nvS, List.pairwise_flatMap]
    refine ⟨fun q hq => ?_, (nv_pw hn j).imp_of_mem fun {a b} ha hb hab x hx y hy => ?_⟩
    · rw [List.pairwise_map]
      exact (rgI_pw _ _).imp fun h => app_lt h [] [] q
    · obtain ⟨t, _, rfl⟩ := List.mem_map.mp hx
      obtain ⟨u, _, rfl⟩ := List.mem_map.mp hy
      exact lt_app (by rw [((nv_mem hn j a).mp ha).len, ((nv_mem hn j b).mp hb).len]) hab _ _
/-- how many there are at most -/
def dsc (n : Nat) : Nat → Nat
  | 0 => 1
  | j + 1 => dsc n j * (n - 1 - j)
theorem flat_len {α β : Type} {c : Nat} {f : α → List β} : ∀ {l : List α}, (∀ x ∈ l, (f x).length ≤ c) → (l.flatMap f).length ≤ l.length * c
  | [], _ => by simp
  | x :: l, h => by
    rw [List.flatMap_cons, List.length_append, List.length_cons, Nat.add_mul, Nat.one_mul, Nat.add_comm]
    exact Nat.add_le_add (flat_len fun y hy => h y (List.mem_cons_of_mem _ hy)) (h x List.mem_cons_self)
theorem pw_last : ∀ (j : Nat) (q : List Int) (x : Int), (q ++ [x]).Pairwise (· < ·) → (q ++ [x]).headD 1 = 0 → q.length = j → (j : Int) ≤ x
  | 0, q, x, _, h, hl => by
    have : q = [] := List.length_eq_zero_iff.mp hl
    subst this
    simp at h
    omega
  | j + 1, q, x, hp, h, hl => by
    have hqn : q ≠ [] := fun z => by rw [z] at hl; simp at hl
    obtain ⟨q', y, rfl⟩ := last_of hqn
    have h2 := List.pairwise_append.mp hp
    have := pw_last j q' y h2.1 (by
      cases q' with
      | nil => simpa using h
      | cons a r => simpa using h) (by simpa using hl)
    have := h2.2.2 y (by simp) x (by simp)
    omega
theorem nv_len {n : Int} (hn : 1 ≤ n) : ∀ j : Nat, (nvL n j).length ≤ dsc n.toNat j
  | 0 => by simp [nvL, dsc]
  | j + 1 => by
    rw [nvL, nvS, dsc]
    refine Nat.le_trans (flat_len (c := n.toNat - 1 - j) fun q hq => ?_) (Nat.mul_le_mul_right _ (nv_len hn j))
    have h := (nv_mem hn j q).mp hq
    have hqn : q ≠ [] := fun z => by have := h.len; rw [z] at this; simp at this
    obtain ⟨q', x, rfl⟩ := last_of hqn
    have hl := h.len
    have := pw_last j q' x h.pw h.hd (by simpa using hl)
    rw [List.length_map, length_rgI, getLastD_app]
    omega
theorem nv_set {n : Int} (hn : 1 ≤ n) {j : Nat} {s : List Int} (h : Nv n j s) : IsSet n s ∧ 0 ∈ s := by
  have hqn : s ≠ [] := fun z => by have := h.len; rw [z] at this; simp at this
  cases s with
  | nil => exact absurd rfl hqn
  | cons a r =>
    have ha : a = 0 := by have := h.hd; simpa using this
    subst ha
    refine ⟨⟨hqn, fun x hx => ?_, h.hi, h.pw⟩, by simp⟩
    rcases List.mem_cons.mp hx with hx | hx
    · omega
    · have := (List.pairwise_cons.mp h.pw).1 x hx
      omega
theorem set_nv {n : Int} {s : List Int} (h : IsSet n s) (h0 : 0 ∈ s) : ∃ j, s.length = j + 1 ∧ Nv n j s := by
  obtain ⟨q, rfl⟩ := head_zero h h0
  exact ⟨q.length, rfl, rfl, rfl, h.pw, h.hi⟩
/-- those that clap each beat once are the canons -/
theorem nv_cans {n : Int} {r : List Int} (hr : IsSet n r) {j : Nat} (hj : (r.length : Int) * (j + 1 : Nat) = n) : (nvL n j).filter (fun S => (clp n r S).all fun x => decide (x = 1)) = cans n r := by
  have hn : 1 ≤ n := by have := hr.pos; omega
  refine pwT_ext ((nv_pw hn j).filter _) (cans_pw hr) fun S => ?_
  rw [List.mem_filter, mem_cans hr, nv_mem hn]
  have one : IsSet n S → (((clp n r S).all fun x => decide (x = 1)) = true ↔ Canon n r S) := fun hS => by
    rw [← ones_iff hr.pos hS, List.all_eq_true]
    unfold clp
    constructor
    · intro h
      refine List.map_congr_left fun x hx => ?_
      have := h (cnt n r S x) (List.mem_map.mpr ⟨x, hx, rfl⟩)
      simpa using this
    · intro h y hy
      rw [h] at hy
      obtain ⟨x, _, rfl⟩ := List.mem_map.mp hy
      simp
  constructor
  · rintro ⟨h, h2⟩
    obtain ⟨hS, h0⟩ := nv_set hn h
    exact ⟨(one hS).mp h2, h0⟩
  · rintro ⟨c, h0⟩
    obtain ⟨i, hi, hv⟩ := set_nv c.s h0
    have hl := canon_len hr c
    have : i = j := by
      rw [hi] at hl
      have hrl : 0 < (r.length : Int) := by have := List.length_pos_iff.mpr hr.ne; omega
      have := Int.eq_of_mul_eq_mul_left (show (r.length : Int) ≠ 0 by omega) (hl.trans hj.symm)
      omega
    subst this
    exact ⟨hv, (one c.s).mpr c⟩
/-! ### sorted(set(..)) of what is there once -/
theorem lexLt_lt : ∀ a b : List Int, HT.lexLt a b = decide (a < b)
  | [], [] => by simp [HT.lexLt]
  | [], _ :: _ => by simp [HT.lexLt]
  | _ :: _, [] => by simp [HT.lexLt]
  | x :: a, y :: b => by
    rw [HT.lexLt, lexLt_lt a b, Bool.eq_iff_iff]
    by_cases h : x = y
    · subst h
      simp [List.cons_lt_cons_iff]
    · simp [h, List.cons_lt_cons_iff]
theorem ssT_srtT (l : List (List Int)) : ssT l = srtT (ded l) := by
  unfold ssT srtT
  congr 1
  funext x y
  rw [lexLt_lt]
  rfl
theorem ssT_ext {l m : List (List Int)} (hm : m.Pairwise (· < ·)) (h : ∀ x, x ∈ l ↔ x ∈ m) : ssT l = m := by
  rw [ssT_srtT]
  refine pwT_ext (srtT_lt (ded_nodup l)) hm fun x => ?_
  rw [mem_srtT, mem_ded]
  exact h x
/-! ### the text of a set, turned -/
def tx (n : Int) (l : List Int) : List Ch := (rgI 0 n).map fun x => if x ∈ l then 120 else 46
theorem tx_len (n : Int) (l : List Int) : (tx n l).length = n.toNat := by unfold tx; simp
theorem rg_shiftR (a b s : Int) : (rgI a b).map (fun x => x + s) = rgI (a + s) (b + s) := by
  unfold rgI
  rw [List.map_map, show b + s - (a + s) = b - a by omega]
  refine List.map_congr_left fun x _ => ?_
  show a + (x : Int) + s = a + s + x
  omega
theorem rg_rot {n s : Int} (h : 0 ≤ s ∧ s ≤ n) : rgI s n ++ rgI 0 s = (rgI 0 n).map fun x => (x + s) % n := by
  rw [rg_cut (a := 0) (b := n - s) (c := n) ⟨by omega, by omega⟩, List.map_append]
  congr 1
  · have e : (rgI 0 (n - s)).map (fun x => (x + s) % n) = (rgI 0 (n - s)).map fun x => x + s := List.map_congr_left fun x hx => by
      have := mem_rgI.mp hx
      exact Int.emod_eq_of_lt (by omega) (by omega)
    rw [e, rg_shiftR]
    congr 1 <;> omega
  · have e : (rgI (n - s) n).map (fun x => (x + s) % n) = (rgI (n - s) n).map fun x => x + (s - n) := List.map_congr_left fun x hx => by
      have := mem_rgI.mp hx
      have h1 : x + s = (x + (s - n)) + n * 1 := by omega
      rw [h1, Int.add_mul_emod_self_left]
      exact Int.emod_eq_of_lt (by omega) (by omega)
    rw [e, rg_shiftR]
    congr 1 <;> omega
theorem map_eq_iff {α β : Type} {f g : α → β} : ∀ {l : List α}, l.map f = l.map g ↔ ∀ x ∈ l, f x = g x
  | [] => by simp
  | x :: l => by
    rw [List.map_cons, List.map_cons, List.cons.injEq, map_eq_iff (l := l), List.forall_mem_cons]
theorem ch_iff {a b : Prop} [Decidable a] [Decidable b] : ((if a then 120 else 46 : Ch) = if b then 120 else 46) ↔ (a ↔ b) := by
  by_cases ha : a <;> by_cases hb : b <;> simp [ha, hb] <;> decide
theorem rot_iff {n s : Int} {l : List Int} (h : IsSet n l) (hs : 0 ≤ s ∧ s ≤ n) : (tx n l).drop s.toNat ++ (tx n l).take s.toNat = tx n l ↔ mv n l s = l := by
  have hn := h.pos
  have e1 : tx n l = (rgI 0 s).map (fun x => if x ∈ l then 120 else 46) ++ (rgI s n).map fun x => if x ∈ l then 120 else 46 := by
    unfold tx
    rw [rg_cut (a := 0) (b := s) (c := n) hs, List.map_append]
  have hl : ((rgI 0 s).map (fun x => if x ∈ l then (120 : Ch) else 46)).length = s.toNat := by simp
  have e2 : (tx n l).drop s.toNat ++ (tx n l).take s.toNat = (rgI 0 n).map fun x => if (x + s) % n ∈ l then 120 else 46 := by
    rw [e1, List.drop_append_of_le_length (by omega), List.drop_of_length_le (by omega), List.nil_append, List.take_append_of_le_length (by omega), List.take_of_length_le (by omega), ← List.map_append, rg_rot hs, List.map_map]
    rfl
  rw [e2]
  unfold tx
  rw [map_eq_iff]
  constructor
  · intro hh
    refine pw_ext (mv_pw n l s) h.pw fun x => ?_
    rw [mem_mv]
    constructor
    · rintro ⟨hx, hm⟩
      have h3 := ch_iff.mp (hh ((x - s) % n) (mem_rgI.mpr ⟨Int.emod_nonneg _ (by omega), Int.emod_lt_of_pos _ hn⟩))
      rw [Int.emod_add_emod, show x - s + s = x by omega, Int.emod_eq_of_lt hx.1 hx.2] at h3
      exact h3.mpr hm
    · intro hx
      have hx0 := h.lo x hx
      have hx1 := h.hi x hx
      have h3 := ch_iff.mp (hh ((x - s) % n) (mem_rgI.mpr ⟨Int.emod_nonneg _ (by omega), Int.emod_lt_of_pos _ hn⟩))
      rw [Int.emod_add_emod, show x - s + s = x by omega, Int.emod_eq_of_lt hx0 hx1] at h3
      exact ⟨⟨hx0, hx1⟩, h3.mp hx⟩
  · intro hh x hx
    have hx' := mem_rgI.mp hx
    refine ch_iff.mpr ?_
    have h3 : (x + s) % n ∈ mv n l s ↔ (x + s) % n ∈ l := by rw [hh]
    rw [mem_mv, Int.emod_sub_emod, show x + s - s = x by omega, Int.emod_eq_of_lt hx'.1 hx'.2] at h3
    rw [← h3]
    exact ⟨fun z => z.2, fun z => ⟨⟨Int.emod_nonneg _ (by omega), Int.emod_lt_of_pos _ hn⟩, z⟩⟩
end Cl
set_option Elab.async false
set_option linter.all false
set_option maxRecDepth 100000
set_option maxHeartbeats 1000000
namespace Cl
open PySem
/-! ### tilings -/
abbrev Tl := (Int × Int) × List Int
def fits (t : Tl) (x : Int) (l : List Int) : Bool := decide (x ∈ t.2) && t.2.all fun y => decide (y ∈ l)
def cutT (t : Tl) (l : List Int) : List Int := l.filter fun y => decide (y ∉ t.2)
def til (ts : List Tl) : Nat → List Int → List (List Tl)
  | 0, l => if l = [] then [[]] else []
  | j + 1, l => match l with
    | [] => [[]]
    | x :: q => ts.flatMap fun t => if fits t x (x :: q) then (til ts j (cutT t (x :: q))).map (t :: ·) else []
def bts (U : List Tl) : List Int := (U.map (·.2)).flatten
theorem fits_iff {t : Tl} {x : Int} {l : List Int} : fits t x l = true ↔ x ∈ t.2 ∧ ∀ y ∈ t.2, y ∈ l := by
  unfold fits
  simp
theorem mem_cutT {t : Tl} {l : List Int} {y : Int} : y ∈ cutT t l ↔ y ∈ l ∧ y ∉ t.2 := by
  unfold cutT
  simp
theorem cutT_nd {t : Tl} {l : List Int} (h : l.Nodup) : (cutT t l).Nodup := h.filter _
theorem cutT_lt {t : Tl} {x : Int} {l : List Int} (hx : x ∈ l) (ht : x ∈ t.2) : (cutT t l).length < l.length := by
  unfold cutT
  have h : ∀ l : List Int, x ∈ l → (l.filter fun y => decide (y ∉ t.2)).length < l.length := fun l => by
    induction l with
    | nil => intro h; cases h
    | cons a l ih =>
      intro h
      rw [List.filter_cons, List.length_cons]
      have hle : (l.filter fun y => decide (y ∉ t.2)).length ≤ l.length := List.length_filter_le _ _
      rcases List.mem_cons.mp h with rfl | h
      · rw [if_neg (by simpa using ht)]
        omega
      · have := ih h
        split
        · rw [List.length_cons]; omega
        · omega
  exact h l hx
/-- a tile and what it leaves -/
theorem cutT_perm {t : Tl} {l : List Int} (hl : l.Nodup) (ht : t.2.Nodup) (hs : ∀ y ∈ t.2, y ∈ l) : (t.2 ++ cutT t l).Perm l := by
  refine (List.perm_ext_iff_of_nodup ?_ hl).mpr fun y => ?_
  · rw [List.nodup_append]
    exact ⟨ht, cutT_nd hl, fun a ha b hb hab => (mem_cutT.mp hb).2 (hab ▸ ha)⟩
  · rw [List.mem_append, mem_cutT]
    constructor
    · rintro (h | h)
      · exact hs y h
      · exact h.1
    · intro h
      by_cases hy : y ∈ t.2
      · exact .inl hy
      · exact .inr ⟨h, hy⟩
/-- the tiles: none is empty, no beat twice in one -/
def TsOk (ts : List Tl) : Prop := ∀ t ∈ ts, t.2 ≠ [] ∧ t.2.Nodup
theorem til_sound {ts : List Tl} (ok : TsOk ts) : ∀ (j : Nat) (l : List Int), l.Nodup → ∀ U ∈ til ts j l, (∀ t ∈ U, t ∈ ts) ∧ (bts U).Perm l
  | 0, l, hl, U, h => by
    rw [til] at h
    split at h
    · rename_i e
      subst e
      obtain rfl := List.mem_singleton.mp h
      exact ⟨fun _ h => (by cases h), List.Perm.refl _⟩
    · cases h
  | j + 1, [], hl, U, h => by
    rw [til] at h
    obtain rfl := List.mem_singleton.mp h
    exact ⟨fun _ h => (by cases h), List.Perm.refl _⟩
  | j + 1, x :: q, hl, U, h => by
    rw [til] at h
    obtain ⟨t, ht, h⟩ := List.mem_flatMap.mp h
    split at h
    · rename_i hf
      obtain ⟨f1, f2⟩ := fits_iff.mp hf
      obtain ⟨V, hV, rfl⟩ := List.mem_map.mp h
      obtain ⟨h1, h2⟩ := til_sound ok j _ (cutT_nd hl) V hV
      refine ⟨fun u hu => ?_, ?_⟩
      · rcases List.mem_cons.mp hu with rfl | hu
        · exact ht
        · exact h1 u hu
      · show (t.2 ++ bts V).Perm _
        exact (List.Perm.append_left t.2 h2).trans (cutT_perm hl (ok t ht).2 f2)
    · cases h
theorem bts_mem {U : List Tl} {y : Int} : y ∈ bts U ↔ ∃ t ∈ U, y ∈ t.2 := by
  unfold bts
  rw [List.mem_flatten]
  constructor
  · rintro ⟨l, h1, h2⟩
    obtain ⟨t, ht, rfl⟩ := List.mem_map.mp h1
    exact ⟨t, ht, h2⟩
  · rintro ⟨t, ht, h⟩
    exact ⟨t.2, List.mem_map.mpr ⟨t, ht, rfl⟩, h⟩
theorem bts_perm {U V : List Tl} (h : U.Perm V) : (bts U).Perm (bts V) := (h.map _).flatten
/-- taking a tile of a tiling away -/
theorem bts_erase {U : List Tl} {t : Tl} {l : List Int} (hl : l.Nodup) (hp : (bts U).Perm l) (ht : t ∈ U) : (bts (U.erase t)).Perm (cutT t l) ∧ (∀ y ∈ t.2, y ∈ l) := by
  have h1 : U.Perm (t :: U.erase t) := List.perm_cons_erase ht
  have h2 : (t.2 ++ bts (U.erase t)).Perm l := (bts_perm h1).symm.trans hp
  have hnd : (t.2 ++ bts (U.erase t)).Nodup := h2.nodup_iff.mpr hl
  have h3 := List.nodup_append.mp hnd
  refine ⟨(List.perm_ext_iff_of_nodup h3.2.1 (cutT_nd hl)).mpr fun y => ?_, fun y hy => h2.mem_iff.mp (List.mem_append_left _ hy)⟩
  rw [mem_cutT, ← h2.mem_iff, List.mem_append]
  constructor
  · exact fun h => ⟨.inr h, fun z => h3.2.2 y z y h rfl⟩
  · rintro ⟨h | h, h'⟩
    · exact absurd h h'
    · exact h
theorem til_complete {ts : List Tl} : ∀ (j : Nat) (l : List Int), l.Nodup → l.length ≤ j → ∀ U : List Tl, (∀ t ∈ U, t ∈ ts ∧ t.2 ≠ []) → (bts U).Perm l → ∃ V ∈ til ts j l, V.Perm U
  | j, [], hl, hj, U, hU, hp => by
    have hU0 : U = [] := by
      cases U with
      | nil => rfl
      | cons t U =>
        have := (hU t List.mem_cons_self).2
        obtain ⟨y, hy⟩ := List.exists_mem_of_ne_nil _ this
        have := hp.mem_iff.mp (bts_mem.mpr ⟨t, List.mem_cons_self, hy⟩)
        cases this
    subst hU0
    refine ⟨[], ?_, List.Perm.refl _⟩
    cases j <;> simp [til]
  | 0, x :: q, hl, hj, U, hU, hp => by simp at hj
  | j + 1, x :: q, hl, hj, U, hU, hp => by
    obtain ⟨t, ht, hx⟩ := bts_mem.mp (hp.mem_iff.mpr (List.mem_cons_self (a := x) (l := q)))
    obtain ⟨h1, h2⟩ := bts_erase hl hp ht
    have hlt := cutT_lt (t := t) (List.mem_cons_self (a := x) (l := q)) hx
    obtain ⟨V, hV, hVp⟩ := til_complete j (cutT t (x :: q)) (cutT_nd hl) (by simp at hj hlt; omega) (U.erase t) (fun u hu => hU u (List.mem_of_mem_erase hu)) h1
    refine ⟨t :: V, ?_, (List.Perm.cons t hVp).trans (List.perm_cons_erase ht).symm⟩
    rw [til]
    refine List.mem_flatMap.mpr ⟨t, (hU t ht).1, ?_⟩
    rw [if_pos (fits_iff.mpr ⟨hx, h2⟩)]
    exact List.mem_map.mpr ⟨V, hV, rfl⟩
/-- two lists of the same tiles are one -/
theorem til_uniq {ts : List Tl} (ok : TsOk ts) : ∀ (j : Nat) (l : List Int), l.Nodup → ∀ U ∈ til ts j l, ∀ V ∈ til ts j l, U.Perm V → U = V
  | 0, l, hl, U, hU, V, hV, hp => by
    rw [til] at hU hV
    split at hU
    · rename_i e
      rw [if_pos e] at hV
      rw [List.mem_singleton.mp hU, List.mem_singleton.mp hV]
    · cases hU
  | j + 1, [], hl, U, hU, V, hV, hp => by
    rw [til] at hU hV
    rw [List.mem_singleton.mp hU, List.mem_singleton.mp hV]
  | j + 1, x :: q, hl, U, hU, V, hV, hp => by
    have sV := til_sound ok _ _ hl V hV
    rw [til] at hU hV
    obtain ⟨t, ht, hU⟩ := List.mem_flatMap.mp hU
    obtain ⟨u, hu, hV⟩ := List.mem_flatMap.mp hV
    split at hU
    case isFalse => cases hU
    split at hV
    case isFalse => cases hV
    rename_i hf hg
    obtain ⟨U', hU', rfl⟩ := List.mem_map.mp hU
    obtain ⟨V', hV', rfl⟩ := List.mem_map.mp hV
    have f1 := (fits_iff.mp hf).1
    have g1 := (fits_iff.mp hg).1
    have e : t = u := by
      have hm : t ∈ u :: V' := hp.mem_iff.mp List.mem_cons_self
      rcases List.mem_cons.mp hm with h | h
      · exact h
      · exfalso
        have hnd : (u.2 ++ bts V').Nodup := sV.2.nodup_iff.mpr hl
        exact (List.nodup_append.mp hnd).2.2 x g1 x (bts_mem.mpr ⟨t, h, f1⟩) rfl
    subst e
    rw [til_uniq ok j _ (cutT_nd hl) U' hU' V' hV' (List.perm_cons t |>.mp hp)]
theorem til_nodup {ts : List Tl} (hts : ts.Nodup) : ∀ (j : Nat) (l : List Int), (til ts j l).Nodup
  | 0, l => by rw [til]; split <;> simp
  | j + 1, [] => by simp [til]
  | j + 1, x :: q => by
    rw [til, List.nodup_iff_pairwise_ne, List.pairwise_flatMap]
    refine ⟨fun t _ => ?_, (List.nodup_iff_pairwise_ne.mp hts).imp fun {t u} htu a ha b hb e => ?_⟩
    · split
      · rw [List.pairwise_map]
        exact (List.nodup_iff_pairwise_ne.mp (til_nodup hts j _)).imp fun h e => h (List.cons.inj e).2
      · exact List.Pairwise.nil
    · split at ha
      · split at hb
        · obtain ⟨a', _, rfl⟩ := List.mem_map.mp ha
          obtain ⟨b', _, rfl⟩ := List.mem_map.mp hb
          exact htu (List.cons.inj e).1
        · cases hb
      · cases ha
/-- how many -/
def cov (ts : List Tl) (l : List Int) : Nat := (til ts l.length l).length
theorem cov_pos {ts : List Tl} (ok : TsOk ts) {l : List Int} (hl : l.Nodup) : 0 < cov ts l ↔ ∃ U : List Tl, (∀ t ∈ U, t ∈ ts) ∧ (bts U).Perm l := by
  unfold cov
  constructor
  · intro h
    obtain ⟨U, hU⟩ := List.exists_mem_of_length_pos h
    exact ⟨U, til_sound ok _ _ hl U hU⟩
  · rintro ⟨U, h1, h2⟩
    obtain ⟨V, hV, _⟩ := til_complete l.length l hl (Nat.le_refl _) U (fun t ht => ⟨h1 t ht, (ok t (h1 t ht)).1⟩) h2
    exact List.length_pos_of_mem hV
/-- more fuel changes nothing -/
theorem til_fuel {ts : List Tl} : ∀ (j k : Nat) (l : List Int), l.length ≤ j → l.length ≤ k → til ts j l = til ts k l
  | j, k, [], _, _ => by cases j <;> cases k <;> simp [til]
  | 0, _, _ :: _, h, _ => by simp at h
  | _ + 1, 0, _ :: _, _, h => by simp at h
  | j + 1, k + 1, x :: q, hj, hk => by
    rw [til, til]
    congr 1
    funext t
    split
    · rename_i hf
      have := cutT_lt (t := t) (List.mem_cons_self (a := x) (l := q)) (fits_iff.mp hf).1
      simp at hj hk this
      rw [til_fuel j k _ (by omega) (by omega)]
    · rfl
theorem len_flat {α β : Type} (f : α → List β) : ∀ l : List α, (l.flatMap f).length = (l.map fun x => (f x).length).sum
  | [] => rfl
  | x :: l => by rw [List.flatMap_cons, List.length_append, List.map_cons, List.sum_cons, len_flat f l]
/-- by the first beat -/
theorem cov_cons (ts : List Tl) (x : Int) (q : List Int) : cov ts (x :: q) = (ts.map fun t => if fits t x (x :: q) then cov ts (cutT t (x :: q)) else 0).sum := by
  unfold cov
  rw [List.length_cons, til, len_flat]
  congr 1
  refine List.map_congr_left fun t _ => ?_
  split
  · rename_i hf
    have := cutT_lt (t := t) (List.mem_cons_self (a := x) (l := q)) (fits_iff.mp hf).1
    rw [List.length_map, til_fuel q.length (cutT t (x :: q)).length _ (by simp at this; omega) (Nat.le_refl _)]
  · rfl
theorem cov_nil (ts : List Tl) : cov ts [] = 1 := by simp [cov, til]
theorem sum_perm {l m : List Nat} (h : l.Perm m) : l.sum = m.sum := by
  induction h with
  | nil => rfl
  | cons x _ ih => simp [ih]
  | swap x y l => simp; omega
  | trans _ _ h1 h2 => rw [h1, h2]
/-- only the beats count, in any order -/
theorem cov_perm {ts us : List Tl} (h : (ts.map (·.2)).Perm (us.map (·.2))) : ∀ (j : Nat) (l : List Int), l.length ≤ j → cov ts l = cov us l
  | j, [], _ => by rw [cov_nil, cov_nil]
  | 0, _ :: _, h => by simp at h
  | j + 1, x :: q, hj => by
    rw [cov_cons, cov_cons]
    have e1 : (ts.map fun t => if fits t x (x :: q) then cov ts (cutT t (x :: q)) else 0) = (ts.map (·.2)).map fun b => if fits ((0, 0), b) x (x :: q) then cov ts (cutT ((0, 0), b) (x :: q)) else 0 := by
      rw [List.map_map]; rfl
    have e2 : (us.map fun t => if fits t x (x :: q) then cov us (cutT t (x :: q)) else 0) = (us.map (·.2)).map fun b => if fits ((0, 0), b) x (x :: q) then cov ts (cutT ((0, 0), b) (x :: q)) else 0 := by
      rw [List.map_map]
      refine List.map_congr_left fun t _ => ?_
      show (if fits t x (x :: q) then cov us (cutT t (x :: q)) else 0) = if fits t x (x :: q) then cov ts (cutT t (x :: q)) else 0
      split
      · rename_i hf
        have := cutT_lt (t := t) (List.mem_cons_self (a := x) (l := q)) (fits_iff.mp hf).1
        rw [cov_perm h j _ (by simp at this hj; omega)]
      · rfl
    rw [e1, e2]
    exact sum_perm (h.map _)
theorem cov_app {ts us : List Tl} : ∀ (j : Nat) (l : List Int), l.length ≤ j → cov ts l ≤ cov (ts ++ us) l
  | j, [], _ => by rw [cov_nil, cov_nil]; exact Nat.le_refl _
  | 0, _ :: _, h => by simp at h
  | j + 1, x :: q, hj => by
    rw [cov_cons, cov_cons, List.map_append, List.sum_append]
    refine Nat.le_trans ?_ (Nat.le_add_right _ _)
    have gen : ∀ l : List Tl, (l.map fun t => if fits t x (x :: q) then cov ts (cutT t (x :: q)) else 0).sum ≤ (l.map fun t => if fits t x (x :: q) then cov (ts ++ us) (cutT t (x :: q)) else 0).sum := fun l => by
      induction l with
      | nil => exact Nat.le_refl _
      | cons t l ih =>
        rw [List.map_cons, List.map_cons, List.sum_cons, List.sum_cons]
        refine Nat.add_le_add ?_ ih
        split
        · rename_i hf
          have := cutT_lt (t := t) (List.mem_cons_self (a := x) (l := q)) (fits_iff.mp hf).1
          exact cov_app j _ (by simp at this hj; omega)
        · exact Nat.le_refl _
    exact gen ts
end Cl
set_option Elab.async false
set_option linter.all false
set_option maxRecDepth 100000
set_option maxHeartbeats 1000000
namespace Cl
open PySem
/-! ### the tiles of a rhythm -/
structure Per (n : Int) (r : List Int) (p : Int) : Prop where
  h1 : 1 ≤ p
  hn : p ≤ n
  hd : n % p = 0
  mv : mv n r p = r
  dvd : ∀ a, Cl.mv n r a = r → p ∣ a
def tlR (n p i : Int) (r : List Int) : List Tl := (rgI 0 p).map fun s => ((i, s), mv n r s)
section
variable {n p i : Int} {r : List Int} (hr : IsSet n r) (hp : Per n r p)
include hr
theorem mv0 : mv n r 0 = r := by
  refine pw_ext (mv_pw n r 0) hr.pw fun x => ?_
  rw [mem_mv, Int.sub_zero]
  constructor
  · rintro ⟨hx, hm⟩
    rw [Int.emod_eq_of_lt hx.1 hx.2] at hm
    exact hm
  · intro hx
    rw [Int.emod_eq_of_lt (hr.lo x hx) (hr.hi x hx)]
    exact ⟨⟨hr.lo x hx, hr.hi x hx⟩, hx⟩
include hp
theorem mv_mul : ∀ k : Nat, mv n r (p * k) = r
  | 0 => by rw [Int.natCast_zero, Int.mul_zero]; exact mv0 hr
  | k + 1 => by
    rw [show p * ((k + 1 : Nat) : Int) = p * k + p by rw [Int.natCast_add, Int.mul_add]; simp, ← mv_add hr.pos, mv_mul k]
    exact hp.mv
theorem mv_per {a : Int} (ha : 0 ≤ a) : mv n r (a % p) = mv n r a := by
  have h := hp.h1
  have hk : 0 ≤ a / p := Int.ediv_nonneg ha (by omega)
  obtain ⟨k, hk'⟩ := Int.eq_ofNat_of_zero_le hk
  have e : a = p * (k : Nat) + a % p := by
    have := Int.mul_ediv_add_emod a p
    rw [hk'] at this
    omega
  have := mv_mul hr hp k
  have h2 := mv_add hr.pos r (p * (k : Nat)) (a % p)
  rw [this] at h2
  rw [h2, ← e]
omit hp in
theorem tlR_mem {t : Tl} : t ∈ tlR n p i r ↔ (0 ≤ t.1.2 ∧ t.1.2 < p) ∧ t = ((i, t.1.2), mv n r t.1.2) := by
  unfold tlR
  rw [List.mem_map]
  constructor
  · rintro ⟨s, hs, rfl⟩
    exact ⟨mem_rgI.mp hs, rfl⟩
  · rintro ⟨h1, h2⟩
    exact ⟨t.1.2, mem_rgI.mpr h1, h2.symm⟩
omit hp in
theorem tlR_ok : TsOk (tlR n p i r) := fun t ht => by
  obtain ⟨_, e⟩ := (tlR_mem hr).mp ht
  rw [e]
  have h := hr.mv t.1.2
  exact ⟨h.ne, h.pw.imp fun h => by omega⟩
omit hp hr in
theorem tlR_nd : (tlR n p i r).Nodup := by
  unfold tlR
  rw [List.nodup_iff_pairwise_ne, List.pairwise_map]
  exact (rgI_pw 0 p).imp fun {a b} h e => by
    have := congrArg (fun t : Tl => t.1.2) e
    simp at this
    omega
theorem tlR_moved {m i' : Int} (hm : 0 ≤ m) : ((tlR n p i (mv n r m)).map (·.2)).Perm ((tlR n p i' r).map (·.2)) := by
  have h := hp.h1
  have e1 : (tlR n p i (mv n r m)).map (·.2) = ((rgI 0 p).map fun s => (m + s) % p).map (mv n r) := by
    unfold tlR
    rw [List.map_map, List.map_map]
    refine List.map_congr_left fun s hs => ?_
    have := mem_rgI.mp hs
    show mv n (mv n r m) s = mv n r ((m + s) % p)
    rw [mv_add hr.pos, mv_per hr hp (by omega)]
  have e2 : (tlR n p i' r).map (·.2) = (rgI 0 p).map (mv n r) := by
    unfold tlR
    rw [List.map_map]
    rfl
  rw [e1, e2]
  refine List.Perm.map _ ?_
  have inj : ∀ a b, 0 ≤ a → a < p → 0 ≤ b → b < p → (m + a) % p = (m + b) % p → a = b := fun a b h1 h2 h3 h4 e => by
    have : (m + a - m) % p = (m + b - m) % p := by rw [← Int.emod_sub_emod, e, Int.emod_sub_emod]
    rw [show m + a - m = a by omega, show m + b - m = b by omega, Int.emod_eq_of_lt h1 h2, Int.emod_eq_of_lt h3 h4] at this
    exact this
  refine (List.perm_ext_iff_of_nodup ?_ ((rgI_pw 0 p).imp fun h => by omega)).mpr fun x => ?_
  · rw [List.nodup_iff_pairwise_ne, List.pairwise_map]
    refine (rgI_pw 0 p).imp_of_mem fun {a b} ha hb hab e => ?_
    have h1 := mem_rgI.mp ha
    have h2 := mem_rgI.mp hb
    have := inj a b h1.1 h1.2 h2.1 h2.2 e
    omega
  · rw [List.mem_map, mem_rgI]
    constructor
    · rintro ⟨s, _, rfl⟩
      exact ⟨Int.emod_nonneg _ (by omega), Int.emod_lt_of_pos _ (by omega)⟩
    · intro hx
      refine ⟨(x - m) % p, mem_rgI.mpr ⟨Int.emod_nonneg _ (by omega), Int.emod_lt_of_pos _ (by omega)⟩, ?_⟩
      rw [Int.add_emod_emod, show m + (x - m) = x by omega, Int.emod_eq_of_lt hx.1 hx.2]
theorem Per.moved {m : Int} : Per n (Cl.mv n r m) p := by
  refine ⟨hp.h1, hp.hn, hp.hd, ?_, fun a ha => hp.dvd a ?_⟩
  · rw [mv_add hr.pos, Int.add_comm, ← mv_add hr.pos, hp.mv]
  · have h := congrArg (fun l => Cl.mv n l (-m)) ha
    simp only [mv_add hr.pos] at h
    rw [show m + a + -m = a by omega, show m + -m = 0 by omega, mv0 hr] at h
    exact h
/-! ### tilings by one rhythm and canons -/
omit hp hr in
theorem flat_apart {U : List Tl} (h : (bts U).Nodup) : U.Pairwise fun t u => ∀ y ∈ t.2, y ∉ u.2 := by
  unfold bts at h
  rw [List.nodup_iff_pairwise_ne, List.pairwise_flatten, List.pairwise_map] at h
  exact h.2.imp fun hh y hy hu => hh y hy y hu rfl
omit hp hr in
theorem apart_eq {U : List Tl} (h : (bts U).Nodup) {t u : Tl} (ht : t ∈ U) (hu : u ∈ U) {y : Int} (hy : y ∈ t.2) (hy' : y ∈ u.2) : t = u := by
  have hp := flat_apart h
  induction U with
  | nil => cases ht
  | cons a U ih =>
    obtain ⟨h1, h2⟩ := List.pairwise_cons.mp hp
    have hb : (bts U).Nodup := (List.nodup_append.mp h).2.1
    rcases List.mem_cons.mp ht with e1 | ht1
    · rcases List.mem_cons.mp hu with e2 | hu1
      · rw [e1, e2]
      · exact absurd hy' (h1 u hu1 y (e1 ▸ hy))
    · rcases List.mem_cons.mp hu with e2 | hu1
      · exact absurd hy (h1 t ht1 y (e2 ▸ hy'))
      · exact ih hb ht1 hu1 h2
omit hp in
theorem canon_of (hpn : p ≤ n) {U : List Tl} (hU : ∀ t ∈ U, t ∈ tlR n p i r) (hb : (bts U).Perm (rgI 0 n)) : (U.map (·.1.2)).Nodup ∧ Canon n r (srt (U.map (·.1.2))) := by
  have hn := hr.pos
  have hnd : (bts U).Nodup := hb.nodup_iff.mpr ((rgI_pw 0 n).imp fun h => by omega)
  have hm : ∀ t ∈ U, (0 ≤ t.1.2 ∧ t.1.2 < p) ∧ t = ((i, t.1.2), mv n r t.1.2) := fun t ht => (tlR_mem hr).mp (hU t ht)
  have nd : (U.map (·.1.2)).Nodup := by
    rw [List.nodup_iff_pairwise_ne, List.pairwise_map]
    refine (flat_apart hnd).imp_of_mem fun {t u} ht hu hap e => ?_
    have e2 : t = u := by rw [(hm t ht).2, (hm u hu).2, e]
    obtain ⟨y, hy⟩ := List.exists_mem_of_ne_nil _ (tlR_ok hr t (hU t ht)).1
    exact hap y hy (e2 ▸ hy)
  refine ⟨nd, ⟨?_, fun x hx => ?_, fun x hx => ?_, srt_lt nd⟩, fun x h0 h1 => ?_, fun x t u ht hu ct cu => ?_⟩
  · obtain ⟨t, ht, _⟩ := bts_mem.mp (hb.mem_iff.mpr (mem_rgI.mpr ⟨Int.le_refl 0, hn⟩))
    exact List.ne_nil_of_mem (mem_srt.mpr (List.mem_map.mpr ⟨t, ht, rfl⟩))
  · obtain ⟨t, ht, rfl⟩ := List.mem_map.mp (mem_srt.mp hx)
    exact (hm t ht).1.1
  · obtain ⟨t, ht, rfl⟩ := List.mem_map.mp (mem_srt.mp hx)
    have := (hm t ht).1.2
    omega
  · obtain ⟨t, ht, hx⟩ := bts_mem.mp (hb.mem_iff.mpr (mem_rgI.mpr ⟨h0, h1⟩))
    rw [(hm t ht).2] at hx
    exact ⟨t.1.2, mem_srt.mpr (List.mem_map.mpr ⟨t, ht, rfl⟩), (mem_mv.mp hx).2⟩
  · obtain ⟨t', ht', rfl⟩ := List.mem_map.mp (mem_srt.mp ht)
    obtain ⟨u', hu', rfl⟩ := List.mem_map.mp (mem_srt.mp hu)
    have hy : ∀ v ∈ U, Clp n r v.1.2 x → x % n ∈ v.2 := fun v hv hc => by
      rw [(hm v hv).2]
      exact mem_mv.mpr ⟨⟨Int.emod_nonneg _ (by omega), Int.emod_lt_of_pos _ hn⟩, clp_mod.mpr hc⟩
    rw [apart_eq hnd ht' hu' (hy t' ht' ct) (hy u' hu' cu)]
omit hp in
theorem canon_bts {S : List Int} (c : Canon n r S) : ((S.map (mv n r)).flatten).Perm (rgI 0 n) := by
  refine (List.perm_ext_iff_of_nodup ?_ ((rgI_pw 0 n).imp fun h => by omega)).mpr fun x => ?_
  · rw [List.nodup_iff_pairwise_ne, List.pairwise_flatten, List.pairwise_map]
    refine ⟨fun l hl => ?_, c.s.pw.imp_of_mem fun {a b} ha hb hab x hx y hy e => ?_⟩
    · obtain ⟨s, _, rfl⟩ := List.mem_map.mp hl
      exact (mv_pw n r s).imp fun h => by omega
    · subst e
      have := c.u x a b ha hb (mem_mv.mp hx).2 (mem_mv.mp hy).2
      omega
  · rw [List.mem_flatten, mem_rgI]
    constructor
    · rintro ⟨l, h1, h2⟩
      obtain ⟨s, _, rfl⟩ := List.mem_map.mp h1
      exact (mem_mv.mp h2).1
    · intro hx
      obtain ⟨t, ht, hc⟩ := c.c x hx.1 hx.2
      exact ⟨mv n r t, List.mem_map.mpr ⟨t, ht, rfl⟩, mem_mv.mpr ⟨hx, hc⟩⟩
theorem cov_canon : 0 < cov (tlR n p i r) (rgI 0 n) ↔ ∃ S, Canon n r S := by
  have h1 := hp.h1
  have nd0 : (rgI 0 n).Nodup := (rgI_pw 0 n).imp fun h => by omega
  rw [cov_pos (tlR_ok hr) nd0]
  constructor
  · rintro ⟨U, hU, hb⟩
    exact ⟨_, (canon_of hr hp.hn hU hb).2⟩
  · rintro ⟨S, c⟩
    refine ⟨S.map fun s => ((i, s % p), mv n r s), fun t ht => ?_, ?_⟩
    · obtain ⟨s, hs, rfl⟩ := List.mem_map.mp ht
      refine (tlR_mem hr).mpr ⟨⟨Int.emod_nonneg _ (by omega), Int.emod_lt_of_pos _ (by omega)⟩, ?_⟩
      show ((i, s % p), mv n r s) = ((i, s % p), mv n r (s % p))
      rw [mv_per hr hp (c.s.lo s hs)]
    · have : bts (S.map fun s => (((i, s % p), mv n r s) : Tl)) = (S.map (mv n r)).flatten := by
        unfold bts
        rw [List.map_map]
        rfl
      rw [this]
      exact canon_bts hr c
omit hp in
theorem til_names (hpn : p ≤ n) : ((til (tlR n p i r) (rgI 0 n).length (rgI 0 n)).map fun U => srt (U.map (·.1.2))).Nodup ∧ ∀ S ∈ (til (tlR n p i r) (rgI 0 n).length (rgI 0 n)).map fun U => srt (U.map (·.1.2)), Canon n r S := by
  have nd0 : (rgI 0 n).Nodup := (rgI_pw 0 n).imp fun h => by omega
  refine ⟨?_, fun S hS => ?_⟩
  · rw [List.nodup_iff_pairwise_ne, List.pairwise_map]
    refine (List.nodup_iff_pairwise_ne.mp (til_nodup tlR_nd _ _)).imp_of_mem fun {U V} hU hV hne e => hne ?_
    have sU := til_sound (tlR_ok hr) _ _ nd0 U hU
    have sV := til_sound (tlR_ok hr) _ _ nd0 V hV
    refine til_uniq (tlR_ok hr) _ _ nd0 U hU V hV ?_
    have h1 : (U.map (·.1.2)).Perm (V.map (·.1.2)) := (srt_perm _).symm.trans (e ▸ srt_perm _)
    have back : ∀ W : List Tl, (∀ t ∈ W, t ∈ tlR n p i r) → (W.map (·.1.2)).map (fun s => (((i, s), mv n r s) : Tl)) = W := fun W hW => by
      rw [List.map_map]
      refine (List.map_congr_left fun t ht => ?_).trans (List.map_id W)
      exact ((tlR_mem hr).mp (hW t ht)).2.symm
    have h2 := h1.map fun s => (((i, s), mv n r s) : Tl)
    rw [back U sU.1, back V sV.1] at h2
    exact h2
  · obtain ⟨U, hU, rfl⟩ := List.mem_map.mp hS
    have sU := til_sound (tlR_ok hr) _ _ nd0 U hU
    exact (canon_of hr hpn sU.1 sU.2).2
omit hp in
theorem cov_le (hpn : p ≤ n) : (cov (tlR n p i r) (rgI 0 n) : Int) ≤ (cans n r).length * r.length := by
  obtain ⟨h1, h2⟩ := til_names (i := i) hr hpn
  rw [← goods_len hr]
  unfold cov
  have := nd_len h1 fun S hS => (mem_goods hr).mpr (h2 S hS)
  rw [List.length_map] at this
  omega
omit hp in
theorem cov_eq : (cov (tlR n n i r) (rgI 0 n) : Int) = (cans n r).length * r.length := by
  have hle := cov_le (p := n) (i := i) hr (Int.le_refl _)
  have nd0 : (rgI 0 n).Nodup := (rgI_pw 0 n).imp fun h => by omega
  have hge : (goods n r).length ≤ ((til (tlR n n i r) (rgI 0 n).length (rgI 0 n)).map fun U => srt (U.map (·.1.2))).length := nd_len (pwT_nd (goods_pw hr)) fun S hS => by
    have c := (mem_goods hr).mp hS
    obtain ⟨V, hV, hVp⟩ := til_complete (ts := tlR n n i r) (rgI 0 n).length (rgI 0 n) nd0 (Nat.le_refl _) (S.map fun s => ((i, s), mv n r s)) (fun t ht => by
      obtain ⟨s, hs, rfl⟩ := List.mem_map.mp ht
      exact ⟨(tlR_mem hr).mpr ⟨⟨c.s.lo s hs, c.s.hi s hs⟩, rfl⟩, (hr.mv s).ne⟩) (by
      have : bts (S.map fun s => (((i, s), mv n r s) : Tl)) = (S.map (mv n r)).flatten := by
        unfold bts
        rw [List.map_map]
        rfl
      rw [this]
      exact canon_bts hr c)
    refine List.mem_map.mpr ⟨V, hV, ?_⟩
    have h1 : (V.map (·.1.2)).Perm S := by
      have := hVp.map fun t : Tl => t.1.2
      rw [List.map_map] at this
      have e : S.map ((fun t : Tl => t.1.2) ∘ fun s => ((i, s), mv n r s)) = S := (List.map_congr_left fun s _ => rfl).trans (List.map_id S)
      rw [e] at this
      exact this
    refine pw_ext (srt_lt (h1.nodup_iff.mpr (c.s.pw.imp fun h => by omega))) c.s.pw fun x => ?_
    rw [mem_srt]
    exact h1.mem_iff
  rw [List.length_map] at hge
  have := goods_len hr
  unfold cov at hle ⊢
  omega
end
end Cl
set_option Elab.async false
set_option linter.all false
set_option maxRecDepth 100000
set_option maxHeartbeats 1000000
namespace Cl
open PySem
theorem enum_zipG {α : Type} {f : α → D} : ∀ (l : List α) (n : Nat), enumD n (l.map f) = (l.zipIdx n).map fun p => .tup [.int (p.2 : Nat), f p.1]
  | [], n => rfl
  | c :: l, n => by
    rw [List.map_cons, enumD, enum_zipG l (n + 1), List.zipIdx_cons, List.map_cons]
def nmD (p : Int × Int) : D := .tup [.int p.1, .int p.2]
def tD (t : Tl) : D := .tup [nmD t.1, tI t.2]
/-- all tiles of some rhythms -/
def tlA (n : Int) (pr : List Int → Int) (rs : List (List Int)) : List Tl := rs.zipIdx.flatMap fun p => tlR n (pr p.1) (p.2 : Nat) p.1
theorem mem_tlA {n : Int} {pr : List Int → Int} {rs : List (List Int)} (h : ∀ r ∈ rs, IsSet n r) {t : Tl} : t ∈ tlA n pr rs ↔ ∃ (j : Nat) (r : List Int), rs[j]? = some r ∧ t.1.1 = j ∧ (0 ≤ t.1.2 ∧ t.1.2 < pr r) ∧ t.2 = mv n r t.1.2 := by
  unfold tlA
  rw [List.mem_flatMap]
  constructor
  · rintro ⟨⟨r, j⟩, h1, h2⟩
    have h3 := List.mk_mem_zipIdx_iff_getElem?.mp h1
    obtain ⟨h4, h5⟩ := (tlR_mem (h r (List.mem_of_getElem? h3))).mp h2
    refine ⟨j, r, h3, ?_, h4, ?_⟩
    · exact congrArg (fun t : Tl => t.1.1) h5
    · exact congrArg (fun t : Tl => t.2) h5
  · rintro ⟨j, r, h1, h2, h3, h4⟩
    refine ⟨(r, j), List.mk_mem_zipIdx_iff_getElem?.mpr h1, (tlR_mem (h r (List.mem_of_getElem? h1))).mpr ⟨h3, ?_⟩⟩
    obtain ⟨⟨a, b⟩, c⟩ := t
    simp only at h2 h4
    rw [h2, h4]
theorem tlA_ok {n : Int} {pr : List Int → Int} {rs : List (List Int)} (h : ∀ r ∈ rs, IsSet n r) : TsOk (tlA n pr rs) := fun t ht => by
  obtain ⟨j, r, h1, _, _, h4⟩ := (mem_tlA h).mp ht
  rw [h4]
  have := (h r (List.mem_of_getElem? h1)).mv t.1.2
  exact ⟨this.ne, this.pw.imp fun h => by omega⟩
def ltN (a b : Int × Int) : Prop := a.1 < b.1 ∨ a.1 = b.1 ∧ a.2 < b.2
theorem tlA_pw {n : Int} {pr : List Int → Int} {rs : List (List Int)} : (tlA n pr rs).Pairwise fun t u => ltN t.1 u.1 := by
  unfold tlA
  rw [List.pairwise_flatMap]
  have zp : ∀ (l : List (List Int)) (k : Nat), (l.zipIdx k).Pairwise (fun p q => p.2 < q.2) ∧ ∀ p ∈ l.zipIdx k, k ≤ p.2 := fun l => by
    induction l with
    | nil => intro k; simp
    | cons c l ih =>
      intro k
      obtain ⟨h1, h2⟩ := ih (k + 1)
      rw [List.zipIdx_cons]
      refine ⟨List.pairwise_cons.mpr ⟨fun q hq => by have := h2 q hq; show k < q.2; omega, h1⟩, fun p hp => ?_⟩
      rcases List.mem_cons.mp hp with rfl | hp
      · exact Nat.le_refl _
      · have := h2 p hp; omega
  refine ⟨fun p _ => ?_, (zp rs 0).1.imp fun {p q} hpq t ht u hu => ?_⟩
  · unfold tlR
    rw [List.pairwise_map]
    exact (rgI_pw _ _).imp fun h => .inr ⟨rfl, h⟩
  · unfold tlR at ht hu
    obtain ⟨s, _, rfl⟩ := List.mem_map.mp ht
    obtain ⟨s', _, rfl⟩ := List.mem_map.mp hu
    refine .inl ?_
    show ((p.2 : Nat) : Int) < ((q.2 : Nat) : Int)
    omega
theorem tlA_nd {n : Int} {pr : List Int → Int} {rs : List (List Int)} : (tlA n pr rs).Nodup := (tlA_pw (n := n) (pr := pr) (rs := rs)).imp fun {t u} h e => by
  subst e
  rcases h with h | h
  · omega
  · omega
theorem zip_app {α : Type} (a b : List α) (k : Nat) : (a ++ b).zipIdx k = a.zipIdx k ++ b.zipIdx (k + a.length) := List.zipIdx_append ..
/-! ### the first tiling -/
theorem cut_len {t : Tl} {l : List Int} (hl : l.Nodup) (ht : t.2.Nodup) : ((cutT t l).length : Int) = l.length - t.2.length ↔ ∀ y ∈ t.2, y ∈ l := by
  constructor
  · intro h y hy
    refine Classical.byContradiction fun hn => ?_
    have h1 : (cutT t l).length + (l.filter fun y => decide (y ∈ t.2)).length = l.length := by
      unfold cutT
      have : ∀ l : List Int, (l.filter fun y => decide (y ∉ t.2)).length + (l.filter fun y => decide (y ∈ t.2)).length = l.length := fun l => by
        induction l with
        | nil => rfl
        | cons a l ih =>
          rw [List.filter_cons, List.filter_cons]
          by_cases ha : a ∈ t.2
          · rw [if_neg (by simpa using ha), if_pos (by simpa using ha), List.length_cons, List.length_cons]; omega
          · rw [if_pos (by simpa using ha), if_neg (by simpa using ha), List.length_cons, List.length_cons]; omega
      exact this l
    have h2 : (l.filter fun y => decide (y ∈ t.2)).length ≤ (t.2.erase y).length := nd_len (hl.filter _) fun x hx => by
      obtain ⟨h3, h4⟩ := List.mem_filter.mp hx
      have hne : x ≠ y := fun z => hn (z ▸ h3)
      exact (List.mem_erase_of_ne hne).mpr (by simpa using h4)
    rw [List.length_erase_of_mem hy] at h2
    have := List.length_pos_of_mem hy
    omega
  · intro h
    have := (cutT_perm hl ht h).length_eq
    rw [List.length_append] at this
    omega
def accT (ts : List Tl) (t : Tl) (l : List Int) : Bool := (t.2.all fun y => decide (y ∈ l)) && decide (0 < cov ts (cutT t l))
def fstT : List Tl → List Int → List Tl
  | [], _ => []
  | t :: ts, l => if l = [] then [] else if accT ts t l then t :: fstT ts (cutT t l) else fstT ts l
theorem acc_or {t : Tl} {ts : List Tl} {l : List Int} (ok : TsOk (t :: ts)) (hl : l.Nodup) (h : 0 < cov (t :: ts) l) : accT ts t l = true ∨ 0 < cov ts l := by
  have ok' : TsOk ts := fun u hu => ok u (List.mem_cons_of_mem _ hu)
  obtain ⟨U, hU, hp⟩ := (cov_pos ok hl).mp h
  by_cases ht : t ∈ U
  · left
    obtain ⟨h1, h2⟩ := bts_erase hl hp ht
    unfold accT
    simp only [Bool.and_eq_true, List.all_eq_true, decide_eq_true_eq]
    refine ⟨h2, (cov_pos ok' (cutT_nd hl)).mpr ⟨U.erase t, fun u hu => ?_, h1⟩⟩
    rcases List.mem_cons.mp (hU u (List.mem_of_mem_erase hu)) with e | h3
    · exfalso
      subst e
      obtain ⟨y, hy⟩ := List.exists_mem_of_ne_nil _ (ok u List.mem_cons_self).1
      exact (mem_cutT.mp (h1.mem_iff.mp (bts_mem.mpr ⟨u, hu, hy⟩))).2 hy
    · exact h3
  · right
    refine (cov_pos ok' hl).mpr ⟨U, fun u hu => ?_, hp⟩
    rcases List.mem_cons.mp (hU u hu) with e | h3
    · exact absurd (e ▸ hu) ht
    · exact h3
theorem fst_ok : ∀ (ts : List Tl) (l : List Int), TsOk ts → l.Nodup → 0 < cov ts l → (fstT ts l).Sublist ts ∧ (bts (fstT ts l)).Perm l
  | [], l, ok, hl, h => by
    obtain ⟨U, hU, hp⟩ := (cov_pos ok hl).mp h
    have : U = [] := List.eq_nil_iff_forall_not_mem.mpr fun t ht => by cases hU t ht
    subst this
    exact ⟨.slnil, hp⟩
  | t :: ts, l, ok, hl, h => by
    have ok' : TsOk ts := fun u hu => ok u (List.mem_cons_of_mem _ hu)
    rw [fstT]
    split
    · rename_i e
      subst e
      exact ⟨List.nil_sublist _, List.Perm.refl _⟩
    · by_cases ha : accT ts t l = true
      · rw [if_pos ha]
        unfold accT at ha
        simp only [Bool.and_eq_true, List.all_eq_true, decide_eq_true_eq] at ha
        obtain ⟨h1, h2⟩ := fst_ok ts (cutT t l) ok' (cutT_nd hl) ha.2
        exact ⟨h1.cons₂ _, (List.Perm.append_left t.2 h2).trans (cutT_perm hl (ok t List.mem_cons_self).2 ha.1)⟩
      · rw [if_neg ha]
        have h2 := (acc_or ok hl h).resolve_left ha
        obtain ⟨h3, h4⟩ := fst_ok ts l ok' hl h2
        exact ⟨h3.cons _, h4⟩
theorem okE_nmD : OkE 1 nmD := fun p => by simp [nmD, D.pd, D.pds, PyData.canLay0, PyData.canLayAll0, PyData.depth, PyData.depthAll]
theorem eqE_nmD : EqE nmD := fun p q => by
  have h1 := eqE_int p.1 q.1
  have h2 := eqE_int p.2 q.2
  unfold deq at h1 h2 ⊢
  unfold nmD
  simp only [D.pd, D.pds, PyData.eqv, PyData.eqvAll] at h1 h2 ⊢
  rw [h1, h2, Bool.and_true, Bool.eq_iff_iff]
  simp [Prod.ext_iff]
theorem okE_tD : OkE 2 tD := fun t => by
  have h := okE_int.tup t.2
  have h2 := okE_nmD t.1
  unfold tD tI
  simp only [D.pd, D.pds, PyData.canLay0, PyData.canLayAll0, PyData.depth, PyData.depthAll] at h h2 ⊢
  exact ⟨by simp [h.1, h2.1], by omega⟩
end Cl
set_option Elab.async false
set_option linter.all false
set_option maxRecDepth 100000
set_option maxHeartbeats 1000000
namespace Cl
open PySem
/-! ### several rhythms -/
abbrev rsD (rs : List (List Int)) : D := .lst (rs.map tI)
theorem r_check_rhythms {k : Nat} {n : Int} {rs : List (List Int)} (hn : 1 ≤ n ∧ n ≤ 24) (hl : 1 ≤ rs.length ∧ rs.length ≤ 3) (h : ∀ r ∈ rs, IsSet n r) : run G (k + 4) 56 [.int n, rsD rs] = .ok .non := by
  rw [U_check_rhythms]
  have c1 : ev (run G (k + 3)) C_check_rhythms1 [.val (.int n), .val (rsD rs), .no] = .ok (.lst ((rs.map fun _ => true).map D.bl)) := by
    unfold C_check_rhythms1
    rw [lc_map (l := rs) (e := tI) (d := fun _ => .bl true), List.map_map]
    · rfl
    · simp
    · unfold lim; omega
    · rfl
    · rfl
    · intro r hr
      have h1 := h r hr
      have h2 := h1.len
      have h3 := r_has_set_t (k := k + 1) (n := n) (l := r) (by unfold lim; omega)
      rw [setOk_iff.mpr h1] at h3
      simp [h3]
  have h1 : (1 : Int) ≤ (rs.length : Int) := by omega
  have h2 : (rs.length : Int) ≤ 3 := by omega
  simp [-List.map_map, F_check_rhythms, r_check_cycle (k := k) (d := .int n), isInt, hn.1, hn.2, isiF, h1, h2, c1]
theorem r_check_small {k : Nat} {n : Int} {rs : List (List Int)} (hn : 1 ≤ n ∧ n ≤ 12) (hl : 1 ≤ rs.length ∧ rs.length ≤ 3) (h : ∀ r ∈ rs, IsSet n r) : run G (k + 5) 36 [.int n, rsD rs] = .ok .non := by
  rw [U_check_small]
  simp [F_check_small, r_check_rhythms (k := k) (show 1 ≤ n ∧ n ≤ 24 by omega) hl h, show ¬ 12 < n by omega]
theorem per_rg {n : Int} {l : List Int} (h : IsSet n l) : 1 ≤ per n l ∧ per n l ≤ n := by
  have := per_facts h
  exact ⟨this.1, this.2.1⟩
theorem per_is {n : Int} {l : List Int} (h : IsSet n l) : Per n l (per n l) := by
  obtain ⟨h1, h2, h3, h4⟩ := per_facts h
  exact ⟨h1, h2, h3, h4, fun a ha => per_dvd h ha⟩
theorem tl_len {n : Int} {rs : List (List Int)} (h : ∀ r ∈ rs, IsSet n r) (hn : n ≤ 24) (hl : rs.length ≤ 3) : (tlA n (per n) rs).length ≤ 72 := by
  unfold tlA
  have hl' : rs.zipIdx.length ≤ 3 := by rw [List.length_zipIdx]; exact hl
  refine Nat.le_trans (flat_len (c := 24) fun p hp => ?_) (Nat.le_trans (Nat.mul_le_mul_right 24 hl') (by decide))
  have := per_rg (h p.1 (List.fst_mem_of_mem_zipIdx hp))
  unfold tlR
  rw [List.length_map, length_rgI]
  omega
theorem r_all_tiles {k : Nat} {n : Int} {rs : List (List Int)} (hn : 1 ≤ n ∧ n ≤ 24) (hl : rs.length ≤ 3) (h : ∀ r ∈ rs, IsSet n r) : run G (k + 3) 57 [.int n, rsD rs] = .ok (.lst ((tlA n (per n) rs).map tD)) := by
  have htl := tl_len h hn.2 hl
  rw [U_all_tiles]
  simp only [F_all_tiles]
  rw [exs_nx (e1 := [.val (.int n), .val (rsD rs), .own [], .no, .no, .no]) (by simp)]
  obtain ⟨env', b1, b2⟩ := for_pre (f := fun d e => (setTg (.tp [3, 4]) d e).bind fun e1 => exs (run G (k + 2)) S_all_tiles2 e1) (e := fun p : List Int × Nat => .tup [.int (p.2 : Nat), tI p.1]) rs.zipIdx
    (fun q env => ∃ s3 s4 s5, env = [.val (.int n), .val (rsD rs), .own ((q.flatMap fun p => tlR n (per n p.1) (p.2 : Nat) p.1).map tD), s3, s4, s5])
    (fun q p q' hq env hI => by
      obtain ⟨s3, s4, s5, rfl⟩ := hI
      obtain ⟨r, j⟩ := p
      have hr : IsSet n r := h r (List.fst_mem_of_mem_zipIdx (show (r, j) ∈ rs.zipIdx by rw [hq]; simp))
      have hper := per_rg hr
      obtain ⟨B, hB⟩ : ∃ B, B = q.flatMap fun p => tlR n (per n p.1) (p.2 : Nat) p.1 := ⟨_, rfl⟩
      have hBl : B.length + (tlR n (per n r) (j : Nat) r).length ≤ 72 := by
        have h0 := htl
        unfold tlA at h0
        rw [hq, List.flatMap_append, List.flatMap_cons, List.length_append, List.length_append, ← hB] at h0
        dsimp only at h0
        omega
      rw [← hB]
      obtain ⟨env2, d1, d2⟩ := for_pre (f := fun d e => (setTg (.nm 5) d e).bind fun e1 => exs (run G (k + 2)) S_all_tiles1 e1) (e := D.int) (rgI 0 (per n r))
        (fun z env => ∃ s5, env = [.val (.int n), .val (rsD rs), .own ((B ++ z.map fun s => (((j : Int), s), mv n r s)).map tD), .val (.int (j : Nat)), .val (tI r), s5])
        (fun z s z' hz env hI => by
          obtain ⟨s5, rfl⟩ := hI
          have hzl : z.length < 72 - B.length + 0 := by
            have h1 := congrArg List.length hz
            unfold tlR at hBl
            rw [List.length_map] at hBl
            simp at h1
            rw [length_rgI] at hBl
            omega
          refine ⟨[.val (.int n), .val (rsD rs), .own ((B ++ (z ++ [s]).map fun s => (((j : Int), s), mv n r s)).map tD), .val (.int (j : Nat)), .val (tI r), .val (.int s)], ?_, _, rfl⟩
          have e0 : B ++ (z ++ [s]).map (fun s => (((j : Int), s), mv n r s)) = (B ++ z.map fun s => (((j : Int), s), mv n r s)) ++ [(((j : Int), s), mv n r s)] := by rw [List.map_append, List.append_assoc]; rfl
          obtain ⟨Cc, hCc⟩ : ∃ Cc : List Tl, Cc = B ++ z.map fun s => (((j : Int), s), mv n r s) := ⟨_, rfl⟩
          have hlim : Cc.length < lim := by rw [hCc]; simp; unfold lim; omega
          rw [e0, ← hCc, List.map_append]
          simp [-fold_tI, S_all_tiles1, r_move_by (k := k + 1) (m := s) hr (show n ≤ 100000 by omega), hlim, show (2 : Nat) ≤ lim by decide]
          rfl) [.val (.int n), .val (rsD rs), .own (B.map tD), .val (.int (j : Nat)), .val (tI r), s5] ⟨s5, by simp⟩
      obtain ⟨s5', rfl⟩ := d2
      refine ⟨[.val (.int n), .val (rsD rs), .own (((q ++ [(r, j)]).flatMap fun p => tlR n (per n p.1) (p.2 : Nat) p.1).map tD), .val (.int (j : Nat)), .val (tI r), s5'], ?_, _, _, _, rfl⟩
      have e : (q ++ [(r, j)]).flatMap (fun p => tlR n (per n p.1) (p.2 : Nat) p.1) = B ++ (rgI 0 (per n r)).map fun s => (((j : Int), s), mv n r s) := by
        rw [List.flatMap_append, ← hB]
        simp [tlR]
      rw [e]
      show exs (run G (k + 2)) S_all_tiles2 [.val (.int n), .val (rsD rs), .own (B.map tD), .val (.int (j : Nat)), .val (tI r), s5] = _
      unfold S_all_tiles2
      rw [exs_nx (by
        rw [x_for]
        simp only [noBor_rng, if_true, vi_rng, vr_one, v_call, vs_cons, vs_nil, isBor_var, v_var, List.getElem?_cons_succ, List.getElem?_cons_zero, slotV_val, R.bind_ok, intD_int, Bool.false_eq_true, if_false, r_find_period (k := k) hr (show n ≤ 10000 by omega)]
        rw [rgD_is 0 (per n r) (by omega), R.bind_ok]
        exact d1)]
      rfl) [.val (.int n), .val (rsD rs), .own [], .no, .no, .no] ⟨.no, .no, .no, by simp⟩
  obtain ⟨s3, s4, s5, rfl⟩ := b2
  rw [exs_nx (by
    rw [x_for]
    simp only [noBor_enum, isBor_var, Bool.not_false, if_true, vi_enum, v_var, List.getElem?_cons_succ, List.getElem?_cons_zero, slotV_val, R.bind_ok, lstD_lst, enum_zipG]
    exact b1)]
  simp [tlA]
theorem r_covers : ∀ (j k : Nat) (ts : List Tl) (l : List Int), l.length ≤ j → (∀ t ∈ ts, t.2.length ≤ 1000) → l.length ≤ 1000 → run G (k + j + 1) 60 [.lst (ts.map tD), tI l] = .ok (.int (cov ts l)) := by
  intro j
  induction j with
  | zero =>
    intro k ts l hj _ _
    have : l = [] := List.length_eq_zero_iff.mp (by omega)
    subst this
    rw [U_count_covers]
    simp [F_count_covers, memoB, memo1, cov_nil]
  | succ j ih =>
    intro k ts l hj hts hl
    rw [U_count_covers]
    simp only [F_count_covers, memoB]
    cases l with
    | nil => simp [memo1, cov_nil]
    | cons x q =>
      obtain ⟨l, hl0⟩ : ∃ l, l = x :: q := ⟨_, rfl⟩
      have hne : l ≠ [] := by rw [hl0]; simp
      have hix : idxF (tI l) (.int 0) = some (.int x) := by rw [hl0]; exact atI_nat (by decide) rfl
      have hl1 : l.length ≤ 1000 := by rw [hl0]; exact hl
      have hll : l.length ≤ lim := by unfold lim; omega
      rw [← hl0] at hj ⊢
      rw [exs_nx (e1 := [.val (.lst (ts.map tD)), .val (tI l), .no, .no, .no, .no, .no]) (by simp [memo1, hne])]
      rw [exs_nx (e1 := [.val (.lst (ts.map tD)), .val (tI l), .no, .val (.int ((([] : List Tl).map fun t => if fits t x l then cov ts (cutT t l) else 0).sum : Nat)), .no, .no, .no]) (by simp)]
      obtain ⟨env', b1, b2⟩ := for_pre (f := fun d e => (setTg (.tp [4, 5]) d e).bind fun e1 => exs (run G (k + (j + 1))) (memoL 60 M_count_covers) e1) (e := tD) ts
        (fun p env => ∃ s4 s5, env = [.val (.lst (ts.map tD)), .val (tI l), .no, .val (.int ((p.map fun t => if fits t x l then cov ts (cutT t l) else 0).sum : Nat)), s4, s5, .no])
        (fun p t p' hp env hI => by
          obtain ⟨s4, s5, rfl⟩ := hI
          have ht : t ∈ ts := by rw [hp]; simp
          have htl := hts t ht
          obtain ⟨tot, htot⟩ : ∃ tot : Nat, tot = (p.map fun t => if fits t x l then cov ts (cutT t l) else 0).sum := ⟨_, rfl⟩
          rw [← htot]
          have c1 : ev (run G (k + (j + 1))) C_count_covers1 [.val (.lst (ts.map tD)), .val (tI l), .no, .val (.int tot), .val (nmD t.1), .val (tI t.2), .no] = .ok (.lst ((t.2.map fun y => decide (y ∈ l)).map D.bl)) := by
            unfold C_count_covers1
            rw [lc_map (l := t.2) (e := D.int) (d := fun y => .bl (decide (y ∈ l))), List.map_map]
            · rfl
            · simp
            · unfold lim; omega
            · rfl
            · rfl
            · intro y hy
              simp
          have cA : ev (run G (k + (j + 1))) memoA [.val (.lst (ts.map tD)), .val (tI l), .no, .val (.int tot), .val (nmD t.1), .val (tI t.2), .no] = .ok (tI (cutT t l)) := by
            unfold memoA
            have c2 : ev (run G (k + (j + 1))) (.lc (.var 6) (.nm 6) (.tup (.var 1)) (.some (.cmp .notin (.var 6) (.var 5))) [6]) [.val (.lst (ts.map tD)), .val (tI l), .no, .val (.int tot), .val (nmD t.1), .val (tI t.2), .no] = .ok (.lst ((cutT t l).map D.int)) := by
              unfold cutT
              rw [lc_filter (l := l) (e := D.int) (d := D.int) (c := fun y => decide (y ∉ t.2))]
              · simp
              · exact hll
              · rfl
              · rfl
              · intro y hy
                simp
              · intro y hy _
                simp
            simp [c2]
          have esum : (((p ++ [t]).map fun t => if fits t x l then cov ts (cutT t l) else 0).sum : Nat) = tot + if fits t x l then cov ts (cutT t l) else 0 := by
            rw [List.map_append, List.sum_append, htot]
            simp
          rw [esum]
          simp only [setTg, tD, setAll, R.bind_ok, List.set_cons_succ, List.set_cons_zero]
          by_cases hx : x ∈ t.2
          · by_cases ha : ∀ y ∈ t.2, y ∈ l
            · have hf : fits t x l = true := fits_iff.mpr ⟨hx, ha⟩
              have hlt := cutT_lt (t := t) (l := l) (x := x) (by rw [hl0]; simp) hx
              have again := ih k ts (cutT t l) (by omega) hts (by omega)
              have again' : run G (k + (j + 1)) 60 [.lst (ts.map tD), tI (cutT t l)] = .ok (.int (cov ts (cutT t l))) := again
              have hall : ((t.2.map fun y => decide (y ∈ l)).all id) = true := by simpa using ha
              obtain ⟨Vs, hVs⟩ : ∃ Vs : Int, Vs = ((tot + cov ts (cutT t l) : Nat) : Int) := ⟨_, rfl⟩
              refine ⟨[.val (.lst (ts.map tD)), .val (tI l), .no, .val (.int Vs), .val (nmD t.1), .val (tI t.2), .no], ?_, .val (nmD t.1), .val (tI t.2), by rw [if_pos hf, hVs]⟩
              have ecast : (tot : Int) + (cov ts (cutT t l) : Int) = Vs := by omega
              simp only [memoL, M_count_covers, xs_cons, x_ite, v_T, isTest_and, isTest_cmp, isTest_one, isTest_bi, Bool.and_self, if_true, v_and, v_cmp, v_idx, v_var, v_cst, cst_int, List.getElem?_cons_succ, List.getElem?_cons_zero, slotV_val, R.bind_ok, hix, R.ofO_some]
              simp [-List.map_map, hx, c1, hall, cA, again', ecast, show memoA.isBor = false from rfl]
            · have hf : fits t x l = false := by
                rw [Bool.eq_false_iff]
                exact fun z => ha (fits_iff.mp z).2
              have hall : ((t.2.map fun y => decide (y ∈ l)).all id) = false := by
                rw [Bool.eq_false_iff]
                intro z
                exact ha (by simpa using z)
              refine ⟨[.val (.lst (ts.map tD)), .val (tI l), .no, .val (.int tot), .val (nmD t.1), .val (tI t.2), .no], ?_, .val (nmD t.1), .val (tI t.2), by rw [hf]; simp⟩
              simp only [memoL, M_count_covers, xs_cons, x_ite, v_T, isTest_and, isTest_cmp, isTest_one, isTest_bi, Bool.and_self, if_true, v_and, v_cmp, v_idx, v_var, v_cst, cst_int, List.getElem?_cons_succ, List.getElem?_cons_zero, slotV_val, R.bind_ok, hix, R.ofO_some]
              simp [-List.map_map, hx, c1, hall]
          · have hf : fits t x l = false := by
              rw [Bool.eq_false_iff]
              exact fun z => hx (fits_iff.mp z).1
            refine ⟨[.val (.lst (ts.map tD)), .val (tI l), .no, .val (.int tot), .val (nmD t.1), .val (tI t.2), .no], ?_, .val (nmD t.1), .val (tI t.2), by rw [hf]; simp⟩
            simp only [memoL, M_count_covers, xs_cons, x_ite, v_T, isTest_and, isTest_cmp, isTest_one, isTest_bi, Bool.and_self, if_true, v_and, v_cmp, v_idx, v_var, v_cst, cst_int, List.getElem?_cons_succ, List.getElem?_cons_zero, slotV_val, R.bind_ok, hix, R.ofO_some]
            simp [hx]) _ ⟨.no, .no, rfl⟩
      obtain ⟨s4, s5, rfl⟩ := b2
      rw [exs_nx (by
        rw [x_for]
        simp only [noBor_lst, isBor_var, Bool.not_false, if_true, vi_lst, v_var, List.getElem?_cons_zero, slotV_val, R.bind_ok, lstD_lst]
        exact b1)]
      have e : cov ts l = (ts.map fun t => if fits t x l then cov ts (cutT t l) else 0).sum := by rw [hl0]; exact cov_cons ts x q
      simp [e]
theorem rg_nd (n : Int) : (rgI 0 n).Nodup := (rgI_pw 0 n).imp fun h => by omega
theorem memo_ok {ts : D} {l : List Int} (h : l.length ≤ 20) : memoArgs [ts, tI l] = true := by
  unfold tI
  simp only [memoArgs, ints?_map, Option.isSome_some, Bool.true_and, List.length_map, decide_eq_true_eq]
  exact h
theorem tl_small {n : Int} {ts : List Tl} (hn : n ≤ 24) (h : ∀ t ∈ ts, ∃ r s, IsSet n r ∧ t.2 = mv n r s) : ∀ t ∈ ts, t.2.length ≤ 1000 := fun t ht => by
  obtain ⟨r, s, hr, e⟩ := h t ht
  have := (hr.mv s).len
  rw [e]
  omega
theorem tlA_mv {n : Int} {rs : List (List Int)} (h : ∀ r ∈ rs, IsSet n r) : ∀ t ∈ tlA n (per n) rs, ∃ r s, IsSet n r ∧ t.2 = mv n r s := fun t ht => by
  obtain ⟨j, r, h1, _, _, h4⟩ := (mem_tlA h).mp ht
  exact ⟨r, _, h r (List.mem_of_getElem? h1), h4⟩
/-- a call with a new table -/
theorem v_cov {k j : Nat} {ts : List Tl} {l : List Int} (hts : ∀ t ∈ ts, t.2.length ≤ 1000) (hl : l.length ≤ 20) (hj : l.length ≤ j) : (if memoArgs [.lst (ts.map tD), tI l] then memoR (run G (k + j + 1) 60 [.lst (ts.map tD), tI l]) else .bad) = .ok (.int (cov ts l)) := by
  rw [if_pos (memo_ok hl), r_covers j k ts l hj hts (by omega)]
  rfl
/-- the number of tilings -/
def cnt' (n : Int) (rs : List (List Int)) : Nat := cov (tlA n (per n) rs) (rgI 0 n)
section
variable {n : Int} {rs : List (List Int)} (hn : 1 ≤ n ∧ n ≤ 12) (hl : 1 ≤ rs.length ∧ rs.length ≤ 3) (h : ∀ r ∈ rs, IsSet n r)
include hn hl h
theorem r_find_count {k : Nat} : run G (k + 16) 61 [.int n, rsD rs] = .ok (.int (cnt' n rs)) := by
  rw [U_find_count]
  have h1 := r_all_tiles (k := k + 12) (show 1 ≤ n ∧ n ≤ 24 by omega) hl.2 h
  have h2 := v_cov (k := k + 2) (j := 12) (ts := tlA n (per n) rs) (l := rgI 0 n) (tl_small (by omega) (tlA_mv h)) (by simp; omega) (by simp; omega)
  have h2' : (if memoArgs [.lst ((tlA n (per n) rs).map tD), tI (rgI 0 n)] then memoR (run G (k + 15) 60 [.lst ((tlA n (per n) rs).map tD), tI (rgI 0 n)]) else .bad) = .ok (.int (cnt' n rs)) := h2
  have h3 : (.tup ((rgI 0 n).map D.int) : D) = tI (rgI 0 n) := rfl
  simp only [F_find_count, xs_cons, x_ret, v_V, isBor_callD, Bool.false_eq_true, if_false, v_callD, vs_cons, vs_nil, isBor_call, isBor_rgt, v_call, isBor_var, v_var, List.getElem?_cons_succ, List.getElem?_cons_zero, slotV_val, R.bind_ok, h1, v_rgt1, vr_one, intD_int, rgD_is 0 n (by omega), h3, h2']
  rfl
theorem r_can_tile {k : Nat} : run G (k + 17) 62 [.int n, rsD rs] = .ok (.bl (decide (0 < cnt' n rs))) := by
  rw [U_can_tile]
  simp [F_can_tile, r_check_small (k := k + 11) hn hl h, r_find_count hn hl h (k := k)]
theorem r_count_tilings {k : Nat} : run G (k + 17) 63 [.int n, rsD rs] = .ok (.int (cnt' n rs)) := by
  rw [U_count_tilings]
  simp [F_count_tilings, r_check_small (k := k + 11) hn hl h, r_find_count hn hl h (k := k)]
end
abbrev nmL (U : List Tl) : D := .tup (U.map fun t => nmD t.1)
theorem fst_while {k : Nat} {s0 s1 : Slot} : ∀ (m : Nat) (ts : List Tl) (l : List Int) (fd : List Tl) (s5 s6 s7 s8 : Slot), ts.length < m → TsOk ts → (∀ t ∈ ts, t.2.length ≤ 1000) → l.Nodup → l.length ≤ 12 → fd.length + ts.length ≤ 1000 →
    ∃ s2 s3 u5 u6 u7 u8, whileL (evT (run G (k + 13)) (.and (.cmp .ne (.var 2) (.lst .nil)) (.one (.cmp .ne (.var 3) (.tup .nil))))) (exs (run G (k + 13)) S_first_tiling1) m [s0, s1, .val (.lst (ts.map tD)), .val (tI l), .val (nmL fd), s5, s6, s7, s8] = .ok (.nx [s0, s1, s2, s3, .val (nmL (fd ++ fstT ts l)), u5, u6, u7, u8]) := by
  intro m
  induction m with
  | zero => intro ts l fd s5 s6 s7 s8 hm; omega
  | succ m ih =>
    intro ts l fd s5 s6 s7 s8 hm ok hts hnd hl hfd
    unfold whileL
    have okL : ∀ U : List Tl, (D.lst (U.map tD)).okD = true := fun U => okE_tD.lst.ok (by decide) U
    cases ts with
    | nil =>
      refine ⟨.val (.lst []), .val (tI l), s5, s6, s7, s8, ?_⟩
      simp [fstT]
    | cons t ts =>
      have hne : deq (.lst ((t :: ts).map tD)) (.lst []) = false := by
        simp only [deq, D.pd, List.map_cons, D.pds, PyData.eqv, PyData.eqvAll]
      by_cases hl0 : l = []
      · subst hl0
        refine ⟨.val (.lst ((t :: ts).map tD)), .val (tI []), s5, s6, s7, s8, ?_⟩
        have e : fstT (t :: ts) [] = [] := by rw [fstT, if_pos rfl]
        rw [e, List.append_nil]
        have et : evT (run G (k + 13)) (.and (.cmp .ne (.var 2) (.lst .nil)) (.one (.cmp .ne (.var 3) (.tup .nil)))) [s0, s1, .val (.lst ((t :: ts).map tD)), .val (tI []), .val (nmL fd), s5, s6, s7, s8] = .ok false := by
          simp [-List.map_cons, c_ne (okL _) ok_nilL, hne]
        rw [et]
        rfl
      · have et : evT (run G (k + 13)) (.and (.cmp .ne (.var 2) (.lst .nil)) (.one (.cmp .ne (.var 3) (.tup .nil)))) [s0, s1, .val (.lst ((t :: ts).map tD)), .val (tI l), .val (nmL fd), s5, s6, s7, s8] = .ok true := by
          simp [-List.map_cons, c_ne (okL _) ok_nilL, hne, hl0]
        rw [et, R.bind_ok, if_pos rfl]
        have ht := ok t List.mem_cons_self
        have ok' : TsOk ts := fun u hu => ok u (List.mem_cons_of_mem _ hu)
        have hts' : ∀ u ∈ ts, u.2.length ≤ 1000 := fun u hu => hts u (List.mem_cons_of_mem _ hu)
        have hll : l.length ≤ lim := by unfold lim; omega
        have c1 : ∀ s2 s7, ev (run G (k + 13)) C_first_tiling1 [s0, s1, s2, .val (tI l), .val (nmL fd), .val (nmD t.1), .val (tI t.2), s7, s8] = .ok (.lst ((cutT t l).map D.int)) := fun s2 s7 => by
          unfold C_first_tiling1 cutT
          rw [lc_filter (l := l) (e := D.int) (d := D.int) (c := fun y => decide (y ∉ t.2))]
          · simp
          · exact hll
          · rfl
          · rfl
          · intro y hy
            simp
          · intro y hy _
            simp
        have hcl : (cutT t l).length ≤ l.length := List.length_filter_le _ _
        have hcv := v_cov (k := k) (j := 12) (ts := ts) (l := cutT t l) hts' (by omega) (by omega)
        have hcv' : (if memoArgs [.lst (ts.map tD), tI (cutT t l)] then memoR (run G (k + 13) 60 [.lst (ts.map tD), tI (cutT t l)]) else .bad) = .ok (.int (cov ts (cutT t l))) := hcv
        have st : ∀ X, exs (run G (k + 13)) S_first_tiling1 [s0, s1, .val (.lst ((t :: ts).map tD)), .val (tI l), .val (nmL fd), s5, s6, s7, s8] = X ↔ exs (run G (k + 13)) (.cons (.ite (.and (.cmp .eq (.bi .len (.cons (.var 7) .nil)) (.bin .sub (.bi .len (.cons (.var 3) .nil)) (.bi .len (.cons (.var 6) .nil)))) (.one (.cmp .gt (.callD 60 (.cons (.var 2) (.cons (.var 7) .nil))) (.cst (.int 0))))) (.cons (.par true [4, 3] (.cons (.bin .add (.var 4) (.tup (.cons (.var 5) .nil))) (.cons (.var 7) .nil))) .nil) .nil) .nil) [s0, s1, .val (.lst (ts.map tD)), .val (tI l), .val (nmL fd), .val (nmD t.1), .val (tI t.2), .val (tI (cutT t l)), s8] = X := fun X => by
          unfold S_first_tiling1
          have hx0 : idxF (.lst ((t :: ts).map tD)) (.int 0) = some (tD t) := atI_nat (by decide) rfl
          rw [exs_nx (e1 := [s0, s1, .val (.lst ((t :: ts).map tD)), .val (tI l), .val (nmL fd), .val (nmD t.1), .val (tI t.2), s7, s8]) (by
            simp only [x_unp, v_V, isBor_idx, Bool.false_eq_true, if_false, v_idx, v_var, v_cst, cst_int, List.getElem?_cons_succ, List.getElem?_cons_zero, slotV_val, R.bind_ok, hx0, R.ofO_some]
            rfl)]
          rw [exs_nx (e1 := [s0, s1, .val (.lst ((t :: ts).map tD)), .val (tI l), .val (nmL fd), .val (nmD t.1), .val (tI t.2), .val (tI (cutT t l)), s8]) (by simp [c1])]
          have hs1 : slcF (.lst ((t :: ts).map tD)) (some 1) none = some (.lst (ts.map tD)) := by
            show some (D.lst (cutD ((t :: ts).map tD) (some 1) none)) = _
            rw [cut_from _ (by decide)]
            rfl
          rw [exs_nx (e1 := [s0, s1, .val (.lst (ts.map tD)), .val (tI l), .val (nmL fd), .val (nmD t.1), .val (tI t.2), .val (tI (cutT t l)), s8]) (by
            simp only [x_asg, v_V, isBor_slc, Bool.false_eq_true, if_false, v_slc, v_var, List.getElem?_cons_succ, List.getElem?_cons_zero, slotV_val, R.bind_ok, vo_some, vo_none, v_cst, cst_int, intD_int, hs1, R.ofO_some]
            rfl)]
        have hlen := cut_len (t := t) hnd ht.2
        by_cases ha : ∀ y ∈ t.2, y ∈ l
        · have e1 := hlen.mpr ha
          by_cases hc : 0 < cov ts (cutT t l)
          · have hacc : accT ts t l = true := by unfold accT; simp [hc]; exact ha
            have hadd : bopF .add (nmL fd) (.tup [nmD t.1]) = some (nmL (fd ++ [t])) := by
              unfold nmL
              rw [b_addT _ _ (by simp at hfd; simp; unfold lim; omega), List.map_append]
              rfl
            have body := (st (.ok (.nx [s0, s1, .val (.lst (ts.map tD)), .val (tI (cutT t l)), .val (nmL (fd ++ [t])), .val (nmD t.1), .val (tI t.2), .val (tI (cutT t l)), s8]))).mpr (by
              have hc' : (0 : Int) < (cov ts (cutT t l) : Int) := by omega
              obtain ⟨z1, hz1⟩ : ∃ z : Int, z = ((cutT t l).length : Int) := ⟨_, rfl⟩
              obtain ⟨z2, hz2⟩ : ∃ z : Int, z = (l.length : Int) := ⟨_, rfl⟩
              obtain ⟨z3, hz3⟩ : ∃ z : Int, z = (t.2.length : Int) := ⟨_, rfl⟩
              have f1 : biF .len [tI (cutT t l)] = some (.int z1) := by rw [hz1]; exact len_t _
              have f2 : biF .len [tI l] = some (.int z2) := by rw [hz2]; exact len_t _
              have f3 : biF .len [tI t.2] = some (.int z3) := by rw [hz3]; exact len_t _
              rw [← hz1, ← hz2, ← hz3] at e1
              simp [-len_t, f1, f2, f3, e1, hcv', hc, hadd, show (1 : Nat) ≤ lim by decide])
            rw [body, R.bind_ok, next_nx]
            obtain ⟨a2, a3, a5, a6, a7, a8, e⟩ := ih ts (cutT t l) (fd ++ [t]) (.val (nmD t.1)) (.val (tI t.2)) (.val (tI (cutT t l))) s8 (by simp at hm; omega) ok' hts' (cutT_nd hnd) (by omega) (by simp at hfd ⊢; omega)
            refine ⟨a2, a3, a5, a6, a7, a8, ?_⟩
            rw [e]
            have ef : fstT (t :: ts) l = t :: fstT ts (cutT t l) := by rw [fstT, if_neg hl0, if_pos hacc]
            rw [ef, List.append_assoc]
            rfl
          · have hacc : ¬ accT ts t l = true := by unfold accT; simp [hc]
            have body := (st (.ok (.nx [s0, s1, .val (.lst (ts.map tD)), .val (tI l), .val (nmL fd), .val (nmD t.1), .val (tI t.2), .val (tI (cutT t l)), s8]))).mpr (by
              have hc' : ¬ (0 : Int) < (cov ts (cutT t l) : Int) := by omega
              obtain ⟨z1, hz1⟩ : ∃ z : Int, z = ((cutT t l).length : Int) := ⟨_, rfl⟩
              obtain ⟨z2, hz2⟩ : ∃ z : Int, z = (l.length : Int) := ⟨_, rfl⟩
              obtain ⟨z3, hz3⟩ : ∃ z : Int, z = (t.2.length : Int) := ⟨_, rfl⟩
              have f1 : biF .len [tI (cutT t l)] = some (.int z1) := by rw [hz1]; exact len_t _
              have f2 : biF .len [tI l] = some (.int z2) := by rw [hz2]; exact len_t _
              have f3 : biF .len [tI t.2] = some (.int z3) := by rw [hz3]; exact len_t _
              rw [← hz1, ← hz2, ← hz3] at e1
              simp [-len_t, f1, f2, f3, e1, hcv', hc])
            rw [body, R.bind_ok, next_nx]
            obtain ⟨a2, a3, a5, a6, a7, a8, e⟩ := ih ts l fd (.val (nmD t.1)) (.val (tI t.2)) (.val (tI (cutT t l))) s8 (by simp at hm; omega) ok' hts' hnd hl (by simp at hfd ⊢; omega)
            refine ⟨a2, a3, a5, a6, a7, a8, ?_⟩
            rw [e]
            have ef : fstT (t :: ts) l = fstT ts l := by rw [fstT, if_neg hl0, if_neg hacc]
            rw [ef]
        · have e1 : ¬ ((cutT t l).length : Int) = l.length - t.2.length := fun z => ha (hlen.mp z)
          have hacc : ¬ accT ts t l = true := by
            unfold accT
            simp only [Bool.and_eq_true, List.all_eq_true, decide_eq_true_eq]
            exact fun z => ha z.1
          have body := (st (.ok (.nx [s0, s1, .val (.lst (ts.map tD)), .val (tI l), .val (nmL fd), .val (nmD t.1), .val (tI t.2), .val (tI (cutT t l)), s8]))).mpr (by
            obtain ⟨z1, hz1⟩ : ∃ z : Int, z = ((cutT t l).length : Int) := ⟨_, rfl⟩
            obtain ⟨z2, hz2⟩ : ∃ z : Int, z = (l.length : Int) := ⟨_, rfl⟩
            obtain ⟨z3, hz3⟩ : ∃ z : Int, z = (t.2.length : Int) := ⟨_, rfl⟩
            have f1 : biF .len [tI (cutT t l)] = some (.int z1) := by rw [hz1]; exact len_t _
            have f2 : biF .len [tI l] = some (.int z2) := by rw [hz2]; exact len_t _
            have f3 : biF .len [tI t.2] = some (.int z3) := by rw [hz3]; exact len_t _
            rw [← hz1, ← hz2, ← hz3] at e1
            simp [-len_t, f1, f2, f3, e1])
          rw [body, R.bind_ok, next_nx]
          obtain ⟨a2, a3, a5, a6, a7, a8, e⟩ := ih ts l fd (.val (nmD t.1)) (.val (tI t.2)) (.val (tI (cutT t l))) s8 (by simp at hm; omega) ok' hts' hnd hl (by simp at hfd ⊢; omega)
          refine ⟨a2, a3, a5, a6, a7, a8, ?_⟩
          rw [e]
          have ef : fstT (t :: ts) l = fstT ts l := by rw [fstT, if_neg hl0, if_neg hacc]
          rw [ef]
theorem nmL_ok (U : List Tl) : (nmL U).okD = true := by
  have := okE_nmD.tup.ok (n := 2) (by decide) (U.map (·.1))
  rw [List.map_map] at this
  exact this
section
variable {n : Int} {rs : List (List Int)} (hn : 1 ≤ n ∧ n ≤ 12) (hl : 1 ≤ rs.length ∧ rs.length ≤ 3) (h : ∀ r ∈ rs, IsSet n r)
include hn hl h
/-- the first tiling, or None -/
def fstD (n : Int) (rs : List (List Int)) : D := if cnt' n rs = 0 then .non else nmL (fstT (tlA n (per n) rs) (rgI 0 n))
theorem r_first_tiling {k : Nat} : run G (k + 18) 64 [.int n, rsD rs] = .ok (fstD n rs) := by
  rw [U_first_tiling]
  simp only [F_first_tiling]
  rw [exs_nx (e1 := [.val (.int n), .val (rsD rs), .no, .no, .no, .no, .no, .no, .no]) (by simp [r_check_small (k := k + 12) hn hl h])]
  unfold fstD
  by_cases hc : cnt' n rs = 0
  · simp [r_find_count hn hl h (k := k + 1), hc]
  · rw [exs_nx (e1 := [.val (.int n), .val (rsD rs), .no, .no, .no, .no, .no, .no, .no]) (by
      have hc' : ¬ ((cnt' n rs : Nat) : Int) = 0 := by omega
      simp [r_find_count hn hl h (k := k + 1), hc])]
    have h3 : (.tup ((rgI 0 n).map D.int) : D) = tI (rgI 0 n) := rfl
    rw [exs_nx (e1 := [.val (.int n), .val (rsD rs), .val (.lst ((tlA n (per n) rs).map tD)), .val (tI (rgI 0 n)), .val (nmL []), .no, .no, .no, .no]) (by
      simp [r_all_tiles (k := k + 14) (show 1 ≤ n ∧ n ≤ 24 by omega) hl.2 h, rgD_is 0 n (by omega), h3, nmL])]
    have htl := tl_len h (show n ≤ 24 by omega) hl.2
    obtain ⟨a2, a3, a5, a6, a7, a8, e⟩ := fst_while (k := k + 4) (s0 := .val (.int n)) (s1 := .val (rsD rs)) whFuel (tlA n (per n) rs) (rgI 0 n) [] .no .no .no .no (by unfold whFuel; omega) (tlA_ok h) (tl_small (by omega) (tlA_mv h)) (rg_nd n) (by simp; omega) (by simp; omega)
    rw [exs_nx (by rw [x_whl]; exact e)]
    simp [hc]
/-- the needed ones -/
def ndL (n : Int) (rs : List (List Int)) : List Int := (rgI 0 rs.length).filter fun i => decide (cov ((tlA n (per n) rs).filter fun t => !decide (t.1.1 = i)) (rgI 0 n) = 0)
def ndD (n : Int) (rs : List (List Int)) : D := if cnt' n rs = 0 then .non else .lst ((ndL n rs).map D.int)
theorem r_needed {k : Nat} : run G (k + 18) 65 [.int n, rsD rs] = .ok (ndD n rs) := by
  rw [U_needed_rhythms]
  simp only [F_needed_rhythms]
  rw [exs_nx (e1 := [.val (.int n), .val (rsD rs), .no, .no, .no, .no]) (by simp [r_check_small (k := k + 12) hn hl h])]
  unfold ndD
  by_cases hc : cnt' n rs = 0
  · simp [r_find_count hn hl h (k := k + 1), hc]
  · rw [exs_nx (e1 := [.val (.int n), .val (rsD rs), .no, .no, .no, .no]) (by simp [r_find_count hn hl h (k := k + 1), hc])]
    rw [exs_nx (e1 := [.val (.int n), .val (rsD rs), .own [], .no, .no, .no]) (by simp)]
    have h3 : (.tup ((rgI 0 n).map D.int) : D) = tI (rgI 0 n) := rfl
    have htl := tl_len h (show n ≤ 24 by omega) hl.2
    obtain ⟨A, hA⟩ : ∃ A, A = tlA n (per n) rs := ⟨_, rfl⟩
    have hat := r_all_tiles (k := k + 14) (show 1 ≤ n ∧ n ≤ 24 by omega) hl.2 h
    have hsm := tl_small (show n ≤ 24 by omega) (tlA_mv h)
    rw [← hA] at htl hat hsm
    obtain ⟨env', b1, b2⟩ := for_pre (f := fun d e => (setTg (.nm 3) d e).bind fun e1 => exs (run G (k + 17)) S_needed_rhythms1 e1) (e := D.int) (rgI 0 rs.length)
      (fun q env => ∃ s3 s4 s5, env = [.val (.int n), .val (rsD rs), .own ((q.filter fun i => decide (cov (A.filter fun t => !decide (t.1.1 = i)) (rgI 0 n) = 0)).map D.int), s3, s4, s5])
      (fun q i q' hq env hI => by
        obtain ⟨s3, s4, s5, rfl⟩ := hI
        have hql : q.length ≤ 3 := by
          have := congrArg List.length hq
          simp at this
          omega
        obtain ⟨F, hF⟩ : ∃ F, F = A.filter fun t => !decide (t.1.1 = i) := ⟨_, rfl⟩
        have hFs : ∀ t ∈ F, t.2.length ≤ 1000 := fun t ht => hsm t (by rw [hF] at ht; exact (List.mem_filter.mp ht).1)
        obtain ⟨B, hB⟩ : ∃ B, B = q.filter fun i => decide (cov (A.filter fun t => !decide (t.1.1 = i)) (rgI 0 n) = 0) := ⟨_, rfl⟩
        have hBl : B.length ≤ 3 := by rw [hB]; exact Nat.le_trans (List.length_filter_le _ _) hql
        have c1 : ∀ s4, ev (run G (k + 17)) C_needed_rhythms1 [.val (.int n), .val (rsD rs), .own (B.map D.int), .val (.int i), s4, s5] = .ok (.lst (F.map tD)) := fun s4 => by
          unfold C_needed_rhythms1
          rw [lc_filter (l := A) (e := tD) (d := tD) (c := fun t => !decide (t.1.1 = i)), hF]
          · simp [hat]
          · unfold lim; omega
          · rfl
          · rfl
          · intro t ht
            have x1 : idxF (tD t) (.int 0) = some (nmD t.1) := atI_nat (by decide) rfl
            have x2 : idxF (nmD t.1) (.int 0) = some (.int t.1.1) := atI_nat (by decide) rfl
            simp [x1, x2]
          · intro t ht _
            simp
        have hcv := v_cov (k := k + 4) (j := 12) (ts := F) (l := rgI 0 n) hFs (by simp; omega) (by simp; omega)
        have hcv' : (if memoArgs [.lst (F.map tD), tI (rgI 0 n)] then memoR (run G (k + 17) 60 [.lst (F.map tD), tI (rgI 0 n)]) else .bad) = .ok (.int (cov F (rgI 0 n))) := hcv
        rw [List.filter_append, ← hB]
        simp only [List.filter_cons, List.filter_nil, ← hF]
        by_cases hz : cov F (rgI 0 n) = 0
        · refine ⟨[.val (.int n), .val (rsD rs), .own ((B ++ [i]).map D.int), .val (.int i), .val (.lst (F.map tD)), s5], ?_, .val (.int i), .val (.lst (F.map tD)), s5, by simp [hz]⟩
          simp [S_needed_rhythms1, c1, rgD_is 0 n (show -100000 ≤ 0 ∧ 0 ≤ 100000 ∧ -100000 ≤ n ∧ n ≤ 100000 by omega), h3, hcv', hz, show B.length < lim by unfold lim; omega]
        · refine ⟨[.val (.int n), .val (rsD rs), .own (B.map D.int), .val (.int i), .val (.lst (F.map tD)), s5], ?_, .val (.int i), .val (.lst (F.map tD)), s5, by simp [hz]⟩
          simp [S_needed_rhythms1, c1, rgD_is 0 n (show -100000 ≤ 0 ∧ 0 ≤ 100000 ∧ -100000 ≤ n ∧ n ≤ 100000 by omega), h3, hcv', hz]) [.val (.int n), .val (rsD rs), .own [], .no, .no, .no] ⟨.no, .no, .no, by simp⟩
    obtain ⟨s3, s4, s5, rfl⟩ := b2
    rw [exs_nx (by
      rw [x_for]
      simp only [noBor_rng, if_true, vi_rng, vr_one, v_bi, vb_cons, vb_nil, v_var, List.getElem?_cons_succ, List.getElem?_cons_zero, slotV_val, R.bind_ok, bi_lenL, List.length_map, R.ofO_some, intD_int]
      rw [rgD_is 0 rs.length (by omega), R.bind_ok]
      exact b1)]
    simp [hc, ndL, hA]
end
section
variable {n : Int} {rs : List (List Int)} (hn : 1 ≤ n ∧ n ≤ 24) (hl : 1 ≤ rs.length ∧ rs.length ≤ 3) (h : ∀ r ∈ rs, IsSet n r)
include hn hl h
theorem r_is_tile {k : Nat} {j : Nat} {s : Int} {r : List Int} (hj : rs[j]? = some r) : run G (k + 3) 58 [.int n, rsD rs, nmD ((j : Nat), s)] = .ok (.bl (decide (0 ≤ s ∧ s < per n r))) := by
  have hr := h r (List.mem_of_getElem? hj)
  have hjl : j < rs.length := (List.getElem?_eq_some_iff.mp hj).1
  have x0 : idxF (nmD (((j : Nat) : Int), s)) (.int 0) = some (.int (j : Nat)) := atI_nat (by decide) rfl
  have x1 : idxF (nmD (((j : Nat) : Int), s)) (.int 1) = some (.int s) := atI_nat (by decide) rfl
  have x2 : idxF (rsD rs) (.int (j : Nat)) = some (tI r) := atI_nat (by omega) (by rw [List.getElem?_map, Int.toNat_natCast, hj]; rfl)
  have x3 : biF .len [nmD (((j : Nat) : Int), s)] = some (.int 2) := rfl
  have i1 : isInt (.int (j : Nat)) 0 ((rs.length : Int) - 1) = true := by
    simp only [isInt, Bool.and_eq_true, decide_eq_true_eq]
    omega
  have i2 : isInt (.int s) 0 (per n r - 1) = decide (0 ≤ s ∧ s < per n r) := by
    simp only [isInt]
    rw [Bool.eq_iff_iff]
    simp only [Bool.and_eq_true, decide_eq_true_eq]
    omega
  have hty : isiF .tuple (nmD (((j : Nat) : Int), s)) = true := rfl
  rw [U_is_tile]
  simp [F_is_tile, hty, x0, x1, x2, x3, r_is_int (k := k + 1) (d := .int (j : Nat)), r_is_int (k := k + 1) (d := .int s), i1, i2, r_find_period (k := k) hr (show n ≤ 10000 by omega)]
theorem zip_nm : ∀ (U : List Tl) (t : Tl), zipD ((t :: U).map fun t => nmD t.1) (U.map fun t => nmD t.1) = ((t :: U).zip U).map fun p => .tup [nmD p.1.1, nmD p.2.1] := fun U => by
  induction U with
  | nil => intro t; rfl
  | cons u U ih =>
    intro t
    rw [List.map_cons, List.map_cons, zipD, List.zip_cons_cons, List.map_cons, ← ih u, List.map_cons]
omit hn hl h in
theorem zip_lt {α : Type} {R : α → α → Prop} : ∀ (U : List α) (t : α), (t :: U).Pairwise R → ∀ p ∈ (t :: U).zip U, R p.1 p.2
  | [], t, _, p, hp => by simp at hp
  | u :: U, t, hw, p, hp => by
    rw [List.zip_cons_cons] at hp
    rcases List.mem_cons.mp hp with rfl | hp
    · exact (List.pairwise_cons.mp hw).1 u List.mem_cons_self
    · exact zip_lt U u (List.pairwise_cons.mp hw).2 p hp
theorem r_is_tiling {k : Nat} {U : List Tl} (hU : U.Sublist (tlA n (per n) rs)) (hb : (bts U).Perm (rgI 0 n)) : run G (k + 5) 59 [.int n, rsD rs, nmL U] = .ok (.bl true) := by
  have htl := tl_len h hn.2 hl.2
  have hUl : U.length ≤ 72 := Nat.le_trans hU.length_le htl
  have hm : ∀ t ∈ U, ∃ (j : Nat) (r : List Int), rs[j]? = some r ∧ t.1.1 = j ∧ (0 ≤ t.1.2 ∧ t.1.2 < per n r) ∧ t.2 = mv n r t.1.2 := fun t ht => (mem_tlA h).mp (hU.subset ht)
  have hpw : U.Pairwise fun t u => ltN t.1 u.1 := tlA_pw.sublist hU
  have hbl : (bts U).length ≤ 24 := by
    rw [hb.length_eq, length_rgI]
    omega
  rw [U_is_tiling]
  simp only [F_is_tiling]
  rw [exs_nx (e1 := [.val (.int n), .val (rsD rs), .val (nmL U), .no, .no, .no, .no, .no, .no, .no]) (by simp [r_check_rhythms (k := k) hn hl h])]
  have c1 : ev (run G (k + 4)) C_is_tiling1 [.val (.int n), .val (rsD rs), .val (nmL U), .no, .no, .no, .no, .no, .no, .no] = .ok (.lst ((U.map fun _ => true).map D.bl)) := by
    unfold C_is_tiling1
    rw [lc_map (l := U) (e := fun t => nmD t.1) (d := fun _ => .bl true), List.map_map]
    · rfl
    · simp
    · unfold lim; omega
    · rfl
    · rfl
    · intro t ht
      obtain ⟨j, r, g1, g2, g3, _⟩ := hm t ht
      have := r_is_tile hn hl h (k := k + 1) (s := t.1.2) g1
      rw [decide_eq_true g3] at this
      have e : nmD t.1 = nmD ((j : Int), t.1.2) := by rw [← g2]
      rw [← e] at this
      simp [this]
  rw [exs_nx (e1 := [.val (.int n), .val (rsD rs), .val (nmL U), .no, .no, .no, .no, .no, .no, .no]) (by simp [-List.map_map, isiF, c1])]
  have c2 : ∃ bs : List Bool, bs.all id = true ∧ ev (run G (k + 4)) C_is_tiling2 [.val (.int n), .val (rsD rs), .val (nmL U), .no, .no, .no, .no, .no, .no, .no] = .ok (.lst (bs.map D.bl)) := by
    cases U with
    | nil => exact ⟨[], rfl, rfl⟩
    | cons t U =>
      refine ⟨((t :: U).zip U).map fun _ => true, by simp, ?_⟩
      unfold C_is_tiling2
      rw [lc_map (l := (t :: U).zip U) (e := fun p => .tup [nmD p.1.1, nmD p.2.1]) (d := fun _ => .bl true), List.map_map]
      · rfl
      · have hs1 : slcF (nmL (t :: U)) (some 1) none = some (.tup (U.map fun t => nmD t.1)) := by
          show some (D.tup (cutD ((t :: U).map fun t => nmD t.1) (some 1) none)) = _
          rw [cut_from _ (by decide)]
          rfl
        have hz : zipDD (nmL (t :: U)) (.tup (U.map fun t => nmD t.1)) = .ok (((t :: U).zip U).map fun p => .tup [nmD p.1.1, nmD p.2.1]) := congrArg R.ok (zip_nm hn hl h U t)
        simp only [vi_zip, isBor_var, isBor_slc, Bool.false_eq_true, if_false, v_var, List.getElem?_cons_succ, List.getElem?_cons_zero, slotV_val, R.bind_ok, v_slc, vo_some, vo_none, v_cst, cst_int, intD_int, hs1, R.ofO_some, hz]
      · rw [List.length_zip]; unfold lim; simp at hUl; omega
      · rfl
      · rfl
      · intro p hp
        have hlt := zip_lt U t hpw p hp
        have hc : copF .lt (nmD p.1.1) (nmD p.2.1) = some true := by
          show some (HT.lexLt [p.1.1.1, p.1.1.2] [p.2.1.1, p.2.1.2]) = _
          simp only [HT.lexLt]
          rcases hlt with hh | ⟨h1, h2⟩
          · rw [if_neg (by omega), decide_eq_true hh]
          · rw [if_pos h1, if_neg (by omega), decide_eq_true h2]
        simp [hc]
  obtain ⟨bs, hbs, c2⟩ := c2
  rw [exs_nx (e1 := [.val (.int n), .val (rsD rs), .val (nmL U), .no, .no, .no, .no, .no, .no, .no]) (by simp only [x_ite, v_T, isTest_not, v_not, v_bi, vb_cons, vb_nil, c2, R.bind_ok, bi_all, hbs, R.ofO_some]; rfl)]
  have c3 : ev (run G (k + 4)) C_is_tiling3 [.val (.int n), .val (rsD rs), .val (nmL U), .no, .no, .no, .no, .no, .no, .no] = .ok (.lst ((bts U).map D.int)) := by
    unfold C_is_tiling3
    have e : (bts U).map D.int = U.flatMap fun t => t.2.map D.int := by
      unfold bts
      rw [List.map_flatten, List.map_map, List.flatMap_def]
      rfl
    rw [e, lc2_map (l := U) (e := fun t => nmD t.1) (m := fun t => t.2) (e1 := D.int) (d := fun _ x => .int x) (E1 := fun t => [.val (.int n), .val (rsD rs), .val (nmL U), .no, .no, .no, .no, .val (.int t.1.1), .val (.int t.1.2), .no])]
    · simp
    · exact ⟨rfl, rfl, rfl, rfl, rfl⟩
    · intro t ht
      rfl
    · intro t ht
      obtain ⟨j, r, g1, g2, g3, g4⟩ := hm t ht
      have x2 : idxF (rsD rs) (.int t.1.1) = some (tI r) := by
        rw [g2]
        exact atI_nat (by omega) (by rw [List.getElem?_map, Int.toNat_natCast, g1]; rfl)
      have hmv := r_move_by (k := k + 3) (m := t.1.2) (h r (List.mem_of_getElem? g1)) (show n ≤ 100000 by omega)
      rw [← g4] at hmv
      simp [x2, hmv]
    · intro t ht y hy
      simp
    · rw [← e, List.length_map]; unfold lim; omega
  rw [exs_nx (e1 := [.val (.int n), .val (rsD rs), .val (nmL U), .no, .no, .no, .val (.lst ((bts U).map D.int)), .no, .no, .no]) (by simp [c3])]
  have hs : srt (bts U) = rgI 0 n := by
    refine pw_ext (srt_lt (hb.nodup_iff.mpr (rg_nd n))) (rgI_pw 0 n) fun x => ?_
    rw [mem_srt]
    exact hb.mem_iff
  simp [bi_sorted (bts U) (by unfold lim; omega), hs, rgD_is 0 n (by omega)]
end

end Cl
set_option Elab.async false
set_option linter.all false
set_option maxRecDepth 100000
set_option maxHeartbeats 1000000
namespace Cl
open PySem
/-! ### names of tiles as numbers, rows of names -/
def code (t : Tl) : Int := 100 * t.1.1 + t.1.2
def nmC (c : Int) : D := nmD (c / 100, c % 100)
abbrev rwD (l : List Int) : D := .tup (l.map nmC)
theorem nmC_code {t : Tl} (h : 0 ≤ t.1.2 ∧ t.1.2 < 100) : nmC (code t) = nmD t.1 := by
  unfold nmC code
  have h1 : (100 * t.1.1 + t.1.2) / 100 = t.1.1 := by omega
  have h2 : (100 * t.1.1 + t.1.2) % 100 = t.1.2 := by omega
  rw [h1, h2]
theorem nmC_t (c : Int) : nmC c = tI [c / 100, c % 100] := rfl
theorem lt_nmC (a b : Int) : W.dataLt (nmC a).pd (nmC b).pd = decide (a < b) := by
  rw [nmC_t, nmC_t, lt_tI, Bool.eq_iff_iff, decide_eq_true_eq, decide_eq_true_eq, List.cons_lt_cons_iff, List.cons_lt_cons_iff]
  simp only [List.not_lt_nil, and_false, or_false]
  omega
theorem alike_nmC (a b : Int) : W.alike (nmC a).pd (nmC b).pd = true := alike_tI [a / 100, a % 100] [b / 100, b % 100]
theorem eqE_nmC : EqE nmC := fun a b => by
  have := eqE_nmD (a / 100, a % 100) (b / 100, b % 100)
  unfold nmC
  rw [this, Bool.eq_iff_iff, decide_eq_true_eq, decide_eq_true_eq, Prod.mk.injEq]
  omega
theorem okE_nmC : OkE 1 nmC := fun a => okE_nmD _
theorem pd_rwD (l : List Int) : (rwD l).pd = .tuple (l.map fun c => (nmC c).pd) := by
  unfold rwD
  rw [D.pd, pds_map, List.map_map]
  rfl
theorem alikeAll_nm : ∀ a b : List Int, W.alikeAll (a.map fun c => (nmC c).pd) (b.map fun c => (nmC c).pd) = true
  | [], _ => by simp [W.alikeAll]
  | x :: a, [] => by simp [W.alikeAll]
  | x :: a, y :: b => by simp [W.alikeAll, alike_nmC, alikeAll_nm a b]
theorem alike_rw (a b : List Int) : W.alike (rwD a).pd (rwD b).pd = true := by
  rw [pd_rwD, pd_rwD, W.alike]
  exact alikeAll_nm a b
theorem lt_rws : ∀ a b : List Int, W.rowLt (a.map fun c => (nmC c).pd) (b.map fun c => (nmC c).pd) = decide (a < b)
  | [], [] => by
    have := W.dataLt_ints [] []
    simpa using this
  | [], y :: b => by
    have e : W.rowLt [] ((nmC y).pd :: b.map fun c => (nmC c).pd) = true := by
      unfold W.rowLt
      rw [W.toks_all_cons]
      simp only [W.keyToksAll]
      rw [W.lex_atom (by simp)]
      rfl
    simpa using e
  | x :: a, [] => by
    have e : W.rowLt ((nmC x).pd :: a.map fun c => (nmC c).pd) [] = false := by
      unfold W.rowLt
      rw [W.toks_all_cons]
      simp only [W.keyToksAll]
      rw [W.lex_atom (by simp)]
      rfl
    simpa using e
  | x :: a, y :: b => by
    have q := eqE_nmC x y
    unfold deq at q
    rw [List.map_cons, List.map_cons]
    by_cases h : x = y
    · have := W.dataLt_all_yes (xs := a.map fun c => (nmC c).pd) (ys := b.map fun c => (nmC c).pd) (alike_nmC x y) (by rw [q]; simpa using h)
      have ih := lt_rws a b
      unfold W.rowLt at ih ⊢
      rw [this, ih]
      simp [h, List.cons_lt_cons_iff]
    · have := W.dataLt_all_no (xs := a.map fun c => (nmC c).pd) (ys := b.map fun c => (nmC c).pd) (alike_nmC x y) (by rw [q]; simpa using h)
      unfold W.rowLt
      rw [this, lt_nmC]
      simp [h, List.cons_lt_cons_iff]
theorem lt_rw (a b : List Int) : W.dataLt (rwD a).pd (rwD b).pd = decide (a < b) := by
  rw [pd_rwD, pd_rwD, W.dataLt_tuple]
  exact lt_rws a b
theorem dle_rw (a b : List Int) : dle (rwD a) (rwD b) = leT a b := by
  unfold dle leT
  rw [lt_rw]
theorem dle_nmC (a b : Int) : dle (nmC a) (nmC b) = decide (a ≤ b) := by
  unfold dle
  rw [lt_nmC]
  by_cases h : a ≤ b <;> simp [h] <;> omega
theorem okSort_nm (l : List Int) : okSort (l.map nmC) = true := by
  unfold okSort
  simp only [List.all_map, Bool.and_eq_true, Bool.or_eq_true, List.all_eq_true]
  refine ⟨⟨fun a ha => List.all_eq_true.mpr fun b _ => alike_nmC a b, fun a ha => ?_⟩, .inl fun a ha => rfl⟩
  simp only [Function.comp_def, nmC_t, pd_tI, PyData.depth, depth_ints]
  decide
theorem dep_rws : ∀ l : List Int, PyData.depthAll (l.map fun c => (nmC c).pd) ≤ 2
  | [] => by simp [PyData.depthAll]
  | x :: l => by
    have := dep_rws l
    simp only [List.map_cons, PyData.depthAll, nmC_t, pd_tI, PyData.depth, depth_ints] at this ⊢
    omega
theorem okSort_rw (ls : List (List Int)) (h : ∀ l ∈ ls, l ≠ []) : okSort (ls.map rwD) = true := by
  unfold okSort
  simp only [List.all_map, Bool.and_eq_true, Bool.or_eq_true, List.all_eq_true]
  refine ⟨⟨fun a ha => List.all_eq_true.mpr fun b _ => alike_rw a b, fun a ha => ?_⟩, .inl fun a ha => ?_⟩
  · have := dep_rws a
    simp only [Function.comp_def, pd_rwD, PyData.depth, decide_eq_true_eq]
    omega
  · cases a with
    | nil => exact absurd rfl (h _ ha)
    | cons x r => rfl
theorem bi_sortN (l : List Int) (h : l.length ≤ lim) : biF .sorted [.lst (l.map nmC)] = some (.lst ((srt l).map nmC)) := by
  have := isort_map (f := nmC) dle_nmC l
  simp only [biF, okSort_nm, List.length_map, Bool.true_and, decide_eq_true_eq, h, if_true, this]
  rfl
theorem bi_sortR (l : List (List Int)) (hn : ∀ t ∈ l, t ≠ []) (h : l.length ≤ lim) : biF .sorted [.lst (l.map rwD)] = some (.lst ((srtT l).map rwD)) := by
  have := isort_map (f := rwD) dle_rw l
  simp only [biF, okSort_rw l hn, List.length_map, Bool.true_and, decide_eq_true_eq, h, if_true, this]
  rfl
theorem eqE_rw : EqE rwD := eqE_nmC.tup
theorem okE_rw : OkE 2 rwD := okE_nmC.tup
/-! ### all tilings as rows -/
def sbl {α : Type} : List α → List (List α)
  | [] => [[]]
  | x :: l => sbl l ++ (sbl l).map (x :: ·)
theorem sbl_len {α : Type} : ∀ l : List α, (sbl l).length = 2 ^ l.length
  | [] => rfl
  | x :: l => by
    rw [sbl, List.length_append, List.length_map, sbl_len l, List.length_cons, Nat.pow_succ]
    omega
theorem mem_sbl {α : Type} : ∀ {l m : List α}, m.Sublist l → m ∈ sbl l
  | _, _, .slnil => by simp [sbl]
  | _, _, .cons a h => by rw [sbl, List.mem_append]; exact .inl (mem_sbl h)
  | _, _, .cons₂ a h => by rw [sbl, List.mem_append]; exact .inr (List.mem_map.mpr ⟨_, mem_sbl h, rfl⟩)
/-- no tile twice in what covers each beat once -/
theorem til_nd {ts : List Tl} (ok : TsOk ts) {l : List Int} (hl : l.Nodup) {U : List Tl} (hU : ∀ t ∈ U, t ∈ ts) (hb : (bts U).Perm l) : U.Nodup := by
  have h1 := flat_apart (hb.nodup_iff.mpr hl)
  refine (List.Pairwise.and_mem.mp h1).imp ?_
  rintro t u ⟨ht, _, h⟩ rfl
  obtain ⟨y, hy⟩ := List.exists_mem_of_ne_nil _ (ok t (hU t ht)).1
  exact h y hy hy
def fil (ts U : List Tl) : List Tl := ts.filter fun t => decide (t ∈ U)
theorem fil_perm {ts : List Tl} (hts : ts.Nodup) {U : List Tl} (hU : ∀ t ∈ U, t ∈ ts) (nd : U.Nodup) : (fil ts U).Perm U := by
  refine (List.perm_ext_iff_of_nodup (hts.filter _) nd).mpr fun t => ?_
  rw [List.mem_filter, decide_eq_true_eq]
  exact ⟨fun h => h.2, fun h => ⟨hU t h, h⟩⟩
theorem til_len {ts : List Tl} (ok : TsOk ts) (hts : ts.Nodup) {l : List Int} (hl : l.Nodup) (j : Nat) : (til ts j l).length ≤ 2 ^ ts.length := by
  rw [← sbl_len, ← List.length_map (f := fil ts)]
  refine nd_len ?_ fun x hx => ?_
  · rw [List.nodup_iff_pairwise_ne, List.pairwise_map]
    have h := til_nodup hts j l
    rw [List.nodup_iff_pairwise_ne] at h
    refine (List.Pairwise.and_mem.mp h).imp ?_
    rintro U V ⟨hU, hV, hne⟩ e
    obtain ⟨u1, u2⟩ := til_sound ok j l hl U hU
    obtain ⟨v1, v2⟩ := til_sound ok j l hl V hV
    have p1 := fil_perm hts u1 (til_nd ok hl u1 u2)
    have p2 := fil_perm hts v1 (til_nd ok hl v1 v2)
    rw [e] at p1
    exact hne (til_uniq ok j l hl U hU V hV (p1.symm.trans p2))
  · obtain ⟨U, _, rfl⟩ := List.mem_map.mp hx
    exact mem_sbl List.filter_sublist
section
variable {ts : List Tl} (ok : TsOk ts) (hc : (ts.map code).Pairwise (· < ·)) {l : List Int} (hl : l.Nodup)
include hc
theorem code_nd : ts.Nodup := by
  rw [List.pairwise_map] at hc
  exact hc.imp fun {a b} h e => by rw [e] at h; omega
theorem code_sub {U : List Tl} (h : U.Sublist ts) : (U.map code).Pairwise (· < ·) := hc.sublist (h.map _)
theorem code_srt {U V : List Tl} (h : U.Sublist ts) (p : V.Perm U) : srt (V.map code) = U.map code := by
  have h1 := code_sub hc h
  have p1 := p.map code
  refine pw_ext (srt_lt (p1.nodup_iff.mpr (h1.imp fun h => by omega))) h1 fun x => ?_
  rw [mem_srt]
  exact p1.mem_iff
theorem code_inj {t u : Tl} (ht : t ∈ ts) (hu : u ∈ ts) (e : code t = code u) : t = u := by
  refine Classical.byContradiction fun hne => ?_
  obtain ⟨i, hi, rfl⟩ := List.getElem_of_mem ht
  obtain ⟨j, hj, rfl⟩ := List.getElem_of_mem hu
  rw [List.pairwise_map] at hc
  rcases Nat.lt_trichotomy i j with h | h | h
  · have := (List.pairwise_iff_getElem.mp hc) i j hi hj h
    omega
  · subst h; exact hne rfl
  · have := (List.pairwise_iff_getElem.mp hc) j i hj hi h
    omega
def rowsT (ts : List Tl) (l : List Int) : List (List Int) := srtT ((til ts l.length l).map fun U => srt (U.map code))
include ok hl
theorem mem_rowsT {c : List Int} : c ∈ rowsT ts l ↔ ∃ U : List Tl, U.Sublist ts ∧ (bts U).Perm l ∧ c = U.map code := by
  unfold rowsT
  rw [mem_srtT, List.mem_map]
  constructor
  · rintro ⟨V, hV, rfl⟩
    obtain ⟨v1, v2⟩ := til_sound ok _ l hl V hV
    have p := fil_perm (code_nd hc) v1 (til_nd ok hl v1 v2)
    exact ⟨fil ts V, List.filter_sublist, (bts_perm p).trans v2, code_srt hc List.filter_sublist p.symm⟩
  · rintro ⟨U, hU, hb, rfl⟩
    obtain ⟨V, hV, p⟩ := til_complete (ts := ts) l.length l hl (Nat.le_refl _) U (fun t ht => ⟨hU.subset ht, (ok t (hU.subset ht)).1⟩) hb
    exact ⟨V, hV, code_srt hc hU p⟩
omit hc in
theorem rows_len : (rowsT ts l).length = cov ts l := by
  unfold rowsT cov
  rw [(srtT_perm _).length_eq, List.length_map]
theorem fst_le : ∀ U : List Tl, U.Sublist ts → (bts U).Perm l → (fstT ts l).map code ≤ U.map code := by
  induction ts generalizing l with
  | nil => intro U _ _; exact List.nil_le _
  | cons t ts ih =>
    intro U hU hb
    have ok' : TsOk ts := fun u hu => ok u (List.mem_cons_of_mem _ hu)
    rw [List.map_cons, List.pairwise_cons] at hc
    rw [fstT]
    split
    · exact List.nil_le _
    · rename_i hl0
      have hne : U ≠ [] := by
        rintro rfl
        exact hl0 (List.nil_perm.mp hb)
      cases hU with
      | cons _ hU =>
        split
        · obtain ⟨u, U', rfl⟩ := List.exists_cons_of_ne_nil hne
          have hlt := hc.1 (code u) (List.mem_map.mpr ⟨u, hU.subset List.mem_cons_self, rfl⟩)
          rw [List.map_cons, List.map_cons]
          exact List.le_of_lt (List.cons_lt_cons_iff.mpr (.inl hlt))
        · exact ih ok' hc.2 hl U hU hb
      | cons_cons _ hU =>
        rename_i U'
        have ht := ok t List.mem_cons_self
        have hs : ∀ y ∈ t.2, y ∈ l := fun y hy => hb.mem_iff.mp (bts_mem.mpr ⟨t, List.mem_cons_self, hy⟩)
        have hb' : (bts U').Perm (cutT t l) := by
          have h1 := cutT_perm hl ht.2 hs
          have h2 : (t.2 ++ bts U').Perm (t.2 ++ cutT t l) := List.Perm.trans hb h1.symm
          exact (List.perm_append_left_iff t.2).mp h2
        have hacc : accT ts t l = true := by
          unfold accT
          simp only [Bool.and_eq_true, List.all_eq_true, decide_eq_true_eq]
          exact ⟨hs, (cov_pos ok' (cutT_nd hl)).mpr ⟨U', fun u hu => hU.subset hu, hb'⟩⟩
        rw [if_pos hacc, List.map_cons, List.map_cons]
        have := ih ok' hc.2 (cutT_nd hl) U' hU hb'
        exact List.cons_le_cons_iff.mpr (.inr ⟨rfl, this⟩)
theorem rows_fst (h : 0 < cov ts l) : ∃ R, rowsT ts l = (fstT ts l).map code :: R := by
  obtain ⟨h1, h2⟩ := fst_ok ts l ok hl h
  have hm : (fstT ts l).map code ∈ rowsT ts l := (mem_rowsT ok hc hl).mpr ⟨_, h1, h2, rfl⟩
  have pw : (rowsT ts l).Pairwise (· ≤ ·) := srtT_pw _
  have hle : ∀ c ∈ rowsT ts l, (fstT ts l).map code ≤ c := fun c hcm => by
    obtain ⟨U, u1, u2, rfl⟩ := (mem_rowsT ok hc hl).mp hcm
    exact fst_le ok hc hl U u1 u2
  cases hr : rowsT ts l with
  | nil => rw [hr] at hm; cases hm
  | cons c R =>
    rw [hr] at hm pw hle
    refine ⟨R, ?_⟩
    have e : c = (fstT ts l).map code := by
      rcases List.mem_cons.mp hm with e | hm
      · exact e.symm
      · exact List.le_antisymm ((List.pairwise_cons.mp pw).1 _ hm) (hle c List.mem_cons_self)
    rw [e]
end
end Cl
set_option Elab.async false
set_option linter.all false
set_option maxRecDepth 100000
set_option maxHeartbeats 1000000
namespace Cl
open PySem
/-! ### all tiles and all tilings, as the law builds them -/
theorem mv_lt_inj {n p : Int} {r : List Int} (hr : IsSet n r) (hp : Per n r p) {a b : Int} (ha : 0 ≤ a ∧ a < p) (hb : 0 ≤ b ∧ b < p) (e : mv n r a = mv n r b) : a = b := by
  have gen : ∀ {a b : Int}, 0 ≤ a → a < b → b < p → mv n r a = mv n r b → False := fun {a b} h1 h2 h3 e => by
    have h4 : mv n (mv n r b) (-a) = mv n r (b - a) := by rw [mv_add hr.pos]; rfl
    have h5 : mv n (mv n r a) (-a) = r := by
      rw [mv_add hr.pos, show a + -a = 0 by omega]
      exact mv0 hr
    rw [← e, h5] at h4
    have := Int.le_of_dvd (by omega) (hp.dvd _ h4.symm)
    omega
  rcases Int.lt_trichotomy a b with h | h | h
  · exact (gen ha.1 h hb.2 e).elim
  · exact h
  · exact (gen hb.1 h ha.2 e.symm).elim
theorem r_ltiles {k : Nat} {n : Int} {rs : List (List Int)} (hn : 1 ≤ n ∧ n ≤ 24) (hl : rs.length ≤ 3) (h : ∀ r ∈ rs, IsSet n r) : run G (k + 3) 96 [.int n, rsD rs] = .ok (.lst ((tlA n (per n) rs).map tD)) := by
  have htl := tl_len h hn.2 hl
  rw [U_law_tiles]
  simp only [F_law_tiles]
  rw [exs_nx (e1 := [.val (.int n), .val (rsD rs), .own [], .no, .no, .no, .no, .no]) (by simp)]
  obtain ⟨env', b1, b2⟩ := for_pre (f := fun d e => (setTg (.tp [3, 4]) d e).bind fun e1 => exs (run G (k + 2)) S_law_tiles2 e1) (e := fun p : List Int × Nat => .tup [.int (p.2 : Nat), tI p.1]) rs.zipIdx
    (fun q env => ∃ s3 s4 s5 s6 s7, env = [.val (.int n), .val (rsD rs), .own ((q.flatMap fun p => tlR n (per n p.1) (p.2 : Nat) p.1).map tD), s3, s4, s5, s6, s7])
    (fun q p q' hq env hI => by
      obtain ⟨s3, s4, s5, s6, s7, rfl⟩ := hI
      obtain ⟨r, j⟩ := p
      have hr : IsSet n r := h r (List.fst_mem_of_mem_zipIdx (show (r, j) ∈ rs.zipIdx by rw [hq]; simp))
      have hper := per_rg hr
      have hp := per_is hr
      obtain ⟨B, hB⟩ : ∃ B, B = q.flatMap fun p => tlR n (per n p.1) (p.2 : Nat) p.1 := ⟨_, rfl⟩
      have hBl : B.length + (tlR n (per n r) (j : Nat) r).length ≤ 72 := by
        have h0 := htl
        unfold tlA at h0
        rw [hq, List.flatMap_append, List.flatMap_cons, List.length_append, List.length_append, ← hB] at h0
        dsimp only at h0
        omega
      rw [← hB]
      obtain ⟨pr, hpr⟩ : ∃ pr, pr = per n r := ⟨_, rfl⟩
      rw [← hpr] at hper hp
      obtain ⟨env2, d1, d2⟩ := for_pre (f := fun d e => (setTg (.nm 6) d e).bind fun e1 => exs (run G (k + 2)) S_law_tiles1 e1) (e := D.int) (rgI 0 n)
        (fun z env => ∃ s6 s7, env = [.val (.int n), .val (rsD rs), .own ((B ++ (z.filter fun s => decide (s < pr)).map fun s => (((j : Int), s), mv n r s)).map tD), .val (.int (j : Nat)), .val (tI r), .own (((z.filter fun s => decide (s < pr)).map (mv n r)).map tI), s6, s7])
        (fun z s z' hz env hI => by
          obtain ⟨s6, s7, rfl⟩ := hI
          have hsr := mem_rgI.mp (show s ∈ rgI 0 n by rw [hz]; simp)
          have hzl : z.length ≤ 24 := by
            have h1 := congrArg List.length hz
            simp at h1
            omega
          have hpw := rgI_pw 0 n
          rw [hz, List.pairwise_append] at hpw
          have hz1 : ∀ x ∈ z, 0 ≤ x ∧ x < s := fun x hx => ⟨(mem_rgI.mp (show x ∈ rgI 0 n by rw [hz]; simp [hx])).1, hpw.2.2 x hx s List.mem_cons_self⟩
          have hz2 : ∀ x, 0 ≤ x → x < s → x ∈ z := fun x h0 h1 => by
            have h2 : x ∈ rgI 0 n := mem_rgI.mpr ⟨h0, by omega⟩
            rw [hz] at h2
            rcases List.mem_append.mp h2 with h3 | h3
            · exact h3
            · rcases List.mem_cons.mp h3 with h4 | h4
              · omega
              · have := (List.pairwise_cons.mp hpw.2.1).1 x h4
                omega
          have hfl : (z.filter fun s => decide (s < pr)).length ≤ 24 := Nat.le_trans (List.length_filter_le _ _) hzl
          obtain ⟨F, hF⟩ : ∃ F, F = z.filter fun s => decide (s < pr) := ⟨_, rfl⟩
          have hmF : ∀ x, x ∈ F ↔ x ∈ z ∧ x < pr := fun x => by rw [hF, List.mem_filter, decide_eq_true_eq]
          rw [List.filter_append]
          rw [← hF] at hfl ⊢
          have hmv := r_lmove (k := k + 1) (m := s) hr (show n ≤ 100000 by omega)
          have hBl' : B.length ≤ 72 := by omega
          by_cases hsp : s < pr
          · have e1 : [s].filter (fun s => decide (s < pr)) = [s] := by simp [hsp]
            have hno : mv n r s ∉ F.map (mv n r) := fun hm => by
              obtain ⟨x, hx, e⟩ := List.mem_map.mp hm
              have hx' := (hmF x).mp hx
              have h3 := hz1 x hx'.1
              have := mv_lt_inj hr hp ⟨h3.1, hx'.2⟩ ⟨hsr.1, hsp⟩ e
              omega
            rw [e1]
            refine ⟨[.val (.int n), .val (rsD rs), .own ((B ++ (F ++ [s]).map fun s => (((j : Int), s), mv n r s)).map tD), .val (.int (j : Nat)), .val (tI r), .own (((F ++ [s]).map (mv n r)).map tI), .val (.int s), .val (tI (mv n r s))], ?_, _, _, rfl⟩
            have e0 : B ++ (F ++ [s]).map (fun s => (((j : Int), s), mv n r s)) = (B ++ F.map fun s => (((j : Int), s), mv n r s)) ++ [(((j : Int), s), mv n r s)] := by rw [List.map_append, List.append_assoc]; rfl
            obtain ⟨Cc, hCc⟩ : ∃ Cc : List Tl, Cc = B ++ F.map fun s => (((j : Int), s), mv n r s) := ⟨_, rfl⟩
            have hlim : Cc.length < lim := by rw [hCc]; simp; unfold lim; omega
            obtain ⟨H, hH⟩ : ∃ H, H = F.map (mv n r) := ⟨_, rfl⟩
            have hHl : H.length < lim := by rw [hH, List.length_map]; unfold lim; omega
            rw [e0, ← hCc, List.map_append, List.map_append (f := mv n r), ← hH, List.map_append]
            rw [← hH] at hno
            simp [-fold_tI, S_law_tiles1, hmv, hno, hlim, hHl, show (2 : Nat) ≤ lim by decide]
            rfl
          · have e1 : [s].filter (fun s => decide (s < pr)) = [] := by simp [hsp]
            have hin : mv n r s ∈ F.map (mv n r) := by
              refine List.mem_map.mpr ⟨s % pr, (hmF _).mpr ⟨hz2 _ (Int.emod_nonneg _ (by omega)) ?_, Int.emod_lt_of_pos _ (by omega)⟩, mv_per hr hp hsr.1⟩
              have := Int.emod_lt_of_pos s (show 0 < pr by omega)
              omega
            rw [e1, List.append_nil]
            refine ⟨[.val (.int n), .val (rsD rs), .own ((B ++ F.map fun s => (((j : Int), s), mv n r s)).map tD), .val (.int (j : Nat)), .val (tI r), .own ((F.map (mv n r)).map tI), .val (.int s), .val (tI (mv n r s))], ?_, _, _, rfl⟩
            obtain ⟨H, hH⟩ : ∃ H, H = F.map (mv n r) := ⟨_, rfl⟩
            rw [← hH] at hin ⊢
            simp [S_law_tiles1, hmv, hin]) [.val (.int n), .val (rsD rs), .own (B.map tD), .val (.int (j : Nat)), .val (tI r), .own [], s6, s7] ⟨s6, s7, by simp⟩
      obtain ⟨s6', s7', rfl⟩ := d2
      have ef : (rgI 0 n).filter (fun s => decide (s < pr)) = rgI 0 pr := pw_ext ((rgI_pw 0 n).filter _) (rgI_pw 0 pr) fun x => by
        rw [List.mem_filter, mem_rgI, mem_rgI, decide_eq_true_eq]
        omega
      rw [ef] at d1
      refine ⟨[.val (.int n), .val (rsD rs), .own (((q ++ [(r, j)]).flatMap fun p => tlR n (per n p.1) (p.2 : Nat) p.1).map tD), .val (.int (j : Nat)), .val (tI r), .own (((rgI 0 pr).map (mv n r)).map tI), s6', s7'], ?_, _, _, _, _, _, rfl⟩
      have e : (q ++ [(r, j)]).flatMap (fun p => tlR n (per n p.1) (p.2 : Nat) p.1) = B ++ (rgI 0 pr).map fun s => (((j : Int), s), mv n r s) := by
        rw [List.flatMap_append, ← hB, hpr]
        simp [tlR]
      rw [e]
      show exs (run G (k + 2)) S_law_tiles2 [.val (.int n), .val (rsD rs), .own (B.map tD), .val (.int (j : Nat)), .val (tI r), s5, s6, s7] = _
      unfold S_law_tiles2
      rw [exs_nx (e1 := [.val (.int n), .val (rsD rs), .own (B.map tD), .val (.int (j : Nat)), .val (tI r), .own [], s6, s7]) (by simp)]
      rw [exs_nx (by
        rw [x_for]
        simp only [noBor_rng, if_true, vi_rng, vr_one, v_var, List.getElem?_cons_succ, List.getElem?_cons_zero, slotV_val, R.bind_ok, intD_int]
        rw [rgD_is 0 n (by omega), R.bind_ok]
        exact d1)]
      rfl) [.val (.int n), .val (rsD rs), .own [], .no, .no, .no, .no, .no] ⟨.no, .no, .no, .no, .no, by simp⟩
  obtain ⟨s3, s4, s5, s6, s7, rfl⟩ := b2
  rw [exs_nx (by
    rw [x_for]
    simp only [noBor_enum, isBor_var, Bool.not_false, if_true, vi_enum, v_var, List.getElem?_cons_succ, List.getElem?_cons_zero, slotV_val, R.bind_ok, lstD_lst, enum_zipG]
    exact b1)]
  simp [tlA]

end Cl
set_option Elab.async false
set_option linter.all false
set_option maxRecDepth 100000
set_option maxHeartbeats 1000000
namespace Cl
open PySem
abbrev nmU (U : List Tl) : D := .lst (U.map fun t => nmD t.1)
theorem r_ltil : ∀ (j k : Nat) (ts : List Tl) (l : List Int), l.length ≤ j → TsOk ts → ts.Nodup → ts.length ≤ 23 → (∀ t ∈ ts, t.2.length ≤ 1000) → l.Nodup → l.length ≤ 1000 → run G (k + j + 1) 102 [.lst (ts.map tD), tI l] = .ok (.lst ((til ts j l).map nmU)) := by
  intro j
  induction j with
  | zero =>
    intro k ts l hj _ _ _ _ _ _
    have : l = [] := List.length_eq_zero_iff.mp (by omega)
    subst this
    rw [U_law_tilings]
    simp [F_law_tilings, T_law_tilings1, til, show (1 : Nat) ≤ lim by decide]
  | succ j ih =>
    intro k ts l hj ok nd h23 hts hnd hl
    rw [U_law_tilings]
    simp only [F_law_tilings]
    cases l with
    | nil => simp [T_law_tilings1, til, show (1 : Nat) ≤ lim by decide]
    | cons x q =>
      have htot := til_len ok nd hnd (j + 1)
      have hbig : 2 ^ ts.length ≤ 2 ^ 23 := Nat.pow_le_pow_right (by decide) h23
      obtain ⟨l, hl0⟩ : ∃ l, l = x :: q := ⟨_, rfl⟩
      obtain ⟨g, hg⟩ : ∃ g : Tl → List (List Tl), g = fun t => if fits t x l then (til ts j (cutT t l)).map (t :: ·) else [] := ⟨_, rfl⟩
      have etil : til ts (j + 1) (x :: q) = ts.flatMap g := by rw [hg, hl0]; rfl
      rw [etil] at htot ⊢
      have hne : l ≠ [] := by rw [hl0]; simp
      have hix : idxF (tI l) (.int 0) = some (.int x) := by rw [hl0]; exact atI_nat (by decide) rfl
      have hxl : x ∈ l := by rw [hl0]; simp
      rw [← hl0] at hj hnd hl ⊢
      have hll : l.length ≤ lim := by unfold lim; omega
      rw [exs_nx (e1 := [.val (.lst (ts.map tD)), .val (tI l), .no, .no, .no, .no, .no, .no]) (by simp [T_law_tilings1, hne])]
      rw [exs_nx (e1 := [.val (.lst (ts.map tD)), .val (tI l), .val (.lst []), .no, .no, .no, .no, .no]) (by simp [T_law_tilings2])]
      obtain ⟨env', b1, b2⟩ := for_pre (f := fun d e => (setTg (.tp [3, 4]) d e).bind fun e1 => exs (run G (k + (j + 1))) S_law_tilings1 e1) (e := tD) ts
        (fun p env => ∃ s3 s4 s6, env = [.val (.lst (ts.map tD)), .val (tI l), .val (.lst ((p.flatMap g).map nmU)), s3, s4, .no, s6, .no])
        (fun p t p' hp env hI => by
          obtain ⟨s3, s4, s6, rfl⟩ := hI
          have ht : t ∈ ts := by rw [hp]; simp
          have htl := hts t ht
          have htll : t.2.length ≤ lim := by unfold lim; omega
          obtain ⟨Fd, hFd⟩ : ∃ Fd, Fd = p.flatMap g := ⟨_, rfl⟩
          have hFl : Fd.length + (g t).length ≤ 2 ^ 23 := by
            have h1 := htot
            rw [hp, List.flatMap_append, List.flatMap_cons, List.length_append, List.length_append, ← hFd, List.length_append, List.length_cons] at h1
            rw [hp, List.length_append, List.length_cons] at hbig
            omega
          rw [List.flatMap_append, ← hFd, List.flatMap_cons, List.flatMap_nil, List.append_nil]
          show ∃ env', exs (run G (k + (j + 1))) S_law_tilings1 [.val (.lst (ts.map tD)), .val (tI l), .val (.lst (Fd.map nmU)), .val (nmD t.1), .val (tI t.2), .no, s6, .no] = .ok (.nx env') ∧ _
          have c1 : ev (run G (k + (j + 1))) C_law_tilings1 [.val (.lst (ts.map tD)), .val (tI l), .val (.lst (Fd.map nmU)), .val (nmD t.1), .val (tI t.2), .no, s6, .no] = .ok (.lst ((t.2.filter fun y => !decide (y ∈ l)).map D.int)) := by
            unfold C_law_tilings1
            rw [lc_filter (l := t.2) (e := D.int) (d := D.int) (c := fun y => !decide (y ∈ l))]
            · simp
            · exact htll
            · rfl
            · rfl
            · intro y hy
              simp
            · intro y hy _
              simp
          have c2 : ev (run G (k + (j + 1))) C_law_tilings2 [.val (.lst (ts.map tD)), .val (tI l), .val (.lst (Fd.map nmU)), .val (nmD t.1), .val (tI t.2), .no, s6, .no] = .ok (.lst ((cutT t l).map D.int)) := by
            unfold C_law_tilings2 cutT
            rw [lc_filter (l := l) (e := D.int) (d := D.int) (c := fun y => decide (y ∉ t.2))]
            · simp
            · exact hll
            · rfl
            · rfl
            · intro y hy
              simp
            · intro y hy _
              simp
          by_cases hf : fits t x l = true
          · have eg : g t = (til ts j (cutT t l)).map (t :: ·) := by rw [hg]; exact if_pos hf
            obtain ⟨f1, f2⟩ := fits_iff.mp hf
            have hlt := cutT_lt hxl f1
            have hfe : (t.2.filter fun y => !decide (y ∈ l)) = [] := List.filter_eq_nil_iff.mpr fun y hy => by simp [f2 y hy]
            have hrec := ih k ts (cutT t l) (by omega) ok nd h23 hts (cutT_nd hnd) (by omega)
            have hrec' : run G (k + (j + 1)) 102 [.lst (ts.map tD), tI (cutT t l)] = .ok (.lst ((til ts j (cutT t l)).map nmU)) := hrec
            have c3 : ev (run G (k + (j + 1))) C_law_tilings3 [.val (.lst (ts.map tD)), .val (tI l), .val (.lst (Fd.map nmU)), .val (nmD t.1), .val (tI t.2), .no, .val (tI (cutT t l)), .no] = .ok (.lst ((g t).map nmU)) := by
              rw [eg]
              unfold C_law_tilings3
              have hgl : (til ts j (cutT t l)).length ≤ lim := by
                have : (g t).length = (til ts j (cutT t l)).length := by rw [eg, List.length_map]
                unfold lim
                omega
              rw [lc_map (l := til ts j (cutT t l)) (e := nmU) (d := fun U => nmU (t :: U)), List.map_map]
              · rfl
              · simp [hrec']
              · exact hgl
              · rfl
              · rfl
              · intro U hU
                obtain ⟨u1, u2⟩ := til_sound ok j (cutT t l) (cutT_nd hnd) U hU
                have hUl : U.length ≤ 23 := Nat.le_trans (nd_len (til_nd ok (cutT_nd hnd) u1 u2) u1) h23
                have hadd : bopF .add (.lst [nmD t.1]) (nmU U) = some (nmU (t :: U)) := b_addL [nmD t.1] (U.map fun t => nmD t.1) (by simp; unfold lim; omega)
                simp [-List.map_cons, hadd, show (1 : Nat) ≤ lim by decide]
            refine ⟨[.val (.lst (ts.map tD)), .val (tI l), .val (.lst ((Fd ++ g t).map nmU)), .val (nmD t.1), .val (tI t.2), .no, .val (tI (cutT t l)), .no], ?_, _, _, _, rfl⟩
            have hadd : bopF .add (.lst (Fd.map nmU)) (.lst ((g t).map nmU)) = some (.lst ((Fd ++ g t).map nmU)) := by
              rw [b_addL _ _ (by rw [List.length_map, List.length_map]; unfold lim; omega), List.map_append]
            have q2 := c2
            simp [S_law_tilings1, T_law_tilings3, hix, f1, c1, hfe, c2, c3, hadd]
          · have eg : g t = [] := by rw [hg]; exact if_neg hf
            rw [eg, List.append_nil]
            refine ⟨[.val (.lst (ts.map tD)), .val (tI l), .val (.lst (Fd.map nmU)), .val (nmD t.1), .val (tI t.2), .no, s6, .no], ?_, _, _, _, rfl⟩
            by_cases f1 : x ∈ t.2
            · have hfe : ¬ (t.2.filter fun y => !decide (y ∈ l)) = [] := fun e => hf (fits_iff.mpr ⟨f1, fun y hy => by
                have := List.filter_eq_nil_iff.mp e y hy
                simpa using this⟩)
              simp [-List.filter_eq_nil_iff, S_law_tilings1, T_law_tilings3, hix, f1, c1, hfe]
            · simp [S_law_tilings1, T_law_tilings3, hix, f1]) [.val (.lst (ts.map tD)), .val (tI l), .val (.lst []), .no, .no, .no, .no, .no] ⟨.no, .no, .no, by simp⟩
      obtain ⟨s3, s4, s6, rfl⟩ := b2
      rw [exs_nx (by
        unfold T_law_tilings4
        rw [x_for]
        simp only [noBor_lst, isBor_var, Bool.not_false, if_true, vi_lst, v_var, List.getElem?_cons_succ, List.getElem?_cons_zero, slotV_val, R.bind_ok, lstD_lst]
        exact b1)]
      simp [T_law_tilings5]

end Cl
set_option Elab.async false
set_option linter.all false
set_option maxRecDepth 100000
set_option maxHeartbeats 1000000
namespace Cl
open PySem
theorem lt_codes (a b : Int) : copF .lt (nmC a) (nmC b) = some (decide (a < b)) := by
  show some (HT.lexLt [a / 100, a % 100] [b / 100, b % 100]) = _
  simp only [HT.lexLt]
  congr 1
  by_cases h1 : a / 100 = b / 100
  · rw [if_pos h1]
    by_cases h2 : a % 100 = b % 100
    · rw [if_pos h2]
      have : a = b := by omega
      simp [this]
    · rw [if_neg h2, Bool.eq_iff_iff, decide_eq_true_eq, decide_eq_true_eq]
      omega
  · rw [if_neg h1, Bool.eq_iff_iff, decide_eq_true_eq, decide_eq_true_eq]
    omega
theorem zip_cd : ∀ (U : List Int) (t : Int), zipD ((t :: U).map nmC) (U.map nmC) = ((t :: U).zip U).map fun p => .tup [nmC p.1, nmC p.2] := fun U => by
  induction U with
  | nil => intro t; rfl
  | cons u U ih =>
    intro t
    rw [List.map_cons, List.map_cons, zipD, List.zip_cons_cons, List.map_cons, ← ih u, List.map_cons]
section
variable {n : Int} {rs : List (List Int)} (hn : 1 ≤ n ∧ n ≤ 24) (hl : 1 ≤ rs.length ∧ rs.length ≤ 3) (h : ∀ r ∈ rs, IsSet n r)
include hn hl h
theorem r_tiling_nt {k : Nat} {d : D} (hd : isiF .tuple d = false) : run G (k + 5) 59 [.int n, rsD rs, d] = .ok (.bl false) := by
  rw [U_is_tiling]
  simp [F_is_tiling, r_check_rhythms (k := k) hn hl h, hd]
theorem r_tiling_no {k : Nat} {ds : List D} (hd : ds.length ≤ lim) (b : D → Bool) (h1 : ∀ d ∈ ds, run G (k + 4) 58 [.int n, rsD rs, d] = .ok (.bl (b d))) (h2 : ds.all b = false) : run G (k + 5) 59 [.int n, rsD rs, .tup ds] = .ok (.bl false) := by
  have c1 : ev (run G (k + 4)) C_is_tiling1 [.val (.int n), .val (rsD rs), .val (.tup ds), .no, .no, .no, .no, .no, .no, .no] = .ok (.lst ((ds.map b).map D.bl)) := by
    unfold C_is_tiling1
    rw [lc_map (l := ds) (e := id) (d := fun d => .bl (b d)), List.map_map]
    · rfl
    · simp
    · exact hd
    · rfl
    · rfl
    · intro d hd'
      simp [h1 d hd']
  have h3 : (ds.map b).all id = false := by rw [List.all_map]; exact h2
  rw [U_is_tiling]
  simp only [F_is_tiling]
  rw [exs_nx (e1 := [.val (.int n), .val (rsD rs), .val (.tup ds), .no, .no, .no, .no, .no, .no, .no]) (by simp [r_check_rhythms (k := k) hn hl h])]
  obtain ⟨bs, hbs⟩ : ∃ bs, bs = ds.map b := ⟨_, rfl⟩
  rw [← hbs] at c1 h3
  simp [-List.map_map, isiF, c1, h3]
/-- tiles, but not rising -/
theorem r_tiling_desc {k : Nat} {t : Int} {U : List Int} (hd : U.length < lim) (h1 : ∀ c ∈ t :: U, run G (k + 4) 58 [.int n, rsD rs, nmC c] = .ok (.bl true)) (h2 : ∃ p ∈ (t :: U).zip U, ¬ p.1 < p.2) : run G (k + 5) 59 [.int n, rsD rs, rwD (t :: U)] = .ok (.bl false) := by
  have c1 : ev (run G (k + 4)) C_is_tiling1 [.val (.int n), .val (rsD rs), .val (rwD (t :: U)), .no, .no, .no, .no, .no, .no, .no] = .ok (.lst (((t :: U).map fun _ => true).map D.bl)) := by
    unfold C_is_tiling1
    rw [lc_map (l := t :: U) (e := nmC) (d := fun d => .bl true), List.map_map]
    · rfl
    · simp
    · rw [List.length_cons]; omega
    · rfl
    · rfl
    · intro d hd'
      simp [h1 d hd']
  have c2 : ev (run G (k + 4)) C_is_tiling2 [.val (.int n), .val (rsD rs), .val (rwD (t :: U)), .no, .no, .no, .no, .no, .no, .no] = .ok (.lst ((((t :: U).zip U).map fun p => decide (p.1 < p.2)).map D.bl)) := by
    unfold C_is_tiling2
    rw [lc_map (l := (t :: U).zip U) (e := fun p => .tup [nmC p.1, nmC p.2]) (d := fun p => .bl (decide (p.1 < p.2))), List.map_map]
    · rfl
    · have hs1 : slcF (rwD (t :: U)) (some 1) none = some (.tup (U.map nmC)) := by
        show some (D.tup (cutD ((t :: U).map nmC) (some 1) none)) = _
        rw [cut_from _ (by decide)]
        rfl
      have hz : zipDD (rwD (t :: U)) (.tup (U.map nmC)) = .ok (((t :: U).zip U).map fun p => .tup [nmC p.1, nmC p.2]) := congrArg R.ok (zip_cd U t)
      simp only [vi_zip, isBor_var, isBor_slc, Bool.false_eq_true, if_false, v_var, List.getElem?_cons_succ, List.getElem?_cons_zero, slotV_val, R.bind_ok, v_slc, vo_some, vo_none, v_cst, cst_int, intD_int, hs1, R.ofO_some, hz]
    · rw [List.length_zip, List.length_cons]; omega
    · rfl
    · rfl
    · intro p hp
      simp [lt_codes]
  have h3 : (((t :: U).zip U).map fun p => decide (p.1 < p.2)).all id = false := by
    obtain ⟨p, hp, hlt⟩ := h2
    rw [← Bool.not_eq_true, List.all_eq_true]
    intro ha
    have := ha (decide (p.1 < p.2)) (List.mem_map.mpr ⟨p, hp, rfl⟩)
    simp at this
    exact hlt this
  obtain ⟨bs, hbs⟩ : ∃ bs, bs = ((t :: U).zip U).map fun p => decide (p.1 < p.2) := ⟨_, rfl⟩
  rw [← hbs] at c2 h3
  rw [U_is_tiling]
  simp only [F_is_tiling]
  rw [exs_nx (e1 := [.val (.int n), .val (rsD rs), .val (rwD (t :: U)), .no, .no, .no, .no, .no, .no, .no]) (by simp [r_check_rhythms (k := k) hn hl h])]
  rw [exs_nx (e1 := [.val (.int n), .val (rsD rs), .val (rwD (t :: U)), .no, .no, .no, .no, .no, .no, .no]) (by simp [-List.map_map, -List.map_cons, isiF, c1])]
  simp only [xs_cons, x_ite, v_T, isTest_not, v_not, v_bi, vb_cons, vb_nil, c2, R.bind_ok, bi_all, h3, R.ofO_some]
  rfl
theorem r_tiling_sub {k : Nat} {U : List Tl} (hU : U.Sublist (tlA n (per n) rs)) : run G (k + 5) 59 [.int n, rsD rs, nmL U] = .ok (.bl (decide (srt (bts U) = rgI 0 n))) := by
  have htl := tl_len h hn.2 hl.2
  have hUl : U.length ≤ 72 := Nat.le_trans hU.length_le htl
  have hm : ∀ t ∈ U, ∃ (j : Nat) (r : List Int), rs[j]? = some r ∧ t.1.1 = j ∧ (0 ≤ t.1.2 ∧ t.1.2 < per n r) ∧ t.2 = mv n r t.1.2 := fun t ht => (mem_tlA h).mp (hU.subset ht)
  have hpw : U.Pairwise fun t u => ltN t.1 u.1 := tlA_pw.sublist hU
  have hbl : (bts U).length ≤ 1728 := by
    have gen : ∀ V : List Tl, (∀ t ∈ V, t.2.length ≤ 24) → (bts V).length ≤ 24 * V.length := fun V => by
      induction V with
      | nil => intro _; exact Nat.zero_le _
      | cons t V ih =>
        intro hV
        show (t.2 ++ bts V).length ≤ _
        have h1 := hV t List.mem_cons_self
        have h2 := ih fun u hu => hV u (List.mem_cons_of_mem _ hu)
        rw [List.length_append, List.length_cons]
        omega
    have := gen U fun t ht => by
      obtain ⟨j, r, g1, g2, g3, g4⟩ := hm t ht
      have hr := h r (List.mem_of_getElem? g1)
      have := (hr.mv t.1.2).len
      rw [g4]
      omega
    omega
  rw [U_is_tiling]
  simp only [F_is_tiling]
  rw [exs_nx (e1 := [.val (.int n), .val (rsD rs), .val (nmL U), .no, .no, .no, .no, .no, .no, .no]) (by simp [r_check_rhythms (k := k) hn hl h])]
  have c1 : ev (run G (k + 4)) C_is_tiling1 [.val (.int n), .val (rsD rs), .val (nmL U), .no, .no, .no, .no, .no, .no, .no] = .ok (.lst ((U.map fun _ => true).map D.bl)) := by
    unfold C_is_tiling1
    rw [lc_map (l := U) (e := fun t => nmD t.1) (d := fun _ => .bl true), List.map_map]
    · rfl
    · simp
    · unfold lim; omega
    · rfl
    · rfl
    · intro t ht
      obtain ⟨j, r, g1, g2, g3, _⟩ := hm t ht
      have := r_is_tile hn hl h (k := k + 1) (s := t.1.2) g1
      rw [decide_eq_true g3] at this
      have e : nmD t.1 = nmD ((j : Int), t.1.2) := by rw [← g2]
      rw [← e] at this
      simp [this]
  rw [exs_nx (e1 := [.val (.int n), .val (rsD rs), .val (nmL U), .no, .no, .no, .no, .no, .no, .no]) (by simp [-List.map_map, isiF, c1])]
  have c2 : ∃ bs : List Bool, bs.all id = true ∧ ev (run G (k + 4)) C_is_tiling2 [.val (.int n), .val (rsD rs), .val (nmL U), .no, .no, .no, .no, .no, .no, .no] = .ok (.lst (bs.map D.bl)) := by
    cases U with
    | nil => exact ⟨[], rfl, rfl⟩
    | cons t U =>
      refine ⟨((t :: U).zip U).map fun _ => true, by simp, ?_⟩
      unfold C_is_tiling2
      rw [lc_map (l := (t :: U).zip U) (e := fun p => .tup [nmD p.1.1, nmD p.2.1]) (d := fun _ => .bl true), List.map_map]
      · rfl
      · have hs1 : slcF (nmL (t :: U)) (some 1) none = some (.tup (U.map fun t => nmD t.1)) := by
          show some (D.tup (cutD ((t :: U).map fun t => nmD t.1) (some 1) none)) = _
          rw [cut_from _ (by decide)]
          rfl
        have hz : zipDD (nmL (t :: U)) (.tup (U.map fun t => nmD t.1)) = .ok (((t :: U).zip U).map fun p => .tup [nmD p.1.1, nmD p.2.1]) := congrArg R.ok (zip_nm hn hl h U t)
        simp only [vi_zip, isBor_var, isBor_slc, Bool.false_eq_true, if_false, v_var, List.getElem?_cons_succ, List.getElem?_cons_zero, slotV_val, R.bind_ok, v_slc, vo_some, vo_none, v_cst, cst_int, intD_int, hs1, R.ofO_some, hz]
      · rw [List.length_zip]; unfold lim; simp at hUl; omega
      · rfl
      · rfl
      · intro p hp
        have hlt := zip_lt U t hpw p hp
        have hc : copF .lt (nmD p.1.1) (nmD p.2.1) = some true := by
          show some (HT.lexLt [p.1.1.1, p.1.1.2] [p.2.1.1, p.2.1.2]) = _
          simp only [HT.lexLt]
          rcases hlt with hh | ⟨h1, h2⟩
          · rw [if_neg (by omega), decide_eq_true hh]
          · rw [if_pos h1, if_neg (by omega), decide_eq_true h2]
        simp [hc]
  obtain ⟨bs, hbs, c2⟩ := c2
  rw [exs_nx (e1 := [.val (.int n), .val (rsD rs), .val (nmL U), .no, .no, .no, .no, .no, .no, .no]) (by simp only [x_ite, v_T, isTest_not, v_not, v_bi, vb_cons, vb_nil, c2, R.bind_ok, bi_all, hbs, R.ofO_some]; rfl)]
  have c3 : ev (run G (k + 4)) C_is_tiling3 [.val (.int n), .val (rsD rs), .val (nmL U), .no, .no, .no, .no, .no, .no, .no] = .ok (.lst ((bts U).map D.int)) := by
    unfold C_is_tiling3
    have e : (bts U).map D.int = U.flatMap fun t => t.2.map D.int := by
      unfold bts
      rw [List.map_flatten, List.map_map, List.flatMap_def]
      rfl
    rw [e, lc2_map (l := U) (e := fun t => nmD t.1) (m := fun t => t.2) (e1 := D.int) (d := fun _ x => .int x) (E1 := fun t => [.val (.int n), .val (rsD rs), .val (nmL U), .no, .no, .no, .no, .val (.int t.1.1), .val (.int t.1.2), .no])]
    · simp
    · exact ⟨rfl, rfl, rfl, rfl, rfl⟩
    · intro t ht
      rfl
    · intro t ht
      obtain ⟨j, r, g1, g2, g3, g4⟩ := hm t ht
      have x2 : idxF (rsD rs) (.int t.1.1) = some (tI r) := by
        rw [g2]
        exact atI_nat (by omega) (by rw [List.getElem?_map, Int.toNat_natCast, g1]; rfl)
      have hmv := r_move_by (k := k + 3) (m := t.1.2) (h r (List.mem_of_getElem? g1)) (show n ≤ 100000 by omega)
      rw [← g4] at hmv
      simp [x2, hmv]
    · intro t ht y hy
      simp
    · rw [← e, List.length_map]; unfold lim; omega
  rw [exs_nx (e1 := [.val (.int n), .val (rsD rs), .val (nmL U), .no, .no, .no, .val (.lst ((bts U).map D.int)), .no, .no, .no]) (by simp [c3])]
  simp [bi_sorted (bts U) (by unfold lim; omega), rgD_is 0 n (by omega)]
/-! is_tile of odd values -/
theorem tile_nt {k : Nat} {d : D} (hd : isiF .tuple d = false) : run G (k + 1) 58 [.int n, rsD rs, d] = .ok (.bl false) := by
  rw [U_is_tile]
  simp [F_is_tile, hd]
theorem tile_one {k : Nat} {d : D} : run G (k + 1) 58 [.int n, rsD rs, .tup [d]] = .ok (.bl false) := by
  have x3 : biF .len [.tup [d]] = some (.int 1) := rfl
  have hty : isiF .tuple (.tup [d]) = true := rfl
  rw [U_is_tile]
  simp [F_is_tile, hty, x3]
theorem tile_ix {k : Nat} {d e : D} (hd : isInt d 0 ((rs.length : Int) - 1) = false) : run G (k + 2) 58 [.int n, rsD rs, .tup [d, e]] = .ok (.bl false) := by
  have x3 : biF .len [.tup [d, e]] = some (.int 2) := rfl
  have hty : isiF .tuple (.tup [d, e]) = true := rfl
  have x0 : idxF (.tup [d, e]) (.int 0) = some d := atI_nat (by decide) rfl
  rw [U_is_tile]
  simp [F_is_tile, hty, x3, x0, r_is_int (k := k) (d := d), hd]
end

end Cl
set_option Elab.async false
set_option linter.all false
set_option maxRecDepth 100000
set_option maxHeartbeats 1000000
namespace Cl
open PySem
def rowsN (n : Int) (rs : List (List Int)) : List (List Int) := rowsT (tlA n (per n) rs) (rgI 0 n)
abbrev rwsD (R : List (List Int)) : D := .lst (R.map rwD)
section
variable {n : Int} {rs : List (List Int)} (hn : 1 ≤ n ∧ n ≤ 24) (hl : 1 ≤ rs.length ∧ rs.length ≤ 3) (h : ∀ r ∈ rs, IsSet n r)
include hn h
theorem tl_st {t : Tl} (ht : t ∈ tlA n (per n) rs) : 0 ≤ t.1.2 ∧ t.1.2 < 100 := by
  obtain ⟨j, r, g1, g2, g3, _⟩ := (mem_tlA h).mp ht
  have := per_rg (h r (List.mem_of_getElem? g1))
  omega
theorem tl_code : ((tlA n (per n) rs).map code).Pairwise (· < ·) := by
  rw [List.pairwise_map]
  refine (List.Pairwise.and_mem.mp (tlA_pw (n := n) (pr := per n) (rs := rs))).imp ?_
  rintro t u ⟨ht, hu, hlt⟩
  have a := tl_st hn h ht
  have b := tl_st hn h hu
  unfold code
  rcases hlt with hlt | ⟨h1, h2⟩ <;> omega
theorem nm_rw {U : List Tl} (hU : ∀ t ∈ U, t ∈ tlA n (per n) rs) : nmL U = rwD (U.map code) := by
  unfold nmL rwD
  rw [List.map_map]
  congr 1
  exact List.map_congr_left fun t ht => (nmC_code (tl_st hn h (hU t ht))).symm
theorem mem_rowsN {c : List Int} : c ∈ rowsN n rs ↔ ∃ U : List Tl, U.Sublist (tlA n (per n) rs) ∧ (bts U).Perm (rgI 0 n) ∧ c = U.map code := mem_rowsT (tlA_ok h) (tl_code hn h) (rg_nd n)
theorem rowsN_ne {c : List Int} (hc : c ∈ rowsN n rs) : c ≠ [] := by
  obtain ⟨U, u1, u2, rfl⟩ := (mem_rowsN hn h).mp hc
  intro e
  rw [List.map_eq_nil_iff] at e
  subst e
  have := u2.length_eq
  rw [length_rgI] at this
  simp [bts] at this
  omega
include hl
theorem tile_code {k : Nat} {t : Tl} (ht : t ∈ tlA n (per n) rs) : run G (k + 3) 58 [.int n, rsD rs, nmC (code t)] = .ok (.bl true) := by
  obtain ⟨j, r, g1, g2, g3, _⟩ := (mem_tlA h).mp ht
  have := r_is_tile hn hl h (k := k) (s := t.1.2) g1
  rw [decide_eq_true g3] at this
  have e : nmC (code t) = nmD ((j : Int), t.1.2) := by rw [nmC_code (tl_st hn h ht), ← g2]
  rw [e]
  exact this
theorem r_tiling_no' {k : Nat} {ds : List D} (hd : ds.length ≤ lim) (h1 : ∀ d ∈ ds, ∃ x, run G (k + 4) 58 [.int n, rsD rs, d] = .ok (.bl x)) (h2 : ∃ d ∈ ds, run G (k + 4) 58 [.int n, rsD rs, d] = .ok (.bl false)) : run G (k + 5) 59 [.int n, rsD rs, .tup ds] = .ok (.bl false) := by
  refine r_tiling_no hn hl h hd (fun d => !(@decide (run G (k + 4) 58 [.int n, rsD rs, d] = .ok (.bl false)) (Classical.propDecidable _))) (fun d hd' => ?_) ?_
  · obtain ⟨x, hx⟩ := h1 d hd'
    cases x with
    | false => rw [hx]; simp
    | true => rw [hx]; simp
  · obtain ⟨d, hd', e⟩ := h2
    rw [← Bool.not_eq_true, List.all_eq_true]
    intro ha
    have := ha d hd'
    rw [e] at this
    simp at this
theorem cnt_per {t : Tl} (ht : t ∈ tlA n (per n) rs) : ∃ (j : Nat) (r : List Int), rs[j]? = some r ∧ t.1.1 = j ∧ (0 ≤ t.1.2 ∧ t.1.2 < per n r) ∧ per n r ≤ (((tlA n (per n) rs).filter fun u => decide (u.1.1 = t.1.1)).length : Int) := by
  obtain ⟨j, r, g1, g2, g3, g4⟩ := (mem_tlA h).mp ht
  refine ⟨j, r, g1, g2, g3, ?_⟩
  have := nd_len (l := tlR n (per n r) j r) (m := (tlA n (per n) rs).filter fun u => decide (u.1.1 = t.1.1)) tlR_nd fun u hu => by
    obtain ⟨u1, u2⟩ := (tlR_mem (h r (List.mem_of_getElem? g1))).mp hu
    have e1 : u.1.1 = j := by rw [u2]
    have e2 : u.2 = mv n r u.1.2 := congrArg (fun z : Tl => z.2) u2
    rw [List.mem_filter, decide_eq_true_eq]
    exact ⟨(mem_tlA h).mpr ⟨j, r, g1, e1, u1, e2⟩, by rw [e1, g2]⟩
  unfold tlR at this
  rw [List.length_map, length_rgI] at this
  omega
theorem r_lbeyond {k : Nat} : run G (k + 6) 103 [.int n, rsD rs, .lst ((tlA n (per n) rs).map tD), rwsD (rowsN n rs)] = .ok (.bl true) := by
  have htl := tl_len h hn.2 hl.2
  obtain ⟨A, hA⟩ : ∃ A, A = tlA n (per n) rs := ⟨_, rfl⟩
  have hAl : A.length ≤ 72 := by rw [hA]; exact htl
  rw [U_law_beyond]
  simp only [F_law_beyond]
  rw [← hA]
  obtain ⟨env1, b1, b2⟩ := for_pre (f := fun d e => (setTg (.nm 4) d e).bind fun e1 => exs (run G (k + 5)) S_law_beyond2 e1) (e := rwD) ((rowsN n rs).take 2)
    (fun q env => ∃ s4 s5 s6 s7 s10, env = [.val (.int n), .val (rsD rs), .val (.lst (A.map tD)), .val (rwsD (rowsN n rs)), s4, s5, s6, s7, .no, .no, s10, .no])
    (fun q c q' hq env hI => by
      obtain ⟨s4, s5, s6, s7, s10, rfl⟩ := hI
      have hc : c ∈ rowsN n rs := List.mem_of_mem_take (show c ∈ (rowsN n rs).take 2 by rw [hq]; simp)
      obtain ⟨U, u1, u2, rfl⟩ := (mem_rowsN hn h).mp hc
      have hUl : U.length ≤ 72 := Nat.le_trans u1.length_le htl
      obtain ⟨env2, d1, d2⟩ := for_pre (f := fun d e => (setTg (.tp [5, 6]) d e).bind fun e1 => exs (run G (k + 5)) S_law_beyond1 e1) (e := nmC) (U.map code)
        (fun q env => ∃ s5 s6 s7 s10, env = [.val (.int n), .val (rsD rs), .val (.lst (A.map tD)), .val (rwsD (rowsN n rs)), .val (rwD (U.map code)), s5, s6, s7, .no, .no, s10, .no])
        (fun z c z' hz env hI => by
          obtain ⟨s5, s6, s7, s10, rfl⟩ := hI
          obtain ⟨t, htU, rfl⟩ := List.mem_map.mp (show c ∈ U.map code by rw [hz]; simp)
          have ht := u1.subset htU
          have hst := tl_st hn h ht
          obtain ⟨j, r, g1, g2, g3, g4⟩ := cnt_per hn hl h ht
          obtain ⟨N, hN⟩ : ∃ N : Nat, N = ((tlA n (per n) rs).filter fun u => decide (u.1.1 = t.1.1)).length := ⟨_, rfl⟩
          have hNl : N ≤ 72 := by rw [hN]; exact Nat.le_trans (List.length_filter_le _ _) htl
          have ec1 : (code t) / 100 = t.1.1 := by unfold code; omega
          have ec2 : (code t) % 100 = t.1.2 := by unfold code; omega
          have hset : setTg (.tp [5, 6]) (nmC (code t)) [.val (.int n), .val (rsD rs), .val (.lst (A.map tD)), .val (rwsD (rowsN n rs)), .val (rwD (U.map code)), s5, s6, s7, .no, .no, s10, .no] = .ok [.val (.int n), .val (rsD rs), .val (.lst (A.map tD)), .val (rwsD (rowsN n rs)), .val (rwD (U.map code)), .val (.int t.1.1), .val (.int t.1.2), s7, .no, .no, s10, .no] := by
            rw [nmC_code hst]
            rfl
          have c1 : ev (run G (k + 5)) C_law_beyond1 [.val (.int n), .val (rsD rs), .val (.lst (A.map tD)), .val (rwsD (rowsN n rs)), .val (rwD (U.map code)), .val (.int t.1.1), .val (.int t.1.2), s7, .no, .no, s10, .no] = .ok (.lst ((A.filter fun u => decide (u.1.1 = t.1.1)).map fun u => nmD u.1)) := by
            unfold C_law_beyond1
            rw [lc_filter (l := A) (e := tD) (d := fun u => nmD u.1) (c := fun u => decide (u.1.1 = t.1.1))]
            · simp
            · unfold lim; omega
            · rfl
            · rfl
            · intro u hu
              have x0 : idxF (nmD u.1) (.int 0) = some (.int u.1.1) := atI_nat (by decide) rfl
              have e : setTg (.tp [8, 9]) (tD u) (wipeE [.val (.int n), .val (rsD rs), .val (.lst (A.map tD)), .val (rwsD (rowsN n rs)), .val (rwD (U.map code)), .val (.int t.1.1), .val (.int t.1.2), s7, .no, .no, s10, .no] [8, 9]) = .ok [.val (.int n), .val (rsD rs), .val (.lst (A.map tD)), .val (rwsD (rowsN n rs)), .val (rwD (U.map code)), .val (.int t.1.1), .val (.int t.1.2), s7, .val (nmD u.1), .val (tI u.2), s10, .no] := rfl
              rw [e]
              simp [x0]
            · intro u hu _
              have e : setTg (.tp [8, 9]) (tD u) (wipeE [.val (.int n), .val (rsD rs), .val (.lst (A.map tD)), .val (rwsD (rowsN n rs)), .val (rwD (U.map code)), .val (.int t.1.1), .val (.int t.1.2), s7, .no, .no, s10, .no] [8, 9]) = .ok [.val (.int n), .val (rsD rs), .val (.lst (A.map tD)), .val (rwsD (rowsN n rs)), .val (rwD (U.map code)), .val (.int t.1.1), .val (.int t.1.2), s7, .val (nmD u.1), .val (tI u.2), s10, .no] := rfl
              rw [e]
              simp
          have hlen : biF .len [.lst ((A.filter fun u => decide (u.1.1 = t.1.1)).map fun u => nmD u.1)] = some (.int N) := by
            show some (D.int (((A.filter fun u => decide (u.1.1 = t.1.1)).map fun u => nmD u.1).length : Nat)) = _
            rw [List.length_map, hN, hA]
          rw [← hN] at g4
          have hcm : (.tup [.int t.1.1, .int t.1.2] : D) = nmC (code t) := (nmC_code hst).symm
          obtain ⟨o, ho⟩ : ∃ o, o = t.1.2 + (N : Int) := ⟨_, rfl⟩
          obtain ⟨RC, hRC⟩ : ∃ RC, RC = (U.map code).filter fun c => !decide (c = code t) := ⟨_, rfl⟩
          have hRl : RC.length ≤ 72 := by rw [hRC]; exact Nat.le_trans (List.length_filter_le _ _) (by rw [List.length_map]; exact hUl)
          have c2 : ev (run G (k + 5)) C_law_beyond2 [.val (.int n), .val (rsD rs), .val (.lst (A.map tD)), .val (rwsD (rowsN n rs)), .val (rwD (U.map code)), .val (.int t.1.1), .val (.int t.1.2), .val (.int o), .no, .no, s10, .no] = .ok (.lst (RC.map nmC)) := by
            unfold C_law_beyond2
            rw [hRC, lc_filter (l := U.map code) (e := nmC) (d := nmC) (c := fun c => !decide (c = code t))]
            · simp
            · rw [List.length_map]; unfold lim; omega
            · rfl
            · rfl
            · intro x hx
              have o1 := okE_nmC.ok (by decide) x
              have o2 := okE_nmC.ok (by decide) (code t)
              simp [-fold_tI, hcm, c_ne o1 o2, eqE_nmC x (code t), show (2 : Nat) ≤ lim by decide]
            · intro x hx _
              simp
          refine ⟨[.val (.int n), .val (rsD rs), .val (.lst (A.map tD)), .val (rwsD (rowsN n rs)), .val (rwD (U.map code)), .val (.int t.1.1), .val (.int t.1.2), .val (.int o), .no, .no, .val (.lst (RC.map nmC)), .no], ?_, _, _, _, _, rfl⟩
          show (setTg _ _ _).bind _ = _
          rw [hset, R.bind_ok]
          unfold S_law_beyond1
          rw [exs_nx (e1 := [.val (.int n), .val (rsD rs), .val (.lst (A.map tD)), .val (rwsD (rowsN n rs)), .val (rwD (U.map code)), .val (.int t.1.1), .val (.int t.1.2), .val (.int o), .no, .no, s10, .no]) (by simp [-List.map_map, T_law_beyond1, c1, hlen, ho])]
          rw [exs_nx (e1 := [.val (.int n), .val (rsD rs), .val (.lst (A.map tD)), .val (rwsD (rowsN n rs)), .val (rwD (U.map code)), .val (.int t.1.1), .val (.int t.1.2), .val (.int o), .no, .no, .val (.lst (RC.map nmC)), .no]) (by simp [T_law_beyond2, c2])]
          by_cases hon : o < n
          · have eo : (.tup [.int t.1.1, .int o] : D) = nmC (100 * t.1.1 + o) := by
              unfold nmC
              rw [show (100 * t.1.1 + o) / 100 = t.1.1 by omega, show (100 * t.1.1 + o) % 100 = o by omega]
              rfl
            have hadd : bopF .add (.lst (RC.map nmC)) (.lst [nmC (100 * t.1.1 + o)]) = some (.lst ((RC ++ [100 * t.1.1 + o]).map nmC)) := by
              rw [b_addL _ _ (by simp; unfold lim; omega), List.map_append]
              rfl
            have hsl : (RC ++ [100 * t.1.1 + o]).length ≤ lim := by simp; unfold lim; omega
            have hso := bi_sortN (RC ++ [100 * t.1.1 + o]) hsl
            have hbad : run G (k + 4) 58 [.int n, rsD rs, nmC (100 * t.1.1 + o)] = .ok (.bl false) := by
              have := r_is_tile hn hl h (k := k + 1) (s := o) g1
              rw [decide_eq_false (by omega)] at this
              rw [← eo, g2]
              exact this
            have hno := r_tiling_no' hn hl h (k := k) (ds := (srt (RC ++ [100 * t.1.1 + o])).map nmC) (by rw [List.length_map, (srt_perm _).length_eq]; exact hsl) (fun d hd => by
              obtain ⟨x, hx, rfl⟩ := List.mem_map.mp hd
              rw [mem_srt] at hx
              rcases List.mem_append.mp hx with hx | hx
              · rw [hRC] at hx
                obtain ⟨u, hu, rfl⟩ := List.mem_map.mp (List.mem_filter.mp hx).1
                exact ⟨true, tile_code hn hl h (k := k + 1) (u1.subset hu)⟩
              · rw [List.mem_singleton.mp hx]
                exact ⟨false, hbad⟩) ⟨_, List.mem_map.mpr ⟨_, mem_srt.mpr (List.mem_append_right _ List.mem_cons_self), rfl⟩, hbad⟩
            obtain ⟨E, hE⟩ : ∃ E, E = RC ++ [100 * t.1.1 + o] := ⟨_, rfl⟩
            rw [← hE] at hadd hso hno
            simp [-fold_tI, T_law_beyond3, hon, eo, hadd, hso, hno, show (1 : Nat) ≤ lim by decide, show (2 : Nat) ≤ lim by decide]
          · simp [T_law_beyond3, hon]) [.val (.int n), .val (rsD rs), .val (.lst (A.map tD)), .val (rwsD (rowsN n rs)), .val (rwD (U.map code)), s5, s6, s7, .no, .no, s10, .no] ⟨_, _, _, _, rfl⟩
      obtain ⟨t5, t6, t7, t10, rfl⟩ := d2
      refine ⟨[.val (.int n), .val (rsD rs), .val (.lst (A.map tD)), .val (rwsD (rowsN n rs)), .val (rwD (U.map code)), t5, t6, t7, .no, .no, t10, .no], ?_, _, _, _, _, _, rfl⟩
      show exs (run G (k + 5)) S_law_beyond2 [.val (.int n), .val (rsD rs), .val (.lst (A.map tD)), .val (rwsD (rowsN n rs)), .val (rwD (U.map code)), s5, s6, s7, .no, .no, s10, .no] = _
      unfold S_law_beyond2
      rw [exs_nx (by
        unfold T_law_beyond4
        rw [x_for]
        simp only [noBor_tup, isBor_var, Bool.not_false, if_true, vi_tup, v_var, List.getElem?_cons_succ, List.getElem?_cons_zero, slotV_val, R.bind_ok]
        exact d1)]
      rfl) [.val (.int n), .val (rsD rs), .val (.lst (A.map tD)), .val (rwsD (rowsN n rs)), .no, .no, .no, .no, .no, .no, .no, .no] ⟨_, _, _, _, _, rfl⟩
  obtain ⟨s4, s5, s6, s7, s10, rfl⟩ := b2
  rw [exs_nx (by
    unfold T_law_beyond5
    rw [x_for]
    have hs1 : slcF (rwsD (rowsN n rs)) none (some 2) = some (.lst (((rowsN n rs).take 2).map rwD)) := by
      show some (D.lst (cutD ((rowsN n rs).map rwD) none (some 2))) = _
      rw [cut_to _ (by decide), List.map_take]
      rfl
    simp only [noBor_lst, isBor_slc, Bool.not_false, if_true, vi_lst, v_slc, v_var, List.getElem?_cons_succ, List.getElem?_cons_zero, slotV_val, R.bind_ok, vo_none, vo_some, v_cst, cst_int, intD_int, hs1, R.ofO_some, lstD_lst]
    exact b1)]
  simp [T_law_beyond6]
end

end Cl
set_option Elab.async false
set_option linter.all false
set_option maxRecDepth 100000
set_option maxHeartbeats 1000000
namespace Cl
open PySem
/-! ### values of other forms -/
theorem r_badcycle {ns : List Int} {at' : Int} (hs : ns.length ≤ 63) (hk : 0 ≤ at' ∧ at' ≤ 1900) : ∃ d, isInt d 1 24 = false ∧ ∀ f, run G (f + 2) 99 [.scr ns, .int at'] = .ok d := by
  obtain ⟨v, hv, e⟩ := r_drawn hs hk (show (0 : Int) < 5 by omega)
  have hc : v = 0 ∨ v = 1 ∨ v = 2 ∨ v = 3 ∨ v = 4 := by omega
  have st : ∀ f d, idxF (.lst [.non, .int 0, .int 25, .bl true, .str "8"]) (.int v) = some d → run G (f + 2) 99 [.scr ns, .int at'] = .ok d := fun f d hd => by
    rw [U_law_badcycle]
    simp [F_law_badcycle, e f, hd, show (5 : Nat) ≤ lim by decide]
  rcases hc with rfl | rfl | rfl | rfl | rfl
  · exact ⟨.non, rfl, fun f => st f _ (atI_nat (by decide) rfl)⟩
  · exact ⟨.int 0, rfl, fun f => st f _ (atI_nat (by decide) rfl)⟩
  · exact ⟨.int 25, rfl, fun f => st f _ (atI_nat (by decide) rfl)⟩
  · exact ⟨.bl true, rfl, fun f => st f _ (atI_nat (by decide) rfl)⟩
  · exact ⟨.str "8", rfl, fun f => st f _ (atI_nat (by decide) rfl)⟩
theorem r_badset {ns : List Int} {at' n : Int} (hs : ns.length ≤ 63) (hk : 0 ≤ at' ∧ at' ≤ 1900) (hn : 1 ≤ n) : ∃ d, (d.okD = true ∧ smallT d = true ∧ hasSet n d = false) ∧ ∀ f, run G (f + 2) 100 [.scr ns, .int at', .int n] = .ok d := by
  obtain ⟨v, hv, e⟩ := r_drawn hs hk (show (0 : Int) < 9 by omega)
  have hc : v = 0 ∨ v = 1 ∨ v = 2 ∨ v = 3 ∨ v = 4 ∨ v = 5 ∨ v = 6 ∨ v = 7 ∨ v = 8 := by omega
  have st : ∀ f d, idxF (.lst [.non, .tup [], .lst [.int 0], .tup [.int n], .tup [.int (-1), .int 0], .tup [.int 0, .int 0], .tup [.bl true], .tup [.str "0"], .int 0]) (.int v) = some d → run G (f + 2) 100 [.scr ns, .int at', .int n] = .ok d := fun f d hd => by
    rw [U_law_badset]
    simp [-fold_tI, F_law_badset, e f, hd, show (9 : Nat) ≤ lim by decide, show (1 : Nat) ≤ lim by decide, show (2 : Nat) ≤ lim by decide]
  rcases hc with rfl | rfl | rfl | rfl | rfl | rfl | rfl | rfl | rfl
  · exact ⟨.non, ⟨rfl, rfl, rfl⟩, fun f => st f _ (atI_nat (by decide) rfl)⟩
  · exact ⟨.tup [], ⟨ok_t [], rfl, rfl⟩, fun f => st f _ (atI_nat (by decide) rfl)⟩
  · exact ⟨.lst [.int 0], ⟨ok_lI [0], rfl, rfl⟩, fun f => st f _ (atI_nat (by decide) rfl)⟩
  · refine ⟨.tup [.int n], ⟨ok_t [n], rfl, ?_⟩, fun f => st f _ (atI_nat (by decide) rfl)⟩
    have h1 : ¬ n ≤ n - 1 := by omega
    simp [hasSet, ints?, setOk, h1]
  · refine ⟨.tup [.int (-1), .int 0], ⟨ok_t [-1, 0], rfl, ?_⟩, fun f => st f _ (atI_nat (by decide) rfl)⟩
    simp [hasSet, ints?, setOk]
  · refine ⟨.tup [.int 0, .int 0], ⟨ok_t [0, 0], rfl, ?_⟩, fun f => st f _ (atI_nat (by decide) rfl)⟩
    simp [hasSet, ints?, setOk, up]
  · exact ⟨.tup [.bl true], ⟨by decide +kernel, rfl, rfl⟩, fun f => st f _ (atI_nat (by decide) rfl)⟩
  · exact ⟨.tup [.str "0"], ⟨by decide +kernel, rfl, rfl⟩, fun f => st f _ (atI_nat (by decide) rfl)⟩
  · exact ⟨.int 0, ⟨rfl, rfl, rfl⟩, fun f => st f _ (atI_nat (by decide) rfl)⟩

end Cl
set_option Elab.async false
set_option linter.all false
set_option maxRecDepth 100000
set_option maxHeartbeats 1000000
namespace Cl
open PySem
/-! ### refused values -/
theorem chk_cyc {k : Nat} {d x : D} (h : isInt d 1 24 = false) : run G (k + 4) 56 [d, x] = .exc 1 := by
  rw [U_check_rhythms]
  simp [F_check_rhythms, r_check_cycle, h]
theorem chk_nl {k : Nat} {n : Int} {x : D} (hn : 1 ≤ n ∧ n ≤ 24) (hx : isiF .list x = false) : run G (k + 4) 56 [.int n, x] = .exc 11 := by
  rw [U_check_rhythms]
  simp [F_check_rhythms, r_check_cycle (k := k) (d := .int n), isInt, hn.1, hn.2, hx]
theorem chk_len {k : Nat} {n : Int} {ds : List D} (hn : 1 ≤ n ∧ n ≤ 24) (hx : ds.length = 0 ∨ ds.length = 4) : run G (k + 4) 56 [.int n, .lst ds] = .exc 11 := by
  have hb : biF .len [.lst ds] = some (.int (ds.length : Nat)) := rfl
  rw [U_check_rhythms]
  rcases hx with hx | hx
  · rw [hx] at hb
    simp [F_check_rhythms, r_check_cycle (k := k) (d := .int n), isInt, hn.1, hn.2, isiF, hb]
  · rw [hx] at hb
    simp [F_check_rhythms, r_check_cycle (k := k) (d := .int n), isInt, hn.1, hn.2, isiF, hb]
theorem chk_bad {k : Nat} {n : Int} {ds : List D} {d : D} (hn : 1 ≤ n ∧ n ≤ 24) (hl : ds.length < 3) (h : ∀ e ∈ ds, e.okD = true ∧ smallT e = true) (hd : d.okD = true ∧ smallT d = true ∧ hasSet n d = false) : run G (k + 4) 56 [.int n, .lst (ds ++ [d])] = .exc 11 := by
  rw [U_check_rhythms]
  have c1 : ev (run G (k + 3)) C_check_rhythms1 [.val (.int n), .val (.lst (ds ++ [d])), .no] = .ok (.lst (((ds ++ [d]).map (hasSet n)).map D.bl)) := by
    unfold C_check_rhythms1
    rw [lc_map (l := ds ++ [d]) (e := id) (d := fun e => .bl (hasSet n e)), List.map_map]
    · rfl
    · simp
    · rw [List.length_append]; simp; unfold lim; omega
    · rfl
    · rfl
    · intro e he
      have h1 : e.okD = true ∧ smallT e = true := by
        rcases List.mem_append.mp he with he | he
        · exact h e he
        · rw [List.mem_singleton.mp he]
          exact ⟨hd.1, hd.2.1⟩
      simp [r_has_set (k := k + 1) (n := n) h1.1 h1.2]
  have h2 : ((ds ++ [d]).map (hasSet n)).all id = false := by
    rw [List.map_append, List.all_append]
    simp [hd.2.2]
  obtain ⟨E, hE⟩ : ∃ E, E = ds ++ [d] := ⟨_, rfl⟩
  have hEl : E.length = ds.length + 1 := by rw [hE]; simp
  rw [← hE] at c1 h2 ⊢
  obtain ⟨bs, hbs⟩ : ∃ bs, bs = E.map (hasSet n) := ⟨_, rfl⟩
  rw [← hbs] at c1 h2
  obtain ⟨m, hm⟩ : ∃ m : Int, m = (E.length : Nat) := ⟨_, rfl⟩
  have hb : biF .len [.lst E] = some (.int m) := by rw [hm]; rfl
  have m1 : 1 ≤ m := by omega
  have m2 : m ≤ 3 := by omega
  simp [F_check_rhythms, r_check_cycle (k := k) (d := .int n), isInt, hn.1, hn.2, isiF, hb, m1, m2, c1, h2]
abbrev hk52 : HE := .idx (.cons (.isx 1) (.cons (.isx 11) (.cons (.isx 10) .nil)))
theorem evh1 : evh 1 hk52 = some (.int 0) := by kernel_rfl
theorem evh11 : evh 11 hk52 = some (.int 1) := by kernel_rfl
theorem evh10 : evh 10 hk52 = some (.int 2) := by kernel_rfl
theorem err_0 {k : Nat} {a b c v : D} {x : Nat} (h : run G k 59 [a, b, c] = .exc x) (hv : evh x hk52 = some v) : run G (k + 1) 101 [.int 0, a, b, c] = .ok v := by
  rw [U_law_error]
  simp only [F_law_error, xs_cons, T_law_error2, x_tryx, T_law_error1, x_ite, v_T, isTest_cmp, if_true, v_cmp, v_var, v_cst, cst_int, List.getElem?_cons_succ, List.getElem?_cons_zero, slotV_val, R.bind_ok, c_eq (ok_int 0) (ok_int 0), eq_int, decide_true, Option.map_some, R.ofO_some, boolD_bl, x_exp, v_call, vs_cons, vs_nil, isBor_var]
  simp only [Bool.false_eq_true, if_false, R.bind_ok, h, R.bind_exc, catch_exc, hv]
  rfl
theorem err_at {k : Nat} {w : Int} {f : Nat} {a b c v : D} (hw : ¬ w = 0) (hf : L2.atI [62, 63, 64, 65] (w - 1) = some f) {x : Nat} (h : run G k f [a, b] = .exc x) (hv : evh x hk52 = some v) : run G (k + 1) 101 [.int w, a, b, c] = .ok v := by
  rw [U_law_error]
  simp only [F_law_error, xs_cons, T_law_error2, x_tryx, T_law_error1, x_ite, v_T, isTest_cmp, if_true, v_cmp, v_var, v_cst, cst_int, List.getElem?_cons_succ, List.getElem?_cons_zero, slotV_val, R.bind_ok, c_eq (ok_int w) (ok_int 0), eq_int, hw, decide_false, Option.map_some, R.ofO_some, boolD_bl, x_exp, v_callAt, v_bin, b_sub, intD_int, hf, vs_cons, vs_nil, isBor_var, show ([62, 63, 64, 65] : List Nat).length ≤ lim by decide]
  simp only [Bool.false_eq_true, if_false, R.bind_ok, h, R.bind_exc, catch_exc, hv]
  rfl
theorem err_all {k : Nat} {a b : D} {x : Nat} {v : D} (h : ∀ k, run G (k + 4) 56 [a, b] = .exc x) (hv : evh x hk52 = some v) : ∀ w ∈ rgI 0 5, run G (k + 8) 101 [.int w, a, b, .int 0] = .ok v := fun w hw => by
  have hw' := mem_rgI.mp hw
  have hc : w = 0 ∨ w = 1 ∨ w = 2 ∨ w = 3 ∨ w = 4 := by omega
  have q : ∀ k, run G (k + 5) 36 [a, b] = .exc x := fun k => by rw [U_check_small]; simp [F_check_small, h k]
  rcases hc with rfl | rfl | rfl | rfl | rfl
  · exact err_0 (by rw [U_is_tiling]; simp [F_is_tiling, h (k + 2)]) hv
  · exact err_at (by decide) (atI_nat (by decide) rfl) (by rw [U_can_tile]; simp [F_can_tile, q (k + 1)]) hv
  · exact err_at (by decide) (atI_nat (by decide) rfl) (by rw [U_count_tilings]; simp [F_count_tilings, q (k + 1)]) hv
  · exact err_at (by decide) (atI_nat (by decide) rfl) (by rw [U_first_tiling]; simp [F_first_tiling, q (k + 1)]) hv
  · exact err_at (by decide) (atI_nat (by decide) rfl) (by rw [U_needed_rhythms]; simp [F_needed_rhythms, q (k + 1)]) hv
theorem set13 : ∀ r ∈ [[(0 : Int)]], IsSet 13 r := fun r hr => by
  rw [List.mem_singleton.mp hr]
  exact ⟨by simp, by simp, by simp, by simp⟩
def ans13 (w : Int) : D := if w = 0 then .non else .int 2
theorem err_13 {k : Nat} : ∀ w ∈ rgI 0 5, run G (k + 8) 101 [.int w, .int 13, rsD [[0]], .int 0] = .ok (ans13 w) := fun w hw => by
  have hw' := mem_rgI.mp hw
  have hc : w = 0 ∨ w = 1 ∨ w = 2 ∨ w = 3 ∨ w = 4 := by omega
  have q : ∀ k, run G (k + 5) 36 [.int 13, rsD [[0]]] = .exc 10 := fun k => by
    rw [U_check_small]
    simp [-List.map_cons, F_check_small, r_check_rhythms (k := k) (n := 13) (rs := [[0]]) (by decide) (by decide) set13]
  rcases hc with rfl | rfl | rfl | rfl | rfl
  · have := r_tiling_nt (n := 13) (rs := [[0]]) (by decide) (by decide) set13 (k := k + 2) (d := .int 0) rfl
    rw [U_law_error]
    simp [-List.map_cons, F_law_error, T_law_error2, T_law_error1, T_law_error3, this, ans13]
  · exact err_at (by decide) (atI_nat (by decide) rfl) (by rw [U_can_tile]; simp [-List.map_cons, F_can_tile, q (k + 1)]) evh10
  · exact err_at (by decide) (atI_nat (by decide) rfl) (by rw [U_count_tilings]; simp [-List.map_cons, F_count_tilings, q (k + 1)]) evh10
  · exact err_at (by decide) (atI_nat (by decide) rfl) (by rw [U_first_tiling]; simp [-List.map_cons, F_first_tiling, q (k + 1)]) evh10
  · exact err_at (by decide) (atI_nat (by decide) rfl) (by rw [U_needed_rhythms]; simp [-List.map_cons, F_needed_rhythms, q (k + 1)]) evh10

end Cl
set_option Elab.async false
set_option linter.all false
set_option maxRecDepth 100000
set_option maxHeartbeats 1000000
namespace Cl
open PySem
theorem refused {k : Nat} {n v : Int} {r : List Int} {bad : D} (hn : 1 ≤ n ∧ n ≤ 24) (hr : IsSet n r) (hv : 0 ≤ v ∧ v < 6) (hb : bad.okD = true ∧ smallT bad = true ∧ hasSet n bad = false) : ∃ d, idxF (.lst [.non, .lst [], .tup [tI r], .lst [bad], .lst [tI r, bad], .lst [tI r, tI r, tI r, tI r]]) (.int v) = some d ∧ ∀ k, run G (k + 4) 56 [.int n, d] = .exc 11 := by
  have hc : v = 0 ∨ v = 1 ∨ v = 2 ∨ v = 3 ∨ v = 4 ∨ v = 5 := by omega
  have hrl : r.length ≤ lim := by
    have := hr.len
    unfold lim
    omega
  rcases hc with rfl | rfl | rfl | rfl | rfl | rfl
  · exact ⟨_, atI_nat (by decide) rfl, fun k => chk_nl hn rfl⟩
  · exact ⟨_, atI_nat (by decide) rfl, fun k => chk_len (ds := []) hn (.inl rfl)⟩
  · exact ⟨_, atI_nat (by decide) rfl, fun k => chk_nl hn rfl⟩
  · exact ⟨_, atI_nat (by decide) rfl, fun k => chk_bad (ds := []) hn (by decide) (fun e he => by cases he) hb⟩
  · exact ⟨_, atI_nat (by decide) rfl, fun k => chk_bad (ds := [tI r]) hn (by simp) (fun e he => by
      rw [List.mem_singleton.mp he]
      exact ⟨ok_t r, small_t hrl⟩) hb⟩
  · exact ⟨_, atI_nat (by decide) rfl, fun k => chk_len (ds := [tI r, tI r, tI r, tI r]) hn (.inr rfl)⟩
theorem told13 : copF .eq (.lst (((rgI 0 5).map fun _ => D.int 0) ++ ((rgI 0 5).map fun _ => D.int 1) ++ (rgI 0 5).map ans13)) (.lst [.int 0, .int 0, .int 0, .int 0, .int 0, .int 1, .int 1, .int 1, .int 1, .int 1, .non, .int 2, .int 2, .int 2, .int 2]) = some true := by kernel_rfl
theorem due13 (cl : Nat → List D → R D) (env : Env) : ev cl (.bin .add (.bin .add (.bin .add (.bin .mul (.lst (.cons (.cst (.int 0)) .nil)) (.cst (.int 5))) (.bin .mul (.lst (.cons (.cst (.int 1)) .nil)) (.cst (.int 5)))) (.lst (.cons (.cst .non) .nil))) (.bin .mul (.lst (.cons (.cst (.int 2)) .nil)) (.cst (.int 4)))) env = .ok (.lst [.int 0, .int 0, .int 0, .int 0, .int 0, .int 1, .int 1, .int 1, .int 1, .int 1, .non, .int 2, .int 2, .int 2, .int 2]) := by kernel_rfl
section
variable {n : Int} {rs : List (List Int)} (hn : 1 ≤ n ∧ n ≤ 24) (hl : 1 ≤ rs.length ∧ rs.length ≤ 3) (h : ∀ r ∈ rs, IsSet n r)
include hn hl h
theorem r_wrong {k : Nat} {c : List Int} (hc : c ∈ rowsN n rs) : run G (k + 5) 59 [.int n, rsD rs, rwD (c.reverse ++ [0])] = .ok (.bl false) := by
  have htl := tl_len h hn.2 hl.2
  have hne := rowsN_ne hn h hc
  obtain ⟨U, u1, u2, rfl⟩ := (mem_rowsN hn h).mp hc
  have hUl : U.length ≤ 72 := Nat.le_trans u1.length_le htl
  obtain ⟨r0, hr0⟩ : ∃ r0, rs[0]? = some r0 := ⟨_, List.getElem?_eq_getElem (by omega)⟩
  have h00 : run G (k + 4) 58 [.int n, rsD rs, nmC 0] = .ok (.bl true) := by
    have := r_is_tile hn hl h (k := k + 1) (j := 0) (s := 0) hr0
    have hp := per_rg (h r0 (List.mem_of_getElem? hr0))
    rw [decide_eq_true (by omega)] at this
    exact this
  have hpos : ∀ x ∈ U.map code, 0 ≤ x := fun x hx => by
    obtain ⟨t, ht, rfl⟩ := List.mem_map.mp hx
    obtain ⟨j, r, g1, g2, g3, _⟩ := (mem_tlA h).mp (u1.subset ht)
    unfold code
    omega
  have htile : ∀ x ∈ U.map code, run G (k + 4) 58 [.int n, rsD rs, nmC x] = .ok (.bl true) := fun x hx => by
    obtain ⟨t, ht, rfl⟩ := List.mem_map.mp hx
    exact tile_code hn hl h (k := k + 1) (u1.subset ht)
  have hlen : (U.map code).length ≤ 72 := by rw [List.length_map]; exact hUl
  revert hne hpos htile hlen
  generalize U.map code = c
  intro hne hpos htile hlen
  have hm : ∀ x, x ∈ c.reverse ↔ x ∈ c := fun x => List.mem_reverse
  have hrl : c.reverse.length ≤ 72 := by rw [List.length_reverse]; exact hlen
  have hne' : c.reverse ≠ [] := by simpa using hne
  revert hm hrl hne'
  generalize c.reverse = e
  intro hm hrl hne'
  cases e with
  | nil => exact absurd rfl hne'
  | cons x e =>
    have hx : ∀ y ∈ x :: e, 0 ≤ y := fun y hy => hpos y ((hm y).mp hy)
    refine r_tiling_desc hn hl h (t := x) (U := e ++ [0]) (by simp at hrl ⊢; unfold lim; omega) (fun y hy => ?_) ?_
    · rw [← List.cons_append] at hy
      rcases List.mem_append.mp hy with hy | hy
      · exact htile y ((hm y).mp hy)
      · rw [List.mem_singleton.mp hy]
        exact h00
    · have gen : ∀ (e : List Int) (x : Int), (∀ y ∈ x :: e, 0 ≤ y) → ∃ p ∈ (x :: (e ++ [0])).zip (e ++ [0]), ¬ p.1 < p.2 := fun e => by
        induction e with
        | nil => intro x hx; exact ⟨(x, 0), by simp, by have := hx x List.mem_cons_self; simp; exact this⟩
        | cons y e ih =>
          intro x hx
          obtain ⟨p, hp, hlt⟩ := ih y fun z hz => hx z (List.mem_cons_of_mem _ hz)
          exact ⟨p, by rw [List.cons_append, List.zip_cons_cons]; exact List.mem_cons_of_mem _ hp, hlt⟩
      exact gen e x hx
theorem r_lrejected {ns : List Int} (hs : ns.length ≤ 63) {k : Nat} : run G (k + 9) 104 [.scr ns, .int n, rsD rs, rwsD (rowsN n rs)] = .ok (.bl true) := by
  obtain ⟨odd, hodd, eodd⟩ := r_badcycle hs (show (0 : Int) ≤ 3 ∧ (3 : Int) ≤ 1900 by omega)
  obtain ⟨bad, hbad, ebad⟩ := r_badset (n := n) hs (show (0 : Int) ≤ 4 ∧ (4 : Int) ≤ 1900 by omega) hn.1
  obtain ⟨v, hv, hev⟩ := r_drawn hs (show (0 : Int) ≤ 5 ∧ (5 : Int) ≤ 1900 by omega) (show (0 : Int) < 6 by omega)
  cases rs with
  | nil => simp at hl
  | cons r0 rs' =>
    obtain ⟨rs, hrs⟩ : ∃ rs, rs = r0 :: rs' := ⟨_, rfl⟩
    have hr0 : IsSet n r0 := h r0 List.mem_cons_self
    have hx0 : idxF (rsD rs) (.int 0) = some (tI r0) := by rw [hrs]; exact atI_nat (by decide) rfl
    have hs1 : slcF (rsD rs) none (some 1) = some (.lst [tI r0]) := by
      rw [hrs]
      show some (D.lst (cutD ((r0 :: rs').map tI) none (some 1))) = _
      rw [cut_to _ (by decide)]
      rfl
    rw [← hrs] at hl h ⊢
    obtain ⟨rf, hrf, erf⟩ := refused (k := 0) hn hr0 hv hbad
    have hmul : bopF .mul (.lst [tI r0]) (.int 4) = some (.lst [tI r0, tI r0, tI r0, tI r0]) := rfl
    have hadd : bopF .add (.lst [tI r0]) (.lst [bad]) = some (.lst [tI r0, bad]) := b_addL [tI r0] [bad] (show 1 + 1 ≤ lim by decide)
    obtain ⟨RD, hRD⟩ : ∃ RD, RD = rwsD (rowsN n rs) := ⟨_, rfl⟩
    rw [U_law_rejected]
    simp only [F_law_rejected]
    rw [← hRD]
    rw [exs_nx (e1 := [.val (.scr ns), .val (.int n), .val (rsD rs), .val RD, .val odd, .val bad, .no, .no, .no, .no, .no]) (by simp [T_law_rejected1, eodd, ebad])]
    rw [exs_nx (e1 := [.val (.scr ns), .val (.int n), .val (rsD rs), .val RD, .val odd, .val bad, .val rf, .no, .no, .no, .no]) (by
      simp [T_law_rejected2, hx0, hs1, hadd, hmul, hev, hrf, show (1 : Nat) ≤ lim by decide, show (6 : Nat) ≤ lim by decide])]
    obtain ⟨wr, hwr, ewr⟩ : ∃ wr, run G (k + 8) 59 [.int n, rsD rs, wr] = .ok (.bl false) ∧ ex (run G (k + 8)) T_law_rejected3 [.val (.scr ns), .val (.int n), .val (rsD rs), .val RD, .val odd, .val bad, .val rf, .no, .no, .no, .no] = .ok (.nx [.val (.scr ns), .val (.int n), .val (rsD rs), .val RD, .val odd, .val bad, .val rf, .val wr, .no, .no, .no]) := by
      cases hR : rowsN n rs with
      | nil =>
        refine ⟨.str "0", r_tiling_nt hn hl h rfl, ?_⟩
        rw [hRD, hR, show rwsD [] = .lst [] from rfl]
        simp [T_law_rejected3]
      | cons c R =>
        refine ⟨rwD (c.reverse ++ [0]), r_wrong hn hl h (k := k + 3) (by rw [hR]; exact List.mem_cons_self), ?_⟩
        have htl := tl_len h hn.2 hl.2
        have hcl : c.length ≤ 72 := by
          obtain ⟨U, u1, _, rfl⟩ := (mem_rowsN hn h).mp (show c ∈ rowsN n rs by rw [hR]; exact List.mem_cons_self)
          rw [List.length_map]
          exact Nat.le_trans u1.length_le htl
        have hne : deq (rwsD (c :: R)) (.lst []) = false := by
          simp only [deq, D.pd, List.map_cons, D.pds, PyData.eqv, PyData.eqvAll]
        have ho : (rwsD (c :: R)).okD = true := okE_rw.lst.ok (by decide) (c :: R)
        have h0 : idxF (rwsD (c :: R)) (.int 0) = some (rwD c) := atI_nat (by decide) rfl
        have hrev : revTF (rwD c) = some (rwD c.reverse) := by
          show some (D.tup (c.map nmC).reverse) = _
          rw [← List.map_reverse]
        have hadd : bopF .add (rwD c.reverse) (.tup [.tup [.int 0, .int 0]]) = some (rwD (c.reverse ++ [0])) := by
          unfold rwD
          rw [b_addT _ _ (by simp; unfold lim; omega), List.map_append]
          rfl
        rw [hRD, hR]
        simp [-fold_tI, -List.map_cons, -List.map_append, -List.map_reverse, T_law_rejected3, c_ne ho ok_nilL, hne, h0, hrev, hadd, show (1 : Nat) ≤ lim by decide, show (2 : Nat) ≤ lim by decide]
    rw [exs_nx ewr]
    obtain ⟨env1, b1, b2⟩ := for_pre (f := fun d e => (setTg (.nm 8) d e).bind fun e1 => exs (run G (k + 8)) S_law_rejected1 e1) (e := id) [.non, .tup [.int 0], .tup [.tup [.int 0]], .tup [.tup [.int 0, .int n]], .tup [.tup [.int 9, .int 0]], .tup [.tup [.bl true, .int 0]], wr]
      (fun q env => ∃ s8, env = [.val (.scr ns), .val (.int n), .val (rsD rs), .val RD, .val odd, .val bad, .val rf, .val wr, s8, .no, .no])
      (fun q d q' hq env hI => by
        obtain ⟨s8, rfl⟩ := hI
        refine ⟨[.val (.scr ns), .val (.int n), .val (rsD rs), .val RD, .val odd, .val bad, .val rf, .val wr, .val d, .no, .no], ?_, _, rfl⟩
        have hd : d ∈ [.non, .tup [.int 0], .tup [.tup [.int 0]], .tup [.tup [.int 0, .int n]], .tup [.tup [.int 9, .int 0]], .tup [.tup [.bl true, .int 0]], wr] := by rw [hq]; simp
        have one : ∀ {d : D}, run G (k + 7) 58 [.int n, rsD rs, d] = .ok (.bl false) → run G (k + 8) 59 [.int n, rsD rs, .tup [d]] = .ok (.bl false) := fun {d} e => r_tiling_no' hn hl h (k := k + 3) (ds := [d]) (show 1 ≤ lim by decide) (fun d' hd' => by rw [List.mem_singleton.mp hd']; exact ⟨_, e⟩) ⟨d, List.mem_cons_self, e⟩
        have hno : run G (k + 8) 59 [.int n, rsD rs, d] = .ok (.bl false) := by
          simp only [List.mem_cons, List.not_mem_nil, or_false] at hd
          rcases hd with rfl | rfl | rfl | rfl | rfl | rfl | rfl
          · exact r_tiling_nt hn hl h rfl
          · exact one (tile_nt hn hl h rfl)
          · exact one (tile_one hn hl h)
          · refine one ?_
            have := r_is_tile hn hl h (k := k + 4) (j := 0) (s := n) (r := r0) (by rw [hrs]; rfl)
            have hp := per_rg hr0
            rw [decide_eq_false (by omega)] at this
            exact this
          · exact one (tile_ix hn hl h (k := k + 5) (by simp [isInt]; omega))
          · exact one (tile_ix hn hl h (k := k + 5) rfl)
          · exact hwr
        simp [S_law_rejected1, T_law_rejected4, hno]) [.val (.scr ns), .val (.int n), .val (rsD rs), .val RD, .val odd, .val bad, .val rf, .val wr, .no, .no, .no] ⟨_, rfl⟩
    obtain ⟨s8, rfl⟩ := b2
    rw [List.map_id] at b1
    rw [exs_nx (by
      unfold T_law_rejected5
      rw [x_for]
      simp only [noBor_tup, isBor_tup, Bool.not_false, if_true, vi_tup, v_tup, vs_cons, vs_nil, isBor_cst, isBor_var, Bool.false_eq_true, if_false, v_cst, v_var, cst_non, cst_int, cst_bl, List.getElem?_cons_succ, List.getElem?_cons_zero, slotV_val, R.bind_ok, List.length_cons, List.length_nil, show (0 + 1 : Nat) ≤ lim by decide, show (0 + 1 + 1 : Nat) ≤ lim by decide, show (0 + 1 + 1 + 1 + 1 + 1 + 1 + 1 : Nat) ≤ lim by decide]
      exact b1)]
    have c1 : ev (run G (k + 8)) C_law_rejected1 [.val (.scr ns), .val (.int n), .val (rsD rs), .val RD, .val odd, .val bad, .val rf, .val wr, s8, .no, .no] = .ok (.lst ((rgI 0 5).map fun _ => .int 0)) := by
      unfold C_law_rejected1
      rw [lc_map (l := rgI 0 5) (e := D.int) (d := fun _ => .int 0)]
      · simp [rgD_is 0 5 (by omega)]
      · decide
      · rfl
      · rfl
      · intro w hw
        simp [err_all (k := k) (fun k => chk_cyc (k := k) (x := rf) hodd) evh1 w hw]
    have c2 : ∀ s9, ev (run G (k + 8)) C_law_rejected2 [.val (.scr ns), .val (.int n), .val (rsD rs), .val RD, .val odd, .val bad, .val rf, .val wr, s8, s9, .no] = .ok (.lst ((rgI 0 5).map fun _ => .int 1)) := fun s9 => by
      unfold C_law_rejected2
      rw [lc_map (l := rgI 0 5) (e := D.int) (d := fun _ => .int 1)]
      · simp [rgD_is 0 5 (by omega)]
      · decide
      · rfl
      · rfl
      · intro w hw
        simp [err_all (k := k) erf evh11 w hw]
    have c3 : ∀ s9, ev (run G (k + 8)) C_law_rejected3 [.val (.scr ns), .val (.int n), .val (rsD rs), .val RD, .val odd, .val bad, .val rf, .val wr, s8, s9, .no] = .ok (.lst ((rgI 0 5).map ans13)) := fun s9 => by
      unfold C_law_rejected3
      rw [lc_map (l := rgI 0 5) (e := D.int) (d := ans13)]
      · simp [rgD_is 0 5 (by omega)]
      · decide
      · rfl
      · rfl
      · intro w hw
        have z0 : (.lst [.tup [.int 0]] : D) = rsD [[0]] := rfl
        simp [-fold_tI, z0, err_13 (k := k) w hw, show (1 : Nat) ≤ lim by decide]
    rw [exs_nx (e1 := [.val (.scr ns), .val (.int n), .val (rsD rs), .val RD, .val odd, .val bad, .val rf, .val wr, s8, .val (.lst ((rgI 0 5).map fun _ => .int 0)), .no]) (by simp [T_law_rejected6, c1])]
    have a1 := b_addL ((rgI 0 5).map fun _ => D.int 0) ((rgI 0 5).map fun _ => D.int 1) (by decide)
    have a2 := b_addL (((rgI 0 5).map fun _ => D.int 0) ++ ((rgI 0 5).map fun _ => D.int 1)) ((rgI 0 5).map ans13) (by decide)
    rw [exs_nx (e1 := [.val (.scr ns), .val (.int n), .val (rsD rs), .val RD, .val odd, .val bad, .val rf, .val wr, s8, .val (.lst (((rgI 0 5).map fun _ => .int 0) ++ ((rgI 0 5).map fun _ => .int 1))), .no]) (by
      simp only [T_law_rejected7, x_asg, v_V, isBor_bin, Bool.false_eq_true, if_false, v_bin, v_var, List.getElem?_cons_succ, List.getElem?_cons_zero, slotV_val, R.bind_ok, c2, a1, R.ofO_some]
      rfl)]
    simp only [T_law_rejected8, xs_cons, x_ret, v_V, isBor_cmp, Bool.false_eq_true, if_false, v_cmp, due13]
    simp only [v_bin, v_var, List.getElem?_cons_succ, List.getElem?_cons_zero, slotV_val, R.bind_ok, c3, a2, R.ofO_some, told13]
    rfl
end

end Cl
set_option Elab.async false
set_option linter.all false
set_option maxRecDepth 100000
set_option maxHeartbeats 1000000
namespace Cl
open PySem
section
variable {n : Int} {rs : List (List Int)} (hn : 1 ≤ n ∧ n ≤ 7) (hl : 1 ≤ rs.length ∧ rs.length ≤ 3) (h : ∀ r ∈ rs, IsSet n r)
include hn h
theorem map_code {U V : List Tl} (hU : ∀ t ∈ U, t ∈ tlA n (per n) rs) (hV : ∀ t ∈ V, t ∈ tlA n (per n) rs) (e : U.map code = V.map code) : U = V := by
  have hc := tl_code (n := n) (rs := rs) (show 1 ≤ n ∧ n ≤ 24 by omega) h
  induction U generalizing V with
  | nil =>
    cases V with
    | nil => rfl
    | cons v V => cases e
  | cons u U ih =>
    cases V with
    | nil => cases e
    | cons v V =>
      rw [List.map_cons, List.map_cons, List.cons.injEq] at e
      rw [code_inj hc (hU u List.mem_cons_self) (hV v List.mem_cons_self) e.1, ih (fun t ht => hU t (List.mem_cons_of_mem _ ht)) (fun t ht => hV t (List.mem_cons_of_mem _ ht)) e.2]
theorem sub_rows {U : List Tl} (hU : U.Sublist (tlA n (per n) rs)) : decide (srt (bts U) = rgI 0 n) = decide (U.map code ∈ rowsN n rs) := by
  rw [Bool.eq_iff_iff, decide_eq_true_eq, decide_eq_true_eq, mem_rowsN (by omega) h]
  constructor
  · intro e
    refine ⟨U, hU, ?_, rfl⟩
    rw [← e]
    exact (srt_perm _).symm
  · rintro ⟨V, v1, v2, e⟩
    rw [map_code hn h (fun t ht => hU.subset ht) (fun t ht => v1.subset ht) e]
    refine pw_ext (srt_lt (v2.nodup_iff.mpr (rg_nd n))) (rgI_pw 0 n) fun x => ?_
    rw [mem_srt]
    exact v2.mem_iff
theorem due_nd (i : Int) : decide ((rowsN n rs).filter (fun c => !decide (i ∈ c.map fun x : Int => x / 100)) = []) = decide (cov ((tlA n (per n) rs).filter fun t => !decide (t.1.1 = i)) (rgI 0 n) = 0) := by
  have ok : TsOk ((tlA n (per n) rs).filter fun t => !decide (t.1.1 = i)) := fun t ht => tlA_ok h t (List.mem_filter.mp ht).1
  have hp := cov_pos ok (rg_nd n)
  have hcd : ∀ t ∈ tlA n (per n) rs, code t / 100 = t.1.1 := fun t ht => by
    have := tl_st (show 1 ≤ n ∧ n ≤ 24 by omega) h ht
    unfold code
    omega
  rw [Bool.eq_iff_iff, decide_eq_true_eq, decide_eq_true_eq, List.filter_eq_nil_iff]
  constructor
  · intro hf
    refine Classical.byContradiction fun hc => ?_
    obtain ⟨U, hU, hb⟩ := hp.mp (by omega)
    have hUA : ∀ t ∈ U, t ∈ tlA n (per n) rs := fun t ht => (List.mem_filter.mp (hU t ht)).1
    have p := fil_perm tlA_nd hUA (til_nd (tlA_ok h) (rg_nd n) hUA hb)
    have hm : (fil (tlA n (per n) rs) U).map code ∈ rowsN n rs := (mem_rowsN (by omega) h).mpr ⟨_, List.filter_sublist, (bts_perm p).trans hb, rfl⟩
    refine hf _ hm ?_
    simp only [Bool.not_eq_true', decide_eq_false_iff_not]
    intro hi
    obtain ⟨c, hc', e⟩ := List.mem_map.mp hi
    obtain ⟨t, ht, rfl⟩ := List.mem_map.mp hc'
    have htU := p.mem_iff.mp ht
    have := (List.mem_filter.mp (hU t htU)).2
    simp only [Bool.not_eq_true', decide_eq_false_iff_not] at this
    rw [hcd t (hUA t htU)] at e
    exact this e
  · intro hc c hcm
    obtain ⟨U, u1, u2, rfl⟩ := (mem_rowsN (show 1 ≤ n ∧ n ≤ 24 by omega) h).mp hcm
    simp only [Bool.not_eq_true', decide_eq_false_iff_not]
    intro hni
    have : 0 < cov ((tlA n (per n) rs).filter fun t => !decide (t.1.1 = i)) (rgI 0 n) := hp.mpr ⟨U, fun t ht => List.mem_filter.mpr ⟨u1.subset ht, by
      simp only [Bool.not_eq_true', decide_eq_false_iff_not]
      exact fun e => hni (List.mem_map.mpr ⟨code t, List.mem_map.mpr ⟨t, ht, rfl⟩, by rw [hcd t (u1.subset ht)]; exact e⟩)⟩, u2⟩
    omega
include hl
theorem tl_len7 : (tlA n (per n) rs).length ≤ 21 := by
  unfold tlA
  have hl' : rs.zipIdx.length ≤ 3 := by rw [List.length_zipIdx]; exact hl.2
  refine Nat.le_trans (flat_len (c := 7) fun p hp => ?_) (Nat.le_trans (Nat.mul_le_mul_right 7 hl') (by decide))
  have := per_rg (h p.1 (List.fst_mem_of_mem_zipIdx hp))
  unfold tlR
  rw [List.length_map, length_rgI]
  omega
theorem rows_walk {ns : List Int} : ex (run G 39) T_law6 [.val (.scr ns), .val (.int n), .val (rsD rs), .val (.lst ((tlA n (per n) rs).map tD)), .no, .no, .no, .no, .no, .no, .no, .no, .no] = .ok (.nx [.val (.scr ns), .val (.int n), .val (rsD rs), .val (.lst ((tlA n (per n) rs).map tD)), .val (rwsD (rowsN n rs)), .no, .no, .no, .no, .no, .no, .no, .no]) := by
  have hA := tl_len7 hn hl h
  have hn24 : 1 ≤ n ∧ n ≤ 24 := by omega
  have hok := tlA_ok (pr := per n) h
  have hnd := rg_nd n
  have hLl : (rgI 0 n).length ≤ 7 := by rw [length_rgI]; omega
  have ht := r_ltil 7 31 (tlA n (per n) rs) (rgI 0 n) hLl hok tlA_nd (by omega) (tl_small (by omega) (tlA_mv h)) hnd (by omega)
  rw [til_fuel 7 (rgI 0 n).length (rgI 0 n) hLl (Nat.le_refl _)] at ht
  have ht' : run G 39 102 [.lst ((tlA n (per n) rs).map tD), tI (rgI 0 n)] = .ok (.lst ((til (tlA n (per n) rs) (rgI 0 n).length (rgI 0 n)).map nmU)) := ht
  have htl : (til (tlA n (per n) rs) (rgI 0 n).length (rgI 0 n)).length ≤ 2 ^ 21 := Nat.le_trans (til_len hok tlA_nd hnd _) (Nat.pow_le_pow_right (by decide) hA)
  have h3 : (.tup ((rgI 0 n).map D.int) : D) = tI (rgI 0 n) := rfl
  have c1 : ev (run G 39) C_law1 [.val (.scr ns), .val (.int n), .val (rsD rs), .val (.lst ((tlA n (per n) rs).map tD)), .no, .no, .no, .no, .no, .no, .no, .no, .no] = .ok (.lst (((til (tlA n (per n) rs) (rgI 0 n).length (rgI 0 n)).map fun U => srt (U.map code)).map rwD)) := by
    unfold C_law1
    rw [lc_map (l := til (tlA n (per n) rs) (rgI 0 n).length (rgI 0 n)) (e := nmU) (d := fun U => rwD (srt (U.map code))), List.map_map]
    · rfl
    · simp only [vi_lst, v_call, vs_cons, vs_nil, isBor_var, isBor_rgt, Bool.false_eq_true, if_false, v_var, List.getElem?_cons_succ, List.getElem?_cons_zero, slotV_val, R.bind_ok, v_rgt1, vr_one, intD_int, rgD_is 0 n (show -100000 ≤ 0 ∧ 0 ≤ 100000 ∧ -100000 ≤ n ∧ n ≤ 100000 by omega), h3, ht', lstD_lst]
    · unfold lim; omega
    · rfl
    · rfl
    · intro U hU
      obtain ⟨u1, u2⟩ := til_sound hok _ _ hnd U hU
      have hUl : U.length ≤ 21 := Nat.le_trans (nd_len (til_nd hok hnd u1 u2) u1) hA
      have e : nmU U = .lst ((U.map code).map nmC) := by
        rw [List.map_map]
        exact congrArg D.lst (List.map_congr_left fun t ht => (nmC_code (tl_st hn24 h (u1 t ht))).symm)
      have hso := bi_sortN (U.map code) (by rw [List.length_map]; unfold lim; omega)
      rw [e]
      generalize U.map code = C at hso ⊢
      simp [-List.map_map, hso]
  have hne : ∀ t ∈ (til (tlA n (per n) rs) (rgI 0 n).length (rgI 0 n)).map fun U => srt (U.map code), t ≠ [] := fun t ht => rowsN_ne hn24 h (mem_srtT.mpr ht)
  have hso := bi_sortR _ hne (by rw [List.length_map]; unfold lim; omega)
  have hdef : rowsN n rs = srtT ((til (tlA n (per n) rs) (rgI 0 n).length (rgI 0 n)).map fun U => srt (U.map code)) := rfl
  rw [← hdef] at hso
  generalize ((til (tlA n (per n) rs) (rgI 0 n).length (rgI 0 n)).map fun U => srt (U.map code)) = T at c1 hso
  simp [T_law6, c1, hso]
end
section
variable {n : Int} {rs : List (List Int)} (hn : 1 ≤ n ∧ n ≤ 7) (hl : 1 ≤ rs.length ∧ rs.length ≤ 3) (h : ∀ r ∈ rs, IsSet n r)
include hn hl h
theorem cand_walk {ns : List Int} (hs : ns.length ≤ 63) {k : Int} (hk : 0 ≤ k ∧ k < 5) {s6 s7 s8 : Slot} {Rw : List (List Int)} (hR : Rw = rowsN n rs) : ∃ U : List Tl, U.Sublist (tlA n (per n) rs) ∧
    exs (run G 39) S_law2 [.val (.scr ns), .val (.int n), .val (rsD rs), .val (.lst ((tlA n (per n) rs).map tD)), .val (rwsD Rw), .no, s6, s7, s8, .no, .no, .val (.int k), .no] = .ok (.nx [.val (.scr ns), .val (.int n), .val (rsD rs), .val (.lst ((tlA n (per n) rs).map tD)), .val (rwsD Rw), .no, s6, s7, .val (nmL U), .no, .no, .val (.int k), .no]) := by
  have hA := tl_len7 hn hl h
  have hn24 : 1 ≤ n ∧ n ≤ 24 := by omega
  have hd : ∀ t : Tl, ∃ v : Int, t ∈ tlA n (per n) rs → ∀ f, run G (f + 1) 66 [.scr ns, .int (120 + 20 * k + t.1.1 * 7 + t.1.2), .int 3] = .ok (.int v) := fun t => by
    by_cases ht : t ∈ tlA n (per n) rs
    · obtain ⟨j, r, g1, g2, g3, _⟩ := (mem_tlA h).mp ht
      have hp := per_rg (h r (List.mem_of_getElem? g1))
      have hj : j < rs.length := (List.getElem?_eq_some_iff.mp g1).1
      obtain ⟨v, _, e⟩ := r_drawn hs (show 0 ≤ 120 + 20 * k + t.1.1 * 7 + t.1.2 ∧ 120 + 20 * k + t.1.1 * 7 + t.1.2 ≤ 1900 by omega) (show (0 : Int) < 3 by omega)
      exact ⟨v, fun _ => e⟩
    · exact ⟨0, fun z => absurd z ht⟩
  obtain ⟨g, hg⟩ := Classical.axiomOfChoice hd
  obtain ⟨A, hAe⟩ : ∃ A, A = tlA n (per n) rs := ⟨_, rfl⟩
  rw [← hAe] at hg hA ⊢
  obtain ⟨W, hW⟩ : ∃ W, W = A.filter fun t => decide (g t = 0) := ⟨_, rfl⟩
  have c4 : ev (run G 39) C_law4 [.val (.scr ns), .val (.int n), .val (rsD rs), .val (.lst (A.map tD)), .val (rwsD Rw), .no, s6, s7, s8, .no, .no, .val (.int k), .no] = .ok (.lst (W.map fun t => nmD t.1)) := by
    unfold C_law4
    rw [hW, lc_filter (l := A) (e := tD) (d := fun t => nmD t.1) (c := fun t => decide (g t = 0))]
    · simp
    · unfold lim; omega
    · rfl
    · rfl
    · intro t ht
      have x0 : idxF (nmD t.1) (.int 0) = some (.int t.1.1) := atI_nat (by decide) rfl
      have x1 : idxF (nmD t.1) (.int 1) = some (.int t.1.2) := atI_nat (by decide) rfl
      have e : setTg (.tp [9, 12]) (tD t) (wipeE [.val (.scr ns), .val (.int n), .val (rsD rs), .val (.lst (A.map tD)), .val (rwsD Rw), .no, s6, s7, s8, .no, .no, .val (.int k), .no] [9, 12]) = .ok [.val (.scr ns), .val (.int n), .val (rsD rs), .val (.lst (A.map tD)), .val (rwsD Rw), .no, s6, s7, s8, .val (nmD t.1), .no, .val (.int k), .val (tI t.2)] := rfl
      rw [e]
      have m1 : bopF .mul (.int 20) (.int k) = some (.int (20 * k)) := b_mulL _ _ (by unfold big; omega)
      have m2 : bopF .mul (.int t.1.1) (.int 7) = some (.int (t.1.1 * 7)) := b_mulR _ _ (by unfold big; omega)
      simp [x0, x1, m1, m2, hg t ht 38]
    · intro t ht _
      have e : setTg (.tp [9, 12]) (tD t) (wipeE [.val (.scr ns), .val (.int n), .val (rsD rs), .val (.lst (A.map tD)), .val (rwsD Rw), .no, s6, s7, s8, .no, .no, .val (.int k), .no] [9, 12]) = .ok [.val (.scr ns), .val (.int n), .val (rsD rs), .val (.lst (A.map tD)), .val (rwsD Rw), .no, s6, s7, s8, .val (nmD t.1), .no, .val (.int k), .val (tI t.2)] := rfl
      rw [e]
      simp
  unfold S_law2
  have hWs : W.Sublist A := by rw [hW]; exact List.filter_sublist
  have st1 : ex (run G 39) T_law13 [.val (.scr ns), .val (.int n), .val (rsD rs), .val (.lst (A.map tD)), .val (rwsD Rw), .no, s6, s7, s8, .no, .no, .val (.int k), .no] = .ok (.nx [.val (.scr ns), .val (.int n), .val (rsD rs), .val (.lst (A.map tD)), .val (rwsD Rw), .no, s6, s7, .val (nmL W), .no, .no, .val (.int k), .no]) := by
    simp [-List.map_map, T_law13, c4]
  have okR : (rwsD Rw).okD = true := okE_rw.lst.ok (by decide) Rw
  have neR : deq (rwsD Rw) (.lst []) = decide (Rw = []) := eqE_rw.lst Rw []
  obtain ⟨U, hU, st2⟩ : ∃ U : List Tl, U.Sublist A ∧ ex (run G 39) T_law14 [.val (.scr ns), .val (.int n), .val (rsD rs), .val (.lst (A.map tD)), .val (rwsD Rw), .no, s6, s7, .val (nmL W), .no, .no, .val (.int k), .no] = .ok (.nx [.val (.scr ns), .val (.int n), .val (rsD rs), .val (.lst (A.map tD)), .val (rwsD Rw), .no, s6, s7, .val (nmL U), .no, .no, .val (.int k), .no]) := by
    by_cases hR0 : Rw = []
    · refine ⟨W, hWs, ?_⟩
      have hq : copF .ne (rwsD Rw) (.lst []) = some false := by rw [c_ne okR ok_nilL, neR, decide_eq_true hR0]; rfl
      simp [T_law14, hq]
    · have hq : copF .ne (rwsD Rw) (.lst []) = some true := by rw [c_ne okR ok_nilL, neR, decide_eq_false hR0]; rfl
      by_cases hk2 : k < 2
      · have hRp : 0 < (Rw.length : Int) := by
          have := List.length_pos_iff.mpr hR0
          omega
        obtain ⟨m, hm⟩ : ∃ m : Int, m = (Rw.length : Int) := ⟨_, rfl⟩
        have hlen : biF .len [rwsD Rw] = some (.int m) := by
          show some (D.int ((Rw.map rwD).length : Nat)) = _
          rw [List.length_map, hm]
        obtain ⟨v, hv, e⟩ := r_drawn hs (show 0 ≤ 230 + k ∧ 230 + k ≤ 1900 by omega) (show (0 : Int) < m by omega)
        have hvl : v.toNat < Rw.length := by omega
        have hix : idxF (rwsD Rw) (.int v) = some (rwD Rw[v.toNat]) := idx_lst hv.1 (by rw [List.getElem?_map, List.getElem?_eq_getElem hvl]; rfl)
        have hmem : Rw[v.toNat] ∈ rowsN n rs := by rw [← hR]; exact List.getElem_mem hvl
        obtain ⟨U, u1, u2, eU⟩ := (mem_rowsN hn24 h).mp hmem
        refine ⟨U, by rw [hAe]; exact u1, ?_⟩
        rw [eU, ← nm_rw hn24 h fun t ht => u1.subset ht] at hix
        simp [T_law14, hq, hk2, hlen, e 38, hix]
      · refine ⟨W, hWs, ?_⟩
        simp [T_law14, hq, hk2]
  refine ⟨U, hU, ?_⟩
  rw [hAe] at hU
  rw [exs_nx st1, exs_nx st2]
  have t1 := r_tiling_sub hn24 hl h (k := 34) hU
  rw [sub_rows hn h hU, ← hR] at t1
  have eU := nm_rw hn24 h (U := U) fun t ht => hU.subset ht
  have hin : copF .isin (nmL U) (rwsD Rw) = some (decide (U.map code ∈ Rw)) := by
    rw [eU, c_inL (okE_rw.ok (by decide) _) okR]
    congr 1
    have gen : ∀ Rw : List (List Int), ((Rw.map rwD).any fun z => deq z (rwD (U.map code))) = decide (U.map code ∈ Rw) := fun Rw => by
      induction Rw with
      | nil => simp
      | cons c Rw ih =>
        have q := eqE_rw c (U.map code)
        rw [List.map_cons, List.any_cons, ih, q, Bool.eq_iff_iff, Bool.or_eq_true, decide_eq_true_eq, decide_eq_true_eq, decide_eq_true_eq, List.mem_cons]
        exact ⟨fun z => z.imp Eq.symm id, fun z => z.imp Eq.symm id⟩
    exact gen Rw
  have t2 : run G 39 59 [.int n, rsD rs, .lst (U.map fun t => nmD t.1)] = .ok (.bl false) := r_tiling_nt hn24 hl h (k := 34) rfl
  have hli : biF .list [nmL U] = some (.lst (U.map fun t => nmD t.1)) := rfl
  simp [T_law15, t1, hin, hli, t2]
theorem main_rest {ns : List Int} (hs : ns.length ≤ 63) : outR (exs (run G 39) (.cons (T_law5) (.cons (T_law6) (.cons (T_law7) (.cons (T_law8) (.cons (T_law9) (.cons (T_law11) (.cons (.frz 6) (.cons (T_law12) (.cons (T_law16) (.cons (T_law17) (.cons (T_law18) .nil))))))))))) [.val (.scr ns), .val (.int n), .val (rsD rs), .no, .no, .no, .no, .no, .no, .no, .no, .no, .no]) = .ok (.bl true) := by
  have hn24 : 1 ≤ n ∧ n ≤ 24 := by omega
  have hn12 : 1 ≤ n ∧ n ≤ 12 := by omega
  have hA := tl_len7 hn hl h
  have hby := r_lbeyond hn24 hl h (k := 33)
  have hrj := r_lrejected hn24 hl h hs (k := 30)
  have b1 := r_can_tile hn12 hl h (k := 22)
  have b2 := r_count_tilings hn12 hl h (k := 22)
  have b3 := r_first_tiling hn12 hl h (k := 21)
  have b4 := r_needed hn12 hl h (k := 21)
  have hrl : (rowsN n rs).length = cnt' n rs := rows_len (tlA_ok h) (rg_nd n)
  rw [exs_nx (e1 := [.val (.scr ns), .val (.int n), .val (rsD rs), .val (.lst ((tlA n (per n) rs).map tD)), .no, .no, .no, .no, .no, .no, .no, .no, .no]) (by simp [T_law5, r_ltiles (k := 36) hn24 hl.2 h])]
  rw [exs_nx (rows_walk hn hl h)]
  obtain ⟨Rw, hR⟩ : ∃ Rw, Rw = rowsN n rs := ⟨_, rfl⟩
  obtain ⟨TD, hTD⟩ : ∃ TD, TD = D.lst ((tlA n (per n) rs).map tD) := ⟨_, rfl⟩
  have okR : (rwsD Rw).okD = true := okE_rw.lst.ok (by decide) Rw
  have neR : deq (rwsD Rw) (.lst []) = decide (Rw = []) := eqE_rw.lst Rw []
  obtain ⟨m, hm⟩ : ∃ m : Int, m = (Rw.length : Int) := ⟨_, rfl⟩
  have hlen : biF .len [rwsD Rw] = some (.int m) := by
    show some (D.int ((Rw.map rwD).length : Nat)) = _
    rw [List.length_map, hm]
  have hcm : ((cnt' n rs : Nat) : Int) = m := by rw [← hrl, ← hR, hm]
  have hpos : (0 < cnt' n rs) ↔ ¬ Rw = [] := by
    rw [← hrl, ← hR]
    exact List.length_pos_iff
  have hfst : fstD n rs = if Rw = [] then .non else (Rw.map rwD).headD .non := by
    unfold fstD
    by_cases hz : Rw = []
    · rw [if_pos hz, if_pos (by have := mt hpos.mp (by simpa using hz); omega)]
    · rw [if_neg hz, if_neg (by have := hpos.mpr hz; omega)]
      obtain ⟨Rw', e⟩ := rows_fst (tlA_ok h) (tl_code hn24 h) (rg_nd n) (hpos.mpr hz)
      have e' : Rw = (fstT (tlA n (per n) rs) (rgI 0 n)).map code :: Rw' := by rw [hR]; exact e
      rw [e']
      obtain ⟨f1, _⟩ := fst_ok _ _ (tlA_ok h) (rg_nd n) (hpos.mpr hz)
      exact nm_rw hn24 h fun t ht => f1.subset ht
  have hndd : ndD n rs = if Rw = [] then .non else .lst ((ndL n rs).map D.int) := by
    unfold ndD
    by_cases hz : Rw = []
    · rw [if_pos hz, if_pos (by have := mt hpos.mp (by simpa using hz); omega)]
    · rw [if_neg hz, if_neg (by have := hpos.mpr hz; omega)]
  rw [hcm] at b2
  rw [decide_eq_decide.mpr hpos] at b1
  rw [hfst] at b3
  rw [hndd] at b4
  rw [← hTD] at hby
  rw [← hR] at hby hrj ⊢
  rw [exs_nx (e1 := [.val (.scr ns), .val (.int n), .val (rsD rs), .val TD, .val (rwsD Rw), .no, .no, .no, .no, .no, .no, .no, .no]) (by
    rw [← hTD]
    by_cases hz : Rw = []
    · have hq : copF .ne (rwsD Rw) (.lst []) = some false := by rw [c_ne okR ok_nilL, neR, decide_eq_true hz]; rfl
      rw [decide_eq_false (by simpa using hz)] at b1
      simp [T_law7, b1, b2, hq, hlen]
    · have hq : copF .ne (rwsD Rw) (.lst []) = some true := by rw [c_ne okR ok_nilL, neR, decide_eq_false hz]; rfl
      rw [decide_eq_true hz] at b1
      simp [T_law7, b1, b2, hq, hlen])]
  rw [exs_nx (e1 := [.val (.scr ns), .val (.int n), .val (rsD rs), .val TD, .val (rwsD Rw), .no, .no, .no, .no, .no, .no, .no, .no]) (by
    by_cases hz : Rw = []
    · have hq : copF .ne (rwsD Rw) (.lst []) = some false := by rw [c_ne okR ok_nilL, neR, decide_eq_true hz]; rfl
      rw [if_pos hz] at b3
      simp [T_law8, b3, hq, show copF .ne .non .non = some false from rfl]
    · have hq : copF .ne (rwsD Rw) (.lst []) = some true := by rw [c_ne okR ok_nilL, neR, decide_eq_false hz]; rfl
      rw [if_neg hz] at b3
      obtain ⟨c, Rw', e⟩ := List.exists_cons_of_ne_nil hz
      have hx : idxF (rwsD Rw) (.int 0) = some (rwD c) := by rw [e]; exact atI_nat (by decide) rfl
      have hh : (Rw.map rwD).headD .non = rwD c := by rw [e]; rfl
      have o1 : (rwD c).okD = true := okE_rw.ok (by decide) c
      have o2 : deq (rwD c) (rwD c) = true := by rw [eqE_rw c c]; simp
      rw [hh] at b3
      simp [T_law8, b3, hq, hx, c_ne o1 o1, o2])]
  rw [exs_nx (e1 := [.val (.scr ns), .val (.int n), .val (rsD rs), .val TD, .val (rwsD Rw), .no, .own [], .no, .no, .no, .no, .no, .no]) (by simp [T_law9])]
  obtain ⟨env1, d1, d2⟩ := for_pre (f := fun d e => (setTg (.nm 7) d e).bind fun e1 => exs (run G 39) S_law1 e1) (e := D.int) (rgI 0 rs.length)
    (fun q env => ∃ s7, env = [.val (.scr ns), .val (.int n), .val (rsD rs), .val TD, .val (rwsD Rw), .no, .own ((q.filter fun i => decide (cov ((tlA n (per n) rs).filter fun t => !decide (t.1.1 = i)) (rgI 0 n) = 0)).map D.int), s7, .no, .no, .no, .no, .no])
    (fun q i q' hq env hI => by
      obtain ⟨s7, rfl⟩ := hI
      have hql : q.length ≤ 3 := by
        have := congrArg List.length hq
        simp at this
        omega
      obtain ⟨F, hF⟩ : ∃ F, F = q.filter fun i => decide (cov ((tlA n (per n) rs).filter fun t => !decide (t.1.1 = i)) (rgI 0 n) = 0) := ⟨_, rfl⟩
      have hFl : F.length ≤ 3 := by rw [hF]; exact Nat.le_trans (List.length_filter_le _ _) hql
      have hdu := due_nd hn h (rs := rs) i
      rw [List.filter_append, ← hF]
      obtain ⟨z, hz⟩ : ∃ z, z = decide (cov ((tlA n (per n) rs).filter fun t => !decide (t.1.1 = i)) (rgI 0 n) = 0) := ⟨_, rfl⟩
      have e1 : [i].filter (fun i => decide (cov ((tlA n (per n) rs).filter fun t => !decide (t.1.1 = i)) (rgI 0 n) = 0)) = if z then [i] else [] := by
        rw [List.filter_cons, ← hz]
        rfl
      rw [e1]
      rw [← hz, ← hR] at hdu
      have c3 : ev (run G 39) C_law3 [.val (.scr ns), .val (.int n), .val (rsD rs), .val TD, .val (rwsD Rw), .no, .own (F.map D.int), .val (.int i), .no, .no, .no, .no, .no] = .ok (rwsD (Rw.filter fun c => !decide (i ∈ c.map fun x : Int => x / 100))) := by
        unfold C_law3
        rw [lc_filter (l := Rw) (e := rwD) (d := rwD) (c := fun c => !decide (i ∈ c.map fun x : Int => x / 100))]
        · simp
        · have : (Rw.length : Nat) ≤ 2 ^ 21 := by
            rw [hR, hrl]
            exact Nat.le_trans (til_len (tlA_ok h) tlA_nd (rg_nd n) _) (Nat.pow_le_pow_right (by decide) hA)
          unfold lim
          omega
        · rfl
        · rfl
        · intro c hc
          have hcl : c.length ≤ 21 := by
            obtain ⟨U, u1, _, rfl⟩ := (mem_rowsN hn24 h).mp (show c ∈ rowsN n rs by rw [← hR]; exact hc)
            rw [List.length_map]
            exact Nat.le_trans u1.length_le hA
          have c2 : ev (run G 39) C_law2 [.val (.scr ns), .val (.int n), .val (rsD rs), .val TD, .val (rwsD Rw), .no, .own (F.map D.int), .val (.int i), .val (rwD c), .no, .no, .no, .no] = .ok (.lst ((c.map fun x : Int => x / 100).map D.int)) := by
            unfold C_law2
            rw [List.map_map, lc_map (l := c) (e := nmC) (d := fun x => .int (x / 100))]
            · rfl
            · simp
            · unfold lim; omega
            · rfl
            · rfl
            · intro x hx
              rfl
          obtain ⟨I, hI⟩ : ∃ I, I = c.map fun x : Int => x / 100 := ⟨_, rfl⟩
          rw [← hI] at c2 ⊢
          simp [-List.map_map, c2]
        · intro c hc _
          simp
      refine ⟨[.val (.scr ns), .val (.int n), .val (rsD rs), .val TD, .val (rwsD Rw), .no, .own ((F ++ if z then [i] else []).map D.int), .val (.int i), .no, .no, .no, .no, .no], ?_, _, rfl⟩
      obtain ⟨Q, hQ⟩ : ∃ Q, Q = Rw.filter fun c => !decide (i ∈ c.map fun x : Int => x / 100) := ⟨_, rfl⟩
      rw [← hQ] at c3 hdu
      have okQ : (rwsD Q).okD = true := okE_rw.lst.ok (by decide) Q
      have neQ : deq (rwsD Q) (.lst []) = z := by rw [← hdu]; exact eqE_rw.lst Q []
      have hFl2 : F.length < lim := by unfold lim; omega
      cases z with
      | true => simp [S_law1, T_law10, c3, c_eq okQ ok_nilL, neQ, hFl2]
      | false => simp [S_law1, T_law10, c3, c_eq okQ ok_nilL, neQ]) [.val (.scr ns), .val (.int n), .val (rsD rs), .val TD, .val (rwsD Rw), .no, .own [], .no, .no, .no, .no, .no, .no] ⟨_, rfl⟩
  obtain ⟨s7, rfl⟩ := d2
  rw [exs_nx (by
    unfold T_law11
    rw [x_for]
    have hln : biF .len [rsD rs] = some (.int (rs.length : Nat)) := by
      show some (D.int ((rs.map tI).length : Nat)) = _
      rw [List.length_map]
    simp only [noBor_rng, if_true, vi_rng, vr_one, v_bi, vb_cons, vb_nil, v_var, List.getElem?_cons_succ, List.getElem?_cons_zero, slotV_val, R.bind_ok, hln, R.ofO_some, intD_int]
    rw [rgD_is 0 (rs.length : Nat) (by omega), R.bind_ok]
    exact d1)]
  rw [show (rgI 0 rs.length).filter (fun i => decide (cov ((tlA n (per n) rs).filter fun t => !decide (t.1.1 = i)) (rgI 0 n) = 0)) = ndL n rs from rfl]
  rw [exs_nx (e1 := [.val (.scr ns), .val (.int n), .val (rsD rs), .val TD, .val (rwsD Rw), .no, .val (.lst ((ndL n rs).map D.int)), s7, .no, .no, .no, .no, .no]) (by simp)]
  rw [exs_nx (e1 := [.val (.scr ns), .val (.int n), .val (rsD rs), .val TD, .val (rwsD Rw), .no, .val (.lst ((ndL n rs).map D.int)), s7, .no, .no, .no, .no, .no]) (by
    by_cases hz : Rw = []
    · have hq : copF .ne (rwsD Rw) (.lst []) = some false := by rw [c_ne okR ok_nilL, neR, decide_eq_true hz]; rfl
      rw [if_pos hz] at b4
      simp [T_law12, b4, hq, show copF .ne .non .non = some false from rfl]
    · have hq : copF .ne (rwsD Rw) (.lst []) = some true := by rw [c_ne okR ok_nilL, neR, decide_eq_false hz]; rfl
      rw [if_neg hz] at b4
      simp [T_law12, b4, hq])]
  obtain ⟨env2, f1, f2⟩ := for_pre (f := fun d e => (setTg (.nm 11) d e).bind fun e1 => exs (run G 39) S_law2 e1) (e := D.int) (rgI 0 5)
    (fun q env => ∃ s8 s11, env = [.val (.scr ns), .val (.int n), .val (rsD rs), .val TD, .val (rwsD Rw), .no, .val (.lst ((ndL n rs).map D.int)), s7, s8, .no, .no, s11, .no])
    (fun q k q' hq env hI => by
      obtain ⟨s8, s11, rfl⟩ := hI
      have hk := mem_rgI.mp (show k ∈ rgI 0 5 by rw [hq]; simp)
      obtain ⟨U, _, e⟩ := cand_walk hn hl h hs hk (s6 := .val (.lst ((ndL n rs).map D.int))) (s7 := s7) (s8 := s8) hR
      rw [← hTD] at e
      exact ⟨_, e, _, _, rfl⟩) [.val (.scr ns), .val (.int n), .val (rsD rs), .val TD, .val (rwsD Rw), .no, .val (.lst ((ndL n rs).map D.int)), s7, .no, .no, .no, .no, .no] ⟨_, _, rfl⟩
  obtain ⟨s8, s11, rfl⟩ := f2
  rw [exs_nx (by
    unfold T_law16
    rw [x_for]
    simp only [noBor_rng, if_true, vi_rng, vr_one, v_cst, cst_int, R.bind_ok, intD_int]
    rw [rgD_is 0 5 (by omega), R.bind_ok]
    exact f1)]
  rw [exs_nx (e1 := [.val (.scr ns), .val (.int n), .val (rsD rs), .val TD, .val (rwsD Rw), .no, .val (.lst ((ndL n rs).map D.int)), s7, s8, .no, .no, s11, .no]) (by simp [T_law17, hby])]
  simp [T_law18, hrj]
end
theorem main {ns : List Int} (hs : ns.length ≤ 63) : run G 40 19 [.scr ns] = .ok (.bl true) := by
  obtain ⟨v1, hv1, e1⟩ := r_drawn hs (show (0 : Int) ≤ 1 ∧ (1 : Int) ≤ 1900 by omega) (show (0 : Int) < 7 by omega)
  obtain ⟨v2, hv2, e2⟩ := r_drawn hs (show (0 : Int) ≤ 2 ∧ (2 : Int) ≤ 1900 by omega) (show (0 : Int) < 3 by omega)
  obtain ⟨n, hn⟩ : ∃ n, n = 1 + v1 := ⟨_, rfl⟩
  have hn24 : 1 ≤ n ∧ n ≤ 24 := by omega
  obtain ⟨r1, hr1, er1⟩ := r_set hs (show (0 : Int) ≤ 10 ∧ (10 : Int) ≤ 1800 by omega) hn24
  obtain ⟨r2, hr2, er2⟩ := r_rhythm hs (show (0 : Int) ≤ 50 ∧ (50 : Int) ≤ 1800 by omega) hn24
  obtain ⟨r3, hr3, er3⟩ := r_set hs (show (0 : Int) ≤ 90 ∧ (90 : Int) ≤ 1800 by omega) hn24
  have h3 : ∀ r ∈ [r1, r2, r3], IsSet n r := fun r hr => by
    simp only [List.mem_cons, List.not_mem_nil, or_false] at hr
    rcases hr with rfl | rfl | rfl
    · exact hr1
    · exact hr2
    · exact hr3
  have hadd : bopF .add (.lst [tI r1, tI r2]) (.lst [tI r3]) = some (.lst [tI r1, tI r2, tI r3]) := b_addL [tI r1, tI r2] [tI r3] (show 2 + 1 ≤ lim by decide)
  have hsl : slcF (.lst [tI r1, tI r2, tI r3]) none (some (1 + v2)) = some (rsD ([r1, r2, r3].take (1 + v2).toNat)) := by
    show some (D.lst (cutD ([r1, r2, r3].map tI) none (some (1 + v2)))) = _
    rw [cut_to _ (by omega), ← List.map_take]
  obtain ⟨rs, hrs⟩ : ∃ rs, rs = [r1, r2, r3].take (1 + v2).toNat := ⟨_, rfl⟩
  have hl : 1 ≤ rs.length ∧ rs.length ≤ 3 := by
    rw [hrs, List.length_take]
    simp
    omega
  have h : ∀ r ∈ rs, IsSet n r := fun r hr => h3 r (List.mem_of_mem_take (by rw [← hrs]; exact hr))
  rw [← hrs] at hsl
  rw [U_law]
  simp only [F_law]
  rw [exs_nx (e1 := [.val (.scr ns), .val (.int n), .no, .no, .no, .no, .no, .no, .no, .no, .no, .no, .no]) (by simp [T_law1, e1, hn])]
  rw [exs_nx (e1 := [.val (.scr ns), .val (.int n), .val (.lst [tI r1, tI r2]), .no, .no, .no, .no, .no, .no, .no, .no, .no, .no]) (by simp [T_law2, er1, er2, show (2 : Nat) ≤ lim by decide])]
  rw [exs_nx (e1 := [.val (.scr ns), .val (.int n), .val (.lst [tI r1, tI r2, tI r3]), .no, .no, .no, .no, .no, .no, .no, .no, .no, .no]) (by simp [T_law3, er3, hadd, show (1 : Nat) ≤ lim by decide])]
  rw [exs_nx (e1 := [.val (.scr ns), .val (.int n), .val (rsD rs), .no, .no, .no, .no, .no, .no, .no, .no, .no, .no]) (by simp [T_law4, e2, hsl])]
  exact main_rest (by omega) hl h hs

end Cl
set_option Elab.async false
set_option linter.all false
set_option maxRecDepth 100000
set_option maxHeartbeats 0
open PySem PySem.W PySem.Calls PyProof.Rows
theorem PySem.Challenge.cw_clapcanons_k52_several_holds : PySem.Challenge.rw_clapcanons_k52_several.Holds := by
  w_on; o_law
  refine HandSHeadRun.head_any (r := Cl.R0) (q := view Cl.R0.prog [39]) (H := Cl.hk) (ob := Cl.ob) (M := 4000) (loose := Cl.loose) (d := HandSHeadRun.topDef Cl.R0.prog 39) (kwd := []) Cl.ob_eq
    (by kernel_rfl) (fun s => by kernel_rfl) Cl.headRun (by kernel_rfl) (by kernel_rfl) (by kernel_rfl) (by rfl) (by first | assumption | decide +kernel) (by decide +kernel) ⟨rfl, rfl, rfl, rfl, rfl, by decide +kernel⟩ ?hw ?hc
  case hw => w_witness2
  case hc =>
    refine Cl.end_of (l := PySem.Challenge.rw_clapcanons_k52_several) (n := 63) (k := 40) (L := Cl.L) (cst := Cl.csts) (exn := Cl.exns) (f := 19) (e := Cl.E_law) (x := "script") (wd := 4) (by decide +kernel) rfl (by decide) (by kernel_rfl) ⟨rfl, by decide, by decide⟩ (by decide +kernel) Cl.bindL Cl.okL rfl rfl rfl (by kernel_rfl) fun ns hn => ?_
    rw [Cl.tab_eq]
    exact Cl.main hn
