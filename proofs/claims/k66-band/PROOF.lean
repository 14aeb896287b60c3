import PyProof.Rows.All
import Wide.All
import OpenK.AllK
import Wide.FinOn
import KE.SortData
import HandS.ForMost
import HandS.ForExc
import HandS.Deep
import HandS.TupAny
import HandS.Style
import HandS.Conv
import HandS.Zip
import HandS.Wide
import HandS.Walk
import HandS.IsInst
import KE.DataMinMax
import KE.OsSortAny
import HandS.HeadHook1
import KE.GoesMore
import HandS.Iter
import HandS.NoneIn
import OpenK.KOps
import HandS.TupSets
import HandS.Strs
import HandS.SetFor
import HandS.ExcIs
import HandS.List
import HandS.Defaults
import HandS.HeadHook2
import KE.KStateDown
import HandS.Ends
import HandS.More
import HandS.Words
import HandS.WordsExc
import HandS.Head0
import HandS.Head1
import HandS.Head2
import HandS.HeadEnd
import PySem.Challenge.RW_clapcanons_k66_whole_band
set_option Elab.async false
set_option linter.all false
set_option maxRecDepth 100000
namespace Cl
open PySem

/-! ### plain data -/
inductive D where
  | non
  | bl (b : Bool)
  | int (i : Int)
  | str (x : Str)
  | tup (ds : List D)
  | lst (ds : List D)
  | scr (ns : List Int)
  /-- an instance of the class Band: cycle, rhythm, voices, done, undone -/
  | obj (fs : List D)

mutual
def D.pd : D → PyData
  | .non => .none
  | .bl b => .bool b
  | .int i => .int i
  | .str x => .str x
  | .tup ds => .tuple (D.pds ds)
  | .lst ds => .list (D.pds ds)
  | .scr ns => .list (ns.map PyData.int)
  | .obj _ => .dict []
def D.pds : List D → List PyData
  | [] => []
  | d :: ds => d.pd :: D.pds ds
end
mutual
/-- no instance within -/
def D.nob : D → Bool
  | .tup ds => D.nobs ds
  | .lst ds => D.nobs ds
  | .obj _ => false
  | _ => true
def D.nobs : List D → Bool
  | [] => true
  | d :: ds => d.nob && D.nobs ds
end
mutual
theorem nob_lay : ∀ d : D, d.pd.canLay0 = true → d.nob = true
  | .non, _ => rfl
  | .bl _, _ => rfl
  | .int _, _ => rfl
  | .str _, _ => rfl
  | .scr _, _ => rfl
  | .tup ds, h => nobs_lay ds (by simpa [D.pd, PyData.canLay0] using h)
  | .lst ds, h => nobs_lay ds (by simpa [D.pd, PyData.canLay0] using h)
  | .obj _, h => by simp [D.pd, PyData.canLay0] at h
theorem nobs_lay : ∀ ds : List D, PyData.canLayAll0 (D.pds ds) = true → D.nobs ds = true
  | [], _ => rfl
  | d :: ds, h => by
    simp only [D.pds, PyData.canLayAll0, Bool.and_eq_true] at h
    simp only [D.nobs, nob_lay d h.1, nobs_lay ds h.2, Bool.and_true]
end
mutual
theorem nob_alike : ∀ d : D, W.alike d.pd d.pd = true → d.nob = true
  | .non, _ => rfl
  | .bl _, _ => rfl
  | .int _, _ => rfl
  | .str _, _ => rfl
  | .scr _, _ => rfl
  | .tup ds, h => nobs_alike ds (by simpa [D.pd, W.alike] using h)
  | .lst ds, h => nobs_alike ds (by simpa [D.pd, W.alike] using h)
  | .obj _, h => by simp [D.pd, W.alike] at h
theorem nobs_alike : ∀ ds : List D, W.alikeAll (D.pds ds) (D.pds ds) = true → D.nobs ds = true
  | [], _ => rfl
  | d :: ds, h => by
    simp only [D.pds, W.alikeAll, Bool.and_eq_true] at h
    simp only [D.nobs, nob_alike d h.1, nobs_alike ds h.2, Bool.and_true]
end
theorem pds_map : ∀ ds : List D, D.pds ds = ds.map D.pd
  | [] => by simp [D.pds]
  | d :: ds => by simp [D.pds, pds_map ds]

/-- answers: a value, an exception of the class c, or: not served -/
inductive R (α : Type) where
  | ok (a : α)
  | exc (c : Nat)
  | bad
def R.bind {α β : Type} : R α → (α → R β) → R β
  | .ok a, f => f a
  | .exc c, _ => .exc c
  | .bad, _ => .bad
def R.ofO {α : Type} : Option α → R α
  | some a => .ok a
  | none => .bad
@[simp] theorem R.bind_ok {α β : Type} (a : α) (f : α → R β) : (R.ok a).bind f = f a := rfl
@[simp] theorem R.bind_exc {α β : Type} (c : Nat) (f : α → R β) : (R.exc c : R α).bind f = .exc c := rfl
@[simp] theorem R.bind_bad {α β : Type} (f : α → R β) : (R.bad : R α).bind f = .bad := rfl
@[simp] theorem R.ofO_some {α : Type} (a : α) : R.ofO (some a) = .ok a := rfl
@[simp] theorem R.ofO_none {α : Type} : R.ofO (none : Option α) = .bad := rfl

/-! ### what the operators give -/
def ints? : List D → Option (List Int)
  | [] => some []
  | .int i :: r => (ints? r).map (i :: ·)
  | _ :: _ => none
def bools? : List D → Option (List Bool)
  | [] => some []
  | .bl b :: r => (bools? r).map (b :: ·)
  | _ :: _ => none
def strs? : List D → Option (List Str)
  | [] => some []
  | .str b :: r => (strs? r).map (b :: ·)
  | _ :: _ => none
theorem ints?_map : ∀ ns : List Int, ints? (ns.map D.int) = some ns
  | [] => rfl
  | n :: ns => by simp [ints?, ints?_map ns]
theorem bools?_map : ∀ ns : List Bool, bools? (ns.map D.bl) = some ns
  | [] => rfl
  | n :: ns => by simp [bools?, bools?_map ns]
theorem strs?_map : ∀ ns : List Str, strs? (ns.map D.str) = some ns
  | [] => rfl
  | n :: ns => by simp [strs?, strs?_map ns]
theorem ints?_some : ∀ {ds : List D} {ns : List Int}, ints? ds = some ns → ds = ns.map D.int
  | [], _, h => by simp [ints?] at h; subst h; rfl
  | .int i :: r, _, h => by
    simp only [ints?, Option.map_eq_some_iff] at h
    obtain ⟨m, h1, rfl⟩ := h
    rw [ints?_some h1]; rfl
  | .non :: _, _, h | .bl _ :: _, _, h | .str _ :: _, _, h | .tup _ :: _, _, h | .lst _ :: _, _, h | .scr _ :: _, _, h | .obj _ :: _, _, h => by simp [ints?] at h
theorem bools?_some : ∀ {ds : List D} {ns : List Bool}, bools? ds = some ns → ds = ns.map D.bl
  | [], _, h => by simp [bools?] at h; subst h; rfl
  | .bl i :: r, _, h => by
    simp only [bools?, Option.map_eq_some_iff] at h
    obtain ⟨m, h1, rfl⟩ := h
    rw [bools?_some h1]; rfl
  | .non :: _, _, h | .int _ :: _, _, h | .str _ :: _, _, h | .tup _ :: _, _, h | .lst _ :: _, _, h | .scr _ :: _, _, h | .obj _ :: _, _, h => by simp [bools?] at h
theorem strs?_some : ∀ {ds : List D} {ns : List Str}, strs? ds = some ns → ds = ns.map D.str
  | [], _, h => by simp [strs?] at h; subst h; rfl
  | .str i :: r, _, h => by
    simp only [strs?, Option.map_eq_some_iff] at h
    obtain ⟨m, h1, rfl⟩ := h
    rw [strs?_some h1]; rfl
  | .non :: _, _, h | .int _ :: _, _, h | .bl _ :: _, _, h | .tup _ :: _, _, h | .lst _ :: _, _, h | .scr _ :: _, _, h | .obj _ :: _, _, h => by simp [strs?] at h

inductive BOp where
  | add | sub | mul | fdiv | mod | pow
  deriving DecidableEq
def big : Int := 18446744073709551616
def lim : Nat := 16777216
def repl {α : Type} (n : Nat) (xs : List α) : List α := (List.replicate n xs).flatten
def bopF : BOp → D → D → Option D
  | .add, .int i, .int j => some (.int (i + j))
  | .add, .tup a, .tup b => if a.length + b.length ≤ lim then some (.tup (a ++ b)) else none
  | .add, .lst a, .lst b => if a.length + b.length ≤ lim then some (.lst (a ++ b)) else none
  | .add, .str a, .str b => if a.length + b.length ≤ lim then some (.str (a ++ b)) else none
  | .sub, .int i, .int j => some (.int (i - j))
  | .mul, .int i, .int j => if (-big < i ∧ i < big) ∨ (-big < j ∧ j < big) then some (.int (i * j)) else none
  | .mul, .lst a, .int j => if 0 ≤ j ∧ j ≤ 100000 ∧ a.length * j.toNat ≤ lim then some (.lst (repl j.toNat a)) else none
  | .mul, .str a, .int j => if 0 ≤ j ∧ j ≤ 100000 ∧ a.length * j.toNat ≤ lim then some (.str (Txt.mul a j)) else none
  | .fdiv, .int i, .int j => if 0 < j ∧ j < big then some (.int (i / j)) else none
  | .mod, .int i, .int j => if 0 < j then some (.int (i % j)) else none
  | .pow, .int i, .int j => if 0 ≤ j ∧ j ≤ 1000 ∧ -big < i ∧ i < big then some (.int (i ^ j.toNat)) else none
  | _, _, _ => none

inductive COp where
  | eq | ne | lt | le | gt | ge | isin | notin | is | isnot
  deriving DecidableEq
/-- the data that == serves: no deeper than 64 -/
def D.okD (d : D) : Bool := SeqAt.shaped d.pd
theorem nob_ok {d : D} (h : d.okD = true) : d.nob = true := nob_lay d (by
  unfold D.okD SeqAt.shaped at h
  simp only [Bool.and_eq_true] at h
  exact h.1)
def deq (d e : D) : Bool := PyData.eqv d.pd e.pd
def isNonD : D → Bool
  | .non => true
  | _ => false
def copF : COp → D → D → Option Bool
  | .eq, d, e => if d.okD && e.okD then some (deq d e) else none
  | .ne, d, e => if d.okD && e.okD then some (!deq d e) else none
  | .lt, .int i, .int j => some (decide (i < j))
  | .lt, .tup a, .tup b => match ints? a, ints? b with
    | some x, some y => some (HT.lexLt x y)
    | _, _ => none
  | .le, .int i, .int j => some (decide (i ≤ j))
  | .gt, .int i, .int j => some (decide (j < i))
  | .ge, .int i, .int j => some (decide (j ≤ i))
  | .isin, d, .lst ds => if d.okD && (D.lst ds).okD then some (ds.any fun z => deq z d) else none
  | .isin, d, .tup ds => if d.okD && (D.tup ds).okD then some (ds.any fun z => deq z d) else none
  | .isin, .str a, .str b => some (!(Builtin.Str.occurrences b a 0 b.length 1).isEmpty)
  | .notin, d, .lst ds => if d.okD && (D.lst ds).okD then some (!ds.any fun z => deq z d) else none
  | .notin, d, .tup ds => if d.okD && (D.tup ds).okD then some (!ds.any fun z => deq z d) else none
  | .is, d, .non => some (isNonD d)
  | .is, .bl a, .bl b => some (decide (a = b))
  | .isnot, d, .non => some (!isNonD d)
  | .isnot, .bl a, .bl b => some (!decide (a = b))
  | _, _, _ => none

/-! the insertion sort that sorted gives -/
def dle (d e : D) : Bool := !W.dataLt e.pd d.pd
def ins {α : Type} (le : α → α → Bool) (x : α) : List α → List α
  | [] => [x]
  | y :: r => if le x y then x :: y :: r else y :: ins le x r
def isort {α : Type} (le : α → α → Bool) : List α → List α
  | [] => []
  | x :: r => ins le x (isort le r)
end Cl
set_option Elab.async false
set_option linter.all false
set_option maxRecDepth 100000
namespace Cl
open PySem

/-! ### built-in calls on values -/
inductive Ty where
  | int | bool | tuple | list | str
  deriving DecidableEq
inductive Bi where
  | len | sum | min | max | all | any | tuple | list | sorted | int
  deriving DecidableEq
inductive Mt where
  | count | index | join
  deriving DecidableEq
mutual
def D.plain : D → Bool
  | .scr _ => false
  | .obj _ => false
  | .tup ds => D.plains ds
  | .lst ds => D.plains ds
  | _ => true
def D.plains : List D → Bool
  | [] => true
  | d :: ds => d.plain && D.plains ds
end
def isiF : Ty → D → Bool
  | .int, .int _ => true
  | .int, .bl _ => true
  | .bool, .bl _ => true
  | .tuple, .tup _ => true
  | .list, .lst _ => true
  | .list, .scr _ => true
  | .str, .str _ => true
  | _, _ => false
def minI (x : Int) (r : List Int) : Int := r.foldl (fun a b => if b < a then b else a) x
def maxI (x : Int) (r : List Int) : Int := r.foldl (fun a b => if a < b then b else a) x
/-- sorted of data of one kind: ints, or tuples that are not empty -/
def okSort (ds : List D) : Bool :=
  (ds.all fun d => ds.all fun e => W.alike d.pd e.pd) && ds.all (fun d => decide (d.pd.depth ≤ 8)) &&
    ((ds.all fun d => match d with | .tup (_ :: _) => true | _ => false) || ds.all fun d => match d with | .int _ => true | _ => false)
def minDD (x : D) (r : List D) : D := r.foldl (fun a y => if W.dataLt y.pd a.pd then y else a) x
def biF : Bi → List D → Option D
  | .len, [.tup a] => some (.int a.length)
  | .len, [.lst a] => some (.int a.length)
  | .len, [.scr a] => some (.int a.length)
  | .len, [.str a] => if a.length ≤ lim then some (.int a.length) else none
  | .sum, [.lst a] => (ints? a).map fun ns => .int ns.sum
  | .min, [.lst a] => match a with
    | [] => none
    | x :: r => if okSort a && a.all D.plain then some (minDD x r) else none
  | .max, [.lst a] => match ints? a with
    | some (x :: r) => some (.int (maxI x r))
    | _ => none
  | .min, [.int i, .int j] => some (.int (if j < i then j else i))
  | .max, [.int i, .int j] => some (.int (if j > i then j else i))
  | .all, [.lst a] => (bools? a).map fun bs => .bl (bs.all id)
  | .any, [.lst a] => (bools? a).map fun bs => .bl (bs.any id)
  | .tuple, [.lst a] => some (.tup a)
  | .tuple, [.tup a] => some (.tup a)
  | .list, [.lst a] => some (.lst a)
  | .list, [.tup a] => some (.lst a)
  | .sorted, [.lst a] => if okSort a && decide (a.length ≤ lim) then some (.lst (isort dle a)) else none
  | .sorted, [.tup a] => if okSort a && decide (a.length ≤ lim) then some (.lst (isort dle a)) else none
  | .int, [.int i] => some (.int i)
  | _, _ => none
def mtTy : Mt → D → Bool
  | .count, .lst _ => true
  | .index, .lst _ => true
  | .join, .str _ => true
  | _, _ => false
/-- methods of lists and texts that change nothing -/
def mtF : Mt → D → List D → Option D
  | .index, .lst ds, [d] => if d.okD && (D.lst ds).okD then (ds.findIdx? fun z => deq z d).map fun j => .int (j : Nat) else none
  | .count, .lst ds, [d] => if d.okD && (D.lst ds).okD then some (.int (ds.countP (fun z => deq z d) : Nat)) else none
  | .join, .str a, [.lst ds] => (strs? ds).bind fun ys => if (ys.map (·.length)).sum + ys.length * a.length ≤ lim then some (.str (Txt.join a ys)) else none
  | _, _, _ => none

/-- xs[i] -/
def idxF : D → D → Option D
  | .lst a, .int i => L2.atI a i
  | .tup a, .int i => L2.atI a i
  | .scr a, .int i => (L2.atI a i).map D.int
  | .str a, .int i => if a.length ≤ lim then (L2.atI a.cps.toList i).map fun c => .str ⟨#[c]⟩ else none
  | _, _ => none
def cutD {α : Type} (xs : List α) (lo hi : Option Int) : List α := (xs.drop (HT.sIx xs.length 0 lo)).take (HT.sIx xs.length xs.length hi - HT.sIx xs.length 0 lo)
def slcF : D → Option Int → Option Int → Option D
  | .lst a, lo, hi => some (.lst (cutD a lo hi))
  | .tup a, lo, hi => some (.tup (cutD a lo hi))
  | .str a, lo, hi => if a.length ≤ lim then some (.str (L2.cutS a lo hi)) else none
  | _, _, _ => none
def revTF : D → Option D
  | .tup a => some (.tup a.reverse)
  | _ => none
def revF : D → Option D
  | .lst a => some (.lst a.reverse)
  | _ => none
def intD : D → R Int
  | .int i => .ok i
  | _ => .bad
def boolD : D → R Bool
  | .bl b => .ok b
  | _ => .bad
def rgI (a b : Int) : List Int := (List.range (b - a).toNat).map fun (i : Nat) => a + (i : Int)
def okRg (a b : Int) : Bool := decide (-100000 ≤ a ∧ a ≤ 100000 ∧ -100000 ≤ b ∧ b ≤ 100000)
def rgD (a b : Int) : R (List D) := if okRg a b then .ok ((rgI a b).map D.int) else .bad
/-- range(a, b, c), c positive -/
def rgC (a b c : Int) : List Int := (List.range ((b - a + c - 1) / c).toNat).map fun (i : Nat) => a + (i : Int) * c
def rgCD (a b c : Int) : R (List D) := if okRg a b && decide (0 < c ∧ c ≤ 1000) then .ok ((rgC a b c).map D.int) else .bad
def zipD : List D → List D → List D
  | a :: r, b :: s => .tup [a, b] :: zipD r s
  | _, _ => []
def enumD : Nat → List D → List D
  | _, [] => []
  | n, a :: r => .tup [.int n, a] :: enumD (n + 1) r
def strD (x : Str) : List D := x.cps.toList.map fun c => .str ⟨#[c]⟩
def strI : D → R (List D)
  | .str x => .ok (strD x)
  | _ => .bad
def itemsD : D → R (List D)
  | .lst a => .ok a
  | .tup a => .ok a
  | _ => .bad
def lstD : D → R (List D)
  | .lst a => .ok a
  | _ => .bad
def tupD : D → R (List D)
  | .tup a => .ok a
  | _ => .bad
def zipDD : D → D → R (List D)
  | .lst a, .lst b => .ok (zipD a b)
  | .tup a, .tup b => .ok (zipD a b)
  | _, _ => .bad
def optB (k : Bool) (r : R D) : R (Option D) := if k then r.bind fun y => .ok (some y) else .ok none
def optL : Option D → List D → List D
  | some y, ys => y :: ys
  | none, ys => ys

/-! ### slots -/
inductive Slot where
  | no
  | val (d : D)
  | own (ds : List D)
  | raw (v : L2.V)
abbrev Env := List Slot
def slotV : Option Slot → R D
  | some (.val d) => .ok d
  | _ => .bad
def slotO : Option Slot → R (List D)
  | some (.own ds) => .ok ds
  | _ => .bad
inductive Tg where
  | nm (i : Nat)
  | tp (is : List Nat)
def setAll : List Nat → List D → Env → R Env
  | [], [], env => .ok env
  | i :: is, d :: ds, env => setAll is ds (env.set i (.val d))
  | _, _, _ => .bad
def setTg : Tg → D → Env → R Env
  | .nm i, d, env => .ok (env.set i (.val d))
  | .tp is, .tup ds, env => setAll is ds env
  | .tp is, .lst ds, env => setAll is ds env
  | .tp _, _, _ => .bad
def wipeE (env : Env) : List Nat → Env
  | [] => env
  | v :: vs => (wipeE env vs).set v .no
def comp (f : D → R (Option D)) : List D → R (List D)
  | [] => .ok []
  | x :: r => match f x with
    | .ok o => (comp f r).bind fun ys => .ok (optL o ys)
    | _ => .bad
def compCat (f : D → R (List D)) : List D → R (List D)
  | [] => .ok []
  | x :: r => match f x with
    | .ok o => (compCat f r).bind fun ys => .ok (o ++ ys)
    | _ => .bad

/-! ### expressions -/
inductive Cst where
  | non | bl (b : Bool) | int (i : Int) | str (x : Str)
def Cst.d : Cst → D
  | .non => .non
  | .bl b => .bl b
  | .int i => .int i
  | .str x => .str x
/-- the fields of a Band, in the order in which they are set -/
def bandF : List Str := ["cycle", "rhythm", "voices", "done", "undone"]
def fldF : D → Nat → Option D
  | .obj fs, j => fs[j]?
  | _, _ => none
/-- what __len__ hands back -/
def lenR : D → R D
  | .int n => if 0 ≤ n ∧ n ≤ 1000 then .ok (.int n) else .bad
  | _ => .bad
def isObj : D → Bool
  | .obj _ => true
  | _ => false
mutual
inductive CE where
  | var (i : Nat)
  | bor (i : Nat)
  | cst (c : Cst)
  | glo (x : Str) (c : Cst)
  | bin (op : BOp) (a b : CE)
  | neg (a : CE)
  | cmp (op : COp) (a b : CE)
  | chn (op op' : COp) (a b c : CE)
  | and (a r : CE)
  | or (a r : CE)
  | one (a : CE)
  | not (a : CE)
  | ite (c a b : CE)
  | tup (es : CEs)
  | lst (es : CEs)
  | idx (a b : CE)
  | slc (a : CE) (lo hi : CO)
  | rev (a : CE)
  | revT (a : CE)
  | call (f : Nat) (es : CEs)
  | callD (f : Nat) (es : CEs)
  | callAt (fs : List Nat) (ix : CE) (es : CEs)
  | bi (b : Bi) (es : CEs)
  | meth (m : Mt) (o : CE) (es : CEs)
  | rgl (es : CEs)
  | rgt (es : CEs)
  | lc (elt : CE) (t : Tg) (it : CI) (c : CO) (vs : List Nat)
  | lc2 (elt : CE) (t : Tg) (it : CI) (c : CO) (t1 : Tg) (it1 : CI) (c1 : CO) (vs vs1 : List Nat)
  | sset (e : CE)
  | lset (e : CE)
  | isi (t : Ty) (e : CE)
  /-- the field j of the instance in slot i -/
  | fld (i j : Nat)
  /-- the method m (number f) of the instance in slot i, which it does not change -/
  | mth (f : Nat) (m : Str) (o : CE) (es : CEs)
  /-- Band(..) that does not change -/
  | new (es : CEs)
  /-- == and != of instances, by the own __eq__ (number f) -/
  | eqO (ne : Bool) (f : Nat) (a b : CE)
  /-- isinstance(e, Band); slot i holds an instance -/
  | isB (i : Nat) (e : CE)
  /-- len of the instance in slot i, by its __len__ (number f) -/
  | lenO (f i : Nat)
inductive CEs where
  | nil
  | cons (e : CE) (r : CEs)
inductive CO where
  | none
  | some (e : CE)
inductive CI where
  | lst (e : CE)
  | tup (e : CE)
  | str (e : CE)
  | rng (es : CEs)
  | enum (e : CE)
  | enumS (e : CE)
  | zip (a b : CE)
end
def CE.isBor : CE → Bool
  | .bor _ => true
  | _ => false
def CE.isTest : CE → Bool
  | .and a r => a.isTest && r.isTest
  | .or a r => a.isTest && r.isTest
  | .one a => a.isTest
  | .not a => a.isTest
  | .var _ => true
  | .cst _ => true
  | .cmp _ _ _ => true
  | .chn _ _ _ _ _ => true
  | .call _ _ => true
  | .bi _ _ => true
  | .isi _ _ => true
  | .idx _ _ => true
  | .eqO _ _ _ _ => true
  | .isB _ _ => true
  | _ => false
/-- an expression that makes a new list -/
def CE.isNew : CE → Bool
  | .lst _ => true
  | .lc _ _ _ _ _ => true
  | .lc2 _ _ _ _ _ _ _ _ _ => true
  | .bin .mul (.lst _) _ => true
  | .bin .add _ _ => true
  | _ => false
def CE.isAO : CE → Bool
  | .and _ _ => true
  | .or _ _ => true
  | .one _ => true
  | _ => false
def CI.noBor : CI → Bool
  | .lst e => !e.isBor
  | .tup e => !e.isBor
  | .str e => !e.isBor
  | .rng _ => true
  | .enum e => !e.isBor
  | .enumS e => !e.isBor
  | .zip a b => !a.isBor && !b.isBor
def Tg.inn : Tg → List Nat → Bool
  | .nm i, vs => vs.contains i
  | .tp is, vs => is.all vs.contains
/-- sorted(set(list)): ints, or tuples of ints of one length -/
def ded {α : Type} [DecidableEq α] : List α → List α
  | [] => []
  | x :: r => if x ∈ r then ded r else x :: ded r
def tups? : List D → Option (List (List Int))
  | [] => some []
  | .tup a :: r => (ints? a).bind fun x => (tups? r).map (x :: ·)
  | _ :: _ => none
def okTs (ls : List (List Int)) : Bool := decide (ls.length < 64) && (ls.isEmpty || decide (0 < (ls.headD []).length)) && ls.all fun l => decide (l.length = (ls.headD []).length) && l.all fun x => decide (0 ≤ x ∧ x < 64)
def ssetF : D → Option D
  | .lst a => match tups? a with
    | some ls => if okTs ls then some (.lst ((isort (fun x y => !HT.lexLt y x) (ded ls)).map fun t => .tup (t.map D.int))) else none
    | none => match ints? a with
      | some ns => if ns.length < 64 then some (.lst ((isort (fun x y : Int => decide (x ≤ y)) (ded ns)).map D.int)) else none
      | none => none
  | _ => none

/-- len(set(..)): ints -/
def lsetF : D → Option D
  | .lst a => (ints? a).bind fun ns => if ns.length < 1000 then some (.int ((ded ns).length : Nat)) else none
  | .tup a => (ints? a).bind fun ns => if ns.length < 1000 then some (.int ((ded ns).length : Nat)) else none
  | _ => none

/-- a call that keeps a table of its own: of a tuple of few ints, it gives an int -/
def memoArgs : List D → Bool
  | [_, .tup a] => (ints? a).isSome && decide (a.length ≤ 20)
  | _ => false
def memoR : R D → R D
  | .ok (.int v) => .ok (.int v)
  | _ => .bad
def CEs.is3 : CEs → Bool
  | .cons _ (.cons _ (.cons _ _)) => true
  | _ => false
def isBD (s x : D) : R D := match s, x with
  | .obj _, .obj _ => .ok (.bl true)
  | .obj _, .tup _ => .ok (.bl false)
  | _, _ => .bad
def eqK : D → D → Bool
  | .obj _, .obj _ => true
  | .obj _, .tup _ => true
  | _, _ => false
def blR (ne : Bool) : R D → R D
  | .ok (.bl k) => .ok (.bl (ne != k))
  | _ => .bad
section
variable (cl : Nat → List D → R D)
def newD : List D → R D
  | [c, r] => (cl 900 [c, r]).bind fun _ => .ok (.obj [c, r, .tup []])
  | _ => .bad
def eqD (ne : Bool) (f : Nat) (x y : D) : R D := if eqK x y then blR ne (cl f [x, y]) else .bad
mutual
def ev : CE → Env → R D
  | .var i, env => slotV env[i]?
  | .bor i, env => (slotO env[i]?).bind fun ds => .ok (.lst ds)
  | .cst c, _ => .ok c.d
  | .glo _ c, _ => .ok c.d
  | .bin op a b, env => (ev a env).bind fun x => (ev b env).bind fun y => R.ofO (bopF op x y)
  | .neg a, env => (ev a env).bind fun x => (intD x).bind fun i => .ok (.int (-i))
  | .cmp op a b, env => (ev a env).bind fun x => (ev b env).bind fun y => R.ofO ((copF op x y).map D.bl)
  | .chn op op' a b c, env => (ev a env).bind fun x => (ev b env).bind fun y => (R.ofO (copF op x y)).bind fun k =>
      if k then (ev c env).bind fun z => R.ofO ((copF op' y z).map D.bl) else .ok (.bl false)
  | .and a r, env => (ev a env).bind fun x => (boolD x).bind fun k => if k then (if r.isBor then .bad else ev r env) else .ok (.bl false)
  | .or a r, env => (ev a env).bind fun x => (boolD x).bind fun k => if k then .ok (.bl true) else (if r.isBor then .bad else ev r env)
  | .one a, env => if a.isBor then .bad else ev a env
  | .not a, env => (ev a env).bind fun x => (boolD x).bind fun k => .ok (.bl !k)
  | .ite c a b, env => (if c.isTest then (ev c env).bind boolD else .bad).bind fun k => if k then (if a.isBor then .bad else ev a env) else (if b.isBor then .bad else ev b env)
  | .tup es, env => (evs es env).bind fun ds => if ds.length ≤ lim then .ok (.tup ds) else .bad
  | .lst es, env => (evs es env).bind fun ds => if ds.length ≤ lim then .ok (.lst ds) else .bad
  | .idx a b, env => (ev a env).bind fun x => (ev b env).bind fun y => R.ofO (idxF x y)
  | .slc a lo hi, env => (ev a env).bind fun x => (evo lo env).bind fun l => (evo hi env).bind fun h => R.ofO (slcF x l h)
  | .rev a, env => (ev a env).bind fun x => R.ofO (revF x)
  | .revT a, env => (ev a env).bind fun x => R.ofO (revTF x)
  | .call f es, env => (evs es env).bind fun ds => cl f ds
  | .callD f es, env => (evs es env).bind fun ds => if memoArgs ds then memoR (cl f ds) else .bad
  | .callAt fs ix es, env => if fs.length ≤ lim then (ev ix env).bind fun x => (intD x).bind fun i => (R.ofO (L2.atI fs i)).bind fun f => (evs es env).bind fun ds => cl f ds else .bad
  | .bi b es, env => (evb es env).bind fun ds => R.ofO (biF b ds)
  | .meth m o es, env => (ev o env).bind fun x => if mtTy m x then (evb es env).bind fun ds => R.ofO (mtF m x ds) else .bad
  | .rgl es, env => (evr es env).bind fun ds => .ok (.lst ds)
  | .rgt es, env => match es.is3 with
    | true => .bad
    | false => (evr es env).bind fun ds => .ok (.tup ds)
  | .lc elt t it c vs, env => (evi it env).bind fun ds => if ds.length ≤ lim ∧ t.inn vs = true ∧ elt.isBor = false then
      (comp (fun d => (setTg t d (wipeE env vs)).bind fun e1 => (evt c e1).bind fun k => optB k (ev elt e1)) ds).bind fun ys => .ok (.lst ys) else .bad
  | .lc2 elt t it c t1 it1 c1 vs vs1, env => (evi it env).bind fun ds => if t.inn vs = true ∧ t1.inn vs1 = true ∧ vs1.all vs.contains = true ∧ it1.noBor = true ∧ elt.isBor = false then
      (compCat (fun d => (setTg t d (wipeE env vs)).bind fun e1 => (evt c e1).bind fun k => if k then (evi it1 e1).bind fun ds1 => comp (fun d1 => (setTg t1 d1 (wipeE e1 vs1)).bind fun e2 => (evt c1 e2).bind fun k1 => optB k1 (ev elt e2)) ds1 else .ok []) ds).bind fun ys => if ys.length ≤ lim then .ok (.lst ys) else .bad else .bad
  | .sset e, env => (ev e env).bind fun x => R.ofO (ssetF x)
  | .lset e, env => (ev e env).bind fun x => R.ofO (lsetF x)
  | .isi t e, env => (ev e env).bind fun x => .ok (.bl (isiF t x))
  | .fld i j, env => if j < 3 then (slotV env[i]?).bind fun d => R.ofO (fldF d j) else .bad
  | .mth f m o es, env => if bandF.contains m || o.isBor then .bad else (ev o env).bind fun d => if isObj d then (evs es env).bind fun ds => cl f (d :: ds) else .bad
  | .new es, env => (evs es env).bind fun ds => newD cl ds
  | .eqO ne f a b, env => if a.isBor || b.isBor then .bad else (ev a env).bind fun x => (ev b env).bind fun y => eqD cl ne f x y
  | .isB i e, env => if e.isBor then .bad else (slotV env[i]?).bind fun s => (ev e env).bind fun x => isBD s x
  | .lenO f i, env => (slotV env[i]?).bind fun d => if isObj d then (cl f [d]).bind lenR else .bad
def evs : CEs → Env → R (List D)
  | .nil, _ => .ok []
  | .cons e r, env => if e.isBor then .bad else (ev e env).bind fun d => (evs r env).bind fun ds => .ok (d :: ds)
def evb : CEs → Env → R (List D)
  | .nil, _ => .ok []
  | .cons e r, env => (ev e env).bind fun d => (evb r env).bind fun ds => .ok (d :: ds)
def evo : CO → Env → R (Option Int)
  | .none, _ => .ok none
  | .some e, env => (ev e env).bind fun x => (intD x).bind fun i => .ok (some i)
def evt : CO → Env → R Bool
  | .none, _ => .ok true
  | .some e, env => if e.isTest then (ev e env).bind boolD else .bad
def evr : CEs → Env → R (List D)
  | .cons a .nil, env => (ev a env).bind fun x => (intD x).bind fun i => rgD 0 i
  | .cons a (.cons b .nil), env => (ev a env).bind fun x => (ev b env).bind fun y => (intD x).bind fun i => (intD y).bind fun j => rgD i j
  | .cons a (.cons b (.cons c .nil)), env => (ev a env).bind fun x => (ev b env).bind fun y => (ev c env).bind fun z => (intD x).bind fun i => (intD y).bind fun j => (intD z).bind fun k => rgCD i j k
  | _, _ => .bad
def evi : CI → Env → R (List D)
  | .lst e, env => (ev e env).bind lstD
  | .tup e, env => (ev e env).bind tupD
  | .str e, env => (ev e env).bind strI
  | .rng es, env => evr es env
  | .enum e, env => (ev e env).bind fun x => (lstD x).bind fun a => .ok (enumD 0 a)
  | .enumS e, env => (ev e env).bind fun x => (strI x).bind fun a => .ok (enumD 0 a)
  | .zip a b, env => if a.isBor then .bad else if b.isBor then .bad else (ev a env).bind fun x => (ev b env).bind fun y => zipDD x y
end

/-! ### what an except suite hands back: isinstance(e, X), constants, lists, tuples, l.index(True) -/
mutual
inductive HE where
  | isx (c : Nat)
  | cst (c : Cst)
  | ite (t a b : HE)
  | tup (es : HEs)
  | idx (es : HEs)
inductive HEs where
  | nil
  | cons (e : HE) (r : HEs)
end
/-- the class c is under the class b -/
def subc (c b : Nat) : Bool := decide (c = b) || decide (b = 0)
mutual
def evh (c : Nat) : HE → Option D
  | .isx b => some (.bl (subc c b))
  | .cst k => some k.d
  | .ite t a b => (evh c t).bind fun d => match d with
    | .bl true => evh c a
    | .bl false => evh c b
    | _ => none
  | .tup es => (evhs c es).bind fun ds => if ds.length ≤ lim then some (.tup ds) else none
  | .idx es => (evhs c es).bind fun ds => if ds.length ≤ lim then mtF .index (.lst ds) [.bl true] else none
def evhs (c : Nat) : HEs → Option (List D)
  | .nil => some []
  | .cons e r => (evh c e).bind fun d => (evhs c r).bind fun ds => some (d :: ds)
end
def catchR {α : Type} (f : Nat → R α) : R α → R α
  | .exc c => f c
  | r => r

/-! ### statements -/
mutual
inductive CS where
  | asg (i : Nat) (e : CE)
  | own (i : Nat) (e : CE)
  | own2 (i j : Nat)
  /-- x, y = e, [] -/
  | ownP (i j : Nat) (e : CE)
  | ownQ (i j : Nat) (e : CE)
  | par (sw : Bool) (is : List Nat) (es : CEs)
  | unp (t : Tg) (e : CE)
  | app (i : Nat) (e : CE)
  | ext (i : Nat) (e : CE)
  | six (i : Nat) (a e : CE)
  | ite (c : CE) (a b : CSs)
  | forr (t : Tg) (it : CI) (b : CSs)
  | whl (c : CE) (b : CSs)
  | ret (e : CE)
  | retO (i : Nat)
  | exp (e : CE)
  | rse (c : Nat)
  | frz (i : Nat)
  | tryx (b : CSs) (i : Nat) (h : HE)
inductive CSs where
  | nil
  | cons (s : CS) (r : CSs)
end
inductive Fl where
  | nx (env : Env)
  | rt (d : D)
def Fl.next (k : Env → R Fl) : Fl → R Fl
  | .nx env => k env
  | .rt d => .ok (.rt d)
def forL (f : D → Env → R Fl) : List D → Env → R Fl
  | [], env => .ok (.nx env)
  | d :: r, env => (f d env).bind (Fl.next (forL f r))
def whileL (c : Env → R Bool) (f : Env → R Fl) : Nat → Env → R Fl
  | 0, _ => .bad
  | n + 1, env => (c env).bind fun k => if k then (f env).bind (Fl.next (whileL c f n)) else .ok (.nx env)
def whFuel : Nat := 2000
def evT (e : CE) (env : Env) : R Bool := if e.isTest then (ev cl e env).bind boolD else .bad
def evV (e : CE) (env : Env) : R D := if e.isBor then .bad else ev cl e env
mutual
def ex : CS → Env → R Fl
  | .asg i e, env => (evV cl e env).bind fun d => .ok (.nx (env.set i (.val d)))
  | .own i e, env => if e.isNew then (ev cl e env).bind fun d => (lstD d).bind fun ds => .ok (.nx (env.set i (.own ds))) else .bad
  | .ownQ i j e, env => (evV cl e env).bind fun d => if i = j then .bad else .ok (.nx ((env.set i (.val d)).set j (.own [])))
  | .ownP i j e, env => (evV cl e env).bind fun d => if i = j then .bad else .ok (.nx ((env.set i (.val d)).set j (.own [])))
  | .own2 i j, env => if i = j then .bad else .ok (.nx ((env.set i (.own [])).set j (.own [])))
  | .par sw is es, env => if (sw = true ∧ is.length ≠ 2 ∧ is.length ≠ 3) ∨ 1000 < is.length then .bad else (evs cl es env).bind fun ds => (setAll is ds env).bind fun env' => .ok (.nx env')
  | .unp t e, env => (evV cl e env).bind fun d => (setTg t d env).bind fun env' => .ok (.nx env')
  | .app i e, env => (slotO env[i]?).bind fun ds => (evV cl e env).bind fun d => if ds.length < lim then .ok (.nx (env.set i (.own (ds ++ [d])))) else .bad
  | .ext i e, env => (slotO env[i]?).bind fun ds => (ev cl e env).bind fun d => (lstD d).bind fun es => if ds.length + es.length ≤ lim then .ok (.nx (env.set i (.own (ds ++ es)))) else .bad
  | .six i a e, env => (slotO env[i]?).bind fun ds => (evV cl e env).bind fun d => (ev cl a env).bind fun x => (intD x).bind fun k => (R.ofO (L2.ixN ds.length k)).bind fun j => .ok (.nx (env.set i (.own (ds.set j d))))
  | .ite c a b, env => (evT cl c env).bind fun k => if k then exs a env else exs b env
  | .forr t it b, env => if it.noBor then (evi cl it env).bind fun ds => forL (fun d e => (setTg t d e).bind fun e1 => exs b e1) ds env else .bad
  | .whl c b, env => whileL (evT cl c) (exs b) whFuel env
  | .ret e, env => (evV cl e env).bind fun d => .ok (.rt d)
  | .retO i, env => (slotO env[i]?).bind fun ds => .ok (.rt (.lst ds))
  | .exp e, env => (ev cl e env).bind fun _ => .ok (.nx env)
  | .rse c, _ => .exc c
  | .frz i, env => (slotO env[i]?).bind fun ds => .ok (.nx (env.set i (.val (.lst ds))))
  | .tryx b i h, env => catchR (fun c => (R.ofO (evh c h)).bind fun d => .ok (.rt d)) (exs b env)
def exs : CSs → Env → R Fl
  | .nil, env => .ok (.nx env)
  | .cons s r, env => (ex s env).bind (Fl.next fun env' => exs r env')
end
end

structure Fn where
  np : Nat
  ns : Nat
  body : CSs
abbrev Tab := Nat → Option Fn
def startE (np ns : Nat) (ds : List D) : Env := ds.map Slot.val ++ List.replicate (ns - np) .no
def outR : R Fl → R D
  | .ok (.nx _) => .ok .non
  | .ok (.rt d) => .ok d
  | .exc c => .exc c
  | .bad => .bad
def run (G : Tab) : Nat → Nat → List D → R D
  | 0, _, _ => .bad
  | k + 1, f, ds => (R.ofO (G f)).bind fun F => if ds.length = F.np then outR (exs (run G k) F.body (startE F.np F.ns ds)) else .bad
end Cl
set_option Elab.async false
set_option linter.all false
set_option maxRecDepth 100000
namespace Cl
open PySem L2

/-! ### data in the heap -/
abbrev Ex (H H' : Hp) : Prop := Same H H'
theorem Ex.new {H : Hp} {p : Addr} {o : HO} (h : H p = none) : Ex H (upd H p o) := fun a u e => by
  rw [upd_ne (ne_of_none e h)]
  exact e
def bandC (K : W.Frag) : Addr := He.ga K "Band"
/-- what is asked of the class -/
def bandB (K : W.Frag) : Bool :=
  (He.Fa.cls "Band").ok K && (bandF.all (fun f => (He.Fa.noat "Band" f).ok K) && (decide (W.findIn K (.ref (bandC K)) "__class__" = some (some (.builtin "object.__class__"))) &&
  (decide (W.specialIn K (.builtin "object.__class__") "__get__" = some (some (.builtin "getset_descriptor.__get__"))) && (decide (W.takesIn K (.builtin "object.__class__") = some true) && (decide (W.mroIn K (bandC K) (.type "object") = some true) &&
  (["int", "bool", "tuple", "list", "str"].all (fun t => decide (W.kitOne K (.ref (bandC K)) (.type t) = some false)) && (decide (W.findIn K (.ref (bandC K)) "__ne__" = some (some (.builtin "object.__ne__"))) &&
  (decide (W.subIn K (.type "tuple") (.ref (bandC K)) = some false) && (decide (W.kitOne K (.ref (bandC K)) (.ref (bandC K)) = some true) && decide (W.kitOne K (.type "tuple") (.ref (bandC K)) = some false))))))))))
structure BandK (K : W.Frag) : Prop where
  cl : Cls K (bandC K)
  no : ∀ f ∈ bandF, NoAttr K (bandC K) f
  ha : W.findIn K (.ref (bandC K)) "__class__" = some (some (.builtin "object.__class__"))
  hn : W.specialIn K (.builtin "object.__class__") "__get__" = some (some (.builtin "getset_descriptor.__get__"))
  ht : W.takesIn K (.builtin "object.__class__") = some true
  hm : W.mroIn K (bandC K) (.type "object") = some true
  kit : ∀ t ∈ ["int", "bool", "tuple", "list", "str"], W.kitOne K (.ref (bandC K)) (.type t) = some false
  ne : W.findIn K (.ref (bandC K)) "__ne__" = some (some (.builtin "object.__ne__"))
  st : W.subIn K (.type "tuple") (.ref (bandC K)) = some false
  kb : W.kitOne K (.ref (bandC K)) (.ref (bandC K)) = some true
  kt : W.kitOne K (.type "tuple") (.ref (bandC K)) = some false
theorem bandB_ok {K : W.Frag} (h : bandB K = true) : BandK K := by
  unfold bandB at h
  simp only [Bool.and_eq_true, decide_eq_true_eq, List.all_eq_true] at h
  obtain ⟨h1, h2, h3, h4, h5, h6, h7, h8, h9, h10, h11⟩ := h
  exact ⟨He.cls_ok h1, fun f hf => He.noat_ok (h2 f hf), h3, h4, h5, h6, h7, h8, h9, h10, h11⟩
mutual
inductive Rep (K : W.Frag) (P : Hp) : D → V → Prop
  | non : Rep K P .non .non
  | bl (b : Bool) : Rep K P (.bl b) (.bl b)
  | int (i : Int) : Rep K P (.int i) (.int i)
  | str (x : Str) : Rep K P (.str x) (.str x)
  | tup {a : Addr} {vs : List V} {ds : List D} : P a = some (.tup vs) → Reps K P ds vs → Rep K P (.tup ds) (.ref a)
  | lst {a : Addr} {vs : List V} {ds : List D} : P a = some (.lst vs) → Reps K P ds vs → Rep K P (.lst ds) (.ref a)
  | scr {a : Addr} {ns : List Int} : SqL K P a (ns.map V.int) → Rep K P (.scr ns) (.ref a)
  | obj {a dx : Addr} {vs : List V} {ds : List D} : bandB K = true → P a = some (.ins (bandC K) dx (bandF.zip vs)) → P dx = some (.own a) → ds.length = 3 → vs.length = 5 → Reps K P ds (vs.take 3) → Rep K P (.obj ds) (.ref a)
inductive Reps (K : W.Frag) (P : Hp) : List D → List V → Prop
  | nil : Reps K P [] []
  | cons {d : D} {v : V} {ds : List D} {vs : List V} : Rep K P d v → Reps K P ds vs → Reps K P (d :: ds) (v :: vs)
end
section
variable {K : W.Frag} {P P' H H' : Hp}
theorem sqL_ex {a : Addr} {xs : List V} (e : Ex H H') (h : SqL K H a xs) : SqL K H' a xs := e.seq h
mutual
theorem Rep.mono (e : Ex P P') : ∀ (d : D) (v : V), Rep K P d v → Rep K P' d v
  | .non, _, h => by cases h; exact .non
  | .bl b, _, h => by cases h; exact .bl b
  | .int i, _, h => by cases h; exact .int i
  | .str x, _, h => by cases h; exact .str x
  | .tup ds, _, h => by
    cases h with
    | tup h1 h2 => exact .tup (e _ _ h1) (Reps.mono e ds _ h2)
  | .lst ds, _, h => by
    cases h with
    | lst h1 h2 => exact .lst (e _ _ h1) (Reps.mono e ds _ h2)
  | .scr ns, _, h => by
    cases h with
    | scr h1 => exact .scr (sqL_ex e h1)
  | .obj ds, _, h => by
    cases h with
    | obj h0 h1 h2 h3 h5 h4 => exact .obj h0 (e _ _ h1) (e _ _ h2) h3 h5 (Reps.mono e ds _ h4)
theorem Reps.mono (e : Ex P P') : ∀ (ds : List D) (vs : List V), Reps K P ds vs → Reps K P' ds vs
  | [], _, h => by cases h; exact .nil
  | d :: ds, _, h => by
    cases h with
    | cons h1 h2 => exact .cons (Rep.mono e d _ h1) (Reps.mono e ds _ h2)
end
theorem dpAll_ints : ∀ ns : List Int, DpAll K H (ns.map V.int) (ns.map PyData.int)
  | [] => .nil
  | n :: ns => .cons (.int n) (dpAll_ints ns)
mutual
theorem Rep.dp (e : Ex P H) : ∀ (d : D) (v : V), Rep K P d v → d.nob = true → Dp K H v d.pd
  | .non, _, h, _ => by cases h; simpa [D.pd] using Dp.non
  | .bl b, _, h, _ => by cases h; simpa [D.pd] using Dp.bl b
  | .int i, _, h, _ => by cases h; simpa [D.pd] using Dp.int i
  | .str x, _, h, _ => by cases h; simpa [D.pd] using Dp.str x
  | .tup ds, _, h, n => by
    cases h with
    | tup h1 h2 => simp only [D.pd]; exact .tup (SqT.of (e _ _ h1)) (Reps.dp e ds _ h2 (by simpa [D.nob] using n))
  | .lst ds, _, h, n => by
    cases h with
    | lst h1 h2 => simp only [D.pd]; exact .lst (SqL.of (e _ _ h1)) (Reps.dp e ds _ h2 (by simpa [D.nob] using n))
  | .scr ns, _, h, _ => by
    cases h with
    | scr h1 => simp only [D.pd]; exact .lst (sqL_ex e h1) (dpAll_ints ns)
  | .obj _, _, _, n => by simp [D.nob] at n
theorem Reps.dp (e : Ex P H) : ∀ (ds : List D) (vs : List V), Reps K P ds vs → D.nobs ds = true → DpAll K H vs (D.pds ds)
  | [], _, h, _ => by cases h; simpa [D.pds] using DpAll.nil
  | d :: ds, _, h, n => by
    simp only [D.nobs, Bool.and_eq_true] at n
    cases h with
    | cons h1 h2 => simp only [D.pds]; exact .cons (Rep.dp e d _ h1 n.1) (Reps.dp e ds _ h2 n.2)
end
theorem Reps.length : ∀ {ds : List D} {vs : List V}, Reps K P ds vs → ds.length = vs.length
  | _, _, .nil => rfl
  | _, _, .cons _ t => by simp [Reps.length t]
theorem Reps.append : ∀ {ds es : List D} {vs ws : List V}, Reps K P ds vs → Reps K P es ws → Reps K P (ds ++ es) (vs ++ ws)
  | _, _, _, _, .nil, s => s
  | _, _, _, _, .cons r t, s => .cons r (Reps.append t s)
theorem Reps.take : ∀ {ds : List D} {vs : List V} (n : Nat), Reps K P ds vs → Reps K P (ds.take n) (vs.take n)
  | _, _, 0, _ => by simpa using Reps.nil
  | _, _, _ + 1, .nil => by simpa using Reps.nil
  | _, _, n + 1, .cons r t => .cons r (Reps.take n t)
theorem Reps.drop : ∀ {ds : List D} {vs : List V} (n : Nat), Reps K P ds vs → Reps K P (ds.drop n) (vs.drop n)
  | _, _, 0, r => r
  | _, _, _ + 1, .nil => by simpa using Reps.nil
  | _, _, n + 1, .cons _ t => Reps.drop n t
theorem Reps.get : ∀ {ds : List D} {vs : List V} {i : Nat} {d : D}, Reps K P ds vs → ds[i]? = some d → ∃ v, vs[i]? = some v ∧ Rep K P d v
  | _, _, _, _, .nil, e => by simp at e
  | _, _, 0, _, .cons r _, e => by simp at e; subst e; exact ⟨_, rfl, r⟩
  | _, _, i + 1, d, .cons _ t, e => by
    obtain ⟨v, h1, h2⟩ := Reps.get (i := i) (d := d) t (by simpa using e)
    exact ⟨v, by simpa using h1, h2⟩
theorem Reps.getV : ∀ {ds : List D} {vs : List V} {i : Nat} {v : V}, Reps K P ds vs → vs[i]? = some v → ∃ d, ds[i]? = some d ∧ Rep K P d v
  | _, _, _, _, .nil, e => by simp at e
  | _, _, 0, _, .cons r _, e => by simp at e; subst e; exact ⟨_, rfl, r⟩
  | _, _, i + 1, d, .cons _ t, e => by
    obtain ⟨v, h1, h2⟩ := Reps.getV (i := i) (v := d) t (by simpa using e)
    exact ⟨v, by simpa using h1, h2⟩
theorem Reps.set {d : D} {v : V} (r : Rep K P d v) : ∀ {ds : List D} {vs : List V} (i : Nat), Reps K P ds vs → Reps K P (ds.set i d) (vs.set i v)
  | _, _, _, .nil => .nil
  | _, _, 0, .cons _ t => .cons r t
  | _, _, i + 1, .cons q t => .cons q (Reps.set r i t)
theorem Reps.reverse : ∀ {ds : List D} {vs : List V}, Reps K P ds vs → Reps K P ds.reverse vs.reverse
  | _, _, .nil => by simpa using Reps.nil
  | _, _, .cons r t => by
    rw [List.reverse_cons, List.reverse_cons]
    exact Reps.append (Reps.reverse t) (.cons r .nil)
theorem Reps.rep {ds : List D} {vs : List V} (h : Reps K P ds vs) : ∀ n : Nat, Reps K P (repl n ds) (List.replicate n vs).flatten
  | 0 => by simpa [repl] using Reps.nil
  | n + 1 => by
    rw [repl, List.replicate_succ, List.replicate_succ, List.flatten_cons, List.flatten_cons]
    exact Reps.append h (Reps.rep h n)
theorem Reps.intsV : ∀ {ns : List Int} {vs : List V}, Reps K P (ns.map D.int) vs → vs = ns.map V.int
  | [], _, h => by cases h; rfl
  | n :: ns, _, h => by
    cases h with
    | cons h1 h2 => cases h1; rw [Reps.intsV h2]; rfl
theorem Reps.blsV : ∀ {ns : List Bool} {vs : List V}, Reps K P (ns.map D.bl) vs → vs = ns.map V.bl
  | [], _, h => by cases h; rfl
  | n :: ns, _, h => by
    cases h with
    | cons h1 h2 => cases h1; rw [Reps.blsV h2]; rfl
theorem Reps.strsV : ∀ {ns : List Str} {vs : List V}, Reps K P (ns.map D.str) vs → vs = ns.map V.str
  | [], _, h => by cases h; rfl
  | n :: ns, _, h => by
    cases h with
    | cons h1 h2 => cases h1; rw [Reps.strsV h2]; rfl
theorem reps_ints : ∀ ns : List Int, Reps K P (ns.map D.int) (ns.map V.int)
  | [] => .nil
  | n :: ns => .cons (.int n) (reps_ints ns)
theorem reps_bls : ∀ ns : List Bool, Reps K P (ns.map D.bl) (ns.map V.bl)
  | [] => .nil
  | n :: ns => .cons (.bl n) (reps_bls ns)
end

/-! ### how the heap grows: P what does not change any more, H all -/
structure Ext (P H P' H' : Hp) : Prop where
  h : Ex H H'
  p : Ex P P'
  ph : Ex P' H'
  fr : ∀ a, P a = none → H a ≠ none → P' a = none
theorem Ext.refl {P H : Hp} (e : Ex P H) : Ext P H P H := ⟨Same.refl H, Same.refl P, e, fun _ h _ => h⟩
theorem Ext.trans {P H P1 H1 P2 H2 : Hp} (a : Ext P H P1 H1) (b : Ext P1 H1 P2 H2) : Ext P H P2 H2 :=
  ⟨a.h.trans b.h, a.p.trans b.p, b.ph, fun x h1 h2 => b.fr x (a.fr x h1 h2) fun z => h2 (a.h.free z)⟩
/-- a new thing that stays -/
theorem Ext.new {P H : Hp} {p : Addr} {o : HO} (e : Ex P H) (h : H p = none) : Ext P H (upd P p o) (upd H p o) :=
  ⟨Ex.new h, Ex.new (e.free h), fun a u q => by
    by_cases ha : a = p
    · subst ha; rw [upd_same] at q ⊢; exact q
    · rw [upd_ne ha] at q ⊢; exact e a u q, fun a h1 h2 => by
    have ha : a ≠ p := fun z => h2 (by rw [z]; exact h)
    rw [upd_ne ha]; exact h1⟩
/-- a new thing that may change -/
theorem Ext.newO {P H : Hp} {p : Addr} {o : HO} (e : Ex P H) (h : H p = none) : Ext P H P (upd H p o) :=
  ⟨Ex.new h, Same.refl P, fun a u q => (Ex.new h) a u (e a u q), fun _ h1 _ => h1⟩

/-- a value: it stays, or it is a list that may change, its items stay -/
def RepB (K : W.Frag) (P H : Hp) (d : D) (v : V) : Prop := Rep K P d v ∨ ∃ (a : Addr) (vs : List V) (ds : List D), d = .lst ds ∧ v = .ref a ∧ H a = some (.lst vs) ∧ Reps K P ds vs
theorem RepB.of {K : W.Frag} {P H : Hp} {d : D} {v : V} (h : Rep K P d v) : RepB K P H d v := .inl h
theorem RepB.mono {K : W.Frag} {P H P' H' : Hp} {d : D} {v : V} (e : Ext P H P' H') (h : RepB K P H d v) : RepB K P' H' d v := by
  rcases h with h | ⟨a, vs, ds, e1, e2, h1, h2⟩
  · exact .inl (h.mono e.p)
  · exact .inr ⟨a, vs, ds, e1, e2, e.h _ _ h1, h2.mono e.p⟩
theorem RepB.dp {K : W.Frag} {P H : Hp} {d : D} {v : V} (e : Ex P H) (h : RepB K P H d v) (n : d.nob = true) : Dp K H v d.pd := by
  rcases h with h | ⟨a, vs, ds, rfl, rfl, h1, h2⟩
  · exact h.dp e _ _ n
  · simp only [D.pd]; exact .lst (SqL.of h1) (h2.dp e _ _ (by simpa [D.nob] using n))
theorem RepB.lst {K : W.Frag} {P H : Hp} {ds : List D} {v : V} (e : Ex P H) (h : RepB K P H (.lst ds) v) : ∃ a vs, v = .ref a ∧ H a = some (.lst vs) ∧ Reps K P ds vs := by
  rcases h with h | ⟨a, vs, ds', e1, e2, h1, h2⟩
  · cases h with
    | lst h1 h2 => exact ⟨_, _, rfl, e _ _ h1, h2⟩
  · cases e1; exact ⟨a, vs, e2, h1, h2⟩
theorem RepB.tup {K : W.Frag} {P H : Hp} {ds : List D} {v : V} (h : RepB K P H (.tup ds) v) : ∃ a vs, v = .ref a ∧ P a = some (.tup vs) ∧ Reps K P ds vs := by
  rcases h with h | ⟨a, vs, ds', e1, _⟩
  · cases h with
    | tup h1 h2 => exact ⟨_, _, rfl, h1, h2⟩
  · cases e1
theorem RepB.int {K : W.Frag} {P H : Hp} {i : Int} {v : V} (h : RepB K P H (.int i) v) : v = .int i := by
  rcases h with h | ⟨a, vs, ds', e1, _⟩
  · cases h; rfl
  · cases e1
theorem RepB.bl {K : W.Frag} {P H : Hp} {i : Bool} {v : V} (h : RepB K P H (.bl i) v) : v = .bl i := by
  rcases h with h | ⟨a, vs, ds', e1, _⟩
  · cases h; rfl
  · cases e1
theorem RepB.str {K : W.Frag} {P H : Hp} {i : Str} {v : V} (h : RepB K P H (.str i) v) : v = .str i := by
  rcases h with h | ⟨a, vs, ds', e1, _⟩
  · cases h; rfl
  · cases e1
theorem RepB.non {K : W.Frag} {P H : Hp} {v : V} (h : RepB K P H .non v) : v = .non := by
  rcases h with h | ⟨a, vs, ds', e1, _⟩
  · cases h; rfl
  · cases e1
theorem RepB.scr {K : W.Frag} {P H : Hp} {ns : List Int} {v : V} (e : Ex P H) (h : RepB K P H (.scr ns) v) : ∃ a, v = .ref a ∧ SqL K H a (ns.map V.int) := by
  rcases h with h | ⟨a, vs, ds', e1, _⟩
  · cases h with
    | scr h1 => exact ⟨_, rfl, sqL_ex e h1⟩
  · cases e1
/-- what an operation hands back -/
inductive Res (K : W.Frag) (P H : Hp) : D → V → Hp → Prop
  | same {d : D} {v : V} : Rep K P d v → Res K P H d v H
  | newL {p : Addr} {ds : List D} {vs : List V} : H p = none → Reps K P ds vs → Res K P H (.lst ds) (.ref p) (upd H p (.lst vs))
  | newT {p : Addr} {ds : List D} {vs : List V} : H p = none → Reps K P ds vs → Res K P H (.tup ds) (.ref p) (upd H p (.tup vs))
theorem Res.keep {K : W.Frag} {P H H' : Hp} {d : D} {v : V} (e : Ex P H) (h : Res K P H d v H') : ∃ P', Ext P H P' H' ∧ Rep K P' d v := by
  cases h with
  | same h => exact ⟨P, .refl e, h⟩
  | newL hp hr => exact ⟨_, .new e hp, .lst upd_same (hr.mono (Ex.new (e.free hp)))⟩
  | newT hp hr => exact ⟨_, .new e hp, .tup upd_same (hr.mono (Ex.new (e.free hp)))⟩

/-! ### the slots -/
def SlotOk (K : W.Frag) (H0 P H : Hp) : Slot → Option (Option V) → Prop
  | .no, o => ∃ x, o = some x
  | .val d, o => ∃ v, o = some (some v) ∧ Rep K P d v
  | .raw v, o => o = some (some v)
  | .own ds, o => ∃ a vs, o = some (some (.ref a)) ∧ H0 a = none ∧ P a = none ∧ H a = some (.lst vs) ∧ Reps K P ds vs
structure EnvOk (K : W.Frag) (H0 : Hp) (env : Env) (σ : St) (P H : Hp) : Prop where
  ex : Ex P H
  len : env.length = σ.length
  at_ : ∀ (i : Nat) (s : Slot), env[i]? = some s → SlotOk K H0 P H s σ[i]?
  apart : ∀ (i j : Nat) (ds es : List D) (a b : Addr), env[i]? = some (.own ds) → env[j]? = some (.own es) → σ[i]? = some (some (.ref a)) → σ[j]? = some (some (.ref b)) → i ≠ j → a ≠ b
section
variable {K : W.Frag} {H0 P H P' H' : Hp} {env : Env} {σ : St}
theorem SlotOk.mono {s : Slot} {o : Option (Option V)} (e : Ext P H P' H') (h : SlotOk K H0 P H s o) : SlotOk K H0 P' H' s o := by
  cases s with
  | no => exact h
  | raw v => exact h
  | val d => obtain ⟨v, h1, h2⟩ := h; exact ⟨v, h1, h2.mono e.p⟩
  | own ds =>
    obtain ⟨a, vs, h1, h0, h2, h3, h4⟩ := h
    exact ⟨a, vs, h1, h0, e.fr a h2 (by rw [h3]; simp), e.h _ _ h3, h4.mono e.p⟩
theorem EnvOk.mono (e : Ext P H P' H') (h : EnvOk K H0 env σ P H) : EnvOk K H0 env σ P' H' :=
  ⟨e.ph, h.len, fun i s q => (h.at_ i s q).mono e, h.apart⟩
theorem EnvOk.lt (h : EnvOk K H0 env σ P H) {i : Nat} {s : Slot} (q : env[i]? = some s) : i < σ.length := by
  rw [← h.len]; exact (List.getElem?_eq_some_iff.mp q).1
/-- a slot is stored -/
theorem EnvOk.set {i : Nat} {d : D} {v : V} (h : EnvOk K H0 env σ P H) (r : Rep K P d v) : EnvOk K H0 (env.set i (.val d)) (σ.set i (some v)) P H := by
  refine ⟨h.ex, by simpa using h.len, fun j s q => ?_, fun a b ds es x y q1 q2 q3 q4 n => ?_⟩
  · by_cases hj : i = j
    · subst hj
      have hl : i < env.length := by simpa using (List.getElem?_eq_some_iff.mp q).1
      rw [List.getElem?_set_self hl] at q
      cases q
      exact ⟨v, by rw [List.getElem?_set_self (h.len ▸ hl)], r⟩
    · rw [List.getElem?_set_ne hj] at q ⊢
      exact h.at_ j s q
  · have n1 : i ≠ a := fun z => by
      subst z
      have hl : i < env.length := by simpa using (List.getElem?_eq_some_iff.mp q1).1
      rw [List.getElem?_set_self hl] at q1; cases q1
    have n2 : i ≠ b := fun z => by
      subst z
      have hl : i < env.length := by simpa using (List.getElem?_eq_some_iff.mp q2).1
      rw [List.getElem?_set_self hl] at q2; cases q2
    rw [List.getElem?_set_ne n1] at q1 q3
    rw [List.getElem?_set_ne n2] at q2 q4
    exact h.apart a b ds es x y q1 q2 q3 q4 n
/-- a slot is forgotten -/
theorem EnvOk.wipe1 {i : Nat} {o : Option V} (h : EnvOk K H0 env σ P H) : EnvOk K H0 (env.set i .no) (σ.set i o) P H := by
  refine ⟨h.ex, by simpa using h.len, fun j s q => ?_, fun a b ds es x y q1 q2 q3 q4 n => ?_⟩
  · by_cases hj : i = j
    · subst hj
      have hl : i < env.length := by simpa using (List.getElem?_eq_some_iff.mp q).1
      rw [List.getElem?_set_self hl] at q
      cases q
      exact ⟨o, by rw [List.getElem?_set_self (h.len ▸ hl)]⟩
    · rw [List.getElem?_set_ne hj] at q ⊢
      exact h.at_ j s q
  · have n1 : i ≠ a := fun z => by
      subst z
      have hl : i < env.length := by simpa using (List.getElem?_eq_some_iff.mp q1).1
      rw [List.getElem?_set_self hl] at q1; cases q1
    have n2 : i ≠ b := fun z => by
      subst z
      have hl : i < env.length := by simpa using (List.getElem?_eq_some_iff.mp q2).1
      rw [List.getElem?_set_self hl] at q2; cases q2
    rw [List.getElem?_set_ne n1] at q1 q3
    rw [List.getElem?_set_ne n2] at q2 q4
    exact h.apart a b ds es x y q1 q2 q3 q4 n
theorem EnvOk.wipe (h : EnvOk K H0 env σ P H) : ∀ vs : List Nat, EnvOk K H0 (wipeE env vs) (wipe σ vs) P H
  | [] => h
  | v :: vs => (h.wipe vs).wipe1
/-- a slot gets a new list of its own -/
theorem EnvOk.setO {i : Nat} {ds : List D} {vs : List V} {a : Addr} (h : EnvOk K H0 env σ P H) (h0 : H0 a = none) (hp : P a = none) (ha : H a = some (.lst vs)) (r : Reps K P ds vs)
    (ap : ∀ (j : Nat) (es : List D), env[j]? = some (.own es) → i ≠ j → σ[j]? ≠ some (some (.ref a))) : EnvOk K H0 (env.set i (.own ds)) (σ.set i (some (.ref a))) P H := by
  refine ⟨h.ex, by simpa using h.len, fun j s q => ?_, fun x y ds1 es b c q1 q2 q3 q4 n => ?_⟩
  · by_cases hj : i = j
    · subst hj
      have hl : i < env.length := by simpa using (List.getElem?_eq_some_iff.mp q).1
      rw [List.getElem?_set_self hl] at q
      cases q
      exact ⟨a, vs, by rw [List.getElem?_set_self (h.len ▸ hl)], h0, hp, ha, r⟩
    · rw [List.getElem?_set_ne hj] at q ⊢
      exact h.at_ j s q
  · by_cases n1 : i = x
    · subst n1
      have hl : i < env.length := by simpa using (List.getElem?_eq_some_iff.mp q1).1
      rw [List.getElem?_set_self (h.len ▸ hl)] at q3
      cases q3
      rw [List.getElem?_set_ne n] at q2 q4
      exact fun z => ap y es q2 n (z ▸ q4)
    · rw [List.getElem?_set_ne n1] at q1 q3
      by_cases n2 : i = y
      · subst n2
        have hl : i < env.length := by simpa using (List.getElem?_eq_some_iff.mp q2).1
        rw [List.getElem?_set_self (h.len ▸ hl)] at q4
        cases q4
        exact fun z => ap x ds1 q1 n1 (z ▸ q3)
      · rw [List.getElem?_set_ne n2] at q2 q4
        exact h.apart x y ds1 es b c q1 q2 q3 q4 n
/-- the list of a slot changes -/
theorem EnvOk.mut {i : Nat} {ds es : List D} {ws : List V} {a : Addr} (h : EnvOk K H0 env σ P H) (q : env[i]? = some (.own ds)) (hσ : σ[i]? = some (some (.ref a))) (r : Reps K P es ws) : EnvOk K H0 (env.set i (.own es)) σ P (upd H a (.lst ws)) := by
  obtain ⟨a', vs, e1, h0, hp, ha, hr⟩ := h.at_ i _ q
  rw [hσ] at e1
  cases e1
  have hl : i < env.length := (List.getElem?_eq_some_iff.mp q).1
  refine ⟨fun b u z => ?_, by simpa using h.len, fun j s q' => ?_, fun x y ds1 es1 b c q1 q2 q3 q4 n => ?_⟩
  · have nb : b ≠ a := fun w => by rw [w, hp] at z; cases z
    rw [upd_ne nb]; exact h.ex b u z
  · by_cases hj : i = j
    · subst hj
      rw [List.getElem?_set_self hl] at q'
      cases q'
      exact ⟨a, ws, hσ, h0, hp, upd_same, r⟩
    · rw [List.getElem?_set_ne hj] at q'
      have h1 := h.at_ j s q'
      cases s with
      | no => exact h1
      | raw v => exact h1
      | val d => exact h1
      | own ds2 =>
        obtain ⟨b, us, e1, z0, z1, z2, z3⟩ := h1
        have nb : b ≠ a := h.apart j i _ _ b a q' q e1 hσ (Ne.symm hj)
        exact ⟨b, us, e1, z0, z1, by rw [upd_ne nb]; exact z2, z3⟩
  · have f : ∀ (k : Nat) (zs : List D), (env.set i (.own es))[k]? = some (.own zs) → ∃ zs', env[k]? = some (.own zs') := fun k zs hk => by
      by_cases hj : i = k
      · subst hj; exact ⟨_, q⟩
      · rw [List.getElem?_set_ne hj] at hk; exact ⟨_, hk⟩
    obtain ⟨_, w1⟩ := f x ds1 q1
    obtain ⟨_, w2⟩ := f y es1 q2
    exact h.apart x y _ _ b c w1 w2 q3 q4 n
/-- the list of a slot stays from now on -/
theorem EnvOk.frz {i : Nat} {ds : List D} {vs : List V} {a : Addr} (h : EnvOk K H0 env σ P H) (q : env[i]? = some (.own ds)) (hσ : σ[i]? = some (some (.ref a))) (ha : H a = some (.lst vs)) (hr : Reps K P ds vs) (hp : P a = none) :
    EnvOk K H0 (env.set i (.val (.lst ds))) σ (upd P a (.lst vs)) H := by
  have hl : i < env.length := (List.getElem?_eq_some_iff.mp q).1
  have e : Ex P (upd P a (.lst vs)) := Ex.new hp
  refine ⟨fun b u z => ?_, by simpa using h.len, fun j s q' => ?_, fun x y ds1 es1 b c q1 q2 q3 q4 n => ?_⟩
  · by_cases hb : b = a
    · subst hb; rw [upd_same] at z; cases z; exact ha
    · rw [upd_ne hb] at z; exact h.ex b u z
  · by_cases hj : i = j
    · subst hj
      rw [List.getElem?_set_self hl] at q'
      cases q'
      exact ⟨.ref a, hσ, .lst upd_same (hr.mono e)⟩
    · rw [List.getElem?_set_ne hj] at q'
      have h1 := h.at_ j s q'
      cases s with
      | no => exact h1
      | raw v => exact h1
      | val d => obtain ⟨v, h2, h3⟩ := h1; exact ⟨v, h2, h3.mono e⟩
      | own ds2 =>
        obtain ⟨b, us, e1, z0, z1, z2, z3⟩ := h1
        have nb : b ≠ a := h.apart j i _ _ b a q' q e1 hσ (Ne.symm hj)
        exact ⟨b, us, e1, z0, by rw [upd_ne nb]; exact z1, z2, z3.mono e⟩
  · have f : ∀ (k : Nat) (zs : List D), (env.set i (.val (.lst ds)))[k]? = some (.own zs) → env[k]? = some (.own zs) := fun k zs hk => by
      by_cases hj : i = k
      · subst hj; rw [List.getElem?_set_self hl] at hk; cases hk
      · rw [List.getElem?_set_ne hj] at hk; exact hk
    exact h.apart x y _ _ b c (f x _ q1) (f y _ q2) q3 q4 n
end
end Cl
set_option Elab.async false
set_option linter.all false
set_option maxRecDepth 100000
set_option maxHeartbeats 4000000
namespace Cl
open PySem PySem.Spec PyProof.Rows L2

/-! ### the operators, by data -/
/-- a list is a new one -/
def NewIf (K : W.Frag) (P H : Hp) (d : D) (v : V) (H' : Hp) : Prop := ∀ ds, d = .lst ds → ∃ p vs, v = .ref p ∧ H p = none ∧ Reps K P ds vs ∧ H' = upd H p (.lst vs)
def rBop (K : W.Frag) (op : BOp) : R2 := fun x y H Q => ∃ (P : Hp) (d1 d2 d : D), Ex P H ∧ RepB K P H d1 x ∧ RepB K P H d2 y ∧ bopF op d1 d2 = some d ∧ ∀ v H', Res K P H d v H' → NewIf K P H d v H' → Q v H'
def rCop (K : W.Frag) (op : COp) : R2 := fun x y H Q => ∃ (P : Hp) (d1 d2 : D) (b : Bool), Ex P H ∧ RepB K P H d1 x ∧ RepB K P H d2 y ∧ copF op d1 d2 = some b ∧ Q (.bl b) H
def BOp.o : BOp → Operator
  | .add => .Add
  | .sub => .Sub
  | .mul => .Mult
  | .fdiv => .FloorDiv
  | .mod => .Mod
  | .pow => .Pow
def COp.o : COp → CmpOp
  | .eq => .Eq
  | .ne => .NotEq
  | .lt => .Lt
  | .le => .LtE
  | .gt => .Gt
  | .ge => .GtE
  | .isin => .In
  | .notin => .NotIn
  | .is => .Is
  | .isnot => .IsNot
theorem lim_eq : lim = sizeLine := by rw [sizeLine_eq]; rfl
section
variable {X : Cx}
theorem reps_nil {K : W.Frag} {P : Hp} {ds : List D} {vs : List V} (h : Reps K P ds vs) (e : vs = []) : ds = [] := by
  subst e; cases h; rfl
theorem reps_ne {K : W.Frag} {P : Hp} {ds : List D} {vs : List V} (h : Reps K P ds vs) (e : ds = []) : vs = [] := by
  subst e; cases h; rfl
theorem op_mulS : OpR X (binaryOp .Mult) (fun x y H Q => ∃ (a : Str) (j : Int), x = .str a ∧ y = .int j ∧ MulOk a j ∧ Q (.str (Txt.mul a j)) H) := by
  intro pins s σ H x y v u Q I rx ry h
  obtain ⟨a, j, rfl, rfl, hok, q⟩ := h
  obtain ⟨t, rfl⟩ := rx
  obtain ⟨t', rfl⟩ := ry
  exact SB.mul hok fun t' k => ⟨.str (Txt.mul a j), H, I.tok _, ⟨_, rfl⟩, q⟩
theorem mulOk_of {a : Str} {j : Int} (h0 : 0 ≤ j) (h1 : j ≤ 100000) (h2 : a.length * j.toNat ≤ lim) : MulOk a j := by
  have hl : a.length * j.toNat ≤ sizeLine := by rw [← lim_eq]; exact h2
  refine ⟨?_, fun hj _ hc => ?_, fun hj _ => ?_⟩
  · simp only [Bool.or_eq_false_iff, decide_eq_false_iff_not]
    omega
  · have h3 : (a.length : Int) * j ≤ 16777216 := by
      have e : j = ((j.toNat : Nat) : Int) := by omega
      rw [e, ← Int.natCast_mul]
      unfold lim at h2
      omega
    have := Int.le_ediv_of_mul_le (show 0 < j by omega) (Int.le_trans h3 (show (16777216 : Int) ≤ 2 ^ 63 - 1 by decide))
    omega
  · unfold Builtin.Str.tooLong
    simp only [gt_iff_lt, decide_eq_false_iff_not]
    omega
theorem op_bin (op : BOp) : OpR X (binaryOp op.o) (rBop X.K op) := by
  intro pins s σ H x y v u Q I rx ry h
  obtain ⟨P, d1, d2, d, e, h1, h2, hf, q⟩ := h
  cases op with
  | add =>
    cases d1 with
    | int i =>
      cases d2 <;> simp only [bopF, reduceCtorEq, Option.some.injEq] at hf
      subst hf
      obtain rfl := h1.int
      obtain rfl := h2.int
      exact op_add pins s σ H _ _ v u Q I rx ry ⟨_, _, rfl, rfl, q _ _ (.same (.int _)) (fun _ z => by cases z)⟩
    | tup a =>
      cases d2 <;> simp only [bopF, reduceCtorEq, Option.ite_none_right_eq_some, Option.some.injEq] at hf
      obtain ⟨hl, rfl⟩ := hf
      obtain ⟨a1, vs1, rfl, g1, r1⟩ := h1.tup
      obtain ⟨a2, vs2, rfl, g2, r2⟩ := h2.tup
      refine op_catA pins s σ H _ _ v u Q I rx ry ⟨a1, a2, vs1, vs2, rfl, rfl, SqT.of (e _ _ g1), SqT.of (e _ _ g2), by rw [← r1.length, ← r2.length, ← lim_eq]; exact hl, fun z => ?_, fun _ z => ?_, fun _ _ p hp => q _ _ (.newT hp (r1.append r2)) (fun _ z => by cases z)⟩
      · subst z
        obtain rfl := reps_nil r1 rfl
        exact q _ _ (.same (.tup g2 r2)) (fun _ z => by cases z)
      · subst z
        obtain rfl := reps_nil r2 rfl
        rw [List.append_nil] at q
        exact q _ _ (.same (.tup g1 r1)) (fun _ z => by cases z)
    | lst a =>
      cases d2 <;> simp only [bopF, reduceCtorEq, Option.ite_none_right_eq_some, Option.some.injEq] at hf
      obtain ⟨hl, rfl⟩ := hf
      obtain ⟨a1, vs1, rfl, g1, r1⟩ := h1.lst e
      obtain ⟨a2, vs2, rfl, g2, r2⟩ := h2.lst e
      exact op_cat pins s σ H _ _ v u Q I rx ry ⟨a1, a2, vs1, vs2, rfl, rfl, g1, g2, by rw [← r1.length, ← r2.length, ← lim_eq]; exact hl, fun p hp => q _ _ (.newL hp (r1.append r2)) (fun _ z => by cases z; exact ⟨p, _, rfl, hp, r1.append r2, rfl⟩)⟩
    | str a =>
      cases d2 <;> simp only [bopF, reduceCtorEq, Option.ite_none_right_eq_some, Option.some.injEq] at hf
      obtain ⟨hl, rfl⟩ := hf
      obtain rfl := h1.str
      obtain rfl := h2.str
      exact op_add_str pins s σ H _ _ v u Q I rx ry ⟨_, _, rfl, rfl, by rw [← lim_eq]; exact hl, q _ _ (.same (.str _)) (fun _ z => by cases z)⟩
    | _ => simp [bopF] at hf
  | sub =>
    cases d1 <;> cases d2 <;> simp only [bopF, reduceCtorEq, Option.some.injEq] at hf
    subst hf
    obtain rfl := h1.int
    obtain rfl := h2.int
    exact op_sub pins s σ H _ _ v u Q I rx ry ⟨_, _, rfl, rfl, q _ _ (.same (.int _)) (fun _ z => by cases z)⟩
  | mul =>
    cases d1 with
    | int i =>
      cases d2 <;> simp only [bopF, reduceCtorEq, Option.ite_none_right_eq_some, Option.some.injEq] at hf
      obtain ⟨hc, rfl⟩ := hf
      obtain rfl := h1.int
      obtain rfl := h2.int
      refine op_mul pins s σ H _ _ v u Q I rx ry ⟨_, _, rfl, rfl, ?_, q _ _ (.same (.int _)) (fun _ z => by cases z)⟩
      unfold CMul
      simp only [big] at hc
      omega
    | lst a =>
      cases d2 <;> simp only [bopF, reduceCtorEq, Option.ite_none_right_eq_some, Option.some.injEq] at hf
      obtain ⟨⟨hc1, hc2, hc3⟩, rfl⟩ := hf
      obtain ⟨a1, vs1, rfl, g1, r1⟩ := h1.lst e
      obtain rfl := h2.int
      exact op_rep pins s σ H _ _ v u Q I rx ry ⟨a1, _, vs1, rfl, rfl, g1, by omega, by omega, by rw [← r1.length, ← lim_eq]; exact hc3, fun p hp => q _ _ (.newL hp (r1.rep _)) (fun _ z => by cases z; exact ⟨p, _, rfl, hp, r1.rep _, rfl⟩)⟩
    | str a =>
      cases d2 <;> simp only [bopF, reduceCtorEq, Option.ite_none_right_eq_some, Option.some.injEq] at hf
      obtain ⟨⟨hc1, hc2, hc3⟩, rfl⟩ := hf
      obtain rfl := h1.str
      obtain rfl := h2.int
      exact op_mulS pins s σ H _ _ v u Q I rx ry ⟨_, _, rfl, rfl, mulOk_of hc1 hc2 hc3, q _ _ (.same (.str _)) (fun _ z => by cases z)⟩
    | _ => simp [bopF] at hf
  | fdiv =>
    cases d1 <;> cases d2 <;> simp only [bopF, reduceCtorEq, Option.ite_none_right_eq_some, Option.some.injEq] at hf
    obtain ⟨⟨hc1, hc2⟩, rfl⟩ := hf
    obtain rfl := h1.int
    obtain rfl := h2.int
    refine op_fdivW pins s σ H _ _ v u Q I rx ry ⟨_, _, rfl, rfl, wide_div (b := 64) hc1 ?_ (by decide) (by decide), q _ _ (.same (.int _)) (fun _ z => by cases z)⟩
    simp only [big] at hc2
    omega
  | mod =>
    cases d1 <;> cases d2 <;> simp only [bopF, reduceCtorEq, Option.ite_none_right_eq_some, Option.some.injEq] at hf
    obtain ⟨hc1, rfl⟩ := hf
    obtain rfl := h1.int
    obtain rfl := h2.int
    exact op_mod pins s σ H _ _ v u Q I rx ry ⟨_, _, rfl, rfl, hc1, q _ _ (.same (.int _)) (fun _ z => by cases z)⟩
  | pow =>
    cases d1 <;> cases d2 <;> simp only [bopF, reduceCtorEq, Option.ite_none_right_eq_some, Option.some.injEq] at hf
    obtain ⟨⟨hc1, hc2, hc3, hc4⟩, rfl⟩ := hf
    obtain rfl := h1.int
    obtain rfl := h2.int
    refine op_pow pins s σ H _ _ v u Q I rx ry ⟨_, _, rfl, rfl, ⟨hc1, by omega, ?_⟩, q _ _ (.same (.int _)) (fun _ z => by cases z)⟩
    simp only [big] at hc3 hc4
    omega
theorem pds_any (ds : List D) (f : PyData → Bool) : (D.pds ds).any f = ds.any fun d => f d.pd := by
  rw [pds_map, List.any_map]; rfl
theorem op_inT (hu : X.A.units + 65 < cLine) {P : Hp} {H : Hp} {x y : V} {d : D} {ds : List D} {pins : List (Addr × Obj)} {s : Shared} {σ : L2.St} {v u : Value} {Q : VK} (I : Inv X pins σ H s) (rx : RelV x v) (ry : RelV y u) (hd : Dp X.K H x d.pd) (he : Dp X.K H y (D.tup ds).pd)
    (sd : d.okD = true) (se : (D.tup ds).okD = true) (q : Q (.bl (ds.any fun z => deq z d)) H) : wpAny (model X.prog X.w) X.A (compareOp .In v u) (EP X pins σ Q) X.xe s := by
  obtain ⟨as, r1⟩ := Dp.reads I d.pd x v hd rx
  obtain ⟨bs, r2⟩ := Dp.reads I (D.tup ds).pd y u he ry
  unfold D.okD at sd se
  simp only [D.pd] at r2 se
  refine SeqAt.in_tuple_reads r2 r1 (SeqAt.canLay_of_shaped se) (SeqAt.canLay_of_shaped sd) (room_in_shaped sd hu) ⟨.bl _, H, I, rfl, ?_⟩
  rw [pds_any]; exact q
theorem op_notInT (hu : X.A.units + 65 < cLine) {P : Hp} {H : Hp} {x y : V} {d : D} {ds : List D} {pins : List (Addr × Obj)} {s : Shared} {σ : L2.St} {v u : Value} {Q : VK} (I : Inv X pins σ H s) (rx : RelV x v) (ry : RelV y u) (hd : Dp X.K H x d.pd) (he : Dp X.K H y (D.tup ds).pd)
    (sd : d.okD = true) (se : (D.tup ds).okD = true) (q : Q (.bl (!ds.any fun z => deq z d)) H) : wpAny (model X.prog X.w) X.A (compareOp .NotIn v u) (EP X pins σ Q) X.xe s := by
  obtain ⟨as, r1⟩ := Dp.reads I d.pd x v hd rx
  obtain ⟨bs, r2⟩ := Dp.reads I (D.tup ds).pd y u he ry
  unfold D.okD at sd se
  simp only [D.pd] at r2 se
  refine SeqAt.notIn_tuple_reads r2 r1 (SeqAt.canLay_of_shaped se) (SeqAt.canLay_of_shaped sd) (room_in_shaped sd hu) ⟨.bl _, H, I, rfl, ?_⟩
  rw [pds_any]; exact q
theorem rep_nonV {K : W.Frag} {P H : Hp} {d : D} {v : V} (h : RepB K P H d v) : decide (v = .non) = isNonD d := by
  rcases h with h | ⟨a, vs, ds, rfl, rfl, _⟩
  · cases h <;> simp [isNonD]
  · simp [isNonD]
theorem op_cmp (hu : X.A.units + 200 < cLine) (op : COp) : OpR X (compareOp op.o) (rCop X.K op) := by
  intro pins s σ H x y v u Q I rx ry h
  obtain ⟨P, d1, d2, b, e, h1, h2, hf, q⟩ := h
  cases op with
  | eq =>
    simp only [copF, Option.ite_none_right_eq_some, Option.some.injEq, Bool.and_eq_true] at hf
    obtain ⟨⟨o1, o2⟩, rfl⟩ := hf
    exact op_eqD (by omega) pins s σ H _ _ v u Q I rx ry ⟨_, _, h1.dp e (nob_ok o1), h2.dp e (nob_ok o2), o1, o2, q⟩
  | ne =>
    simp only [copF, Option.ite_none_right_eq_some, Option.some.injEq, Bool.and_eq_true] at hf
    obtain ⟨⟨o1, o2⟩, rfl⟩ := hf
    exact op_neD (by omega) pins s σ H _ _ v u Q I rx ry ⟨_, _, h1.dp e (nob_ok o1), h2.dp e (nob_ok o2), o1, o2, q⟩
  | lt =>
    cases d1 <;> cases d2 <;> simp only [copF, reduceCtorEq, Option.some.injEq] at hf
    · subst hf
      obtain rfl := h1.int
      obtain rfl := h2.int
      exact op_lt pins s σ H _ _ v u Q I rx ry ⟨_, _, rfl, rfl, q⟩
    · rename_i a c
      cases ea : ints? a with
      | none => rw [ea] at hf; simp at hf
      | some xs =>
        cases ec : ints? c with
        | none => rw [ea, ec] at hf; simp at hf
        | some ys =>
          rw [ea, ec] at hf
          simp only [Option.some.injEq] at hf
          subst hf
          obtain ⟨a1, vs1, rfl, g1, r1⟩ := h1.tup
          obtain ⟨a2, vs2, rfl, g2, r2⟩ := h2.tup
          rw [ints?_some ea] at r1
          rw [ints?_some ec] at r2
          rw [r1.intsV] at g1
          rw [r2.intsV] at g2
          exact op_ltT (by omega) pins s σ H _ _ v u Q I rx ry ⟨a1, a2, xs, ys, rfl, rfl, SqT.of (e _ _ g1), SqT.of (e _ _ g2), q⟩
  | le =>
    cases d1 <;> cases d2 <;> simp only [copF, reduceCtorEq, Option.some.injEq] at hf
    subst hf
    obtain rfl := h1.int
    obtain rfl := h2.int
    exact op_le pins s σ H _ _ v u Q I rx ry ⟨_, _, rfl, rfl, q⟩
  | gt =>
    cases d1 <;> cases d2 <;> simp only [copF, reduceCtorEq, Option.some.injEq] at hf
    subst hf
    obtain rfl := h1.int
    obtain rfl := h2.int
    exact op_gt pins s σ H _ _ v u Q I rx ry ⟨_, _, rfl, rfl, q⟩
  | ge =>
    cases d1 <;> cases d2 <;> simp only [copF, reduceCtorEq, Option.some.injEq] at hf
    subst hf
    obtain rfl := h1.int
    obtain rfl := h2.int
    exact op_ge pins s σ H _ _ v u Q I rx ry ⟨_, _, rfl, rfl, q⟩
  | isin =>
    cases d2 with
    | lst ds =>
      simp only [copF, Option.ite_none_right_eq_some, Option.some.injEq, Bool.and_eq_true] at hf
      obtain ⟨⟨o1, o2⟩, rfl⟩ := hf
      have g := h2.dp e (nob_ok o2)
      unfold D.okD at o1 o2
      simp only [D.pd] at g o2
      refine op_inD (by omega) pins s σ H _ _ v u Q I rx ry ⟨_, _, h1.dp e (nob_ok o1), g, o1, o2, ?_⟩
      rw [pds_any]; exact q
    | tup ds =>
      simp only [copF, Option.ite_none_right_eq_some, Option.some.injEq, Bool.and_eq_true] at hf
      obtain ⟨⟨o1, o2⟩, rfl⟩ := hf
      exact op_inT (P := P) (by omega) I rx ry (h1.dp e (nob_ok o1)) (h2.dp e (nob_ok o2)) o1 o2 q
    | str c =>
      cases d1 <;> simp only [copF, reduceCtorEq, Option.some.injEq] at hf
      subst hf
      obtain rfl := h1.str
      obtain rfl := h2.str
      exact op_in_str pins s σ H _ _ v u Q I rx ry ⟨_, _, rfl, rfl, q⟩
    | _ => simp [copF] at hf
  | notin =>
    cases d2 with
    | lst ds =>
      simp only [copF, Option.ite_none_right_eq_some, Option.some.injEq, Bool.and_eq_true] at hf
      obtain ⟨⟨o1, o2⟩, rfl⟩ := hf
      have g := h2.dp e (nob_ok o2)
      unfold D.okD at o1 o2
      simp only [D.pd] at g o2
      refine op_notInD (by omega) pins s σ H _ _ v u Q I rx ry ⟨_, _, h1.dp e (nob_ok o1), g, o1, o2, ?_⟩
      rw [pds_any]; exact q
    | tup ds =>
      simp only [copF, Option.ite_none_right_eq_some, Option.some.injEq, Bool.and_eq_true] at hf
      obtain ⟨⟨o1, o2⟩, rfl⟩ := hf
      exact op_notInT (P := P) (by omega) I rx ry (h1.dp e (nob_ok o1)) (h2.dp e (nob_ok o2)) o1 o2 q
    | _ => simp [copF] at hf
  | is =>
    cases d2 with
    | non =>
      simp only [copF, Option.some.injEq] at hf
      obtain rfl := h2.non
      refine op_isN pins s σ H _ _ v u Q I rx ry ⟨rfl, ?_⟩
      rw [rep_nonV h1, hf]; exact q
    | bl c =>
      cases d1 <;> simp only [copF, reduceCtorEq, Option.some.injEq] at hf
      subst hf
      obtain rfl := h1.bl
      obtain rfl := h2.bl
      exact op_isBl pins s σ H _ _ v u Q I rx ry ⟨_, _, rfl, rfl, q⟩
    | _ => simp [copF] at hf
  | isnot =>
    cases d2 with
    | non =>
      simp only [copF, Option.some.injEq] at hf
      obtain rfl := h2.non
      refine op_notN pins s σ H _ _ v u Q I rx ry ⟨rfl, ?_⟩
      have e2 : (!decide (x = V.non)) = b := by
        rw [rep_nonV h1, ← hf]
      rw [e2]; exact q
    | bl c =>
      cases d1 <;> simp only [copF, reduceCtorEq, Option.some.injEq] at hf
      subst hf
      obtain rfl := h1.bl
      obtain rfl := h2.bl
      exact op_notBl pins s σ H _ _ v u Q I rx ry ⟨_, _, rfl, rfl, q⟩
    | _ => simp [copF] at hf

/-! ### subscripts -/
def rIdx (K : W.Frag) : R2 := fun x y H Q => ∃ (P : Hp) (d1 d2 d : D), Ex P H ∧ RepB K P H d1 x ∧ RepB K P H d2 y ∧ idxF d1 d2 = some d ∧ ∀ v H', Res K P H d v H' → Q v H'
theorem atI_reps {K : W.Frag} {P : Hp} {ds : List D} {vs : List V} {i : Int} {d : D} (r : Reps K P ds vs) (h : atI ds i = some d) : ∃ v, atI vs i = some v ∧ Rep K P d v := by
  unfold atI at h ⊢
  rw [← r.length]
  cases e : ixN ds.length i with
  | none => rw [e] at h; simp at h
  | some j =>
    rw [e] at h
    simp only [Option.bind_some] at h ⊢
    exact r.get h
theorem atI_map {α β : Type} {f : α → β} {xs : List α} {i : Int} : atI (xs.map f) i = (atI xs i).map f := by
  unfold atI
  rw [List.length_map]
  cases ixN xs.length i <;> simp
theorem ix_data : IxR X (rIdx X.K) := by
  intro value slice pins s σ H x y v u Q I rx ry h hs
  obtain ⟨P, d1, d2, d, e, h1, h2, hf, q⟩ := h
  refine ix_seq value slice pins s σ H x y v u Q I rx ry ?_ hs
  cases d1 with
  | lst a =>
    cases d2 <;> simp only [idxF, reduceCtorEq] at hf
    obtain ⟨a1, vs1, rfl, g1, r1⟩ := h1.lst e
    obtain rfl := h2.int
    obtain ⟨w, hw, rw'⟩ := atI_reps r1 hf
    exact .inl ⟨a1, vs1, _, w, rfl, rfl, SqL.of g1, hw, q _ _ (.same rw')⟩
  | tup a =>
    cases d2 <;> simp only [idxF, reduceCtorEq] at hf
    obtain ⟨a1, vs1, rfl, g1, r1⟩ := h1.tup
    obtain rfl := h2.int
    obtain ⟨w, hw, rw'⟩ := atI_reps r1 hf
    exact .inr (.inl ⟨a1, vs1, _, w, rfl, rfl, SqT.of (e _ _ g1), hw, q _ _ (.same rw')⟩)
  | scr a =>
    cases d2 <;> simp only [idxF, reduceCtorEq, Option.map_eq_some_iff] at hf
    obtain ⟨n, hn, rfl⟩ := hf
    obtain ⟨a1, rfl, g1⟩ := h1.scr e
    obtain rfl := h2.int
    exact .inl ⟨a1, _, _, .int n, rfl, rfl, g1, by rw [atI_map, hn]; rfl, q _ _ (.same (.int n))⟩
  | str a =>
    cases d2 <;> simp only [idxF, reduceCtorEq, Option.ite_none_right_eq_some, Option.map_eq_some_iff] at hf
    obtain ⟨hl, n, hn, rfl⟩ := hf
    obtain rfl := h1.str
    obtain rfl := h2.int
    exact .inr (.inr ⟨a, _, n, rfl, rfl, by rw [← lim_eq]; exact hl, hn, q _ _ (.same (.str _))⟩)
  | _ => simp [idxF] at hf
def rSlc (K : W.Frag) : V → Option Int → Option Int → Hp → VK → Prop := fun x lo hi H Q => ∃ (P : Hp) (d1 d : D), Ex P H ∧ RepB K P H d1 x ∧ slcF d1 lo hi = some d ∧ ∀ v H', Res K P H d v H' → Q v H'
theorem cut_reps {K : W.Frag} {P : Hp} {ds : List D} {vs : List V} (r : Reps K P ds vs) (lo hi : Option Int) : Reps K P (cutD ds lo hi) (cutV vs lo hi) := by
  unfold cutD cutV
  rw [r.length]
  exact (r.drop _).take _
theorem cut_whole {α : Type} {xs : List α} {lo hi : Option Int} (h : HT.sIx xs.length 0 lo = 0 ∧ HT.sIx xs.length xs.length hi = xs.length) : cutD xs lo hi = xs := by
  unfold cutD
  rw [h.1, h.2]; simp
theorem sl_data : SlR X (rSlc X.K) := by
  intro pins s σ H x v vl vu lo hi sl Q I rx hs pl pu h
  obtain ⟨P, d1, d, e, h1, hf, q⟩ := h
  cases d1 with
  | lst a =>
    simp only [slcF, Option.some.injEq] at hf
    subst hf
    obtain ⟨a1, vs1, rfl, g1, r1⟩ := h1.lst e
    exact sl_list pins s σ H _ v vl vu lo hi sl Q I rx hs pl pu ⟨a1, vs1, rfl, SqL.of g1, fun p hp => q _ _ (.newL hp (cut_reps r1 lo hi))⟩
  | tup a =>
    simp only [slcF, Option.some.injEq] at hf
    subst hf
    obtain ⟨a1, vs1, rfl, g1, r1⟩ := h1.tup
    refine sl_tupA pins s σ H _ v vl vu lo hi sl Q I rx hs pl pu ⟨a1, vs1, rfl, SqT.of (e _ _ g1), fun z => ?_, fun _ p hp => q _ _ (.newT hp (cut_reps r1 lo hi))⟩
    rw [← r1.length] at z
    rw [cut_whole z] at q
    exact q _ _ (.same (.tup g1 r1))
  | str a =>
    simp only [slcF, Option.ite_none_right_eq_some, Option.some.injEq] at hf
    obtain ⟨hl, rfl⟩ := hf
    obtain rfl := h1.str
    exact sl_str pins s σ H _ v vl vu lo hi sl Q I rx hs pl pu ⟨a, rfl, by rw [← lim_eq]; exact hl, q _ _ (.same (.str _))⟩
  | _ => simp [slcF] at hf
end
end Cl
set_option Elab.async false
set_option linter.all false
set_option maxRecDepth 100000
set_option maxHeartbeats 4000000
namespace Cl
open PySem PySem.Spec PySem.Calls PyProof.Rows L2

/-! ### sorting -/
section
variable {prog : Program} {w : World} {A : Around} {E : Value → Shared → Prop} {s : Shared} {β : Type} {vs : List Value} {bs : List β} {enc : β → PyData} {R : Value → β → Prop}
theorem sorted_seq {it : Addr} {T : String} {o : Obj} {n : Nat} {Q : Value → Shared → Prop} (hT : T = "list" ∨ T = "tuple") (ho : s.heap.get? it = some o) (hc : o.cls = .type T) (hd : o.data = .seq vs.toArray n)
    (e : W.EachIs R vs bs) (er : W.EachIs (fun v b => ∃ as, Reads s.heap v (enc b) as) vs bs) (hal : W.AllAlike (bs.map enc)) (hk : W.Sortable (bs.map enc)) (hL : bs.length ≤ sizeLine)
    (hu : ∀ b, b ∈ bs → A.units + 2 + (enc b).depth < cLine)
    (h : ∀ (h1 hp : Heap) (a : Addr) (ep : Nat) (out : List Value), (∀ b o, s.heap.get? b = some o → h1.get? b = some o) → (∀ b o, h1.get? b = some o → hp.get? b = some o) → h1.objs.size ≤ a → hp.get? a = some { cls := .type "list", data := .seq out.toArray ep } → out.length = bs.length →
      W.EachIs R out (bs.mergeSort (W.dataLe false enc)) → Q (.ref a) { s with heap := hp }) :
    wpAny (model prog w) A (call (.builtin "sorted") [.ref it]) Q E s := by
  have hvl : vs.length ≤ sizeLine := by rw [e.length]; exact hL
  refine call_function_entry_kw kind_sorted plain_sorted entry_sorted (args_sorted1 _) ?_
  unfold Builtin.«sorted»
  refine wpAny_bind (m := checkCount "sorted" 1 1 _) (wpAny_pure ?_)
  refine wpAny_bind (wpAny_collect_seq it hT ho hc hd (fun h' k => ?_) (by rw [List.size_toArray]; exact hvl))
  rw [List.toList_toArray]
  refine wpAny_bind (wpAny_newList ?_ hvl)
  have hat : (h'.push (seqObj "list" vs.toArray 0)).get? h'.objs.size = some (seqObj "list" vs.toArray 0) := Heap.get?_push_size _ rfl
  have kp : ∀ b o, s.heap.get? b = some o → (h'.push (seqObj "list" vs.toArray 0)).get? b = some o := fun b o q => Heap.get?_push_of_some _ (k b o q)
  show wpAny _ _ _ _ _ { s with heap := h'.push (seqObj "list" vs.toArray 0) }
  refine wpAny_bind (wpAny_holding (wpAny_call_entry_kw slot_list_sort ⟨_, hat, rfl⟩ entry_list_sort ?body (args_list_sort _)))
  case body =>
    show wpAny (model prog w) A.in1.in1 (Builtin.«list.sort» ⟨[.ref h'.objs.size], []⟩) _ _ _
    have er' : W.EachIs (fun v b => ∃ as, Reads (W.sortingHeap (h'.push (seqObj "list" vs.toArray 0)) h'.objs.size vs) v (enc b) as) vs bs := er.mono fun _ _ ⟨as, r⟩ => ⟨as, PyProof.Rows.Reads.keeps (fun b o q => W.sortingHeap_old (fun z => by
      subst z
      exact absurd (Heap.lt_size (k _ _ q)) (Nat.lt_irrefl _)) (kp b o q)) r⟩
    refine wpAny_mono (W.list_sort_vals (s := { s with heap := h'.push (seqObj "list" vs.toArray 0) }) (P := fun f s' => f = .done (.ret .none) ∧ s' = { s with heap := sortedHeap (h'.push (seqObj "list" vs.toArray 0)) h'.objs.size vs (W.sortVals (W.dataKind (W.sortingHeap (h'.push (seqObj "list" vs.toArray 0)) h'.objs.size vs) (bs.map enc)) false vs vs).toArray })
      hat (W.SortsAt.data (s := { s with heap := W.sortingHeap (h'.push (seqObj "list" vs.toArray 0)) h'.objs.size vs }) (W.each_map (R := fun v d => ∃ as, Reads (W.sortingHeap (h'.push (seqObj "list" vs.toArray 0)) h'.objs.size vs) v d as) enc er') hal hk (W.bound_map hu)) hvl ⟨rfl, rfl⟩) (fun f s' hf => ?_) fun _ _ e => e
    obtain ⟨rfl, rfl⟩ := hf
    refine ⟨_, rfl, wpAny_pure ⟨_, rfl, ?_⟩⟩
    obtain ⟨ep, hep⟩ := sortedHeap_at (out := (W.sortVals (W.dataKind (W.sortingHeap (h'.push (seqObj "list" vs.toArray 0)) h'.objs.size vs) (bs.map enc)) false vs vs).toArray) hat
    refine h h' _ _ ep _ k (fun b o q => ?_) (Nat.le_refl _) hep (by rw [W.sortVals_length false rfl]; exact e.length) (W.sortVals_data false e er' hal)
    have q2 : (h'.push (seqObj "list" vs.toArray 0)).get? b = some o := Heap.get?_push_of_some _ q
    rw [sortedHeap_old (Nat.ne_of_lt (Heap.lt_size q)) (Heap.lt_size q2)]
    exact q2
end
end Cl
set_option Elab.async false
set_option linter.all false
set_option maxRecDepth 100000
set_option maxHeartbeats 4000000
namespace Cl
open PySem PySem.Spec PySem.Calls PyProof.Rows L2

/-! ### the insertion sort is the sort -/
section
variable {α : Type} {le : α → α → Bool}
theorem ins_mem {x z : α} : ∀ {l : List α}, z ∈ ins le x l ↔ z = x ∨ z ∈ l
  | [] => by simp [ins]
  | y :: r => by
    unfold ins
    split
    · simp
    · rw [List.mem_cons, ins_mem (l := r), List.mem_cons]
      constructor
      · rintro (h | h | h)
        · exact .inr (.inl h)
        · exact .inl h
        · exact .inr (.inr h)
      · rintro (h | h | h)
        · exact .inr (.inl h)
        · exact .inl h
        · exact .inr (.inr h)
theorem isort_mem {z : α} : ∀ {l : List α}, z ∈ isort le l ↔ z ∈ l
  | [] => by simp [isort]
  | y :: r => by
    unfold isort
    rw [ins_mem, isort_mem (l := r), List.mem_cons]
theorem ins_length {x : α} : ∀ {l : List α}, (ins le x l).length = l.length + 1
  | [] => rfl
  | y :: r => by
    unfold ins
    split
    · simp
    · simp [ins_length (l := r)]
theorem isort_length : ∀ {l : List α}, (isort le l).length = l.length
  | [] => rfl
  | y :: r => by
    unfold isort
    rw [ins_length, isort_length (l := r)]; rfl
theorem ins_perm {x : α} : ∀ {l : List α}, (ins le x l).Perm (x :: l)
  | [] => .refl _
  | y :: r => by
    unfold ins
    split
    · exact .refl _
    · exact (List.Perm.cons y (ins_perm (l := r))).trans (List.Perm.swap x y r)
theorem isort_perm : ∀ {l : List α}, (isort le l).Perm l
  | [] => .refl _
  | y :: r => by
    unfold isort
    exact ins_perm.trans (List.Perm.cons y (isort_perm (l := r)))
theorem ins_sorted (tr : ∀ a b c, le a b = true → le b c = true → le a c = true) (tt : ∀ a b, (le a b || le b a) = true) {x : α} : ∀ {l : List α}, l.Pairwise (fun a b => le a b = true) → (ins le x l).Pairwise (fun a b => le a b = true)
  | [], _ => by simp [ins]
  | y :: r, h => by
    unfold ins
    obtain ⟨h1, h2⟩ := List.pairwise_cons.mp h
    split
    · rename_i q
      refine List.pairwise_cons.mpr ⟨fun z hz => ?_, h⟩
      rcases List.mem_cons.mp hz with rfl | hz
      · exact q
      · exact tr _ _ _ q (h1 z hz)
    · rename_i q
      refine List.pairwise_cons.mpr ⟨fun z hz => ?_, ins_sorted tr tt h2⟩
      rcases ins_mem.mp hz with rfl | hz
      · have := tt y z
        simp only [Bool.or_eq_true] at this
        rcases this with t | t
        · exact t
        · exact absurd t q
      · exact h1 z hz
theorem isort_sorted (tr : ∀ a b c, le a b = true → le b c = true → le a c = true) (tt : ∀ a b, (le a b || le b a) = true) : ∀ {l : List α}, (isort le l).Pairwise (fun a b => le a b = true)
  | [] => .nil
  | y :: r => by
    unfold isort
    exact ins_sorted tr tt (isort_sorted tr tt (l := r))
theorem ins_filter (tr : ∀ a b c, le a b = true → le b c = true → le a c = true) (z x : α) : ∀ l : List α, (ins le x l).filter (W.Srt.alike le z) = (x :: l).filter (W.Srt.alike le z)
  | [] => rfl
  | y :: r => by
    unfold ins
    split
    · rfl
    · rename_i q
      rw [List.filter_cons, ins_filter tr z x r, List.filter_cons (x := x) (xs := y :: r), List.filter_cons (x := y) (xs := r), List.filter_cons (x := x) (xs := r)]
      by_cases hx : W.Srt.alike le z x = true
      · by_cases hy : W.Srt.alike le z y = true
        · exfalso
          unfold W.Srt.alike at hx hy
          rw [Bool.and_eq_true] at hx hy
          exact q (tr _ _ _ hx.2 hy.1)
        · simp [hy]
      · simp [hx]
theorem isort_filter (tr : ∀ a b c, le a b = true → le b c = true → le a c = true) (z : α) : ∀ l : List α, (isort le l).filter (W.Srt.alike le z) = l.filter (W.Srt.alike le z)
  | [] => rfl
  | y :: r => by
    unfold isort
    rw [ins_filter tr, List.filter_cons, isort_filter tr z r, List.filter_cons]
theorem isort_merge (tr : ∀ a b c, le a b = true → le b c = true → le a c = true) (tt : ∀ a b, (le a b || le b a) = true) (l : List α) : isort le l = l.mergeSort le :=
  W.Srt.the le tr tt (isort_sorted tr tt) fun z => isort_filter tr z l
end
theorem dle_eq : dle = W.dataLe false D.pd := rfl
theorem dle_trans (a b c : D) : dle a b = true → dle b c = true → dle a c = true := (W.sortLe_total (listOrd itemOrd) false fun d : D => W.keyToks d.pd).trans a b c
theorem dle_total (a b : D) : (dle a b || dle b a) = true := by
  rw [Bool.or_eq_true]
  exact (W.sortLe_total (listOrd itemOrd) false fun d : D => W.keyToks d.pd).total a b
theorem isort_dle (ds : List D) : isort dle ds = ds.mergeSort (W.dataLe false D.pd) := by
  rw [← dle_eq]; exact isort_merge dle_trans dle_total ds

/-! ### built-in calls, by data -/
def RepBs (K : W.Frag) (P H : Hp) : List D → List V → Prop := Paired (RepB K P H)
def rBi (K : W.Frag) (b : Bi) : List V → Hp → VK → Prop := fun vs H Q => ∃ (P : Hp) (ds : List D) (d : D), Ex P H ∧ RepBs K P H ds vs ∧ biF b ds = some d ∧ ∀ v H', Res K P H d v H' → Q v H'
def Bi.x : Bi → Str
  | .len => "len"
  | .sum => "sum"
  | .min => "min"
  | .max => "max"
  | .all => "all"
  | .any => "any"
  | .tuple => "tuple"
  | .list => "list"
  | .sorted => "sorted"
  | .int => "int"
def Bi.v : Bi → Value
  | .len => .builtin "len"
  | .sum => .builtin "sum"
  | .min => .builtin "min"
  | .max => .builtin "max"
  | .all => .builtin "all"
  | .any => .builtin "any"
  | .tuple => .type "tuple"
  | .list => .type "list"
  | .sorted => .builtin "sorted"
  | .int => .type "int"
theorem Bi.boot (b : Bi) : bootBuiltins b.x = some b.v := by cases b <;> decide +kernel
theorem one_of {K : W.Frag} {P H : Hp} {d : D} {vs : List V} (h : RepBs K P H [d] vs) : ∃ v, vs = [v] ∧ RepB K P H d v := by
  cases h with
  | cons h1 h2 => cases h2; exact ⟨_, rfl, h1⟩
theorem two_of {K : W.Frag} {P H : Hp} {d e : D} {vs : List V} (h : RepBs K P H [d, e] vs) : ∃ v u, vs = [v, u] ∧ RepB K P H d v ∧ RepB K P H e u := by
  cases h with
  | cons h1 h2 =>
    cases h2 with
    | cons h3 h4 => cases h4; exact ⟨_, _, rfl, h1, h3⟩
theorem maxI_mem : ∀ (r : List Int) (x : Int), maxI x r ∈ x :: r ∧ ∀ y ∈ x :: r, y ≤ maxI x r
  | [], x => by simp [maxI]
  | y :: r, x => by
    obtain ⟨h1, h2⟩ := maxI_mem r (if x < y then y else x)
    have e : maxI x (y :: r) = maxI (if x < y then y else x) r := rfl
    rw [e]
    have hm : x ≤ (if x < y then y else x) ∧ y ≤ (if x < y then y else x) := by split <;> omega
    refine ⟨?_, fun z hz => ?_⟩
    · rcases List.mem_cons.mp h1 with h | h
      · rw [h]
        split <;> simp
      · exact List.mem_cons_of_mem _ (List.mem_cons_of_mem _ h)
    · have h3 := h2 _ (List.mem_cons_self)
      rcases List.mem_cons.mp hz with rfl | hz
      · omega
      · rcases List.mem_cons.mp hz with rfl | hz
        · omega
        · exact h2 z (List.mem_cons_of_mem _ hz)
mutual
theorem pd_inj : ∀ (d e : D), d.plain = true → e.plain = true → d.pd = e.pd → d = e
  | .non, e, _, he, h => by cases e <;> simp_all [D.pd, D.plain]
  | .bl b, e, _, he, h => by cases e <;> simp_all [D.pd, D.plain]
  | .int b, e, _, he, h => by cases e <;> simp_all [D.pd, D.plain]
  | .str b, e, _, he, h => by cases e <;> simp_all [D.pd, D.plain]
  | .scr b, e, hd, he, h => by simp [D.plain] at hd
  | .obj b, e, hd, he, h => by simp [D.plain] at hd
  | .tup ds, e, hd, he, h => by
    cases e <;> simp only [D.pd, D.plain, reduceCtorEq, PyData.tuple.injEq] at h hd he
    rw [pds_inj ds _ hd he h]
  | .lst ds, e, hd, he, h => by
    cases e <;> simp only [D.pd, D.plain, reduceCtorEq, PyData.list.injEq, Bool.false_eq_true] at h hd he
    rw [pds_inj ds _ hd he h]
theorem pds_inj : ∀ (ds es : List D), D.plains ds = true → D.plains es = true → D.pds ds = D.pds es → ds = es
  | [], es, _, _, h => by cases es <;> simp_all [D.pds]
  | d :: ds, es, hd, he, h => by
    cases es with
    | nil => simp [D.pds] at h
    | cons e es =>
      simp only [D.pds, List.cons.injEq, D.plains, Bool.and_eq_true] at h hd he
      rw [pd_inj d e hd.1 he.1 h.1, pds_inj ds es hd.2 he.2 h.2]
end
theorem minDD_mem : ∀ (r : List D) (x : D), minDD x r ∈ x :: r
  | [], x => by simp [minDD]
  | y :: r, x => by
    have e : minDD x (y :: r) = minDD (if W.dataLt y.pd x.pd then y else x) r := rfl
    rw [e]
    rcases List.mem_cons.mp (minDD_mem r (if W.dataLt y.pd x.pd then y else x)) with h | h
    · rw [h]; split <;> simp
    · exact List.mem_cons_of_mem _ (List.mem_cons_of_mem _ h)
theorem minDD_pd : ∀ (r : List D) (x : D), (minDD x r).pd = W.minD x.pd (D.pds r)
  | [], x => rfl
  | y :: r, x => by
    have e : minDD x (y :: r) = minDD (if W.dataLt y.pd x.pd then y else x) r := rfl
    rw [e, minDD_pd r]
    unfold W.minD
    rw [D.pds, List.foldl_cons]
    split <;> rfl
theorem depthAll_le {n : Nat} : ∀ ds : List D, (∀ d ∈ ds, d.pd.depth ≤ n) → PyData.depthAll (D.pds ds) ≤ n
  | [], _ => by simp [D.pds, PyData.depthAll]
  | d :: ds, h => by
    simp only [D.pds, PyData.depthAll]
    have h1 := h d (List.mem_cons_self)
    have h2 := depthAll_le ds fun e he => h e (List.mem_cons_of_mem _ he)
    omega
theorem okSort_alike {ds : List D} (h : okSort ds = true) : W.AllAlike (ds.map D.pd) := by
  unfold okSort at h
  simp only [Bool.and_eq_true, List.all_eq_true, decide_eq_true_eq] at h
  intro x hx y hy
  obtain ⟨d, hd, rfl⟩ := List.mem_map.mp hx
  obtain ⟨e, he, rfl⟩ := List.mem_map.mp hy
  exact h.1.1 d hd e he
theorem okSort_nob {ds : List D} (h : okSort ds = true) : D.nobs ds = true := by
  have h1 := okSort_alike h
  have gen : ∀ l : List D, (∀ d ∈ l, W.alike d.pd d.pd = true) → D.nobs l = true := fun l => by
    induction l with
    | nil => intro _; rfl
    | cons d l ih =>
      intro hl
      simp only [D.nobs, nob_alike d (hl d List.mem_cons_self), ih fun e he => hl e (List.mem_cons_of_mem _ he), Bool.and_true]
  exact gen ds fun d hd => h1 _ (List.mem_map.mpr ⟨d, hd, rfl⟩) _ (List.mem_map.mpr ⟨d, hd, rfl⟩)
theorem nobs_mem : ∀ {ds : List D} {d : D}, D.nobs ds = true → d ∈ ds → d.nob = true
  | d' :: ds, d, h, hm => by
    simp only [D.nobs, Bool.and_eq_true] at h
    rcases List.mem_cons.mp hm with rfl | hm
    · exact h.1
    · exact nobs_mem h.2 hm
theorem okSort_depth {ds : List D} (h : okSort ds = true) : ∀ d ∈ ds, d.pd.depth ≤ 8 := by
  unfold okSort at h
  simp only [Bool.and_eq_true, List.all_eq_true, decide_eq_true_eq] at h
  exact h.1.2
theorem okSort_sortable {ds : List D} (h : okSort ds = true) : W.Sortable (ds.map D.pd) := by
  unfold okSort at h
  simp only [Bool.and_eq_true, Bool.or_eq_true, List.all_eq_true, decide_eq_true_eq] at h
  rcases h.2 with h | h
  · refine .inl fun x hx => ?_
    obtain ⟨d, hd, rfl⟩ := List.mem_map.mp hx
    have := h d hd
    cases d with
    | tup xs =>
      cases xs with
      | nil => simp at this
      | cons a r => exact ⟨a.pd, D.pds r, by simp [D.pd, D.pds]⟩
    | _ => simp at this
  · refine .inr fun x hx => ?_
    obtain ⟨d, hd, rfl⟩ := List.mem_map.mp hx
    have := h d hd
    cases d with
    | int i => simp [D.pd]
    | _ => simp at this
theorem okSort_nonone {ds : List D} (h : okSort ds = true) : ∀ x ∈ ds.map D.pd, x ≠ .none := by
  unfold okSort at h
  simp only [Bool.and_eq_true, Bool.or_eq_true, List.all_eq_true, decide_eq_true_eq] at h
  intro x hx
  obtain ⟨d, hd, rfl⟩ := List.mem_map.mp hx
  rcases h.2 with h | h
  · have := h d hd
    cases d <;> simp_all [D.pd]
  · have := h d hd
    cases d <;> simp_all [D.pd]
section
variable {X : Cx} {pins : List (Addr × Obj)} {σ : L2.St} {H : Hp} {s : Shared}
theorem each_reps {K : W.Frag} {P : Hp} : ∀ {ds : List D} {vs : List V} {us : List Value}, Reps K P ds vs → Vals vs us → W.EachIs (fun u d => ∃ x, RelV x u ∧ Rep K P d x) us ds
  | _, _, _, .nil, .nil => .nil
  | _, _, _, .cons r t, .cons q u => .cons ⟨_, q, r⟩ (each_reps t u)
theorem each_reads (I : Inv X pins σ H s) {P : Hp} (e : Ex P H) : ∀ {ds : List D} {vs : List V} {us : List Value}, D.nobs ds = true → Reps X.K P ds vs → Vals vs us → W.EachIs (fun u d => ∃ as, Reads s.heap u (D.pd d) as) us ds
  | _, _, _, _, .nil, .nil => .nil
  | _, _, _, n, .cons r t, .cons q u => by
    simp only [D.nobs, Bool.and_eq_true] at n
    exact .cons (Dp.reads I _ _ _ (r.dp e _ _ n.1) q) (each_reads I e n.2 t u)
theorem reps_each {K : W.Frag} {P : Hp} : ∀ {us : List Value} {ds : List D}, W.EachIs (fun u d => ∃ x, RelV x u ∧ Rep K P d x) us ds → ∃ vs, Vals vs us ∧ Reps K P ds vs
  | _, _, .nil => ⟨[], .nil, .nil⟩
  | _, _, .cons ⟨x, h1, h2⟩ t => by
    obtain ⟨vs, a, b⟩ := reps_each t
    exact ⟨x :: vs, .cons h1 a, .cons h2 b⟩
theorem sorted_run (hu : X.A.units + 200 < cLine) {P : Hp} {ds : List D} {vs : List V} {us : List Value} {a : Addr} {T : String} {o : Obj} {n : Nat} {Q : VK} (I : Inv X pins σ H s) (e : Ex P H) (hT : T = "list" ∨ T = "tuple") (ho : s.heap.get? a = some o) (hc : o.cls = .type T) (hd : o.data = .seq us.toArray n)
    (r : Reps X.K P ds vs) (rv : Vals vs us) (ok : okSort ds = true) (hl : ds.length ≤ lim) (q : ∀ v H', Res X.K P H (.lst (isort dle ds)) v H' → Q v H') : wpAny (model X.prog X.w) X.A (call (.builtin "sorted") [.ref a]) (EP X pins σ Q) X.xe s := by
  refine sorted_seq (enc := D.pd) (R := fun u d => ∃ x, RelV x u ∧ Rep X.K P d x) hT ho hc hd (each_reps r rv) (each_reads I e (okSort_nob ok) r rv) (okSort_alike ok) (okSort_sortable ok) (by rw [← lim_eq]; exact hl) (fun b hb => by have := okSort_depth ok b hb; omega) fun h1 hp p ep out k1 k2 hsz hat hlen he => ?_
  rw [← isort_dle] at he
  obtain ⟨ws, w1, w2⟩ := reps_each he
  have I1 : Inv X pins σ H { s with heap := h1 } := I.kept (t' := s.toks) k1
  have hz : ws.length ≤ sizeLine := by rw [← w2.length, isort_length, ← lim_eq]; exact hl
  have I2 : Inv X pins σ (upd H p (.lst ws)) { s with heap := hp } := I1.laid (t' := s.toks) k2 hsz ⟨hz, out, ep, w1, hat⟩
  exact ⟨.ref p, _, I2, rfl, q _ _ (.newL (I1.hok.fresh hsz) w2)⟩
theorem min_run (hc : X.calm = true) (hu : X.A.units + 200 < cLine) {P : Hp} {x : D} {r : List D} {vs : List V} {a : Addr} {Q : VK} (I : Inv X pins σ H s) (e : Ex P H) (ha : H a = some (.lst vs)) (rr : Reps X.K P (x :: r) vs) (ok : okSort (x :: r) = true) (pl : (x :: r).all D.plain = true)
    (q : ∀ v H', Res X.K P H (minDD x r) v H' → Q v H') : wpAny (model X.prog X.w) X.A (call (.builtin "min") [.ref a]) (EP X pins σ Q) X.xe s := by
  obtain ⟨its, rv, hp, hz⟩ := I.list (SqL.of (K := X.K) ha)
  obtain ⟨as, hr⟩ := Dp.readsAll I _ _ its (rr.dp e _ _ (okSort_nob ok)) rv
  simp only [D.pds] at hr
  have hdep : PyData.depthAll (x.pd :: D.pds r) ≤ 8 := by
    have := depthAll_le (n := 8) (x :: r) (okSort_depth ok)
    simpa only [D.pds] using this
  refine W.min_list_data (I.ok.hd hc) hp.isList (by simpa using hr) ⟨?_, ?_⟩ (by omega) fun i v h' tk bs hv hrd k => ?_
  · have := okSort_alike ok
    rw [List.map_cons, ← pds_map] at this
    exact this
  · have := okSort_nonone ok
    rw [List.map_cons, ← pds_map] at this
    exact this
  · have hv' : its[i]? = some v := by simpa using hv
    have hil : i < vs.length := by rw [rv.length]; exact (List.getElem?_eq_some_iff.mp hv').1
    obtain ⟨u, hu1, hu2⟩ := rv.get (i := i) (x := vs[i]) (List.getElem?_eq_getElem hil)
    rw [hv'] at hu1
    cases hu1
    obtain ⟨d, hd, hdr⟩ := rr.getV (List.getElem?_eq_getElem hil)
    obtain ⟨cs, rd⟩ := Dp.reads I _ _ _ (hdr.dp e _ _ (nobs_mem (okSort_nob ok) (List.mem_of_getElem? hd))) hu2
    have e1 := (Reads.unique (PyProof.Rows.Reads.keeps k rd) _ _ hrd).1
    rw [← minDD_pd] at e1
    have pm : ∀ z ∈ x :: r, z.plain = true := List.all_eq_true.mp pl
    have ed : d = minDD x r := pd_inj _ _ (pm d (List.mem_of_getElem? hd)) (pm _ (minDD_mem r x)) e1
    rw [ed] at hdr
    exact ⟨vs[i], H, I.kept (t' := tk) k, hu2, q _ _ (.same hdr)⟩
theorem one_arg {b : Bi} (hb : b ≠ .min ∧ b ≠ .max) {ds : List D} {d : D} (h : biF b ds = some d) : ∃ d1, ds = [d1] := by
  cases ds with
  | nil => cases b <;> simp [biF] at h
  | cons d1 r =>
    cases r with
    | nil => exact ⟨d1, rfl⟩
    | cons _ _ => cases b <;> first | (simp [biF] at h; done) | exact absurd rfl hb.1 | exact absurd rfl hb.2
theorem mm_arg {b : Bi} (hb : b = .min ∨ b = .max) {ds : List D} {d : D} (h : biF b ds = some d) : (∃ d1, ds = [d1]) ∨ ∃ d1 d2, ds = [d1, d2] := by
  cases ds with
  | nil => cases b <;> simp [biF] at h
  | cons d1 r =>
    cases r with
    | nil => exact .inl ⟨d1, rfl⟩
    | cons d2 r =>
      cases r with
      | nil => exact .inr ⟨d1, d2, rfl⟩
      | cons _ _ => cases b <;> simp [biF] at h
theorem cr_bi (hc : X.calm = true) (hu : X.A.units + 200 < cLine) (b : Bi) : CallR X b.v (rBi X.K b) := by
  intro pins s σ H xs us Q I rv h
  obtain ⟨P, ds, d, e, hr, hf, q⟩ := h
  cases b with
  | len =>
    cases ds with
    | nil => simp [biF] at hf
    | cons d1 rest =>
      cases rest with
      | cons _ _ => simp [biF] at hf
      | nil =>
        obtain ⟨v, rfl, h1⟩ := one_of hr
        cases d1 with
        | tup a =>
          simp only [biF, Option.some.injEq] at hf; subst hf
          obtain ⟨a1, vs1, rfl, g1, r1⟩ := h1.tup
          refine call_len_seq pins s σ H _ us Q I rv ⟨a1, vs1, rfl, .inr (SqT.of (e _ _ g1)), ?_⟩
          rw [← r1.length]; exact q _ _ (.same (.int _))
        | lst a =>
          simp only [biF, Option.some.injEq] at hf; subst hf
          obtain ⟨a1, vs1, rfl, g1, r1⟩ := h1.lst e
          refine call_len_seq pins s σ H _ us Q I rv ⟨a1, vs1, rfl, .inl (SqL.of g1), ?_⟩
          rw [← r1.length]; exact q _ _ (.same (.int _))
        | scr a =>
          simp only [biF, Option.some.injEq] at hf; subst hf
          obtain ⟨a1, rfl, g1⟩ := h1.scr e
          refine call_len_seq pins s σ H _ us Q I rv ⟨a1, _, rfl, .inl g1, ?_⟩
          rw [List.length_map]; exact q _ _ (.same (.int _))
        | str a =>
          simp only [biF, Option.ite_none_right_eq_some, Option.some.injEq] at hf
          obtain ⟨hl, rfl⟩ := hf
          obtain rfl := h1.str
          exact call_len_str pins s σ H _ us Q I rv ⟨a, rfl, by rw [← lim_eq]; exact hl, q _ _ (.same (.int _))⟩
        | _ => simp [biF] at hf
  | sum =>
    obtain ⟨d1, rfl⟩ := one_arg (by decide) hf
    obtain ⟨v, rfl, h1⟩ := one_of hr
    cases d1 <;> simp only [biF, reduceCtorEq, Option.map_eq_some_iff] at hf
    obtain ⟨ns, hn, rfl⟩ := hf
    obtain ⟨a1, vs1, rfl, g1, r1⟩ := h1.lst e
    rw [ints?_some hn] at r1
    rw [r1.intsV] at g1
    exact cr_sum hc pins s σ H _ us Q I rv ⟨a1, ns, rfl, SqL.of g1, q _ _ (.same (.int _))⟩
  | all =>
    obtain ⟨d1, rfl⟩ := one_arg (by decide) hf
    obtain ⟨v, rfl, h1⟩ := one_of hr
    cases d1 <;> simp only [biF, reduceCtorEq, Option.map_eq_some_iff] at hf
    obtain ⟨ns, hn, rfl⟩ := hf
    obtain ⟨a1, vs1, rfl, g1, r1⟩ := h1.lst e
    rw [bools?_some hn] at r1
    rw [r1.blsV] at g1
    exact cr_all hc pins s σ H _ us Q I rv ⟨a1, ns, rfl, SqL.of g1, q _ _ (.same (.bl _))⟩
  | any =>
    obtain ⟨d1, rfl⟩ := one_arg (by decide) hf
    obtain ⟨v, rfl, h1⟩ := one_of hr
    cases d1 <;> simp only [biF, reduceCtorEq, Option.map_eq_some_iff] at hf
    obtain ⟨ns, hn, rfl⟩ := hf
    obtain ⟨a1, vs1, rfl, g1, r1⟩ := h1.lst e
    rw [bools?_some hn] at r1
    rw [r1.blsV] at g1
    exact cr_any hc pins s σ H _ us Q I rv ⟨a1, ns, rfl, SqL.of g1, q _ _ (.same (.bl _))⟩
  | tuple =>
    obtain ⟨d1, rfl⟩ := one_arg (by decide) hf
    obtain ⟨v, rfl, h1⟩ := one_of hr
    cases d1 <;> simp only [biF, reduceCtorEq, Option.some.injEq] at hf
    · subst hf
      obtain ⟨a1, vs1, rfl, g1, r1⟩ := h1.tup
      exact call_tuple_of pins s σ H _ us Q I rv ⟨a1, vs1, rfl, .inr ⟨SqT.of (e _ _ g1), q _ _ (.same (.tup g1 r1))⟩⟩
    · subst hf
      obtain ⟨a1, vs1, rfl, g1, r1⟩ := h1.lst e
      exact call_tuple_of pins s σ H _ us Q I rv ⟨a1, vs1, rfl, .inl ⟨SqL.of g1, fun l hl => q _ _ (.newT hl r1)⟩⟩
  | list =>
    obtain ⟨d1, rfl⟩ := one_arg (by decide) hf
    obtain ⟨v, rfl, h1⟩ := one_of hr
    cases d1 <;> simp only [biF, reduceCtorEq, Option.some.injEq] at hf
    · subst hf
      obtain ⟨a1, vs1, rfl, g1, r1⟩ := h1.tup
      exact call_list_of pins s σ H _ us Q I rv ⟨a1, vs1, rfl, .inr (SqT.of (e _ _ g1)), fun l hl => q _ _ (.newL hl r1)⟩
    · subst hf
      obtain ⟨a1, vs1, rfl, g1, r1⟩ := h1.lst e
      exact call_list_of pins s σ H _ us Q I rv ⟨a1, vs1, rfl, .inl (SqL.of g1), fun l hl => q _ _ (.newL hl r1)⟩
  | sorted =>
    obtain ⟨d1, rfl⟩ := one_arg (by decide) hf
    obtain ⟨v, rfl, h1⟩ := one_of hr
    cases d1 <;> simp only [biF, reduceCtorEq, Option.ite_none_right_eq_some, Option.some.injEq, Bool.and_eq_true, decide_eq_true_eq] at hf
    · obtain ⟨⟨ok, hl⟩, rfl⟩ := hf
      obtain ⟨a1, vs1, rfl, g1, r1⟩ := h1.tup
      obtain ⟨its, r', ⟨o, ho, hcl, n, hd⟩, hz⟩ := I.tuple (SqT.of (K := X.K) (e _ _ g1))
      rw [Vals.ref1 rv]
      exact sorted_run hu I e (.inr rfl) ho hcl hd r1 r' ok hl q
    · obtain ⟨⟨ok, hl⟩, rfl⟩ := hf
      obtain ⟨a1, vs1, rfl, g1, r1⟩ := h1.lst e
      obtain ⟨its, r', ⟨o, n, ho, hcl, _, hd⟩, hz⟩ := I.list (SqL.of (K := X.K) g1)
      rw [Vals.ref1 rv]
      exact sorted_run hu I e (.inl rfl) ho hcl hd r1 r' ok hl q
  | int =>
    obtain ⟨d1, rfl⟩ := one_arg (by decide) hf
    obtain ⟨v, rfl, h1⟩ := one_of hr
    cases d1 <;> simp only [biF, reduceCtorEq, Option.some.injEq] at hf
    subst hf
    obtain rfl := h1.int
    exact call_int1 pins s σ H _ us Q I rv (.inl ⟨_, rfl, q _ _ (.same (.int _))⟩)
  | min =>
    rcases mm_arg (.inl rfl) hf with ⟨d1, rfl⟩ | ⟨d1, d2, rfl⟩
    · obtain ⟨v, rfl, h1⟩ := one_of hr
      cases d1 <;> simp only [biF, reduceCtorEq] at hf
      rename_i a
      cases a with
      | nil => simp at hf
      | cons x r =>
        simp only [Option.ite_none_right_eq_some, Option.some.injEq, Bool.and_eq_true] at hf
        obtain ⟨⟨ok, pl⟩, rfl⟩ := hf
        obtain ⟨a1, vs1, rfl, g1, r1⟩ := h1.lst e
        rw [Vals.ref1 rv]
        exact min_run hc hu I e g1 r1 ok pl q
    · obtain ⟨v, u, rfl, h1, h2⟩ := two_of hr
      cases d1 <;> cases d2 <;> simp only [biF, reduceCtorEq, Option.some.injEq] at hf
      subst hf
      obtain rfl := h1.int
      obtain rfl := h2.int
      exact call_min2 hc pins s σ H _ us Q I rv ⟨_, _, rfl, q _ _ (.same (.int _))⟩
  | max =>
    rcases mm_arg (.inr rfl) hf with ⟨d1, rfl⟩ | ⟨d1, d2, rfl⟩
    · obtain ⟨v, rfl, h1⟩ := one_of hr
      cases d1 <;> simp only [biF, reduceCtorEq] at hf
      rename_i a
      cases hn : ints? a with
      | none => rw [hn] at hf; simp at hf
      | some ns =>
        rw [hn] at hf
        cases ns with
        | nil => simp at hf
        | cons x r =>
          simp only [Option.some.injEq] at hf
          subst hf
          obtain ⟨a1, vs1, rfl, g1, r1⟩ := h1.lst e
          rw [ints?_some hn] at r1
          rw [r1.intsV] at g1
          refine cr_max hc pins s σ H _ us Q I rv ⟨a1, x :: r, rfl, SqL.of g1, by simp, fun m hm1 hm2 => ?_⟩
          obtain ⟨k1, k2⟩ := maxI_mem r x
          have := hm2 _ k1
          have := k2 _ hm1
          rw [show m = maxI x r by omega]
          exact q _ _ (.same (.int _))
    · obtain ⟨v, u, rfl, h1, h2⟩ := two_of hr
      cases d1 <;> cases d2 <;> simp only [biF, reduceCtorEq, Option.some.injEq] at hf
      subst hf
      obtain rfl := h1.int
      obtain rfl := h2.int
      exact call_max2 hc pins s σ H _ us Q I rv ⟨_, _, rfl, q _ _ (.same (.int _))⟩
end
end Cl
set_option Elab.async false
set_option linter.all false
set_option maxRecDepth 100000
set_option maxHeartbeats 4000000
namespace Cl
open PySem PySem.Spec PyProof.Rows L2 RZ HT
/-! ### t[::-1] of a tuple -/
section
variable {prog : Program} {w : World} {A : Around} {E : Value → Shared → Prop} {s : Shared}
theorem adjust_rev (n : Nat) : Builtin.Slice.sliceAdjust none none (-1) (n : Int) = ((n : Int) - 1, -1) := rfl
theorem places_rev (n : Nat) : Builtin.Slice.slicePlaces ((n : Int) - 1) (-1) (-1) = n := by
  unfold Builtin.Slice.slicePlaces
  rw [if_neg (by decide)]
  by_cases h : n = 0
  · subst h; rfl
  · rw [if_pos (by omega), show (-(-1) : Int) = 1 from rfl, Int.ediv_one]
    omega
theorem fm_congr {α β : Type} {f g : α → Option β} : ∀ {l : List α}, (∀ x ∈ l, f x = g x) → l.filterMap f = l.filterMap g
  | [], _ => rfl
  | a :: l, h => by
    rw [List.filterMap_cons, List.filterMap_cons, h a (List.mem_cons_self ..), fm_congr fun x hx => h x (List.mem_cons_of_mem _ hx)]
theorem pick_rev (xs : Array Value) : ((List.range xs.size).filterMap fun (m : Nat) => xs[(((xs.size : Nat) : Int) - 1 + (m : Int) * (-1)).toNat]?).toArray = xs.toList.reverse.toArray := by
  congr 1
  have e : ((List.range xs.size).filterMap fun (m : Nat) => xs[(((xs.size : Nat) : Int) - 1 + (m : Int) * (-1)).toNat]?) = (List.range xs.size).filterMap fun m => xs.toList.reverse[m]? := by
    refine fm_congr fun m hm => ?_
    have hm' : m < xs.size := List.mem_range.mp hm
    rw [List.getElem?_reverse (by simpa using hm'), Array.getElem?_toList, Array.length_toList]
    congr 1
    omega
  rw [e]
  refine List.ext_getElem? fun i => ?_
  have q : ∀ (l : List Value), (List.range l.length).filterMap (fun m => l[m]?) = l := fun l => by
    induction l with
    | nil => rfl
    | cons x l ih =>
      rw [List.length_cons, List.range_succ_eq_map, List.filterMap_cons]
      simp only [List.getElem?_cons_zero]
      rw [List.filterMap_map]
      congr 1
  have := q xs.toList.reverse
  rw [List.length_reverse, Array.length_toList] at this
  rw [this]
theorem getItem_tuple_rev {t sl : Addr} {items : Array Value} {vs : Value} {Q : Value → Shared → Prop} (ht : IsTup s.heap t items) (hs : s.heap.IsSliceOf sl .none .none vs) (ps : IsPart vs (some (-1)))
    (h : Q (.ref s.heap.objs.size) { s with heap := s.heap.push { cls := .type "tuple", data := .seq items.toList.reverse.toArray } })
    (hsz : items.size ≤ sizeLine) : wpAny (model prog w) A (getItem (.ref t) (.ref sl)) Q E s := by
  have htake : sizeOk (.seq items.toList.reverse.toArray) := by
    show items.toList.reverse.toArray.size ≤ sizeLine
    rw [List.size_toArray, List.length_reverse, Array.length_toList]
    exact hsz
  obtain ⟨os, hos, hcs, hds⟩ := id hs
  have hTs : s.TypeIs (.ref sl) "slice" := ⟨os, hos, hcs⟩
  unfold getItem
  try with_reducible refine wpAny_holding ?_
  first | refine wpAny_bind (wpAny_pure ?_) | skip
  refine wpAny_bind (wpAny_sequenceKey ht.typeIs (by decide) ?_)
  refine wpAny_bind (wpAny_callSpecial?_slot (name := Str.ofString "__getitem__") ht.typeIs PyProof.Rows.slot_tuple_getitem
    (wpAny_call_entry PyProof.Rows.slot_tuple_getitem ht.typeIs entry_tuple_getitem ?_ (args_tuple_getitem _ _)))
  show wpAny _ _ (Builtin.Tuple.tupleItemsOf (.ref t) >>= _) _ _ s
  refine wpAny_bind (tupleItemsOf_ ht ?_)
  refine wpAny_bind (wpAny_typeOf hTs ?_)
  rw [if_pos (by decide)]
  have ap : ∀ {R : Int × Int × Nat → Shared → Prop}, R ((items.size : Int) - 1, -1, items.size) s → wpAny (model prog w) A.in1 (Builtin.Slice.sliceApplied (.ref sl) (pure (items.size : Int))) R E s := fun {R} hR => by
    unfold Builtin.Slice.sliceApplied Builtin.Slice.sliceFields
    refine wpAny_bind (wpAny_bind (wpAny_field hos hds (x := .none) rfl (wpAny_bind (wpAny_field hos hds (x := .none) rfl (wpAny_bind (wpAny_field hos hds (x := vs) rfl (wpAny_pure ?_)))))))
    refine wpAny_bind (slicePart_ ps ?_)
    show wpAny _ _ (if ((-1 : Int) == 0) = true then _ else _) _ _ s
    rw [if_neg (by decide)]
    refine wpAny_bind (slicePart_ .none (wpAny_bind (slicePart_ .none (wpAny_bind (wpAny_pure ?_)))))
    show wpAny _ _ (match Builtin.Slice.sliceAdjust none none (-1) (items.size : Int) with | (lo, hi) => pure (lo, (-1 : Int), Builtin.Slice.slicePlaces lo hi (-1))) _ _ s
    rw [adjust_rev]
    show wpAny _ _ (pure ((items.size : Int) - 1, (-1 : Int), Builtin.Slice.slicePlaces ((items.size : Int) - 1) (-1) (-1))) _ _ s
    rw [places_rev]
    exact wpAny_pure hR
  refine wpAny_bind (ap ?_)
  show wpAny _ _ (if (((items.size : Int) - 1) == 0 && (-1 : Int) == 1 && items.size == items.size) = true then _ else _) _ _ s
  rw [if_neg (by simp), pick_rev]
  first
    | exact wpAny_bind (m := Builtin.Tuple.tupleExact _) (wpAny_newObj_type (wpAny_pure ⟨_, rfl, wpAny_pure h⟩) htake)
    | exact wpAny_bind (m := Builtin.Tuple.tupleExact _) (wpAny_newObj_type (wpAny_bind (wpAny_pure (wpAny_pure ⟨_, rfl, wpAny_pure h⟩))) htake)
    | exact wpAny_bind (wpAny_bind (m := Builtin.Tuple.tupleExact _) (wpAny_newObj_type (wpAny_pure (wpAny_pure ⟨_, rfl, wpAny_pure h⟩)) htake))
    | exact wpAny_bind (wpAny_bind (m := Builtin.Tuple.tupleExact _) (wpAny_newObj_type (wpAny_pure ⟨_, rfl, wpAny_pure h⟩) htake))
end
section
variable {X : Cx}
def tRevT (K : PySem.W.Frag) (te : TE) : TE := fun σ H Q => te σ H fun x H1 => ∃ a xs, x = .ref a ∧ SqT K H1 a xs ∧ ∀ p, H1 p = none → Q (.ref p) (upd H1 p (.tup xs.reverse))
theorem pe_revT {e : Expr} {te : TE} {k : Nat} {p1 p2 p3 pos : Pos} (he : PE X e te) : PE X (.Subscript e (.Slice none none (some (.UnaryOp .USub (.Constant (.int 1) k p1) p2)) p3) pos) (tRevT X.K te) := by
  refine ⟨fun pins s σ H Q I h => ?_⟩
  refine Subscript_ (thn (he.run pins s σ H _ I h) fun v s1 ⟨x, H1, I1, r1, q1⟩ => ?_)
  obtain ⟨a, xs, ex, hx, q⟩ := q1
  subst ex
  cases r1
  have hst : PO X (some (.UnaryOp .USub (.Constant (.int 1) k p1) p2)) (tPart (tUn (rU fun i => .int (-i)) (tC (.int 1)))) := po_some (pe_un un_neg pe_int)
  refine wpAny_Slice ?_
  rw [evalPart_none]
  refine wpAny_pure ?_
  refine wpAny_pure ?_
  refine thn (hst.run pins s1 σ H1 (fun o H4 => o = some (-1) ∧ H4 = H1) I1 ⟨1, rfl, -1, rfl, rfl, rfl⟩) fun vs s4 ⟨o, H4, I4, ps, eo, e4⟩ => ?_
  subst eo e4
  have I5 : Inv X pins σ H4 { s4 with heap := s4.heap.push { cls := .type "slice", data := .fields #[.none, .none, vs] } } := I4.kept (t' := s4.toks) fun b ob q => Heap.get?_push_of_some _ q
  obtain ⟨its, r, ht, hz⟩ := I5.tuple hx
  have hlen := r.length
  show wpAny (model X.prog X.w) X.A (subscriptTail e (.Slice none none (some (.UnaryOp .USub (.Constant (.int 1) k p1) p2)) p3) (.ref a) (.ref s4.heap.objs.size)) (EP X pins σ Q) X.xe { s4 with heap := s4.heap.push { cls := .type "slice", data := .fields #[.none, .none, vs] } }
  refine tail_any (ops := [.ref a, .ref s4.heap.objs.size]) ht.typeIs (PyProof.Rows.slot_tuple_getitem.lookup) ?_ (by with_unfolding_all rfl)
  refine getItem_tuple_rev ht (Heap.IsSliceOf.new _ .none .none vs) ps ?_ (by rw [List.size_toArray]; omega)
  refine ⟨.ref _, _, I5.laid (t' := s4.toks) (o := .tup xs.reverse) (fun b ob q => Heap.get?_push_of_some _ q) (Nat.le_refl _) ?_, rfl, q _ (I5.hok.fresh (Nat.le_refl _))⟩
  exact ⟨by rw [List.length_reverse]; exact hz, _, r.reverse, IsTup.new _ _⟩
/-! ### list(range(a, b, c)) -/
def rgCV (a c : Int) (n : Nat) : List V := (List.range n).map fun i => V.int (a + (i : Nat) * c)
theorem vals_rgC {a c : Int} {n : Nat} {acc : Array Value} (h : ItemsOf (fun i v => ∃ t, v = .int (a + i * c) t) acc n) : Vals (rgCV a c n) acc.toList := by
  have e : acc.toList.length = n := by rw [Array.length_toList]; exact h.1
  unfold rgCV
  rw [← e]
  refine vals_of_get acc.toList _ fun j u hj => ?_
  obtain ⟨t, rfl⟩ := h.2 j u (by rw [← hj, Array.getElem?_toList])
  exact ⟨t, rfl⟩
def tLstRg3 (ta : TA) : TE := fun σ H Q => ta σ H fun vs H1 => ∃ (i j c : Int) (n : Nat), vs = [.int i, .int j, .int c] ∧ RgC i j c n ∧ n ≤ 2 ^ 24 ∧ ∀ q, H1 q = none → Q (.ref q) (upd H1 q (.lst (rgCV i c n)))
theorem pe_listRg3 {a b c : Expr} {ta : TA} {p pos p2 pos2 : Pos} (hcm : X.calm = true) (hg : Gl X "list") (hm : X.mg "list" = none) (hg2 : Gl X "range") (hm2 : X.mg "range" = none) (ha : PA X [a, b, c] ta)
    (hs : starEach [a, b, c] X.env = (false, eval a X.env) :: starEach [b, c] X.env) (hpl : (backTo pos2 (starEach [b, c] X.env)).any (·.1) = false) :
    PE X (.Call (.Name "list" p) [.Call (.Name "range" p2) [a, b, c] [] pos2] [] pos) (tLstRg3 ta) := by
  refine ⟨fun pins s σ H Q I h => ?_⟩
  have na : starEach [(.Call (.Name "range" p2) [a, b, c] [] pos2 : Expr)] X.env = (false, eval (.Call (.Name "range" p2) [a, b, c] [] pos2) X.env) :: starEach [] X.env := rfl
  refine Call_ (ld_blt I hg hm boot_list (PyProof.Rows.callWith_type1 (args_cons ?_ na) na))
  refine Call_ (ld_blt I hg2 hm2 boot_range (PyProof.Rows.callWith_type1 (thn (ha.run pos2 pins s σ H _ I h) fun us s1 ⟨vs, H1, I1, r1, q1⟩ => ?_) hs hpl))
  obtain ⟨i, j, k, n, e, ⟨c0, c1, c2, c3⟩, hn, q⟩ := q1
  subst e
  cases r1 with
  | cons r rr =>
    cases rr with
    | cons r' rr =>
      cases rr with
      | cons r'' rr =>
        cases rr
        obtain ⟨t, rfl⟩ := r
        obtain ⟨t', rfl⟩ := r'
        obtain ⟨t'', rfl⟩ := r''
        refine call_range_3 c0 ?_ (.inl (PyProof.noPylong_small c1))
        have I2 : Inv X pins σ H1 { s1 with heap := s1.heap.push { cls := .type "range", data := .fields #[.int i t, .int j t', .int k t''] } } := I1.kept (t' := s1.toks) fun b o e => Heap.get?_push_of_some _ e
        refine args_nil ?_
        refine call_list_range (n := n) (I2.ok.hd hcm) (IsRange.new _ _ _ _ _ _ _) c2 c3 hn fun h' tk acc c' hk e' hi => ?_
        refine ⟨.ref _, upd H1 _ (.lst (rgCV i k n)), I2.laid hk (Nat.le_refl _) (show ObjOk X.prog X.w _ _ _ (.lst (rgCV i k n)) from ⟨?_, acc.toList, c', vals_rgC hi, ?_⟩), rfl, q _ (I2.hok.fresh (Nat.le_refl _))⟩
        · unfold rgCV
          rw [List.length_map, List.length_range, sizeLine_eq]
          omega
        · rw [Array.toArray_toList]; exact e'
end
end Cl
set_option Elab.async false
set_option linter.all false
set_option maxRecDepth 100000
set_option maxHeartbeats 4000000
namespace Cl
open PySem PySem.Spec PyProof.Rows L2 RZ
/-! ### enumerate(text) -/
def IteS (x : Str) : It := ⟨fun i _ => i < x.cps.size, fun i H v H' => ∃ (T : Addr) (c : Nat), x.cps[i]? = some c ∧ v = .ref T ∧ H T = none ∧ H' = upd H T (.tup [.int (i : Nat), .str ⟨#[c]⟩]), fun i _ => i = x.cps.size⟩
theorem turn_enumS {P : Program} {w : World} {K : PySem.W.Frag} {elts : List Expr} {kk : Nat} {tpos : Pos} (e it : Addr) (x : Str) (t : Tok) :
    Turn P w K (.Tuple elts kk tpos) (IteS x) [e, it] e (fun i h => (∃ old, IsEnum h e it ((i : Nat) : Int) old) ∧ h.IsStrIter it (strIterType x) x t i ∧ e ≠ it) where
  mem := by simp
  obj := fun i h st b hb => by
    obtain ⟨⟨old, he⟩, ⟨o, ho, hc, hd⟩, _⟩ := st
    have e' : b = e ∨ b = it := by simpa using hb
    rcases e' with z | z
    · rw [z]; exact ⟨_, he, fun v q => nomatch q⟩
    · rw [z]; exact ⟨o, ho, fun v q => by rw [hd] at q; cases q⟩
  keep := fun i h h' st k => let ⟨⟨old, he⟩, ⟨o, ho, r⟩, hne⟩ := st; ⟨⟨old, k e (by simp) _ he⟩, ⟨o, k it (by simp) o ho, r⟩, hne⟩
  item := by
    intro X hP hw hK hc i pins s σ H E I hf st hg
    subst hP hw hK
    obtain ⟨⟨old, he⟩, hit, hne⟩ := st
    have hel : e < s.heap.objs.size := Heap.lt_size he
    have hil : it < s.heap.objs.size := by obtain ⟨_, q, _⟩ := hit; exact Heap.lt_size q
    have D := Draws.text (prog := X.prog) (w := X.w) (A := X.A.in1) (I.ok.hd hc) it x t
    refine wpAny_pyNext_enum_itemD D he hit hg hne (fun z => hne (List.mem_singleton.mp z)) fun u h' tk hPu ho hit' hT hsz hk => ?_
    obtain ⟨c, u', hcx, rfl⟩ := hPu
    refine ⟨_, rfl, wpAny_letOwnedTupleGo_enum (s := { s with heap := h', toks := tk + 1 }) ho fun h'' he' sb => ?_⟩
    have hT2 : h''.get? s.heap.objs.size = some { cls := .type "tuple", data := .seq #[.int i tk, .str ⟨#[c]⟩ u'] } := (sb.2 _ (Nat.ne_of_gt hel)).trans hT
    have new : ObjOk X.prog X.w (upd H s.heap.objs.size (.tup [.int (i : Nat), .str ⟨#[c]⟩])) h'' s.heap.objs.size (.tup [.int (i : Nat), .str ⟨#[c]⟩]) :=
      ⟨by show 2 ≤ sizeLine; decide, [.int i tk, .str ⟨#[c]⟩ u'], .cons ⟨_, rfl⟩ (.cons ⟨_, rfl⟩ .nil), ⟨_, hT2, rfl, _, rfl⟩⟩
    have I1 : Inv X pins σ (upd H s.heap.objs.size (.tup [.int (i : Nat), .str ⟨#[c]⟩])) { s with heap := h'', toks := tk + 1 } :=
      I.turnedNew (ch := [e, it]) (fun b ob hb q => (sb.2 b (fun z => hb (by simp [z]))).trans (hk b ob (fun z => hb (by simp [z])) (fun z => hb (by simp [z])) q)) hf (Nat.le_refl _) new
    refine ⟨.ref s.heap.objs.size, _, I1, rfl, ⟨_, c, hcx, rfl, I.hok.fresh (Nat.le_refl _), rfl⟩, ⟨⟨.str ⟨#[c]⟩ u', ?_⟩, ?_, hne⟩, fun b hb => ?_⟩
    · have e1 : ((i + 1 : Nat) : Int) = (i : Int) + 1 := by omega
      rw [e1]; exact he'
    · obtain ⟨o, q, r⟩ := hit'
      exact ⟨o, (sb.2 it (Ne.symm hne)).trans q, r⟩
    · have hb' : b < s.heap.objs.size := by
        have e' : b = e ∨ b = it := by simpa using hb
        rcases e' with z | z
        · rw [z]; exact hel
        · rw [z]; exact hil
      rw [upd_ne (Nat.ne_of_lt hb')]
      exact (hf b hb).1
  done := by
    intro X hP hw hK hc i pins s σ H E I hf st hg
    subst hP hw hK
    obtain ⟨⟨old, he⟩, hit, hne⟩ := st
    have hg' : i = x.cps.size := hg
    subst hg'
    obtain ⟨f0, f1, f2, f3, f4, f5⟩ := hf it (by simp)
    have D := Draws.text (prog := X.prog) (w := X.w) (A := X.A.in1) (I.ok.hd hc) it x t
    exact wpAny_pyNext_enum_endD D he hit fun h' eb => ⟨rfl, I.turned (t' := s.toks) (fun b o hb q => eb b o hb q) f0 f1 f3 f4 f5⟩
  self := fun A i s Q E st h => let ⟨⟨_, he⟩, _⟩ := st; wpAny_pyIter_enum he h
def iEnumS (ta : TA) : TI := fun σ H R => ta σ H fun vs H1 => ∃ x, vs = [.str x] ∧ R (IteS x) H1
theorem pi_enumS {X : Cx} {e : Expr} {ta : TA} {p pos tpos : Pos} {elts : List Expr} {kk : Nat} (hg : Gl X "enumerate") (hm : X.mg "enumerate" = none) (ha : PA X [e] ta) (hs : starEach [e] X.env = [(false, eval e X.env)] := by rfl) :
    PI X (.Tuple elts kk tpos) (.Call (.Name "enumerate" p) [e] [] pos) (iEnumS ta) := by
  refine ⟨fun pins s σ H R I h => ?_⟩
  refine Call_ (ld_blt I hg hm boot_enumerate (PyProof.Rows.callWith_type1 (thn (ha.run pos pins s σ H _ I h) fun us s1 ⟨vs, H1, I1, r1, q1⟩ => ?_) hs rfl))
  obtain ⟨x, ex, q⟩ := q1
  subst ex
  cases r1 with
  | cons r rr =>
    cases rr
    obtain ⟨t, rfl⟩ := r
    refine call_enumerate_str fun h' he hit hsz hk => wpAny_pyIter_enum he ?_
    have I2 : Inv X pins σ H1 { s1 with heap := h' } := I1.kept (t' := s1.toks) hk
    refine ⟨s1.heap.objs.size + 1, [s1.heap.objs.size + 1, s1.heap.objs.size], _, _, H1, rfl, I2, turn_enumS (s1.heap.objs.size + 1) s1.heap.objs.size x t, ⟨⟨.none, he⟩, hit, Nat.succ_ne_self _⟩, fun b hb => ?_, q⟩
    have e' : b = s1.heap.objs.size + 1 ∨ b = s1.heap.objs.size := by simpa using hb
    have hle : s1.heap.objs.size ≤ b := by
      rcases e' with z | z
      · rw [z]; exact Nat.le_add_right _ _
      · rw [z]; exact Nat.le_refl _
    exact I1.fpOk hle (I1.hok.fresh hle)
theorem walk_enumS {x : Str} : Walk (IteS x) x.cps.size (fun _ => True) (YPair (fun i => some (.int (i : Nat))) (fun i => x.cps[i]?.map fun c => .str ⟨#[c]⟩)) :=
  ⟨fun _ _ hi _ => hi, fun _ _ => rfl, fun i H v H' _ _ y => by
    obtain ⟨T, c, h1, h2, h3, h4⟩ := y
    exact ⟨T, _, _, h2, h3, h4, rfl, by show Option.map _ x.cps[i]? = _; rw [h1]; rfl⟩⟩
end Cl
set_option Elab.async false
set_option linter.all false
set_option maxRecDepth 100000
set_option maxHeartbeats 4000000
namespace Cl
open PySem L2 RZ

/-! ### readings of the core's expressions -/
def Cst.v : Cst → V
  | .non => .non
  | .bl b => .bl b
  | .int i => .int i
  | .str x => .str x
def Ty.n : Ty → String
  | .int => "int"
  | .bool => "bool"
  | .tuple => "tuple"
  | .list => "list"
  | .str => "str"
def rIsD (K : W.Frag) (t : Ty) : List V → Hp → VK → Prop := fun xs H Q => ∃ (x : V) (P : Hp) (d : D), xs = [x, .ty t.n] ∧ Ex P H ∧ RepB K P H d x ∧ Q (.bl (isiF t d)) H
/-- methods of lists and texts that change nothing -/
def rMt (K : W.Frag) (m : Mt) : V → List V → Hp → VK → Prop := fun x vs H Q => ∃ (P : Hp) (d0 : D) (ds : List D) (d : D), Ex P H ∧ RepB K P H d0 x ∧ RepBs K P H ds vs ∧ mtF m d0 ds = some d ∧ ∀ v H', Res K P H d v H' → Q v H'
def Mt.T : Mt → String
  | .count => "list"
  | .index => "list"
  | .join => "str"
def gNames : List Nat → TGs
  | [] => gNil
  | i :: is => gCons (gName i) (gNames is)
def tOfG (K : W.Frag) : Tg → TG
  | .nm i => gName i
  | .tp is => fun v σ H Q => gTup K is.length (gNames is) v σ H Q ∨ gUnl K is.length (gNames is) v σ H Q
def rSs (K : W.Frag) : V → Hp → VK → Prop := fun x H Q => ∃ (P : Hp) (d0 d : D), Ex P H ∧ RepB K P H d0 x ∧ ssetF d0 = some d ∧ ∀ v P' H', Ext P H P' H' → Rep K P' d v → Q v H'
def rLs (K : W.Frag) : V → Hp → VK → Prop := fun x H Q => ∃ (P : Hp) (d0 d : D), Ex P H ∧ RepB K P H d0 x ∧ lsetF d0 = some d ∧ ∀ v P' H', Ext P H P' H' → Rep K P' d v → Q v H'
abbrev EX := L2.St → XK
def EX0 : EX := fun _ => E0
/-- [f, g, ..][i](..): a list of defs, one of them called -/
def tRefs : List Addr → TA
  | [] => tNil
  | a :: r => tCons (tC (.ref a)) (tRefs r)
theorem tRefs_of {σ : L2.St} {H : Hp} : ∀ (ads : List Addr) {Q : List V → Hp → Prop}, Q (ads.map V.ref) H → tRefs ads σ H Q
  | [], _, h => h
  | a :: r, Q, h => tRefs_of r (Q := fun xs H2 => Q (.ref a :: xs) H2) h
def tAt (K : W.Frag) (fs : List Nat) (ti : TE) (k : Nat → TE) : TE := fun σ H Q => ∀ ads : List Addr, ads.length = fs.length → tOp (rIxL K) (tLst (tRefs ads)) ti σ H fun u H2 => ∃ (j f : Nat) (a : Addr), fs[j]? = some f ∧ ads[j]? = some a ∧ u = .ref a ∧ k f σ H2 Q
def tMethS (C : Addr) (m : Str) (sp : Sp) (E : EX) (ta : TE) (t : TA) : TE := fun σ H Q => ta σ H fun x H1 => ∃ a dx fs, x = .ref a ∧ H1 a = some (.ins C dx fs) ∧ fs.lookup m = none ∧ t σ H1 fun vs H2 => sp (x :: vs) H2 Q (E σ)
/-- Band(..): a new instance and its dict, then __init__ -/
def tNewB (C : Addr) (sp : Sp) (E : EX) (t : TA) : TE := fun σ H Q => t σ H fun vs H1 => ∀ x dx, H1 x = none → H1 dx = none → dx ≠ x → sp (.ref x :: vs) (upd (upd H1 dx (.own x)) x (.ins C dx [])) (fun v H2 => v = .non ∧ Q (.ref x) H2) (E σ)
/-- len of an instance, by its __len__ -/
def tLenO (C : Addr) (sp : Sp) (E : EX) (ta : TE) : TE := fun σ H Q => ta σ H fun x H1 => ∃ a dx fs, x = .ref a ∧ H1 a = some (.ins C dx fs) ∧ sp [x] H1 (fun v H2 => ∃ n : Int, v = .int n ∧ 0 ≤ n ∧ n ≤ 1000 ∧ Q (.int n) H2) (E σ)
/-- == and != by the own __eq__ -/
def rEqO (K : W.Frag) (sp : Sp) (ne : Bool) : L2.R2 := fun x y H Q => ∃ a dx fs, x = .ref a ∧ H a = some (.ins (bandC K) dx fs) ∧ bandB K = true ∧ ((∃ b dy gs, y = .ref b ∧ H b = some (.ins (bandC K) dy gs)) ∨ ∃ b xs, y = .ref b ∧ H b = some (.tup xs)) ∧
  sp [x, y] H (fun v H' => ∃ k : Bool, v = .bl k ∧ Q (.bl (ne != k)) H') fun _ _ _ => False
/-- isinstance(x, Band) -/
def rIsB (K : W.Frag) : List V → Hp → VK → Prop := fun xs H Q => ∃ x, xs = [x, .ref (bandC K)] ∧ bandB K = true ∧ ((∃ b dy gs, x = .ref b ∧ H b = some (.ins (bandC K) dy gs) ∧ Q (.bl true) H) ∨ ∃ b xs, x = .ref b ∧ H b = some (.tup xs) ∧ Q (.bl false) H)
section
variable (K : W.Frag) (sp : Nat → Sp)
def tRg3 (ta tb tc : TE) : TI := fun σ H R => iRng3 (tCons ta (tCons tb (tCons tc tNil))) σ H R
mutual
def tOf (E : EX) : CE → TE
  | .var i => tVar i
  | .bor i => tVar i
  | .cst c => tC c.v
  | .glo _ c => tC c.v
  | .bin op a b => tOp (rBop K op) (tOf E a) (tOf E b)
  | .neg a => tUn (rU fun i => .int (-i)) (tOf E a)
  | .cmp op a b => tOp (rCop K op) (tOf E a) (tOf E b)
  | .chn op op' a b c => tChain (rCop K op) (rCop K op') (tOf E a) (tOf E b) (tOf E c)
  | .and a r => tAndV (tOf E a) (tOf E r)
  | .or a r => tOrV (tOf E a) (tOf E r)
  | .one a => tOf E a
  | .not a => tNotV (tOf E a)
  | .ite c a b => tIf (tOfT E c) (tOf E a) (tOf E b)
  | .tup es => tTup (tOfs E es)
  | .lst es => tLst (tOfs E es)
  | .idx a b => tOp (rIdx K) (tOf E a) (tOf E b)
  | .slc a lo hi => tSl (rSlc K) (tOf E a) (tOfO E lo) (tOfO E hi)
  | .rev a => tRevL K (tOf E a)
  | .revT a => tRevT K (tOf E a)
  | .call f es => tCallS (sp f) E (tOfs E es)
  | .callD f es => tCallS (sp (1000 + f)) E (tOfsD E es)
  | .callAt fs ix es => tAt K fs (tOf E ix) fun f => tCallS (sp f) E (tOfs E es)
  | .bi b es => tCB (rBi K b) (tOfs E es)
  | .meth m o es => tBM K m.T (rMt K m) (tOf E o) (tOfs E es)
  | .rgl es => tOfL E es
  | .rgt es => tTupRg (tOfR E es)
  | .lc elt t it c vs => tLc (tOfI E it) (tOfG K t) (tOfC EX0 c) (tOf EX0 elt) vs
  | .lc2 elt t it c t1 it1 c1 vs vs1 => tLc2 (tOfI E it) (tOfG K t) (tOfC EX0 c) (tOfI EX0 it1) (tOfG K t1) (tOfC EX0 c1) (tOf EX0 elt) vs vs1
  | .sset e => tThen (tOf E e) (rSs K)
  | .lset e => tThen (tOf E e) (rLs K)
  | .isi t e => tCB (rIsD K t) (tCons (tOf E e) (tCons (tC (.ty t.n)) tNil))
  | .fld i j => tFld K (tVar i) (bandF.getD j Str.empty)
  | .mth f m o es => tMethS (bandC K) m (sp f) E (tOf E o) (tOfs E es)
  | .new es => tNewB (bandC K) (sp 4900) E (tOfs E es)
  | .eqO ne f a b => tOp (rEqO K (sp f) ne) (tOf E a) (tOf E b)
  | .isB _ e => tCB (rIsB K) (tCons (tOf E e) (tCons (tC (.ref (bandC K))) tNil))
  | .lenO f i => tLenO (bandC K) (sp f) E (tVar i)
def tOfT (E : EX) : CE → TT
  | .and a r => tAnd (tOfT E a) (tOfT E r)
  | .or a r => tOr (tOfT E a) (tOfT E r)
  | .one a => tOfT E a
  | .not a => tNot (tOfT E a)
  | .var i => tB (tVar i)
  | .cst c => tB (tC c.v)
  | .cmp op a b => tB (tOp (rCop K op) (tOf E a) (tOf E b))
  | .chn op op' a b c => tB (tChain (rCop K op) (rCop K op') (tOf E a) (tOf E b) (tOf E c))
  | .call f es => tB (tCallS (sp f) E (tOfs E es))
  | .bi b es => tB (tCB (rBi K b) (tOfs E es))
  | .isi t e => tB (tCB (rIsD K t) (tCons (tOf E e) (tCons (tC (.ty t.n)) tNil)))
  | .idx a b => tB (tOp (rIdx K) (tOf E a) (tOf E b))
  | .eqO ne f a b => tB (tOp (rEqO K (sp f) ne) (tOf E a) (tOf E b))
  | .isB _ e => tB (tCB (rIsB K) (tCons (tOf E e) (tCons (tC (.ref (bandC K))) tNil)))
  | _ => fun _ _ _ => False
def tOfs (E : EX) : CEs → TA
  | .nil => tNil
  | .cons e r => tCons (tOf E e) (tOfs E r)
def tOfsD (E : EX) : CEs → TA
  | .nil => tCons tDNewT tNil
  | .cons e r => tCons (tOf E e) (tOfsD E r)
def tOfO (E : EX) : CO → TO
  | .none => tNoPart
  | .some e => tPart (tOf E e)
def tOfC (E : EX) : CO → TT
  | .none => tYes
  | .some e => tOfT E e
def tOfR (E : EX) : CEs → L2.St → Hp → (Int → Int → Hp → Prop) → Prop
  | .cons a .nil => tRg1 (tOf E a)
  | .cons a (.cons b .nil) => tRg2 (tOf E a) (tOf E b)
  | _ => fun _ _ _ => False
def tOfL (E : EX) : CEs → TE
  | .cons a .nil => tLstRg (tRg1 (tOf E a))
  | .cons a (.cons b .nil) => tLstRg (tRg2 (tOf E a) (tOf E b))
  | .cons a (.cons b (.cons c .nil)) => tLstRg3 (tCons (tOf E a) (tCons (tOf E b) (tCons (tOf E c) tNil)))
  | _ => fun _ _ _ => False
def tOfI (E : EX) : CI → TI
  | .lst e => iList K (tOf E e)
  | .tup e => iTup K (tOf E e)
  | .str e => iStr (tOf E e)
  | .rng es => tOfN E es
  | .enum e => iEnum K (tCons (tOf E e) tNil)
  | .enumS e => iEnumS (tCons (tOf E e) tNil)
  | .zip a b => iZipA K (tCons (tOf E a) (tCons (tOf E b) tNil))
def tOfN (E : EX) : CEs → TI
  | .cons a .nil => iRng1 (tCons (tOf E a) tNil)
  | .cons a (.cons b .nil) => iRng2 (tCons (tOf E a) (tCons (tOf E b) tNil))
  | .cons a (.cons b (.cons c .nil)) => iRng3 (tCons (tOf E a) (tCons (tOf E b) (tCons (tOf E c) tNil)))
  | _ => fun _ _ _ => False
end
end

/-! ### what they give: by the evaluator -/
section
variable (K : W.Frag) (cls : Nat → Value)
def PostE (E : EX) (σ : L2.St) (P H : Hp) (r : R D) (Q : VK) : Prop := match r with
  | .ok d => ∀ v P' H', Ext P H P' H' → Rep K P' d v → Q v H'
  | .exc c => ∀ P' H', Ext P H P' H' → E σ (cls c) none H'
  | .bad => False
def PostB (E : EX) (σ : L2.St) (P H : Hp) (r : R D) (Q : VK) : Prop := match r with
  | .ok d => ∀ v P' H', Ext P H P' H' → RepB K P' H' d v → Q v H'
  | .exc c => ∀ P' H', Ext P H P' H' → E σ (cls c) none H'
  | .bad => False
def PostN (E : EX) (σ : L2.St) (P H : Hp) (r : R D) (Q : VK) : Prop := match r with
  | .ok (.lst ds) => ∀ p vs P' H', Ext P H P' H' → H p = none → P' p = none → H' p = some (.lst vs) → Reps K P' ds vs → Q (.ref p) H'
  | .ok _ => False
  | .exc c => ∀ P' H', Ext P H P' H' → E σ (cls c) none H'
  | .bad => False
def PostX {α : Type} (E : EX) (σ : L2.St) (P H : Hp) (r : R α) (Q : α → Hp → Prop) : Prop := match r with
  | .ok b => ∀ P' H', Ext P H P' H' → Q b H'
  | .exc c => ∀ P' H', Ext P H P' H' → E σ (cls c) none H'
  | .bad => False
def PostA (E : EX) (σ : L2.St) (P H : Hp) (r : R (List D)) (Q : List V → Hp → Prop) : Prop := match r with
  | .ok ds => ∀ vs P' H', Ext P H P' H' → Reps K P' ds vs → Q vs H'
  | .exc c => ∀ P' H', Ext P H P' H' → E σ (cls c) none H'
  | .bad => False
def PostAB (E : EX) (σ : L2.St) (P H : Hp) (r : R (List D)) (Q : List V → Hp → Prop) : Prop := match r with
  | .ok ds => ∀ vs P' H', Ext P H P' H' → RepBs K P' H' ds vs → Q vs H'
  | .exc c => ∀ P' H', Ext P H P' H' → E σ (cls c) none H'
  | .bad => False
/-- what is walked: ds, while what stands in B stands -/
def WalkD (B P0 : Hp) (J : It) (ds : List D) : Prop := ∃ G Y, Walk J ds.length G Y ∧ (∀ H, Ex B H → G H) ∧ ∀ i P H x H', i < ds.length → Ex P0 P → Ex P H → Y i H x H' → ∃ P' d, ds[i]? = some d ∧ Ext P H P' H' ∧ Rep K P' d x
def PostI (E : EX) (σ : L2.St) (P H : Hp) (keep : Bool) (r : R (List D)) (Q : It → Hp → Prop) : Prop := match r with
  | .ok ds => ∀ J P' H', Ext P H P' H' → WalkD K (if keep then P' else H') P' J ds → Q J H'
  | .exc c => ∀ P' H', Ext P H P' H' → E σ (cls c) none H'
  | .bad => False
def SE (E : EX) (t : TE) (f : Env → R D) : Prop := ∀ H0 env σ P H Q, EnvOk K H0 env σ P H → PostE K cls E σ P H (f env) Q → t σ H Q
def SB (E : EX) (t : TE) (f : Env → R D) : Prop := ∀ H0 env σ P H Q, EnvOk K H0 env σ P H → PostB K cls E σ P H (f env) Q → t σ H Q
def SN (E : EX) (t : TE) (f : Env → R D) : Prop := ∀ H0 env σ P H Q, EnvOk K H0 env σ P H → PostN K cls E σ P H (f env) Q → t σ H Q
def ST (E : EX) (t : TT) (f : Env → R Bool) : Prop := ∀ H0 env σ P H Q, EnvOk K H0 env σ P H → PostX cls E σ P H (f env) Q → t σ H Q
def SO (E : EX) (t : TO) (f : Env → R (Option Int)) : Prop := ∀ H0 env σ P H Q, EnvOk K H0 env σ P H → PostX cls E σ P H (f env) Q → t σ H Q
def SA (E : EX) (t : TA) (f : Env → R (List D)) : Prop := ∀ H0 env σ P H Q, EnvOk K H0 env σ P H → PostA K cls E σ P H (f env) Q → t σ H Q
def SAB (E : EX) (t : TA) (f : Env → R (List D)) : Prop := ∀ H0 env σ P H Q, EnvOk K H0 env σ P H → PostAB K cls E σ P H (f env) Q → t σ H Q
def SI (E : EX) (keep : Bool) (t : TI) (f : Env → R (List D)) : Prop := ∀ H0 env σ P H Q, EnvOk K H0 env σ P H → PostI K cls E σ P H keep (f env) Q → t σ H Q
end
section
variable {K : W.Frag} {cls : Nat → Value} {E : EX} {σ : L2.St} {P H P1 H1 : Hp} {Q : VK} {t ta tb tc : TE} {f fa fb fc : Env → R D}
theorem SE.sb (h : SE K cls E t f) : SB K cls E t f := fun H0 env σ P H Q I p => h H0 env σ P H Q I (by
  cases hf : f env with
  | ok d => rw [hf] at p; exact fun v P' H' e r => p v P' H' e (.inl r)
  | exc c => rw [hf] at p; exact p
  | bad => rw [hf] at p; exact p)
theorem SN.se (h : SN K cls E t f) (hl : ∀ env d, f env = .ok d → ∃ ds, d = .lst ds) : SE K cls E t f := fun H0 env σ P H Q I p => h H0 env σ P H Q I (by
  cases hf : f env with
  | ok d =>
    obtain ⟨ds, rfl⟩ := hl env d hf
    rw [hf] at p
    intro p1 vs P' H' e h1 h2 h3 h4
    have e2 : Ext P H (upd P' p1 (.lst vs)) H' := ⟨e.h, e.p.trans (Ex.new h2), fun a u q => by
      by_cases ha : a = p1
      · subst ha; rw [upd_same] at q; cases q; exact h3
      · rw [upd_ne ha] at q; exact e.ph a u q, fun a z1 z2 => by
      have ha : a ≠ p1 := fun z => z2 (by rw [z]; exact h1)
      rw [upd_ne ha]; exact e.fr a z1 z2⟩
    exact p _ _ _ e2 (.lst upd_same (h4.mono (Ex.new h2)))
  | exc c => rw [hf] at p; exact p
  | bad => rw [hf] at p; exact p)
/-- weaker ends -/
theorem PostX.step {α : Type} {r : R α} {Q : α → Hp → Prop} (e : Ext P H P1 H1) (p : PostX cls E σ P H r Q) : PostX cls E σ P1 H1 r Q := by
  cases r with
  | ok d => exact fun P' H' e2 => p P' H' (e.trans e2)
  | exc c => exact fun P' H' e2 => p P' H' (e.trans e2)
  | bad => exact p
theorem PostE.step {r : R D} (e : Ext P H P1 H1) (p : PostE K cls E σ P H r Q) : PostE K cls E σ P1 H1 r Q := by
  cases r with
  | ok d => exact fun v P' H' e2 rp => p v P' H' (e.trans e2) rp
  | exc c => exact fun P' H' e2 => p P' H' (e.trans e2)
  | bad => exact p
/-- an operand, then the rest -/
theorem SB.then {k : D → R D} {Qb : VK} {H0 : Hp} {env : Env} (h : SB K cls E t f) (I : EnvOk K H0 env σ P H) (p : PostE K cls E σ P H ((f env).bind k) Q)
    (q : ∀ d v P1 H1, f env = .ok d → Ext P H P1 H1 → RepB K P1 H1 d v → PostE K cls E σ P1 H1 (k d) Q → EnvOk K H0 env σ P1 H1 → Qb v H1) : t σ H Qb := h H0 env σ P H Qb I (by
  cases hf : f env with
  | ok d => rw [hf] at p; exact fun v P1 H1 e r => q d v P1 H1 hf e r (PostE.step e p) (I.mono e)
  | exc c => rw [hf] at p; exact p
  | bad => rw [hf] at p; exact p)
theorem SE.then {k : D → R D} {Qb : VK} {H0 : Hp} {env : Env} (h : SE K cls E t f) (I : EnvOk K H0 env σ P H) (p : PostE K cls E σ P H ((f env).bind k) Q)
    (q : ∀ d v P1 H1, f env = .ok d → Ext P H P1 H1 → Rep K P1 d v → PostE K cls E σ P1 H1 (k d) Q → EnvOk K H0 env σ P1 H1 → Qb v H1) : t σ H Qb := h H0 env σ P H Qb I (by
  cases hf : f env with
  | ok d => rw [hf] at p; exact fun v P1 H1 e r => q d v P1 H1 hf e r (PostE.step e p) (I.mono e)
  | exc c => rw [hf] at p; exact p
  | bad => rw [hf] at p; exact p)
/-- the same for ends of any kind -/
theorem SB.thenX {α : Type} {k : D → R α} {Qb : VK} {Qx : α → Hp → Prop} {H0 : Hp} {env : Env} (h : SB K cls E t f) (I : EnvOk K H0 env σ P H) (p : PostX cls E σ P H ((f env).bind k) Qx)
    (q : ∀ d v P1 H1, f env = .ok d → Ext P H P1 H1 → RepB K P1 H1 d v → PostX cls E σ P1 H1 (k d) Qx → EnvOk K H0 env σ P1 H1 → Qb v H1) : t σ H Qb := h H0 env σ P H Qb I (by
  cases hf : f env with
  | ok d => rw [hf] at p; exact fun v P1 H1 e r => q d v P1 H1 hf e r (PostX.step e p) (I.mono e)
  | exc c => rw [hf] at p; exact p
  | bad => rw [hf] at p; exact p)
/-- what an operation gives is an end -/
theorem PostE.res {o : Option D} {d : D} {v : V} {H2 : Hp} (e : Ex P H) (p : PostE K cls E σ P H (R.ofO o) Q) (ho : o = some d) (r : Res K P H d v H2) : Q v H2 := by
  subst ho
  obtain ⟨P', e2, r2⟩ := r.keep e
  exact p v P' H2 e2 r2
theorem PostE.some {o : Option D} (p : PostE K cls E σ P H (R.ofO o) Q) : ∃ d, o = some d := by
  cases o with
  | none => exact p.elim
  | some d => exact ⟨d, rfl⟩
theorem intD_bind {α : Type} {d : D} {k : Int → R α} : (∃ i, d = .int i ∧ (intD d).bind k = k i) ∨ (intD d).bind k = .bad := by
  cases d with
  | int i => exact .inl ⟨i, rfl, rfl⟩
  | _ => exact .inr rfl
theorem boolD_bind {α : Type} {d : D} {k : Bool → R α} : (∃ i, d = .bl i ∧ (boolD d).bind k = k i) ∨ (boolD d).bind k = .bad := by
  cases d with
  | bl i => exact .inl ⟨i, rfl, rfl⟩
  | _ => exact .inr rfl
theorem se_bin {op : BOp} (ha : SB K cls E ta fa) (hb : SB K cls E tb fb) : SE K cls E (tOp (rBop K op) ta tb) (fun env => (fa env).bind fun x => (fb env).bind fun y => R.ofO (bopF op x y)) := fun H0 env σ P H Q I p =>
  ha.then I p fun x v P1 H1 _ e1 r1 p1 I1 => hb.then I1 p1 fun y u P2 H2 _ e2 r2 p2 I2 => by
    obtain ⟨d, hd⟩ := p2.some
    exact ⟨P2, x, y, d, e2.ph, r1.mono e2, r2, hd, fun v H' r _ => p2.res e2.ph hd r⟩
theorem se_idx (ha : SB K cls E ta fa) (hb : SB K cls E tb fb) : SE K cls E (tOp (rIdx K) ta tb) (fun env => (fa env).bind fun x => (fb env).bind fun y => R.ofO (idxF x y)) := fun H0 env σ P H Q I p =>
  ha.then I p fun x v P1 H1 _ e1 r1 p1 I1 => hb.then I1 p1 fun y u P2 H2 _ e2 r2 p2 I2 => by
    obtain ⟨d, hd⟩ := p2.some
    exact ⟨P2, x, y, d, e2.ph, r1.mono e2, r2, hd, fun v H' r => p2.res e2.ph hd r⟩
theorem se_sset (ha : SB K cls E ta fa) : SE K cls E (tThen ta (rSs K)) (fun env => (fa env).bind fun x => R.ofO (ssetF x)) := fun H0 env σ P H Q I p =>
  ha.then I p fun x v P1 H1 _ e1 r1 p1 I1 => by
    cases hd : ssetF x with
    | none => rw [hd] at p1; exact p1.elim
    | some d =>
      rw [hd] at p1
      exact ⟨P1, x, d, e1.ph, r1, hd, p1⟩
theorem se_lset (ha : SB K cls E ta fa) : SE K cls E (tThen ta (rLs K)) (fun env => (fa env).bind fun x => R.ofO (lsetF x)) := fun H0 env σ P H Q I p =>
  ha.then I p fun x v P1 H1 _ e1 r1 p1 I1 => by
    cases hd : lsetF x with
    | none => rw [hd] at p1; exact p1.elim
    | some d =>
      rw [hd] at p1
      exact ⟨P1, x, d, e1.ph, r1, hd, p1⟩
theorem se_cmp {op : COp} (ha : SB K cls E ta fa) (hb : SB K cls E tb fb) : SE K cls E (tOp (rCop K op) ta tb) (fun env => (fa env).bind fun x => (fb env).bind fun y => R.ofO ((copF op x y).map D.bl)) := fun H0 env σ P H Q I p =>
  ha.then I p fun x v P1 H1 _ e1 r1 p1 I1 => hb.then I1 p1 fun y u P2 H2 _ e2 r2 p2 I2 => by
    cases hc : copF op x y with
    | none => rw [hc] at p2; exact p2.elim
    | some b =>
      rw [hc] at p2
      exact ⟨P2, x, y, b, e2.ph, r1.mono e2, r2, hc, p2 _ P2 H2 (.refl e2.ph) (.bl b)⟩
theorem se_chn {op op' : COp} (ha : SB K cls E ta fa) (hb : SB K cls E tb fb) (hc : SB K cls E tc fc) : SE K cls E (tChain (rCop K op) (rCop K op') ta tb tc) (fun env => (fa env).bind fun x => (fb env).bind fun y => (R.ofO (copF op x y)).bind fun k =>
      if k then (fc env).bind fun z => R.ofO ((copF op' y z).map D.bl) else .ok (.bl false)) := fun H0 env σ P H Q I p =>
  ha.then I p fun x v P1 H1 _ e1 r1 p1 I1 => hb.then I1 p1 fun y u P2 H2 _ e2 r2 p2 I2 => by
    cases hk : copF op x y with
    | none => rw [hk] at p2; exact p2.elim
    | some b =>
      rw [hk] at p2
      refine ⟨P2, x, y, b, e2.ph, r1.mono e2, r2, hk, b, rfl, ?_⟩
      cases b with
      | false => exact p2 _ P2 H2 (.refl e2.ph) (.bl false)
      | true =>
        refine hc.then I2 p2 fun z w P3 H3 _ e3 r3 p3 I3 => ?_
        cases hk' : copF op' y z with
        | none => rw [hk'] at p3; exact p3.elim
        | some b' =>
          rw [hk'] at p3
          exact ⟨P3, y, z, b', e3.ph, r2.mono e3, r3, hk', p3 _ P3 H3 (.refl e3.ph) (.bl b')⟩
theorem se_neg (ha : SB K cls E ta fa) : SE K cls E (tUn (rU fun i => .int (-i)) ta) (fun env => (fa env).bind fun x => (intD x).bind fun i => .ok (.int (-i))) := fun H0 env σ P H Q I p =>
  ha.then I p fun x v P1 H1 _ e1 r1 p1 I1 => by
    rcases intD_bind (d := x) (k := fun i => R.ok (D.int (-i))) with ⟨i, rfl, h⟩ | h
    · rw [h] at p1
      exact ⟨i, r1.int, p1 _ P1 H1 (.refl e1.ph) (.int _)⟩
    · rw [h] at p1; exact p1.elim
theorem se_and {r : Bool} (ha : SB K cls E ta fa) (hb : r = false → SE K cls E tb fb) : SE K cls E (tAndV ta tb) (fun env => (fa env).bind fun x => (boolD x).bind fun k => if k then (if r then .bad else fb env) else .ok (.bl false)) := fun H0 env σ P H Q I p =>
  ha.then I p fun x v P1 H1 _ e1 r1 p1 I1 => by
    rcases boolD_bind (d := x) (k := fun k => if k then (if r then .bad else fb env) else .ok (.bl false)) with ⟨i, rfl, h⟩ | h
    · rw [h] at p1
      refine ⟨i, r1.bl, ?_⟩
      cases i with
      | true =>
        cases r with
        | true => exact p1.elim
        | false => exact hb rfl H0 env σ P1 H1 Q I1 p1
      | false => exact p1 _ P1 H1 (.refl e1.ph) (.bl false)
    · rw [h] at p1; exact p1.elim
theorem se_or {r : Bool} (ha : SB K cls E ta fa) (hb : r = false → SE K cls E tb fb) : SE K cls E (tOrV ta tb) (fun env => (fa env).bind fun x => (boolD x).bind fun k => if k then .ok (.bl true) else (if r then .bad else fb env)) := fun H0 env σ P H Q I p =>
  ha.then I p fun x v P1 H1 _ e1 r1 p1 I1 => by
    rcases boolD_bind (d := x) (k := fun k => if k then .ok (.bl true) else (if r then .bad else fb env)) with ⟨i, rfl, h⟩ | h
    · rw [h] at p1
      refine ⟨i, r1.bl, ?_⟩
      cases i with
      | false =>
        cases r with
        | true => exact p1.elim
        | false => exact hb rfl H0 env σ P1 H1 Q I1 p1
      | true => exact p1 _ P1 H1 (.refl e1.ph) (.bl true)
    · rw [h] at p1; exact p1.elim
theorem se_not (ha : SB K cls E ta fa) : SE K cls E (tNotV ta) (fun env => (fa env).bind fun x => (boolD x).bind fun k => .ok (.bl !k)) := fun H0 env σ P H Q I p =>
  ha.then I p fun x v P1 H1 _ e1 r1 p1 I1 => by
    rcases boolD_bind (d := x) (k := fun k => R.ok (D.bl !k)) with ⟨i, rfl, h⟩ | h
    · rw [h] at p1
      exact ⟨i, r1.bl, p1 _ P1 H1 (.refl e1.ph) (.bl _)⟩
    · rw [h] at p1; exact p1.elim
theorem se_ite {tt : TT} {ft : Env → R Bool} {r r' : Bool} (hc : ST K cls E tt ft) (ha : r = false → SE K cls E ta fa) (hb : r' = false → SE K cls E tb fb) : SE K cls E (tIf tt ta tb) (fun env => (ft env).bind fun k => if k then (if r then .bad else fa env) else (if r' then .bad else fb env)) := fun H0 env σ P H Q I p =>
  hc H0 env σ P H _ I (by
    cases hf : ft env with
    | exc c => simp only [hf, R.bind_exc] at p; exact p
    | bad => simp only [hf, R.bind_bad] at p; exact p.elim
    | ok k =>
      intro P1 H1 e1
      simp only [hf, R.bind_ok] at p
      cases k with
      | true =>
        cases r with
        | true => exact p.elim
        | false => exact ha rfl H0 env σ P1 H1 Q (I.mono e1) (p.step e1)
      | false =>
        cases r' with
        | true => exact p.elim
        | false => exact hb rfl H0 env σ P1 H1 Q (I.mono e1) (p.step e1))
/-- a test from a value -/
theorem st_val (ha : SB K cls E ta fa) : ST K cls E (tB ta) (fun env => (fa env).bind boolD) := fun H0 env σ P H Q I p =>
  ha.thenX I p fun x v P1 H1 _ e1 r1 p1 I1 => by
    cases x with
    | bl b => exact ⟨b, r1.bl, p1 P1 H1 (.refl e1.ph)⟩
    | _ => exact p1.elim
theorem st_not {tt : TT} (hc : ST K cls E tt (fun env => (fa env).bind boolD)) : ST K cls E (tNot tt) (fun env => ((fa env).bind fun x => (boolD x).bind fun k => .ok (.bl !k)).bind boolD) := fun H0 env σ P H Q I p =>
  hc H0 env σ P H _ I (by
    cases hf : fa env with
    | exc c => simp only [hf, R.bind_exc] at p ⊢; exact p
    | bad => simp only [hf, R.bind_bad] at p; exact p.elim
    | ok x =>
      simp only [hf, R.bind_ok] at p ⊢
      cases x with
      | bl b => exact fun P1 H1 e1 => p P1 H1 e1
      | _ => exact p.elim)
theorem st_and {tt tu : TT} {r : Bool} (ha : ST K cls E tt (fun env => (fa env).bind boolD)) (hb : r = false → ST K cls E tu (fun env => (fb env).bind boolD)) : ST K cls E (tAnd tt tu) (fun env => ((fa env).bind fun x => (boolD x).bind fun k => if k then (if r then .bad else fb env) else .ok (.bl false)).bind boolD) := fun H0 env σ P H Q I p =>
  ha H0 env σ P H _ I (by
    cases hf : fa env with
    | exc c => simp only [hf, R.bind_exc] at p ⊢; exact p
    | bad => simp only [hf, R.bind_bad] at p; exact p.elim
    | ok x =>
      simp only [hf, R.bind_ok] at p ⊢
      cases x with
      | bl b =>
        intro P1 H1 e1
        cases b with
        | false => exact p P1 H1 e1
        | true =>
          cases r with
          | true => exact p.elim
          | false => exact hb rfl H0 env σ P1 H1 Q (I.mono e1) (PostX.step e1 p)
      | _ => exact p.elim)
theorem st_or {tt tu : TT} {r : Bool} (ha : ST K cls E tt (fun env => (fa env).bind boolD)) (hb : r = false → ST K cls E tu (fun env => (fb env).bind boolD)) : ST K cls E (tOr tt tu) (fun env => ((fa env).bind fun x => (boolD x).bind fun k => if k then .ok (.bl true) else (if r then .bad else fb env)).bind boolD) := fun H0 env σ P H Q I p =>
  ha H0 env σ P H _ I (by
    cases hf : fa env with
    | exc c => simp only [hf, R.bind_exc] at p ⊢; exact p
    | bad => simp only [hf, R.bind_bad] at p; exact p.elim
    | ok x =>
      simp only [hf, R.bind_ok] at p ⊢
      cases x with
      | bl b =>
        intro P1 H1 e1
        cases b with
        | true => exact p P1 H1 e1
        | false =>
          cases r with
          | true => exact p.elim
          | false => exact hb rfl H0 env σ P1 H1 Q (I.mono e1) (PostX.step e1 p)
      | _ => exact p.elim)
/-! argument lists -/
theorem sa_nil : SA K cls E tNil (fun _ => .ok []) := fun H0 env σ P H Q I p => p [] P H (.refl I.ex) .nil
theorem sab_nil : SAB K cls E tNil (fun _ => .ok []) := fun H0 env σ P H Q I p => p [] P H (.refl I.ex) .nil
theorem RepBs.mono {P' H' : Hp} (e : Ext P H P' H') : ∀ {ds : List D} {vs : List V}, RepBs K P H ds vs → RepBs K P' H' ds vs
  | _, _, .nil => .nil
  | _, _, .cons r t => .cons (r.mono e) (RepBs.mono e t)
theorem repBs_of : ∀ {ds : List D} {vs : List V}, Reps K P ds vs → RepBs K P H ds vs
  | _, _, .nil => .nil
  | _, _, .cons r t => .cons (.inl r) (repBs_of t)
theorem sa_cons {tr : TA} {fr : Env → R (List D)} {r : Bool} (ha : r = false → SE K cls E ta fa) (hr : SA K cls E tr fr) : SA K cls E (tCons ta tr) (fun env => if r then .bad else (fa env).bind fun d => (fr env).bind fun ds => .ok (d :: ds)) := fun H0 env σ P H Q I p => by
  cases r with
  | true => exact p.elim
  | false =>
    refine ha rfl H0 env σ P H _ I ?_
    cases hf : fa env with
    | exc c => simp only [hf, R.bind_exc] at p; exact p
    | bad => simp only [hf, R.bind_bad] at p; exact p.elim
    | ok d =>
      intro v P1 H1 e1 r1
      refine hr H0 env σ P1 H1 _ (I.mono e1) ?_
      cases hg : fr env with
      | exc c => simp only [hf, hg, R.bind_exc, R.bind_ok] at p; exact fun P' H' e2 => p P' H' (e1.trans e2)
      | bad => simp only [hf, hg, R.bind_bad, R.bind_ok] at p; exact p.elim
      | ok ds =>
        simp only [hf, hg, R.bind_ok] at p
        exact fun vs P2 H2 e2 r2 => p (v :: vs) P2 H2 (e1.trans e2) (.cons (r1.mono e2.p) r2)
theorem sab_cons {tr : TA} {fr : Env → R (List D)} (ha : SB K cls E ta fa) (hr : SAB K cls E tr fr) : SAB K cls E (tCons ta tr) (fun env => (fa env).bind fun d => (fr env).bind fun ds => .ok (d :: ds)) := fun H0 env σ P H Q I p => by
  refine ha H0 env σ P H _ I ?_
  cases hf : fa env with
  | exc c => simp only [hf, R.bind_exc] at p; exact p
  | bad => simp only [hf, R.bind_bad] at p; exact p.elim
  | ok d =>
    intro v P1 H1 e1 r1
    refine hr H0 env σ P1 H1 _ (I.mono e1) ?_
    cases hg : fr env with
    | exc c => simp only [hf, hg, R.bind_exc, R.bind_ok] at p; exact fun P' H' e2 => p P' H' (e1.trans e2)
    | bad => simp only [hf, hg, R.bind_bad, R.bind_ok] at p; exact p.elim
    | ok ds =>
      simp only [hf, hg, R.bind_ok] at p
      exact fun vs P2 H2 e2 r2 => p (v :: vs) P2 H2 (e1.trans e2) (.cons (r1.mono e2) r2)
theorem SA.then {tr : TA} {fr : Env → R (List D)} {k : List D → R D} {Qb : List V → Hp → Prop} {H0 : Hp} {env : Env} (h : SA K cls E tr fr) (I : EnvOk K H0 env σ P H) (p : PostE K cls E σ P H ((fr env).bind k) Q)
    (q : ∀ ds vs P1 H1, fr env = .ok ds → Ext P H P1 H1 → Reps K P1 ds vs → PostE K cls E σ P1 H1 (k ds) Q → Qb vs H1) : tr σ H Qb := h H0 env σ P H Qb I (by
  cases hf : fr env with
  | ok d => rw [hf] at p; exact fun v P1 H1 e r => q d v P1 H1 hf e r (PostE.step e p)
  | exc c => rw [hf] at p; exact p
  | bad => rw [hf] at p; exact p)
theorem SAB.then {tr : TA} {fr : Env → R (List D)} {k : List D → R D} {Qb : List V → Hp → Prop} {H0 : Hp} {env : Env} (h : SAB K cls E tr fr) (I : EnvOk K H0 env σ P H) (p : PostE K cls E σ P H ((fr env).bind k) Q)
    (q : ∀ ds vs P1 H1, fr env = .ok ds → Ext P H P1 H1 → RepBs K P1 H1 ds vs → PostE K cls E σ P1 H1 (k ds) Q → Qb vs H1) : tr σ H Qb := h H0 env σ P H Qb I (by
  cases hf : fr env with
  | ok d => rw [hf] at p; exact fun v P1 H1 e r => q d v P1 H1 hf e r (PostE.step e p)
  | exc c => rw [hf] at p; exact p
  | bad => rw [hf] at p; exact p)
theorem se_tup {tr : TA} {fr : Env → R (List D)} (h : SA K cls E tr fr) : SE K cls E (tTup tr) (fun env => (fr env).bind fun ds => if ds.length ≤ lim then .ok (.tup ds) else .bad) := fun H0 env σ P H Q I p =>
  h.then I p fun ds vs P1 H1 _ e r p1 => by
    by_cases hl : ds.length ≤ lim
    · rw [if_pos hl] at p1
      refine ⟨by rw [← r.length, ← lim_eq]; exact hl, fun a ha => ?_⟩
      obtain ⟨P2, e2, r2⟩ := Res.keep e.ph (Res.newT ha r)
      exact p1 _ P2 _ e2 r2
    · rw [if_neg hl] at p1; exact p1.elim
theorem sn_lst {tr : TA} {fr : Env → R (List D)} (h : SA K cls E tr fr) : SN K cls E (tLst tr) (fun env => (fr env).bind fun ds => if ds.length ≤ lim then .ok (.lst ds) else .bad) := fun H0 env σ P H Q I p => by
  refine h H0 env σ P H _ I ?_
  cases hf : fr env with
  | exc c => simp only [hf, R.bind_exc] at p; exact p
  | bad => simp only [hf, R.bind_bad] at p; exact p.elim
  | ok ds =>
    intro vs P1 H1 e r
    simp only [hf, R.bind_ok] at p
    by_cases hl : ds.length ≤ lim
    · rw [if_pos hl] at p
      refine ⟨by rw [← r.length, ← lim_eq]; exact hl, fun a ha => ?_⟩
      exact p a vs P1 _ (e.trans (.newO e.ph ha)) (e.h.free ha) (e.ph.free ha) upd_same r
    · rw [if_neg hl] at p; exact p.elim
theorem se_bi {tr : TA} {fr : Env → R (List D)} {b : Bi} (h : SAB K cls E tr fr) : SE K cls E (tCB (rBi K b) tr) (fun env => (fr env).bind fun ds => R.ofO (biF b ds)) := fun H0 env σ P H Q I p =>
  h.then I p fun ds vs P1 H1 _ e r p1 => by
    obtain ⟨d, hd⟩ := p1.some
    exact ⟨P1, ds, d, e.ph, r, hd, fun v H' r => p1.res e.ph hd r⟩
theorem se_isi {ty : Ty} (ha : SB K cls E ta fa) : SE K cls E (tCB (rIsD K ty) (tCons ta (tCons (tC (.ty ty.n)) tNil))) (fun env => (fa env).bind fun x => .ok (.bl (isiF ty x))) := fun H0 env σ P H Q I p =>
  ha.then I p fun x v P1 H1 _ e1 r1 p1 I1 => ⟨v, P1, x, rfl, e1.ph, r1, p1 _ P1 H1 (.refl e1.ph) (.bl _)⟩
theorem se_rev (ha : SB K cls E ta fa) : SE K cls E (tRevL K ta) (fun env => (fa env).bind fun x => R.ofO (revF x)) := fun H0 env σ P H Q I p =>
  ha.then I p fun x v P1 H1 _ e1 r1 p1 I1 => by
    cases x with
    | lst ds =>
      obtain ⟨a, vs, rfl, h1, h2⟩ := r1.lst e1.ph
      exact ⟨a, vs, rfl, SqL.of h1, fun q hq => p1.res e1.ph rfl (.newL hq h2.reverse)⟩
    | _ => exact p1.elim
theorem se_revT (ha : SB K cls E ta fa) : SE K cls E (tRevT K ta) (fun env => (fa env).bind fun x => R.ofO (revTF x)) := fun H0 env σ P H Q I p =>
  ha.then I p fun x v P1 H1 _ e1 r1 p1 I1 => by
    cases x with
    | tup ds =>
      obtain ⟨a, vs, rfl, h1, h2⟩ := r1.tup
      exact ⟨a, vs, rfl, SqT.of (e1.ph _ _ h1), fun q hq => p1.res e1.ph rfl (.newT hq h2.reverse)⟩
    | _ => exact p1.elim
theorem so_none : SO K cls E tNoPart (fun _ => .ok none) := fun H0 env σ P H Q I p => p P H (.refl I.ex)
theorem so_some (ha : SB K cls E ta fa) : SO K cls E (tPart ta) (fun env => (fa env).bind fun x => (intD x).bind fun i => .ok (some i)) := fun H0 env σ P H Q I p =>
  ha.thenX I p fun x v P1 H1 _ e1 r1 p1 I1 => by
    rcases intD_bind (d := x) (k := fun i => R.ok (some i)) with ⟨i, rfl, h⟩ | h
    · rw [h] at p1
      exact ⟨i, r1.int, p1 P1 H1 (.refl e1.ph)⟩
    · rw [h] at p1; exact p1.elim
theorem SO.then {to : TO} {fo : Env → R (Option Int)} {k : Option Int → R D} {Qb : Option Int → Hp → Prop} {H0 : Hp} {env : Env} (h : SO K cls E to fo) (I : EnvOk K H0 env σ P H) (p : PostE K cls E σ P H ((fo env).bind k) Q)
    (q : ∀ o P1 H1, fo env = .ok o → Ext P H P1 H1 → PostE K cls E σ P1 H1 (k o) Q → EnvOk K H0 env σ P1 H1 → Qb o H1) : to σ H Qb := h H0 env σ P H Qb I (by
  cases hf : fo env with
  | ok d => rw [hf] at p; exact fun P1 H1 e => q d P1 H1 hf e (PostE.step e p) (I.mono e)
  | exc c => rw [hf] at p; exact p
  | bad => rw [hf] at p; exact p)
theorem se_slc {tl th : TO} {fl fh : Env → R (Option Int)} (ha : SB K cls E ta fa) (hl : SO K cls E tl fl) (hh : SO K cls E th fh) : SE K cls E (tSl (rSlc K) ta tl th) (fun env => (fa env).bind fun x => (fl env).bind fun l => (fh env).bind fun h => R.ofO (slcF x l h)) := fun H0 env σ P H Q I p =>
  ha.then I p fun x v P1 H1 _ e1 r1 p1 I1 => hl.then I1 p1 fun l P2 H2 _ e2 p2 I2 => hh.then I2 p2 fun h P3 H3 _ e3 p3 I3 => by
    obtain ⟨d, hd⟩ := p3.some
    exact ⟨P3, x, d, e3.ph, (r1.mono e2).mono e3, hd, fun v H' r => p3.res e3.ph hd r⟩
end
end Cl
set_option Elab.async false
set_option linter.all false
set_option maxRecDepth 100000
set_option maxHeartbeats 4000000
namespace Cl
open PySem L2 RZ

section
variable {K : W.Frag} {cls : Nat → Value} {E : EX} {σ : L2.St} {P H P1 H1 : Hp} {Q : VK} {t ta tb tc : TE} {f fa fb fc : Env → R D}

/-! ### what is walked -/
theorem walkD_at {B P0 : Hp} {J : It} {ds : List D} {vs : List V} {G : Hp → Prop} (w : Walk J vs.length G (YAt vs)) (hg : ∀ H, Ex B H → G H) (r : Reps K P0 ds vs) : WalkD K B P0 J ds := by
  refine ⟨G, YAt vs, by rw [r.length]; exact w, hg, fun i P H x H' hi e ph y => ?_⟩
  obtain ⟨rfl, hx⟩ := y
  obtain ⟨d, hd, hr⟩ := r.getV hx
  exact ⟨P, d, hd, .refl ph, hr.mono e⟩
theorem walkD_int {B P0 : Hp} {J : It} {ns : List Int} {n : Nat} {g : Nat → Int} (hn : n = ns.length) (w : Walk J n (fun _ => True) (YFn fun i => .int (g i))) (hg : ∀ i, i < n → ns[i]? = some (g i)) : WalkD K B P0 J (ns.map D.int) := by
  subst hn
  refine ⟨fun _ => True, _, by rw [List.length_map]; exact w, fun _ _ => trivial, fun i P H x H' hi e ph y => ?_⟩
  obtain ⟨rfl, hx⟩ := y
  rw [List.length_map] at hi
  refine ⟨P, .int (g i), by rw [List.getElem?_map, hg i hi]; rfl, .refl ph, ?_⟩
  rw [hx]; exact .int _
theorem walkD_pair {B P0 : Hp} {J : It} {ds : List D} {n : Nat} {G : Hp → Prop} {xs ys : Nat → Option V} (hn : n = ds.length) (w : Walk J n G (YPair xs ys)) (hg : ∀ H, Ex B H → G H)
    (hd : ∀ i x y, i < n → xs i = some x → ys i = some y → ∃ a b, ds[i]? = some (.tup [a, b]) ∧ Rep K P0 a x ∧ Rep K P0 b y) : WalkD K B P0 J ds := by
  subst hn
  refine ⟨G, _, w, hg, fun i P H v H' hi e ph y => ?_⟩
  obtain ⟨T, x, y, rfl, hT, rfl, h1, h2⟩ := y
  obtain ⟨a, b, h3, h4, h5⟩ := hd i x y hi h1 h2
  obtain ⟨P', e2, r2⟩ := Res.keep ph (Res.newT (K := K) hT (.cons (h4.mono e) (.cons (h5.mono e) .nil)))
  exact ⟨P', _, h3, e2, r2⟩
theorem si_lst {keep : Bool} (ha : SB K cls E ta fa) (hk : keep = true → SE K cls E ta fa) : SI K cls E keep (iList K ta) (fun env => (fa env).bind lstD) := fun H0 env σ P H Q I p => by
  have p2 : ∀ (d : D) (v : V) (P1 H1 : Hp), fa env = .ok d → Ext P H P1 H1 → (RepB K P1 H1 d v ∧ (keep = true → Rep K P1 d v)) → ∃ a, v = .ref a ∧ (∃ xs, SqL K H1 a xs) ∧ Q (Itl K a) H1 := fun d v P1 H1 hf e r => by
    simp only [hf, R.bind_ok] at p
    cases d with
    | lst ds =>
      obtain ⟨a, vs, rfl, h1, h2⟩ := r.1.lst e.ph
      refine ⟨a, rfl, ⟨vs, SqL.of h1⟩, p _ P1 H1 e (walkD_at walk_list (fun H2 e2 => ?_) h2)⟩
      cases keep with
      | false => exact sqL_ex e2 (SqL.of h1)
      | true =>
        have := r.2 rfl
        cases this with
        | lst g1 g2 =>
          have := e.ph _ _ g1
          rw [h1] at this; cases this
          exact SqL.of (e2 _ _ g1)
    | _ => exact p.elim
  cases keep with
  | false =>
    refine ha H0 env σ P H _ I ?_
    cases hf : fa env with
    | exc c => simp only [hf, R.bind_exc] at p; exact p
    | bad => simp only [hf, R.bind_bad] at p; exact p.elim
    | ok d => exact fun v P1 H1 e r => p2 d v P1 H1 hf e ⟨r, fun z => by cases z⟩
  | true =>
    refine hk rfl H0 env σ P H _ I ?_
    cases hf : fa env with
    | exc c => simp only [hf, R.bind_exc] at p; exact p
    | bad => simp only [hf, R.bind_bad] at p; exact p.elim
    | ok d => exact fun v P1 H1 e r => p2 d v P1 H1 hf e ⟨.inl r, fun _ => r⟩
theorem si_tup {keep : Bool} (ha : SB K cls E ta fa) : SI K cls E keep (iTup K ta) (fun env => (fa env).bind tupD) := fun H0 env σ P H Q I p => by
  refine ha H0 env σ P H _ I ?_
  cases hf : fa env with
  | exc c => simp only [hf, R.bind_exc] at p; exact p
  | bad => simp only [hf, R.bind_bad] at p; exact p.elim
  | ok d =>
    intro v P1 H1 e r
    simp only [hf, R.bind_ok] at p
    cases d with
    | tup ds =>
      obtain ⟨a, vs, rfl, h1, h2⟩ := r.tup
      refine ⟨a, rfl, ⟨vs, SqT.of (e.ph _ _ h1)⟩, p _ P1 H1 e (walkD_at walk_tup (fun H2 e2 => ?_) h2)⟩
      cases keep with
      | false => exact SqT.of (e2 _ _ (e.ph _ _ h1))
      | true => exact SqT.of (e2 _ _ h1)
    | _ => exact p.elim
theorem strD_len (x : Str) : (strD x).length = x.cps.size := by unfold strD; simp
theorem strD_get (x : Str) (i : Nat) : (strD x)[i]? = x.cps[i]?.map fun c => .str ⟨#[c]⟩ := by
  unfold strD
  rw [List.getElem?_map, Array.getElem?_toList]
theorem walkD_str {B P0 : Hp} {x : Str} : WalkD K B P0 (Its x) (strD x) := by
  refine ⟨fun _ => True, _, by rw [strD_len]; exact walk_str, fun _ _ => trivial, fun i P H v H' hi e ph y => ?_⟩
  obtain ⟨rfl, c, hc, rfl⟩ := y
  exact ⟨P, .str ⟨#[c]⟩, by rw [strD_get, hc]; rfl, .refl ph, .str _⟩
theorem si_str {keep : Bool} (ha : SB K cls E ta fa) : SI K cls E keep (iStr ta) (fun env => (fa env).bind strI) := fun H0 env σ P H Q I p => by
  refine ha H0 env σ P H _ I ?_
  cases hf : fa env with
  | exc c => simp only [hf, R.bind_exc] at p; exact p
  | bad => simp only [hf, R.bind_bad] at p; exact p.elim
  | ok d =>
    intro v P1 H1 e r
    simp only [hf, R.bind_ok] at p
    cases d with
    | str x =>
      obtain rfl := r.str
      exact ⟨x, rfl, p _ P1 H1 e walkD_str⟩
    | _ => exact p.elim
theorem enumD_get : ∀ (ds : List D) (n i : Nat), (enumD n ds)[i]? = ds[i]?.map fun d => .tup [.int ((n + i : Nat) : Int), d]
  | [], n, i => by simp [enumD]
  | d :: ds, n, 0 => by simp [enumD]
  | d :: ds, n, i + 1 => by
    rw [enumD, List.getElem?_cons_succ, enumD_get ds (n + 1) i, List.getElem?_cons_succ]
    have : n + 1 + i = n + (i + 1) := by omega
    rw [this]
theorem enumD_len : ∀ (ds : List D) (n : Nat), (enumD n ds).length = ds.length
  | [], n => rfl
  | d :: ds, n => by rw [enumD, List.length_cons, enumD_len ds]; rfl
theorem zipD_get : ∀ (as bs : List D) (i : Nat) (a b : D), as[i]? = some a → bs[i]? = some b → (zipD as bs)[i]? = some (.tup [a, b])
  | [], _, i, _, _, h, _ => by simp at h
  | _ :: _, [], i, _, _, _, h => by simp at h
  | x :: r, y :: s, 0, a, b, h1, h2 => by simp at h1 h2; subst h1 h2; rfl
  | x :: r, y :: s, i + 1, a, b, h1, h2 => by
    rw [zipD, List.getElem?_cons_succ]
    exact zipD_get r s i a b (by simpa using h1) (by simpa using h2)
theorem zipD_len : ∀ (as bs : List D), (zipD as bs).length = min as.length bs.length
  | [], _ => by simp [zipD]
  | _ :: _, [] => by simp [zipD]
  | x :: r, y :: s => by rw [zipD, List.length_cons, zipD_len r s, List.length_cons, List.length_cons]; omega
theorem si_enum {keep : Bool} (ha : SB K cls E ta fa) (hk : keep = true → SE K cls E ta fa) : SI K cls E keep (iEnum K (tCons ta tNil)) (fun env => (fa env).bind fun x => (lstD x).bind fun a => .ok (enumD 0 a)) := fun H0 env σ P H Q I p => by
  have p2 : ∀ (d : D) (v : V) (P1 H1 : Hp), fa env = .ok d → Ext P H P1 H1 → (RepB K P1 H1 d v ∧ (keep = true → Rep K P1 d v)) → ∃ a xs, [v] = [V.ref a] ∧ SqL K H1 a xs ∧ Q (Ite K a) H1 := fun d v P1 H1 hf e r => by
    simp only [hf, R.bind_ok] at p
    cases d with
    | lst ds =>
      obtain ⟨a, vs, rfl, h1, h2⟩ := r.1.lst e.ph
      refine ⟨a, vs, rfl, SqL.of h1, p _ P1 H1 e (walkD_pair (by rw [enumD_len, h2.length]) walk_enum (fun H2 e2 => ?_) fun i x y hi hx hy => ?_)⟩
      · cases keep with
        | false => exact sqL_ex e2 (SqL.of h1)
        | true =>
          have := r.2 rfl
          cases this with
          | lst g1 g2 =>
            have := e.ph _ _ g1
            rw [h1] at this; cases this
            exact SqL.of (e2 _ _ g1)
      · cases hx
        obtain ⟨d, hd, hr⟩ := h2.getV hy
        refine ⟨_, d, by rw [enumD_get, hd]; rfl, ?_, hr⟩
        rw [Nat.zero_add]; exact .int _
    | _ => exact p.elim
  cases keep with
  | false =>
    refine ha H0 env σ P H _ I ?_
    cases hf : fa env with
    | exc c => simp only [hf, R.bind_exc] at p; exact p
    | bad => simp only [hf, R.bind_bad] at p; exact p.elim
    | ok d => exact fun v P1 H1 e r => p2 d v P1 H1 hf e ⟨r, fun z => by cases z⟩
  | true =>
    refine hk rfl H0 env σ P H _ I ?_
    cases hf : fa env with
    | exc c => simp only [hf, R.bind_exc] at p; exact p
    | bad => simp only [hf, R.bind_bad] at p; exact p.elim
    | ok d => exact fun v P1 H1 e r => p2 d v P1 H1 hf e ⟨.inl r, fun _ => r⟩
theorem si_enumS {keep : Bool} (ha : SB K cls E ta fa) : SI K cls E keep (iEnumS (tCons ta tNil)) (fun env => (fa env).bind fun x => (strI x).bind fun a => .ok (enumD 0 a)) := fun H0 env σ P H Q I p => by
  refine ha H0 env σ P H _ I ?_
  cases hf : fa env with
  | exc c => simp only [hf, R.bind_exc] at p; exact p
  | bad => simp only [hf, R.bind_bad] at p; exact p.elim
  | ok d =>
    intro v P1 H1 e r
    simp only [hf, R.bind_ok] at p
    cases d with
    | str x =>
      obtain rfl := r.str
      refine ⟨x, rfl, p _ P1 H1 e (walkD_pair (by rw [enumD_len, strD_len]) walk_enumS (fun _ _ => trivial) fun i a b hi hx hy => ?_)⟩
      cases hx
      obtain ⟨c, hc, rfl⟩ := Option.map_eq_some_iff.mp hy
      refine ⟨_, .str ⟨#[c]⟩, by rw [enumD_get, strD_get, hc]; rfl, ?_, .str _⟩
      rw [Nat.zero_add]; exact .int _
    | _ => exact p.elim
theorem walk_zipT {a b : Addr} {xs ys : List V} {n : Nat} (hn : n = min xs.length ys.length) : Walk (ItzT K a b) n (fun H => SqT K H a xs ∧ SqT K H b ys) (YPair (fun i => xs[i]?) (fun i => ys[i]?)) := by
  subst hn
  refine ⟨fun i _ hi q => ?_, fun _ q => ⟨xs, ys, q.1, q.2, by omega⟩, fun i H v H' _ q y => ?_⟩
  · have h1 : i < xs.length := by omega
    have h2 : i < ys.length := by omega
    exact ⟨xs, ys, xs[i], ys[i], q.1, q.2, by simp [h1], by simp [h2]⟩
  · obtain ⟨T, x, z, h1, h2, h3, h4, h5⟩ := y
    exact ⟨T, x, z, h1, h2, h3, h4 xs q.1, h5 ys q.2⟩
theorem zip_pair {P0 : Hp} {as bs : List D} {vs ws : List V} (r1 : Reps K P0 as vs) (r2 : Reps K P0 bs ws) (i : Nat) (x y : V) (hx : vs[i]? = some x) (hy : ws[i]? = some y) : ∃ a b, (zipD as bs)[i]? = some (.tup [a, b]) ∧ Rep K P0 a x ∧ Rep K P0 b y := by
  obtain ⟨a, ha, ra⟩ := r1.getV hx
  obtain ⟨b, hb, rb⟩ := r2.getV hy
  exact ⟨a, b, zipD_get as bs i a b ha hb, ra, rb⟩
/-- zip, its operands kept -/
theorem si_zip {keep : Bool} (ha : SE K cls E ta fa) (hb : SE K cls E tb fb) : SI K cls E keep (iZipA K (tCons ta (tCons tb tNil))) (fun env => (fa env).bind fun x => (fb env).bind fun y => zipDD x y) := fun H0 env σ P H Q I p => by
  refine ha H0 env σ P H _ I ?_
  cases hf : fa env with
  | exc c => simp only [hf, R.bind_exc] at p; exact p
  | bad => simp only [hf, R.bind_bad] at p; exact p.elim
  | ok d =>
    intro v P1 H1 e1 r1
    refine hb H0 env σ P1 H1 _ (I.mono e1) ?_
    cases hg : fb env with
    | exc c => simp only [hf, hg, R.bind_exc, R.bind_ok] at p; exact fun P' H' e2 => p P' H' (e1.trans e2)
    | bad => simp only [hf, hg, R.bind_bad, R.bind_ok] at p; exact p.elim
    | ok d2 =>
      simp only [hf, hg, R.bind_ok] at p
      intro u P2 H2 e2 r2
      cases d with
      | lst as =>
        cases d2 with
        | lst bs =>
          cases r1 with
          | lst g1 q1 =>
            cases r2 with
            | lst g2 q2 =>
              have g1' := e2.p _ _ g1
              have q1' := q1.mono e2.p
              refine ⟨_, _, _, _, rfl, .inl ⟨SqL.of (e2.ph _ _ g1'), SqL.of (e2.ph _ _ g2), p _ P2 H2 (e1.trans e2) (walkD_pair (by rw [zipD_len, q1.length, q2.length]) (walk_zip rfl) (fun H3 e3 => ?_) fun i x y hi hx hy => zip_pair q1' q2 i x y hx hy)⟩⟩
              cases keep with
              | false => exact ⟨SqL.of (e3 _ _ (e2.ph _ _ g1')), SqL.of (e3 _ _ (e2.ph _ _ g2))⟩
              | true => exact ⟨SqL.of (e3 _ _ g1'), SqL.of (e3 _ _ g2)⟩
        | _ => exact p.elim
      | tup as =>
        cases d2 with
        | tup bs =>
          cases r1 with
          | tup g1 q1 =>
            cases r2 with
            | tup g2 q2 =>
              have g1' := e2.p _ _ g1
              have q1' := q1.mono e2.p
              refine ⟨_, _, _, _, rfl, .inr ⟨SqT.of (e2.ph _ _ g1'), SqT.of (e2.ph _ _ g2), p _ P2 H2 (e1.trans e2) (walkD_pair (by rw [zipD_len, q1.length, q2.length]) (walk_zipT rfl) (fun H3 e3 => ?_) fun i x y hi hx hy => zip_pair q1' q2 i x y hx hy)⟩⟩
              cases keep with
              | false => exact ⟨SqT.of (e3 _ _ (e2.ph _ _ g1')), SqT.of (e3 _ _ (e2.ph _ _ g2))⟩
              | true => exact ⟨SqT.of (e3 _ _ g1'), SqT.of (e3 _ _ g2)⟩
        | _ => exact p.elim
      | _ => exact p.elim
/-! ranges -/
theorem rgI_get {a b : Int} {i : Nat} (h : i < (b - a).toNat) : (rgI a b)[i]? = some (a + (i : Int)) := by
  unfold rgI
  rw [List.getElem?_map, List.getElem?_range h]; rfl
theorem rgI_len (a b : Int) : (rgI a b).length = (b - a).toNat := by unfold rgI; simp
theorem okRg_iff {a b : Int} (h : okRg a b = true) : -100000 ≤ a ∧ a ≤ 100000 ∧ -100000 ≤ b ∧ b ≤ 100000 := by
  unfold okRg at h; exact of_decide_eq_true h
theorem PostI.step {r : R (List D)} {keep : Bool} {Q : It → Hp → Prop} (e : Ext P H P1 H1) (p : PostI K cls E σ P H keep r Q) : PostI K cls E σ P1 H1 keep r Q := by
  cases r with
  | ok d => exact fun J P' H' e2 rp => p J P' H' (e.trans e2) rp
  | exc c => exact fun P' H' e2 => p P' H' (e.trans e2)
  | bad => exact p
theorem SB.thenI {k : D → R (List D)} {keep : Bool} {Qb : VK} {Qi : It → Hp → Prop} {H0 : Hp} {env : Env} (h : SB K cls E t f) (I : EnvOk K H0 env σ P H) (p : PostI K cls E σ P H keep ((f env).bind k) Qi)
    (q : ∀ d v P1 H1, f env = .ok d → Ext P H P1 H1 → RepB K P1 H1 d v → PostI K cls E σ P1 H1 keep (k d) Qi → EnvOk K H0 env σ P1 H1 → Qb v H1) : t σ H Qb := h H0 env σ P H Qb I (by
  cases hf : f env with
  | ok d => rw [hf] at p; exact fun v P1 H1 e r => q d v P1 H1 hf e r (PostI.step e p) (I.mono e)
  | exc c => rw [hf] at p; exact p
  | bad => rw [hf] at p; exact p)
theorem rgD_ok {a b : Int} {Qi : It → Hp → Prop} {keep : Bool} (e : Ex P H) (p : PostI K cls E σ P H keep (rgD a b) Qi) : (-100000 ≤ a ∧ a ≤ 100000 ∧ -100000 ≤ b ∧ b ≤ 100000) ∧ Qi (Itr a (b - a).toNat) H := by
  unfold rgD at p
  by_cases hk : okRg a b = true
  · rw [if_pos hk] at p
    refine ⟨okRg_iff hk, p _ P H (.refl e) (walkD_int (rgI_len a b).symm walk_range fun i hi => rgI_get hi)⟩
  · rw [if_neg hk] at p; exact p.elim
theorem si_rng1 {keep : Bool} (ha : SB K cls E ta fa) : SI K cls E keep (iRng1 (tCons ta tNil)) (fun env => (fa env).bind fun x => (intD x).bind fun i => rgD 0 i) := fun H0 env σ P H Q I p =>
  ha.thenI I p fun x v P1 H1 _ e1 r1 p1 I1 => by
    rcases intD_bind (d := x) (k := fun i => rgD 0 i) with ⟨i, rfl, h⟩ | h
    · rw [h] at p1
      obtain ⟨hk, q⟩ := rgD_ok e1.ph p1
      rw [Int.sub_zero] at q
      exact ⟨i, by rw [r1.int], by omega, by omega, q⟩
    · rw [h] at p1; exact p1.elim
theorem si_rng2 {keep : Bool} (ha : SB K cls E ta fa) (hb : SB K cls E tb fb) : SI K cls E keep (iRng2 (tCons ta (tCons tb tNil))) (fun env => (fa env).bind fun x => (fb env).bind fun y => (intD x).bind fun i => (intD y).bind fun j => rgD i j) := fun H0 env σ P H Q I p =>
  ha.thenI I p fun x v P1 H1 _ e1 r1 p1 I1 => hb.thenI I1 p1 fun y u P2 H2 _ e2 r2 p2 I2 => by
    rcases intD_bind (d := x) (k := fun i => (intD y).bind fun j => rgD i j) with ⟨i, rfl, h⟩ | h
    · rw [h] at p2
      rcases intD_bind (d := y) (k := fun j => rgD i j) with ⟨j, rfl, h'⟩ | h'
      · rw [h'] at p2
        obtain ⟨hk, q⟩ := rgD_ok e2.ph p2
        exact ⟨i, j, by rw [r1.int, r2.int], ⟨by omega, by omega, by omega, by omega⟩, q⟩
      · rw [h'] at p2; exact p2.elim
    · rw [h] at p2; exact p2.elim
theorem fitsLong {x : Int} (h : -1000000 ≤ x ∧ x ≤ 1000000) : Builtin.Range.rangeFitsLong x = true := by
  unfold Builtin.Range.rangeFitsLong
  simp only [Bool.and_eq_true, decide_eq_true_eq]
  omega
theorem rgC_ok {a b c : Int} (h : -100000 ≤ a ∧ a ≤ 100000 ∧ -100000 ≤ b ∧ b ≤ 100000) (hc : 0 < c ∧ c ≤ 1000) : RgC a b c (rgC a b c).length ∧ (rgC a b c).length ≤ 2 ^ 24 := by
  have hs : Builtin.Range.rangeSize a b c = (((rgC a b c).length : Nat) : Int) := by
    unfold Builtin.Range.rangeSize rgC
    rw [if_pos hc.1, List.length_map, List.length_range]
    have e : b - a + c - 1 = (b - a - 1) + 1 * c := by omega
    rw [e, Int.add_mul_ediv_right _ _ (by omega)]
    by_cases hab : a < b
    · rw [if_pos hab]
      have : 0 ≤ (b - a - 1) / c := Int.ediv_nonneg (by omega) (by omega)
      omega
    · rw [if_neg hab]
      have : (b - a - 1) / c < 0 := Int.ediv_neg_of_neg_of_pos (by omega) hc.1
      omega
  have hl : (rgC a b c).length ≤ 200000 := by
    have : (((rgC a b c).length : Nat) : Int) ≤ 200000 := by
      rw [← hs]
      unfold Builtin.Range.rangeSize
      rw [if_pos hc.1]
      split
      · have := Int.ediv_le_self c (show 0 ≤ b - a - 1 by omega)
        omega
      · omega
    omega
  refine ⟨⟨by omega, by omega, ?_, hs⟩, Nat.le_trans hl (by decide)⟩
  unfold Builtin.Range.small
  rw [hs, fitsLong (by omega), fitsLong (by omega), fitsLong (by omega), fitsLong (by omega), if_pos hc.1, fitsLong (by omega)]
  simp
theorem rgC_get {a b c : Int} {i : Nat} (h : i < (rgC a b c).length) : (rgC a b c)[i]? = some (a + (i : Int) * c) := by
  have h' : i < ((b - a + c - 1) / c).toNat := by unfold rgC at h; simpa using h
  unfold rgC
  rw [List.getElem?_map, List.getElem?_range h']; rfl
theorem rgCV_eq (a b c : Int) : rgCV a c (rgC a b c).length = (rgC a b c).map V.int := by
  unfold rgCV rgC
  rw [List.length_map, List.length_range, List.map_map]; rfl
theorem rgCD_iff {a b c : Int} : (∃ h : (-100000 ≤ a ∧ a ≤ 100000 ∧ -100000 ≤ b ∧ b ≤ 100000) ∧ (0 < c ∧ c ≤ 1000), rgCD a b c = .ok ((rgC a b c).map D.int)) ∨ rgCD a b c = .bad := by
  unfold rgCD
  by_cases h : (okRg a b && decide (0 < c ∧ c ≤ 1000)) = true
  · rw [if_pos h]
    rw [Bool.and_eq_true, decide_eq_true_eq] at h
    exact .inl ⟨⟨okRg_iff h.1, h.2⟩, rfl⟩
  · rw [if_neg h]
    exact .inr rfl
theorem si_rng3 {keep : Bool} (ha : SB K cls E ta fa) (hb : SB K cls E tb fb) (hc : SB K cls E tc fc) : SI K cls E keep (iRng3 (tCons ta (tCons tb (tCons tc tNil)))) (fun env => (fa env).bind fun x => (fb env).bind fun y => (fc env).bind fun z => (intD x).bind fun i => (intD y).bind fun j => (intD z).bind fun k => rgCD i j k) := fun H0 env σ P H Q I p =>
  ha.thenI I p fun x v P1 H1 _ e1 r1 p1 I1 => hb.thenI I1 p1 fun y u P2 H2 _ e2 r2 p2 I2 => hc.thenI I2 p2 fun z w P3 H3 _ e3 r3 p3 I3 => by
    rcases intD_bind (d := x) (k := fun i => (intD y).bind fun j => (intD z).bind fun k => rgCD i j k) with ⟨i, rfl, h⟩ | h
    · rw [h] at p3
      rcases intD_bind (d := y) (k := fun j => (intD z).bind fun k => rgCD i j k) with ⟨j, rfl, h'⟩ | h'
      · rw [h'] at p3
        rcases intD_bind (d := z) (k := fun k => rgCD i j k) with ⟨k, rfl, h''⟩ | h''
        · rw [h''] at p3
          rcases rgCD_iff (a := i) (b := j) (c := k) with ⟨⟨hk, hc⟩, e⟩ | e
          · rw [e] at p3
            exact ⟨i, j, k, _, by rw [r1.int, r2.int, r3.int], (rgC_ok hk hc).1, p3 _ P3 H3 (.refl e3.ph) (walkD_int rfl walk_rangeC fun i hi => rgC_get hi)⟩
          · rw [e] at p3; exact p3.elim
        · rw [h''] at p3; exact p3.elim
      · rw [h'] at p3; exact p3.elim
    · rw [h] at p3; exact p3.elim
theorem se_rg3 (ha : SB K cls E ta fa) (hb : SB K cls E tb fb) (hc : SB K cls E tc fc) : SE K cls E (tLstRg3 (tCons ta (tCons tb (tCons tc tNil)))) (fun env => ((fa env).bind fun x => (fb env).bind fun y => (fc env).bind fun z => (intD x).bind fun i => (intD y).bind fun j => (intD z).bind fun k => rgCD i j k).bind fun ds => .ok (.lst ds)) := fun H0 env σ P H Q I p => by
  have as : ((fa env).bind fun x => (fb env).bind fun y => (fc env).bind fun z => (intD x).bind fun i => (intD y).bind fun j => (intD z).bind fun k => rgCD i j k).bind (fun ds => R.ok (D.lst ds)) = (fa env).bind fun x => (fb env).bind fun y => (fc env).bind fun z => (intD x).bind fun i => (intD y).bind fun j => (intD z).bind fun k => (rgCD i j k).bind fun ds => .ok (.lst ds) := by
    cases fa env <;> try rfl
    cases fb env <;> try rfl
    cases fc env <;> try rfl
    rename_i x y z
    cases x <;> try rfl
    cases y <;> try rfl
    cases z <;> rfl
  have p : PostE K cls E σ P H _ Q := p
  simp only [] at p
  rw [as] at p
  exact ha.then I p fun x v P1 H1 _ e1 r1 p1 I1 => hb.then I1 p1 fun y u P2 H2 _ e2 r2 p2 I2 => hc.then I2 p2 fun z w P3 H3 _ e3 r3 p3 I3 => by
    cases x with
    | int i =>
      cases y with
      | int j =>
        cases z with
        | int k =>
          simp only [intD, R.bind_ok] at p3
          rcases rgCD_iff (a := i) (b := j) (c := k) with ⟨⟨hk, hc⟩, e⟩ | e
          · rw [e, R.bind_ok] at p3
            refine ⟨i, j, k, _, by rw [r1.int, r2.int, r3.int], (rgC_ok hk hc).1, (rgC_ok hk hc).2, fun q hq => ?_⟩
            rw [rgCV_eq]
            obtain ⟨P4, e4, r4⟩ := Res.keep e3.ph (Res.newL (K := K) hq (reps_ints (rgC i j k)))
            exact p3 _ P4 _ e4 r4
          · rw [e] at p3; exact p3.elim
        | _ => exact p3.elim
      | _ => exact p3.elim
    | _ => exact p3.elim
theorem rgV_eq (a b : Int) : rgV a b = (rgI a b).map V.int := by
  unfold rgV rgI
  rw [List.map_map]; rfl
theorem rg_ok {a b : Int} (h : okRg a b = true) : RgOk a b := by
  have := okRg_iff h
  unfold RgOk
  refine ⟨by omega, by omega, by omega, by omega, ?_⟩
  have : (b - a).toNat ≤ 200000 := by omega
  exact Nat.le_trans this (by decide)
theorem se_rg1 (ha : SB K cls E ta fa) : SE K cls E (tLstRg (tRg1 ta)) (fun env => ((fa env).bind fun x => (intD x).bind fun i => rgD 0 i).bind fun ds => .ok (.lst ds)) := fun H0 env σ P H Q I p => by
  refine ha H0 env σ P H _ I ?_
  cases hf : fa env with
  | exc c => simp only [hf, R.bind_exc] at p; exact p
  | bad => simp only [hf, R.bind_bad] at p; exact p.elim
  | ok d =>
    intro v P1 H1 e r
    simp only [hf, R.bind_ok] at p
    cases d with
    | int i =>
      simp only [intD, R.bind_ok, rgD] at p
      by_cases hk : okRg 0 i = true
      · rw [if_pos hk] at p
        refine ⟨i, r.int, rg_ok hk, fun q hq => ?_⟩
        rw [rgV_eq]
        obtain ⟨P2, e2, r2⟩ := Res.keep e.ph (Res.newL (K := K) hq (reps_ints (rgI 0 i)))
        exact p _ P2 _ (e.trans e2) r2
      · rw [if_neg hk] at p; exact p.elim
    | _ => exact p.elim
theorem se_rg2 (ha : SB K cls E ta fa) (hb : SB K cls E tb fb) : SE K cls E (tLstRg (tRg2 ta tb)) (fun env => ((fa env).bind fun x => (fb env).bind fun y => (intD x).bind fun i => (intD y).bind fun j => rgD i j).bind fun ds => .ok (.lst ds)) := fun H0 env σ P H Q I p => by
  refine ha H0 env σ P H _ I ?_
  cases hf : fa env with
  | exc c => simp only [hf, R.bind_exc] at p; exact p
  | bad => simp only [hf, R.bind_bad] at p; exact p.elim
  | ok d =>
    intro v P1 H1 e r
    refine hb H0 env σ P1 H1 _ (I.mono e) ?_
    cases hg : fb env with
    | exc c => simp only [hf, hg, R.bind_exc, R.bind_ok] at p; exact fun P' H' e2 => p P' H' (e.trans e2)
    | bad => simp only [hf, hg, R.bind_bad, R.bind_ok] at p; exact p.elim
    | ok d2 =>
      intro u P2 H2 e2 r2
      simp only [hf, hg, R.bind_ok] at p
      cases d with
      | int i =>
        cases d2 with
        | int j =>
          simp only [intD, R.bind_ok, rgD] at p
          by_cases hk : okRg i j = true
          · rw [if_pos hk] at p
            refine ⟨i, j, r.int, r2.int, rg_ok hk, fun q hq => ?_⟩
            rw [rgV_eq]
            obtain ⟨P3, e3, r3⟩ := Res.keep e2.ph (Res.newL (K := K) hq (reps_ints (rgI i j)))
            exact p _ P3 _ ((e.trans e2).trans e3) r3
          · rw [if_neg hk] at p; exact p.elim
        | _ => exact p.elim
      | _ => cases d2 <;> exact p.elim
theorem se_rt2 (ha : SB K cls E ta fa) (hb : SB K cls E tb fb) : SE K cls E (tTupRg (tRg2 ta tb)) (fun env => ((fa env).bind fun x => (fb env).bind fun y => (intD x).bind fun i => (intD y).bind fun j => rgD i j).bind fun ds => .ok (.tup ds)) := fun H0 env σ P H Q I p => by
  refine ha H0 env σ P H _ I ?_
  cases hf : fa env with
  | exc c => simp only [hf, R.bind_exc] at p; exact p
  | bad => simp only [hf, R.bind_bad] at p; exact p.elim
  | ok d =>
    intro v P1 H1 e r
    refine hb H0 env σ P1 H1 _ (I.mono e) ?_
    cases hg : fb env with
    | exc c => simp only [hf, hg, R.bind_exc, R.bind_ok] at p; exact fun P' H' e2 => p P' H' (e.trans e2)
    | bad => simp only [hf, hg, R.bind_bad, R.bind_ok] at p; exact p.elim
    | ok d2 =>
      intro u P2 H2 e2 r2
      simp only [hf, hg, R.bind_ok] at p
      cases d with
      | int i =>
        cases d2 with
        | int j =>
          simp only [intD, R.bind_ok, rgD] at p
          by_cases hk : okRg i j = true
          · rw [if_pos hk] at p
            refine ⟨i, j, r.int, r2.int, rg_ok hk, fun q hq => ?_⟩
            rw [rgV_eq]
            obtain ⟨P3, e3, r3⟩ := Res.keep e2.ph (Res.newT (K := K) hq (reps_ints (rgI i j)))
            exact p _ P3 _ ((e.trans e2).trans e3) r3
          · rw [if_neg hk] at p; exact p.elim
        | _ => exact p.elim
      | _ => cases d2 <;> exact p.elim
theorem se_rt1 (ha : SB K cls E ta fa) : SE K cls E (tTupRg (tRg1 ta)) (fun env => ((fa env).bind fun x => (intD x).bind fun i => rgD 0 i).bind fun ds => .ok (.tup ds)) := fun H0 env σ P H Q I p => by
  refine ha H0 env σ P H _ I ?_
  cases hf : fa env with
  | exc c => simp only [hf, R.bind_exc] at p; exact p
  | bad => simp only [hf, R.bind_bad] at p; exact p.elim
  | ok d =>
    intro v P1 H1 e r
    simp only [hf, R.bind_ok] at p
    cases d with
    | int i =>
      simp only [intD, R.bind_ok, rgD] at p
      by_cases hk : okRg 0 i = true
      · rw [if_pos hk] at p
        refine ⟨i, r.int, rg_ok hk, fun q hq => ?_⟩
        rw [rgV_eq]
        obtain ⟨P2, e2, r2⟩ := Res.keep e.ph (Res.newT (K := K) hq (reps_ints (rgI 0 i)))
        exact p _ P2 _ (e.trans e2) r2
      · rw [if_neg hk] at p; exact p.elim
    | _ => exact p.elim
/-! ### targets -/
theorem wipe_set_in {x : Option V} : ∀ {vs : List Nat} {σ : L2.St} {j : Nat}, j ∈ vs → wipe (σ.set j x) vs = wipe σ vs
  | [], _, _, h => by simp at h
  | v :: vs, σ, j, h => by
    unfold wipe
    by_cases hj : j ∈ vs
    · rw [wipe_set_in hj]
    · have e : v = j := by
        rcases List.mem_cons.mp h with h | h
        · exact h.symm
        · exact absurd h hj
      subst e
      rw [wipe_set_out hj, List.set_set]
where
  wipe_set_out {x : Option V} : ∀ {vs : List Nat} {σ : L2.St} {j : Nat}, j ∉ vs → wipe (σ.set j x) vs = (wipe σ vs).set j x
    | [], _, _, _ => rfl
    | v :: vs, σ, j, h => by
      unfold wipe
      simp only [List.mem_cons, not_or] at h
      rw [wipe_set_out h.2, List.set_comm _ _ (Ne.symm (Ne.symm h.1))]
theorem wipe_wipe {vs : List Nat} {σ : L2.St} : wipe (wipe σ vs) vs = wipe σ vs := by
  have : ∀ ws : List Nat, (∀ w ∈ ws, w ∈ vs) → wipe (wipe σ ws) vs = wipe σ vs := by
    intro ws
    induction ws with
    | nil => intro _; rfl
    | cons w ws ih =>
      intro h
      show wipe ((wipe σ ws).set w none) vs = wipe σ vs
      rw [wipe_set_in (h w (List.mem_cons_self)), ih fun z hz => h z (List.mem_cons_of_mem _ hz)]
  exact this vs fun _ h => h
theorem sg_names {H0 : Hp} : ∀ (is : List Nat) (ds : List D) (xs : List V) (env env' : Env) (σ : L2.St), EnvOk K H0 env σ P H → Reps K P ds xs → setAll is ds env = .ok env' → ∀ Qg : L2.St → Hp → Prop,
    (∀ σ', EnvOk K H0 env' σ' P H → (∀ vs : List Nat, (∀ i ∈ is, i ∈ vs) → wipe σ' vs = wipe σ vs) → Qg σ' H) → gNames is xs σ H Qg
  | [], ds, xs, env, env', σ, I, r, h, Qg, q => by
    cases ds with
    | nil =>
      cases r
      simp only [setAll, R.ok.injEq] at h
      subst h
      exact ⟨rfl, q σ I fun _ _ => rfl⟩
    | cons _ _ => simp [setAll] at h
  | i :: is, ds, xs, env, env', σ, I, r, h, Qg, q => by
    cases ds with
    | nil => simp [setAll] at h
    | cons d ds =>
      cases r with
      | cons r1 r2 =>
        refine ⟨_, _, rfl, ?_⟩
        show gNames is _ (σ.set i _) H Qg
        refine sg_names is ds _ _ env' _ (I.set r1) r2 h Qg fun σ' I' hw => q σ' I' fun vs hv => ?_
        rw [hw vs fun j hj => hv j (List.mem_cons_of_mem _ hj), wipe_set_in (hv i (List.mem_cons_self))]
theorem setAll_len : ∀ {is : List Nat} {ds : List D} {env env' : Env}, setAll is ds env = .ok env' → ds.length = is.length
  | [], [], _, _, _ => rfl
  | [], _ :: _, _, _, h => by simp [setAll] at h
  | _ :: _, [], _, _, h => by simp [setAll] at h
  | i :: is, d :: ds, env, env', h => by simp [setAll_len (is := is) (ds := ds) h]
theorem sg_of {H0 : Hp} {tg : Tg} {d : D} {x : V} {env env' : Env} (I : EnvOk K H0 env σ P H) (r : Rep K P d x) (h : setTg tg d env = .ok env') {Qg : L2.St → Hp → Prop}
    (q : ∀ σ', EnvOk K H0 env' σ' P H → (∀ vs : List Nat, tg.inn vs = true → wipe σ' vs = wipe σ vs) → Qg σ' H) : tOfG K tg x σ H Qg := by
  cases tg with
  | nm i =>
    simp only [setTg, R.ok.injEq] at h
    subst h
    exact q _ (I.set r) fun vs hv => wipe_set_in (by simpa [Tg.inn] using hv)
  | tp is =>
    cases d with
    | tup ds =>
      cases r with
      | tup g r =>
        refine .inl ⟨_, _, rfl, SqT.of (I.ex _ _ g), by rw [← r.length]; exact setAll_len h, sg_names is ds _ env env' σ I r h Qg fun σ' I' hw => q σ' I' fun vs hv => hw vs fun i hi => ?_⟩
        simp only [Tg.inn, List.all_eq_true] at hv
        simpa using hv i hi
    | lst ds =>
      cases r with
      | lst g r =>
        refine .inr ⟨_, _, rfl, SqL.of (I.ex _ _ g), by rw [← r.length]; exact setAll_len h, sg_names is ds _ env env' σ I r h Qg fun σ' I' hw => q σ' I' fun vs hv => hw vs fun i hi => ?_⟩
        simp only [Tg.inn, List.all_eq_true] at hv
        simpa using hv i hi
    | _ => simp [setTg] at h
theorem sg_tup {H0 : Hp} {is : List Nat} {ds : List D} {x : V} {env env' : Env} (I : EnvOk K H0 env σ P H) (r : Rep K P (.tup ds) x) (h : setAll is ds env = .ok env') {Qg : L2.St → Hp → Prop} (q : ∀ σ', EnvOk K H0 env' σ' P H → Qg σ' H) : gTup K is.length (gNames is) x σ H Qg := by
  cases r with
  | tup g r => exact ⟨_, _, rfl, SqT.of (I.ex _ _ g), by rw [← r.length]; exact setAll_len h, sg_names is ds _ env env' σ I r h Qg fun σ' I' _ => q σ' I'⟩
end
end Cl
set_option Elab.async false
set_option linter.all false
set_option maxRecDepth 100000
set_option maxHeartbeats 4000000
namespace Cl
open PySem L2 RZ

section
variable {K : W.Frag} {cls : Nat → Value} {E : EX} {σ : L2.St} {P H P1 H1 : Hp} {Q : VK} {t ta tb tc te : TE} {f fa fb fc fe : Env → R D}
theorem get_drop {α : Type} {l : List α} {i : Nat} {a : α} (h : l[i]? = some a) : l.drop i = a :: l.drop (i + 1) := by
  obtain ⟨hl, rfl⟩ := List.getElem?_eq_some_iff.mp h
  exact List.drop_eq_getElem_cons hl
/-- the list that a comprehension fills: D the list, the results so far in it, the others to come -/
def Fill (K : W.Frag) (P1 H1 : Hp) (g : D → R (Option D)) (ds ys : List D) (Dl : Addr) (i : Nat) (H' : Hp) : Prop :=
  ∃ P' vs acc rest, Ext P1 H1 P' H' ∧ P' Dl = none ∧ H' Dl = some (.lst vs) ∧ Reps K P' acc vs ∧ ys = acc ++ rest ∧ comp g (ds.drop i) = .ok rest ∧ acc.length ≤ i
theorem sn_lc {wi : TI} {fi : Env → R (List D)} {tt : TT} {ft : Env → R Bool} {tg : Tg} {vs : List Nat} {eb : Bool} (hi : SI K cls E false wi fi) (ht : ST K cls EX0 tt ft) (he : eb = false → SE K cls EX0 te fe) :
    SN K cls E (tLc wi (tOfG K tg) tt te vs) (fun env => (fi env).bind fun ds => if ds.length ≤ lim ∧ tg.inn vs = true ∧ eb = false then
      (comp (fun d => (setTg tg d (wipeE env vs)).bind fun e1 => (ft e1).bind fun k => optB k (fe e1)) ds).bind fun ys => .ok (.lst ys) else .bad) := fun H0 env σ P H Q I p => by
  refine hi H0 env σ P H _ I ?_
  cases hf : fi env with
  | exc c => simp only [hf, R.bind_exc] at p; exact p
  | bad => simp only [hf, R.bind_bad] at p; exact p.elim
  | ok ds =>
    simp only [hf, R.bind_ok] at p
    by_cases hc : ds.length ≤ lim ∧ tg.inn vs = true ∧ eb = false
    case neg => rw [if_neg hc] at p; exact p.elim
    rw [if_pos hc] at p
    obtain ⟨hl, hin, hb⟩ := hc
    generalize hg : (fun d => (setTg tg d (wipeE env vs)).bind fun e1 => (ft e1).bind fun k => optB k (fe e1)) = g at p
    cases hq : comp g ds with
    | exc c =>
      exfalso
      have : ∀ l : List D, ∀ c, comp g l ≠ .exc c := by
        intro l
        induction l with
        | nil => intro c h; simp [comp] at h
        | cons a r ih =>
          intro c h
          unfold comp at h
          cases ha : g a with
          | ok o =>
            simp only [ha] at h
            cases hr : comp g r with
            | ok ys => simp [hr] at h
            | exc c' => exact ih c' hr
            | bad => simp [hr] at h
          | exc c' => simp [ha] at h
          | bad => simp [ha] at h
      exact this ds c hq
    | bad => simp only [hq, R.bind_bad] at p; exact p.elim
    | ok ys =>
      simp only [hq, R.bind_ok] at p
      intro J P1 H1 e1 hw
      obtain ⟨G, Y, w, hG, hY⟩ := hw
      simp only [Bool.false_eq_true, if_false] at hG
      intro Dl hD
      have pD : P1 Dl = none := e1.ph.free hD
      refine lc_it w (Fill K P1 H1 g ds ys Dl) ⟨P1, [], [], ys, Ext.newO e1.ph hD, pD, upd_same, .nil, rfl, by simpa using hq, Nat.le_refl _⟩ (fun i H' _ hF => ?_) (fun i x H2 H3 hi hF hy => ?_) (fun H' hF => ?_)
      · obtain ⟨P', us, acc, rest, e2, _⟩ := hF
        exact hG H' e2.h
      · obtain ⟨P2, us, acc, rest, e2, d0, d1, d2, d3, d4, d5⟩ := hF
        obtain ⟨P3, d, hd, e3, r3⟩ := hY i P2 H2 x H3 hi e2.p e2.ph hy
        rw [get_drop hd] at d4
        unfold comp at d4
        have I3 : EnvOk K H0 (wipeE env vs) (wipe σ vs) P3 H3 := (I.mono ((e1.trans e2).trans e3)).wipe vs
        have z0 : P3 Dl = none := e3.fr Dl d0 (by rw [d1]; simp)
        have z1 : H3 Dl = some (.lst us) := e3.h _ _ d1
        cases hgd : g d with
        | exc c => simp [hgd] at d4
        | bad => simp [hgd] at d4
        | ok o =>
          simp only [hgd] at d4
          cases hcr : comp g (ds.drop (i + 1)) with
          | exc c => simp [hcr] at d4
          | bad => simp [hcr] at d4
          | ok rest' =>
            simp only [hcr, R.bind_ok, R.ok.injEq] at d4
            rw [← hg] at hgd
            cases hs : setTg tg d (wipeE env vs) with
            | exc c => simp [hs] at hgd
            | bad => simp [hs] at hgd
            | ok env' =>
              simp only [hs, R.bind_ok] at hgd
              refine sg_of I3 r3 hs fun σ' I' hw => ⟨by rw [hw vs hin, wipe_wipe], ?_⟩
              refine ht H0 env' σ' P3 H3 _ I' ?_
              cases hk : ft env' with
              | exc c => simp [hk] at hgd
              | bad => simp [hk] at hgd
              | ok k =>
                intro P4 H4 e4
                simp only [hk, R.bind_ok] at hgd
                cases k with
                | false =>
                  simp only [optB, Bool.false_eq_true, if_false, R.ok.injEq] at hgd
                  subst hgd
                  simp only [Bool.false_eq_true, if_false]
                  refine ⟨P4, us, acc, rest, (e2.trans e3).trans e4, e4.fr Dl z0 (by rw [z1]; simp), e4.h _ _ z1, d2.mono (e3.p.trans e4.p), d3, ?_, by omega⟩
                  rw [hcr, ← d4]; rfl
                | true =>
                  simp only [optB, if_true] at hgd ⊢
                  refine he hb H0 env' σ' P4 H4 _ (I'.mono e4) ?_
                  cases hy : fe env' with
                  | exc c => simp [hy] at hgd
                  | bad => simp [hy] at hgd
                  | ok y =>
                    simp only [hy, R.bind_ok, R.ok.injEq] at hgd
                    subst hgd
                    intro v P5 H5 e5 r5
                    have e25 := ((e2.trans e3).trans e4).trans e5
                    have w0 : P5 Dl = none := e5.fr Dl (e4.fr Dl z0 (by rw [z1]; simp)) (by rw [e4.h _ _ z1]; simp)
                    have w1 : H5 Dl = some (.lst us) := e5.h _ _ (e4.h _ _ z1)
                    have hlen := d2.length
                    refine ⟨us, w1, ?_, P5, us ++ [v], acc ++ [y], rest', ?_, w0, upd_same, (d2.mono ((e3.p.trans e4.p).trans e5.p)).append (.cons r5 .nil), ?_, hcr, by simp; omega⟩
                    · rw [← lim_eq]; omega
                    · refine ⟨fun b o hb => ?_, e25.p, fun b o hb => ?_, e25.fr⟩
                      · have nb : b ≠ Dl := ne_of_none hb hD
                        rw [upd_ne nb]; exact e25.h b o hb
                      · have nb : b ≠ Dl := fun z => by rw [z, w0] at hb; cases hb
                        rw [upd_ne nb]; exact e25.ph b o hb
                    · rw [d3, ← d4]; simp [optL]
      · obtain ⟨P', us, acc, rest, e2, d0, d1, d2, d3, d4, _⟩ := hF
        rw [List.drop_length] at d4
        simp only [comp, R.ok.injEq] at d4
        subst d4
        rw [List.append_nil] at d3
        subst d3
        exact p Dl us P' H' (e1.trans e2) (e1.h.free hD) d0 d1 d2
theorem EnvOk.other {H0 : Hp} {env : Env} {a : Addr} {o : HO} (h : EnvOk K H0 env σ P H) (hp : P a = none) (far : ∀ (j : Nat) (es : List D), env[j]? = some (.own es) → σ[j]? ≠ some (some (.ref a))) : EnvOk K H0 env σ P (upd H a o) := by
  refine ⟨fun b u z => ?_, h.len, fun j s q => ?_, h.apart⟩
  · have nb : b ≠ a := fun w => by rw [w, hp] at z; cases z
    rw [upd_ne nb]; exact h.ex b u z
  · have h1 := h.at_ j s q
    cases s with
    | no => exact h1
    | raw v => exact h1
    | val d => exact h1
    | own ds =>
      obtain ⟨b, us, e1, z0, z1, z2, z3⟩ := h1
      have nb : b ≠ a := fun w => far j ds q (by rw [e1, w])
      exact ⟨b, us, e1, z0, z1, by rw [upd_ne nb]; exact z2, z3⟩
theorem set_own {env : Env} {i j : Nat} {s : Slot} {es : List D} (hs : ∀ es, s ≠ .own es) (h : (env.set i s)[j]? = some (.own es)) : i ≠ j ∧ env[j]? = some (.own es) := by
  by_cases hj : i = j
  · subst hj
    have hl : i < env.length := by simpa using (List.getElem?_eq_some_iff.mp h).1
    rw [List.getElem?_set_self hl] at h
    exact absurd (Option.some.inj h) (hs es)
  · rw [List.getElem?_set_ne hj] at h
    exact ⟨hj, h⟩
theorem wipe_own {env : Env} {σ : L2.St} {j : Nat} {es : List D} : ∀ vs : List Nat, (wipeE env vs)[j]? = some (.own es) → env[j]? = some (.own es) ∧ (wipe σ vs)[j]? = σ[j]?
  | [], h => ⟨h, rfl⟩
  | v :: vs, h => by
    obtain ⟨h1, h2⟩ := set_own (fun _ z => by cases z) h
    obtain ⟨h3, h4⟩ := wipe_own vs h2
    refine ⟨h3, ?_⟩
    show ((wipe σ vs).set v none)[j]? = _
    rw [List.getElem?_set_ne h1]
    exact h4
theorem sg_names2 {H0 : Hp} : ∀ (is : List Nat) (ds : List D) (xs : List V) (env env' : Env) (σ : L2.St), EnvOk K H0 env σ P H → Reps K P ds xs → setAll is ds env = .ok env' → ∀ Qg : L2.St → Hp → Prop,
    (∀ σ', EnvOk K H0 env' σ' P H → (∀ vs : List Nat, (∀ i ∈ is, i ∈ vs) → wipe σ' vs = wipe σ vs) → (∀ (j : Nat) (es : List D), env'[j]? = some (.own es) → env[j]? = some (.own es) ∧ σ'[j]? = σ[j]?) → Qg σ' H) → gNames is xs σ H Qg
  | [], ds, xs, env, env', σ, I, r, h, Qg, q => by
    cases ds with
    | nil =>
      cases r
      simp only [setAll, R.ok.injEq] at h
      subst h
      exact ⟨rfl, q σ I (fun _ _ => rfl) fun _ _ z => ⟨z, rfl⟩⟩
    | cons _ _ => simp [setAll] at h
  | i :: is, ds, xs, env, env', σ, I, r, h, Qg, q => by
    cases ds with
    | nil => simp [setAll] at h
    | cons d ds =>
      cases r with
      | cons r1 r2 =>
        refine ⟨_, _, rfl, ?_⟩
        show gNames is _ (σ.set i _) H Qg
        refine sg_names2 is ds _ _ env' _ (I.set r1) r2 h Qg fun σ' I' hw ho => q σ' I' (fun vs hv => ?_) fun j es hj => ?_
        · rw [hw vs fun j hj => hv j (List.mem_cons_of_mem _ hj), wipe_set_in (hv i (List.mem_cons_self))]
        · obtain ⟨h1, h2⟩ := ho j es hj
          obtain ⟨h3, h4⟩ := set_own (fun _ z => by cases z) h1
          exact ⟨h4, by rw [h2, List.getElem?_set_ne h3]⟩
theorem sg_of2 {H0 : Hp} {tg : Tg} {d : D} {x : V} {env env' : Env} (I : EnvOk K H0 env σ P H) (r : Rep K P d x) (h : setTg tg d env = .ok env') {Qg : L2.St → Hp → Prop}
    (q : ∀ σ', EnvOk K H0 env' σ' P H → (∀ vs : List Nat, tg.inn vs = true → wipe σ' vs = wipe σ vs) → (∀ (j : Nat) (es : List D), env'[j]? = some (.own es) → env[j]? = some (.own es) ∧ σ'[j]? = σ[j]?) → Qg σ' H) : tOfG K tg x σ H Qg := by
  cases tg with
  | nm i =>
    simp only [setTg, R.ok.injEq] at h
    subst h
    refine q _ (I.set r) (fun vs hv => wipe_set_in (by simpa [Tg.inn] using hv)) fun j es hj => ?_
    obtain ⟨h3, h4⟩ := set_own (fun _ z => by cases z) hj
    exact ⟨h4, List.getElem?_set_ne h3⟩
  | tp is =>
    cases d with
    | tup ds =>
      cases r with
      | tup g r =>
        refine .inl ⟨_, _, rfl, SqT.of (I.ex _ _ g), by rw [← r.length]; exact setAll_len h, sg_names2 is ds _ env env' σ I r h Qg fun σ' I' hw ho => q σ' I' (fun vs hv => hw vs fun i hi => ?_) ho⟩
        simp only [Tg.inn, List.all_eq_true] at hv
        simpa using hv i hi
    | lst ds =>
      cases r with
      | lst g r =>
        refine .inr ⟨_, _, rfl, SqL.of (I.ex _ _ g), by rw [← r.length]; exact setAll_len h, sg_names2 is ds _ env env' σ I r h Qg fun σ' I' hw ho => q σ' I' (fun vs hv => hw vs fun i hi => ?_) ho⟩
        simp only [Tg.inn, List.all_eq_true] at hv
        simpa using hv i hi
    | _ => simp [setTg] at h
/-- two fors: the same, the results of a turn in a row -/
def Fill2 (K : W.Frag) (P1 H1 : Hp) (g : D → R (List D)) (ds ys : List D) (Dl : Addr) (i : Nat) (H' : Hp) : Prop :=
  ∃ P' vs acc rest, Ext P1 H1 P' H' ∧ P' Dl = none ∧ H' Dl = some (.lst vs) ∧ Reps K P' acc vs ∧ ys = acc ++ rest ∧ compCat g (ds.drop i) = .ok rest
theorem compCat_exc {g : D → R (List D)} : ∀ (l : List D) (c : Nat), compCat g l ≠ .exc c := by
  intro l
  induction l with
  | nil => intro c h; simp [compCat] at h
  | cons a r ih =>
    intro c h
    unfold compCat at h
    cases ha : g a with
    | ok o =>
      simp only [ha] at h
      cases hr : compCat g r with
      | ok ys => simp [hr] at h
      | exc c' => exact ih c' hr
      | bad => simp [hr] at h
    | exc c' => simp [ha] at h
    | bad => simp [ha] at h
theorem sn_lc2 {wi wi1 : TI} {fi fi1 : Env → R (List D)} {tt tt1 : TT} {ft ft1 : Env → R Bool} {tg tg1 : Tg} {vs vs1 : List Nat} {eb nb : Bool} (hi : SI K cls E false wi fi) (ht : ST K cls EX0 tt ft) (hi1 : nb = true → SI K cls EX0 true wi1 fi1) (ht1 : ST K cls EX0 tt1 ft1) (he : eb = false → SE K cls EX0 te fe) :
    SN K cls E (tLc2 wi (tOfG K tg) tt wi1 (tOfG K tg1) tt1 te vs vs1) (fun env => (fi env).bind fun ds => if tg.inn vs = true ∧ tg1.inn vs1 = true ∧ vs1.all vs.contains = true ∧ nb = true ∧ eb = false then
      (compCat (fun d => (setTg tg d (wipeE env vs)).bind fun e1 => (ft e1).bind fun k => if k then (fi1 e1).bind fun ds1 => comp (fun d1 => (setTg tg1 d1 (wipeE e1 vs1)).bind fun e2 => (ft1 e2).bind fun k1 => optB k1 (fe e2)) ds1 else .ok []) ds).bind fun ys => if ys.length ≤ lim then .ok (.lst ys) else .bad else .bad) := fun H0 env σ P H Q I p => by
  refine hi H0 env σ P H _ I ?_
  cases hf : fi env with
  | exc c => simp only [hf, R.bind_exc] at p; exact p
  | bad => simp only [hf, R.bind_bad] at p; exact p.elim
  | ok ds =>
    simp only [hf, R.bind_ok] at p
    by_cases hc : tg.inn vs = true ∧ tg1.inn vs1 = true ∧ vs1.all vs.contains = true ∧ nb = true ∧ eb = false
    case neg => rw [if_neg hc] at p; exact p.elim
    rw [if_pos hc] at p
    obtain ⟨hin, hin1, _, hnb, hb⟩ := hc
    generalize hg : (fun d => (setTg tg d (wipeE env vs)).bind fun e1 => (ft e1).bind fun k => if k then (fi1 e1).bind fun ds1 => comp (fun d1 => (setTg tg1 d1 (wipeE e1 vs1)).bind fun e2 => (ft1 e2).bind fun k1 => optB k1 (fe e2)) ds1 else .ok []) = g at p
    cases hq : compCat g ds with
    | exc c => exact absurd hq (compCat_exc ds c)
    | bad => simp only [hq, R.bind_bad] at p; exact p.elim
    | ok ys =>
      simp only [hq, R.bind_ok] at p
      by_cases hl : ys.length ≤ lim
      case neg => rw [if_neg hl] at p; exact p.elim
      rw [if_pos hl] at p
      intro J P1 H1 e1 hw
      obtain ⟨G, Y, w, hG, hY⟩ := hw
      simp only [Bool.false_eq_true, if_false] at hG
      intro Dl hD
      have pD : P1 Dl = none := e1.ph.free hD
      refine ⟨fun i m H' => m = ds.length - i ∧ i ≤ ds.length ∧ Fill2 K P1 H1 g ds ys Dl i H', ⟨ds.length, by simp, Nat.zero_le _, P1, [], [], ys, Ext.newO e1.ph hD, pD, upd_same, .nil, rfl, by simpa using hq⟩, ?_⟩
      rintro i m H2 ⟨rfl, hi0, hF⟩
      have hGH : G H2 := by
        obtain ⟨P', us, acc, rest, e2, _⟩ := hF
        exact hG H2 e2.h
      by_cases hlt : i < ds.length
      case neg =>
        have e : i = ds.length := by omega
        subst e
        refine .inl ⟨w.stops H2 hGH, ?_⟩
        obtain ⟨P', us, acc, rest, e2, d0, d1, d2, d3, d4⟩ := hF
        rw [List.drop_length] at d4
        simp only [compCat, R.ok.injEq] at d4
        subst d4
        rw [List.append_nil] at d3
        subst d3
        exact p Dl us P' H2 (e1.trans e2) (e1.h.free hD) d0 d1 d2
      refine .inr ⟨w.goes i H2 hlt hGH, Fill2 K P1 H1 g ds ys Dl (i + 1), fun H' p' => ⟨ds.length - (i + 1), by omega, rfl, hlt, p'⟩, fun x H3 hy => ?_⟩
      have hy := w.yields i H2 x H3 hlt hGH hy
      obtain ⟨P2, us, acc, rest, e2, d0, d1, d2, d3, d4⟩ := hF
      obtain ⟨P3, d, hd, e3, r3⟩ := hY i P2 H2 x H3 hlt e2.p e2.ph hy
      rw [get_drop hd] at d4
      unfold compCat at d4
      have I3 : EnvOk K H0 (wipeE env vs) (wipe σ vs) P3 H3 := (I.mono ((e1.trans e2).trans e3)).wipe vs
      have z0 : P3 Dl = none := e3.fr Dl d0 (by rw [d1]; simp)
      have z1 : H3 Dl = some (.lst us) := e3.h _ _ d1
      cases hgd : g d with
      | exc c => simp [hgd] at d4
      | bad => simp [hgd] at d4
      | ok o =>
        simp only [hgd] at d4
        cases hcr : compCat g (ds.drop (i + 1)) with
        | exc c => simp [hcr] at d4
        | bad => simp [hcr] at d4
        | ok rest' =>
          simp only [hcr, R.bind_ok, R.ok.injEq] at d4
          rw [← hg] at hgd
          cases hs : setTg tg d (wipeE env vs) with
          | exc c => simp [hs] at hgd
          | bad => simp [hs] at hgd
          | ok env' =>
            simp only [hs, R.bind_ok] at hgd
            refine sg_of2 I3 r3 hs fun σ' I' hw ho => ⟨by rw [hw vs hin, wipe_wipe], ?_⟩
            have far : ∀ (j : Nat) (es : List D), env'[j]? = some (.own es) → σ'[j]? ≠ some (some (.ref Dl)) := fun j es hj hz => by
              obtain ⟨o1, o2⟩ := ho j es hj
              obtain ⟨o3, o4⟩ := wipe_own vs o1 (σ := σ)
              rw [o2, o4] at hz
              obtain ⟨a, us', q1, _, _, q4, _⟩ := I.at_ j _ o3
              rw [q1] at hz
              cases hz
              have := e1.h _ _ q4
              rw [hD] at this
              cases this
            refine ht H0 env' σ' P3 H3 _ I' ?_
            cases hk : ft env' with
            | exc c => simp [hk] at hgd
            | bad => simp [hk] at hgd
            | ok k =>
              intro P4 H4 e4
              simp only [hk, R.bind_ok] at hgd
              have I4 := I'.mono e4
              have y0 : P4 Dl = none := e4.fr Dl z0 (by rw [z1]; simp)
              have y1 : H4 Dl = some (.lst us) := e4.h _ _ z1
              have e24 := (e2.trans e3).trans e4
              have d24 := d2.mono (e3.p.trans e4.p)
              cases k with
              | false =>
                simp only [Bool.false_eq_true, if_false, R.ok.injEq] at hgd ⊢
                subst hgd
                refine ⟨P4, us, acc, rest, e24, y0, y1, d24, d3, ?_⟩
                rw [hcr, ← d4]; rfl
              | true =>
                simp only [if_true] at hgd ⊢
                refine hi1 hnb H0 env' σ' P4 H4 _ I4 ?_
                cases hf1 : fi1 env' with
                | exc c => simp [hf1] at hgd
                | bad => simp [hf1] at hgd
                | ok ds1 =>
                  simp only [hf1, R.bind_ok] at hgd
                  generalize hg1 : (fun d1 => (setTg tg1 d1 (wipeE env' vs1)).bind fun e2 => (ft1 e2).bind fun k1 => optB k1 (fe e2)) = g1 at hgd
                  intro J1 P5 H5 e5 hw1
                  obtain ⟨G1, Y1, w1, hG1, hY1⟩ := hw1
                  simp only [if_true] at hG1
                  have x0 : P5 Dl = none := e5.fr Dl y0 (by rw [y1]; simp)
                  have x1 : H5 Dl = some (.lst us) := e5.h _ _ y1
                  refine ⟨fun j m H' => m = ds1.length - j ∧ j ≤ ds1.length ∧ ∃ P' vs2 acc' r1, Ext P1 H1 P' H' ∧ Ex P5 P' ∧ EnvOk K H0 env' σ' P' H' ∧ P' Dl = none ∧ H' Dl = some (.lst vs2) ∧ Reps K P' acc' vs2 ∧ ys = acc' ++ (r1 ++ rest') ∧ comp g1 (ds1.drop j) = .ok r1,
                    ⟨ds1.length, by simp, Nat.zero_le _, P5, us, acc, o, e24.trans e5, Same.refl _, I4.mono e5, x0, x1, d24.mono e5.p, by rw [d3, ← d4], by simpa using hgd⟩, ?_⟩
                  rintro j m H6 ⟨rfl, hj0, P6, vs6, acc6, r6, e6, p6, I6, f0, f1, f2, f3, f4⟩
                  have hGH1 : G1 H6 := hG1 H6 (p6.trans e6.ph)
                  by_cases hjl : j < ds1.length
                  case neg =>
                    have e : j = ds1.length := by omega
                    subst e
                    refine .inl ⟨w1.stops H6 hGH1, P6, vs6, acc6, rest', e6, f0, f1, f2, ?_, hcr⟩
                    rw [List.drop_length] at f4
                    simp only [comp, R.ok.injEq] at f4
                    subst f4
                    exact f3
                  refine .inr ⟨w1.goes j H6 hjl hGH1, fun H' => ∃ P' vs2 acc' r1, Ext P1 H1 P' H' ∧ Ex P5 P' ∧ EnvOk K H0 env' σ' P' H' ∧ P' Dl = none ∧ H' Dl = some (.lst vs2) ∧ Reps K P' acc' vs2 ∧ ys = acc' ++ (r1 ++ rest') ∧ comp g1 (ds1.drop (j + 1)) = .ok r1, fun H' p' => ⟨ds1.length - (j + 1), by omega, rfl, hjl, p'⟩, fun x1 H7 hy1 => ?_⟩
                  have hy1 := w1.yields j H6 x1 H7 hjl hGH1 hy1
                  obtain ⟨P7, d1', hd1, e7, r7⟩ := hY1 j P6 H6 x1 H7 hjl p6 e6.ph hy1
                  rw [get_drop hd1] at f4
                  unfold comp at f4
                  have I7 := I6.mono e7
                  have I7' : EnvOk K H0 (wipeE env' vs1) (wipe σ' vs1) P7 H7 := I7.wipe vs1
                  have q0 : P7 Dl = none := e7.fr Dl f0 (by rw [f1]; simp)
                  have q1 : H7 Dl = some (.lst vs6) := e7.h _ _ f1
                  cases hgd1 : g1 d1' with
                  | exc c => simp [hgd1] at f4
                  | bad => simp [hgd1] at f4
                  | ok o1 =>
                    simp only [hgd1] at f4
                    cases hcr1 : comp g1 (ds1.drop (j + 1)) with
                    | exc c => simp [hcr1] at f4
                    | bad => simp [hcr1] at f4
                    | ok rest1 =>
                      simp only [hcr1, R.bind_ok, R.ok.injEq] at f4
                      rw [← hg1] at hgd1
                      cases hs1 : setTg tg1 d1' (wipeE env' vs1) with
                      | exc c => simp [hs1] at hgd1
                      | bad => simp [hs1] at hgd1
                      | ok env2 =>
                        simp only [hs1, R.bind_ok] at hgd1
                        refine sg_of I7' r7 hs1 fun σ2 I2' hw2 => ⟨by rw [hw2 vs1 hin1, wipe_wipe], ?_⟩
                        refine ht1 H0 env2 σ2 P7 H7 _ I2' ?_
                        cases hk1 : ft1 env2 with
                        | exc c => simp [hk1] at hgd1
                        | bad => simp [hk1] at hgd1
                        | ok k1 =>
                          intro P8 H8 e8
                          simp only [hk1, R.bind_ok] at hgd1
                          have t0 : P8 Dl = none := e8.fr Dl q0 (by rw [q1]; simp)
                          have t1 : H8 Dl = some (.lst vs6) := e8.h _ _ q1
                          cases k1 with
                          | false =>
                            simp only [optB, Bool.false_eq_true, if_false, R.ok.injEq] at hgd1
                            subst hgd1
                            simp only [Bool.false_eq_true, if_false]
                            refine ⟨P8, vs6, acc6, r6, (e6.trans e7).trans e8, (p6.trans e7.p).trans e8.p, I7.mono e8, t0, t1, f2.mono (e7.p.trans e8.p), f3, ?_⟩
                            rw [← f4]; rfl
                          | true =>
                            simp only [optB, if_true] at hgd1 ⊢
                            refine he hb H0 env2 σ2 P8 H8 _ (I2'.mono e8) ?_
                            cases hyy : fe env2 with
                            | exc c => simp [hyy] at hgd1
                            | bad => simp [hyy] at hgd1
                            | ok y =>
                              simp only [hyy, R.bind_ok, R.ok.injEq] at hgd1
                              subst hgd1
                              intro v P9 H9 e9 r9
                              have e69 := ((e6.trans e7).trans e8).trans e9
                              have w0 : P9 Dl = none := e9.fr Dl t0 (by rw [t1]; simp)
                              have w1 : H9 Dl = some (.lst vs6) := e9.h _ _ t1
                              have hlen := f2.length
                              have hys : acc6.length < ys.length := by
                                rw [f3, ← f4]
                                simp [optL]
                              have I9 := (I7.mono e8).mono e9
                              refine ⟨vs6, w1, ?_, P9, vs6 ++ [v], acc6 ++ [y], rest1, ?_, ((p6.trans e7.p).trans e8.p).trans e9.p, ?_, w0, upd_same, (f2.mono ((e7.p.trans e8.p).trans e9.p)).append (.cons r9 .nil), ?_, rfl⟩
                              · rw [← lim_eq]; omega
                              · refine ⟨fun b o hb => ?_, e69.p, fun b o hb => ?_, e69.fr⟩
                                · have nb : b ≠ Dl := ne_of_none hb hD
                                  rw [upd_ne nb]; exact e69.h b o hb
                                · have nb : b ≠ Dl := fun z => by rw [z, w0] at hb; cases hb
                                  rw [upd_ne nb]; exact e69.ph b o hb
                              · exact I9.other w0 far
                              · rw [f3, ← f4]; simp [optL]
/-- a call -/
theorem se_call {tr : TA} {fr : Env → R (List D)} {sp : Sp} {cl : List D → R D} (h : SA K cls E tr fr)
    (hs : ∀ (P H : Hp) (ds : List D) (vs : List V) (Q : VK) (Ex' : XK), Ex P H → Reps K P ds vs → (match cl ds with
      | .ok d => ∀ v P' H', Ext P H P' H' → Rep K P' d v → Q v H'
      | .exc c => ∀ P' H', Ext P H P' H' → Ex' (cls c) none H'
      | .bad => False) → sp vs H Q Ex') : SE K cls E (tCallS sp E tr) (fun env => (fr env).bind cl) := fun H0 env σ P H Q I p =>
  h.then I p fun ds vs P1 H1 _ e r p1 => hs P1 H1 ds vs Q (E σ) e.ph r p1
/-- arguments, a new dict behind them -/
def PostAD (K : W.Frag) (cls : Nat → Value) (E : EX) (σ : L2.St) (P H : Hp) (r : R (List D)) (Q : List V → Hp → Prop) : Prop := match r with
  | .ok ds => ∀ vs P' H' d, Ext P H P' H' → Reps K P' ds vs → H' d = none → Q (vs ++ [.ref d]) (upd H' d (.dT []))
  | .exc c => ∀ P' H', Ext P H P' H' → E σ (cls c) none H'
  | .bad => False
def SAD (K : W.Frag) (cls : Nat → Value) (E : EX) (t : TA) (f : Env → R (List D)) : Prop := ∀ H0 env σ P H Q, EnvOk K H0 env σ P H → PostAD K cls E σ P H (f env) Q → t σ H Q
theorem sad_nil : SAD K cls E (tCons tDNewT tNil) (fun _ => .ok []) := fun H0 env σ P H Q I p d hd => p [] P H d (.refl I.ex) .nil hd
theorem sad_cons {tr : TA} {fr : Env → R (List D)} {r : Bool} (ha : r = false → SE K cls E ta fa) (hr : SAD K cls E tr fr) : SAD K cls E (tCons ta tr) (fun env => if r then .bad else (fa env).bind fun d => (fr env).bind fun ds => .ok (d :: ds)) := fun H0 env σ P H Q I p => by
  cases r with
  | true => exact p.elim
  | false =>
    refine ha rfl H0 env σ P H _ I ?_
    cases hf : fa env with
    | exc c => simp only [hf, R.bind_exc] at p; exact p
    | bad => simp only [hf, R.bind_bad] at p; exact p.elim
    | ok d =>
      intro v P1 H1 e1 r1
      refine hr H0 env σ P1 H1 _ (I.mono e1) ?_
      cases hg : fr env with
      | exc c => simp only [hf, hg, R.bind_exc, R.bind_ok] at p; exact fun P' H' e2 => p P' H' (e1.trans e2)
      | bad => simp only [hf, hg, R.bind_bad, R.bind_ok] at p; exact p.elim
      | ok ds =>
        simp only [hf, hg, R.bind_ok] at p
        exact fun vs P2 H2 d2 e2 r2 hd2 => p (v :: vs) P2 H2 d2 (e1.trans e2) (.cons (r1.mono e2.p) r2) hd2
theorem se_callD {tr : TA} {fr : Env → R (List D)} {sp : Sp} {cl : List D → R D} (h : SAD K cls E tr fr)
    (hs : ∀ (P H : Hp) (ds : List D) (vs : List V) (d : Addr) (i : Int) (Q : VK) (Ex' : XK), Ex P H → Reps K P ds vs → H d = none → memoArgs ds = true → cl ds = .ok (.int i) → (∀ P' H', Ext P H P' H' → Q (.int i) H') → sp (vs ++ [.ref d]) (upd H d (.dT [])) Q Ex') : SE K cls E (tCallS sp E tr) (fun env => (fr env).bind fun ds => if memoArgs ds then memoR (cl ds) else .bad) := fun H0 env σ P H Q I p => by
  refine h H0 env σ P H _ I ?_
  cases hf : fr env with
  | exc c => simp only [hf, R.bind_exc] at p; exact p
  | bad => simp only [hf, R.bind_bad] at p; exact p.elim
  | ok ds =>
    simp only [hf, R.bind_ok] at p
    intro vs P1 H1 d e1 r1 hd
    by_cases hm : memoArgs ds = true
    · rw [if_pos hm] at p
      cases hc : cl ds with
      | exc c => rw [hc] at p; exact p.elim
      | bad => rw [hc] at p; exact p.elim
      | ok x =>
        rw [hc] at p
        cases x with
        | int i => exact hs P1 H1 ds vs d i Q (E σ) e1.ph r1 hd hm hc fun P' H' e2 => p _ P' H' (e1.trans e2) (.int i)
        | _ => exact p.elim
    · rw [if_neg hm] at p; exact p.elim
theorem se_callAt {fs : List Nat} {tr : TA} {fr : Env → R (List D)} {sp : Nat → Sp} {cl : Nat → List D → R D} (hi : SB K cls E ta fa) (h : ∀ f, SE K cls E (tCallS (sp f) E tr) (fun env => (fr env).bind fun ds => cl f ds)) : SE K cls E (tAt K fs ta fun f => tCallS (sp f) E tr) (fun env => if fs.length ≤ lim then (fa env).bind fun x => (intD x).bind fun i => (R.ofO (L2.atI fs i)).bind fun f => (fr env).bind fun ds => cl f ds else .bad) := fun H0 env σ P H Q I p ads hads => by
  simp only at p
  by_cases hl : fs.length ≤ lim
  · rw [if_pos hl] at p
    refine tRefs_of ads ⟨by rw [List.length_map, hads, ← lim_eq]; exact hl, fun q hq => ?_⟩
    have e1 : Ext P H P (upd H q (.lst (ads.map V.ref))) := Ext.newO I.ex hq
    refine hi.then (I.mono e1) (PostE.step e1 p) fun x v P1 H1 _ e r p1 I1 => ?_
    rcases intD_bind (d := x) (k := fun i => (R.ofO (L2.atI fs i)).bind fun f => (fr env).bind fun ds => cl f ds) with ⟨i, rfl, h2⟩ | h2
    · rw [h2] at p1
      cases hf : L2.atI fs i with
      | none => rw [hf] at p1; exact p1.elim
      | some f =>
        rw [hf] at p1
        obtain ⟨j, hj1, hj2⟩ := Option.bind_eq_some_iff.mp (show (L2.ixN fs.length i).bind (fun j => fs[j]?) = some f from hf)
        have hjl : j < ads.length := by rw [hads]; exact (List.getElem?_eq_some_iff.mp hj2).1
        have ha : ads[j]? = some ads[j] := List.getElem?_eq_getElem hjl
        refine ⟨q, ads.map V.ref, i, .ref ads[j], rfl, r.int, SqL.of (e.h _ _ upd_same), ?_, j, f, ads[j], hj2, ha, rfl, h f H0 env σ P1 H1 Q I1 p1⟩
        show (L2.ixN (ads.map V.ref).length i).bind (fun j => (ads.map V.ref)[j]?) = _
        rw [List.length_map, hads, hj1, Option.bind_some, List.getElem?_map, ha]
        rfl
    · rw [h2] at p1; exact p1.elim
  · rw [if_neg hl] at p; exact p.elim
theorem sn_add (ha : SB K cls E ta fa) (hb : SB K cls E tb fb) : SN K cls E (tOp (rBop K .add) ta tb) (fun env => (fa env).bind fun x => (fb env).bind fun y => R.ofO (bopF .add x y)) := fun H0 env σ P H Q I p => by
  refine ha H0 env σ P H _ I ?_
  simp only at p
  cases hf : fa env with
  | exc c => rw [hf] at p; exact p
  | bad => rw [hf] at p; exact p
  | ok x =>
    intro v P1 H1 e1 r1
    simp only [hf, R.bind_ok] at p
    refine hb H0 env σ P1 H1 _ (I.mono e1) ?_
    cases hg : fb env with
    | exc c => simp only [hg, R.bind_exc] at p; exact fun P' H' e2 => p P' H' (e1.trans e2)
    | bad => simp only [hg, R.bind_bad] at p; exact p.elim
    | ok y =>
      intro u P2 H2 e2 r2
      simp only [hg, R.bind_ok] at p
      cases ho : bopF .add x y with
      | none => rw [ho] at p; exact p.elim
      | some d =>
        rw [ho] at p
        refine ⟨P2, x, y, d, e2.ph, r1.mono e2, r2, ho, fun v H' _ r => ?_⟩
        cases d with
        | lst ds =>
          obtain ⟨q, ws, rfl, hp, hr, rfl⟩ := r _ rfl
          exact p _ _ P2 _ ((e1.trans e2).trans (.newO e2.ph hp)) ((e1.trans e2).h.free hp) (e2.ph.free hp) upd_same hr
        | _ => exact p.elim
theorem sn_rep {tr : TA} {fr : Env → R (List D)} (h : SA K cls E tr fr) (hb : SB K cls E tb fb) : SN K cls E (tOp (rBop K .mul) (tLst tr) tb) (fun env => ((fr env).bind fun ds => if ds.length ≤ lim then .ok (.lst ds) else .bad).bind fun x => (fb env).bind fun y => R.ofO (bopF .mul x y)) := fun H0 env σ P H Q I p => by
  refine sn_lst h H0 env σ P H _ I ?_
  simp only at p ⊢
  cases hf : (fr env).bind fun ds => if ds.length ≤ lim then R.ok (D.lst ds) else .bad with
  | exc c => simp only [hf, R.bind_exc] at p; exact p
  | bad => simp only [hf, R.bind_bad] at p; exact p.elim
  | ok x =>
    have hx : ∃ ds, x = .lst ds := by
      cases hfr : fr env with
      | exc c => simp [hfr] at hf
      | bad => simp [hfr] at hf
      | ok ds =>
        simp only [hfr, R.bind_ok] at hf
        split at hf
        · cases hf; exact ⟨_, rfl⟩
        · cases hf
    obtain ⟨ds, rfl⟩ := hx
    intro a vs P1 H1 e1 z1 z2 z3 z4
    simp only [hf, R.bind_ok] at p
    refine hb H0 env σ P1 H1 _ (I.mono e1) ?_
    cases hg : fb env with
    | exc c => simp only [hg, R.bind_exc] at p; exact fun P' H' e2 => p P' H' (e1.trans e2)
    | bad => simp only [hg, R.bind_bad] at p; exact p.elim
    | ok y =>
      intro u P2 H2 e2 r2
      simp only [hg, R.bind_ok] at p
      cases ho : bopF .mul (.lst ds) y with
      | none => rw [ho] at p; exact p.elim
      | some d =>
        rw [ho] at p
        refine ⟨P2, .lst ds, y, d, e2.ph, .inr ⟨a, vs, ds, rfl, rfl, e2.h _ _ z3, z4.mono e2.p⟩, r2, ho, fun v H' _ r => ?_⟩
        cases y with
        | int j =>
          simp only [bopF, Option.ite_none_right_eq_some, Option.some.injEq] at ho
          obtain ⟨hj, rfl⟩ := ho
          obtain ⟨q, ws, rfl, hp, hr, rfl⟩ := r _ rfl
          exact p _ _ P2 _ ((e1.trans e2).trans (.newO e2.ph hp)) ((e1.trans e2).h.free hp) (e2.ph.free hp) upd_same hr
        | _ => simp [bopF] at ho
end
end Cl
set_option Elab.async false
set_option linter.all false
set_option maxRecDepth 100000
set_option maxHeartbeats 1000000
namespace Cl
open PySem PySem.Spec PyProof.Rows L2 RZ
/-! ### fields and methods of an instance that does not change -/
theorem Rep.ob {K : W.Frag} {P : Hp} {ds : List D} {v : V} (h : Rep K P (.obj ds) v) : ∃ (a dx : Addr) (vs : List V), v = .ref a ∧ bandB K = true ∧ P a = some (.ins (bandC K) dx (bandF.zip vs)) ∧ P dx = some (.own a) ∧ ds.length = 3 ∧ vs.length = 5 ∧ Reps K P ds (vs.take 3) := by
  cases h with
  | obj h0 h1 h2 h3 h5 h4 => exact ⟨_, _, _, rfl, h0, h1, h2, h3, h5, h4⟩
theorem look_zip : ∀ {fs : List Str} {vs : List V} {j : Nat} {f : Str} {v : V}, fs.Nodup → fs[j]? = some f → vs[j]? = some v → (fs.zip vs).lookup f = some v
  | [], _, _, _, _, _, h, _ => by simp at h
  | _ :: _, [], _, _, _, _, _, h => by simp at h
  | x :: fs, u :: vs, 0, f, v, _, h1, h2 => by
    simp only [List.getElem?_cons_zero, Option.some.injEq] at h1 h2
    subst h1 h2
    simp
  | x :: fs, u :: vs, j + 1, f, v, hn, h1, h2 => by
    simp only [List.getElem?_cons_succ] at h1 h2
    have hne : (f == x) = false := by
      have := (List.nodup_cons.mp hn).1
      have hm := List.mem_of_getElem? h1
      refine beq_eq_false_iff_ne.mpr fun e => this (e ▸ hm)
    rw [List.zip_cons_cons, List.lookup_cons, hne]
    exact look_zip (List.nodup_cons.mp hn).2 h1 h2
theorem look_none : ∀ {fs : List Str} {vs : List V} {f : Str}, f ∉ fs → (fs.zip vs).lookup f = none
  | [], _, _, _ => by simp
  | _ :: _, [], _, _ => by simp
  | x :: fs, u :: vs, f, h => by
    have hne : (f == x) = false := beq_eq_false_iff_ne.mpr fun e => h (e ▸ List.mem_cons_self)
    rw [List.zip_cons_cons, List.lookup_cons, hne]
    exact look_none fun hm => h (List.mem_cons_of_mem _ hm)
theorem bandF_nd : bandF.Nodup := by decide
section
variable {K : W.Frag} {cls : Nat → Value} {E : EX}
theorem se_var {E : EX} {i : Nat} : SE K cls E (tVar i) (fun env => slotV env[i]?) := fun H0 env σ P H Q I p => by
  simp only at p
  cases hs : env[i]? with
  | none => rw [hs] at p; exact p.elim
  | some s =>
    rw [hs] at p
    cases s with
    | no => exact p.elim
    | raw v => exact p.elim
    | own ds => exact p.elim
    | val d =>
      obtain ⟨v, h1, h2⟩ := I.at_ i _ hs
      exact ⟨v, h1, p v P H (.refl I.ex) h2⟩
theorem se_fld0 {i j : Nat} {f : Str} (hf : bandF[j]? = some f) (hj : j < 3) : SE K cls E (tFld K (tVar i) f) (fun env => (slotV env[i]?).bind fun d => R.ofO (fldF d j)) := fun H0 env σ P H Q I p => by
  refine se_var (cls := cls) (E := E) H0 env σ P H _ I ?_
  simp only at p
  show PostE K cls E σ P H (slotV env[i]?) _
  cases hv : slotV env[i]? with
  | exc c => rw [hv] at p; exact p
  | bad => rw [hv] at p; exact p.elim
  | ok d =>
    rw [hv] at p
    intro v P1 H1 e1 r
    cases d with
    | obj fs =>
      obtain ⟨a, dx, vs, rfl, hb, h1, h2, h3, h5, h4⟩ := r.ob
      have B := bandB_ok hb
      have hjf : j < fs.length := by omega
      have hjv : j < vs.length := by omega
      have hjt : (vs.take 3)[j]? = some vs[j] := by rw [List.getElem?_take_of_lt hj, List.getElem?_eq_getElem hjv]
      have q : R.ofO (fldF (.obj fs) j) = .ok fs[j] := by
        show R.ofO fs[j]? = _
        rw [List.getElem?_eq_getElem hjf]
        rfl
      simp only [R.bind_ok, q] at p
      refine ⟨a, bandC K, dx, bandF.zip vs, vs[j], rfl, e1.ph _ _ h1, B.cl, B.no f (List.mem_of_getElem? hf), look_zip bandF_nd hf (List.getElem?_eq_getElem hjv), p _ P1 H1 e1 ?_⟩
      obtain ⟨d, hd, hr⟩ := h4.getV hjt
      rw [List.getElem?_eq_getElem hjf] at hd
      cases hd
      exact hr
    | _ => exact p.elim
theorem se_fld {i j : Nat} : SE K cls E (tFld K (tVar i) (bandF.getD j Str.empty)) (fun env => if j < 3 then (slotV env[i]?).bind fun d => R.ofO (fldF d j) else .bad) := fun H0 env σ P H Q I p => by
  by_cases hj : j < 3
  · simp only [hj, if_true] at p
    have hf : bandF[j]? = some (bandF.getD j Str.empty) := by
      have h5 : j < bandF.length := Nat.lt_of_lt_of_le hj (by decide)
      rw [List.getD_eq_getElem?_getD, List.getElem?_eq_getElem h5]
      rfl
    exact se_fld0 hf hj H0 env σ P H Q I p
  · simp only [hj, if_false] at p
    exact p.elim
abbrev CallC (K : W.Frag) (cls : Nat → Value) (sp : Sp) (cl : List D → R D) : Prop := ∀ (P H : Hp) (ds : List D) (vs : List V) (Q : VK) (Ex' : XK), Ex P H → Reps K P ds vs → (match cl ds with
      | .ok d => ∀ v P' H', Ext P H P' H' → Rep K P' d v → Q v H'
      | .exc c => ∀ P' H', Ext P H P' H' → Ex' (cls c) none H'
      | .bad => False) → sp vs H Q Ex'
theorem se_mth {ob : Bool} {m : Str} {to : TE} {fo : Env → R D} {tr : TA} {fr : Env → R (List D)} {sp : Sp} {cl : List D → R D} (ho : ob = false → SE K cls E to fo) (h : SA K cls E tr fr) (hs : CallC K cls sp cl) :
    SE K cls E (tMethS (bandC K) m sp E to tr) (fun env => if bandF.contains m || ob then .bad else (fo env).bind fun d => if isObj d then (fr env).bind fun ds => cl (d :: ds) else .bad) := fun H0 env σ P H Q I p => by
  cases hm : bandF.contains m || ob with
  | true => simp only [hm, if_true] at p; exact p.elim
  | false =>
    simp only [hm, Bool.false_eq_true, if_false] at p
    simp only [Bool.or_eq_false_iff] at hm
    have hm' : m ∉ bandF := fun z => by rw [List.contains_iff_mem.mpr z] at hm; exact absurd hm.1 (by simp)
    refine (ho hm.2).then I p fun d v P1 H1 _ e1 r p1 I1 => ?_
    cases d with
    | obj fs =>
      simp only [isObj, if_true] at p1
      obtain ⟨a, dx, vs, rfl, hb, h1, h2, h3, h5, h4⟩ := r.ob
      refine ⟨a, dx, bandF.zip vs, rfl, e1.ph _ _ h1, look_none hm', ?_⟩
      exact h.then I1 p1 fun ds us P2 H2 _ e2 r2 p2 => hs P2 H2 (.obj fs :: ds) (.ref a :: us) Q (E σ) e2.ph (.cons (r.mono e2.p) r2) p2
    | _ => simp only [isObj, Bool.false_eq_true, if_false] at p1; exact p1.elim
/-- what Band(..) asks, if it does not change -/
def NewP (K : W.Frag) (cls : Nat → Value) (sp : Sp) (cl : List D → R D) : Prop := ∀ (P H : Hp) (c r : D) (vc vr : V) (x dx : Addr) (Q : VK) (Ex' : XK), Ex P H → Rep K P c vc → Rep K P r vr → H x = none → H dx = none → dx ≠ x → (match cl [c, r] with
      | .ok _ => ∀ v P' H', Ext P H P' H' → Rep K P' (.obj [c, r, .tup []]) v → Q v H'
      | .exc c => ∀ P' H', Ext P H P' H' → Ex' (cls c) none H'
      | .bad => False) → sp [.ref x, vc, vr] (upd (upd H dx (.own x)) x (.ins (bandC K) dx [])) (fun v H2 => v = .non ∧ Q (.ref x) H2) Ex'
theorem se_new {tr : TA} {fr : Env → R (List D)} {sp : Sp} {cl : Nat → List D → R D} (h : SA K cls E tr fr) (hn : NewP K cls sp (cl 900)) : SE K cls E (tNewB (bandC K) sp E tr) (fun env => (fr env).bind fun ds => newD cl ds) := fun H0 env σ P H Q I p =>
  h.then I p fun ds us P2 H2 _ e2 r2 p2 => fun x dx h1 h2 h3 => by
    match ds, us, r2 with
    | [c, r], [vc, vr], .cons rc (.cons rr .nil) =>
      refine hn P2 H2 c r vc vr x dx Q (E σ) e2.ph rc rr h1 h2 h3 ?_
      simp only [newD] at p2
      cases hc : cl 900 [c, r] <;> (rw [hc] at p2; exact p2)
    | [], _, _ => exact p2.elim
    | [_], _, _ => exact p2.elim
    | _ :: _ :: _ :: _, _, _ => exact p2.elim
theorem se_eqO {ba bb ne : Bool} {f : Nat} {ta tb : TE} {fa fb : Env → R D} {sp : Sp} {cl : Nat → List D → R D} (ha : ba = false → SE K cls E ta fa) (hb : bb = false → SE K cls E tb fb) (hs : CallC K cls sp (cl f)) :
    SE K cls E (tOp (rEqO K sp ne) ta tb) (fun env => if ba || bb then .bad else (fa env).bind fun x => (fb env).bind fun y => eqD cl ne f x y) := fun H0 env σ P H Q I p => by
  cases hbb : ba || bb with
  | true => simp only [hbb, if_true] at p; exact p.elim
  | false =>
    simp only [hbb, Bool.false_eq_true, if_false] at p
    simp only [Bool.or_eq_false_iff] at hbb
    refine (ha hbb.1).then I p fun x v P1 H1 _ e1 r1 p1 I1 => (hb hbb.2).then I1 p1 fun y u P2 H2 _ e2 r2 p2 I2 => ?_
    unfold eqD at p2
    cases hk : eqK x y with
    | false => rw [hk] at p2; exact p2.elim
    | true =>
      rw [hk] at p2
      simp only [if_true] at p2
      have r1' := r1.mono e2.p
      have hpost : ∀ k, cl f [x, y] = .ok (.bl k) → sp [v, u] H2 (fun v H' => ∃ k : Bool, v = .bl k ∧ Q (.bl (ne != k)) H') (fun _ _ _ => False) := fun k hc => by
        rw [hc] at p2
        refine hs P2 H2 [x, y] [v, u] _ _ e2.ph (.cons r1' (.cons r2 .nil)) ?_
        rw [hc]
        intro w P3 H3 e3 r3
        cases r3
        exact ⟨k, rfl, p2 _ P3 H3 e3 (.bl _)⟩
      have hc : ∃ k, cl f [x, y] = .ok (.bl k) := by
        cases hc : cl f [x, y] with
        | ok d =>
          cases d with
          | bl k => exact ⟨k, rfl⟩
          | _ => rw [hc] at p2; exact p2.elim
        | exc c => rw [hc] at p2; exact p2.elim
        | bad => rw [hc] at p2; exact p2.elim
      obtain ⟨k, hc⟩ := hc
      have hsp := hpost k hc
      cases x with
      | obj fs =>
        obtain ⟨a, dx, vs, rfl, hbk, h1, h2, h3, h5, h4⟩ := r1'.ob
        refine ⟨a, dx, _, rfl, e2.ph _ _ h1, hbk, ?_, hsp⟩
        cases y with
        | obj gs =>
          obtain ⟨b, dy, ws, rfl, _, k1, _⟩ := r2.ob
          exact .inl ⟨b, dy, _, rfl, e2.ph _ _ k1⟩
        | tup ds =>
          cases r2 with
          | tup g1 g2 => exact .inr ⟨_, _, rfl, e2.ph _ _ g1⟩
        | _ => cases hk
      | _ => cases hk
theorem se_isB {i : Nat} {bb : Bool} {tb : TE} {fb : Env → R D} (hb : bb = false → SE K cls E tb fb) : SE K cls E (tCB (rIsB K) (tCons tb (tCons (tC (.ref (bandC K))) tNil))) (fun env => if bb then .bad else (slotV env[i]?).bind fun s => (fb env).bind fun x => isBD s x) := fun H0 env σ P H Q I p => by
  cases hbb : bb with
  | true => simp only [hbb, if_true] at p; exact p.elim
  | false =>
    simp only [hbb, Bool.false_eq_true, if_false] at p
    cases hs : env[i]? with
    | none => rw [hs] at p; exact p.elim
    | some s =>
      rw [hs] at p
      cases s with
      | val d =>
        simp only [slotV, R.bind_ok] at p
        obtain ⟨v, hv1, hv2⟩ := I.at_ i _ hs
        cases d with
        | obj fs =>
          obtain ⟨_, _, _, _, hbk, _⟩ := hv2.ob
          refine (hb hbb).then I p fun x u P1 H1 _ e1 r1 p1 I1 => ?_
          refine ⟨u, rfl, hbk, ?_⟩
          cases x with
          | obj gs =>
            obtain ⟨b, dy, ws, rfl, _, k1, _⟩ := r1.ob
            exact .inl ⟨b, dy, _, rfl, e1.ph _ _ k1, p1 _ P1 H1 (.refl e1.ph) (.bl true)⟩
          | tup ds =>
            cases r1 with
            | tup g1 g2 => exact .inr ⟨_, _, rfl, e1.ph _ _ g1, p1 _ P1 H1 (.refl e1.ph) (.bl false)⟩
          | _ => exact p1.elim
        | _ =>
          refine (hb hbb).then I p fun x u P1 H1 _ e1 r1 p1 I1 => ?_
          cases x <;> exact p1.elim
      | _ => exact p.elim
theorem se_lenO {i : Nat} {sp : Sp} {cl : List D → R D} (hs : CallC K cls sp cl) :
    SE K cls E (tLenO (bandC K) sp E (tVar i)) (fun env => (slotV env[i]?).bind fun d => if isObj d then (cl [d]).bind lenR else .bad) := fun H0 env σ P H Q I p => by
  refine se_var.then I p fun d v P1 H1 _ e1 r p1 I1 => ?_
  cases d with
  | obj fs =>
    simp only [isObj, if_true] at p1
    obtain ⟨a, dx, vs, rfl, hb, h1, h2, h3, h5, h4⟩ := r.ob
    refine ⟨a, dx, bandF.zip vs, rfl, e1.ph _ _ h1, hs P1 H1 [.obj fs] [.ref a] _ (E σ) e1.ph (.cons r .nil) ?_⟩
    cases hc : cl [.obj fs] with
    | bad => rw [hc] at p1; exact p1.elim
    | exc c => rw [hc] at p1; exact p1
    | ok d =>
      rw [hc] at p1
      intro v P2 H2 e2 r2
      cases d with
      | int n =>
        simp only [R.bind_ok, lenR] at p1
        by_cases hn : 0 ≤ n ∧ n ≤ 1000
        · rw [if_pos hn] at p1
          cases r2
          exact ⟨n, rfl, hn.1, hn.2, p1 _ P2 H2 e2 (.int n)⟩
        · rw [if_neg hn] at p1; exact p1.elim
      | _ => exact p1.elim
  | _ => simp only [isObj, Bool.false_eq_true, if_false] at p1; exact p1.elim
end
section
variable {X : Cx} {CX : CXT} {k : Nat} {f C : Addr} {fd : FuncData} {ps : List Str} {sp : Sp} {E : EX} {m : Str} {pos apos : Pos} {e o : Expr} {es : List Expr} {ta : TE} {t : TA}
theorem meth_ht {o : Expr} {m : Str} {apos pos : Pos} {xs : List Expr} {env : PySem.Env} (hbase : attributeBase o m env (eval o env) = eval o env)
    (hform : methodCallForm (xs.length + ([] : List Keyword).length) (backTo pos (starEach xs env)) (backToKw pos (keywordEach [] env)) = true) (hline : (apos.endLine == pos.line) = true) :
    eval (.Call (.Attribute o m apos) xs [] pos) env = (do
      let ov ← eval o env
      standAt apos.atName
      let (f, first) ← holding [ov] (getMethod ov m (do return (← importBound o env).getD true))
      callWith pos f first (backTo pos (starEach xs env)) (backToKw pos (keywordEach [] env))) := by
  have hpos : methodCallPos true o env apos pos = pure pos := by unfold methodCallPos; simp [hline]
  rw [arm_eval_Call, hbase]
  unfold methodCall
  rw [hform, hpos]
  rfl
theorem pe_methSS {pl : Sem Bool} (he : PE X o ta) (c : Cls X.K C) (hm : Meth X.K C m f) (F : FnOk X.prog X.w X.K X.mg X.base CX k f fd ps sp) (hr : Room k X.A) (hb : Binds X.K fd ps []) (hx : ∀ σ, PassesAt CX X σ (E σ)) (ha : PA X (e :: es) t)
    (hst : starEach (e :: es) X.env = (false, eval e X.env) :: starEach es X.env := by rfl) (hpl : (backTo pos (starEach es X.env)).any (·.1) = false := by rfl)
    (ht : eval (.Call (.Attribute o m apos) (e :: es) [] pos) X.env = (do
      let ov ← eval o X.env
      standAt apos.atName
      let (f, first) ← holding [ov] (getMethod ov m pl)
      callWith pos f first (backTo pos (starEach (e :: es) X.env)) (backToKw pos (keywordEach [] X.env))) := by rfl) :
    PE X (.Call (.Attribute o m apos) (e :: es) [] pos) (tMethS C m sp E ta t) := by
  refine ⟨fun pins s σ H Q I h => ?_⟩
  refine PySem.W.methodCall_KW (pl := pl) (thn (he.run pins s σ H _ I h) fun u s1 ⟨x, H1, I1, rx, a, dx, fs, ex, ea, l, q⟩ => ?_) ht
  subst ex
  obtain rfl : u = Value.ref a := rx
  refine getmeth_ok I1 ea c hm l ?_
  refine PySem.W.callWith_K (first := [.ref a]) (h₀ := X.base) I.ok.mod.kin hm.kp (thn (ha.run pos pins s1 σ H1 _ I1 q) fun us s2 ⟨vs, H2, I2, r, q2⟩ => ⟨I2.kIn, ?_⟩) hst hpl
  exact run_fnS (us := .ref a :: us) (vs := .ref a :: vs) F hr hb (hx σ) I2 (.cons rfl r) q2
theorem pe_methSS0 {pl : Sem Bool} (he : PE X o ta) (c : Cls X.K C) (hm : Meth X.K C m f) (F : FnOk X.prog X.w X.K X.mg X.base CX k f fd ps sp) (hr : Room k X.A) (hb : Binds X.K fd ps []) (hx : ∀ σ, PassesAt CX X σ (E σ))
    (ht : eval (.Call (.Attribute o m apos) [] [] pos) X.env = (do
      let ov ← eval o X.env
      standAt apos.atName
      let (f, first) ← holding [ov] (getMethod ov m pl)
      callWith pos f first (backTo pos (starEach [] X.env)) (backToKw pos (keywordEach [] X.env))) := by rfl) :
    PE X (.Call (.Attribute o m apos) [] [] pos) (tMethS C m sp E ta tNil) := by
  refine ⟨fun pins s σ H Q I h => ?_⟩
  refine PySem.W.methodCall_KW (pl := pl) (thn (he.run pins s σ H _ I h) fun u s1 ⟨x, H1, I1, rx, a, dx, fs, ex, ea, l, q⟩ => ?_) ht
  subst ex
  obtain rfl : u = Value.ref a := rx
  refine getmeth_ok I1 ea c hm l ?_
  exact PySem.W.callWith_K0 (first := [.ref a]) I1.kIn hm.kp (run_fnS (us := [.ref a]) (vs := [.ref a]) F hr hb (hx σ) I1 (.cons rfl .nil) q)
theorem pe_makeS {x : Str} {p : Pos} (M : Mk X.K C f) (F : FnOk X.prog X.w X.K X.mg X.base CX k f fd ps sp) (hr : Room (k + 1) X.A) (hg : Gl X x) (hm : X.mg x = some (.ref C)) (hb : Binds X.K fd ps []) (hx : ∀ σ, PassesAt CX X σ (E σ)) (ha : PA X (e :: es) t)
    (hdb : (x == ("__debug__" : Str)) = false) (hst : starEach (e :: es) X.env = (false, eval e X.env) :: starEach es X.env) (hpl : (backTo pos (starEach es X.env)).any (·.1) = false) : PE X (.Call (.Name x p) (e :: es) [] pos) (tNewB C sp E t) := by
  refine ⟨fun pins s σ H Q I h => ?_⟩
  refine wpAny_Call_Name_kw (ld_glob I hg hm ?_ hdb)
  refine PySem.W.callWith_K (h₀ := X.base) I.ok.mod.kin M.kp (thn (ha.run pos pins s σ H _ I h) fun us s1 ⟨vs, H1, I1, r, q⟩ => ⟨I1.kIn, ?_⟩) hst hpl
  have hq := q (s1.heap.objs.size + 1) s1.heap.objs.size (I1.hok.fresh (Nat.le_succ _)) (I1.hok.fresh (Nat.le_refl _)) (Nat.ne_of_lt (Nat.lt_succ_self _))
  have J := Inv.made (C := C) I1
  have rv : Vals (V.ref (s1.heap.objs.size + 1) :: vs) (Value.ref (s1.heap.objs.size + 1) :: us) := .cons rfl r
  have hl : (Value.ref (s1.heap.objs.size + 1) :: us).length = ps.length := by rw [← rv.length]; exact F.len _ _ _ _ hq
  have b := hb _ (Value.ref (s1.heap.objs.size + 1) :: us) J.kIn (by rw [List.append_nil]; exact hl)
  rw [List.append_nil] at b
  refine wpAny_call (make_map (f := f) I1.kIn M.makes M.init (beq_iff_eq.mp M.fn) (codeAny_mono (F.run _ X.stack _ _ ⟨Value.ref (s1.heap.objs.size + 1) :: us, []⟩ _ _ _ (E σ) (hr.make C us []) (J.env0.make C us []) b rv hq) fun rr s' hs => ?_))
  cases rr with
  | error er => exact hx σ pins _ _ er s' J hs
  | ok fl =>
    cases fl with
    | ret u =>
      obtain ⟨v, H', J', rv', ev, q3⟩ := J.after hs
      subst ev
      exact ⟨rv', .ref _, H', J', rfl, q3⟩
    | next => exact hs.elim
    | brk => exact hs.elim
    | cont => exact hs.elim
/-- len(x) of an instance -/
theorem pe_lenOS {o : Expr} {p : Pos} {x : Str} (ex : x = "len") (he : PE X o ta) (hg : Gl X x) (hm : X.mg x = none) (hl : W.findIn X.K (.ref C) "__len__" = some (some (.ref f))) (hf : W.isFn X.K (.ref f) = true)
    (F : FnOk X.prog X.w X.K X.mg X.base CX k f fd ps sp) (hr : Room (k + 1) X.A) (hb : Binds X.K fd ps []) (hx : ∀ σ, PassesAt CX X σ (E σ)) (hst : starEach [o] X.env = (false, eval o X.env) :: starEach [] X.env) : PE X (.Call (.Name x p) [o] [] pos) (tLenO C sp E ta) := by
  subst ex
  refine ⟨fun pins s σ H Q I h => ?_⟩
  have ha : PA X [o] (tCons ta tNil) := pa_cons he pa_nil hst
  refine wpAny_Call_Name_kw (ld_blt (u := .builtin "len") I hg hm (by decide +kernel) ?_ (by decide) (by decide))
  refine PyProof.Rows.callWith_builtin1 (thn (ha.run pos pins s σ H (fun vs H1 => match vs with
    | [x] => ∃ a dx fs, x = .ref a ∧ H1 a = some (.ins C dx fs) ∧ sp [x] H1 (fun v H2 => ∃ n : Int, v = .int n ∧ 0 ≤ n ∧ n ≤ 1000 ∧ Q (.int n) H2) (E σ)
    | _ => False) I h) fun us s1 ⟨vs, H1, I1, r1, q1⟩ => ?_) hst rfl
  match vs, r1, q1 with
  | [x], .cons r0 .nil, ⟨a, dx, fs, ea, e1, q⟩ =>
    subst ea
    obtain rfl := r0
    obtain ⟨mA, O, _⟩ := ins_get I1.hok e1
    obtain ⟨od, J, _⟩ := O.look
    obtain ⟨m, Fm⟩ := I1.fr
    refine PySem.W.len_K Fm I1.mod.kin J hl hf ?_
    have hln : ([Value.ref a] : List Value).length = ps.length := by
      have := F.len _ _ _ _ q
      simpa using this
    have b := hb s1 [.ref a] I1.kIn (by rw [List.append_nil]; exact hln)
    rw [List.append_nil] at b
    refine wpAny_call (codeAny_mono (F.run X.A.in1 X.stack s1 H1 ⟨[.ref a], []⟩ [.ref a] [.ref a] _ (E σ) hr.in1 I1.env0.in1 b (.cons rfl .nil) q) fun rr s' hq => ?_)
    cases rr with
    | error er => exact hx σ pins H1 s1 er s' I1 hq
    | ok fl =>
      cases fl with
      | ret u =>
        obtain ⟨v, H', J', rv', n, ev, h0, h1, q3⟩ := I1.after hq
        subst ev
        obtain ⟨t, rfl⟩ := rv'
        exact ⟨⟨h0, by omega⟩, .int n, H', J'.tok _, ⟨_, rfl⟩, q3⟩
      | next => exact hq.elim
      | brk => exact hq.elim
      | cont => exact hq.elim
theorem in_cls {pins : List (Addr × Obj)} {σ : L2.St} {H : Hp} {s : Shared} {a C dx : Addr} {fs : List (Str × V)} (I : Inv X pins σ H s) (h : H a = some (.ins C dx fs)) : ∃ ox od, W.InstAt s.heap a ox C od := by
  obtain ⟨mA, O, _⟩ := ins_get I.hok h
  obtain ⟨od, J, _⟩ := O.look
  exact ⟨_, _, J⟩
/-- the type of the right side of == -/
theorem eq_right {pins : List (Addr × Obj)} {σ : L2.St} {H : Hp} {s : Shared} {y : V} {u : Value} (I : Inv X pins σ H s) (B : BandK X.K) (ru : RelV y u) (hy : (∃ b dy gs, y = .ref b ∧ H b = some (.ins (bandC X.K) dy gs)) ∨ ∃ b xs, y = .ref b ∧ H b = some (.tup xs)) :
    ∃ tb, W.Looks (model X.prog X.w) s.heap (typeOf u) tb ∧ W.notFirst X.K (bandC X.K) tb = true ∧ (tb = .ref (bandC X.K) ∨ tb = .type "tuple") := by
  rcases hy with ⟨b, dy, gs, rfl, hb⟩ | ⟨b, xs, rfl, hb⟩
  · obtain rfl := ru
    obtain ⟨ox, od, J⟩ := in_cls I hb
    exact ⟨_, J.type, by simp [W.notFirst], .inl rfl⟩
  · obtain rfl := ru
    obtain ⟨its, r, ⟨o, ho, hcl, n, hd⟩, hz⟩ := I.tuple (SqT.of (K := X.K) hb)
    exact ⟨.type "tuple", hcl ▸ (W.Looks.ld ho).andThen .now, by simp [W.notFirst, B.st], .inr rfl⟩
theorem op_eqO (F : FnOk X.prog X.w X.K X.mg X.base (L2.CX X.prog X.w) k f fd ps sp) (hr : Room k X.A) (hs : W.findIn X.K (.ref (bandC X.K)) "__eq__" = some (some (.ref f))) (hf : W.isFn X.K (.ref f) = true) (hb : Binds X.K fd ps []) : OpR X (compareOp .Eq) (rEqO X.K sp false) := by
  intro pins s σ H x y v u Q I rx ry h
  obtain ⟨a, dx, fs, rfl, ha, hbk, hy, q⟩ := h
  obtain rfl := rx
  have B := bandB_ok hbk
  obtain ⟨ox, od, J⟩ := in_cls I ha
  obtain ⟨tb, lb, nf, _⟩ := eq_right I B ry hy
  obtain ⟨m, Fm⟩ := I.fr
  show wpAny (model X.prog X.w) X.A (richCompare .Eq (.ref a) u) (EP X pins σ Q) X.xe s
  refine W.cmp_K (op := .Eq) hr.units0 Fm I.mod.kin J lb nf hs hf ?_
  have rv : Vals [V.ref a, y] [Value.ref a, u] := .cons rfl (.cons ry .nil)
  have hln : ([Value.ref a, u] : List Value).length = ps.length := by
    have := F.len _ _ _ _ q
    simpa using this
  have b := hb s [.ref a, u] I.kIn (by rw [List.append_nil]; exact hln)
  rw [List.append_nil] at b
  refine wpAny_call (codeAny_mono (F.run X.A X.stack s H ⟨[.ref a, u], []⟩ [.ref a, u] [.ref a, y] _ _ hr I.env0 b rv q) fun rr s' hq => ?_)
  cases rr with
  | error er =>
    obtain ⟨_, _, _, _, _, _, _, _, _, _, _, _, z⟩ := hq
    exact z.elim
  | ok fl =>
    cases fl with
    | ret w =>
      obtain ⟨z, H', J', rz, kk, ez, q3⟩ := I.after hq
      subst ez
      cases rz
      exact ⟨.bl kk, H', J', rfl, by simpa using q3⟩
    | next => exact hq.elim
    | brk => exact hq.elim
    | cont => exact hq.elim
theorem op_neO (F : FnOk X.prog X.w X.K X.mg X.base (L2.CX X.prog X.w) k f fd ps sp) (hr : Room (k + 1) X.A) (hs : W.findIn X.K (.ref (bandC X.K)) "__eq__" = some (some (.ref f))) (hf : W.isFn X.K (.ref f) = true) (hb : Binds X.K fd ps []) : OpR X (compareOp .NotEq) (rEqO X.K sp true) := by
  intro pins s σ H x y v u Q I rx ry h
  obtain ⟨a, dx, fs, rfl, ha, hbk, hy, q⟩ := h
  obtain rfl := rx
  have B := bandB_ok hbk
  obtain ⟨ox, od, J⟩ := in_cls I ha
  obtain ⟨tb, lb, nf, _⟩ := eq_right I B ry hy
  have rv : Vals [V.ref a, y] [Value.ref a, u] := .cons rfl (.cons ry .nil)
  have hln : ([Value.ref a, u] : List Value).length = ps.length := by
    have := F.len _ _ _ _ q
    simpa using this
  have b := hb s [.ref a, u] I.kIn (by rw [List.append_nil]; exact hln)
  rw [List.append_nil] at b
  show wpAny (model X.prog X.w) X.A (richCompare .NotEq (.ref a) u) (EP X pins σ Q) X.xe s
  -- the own == by object.__ne__
  have inner : wpAny (model X.prog X.w) X.A.in1 (callSpecialIfBound? (.ref a) "__eq__" [u]) (fun o s' => ∃ kk : Bool, o = some (.bool kk) ∧ EP X pins σ Q (.bool (!kk)) s') X.xe s := by
    refine W.ifBound_K I.kIn J hs hf ?_
    refine wpAny_call (codeAny_mono (F.run X.A.in1 X.stack s H ⟨[.ref a, u], []⟩ [.ref a, u] [.ref a, y] _ _ hr.in1 I.env0.in1 b rv q) fun rr s' hq => ?_)
    cases rr with
    | error er =>
      obtain ⟨_, _, _, _, _, _, _, _, _, _, _, _, z⟩ := hq
      exact z.elim
    | ok fl =>
      cases fl with
      | ret w =>
        obtain ⟨z, H', J', rz, kk, ez, q3⟩ := I.after hq
        subst ez
        cases rz
        exact ⟨kk, rfl, .bl (!kk), H', J', rfl, by simpa using q3⟩
      | next => exact hq.elim
      | brk => exact hq.elim
      | cont => exact hq.elim
  have entry : wpAny (model X.prog X.w) X.A.in1 (Builtin.«object.__ne__» ⟨[.ref a, u], []⟩) (fun fin s' => match fin with
      | .done (.ret w) => ∃ kk : Bool, w = .bool kk ∧ EP X pins σ Q w s'
      | _ => False) X.xe s := by
    have hu1 : X.A.in1.units < cLine := hr.in1.units0
    unfold Builtin.«object.__ne__»
    refine wpAny_bind (m := slotArgs "__ne__" 1 _) (wpAny_pure ?_)
    refine wpAny_bind (wpAny_cRoomFor hu1 ?_)
    refine wpAny_bind (wpAny_mono inner (fun o s' ho => ?_) fun _ _ e => e)
    obtain ⟨kk, rfl, ho⟩ := ho
    refine wpAny_bind (wpAny_truthy_bool ?_)
    exact wpAny_pure ⟨_, rfl, ho⟩
  have call : wpAny (model X.prog X.w) X.A (call (.builtin "object.__ne__") [.ref a, u]) (fun w s' => ∃ kk : Bool, w = .bool kk ∧ EP X pins σ Q w s') X.xe s := by
    refine wpAny_call (codeAny_call_builtin PySem.F.cmp_object.ne.plain PySem.F.cmpEntry_ne (W.check_slot PySem.F.cmpKind_ne PySem.F.cmpSplit_ne (J.type.andThen (W.looks_mroIn I.kIn B.hm)) (PySem.F.cmpArgs_ne _ _) (wpAny_mono entry (fun fin s' hq => ?_) fun _ _ e => e)))
    cases fin with
    | done fl =>
      cases fl with
      | ret w => exact hq
      | _ => exact hq.elim
    | again c => exact hq.elim
  have bound : wpAny (model X.prog X.w) X.A (callSpecialIfBound? (.ref a) "__ne__" [u]) (fun o s' => ∃ w, o = some w ∧ ∃ kk : Bool, w = .bool kk ∧ EP X pins σ Q w s') X.xe s := by
    simp only [bindSpecialIfBound?, callSpecialIfBound?]
    refine wpAny_holding (wpAny_bind (wpAny_bind (wpAny_bind (J.type.here ((W.looks_findIn I.kIn B.ne).here ?_)))))
    (refine wpAny_bind (wpAny_askSetting (wpAny_ite ?_)))
    have fin : wpAny (model X.prog X.w) X.A (PySem.call (.builtin "object.__ne__") ([.ref a] ++ [u]) >>= fun v => pure (some v)) (fun o s' => ∃ w, o = some w ∧ ∃ kk : Bool, w = .bool kk ∧ EP X pins σ Q w s') X.xe s := wpAny_bind (wpAny_mono call (fun v s' h' => wpAny_pure ⟨v, rfl, h'⟩) fun _ _ h' => h')
    split
    · exact wpAny_bind (wpAny_of_eq (PySem.F.cmp_object.ne.bind _) (wpAny_pure (by exact fin)))
    · exact wpAny_tryCatch (wpAny_bind (wpAny_of_eq (PySem.F.cmp_object.ne.bind _) (wpAny_pure (by exact fin))))
  have one : wpAny (model X.prog X.w) X.A (tryCompare (.ref a) "__ne__" u) (fun r s' => ∃ v, r = some v ∧ EP X pins σ Q v s') X.xe s := by
    unfold tryCompare
    refine wpAny_bind (wpAny_mono bound (fun o s' ho => ?_) fun _ _ e => e)
    obtain ⟨w, rfl, kk, rfl, ho⟩ := ho
    exact wpAny_pure ⟨_, rfl, ho⟩
  simp only [richCompare, oneThing_ref]
  (refine wpAny_holding (wpAny_bind (wpAny_cRoomFor hr.units0 ?_)))
  refine wpAny_bind (J.type.here (wpAny_bind (lb.here ?_)))
  split
  · rename_i qq
    have e : W.subIn X.K tb (.ref (bandC X.K)) = some false := by
      rcases Bool.or_eq_true_iff.mp nf with e5 | e5
      · rw [beq_iff_eq.mp e5] at qq; simp at qq
      · exact beq_iff_eq.mp e5
    refine wpAny_bind ((W.looks_subIn I.kIn e).here ?_)
    simp only [Bool.false_eq_true, if_false]
    refine wpAny_bind (wpAny_mono one (fun r9 s9 z9 => ?_) fun _ _ e9 => e9)
    obtain ⟨v, rfl, hq⟩ := z9
    exact wpAny_pure hq
  · refine wpAny_bind (wpAny_pure ?_)
    simp only [Bool.false_eq_true, if_false]
    refine wpAny_bind (wpAny_mono one (fun r9 s9 z9 => ?_) fun _ _ e9 => e9)
    obtain ⟨v, rfl, hq⟩ := z9
    exact wpAny_pure hq
end
end Cl
set_option Elab.async false
set_option linter.all false
set_option maxRecDepth 100000
set_option maxHeartbeats 4000000
namespace Cl
open PySem PySem.Spec PySem.Calls PyProof.Rows L2
def Mt.id : Mt → String
  | .count => "list.count"
  | .index => "list.index"
  | .join => "str.join"
def Mt.x : Mt → Str
  | .count => "count"
  | .index => "index"
  | .join => "join"
theorem Mt.pa : ∀ m : Mt, PlainAttrs m.T
  | .count => PySem.F.plainAttrs_list
  | .index => PySem.F.plainAttrs_list
  | .join => PySem.F.plainAttrs_str
theorem Mt.slot : ∀ m : Mt, PySem.Slot m.T m.x m.id
  | .count => PySem.F.slot_list_count
  | .index => PySem.F.slot_list_index
  | .join => PySem.F.slot_str_join
theorem Mt.ty : ∀ m : Mt, typeOf (.builtin m.id) = pure (.type "method_descriptor")
  | .count => PySem.F.type_list_count
  | .index => PySem.F.type_list_index
  | .join => PySem.F.type_str_join
theorem pds_get (ds : List D) (i : Nat) : (D.pds ds)[i]? = ds[i]?.map D.pd := by rw [pds_map, List.getElem?_map]
section
variable {X : Cx}
theorem mt_data (hu : X.A.units + 200 < cLine) (m : Mt) : MtR X m.id (rMt X.K m) := by
  intro pins s σ H x xs v us Q I rx rxs h
  obtain ⟨P, d0, ds, d, e, h0, hr, hf, q⟩ := h
  cases m with
  | index =>
    cases d0 with
    | lst a =>
      cases ds with
      | nil => simp [mtF] at hf
      | cons y r =>
        cases r with
        | cons _ _ => simp [mtF] at hf
        | nil =>
          obtain ⟨w, rfl, h1⟩ := one_of hr
          simp only [mtF, Option.ite_none_right_eq_some, Bool.and_eq_true, Option.map_eq_some_iff] at hf
          obtain ⟨⟨o1, o2⟩, j, hj, rfl⟩ := hf
          obtain ⟨a1, vs1, rfl, g1, r1⟩ := h0.lst e
          have g := h0.dp e (nob_ok o2)
          unfold D.okD at o1 o2
          simp only [D.pd] at g o2
          rw [List.findIdx?_eq_some_iff_getElem] at hj
          obtain ⟨hl, hp, hno⟩ := hj
          refine mt_indexD (by omega) pins s σ H _ _ v us Q I rx rxs ⟨a1, w, y.pd, D.pds a, j, a[j].pd, rfl, rfl, g, h1.dp e (nob_ok o1), o2, o1, ?_, hp, fun n z' hn hz' => ?_, q _ _ (.same (.int _))⟩
          · rw [pds_get, List.getElem?_eq_getElem hl]; rfl
          · rw [pds_get, List.getElem?_eq_getElem (by omega)] at hz'
            cases hz'
            have := hno n hn
            simpa [deq] using this
    | _ => simp [mtF] at hf
  | count =>
    cases d0 with
    | lst a =>
      cases ds with
      | nil => simp [mtF] at hf
      | cons y r =>
        cases r with
        | cons _ _ => simp [mtF] at hf
        | nil =>
          obtain ⟨w, rfl, h1⟩ := one_of hr
          simp only [mtF, Option.ite_none_right_eq_some, Bool.and_eq_true, Option.some.injEq] at hf
          obtain ⟨⟨o1, o2⟩, rfl⟩ := hf
          obtain ⟨a1, vs1, rfl, g1, r1⟩ := h0.lst e
          unfold D.okD at o1 o2
          simp only [D.pd] at o2
          cases rx
          obtain ⟨u, rfl, ru⟩ := rxs.one
          obtain ⟨its, rv, ⟨⟨cls, dd, data, sl⟩, n, ho, hc, hdn, hd⟩, hlen⟩ := I.list (SqL.of (K := X.K) g1)
          simp only at hc hd
          subst hc hd
          obtain ⟨bs, rd⟩ := Dp.reads I _ _ _ (h1.dp e (nob_ok o1)) ru
          obtain ⟨as, hra⟩ := Dp.readsAll I _ _ its (r1.dp e _ _ (by simpa [D.nob] using nob_ok (d := .lst a) o2)) rv
          have hxs : PyData.canLayAll0 (D.pds a) = true := SeqAt.canLay_of_shaped o2
          refine call_meets PySem.F.slot_list_count ⟨_, ho, rfl⟩ PySem.F.entry_list_count (PySem.F.args_list_count_2 _ _)
            (SeqAt.list_countAt a1 its.toArray n dd sl u (fun z => PyData.eqv (SeqAt.readOf s.heap z) y.pd)) ⟨ho, SeqAt.items_eqAt (vs := its.toArray) (show ReadsAll s.heap its.toArray.toList (D.pds a) as from hra) rd hxs (SeqAt.canLay_of_shaped o1) (room_in_shaped o1 (by omega)), ?_⟩
          have hmap : its.map (SeqAt.readOf s.heap) = D.pds a := SeqAt.readsAll_map _ its as hxs hra
          have ec : its.toArray.toList.countP (fun z => PyData.eqv (SeqAt.readOf s.heap z) y.pd) = a.countP (fun z => deq z y) := by
            show its.countP _ = _
            have e1 : its.countP (fun z => PyData.eqv (SeqAt.readOf s.heap z) y.pd) = (its.map (SeqAt.readOf s.heap)).countP (fun z => PyData.eqv z y.pd) := by
              rw [List.countP_map]; rfl
            rw [e1, hmap, pds_map, List.countP_map]; rfl
          refine ⟨.int (a.countP (fun z => deq z y) : Nat), H, I.tok _, ⟨s.toks, ?_⟩, q _ _ (.same (.int _))⟩
          rw [ec]
    | _ => simp [mtF] at hf
  | join =>
    cases d0 with
    | str a =>
      cases ds with
      | nil => simp [mtF] at hf
      | cons y r =>
        cases r with
        | cons _ _ => cases y <;> simp [mtF] at hf
        | nil =>
          obtain ⟨w, rfl, h1⟩ := one_of hr
          cases y with
          | lst b =>
            simp only [mtF, Option.bind_eq_some_iff, Option.ite_none_right_eq_some, Option.some.injEq] at hf
            obtain ⟨ys, hy, hl, rfl⟩ := hf
            obtain rfl := h0.str
            obtain ⟨a1, vs1, rfl, g1, r1⟩ := h1.lst e
            rw [strs?_some hy] at r1
            rw [r1.strsV] at g1
            exact mt_join pins s σ H _ _ v us Q I rx rxs ⟨a, a1, ys, rfl, rfl, .inl (SqL.of g1), hl, q _ _ (.same (.str _))⟩
          | _ => simp [mtF] at hf
    | _ => simp [mtF] at hf
theorem ty_data {K : W.Frag} {P H : Hp} {m : Mt} {d0 d : D} {ds : List D} {x : V} (e : Ex P H) (h : RepB K P H d0 x) (hf : mtF m d0 ds = some d) : tyV K m.T x H := by
  cases m <;> cases d0 <;> simp only [mtF, reduceCtorEq] at hf
  · obtain ⟨a1, vs1, rfl, g1, r1⟩ := h.lst e
    exact .inl ⟨rfl, _, SqL.of g1⟩
  · obtain ⟨a1, vs1, rfl, g1, r1⟩ := h.lst e
    exact .inl ⟨rfl, _, SqL.of g1⟩
  · obtain rfl := h.str
    rfl
end
end Cl
set_option Elab.async false
set_option linter.all false
set_option maxRecDepth 100000
set_option maxHeartbeats 4000000
namespace Cl
open PySem L2 RZ
section
variable {K : W.Frag} {cls : Nat → Value} {sp : Nat → Sp} {cl : Nat → List D → R D}
/-- what a call asks of the promises -/
structure Calls (K : W.Frag) (cls : Nat → Value) (sp : Nat → Sp) (cl : Nat → List D → R D) : Prop where
  c : ∀ (f : Nat) (P H : Hp) (ds : List D) (vs : List V) (Q : VK) (Ex' : XK), Ex P H → Reps K P ds vs → (match cl f ds with
      | .ok d => ∀ v P' H', Ext P H P' H' → Rep K P' d v → Q v H'
      | .exc c => ∀ P' H', Ext P H P' H' → Ex' (cls c) none H'
      | .bad => False) → sp f vs H Q Ex'
  d : ∀ (f : Nat) (P H : Hp) (ds : List D) (vs : List V) (d : Addr) (i : Int) (Q : VK) (Ex' : XK), Ex P H → Reps K P ds vs → H d = none → memoArgs ds = true → cl f ds = .ok (.int i) → (∀ P' H', Ext P H P' H' → Q (.int i) H') → sp (1000 + f) (vs ++ [.ref d]) (upd H d (.dT [])) Q Ex'
  n : NewP K cls (sp 4900) (cl 900)
theorem rep_cst {P : Hp} : ∀ c : Cst, Rep K P c.d c.v
  | .non => .non
  | .bl b => .bl b
  | .int i => .int i
  | .str x => .str x
theorem sb_bor {E : EX} {i : Nat} : SB K cls E (tVar i) (fun env => (slotO env[i]?).bind fun ds => .ok (.lst ds)) := fun H0 env σ P H Q I p => by
  simp only at p
  cases hs : env[i]? with
  | none => rw [hs] at p; exact p.elim
  | some s =>
    rw [hs] at p
    cases s with
    | no => exact p.elim
    | raw v => exact p.elim
    | val d => exact p.elim
    | own ds =>
      obtain ⟨a, vs, h1, h0, h2, h3, h4⟩ := I.at_ i _ hs
      exact ⟨.ref a, h1, p _ P H (.refl I.ex) (.inr ⟨a, vs, ds, rfl, rfl, h3, h4⟩)⟩
theorem se_cst {E : EX} {c : Cst} : SE K cls E (tC c.v) (fun _ => .ok c.d) := fun H0 env σ P H Q I p => p _ P H (.refl I.ex) (rep_cst c)
theorem se_bad {E : EX} {t : TE} : SE K cls E t (fun _ => .bad) := fun H0 env σ P H Q I p => p.elim
theorem si_bad {E : EX} {t : TI} {keep : Bool} : SI K cls E keep t (fun _ => .bad) := fun H0 env σ P H Q I p => p.elim
theorem ty_of {P H : Hp} {m : Mt} {d0 : D} {x : V} (e : Ex P H) (h : RepB K P H d0 x) (hf : mtTy m d0 = true) : tyV K m.T x H := by
  cases m <;> cases d0 <;> simp only [mtTy, Bool.false_eq_true] at hf
  · obtain ⟨a1, vs1, rfl, g1, r1⟩ := h.lst e
    exact .inl ⟨rfl, _, SqL.of g1⟩
  · obtain ⟨a1, vs1, rfl, g1, r1⟩ := h.lst e
    exact .inl ⟨rfl, _, SqL.of g1⟩
  · obtain rfl := h.str
    rfl
theorem se_meth {E : EX} {to : TE} {tr : TA} {fo : Env → R D} {fr : Env → R (List D)} {m : Mt} (ho : SB K cls E to fo) (hr : SAB K cls E tr fr) : SE K cls E (tBM K m.T (rMt K m) to tr) (fun env => (fo env).bind fun x => if mtTy m x then (fr env).bind fun ds => R.ofO (mtF m x ds) else .bad) := fun H0 env σ P H Q I p => by
  refine ho H0 env σ P H _ I ?_
  cases hf : fo env with
  | exc c => simp only [hf, R.bind_exc] at p; exact p
  | bad => simp only [hf, R.bind_bad] at p; exact p.elim
  | ok x =>
    intro v P1 H1 e1 r1
    simp only [hf, R.bind_ok] at p
    by_cases hy : mtTy m x = true
    · rw [if_pos hy] at p
      refine ⟨ty_of e1.ph r1 hy, hr H0 env σ P1 H1 _ (I.mono e1) ?_⟩
      cases hg : fr env with
      | exc c => simp only [hg, R.bind_exc] at p; exact fun P' H' e2 => p P' H' (e1.trans e2)
      | bad => simp only [hg, R.bind_bad] at p; exact p.elim
      | ok ds =>
        simp only [hg, R.bind_ok] at p
        obtain ⟨d, hd⟩ := p.some
        intro vs P2 H2 e2 r2
        exact ⟨P2, x, ds, d, e2.ph, r1.mono e2, r2, hd, fun v H' r => (PostE.step (e1.trans e2) p).res e2.ph hd r⟩
    · rw [if_neg hy] at p; exact p.elim
end
section
variable {K : W.Frag} {cls : Nat → Value} {sp : Nat → Sp} {cl : Nat → List D → R D} (hC : Calls K cls sp cl)
include hC
mutual
theorem se_all : ∀ (e : CE) (E : EX), e.isBor = false → SE K cls E (tOf K sp E e) (ev cl e)
  | .var i, E, _ => se_var
  | .bor i, E, h => by simp [CE.isBor] at h
  | .cst c, E, _ => se_cst
  | .glo x c, E, _ => se_cst
  | .bin op a b, E, _ => se_bin (sb_all a E) (sb_all b E)
  | .neg a, E, _ => se_neg (sb_all a E)
  | .cmp op a b, E, _ => se_cmp (sb_all a E) (sb_all b E)
  | .chn op op' a b c, E, _ => se_chn (sb_all a E) (sb_all b E) (sb_all c E)
  | .and a r, E, _ => se_and (sb_all a E) (se_all r E)
  | .or a r, E, _ => se_or (sb_all a E) (se_all r E)
  | .one a, E, _ => fun H0 env σ P H Q I p => by
    have e : ev cl (.one a) env = if a.isBor then .bad else ev cl a env := by simp only [ev]
    rw [e] at p
    cases hb : a.isBor with
    | true => rw [hb] at p; exact p.elim
    | false => rw [hb] at p; exact se_all a E hb H0 env σ P H Q I p
  | .not a, E, _ => se_not (sb_all a E)
  | .ite c a b, E, _ => se_ite (fun H0 env σ P H Q I p => by
      cases hb : c.isTest with
      | true => rw [hb] at p; exact st_all c E hb H0 env σ P H Q I p
      | false => rw [hb] at p; exact p.elim) (se_all a E) (se_all b E)
  | .tup es, E, _ => se_tup (sa_all es E)
  | .lst es, E, _ => (sn_lst (sa_all es E)).se fun env d h => by
      cases hf : evs cl es env with
      | exc c => simp [hf] at h
      | bad => simp [hf] at h
      | ok ds =>
        simp only [hf, R.bind_ok] at h
        split at h
        · cases h; exact ⟨_, rfl⟩
        · cases h
  | .idx a b, E, _ => se_idx (sb_all a E) (sb_all b E)
  | .slc a lo hi, E, _ => se_slc (sb_all a E) (so_all lo E) (so_all hi E)
  | .rev a, E, _ => se_rev (sb_all a E)
  | .revT a, E, _ => se_revT (sb_all a E)
  | .call f es, E, _ => se_call (sa_all es E) (hC.c f)
  | .callD f es, E, _ => se_callD (sad_all es E) (hC.d f)
  | .callAt fs ix es, E, _ => se_callAt (sb_all ix E) fun f => se_call (sa_all es E) (hC.c f)
  | .bi b es, E, _ => se_bi (sab_all es E)
  | .meth m o es, E, _ => se_meth (sb_all o E) (sab_all es E)
  | .rgl .nil, E, _ => se_bad
  | .rgl (.cons a .nil), E, _ => se_rg1 (sb_all a E)
  | .rgl (.cons a (.cons b .nil)), E, _ => se_rg2 (sb_all a E) (sb_all b E)
  | .rgl (.cons a (.cons b (.cons c .nil))), E, _ => se_rg3 (sb_all a E) (sb_all b E) (sb_all c E)
  | .rgl (.cons a (.cons b (.cons c (.cons d r)))), E, _ => se_bad
  | .rgt .nil, E, _ => se_bad
  | .rgt (.cons a .nil), E, _ => se_rt1 (sb_all a E)
  | .rgt (.cons a (.cons b .nil)), E, _ => se_rt2 (sb_all a E) (sb_all b E)
  | .rgt (.cons a (.cons b (.cons c d))), E, _ => se_bad
  | .lc elt t it c vs, E, _ => (sn_lc (si_all it E false (fun z => by cases z)) (sc_all c EX0) (se_all elt EX0)).se fun env d h => by
      cases hf : evi cl it env with
      | exc c => simp [hf] at h
      | bad => simp [hf] at h
      | ok ds =>
        simp only [hf, R.bind_ok] at h
        split at h
        · revert h
          generalize comp _ ds = r
          intro h
          cases r with
          | ok ys => simp at h; exact ⟨_, h.symm⟩
          | exc c => simp at h
          | bad => simp at h
        · cases h
  | .lc2 elt t it c t1 it1 c1 vs vs1, E, _ => (sn_lc2 (si_all it E false (fun z => by cases z)) (sc_all c EX0) (fun hk => si_all it1 EX0 true (fun _ => hk)) (sc_all c1 EX0) (se_all elt EX0)).se fun env d h => by
      cases hf : evi cl it env with
      | exc c => simp [hf] at h
      | bad => simp [hf] at h
      | ok ds =>
        simp only [hf, R.bind_ok] at h
        split at h
        · revert h
          generalize compCat _ ds = r
          intro h
          cases r with
          | ok ys =>
            simp only [R.bind_ok] at h
            split at h
            · simp at h; exact ⟨_, h.symm⟩
            · cases h
          | exc c => simp at h
          | bad => simp at h
        · cases h
  | .sset e, E, _ => se_sset (sb_all e E)
  | .lset e, E, _ => se_lset (sb_all e E)
  | .isi t e, E, _ => se_isi (sb_all e E)
  | .fld i j, E, _ => se_fld
  | .mth f m o es, E, _ => se_mth (se_all o E) (sa_all es E) (hC.c f)
  | .new es, E, _ => se_new (sa_all es E) hC.n
  | .eqO ne f a b, E, _ => se_eqO (se_all a E) (se_all b E) (hC.c f)
  | .isB i e, E, _ => se_isB (se_all e E)
  | .lenO f i, E, _ => se_lenO (hC.c f)
theorem sb_all : ∀ (e : CE) (E : EX), SB K cls E (tOf K sp E e) (ev cl e)
  | .bor i, E => sb_bor
  | e, E => by
    cases hb : e.isBor with
    | false => exact (se_all e E hb).sb
    | true =>
      cases e <;> simp [CE.isBor] at hb
      exact sb_bor
theorem st_all : ∀ (e : CE) (E : EX), e.isTest = true → ST K cls E (tOfT K sp E e) (fun env => (ev cl e env).bind boolD)
  | .and a r, E, h => by
    simp only [CE.isTest, Bool.and_eq_true] at h
    exact st_and (st_all a E h.1) (fun _ => st_all r E h.2)
  | .or a r, E, h => by
    simp only [CE.isTest, Bool.and_eq_true] at h
    exact st_or (st_all a E h.1) (fun _ => st_all r E h.2)
  | .one a, E, h => fun H0 env σ P H Q I p => by
    have e : ev cl (.one a) env = if a.isBor then .bad else ev cl a env := by simp only [ev]
    simp only [e] at p
    cases hb : a.isBor with
    | true => rw [hb] at p; exact p.elim
    | false => rw [hb] at p; exact st_all a E (by simpa [CE.isTest] using h) H0 env σ P H Q I p
  | .not a, E, h => st_not (st_all a E (by simpa [CE.isTest] using h))
  | .var i, E, _ => st_val se_var.sb
  | .cst c, E, _ => st_val se_cst.sb
  | .cmp op a b, E, _ => st_val (se_cmp (sb_all a E) (sb_all b E)).sb
  | .chn op op' a b c, E, _ => st_val (se_chn (sb_all a E) (sb_all b E) (sb_all c E)).sb
  | .call f es, E, _ => st_val (se_call (sa_all es E) (hC.c f)).sb
  | .bi b es, E, _ => st_val (se_bi (sab_all es E)).sb
  | .isi t e, E, _ => st_val (se_isi (sb_all e E)).sb
  | .idx a b, E, _ => st_val (se_idx (sb_all a E) (sb_all b E)).sb
  | .eqO ne f a b, E, _ => st_val (se_eqO (se_all a E) (se_all b E) (hC.c f)).sb
  | .isB i e, E, _ => st_val (se_isB (se_all e E)).sb
theorem sa_all : ∀ (es : CEs) (E : EX), SA K cls E (tOfs K sp E es) (evs cl es)
  | .nil, E => sa_nil
  | .cons e r, E => sa_cons (se_all e E) (sa_all r E)
theorem sad_all : ∀ (es : CEs) (E : EX), SAD K cls E (tOfsD K sp E es) (evs cl es)
  | .nil, E => sad_nil
  | .cons e r, E => sad_cons (se_all e E) (sad_all r E)
theorem sab_all : ∀ (es : CEs) (E : EX), SAB K cls E (tOfs K sp E es) (evb cl es)
  | .nil, E => sab_nil
  | .cons e r, E => sab_cons (sb_all e E) (sab_all r E)
theorem so_all : ∀ (o : CO) (E : EX), SO K cls E (tOfO K sp E o) (evo cl o)
  | .none, E => so_none
  | .some e, E => so_some (sb_all e E)
theorem sc_all : ∀ (o : CO) (E : EX), ST K cls E (tOfC K sp E o) (evt cl o)
  | .none, E => fun H0 env σ P H Q I p => p P H (.refl I.ex)
  | .some e, E => fun H0 env σ P H Q I p => by
    have e2 : evt cl (.some e) env = if e.isTest then (ev cl e env).bind boolD else .bad := by simp only [evt]
    rw [e2] at p
    cases hb : e.isTest with
    | true => rw [hb] at p; exact st_all e E hb H0 env σ P H Q I p
    | false => rw [hb] at p; exact p.elim
theorem si_all : ∀ (i : CI) (E : EX) (keep : Bool), (keep = true → i.noBor = true) → SI K cls E keep (tOfI K sp E i) (evi cl i)
  | .lst e, E, keep, h => si_lst (sb_all e E) (fun hk => se_all e E (by simpa [CI.noBor] using h hk))
  | .tup e, E, keep, h => si_tup (sb_all e E)
  | .str e, E, keep, h => si_str (sb_all e E)
  | .rng .nil, E, keep, h => si_bad
  | .rng (.cons a .nil), E, keep, h => si_rng1 (sb_all a E)
  | .rng (.cons a (.cons b .nil)), E, keep, h => si_rng2 (sb_all a E) (sb_all b E)
  | .rng (.cons a (.cons b (.cons c .nil))), E, keep, h => si_rng3 (sb_all a E) (sb_all b E) (sb_all c E)
  | .rng (.cons a (.cons b (.cons c (.cons d r)))), E, keep, h => si_bad
  | .enum e, E, keep, h => si_enum (sb_all e E) (fun hk => se_all e E (by simpa [CI.noBor] using h hk))
  | .enumS e, E, keep, h => si_enumS (sb_all e E)
  | .zip a b, E, keep, h => fun H0 env σ P H Q I p => by
    have e2 : evi cl (.zip a b) env = if a.isBor then .bad else if b.isBor then .bad else (ev cl a env).bind fun x => (ev cl b env).bind fun y => zipDD x y := by simp only [evi]
    rw [e2] at p
    cases ha : a.isBor with
    | true => rw [ha] at p; exact p.elim
    | false =>
      cases hb : b.isBor with
      | true => rw [ha, hb] at p; exact p.elim
      | false => rw [ha, hb] at p; exact si_zip (se_all a E ha) (se_all b E hb) H0 env σ P H Q I p
end
end
end Cl
set_option Elab.async false
set_option linter.all false
set_option maxRecDepth 100000
set_option maxHeartbeats 4000000
namespace Cl
open PySem L2 RZ
section
variable (K : W.Frag) (cls : Nat → Value) (sp : Nat → Sp)
def tParS (is : List Nat) (ta : TA) : TS := match is with
  | [i, j] => tPar i j ta
  | [i, j, l] => tPar3 i j l ta
  | _ => fun _ _ _ => False
/-- an except suite: the slot i holds the error, of the class c -/
def tsH (i : Nat) (h : HE) : Addr → Value → Option Addr → TS := fun a cv d Z σ H => ∃ (c : Nat) (d' : D) (P : Hp) (σ0 : L2.St), cv = cls c ∧ d = none ∧ Ex P H ∧ σ = σ0.set i (some (.ref a)) ∧ evh c h = some d' ∧ ∀ v P' H', Ext P H P' H' → Rep K P' d' v → Z.rt v H'
def eTry (i : Nat) (h : HE) (E : EX) (Z : Ends) : EX := fun σ cv d H => wAs K (cls 0) i (tsH K cls i h) (fun c d σ H => E σ c d H) Z cv d σ H
mutual
def tOfS (E : EX) : CS → TS
  | .asg i e => tAsg (tOf K sp E e) (gName i)
  | .own i e => tAsg (tOf K sp E e) (gName i)
  | .ownQ i j e => tAsg (tTup (tCons (tOf K sp E e) (tCons (tLst tNil) tNil))) (gTup K 2 (gNames [i, j]))
  | .ownP i j e => tParS [i, j] (tCons (tOf K sp E e) (tCons (tLst tNil) tNil))
  | .own2 i j => tParS [i, j] (tCons (tLst tNil) (tCons (tLst tNil) tNil))
  | .par true is es => tParS is (tOfs K sp E es)
  | .par false is es => tAsg (tTup (tOfs K sp E es)) (gTup K is.length (gNames is))
  | .unp t e => tAsg (tOf K sp E e) (tOfG K t)
  | .app i e => tDrop (tBM K "list" rAppend (tVar i) (tCons (tOf K sp E e) tNil))
  | .ext i e => tDrop (tBM K "list" rExtend (tVar i) (tCons (tOf K sp E e) tNil))
  | .six i a e => tAsg (tOf K sp E e) (gSub (tVar i) (tOf K sp E a) rSetL)
  | .ite c a b => tIfS (tOfT K sp E c) (tOfSs E a) (tOfSs E b)
  | .forr t it b => tFor (tOfI K sp E it) (tOfG K t) (tOfSs E b)
  | .whl c b => tWhile (tOfT K sp E c) (tOfSs E b)
  | .ret e => tRet (tOf K sp E e)
  | .retO i => tRet (tVar i)
  | .exp e => tDrop (tOf K sp E e)
  | .rse c => fun _ σ H => E σ (cls c) none H
  | .frz _ => tNext
  | .tryx b i h => fun Z σ H => tOfSs (eTry K cls i h E Z) b Z σ H
def tOfSs (E : EX) : CSs → TS
  | .nil => tNext
  | .cons s r => tSeq (tOfS E s) (tOfSs E r)
end
def PostS (E : EX) (P0 H0 P : Hp) (r : R Fl) (D : Ends) : Prop := match r with
  | .ok (.nx env') => ∀ σ' P' H', Ext P0 H0 P' H' → Ex P P' → EnvOk K H0 env' σ' P' H' → D.nx σ' H'
  | .ok (.rt d) => ∀ v P' H', Ext P0 H0 P' H' → Rep K P' d v → D.rt v H'
  | .exc c => ∀ σ' P' H', Ext P0 H0 P' H' → E σ' (cls c) none H'
  | .bad => False
def SS (E : EX) (t : TS) (f : Env → R Fl) : Prop := ∀ P0 H0 env σ P H D, Ext P0 H0 P H → EnvOk K H0 env σ P H → PostS K cls E P0 H0 P (f env) D → t D σ H
end
section
variable {K : W.Frag} {cls : Nat → Value} {sp : Nat → Sp} {cl : Nat → List D → R D} {E : EX} {P0 H0 P H : Hp} {σ : L2.St} {Z : Ends} {env : Env}
theorem PostS.later {P1 : Hp} {r : R Fl} (e : Ex P P1) (p : PostS K cls E P0 H0 P r Z) : PostS K cls E P0 H0 P1 r Z := by
  cases r with
  | ok o =>
    cases o with
    | nx env' => exact fun σ' P' H' a b c => p σ' P' H' a (e.trans b) c
    | rt d => exact p
  | exc c => exact p
  | bad => exact p
/-- an expression ahead of the rest of a statement -/
theorem SE.thenS {t : TE} {f : Env → R D} {k : D → R Fl} {Qb : VK} (h : SE K cls E t f) (x : Ext P0 H0 P H) (I : EnvOk K H0 env σ P H) (p : PostS K cls E P0 H0 P ((f env).bind k) Z)
    (q : ∀ d v P1 H1, f env = .ok d → Ext P H P1 H1 → Rep K P1 d v → PostS K cls E P0 H0 P1 (k d) Z → EnvOk K H0 env σ P1 H1 → Qb v H1) : t σ H Qb := h H0 env σ P H Qb I (by
  cases hf : f env with
  | ok d => rw [hf] at p; exact fun v P1 H1 e r => q d v P1 H1 hf e r (p.later e.p) (I.mono e)
  | exc c => rw [hf] at p; exact fun P' H' e => p σ P' H' (x.trans e)
  | bad => rw [hf] at p; exact p)
theorem SB.thenS {t : TE} {f : Env → R D} {k : D → R Fl} {Qb : VK} (h : SB K cls E t f) (x : Ext P0 H0 P H) (I : EnvOk K H0 env σ P H) (p : PostS K cls E P0 H0 P ((f env).bind k) Z)
    (q : ∀ d v P1 H1, f env = .ok d → Ext P H P1 H1 → RepB K P1 H1 d v → PostS K cls E P0 H0 P1 (k d) Z → EnvOk K H0 env σ P1 H1 → Qb v H1) : t σ H Qb := h H0 env σ P H Qb I (by
  cases hf : f env with
  | ok d => rw [hf] at p; exact fun v P1 H1 e r => q d v P1 H1 hf e r (p.later e.p) (I.mono e)
  | exc c => rw [hf] at p; exact fun P' H' e => p σ P' H' (x.trans e)
  | bad => rw [hf] at p; exact p)
theorem SA.thenS {t : TA} {f : Env → R (List D)} {k : List D → R Fl} {Qb : List V → Hp → Prop} (h : SA K cls E t f) (x : Ext P0 H0 P H) (I : EnvOk K H0 env σ P H) (p : PostS K cls E P0 H0 P ((f env).bind k) Z)
    (q : ∀ d v P1 H1, f env = .ok d → Ext P H P1 H1 → Reps K P1 d v → PostS K cls E P0 H0 P1 (k d) Z → EnvOk K H0 env σ P1 H1 → Qb v H1) : t σ H Qb := h H0 env σ P H Qb I (by
  cases hf : f env with
  | ok d => rw [hf] at p; exact fun v P1 H1 e r => q d v P1 H1 hf e r (p.later e.p) (I.mono e)
  | exc c => rw [hf] at p; exact fun P' H' e => p σ P' H' (x.trans e)
  | bad => rw [hf] at p; exact p)
theorem ST.thenS {t : TT} {f : Env → R Bool} {k : Bool → R Fl} {Qb : Bool → Hp → Prop} (h : ST K cls E t f) (x : Ext P0 H0 P H) (I : EnvOk K H0 env σ P H) (p : PostS K cls E P0 H0 P ((f env).bind k) Z)
    (q : ∀ b P1 H1, f env = .ok b → Ext P H P1 H1 → PostS K cls E P0 H0 P1 (k b) Z → EnvOk K H0 env σ P1 H1 → Qb b H1) : t σ H Qb := h H0 env σ P H Qb I (by
  cases hf : f env with
  | ok d => rw [hf] at p; exact fun P1 H1 e => q d P1 H1 hf e (p.later e.p) (I.mono e)
  | exc c => rw [hf] at p; exact fun P' H' e => p σ P' H' (x.trans e)
  | bad => rw [hf] at p; exact p)
/-- the list of a slot changes: how the heap lies to the entry -/
theorem Ext.mut {a : Addr} {o : HO} (x : Ext P0 H0 P H) (h0 : H0 a = none) (hp : P a = none) : Ext P0 H0 P (upd H a o) :=
  ⟨fun b u e => by rw [upd_ne (ne_of_none e h0)]; exact x.h b u e, x.p, fun b u e => by
    have nb : b ≠ a := fun z => by rw [z, hp] at e; cases e
    rw [upd_ne nb]; exact x.ph b u e, x.fr⟩
theorem Ext.frz {a : Addr} {o : HO} (x : Ext P0 H0 P H) (h0 : H0 a = none) (hp : P a = none) (ha : H a = some o) : Ext P0 H0 (upd P a o) H :=
  ⟨x.h, x.p.trans (Ex.new hp), fun b u e => by
    by_cases hb : b = a
    · subst hb; rw [upd_same] at e; cases e; exact ha
    · rw [upd_ne hb] at e; exact x.ph b u e, fun b z1 z2 => by
    have nb : b ≠ a := fun z => z2 (by rw [z]; exact h0)
    rw [upd_ne nb]; exact x.fr b z1 z2⟩
theorem slotO_some {o : Option Slot} {k : List D → R Fl} : (∃ ds, o = some (.own ds) ∧ (slotO o).bind k = k ds) ∨ (slotO o).bind k = .bad := by
  cases o with
  | none => exact .inr rfl
  | some s =>
    cases s with
    | own ds => exact .inl ⟨ds, rfl, rfl⟩
    | no => exact .inr rfl
    | raw v => exact .inr rfl
    | val d => exact .inr rfl
theorem lstD_some {d : D} {k : List D → R Fl} : (∃ ds, d = .lst ds ∧ (lstD d).bind k = k ds) ∨ (lstD d).bind k = .bad := by
  cases d with
  | lst ds => exact .inl ⟨ds, rfl, rfl⟩
  | _ => exact .inr rfl
theorem ss_asg {i : Nat} {t : TE} {f : Env → R D} (h : SE K cls E t f) : SS K cls E (tAsg t (gName i)) (fun env => (f env).bind fun d => .ok (.nx (env.set i (.val d)))) := fun P0 H0 env σ P H Z x I p =>
  h.thenS x I p fun d v P1 H1 _ e r p1 I1 => p1 _ P1 H1 (x.trans e) (Same.refl _) (I1.set r)
theorem ss_own {i : Nat} {t : TE} {f : Env → R D} (h : SN K cls E t f) : SS K cls E (tAsg t (gName i)) (fun env => (f env).bind fun d => (lstD d).bind fun ds => .ok (.nx (env.set i (.own ds)))) := fun P0 H0 env σ P H Z x I p => by
  refine h H0 env σ P H _ I ?_
  simp only at p
  cases hf : f env with
  | exc c => rw [hf] at p; exact fun P' H' e => p σ P' H' (x.trans e)
  | bad => rw [hf] at p; exact p
  | ok d =>
    rw [hf] at p
    cases d with
    | lst ds =>
      intro a vs P1 H1 e h1 h2 h3 h4
      have I1 := I.mono e
      refine p _ P1 H1 (x.trans e) e.p (I1.setO (x.h.free h1) h2 h3 h4 fun j es hj n hs => ?_)
      obtain ⟨b, us, e1, _, _, e4, _⟩ := I.at_ j _ hj
      rw [hs] at e1
      cases e1
      rw [h1] at e4; cases e4
    | _ => exact p.elim
/-- two new lists at once -/
theorem ss_own2 {i j : Nat} : SS K cls E (tPar i j (tCons (tLst tNil) (tCons (tLst tNil) tNil))) (fun env => if i = j then .bad else .ok (.nx ((env.set i (.own [])).set j (.own [])))) := fun P0 H0 env σ P H Z x I p => by
  simp only at p
  by_cases hij : i = j
  · rw [if_pos hij] at p; exact p.elim
  · rw [if_neg hij] at p
    refine ⟨Nat.zero_le _, fun a ha => ⟨Nat.zero_le _, fun b hb => ⟨_, _, rfl, ?_⟩⟩⟩
    have hab : a ≠ b := fun z => by rw [← z, upd_same] at hb; cases hb
    have hb' : H b = none := by rw [upd_ne (Ne.symm hab)] at hb; exact hb
    have e1 : Ext P H P (upd H a (.lst [])) := Ext.newO I.ex ha
    have e2 : Ext P (upd H a (.lst [])) P (upd (upd H a (.lst [])) b (.lst [])) := Ext.newO e1.ph hb
    have I2 := (I.mono e1).mono e2
    have own_ne : ∀ (c : Addr), H c = none → ∀ (l : Nat) (es : List D), env[l]? = some (.own es) → σ[l]? ≠ some (some (.ref c)) := fun c hc l es hl hs => by
      obtain ⟨b', us, q1, _, _, q4, _⟩ := I.at_ l _ hl
      rw [hs] at q1
      cases q1
      rw [hc] at q4; cases q4
    have I3 := I2.setO (i := i) (ds := []) (vs := []) (a := a) (x.h.free ha) (I.ex.free ha) (by rw [upd_ne hab]; exact upd_same) .nil fun l es hl n => own_ne a ha l es hl
    have I4 := I3.setO (i := j) (ds := []) (vs := []) (a := b) (x.h.free hb') (I.ex.free hb') upd_same .nil fun l es hl n => by
      by_cases hil : i = l
      · subst hil
        have hlt : i < env.length := by simpa using (List.getElem?_eq_some_iff.mp hl).1
        rw [List.getElem?_set_self (I.len ▸ hlt)]
        intro z
        simp only [Option.some.injEq, V.ref.injEq] at z
        exact hab z
      · rw [List.getElem?_set_ne hil] at hl ⊢
        exact own_ne b hb' l es hl
    exact p _ P _ ((x.trans e1).trans e2) (Same.refl _) I4
theorem ss_ownP {i j : Nat} {t : TE} {f : Env → R D} (h : SE K cls E t f) : SS K cls E (tPar i j (tCons t (tCons (tLst tNil) tNil))) (fun env => (f env).bind fun d => if i = j then .bad else .ok (.nx ((env.set i (.val d)).set j (.own [])))) := fun P0 H0 env σ P H Z x I p =>
  h.thenS x I p fun d v P1 H1 _ e r p1 I1 => by
    by_cases hij : i = j
    · rw [if_pos hij] at p1; exact p1.elim
    · rw [if_neg hij] at p1
      refine ⟨Nat.zero_le _, fun b hb => ⟨_, _, rfl, ?_⟩⟩
      have e2 : Ext P1 H1 P1 (upd H1 b (.lst [])) := Ext.newO e.ph hb
      have I2 := (I1.mono e2).set (i := i) (r.mono e2.p)
      have I3 := I2.setO (i := j) (ds := []) (vs := []) (a := b) (x.h.free (e.h.free hb)) (e.ph.free hb) upd_same .nil fun l es hl n => by
        by_cases hil : i = l
        · subst hil
          have hlt : i < env.length := by simpa using (List.getElem?_eq_some_iff.mp hl).1
          rw [List.getElem?_set_self hlt] at hl
          cases hl
        · rw [List.getElem?_set_ne hil] at hl ⊢
          intro hs
          obtain ⟨b', us, q1, _, _, q4, _⟩ := I1.at_ l _ hl
          rw [hs] at q1
          cases q1
          rw [hb] at q4; cases q4
      exact p1 _ P1 _ ((x.trans e).trans e2) (Same.refl _) I3
theorem ss_ownQ {i j : Nat} {t : TE} {f : Env → R D} (h : SE K cls E t f) : SS K cls E (tAsg (tTup (tCons t (tCons (tLst tNil) tNil))) (gTup K 2 (gNames [i, j]))) (fun env => (f env).bind fun d => if i = j then .bad else .ok (.nx ((env.set i (.val d)).set j (.own [])))) := fun P0 H0 env σ P H Z x I p =>
  h.thenS x I p fun d v P1 H1 _ e r p1 I1 => by
    by_cases hij : i = j
    · rw [if_pos hij] at p1; exact p1.elim
    · rw [if_neg hij] at p1
      refine ⟨Nat.zero_le _, fun b hb => ⟨by show 2 ≤ sizeLine; decide, fun a ha => ?_⟩⟩
      have e2 : Ext P1 H1 P1 (upd H1 b (.lst [])) := Ext.newO e.ph hb
      have e3 : Ext P1 (upd H1 b (.lst [])) P1 (upd (upd H1 b (.lst [])) a (.tup [v, .ref b])) := Ext.newO e2.ph ha
      have hab : b ≠ a := fun z => by rw [← z, upd_same] at ha; cases ha
      have I2 := ((I1.mono e2).mono e3).set (i := i) ((r.mono e2.p).mono e3.p)
      have I3 := I2.setO (i := j) (ds := []) (vs := []) (a := b) (x.h.free (e.h.free hb)) (e.ph.free hb) (by rw [upd_ne hab, upd_same]) .nil fun l es hl n => by
        by_cases hil : i = l
        · subst hil
          have hlt : i < env.length := by simpa using (List.getElem?_eq_some_iff.mp hl).1
          rw [List.getElem?_set_self hlt] at hl
          cases hl
        · rw [List.getElem?_set_ne hil] at hl ⊢
          intro hs
          obtain ⟨b', us, q1, _, _, q4, _⟩ := I1.at_ l _ hl
          rw [hs] at q1
          cases q1
          rw [hb] at q4; cases q4
      exact ⟨a, [v, .ref b], rfl, SqT.of upd_same, rfl, _, _, rfl, _, _, rfl, rfl, p1 _ P1 _ (((x.trans e).trans e2).trans e3) (Same.refl _) I3⟩
theorem ss_unp {tg : Tg} {t : TE} {f : Env → R D} (h : SE K cls E t f) : SS K cls E (tAsg t (tOfG K tg)) (fun env => (f env).bind fun d => (setTg tg d env).bind fun env' => .ok (.nx env')) := fun P0 H0 env σ P H Z x I p =>
  h.thenS x I p fun d v P1 H1 _ e r p1 I1 => by
    cases hs : setTg tg d env with
    | exc c => cases tg <;> cases d <;> first | (simp [setTg] at hs; done) | exact absurd hs setAll_noexc
    | bad => rw [hs] at p1; exact p1.elim
    | ok env' =>
      rw [hs] at p1
      exact sg_of I1 r hs fun σ' I' _ => p1 σ' P1 H1 (x.trans e) (Same.refl _) I'
where
  setAll_noexc {is : List Nat} {ds : List D} {env : Env} {c : Nat} : setAll is ds env ≠ .exc c := by
    induction is generalizing ds env with
    | nil => cases ds <;> simp [setAll]
    | cons i is ih =>
      cases ds with
      | nil => simp [setAll]
      | cons d ds => exact ih
theorem ss_ret {t : TE} {f : Env → R D} (h : SE K cls E t f) : SS K cls E (tRet t) (fun env => (f env).bind fun d => .ok (.rt d)) := fun P0 H0 env σ P H Z x I p =>
  h.thenS x I p fun d v P1 H1 _ e r p1 I1 => p1 v P1 H1 (x.trans e) r
theorem ss_exp {t : TE} {f : Env → R D} (h : SB K cls E t f) : SS K cls E (tDrop t) (fun env => (f env).bind fun _ => .ok (.nx env)) := fun P0 H0 env σ P H Z x I p =>
  h.thenS x I p fun d v P1 H1 _ e r p1 I1 => p1 σ P1 H1 (x.trans e) (Same.refl _) I1
theorem ss_app {i : Nat} {t : TE} {f : Env → R D} (h : SE K cls E t f) : SS K cls E (tDrop (tBM K "list" rAppend (tVar i) (tCons t tNil))) (fun env => (slotO env[i]?).bind fun ds => (f env).bind fun d => if ds.length < lim then .ok (.nx (env.set i (.own (ds ++ [d])))) else .bad) := fun P0 H0 env σ P H Z x I p => by
  simp only at p
  rcases slotO_some (o := env[i]?) (k := fun ds => (f env).bind fun d => if ds.length < lim then .ok (.nx (env.set i (.own (ds ++ [d])))) else .bad) with ⟨ds, h1, h2⟩ | h2
  · rw [h2] at p
    obtain ⟨a, vs, e1, h0, hp, ha, hr⟩ := I.at_ i _ h1
    refine ⟨.ref a, e1, .inl ⟨rfl, vs, SqL.of ha⟩, ?_⟩
    refine h.thenS x I p fun d v P1 H1 _ e r p1 I1 => ?_
    obtain ⟨a', vs', e1', h0', hp', ha', hr'⟩ := I1.at_ i _ h1
    rw [e1] at e1'
    cases e1'
    by_cases hl : ds.length < lim
    · rw [if_pos hl] at p1
      refine ⟨a, vs', v, rfl, rfl, ha', by rw [← hr'.length, ← lim_eq]; exact hl, ?_⟩
      exact p1 σ P1 _ ((x.trans e).mut h0' hp') (Same.refl _) (I1.mut h1 e1 (hr'.append (.cons r .nil)))
    · rw [if_neg hl] at p1; exact p1.elim
  · rw [h2] at p; exact p.elim
theorem ss_ext {i : Nat} {t : TE} {f : Env → R D} (h : SB K cls E t f) : SS K cls E (tDrop (tBM K "list" rExtend (tVar i) (tCons t tNil))) (fun env => (slotO env[i]?).bind fun ds => (f env).bind fun d => (lstD d).bind fun es => if ds.length + es.length ≤ lim then .ok (.nx (env.set i (.own (ds ++ es)))) else .bad) := fun P0 H0 env σ P H Z x I p => by
  simp only at p
  rcases slotO_some (o := env[i]?) (k := fun ds => (f env).bind fun d => (lstD d).bind fun es => if ds.length + es.length ≤ lim then .ok (.nx (env.set i (.own (ds ++ es)))) else .bad) with ⟨ds, h1, h2⟩ | h2
  · rw [h2] at p
    obtain ⟨a, vs, e1, h0, hp, ha, hr⟩ := I.at_ i _ h1
    refine ⟨.ref a, e1, .inl ⟨rfl, vs, SqL.of ha⟩, ?_⟩
    refine h.thenS x I p fun d v P1 H1 _ e r p1 I1 => ?_
    obtain ⟨a', vs', e1', h0', hp', ha', hr'⟩ := I1.at_ i _ h1
    rw [e1] at e1'
    cases e1'
    rcases lstD_some (d := d) (k := fun es => if ds.length + es.length ≤ lim then .ok (.nx (env.set i (.own (ds ++ es)))) else .bad) with ⟨es, rfl, h3⟩ | h3
    · rw [h3] at p1
      by_cases hl : ds.length + es.length ≤ lim
      · rw [if_pos hl] at p1
        obtain ⟨b, ws, rfl, g1, g2⟩ := r.lst e.ph
        refine ⟨a, b, vs', ws, rfl, rfl, ha', g1, by rw [← hr'.length, ← g2.length, ← lim_eq]; exact hl, ?_⟩
        exact p1 σ P1 _ ((x.trans e).mut h0' hp') (Same.refl _) (I1.mut h1 e1 (hr'.append g2))
      · rw [if_neg hl] at p1; exact p1.elim
    · rw [h3] at p1; exact p1.elim
  · rw [h2] at p; exact p.elim
theorem ss_six {i : Nat} {t ta : TE} {f fa : Env → R D} (h : SE K cls E t f) (hi : SB K cls E ta fa) : SS K cls E (tAsg t (gSub (tVar i) ta rSetL)) (fun env => (slotO env[i]?).bind fun ds => (f env).bind fun d => (fa env).bind fun x => (intD x).bind fun k => (R.ofO (L2.ixN ds.length k)).bind fun j => .ok (.nx (env.set i (.own (ds.set j d))))) := fun P0 H0 env σ P H Z x I p => by
  simp only at p
  rcases slotO_some (o := env[i]?) (k := fun ds => (f env).bind fun d => (fa env).bind fun x => (intD x).bind fun k => (R.ofO (L2.ixN ds.length k)).bind fun j => .ok (.nx (env.set i (.own (ds.set j d))))) with ⟨ds, h1, h2⟩ | h2
  · rw [h2] at p
    refine h.thenS x I p fun d v P1 H1 _ e r p1 I1 => ?_
    obtain ⟨a, vs, e1, h0, hp, ha, hr⟩ := I1.at_ i _ h1
    refine ⟨.ref a, e1, ?_⟩
    refine hi.thenS (x.trans e) I1 p1 fun y w P2 H2 _ e2 r2 p2 I2 => ?_
    obtain ⟨a', vs', e1', h0', hp', ha', hr'⟩ := I2.at_ i _ h1
    rw [e1] at e1'
    cases e1'
    cases y with
    | int k =>
      simp only [intD, R.bind_ok] at p2
      cases hj : ixN ds.length k with
      | none => rw [hj] at p2; exact p2.elim
      | some j =>
        rw [hj] at p2
        refine ⟨a, vs', k, j, rfl, r2.int, ha', by rw [← hr'.length]; exact hj, ?_⟩
        exact p2 σ P2 _ (((x.trans e).trans e2).mut h0' hp') (Same.refl _) (I2.mut h1 e1 (hr'.set (r.mono e2.p) j))
    | _ => exact p2.elim
  · rw [h2] at p; exact p.elim
theorem ss_frz {i : Nat} : SS K cls E tNext (fun env => (slotO env[i]?).bind fun ds => .ok (.nx (env.set i (.val (.lst ds))))) := fun P0 H0 env σ P H Z x I p => by
  simp only at p
  rcases slotO_some (o := env[i]?) (k := fun ds => .ok (.nx (env.set i (.val (.lst ds))))) with ⟨ds, h1, h2⟩ | h2
  · rw [h2] at p
    obtain ⟨a, vs, e1, h0, hp, ha, hr⟩ := I.at_ i _ h1
    exact p σ _ H (x.frz h0 hp ha) (Ex.new hp) (I.frz h1 e1 ha hr hp)
  · rw [h2] at p; exact p.elim
theorem ss_retO {i : Nat} : SS K cls E (tRet (tVar i)) (fun env => (slotO env[i]?).bind fun ds => .ok (.rt (.lst ds))) := fun P0 H0 env σ P H Z x I p => by
  simp only at p
  rcases slotO_some (o := env[i]?) (k := fun ds => .ok (.rt (.lst ds))) with ⟨ds, h1, h2⟩ | h2
  · rw [h2] at p
    obtain ⟨a, vs, e1, h0, hp, ha, hr⟩ := I.at_ i _ h1
    exact ⟨.ref a, e1, p _ _ H (x.frz h0 hp ha) (.lst upd_same (hr.mono (Ex.new hp)))⟩
  · rw [h2] at p; exact p.elim
theorem ss_ite {c : TT} {t u : TS} {fc : Env → R Bool} {f g : Env → R Fl} (hc : ST K cls E c fc) (h : SS K cls E t f) (h' : SS K cls E u g) : SS K cls E (tIfS c t u) (fun env => (fc env).bind fun k => if k then f env else g env) := fun P0 H0 env σ P H Z x I p =>
  hc.thenS x I p fun b P1 H1 _ e p1 I1 => by
    cases b with
    | true => exact h P0 H0 env σ P1 H1 Z (x.trans e) I1 p1
    | false => exact h' P0 H0 env σ P1 H1 Z (x.trans e) I1 p1
theorem ss_nil : SS K cls E tNext (fun env => .ok (.nx env)) := fun P0 H0 env σ P H Z x I p => p σ P H x (Same.refl _) I
theorem ss_cons {t u : TS} {f g : Env → R Fl} (h : SS K cls E t f) (h' : SS K cls E u g) : SS K cls E (tSeq t u) (fun env => (f env).bind (Fl.next fun env' => g env')) := fun P0 H0 env σ P H Z x I p => by
  refine h P0 H0 env σ P H _ x I ?_
  simp only at p
  cases hf : f env with
  | exc c => rw [hf] at p; exact p
  | bad => rw [hf] at p; exact p
  | ok o =>
    rw [hf] at p
    cases o with
    | rt d => exact p
    | nx env' => exact fun σ' P' H' x' e' I' => h' P0 H0 env' σ' P' H' Z x' I' (PostS.later e' p)
theorem ss_try {i : Nat} {h : HE} {tb : EX → TS} {f : Env → R Fl} (hX : ∀ c, W.exmOne K (cls c) (cls 0) = some true) (hb : ∀ E', SS K cls E' (tb E') f) : SS K cls E (fun Z σ H => tb (eTry K cls i h E Z) Z σ H) (fun env => catchR (fun c => (R.ofO (evh c h)).bind fun d => .ok (.rt d)) (f env)) := fun P0 H0 env σ P H Z x I p => by
  refine hb (eTry K cls i h E Z) P0 H0 env σ P H Z x I ?_
  simp only at p
  cases hf : f env with
  | bad => rw [hf] at p; exact p
  | ok o =>
    rw [hf] at p
    cases o with
    | nx e1 => exact p
    | rt d => exact p
  | exc c =>
    rw [hf] at p
    simp only [catchR] at p
    intro σ' P' H' x'
    refine ⟨true, hX c, fun _ a ha => ?_, fun z => nomatch z⟩
    cases he : evh c h with
    | none => rw [he] at p; exact p.elim
    | some d' =>
      rw [he] at p
      exact ⟨c, d', P', σ', rfl, rfl, x'.ph, rfl, he, fun v P2 H2 e2 r => p v P2 H2 (x'.trans e2) r⟩
theorem ss_rse {c : Nat} : SS K cls E (fun _ σ H => E σ (cls c) none H) (fun _ => .exc c) := fun P0 H0 env σ P H Z x I p => p σ P H x
theorem ss_par2 {i j : Nat} {ta : TA} {f : Env → R (List D)} (h : SA K cls E ta f) : SS K cls E (tPar i j ta) (fun env => (f env).bind fun ds => (setAll [i, j] ds env).bind fun env' => .ok (.nx env')) := fun P0 H0 env σ P H Z x I p =>
  h.thenS x I p fun ds vs P1 H1 _ e r p1 I1 => by
    match ds, vs, r with
    | [d1, d2], _, .cons r1 (.cons r2 .nil) =>
      refine ⟨_, _, rfl, ?_⟩
      exact p1 _ P1 H1 (x.trans e) (Same.refl _) ((I1.set r1).set r2)
    | [], _, _ => exact p1.elim
    | [_], _, _ => exact p1.elim
    | _ :: _ :: _ :: _, _, _ => exact p1.elim
theorem ss_par3 {i j l : Nat} {ta : TA} {f : Env → R (List D)} (h : SA K cls E ta f) : SS K cls E (tPar3 i j l ta) (fun env => (f env).bind fun ds => (setAll [i, j, l] ds env).bind fun env' => .ok (.nx env')) := fun P0 H0 env σ P H Z x I p =>
  h.thenS x I p fun ds vs P1 H1 _ e r p1 I1 => by
    match ds, vs, r with
    | [d1, d2, d3], _, .cons r1 (.cons r2 (.cons r3 .nil)) =>
      refine ⟨_, _, _, rfl, ?_⟩
      exact p1 _ P1 H1 (x.trans e) (Same.refl _) (((I1.set r1).set r2).set r3)
    | [], _, _ => exact p1.elim
    | [_], _, _ => exact p1.elim
    | [_, _], _, _ => exact p1.elim
    | _ :: _ :: _ :: _ :: _, _, _ => exact p1.elim
theorem ss_parT {is : List Nat} {ta : TA} {f : Env → R (List D)} (h : SA K cls E ta f) (hl : is.length ≤ 1000) : SS K cls E (tAsg (tTup ta) (gTup K is.length (gNames is))) (fun env => (f env).bind fun ds => (setAll is ds env).bind fun env' => .ok (.nx env')) := fun P0 H0 env σ P H Z x I p =>
  h.thenS x I p fun ds vs P1 H1 _ e r p1 I1 => by
    cases hs : setAll is ds env with
    | exc c => exact absurd hs ss_unp.setAll_noexc
    | bad => rw [hs] at p1; exact p1.elim
    | ok env' =>
      rw [hs] at p1
      have hdl := setAll_len hs
      refine ⟨?_, fun a ha => ?_⟩
      · rw [← r.length, hdl]
        exact Nat.le_trans hl (by decide)
      · obtain ⟨P2, e2, r2⟩ := Res.keep e.ph (Res.newT (K := K) ha r)
        exact sg_tup (I1.mono e2) r2 hs fun σ' I' => p1 σ' P2 _ ((x.trans e).trans e2) e2.p I'
theorem ss_for {wi : TI} {tg : Tg} {tb : TS} {fi : Env → R (List D)} {fb : Env → R Fl} (hi : SI K cls E true wi fi) (hb : SS K cls E tb fb) : SS K cls E (tFor wi (tOfG K tg) tb) (fun env => (fi env).bind fun ds => forL (fun d e => (setTg tg d e).bind fun e1 => fb e1) ds env) := fun P0 H0 env σ P H Z x I p => by
  refine hi H0 env σ P H _ I ?_
  simp only at p
  cases hf : fi env with
  | exc c => rw [hf] at p; exact fun P' H' e => p σ P' H' (x.trans e)
  | bad => rw [hf] at p; exact p
  | ok ds =>
    rw [hf] at p
    simp only [R.bind_ok] at p
    intro J P1 H1 e1 hw
    obtain ⟨G, Y, w, hG, hY⟩ := hw
    simp only [if_true] at hG
    generalize hr : forL (fun d e => (setTg tg d e).bind fun e1 => fb e1) ds env = r at p
    refine for_it w (fun i σ' H' => ∃ P' env', Ext P0 H0 P' H' ∧ Ex P1 P' ∧ EnvOk K H0 env' σ' P' H' ∧ forL (fun d e => (setTg tg d e).bind fun e1 => fb e1) (ds.drop i) env' = r) ⟨P1, env, x.trans e1, Same.refl _, I.mono e1, hr⟩ (fun i σ' H' _ hp => ?_) (fun i y σ' H' H2 hi hp hy => ?_) (fun σ' H' hp => ?_)
    · obtain ⟨P', env', a1, a2, a3, _⟩ := hp
      exact hG H' (a2.trans a3.ex)
    · obtain ⟨P', env', a1, a2, a3, a4⟩ := hp
      obtain ⟨P2, d, hd, e2, r2⟩ := hY i P' H' y H2 hi a2 a3.ex hy
      rw [get_drop hd] at a4
      simp only [forL] at a4
      have I2 := a3.mono e2
      cases hs : setTg tg d env' with
      | exc c => cases tg <;> cases d <;> first | (simp [setTg] at hs; done) | exact absurd hs ss_unp.setAll_noexc
      | bad => rw [hs] at a4; simp only [R.bind_bad] at a4; rw [← a4] at p; exact p.elim
      | ok env1 =>
        rw [hs] at a4
        simp only [R.bind_ok] at a4
        refine sg_of I2 r2 hs fun σ2 I3 _ => ?_
        refine hb P0 H0 env1 σ2 P2 H2 _ (a1.trans e2) I3 ?_
        cases hq : fb env1 with
        | exc c => rw [hq] at a4; simp only [R.bind_exc] at a4; rw [← a4] at p; exact p
        | bad => rw [hq] at a4; simp only [R.bind_bad] at a4; rw [← a4] at p; exact p.elim
        | ok o =>
          rw [hq] at a4
          simp only [R.bind_ok] at a4
          cases o with
          | rt d => simp only [Fl.next] at a4; rw [← a4] at p; exact p
          | nx env2 =>
            simp only [Fl.next] at a4
            exact fun σ3 P3 H3 x3 e3 I4 => ⟨P3, env2, x3, (a2.trans e2.p).trans e3, I4, a4⟩
    · obtain ⟨P', env', a1, a2, a3, a4⟩ := hp
      rw [List.drop_length] at a4
      simp only [forL] at a4
      rw [← a4] at p
      exact p σ' P' H' a1 (e1.p.trans a2) a3
theorem ss_whl {c : TT} {tb : TS} {fc : Env → R Bool} {fb : Env → R Fl} {n : Nat} (hc : ST K cls E c fc) (hb : SS K cls E tb fb) : SS K cls E (tWhile c tb) (fun env => whileL fc fb n env) := fun P0 H0 env σ P H Z x I p => by
  simp only at p
  generalize hr : whileL fc fb n env = r at p
  refine ⟨fun m σ' H' => ∃ P' env', Ext P0 H0 P' H' ∧ Ex P P' ∧ EnvOk K H0 env' σ' P' H' ∧ whileL fc fb m env' = r, ⟨n, P, env, x, Same.refl _, I, hr⟩, fun m σ' H' hw => ?_⟩
  obtain ⟨P', env', a1, a2, a3, a4⟩ := hw
  cases m with
  | zero => simp only [whileL] at a4; rw [← a4] at p; exact p.elim
  | succ m =>
    simp only [whileL] at a4
    have p' : PostS K cls E P0 H0 P' ((fc env').bind fun k => if k then (fb env').bind (Fl.next (whileL fc fb m)) else .ok (.nx env')) Z := by rw [a4]; exact p.later a2
    refine hc.thenS a1 a3 p' fun b P1 H1 hfc e p1 I1 => ?_
    rw [hfc] at a4
    simp only [R.bind_ok] at a4
    cases b with
    | false => exact p1 σ' P1 H1 (a1.trans e) (Same.refl _) I1
    | true =>
      simp only [if_true] at a4 p1
      refine ⟨fun σ2 H2 => ∃ P2 env2, Ext P0 H0 P2 H2 ∧ Ex P P2 ∧ EnvOk K H0 env2 σ2 P2 H2 ∧ whileL fc fb m env2 = r, fun σ2 H2 hn => ⟨m, Nat.lt_succ_self m, hn⟩, ?_⟩
      refine hb P0 H0 env' σ' P1 H1 _ (a1.trans e) I1 ?_
      cases hq : fb env' with
      | exc c => rw [hq] at p1; exact p1
      | bad => rw [hq] at p1; exact p1
      | ok o =>
        rw [hq] at p1 a4
        simp only [R.bind_ok] at a4
        cases o with
        | rt d => exact p1
        | nx env2 =>
          simp only [Fl.next] at a4
          exact fun σ3 P3 H3 x3 e3 I4 => ⟨P3, env2, x3, (a2.trans e.p).trans e3, I4, a4⟩
end
section
variable {K : W.Frag} {cls : Nat → Value} {sp : Nat → Sp} {cl : Nat → List D → R D} (hC : Calls K cls sp cl)
include hC
theorem se_V (e : CE) (E : EX) : SE K cls E (tOf K sp E e) (evV cl e) := fun H0 env σ P H Q I p => by
  unfold evV at p
  cases hb : e.isBor with
  | true => rw [hb] at p; exact p.elim
  | false => rw [hb] at p; exact se_all hC e E hb H0 env σ P H Q I p
theorem st_T (e : CE) (E : EX) : ST K cls E (tOfT K sp E e) (evT cl e) := fun H0 env σ P H Q I p => by
  unfold evT at p
  cases hb : e.isTest with
  | true => rw [hb] at p; exact st_all hC e E hb H0 env σ P H Q I p
  | false => rw [hb] at p; exact p.elim
theorem sn_new (e : CE) (E : EX) (h : e.isNew = true) : SN K cls E (tOf K sp E e) (ev cl e) := by
  cases e with
  | lst es => exact sn_lst (sa_all hC es E)
  | lc elt t it c vs => exact sn_lc (si_all hC it E false (fun z => by cases z)) (sc_all hC c EX0) (se_all hC elt EX0)
  | lc2 elt t it c t1 it1 c1 vs vs1 => exact sn_lc2 (si_all hC it E false (fun z => by cases z)) (sc_all hC c EX0) (fun hk => si_all hC it1 EX0 true (fun _ => hk)) (sc_all hC c1 EX0) (se_all hC elt EX0)
  | bin op a b =>
    cases op with
    | add => exact sn_add (sb_all hC a E) (sb_all hC b E)
    | mul =>
      cases a <;> simp [CE.isNew] at h
      exact sn_rep (sa_all hC _ E) (sb_all hC b E)
    | _ => simp [CE.isNew] at h
  | _ => simp [CE.isNew] at h
variable (hX : ∀ c, W.exmOne K (cls c) (cls 0) = some true)
include hX
mutual
theorem ss_all : ∀ (s : CS) (E : EX), SS K cls E (tOfS K cls sp E s) (ex cl s)
  | .asg i e, E => ss_asg (se_V hC e E)
  | .own i e, E => fun P0 H0 env σ P H Z x I p => by
    have e2 : ex cl (.own i e) env = if e.isNew then (ev cl e env).bind fun d => (lstD d).bind fun ds => .ok (.nx (env.set i (.own ds))) else .bad := by simp only [ex]
    rw [e2] at p
    cases hb : e.isNew with
    | true => rw [hb] at p; exact ss_own (sn_new hC e E hb) P0 H0 env σ P H Z x I p
    | false => rw [hb] at p; exact p.elim
  | .own2 i j, E => ss_own2
  | .ownP i j e, E => ss_ownP (se_V hC e E)
  | .ownQ i j e, E => ss_ownQ (se_V hC e E)
  | .par true [i, j] es, E => fun P0 H0 env σ P H Z x I p => ss_par2 (sa_all hC es E) P0 H0 env σ P H Z x I (by simpa [ex] using p)
  | .par true [i, j, l] es, E => fun P0 H0 env σ P H Z x I p => ss_par3 (sa_all hC es E) P0 H0 env σ P H Z x I (by simpa [ex] using p)
  | .par true [] es, E => fun P0 H0 env σ P H Z x I p => by simp [ex] at p; exact p.elim
  | .par true [_] es, E => fun P0 H0 env σ P H Z x I p => by simp [ex] at p; exact p.elim
  | .par true (_ :: _ :: _ :: _ :: _) es, E => fun P0 H0 env σ P H Z x I p => by simp [ex] at p; exact p.elim
  | .par false is es, E => fun P0 H0 env σ P H Z x I p => by
    by_cases hl : is.length ≤ 1000
    · exact ss_parT (sa_all hC es E) hl P0 H0 env σ P H Z x I (by simpa [ex, Nat.not_lt.mpr hl] using p)
    · simp [ex, Nat.not_le.mp hl] at p; exact p.elim
  | .unp t e, E => ss_unp (se_V hC e E)
  | .app i e, E => ss_app (se_V hC e E)
  | .ext i e, E => ss_ext (sb_all hC e E)
  | .six i a e, E => ss_six (se_V hC e E) (sb_all hC a E)
  | .ite c a b, E => ss_ite (st_T hC c E) (sss_all a E) (sss_all b E)
  | .forr t it b, E => fun P0 H0 env σ P H Z x I p => by
    have e2 : ex cl (.forr t it b) env = if it.noBor then (evi cl it env).bind fun ds => forL (fun d e => (setTg t d e).bind fun e1 => exs cl b e1) ds env else .bad := by simp only [ex]
    rw [e2] at p
    cases hb : it.noBor with
    | true => rw [hb] at p; exact ss_for (si_all hC it E true (fun _ => hb)) (sss_all b E) P0 H0 env σ P H Z x I p
    | false => rw [hb] at p; exact p.elim
  | .whl c b, E => ss_whl (st_T hC c E) (sss_all b E)
  | .ret e, E => ss_ret (se_V hC e E)
  | .retO i, E => ss_retO
  | .exp e, E => ss_exp (sb_all hC e E)
  | .rse c, E => ss_rse
  | .frz i, E => ss_frz
  | .tryx b i h, E => ss_try hX fun E' => sss_all b E'
theorem sss_all : ∀ (s : CSs) (E : EX), SS K cls E (tOfSs K cls sp E s) (exs cl s)
  | .nil, E => ss_nil
  | .cons s r, E => ss_cons (ss_all s E) (sss_all r E)
end
end
end Cl
set_option Elab.async false
set_option linter.all false
set_option maxRecDepth 100000
set_option maxHeartbeats 4000000
namespace Cl
open PySem PySem.Spec PyProof.Rows L2 RZ

/-! ### the text against the core -/
structure Ctx where
  fname : Nat → Option Str
  cst : Str → Option Cst
  exn : Nat → Option Str
  /-- methods of Band -/
  mname : Nat → Option Str := fun _ => none
  /-- the class Band is there -/
  hasB : Bool := false
def visB (sc : Scope) (x : Str) : Bool := match sc.names.lookup x with
  | some .local => true
  | some .cell => true
  | some .free => true
  | _ => false
def locB (sc : Scope) (x : Str) : Bool := match sc.names.lookup x with
  | some .local => true
  | some .cell => true
  | _ => false
def isLocB (sc : Scope) (x : Str) : Bool := match sc.names.lookup x with
  | some .local => true
  | _ => false
def glB (sc : Scope) (x : Str) : Bool := match sc.names.lookup x with
  | some .globalImplicit => true
  | _ => false
def dbg (x : Str) : Bool := (x == ("__debug__" : Str)) || (x == ("__classdict__" : Str))
def notStar : Expr → Bool
  | .Starred _ _ => false
  | _ => true
def notSet : Expr → Bool
  | .Set _ _ _ => false
  | _ => true
def notComp : Expr → Bool
  | .ListComp _ _ _ _ => false
  | .SetComp _ _ _ _ => false
  | .DictComp _ _ _ _ _ => false
  | _ => true
def notSlice : Expr → Bool
  | .Slice _ _ _ _ => false
  | _ => true
def plainT : Expr → Bool
  | .Name _ _ => true
  | .Call _ _ _ _ => true
  | .Constant _ _ _ => true
  | .Subscript _ _ _ => true
  | _ => false
/-- an object whose method is called: a name, or a call with arguments -/
def plainC : Expr → Bool
  | .Name _ _ => true
  | .Call _ (_ :: _) _ _ => true
  | _ => false
def plainO : Expr → Bool
  | .Name _ _ => true
  | .Constant _ _ _ => true
  | .List _ _ => true
  | _ => false
def chkC : Cst → Const → Bool
  | .non, .none => true
  | .bl b, .bool c => b == c
  | .int i, .int j => decide (i = j)
  | .str x, .str y => decide (x = y)
  | _, _ => false
def chkOp (op : BOp) (o : Operator) : Bool := match op, o with
  | .add, .Add => true
  | .sub, .Sub => true
  | .mul, .Mult => true
  | .fdiv, .FloorDiv => true
  | .mod, .Mod => true
  | .pow, .Pow => true
  | _, _ => false
def chkCmp (op : COp) (o : CmpOp) : Bool := match op, o with
  | .eq, .Eq => true
  | .ne, .NotEq => true
  | .lt, .Lt => true
  | .le, .LtE => true
  | .gt, .Gt => true
  | .ge, .GtE => true
  | .isin, .In => true
  | .notin, .NotIn => true
  | .is, .Is => true
  | .isnot, .IsNot => true
  | _, _ => false
theorem chkOp_eq {op : BOp} {o : Operator} (h : chkOp op o = true) : o = op.o := by cases op <;> cases o <;> first | rfl | (simp [chkOp] at h)
theorem chkCmp_eq {op : COp} {o : CmpOp} (h : chkCmp op o = true) : o = op.o := by cases op <;> cases o <;> first | rfl | (simp [chkCmp] at h)
def ownOf (N : List Str) (vs : List Nat) : List (Str × Nat) := vs.map fun i => (N.getD i Str.empty, i)
theorem ownOf_snd (N : List Str) (vs : List Nat) : (ownOf N vs).map (·.2) = vs := by
  unfold ownOf
  rw [List.map_map]
  show vs.map (fun i => i) = vs
  simp
def chkNames (N : List Str) (sc : Scope) (fn : Str → Bool) : List Nat → List Expr → Bool
  | [], [] => true
  | i :: is, .Name x _ :: es => decide (N[i]? = some x) && locB sc x && (fn x || isLocB sc x) && chkNames N sc fn is es
  | _, _ => false
def chkG (N : List Str) (sc : Scope) (fn : Str → Bool) : Tg → Expr → Bool
  | .nm i, e => match e with
    | .Name x _ => decide (N[i]? = some x) && locB sc x && (fn x || isLocB sc x)
    | _ => false
  | .tp is, e => match e with
    | .Tuple es _ _ => chkNames N sc fn is es
    | _ => false
def chkCst : Cst → Cst → Bool
  | .non, .non => true
  | .bl b, .bl c => b == c
  | .int i, .int j => decide (i = j)
  | .str x, .str y => decide (x = y)
  | _, _ => false
def isTupE : Expr → Bool
  | .Tuple _ _ _ => true
  | _ => false
/-- [f, g, ..][i](..) in its parts -/
def atParts : Expr → Option (List Expr × Expr × List Expr)
  | .Call (.Subscript (.List xs _) ei _) ys [] _ => some (xs, ei, ys)
  | _ => none
theorem atParts_eq {e : Expr} {q : List Expr × Expr × List Expr} (h : atParts e = some q) : ∃ p1 p2 pos, e = .Call (.Subscript (.List q.1 p1) q.2.1 p2) q.2.2 [] pos := by
  unfold atParts at h
  split at h
  · cases h; exact ⟨_, _, _, rfl⟩
  · cases h
/-- the names of defs -/
def chkFs (C : Ctx) (sc : Scope) : List Nat → List Expr → Bool
  | [], xs => match xs with
    | [] => true
    | _ => false
  | f :: fs, xs => match xs with
    | .Name x _ :: r => decide (C.fname f = some x) && glB sc x && !dbg x && chkFs C sc fs r
    | _ => false
section
variable (C : Ctx) (N : List Str)
mutual
def chkE : CE → Scope → (Str → Bool) → Expr → Bool
  | .var i, sc, fn, e => match e with
    | .Name x _ => decide (N[i]? = some x) && visB sc x && !dbg x
    | _ => false
  | .bor i, sc, fn, e => match e with
    | .Name x _ => decide (N[i]? = some x) && visB sc x && !dbg x
    | _ => false
  | .cst c, sc, fn, e => match e with
    | .Constant k _ _ => chkC c k
    | _ => false
  | .glo x c, sc, fn, e => match e with
    | .Name y _ => decide (x = y) && glB sc x && !dbg x && (match C.cst x with | some d => chkCst c d | none => false)
    | _ => false
  | .bin op a b, sc, fn, e => match e with
    | .BinOp ea o eb _ => chkOp op o && chkE a sc fn ea && chkE b sc fn eb
    | _ => false
  | .neg a, sc, fn, e => match e with
    | .UnaryOp .USub ea _ => chkE a sc fn ea
    | _ => false
  | .cmp op a b, sc, fn, e => match e with
    | .Compare ea [o] [eb] _ => chkCmp op o && notSet eb && chkE a sc fn ea && chkE b sc fn eb
    | _ => false
  | .chn op op' a b c, sc, fn, e => match e with
    | .Compare ea [o, o'] [eb, ec] _ => chkCmp op o && chkCmp op' o' && notSet ec && chkE a sc fn ea && chkE b sc fn eb && chkE c sc fn ec
    | _ => false
  | .and a r, sc, fn, e => match e with
    | .BoolOp .And (ea :: eb :: es) pos => chkE a sc fn ea && chkE r sc fn (.BoolOp .And (eb :: es) pos)
    | _ => false
  | .or a r, sc, fn, e => match e with
    | .BoolOp .Or (ea :: eb :: es) pos => chkE a sc fn ea && chkE r sc fn (.BoolOp .Or (eb :: es) pos)
    | _ => false
  | .one a, sc, fn, e => match e with
    | .BoolOp _ [ea] _ => chkE a sc fn ea
    | _ => false
  | .not a, sc, fn, e => match e with
    | .UnaryOp .Not ea _ => chkE a sc fn ea
    | _ => false
  | .ite c a b, sc, fn, e => match e with
    | .IfExp ec ea eb _ => c.isTest && chkE c sc fn ec && chkE a sc fn ea && chkE b sc fn eb
    | _ => false
  | .tup es, sc, fn, e => match e with
    | .Tuple xs _ _ => chkEs es sc fn xs
    | _ => false
  | .lst es, sc, fn, e => match e with
    | .List xs _ => chkEs es sc fn xs
    | _ => false
  | .idx a b, sc, fn, e => match e with
    | .Subscript ea eb _ => notSlice eb && chkE a sc fn ea && chkE b sc fn eb
    | _ => false
  | .slc a lo hi, sc, fn, e => match e with
    | .Subscript ea (.Slice elo ehi none _) _ => chkE a sc fn ea && chkO lo sc fn elo && chkO hi sc fn ehi
    | _ => false
  | .rev a, sc, fn, e => match e with
    | .Subscript ea (.Slice none none (some (.UnaryOp .USub (.Constant (.int 1) _ _) _)) _) _ => chkE a sc fn ea
    | _ => false
  | .revT a, sc, fn, e => match e with
    | .Subscript ea (.Slice none none (some (.UnaryOp .USub (.Constant (.int 1) _ _) _)) _) _ => chkE a sc fn ea
    | _ => false
  | .call f es, sc, fn, e => match e with
    | .Call (.Name x _) xs [] _ => decide (C.fname f = some x) && glB sc x && !dbg x && chkEs es sc fn xs
    | _ => false
  | .callD f es, sc, fn, e => match e with
    | .Call (.Name x _) xs [] _ => decide (C.fname (1000 + f) = some x) && glB sc x && !dbg x && chkEsD es sc fn xs
    | _ => false
  | .callAt fs ix es, sc, fn, e => match atParts e with
    | some q => chkFs C sc fs q.1 && notSlice q.2.1 && !q.2.2.isEmpty && chkE ix sc fn q.2.1 && chkEs es sc fn q.2.2
    | none => false
  | .bi b es, sc, fn, e => match e with
    | .Call (.Name x _) xs [] _ => decide (x = b.x) && glB sc x && !xs.isEmpty && chkEs es sc fn xs
    | _ => false
  | .meth m o es, sc, fn, e => match e with
    | .Call (.Attribute eo x apos) xs [] pos => decide (x = m.x) && plainO eo && (apos.endLine == pos.line) && !xs.isEmpty && decide (xs.length < 20) && chkE o sc fn eo && chkEs es sc fn xs
    | _ => false
  | .rgl es, sc, fn, e => match e with
    | .Call (.Name x _) [.Call (.Name y _) xs [] _] [] _ => decide (x = "list") && decide (y = "range") && glB sc x && glB sc y && chkR es sc fn xs
    | _ => false
  | .rgt es, sc, fn, e => match e with
    | .Call (.Name x _) [.Call (.Name y _) xs [] _] [] _ => decide (x = "tuple") && decide (y = "range") && glB sc x && glB sc y && !es.is3 && chkR es sc fn xs
    | _ => false
  | .lc elt t it c vs, sc, fn, e => match e with
    | .ListComp eelt [⟨tg, iter, ifs, 0⟩] scope _ => blkC N sc scope (ownOf N vs) && chkI it sc fn tg iter && notSet iter && chkG N (relS scope sc) (fun x => scope.names.lookup x == some .cell) t tg &&
        chkIf c (relS scope sc) (fun x => scope.names.lookup x == some .cell) ifs && chkE elt (relS scope sc) (fun x => scope.names.lookup x == some .cell) eelt
    | _ => false
  | .lc2 elt t it c t1 it1 c1 vs vs1, sc, fn, e => match e with
    | .ListComp eelt [⟨tg, iter, ifs, 0⟩, ⟨tg1, iter1, ifs1, 0⟩] scope _ => blkC N sc scope (ownOf N vs) && vs1.all vs.contains && chkI it sc fn tg iter && notSet iter && notSet iter1 && chkG N (relS scope sc) (fun x => scope.names.lookup x == some .cell) t tg &&
        chkIf c (relS scope sc) (fun x => scope.names.lookup x == some .cell) ifs && chkI it1 (relS scope sc) (fun x => scope.names.lookup x == some .cell) tg1 iter1 && chkG N (relS scope sc) (fun x => scope.names.lookup x == some .cell) t1 tg1 &&
        chkIf c1 (relS scope sc) (fun x => scope.names.lookup x == some .cell) ifs1 && chkE elt (relS scope sc) (fun x => scope.names.lookup x == some .cell) eelt
    | _ => false
  | .lset a, sc, fn, e => match e with
    | .Call (.Name x _) [.Call (.Name y _) [ea] [] _] [] _ => decide (x = "len") && decide (y = "set") && glB sc x && glB sc y && notStar ea && chkE a sc fn ea
    | _ => false
  | .sset a, sc, fn, e => match e with
    | .Call (.Name x _) [.Call (.Name y _) [ea] [] _] [] _ => decide (x = "sorted") && decide (y = "set") && glB sc x && glB sc y && notStar ea && chkE a sc fn ea
    | _ => false
  | .fld i j, sc, fn, e => match e with
    | .Attribute (.Name x p) f _ => decide (j < 5) && decide (f = bandF.getD j Str.empty) && (decide (N[i]? = some x) && visB sc x && !dbg x)
    | _ => false
  | .new es, sc, fn, e => match e with
    | .Call (.Name x _) xs [] _ => C.hasB && decide (x = "Band") && glB sc x && !xs.isEmpty && chkEs es sc fn xs
    | _ => false
  | .eqO ne f a b, sc, fn, e => match e with
    | .Compare ea [o] [eb] _ => chkCmp (if ne then .ne else .eq) o && notSet eb && decide (C.mname f = some "__eq__") && chkE a sc fn ea && chkE b sc fn eb
    | _ => false
  | .isB i a, sc, fn, e => match e with
    | .Call (.Name z _) [ea, .Name x _] [] _ => C.hasB && decide (z = "isinstance") && decide (x = "Band") && glB sc z && glB sc x && notStar ea && chkE a sc fn ea
    | _ => false
  | .mth f m o es, sc, fn, e => match e with
    | .Call (.Attribute eo y apos) xs [] pos => decide (y = m) && decide (C.mname f = some m) && (apos.endLine == pos.line) && plainC eo && decide (xs.length < 20) && chkE o sc fn eo && chkEs es sc fn xs
    | _ => false
  | .lenO f i, sc, fn, e => match e with
    | .Call (.Name z _) [.Name x p] [] _ => decide (z = "len") && glB sc z && decide (C.mname f = some "__len__") && (decide (N[i]? = some x) && visB sc x && !dbg x)
    | _ => false
  | .isi t a, sc, fn, e => match e with
    | .Call (.Name x _) [ea, .Name y _] [] _ => decide (x = "isinstance") && decide (y = t.n) && glB sc x && glB sc y && notStar ea && chkE a sc fn ea
    | _ => false
def chkEs : CEs → Scope → (Str → Bool) → List Expr → Bool
  | .nil, sc, fn, xs => match xs with
    | [] => true
    | _ => false
  | .cons e r, sc, fn, xs => match xs with
    | x :: s => notStar x && chkE e sc fn x && chkEs r sc fn s
    | _ => false
def chkEsD : CEs → Scope → (Str → Bool) → List Expr → Bool
  | .nil, sc, fn, xs => match xs with
    | [.Dict [] [] _] => true
    | _ => false
  | .cons e r, sc, fn, xs => match xs with
    | x :: s => notStar x && chkE e sc fn x && chkEsD r sc fn s
    | _ => false
def chkO : CO → Scope → (Str → Bool) → Option Expr → Bool
  | .none, sc, fn, o => match o with
    | none => true
    | _ => false
  | .some e, sc, fn, o => match o with
    | some x => chkE e sc fn x
    | none => false
def chkIf : CO → Scope → (Str → Bool) → List Expr → Bool
  | .none, sc, fn, o => match o with
    | [] => true
    | _ => false
  | .some e, sc, fn, o => match o with
    | [x] => e.isTest && chkE e sc fn x
    | _ => false
def chkR : CEs → Scope → (Str → Bool) → List Expr → Bool
  | .cons a .nil, sc, fn, xs => match xs with
    | [x] => notStar x && chkE a sc fn x
    | _ => false
  | .cons a (.cons b .nil), sc, fn, xs => match xs with
    | [x, y] => notStar x && notStar y && chkE a sc fn x && chkE b sc fn y
    | _ => false
  | .cons a (.cons b (.cons c .nil)), sc, fn, xs => match xs with
    | [x, y, z] => notStar x && notStar y && notStar z && chkE a sc fn x && chkE b sc fn y && chkE c sc fn z
    | _ => false
  | _, _, _, _ => false
def chkI : CI → Scope → (Str → Bool) → Expr → Expr → Bool
  | .lst a, sc, fn, tg, e => chkE a sc fn e
  | .tup a, sc, fn, tg, e => chkE a sc fn e
  | .rng es, sc, fn, tg, e => match e with
    | .Call (.Name y _) xs [] _ => decide (y = "range") && glB sc y && chkR es sc fn xs
    | _ => false
  | .enum a, sc, fn, tg, e => match e with
    | .Call (.Name y _) [x] [] _ => decide (y = "enumerate") && glB sc y && notStar x && isTupE tg && chkE a sc fn x
    | _ => false
  | .zip a b, sc, fn, tg, e => match e with
    | .Call (.Name z _) [x, y] [] _ => decide (z = "zip") && glB sc z && notStar x && notStar y && isTupE tg && chkE a sc fn x && chkE b sc fn y
    | _ => false
  | .str a, sc, fn, tg, e => chkE a sc fn e
  | .enumS a, sc, fn, tg, e => match e with
    | .Call (.Name y _) [x] [] _ => decide (y = "enumerate") && glB sc y && notStar x && isTupE tg && chkE a sc fn x
    | _ => false
end
end
end Cl
set_option Elab.async false
set_option linter.all false
set_option maxRecDepth 100000
set_option maxHeartbeats 4000000
namespace Cl
open PySem PySem.Spec PyProof.Rows L2 RZ

def bltNames : List Str := ["len", "sum", "min", "max", "all", "any", "tuple", "list", "sorted", "int", "range", "enumerate", "zip", "isinstance", "bool", "str", "set"]
structure Good (C : Ctx) (sp : Nat → Sp) (k : Nat) (N : List Str) (sc : Scope) (fn : Str → Bool) (E : EX) (X : Cx) : Prop where
  hN : X.N = N
  nd : N.Nodup
  hsc : X.env.scope = sc
  fnE : X.fn = fn
  calm : X.calm = true
  room1 : Room (k + 1) X.A
  blt : ∀ x ∈ bltNames, X.mg x = none
  fns : ∀ f x, C.fname f = some x → ∃ a fd ps, X.mg x = some (.ref a) ∧ W.keepIn X.K (.ref a) = true ∧ FnOk X.prog X.w X.K X.mg X.base (L2.CX X.prog X.w) k a fd ps (sp f) ∧ Binds X.K fd ps []
  csts : ∀ x c, C.cst x = some c → ∃ u, X.mg x = some u ∧ RelV c.v u
  pass : ∀ σ, PassesAt (L2.CX X.prog X.w) X σ (E σ)
  newb : C.hasB = true → ∃ f fd ps, X.mg "Band" = some (.ref (bandC X.K)) ∧ Mk X.K (bandC X.K) f ∧ FnOk X.prog X.w X.K X.mg X.base (L2.CX X.prog X.w) k f fd ps (sp 4900) ∧ Binds X.K fd ps []
  mths : ∀ f m, C.mname f = some m → ∃ a fd ps, Cls X.K (bandC X.K) ∧ Meth X.K (bandC X.K) m a ∧ FnOk X.prog X.w X.K X.mg X.base (L2.CX X.prog X.w) k a fd ps (sp f) ∧ Binds X.K fd ps []
theorem baseC_of {e : Expr} {m : Str} (h : plainC e = true) (env : PySem.Env) : attributeBase e m env (eval e env) = eval e env := by
  cases e with
  | Name x p => rfl
  | Call f es ks p =>
    cases es with
    | nil => simp [plainC] at h
    | cons a r => cases f <;> rfl
  | _ => simp [plainC] at h
theorem Good.room {C : Ctx} {sp : Nat → Sp} {k : Nat} {N : List Str} {sc : Scope} {fn : Str → Bool} {E : EX} {X : Cx} (g : Good C sp k N sc fn E X) : Room k X.A := g.room1.mono (Nat.le_succ k)
theorem vis_of {sc : Scope} {x : Str} (h : visB sc x = true) : Vis sc x := by
  unfold visB at h
  split at h
  · exact .inl (by assumption)
  · exact .inr (.inl (by assumption))
  · exact .inr (.inr (by assumption))
  · cases h
theorem loc_of {sc : Scope} {x : Str} (h : locB sc x = true) : Loc sc x := by
  unfold locB at h
  split at h
  · exact .inl (by assumption)
  · exact .inr (by assumption)
  · cases h
theorem isLoc_of {sc : Scope} {x : Str} (h : isLocB sc x = true) : sc.names.lookup x = some .local := by
  unfold isLocB at h
  split at h
  · assumption
  · cases h
theorem gl_of {X : Cx} {sc : Scope} {x : Str} (hs : X.env.scope = sc) (h : glB sc x = true) : Gl X x := by
  unfold glB at h
  unfold Gl Env.kindOf
  rw [hs]
  split at h
  · assumption
  · cases h
theorem dbg_of {x : Str} (h : (!dbg x) = true) : (x == ("__debug__" : Str)) = false ∧ (x == ("__classdict__" : Str)) = false := by
  unfold dbg at h
  simp only [Bool.not_eq_true', Bool.or_eq_false_iff] at h
  exact h
theorem star_of {e : Expr} (h : notStar e = true) (es : List Expr) (env : PySem.Env) : starEach (e :: es) env = (false, eval e env) :: starEach es env := by
  cases e <;> first | rfl | (simp [notStar] at h)
theorem set_of {e : Expr} (h : notSet e = true) (op : CmpOp) : behindInMarks op e = false := by
  cases e <;> first | rfl | (simp [notSet] at h)
theorem fold_of {e : Expr} (h : notSet e = true) (env : PySem.Env) (x : Value) : foldedSetIterable e env x = pure x := by
  cases e <;> first | rfl | (simp [notSet] at h)
theorem plain_of {e : Expr} (h : plainT e = true) (env : PySem.Env) (whole : Sem Value) : isTrue e env whole = (do let v ← whole; standAt e.pos; holding [v] (truthy v)) := by
  cases e <;> first | rfl | (simp [plainT] at h)
theorem slice_of {e : Expr} (h : notSlice e = true) : PlainIx e := by
  intro o i
  cases e <;> first | rfl | (simp [notSlice] at h)
theorem base_of {e : Expr} {m : Str} (h : plainO e = true) (env : PySem.Env) : attributeBase e m env (eval e env) = eval e env := by
  cases e <;> first | rfl | (simp [plainO] at h)
def starsB : List Expr → Bool
  | [] => true
  | e :: es => notStar e && starsB es
theorem stars_any : ∀ {es : List Expr}, starsB es = true → ∀ (pos : Pos) (env : PySem.Env), (backTo pos (starEach es env)).any (·.1) = false
  | [], _, pos, env => rfl
  | e :: es, h, pos, env => by
    simp only [starsB, Bool.and_eq_true] at h
    rw [star_of h.1]
    show (false || (backTo pos (starEach es env)).any (·.1)) = false
    rw [stars_any h.2 pos env]; rfl
theorem stars_all : ∀ {es : List Expr}, starsB es = true → ∀ (pos : Pos) (env : PySem.Env), (backTo pos (starEach es env)).all (fun x => !x.1) = true
  | [], _, pos, env => rfl
  | e :: es, h, pos, env => by
    simp only [starsB, Bool.and_eq_true] at h
    rw [star_of h.1]
    show (!false && (backTo pos (starEach es env)).all (fun x => !x.1)) = true
    rw [stars_all h.2 pos env]; rfl
theorem chkEs_stars {C : Ctx} {N : List Str} : ∀ {es : CEs} {sc : Scope} {fn : Str → Bool} {xs : List Expr}, chkEs C N es sc fn xs = true → starsB xs = true
  | .nil, sc, fn, xs, h => by
    cases xs with
    | nil => rfl
    | cons _ _ => simp [chkEs] at h
  | .cons e r, sc, fn, xs, h => by
    cases xs with
    | nil => simp [chkEs] at h
    | cons x s =>
      simp only [chkEs, Bool.and_eq_true] at h
      simp only [starsB, Bool.and_eq_true]
      exact ⟨h.1.1, chkEs_stars (es := r) h.2⟩
theorem chkEsD_stars {C : Ctx} {N : List Str} : ∀ {es : CEs} {sc : Scope} {fn : Str → Bool} {xs : List Expr}, chkEsD C N es sc fn xs = true → starsB xs = true ∧ xs ≠ []
  | .nil, sc, fn, xs, h => by
    unfold chkEsD at h
    split at h
    · exact ⟨rfl, by simp⟩
    · cases h
  | .cons e r, sc, fn, xs, h => by
    unfold chkEsD at h
    split at h
    · simp only [Bool.and_eq_true] at h
      simp only [starsB, Bool.and_eq_true]
      exact ⟨⟨h.1.1, (chkEsD_stars (es := r) h.2).1⟩, by simp⟩
    · cases h
theorem pe_callS0 {X : Cx} {CX : CXT} {k : Nat} {f : Addr} {fd : FuncData} {ps : List Str} {sp : Sp} {E : L2.St → XK} {x : Str} {p pos : Pos} (F : FnOk X.prog X.w X.K X.mg X.base CX k f fd ps sp) (hr : Room k X.A) (hg : Gl X x) (hm : X.mg x = some (.ref f)) (hk : PySem.W.keepIn X.K (.ref f) = true) (hb : Binds X.K fd ps []) (hx : ∀ σ, PassesAt CX X σ (E σ))
    (hdb : (x == ("__debug__" : Str)) = false) : PE X (.Call (.Name x p) [] [] pos) (tCallS sp E tNil) := by
  refine ⟨fun pins s σ H Q I h => ?_⟩
  refine wpAny_Call_Name_kw (ld_glob I hg hm ?_ hdb)
  exact PySem.W.callWith_K0 I.kIn hk (run_fnS (us := []) F hr hb (hx σ) I .nil h)
theorem chkC_pe {X : Cx} {c : Cst} {k : Const} {j : Nat} {pos : Pos} (h : chkC c k = true) : PE X (.Constant k j pos) (tC c.v) := by
  cases c <;> cases k <;> simp only [chkC, Bool.false_eq_true, decide_eq_true_eq, beq_iff_eq] at h
  · exact pe_non
  · subst h; exact pe_bl
  · subst h; exact pe_int
  · subst h; exact pe_str
theorem chkCst_eq {c d : Cst} (h : chkCst c d = true) : c = d := by
  cases c <;> cases d <;> simp only [chkCst, Bool.false_eq_true, decide_eq_true_eq, beq_iff_eq] at h
  · rfl
  · subst h; rfl
  · subst h; rfl
  · subst h; rfl
theorem bi_pe {X : Cx} {b : Bi} {e : Expr} {es : List Expr} {t : TA} {p pos : Pos} (hc : X.calm = true) (hu : X.A.units + 200 < cLine) (hg : Gl X b.x) (hm : X.mg b.x = none) (ha : PA X (e :: es) t) (he : starEach (e :: es) X.env = (false, eval e X.env) :: starEach es X.env) (hpl : (backTo pos (starEach es X.env)).any (·.1) = false) :
    PE X (.Call (.Name b.x p) (e :: es) [] pos) (tCB (rBi X.K b) t) := by
  have h := cr_bi (X := X) hc hu b
  have hb := b.boot
  cases b <;> first
    | exact pe_callB h hg hm hb ha (by decide) (by decide) he hpl
    | exact pe_callTy h hg hm hb ha (by decide) (by decide) he hpl
theorem kit_none (t : Ty) : kitB "NoneType" t.n = some (isiF t .non) := by cases t <;> decide +kernel
theorem kit_bool (b : Bool) (t : Ty) : kitB "bool" t.n = some (isiF t (.bl b)) := by cases b <;> cases t <;> decide +kernel
theorem kit_int (i : Int) (t : Ty) : kitB "int" t.n = some (isiF t (.int i)) := by
  have h : kitB "int" t.n = some (isiF t (.int 0)) := by cases t <;> decide +kernel
  rw [h]; cases t <;> rfl
theorem kit_str (x : Str) (t : Ty) : kitB "str" t.n = some (isiF t (.str x)) := by
  have h : kitB "str" t.n = some (isiF t (.str Str.empty)) := by cases t <;> decide +kernel
  rw [h]; cases t <;> rfl
theorem kit_tup (ds : List D) (t : Ty) : kitB "tuple" t.n = some (isiF t (.tup ds)) := by
  have h : kitB "tuple" t.n = some (isiF t (.tup [])) := by cases t <;> decide +kernel
  rw [h]; cases t <;> rfl
theorem kit_lst (ds : List D) (t : Ty) : kitB "list" t.n = some (isiF t (.lst ds)) := by
  have h : kitB "list" t.n = some (isiF t (.lst [])) := by cases t <;> decide +kernel
  rw [h]; cases t <;> rfl
theorem kit_scr (ds : List Int) (t : Ty) : kitB "list" t.n = some (isiF t (.scr ds)) := by
  have h : kitB "list" t.n = some (isiF t (.scr [])) := by cases t <;> decide +kernel
  rw [h]; cases t <;> rfl
theorem TyXof {K : W.Frag} {P H : Hp} {d : D} {v : V} (e : Ex P H) (h : RepB K P H d v) : ∃ τ : Value, TyX K H v τ ∧ ∀ t : Ty, W.kitOne K τ (.type t.n) = some (isiF t d) := by
  cases d with
  | non => obtain rfl := h.non; exact ⟨.type "NoneType", .base .non, fun t => kit_ty (kit_none t)⟩
  | bl b => obtain rfl := h.bl; exact ⟨.type "bool", .base (.bl b), fun t => kit_ty (kit_bool b t)⟩
  | int i => obtain rfl := h.int; exact ⟨.type "int", .base (.int i), fun t => kit_ty (kit_int i t)⟩
  | str x => obtain rfl := h.str; exact ⟨.type "str", .base (.str x), fun t => kit_ty (kit_str x t)⟩
  | tup ds => obtain ⟨a, vs, rfl, g, r⟩ := h.tup; exact ⟨.type "tuple", .base (.tup (e _ _ g)), fun t => kit_ty (kit_tup ds t)⟩
  | lst ds => obtain ⟨a, vs, rfl, g, r⟩ := h.lst e; exact ⟨.type "list", .base (.lst g), fun t => kit_ty (kit_lst ds t)⟩
  | scr ns =>
    obtain ⟨a, rfl, g⟩ := h.scr e
    refine ⟨.type "list", ?_, fun t => kit_ty (kit_scr ns t)⟩
    rcases g with (g | ⟨o, g⟩) | ⟨o, its, n, g, gc, _⟩
    · exact .base (.lst g)
    · exact .base (.frz g)
    · exact .kList g gc
  | obj ds =>
    rcases h with h | ⟨_, _, _, z, _⟩
    · cases h with
      | obj h0 h1 h2 h3 h5 h4 =>
        have B := bandB_ok h0
        exact ⟨.ref (bandC K), .base (.ins (e _ _ h1) B.cl B.ha B.hn B.ht B.hm), fun t => by cases t <;> exact B.kit _ (by decide)⟩
    · cases z
theorem cr_isi {X : Cx} (t : Ty) : CallR X (.builtin "isinstance") (rIsD X.K t) := by
  intro pins s σ H xs us Q I rv h
  obtain ⟨x, P, d, rfl, e, hr, q⟩ := h
  obtain ⟨n, h1, h2⟩ := TyXof e hr
  exact call_isi pins s σ H _ us Q I rv ⟨x, .ty t.n, n, .type t.n, isiF t d, rfl, .ty _, h1, h2 t, q⟩
theorem cr_isB {X : Cx} : CallR X (.builtin "isinstance") (rIsB X.K) := by
  intro pins s σ H xs us Q I rv h
  obtain ⟨x, rfl, hb, hx⟩ := h
  have B := bandB_ok hb
  rcases hx with ⟨b, dy, gs, rfl, hb', q⟩ | ⟨b, ys, rfl, hb', q⟩
  · exact call_isi pins s σ H _ us Q I rv ⟨_, _, .ref (bandC X.K), .ref (bandC X.K), true, rfl, .own _, .base (.ins hb' B.cl B.ha B.hn B.ht B.hm), B.kb, q⟩
  · exact call_isi pins s σ H _ us Q I rv ⟨_, _, .type "tuple", .ref (bandC X.K), false, rfl, .own _, .base (.tup hb'), B.kt, q⟩
def Ty.x : Ty → Str
  | .int => "int"
  | .bool => "bool"
  | .tuple => "tuple"
  | .list => "list"
  | .str => "str"
theorem Ty.boot (t : Ty) : bootBuiltins (t.n : Str) = some (.type t.n) := by cases t <;> decide +kernel
theorem Ty.nn (t : Ty) : (t.n : Str) ≠ "__name__" ∧ ((t.n : Str) == ("__debug__" : Str)) = false := by cases t <;> decide +kernel
theorem Ty.mem (t : Ty) : (t.n : Str) ∈ bltNames := by cases t <;> decide +kernel
theorem Bi.mem (b : Bi) : b.x ∈ bltNames := by cases b <;> decide +kernel
theorem pgs_names {X : Cx} {N : List Str} {sc : Scope} {fn : Str → Bool} (hN : X.N = N) (nd : N.Nodup) (hsc : X.env.scope = sc) (hf : X.fn = fn) : ∀ {is : List Nat} {es : List Expr}, chkNames N sc fn is es = true → PGs X es (gNames is) ∧ (assignEach es X.env).length = is.length ∧ (assignEach es X.env).findIdx? (·.1) = none
  | [], es, h => by
    cases es with
    | nil => exact ⟨pgs_nil, rfl, rfl⟩
    | cons _ _ => simp [chkNames] at h
  | i :: is, es, h => by
    cases es with
    | nil => simp [chkNames] at h
    | cons e es =>
      cases e <;> simp only [chkNames, Bool.false_eq_true, Bool.and_eq_true, decide_eq_true_eq] at h
      rename_i x pos
      obtain ⟨⟨⟨h1, h2⟩, h3⟩, h4⟩ := h
      obtain ⟨k1, k2, k3⟩ := pgs_names hN nd hsc hf h4
      refine ⟨pgs_cons (pg_name (hN ▸ nd) (by rw [hN]; exact h1) (by rw [hsc]; exact loc_of h2) ?_) k1 rfl, ?_, ?_⟩
      · rcases Bool.or_eq_true _ _ ▸ h3 with z | z
        · exact .inl (by rw [hf]; exact z)
        · exact .inr (by rw [hsc]; exact isLoc_of z)
      · show (assignEach es X.env).length + 1 = is.length + 1
        rw [k2]
      · show List.findIdx? _ ((false, _) :: assignEach es X.env) = none
        rw [List.findIdx?_cons]
        simp [k3]
theorem pg_all {X : Cx} {N : List Str} {sc : Scope} {fn : Str → Bool} (hc : X.calm = true) (hN : X.N = N) (nd : N.Nodup) (hsc : X.env.scope = sc) (hf : X.fn = fn) {t : Tg} {e : Expr} (h : chkG N sc fn t e = true) : PG X e (tOfG X.K t) := by
  cases t with
  | nm i =>
    cases e <;> simp only [chkG, Bool.false_eq_true, Bool.and_eq_true, decide_eq_true_eq] at h
    obtain ⟨⟨h1, h2⟩, h3⟩ := h
    refine pg_name (hN ▸ nd) (by rw [hN]; exact h1) (by rw [hsc]; exact loc_of h2) ?_
    rcases Bool.or_eq_true _ _ ▸ h3 with z | z
    · exact .inl (by rw [hf]; exact z)
    · exact .inr (by rw [hsc]; exact isLoc_of z)
  | tp is =>
    cases e <;> simp only [chkG, Bool.false_eq_true] at h
    obtain ⟨k1, k2, k3⟩ := pgs_names hN nd hsc hf h
    exact ⟨fun pins s σ H v u Q I r hw => hw.elim (fun z => (pg_tup hc k1 k2 k3).run pins s σ H v u Q I r z) fun z => (pg_unl hc k1 k2 k3).run pins s σ H v u Q I r z⟩
end Cl
set_option Elab.async false
set_option linter.all false
set_option maxRecDepth 100000
set_option maxHeartbeats 4000000
namespace Cl
open PySem PySem.Spec PyProof.Rows L2 RZ
/-! ### sorted(set(..)) -/
theorem mem_ded {α : Type} [DecidableEq α] {x : α} : ∀ {l : List α}, x ∈ ded l ↔ x ∈ l
  | [] => Iff.rfl
  | y :: r => by
    rw [ded]
    split
    · rename_i h
      rw [mem_ded (l := r), List.mem_cons]
      constructor
      · exact .inr
      · rintro (rfl | q)
        · exact h
        · exact q
    · rw [List.mem_cons, List.mem_cons, mem_ded (l := r)]
theorem ded_nodup {α : Type} [DecidableEq α] : ∀ l : List α, (ded l).Nodup
  | [] => List.nodup_nil
  | y :: r => by
    rw [ded]
    split
    · exact ded_nodup r
    · rename_i h
      exact List.nodup_cons.mpr ⟨fun q => h (mem_ded.mp q), ded_nodup r⟩
theorem tups?_some : ∀ {ds : List D} {ls : List (List Int)}, tups? ds = some ls → ds = ls.map fun t => .tup (t.map D.int)
  | [], _, h => by simp [tups?] at h; subst h; rfl
  | .tup a :: r, _, h => by
    simp only [tups?, Option.bind_eq_some_iff, Option.map_eq_some_iff] at h
    obtain ⟨x, hx, m, hm, rfl⟩ := h
    rw [tups?_some hm, ints?_some hx]
    rfl
  | .non :: _, _, h | .bl _ :: _, _, h | .str _ :: _, _, h | .int _ :: _, _, h | .lst _ :: _, _, h | .scr _ :: _, _, h => by simp [tups?] at h
theorem code_le {B : Int} : ∀ {x y : List Int}, x.length = y.length → TS.Bd B x → TS.Bd B y → TS.code B x ≤ TS.code B y → HT.lexLt y x = false
  | [], [], _, _, _, _ => rfl
  | [], _ :: _, h, _, _, _ => by simp at h
  | _ :: _, [], h, _, _, _ => by simp at h
  | a :: x, b :: y, h, hx, hy, hc => by
    have hl : x.length = y.length := by simpa using h
    rw [HT.lexLt]
    by_cases e : b = a
    · subst e
      rw [if_pos rfl]
      refine code_le hl hx.tail hy.tail ?_
      rcases Int.lt_or_le (TS.code B y) (TS.code B x) with q | q
      · exact absurd ((TS.code_same (d := b) hl.symm).mpr q) (by omega)
      · exact q
    · rw [if_neg e]
      refine decide_eq_false fun q => ?_
      have := TS.code_lt hl.symm hy.tail hx.tail q
      omega
theorem lex_total (a b : List Int) : ((!HT.lexLt b a) || (!HT.lexLt a b)) = true := by
  induction a generalizing b with
  | nil => cases b <;> simp [HT.lexLt]
  | cons x a ih =>
    cases b with
    | nil => simp [HT.lexLt]
    | cons y b =>
      have := ih b
      simp only [HT.lexLt]
      by_cases h : x = y
      · subst h; simpa using this
      · rw [if_neg (Ne.symm h), if_neg h]
        simp only [Bool.or_eq_true, Bool.not_eq_true', decide_eq_false_iff_not]
        omega
theorem lex_anti : ∀ {a b : List Int}, HT.lexLt a b = false → HT.lexLt b a = false → a = b
  | [], [], _, _ => rfl
  | [], _ :: _, h, _ => by simp [HT.lexLt] at h
  | _ :: _, [], _, h => by simp [HT.lexLt] at h
  | x :: a, y :: b, h1, h2 => by
    rw [HT.lexLt] at h1 h2
    by_cases e : x = y
    · subst e
      rw [if_pos rfl] at h1 h2
      rw [lex_anti h1 h2]
    · rw [if_neg e] at h1
      rw [if_neg (Ne.symm e)] at h2
      simp only [decide_eq_false_iff_not] at h1 h2
      omega
theorem lex_trans : ∀ {a b c : List Int}, HT.lexLt b a = false → HT.lexLt c b = false → HT.lexLt c a = false
  | [], _, [], _, _ => rfl
  | [], _, _ :: _, _, _ => rfl
  | x :: a, [], c, h, _ => by simp [HT.lexLt] at h
  | x :: a, y :: b, [], _, h => by simp [HT.lexLt] at h
  | x :: a, y :: b, z :: c, h1, h2 => by
    rw [HT.lexLt] at h1 h2 ⊢
    by_cases e : y = x
    · subst e
      rw [if_pos rfl] at h1
      by_cases e2 : z = y
      · subst e2
        rw [if_pos rfl] at h2 ⊢
        exact lex_trans h1 h2
      · rw [if_neg e2] at h2 ⊢
        exact h2
    · rw [if_neg e] at h1
      by_cases e2 : z = y
      · subst e2
        rw [if_neg e]
        exact h1
      · rw [if_neg e2] at h2
        simp only [decide_eq_false_iff_not] at h1 h2
        rw [if_neg (by omega)]
        exact decide_eq_false (by omega)
/-- two lists in order, without doubles, of the same things -/
theorem same_sorted {α : Type} (le : α → α → Bool) (anti : ∀ a b, le a b = true → le b a = true → a = b) : ∀ {l m : List α}, l.Pairwise (fun a b => le a b = true) → m.Pairwise (fun a b => le a b = true) → l.Nodup → m.Nodup → (∀ x, x ∈ l ↔ x ∈ m) → l = m
  | [], [], _, _, _, _, _ => rfl
  | [], y :: m, _, _, _, _, h => by have := (h y).mpr List.mem_cons_self; cases this
  | x :: l, [], _, _, _, _, h => by have := (h x).mp List.mem_cons_self; cases this
  | x :: l, y :: m, h1, h2, n1, n2, h => by
    obtain ⟨a1, a2⟩ := List.pairwise_cons.mp h1
    obtain ⟨b1, b2⟩ := List.pairwise_cons.mp h2
    obtain ⟨c1, c2⟩ := List.nodup_cons.mp n1
    obtain ⟨d1, d2⟩ := List.nodup_cons.mp n2
    have e : x = y := by
      rcases List.mem_cons.mp ((h x).mp List.mem_cons_self) with e | e
      · exact e
      · rcases List.mem_cons.mp ((h y).mpr List.mem_cons_self) with e' | e'
        · exact e'.symm
        · exact anti _ _ (a1 y e') (b1 x e)
    subst e
    congr 1
    refine same_sorted le anti a2 b2 c2 d2 fun z => ?_
    constructor
    · intro hz
      rcases List.mem_cons.mp ((h z).mp (List.mem_cons_of_mem _ hz)) with e | e
      · exact absurd (e ▸ hz) c1
      · exact e
    · intro hz
      rcases List.mem_cons.mp ((h z).mpr (List.mem_cons_of_mem _ hz)) with e | e
      · exact absurd (e ▸ hz) d1
      · exact e
/-! ### set(list of ints) -/
abbrev nset (w : World) : Obj := { cls := .type "set", dict := none, data := .set #[] 0 (.fresh 0 0 (!w.params.followText "set-order")) }
section
variable {Pg : Program} {w : World} {A : Around} {E : Value → Shared → Prop} {s : Shared}
set_option maxHeartbeats 6400000 in
theorem set_of_ints {l : Addr} {its : Array Value} (ns : List Int) {Q : Value → Shared → Prop} (hh : A.handled = none) (hl : s.heap.IsList l its) (hit : IntsAre its.toList ns) (hb : ns.length + 1 < scanBound)
    (fin : ∀ (h' : Heap) (tk c : Nat), SetR w h' s.heap.objs.size (fun j => decide (j ∈ ns)) c → c ≤ ns.length → (∀ b o, s.heap.get? b = some o → h'.get? b = some o) → Q (.ref s.heap.objs.size) { s with heap := h', toks := tk }) :
    wpAny (model Pg w) A (call (.type "set") [.ref l]) Q E s := by
  have size : its.size = ns.length := by
    have := IntsAre.length hit
    rwa [Array.length_toList] at this
  obtain ⟨cc, tl, mro⟩ := F.called_set.mro
  have made := F.called_set.made
  have sub := F.called_set.sub
  refine wpAny_call (codeAny_of_tree ?_)
  show wpAny _ _ (callAny (.type "set") _) _ _ _
  refine wpAny_pure ⟨Code.quiet_builtin _ (by decide +kernel), codeAny_builtin F.entry_type_call ?_⟩
  rw [Around.under_plain (weight_type_call_type "set" [.ref l] []) rfl]
  have nt := F.called_set.notType
  have cc2 := F.called_set.canCreate
  have tc := F.typeCall_set_1 (.ref l)
  repeat (any_goals (first | assumption | wp_step))
  refine codeAny_mono (code_set_led1 (.ref l) (E := E) (Q₁ := fun ob s₁ => ob = .ref s.heap.objs.size ∧ s₁ = { s with heap := s.heap.push (nset w) }) ⟨rfl, rfl⟩) fun r s₁ hr => ?_
  cases r with
  | error e => exact hr
  | ok fl =>
    cases fl with
    | ret ob =>
      obtain ⟨rfl, rfl⟩ := hr
      have new : (s.heap.push (nset w)).get? s.heap.objs.size = some (nset w) := Heap.get?_push_size _ rfl
      have ty : Shared.TypeIs { s with heap := s.heap.push (nset w) } (.ref s.heap.objs.size) "set" := ⟨_, new, rfl⟩
      have li := F.called_set.init.lookup
      have bi := F.called_set.init.bind (.ref s.heap.objs.size)
      repeat (any_goals (first | assumption | wp_step))
      refine codeAny_mono (codeAny_call_builtin (R := wants (fun r s₂ => r = .none ∧ ∃ h' tk c, s₂ = { s with heap := h', toks := tk } ∧ SetR w h' s.heap.objs.size (fun j => decide (j ∈ ns)) c ∧ c ≤ ns.length ∧
          ∀ b o, s.heap.get? b = some o → h'.get? b = some o) E) F.called_set.init.plain F.entry_set_init (check_set_init_1 ty ?_)) fun r₂ s₂ hr₂ => ?_
      · obtain ⟨ol, hol, hcl, nl, hdl⟩ := hl
        obtain ⟨ocl, odi, oda, osl⟩ := ol
        simp only at hcl hdl
        subst hcl
        subst hdl
        have hol' : (s.heap.push (nset w)).get? l = some { cls := .type "list", dict := odi, data := .seq its nl, slots := osl } := Heap.get?_push_of_some _ hol
        have ss1 := F.sub_list_set
        have ss2 := F.sub_list_frozenset
        have ne1 : (Value.type "list" == Value.type "dict") = false := by decide
        have hl1 : (s.heap.push (nset w)).IsList l its := ⟨_, hol', rfl, nl, rfl⟩
        unfold Builtin.«set.__init__» noKeywords Builtin.Frozenset.updateFrom
        generalize hPI : pyIter = PI
        wp_walk
        subst hPI
        refine wpAny_pyIter_list hl1 ?_
        refine wpAny_bind (wpAny_runValue ?_)
        have below : l < s.heap.objs.size := Heap.lt_size hol
        have calm3 : A.in1.in1.in1.handled = none := by simp [hh]
        have ne2 : l ≠ (s.heap.push (nset w)).objs.size := by
          rw [Heap.size_push]
          exact Nat.ne_of_lt (Nat.lt_succ_of_lt below)
        have apart : s.heap.objs.size ∉ [(s.heap.push (nset w)).objs.size, l] := by
          rw [Heap.size_push]
          simp only [List.mem_cons, List.mem_singleton, List.not_mem_nil, or_false, not_or]
          exact ⟨Nat.ne_of_lt (Nat.lt_succ_self _), Nat.ne_of_gt below⟩
        have each : ∀ (i : Nat) (v : Value), its[i]? = some v → ∃ k t, ns[i]? = some k ∧ v = .int k t := fun i v hv => by
          have hi : i < ns.length := by rw [← size]; exact (Array.getElem?_eq_some_iff.mp hv).1
          obtain ⟨t, e⟩ := IntsAre.int_at hit i v (by rw [Array.getElem?_toList]; exact hv)
          refine ⟨ns[i], t, List.getElem?_eq_getElem hi, ?_⟩
          rw [e, List.getD_eq_getElem?_getD, List.getElem?_eq_getElem hi] <;> rfl
        refine set_update_ints ((Walks.list calm3 _ l ne2 its).toS) s.heap.objs.size apart ns size hb each (its.size - 0) 0 _ (by omega) (Nat.zero_le _) ⟨⟨_, Heap.get?_push_size _ rfl, rfl, rfl⟩, (hl1.push _)⟩ ?start ?done
        case start =>
          have at0 : ((s.heap.push (nset w)).push { cls := .type "list_iterator", data := .fields #[.ref l, .int 0 0] }).get? s.heap.objs.size = some (nset w) := Heap.get?_push_of_some _ new
          exact ⟨0, Nat.le_refl 0, setR_new_at at0⟩
        case done =>
          intro s' c' mvd le' fin'
          obtain ⟨h', g2, d', tk', os'⟩ := s'
          have eg : g2 = s.gens := mvd.gens
          have ed : d' = s.drawn := mvd.drawn
          have eo : os' = s.os := mvd.os
          subst eg
          subst ed
          subst eo
          show wpAny _ _ _ _ _ _
          refine wpAny_pure ?_
          show wpAny _ _ (ret Value.none) _ _ _
          rw [size] at le'
          refine wpAny_pure ⟨rfl, h', tk', c', rfl, fin', le', fun b o e => ?_⟩
          have lt0 : b < s.heap.objs.size := Heap.lt_size e
          have lt1 : b ≠ s.heap.objs.size := Nat.ne_of_lt lt0
          have lt2 : b ≠ (s.heap.push (nset w)).objs.size := by
            rw [Heap.size_push]
            exact Nat.ne_of_lt (Nat.lt_succ_of_lt lt0)
          refine mvd.heap b o ?_ (Heap.get?_push_of_some _ (Heap.get?_push_of_some _ e))
          simp only [List.mem_cons, List.mem_singleton, List.not_mem_nil, or_false, not_or]
          exact ⟨lt1, lt2⟩
      · cases r₂ with
        | error e => exact hr₂
        | ok fl₂ =>
          cases fl₂ with
          | ret r =>
            obtain ⟨rfl, h', tk, c', rfl, z1, z2, z3⟩ := hr₂
            repeat (any_goals (first | assumption | wp_step))
            exact fin _ _ _ z1 z2 z3
          | _ => exact hr₂.elim
    | _ => exact hr.elim
end
theorem ints_vals : ∀ {ns : List Int} {us : List Value}, Vals (ns.map V.int) us → IntsAre us ns
  | [], _, .nil => .nil
  | n :: ns, _, .cons r t => by
    obtain ⟨k, rfl⟩ := r
    exact .cons n k (ints_vals t)
theorem reps_tups {K : W.Frag} {P : Hp} : ∀ {ls : List (List Int)} {vs : List V}, Reps K P (ls.map fun t => D.tup (t.map D.int)) vs → ∃ ks : List (Addr × List Int), ks.map (·.2) = ls ∧ vs = ks.map (fun p => V.ref p.1) ∧ ∀ p ∈ ks, P p.1 = some (.tup (p.2.map V.int))
  | [], _, h => by cases h; exact ⟨[], rfl, rfl, fun p hp => by cases hp⟩
  | t :: ls, _, h => by
    cases h with
    | cons h1 h2 =>
      obtain ⟨ks, e1, e2, e3⟩ := reps_tups h2
      cases h1 with
      | @tup a us _ q1 q2 =>
        have := Reps.intsV q2
        subst this
        refine ⟨(a, t) :: ks, by rw [List.map_cons, e1], by rw [List.map_cons, e2], fun p hp => ?_⟩
        rcases List.mem_cons.mp hp with rfl | hp
        · exact q1
        · exact e3 p hp
theorem tups_reps {K : W.Frag} {P : Hp} : ∀ {ks : List (Addr × List Int)}, (∀ p ∈ ks, P p.1 = some (.tup (p.2.map V.int))) → Reps K P ((ks.map (·.2)).map fun t => D.tup (t.map D.int)) (ks.map fun p => V.ref p.1)
  | [], _ => .nil
  | p :: ks, h => .cons (.tup (h p List.mem_cons_self) (reps_ints _)) (tups_reps fun q hq => h q (List.mem_cons_of_mem _ hq))
theorem pe_sset {X : Cx} {a : Expr} {ta : TE} {p p2 q pos : Pos} (hc : X.calm = true) (hu : X.A.units + 200 < cLine) (hg : Gl X "sorted") (hm : X.mg "sorted" = none) (hg2 : Gl X "set") (hm2 : X.mg "set" = none) (ha : PE X a ta)
    (na : starEach [a] X.env = (false, eval a X.env) :: starEach [] X.env) : PE X (.Call (.Name "sorted" p) [.Call (.Name "set" p2) [a] [] q] [] pos) (tThen ta (rSs X.K)) := by
  refine ⟨fun pins s σ H Q I h => ?_⟩
  refine Call_ (ld_blt I hg hm boot_sorted ?_)
  refine callWith_builtin1 (args_cons ?_ rfl) rfl rfl
  refine Call_ (ld_blt I hg2 hm2 boot_set ?_)
  refine callWith_type1 (args_cons (thn (ha.run pins s σ H _ I h) fun v s1 ⟨x, H1, I1, r1, q1⟩ => args_nil ?_) na) na rfl
  obtain ⟨P, d0, d, e, r, hd, k⟩ := q1
  cases d0 with
  | lst ds =>
    obtain ⟨l, vs, rfl, hl, hr⟩ := r.lst e
    cases r1
    simp only [ssetF] at hd
    cases ht : tups? ds with
    | some ls =>
      rw [ht] at hd
      simp only at hd
      split at hd
      · rename_i hok
        cases hd
        rw [tups?_some ht] at hr
        obtain ⟨ks, e1, e2, e3⟩ := reps_tups hr
        subst e2
        simp only [okTs, Bool.and_eq_true, Bool.or_eq_true, decide_eq_true_eq, List.all_eq_true] at hok
        obtain ⟨⟨o1, o2⟩, o3⟩ := hok
        have hkl : ks.length < 64 := by rw [← e1, List.length_map] at o1; exact o1
        refine thn (cr_setOfT (X := X) hc (by omega) pins s1 σ H1 [V.ref l] [Value.ref l] (fun y H2 => ∃ b L, y = V.ref b ∧ H1 b = none ∧ H2 = upd H1 b (SetTO X.prog X.w b L) ∧ (∀ p ∈ L, p ∈ ks) ∧ ∀ p ∈ ks, p.2 ∈ L.map (·.2)) I1 (.cons rfl .nil)
          ⟨l, ks, rfl, SqL.of hl, fun p hp => SqT.of (e _ _ (e3 p hp)), hkl, fun b L hb m1 m2 => ⟨b, L, rfl, hb, rfl, m1, m2⟩⟩) fun u s2 ⟨y, H2, I2, r2, b, L, ey, hb, eH, m1, m2⟩ => ?_
        subst ey eH
        cases r2
        have x1 : Ext P H1 P (upd H1 b (SetTO X.prog X.w b L)) := Ext.newO e hb
        refine args_nil ?_
        have o2' : ls = [] ∨ 0 < (ls.headD []).length := by
          rcases o2 with q | q
          · exact .inl (List.isEmpty_iff.mp q)
          · exact .inr q
        have hd1 : ∃ n, 1 ≤ n ∧ ∀ p ∈ L, p.2.length = n ∧ TS.Bd 64 p.2 := by
          have key : ∀ p ∈ L, p.2.length = (ls.headD []).length ∧ TS.Bd 64 p.2 := fun p hp => by
            have hm : p.2 ∈ ls := by rw [← e1]; exact List.mem_map.mpr ⟨p, m1 p hp, rfl⟩
            obtain ⟨z1, z2⟩ := o3 _ hm
            exact ⟨z1, fun m hm => z2 m hm⟩
          rcases o2' with q | q
          · refine ⟨1, Nat.le_refl _, fun p hp => ?_⟩
            have hm : p.2 ∈ ls := by rw [← e1]; exact List.mem_map.mpr ⟨p, m1 p hp, rfl⟩
            rw [q] at hm
            cases hm
          · exact ⟨_, q, key⟩
        obtain ⟨n, hn1, hn2⟩ := hd1
        refine cr_sortedT (X := X) hc pins s2 σ _ [V.ref b] [Value.ref b] Q I2 (.cons rfl .nil) ⟨b, L, n, 64, rfl, upd_same, fun p hp => SqT.of (x1.h _ _ (e _ _ (e3 p (m1 p hp)))), hn1, hn2, fun L' p pm nd fw pw hp => ?_⟩
        have m1' : ∀ p ∈ L', p ∈ ks := fun p hp => m1 p (pm.mem_iff.mp hp)
        have ee : L'.map (·.2) = isort (fun x y => !HT.lexLt y x) (ded ls) := by
          refine same_sorted (fun x y => !HT.lexLt y x) (fun a b h1 h2 => lex_anti (by simpa using h2) (by simpa using h1)) ?_ (isort_sorted (fun a b c h1 h2 => by
            simp only [Bool.not_eq_true'] at *
            exact lex_trans h1 h2) lex_total) nd ?_ fun x => ?_
          · rw [List.pairwise_map]
            refine pw.imp_of_mem fun {a b} ha hb hc => ?_
            obtain ⟨a1, a2⟩ := hn2 a (pm.mem_iff.mp ha)
            obtain ⟨b1, b2⟩ := hn2 b (pm.mem_iff.mp hb)
            rw [code_le (a1.trans b1.symm) a2 b2 hc]
            rfl
          · exact isort_perm.nodup_iff.mpr (ded_nodup ls)
          · rw [isort_mem, mem_ded]
            constructor
            · intro hx
              obtain ⟨p, hp, rfl⟩ := List.mem_map.mp hx
              rw [← e1]
              exact List.mem_map.mpr ⟨p, m1' p hp, rfl⟩
            · intro hx
              rw [← e1] at hx
              obtain ⟨p, hp, rfl⟩ := List.mem_map.mp hx
              exact (pm.map (·.2)).mem_iff.mpr (m2 p hp)
        rw [← ee] at k
        obtain ⟨P', x2, rr⟩ := Res.keep (K := X.K) x1.ph (Res.newL hp (tups_reps fun q hq => e3 q (m1' q hq)))
        exact k _ P' _ (x1.trans x2) rr
      · cases hd
    | none =>
      rw [ht] at hd
      simp only at hd
      cases hi : ints? ds with
      | none => rw [hi] at hd; cases hd
      | some ns =>
        rw [hi] at hd
        simp only at hd
        split at hd
        · rename_i hlen
          cases hd
          rw [ints?_some hi] at hr
          have := Reps.intsV hr
          subst this
          obtain ⟨its, rv, pl, hz⟩ := I1.list (SqL.of hl)
          refine set_of_ints (w := X.w) ns (I1.ok.hd hc) pl.isList (by simpa using ints_vals rv) (by unfold scanBound; omega) fun h' tk c R hcl hk => ?_
          refine args_nil ?_
          have hn : H1 s1.heap.objs.size = none := I1.hok.fresh (Nat.le_refl _)
          have I2 : Inv X pins σ (upd H1 s1.heap.objs.size (SetO X.w s1.heap.objs.size (fun j => decide (j ∈ ns)) c)) { s1 with heap := h', toks := tk } := I1.laid (t' := tk) hk (Nat.le_refl _) (setO_new R)
          have x1 : Ext P H1 P (upd H1 s1.heap.objs.size (SetO X.w s1.heap.objs.size (fun j => decide (j ∈ ns)) c)) := Ext.newO e hn
          refine cr_sortedSet (X := X) hc pins _ σ _ [V.ref s1.heap.objs.size] [Value.ref s1.heap.objs.size] Q I2 (.cons rfl .nil) ⟨s1.heap.objs.size, _, c, rfl, upd_same, by omega, fun ms p pw mem ln hp => ?_⟩
          have ee : ms = isort (fun x y : Int => decide (x ≤ y)) (ded ns) := by
            refine same_sorted (fun x y : Int => decide (x ≤ y)) (fun a b h1 h2 => by simp at h1 h2; omega) (pw.imp fun h => by simp; omega) (isort_sorted (fun a b c h1 h2 => by simp at *; omega) fun a b => by simp; omega) (pw.imp fun h => by omega) (isort_perm.nodup_iff.mpr (ded_nodup ns)) fun x => ?_
            rw [isort_mem, mem_ded, mem]
            simp
          rw [← ee] at k
          obtain ⟨P', x2, rr⟩ := Res.keep (K := X.K) x1.ph (Res.newL hp (reps_ints ms))
          exact k _ P' _ (x1.trans x2) rr
        · cases hd
  | _ => cases hd
theorem setR_len {w : World} {h : Heap} {a : Addr} {ns : List Int} {c : Nat} (R : SetR w h a (fun j => decide (j ∈ ns)) c) : c = (ded ns).length := by
  obtain ⟨o, es, ep, t, _, _, _, _, nd, mem, _, _, hn, _⟩ := R
  have pm : (es.toList.map keyOf).Perm (ded ns) := (List.perm_ext_iff_of_nodup nd (ded_nodup ns)).mpr fun x => by
    rw [← mem x, mem_ded]
    simp
  have := pm.length_eq
  rw [List.length_map, Array.length_toList] at this
  omega
theorem pe_lset {X : Cx} {a : Expr} {ta : TE} {p p2 q pos : Pos} (hc : X.calm = true) (hu : X.A.units + 200 < cLine) (hg : Gl X "len") (hm : X.mg "len" = none) (hg2 : Gl X "set") (hm2 : X.mg "set" = none) (ha : PE X a ta)
    (na : starEach [a] X.env = (false, eval a X.env) :: starEach [] X.env) : PE X (.Call (.Name "len" p) [.Call (.Name "set" p2) [a] [] q] [] pos) (tThen ta (rLs X.K)) := by
  refine ⟨fun pins s σ H Q I h => ?_⟩
  refine Call_ (ld_blt I hg hm boot_len ?_)
  refine callWith_builtin1 (args_cons ?_ rfl) rfl rfl
  refine Call_ (ld_blt I hg2 hm2 boot_set ?_)
  refine callWith_type1 (args_cons (thn (ha.run pins s σ H _ I h) fun v s1 ⟨x, H1, I1, r1, q1⟩ => args_nil ?_) na) na rfl
  obtain ⟨P, d0, d, e, r, hd, k⟩ := q1
  have fin : ∀ (ns : List Int) (h' : Heap) (tk c : Nat), ns.length < 1000 → SetR X.w h' s1.heap.objs.size (fun j => decide (j ∈ ns)) c → c ≤ ns.length → (∀ b o, s1.heap.get? b = some o → h'.get? b = some o) → d = .int ((ded ns).length : Nat) →
      wpAny (model X.prog X.w) X.A (call (.builtin "len") [.ref s1.heap.objs.size]) (EP X pins σ Q) X.xe { s1 with heap := h', toks := tk } := fun ns h' tk c hl R hcl hk hdd => by
    have hlen := setR_len R
    obtain ⟨o, es, ep, t, ho, hex, hdt, _, _, _, _, hf, hn, _⟩ := R
    have I2 : Inv X pins σ H1 { s1 with heap := h', toks := tk } := I1.kept hk
    have hsz : es.size = (ded ns).length := by omega
    subst hdd
    exact call_len_set ho hex hdt hf (by rw [hn]; omega) ⟨.int ((ded ns).length : Nat), H1, I2.tok _, ⟨_, by rw [hsz]⟩, k _ P H1 (.refl e) (.int _)⟩
  cases d0 with
  | lst ds =>
    obtain ⟨l, vs, rfl, hl, hr⟩ := r.lst e
    cases r1
    simp only [lsetF, Option.bind_eq_some_iff] at hd
    obtain ⟨ns, hi, hd⟩ := hd
    split at hd
    · rename_i hlen
      cases hd
      rw [ints?_some hi] at hr
      have := Reps.intsV hr
      subst this
      obtain ⟨its, rv, pl, hz⟩ := I1.list (SqL.of hl)
      exact set_of_ints (w := X.w) ns (I1.ok.hd hc) pl.isList (by simpa using ints_vals rv) (by unfold scanBound; omega) fun h' tk c R hcl hk => args_nil (fin ns h' tk c hlen R hcl hk rfl)
    · cases hd
  | tup ds =>
    obtain ⟨l, vs, rfl, hl, hr⟩ := r.tup
    cases r1
    simp only [lsetF, Option.bind_eq_some_iff] at hd
    obtain ⟨ns, hi, hd⟩ := hd
    split at hd
    · rename_i hlen
      cases hd
      rw [ints?_some hi] at hr
      have := Reps.intsV hr
      subst this
      obtain ⟨its, rv, pl, hz⟩ := I1.tuple (SqT.of (e _ _ hl))
      exact call_set_tupI ns (I1.ok.hd hc) pl (by simpa using ints_vals rv) (by unfold scanBound; omega) fun h' tk c R hcl hk => args_nil (fin ns h' tk c hlen R hcl hk rfl)
    · cases hd
  | _ => cases hd
end Cl
set_option Elab.async false
set_option linter.all false
set_option maxRecDepth 100000
set_option maxHeartbeats 4000000
namespace Cl
open PySem PySem.Spec PyProof.Rows L2 RZ
section
variable {C : Ctx} {sp : Nat → Sp} {k : Nat} {N : List Str}
theorem Good.units {sc : Scope} {fn : Str → Bool} {E : EX} {X : Cx} (g : Good C sp k N sc fn E X) : X.A.units + 200 < cLine := by have := g.room.un; omega
theorem Good.nd' {sc : Scope} {fn : Str → Bool} {E : EX} {X : Cx} (g : Good C sp k N sc fn E X) : X.N.Nodup := g.hN ▸ g.nd
/-- the context of a comprehension's block -/
theorem Good.blk {sc : Scope} {fn : Str → Bool} {E : EX} {X : Cx} (g : Good C sp k N sc fn E X) (scope : Scope) (s : Shared) (H : Hp) (C' : Addr) (cl : List (Str × Addr)) (fp : List Addr) :
    Good C sp k N (relS scope sc) (fun x => scope.names.lookup x == some .cell) EX0 (X.blk s H scope (compEnvC scope cl C' X.env) fp) where
  hN := g.hN
  nd := g.nd
  hsc := by show relS scope X.env.scope = _; rw [g.hsc]
  fnE := rfl
  calm := g.calm
  room1 := g.room1
  blt := g.blt
  fns := g.fns
  csts := g.csts
  newb := g.newb
  mths := g.mths
  pass := fun σ pins H s e s' I h => by
    obtain ⟨_, _, _, _, _, _, _, _, _, _, _, _, z⟩ := h
    exact z.elim
theorem ao_of {ce : CE} {sc : Scope} {fn : Str → Bool} {op : BoolOp} {es : List Expr} {pos : Pos} (h : chkE C N ce sc fn (.BoolOp op es pos) = true) : ce.isAO = true := by
  cases ce <;> first | rfl | (simp [chkE] at h; done) | skip
  all_goals (unfold chkE at h; split at h <;> first | rfl | contradiction | cases h)
theorem pa_fs {sc : Scope} {fn : Str → Bool} {E : EX} {X : Cx} (g : Good C sp k N sc fn E X) : ∀ {fs : List Nat} {xs : List Expr}, chkFs C sc fs xs = true → ∃ ads : List Addr, ads.length = fs.length ∧ PA X xs (tRefs ads) ∧ ∀ (j f : Nat) (a : Addr), fs[j]? = some f → ads[j]? = some a → ∃ fd ps, W.keepIn X.K (.ref a) = true ∧ FnOk X.prog X.w X.K X.mg X.base (L2.CX X.prog X.w) k a fd ps (sp f) ∧ Binds X.K fd ps []
  | [], xs, h => by
    unfold chkFs at h
    split at h
    · exact ⟨[], rfl, pa_nil, fun j f a e => by simp at e⟩
    · cases h
  | f :: fs, xs, h => by
    unfold chkFs at h
    split at h
    · rename_i x p r
      simp only [Bool.and_eq_true, decide_eq_true_eq] at h
      obtain ⟨⟨⟨h1, h2⟩, h3⟩, h4⟩ := h
      obtain ⟨a, fd, ps, k1, k2, k3, k4⟩ := g.fns f x h1
      obtain ⟨ads, e1, e2, e3⟩ := pa_fs g h4
      refine ⟨a :: ads, by simp [e1], pa_cons (pe_glob (gl_of g.hsc h2) k1 (show RelV (.ref a) (.ref a) from rfl) (dbg_of h3).1) e2 rfl, fun j f' a' q1 q2 => ?_⟩
      cases j with
      | zero =>
        simp at q1 q2
        subst q1 q2
        exact ⟨fd, ps, k2, k3, k4⟩
      | succ j => exact e3 j f' a' (by simpa using q1) (by simpa using q2)
    · cases h
theorem pe_callAt {sc : Scope} {fn : Str → Bool} {E : EX} {X : Cx} {fs : List Nat} {xs : List Expr} {ei e1 : Expr} {es : List Expr} {ti : TE} {tr : TA} {p1 p2 pos : Pos} (g : Good C sp k N sc fn E X) (hf : chkFs C sc fs xs = true) (hi : PE X ei ti) (hs : notSlice ei = true) (ha : PA X (e1 :: es) tr)
    (he : starEach (e1 :: es) X.env = (false, eval e1 X.env) :: starEach es X.env) (hpl : (backTo pos (starEach es X.env)).any (·.1) = false) : PE X (.Call (.Subscript (.List xs p1) ei p2) (e1 :: es) [] pos) (tAt X.K fs ti fun f => tCallS (sp f) E tr) := by
  obtain ⟨ads, h1, h2, h3⟩ := pa_fs g hf
  have hp : PE X (.Subscript (.List xs p1) ei p2) (tOp (rIxL X.K) (tLst (tRefs ads)) ti) := pe_ix ix_list (pe_lst h2) hi (slice_of hs)
  refine ⟨fun pins s σ H Q I h => ?_⟩
  refine Call_ (thn (hp.run pins s σ H _ I (h ads h1)) fun u s1 ⟨v, H1, I1, r1, q1⟩ => ?_)
  obtain ⟨j, f, a, e2, e3, rfl, q⟩ := q1
  cases r1
  obtain ⟨fd, ps, k2, k3, k4⟩ := h3 j f a e2 e3
  refine PySem.W.callWith_K (h₀ := X.base) I.ok.mod.kin k2 (thn (ha.run pos pins s1 σ H1 _ I1 q) fun us s2 ⟨vs, H2, I2, r, q⟩ => ⟨I2.kIn, ?_⟩) he hpl
  exact run_fnS k3 g.room k4 (g.pass σ) I2 r q
theorem pe_callAtQ {sc : Scope} {fn : Str → Bool} {E : EX} {X : Cx} {fs : List Nat} {es : CEs} {e : Expr} {q : List Expr × Expr × List Expr} {ti : TE} {tr : TA} (g : Good C sp k N sc fn E X) (hq : atParts e = some q) (hf : chkFs C sc fs q.1 = true) (hi : PE X q.2.1 ti) (hs : notSlice q.2.1 = true) (hn : (!q.2.2.isEmpty) = true) (hst : chkEs C N es sc fn q.2.2 = true) (ha : PA X q.2.2 tr) : PE X e (tAt X.K fs ti fun f => tCallS (sp f) E tr) := by
  obtain ⟨p1, p2, pos, rfl⟩ := atParts_eq hq
  obtain ⟨xs, ei, ys⟩ := q
  have hst := chkEs_stars hst
  cases ys with
  | nil => simp at hn
  | cons y1 ys =>
    simp only [starsB, Bool.and_eq_true] at hst
    exact pe_callAt g hf hi hs ha (star_of hst.1 _ _) (stars_any hst.2 _ _)
mutual
theorem pe_all : ∀ (ce : CE) (sc : Scope) (fn : Str → Bool) (E : EX) (X : Cx) (e : Expr), Good C sp k N sc fn E X → chkE C N ce sc fn e = true → PE X e (tOf X.K sp E ce)
  | .var i, sc, fn, E, X, e, g, h => by
    cases e <;> simp only [chkE, Bool.false_eq_true, Bool.and_eq_true, decide_eq_true_eq] at h
    obtain ⟨⟨h1, h2⟩, h3⟩ := h
    exact pe_var (by rw [g.hN]; exact h1) (by rw [g.hsc]; exact vis_of h2) (dbg_of h3).1 (dbg_of h3).2
  | .bor i, sc, fn, E, X, e, g, h => by
    cases e <;> simp only [chkE, Bool.false_eq_true, Bool.and_eq_true, decide_eq_true_eq] at h
    obtain ⟨⟨h1, h2⟩, h3⟩ := h
    exact pe_var (by rw [g.hN]; exact h1) (by rw [g.hsc]; exact vis_of h2) (dbg_of h3).1 (dbg_of h3).2
  | .cst c, sc, fn, E, X, e, g, h => by
    cases e <;> simp only [chkE, Bool.false_eq_true] at h
    exact chkC_pe h
  | .glo x c, sc, fn, E, X, e, g, h => by
    cases e <;> simp only [chkE, Bool.false_eq_true, Bool.and_eq_true, decide_eq_true_eq] at h
    obtain ⟨⟨⟨h1, h2⟩, h3⟩, h4⟩ := h
    subst h1
    cases hc : C.cst x with
    | none => rw [hc] at h4; cases h4
    | some d =>
      rw [hc] at h4
      obtain rfl := chkCst_eq h4
      obtain ⟨u, h5, h6⟩ := g.csts x c hc
      exact pe_glob (gl_of g.hsc h2) h5 h6 (dbg_of h3).1
  | .bin op a b, sc, fn, E, X, e, g, h => by
    cases e <;> simp only [chkE, Bool.false_eq_true, Bool.and_eq_true] at h
    obtain ⟨⟨h1, h2⟩, h3⟩ := h
    rw [chkOp_eq h1]
    exact pe_op (op_bin op) (pe_all a sc fn E X _ g h2) (pe_all b sc fn E X _ g h3)
  | .neg a, sc, fn, E, X, e, g, h => by
    cases e <;> simp only [chkE, Bool.false_eq_true] at h
    rename_i op ea pos
    cases op <;> simp only [chkE, Bool.false_eq_true] at h
    exact pe_un un_neg (pe_all a sc fn E X _ g h)
  | .cmp op a b, sc, fn, E, X, e, g, h => by
    unfold chkE at h
    split at h
    · simp only [Bool.and_eq_true] at h
      obtain ⟨⟨⟨h1, h2⟩, h3⟩, h4⟩ := h
      rw [chkCmp_eq h1]
      exact pe_cmpR (op_cmp g.units op) (pe_all a sc fn E X _ g h3) (pe_all b sc fn E X _ g h4) (set_of h2 _)
    · cases h
  | .chn op op' a b c, sc, fn, E, X, e, g, h => by
    unfold chkE at h
    split at h
    · simp only [Bool.and_eq_true] at h
      obtain ⟨⟨⟨⟨⟨h1, h2⟩, h3⟩, h4⟩, h5⟩, h6⟩ := h
      rw [chkCmp_eq h1, chkCmp_eq h2]
      exact pe_chain (op_cmp g.units op) (op_cmp g.units op') (pe_all a sc fn E X _ g h4) (pe_all b sc fn E X _ g h5) (pe_all c sc fn E X _ g h6) (set_of h3 _)
    · cases h
  | .and a r, sc, fn, E, X, e, g, h => by
    unfold chkE at h
    split at h
    · simp only [Bool.and_eq_true] at h
      exact pe_and (pe_all a sc fn E X _ g h.1) (pe_all r sc fn E X _ g h.2)
    · cases h
  | .or a r, sc, fn, E, X, e, g, h => by
    unfold chkE at h
    split at h
    · simp only [Bool.and_eq_true] at h
      exact pe_or (pe_all a sc fn E X _ g h.1) (pe_all r sc fn E X _ g h.2)
    · cases h
  | .one a, sc, fn, E, X, e, g, h => by
    unfold chkE at h
    split at h
    · exact pe_one (pe_all a sc fn E X _ g h)
    · cases h
  | .not a, sc, fn, E, X, e, g, h => by
    unfold chkE at h
    split at h
    · exact pe_not (pe_all a sc fn E X _ g h)
    · cases h
  | .ite c a b, sc, fn, E, X, e, g, h => by
    unfold chkE at h
    split at h
    · simp only [Bool.and_eq_true] at h
      obtain ⟨⟨⟨h0, h1⟩, h2⟩, h3⟩ := h
      exact pe_ifExp (pt_all c sc fn E X _ g h0 h1) (pe_all a sc fn E X _ g h2) (pe_all b sc fn E X _ g h3)
    · cases h
  | .tup es, sc, fn, E, X, e, g, h => by
    unfold chkE at h
    split at h
    · exact pe_tup (pa_all es sc fn E X _ g h)
    · cases h
  | .lst es, sc, fn, E, X, e, g, h => by
    unfold chkE at h
    split at h
    · exact pe_lst (pa_all es sc fn E X _ g h)
    · cases h
  | .idx a b, sc, fn, E, X, e, g, h => by
    unfold chkE at h
    split at h
    · simp only [Bool.and_eq_true] at h
      exact pe_ix ix_data (pe_all a sc fn E X _ g h.1.2) (pe_all b sc fn E X _ g h.2) (slice_of h.1.1)
    · cases h
  | .slc a lo hi, sc, fn, E, X, e, g, h => by
    unfold chkE at h
    split at h
    · simp only [Bool.and_eq_true] at h
      exact pe_slice sl_data (pe_all a sc fn E X _ g h.1.1) (po_all lo sc fn E X _ g h.1.2) (po_all hi sc fn E X _ g h.2)
    · cases h
  | .rev a, sc, fn, E, X, e, g, h => by
    unfold chkE at h
    split at h
    · exact pe_revL (pe_all a sc fn E X _ g h)
    · cases h
  | .revT a, sc, fn, E, X, e, g, h => by
    unfold chkE at h
    split at h
    · exact pe_revT (pe_all a sc fn E X _ g h)
    · cases h
  | .call f es, sc, fn, E, X, e, g, h => by
    unfold chkE at h
    split at h
    · simp only [Bool.and_eq_true, decide_eq_true_eq] at h
      obtain ⟨⟨⟨h1, h2⟩, h3⟩, h4⟩ := h
      rename_i x _ xs _ 
      obtain ⟨a, fd, ps, k1, k2, k3, k4⟩ := g.fns f x h1
      have hst := chkEs_stars h4
      have ha := pa_all es sc fn E X _ g h4
      cases xs with
      | nil =>
        cases es with
        | nil => exact pe_callS0 k3 g.room (gl_of g.hsc h2) k1 k2 k4 g.pass (dbg_of h3).1
        | cons _ _ => simp [chkEs] at h4
      | cons x1 xs =>
        simp only [starsB, Bool.and_eq_true] at hst
        exact pe_callS k3 g.room (gl_of g.hsc h2) k1 k2 k4 g.pass ha (dbg_of h3).1 (star_of hst.1 _ _) (stars_any hst.2 _ _)
    · cases h
  | .callD f es, sc, fn, E, X, e, g, h => by
    unfold chkE at h
    split at h
    · simp only [Bool.and_eq_true, decide_eq_true_eq] at h
      obtain ⟨⟨⟨h1, h2⟩, h3⟩, h4⟩ := h
      rename_i x _ xs _
      obtain ⟨a, fd, ps, k1, k2, k3, k4⟩ := g.fns (1000 + f) x h1
      obtain ⟨hst, hne⟩ := chkEsD_stars h4
      have ha := pad_all es sc fn E X _ g h4
      cases xs with
      | nil => exact absurd rfl hne
      | cons x1 xs =>
        simp only [starsB, Bool.and_eq_true] at hst
        exact pe_callS k3 g.room (gl_of g.hsc h2) k1 k2 k4 g.pass ha (dbg_of h3).1 (star_of hst.1 _ _) (stars_any hst.2 _ _)
    · cases h
  | .callAt fs ix es, sc, fn, E, X, e, g, h => by
    unfold chkE at h
    cases hq : atParts e with
    | none => rw [hq] at h; cases h
    | some q =>
      rw [hq] at h
      simp only [Bool.and_eq_true] at h
      obtain ⟨⟨⟨⟨h1, h2⟩, h3⟩, h4⟩, h5⟩ := h
      exact pe_callAtQ g hq h1 (pe_all ix sc fn E X _ g h4) h2 h3 h5 (pa_all es sc fn E X _ g h5)
  | .bi b es, sc, fn, E, X, e, g, h => by
    unfold chkE at h
    split at h
    · simp only [Bool.and_eq_true, decide_eq_true_eq] at h
      obtain ⟨⟨⟨h1, h2⟩, h3⟩, h4⟩ := h
      subst h1
      rename_i _ xs _
      have hst := chkEs_stars h4
      have ha := pa_all es sc fn E X _ g h4
      cases xs with
      | nil => simp at h3
      | cons x1 xs =>
        simp only [starsB, Bool.and_eq_true] at hst
        exact bi_pe g.calm g.units (gl_of g.hsc h2) (g.blt _ b.mem) ha (star_of hst.1 _ _) (stars_any hst.2 _ _)
    · cases h
  | .meth m o es, sc, fn, E, X, e, g, h => by
    unfold chkE at h
    split at h
    · simp only [Bool.and_eq_true, decide_eq_true_eq] at h
      obtain ⟨⟨⟨⟨⟨⟨h1, h2⟩, h3⟩, h4⟩, h5⟩, h6⟩, h7⟩ := h
      subst h1
      rename_i eo apos xs pos
      have hst := chkEs_stars h7
      have ha := pa_all es sc fn E X _ g h7
      cases xs with
      | nil => simp at h4
      | cons x1 xs =>
        refine pe_bm m.pa m.slot m.ty (mt_data g.units m) (pe_all o sc fn E X _ g h6) ha (base_of h2 _) ?_ h3 ?_ ?_
        · rw [stars_all hst]
          show (true && true && decide _) = true
          simp only [List.length_nil, List.isEmpty_nil, if_true, Bool.true_and, decide_eq_true_eq]
          omega
        · simp only [starsB, Bool.and_eq_true] at hst
          exact star_of hst.1 _ _
        · simp only [starsB, Bool.and_eq_true] at hst
          exact stars_any hst.2 _ _
    · cases h
  | .rgl es, sc, fn, E, X, e, g, h => by
    unfold chkE at h
    split at h
    · simp only [Bool.and_eq_true, decide_eq_true_eq] at h
      obtain ⟨⟨⟨⟨h1, h2⟩, h3⟩, h4⟩, h5⟩ := h
      subst h1 h2
      exact pl_all es sc fn E X _ _ _ _ _ g h3 h4 h5
    · cases h
  | .rgt es, sc, fn, E, X, e, g, h => by
    unfold chkE at h
    split at h
    · simp only [Bool.and_eq_true, decide_eq_true_eq] at h
      obtain ⟨⟨⟨⟨⟨h1, h2⟩, h3⟩, h4⟩, h6⟩, h5⟩ := h
      subst h1 h2
      exact pe_tupRg g.calm (gl_of g.hsc h3) (g.blt _ (by decide +kernel)) (pr_all es sc fn E X _ _ _ g h4 (by simpa using h6) h5) rfl
    · cases h
  | .lc elt t it c vs, sc, fn, E, X, e, g, h => by
    unfold chkE at h
    split at h
    · simp only [Bool.and_eq_true] at h
      obtain ⟨⟨⟨⟨⟨h1, h2⟩, h3⟩, h4⟩, h5⟩, h6⟩ := h
      rename_i eelt tg iter ifs scope pos
      have key := pe_lc (X := X) (own := ownOf N vs) (pos := pos) (te := tOf X.K sp EX0 elt) (tt := tOfC X.K sp EX0 c) (g := tOfG X.K t) g.calm g.nd' (pi_all it sc fn E X tg iter g h2) (by rw [g.hN, g.hsc]; exact blkOk_by h1)
        (fun s H C' cl fp => pg_all (X := X.blk s H scope (compEnvC scope cl C' X.env) fp) (g.blk scope s H C' cl fp).calm (g.blk scope s H C' cl fp).hN g.nd (g.blk scope s H C' cl fp).hsc (g.blk scope s H C' cl fp).fnE h4)
        (fun s H C' cl fp => pts_all c _ _ EX0 _ ifs (g.blk scope s H C' cl fp) h5)
        (fun s H C' cl fp => pe_all elt _ _ EX0 _ eelt (g.blk scope s H C' cl fp) h6) (fun x => fold_of h3 _ x)
      rw [ownOf_snd] at key
      exact key
    · cases h
  | .lc2 elt t it c t1 it1 c1 vs vs1, sc, fn, E, X, e, g, h => by
    unfold chkE at h
    split at h
    · simp only [Bool.and_eq_true] at h
      obtain ⟨⟨⟨⟨⟨⟨⟨⟨⟨⟨h1, h1'⟩, h2⟩, h3⟩, h3'⟩, h4⟩, h5⟩, h6⟩, h7⟩, h8⟩, h9⟩ := h
      rename_i eelt tg iter ifs tg1 iter1 ifs1 scope pos
      have key := pe_lc2 (X := X) (own := ownOf N vs) (vs1 := vs1) (pos := pos) (te := tOf X.K sp EX0 elt) (tt := tOfC X.K sp EX0 c) (g := tOfG X.K t) (wi1 := tOfI X.K sp EX0 it1) (tt1 := tOfC X.K sp EX0 c1) (g1 := tOfG X.K t1) g.calm g.nd' (pi_all it sc fn E X tg iter g h2) (by rw [g.hN, g.hsc]; exact blkOk_by h1)
        (fun i hi => by rw [ownOf_snd]; simpa using List.all_eq_true.mp h1' i hi)
        (fun s H C' cl fp => pg_all (X := X.blk s H scope (compEnvC scope cl C' X.env) fp) (g.blk scope s H C' cl fp).calm (g.blk scope s H C' cl fp).hN g.nd (g.blk scope s H C' cl fp).hsc (g.blk scope s H C' cl fp).fnE h4)
        (fun s H C' cl fp => pts_all c _ _ EX0 _ ifs (g.blk scope s H C' cl fp) h5)
        (fun s H C' cl fp => pi_all it1 _ _ EX0 _ tg1 iter1 (g.blk scope s H C' cl fp) h6)
        (fun s H C' cl fp => pg_all (X := X.blk s H scope (compEnvC scope cl C' X.env) fp) (g.blk scope s H C' cl fp).calm (g.blk scope s H C' cl fp).hN g.nd (g.blk scope s H C' cl fp).hsc (g.blk scope s H C' cl fp).fnE h7)
        (fun s H C' cl fp => pts_all c1 _ _ EX0 _ ifs1 (g.blk scope s H C' cl fp) h8)
        (fun s H C' cl fp => pe_all elt _ _ EX0 _ eelt (g.blk scope s H C' cl fp) h9) (fun x => fold_of h3 _ x) (fun _ x => fold_of h3' _ x)
      rw [ownOf_snd] at key
      exact key
    · cases h
  | .lset a, sc, fn, E, X, e, g, h => by
    unfold chkE at h
    split at h
    · simp only [Bool.and_eq_true, decide_eq_true_eq] at h
      obtain ⟨⟨⟨⟨⟨h1, h2⟩, h3⟩, h4⟩, h5⟩, h6⟩ := h
      subst h1 h2
      exact pe_lset g.calm g.units (gl_of g.hsc h3) (g.blt _ (by decide +kernel)) (gl_of g.hsc h4) (g.blt _ (by decide +kernel)) (pe_all a sc fn E X _ g h6) (star_of h5 _ _)
    · cases h
  | .sset a, sc, fn, E, X, e, g, h => by
    unfold chkE at h
    split at h
    · simp only [Bool.and_eq_true, decide_eq_true_eq] at h
      obtain ⟨⟨⟨⟨⟨h1, h2⟩, h3⟩, h4⟩, h5⟩, h6⟩ := h
      subst h1 h2
      exact pe_sset g.calm g.units (gl_of g.hsc h3) (g.blt _ (by decide +kernel)) (gl_of g.hsc h4) (g.blt _ (by decide +kernel)) (pe_all a sc fn E X _ g h6) (star_of h5 _ _)
    · cases h
  | .isi t a, sc, fn, E, X, e, g, h => by
    unfold chkE at h
    split at h
    · simp only [Bool.and_eq_true, decide_eq_true_eq] at h
      obtain ⟨⟨⟨⟨⟨h1, h2⟩, h3⟩, h4⟩, h5⟩, h6⟩ := h
      subst h1 h2
      have hc : ∀ po, PE X (.Name (t.n : Str) po) (tC (.ty t.n)) := fun po => pe_bltn (gl_of g.hsc h4) (g.blt _ t.mem) t.boot (show RelV (.ty t.n) (.type t.n) from rfl) t.nn.1 t.nn.2
      exact pe_callB (cr_isi t) (gl_of g.hsc h3) (g.blt _ (by decide +kernel)) (by decide +kernel) (pa_cons (pe_all a sc fn E X _ g h6) (pa_cons (hc _) pa_nil) (star_of h5 _ _)) (by decide) (by decide) (star_of h5 _ _) rfl
    · cases h
  | .fld i j, sc, fn, E, X, e, g, h => by
    unfold chkE at h
    split at h
    · simp only [Bool.and_eq_true, decide_eq_true_eq] at h
      obtain ⟨⟨h1, h2⟩, ⟨v1, v2⟩, v3⟩ := h
      subst h2
      exact pe_fld (pe_var (by rw [g.hN]; exact v1) (by rw [g.hsc]; exact vis_of v2) (dbg_of v3).1 (dbg_of v3).2) rfl
    · cases h
  | .mth f m o es, sc, fn, E, X, e, g, h => by
    unfold chkE at h
    split at h
    · rename_i eo y apos xs pos
      simp only [Bool.and_eq_true, decide_eq_true_eq] at h
      obtain ⟨⟨⟨⟨⟨⟨h1, h2⟩, h3⟩, h6⟩, h4⟩, h7⟩, h5⟩ := h
      subst h1
      obtain ⟨a, fd, ps, k1, k2, k3, k4⟩ := g.mths f _ h2
      have hst := chkEs_stars h5
      have ha := pa_all es sc fn E X _ g h5
      have ho := pe_all o sc fn E X _ g h7
      cases xs with
      | nil =>
        cases es with
        | nil => exact pe_methSS0 ho k1 k2 k3 g.room k4 g.pass (meth_ht (baseC_of h6 _) rfl h3)
        | cons _ _ => simp [chkEs] at h5
      | cons x1 xs =>
        have hform : methodCallForm ((x1 :: xs).length + ([] : List Keyword).length) (backTo pos (starEach (x1 :: xs) X.env)) (backToKw pos (keywordEach [] X.env)) = true := by
          unfold methodCallForm
          rw [stars_all hst]
          show (true && true && decide _) = true
          simp only [List.length_nil, Bool.true_and, decide_eq_true_eq]
          have : (x1 :: xs).length < 20 := h4
          have e0 : (if (backToKw pos (keywordEach [] X.env)).isEmpty = true then 0 else 1) = 0 := rfl
          omega
        simp only [starsB, Bool.and_eq_true] at hst
        exact pe_methSS ho k1 k2 k3 g.room k4 g.pass ha (star_of hst.1 _ _) (stars_any hst.2 _ _) (meth_ht (baseC_of h6 _) hform h3)
    · cases h
  | .new es, sc, fn, E, X, e, g, h => by
    unfold chkE at h
    split at h
    · rename_i x p xs pos
      simp only [Bool.and_eq_true, decide_eq_true_eq] at h
      obtain ⟨⟨⟨⟨h0, h1⟩, h2⟩, h3⟩, h4⟩ := h
      subst h1
      obtain ⟨f, fd, ps, k1, k2, k3, k4⟩ := g.newb h0
      have hst := chkEs_stars h4
      have ha := pa_all es sc fn E X _ g h4
      cases xs with
      | nil => simp at h3
      | cons x1 xs =>
        simp only [starsB, Bool.and_eq_true] at hst
        exact pe_makeS k2 k3 g.room1 (gl_of g.hsc h2) k1 k4 g.pass ha (by decide) (star_of hst.1 _ _) (stars_any hst.2 _ _)
    · cases h
  | .eqO ne f a b, sc, fn, E, X, e, g, h => by
    unfold chkE at h
    split at h
    · simp only [Bool.and_eq_true, decide_eq_true_eq] at h
      obtain ⟨⟨⟨⟨h1, h2⟩, h3⟩, h4⟩, h5⟩ := h
      obtain ⟨c, fd, ps, k1, k2, k3, k4⟩ := g.mths f _ h3
      rw [chkCmp_eq h1]
      cases ne with
      | true => exact pe_cmpR (op_neO k3 g.room1 k2.at_ k2.fn k4) (pe_all a sc fn E X _ g h4) (pe_all b sc fn E X _ g h5) (set_of h2 _)
      | false => exact pe_cmpR (op_eqO k3 g.room k2.at_ k2.fn k4) (pe_all a sc fn E X _ g h4) (pe_all b sc fn E X _ g h5) (set_of h2 _)
    · cases h
  | .isB i a, sc, fn, E, X, e, g, h => by
    unfold chkE at h
    split at h
    · simp only [Bool.and_eq_true, decide_eq_true_eq] at h
      obtain ⟨⟨⟨⟨⟨⟨h0, h1⟩, h2⟩, h3⟩, h4⟩, h5⟩, h6⟩ := h
      subst h1 h2
      obtain ⟨f, fd, ps, k1, _⟩ := g.newb h0
      have hc : ∀ po, PE X (.Name "Band" po) (tC (.ref (bandC X.K))) := fun po => pe_glob (gl_of g.hsc h4) k1 (show RelV (.ref _) (.ref _) from rfl) (by decide)
      exact pe_callB cr_isB (gl_of g.hsc h3) (g.blt _ (by decide +kernel)) (by decide +kernel) (pa_cons (pe_all a sc fn E X _ g h6) (pa_cons (hc _) pa_nil) (star_of h5 _ _)) (by decide) (by decide) (star_of h5 _ _) rfl
    · cases h
  | .lenO f i, sc, fn, E, X, e, g, h => by
    unfold chkE at h
    split at h
    · rename_i z p0 x p pos
      simp only [Bool.and_eq_true, decide_eq_true_eq] at h
      obtain ⟨⟨⟨h1, h2⟩, h3⟩, ⟨v1, v2⟩, v3⟩ := h
      obtain ⟨a, fd, ps, k1, k2, k3, k4⟩ := g.mths f _ h3
      have ho : PE X (.Name x p) (tVar i) := pe_var (by rw [g.hN]; exact v1) (by rw [g.hsc]; exact vis_of v2) (dbg_of v3).1 (dbg_of v3).2
      exact pe_lenOS h1 ho (gl_of g.hsc h2) (g.blt _ (by rw [h1]; decide +kernel)) k2.at_ k2.fn k3 g.room1 k4 g.pass rfl
    · cases h
theorem pt_all : ∀ (ce : CE) (sc : Scope) (fn : Str → Bool) (E : EX) (X : Cx) (e : Expr), Good C sp k N sc fn E X → ce.isTest = true → chkE C N ce sc fn e = true → PT X e (tOfT X.K sp E ce)
  | .and a r, sc, fn, E, X, e, g, ht, h => (pw_all (.and a r) sc fn E X e g ht rfl h).pt
  | .or a r, sc, fn, E, X, e, g, ht, h => (pw_all (.or a r) sc fn E X e g ht rfl h).pt
  | .one a, sc, fn, E, X, e, g, ht, h => (pw_all (.one a) sc fn E X e g ht rfl h).pt
  | .not a, sc, fn, E, X, e, g, ht, h => by
    unfold chkE at h
    split at h
    · exact pt_not (pt_all a sc fn E X _ g (by simpa [CE.isTest] using ht) h)
    · cases h
  | .var i, sc, fn, E, X, e, g, ht, h => pt_val (pe_all (.var i) sc fn E X e g h) (plain_of (by
    cases e <;> simp only [chkE, Bool.false_eq_true] at h
    rfl) _)
  | .cst c, sc, fn, E, X, e, g, ht, h => pt_val (pe_all (.cst c) sc fn E X e g h) (plain_of (by
    cases e <;> simp only [chkE, Bool.false_eq_true] at h
    rfl) _)
  | .cmp op a b, sc, fn, E, X, e, g, ht, h => by
    unfold chkE at h
    split at h
    · simp only [Bool.and_eq_true] at h
      obtain ⟨⟨⟨h1, h2⟩, h3⟩, h4⟩ := h
      rw [chkCmp_eq h1]
      exact pt_cmpR (op_cmp g.units op) (pe_all a sc fn E X _ g h3) (pe_all b sc fn E X _ g h4) (set_of h2 _)
    · cases h
  | .chn op op' a b c, sc, fn, E, X, e, g, ht, h => by
    unfold chkE at h
    split at h
    · simp only [Bool.and_eq_true] at h
      obtain ⟨⟨⟨⟨⟨h1, h2⟩, h3⟩, h4⟩, h5⟩, h6⟩ := h
      rw [chkCmp_eq h1, chkCmp_eq h2]
      exact pt_chain (op_cmp g.units op) (op_cmp g.units op') (pe_all a sc fn E X _ g h4) (pe_all b sc fn E X _ g h5) (pe_all c sc fn E X _ g h6) (set_of h3 _)
    · cases h
  | .call f es, sc, fn, E, X, e, g, ht, h => pt_val (pe_all (.call f es) sc fn E X e g h) (plain_of (by
    cases e <;> simp only [chkE, Bool.false_eq_true] at h
    rfl) _)
  | .bi b es, sc, fn, E, X, e, g, ht, h => pt_val (pe_all (.bi b es) sc fn E X e g h) (plain_of (by
    cases e <;> simp only [chkE, Bool.false_eq_true] at h
    rfl) _)
  | .isi t a, sc, fn, E, X, e, g, ht, h => pt_val (pe_all (.isi t a) sc fn E X e g h) (plain_of (by
    cases e <;> simp only [chkE, Bool.false_eq_true] at h
    rfl) _)
  | .idx a b, sc, fn, E, X, e, g, ht, h => pt_val (pe_all (.idx a b) sc fn E X e g h) (plain_of (by
    cases e <;> simp only [chkE, Bool.false_eq_true] at h
    rfl) _)
  | .eqO ne f a b, sc, fn, E, X, e, g, ht, h => by
    unfold chkE at h
    split at h
    · simp only [Bool.and_eq_true, decide_eq_true_eq] at h
      obtain ⟨⟨⟨⟨h1, h2⟩, h3⟩, h4⟩, h5⟩ := h
      obtain ⟨c, fd, ps, k1, k2, k3, k4⟩ := g.mths f _ h3
      rw [chkCmp_eq h1]
      cases ne with
      | true => exact pt_cmpR (op_neO k3 g.room1 k2.at_ k2.fn k4) (pe_all a sc fn E X _ g h4) (pe_all b sc fn E X _ g h5) (set_of h2 _)
      | false => exact pt_cmpR (op_eqO k3 g.room k2.at_ k2.fn k4) (pe_all a sc fn E X _ g h4) (pe_all b sc fn E X _ g h5) (set_of h2 _)
    · cases h
  | .isB i a, sc, fn, E, X, e, g, ht, h => pt_val (pe_all (.isB i a) sc fn E X e g h) (plain_of (by
    cases e <;> simp only [chkE, Bool.false_eq_true] at h
    rfl) _)
  | .new _, _, _, _, _, _, _, ht, _ => by simp [CE.isTest] at ht
  | .bor _, _, _, _, _, _, _, ht, _ => by simp [CE.isTest] at ht
  | .glo _ _, _, _, _, _, _, _, ht, _ => by simp [CE.isTest] at ht
  | .bin _ _ _, _, _, _, _, _, _, ht, _ => by simp [CE.isTest] at ht
  | .neg _, _, _, _, _, _, _, ht, _ => by simp [CE.isTest] at ht
  | .ite _ _ _, _, _, _, _, _, _, ht, _ => by simp [CE.isTest] at ht
  | .tup _, _, _, _, _, _, _, ht, _ => by simp [CE.isTest] at ht
  | .lst _, _, _, _, _, _, _, ht, _ => by simp [CE.isTest] at ht
  | .slc _ _ _, _, _, _, _, _, _, ht, _ => by simp [CE.isTest] at ht
  | .rev _, _, _, _, _, _, _, ht, _ => by simp [CE.isTest] at ht
  | .revT _, _, _, _, _, _, _, ht, _ => by simp [CE.isTest] at ht
  | .meth _ _ _, _, _, _, _, _, _, ht, _ => by simp [CE.isTest] at ht
  | .rgl _, _, _, _, _, _, _, ht, _ => by simp [CE.isTest] at ht
  | .rgt _, _, _, _, _, _, _, ht, _ => by simp [CE.isTest] at ht
  | .lc _ _ _ _ _, _, _, _, _, _, _, ht, _ => by simp [CE.isTest] at ht
  | .lc2 _ _ _ _ _ _ _ _ _, _, _, _, _, _, _, ht, _ => by simp [CE.isTest] at ht
  | .sset _, _, _, _, _, _, _, ht, _ => by simp [CE.isTest] at ht
  | .lset _, _, _, _, _, _, _, ht, _ => by simp [CE.isTest] at ht
  | .callAt _ _ _, _, _, _, _, _, _, ht, _ => by simp [CE.isTest] at ht
  | .callD _ _, _, _, _, _, _, _, ht, _ => by simp [CE.isTest] at ht
  | .fld _ _, _, _, _, _, _, _, ht, _ => by simp [CE.isTest] at ht
  | .mth _ _ _ _, _, _, _, _, _, _, ht, _ => by simp [CE.isTest] at ht
  | .lenO _ _, _, _, _, _, _, _, ht, _ => by simp [CE.isTest] at ht
theorem pw_all : ∀ (ce : CE) (sc : Scope) (fn : Str → Bool) (E : EX) (X : Cx) (e : Expr), Good C sp k N sc fn E X → ce.isTest = true → ce.isAO = true → chkE C N ce sc fn e = true → PW X e (tOfT X.K sp E ce)
  | .and a r, sc, fn, E, X, e, g, ht, ho, h => by
    unfold chkE at h
    split at h
    · simp only [Bool.and_eq_true] at h
      simp only [CE.isTest, Bool.and_eq_true] at ht
      exact pw_and (pt_all a sc fn E X _ g ht.1 h.1) (pw_all r sc fn E X _ g ht.2 (ao_of h.2) h.2)
    · cases h
  | .or a r, sc, fn, E, X, e, g, ht, ho, h => by
    unfold chkE at h
    split at h
    · simp only [Bool.and_eq_true] at h
      simp only [CE.isTest, Bool.and_eq_true] at ht
      exact pw_or (pt_all a sc fn E X _ g ht.1 h.1) (pw_all r sc fn E X _ g ht.2 (ao_of h.2) h.2)
    · cases h
  | .one a, sc, fn, E, X, e, g, ht, ho, h => by
    unfold chkE at h
    split at h
    · rename_i op ea pos
      have ht' : a.isTest = true := by simpa [CE.isTest] using ht
      cases op with
      | And => exact pw_and1 (pt_all a sc fn E X _ g ht' h)
      | Or => exact pw_or1 (pt_all a sc fn E X _ g ht' h)
    · cases h
  | .not _, _, _, _, _, _, _, _, ho, _ => by simp [CE.isAO] at ho
  | .var _, _, _, _, _, _, _, _, ho, _ => by simp [CE.isAO] at ho
  | .cst _, _, _, _, _, _, _, _, ho, _ => by simp [CE.isAO] at ho
  | .cmp _ _ _, _, _, _, _, _, _, _, ho, _ => by simp [CE.isAO] at ho
  | .chn _ _ _ _ _, _, _, _, _, _, _, _, ho, _ => by simp [CE.isAO] at ho
  | .call _ _, _, _, _, _, _, _, _, ho, _ => by simp [CE.isAO] at ho
  | .bi _ _, _, _, _, _, _, _, _, ho, _ => by simp [CE.isAO] at ho
  | .isi _ _, _, _, _, _, _, _, _, ho, _ => by simp [CE.isAO] at ho
  | .idx _ _, _, _, _, _, _, _, _, ho, _ => by simp [CE.isAO] at ho
  | .eqO _ _ _ _, _, _, _, _, _, _, _, ho, _ => by simp [CE.isAO] at ho
  | .isB _ _, _, _, _, _, _, _, _, ho, _ => by simp [CE.isAO] at ho
  | .new _, _, _, _, _, _, _, _, ho, _ => by simp [CE.isAO] at ho
  | .bor _, _, _, _, _, _, _, _, ho, _ => by simp [CE.isAO] at ho
  | .glo _ _, _, _, _, _, _, _, _, ho, _ => by simp [CE.isAO] at ho
  | .bin _ _ _, _, _, _, _, _, _, _, ho, _ => by simp [CE.isAO] at ho
  | .neg _, _, _, _, _, _, _, _, ho, _ => by simp [CE.isAO] at ho
  | .ite _ _ _, _, _, _, _, _, _, _, ho, _ => by simp [CE.isAO] at ho
  | .tup _, _, _, _, _, _, _, _, ho, _ => by simp [CE.isAO] at ho
  | .lst _, _, _, _, _, _, _, _, ho, _ => by simp [CE.isAO] at ho
  | .slc _ _ _, _, _, _, _, _, _, _, ho, _ => by simp [CE.isAO] at ho
  | .rev _, _, _, _, _, _, _, _, ho, _ => by simp [CE.isAO] at ho
  | .revT _, _, _, _, _, _, _, _, ho, _ => by simp [CE.isAO] at ho
  | .meth _ _ _, _, _, _, _, _, _, _, ho, _ => by simp [CE.isAO] at ho
  | .rgl _, _, _, _, _, _, _, _, ho, _ => by simp [CE.isAO] at ho
  | .rgt _, _, _, _, _, _, _, _, ho, _ => by simp [CE.isAO] at ho
  | .lc _ _ _ _ _, _, _, _, _, _, _, _, ho, _ => by simp [CE.isAO] at ho
  | .lc2 _ _ _ _ _ _ _ _ _, _, _, _, _, _, _, _, ho, _ => by simp [CE.isAO] at ho
  | .sset _, _, _, _, _, _, _, _, ho, _ => by simp [CE.isAO] at ho
  | .lset _, _, _, _, _, _, _, _, ho, _ => by simp [CE.isAO] at ho
  | .callAt _ _ _, _, _, _, _, _, _, _, ho, _ => by simp [CE.isAO] at ho
  | .callD _ _, _, _, _, _, _, _, _, ho, _ => by simp [CE.isAO] at ho
  | .fld _ _, _, _, _, _, _, _, _, ho, _ => by simp [CE.isAO] at ho
  | .mth _ _ _ _, _, _, _, _, _, _, _, ho, _ => by simp [CE.isAO] at ho
  | .lenO _ _, _, _, _, _, _, _, _, ho, _ => by simp [CE.isAO] at ho
theorem pa_all : ∀ (es : CEs) (sc : Scope) (fn : Str → Bool) (E : EX) (X : Cx) (xs : List Expr), Good C sp k N sc fn E X → chkEs C N es sc fn xs = true → PA X xs (tOfs X.K sp E es)
  | .nil, sc, fn, E, X, xs, g, h => by
    unfold chkEs at h
    split at h
    · exact pa_nil
    · cases h
  | .cons e r, sc, fn, E, X, xs, g, h => by
    unfold chkEs at h
    split at h
    · simp only [Bool.and_eq_true] at h
      exact pa_cons (pe_all e sc fn E X _ g h.1.2) (pa_all r sc fn E X _ g h.2) (star_of h.1.1 _ _)
    · cases h
theorem pad_all : ∀ (es : CEs) (sc : Scope) (fn : Str → Bool) (E : EX) (X : Cx) (xs : List Expr), Good C sp k N sc fn E X → chkEsD C N es sc fn xs = true → PA X xs (tOfsD X.K sp E es)
  | .nil, sc, fn, E, X, xs, g, h => by
    unfold chkEsD at h
    split at h
    · exact pa_cons pe_dnewT pa_nil rfl
    · cases h
  | .cons e r, sc, fn, E, X, xs, g, h => by
    unfold chkEsD at h
    split at h
    · simp only [Bool.and_eq_true] at h
      exact pa_cons (pe_all e sc fn E X _ g h.1.2) (pad_all r sc fn E X _ g h.2) (star_of h.1.1 _ _)
    · cases h
theorem po_all : ∀ (o : CO) (sc : Scope) (fn : Str → Bool) (E : EX) (X : Cx) (x : Option Expr), Good C sp k N sc fn E X → chkO C N o sc fn x = true → PO X x (tOfO X.K sp E o)
  | .none, sc, fn, E, X, x, g, h => by
    unfold chkO at h
    split at h
    · exact po_none
    · cases h
  | .some e, sc, fn, E, X, x, g, h => by
    unfold chkO at h
    split at h
    · exact po_some (pe_all e sc fn E X _ g h)
    · cases h
theorem pts_all : ∀ (o : CO) (sc : Scope) (fn : Str → Bool) (E : EX) (X : Cx) (xs : List Expr), Good C sp k N sc fn E X → chkIf C N o sc fn xs = true → PTs X xs (tOfC X.K sp E o)
  | .none, sc, fn, E, X, x, g, h => by
    unfold chkIf at h
    split at h
    · exact pts_nil
    · cases h
  | .some e, sc, fn, E, X, x, g, h => by
    unfold chkIf at h
    split at h
    · simp only [Bool.and_eq_true] at h
      exact pts_one (pt_all e sc fn E X _ g h.1 h.2)
    · cases h
theorem pr_all : ∀ (es : CEs) (sc : Scope) (fn : Str → Bool) (E : EX) (X : Cx) (xs : List Expr) (p pos : Pos), Good C sp k N sc fn E X → glB sc "range" = true → es.is3 = false → chkR C N es sc fn xs = true → PRg X (.Call (.Name "range" p) xs [] pos) (tOfR X.K sp E es)
  | .nil, sc, fn, E, X, xs, p, pos, g, h1, h0, h => by simp [chkR] at h
  | .cons a .nil, sc, fn, E, X, xs, p, pos, g, h1, h0, h => by
    unfold chkR at h
    split at h
    · simp only [Bool.and_eq_true] at h
      exact prg_1 (gl_of g.hsc h1) (g.blt _ (by decide +kernel)) (pe_all a sc fn E X _ g h.2) (star_of h.1 _ _)
    · cases h
  | .cons a (.cons b .nil), sc, fn, E, X, xs, p, pos, g, h1, h0, h => by
    unfold chkR at h
    split at h
    · simp only [Bool.and_eq_true] at h
      obtain ⟨⟨⟨h2, h3⟩, h4⟩, h5⟩ := h
      exact prg_2 (gl_of g.hsc h1) (g.blt _ (by decide +kernel)) (pe_all a sc fn E X _ g h4) (pe_all b sc fn E X _ g h5) (star_of h2 _ _) (star_of h3 _ _) (stars_any (by simp [starsB, h3]) _ _)
    · cases h
  | .cons _ (.cons _ (.cons _ _)), sc, fn, E, X, xs, p, pos, g, h1, h0, h => by simp [CEs.is3] at h0
theorem pl_all : ∀ (es : CEs) (sc : Scope) (fn : Str → Bool) (E : EX) (X : Cx) (xs : List Expr) (p pos p2 pos2 : Pos), Good C sp k N sc fn E X → glB sc "list" = true → glB sc "range" = true → chkR C N es sc fn xs = true → PE X (.Call (.Name "list" p2) [.Call (.Name "range" p) xs [] pos] [] pos2) (tOfL X.K sp E es)
  | .nil, sc, fn, E, X, xs, p, pos, p2, pos2, g, h0, h1, h => by simp [chkR] at h
  | .cons a .nil, sc, fn, E, X, xs, p, pos, p2, pos2, g, h0, h1, h => by
    unfold chkR at h
    split at h
    · simp only [Bool.and_eq_true] at h
      exact pe_listRg g.calm (gl_of g.hsc h0) (g.blt _ (by decide +kernel)) (prg_1 (gl_of g.hsc h1) (g.blt _ (by decide +kernel)) (pe_all a sc fn E X _ g h.2) (star_of h.1 _ _)) rfl
    · cases h
  | .cons a (.cons b .nil), sc, fn, E, X, xs, p, pos, p2, pos2, g, h0, h1, h => by
    unfold chkR at h
    split at h
    · simp only [Bool.and_eq_true] at h
      obtain ⟨⟨⟨h2, h3⟩, h4⟩, h5⟩ := h
      exact pe_listRg g.calm (gl_of g.hsc h0) (g.blt _ (by decide +kernel)) (prg_2 (gl_of g.hsc h1) (g.blt _ (by decide +kernel)) (pe_all a sc fn E X _ g h4) (pe_all b sc fn E X _ g h5) (star_of h2 _ _) (star_of h3 _ _) (stars_any (by simp [starsB, h3]) _ _)) rfl
    · cases h
  | .cons a (.cons b (.cons c .nil)), sc, fn, E, X, xs, p, pos, p2, pos2, g, h0, h1, h => by
    unfold chkR at h
    split at h
    · simp only [Bool.and_eq_true] at h
      obtain ⟨⟨⟨⟨⟨h2, h3⟩, h4⟩, h5⟩, h6⟩, h7⟩ := h
      rename_i x y z
      have sz : ∀ env, starEach [z] env = (false, eval z env) :: [] := star_of h4 []
      have sb : ∀ env, starEach [y, z] env = (false, eval y env) :: starEach [z] env := star_of h3 [z]
      have sa : ∀ env, starEach [x, y, z] env = (false, eval x env) :: starEach [y, z] env := star_of h2 [y, z]
      exact pe_listRg3 g.calm (gl_of g.hsc h0) (g.blt _ (by decide +kernel)) (gl_of g.hsc h1) (g.blt _ (by decide +kernel)) (pa_cons (pe_all a sc fn E X _ g h5) (pa_cons (pe_all b sc fn E X _ g h6) (pa_cons (pe_all c sc fn E X _ g h7) pa_nil (sz _)) (sb _)) (sa _)) (sa _) (stars_any (by simp [starsB, h3, h4]) _ _)
    · cases h
  | .cons _ (.cons _ (.cons _ (.cons _ _))), sc, fn, E, X, xs, p, pos, p2, pos2, g, h0, h1, h => by simp [chkR] at h
theorem pn_all : ∀ (es : CEs) (sc : Scope) (fn : Str → Bool) (E : EX) (X : Cx) (tg : Expr) (xs : List Expr) (p pos : Pos), Good C sp k N sc fn E X → glB sc "range" = true → chkR C N es sc fn xs = true → PI X tg (.Call (.Name "range" p) xs [] pos) (tOfN X.K sp E es)
  | .nil, sc, fn, E, X, tg, xs, p, pos, g, h1, h => by simp [chkR] at h
  | .cons a .nil, sc, fn, E, X, tg, xs, p, pos, g, h1, h => by
    unfold chkR at h
    split at h
    · simp only [Bool.and_eq_true] at h
      have st : ∀ env, starEach [_] env = _ := star_of h.1 []
      exact pi_range1 (gl_of g.hsc h1) (g.blt _ (by decide +kernel)) (pa_cons (pe_all a sc fn E X _ g h.2) pa_nil (st _)) (st _)
    · cases h
  | .cons a (.cons b .nil), sc, fn, E, X, tg, xs, p, pos, g, h1, h => by
    unfold chkR at h
    split at h
    · simp only [Bool.and_eq_true] at h
      obtain ⟨⟨⟨h2, h3⟩, h4⟩, h5⟩ := h
      rename_i x y
      have sb : ∀ env, starEach [y] env = (false, eval y env) :: [] := star_of h3 []
      have sa : ∀ env, starEach [x, y] env = (false, eval x env) :: starEach [y] env := star_of h2 [y]
      exact pi_range2 (gl_of g.hsc h1) (g.blt _ (by decide +kernel)) (pa_cons (pe_all a sc fn E X _ g h4) (pa_cons (pe_all b sc fn E X _ g h5) pa_nil (sb _)) (sa _)) (by rw [sa, sb]) (sb _)
    · cases h
  | .cons a (.cons b (.cons c .nil)), sc, fn, E, X, tg, xs, p, pos, g, h1, h => by
    unfold chkR at h
    split at h
    · simp only [Bool.and_eq_true] at h
      obtain ⟨⟨⟨⟨⟨h2, h3⟩, h4⟩, h5⟩, h6⟩, h7⟩ := h
      rename_i x y z
      have sz : ∀ env, starEach [z] env = (false, eval z env) :: [] := star_of h4 []
      have sb : ∀ env, starEach [y, z] env = (false, eval y env) :: starEach [z] env := star_of h3 [z]
      have sa : ∀ env, starEach [x, y, z] env = (false, eval x env) :: starEach [y, z] env := star_of h2 [y, z]
      exact pi_range3 (gl_of g.hsc h1) (g.blt _ (by decide +kernel)) (pa_cons (pe_all a sc fn E X _ g h5) (pa_cons (pe_all b sc fn E X _ g h6) (pa_cons (pe_all c sc fn E X _ g h7) pa_nil (sz _)) (sb _)) (sa _)) (sa _) (stars_any (by simp [starsB, h3, h4]) _ _)
    · cases h
  | .cons _ (.cons _ (.cons _ (.cons _ _))), sc, fn, E, X, tg, xs, p, pos, g, h1, h => by simp [chkR] at h
theorem pi_all : ∀ (i : CI) (sc : Scope) (fn : Str → Bool) (E : EX) (X : Cx) (tg e : Expr), Good C sp k N sc fn E X → chkI C N i sc fn tg e = true → PI X tg e (tOfI X.K sp E i)
  | .lst a, sc, fn, E, X, tg, e, g, h => pi_list (pe_all a sc fn E X e g (by simpa [chkI] using h))
  | .tup a, sc, fn, E, X, tg, e, g, h => pi_tup (pe_all a sc fn E X e g (by simpa [chkI] using h))
  | .str a, sc, fn, E, X, tg, e, g, h => pi_str (pe_all a sc fn E X e g (by simpa [chkI] using h))
  | .rng es, sc, fn, E, X, tg, e, g, h => by
    unfold chkI at h
    split at h
    · simp only [Bool.and_eq_true, decide_eq_true_eq] at h
      obtain ⟨⟨h1, h2⟩, h3⟩ := h
      subst h1
      exact pn_all es sc fn E X tg _ _ _ g h2 h3
    · cases h
  | .enum a, sc, fn, E, X, tg, e, g, h => by
    unfold chkI at h
    split at h
    · simp only [Bool.and_eq_true, decide_eq_true_eq] at h
      obtain ⟨⟨⟨⟨h1, h2⟩, h3⟩, h4⟩, h5⟩ := h
      subst h1
      cases tg <;> simp only [isTupE, Bool.false_eq_true] at h4
      have st : ∀ env, starEach [_] env = _ := star_of h3 []
      exact pi_enum (gl_of g.hsc h2) (g.blt _ (by decide +kernel)) (pa_cons (pe_all a sc fn E X _ g h5) pa_nil (st _)) (st _)
    · cases h
  | .enumS a, sc, fn, E, X, tg, e, g, h => by
    unfold chkI at h
    split at h
    · simp only [Bool.and_eq_true, decide_eq_true_eq] at h
      obtain ⟨⟨⟨⟨h1, h2⟩, h3⟩, h4⟩, h5⟩ := h
      subst h1
      cases tg <;> simp only [isTupE, Bool.false_eq_true] at h4
      have st : ∀ env, starEach [_] env = _ := star_of h3 []
      exact pi_enumS (gl_of g.hsc h2) (g.blt _ (by decide +kernel)) (pa_cons (pe_all a sc fn E X _ g h5) pa_nil (st _)) (st _)
    · cases h
  | .zip a b, sc, fn, E, X, tg, e, g, h => by
    unfold chkI at h
    split at h
    · simp only [Bool.and_eq_true, decide_eq_true_eq] at h
      obtain ⟨⟨⟨⟨⟨⟨h1, h2⟩, h3⟩, h4⟩, h5⟩, h6⟩, h7⟩ := h
      subst h1
      cases tg <;> simp only [isTupE, Bool.false_eq_true] at h5
      have sb : ∀ env, starEach [_] env = _ := star_of h4 []
      exact pi_zipA (gl_of g.hsc h2) (g.blt _ (by decide +kernel)) (pa_cons (pe_all a sc fn E X _ g h6) (pa_cons (pe_all b sc fn E X _ g h7) pa_nil (sb _)) (star_of h3 _ _)) (star_of h3 _ _) (stars_any (by simp [starsB, h4]) _ _)
    · cases h
end
end
end Cl
set_option Elab.async false
set_option linter.all false
set_option maxRecDepth 100000
set_option maxHeartbeats 4000000
namespace Cl
open PySem PySem.Spec PyProof.Rows L2 RZ

/-! ### statements: the text against the core -/
def isName (x : Str) : Expr → Bool
  | .Name y _ => decide (y = x)
  | _ => false
def namesOf (sc : Scope) (line : Nat) (ts : List Expr) : List Str := ts.filterMap fun
    | .Name id pos => if sc.names.lookup id == some .local && pos.line == line then some id else none
    | _ => none
/-- whether a, b = x, y stores from the right: some names; none: it does not; not said where the model is silent -/
def swF (sc : Scope) (ts vs : List Expr) : Option (List Str) :=
  if !(ts.length == 2 || ts.length == 3) || vs.length != ts.length then none
  else if vs.any (fun e => !notStar e) then none
  else if (namesOf sc ((ts.head?.map (·.pos.line)).getD 0) ts).length != ts.length || (namesOf sc ((ts.head?.map (·.pos.line)).getD 0) ts).eraseDups.length != (namesOf sc ((ts.head?.map (·.pos.line)).getD 0) ts).length then none
  else if vs.all (foldedForSure 8) then none
  else some (namesOf sc ((ts.head?.map (·.pos.line)).getD 0) ts)
def swOk (vs : List Expr) : Bool := vs.all (foldedForSure 8) || !vs.all (constantsAlone 8)
theorem sw_eq {env : PySem.Env} {sc : Scope} {ts vs : List Expr} {k1 k2 : Nat} {p1 p2 : Pos} (hs : env.scope = sc) (hk : sc.kind = .function) (h : swOk vs = true) : swappedStores [.Tuple ts k1 p1] (.Tuple vs k2 p2) env = pure (swF sc ts vs) := by
  subst hs
  have hb : env.blockKind = .function := by unfold Env.blockKind; rw [hk]; rfl
  have hne : (ScopeKind.function != ScopeKind.function) = false := by decide
  unfold swappedStores swF
  dsimp only
  rw [hb, hne, Bool.or_false]
  by_cases c1 : (!(ts.length == 2 || ts.length == 3) || vs.length != ts.length) = true
  · rw [if_pos c1, if_pos c1]
  · rw [if_neg c1, if_neg c1]
    have hst : ∀ f : Expr → Bool, (∀ e, f e = !notStar e) → vs.any f = vs.any (fun e => !notStar e) := fun f hf => by rw [show f = fun e => !notStar e from funext hf]
    by_cases c2 : vs.any (fun e => !notStar e) = true
    · rw [if_pos c2]
      exact if_pos ((hst _ (fun e => by cases e <;> rfl)).trans c2)
    · rw [if_neg c2]
      refine Eq.trans (if_neg fun z => c2 ((hst _ (fun e => by cases e <;> rfl)).symm.trans z)) ?_
      by_cases c3 : ((namesOf env.scope ((ts.head?.map (·.pos.line)).getD 0) ts).length != ts.length || (namesOf env.scope ((ts.head?.map (·.pos.line)).getD 0) ts).eraseDups.length != (namesOf env.scope ((ts.head?.map (·.pos.line)).getD 0) ts).length) = true
      · rw [if_pos c3]
        exact if_pos c3
      · rw [if_neg c3]
        refine Eq.trans (if_neg c3) ?_
        by_cases c4 : vs.all (foldedForSure 8) = true
        · rw [if_pos c4, if_pos c4]
        · rw [if_neg c4, if_neg c4]
          have c5 : ¬ vs.all (constantsAlone 8) = true := by
            unfold swOk at h
            simp only [Bool.or_eq_true, Bool.not_eq_true'] at h
            rcases h with h | h
            · exact absurd h c4
            · rw [h]; simp
          rw [if_neg c5]
          rfl

structure GoodS (C : Ctx) (cls : Nat → Value) (sp : Nat → Sp) (k : Nat) (N : List Str) (sc : Scope) (E : EX) (X : Cx) : Prop where
  g : Good C sp k N sc (fun _ => true) E X
  kind : sc.kind = .function
  own : PassesOwn (model X.prog X.w) X.A X.env X.xe
  takes : Takes X (fun c d σ H => E σ c d H)
  stk : X.stack = X.env :: X.outer
  frm : X.env.frame = some X.env.locals
  exns : ∀ c x, C.exn c = some x → ∃ a, cls c = .ref a ∧ X.mg x = some (.ref a) ∧ W.excIn X.K a He.veBase "ValueError.__new__" = true ∧ W.keepIn X.K (.ref a) = true ∧ W.subIn X.K (.ref a) (.type "BaseException") = some true ∧ W.typeIn X.K (.ref a) = some (.type "type")
  errs : ∀ c, ∃ a, cls c = .ref a ∧ ExcC X.K a ∧ ∀ b x, C.exn b = some x → W.kitOne X.K (.ref a) (cls b) = some (subc c b)
/-- a comprehension that is stored into a local name on its line goes another way -/
def lcSwap (sc : Scope) (x : Str) (px : Pos) : Expr → Bool
  | .ListComp _ [⟨_, _, _, 0⟩] scope pos => isLocB sc x && (px.line == pos.line) && !(scope.names.any fun (n, k) => n == x && (k == .local || k == .cell))
  | _ => false
def lcSwap2 (sc : Scope) (x : Str) (px : Pos) : Expr → Bool
  | .ListComp _ [⟨_, _, _, 0⟩, ⟨_, _, _, 0⟩] scope pos => isLocB sc x && (px.line == pos.line) && !(scope.names.any fun (n, k) => n == x && (k == .local || k == .cell))
  | _ => false
def isCellB (sc : Scope) (x : Str) : Bool := match sc.names.lookup x with
  | some .cell => true
  | _ => false
def isTupV : Expr → Bool
  | .Tuple _ _ _ => true
  | _ => false
def nodupB (xs : List Nat) : Bool := decide xs.Nodup
/-! ### an except suite against the core -/
def HE.isIsx : HE → Bool
  | .isx _ => true
  | _ => false
mutual
def chkH (C : Ctx) (sc : Scope) (n : Str) : HE → Expr → Bool
  | .isx c, e => match e with
    | .Call (.Name f _) [.Name v _, .Name y _] [] _ => decide (f = "isinstance") && decide (v = n) && decide (C.exn c = some y) && glB sc f && glB sc y && !dbg y
    | _ => false
  | .cst c, e => match e with
    | .Constant k _ _ => chkC c k
    | _ => false
  | .ite t a b, e => match e with
    | .IfExp et ea eb _ => t.isIsx && chkH C sc n t et && chkH C sc n a ea && chkH C sc n b eb
    | _ => false
  | .tup es, e => match e with
    | .Tuple xs _ _ => chkHs C sc n es xs
    | _ => false
  | .idx es, e => match e with
    | .Call (.Attribute (.List xs _) m apos) [.Constant (.bool true) _ _] [] pos => decide (m = "index") && (apos.endLine == pos.line) && chkHs C sc n es xs
    | _ => false
def chkHs (C : Ctx) (sc : Scope) (n : Str) : HEs → List Expr → Bool
  | .nil, xs => match xs with
    | [] => true
    | _ => false
  | .cons e r, xs => match xs with
    | x :: s => notStar x && chkH C sc n e x && chkHs C sc n r s
    | _ => false
end
section
variable (C : Ctx) (N : List Str)
def chkSet (i : Nat) (e : CE) (sc : Scope) (st : Stmt) : Bool := match st with
  | .Assign [.Name x px] ev _ => decide (N[i]? = some x) && locB sc x && (notComp ev || isCellB sc x || (lcSwap sc x px ev && lcE e) || (lcSwap2 sc x px ev && lcE2 e)) && chkE C N e sc (fun _ => true) ev
  | _ => false
where
  lcE : CE → Bool
    | .lc _ _ _ _ _ => true
    | _ => false
  lcE2 : CE → Bool
    | .lc2 _ _ _ _ _ _ _ _ _ => true
    | _ => false
def chkPar (sw : Bool) (is : List Nat) (es : CEs) (sc : Scope) (st : Stmt) : Bool := match st with
    | .Assign [.Tuple ts _ _] (.Tuple vs _ _) _ => swOk vs && chkNames N sc (fun _ => true) is ts && chkEs C N es sc (fun _ => true) vs &&
        (match sw with
          | true => nodupB is && decide (swF sc ts vs = some (is.map fun i => N.getD i Str.empty)) && is.all (fun i => isLocB sc (N.getD i Str.empty))
          | false => decide (swF sc ts vs = none))
    | _ => false
mutual
def chkS : CS → Scope → Stmt → Bool
  | .asg i e, sc, st => chkSet C N i e sc st
  | .own i e, sc, st => chkSet C N i e sc st
  | .ownQ i j e, sc, st => chkPar C N false [i, j] (.cons e (.cons (.lst .nil) .nil)) sc st
  | .ownP i j e, sc, st => chkPar C N true [i, j] (.cons e (.cons (.lst .nil) .nil)) sc st
  | .own2 i j, sc, st => chkPar C N true [i, j] (.cons (.lst .nil) (.cons (.lst .nil) .nil)) sc st
  | .par sw is es, sc, st => chkPar C N sw is es sc st
  | .unp t e, sc, st => match st with
    | .Assign [tg] ev _ => isTupE tg && !isTupV ev && notComp ev && chkG N sc (fun _ => true) t tg && chkE C N e sc (fun _ => true) ev
    | _ => false
  | .app i e, sc, st => match st with
    | .Expr (.Call (.Attribute (.Name x p) m apos) [ev] [] cpos) _ => decide (m = "append") && (apos.endLine == cpos.line) && notStar ev && chkE C N (.var i) sc (fun _ => true) (.Name x p) && chkE C N e sc (fun _ => true) ev
    | _ => false
  | .ext i e, sc, st => match st with
    | .Expr (.Call (.Attribute (.Name x p) m apos) [ev] [] cpos) _ => decide (m = "extend") && (apos.endLine == cpos.line) && notStar ev && chkE C N (.var i) sc (fun _ => true) (.Name x p) && chkE C N e sc (fun _ => true) ev
    | _ => false
  | .six i a e, sc, st => match st with
    | .Assign [.Subscript (.Name x p) ia _] ev _ => notComp ev && !isTupV ev && notSlice ia && chkE C N (.var i) sc (fun _ => true) (.Name x p) && chkE C N a sc (fun _ => true) ia && chkE C N e sc (fun _ => true) ev
    | _ => false
  | .ite c a b, sc, st => match st with
    | .If ec ea eb _ => c.isTest && chkE C N c sc (fun _ => true) ec && chkSs a sc ea && chkSs b sc eb
    | _ => false
  | .forr t it b, sc, st => match st with
    | .For tg iter body [] _ => notSet iter && chkG N sc (fun _ => true) t tg && chkI C N it sc (fun _ => true) tg iter && chkSs b sc body
    | _ => false
  | .whl c b, sc, st => match st with
    | .While ec body [] _ => c.isTest && chkE C N c sc (fun _ => true) ec && chkSs b sc body
    | _ => false
  | .ret e, sc, st => match st with
    | .Return (some ev) _ => chkE C N e sc (fun _ => true) ev
    | _ => false
  | .retO i, sc, st => match st with
    | .Return (some ev) _ => chkE C N (.var i) sc (fun _ => true) ev
    | _ => false
  | .exp e, sc, st => match st with
    | .Expr ev _ => notComp ev && chkE C N e sc (fun _ => true) ev
    | _ => false
  | .rse c, sc, st => match st with
    | .Raise (some (.Call (.Name x _) [.Constant (.str _) _ _] [] _)) none _ => decide (C.exn c = some x) && glB sc x && !dbg x
    | _ => false
  | .frz _, _, _ => false
  | .tryx b i h, sc, st => match st with
    | .Try body [.ExceptHandler (some (.Name x _)) (some n) [.Return (some eh) _] _] [] [] _ => decide (C.exn 0 = some x) && glB sc x && !dbg x && decide (N[i]? = some n) && isLocB sc n && !dbg n && chkH C sc n h eh && chkSs b sc body
    | _ => false
def chkSs : CSs → Scope → List Stmt → Bool
  | .nil, sc, sts => match sts with
    | [] => true
    | _ => false
  | .cons s r, sc, sts => match s with
    | .frz _ => chkSs r sc sts
    | s => match sts with
      | st :: rest => chkS s sc st && chkSs r sc rest
      | [] => false
end
end
end Cl
set_option Elab.async false
set_option linter.all false
set_option maxRecDepth 100000
set_option maxHeartbeats 4000000
namespace Cl
open PySem PySem.Spec PyProof.Rows L2 RZ
/-! ### an except suite: its readings -/
section
variable (K : W.Frag) (cls : Nat → Value) (i : Nat) (a Da : Addr)
def clsV (c : Nat) : V := match cls c with
  | .ref b => .ref b
  | _ => .non
mutual
def tHe : HE → TE
  | .isx b => tCB (rIsE K Da a) (tCons (tVar i) (tCons (tC (clsV cls b)) tNil))
  | .cst k => tC k.v
  | .ite t x y => tIf (tB (tHe t)) (tHe x) (tHe y)
  | .tup es => tTup (tHes es)
  | .idx es => tBM K "list" (rMt K .index) (tLst (tHes es)) (tCons (tC (.bl true)) tNil)
def tHes : HEs → TA
  | .nil => tNil
  | .cons e r => tCons (tHe e) (tHes r)
end
end
section
variable {K : W.Frag} {cls : Nat → Value} {i : Nat} {a Da : Addr} {c : Nat}
mutual
def HE.only (ok : Nat → Prop) : HE → Prop
  | .isx b => ok b
  | .cst _ => True
  | .ite t x y => t.only ok ∧ x.only ok ∧ y.only ok
  | .tup es => es.only ok
  | .idx es => es.only ok
def HEs.only (ok : Nat → Prop) : HEs → Prop
  | .nil => True
  | .cons e r => e.only ok ∧ r.only ok
end
mutual
theorem tHe_ok (hk : ∀ b, W.kitOne K (.ref Da) (cls b) = some (subc c b) ∨ True) (hK : ∀ b, (∃ q, cls b = .ref q) ) : ∀ (h : HE) (d : D) (σ : L2.St) (P H : Hp) (Q : VK), h.only (fun b => W.kitOne K (.ref Da) (cls b) = some (subc c b)) → evh c h = some d → Ex P H → σ[i]? = some (some (.ref a)) → (∀ v P' H', Ext P H P' H' → Rep K P' d v → Q v H') → tHe K cls i a Da h σ H Q
  | .isx b, d, σ, P, H, Q, ho, he, e, hs, q => by
    simp only [evh, Option.some.injEq] at he
    subst he
    obtain ⟨x, hx⟩ := hK b
    refine ⟨.ref a, hs, ?_⟩
    refine ⟨clsV cls b, cls b, subc c b, rfl, fun u hu => ?_, ho, q _ P H (.refl e) (.bl _)⟩
    unfold clsV at hu
    rw [hx] at hu ⊢
    exact hu
  | .cst k, d, σ, P, H, Q, ho, he, e, hs, q => by
    simp only [evh, Option.some.injEq] at he
    subst he
    exact q _ P H (.refl e) (rep_cst k)
  | .ite t x y, d, σ, P, H, Q, ho, he, e, hs, q => by
    simp only [evh, Option.bind_eq_some_iff] at he
    obtain ⟨d1, h1, h2⟩ := he
    refine tHe_ok hk hK t d1 σ P H _ ho.1 h1 e hs fun v P1 H1 e1 r1 => ?_
    cases d1 with
    | bl k =>
      cases r1
      refine ⟨k, rfl, ?_⟩
      cases k with
      | true => exact tHe_ok hk hK x d σ P1 H1 Q ho.2.1 h2 e1.ph hs fun v P' H' e2 r => q v P' H' (e1.trans e2) r
      | false => exact tHe_ok hk hK y d σ P1 H1 Q ho.2.2 h2 e1.ph hs fun v P' H' e2 r => q v P' H' (e1.trans e2) r
    | _ => cases h2
  | .tup es, d, σ, P, H, Q, ho, he, e, hs, q => by
    simp only [evh, Option.bind_eq_some_iff] at he
    obtain ⟨ds, h1, h2⟩ := he
    split at h2
    · rename_i hl
      cases h2
      refine tHes_ok hk hK es ds σ P H _ ho h1 e hs fun vs P1 H1 e1 r1 => ?_
      refine ⟨by rw [← r1.length, ← lim_eq]; exact hl, fun p hp => ?_⟩
      obtain ⟨P2, e2, r2⟩ := Res.keep e1.ph (Res.newT (K := K) hp r1)
      exact q _ P2 _ (e1.trans e2) r2
    · cases h2
  | .idx es, d, σ, P, H, Q, ho, he, e, hs, q => by
    simp only [evh, Option.bind_eq_some_iff] at he
    obtain ⟨ds, h1, h2⟩ := he
    split at h2
    · rename_i hl
      refine tHes_ok hk hK es ds σ P H _ ho h1 e hs fun vs P1 H1 e1 r1 => ?_
      refine ⟨by rw [← r1.length, ← lim_eq]; exact hl, fun p hp => ?_⟩
      obtain ⟨P2, e2, r2⟩ := Res.keep e1.ph (Res.newL (K := K) hp r1)
      refine ⟨ty_data (m := .index) (d := d) (ds := [.bl true]) e2.ph (.inl r2) h2, ?_⟩
      refine ⟨P2, .lst ds, [.bl true], d, e2.ph, .inl r2, .cons (.inl (.bl true)) .nil, h2, fun v H3 res => ?_⟩
      obtain ⟨P3, e3, r3⟩ := res.keep e2.ph
      exact q v P3 H3 ((e1.trans e2).trans e3) r3
    · cases h2
theorem tHes_ok (hk : ∀ b, W.kitOne K (.ref Da) (cls b) = some (subc c b) ∨ True) (hK : ∀ b, (∃ q, cls b = .ref q) ) : ∀ (h : HEs) (ds : List D) (σ : L2.St) (P H : Hp) (Q : List V → Hp → Prop), h.only (fun b => W.kitOne K (.ref Da) (cls b) = some (subc c b)) → evhs c h = some ds → Ex P H → σ[i]? = some (some (.ref a)) → (∀ vs P' H', Ext P H P' H' → Reps K P' ds vs → Q vs H') → tHes K cls i a Da h σ H Q
  | .nil, ds, σ, P, H, Q, ho, he, e, hs, q => by
    simp only [evhs, Option.some.injEq] at he
    subst he
    exact q [] P H (.refl e) .nil
  | .cons h r, ds, σ, P, H, Q, ho, he, e, hs, q => by
    simp only [evhs, Option.bind_eq_some_iff, Option.some.injEq] at he
    obtain ⟨d1, h1, ds1, h2, rfl⟩ := he
    refine tHe_ok hk hK h d1 σ P H _ ho.1 h1 e hs fun v P1 H1 e1 r1 => ?_
    refine tHes_ok hk hK r ds1 σ P1 H1 _ ho.2 h2 e1.ph hs fun vs P2 H2 e2 r2 => ?_
    exact q (v :: vs) P2 H2 (e1.trans e2) (.cons (r1.mono e2.p) r2)
end
end
/-! ### .. and the text -/
section
variable {C : Ctx} {cls : Nat → Value} {sp : Nat → Sp} {k : Nat} {N : List Str} {sc : Scope} {E : EX} {X : Cx} {i : Nat} {n : Str} {a Da : Addr} {oe : Obj} {pn : List (Addr × Obj)}
theorem chkHs_stars : ∀ {es : HEs} {xs : List Expr}, chkHs C sc n es xs = true → starsB xs = true
  | .nil, xs, h => by
    cases xs with
    | nil => rfl
    | cons _ _ => simp [chkHs] at h
  | .cons e r, xs, h => by
    cases xs with
    | nil => simp [chkHs] at h
    | cons x s =>
      simp only [chkHs, Bool.and_eq_true] at h
      simp only [starsB, Bool.and_eq_true]
      exact ⟨h.1.1, chkHs_stars (es := r) h.2⟩
mutual
theorem pe_he (G : GoodS C cls sp k N sc E X) (hi : N[i]? = some n) (hv : isLocB sc n = true) (hdb : (!dbg n) = true) (CD : ExcC X.K Da) (hz : Zc (.ref Da) none oe) (hf : ∃ vs, oe.data = .fields vs) : ∀ (h : HE) (e : Expr), chkH C sc n h e = true → PE (X.suite a ((a, oe) :: pn)) e (tHe X.K cls i a Da h)
  | .isx c, e, h => by
    unfold chkH at h
    split at h
    · simp only [Bool.and_eq_true, decide_eq_true_eq] at h
      obtain ⟨⟨⟨⟨⟨h1, h2⟩, h3⟩, h4⟩, h5⟩, h6⟩ := h
      subst h1 h2
      obtain ⟨b, k1, k2, _⟩ := G.exns _ _ h3
      rename_i vn _ _ _ _ _
      have hvar : ∀ po, PE (X.suite a ((a, oe) :: pn)) (.Name vn po) (tVar i) := fun po => pe_var (X := X.suite a ((a, oe) :: pn)) (by show X.N[i]? = _; rw [G.g.hN]; exact hi) (.inl (by show X.env.scope.names.lookup _ = _; rw [G.g.hsc]; exact isLoc_of hv)) (dbg_of hdb).1 (dbg_of hdb).2
      have hcls : ∀ po, PE (X.suite a ((a, oe) :: pn)) (.Name _ po) (tC (clsV cls c)) := fun po => by
        have : clsV cls c = .ref b := by unfold clsV; rw [k1]
        rw [this]
        exact pe_glob (X := X.suite a ((a, oe) :: pn)) (gl_of (X := X.suite a ((a, oe) :: pn)) G.g.hsc h5) k2 rfl (dbg_of h6).1
      exact pe_callB (X := X.suite a ((a, oe) :: pn)) (call_isE CD hz hf) (gl_of (X := X.suite a ((a, oe) :: pn)) G.g.hsc h4) (G.g.blt _ (by decide +kernel)) (by decide +kernel) (pa_cons (hvar _) (pa_cons (hcls _) pa_nil)) (by decide) (by decide) rfl rfl
    · cases h
  | .cst c, e, h => by
    cases e <;> simp only [chkH, Bool.false_eq_true] at h
    exact chkC_pe h
  | .ite t x y, e, h => by
    unfold chkH at h
    split at h
    · simp only [Bool.and_eq_true] at h
      obtain ⟨⟨⟨h0, h1⟩, h2⟩, h3⟩ := h
      rename_i et ea eb pos
      have pt := pe_he G hi hv hdb CD hz hf t et h1
      refine pe_ifExp (pt_val pt (plain_of ?_ _)) (pe_he G hi hv hdb CD hz hf x ea h2) (pe_he G hi hv hdb CD hz hf y eb h3)
      cases t with
      | isx c =>
        unfold chkH at h1
        split at h1
        · rfl
        · cases h1
      | _ => cases h0
    · cases h
  | .tup es, e, h => by
    unfold chkH at h
    split at h
    · exact pe_tup (pa_hes G hi hv hdb CD hz hf es _ h)
    · cases h
  | .idx es, e, h => by
    unfold chkH at h
    split at h
    · simp only [Bool.and_eq_true, decide_eq_true_eq] at h
      obtain ⟨⟨h1, h2⟩, h3⟩ := h
      subst h1
      have hu : (X.suite a ((a, oe) :: pn)).A.units + 200 < cLine := by
        have := G.g.units
        exact this
      exact pe_bm (X := X.suite a ((a, oe) :: pn)) (Mt.pa .index) (Mt.slot .index) (Mt.ty .index) (mt_data hu .index) (pe_lst (pa_hes G hi hv hdb CD hz hf es _ h3)) (pa_cons (chkC_pe (c := .bl true) rfl) pa_nil) rfl rfl h2 rfl rfl
    · cases h
theorem pa_hes (G : GoodS C cls sp k N sc E X) (hi : N[i]? = some n) (hv : isLocB sc n = true) (hdb : (!dbg n) = true) (CD : ExcC X.K Da) (hz : Zc (.ref Da) none oe) (hf : ∃ vs, oe.data = .fields vs) : ∀ (h : HEs) (xs : List Expr), chkHs C sc n h xs = true → PA (X.suite a ((a, oe) :: pn)) xs (tHes X.K cls i a Da h)
  | .nil, xs, h => by
    unfold chkHs at h
    split at h
    · exact pa_nil
    · cases h
  | .cons e r, xs, h => by
    unfold chkHs at h
    split at h
    · simp only [Bool.and_eq_true] at h
      exact pa_cons (pe_he G hi hv hdb CD hz hf e _ h.1.2) (pa_hes G hi hv hdb CD hz hf r _ h.2) (star_of h.1.1 _ _)
    · cases h
end
mutual
theorem only_of {ok : Nat → Prop} (hok : ∀ b x, C.exn b = some x → ok b) : ∀ (h : HE) (e : Expr), chkH C sc n h e = true → h.only ok
  | .isx c, e, h => by
    unfold chkH at h
    split at h
    · simp only [Bool.and_eq_true, decide_eq_true_eq] at h
      exact hok c _ h.1.1.1.2
    · cases h
  | .cst c, e, h => trivial
  | .ite t x y, e, h => by
    unfold chkH at h
    split at h
    · simp only [Bool.and_eq_true] at h
      exact ⟨only_of hok t _ h.1.1.2, only_of hok x _ h.1.2, only_of hok y _ h.2⟩
    · cases h
  | .tup es, e, h => by
    unfold chkH at h
    split at h
    · exact onlys_of hok es _ h
    · cases h
  | .idx es, e, h => by
    unfold chkH at h
    split at h
    · simp only [Bool.and_eq_true] at h
      exact onlys_of hok es _ h.2
    · cases h
theorem onlys_of {ok : Nat → Prop} (hok : ∀ b x, C.exn b = some x → ok b) : ∀ (h : HEs) (xs : List Expr), chkHs C sc n h xs = true → h.only ok
  | .nil, xs, h => trivial
  | .cons e r, xs, h => by
    unfold chkHs at h
    split at h
    · simp only [Bool.and_eq_true] at h
      exact ⟨only_of hok e _ h.1.2, onlys_of hok r _ h.2⟩
    · cases h
end
theorem pss_h (G : GoodS C cls sp k N sc E X) {h : HE} {eh : Expr} {pos : Pos} (hi : N[i]? = some n) (hv : isLocB sc n = true) (hdb : (!dbg n) = true) (hc : chkH C sc n h eh = true) (a : Addr) (oe : Obj) (cv : Value) (d : Option Addr) (pn : List (Addr × Obj)) (hz : Zc cv d oe) (hf : ∃ vs, oe.data = .fields vs) :
    PSs (X.suite a ((a, oe) :: pn)) [.Return (some eh) pos] (tsH X.K cls i h a cv d) := by
  refine ⟨fun pins s σ H Z I hh => ?_⟩
  obtain ⟨c, d', P, σ0, rfl, rfl, e, rfl, he, q⟩ := hh
  obtain ⟨Da, k1, CD, hkit⟩ := G.errs c
  rw [k1] at hz
  have hlen : (σ0.set i (some (.ref a)) : L2.St)[i]? = some (some (.ref a)) := by
    have hl := I.len
    have hi' : i < N.length := (List.getElem?_eq_some_iff.mp hi).1
    refine List.getElem?_set_self ?_
    have : (σ0.set i (some (.ref a)) : L2.St).length = X.N.length := hl
    rw [List.length_set, G.g.hN] at this
    omega
  refine (pss_one (ps_ret (pe_he G hi hv hdb CD hz hf h eh hc))).run pins s _ H Z I ?_
  exact tHe_ok (c := c) (fun _ => .inr trivial) (fun b => (G.errs b).imp fun _ q => q.1) h d' _ P H Z.rt (only_of (fun b x hb => hkit b x hb) h eh hc) he e hlen q
end
end Cl
set_option Elab.async false
set_option linter.all false
set_option maxRecDepth 100000
set_option maxHeartbeats 4000000
namespace Cl
open PySem PySem.Spec PyProof.Rows L2 RZ
theorem notComp_sw {ev : Expr} {t : Option Expr} {l : Nat} {env : PySem.Env} (h : notComp ev = true) : swapsWith ev t l env = pure false := by
  cases ev <;> first | rfl | (simp [notComp] at h)
theorem cell_sw {ev : Expr} {x : Str} {px : Pos} {l : Nat} {env : PySem.Env} (h : env.scope.names.lookup x = some .cell) : swapsWith ev (some (.Name x px)) l env = pure false := by
  have hk : (env.kindOf x == some .local) = false := by unfold Env.kindOf; rw [h]; decide
  cases ev <;> first | rfl | (unfold swapsWith; simp only [hk, Bool.and_false, Bool.false_and]; done) | (unfold swapsWith; simp only [hk, Bool.and_false, Bool.false_and]; rfl)
theorem isCell_of {sc : Scope} {x : Str} (h : isCellB sc x = true) : sc.names.lookup x = some .cell := by
  unfold isCellB at h
  split at h
  · assumption
  · cases h
theorem sub_assign {o i : Expr} {pos : Pos} (h : notSlice i = true) (env : PySem.Env) (v : Value) : assign (.Subscript o i pos) env v = (do
      let ov ← holding [v] (eval o env)
      let iv ← holding [v, ov] (eval i env)
      standAt pos
      holding [v, ov, iv] (setItem ov iv v)
      release [v, ov, iv] []) := by
  cases i <;> first | rfl | (simp [notSlice] at h)
theorem nostar_tup {tg : Expr} (h : isTupE tg = true) (env : PySem.Env) : (assignEach [tg] env).map (·.2) = [assign tg env] := by
  cases tg <;> first | rfl | (simp [isTupE] at h)
theorem sw_none {tg ev : Expr} {env : PySem.Env} (h : isTupV ev = false) : swappedStores [tg] ev env = pure none := by
  cases ev <;> first | (simp [isTupV] at h; done) | skip
  all_goals (cases tg <;> rfl)
section
variable {C : Ctx} {cls : Nat → Value} {sp : Nat → Sp} {k : Nat} {N : List Str} {sc : Scope} {E : EX} {X : Cx}
theorem ps_seta (G : GoodS C cls sp k N sc E X) {i : Nat} {e : CE} {st : Stmt} (h : chkSet C N i e sc st = true) : PS X st (tAsg (tOf X.K sp E e) (gName i)) := by
  unfold chkSet at h
  split at h
  · simp only [Bool.and_eq_true, Bool.or_eq_true, decide_eq_true_eq] at h
    obtain ⟨⟨⟨h1, h2⟩, h3⟩, h4⟩ := h
    rename_i x px ev pos
    have hf : X.fn x = true ∨ X.env.scope.names.lookup x = some .local := .inl (by rw [G.g.fnE])
    rcases h3 with ((h3 | h3) | h3) | h3
    · exact ps_set G.g.nd' (by rw [G.g.hN]; exact h1) (by rw [G.g.hsc]; exact loc_of h2) (pe_all e sc _ E X ev G.g h4) (notComp_sw h3) hf
    · exact ps_set G.g.nd' (by rw [G.g.hN]; exact h1) (by rw [G.g.hsc]; exact loc_of h2) (pe_all e sc _ E X ev G.g h4) (cell_sw (by rw [G.g.hsc]; exact isCell_of h3)) hf
    · obtain ⟨h3, h5⟩ := h3
      cases e <;> simp only [chkSet.lcE, Bool.false_eq_true] at h5
      rename_i elt t it c vs
      unfold lcSwap at h3
      split at h3
      · simp only [Bool.and_eq_true, Bool.not_eq_true'] at h3
        obtain ⟨⟨k1, k2⟩, k3⟩ := h3
        rename_i eelt tg iter ifs scope lpos
        unfold chkE at h4
        simp only [Bool.and_eq_true] at h4
        obtain ⟨⟨⟨⟨⟨j1, j2⟩, j3⟩, j4⟩, j5⟩, j6⟩ := h4
        have g := G.g
        have hl : X.env.scope.names.lookup x = some .local := by rw [g.hsc]; exact isLoc_of k1
        have key := ps_setLc (X := X) (i := i) (y := x) (py := px) (spos := pos) (own := ownOf N vs) (pos := lpos) (te := tOf X.K sp EX0 elt) (tt := tOfC X.K sp EX0 c) (g := tOfG X.K t) g.calm g.nd' (by rw [g.hN]; exact h1) hl
          (sw_true (by rw [g.hsc]; exact G.kind) hl k2 k3) (pi_all it sc _ E X tg iter g j2) (by rw [g.hN, g.hsc]; exact blkOk_by j1)
          (fun s H C' cl fp => pg_all (X := X.blk s H scope (compEnvC scope cl C' X.env) fp) (g.blk scope s H C' cl fp).calm (g.blk scope s H C' cl fp).hN g.nd (g.blk scope s H C' cl fp).hsc (g.blk scope s H C' cl fp).fnE j4)
          (fun s H C' cl fp => pts_all c _ _ EX0 _ ifs (g.blk scope s H C' cl fp) j5)
          (fun s H C' cl fp => pe_all elt _ _ EX0 _ eelt (g.blk scope s H C' cl fp) j6) (fun x => fold_of j3 _ x)
        rw [ownOf_snd] at key
        exact key
      · cases h3
    · obtain ⟨h3, h5⟩ := h3
      cases e <;> simp only [chkSet.lcE2, Bool.false_eq_true] at h5
      rename_i elt t it c t1 it1 c1 vs vs1
      unfold lcSwap2 at h3
      split at h3
      · simp only [Bool.and_eq_true, Bool.not_eq_true'] at h3
        obtain ⟨⟨k1, k2⟩, k3⟩ := h3
        rename_i eelt tg iter ifs tg1 iter1 ifs1 scope lpos
        unfold chkE at h4
        simp only [Bool.and_eq_true] at h4
        have hx := h1
        obtain ⟨⟨⟨⟨⟨⟨⟨⟨⟨⟨h1, h1'⟩, h2'⟩, h3⟩, h3'⟩, h4⟩, h5⟩, h6⟩, h7⟩, h8⟩, h9⟩ := h4
        have g := G.g
        have hl : X.env.scope.names.lookup x = some .local := by rw [g.hsc]; exact isLoc_of k1
        have key := ps_setLc2 (X := X) (i := i) (y := x) (py := px) (spos := pos) (own := ownOf N vs) (vs1 := vs1) (pos := lpos) (te := tOf X.K sp EX0 elt) (tt := tOfC X.K sp EX0 c) (g := tOfG X.K t) (wi1 := tOfI X.K sp EX0 it1) (tt1 := tOfC X.K sp EX0 c1) (g1 := tOfG X.K t1) g.calm g.nd' (by rw [g.hN]; exact hx) hl (sw_true (by rw [g.hsc]; exact G.kind) hl k2 k3) (pi_all it sc _ E X tg iter g h2') (by rw [g.hN, g.hsc]; exact blkOk_by h1)
          (fun i hi => by rw [ownOf_snd]; simpa using List.all_eq_true.mp h1' i hi)
          (fun s H C' cl fp => pg_all (X := X.blk s H scope (compEnvC scope cl C' X.env) fp) (g.blk scope s H C' cl fp).calm (g.blk scope s H C' cl fp).hN g.nd (g.blk scope s H C' cl fp).hsc (g.blk scope s H C' cl fp).fnE h4)
          (fun s H C' cl fp => pts_all c _ _ EX0 _ ifs (g.blk scope s H C' cl fp) h5)
          (fun s H C' cl fp => pi_all it1 _ _ EX0 _ tg1 iter1 (g.blk scope s H C' cl fp) h6)
          (fun s H C' cl fp => pg_all (X := X.blk s H scope (compEnvC scope cl C' X.env) fp) (g.blk scope s H C' cl fp).calm (g.blk scope s H C' cl fp).hN g.nd (g.blk scope s H C' cl fp).hsc (g.blk scope s H C' cl fp).fnE h7)
          (fun s H C' cl fp => pts_all c1 _ _ EX0 _ ifs1 (g.blk scope s H C' cl fp) h8)
          (fun s H C' cl fp => pe_all elt _ _ EX0 _ eelt (g.blk scope s H C' cl fp) h9) (fun x => fold_of h3 _ x) (fun _ x => fold_of h3' _ x)
        rw [ownOf_snd] at key
        exact key
      · cases h3
  · cases h
theorem getD_of {i : Nat} {x : Str} (h : N[i]? = some x) : N.getD i Str.empty = x := by
  rw [List.getD_eq_getElem?_getD, h]; rfl
theorem chkNames_cons {fn : Str → Bool} {i : Nat} {is : List Nat} {ts : List Expr} (h : chkNames N sc fn (i :: is) ts = true) : ∃ x p rest, ts = .Name x p :: rest ∧ N[i]? = some x ∧ chkNames N sc fn is rest = true := by
  cases ts with
  | nil => simp [chkNames] at h
  | cons t rest =>
    cases t <;> simp only [chkNames, Bool.false_eq_true, Bool.and_eq_true, decide_eq_true_eq] at h
    exact ⟨_, _, _, rfl, h.1.1.1, h.2⟩
theorem chkNames_nil {fn : Str → Bool} {ts : List Expr} (h : chkNames N sc fn [] ts = true) : ts = [] := by
  cases ts with
  | nil => rfl
  | cons _ _ => simp [chkNames] at h
theorem ps_para (G : GoodS C cls sp k N sc E X) {sw : Bool} {is : List Nat} {es : CEs} {st : Stmt} (h : chkPar C N sw is es sc st = true) : PS X st (tOfS X.K cls sp E (.par sw is es)) := by
  unfold chkPar at h
  split at h
  · simp only [Bool.and_eq_true] at h
    obtain ⟨⟨⟨h1, h2⟩, h3⟩, h4⟩ := h
    rename_i ts _ _ vs _ _ pos
    have g := G.g
    have ha := pa_all es sc _ E X vs g h3
    have hsw := fun k1 p1 k2 p2 => sw_eq (env := X.env) (ts := ts) (vs := vs) (k1 := k1) (k2 := k2) (p1 := p1) (p2 := p2) g.hsc G.kind h1
    cases sw with
    | false =>
      simp only [decide_eq_true_eq] at h4
      obtain ⟨k1, k2, k3⟩ := pgs_names g.hN g.nd g.hsc g.fnE h2
      show PS X _ (tAsg (tTup (tOfs X.K sp E es)) (gTup X.K is.length (gNames is)))
      exact ps_asg (pe_tup ha) (pg_tup g.calm k1 k2 k3) rfl (by rw [hsw, h4]) rfl
    | true =>
      simp only [Bool.and_eq_true, decide_eq_true_eq, nodupB, List.all_eq_true] at h4
      obtain ⟨⟨n1, n2⟩, n3⟩ := h4
      show PS X _ (tParS is (tOfs X.K sp E es))
      have hloc : ∀ i x, i ∈ is → N[i]? = some x → X.env.scope.names.lookup x = some .local := fun i x hi hx => by
        rw [g.hsc]
        have := n3 i hi
        rw [getD_of hx] at this
        exact isLoc_of this
      have hvl : vs.length = ts.length := by
        unfold swF at n2
        split at n2
        · cases n2
        · rename_i c
          simp only [Bool.or_eq_true, Bool.not_eq_true', bne_iff_ne, ne_eq, not_or, Decidable.not_not] at c
          exact c.2
      match is with
      | [] => exact ps_never
      | [_] => exact ps_never
      | _ :: _ :: _ :: _ :: _ => exact ps_never
      | [i, j] =>
        obtain ⟨x, px, r1, rfl, hx, h2⟩ := chkNames_cons h2
        obtain ⟨y, py, r2, rfl, hy, h2⟩ := chkNames_cons h2
        obtain rfl := chkNames_nil h2
        match vs, hvl, ha with
        | [a, b], _, ha =>
          refine ps_par g.calm g.nd' (by rw [g.hN]; exact hx) (by rw [g.hN]; exact hy) (fun z => by subst z; simp at n1) (hloc i x (by simp) hx) (hloc j y (by simp) hy) ha ?_ rfl
          rw [hsw, n2]
          simp only [List.map_cons, List.map_nil, getD_of hx, getD_of hy]
      | [i, j, l] =>
        obtain ⟨x, px, r1, rfl, hx, h2⟩ := chkNames_cons h2
        obtain ⟨y, py, r2, rfl, hy, h2⟩ := chkNames_cons h2
        obtain ⟨z, pz, r3, rfl, hz, h2⟩ := chkNames_cons h2
        obtain rfl := chkNames_nil h2
        match vs, hvl, ha with
        | [a, b, d], _, ha =>
          simp only [List.nodup_cons, List.mem_cons, List.not_mem_nil, or_false, not_or] at n1
          refine ps_par3 g.calm g.nd' (by rw [g.hN]; exact hx) (by rw [g.hN]; exact hy) (by rw [g.hN]; exact hz) n1.1.1 n1.1.2 n1.2.1 (hloc i x (by simp) hx) (hloc j y (by simp) hy) (hloc l z (by simp) hz) ha ?_ rfl
          rw [hsw, n2]
          simp only [List.map_cons, List.map_nil, getD_of hx, getD_of hy, getD_of hz]
  · cases h
end
section
variable {C : Ctx} {cls : Nat → Value} {sp : Nat → Sp} {k : Nat} {N : List Str} {sc : Scope}
mutual
theorem ps_all : ∀ (s : CS) (E : EX) (X : Cx) (st : Stmt), GoodS C cls sp k N sc E X → chkS C N s sc st = true → PS X st (tOfS X.K cls sp E s)
  | .asg i e, E, X, st, G, h => ps_seta G (by simpa only [chkS] using h)
  | .own i e, E, X, st, G, h => ps_seta G (by simpa only [chkS] using h)
  | .ownQ i j e, E, X, st, G, h => ps_para G (sw := false) (is := [i, j]) (es := .cons e (.cons (.lst .nil) .nil)) (by simpa only [chkS] using h)
  | .ownP i j e, E, X, st, G, h => ps_para G (sw := true) (is := [i, j]) (es := .cons e (.cons (.lst .nil) .nil)) (by simpa only [chkS] using h)
  | .own2 i j, E, X, st, G, h => ps_para G (sw := true) (is := [i, j]) (es := .cons (.lst .nil) (.cons (.lst .nil) .nil)) (by simpa only [chkS] using h)
  | .par sw is es, E, X, st, G, h => ps_para G (by simpa only [chkS] using h)
  | .unp t e, E, X, st, G, h => by
    unfold chkS at h
    split at h
    · simp only [Bool.and_eq_true, Bool.not_eq_true'] at h
      obtain ⟨⟨⟨⟨h1, h2⟩, h3⟩, h4⟩, h5⟩ := h
      exact ps_asg (pe_all e sc _ E X _ G.g h5) (pg_all G.g.calm G.g.hN G.g.nd G.g.hsc G.g.fnE h4) (notComp_sw h3) (sw_none h2) (nostar_tup h1 _)
    · cases h
  | .app i e, E, X, st, G, h => by
    unfold chkS at h
    split at h
    · simp only [Bool.and_eq_true, decide_eq_true_eq] at h
      obtain ⟨⟨⟨⟨h1, h2⟩, h3⟩, h4⟩, h5⟩ := h
      subst h1
      have hv := pe_all (.var i) sc _ E X _ G.g h4
      exact ps_expr (pe_bm PySem.F.plainAttrs_list PySem.F.slot_list_append PySem.F.type_list_append mt_append hv (pa_cons (pe_all e sc _ E X _ G.g h5) pa_nil (star_of h3 _ _)) rfl (by
        rw [stars_all (by simp [starsB, h3])]; rfl) h2 (star_of h3 _ _) rfl) rfl
    · cases h
  | .ext i e, E, X, st, G, h => by
    unfold chkS at h
    split at h
    · simp only [Bool.and_eq_true, decide_eq_true_eq] at h
      obtain ⟨⟨⟨⟨h1, h2⟩, h3⟩, h4⟩, h5⟩ := h
      subst h1
      have hv := pe_all (.var i) sc _ E X _ G.g h4
      exact ps_expr (pe_bm PySem.F.plainAttrs_list PySem.F.slot_list_extend PySem.F.type_list_extend mt_extend hv (pa_cons (pe_all e sc _ E X _ G.g h5) pa_nil (star_of h3 _ _)) rfl (by
        rw [stars_all (by simp [starsB, h3])]; rfl) h2 (star_of h3 _ _) rfl) rfl
    · cases h
  | .six i a e, E, X, st, G, h => by
    unfold chkS at h
    split at h
    · simp only [Bool.and_eq_true, Bool.not_eq_true'] at h
      obtain ⟨⟨⟨⟨⟨h1, h2⟩, h3⟩, h4⟩, h5⟩, h6⟩ := h
      exact ps_asg (pe_all e sc _ E X _ G.g h6) (pg_sub (pe_all (.var i) sc _ E X _ G.g h4) (pe_all a sc _ E X _ G.g h5) set_list (fun v => sub_assign h3 _ v)) (by unfold swapsWithSole; exact notComp_sw h1) (sw_none h2) rfl
    · cases h
  | .ite c a b, E, X, st, G, h => by
    unfold chkS at h
    split at h
    · simp only [Bool.and_eq_true] at h
      obtain ⟨⟨⟨h1, h2⟩, h3⟩, h4⟩ := h
      exact ps_if (pt_all c sc _ E X _ G.g h1 h2) (pss_all a E X _ G h3) (pss_all b E X _ G h4)
    · cases h
  | .forr t it b, E, X, st, G, h => by
    unfold chkS at h
    split at h
    · simp only [Bool.and_eq_true] at h
      obtain ⟨⟨⟨h1, h2⟩, h3⟩, h4⟩ := h
      exact ps_for G.own G.g.calm (pi_all it sc _ E X _ _ G.g h3) (pg_all G.g.calm G.g.hN G.g.nd G.g.hsc G.g.fnE h2) (pss_all b E X _ G h4) (fun x => fold_of h1 _ x)
    · cases h
  | .whl c b, E, X, st, G, h => by
    unfold chkS at h
    split at h
    · simp only [Bool.and_eq_true] at h
      obtain ⟨⟨h1, h2⟩, h3⟩ := h
      exact ps_while G.own (pt_all c sc _ E X _ G.g h1 h2) (pss_all b E X _ G h3)
    · cases h
  | .ret e, E, X, st, G, h => by
    unfold chkS at h
    split at h
    · exact ps_ret (pe_all e sc _ E X _ G.g h)
    · cases h
  | .retO i, E, X, st, G, h => by
    unfold chkS at h
    split at h
    · exact ps_ret (pe_all (.var i) sc _ E X _ G.g h)
    · cases h
  | .exp e, E, X, st, G, h => by
    unfold chkS at h
    split at h
    · simp only [Bool.and_eq_true] at h
      exact ps_expr (pe_all e sc _ E X _ G.g h.2) (notComp_sw h.1)
    · cases h
  | .rse c, E, X, st, G, h => by
    unfold chkS at h
    split at h
    · simp only [Bool.and_eq_true, decide_eq_true_eq] at h
      obtain ⟨⟨h1, h2⟩, h3⟩ := h
      obtain ⟨a, k1, k2, k3, k4, k5, k6⟩ := G.exns _ _ h1
      have e : tOfS X.K cls sp E (.rse c) = fun _ σ H => E σ (.ref a) none H := by
        simp only [tOfS]; rw [k1]
      rw [e]
      exact ps_raise G.g.calm G.takes (pmk_own PySem.F.excBase_ValueError k3 k2 k4 (raises_own k5 k6) (gl_of G.g.hsc h2) (dbg_of h3).1)
    · cases h
  | .frz i, E, X, st, G, h => by simp [chkS] at h
  | .tryx b i hh, E, X, st, G, h => by
    unfold chkS at h
    split at h
    · simp only [Bool.and_eq_true, decide_eq_true_eq] at h
      obtain ⟨⟨⟨⟨⟨⟨⟨h1, h2⟩, h3⟩, h4⟩, h5⟩, h6⟩, h7⟩, h8⟩ := h
      obtain ⟨a0, k1, k2, _⟩ := G.exns _ _ h1
      exact ps_try_as (X := X) (i := i) (ts := tsH X.K cls i hh) (c := cls 0) (Wout := fun c d σ H => E σ c d H) (tb := fun W => tOfSs X.K cls sp (fun σ c d H => W c d σ H) b) G.stk G.frm G.g.nd' (by rw [G.g.hN]; exact h4) (by unfold Env.kindOf; rw [G.g.hsc]; exact isLoc_of h5) ⟨gl_of G.g.hsc h2, (dbg_of h3).1, .inl (by rw [k1]; exact k2)⟩ G.takes
        (fun W pn xe tk po => pss_all b (fun σ c d H => W c d σ H) (X.tr pn xe) _ ⟨⟨G.g.hN, G.g.nd, G.g.hsc, G.g.fnE, G.g.calm, G.g.room1, G.g.blt, G.g.fns, G.g.csts, fun σ => passAt tk σ, G.g.newb, G.g.mths⟩, G.kind, po, tk, G.stk, G.frm, G.exns, G.errs⟩ h8)
        (fun a oe cv d pn hz hf => pss_h G h4 h5 h6 h7 a oe cv d pn hz hf)
    · cases h
theorem pss_all : ∀ (s : CSs) (E : EX) (X : Cx) (sts : List Stmt), GoodS C cls sp k N sc E X → chkSs C N s sc sts = true → PSs X sts (tOfSs X.K cls sp E s)
  | .nil, E, X, sts, G, h => by
    unfold chkSs at h
    split at h
    · exact pss_nil
    · cases h
  | .cons s r, E, X, sts, G, h => by
    unfold chkSs at h
    split at h
    · exact pss_all r E X sts G h
    · split at h
      · simp only [Bool.and_eq_true] at h
        exact pss_cons (ps_all s E X _ G h.1) (pss_all r E X _ G h.2)
      · cases h
end
end
end Cl
set_option Elab.async false
set_option linter.all false
set_option maxRecDepth 100000
set_option maxHeartbeats 1000000
namespace Cl
open PySem

/-! ### reading the core: equations -/
theorem R.bind_congr1 {α β : Type} {a a' : R α} {f : α → R β} (h : a = a') : a.bind f = a'.bind f := by rw [h]
section
variable {cl : Nat → List D → R D} {env : Env} {e a b c r : CE} {es : CEs} {i : Nat}
@[simp] theorem v_var : ev cl (.var i) env = slotV env[i]? := rfl
@[simp] theorem v_bor : ev cl (.bor i) env = (slotO env[i]?).bind fun ds => .ok (.lst ds) := rfl
@[simp] theorem v_cst {k : Cst} : ev cl (.cst k) env = .ok k.d := rfl
@[simp] theorem v_glo {x : Str} {k : Cst} : ev cl (.glo x k) env = .ok k.d := rfl
@[simp] theorem v_bin {op : BOp} : ev cl (.bin op a b) env = (ev cl a env).bind fun x => (ev cl b env).bind fun y => R.ofO (bopF op x y) := rfl
@[simp] theorem v_neg : ev cl (.neg a) env = (ev cl a env).bind fun x => (intD x).bind fun i => .ok (.int (-i)) := rfl
@[simp] theorem v_cmp {op : COp} : ev cl (.cmp op a b) env = (ev cl a env).bind fun x => (ev cl b env).bind fun y => R.ofO ((copF op x y).map D.bl) := rfl
@[simp] theorem v_chn {op op' : COp} : ev cl (.chn op op' a b c) env = (ev cl a env).bind fun x => (ev cl b env).bind fun y => (R.ofO (copF op x y)).bind fun k =>
      if k then (ev cl c env).bind fun z => R.ofO ((copF op' y z).map D.bl) else .ok (.bl false) := rfl
@[simp] theorem v_and : ev cl (.and a r) env = (ev cl a env).bind fun x => (boolD x).bind fun k => if k then (if r.isBor then .bad else ev cl r env) else .ok (.bl false) := rfl
@[simp] theorem v_or : ev cl (.or a r) env = (ev cl a env).bind fun x => (boolD x).bind fun k => if k then .ok (.bl true) else (if r.isBor then .bad else ev cl r env) := rfl
@[simp] theorem v_one : ev cl (.one a) env = if a.isBor then .bad else ev cl a env := rfl
@[simp] theorem v_not : ev cl (.not a) env = (ev cl a env).bind fun x => (boolD x).bind fun k => .ok (.bl !k) := rfl
@[simp] theorem v_ite : ev cl (.ite c a b) env = (if c.isTest then (ev cl c env).bind boolD else .bad).bind fun k => if k then (if a.isBor then .bad else ev cl a env) else (if b.isBor then .bad else ev cl b env) := rfl
@[simp] theorem v_tup : ev cl (.tup es) env = (evs cl es env).bind fun ds => if ds.length ≤ lim then .ok (.tup ds) else .bad := rfl
@[simp] theorem v_lst : ev cl (.lst es) env = (evs cl es env).bind fun ds => if ds.length ≤ lim then .ok (.lst ds) else .bad := rfl
@[simp] theorem v_idx : ev cl (.idx a b) env = (ev cl a env).bind fun x => (ev cl b env).bind fun y => R.ofO (idxF x y) := rfl
@[simp] theorem v_slc {lo hi : CO} : ev cl (.slc a lo hi) env = (ev cl a env).bind fun x => (evo cl lo env).bind fun l => (evo cl hi env).bind fun h => R.ofO (slcF x l h) := rfl
@[simp] theorem v_revT : ev cl (.revT a) env = (ev cl a env).bind fun x => R.ofO (revTF x) := rfl
@[simp] theorem v_rev : ev cl (.rev a) env = (ev cl a env).bind fun x => R.ofO (revF x) := rfl
@[simp] theorem v_call {f : Nat} : ev cl (.call f es) env = (evs cl es env).bind fun ds => cl f ds := rfl
@[simp] theorem v_callD {f : Nat} : ev cl (.callD f es) env = (evs cl es env).bind fun ds => if memoArgs ds then memoR (cl f ds) else .bad := rfl
@[simp] theorem v_bi {t : Bi} : ev cl (.bi t es) env = (evb cl es env).bind fun ds => R.ofO (biF t ds) := rfl
@[simp] theorem v_meth {m : Mt} {o : CE} : ev cl (.meth m o es) env = (ev cl o env).bind fun x => if mtTy m x then (evb cl es env).bind fun ds => R.ofO (mtF m x ds) else .bad := rfl
@[simp] theorem v_rgl : ev cl (.rgl es) env = (evr cl es env).bind fun ds => .ok (.lst ds) := rfl
@[simp] theorem v_rgt1 : ev cl (.rgt (.cons a .nil)) env = (evr cl (.cons a .nil) env).bind fun ds => .ok (.tup ds) := rfl
@[simp] theorem v_rgt2 : ev cl (.rgt (.cons a (.cons b .nil))) env = (evr cl (.cons a (.cons b .nil)) env).bind fun ds => .ok (.tup ds) := rfl
@[simp] theorem v_callAt {fs : List Nat} : ev cl (.callAt fs a es) env = if fs.length ≤ lim then (ev cl a env).bind fun x => (intD x).bind fun i => (R.ofO (L2.atI fs i)).bind fun f => (evs cl es env).bind fun ds => cl f ds else .bad := rfl
@[simp] theorem v_lset : ev cl (.lset e) env = (ev cl e env).bind fun x => R.ofO (lsetF x) := rfl
@[simp] theorem v_sset : ev cl (.sset e) env = (ev cl e env).bind fun x => R.ofO (ssetF x) := rfl
@[simp] theorem v_fld {i j : Nat} : ev cl (.fld i j) env = if j < 3 then (slotV env[i]?).bind fun d => R.ofO (fldF d j) else .bad := rfl
@[simp] theorem v_mth {f : Nat} {m : Str} {o : CE} : ev cl (.mth f m o es) env = if bandF.contains m || o.isBor then .bad else (ev cl o env).bind fun d => if isObj d then (evs cl es env).bind fun ds => cl f (d :: ds) else .bad := rfl
@[simp] theorem v_new : ev cl (.new es) env = (evs cl es env).bind fun ds => newD cl ds := rfl
@[simp] theorem v_eqO {ne : Bool} {f : Nat} : ev cl (.eqO ne f a b) env = if a.isBor || b.isBor then .bad else (ev cl a env).bind fun x => (ev cl b env).bind fun y => eqD cl ne f x y := rfl
@[simp] theorem v_isB : ev cl (.isB i e) env = if e.isBor then .bad else (slotV env[i]?).bind fun s => (ev cl e env).bind fun x => isBD s x := rfl
@[simp] theorem v_lenO {f i : Nat} : ev cl (.lenO f i) env = (slotV env[i]?).bind fun d => if isObj d then (cl f [d]).bind lenR else .bad := rfl
@[simp] theorem v_isi {t : Ty} : ev cl (.isi t e) env = (ev cl e env).bind fun x => .ok (.bl (isiF t x)) := rfl
@[simp] theorem vs_nil : evs cl .nil env = .ok [] := rfl
@[simp] theorem vs_cons : evs cl (.cons e es) env = if e.isBor then .bad else (ev cl e env).bind fun d => (evs cl es env).bind fun ds => .ok (d :: ds) := rfl
@[simp] theorem vb_nil : evb cl .nil env = .ok [] := rfl
@[simp] theorem vb_cons : evb cl (.cons e es) env = (ev cl e env).bind fun d => (evb cl es env).bind fun ds => .ok (d :: ds) := rfl
@[simp] theorem vo_none : evo cl .none env = .ok none := rfl
@[simp] theorem vo_some : evo cl (.some e) env = (ev cl e env).bind fun x => (intD x).bind fun i => .ok (some i) := rfl
@[simp] theorem vt_none : evt cl .none env = .ok true := rfl
@[simp] theorem vt_some : evt cl (.some e) env = if e.isTest then (ev cl e env).bind boolD else .bad := rfl
@[simp] theorem vr_one : evr cl (.cons a .nil) env = (ev cl a env).bind fun x => (intD x).bind fun i => rgD 0 i := rfl
@[simp] theorem vr_three : evr cl (.cons a (.cons b (.cons c .nil))) env = (ev cl a env).bind fun x => (ev cl b env).bind fun y => (ev cl c env).bind fun z => (intD x).bind fun i => (intD y).bind fun j => (intD z).bind fun k => rgCD i j k := rfl
@[simp] theorem vr_two : evr cl (.cons a (.cons b .nil)) env = (ev cl a env).bind fun x => (ev cl b env).bind fun y => (intD x).bind fun i => (intD y).bind fun j => rgD i j := rfl
@[simp] theorem vi_lst : evi cl (.lst e) env = (ev cl e env).bind lstD := rfl
@[simp] theorem vi_tup : evi cl (.tup e) env = (ev cl e env).bind tupD := rfl
@[simp] theorem vi_str : evi cl (.str e) env = (ev cl e env).bind strI := rfl
@[simp] theorem vi_enumS : evi cl (.enumS e) env = (ev cl e env).bind fun x => (strI x).bind fun a => .ok (enumD 0 a) := rfl
@[simp] theorem vi_rng : evi cl (.rng es) env = evr cl es env := rfl
@[simp] theorem vi_enum : evi cl (.enum e) env = (ev cl e env).bind fun x => (lstD x).bind fun a => .ok (enumD 0 a) := rfl
@[simp] theorem vi_zip : evi cl (.zip a b) env = if a.isBor then .bad else if b.isBor then .bad else (ev cl a env).bind fun x => (ev cl b env).bind fun y => zipDD x y := rfl
@[simp] theorem x_asg : ex cl (.asg i e) env = (evV cl e env).bind fun d => .ok (.nx (env.set i (.val d))) := rfl
@[simp] theorem x_own : ex cl (.own i e) env = if e.isNew then (ev cl e env).bind fun d => (lstD d).bind fun ds => .ok (.nx (env.set i (.own ds))) else .bad := rfl
@[simp] theorem x_ownP {j : Nat} {e : CE} : ex cl (.ownP i j e) env = (evV cl e env).bind fun d => if i = j then .bad else .ok (.nx ((env.set i (.val d)).set j (.own []))) := rfl
@[simp] theorem x_ownQ {j : Nat} {e : CE} : ex cl (.ownQ i j e) env = (evV cl e env).bind fun d => if i = j then .bad else .ok (.nx ((env.set i (.val d)).set j (.own []))) := rfl
@[simp] theorem x_own2 {j : Nat} : ex cl (.own2 i j) env = if i = j then .bad else .ok (.nx ((env.set i (.own [])).set j (.own []))) := rfl
@[simp] theorem x_par {sw : Bool} {is : List Nat} : ex cl (.par sw is es) env = if (sw = true ∧ is.length ≠ 2 ∧ is.length ≠ 3) ∨ 1000 < is.length then .bad else (evs cl es env).bind fun ds => (setAll is ds env).bind fun env' => .ok (.nx env') := rfl
@[simp] theorem x_unp {t : Tg} : ex cl (.unp t e) env = (evV cl e env).bind fun d => (setTg t d env).bind fun env' => .ok (.nx env') := rfl
@[simp] theorem x_app : ex cl (.app i e) env = (slotO env[i]?).bind fun ds => (evV cl e env).bind fun d => if ds.length < lim then .ok (.nx (env.set i (.own (ds ++ [d])))) else .bad := rfl
@[simp] theorem x_ext : ex cl (.ext i e) env = (slotO env[i]?).bind fun ds => (ev cl e env).bind fun d => (lstD d).bind fun es => if ds.length + es.length ≤ lim then .ok (.nx (env.set i (.own (ds ++ es)))) else .bad := rfl
@[simp] theorem x_six : ex cl (.six i a e) env = (slotO env[i]?).bind fun ds => (evV cl e env).bind fun d => (ev cl a env).bind fun x => (intD x).bind fun k => (R.ofO (L2.ixN ds.length k)).bind fun j => .ok (.nx (env.set i (.own (ds.set j d)))) := rfl
@[simp] theorem x_ite {p q : CSs} : ex cl (.ite c p q) env = (evT cl c env).bind fun k => if k then exs cl p env else exs cl q env := rfl
@[simp] theorem x_for {t : Tg} {it : CI} {p : CSs} : ex cl (.forr t it p) env = if it.noBor then (evi cl it env).bind fun ds => forL (fun d e => (setTg t d e).bind fun e1 => exs cl p e1) ds env else .bad := rfl
@[simp] theorem x_whl {p : CSs} : ex cl (.whl c p) env = whileL (evT cl c) (exs cl p) whFuel env := rfl
@[simp] theorem x_ret : ex cl (.ret e) env = (evV cl e env).bind fun d => .ok (.rt d) := rfl
@[simp] theorem x_retO : ex cl (.retO i) env = (slotO env[i]?).bind fun ds => .ok (.rt (.lst ds)) := rfl
@[simp] theorem x_exp : ex cl (.exp e) env = (ev cl e env).bind fun _ => .ok (.nx env) := rfl
@[simp] theorem x_rse : ex cl (.rse i) env = .exc i := rfl
@[simp] theorem x_tryx {p : CSs} {h : HE} : ex cl (.tryx p i h) env = catchR (fun c => (R.ofO (evh c h)).bind fun d => .ok (.rt d)) (exs cl p env) := rfl
@[simp] theorem x_frz : ex cl (.frz i) env = (slotO env[i]?).bind fun ds => .ok (.nx (env.set i (.val (.lst ds)))) := rfl
@[simp] theorem xs_nil : exs cl .nil env = .ok (.nx env) := rfl
@[simp] theorem xs_cons {s : CS} {p : CSs} : exs cl (.cons s p) env = (ex cl s env).bind (Fl.next fun env' => exs cl p env') := rfl
@[simp] theorem v_T : evT cl e env = if e.isTest then (ev cl e env).bind boolD else .bad := rfl
@[simp] theorem v_V : evV cl e env = if e.isBor then .bad else ev cl e env := rfl
end
@[simp] theorem next_nx {k : Env → R Fl} {env : Env} : Fl.next k (.nx env) = k env := rfl
@[simp] theorem next_rt {k : Env → R Fl} {d : D} : Fl.next k (.rt d) = .ok (.rt d) := rfl
@[simp] theorem catch_ok {α : Type} {f : Nat → R α} {x : α} : catchR f (.ok x) = .ok x := rfl
@[simp] theorem catch_exc {α : Type} {f : Nat → R α} {c : Nat} : catchR f (.exc c) = f c := rfl
@[simp] theorem outR_nx {env : Env} : outR (.ok (.nx env)) = .ok .non := rfl
@[simp] theorem outR_rt {d : D} : outR (.ok (.rt d)) = .ok d := rfl
@[simp] theorem outR_exc {c : Nat} : outR (.exc c) = .exc c := rfl
@[simp] theorem slotV_val {d : D} : slotV (some (.val d)) = .ok d := rfl
@[simp] theorem slotO_own {ds : List D} : slotO (some (.own ds)) = .ok ds := rfl
@[simp] theorem intD_int {i : Int} : intD (.int i) = .ok i := rfl
@[simp] theorem boolD_bl {k : Bool} : boolD (.bl k) = .ok k := rfl
@[simp] theorem lstD_lst {a : List D} : lstD (.lst a) = .ok a := rfl
@[simp] theorem strI_str {x : Str} : strI (.str x) = .ok (strD x) := rfl
@[simp] theorem tupD_tup {a : List D} : tupD (.tup a) = .ok a := rfl
@[simp] theorem setAll_nil {env : Env} : setAll [] [] env = .ok env := rfl
@[simp] theorem setAll_cons {i : Nat} {is : List Nat} {d : D} {ds : List D} {env : Env} : setAll (i :: is) (d :: ds) env = setAll is ds (env.set i (.val d)) := rfl
@[simp] theorem setTg_nm {i : Nat} {d : D} {env : Env} : setTg (.nm i) d env = .ok (env.set i (.val d)) := rfl
@[simp] theorem setTg_tp {is : List Nat} {ds : List D} {env : Env} : setTg (.tp is) (.tup ds) env = setAll is ds env := rfl
@[simp] theorem setTg_tpL {is : List Nat} {ds : List D} {env : Env} : setTg (.tp is) (.lst ds) env = setAll is ds env := rfl
@[simp] theorem wipe_nil {env : Env} : wipeE env [] = env := rfl
@[simp] theorem wipe_cons {env : Env} {v : Nat} {vs : List Nat} : wipeE env (v :: vs) = (wipeE env vs).set v .no := rfl
@[simp] theorem inn_nm {i : Nat} {vs : List Nat} : Tg.inn (.nm i) vs = vs.contains i := rfl
@[simp] theorem inn_tp {is vs : List Nat} : Tg.inn (.tp is) vs = is.all vs.contains := rfl
@[simp] theorem bor_not {e : CE} : CE.isBor (.not e) = false := rfl
section
variable {a b c r : CE} {es : CEs} {i : Nat}
@[simp] theorem isBor_var : CE.isBor (.var i) = false := rfl
@[simp] theorem isBor_bor : CE.isBor (.bor i) = true := rfl
@[simp] theorem isBor_cst {k : Cst} : CE.isBor (.cst k) = false := rfl
@[simp] theorem isBor_glo {x : Str} {k : Cst} : CE.isBor (.glo x k) = false := rfl
@[simp] theorem isBor_bin {o : BOp} : CE.isBor (.bin o a b) = false := rfl
@[simp] theorem isBor_neg : CE.isBor (.neg a) = false := rfl
@[simp] theorem isBor_cmp {o : COp} : CE.isBor (.cmp o a b) = false := rfl
@[simp] theorem isBor_chn {o o' : COp} : CE.isBor (.chn o o' a b c) = false := rfl
@[simp] theorem isBor_and : CE.isBor (.and a r) = false := rfl
@[simp] theorem isBor_or : CE.isBor (.or a r) = false := rfl
@[simp] theorem isBor_one : CE.isBor (.one a) = false := rfl
@[simp] theorem isBor_ite : CE.isBor (.ite c a b) = false := rfl
@[simp] theorem isBor_tup : CE.isBor (.tup es) = false := rfl
@[simp] theorem isBor_lst : CE.isBor (.lst es) = false := rfl
@[simp] theorem isBor_idx : CE.isBor (.idx a b) = false := rfl
@[simp] theorem isBor_slc {lo hi : CO} : CE.isBor (.slc a lo hi) = false := rfl
@[simp] theorem isBor_revT : CE.isBor (.revT a) = false := rfl
@[simp] theorem isBor_rev : CE.isBor (.rev a) = false := rfl
@[simp] theorem isBor_call : CE.isBor (.call i es) = false := rfl
@[simp] theorem isBor_bi {t : Bi} : CE.isBor (.bi t es) = false := rfl
@[simp] theorem isBor_meth {t : Mt} : CE.isBor (.meth t a es) = false := rfl
@[simp] theorem isBor_rgl : CE.isBor (.rgl es) = false := rfl
@[simp] theorem isBor_rgt : CE.isBor (.rgt es) = false := rfl
@[simp] theorem isBor_lc {t : Tg} {it : CI} {co : CO} {vs : List Nat} : CE.isBor (.lc a t it co vs) = false := rfl
@[simp] theorem isBor_lc2 {t t1 : Tg} {it it1 : CI} {co co1 : CO} {vs vs1 : List Nat} : CE.isBor (.lc2 a t it co t1 it1 co1 vs vs1) = false := rfl
@[simp] theorem isNew_lc2 {t t1 : Tg} {it it1 : CI} {co co1 : CO} {vs vs1 : List Nat} : CE.isNew (.lc2 a t it co t1 it1 co1 vs vs1) = true := rfl
@[simp] theorem isBor_callD : CE.isBor (.callD i es) = false := rfl
@[simp] theorem memoR_int {v : Int} : memoR (.ok (.int v)) = .ok (.int v) := rfl
@[simp] theorem isBor_callAt {fs : List Nat} : CE.isBor (.callAt fs a es) = false := rfl
@[simp] theorem isBor_lset : CE.isBor (.lset a) = false := rfl
@[simp] theorem isNew_add : CE.isNew (.bin .add a b) = true := rfl
@[simp] theorem isBor_sset : CE.isBor (.sset a) = false := rfl
@[simp] theorem isBor_fld {i j : Nat} : CE.isBor (.fld i j) = false := rfl
@[simp] theorem isBor_mth {f : Nat} {m : Str} : CE.isBor (.mth f m a es) = false := rfl
@[simp] theorem isBor_new : CE.isBor (.new es) = false := rfl
@[simp] theorem isBor_eqO {ne : Bool} {f : Nat} : CE.isBor (.eqO ne f a b) = false := rfl
@[simp] theorem isBor_isB : CE.isBor (.isB i a) = false := rfl
@[simp] theorem isTest_eqO {ne : Bool} {f : Nat} : CE.isTest (.eqO ne f a b) = true := rfl
@[simp] theorem isTest_isB : CE.isTest (.isB i a) = true := rfl
@[simp] theorem isBor_lenO {f i : Nat} : CE.isBor (.lenO f i) = false := rfl
@[simp] theorem isBor_isi {t : Ty} : CE.isBor (.isi t a) = false := rfl
@[simp] theorem isTest_and : CE.isTest (.and a r) = (a.isTest && r.isTest) := rfl
@[simp] theorem isTest_or : CE.isTest (.or a r) = (a.isTest && r.isTest) := rfl
@[simp] theorem isTest_one : CE.isTest (.one a) = a.isTest := rfl
@[simp] theorem isTest_not : CE.isTest (.not a) = a.isTest := rfl
@[simp] theorem isTest_var : CE.isTest (.var i) = true := rfl
@[simp] theorem isTest_cmp {o : COp} : CE.isTest (.cmp o a b) = true := rfl
@[simp] theorem isTest_chn {o o' : COp} : CE.isTest (.chn o o' a b c) = true := rfl
@[simp] theorem isTest_call : CE.isTest (.call i es) = true := rfl
@[simp] theorem isTest_bi {t : Bi} : CE.isTest (.bi t es) = true := rfl
@[simp] theorem isTest_isi {t : Ty} : CE.isTest (.isi t a) = true := rfl
@[simp] theorem isTest_idx : CE.isTest (.idx a b) = true := rfl
@[simp] theorem isNew_lst : CE.isNew (.lst es) = true := rfl
@[simp] theorem isNew_lc {t : Tg} {it : CI} {co : CO} {vs : List Nat} : CE.isNew (.lc a t it co vs) = true := rfl
@[simp] theorem isNew_mul : CE.isNew (.bin .mul (.lst es) b) = true := rfl
@[simp] theorem noBor_lst : CI.noBor (.lst a) = !a.isBor := rfl
@[simp] theorem noBor_str : CI.noBor (.str a) = !a.isBor := rfl
@[simp] theorem noBor_enumS : CI.noBor (.enumS a) = !a.isBor := rfl
@[simp] theorem noBor_tup : CI.noBor (.tup a) = !a.isBor := rfl
@[simp] theorem noBor_rng : CI.noBor (.rng es) = true := rfl
@[simp] theorem noBor_enum : CI.noBor (.enum a) = !a.isBor := rfl
@[simp] theorem noBor_zip : CI.noBor (.zip a b) = (!a.isBor && !b.isBor) := rfl
@[simp] theorem cst_int {i : Int} : Cst.d (.int i) = .int i := rfl
@[simp] theorem cst_bl {i : Bool} : Cst.d (.bl i) = .bl i := rfl
@[simp] theorem cst_str {i : Str} : Cst.d (.str i) = .str i := rfl
@[simp] theorem cst_non : Cst.d .non = .non := rfl
end
/-! ### operators on whole numbers -/
@[simp] theorem b_add (i j : Int) : bopF .add (.int i) (.int j) = some (.int (i + j)) := rfl
@[simp] theorem b_sub (i j : Int) : bopF .sub (.int i) (.int j) = some (.int (i - j)) := rfl
theorem b_mulL (i j : Int) (h : -big < i ∧ i < big) : bopF .mul (.int i) (.int j) = some (.int (i * j)) := by simp [bopF, h]
theorem b_mulR (i j : Int) (h : -big < j ∧ j < big) : bopF .mul (.int i) (.int j) = some (.int (i * j)) := by simp [bopF, h]
theorem b_mod (i j : Int) (h : 0 < j) : bopF .mod (.int i) (.int j) = some (.int (i % j)) := by simp [bopF, h]
theorem b_fdiv (i j : Int) (h : 0 < j ∧ j < big) : bopF .fdiv (.int i) (.int j) = some (.int (i / j)) := by simp [bopF, h]
theorem b_addT (a b : List D) (h : a.length + b.length ≤ lim) : bopF .add (.tup a) (.tup b) = some (.tup (a ++ b)) := by simp [bopF, h]
theorem b_addL (a b : List D) (h : a.length + b.length ≤ lim) : bopF .add (.lst a) (.lst b) = some (.lst (a ++ b)) := by simp [bopF, h]
@[simp] theorem c_lt (i j : Int) : copF .lt (.int i) (.int j) = some (decide (i < j)) := rfl
@[simp] theorem c_le (i j : Int) : copF .le (.int i) (.int j) = some (decide (i ≤ j)) := rfl
@[simp] theorem c_gt (i j : Int) : copF .gt (.int i) (.int j) = some (decide (j < i)) := rfl
@[simp] theorem c_ge (i j : Int) : copF .ge (.int i) (.int j) = some (decide (j ≤ i)) := rfl
@[simp] theorem c_isb (i j : Bool) : copF .is (.bl i) (.bl j) = some (decide (i = j)) := rfl
@[simp] theorem c_isnb (i j : Bool) : copF .isnot (.bl i) (.bl j) = some (!decide (i = j)) := rfl
/-! ### equality: encodings -/
def EqE {α : Type} [DecidableEq α] (f : α → D) : Prop := ∀ a b, deq (f a) (f b) = decide (a = b)
def OkE {α : Type} (n : Nat) (f : α → D) : Prop := ∀ a, (f a).pd.canLay0 = true ∧ (f a).pd.depth ≤ n
theorem eqE_int : EqE D.int := fun a b => by simp [deq, D.pd, PyData.eqv]; rfl
theorem eqE_bl : EqE D.bl := fun a b => by simp [deq, D.pd, PyData.eqv]; cases a <;> cases b <;> rfl
theorem eqvAll_enc {α : Type} [DecidableEq α] {f : α → D} (h : EqE f) : ∀ a b : List α, PyData.eqvAll (D.pds (a.map f)) (D.pds (b.map f)) = decide (a = b)
  | [], [] => by simp [D.pds, PyData.eqvAll]
  | [], _ :: _ => by simp [D.pds, PyData.eqvAll]
  | _ :: _, [] => by simp [D.pds, PyData.eqvAll]
  | x :: a, y :: b => by
    have e := h x y
    unfold deq at e
    simp only [List.map_cons, D.pds, PyData.eqvAll, e, eqvAll_enc h a b]
    by_cases h1 : x = y <;> by_cases h2 : a = b <;> simp [h1, h2]
theorem EqE.tup {α : Type} [DecidableEq α] {f : α → D} (h : EqE f) : EqE fun l : List α => D.tup (l.map f) := fun a b => by
  unfold deq
  simp only [D.pd, PyData.eqv]
  exact eqvAll_enc h a b
theorem EqE.lst {α : Type} [DecidableEq α] {f : α → D} (h : EqE f) : EqE fun l : List α => D.lst (l.map f) := fun a b => by
  unfold deq
  simp only [D.pd, PyData.eqv]
  exact eqvAll_enc h a b
theorem okE_int : OkE 0 D.int := fun a => by simp [D.pd, PyData.canLay0, PyData.depth]
theorem okE_bl : OkE 0 D.bl := fun a => by simp [D.pd, PyData.canLay0, PyData.depth]
theorem okAll_enc {α : Type} {f : α → D} {n : Nat} (h : OkE n f) : ∀ l : List α, PyData.canLayAll0 (D.pds (l.map f)) = true ∧ PyData.depthAll (D.pds (l.map f)) ≤ n
  | [] => by simp [D.pds, PyData.canLayAll0, PyData.depthAll]
  | x :: a => by
    have e := h x
    have r := okAll_enc h a
    simp only [List.map_cons, D.pds, PyData.canLayAll0, PyData.depthAll, e.1, r.1, Bool.and_self, true_and]
    omega
theorem OkE.tup {α : Type} {f : α → D} {n : Nat} (h : OkE n f) : OkE (n + 1) fun l : List α => D.tup (l.map f) := fun l => by
  have r := okAll_enc h l
  simp only [D.pd, PyData.canLay0, PyData.depth, r.1, true_and]
  omega
theorem OkE.lst {α : Type} {f : α → D} {n : Nat} (h : OkE n f) : OkE (n + 1) fun l : List α => D.lst (l.map f) := fun l => by
  have r := okAll_enc h l
  simp only [D.pd, PyData.canLay0, PyData.depth, r.1, true_and]
  omega
theorem OkE.ok {α : Type} {f : α → D} {n : Nat} (h : OkE n f) (hn : n ≤ 64) (a : α) : (f a).okD = true := by
  unfold D.okD SeqAt.shaped
  have := h a
  simp only [this.1, Bool.true_and, decide_eq_true_eq]
  omega
@[simp] theorem ok_int (i : Int) : (D.int i).okD = true := okE_int.ok (by decide) i
@[simp] theorem ok_bl (i : Bool) : (D.bl i).okD = true := okE_bl.ok (by decide) i
@[simp] theorem ok_tI (l : List Int) : (D.tup (l.map D.int)).okD = true := okE_int.tup.ok (by decide) l
@[simp] theorem ok_lI (l : List Int) : (D.lst (l.map D.int)).okD = true := okE_int.lst.ok (by decide) l
@[simp] theorem ok_lB (l : List Bool) : (D.lst (l.map D.bl)).okD = true := okE_bl.lst.ok (by decide) l
@[simp] theorem ok_lT (l : List (List Int)) : (D.lst (l.map fun t => D.tup (t.map D.int))).okD = true := okE_int.tup.lst.ok (by decide) l
@[simp] theorem ok_nilL : (D.lst []).okD = true := ok_lI []
@[simp] theorem ok_nilT : (D.tup []).okD = true := ok_tI []
@[simp] theorem eq_int (i j : Int) : deq (.int i) (.int j) = decide (i = j) := eqE_int i j
@[simp] theorem eq_bl (i j : Bool) : deq (.bl i) (.bl j) = decide (i = j) := eqE_bl i j
@[simp] theorem eq_tI (l m : List Int) : deq (.tup (l.map D.int)) (.tup (m.map D.int)) = decide (l = m) := eqE_int.tup l m
@[simp] theorem eq_lI (l m : List Int) : deq (.lst (l.map D.int)) (.lst (m.map D.int)) = decide (l = m) := eqE_int.lst l m
@[simp] theorem eq_lT (l m : List (List Int)) : deq (.lst (l.map fun t => D.tup (t.map D.int))) (.lst (m.map fun t => D.tup (t.map D.int))) = decide (l = m) := eqE_int.tup.lst l m
@[simp] theorem eq_tI_nil (l : List Int) : deq (.tup (l.map D.int)) (.tup []) = decide (l = []) := eqE_int.tup l []
@[simp] theorem eq_lI_nil (l : List Int) : deq (.lst (l.map D.int)) (.lst []) = decide (l = []) := eqE_int.lst l []
@[simp] theorem eq_lT_nil (l : List (List Int)) : deq (.lst (l.map fun t => D.tup (t.map D.int))) (.lst []) = decide (l = []) := eqE_int.tup.lst l []
theorem any_enc {α : Type} [DecidableEq α] {f : α → D} (h : EqE f) (l : List α) (a : α) : ((l.map f).any fun z => deq z (f a)) = decide (a ∈ l) := by
  rw [List.any_map]
  simp only [Function.comp_def, h _ _]
  rw [Bool.eq_iff_iff]
  simp
@[simp] theorem any_int (l : List Int) (a : Int) : ((l.map D.int).any fun z => deq z (.int a)) = decide (a ∈ l) := any_enc eqE_int l a
@[simp] theorem any_tI (l : List (List Int)) (a : List Int) : ((l.map fun t => D.tup (t.map D.int)).any fun z => deq z (.tup (a.map D.int))) = decide (a ∈ l) := (any_enc eqE_int.tup l a).trans (by simp)
@[simp] theorem c_eq {d e : D} (h : d.okD = true) (k : e.okD = true) : copF .eq d e = some (deq d e) := by simp [copF, h, k]
@[simp] theorem c_ne {d e : D} (h : d.okD = true) (k : e.okD = true) : copF .ne d e = some (!deq d e) := by simp [copF, h, k]
theorem c_inL {d : D} {ds : List D} (h : d.okD = true) (k : (D.lst ds).okD = true) : copF .isin d (.lst ds) = some (ds.any fun z => deq z d) := by cases d <;> simp [copF, h, k]
theorem c_inT {d : D} {ds : List D} (h : d.okD = true) (k : (D.tup ds).okD = true) : copF .isin d (.tup ds) = some (ds.any fun z => deq z d) := by cases d <;> simp [copF, h, k]
theorem c_ninL {d : D} {ds : List D} (h : d.okD = true) (k : (D.lst ds).okD = true) : copF .notin d (.lst ds) = some (!ds.any fun z => deq z d) := by cases d <;> simp [copF, h, k]
theorem c_ninT {d : D} {ds : List D} (h : d.okD = true) (k : (D.tup ds).okD = true) : copF .notin d (.tup ds) = some (!ds.any fun z => deq z d) := by cases d <;> simp [copF, h, k]
/-! ### built-ins -/
@[simp] theorem bi_lenT (a : List D) : biF .len [.tup a] = some (.int a.length) := rfl
@[simp] theorem bi_lenL (a : List D) : biF .len [.lst a] = some (.int a.length) := rfl
@[simp] theorem bi_lenS (a : List Int) : biF .len [.scr a] = some (.int a.length) := rfl
@[simp] theorem bi_sum (a : List Int) : biF .sum [.lst (a.map D.int)] = some (.int a.sum) := by simp [biF, ints?_map]
@[simp] theorem bi_all (a : List Bool) : biF .all [.lst (a.map D.bl)] = some (.bl (a.all id)) := by simp [biF, bools?_map]
@[simp] theorem bi_any (a : List Bool) : biF .any [.lst (a.map D.bl)] = some (.bl (a.any id)) := by simp [biF, bools?_map]
@[simp] theorem bi_tupL (a : List D) : biF .tuple [.lst a] = some (.tup a) := rfl
@[simp] theorem bi_tupT (a : List D) : biF .tuple [.tup a] = some (.tup a) := rfl
@[simp] theorem bi_lstL (a : List D) : biF .list [.lst a] = some (.lst a) := rfl
@[simp] theorem bi_lstT (a : List D) : biF .list [.tup a] = some (.lst a) := rfl
@[simp] theorem bi_int (i : Int) : biF .int [.int i] = some (.int i) := rfl
@[simp] theorem bi_min2 (i j : Int) : biF .min [.int i, .int j] = some (.int (if j < i then j else i)) := rfl
@[simp] theorem bi_max2 (i j : Int) : biF .max [.int i, .int j] = some (.int (if j > i then j else i)) := rfl
theorem rgD_is (a b : Int) (h : -100000 ≤ a ∧ a ≤ 100000 ∧ -100000 ≤ b ∧ b ≤ 100000) : rgD a b = .ok ((rgI a b).map D.int) := by simp [rgD, okRg, h]
theorem mem_rgI {a b x : Int} : x ∈ rgI a b ↔ a ≤ x ∧ x < b := by
  unfold rgI
  simp only [List.mem_map, List.mem_range]
  constructor
  · rintro ⟨n, h, rfl⟩
    omega
  · rintro ⟨h1, h2⟩
    exact ⟨(x - a).toNat, by omega, by omega⟩
@[simp] theorem length_rgI (a b : Int) : (rgI a b).length = (b - a).toNat := by simp [rgI]
/-! ### loops -/
theorem comp_map {α : Type} {f : D → R (Option D)} {e : α → D} {g : α → Option D} : ∀ {l : List α}, (∀ x ∈ l, f (e x) = .ok (g x)) → comp f (l.map e) = .ok (l.filterMap g)
  | [], _ => rfl
  | x :: l, h => by
    have r := comp_map (l := l) fun y hy => h y (List.mem_cons_of_mem _ hy)
    simp only [List.map_cons, comp, h x List.mem_cons_self, r, R.bind_ok]
    cases q : g x with
    | none => simp [optL, q]
    | some y => simp [optL, q]
section
variable {cl : Nat → List D → R D} {env : Env} {elt ce : CE} {t : Tg} {it : CI} {vs : List Nat} {α : Type} {l : List α} {e : α → D} {d : α → D}
theorem lc_map (hi : evi cl it env = .ok (l.map e)) (hl : l.length ≤ lim) (ht : t.inn vs = true) (hb : elt.isBor = false) (h : ∀ x ∈ l, ((setTg t (e x) (wipeE env vs)).bind fun e1 => ev cl elt e1) = .ok (d x)) : ev cl (.lc elt t it .none vs) env = .ok (.lst (l.map d)) := by
  show (evi cl it env).bind _ = _
  rw [hi, R.bind_ok, if_pos ⟨by simpa using hl, ht, hb⟩, comp_map (g := fun x => some (d x)) fun x hx => ?_]
  · simp
  · have := h x hx
    cases q : setTg t (e x) (wipeE env vs) with
    | ok e1 => rw [q] at this; simp only [R.bind_ok] at this ⊢; simp [optB, this]
    | exc c => rw [q] at this; cases this
    | bad => rw [q] at this; cases this
theorem lc_filter {c : α → Bool} (hi : evi cl it env = .ok (l.map e)) (hl : l.length ≤ lim) (ht : t.inn vs = true) (hb : elt.isBor = false) (hc : ∀ x ∈ l, ((setTg t (e x) (wipeE env vs)).bind fun e1 => evt cl (.some ce) e1) = .ok (c x))
    (h : ∀ x ∈ l, c x = true → ((setTg t (e x) (wipeE env vs)).bind fun e1 => ev cl elt e1) = .ok (d x)) : ev cl (.lc elt t it (.some ce) vs) env = .ok (.lst ((l.filter c).map d)) := by
  show (evi cl it env).bind _ = _
  rw [hi, R.bind_ok, if_pos ⟨by simpa using hl, ht, hb⟩, comp_map (g := fun x => if c x then some (d x) else none) fun x hx => ?_]
  · simp only [R.bind_ok]
    congr 2
    rw [← List.filterMap_eq_map, List.filterMap_filter]
    rfl
  · have h1 := hc x hx
    have h2 := h x hx
    cases q : setTg t (e x) (wipeE env vs) with
    | ok e1 =>
      rw [q] at h1 h2
      simp only [R.bind_ok] at h1 h2 ⊢
      rw [h1]
      cases hb : c x with
      | false => rfl
      | true => simp [optB, h2 hb]
    | exc c => rw [q] at h1; cases h1
    | bad => rw [q] at h1; cases h1
end
/-- a loop that keeps I -/
theorem for_inv {α : Type} {f : D → Env → R Fl} {e : α → D} (I : Env → Prop) : ∀ {l : List α}, (∀ x ∈ l, ∀ env, I env → ∃ env', f (e x) env = .ok (.nx env') ∧ I env') → ∀ env, I env → ∃ env', forL f (l.map e) env = .ok (.nx env') ∧ I env'
  | [], _, env, h => ⟨env, rfl, h⟩
  | x :: l, h, env, hI => by
    obtain ⟨e1, h1, h2⟩ := h x List.mem_cons_self env hI
    obtain ⟨e2, h3, h4⟩ := for_inv I (fun y hy => h y (List.mem_cons_of_mem _ hy)) e1 h2
    exact ⟨e2, by simp [forL, h1, h3], h4⟩
theorem exs_nx {cl : Nat → List D → R D} {s : CS} {p : CSs} {env e1 : Env} (h : ex cl s env = .ok (.nx e1)) : exs cl (.cons s p) env = exs cl p e1 := by simp [h]
theorem run_eq {G : Tab} {f : Nat} {F : Fn} {ds : List D} {k : Nat} (h : G f = some F) (hl : ds.length = F.np) : run G (k + 1) f ds = outR (exs (run G k) F.body (startE F.np F.ns ds)) := by
  simp [run, h, hl]
end Cl
set_option Elab.async false
set_option linter.all false
set_option maxRecDepth 100000
set_option maxHeartbeats 1000000
namespace Cl
open PySem
/-! ### better served calls give the same answers -/
def Rle {α : Type} (r r' : R α) : Prop := r = .bad ∨ r = r'
theorem Rle.refl {α : Type} (r : R α) : Rle r r := .inr rfl
theorem Rle.bad {α : Type} {r : R α} : Rle .bad r := .inl rfl
theorem Rle.ok {α : Type} {r r' : R α} {a : α} (h : Rle r r') (e : r = .ok a) : r' = .ok a := by
  rcases h with h | h
  · rw [h] at e; cases e
  · rw [← h]; exact e
theorem Rle.bind {α β : Type} {r r' : R α} {f f' : α → R β} (h : Rle r r') (g : ∀ a, Rle (f a) (f' a)) : Rle (r.bind f) (r'.bind f') := by
  rcases h with rfl | rfl
  · exact .inl rfl
  · cases r with
    | ok a => exact g a
    | exc c => exact .inr rfl
    | bad => exact .inl rfl
theorem Rle.ite {α : Type} {c : Prop} [Decidable c] {a a' b b' : R α} (h : Rle a a') (g : Rle b b') : Rle (if c then a else b) (if c then a' else b') := by
  split
  · exact h
  · exact g
theorem Rle.bind_r {α β : Type} {r r' : R α} {f : α → R β} (h : Rle r r') : Rle (r.bind f) (r'.bind f) := h.bind fun _ => .refl _
theorem Rle.bind_l {α β : Type} {r : R α} {f f' : α → R β} (g : ∀ a, Rle (f a) (f' a)) : Rle (r.bind f) (r.bind f') := (Rle.refl r).bind g
theorem comp_mono {f f' : D → R (Option D)} (h : ∀ d, Rle (f d) (f' d)) : ∀ l, Rle (comp f l) (comp f' l)
  | [] => .refl _
  | x :: r => by
    simp only [comp]
    rcases h x with e | e
    · rw [e]; exact .bad
    · rw [← e]
      cases f x with
      | ok o => exact (comp_mono h r).bind_r
      | exc c => exact .refl _
      | bad => exact .refl _
theorem compCat_mono {f f' : D → R (List D)} (h : ∀ d, Rle (f d) (f' d)) : ∀ l, Rle (compCat f l) (compCat f' l)
  | [] => .refl _
  | x :: r => by
    simp only [compCat]
    rcases h x with e | e
    · rw [e]; exact .bad
    · rw [← e]
      cases f x with
      | ok o => exact (compCat_mono h r).bind_r
      | exc c => exact .refl _
      | bad => exact .refl _
theorem memoR_mono {r r' : R D} (h : Rle r r') : Rle (memoR r) (memoR r') := by
  rcases h with e | e
  · rw [e]; exact .bad
  · rw [e]; exact .refl _
def Le (cl cl' : Nat → List D → R D) : Prop := ∀ f ds, Rle (cl f ds) (cl' f ds)
section
variable {cl cl' : Nat → List D → R D} (h : Le cl cl')
include h
omit h in
theorem newD_mono (h : Le cl cl') : ∀ ds : List D, Rle (newD cl ds) (newD cl' ds)
  | [c, r] => (h 900 [c, r]).bind fun _ => .refl _
  | [] => .refl _
  | [_] => .refl _
  | _ :: _ :: _ :: _ => .refl _
omit h in
theorem blR_mono {ne : Bool} {r r' : R D} (g : Rle r r') : Rle (blR ne r) (blR ne r') := by
  rcases g with e | e
  · rw [e]; exact .bad
  · rw [e]; exact .refl _
omit h in
theorem eqD_mono (h : Le cl cl') (ne : Bool) (f : Nat) (x y : D) : Rle (eqD cl ne f x y) (eqD cl' ne f x y) := .ite (blR_mono (h f [x, y])) (.refl _)
mutual
theorem ev_mono : ∀ (e : CE) (env : Env), Rle (ev cl e env) (ev cl' e env)
  | .var i, env => .refl _
  | .bor i, env => .refl _
  | .cst c, env => .refl _
  | .glo _ c, env => .refl _
  | .bin op a b, env => (ev_mono a env).bind fun _ => (ev_mono b env).bind_r
  | .neg a, env => (ev_mono a env).bind_r
  | .cmp op a b, env => (ev_mono a env).bind fun _ => (ev_mono b env).bind_r
  | .chn op op' a b c, env => (ev_mono a env).bind fun _ => (ev_mono b env).bind fun _ => Rle.bind_l fun _ => .ite (ev_mono c env).bind_r (.refl _)
  | .and a r, env => (ev_mono a env).bind fun _ => Rle.bind_l fun _ => .ite (.ite (.refl _) (ev_mono r env)) (.refl _)
  | .or a r, env => (ev_mono a env).bind fun _ => Rle.bind_l fun _ => .ite (.refl _) (.ite (.refl _) (ev_mono r env))
  | .one a, env => .ite (.refl _) (ev_mono a env)
  | .not a, env => (ev_mono a env).bind_r
  | .ite c a b, env => Rle.bind (.ite (ev_mono c env).bind_r (.refl _)) fun _ => .ite (.ite (.refl _) (ev_mono a env)) (.ite (.refl _) (ev_mono b env))
  | .tup es, env => (evs_mono es env).bind_r
  | .lst es, env => (evs_mono es env).bind_r
  | .idx a b, env => (ev_mono a env).bind fun _ => (ev_mono b env).bind_r
  | .slc a lo hi, env => (ev_mono a env).bind fun _ => (evo_mono lo env).bind fun _ => (evo_mono hi env).bind_r
  | .rev a, env => (ev_mono a env).bind_r
  | .revT a, env => (ev_mono a env).bind_r
  | .call f es, env => (evs_mono es env).bind fun ds => h f ds
  | .callD f es, env => (evs_mono es env).bind fun ds => .ite (memoR_mono (h f ds)) (.refl _)
  | .callAt fs ix es, env => .ite ((ev_mono ix env).bind fun _ => Rle.bind_l fun _ => Rle.bind_l fun f => (evs_mono es env).bind fun ds => h f ds) (.refl _)
  | .bi b es, env => (evb_mono es env).bind_r
  | .meth m o es, env => (ev_mono o env).bind fun _ => .ite (evb_mono es env).bind_r (.refl _)
  | .rgl es, env => (evr_mono es env).bind_r
  | .rgt es, env => by
    unfold ev
    split
    · exact .refl _
    · exact (evr_mono es env).bind_r
  | .lc elt t it c vs, env => (evi_mono it env).bind fun ds => .ite ((comp_mono (fun d => Rle.bind_l fun e1 => (evt_mono c e1).bind fun k => .ite (ev_mono elt e1).bind_r (.refl _)) ds).bind_r) (.refl _)
  | .lc2 elt t it c t1 it1 c1 vs vs1, env => (evi_mono it env).bind fun ds => .ite ((compCat_mono (fun d => Rle.bind_l fun e1 => (evt_mono c e1).bind fun k => .ite ((evi_mono it1 e1).bind fun ds1 => comp_mono (fun d1 => Rle.bind_l fun e2 => (evt_mono c1 e2).bind fun k => .ite (ev_mono elt e2).bind_r (.refl _)) ds1) (.refl _)) ds).bind_r) (.refl _)
  | .sset e, env => (ev_mono e env).bind_r
  | .lset e, env => (ev_mono e env).bind_r
  | .isi t e, env => (ev_mono e env).bind_r
  | .fld _ _, _ => .refl _
  | .lenO f i, env => (Rle.refl _).bind fun d => .ite ((h f [d]).bind fun _ => .refl _) (.refl _)
  | .mth f m o es, env => .ite (.refl _) ((ev_mono o env).bind fun d => .ite ((evs_mono es env).bind fun ds => h f (d :: ds)) (.refl _))
  | .new es, env => (evs_mono es env).bind fun ds => newD_mono h ds
  | .eqO ne f a b, env => .ite (.refl _) ((ev_mono a env).bind fun x => (ev_mono b env).bind fun y => eqD_mono h ne f x y)
  | .isB i e, env => .ite (.refl _) (Rle.bind_l fun s => (ev_mono e env).bind fun x => .refl _)
theorem evs_mono : ∀ (es : CEs) (env : Env), Rle (evs cl es env) (evs cl' es env)
  | .nil, env => .refl _
  | .cons e r, env => .ite (.refl _) ((ev_mono e env).bind fun _ => (evs_mono r env).bind_r)
theorem evb_mono : ∀ (es : CEs) (env : Env), Rle (evb cl es env) (evb cl' es env)
  | .nil, env => .refl _
  | .cons e r, env => (ev_mono e env).bind fun _ => (evb_mono r env).bind_r
theorem evo_mono : ∀ (es : CO) (env : Env), Rle (evo cl es env) (evo cl' es env)
  | .none, env => .refl _
  | .some e, env => (ev_mono e env).bind_r
theorem evt_mono : ∀ (es : CO) (env : Env), Rle (evt cl es env) (evt cl' es env)
  | .none, env => .refl _
  | .some e, env => .ite (ev_mono e env).bind_r (.refl _)
theorem evr_mono : ∀ (es : CEs) (env : Env), Rle (evr cl es env) (evr cl' es env)
  | .nil, env => .refl _
  | .cons a .nil, env => (ev_mono a env).bind_r
  | .cons a (.cons b .nil), env => (ev_mono a env).bind fun _ => (ev_mono b env).bind_r
  | .cons a (.cons b (.cons c .nil)), env => (ev_mono a env).bind fun _ => (ev_mono b env).bind fun _ => (ev_mono c env).bind_r
  | .cons a (.cons b (.cons c (.cons d r))), env => .refl _
theorem evi_mono : ∀ (es : CI) (env : Env), Rle (evi cl es env) (evi cl' es env)
  | .lst e, env => (ev_mono e env).bind_r
  | .tup e, env => (ev_mono e env).bind_r
  | .str e, env => (ev_mono e env).bind_r
  | .rng es, env => evr_mono es env
  | .enum e, env => (ev_mono e env).bind_r
  | .enumS e, env => (ev_mono e env).bind_r
  | .zip a b, env => .ite (.refl _) (.ite (.refl _) ((ev_mono a env).bind fun _ => (ev_mono b env).bind_r))
end
theorem evT_mono (e : CE) (env : Env) : Rle (evT cl e env) (evT cl' e env) := .ite (ev_mono h e env).bind_r (.refl _)
theorem evV_mono (e : CE) (env : Env) : Rle (evV cl e env) (evV cl' e env) := .ite (.refl _) (ev_mono h e env)
omit h in
theorem next_mono {k k' : Env → R Fl} (g : ∀ e, Rle (k e) (k' e)) : ∀ f, Rle (Fl.next k f) (Fl.next k' f)
  | .nx e => g e
  | .rt d => .refl _
omit h in
theorem forL_mono {f f' : D → Env → R Fl} (g : ∀ d e, Rle (f d e) (f' d e)) : ∀ l e, Rle (forL f l e) (forL f' l e)
  | [], e => .refl _
  | d :: r, e => (g d e).bind (next_mono (forL_mono g r))
omit h in
theorem whileL_mono {c c' : Env → R Bool} {f f' : Env → R Fl} (hc : ∀ e, Rle (c e) (c' e)) (g : ∀ e, Rle (f e) (f' e)) : ∀ n e, Rle (whileL c f n e) (whileL c' f' n e)
  | 0, e => .refl _
  | n + 1, e => (hc e).bind fun _ => .ite ((g e).bind (next_mono (whileL_mono hc g n))) (.refl _)
omit h in
theorem catch_mono {α : Type} {f : Nat → R α} {r r' : R α} (g : Rle r r') : Rle (catchR f r) (catchR f r') := by
  rcases g with e | e
  · rw [e]; exact .bad
  · rw [e]; exact .refl _
mutual
theorem ex_mono : ∀ (s : CS) (env : Env), Rle (ex cl s env) (ex cl' s env)
  | .asg i e, env => (evV_mono h e env).bind_r
  | .own i e, env => .ite (ev_mono h e env).bind_r (.refl _)
  | .own2 i j, env => .refl _
  | .ownP i j e, env => (evV_mono h e env).bind_r
  | .ownQ i j e, env => (evV_mono h e env).bind_r
  | .par sw is es, env => .ite (.refl _) (evs_mono h es env).bind_r
  | .unp t e, env => (evV_mono h e env).bind_r
  | .app i e, env => Rle.bind_l fun _ => (evV_mono h e env).bind_r
  | .ext i e, env => Rle.bind_l fun _ => (ev_mono h e env).bind_r
  | .six i a e, env => Rle.bind_l fun _ => (evV_mono h e env).bind fun _ => (ev_mono h a env).bind_r
  | .ite c a b, env => (evT_mono h c env).bind fun _ => .ite (exs_mono a env) (exs_mono b env)
  | .forr t it b, env => .ite ((evi_mono h it env).bind fun ds => forL_mono (fun _ _ => Rle.bind_l fun e1 => exs_mono b e1) ds env) (.refl _)
  | .whl c b, env => whileL_mono (evT_mono h c) (exs_mono b) _ _
  | .ret e, env => (evV_mono h e env).bind_r
  | .retO i, env => .refl _
  | .exp e, env => (ev_mono h e env).bind_r
  | .rse c, _ => .refl _
  | .frz i, env => .refl _
  | .tryx b i hh, env => catch_mono (exs_mono b env)
theorem exs_mono : ∀ (s : CSs) (env : Env), Rle (exs cl s env) (exs cl' s env)
  | .nil, env => .refl _
  | .cons s r, env => (ex_mono s env).bind (next_mono (exs_mono r))
end
end
theorem outR_mono {r r' : R Fl} (g : Rle r r') : Rle (outR r) (outR r') := by
  rcases g with e | e
  · rw [e]; exact .bad
  · rw [e]; exact .refl _
theorem run_step {G : Tab} {a b : Nat} (h : Le (run G a) (run G b)) : Le (run G (a + 1)) (run G (b + 1)) := fun f ds =>
  Rle.bind_l fun F => .ite (outR_mono (exs_mono h _ _)) (.refl _)
theorem run_mono1 {G : Tab} : ∀ k, Le (run G k) (run G (k + 1))
  | 0 => fun f ds => .bad
  | k + 1 => run_step (run_mono1 k)
theorem Le.trans {a b c : Nat → List D → R D} (h : Le a b) (g : Le b c) : Le a c := fun f ds => by
  rcases h f ds with e | e
  · exact .inl e
  · rw [e]; exact g f ds
theorem run_mono {G : Tab} (k : Nat) : ∀ n, Le (run G k) (run G (k + n))
  | 0 => fun f ds => .refl _
  | n + 1 => (run_mono k n).trans (run_mono1 (k + n))
/-- calls that O answers are not walked -/
def runO (O : Nat → List D → R D) (G : Tab) : Nat → Nat → List D → R D
  | 0, f, ds => O f ds
  | k + 1, f, ds => match O f ds with
    | .ok d => .ok d
    | .exc c => .exc c
    | .bad => (R.ofO (G f)).bind fun F => if ds.length = F.np then outR (exs (runO O G k) F.body (startE F.np F.ns ds)) else .bad
theorem runO_le {O : Nat → List D → R D} {G : Tab} {k : Nat} (h : Le O (run G k)) : ∀ n, Le (runO O G n) (run G (k + n))
  | 0 => h
  | n + 1 => fun f ds => by
    have h2 := h.trans (run_mono k (n + 1)) f ds
    unfold runO
    cases e : O f ds with
    | ok d => rw [e] at h2; exact h2
    | exc c => rw [e] at h2; exact h2
    | bad => exact Rle.bind_l fun F => .ite (outR_mono (exs_mono (runO_le h n) _ _)) (.refl _)
end Cl
set_option Elab.async false
set_option linter.all false
set_option maxRecDepth 100000
set_option maxHeartbeats 4000000
namespace Cl
open PySem PySem.Spec PyProof.Rows L2 RZ
/-! ### a def with a table of known answers: the table at a changes, nothing else -/
structure ExtV (a : Addr) (P0 H0 P H : Hp) : Prop where
  h : ∀ b u, b ≠ a → H0 b = some u → H b = some u
  p : Ex P0 P
  ph : Ex P H
  fr : ∀ b, b ≠ a → P0 b = none → H0 b ≠ none → P b = none
  pa : P a = none
section
variable {a : Addr} {P0 H0 P H P' H' : Hp}
theorem ExtV.refl (e : Ex P H) (hp : P a = none) : ExtV a P H P H := ⟨fun _ _ _ h => h, Same.refl P, e, fun _ _ h _ => h, hp⟩
theorem ExtV.step (x : ExtV a P0 H0 P H) (ha : H a ≠ none) (e : Ext P H P' H') : ExtV a P0 H0 P' H' :=
  ⟨fun b u hb q => e.h b u (x.h b u hb q), x.p.trans e.p, e.ph, fun b hb q1 q2 => e.fr b (x.fr b hb q1 q2) (by
    cases hq : H0 b with
    | none => exact absurd hq q2
    | some u => rw [x.h b u hb hq]; simp), e.fr a x.pa ha⟩
theorem ExtV.trans {P2 H2 : Hp} (x : ExtV a P0 H0 P H) (y : ExtV a P H P2 H2) : ExtV a P0 H0 P2 H2 :=
  ⟨fun b u hb q => y.h b u hb (x.h b u hb q), x.p.trans y.p, y.ph, fun b hb q1 q2 => y.fr b hb (x.fr b hb q1 q2) (by
    cases hq : H0 b with
    | none => exact absurd hq q2
    | some u => rw [x.h b u hb hq]; simp), y.pa⟩
theorem ExtV.put (x : ExtV a P0 H0 P H) (o : HO) : ExtV a P0 H0 P (upd H a o) :=
  ⟨fun b u hb q => by rw [upd_ne hb]; exact x.h b u hb q, x.p, fun b u q => by
    have nb : b ≠ a := fun z => by rw [z, x.pa] at q; cases q
    rw [upd_ne nb]; exact x.ph b u q, x.fr, x.pa⟩
/-- a new table: what is seen from outside -/
theorem ExtV.out {d : Addr} {o : HO} (hd : H d = none) (x : ExtV d P (upd H d o) P' H') : Ext P H P' H' :=
  ⟨fun b u q => by
    have nb : b ≠ d := ne_of_none q hd
    exact x.h b u nb (by rw [upd_ne nb]; exact q), x.p, x.ph, fun b q1 q2 => by
    have nb : b ≠ d := fun z => q2 (by rw [z]; exact hd)
    exact x.fr b nb q1 (by rw [upd_ne nb]; exact q2)⟩
end
def MemoOk (G : Tab) (f : Nat) (td : D) (base : List Int) (kvs : List (List Key × V)) : Prop :=
  (kvs.map (·.1)).Nodup ∧ ∀ p ∈ kvs, ∃ (ns : List Int) (v : Int) (j : Nat), p.1 = ns.map Sum.inl ∧ p.2 = .int v ∧ ns.Sublist base ∧ run G j f [td, .tup (ns.map D.int)] = .ok (.int v)
def spD (K : W.Frag) (G : Tab) (k f : Nat) : Sp := fun vs H Q _ => ∃ (P : Hp) (td : D) (v0 v1 : V) (ns base : List Int) (a : Addr) (kvs : List (List Key × V)) (i : Int), vs = [v0, v1, .ref a] ∧ Ex P H ∧ Rep K P td v0 ∧ Rep K P (.tup (ns.map D.int)) v1 ∧ P a = none ∧ H a = some (.dT kvs) ∧ MemoOk G f td base kvs ∧ ns.Sublist base ∧ base.length ≤ 20 ∧
  run G k f [td, .tup (ns.map D.int)] = .ok (.int i) ∧ ∀ P' H' kvs', ExtV a P H P' H' → H' a = some (.dT kvs') → MemoOk G f td base kvs' → Q (.int i) H'
/-- the call from outside -/
theorem spD_call {K : W.Frag} {G : Tab} {k f : Nat} {P H : Hp} {ds : List D} {vs : List V} {d : Addr} {i : Int} {Q : VK} {Ex' : XK} (e : Ex P H) (r : Reps K P ds vs) (hd : H d = none) (hm : memoArgs ds = true) (hc : run G k f ds = .ok (.int i)) (q : ∀ P' H', Ext P H P' H' → Q (.int i) H') : spD K G k f (vs ++ [.ref d]) (upd H d (.dT [])) Q Ex' := by
  unfold memoArgs at hm
  split at hm
  · rename_i td as
    simp only [Bool.and_eq_true, decide_eq_true_eq] at hm
    obtain ⟨ns, hn⟩ := Option.isSome_iff_exists.mp hm.1
    obtain rfl := ints?_some hn
    match vs, r with
    | [v0, v1], .cons r0 (.cons r1 .nil) =>
      refine ⟨P, td, v0, v1, ns, ns, d, [], i, rfl, fun b u z => ?_, r0, r1, e.free hd, upd_same, ⟨List.nodup_nil, fun p hp => by cases hp⟩, List.Sublist.refl _, by simpa using hm.2, hc, fun P' H' kvs' x _ _ => q P' H' (x.out hd)⟩
      rw [upd_ne (ne_of_none (e b u z) hd)]
      exact e b u z
  · cases hm
/-! how large the table grows -/
def sl : List Int → List (List Int)
  | [] => [[]]
  | x :: r => sl r ++ (sl r).map (x :: ·)
theorem mem_sl : ∀ {l s : List Int}, s.Sublist l → s ∈ sl l
  | _, _, .slnil => by simp [sl]
  | _, _, .cons x h => List.mem_append_left _ (mem_sl h)
  | _, _, .cons₂ x h => List.mem_append_right _ (List.mem_map.mpr ⟨_, mem_sl h, rfl⟩)
theorem sl_len : ∀ l : List Int, (sl l).length = 2 ^ l.length
  | [] => rfl
  | x :: r => by rw [sl, List.length_append, List.length_map, sl_len r, List.length_cons, Nat.pow_succ]; omega
theorem nd_len {α : Type} [DecidableEq α] : ∀ {l m : List α}, l.Nodup → (∀ x ∈ l, x ∈ m) → l.length ≤ m.length
  | [], _, _, _ => Nat.zero_le _
  | x :: l, m, hn, h => by
    obtain ⟨h1, h2⟩ := List.nodup_cons.mp hn
    have hx := h x List.mem_cons_self
    have := nd_len (m := m.erase x) h2 fun y hy => by
      have hne : y ≠ x := fun z => h1 (z ▸ hy)
      exact (List.mem_erase_of_ne hne).mpr (h y (List.mem_cons_of_mem _ hy))
    rw [List.length_erase_of_mem hx] at this
    have hp := List.length_pos_of_mem hx
    rw [List.length_cons]
    omega
theorem inl_inj : ∀ {a b : List Int}, a.map (Sum.inl : Int → Key) = b.map Sum.inl → a = b
  | [], [], _ => rfl
  | [], _ :: _, h => by simp at h
  | _ :: _, [], h => by simp at h
  | x :: a, y :: b, h => by
    simp only [List.map_cons, List.cons.injEq, Sum.inl.injEq] at h
    rw [h.1, inl_inj h.2]
theorem MemoOk.len {G : Tab} {f : Nat} {td : D} {base : List Int} {kvs : List (List Key × V)} (h : MemoOk G f td base kvs) (hb : base.length ≤ 20) : kvs.length < sizeLine := by
  have : (kvs.map (·.1)).length ≤ ((sl base).map fun l => l.map (Sum.inl : Int → Key)).length := nd_len h.1 fun k hk => by
    obtain ⟨p, hp, rfl⟩ := List.mem_map.mp hk
    obtain ⟨ns, v, j, e1, _, e3, _⟩ := h.2 p hp
    rw [e1]
    exact List.mem_map.mpr ⟨ns, mem_sl e3, rfl⟩
  rw [List.length_map, List.length_map, sl_len] at this
  have h2 : 2 ^ base.length ≤ 2 ^ 20 := Nat.pow_le_pow_right (by decide) hb
  have h3 : (2 : Nat) ^ 20 < sizeLine := by rw [sizeLine_eq]; decide
  omega
theorem valV_mem {κ : Type} [DecidableEq κ] {kvs : List (κ × V)} {k : κ} {v : V} (h : valV kvs k = some v) : (k, v) ∈ kvs := by
  unfold valV at h
  obtain ⟨p, h1, h2⟩ := Option.map_eq_some_iff.mp h
  have h3 := List.mem_of_find?_eq_some h1
  have h4 := List.find?_some h1
  rw [decide_eq_true_eq] at h4
  obtain ⟨p1, p2⟩ := p
  simp only at h2 h4
  subst h2 h4
  exact h3
/-- an answer does not hang on the fuel -/
theorem run_same {G : Tab} {f j k : Nat} {ds : List D} {x y : D} (h : run G j f ds = .ok x) (h' : run G k f ds = .ok y) : x = y := by
  have h1 := (run_mono (G := G) j k f ds).ok h
  have h2 := (run_mono (G := G) k j f ds).ok h'
  rw [Nat.add_comm] at h2
  rw [h1] at h2
  exact R.ok.inj h2
/-! ### its text -/
def memoA : CE := .bi .tuple (.cons (.lc (.var 6) (.nm 6) (.tup (.var 1)) (.some (.cmp .notin (.var 6) (.var 5))) [6]) .nil)
def memoL (f : Nat) (T : CE) : CSs := .cons (.ite T (.cons (.asg 3 (.bin .add (.var 3) (.call f (.cons (.var 0) (.cons memoA .nil))))) .nil) .nil) .nil
def memo1 : CS := .ite (.cmp .eq (.var 1) (.tup .nil)) (.cons (.ret (.cst (.int 1))) .nil) .nil
def memoB (f : Nat) (T : CE) : CSs := .cons memo1 (.cons (.asg 3 (.cst (.int 0))) (.cons (.forr (.tp [4, 5]) (.lst (.var 0)) (memoL f T)) (.cons (.ret (.var 3)) .nil)))
def chkM (C : Ctx) (N : List Str) (sc : Scope) (f : Nat) (T : CE) (body : List Stmt) : Bool := match body with
  | [s1, .If (.Compare ek [.NotIn] [ed] _) [s2, .For tg iter [.If et [.Assign [.Name xt _] (.BinOp ev .Add (.Call (.Name xf _) [a1, a2, a3] [] _) _) _] [] _] [] _, .Assign [.Subscript ed2 ek2 _] ev2 _] [] _, .Return (some (.Subscript ed3 ek3 _)) _] =>
    chkS C N memo1 sc s1 && chkS C N (.asg 3 (.cst (.int 0))) sc s2 && notSet ed && chkE C N (.var 1) sc (fun _ => true) ek && chkE C N (.var 2) sc (fun _ => true) ed && notSet iter && chkG N sc (fun _ => true) (.tp [4, 5]) tg && chkI C N (.lst (.var 0)) sc (fun _ => true) tg iter &&
      T.isTest && chkE C N T sc (fun _ => true) et && decide (N[3]? = some xt) && locB sc xt && chkE C N (.var 3) sc (fun _ => true) ev && decide (C.fname (1000 + f) = some xf) && glB sc xf && !dbg xf && notStar a1 && notStar a2 && notStar a3 && chkE C N (.var 0) sc (fun _ => true) a1 && chkE C N memoA sc (fun _ => true) a2 && chkE C N (.var 2) sc (fun _ => true) a3 &&
      notComp ev2 && chkE C N (.var 2) sc (fun _ => true) ed2 && chkE C N (.var 1) sc (fun _ => true) ek2 && chkE C N (.var 3) sc (fun _ => true) ev2 && notSlice ek2 && notSlice ek3 && chkE C N (.var 2) sc (fun _ => true) ed3 && chkE C N (.var 1) sc (fun _ => true) ek3
  | _ => false
def memoT (K : W.Frag) (cls : Nat → Value) (sp : Nat → Sp) (E : EX) (f : Nat) (T : CE) : TS :=
  tSeq (tOfS K cls sp E memo1) (tSeq (tIfS (tB (tDNotIn (tVar 1) (tVar 2))) (tSeq (tOfS K cls sp E (.asg 3 (.cst (.int 0)))) (tSeq (tFor (tOfI K sp E (.lst (.var 0))) (tOfG K (.tp [4, 5])) (tSeq (tIfS (tOfT K sp E T) (tSeq (tAsg (tOp (rBop K .add) (tVar 3) (tCallS (sp (1000 + f)) E (tCons (tVar 0) (tCons (tOf K sp E memoA) (tCons (tVar 2) tNil))))) (gName 3)) tNext) tNext) tNext))
    (tSeq (sDPut (tVar 2) (tVar 1) (tVar 3)) tNext))) tNext) (tSeq (tRet (tDGet (tVar 2) (tVar 1))) tNext))
theorem pss_memo {C : Ctx} {cls : Nat → Value} {sp : Nat → Sp} {k : Nat} {N : List Str} {sc : Scope} {E : EX} {X : Cx} {f : Nat} {T : CE} {body : List Stmt} (G : GoodS C cls sp k N sc E X) (h : chkM C N sc f T body = true) : PSs X body (memoT X.K cls sp E f T) := by
  unfold chkM at h
  split at h
  · rename_i s1 ek ed p1 s2 tg iter et xt px ev xf pf a1 a2 a3 p2 p3 p4 p5 p6 ed2 ek2 p7 ev2 p8 p9 ed3 ek3 p10 p11
    simp only [Bool.and_eq_true, decide_eq_true_eq] at h
    obtain ⟨⟨⟨⟨⟨⟨⟨⟨⟨⟨⟨⟨⟨⟨⟨⟨⟨⟨⟨⟨⟨⟨⟨⟨⟨⟨⟨⟨⟨c1, c2⟩, c3⟩, c4⟩, c5⟩, c6⟩, c7⟩, c8⟩, c9⟩, c10⟩, c11⟩, c12⟩, c13⟩, c14⟩, c15⟩, c16⟩, c17⟩, c18⟩, c19⟩, c20⟩, c21⟩, c22⟩, c23⟩, c24⟩, c25⟩, c26⟩, c27⟩, c28⟩, c29⟩, c30⟩ := h
    have g := G.g
    have hu : X.A.units + 1 < cLine := by have := g.units; omega
    have v1 := fun e h => pe_all (.var 1) sc _ E X e g h
    have v2 := fun e h => pe_all (.var 2) sc _ E X e g h
    have v3 := fun e h => pe_all (.var 3) sc _ E X e g h
    have v0 := fun e h => pe_all (.var 0) sc _ E X e g h
    obtain ⟨fa, fd, ps, k1, k2, k3, k4⟩ := g.fns (1000 + f) xf c14
    have s3 : ∀ env, starEach [a3] env = (false, eval a3 env) :: [] := star_of c19 []
    have s2' : ∀ env, starEach [a2, a3] env = (false, eval a2 env) :: starEach [a3] env := star_of c18 [a3]
    have s1' : ∀ env, starEach [a1, a2, a3] env = (false, eval a1 env) :: starEach [a2, a3] env := star_of c17 [a2, a3]
    have pcall := pe_callS (pos := p2) (p := pf) k3 g.room (gl_of g.hsc c15) k1 k2 k4 g.pass (pa_cons (v0 a1 c20) (pa_cons (pe_all memoA sc _ E X a2 g c21) (pa_cons (v2 a3 c22) pa_nil (s3 _)) (s2' _)) (s1' _)) (dbg_of c16).1 (s1' _) (stars_any (by simp [starsB, c18, c19]) _ _)
    have hf : X.fn xt = true ∨ X.env.scope.names.lookup xt = some .local := .inl (by rw [g.fnE])
    refine pss_cons (ps_all memo1 E X s1 G c1) (pss_cons (ps_if (pt_cmp (pc_dnotin hu (v1 ek c4) (v2 ed c5)) (set_of c3 _)) (pss_cons (ps_all (.asg 3 (.cst (.int 0))) E X s2 G c2) (pss_cons (ps_for G.own g.calm (pi_all (.lst (.var 0)) sc _ E X tg iter g c8) (pg_all g.calm g.hN g.nd g.hsc g.fnE c7) ?_ (fun x => fold_of c6 _ x)) (pss_cons (ps_dput hu (v2 ed2 c24) (v1 ek2 c25) (v3 ev2 c26) (notComp_sw c23)) pss_nil))) pss_nil) (pss_cons (ps_ret (pe_dget hu (v2 ed3 c29) (v1 ek3 c30) (slice_of c28))) pss_nil))
    refine pss_cons (ps_if (pt_all T sc _ E X et g c9 c10) (pss_cons (ps_set g.nd' (by rw [g.hN]; exact c11) (by rw [g.hsc]; exact loc_of c12) (pe_op (op_bin .add) (v3 ev c13) pcall) rfl hf) pss_nil) pss_nil) pss_nil
  · cases h
/-! ### what it gives -/
theorem EnvOk.monoV {K : W.Frag} {a : Addr} {H0 P H P' H' : Hp} {env : Env} {σ : L2.St} (I : EnvOk K H0 env σ P H) (no : ∀ (j : Nat) (es : List D), env[j]? ≠ some (.own es)) (x : ExtV a P H P' H') : EnvOk K H0 env σ P' H' := by
  refine ⟨x.ph, I.len, fun j s q => ?_, fun i j ds es b c q1 => absurd q1 (no i ds)⟩
  have h1 := I.at_ j s q
  cases s with
  | no => exact h1
  | raw v => exact h1
  | val d => obtain ⟨v, h2, h3⟩ := h1; exact ⟨v, h2, h3.mono x.p⟩
  | own ds => exact absurd q (no j ds)
theorem MemoOk.put {G : Tab} {f j : Nat} {td : D} {base ns : List Int} {kvs : List (List Key × V)} {i : Int} (h : MemoOk G f td base kvs) (hs : ns.Sublist base) (hr : run G j f [td, .tup (ns.map D.int)] = .ok (.int i)) : MemoOk G f td base (putK kvs (ns.map Sum.inl) (.int i)) := by
  unfold putK
  split
  · refine ⟨?_, fun p hp => ?_⟩
    · rw [List.map_map]
      have : ((fun p : List Key × V => p.1) ∘ fun kv => if kv.1 = ns.map Sum.inl then (kv.1, V.int i) else kv) = fun kv => kv.1 := by
        funext kv
        simp only [Function.comp]
        split <;> rfl
      rw [this]
      exact h.1
    · obtain ⟨q, hq, rfl⟩ := List.mem_map.mp hp
      split
      · rename_i e
        exact ⟨ns, i, j, e, rfl, hs, hr⟩
      · exact h.2 q hq
  · rename_i e
    refine ⟨?_, fun p hp => ?_⟩
    · rw [List.map_append, List.nodup_append]
      refine ⟨h.1, by simp, fun x hx y hy hxy => ?_⟩
      subst hxy
      obtain ⟨q, hq, rfl⟩ := List.mem_map.mp hx
      simp only [List.map_cons, List.map_nil, List.mem_singleton] at hy
      refine e ?_
      rw [List.any_eq_true]
      exact ⟨q, hq, by simpa using hy⟩
    · rcases List.mem_append.mp hp with hp | hp
      · exact h.2 p hp
      · rw [List.mem_singleton.mp hp]
        exact ⟨ns, i, j, rfl, rfl, hs, hr⟩
theorem comp_sub {g : D → R (Option D)} (hg : ∀ (x : Int) (o : Option D), g (.int x) = .ok o → o = none ∨ o = some (.int x)) : ∀ (ns : List Int) (ys : List D), comp g (ns.map D.int) = .ok ys → ∃ ms : List Int, ys = ms.map D.int ∧ ms.Sublist ns
  | [], ys, h => by
    simp only [List.map_nil, comp, R.ok.injEq] at h
    exact ⟨[], by rw [← h]; rfl, .slnil⟩
  | x :: ns, ys, h => by
    simp only [List.map_cons, comp] at h
    cases hx : g (.int x) with
    | exc c => simp [hx] at h
    | bad => simp [hx] at h
    | ok o =>
      simp only [hx] at h
      cases hr : comp g (ns.map D.int) with
      | exc c => simp [hr] at h
      | bad => simp [hr] at h
      | ok zs =>
        simp only [hr, R.bind_ok, R.ok.injEq] at h
        obtain ⟨ms, e1, e2⟩ := comp_sub hg ns zs hr
        rcases hg x o hx with rfl | rfl
        · exact ⟨ms, by rw [← h, e1]; rfl, e2.cons _⟩
        · exact ⟨x :: ms, by rw [← h, e1]; rfl, e2.cons₂ _⟩
theorem memoA_sub {cl : Nat → List D → R D} {env : Env} {ns : List Int} {z : D} (h1 : env[1]? = some (.val (.tup (ns.map D.int)))) (h : ev cl memoA env = .ok z) : ∃ ms : List Int, z = .tup (ms.map D.int) ∧ ms.Sublist ns := by
  have e : ev cl memoA env = ((ev cl (.lc (.var 6) (.nm 6) (.tup (.var 1)) (.some (.cmp .notin (.var 6) (.var 5))) [6]) env).bind fun d => .ok [d]).bind fun ds => R.ofO (biF .tuple ds) := rfl
  rw [e] at h
  have e2 : ev cl (.lc (.var 6) (.nm 6) (.tup (.var 1)) (.some (.cmp .notin (.var 6) (.var 5))) [6]) env = ((slotV env[1]?).bind tupD).bind fun ds => if ds.length ≤ lim ∧ Tg.inn (.nm 6) [6] = true ∧ CE.isBor (.var 6) = false then
      (comp (fun d => (setTg (.nm 6) d (wipeE env [6])).bind fun e1 => (evt cl (.some (.cmp .notin (.var 6) (.var 5))) e1).bind fun k => optB k (ev cl (.var 6) e1)) ds).bind fun ys => .ok (.lst ys) else .bad := rfl
  rw [e2, h1] at h
  simp only [slotV_val, R.bind_ok, tupD_tup] at h
  split at h
  · cases hc : comp (fun d => (setTg (.nm 6) d (wipeE env [6])).bind fun e1 => (evt cl (.some (.cmp .notin (.var 6) (.var 5))) e1).bind fun k => optB k (ev cl (.var 6) e1)) (ns.map D.int) with
    | exc c => rw [hc] at h; simp at h
    | bad => rw [hc] at h; simp at h
    | ok ys =>
      rw [hc] at h
      simp only [R.bind_ok, bi_tupL, R.ofO_some, R.ok.injEq] at h
      obtain ⟨ms, e3, e4⟩ := comp_sub (fun x o hx => by
        simp only [setTg_nm, R.bind_ok, v_var] at hx
        cases hk : evt cl (.some (.cmp .notin (.var 6) (.var 5))) ((wipeE env [6]).set 6 (.val (.int x))) with
        | exc c => rw [hk] at hx; simp at hx
        | bad => rw [hk] at hx; simp at hx
        | ok b =>
          rw [hk] at hx
          simp only [R.bind_ok] at hx
          cases b with
          | false => simp [optB] at hx; exact .inl hx.symm
          | true =>
            simp only [optB, if_true] at hx
            by_cases hl : 6 < (wipeE env [6]).length
            · rw [List.getElem?_set_self hl] at hx
              simp at hx
              exact .inr hx.symm
            · rw [List.getElem?_eq_none (by rw [List.length_set]; omega)] at hx
              simp [slotV] at hx) ns ys hc
      exact ⟨ms, by rw [← h, e3], e4⟩
  · simp at h
theorem memoL_ok {cl : Nat → List D → R D} {f : Nat} {T : CE} {env : Env} {o : Fl} (h : exs cl (memoL f T) env = .ok o) : (evT cl T env = .ok false ∧ o = .nx env) ∨ (evT cl T env = .ok true ∧ ∃ x y z w d, slotV env[3]? = .ok x ∧ slotV env[0]? = .ok y ∧ ev cl memoA env = .ok z ∧ cl f [y, z] = .ok w ∧ bopF .add x w = some d ∧ o = .nx (env.set 3 (.val d))) := by
  have e : exs cl (memoL f T) env = ((evT cl T env).bind fun k => if k then exs cl (.cons (.asg 3 (.bin .add (.var 3) (.call f (.cons (.var 0) (.cons memoA .nil))))) .nil) env else .ok (.nx env)).bind (Fl.next fun env' => .ok (.nx env')) := rfl
  rw [e] at h
  cases ht : evT cl T env with
  | exc c => rw [ht] at h; simp at h
  | bad => rw [ht] at h; simp at h
  | ok b =>
    rw [ht] at h
    cases b with
    | false =>
      simp at h
      exact .inl ⟨rfl, h.symm⟩
    | true =>
      refine .inr ⟨rfl, ?_⟩
      simp only [R.bind_ok, if_true, xs_cons, x_asg, v_V, isBor_bin, Bool.false_eq_true, if_false, v_bin, v_var, v_call, vs_cons, vs_nil, isBor_var, show memoA.isBor = false from rfl] at h
      cases hx : slotV env[3]? with
      | exc c => simp [hx] at h
      | bad => simp [hx] at h
      | ok x =>
        cases hy : slotV env[0]? with
        | exc c => simp [hx, hy] at h
        | bad => simp [hx, hy] at h
        | ok y =>
          cases hz : ev cl memoA env with
          | exc c => simp [hx, hy, hz] at h
          | bad => simp [hx, hy, hz] at h
          | ok z =>
            cases hw : cl f [y, z] with
            | exc c => simp [hx, hy, hz, hw] at h
            | bad => simp [hx, hy, hz, hw] at h
            | ok w =>
              cases hd : bopF .add x w with
              | none => simp [hx, hy, hz, hw, hd] at h
              | some d =>
                simp [hx, hy, hz, hw, hd] at h
                exact ⟨x, y, z, w, d, rfl, rfl, rfl, hw, hd, h.symm⟩
theorem set2_ok {env env1 : Env} {d : D} (h : setTg (.tp [4, 5]) d env = .ok env1) : ∃ x y, env1 = (env.set 4 (.val x)).set 5 (.val y) := by
  cases d with
  | tup ds =>
    match ds, h with
    | [x, y], h => exact ⟨x, y, (R.ok.inj h).symm⟩
    | [], h => simp [setTg, setAll] at h
    | [_], h => simp [setTg, setAll] at h
    | _ :: _ :: _ :: _, h => simp [setTg, setAll] at h
  | lst ds =>
    match ds, h with
    | [x, y], h => exact ⟨x, y, (R.ok.inj h).symm⟩
    | [], h => simp [setTg, setAll] at h
    | [_], h => simp [setTg, setAll] at h
    | _ :: _ :: _ :: _, h => simp [setTg, setAll] at h
  | _ => simp [setTg] at h
theorem slotV_ok {env : Env} {j : Nat} {d : D} (h : slotV env[j]? = .ok d) : env[j]? = some (.val d) := by
  cases hs : env[j]? with
  | none => rw [hs] at h; cases h
  | some s =>
    rw [hs] at h
    cases s with
    | val x => cases h; rfl
    | no => cases h
    | own _ => cases h
    | raw _ => cases h
theorem memo_read {K : W.Frag} {cls : Nat → Value} {sp : Nat → Sp} {G : Tab} {k f : Nat} {T : CE} {E : EX} {N : List Str} {vs : List V} {H : Hp} {Q : VK} {Ex' : XK} {Z : Ends} (hC : Calls K cls sp (run G k)) (hsp : sp (1000 + f) = spD K G k f) (hG : G f = some ⟨2, 7, memoB f T⟩) (hN : N.length = 7) (hZ : Z.rt = Q) (h : spD K G (k + 1) f vs H Q Ex') : memoT K cls sp E f T Z (start N vs) H := by
  obtain ⟨P, td, v0, v1, ns, base, a, kvs, i, rfl, e, r0, r1, hp, ha, mo, hsub, hbl, hrun, q⟩ := h
  subst hZ
  obtain ⟨env0, henv0⟩ : ∃ env0 : Env, env0 = [.val td, .val (.tup (ns.map D.int)), .no, .no, .no, .no, .no] := ⟨_, rfl⟩
  have hex : exs (run G k) (memoB f T) env0 = .ok (.rt (.int i)) := by
    have er : run G (k + 1) f [td, .tup (ns.map D.int)] = outR (exs (run G k) (memoB f T) env0) := by
      rw [henv0, run, hG]
      rfl
    rw [er] at hrun
    cases hx : exs (run G k) (memoB f T) env0 with
    | exc c => rw [hx] at hrun; cases hrun
    | bad => rw [hx] at hrun; cases hrun
    | ok o =>
      rw [hx] at hrun
      cases o with
      | nx e => cases hrun
      | rt d => cases hrun; rfl
  have hσ : start N [v0, v1, .ref a] = [some v0, some v1, some (.ref a), none, none, none, none] := by
    unfold L2.start
    rw [hN]
    rfl
  rw [hσ]
  obtain ⟨σ0, hσ0⟩ : ∃ σ0 : L2.St, σ0 = [some v0, some v1, some (.ref a), none, none, none, none] := ⟨_, rfl⟩
  rw [← hσ0]
  have I0 : EnvOk K H env0 σ0 P H := by
    rw [henv0, hσ0]
    refine ⟨e, rfl, fun j s hj => ?_, fun j j' ds es b c hj => ?_⟩
    · match j, hj with
      | 0, hj => cases hj; exact ⟨v0, rfl, r0⟩
      | 1, hj => cases hj; exact ⟨v1, rfl, r1⟩
      | 2, hj => cases hj; exact ⟨_, rfl⟩
      | 3, hj => cases hj; exact ⟨_, rfl⟩
      | 4, hj => cases hj; exact ⟨_, rfl⟩
      | 5, hj => cases hj; exact ⟨_, rfl⟩
      | 6, hj => cases hj; exact ⟨_, rfl⟩
      | j + 7, hj => simp at hj
    · match j, hj with
      | 0, hj => simp at hj
      | 1, hj => simp at hj
      | 2, hj => simp at hj
      | 3, hj => simp at hj
      | 4, hj => simp at hj
      | 5, hj => simp at hj
      | 6, hj => simp at hj
      | j + 7, hj => simp at hj
  have no0 : ∀ (j : Nat) (es : List D), env0[j]? ≠ some (.own es) := fun j es hj => by
    obtain ⟨b, _, z, _⟩ := I0.at_ j _ hj
    rw [henv0] at hj
    match j, hj with
    | 0, hj => simp at hj
    | 1, hj => simp at hj
    | 2, hj => simp at hj
    | 3, hj => simp at hj
    | 4, hj => simp at hj
    | 5, hj => simp at hj
    | 6, hj => simp at hj
    | j + 7, hj => simp at hj
  have a0 : env0[0]? = some (.val td) := by rw [henv0]; rfl
  have a1 : env0[1]? = some (.val (.tup (ns.map D.int))) := by rw [henv0]; rfl
  have al : env0.length = 7 := by rw [henv0]; rfl
  have s2 : σ0[2]? = some (some (.ref a)) := by rw [hσ0]; rfl
  have hHa : H a ≠ none := by rw [ha]; simp
  have x0 : ExtV a P H P H := .refl e hp
  clear henv0 hσ0 hσ
  -- if left == ()
  have e1 : exs (run G k) (memoB f T) env0 = ((evT (run G k) (.cmp .eq (.var 1) (.tup .nil)) env0).bind fun b => if b then .ok (.rt (.int 1)) else .ok (.nx env0)).bind (Fl.next fun env1 => exs (run G k) (.cons (.asg 3 (.cst (.int 0))) (.cons (.forr (.tp [4, 5]) (.lst (.var 0)) (memoL f T)) (.cons (.ret (.var 3)) .nil))) env1) := by
    show ((R.bind (evT (run G k) (.cmp .eq (.var 1) (.tup .nil)) env0) fun b => if b then exs (run G k) (.cons (.ret (.cst (.int 1))) .nil) env0 else exs (run G k) .nil env0)).bind _ = _
    rfl
  rw [e1] at hex
  show tIfS (tOfT K sp E (.cmp .eq (.var 1) (.tup .nil))) (tSeq (tRet (tC (.int 1))) tNext) tNext _ σ0 H
  refine st_T hC (.cmp .eq (.var 1) (.tup .nil)) E H env0 σ0 P H _ I0 ?_
  cases hb : evT (run G k) (.cmp .eq (.var 1) (.tup .nil)) env0 with
  | exc c => rw [hb] at hex; simp at hex
  | bad => rw [hb] at hex; simp at hex
  | ok b =>
    rw [hb] at hex
    intro P1 H1 x1
    have ha1 : H1 a = some (.dT kvs) := x1.h _ _ ha
    have xv1 : ExtV a P H P1 H1 := x0.step hHa x1
    have I1 := I0.mono x1
    cases b with
    | true =>
      simp at hex
      subst hex
      exact q P1 H1 kvs xv1 ha1 mo
    | false =>
      simp only [R.bind_ok, Bool.false_eq_true, if_false, next_nx] at hex
      show tIfS (tB (tDNotIn (tVar 1) (tVar 2))) _ tNext _ σ0 H1
      obtain ⟨w1, hw1, rw1⟩ := I1.at_ 1 _ a1
      cases rw1 with
      | tup g1 rr =>
        rename_i b us
        have hus := rr.intsV
        subst hus
        have hkey : ns.map V.int = (ns.map (Sum.inl : Int → Key)).map kV := by rw [List.map_map]; rfl
        have hb1 : H1 b = some (.tup ((ns.map (Sum.inl : Int → Key)).map kV)) := by rw [← hkey]; exact x1.ph _ _ g1
        refine ⟨.ref b, hw1, .ref a, s2, a, _, rfl, DGet.t ha1 hb1, _, rfl, ?_⟩
        cases hv : valV kvs (ns.map (Sum.inl : Int → Key)) with
        | some w =>
          simp only [Option.isSome_some, Bool.not_true, Bool.false_eq_true, if_false]
          show tRet (tDGet (tVar 2) (tVar 1)) _ σ0 H1
          refine ⟨.ref a, s2, .ref b, hw1, a, w, rfl, by rw [← hv]; exact DGet.t ha1 hb1, ?_⟩
          obtain ⟨ms, v, j, z1, z2, _, z4⟩ := mo.2 _ (valV_mem hv)
          have : ns = ms := inl_inj z1
          subst this
          have hvi : D.int v = D.int i := run_same z4 hrun
          have z2' : w = .int v := z2
          rw [z2', D.int.inj hvi]
          exact q P1 H1 kvs xv1 ha1 mo
        | none =>
          simp only [Option.isSome_none, Bool.not_false, if_true]
          -- total = 0
          show tSeq (tFor (tOfI K sp E (.lst (.var 0))) (tOfG K (.tp [4, 5])) _) _ _ (σ0.set 3 (some (.int 0))) H1
          obtain ⟨env2, he2⟩ : ∃ env2, env2 = env0.set 3 (.val (.int 0)) := ⟨_, rfl⟩
          have I2 : EnvOk K H env2 (σ0.set 3 (some (.int 0))) P1 H1 := by rw [he2]; exact I1.set (.int 0)
          have b0 : env2[0]? = some (.val td) := by rw [he2, List.getElem?_set_ne (by decide)]; exact a0
          have b1 : env2[1]? = some (.val (.tup (ns.map D.int))) := by rw [he2, List.getElem?_set_ne (by decide)]; exact a1
          have b3 : env2[3]? = some (.val (.int 0)) := by rw [he2, List.getElem?_set_self (by omega)]
          have no2 : ∀ (j : Nat) (es : List D), env2[j]? ≠ some (.own es) := fun j es hj => by
            rw [he2] at hj
            exact no0 j es (set_own (fun _ z => by cases z) hj).2
          have s2' : (σ0.set 3 (some (V.int 0)))[2]? = some (some (.ref a)) := by rw [List.getElem?_set_ne (by decide)]; exact s2
          have e3 : exs (run G k) (.cons (.asg 3 (.cst (.int 0))) (.cons (.forr (.tp [4, 5]) (.lst (.var 0)) (memoL f T)) (.cons (.ret (.var 3)) .nil))) env0 = ((evi (run G k) (.lst (.var 0)) env2).bind fun ds => forL (fun d e => (setTg (.tp [4, 5]) d e).bind fun e1 => exs (run G k) (memoL f T) e1) ds env2).bind (Fl.next fun env3 => ((slotV env3[3]?).bind fun d => .ok (.rt d)).bind (Fl.next fun env' => .ok (.nx env'))) := by
            rw [he2]
            rfl
          rw [e3] at hex
          change tFor (tOfI K sp E (.lst (.var 0))) (tOfG K (.tp [4, 5])) _ _ (σ0.set 3 (some (.int 0))) H1
          unfold tFor
          refine si_all hC (.lst (.var 0)) E true (fun _ => rfl) H env2 _ P1 H1 _ I2 ?_
          cases hds : evi (run G k) (.lst (.var 0)) env2 with
          | exc c => rw [hds] at hex; simp at hex
          | bad => rw [hds] at hex; simp at hex
          | ok ds =>
            rw [hds] at hex
            simp only [R.bind_ok] at hex
            intro J P2 H2 x2 hw
            obtain ⟨Gd, Y, w, hGd, hY⟩ := hw
            simp only [if_true] at hGd
            generalize hr : forL (fun d e => (setTg (.tp [4, 5]) d e).bind fun e1 => exs (run G k) (memoL f T) e1) ds env2 = r at hex
            have hH1a : H1 a ≠ none := by rw [ha1]; simp
            refine for_it w (fun n σ' H' => ∃ P' env' kv t, ExtV a P H P' H' ∧ Ex P2 P' ∧ EnvOk K H env' σ' P' H' ∧ H' a = some (.dT kv) ∧ MemoOk G f td base kv ∧ σ'[2]? = some (some (.ref a)) ∧ (env'[0]? = some (.val td) ∧ env'[1]? = some (.val (.tup (ns.map D.int))) ∧ env'[3]? = some (.val (.int t)) ∧ ∀ (j : Nat) (es : List D), env'[j]? ≠ some (.own es)) ∧ forL (fun d e => (setTg (.tp [4, 5]) d e).bind fun e1 => exs (run G k) (memoL f T) e1) (ds.drop n) env' = r)
              ⟨P2, env2, kvs, 0, xv1.step hH1a x2, Same.refl _, I2.mono x2, x2.h _ _ ha1, mo, s2', ⟨b0, b1, b3, no2⟩, by simpa using hr⟩ (fun n σ' H' _ hp' => ?_) (fun n y σ' H' H3 hn hp' hy => ?_) (fun σ' H' hp' => ?_)
            · obtain ⟨P', env', kv, t, _, p2, p3, _⟩ := hp'
              exact hGd H' (p2.trans p3.ex)
            · obtain ⟨P', env', kv, t, p1, p2, p3, p4, p5, p6, ⟨p7, p8, p9, p10⟩, p11⟩ := hp'
              obtain ⟨P3, d, hd, x3, r3⟩ := hY n P' H' y H3 hn p2 p3.ex hy
              rw [get_drop hd] at p11
              simp only [forL] at p11
              have I3 := p3.mono x3
              have hH'a : H' a ≠ none := by rw [p4]; simp
              have xv3 := p1.step hH'a x3
              have ha3 : H3 a = some (.dT kv) := x3.h _ _ p4
              cases hs : setTg (.tp [4, 5]) d env' with
              | exc c => rw [hs] at p11; simp only [R.bind_exc] at p11; rw [← p11] at hex; simp at hex
              | bad => rw [hs] at p11; simp only [R.bind_bad] at p11; rw [← p11] at hex; simp at hex
              | ok env1 =>
                rw [hs] at p11
                simp only [R.bind_ok] at p11
                obtain ⟨y4, y5, he1⟩ := set2_ok hs
                have c0 : env1[0]? = some (.val td) := by rw [he1, List.getElem?_set_ne (by decide), List.getElem?_set_ne (by decide)]; exact p7
                have c1 : env1[1]? = some (.val (.tup (ns.map D.int))) := by rw [he1, List.getElem?_set_ne (by decide), List.getElem?_set_ne (by decide)]; exact p8
                have c3 : env1[3]? = some (.val (.int t)) := by rw [he1, List.getElem?_set_ne (by decide), List.getElem?_set_ne (by decide)]; exact p9
                have no1 : ∀ (j : Nat) (es : List D), env1[j]? ≠ some (.own es) := fun j es hj => by
                  rw [he1] at hj
                  exact p10 j es (set_own (fun _ z => by cases z) (set_own (fun _ z => by cases z) hj).2).2
                refine sg_of I3 r3 hs fun σ2 I4 hw2 => ?_
                have t2 : σ2[2]? = some (some (.ref a)) := by
                  have := congrArg (fun l => l[2]?) (hw2 [4, 5] rfl)
                  simp only [wipe] at this
                  rw [List.getElem?_set_ne (by decide), List.getElem?_set_ne (by decide), List.getElem?_set_ne (by decide), List.getElem?_set_ne (by decide)] at this
                  rw [this]; exact p6
                show tIfS (tOfT K sp E T) _ tNext _ σ2 H3
                cases hq : exs (run G k) (memoL f T) env1 with
                | exc c => rw [hq] at p11; simp only [R.bind_exc] at p11; rw [← p11] at hex; simp at hex
                | bad => rw [hq] at p11; simp only [R.bind_bad] at p11; rw [← p11] at hex; simp at hex
                | ok o =>
                  rw [hq] at p11
                  simp only [R.bind_ok] at p11
                  refine st_T hC T E H env1 σ2 P3 H3 _ I4 ?_
                  rcases memoL_ok hq with ⟨ht, ho⟩ | ⟨ht, xx, yy, zz, ww, dd, hx, hy', hz, hw', hdd, ho⟩
                  · subst ho
                    rw [ht]
                    intro P4 H4 x4
                    have hH3a : H3 a ≠ none := by rw [ha3]; simp
                    exact ⟨P4, env1, kv, t, xv3.step hH3a x4, (p2.trans x3.p).trans x4.p, I4.mono x4, x4.h _ _ ha3, p5, t2, ⟨c0, c1, c3, no1⟩, p11⟩
                  · subst ho
                    rw [ht]
                    intro P4 H4 x4
                    have hH3a : H3 a ≠ none := by rw [ha3]; simp
                    have xv4 := xv3.step hH3a x4
                    have I5 := I4.mono x4
                    have ha4 : H4 a = some (.dT kv) := x4.h _ _ ha3
                    have hxx := slotV_ok hx
                    rw [c3] at hxx
                    cases hxx
                    have hyy := slotV_ok hy'
                    rw [c0] at hyy
                    cases hyy
                    obtain ⟨v3, hv3, rv3⟩ := I5.at_ 3 _ c3
                    cases rv3
                    obtain ⟨u0, hu0, ru0⟩ := I5.at_ 0 _ c0
                    obtain ⟨ms, rfl, hms⟩ := memoA_sub c1 hz
                    obtain ⟨jj, rfl, rfl⟩ : ∃ jj, ww = .int jj ∧ dd = .int (t + jj) := by
                      cases ww with
                      | int jj => exact ⟨jj, rfl, (Option.some.inj hdd).symm⟩
                      | _ => simp [bopF] at hdd
                    show tOp (rBop K .add) (tVar 3) (tCallS (sp (1000 + f)) E (tCons (tVar 0) (tCons (tOf K sp E memoA) (tCons (tVar 2) tNil)))) σ2 H4 _
                    refine ⟨.int t, hv3, u0, hu0, ?_⟩
                    refine se_all hC memoA E rfl H env1 σ2 P4 H4 _ I5 ?_
                    rw [hz]
                    intro u1 P5 H5 x5 ru1
                    refine ⟨.ref a, t2, ?_⟩
                    rw [hsp]
                    have hH4a : H4 a ≠ none := by rw [ha4]; simp
                    have xv5 := xv4.step hH4a x5
                    have ha5 : H5 a = some (.dT kv) := x5.h _ _ ha4
                    refine ⟨P5, td, u0, u1, ms, base, a, kv, jj, rfl, x5.ph, ru0.mono x5.p, ru1, xv5.pa, ha5, p5, hms.trans hsub, hbl, hw', fun P6 H6 kv6 x6 ha6 mo6 => ?_⟩
                    refine ⟨P6, .int t, .int jj, .int (t + jj), x6.ph, .inl (.int _), .inl (.int _), rfl, fun v7 H7 rs _ => ?_⟩
                    cases rs with
                    | same rr7 =>
                      cases rr7
                      refine ⟨P6, env1.set 3 (.val (.int (t + jj))), kv6, t + jj, xv5.trans x6, (((p2.trans x3.p).trans x4.p).trans x5.p).trans x6.p, ((I5.mono x5).monoV no1 x6).set (.int _), ha6, mo6, ?_, ⟨?_, ?_, ?_, ?_⟩, p11⟩
                      · rw [List.getElem?_set_ne (by decide)]; exact t2
                      · rw [List.getElem?_set_ne (by decide)]; exact c0
                      · rw [List.getElem?_set_ne (by decide)]; exact c1
                      · rw [List.getElem?_set_self (List.getElem?_eq_some_iff.mp c3).1]
                      · exact fun j es hj => no1 j es (set_own (fun _ z => by cases z) hj).2
            · obtain ⟨P', env', kv, t, p1, p2, p3, p4, p5, p6, ⟨p7, p8, p9, p10⟩, p11⟩ := hp'
              rw [List.drop_length] at p11
              simp only [forL] at p11
              rw [← p11] at hex
              simp only [R.bind_ok, next_nx, p9, slotV_val, next_rt, R.ok.injEq, Fl.rt.injEq, D.int.injEq] at hex
              subst hex
              obtain ⟨v3, hv3, rv3⟩ := p3.at_ 3 _ p9
              cases rv3
              obtain ⟨u1, hu1, ru1⟩ := p3.at_ 1 _ p8
              cases ru1 with
              | tup g2 rr2 =>
                rename_i b' us'
                have hus := rr2.intsV
                subst hus
                have hb2 : H' b' = some (.tup ((ns.map (Sum.inl : Int → Key)).map kV)) := by rw [← hkey]; exact p3.ex _ _ g2
                have nb : b' ≠ a := fun z => by rw [z, p1.pa] at g2; cases g2
                show sDPut (tVar 2) (tVar 1) (tVar 3) _ σ' H'
                refine ⟨.int t, hv3, .ref a, p6, .ref b', hu1, a, _, rfl, DPut.t p4 hb2 (p5.len hbl), ?_⟩
                show tRet (tDGet (tVar 2) (tVar 1)) _ σ' (upd H' a (.dT (putK kv (ns.map Sum.inl) (.int t))))
                refine ⟨.ref a, p6, .ref b', hu1, a, .int t, rfl, ?_, q P' _ _ (p1.put _) upd_same (p5.put hsub hrun)⟩
                have := DGet.t (H := upd H' a (.dT (putK kv (ns.map Sum.inl) (.int t)))) (a := a) (b := b') (k := ns.map Sum.inl) upd_same (by rw [upd_ne nb]; exact hb2)
                rw [valV_put, if_pos rfl] at this
                exact this
end Cl
set_option Elab.async false
set_option linter.all false
set_option maxRecDepth 100000
namespace Cl
open PySem

/-! ### a second evaluator: a store of lists and bands that change -/
inductive W where
  | d (x : D)
  | l (n : Nat)
inductive Ob where
  | ls (ws : List W)
  | bd (c r vs : D) (dn un : Nat)
  | dead
abbrev Sto := List Ob
abbrev Env2 := List (Option W)
inductive R2 (α : Type) where
  | ok (a : α) (S : Sto)
  | exc (c : Nat) (S : Sto)
  | bad
def R2.bind {α β : Type} : R2 α → (α → Sto → R2 β) → R2 β
  | .ok a S, f => f a S
  | .exc c S, _ => .exc c S
  | .bad, _ => .bad
@[simp] theorem R2.bind_ok {α β : Type} (a : α) (S : Sto) (f : α → Sto → R2 β) : (R2.ok a S).bind f = f a S := rfl
@[simp] theorem R2.bind_exc {α β : Type} (c : Nat) (S : Sto) (f : α → Sto → R2 β) : (R2.exc c S : R2 α).bind f = .exc c S := rfl
@[simp] theorem R2.bind_bad {α β : Type} (f : α → Sto → R2 β) : (R2.bad : R2 α).bind f = .bad := rfl
def liftR {α : Type} (S : Sto) : R α → R2 α
  | .ok a => .ok a S
  | .exc c => .exc c S
  | .bad => .bad
@[simp] theorem liftR_ok {α : Type} {S : Sto} {a : α} : liftR S (.ok a) = .ok a S := rfl
@[simp] theorem liftR_exc {α : Type} {S : Sto} {c : Nat} : liftR S (.exc c : R α) = .exc c S := rfl
@[simp] theorem liftR_bad {α : Type} {S : Sto} : liftR S (.bad : R α) = .bad := rfl
def dsW : List W → Option (List D)
  | [] => some []
  | .d x :: r => (dsW r).map (x :: ·)
  | .l _ :: _ => none
def hasL (n : Nat) : Env2 → Bool
  | [] => false
  | some (.l m) :: r => m == n || hasL n r
  | _ :: r => hasL n r
def ownO : Option (List D) → Slot
  | some ds => .own ds
  | none => .no
def projO : Option Ob → Slot
  | some (.ls ws) => ownO (dsW ws)
  | some (.bd c r vs _ _) => .val (.obj [c, r, vs])
  | _ => .no
def projS (S : Sto) : Option W → Slot
  | none => .no
  | some (.d x) => .val x
  | some (.l n) => projO S[n]?
/-- a name whose thing a later one has as well is out of sight -/
def later : Option W → Env2 → Bool
  | some (.l n), r => hasL n r
  | _, _ => false
/-- what the first evaluator sees -/
def proj (S : Sto) : Env2 → Env
  | [] => []
  | w :: r => (if later w r then .no else projS S w) :: proj S r
/-- the datum of a value, as it stands now -/
def valD (S : Sto) : W → Option D
  | .d x => some x
  | .l n => match S[n]? with
    | some (.ls ws) => (dsW ws).map D.lst
    | _ => none
mutual
inductive ME where
  /-- an expression of the first evaluator -/
  | pu (e : CE)
  /-- the thing in slot i -/
  | al (i : Nat)
  /-- a new list that may change -/
  | ls (es : CEs)
  /-- Band(..) -/
  | nw (es : CEs)
  | ca (f : Nat) (es : MEs)
  | mt (f : Nat) (m : Str) (o : ME) (es : MEs)
  | cm (op : COp) (a b : ME)
  | ad (a b : ME)
  | li (es : MEs)
  /-- x.pop() -/
  | po (i : Nat)
  | it (c : CE) (a b : ME)
  /-- a list field -/
  | fl (i j : Nat)
  /-- len of what a expression makes: not served but for its errors -/
  | ln (f : Nat) (a : ME)
  /-- list(x): a copy that may change -/
  | ll (a : ME)
  /-- a or b, as a test -/
  | oo (a b : ME)
  | o1 (a : ME)
inductive MEs where
  | nil
  | cons (e : ME) (r : MEs)
end
inductive Fl2 where
  | nx (env : Env2)
  | rt (w : W)
mutual
inductive MS where
  | asg (i : Nat) (e : ME)
  | par (sw : Bool) (is : List Nat) (es : MEs)
  /-- a, b = (x, y) if c else (u, v) -/
  | upi (is : List Nat) (c : CE) (es es' : MEs)
  | app (i : Nat) (e : CE)
  | fset (i j : Nat) (e : ME)
  | fapp (i j : Nat) (e : CE)
  | fpop (i j l : Nat)
  /-- x.f, x.g, .. = .. -/
  | fpar (i : Nat) (js : List Nat) (es : MEs)
  | exp (e : ME)
  | ite (c : ME) (a b : MSs)
  | forr (t : Tg) (it : CI) (b : MSs)
  | whl (c : CE) (b : MSs)
  | ret (e : ME)
  | retO (i : Nat)
  | rse (c : Nat)
  | tryx (b : MSs) (i j : Nat) (h : HE)
  /-- except .. as e: return x if isinstance(e, C) else None; the suite stores no name -/
  | tryo (b : MSs) (i j c : Nat)
inductive MSs where
  | nil
  | cons (s : MS) (r : MSs)
end
mutual
def MS.still : MS → Bool
  | .exp _ => true
  | .app _ _ => true
  | .ite _ a b => a.still && b.still
  | _ => false
def MSs.still : MSs → Bool
  | .nil => true
  | .cons s r => s.still && r.still
end
def boolW : W → R Bool
  | .d (.bl b) => .ok b
  | _ => .bad
section
variable (cl : Nat → List D → R D) (cl2 : Nat → List W → Sto → R2 W)
def nobR (d : D) : R D := if d.nob then .ok d else .bad
def nobsR (ds : List D) : R (List D) := if D.nobs ds then .ok ds else .bad
def evP (e : CE) (env : Env2) (S : Sto) : R2 D := liftR S ((evV cl e (proj S env)).bind nobR)
def evsP (es : CEs) (env : Env2) (S : Sto) : R2 (List D) := liftR S ((evs cl es (proj S env)).bind nobsR)
def evTP (e : CE) (env : Env2) (S : Sto) : R2 Bool := liftR S (evT cl e (proj S env))
def newB : List D → Sto → R2 W
  | [c, r], S => (liftR S (cl 900 [c, r])).bind fun _ S => .ok (.l (S.length + 2)) (S ++ [.ls [], .ls [], .bd c r (.tup []) S.length (S.length + 1)])
  | _, _ => .bad
def isBd : Option Ob → Bool
  | some (.bd _ _ _ _ _) => true
  | _ => false
def cmpW (op : COp) (x y : W) (S : Sto) : R2 W := match valD S x, valD S y with
  | some d, some e => liftR S (R.ofO ((copF op d e).map fun b => W.d (.bl b)))
  | _, _ => .bad
def addW (x y : W) (S : Sto) : R2 W := match valD S x, valD S y with
  | some (.lst a), some (.lst b) => if a.length + b.length ≤ lim then .ok (.d (.lst (a ++ b))) S else .bad
  | _, _ => .bad
def getL (env : Env2) (i : Nat) : Option Nat := match env[i]? with
  | some (some (.l n)) => some n
  | _ => none
def getLs (S : Sto) (n : Nat) : Option (List W) := match S[n]? with
  | some (.ls ws) => some ws
  | _ => none
def getFl (env : Env2) (S : Sto) (i j : Nat) : Option Nat := (getL env i).bind fun n => match S[n]? with
  | some (.bd _ _ _ dn un) => if j = 3 then some dn else if j = 4 then some un else none
  | _ => none
def ofO2 {α : Type} (S : Sto) : Option α → R2 α
  | some a => .ok a S
  | none => .bad
@[simp] theorem ofO2_some {α : Type} {S : Sto} {a : α} : ofO2 S (some a) = .ok a S := rfl
@[simp] theorem ofO2_none {α : Type} {S : Sto} : ofO2 S (none : Option α) = .bad := rfl
def popW (n : Nat) (S : Sto) : R2 W := match getLs S n with
  | some ws => match ws.getLast? with
    | some w => .ok w (S.set n (.ls ws.dropLast))
    | none => .bad
  | none => .bad
def copW (w : W) (S : Sto) : R2 W := match w with
  | .l n => match getLs S n with
    | some ws => .ok (.l S.length) (S ++ [.ls ws])
    | none => .bad
  | .d _ => .bad
def itP (k : Bool) (a b : R2 W) : R2 W := if k then a else b
mutual
def ev2 : ME → Env2 → Sto → R2 W
  | .pu e, env, S => (evP cl e env S).bind fun d S => .ok (.d d) S
  | .al i, env, S => ofO2 S ((getL env i).map W.l)
  | .ls es, env, S => (evsP cl es env S).bind fun ds S => if ds.length ≤ lim then .ok (.l S.length) (S ++ [.ls (ds.map W.d)]) else .bad
  | .nw es, env, S => (evsP cl es env S).bind fun ds S => newB cl ds S
  | .ca f es, env, S => (evs2 es env S).bind fun ws S => cl2 f ws S
  | .mt f m o es, env, S => if bandF.contains m then .bad else (ev2 o env S).bind fun w S => match w with
    | .l n => if isBd S[n]? then (evs2 es env S).bind fun ws S => cl2 f (.l n :: ws) S else .bad
    | _ => .bad
  | .cm op a b, env, S => (ev2 a env S).bind fun x S => (ev2 b env S).bind fun y S => cmpW op x y S
  | .ad a b, env, S => (ev2 a env S).bind fun x S => (ev2 b env S).bind fun y S => addW x y S
  | .li es, env, S => (evs2 es env S).bind fun ws S => match dsW ws with
    | some ds => if ds.length ≤ lim then .ok (.d (.lst ds)) S else .bad
    | none => .bad
  | .po i, env, S => (ofO2 S (getL env i)).bind fun n S => popW n S
  | .it c a b, env, S => (evTP cl c env S).bind fun k S => if k then ev2 a env S else ev2 b env S
  | .fl i j, env, S => ofO2 S ((getFl env S i j).map W.l)
  | .ln _ a, env, S => (ev2 a env S).bind fun _ _ => .bad
  | .ll a, env, S => (ev2 a env S).bind fun w S => copW w S
  | .oo _ _, _, _ => .bad
  | .o1 _, _, _ => .bad
def evs2 : MEs → Env2 → Sto → R2 (List W)
  | .nil, _, S => .ok [] S
  | .cons e r, env, S => (ev2 e env S).bind fun w S => (evs2 r env S).bind fun ws S => .ok (w :: ws) S
end
def ev2T : ME → Env2 → Sto → R2 Bool
  | .pu e, env, S => evTP cl e env S
  | .cm op a b, env, S => (ev2 cl cl2 (.cm op a b) env S).bind fun w S => liftR S (boolW w)
  | .oo a b, env, S => (ev2T a env S).bind fun k S => if k then .ok true S else ev2T b env S
  | .o1 a, env, S => ev2T a env S
  | _, _, _ => .bad
def setAll2 : List Nat → List W → Env2 → Option Env2
  | [], [], env => some env
  | i :: is, w :: ws, env => setAll2 is ws (env.set i (some w))
  | _, _, _ => none
def setTg2 : Tg → D → Env2 → Option Env2
  | .nm i, d, env => some (env.set i (some (.d d)))
  | .tp is, .tup ds, env => setAll2 is (ds.map W.d) env
  | .tp is, .lst ds, env => setAll2 is (ds.map W.d) env
  | _, _, _ => none
def Fl2.next (k : Env2 → Sto → R2 Fl2) : Fl2 → Sto → R2 Fl2
  | .nx env, S => k env S
  | .rt d, S => .ok (.rt d) S
def forL2 (f : D → Env2 → Sto → R2 Fl2) : List D → Env2 → Sto → R2 Fl2
  | [], env, S => .ok (.nx env) S
  | d :: r, env, S => (f d env S).bind (Fl2.next (forL2 f r))
def whileL2 (c : Env2 → Sto → R2 Bool) (f : Env2 → Sto → R2 Fl2) : Nat → Env2 → Sto → R2 Fl2
  | 0, _, _ => .bad
  | n + 1, env, S => (c env S).bind fun k S => if k then (f env S).bind (Fl2.next (whileL2 c f n)) else .ok (.nx env) S
def noBd : Ob → Ob
  | .bd _ _ _ _ _ => .dead
  | o => o
/-- what is walked: no band is looked at -/
def evIP (it : CI) (env : Env2) (S : Sto) : R2 (List D) := if it.noBor then liftR S (evi cl it (proj (S.map noBd) env)) else .bad
def fsetW (n j : Nat) (w : W) (S : Sto) : Option Sto := match S[n]?, w with
  | some (.bd c r _ dn un), .d x => if j = 2 then some (S.set n (.bd c r x dn un)) else none
  | some (.bd c r vs dn un), .l m => if j = 4 then some (S.set n (.bd c r vs dn m)) else if j = 3 then some (S.set n (.bd c r vs m un)) else none
  | _, _ => none
def fsetsW (n : Nat) : List Nat → List W → Sto → Option Sto
  | [], [], S => some S
  | j :: js, w :: ws, S => (fsetW n j w S).bind fun S => fsetsW n js ws S
  | _, _, _ => none
def appW (n : Nat) (d : D) (S : Sto) : Option Sto := (getLs S n).bind fun ws => if ws.length < lim then some (S.set n (.ls (ws ++ [.d d]))) else none
def nxO (env : Env2) : Option Sto → R2 Fl2
  | some S => .ok (.nx env) S
  | none => .bad
@[simp] theorem nxO_some {env : Env2} {S : Sto} : nxO env (some S) = .ok (.nx env) S := rfl
@[simp] theorem nxO_none {env : Env2} : nxO env none = .bad := rfl
def catch2 {α : Type} (f : Nat → Sto → R2 α) : R2 α → R2 α
  | .exc c S => f c S
  | r => r
/-- what the suite of tryo hands back -/
def catchO (env : Env2) (j cc : Nat) : R2 Fl2 → R2 Fl2
  | .exc c S => if subc c cc then (ofO2 S (getL env j)).bind fun n S => (ofO2 S ((getLs S n).bind dsW)).bind fun ds S => .ok (.rt (.d (.lst ds))) (S.set n .dead) else .ok (.rt (.d .non)) S
  | r => r
mutual
def ex2 : MS → Env2 → Sto → R2 Fl2
  | .asg i e, env, S => (ev2 cl cl2 e env S).bind fun w S => .ok (.nx (env.set i (some w))) S
  | .par sw is es, env, S => if (sw = true ∧ is.length ≠ 2 ∧ is.length ≠ 3) ∨ 1000 < is.length then .bad else (evs2 cl cl2 es env S).bind fun ws S => (ofO2 S (setAll2 is ws env)).bind fun env' S => .ok (.nx env') S
  | .upi is c es es', env, S => if 1000 < is.length then .bad else (evTP cl c env S).bind fun k S => (if k then evs2 cl cl2 es env S else evs2 cl cl2 es' env S).bind fun ws S => (ofO2 S (setAll2 is ws env)).bind fun env' S => .ok (.nx env') S
  | .app i e, env, S => if (getLs S ((getL env i).getD 0)).isSome then (ofO2 S (getL env i)).bind fun n S => (evP cl e env S).bind fun d S => nxO env (appW n d S) else .bad
  | .fset i j e, env, S => (ev2 cl cl2 e env S).bind fun w S => (ofO2 S (getL env i)).bind fun n S => nxO env (fsetW n j w S)
  | .fapp i j e, env, S => if (getLs S ((getFl env S i j).getD 0)).isSome then (ofO2 S (getFl env S i j)).bind fun n S => (evP cl e env S).bind fun d S => nxO env (appW n d S) else .bad
  | .fpop i j l, env, S => (ofO2 S (getFl env S i l)).bind fun n S => (popW n S).bind fun w S => (ofO2 S (getL env i)).bind fun n S => nxO env (fsetW n j w S)
  | .fpar i js es, env, S => if 1000 < js.length then .bad else (evs2 cl cl2 es env S).bind fun ws S => (ofO2 S (getL env i)).bind fun n S => nxO env (fsetsW n js ws S)
  | .tryo b i j c, env, S => if b.still && decide (i ≠ j) then catchO env j c (exs2 b env S) else .bad
  | .exp e, env, S => (ev2 cl cl2 e env S).bind fun _ S => .ok (.nx env) S
  | .ite c a b, env, S => (ev2T cl cl2 c env S).bind fun k S => if k then exs2 a env S else exs2 b env S
  | .forr t it b, env, S => (evIP cl it env S).bind fun ds S => forL2 (fun d e S => (ofO2 S (setTg2 t d e)).bind fun e1 S => exs2 b e1 S) ds env S
  | .whl c b, env, S => whileL2 (evTP cl c) (exs2 b) 100 env S
  | .ret e, env, S => (ev2 cl cl2 e env S).bind fun w S => .ok (.rt w) S
  | .retO i, env, S => (ofO2 S (getL env i)).bind fun n S => (ofO2 S ((getLs S n).bind dsW)).bind fun ds S => .ok (.rt (.d (.lst ds))) (S.set n .dead)
  | .rse c, _, S => .exc c S
  | .tryx b i _ h, env, S => catch2 (fun c S => (ofO2 S (evh c h)).bind fun d S => .ok (.rt (.d d)) S) (exs2 b env S)
def exs2 : MSs → Env2 → Sto → R2 Fl2
  | .nil, env, S => .ok (.nx env) S
  | .cons s r, env, S => (ex2 s env S).bind (Fl2.next fun env' S => exs2 r env' S)
end
end
structure Fn2 where
  np : Nat
  ns : Nat
  body : MSs
abbrev Tab2 := Nat → Option Fn2
def start2 (np ns : Nat) (ws : List W) : Env2 := ws.map some ++ List.replicate (ns - np) none
def outR2 : R2 Fl2 → R2 W
  | .ok (.nx _) S => .ok (.d .non) S
  | .ok (.rt w) S => .ok w S
  | .exc c S => .exc c S
  | .bad => .bad
def run2 (G : Tab) (G2 : Tab2) : Nat → Nat → List W → Sto → R2 W
  | 0, _, _, _ => .bad
  | k + 1, f, ws, S => (ofO2 S (G2 f)).bind fun F S => if ws.length = F.np then outR2 (exs2 (run G k) (run2 G G2 k) F.body (start2 F.np F.ns ws) S) else .bad
end Cl
set_option Elab.async false
set_option linter.all false
set_option maxRecDepth 100000
set_option maxHeartbeats 1000000
namespace Cl
open PySem L2 RZ
open Classical in
section
variable {K : W.Frag}
/-- claims on instances are dropped: data without instances stay -/
theorem rd_drop {P P' : Hp} {a : Addr} {o : HO} (h : ∀ a o, P a = some o → (∀ C dx fs, o ≠ .ins C dx fs) → P' a = some o) (ho : ∀ C dx fs, o ≠ .ins C dx fs) (r : Rd P a o) : Rd P' a o := by
  rcases r with r | ⟨u, r⟩
  · exact .inl (h _ _ r ho)
  · exact .inr ⟨u, h _ _ r fun C dx fs z => by cases z⟩
mutual
theorem Rep.dropI {P P' : Hp} (h : ∀ a o, P a = some o → (∀ C dx fs, o ≠ .ins C dx fs) → P' a = some o) : ∀ (d : D) (v : V), Rep K P d v → d.nob = true → Rep K P' d v
  | .non, _, r, _ => by cases r; exact .non
  | .bl b, _, r, _ => by cases r; exact .bl b
  | .int i, _, r, _ => by cases r; exact .int i
  | .str x, _, r, _ => by cases r; exact .str x
  | .tup ds, _, r, n => by
    cases r with
    | tup h1 h2 => exact .tup (h _ _ h1 fun C dx fs z => by cases z) (Reps.dropI h ds _ h2 (by simpa [D.nob] using n))
  | .lst ds, _, r, n => by
    cases r with
    | lst h1 h2 => exact .lst (h _ _ h1 fun C dx fs z => by cases z) (Reps.dropI h ds _ h2 (by simpa [D.nob] using n))
  | .scr ns, _, r, _ => by
    cases r with
    | scr h1 =>
      refine .scr ?_
      rcases h1 with h1 | h1
      · exact .inl (rd_drop h (fun C dx fs z => by cases z) h1)
      · exact .inr h1
  | .obj _, _, _, n => by simp [D.nob] at n
theorem Reps.dropI {P P' : Hp} (h : ∀ a o, P a = some o → (∀ C dx fs, o ≠ .ins C dx fs) → P' a = some o) : ∀ (ds : List D) (vs : List V), Reps K P ds vs → D.nobs ds = true → Reps K P' ds vs
  | [], _, r, _ => by cases r; exact .nil
  | d :: ds, _, r, n => by
    simp only [D.nobs, Bool.and_eq_true] at n
    cases r with
    | cons h1 h2 => exact .cons (Rep.dropI h d _ h1 n.1) (Reps.dropI h ds _ h2 n.2)
end
end
/-! ### the store in the heap -/
def RelW (K : W.Frag) (M : List Addr) (P : Hp) : W → V → Prop
  | .d x, v => Rep K P x v
  | .l n, v => ∃ a, M[n]? = some a ∧ v = .ref a
inductive RelWs (K : W.Frag) (M : List Addr) (P : Hp) : List W → List V → Prop
  | nil : RelWs K M P [] []
  | cons {w : W} {v : V} {ws : List W} {vs : List V} : RelW K M P w v → RelWs K M P ws vs → RelWs K M P (w :: ws) (v :: vs)
def ObOk (K : W.Frag) (M : List Addr) (P H : Hp) (a : Addr) : Ob → Prop
  | .ls ws => P a = none ∧ ∃ vs, H a = some (.lst vs) ∧ RelWs K M P ws vs
  | .bd c r vs dn un => bandB K = true ∧ P a = none ∧ ∃ dx v1 v2 v3 a3 a4, H a = some (.ins (bandC K) dx (bandF.zip [v1, v2, v3, .ref a3, .ref a4])) ∧ P dx = some (.own a) ∧ Rep K P c v1 ∧ Rep K P r v2 ∧ Rep K P vs v3 ∧ M[dn]? = some a3 ∧ M[un]? = some a4
  | .dead => ∃ o, H a = some o
structure StOk (K : W.Frag) (M : List Addr) (S : Sto) (P H : Hp) : Prop where
  ex : Ex P H
  len : M.length = S.length
  nd : M.Nodup
  ob : ∀ (n : Nat) (o : Ob) (a : Addr), S[n]? = some o → M[n]? = some a → ObOk K M P H a o
structure EnvOk2 (K : W.Frag) (M : List Addr) (env : Env2) (σ : St) (P : Hp) : Prop where
  len : env.length = σ.length
  at_ : ∀ (i : Nat) (w : W), env[i]? = some (some w) → ∃ v, σ[i]? = some (some v) ∧ RelW K M P w v
/-- how things go on -/
structure Nx (M : List Addr) (P : Hp) (M' : List Addr) (P' : Hp) : Prop where
  m : ∀ (n : Nat) (a : Addr), M[n]? = some a → M'[n]? = some a
  p : Ex P P'
theorem Nx.refl (M : List Addr) (P : Hp) : Nx M P M P := ⟨fun _ _ h => h, Same.refl P⟩
theorem Nx.trans {M M1 M2 : List Addr} {P P1 P2 : Hp} (a : Nx M P M1 P1) (b : Nx M1 P1 M2 P2) : Nx M P M2 P2 := ⟨fun n x h => b.m n x (a.m n x h), a.p.trans b.p⟩
section
variable {K : W.Frag} {M M' : List Addr} {S : Sto} {P H P' H' : Hp} {env : Env2} {σ : St}
theorem RelW.mono (x : Nx M P M' P') : ∀ {w : W} {v : V}, RelW K M P w v → RelW K M' P' w v
  | .d _, _, h => Rep.mono x.p _ _ h
  | .l _, _, ⟨a, h1, h2⟩ => ⟨a, x.m _ _ h1, h2⟩
theorem RelWs.mono (x : Nx M P M' P') : ∀ {ws : List W} {vs : List V}, RelWs K M P ws vs → RelWs K M' P' ws vs
  | _, _, .nil => .nil
  | _, _, .cons a b => .cons (a.mono x) (RelWs.mono x b)
theorem RelWs.length : ∀ {ws : List W} {vs : List V}, RelWs K M P ws vs → ws.length = vs.length
  | _, _, .nil => rfl
  | _, _, .cons _ b => by simp [RelWs.length b]
theorem RelWs.append : ∀ {ws us : List W} {vs xs : List V}, RelWs K M P ws vs → RelWs K M P us xs → RelWs K M P (ws ++ us) (vs ++ xs)
  | _, _, _, _, .nil, h => h
  | _, _, _, _, .cons a b, h => .cons a (RelWs.append b h)
theorem RelWs.get : ∀ {ws : List W} {vs : List V} {i : Nat} {w : W}, RelWs K M P ws vs → ws[i]? = some w → ∃ v, vs[i]? = some v ∧ RelW K M P w v
  | _, _, _, _, .nil, e => by simp at e
  | _, _, 0, _, .cons a _, e => by simp at e; subst e; exact ⟨_, rfl, a⟩
  | _, _, i + 1, w, .cons _ b, e => by
    obtain ⟨v, h1, h2⟩ := RelWs.get (i := i) (w := w) b (by simpa using e)
    exact ⟨v, by simpa using h1, h2⟩
theorem relWs_d : ∀ {ds : List D} {vs : List V}, Reps K P ds vs → RelWs K M P (ds.map W.d) vs
  | _, _, .nil => .nil
  | _, _, .cons a b => .cons a (relWs_d b)
theorem dsW_some : ∀ {ws : List W} {ds : List D}, dsW ws = some ds → ws = ds.map W.d
  | [], _, h => by simp [dsW] at h; subst h; rfl
  | .d x :: r, _, h => by
    simp only [dsW, Option.map_eq_some_iff] at h
    obtain ⟨y, h1, rfl⟩ := h
    rw [dsW_some h1]; rfl
  | .l _ :: _, _, h => by simp [dsW] at h
theorem reps_W : ∀ {ds : List D} {vs : List V}, RelWs K M P (ds.map W.d) vs → Reps K P ds vs
  | [], _, h => by cases h; exact .nil
  | d :: ds, _, h => by
    cases h with
    | cons a b => exact .cons a (reps_W b)
theorem EnvOk2.mono (x : Nx M P M' P') (h : EnvOk2 K M env σ P) : EnvOk2 K M' env σ P' := ⟨h.len, fun i w e => by
  obtain ⟨v, h1, h2⟩ := h.at_ i w e
  exact ⟨v, h1, h2.mono x⟩⟩
theorem EnvOk2.set {i : Nat} {w : W} {v : V} (h : EnvOk2 K M env σ P) (r : RelW K M P w v) : EnvOk2 K M (env.set i (some w)) (σ.set i (some v)) P := by
  refine ⟨by simpa using h.len, fun j u e => ?_⟩
  by_cases hj : i = j
  · subst hj
    have hl : i < env.length := by simpa using (List.getElem?_eq_some_iff.mp e).1
    rw [List.getElem?_set_self hl] at e
    cases e
    exact ⟨v, by rw [List.getElem?_set_self (h.len ▸ hl)], r⟩
  · rw [List.getElem?_set_ne hj] at e ⊢
    exact h.at_ j u e
theorem StOk.addr (h : StOk K M S P H) {n : Nat} {o : Ob} (e : S[n]? = some o) : ∃ a, M[n]? = some a := by
  have hl := (List.getElem?_eq_some_iff.mp e).1
  rw [← h.len] at hl
  exact ⟨_, List.getElem?_eq_getElem hl⟩
theorem nd_inj {l : List Addr} (h : l.Nodup) {i j : Nat} {a : Addr} (h1 : l[i]? = some a) (h2 : l[j]? = some a) : i = j := by
  exact (List.getElem?_inj (List.getElem?_eq_some_iff.mp h1).1 h).mp (h1.trans h2.symm)
/-- the persistent part grows, the store stays -/
theorem ObOk.mono {a : Addr} (x : Nx M P M' P') (hh : ∀ o, H a = some o → H' a = some o) (hp : P a = none → P' a = none) : ∀ {o : Ob}, ObOk K M P H a o → ObOk K M' P' H' a o
  | .ls _, ⟨h0, vs, h1, h2⟩ => ⟨hp h0, vs, hh _ h1, h2.mono x⟩
  | .bd _ _ _ _ _, ⟨hb, h0, dx, v1, v2, v3, a3, a4, h1, h2, r1, r2, r3, m3, m4⟩ => ⟨hb, hp h0, dx, v1, v2, v3, a3, a4, hh _ h1, x.p _ _ h2, Rep.mono x.p _ _ r1, Rep.mono x.p _ _ r2, Rep.mono x.p _ _ r3, x.m _ _ m3, x.m _ _ m4⟩
  | .dead, ⟨o, h⟩ => ⟨o, hh _ h⟩
theorem ObOk.there {a : Addr} {o : Ob} (h : ObOk K M P H a o) : H a ≠ none := by
  cases o with
  | ls ws => obtain ⟨vs, e, _⟩ := h.2; rw [e]; simp
  | bd c r vs dn un => obtain ⟨_, h0, dx, v1, v2, v3, a3, a4, h1, _⟩ := h; rw [h1]; simp
  | dead => obtain ⟨o, e⟩ := h; rw [e]; simp
theorem ObOk.some {a : Addr} {o : Ob} (h : ObOk K M P H a o) (hd : o ≠ .dead) : P a = none ∧ H a ≠ none := by
  cases o with
  | ls ws => exact ⟨h.1, by obtain ⟨vs, e, _⟩ := h.2; rw [e]; simp⟩
  | bd c r vs dn un => obtain ⟨_, h0, dx, v1, v2, v3, a3, a4, h1, _⟩ := h; exact ⟨h0, by rw [h1]; simp⟩
  | dead => exact absurd rfl hd
/-- all of the heap stays -/
theorem StOk.ext (h : StOk K M S P H) (e : Ext P H P' H') : StOk K M S P' H' := ⟨e.ph, h.len, h.nd, fun n o a q1 q2 => by
  have k := h.ob n o a q1 q2
  exact k.mono ⟨fun _ _ q => q, e.p⟩ (fun _ q => e.h _ _ q) fun z => e.fr a z k.there⟩
/-! ### bands as data for a while -/
def bandAt (M : List Addr) (S : Sto) (a : Addr) : Prop := ∃ (n : Nat) (c r vs : D) (dn un : Nat), M[n]? = some a ∧ S[n]? = some (.bd c r vs dn un)
open Classical in
noncomputable def frzP (M : List Addr) (S : Sto) (P H : Hp) : Hp := fun a => if bandAt M S a then H a else P a
open Classical in
noncomputable def unP (M : List Addr) (S : Sto) (P : Hp) : Hp := fun a => if bandAt M S a then none else P a
theorem frz_at {a : Addr} (h : bandAt M S a) : frzP M S P H a = H a := by unfold frzP; rw [if_pos h]
theorem frz_ne {a : Addr} (h : ¬ bandAt M S a) : frzP M S P H a = P a := by unfold frzP; rw [if_neg h]
theorem un_at {a : Addr} (h : bandAt M S a) : unP M S P a = none := by unfold unP; rw [if_pos h]
theorem un_ne {a : Addr} (h : ¬ bandAt M S a) : unP M S P a = P a := by unfold unP; rw [if_neg h]
theorem StOk.band (h : StOk K M S P H) {a : Addr} (b : bandAt M S a) : P a = none ∧ ∃ dx fs, H a = some (.ins (bandC K) dx fs) := by
  obtain ⟨n, c, r, vs, dn, un, q1, q2⟩ := b
  obtain ⟨_, h0, dx, v1, v2, v3, a3, a4, h1, _⟩ := h.ob n _ a q2 q1
  exact ⟨h0, dx, _, h1⟩
theorem frz_ex (h : StOk K M S P H) : Ex (frzP M S P H) H := fun a o e => by
  by_cases b : bandAt M S a
  · rw [frz_at b] at e; exact e
  · rw [frz_ne b] at e; exact h.ex a o e
theorem frz_mono (h : StOk K M S P H) : Ex P (frzP M S P H) := fun a o e => by
  by_cases b : bandAt M S a
  · rw [(h.band b).1] at e; cases e
  · rw [frz_ne b]; exact e
theorem hasL_of : ∀ {env : Env2} {n j : Nat}, env[j]? = some (some (.l n)) → hasL n env = true
  | [], _, _, h => by simp at h
  | w :: r, n, 0, h => by simp at h; subst h; simp [hasL]
  | w :: r, n, j + 1, h => by
    have := hasL_of (env := r) (n := n) (j := j) (by simpa using h)
    cases w with
    | none => simpa [hasL] using this
    | some w =>
      cases w with
      | d x => simpa [hasL] using this
      | l m => simp [hasL, this]
theorem proj_len (S : Sto) : ∀ env : Env2, (proj S env).length = env.length
  | [] => rfl
  | _ :: r => by simp [proj, proj_len S r]
theorem proj_at (S : Sto) : ∀ {env : Env2} {i : Nat} {s : Slot}, (proj S env)[i]? = some s → s = .no ∧ (∃ w, env[i]? = some w) ∨ ∃ w, env[i]? = some w ∧ s = projS S w ∧ ∀ n j, w = some (.l n) → i < j → env[j]? ≠ some (some (.l n))
  | [], _, _, h => by simp [proj] at h
  | w :: r, 0, s, h => by
    simp only [proj, List.getElem?_cons_zero, Option.some.injEq] at h
    by_cases hl : later w r = true
    · rw [if_pos hl] at h; exact .inl ⟨h.symm, w, rfl⟩
    · rw [if_neg hl] at h
      refine .inr ⟨w, rfl, h.symm, fun n j hw hj e => hl ?_⟩
      subst hw
      cases j with
      | zero => omega
      | succ j => exact hasL_of (by simpa using e)
  | w :: r, i + 1, s, h => by
    have h' : (proj S r)[i]? = some s := by simpa [proj] using h
    rcases proj_at S h' with ⟨h1, u, h2⟩ | ⟨u, h1, h2, h3⟩
    · exact .inl ⟨h1, u, by simpa using h2⟩
    · refine .inr ⟨u, by simpa using h1, h2, fun n j hw hj e => ?_⟩
      cases j with
      | zero => omega
      | succ j => exact h3 n j hw (by omega) (by simpa using e)
/-- what the first evaluator sees is in the heap -/
theorem proj_ok (h : StOk K M S P H) (I : EnvOk2 K M env σ P) : EnvOk K (fun _ => none) (proj S env) σ (frzP M S P H) H := by
  have no : ∀ i (w : Option W), env[i]? = some w → ∃ x, σ[i]? = some x := fun i w e => by
    have hl := (List.getElem?_eq_some_iff.mp e).1
    rw [I.len] at hl
    exact ⟨_, List.getElem?_eq_getElem hl⟩
  refine ⟨frz_ex h, by rw [proj_len, I.len], fun i s q => ?_, fun i j ds es a b q1 q2 q3 q4 n => ?_⟩
  · rcases proj_at S q with ⟨rfl, w, h1⟩ | ⟨w, h1, rfl, _⟩
    · exact no i w h1
    · cases w with
      | none => exact no i _ h1
      | some w =>
        obtain ⟨v, k1, k2⟩ := I.at_ i w h1
        cases w with
        | d x => exact ⟨v, k1, Rep.mono (frz_mono h) _ _ k2⟩
        | l m =>
          obtain ⟨a, m1, rfl⟩ := k2
          show SlotOk K _ _ _ (projO S[m]?) _
          cases hs : S[m]? with
          | none => exact no i _ h1
          | some o =>
            have ob := h.ob m o a hs m1
            cases o with
            | dead => exact no i _ h1
            | ls ws =>
              obtain ⟨p0, vs, e1, e2⟩ := ob
              show SlotOk K _ _ _ (ownO (dsW ws)) _
              cases hd : dsW ws with
              | none => exact no i _ h1
              | some ds =>
                have nb : ¬ bandAt M S a := fun z => by
                  obtain ⟨_, dx, fs, z⟩ := h.band z
                  rw [e1] at z; cases z
                rw [dsW_some hd] at e2
                exact ⟨a, vs, k1, rfl, by rw [frz_ne nb]; exact p0, e1, (reps_W e2).mono (frz_mono h)⟩
            | bd c r vs dn un =>
              obtain ⟨hb, p0, dx, v1, v2, v3, a3, a4, e1, e2, r1, r2, r3, m3, m4⟩ := ob
              have ba : bandAt M S a := ⟨m, c, r, vs, dn, un, m1, hs⟩
              refine ⟨.ref a, k1, .obj hb (by rw [frz_at ba]; exact e1) (frz_mono h _ _ e2) rfl rfl ?_⟩
              exact .cons (Rep.mono (frz_mono h) _ _ r1) (.cons (Rep.mono (frz_mono h) _ _ r2) (.cons (Rep.mono (frz_mono h) _ _ r3) .nil))
  · intro hab
    subst hab
    have f : ∀ (i : Nat) (zs : List D), (proj S env)[i]? = some (.own zs) → σ[i]? = some (some (.ref a)) → ∃ m, env[i]? = some (some (.l m)) ∧ M[m]? = some a ∧ ∀ j, i < j → env[j]? ≠ some (some (.l m)) := fun i zs q q' => by
      rcases proj_at S q with ⟨h0, _⟩ | ⟨w, h1, h2, h3⟩
      · cases h0
      · cases w with
        | none => simp [projS] at h2
        | some w =>
          cases w with
          | d x => simp [projS] at h2
          | l m =>
            obtain ⟨v, k1, c, k2, rfl⟩ := I.at_ i _ h1
            rw [q'] at k1
            cases k1
            exact ⟨m, h1, k2, fun j hj => h3 m j rfl hj⟩
    obtain ⟨m1, f1, f2, f3⟩ := f i ds q1 q3
    obtain ⟨m2, g1, g2, g3⟩ := f j es q2 q4
    have : m1 = m2 := nd_inj h.nd f2 g2
    subst this
    rcases Nat.lt_or_gt_of_ne n with hl | hl
    · exact f3 j hl g1
    · exact g3 i hl f1
/-- bands change again -/
theorem unfrz (h : StOk K M S P H) {P1 H1 : Hp} (e : Ext (frzP M S P H) H P1 H1) : StOk K M S (unP M S P1) H1 ∧ Nx M P M (unP M S P1) ∧ ∀ (a : Addr) (o : HO), P1 a = some o → (∀ C dx fs, o ≠ .ins C dx fs) → unP M S P1 a = some o := by
  have hn : Nx M P M (unP M S P1) := ⟨fun _ _ q => q, fun a o q => by
    by_cases b : bandAt M S a
    · rw [(h.band b).1] at q; cases q
    · rw [un_ne b]; exact e.p _ _ (frz_mono h _ _ q)⟩
  have np : ∀ a, P a = none → H a ≠ none → unP M S P1 a = none := fun a z1 z2 => by
    by_cases b : bandAt M S a
    · exact un_at b
    · rw [un_ne b]; exact e.fr a (by rw [frz_ne b]; exact z1) z2
  refine ⟨⟨fun a o q => ?_, h.len, h.nd, fun n o a q1 q2 => ?_⟩, hn, fun a o q ho => ?_⟩
  · by_cases b : bandAt M S a
    · rw [un_at b] at q; cases q
    · rw [un_ne b] at q; exact e.ph a o q
  · have k := h.ob n o a q1 q2
    exact k.mono hn (fun _ q => e.h _ _ q) fun z => np a z k.there
  · by_cases b : bandAt M S a
    · obtain ⟨_, dx, fs, z⟩ := h.band b
      have := e.p a _ (by rw [frz_at b]; exact z)
      rw [this] at q
      cases q
      exact absurd rfl (ho _ _ _)
    · rw [un_ne b]; exact q
end
end Cl
set_option Elab.async false
set_option linter.all false
set_option maxRecDepth 100000
set_option maxHeartbeats 1000000
namespace Cl
open PySem L2 RZ
/-! ### readings -/
/-- list(x) -/
def rCopy (K : W.Frag) : List V → Hp → VK → Prop := fun xs H Q => ∃ p ys, xs = [.ref p] ∧ (SqL K H p ys ∨ SqT K H p ys) ∧ ∀ l, H l = none → Q (.ref l) (upd H l (.lst ys))
/-- x.f as a target -/
def gFld (K : W.Frag) (i j : Nat) : TG := fun v σ H Q => ∃ a C dx fs, σ[i]? = some (some (.ref a)) ∧ H a = some (.ins C dx fs) ∧ Cls K C ∧ NoAttr K C (bandF.getD j Str.empty) ∧ fs.length < 1000 ∧ Q σ (upd H a (.ins C dx (putF (bandF.getD j Str.empty) v fs)))
def gFlds (K : W.Frag) (i : Nat) : List Nat → TGs
  | [] => gNil
  | j :: js => gCons (gFld K i j) (gFlds K i js)
/-- the suite of tryo -/
def tsO (cls : Nat → Value) (i j cc : Nat) : Addr → Value → Option Addr → TS := fun a cv d Z σ H => ∃ (c : Nat) (σ0 : L2.St), cv = cls c ∧ d = none ∧ σ = σ0.set i (some (.ref a)) ∧ i ≠ j ∧ ((subc c cc = true ∧ ∃ v, σ0[j]? = some (some v) ∧ Z.rt v H) ∨ (subc c cc = false ∧ Z.rt .non H))
def eTryO (K : W.Frag) (cls : Nat → Value) (i j cc : Nat) (E : EX) (Z : Ends) : EX := fun σ cv d H => wAs K (cls 0) i (tsO cls i j cc) (fun c d σ H => E σ c d H) Z cv d σ H
section
variable (K : W.Frag) (cls : Nat → Value) (sp : Nat → Sp)
mutual
def tOfM (E : EX) : ME → TE
  | .pu e => tOf K sp E e
  | .al i => tVar i
  | .ls es => tLst (tOfs K sp E es)
  | .nw es => tNewB (bandC K) (sp 4900) E (tOfs K sp E es)
  | .ca f es => tCallS (sp (2000 + f)) E (tOfMs E es)
  | .mt f m o es => tMethS (bandC K) m (sp (2000 + f)) E (tOfM E o) (tOfMs E es)
  | .cm op a b => tOp (rCop K op) (tOfM E a) (tOfM E b)
  | .ad a b => tOp (rBop K .add) (tOfM E a) (tOfM E b)
  | .li es => tLst (tOfMs E es)
  | .po i => tBM0 K "list" rPop (tVar i)
  | .it c a b => tIf (tOfT K sp E c) (tOfM E a) (tOfM E b)
  | .fl i j => tFld K (tVar i) (bandF.getD j Str.empty)
  | .ln f a => tLenO (bandC K) (sp f) E (tOfM E a)
  | .ll a => tCB (rCopy K) (tCons (tOfM E a) tNil)
  | .oo _ _ => fun _ _ _ => False
  | .o1 _ => fun _ _ _ => False
def tOfMs (E : EX) : MEs → TA
  | .nil => tNil
  | .cons e r => tCons (tOfM E e) (tOfMs E r)
end
def tOfMT (E : EX) : ME → TT
  | .pu e => tOfT K sp E e
  | .cm op a b => tB (tOfM K sp E (.cm op a b))
  | .oo a b => tOr (tOfMT E a) (tOfMT E b)
  | .o1 a => tOfMT E a
  | _ => fun _ _ _ => False
mutual
def tOfMS (E : EX) : MS → TS
  | .asg i e => tAsg (tOfM K sp E e) (gName i)
  | .par true is es => tParS is (tOfMs K sp E es)
  | .par false is es => tAsg (tTup (tOfMs K sp E es)) (gTup K is.length (gNames is))
  | .upi is c es es' => tAsg (tIf (tOfT K sp E c) (tTup (tOfMs K sp E es)) (tTup (tOfMs K sp E es'))) (gTup K is.length (gNames is))
  | .app i e => tDrop (tBM K "list" rAppend (tVar i) (tCons (tOf K sp E e) tNil))
  | .fset i j e => sFld K (tVar i) (tOfM K sp E e) (bandF.getD j Str.empty)
  | .fapp i j e => tDrop (tBM K "list" rAppend (tFld K (tVar i) (bandF.getD j Str.empty)) (tCons (tOf K sp E e) tNil))
  | .fpop i j l => sFld K (tVar i) (tBM0 K "list" rPop (tFld K (tVar i) (bandF.getD l Str.empty))) (bandF.getD j Str.empty)
  | .fpar i js es => tAsg (tTup (tOfMs K sp E es)) (gTup K js.length (gFlds K i js))
  | .tryo b i j c => fun Z σ H => tOfMSs (eTryO K cls i j c E Z) b Z σ H
  | .exp e => tDrop (tOfM K sp E e)
  | .ite c a b => tIfS (tOfMT K sp E c) (tOfMSs E a) (tOfMSs E b)
  | .forr t it b => tFor (tOfI K sp E it) (tOfG K t) (tOfMSs E b)
  | .whl c b => tWhile (tOfT K sp E c) (tOfMSs E b)
  | .ret e => tRet (tOfM K sp E e)
  | .retO i => tRet (tVar i)
  | .rse c => fun _ σ H => E σ (cls c) none H
  | .tryx b i _ h => fun Z σ H => tOfMSs (eTry K cls i h E Z) b Z σ H
def tOfMSs (E : EX) : MSs → TS
  | .nil => tNext
  | .cons s r => tSeq (tOfMS E s) (tOfMSs E r)
end
/-! ### what they give -/
abbrev TX (β : Type) := L2.St → Hp → (β → Hp → Prop) → Prop
def Post2 {α β : Type} (Rl : List Addr → Hp → α → β → Prop) (E : EX) (σ : L2.St) (M : List Addr) (P : Hp) (r : R2 α) (Q : β → Hp → Prop) : Prop := match r with
  | .ok a S' => ∀ b M' P' H', Nx M P M' P' → StOk K M' S' P' H' → Rl M' P' a b → Q b H'
  | .exc c S' => ∀ M' P' H', Nx M P M' P' → StOk K M' S' P' H' → E σ (cls c) none H'
  | .bad => False
def S2 {α β : Type} (Rl : List Addr → Hp → α → β → Prop) (E : EX) (t : TX β) (f : Env2 → Sto → R2 α) : Prop := ∀ env σ M S P H Q, EnvOk2 K M env σ P → StOk K M S P H → Post2 K cls Rl E σ M P (f env S) Q → t σ H Q
def PostS2 (E : EX) (M : List Addr) (P : Hp) (r : R2 Fl2) (D : Ends) : Prop := match r with
  | .ok (.nx env') S' => ∀ σ' M' P' H', Nx M P M' P' → StOk K M' S' P' H' → EnvOk2 K M' env' σ' P' → D.nx σ' H'
  | .ok (.rt w) S' => ∀ v M' P' H', Nx M P M' P' → StOk K M' S' P' H' → RelW K M' P' w v → D.rt v H'
  | .exc c S' => ∀ σ' M' P' H', Nx M P M' P' → StOk K M' S' P' H' → E σ' (cls c) none H'
  | .bad => False
def SS2 (E : EX) (t : TS) (f : Env2 → Sto → R2 Fl2) : Prop := ∀ env σ M S P H D, EnvOk2 K M env σ P → StOk K M S P H → PostS2 K cls E M P (f env S) D → t D σ H
def rlD : List Addr → Hp → D → V → Prop := fun _ P d v => Rep K P d v
def rlDs : List Addr → Hp → List D → List V → Prop := fun _ P d v => Reps K P d v
def rlW : List Addr → Hp → W → V → Prop := fun M P d v => RelW K M P d v
def rlWs : List Addr → Hp → List W → List V → Prop := fun M P d v => RelWs K M P d v
def rlB : List Addr → Hp → Bool → Bool → Prop := fun _ _ a b => a = b
end
section
variable {K : W.Frag} {cls : Nat → Value} {sp : Nat → Sp} {E : EX} {σ : L2.St} {M : List Addr} {S : Sto} {P H : Hp} {env : Env2}
theorem Post2.step {α β : Type} {Rl : List Addr → Hp → α → β → Prop} {r : R2 α} {Q : β → Hp → Prop} {M1 : List Addr} {P1 : Hp} (x : Nx M P M1 P1) (p : Post2 K cls Rl E σ M P r Q) : Post2 K cls Rl E σ M1 P1 r Q := by
  cases r with
  | ok a S => exact fun b M' P' H' y => p b M' P' H' (x.trans y)
  | exc c S => exact fun M' P' H' y => p M' P' H' (x.trans y)
  | bad => exact p
theorem PostS2.step {r : R2 Fl2} {D : Ends} {M1 : List Addr} {P1 : Hp} (x : Nx M P M1 P1) (p : PostS2 K cls E M P r D) : PostS2 K cls E M1 P1 r D := by
  cases r with
  | ok a S =>
    cases a with
    | nx e => exact fun b M' P' H' y => p b M' P' H' (x.trans y)
    | rt e => exact fun b M' P' H' y => p b M' P' H' (x.trans y)
  | exc c S => exact fun σ' M' P' H' y => p σ' M' P' H' (x.trans y)
  | bad => exact p
theorem S2.then {α β α' β' : Type} {Rl : List Addr → Hp → α → β → Prop} {Rl' : List Addr → Hp → α' → β' → Prop} {t : TX β} {f : Env2 → Sto → R2 α} {k : α → Sto → R2 α'} {Qb : β → Hp → Prop} {Q : β' → Hp → Prop} (h : S2 K cls Rl E t f) (I : EnvOk2 K M env σ P) (J : StOk K M S P H)
    (p : Post2 K cls Rl' E σ M P ((f env S).bind k) Q) (q : ∀ a S1 b M1 P1 H1, Nx M P M1 P1 → StOk K M1 S1 P1 H1 → Rl M1 P1 a b → Post2 K cls Rl' E σ M1 P1 (k a S1) Q → EnvOk2 K M1 env σ P1 → Qb b H1) : t σ H Qb := h env σ M S P H Qb I J (by
  cases hf : f env S with
  | ok a S1 => rw [hf] at p; exact fun b M1 P1 H1 x J1 r => q a S1 b M1 P1 H1 x J1 r (p.step x) (I.mono x)
  | exc c S1 => rw [hf] at p; exact p
  | bad => rw [hf] at p; exact p)
theorem S2.thenS {α β : Type} {Rl : List Addr → Hp → α → β → Prop} {t : TX β} {f : Env2 → Sto → R2 α} {k : α → Sto → R2 Fl2} {Qb : β → Hp → Prop} {D : Ends} (h : S2 K cls Rl E t f) (I : EnvOk2 K M env σ P) (J : StOk K M S P H)
    (p : PostS2 K cls E M P ((f env S).bind k) D) (q : ∀ a S1 b M1 P1 H1, f env S = .ok a S1 → Nx M P M1 P1 → StOk K M1 S1 P1 H1 → Rl M1 P1 a b → PostS2 K cls E M1 P1 (k a S1) D → EnvOk2 K M1 env σ P1 → Qb b H1) : t σ H Qb := h env σ M S P H Qb I J (by
  cases hf : f env S with
  | ok a S1 => rw [hf] at p; exact fun b M1 P1 H1 x J1 r => q a S1 b M1 P1 H1 hf x J1 r (p.step x) (I.mono x)
  | exc c S1 => rw [hf] at p; exact fun M' P' H' x J' => p σ M' P' H' x J'
  | bad => rw [hf] at p; exact p)
/-! expressions of the first evaluator -/
theorem s2_pure {t : TE} {f : Env → R D} (h : SE K cls E t f) : S2 K cls (rlD K) E t (fun env S => liftR S ((f (proj S env)).bind nobR)) := fun env σ M S P H Q I J p => by
  refine h _ _ σ _ H Q (proj_ok J I) ?_
  simp only at p
  cases hf : f (proj S env) with
  | bad => rw [hf] at p; exact p
  | exc c =>
    rw [hf] at p
    intro P1 H1 e
    obtain ⟨k1, k2, _⟩ := unfrz J e
    exact p M _ H1 k2 k1
  | ok d =>
    rw [hf] at p
    simp only [R.bind_ok, nobR] at p
    intro v P1 H1 e r
    obtain ⟨k1, k2, k3⟩ := unfrz J e
    cases hn : d.nob with
    | false => rw [hn] at p; exact p.elim
    | true => rw [hn] at p; exact p v M _ H1 k2 k1 (Rep.dropI k3 _ _ r hn)
theorem s2_pures {t : TA} {f : Env → R (List D)} (h : SA K cls E t f) : S2 K cls (rlDs K) E t (fun env S => liftR S ((f (proj S env)).bind nobsR)) := fun env σ M S P H Q I J p => by
  refine h _ _ σ _ H Q (proj_ok J I) ?_
  simp only at p
  cases hf : f (proj S env) with
  | bad => rw [hf] at p; exact p
  | exc c =>
    rw [hf] at p
    intro P1 H1 e
    obtain ⟨k1, k2, _⟩ := unfrz J e
    exact p M _ H1 k2 k1
  | ok d =>
    rw [hf] at p
    simp only [R.bind_ok, nobsR] at p
    intro v P1 H1 e r
    obtain ⟨k1, k2, k3⟩ := unfrz J e
    cases hn : D.nobs d with
    | false => rw [hn] at p; exact p.elim
    | true => rw [hn] at p; exact p v M _ H1 k2 k1 (Reps.dropI k3 _ _ r hn)
theorem s2_test {t : TT} {f : Env → R Bool} (h : ST K cls E t f) : S2 K cls rlB E t (fun env S => liftR S (f (proj S env))) := fun env σ M S P H Q I J p => by
  refine h _ _ σ _ H Q (proj_ok J I) ?_
  simp only at p
  cases hf : f (proj S env) with
  | bad => rw [hf] at p; exact p
  | exc c =>
    rw [hf] at p
    intro P1 H1 e
    obtain ⟨k1, k2, _⟩ := unfrz J e
    exact p M _ H1 k2 k1
  | ok d =>
    rw [hf] at p
    intro P1 H1 e
    obtain ⟨k1, k2, k3⟩ := unfrz J e
    exact p d M _ H1 k2 k1 rfl
/-! a value, borrowed -/
theorem valD_rep (J : StOk K M S P H) {w : W} {v : V} {d : D} (r : RelW K M P w v) (hd : valD S w = some d) : RepB K P H d v := by
  cases w with
  | d x => simp only [valD, Option.some.injEq] at hd; subst hd; exact .inl r
  | l n =>
    obtain ⟨a, h1, rfl⟩ := r
    cases hs : S[n]? with
    | none => simp [valD, hs] at hd
    | some o =>
      cases o with
      | ls ws =>
        simp only [valD, hs, Option.map_eq_some_iff] at hd
        obtain ⟨ds, e1, rfl⟩ := hd
        obtain ⟨_, vs, e2, e3⟩ := J.ob n _ a hs h1
        rw [dsW_some e1] at e3
        exact .inr ⟨a, vs, ds, rfl, rfl, e2, reps_W e3⟩
      | bd _ _ _ _ _ => simp [valD, hs] at hd
      | dead => simp [valD, hs] at hd
/-! ### the store changes -/
theorem getL_some {i n : Nat} (h : getL env i = some n) : env[i]? = some (some (.l n)) := by
  unfold getL at h
  split at h
  · cases h; assumption
  · cases h
theorem getLs_some {n : Nat} {ws : List W} (h : getLs S n = some ws) : S[n]? = some (.ls ws) := by
  unfold getLs at h
  split at h
  · cases h; assumption
  · cases h
theorem EnvOk2.loc (I : EnvOk2 K M env σ P) {i n : Nat} (h : getL env i = some n) : ∃ a, σ[i]? = some (some (.ref a)) ∧ M[n]? = some a := by
  obtain ⟨v, h1, a, h2, rfl⟩ := I.at_ i _ (getL_some h)
  exact ⟨a, h1, h2⟩
/-- a list changes -/
theorem StOk.setL (J : StOk K M S P H) {n : Nat} {ws us : List W} {vs : List V} {a : Addr} (hs : S[n]? = some (.ls ws)) (hm : M[n]? = some a) (r : RelWs K M P us vs) : StOk K M (S.set n (.ls us)) P (upd H a (.lst vs)) := by
  obtain ⟨hp, ws', ha, _⟩ := J.ob n _ a hs hm
  refine ⟨fun b o e => ?_, by simpa using J.len, J.nd, fun m o b q1 q2 => ?_⟩
  · have : b ≠ a := fun z => by rw [z, hp] at e; cases e
    rw [upd_ne this]; exact J.ex b o e
  · by_cases hn : n = m
    · subst hn
      rw [hm] at q2
      cases q2
      rw [List.getElem?_set_self (List.getElem?_eq_some_iff.mp hs).1] at q1
      cases q1
      exact ⟨hp, vs, upd_same, r⟩
    · rw [List.getElem?_set_ne hn] at q1
      have hb : b ≠ a := fun z => hn (nd_inj J.nd hm (z ▸ q2))
      exact (J.ob m o b q1 q2).mono (.refl _ _) (fun o e => by rw [upd_ne hb]; exact e) id
/-- a band changes -/
theorem StOk.setB (J : StOk K M S P H) {n dn un dn' un' : Nat} {c r vs vs' : D} {a dx a3 a4 : Addr} {v1 v2 v3 : V} {fs : List (Str × V)} (hs : S[n]? = some (.bd c r vs dn un)) (hm : M[n]? = some a) (ha : H a = some (.ins (bandC K) dx fs)) (hdx : P dx = some (.own a))
    (r1 : Rep K P c v1) (r2 : Rep K P r v2) (r3 : Rep K P vs' v3) (m3 : M[dn']? = some a3) (m4 : M[un']? = some a4) : StOk K M (S.set n (.bd c r vs' dn' un')) P (upd H a (.ins (bandC K) dx (bandF.zip [v1, v2, v3, .ref a3, .ref a4]))) := by
  have ob := J.ob n _ a hs hm
  have hb := ob.1
  have hp := ob.2.1
  refine ⟨fun b o e => ?_, by simpa using J.len, J.nd, fun m o b q1 q2 => ?_⟩
  · have : b ≠ a := fun z => by rw [z, hp] at e; cases e
    rw [upd_ne this]; exact J.ex b o e
  · by_cases hn : n = m
    · subst hn
      rw [hm] at q2
      cases q2
      rw [List.getElem?_set_self (List.getElem?_eq_some_iff.mp hs).1] at q1
      cases q1
      exact ⟨hb, hp, dx, v1, v2, v3, a3, a4, upd_same, hdx, r1, r2, r3, m3, m4⟩
    · rw [List.getElem?_set_ne hn] at q1
      have hb : b ≠ a := fun z => hn (nd_inj J.nd hm (z ▸ q2))
      exact (J.ob m o b q1 q2).mono (.refl _ _) (fun o e => by rw [upd_ne hb]; exact e) id
theorem nx_app (M : List Addr) (P : Hp) (as : List Addr) : Nx M P (M ++ as) P := ⟨fun n a h => by rw [List.getElem?_append_left (List.getElem?_eq_some_iff.mp h).1]; exact h, Same.refl P⟩
/-- a new thing -/
theorem StOk.new (J : StOk K M S P H) {a : Addr} {o : HO} {ob : Ob} (hn : H a = none) (hM : a ∉ M) (hk : ObOk K (M ++ [a]) P (upd H a o) a ob) : StOk K (M ++ [a]) (S ++ [ob]) P (upd H a o) := by
  refine ⟨fun b u e => Ex.new hn b u (J.ex b u e), by simp [J.len], List.nodup_append.mpr ⟨J.nd, by simp, fun x hx y hy => by simp at hy; subst hy; exact fun z => hM (z ▸ hx)⟩, fun m q b q1 q2 => ?_⟩
  by_cases hm : m < S.length
  · rw [List.getElem?_append_left hm] at q1
    rw [List.getElem?_append_left (J.len ▸ hm)] at q2
    exact (J.ob m q b q1 q2).mono (nx_app M P [a]) (fun o e => Ex.new hn _ _ e) id
  · have hlt := (List.getElem?_eq_some_iff.mp q1).1
    simp at hlt
    have : m = S.length := by omega
    subst this
    rw [List.getElem?_append_right (Nat.le_refl _), Nat.sub_self] at q1
    rw [← J.len, List.getElem?_append_right (Nat.le_refl _), Nat.sub_self] at q2
    simp at q1 q2
    subst q1 q2
    exact hk
theorem fresh_M (J : StOk K M S P H) {a : Addr} (h : H a = none) : a ∉ M := fun z => by
  obtain ⟨n, hn, e⟩ := List.mem_iff_getElem.mp z
  exact (J.ob n _ a (List.getElem?_eq_getElem (J.len ▸ hn)) (by rw [List.getElem?_eq_getElem hn, e])).there h
theorem mem_M (J : StOk K M S P H) {a : Addr} (h : a ∈ M) : ∃ (n : Nat) (o : Ob), M[n]? = some a ∧ S[n]? = some o := by
  obtain ⟨n, hn, e⟩ := List.mem_iff_getElem.mp h
  refine ⟨n, S[n]'(J.len ▸ hn), by rw [List.getElem?_eq_getElem hn, e], List.getElem?_eq_getElem (J.len ▸ hn)⟩
end
end Cl
set_option Elab.async false
set_option linter.all false
set_option maxRecDepth 100000
set_option maxHeartbeats 1000000
namespace Cl
open PySem L2 RZ
/-- what Band(..) asks -/
def PostNew (K : W.Frag) (cls : Nat → Value) (P H : Hp) (c r : D) (rr : R D) (Q : VK) (Ex' : XK) : Prop := match rr with
  | .ok _ => ∀ (x dx p1 p2 : Addr) (v1 v2 v3 : V) (P' H' : Hp), Ext P H P' H' → H x = none → H p1 = none → H p2 = none → x ≠ p1 → x ≠ p2 → p1 ≠ p2 → H' x = some (.ins (bandC K) dx (bandF.zip [v1, v2, v3, .ref p1, .ref p2])) → P' dx = some (.own x) → Rep K P' c v1 → Rep K P' r v2 → Rep K P' (.tup []) v3 → P' x = none → P' p1 = none → P' p2 = none → H' p1 = some (.lst []) → H' p2 = some (.lst []) → Q (.ref x) H'
  | .exc e => ∀ P' H', Ext P H P' H' → Ex' (cls e) none H'
  | .bad => False
structure Calls2 (K : W.Frag) (cls : Nat → Value) (sp : Nat → Sp) (cl : Nat → List D → R D) (cl2 : Nat → List W → Sto → R2 W) : Prop where
  p : Calls K cls sp cl
  b : bandB K = true
  c : ∀ (f : Nat) (M : List Addr) (S : Sto) (P H : Hp) (ws : List W) (vs : List V) (Q : VK) (Ex' : XK), StOk K M S P H → RelWs K M P ws vs → Post2 K cls (rlW K) (fun _ => Ex') [] M P (cl2 f ws S) Q → sp (2000 + f) vs H Q Ex'
  n : ∀ (P H : Hp) (c r : D) (vc vr : V) (x dx : Addr) (Q : VK) (Ex' : XK), Ex P H → Rep K P c vc → Rep K P r vr → H x = none → H dx = none → dx ≠ x → PostNew K cls P H c r (cl 900 [c, r]) Q Ex' → sp 4900 [.ref x, vc, vr] (upd (upd H dx (.own x)) x (.ins (bandC K) dx [])) (fun v H2 => v = .non ∧ Q (.ref x) H2) Ex'
section
variable {K : W.Frag} {cls : Nat → Value} {sp : Nat → Sp} {cl : Nat → List D → R D} {cl2 : Nat → List W → Sto → R2 W} {E : EX} {σ : L2.St} {M : List Addr} {S : Sto} {P H : Hp} {env : Env2}
theorem s2_map {α β γ : Type} {Rl : List Addr → Hp → α → β → Prop} {Rg : List Addr → Hp → γ → β → Prop} {t : TX β} {f : Env2 → Sto → R2 α} {g : α → γ} (h : S2 K cls Rl E t f) (hg : ∀ M P a b, Rl M P a b → Rg M P (g a) b) : S2 K cls Rg E t (fun env S => (f env S).bind fun a S => .ok (g a) S) := fun env σ M S P H Q I J p =>
  h.then I J p fun a S1 b M1 P1 H1 x J1 r p1 I1 => p1 b M1 P1 H1 (.refl _ _) J1 (hg _ _ _ _ r)
theorem s2_al {i : Nat} : S2 K cls (rlW K) E (tVar i) (fun env S => ofO2 S ((getL env i).map W.l)) := fun env σ M S P H Q I J p => by
  simp only at p
  cases hg : getL env i with
  | none => rw [hg] at p; exact p.elim
  | some n =>
    rw [hg] at p
    obtain ⟨a, h1, h2⟩ := I.loc hg
    exact ⟨.ref a, h1, p _ M P H (.refl _ _) J ⟨a, h2, rfl⟩⟩
theorem s2_ls {t : TA} {f : Env2 → Sto → R2 (List D)} (h : S2 K cls (rlDs K) E t f) : S2 K cls (rlW K) E (tLst t) (fun env S => (f env S).bind fun ds S => if ds.length ≤ lim then .ok (.l S.length) (S ++ [.ls (ds.map W.d)]) else .bad) := fun env σ M S P H Q I J p =>
  h.then I J p fun ds S1 vs M1 P1 H1 x J1 r p1 I1 => by
    by_cases hl : ds.length ≤ lim
    · rw [if_pos hl] at p1
      refine ⟨by rw [← Reps.length r]; exact hl, fun a ha => ?_⟩
      have hM := fresh_M J1 ha
      have J2 : StOk K (M1 ++ [a]) (S1 ++ [.ls (ds.map W.d)]) P1 (upd H1 a (.lst vs)) := J1.new ha hM ⟨J1.ex.free ha, vs, upd_same, RelWs.mono (nx_app M1 P1 [a]) (relWs_d r)⟩
      refine p1 _ _ _ _ (nx_app M1 P1 [a]) J2 ⟨a, ?_, rfl⟩
      rw [← J1.len, List.getElem?_append_right (Nat.le_refl _), Nat.sub_self]
      rfl
    · rw [if_neg hl] at p1; exact p1.elim
theorem s2_li {t : TA} {f : Env2 → Sto → R2 (List W)} (h : S2 K cls (rlWs K) E t f) : S2 K cls (rlW K) E (tLst t) (fun env S => (f env S).bind fun ws S => match dsW ws with
    | some ds => if ds.length ≤ lim then .ok (.d (.lst ds)) S else .bad
    | none => .bad) := fun env σ M S P H Q I J p =>
  h.then I J p fun ws S1 vs M1 P1 H1 x J1 r p1 I1 => by
    cases hd : dsW ws with
    | none => rw [hd] at p1; exact p1.elim
    | some ds =>
      rw [hd] at p1
      have r' : RelWs K M1 P1 (ds.map W.d) vs := by rw [← dsW_some hd]; exact r
      have rd := reps_W r'
      by_cases hl : ds.length ≤ lim
      · simp only [if_pos hl] at p1
        refine ⟨by rw [← rd.length]; exact hl, fun a ha => ?_⟩
        obtain ⟨P2, e2, r2⟩ := Res.keep J1.ex (Res.newL (K := K) ha rd)
        exact p1 _ M1 P2 _ ⟨fun _ _ q => q, e2.p⟩ (J1.ext e2) r2
      · simp only [if_neg hl] at p1; exact p1.elim
theorem s2_cm {op : COp} {ta tb : TE} {fa fb : Env2 → Sto → R2 W} (ha : S2 K cls (rlW K) E ta fa) (hb : S2 K cls (rlW K) E tb fb) : S2 K cls (rlW K) E (tOp (rCop K op) ta tb) (fun env S => (fa env S).bind fun x S => (fb env S).bind fun y S => cmpW op x y S) := fun env σ M S P H Q I J p =>
  ha.then I J p fun w1 S1 v1 M1 P1 H1 x1 J1 r1 p1 I1 => hb.then I1 J1 p1 fun w2 S2 v2 M2 P2 H2 x2 J2 r2 p2 I2 => by
    unfold cmpW at p2
    cases h1 : valD S2 w1 with
    | none => rw [h1] at p2; exact p2.elim
    | some d1 =>
      cases h2 : valD S2 w2 with
      | none => rw [h1, h2] at p2; exact p2.elim
      | some d2 =>
        simp only [h1, h2] at p2
        cases hc : copF op d1 d2 with
        | none => rw [hc] at p2; exact p2.elim
        | some b =>
          rw [hc] at p2
          exact ⟨P2, d1, d2, b, J2.ex, valD_rep J2 (RelW.mono x2 r1) h1, valD_rep J2 r2 h2, hc, p2 _ M2 P2 H2 (.refl _ _) J2 (.bl b)⟩
theorem s2_ad {ta tb : TE} {fa fb : Env2 → Sto → R2 W} (ha : S2 K cls (rlW K) E ta fa) (hb : S2 K cls (rlW K) E tb fb) : S2 K cls (rlW K) E (tOp (rBop K .add) ta tb) (fun env S => (fa env S).bind fun x S => (fb env S).bind fun y S => addW x y S) := fun env σ M S P H Q I J p =>
  ha.then I J p fun w1 S1 v1 M1 P1 H1 x1 J1 r1 p1 I1 => hb.then I1 J1 p1 fun w2 S2 v2 M2 P2 H2 x2 J2 r2 p2 I2 => by
    unfold addW at p2
    split at p2
    · rename_i a b h1 h2
      by_cases hl : a.length + b.length ≤ lim
      · rw [if_pos hl] at p2
        refine ⟨P2, .lst a, .lst b, .lst (a ++ b), J2.ex, valD_rep J2 (RelW.mono x2 r1) h1, valD_rep J2 r2 h2, by simp only [bopF, if_pos hl], fun v H' r _ => ?_⟩
        obtain ⟨P3, e3, r3⟩ := r.keep J2.ex
        exact p2 _ M2 P3 _ ⟨fun _ _ q => q, e3.p⟩ (J2.ext e3) r3
      · rw [if_neg hl] at p2; exact p2.elim
    · exact p2.elim
theorem s2_it {c : TT} {ta tb : TE} {fc : Env2 → Sto → R2 Bool} {fa fb : Env2 → Sto → R2 W} (hc : S2 K cls rlB E c fc) (ha : S2 K cls (rlW K) E ta fa) (hb : S2 K cls (rlW K) E tb fb) : S2 K cls (rlW K) E (tIf c ta tb) (fun env S => (fc env S).bind fun k S => if k then fa env S else fb env S) := fun env σ M S P H Q I J p =>
  hc.then I J p fun k S1 b M1 P1 H1 x J1 r p1 I1 => by
    obtain rfl : k = b := r
    cases k with
    | true => exact ha _ _ _ _ _ _ _ I1 J1 p1
    | false => exact hb _ _ _ _ _ _ _ I1 J1 p1
theorem popW_ok (J : StOk K M S P H) {n : Nat} {a : Addr} (hm : M[n]? = some a) {w : W} {S1 : Sto} (h : popW n S = .ok w S1) : ∃ vs v, H a = some (.lst vs) ∧ vs[vs.length - 1]? = some v ∧ RelW K M P w v ∧ StOk K M S1 P (upd H a (.lst vs.dropLast)) := by
  unfold popW at h
  cases hg : getLs S n with
  | none => simp [hg] at h
  | some ws =>
    simp only [hg] at h
    cases hl : ws.getLast? with
    | none => simp [hl] at h
    | some w' =>
      simp only [hl, R2.ok.injEq] at h
      obtain ⟨rfl, rfl⟩ := h
      have hs := getLs_some hg
      obtain ⟨_, vs, h1, h2⟩ := J.ob n _ a hs hm
      have hlen := h2.length
      rw [List.getLast?_eq_getElem?] at hl
      obtain ⟨v, k1, k2⟩ := h2.get hl
      refine ⟨vs, v, h1, by rw [← hlen]; exact k1, k2, J.setL hs hm ?_⟩
      rw [List.dropLast_eq_take, List.dropLast_eq_take, hlen]
      exact relWs_take _ h2
where
  relWs_take : ∀ {K : W.Frag} {M : List Addr} {P : Hp} (n : Nat) {ws : List W} {vs : List V}, RelWs K M P ws vs → RelWs K M P (ws.take n) (vs.take n)
    | _, _, _, 0, _, _, _ => by simpa using RelWs.nil
    | _, _, _, _ + 1, _, _, .nil => by simpa using RelWs.nil
    | _, _, _, n + 1, _, _, .cons r t => .cons r (relWs_take n t)
theorem popW_exc {n c : Nat} {S S1 : Sto} : popW n S ≠ .exc c S1 := by
  unfold popW
  cases getLs S n with
  | none => simp
  | some ws => cases h : ws.getLast? <;> simp [h]
theorem s2_po {i : Nat} : S2 K cls (rlW K) E (tBM0 K "list" rPop (tVar i)) (fun env S => (ofO2 S (getL env i)).bind fun n S => popW n S) := fun env σ M S P H Q I J p => by
  simp only at p
  cases hg : getL env i with
  | none => rw [hg] at p; exact p.elim
  | some n =>
    rw [hg] at p
    simp only [ofO2_some, R2.bind_ok] at p
    obtain ⟨a, h1, h2⟩ := I.loc hg
    cases hp : popW n S with
    | bad => rw [hp] at p; exact p.elim
    | exc c S1 => exact absurd hp popW_exc
    | ok w S1 =>
      rw [hp] at p
      obtain ⟨vs, v, k1, k2, k3, k4⟩ := popW_ok J h2 hp
      exact ⟨.ref a, h1, .inl ⟨rfl, vs, SqL.of k1⟩, a, vs, v, rfl, rfl, k1, k2, p v M P _ (.refl _ _) k4 k3⟩
theorem getFl_some {i j m : Nat} (h : getFl env S i j = some m) : ∃ n c r vs dn un, getL env i = some n ∧ S[n]? = some (.bd c r vs dn un) ∧ ((j = 3 ∧ m = dn) ∨ (j = 4 ∧ m = un)) := by
  unfold getFl at h
  cases hg : getL env i with
  | none => simp [hg] at h
  | some n =>
    simp only [hg, Option.bind_some] at h
    split at h
    · rename_i c r vs dn un hs
      refine ⟨n, c, r, vs, dn, un, rfl, hs, ?_⟩
      by_cases h3 : j = 3
      · rw [if_pos h3] at h; exact .inl ⟨h3, (Option.some.inj h).symm⟩
      · rw [if_neg h3] at h
        by_cases h4 : j = 4
        · rw [if_pos h4] at h; exact .inr ⟨h4, (Option.some.inj h).symm⟩
        · rw [if_neg h4] at h; cases h
    · cases h
theorem StOk.fld (I : EnvOk2 K M env σ P) (J : StOk K M S P H) {i j m : Nat} (h : getFl env S i j = some m) : ∃ a C dx fs b, σ[i]? = some (some (.ref a)) ∧ H a = some (.ins C dx fs) ∧ Cls K C ∧ NoAttr K C (bandF.getD j Str.empty) ∧ fs.lookup (bandF.getD j Str.empty) = some (.ref b) ∧ M[m]? = some b := by
  obtain ⟨n, c, r, vs, dn, un, h1, h2, h3⟩ := getFl_some h
  obtain ⟨a, k1, k2⟩ := I.loc h1
  obtain ⟨hb, p0, dx, v1, v2, v3, a3, a4, e1, e2, r1, r2, r3, m3, m4⟩ := J.ob n _ a h2 k2
  have B := bandB_ok hb
  rcases h3 with ⟨rfl, rfl⟩ | ⟨rfl, rfl⟩
  · exact ⟨a, bandC K, dx, _, a3, k1, e1, B.cl, B.no _ (by decide), by rfl, m3⟩
  · exact ⟨a, bandC K, dx, _, a4, k1, e1, B.cl, B.no _ (by decide), by rfl, m4⟩
theorem s2_fl {i j : Nat} : S2 K cls (rlW K) E (tFld K (tVar i) (bandF.getD j Str.empty)) (fun env S => ofO2 S ((getFl env S i j).map W.l)) := fun env σ M S P H Q I J p => by
  simp only at p
  cases hg : getFl env S i j with
  | none => rw [hg] at p; exact p.elim
  | some m =>
    rw [hg] at p
    obtain ⟨a, C, dx, fs, b, k1, k2, k3, k4, k5, k6⟩ := J.fld I hg
    exact ⟨.ref a, k1, a, C, dx, fs, .ref b, rfl, k2, k3, k4, k5, p _ M P H (.refl _ _) J ⟨b, k6, rfl⟩⟩
theorem s2_ln {f : Nat} {ta : TE} {fa : Env2 → Sto → R2 W} (ha : S2 K cls (rlW K) E ta fa) : S2 K cls (rlW K) E (tLenO (bandC K) (sp f) E ta) (fun env S => (fa env S).bind fun _ _ => .bad) := fun env σ M S P H Q I J p =>
  ha.then I J p fun _ _ _ _ _ _ _ _ _ p1 _ => p1.elim
theorem s2_ll {ta : TE} {fa : Env2 → Sto → R2 W} (ha : S2 K cls (rlW K) E ta fa) : S2 K cls (rlW K) E (tCB (rCopy K) (tCons ta tNil)) (fun env S => (fa env S).bind fun w S => copW w S) := fun env σ M S P H Q I J p =>
  ha.then I J p fun w S1 v M1 P1 H1 x J1 r p1 I1 => by
    cases w with
    | d y => exact p1.elim
    | l n =>
      obtain ⟨a, h1, rfl⟩ := r
      unfold copW at p1
      cases hg : getLs S1 n with
      | none => simp only [hg] at p1; exact p1.elim
      | some ws =>
        simp only [hg] at p1
        obtain ⟨_, vs, h2, h3⟩ := J1.ob n _ a (getLs_some hg) h1
        refine ⟨a, vs, rfl, .inl (SqL.of h2), fun l hl => ?_⟩
        have J2 : StOk K (M1 ++ [l]) (S1 ++ [.ls ws]) P1 (upd H1 l (.lst vs)) := J1.new hl (fresh_M J1 hl) ⟨J1.ex.free hl, vs, upd_same, RelWs.mono (nx_app M1 P1 [l]) h3⟩
        refine p1 _ _ _ _ (nx_app M1 P1 [l]) J2 ⟨l, ?_, rfl⟩
        rw [← J1.len, List.getElem?_append_right (Nat.le_refl _), Nat.sub_self]
        rfl
theorem s2_nil : S2 K cls (rlWs K) E tNil (fun env S => .ok [] S) := fun env σ M S P H Q I J p => p [] M P H (.refl _ _) J .nil
theorem s2_cons {t : TE} {u : TA} {f : Env2 → Sto → R2 W} {g : Env2 → Sto → R2 (List W)} (h : S2 K cls (rlW K) E t f) (h' : S2 K cls (rlWs K) E u g) : S2 K cls (rlWs K) E (tCons t u) (fun env S => (f env S).bind fun w S => (g env S).bind fun ws S => .ok (w :: ws) S) := fun env σ M S P H Q I J p =>
  h.then I J p fun w S1 v M1 P1 H1 x J1 r p1 I1 => h'.then I1 J1 p1 fun ws S2 vs M2 P2 H2 x2 J2 r2 p2 I2 => p2 _ M2 P2 H2 (.refl _ _) J2 (.cons (RelW.mono x2 r) r2)
theorem s2_ca {f : Nat} {t : TA} {g : Env2 → Sto → R2 (List W)} (hC : Calls2 K cls sp cl cl2) (h : S2 K cls (rlWs K) E t g) : S2 K cls (rlW K) E (tCallS (sp (2000 + f)) E t) (fun env S => (g env S).bind fun ws S => cl2 f ws S) := fun env σ M S P H Q I J p =>
  h.then I J p fun ws S1 vs M1 P1 H1 x J1 r p1 I1 => hC.c f M1 S1 P1 H1 ws vs Q (E σ) J1 r (by
    cases hc : cl2 f ws S1 with
    | ok w S2 => rw [hc] at p1; exact p1
    | exc c S2 => rw [hc] at p1; exact p1
    | bad => rw [hc] at p1; exact p1)
theorem s2_mt {f : Nat} {m : Str} {to : TE} {fo : Env2 → Sto → R2 W} {t : TA} {g : Env2 → Sto → R2 (List W)} (hC : Calls2 K cls sp cl cl2) (ho : S2 K cls (rlW K) E to fo) (h : S2 K cls (rlWs K) E t g) : S2 K cls (rlW K) E (tMethS (bandC K) m (sp (2000 + f)) E to t) (fun env S => if bandF.contains m then .bad else (fo env S).bind fun w S => match w with
    | .l n => if isBd S[n]? then (g env S).bind fun ws S => cl2 f (.l n :: ws) S else .bad
    | _ => .bad) := fun env σ M S P H Q I J p => by
  simp only at p
  cases hm : bandF.contains m with
  | true => rw [hm] at p; exact p.elim
  | false =>
    simp only [hm, Bool.false_eq_true, if_false] at p
    have hm' : m ∉ bandF := fun z => by rw [List.contains_iff_mem.mpr z] at hm; cases hm
    refine ho.then I J p fun w S1 v M1 P1 H1 x J1 r p1 I1 => ?_
    cases w with
    | d x => exact p1.elim
    | l n =>
      obtain ⟨a, ha, rfl⟩ := r
      cases hs : S1[n]? with
      | none => simp only [hs, isBd, Bool.false_eq_true, if_false] at p1; exact p1.elim
      | some o =>
        cases o with
        | bd c r' vs' dn un =>
          simp only [hs, isBd, if_true] at p1
          obtain ⟨hb, p0, dx, v1, v2, v3, a3, a4, e1, _⟩ := J1.ob n _ a hs ha
          refine ⟨a, dx, _, rfl, e1, look_none hm', h.then I1 J1 p1 fun ws S2 vs M2 P2 H2 x2 J2 r2 p2 I2 => hC.c f M2 S2 P2 H2 (.l n :: ws) (.ref a :: vs) Q (E σ) J2 (.cons ⟨a, x2.m _ _ ha, rfl⟩ r2) ?_⟩
          cases hc : cl2 f (.l n :: ws) S2 with
          | ok w S2 => rw [hc] at p2; exact p2
          | exc c S2 => rw [hc] at p2; exact p2
          | bad => rw [hc] at p2; exact p2
        | ls ws => simp only [hs, isBd, Bool.false_eq_true, if_false] at p1; exact p1.elim
        | dead => simp only [hs, isBd, Bool.false_eq_true, if_false] at p1; exact p1.elim
theorem s2_nw {t : TA} {g : Env2 → Sto → R2 (List D)} (hC : Calls2 K cls sp cl cl2) (h : S2 K cls (rlDs K) E t g) : S2 K cls (rlW K) E (tNewB (bandC K) (sp 4900) E t) (fun env S => (g env S).bind fun ds S => newB cl ds S) := fun env σ M S P H Q I J p =>
  h.then I J p fun ds S1 vs M1 P1 H1 x J1 r p1 I1 => fun y dx hy hdx hne => by
    match ds, vs, r with
    | [c, r], [vc, vr], .cons rc (.cons rr .nil) =>
      refine hC.n P1 H1 c r vc vr y dx Q (E σ) J1.ex rc rr hy hdx hne ?_
      simp only [newB] at p1
      unfold PostNew
      cases hc : cl 900 [c, r] with
      | bad => rw [hc] at p1; exact p1.elim
      | exc e =>
        rw [hc] at p1
        intro P' H' e'
        exact p1 M1 P' H' ⟨fun _ _ q => q, e'.p⟩ (J1.ext e')
      | ok d =>
        rw [hc] at p1
        simp only [liftR_ok, R2.bind_ok] at p1
        intro x dx p1' p2' v1 v2 v3 P' H' e' f1 f2 f3 n1 n2 n3 hx hdx r1 r2 r3 q0 q1 q2 l1 l2
        have J2 := J1.ext e'
        have M1n : ∀ a, H1 a = none → a ∉ M1 := fun a ha => fresh_M J1 ha
        have nx : Nx M1 P1 (M1 ++ [p1', p2', x]) P' := ⟨(nx_app M1 P1 [p1', p2', x]).m, e'.p⟩
        have nx' : Nx M1 P' (M1 ++ [p1', p2', x]) P' := nx_app M1 P' _
        have i0 : (M1 ++ [p1', p2', x])[S1.length]? = some p1' := by rw [← J1.len, List.getElem?_append_right (Nat.le_refl _), Nat.sub_self]; rfl
        have i1 : (M1 ++ [p1', p2', x])[S1.length + 1]? = some p2' := by rw [← J1.len, List.getElem?_append_right (by omega), show M1.length + 1 - M1.length = 1 by omega]; rfl
        have i2 : (M1 ++ [p1', p2', x])[S1.length + 2]? = some x := by rw [← J1.len, List.getElem?_append_right (by omega), show M1.length + 2 - M1.length = 2 by omega]; rfl
        refine p1 (.ref x) _ P' H' nx ⟨e'.ph, by simp [J1.len], ?_, fun n o a g1 g2 => ?_⟩ ⟨x, i2, rfl⟩
        · refine List.nodup_append.mpr ⟨J1.nd, ?_, fun u hu w hw z => ?_⟩
          · simp only [List.nodup_cons, List.mem_cons, List.not_mem_nil, or_false, not_or, not_false_eq_true, List.nodup_nil, and_true]
            exact ⟨⟨n3, Ne.symm n1⟩, Ne.symm n2⟩
          · subst z
            simp only [List.mem_cons, List.not_mem_nil, or_false] at hw
            rcases hw with rfl | rfl | rfl
            · exact M1n _ f2 hu
            · exact M1n _ f3 hu
            · exact M1n _ f1 hu
        · by_cases hn : n < S1.length
          · rw [List.getElem?_append_left hn] at g1
            rw [List.getElem?_append_left (J1.len ▸ hn)] at g2
            exact (J2.ob n o a g1 g2).mono nx' (fun _ q => q) id
          · have hlt := (List.getElem?_eq_some_iff.mp g1).1
            simp at hlt
            have g1' : [Ob.ls [], Ob.ls [], Ob.bd c r (.tup []) S1.length (S1.length + 1)][n - S1.length]? = some o := by rw [← g1, List.getElem?_append_right (by omega)]
            have hn3 : n = S1.length ∨ n = S1.length + 1 ∨ n = S1.length + 2 := by omega
            rcases hn3 with rfl | rfl | rfl
            · rw [i0] at g2; cases g2
              rw [Nat.sub_self] at g1'; cases g1'
              exact ⟨q1, [], l1, .nil⟩
            · rw [i1] at g2; cases g2
              rw [show S1.length + 1 - S1.length = 1 by omega] at g1'; cases g1'
              exact ⟨q2, [], l2, .nil⟩
            · rw [i2] at g2; cases g2
              rw [show S1.length + 2 - S1.length = 2 by omega] at g1'; cases g1'
              exact ⟨hC.b, q0, dx, v1, v2, v3, p1', p2', hx, hdx, r1, r2, r3, i0, i1⟩
    | [], _, _ => exact p1.elim
    | [_], _, _ => exact p1.elim
    | _ :: _ :: _ :: _, _, _ => exact p1.elim
end
section
variable {K : W.Frag} {cls : Nat → Value} {sp : Nat → Sp} {cl : Nat → List D → R D} {cl2 : Nat → List W → Sto → R2 W} (hC : Calls2 K cls sp cl cl2)
include hC
theorem s2_evP (e : CE) (E : EX) : S2 K cls (rlD K) E (tOf K sp E e) (evP cl e) := s2_pure (se_V hC.p e E)
theorem s2_evsP (es : CEs) (E : EX) : S2 K cls (rlDs K) E (tOfs K sp E es) (evsP cl es) := s2_pures (sa_all hC.p es E)
theorem s2_evTP (e : CE) (E : EX) : S2 K cls rlB E (tOfT K sp E e) (evTP cl e) := s2_test (st_T hC.p e E)
mutual
theorem s2_all : ∀ (e : ME) (E : EX), S2 K cls (rlW K) E (tOfM K sp E e) (ev2 cl cl2 e)
  | .pu e, E => s2_map (s2_evP hC e E) fun _ _ _ _ r => r
  | .al i, E => s2_al
  | .ls es, E => s2_ls (s2_evsP hC es E)
  | .nw es, E => s2_nw hC (s2_evsP hC es E)
  | .ca f es, E => s2_ca hC (s2s_all es E)
  | .mt f m o es, E => s2_mt hC (s2_all o E) (s2s_all es E)
  | .cm op a b, E => s2_cm (s2_all a E) (s2_all b E)
  | .ad a b, E => s2_ad (s2_all a E) (s2_all b E)
  | .li es, E => s2_li (s2s_all es E)
  | .po i, E => s2_po
  | .it c a b, E => s2_it (s2_evTP hC c E) (s2_all a E) (s2_all b E)
  | .fl i j, E => s2_fl
  | .ln f a, E => s2_ln (s2_all a E)
  | .ll a, E => s2_ll (s2_all a E)
  | .oo _ _, E => fun _ _ _ _ _ _ _ _ _ p => p.elim
  | .o1 _, E => fun _ _ _ _ _ _ _ _ _ p => p.elim
theorem s2s_all : ∀ (es : MEs) (E : EX), S2 K cls (rlWs K) E (tOfMs K sp E es) (evs2 cl cl2 es)
  | .nil, E => s2_nil
  | .cons e r, E => s2_cons (s2_all e E) (s2s_all r E)
end
theorem s2T_all : ∀ (e : ME) (E : EX), S2 K cls rlB E (tOfMT K sp E e) (ev2T cl cl2 e)
  | .pu e, E => s2_evTP hC e E
  | .cm op a b, E => fun env σ M S P H Q I J p => (s2_all hC (.cm op a b) E).then I J p fun w S1 v M1 P1 H1 x J1 r p1 I1 => by
    cases w with
    | l n => exact p1.elim
    | d d =>
      cases d with
      | bl b => cases r; exact ⟨b, rfl, p1 b M1 P1 H1 (.refl _ _) J1 rfl⟩
      | _ => exact p1.elim
  | .oo a b, E => fun env σ M S P H Q I J p => (s2T_all a E).then I J p fun k S1 b' M1 P1 H1 x J1 r p1 I1 => by
    obtain rfl : k = b' := r
    cases k with
    | true => exact p1 true M1 P1 H1 (.refl _ _) J1 rfl
    | false => exact s2T_all b E _ _ _ _ _ _ _ I1 J1 p1
  | .o1 a, E => s2T_all a E
  | .al _, E | .ls _, E | .nw _, E | .ca _ _, E | .mt _ _ _ _, E | .ad _ _, E | .li _, E | .po _, E | .it _ _ _, E | .fl _ _, E | .ln _ _, E | .ll _, E => fun _ _ _ _ _ _ _ _ _ p => p.elim
end
end Cl
set_option Elab.async false
set_option linter.all false
set_option maxRecDepth 100000
set_option maxHeartbeats 1000000
namespace Cl
open PySem L2 RZ
section
variable {K : W.Frag} {cls : Nat → Value} {sp : Nat → Sp} {cl : Nat → List D → R D} {cl2 : Nat → List W → Sto → R2 W} {E : EX} {σ : L2.St} {M : List Addr} {S : Sto} {P H : Hp} {env : Env2}
theorem setAll2_len : ∀ {is : List Nat} {ws : List W} {env env' : Env2}, setAll2 is ws env = some env' → ws.length = is.length
  | [], [], _, _, _ => rfl
  | _ :: is, _ :: ws, _, _, h => by simp only [setAll2] at h; simp [setAll2_len h]
  | [], _ :: _, _, _, h => by simp [setAll2] at h
  | _ :: _, [], _, _, h => by simp [setAll2] at h
theorem g2_names : ∀ (is : List Nat) {ws : List W} {vs : List V} {env env' : Env2} {σ : L2.St} {Q : L2.St → Hp → Prop}, RelWs K M P ws vs → EnvOk2 K M env σ P → setAll2 is ws env = some env' → (∀ σ', EnvOk2 K M env' σ' P → Q σ' H) → gNames is vs σ H Q
  | [], _, _, _, _, _, _, .nil, I, h, q => by simp only [setAll2, Option.some.injEq] at h; subst h; exact ⟨rfl, q _ I⟩
  | i :: is, _, _, _, _, _, _, .cons r t, I, h, q => ⟨_, _, rfl, g2_names is t (I.set r) h q⟩
  | [], _, _, _, _, _, _, .cons _ _, _, h, _ => by simp [setAll2] at h
  | _ :: _, _, _, _, _, _, _, .nil, _, h, _ => by simp [setAll2] at h
theorem g2_of {tg : Tg} {d : D} {x : V} {env' : Env2} (hx : Ex P H) (I : EnvOk2 K M env σ P) (r : Rep K P d x) (h : setTg2 tg d env = some env') {Q : L2.St → Hp → Prop} (q : ∀ σ', EnvOk2 K M env' σ' P → Q σ' H) : tOfG K tg x σ H Q := by
  cases tg with
  | nm i =>
    simp only [setTg2, Option.some.injEq] at h
    subst h
    exact q _ (I.set r)
  | tp is =>
    cases d with
    | tup ds =>
      cases r with
      | tup g r => exact .inl ⟨_, _, rfl, SqT.of (hx _ _ g), by rw [← r.length]; simpa using setAll2_len h, g2_names is (relWs_d r) I h q⟩
    | lst ds =>
      cases r with
      | lst g r => exact .inr ⟨_, _, rfl, SqL.of (hx _ _ g), by rw [← r.length]; simpa using setAll2_len h, g2_names is (relWs_d r) I h q⟩
    | _ => simp [setTg2] at h
theorem ss2_asg {i : Nat} {t : TE} {f : Env2 → Sto → R2 W} (h : S2 K cls (rlW K) E t f) : SS2 K cls E (tAsg t (gName i)) (fun env S => (f env S).bind fun w S => .ok (.nx (env.set i (some w))) S) := fun env σ M S P H Z I J p =>
  h.thenS I J p fun w S1 v M1 P1 H1 _ x J1 r p1 I1 => p1 _ M1 P1 H1 (.refl _ _) J1 (I1.set r)
theorem ss2_exp {t : TE} {f : Env2 → Sto → R2 W} (h : S2 K cls (rlW K) E t f) : SS2 K cls E (tDrop t) (fun env S => (f env S).bind fun _ S => .ok (.nx env) S) := fun env σ M S P H Z I J p =>
  h.thenS I J p fun w S1 v M1 P1 H1 _ x J1 r p1 I1 => p1 _ M1 P1 H1 (.refl _ _) J1 I1
theorem ss2_ret {t : TE} {f : Env2 → Sto → R2 W} (h : S2 K cls (rlW K) E t f) : SS2 K cls E (tRet t) (fun env S => (f env S).bind fun w S => .ok (.rt w) S) := fun env σ M S P H Z I J p =>
  h.thenS I J p fun w S1 v M1 P1 H1 _ x J1 r p1 I1 => p1 _ M1 P1 H1 (.refl _ _) J1 r
theorem ss2_par2 {i j : Nat} {t : TA} {f : Env2 → Sto → R2 (List W)} (h : S2 K cls (rlWs K) E t f) : SS2 K cls E (tPar i j t) (fun env S => (f env S).bind fun ws S => (ofO2 S (setAll2 [i, j] ws env)).bind fun env' S => .ok (.nx env') S) := fun env σ M S P H Z I J p =>
  h.thenS I J p fun ws S1 vs M1 P1 H1 _ x J1 r p1 I1 => by
    match ws, vs, r with
    | [_, _], _, .cons r1 (.cons r2 .nil) => exact ⟨_, _, rfl, p1 _ M1 P1 H1 (.refl _ _) J1 ((I1.set r1).set r2)⟩
    | [], _, _ => exact p1.elim
    | [_], _, _ => exact p1.elim
    | _ :: _ :: _ :: _, _, _ => exact p1.elim
theorem ss2_par3 {i j l : Nat} {t : TA} {f : Env2 → Sto → R2 (List W)} (h : S2 K cls (rlWs K) E t f) : SS2 K cls E (tPar3 i j l t) (fun env S => (f env S).bind fun ws S => (ofO2 S (setAll2 [i, j, l] ws env)).bind fun env' S => .ok (.nx env') S) := fun env σ M S P H Z I J p =>
  h.thenS I J p fun ws S1 vs M1 P1 H1 _ x J1 r p1 I1 => by
    match ws, vs, r with
    | [_, _, _], _, .cons r1 (.cons r2 (.cons r3 .nil)) => exact ⟨_, _, _, rfl, p1 _ M1 P1 H1 (.refl _ _) J1 (((I1.set r1).set r2).set r3)⟩
    | [], _, _ => exact p1.elim
    | [_], _, _ => exact p1.elim
    | [_, _], _, _ => exact p1.elim
    | _ :: _ :: _ :: _ :: _, _, _ => exact p1.elim
/-- a tuple is made and taken apart -/
theorem tup_apart {is : List Nat} {ws : List W} {vs : List V} {Z : Ends} (hl : is.length ≤ 1000) (I : EnvOk2 K M env σ P) (J : StOk K M S P H) (r : RelWs K M P ws vs) (p : PostS2 K cls E M P ((ofO2 S (setAll2 is ws env)).bind fun env' S => .ok (.nx env') S) Z) :
    vs.length ≤ sizeLine ∧ ∀ a, H a = none → gTup K is.length (gNames is) (.ref a) σ (upd H a (.tup vs)) Z.nx := by
  cases hs : setAll2 is ws env with
  | none => rw [hs] at p; exact p.elim
  | some env' =>
    rw [hs] at p
    have hlen := setAll2_len hs
    refine ⟨by rw [← r.length, hlen]; exact Nat.le_trans hl (by decide), fun a ha => ?_⟩
    refine ⟨a, vs, rfl, SqT.of upd_same, by rw [← r.length]; exact hlen, ?_⟩
    exact g2_names is r I hs fun σ' I' => p σ' M P _ (.refl _ _) (J.ext (Ext.newO J.ex ha)) I'
theorem ss2_parT {is : List Nat} {t : TA} {f : Env2 → Sto → R2 (List W)} (h : S2 K cls (rlWs K) E t f) (hl : is.length ≤ 1000) : SS2 K cls E (tAsg (tTup t) (gTup K is.length (gNames is))) (fun env S => (f env S).bind fun ws S => (ofO2 S (setAll2 is ws env)).bind fun env' S => .ok (.nx env') S) := fun env σ M S P H Z I J p =>
  h.thenS I J p fun ws S1 vs M1 P1 H1 _ x J1 r p1 I1 => tup_apart hl I1 J1 r p1
theorem ss2_upi {is : List Nat} {c : TT} {t u : TA} {fc : Env2 → Sto → R2 Bool} {f g : Env2 → Sto → R2 (List W)} (hc : S2 K cls rlB E c fc) (h : S2 K cls (rlWs K) E t f) (h' : S2 K cls (rlWs K) E u g) (hl : is.length ≤ 1000) :
    SS2 K cls E (tAsg (tIf c (tTup t) (tTup u)) (gTup K is.length (gNames is))) (fun env S => (fc env S).bind fun k S => (if k then f env S else g env S).bind fun ws S => (ofO2 S (setAll2 is ws env)).bind fun env' S => .ok (.nx env') S) := fun env σ M S P H Z I J p =>
  hc.thenS I J p fun k S0 b M0 P0 H0 _ x0 J0 r0 p0 I0 => by
    obtain rfl : k = b := r0
    cases k with
    | true => exact h.thenS I0 J0 p0 fun ws S1 vs M1 P1 H1 _ x J1 r p1 I1 => tup_apart hl I1 J1 r p1
    | false => exact h'.thenS I0 J0 p0 fun ws S1 vs M1 P1 H1 _ x J1 r p1 I1 => tup_apart hl I1 J1 r p1
theorem appW_some {n : Nat} {d : D} {S S' : Sto} (h : appW n d S = some S') : ∃ ws, S[n]? = some (.ls ws) ∧ ws.length < lim ∧ S' = S.set n (.ls (ws ++ [.d d])) := by
  unfold appW at h
  obtain ⟨ws, h1, h2⟩ := Option.bind_eq_some_iff.mp h
  split at h2
  · rename_i hl
    exact ⟨ws, getLs_some h1, hl, (Option.some.inj h2).symm⟩
  · cases h2
theorem append_ok {n : Nat} {d : D} {v : V} {a : Addr} {Q : VK} {Z : Ends} (J : StOk K M S P H) (hm : M[n]? = some a) (r : Rep K P d v) (I : EnvOk2 K M env σ P) (p : PostS2 K cls E M P (nxO env (appW n d S)) Z) : rAppend (.ref a) [v] H fun _ H1 => Z.nx σ H1 := by
  cases ha : appW n d S with
  | none => rw [ha] at p; exact p.elim
  | some S' =>
    rw [ha] at p
    obtain ⟨ws, h1, h2, rfl⟩ := appW_some ha
    obtain ⟨_, vs, h3, h4⟩ := J.ob n _ a h1 hm
    refine ⟨a, vs, v, rfl, rfl, h3, by rw [← h4.length]; exact h2, p σ M P _ (.refl _ _) (J.setL h1 hm (h4.append (.cons r .nil))) I⟩
theorem list_at {n : Nat} {a : Addr} {ws : List W} (J : StOk K M S P H) (hm : M[n]? = some a) (hs : S[n]? = some (.ls ws)) : tyV K "list" (.ref a) H := by
  obtain ⟨_, vs, h3, _⟩ := J.ob n _ a hs hm
  exact .inl ⟨rfl, vs, SqL.of h3⟩
theorem ss2_app {i : Nat} {t : TE} {f : Env2 → Sto → R2 D} (h : S2 K cls (rlD K) E t f) : SS2 K cls E (tDrop (tBM K "list" rAppend (tVar i) (tCons t tNil))) (fun env S => if (getLs S ((getL env i).getD 0)).isSome then (ofO2 S (getL env i)).bind fun n S => (f env S).bind fun d S => nxO env (appW n d S) else .bad) := fun env σ M S P H Z I J p => by
  simp only at p
  cases hg : getL env i with
  | none => rw [hg] at p; split at p <;> exact p.elim
  | some n =>
    rw [hg] at p
    simp only [Option.getD_some, ofO2_some, R2.bind_ok] at p
    obtain ⟨a, h1, h2⟩ := I.loc hg
    cases hl : getLs S n with
    | none => simp [hl] at p; exact p.elim
    | some ws =>
      simp only [hl, Option.isSome_some, if_true] at p
      refine ⟨.ref a, h1, list_at J h2 (getLs_some hl), ?_⟩
      exact h.thenS I J p fun d S1 v M1 P1 H1 _ x J1 r p1 I1 => append_ok (Q := fun _ _ => True) J1 (x.m _ _ h2) r I1 p1
theorem ss2_fapp {i j : Nat} {t : TE} {f : Env2 → Sto → R2 D} (h : S2 K cls (rlD K) E t f) : SS2 K cls E (tDrop (tBM K "list" rAppend (tFld K (tVar i) (bandF.getD j Str.empty)) (tCons t tNil))) (fun env S => if (getLs S ((getFl env S i j).getD 0)).isSome then (ofO2 S (getFl env S i j)).bind fun n S => (f env S).bind fun d S => nxO env (appW n d S) else .bad) := fun env σ M S P H Z I J p => by
  simp only at p
  cases hg : getFl env S i j with
  | none => rw [hg] at p; split at p <;> exact p.elim
  | some n =>
    rw [hg] at p
    simp only [Option.getD_some, ofO2_some, R2.bind_ok] at p
    obtain ⟨a, C, dx, fs, b, k1, k2, k3, k4, k5, k6⟩ := J.fld I hg
    cases hl : getLs S n with
    | none => simp [hl] at p; exact p.elim
    | some ws =>
      simp only [hl, Option.isSome_some, if_true] at p
      refine ⟨.ref a, k1, a, C, dx, fs, .ref b, rfl, k2, k3, k4, k5, list_at J k6 (getLs_some hl), ?_⟩
      exact h.thenS I J p fun d S1 v M1 P1 H1 _ x J1 r p1 I1 => append_ok (Q := fun _ _ => True) J1 (x.m _ _ k6) r I1 p1
theorem fset_ok {n j : Nat} {w : W} {v : V} {a : Addr} {S1 : Sto} (J : StOk K M S P H) (hm : M[n]? = some a) (r : RelW K M P w v) (hf : fsetW n j w S = some S1) :
    ∃ C dx fs, H a = some (.ins C dx fs) ∧ Cls K C ∧ NoAttr K C (bandF.getD j Str.empty) ∧ fs.length < 1000 ∧ StOk K M S1 P (upd H a (.ins C dx (putF (bandF.getD j Str.empty) v fs))) := by
  cases hs : S[n]? with
  | none => simp only [fsetW, hs] at hf; cases hf
  | some o =>
    cases o with
    | ls ws => simp only [fsetW, hs] at hf; cases hf
    | dead => simp only [fsetW, hs] at hf; cases hf
    | bd c r' vs dn un =>
      obtain ⟨hb, p0, dx, v1, v2, v3, a3, a4, e1, e2, r1, r2, r3, m3, m4⟩ := J.ob n _ a hs hm
      have B := bandB_ok hb
      cases w with
      | d x =>
        simp only [fsetW, hs] at hf
        by_cases hj : j = 2
        · subst hj
          simp only [if_true, Option.some.injEq] at hf
          subst hf
          exact ⟨bandC K, dx, _, e1, B.cl, B.no _ (by decide), by show 5 < 1000; decide, J.setB hs hm e1 e2 r1 r2 r m3 m4⟩
        · rw [if_neg hj] at hf; cases hf
      | l m =>
        obtain ⟨b, hb', rfl⟩ := r
        simp only [fsetW, hs] at hf
        by_cases hj : j = 4
        · subst hj
          simp only [if_true, Option.some.injEq] at hf
          subst hf
          exact ⟨bandC K, dx, _, e1, B.cl, B.no _ (by decide), by show 5 < 1000; decide, J.setB hs hm e1 e2 r1 r2 r3 m3 hb'⟩
        · rw [if_neg hj] at hf
          by_cases hj3 : j = 3
          · subst hj3
            simp only [if_true, Option.some.injEq] at hf
            subst hf
            exact ⟨bandC K, dx, _, e1, B.cl, B.no _ (by decide), by show 5 < 1000; decide, J.setB hs hm e1 e2 r1 r2 r3 hb' m4⟩
          · rw [if_neg hj3] at hf; cases hf
theorem set_ok {n j : Nat} {w : W} {v : V} {a : Addr} {Z : Ends} (J : StOk K M S P H) (hm : M[n]? = some a) (r : RelW K M P w v) (I : EnvOk2 K M env σ P) (p : PostS2 K cls E M P (nxO env (fsetW n j w S)) Z) :
    ∃ C dx fs, H a = some (.ins C dx fs) ∧ Cls K C ∧ NoAttr K C (bandF.getD j Str.empty) ∧ fs.length < 1000 ∧ Z.nx σ (upd H a (.ins C dx (putF (bandF.getD j Str.empty) v fs))) := by
  cases hf : fsetW n j w S with
  | none => rw [hf] at p; exact p.elim
  | some S1 =>
    rw [hf] at p
    obtain ⟨C, dx, fs, k1, k2, k3, k4, k5⟩ := fset_ok J hm r hf
    exact ⟨C, dx, fs, k1, k2, k3, k4, p σ M P _ (.refl _ _) k5 I⟩
theorem ss2_fset {i j : Nat} {t : TE} {f : Env2 → Sto → R2 W} (h : S2 K cls (rlW K) E t f) : SS2 K cls E (sFld K (tVar i) t (bandF.getD j Str.empty)) (fun env S => (f env S).bind fun w S => (ofO2 S (getL env i)).bind fun n S => nxO env (fsetW n j w S)) := fun env σ M S P H Z I J p =>
  h.thenS I J p fun w S1 v M1 P1 H1 _ x J1 r p1 I1 => by
    cases hg : getL env i with
    | none => rw [hg] at p1; exact p1.elim
    | some n =>
      rw [hg] at p1
      obtain ⟨a, h1, h2⟩ := I1.loc hg
      obtain ⟨C, dx, fs, k⟩ := set_ok J1 h2 r I1 p1
      exact ⟨.ref a, h1, a, C, dx, fs, rfl, k⟩
theorem ss2_fpop {i j l : Nat} : SS2 K cls E (sFld K (tVar i) (tBM0 K "list" rPop (tFld K (tVar i) (bandF.getD l Str.empty))) (bandF.getD j Str.empty)) (fun env S => (ofO2 S (getFl env S i l)).bind fun n S => (popW n S).bind fun w S => (ofO2 S (getL env i)).bind fun n S => nxO env (fsetW n j w S)) := fun env σ M S P H Z I J p => by
  simp only at p
  cases hg : getFl env S i l with
  | none => rw [hg] at p; exact p.elim
  | some n =>
    rw [hg] at p
    simp only [ofO2_some, R2.bind_ok] at p
    obtain ⟨a, C, dx, fs, b, k1, k2, k3, k4, k5, k6⟩ := J.fld I hg
    cases hp : popW n S with
    | bad => rw [hp] at p; exact p.elim
    | exc c S1 => exact absurd hp popW_exc
    | ok w S1 =>
      rw [hp] at p
      obtain ⟨vs, v, e1, e2, e3, J1⟩ := popW_ok J k6 hp
      refine ⟨.ref a, k1, a, C, dx, fs, .ref b, rfl, k2, k3, k4, k5, .inl ⟨rfl, vs, SqL.of e1⟩, b, vs, v, rfl, rfl, e1, e2, ?_⟩
      simp only [R2.bind_ok] at p
      cases hg2 : getL env i with
      | none => rw [hg2] at p; exact p.elim
      | some n2 =>
        rw [hg2] at p
        obtain ⟨a2, h1, h2⟩ := I.loc hg2
        obtain ⟨C, dx, fs, k⟩ := set_ok J1 h2 e3 I p
        exact ⟨.ref a2, h1, a2, C, dx, fs, rfl, k⟩
theorem g2_flds {i n : Nat} {a : Addr} {Z : Ends} (hσ : σ[i]? = some (some (.ref a))) (hm : M[n]? = some a) (I : EnvOk2 K M env σ P) : ∀ (js : List Nat) {ws : List W} {vs : List V} {S : Sto} {H : Hp}, StOk K M S P H → RelWs K M P ws vs → PostS2 K cls E M P (nxO env (fsetsW n js ws S)) Z → gFlds K i js vs σ H Z.nx
  | [], _, _, S, H, J, .nil, p => ⟨rfl, p σ M P H (.refl _ _) J I⟩
  | j :: js, _, _, S, H, J, .cons (w := w) (v := v) r t, p => by
    refine ⟨_, _, rfl, ?_⟩
    cases hf : fsetW n j w S with
    | none => simp only [fsetsW, hf, Option.bind_none] at p; exact p.elim
    | some S1 =>
      simp only [fsetsW, hf, Option.bind_some] at p
      obtain ⟨C, dx, fs, k1, k2, k3, k4, k5⟩ := fset_ok J hm r hf
      exact ⟨a, C, dx, fs, hσ, k1, k2, k3, k4, g2_flds hσ hm I js k5 t p⟩
  | [], _, _, _, _, _, .cons _ _, p => p.elim
  | _ :: _, _, _, _, _, _, .nil, p => p.elim
theorem fsets_len {n : Nat} : ∀ {js : List Nat} {ws : List W} {S S1 : Sto}, fsetsW n js ws S = some S1 → ws.length = js.length
  | [], [], _, _, _ => rfl
  | _ :: js, _ :: ws, _, _, h => by
    simp only [fsetsW] at h
    obtain ⟨S2, _, h2⟩ := Option.bind_eq_some_iff.mp h
    simp [fsets_len h2]
  | [], _ :: _, _, _, h => by simp [fsetsW] at h
  | _ :: _, [], _, _, h => by simp [fsetsW] at h
theorem ss2_fpar {i : Nat} {js : List Nat} {t : TA} {f : Env2 → Sto → R2 (List W)} (h : S2 K cls (rlWs K) E t f) (hl : js.length ≤ 1000) : SS2 K cls E (tAsg (tTup t) (gTup K js.length (gFlds K i js))) (fun env S => (f env S).bind fun ws S => (ofO2 S (getL env i)).bind fun n S => nxO env (fsetsW n js ws S)) := fun env σ M S P H Z I J p =>
  h.thenS I J p fun ws S1 vs M1 P1 H1 _ x J1 r p1 I1 => by
    cases hg : getL env i with
    | none => rw [hg] at p1; exact p1.elim
    | some n =>
      rw [hg] at p1
      simp only [ofO2_some, R2.bind_ok] at p1
      obtain ⟨a, h1, h2⟩ := I1.loc hg
      have hlen : vs.length = js.length := by
        rw [← r.length]
        cases hf : fsetsW n js ws S1 with
        | none => rw [hf] at p1; exact p1.elim
        | some S2 => exact fsets_len hf
      refine ⟨by rw [hlen]; exact Nat.le_trans hl (by decide), fun b hb => ⟨b, vs, rfl, SqT.of upd_same, hlen, ?_⟩⟩
      exact g2_flds h1 h2 I1 js (J1.ext (Ext.newO J1.ex hb)) r p1
/-! statements that store no name -/
def PostG (K : W.Frag) (cls : Nat → Value) (E : EX) (σ : L2.St) (M : List Addr) (P : Hp) (env : Env2) (r : R2 Fl2) (D : Ends) : Prop := match r with
  | .ok (.nx env') S' => env' = env ∧ ∀ M' P' H', Nx M P M' P' → StOk K M' S' P' H' → D.nx σ H'
  | .ok (.rt w) S' => ∀ v M' P' H', Nx M P M' P' → StOk K M' S' P' H' → RelW K M' P' w v → D.rt v H'
  | .exc c S' => ∀ M' P' H', Nx M P M' P' → StOk K M' S' P' H' → E σ (cls c) none H'
  | .bad => False
def SG (K : W.Frag) (cls : Nat → Value) (E : EX) (t : TS) (f : Env2 → Sto → R2 Fl2) : Prop := ∀ env σ M S P H D, EnvOk2 K M env σ P → StOk K M S P H → PostG K cls E σ M P env (f env S) D → t D σ H
theorem PostG.step {r : R2 Fl2} {D : Ends} {M1 : List Addr} {P1 : Hp} (x : Nx M P M1 P1) (p : PostG K cls E σ M P env r D) : PostG K cls E σ M1 P1 env r D := by
  cases r with
  | ok a S =>
    cases a with
    | nx e => exact ⟨p.1, fun M' P' H' y => p.2 M' P' H' (x.trans y)⟩
    | rt e => exact fun b M' P' H' y => p b M' P' H' (x.trans y)
  | exc c S => exact fun M' P' H' y => p M' P' H' (x.trans y)
  | bad => exact p
theorem S2.thenG {α β : Type} {Rl : List Addr → Hp → α → β → Prop} {t : TX β} {f : Env2 → Sto → R2 α} {k : α → Sto → R2 Fl2} {Qb : β → Hp → Prop} {D : Ends} (h : S2 K cls Rl E t f) (I : EnvOk2 K M env σ P) (J : StOk K M S P H)
    (p : PostG K cls E σ M P env ((f env S).bind k) D) (q : ∀ a S1 b M1 P1 H1, f env S = .ok a S1 → Nx M P M1 P1 → StOk K M1 S1 P1 H1 → Rl M1 P1 a b → PostG K cls E σ M1 P1 env (k a S1) D → EnvOk2 K M1 env σ P1 → Qb b H1) : t σ H Qb := h env σ M S P H Qb I J (by
  cases hf : f env S with
  | ok a S1 => rw [hf] at p; exact fun b M1 P1 H1 x J1 r => q a S1 b M1 P1 H1 hf x J1 r (p.step x) (I.mono x)
  | exc c S1 => rw [hf] at p; exact p
  | bad => rw [hf] at p; exact p)
theorem sg_exp {t : TE} {f : Env2 → Sto → R2 W} (h : S2 K cls (rlW K) E t f) : SG K cls E (tDrop t) (fun env S => (f env S).bind fun _ S => .ok (.nx env) S) := fun env σ M S P H Z I J p =>
  h.thenG I J p fun w S1 v M1 P1 H1 _ x J1 r p1 I1 => p1.2 M1 P1 H1 (.refl _ _) J1
theorem sg_app {i : Nat} {t : TE} {f : Env2 → Sto → R2 D} (h : S2 K cls (rlD K) E t f) : SG K cls E (tDrop (tBM K "list" rAppend (tVar i) (tCons t tNil))) (fun env S => if (getLs S ((getL env i).getD 0)).isSome then (ofO2 S (getL env i)).bind fun n S => (f env S).bind fun d S => nxO env (appW n d S) else .bad) := fun env σ M S P H Z I J p => by
  simp only at p
  cases hg : getL env i with
  | none => rw [hg] at p; split at p <;> exact p.elim
  | some n =>
    rw [hg] at p
    simp only [Option.getD_some, ofO2_some, R2.bind_ok] at p
    obtain ⟨a, h1, h2⟩ := I.loc hg
    cases hl : getLs S n with
    | none => simp [hl] at p; exact p.elim
    | some ws =>
      simp only [hl, Option.isSome_some, if_true] at p
      refine ⟨.ref a, h1, list_at J h2 (getLs_some hl), ?_⟩
      exact h.thenG I J p fun d S1 v M1 P1 H1 _ x J1 r p1 I1 => by
        cases ha : appW n d S1 with
        | none => rw [ha] at p1; exact p1.elim
        | some S' =>
          rw [ha] at p1
          obtain ⟨ws', h1', h2', rfl⟩ := appW_some ha
          obtain ⟨_, vs, h3, h4⟩ := J1.ob n _ a h1' (x.m _ _ h2)
          exact ⟨a, vs, v, rfl, rfl, h3, by rw [← h4.length]; exact h2', p1.2 M1 P1 _ (.refl _ _) (J1.setL h1' (x.m _ _ h2) (h4.append (.cons r .nil)))⟩
theorem sg_ite {c : TT} {t u : TS} {fc : Env2 → Sto → R2 Bool} {f g : Env2 → Sto → R2 Fl2} (hc : S2 K cls rlB E c fc) (h : SG K cls E t f) (h' : SG K cls E u g) : SG K cls E (tIfS c t u) (fun env S => (fc env S).bind fun k S => if k then f env S else g env S) := fun env σ M S P H Z I J p =>
  hc.thenG I J p fun k S1 b M1 P1 H1 _ x J1 r p1 I1 => by
    obtain rfl : k = b := r
    cases k with
    | true => exact h _ _ _ _ _ _ _ I1 J1 p1
    | false => exact h' _ _ _ _ _ _ _ I1 J1 p1
theorem sg_nil : SG K cls E tNext (fun env S => .ok (.nx env) S) := fun env σ M S P H Z I J p => p.2 M P H (.refl _ _) J
theorem sg_cons {t u : TS} {f g : Env2 → Sto → R2 Fl2} (h : SG K cls E t f) (h' : SG K cls E u g) (hs : ∀ env S env' S', f env S = .ok (.nx env') S' → env' = env) : SG K cls E (tSeq t u) (fun env S => (f env S).bind (Fl2.next fun env' S => g env' S)) := fun env σ M S P H Z I J p => by
  refine h env σ M S P H _ I J ?_
  simp only at p
  cases hf : f env S with
  | exc c S1 => rw [hf] at p; exact p
  | bad => rw [hf] at p; exact p
  | ok o S1 =>
    rw [hf] at p
    cases o with
    | rt d => exact p
    | nx env' =>
      have he := hs env S env' S1 hf
      subst he
      exact ⟨rfl, fun M' P' H' x' J' => h' env' σ M' S1 P' H' Z (I.mono x') J' (PostG.step x' p)⟩
theorem ss2_ite {c : TT} {t u : TS} {fc : Env2 → Sto → R2 Bool} {f g : Env2 → Sto → R2 Fl2} (hc : S2 K cls rlB E c fc) (h : SS2 K cls E t f) (h' : SS2 K cls E u g) : SS2 K cls E (tIfS c t u) (fun env S => (fc env S).bind fun k S => if k then f env S else g env S) := fun env σ M S P H Z I J p =>
  hc.thenS I J p fun k S1 b M1 P1 H1 _ x J1 r p1 I1 => by
    obtain rfl : k = b := r
    cases k with
    | true => exact h _ _ _ _ _ _ _ I1 J1 p1
    | false => exact h' _ _ _ _ _ _ _ I1 J1 p1
theorem ss2_nil : SS2 K cls E tNext (fun env S => .ok (.nx env) S) := fun env σ M S P H Z I J p => p σ M P H (.refl _ _) J I
theorem ss2_cons {t u : TS} {f g : Env2 → Sto → R2 Fl2} (h : SS2 K cls E t f) (h' : SS2 K cls E u g) : SS2 K cls E (tSeq t u) (fun env S => (f env S).bind (Fl2.next fun env' S => g env' S)) := fun env σ M S P H Z I J p => by
  refine h env σ M S P H _ I J ?_
  simp only at p
  cases hf : f env S with
  | exc c S1 => rw [hf] at p; exact p
  | bad => rw [hf] at p; exact p
  | ok o S1 =>
    rw [hf] at p
    cases o with
    | rt d => exact p
    | nx env' => exact fun σ' M' P' H' x' J' I' => h' env' σ' M' S1 P' H' Z I' J' (PostS2.step x' p)
theorem ss2_rse {c : Nat} : SS2 K cls E (fun _ σ H => E σ (cls c) none H) (fun _ S => .exc c S) := fun env σ M S P H Z I J p => p σ M P H (.refl _ _) J
theorem StOk.kill (J : StOk K M S P H) {n : Nat} {ws : List W} {vs : List V} {a : Addr} (hs : S[n]? = some (.ls ws)) (hm : M[n]? = some a) (ha : H a = some (.lst vs)) (hp : P a = none) : StOk K M (S.set n .dead) (upd P a (.lst vs)) H := by
  refine ⟨fun b o e => ?_, by simpa using J.len, J.nd, fun m o b q1 q2 => ?_⟩
  · by_cases hb : b = a
    · subst hb; rw [upd_same] at e; cases e; exact ha
    · rw [upd_ne hb] at e; exact J.ex b o e
  · by_cases hn : n = m
    · subst hn
      rw [hm] at q2
      cases q2
      rw [List.getElem?_set_self (List.getElem?_eq_some_iff.mp hs).1] at q1
      cases q1
      exact ⟨_, ha⟩
    · rw [List.getElem?_set_ne hn] at q1
      have hb : b ≠ a := fun z => hn (nd_inj J.nd hm (z ▸ q2))
      exact (J.ob m o b q1 q2).mono ⟨fun _ _ q => q, Ex.new hp⟩ (fun o e => e) fun z => by rw [upd_ne hb]; exact z
theorem ss2_retO {i : Nat} : SS2 K cls E (tRet (tVar i)) (fun env S => (ofO2 S (getL env i)).bind fun n S => (ofO2 S ((getLs S n).bind dsW)).bind fun ds S => .ok (.rt (.d (.lst ds))) (S.set n .dead)) := fun env σ M S P H Z I J p => by
  simp only at p
  cases hg : getL env i with
  | none => rw [hg] at p; exact p.elim
  | some n =>
    rw [hg] at p
    simp only [ofO2_some, R2.bind_ok] at p
    obtain ⟨a, h1, h2⟩ := I.loc hg
    cases hl : getLs S n with
    | none => rw [hl] at p; exact p.elim
    | some ws =>
      rw [hl] at p
      simp only [Option.bind_some] at p
      cases hd : dsW ws with
      | none => rw [hd] at p; exact p.elim
      | some ds =>
        rw [hd] at p
        simp only [ofO2_some, R2.bind_ok] at p
        have hs := getLs_some hl
        obtain ⟨hp, vs, e1, e2⟩ := J.ob n _ a hs h2
        rw [dsW_some hd] at e2
        exact ⟨.ref a, h1, p _ M _ H ⟨fun _ _ q => q, Ex.new hp⟩ (J.kill hs h2 e1 hp) (.lst upd_same ((reps_W e2).mono (Ex.new hp)))⟩
theorem ss2_try {i : Nat} {h : HE} {tb : EX → TS} {f : Env2 → Sto → R2 Fl2} (hX : ∀ c, W.exmOne K (cls c) (cls 0) = some true) (hb : ∀ E', SS2 K cls E' (tb E') f) : SS2 K cls E (fun Z σ H => tb (eTry K cls i h E Z) Z σ H) (fun env S => catch2 (fun c S => (ofO2 S (evh c h)).bind fun d S => .ok (.rt (.d d)) S) (f env S)) := fun env σ M S P H Z I J p => by
  refine hb (eTry K cls i h E Z) env σ M S P H Z I J ?_
  simp only at p
  cases hf : f env S with
  | bad => rw [hf] at p; exact p
  | ok o S1 =>
    rw [hf] at p
    cases o with
    | nx e1 => exact p
    | rt d => exact p
  | exc c S1 =>
    rw [hf] at p
    simp only [catch2] at p
    intro σ' M' P' H' x' J'
    refine ⟨true, hX c, fun _ a ha => ?_, fun z => nomatch z⟩
    cases he : evh c h with
    | none => rw [he] at p; exact p.elim
    | some d' =>
      rw [he] at p
      exact ⟨c, d', P', σ', rfl, rfl, J'.ex, rfl, he, fun v P2 H2 e2 r => p v M' P2 H2 (x'.trans ⟨fun _ _ q => q, e2.p⟩) (J'.ext e2) r⟩
theorem ss2_tryo {i j cc : Nat} {tb : EX → TS} {f : Env2 → Sto → R2 Fl2} (hX : ∀ c, W.exmOne K (cls c) (cls 0) = some true) (hij : i ≠ j) (hb : ∀ E', SG K cls E' (tb E') f) (hs : ∀ env S env' S', f env S = .ok (.nx env') S' → env' = env) : SS2 K cls E (fun Z σ H => tb (eTryO K cls i j cc E Z) Z σ H) (fun env S => catchO env j cc (f env S)) := fun env σ M S P H Z I J p => by
  refine hb (eTryO K cls i j cc E Z) env σ M S P H Z I J ?_
  simp only at p
  cases hf : f env S with
  | bad => rw [hf] at p; exact p
  | ok o S1 =>
    rw [hf] at p
    cases o with
    | nx e1 =>
      have he := hs env S e1 S1 hf
      subst he
      exact ⟨rfl, fun M' P' H' x' J' => p σ M' P' H' x' J' (I.mono x')⟩
    | rt d => exact p
  | exc c S1 =>
    rw [hf] at p
    simp only [catchO] at p
    intro M' P' H' x' J'
    refine ⟨true, hX c, fun _ a ha => ?_, fun z => nomatch z⟩
    cases hc : subc c cc with
    | false =>
      rw [hc] at p
      exact ⟨c, σ, rfl, rfl, rfl, hij, .inr ⟨hc, p .non M' P' H' x' J' .non⟩⟩
    | true =>
      rw [hc] at p
      simp only [if_true] at p
      cases hg : getL env j with
      | none => rw [hg] at p; exact p.elim
      | some n =>
        rw [hg] at p
        simp only [ofO2_some, R2.bind_ok] at p
        have I' := I.mono x'
        obtain ⟨b, h1, h2⟩ := I'.loc hg
        cases hl : getLs S1 n with
        | none => rw [hl] at p; exact p.elim
        | some ws =>
          rw [hl] at p
          simp only [Option.bind_some] at p
          cases hd : dsW ws with
          | none => rw [hd] at p; exact p.elim
          | some ds =>
            rw [hd] at p
            simp only [ofO2_some, R2.bind_ok] at p
            have hs' := getLs_some hl
            obtain ⟨hp, vs, e1, e2⟩ := J'.ob n _ b hs' h2
            rw [dsW_some hd] at e2
            exact ⟨c, σ, rfl, rfl, rfl, hij, .inl ⟨hc, .ref b, h1, p _ M' _ H' (x'.trans ⟨fun _ _ q => q, Ex.new hp⟩) (J'.kill hs' h2 e1 hp) (.lst upd_same ((reps_W e2).mono (Ex.new hp)))⟩⟩
theorem noBd_ok (J : StOk K M S P H) : StOk K M (S.map noBd) P H := ⟨J.ex, by simpa using J.len, J.nd, fun n o a q1 q2 => by
  rw [List.getElem?_map] at q1
  obtain ⟨o', h1, rfl⟩ := Option.map_eq_some_iff.mp q1
  have k := J.ob n o' a h1 q2
  cases o' with
  | bd c r vs dn un =>
    obtain ⟨_, _, dx, v1, v2, v3, a3, a4, e1, _⟩ := k
    exact ⟨_, e1⟩
  | ls ws => exact k
  | dead => exact k⟩
theorem noBd_frz (M : List Addr) (S : Sto) (P H : Hp) : frzP M (S.map noBd) P H = P := funext fun a => frz_ne fun ⟨n, c, r, vs, dn, un, _, h2⟩ => by
  rw [List.getElem?_map] at h2
  obtain ⟨o', h1, h3⟩ := Option.map_eq_some_iff.mp h2
  cases o' <;> simp [noBd] at h3
theorem ss2_for {wi : TI} {tg : Tg} {tb : TS} {fi : Env → R (List D)} {fb : Env2 → Sto → R2 Fl2} (hi : SI K cls E true wi fi) (hb : SS2 K cls E tb fb) : SS2 K cls E (tFor wi (tOfG K tg) tb) (fun env S => (liftR S (fi (proj (S.map noBd) env))).bind fun ds S => forL2 (fun d e S => (ofO2 S (setTg2 tg d e)).bind fun e1 S => fb e1 S) ds env S) := fun env σ M S P H Z I J p => by
  have PO := proj_ok (noBd_ok J) I
  rw [noBd_frz] at PO
  refine hi _ _ σ P H _ PO ?_
  simp only at p
  cases hf : fi (proj (S.map noBd) env) with
  | exc c => rw [hf] at p; exact fun P' H' e => p σ M P' H' ⟨fun _ _ q => q, e.p⟩ (J.ext e)
  | bad => rw [hf] at p; exact p
  | ok ds =>
    rw [hf] at p
    simp only [liftR_ok, R2.bind_ok] at p
    intro J0 P1 H1 e1 hw
    obtain ⟨G, Y, w, hG, hY⟩ := hw
    simp only [if_true] at hG
    generalize hr : forL2 (fun d e S => (ofO2 S (setTg2 tg d e)).bind fun e1 S => fb e1 S) ds env S = r at p
    refine for_it w (fun i σ' H' => ∃ M' S' P' env', Nx M P M' P' ∧ Ex P1 P' ∧ StOk K M' S' P' H' ∧ EnvOk2 K M' env' σ' P' ∧ forL2 (fun d e S => (ofO2 S (setTg2 tg d e)).bind fun e1 S => fb e1 S) (ds.drop i) env' S' = r) ⟨M, S, P1, env, ⟨fun _ _ q => q, e1.p⟩, Same.refl _, J.ext e1, I.mono ⟨fun _ _ q => q, e1.p⟩, hr⟩ (fun i σ' H' _ hp => ?_) (fun i y σ' H' H2 hi hp hy => ?_) (fun σ' H' hp => ?_)
    · obtain ⟨M', S', P', env', a1, a2, a3, _⟩ := hp
      exact hG H' (a2.trans a3.ex)
    · obtain ⟨M', S', P', env', a1, a2, a3, a4, a5⟩ := hp
      obtain ⟨P2, d, hd, e2, r2⟩ := hY i P' H' y H2 hi a2 a3.ex hy
      rw [get_drop hd] at a5
      simp only [forL2] at a5
      have x2 : Nx M' P' M' P2 := ⟨fun _ _ q => q, e2.p⟩
      cases hs : setTg2 tg d env' with
      | none => rw [hs] at a5; simp only [ofO2_none, R2.bind_bad] at a5; rw [← a5] at p; exact p.elim
      | some env1 =>
        rw [hs] at a5
        simp only [ofO2_some, R2.bind_ok] at a5
        refine g2_of e2.ph (a4.mono x2) r2 hs fun σ2 I3 => ?_
        refine hb env1 σ2 M' S' P2 H2 _ I3 (a3.ext e2) ?_
        cases hq : fb env1 S' with
        | exc c S2 => rw [hq] at a5; simp only [R2.bind_exc] at a5; rw [← a5] at p; exact PostS2.step (a1.trans x2) p
        | bad => rw [hq] at a5; simp only [R2.bind_bad] at a5; rw [← a5] at p; exact p.elim
        | ok o S2 =>
          rw [hq] at a5
          simp only [R2.bind_ok] at a5
          cases o with
          | rt d => simp only [Fl2.next] at a5; rw [← a5] at p; exact fun v M3 P3 H3 x3 => p v M3 P3 H3 ((a1.trans x2).trans x3)
          | nx env2 =>
            simp only [Fl2.next] at a5
            exact fun σ3 M3 P3 H3 x3 J3 I4 => ⟨M3, S2, P3, env2, (a1.trans x2).trans x3, (a2.trans e2.p).trans x3.p, J3, I4, a5⟩
    · obtain ⟨M', S', P', env', a1, a2, a3, a4, a5⟩ := hp
      rw [List.drop_length] at a5
      simp only [forL2] at a5
      rw [← a5] at p
      exact p σ' M' P' H' a1 a3 a4
theorem ss2_whl {c : TT} {tb : TS} {fc : Env2 → Sto → R2 Bool} {fb : Env2 → Sto → R2 Fl2} {n : Nat} (hc : S2 K cls rlB E c fc) (hb : SS2 K cls E tb fb) : SS2 K cls E (tWhile c tb) (fun env S => whileL2 fc fb n env S) := fun env σ M S P H Z I J p => by
  simp only at p
  generalize hr : whileL2 fc fb n env S = r at p
  refine ⟨fun m σ' H' => ∃ M' S' P' env', Nx M P M' P' ∧ StOk K M' S' P' H' ∧ EnvOk2 K M' env' σ' P' ∧ whileL2 fc fb m env' S' = r, ⟨n, M, S, P, env, .refl _ _, J, I, hr⟩, fun m σ' H' hw => ?_⟩
  obtain ⟨M', S', P', env', a1, a2, a3, a4⟩ := hw
  cases m with
  | zero => simp only [whileL2] at a4; rw [← a4] at p; exact p.elim
  | succ m =>
    simp only [whileL2] at a4
    have p' : PostS2 K cls E M' P' ((fc env' S').bind fun k S => if k then (fb env' S).bind (Fl2.next (whileL2 fc fb m)) else .ok (.nx env') S) Z := by rw [a4]; exact p.step a1
    refine hc.thenS a3 a2 p' fun k S1 b M1 P1 H1 hfc x J1 r1 p1 I1 => ?_
    obtain rfl : k = b := r1
    rw [hfc] at a4
    simp only [R2.bind_ok] at a4
    cases k with
    | false => exact p1 σ' M1 P1 H1 (.refl _ _) J1 I1
    | true =>
      simp only [if_true] at a4 p1
      refine ⟨fun σ2 H2 => ∃ M2 S2 P2 env2, Nx M P M2 P2 ∧ StOk K M2 S2 P2 H2 ∧ EnvOk2 K M2 env2 σ2 P2 ∧ whileL2 fc fb m env2 S2 = r, fun σ2 H2 hn => ⟨m, Nat.lt_succ_self m, hn⟩, ?_⟩
      refine hb env' σ' M1 S1 P1 H1 _ I1 J1 ?_
      cases hq : fb env' S1 with
      | exc c S2 => rw [hq] at p1; exact p1
      | bad => rw [hq] at p1; exact p1
      | ok o S2 =>
        rw [hq] at p1 a4
        simp only [R2.bind_ok] at a4
        cases o with
        | rt d => exact p1
        | nx env2 =>
          simp only [Fl2.next] at a4
          exact fun σ3 M3 P3 H3 x3 J3 I4 => ⟨M3, S2, P3, env2, (a1.trans x).trans x3, J3, I4, a4⟩
end
section
variable {K : W.Frag} {cls : Nat → Value} {sp : Nat → Sp} {cl : Nat → List D → R D} {cl2 : Nat → List W → Sto → R2 W} (hC : Calls2 K cls sp cl cl2) (hX : ∀ c, W.exmOne K (cls c) (cls 0) = some true)
omit hX in
theorem nxO_env {env env' : Env2} {o : Option Sto} {S' : Sto} (h : nxO env o = .ok (.nx env') S') : env' = env := by
  cases o with
  | none => cases h
  | some S => simp only [nxO_some, R2.ok.injEq, Fl2.nx.injEq] at h; exact h.1.symm
mutual
theorem still_env : ∀ (s : MS), s.still = true → ∀ env S env' S', ex2 cl cl2 s env S = .ok (.nx env') S' → env' = env
  | .exp e, _, env, S, env', S', h => by
    simp only [ex2] at h
    cases hf : ev2 cl cl2 e env S with
    | ok w S1 => rw [hf] at h; simp only [R2.bind_ok, R2.ok.injEq, Fl2.nx.injEq] at h; exact h.1.symm
    | exc c S1 => rw [hf] at h; cases h
    | bad => rw [hf] at h; cases h
  | .app i e, _, env, S, env', S', h => by
    simp only [ex2] at h
    split at h
    · cases hg : getL env i with
      | none => rw [hg] at h; cases h
      | some n =>
        rw [hg] at h
        simp only [ofO2_some, R2.bind_ok] at h
        cases hf : evP cl e env S with
        | ok d S1 => rw [hf] at h; exact nxO_env h
        | exc c S1 => rw [hf] at h; cases h
        | bad => rw [hf] at h; cases h
    · cases h
  | .ite c a b, hs, env, S, env', S', h => by
    simp only [MS.still, Bool.and_eq_true] at hs
    simp only [ex2] at h
    cases hf : ev2T cl cl2 c env S with
    | ok k S1 =>
      rw [hf] at h
      simp only [R2.bind_ok] at h
      cases k with
      | true => exact stills_env a hs.1 env S1 env' S' h
      | false => exact stills_env b hs.2 env S1 env' S' h
    | exc c S1 => rw [hf] at h; cases h
    | bad => rw [hf] at h; cases h
  | .asg _ _, hs, _, _, _, _, _ | .par _ _ _, hs, _, _, _, _, _ | .upi _ _ _ _, hs, _, _, _, _, _ | .fset _ _ _, hs, _, _, _, _, _ | .fapp _ _ _, hs, _, _, _, _, _ | .fpop _ _ _, hs, _, _, _, _, _ | .fpar _ _ _, hs, _, _, _, _, _ | .forr _ _ _, hs, _, _, _, _, _ | .whl _ _, hs, _, _, _, _, _ | .ret _, hs, _, _, _, _, _ | .retO _, hs, _, _, _, _, _ | .rse _, hs, _, _, _, _, _ | .tryx _ _ _ _, hs, _, _, _, _, _ | .tryo _ _ _ _, hs, _, _, _, _, _ => by simp [MS.still] at hs
theorem stills_env : ∀ (s : MSs), s.still = true → ∀ env S env' S', exs2 cl cl2 s env S = .ok (.nx env') S' → env' = env
  | .nil, _, env, S, env', S', h => by simp only [exs2, R2.ok.injEq, Fl2.nx.injEq] at h; exact h.1.symm
  | .cons s r, hs, env, S, env', S', h => by
    simp only [MSs.still, Bool.and_eq_true] at hs
    simp only [exs2] at h
    cases hf : ex2 cl cl2 s env S with
    | ok o S1 =>
      rw [hf] at h
      cases o with
      | nx e1 =>
        have := still_env s hs.1 env S e1 S1 hf
        subst this
        exact stills_env r hs.2 e1 S1 env' S' h
      | rt w => cases h
    | exc c S1 => rw [hf] at h; cases h
    | bad => rw [hf] at h; cases h
end
include hC
mutual
theorem sg_all : ∀ (s : MS), s.still = true → ∀ (E : EX), SG K cls E (tOfMS K cls sp E s) (ex2 cl cl2 s)
  | .exp e, _, E => sg_exp (s2_all hC e E)
  | .app i e, _, E => sg_app (s2_evP hC e E)
  | .ite c a b, hs, E => by
    simp only [MS.still, Bool.and_eq_true] at hs
    exact sg_ite (s2T_all hC c E) (sgs_all a hs.1 E) (sgs_all b hs.2 E)
  | .asg _ _, hs, _ | .par _ _ _, hs, _ | .upi _ _ _ _, hs, _ | .fset _ _ _, hs, _ | .fapp _ _ _, hs, _ | .fpop _ _ _, hs, _ | .fpar _ _ _, hs, _ | .forr _ _ _, hs, _ | .whl _ _, hs, _ | .ret _, hs, _ | .retO _, hs, _ | .rse _, hs, _ | .tryx _ _ _ _, hs, _ | .tryo _ _ _ _, hs, _ => by simp [MS.still] at hs
theorem sgs_all : ∀ (s : MSs), s.still = true → ∀ (E : EX), SG K cls E (tOfMSs K cls sp E s) (exs2 cl cl2 s)
  | .nil, _, E => sg_nil
  | .cons s r, hs, E => by
    simp only [MSs.still, Bool.and_eq_true] at hs
    exact sg_cons (sg_all s hs.1 E) (sgs_all r hs.2 E) (still_env s hs.1)
end
include hX
mutual
theorem ss2_all : ∀ (s : MS) (E : EX), SS2 K cls E (tOfMS K cls sp E s) (ex2 cl cl2 s)
  | .asg i e, E => ss2_asg (s2_all hC e E)
  | .par true [i, j] es, E => fun env σ M S P H Z I J p => ss2_par2 (s2s_all hC es E) env σ M S P H Z I J (by simpa [ex2] using p)
  | .par true [i, j, l] es, E => fun env σ M S P H Z I J p => ss2_par3 (s2s_all hC es E) env σ M S P H Z I J (by simpa [ex2] using p)
  | .par true [] es, E => fun env σ M S P H Z I J p => by simp [ex2] at p; exact p.elim
  | .par true [_] es, E => fun env σ M S P H Z I J p => by simp [ex2] at p; exact p.elim
  | .par true (_ :: _ :: _ :: _ :: _) es, E => fun env σ M S P H Z I J p => by simp [ex2] at p; exact p.elim
  | .par false is es, E => fun env σ M S P H Z I J p => by
    by_cases hl : is.length ≤ 1000
    · exact ss2_parT (s2s_all hC es E) hl env σ M S P H Z I J (by simpa [ex2, Nat.not_lt.mpr hl] using p)
    · simp [ex2, Nat.not_le.mp hl] at p; exact p.elim
  | .upi is c es es', E => fun env σ M S P H Z I J p => by
    by_cases hl : is.length ≤ 1000
    · exact ss2_upi (s2_evTP hC c E) (s2s_all hC es E) (s2s_all hC es' E) hl env σ M S P H Z I J (by simpa [ex2, Nat.not_lt.mpr hl] using p)
    · simp [ex2, Nat.not_le.mp hl] at p; exact p.elim
  | .app i e, E => ss2_app (s2_evP hC e E)
  | .fset i j e, E => ss2_fset (s2_all hC e E)
  | .fapp i j e, E => ss2_fapp (s2_evP hC e E)
  | .fpop i j l, E => ss2_fpop
  | .fpar i js es, E => fun env σ M S P H Z I J p => by
    by_cases hl : js.length ≤ 1000
    · exact ss2_fpar (s2s_all hC es E) hl env σ M S P H Z I J (by simpa [ex2, Nat.not_lt.mpr hl] using p)
    · simp [ex2, Nat.not_le.mp hl] at p; exact p.elim
  | .tryo b i j c, E => fun env σ M S P H Z I J p => by
    have e2 : ex2 cl cl2 (.tryo b i j c) env S = if b.still && decide (i ≠ j) then catchO env j c (exs2 cl cl2 b env S) else .bad := by simp only [ex2]
    rw [e2] at p
    cases hb : b.still && decide (i ≠ j) with
    | false => rw [hb] at p; exact p.elim
    | true =>
      rw [hb] at p
      simp only [Bool.and_eq_true, decide_eq_true_eq] at hb
      exact ss2_tryo hX hb.2 (fun E' => sgs_all hC b hb.1 E') (stills_env b hb.1) env σ M S P H Z I J p
  | .exp e, E => ss2_exp (s2_all hC e E)
  | .ite c a b, E => ss2_ite (s2T_all hC c E) (sss2_all a E) (sss2_all b E)
  | .forr t it b, E => fun env σ M S P H Z I J p => by
    have e2 : ex2 cl cl2 (.forr t it b) env S = (evIP cl it env S).bind fun ds S => forL2 (fun d e S => (ofO2 S (setTg2 t d e)).bind fun e1 S => exs2 cl cl2 b e1 S) ds env S := by simp only [ex2]
    rw [e2] at p
    unfold evIP at p
    cases hb : it.noBor with
    | true => rw [hb] at p; exact ss2_for (si_all hC.p it E true (fun _ => hb)) (sss2_all b E) env σ M S P H Z I J p
    | false => rw [hb] at p; exact p.elim
  | .whl c b, E => ss2_whl (s2_evTP hC c E) (sss2_all b E)
  | .ret e, E => ss2_ret (s2_all hC e E)
  | .retO i, E => ss2_retO
  | .rse c, E => ss2_rse
  | .tryx b i _ h, E => ss2_try hX fun E' => sss2_all b E'
theorem sss2_all : ∀ (s : MSs) (E : EX), SS2 K cls E (tOfMSs K cls sp E s) (exs2 cl cl2 s)
  | .nil, E => ss2_nil
  | .cons s r, E => ss2_cons (ss2_all s E) (sss2_all r E)
end
end
end Cl
set_option Elab.async false
set_option linter.all false
set_option maxRecDepth 100000
set_option maxHeartbeats 4000000
namespace Cl
open PySem PySem.Spec PyProof.Rows L2 RZ
/-! ### the text against the second evaluator -/
structure GoodM (C : Ctx) (cls : Nat → Value) (sp : Nat → Sp) (k : Nat) (N : List Str) (sc : Scope) (E : EX) (X : Cx) : Prop where
  s : GoodS C cls sp k N sc E X
  newb : C.hasB = true → ∃ f fd ps, X.mg "Band" = some (.ref (bandC X.K)) ∧ Mk X.K (bandC X.K) f ∧ FnOk X.prog X.w X.K X.mg X.base (L2.CX X.prog X.w) k f fd ps (sp 4900) ∧ Binds X.K fd ps []
section
variable (C : Ctx) (N : List Str)
def chkV (i : Nat) (sc : Scope) (x : Str) : Bool := decide (N[i]? = some x) && visB sc x && !dbg x
mutual
def chkMe : ME → Scope → Expr → Bool
  | .pu a, sc, e => chkE C N a sc (fun _ => true) e
  | .al i, sc, e => match e with
    | .Name x _ => chkV N i sc x
    | _ => false
  | .ls es, sc, e => match e with
    | .List xs _ => chkEs C N es sc (fun _ => true) xs
    | _ => false
  | .nw es, sc, e => match e with
    | .Call (.Name x _) xs [] _ => C.hasB && decide (x = "Band") && glB sc x && !xs.isEmpty && chkEs C N es sc (fun _ => true) xs
    | _ => false
  | .ca f es, sc, e => match e with
    | .Call (.Name x _) xs [] _ => decide (C.fname (2000 + f) = some x) && glB sc x && !dbg x && !xs.isEmpty && chkMs es sc xs
    | _ => false
  | .mt f m o es, sc, e => match e with
    | .Call (.Attribute eo y apos) xs [] pos => decide (y = m) && plainC eo && decide (C.mname (2000 + f) = some m) && (apos.endLine == pos.line) && decide (xs.length < 20) && chkMe o sc eo && chkMs es sc xs
    | _ => false
  | .cm op a b, sc, e => match e with
    | .Compare ea [o] [eb] _ => chkCmp op o && notSet eb && chkMe a sc ea && chkMe b sc eb
    | _ => false
  | .ad a b, sc, e => match e with
    | .BinOp ea .Add eb _ => chkMe a sc ea && chkMe b sc eb
    | _ => false
  | .li es, sc, e => match e with
    | .List xs _ => chkMs es sc xs
    | _ => false
  | .po i, sc, e => match e with
    | .Call (.Attribute (.Name x p) m apos) [] [] cpos => decide (m = "pop") && (apos.endLine == cpos.line) && chkV N i sc x
    | _ => false
  | .it c a b, sc, e => match e with
    | .IfExp ec ea eb _ => c.isTest && chkE C N c sc (fun _ => true) ec && chkMe a sc ea && chkMe b sc eb
    | _ => false
  | .fl i j, sc, e => match e with
    | .Attribute (.Name x p) f _ => decide (f = bandF.getD j Str.empty) && chkV N i sc x
    | _ => false
  | .ln f a, sc, e => match e with
    | .Call (.Name z _) [ea] [] _ => decide (z = "len") && glB sc z && decide (C.mname f = some "__len__") && notStar ea && chkMe a sc ea
    | _ => false
  | .ll a, sc, e => match e with
    | .Call (.Name z _) [ea] [] _ => decide (z = "list") && glB sc z && notStar ea && chkMe a sc ea
    | _ => false
  | .oo _ _, _, _ => false
  | .o1 _, _, _ => false
def chkMs : MEs → Scope → List Expr → Bool
  | .nil, sc, xs => match xs with
    | [] => true
    | _ => false
  | .cons e r, sc, xs => match xs with
    | x :: s => notStar x && chkMe e sc x && chkMs r sc s
    | _ => false
end
def chkMT : ME → Scope → Expr → Bool
  | .pu a, sc, e => a.isTest && chkE C N a sc (fun _ => true) e
  | .cm op a b, sc, e => chkMe C N (.cm op a b) sc e
  | .oo a b, sc, e => match e with
    | .BoolOp .Or (ea :: eb :: es) pos => chkMT a sc ea && isOO b && chkMT b sc (.BoolOp .Or (eb :: es) pos)
    | _ => false
  | .o1 a, sc, e => match e with
    | .BoolOp .Or [ea] _ => chkMT a sc ea
    | _ => false
  | _, _, _ => false
where
  isOO : ME → Bool
    | .oo _ _ => true
    | .o1 _ => true
    | _ => false
end
section
variable {C : Ctx} {cls : Nat → Value} {sp : Nat → Sp} {k : Nat} {N : List Str} {sc : Scope} {E : EX} {X : Cx}
theorem pe_v (g : Good C sp k N sc (fun _ => true) E X) {i : Nat} {x : Str} (h : chkV N i sc x = true) (p : Pos) : PE X (.Name x p) (tVar i) := by
  unfold chkV at h
  simp only [Bool.and_eq_true, decide_eq_true_eq] at h
  obtain ⟨⟨h1, h2⟩, h3⟩ := h
  exact pe_var (by rw [g.hN]; exact h1) (by rw [g.hsc]; exact vis_of h2) (dbg_of h3).1 (dbg_of h3).2
theorem chkMs_stars : ∀ {es : MEs} {xs : List Expr}, chkMs C N es sc xs = true → starsB xs = true
  | .nil, xs, h => by
    cases xs with
    | nil => rfl
    | cons _ _ => simp [chkMs] at h
  | .cons e r, xs, h => by
    cases xs with
    | nil => simp [chkMs] at h
    | cons x s =>
      simp only [chkMs, Bool.and_eq_true] at h
      simp only [starsB, Bool.and_eq_true]
      exact ⟨h.1.1, chkMs_stars (es := r) h.2⟩
mutual
theorem pm_all (G : GoodM C cls sp k N sc E X) : ∀ (a : ME) (e : Expr), chkMe C N a sc e = true → PE X e (tOfM X.K sp E a)
  | .pu a, e, h => pe_all a sc _ E X e G.s.g (by simpa only [chkMe] using h)
  | .al i, e, h => by
    unfold chkMe at h
    split at h
    · exact pe_v G.s.g h _
    · cases h
  | .ls es, e, h => by
    unfold chkMe at h
    split at h
    · exact pe_lst (pa_all es sc _ E X _ G.s.g h)
    · cases h
  | .nw es, e, h => by
    unfold chkMe at h
    split at h
    · rename_i x p xs pos
      simp only [Bool.and_eq_true, decide_eq_true_eq] at h
      obtain ⟨⟨⟨⟨h0, h1⟩, h2⟩, h3⟩, h4⟩ := h
      subst h1
      obtain ⟨f, fd, ps, k1, k2, k3, k4⟩ := G.newb h0
      have hst := chkEs_stars h4
      have ha := pa_all es sc _ E X _ G.s.g h4
      cases xs with
      | nil => simp at h3
      | cons x1 xs =>
        simp only [starsB, Bool.and_eq_true] at hst
        exact pe_makeS k2 k3 G.s.g.room1 (gl_of G.s.g.hsc h2) k1 k4 G.s.g.pass ha (by decide) (star_of hst.1 _ _) (stars_any hst.2 _ _)
    · cases h
  | .ca f es, e, h => by
    unfold chkMe at h
    split at h
    · rename_i x p xs pos
      simp only [Bool.and_eq_true, decide_eq_true_eq] at h
      obtain ⟨⟨⟨⟨h1, h2⟩, h3⟩, h4⟩, h5⟩ := h
      obtain ⟨a, fd, ps, k1, k2, k3, k4⟩ := G.s.g.fns _ x h1
      have hst := chkMs_stars h5
      have ha := pms_all G es _ h5
      cases xs with
      | nil => simp at h4
      | cons x1 xs =>
        simp only [starsB, Bool.and_eq_true] at hst
        exact pe_callS k3 G.s.g.room (gl_of G.s.g.hsc h2) k1 k2 k4 G.s.g.pass ha (dbg_of h3).1 (star_of hst.1 _ _) (stars_any hst.2 _ _)
    · cases h
  | .mt f m o es, e, h => by
    unfold chkMe at h
    split at h
    · rename_i eo y apos xs pos
      simp only [Bool.and_eq_true, decide_eq_true_eq] at h
      obtain ⟨⟨⟨⟨⟨⟨h1, h2⟩, h3⟩, h4⟩, h5⟩, h6⟩, h7⟩ := h
      subst h1
      obtain ⟨a, fd, ps, k1, k2, k3, k4⟩ := G.s.g.mths _ _ h3
      have hst := chkMs_stars h7
      have ha := pms_all G es _ h7
      have ho := pm_all G o eo h6
      cases xs with
      | nil =>
        cases es with
        | nil => exact pe_methSS0 ho k1 k2 k3 G.s.g.room k4 G.s.g.pass (meth_ht (baseC_of h2 _) rfl h4)
        | cons _ _ => simp [chkMs] at h7
      | cons x1 xs =>
        have hform : methodCallForm ((x1 :: xs).length + ([] : List Keyword).length) (backTo pos (starEach (x1 :: xs) X.env)) (backToKw pos (keywordEach [] X.env)) = true := by
          unfold methodCallForm
          rw [stars_all hst]
          show (true && true && decide _) = true
          simp only [List.length_nil, Bool.true_and, decide_eq_true_eq]
          have : (x1 :: xs).length < 20 := h5
          have e0 : (if (backToKw pos (keywordEach [] X.env)).isEmpty = true then 0 else 1) = 0 := rfl
          omega
        simp only [starsB, Bool.and_eq_true] at hst
        exact pe_methSS ho k1 k2 k3 G.s.g.room k4 G.s.g.pass ha (star_of hst.1 _ _) (stars_any hst.2 _ _) (meth_ht (baseC_of h2 _) hform h4)
    · cases h
  | .cm op a b, e, h => by
    unfold chkMe at h
    split at h
    · simp only [Bool.and_eq_true] at h
      obtain ⟨⟨⟨h1, h2⟩, h3⟩, h4⟩ := h
      rw [chkCmp_eq h1]
      exact pe_cmpR (op_cmp G.s.g.units op) (pm_all G a _ h3) (pm_all G b _ h4) (set_of h2 _)
    · cases h
  | .ad a b, e, h => by
    unfold chkMe at h
    split at h
    · simp only [Bool.and_eq_true] at h
      exact pe_op (op_bin .add) (pm_all G a _ h.1) (pm_all G b _ h.2)
    · cases h
  | .li es, e, h => by
    unfold chkMe at h
    split at h
    · exact pe_lst (pms_all G es _ h)
    · cases h
  | .po i, e, h => by
    unfold chkMe at h
    split at h
    · simp only [Bool.and_eq_true, decide_eq_true_eq] at h
      obtain ⟨⟨h1, h2⟩, h3⟩ := h
      subst h1
      exact pe_bm0 PySem.F.plainAttrs_list PySem.F.slot_list_pop PySem.F.type_list_pop mt_pop (pe_v G.s.g h3 _) rfl h2
    · cases h
  | .it c a b, e, h => by
    unfold chkMe at h
    split at h
    · simp only [Bool.and_eq_true] at h
      obtain ⟨⟨⟨h1, h2⟩, h3⟩, h4⟩ := h
      exact pe_ifExp (pt_all c sc _ E X _ G.s.g h1 h2) (pm_all G a _ h3) (pm_all G b _ h4)
    · cases h
  | .fl i j, e, h => by
    unfold chkMe at h
    split at h
    · simp only [Bool.and_eq_true, decide_eq_true_eq] at h
      obtain ⟨h1, h2⟩ := h
      subst h1
      exact pe_fld (pe_v G.s.g h2 _) rfl
    · cases h
  | .ln f a, e, h => by
    unfold chkMe at h
    split at h
    · simp only [Bool.and_eq_true, decide_eq_true_eq] at h
      obtain ⟨⟨⟨⟨h1, h2⟩, h3⟩, h4⟩, h5⟩ := h
      obtain ⟨b, fd, ps, k1, k2, k3, k4⟩ := G.s.g.mths f _ h3
      exact pe_lenOS h1 (pm_all G a _ h5) (gl_of G.s.g.hsc h2) (G.s.g.blt _ (by rw [h1]; decide +kernel)) k2.at_ k2.fn k3 G.s.g.room1 k4 G.s.g.pass (star_of h4 _ _)
    · cases h
  | .ll a, e, h => by
    unfold chkMe at h
    split at h
    · simp only [Bool.and_eq_true, decide_eq_true_eq] at h
      obtain ⟨⟨⟨h1, h2⟩, h3⟩, h4⟩ := h
      subst h1
      exact pe_callTy call_list_of (gl_of G.s.g.hsc h2) (G.s.g.blt _ (by decide +kernel)) (by decide +kernel) (pa_cons (pm_all G a _ h4) pa_nil (star_of h3 _ _)) (by decide) (by decide) (star_of h3 _ _) rfl
    · cases h
  | .oo _ _, e, h => by simp [chkMe] at h
  | .o1 _, e, h => by simp [chkMe] at h
theorem pms_all (G : GoodM C cls sp k N sc E X) : ∀ (es : MEs) (xs : List Expr), chkMs C N es sc xs = true → PA X xs (tOfMs X.K sp E es)
  | .nil, xs, h => by
    unfold chkMs at h
    split at h
    · exact pa_nil
    · cases h
  | .cons e r, xs, h => by
    unfold chkMs at h
    split at h
    · simp only [Bool.and_eq_true] at h
      exact pa_cons (pm_all G e _ h.1.2) (pms_all G r _ h.2) (star_of h.1.1 _ _)
    · cases h
end
mutual
theorem pmt_all (G : GoodM C cls sp k N sc E X) : ∀ (a : ME) (e : Expr), chkMT C N a sc e = true → PT X e (tOfMT X.K sp E a)
  | .pu a, e, h => by
    simp only [chkMT, Bool.and_eq_true] at h
    exact pt_all a sc _ E X _ G.s.g h.1 h.2
  | .cm op a b, e, h => by
    simp only [chkMT] at h
    unfold chkMe at h
    split at h
    · simp only [Bool.and_eq_true] at h
      obtain ⟨⟨⟨h1, h2⟩, h3⟩, h4⟩ := h
      rw [chkCmp_eq h1]
      exact pt_cmpR (op_cmp G.s.g.units op) (pm_all G a _ h3) (pm_all G b _ h4) (set_of h2 _)
    · cases h
  | .oo a b, e, h => (pmw_all G (.oo a b) e rfl h).pt
  | .o1 a, e, h => (pmw_all G (.o1 a) e rfl h).pt
  | .al _, e, h | .ls _, e, h | .nw _, e, h | .ca _ _, e, h | .mt _ _ _ _, e, h | .ad _ _, e, h | .li _, e, h | .po _, e, h | .it _ _ _, e, h | .fl _ _, e, h | .ln _ _, e, h | .ll _, e, h => by simp [chkMT] at h
theorem pmw_all (G : GoodM C cls sp k N sc E X) : ∀ (a : ME) (e : Expr), chkMT.isOO a = true → chkMT C N a sc e = true → PW X e (tOfMT X.K sp E a)
  | .oo a b, e, _, h => by
    unfold chkMT at h
    split at h
    · simp only [Bool.and_eq_true] at h
      exact pw_or (pmt_all G a _ h.1.1) (pmw_all G b _ h.1.2 h.2)
    · cases h
  | .o1 a, e, _, h => by
    unfold chkMT at h
    split at h
    · exact pw_or1 (pmt_all G a _ h)
    · cases h
  | .pu _, _, ho, _ | .cm _ _ _, _, ho, _ | .al _, _, ho, _ | .ls _, _, ho, _ | .nw _, _, ho, _ | .ca _ _, _, ho, _ | .mt _ _ _ _, _, ho, _ | .ad _ _, _, ho, _ | .li _, _, ho, _ | .po _, _, ho, _ | .it _ _ _, _, ho, _ | .fl _ _, _, ho, _ | .ln _ _, _, ho, _ | .ll _, _, ho, _ => by simp [chkMT.isOO] at ho
end
end
end Cl
set_option Elab.async false
set_option linter.all false
set_option maxRecDepth 100000
set_option maxHeartbeats 4000000
namespace Cl
open PySem PySem.Spec PyProof.Rows L2 RZ
/-! ### an except suite that gathers flags in a list -/
def HEs.take : Nat → HEs → HEs
  | 0, _ => .nil
  | _ + 1, .nil => .nil
  | n + 1, .cons e r => .cons e (HEs.take n r)
def HEs.drop : Nat → HEs → HEs
  | 0, r => r
  | _ + 1, .nil => .nil
  | n + 1, .cons _ r => HEs.drop n r
theorem evhs_split {c : Nat} : ∀ (n : Nat) (es : HEs) {ds : List D}, evhs c es = some ds → ∃ d1 d2, evhs c (es.take n) = some d1 ∧ evhs c (es.drop n) = some d2 ∧ ds = d1 ++ d2
  | 0, es, ds, h => ⟨[], ds, rfl, h, rfl⟩
  | _ + 1, .nil, ds, h => by simp only [evhs, Option.some.injEq] at h; subst h; exact ⟨[], [], rfl, rfl, rfl⟩
  | n + 1, .cons e r, ds, h => by
    simp only [evhs, Option.bind_eq_some_iff, Option.some.injEq] at h
    obtain ⟨d, h1, ds', h2, rfl⟩ := h
    obtain ⟨d1, d2, k1, k2, rfl⟩ := evhs_split n r h2
    exact ⟨d :: d1, d2, by simp only [HEs.take, evhs, h1, k1, Option.bind_some], k2, rfl⟩
section
variable (C : Ctx) (sc : Scope) (n y s : Str)
def chkFr : List Stmt → HEs → Bool
  | [.Return (some (.Tuple [.Constant (.str s') _ _, .Call (.Attribute (.BinOp (.Name y' _) .Add (.List xs _) _) m apos) [.Constant (.bool true) _ _] [] pos] _ _)) _], es => decide (s' = s) && decide (y' = y) && decide (m = "index") && (apos.endLine == pos.line) && chkHs C sc n es xs
  | .Assign [.Name y1 _] (.BinOp (.Name y2 _) .Add (.List xs _) _) _ :: rest, es => decide (y1 = y) && decide (y2 = y) && chkHs C sc n (es.take xs.length) xs && chkFr rest (es.drop xs.length)
  | _, _ => false
def chkFl : List Stmt → HEs → Bool
  | .Assign [.Name y1 _] (.List xs _) _ :: rest, es => decide (y1 = y) && chkHs C sc n (es.take xs.length) xs && chkFr C sc n y s rest (es.drop xs.length)
  | _, _ => false
end
section
variable {C : Ctx} {cls : Nat → Value} {sp : Nat → Sp} {k : Nat} {N : List Str} {sc : Scope} {E : EX} {X : Cx} {i j : Nat} {n y s : Str} {a Da : Addr} {oe : Obj} {pn : List (Addr × Obj)}
/-- what stands before the rest of the suite -/
def tFr (K : W.Frag) (cls : Nat → Value) (i j : Nat) (a Da : Addr) (c : Nat) (s : Str) (es : HEs) : TS := fun Z σ H => ∃ (P : Hp) (ds0 ds : List D) (di : D) (v : V), Ex P H ∧ j < σ.length ∧ σ[j]? = some (some v) ∧ Rep K P (.lst ds0) v ∧ σ[i]? = some (some (.ref a)) ∧ i ≠ j ∧ evhs c es = some ds ∧ ds0.length + ds.length ≤ lim ∧ mtF .index (.lst (ds0 ++ ds)) [.bl true] = some di ∧
  es.only (fun b => W.kitOne K (.ref Da) (cls b) = some (subc c b)) ∧ ∀ v P' H', Ext P H P' H' → Rep K P' (.tup [.str s, di]) v → Z.rt v H'
theorem only_take {ok : Nat → Prop} : ∀ (m : Nat) (es : HEs), es.only ok → (es.take m).only ok ∧ (es.drop m).only ok
  | 0, es, h => ⟨trivial, h⟩
  | _ + 1, .nil, h => ⟨trivial, trivial⟩
  | m + 1, .cons e r, h => ⟨⟨h.1, (only_take m r h.2).1⟩, (only_take m r h.2).2⟩
theorem only_join {ok : Nat → Prop} : ∀ (m : Nat) (es : HEs), (es.take m).only ok → (es.drop m).only ok → es.only ok
  | 0, es, _, h => h
  | _ + 1, .nil, _, _ => trivial
  | m + 1, .cons e r, h1, h2 => ⟨h1.1, only_join m r h1.2 h2⟩
theorem chkFr_only {ok : Nat → Prop} (hok : ∀ b x, C.exn b = some x → ok b) (sts : List Stmt) (es : HEs) (h : chkFr C sc n y s sts es = true) : es.only ok := by
  fun_induction chkFr C sc n y s sts es with
  | case1 s' k1 p1 y' p2 xs p3 p4 m apos k5 p5 pos k6 p6 p7 es =>
    simp only [Bool.and_eq_true] at h
    exact onlys_of hok _ _ h.2
  | case2 y1 p1 y2 p2 xs p3 p4 p5 rest es ih =>
    simp only [Bool.and_eq_true] at h
    exact only_join xs.length es (onlys_of hok _ _ h.1.2) (ih h.2)
  | case3 sts es h1 h2 => cases h
theorem chkFl_inv {sts : List Stmt} {es : HEs} (h : chkFl C sc n y s sts es = true) : ∃ p1 xs p2 p3 rest, sts = .Assign [.Name y p1] (.List xs p2) p3 :: rest ∧ chkHs C sc n (es.take xs.length) xs = true ∧ chkFr C sc n y s rest (es.drop xs.length) = true := by
  unfold chkFl at h
  split at h
  · simp only [Bool.and_eq_true, decide_eq_true_eq] at h
    obtain ⟨⟨rfl, h2⟩, h3⟩ := h
    exact ⟨_, _, _, _, _, rfl, h2, h3⟩
  · cases h
theorem pss_fr (G : GoodS C cls sp k N sc E X) (hi : N[i]? = some n) (hv : isLocB sc n = true) (hdb : (!dbg n) = true) (hj : N[j]? = some y) (hvy : isLocB sc y = true) (hdy : (!dbg y) = true) {c : Nat} (CD : ExcC X.K Da) (hz : Zc (.ref Da) none oe) (hf : ∃ vs, oe.data = .fields vs) :
    ∀ (sts : List Stmt) (es : HEs), chkFr C sc n y s sts es = true → PSs (X.suite a ((a, oe) :: pn)) sts (tFr X.K cls i j a Da c s es) := by
  have hu : (X.suite a ((a, oe) :: pn)).A.units + 200 < cLine := G.g.units
  have hK : ∀ b, ∃ q, cls b = .ref q := fun b => (G.errs b).imp fun _ q => q.1
  have py : ∀ po, PE (X.suite a ((a, oe) :: pn)) (.Name y po) (tVar j) := fun po => pe_var (X := X.suite a ((a, oe) :: pn)) (by show X.N[j]? = _; rw [G.g.hN]; exact hj) (.inl (by show X.env.scope.names.lookup _ = _; rw [G.g.hsc]; exact isLoc_of hvy)) (dbg_of hdy).1 (dbg_of hdy).2
  intro sts es h
  fun_induction chkFr C sc n y s sts es with
  | case1 s' k1 p1 y' p2 xs p3 p4 m apos k5 p5 pos k6 p6 p7 es =>
    simp only [Bool.and_eq_true, decide_eq_true_eq] at h
    obtain ⟨⟨⟨⟨h1, h2⟩, h3⟩, h4⟩, h5⟩ := h
    subst h1 h2 h3
    have pl := pa_hes (a := a) (pn := pn) G hi hv hdb CD hz hf es xs h5
    have key0 : PS (X.suite a ((a, oe) :: pn)) (.Return (some (.Tuple [.Constant (.str s') k1 p1, .Call (.Attribute (.BinOp (.Name y' p2) .Add (.List xs p3) p4) "index" apos) [.Constant (.bool true) k5 p5] [] pos] k6 p6)) p7) _ := ps_ret (pe_tup (pa_cons (chkC_pe (X := X.suite a ((a, oe) :: pn)) (c := .str s') (k := .str s') (by simp [chkC])) (pa_cons (pe_bm (X := X.suite a ((a, oe) :: pn)) (Mt.pa .index) (Mt.slot .index) (Mt.ty .index) (mt_data hu .index) (pe_op (op_bin .add) (py _) (pe_lst pl)) (pa_cons (chkC_pe (c := .bl true) (k := .bool true) rfl) pa_nil) rfl rfl h4 rfl rfl) pa_nil rfl) rfl))
    have key := pss_one key0
    refine ⟨fun pins st σ H Z I hh => key.run pins st σ H Z I ?_⟩
    obtain ⟨P, ds0, ds, di, v, e1, hl, e2, r, e3, e4, e5, e6, e7, e8, q⟩ := hh
    refine ⟨v, e2, ?_⟩
    refine tHes_ok (c := c) (fun _ => .inr trivial) hK es ds σ P H _ e8 e5 e1 e3 fun vs P1 H1 x1 r1 => ?_
    refine ⟨by rw [← r1.length, ← lim_eq]; omega, fun p hp => ?_⟩
    obtain ⟨P2, x2, r2⟩ := Res.keep x1.ph (Res.newL (K := X.K) hp r1)
    refine ⟨P2, .lst ds0, .lst ds, .lst (ds0 ++ ds), x2.ph, .inl ((r.mono x1.p).mono x2.p), .inl r2, by simp only [bopF, if_pos e6], fun v3 H3 res _ => ?_⟩
    obtain ⟨P3, x3, r3⟩ := res.keep x2.ph
    refine ⟨ty_data (m := .index) (d := di) (ds := [.bl true]) x3.ph (.inl r3) e7, P3, .lst (ds0 ++ ds), [.bl true], di, x3.ph, .inl r3, .cons (.inl (.bl true)) .nil, e7, fun v4 H4 res4 => ?_⟩
    obtain ⟨P4, x4, r4⟩ := res4.keep x3.ph
    refine ⟨by show 2 ≤ sizeLine; decide, fun p hp => ?_⟩
    obtain ⟨P5, x5, r5⟩ := Res.keep x4.ph (Res.newT (K := X.K) (ds := [.str s', di]) (vs := [.str s', v4]) hp (.cons (.str s') (.cons r4 .nil)))
    exact q _ P5 _ ((((x1.trans x2).trans x3).trans x4).trans x5) r5
  | case2 y1 p1 y2 p2 xs p3 p4 p5 rest es ih =>
    simp only [Bool.and_eq_true, decide_eq_true_eq] at h
    obtain ⟨⟨⟨h1, h2⟩, h3⟩, h4⟩ := h
    subst h1 h2
    have pl := pa_hes (a := a) (pn := pn) G hi hv hdb CD hz hf _ xs h3
    have hloc : (X.suite a ((a, oe) :: pn)).env.scope.names.lookup y2 = some .local := by show X.env.scope.names.lookup _ = _; rw [G.g.hsc]; exact isLoc_of hvy
    have key0 : PS (X.suite a ((a, oe) :: pn)) (.Assign [.Name y2 p1] (.BinOp (.Name y2 p2) .Add (.List xs p3) p4) p5) _ := ps_set (X := X.suite a ((a, oe) :: pn)) (i := j) G.g.nd' (by show X.N[j]? = _; rw [G.g.hN]; exact hj) (.inl hloc) (pe_op (op_bin .add) (py _) (pe_lst pl)) rfl (.inr hloc)
    have key := pss_cons key0 (ih h4)
    refine ⟨fun pins st σ H Z I hh => key.run pins st σ H Z I ?_⟩
    obtain ⟨P, ds0, ds, di, v, e1, hl, e2, r, e3, e4, e5, e6, e7, e8, q⟩ := hh
    obtain ⟨d1, d2, k1, k2, rfl⟩ := evhs_split xs.length es e5
    obtain ⟨o1, o2⟩ := only_take xs.length es e8
    rw [List.length_append] at e6
    refine ⟨v, e2, ?_⟩
    refine tHes_ok (c := c) (fun _ => .inr trivial) hK _ d1 σ P H _ o1 k1 e1 e3 fun vs P1 H1 x1 r1 => ?_
    refine ⟨by rw [← r1.length, ← lim_eq]; omega, fun p hp => ?_⟩
    obtain ⟨P2, x2, r2⟩ := Res.keep x1.ph (Res.newL (K := X.K) hp r1)
    refine ⟨P2, .lst ds0, .lst d1, .lst (ds0 ++ d1), x2.ph, .inl ((r.mono x1.p).mono x2.p), .inl r2, by simp only [bopF, if_pos (show ds0.length + d1.length ≤ lim by omega)], fun v3 H3 res _ => ?_⟩
    obtain ⟨P3, x3, r3⟩ := res.keep x2.ph
    exact ⟨P3, ds0 ++ d1, d2, di, v3, x3.ph, by simpa using hl, List.getElem?_set_self hl, r3, by rw [List.getElem?_set_ne (Ne.symm e4)]; exact e3, e4, k2, by rw [List.length_append]; omega, by rw [List.append_assoc]; exact e7, o2, fun v P' H' x4 r4 => q v P' H' (((x1.trans x2).trans x3).trans x4) r4⟩
  | case3 sts es h1 h2 => cases h
theorem pss_fl (G : GoodS C cls sp k N sc E X) {es : HEs} {sts : List Stmt} (hi : N[i]? = some n) (hv : isLocB sc n = true) (hdb : (!dbg n) = true) (hj : N[j]? = some y) (hvy : isLocB sc y = true) (hdy : (!dbg y) = true) (hij : i ≠ j) (hc : chkFl C sc n y s sts es = true) (a : Addr) (oe : Obj) (cv : Value) (d : Option Addr) (pn : List (Addr × Obj)) (hz : Zc cv d oe) (hf : ∃ vs, oe.data = .fields vs) :
    PSs (X.suite a ((a, oe) :: pn)) sts (tsH X.K cls i (.tup (.cons (.cst (.str s)) (.cons (.idx es) .nil))) a cv d) := by
  refine ⟨fun pins st σ H Z I hh => ?_⟩
  obtain ⟨c, d', P, σ0, rfl, rfl, e, rfl, he, q⟩ := hh
  obtain ⟨Da, k1, CD, hkit⟩ := G.errs c
  rw [k1] at hz
  have hK : ∀ b, ∃ q, cls b = .ref q := fun b => (G.errs b).imp fun _ q => q.1
  have hlen : (σ0.set i (some (.ref a)) : L2.St).length = N.length := by
    have : (σ0.set i (some (.ref a)) : L2.St).length = X.N.length := I.len
    rw [this, G.g.hN]
  have hi' : i < N.length := (List.getElem?_eq_some_iff.mp hi).1
  have hj' : j < N.length := (List.getElem?_eq_some_iff.mp hj).1
  have hat : (σ0.set i (some (.ref a)) : L2.St)[i]? = some (some (.ref a)) := List.getElem?_set_self (by rw [List.length_set] at hlen; omega)
  obtain ⟨p1, xs, p2, p3, rest, rfl, h2, h3⟩ := chkFl_inv hc
  · have hall : es.only (fun b => W.kitOne X.K (.ref Da) (cls b) = some (subc c b)) := only_join xs.length es (onlys_of (fun b x hb => hkit b x hb) _ _ h2) (chkFr_only (fun b x hb => hkit b x hb) _ _ h3)
    have pl := pa_hes (a := a) (pn := pn) G hi hv hdb CD hz hf _ xs h2
    have hloc : (X.suite a ((a, oe) :: pn)).env.scope.names.lookup y = some .local := by show X.env.scope.names.lookup _ = _; rw [G.g.hsc]; exact isLoc_of hvy
    have key0 : PS (X.suite a ((a, oe) :: pn)) (.Assign [.Name y p1] (.List xs p2) p3) _ := ps_set (X := X.suite a ((a, oe) :: pn)) (i := j) G.g.nd' (by show X.N[j]? = _; rw [G.g.hN]; exact hj) (.inl hloc) (pe_lst pl) rfl (.inr hloc)
    have key := pss_cons key0 (pss_fr (c := c) (s := s) (a := a) (pn := pn) G hi hv hdb hj hvy hdy CD hz hf rest _ h3)
    refine key.run pins st _ H Z I ?_
    simp only [evh, evhs, Option.bind_some, Option.bind_eq_some_iff, Option.some.injEq] at he
    obtain ⟨ds', he, hlim⟩ := he
    have hes : ∃ di ds, evhs c es = some ds ∧ ds.length ≤ lim ∧ mtF .index (.lst ds) [.bl true] = some di ∧ ds' = [.str s, di] := by
      obtain ⟨dd, ⟨di, ⟨ds, g1, g2⟩, g3⟩, g4⟩ := he
      split at g2
      · rename_i hl
        exact ⟨di, ds, g1, hl, g2, by rw [← g4, ← g3]; rfl⟩
      · cases g2
    obtain ⟨di, ds, g1, g2, g3, rfl⟩ := hes
    rw [if_pos (show ([.str s, di] : List D).length ≤ lim by show 2 ≤ lim; decide)] at hlim
    simp only [Option.some.injEq] at hlim
    subst hlim
    obtain ⟨d1, d2, l1, l2, rfl⟩ := evhs_split xs.length es g1
    rw [List.length_append] at g2
    obtain ⟨o1, o2⟩ := only_take xs.length es hall
    refine tHes_ok (c := c) (fun _ => .inr trivial) hK _ d1 _ P H _ o1 l1 e hat fun vs P1 H1 x1 r1 => ?_
    refine ⟨by rw [← r1.length, ← lim_eq]; omega, fun p hp => ?_⟩
    obtain ⟨P2, x2, r2⟩ := Res.keep x1.ph (Res.newL (K := X.K) hp r1)
    exact ⟨P2, d1, d2, di, _, x2.ph, by rw [List.length_set, hlen]; exact hj', List.getElem?_set_self (by rw [hlen]; exact hj'), r2, by rw [List.getElem?_set_ne (Ne.symm hij)]; exact hat, hij, l2, g2, g3, o2, fun v P' H' x3 r3 => q v P' H' ((x1.trans x2).trans x3) r3⟩
end
end Cl
set_option Elab.async false
set_option linter.all false
set_option maxRecDepth 100000
set_option maxHeartbeats 4000000
namespace Cl
open PySem PySem.Spec PyProof.Rows L2 RZ
/-! ### statements: the text against the second evaluator -/
section
variable (C : Ctx) (N : List Str)
def ME.pu? : ME → Option CE
  | .pu e => some e
  | _ => none
def chkMSet (i : Nat) (e : ME) (sc : Scope) (st : Stmt) : Bool := match e.pu? with
  | some a => chkSet C N i a sc st
  | none => match st with
    | .Assign [.Name x _] ev _ => decide (N[i]? = some x) && locB sc x && notComp ev && chkMe C N e sc ev
    | _ => false
def chkMPar (sw : Bool) (is : List Nat) (es : MEs) (sc : Scope) (st : Stmt) : Bool := match st with
    | .Assign [.Tuple ts _ _] (.Tuple vs _ _) _ => swOk vs && chkNames N sc (fun _ => true) is ts && chkMs C N es sc vs &&
        (match sw with
          | true => nodupB is && decide (swF sc ts vs = some (is.map fun i => N.getD i Str.empty)) && is.all (fun i => isLocB sc (N.getD i Str.empty))
          | false => decide (swF sc ts vs = none))
    | _ => false
def chkHB (sc : Scope) (n : Str) (i j : Nat) (h : HE) (sts : List Stmt) : Bool := match sts with
  | [.Return (some eh) _] => chkH C sc n h eh
  | _ => match h with
    | .tup (.cons (.cst (.str s)) (.cons (.idx es) .nil)) => decide (i ≠ j) && isLocB sc (N.getD j Str.empty) && !dbg (N.getD j Str.empty) && decide (j < N.length) && chkFl C sc n (N.getD j Str.empty) s sts es
    | _ => false
def chkFlds : Nat → List Nat → Scope → List Expr → Bool
  | _, [], _, ts => match ts with
    | [] => true
    | _ => false
  | i, j :: js, sc, ts => match ts with
    | .Attribute (.Name x _) f _ :: r => decide (f = bandF.getD j Str.empty) && chkV N i sc x && chkFlds i js sc r
    | _ => false
def chkHO (sc : Scope) (n : Str) (j c : Nat) (sts : List Stmt) : Bool := match sts with
  | [.Return (some (.IfExp et (.Name y _) (.Constant .none _ _) _)) _] => chkH C sc n (.isx c) et && decide (N[j]? = some y) && isLocB sc y && !dbg y
  | _ => false
def isAttr : List Expr → Bool
  | .Attribute _ _ _ :: _ => true
  | _ => false
mutual
def chkMS : MS → Scope → Stmt → Bool
  | .asg i e, sc, st => chkMSet C N i e sc st
  | .par sw is es, sc, st => chkMPar C N sw is es sc st
  | .upi is c es es', sc, st => match st with
    | .Assign [.Tuple ts _ _] (.IfExp ec (.Tuple xs _ _) (.Tuple ys _ _) _) _ => c.isTest && chkE C N c sc (fun _ => true) ec && chkNames N sc (fun _ => true) is ts && chkMs C N es sc xs && chkMs C N es' sc ys
    | _ => false
  | .app i e, sc, st => chkS C N (.app i e) sc st
  | .fset i j e, sc, st => match st with
    | .Assign [.Attribute (.Name x _) f _] ev _ => decide (f = bandF.getD j Str.empty) && chkV N i sc x && notComp ev && chkMe C N e sc ev
    | _ => false
  | .fapp i j e, sc, st => match st with
    | .Expr (.Call (.Attribute (.Attribute (.Name x _) f _) m apos) [ev] [] cpos) _ => decide (m = "append") && decide (f = bandF.getD j Str.empty) && chkV N i sc x && (apos.endLine == cpos.line) && notStar ev && chkE C N e sc (fun _ => true) ev
    | _ => false
  | .fpop i j l, sc, st => match st with
    | .Assign [.Attribute (.Name x _) f _] (.Call (.Attribute (.Attribute (.Name x' _) f' _) m apos) [] [] cpos) _ => decide (m = "pop") && decide (f = bandF.getD j Str.empty) && decide (f' = bandF.getD l Str.empty) && chkV N i sc x && chkV N i sc x' && (apos.endLine == cpos.line)
    | _ => false
  | .fpar i js es, sc, st => match st with
    | .Assign [.Tuple ts _ _] (.Tuple vs _ _) _ => isAttr ts && swOk vs && decide (swF sc ts vs = none) && chkFlds N i js sc ts && chkMs C N es sc vs
    | _ => false
  | .tryo b i j c, sc, st => match st with
    | .Try body [.ExceptHandler (some (.Name x _)) (some n) hs _] [] [] _ => decide (C.exn 0 = some x) && glB sc x && !dbg x && decide (N[i]? = some n) && isLocB sc n && !dbg n && chkHO C N sc n j c hs && chkMSs b sc body
    | _ => false
  | .exp e, sc, st => match st with
    | .Expr ev _ => notComp ev && chkMe C N e sc ev
    | _ => false
  | .ite c a b, sc, st => match st with
    | .If ec ea eb _ => chkMT C N c sc ec && chkMSs a sc ea && chkMSs b sc eb
    | _ => false
  | .forr t it b, sc, st => match st with
    | .For tg iter body [] _ => notSet iter && chkG N sc (fun _ => true) t tg && chkI C N it sc (fun _ => true) tg iter && chkMSs b sc body
    | _ => false
  | .whl c b, sc, st => match st with
    | .While ec body [] _ => c.isTest && chkE C N c sc (fun _ => true) ec && chkMSs b sc body
    | _ => false
  | .ret e, sc, st => match st with
    | .Return (some ev) _ => chkMe C N e sc ev
    | _ => false
  | .retO i, sc, st => match st with
    | .Return (some ev) _ => chkE C N (.var i) sc (fun _ => true) ev
    | _ => false
  | .rse c, sc, st => chkS C N (.rse c) sc st
  | .tryx b i j h, sc, st => match st with
    | .Try body [.ExceptHandler (some (.Name x _)) (some n) hs _] [] [] _ => decide (C.exn 0 = some x) && glB sc x && !dbg x && decide (N[i]? = some n) && isLocB sc n && !dbg n && chkHB C N sc n i j h hs && chkMSs b sc body
    | _ => false
def chkMSs : MSs → Scope → List Stmt → Bool
  | .nil, sc, sts => match sts with
    | [] => true
    | _ => false
  | .cons s r, sc, sts => match sts with
    | st :: rest => chkMS s sc st && chkMSs r sc rest
    | [] => false
end
end
section
variable {C : Ctx} {cls : Nat → Value} {sp : Nat → Sp} {k : Nat} {N : List Str} {sc : Scope} {E : EX} {X : Cx}
theorem pu?_some {e : ME} {a : CE} (h : e.pu? = some a) : e = .pu a := by
  cases e <;> simp [ME.pu?] at h
  rw [h]
theorem ps_mset (G : GoodM C cls sp k N sc E X) {i : Nat} {e : ME} {st : Stmt} (h : chkMSet C N i e sc st = true) : PS X st (tAsg (tOfM X.K sp E e) (gName i)) := by
  unfold chkMSet at h
  split at h
  · rename_i a ha
    rw [pu?_some ha]
    exact ps_seta G.s h
  · split at h
    · simp only [Bool.and_eq_true, decide_eq_true_eq] at h
      obtain ⟨⟨⟨h1, h2⟩, h3⟩, h4⟩ := h
      exact ps_set G.s.g.nd' (by rw [G.s.g.hN]; exact h1) (by rw [G.s.g.hsc]; exact loc_of h2) (pm_all G e _ h4) (notComp_sw h3) (.inl (by rw [G.s.g.fnE]))
    · cases h
theorem ps_mpar (G : GoodM C cls sp k N sc E X) {sw : Bool} {is : List Nat} {es : MEs} {st : Stmt} (h : chkMPar C N sw is es sc st = true) : PS X st (tOfMS X.K cls sp E (.par sw is es)) := by
  unfold chkMPar at h
  split at h
  · simp only [Bool.and_eq_true] at h
    obtain ⟨⟨⟨h1, h2⟩, h3⟩, h4⟩ := h
    rename_i ts _ _ vs _ _ pos
    have g := G.s.g
    have ha := pms_all G es vs h3
    have hsw := fun k1 p1 k2 p2 => sw_eq (env := X.env) (ts := ts) (vs := vs) (k1 := k1) (k2 := k2) (p1 := p1) (p2 := p2) g.hsc G.s.kind h1
    cases sw with
    | false =>
      simp only [decide_eq_true_eq] at h4
      obtain ⟨k1, k2, k3⟩ := pgs_names g.hN g.nd g.hsc g.fnE h2
      show PS X _ (tAsg (tTup (tOfMs X.K sp E es)) (gTup X.K is.length (gNames is)))
      exact ps_asg (pe_tup ha) (pg_tup g.calm k1 k2 k3) rfl (by rw [hsw, h4]) rfl
    | true =>
      simp only [Bool.and_eq_true, decide_eq_true_eq, nodupB, List.all_eq_true] at h4
      obtain ⟨⟨n1, n2⟩, n3⟩ := h4
      show PS X _ (tParS is (tOfMs X.K sp E es))
      have hloc : ∀ i x, i ∈ is → N[i]? = some x → X.env.scope.names.lookup x = some .local := fun i x hi hx => by
        rw [g.hsc]
        have := n3 i hi
        rw [getD_of hx] at this
        exact isLoc_of this
      have hvl : vs.length = ts.length := by
        unfold swF at n2
        split at n2
        · cases n2
        · rename_i c
          simp only [Bool.or_eq_true, Bool.not_eq_true', bne_iff_ne, ne_eq, not_or, Decidable.not_not] at c
          exact c.2
      match is with
      | [] => exact ps_never
      | [_] => exact ps_never
      | _ :: _ :: _ :: _ :: _ => exact ps_never
      | [i, j] =>
        obtain ⟨x, px, r1, rfl, hx, h2⟩ := chkNames_cons h2
        obtain ⟨y, py, r2, rfl, hy, h2⟩ := chkNames_cons h2
        obtain rfl := chkNames_nil h2
        match vs, hvl, ha with
        | [a, b], _, ha =>
          refine ps_par g.calm g.nd' (by rw [g.hN]; exact hx) (by rw [g.hN]; exact hy) (fun z => by subst z; simp at n1) (hloc i x (by simp) hx) (hloc j y (by simp) hy) ha ?_ rfl
          rw [hsw, n2]
          simp only [List.map_cons, List.map_nil, getD_of hx, getD_of hy]
      | [i, j, l] =>
        obtain ⟨x, px, r1, rfl, hx, h2⟩ := chkNames_cons h2
        obtain ⟨y, py, r2, rfl, hy, h2⟩ := chkNames_cons h2
        obtain ⟨z, pz, r3, rfl, hz, h2⟩ := chkNames_cons h2
        obtain rfl := chkNames_nil h2
        match vs, hvl, ha with
        | [a, b, d], _, ha =>
          simp only [List.nodup_cons, List.mem_cons, List.not_mem_nil, or_false, not_or] at n1
          refine ps_par3 g.calm g.nd' (by rw [g.hN]; exact hx) (by rw [g.hN]; exact hy) (by rw [g.hN]; exact hz) n1.1.1 n1.1.2 n1.2.1 (hloc i x (by simp) hx) (hloc j y (by simp) hy) (hloc l z (by simp) hz) ha ?_ rfl
          rw [hsw, n2]
          simp only [List.map_cons, List.map_nil, getD_of hx, getD_of hy, getD_of hz]
  · cases h
theorem pg_fldS {i j : Nat} {x : Str} {p pos : Pos} (g : Good C sp k N sc (fun _ => true) E X) (hv : chkV N i sc x = true) : PG X (.Attribute (.Name x p) (bandF.getD j Str.empty) pos) (gFld X.K i j) := by
  refine ⟨fun pins s σ H v u Q I r h => ?_⟩
  obtain ⟨a, C', dx, fs, h1, h2, h3, h4, h5, h6⟩ := h
  rw [assign_Attribute]
  refine wpAny_bind (wpAny_holding (thn ((pe_v g hv p).run pins s σ H (fun y H' => y = .ref a ∧ H' = H) I ⟨.ref a, h1, rfl, rfl⟩) fun ov s1 ⟨y, H1, I1, r1, e1, e2⟩ => ?_))
  subst e1
  subst e2
  obtain rfl := r1
  refine wpAny_bind (wpAny_standAt (wpAny_bind (wpAny_holding (setattr_ok I1 h2 h3 h4 h5 r fun s3 I3 => ?_))))
  exact wpAny_release ⟨σ, _, I3, h6⟩
theorem pgs_flds (g : Good C sp k N sc (fun _ => true) E X) {i : Nat} : ∀ {js : List Nat} {ts : List Expr}, chkFlds N i js sc ts = true → PGs X ts (gFlds X.K i js) ∧ (assignEach ts X.env).length = js.length ∧ (assignEach ts X.env).findIdx? (·.1) = none
  | [], ts, h => by
    unfold chkFlds at h
    split at h
    · exact ⟨pgs_nil, rfl, rfl⟩
    · cases h
  | j :: js, ts, h => by
    unfold chkFlds at h
    split at h
    · rename_i x p f pos r
      simp only [Bool.and_eq_true, decide_eq_true_eq] at h
      obtain ⟨⟨h1, h2⟩, h3⟩ := h
      subst h1
      obtain ⟨k1, k2, k3⟩ := pgs_flds g h3
      refine ⟨pgs_cons (pg_fldS g h2) k1 rfl, ?_, ?_⟩
      · show (assignEach r X.env).length + 1 = js.length + 1
        rw [k2]
      · show List.findIdx? _ ((false, _) :: assignEach r X.env) = none
        rw [List.findIdx?_cons]
        simp [k3]
    · cases h
theorem pss_ho (G : GoodS C cls sp k N sc E X) {n : Str} {i j c : Nat} {sts : List Stmt} (hi : N[i]? = some n) (hv : isLocB sc n = true) (hdb : (!dbg n) = true) (hc : chkHO C N sc n j c sts = true) (a : Addr) (oe : Obj) (cv : Value) (d : Option Addr) (pn : List (Addr × Obj)) (hz : Zc cv d oe) (hf : ∃ vs, oe.data = .fields vs) :
    PSs (X.suite a ((a, oe) :: pn)) sts (tsO cls i j c a cv d) := by
  unfold chkHO at hc
  split at hc
  · rename_i et y p1 k2 p2 p3 p4
    simp only [Bool.and_eq_true, decide_eq_true_eq] at hc
    obtain ⟨⟨⟨h1, h2⟩, h3⟩, h4⟩ := hc
    refine ⟨fun pins st σ H Z I hh => ?_⟩
    obtain ⟨c', σ0, rfl, rfl, rfl, hij, q⟩ := hh
    obtain ⟨Da, k1, CD, hkit⟩ := G.errs c'
    rw [k1] at hz
    have hlen : (σ0.set i (some (.ref a)) : L2.St).length = N.length := by
      have : (σ0.set i (some (.ref a)) : L2.St).length = X.N.length := I.len
      rw [this, G.g.hN]
    have hi' : i < N.length := (List.getElem?_eq_some_iff.mp hi).1
    have hat : (σ0.set i (some (.ref a)) : L2.St)[i]? = some (some (.ref a)) := List.getElem?_set_self (by rw [List.length_set] at hlen; omega)
    have pt := pe_he (a := a) (pn := pn) G hi hv hdb CD hz hf (.isx c) et h1
    have pl : plainT et = true := by
      unfold chkH at h1
      split at h1
      · rfl
      · cases h1
    have py : PE (X.suite a ((a, oe) :: pn)) (.Name y p1) (tVar j) := pe_var (X := X.suite a ((a, oe) :: pn)) (by show X.N[j]? = _; rw [G.g.hN]; exact h2) (.inl (by show X.env.scope.names.lookup _ = _; rw [G.g.hsc]; exact isLoc_of h3)) (dbg_of h4).1 (dbg_of h4).2
    have key : PS (X.suite a ((a, oe) :: pn)) (.Return (some (.IfExp et (.Name y p1) (.Constant .none k2 p2) p3)) p4) _ := ps_ret (pe_ifExp (pt_val pt (plain_of pl _)) py (chkC_pe (X := X.suite a ((a, oe) :: pn)) (c := .non) (k := .none) rfl))
    refine (pss_one key).run pins st _ H Z I ?_
    obtain ⟨y0, hy0⟩ : ∃ q, cls c = .ref q := (G.errs c).imp fun _ q => q.1
    have hk : W.kitOne X.K (.ref Da) (cls c) = some (subc c' c) := by
      have := only_of (ok := fun b => W.kitOne X.K (.ref Da) (cls b) = some (subc c' b)) (fun b x hb => hkit b x hb) (.isx c) et h1
      exact this
    refine ⟨.ref a, hat, clsV cls c, cls c, subc c' c, rfl, fun u hu => ?_, hk, ?_⟩
    · unfold clsV at hu
      rw [hy0] at hu ⊢
      exact hu
    · refine ⟨subc c' c, rfl, ?_⟩
      rcases q with ⟨q1, v, q2, q3⟩ | ⟨q1, q3⟩
      · rw [q1]
        exact ⟨v, by rw [List.getElem?_set_ne hij]; exact q2, q3⟩
      · rw [q1]
        exact q3
  · cases hc
theorem ho_cons {n : Str} {j c : Nat} {sts : List Stmt} (hc : chkHO C N sc n j c sts = true) : ∃ s r, sts = s :: r := by
  cases sts with
  | cons s r => exact ⟨s, r, rfl⟩
  | nil => simp [chkHO] at hc
theorem hb_cons {n : Str} {i j : Nat} {h : HE} {sts : List Stmt} (hc : chkHB C N sc n i j h sts = true) : ∃ s r, sts = s :: r := by
  cases sts with
  | cons s r => exact ⟨s, r, rfl⟩
  | nil =>
    unfold chkHB at hc
    split at hc
    · contradiction
    · split at hc
      · simp [chkFl] at hc
      · cases hc
theorem pss_hb (G : GoodS C cls sp k N sc E X) {n : Str} {i j : Nat} {h : HE} {sts : List Stmt} (hi : N[i]? = some n) (hv : isLocB sc n = true) (hdb : (!dbg n) = true) (hc : chkHB C N sc n i j h sts = true) (a : Addr) (oe : Obj) (cv : Value) (d : Option Addr) (pn : List (Addr × Obj)) (hz : Zc cv d oe) (hf : ∃ vs, oe.data = .fields vs) :
    PSs (X.suite a ((a, oe) :: pn)) sts (tsH X.K cls i h a cv d) := by
  unfold chkHB at hc
  split at hc
  · exact pss_h G hi hv hdb hc a oe cv d pn hz hf
  · split at hc
    · simp only [Bool.and_eq_true, decide_eq_true_eq] at hc
      obtain ⟨⟨⟨⟨h1, h2⟩, h3⟩, h4⟩, h5⟩ := hc
      have hj : N[j]? = some (N.getD j Str.empty) := by
        rw [List.getD_eq_getElem?_getD, List.getElem?_eq_getElem h4]
        rfl
      exact pss_fl G hi hv hdb hj h2 h3 h1 h5 a oe cv d pn hz hf
    · cases hc
end
section
variable {C : Ctx} {cls : Nat → Value} {sp : Nat → Sp} {k : Nat} {N : List Str} {sc : Scope}
mutual
theorem pms_st : ∀ (s : MS) (E : EX) (X : Cx) (st : Stmt), GoodM C cls sp k N sc E X → chkMS C N s sc st = true → PS X st (tOfMS X.K cls sp E s)
  | .asg i e, E, X, st, G, h => ps_mset G (by simpa only [chkMS] using h)
  | .par sw is es, E, X, st, G, h => ps_mpar G (by simpa only [chkMS] using h)
  | .upi is c es es', E, X, st, G, h => by
    unfold chkMS at h
    split at h
    · simp only [Bool.and_eq_true] at h
      obtain ⟨⟨⟨⟨h1, h2⟩, h3⟩, h4⟩, h5⟩ := h
      have g := G.s.g
      obtain ⟨k1, k2, k3⟩ := pgs_names g.hN g.nd g.hsc g.fnE h3
      exact ps_asg (pe_ifExp (pt_all c sc _ E X _ g h1 h2) (pe_tup (pms_all G es _ h4)) (pe_tup (pms_all G es' _ h5))) (pg_tup g.calm k1 k2 k3) rfl (sw_none rfl) rfl
    · cases h
  | .app i e, E, X, st, G, h => ps_all (.app i e) E X st G.s (by simpa only [chkMS] using h)
  | .fset i j e, E, X, st, G, h => by
    unfold chkMS at h
    split at h
    · simp only [Bool.and_eq_true, decide_eq_true_eq] at h
      obtain ⟨⟨⟨h1, h2⟩, h3⟩, h4⟩ := h
      subst h1
      exact ps_fld (pe_v G.s.g h2 _) (pm_all G e _ h4) (notComp_sw h3)
    · cases h
  | .fapp i j e, E, X, st, G, h => by
    unfold chkMS at h
    split at h
    · simp only [Bool.and_eq_true, decide_eq_true_eq] at h
      obtain ⟨⟨⟨⟨⟨h1, h2⟩, h3⟩, h4⟩, h5⟩, h6⟩ := h
      subst h1 h2
      exact ps_expr (pe_bm PySem.F.plainAttrs_list PySem.F.slot_list_append PySem.F.type_list_append mt_append (pe_fld (pe_v G.s.g h3 _) rfl) (pa_cons (pe_all e sc _ E X _ G.s.g h6) pa_nil (star_of h5 _ _)) rfl (by
        rw [stars_all (by simp [starsB, h5])]; rfl) h4 (star_of h5 _ _) rfl) rfl
    · cases h
  | .fpop i j l, E, X, st, G, h => by
    unfold chkMS at h
    split at h
    · simp only [Bool.and_eq_true, decide_eq_true_eq] at h
      obtain ⟨⟨⟨⟨⟨h1, h2⟩, h2'⟩, h3⟩, h3'⟩, h4⟩ := h
      subst h1 h2 h2'
      exact ps_fld (pe_v G.s.g h3 _) (pe_bm0 PySem.F.plainAttrs_list PySem.F.slot_list_pop PySem.F.type_list_pop mt_pop (pe_fld (pe_v G.s.g h3' _) rfl) rfl h4) rfl
    · cases h
  | .fpar i js es, E, X, st, G, h => by
    unfold chkMS at h
    split at h
    · simp only [Bool.and_eq_true, decide_eq_true_eq] at h
      obtain ⟨⟨⟨⟨h0, h1⟩, h2⟩, h3⟩, h4⟩ := h
      have g := G.s.g
      obtain ⟨k1, k2, k3⟩ := pgs_flds g h3
      show PS X _ (tAsg (tTup (tOfMs X.K sp E es)) (gTup X.K js.length (gFlds X.K i js)))
      exact ps_asg (pe_tup (pms_all G es _ h4)) (pg_tup g.calm k1 k2 k3) rfl (by rw [sw_eq g.hsc G.s.kind h1, h2]) rfl
    · cases h
  | .tryo b i j c, E, X, st, G, h => by
    unfold chkMS at h
    split at h
    · simp only [Bool.and_eq_true, decide_eq_true_eq] at h
      obtain ⟨⟨⟨⟨⟨⟨⟨h1, h2⟩, h3⟩, h4⟩, h5⟩, h6⟩, h7⟩, h8⟩ := h
      obtain ⟨a0, k1, k2, _⟩ := G.s.exns _ _ h1
      have g := G.s.g
      obtain ⟨s1, r1, e1⟩ := ho_cons h7
      subst e1
      exact ps_try_as (X := X) (i := i) (ts := tsO cls i j c) (c := cls 0) (Wout := fun c d σ H => E σ c d H) (tb := fun W => tOfMSs X.K cls sp (fun σ c d H => W c d σ H) b) G.s.stk G.s.frm g.nd' (by rw [g.hN]; exact h4) (by unfold Env.kindOf; rw [g.hsc]; exact isLoc_of h5) ⟨gl_of g.hsc h2, (dbg_of h3).1, .inl (by rw [k1]; exact k2)⟩ G.s.takes
        (fun W pn xe tk po => pmss_st b (fun σ c d H => W c d σ H) (X.tr pn xe) _ ⟨⟨⟨g.hN, g.nd, g.hsc, g.fnE, g.calm, g.room1, g.blt, g.fns, g.csts, fun σ => passAt tk σ, g.newb, g.mths⟩, G.s.kind, po, tk, G.s.stk, G.s.frm, G.s.exns, G.s.errs⟩, G.newb⟩ h8)
        (fun a oe cv d pn hz hf => pss_ho G.s h4 h5 h6 h7 a oe cv d pn hz hf)
    · cases h
  | .exp e, E, X, st, G, h => by
    unfold chkMS at h
    split at h
    · simp only [Bool.and_eq_true] at h
      exact ps_expr (pm_all G e _ h.2) (notComp_sw h.1)
    · cases h
  | .ite c a b, E, X, st, G, h => by
    unfold chkMS at h
    split at h
    · simp only [Bool.and_eq_true] at h
      obtain ⟨⟨h1, h3⟩, h4⟩ := h
      exact ps_if (pmt_all G c _ h1) (pmss_st a E X _ G h3) (pmss_st b E X _ G h4)
    · cases h
  | .forr t it b, E, X, st, G, h => by
    unfold chkMS at h
    split at h
    · simp only [Bool.and_eq_true] at h
      obtain ⟨⟨⟨h1, h2⟩, h3⟩, h4⟩ := h
      have g := G.s.g
      exact ps_for G.s.own g.calm (pi_all it sc _ E X _ _ g h3) (pg_all g.calm g.hN g.nd g.hsc g.fnE h2) (pmss_st b E X _ G h4) (fun x => fold_of h1 _ x)
    · cases h
  | .whl c b, E, X, st, G, h => by
    unfold chkMS at h
    split at h
    · simp only [Bool.and_eq_true] at h
      obtain ⟨⟨h1, h2⟩, h3⟩ := h
      exact ps_while G.s.own (pt_all c sc _ E X _ G.s.g h1 h2) (pmss_st b E X _ G h3)
    · cases h
  | .ret e, E, X, st, G, h => by
    unfold chkMS at h
    split at h
    · exact ps_ret (pm_all G e _ h)
    · cases h
  | .retO i, E, X, st, G, h => by
    unfold chkMS at h
    split at h
    · exact ps_ret (pe_all (.var i) sc _ E X _ G.s.g h)
    · cases h
  | .rse c, E, X, st, G, h => ps_all (.rse c) E X st G.s (by simpa only [chkMS] using h)
  | .tryx b i j hh, E, X, st, G, h => by
    unfold chkMS at h
    split at h
    · simp only [Bool.and_eq_true, decide_eq_true_eq] at h
      obtain ⟨⟨⟨⟨⟨⟨⟨h1, h2⟩, h3⟩, h4⟩, h5⟩, h6⟩, h7⟩, h8⟩ := h
      obtain ⟨a0, k1, k2, _⟩ := G.s.exns _ _ h1
      have g := G.s.g
      obtain ⟨s1, r1, e1⟩ := hb_cons h7
      subst e1
      exact ps_try_as (X := X) (i := i) (ts := tsH X.K cls i hh) (c := cls 0) (Wout := fun c d σ H => E σ c d H) (tb := fun W => tOfMSs X.K cls sp (fun σ c d H => W c d σ H) b) G.s.stk G.s.frm g.nd' (by rw [g.hN]; exact h4) (by unfold Env.kindOf; rw [g.hsc]; exact isLoc_of h5) ⟨gl_of g.hsc h2, (dbg_of h3).1, .inl (by rw [k1]; exact k2)⟩ G.s.takes
        (fun W pn xe tk po => pmss_st b (fun σ c d H => W c d σ H) (X.tr pn xe) _ ⟨⟨⟨g.hN, g.nd, g.hsc, g.fnE, g.calm, g.room1, g.blt, g.fns, g.csts, fun σ => passAt tk σ, g.newb, g.mths⟩, G.s.kind, po, tk, G.s.stk, G.s.frm, G.s.exns, G.s.errs⟩, G.newb⟩ h8)
        (fun a oe cv d pn hz hf => pss_hb G.s h4 h5 h6 h7 a oe cv d pn hz hf)
    · cases h
theorem pmss_st : ∀ (s : MSs) (E : EX) (X : Cx) (sts : List Stmt), GoodM C cls sp k N sc E X → chkMSs C N s sc sts = true → PSs X sts (tOfMSs X.K cls sp E s)
  | .nil, E, X, sts, G, h => by
    unfold chkMSs at h
    split at h
    · exact pss_nil
    · cases h
  | .cons s r, E, X, sts, G, h => by
    unfold chkMSs at h
    split at h
    · simp only [Bool.and_eq_true] at h
      exact pss_cons (pms_st s E X _ G h.1) (pmss_st r E X _ G h.2)
    · cases h
end
end
end Cl
set_option Elab.async false
set_option linter.all false
set_option maxRecDepth 100000
set_option maxHeartbeats 4000000
namespace Cl
open PySem PySem.Spec PyProof.Rows L2 RZ
/-! ### __init__ -/
def initB : MSs := .cons (.exp (.pu (.call 4 (.cons (.var 1) (.cons (.var 2) .nil))))) (.cons (.fset 0 0 (.pu (.var 1))) (.cons (.fset 0 1 (.pu (.var 2))) (.cons (.fset 0 2 (.pu (.tup .nil))) (.cons (.fset 0 3 (.ls .nil)) (.cons (.fset 0 4 (.ls .nil)) .nil)))))
def initF : Fn := ⟨2, 2, .cons (.exp (.call 4 (.cons (.var 0) (.cons (.var 1) .nil)))) .nil⟩
def PostR (K : W.Frag) (cls : Nat → Value) (P H : Hp) (r : R D) (Q : VK) (Ex' : XK) : Prop := match r with
  | .ok d => ∀ v P' H', Ext P H P' H' → Rep K P' d v → Q v H'
  | .exc c => ∀ P' H', Ext P H P' H' → Ex' (cls c) none H'
  | .bad => False
def spOf (K : W.Frag) (cls : Nat → Value) (G : Tab) (k f : Nat) : Sp := fun vs H Q Ex' => ∃ P ds, Ex P H ∧ Reps K P ds vs ∧ PostR K cls P H (run G k f ds) Q Ex'
def spI (K : W.Frag) (cls : Nat → Value) (G : Tab) (k : Nat) : Sp := fun vs H Q2 Ex' => ∃ (P H0 : Hp) (c r : D) (vc vr : V) (x dx : Addr) (Q : VK), vs = [.ref x, vc, vr] ∧ bandB K = true ∧ Ex P H0 ∧ Rep K P c vc ∧ Rep K P r vr ∧ H0 x = none ∧ H0 dx = none ∧ dx ≠ x ∧ H = upd (upd H0 dx (.own x)) x (.ins (bandC K) dx []) ∧
  (∀ v H2, v = .non ∧ Q (.ref x) H2 → Q2 v H2) ∧ PostNew K cls P H0 c r (run G k 900 [c, r]) Q Ex'
theorem run_init {G : Tab} {k : Nat} {c r : D} (hG : G 900 = some initF) : run G (k + 1) 900 [c, r] = (run G k 4 [c, r]).bind fun _ => .ok .non := by
  rw [run, hG]
  simp only [R.ofO_some, R.bind_ok, initF, List.length_cons, List.length_nil]
  show outR (exs (run G k) _ (startE 2 2 [c, r])) = _
  have : exs (run G k) (.cons (.exp (.call 4 (.cons (.var 0) (.cons (.var 1) .nil)))) .nil) (startE 2 2 [c, r]) = (run G k 4 [c, r]).bind fun _ => .ok (.nx (startE 2 2 [c, r])) := by
    simp only [exs, ex, ev, evs, startE, CE.isBor, slotV]
    show ((run G k 4 [c, r]).bind _).bind _ = _
    cases run G k 4 [c, r] <;> rfl
  rw [this]
  cases run G k 4 [c, r] <;> rfl
theorem init_read {K : W.Frag} {cls : Nat → Value} {G : Tab} {k : Nat} {sp : Nat → Sp} {N : List Str} {vs : List V} {H : Hp} {Q : VK} {E' : XK} (hG : G 900 = some initF) (hsp : sp 4 = spOf K cls G k 4) (hN : N.length = 3) (q : spI K cls G (k + 1) vs H Q E') :
    tOfMSs K cls sp (fun _ => E') initB { nx := fun _ H' => Q .non H', rt := Q } (start N vs) H := by
  obtain ⟨P, H0, c, r, vc, vr, x, dx, Q0, rfl, hb, eP, rc, rr, hx, hdx, hne, rfl, hQ, p⟩ := q
  have B := bandB_ok hb
  rw [run_init hG] at p
  have s0 : (start N [.ref x, vc, vr])[0]? = some (some (.ref x)) := rfl
  have s1 : (start N [.ref x, vc, vr])[1]? = some (some vc) := rfl
  have s2 : (start N [.ref x, vc, vr])[2]? = some (some vr) := rfl
  generalize hσ : start N [.ref x, vc, vr] = σ at s0 s1 s2 ⊢
  have x1 : Ext P H0 P (upd H0 dx (.own x)) := Ext.newO eP hdx
  have hx1 : upd H0 dx (.own x) x = none := by rw [upd_ne (Ne.symm hne)]; exact hx
  have x2 : Ext P (upd H0 dx (.own x)) P (upd (upd H0 dx (.own x)) x (.ins (bandC K) dx [])) := Ext.newO x1.ph hx1
  have x3 := x1.trans x2
  refine ⟨vc, s1, vr, s2, ?_⟩
  rw [hsp]
  refine ⟨P, [c, r], x3.ph, .cons rc (.cons rr .nil), ?_⟩
  cases hr : run G k 4 [c, r] with
  | bad => rw [hr] at p; exact p.elim
  | exc e =>
    rw [hr] at p
    exact fun P' H' e' => p P' H' (x3.trans e')
  | ok d =>
    rw [hr] at p
    intro v P1 H1 e1 _
    have hHx : H1 x = some (.ins (bandC K) dx []) := e1.h _ _ upd_same
    have hHd : H1 dx = some (.own x) := e1.h _ _ (by rw [upd_ne hne, upd_same])
    have pPx : P x = none := eP.free hx
    have pPd : P dx = none := eP.free hdx
    have hPx : P1 x = none := e1.fr x pPx (by rw [upd_same]; simp)
    have hPd : P1 dx = none := e1.fr dx pPd (by rw [upd_ne hne, upd_same]; simp)
    refine ⟨vc, s1, .ref x, s0, x, bandC K, dx, [], rfl, hHx, B.cl, B.no _ (by decide), by decide, ?_⟩
    refine ⟨vr, s2, .ref x, s0, x, bandC K, dx, _, rfl, upd_same, B.cl, B.no _ (by decide), by show 1 < 1000; decide, ?_⟩
    refine ⟨by decide, fun t ht => ?_⟩
    have ntx : t ≠ x := fun z => by rw [z, upd_same] at ht; cases ht
    have ht1 : H1 t = none := by rw [upd_ne ntx, upd_ne ntx] at ht; exact ht
    refine ⟨.ref x, s0, x, bandC K, dx, _, rfl, by rw [upd_ne (Ne.symm ntx), upd_same], B.cl, B.no _ (by decide), by show 2 < 1000; decide, ?_⟩
    refine ⟨by decide, fun p1 hp1 => ?_⟩
    have n1x : p1 ≠ x := fun z => by rw [z, upd_same] at hp1; cases hp1
    have n1t : p1 ≠ t := fun z => by rw [upd_ne n1x, z, upd_same] at hp1; cases hp1
    have hp1' : H1 p1 = none := by rw [upd_ne n1x, upd_ne n1t, upd_ne n1x, upd_ne n1x] at hp1; exact hp1
    refine ⟨.ref x, s0, x, bandC K, dx, _, rfl, by rw [upd_ne (Ne.symm n1x), upd_same], B.cl, B.no _ (by decide), by show 3 < 1000; decide, ?_⟩
    refine ⟨by decide, fun p2 hp2 => ?_⟩
    have n2x : p2 ≠ x := fun z => by rw [z, upd_same] at hp2; cases hp2
    have n21 : p2 ≠ p1 := fun z => by rw [upd_ne n2x, z, upd_same] at hp2; cases hp2
    have n2t : p2 ≠ t := fun z => by rw [upd_ne n2x, upd_ne n21, upd_ne n2x, z, upd_same] at hp2; cases hp2
    have hp2' : H1 p2 = none := by rw [upd_ne n2x, upd_ne n21, upd_ne n2x, upd_ne n2t, upd_ne n2x, upd_ne n2x] at hp2; exact hp2
    refine ⟨.ref x, s0, x, bandC K, dx, _, rfl, by rw [upd_ne (Ne.symm n2x), upd_same], B.cl, B.no _ (by decide), by show 4 < 1000; decide, ?_⟩
    refine hQ _ _ ⟨rfl, ?_⟩
    have H0n : ∀ a, H1 a = none → H0 a = none := fun a ha => x3.h.free (e1.h.free ha)
    have ndt : dx ≠ t := fun z => by rw [← z, hHd] at ht1; cases ht1
    have nd1 : dx ≠ p1 := fun z => by rw [← z, hHd] at hp1'; cases hp1'
    have nd2 : dx ≠ p2 := fun z => by rw [← z, hHd] at hp2'; cases hp2'
    -- the end
    have far : ∀ a, a ≠ x → a ≠ t → a ≠ p1 → a ≠ p2 → ∀ o0 o1 o2 o3 o4 u1 u2 u3, upd (upd (upd (upd (upd (upd (upd (upd H1 x o0) x o1) t u1) x o2) p1 u2) x o3) p2 u3) x o4 a = H1 a := fun a h1 h2 h3 h4 o0 o1 o2 o3 o4 u1 u2 u3 => by
      rw [upd_ne h1, upd_ne h4, upd_ne h1, upd_ne h3, upd_ne h1, upd_ne h2, upd_ne h1, upd_ne h1]
    have ePd : Ex P1 (upd P1 dx (.own x)) := Ex.new hPd
    have hPt : upd P1 dx (.own x) t = none := by rw [upd_ne (Ne.symm ndt)]; exact e1.ph.free ht1
    have ePt : Ex (upd P1 dx (.own x)) (upd (upd P1 dx (.own x)) t (.tup [])) := Ex.new hPt
    have eP2 := ePd.trans ePt
    refine p x dx p1 p2 vc vr (.ref t) (upd (upd P1 dx (.own x)) t (.tup [])) _ ⟨fun a o ha => ?_, e1.p.trans eP2, fun a o ha => ?_, fun a z1 z2 => ?_⟩ hx (H0n _ hp1') (H0n _ hp2') (Ne.symm n1x) (Ne.symm n2x) (Ne.symm n21) upd_same (by rw [upd_ne ndt, upd_same]) (Rep.mono (e1.p.trans eP2) _ _ rc) (Rep.mono (e1.p.trans eP2) _ _ rr) (.tup upd_same .nil) ?_ ?_ ?_ ?_ ?_
    · have a1 : a ≠ x := ne_of_none ha hx
      have a2 : a ≠ t := ne_of_none ha (H0n _ ht1)
      have a3 : a ≠ p1 := ne_of_none ha (H0n _ hp1')
      have a4 : a ≠ p2 := ne_of_none ha (H0n _ hp2')
      rw [far a a1 a2 a3 a4]
      exact e1.h _ _ (x3.h _ _ ha)
    · by_cases a2 : a = t
      · subst a2
        rw [upd_same] at ha
        rw [upd_ne ntx, upd_ne (Ne.symm n2t), upd_ne ntx, upd_ne (Ne.symm n1t), upd_ne ntx, upd_same]
        exact ha
      · rw [upd_ne a2] at ha
        by_cases ad : a = dx
        · subst ad
          rw [upd_same] at ha
          rw [far a hne ndt nd1 nd2, hHd]
          exact ha
        · rw [upd_ne ad] at ha
          have hH := e1.ph a o ha
          have a1 : a ≠ x := fun z => by rw [z, hPx] at ha; cases ha
          rw [far a a1 a2 (ne_of_none hH hp1') (ne_of_none hH hp2')]
          exact hH
    · have a2 : a ≠ t := fun z => z2 (by rw [z]; exact H0n _ ht1)
      have ad : a ≠ dx := fun z => z2 (by rw [z]; exact hdx)
      rw [upd_ne a2, upd_ne ad]
      exact e1.fr a z1 fun z => z2 (x3.h.free z)
    · rw [upd_ne (Ne.symm ntx), upd_ne (Ne.symm hne)]; exact hPx
    · rw [upd_ne n1t, upd_ne (Ne.symm nd1)]; exact e1.ph.free hp1'
    · rw [upd_ne n2t, upd_ne (Ne.symm nd2)]; exact e1.ph.free hp2'
    · rw [upd_ne n1x, upd_ne (Ne.symm n21), upd_ne n1x, upd_same]
    · rw [upd_ne n2x, upd_same]
theorem start2_ok {K : W.Frag} {M : List Addr} {P : Hp} {N : List Str} {np : Nat} {ws : List W} {vs : List V} (r : RelWs K M P ws vs) (hl : ws.length = np) : EnvOk2 K M (start2 np N.length ws) (start N vs) P := by
  have hv := r.length
  refine ⟨?_, fun i w q => ?_⟩
  · unfold start2 L2.start
    simp [hl, ← hv]
  · unfold start2 at q
    unfold L2.start
    by_cases hi : i < ws.length
    · rw [List.getElem?_append_left (by simpa using hi), List.getElem?_map, List.getElem?_eq_getElem hi] at q
      simp only [Option.map_some, Option.some.injEq] at q
      subst q
      obtain ⟨v, h1, h2⟩ := r.get (List.getElem?_eq_getElem hi)
      refine ⟨v, ?_, h2⟩
      rw [List.getElem?_append_left (by simp; omega), List.getElem?_map, h1]
      rfl
    · rw [List.getElem?_append_right (by simpa using hi)] at q
      have hlt := (List.getElem?_eq_some_iff.mp q).1
      rw [List.getElem?_replicate_of_lt (by simpa using hlt)] at q
      simp at q
end Cl
set_option Elab.async false
set_option linter.all false
set_option maxRecDepth 100000
set_option maxHeartbeats 4000000
namespace Cl
open PySem PySem.Spec PyProof.Rows L2 RZ

/-! ### all defs of a text -/
structure FnE where
  name : Str
  ps : List Str
  N : List Str
  args : Arguments
  body : List Stmt
  scope : Scope
  fn : Fn
  memo : Option CE
  /-- a method of Band -/
  cl : Bool := false
  /-- its __init__ -/
  ini : Bool := false
  /-- a def of the second evaluator -/
  fn2 : Option MSs := none
abbrev Lst := List (Nat × FnE)
def FnE.qual (e : FnE) : Str := if e.cl then "Band." ++ e.name else e.name
def FnE.at_ (e : FnE) (f : Nat) : Option Fn := if e.ini then some initF else match e.fn2 with
  | some _ => none
  | none => match e.memo with
    | none => some e.fn
    | some T => some ⟨2, 7, memoB f T⟩
def FnE.at2 (e : FnE) : Option Fn2 := if e.ini then none else e.fn2.map fun b => ⟨e.ps.length, e.N.length, b⟩
def Lst.tab (L : Lst) : Tab := fun f => (L.lookup f).bind fun e => e.at_ f
def Lst.tab2 (L : Lst) : Tab2 := fun f => (L.lookup f).bind FnE.at2
/-- the kind of a def: 0 plain, 1 with a table, 2 of the second evaluator, 3 __init__ -/
def FnE.kind (e : FnE) : Nat := if e.ini then 3 else if e.fn2.isSome then 2 else if e.memo.isSome then 1 else 0
def Lst.nmK (L : Lst) (cl : Bool) (g : Nat) : Option Str := (L.lookup (g % 1000)).bind fun e => if e.kind = g / 1000 ∧ e.cl = cl ∧ e.kind < 3 then some e.name else none
/-- the names: those of defs with a table from 1000 on, of the second evaluator from 2000 on -/
def Lst.nm (L : Lst) (g : Nat) : Option Str := L.nmK false g
def Lst.hasB (L : Lst) : Bool := L.any fun p => p.2.ini
def ctxOf (L : Lst) (cst : List (Str × Cst)) (exn : List (Nat × Str)) : Ctx := ⟨L.nm, fun x => cst.lookup x, fun c => exn.lookup c, L.nmK true, L.hasB⟩
def fnScB (N ps : List Str) (sc : Scope) : Bool :=
  (match sc.kind with | .function => true | _ => false) && !sc.isCoroutine && !sc.isGenerator && decide N.Nodup && decide (N.take ps.length = ps) && ps.all (fun x => locB sc x) && sc.names.all (fun y => match y.2 with | .free => false | _ => true)
theorem fnSc_of {N ps : List Str} {sc : Scope} (h : fnScB N ps sc = true) : FnScope N ps sc := by
  unfold fnScB at h
  simp only [Bool.and_eq_true, Bool.not_eq_true', decide_eq_true_eq, List.all_eq_true] at h
  obtain ⟨⟨⟨⟨⟨⟨h1, h2⟩, h3⟩, h4⟩, h5⟩, h6⟩, h7⟩ := h
  refine ⟨?_, h2, h3, h4, h5, fun x hx => loc_of (h6 x hx), fun y hy e => ?_⟩
  · split at h1
    · assumption
    · cases h1
  · have := h7 y hy
    rw [e] at this
    cases this
def okF (C : Ctx) (f : Nat) (e : FnE) : Bool := fnScB e.N e.ps e.scope && decide (f < 1000) && if e.ini then decide (f = 900) && decide (e.ps.length = 3) && decide (e.N.length = 3) && chkMSs C e.N initB e.scope e.body else decide (f < 900) && match e.fn2 with
  | some b => decide (e.ps.length ≤ e.N.length) && chkMSs C e.N b e.scope e.body
  | none => match e.memo with
    | none => decide (e.fn.np = e.ps.length) && decide (e.fn.ns = e.N.length) && decide (e.ps.length ≤ e.N.length) && chkSs C e.N e.fn.body e.scope e.body
    | some T => decide (e.ps.length = 3) && decide (e.N.length = 7) && chkM C e.N e.scope f T e.body
def sp2Of (K : W.Frag) (cls : Nat → Value) (G : Tab) (G2 : Tab2) (k f : Nat) : Sp := fun vs H Q Ex' => ∃ M S P ws, StOk K M S P H ∧ RelWs K M P ws vs ∧ Post2 K cls (rlW K) (fun _ => Ex') [] M P (run2 G G2 k f ws S) Q
def spAt (K : W.Frag) (cls : Nat → Value) (G : Tab) (G2 : Tab2) (k g : Nat) : Sp := if g = 4900 then spI K cls G k else if 2000 ≤ g then sp2Of K cls G G2 k (g - 2000) else if 1000 ≤ g then spD K G k (g - 1000) else spOf K cls G k g
theorem run_none {G : Tab} {k f : Nat} {ds : List D} (h : G f = none) : run G k f ds = .bad := by
  cases k with
  | zero => rfl
  | succ k => unfold run; rw [h]; rfl
theorem run2_none {G : Tab} {G2 : Tab2} {k f : Nat} {ws : List W} {S : Sto} (h : G2 f = none) : run2 G G2 k f ws S = .bad := by
  cases k with
  | zero => rfl
  | succ k => unfold run2; rw [h]; rfl
theorem calls_of (K : W.Frag) (cls : Nat → Value) (G : Tab) (G2 : Tab2) (hid : ∀ f, 1000 ≤ f → G f = none) (hb9 : (∃ F, G 900 = some F) → bandB K = true) (k : Nat) : Calls K cls (spAt K cls G G2 k) (run G k) where
  c := fun f P H ds vs Q Ex' e r p => by
    unfold spAt
    by_cases hf : 1000 ≤ f
    · rw [run_none (hid f hf)] at p
      exact p.elim
    · rw [if_neg (by omega), if_neg (by omega), if_neg hf]
      refine ⟨P, ds, e, r, ?_⟩
      unfold PostR
      cases h : run G k f ds <;> (rw [h] at p; exact p)
  d := fun f P H ds vs d i Q Ex' e r hd hm hc q => by
    have hf : ¬ 1000 ≤ f := fun hf => by rw [run_none (hid f hf)] at hc; cases hc
    unfold spAt
    rw [if_neg (by omega), if_neg (by omega), if_pos (Nat.le_add_right _ _), Nat.add_sub_cancel_left]
    exact spD_call e r hd hm hc q
  n := fun P H c r vc vr x dx Q Ex' e rc rr hx hdx hne p => by
    have hb : bandB K = true := hb9 (by
      cases hG : G 900 with
      | some F => exact ⟨F, rfl⟩
      | none => rw [run_none hG] at p; exact p.elim)
    unfold spAt
    rw [if_pos rfl]
    refine ⟨P, H, c, r, vc, vr, x, dx, Q, rfl, hb, e, rc, rr, hx, hdx, hne, rfl, fun v H2 q => q, ?_⟩
    unfold PostNew
    cases hr : run G k 900 [c, r] with
    | bad => rw [hr] at p; exact p.elim
    | exc c => rw [hr] at p; exact p
    | ok d =>
      rw [hr] at p
      intro y dy p1 p2 v1 v2 v3 P' H' e' f1 f2 f3 n1 n2 n3 hy hdy r1 r2 r3 q0 q1 q2 l1 l2
      have en : Ex P' (upd P' y (.ins (bandC K) dy (bandF.zip [v1, v2, v3, .ref p1, .ref p2]))) := Ex.new q0
      refine p (.ref y) (upd P' y (.ins (bandC K) dy (bandF.zip [v1, v2, v3, .ref p1, .ref p2]))) H' ⟨e'.h, e'.p.trans en, fun a o z => ?_, fun a z1 z2 => ?_⟩ (.obj hb upd_same (en _ _ hdy) rfl rfl (.cons (Rep.mono en _ _ r1) (.cons (Rep.mono en _ _ r2) (.cons (Rep.mono en _ _ r3) .nil))))
      · by_cases ha : a = y
        · subst ha; rw [upd_same] at z; cases z; exact hy
        · rw [upd_ne ha] at z; exact e'.ph a o z
      · have ha : a ≠ y := fun w => z2 (by rw [w]; exact f1)
        rw [upd_ne ha]
        exact e'.fr a z1 z2
theorem calls2_of (K : W.Frag) (cls : Nat → Value) (G : Tab) (G2 : Tab2) (hid : ∀ f, 1000 ≤ f → G f = none) (hid2 : ∀ f, 1000 ≤ f → G2 f = none) (hb : bandB K = true) (k : Nat) : Calls2 K cls (spAt K cls G G2 k) (run G k) (run2 G G2 k) where
  p := calls_of K cls G G2 hid (fun _ => hb) k
  b := hb
  c := fun f M S P H ws vs Q Ex' J r p => by
    have hf : ¬ 1000 ≤ f := fun hf => by rw [run2_none (hid2 f hf)] at p; exact p.elim
    unfold spAt
    rw [if_neg (by omega), if_pos (Nat.le_add_right _ _), Nat.add_sub_cancel_left]
    exact ⟨M, S, P, ws, J, r, p⟩
  n := fun P H c r vc vr x dx Q Ex' e rc rr hx hdx hne p => by
    unfold spAt
    rw [if_pos rfl]
    exact ⟨P, H, c, r, vc, vr, x, dx, Q, rfl, hb, e, rc, rr, hx, hdx, hne, rfl, fun v H2 q => q, p⟩
/-- where a def stands -/
def AtK (K : W.Frag) (mg : Str → Option Value) (e : FnE) (a : Addr) : Prop := if e.cl then Cls K (bandC K) ∧ Meth K (bandC K) e.name a ∧ (e.ini = true → Mk K (bandC K) a ∧ mg "Band" = some (.ref (bandC K))) else mg e.name = some (.ref a) ∧ e.ini = false
structure Facts (L : Lst) (cst : List (Str × Cst)) (exn : List (Nat × Str)) (cls : Nat → Value) (K : W.Frag) (mg : Str → Option Value) : Prop where
  blt : ∀ x ∈ bltNames, mg x = none
  fns : ∀ f e, L.lookup f = some e → ∃ a fd, AtK K mg e a ∧ FunD K e.name e.qual e.args e.body e.scope [] [] a fd ∧ Binds K fd e.ps []
  band : (L.any fun p => p.2.kind == 2 || p.2.kind == 3) = true → bandB K = true
  csts : ∀ x c, cst.lookup x = some c → ∃ u, mg x = some u ∧ RelV c.v u
  errs : ∀ c, ∃ a, cls c = .ref a ∧ ExcC K a ∧ ∀ b x, exn.lookup b = some x → W.kitOne K (.ref a) (cls b) = some (subc c b)
  exm : ∀ c, W.exmOne K (cls c) (cls 0) = some true
  exns : ∀ c x, exn.lookup c = some x → ∃ a, cls c = .ref a ∧ mg x = some (.ref a) ∧ W.excIn K a He.veBase "ValueError.__new__" = true ∧ W.keepIn K (.ref a) = true ∧ W.subIn K (.ref a) (.type "BaseException") = some true ∧ W.typeIn K (.ref a) = some (.type "type")
theorem mem_lookup {α : Type} {l : List (Nat × α)} {f : Nat} {e : α} (h : l.lookup f = some e) : (f, e) ∈ l := by
  induction l with
  | nil => simp at h
  | cons p l ih =>
    obtain ⟨g, d⟩ := p
    rw [List.lookup_cons] at h
    cases hb : (f == g) with
    | true =>
      rw [hb] at h
      simp only [Option.some.injEq] at h
      subst h
      rw [beq_iff_eq.mp hb]
      exact List.mem_cons_self
    | false =>
      rw [hb] at h
      exact List.mem_cons_of_mem _ (ih h)
theorem run_len {G : Tab} {k f : Nat} {ds : List D} {F : Fn} (hG : G f = some F) (h : run G (k + 1) f ds ≠ .bad) : ds.length = F.np := by
  unfold run at h
  rw [hG] at h
  simp only [R.ofO_some, R.bind_ok] at h
  split at h
  · assumption
  · exact absurd rfl h
theorem start_ok {K : W.Frag} {P H : Hp} {N : List Str} {np : Nat} : ∀ {ds : List D} {vs : List V}, Ex P H → Reps K P ds vs → ds.length = np → EnvOk K H (startE np N.length ds) (start N vs) P H := fun {ds vs} e r hl => by
  have hv := r.length
  refine ⟨e, ?_, fun i s q => ?_, fun i j ds' es' a b q1 => ?_⟩
  · unfold startE L2.start
    simp [hl, ← hv]
  · unfold startE at q
    unfold L2.start
    by_cases hi : i < ds.length
    · rw [List.getElem?_append_left (by simpa using hi), List.getElem?_map, List.getElem?_eq_getElem hi] at q
      simp only [Option.map_some, Option.some.injEq] at q
      subst q
      obtain ⟨v, h1, h2⟩ := r.get (List.getElem?_eq_getElem hi)
      refine ⟨v, ?_, h2⟩
      rw [List.getElem?_append_left (by simp; omega), List.getElem?_map, h1]
      rfl
    · rw [List.getElem?_append_right (by simpa using hi)] at q
      have hlt := (List.getElem?_eq_some_iff.mp q).1
      rw [List.getElem?_replicate_of_lt (by simpa using hlt)] at q
      simp only [Option.some.injEq] at q
      subst q
      refine ⟨none, ?_⟩
      rw [List.getElem?_append_right (by simp; omega)]
      simp only [List.length_replicate, List.length_map] at hlt
      rw [List.getElem?_replicate_of_lt (by simp only [List.length_map]; omega)]
  · exfalso
    unfold startE at q1
    by_cases hi : i < ds.length
    · rw [List.getElem?_append_left (by simpa using hi), List.getElem?_map, List.getElem?_eq_getElem hi] at q1
      simp at q1
    · rw [List.getElem?_append_right (by simpa using hi)] at q1
      have hlt := (List.getElem?_eq_some_iff.mp q1).1
      rw [List.getElem?_replicate_of_lt (by simpa using hlt)] at q1
      simp at q1
def spE (K : W.Frag) (cls : Nat → Value) (G : Tab) (G2 : Tab2) (k f : Nat) (e : FnE) : Sp := spAt K cls G G2 k (if e.ini then 4900 else 1000 * e.kind + f)
theorem tab_id {L : Lst} {C : Ctx} (ok : ∀ p ∈ L, okF C p.1 p.2 = true) : ∀ f, 1000 ≤ f → L.lookup f = none := fun f hf => by
  cases h : L.lookup f with
  | none => rfl
  | some e =>
    have := ok _ (mem_lookup h)
    unfold okF at this
    simp only [Bool.and_eq_true, decide_eq_true_eq] at this
    have := this.1.2
    omega
theorem nmK_some {L : Lst} {cl : Bool} {g : Nat} {x : Str} (h : L.nmK cl g = some x) : ∃ e, L.lookup (g % 1000) = some e ∧ e.kind = g / 1000 ∧ e.cl = cl ∧ e.kind < 3 ∧ e.name = x := by
  unfold Lst.nmK at h
  obtain ⟨e, h1, h2⟩ := Option.bind_eq_some_iff.mp h
  split at h2
  · rename_i hk
    exact ⟨e, h1, hk.1, hk.2.1, hk.2.2, Option.some.inj h2⟩
  · cases h2
theorem kind3 {e : FnE} : e.ini = true ↔ e.kind = 3 := by
  unfold FnE.kind
  cases e.ini with
  | true => simp
  | false =>
    simp only [Bool.false_eq_true, if_false, false_iff]
    split <;> first | simp | (split <;> simp)
theorem sp_no {K : W.Frag} {cls : Nat → Value} {G : Tab} {G2 : Tab2} {g : Nat} {vs : List V} {H : Hp} {Q : VK} {E' : XK} (q : spAt K cls G G2 0 g vs H Q E') : False := by
  unfold spAt at q
  by_cases h1 : g = 4900
  · rw [if_pos h1] at q
    obtain ⟨_, _, _, _, _, _, _, _, _, _, _, _, _, _, _, _, _, _, _, z⟩ := q
    exact z
  · rw [if_neg h1] at q
    by_cases h2 : 2000 ≤ g
    · rw [if_pos h2] at q
      obtain ⟨_, _, _, _, _, _, z⟩ := q
      exact z
    · rw [if_neg h2] at q
      by_cases h3 : 1000 ≤ g
      · rw [if_pos h3] at q
        obtain ⟨_, _, _, _, _, _, _, _, _, _, _, _, _, _, _, _, _, _, z, _⟩ := q
        cases z
      · rw [if_neg h3] at q
        obtain ⟨_, _, _, _, z⟩ := q
        exact z
theorem fn_all {L : Lst} {cst : List (Str × Cst)} {exn : List (Nat × Str)} {cls : Nat → Value} {K : W.Frag} {mg : Str → Option Value} {P : Program} {w : World} (F : Facts L cst exn cls K mg) (ok : ∀ p ∈ L, okF (ctxOf L cst exn) p.1 p.2 = true) :
    ∀ (k : Nat) (f : Nat) (e : FnE), L.lookup f = some e → ∃ a fd, AtK K mg e a ∧ W.keepIn K (.ref a) = true ∧ (∀ base : Heap, FnOk P w K mg base (L2.CX P w) (2 * k) a fd e.ps (spE K cls L.tab L.tab2 k f e)) ∧ Binds K fd e.ps [] ∧ FunD K e.name e.qual e.args e.body e.scope [] [] a fd := by
  have hid0 := tab_id ok
  have hid : ∀ f, 1000 ≤ f → L.tab f = none := fun f hf => by unfold Lst.tab; rw [hid0 f hf]; rfl
  have hid2 : ∀ f, 1000 ≤ f → L.tab2 f = none := fun f hf => by unfold Lst.tab2; rw [hid0 f hf]; rfl
  have hmod : ∀ g e, L.lookup (g % 1000) = some e → e.kind = g / 1000 → e.kind < 3 → spE K cls L.tab L.tab2 = spE K cls L.tab L.tab2 ∧ (if e.ini then 4900 else 1000 * e.kind + g % 1000) = g := fun g e _ h1 h2 => by
    have : e.ini = false := by
      cases hi : e.ini with
      | false => rfl
      | true => rw [kind3.mp hi] at h2; omega
    rw [this, h1]
    exact ⟨rfl, by simpa using Nat.div_add_mod g 1000⟩
  intro k
  induction k with
  | zero =>
    intro f e h
    obtain ⟨a, fd, h1, h2, h3⟩ := F.fns f e h
    have no : ∀ vs H Q E', ¬ spE K cls L.tab L.tab2 0 f e vs H Q E' := fun vs H Q E' q => sp_no q
    exact ⟨a, fd, h1, h2.kp, fun base => ⟨fun vs H Q E' q => (no _ _ _ _ q).elim, fun A outer s H args us vs Q E' _ _ _ _ q => (no _ _ _ _ q).elim⟩, h3, h2⟩
  | succ k ih =>
    intro f e h
    obtain ⟨a, fd, h1, h2, h3⟩ := F.fns f e h
    have o := ok _ (mem_lookup h)
    unfold okF at o
    simp only [Bool.and_eq_true, decide_eq_true_eq] at o
    obtain ⟨⟨o1, oid⟩, o⟩ := o
    have S := fnSc_of o1
    have hb9 : (∃ F, L.tab 900 = some F) → bandB K = true := fun ⟨F9, h9⟩ => by
      unfold Lst.tab at h9
      obtain ⟨e1, h91, _⟩ := Option.bind_eq_some_iff.mp h9
      refine F.band (List.any_eq_true.mpr ⟨_, mem_lookup h91, ?_⟩)
      have o9 := ok _ (mem_lookup h91)
      cases h9i : e1.ini with
      | true => simp [kind3.mp h9i]
      | false =>
        unfold okF at o9
        simp only [h9i, Bool.false_eq_true, if_false, Bool.and_eq_true, decide_eq_true_eq] at o9
        omega
    have hC := calls_of K cls L.tab L.tab2 hid hb9 k
    have newbL : ∀ (base : Heap), (ctxOf L cst exn).hasB = true → ∃ f fd ps, mg "Band" = some (.ref (bandC K)) ∧ Mk K (bandC K) f ∧ FnOk P w K mg base (L2.CX P w) (2 * k) f fd ps (spAt K cls L.tab L.tab2 k 4900) ∧ Binds K fd ps [] := fun base hB => by
      have hB' : (L.any fun p => p.2.ini) = true := hB
      rw [List.any_eq_true] at hB'
      obtain ⟨⟨f0, e0⟩, hm, hi⟩ := hB'
      have o0 := ok _ hm
      have hf0 : f0 = 900 := by
        unfold okF at o0
        simp only at hi
        simp only [hi, if_true, Bool.and_eq_true, decide_eq_true_eq] at o0
        exact o0.2.1.1.1
      have hlk : ∃ e1, L.lookup 900 = some e1 ∧ e1.ini = true := by
        have : ∃ e1, L.lookup 900 = some e1 := by
          cases hl : L.lookup 900 with
          | some e1 => exact ⟨e1, rfl⟩
          | none =>
            exfalso
            rw [List.lookup_eq_none_iff] at hl
            have := hl _ hm
            simp [hf0] at this
        obtain ⟨e1, h9⟩ := this
        refine ⟨e1, h9, ?_⟩
        have o9 := ok _ (mem_lookup h9)
        cases h9i : e1.ini with
        | true => rfl
        | false =>
          unfold okF at o9
          simp only [h9i, Bool.false_eq_true, if_false, Bool.and_eq_true, decide_eq_true_eq] at o9
          omega
      obtain ⟨e1, h9, hi9⟩ := hlk
      obtain ⟨a', fd', k1, k2, k3, k4, _⟩ := ih 900 e1 h9
      unfold AtK at k1
      have := k3 base
      unfold spE at this
      rw [hi9, if_pos rfl] at this
      cases hc : e1.cl with
      | false => rw [hc] at k1; exact absurd hi9 (by rw [k1.2]; simp)
      | true =>
        rw [hc] at k1
        exact ⟨a', fd', e1.ps, (k1.2.2 hi9).2, (k1.2.2 hi9).1, this, k4⟩
    have good : ∀ (base : Heap) (cdv : Value) (A : Around) (outer : List PySem.Env) (s : Shared) (H : Hp) (E' : XK), Room (2 * k + 1) (cxOf (L2.CX P w) P w K mg base e.N e.qual e.scope a cdv A outer s H E').A → GoodS (ctxOf L cst exn) cls (spAt K cls L.tab L.tab2 k) (2 * k) e.N e.scope (fun _ => E') (cxOf (L2.CX P w) P w K mg base e.N e.qual e.scope a cdv A outer s H E') := fun base cdv A outer s H E' hr => by
      have tk : Takes (cxOf (L2.CX P w) P w K mg base e.N e.qual e.scope a cdv A outer s H E') (fun c d σ H => E' c d H) := takes_of rfl rfl rfl rfl
      refine ⟨⟨rfl, S.nd, rfl, rfl, rfl, hr, F.blt, fun g x hx => ?_, F.csts, fun σ => passAt tk σ, newbL base, fun g m hm => ?_⟩, S.kind, passes_of rfl, tk, rfl, rfl, fun c x hx => F.exns c x hx, F.errs⟩
      · obtain ⟨e', he', q1, q2, q3, rfl⟩ := nmK_some (show L.nmK false g = some x from hx)
        obtain ⟨a', fd', k1, k2, k3, k4, _⟩ := ih (g % 1000) e' he'
        unfold AtK at k1
        rw [q2] at k1
        have := k3 base
        unfold spE at this
        rw [(hmod g e' he' q1 q3).2] at this
        exact ⟨a', fd', e'.ps, k1.1, k2, this, k4⟩
      · obtain ⟨e', he', q1, q2, q3, rfl⟩ := nmK_some (show L.nmK true g = some m from hm)
        obtain ⟨a', fd', k1, k2, k3, k4, _⟩ := ih (g % 1000) e' he'
        unfold AtK at k1
        rw [q2] at k1
        have := k3 base
        unfold spE at this
        rw [(hmod g e' he' q1 q3).2] at this
        exact ⟨a', fd', e'.ps, k1.1, k1.2.1, this, k4⟩
    have goodM : ∀ (base : Heap) (cdv : Value) (A : Around) (outer : List PySem.Env) (s : Shared) (H : Hp) (E' : XK), Room (2 * k + 1) (cxOf (L2.CX P w) P w K mg base e.N e.qual e.scope a cdv A outer s H E').A → GoodM (ctxOf L cst exn) cls (spAt K cls L.tab L.tab2 k) (2 * k) e.N e.scope (fun _ => E') (cxOf (L2.CX P w) P w K mg base e.N e.qual e.scope a cdv A outer s H E') := fun base cdv A outer s H E' hr => ⟨good base cdv A outer s H E' hr, newbL base⟩
    refine ⟨a, fd, h1, h2.kp, fun base => ?_, h3, h2⟩
    show FnOk P w K mg base (L2.CX P w) (2 * k + 1 + 1) a fd e.ps _
    have sp4 : ∀ g, g < 1000 → spAt K cls L.tab L.tab2 k g = spOf K cls L.tab k g := fun g hg => by unfold spAt; rw [if_neg (by omega), if_neg (by omega), if_neg (by omega)]
    cases hi : e.ini with
    | true =>
      rw [hi] at o
      simp only [if_true, Bool.and_eq_true, decide_eq_true_eq] at o
      obtain ⟨⟨⟨of, o2⟩, o3⟩, o4⟩ := o
      have hG : L.tab 900 = some initF := by unfold Lst.tab; rw [← of, h]; simp only [Option.bind_some, FnE.at_, hi, if_true]
      have hse : spE K cls L.tab L.tab2 (k + 1) f e = spI K cls L.tab (k + 1) := by unfold spE spAt; rw [hi]; rfl
      rw [hse]
      refine h2.ok S (fun vs H Q E' q => ?_) (fun cdv A outer s H vs Q E' hr q => ?_)
      · obtain ⟨_, _, _, _, _, _, _, _, _, rfl, _⟩ := q
        rw [o2]
        rfl
      · exact ⟨_, pmss_st initB (fun _ => E') _ e.body (goodM base cdv A outer s H E' hr) o4, init_read hG (sp4 4 (by decide)) o3 q⟩
    | false =>
      rw [hi] at o
      simp only [Bool.false_eq_true, if_false, Bool.and_eq_true, decide_eq_true_eq] at o
      obtain ⟨of, o⟩ := o
      cases h2f : e.fn2 with
      | some b =>
        rw [h2f] at o
        simp only [Bool.and_eq_true, decide_eq_true_eq] at o
        obtain ⟨o2, o3⟩ := o
        have hkd : e.kind = 2 := by unfold FnE.kind; rw [hi, h2f]; rfl
        have hB : bandB K = true := F.band (List.any_eq_true.mpr ⟨_, mem_lookup h, by simp [hkd]⟩)
        have hC2 := calls2_of K cls L.tab L.tab2 hid hid2 hB k
        have hG2 : L.tab2 f = some ⟨e.ps.length, e.N.length, b⟩ := by unfold Lst.tab2 FnE.at2; rw [h]; simp only [Option.bind_some, hi, h2f, Bool.false_eq_true, if_false, Option.map_some]
        have hse : spE K cls L.tab L.tab2 (k + 1) f e = sp2Of K cls L.tab L.tab2 (k + 1) f := by
          unfold spE spAt
          rw [hi, hkd]
          simp only [Bool.false_eq_true, if_false]
          rw [if_neg (by omega), if_pos (by omega), show 1000 * 2 + f - 2000 = f by omega]
        rw [hse]
        have hlen : ∀ (M : List Addr) (P0 : Hp) (ws : List W) (S0 : Sto) (Q : VK) (E' : XK), Post2 K cls (rlW K) (fun _ => E') [] M P0 (run2 L.tab L.tab2 (k + 1) f ws S0) Q → ws.length = e.ps.length := fun M P0 ws S0 Q E' z => by
          rw [run2, hG2] at z
          simp only [ofO2_some, R2.bind_ok] at z
          by_cases hl : ws.length = e.ps.length
          · exact hl
          · rw [if_neg hl] at z; exact z.elim
        refine h2.ok S (fun vs H Q E' q => ?_) (fun cdv A outer s H vs Q E' hr q => ?_)
        · obtain ⟨M, S0, P0, ws, J, r, z⟩ := q
          rw [← r.length, hlen _ _ _ _ _ _ z]
        · obtain ⟨M, S0, P0, ws, J, r, z⟩ := q
          have hl := hlen _ _ _ _ _ _ z
          refine ⟨tOfMSs K cls (spAt K cls L.tab L.tab2 k) (fun _ => E') b, pmss_st b (fun _ => E') _ e.body (goodM base cdv A outer s H E' hr) o3, ?_⟩
          refine sss2_all hC2 F.exm b (fun _ => E') (start2 e.ps.length e.N.length ws) (start e.N vs) M S0 P0 H _ (start2_ok r hl) J ?_
          have er : run2 L.tab L.tab2 (k + 1) f ws S0 = outR2 (exs2 (run L.tab k) (run2 L.tab L.tab2 k) b (start2 e.ps.length e.N.length ws) S0) := by
            rw [run2, hG2]
            simp only [ofO2_some, R2.bind_ok]
            rw [if_pos hl]
          rw [er] at z
          cases hx : exs2 (run L.tab k) (run2 L.tab L.tab2 k) b (start2 e.ps.length e.N.length ws) S0 with
          | bad => rw [hx] at z; exact z
          | exc c S1 => rw [hx] at z; exact fun σ' M' P' H' x J' => z M' P' H' x J'
          | ok o S1 =>
            rw [hx] at z
            cases o with
            | nx env' => exact fun σ' M' P' H' x J' _ => z .non M' P' H' x J' .non
            | rt d => exact z
      | none =>
        rw [h2f] at o
        simp only at o
        cases hmm : e.memo with
        | some T =>
          rw [hmm] at o
          simp only [Bool.and_eq_true, decide_eq_true_eq] at o
          obtain ⟨⟨o2, o3⟩, o4⟩ := o
          have hkd : e.kind = 1 := by unfold FnE.kind; rw [hi, h2f, hmm]; rfl
          have hG : L.tab f = some ⟨2, 7, memoB f T⟩ := by unfold Lst.tab FnE.at_; rw [h]; simp only [Option.bind_some, hi, h2f, hmm, Bool.false_eq_true, if_false]
          have hse : spE K cls L.tab L.tab2 (k + 1) f e = spD K L.tab (k + 1) f := by
            unfold spE spAt
            rw [hi, hkd]
            simp only [Bool.false_eq_true, if_false]
            rw [if_neg (by omega), if_neg (by omega), if_pos (by omega), show 1000 * 1 + f - 1000 = f by omega]
          rw [hse]
          refine h2.ok S (fun vs H Q E' q => ?_) (fun cdv A outer s H vs Q E' hr q => ?_)
          · obtain ⟨_, _, _, _, _, _, _, _, _, rfl, _⟩ := q
            rw [o2]
            rfl
          · have hsp : spAt K cls L.tab L.tab2 k (1000 + f) = spD K L.tab k f := by unfold spAt; rw [if_neg (by omega), if_neg (by omega), if_pos (Nat.le_add_right _ _), Nat.add_sub_cancel_left]
            exact ⟨memoT K cls (spAt K cls L.tab L.tab2 k) (fun _ => E') f T, pss_memo (good base cdv A outer s H E' hr) o4, memo_read hC hsp hG o3 rfl q⟩
        | none =>
          rw [hmm] at o
          simp only [Bool.and_eq_true, decide_eq_true_eq] at o
          obtain ⟨⟨⟨o2, o3⟩, o4⟩, o5⟩ := o
          have hkd : e.kind = 0 := by unfold FnE.kind; rw [hi, h2f, hmm]; rfl
          have hG : L.tab f = some e.fn := by unfold Lst.tab FnE.at_; rw [h]; simp only [Option.bind_some, hi, h2f, hmm, Bool.false_eq_true, if_false]
          have hse : spE K cls L.tab L.tab2 (k + 1) f e = spOf K cls L.tab (k + 1) f := by
            unfold spE spAt
            rw [hi, hkd]
            simp only [Bool.false_eq_true, if_false]
            rw [if_neg (by omega), if_neg (by omega), if_neg (by omega), show 1000 * 0 + f = f by omega]
          have hlen : ∀ (P0 H : Hp) (ds : List D) (Q : VK) (E' : XK), PostR K cls P0 H (run L.tab (k + 1) f ds) Q E' → ds.length = e.fn.np := fun P0 H ds Q E' z => run_len hG fun q => by rw [q] at z; exact z
          rw [hse]
          refine h2.ok S (fun vs H Q E' q => ?_) (fun cdv A outer s H vs Q E' hr q => ?_)
          · obtain ⟨P0, ds, e1, r, z⟩ := q
            rw [← r.length, hlen P0 H ds Q E' z, o2]
          · obtain ⟨P0, ds, e1, r, z⟩ := q
            have hl := hlen P0 H ds Q E' z
            refine ⟨tOfSs K cls (spAt K cls L.tab L.tab2 k) (fun _ => E') e.fn.body, pss_all e.fn.body (fun _ => E') _ e.body (good base cdv A outer s H E' hr) o5, ?_⟩
            refine sss_all hC F.exm e.fn.body (fun _ => E') P0 H (startE e.fn.np e.fn.ns ds) (start e.N vs) P0 H _ (.refl e1) (by rw [o3]; exact start_ok e1 r hl) ?_
            have er : run L.tab (k + 1) f ds = outR (exs (run L.tab k) e.fn.body (startE e.fn.np e.fn.ns ds)) := by
              rw [run, hG]
              simp only [R.ofO_some, R.bind_ok]
              rw [if_pos hl]
            rw [er] at z
            cases hx : exs (run L.tab k) e.fn.body (startE e.fn.np e.fn.ns ds) with
            | bad => rw [hx] at z; exact z
            | exc c => rw [hx] at z; exact fun σ' P' H' x => z P' H' x
            | ok o =>
              rw [hx] at z
              cases o with
              | nx env' => exact fun σ' P' H' x _ _ => z .non P' H' x .non
              | rt d => exact z
end Cl
set_option Elab.async false
set_option linter.all false
set_option maxRecDepth 100000
set_option maxHeartbeats 4000000
namespace Cl
open PySem PySem.Spec PyProof.Rows L2 RZ
/-! ### from the head to the facts -/
def BindP (e : FnE) : Prop := ∀ (kV doc pm : Value) (an : Option Addr) (cdv ct : Value) (us : List Value), us.length = e.ps.length → bindArgs (W.fnOf e.name e.qual e.args e.body e.scope .none kV doc pm an cdv ct) ⟨us, []⟩ = pure (e.ps.zip us)
def FnE.dd (e : FnE) : He.DefD := ⟨if e.cl then ("Band", some e.name) else (e.name, none), e.name, e.qual, e.args, e.body, e.scope, [], []⟩
def Lst.dds (L : Lst) : List He.DefD := L.map fun p => p.2.dd
def cstFa (p : Str × Cst) : He.Fa := match p.2 with
  | .int i => .int p.1 i
  | .str z => .str p.1 z
  | _ => .free p.1
def cstOk (c : Cst) : Bool := match c with | .int _ => true | .str _ => true | _ => false
def FnE.fas (e : FnE) : List He.Fa := if e.cl then [.meth "Band" e.name, .cls "Band"] ++ (if e.ini then [.mkr "Band", .glo "Band"] else []) else [.glo e.name]
def Lst.fas (L : Lst) (cst : List (Str × Cst)) (exn : List (Nat × Str)) : List He.Fa :=
  L.flatMap (fun p => p.2.fas) ++ (bltNames.map He.Fa.free ++ (cst.map cstFa ++ exn.flatMap fun p => [He.Fa.glo p.2, He.Fa.exc p.2]))
theorem lookup_mem {α : Type} {l : List (Str × α)} {f : Str} {e : α} (h : l.lookup f = some e) : (f, e) ∈ l := by
  induction l with
  | nil => simp at h
  | cons p l ih =>
    obtain ⟨g, d⟩ := p
    rw [List.lookup_cons] at h
    cases hb : (f == g) with
    | true =>
      rw [hb] at h
      simp only [Option.some.injEq] at h
      subst h
      rw [beq_iff_eq.mp hb]
      exact List.mem_cons_self
    | false =>
      rw [hb] at h
      exact List.mem_cons_of_mem _ (ih h)
theorem says_fa {fa : List He.Fa} {fn : List He.DefD} {K : W.Frag} (c : He.SaysD fa fn K) {f : He.Fa} (h : f ∈ fa) : f.ok K = true := by
  obtain ⟨i, hi, q⟩ := List.mem_iff_getElem.mp h
  exact c.fact i (by rw [List.getElem?_eq_getElem hi, q])
theorem says_fn {fa : List He.Fa} {fn : List He.DefD} {K : W.Frag} (c : He.SaysD fa fn K) {d : He.DefD} (h : d ∈ fn) : ∃ fd, FunD K d.name d.qual d.params d.body d.scope (d.dvs K) (d.kws K) (He.fAd K d.at_) fd := by
  obtain ⟨i, hi, q⟩ := List.mem_iff_getElem.mp h
  exact c.def_ i (by rw [List.getElem?_eq_getElem hi, q])
/-! the exceptions' classes: what is asked of them beyond the head's own facts -/
def excCB (K : W.Frag) (a : Addr) : Bool :=
  decide (W.findIn K (.ref a) "__getattribute__" = some (some (.builtin "BaseException.__getattribute__"))) && (decide (W.findIn K (.ref a) "__getattr__" = some none) && (decide (W.subIn K (.ref a) (.type "BaseException") = some true) && (W.hasDictIn K a &&
  (decide (W.findIn K (.ref a) "__class__" = some (some (.builtin "object.__class__"))) && (decide (W.specialIn K (.builtin "object.__class__") "__get__" = some (some (.builtin "getset_descriptor.__get__"))) && (decide (W.takesIn K (.builtin "object.__class__") = some true) && decide (W.mroIn K a (.type "object") = some true)))))))
theorem excCB_ok {K : W.Frag} {a : Addr} (h : excCB K a = true) : ExcC K a := by
  unfold excCB at h
  simp only [Bool.and_eq_true, decide_eq_true_eq] at h
  obtain ⟨h1, h2, h3, h4, h5, h6, h7, h8⟩ := h
  exact ⟨h1, h2, h3, h4, h5, h6, h7, h8⟩
def nm0 (exn : List (Nat × Str)) : Str := (exn.lookup 0).getD Str.empty
def exNm (exn : List (Nat × Str)) (c : Nat) : Str := (exn.lookup c).getD (nm0 exn)
def xB (exn : List (Nat × Str)) (K : W.Frag) : Bool := exn.all fun p => excCB K (He.ga K p.2) && (decide (W.exmOne K (.ref (He.ga K p.2)) (.ref (He.ga K (nm0 exn))) = some true) && exn.all fun q => decide (W.kitOne K (.ref (He.ga K p.2)) (.ref (He.ga K q.2)) = some (subc p.1 q.1)))
def Lst.has2 (L : Lst) : Bool := L.any fun p => p.2.kind == 2 || p.2.kind == 3
def xB2 (L : Lst) (exn : List (Nat × Str)) (K : W.Frag) : Bool := xB exn K && (!L.has2 || bandB K)
/-- __init__ is a method of that name -/
def Lst.iniB (L : Lst) : Bool := L.all fun p => !p.2.ini || (p.2.cl && decide (p.2.name = "__init__"))
def hookE (n : Nat) (fa : List He.Fa) (fn : List He.DefD) (ex : W.Frag → Bool) : W.Hook where
  α := He.AlD × Bool
  obs := fun s => (He.obsDG n fa fn s.heap.get?, ex (He.frG s.heap.get? (He.asD s.heap.get? n)))
  val := fun _ => (He.valD fn, true)
  says := fun _ h => ∃ K : W.Frag, K.In h ∧ He.SaysD fa fn K ∧ ex K = true
  of := fun _ _ e => ⟨_, He.frG_in, congrArg Prod.fst e, congrArg Prod.snd e⟩
  keeps := fun _ _ _ ⟨K, hK, c⟩ k => ⟨K, W.Frag.In.keeps hK k, c⟩
def obE (n : Nat) (fa : List He.Fa) (fn : List He.DefD) (ex : W.Frag → Bool) (g : Addr → Option Obj) : He.AlD × Bool := (He.obsDG n fa fn g, ex (He.frG g (He.asD g n)))
theorem obE_eq {n : Nat} {fa : List He.Fa} {fn : List He.DefD} {ex : W.Frag → Bool} {g : Addr → Option Obj} {s : Shared} (h : ∀ a, g a = s.heap.get? a) : obE n fa fn ex g = (hookE n fa fn ex).obs s := by
  have e : g = s.heap.get? := funext h
  rw [e]
  rfl
def clsOf (K : W.Frag) (exn : List (Nat × Str)) (c : Nat) : Value := .ref (He.ga K (exNm exn c))
theorem exNm_of {exn : List (Nat × Str)} {c : Nat} {x : Str} (h : exn.lookup c = some x) : exNm exn c = x := by
  unfold exNm
  rw [h]
  rfl
theorem exNm_mem {exn : List (Nat × Str)} (h0 : (exn.lookup 0).isSome = true) (c : Nat) : ∃ c', (c', exNm exn c) ∈ exn ∧ (∀ b x, exn.lookup b = some x → subc c' b = subc c b) := by
  cases h : exn.lookup c with
  | some x => exact ⟨c, by rw [exNm_of h]; exact mem_lookup h, fun _ _ _ => rfl⟩
  | none =>
    obtain ⟨x, hx⟩ := Option.isSome_iff_exists.mp h0
    refine ⟨0, ?_, fun b y hb => ?_⟩
    · have : exNm exn c = x := by unfold exNm nm0; rw [h, hx]; rfl
      rw [this]
      exact mem_lookup hx
    · have hcb : c ≠ b := fun e => by rw [e, hb] at h; cases h
      unfold subc
      simp only [decide_eq_false hcb, Bool.false_or]
      by_cases hb0 : b = 0
      · subst hb0; rfl
      · simp [hb0, Ne.symm hb0]
theorem xB_ok {exn : List (Nat × Str)} {K : W.Frag} (h0 : (exn.lookup 0).isSome = true) (h : xB exn K = true) : (∀ c, ∃ a, clsOf K exn c = .ref a ∧ ExcC K a ∧ ∀ b x, exn.lookup b = some x → W.kitOne K (.ref a) (clsOf K exn b) = some (subc c b)) ∧ ∀ c, W.exmOne K (clsOf K exn c) (clsOf K exn 0) = some true := by
  unfold xB at h
  have key : ∀ p ∈ exn, ExcC K (He.ga K p.2) ∧ W.exmOne K (.ref (He.ga K p.2)) (.ref (He.ga K (nm0 exn))) = some true ∧ ∀ q ∈ exn, W.kitOne K (.ref (He.ga K p.2)) (.ref (He.ga K q.2)) = some (subc p.1 q.1) := fun p hp => by
    have := List.all_eq_true.mp h p hp
    simp only [Bool.and_eq_true, decide_eq_true_eq, List.all_eq_true] at this
    exact ⟨excCB_ok this.1, this.2.1, this.2.2⟩
  refine ⟨fun c => ?_, fun c => ?_⟩
  · obtain ⟨c', m, hs⟩ := exNm_mem h0 c
    obtain ⟨k1, k2, k3⟩ := key _ m
    refine ⟨_, rfl, k1, fun b x hb => ?_⟩
    have := k3 _ (mem_lookup hb)
    unfold clsOf
    rw [exNm_of hb]
    rw [this]
    exact congrArg some (hs b x hb)
  · obtain ⟨c', m, hs⟩ := exNm_mem h0 c
    obtain ⟨k1, k2, k3⟩ := key _ m
    have e0 : exNm exn 0 = nm0 exn := by
      obtain ⟨x, hx⟩ := Option.isSome_iff_exists.mp h0
      unfold exNm nm0
      rw [hx]
      rfl
    unfold clsOf
    rw [e0]
    exact k2
theorem facts_of {L : Lst} {cst : List (Str × Cst)} {exn : List (Nat × Str)} {K : W.Frag} {h : Heap} {mg : Str → Option Value} (h0 : (exn.lookup 0).isSome = true) (hx2 : xB2 L exn K = true) (hini : L.iniB = true) (hc : (cst.all fun p => cstOk p.2) = true) (hb : ∀ p ∈ L, BindP p.2) (X : K.In h) (G : h.Ns mainGlobals mg) (c : He.SaysD (L.fas cst exn) L.dds K) : Facts L cst exn (clsOf K exn) K mg := by
  unfold xB2 at hx2
  simp only [Bool.and_eq_true, Bool.or_eq_true, Bool.not_eq_true'] at hx2
  obtain ⟨hx, hbb⟩ := hx2
  refine ⟨fun x hx => He.free_ok X G (says_fa c ?_), fun f e hl => ?_, fun h2 => ?_, fun x d hl => ?_, (xB_ok h0 hx).1, (xB_ok h0 hx).2, fun i x hl => ?_⟩
  · unfold Lst.fas
    simp only [List.mem_append, List.mem_map]
    exact .inr (.inl ⟨x, hx, rfl⟩)
  · have hm := mem_lookup hl
    obtain ⟨fd, F⟩ := says_fn c (d := e.dd) (by unfold Lst.dds; exact List.mem_map.mpr ⟨_, hm, rfl⟩)
    have hfa : ∀ q ∈ e.fas, q.ok K = true := fun q hq => says_fa c (by
      unfold Lst.fas
      simp only [List.mem_append, List.mem_flatMap]
      exact .inl ⟨_, hm, hq⟩)
    have hi := List.all_eq_true.mp hini _ hm
    simp only [Bool.or_eq_true, Bool.not_eq_true', Bool.and_eq_true, decide_eq_true_eq] at hi
    refine ⟨_, fd, ?_, F, FunD.bindsN F (hb _ hm)⟩
    unfold AtK
    cases hcl : e.cl with
    | true =>
      simp only [if_true]
      unfold FnE.fas at hfa
      rw [hcl] at hfa
      simp only [if_true] at hfa
      have ea : He.fAd K e.dd.at_ = He.ma K (He.ga K "Band") e.name := by unfold FnE.dd; rw [hcl]; rfl
      rw [ea]
      refine ⟨He.cls_ok (hfa (.cls "Band") (by simp)), He.meth_ok (hfa (.meth "Band" e.name) (by simp)), fun hi1 => ?_⟩
      rw [hi1] at hfa hi
      have hn : e.name = "__init__" := by simp only [Bool.true_eq_false, false_or] at hi; exact hi.2
      rw [hn] at *
      exact ⟨He.mkr_ok (hfa (.mkr "Band") (by simp)), He.glo_ok X G (hfa (.glo "Band") (by simp))⟩
    | false =>
      simp only [Bool.false_eq_true, if_false]
      unfold FnE.fas at hfa
      rw [hcl] at hfa hi
      have ea : He.fAd K e.dd.at_ = He.ga K e.name := by unfold FnE.dd; rw [hcl]; rfl
      rw [ea]
      exact ⟨He.glo_ok X G (hfa (.glo e.name) (by simp)), by simpa using hi⟩
  · rcases hbb with z | z
    · unfold Lst.has2 at z; rw [h2] at z; cases z
    · exact z
  · have hm := lookup_mem hl
    have hk := List.all_eq_true.mp hc _ hm
    have hf := says_fa c (f := cstFa (x, d)) (by
      unfold Lst.fas
      simp only [List.mem_append, List.mem_map]
      exact .inr (.inr (.inl ⟨_, hm, rfl⟩)))
    cases d with
    | int i =>
      obtain ⟨t, q⟩ := He.int_ok X G hf
      exact ⟨_, q, t, rfl⟩
    | str z =>
      obtain ⟨t, q⟩ := He.str_ok X G hf
      exact ⟨_, q, t, rfl⟩
    | non => cases hk
    | bl b => cases hk
  · have hm := mem_lookup hl
    have m1 : ∀ f ∈ [He.Fa.glo x, He.Fa.exc x], f ∈ L.fas cst exn := fun f hf => by
      unfold Lst.fas
      simp only [List.mem_append, List.mem_flatMap]
      exact .inr (.inr (.inr ⟨_, hm, hf⟩))
    have g := He.glo_ok X G (x := x) (says_fa c (m1 _ (by simp)))
    obtain ⟨k1, k2, k3, k4⟩ := He.exc_ok (says_fa c (m1 (.exc x) (by simp)))
    refine ⟨He.ga K x, ?_, g, k1, k2, k3, k4⟩
    unfold clsOf
    rw [exNm_of hl]
theorem look_bind {α β : Type} (L : List (Nat × α)) (g : Nat → α → Option β) (f : Nat) (hn : (L.map Prod.fst).Nodup) : (L.lookup f).bind (g f) = (L.filterMap fun p => (g p.1 p.2).map fun b => (p.1, b)).lookup f := by
  induction L with
  | nil => rfl
  | cons p l ih =>
    obtain ⟨i, a⟩ := p
    simp only [List.map_cons, List.nodup_cons] at hn
    have key : ∀ (b : Nat), b ∉ l.map Prod.fst → (l.filterMap fun p => (g p.1 p.2).map fun b => (p.1, b)).lookup b = none := fun b hb => by
      rw [List.lookup_eq_none_iff]
      intro q hq
      obtain ⟨r, hr, e⟩ := List.mem_filterMap.mp hq
      obtain ⟨y, hy, rfl⟩ := Option.map_eq_some_iff.mp e
      simp only [beq_eq_false_iff_ne, ne_eq, bne_iff_ne]
      exact fun z => hb (z ▸ List.mem_map_of_mem hr)
    simp only [List.lookup_cons, List.filterMap_cons]
    cases hb : (f == i) with
    | true =>
      have : f = i := beq_iff_eq.mp hb
      subst this
      simp only [Option.bind_some]
      cases hg : g f a with
      | none => simp only [Option.map_none]; rw [key f hn.1]
      | some y => simp [List.lookup_cons]
    | false =>
      cases hg : g i a with
      | none => simp only [Option.map_none]; exact ih hn.2
      | some y => simp only [Option.map_some, List.lookup_cons, hb]; exact ih hn.2
theorem tab_map (L : Lst) (hn : (L.map Prod.fst).Nodup) (f : Nat) : L.tab f = (L.filterMap fun p => (p.2.at_ p.1).map fun b => (p.1, b)).lookup f := look_bind L (fun f e => e.at_ f) f hn
theorem tab2_map (L : Lst) (hn : (L.map Prod.fst).Nodup) (f : Nat) : L.tab2 f = (L.filterMap fun p => p.2.at2.map fun b => (p.1, b)).lookup f := look_bind L (fun _ e => e.at2) f hn
/-! ### the law's end -/
theorem end_any {l : W.OpenLaw} {n k : Nat} {q : Program} {loose : List Str} {XP : (Str → Option Value) → Heap → Prop} {d : DefRec} {L : Lst} {cst : List (Str × Cst)} {exn : List (Nat × Str)} {f : Nat} {e : FnE} {x : Str} {wd : Nat}
    (h0 : (exn.lookup 0).isSome = true) (hini : L.iniB = true) (hn : l.most = some n) (hn2 : n ≤ sizeLine) (hdf : d.params.defaults = []) (hr : Room (2 * k) callerA)
    (hc : (cst.all fun p => cstOk p.2) = true) (hb : ∀ p ∈ L, BindP p.2) (ok : ∀ p ∈ L, okF (ctxOf L cst exn) p.1 p.2 = true) (hl : L.lookup f = some e) (hcl : e.cl = false) (hps : e.ps = [x]) (hd : d.name = e.name)
    (main : ∀ (K : W.Frag) (ns : List Int) (H : Hp) (a : Addr), ns.length ≤ n → SqL K H a (ns.map V.int) → spE K (clsOf K exn) L.tab L.tab2 k f e [.ref a] H (fun v _ => v = .bl true) fun _ _ _ => False) :
    W.WalkO q loose XP (fun w h => (hookE wd (L.fas cst exn) L.dds (xB2 L exn)).says w h) l.row.toRowW d [] (fun f vs => PySem.call f vs) := by
  refine Att.attach_call hn hdf fun w s₀ s₁ mg mb fa o pm cd doc a vs ns G Y ho hd' hcd hmg hobj hints hlen hg => ?_
  obtain ⟨K, KX, c, hxb⟩ := Y
  have Fx := facts_of h0 hxb hini hc hb KX G.T.g c
  obtain ⟨b, fd, g1, kp, ok1, bi, F⟩ := fn_all (P := l.prog) (w := w) Fx ok k f e hl
  unfold AtK at g1
  rw [hcl] at g1
  simp only [Bool.false_eq_true, if_false] at g1
  have A := hb _ (mem_lookup hl)
  have B : ∀ (s : Shared) (u : Value), BindsTo s fd ⟨[u], []⟩ [(x, u)] := fun s u => by
    have := FunD.bindsA (ps := e.ps) F A s [u] (by rw [hps]; rfl)
    rw [hps] at this
    exact this
  have e1 : fa = b := by
    rw [hd] at hmg
    have := hmg.symm.trans g1.1
    simpa using this
  subst e1
  rw [hps] at ok1
  refine law_call KX G.T.g G.T.b G.T.builtins G.T.nolimit hg hobj hints (Nat.le_trans hlen hn2) hr (fun base _ _ => ok1 base) B (fun H hO hS => ?_) (fun H e s' h => ?_)
  · exact main K ns H _ hlen hS
  · obtain ⟨_, _, _, _, _, _, _, _, _, _, _, _, z⟩ := h
    exact z
theorem end_of {l : W.OpenLaw} {n k : Nat} {q : Program} {loose : List Str} {XP : (Str → Option Value) → Heap → Prop} {d : DefRec} {L : Lst} {cst : List (Str × Cst)} {exn : List (Nat × Str)} {f : Nat} {e : FnE} {x : Str} {wd : Nat}
    (h0 : (exn.lookup 0).isSome = true) (hini : L.iniB = true) (hn : l.most = some n) (hn2 : n ≤ sizeLine) (hdf : d.params.defaults = []) (hr : Room (2 * k) callerA)
    (hc : (cst.all fun p => cstOk p.2) = true) (hb : ∀ p ∈ L, BindP p.2) (ok : ∀ p ∈ L, okF (ctxOf L cst exn) p.1 p.2 = true) (hl : L.lookup f = some e) (hcl : e.cl = false) (hk : e.kind = 0) (hf : f < 1000) (hps : e.ps = [x]) (hd : d.name = e.name)
    (main : ∀ ns : List Int, ns.length ≤ n → run L.tab k f [.scr ns] = .ok (.bl true)) :
    W.WalkO q loose XP (fun w h => (hookE wd (L.fas cst exn) L.dds (xB2 L exn)).says w h) l.row.toRowW d [] (fun f vs => PySem.call f vs) := by
  refine end_any h0 hini hn hn2 hdf hr hc hb ok hl hcl hps hd fun K ns H a hlen hS => ?_
  have hi : e.ini = false := by cases h : e.ini with | false => rfl | true => rw [kind3.mp h] at hk; cases hk
  unfold spE spAt
  rw [hi, hk]
  simp only [Bool.false_eq_true, if_false]
  rw [if_neg (by omega), if_neg (by omega), if_neg (by omega), show 1000 * 0 + f = f by omega]
  refine ⟨H, [.scr ns], fun _ _ h => h, .cons (.scr hS) .nil, ?_⟩
  rw [main ns hlen]
  intro v P' H' _ r
  cases r
  rfl
theorem end2_of {l : W.OpenLaw} {n k : Nat} {q : Program} {loose : List Str} {XP : (Str → Option Value) → Heap → Prop} {d : DefRec} {L : Lst} {cst : List (Str × Cst)} {exn : List (Nat × Str)} {f : Nat} {e : FnE} {x : Str} {wd : Nat}
    (h0 : (exn.lookup 0).isSome = true) (hini : L.iniB = true) (hn : l.most = some n) (hn2 : n ≤ sizeLine) (hdf : d.params.defaults = []) (hr : Room (2 * k) callerA)
    (hc : (cst.all fun p => cstOk p.2) = true) (hb : ∀ p ∈ L, BindP p.2) (ok : ∀ p ∈ L, okF (ctxOf L cst exn) p.1 p.2 = true) (hl : L.lookup f = some e) (hcl : e.cl = false) (hk : e.kind = 2) (hf : f < 1000) (hps : e.ps = [x]) (hd : d.name = e.name)
    (main : ∀ ns : List Int, ns.length ≤ n → ∃ S, run2 L.tab L.tab2 k f [.d (.scr ns)] [] = .ok (.d (.bl true)) S) :
    W.WalkO q loose XP (fun w h => (hookE wd (L.fas cst exn) L.dds (xB2 L exn)).says w h) l.row.toRowW d [] (fun f vs => PySem.call f vs) := by
  refine end_any h0 hini hn hn2 hdf hr hc hb ok hl hcl hps hd fun K ns H a hlen hS => ?_
  have hi : e.ini = false := by cases h : e.ini with | false => rfl | true => rw [kind3.mp h] at hk; cases hk
  unfold spE spAt
  rw [hi, hk]
  simp only [Bool.false_eq_true, if_false]
  rw [if_neg (by omega), if_pos (by omega), show 1000 * 2 + f - 2000 = f by omega]
  refine ⟨[], [], H, [.d (.scr ns)], ⟨fun _ _ h => h, rfl, .nil, fun n o a h => by simp at h⟩, .cons (.scr hS) .nil, ?_⟩
  obtain ⟨S, hm⟩ := main ns hlen
  rw [hm]
  intro v M' P' H' _ _ r
  cases r
  rfl
end Cl
set_option Elab.async false
set_option linter.all false
set_option maxRecDepth 100000
set_option maxHeartbeats 1000000
namespace Cl
open PySem

/-! ### rising lists, sets of beats -/
def up : List Int → Bool
  | [] => true
  | [_] => true
  | x :: y :: r => decide (x < y) && up (y :: r)
theorem up_pw : ∀ {l : List Int}, up l = true ↔ l.Pairwise (· < ·)
  | [] => by simp [up]
  | [x] => by simp [up]
  | x :: y :: r => by
    rw [up, Bool.and_eq_true, up_pw (l := y :: r), decide_eq_true_eq, List.pairwise_cons (a := x)]
    constructor
    · rintro ⟨h1, h2⟩
      refine ⟨fun z hz => ?_, h2⟩
      rcases List.mem_cons.mp hz with rfl | hz
      · exact h1
      · have := (List.pairwise_cons.mp h2).1 z hz
        omega
    · rintro ⟨h1, h2⟩
      exact ⟨h1 y List.mem_cons_self, h2⟩
theorem pw_ext : ∀ {l m : List Int}, l.Pairwise (· < ·) → m.Pairwise (· < ·) → (∀ x, x ∈ l ↔ x ∈ m) → l = m
  | [], [], _, _, _ => rfl
  | [], y :: m, _, _, h => by have := (h y).mpr List.mem_cons_self; cases this
  | x :: l, [], _, _, h => by have := (h x).mp List.mem_cons_self; cases this
  | x :: l, y :: m, h1, h2, h => by
    obtain ⟨a1, a2⟩ := List.pairwise_cons.mp h1
    obtain ⟨b1, b2⟩ := List.pairwise_cons.mp h2
    have e : x = y := by
      rcases List.mem_cons.mp ((h x).mp List.mem_cons_self) with e | e
      · exact e
      · rcases List.mem_cons.mp ((h y).mpr List.mem_cons_self) with e' | e'
        · exact e'.symm
        · have := b1 x e; have := a1 y e'; omega
    subst e
    congr 1
    refine pw_ext a2 b2 fun z => ?_
    constructor
    · intro hz
      rcases List.mem_cons.mp ((h z).mp (List.mem_cons_of_mem _ hz)) with e | e
      · have := a1 z hz; omega
      · exact e
    · intro hz
      rcases List.mem_cons.mp ((h z).mpr (List.mem_cons_of_mem _ hz)) with e | e
      · have := b1 z hz; omega
      · exact e
theorem rgI_pw (a b : Int) : (rgI a b).Pairwise (· < ·) := by
  unfold rgI
  rw [List.pairwise_map]
  refine List.Pairwise.imp ?_ List.pairwise_lt_range
  intro x y h
  omega
theorem flt_pw (a b : Int) (p : Int → Bool) : ((rgI a b).filter p).Pairwise (· < ·) := (rgI_pw a b).filter p
def setOk (n : Int) (l : List Int) : Bool := !l.isEmpty && (l.all (fun i => decide (0 ≤ i) && decide (i ≤ n - 1)) && up l)
/-- l is a set of beats of the cycle n -/
structure IsSet (n : Int) (l : List Int) : Prop where
  ne : l ≠ []
  lo : ∀ x ∈ l, 0 ≤ x
  hi : ∀ x ∈ l, x < n
  pw : l.Pairwise (· < ·)
theorem setOk_iff {n : Int} {l : List Int} : setOk n l = true ↔ IsSet n l := by
  unfold setOk
  simp only [Bool.and_eq_true, Bool.not_eq_true', List.isEmpty_eq_false_iff, List.all_eq_true, decide_eq_true_eq, up_pw]
  constructor
  · rintro ⟨h1, h2, h3⟩
    exact ⟨h1, fun x hx => (h2 x hx).1, fun x hx => by have := (h2 x hx).2; omega, h3⟩
  · rintro ⟨h1, h2, h3, h4⟩
    exact ⟨h1, fun x hx => ⟨h2 x hx, by have := h3 x hx; omega⟩, h4⟩
theorem IsSet.pos {n : Int} {l : List Int} (h : IsSet n l) : 0 < n := by
  obtain ⟨x, hx⟩ := List.exists_mem_of_ne_nil _ h.ne
  have := h.lo x hx; have := h.hi x hx; omega
theorem IsSet.len {n : Int} {l : List Int} (h : IsSet n l) : (l.length : Int) ≤ n := by
  have e : l = (rgI 0 n).filter (fun x => decide (x ∈ l)) := pw_ext h.pw (flt_pw _ _ _) fun x => by
    simp only [List.mem_filter, mem_rgI, decide_eq_true_eq]
    exact ⟨fun hx => ⟨⟨h.lo x hx, h.hi x hx⟩, hx⟩, fun hx => hx.2⟩
  have k : l.length ≤ (rgI 0 n).length := by rw [e]; exact List.length_filter_le _ _
  rw [length_rgI] at k
  have := h.pos
  omega
theorem IsSet.ext {n : Int} {l m : List Int} (h : IsSet n l) (k : IsSet n m) (e : ∀ x, 0 ≤ x → x < n → (x ∈ l ↔ x ∈ m)) : l = m := pw_ext h.pw k.pw fun x => ⟨fun hx => (e x (h.lo x hx) (h.hi x hx)).mp hx, fun hx => (e x (k.lo x hx) (k.hi x hx)).mpr hx⟩
theorem IsSet.nd {n : Int} {l : List Int} (h : IsSet n l) : l.Nodup := h.pw.imp fun h => by omega
/-! ### moving -/
def mv (n : Int) (l : List Int) (m : Int) : List Int := (rgI 0 n).filter fun b => decide ((b - m) % n ∈ l)
theorem mem_mv {n : Int} {l : List Int} {m x : Int} : x ∈ mv n l m ↔ (0 ≤ x ∧ x < n) ∧ (x - m) % n ∈ l := by simp [mv, mem_rgI]
theorem mv_pw (n : Int) (l : List Int) (m : Int) : (mv n l m).Pairwise (· < ·) := flt_pw _ _ _
theorem mv_add {n : Int} (h : 0 < n) (l : List Int) (a b : Int) : mv n (mv n l a) b = mv n l (a + b) := by
  refine pw_ext (mv_pw _ _ _) (mv_pw _ _ _) fun x => ?_
  simp only [mem_mv]
  have e : ((x - b) % n - a) % n = (x - (a + b)) % n := by
    rw [Int.emod_sub_emod]
    congr 1; omega
  rw [e]
  exact ⟨fun ⟨h1, _, h2⟩ => ⟨h1, h2⟩, fun ⟨h1, h2⟩ => ⟨h1, ⟨Int.emod_nonneg _ (by omega), Int.emod_lt_of_pos _ h⟩, h2⟩⟩
theorem mv_mod {n : Int} (l : List Int) (a : Int) : mv n l (a % n) = mv n l a := by
  refine pw_ext (mv_pw _ _ _) (mv_pw _ _ _) fun x => ?_
  simp only [mem_mv, Int.sub_emod_emod]
theorem IsSet.mv0 {n : Int} {l : List Int} (h : IsSet n l) : mv n l 0 = l := by
  refine pw_ext (mv_pw _ _ _) h.pw fun x => ?_
  simp only [mem_mv, Int.sub_zero]
  constructor
  · rintro ⟨⟨h1, h2⟩, h3⟩
    rwa [Int.emod_eq_of_lt h1 h2] at h3
  · intro hx
    refine ⟨⟨h.lo x hx, h.hi x hx⟩, ?_⟩
    rwa [Int.emod_eq_of_lt (h.lo x hx) (h.hi x hx)]
theorem IsSet.mvn {n : Int} {l : List Int} (h : IsSet n l) : mv n l n = l := by
  rw [← mv_mod, Int.emod_self, h.mv0]
theorem IsSet.mv {n : Int} {l : List Int} (h : IsSet n l) (m : Int) : IsSet n (mv n l m) := by
  have hp := h.pos
  obtain ⟨x, hx⟩ := List.exists_mem_of_ne_nil _ h.ne
  refine ⟨List.ne_nil_of_mem (a := (x + m) % n) (mem_mv.mpr ⟨⟨Int.emod_nonneg _ (by omega), Int.emod_lt_of_pos _ hp⟩, ?_⟩), fun x hx => (mem_mv.mp hx).1.1, fun x hx => (mem_mv.mp hx).1.2, mv_pw _ _ _⟩
  rw [Int.emod_sub_emod]
  have e : x + m - m = x := by omega
  rw [e, Int.emod_eq_of_lt (h.lo x hx) (h.hi x hx)]
  exact hx
/-! ### sorting whole numbers -/
def srt (l : List Int) : List Int := isort (fun a b => decide (a ≤ b)) l
theorem srt_pw (l : List Int) : (srt l).Pairwise (· ≤ ·) := (isort_sorted (le := fun a b : Int => decide (a ≤ b)) (fun a b c h1 h2 => by simp at *; omega) (fun a b => by simp; omega)).imp fun h => by simpa using h
theorem mem_srt {x : Int} {l : List Int} : x ∈ srt l ↔ x ∈ l := isort_mem
theorem srt_perm (l : List Int) : (srt l).Perm l := isort_perm
theorem srt_lt {l : List Int} (h : l.Nodup) : (srt l).Pairwise (· < ·) := by
  have h1 := srt_pw l
  have h2 : (srt l).Nodup := (srt_perm l).nodup_iff.mpr h
  have h3 := h1.and h2
  exact h3.imp fun ⟨a, b⟩ => by omega
theorem IsSet.srt_mv {n : Int} {l : List Int} (h : IsSet n l) (m : Int) : srt (l.map fun b => (b + m) % n) = Cl.mv n l m := by
  have hp := h.pos
  have inj : ∀ x ∈ l, ((x + m) % n - m) % n = x := fun x hx => by
    rw [Int.emod_sub_emod]
    have e : x + m - m = x := by omega
    rw [e, Int.emod_eq_of_lt (h.lo x hx) (h.hi x hx)]
  refine pw_ext (srt_lt ?_) (mv_pw _ _ _) fun x => ?_
  · rw [List.nodup_iff_pairwise_ne, List.pairwise_map]
    refine h.nd.imp_of_mem fun {a b} ha hb hab e => hab ?_
    rw [← inj a ha, ← inj b hb, e]
  · rw [mem_srt, List.mem_map, mem_mv]
    constructor
    · rintro ⟨b, hb, rfl⟩
      exact ⟨⟨Int.emod_nonneg _ (by omega), Int.emod_lt_of_pos _ hp⟩, by rw [inj b hb]; exact hb⟩
    · rintro ⟨⟨h1, h2⟩, h3⟩
      refine ⟨_, h3, ?_⟩
      rw [Int.emod_add_emod]
      have e : x - m + m = x := by omega
      rw [e, Int.emod_eq_of_lt h1 h2]
theorem ins_map {α : Type} {le : α → α → Bool} {le' : D → D → Bool} {f : α → D} (h : ∀ a b, le' (f a) (f b) = le a b) (x : α) : ∀ l : List α, ins le' (f x) (l.map f) = (ins le x l).map f
  | [] => rfl
  | y :: l => by
    simp only [List.map_cons, ins, h]
    split
    · rfl
    · simp [ins_map h x l]
theorem isort_map {α : Type} {le : α → α → Bool} {le' : D → D → Bool} {f : α → D} (h : ∀ a b, le' (f a) (f b) = le a b) : ∀ l : List α, isort le' (l.map f) = (isort le l).map f
  | [] => rfl
  | y :: l => by simp only [List.map_cons, isort, isort_map h l, ins_map h]
theorem dle_int (a b : Int) : dle (.int a) (.int b) = decide (a ≤ b) := by
  simp only [dle, D.pd, W.dataLt_int]
  by_cases h : a ≤ b <;> simp [h] <;> omega
theorem okSort_int (l : List Int) : okSort (l.map D.int) = true := by
  unfold okSort
  simp [D.pd, W.alike, PyData.depth]
theorem bi_sorted (l : List Int) (h : l.length ≤ lim) : biF .sorted [.lst (l.map D.int)] = some (.lst ((srt l).map D.int)) := by
  have := isort_map (f := D.int) dle_int l
  simp only [biF, okSort_int, List.length_map, Bool.true_and, decide_eq_true_eq, h, if_true, this]
  rfl
theorem atI_nat {α : Type} {xs : List α} {i : Int} {d : α} (h0 : 0 ≤ i) (h : xs[i.toNat]? = some d) : L2.atI xs i = some d := by
  have hl := (List.getElem?_eq_some_iff.mp h).1
  unfold L2.atI L2.ixN
  rw [if_pos h0, if_pos (by omega)]
  exact h
theorem atI_zero {α : Type} {x : α} {xs : List α} : L2.atI (x :: xs) 0 = some x := atI_nat (Int.le_refl 0) rfl
theorem idx_lst {xs : List D} {i : Int} {d : D} (h0 : 0 ≤ i) (h : xs[i.toNat]? = some d) : idxF (.lst xs) (.int i) = some d := atI_nat h0 h
theorem idx_tup {xs : List D} {i : Int} {d : D} (h0 : 0 ≤ i) (h : xs[i.toNat]? = some d) : idxF (.tup xs) (.int i) = some d := atI_nat h0 h
@[simp] theorem idx_lst0 {x : D} {xs : List D} : idxF (.lst (x :: xs)) (.int 0) = some x := atI_zero
@[simp] theorem idx_tup0 {x : D} {xs : List D} : idxF (.tup (x :: xs)) (.int 0) = some x := atI_zero
/-! ### the least of some tuples -/
def tI (l : List Int) : D := .tup (l.map D.int)
@[simp] theorem fold_tI (l : List Int) : D.tup (l.map D.int) = tI l := rfl
@[simp] theorem ok_t (l : List Int) : (tI l).okD = true := ok_tI l
@[simp] theorem ok_lt (l : List (List Int)) : (D.lst (l.map tI)).okD = true := ok_lT l
@[simp] theorem eq_t (l m : List Int) : deq (tI l) (tI m) = decide (l = m) := eq_tI l m
@[simp] theorem eq_t0 (l : List Int) : deq (tI l) (.tup []) = decide (l = []) := eq_tI_nil l
@[simp] theorem eq_lt (l m : List (List Int)) : deq (.lst (l.map tI)) (.lst (m.map tI)) = decide (l = m) := eq_lT l m
@[simp] theorem eq_lt0 (l : List (List Int)) : deq (.lst (l.map tI)) (.lst []) = decide (l = []) := eq_lT_nil l
@[simp] theorem any_t (l : List (List Int)) (a : List Int) : ((l.map tI).any fun z => deq z (tI a)) = decide (a ∈ l) := any_tI l a
@[simp] theorem tupD_t (l : List Int) : tupD (tI l) = .ok (l.map D.int) := rfl
@[simp] theorem len_t (l : List Int) : biF .len [tI l] = some (.int l.length) := by
  show some (D.int ((l.map D.int).length : Nat)) = _
  rw [List.length_map]
@[simp] theorem in_t (l : List Int) (a : Int) : copF .isin (.int a) (tI l) = some (decide (a ∈ l)) := by
  unfold tI
  rw [c_inT (ok_int a) (ok_tI l), any_int]
@[simp] theorem nin_t (l : List Int) (a : Int) : copF .notin (.int a) (tI l) = some (!decide (a ∈ l)) := by
  unfold tI
  rw [c_ninT (ok_int a) (ok_tI l), any_int]
@[simp] theorem in_lI (l : List Int) (a : Int) : copF .isin (.int a) (.lst (l.map D.int)) = some (decide (a ∈ l)) := by rw [c_inL (ok_int a) (ok_lI l), any_int]
@[simp] theorem nin_lI (l : List Int) (a : Int) : copF .notin (.int a) (.lst (l.map D.int)) = some (!decide (a ∈ l)) := by rw [c_ninL (ok_int a) (ok_lI l), any_int]
@[simp] theorem in_lt (l : List (List Int)) (a : List Int) : copF .isin (tI a) (.lst (l.map tI)) = some (decide (a ∈ l)) := by rw [c_inL (ok_t a) (ok_lt l), any_t]
@[simp] theorem nin_lt (l : List (List Int)) (a : List Int) : copF .notin (tI a) (.lst (l.map tI)) = some (!decide (a ∈ l)) := by rw [c_ninL (ok_t a) (ok_lt l), any_t]
@[simp] theorem eq_L00 : deq (.lst []) (.lst []) = true := eq_lI_nil []
@[simp] theorem eq_T00 : deq (.tup []) (.tup []) = true := eq_tI_nil []
@[simp] theorem isi_t (l : List Int) : isiF .tuple (tI l) = true := rfl
@[simp] theorem ints_t (l : List Int) : ints? (l.map D.int) = some l := ints?_map l
theorem pd_tI (l : List Int) : (tI l).pd = .tuple (l.map PyData.int) := by
  unfold tI
  rw [D.pd, pds_map, List.map_map]
  congr 1
theorem lt_tI (a b : List Int) : W.dataLt (tI a).pd (tI b).pd = decide (a < b) := by
  rw [pd_tI, pd_tI, W.dataLt_tuple]
  exact W.dataLt_ints a b
def minT (x : List Int) (r : List (List Int)) : List Int := r.foldl (fun a y => if y < a then y else a) x
theorem minDD_tI : ∀ (r : List (List Int)) (x : List Int), minDD (tI x) (r.map tI) = tI (minT x r)
  | [], x => rfl
  | y :: r, x => by
    simp only [minDD, minT, List.map_cons, List.foldl_cons, lt_tI]
    have := minDD_tI r (if y < x then y else x)
    simp only [minDD, minT] at this
    by_cases h : y < x
    · simp only [h, decide_true, if_true] at this ⊢
      exact this
    · simp only [h, decide_false, if_false] at this ⊢
      exact this
theorem plain_ints : ∀ l : List Int, D.plains (l.map D.int) = true
  | [] => rfl
  | x :: l => by simp [D.plains, D.plain, plain_ints l]
theorem plain_tI (l : List Int) : (tI l).plain = true := by
  unfold tI
  rw [D.plain]
  exact plain_ints l
theorem alike_tI (a b : List Int) : W.alike (tI a).pd (tI b).pd = true := by
  rw [pd_tI, pd_tI, W.alike]
  exact W.alike_ints a b
theorem depth_ints : ∀ l : List Int, PyData.depthAll (l.map PyData.int) = 0
  | [] => rfl
  | x :: l => by simp [PyData.depthAll, PyData.depth, depth_ints l]
theorem okSort_tI (ls : List (List Int)) (h : ∀ l ∈ ls, l ≠ []) : okSort (ls.map tI) = true := by
  unfold okSort
  simp only [List.all_map, Bool.and_eq_true, Bool.or_eq_true, List.all_eq_true]
  refine ⟨⟨fun a ha => List.all_eq_true.mpr fun b _ => alike_tI a b, fun a ha => ?_⟩, .inl fun a ha => ?_⟩
  · simp only [Function.comp_def, pd_tI, PyData.depth, depth_ints]
    decide
  · cases a with
    | nil => exact absurd rfl (h _ ha)
    | cons x r => rfl
theorem bi_minT (x : List Int) (r : List (List Int)) (h : ∀ l ∈ x :: r, l ≠ []) : biF .min [.lst ((x :: r).map tI)] = some (tI (minT x r)) := by
  have h1 := okSort_tI (x :: r) h
  have h2 : ((x :: r).map tI).all D.plain = true := by
    rw [List.all_map, List.all_eq_true]
    exact fun a _ => plain_tI a
  have h3 : biF .min [.lst ((x :: r).map tI)] = if okSort ((x :: r).map tI) && ((x :: r).map tI).all D.plain then some (minDD (tI x) (r.map tI)) else none := rfl
  rw [h3, h1, h2, minDD_tI]
  rfl
theorem mt_index (ls : List (List Int)) (t : List Int) {j : Nat} (h : ls.findIdx? (fun z => decide (z = t)) = some j) : mtF .index (.lst (ls.map tI)) [tI t] = some (.int j) := by
  have e : (ls.map tI).findIdx? (fun z => deq z (tI t)) = some j := by
    rw [List.findIdx?_map]
    simpa [Function.comp_def] using h
  simp [mtF, e]
theorem minT_mem : ∀ (r : List (List Int)) (x : List Int), minT x r ∈ x :: r
  | [], x => by simp [minT]
  | y :: r, x => by
    have := minT_mem r (if y < x then y else x)
    have e : minT x (y :: r) = minT (if y < x then y else x) r := rfl
    rw [e]
    rcases List.mem_cons.mp this with h | h
    · rw [h]
      split <;> simp
    · simp [h]
theorem minT_le : ∀ (r : List (List Int)) (x : List Int), ∀ y ∈ x :: r, minT x r ≤ y
  | [], x, y, h => by
    rw [List.mem_singleton.mp h]
    exact List.le_refl _
  | z :: r, x, y, h => by
    have e : minT x (z :: r) = minT (if z < x then z else x) r := rfl
    rw [e]
    have m := minT_le r (if z < x then z else x)
    have m0 := m _ List.mem_cons_self
    rcases List.mem_cons.mp h with rfl | h
    · refine List.le_trans m0 ?_
      split
      · exact List.le_of_lt ‹_›
      · exact List.le_refl _
    · rcases List.mem_cons.mp h with rfl | h
      · refine List.le_trans m0 ?_
        split
        · exact List.le_refl _
        · exact List.not_lt.mp ‹_›
      · exact m y (List.mem_cons_of_mem _ h)
theorem minT_ext {x y : List Int} {r s : List (List Int)} (h : ∀ z, z ∈ x :: r ↔ z ∈ y :: s) : minT x r = minT y s :=
  List.le_antisymm (minT_le r x _ ((h _).mpr (minT_mem s y))) (minT_le s y _ ((h _).mp (minT_mem r x)))
end Cl
set_option Elab.async false
set_option linter.all false
set_option maxRecDepth 100000
set_option maxHeartbeats 1000000
namespace Cl
open PySem
/-! ### loops with a state -/
theorem for_rel {α σ : Type} {f : D → Env → R Fl} {e : α → D} (I : σ → Env → Prop) (step : σ → α → σ) : ∀ {l : List α}, (∀ x ∈ l, ∀ a env, I a env → ∃ env', f (e x) env = .ok (.nx env') ∧ I (step a x) env') → ∀ a env, I a env → ∃ env', forL f (l.map e) env = .ok (.nx env') ∧ I (l.foldl step a) env'
  | [], _, a, env, h => ⟨env, rfl, h⟩
  | x :: l, h, a, env, hI => by
    obtain ⟨e1, h1, h2⟩ := h x List.mem_cons_self a env hI
    obtain ⟨e2, h3, h4⟩ := for_rel I step (fun y hy => h y (List.mem_cons_of_mem _ hy)) (step a x) e1 h2
    exact ⟨e2, by simp [forL, h1, h3], h4⟩
/-! ### lists over a range -/
theorem rg_get {α : Type} {n p : Int} (f : Int → α) (h : 0 ≤ p ∧ p < n) : ((rgI 0 n).map f)[p.toNat]? = some (f p) := by
  unfold rgI
  rw [List.getElem?_map, List.getElem?_map, List.getElem?_range (by omega)]
  simp
  congr 1
  omega
theorem rg_set {α : Type} {n p : Int} (f : Int → α) (v : α) (h : 0 ≤ p ∧ p < n) : ((rgI 0 n).map f).set p.toNat v = (rgI 0 n).map fun x => if x = p then v else f x := by
  refine List.ext_getElem? fun i => ?_
  rw [List.getElem?_set]
  simp only [List.length_map, length_rgI]
  by_cases hi : (i : Int) < n
  · have e1 := rg_get (n := n) (p := i) f (by omega)
    have e2 := rg_get (n := n) (p := i) (fun x => if x = p then v else f x) (by omega)
    simp only [Int.toNat_natCast] at e1 e2
    rw [e1, e2]
    by_cases hp : p.toNat = i
    · rw [if_pos hp, if_pos (by omega), if_pos (by omega)]
    · rw [if_neg hp, if_neg (by omega)]
  · rw [List.getElem?_eq_none (by simp; omega), List.getElem?_eq_none (by simp; omega)]
    by_cases hp : p.toNat = i
    · rw [if_pos hp, if_neg (by omega)]
    · rw [if_neg hp]
theorem rg_cut {a b c : Int} (h : a ≤ b ∧ b ≤ c) : rgI a c = rgI a b ++ rgI b c := by
  refine pw_ext (rgI_pw _ _) ?_ fun x => ?_
  · rw [List.pairwise_append]
    refine ⟨rgI_pw _ _, rgI_pw _ _, fun x hx y hy => ?_⟩
    have := mem_rgI.mp hx; have := mem_rgI.mp hy; omega
  · simp only [List.mem_append, mem_rgI]
    omega
theorem rg_shift (a b c : Int) : rgI (a + c) (b + c) = (rgI a b).map (· + c) := by
  unfold rgI
  rw [List.map_map, show b + c - (a + c) = b - a by omega]
  refine List.map_congr_left fun x _ => ?_
  simp only [Function.comp_def]
  omega
theorem repl_one {n : Int} (v : D) : repl n.toNat [v] = (rgI 0 n).map fun _ => v := by
  unfold repl rgI
  rw [List.map_map]
  have e : ∀ k : Nat, List.replicate k v = (List.range k).map fun _ => v := fun k => by
    rw [List.map_const']
    simp
  have e2 := e n.toNat
  simp only [Function.comp_def]
  simpa using e2
theorem b_mulI {n : Int} (v : Int) (h : 0 ≤ n ∧ n ≤ 100000) : bopF .mul (.lst [.int v]) (.int n) = some (.lst (((rgI 0 n).map fun _ => v).map D.int)) := by
  have : (1 : Nat) * n.toNat ≤ lim := by unfold lim; omega
  simp only [bopF, List.length_singleton, this, h, and_self, if_true]
  rw [repl_one, List.map_map]
  rfl
/-! ### the greatest, the least -/
def mx (l : List Int) : Int := maxI (l.headD 0) l.tail
def mn (l : List Int) : Int := minI (l.headD 0) l.tail
theorem bi_mx {l : List Int} (h : l ≠ []) : biF .max [.lst (l.map D.int)] = some (.int (mx l)) := by
  cases l with
  | nil => exact absurd rfl h
  | cons x r => simp [biF, ints?_map, mx, ints?]
theorem minDD_int : ∀ (r : List Int) (x : Int), minDD (.int x) (r.map D.int) = .int (minI x r)
  | [], x => rfl
  | y :: r, x => by
    simp only [minDD, minI, List.map_cons, List.foldl_cons, D.pd, W.dataLt_int]
    have := minDD_int r (if y < x then y else x)
    simp only [minDD, minI] at this
    by_cases h : y < x
    · simp only [h, decide_true, if_true] at this ⊢
      exact this
    · simp only [h, decide_false, if_false] at this ⊢
      exact this
theorem bi_mn {l : List Int} (h : l ≠ []) : biF .min [.lst (l.map D.int)] = some (.int (mn l)) := by
  cases l with
  | nil => exact absurd rfl h
  | cons x r =>
    have h1 := okSort_int (x :: r)
    have h2 : ((x :: r).map D.int).all D.plain = true := by
      rw [List.all_map, List.all_eq_true]
      exact fun a _ => rfl
    have h3 : biF .min [.lst ((x :: r).map D.int)] = if okSort ((x :: r).map D.int) && ((x :: r).map D.int).all D.plain then some (minDD (.int x) (r.map D.int)) else none := rfl
    rw [h3, h1, h2, minDD_int]
    rfl
theorem mx_le {l : List Int} (h : l ≠ []) {c : Int} : mx l ≤ c ↔ ∀ x ∈ l, x ≤ c := by
  cases l with
  | nil => exact absurd rfl h
  | cons x r =>
    obtain ⟨m1, m2⟩ := maxI_mem r x
    unfold mx
    simp only [List.headD_cons, List.tail_cons]
    exact ⟨fun hc y hy => Int.le_trans (m2 y hy) hc, fun hc => hc _ m1⟩
theorem minI_mem : ∀ (r : List Int) (x : Int), minI x r ∈ x :: r
  | [], x => by simp [minI]
  | y :: r, x => by
    have := minI_mem r (if y < x then y else x)
    have e : minI x (y :: r) = minI (if y < x then y else x) r := rfl
    rw [e]
    rcases List.mem_cons.mp this with h | h
    · rw [h]; split <;> simp
    · simp [h]
theorem minI_le : ∀ (r : List Int) (x : Int), ∀ y ∈ x :: r, minI x r ≤ y
  | [], x, y, h => by simp [minI] at *; omega
  | z :: r, x, y, h => by
    have e : minI x (z :: r) = minI (if z < x then z else x) r := rfl
    rw [e]
    have m := minI_le r (if z < x then z else x)
    have m0 := m _ List.mem_cons_self
    rcases List.mem_cons.mp h with rfl | h
    · refine Int.le_trans m0 ?_
      split <;> omega
    · rcases List.mem_cons.mp h with rfl | h
      · refine Int.le_trans m0 ?_
        split <;> omega
      · exact m y (List.mem_cons_of_mem _ h)
theorem mn_ge {l : List Int} (h : l ≠ []) {c : Int} : c ≤ mn l ↔ ∀ x ∈ l, c ≤ x := by
  cases l with
  | nil => exact absurd rfl h
  | cons x r =>
    have m1 := minI_mem r x
    have m2 := minI_le r x
    unfold mn
    simp only [List.headD_cons, List.tail_cons]
    exact ⟨fun hc y hy => Int.le_trans hc (m2 y hy), fun hc => hc _ m1⟩
/-! ### claps -/
/-- how often the beat x is clapped -/
def cnt (n : Int) (r s : List Int) (x : Int) : Int := (s.countP fun t => decide ((x - t) % n ∈ r) : Nat)
def clp (n : Int) (r s : List Int) : List Int := (rgI 0 n).map (cnt n r s)
theorem clp_ne {n : Int} (h : 0 < n) (r s : List Int) : clp n r s ≠ [] := by
  unfold clp
  rw [Ne, List.map_eq_nil_iff]
  exact List.ne_nil_of_mem (mem_rgI.mpr ⟨Int.le_refl 0, h⟩)
@[simp] theorem clp_len {n : Int} (r s : List Int) : (clp n r s).length = n.toNat := by simp [clp]
theorem IsSet.canon {n : Int} {l : List Int} (h : IsSet n l) : l = (rgI 0 n).filter fun x => decide (x ∈ l) := pw_ext h.pw (flt_pw _ _ _) fun x => by
  simp only [List.mem_filter, mem_rgI, decide_eq_true_eq]
  exact ⟨fun hx => ⟨⟨h.lo x hx, h.hi x hx⟩, hx⟩, fun hx => hx.2⟩
theorem IsSet.countP {n : Int} {l : List Int} (h : IsSet n l) (p : Int → Bool) : l.countP p = (rgI 0 n).countP fun x => decide (x ∈ l) && p x := by
  conv => lhs; rw [h.canon]
  rw [List.countP_filter]
  exact List.countP_congr fun x _ => by rw [Bool.and_comm]
theorem rg_perm {n : Int} (h : 0 < n) (c : Int) : ((rgI 0 n).map fun t => (c - t) % n).Perm (rgI 0 n) := by
  have inj : ∀ t ∈ rgI 0 n, (c - (c - t) % n) % n = t := fun t ht => by
    have := mem_rgI.mp ht
    rw [Int.sub_emod_emod]
    have e : c - (c - t) = t := by omega
    rw [e, Int.emod_eq_of_lt this.1 this.2]
  refine (List.perm_ext_iff_of_nodup ?_ ((rgI_pw 0 n).imp fun h => by omega)).mpr fun x => ?_
  · rw [List.nodup_iff_pairwise_ne, List.pairwise_map]
    refine List.Pairwise.imp_of_mem ?_ (rgI_pw 0 n)
    intro a b ha hb hab e
    have := inj a ha
    rw [e, inj b hb] at this
    omega
  · rw [List.mem_map, mem_rgI]
    constructor
    · rintro ⟨t, _, rfl⟩
      exact ⟨Int.emod_nonneg _ (by omega), Int.emod_lt_of_pos _ h⟩
    · rintro ⟨h1, h2⟩
      refine ⟨(c - x) % n, mem_rgI.mpr ⟨Int.emod_nonneg _ (by omega), Int.emod_lt_of_pos _ h⟩, ?_⟩
      exact inj x (mem_rgI.mpr ⟨h1, h2⟩)
theorem cnt_comm {n : Int} {r s : List Int} (hr : IsSet n r) (hs : IsSet n s) (x : Int) : cnt n r s x = cnt n s r x := by
  unfold cnt
  congr 1
  rw [hs.countP, hr.countP, ← (rg_perm hr.pos x).countP_eq, List.countP_map]
  refine List.countP_congr fun t ht => ?_
  have := mem_rgI.mp ht
  simp only [Function.comp_def]
  rw [Int.sub_emod_emod]
  have e : x - (x - t) = t := by omega
  rw [e, Int.emod_eq_of_lt this.1 this.2, Bool.and_comm]
theorem clp_comm {n : Int} {r s : List Int} (hr : IsSet n r) (hs : IsSet n s) : clp n r s = clp n s r := by
  unfold clp
  exact List.map_congr_left fun x _ => cnt_comm hr hs x
theorem IsSet.mv_len {n : Int} {l : List Int} (h : IsSet n l) (m : Int) : (Cl.mv n l m).length = l.length := by
  rw [← h.srt_mv, (srt_perm _).length_eq, List.length_map]
theorem sum_cnt {n : Int} {r : List Int} (hr : IsSet n r) : ∀ s : List Int, ((rgI 0 n).map (cnt n r s)).sum = r.length * s.length
  | [] => by
    have e : (rgI 0 n).map (cnt n r []) = (rgI 0 n).map fun _ => (0 : Int) := rfl
    rw [e]
    have : ∀ l : List Int, (l.map fun _ => (0 : Int)).sum = 0 := fun l => by induction l <;> simp_all
    rw [this]
    simp
  | t :: s => by
    have ih := sum_cnt hr s
    have e : ∀ x, cnt n r (t :: s) x = cnt n r s x + (if decide ((x - t) % n ∈ r) then (1 : Int) else 0) := fun x => by
      unfold cnt
      rw [List.countP_cons]
      split <;> simp
    have add : ∀ (f g : Int → Int) (l : List Int), (l.map fun x => f x + g x).sum = (l.map f).sum + (l.map g).sum := fun f g l => by
      induction l with
      | nil => rfl
      | cons y l ih => simp only [List.map_cons, List.sum_cons, ih]; omega
    have cp : ∀ (p : Int → Bool) (l : List Int), (l.map fun x => if p x then (1 : Int) else 0).sum = (l.filter p).length := fun p l => by
      induction l with
      | nil => rfl
      | cons y l ih =>
        simp only [List.map_cons, List.sum_cons, ih, List.filter_cons]
        split <;> simp <;> omega
    rw [show (rgI 0 n).map (cnt n r (t :: s)) = (rgI 0 n).map (fun x => cnt n r s x + (if decide ((x - t) % n ∈ r) then (1 : Int) else 0)) from List.map_congr_left fun x _ => e x, add, ih, cp]
    have := hr.mv_len t
    unfold mv at this
    rw [this, List.length_cons, Int.natCast_add, Int.mul_add]
    simp
theorem cnt_mv {n : Int} (h : 0 < n) (r s : List Int) (b x : Int) : cnt n (mv n r b) s x = cnt n r s ((x - b) % n) := by
  unfold cnt
  congr 1
  refine List.countP_congr fun t _ => ?_
  simp only [mem_mv]
  have e : ((x - t) % n - b) % n = ((x - b) % n - t) % n := by
    rw [Int.emod_sub_emod, Int.emod_sub_emod]
    congr 1; omega
  rw [e]
  have := Int.emod_nonneg (x - t) (show n ≠ 0 by omega)
  have := Int.emod_lt_of_pos (x - t) h
  simp [*]
/-- turned counts -/
theorem rg_turn {n b : Int} (c : Int → Int) (h : 0 ≤ b ∧ b < n) : (rgI 0 n).map (fun x => c ((x - b) % n)) = (rgI (n - b) n).map c ++ (rgI 0 (n - b)).map c := by
  rw [rg_cut (a := 0) (b := b) (c := n) (by omega), List.map_append]
  congr 1
  · have := rg_shift 0 b (n - b)
    rw [show (0 : Int) + (n - b) = n - b by omega, show b + (n - b) = n by omega] at this
    rw [this, List.map_map]
    refine List.map_congr_left fun x hx => ?_
    have := mem_rgI.mp hx
    simp only [Function.comp_def]
    rw [← Int.add_emod_right, Int.emod_eq_of_lt (by omega) (by omega)]
    congr 1; omega
  · have := rg_shift 0 (n - b) b
    rw [show (0 : Int) + b = b by omega, show n - b + b = n by omega] at this
    rw [this, List.map_map]
    refine List.map_congr_left fun x hx => ?_
    have := mem_rgI.mp hx
    simp only [Function.comp_def]
    rw [show x + b - b = x by omega, Int.emod_eq_of_lt (by omega) (by omega)]
theorem rg_drop {α : Type} {n p : Int} (f : Int → α) (h : 0 ≤ p ∧ p ≤ n) : ((rgI 0 n).map f).drop p.toNat = (rgI p n).map f := by
  rw [rg_cut (a := 0) (b := p) (c := n) (by omega), List.map_append]
  exact List.drop_left' (by simp)
theorem rg_take {α : Type} {n p : Int} (f : Int → α) (h : 0 ≤ p ∧ p ≤ n) : ((rgI 0 n).map f).take p.toNat = (rgI 0 p).map f := by
  rw [rg_cut (a := 0) (b := p) (c := n) (by omega), List.map_append]
  exact List.take_left' (by simp)
end Cl
namespace Cl
theorem cut_from {α : Type} (xs : List α) {a : Int} (h : 0 ≤ a) : cutD xs (some a) none = xs.drop a.toNat := by
  unfold cutD HT.sIx
  simp only [if_neg (show ¬ a < 0 by omega)]
  rw [List.take_of_length_le (by simp)]
  by_cases h2 : a.toNat ≤ xs.length
  · rw [Nat.min_eq_left h2]
  · rw [Nat.min_eq_right (by omega), List.drop_eq_nil_of_le (Nat.le_refl _), List.drop_eq_nil_of_le (by omega)]
theorem cut_to {α : Type} (xs : List α) {a : Int} (h : 0 ≤ a) : cutD xs none (some a) = xs.take a.toNat := by
  unfold cutD HT.sIx
  simp only [if_neg (show ¬ a < 0 by omega), List.drop_zero, Nat.sub_zero]
  by_cases h2 : a.toNat ≤ xs.length
  · rw [Nat.min_eq_left h2]
  · rw [Nat.min_eq_right (by omega), List.take_of_length_le (Nat.le_refl _), List.take_of_length_le (by omega)]
end Cl
set_option Elab.async false
set_option linter.all false
set_option maxRecDepth 100000
set_option maxHeartbeats 1000000
namespace Cl
open PySem
/-! ### beats that two moved sets share -/
def sh (n : Int) (r : List Int) (d : Int) : Int := (r.countP fun b => decide ((b - d) % n ∈ r) : Nat)
def shL (n : Int) (r : List Int) : List Int := (rgI 0 n).map (sh n r)
theorem rg_permA {n : Int} (h : 0 < n) (c : Int) : ((rgI 0 n).map fun t => (t + c) % n).Perm (rgI 0 n) := by
  have inj : ∀ t ∈ rgI 0 n, ((t + c) % n - c) % n = t := fun t ht => by
    have := mem_rgI.mp ht
    rw [Int.emod_sub_emod, show t + c - c = t by omega, Int.emod_eq_of_lt this.1 this.2]
  refine (List.perm_ext_iff_of_nodup ?_ ((rgI_pw 0 n).imp fun h => by omega)).mpr fun x => ?_
  · rw [List.nodup_iff_pairwise_ne, List.pairwise_map]
    refine List.Pairwise.imp_of_mem ?_ (rgI_pw 0 n)
    intro a b ha hb hab e
    have := inj a ha
    rw [e, inj b hb] at this
    omega
  · rw [List.mem_map, mem_rgI]
    constructor
    · rintro ⟨t, _, rfl⟩
      exact ⟨Int.emod_nonneg _ (by omega), Int.emod_lt_of_pos _ h⟩
    · rintro ⟨h1, h2⟩
      refine ⟨(x - c) % n, mem_rgI.mpr ⟨Int.emod_nonneg _ (by omega), Int.emod_lt_of_pos _ h⟩, ?_⟩
      rw [Int.emod_add_emod, show x - c + c = x by omega, Int.emod_eq_of_lt h1 h2]
theorem sh_rg {n : Int} {r : List Int} (h : IsSet n r) (d : Int) : sh n r d = ((rgI 0 n).countP fun b => decide (b ∈ r) && decide ((b - d) % n ∈ r) : Nat) := by
  unfold sh
  rw [h.countP]
theorem sh_common {n : Int} {r : List Int} (h : IsSet n r) (d : Int) : (((mv n r d).filter fun b => decide (b ∈ r)).length : Int) = sh n r d := by
  rw [sh_rg h, mv, List.filter_filter, List.countP_eq_length_filter]
theorem sum_sh {n : Int} {r : List Int} (h : IsSet n r) : ∀ q : List Int, ((rgI 0 n).map fun d => ((q.countP fun b => decide ((b - d) % n ∈ r) : Nat) : Int)).sum = q.length * r.length
  | [] => by
    have : ∀ l : List Int, (l.map fun _ => (0 : Int)).sum = 0 := fun l => by induction l <;> simp_all
    simpa using this (rgI 0 n)
  | t :: s => by
    have ih := sum_sh h s
    have e : ∀ x, (((t :: s).countP fun b => decide ((b - x) % n ∈ r) : Nat) : Int) = ((s.countP fun b => decide ((b - x) % n ∈ r) : Nat) : Int) + (if decide ((t - x) % n ∈ r) then (1 : Int) else 0) := fun x => by
      rw [List.countP_cons]
      split <;> simp
    have add : ∀ (f g : Int → Int) (l : List Int), (l.map fun x => f x + g x).sum = (l.map f).sum + (l.map g).sum := fun f g l => by
      induction l with
      | nil => rfl
      | cons y l ih => simp only [List.map_cons, List.sum_cons, ih]; omega
    have cp : ∀ (p : Int → Bool) (l : List Int), (l.map fun x => if p x then (1 : Int) else 0).sum = (l.countP p : Nat) := fun p l => by
      induction l with
      | nil => rfl
      | cons y l ih =>
        simp only [List.map_cons, List.sum_cons, ih, List.countP_cons]
        split <;> simp <;> omega
    rw [List.map_congr_left fun x _ => e x, add, ih, cp]
    have e2 : (rgI 0 n).countP (fun x => decide ((t - x) % n ∈ r)) = r.length := by
      have := (rg_perm h.pos t).countP_eq fun y => decide (y ∈ r)
      rw [List.countP_map] at this
      have e3 : r.length = (rgI 0 n).countP fun y => decide (y ∈ r) := by
        rw [List.countP_eq_length_filter, ← h.canon]
      rw [e3]
      exact this
    rw [e2, List.length_cons, Int.natCast_add, Int.add_mul]
    simp
theorem sh_zero {n : Int} {r : List Int} (h : IsSet n r) : sh n r 0 = r.length := by
  unfold sh
  congr 1
  rw [List.countP_eq_length]
  intro b hb
  rw [Int.sub_zero, Int.emod_eq_of_lt (h.lo b hb) (h.hi b hb)]
  exact decide_eq_true hb
theorem sh_neg {n : Int} {r : List Int} (h : IsSet n r) (d : Int) : sh n r (n - d) = sh n r d := by
  rw [sh_rg h, sh_rg h, ← (rg_permA h.pos d).countP_eq fun b => decide (b ∈ r) && decide ((b - d) % n ∈ r), List.countP_map]
  congr 1
  refine List.countP_congr fun b hb => ?_
  have := mem_rgI.mp hb
  simp only [Function.comp_def]
  rw [Int.emod_sub_emod, show b + d - d = b by omega, Int.emod_eq_of_lt this.1 this.2, show b - (n - d) = b + d - n by omega, Int.sub_emod_right, Bool.and_comm]
theorem sh_mv {n : Int} {r : List Int} (h : IsSet n r) (a d : Int) : sh n (mv n r a) d = sh n r d := by
  have hp := h.pos
  rw [sh_rg (h.mv a), sh_rg h, ← (rg_permA hp a).countP_eq, List.countP_map]
  congr 1
  refine List.countP_congr fun b hb => ?_
  have := mem_rgI.mp hb
  have m : ∀ z : Int, (0 ≤ z % n ∧ z % n < n) := fun z => ⟨Int.emod_nonneg _ (by omega), Int.emod_lt_of_pos _ hp⟩
  have e1 : ((b + a) % n - a) % n = b := by rw [Int.emod_sub_emod, show b + a - a = b by omega, Int.emod_eq_of_lt this.1 this.2]
  have e2 : (((b + a) % n - d) % n - a) % n = (b - d) % n := by
    rw [Int.emod_sub_emod, show (b + a) % n - d - a = (b + a) % n - (d + a) by omega, Int.emod_sub_emod]
    congr 1; omega
  simp only [Function.comp_def, mem_mv, e1, e2, m, and_self, true_and]
theorem sh_pos {n : Int} {r : List Int} {d : Int} : 0 < sh n r d ↔ ∃ b ∈ r, (b - d) % n ∈ r := by
  unfold sh
  rw [show ((0 : Int) < ((r.countP fun b => decide ((b - d) % n ∈ r) : Nat) : Int)) ↔ 0 < (r.countP fun b => decide ((b - d) % n ∈ r)) from by omega, List.countP_pos_iff]
  simp
theorem countP_one {l : List Int} (h : l.Nodup) (p : Int → Bool) : l.countP p ≤ 1 ↔ ∀ a ∈ l, ∀ b ∈ l, p a = true → p b = true → a = b := by
  rw [List.countP_eq_length_filter]
  have hn : (l.filter p).Nodup := h.filter p
  constructor
  · intro hl a ha b hb pa pb
    have ma : a ∈ l.filter p := List.mem_filter.mpr ⟨ha, pa⟩
    have mb : b ∈ l.filter p := List.mem_filter.mpr ⟨hb, pb⟩
    match q : l.filter p, hl with
    | [], _ => rw [q] at ma; cases ma
    | [x], _ =>
      rw [q] at ma mb
      rw [List.mem_singleton.mp ma, List.mem_singleton.mp mb]
  · intro hall
    match q : l.filter p with
    | [] => simp
    | [x] => simp
    | x :: y :: r =>
      exfalso
      have mx : x ∈ l.filter p := by rw [q]; simp
      have my : y ∈ l.filter p := by rw [q]; simp
      obtain ⟨x1, x2⟩ := List.mem_filter.mp mx
      obtain ⟨y1, y2⟩ := List.mem_filter.mp my
      have e := hall x x1 y y1 x2 y2
      rw [q, e] at hn
      simp at hn
theorem pack_iff {n : Int} {r s : List Int} (hr : IsSet n r) (hs : IsSet n s) : (∀ x ∈ clp n r s, x ≤ 1) ↔ ¬ ∃ t ∈ s, ∃ u ∈ s, u ≠ t ∧ 0 < sh n r ((u - t) % n) := by
  have hp := hr.pos
  have e : (∀ x ∈ clp n r s, x ≤ 1) ↔ ∀ x, 0 ≤ x → x < n → (s.countP fun t => decide ((x - t) % n ∈ r)) ≤ 1 := by
    unfold clp
    simp only [List.mem_map, mem_rgI]
    constructor
    · intro h x h1 h2
      have := h _ ⟨x, ⟨h1, h2⟩, rfl⟩
      unfold cnt at this
      omega
    · rintro h _ ⟨x, ⟨h1, h2⟩, rfl⟩
      have := h x h1 h2
      unfold cnt
      omega
  rw [e]
  constructor
  · rintro h ⟨t, ht, u, hu, hne, hsh⟩
    obtain ⟨b, hb, hb2⟩ := sh_pos.mp hsh
    have := (countP_one hs.nd _).mp (h ((b + t) % n) (Int.emod_nonneg _ (by omega)) (Int.emod_lt_of_pos _ hp)) t ht u hu
    refine hne (this ?_ ?_).symm
    · rw [decide_eq_true_eq, Int.emod_sub_emod, show b + t - t = b by omega, Int.emod_eq_of_lt (hr.lo b hb) (hr.hi b hb)]
      exact hb
    · rw [decide_eq_true_eq, Int.emod_sub_emod, show b + t - u = b - (u - t) by omega]
      rwa [Int.sub_emod_emod] at hb2
  · intro h x h1 h2
    rw [countP_one hs.nd]
    intro t ht u hu pt pu
    refine Classical.byContradiction fun hne => h ⟨t, ht, u, hu, fun e => hne e.symm, sh_pos.mpr ⟨(x - t) % n, of_decide_eq_true pt, ?_⟩⟩
    rw [Int.sub_emod_emod, Int.emod_sub_emod, show x - t - (u - t) = x - u by omega]
    exact of_decide_eq_true pu
/-- the distances at which two voices clash -/
def clash (n : Int) (r : List Int) : List Int := (rgI 1 n).filter fun d => decide (0 < sh n r d)
def free (n : Int) (r : List Int) : List Int := (rgI 1 n).filter fun d => decide (sh n r d = 0)
theorem rg01 {n : Int} (h : 0 < n) : rgI 0 n = 0 :: rgI 1 n := by
  rw [rg_cut (a := 0) (b := 1) (c := n) (by omega)]
  rfl
theorem clash_eq {n : Int} {r : List Int} (h : 0 < n) : ((rgI 0 n).filter fun d => decide (0 < d) && decide (0 < sh n r d)) = clash n r := by
  unfold clash
  rw [rg01 h, List.filter_cons]
  simp only [Int.lt_irrefl, decide_false, Bool.false_and, if_false]
  refine (if_neg (by decide)).trans (List.filter_congr fun d hd => ?_)
  have := mem_rgI.mp hd
  simp [show 0 < d by omega]
theorem free_eq {n : Int} {r : List Int} (h : IsSet n r) : ((rgI 0 n).filter fun d => decide (sh n r d = 0)) = free n r := by
  unfold free
  have hl : (r.length : Int) ≠ 0 := by
    have := List.length_pos_iff.mpr h.ne
    omega
  rw [rg01 h.pos, List.filter_cons, sh_zero h]
  simp [hl]
  intro e
  exact absurd e h.ne
/-- some two of the starts clash -/
def bads (n : Int) (r s : List Int) : Bool := s.any fun t => (s.filter fun u => decide (u ≠ t)).any fun u => decide ((u - t) % n ∈ clash n r)
theorem bads_iff {n : Int} {r s : List Int} (hr : IsSet n r) (hs : IsSet n s) : bads n r s = true ↔ ∃ t ∈ s, ∃ u ∈ s, u ≠ t ∧ 0 < sh n r ((u - t) % n) := by
  have hp := hr.pos
  unfold bads
  simp only [List.any_eq_true, List.mem_filter, decide_eq_true_eq]
  constructor
  · rintro ⟨t, ht, u, ⟨hu, hne⟩, hc⟩
    unfold clash at hc
    exact ⟨t, ht, u, hu, hne, of_decide_eq_true (List.mem_filter.mp hc).2⟩
  · rintro ⟨t, ht, u, hu, hne, hc⟩
    refine ⟨t, ht, u, ⟨hu, hne⟩, List.mem_filter.mpr ⟨mem_rgI.mpr ⟨?_, Int.emod_lt_of_pos _ hp⟩, decide_eq_true hc⟩⟩
    have h0 := Int.emod_nonneg (u - t) (show n ≠ 0 by omega)
    have : (u - t) % n ≠ 0 := fun e => by
      have e1 := Int.emod_eq_emod_iff_emod_sub_eq_zero.mpr e
      rw [Int.emod_eq_of_lt (hs.lo u hu) (hs.hi u hu), Int.emod_eq_of_lt (hs.lo t ht) (hs.hi t ht)] at e1
      exact hne e1
    omega
theorem bads_pack {n : Int} {r s : List Int} (hr : IsSet n r) (hs : IsSet n s) : decide (mx (clp n r s) ≤ 1) = !bads n r s := by
  rw [Bool.eq_iff_iff, decide_eq_true_eq, mx_le (clp_ne hr.pos r s), pack_iff hr hs, ← bads_iff hr hs]
  simp
theorem IsSet.take {n : Int} {l : List Int} (h : IsSet n l) {k : Nat} (hk : 0 < k) : IsSet n (l.take k) := by
  refine ⟨?_, fun x hx => h.lo x (List.mem_of_mem_take hx), fun x hx => h.hi x (List.mem_of_mem_take hx), h.pw.sublist (List.take_sublist _ _)⟩
  have := h.ne
  cases l with
  | nil => exact absurd rfl this
  | cons x r =>
    cases k with
    | zero => omega
    | succ k => simp
/-- the mirrored set -/
theorem IsSet.neg {n : Int} {l : List Int} (h : IsSet n l) : IsSet n (srt (l.map fun b => (0 - b) % n)) := by
  have hp := h.pos
  have inj : ∀ x ∈ l, (0 - (0 - x) % n) % n = x := fun x hx => by
    rw [Int.sub_emod_emod, show (0 : Int) - (0 - x) = x by omega, Int.emod_eq_of_lt (h.lo x hx) (h.hi x hx)]
  refine ⟨?_, fun x hx => ?_, fun x hx => ?_, srt_lt ?_⟩
  · obtain ⟨x, hx⟩ := List.exists_mem_of_ne_nil _ h.ne
    exact List.ne_nil_of_mem (mem_srt.mpr (List.mem_map.mpr ⟨x, hx, rfl⟩))
  · obtain ⟨y, _, rfl⟩ := List.mem_map.mp (mem_srt.mp hx)
    exact Int.emod_nonneg _ (by omega)
  · obtain ⟨y, _, rfl⟩ := List.mem_map.mp (mem_srt.mp hx)
    exact Int.emod_lt_of_pos _ hp
  · rw [List.nodup_iff_pairwise_ne, List.pairwise_map]
    refine h.nd.imp_of_mem fun {a b} ha hb hab e => hab ?_
    rw [← inj a ha, ← inj b hb, e]
end Cl
set_option Elab.async false
set_option linter.all false
set_option maxRecDepth 100000
set_option maxHeartbeats 1000000
namespace Cl
open PySem
/-! ### canons -/
/-- the start t claps the beat x -/
abbrev Clp (n : Int) (r : List Int) (t x : Int) : Prop := (x - t) % n ∈ r
structure Uniq (n : Int) (r T : List Int) : Prop where
  u : ∀ x t u, t ∈ T → u ∈ T → Clp n r t x → Clp n r u x → t = u
structure Canon (n : Int) (r S : List Int) : Prop where
  s : IsSet n S
  c : ∀ x, 0 ≤ x → x < n → ∃ t ∈ S, Clp n r t x
  u : ∀ x t u, t ∈ S → u ∈ S → Clp n r t x → Clp n r u x → t = u
theorem clp_mod {n : Int} {r : List Int} {t x : Int} : Clp n r t (x % n) ↔ Clp n r t x := by
  unfold Clp
  rw [Int.emod_sub_emod]
theorem ones_iff {n : Int} {r S : List Int} (hn : 0 < n) (hS : IsSet n S) : (clp n r S = (rgI 0 n).map fun _ => 1) ↔ Canon n r S := by
  have e : (clp n r S = (rgI 0 n).map fun _ => 1) ↔ ∀ x, 0 ≤ x → x < n → S.countP (fun t => decide ((x - t) % n ∈ r)) = 1 := by
    unfold clp
    rw [List.map_inj_left]
    constructor
    · intro h x h1 h2
      have := h x (mem_rgI.mpr ⟨h1, h2⟩)
      unfold cnt at this
      omega
    · intro h x hx
      have hx' := mem_rgI.mp hx
      have := h x hx'.1 hx'.2
      unfold cnt
      omega
  rw [e]
  constructor
  · intro h
    refine ⟨hS, fun x h1 h2 => ?_, fun x t u ht hu c1 c2 => ?_⟩
    · have := h x h1 h2
      have p : 0 < S.countP (fun t => decide ((x - t) % n ∈ r)) := by omega
      obtain ⟨t, ht, hc⟩ := List.countP_pos_iff.mp p
      exact ⟨t, ht, of_decide_eq_true hc⟩
    · have h1 := Int.emod_nonneg x (show n ≠ 0 by omega)
      have h2 := Int.emod_lt_of_pos x hn
      have := (countP_one hS.nd _).mp (Nat.le_of_eq (h (x % n) h1 h2)) t ht u hu
      exact this (decide_eq_true (clp_mod.mpr c1)) (decide_eq_true (clp_mod.mpr c2))
  · intro h x h1 h2
    have a : S.countP (fun t => decide ((x - t) % n ∈ r)) ≤ 1 := (countP_one hS.nd _).mpr fun t ht u hu pt pu => h.u x t u ht hu (of_decide_eq_true pt) (of_decide_eq_true pu)
    obtain ⟨t, ht, hc⟩ := h.c x h1 h2
    have b : 0 < S.countP (fun t => decide ((x - t) % n ∈ r)) := List.countP_pos_iff.mpr ⟨t, ht, decide_eq_true hc⟩
    omega
def opn (n : Int) (tk : Int → Bool) : List Int := (rgI 0 n).filter fun x => !tk x
def plc (n : Int) (r : List Int) (s : Int) : List Int := r.map fun o => (s + o) % n
def tkn (n : Int) (r : List Int) (tk : Int → Bool) (s : Int) : Int → Bool := fun p => tk p || decide (p ∈ plc n r s)
def grw : Nat → Int → List Int → List Int → (Int → Bool) → List (List Int)
  | 0, n, r, T, tk => if opn n tk = [] then [srt T] else []
  | j + 1, n, r, T, tk => match opn n tk with
    | [] => [srt T]
    | x :: _ => r.flatMap fun b => if (plc n r ((x - b) % n)).any tk then [] else grw j n r (T ++ [(x - b) % n]) (tkn n r tk ((x - b) % n))
/-- T's voices clap what is taken, no beat twice -/
structure Gs (n : Int) (r T : List Int) (tk : Int → Bool) : Prop where
  ne : T ≠ []
  lo : ∀ t ∈ T, 0 ≤ t
  hi : ∀ t ∈ T, t < n
  nd : T.Nodup
  tk : ∀ x, 0 ≤ x → x < n → (tk x = true ↔ ∃ t ∈ T, Clp n r t x)
  u : ∀ x t u, t ∈ T → u ∈ T → Clp n r t x → Clp n r u x → t = u
theorem mem_opn {n : Int} {tk : Int → Bool} {x : Int} : x ∈ opn n tk ↔ (0 ≤ x ∧ x < n) ∧ tk x = false := by
  unfold opn
  rw [List.mem_filter, mem_rgI]
  simp
section
variable {n : Int} {r : List Int} (hr : IsSet n r)
include hr
theorem mem_plc {s p : Int} (hp : 0 ≤ p ∧ p < n) : p ∈ plc n r s ↔ Clp n r s p := by
  unfold plc Clp
  rw [List.mem_map]
  constructor
  · rintro ⟨o, ho, rfl⟩
    rw [Int.emod_sub_emod, show s + o - s = o by omega, Int.emod_eq_of_lt (hr.lo o ho) (hr.hi o ho)]
    exact ho
  · intro h
    refine ⟨_, h, ?_⟩
    rw [Int.add_emod_emod, show s + (p - s) = p by omega, Int.emod_eq_of_lt hp.1 hp.2]
theorem plc_rg {s p : Int} (h : p ∈ plc n r s) : 0 ≤ p ∧ p < n := by
  have := hr.pos
  unfold plc at h
  obtain ⟨o, _, rfl⟩ := List.mem_map.mp h
  exact ⟨Int.emod_nonneg _ (by omega), Int.emod_lt_of_pos _ this⟩
theorem start_clp {x b : Int} (hb : b ∈ r) (hx : 0 ≤ x ∧ x < n) : Clp n r ((x - b) % n) x := by
  unfold Clp
  rw [Int.sub_emod_emod, show x - (x - b) = b by omega, Int.emod_eq_of_lt (hr.lo b hb) (hr.hi b hb)]
  exact hb
theorem Gs.step {T : List Int} {tk : Int → Bool} (g : Gs n r T tk) {x b : Int} (hx : x ∈ opn n tk) (hb : b ∈ r) (hc : (plc n r ((x - b) % n)).any tk = false) : Gs n r (T ++ [(x - b) % n]) (tkn n r tk ((x - b) % n)) := by
  have hp := hr.pos
  obtain ⟨hx1, hx2⟩ := mem_opn.mp hx
  have sc := start_clp hr hb hx1
  obtain ⟨s, hs⟩ : ∃ s, s = (x - b) % n := ⟨_, rfl⟩
  rw [← hs] at sc hc ⊢
  have s0 : 0 ≤ s := by rw [hs]; exact Int.emod_nonneg _ (by omega)
  have s1 : s < n := by rw [hs]; exact Int.emod_lt_of_pos _ hp
  have nc : ∀ y, 0 ≤ y → y < n → Clp n r s y → tk y = false := fun y y0 y1 hy => by
    have := (List.any_eq_false.mp hc) y ((mem_plc hr ⟨y0, y1⟩).mpr hy)
    simpa using this
  have cross : ∀ y t, t ∈ T → Clp n r t y → Clp n r s y → False := fun y t ht c1 c2 => by
    have y0 := Int.emod_nonneg y (show n ≠ 0 by omega)
    have y1 := Int.emod_lt_of_pos y hp
    have a := nc (y % n) y0 y1 (clp_mod.mpr c2)
    have b := (g.tk (y % n) y0 y1).mpr ⟨t, ht, clp_mod.mpr c1⟩
    rw [a] at b
    cases b
  have sT : s ∉ T := fun h => cross x s h sc sc
  refine ⟨by simp, fun t ht => ?_, fun t ht => ?_, ?_, fun y y0 y1 => ?_, fun y t u ht hu c1 c2 => ?_⟩
  · rcases List.mem_append.mp ht with h | h
    · exact g.lo t h
    · rw [List.mem_singleton.mp h]; exact s0
  · rcases List.mem_append.mp ht with h | h
    · exact g.hi t h
    · rw [List.mem_singleton.mp h]; exact s1
  · rw [List.nodup_append]
    refine ⟨g.nd, by simp, fun a ha b hb e => ?_⟩
    rw [List.mem_singleton.mp hb] at e
    exact sT (e ▸ ha)
  · unfold tkn
    rw [Bool.or_eq_true, decide_eq_true_eq, g.tk y y0 y1, mem_plc hr ⟨y0, y1⟩]
    constructor
    · rintro (⟨t, ht, h⟩ | h)
      · exact ⟨t, List.mem_append_left _ ht, h⟩
      · exact ⟨s, by simp, h⟩
    · rintro ⟨t, ht, h⟩
      rcases List.mem_append.mp ht with h' | h'
      · exact .inl ⟨t, h', h⟩
      · rw [List.mem_singleton.mp h'] at h
        exact .inr h
  · rcases List.mem_append.mp ht with h | h <;> rcases List.mem_append.mp hu with h' | h'
    · exact g.u y t u h h' c1 c2
    · rw [List.mem_singleton.mp h'] at c2
      exact (cross y t h c1 c2).elim
    · rw [List.mem_singleton.mp h] at c1
      exact (cross y u h' c2 c1).elim
    · rw [List.mem_singleton.mp h, List.mem_singleton.mp h']
theorem opn_step {tk : Int → Bool} {x b : Int} (hx : x ∈ opn n tk) (hb : b ∈ r) (hc : (plc n r ((x - b) % n)).any tk = false) : (opn n (tkn n r tk ((x - b) % n))).length + r.length = (opn n tk).length := by
  obtain ⟨s, hs⟩ : ∃ s, s = (x - b) % n := ⟨_, rfl⟩
  rw [← hs] at hc ⊢
  have hpl : ((rgI 0 n).filter fun y => decide (y ∈ plc n r s)).length = r.length := by
    have e : ((rgI 0 n).filter fun y => decide (y ∈ plc n r s)) = mv n r s := by
      unfold mv
      refine List.filter_congr fun y hy => ?_
      have := mem_plc hr (s := s) (mem_rgI.mp hy)
      rw [Bool.eq_iff_iff, decide_eq_true_eq, decide_eq_true_eq, this]
    rw [e, hr.mv_len]
  have key : ∀ l : List Int, (∀ y ∈ l, y ∈ plc n r s → tk y = false) → (l.filter fun y => !tkn n r tk s y).length + (l.filter fun y => decide (y ∈ plc n r s)).length = (l.filter fun y => !tk y).length := fun l => by
    induction l with
    | nil => intro _; rfl
    | cons y l ih =>
      intro h
      have ih' := ih fun z hz => h z (List.mem_cons_of_mem _ hz)
      have hy := h y List.mem_cons_self
      simp only [List.filter_cons, tkn] at ih' ⊢
      by_cases m : y ∈ plc n r s
      · have t := hy m
        simp only [m, t, decide_true, Bool.false_or, Bool.not_true, Bool.not_false, if_true, List.length_cons]
        simp only [if_neg (show ¬ (false = true) by decide)]
        omega
      · simp only [m, decide_false, Bool.or_false, if_neg (show ¬ (false = true) by decide)]
        split
        · simp only [List.length_cons]
          omega
        · exact ih'
  have := key (rgI 0 n) fun y _ hy => by
    have := (List.any_eq_false.mp hc) y hy
    simpa using this
  rw [hpl] at this
  exact this
theorem grw_full {T : List Int} {tk : Int → Bool} (g : Gs n r T tk) (ho : opn n tk = []) (S : List Int) : S ∈ [srt T] ↔ Canon n r S ∧ ∀ t ∈ T, t ∈ S := by
  have hp := hr.pos
  have all : ∀ x, 0 ≤ x → x < n → ∃ t ∈ T, Clp n r t x := fun x h1 h2 => by
    refine (g.tk x h1 h2).mp ?_
    cases h : tk x with
    | true => rfl
    | false =>
      have : x ∈ opn n tk := mem_opn.mpr ⟨⟨h1, h2⟩, h⟩
      rw [ho] at this
      cases this
  rw [List.mem_singleton]
  constructor
  · rintro rfl
    refine ⟨⟨⟨?_, fun x hx => g.lo x (mem_srt.mp hx), fun x hx => g.hi x (mem_srt.mp hx), srt_lt g.nd⟩, fun x h1 h2 => ?_, fun x t u ht hu => g.u x t u (mem_srt.mp ht) (mem_srt.mp hu)⟩, fun t ht => mem_srt.mpr ht⟩
    · obtain ⟨t, ht⟩ := List.exists_mem_of_ne_nil _ g.ne
      exact List.ne_nil_of_mem (mem_srt.mpr ht)
    · obtain ⟨t, ht, h⟩ := all x h1 h2
      exact ⟨t, mem_srt.mpr ht, h⟩
  · rintro ⟨c, h⟩
    refine pw_ext c.s.pw (srt_lt g.nd) fun s => ?_
    rw [mem_srt]
    refine ⟨fun hs => ?_, h s⟩
    obtain ⟨b, hb⟩ := List.exists_mem_of_ne_nil _ hr.ne
    have sb : Clp n r s ((s + b) % n) := by
      rw [clp_mod]
      unfold Clp
      rw [show s + b - s = b by omega, Int.emod_eq_of_lt (hr.lo b hb) (hr.hi b hb)]
      exact hb
    obtain ⟨t, ht, h2⟩ := all ((s + b) % n) (Int.emod_nonneg _ (by omega)) (Int.emod_lt_of_pos _ hp)
    rw [c.u _ s t hs (h t ht) sb h2]
    exact ht
theorem grw_mem : ∀ (j : Nat) (T : List Int) (tk : Int → Bool), Gs n r T tk → (opn n tk).length ≤ j → ∀ S, S ∈ grw j n r T tk ↔ Canon n r S ∧ ∀ t ∈ T, t ∈ S
  | 0, T, tk, g, hj, S => by
    have ho : opn n tk = [] := List.length_eq_zero_iff.mp (by omega)
    rw [grw, if_pos ho]
    exact grw_full hr g ho S
  | j + 1, T, tk, g, hj, S => by
    rw [grw]
    cases ho : opn n tk with
    | nil => exact grw_full hr g ho S
    | cons x rest =>
      have hx : x ∈ opn n tk := by rw [ho]; exact List.mem_cons_self
      obtain ⟨hx1, hx2⟩ := mem_opn.mp hx
      have hl : 0 < r.length := List.length_pos_iff.mpr hr.ne
      simp only [List.mem_flatMap]
      constructor
      · rintro ⟨b, hb, h⟩
        cases hc : (plc n r ((x - b) % n)).any tk with
        | true =>
          rw [hc, if_pos rfl] at h
          cases h
        | false =>
          rw [hc, if_neg (by decide)] at h
          have os := opn_step hr hx hb hc
          have := (grw_mem j _ _ (Gs.step hr g hx hb hc) (by omega) S).mp h
          exact ⟨this.1, fun t ht => this.2 t (List.mem_append_left _ ht)⟩
      · rintro ⟨c, h⟩
        obtain ⟨s, hs, hsx⟩ := c.c x hx1.1 hx1.2
        have e : (x - (x - s) % n) % n = s := by
          rw [Int.sub_emod_emod, show x - (x - s) = s by omega, Int.emod_eq_of_lt (c.s.lo s hs) (c.s.hi s hs)]
        refine ⟨(x - s) % n, hsx, ?_⟩
        have hc : (plc n r ((x - (x - s) % n) % n)).any tk = false := by
          rw [e, List.any_eq_false]
          intro y hy ht
          have hy' := plc_rg hr hy
          have c1 := (mem_plc hr hy').mp hy
          obtain ⟨t, ht, c2⟩ := (g.tk y hy'.1 hy'.2).mp ht
          have := c.u y s t hs (h t ht) c1 c2
          rw [← this] at ht
          have := (g.tk x hx1.1 hx1.2).mpr ⟨s, ht, hsx⟩
          rw [hx2] at this
          cases this
        rw [hc, if_neg (by decide)]
        have os := opn_step hr hx hsx hc
        refine (grw_mem j _ _ (Gs.step hr g hx hsx hc) (by omega) S).mpr ⟨c, fun t ht => ?_⟩
        rcases List.mem_append.mp ht with ht | ht
        · exact h t ht
        · rw [List.mem_singleton.mp ht, e]
          exact hs
end
end Cl
set_option Elab.async false
set_option linter.all false
set_option maxRecDepth 100000
set_option maxHeartbeats 1000000
namespace Cl
open PySem
/-- a loop, its state told by what was walked -/
theorem for_pre {α : Type} {f : D → Env → R Fl} {e : α → D} (l : List α) (I : List α → Env → Prop) (h : ∀ p x q, l = p ++ x :: q → ∀ env, I p env → ∃ env', f (e x) env = .ok (.nx env') ∧ I (p ++ [x]) env') (env : Env) (h0 : I [] env) : ∃ env', forL f (l.map e) env = .ok (.nx env') ∧ I l env' := by
  have gen : ∀ (q p : List α), l = p ++ q → ∀ env, I p env → ∃ env', forL f (q.map e) env = .ok (.nx env') ∧ I l env' := by
    intro q
    induction q with
    | nil =>
      intro p hp env hI
      rw [List.append_nil] at hp
      subst hp
      exact ⟨env, rfl, hI⟩
    | cons x q ih =>
      intro p hp env hI
      obtain ⟨e1, h1, h2⟩ := h p x q hp env hI
      obtain ⟨e2, h3, h4⟩ := ih (p ++ [x]) (by rw [hp]; simp) e1 h2
      exact ⟨e2, by simp [forL, h1, h3], h4⟩
  exact gen l [] rfl env h0
section
variable {n : Int} {r : List Int} (hr : IsSet n r)
include hr
theorem grw_nodup : ∀ (j : Nat) (T : List Int) (tk : Int → Bool), Gs n r T tk → (opn n tk).length ≤ j → (grw j n r T tk).Nodup
  | 0, T, tk, g, hj => by
    rw [grw]
    split <;> simp
  | j + 1, T, tk, g, hj => by
    rw [grw]
    cases ho : opn n tk with
    | nil => simp
    | cons x rest =>
      have hx : x ∈ opn n tk := by rw [ho]; exact List.mem_cons_self
      obtain ⟨hx1, hx2⟩ := mem_opn.mp hx
      have hl : 0 < r.length := List.length_pos_iff.mpr hr.ne
      show ((r.flatMap fun b => if (plc n r ((x - b) % n)).any tk then [] else grw j n r (T ++ [(x - b) % n]) (tkn n r tk ((x - b) % n))).Pairwise (· ≠ ·))
      rw [List.pairwise_flatMap]
      refine ⟨fun b hb => ?_, hr.nd.imp_of_mem fun {b b'} hb hb' hne S hS S' hS' e => hne ?_⟩
      · cases hc : (plc n r ((x - b) % n)).any tk with
        | true => rw [if_pos rfl]; exact List.Pairwise.nil
        | false =>
          rw [if_neg (by decide)]
          have os := opn_step hr hx hb hc
          exact grw_nodup j _ _ (Gs.step hr g hx hb hc) (by omega)
      · subst e
        have get : ∀ b ∈ r, S ∈ (if (plc n r ((x - b) % n)).any tk then [] else grw j n r (T ++ [(x - b) % n]) (tkn n r tk ((x - b) % n))) → Canon n r S ∧ (x - b) % n ∈ S := fun b hb h => by
          cases hc : (plc n r ((x - b) % n)).any tk with
          | true =>
            rw [hc, if_pos rfl] at h
            cases h
          | false =>
            rw [hc, if_neg (by decide)] at h
            have os := opn_step hr hx hb hc
            have := (grw_mem hr j _ _ (Gs.step hr g hx hb hc) (by omega) S).mp h
            exact ⟨this.1, this.2 _ (by simp)⟩
        obtain ⟨c, m1⟩ := get b hb hS
        obtain ⟨_, m2⟩ := get b' hb' hS'
        have e := c.u x _ _ m1 m2 (start_clp hr hb hx1) (start_clp hr hb' hx1)
        have back : ∀ b ∈ r, (x - (x - b) % n) % n = b := fun b hb => by
          rw [Int.sub_emod_emod, show x - (x - b) = b by omega, Int.emod_eq_of_lt (hr.lo b hb) (hr.hi b hb)]
        rw [← back b hb, e, back b' hb']
theorem grw_len : ∀ (j : Nat) (T : List Int) (tk : Int → Bool), (grw j n r T tk).length ≤ 2 ^ (opn n tk).length
  | 0, T, tk => by
    rw [grw]
    split
    · rename_i h
      rw [h]
      simp
    · simp
  | j + 1, T, tk => by
    rw [grw]
    cases ho : opn n tk with
    | nil => simp
    | cons x rest =>
      have hx : x ∈ opn n tk := by rw [ho]; exact List.mem_cons_self
      simp only [List.length_flatMap]
      rw [← ho]
      have hle : ∀ b ∈ r, (if (plc n r ((x - b) % n)).any tk then [] else grw j n r (T ++ [(x - b) % n]) (tkn n r tk ((x - b) % n))).length * 2 ^ r.length ≤ 2 ^ (opn n tk).length := fun b hb => by
        cases hc : (plc n r ((x - b) % n)).any tk with
        | true => simp
        | false =>
          rw [if_neg (by decide)]
          have os := opn_step hr hx hb hc
          rw [← os, Nat.pow_add]
          exact Nat.mul_le_mul_right _ (grw_len j _ _)
      have sum : ∀ l : List Int, (∀ b ∈ l, b ∈ r) → (l.map fun b => (if (plc n r ((x - b) % n)).any tk then [] else grw j n r (T ++ [(x - b) % n]) (tkn n r tk ((x - b) % n))).length).sum * 2 ^ r.length ≤ l.length * 2 ^ (opn n tk).length := fun l => by
        induction l with
        | nil => simp
        | cons b l ih =>
          intro h
          have h1 := ih fun c hc => h c (List.mem_cons_of_mem _ hc)
          have h2 := hle b (h b List.mem_cons_self)
          simp only [List.map_cons, List.sum_cons, List.length_cons]
          rw [Nat.add_mul, Nat.add_mul]
          omega
      have s := sum r fun b hb => hb
      have p : r.length ≤ 2 ^ r.length := Nat.le_of_lt Nat.lt_two_pow_self
      have q : (r.map fun b => (if (plc n r ((x - b) % n)).any tk then [] else grw j n r (T ++ [(x - b) % n]) (tkn n r tk ((x - b) % n))).length).sum * 2 ^ r.length ≤ 2 ^ (opn n tk).length * 2 ^ r.length := by
        refine Nat.le_trans s ?_
        rw [Nat.mul_comm]
        exact Nat.mul_le_mul_left _ p
      exact Nat.le_of_mul_le_mul_right q (Nat.pow_pos (by decide))
end
/-! ### sorted lists of tuples -/
def leT (a b : List Int) : Bool := !decide (b < a)
def srtT (l : List (List Int)) : List (List Int) := isort leT l
theorem leT_iff {a b : List Int} : leT a b = true ↔ a ≤ b := by
  unfold leT
  simp
theorem dle_tI (a b : List Int) : dle (tI a) (tI b) = leT a b := by
  unfold dle leT
  rw [lt_tI]
theorem bi_sortedT {l : List (List Int)} (h : ∀ t ∈ l, t ≠ []) (hl : l.length ≤ lim) : biF .sorted [.lst (l.map tI)] = some (.lst ((srtT l).map tI)) := by
  have := isort_map (f := tI) dle_tI l
  simp only [biF, okSort_tI l h, List.length_map, Bool.true_and, decide_eq_true_eq, hl, if_true, this]
  rfl
theorem bi_sorted_t (l : List Int) (h : l.length ≤ lim) : biF .sorted [tI l] = some (.lst ((srt l).map D.int)) := by
  have := isort_map (f := D.int) dle_int l
  unfold tI
  simp only [biF, okSort_int, List.length_map, Bool.true_and, decide_eq_true_eq, h, if_true, this]
  rfl
theorem mem_srtT {x : List Int} {l : List (List Int)} : x ∈ srtT l ↔ x ∈ l := isort_mem
theorem srtT_perm (l : List (List Int)) : (srtT l).Perm l := isort_perm
theorem srtT_pw (l : List (List Int)) : (srtT l).Pairwise (· ≤ ·) := (isort_sorted (le := leT) (fun a b c h1 h2 => leT_iff.mpr (List.le_trans (leT_iff.mp h1) (leT_iff.mp h2))) (fun a b => by
  rcases List.le_total a b with h | h
  · rw [leT_iff.mpr h]; rfl
  · rw [leT_iff.mpr h]; simp)).imp fun h => leT_iff.mp h
theorem srtT_lt {l : List (List Int)} (h : l.Nodup) : (srtT l).Pairwise (· < ·) := by
  have h1 := srtT_pw l
  have h2 : (srtT l).Nodup := (srtT_perm l).nodup_iff.mpr h
  have h3 := h1.and h2
  refine h3.imp fun ⟨a, b⟩ => ?_
  refine Classical.byContradiction fun hn => b ?_
  exact List.le_antisymm a (List.not_lt.mp hn)
theorem pwT_ext : ∀ {l m : List (List Int)}, l.Pairwise (· < ·) → m.Pairwise (· < ·) → (∀ x, x ∈ l ↔ x ∈ m) → l = m
  | [], [], _, _, _ => rfl
  | [], y :: m, _, _, h => by have := (h y).mpr List.mem_cons_self; cases this
  | x :: l, [], _, _, h => by have := (h x).mp List.mem_cons_self; cases this
  | x :: l, y :: m, h1, h2, h => by
    obtain ⟨a1, a2⟩ := List.pairwise_cons.mp h1
    obtain ⟨b1, b2⟩ := List.pairwise_cons.mp h2
    have irr : ∀ z : List Int, ¬ z < z := fun z => List.lt_irrefl z
    have e : x = y := by
      rcases List.mem_cons.mp ((h x).mp List.mem_cons_self) with e | e
      · exact e
      · rcases List.mem_cons.mp ((h y).mpr List.mem_cons_self) with e' | e'
        · exact e'.symm
        · exact (irr _ (List.lt_trans (b1 x e) (a1 y e'))).elim
    subst e
    congr 1
    refine pwT_ext a2 b2 fun z => ?_
    constructor
    · intro hz
      rcases List.mem_cons.mp ((h z).mp (List.mem_cons_of_mem _ hz)) with e | e
      · exact (irr _ (e ▸ a1 z hz)).elim
      · exact e
    · intro hz
      rcases List.mem_cons.mp ((h z).mpr (List.mem_cons_of_mem _ hz)) with e | e
      · exact (irr _ (e ▸ b1 z hz)).elim
      · exact e
/-! ### all canons with the beat 0 -/
def cans (n : Int) (r : List Int) : List (List Int) := srtT (grw n.toNat n r [0] fun x => decide (x ∈ r))
section
variable {n : Int} {r : List Int} (hr : IsSet n r)
include hr
theorem gs0 : Gs n r [0] fun x => decide (x ∈ r) := by
  have hp := hr.pos
  refine ⟨by simp, by simp, by simpa using hp, by simp, fun x h1 h2 => ?_, fun x t u ht hu _ _ => ?_⟩
  · simp only [List.mem_singleton, exists_eq_left, decide_eq_true_eq]
    unfold Clp
    rw [Int.sub_zero, Int.emod_eq_of_lt h1 h2]
  · rw [List.mem_singleton.mp ht, List.mem_singleton.mp hu]
theorem opn_le (tk : Int → Bool) : (opn n tk).length ≤ n.toNat := by
  have : (opn n tk).length ≤ (rgI 0 n).length := List.length_filter_le _ _
  simpa using this
theorem mem_cans {S : List Int} : S ∈ cans n r ↔ Canon n r S ∧ 0 ∈ S := by
  unfold cans
  rw [mem_srtT, grw_mem hr _ _ _ (gs0 hr) (opn_le hr _)]
  simp
theorem cans_pw : (cans n r).Pairwise (· < ·) := srtT_lt (grw_nodup hr _ _ _ (gs0 hr) (opn_le hr _))
theorem canon_len {S : List Int} (c : Canon n r S) : (r.length : Int) * S.length = n := by
  have h1 := sum_cnt hr S
  have h2 := (ones_iff hr.pos c.s).mpr c
  unfold clp at h2
  rw [h2] at h1
  rw [← h1]
  have : ∀ l : List Int, (l.map fun _ => (1 : Int)).sum = l.length := fun l => by
    induction l with
    | nil => rfl
    | cons x l ih => simp only [List.map_cons, List.sum_cons, ih, List.length_cons]; omega
  rw [this, length_rgI]
  have := hr.pos
  omega
end
end Cl
set_option Elab.async false
set_option linter.all false
set_option maxRecDepth 100000
set_option maxHeartbeats 1000000
namespace Cl
open PySem
/-! ### reading the second evaluator: equations -/
section
variable {cl : Nat → List D → R D} {cl2 : Nat → List W → Sto → R2 W} {env : Env2} {S : Sto} {e c : CE} {es : CEs} {a b o : ME} {ms ms' : MEs} {i j l f : Nat} {m : Str}
@[simp] theorem m_pu : ev2 cl cl2 (.pu e) env S = (evP cl e env S).bind fun d S => .ok (.d d) S := rfl
@[simp] theorem m_al : ev2 cl cl2 (.al i) env S = ofO2 S ((getL env i).map W.l) := rfl
@[simp] theorem m_ls : ev2 cl cl2 (.ls es) env S = (evsP cl es env S).bind fun ds S => if ds.length ≤ lim then .ok (.l S.length) (S ++ [.ls (ds.map W.d)]) else .bad := rfl
@[simp] theorem m_nw : ev2 cl cl2 (.nw es) env S = (evsP cl es env S).bind fun ds S => newB cl ds S := rfl
@[simp] theorem m_ca : ev2 cl cl2 (.ca f ms) env S = (evs2 cl cl2 ms env S).bind fun ws S => cl2 f ws S := rfl
@[simp] theorem m_mt : ev2 cl cl2 (.mt f m o ms) env S = if bandF.contains m then .bad else (ev2 cl cl2 o env S).bind fun w S => match w with
    | .l n => if isBd S[n]? then (evs2 cl cl2 ms env S).bind fun ws S => cl2 f (.l n :: ws) S else .bad
    | _ => .bad := rfl
@[simp] theorem m_cm {op : COp} : ev2 cl cl2 (.cm op a b) env S = (ev2 cl cl2 a env S).bind fun x S => (ev2 cl cl2 b env S).bind fun y S => cmpW op x y S := rfl
@[simp] theorem m_ad : ev2 cl cl2 (.ad a b) env S = (ev2 cl cl2 a env S).bind fun x S => (ev2 cl cl2 b env S).bind fun y S => addW x y S := rfl
@[simp] theorem m_li : ev2 cl cl2 (.li ms) env S = (evs2 cl cl2 ms env S).bind fun ws S => match dsW ws with
    | some ds => if ds.length ≤ lim then .ok (.d (.lst ds)) S else .bad
    | none => .bad := rfl
@[simp] theorem m_po : ev2 cl cl2 (.po i) env S = (ofO2 S (getL env i)).bind fun n S => popW n S := rfl
@[simp] theorem m_it : ev2 cl cl2 (.it c a b) env S = (evTP cl c env S).bind fun k S => if k then ev2 cl cl2 a env S else ev2 cl cl2 b env S := rfl
@[simp] theorem m_fl : ev2 cl cl2 (.fl i j) env S = ofO2 S ((getFl env S i j).map W.l) := rfl
@[simp] theorem m_ln : ev2 cl cl2 (.ln f a) env S = (ev2 cl cl2 a env S).bind fun _ _ => .bad := rfl
@[simp] theorem m_ll : ev2 cl cl2 (.ll a) env S = (ev2 cl cl2 a env S).bind fun w S => copW w S := rfl
@[simp] theorem y_fpar {js : List Nat} : ex2 cl cl2 (.fpar i js ms) env S = if 1000 < js.length then .bad else (evs2 cl cl2 ms env S).bind fun ws S => (ofO2 S (getL env i)).bind fun n S => nxO env (fsetsW n js ws S) := rfl
@[simp] theorem y_tryo {p : MSs} {k : Nat} : ex2 cl cl2 (.tryo p i j k) env S = if p.still && decide (i ≠ j) then catchO env j k (exs2 cl cl2 p env S) else .bad := rfl
@[simp] theorem ms_nil : evs2 cl cl2 .nil env S = .ok [] S := rfl
@[simp] theorem ms_cons : evs2 cl cl2 (.cons a ms) env S = (ev2 cl cl2 a env S).bind fun w S => (evs2 cl cl2 ms env S).bind fun ws S => .ok (w :: ws) S := rfl
@[simp] theorem mt_pu : ev2T cl cl2 (.pu e) env S = evTP cl e env S := rfl
@[simp] theorem mt_cm {op : COp} : ev2T cl cl2 (.cm op a b) env S = (ev2 cl cl2 (.cm op a b) env S).bind fun w S => liftR S (boolW w) := rfl
@[simp] theorem mt_oo : ev2T cl cl2 (.oo a b) env S = (ev2T cl cl2 a env S).bind fun k S => if k then .ok true S else ev2T cl cl2 b env S := rfl
@[simp] theorem mt_o1 : ev2T cl cl2 (.o1 a) env S = ev2T cl cl2 a env S := rfl
@[simp] theorem y_asg : ex2 cl cl2 (.asg i a) env S = (ev2 cl cl2 a env S).bind fun w S => .ok (.nx (env.set i (some w))) S := rfl
@[simp] theorem y_par {sw : Bool} {is : List Nat} : ex2 cl cl2 (.par sw is ms) env S = if (sw = true ∧ is.length ≠ 2 ∧ is.length ≠ 3) ∨ 1000 < is.length then .bad else (evs2 cl cl2 ms env S).bind fun ws S => (ofO2 S (setAll2 is ws env)).bind fun env' S => .ok (.nx env') S := rfl
@[simp] theorem y_upi {is : List Nat} : ex2 cl cl2 (.upi is c ms ms') env S = if 1000 < is.length then .bad else (evTP cl c env S).bind fun k S => (if k then evs2 cl cl2 ms env S else evs2 cl cl2 ms' env S).bind fun ws S => (ofO2 S (setAll2 is ws env)).bind fun env' S => .ok (.nx env') S := rfl
@[simp] theorem y_app : ex2 cl cl2 (.app i e) env S = if (getLs S ((getL env i).getD 0)).isSome then (ofO2 S (getL env i)).bind fun n S => (evP cl e env S).bind fun d S => nxO env (appW n d S) else .bad := rfl
@[simp] theorem y_fset : ex2 cl cl2 (.fset i j a) env S = (ev2 cl cl2 a env S).bind fun w S => (ofO2 S (getL env i)).bind fun n S => nxO env (fsetW n j w S) := rfl
@[simp] theorem y_fapp : ex2 cl cl2 (.fapp i j e) env S = if (getLs S ((getFl env S i j).getD 0)).isSome then (ofO2 S (getFl env S i j)).bind fun n S => (evP cl e env S).bind fun d S => nxO env (appW n d S) else .bad := rfl
@[simp] theorem y_fpop : ex2 cl cl2 (.fpop i j l) env S = (ofO2 S (getFl env S i l)).bind fun n S => (popW n S).bind fun w S => (ofO2 S (getL env i)).bind fun n S => nxO env (fsetW n j w S) := rfl
@[simp] theorem y_exp : ex2 cl cl2 (.exp a) env S = (ev2 cl cl2 a env S).bind fun _ S => .ok (.nx env) S := rfl
@[simp] theorem y_ite {p q : MSs} : ex2 cl cl2 (.ite a p q) env S = (ev2T cl cl2 a env S).bind fun k S => if k then exs2 cl cl2 p env S else exs2 cl cl2 q env S := rfl
@[simp] theorem y_for {t : Tg} {it : CI} {p : MSs} : ex2 cl cl2 (.forr t it p) env S = (evIP cl it env S).bind fun ds S => forL2 (fun d e S => (ofO2 S (setTg2 t d e)).bind fun e1 S => exs2 cl cl2 p e1 S) ds env S := rfl
@[simp] theorem y_whl {p : MSs} : ex2 cl cl2 (.whl c p) env S = whileL2 (evTP cl c) (exs2 cl cl2 p) 100 env S := rfl
@[simp] theorem y_ret : ex2 cl cl2 (.ret a) env S = (ev2 cl cl2 a env S).bind fun w S => .ok (.rt w) S := rfl
@[simp] theorem y_retO : ex2 cl cl2 (.retO i) env S = (ofO2 S (getL env i)).bind fun n S => (ofO2 S ((getLs S n).bind dsW)).bind fun ds S => .ok (.rt (.d (.lst ds))) (S.set n .dead) := rfl
@[simp] theorem y_rse {k : Nat} : ex2 cl cl2 (.rse k) env S = .exc k S := rfl
@[simp] theorem y_try {p : MSs} {h : HE} : ex2 cl cl2 (.tryx p i j h) env S = catch2 (fun c S => (ofO2 S (evh c h)).bind fun d S => .ok (.rt (.d d)) S) (exs2 cl cl2 p env S) := rfl
@[simp] theorem ys_nil : exs2 cl cl2 .nil env S = .ok (.nx env) S := rfl
@[simp] theorem ys_cons {s : MS} {p : MSs} : exs2 cl cl2 (.cons s p) env S = (ex2 cl cl2 s env S).bind (Fl2.next fun env' S => exs2 cl cl2 p env' S) := rfl
theorem evP_eq : evP cl e env S = liftR S ((evV cl e (proj S env)).bind nobR) := rfl
theorem evsP_eq : evsP cl es env S = liftR S ((evs cl es (proj S env)).bind nobsR) := rfl
theorem evTP_eq : evTP cl e env S = liftR S (evT cl e (proj S env)) := rfl
theorem evP_of {d : D} (h : evV cl e (proj S env) = .ok d) (hn : d.nob = true) : evP cl e env S = .ok d S := by rw [evP_eq, h]; simp [nobR, hn]
theorem evP_exc {k : Nat} (h : evV cl e (proj S env) = .exc k) : evP cl e env S = .exc k S := by rw [evP_eq, h]; rfl
theorem evsP_of {ds : List D} (h : evs cl es (proj S env) = .ok ds) (hn : D.nobs ds = true) : evsP cl es env S = .ok ds S := by rw [evsP_eq, h]; simp [nobsR, hn]
theorem evTP_of {k : Bool} (h : evT cl e (proj S env) = .ok k) : evTP cl e env S = .ok k S := by rw [evTP_eq, h]; rfl
@[simp] theorem nx_nx {k : Env2 → Sto → R2 Fl2} : Fl2.next k (.nx env) S = k env S := rfl
@[simp] theorem nx_rt {k : Env2 → Sto → R2 Fl2} {w : W} : Fl2.next k (.rt w) S = .ok (.rt w) S := rfl
@[simp] theorem out2_nx : outR2 (.ok (.nx env) S) = .ok (.d .non) S := rfl
@[simp] theorem out2_rt {w : W} : outR2 (.ok (.rt w) S) = .ok w S := rfl
@[simp] theorem out2_exc {k : Nat} : outR2 (.exc k S) = .exc k S := rfl
@[simp] theorem catch2_exc {α : Type} {g : Nat → Sto → R2 α} {k : Nat} : catch2 g (.exc k S) = g k S := rfl
@[simp] theorem catch2_ok {α : Type} {g : Nat → Sto → R2 α} {x : α} : catch2 g (.ok x S) = .ok x S := rfl
@[simp] theorem dsW_map : ∀ ds : List D, dsW (ds.map W.d) = some ds
  | [] => rfl
  | d :: ds => by simp [dsW, dsW_map ds]
@[simp] theorem dsW_nil : dsW [] = some [] := rfl
@[simp] theorem boolW_bl {k : Bool} : boolW (.d (.bl k)) = .ok k := rfl
@[simp] theorem valD_d {d : D} : valD S (.d d) = some d := rfl
theorem exs2_nx {s : MS} {p : MSs} {e1 : Env2} {S1 : Sto} (h : ex2 cl cl2 s env S = .ok (.nx e1) S1) : exs2 cl cl2 (.cons s p) env S = exs2 cl cl2 p e1 S1 := by simp [h]
end
@[simp] theorem nobs_ints (l : List Int) : D.nobs (l.map D.int) = true := by induction l with | nil => rfl | cons x l ih => simp [D.nobs, D.nob, ih]
@[simp] theorem nob_tI (l : List Int) : (D.tup (l.map D.int)).nob = true := nobs_ints l
@[simp] theorem nob_lI (l : List Int) : (D.lst (l.map D.int)).nob = true := nobs_ints l
@[simp] theorem nob_int (i : Int) : (D.int i).nob = true := rfl
@[simp] theorem nob_bl (i : Bool) : (D.bl i).nob = true := rfl
@[simp] theorem nob_non : D.non.nob = true := rfl
@[simp] theorem nob_str (x : Str) : (D.str x).nob = true := rfl
@[simp] theorem nobs_nil : D.nobs [] = true := rfl
@[simp] theorem nobs_cons (d : D) (ds : List D) : D.nobs (d :: ds) = (d.nob && D.nobs ds) := rfl
@[simp] theorem nob_tup (ds : List D) : (D.tup ds).nob = D.nobs ds := rfl
@[simp] theorem nob_lst (ds : List D) : (D.lst ds).nob = D.nobs ds := rfl
end Cl
set_option Elab.async false
set_option linter.all false
set_option maxRecDepth 100000
namespace Cl
open PySem
/-- 0 value 1 least 2 most -/
def F_is_int : Fn := ⟨3, 3, (.cons (.ret (.and (.isi .int (.var 0)) (.and (.not (.isi .bool (.var 0))) (.one (.chn .le .le (.var 1) (.var 0) (.var 2)))))) .nil)⟩
/-- 0 candidate -/
def F_is_cycle : Fn := ⟨1, 1, (.cons (.ret (.call 0 (.cons (.var 0) (.cons (.cst (.int 1)) (.cons (.glo "MAX_CYCLE" ((.int 24))) .nil))))) .nil)⟩
/-- 0 cycle 1 candidate 2 beat 3 one 4 other -/
def C_has_set1 : CE := .lc (.call 0 (.cons (.var 2) (.cons (.cst (.int 0)) (.cons (.bin .sub (.var 0) (.cst (.int 1))) .nil)))) (.nm 2) (.tup (.var 1)) .none [2]
@[simp] theorem C_has_set1_b : C_has_set1.isBor = false := rfl
@[simp] theorem C_has_set1_n : C_has_set1.isNew = true := rfl
def C_has_set2 : CE := .lc (.cmp .lt (.var 3) (.var 4)) (.tp [3, 4]) (.zip (.var 1) (.slc (.var 1) (.some (.cst (.int 1))) .none)) .none [3, 4]
@[simp] theorem C_has_set2_b : C_has_set2.isBor = false := rfl
@[simp] theorem C_has_set2_n : C_has_set2.isNew = true := rfl
def F_has_set : Fn := ⟨2, 5, (.cons (.ite (.or (.not (.isi .tuple (.var 1))) (.one (.cmp .eq (.var 1) (.tup .nil)))) (.cons (.ret (.cst (.bl false))) .nil) .nil) (.cons (.ite (.not (.bi .all (.cons (C_has_set1) .nil))) (.cons (.ret (.cst (.bl false))) .nil) .nil) (.cons (.ret (.bi .all (.cons (C_has_set2) .nil))) .nil)))⟩
/-- 0 value -/
def F_check_cycle : Fn := ⟨1, 1, (.cons (.ite (.not (.call 1 (.cons (.var 0) .nil))) (.cons (.rse 1) .nil) .nil) .nil)⟩
/-- 0 cycle 1 value -/
def F_check_set : Fn := ⟨2, 2, (.cons (.exp (.call 3 (.cons (.var 0) .nil))) (.cons (.ite (.not (.call 2 (.cons (.var 0) (.cons (.var 1) .nil)))) (.cons (.rse 2) .nil) .nil) .nil))⟩
/-- 0 value 1 least 2 most -/
def F_check_number : Fn := ⟨3, 3, (.cons (.ite (.not (.call 0 (.cons (.var 0) (.cons (.var 1) (.cons (.var 2) .nil))))) (.cons (.rse 3) .nil) .nil) .nil)⟩
/-- 0 cycle 1 beats 2 number 3 beat -/
def C_move_by1 : CE := .lc (.bin .mod (.bin .add (.var 3) (.var 2)) (.var 0)) (.nm 3) (.tup (.var 1)) .none [3]
@[simp] theorem C_move_by1_b : C_move_by1.isBor = false := rfl
@[simp] theorem C_move_by1_n : C_move_by1.isNew = true := rfl
def F_move_by : Fn := ⟨3, 4, (.cons (.ret (.bi .tuple (.cons (.bi .sorted (.cons (C_move_by1) .nil)) .nil))) .nil)⟩
/-- 0 cycle 1 rhythm 2 starts 3 found 4 start 5 beat 6 place -/
def S_find_claps1 : CSs := (.cons (.asg 6 (.bin .mod (.bin .add (.var 5) (.var 4)) (.var 0))) (.cons (.six 3 (.var 6) (.bin .add (.idx (.bor 3) (.var 6)) (.cst (.int 1)))) .nil))
def S_find_claps2 : CSs := (.cons (.forr (.nm 5) (.tup (.var 1)) S_find_claps1) .nil)
def F_find_claps : Fn := ⟨3, 7, (.cons (.own 3 (.bin .mul (.lst (.cons (.cst (.int 0)) .nil)) (.var 0))) (.cons (.forr (.nm 4) (.tup (.var 2)) S_find_claps2) (.cons (.retO 3) .nil)))⟩
/-- 0 cycle 1 rhythm 2 starts -/
def F_check_both : Fn := ⟨3, 3, (.cons (.exp (.call 4 (.cons (.var 0) (.cons (.var 1) .nil)))) (.cons (.exp (.call 4 (.cons (.var 0) (.cons (.var 2) .nil)))) .nil))⟩
/-- 0 cycle 1 rhythm 2 starts -/
def F_claps : Fn := ⟨3, 3, (.cons (.exp (.call 21 (.cons (.var 0) (.cons (.var 1) (.cons (.var 2) .nil))))) (.cons (.ret (.call 20 (.cons (.var 0) (.cons (.var 1) (.cons (.var 2) .nil))))) .nil))⟩
/-- 0 cycle 1 rhythm 2 starts -/
def F_has_ones : Fn := ⟨3, 3, (.cons (.ret (.cmp .eq (.call 20 (.cons (.var 0) (.cons (.var 1) (.cons (.var 2) .nil)))) (.bin .mul (.lst (.cons (.cst (.int 1)) .nil)) (.var 0)))) .nil)⟩
/-- 0 cycle 1 rhythm 2 starts -/
def F_is_canon : Fn := ⟨3, 3, (.cons (.exp (.call 21 (.cons (.var 0) (.cons (.var 1) (.cons (.var 2) .nil))))) (.cons (.ret (.call 23 (.cons (.var 0) (.cons (.var 1) (.cons (.var 2) .nil))))) .nil))⟩
/-- 0 cycle 1 rhythm 2 starts -/
def F_is_packing : Fn := ⟨3, 3, (.cons (.exp (.call 21 (.cons (.var 0) (.cons (.var 1) (.cons (.var 2) .nil))))) (.cons (.ret (.cmp .le (.bi .max (.cons (.call 20 (.cons (.var 0) (.cons (.var 1) (.cons (.var 2) .nil)))) .nil)) (.cst (.int 1)))) .nil))⟩
/-- 0 cycle 1 rhythm 2 distance 3 beat -/
def C_count_common1 : CE := .lc (.var 3) (.nm 3) (.tup (.call 7 (.cons (.var 0) (.cons (.var 1) (.cons (.var 2) .nil))))) (.some (.cmp .isin (.var 3) (.var 1))) [3]
@[simp] theorem C_count_common1_b : C_count_common1.isBor = false := rfl
@[simp] theorem C_count_common1_n : C_count_common1.isNew = true := rfl
def F_count_common : Fn := ⟨3, 4, (.cons (.ret (.bi .len (.cons (C_count_common1) .nil))) .nil)⟩
/-- 0 cycle 1 rhythm 2 distance -/
def C_find_counts1 : CE := .lc (.call 49 (.cons (.var 0) (.cons (.var 1) (.cons (.var 2) .nil)))) (.nm 2) (.rng (.cons (.var 0) .nil)) .none [2]
@[simp] theorem C_find_counts1_b : C_find_counts1.isBor = false := rfl
@[simp] theorem C_find_counts1_n : C_find_counts1.isNew = true := rfl
def F_find_counts : Fn := ⟨2, 3, (.cons (.ret (C_find_counts1)) .nil)⟩
/-- 0 cycle 1 rhythm 2 distance 3 many -/
def C_free_distances1 : CE := .lc (.var 2) (.tp [2, 3]) (.enum (.call 50 (.cons (.var 0) (.cons (.var 1) .nil)))) (.some (.cmp .eq (.var 3) (.cst (.int 0)))) [2, 3]
@[simp] theorem C_free_distances1_b : C_free_distances1.isBor = false := rfl
@[simp] theorem C_free_distances1_n : C_free_distances1.isNew = true := rfl
def F_free_distances : Fn := ⟨2, 4, (.cons (.exp (.call 4 (.cons (.var 0) (.cons (.var 1) .nil)))) (.cons (.ret (C_free_distances1)) .nil))⟩
/-- 0 script 1 k 2 many 3 cell 4 turn 5 rest -/
def T_law_drawn1 : CS := .asg 3 (.bin .mul (.cst (.int 7)) (.var 1))
def S_law_drawn1 : CSs := (.cons (.asg 5 (.bin .fdiv (.var 5) (.cst (.int 1000000)))) (.cons (.asg 4 (.bin .sub (.var 4) (.cst (.int 1)))) .nil))
def T_law_drawn2 : CS := .ite (.cmp .ne (.var 0) (.lst .nil)) (.cons (.asg 3 (.idx (.var 0) (.bin .mod (.var 1) (.bi .len (.cons (.var 0) .nil))))) (.cons (.asg 4 (.bin .fdiv (.var 1) (.bi .len (.cons (.var 0) .nil)))) (.cons (.ite (.and (.cmp .ge (.var 3) (.bin .pow (.cst (.int 10)) (.cst (.int 18)))) (.one (.cmp .lt (.var 4) (.cst (.int 60))))) (.cons (.asg 5 (.bin .fdiv (.var 3) (.bin .pow (.cst (.int 10)) (.cst (.int 18))))) (.cons (.whl (.and (.cmp .gt (.var 5) (.cst (.int 0))) (.one (.cmp .gt (.var 4) (.cst (.int 0))))) S_law_drawn1) (.cons (.ite (.cmp .gt (.var 5) (.cst (.int 0))) (.cons (.ret (.bin .mod (.bin .mod (.var 5) (.cst (.int 1000000))) (.var 2))) .nil) .nil) .nil))) .nil) (.cons (.asg 3 (.bin .add (.var 3) (.bin .mul (.cst (.int 6553)) (.bin .fdiv (.var 1) (.bi .len (.cons (.var 0) .nil)))))) .nil)))) .nil
def T_law_drawn3 : CS := .asg 3 (.bin .mod (.bin .add (.bin .mul (.bin .mod (.var 3) (.cst (.int 2147483563))) (.cst (.int 69069))) (.bin .mul (.cst (.int 104723)) (.bin .add (.var 1) (.cst (.int 1))))) (.cst (.int 2147483563)))
def T_law_drawn4 : CS := .asg 3 (.bin .mod (.bin .add (.bin .mul (.var 3) (.var 3)) (.bin .fdiv (.var 3) (.cst (.int 3)))) (.cst (.int 2147483399)))
def T_law_drawn5 : CS := .ret (.bin .mod (.bin .fdiv (.bin .mod (.bin .add (.bin .mul (.var 3) (.var 3)) (.bin .fdiv (.var 3) (.cst (.int 7)))) (.cst (.int 2147483647))) (.cst (.int 11))) (.var 2))
def F_law_drawn : Fn := ⟨3, 6, (.cons (T_law_drawn1) (.cons (T_law_drawn2) (.cons (T_law_drawn3) (.cons (T_law_drawn4) (.cons (T_law_drawn5) .nil)))))⟩
/-- 0 script 1 at 2 cycle 3 found 4 beat -/
def C_law_set1 : CE := .lc (.var 4) (.nm 4) (.rng (.cons (.var 2) .nil)) (.some (.cmp .eq (.call 66 (.cons (.var 0) (.cons (.bin .add (.bin .add (.var 1) (.cst (.int 1))) (.var 4)) (.cons (.cst (.int 3)) .nil)))) (.cst (.int 0)))) [4]
@[simp] theorem C_law_set1_b : C_law_set1.isBor = false := rfl
@[simp] theorem C_law_set1_n : C_law_set1.isNew = true := rfl
def F_law_set : Fn := ⟨3, 5, (.cons (.asg 3 (C_law_set1)) (.cons (.ret (.ite (.cmp .ne (.var 3) (.lst .nil)) (.bi .tuple (.cons (.var 3) .nil)) (.tup (.cons (.call 66 (.cons (.var 0) (.cons (.var 1) (.cons (.var 2) .nil)))) .nil)))) .nil))⟩
/-- 0 script 1 at 2 cycle 3 part 4 size 5 found 6 beat -/
def C_law_rhythm1 : CE := .lc (.var 4) (.nm 4) (.rng (.cons (.cst (.int 1)) (.cons (.bin .add (.var 2) (.cst (.int 1))) .nil))) (.some (.cmp .eq (.bin .mod (.var 2) (.var 4)) (.cst (.int 0)))) [4]
@[simp] theorem C_law_rhythm1_b : C_law_rhythm1.isBor = false := rfl
@[simp] theorem C_law_rhythm1_n : C_law_rhythm1.isNew = true := rfl
def S_law_rhythm1 : CSs := (.cons (.app 5 (.bin .mod (.bin .add (.var 6) (.bin .mul (.var 4) (.call 66 (.cons (.var 0) (.cons (.bin .add (.bin .add (.var 1) (.cst (.int 1))) (.var 6)) (.cons (.bin .fdiv (.var 2) (.var 4)) .nil)))))) (.var 2))) .nil)
def F_law_rhythm : Fn := ⟨3, 7, (.cons (.asg 3 (C_law_rhythm1)) (.cons (.asg 4 (.idx (.var 3) (.call 66 (.cons (.var 0) (.cons (.var 1) (.cons (.bi .len (.cons (.var 3) .nil)) .nil)))))) (.cons (.own 5 (.lst .nil)) (.cons (.forr (.nm 6) (.rng (.cons (.var 4) .nil)) S_law_rhythm1) (.cons (.ret (.ite (.cmp .eq (.call 66 (.cons (.var 0) (.cons (.bin .add (.var 1) (.cst (.int 25))) (.cons (.cst (.int 4)) .nil)))) (.cst (.int 0))) (.call 67 (.cons (.var 0) (.cons (.var 1) (.cons (.var 2) .nil)))) (.bi .tuple (.cons (.bi .sorted (.cons (.bor 5) .nil)) .nil)))) .nil)))))⟩
/-- 0 band 1 way 2 found 3 e -/
def T_law_ends1 : MS := .asg 2 (.ls (.cons (.mth 130 "starts" (.var 0) .nil) .nil))
def T_law_ends2 : MS := .exp (.mt 136 "undo" (.al 0) .nil)
def T_law_ends3 : MS := .exp (.mt 137 "redo" (.al 0) .nil)
def T_law_ends4 : MS := .ite (.pu (.cmp .eq (.var 1) (.cst (.int 0)))) (.cons (T_law_ends2) .nil) (.cons (T_law_ends3) .nil)
def T_law_ends5 : MS := .app 2 (.mth 130 "starts" (.var 0) .nil)
def T_law_ends6 : MS := .tryo (.cons (T_law_ends4) (.cons (T_law_ends5) .nil)) 3 2 12
def S_law_ends1 : MSs := (.cons (T_law_ends6) .nil)
def T_law_ends7 : MS := .whl (.cmp .lt (.bi .len (.cons (.bor 2) .nil)) (.cst (.int 40))) S_law_ends1
def T_law_ends8 : MS := .ret (.pu (.cst .non))
def B_law_ends : MSs := (.cons (T_law_ends1) (.cons (T_law_ends7) (.cons (T_law_ends8) .nil)))
/-- 0 script 1 cycle 2 rhythm 3 band 4 states 5 back 6 k 7 now 8 double 9 other 10 one -/
def T_law_back1 : MS := .asg 5 (.pu (.call 66 (.cons (.var 0) (.cons (.cst (.int 3)) (.cons (.bi .len (.cons (.bor 4) .nil)) .nil)))))
def T_law_back2 : MS := .exp (.mt 136 "undo" (.al 3) .nil)
def S_law_back1 : MSs := (.cons (T_law_back2) .nil)
def T_law_back3 : MS := .forr (.nm 6) (.rng (.cons (.var 5) .nil)) S_law_back1
def T_law_back4 : MS := .par true [7, 8] (.cons (.pu (.bin .sub (.bin .sub (.bi .len (.cons (.bor 4) .nil)) (.cst (.int 1))) (.var 5))) (.cons (.mt 139 "copy" (.al 3) .nil) .nil))
def T_law_back5 : MS := .ret (.pu (.cst (.bl false)))
def T_law_back6 : MS := .ite (.pu (.or (.cmp .ne (.mth 130 "starts" (.var 3) .nil) (.idx (.bor 4) (.var 7))) (.or (.not (.eqO false 138 (.var 8) (.var 3))) (.one (.eqO true 138 (.var 8) (.var 3)))))) (.cons (T_law_back5) .nil) .nil
def T_law_back7 : MS := .ret (.pu (.cst (.bl false)))
def T_law_back8 : MS := .ite (.oo (.cm .ne (.ca 110 (.cons (.al 8) (.cons (.pu (.cst (.int 1))) .nil))) (.pu (.slc (.bor 4) (.some (.var 7)) .none))) (.o1 (.cm .ne (.ca 110 (.cons (.al 8) (.cons (.pu (.cst (.int 0))) .nil))) (.pu (.rev (.bor 4)))))) (.cons (T_law_back7) .nil) .nil
def T_law_back9 : MS := .ret (.pu (.cst (.bl false)))
def T_law_back10 : MS := .ite (.pu (.eqO true 138 (.var 8) (.new (.cons (.var 1) (.cons (.var 2) .nil))))) (.cons (T_law_back9) .nil) .nil
def T_law_back11 : MS := .ret (.pu (.cst (.bl false)))
def T_law_back12 : MS := .ite (.pu (.or (.cmp .ne (.mth 130 "starts" (.var 3) .nil) (.idx (.bor 4) (.var 7))) (.one (.cmp .ne (.eqO false 138 (.var 8) (.var 3)) (.cmp .eq (.idx (.bor 4) (.var 7)) (.tup .nil)))))) (.cons (T_law_back11) .nil) .nil
def T_law_back13 : MS := .ret (.pu (.cst (.bl false)))
def T_law_back14 : MS := .ite (.pu (.eqO false 138 (.var 3) (.idx (.bor 4) (.var 7)))) (.cons (T_law_back13) .nil) .nil
def T_law_back15 : MS := .ret (.pu (.cst (.bl false)))
def T_law_back16 : MS := .ite (.cm .ne (.ca 110 (.cons (.mt 139 "copy" (.al 3) .nil) (.cons (.pu (.cst (.int 0))) .nil))) (.pu (.rev (.slc (.bor 4) .none (.some (.bin .add (.var 7) (.cst (.int 1)))))))) (.cons (T_law_back15) .nil) .nil
def T_law_back17 : MS := .asg 9 (.nw (.cons (.var 1) (.cons (.var 2) .nil)))
def T_law_back18 : MS := .exp (.mt 133 "join" (.al 9) (.cons (.pu (.var 10)) .nil))
def S_law_back2 : MSs := (.cons (T_law_back18) .nil)
def T_law_back19 : MS := .forr (.nm 10) (.tup (.revT (.idx (.bor 4) (.var 7)))) S_law_back2
def T_law_back20 : MS := .ret (.pu (.cst (.bl false)))
def T_law_back21 : MS := .ite (.pu (.or (.eqO true 138 (.var 9) (.var 3)) (.or (.not (.eqO false 138 (.var 9) (.var 3))) (.one (.cmp .ne (.mth 131 "claps" (.var 9) .nil) (.mth 131 "claps" (.var 3) .nil)))))) (.cons (T_law_back20) .nil) .nil
def T_law_back22 : MS := .ret (.pu (.and (.cmp .is (.eqO false 138 (.new (.cons (.cst (.int 8)) (.cons (.tup (.cons (.cst (.int 0)) .nil)) .nil))) (.new (.cons (.cst (.int 9)) (.cons (.tup (.cons (.cst (.int 0)) .nil)) .nil)))) (.cst (.bl false))) (.one (.cmp .is (.eqO false 138 (.new (.cons (.cst (.int 8)) (.cons (.tup (.cons (.cst (.int 0)) .nil)) .nil))) (.new (.cons (.cst (.int 8)) (.cons (.tup (.cons (.cst (.int 1)) .nil)) .nil)))) (.cst (.bl false))))))
def B_law_back : MSs := (.cons (T_law_back1) (.cons (T_law_back3) (.cons (T_law_back4) (.cons (T_law_back6) (.cons (T_law_back8) (.cons (T_law_back10) (.cons (T_law_back12) (.cons (T_law_back14) (.cons (T_law_back16) (.cons (T_law_back17) (.cons (T_law_back19) (.cons (T_law_back21) (.cons (T_law_back22) .nil)))))))))))))
/-- 0 script 1 cycle 2 rhythm 3 band 4 states 5 free 6 gap 7 start -/
def T_law1 : MS := .asg 1 (.pu (.bin .add (.cst (.int 1)) (.call 66 (.cons (.var 0) (.cons (.cst (.int 1)) (.cons (.cst (.int 12)) .nil))))))
def T_law2 : MS := .asg 2 (.pu (.call 68 (.cons (.var 0) (.cons (.cst (.int 10)) (.cons (.var 1) .nil)))))
def T_law3 : MS := .par true [3, 4] (.cons (.nw (.cons (.var 1) (.cons (.var 2) .nil))) (.cons (.ls (.cons (.tup .nil) .nil)) .nil))
def T_law4 : MS := .ret (.pu (.cst (.bl false)))
def T_law5 : MS := .ite (.pu (.or (.cmp .ne (.mth 135 "free" (.var 3) .nil) (.rgl (.cons (.var 1) .nil))) (.one (.cmp .ne (.mth 131 "claps" (.var 3) .nil) (.bin .mul (.lst (.cons (.cst (.int 0)) .nil)) (.var 1)))))) (.cons (T_law4) .nil) .nil
def T_law6 : MS := .asg 5 (.pu (.mth 135 "free" (.var 3) .nil))
def T_law7 : MS := .exp (.mt 133 "join" (.al 3) (.cons (.pu (.idx (.var 5) (.call 66 (.cons (.var 0) (.cons (.bin .add (.cst (.int 50)) (.bi .len (.cons (.bor 4) .nil))) (.cons (.bi .len (.cons (.var 5) .nil)) .nil)))))) .nil))
def T_law8 : MS := .app 4 (.mth 130 "starts" (.var 3) .nil)
def T_law9 : MS := .ret (.pu (.cst (.bl false)))
def T_law10 : MS := .ite (.pu (.cmp .isnot (.call 25 (.cons (.var 1) (.cons (.var 2) (.cons (.mth 130 "starts" (.var 3) .nil) .nil)))) (.cst (.bl true)))) (.cons (T_law9) .nil) .nil
def T_law11 : MS := .ret (.pu (.cst (.bl false)))
def T_law12 : MS := .ite (.pu (.cmp .ne (.mth 131 "claps" (.var 3) .nil) (.call 22 (.cons (.var 1) (.cons (.var 2) (.cons (.mth 130 "starts" (.var 3) .nil) .nil)))))) (.cons (T_law11) .nil) .nil
def S_law1 : MSs := (.cons (T_law6) (.cons (T_law7) (.cons (T_law8) (.cons (T_law10) (.cons (T_law12) .nil)))))
def T_law13 : MS := .whl (.and (.cmp .ne (.mth 135 "free" (.var 3) .nil) (.lst .nil)) (.one (.cmp .lt (.bi .len (.cons (.bor 4) .nil)) (.cst (.int 13))))) S_law1
def T_law14 : MS := .ret (.pu (.cst (.bl false)))
def T_law15 : MS := .ite (.pu (.cmp .ne (.cmp .eq (.bin .mul (.lenO 129 3) (.bi .len (.cons (.var 2) .nil))) (.var 1)) (.call 24 (.cons (.var 1) (.cons (.var 2) (.cons (.mth 130 "starts" (.var 3) .nil) .nil)))))) (.cons (T_law14) .nil) .nil
def T_law16 : MS := .asg 6 (.pu (.bin .sub (.idx (.mth 130 "starts" (.var 3) .nil) (.cst (.int 1))) (.idx (.mth 130 "starts" (.var 3) .nil) (.cst (.int 0)))))
def T_law17 : MS := .ret (.pu (.cst (.bl false)))
def T_law18 : MS := .ite (.pu (.cmp .notin (.var 6) (.call 52 (.cons (.var 1) (.cons (.var 2) .nil))))) (.cons (T_law17) .nil) .nil
def T_law19 : MS := .ite (.pu (.cmp .gt (.lenO 129 3) (.cst (.int 1)))) (.cons (T_law16) (.cons (T_law18) .nil)) .nil
def T_law20 : MS := .asg 7 (.pu (.idx (.mth 130 "starts" (.var 3) .nil) (.call 66 (.cons (.var 0) (.cons (.cst (.int 2)) (.cons (.lenO 129 3) .nil))))))
def T_law21 : MS := .exp (.mt 134 "leave" (.al 3) (.cons (.pu (.var 7)) .nil))
def T_law22 : MS := .app 4 (.mth 130 "starts" (.var 3) .nil)
def T_law23 : MS := .ret (.pu (.cst (.bl false)))
def T_law24 : MS := .ite (.pu (.or (.cmp .notin (.var 7) (.mth 135 "free" (.var 3) .nil)) (.one (.cmp .ne (.lenO 129 3) (.bin .sub (.bi .len (.cons (.idx (.bor 4) (.neg (.cst (.int 2)))) .nil)) (.cst (.int 1))))))) (.cons (T_law23) .nil) .nil
def T_law25 : MS := .ret (.ca 111 (.cons (.pu (.var 0)) (.cons (.pu (.var 1)) (.cons (.pu (.var 2)) (.cons (.al 3) (.cons (.al 4) .nil))))))
def B_law : MSs := (.cons (T_law1) (.cons (T_law2) (.cons (T_law3) (.cons (T_law5) (.cons (T_law13) (.cons (T_law15) (.cons (T_law19) (.cons (T_law20) (.cons (T_law21) (.cons (T_law22) (.cons (T_law24) (.cons (T_law25) .nil))))))))))))
/-- 0 self -/
def F_Band___len__ : Fn := ⟨1, 1, (.cons (.ret (.bi .len (.cons (.fld 0 2) .nil))) .nil)⟩
/-- 0 self 1 other -/
def F_Band___eq__ : Fn := ⟨2, 2, (.cons (.ite (.or (.not (.isB 0 (.var 1))) (.one (.cmp .ne (.fld 0 0) (.fld 1 0)))) (.cons (.ret (.cst (.bl false))) .nil) .nil) (.cons (.ret (.and (.cmp .eq (.fld 0 1) (.fld 1 1)) (.one (.cmp .eq (.fld 0 2) (.fld 1 2))))) .nil))⟩
/-- 0 self -/
def F_Band_starts : Fn := ⟨1, 1, (.cons (.ret (.fld 0 2)) .nil)⟩
/-- 0 self -/
def F_Band_claps : Fn := ⟨1, 1, (.cons (.ret (.call 20 (.cons (.fld 0 0) (.cons (.fld 0 1) (.cons (.fld 0 2) .nil))))) .nil)⟩
/-- 0 self 1 voices -/
def B_Band_change : MSs := (.cons (.fapp 0 3 (.fld 0 2)) (.cons (.fset 0 2 (.pu (.var 1))) (.cons (.fset 0 4 (.ls .nil)) .nil)))
/-- 0 self 1 start -/
def B_Band_join : MSs := (.cons (.exp (.pu (.call 5 (.cons (.var 1) (.cons (.cst (.int 0)) (.cons (.bin .sub (.fld 0 0) (.cst (.int 1))) .nil)))))) (.cons (.ite (.pu (.cmp .isin (.var 1) (.fld 0 2))) (.cons (.rse 10) .nil) .nil) (.cons (.exp (.mt 132 "change" (.al 0) (.cons (.pu (.bi .tuple (.cons (.bi .sorted (.cons (.bin .add (.fld 0 2) (.tup (.cons (.var 1) .nil))) .nil)) .nil))) .nil))) .nil)))
/-- 0 self 1 start 2 other -/
def C_Band_leave1 : CE := .lc (.var 2) (.nm 2) (.tup (.fld 0 2)) (.some (.cmp .ne (.var 2) (.var 1))) [2]
@[simp] theorem C_Band_leave1_b : C_Band_leave1.isBor = false := rfl
@[simp] theorem C_Band_leave1_n : C_Band_leave1.isNew = true := rfl
def B_Band_leave : MSs := (.cons (.exp (.pu (.call 5 (.cons (.var 1) (.cons (.cst (.int 0)) (.cons (.bin .sub (.fld 0 0) (.cst (.int 1))) .nil)))))) (.cons (.ite (.pu (.cmp .notin (.var 1) (.fld 0 2))) (.cons (.rse 11) .nil) .nil) (.cons (.exp (.mt 132 "change" (.al 0) (.cons (.pu (.bi .tuple (.cons (C_Band_leave1) .nil))) .nil))) .nil)))
/-- 0 self 1 known 2 found 3 start 4 beat -/
def C_Band_free1 : CE := .lc (.cmp .eq (.idx (.var 1) (.var 4)) (.cst (.int 0))) (.nm 4) (.tup (.call 7 (.cons (.fld 0 0) (.cons (.fld 0 1) (.cons (.var 3) .nil))))) .none [4]
@[simp] theorem C_Band_free1_b : C_Band_free1.isBor = false := rfl
@[simp] theorem C_Band_free1_n : C_Band_free1.isNew = true := rfl
def S_Band_free1 : CSs := (.cons (.ite (.bi .all (.cons (C_Band_free1) .nil)) (.cons (.app 2 (.var 3)) .nil) .nil) .nil)
def F_Band_free : Fn := ⟨1, 5, (.cons (.ownQ 1 2 (.mth 131 "claps" (.var 0) .nil)) (.cons (.forr (.nm 3) (.rng (.cons (.fld 0 0) .nil)) S_Band_free1) (.cons (.retO 2) .nil)))⟩
/-- 0 self -/
def B_Band_undo : MSs := (.cons (.ite (.cm .eq (.fl 0 3) (.pu (.lst .nil))) (.cons (.rse 12) .nil) .nil) (.cons (.fapp 0 4 (.fld 0 2)) (.cons (.fpop 0 2 3) .nil)))
/-- 0 self -/
def B_Band_redo : MSs := (.cons (.ite (.cm .eq (.fl 0 4) (.pu (.lst .nil))) (.cons (.rse 12) .nil) .nil) (.cons (.fapp 0 3 (.fld 0 2)) (.cons (.fpop 0 2 4) .nil)))
/-- 0 self 1 clone -/
def B_Band_copy : MSs := (.cons (.asg 1 (.nw (.cons (.fld 0 0) (.cons (.fld 0 1) .nil)))) (.cons (.fpar 1 [2, 3, 4] (.cons (.pu (.fld 0 2)) (.cons (.ll (.fl 0 3)) (.cons (.ll (.fl 0 4)) .nil)))) (.cons (.ret (.al 1)) .nil)))
def tabL : List (Nat × Fn) := [(0, F_is_int), (1, F_is_cycle), (2, F_has_set), (3, F_check_cycle), (4, F_check_set), (5, F_check_number), (7, F_move_by), (20, F_find_claps), (21, F_check_both), (22, F_claps), (23, F_has_ones), (24, F_is_canon), (25, F_is_packing), (49, F_count_common), (50, F_find_counts), (52, F_free_distances), (66, F_law_drawn), (67, F_law_set), (68, F_law_rhythm), (900, initF), (129, F_Band___len__), (138, F_Band___eq__), (130, F_Band_starts), (131, F_Band_claps), (135, F_Band_free)]
def G : Tab := fun f => tabL.lookup f
def tabL2 : List (Nat × Fn2) := [(110, ⟨2, 4, B_law_ends⟩), (111, ⟨5, 11, B_law_back⟩), (19, ⟨1, 8, B_law⟩), (132, ⟨2, 2, B_Band_change⟩), (133, ⟨2, 2, B_Band_join⟩), (134, ⟨2, 3, B_Band_leave⟩), (136, ⟨1, 1, B_Band_undo⟩), (137, ⟨1, 1, B_Band_redo⟩), (139, ⟨1, 2, B_Band_copy⟩)]
def G2 : Tab2 := fun f => tabL2.lookup f
theorem U_is_int (k : Nat) (a0 a1 a2 : D) : run G (k + 1) 0 [a0, a1, a2] = outR (exs (run G k) F_is_int.body [.val a0, .val a1, .val a2]) := rfl
theorem U_is_cycle (k : Nat) (a0 : D) : run G (k + 1) 1 [a0] = outR (exs (run G k) F_is_cycle.body [.val a0]) := rfl
theorem U_has_set (k : Nat) (a0 a1 : D) : run G (k + 1) 2 [a0, a1] = outR (exs (run G k) F_has_set.body [.val a0, .val a1, .no, .no, .no]) := rfl
theorem U_check_cycle (k : Nat) (a0 : D) : run G (k + 1) 3 [a0] = outR (exs (run G k) F_check_cycle.body [.val a0]) := rfl
theorem U_check_set (k : Nat) (a0 a1 : D) : run G (k + 1) 4 [a0, a1] = outR (exs (run G k) F_check_set.body [.val a0, .val a1]) := rfl
theorem U_check_number (k : Nat) (a0 a1 a2 : D) : run G (k + 1) 5 [a0, a1, a2] = outR (exs (run G k) F_check_number.body [.val a0, .val a1, .val a2]) := rfl
theorem U_move_by (k : Nat) (a0 a1 a2 : D) : run G (k + 1) 7 [a0, a1, a2] = outR (exs (run G k) F_move_by.body [.val a0, .val a1, .val a2, .no]) := rfl
theorem U_find_claps (k : Nat) (a0 a1 a2 : D) : run G (k + 1) 20 [a0, a1, a2] = outR (exs (run G k) F_find_claps.body [.val a0, .val a1, .val a2, .no, .no, .no, .no]) := rfl
theorem U_check_both (k : Nat) (a0 a1 a2 : D) : run G (k + 1) 21 [a0, a1, a2] = outR (exs (run G k) F_check_both.body [.val a0, .val a1, .val a2]) := rfl
theorem U_claps (k : Nat) (a0 a1 a2 : D) : run G (k + 1) 22 [a0, a1, a2] = outR (exs (run G k) F_claps.body [.val a0, .val a1, .val a2]) := rfl
theorem U_has_ones (k : Nat) (a0 a1 a2 : D) : run G (k + 1) 23 [a0, a1, a2] = outR (exs (run G k) F_has_ones.body [.val a0, .val a1, .val a2]) := rfl
theorem U_is_canon (k : Nat) (a0 a1 a2 : D) : run G (k + 1) 24 [a0, a1, a2] = outR (exs (run G k) F_is_canon.body [.val a0, .val a1, .val a2]) := rfl
theorem U_is_packing (k : Nat) (a0 a1 a2 : D) : run G (k + 1) 25 [a0, a1, a2] = outR (exs (run G k) F_is_packing.body [.val a0, .val a1, .val a2]) := rfl
theorem U_count_common (k : Nat) (a0 a1 a2 : D) : run G (k + 1) 49 [a0, a1, a2] = outR (exs (run G k) F_count_common.body [.val a0, .val a1, .val a2, .no]) := rfl
theorem U_find_counts (k : Nat) (a0 a1 : D) : run G (k + 1) 50 [a0, a1] = outR (exs (run G k) F_find_counts.body [.val a0, .val a1, .no]) := rfl
theorem U_free_distances (k : Nat) (a0 a1 : D) : run G (k + 1) 52 [a0, a1] = outR (exs (run G k) F_free_distances.body [.val a0, .val a1, .no, .no]) := rfl
theorem U_law_drawn (k : Nat) (a0 a1 a2 : D) : run G (k + 1) 66 [a0, a1, a2] = outR (exs (run G k) F_law_drawn.body [.val a0, .val a1, .val a2, .no, .no, .no]) := rfl
theorem U_law_set (k : Nat) (a0 a1 a2 : D) : run G (k + 1) 67 [a0, a1, a2] = outR (exs (run G k) F_law_set.body [.val a0, .val a1, .val a2, .no, .no]) := rfl
theorem U_law_rhythm (k : Nat) (a0 a1 a2 : D) : run G (k + 1) 68 [a0, a1, a2] = outR (exs (run G k) F_law_rhythm.body [.val a0, .val a1, .val a2, .no, .no, .no, .no]) := rfl
theorem V_law_ends (k : Nat) (a0 a1 : W) (S : Sto) : run2 G G2 (k + 1) 110 [a0, a1] S = outR2 (exs2 (run G k) (run2 G G2 k) B_law_ends [some a0, some a1, none, none] S) := rfl
theorem V_law_back (k : Nat) (a0 a1 a2 a3 a4 : W) (S : Sto) : run2 G G2 (k + 1) 111 [a0, a1, a2, a3, a4] S = outR2 (exs2 (run G k) (run2 G G2 k) B_law_back [some a0, some a1, some a2, some a3, some a4, none, none, none, none, none, none] S) := rfl
theorem V_law (k : Nat) (a0 : W) (S : Sto) : run2 G G2 (k + 1) 19 [a0] S = outR2 (exs2 (run G k) (run2 G G2 k) B_law [some a0, none, none, none, none, none, none, none] S) := rfl
theorem U_Band___len__ (k : Nat) (a0 : D) : run G (k + 1) 129 [a0] = outR (exs (run G k) F_Band___len__.body [.val a0]) := rfl
theorem U_Band___eq__ (k : Nat) (a0 a1 : D) : run G (k + 1) 138 [a0, a1] = outR (exs (run G k) F_Band___eq__.body [.val a0, .val a1]) := rfl
theorem U_Band_starts (k : Nat) (a0 : D) : run G (k + 1) 130 [a0] = outR (exs (run G k) F_Band_starts.body [.val a0]) := rfl
theorem U_Band_claps (k : Nat) (a0 : D) : run G (k + 1) 131 [a0] = outR (exs (run G k) F_Band_claps.body [.val a0]) := rfl
theorem V_Band_change (k : Nat) (a0 a1 : W) (S : Sto) : run2 G G2 (k + 1) 132 [a0, a1] S = outR2 (exs2 (run G k) (run2 G G2 k) B_Band_change [some a0, some a1] S) := rfl
theorem V_Band_join (k : Nat) (a0 a1 : W) (S : Sto) : run2 G G2 (k + 1) 133 [a0, a1] S = outR2 (exs2 (run G k) (run2 G G2 k) B_Band_join [some a0, some a1] S) := rfl
theorem V_Band_leave (k : Nat) (a0 a1 : W) (S : Sto) : run2 G G2 (k + 1) 134 [a0, a1] S = outR2 (exs2 (run G k) (run2 G G2 k) B_Band_leave [some a0, some a1, none] S) := rfl
theorem U_Band_free (k : Nat) (a0 : D) : run G (k + 1) 135 [a0] = outR (exs (run G k) F_Band_free.body [.val a0, .no, .no, .no, .no]) := rfl
theorem V_Band_undo (k : Nat) (a0 : W) (S : Sto) : run2 G G2 (k + 1) 136 [a0] S = outR2 (exs2 (run G k) (run2 G G2 k) B_Band_undo [some a0] S) := rfl
theorem V_Band_redo (k : Nat) (a0 : W) (S : Sto) : run2 G G2 (k + 1) 137 [a0] S = outR2 (exs2 (run G k) (run2 G G2 k) B_Band_redo [some a0] S) := rfl
theorem V_Band_copy (k : Nat) (a0 : W) (S : Sto) : run2 G G2 (k + 1) 139 [a0] S = outR2 (exs2 (run G k) (run2 G G2 k) B_Band_copy [some a0, none] S) := rfl
theorem G_900 : G 900 = some initF := rfl
end Cl
set_option Elab.async false
set_option linter.all false
set_option maxRecDepth 100000
set_option maxHeartbeats 4000000
namespace Cl
open PySem PySem.Spec PyProof.Rows L2
def top (i : Nat) : Stmt := PySem.Challenge.pw_clapcanons_k66_whole_band.main.body.getD i (.Pass ⟨0, 0, 0, 0⟩)
def inn (i j : Nat) : Stmt := match top i with | .ClassDef _ _ _ b _ _ _ _ _ _ _ => b.getD j (.Pass ⟨0, 0, 0, 0⟩) | s => s
def E_is_int : FnE := ⟨"is_int", ["value", "least", "most"], ["value", "least", "most"], defArgs (top 10), defBody (top 10), defScope (top 10), F_is_int, none, false, false, none⟩
theorem Bi_is_int : BindP E_is_int := fun _ _ _ _ _ _ us hl => match us, hl with | [_, _, _], _ => rfl
def E_is_cycle : FnE := ⟨"is_cycle", ["candidate"], ["candidate"], defArgs (top 11), defBody (top 11), defScope (top 11), F_is_cycle, none, false, false, none⟩
theorem Bi_is_cycle : BindP E_is_cycle := fun _ _ _ _ _ _ us hl => match us, hl with | [_], _ => rfl
def E_has_set : FnE := ⟨"has_set", ["cycle", "candidate"], ["cycle", "candidate", "beat", "one", "other"], defArgs (top 12), defBody (top 12), defScope (top 12), F_has_set, none, false, false, none⟩
theorem Bi_has_set : BindP E_has_set := fun _ _ _ _ _ _ us hl => match us, hl with | [_, _], _ => rfl
def E_check_cycle : FnE := ⟨"check_cycle", ["value"], ["value"], defArgs (top 13), defBody (top 13), defScope (top 13), F_check_cycle, none, false, false, none⟩
theorem Bi_check_cycle : BindP E_check_cycle := fun _ _ _ _ _ _ us hl => match us, hl with | [_], _ => rfl
def E_check_set : FnE := ⟨"check_set", ["cycle", "value"], ["cycle", "value"], defArgs (top 14), defBody (top 14), defScope (top 14), F_check_set, none, false, false, none⟩
theorem Bi_check_set : BindP E_check_set := fun _ _ _ _ _ _ us hl => match us, hl with | [_, _], _ => rfl
def E_check_number : FnE := ⟨"check_number", ["value", "least", "most"], ["value", "least", "most"], defArgs (top 15), defBody (top 15), defScope (top 15), F_check_number, none, false, false, none⟩
theorem Bi_check_number : BindP E_check_number := fun _ _ _ _ _ _ us hl => match us, hl with | [_, _, _], _ => rfl
def E_move_by : FnE := ⟨"move_by", ["cycle", "beats", "number"], ["cycle", "beats", "number", "beat"], defArgs (top 16), defBody (top 16), defScope (top 16), F_move_by, none, false, false, none⟩
theorem Bi_move_by : BindP E_move_by := fun _ _ _ _ _ _ us hl => match us, hl with | [_, _, _], _ => rfl
def E_find_claps : FnE := ⟨"find_claps", ["cycle", "rhythm", "starts"], ["cycle", "rhythm", "starts", "found", "start", "beat", "place"], defArgs (top 18), defBody (top 18), defScope (top 18), F_find_claps, none, false, false, none⟩
theorem Bi_find_claps : BindP E_find_claps := fun _ _ _ _ _ _ us hl => match us, hl with | [_, _, _], _ => rfl
def E_check_both : FnE := ⟨"check_both", ["cycle", "rhythm", "starts"], ["cycle", "rhythm", "starts"], defArgs (top 19), defBody (top 19), defScope (top 19), F_check_both, none, false, false, none⟩
theorem Bi_check_both : BindP E_check_both := fun _ _ _ _ _ _ us hl => match us, hl with | [_, _, _], _ => rfl
def E_claps : FnE := ⟨"claps", ["cycle", "rhythm", "starts"], ["cycle", "rhythm", "starts"], defArgs (top 20), defBody (top 20), defScope (top 20), F_claps, none, false, false, none⟩
theorem Bi_claps : BindP E_claps := fun _ _ _ _ _ _ us hl => match us, hl with | [_, _, _], _ => rfl
def E_has_ones : FnE := ⟨"has_ones", ["cycle", "rhythm", "starts"], ["cycle", "rhythm", "starts"], defArgs (top 21), defBody (top 21), defScope (top 21), F_has_ones, none, false, false, none⟩
theorem Bi_has_ones : BindP E_has_ones := fun _ _ _ _ _ _ us hl => match us, hl with | [_, _, _], _ => rfl
def E_is_canon : FnE := ⟨"is_canon", ["cycle", "rhythm", "starts"], ["cycle", "rhythm", "starts"], defArgs (top 22), defBody (top 22), defScope (top 22), F_is_canon, none, false, false, none⟩
theorem Bi_is_canon : BindP E_is_canon := fun _ _ _ _ _ _ us hl => match us, hl with | [_, _, _], _ => rfl
def E_is_packing : FnE := ⟨"is_packing", ["cycle", "rhythm", "starts"], ["cycle", "rhythm", "starts"], defArgs (top 23), defBody (top 23), defScope (top 23), F_is_packing, none, false, false, none⟩
theorem Bi_is_packing : BindP E_is_packing := fun _ _ _ _ _ _ us hl => match us, hl with | [_, _, _], _ => rfl
def E_count_common : FnE := ⟨"count_common", ["cycle", "rhythm", "distance"], ["cycle", "rhythm", "distance", "beat"], defArgs (top 27), defBody (top 27), defScope (top 27), F_count_common, none, false, false, none⟩
theorem Bi_count_common : BindP E_count_common := fun _ _ _ _ _ _ us hl => match us, hl with | [_, _, _], _ => rfl
def E_find_counts : FnE := ⟨"find_counts", ["cycle", "rhythm"], ["cycle", "rhythm", "distance"], defArgs (top 28), defBody (top 28), defScope (top 28), F_find_counts, none, false, false, none⟩
theorem Bi_find_counts : BindP E_find_counts := fun _ _ _ _ _ _ us hl => match us, hl with | [_, _], _ => rfl
def E_free_distances : FnE := ⟨"free_distances", ["cycle", "rhythm"], ["cycle", "rhythm", "distance", "many"], defArgs (top 29), defBody (top 29), defScope (top 29), F_free_distances, none, false, false, none⟩
theorem Bi_free_distances : BindP E_free_distances := fun _ _ _ _ _ _ us hl => match us, hl with | [_, _], _ => rfl
def E_law_drawn : FnE := ⟨"_law_drawn", ["script", "k", "many"], ["script", "k", "many", "cell", "turn", "rest"], defArgs (top 31), defBody (top 31), defScope (top 31), F_law_drawn, none, false, false, none⟩
theorem Bi_law_drawn : BindP E_law_drawn := fun _ _ _ _ _ _ us hl => match us, hl with | [_, _, _], _ => rfl
def E_law_set : FnE := ⟨"_law_set", ["script", "at", "cycle"], ["script", "at", "cycle", "found", "beat"], defArgs (top 32), defBody (top 32), defScope (top 32), F_law_set, none, false, false, none⟩
theorem Bi_law_set : BindP E_law_set := fun _ _ _ _ _ _ us hl => match us, hl with | [_, _, _], _ => rfl
def E_law_rhythm : FnE := ⟨"_law_rhythm", ["script", "at", "cycle"], ["script", "at", "cycle", "part", "size", "found", "beat"], defArgs (top 33), defBody (top 33), defScope (top 33), F_law_rhythm, none, false, false, none⟩
theorem Bi_law_rhythm : BindP E_law_rhythm := fun _ _ _ _ _ _ us hl => match us, hl with | [_, _, _], _ => rfl
def E_law_ends : FnE := ⟨"_law_ends", ["band", "way"], ["band", "way", "found", "e"], defArgs (top 34), defBody (top 34), defScope (top 34), ⟨0, 0, .nil⟩, none, false, false, some B_law_ends⟩
theorem Bi_law_ends : BindP E_law_ends := fun _ _ _ _ _ _ us hl => match us, hl with | [_, _], _ => rfl
def E_law_back : FnE := ⟨"_law_back", ["script", "cycle", "rhythm", "band", "states"], ["script", "cycle", "rhythm", "band", "states", "back", "k", "now", "double", "other", "one"], defArgs (top 35), defBody (top 35), defScope (top 35), ⟨0, 0, .nil⟩, none, false, false, some B_law_back⟩
theorem Bi_law_back : BindP E_law_back := fun _ _ _ _ _ _ us hl => match us, hl with | [_, _, _, _, _], _ => rfl
def E_law : FnE := ⟨"law", ["script"], ["script", "cycle", "rhythm", "band", "states", "free", "gap", "start"], defArgs (top 36), defBody (top 36), defScope (top 36), ⟨0, 0, .nil⟩, none, false, false, some B_law⟩
theorem Bi_law : BindP E_law := fun _ _ _ _ _ _ us hl => match us, hl with | [_], _ => rfl
def E_Band___init__ : FnE := ⟨"__init__", ["self", "cycle", "rhythm"], ["self", "cycle", "rhythm"], defArgs (inn 25 0), defBody (inn 25 0), defScope (inn 25 0), ⟨0, 0, .nil⟩, none, true, true, none⟩
theorem Bi_Band___init__ : BindP E_Band___init__ := fun _ _ _ _ _ _ us hl => match us, hl with | [_, _, _], _ => rfl
def E_Band___len__ : FnE := ⟨"__len__", ["self"], ["self"], defArgs (inn 25 1), defBody (inn 25 1), defScope (inn 25 1), F_Band___len__, none, true, false, none⟩
theorem Bi_Band___len__ : BindP E_Band___len__ := fun _ _ _ _ _ _ us hl => match us, hl with | [_], _ => rfl
def E_Band___eq__ : FnE := ⟨"__eq__", ["self", "other"], ["self", "other"], defArgs (inn 25 2), defBody (inn 25 2), defScope (inn 25 2), F_Band___eq__, none, true, false, none⟩
theorem Bi_Band___eq__ : BindP E_Band___eq__ := fun _ _ _ _ _ _ us hl => match us, hl with | [_, _], _ => rfl
def E_Band_starts : FnE := ⟨"starts", ["self"], ["self"], defArgs (inn 25 3), defBody (inn 25 3), defScope (inn 25 3), F_Band_starts, none, true, false, none⟩
theorem Bi_Band_starts : BindP E_Band_starts := fun _ _ _ _ _ _ us hl => match us, hl with | [_], _ => rfl
def E_Band_claps : FnE := ⟨"claps", ["self"], ["self"], defArgs (inn 25 4), defBody (inn 25 4), defScope (inn 25 4), F_Band_claps, none, true, false, none⟩
theorem Bi_Band_claps : BindP E_Band_claps := fun _ _ _ _ _ _ us hl => match us, hl with | [_], _ => rfl
def E_Band_change : FnE := ⟨"change", ["self", "voices"], ["self", "voices"], defArgs (inn 25 5), defBody (inn 25 5), defScope (inn 25 5), ⟨0, 0, .nil⟩, none, true, false, some B_Band_change⟩
theorem Bi_Band_change : BindP E_Band_change := fun _ _ _ _ _ _ us hl => match us, hl with | [_, _], _ => rfl
def E_Band_join : FnE := ⟨"join", ["self", "start"], ["self", "start"], defArgs (inn 25 6), defBody (inn 25 6), defScope (inn 25 6), ⟨0, 0, .nil⟩, none, true, false, some B_Band_join⟩
theorem Bi_Band_join : BindP E_Band_join := fun _ _ _ _ _ _ us hl => match us, hl with | [_, _], _ => rfl
def E_Band_leave : FnE := ⟨"leave", ["self", "start"], ["self", "start", "other"], defArgs (inn 25 7), defBody (inn 25 7), defScope (inn 25 7), ⟨0, 0, .nil⟩, none, true, false, some B_Band_leave⟩
theorem Bi_Band_leave : BindP E_Band_leave := fun _ _ _ _ _ _ us hl => match us, hl with | [_, _], _ => rfl
def E_Band_free : FnE := ⟨"free", ["self"], ["self", "known", "found", "start", "beat"], defArgs (inn 25 8), defBody (inn 25 8), defScope (inn 25 8), F_Band_free, none, true, false, none⟩
theorem Bi_Band_free : BindP E_Band_free := fun _ _ _ _ _ _ us hl => match us, hl with | [_], _ => rfl
def E_Band_undo : FnE := ⟨"undo", ["self"], ["self"], defArgs (inn 25 9), defBody (inn 25 9), defScope (inn 25 9), ⟨0, 0, .nil⟩, none, true, false, some B_Band_undo⟩
theorem Bi_Band_undo : BindP E_Band_undo := fun _ _ _ _ _ _ us hl => match us, hl with | [_], _ => rfl
def E_Band_redo : FnE := ⟨"redo", ["self"], ["self"], defArgs (inn 25 10), defBody (inn 25 10), defScope (inn 25 10), ⟨0, 0, .nil⟩, none, true, false, some B_Band_redo⟩
theorem Bi_Band_redo : BindP E_Band_redo := fun _ _ _ _ _ _ us hl => match us, hl with | [_], _ => rfl
def E_Band_copy : FnE := ⟨"copy", ["self"], ["self", "clone"], defArgs (inn 25 11), defBody (inn 25 11), defScope (inn 25 11), ⟨0, 0, .nil⟩, none, true, false, some B_Band_copy⟩
theorem Bi_Band_copy : BindP E_Band_copy := fun _ _ _ _ _ _ us hl => match us, hl with | [_], _ => rfl
abbrev L : Lst := [(0, E_is_int), (1, E_is_cycle), (2, E_has_set), (3, E_check_cycle), (4, E_check_set), (5, E_check_number), (7, E_move_by), (20, E_find_claps), (21, E_check_both), (22, E_claps), (23, E_has_ones), (24, E_is_canon), (25, E_is_packing), (49, E_count_common), (50, E_find_counts), (52, E_free_distances), (66, E_law_drawn), (67, E_law_set), (68, E_law_rhythm), (110, E_law_ends), (111, E_law_back), (19, E_law), (900, E_Band___init__), (129, E_Band___len__), (138, E_Band___eq__), (130, E_Band_starts), (131, E_Band_claps), (132, E_Band_change), (133, E_Band_join), (134, E_Band_leave), (135, E_Band_free), (136, E_Band_undo), (137, E_Band_redo), (139, E_Band_copy)]
abbrev csts : List (Str × Cst) := [("MAX_CYCLE", (.int 24))]
abbrev exns : List (Nat × Str) := [(0, "CanonError"), (1, "InvalidCycle"), (2, "InvalidSet"), (3, "InvalidNumber"), (10, "AlreadyThere"), (11, "NotThere"), (12, "NothingToUndo")]
theorem ndL : (L.map Prod.fst).Nodup := by decide
theorem tab_eq : Lst.tab L = G := funext fun f => (tab_map L ndL f).trans rfl
theorem tab2_eq : Lst.tab2 L = G2 := funext fun f => (tab2_map L ndL f).trans rfl
theorem O_is_int : okF (ctxOf L csts exns) 0 E_is_int = true := by decide +kernel
theorem O_is_cycle : okF (ctxOf L csts exns) 1 E_is_cycle = true := by decide +kernel
theorem O_has_set : okF (ctxOf L csts exns) 2 E_has_set = true := by decide +kernel
theorem O_check_cycle : okF (ctxOf L csts exns) 3 E_check_cycle = true := by decide +kernel
theorem O_check_set : okF (ctxOf L csts exns) 4 E_check_set = true := by decide +kernel
theorem O_check_number : okF (ctxOf L csts exns) 5 E_check_number = true := by decide +kernel
theorem O_move_by : okF (ctxOf L csts exns) 7 E_move_by = true := by decide +kernel
theorem O_find_claps : okF (ctxOf L csts exns) 20 E_find_claps = true := by decide +kernel
theorem O_check_both : okF (ctxOf L csts exns) 21 E_check_both = true := by decide +kernel
theorem O_claps : okF (ctxOf L csts exns) 22 E_claps = true := by decide +kernel
theorem O_has_ones : okF (ctxOf L csts exns) 23 E_has_ones = true := by decide +kernel
theorem O_is_canon : okF (ctxOf L csts exns) 24 E_is_canon = true := by decide +kernel
theorem O_is_packing : okF (ctxOf L csts exns) 25 E_is_packing = true := by decide +kernel
theorem O_count_common : okF (ctxOf L csts exns) 49 E_count_common = true := by decide +kernel
theorem O_find_counts : okF (ctxOf L csts exns) 50 E_find_counts = true := by decide +kernel
theorem O_free_distances : okF (ctxOf L csts exns) 52 E_free_distances = true := by decide +kernel
theorem O_law_drawn : okF (ctxOf L csts exns) 66 E_law_drawn = true := by decide +kernel
theorem O_law_set : okF (ctxOf L csts exns) 67 E_law_set = true := by decide +kernel
theorem O_law_rhythm : okF (ctxOf L csts exns) 68 E_law_rhythm = true := by decide +kernel
theorem O_law_ends : okF (ctxOf L csts exns) 110 E_law_ends = true := by decide +kernel
theorem O_law_back : okF (ctxOf L csts exns) 111 E_law_back = true := by decide +kernel
theorem O_law : okF (ctxOf L csts exns) 19 E_law = true := by decide +kernel
theorem O_Band___init__ : okF (ctxOf L csts exns) 900 E_Band___init__ = true := by decide +kernel
theorem O_Band___len__ : okF (ctxOf L csts exns) 129 E_Band___len__ = true := by decide +kernel
theorem O_Band___eq__ : okF (ctxOf L csts exns) 138 E_Band___eq__ = true := by decide +kernel
theorem O_Band_starts : okF (ctxOf L csts exns) 130 E_Band_starts = true := by decide +kernel
theorem O_Band_claps : okF (ctxOf L csts exns) 131 E_Band_claps = true := by decide +kernel
theorem O_Band_change : okF (ctxOf L csts exns) 132 E_Band_change = true := by decide +kernel
theorem O_Band_join : okF (ctxOf L csts exns) 133 E_Band_join = true := by decide +kernel
theorem O_Band_leave : okF (ctxOf L csts exns) 134 E_Band_leave = true := by decide +kernel
theorem O_Band_free : okF (ctxOf L csts exns) 135 E_Band_free = true := by decide +kernel
theorem O_Band_undo : okF (ctxOf L csts exns) 136 E_Band_undo = true := by decide +kernel
theorem O_Band_redo : okF (ctxOf L csts exns) 137 E_Band_redo = true := by decide +kernel
theorem O_Band_copy : okF (ctxOf L csts exns) 139 E_Band_copy = true := by decide +kernel
theorem okL : ∀ p ∈ L, okF (ctxOf L csts exns) p.1 p.2 = true := (List.forall_mem_cons.mpr ⟨O_is_int, (List.forall_mem_cons.mpr ⟨O_is_cycle, (List.forall_mem_cons.mpr ⟨O_has_set, (List.forall_mem_cons.mpr ⟨O_check_cycle, (List.forall_mem_cons.mpr ⟨O_check_set, (List.forall_mem_cons.mpr ⟨O_check_number, (List.forall_mem_cons.mpr ⟨O_move_by, (List.forall_mem_cons.mpr ⟨O_find_claps, (List.forall_mem_cons.mpr ⟨O_check_both, (List.forall_mem_cons.mpr ⟨O_claps, (List.forall_mem_cons.mpr ⟨O_has_ones, (List.forall_mem_cons.mpr ⟨O_is_canon, (List.forall_mem_cons.mpr ⟨O_is_packing, (List.forall_mem_cons.mpr ⟨O_count_common, (List.forall_mem_cons.mpr ⟨O_find_counts, (List.forall_mem_cons.mpr ⟨O_free_distances, (List.forall_mem_cons.mpr ⟨O_law_drawn, (List.forall_mem_cons.mpr ⟨O_law_set, (List.forall_mem_cons.mpr ⟨O_law_rhythm, (List.forall_mem_cons.mpr ⟨O_law_ends, (List.forall_mem_cons.mpr ⟨O_law_back, (List.forall_mem_cons.mpr ⟨O_law, (List.forall_mem_cons.mpr ⟨O_Band___init__, (List.forall_mem_cons.mpr ⟨O_Band___len__, (List.forall_mem_cons.mpr ⟨O_Band___eq__, (List.forall_mem_cons.mpr ⟨O_Band_starts, (List.forall_mem_cons.mpr ⟨O_Band_claps, (List.forall_mem_cons.mpr ⟨O_Band_change, (List.forall_mem_cons.mpr ⟨O_Band_join, (List.forall_mem_cons.mpr ⟨O_Band_leave, (List.forall_mem_cons.mpr ⟨O_Band_free, (List.forall_mem_cons.mpr ⟨O_Band_undo, (List.forall_mem_cons.mpr ⟨O_Band_redo, (List.forall_mem_cons.mpr ⟨O_Band_copy, (fun _ h => nomatch h)⟩)⟩)⟩)⟩)⟩)⟩)⟩)⟩)⟩)⟩)⟩)⟩)⟩)⟩)⟩)⟩)⟩)⟩)⟩)⟩)⟩)⟩)⟩)⟩)⟩)⟩)⟩)⟩)⟩)⟩)⟩)⟩)⟩)⟩)
theorem bindL : ∀ p ∈ L, BindP p.2 := (List.forall_mem_cons.mpr ⟨Bi_is_int, (List.forall_mem_cons.mpr ⟨Bi_is_cycle, (List.forall_mem_cons.mpr ⟨Bi_has_set, (List.forall_mem_cons.mpr ⟨Bi_check_cycle, (List.forall_mem_cons.mpr ⟨Bi_check_set, (List.forall_mem_cons.mpr ⟨Bi_check_number, (List.forall_mem_cons.mpr ⟨Bi_move_by, (List.forall_mem_cons.mpr ⟨Bi_find_claps, (List.forall_mem_cons.mpr ⟨Bi_check_both, (List.forall_mem_cons.mpr ⟨Bi_claps, (List.forall_mem_cons.mpr ⟨Bi_has_ones, (List.forall_mem_cons.mpr ⟨Bi_is_canon, (List.forall_mem_cons.mpr ⟨Bi_is_packing, (List.forall_mem_cons.mpr ⟨Bi_count_common, (List.forall_mem_cons.mpr ⟨Bi_find_counts, (List.forall_mem_cons.mpr ⟨Bi_free_distances, (List.forall_mem_cons.mpr ⟨Bi_law_drawn, (List.forall_mem_cons.mpr ⟨Bi_law_set, (List.forall_mem_cons.mpr ⟨Bi_law_rhythm, (List.forall_mem_cons.mpr ⟨Bi_law_ends, (List.forall_mem_cons.mpr ⟨Bi_law_back, (List.forall_mem_cons.mpr ⟨Bi_law, (List.forall_mem_cons.mpr ⟨Bi_Band___init__, (List.forall_mem_cons.mpr ⟨Bi_Band___len__, (List.forall_mem_cons.mpr ⟨Bi_Band___eq__, (List.forall_mem_cons.mpr ⟨Bi_Band_starts, (List.forall_mem_cons.mpr ⟨Bi_Band_claps, (List.forall_mem_cons.mpr ⟨Bi_Band_change, (List.forall_mem_cons.mpr ⟨Bi_Band_join, (List.forall_mem_cons.mpr ⟨Bi_Band_leave, (List.forall_mem_cons.mpr ⟨Bi_Band_free, (List.forall_mem_cons.mpr ⟨Bi_Band_undo, (List.forall_mem_cons.mpr ⟨Bi_Band_redo, (List.forall_mem_cons.mpr ⟨Bi_Band_copy, (fun _ h => nomatch h)⟩)⟩)⟩)⟩)⟩)⟩)⟩)⟩)⟩)⟩)⟩)⟩)⟩)⟩)⟩)⟩)⟩)⟩)⟩)⟩)⟩)⟩)⟩)⟩)⟩)⟩)⟩)⟩)⟩)⟩)⟩)⟩)⟩)⟩)
abbrev hk : W.Hook := hookE 4 (Lst.fas L csts exns) (Lst.dds L) (xB2 L exns)
def ob (s : W.SharedT) : He.AlD × Bool := obE 4 (Lst.fas L csts exns) (Lst.dds L) (xB2 L exns) (HandSHeadRun.getT s)
theorem ob_eq (s : W.SharedT) : ob s = hk.obs s.abs := obE_eq (HandSHeadRun.getT_eq s)
abbrev R0 : W.OpenRow := W.OpenLaw.row PySem.Challenge.rw_clapcanons_k66_whole_band
def loose : List Str := [("__name__" : Str), ("CanonError" : Str), ("InvalidCycle" : Str), ("InvalidSet" : Str), ("InvalidNumber" : Str), ("AlreadyThere" : Str), ("NotThere" : Str), ("NothingToUndo" : Str), ("MAX_CYCLE" : Str), ("is_int" : Str), ("is_cycle" : Str), ("has_set" : Str), ("check_cycle" : Str), ("check_set" : Str), ("check_number" : Str), ("move_by" : Str), ("find_claps" : Str), ("check_both" : Str), ("claps" : Str), ("has_ones" : Str), ("is_canon" : Str), ("is_packing" : Str), ("Band" : Str), ("count_common" : Str), ("find_counts" : Str), ("free_distances" : Str), ("_law_drawn" : Str), ("_law_set" : Str), ("_law_rhythm" : Str), ("_law_ends" : Str), ("_law_back" : Str)]
theorem headRun (w : World) : HandSHeadRun.RunEq R0 (W.view R0.prog [36]) hk ob 4000 loose w := by
  intro os
  kernel_rfl
end Cl
set_option Elab.async false
set_option linter.all false
set_option maxRecDepth 100000
set_option maxHeartbeats 1000000
namespace Cl
open PySem
/-! ### beats: what each function gives -/
def isInt (d : D) (a b : Int) : Bool := match d with
  | .int i => decide (a ≤ i) && decide (i ≤ b)
  | _ => false
theorem r_is_int {k : Nat} {d : D} {a b : Int} : run G (k + 1) 0 [d, .int a, .int b] = .ok (.bl (isInt d a b)) := by
  rw [U_is_int]
  cases d <;> simp [F_is_int, isiF, isInt]
  · split <;> simp [*]
theorem r_is_cycle {k : Nat} {d : D} : run G (k + 2) 1 [d] = .ok (.bl (isInt d 1 24)) := by
  rw [U_is_cycle]
  simp [F_is_cycle, r_is_int]
def hasSet (n : Int) : D → Bool
  | .tup ds => match ints? ds with
    | some l => setOk n l
    | none => false
  | _ => false
theorem deq_nil (ds : List D) : deq (.tup ds) (.tup []) = ds.isEmpty := by
  cases ds <;> simp [deq, D.pd, D.pds, PyData.eqv, PyData.eqvAll]
theorem allInt : ∀ (ds : List D) (n : Int), (ds.all fun d => isInt d 0 n) = match ints? ds with
    | some l => l.all (fun i => decide (0 ≤ i) && decide (i ≤ n))
    | none => false
  | [], n => rfl
  | d :: ds, n => by
    rw [List.all_cons, allInt ds n]
    cases d <;> simp [isInt, ints?]
    cases q : ints? ds <;> simp
theorem zip_up : ∀ (l : List Int) (x : Int), zipD ((x :: l).map D.int) (l.map D.int) = ((x :: l).zip l).map fun p => .tup [.int p.1, .int p.2]
  | [], x => rfl
  | y :: l, x => by
    have r := zip_up l y
    simp only [List.map_cons] at r ⊢
    rw [zipD, r]
    rfl
theorem up_zip : ∀ (l : List Int) (x : Int), up (x :: l) = ((x :: l).zip l).all fun p => decide (p.1 < p.2)
  | [], x => rfl
  | y :: l, x => by
    rw [up, up_zip l y]
    rfl
theorem cut1 {α : Type} (x : α) (l : List α) : cutD (x :: l) (some 1) none = l := by
  unfold cutD HT.sIx
  simp

def smallT : D → Bool
  | .tup ds => decide (ds.length ≤ lim)
  | _ => true
theorem r_has_set {k : Nat} {n : Int} {d : D} (hd : d.okD = true) (hs : smallT d = true) : run G (k + 2) 2 [.int n, d] = .ok (.bl (hasSet n d)) := by
  rw [U_has_set]
  cases d with
  | tup ds =>
    have h1 : ev (run G (k + 1)) C_has_set1 [.val (.int n), .val (.tup ds), .no, .no, .no] = .ok (.lst ((ds.map fun d => isInt d 0 (n - 1)).map D.bl)) := by
      unfold C_has_set1
      rw [lc_map (l := ds) (e := id) (d := fun d => D.bl (isInt d 0 (n - 1)))]
      · simp
      · simp
      · simpa [smallT] using hs
      · rfl
      · rfl
      · intro x hx
        simp [r_is_int]
    have e0 := deq_nil ds
    have e1 := allInt ds (n - 1)
    cases ds with
    | nil => simp [F_has_set, isiF, e0, hd, hasSet, ints?, setOk]
    | cons d0 dr =>
      rw [show hasSet n (.tup (d0 :: dr)) = (match ints? (d0 :: dr) with | some l => setOk n l | none => false) from rfl]
      cases q : ints? (d0 :: dr) with
      | none =>
        rw [q] at e1
        simp [-List.map_map, -List.map_cons, F_has_set, isiF, e0, hd, h1, List.all_map, Function.comp_def, e1]
      | some l =>
        rw [q] at e1
        have e2 := ints?_some q
        rw [e2] at h1 e0 hd hs e1 ⊢
        cases l with
        | nil => cases e2
        | cons x r =>
          have h2 : ev (run G (k + 1)) C_has_set2 [.val (.int n), .val (.tup ((x :: r).map D.int)), .no, .no, .no] = .ok (.lst ((((x :: r).zip r).map fun p => decide (p.1 < p.2)).map D.bl)) := by
            unfold C_has_set2
            rw [lc_map (l := (x :: r).zip r) (e := fun p => D.tup [.int p.1, .int p.2]) (d := fun p => D.bl (decide (p.1 < p.2)))]
            · simp
            · have := zip_up r x
              rw [List.map_cons] at this
              simp only [vi_zip, v_var, isBor_var, isBor_slc, v_slc]
              simp [-fold_tI, slcF, cut1, zipDD, this]
            · simp only [smallT, List.length_map, List.length_cons, decide_eq_true_eq] at hs
              simp; omega
            · rfl
            · rfl
            · intro p hp
              simp
          have e3 := up_zip r x
          have e4 : setOk n (x :: r) = (((x :: r).all fun i => decide (0 ≤ i) && decide (i ≤ n - 1)) && (((x :: r).zip r).all fun p => decide (p.1 < p.2))) := by
            rw [setOk, ← e3]
            rfl
          show _ = R.ok (D.bl (setOk n (x :: r)))
          rw [e4]
          cases hq : (x :: r).all fun i => decide (0 ≤ i) && decide (i ≤ n - 1) with
          | false =>
            have e5 : (((x :: r).map D.int).map fun d => isInt d 0 (n - 1)).all id = false := by
              rw [List.all_map]
              exact e1.trans hq
            simp only [F_has_set, xs_cons, x_ite, v_T, isTest_or, isTest_not, isTest_isi, isTest_one, isTest_cmp, Bool.and_self, if_true, v_or, v_not, v_isi, v_var, List.getElem?_cons_succ, List.getElem?_cons_zero, slotV_val]
            simp [-List.map_map, -List.map_cons, -fold_tI, isiF, e0, hd, h1, e5, bi_all]
          | true =>
            have e5 : (((x :: r).map D.int).map fun d => isInt d 0 (n - 1)).all id = true := by
              rw [List.all_map]
              exact e1.trans hq
            simp [-List.map_map, -List.map_cons, -fold_tI, F_has_set, isiF, e0, hd, h1, e5, h2, bi_all, List.all_map, Function.comp_def]
  | _ => simp [F_has_set, isiF, hasSet]

theorem small_t {l : List Int} (h : l.length ≤ lim) : smallT (tI l) = true := by
  show decide ((l.map D.int).length ≤ lim) = true
  simpa using h
theorem hasSet_t {n : Int} {l : List Int} : hasSet n (tI l) = setOk n l := by
  unfold tI hasSet
  simp only [ints?_map]
theorem len_lim {n : Int} {l : List Int} (h : IsSet n l) (hn : n ≤ 100000) : l.length ≤ lim := by
  have := h.len
  unfold lim
  omega
theorem r_has_set_t {k : Nat} {n : Int} {l : List Int} (hl : l.length ≤ lim) : run G (k + 2) 2 [.int n, tI l] = .ok (.bl (setOk n l)) := by
  rw [r_has_set (ok_t l) (small_t hl), hasSet_t]
theorem r_check_cycle {k : Nat} {d : D} : run G (k + 3) 3 [d] = if isInt d 1 24 then .ok .non else .exc 1 := by
  rw [U_check_cycle]
  simp [F_check_cycle, r_is_cycle]
  cases isInt d 1 24 <;> simp
theorem r_check_set {k : Nat} {n : Int} {d : D} (hn : isInt (.int n) 1 24 = true) (hd : d.okD = true) (hs : smallT d = true) : run G (k + 4) 4 [.int n, d] = if hasSet n d then .ok .non else .exc 2 := by
  rw [U_check_set]
  simp [F_check_set, r_check_cycle, hn, r_has_set hd hs]
  cases hasSet n d <;> simp
theorem r_check_set_t {k : Nat} {n : Int} {l : List Int} (hn : 1 ≤ n ∧ n ≤ 24) (h : IsSet n l) : run G (k + 4) 4 [.int n, tI l] = .ok .non := by
  rw [r_check_set (by simpa [isInt] using hn) (ok_t l) (small_t (len_lim h (by omega))), hasSet_t, setOk_iff.mpr h]
  rfl
theorem r_check_number {k : Nat} {d : D} {a b : Int} : run G (k + 2) 5 [d, .int a, .int b] = if isInt d a b then .ok .non else .exc 3 := by
  rw [U_check_number]
  simp [F_check_number, r_is_int]
  cases isInt d a b <;> simp
theorem r_move_by {k : Nat} {n m : Int} {l : List Int} (h : IsSet n l) (hn : n ≤ 100000) : run G (k + 1) 7 [.int n, tI l, .int m] = .ok (tI (mv n l m)) := by
  rw [U_move_by]
  have hl := len_lim h hn
  have h1 : ev (run G k) C_move_by1 [.val (.int n), .val (tI l), .val (.int m), .no] = .ok (.lst ((l.map fun b => (b + m) % n).map D.int)) := by
    unfold C_move_by1
    rw [lc_map (l := l) (e := D.int) (d := fun b => D.int ((b + m) % n))]
    · simp
    · simp
    · exact hl
    · rfl
    · rfl
    · intro x hx
      simp [b_mod _ _ h.pos]
  simp [-List.map_map, F_move_by, h1, bi_sorted _ (show (l.map fun b => (b + m) % n).length ≤ lim by simpa using hl), h.srt_mv]
/-- the numbers by which l moves onto itself, among the divisors -/
def pds (n : Int) (l : List Int) : List Int := (rgI 1 (n + 1)).filter fun p => decide (n % p = 0) && decide (mv n l p = l)
def per (n : Int) (l : List Int) : Int := (pds n l).headD 0
theorem pds_ne {n : Int} {l : List Int} (h : IsSet n l) : pds n l ≠ [] := by
  have hp := h.pos
  refine List.ne_nil_of_mem (a := n) ?_
  unfold pds
  rw [List.mem_filter, mem_rgI]
  simp [h.mvn]
  omega
/-- all that l moves to; the least of them -/
def orb (n : Int) (l : List Int) : List (List Int) := (rgI 0 n).map (mv n l)
def lst (n : Int) (l : List Int) : List Int := minT ((orb n l).headD []) (orb n l).tail
theorem orb_cons {n : Int} {l : List Int} (hn : 0 < n) : orb n l = (orb n l).headD [] :: (orb n l).tail := by
  have : orb n l ≠ [] := by
    unfold orb
    rw [Ne, List.map_eq_nil_iff]
    exact List.ne_nil_of_mem (mem_rgI.mpr ⟨Int.le_refl 0, hn⟩)
  cases q : orb n l with
  | nil => exact absurd q this
  | cons x r => rfl
theorem orb_ne {n : Int} {l : List Int} (h : IsSet n l) : ∀ m ∈ orb n l, m ≠ [] := fun m hm => by
  unfold orb at hm
  obtain ⟨a, _, rfl⟩ := List.mem_map.mp hm
  exact (h.mv a).ne
theorem min_orb {n : Int} {l : List Int} (h : IsSet n l) : biF .min [.lst ((orb n l).map tI)] = some (tI (lst n l)) := by
  have := bi_minT ((orb n l).headD []) (orb n l).tail (by rw [← orb_cons h.pos]; exact orb_ne h)
  rw [← orb_cons h.pos] at this
  exact this
end Cl
set_option Elab.async false
set_option linter.all false
set_option maxRecDepth 100000
set_option maxHeartbeats 1000000
namespace Cl
open PySem
/-! ### the law's helpers: what is drawn -/
def pwM : Nat → Int → Int → Int × Int
  | 0, r, a => (r, a)
  | n + 1, r, a => if 0 < r then (if 0 < a then pwM n (r / 1000000) (a - 1) else (r, a)) else (r, a)
theorem drawn_while {cl : Nat → List D → R D} {s0 s1 s2 s3 : Slot} : ∀ (n : Nat) (r a : Int), a.toNat < n →
    whileL (evT cl (.and (.cmp .gt (.var 5) (.cst (.int 0))) (.one (.cmp .gt (.var 4) (.cst (.int 0)))))) (exs cl S_law_drawn1) n [s0, s1, s2, s3, .val (.int a), .val (.int r)] = .ok (.nx [s0, s1, s2, s3, .val (.int (pwM n r a).2), .val (.int (pwM n r a).1)])
  | 0, r, a, h => absurd h (Nat.not_lt_zero _)
  | n + 1, r, a, h => by
    unfold whileL pwM
    by_cases h1 : 0 < r
    · by_cases h2 : 0 < a
      · have q := drawn_while (cl := cl) (s0 := s0) (s1 := s1) (s2 := s2) (s3 := s3) n (r / 1000000) (a - 1) (by omega)
        simp [h1, h2, S_law_drawn1, b_fdiv r 1000000 (by unfold big; omega)]
        exact q
      · simp [h1, h2]
    · simp [h1]
theorem pd_scr' (ns : List Int) : (D.scr ns).pd = (D.lst (ns.map D.int)).pd := by
  simp only [D.pd, pds_map, List.map_map]
  congr 1
@[simp] theorem ok_scr' (ns : List Int) : (D.scr ns).okD = true := by
  have := ok_lI ns
  unfold D.okD at this ⊢
  rw [pd_scr']
  exact this
@[simp] theorem eq_scr0' (ns : List Int) : deq (.scr ns) (.lst []) = decide (ns = []) := by
  have := eq_lI_nil ns
  unfold deq at this ⊢
  rw [pd_scr']
  exact this
theorem drawn_end {cl : Nat → List D → R D} {k many c : Int} {s0 s4 s5 : Slot} (hk : 0 ≤ k ∧ k ≤ 1900) (hm : 0 < many) : ∃ v, (0 ≤ v ∧ v < many) ∧ ∀ cl s0 s4 s5, exs cl (.cons T_law_drawn3 (.cons T_law_drawn4 (.cons T_law_drawn5 .nil))) [s0, .val (.int k), .val (.int many), .val (.int c), s4, s5] = .ok (.rt (.int v)) := by
  obtain ⟨a, ha⟩ : ∃ a, a = (c % 2147483563 * 69069 + 104723 * (k + 1)) % 2147483563 := ⟨_, rfl⟩
  have ha1 : 0 ≤ a ∧ a < 2147483563 := by rw [ha]; exact ⟨Int.emod_nonneg _ (by omega), Int.emod_lt_of_pos _ (by omega)⟩
  obtain ⟨b, hb⟩ : ∃ b, b = (a * a + a / 3) % 2147483399 := ⟨_, rfl⟩
  have hb1 : 0 ≤ b ∧ b < 2147483399 := by rw [hb]; exact ⟨Int.emod_nonneg _ (by omega), Int.emod_lt_of_pos _ (by omega)⟩
  refine ⟨(b * b + b / 7) % 2147483647 / 11 % many, ⟨Int.emod_nonneg _ (by omega), Int.emod_lt_of_pos _ hm⟩, fun cl s0 s4 s5 => ?_⟩
  rw [exs_nx (e1 := [s0, .val (.int k), .val (.int many), .val (.int a), s4, s5]) (by
    simp [T_law_drawn3, b_mod c 2147483563 (by omega), b_mulR _ 69069 (by unfold big; omega), b_mulL 104723 _ (by unfold big; omega), b_mod _ 2147483563 (by omega), ha])]
  rw [exs_nx (e1 := [s0, .val (.int k), .val (.int many), .val (.int b), s4, s5]) (by
    simp [T_law_drawn4, b_mulL a _ (by unfold big; omega), b_fdiv _ 3 (by unfold big; omega), b_mod _ 2147483399 (by omega), hb])]
  simp [T_law_drawn5, b_mulL b _ (by unfold big; omega), b_fdiv _ 7 (by unfold big; omega), b_mod _ 2147483647 (by omega), b_fdiv _ 11 (by unfold big; omega), b_mod _ many hm]
theorem r_drawn {ns : List Int} {k many : Int} (hs : ns.length ≤ 63) (hk : 0 ≤ k ∧ k ≤ 1900) (hm : 0 < many) : ∃ v, (0 ≤ v ∧ v < many) ∧ ∀ f, run G (f + 1) 66 [.scr ns, .int k, .int many] = .ok (.int v) := by
  have st : ∀ f, run G (f + 1) 66 [.scr ns, .int k, .int many] = outR (exs (run G f) (.cons T_law_drawn2 (.cons T_law_drawn3 (.cons T_law_drawn4 (.cons T_law_drawn5 .nil)))) [.val (.scr ns), .val (.int k), .val (.int many), .val (.int (7 * k)), .no, .no]) := fun f => by
    rw [U_law_drawn]
    simp only [F_law_drawn]
    rw [exs_nx (e1 := [.val (.scr ns), .val (.int k), .val (.int many), .val (.int (7 * k)), .no, .no]) (by simp [T_law_drawn1, b_mulL 7 k (by unfold big; omega)])]
  by_cases h : ns = []
  · obtain ⟨v, hv, e⟩ := drawn_end (cl := run G 0) (k := k) (many := many) (c := 7 * k) (s0 := .no) (s4 := .no) (s5 := .no) hk hm
    refine ⟨v, hv, fun f => ?_⟩
    rw [st, exs_nx (e1 := [.val (.scr ns), .val (.int k), .val (.int many), .val (.int (7 * k)), .no, .no]) (by simp [T_law_drawn2, h]), e]
    rfl
  · have hl : 0 < (ns.length : Int) := by
      have := List.length_pos_iff.mpr h
      omega
    obtain ⟨c, hc⟩ : ∃ c, ns[(k % ns.length).toNat]? = some c := by
      have : (k % ns.length).toNat < ns.length := by
        have := Int.emod_lt_of_pos k hl
        omega
      exact ⟨_, List.getElem?_eq_getElem this⟩
    have h2 : idxF (.scr ns) (.int (k % ns.length)) = some (.int c) := by
      show (L2.atI ns (k % ns.length)).map D.int = _
      rw [atI_nat (Int.emod_nonneg _ (by omega)) hc]
      rfl
    obtain ⟨t, ht⟩ : ∃ t, t = k / (ns.length : Int) := ⟨_, rfl⟩
    have ht1 : 0 ≤ t ∧ t ≤ k := by rw [ht]; exact ⟨Int.ediv_nonneg hk.1 (by omega), Int.ediv_le_self _ hk.1⟩
    have hlb : (ns.length : Int) < big := by unfold big; omega
    obtain ⟨q, hq⟩ : ∃ q, q = (ns.length : Int) := ⟨_, rfl⟩
    rw [← hq] at h2 hl hlb ht
    have elen : biF .len [.scr ns] = some (.int q) := by rw [hq]; rfl
    have hm1 := b_mod k q hl
    have hm2 := b_fdiv k q ⟨hl, hlb⟩
    rw [← ht] at hm2
    have hpow : bopF .pow (.int 10) (.int 18) = some (.int (10 ^ 18)) := by simp [bopF, big]
    obtain ⟨v, hv, e⟩ := drawn_end (cl := run G 0) (k := k) (many := many) (c := c + 6553 * t) (s0 := .no) (s4 := .no) (s5 := .no) hk hm
    by_cases hb : (10 : Int) ^ 18 ≤ c ∧ t < 60
    · obtain ⟨r, hr⟩ : ∃ r, r = (pwM whFuel (c / 10 ^ 18) t).1 := ⟨_, rfl⟩
      have hw : ∀ cl, whileL (evT cl (.and (.cmp .gt (.var 5) (.cst (.int 0))) (.one (.cmp .gt (.var 4) (.cst (.int 0)))))) (exs cl S_law_drawn1) whFuel [.val (.scr ns), .val (.int k), .val (.int many), .val (.int c), .val (.int t), .val (.int (c / 10 ^ 18))] = .ok (.nx [.val (.scr ns), .val (.int k), .val (.int many), .val (.int c), .val (.int (pwM whFuel (c / 10 ^ 18) t).2), .val (.int r)]) := fun cl => by
        rw [hr]; exact drawn_while whFuel _ _ (by unfold whFuel; omega)
      have hc10 := b_fdiv c (10 ^ 18) (by unfold big; omega)
      by_cases h3 : 0 < r
      · refine ⟨r % 1000000 % many, ⟨Int.emod_nonneg _ (by omega), Int.emod_lt_of_pos _ hm⟩, fun f => ?_⟩
        rw [st]
        simp [-bi_lenS, -Int.reducePow, T_law_drawn2, h, elen, hm1, hm2, h2, hpow, hb.1, hb.2, hc10, hw, h3, b_mod _ 1000000 (by omega), b_mod _ many hm]
      · refine ⟨v, hv, fun f => ?_⟩
        rw [st, exs_nx (e1 := [.val (.scr ns), .val (.int k), .val (.int many), .val (.int (c + 6553 * t)), .val (.int (pwM whFuel (c / 10 ^ 18) t).2), .val (.int r)]) (by
          simp [-bi_lenS, -Int.reducePow, T_law_drawn2, h, elen, hm1, hm2, h2, hpow, hb.1, hb.2, hc10, hw, h3, b_mulL 6553 t (by unfold big; omega)]), e]
        rfl
    · refine ⟨v, hv, fun f => ?_⟩
      rw [st, exs_nx (e1 := [.val (.scr ns), .val (.int k), .val (.int many), .val (.int (c + 6553 * t)), .val (.int t), .no]) (by
        by_cases hb1 : (10 : Int) ^ 18 ≤ c
        · have hb2 : ¬ t < 60 := fun z => hb ⟨hb1, z⟩
          simp [-bi_lenS, -Int.reducePow, T_law_drawn2, h, elen, hm1, hm2, h2, hpow, hb1, hb2, b_mulL 6553 t (by unfold big; omega)]
        · simp [-bi_lenS, -Int.reducePow, T_law_drawn2, h, elen, hm1, hm2, h2, hpow, hb1, b_mulL 6553 t (by unfold big; omega)]), e]
      rfl
theorem r_set {ns : List Int} {at' n : Int} (hs : ns.length ≤ 63) (hk : 0 ≤ at' ∧ at' ≤ 1800) (hn : 1 ≤ n ∧ n ≤ 24) : ∃ l, IsSet n l ∧ ∀ f : Nat, run G (f + 2) 67 [.scr ns, .int at', .int n] = .ok (tI l) := by
  have hd : ∀ b, ∃ v : Int, 0 ≤ b → b < n → ∀ f, run G (f + 1) 66 [.scr ns, .int (at' + 1 + b), .int 3] = .ok (.int v) := fun b => by
    by_cases hb : 0 ≤ b ∧ b < n
    · obtain ⟨v, _, e⟩ := r_drawn hs (show 0 ≤ at' + 1 + b ∧ at' + 1 + b ≤ 1900 by omega) (show (0 : Int) < 3 by omega)
      exact ⟨v, fun _ _ => e⟩
    · exact ⟨0, fun h1 h2 => absurd ⟨h1, h2⟩ hb⟩
  obtain ⟨g, hg⟩ := Classical.axiomOfChoice hd
  obtain ⟨w, hw, ew⟩ := r_drawn hs (show 0 ≤ at' ∧ at' ≤ 1900 by omega) (show (0 : Int) < n by omega)
  obtain ⟨l, hl⟩ : ∃ l, l = (rgI 0 n).filter fun b => decide (g b = 0) := ⟨_, rfl⟩
  have h1 : ∀ f, ev (run G (f + 1)) C_law_set1 [.val (.scr ns), .val (.int at'), .val (.int n), .no, .no] = .ok (.lst (l.map D.int)) := fun f => by
    unfold C_law_set1
    rw [lc_filter (l := rgI 0 n) (e := D.int) (d := D.int) (c := fun b => decide (g b = 0))]
    · rw [hl]
    · simp [rgD_is 0 n (by omega)]
    · simp; unfold lim; omega
    · rfl
    · rfl
    · intro x hx
      have := mem_rgI.mp hx
      simp [hg x this.1 this.2 f]
    · intro x hx _
      simp
  by_cases he : l = []
  · refine ⟨[w], ⟨by simp, by simp; omega, by simp; omega, by simp⟩, fun f => ?_⟩
    rw [U_law_set]
    simp only [F_law_set]
    rw [exs_nx (e1 := [.val (.scr ns), .val (.int at'), .val (.int n), .val (.lst (l.map D.int)), .no]) (by simp [h1])]
    simp [he, ew f, show (1 : Nat) ≤ lim by decide]
    rfl
  · refine ⟨l, ⟨he, fun x hx => ?_, fun x hx => ?_, ?_⟩, fun f => ?_⟩
    · rw [hl] at hx; exact (mem_rgI.mp (List.mem_filter.mp hx).1).1
    · rw [hl] at hx; exact (mem_rgI.mp (List.mem_filter.mp hx).1).2
    · rw [hl]; exact flt_pw _ _ _
    · rw [U_law_set]
      simp only [F_law_set]
      rw [exs_nx (e1 := [.val (.scr ns), .val (.int at'), .val (.int n), .val (.lst (l.map D.int)), .no]) (by simp [h1])]
      simp [he]
def divs' (n : Int) : List Int := (rgI 1 (n + 1)).filter fun p => decide (n % p = 0)
theorem r_rhythm {ns : List Int} {at' n : Int} (hs : ns.length ≤ 63) (hk : 0 ≤ at' ∧ at' ≤ 1800) (hn : 1 ≤ n ∧ n ≤ 24) : ∃ l, IsSet n l ∧ ∀ f : Nat, run G (f + 3) 68 [.scr ns, .int at', .int n] = .ok (tI l) := by
  have hd : ∀ p ∈ divs' n, 1 ≤ p ∧ p ≤ n ∧ n % p = 0 := fun p hp => by
    obtain ⟨h1, h2⟩ := List.mem_filter.mp hp
    have := mem_rgI.mp h1
    exact ⟨by omega, by omega, of_decide_eq_true h2⟩
  have hd0 : 0 < ((divs' n).length : Int) := by
    have : (1 : Int) ∈ divs' n := List.mem_filter.mpr ⟨mem_rgI.mpr (by omega), by simp⟩
    have := List.length_pos_of_mem this
    omega
  obtain ⟨a, ha, ea⟩ := r_drawn hs (show 0 ≤ at' ∧ at' ≤ 1900 by omega) hd0
  obtain ⟨q, hq⟩ : ∃ q, (divs' n)[a.toNat]? = some q := ⟨_, List.getElem?_eq_getElem (i := a.toNat) (by omega)⟩
  have hq1 := hd q (List.mem_of_getElem? hq)
  have hz : 0 < n / q := by
    have := Int.ediv_mul_cancel (Int.dvd_of_emod_eq_zero hq1.2.2)
    rcases Int.lt_or_le 0 (n / q) with h | h
    · exact h
    · have := Int.mul_le_mul_of_nonneg_right h (show 0 ≤ q by omega)
      omega
  have hzn : n / q ≤ n := Int.ediv_le_self _ (by omega)
  have hdr : ∀ b, ∃ v : Int, 0 ≤ b → b < q → (0 ≤ v ∧ v < n / q) ∧ ∀ f, run G (f + 1) 66 [.scr ns, .int (at' + 1 + b), .int (n / q)] = .ok (.int v) := fun b => by
    by_cases hb : 0 ≤ b ∧ b < q
    · obtain ⟨v, hv, e⟩ := r_drawn hs (show 0 ≤ at' + 1 + b ∧ at' + 1 + b ≤ 1900 by omega) hz
      exact ⟨v, fun _ _ => ⟨hv, e⟩⟩
    · exact ⟨0, fun h1 h2 => absurd ⟨h1, h2⟩ hb⟩
  obtain ⟨g, hg⟩ := Classical.axiomOfChoice hdr
  obtain ⟨w, hw, ew⟩ := r_drawn hs (show 0 ≤ at' + 25 ∧ at' + 25 ≤ 1900 by omega) (show (0 : Int) < 4 by omega)
  obtain ⟨l0, hl0, el0⟩ := r_set hs hk hn
  obtain ⟨h, hh⟩ : ∃ h : Int → Int, h = fun b => (b + q * g b) % n := ⟨_, rfl⟩
  have h1 : ∀ f, ev (run G (f + 2)) C_law_rhythm1 [.val (.scr ns), .val (.int at'), .val (.int n), .no, .no, .no, .no] = .ok (.lst ((divs' n).map D.int)) := fun f => by
    unfold C_law_rhythm1
    rw [lc_filter (l := rgI 1 (n + 1)) (e := D.int) (d := D.int) (c := fun p => decide (n % p = 0))]
    · rfl
    · simp [rgD_is 1 (n + 1) (by omega)]
    · simp; unfold lim; omega
    · rfl
    · rfl
    · intro x hx
      have := mem_rgI.mp hx
      simp [b_mod n x (by omega)]
    · intro x hx _
      simp
  have hx1 : idxF (.lst ((divs' n).map D.int)) (.int a) = some (.int q) := idx_lst ha.1 (by rw [List.getElem?_map, hq]; rfl)
  have hm : ∀ b ∈ rgI 0 q, h b % q = b := fun b hb => by
    have := mem_rgI.mp hb
    rw [hh]
    show (b + q * g b) % n % q = b
    rw [Int.emod_emod_of_dvd _ (Int.dvd_of_emod_eq_zero hq1.2.2), Int.add_mul_emod_self_left, Int.emod_eq_of_lt this.1 this.2]
  have hset : IsSet n (srt ((rgI 0 q).map h)) := by
    refine ⟨?_, fun x hx => ?_, fun x hx => ?_, srt_lt ?_⟩
    · have : h 0 ∈ srt ((rgI 0 q).map h) := mem_srt.mpr (List.mem_map.mpr ⟨0, mem_rgI.mpr (by omega), rfl⟩)
      exact List.ne_nil_of_mem this
    · obtain ⟨y, _, rfl⟩ := List.mem_map.mp (mem_srt.mp hx)
      rw [hh]; exact Int.emod_nonneg _ (by omega)
    · obtain ⟨y, _, rfl⟩ := List.mem_map.mp (mem_srt.mp hx)
      rw [hh]; exact Int.emod_lt_of_pos _ (by omega)
    · rw [List.nodup_iff_pairwise_ne, List.pairwise_map]
      refine (rgI_pw 0 q).imp_of_mem fun {a b} ha hb hab e => ?_
      have e1 := hm a ha
      have e2 := hm b hb
      rw [e, e2] at e1
      omega
  have st : ∀ f, ∃ s, exs (run G (f + 2)) F_law_rhythm.body [.val (.scr ns), .val (.int at'), .val (.int n), .no, .no, .no, .no] = exs (run G (f + 2)) (.cons (.ret (.ite (.cmp .eq (.call 66 (.cons (.var 0) (.cons (.bin .add (.var 1) (.cst (.int 25))) (.cons (.cst (.int 4)) .nil)))) (.cst (.int 0))) (.call 67 (.cons (.var 0) (.cons (.var 1) (.cons (.var 2) .nil)))) (.bi .tuple (.cons (.bi .sorted (.cons (.bor 5) .nil)) .nil)))) .nil) [.val (.scr ns), .val (.int at'), .val (.int n), .val (.lst ((divs' n).map D.int)), .val (.int q), .own (((rgI 0 q).map h).map D.int), s] := fun f => by
    simp only [F_law_rhythm]
    rw [exs_nx (e1 := [.val (.scr ns), .val (.int at'), .val (.int n), .val (.lst ((divs' n).map D.int)), .no, .no, .no]) (by simp [h1])]
    rw [exs_nx (e1 := [.val (.scr ns), .val (.int at'), .val (.int n), .val (.lst ((divs' n).map D.int)), .val (.int q), .no, .no]) (by simp [ea (f + 1), hx1])]
    rw [exs_nx (e1 := [.val (.scr ns), .val (.int at'), .val (.int n), .val (.lst ((divs' n).map D.int)), .val (.int q), .own [], .no]) (by simp)]
    obtain ⟨env', b1, b2⟩ := for_pre (f := fun d e => (setTg (.nm 6) d e).bind fun e1 => exs (run G (f + 2)) S_law_rhythm1 e1) (e := D.int) (rgI 0 q)
      (fun p env => ∃ s, env = [.val (.scr ns), .val (.int at'), .val (.int n), .val (.lst ((divs' n).map D.int)), .val (.int q), .own ((p.map h).map D.int), s])
      (fun p b r hpq env hI => by
        obtain ⟨s, rfl⟩ := hI
        have hb : b ∈ rgI 0 q := by rw [hpq]; simp
        have hb' := mem_rgI.mp hb
        obtain ⟨hv, e⟩ := hg b hb'.1 hb'.2
        have hlen : p.length < lim := by
          have := congrArg List.length hpq
          simp at this
          unfold lim
          omega
        refine ⟨_, ?_, .val (.int b), rfl⟩
        simp [S_law_rhythm1, b_fdiv n q (by unfold big; omega), e (f + 1), b_mulL q _ (by unfold big; omega), b_mod _ n (by omega), hlen, hh]) _ ⟨.no, rfl⟩
    obtain ⟨s, rfl⟩ := b2
    refine ⟨s, ?_⟩
    rw [exs_nx (by
      rw [x_for]
      simp only [noBor_rng, if_true, vi_rng, vr_one, v_var, List.getElem?_cons_succ, List.getElem?_cons_zero, slotV_val, R.bind_ok, intD_int]
      rw [rgD_is 0 q (by omega), R.bind_ok]
      exact b1)]
  by_cases hw0 : w = 0
  · refine ⟨l0, hl0, fun f => ?_⟩
    obtain ⟨s, e⟩ := st f
    rw [U_law_rhythm, e]
    simp [ew (f + 1), hw0, el0 f]
  · refine ⟨srt ((rgI 0 q).map h), hset, fun f => ?_⟩
    obtain ⟨s, e⟩ := st f
    rw [U_law_rhythm, e]
    have hs : biF .sorted [.lst (((rgI 0 q).map h).map D.int)] = some (.lst ((srt ((rgI 0 q).map h)).map D.int)) := bi_sorted _ (by simp; unfold lim; omega)
    simp [-List.map_map, ew (f + 1), hw0, hs]
end Cl
set_option Elab.async false
set_option linter.all false
set_option maxRecDepth 100000
set_option maxHeartbeats 1000000
namespace Cl
open PySem
/-! ### claps: what each function gives -/
def bump (q : Int → Int) (g : Int → Int) (b : Int) : Int → Int := fun x => if x = q b then g x + 1 else g x
theorem foldl_bump (q : Int → Int) : ∀ (r : List Int) (g : Int → Int) (x : Int), r.foldl (bump q) g x = g x + (r.countP fun b => decide (q b = x) : Nat)
  | [], g, x => by simp
  | b :: r, g, x => by
    rw [List.foldl_cons, foldl_bump q r (bump q g b) x, List.countP_cons]
    unfold bump
    by_cases h : x = q b
    · simp [h]
      omega
    · have h' : ¬ q b = x := fun e => h e.symm
      simp [h, h']
/-- the state of find_claps: how often each beat was clapped -/
def ICl (n : Int) (r s : D) (g : Int → Int) (env : Env) : Prop := ∃ s4 s5 s6, env = [.val (.int n), .val r, .val s, .own ((rgI 0 n).map fun x => .int (g x)), s4, s5, s6]
theorem claps_in {k : Nat} {n t : Int} {r : List Int} {s : D} (hn : 0 < n) (b : Int) (g : Int → Int) (env : Env) (h : ∃ s5 s6, env = [.val (.int n), .val (tI r), .val s, .own ((rgI 0 n).map fun x => .int (g x)), .val (.int t), s5, s6]) :
    ∃ env', ((setTg (.nm 5) (.int b) env).bind fun e1 => exs (run G k) S_find_claps1 e1) = .ok (.nx env') ∧ ∃ s5 s6, env' = [.val (.int n), .val (tI r), .val s, .own ((rgI 0 n).map fun x => .int (bump (fun b => (b + t) % n) g b x)), .val (.int t), s5, s6] := by
  obtain ⟨s5, s6, rfl⟩ := h
  have hp : 0 ≤ (b + t) % n ∧ (b + t) % n < n := ⟨Int.emod_nonneg _ (by omega), Int.emod_lt_of_pos _ hn⟩
  have h1 : idxF (.lst ((rgI 0 n).map fun x => D.int (g x))) (.int ((b + t) % n)) = some (.int (g ((b + t) % n))) := idx_lst hp.1 (rg_get _ hp)
  have h2 : L2.ixN ((b + t) % n).toNat.succ ((b + t) % n) = some ((b + t) % n).toNat := by
    unfold L2.ixN
    rw [if_pos hp.1, if_pos (by omega)]
  have h3 : L2.ixN n.toNat ((b + t) % n) = some ((b + t) % n).toNat := by
    unfold L2.ixN
    rw [if_pos hp.1, if_pos (by omega)]
  have h4 : (fun x => if x = (b + t) % n then D.int (g ((b + t) % n) + 1) else D.int (g x)) = fun x => D.int (bump (fun b => (b + t) % n) g b x) := by
    funext x
    unfold bump
    by_cases hx : x = (b + t) % n
    · simp [hx]
    · simp [hx]
  refine ⟨_, ?_, .val (.int b), .val (.int ((b + t) % n)), rfl⟩
  simp [S_find_claps1, b_mod _ _ hn, h1, h3, rg_set _ _ hp, h4]
theorem claps_out {k : Nat} {n : Int} {r : List Int} {s : D} (hn : 0 < n) (t : Int) (g : Int → Int) (env : Env) (h : ICl n (tI r) s g env) :
    ∃ env', ((setTg (.nm 4) (.int t) env).bind fun e1 => exs (run G k) S_find_claps2 e1) = .ok (.nx env') ∧ ICl n (tI r) s (r.foldl (bump fun b => (b + t) % n) g) env' := by
  obtain ⟨s4, s5, s6, rfl⟩ := h
  obtain ⟨env', h1, h2⟩ := for_rel (f := fun d e => (setTg (.nm 5) d e).bind fun e1 => exs (run G k) S_find_claps1 e1) (e := D.int) (l := r) (fun (g : Int → Int) (env : Env) => ∃ s5 s6, env = [.val (.int n), .val (tI r), .val s, .own ((rgI 0 n).map fun x => .int (g x)), .val (.int t), s5, s6]) (bump fun b => (b + t) % n) (fun b _ g env h => claps_in hn b g env h) g [.val (.int n), .val (tI r), .val s, .own ((rgI 0 n).map fun x => .int (g x)), .val (.int t), s5, s6] ⟨_, _, rfl⟩
  obtain ⟨t5, t6, rfl⟩ := h2
  refine ⟨_, ?_, .val (.int t), t5, t6, rfl⟩
  simp only [setTg_nm, R.bind_ok] at h1
  simp [S_find_claps2, h1]
theorem cnt_bump {n : Int} {r : List Int} (hr : IsSet n r) (t x : Int) (hx : 0 ≤ x ∧ x < n) : (r.countP fun b => decide ((b + t) % n = x)) = if (x - t) % n ∈ r then 1 else 0 := by
  have e : ∀ b ∈ r, (decide ((b + t) % n = x) = true ↔ (b == (x - t) % n) = true) := fun b hb => by
    have h1 := hr.lo b hb
    have h2 := hr.hi b hb
    rw [decide_eq_true_eq, beq_iff_eq]
    constructor
    · rintro rfl
      rw [Int.emod_sub_emod, show b + t - t = b by omega, Int.emod_eq_of_lt h1 h2]
    · rintro rfl
      rw [Int.emod_add_emod, show x - t + t = x by omega, Int.emod_eq_of_lt hx.1 hx.2]
  rw [List.countP_congr e]
  exact List.Nodup.count hr.nd
theorem foldl_out {n : Int} {r : List Int} (hr : IsSet n r) : ∀ (s : List Int) (g : Int → Int) (x : Int), 0 ≤ x ∧ x < n → s.foldl (fun g t => r.foldl (bump fun b => (b + t) % n) g) g x = g x + cnt n r s x
  | [], g, x, hx => by simp [cnt]
  | t :: s, g, x, hx => by
    rw [List.foldl_cons, foldl_out hr s _ x hx, foldl_bump, cnt_bump hr t x hx]
    unfold cnt
    rw [List.countP_cons]
    by_cases h : (x - t) % n ∈ r
    · simp [h]; omega
    · simp [h]
theorem r_find_claps {k : Nat} {n : Int} {r s : List Int} (hr : IsSet n r) (hn : n ≤ 10000) : run G (k + 1) 20 [.int n, tI r, tI s] = .ok (.lst ((clp n r s).map D.int)) := by
  have hp := hr.pos
  rw [U_find_claps]
  obtain ⟨env', h1, h2⟩ := for_rel (f := fun d e => (setTg (.nm 4) d e).bind fun e1 => exs (run G k) S_find_claps2 e1) (e := D.int) (l := s) (ICl n (tI r) (tI s)) (fun g t => r.foldl (bump fun b => (b + t) % n) g) (fun t _ g env h => claps_out hp t g env h) (fun _ => 0) [.val (.int n), .val (tI r), .val (tI s), .own ((rgI 0 n).map fun x => .int 0), .no, .no, .no] ⟨_, _, _, rfl⟩
  obtain ⟨t4, t5, t6, rfl⟩ := h2
  have e : ((rgI 0 n).map fun x => D.int (s.foldl (fun g t => r.foldl (bump fun b => (b + t) % n) g) (fun _ => 0) x)) = (clp n r s).map D.int := by
    unfold clp
    rw [List.map_map]
    refine List.map_congr_left fun x hx => ?_
    rw [foldl_out hr s _ x (mem_rgI.mp hx)]
    simp
  simp only [F_find_claps]
  rw [exs_nx (e1 := [.val (.int n), .val (tI r), .val (tI s), .own ((rgI 0 n).map fun x => .int 0), .no, .no, .no]) (by
    have := b_mulI (n := n) 0 (by omega)
    rw [List.map_map] at this
    simp [lim, this, Function.comp_def])]
  rw [exs_nx (by
    rw [x_for]
    simp only [noBor_tup, isBor_var, Bool.not_false, if_true, vi_tup, v_var, List.getElem?_cons_succ, List.getElem?_cons_zero, slotV_val, R.bind_ok, tupD_t]
    exact h1)]
  simp [e]
theorem r_check_both {k : Nat} {n : Int} {r s : List Int} (hn : 1 ≤ n ∧ n ≤ 24) (hr : IsSet n r) (hs : IsSet n s) : run G (k + 5) 21 [.int n, tI r, tI s] = .ok .non := by
  rw [U_check_both]
  simp [F_check_both, r_check_set_t hn hr, r_check_set_t hn hs]
section
variable {k : Nat} {n : Int} {r s : List Int} (hn : 1 ≤ n ∧ n ≤ 24) (hr : IsSet n r) (hs : IsSet n s)
include hn hr hs
theorem r_claps : run G (k + 6) 22 [.int n, tI r, tI s] = .ok (.lst ((clp n r s).map D.int)) := by
  rw [U_claps]
  simp [F_claps, r_check_both hn hr hs, r_find_claps hr (show n ≤ 10000 by omega)]
theorem r_is_canon : run G (k + 6) 24 [.int n, tI r, tI s] = .ok (.bl (decide (clp n r s = (rgI 0 n).map fun _ => 1))) := by
  rw [U_is_canon]
  have h1 : run G (k + 5) 23 [.int n, tI r, tI s] = .ok (.bl (decide (clp n r s = (rgI 0 n).map fun _ => 1))) := by
    rw [U_has_ones]
    simp [-List.map_map, F_has_ones, r_find_claps hr (show n ≤ 10000 by omega), lim, b_mulI (n := n) 1 (by omega)]
  simp [F_is_canon, r_check_both hn hr hs, h1]
theorem r_is_packing : run G (k + 6) 25 [.int n, tI r, tI s] = .ok (.bl (decide (mx (clp n r s) ≤ 1))) := by
  rw [U_is_packing]
  simp [F_is_packing, r_check_both hn hr hs, r_find_claps hr (show n ≤ 10000 by omega), bi_mx (clp_ne (show 0 < n by omega) r s)]
end
theorem enum_rg {α : Type} (f : Int → D) : ∀ (m : Nat) (a : Nat), enumD a ((List.range m).map fun (i : Nat) => f ((a : Int) + i)) = (List.range m).map fun (i : Nat) => D.tup [.int ((a : Int) + i), f ((a : Int) + i)]
  | 0, a => rfl
  | m + 1, a => by
    have ih := enum_rg (α := α) f m (a + 1)
    rw [List.range_succ_eq_map, List.map_cons, List.map_cons, enumD, List.map_map, List.map_map]
    refine congr (congrArg _ ?_) ?_
    · simp
    · refine Eq.trans (congrArg (enumD (a + 1)) ?_) (ih.trans ?_)
      · refine List.map_congr_left fun i _ => ?_
        simp only [Function.comp_def]
        congr 1
        omega
      · refine List.map_congr_left fun i _ => ?_
        simp only [Function.comp_def]
        rw [show ((a + 1 : Nat) : Int) + (i : Int) = (a : Int) + ((i + 1 : Nat) : Int) by omega]
theorem enum_rgI (n : Int) (f : Int → D) : enumD 0 ((rgI 0 n).map f) = (rgI 0 n).map fun x => D.tup [.int x, f x] := by
  have := enum_rg (α := Unit) f (n - 0).toNat 0
  unfold rgI
  rw [List.map_map, List.map_map]
  simpa [Function.comp_def] using this
section
variable {k : Nat} {n : Int} {r s : List Int} (hn : 1 ≤ n ∧ n ≤ 24) (hr : IsSet n r) (hs : IsSet n s)
include hn hr hs
end
end Cl
set_option Elab.async false
set_option linter.all false
set_option maxRecDepth 100000
set_option maxHeartbeats 1000000
namespace Cl
open PySem
/-! ### clashes: what each function gives -/
theorem r_count_common {k : Nat} {n d : Int} {r : List Int} (hr : IsSet n r) (hn : n ≤ 10000) : run G (k + 2) 49 [.int n, tI r, .int d] = .ok (.int (sh n r d)) := by
  rw [U_count_common]
  have h1 : ev (run G (k + 1)) C_count_common1 [.val (.int n), .val (tI r), .val (.int d), .no] = .ok (.lst (((mv n r d).filter fun b => decide (b ∈ r)).map D.int)) := by
    unfold C_count_common1
    rw [lc_filter (l := mv n r d) (e := D.int) (d := D.int) (c := fun b => decide (b ∈ r))]
    · simp [r_move_by hr (show n ≤ 100000 by omega)]
    · exact len_lim (hr.mv d) (by omega)
    · rfl
    · rfl
    · intro x hx
      simp
    · intro x hx _
      simp
  have e := sh_common hr d
  simp [F_count_common, h1, e]
theorem r_find_counts {k : Nat} {n : Int} {r : List Int} (hr : IsSet n r) (hn : n ≤ 10000) : run G (k + 3) 50 [.int n, tI r] = .ok (.lst ((shL n r).map D.int)) := by
  rw [U_find_counts]
  have hp := hr.pos
  have h1 : ev (run G (k + 2)) C_find_counts1 [.val (.int n), .val (tI r), .no] = .ok (.lst ((shL n r).map D.int)) := by
    unfold C_find_counts1
    rw [lc_map (l := rgI 0 n) (e := D.int) (d := fun d => D.int (sh n r d))]
    · simp [shL]
    · simp [rgD_is 0 n (by omega)]
    · simp; unfold lim; omega
    · rfl
    · rfl
    · intro x hx
      simp [r_count_common hr hn]
  simp [F_find_counts, h1]
section
variable {k : Nat} {n : Int} {r : List Int} (hn : 1 ≤ n ∧ n ≤ 24) (hr : IsSet n r)
include hn hr
theorem r_free : run G (k + 5) 52 [.int n, tI r] = .ok (.lst ((free n r).map D.int)) := by
  rw [U_free_distances]
  have h1 : ev (run G (k + 4)) C_free_distances1 [.val (.int n), .val (tI r), .no, .no] = .ok (.lst ((free n r).map D.int)) := by
    unfold C_free_distances1
    rw [lc_filter (l := rgI 0 n) (e := fun x => D.tup [.int x, .int (sh n r x)]) (d := D.int) (c := fun d => decide (sh n r d = 0))]
    · rw [free_eq hr]
    · have := enum_rgI n fun x => D.int (sh n r x)
      simp [r_find_counts hr (show n ≤ 10000 by omega), shL, Function.comp_def, this]
    · simp; unfold lim; omega
    · rfl
    · rfl
    · intro x hx
      simp
    · intro x hx _
      simp
  simp [F_free_distances, r_check_set_t hn hr, h1]
end
end Cl
set_option Elab.async false
set_option linter.all false
set_option maxRecDepth 100000
set_option maxHeartbeats 1000000
namespace Cl
open PySem
/-! ### a band: what its methods give -/
def enc (l : List (List Int)) : List W := l.map fun x => W.d (tI x)
@[simp] theorem dsW_enc (l : List (List Int)) : dsW (enc l) = some (l.map tI) := by
  have : enc l = (l.map tI).map W.d := by unfold enc; rw [List.map_map]; rfl
  rw [this, dsW_map]
@[simp] theorem enc_len (l : List (List Int)) : (enc l).length = l.length := by simp [enc]
theorem enc_app (l : List (List Int)) (x : List Int) : enc l ++ [W.d (tI x)] = enc (l ++ [x]) := by simp [enc]
@[simp] theorem enc_nil : enc [] = [] := rfl
@[simp] theorem nob_t (l : List Int) : (tI l).nob = true := nob_tI l
@[simp] theorem nobs_ts (l : List (List Int)) : D.nobs (l.map tI) = true := by induction l with | nil => rfl | cons x l ih => simp [ih]
/-- the band at b, its lists at dn and un -/
structure BS (S : Sto) (b : Nat) (n : Int) (r vs : List Int) (dl ul : List (List Int)) (dn un : Nat) : Prop where
  at_ : S[b]? = some (.bd (.int n) (tI r) (tI vs) dn un)
  d : S[dn]? = some (.ls (enc dl))
  u : S[un]? = some (.ls (enc ul))
  bd : b ≠ dn
  bu : b ≠ un
  du : dn ≠ un
/-- all else stays -/
def Keeps (S S' : Sto) (b dn un : Nat) : Prop := ∀ (m : Nat) (o : Ob), S[m]? = some o → m ≠ b → m ≠ dn → m ≠ un → S'[m]? = some o
theorem BS.lt {S : Sto} {b dn un : Nat} {n : Int} {r vs : List Int} {dl ul : List (List Int)} (h : BS S b n r vs dl ul dn un) : b < S.length ∧ dn < S.length ∧ un < S.length :=
  ⟨(List.getElem?_eq_some_iff.mp h.at_).1, (List.getElem?_eq_some_iff.mp h.d).1, (List.getElem?_eq_some_iff.mp h.u).1⟩
abbrev bO (n : Int) (r vs : List Int) : D := .obj [.int n, tI r, tI vs]
section
variable {S : Sto} {b dn un : Nat} {n : Int} {r vs : List Int} {dl ul : List (List Int)} (h : BS S b n r vs dl ul dn un)
include h
theorem BS.prO : projO S[b]? = .val (bO n r vs) := by rw [h.at_]; rfl
theorem BS.pr1 : proj S [some (.l b)] = [.val (bO n r vs)] := by simp [Cl.proj, later, hasL, projS, h.at_, projO]
theorem BS.pr2 {x : D} : proj S [some (.l b), some (.d x)] = [.val (bO n r vs), .val x] := by simp [Cl.proj, later, hasL, projS, h.at_, projO]
theorem BS.pr3 {x : D} : proj S [some (.l b), some (.d x), none] = [.val (bO n r vs), .val x, .no] := by simp [Cl.proj, later, hasL, projS, h.at_, projO]
theorem r_change {k : Nat} {vs' : List Int} (hl : dl.length < 1000) : ∃ S', run2 G G2 (k + 1) 132 [.l b, .d (tI vs')] S = .ok (.d .non) S' ∧ BS S' b n r vs' (dl ++ [vs]) [] dn S.length ∧ Keeps S S' b dn un ∧ S.length ≤ S'.length := by
  obtain ⟨l1, l2, l3⟩ := h.lt
  rw [V_Band_change]
  have e1 : evP (run G k) (.fld 0 2) [some (.l b), some (.d (tI vs'))] S = .ok (tI vs) S := evP_of (by rw [h.pr2]; simp [evV, slotV, fldF]) (nob_t _)
  have a1 : appW dn (tI vs) S = some (S.set dn (.ls (enc (dl ++ [vs])))) := by
    unfold appW
    simp only [getLs, h.d, Option.bind_some, enc_len]
    rw [if_pos (show dl.length < lim by unfold lim; omega), enc_app]
  have s1 : ex2 (run G k) (run2 G G2 k) (.fapp 0 3 (.fld 0 2)) [some (.l b), some (.d (tI vs'))] S = .ok (.nx [some (.l b), some (.d (tI vs'))]) (S.set dn (.ls (enc (dl ++ [vs])))) := by
    rw [y_fapp]
    simp [getFl, getL, h.at_, getLs, h.d, a1, e1]
  have hb1 : (S.set dn (.ls (enc (dl ++ [vs]))))[b]? = some (.bd (.int n) (tI r) (tI vs) dn un) := by rw [List.getElem?_set_ne (Ne.symm h.bd)]; exact h.at_
  have e2 : evP (run G k) (.var 1) [some (.l b), some (.d (tI vs'))] (S.set dn (.ls (enc (dl ++ [vs])))) = .ok (tI vs') (S.set dn (.ls (enc (dl ++ [vs])))) := evP_of (by simp [evV, Cl.proj, later, hasL, projS, slotV]) (nob_t _)
  have s2 : ex2 (run G k) (run2 G G2 k) (.fset 0 2 (.pu (.var 1))) [some (.l b), some (.d (tI vs'))] (S.set dn (.ls (enc (dl ++ [vs])))) = .ok (.nx [some (.l b), some (.d (tI vs'))]) ((S.set dn (.ls (enc (dl ++ [vs])))).set b (.bd (.int n) (tI r) (tI vs') dn un)) := by
    rw [y_fset, m_pu, e2]
    simp [getL, fsetW, hb1]
  let S2 := (S.set dn (.ls (enc (dl ++ [vs])))).set b (.bd (.int n) (tI r) (tI vs') dn un)
  have hlen : S2.length = S.length := by simp [S2]
  have hb2 : (S2 ++ [Ob.ls []])[b]? = some (.bd (.int n) (tI r) (tI vs') dn un) := by
    rw [List.getElem?_append_left (by rw [hlen]; exact l1)]
    exact List.getElem?_set_self (by simpa using l1)
  have s3 : ex2 (run G k) (run2 G G2 k) (.fset 0 4 (.ls .nil)) [some (.l b), some (.d (tI vs'))] S2 = .ok (.nx [some (.l b), some (.d (tI vs'))]) ((S2 ++ [Ob.ls []]).set b (.bd (.int n) (tI r) (tI vs') dn S.length)) := by
    rw [y_fset, m_ls, evsP_of (ds := []) rfl rfl]
    simp [getL, fsetW, hb2, hlen]
  refine ⟨(S2 ++ [Ob.ls []]).set b (.bd (.int n) (tI r) (tI vs') dn S.length), ?_, ⟨?_, ?_, ?_, h.bd, by omega, by omega⟩, fun m o hm n1 n2 n3 => ?_, ?_⟩
  · unfold B_Band_change
    rw [exs2_nx s1, exs2_nx s2, exs2_nx s3]
    rfl
  · exact List.getElem?_set_self (by simp [hlen]; omega)
  · rw [List.getElem?_set_ne h.bd, List.getElem?_append_left (by rw [hlen]; exact l2)]
    show ((S.set dn (.ls (enc (dl ++ [vs])))).set b _)[dn]? = _
    rw [List.getElem?_set_ne h.bd]
    exact List.getElem?_set_self l2
  · rw [List.getElem?_set_ne (by omega), List.getElem?_append_right (by omega), hlen, Nat.sub_self]
    rfl
  · have hml := (List.getElem?_eq_some_iff.mp hm).1
    rw [List.getElem?_set_ne (Ne.symm n1), List.getElem?_append_left (by omega)]
    show ((S.set dn (.ls (enc (dl ++ [vs])))).set b _)[m]? = _
    rw [List.getElem?_set_ne (Ne.symm n1), List.getElem?_set_ne (Ne.symm n2)]
    exact hm
  · simp [hlen]
/-- what the methods that change it check first -/
theorem chk_no {k : Nat} {d : D} {x : Option W} (hx : x = none ∨ True) (hd : isInt d 0 (n - 1) = false) {env : Env2} (he : Cl.proj S env = .val (bO n r vs) :: .val d :: env.tail.tail.map (fun _ => .no)) :
    ex2 (run G (k + 2)) (run2 G G2 (k + 2)) (.exp (.pu (.call 5 (.cons (.var 1) (.cons (.cst (.int 0)) (.cons (.bin .sub (.fld 0 0) (.cst (.int 1))) .nil)))))) env S = .exc 3 S := by
  rw [y_exp, m_pu, evP_exc (k := 3)]
  · rfl
  · rw [he]
    simp [evV, slotV, fldF, r_check_number, hd]
theorem chk_yes {k : Nat} {d : D} (hd : isInt d 0 (n - 1) = true) {env : Env2} (he : Cl.proj S env = .val (bO n r vs) :: .val d :: env.tail.tail.map (fun _ => .no)) :
    ex2 (run G (k + 2)) (run2 G G2 (k + 2)) (.exp (.pu (.call 5 (.cons (.var 1) (.cons (.cst (.int 0)) (.cons (.bin .sub (.fld 0 0) (.cst (.int 1))) .nil)))))) env S = .ok (.nx env) S := by
  rw [y_exp, m_pu, evP_of (d := .non)]
  · rfl
  · rw [he]
    simp [evV, slotV, fldF, r_check_number, hd]
  · rfl
theorem r_join_no {k : Nat} {d : D} (hd : isInt d 0 (n - 1) = false) : run2 G G2 (k + 3) 133 [.l b, .d d] S = .exc 3 S := by
  rw [V_Band_join]
  unfold B_Band_join
  rw [ys_cons, chk_no h (.inr trivial) (x := none) hd (by rw [h.pr2]; rfl)]
  rfl
theorem r_leave_no {k : Nat} {d : D} (hd : isInt d 0 (n - 1) = false) : run2 G G2 (k + 3) 134 [.l b, .d d] S = .exc 3 S := by
  rw [V_Band_leave]
  unfold B_Band_leave
  rw [ys_cons, chk_no h (.inr trivial) (x := none) hd (by rw [h.pr3]; rfl)]
  rfl
theorem r_join_in {k : Nat} {s : Int} (hs : 0 ≤ s ∧ s < n) (hm : s ∈ vs) : run2 G G2 (k + 3) 133 [.l b, .d (.int s)] S = .exc 10 S := by
  have hi : isInt (.int s) 0 (n - 1) = true := by simp [isInt]; omega
  rw [V_Band_join]
  unfold B_Band_join
  rw [exs2_nx (chk_yes h hi (by rw [h.pr2]; rfl)), ys_cons, y_ite, mt_pu, evTP_of (k := true)]
  · rfl
  · rw [h.pr2]
    simp [-fold_tI, evT, slotV, fldF, tI, c_inT, hm]
theorem r_leave_out {k : Nat} {s : Int} (hs : 0 ≤ s ∧ s < n) (hm : s ∉ vs) : run2 G G2 (k + 3) 134 [.l b, .d (.int s)] S = .exc 11 S := by
  have hi : isInt (.int s) 0 (n - 1) = true := by simp [isInt]; omega
  rw [V_Band_leave]
  unfold B_Band_leave
  rw [exs2_nx (chk_yes h hi (by rw [h.pr3]; rfl)), ys_cons, y_ite, mt_pu, evTP_of (k := true)]
  · rfl
  · rw [h.pr3]
    simp [-fold_tI, evT, slotV, fldF, tI, c_ninT, hm]
    exact fun x hx e => hm (e ▸ hx)
theorem r_join {k : Nat} {s : Int} (hs : 0 ≤ s ∧ s < n) (hm : s ∉ vs) (hl : dl.length < 1000) (hv : vs.length < 1000) :
    ∃ S', run2 G G2 (k + 3) 133 [.l b, .d (.int s)] S = .ok (.d .non) S' ∧ BS S' b n r (srt (vs ++ [s])) (dl ++ [vs]) [] dn S.length ∧ Keeps S S' b dn un ∧ S.length ≤ S'.length := by
  have hi : isInt (.int s) 0 (n - 1) = true := by simp [isInt]; omega
  obtain ⟨S', e1, e2, e3, e4⟩ := r_change h (k := k + 1) (vs' := srt (vs ++ [s])) hl
  refine ⟨S', ?_, e2, e3, e4⟩
  rw [V_Band_join]
  unfold B_Band_join
  rw [exs2_nx (chk_yes h hi (by rw [h.pr2]; rfl)), exs2_nx (e1 := [some (.l b), some (.d (.int s))]) (S1 := S)]
  · have e5 : evP (run G (k + 2)) (.bi .tuple (.cons (.bi .sorted (.cons (.bin .add (.fld 0 2) (.tup (.cons (.var 1) .nil))) .nil)) .nil)) [some (.l b), some (.d (.int s))] S = .ok (tI (srt (vs ++ [s]))) S := evP_of (by
      rw [h.pr2]
      have a1 : bopF .add (tI vs) (.tup [.int s]) = some (tI (vs ++ [s])) := by
        unfold tI
        rw [b_addT _ _ (by simp; unfold lim; omega)]
        simp
      have a2 := bi_sorted_t (vs ++ [s]) (by simp; unfold lim; omega)
      simp [evV, slotV, fldF, a1, a2, show (1 : Nat) ≤ lim by decide]) (nob_t _)
    rw [ys_cons, y_exp, m_mt, if_neg (by decide), m_al]
    simp only [getL, List.getElem?_cons_zero, Option.map_some, ofO2_some, R2.bind_ok, h.at_, isBd, if_true, ms_cons, m_pu, e5, ms_nil, e1, nx_nx, ys_nil, out2_nx]
  · rw [y_ite, mt_pu, evTP_of (k := false)]
    · rfl
    · rw [h.pr2]
      simp [-fold_tI, evT, slotV, fldF, tI, c_inT, hm]
      exact fun x hx e => hm (e ▸ hx)
theorem r_leave {k : Nat} {s : Int} (hs : 0 ≤ s ∧ s < n) (hm : s ∈ vs) (hl : dl.length < 1000) (hv : vs.length < 1000) :
    ∃ S', run2 G G2 (k + 3) 134 [.l b, .d (.int s)] S = .ok (.d .non) S' ∧ BS S' b n r (vs.filter fun x => decide (x ≠ s)) (dl ++ [vs]) [] dn S.length ∧ Keeps S S' b dn un ∧ S.length ≤ S'.length := by
  have hi : isInt (.int s) 0 (n - 1) = true := by simp [isInt]; omega
  obtain ⟨S', e1, e2, e3, e4⟩ := r_change h (k := k + 1) (vs' := vs.filter fun x => decide (x ≠ s)) hl
  refine ⟨S', ?_, e2, e3, e4⟩
  rw [V_Band_leave]
  unfold B_Band_leave
  rw [exs2_nx (chk_yes h hi (by rw [h.pr3]; rfl)), exs2_nx (e1 := [some (.l b), some (.d (.int s)), none]) (S1 := S)]
  · have e5 : evP (run G (k + 2)) (.bi .tuple (.cons C_Band_leave1 .nil)) [some (.l b), some (.d (.int s)), none] S = .ok (tI (vs.filter fun x => decide (x ≠ s))) S := evP_of (by
      rw [h.pr3]
      have a1 : ev (run G (k + 2)) C_Band_leave1 [.val (bO n r vs), .val (.int s), .no] = .ok (.lst ((vs.filter fun x => decide (x ≠ s)).map D.int)) := by
        unfold C_Band_leave1
        rw [lc_filter (l := vs) (e := D.int) (d := D.int) (c := fun x => decide (x ≠ s))]
        · simp [-fold_tI, slotV, fldF, tI, tupD]
        · unfold lim; omega
        · rfl
        · rfl
        · intro x hx
          simp [setTg, wipeE]
        · intro x hx _
          simp [setTg, wipeE]
      simp only [evV, v_bi, vb_cons, a1, vb_nil, R.bind_ok, bi_tupL, R.ofO_some]
      rfl) (nob_t _)
    rw [ys_cons, y_exp, m_mt, if_neg (by decide), m_al]
    simp only [getL, List.getElem?_cons_zero, Option.map_some, ofO2_some, R2.bind_ok, h.at_, isBd, if_true, ms_cons, m_pu, e5, ms_nil, e1, nx_nx, ys_nil, out2_nx]
  · rw [y_ite, mt_pu, evTP_of (k := false)]
    · rfl
    · rw [h.pr3]
      simp [-fold_tI, evT, slotV, fldF, tI, c_ninT, hm]
theorem lists_eq {k : Nat} {j m : Nat} {xs : List (List Int)} (hf : getFl [some (.l b)] S 0 j = some m) (hm : S[m]? = some (.ls (enc xs))) : ev2T (run G k) (run2 G G2 k) (.cm .eq (.fl 0 j) (.pu (.lst .nil))) [some (.l b)] S = .ok (decide (xs = [])) S := by
  have e0 : evP (run G k) (.lst .nil) [some (.l b)] S = .ok (.lst []) S := evP_of (by simp [evV]) rfl
  have e1 : deq (.lst (xs.map tI)) (.lst []) = decide (xs = []) := eq_lt xs []
  have e2 : copF .eq (.lst (xs.map tI)) (.lst []) = some (decide (xs = [])) := by rw [c_eq (ok_lt _) ok_nilL, e1]
  simp only [mt_cm, m_cm, m_fl, hf, m_pu, e0, Option.map_some, ofO2_some, R2.bind_ok, cmpW, valD, hm, dsW_enc, e2, R.ofO_some, liftR_ok, boolW_bl]
theorem r_undo_no {k : Nat} (hd : dl = []) : run2 G G2 (k + 1) 136 [.l b] S = .exc 12 S := by
  rw [V_Band_undo]
  unfold B_Band_undo
  rw [ys_cons, y_ite, lists_eq h (by simp [getFl, getL, h.at_]) h.d, hd]
  rfl
theorem r_redo_no {k : Nat} (hd : ul = []) : run2 G G2 (k + 1) 137 [.l b] S = .exc 12 S := by
  rw [V_Band_redo]
  unfold B_Band_redo
  rw [ys_cons, y_ite, lists_eq h (by simp [getFl, getL, h.at_]) h.u, hd]
  rfl
theorem r_undo {k : Nat} {dl' : List (List Int)} {x : List Int} (hd : dl = dl' ++ [x]) (hl : ul.length < 1000) :
    ∃ S', run2 G G2 (k + 1) 136 [.l b] S = .ok (.d .non) S' ∧ BS S' b n r x dl' (ul ++ [vs]) dn un ∧ Keeps S S' b dn un ∧ S.length ≤ S'.length := by
  obtain ⟨l1, l2, l3⟩ := h.lt
  have e1 : evP (run G k) (.fld 0 2) [some (.l b)] S = .ok (tI vs) S := evP_of (by rw [h.pr1]; simp [evV, slotV, fldF]) (nob_t _)
  have a1 : appW un (tI vs) S = some (S.set un (.ls (enc (ul ++ [vs])))) := by
    unfold appW
    simp only [getLs, h.u, Option.bind_some, enc_len]
    rw [if_pos (show ul.length < lim by unfold lim; omega), enc_app]
  have s1 : ex2 (run G k) (run2 G G2 k) (.fapp 0 4 (.fld 0 2)) [some (.l b)] S = .ok (.nx [some (.l b)]) (S.set un (.ls (enc (ul ++ [vs])))) := by
    rw [y_fapp]
    simp [getFl, getL, h.at_, getLs, h.u, a1, e1]
  have hb1 : (S.set un (.ls (enc (ul ++ [vs]))))[b]? = some (.bd (.int n) (tI r) (tI vs) dn un) := by rw [List.getElem?_set_ne (Ne.symm h.bu)]; exact h.at_
  have hd1 : (S.set un (.ls (enc (ul ++ [vs]))))[dn]? = some (.ls (enc (dl' ++ [x]))) := by rw [List.getElem?_set_ne (Ne.symm h.du), ← hd]; exact h.d
  have hp : popW dn (S.set un (.ls (enc (ul ++ [vs])))) = .ok (.d (tI x)) ((S.set un (.ls (enc (ul ++ [vs])))).set dn (.ls (enc dl'))) := by
    unfold popW
    simp only [getLs, hd1]
    rw [← enc_app]
    simp
  have hb2 : ((S.set un (.ls (enc (ul ++ [vs])))).set dn (.ls (enc dl')))[b]? = some (.bd (.int n) (tI r) (tI vs) dn un) := by rw [List.getElem?_set_ne (Ne.symm h.bd)]; exact hb1
  have s2 : ex2 (run G k) (run2 G G2 k) (.fpop 0 2 3) [some (.l b)] (S.set un (.ls (enc (ul ++ [vs])))) = .ok (.nx [some (.l b)]) (((S.set un (.ls (enc (ul ++ [vs])))).set dn (.ls (enc dl'))).set b (.bd (.int n) (tI r) (tI x) dn un)) := by
    rw [y_fpop]
    simp only [getFl, getL, List.getElem?_cons_zero, Option.bind_some, hb1, if_true, ofO2_some, R2.bind_ok, hp, fsetW, hb2, nxO_some]
  refine ⟨((S.set un (.ls (enc (ul ++ [vs])))).set dn (.ls (enc dl'))).set b (.bd (.int n) (tI r) (tI x) dn un), ?_, ⟨List.getElem?_set_self (by simpa using l1), ?_, ?_, h.bd, h.bu, h.du⟩, fun m o hm n1 n2 n3 => ?_, by simp⟩
  · rw [V_Band_undo]
    unfold B_Band_undo
    rw [exs2_nx (e1 := [some (.l b)]) (S1 := S), exs2_nx s1, exs2_nx s2]
    · rfl
    · rw [y_ite, lists_eq h (by simp [getFl, getL, h.at_]) h.d, hd]
      simp
  · rw [List.getElem?_set_ne h.bd]
    exact List.getElem?_set_self (by simpa using l2)
  · rw [List.getElem?_set_ne h.bu, List.getElem?_set_ne h.du]
    exact List.getElem?_set_self l3
  · rw [List.getElem?_set_ne (Ne.symm n1), List.getElem?_set_ne (Ne.symm n2), List.getElem?_set_ne (Ne.symm n3)]
    exact hm
theorem r_redo {k : Nat} {ul' : List (List Int)} {x : List Int} (hd : ul = ul' ++ [x]) (hl : dl.length < 1000) :
    ∃ S', run2 G G2 (k + 1) 137 [.l b] S = .ok (.d .non) S' ∧ BS S' b n r x (dl ++ [vs]) ul' dn un ∧ Keeps S S' b dn un ∧ S.length ≤ S'.length := by
  obtain ⟨l1, l2, l3⟩ := h.lt
  have e1 : evP (run G k) (.fld 0 2) [some (.l b)] S = .ok (tI vs) S := evP_of (by rw [h.pr1]; simp [evV, slotV, fldF]) (nob_t _)
  have a1 : appW dn (tI vs) S = some (S.set dn (.ls (enc (dl ++ [vs])))) := by
    unfold appW
    simp only [getLs, h.d, Option.bind_some, enc_len]
    rw [if_pos (show dl.length < lim by unfold lim; omega), enc_app]
  have s1 : ex2 (run G k) (run2 G G2 k) (.fapp 0 3 (.fld 0 2)) [some (.l b)] S = .ok (.nx [some (.l b)]) (S.set dn (.ls (enc (dl ++ [vs])))) := by
    rw [y_fapp]
    simp [getFl, getL, h.at_, getLs, h.d, a1, e1]
  have hb1 : (S.set dn (.ls (enc (dl ++ [vs]))))[b]? = some (.bd (.int n) (tI r) (tI vs) dn un) := by rw [List.getElem?_set_ne (Ne.symm h.bd)]; exact h.at_
  have hd1 : (S.set dn (.ls (enc (dl ++ [vs]))))[un]? = some (.ls (enc (ul' ++ [x]))) := by rw [List.getElem?_set_ne h.du, ← hd]; exact h.u
  have hp : popW un (S.set dn (.ls (enc (dl ++ [vs])))) = .ok (.d (tI x)) ((S.set dn (.ls (enc (dl ++ [vs])))).set un (.ls (enc ul'))) := by
    unfold popW
    simp only [getLs, hd1]
    rw [← enc_app]
    simp
  have hb2 : ((S.set dn (.ls (enc (dl ++ [vs])))).set un (.ls (enc ul')))[b]? = some (.bd (.int n) (tI r) (tI vs) dn un) := by rw [List.getElem?_set_ne (Ne.symm h.bu)]; exact hb1
  have s2 : ex2 (run G k) (run2 G G2 k) (.fpop 0 2 4) [some (.l b)] (S.set dn (.ls (enc (dl ++ [vs])))) = .ok (.nx [some (.l b)]) (((S.set dn (.ls (enc (dl ++ [vs])))).set un (.ls (enc ul'))).set b (.bd (.int n) (tI r) (tI x) dn un)) := by
    rw [y_fpop]
    simp [getFl, getL, hb1, hp, fsetW, hb2]
  refine ⟨((S.set dn (.ls (enc (dl ++ [vs])))).set un (.ls (enc ul'))).set b (.bd (.int n) (tI r) (tI x) dn un), ?_, ⟨List.getElem?_set_self (by simpa using l1), ?_, ?_, h.bd, h.bu, h.du⟩, fun m o hm n1 n2 n3 => ?_, by simp⟩
  · rw [V_Band_redo]
    unfold B_Band_redo
    rw [exs2_nx (e1 := [some (.l b)]) (S1 := S), exs2_nx s1, exs2_nx s2]
    · rfl
    · rw [y_ite, lists_eq h (by simp [getFl, getL, h.at_]) h.u, hd]
      simp
  · rw [List.getElem?_set_ne h.bd, List.getElem?_set_ne (Ne.symm h.du)]
    exact List.getElem?_set_self l2
  · rw [List.getElem?_set_ne h.bu]
    exact List.getElem?_set_self (by simpa using l3)
  · rw [List.getElem?_set_ne (Ne.symm n1), List.getElem?_set_ne (Ne.symm n3), List.getElem?_set_ne (Ne.symm n2)]
    exact hm
end
theorem r_starts {k : Nat} {n : Int} {r vs : List Int} : run G (k + 1) 130 [bO n r vs] = .ok (tI vs) := by
  rw [U_Band_starts]
  simp [F_Band_starts, evV, slotV, fldF]
theorem r_blen {k : Nat} {n : Int} {r vs : List Int} : run G (k + 1) 129 [bO n r vs] = .ok (.int vs.length) := by
  rw [U_Band___len__]
  simp [-fold_tI, F_Band___len__, evV, slotV, fldF, tI]
theorem r_bclaps {k : Nat} {n : Int} {r vs : List Int} (hr : IsSet n r) (hn : n ≤ 10000) : run G (k + 2) 131 [bO n r vs] = .ok (.lst ((clp n r vs).map D.int)) := by
  rw [U_Band_claps]
  simp [F_Band_claps, evV, slotV, fldF, r_find_claps hr hn]
/-- Band(..) -/
theorem r_new {k : Nat} {n : Int} {r : List Int} (S : Sto) (hn : 1 ≤ n ∧ n ≤ 24) (hr : IsSet n r) : newB (run G (k + 5)) [.int n, tI r] S = .ok (.l (S.length + 2)) (S ++ [.ls [], .ls [], .bd (.int n) (tI r) (.tup []) S.length (S.length + 1)]) := by
  show (liftR S (run G (k + 5) 900 [.int n, tI r])).bind _ = _
  rw [run_init G_900, r_check_set_t hn hr]
  rfl
theorem r_new_exc {k c : Nat} {d z : D} (S : Sto) (h : run G (k + 4) 4 [d, z] = .exc c) : newB (run G (k + 5)) [d, z] S = .exc c S := by
  show (liftR S (run G (k + 5) 900 [d, z])).bind _ = _
  rw [run_init G_900, h]
  rfl
theorem BS.new {n : Int} {r : List Int} (S : Sto) : BS (S ++ [.ls [], .ls [], .bd (.int n) (tI r) (.tup []) S.length (S.length + 1)]) (S.length + 2) n r [] [] [] S.length (S.length + 1) := by
  refine ⟨?_, ?_, ?_, by omega, by omega, by omega⟩
  · rw [List.getElem?_append_right (by omega), show S.length + 2 - S.length = 2 by omega]; rfl
  · rw [List.getElem?_append_right (by omega), Nat.sub_self]; rfl
  · rw [List.getElem?_append_right (by omega), show S.length + 1 - S.length = 1 by omega]; rfl

end Cl
set_option Elab.async false
set_option linter.all false
set_option maxRecDepth 100000
set_option maxHeartbeats 1000000
namespace Cl
open PySem
/-! ### a band: its free starts -/
def fr (n : Int) (r vs : List Int) : List Int := (rgI 0 n).filter fun s => (mv n r s).all fun b => decide (cnt n r vs b = 0)
theorem clp_idx {n : Int} {r vs : List Int} {x : Int} (hx : 0 ≤ x ∧ x < n) : idxF (.lst ((clp n r vs).map D.int)) (.int x) = some (.int (cnt n r vs x)) := by
  unfold clp
  rw [List.map_map]
  exact idx_lst hx.1 (rg_get _ hx)
theorem sss_ite {cl : Nat → List D → R D} {c : CE} {p : CSs} {env : Env} {k : Bool} (h : evT cl c env = .ok k) : exs cl (.cons (.ite c p .nil) .nil) env = (if k then exs cl p env else .ok (.nx env)).bind (Fl.next fun e => .ok (.nx e)) := by
  show ((evT cl c env).bind fun k => if k then exs cl p env else exs cl .nil env).bind _ = _
  rw [h]
  rfl
theorem r_bfree {k : Nat} {n : Int} {r vs : List Int} (hr : IsSet n r) (hn : n ≤ 1000) : run G (k + 3) 135 [bO n r vs] = .ok (.lst ((fr n r vs).map D.int)) := by
  rw [U_Band_free]
  have hp := hr.pos
  have e1 : ex (run G (k + 2)) (.ownQ 1 2 (.mth 131 "claps" (.var 0) .nil)) [.val (bO n r vs), .no, .no, .no, .no] = .ok (.nx [.val (bO n r vs), .val (.lst ((clp n r vs).map D.int)), .own [], .no, .no]) := by
    rw [x_ownQ]
    simp only [evV, isBor_mth, v_mth]
    simp [slotV, isObj, r_bclaps hr (show n ≤ 10000 by omega), show ¬ (("claps" : Str) ∈ bandF) by decide]
  have hc : ∀ (s : Int) (o : List D) (x4 : Slot), ev (run G (k + 2)) C_Band_free1 [.val (bO n r vs), .val (.lst ((clp n r vs).map D.int)), .own o, .val (.int s), x4] = .ok (.lst (((mv n r s).map fun b => decide (cnt n r vs b = 0)).map D.bl)) := fun s o x4 => by
    unfold C_Band_free1
    rw [lc_map (l := mv n r s) (e := D.int) (d := fun b => .bl (decide (cnt n r vs b = 0)))]
    · rw [List.map_map]; rfl
    · simp [slotV, fldF, r_move_by hr (show n ≤ 100000 by omega)]
    · have := (hr.mv s).len
      unfold lim
      omega
    · rfl
    · rfl
    · intro x hx
      have hx' := (mem_mv.mp hx).1
      simp [setTg, wipeE, slotV, clp_idx hx']
  obtain ⟨env', h1, h2⟩ := for_pre (f := fun d e => (setTg (.nm 3) d e).bind fun e1 => exs (run G (k + 2)) S_Band_free1 e1) (e := D.int) (rgI 0 n)
    (fun p env => ∃ s3, env = [.val (bO n r vs), .val (.lst ((clp n r vs).map D.int)), .own ((p.filter fun s => (mv n r s).all fun b => decide (cnt n r vs b = 0)).map D.int), s3, .no])
    (fun p x q hpq env ⟨s3, he⟩ => by
      have hlen : p.length ≤ 1000 := by
        have := congrArg List.length hpq
        simp at this
        omega
      have hfl : (p.filter fun s => (mv n r s).all fun b => decide (cnt n r vs b = 0)).length ≤ 1000 := Nat.le_trans (List.length_filter_le _ _) hlen
      subst he
      refine ⟨[.val (bO n r vs), .val (.lst ((clp n r vs).map D.int)), .own (((p ++ [x]).filter fun s => (mv n r s).all fun b => decide (cnt n r vs b = 0)).map D.int), .val (.int x), .no], ?_, _, rfl⟩
      simp only [setTg, R.bind_ok, List.set]
      unfold S_Band_free1
      have ha : ((mv n r x).map fun b => decide (cnt n r vs b = 0)).all id = (mv n r x).all fun b => decide (cnt n r vs b = 0) := by rw [List.all_map]; rfl
      have ht : evT (run G (k + 2)) (.bi .all (.cons C_Band_free1 .nil)) [.val (bO n r vs), .val (.lst ((clp n r vs).map D.int)), .own ((p.filter fun s => (mv n r s).all fun b => decide (cnt n r vs b = 0)).map D.int), .val (.int x), .no] = .ok ((mv n r x).all fun b => decide (cnt n r vs b = 0)) := by
        simp only [evT, isTest_bi, if_true, v_bi, vb_cons, vb_nil, hc, R.bind_ok, bi_all, R.ofO_some, ha, boolD]
      rw [sss_ite ht]
      cases hk : (mv n r x).all fun b => decide (cnt n r vs b = 0) with
      | true =>
        simp only [if_true]
        simp [evV, slotO, slotV, hk, List.filter_append, show (p.filter fun s => (mv n r s).all fun b => decide (cnt n r vs b = 0)).length < lim by unfold lim; omega]
      | false => simp [hk, List.filter_append])
    [.val (bO n r vs), .val (.lst ((clp n r vs).map D.int)), .own [], .no, .no] ⟨.no, rfl⟩
  obtain ⟨s3, rfl⟩ := h2
  have e2 : ex (run G (k + 2)) (.forr (.nm 3) (.rng (.cons (.fld 0 0) .nil)) S_Band_free1) [.val (bO n r vs), .val (.lst ((clp n r vs).map D.int)), .own [], .no, .no] = .ok (.nx [.val (bO n r vs), .val (.lst ((clp n r vs).map D.int)), .own ((fr n r vs).map D.int), s3, .no]) := by
    rw [x_for]
    have : evi (run G (k + 2)) (.rng (.cons (.fld 0 0) .nil)) [.val (bO n r vs), .val (.lst ((clp n r vs).map D.int)), .own [], .no, .no] = .ok ((rgI 0 n).map D.int) := by
      simp [slotV, fldF, rgD_is 0 n (by omega)]
    rw [this]
    exact h1
  unfold F_Band_free
  rw [exs_nx e1, exs_nx e2]
  rfl

end Cl
set_option Elab.async false
set_option linter.all false
set_option maxRecDepth 100000
set_option maxHeartbeats 1000000
namespace Cl
open PySem
/-! ### loops of the second evaluator -/
theorem for2_pre0 {α : Type} {f : D → Env2 → Sto → R2 Fl2} {e : α → D} (I : List α → Env2 → Sto → Prop) : ∀ (l p : List α), (∀ p' x q, p ++ l = p' ++ x :: q → ∀ env S, I p' env S → ∃ env' S', f (e x) env S = .ok (.nx env') S' ∧ I (p' ++ [x]) env' S') → ∀ env S, I p env S → ∃ env' S', forL2 f (l.map e) env S = .ok (.nx env') S' ∧ I (p ++ l) env' S'
  | [], p, _, env, S, h0 => ⟨env, S, rfl, by simpa using h0⟩
  | x :: l, p, h, env, S, h0 => by
    obtain ⟨e1, S1, k1, k2⟩ := h p x l rfl env S h0
    obtain ⟨e2, S2, k3, k4⟩ := for2_pre0 I l (p ++ [x]) (fun p' y q hq => h p' y q (by rw [← hq]; simp)) e1 S1 k2
    exact ⟨e2, S2, by simp [forL2, k1, k3], by simpa using k4⟩
theorem for2_pre {α : Type} {f : D → Env2 → Sto → R2 Fl2} {e : α → D} (l : List α) (I : List α → Env2 → Sto → Prop) (h : ∀ p x q, l = p ++ x :: q → ∀ env S, I p env S → ∃ env' S', f (e x) env S = .ok (.nx env') S' ∧ I (p ++ [x]) env' S') (env : Env2) (S : Sto) (h0 : I [] env S) :
    ∃ env' S', forL2 f (l.map e) env S = .ok (.nx env') S' ∧ I l env' S' := by
  obtain ⟨e1, S1, k1, k2⟩ := for2_pre0 (f := f) (e := e) I l [] (fun p' x q hq => h p' x q (by simpa using hq)) env S h0
  exact ⟨e1, S1, k1, by simpa using k2⟩

end Cl
set_option Elab.async false
set_option linter.all false
set_option maxRecDepth 100000
set_option maxHeartbeats 1000000
namespace Cl
open PySem
/-! ### bands: equality, copies, ends -/
theorem r_beq {k : Nat} {n m : Int} {r s v w : List Int} : run G (k + 1) 138 [bO n r v, bO m s w] = .ok (.bl (decide (n = m) && (decide (r = s) && decide (v = w)))) := by
  rw [U_Band___eq__]
  by_cases h1 : n = m
  · by_cases h2 : r = s
    · simp [F_Band___eq__, evV, slotV, fldF, isBD, h1, h2]
    · simp [F_Band___eq__, evV, slotV, fldF, isBD, h1, h2]
  · simp [F_Band___eq__, evV, slotV, fldF, isBD, h1]
theorem r_beq_t {k : Nat} {n : Int} {r v l : List Int} : run G (k + 1) 138 [bO n r v, tI l] = .ok (.bl false) := by
  rw [U_Band___eq__]
  have : isBD (bO n r v) (tI l) = .ok (.bl false) := rfl
  simp [F_Band___eq__, evV, slotV, this]
theorem BS.set {S : Sto} {b dn un q : Nat} {n : Int} {r vs : List Int} {dl ul : List (List Int)} {o : Ob} (h : BS S b n r vs dl ul dn un) (h1 : q ≠ b) (h2 : q ≠ dn) (h3 : q ≠ un) : BS (S.set q o) b n r vs dl ul dn un :=
  ⟨by rw [List.getElem?_set_ne h1]; exact h.at_, by rw [List.getElem?_set_ne h2]; exact h.d, by rw [List.getElem?_set_ne h3]; exact h.u, h.bd, h.bu, h.du⟩
theorem BS.mono {S S' : Sto} {b dn un : Nat} {n : Int} {r vs : List Int} {dl ul : List (List Int)} (h : BS S b n r vs dl ul dn un) (hk : ∀ (m : Nat) (o : Ob), S[m]? = some o → m = b ∨ m = dn ∨ m = un → S'[m]? = some o) : BS S' b n r vs dl ul dn un :=
  ⟨hk _ _ h.at_ (by simp), hk _ _ h.d (by simp), hk _ _ h.u (by simp), h.bd, h.bu, h.du⟩
theorem r_copy {k : Nat} {S : Sto} {b dn un : Nat} {n : Int} {r vs : List Int} {dl ul : List (List Int)} (h : BS S b n r vs dl ul dn un) (hn : 1 ≤ n ∧ n ≤ 24) (hr : IsSet n r) :
    ∃ S', run2 G G2 (k + 6) 139 [.l b] S = .ok (.l (S.length + 2)) S' ∧ BS S' (S.length + 2) n r vs dl ul (S.length + 3) (S.length + 4) ∧ (∀ (m : Nat) (o : Ob), S[m]? = some o → S'[m]? = some o) ∧ S'.length = S.length + 5 := by
  obtain ⟨l1, l2, l3⟩ := h.lt
  rw [V_Band_copy]
  unfold B_Band_copy
  obtain ⟨q, hq⟩ : ∃ q, q = S.length + 2 := ⟨_, rfl⟩
  have g0 : ∀ (T : Sto) m, m < S.length → (S ++ T)[m]? = S[m]? := fun T m hm => List.getElem?_append_left hm
  obtain ⟨S1, hS1⟩ : ∃ S1 : Sto, S1 = S ++ [.ls [], .ls [], .bd (.int n) (tI r) (.tup []) S.length (S.length + 1)] := ⟨_, rfl⟩
  have s1 : ex2 (run G (k + 5)) (run2 G G2 (k + 5)) (.asg 1 (.nw (.cons (.fld 0 0) (.cons (.fld 0 1) .nil)))) [some (.l b), none] S = .ok (.nx [some (.l b), some (.l q)]) S1 := by
    rw [y_asg, m_nw, evsP_of (ds := [.int n, tI r])]
    · rw [R2.bind_ok, r_new (k := k) S hn hr, ← hS1, ← hq]
      rfl
    · simp [proj, later, hasL, projS, h.prO, slotV, fldF]
    · simp
  have e1 : evP (run G (k + 5)) (.fld 0 2) [some (.l b), some (.l q)] S1 = .ok (tI vs) S1 := evP_of (by
    have : S1[b]? = some (.bd (.int n) (tI r) (tI vs) dn un) := by rw [hS1, g0 _ _ l1]; exact h.at_
    have hbq : ¬ q = b := by omega
    simp [evV, proj, later, hasL, projS, this, projO, slotV, fldF, hbq]) (nob_t _)
  have f1 : getFl [some (.l b), some (.l q)] S1 0 3 = some dn := by
    have : S1[b]? = some (.bd (.int n) (tI r) (tI vs) dn un) := by rw [hS1, g0 _ _ l1]; exact h.at_
    simp [getFl, getL, this]
  have c1 : copW (.l dn) S1 = .ok (.l S1.length) (S1 ++ [.ls (enc dl)]) := by
    have : S1[dn]? = some (.ls (enc dl)) := by rw [hS1, g0 _ _ l2]; exact h.d
    simp [copW, getLs, this]
  have f2 : getFl [some (.l b), some (.l q)] (S1 ++ [.ls (enc dl)]) 0 4 = some un := by
    have : (S1 ++ [.ls (enc dl)])[b]? = some (.bd (.int n) (tI r) (tI vs) dn un) := by rw [hS1, List.append_assoc, g0 _ _ l1]; exact h.at_
    simp [getFl, getL, this]
  have c2 : copW (.l un) (S1 ++ [.ls (enc dl)]) = .ok (.l (S1.length + 1)) (S1 ++ [.ls (enc dl)] ++ [.ls (enc ul)]) := by
    have : (S1 ++ [.ls (enc dl)])[un]? = some (.ls (enc ul)) := by rw [hS1, List.append_assoc, g0 _ _ l3]; exact h.u
    have e : getLs (S1 ++ [.ls (enc dl)]) un = some (enc ul) := by unfold getLs; rw [this]
    simp [copW, e]
  have hl1 : S1.length = S.length + 3 := by rw [hS1]; simp
  have e3 : S1 ++ [.ls (enc dl)] ++ [.ls (enc ul)] = S ++ [.ls [], .ls [], .bd (.int n) (tI r) (.tup []) S.length (S.length + 1), .ls (enc dl), .ls (enc ul)] := by rw [hS1]; simp
  have hq3 : (S ++ [.ls [], .ls [], .bd (.int n) (tI r) (.tup []) S.length (S.length + 1), .ls (enc dl), .ls (enc ul)])[q]? = some (.bd (.int n) (tI r) (.tup []) S.length (S.length + 1)) := by
    rw [List.getElem?_append_right (by omega), show q - S.length = 2 by omega]; rfl
  have hql : q < (S ++ ([.ls [], .ls [], .bd (.int n) (tI r) (.tup []) S.length (S.length + 1), .ls (enc dl), .ls (enc ul)] : Sto)).length := by simp; omega
  obtain ⟨S3, hS3⟩ : ∃ S3 : Sto, S3 = S ++ [.ls [], .ls [], .bd (.int n) (tI r) (.tup []) S.length (S.length + 1), .ls (enc dl), .ls (enc ul)] := ⟨_, rfl⟩
  rw [← hS3] at e3 hq3 hql
  have fs : fsetsW q [2, 3, 4] [.d (tI vs), .l S1.length, .l (S1.length + 1)] S3 = some (S3.set q (.bd (.int n) (tI r) (tI vs) S1.length (S1.length + 1))) := by
    simp [fsetsW, fsetW, hq3, List.getElem?_set_self hql]
  have s2 : ex2 (run G (k + 5)) (run2 G G2 (k + 5)) (.fpar 1 [2, 3, 4] (.cons (.pu (.fld 0 2)) (.cons (.ll (.fl 0 3)) (.cons (.ll (.fl 0 4)) .nil)))) [some (.l b), some (.l q)] S1 = .ok (.nx [some (.l b), some (.l q)]) (S3.set q (.bd (.int n) (tI r) (tI vs) S1.length (S1.length + 1))) := by
    rw [y_fpar, if_neg (by decide)]
    simp only [ms_cons, ms_nil, m_pu, m_ll, m_fl, e1, f1, c1, f2, c2, Option.map_some, ofO2_some, R2.bind_ok, getL, List.getElem?_cons_succ, List.getElem?_cons_zero, e3, fs, nxO_some]
  refine ⟨S3.set q (.bd (.int n) (tI r) (tI vs) S1.length (S1.length + 1)), ?_, ⟨?_, ?_, ?_, by omega, by omega, by omega⟩, fun m o hm => ?_, ?_⟩
  · rw [exs2_nx s1, exs2_nx s2, ys_cons, y_ret, m_al]
    simp [getL, hq]
  · rw [← hq, ← hl1, show S.length + 4 = S1.length + 1 by omega]
    exact List.getElem?_set_self hql
  · rw [List.getElem?_set_ne (by omega), hS3, List.getElem?_append_right (by omega), show S.length + 3 - S.length = 3 by omega]; rfl
  · rw [List.getElem?_set_ne (by omega), hS3, List.getElem?_append_right (by omega), show S.length + 4 - S.length = 4 by omega]; rfl
  · have hml := (List.getElem?_eq_some_iff.mp hm).1
    rw [List.getElem?_set_ne (by omega), hS3, g0 _ _ hml]
    exact hm
  · simp [hS3]
section
variable {k : Nat} {S : Sto} {b dn un q : Nat} {n w : Int} {r : List Int}
theorem proj_e {v : List Int} {F d u : List (List Int)} (h : BS S b n r v d u dn un) (hq : S[q]? = some (.ls (enc F))) (h1 : q ≠ b) : proj S [some (.l b), some (.d (.int w)), some (.l q), none] = [.val (bO n r v), .val (.int w), .own (F.map tI), .no] := by
  have e : (q == b) = false := by simpa using h1
  simp [proj, later, hasL, projS, h.at_, projO, hq, ownO, e]
theorem ends_c {v : List Int} {F d u : List (List Int)} (h : BS S b n r v d u dn un) (hq : S[q]? = some (.ls (enc F))) (h1 : q ≠ b) (hF : F.length < 40) :
    evTP (run G k) (.cmp .lt (.bi .len (.cons (.bor 2) .nil)) (.cst (.int 40))) [some (.l b), some (.d (.int w)), some (.l q), none] S = .ok true S := evTP_of (by
  rw [proj_e h hq h1]
  have : (F.length : Int) < 40 := by omega
  simp [evT, slotO, this])
theorem ends_a {v : List Int} {F d u : List (List Int)} (h : BS S b n r v d u dn un) (hq : S[q]? = some (.ls (enc F))) (h1 : q ≠ b) (hF : F.length < 40) :
    ex2 (run G (k + 1)) (run2 G G2 (k + 1)) T_law_ends5 [some (.l b), some (.d (.int w)), some (.l q), none] S = .ok (.nx [some (.l b), some (.d (.int w)), some (.l q), none]) (S.set q (.ls (enc (F ++ [v])))) := by
  have e1 : evP (run G (k + 1)) (.mth 130 "starts" (.var 0) .nil) [some (.l b), some (.d (.int w)), some (.l q), none] S = .ok (tI v) S := evP_of (by
    rw [proj_e h hq h1]
    simp [evV, slotV, isObj, r_starts, show ¬ (("starts" : Str) ∈ bandF) by decide]) (nob_t _)
  have a1 : appW q (tI v) S = some (S.set q (.ls (enc (F ++ [v])))) := by
    unfold appW
    simp only [getLs, hq, Option.bind_some, enc_len]
    rw [if_pos (show F.length < lim by unfold lim; omega), enc_app]
  unfold T_law_ends5
  rw [y_app]
  simp [getL, getLs, hq, a1, e1]
theorem ends_t {x : Bool} (hx : x = decide (w = 0)) {v : List Int} {F d u : List (List Int)} (h : BS S b n r v d u dn un) (hq : S[q]? = some (.ls (enc F))) (h1 : q ≠ b) :
    ex2 (run G k) (run2 G G2 k) T_law_ends4 [some (.l b), some (.d (.int w)), some (.l q), none] S = (run2 G G2 k (if x then 136 else 137) [.l b] S).bind fun _ S => .ok (.nx [some (.l b), some (.d (.int w)), some (.l q), none]) S := by
  unfold T_law_ends4
  rw [y_ite, mt_pu, evTP_of (k := decide (w = 0)) (by rw [proj_e h hq h1]; simp [evT, slotV]), ← hx]
  have e : ∀ f m, bandF.contains m = false → ex2 (run G k) (run2 G G2 k) (.exp (.mt f m (.al 0) .nil)) [some (.l b), some (.d (.int w)), some (.l q), none] S = (run2 G G2 k f [.l b] S).bind fun _ S => .ok (.nx [some (.l b), some (.d (.int w)), some (.l q), none]) S := fun f m hm => by
    rw [y_exp, m_mt, hm, m_al]
    simp [getL, h.at_, isBd]
  have nx : ∀ (R' : R2 W), ((R'.bind fun _ S => (.ok (.nx [some (.l b), some (.d (.int w)), some (.l q), none]) S : R2 Fl2)).bind (Fl2.next fun env' S => .ok (.nx env') S)) = R'.bind fun _ S => .ok (.nx [some (.l b), some (.d (.int w)), some (.l q), none]) S := fun R' => by cases R' <;> rfl
  cases x with
  | true => simp only [R2.bind_ok, if_true, ys_cons, ys_nil, T_law_ends2, e 136 "undo" (by decide), nx]
  | false => simp only [R2.bind_ok, Bool.false_eq_true, if_false, ys_cons, ys_nil, T_law_ends3, e 137 "redo" (by decide), nx]
/-- one turn that ends -/
theorem ends_stop {x : Bool} (hx : x = decide (w = 0)) {v : List Int} {F d u : List (List Int)} {fuel : Nat} (h : BS S b n r v d u dn un) (hq : S[q]? = some (.ls (enc F))) (h1 : q ≠ b) (hF : F.length < 40)
    (hr : run2 G G2 (k + 1) (if x then 136 else 137) [.l b] S = .exc 12 S) :
    whileL2 (evTP (run G (k + 1)) (.cmp .lt (.bi .len (.cons (.bor 2) .nil)) (.cst (.int 40)))) (exs2 (run G (k + 1)) (run2 G G2 (k + 1)) S_law_ends1) (fuel + 1) [some (.l b), some (.d (.int w)), some (.l q), none] S = .ok (.rt (.d (.lst (F.map tI)))) (S.set q .dead) := by
  unfold whileL2
  rw [ends_c h hq h1 hF]
  simp only [R2.bind_ok, if_true, S_law_ends1, ys_cons, T_law_ends6, y_tryo]
  rw [if_pos (by decide), ends_t hx h hq h1, hr]
  simp [catchO, subc, getL, getLs, hq]
/-- one turn that goes on -/
theorem ends_go {x : Bool} (hx : x = decide (w = 0)) {v v' : List Int} {F d u d' u' : List (List Int)} {fuel : Nat} {S1 : Sto} (h : BS S b n r v d u dn un) (hq : S[q]? = some (.ls (enc F))) (h1 : q ≠ b) (hF : F.length < 40)
    (hr : run2 G G2 (k + 1) (if x then 136 else 137) [.l b] S = .ok (.d .non) S1) (h' : BS S1 b n r v' d' u' dn un) (hq' : S1[q]? = some (.ls (enc F))) :
    whileL2 (evTP (run G (k + 1)) (.cmp .lt (.bi .len (.cons (.bor 2) .nil)) (.cst (.int 40)))) (exs2 (run G (k + 1)) (run2 G G2 (k + 1)) S_law_ends1) (fuel + 1) [some (.l b), some (.d (.int w)), some (.l q), none] S =
    whileL2 (evTP (run G (k + 1)) (.cmp .lt (.bi .len (.cons (.bor 2) .nil)) (.cst (.int 40)))) (exs2 (run G (k + 1)) (run2 G G2 (k + 1)) S_law_ends1) fuel [some (.l b), some (.d (.int w)), some (.l q), none] (S1.set q (.ls (enc (F ++ [v'])))) := by
  conv => lhs; unfold whileL2
  rw [ends_c h hq h1 hF]
  simp only [R2.bind_ok, if_true, S_law_ends1, ys_cons, T_law_ends6, y_tryo]
  rw [if_pos (by decide), ends_t hx h hq h1, hr]
  simp only [R2.bind_ok, nx_nx, ys_nil, ends_a h' hq' h1 hF, catchO]
end
/-- all else stays, but for a list -/
def Keeps4 (S S' : Sto) (b dn un q : Nat) : Prop := ∀ (m : Nat) (o : Ob), S[m]? = some o → m ≠ b → m ≠ dn → m ≠ un → m ≠ q → S'[m]? = some o
theorem ends_u {k b dn un q : Nat} {n : Int} {r : List Int} (h1 : q ≠ b) (h2 : q ≠ dn) (h3 : q ≠ un) : ∀ (j : Nat) (d : List (List Int)) (v : List Int) (u F : List (List Int)) (S : Sto) (fuel : Nat), d.length = j → BS S b n r v d u dn un → S[q]? = some (.ls (enc F)) → d.length + F.length < 40 → d.length + u.length < 900 → d.length < fuel →
    ∃ S', whileL2 (evTP (run G (k + 1)) (.cmp .lt (.bi .len (.cons (.bor 2) .nil)) (.cst (.int 40)))) (exs2 (run G (k + 1)) (run2 G G2 (k + 1)) S_law_ends1) fuel [some (.l b), some (.d (.int 0)), some (.l q), none] S = .ok (.rt (.d (.lst ((F ++ d.reverse).map tI)))) S' ∧ BS S' b n r ((d ++ [v]).headD []) [] (u ++ ((d ++ [v]).tail).reverse) dn un ∧ Keeps4 S S' b dn un q ∧ S.length ≤ S'.length
  | 0, d, v, u, F, S, fuel, hj, h, hq, hF, hu, hf => by
    obtain rfl := List.length_eq_zero_iff.mp hj
    obtain ⟨f', rfl⟩ : ∃ f', fuel = f' + 1 := ⟨fuel - 1, by simp at hf; omega⟩
    refine ⟨S.set q .dead, ?_, ?_, fun m o hm a1 a2 a3 a4 => ?_, by simp⟩
    · rw [ends_stop (x := true) (by simp) h hq h1 (by simp at hF; exact hF) (r_undo_no h rfl)]
      simp
    · simpa using h.set h1 h2 h3
    · rw [List.getElem?_set_ne (Ne.symm a4)]; exact hm
  | j + 1, d, v, u, F, S, fuel, hj, h, hq, hF, hu, hf => by
    obtain ⟨d', x, rfl⟩ : ∃ d' x, d = d' ++ [x] := by
      rcases List.eq_nil_or_concat d with h | ⟨a, c, h⟩
      · rw [h] at hj; simp at hj
      · exact ⟨a, c, by simpa using h⟩
    simp at hj hF hu hf
    obtain ⟨f', rfl⟩ : ∃ f', fuel = f' + 1 := ⟨fuel - 1, by omega⟩
    obtain ⟨S1, e1, b1, k1, l1⟩ := r_undo h (k := k) (dl' := d') (x := x) rfl (by omega)
    have q1 : S1[q]? = some (.ls (enc F)) := k1 q _ hq h1 h2 h3
    have ql : q < S1.length := (List.getElem?_eq_some_iff.mp q1).1
    obtain ⟨S2, e2, b2, k2, l2⟩ := ends_u (k := k) h1 h2 h3 j d' x (u ++ [v]) (F ++ [x]) (S1.set q (.ls (enc (F ++ [x])))) f' hj (b1.set h1 h2 h3) (List.getElem?_set_self ql) (by simp; omega) (by simp; omega) (by omega)
    refine ⟨S2, ?_, ?_, fun m o hm a1 a2 a3 a4 => ?_, ?_⟩
    · rw [ends_go (x := true) (by simp) h hq h1 (by omega) e1 b1 q1, e2]
      simp
    · have c1 : (d' ++ [x] ++ [v]).headD [] = (d' ++ [x]).headD [] := by cases d' <;> rfl
      have c2 : u ++ ((d' ++ [x] ++ [v]).tail).reverse = u ++ [v] ++ ((d' ++ [x]).tail).reverse := by cases d' <;> simp
      rw [c1, c2]
      exact b2
    · exact k2 m o (by rw [List.getElem?_set_ne (Ne.symm a4)]; exact k1 m o hm a1 a2 a3) a1 a2 a3 a4
    · simp at l2; omega
theorem ends_r {k b dn un q : Nat} {n : Int} {r : List Int} (h1 : q ≠ b) (h2 : q ≠ dn) (h3 : q ≠ un) : ∀ (j : Nat) (u : List (List Int)) (v : List Int) (d F : List (List Int)) (S : Sto) (fuel : Nat), u.length = j → BS S b n r v d u dn un → S[q]? = some (.ls (enc F)) → u.length + F.length < 40 → u.length + d.length < 900 → u.length < fuel →
    ∃ S', whileL2 (evTP (run G (k + 1)) (.cmp .lt (.bi .len (.cons (.bor 2) .nil)) (.cst (.int 40)))) (exs2 (run G (k + 1)) (run2 G G2 (k + 1)) S_law_ends1) fuel [some (.l b), some (.d (.int 1)), some (.l q), none] S = .ok (.rt (.d (.lst ((F ++ u.reverse).map tI)))) S' ∧ BS S' b n r ((u ++ [v]).headD []) (d ++ ((u ++ [v]).tail).reverse) [] dn un ∧ Keeps4 S S' b dn un q ∧ S.length ≤ S'.length
  | 0, u, v, d, F, S, fuel, hj, h, hq, hF, hu, hf => by
    obtain rfl := List.length_eq_zero_iff.mp hj
    obtain ⟨f', rfl⟩ : ∃ f', fuel = f' + 1 := ⟨fuel - 1, by simp at hf; omega⟩
    refine ⟨S.set q .dead, ?_, ?_, fun m o hm a1 a2 a3 a4 => ?_, by simp⟩
    · rw [ends_stop (x := false) (by simp) h hq h1 (by simp at hF; exact hF) (r_redo_no h rfl)]
      simp
    · simpa using h.set h1 h2 h3
    · rw [List.getElem?_set_ne (Ne.symm a4)]; exact hm
  | j + 1, u, v, d, F, S, fuel, hj, h, hq, hF, hu, hf => by
    obtain ⟨u', x, rfl⟩ : ∃ d' x, u = d' ++ [x] := by
      rcases List.eq_nil_or_concat u with h | ⟨a, c, h⟩
      · rw [h] at hj; simp at hj
      · exact ⟨a, c, by simpa using h⟩
    simp at hj hF hu hf
    obtain ⟨f', rfl⟩ : ∃ f', fuel = f' + 1 := ⟨fuel - 1, by omega⟩
    obtain ⟨S1, e1, b1, k1, l1⟩ := r_redo h (k := k) (ul' := u') (x := x) rfl (by omega)
    have q1 : S1[q]? = some (.ls (enc F)) := k1 q _ hq h1 h2 h3
    have ql : q < S1.length := (List.getElem?_eq_some_iff.mp q1).1
    obtain ⟨S2, e2, b2, k2, l2⟩ := ends_r (k := k) h1 h2 h3 j u' x (d ++ [v]) (F ++ [x]) (S1.set q (.ls (enc (F ++ [x])))) f' hj (b1.set h1 h2 h3) (List.getElem?_set_self ql) (by simp; omega) (by simp; omega) (by omega)
    refine ⟨S2, ?_, ?_, fun m o hm a1 a2 a3 a4 => ?_, ?_⟩
    · rw [ends_go (x := false) (by simp) h hq h1 (by omega) e1 b1 q1, e2]
      simp
    · have c1 : (u' ++ [x] ++ [v]).headD [] = (u' ++ [x]).headD [] := by cases u' <;> rfl
      have c2 : d ++ ((u' ++ [x] ++ [v]).tail).reverse = d ++ [v] ++ ((u' ++ [x]).tail).reverse := by cases u' <;> simp
      rw [c1, c2]
      exact b2
    · exact k2 m o (by rw [List.getElem?_set_ne (Ne.symm a4)]; exact k1 m o hm a1 a2 a3) a1 a2 a3 a4
    · simp at l2; omega
section
variable {k : Nat} {S : Sto} {b dn un : Nat} {n : Int} {r v : List Int} {d u : List (List Int)} (h : BS S b n r v d u dn un)
include h
theorem ends_1 {w : Int} : ex2 (run G (k + 1)) (run2 G G2 (k + 1)) T_law_ends1 [some (.l b), some (.d (.int w)), none, none] S = .ok (.nx [some (.l b), some (.d (.int w)), some (.l S.length), none]) (S ++ [.ls (enc [v])]) := by
  unfold T_law_ends1
  rw [y_asg, m_ls, evsP_of (ds := [tI v])]
  · rw [R2.bind_ok, if_pos (show [tI v].length ≤ lim by simp; decide)]
    rfl
  · simp [proj, later, hasL, projS, h.prO, slotV, isObj, r_starts, show ¬ (("starts" : Str) ∈ bandF) by decide]
  · simp
theorem r_ends_u (hd : d.length < 39) (hu : u.length < 800) :
    ∃ S', run2 G G2 (k + 2) 110 [.l b, .d (.int 0)] S = .ok (.d (.lst ((v :: d.reverse).map tI))) S' ∧ BS S' b n r ((d ++ [v]).headD []) [] (u ++ ((d ++ [v]).tail).reverse) dn un ∧ Keeps S S' b dn un ∧ S.length ≤ S'.length := by
  obtain ⟨l1, l2, l3⟩ := h.lt
  have h' : BS (S ++ [.ls (enc [v])]) b n r v d u dn un := h.mono fun m o hm _ => by rw [List.getElem?_append_left (List.getElem?_eq_some_iff.mp hm).1]; exact hm
  obtain ⟨S', e, b', k', l'⟩ := ends_u (k := k) (q := S.length) (by omega) (by omega) (by omega) d.length d v u [v] (S ++ [.ls (enc [v])]) 100 rfl h' (by rw [List.getElem?_append_right (by omega), Nat.sub_self]; rfl) (by simp; omega) (by omega) (by omega)
  refine ⟨S', ?_, b', fun m o hm a1 a2 a3 => ?_, by simp at l'; omega⟩
  · rw [V_law_ends]
    unfold B_law_ends
    rw [exs2_nx (ends_1 h), ys_cons]
    unfold T_law_ends7
    rw [y_whl, e]
    simp
  · have hml := (List.getElem?_eq_some_iff.mp hm).1
    exact k' m o (by rw [List.getElem?_append_left hml]; exact hm) a1 a2 a3 (by omega)
theorem r_ends_r (hu : u.length < 39) (hd : d.length < 800) :
    ∃ S', run2 G G2 (k + 2) 110 [.l b, .d (.int 1)] S = .ok (.d (.lst ((v :: u.reverse).map tI))) S' ∧ BS S' b n r ((u ++ [v]).headD []) (d ++ ((u ++ [v]).tail).reverse) [] dn un ∧ Keeps S S' b dn un ∧ S.length ≤ S'.length := by
  obtain ⟨l1, l2, l3⟩ := h.lt
  have h' : BS (S ++ [.ls (enc [v])]) b n r v d u dn un := h.mono fun m o hm _ => by rw [List.getElem?_append_left (List.getElem?_eq_some_iff.mp hm).1]; exact hm
  obtain ⟨S', e, b', k', l'⟩ := ends_r (k := k) (q := S.length) (by omega) (by omega) (by omega) u.length u v d [v] (S ++ [.ls (enc [v])]) 100 rfl h' (by rw [List.getElem?_append_right (by omega), Nat.sub_self]; rfl) (by simp; omega) (by omega) (by omega)
  refine ⟨S', ?_, b', fun m o hm a1 a2 a3 => ?_, by simp at l'; omega⟩
  · rw [V_law_ends]
    unfold B_law_ends
    rw [exs2_nx (ends_1 h), ys_cons]
    unfold T_law_ends7
    rw [y_whl, e]
    simp
  · have hml := (List.getElem?_eq_some_iff.mp hm).1
    exact k' m o (by rw [List.getElem?_append_left hml]; exact hm) a1 a2 a3 (by omega)
end

end Cl
set_option Elab.async false
set_option linter.all false
set_option maxRecDepth 100000
set_option maxHeartbeats 1000000
namespace Cl
open PySem
/-! ### law k66: copies and undoing -/
def oD : Option D → Option W := Option.map W.d
def oS : Option D → Slot
  | none => .no
  | some d => .val d
@[simp] theorem hasL_oD {b : Nat} {x : Option D} {r : Env2} : hasL b (oD x :: r) = hasL b r := by cases x <;> rfl
@[simp] theorem later_oD {x : Option D} {r : Env2} : later (oD x) r = false := by cases x <;> rfl
@[simp] theorem projS_oD {S : Sto} {x : Option D} : projS S (oD x) = oS x := by cases x <;> rfl
@[simp] theorem oS_some {d : D} : oS (some d) = .val d := rfl
def EB (ns : List Int) (n : Int) (r : List Int) (b st : Nat) (x5 x6 x7 : Option D) (x8 x9 : Option W) (x10 : Option D) : Env2 :=
  [some (.d (.scr ns)), some (.d (.int n)), some (.d (tI r)), some (.l b), some (.l st), oD x5, oD x6, oD x7, x8, x9, oD x10]
theorem projB {ns : List Int} {n : Int} {r v : List Int} {b st dn un : Nat} {x5 x6 x7 : Option D} {x8 x9 : Option W} {x10 : Option D} {S : Sto} {sts : List (List Int)} (hb : hasL b [x8, x9] = false) (hs : hasL st [x8, x9] = false) (hbs : st ≠ b)
    (hB : S[b]? = some (.bd (.int n) (tI r) (tI v) dn un)) (hS : S[st]? = some (.ls (enc sts))) :
    proj S (EB ns n r b st x5 x6 x7 x8 x9 x10) = [.val (.scr ns), .val (.int n), .val (tI r), .val (bO n r v), .own (sts.map tI), oS x5, oS x6, oS x7, if later x8 [x9] then .no else projS S x8, projS S x9, oS x10] := by
  have ap : ∀ (c : Nat) (x : Option W) (l : Env2), hasL c (x :: l) = (hasL c [x] || hasL c l) := fun c x l => by
    cases x with
    | none => rfl
    | some w => cases w <;> simp [hasL]
  have en : ∀ c : Nat, hasL c [x8, x9] = hasL c [x8, x9, oD x10] := fun c => by
    rw [ap c x8 [x9], ap c x8 [x9, oD x10], ap c x9 [oD x10], hasL_oD]
    show _ = (hasL c [x8] || (hasL c [x9] || false))
    rw [Bool.or_false]
  have e3 : hasL b [some (.l st), oD x5, oD x6, oD x7, x8, x9, oD x10] = false := by
    show (st == b || hasL b [oD x5, oD x6, oD x7, x8, x9, oD x10]) = false
    simp only [hasL_oD]
    rw [← en b, hb]
    simpa using hbs
  have e4 : hasL st [oD x5, oD x6, oD x7, x8, x9, oD x10] = false := by
    simp only [hasL_oD]
    rw [← en st, hs]
  have e8 : later x8 [x9, oD x10] = later x8 [x9] := by
    cases x8 with
    | none => rfl
    | some w =>
      cases w with
      | d x => rfl
      | l c =>
        show hasL c [x9, oD x10] = hasL c [x9]
        rw [ap c x9 [oD x10], hasL_oD]
        show (hasL c [x9] || false) = _
        rw [Bool.or_false]
  have e9 : later x9 [oD x10] = false := by
    cases x9 with
    | none => rfl
    | some w =>
      cases w with
      | d x => rfl
      | l c => show hasL c [oD x10] = false; simp; rfl
  have f3 : later (some (.l b)) [some (.l st), oD x5, oD x6, oD x7, x8, x9, oD x10] = false := e3
  have f4 : later (some (.l st)) [oD x5, oD x6, oD x7, x8, x9, oD x10] = false := e4
  have g3 : projS S (some (.l b)) = .val (bO n r v) := by show projO S[b]? = _; rw [hB]; rfl
  have g4 : projS S (some (.l st)) = .own (sts.map tI) := by show projO S[st]? = _; rw [hS]; simp [projO, ownO]
  unfold EB
  simp only [proj, f3, f4, g3, g4, e8, e9, later_oD, projS_oD, Bool.false_eq_true, if_false]
  simp [later, projS]
theorem nD {k : Nat} {n : Int} {r : List Int} (hn : 1 ≤ n ∧ n ≤ 24) (hr : IsSet n r) : newD (run G (k + 5)) [.int n, tI r] = .ok (bO n r []) := by
  show (run G (k + 5) 900 [.int n, tI r]).bind _ = _
  rw [run_init G_900, r_check_set_t hn hr]
  rfl
theorem eqD_o {k : Nat} {ne : Bool} {n m : Int} {r s v w : List Int} : eqD (run G (k + 1)) ne 138 (bO n r v) (bO m s w) = .ok (.bl (ne != (decide (n = m) && (decide (r = s) && decide (v = w))))) := by
  unfold eqD
  rw [r_beq]
  rfl
theorem eqD_t {k : Nat} {ne : Bool} {n : Int} {r v w : List Int} : eqD (run G (k + 1)) ne 138 (bO n r v) (tI w) = .ok (.bl ne) := by
  unfold eqD
  rw [r_beq_t]
  cases ne <;> rfl
theorem gd_take {l : List (List Int)} {j : Nat} (h : j < l.length) : l.take (j + 1) = l.take j ++ [l.getD j []] := by
  rw [List.take_succ, List.getElem?_eq_getElem h]
  simp [List.getD, List.getElem?_eq_getElem h]
theorem gd_drop {l : List (List Int)} {j : Nat} (h : j < l.length) : l.drop j = l.getD j [] :: l.drop (j + 1) := by
  rw [List.drop_eq_getElem_cons h]
  simp [List.getD, List.getElem?_eq_getElem h]
theorem gd_idx {l : List (List Int)} {j : Nat} (h : j < l.length) : idxF (.lst (l.map tI)) (.int (j : Int)) = some (tI (l.getD j [])) := by
  refine idx_lst (by omega) ?_
  rw [List.getElem?_map, Int.toNat_natCast, List.getElem?_eq_getElem h]
  simp [List.getD, List.getElem?_eq_getElem h]
section
variable {k : Nat} {ns : List Int} {n : Int} {r : List Int} {b st dn un : Nat} {sts : List (List Int)} (hs : ns.length ≤ 63) (hn : 1 ≤ n ∧ n ≤ 12) (hr : IsSet n r) (hsb : st ≠ b) (hsd : st ≠ dn) (hsu : st ≠ un)
/-- the band after some undoing -/
structure KB (S : Sto) (b st dn un : Nat) (n : Int) (r : List Int) (sts : List (List Int)) (i : Nat) : Prop where
  B : BS S b n r (sts.getD i []) (sts.take i) ((sts.drop (i + 1)).reverse) dn un
  s : S[st]? = some (.ls (enc sts))
  b : st ≠ b
  d : st ≠ dn
  u : st ≠ un
  i : i < sts.length
  l : sts.length ≤ 30
theorem KB.mono {S S' : Sto} {b st dn un : Nat} {n : Int} {r : List Int} {sts : List (List Int)} {i : Nat} (h : KB S b st dn un n r sts i) (hk : ∀ (m : Nat) (o : Ob), S[m]? = some o → m < S.length → S'[m]? = some o) : KB S' b st dn un n r sts i :=
  ⟨h.B.mono fun m o hm _ => hk m o hm (List.getElem?_eq_some_iff.mp hm).1, hk _ _ h.s (List.getElem?_eq_some_iff.mp h.s).1, h.b, h.d, h.u, h.i, h.l⟩
theorem KB.undo {S : Sto} {i : Nat} (h : KB S b st dn un n r sts (i + 1)) : ∃ S', run2 G G2 (k + 1) 136 [.l b] S = .ok (.d .non) S' ∧ KB S' b st dn un n r sts i ∧ S.length ≤ S'.length := by
  have hi := h.i
  have hl := h.l
  obtain ⟨S1, e1, b1, k1, l1⟩ := r_undo h.B (k := k) (gd_take (show i < sts.length by omega)) (by simp; omega)
  refine ⟨S1, e1, ⟨?_, k1 _ _ h.s h.b h.d h.u, h.b, h.d, h.u, by omega, h.l⟩, l1⟩
  rw [gd_drop (j := i + 1) (by omega), List.reverse_cons]
  exact b1
theorem bk3 {x5 : Option D} {x7 : Option D} {x10 : Option D} {S : Sto} {m : Nat} (hm : m < sts.length) (h : KB S b st dn un n r sts (sts.length - 1)) :
    ∃ x6 S', ex2 (run G (k + 1)) (run2 G G2 (k + 1)) T_law_back3 (EB ns n r b st (some (.int m)) none x7 none none x10) S = .ok (.nx (EB ns n r b st (some (.int m)) x6 x7 none none x10)) S' ∧ KB S' b st dn un n r sts (sts.length - 1 - m) := by
  have hl := h.l
  obtain ⟨env', S', e1, x6, rfl, e3⟩ := for2_pre (f := fun d e S => (ofO2 S (setTg2 (.nm 6) d e)).bind fun e1 S => exs2 (run G (k + 1)) (run2 G G2 (k + 1)) S_law_back1 e1 S) (e := D.int) (rgI 0 (m : Int))
    (fun p env S => ∃ x6, env = EB ns n r b st (some (.int m)) x6 x7 none none x10 ∧ KB S b st dn un n r sts (sts.length - 1 - p.length))
    (fun p x q hpq env S ⟨x6, he, hk⟩ => by
      have hpl := congrArg List.length hpq
      simp at hpl
      obtain ⟨j, hj⟩ : ∃ j, sts.length - 1 - p.length = j + 1 := ⟨sts.length - 1 - p.length - 1, by omega⟩
      rw [hj] at hk
      obtain ⟨S1, u1, u2, u3⟩ := hk.undo (k := k)
      subst he
      refine ⟨EB ns n r b st (some (.int m)) (some (.int x)) x7 none none x10, S1, ?_, _, rfl, ?_⟩
      · have e0 : setTg2 (.nm 6) (.int x) (EB ns n r b st (some (.int m)) x6 x7 none none x10) = some (EB ns n r b st (some (.int m)) (some (.int x)) x7 none none x10) := rfl
        have g3 : getL (EB ns n r b st (some (.int m)) (some (.int x)) x7 none none x10) 3 = some b := rfl
        rw [e0, ofO2_some, R2.bind_ok]
        unfold S_law_back1 T_law_back2
        rw [ys_cons, y_exp, m_mt, if_neg (by decide), m_al, g3]
        simp only [Option.map_some, ofO2_some, R2.bind_ok, hk.B.at_, isBd, if_true, ms_nil, u1, nx_nx, ys_nil]
      · rw [List.length_append, List.length_singleton, show sts.length - 1 - (p.length + 1) = j by omega]
        exact u2)
    (EB ns n r b st (some (.int m)) none x7 none none x10) S ⟨none, rfl, by simpa using h⟩
  refine ⟨x6, S', ?_, by simpa using e3⟩
  unfold T_law_back3
  rw [y_for]
  have ei : evIP (run G (k + 1)) (.rng (.cons (.var 5) .nil)) (EB ns n r b st (some (.int m)) none x7 none none x10) S = .ok ((rgI 0 (m : Int)).map D.int) S := by
    unfold evIP
    rw [show CI.noBor (.rng (.cons (.var 5) .nil)) = true from rfl, if_pos rfl]
    have : ∀ T : Sto, evi (run G (k + 1)) (.rng (.cons (.var 5) .nil)) (proj T (EB ns n r b st (some (.int m)) none x7 none none x10)) = .ok ((rgI 0 (m : Int)).map D.int) := fun T => by
      unfold EB
      simp only [proj, vi_rng, vr_one, v_var]
      show (R.bind _ _) = _
      simp [slotV, later, projS, oD, rgD_is 0 (m : Int) (by omega)]
    rw [this]
    rfl
  rw [ei]
  exact e1
end

end Cl
set_option Elab.async false
set_option linter.all false
set_option maxRecDepth 100000
set_option maxHeartbeats 1000000
namespace Cl
open PySem
/-! ### law k66: copies and undoing, the tests -/
section
variable {k : Nat} {ns : List Int} {n : Int} {r v : List Int} {b st dn un b2 d2 u2 i : Nat} {sts dl2 ul2 : List (List Int)} {x5 x6 x10 : Option D} {S : Sto} {v2 : List Int}
/-- what the first evaluator sees while the copy is looked at -/
theorem pB2 (h : KB S b st dn un n r sts i) (h2 : BS S b2 n r v2 dl2 ul2 d2 u2) (hb : b2 ≠ b) (hs : b2 ≠ st) :
    proj S (EB ns n r b st x5 x6 (some (.int i)) (some (.l b2)) none x10) = [.val (.scr ns), .val (.int n), .val (tI r), .val (bO n r (sts.getD i [])), .own (sts.map tI), oS x5, oS x6, .val (.int i), .val (bO n r v2), .no, oS x10] := by
  rw [projB (v := sts.getD i []) (dn := dn) (un := un) (sts := sts) (by simp [hasL, hb]) (by simp [hasL, hs]) h.b h.B.at_ h.s]
  simp [later, hasL, projS, h2.at_, projO]
theorem bk6 (h : KB S b st dn un n r sts i) (h2 : BS S b2 n r (sts.getD i []) dl2 ul2 d2 u2) (hb : b2 ≠ b) (hs : b2 ≠ st) :
    ex2 (run G (k + 5)) (run2 G G2 (k + 5)) T_law_back6 (EB ns n r b st x5 x6 (some (.int i)) (some (.l b2)) none x10) S = .ok (.nx (EB ns n r b st x5 x6 (some (.int i)) (some (.l b2)) none x10)) S := by
  unfold T_law_back6
  rw [y_ite, mt_pu, evTP_of (k := false)]
  · rfl
  · rw [pB2 h h2 hb hs]
    simp only [evT, isTest_or, isTest_one, isTest_cmp, isTest_not, isTest_eqO, Bool.and_self, if_true, v_or, v_one, v_cmp, v_mth, v_not, v_eqO, v_idx, v_bor, v_var, isBor_var, isBor_eqO, isBor_cmp, bor_not, isBor_or, isBor_one, List.getElem?_cons_succ, List.getElem?_cons_zero, slotV, slotO, R.bind_ok, vs_nil, isObj, r_starts, show bandF.contains ("starts" : Str) = false by decide, Bool.false_or, Bool.or_self, Bool.false_eq_true, if_false, gd_idx h.i, R.ofO_some, c_ne (ok_t _) (ok_t _), eq_t, decide_true, Bool.not_true, Option.map_some, boolD, eqD_o, Bool.and_self]
    simp
theorem bk8 (h : KB S b st dn un n r sts i) (h2 : BS S b2 n r (sts.getD i []) (sts.take i) ((sts.drop (i + 1)).reverse) d2 u2) (hb : b2 ≠ b) (hs : b2 ≠ st) (hf : ∀ m, m = b ∨ m = dn ∨ m = un ∨ m = st → m ≠ b2 ∧ m ≠ d2 ∧ m ≠ u2) :
    ∃ S' ul', ex2 (run G (k + 5)) (run2 G G2 (k + 5)) T_law_back8 (EB ns n r b st x5 x6 (some (.int i)) (some (.l b2)) none x10) S = .ok (.nx (EB ns n r b st x5 x6 (some (.int i)) (some (.l b2)) none x10)) S' ∧ KB S' b st dn un n r sts i ∧ BS S' b2 n r (sts.headD []) [] ul' d2 u2 ∧ S.length ≤ S'.length := by
  have hi := h.i
  have hl := h.l
  obtain ⟨S1, e1, b1, k1, l1⟩ := r_ends_r h2 (k := k + 3) (by simp; omega) (by simp; omega)
  have h1 : KB S1 b st dn un n r sts i := ⟨h.B.mono fun m o hm hq => by
    obtain ⟨a1, a2, a3⟩ := hf m (by rcases hq with q | q | q <;> simp [q])
    exact k1 m o hm a1 a2 a3, k1 _ _ h.s (hf st (by simp)).1 (hf st (by simp)).2.1 (hf st (by simp)).2.2, h.b, h.d, h.u, h.i, h.l⟩
  have hX : (sts.drop (i + 1)).reverse ++ [sts.getD i []] = (sts.drop i).reverse := by rw [gd_drop hi, List.reverse_cons]
  rw [hX] at b1
  have hne : sts.drop i ≠ [] := by rw [gd_drop hi]; simp
  have hd1 : sts.take i ++ ((sts.drop i).reverse.tail).reverse = sts.dropLast := by
    have : ((sts.drop i).reverse.tail).reverse = (sts.drop i).dropLast := by rw [List.tail_reverse, List.reverse_reverse]
    rw [this]
    conv => rhs; rw [← List.take_append_drop i sts]
    rw [List.dropLast_append_of_ne_nil hne]
  have hv1 : ((sts.drop i).reverse).headD [] = sts.getLast (by intro z; rw [z] at hi; simp at hi) := by
    have : (sts.drop i).reverse = sts.getLast (by intro z; rw [z] at hi; simp at hi) :: (sts.drop i).dropLast.reverse := by
      conv => lhs; rw [← List.dropLast_concat_getLast hne]
      rw [List.reverse_append, List.getLast_drop]
      rfl
    rw [this]; rfl
  rw [hd1, hv1] at b1
  have hsn : sts ≠ [] := by intro z; rw [z] at hi; simp at hi
  obtain ⟨S2, e2, b2', k2, l2⟩ := r_ends_u b1 (k := k + 3) (by simp; omega) (by simp)
  have h2' : KB S2 b st dn un n r sts i := ⟨h1.B.mono fun m o hm hq => by
    obtain ⟨a1, a2, a3⟩ := hf m (by rcases hq with q | q | q <;> simp [q])
    exact k2 m o hm a1 a2 a3, k2 _ _ h1.s (hf st (by simp)).1 (hf st (by simp)).2.1 (hf st (by simp)).2.2, h.b, h.d, h.u, h.i, h.l⟩
  rw [List.dropLast_concat_getLast hsn] at b2'
  refine ⟨S2, _, ?_, h2', b2', by omega⟩
  have g8 : getL (EB ns n r b st x5 x6 (some (.int i)) (some (.l b2)) none x10) 8 = some b2 := rfl
  have q1 : evP (run G (k + 5)) (.cst (.int 1)) (EB ns n r b st x5 x6 (some (.int i)) (some (.l b2)) none x10) S = .ok (.int 1) S := evP_of (by simp [evV]) rfl
  have q0 : evP (run G (k + 5)) (.cst (.int 0)) (EB ns n r b st x5 x6 (some (.int i)) (some (.l b2)) none x10) S1 = .ok (.int 0) S1 := evP_of (by simp [evV]) rfl
  have nobl : ∀ l : List (List Int), (D.lst (l.map tI)).nob = true := fun l => by simp
  have q2 : evP (run G (k + 5)) (.slc (.bor 4) (.some (.var 7)) .none) (EB ns n r b st x5 x6 (some (.int i)) (some (.l b2)) none x10) S1 = .ok (.lst ((sts.drop i).map tI)) S1 := evP_of (by
    rw [pB2 h1 b1 hb hs]
    have : slcF (.lst (sts.map tI)) (some (i : Int)) none = some (.lst ((sts.drop i).map tI)) := by
      show some (D.lst (cutD _ _ _)) = _
      rw [cut_from _ (by omega), Int.toNat_natCast, List.map_drop]
    simp [evV, slotO, slotV, this]) (nobl _)
  have q3 : evP (run G (k + 5)) (.rev (.bor 4)) (EB ns n r b st x5 x6 (some (.int i)) (some (.l b2)) none x10) S2 = .ok (.lst (sts.reverse.map tI)) S2 := evP_of (by
    rw [pB2 h2' b2' hb hs]
    have : revF (.lst (sts.map tI)) = some (.lst (sts.reverse.map tI)) := by
      show some (D.lst _) = _
      rw [List.map_reverse]
    simp [evV, slotO, this]) (nobl _)
  have t1 : copF .ne (.lst ((sts.getD i [] :: ((sts.drop (i + 1)).reverse).reverse).map tI)) (.lst ((sts.drop i).map tI)) = some false := by
    rw [c_ne (ok_lt _) (ok_lt _), eq_lt, List.reverse_reverse, ← gd_drop hi]
    simp
  have t2 : copF .ne (.lst ((sts.getLast hsn :: sts.dropLast.reverse).map tI)) (.lst (sts.reverse.map tI)) = some false := by
    rw [c_ne (ok_lt _) (ok_lt _), eq_lt]
    have : sts.getLast hsn :: sts.dropLast.reverse = sts.reverse := by
      conv => rhs; rw [← List.dropLast_concat_getLast hsn]
      simp
    rw [this]
    simp
  unfold T_law_back8
  rw [y_ite]
  simp only [mt_oo, mt_o1, mt_cm, m_cm, m_ca, ms_cons, ms_nil, m_al, m_pu, g8, q1, q0, q2, q3, Option.map_some, ofO2_some, R2.bind_ok, e1, e2, cmpW, valD_d, t1, t2, R.ofO_some, liftR_ok, boolW_bl, Bool.false_eq_true, if_false, ys_nil]
theorem bk10 (hn : 1 ≤ n ∧ n ≤ 12) (hr : IsSet n r) (h : KB S b st dn un n r sts i) (h2 : BS S b2 n r [] dl2 ul2 d2 u2) (hb : b2 ≠ b) (hs : b2 ≠ st) :
    ex2 (run G (k + 5)) (run2 G G2 (k + 5)) T_law_back10 (EB ns n r b st x5 x6 (some (.int i)) (some (.l b2)) none x10) S = .ok (.nx (EB ns n r b st x5 x6 (some (.int i)) (some (.l b2)) none x10)) S := by
  unfold T_law_back10
  rw [y_ite, mt_pu, evTP_of (k := false)]
  · rfl
  · rw [pB2 h h2 hb hs]
    simp only [evT, isTest_eqO, if_true, v_eqO, v_new, vs_cons, vs_nil, v_var, isBor_var, isBor_new, List.getElem?_cons_succ, List.getElem?_cons_zero, slotV, R.bind_ok, Bool.or_self, Bool.false_eq_true, if_false, nD (show 1 ≤ n ∧ n ≤ 24 by omega) hr, eqD_o]
    simp
theorem bk12 (h : KB S b st dn un n r sts i) (h2 : BS S b2 n r [] dl2 ul2 d2 u2) (hb : b2 ≠ b) (hs : b2 ≠ st) :
    ex2 (run G (k + 5)) (run2 G G2 (k + 5)) T_law_back12 (EB ns n r b st x5 x6 (some (.int i)) (some (.l b2)) none x10) S = .ok (.nx (EB ns n r b st x5 x6 (some (.int i)) (some (.l b2)) none x10)) S := by
  unfold T_law_back12
  rw [y_ite, mt_pu, evTP_of (k := false)]
  · rfl
  · rw [pB2 h h2 hb hs]
    have hx : decide (([] : List Int) = sts.getD i []) = decide (sts.getD i [] = []) := by rw [decide_eq_decide]; exact eq_comm
    simp only [evT, isTest_or, isTest_one, isTest_cmp, isTest_eqO, Bool.and_self, if_true, v_or, v_one, v_cmp, v_mth, v_eqO, v_idx, v_bor, v_var, v_tup, isBor_var, isBor_eqO, isBor_cmp, isBor_one, List.getElem?_cons_succ, List.getElem?_cons_zero, slotV, slotO, R.bind_ok, vs_nil, isObj, r_starts, show bandF.contains ("starts" : Str) = false by decide, Bool.false_or, Bool.or_self, Bool.false_eq_true, if_false, gd_idx h.i, R.ofO_some, c_ne (ok_t _) (ok_t _), eq_t, decide_true, Bool.not_true, Option.map_some, boolD, eqD_o, Bool.true_and, hx]
    simp
theorem bk14 (h : KB S b st dn un n r sts i) (h2 : BS S b2 n r v2 dl2 ul2 d2 u2) (hb : b2 ≠ b) (hs : b2 ≠ st) :
    ex2 (run G (k + 5)) (run2 G G2 (k + 5)) T_law_back14 (EB ns n r b st x5 x6 (some (.int i)) (some (.l b2)) none x10) S = .ok (.nx (EB ns n r b st x5 x6 (some (.int i)) (some (.l b2)) none x10)) S := by
  unfold T_law_back14
  rw [y_ite, mt_pu, evTP_of (k := false)]
  · rfl
  · rw [pB2 h h2 hb hs]
    simp only [evT, isTest_eqO, if_true, v_eqO, v_idx, v_bor, v_var, isBor_var, isBor_idx, List.getElem?_cons_succ, List.getElem?_cons_zero, slotV, slotO, R.bind_ok, Bool.or_self, Bool.false_eq_true, if_false, gd_idx h.i, R.ofO_some, eqD_t]
    rfl
theorem bk16 (hn : 1 ≤ n ∧ n ≤ 12) (hr : IsSet n r) (h : KB S b st dn un n r sts i) (h2 : BS S b2 n r v2 dl2 ul2 d2 u2) (hb : b2 ≠ b) (hs : b2 ≠ st) :
    ∃ S' : Sto, ex2 (run G (k + 6)) (run2 G G2 (k + 6)) T_law_back16 (EB ns n r b st x5 x6 (some (.int i)) (some (.l b2)) none x10) S = .ok (.nx (EB ns n r b st x5 x6 (some (.int i)) (some (.l b2)) none x10)) S' ∧ (∀ (m : Nat) (o : Ob), S[m]? = some o → S'[m]? = some o) ∧ S.length ≤ S'.length := by
  have hi := h.i
  have hl := h.l
  obtain ⟨S1, e1, b1, k1, l1⟩ := r_copy h.B (k := k) (show 1 ≤ n ∧ n ≤ 24 by omega) hr
  obtain ⟨S2, e2, b2', k2, l2⟩ := r_ends_u b1 (k := k + 4) (by simp; omega) (by simp; omega)
  have kk : ∀ (m : Nat) (o : Ob), S[m]? = some o → S2[m]? = some o := fun m o hm => by
    have hml := (List.getElem?_eq_some_iff.mp hm).1
    exact k2 m o (k1 m o hm) (by omega) (by omega) (by omega)
  refine ⟨S2, ?_, kk, by omega⟩
  have g3 : getL (EB ns n r b st x5 x6 (some (.int i)) (some (.l b2)) none x10) 3 = some b := rfl
  have q0 : evP (run G (k + 6)) (.cst (.int 0)) (EB ns n r b st x5 x6 (some (.int i)) (some (.l b2)) none x10) S1 = .ok (.int 0) S1 := evP_of (by simp [evV]) rfl
  have nobl : ∀ l : List (List Int), (D.lst (l.map tI)).nob = true := fun l => by simp
  have q3 : evP (run G (k + 6)) (.rev (.slc (.bor 4) .none (.some (.bin .add (.var 7) (.cst (.int 1)))))) (EB ns n r b st x5 x6 (some (.int i)) (some (.l b2)) none x10) S2 = .ok (.lst ((sts.take (i + 1)).reverse.map tI)) S2 := evP_of (by
    rw [pB2 (h.mono fun m o hm _ => kk m o hm) (h2.mono fun m o hm _ => kk m o hm) hb hs]
    have : slcF (.lst (sts.map tI)) none (some ((i : Int) + 1)) = some (.lst ((sts.take (i + 1)).map tI)) := by
      show some (D.lst (cutD _ _ _)) = _
      rw [cut_to _ (by omega), show ((i : Int) + 1).toNat = i + 1 by omega, List.map_take]
    have e : revF (.lst ((sts.take (i + 1)).map tI)) = some (.lst ((sts.take (i + 1)).reverse.map tI)) := by
      show some (D.lst _) = _
      rw [List.map_reverse]
    simp only [evV, isBor_rev, Bool.false_eq_true, if_false, v_rev, v_slc, v_bor, List.getElem?_cons_succ, List.getElem?_cons_zero, slotO, R.bind_ok, vo_none, vo_some, v_bin, v_var, v_cst, slotV, isBor_bin]
    simp [-List.map_take, -List.map_reverse, this, e]) (nobl _)
  have t1 : copF .ne (.lst ((sts.getD i [] :: (sts.take i).reverse).map tI)) (.lst ((sts.take (i + 1)).reverse.map tI)) = some false := by
    rw [c_ne (ok_lt _) (ok_lt _), eq_lt, gd_take hi]
    simp
  unfold T_law_back16
  rw [y_ite, mt_cm, m_cm, m_ca]
  simp only [ms_cons, ms_nil, m_mt, show bandF.contains ("copy" : Str) = false by decide, Bool.false_eq_true, if_false, m_al, g3, Option.map_some, ofO2_some, R2.bind_ok, h.B.at_, isBd, if_true, e1, m_pu, q0, e2, q3, cmpW, valD_d, t1, R.ofO_some, liftR_ok, boolW_bl, ys_nil]
end

end Cl
set_option Elab.async false
set_option linter.all false
set_option maxRecDepth 100000
set_option maxHeartbeats 1000000
namespace Cl
open PySem
/-! ### law k66: another band -/
section
variable {k : Nat} {ns : List Int} {n : Int} {r v : List Int} {b st dn un b2 b3 i : Nat} {sts : List (List Int)} {x5 x6 x10 : Option D} {S : Sto}
theorem eb_noBd (S : Sto) {m : Nat} {ws : List W} (h : S[m]? = some (.ls ws)) : (S.map noBd)[m]? = some (.ls ws) := by rw [List.getElem?_map, h]; rfl
/-- what the loop walks: no band is in sight -/
theorem pB3 {S : Sto} (hs : S[st]? = some (.ls (enc sts))) (h2 : st ≠ b2) (h3 : st ≠ b3) (env : Env) (he : env = proj S (EB ns n r b st x5 x6 (some (.int i)) (some (.l b2)) (some (.l b3)) x10)) : env[4]? = some (.own (sts.map tI)) ∧ env[7]? = some (.val (.int i)) := by
  subst he
  have e4 : hasL st [oD x5, oD x6, oD (some (.int i)), some (.l b2), some (.l b3), oD x10] = false := by
    simp only [hasL_oD]
    show (b2 == st || (b3 == st || hasL st [oD x10])) = false
    simp only [hasL_oD]
    have a : (b2 == st) = false := by simpa using Ne.symm h2
    have c : (b3 == st) = false := by simpa using Ne.symm h3
    rw [a, c]
    rfl
  have f4 : later (some (.l st)) [oD x5, oD x6, oD (some (.int i)), some (.l b2), some (.l b3), oD x10] = false := e4
  have g4 : projS S (some (.l st)) = .own (sts.map tI) := by show projO S[st]? = _; rw [hs]; simp [projO, ownO]
  unfold EB
  simp only [proj, f4, g4, later_oD, projS_oD, Bool.false_eq_true, if_false]
  exact ⟨rfl, rfl⟩
theorem bk19 {d3 u3 : Nat} (hs : S[st]? = some (.ls (enc sts))) (h2 : st ≠ b2) (h3 : st ≠ b3) (hi : i < sts.length) (hv : sts.getD i [] = v) (pw : v.Pairwise (· < ·)) (hin : ∀ x ∈ v, 0 ≤ x ∧ x < n) (hl : v.length ≤ 100)
    (hB : S[b]? = some (.bd (.int n) (tI r) (tI v) dn un)) (b3' : BS S b3 n r [] [] [] d3 u3) (hb : b ≠ b3 ∧ b ≠ d3 ∧ b ≠ u3) :
    ∃ x10' S' dl' d' u', ex2 (run G (k + 3)) (run2 G G2 (k + 3)) T_law_back19 (EB ns n r b st x5 x6 (some (.int i)) (some (.l b2)) (some (.l b3)) x10) S = .ok (.nx (EB ns n r b st x5 x6 (some (.int i)) (some (.l b2)) (some (.l b3)) x10')) S' ∧ S'[b]? = some (.bd (.int n) (tI r) (tI v) dn un) ∧ BS S' b3 n r v dl' [] d' u' := by
  obtain ⟨env', S', e1, x10', rfl, ws, dl', d', u', c1, c2, c3, c4, c5, c6⟩ := for2_pre (f := fun d e S => (ofO2 S (setTg2 (.nm 10) d e)).bind fun e1 S => exs2 (run G (k + 3)) (run2 G G2 (k + 3)) S_law_back2 e1 S) (e := D.int) v.reverse
    (fun p env S => ∃ x10, env = EB ns n r b st x5 x6 (some (.int i)) (some (.l b2)) (some (.l b3)) x10 ∧ ∃ ws dl' d' u', BS S b3 n r ws dl' [] d' u' ∧ ws.Perm p ∧ ws.Pairwise (· < ·) ∧ dl'.length = p.length ∧ S[b]? = some (.bd (.int n) (tI r) (tI v) dn un) ∧ (b ≠ b3 ∧ b ≠ d' ∧ b ≠ u'))
    (fun p x q hpq env S ⟨x10, he, ws, dl', d', u', c1, c2, c3, c4, c5, c6⟩ => by
      have hpl := congrArg List.length hpq
      simp at hpl
      have hxm : x ∈ v := by
        have : x ∈ v.reverse := by rw [hpq]; simp
        simpa using this
      have nd : v.reverse.Nodup := List.pairwise_reverse.mpr (pw.imp fun h => by omega)
      rw [hpq, List.nodup_append] at nd
      have hxp : x ∉ p := fun hp => nd.2.2 x hp x (by simp) rfl
      have hxw : x ∉ ws := fun hw => hxp (c2.mem_iff.mp hw)
      have hwl := c2.length_eq
      obtain ⟨S1, e1, b1, k1, l1⟩ := r_join c1 (k := k) (hin x hxm) hxw (by omega) (by omega)
      have hbl : b < S.length := (List.getElem?_eq_some_iff.mp c5).1
      subst he
      refine ⟨EB ns n r b st x5 x6 (some (.int i)) (some (.l b2)) (some (.l b3)) (some (.int x)), S1, ?_, _, rfl, srt (ws ++ [x]), dl' ++ [ws], d', S.length, b1, (srt_perm _).trans (c2.append_right [x]), srt_lt ?_, by simp [c4], k1 b _ c5 c6.1 c6.2.1 c6.2.2, c6.1, c6.2.1, by omega⟩
      · have e0 : setTg2 (.nm 10) (.int x) (EB ns n r b st x5 x6 (some (.int i)) (some (.l b2)) (some (.l b3)) x10) = some (EB ns n r b st x5 x6 (some (.int i)) (some (.l b2)) (some (.l b3)) (some (.int x))) := rfl
        have g9 : getL (EB ns n r b st x5 x6 (some (.int i)) (some (.l b2)) (some (.l b3)) (some (.int x))) 9 = some b3 := rfl
        have q : evP (run G (k + 3)) (.var 10) (EB ns n r b st x5 x6 (some (.int i)) (some (.l b2)) (some (.l b3)) (some (.int x))) S = .ok (.int x) S := evP_of (by
          unfold EB
          simp only [evV, isBor_var, Bool.false_eq_true, if_false, v_var, proj]
          show slotV (some _) = _
          simp [later_oD, projS_oD]) rfl
        rw [e0, ofO2_some, R2.bind_ok]
        unfold S_law_back2 T_law_back18
        rw [ys_cons, y_exp, m_mt, if_neg (by decide), m_al, g9]
        simp only [Option.map_some, ofO2_some, R2.bind_ok, c1.at_, isBd, if_true, ms_cons, ms_nil, m_pu, q, e1, nx_nx, ys_nil]
      · have nw : ws.Nodup := c3.imp fun h => by omega
        rw [List.nodup_append]
        exact ⟨nw, by simp, fun a ha b hb => by
          rw [List.mem_singleton] at hb
          subst hb
          exact fun e => hxw (e ▸ ha)⟩)
    (EB ns n r b st x5 x6 (some (.int i)) (some (.l b2)) (some (.l b3)) x10) S ⟨x10, rfl, [], [], d3, u3, b3', List.Perm.refl _, List.Pairwise.nil, rfl, hB, hb⟩
  have hw : ws = v := pw_ext c3 pw fun x => by rw [c2.mem_iff]; simp
  subst hw
  refine ⟨x10', S', dl', d', u', ?_, c5, c1⟩
  unfold T_law_back19
  rw [y_for]
  have ei : evIP (run G (k + 3)) (.tup (.revT (.idx (.bor 4) (.var 7)))) (EB ns n r b st x5 x6 (some (.int i)) (some (.l b2)) (some (.l b3)) x10) S = .ok (ws.reverse.map D.int) S := by
    unfold evIP
    rw [show CI.noBor (.tup (.revT (.idx (.bor 4) (.var 7)))) = true from rfl, if_pos rfl]
    obtain ⟨a1, a2⟩ := pB3 (S := S.map noBd) (ns := ns) (n := n) (r := r) (b := b) (st := st) (x5 := x5) (x6 := x6) (x10 := x10) (b2 := b2) (b3 := b3) (i := i) (eb_noBd S hs) h2 h3 _ rfl
    have e2 : revTF (tI ws) = some (tI ws.reverse) := by
      show some (D.tup _) = some (D.tup _)
      rw [List.map_reverse]
    have : evi (run G (k + 3)) (.tup (.revT (.idx (.bor 4) (.var 7)))) (proj (S.map noBd) (EB ns n r b st x5 x6 (some (.int i)) (some (.l b2)) (some (.l b3)) x10)) = .ok (ws.reverse.map D.int) := by
      simp only [vi_tup, isBor_revT, Bool.false_eq_true, if_false, v_revT, v_idx, v_bor, v_var, a1, a2, slotO, slotV, R.bind_ok, gd_idx hi, hv, R.ofO_some, e2, tupD_t]
    rw [this]
    rfl
  rw [ei]
  exact e1
theorem p_last {S : Sto} {v3 dl : List Int} {d3 u3 dn un : Nat} (h3 : b3 ≠ b) (h4 : b3 ≠ st) (hb2 : b2 ≠ b) (hbs : st ≠ b) (hB : S[b]? = some (.bd (.int n) (tI r) (tI v) dn un)) (hC : S[b3]? = some (.bd (.int n) (tI r) (tI v3) d3 u3)) :
    (proj S (EB ns n r b st x5 x6 (some (.int i)) (some (.l b2)) (some (.l b3)) x10))[3]? = some (.val (bO n r v)) ∧ (proj S (EB ns n r b st x5 x6 (some (.int i)) (some (.l b2)) (some (.l b3)) x10))[9]? = some (.val (bO n r v3)) := by
  have e3 : hasL b [some (.l st), oD x5, oD x6, oD (some (.int i)), some (.l b2), some (.l b3), oD x10] = false := by
    show (st == b || hasL b [oD x5, oD x6, oD (some (.int i)), some (.l b2), some (.l b3), oD x10]) = false
    simp only [hasL_oD]
    show (st == b || (b2 == b || (b3 == b || hasL b [oD x10]))) = false
    simp only [hasL_oD]
    have a : (st == b) = false := by simpa using hbs
    have c : (b2 == b) = false := by simpa using hb2
    have d : (b3 == b) = false := by simpa using h3
    rw [a, c, d]
    rfl
  have f3 : later (some (.l b)) [some (.l st), oD x5, oD x6, oD (some (.int i)), some (.l b2), some (.l b3), oD x10] = false := e3
  have g3 : projS S (some (.l b)) = .val (bO n r v) := by show projO S[b]? = _; rw [hB]; rfl
  have f9 : later (some (.l b3)) [oD x10] = false := by show hasL b3 [oD x10] = false; simp; rfl
  have g9 : projS S (some (.l b3)) = .val (bO n r v3) := by show projO S[b3]? = _; rw [hC]; rfl
  unfold EB
  simp only [proj, f3, g3, f9, g9, later_oD, projS_oD, Bool.false_eq_true, if_false]
  exact ⟨rfl, rfl⟩
theorem bk21 {dl : List (List Int)} {d3 u3 : Nat} (hn : 1 ≤ n ∧ n ≤ 12) (hr : IsSet n r) (h3 : b3 ≠ b) (h4 : b3 ≠ st) (hb2 : b2 ≠ b) (hbs : st ≠ b) (hB : S[b]? = some (.bd (.int n) (tI r) (tI v) dn un)) (hC : BS S b3 n r v dl [] d3 u3) :
    ex2 (run G (k + 5)) (run2 G G2 (k + 5)) T_law_back21 (EB ns n r b st x5 x6 (some (.int i)) (some (.l b2)) (some (.l b3)) x10) S = .ok (.nx (EB ns n r b st x5 x6 (some (.int i)) (some (.l b2)) (some (.l b3)) x10)) S := by
  obtain ⟨a3, a9⟩ := p_last (ns := ns) (x5 := x5) (x6 := x6) (x10 := x10) (i := i) (dl := []) h3 h4 hb2 hbs hB hC.at_
  unfold T_law_back21
  rw [y_ite, mt_pu, evTP_of (k := false)]
  · rfl
  · simp only [evT, isTest_or, isTest_one, isTest_cmp, isTest_not, isTest_eqO, Bool.and_self, if_true, v_or, v_one, v_cmp, v_mth, v_not, v_eqO, v_var, isBor_var, isBor_eqO, isBor_cmp, bor_not, isBor_or, isBor_one, a3, a9, slotV, R.bind_ok, vs_nil, isObj, r_bclaps hr (show n ≤ 10000 by omega), show bandF.contains ("claps" : Str) = false by decide, Bool.false_or, Bool.or_self, Bool.false_eq_true, if_false, eqD_o, decide_true, boolD, c_ne (ok_lI _) (ok_lI _), eq_lI, Option.map_some, R.ofO_some]
    simp
theorem set1 {m : Int} (x : Int) (h : 0 ≤ x ∧ x < m) : IsSet m [x] := ⟨by simp, by simp; omega, by simp; omega, by simp⟩
theorem bk22 {env : Env2} {S : Sto} : ex2 (run G (k + 5)) (run2 G G2 (k + 5)) T_law_back22 env S = .ok (.rt (.d (.bl true))) S := by
  have n1 : newD (run G (k + 5)) [.int 8, .tup [.int 0]] = .ok (bO 8 [0] []) := nD (r := [0]) (by omega) (set1 0 (by omega))
  have n2 : newD (run G (k + 5)) [.int 9, .tup [.int 0]] = .ok (bO 9 [0] []) := nD (r := [0]) (by omega) (set1 0 (by omega))
  have n3 : newD (run G (k + 5)) [.int 8, .tup [.int 1]] = .ok (bO 8 [1] []) := nD (r := [1]) (by omega) (set1 1 (by omega))
  unfold T_law_back22
  rw [y_ret, m_pu, evP_of (d := .bl true)]
  · rfl
  · simp only [evV, isBor_and, Bool.false_eq_true, if_false, v_and, v_one, v_cmp, isBor_one, isBor_cmp, v_eqO, isBor_new, Bool.or_self, v_new, vs_cons, vs_nil, v_cst, v_tup, isBor_cst, isBor_tup, cst_int, R.bind_ok, List.length_cons, List.length_nil, show (0 + 1 ≤ lim) = True by decide, if_true, n1, n2, n3, eqD_o]
    rfl
  · rfl
end

end Cl
set_option Elab.async false
set_option linter.all false
set_option maxRecDepth 100000
set_option maxHeartbeats 1000000
namespace Cl
open PySem
/-! ### law k66: copies and undoing, the whole -/
section
variable {k : Nat} {ns : List Int} {n : Int} {r : List Int} {b st dn un : Nat} {sts : List (List Int)} {S : Sto}
theorem r_back (hs : ns.length ≤ 63) (hn : 1 ≤ n ∧ n ≤ 12) (hr : IsSet n r) (h : KB S b st dn un n r sts (sts.length - 1)) (h0 : sts.headD [] = []) (pw : ∀ v ∈ sts, v.Pairwise (· < ·) ∧ (∀ x ∈ v, 0 ≤ x ∧ x < n) ∧ v.length ≤ 100) :
    ∃ S', run2 G G2 (k + 7) 111 [.d (.scr ns), .d (.int n), .d (tI r), .l b, .l st] S = .ok (.d (.bl true)) S' := by
  have hL := h.i
  have hl := h.l
  obtain ⟨w, hw, ew⟩ := r_drawn hs (k := 3) (many := (sts.length : Int)) (by omega) (by omega)
  obtain ⟨m, rfl⟩ : ∃ m : Nat, w = m := ⟨w.toNat, by omega⟩
  rw [V_law_back]
  have s1 : ex2 (run G (k + 6)) (run2 G G2 (k + 6)) T_law_back1 (EB ns n r b st none none none none none none) S = .ok (.nx (EB ns n r b st (some (.int m)) none none none none none)) S := by
    unfold T_law_back1
    rw [y_asg, m_pu, evP_of (d := .int m)]
    · rfl
    · rw [projB (v := sts.getD (sts.length - 1) []) (dn := dn) (un := un) (sts := sts) rfl rfl h.b h.B.at_ h.s]
      simp [evV, slotV, slotO, ew]
    · rfl
  obtain ⟨x6, S1, s3, h1⟩ := bk3 (k := k + 5) (ns := ns) (x5 := none) (x7 := none) (x10 := none) (m := m) (by omega) h
  obtain ⟨i, hi⟩ : ∃ i, i = sts.length - 1 - m := ⟨_, rfl⟩
  rw [← hi] at h1
  obtain ⟨S2, c1, c2, c3, c4⟩ := r_copy h1.B (k := k) (show 1 ≤ n ∧ n ≤ 24 by omega) hr
  obtain ⟨lb, ld, lu⟩ := h1.B.lt
  have ls : st < S1.length := (List.getElem?_eq_some_iff.mp h1.s).1
  have h2 : KB S2 b st dn un n r sts i := h1.mono fun m o hm _ => c3 m o hm
  have s4 : ex2 (run G (k + 6)) (run2 G G2 (k + 6)) T_law_back4 (EB ns n r b st (some (.int m)) x6 none none none none) S1 = .ok (.nx (EB ns n r b st (some (.int m)) x6 (some (.int i)) (some (.l (S1.length + 2))) none none)) S2 := by
    have e1 : evP (run G (k + 6)) (.bin .sub (.bin .sub (.bi .len (.cons (.bor 4) .nil)) (.cst (.int 1))) (.var 5)) (EB ns n r b st (some (.int m)) x6 none none none none) S1 = .ok (.int i) S1 := evP_of (by
      rw [projB (v := sts.getD i []) (dn := dn) (un := un) (sts := sts) rfl rfl h1.b h1.B.at_ h1.s]
      have : (sts.length : Int) - 1 - m = i := by omega
      simp [evV, slotV, slotO, this]) rfl
    have g3 : getL (EB ns n r b st (some (.int m)) x6 none none none none) 3 = some b := rfl
    unfold T_law_back4
    rw [y_par, if_neg (by decide)]
    simp only [ms_cons, ms_nil, m_pu, e1, R2.bind_ok, m_mt, show bandF.contains ("copy" : Str) = false by decide, Bool.false_eq_true, if_false, m_al, g3, Option.map_some, ofO2_some, h1.B.at_, isBd, if_true, c1]
    rfl
  have s6 := bk6 (k := k + 1) (ns := ns) (x5 := some (.int m)) (x6 := x6) (x10 := none) h2 c2 (by omega) (by omega)
  obtain ⟨S3, ul3, s8, h3, d3, l3⟩ := bk8 (k := k + 1) (ns := ns) (x5 := some (.int m)) (x6 := x6) (x10 := none) h2 c2 (by omega) (by omega) (fun q hq => by rcases hq with q | q | q | q <;> omega)
  rw [h0] at d3
  have s10 := bk10 (k := k + 1) (ns := ns) (x5 := some (.int m)) (x6 := x6) (x10 := none) hn hr h3 d3 (by omega) (by omega)
  have s12 := bk12 (k := k + 1) (ns := ns) (x5 := some (.int m)) (x6 := x6) (x10 := none) h3 d3 (by omega) (by omega)
  have s14 := bk14 (k := k + 1) (ns := ns) (x5 := some (.int m)) (x6 := x6) (x10 := none) h3 d3 (by omega) (by omega)
  obtain ⟨S4, s16, k4, l4⟩ := bk16 (k := k) (ns := ns) (x5 := some (.int m)) (x6 := x6) (x10 := none) hn hr h3 d3 (by omega) (by omega)
  have h4 : KB S4 b st dn un n r sts i := h3.mono fun m o hm _ => k4 m o hm
  have d4 : BS S4 (S1.length + 2) n r [] [] ul3 (S1.length + 3) (S1.length + 4) := d3.mono fun m o hm _ => k4 m o hm
  obtain ⟨S5, hS5⟩ : ∃ S5 : Sto, S5 = S4 ++ [.ls [], .ls [], .bd (.int n) (tI r) (.tup []) S4.length (S4.length + 1)] := ⟨_, rfl⟩
  have s17 : ex2 (run G (k + 6)) (run2 G G2 (k + 6)) T_law_back17 (EB ns n r b st (some (.int m)) x6 (some (.int i)) (some (.l (S1.length + 2))) none none) S4 = .ok (.nx (EB ns n r b st (some (.int m)) x6 (some (.int i)) (some (.l (S1.length + 2))) (some (.l (S4.length + 2))) none)) S5 := by
    unfold T_law_back17
    rw [y_asg, m_nw, evsP_of (ds := [.int n, tI r])]
    · rw [R2.bind_ok, r_new (k := k + 1) S4 (by omega) hr, ← hS5]
      rfl
    · rw [pB2 h4 d4 (by omega) (by omega)]
      simp [slotV]
    · simp
  have b5 : BS S5 (S4.length + 2) n r [] [] [] S4.length (S4.length + 1) := by rw [hS5]; exact BS.new S4
  have k5 : ∀ (m : Nat) (o : Ob), S4[m]? = some o → S5[m]? = some o := fun m o hm => by
    rw [hS5, List.getElem?_append_left (List.getElem?_eq_some_iff.mp hm).1]; exact hm
  have hv : sts.getD i [] ∈ sts := by
    have := h1.i
    simp [List.getD, List.getElem?_eq_getElem this]
  obtain ⟨pv, pin, pl⟩ := pw _ hv
  obtain ⟨x10, S6, dl6, d6, u6, s19, b6, c6⟩ := bk19 (k := k + 3) (ns := ns) (x5 := some (.int m)) (x6 := x6) (x10 := none) (b := b) (dn := dn) (un := un) (k5 _ _ h4.s) (show st ≠ S1.length + 2 by omega) (show st ≠ S4.length + 2 by omega) h1.i rfl pv pin pl (k5 _ _ h4.B.at_) b5 ⟨by omega, by omega, by omega⟩
  have s21 := bk21 (k := k + 1) (ns := ns) (i := i) (x5 := some (.int m)) (x6 := x6) (x10 := x10) (st := st) (b2 := S1.length + 2) hn hr (show S4.length + 2 ≠ b by omega) (show S4.length + 2 ≠ st by omega) (by omega) h.b b6 c6
  refine ⟨S6, ?_⟩
  unfold B_law_back
  have s0 : ([some (.d (.scr ns)), some (.d (.int n)), some (.d (tI r)), some (.l b), some (.l st), none, none, none, none, none, none] : Env2) = EB ns n r b st none none none none none none := rfl
  rw [s0, exs2_nx s1, exs2_nx s3, exs2_nx s4, exs2_nx s6, exs2_nx s8, exs2_nx s10, exs2_nx s12, exs2_nx s14, exs2_nx s16, exs2_nx s17, exs2_nx s19, exs2_nx s21, ys_cons, bk22 (k := k + 1)]
  rfl
end

end Cl
set_option Elab.async false
set_option linter.all false
set_option maxRecDepth 100000
set_option maxHeartbeats 1000000
namespace Cl
open PySem
/-! ### law k66: packings, in plain words -/
structure Pk (n : Int) (r vs : List Int) : Prop where
  pw : vs.Pairwise (· < ·)
  inn : ∀ x ∈ vs, 0 ≤ x ∧ x < n
  one : ∀ x, 0 ≤ x ∧ x < n → cnt n r vs x ≤ 1
theorem Pk.set {n : Int} {r vs : List Int} (h : Pk n r vs) (hv : vs ≠ []) : IsSet n vs := ⟨hv, fun x hx => (h.inn x hx).1, fun x hx => (h.inn x hx).2, h.pw⟩
theorem Pk.nil {n : Int} {r : List Int} : Pk n r [] := ⟨List.Pairwise.nil, fun x hx => absurd hx (by simp), fun x _ => by simp [cnt]⟩
theorem Pk.len {n : Int} {r vs : List Int} (h : Pk n r vs) (hn : 0 ≤ n) : (vs.length : Int) ≤ n := by
  by_cases e : vs = []
  · rw [e]; simpa using hn
  · exact (h.set e).len
theorem cnt_nn {n : Int} {r vs : List Int} {x : Int} : 0 ≤ cnt n r vs x := by unfold cnt; omega
theorem mem_fr {n : Int} {r vs : List Int} {s : Int} : s ∈ fr n r vs ↔ (0 ≤ s ∧ s < n) ∧ ∀ b ∈ mv n r s, cnt n r vs b = 0 := by
  unfold fr
  simp [mem_rgI]
theorem cnt_ge {n : Int} {r vs : List Int} {s b : Int} (hs : s ∈ vs) (hb : (b - s) % n ∈ r) : 1 ≤ cnt n r vs b := by
  have : 0 < vs.countP fun t => decide ((b - t) % n ∈ r) := List.countP_pos_iff.mpr ⟨s, hs, by simpa using hb⟩
  unfold cnt
  omega
theorem fr_out {n : Int} {r vs : List Int} {s : Int} (hr : IsSet n r) (h : s ∈ fr n r vs) : s ∉ vs := fun hs => by
  obtain ⟨b, hb⟩ : ∃ b, b ∈ mv n r s := List.exists_mem_of_ne_nil _ (hr.mv s).ne
  have h1 := (mem_fr.mp h).2 b hb
  have h2 := cnt_ge (r := r) hs (mem_mv.mp hb).2
  omega
theorem cnt_perm {n : Int} {r vs ws : List Int} {x : Int} (h : vs.Perm ws) : cnt n r vs x = cnt n r ws x := by
  unfold cnt
  rw [h.countP_eq]
theorem Pk.join {n : Int} {r vs : List Int} {s : Int} (hr : IsSet n r) (h : Pk n r vs) (hs : s ∈ fr n r vs) : Pk n r (srt (vs ++ [s])) := by
  have ho := fr_out hr hs
  obtain ⟨h1, h2⟩ := mem_fr.mp hs
  refine ⟨srt_lt ?_, fun x hx => ?_, fun x hx => ?_⟩
  · have nv : vs.Nodup := h.pw.imp fun h => by omega
    rw [List.nodup_append]
    exact ⟨nv, by simp, fun a ha b hb => by
      rw [List.mem_singleton] at hb
      subst hb
      exact fun e => ho (e ▸ ha)⟩
  · rw [mem_srt, List.mem_append, List.mem_singleton] at hx
    rcases hx with hx | rfl
    · exact h.inn x hx
    · exact h1
  · rw [cnt_perm (srt_perm _)]
    have e : cnt n r (vs ++ [s]) x = cnt n r vs x + if (x - s) % n ∈ r then 1 else 0 := by
      unfold cnt
      rw [List.countP_append]
      by_cases q : (x - s) % n ∈ r <;> simp [q]
    rw [e]
    by_cases q : (x - s) % n ∈ r
    · rw [if_pos q, h2 x (mem_mv.mpr ⟨hx, q⟩)]
      omega
    · rw [if_neg q]
      have := h.one x hx
      omega
theorem Pk.leave {n : Int} {r vs : List Int} {s : Int} (h : Pk n r vs) : Pk n r (vs.filter fun x => decide (x ≠ s)) := by
  refine ⟨h.pw.filter _, fun x hx => h.inn x (List.mem_filter.mp hx).1, fun x hx => ?_⟩
  have := h.one x hx
  have e := List.countP_eq_countP_filter_add vs (fun t => decide ((x - t) % n ∈ r)) (fun x => decide (x ≠ s))
  unfold cnt at this ⊢
  omega
theorem Pk.back {n : Int} {r vs : List Int} {s : Int} (h : Pk n r vs) (hs : s ∈ vs) : s ∈ fr n r (vs.filter fun x => decide (x ≠ s)) := by
  refine mem_fr.mpr ⟨h.inn s hs, fun b hb => ?_⟩
  obtain ⟨hb1, hb2⟩ := mem_mv.mp hb
  have h1 := h.one b hb1
  have e := List.countP_eq_countP_filter_add vs (fun t => decide ((b - t) % n ∈ r)) (fun x => decide (x ≠ s))
  have h2 : 0 < (vs.filter fun a => !decide (a ≠ s)).countP fun t => decide ((b - t) % n ∈ r) := List.countP_pos_iff.mpr ⟨s, List.mem_filter.mpr ⟨hs, by simp⟩, by simpa using hb2⟩
  unfold cnt at h1 ⊢
  omega
theorem Pk.less {n : Int} {r vs : List Int} {s : Int} (h : Pk n r vs) (hs : s ∈ vs) : (vs.filter fun x => decide (x ≠ s)).length + 1 = vs.length := by
  have nv : vs.Nodup := h.pw.imp fun h => by omega
  have h1 := nv.count (a := s)
  rw [if_pos hs] at h1
  have e := List.length_eq_countP_add_countP (fun x => decide (x ≠ s)) (l := vs)
  rw [← List.countP_eq_length_filter, e, ← h1, List.count]
  congr 1
  refine List.countP_congr fun x _ => ?_
  simp
theorem Pk.pack {n : Int} {r vs : List Int} (h : Pk n r vs) (hn : 0 < n) : mx (clp n r vs) ≤ 1 := by
  rw [mx_le (clp_ne hn r vs)]
  intro x hx
  obtain ⟨t, ht, rfl⟩ := List.mem_map.mp hx
  exact h.one t (mem_rgI.mp ht)
theorem sum_ones (f : Int → Int) : ∀ l : List Int, (∀ x ∈ l, f x ≤ 1) → ((l.map f).sum ≤ l.length ∧ ((l.map f).sum = l.length ↔ l.map f = l.map fun _ => 1))
  | [], _ => by simp
  | x :: l, h => by
    obtain ⟨h1, h2⟩ := sum_ones f l fun y hy => h y (List.mem_cons_of_mem _ hy)
    have hx := h x (by simp)
    refine ⟨by simp; omega, ?_⟩
    simp only [List.map_cons, List.sum_cons, List.length_cons, List.cons.injEq]
    constructor
    · intro e
      exact ⟨by omega, h2.mp (by omega)⟩
    · rintro ⟨e1, e2⟩
      have := h2.mpr e2
      omega
theorem Pk.canon {n : Int} {r vs : List Int} (hr : IsSet n r) (h : Pk n r vs) : decide ((vs.length : Int) * r.length = n) = decide (clp n r vs = (rgI 0 n).map fun _ => 1) := by
  rw [decide_eq_decide]
  have hp := hr.pos
  have h1 := (sum_ones (cnt n r vs) (rgI 0 n) fun x hx => h.one x (mem_rgI.mp hx)).2
  have h2 := sum_cnt hr vs
  have h3 : ((rgI 0 n).length : Int) = n := by simp; omega
  unfold clp
  rw [← h1, h2, h3, Int.mul_comm]
theorem Pk.gap {n : Int} {r vs : List Int} {a b : Int} (hr : IsSet n r) (h : Pk n r vs) (ha : a ∈ vs) (hb : b ∈ vs) (hab : a < b) : b - a ∈ free n r := by
  have hs := h.set (List.ne_nil_of_mem ha)
  have h1 := (pack_iff hr hs).mp (fun x hx => by
    obtain ⟨t, ht, rfl⟩ := List.mem_map.mp hx
    exact h.one t (mem_rgI.mp ht))
  have hA := h.inn a ha
  have hB := h.inn b hb
  have e : (b - a) % n = b - a := Int.emod_eq_of_lt (by omega) (by omega)
  have h2 : ¬ 0 < sh n r (b - a) := fun q => h1 ⟨a, ha, b, hb, by omega, by rw [e]; exact q⟩
  unfold free
  rw [List.mem_filter, mem_rgI]
  refine ⟨by omega, ?_⟩
  rw [decide_eq_true_eq]
  unfold sh at h2 ⊢
  omega
theorem fr_nil {n : Int} {r : List Int} : fr n r [] = rgI 0 n := by
  unfold fr
  rw [List.filter_eq_self.mpr]
  intro s _
  simp [cnt]
theorem clp_nil {n : Int} {r : List Int} : clp n r [] = (rgI 0 n).map fun _ => 0 := rfl
theorem at_m2 {α : Type} (l : List α) (a b : α) : L2.atI (l ++ [a, b]) (-2) = some a := by
  have h : L2.ixN (l ++ [a, b]).length (-2) = some l.length := by
    unfold L2.ixN
    rw [if_neg (by omega), if_pos (by simp; omega)]
    simp
    omega
  unfold L2.atI
  rw [h]
  simp

end Cl
set_option Elab.async false
set_option linter.all false
set_option maxRecDepth 100000
set_option maxHeartbeats 1000000
namespace Cl
open PySem
/-! ### law k66: the walk -/
def E66 (ns : List Int) (n : Int) (r : List Int) (b st : Nat) (x5 x6 x7 : Option D) : Env2 := [some (.d (.scr ns)), some (.d (.int n)), some (.d (tI r)), some (.l b), some (.l st), oD x5, oD x6, oD x7]
section
variable {k : Nat} {ns : List Int} {n : Int} {r vs : List Int} {b st dn un : Nat} {x5 x6 x7 : Option D} {S : Sto} {dl sts : List (List Int)}
theorem proj66 (hbs : st ≠ b) (hB : S[b]? = some (.bd (.int n) (tI r) (tI vs) dn un)) (hS : S[st]? = some (.ls (enc sts))) :
    proj S (E66 ns n r b st x5 x6 x7) = [.val (.scr ns), .val (.int n), .val (tI r), .val (bO n r vs), .own (sts.map tI), oS x5, oS x6, oS x7] := by
  have e3 : hasL b [some (.l st), oD x5, oD x6, oD x7] = false := by
    show (st == b || hasL b [oD x5, oD x6, oD x7]) = false
    simp only [hasL_oD]
    have a : (st == b) = false := by simpa using hbs
    rw [a]
    rfl
  have e4 : hasL st [oD x5, oD x6, oD x7] = false := by simp only [hasL_oD]; rfl
  have f3 : later (some (.l b)) [some (.l st), oD x5, oD x6, oD x7] = false := e3
  have f4 : later (some (.l st)) [oD x5, oD x6, oD x7] = false := e4
  have g3 : projS S (some (.l b)) = .val (bO n r vs) := by show projO S[b]? = _; rw [hB]; rfl
  have g4 : projS S (some (.l st)) = .own (sts.map tI) := by show projO S[st]? = _; rw [hS]; simp [projO, ownO]
  unfold E66
  simp only [proj, f3, f4, g3, g4, later_oD, projS_oD, Bool.false_eq_true, if_false]
  simp [later, projS]
/-- the state of the loop -/
structure J66 (S : Sto) (b st dn un : Nat) (n : Int) (r vs : List Int) (dl : List (List Int)) : Prop where
  B : BS S b n r vs dl [] dn un
  s : S[st]? = some (.ls (enc (dl ++ [vs])))
  b : st ≠ b
  d : st ≠ dn
  u : st ≠ un
  P : Pk n r vs
  l : vs.length = dl.length
  g : ∀ v ∈ dl, Pk n r v
  h : (dl ++ [vs]).headD [] = []
theorem lenR_ok {m : Nat} (h : m ≤ 1000) : lenR (.int (m : Int)) = .ok (.int (m : Int)) := by
  show (if _ then _ else _) = _
  rw [if_pos (by omega)]
theorem e_starts {env : Env} (h : env[3]? = some (.val (bO n r vs))) : ev (run G (k + 1)) (.mth 130 "starts" (.var 3) .nil) env = .ok (tI vs) := by
  simp only [v_mth, show bandF.contains ("starts" : Str) = false by decide, isBor_var, Bool.or_self, Bool.false_eq_true, if_false, v_var, h, slotV, R.bind_ok, isObj, if_true, vs_nil, r_starts]
theorem e_free {env : Env} (hr : IsSet n r) (hn : n ≤ 1000) (h : env[3]? = some (.val (bO n r vs))) : ev (run G (k + 3)) (.mth 135 "free" (.var 3) .nil) env = .ok (.lst ((fr n r vs).map D.int)) := by
  simp only [v_mth, show bandF.contains ("free" : Str) = false by decide, isBor_var, Bool.or_self, Bool.false_eq_true, if_false, v_var, h, slotV, R.bind_ok, isObj, if_true, vs_nil, r_bfree hr hn]
theorem e_claps {env : Env} (hr : IsSet n r) (hn : n ≤ 1000) (h : env[3]? = some (.val (bO n r vs))) : ev (run G (k + 2)) (.mth 131 "claps" (.var 3) .nil) env = .ok (.lst ((clp n r vs).map D.int)) := by
  simp only [v_mth, show bandF.contains ("claps" : Str) = false by decide, isBor_var, Bool.or_self, Bool.false_eq_true, if_false, v_var, h, slotV, R.bind_ok, isObj, if_true, vs_nil, r_bclaps hr (show n ≤ 10000 by omega)]
theorem e_len {env : Env} (hl : vs.length ≤ 1000) (h : env[3]? = some (.val (bO n r vs))) : ev (run G (k + 1)) (.lenO 129 3) env = .ok (.int (vs.length : Int)) := by
  simp only [v_lenO, h, slotV, R.bind_ok, isObj, if_true, r_blen, lenR_ok hl]
theorem w13 (hn : 1 ≤ n ∧ n ≤ 12) (hr : IsSet n r) (h : J66 S b st dn un n r vs dl) :
    evTP (run G (k + 7)) (.and (.cmp .ne (.mth 135 "free" (.var 3) .nil) (.lst .nil)) (.one (.cmp .lt (.bi .len (.cons (.bor 4) .nil)) (.cst (.int 13))))) (E66 ns n r b st x5 x6 x7) S = .ok (decide (fr n r vs ≠ []) && decide (dl.length + 1 < 13)) S := evTP_of (by
  rw [proj66 h.b h.B.at_ h.s]
  have e1 : biF .len [.lst ((dl ++ [vs]).map tI)] = some (.int ((dl.length + 1 : Nat) : Int)) := by simp
  have e2 : deq (.lst ((fr n r vs).map D.int)) (.lst []) = decide (fr n r vs = []) := eq_lI_nil _
  simp only [evT, isTest_and, isTest_one, isTest_cmp, Bool.and_self, if_true, v_and, v_one, isBor_one, isBor_cmp, Bool.false_eq_true, if_false, v_cmp, e_free (k := k + 4) hr (show n ≤ 1000 by omega) (env := [.val (.scr ns), .val (.int n), .val (tI r), .val (bO n r vs), .own ((dl ++ [vs]).map tI), oS x5, oS x6, oS x7]) rfl, R.bind_ok, v_lst, vs_nil, List.length_nil, Nat.zero_le, c_ne (ok_lI _) ok_nilL, e2, Option.map_some, R.ofO_some, boolD, v_bi, vb_cons, vb_nil, v_bor, List.getElem?_cons_succ, List.getElem?_cons_zero, slotO, e1, v_cst, cst_int, c_lt]
  have e3 : (((dl.length + 1 : Nat) : Int) < 13) = (dl.length + 1 < 13) := by rw [eq_iff_iff]; omega
  by_cases q : fr n r vs = []
  · simp [q]
  · simp [q]
    omega)
theorem body66 (hs : ns.length ≤ 63) (hn : 1 ≤ n ∧ n ≤ 12) (hr : IsSet n r) (h : J66 S b st dn un n r vs dl) (hf : fr n r vs ≠ []) (hd : dl.length < 13) :
    ∃ x5' S' vs' un', exs2 (run G (k + 7)) (run2 G G2 (k + 7)) S_law1 (E66 ns n r b st x5 x6 x7) S = .ok (.nx (E66 ns n r b st x5' x6 x7)) S' ∧ J66 S' b st dn un' n r vs' (dl ++ [vs]) := by
  have hfl : (fr n r vs).length ≤ 1000 := by
    have : (fr n r vs).length ≤ (rgI 0 n).length := List.length_filter_le _ _
    simp at this
    omega
  obtain ⟨w, hw, ew⟩ := r_drawn hs (k := 50 + ((dl.length : Int) + 1)) (many := ((fr n r vs).length : Int)) (by omega) (by
    have := List.length_pos_iff.mpr hf
    omega)
  obtain ⟨j, rfl⟩ : ∃ j : Nat, w = j := ⟨w.toNat, by omega⟩
  have hj : j < (fr n r vs).length := by omega
  obtain ⟨s, hsdef⟩ : ∃ s, s = (fr n r vs)[j] := ⟨_, rfl⟩
  have hsm : s ∈ fr n r vs := by rw [hsdef]; exact List.getElem_mem hj
  have hso := fr_out hr hsm
  have hsr := (mem_fr.mp hsm).1
  have ix : idxF (.lst ((fr n r vs).map D.int)) (.int (j : Int)) = some (.int s) := by
    refine idx_lst (by omega) ?_
    rw [List.getElem?_map, Int.toNat_natCast, List.getElem?_eq_getElem hj, hsdef]
    rfl
  have s6 : ex2 (run G (k + 7)) (run2 G G2 (k + 7)) T_law6 (E66 ns n r b st x5 x6 x7) S = .ok (.nx (E66 ns n r b st (some (.lst ((fr n r vs).map D.int))) x6 x7)) S := by
    unfold T_law6
    rw [y_asg, m_pu, evP_of (d := .lst ((fr n r vs).map D.int))]
    · rfl
    · rw [proj66 h.b h.B.at_ h.s]
      simp only [evV, isBor_mth, Bool.false_eq_true, if_false, e_free (k := k + 4) hr (show n ≤ 1000 by omega) (env := [.val (.scr ns), .val (.int n), .val (tI r), .val (bO n r vs), .own ((dl ++ [vs]).map tI), oS x5, oS x6, oS x7]) rfl]
    · simp
  have hvl := h.P.len (show 0 ≤ n by omega)
  obtain ⟨S1, j1, j2, j3, j4⟩ := r_join h.B (k := k + 4) hsr hso (by omega) (by omega)
  have s7 : ex2 (run G (k + 7)) (run2 G G2 (k + 7)) T_law7 (E66 ns n r b st (some (.lst ((fr n r vs).map D.int))) x6 x7) S = .ok (.nx (E66 ns n r b st (some (.lst ((fr n r vs).map D.int))) x6 x7)) S1 := by
    have e1 : evP (run G (k + 7)) (.idx (.var 5) (.call 66 (.cons (.var 0) (.cons (.bin .add (.cst (.int 50)) (.bi .len (.cons (.bor 4) .nil))) (.cons (.bi .len (.cons (.var 5) .nil)) .nil))))) (E66 ns n r b st (some (.lst ((fr n r vs).map D.int))) x6 x7) S = .ok (.int s) S := evP_of (by
      rw [proj66 h.b h.B.at_ h.s]
      simp [evV, slotV, slotO, ew, ix]) rfl
    have g3 : getL (E66 ns n r b st (some (.lst ((fr n r vs).map D.int))) x6 x7) 3 = some b := rfl
    unfold T_law7
    rw [y_exp, m_mt, if_neg (by decide), m_al, g3]
    simp only [Option.map_some, ofO2_some, R2.bind_ok, h.B.at_, isBd, if_true, ms_cons, ms_nil, m_pu, e1, j1]
  obtain ⟨lb, ldn, lun⟩ := h.B.lt
  have st1 : S1[st]? = some (.ls (enc (dl ++ [vs]))) := j3 _ _ h.s h.b h.d h.u
  have stl : st < S1.length := (List.getElem?_eq_some_iff.mp st1).1
  have stl0 : st < S.length := (List.getElem?_eq_some_iff.mp h.s).1
  obtain ⟨v', hv'⟩ : ∃ v', v' = srt (vs ++ [s]) := ⟨_, rfl⟩
  rw [← hv'] at j2
  have P' : Pk n r v' := by rw [hv']; exact h.P.join hr hsm
  have l' : v'.length = dl.length + 1 := by rw [hv', (srt_perm _).length_eq, List.length_append, h.l]; rfl
  have ne' : v' ≠ [] := by intro z; rw [z] at l'; simp at l'
  have s8 : ex2 (run G (k + 7)) (run2 G G2 (k + 7)) T_law8 (E66 ns n r b st (some (.lst ((fr n r vs).map D.int))) x6 x7) S1 = .ok (.nx (E66 ns n r b st (some (.lst ((fr n r vs).map D.int))) x6 x7)) (S1.set st (.ls (enc (dl ++ [vs] ++ [v'])))) := by
    have e1 : evP (run G (k + 7)) (.mth 130 "starts" (.var 3) .nil) (E66 ns n r b st (some (.lst ((fr n r vs).map D.int))) x6 x7) S1 = .ok (tI v') S1 := evP_of (by
      rw [proj66 h.b j2.at_ st1]
      simp only [evV, isBor_mth, Bool.false_eq_true, if_false]
      exact e_starts (k := k + 6) rfl) (nob_t _)
    have a1 : appW st (tI v') S1 = some (S1.set st (.ls (enc (dl ++ [vs] ++ [v'])))) := by
      unfold appW
      simp only [getLs, st1, Option.bind_some, enc_len]
      rw [if_pos (by simp; unfold lim; omega), enc_app]
    have g4 : getL (E66 ns n r b st (some (.lst ((fr n r vs).map D.int))) x6 x7) 4 = some st := rfl
    unfold T_law8
    rw [y_app, g4]
    simp [getLs, st1, a1, e1]
  have J' : J66 (S1.set st (.ls (enc (dl ++ [vs] ++ [v'])))) b st dn S.length n r v' (dl ++ [vs]) :=
    ⟨j2.set h.b h.d (by omega), List.getElem?_set_self stl, h.b, h.d, by omega, P', by simp [l'], fun v hv => by
      rcases List.mem_append.mp hv with hv | hv
      · exact h.g v hv
      · rw [List.mem_singleton] at hv; rw [hv]; exact h.P, by
      have := h.h
      cases dl <;> simpa using this⟩
  have s10 : ex2 (run G (k + 7)) (run2 G G2 (k + 7)) T_law10 (E66 ns n r b st (some (.lst ((fr n r vs).map D.int))) x6 x7) (S1.set st (.ls (enc (dl ++ [vs] ++ [v'])))) = .ok (.nx (E66 ns n r b st (some (.lst ((fr n r vs).map D.int))) x6 x7)) (S1.set st (.ls (enc (dl ++ [vs] ++ [v'])))) := by
    unfold T_law10
    rw [y_ite, mt_pu, evTP_of (k := false)]
    · rfl
    · rw [proj66 J'.b J'.B.at_ J'.s]
      simp only [evT, isTest_cmp, if_true, v_cmp, v_call, vs_cons, vs_nil, isBor_var, isBor_mth, Bool.false_eq_true, if_false, v_var, List.getElem?_cons_succ, List.getElem?_cons_zero, slotV, R.bind_ok, e_starts (k := k + 6) (env := [.val (.scr ns), .val (.int n), .val (tI r), .val (bO n r v'), .own ((dl ++ [vs] ++ [v']).map tI), oS (some (.lst ((fr n r vs).map D.int))), oS x6, oS x7]) rfl, r_is_packing (k := k + 1) (show 1 ≤ n ∧ n ≤ 24 by omega) hr (P'.set ne'), v_cst]
      simp [P'.pack (show 0 < n by omega)]
  have s12 : ex2 (run G (k + 7)) (run2 G G2 (k + 7)) T_law12 (E66 ns n r b st (some (.lst ((fr n r vs).map D.int))) x6 x7) (S1.set st (.ls (enc (dl ++ [vs] ++ [v'])))) = .ok (.nx (E66 ns n r b st (some (.lst ((fr n r vs).map D.int))) x6 x7)) (S1.set st (.ls (enc (dl ++ [vs] ++ [v'])))) := by
    unfold T_law12
    rw [y_ite, mt_pu, evTP_of (k := false)]
    · rfl
    · rw [proj66 J'.b J'.B.at_ J'.s]
      simp only [evT, isTest_cmp, if_true, v_cmp, v_call, vs_cons, vs_nil, isBor_var, isBor_mth, Bool.false_eq_true, if_false, v_var, List.getElem?_cons_succ, List.getElem?_cons_zero, slotV, R.bind_ok, e_starts (k := k + 6) (env := [.val (.scr ns), .val (.int n), .val (tI r), .val (bO n r v'), .own ((dl ++ [vs] ++ [v']).map tI), oS (some (.lst ((fr n r vs).map D.int))), oS x6, oS x7]) rfl, e_claps (k := k + 5) hr (show n ≤ 1000 by omega) (env := [.val (.scr ns), .val (.int n), .val (tI r), .val (bO n r v'), .own ((dl ++ [vs] ++ [v']).map tI), oS (some (.lst ((fr n r vs).map D.int))), oS x6, oS x7]) rfl, r_claps (k := k + 1) (show 1 ≤ n ∧ n ≤ 24 by omega) hr (P'.set ne'), c_ne (ok_lI _) (ok_lI _), eq_lI]
      simp
  refine ⟨some (.lst ((fr n r vs).map D.int)), _, v', S.length, ?_, J'⟩
  unfold S_law1
  rw [exs2_nx s6, exs2_nx s7, exs2_nx s8, exs2_nx s10, exs2_nx s12]
  rfl
theorem loop66 (hs : ns.length ≤ 63) (hn : 1 ≤ n ∧ n ≤ 12) (hr : IsSet n r) : ∀ (fuel : Nat) (S : Sto) (x5 : Option D) (vs : List Int) (dl : List (List Int)) (un : Nat), J66 S b st dn un n r vs dl → dl.length ≤ 12 → 12 - dl.length < fuel →
    ∃ x5' S' vs' dl' un', whileL2 (evTP (run G (k + 7)) (.and (.cmp .ne (.mth 135 "free" (.var 3) .nil) (.lst .nil)) (.one (.cmp .lt (.bi .len (.cons (.bor 4) .nil)) (.cst (.int 13)))))) (exs2 (run G (k + 7)) (run2 G G2 (k + 7)) S_law1) fuel (E66 ns n r b st x5 x6 x7) S = .ok (.nx (E66 ns n r b st x5' x6 x7)) S' ∧ J66 S' b st dn un' n r vs' dl' ∧ dl'.length ≤ 12 ∧ (fr n r vs' = [] ∨ dl'.length = 12)
  | 0, S, x5, vs, dl, un, h, hd, hf => absurd hf (Nat.not_lt_zero _)
  | fuel + 1, S, x5, vs, dl, un, h, hd, hf => by
    unfold whileL2
    rw [w13 hn hr h, R2.bind_ok]
    by_cases c : fr n r vs ≠ [] ∧ dl.length + 1 < 13
    · rw [show (decide (fr n r vs ≠ []) && decide (dl.length + 1 < 13)) = true by simp only [Bool.and_eq_true, decide_eq_true_eq]; exact c, if_pos rfl]
      obtain ⟨x5', S1, v1, un1, e1, J1⟩ := body66 (k := k) (x5 := x5) (x6 := x6) (x7 := x7) hs hn hr h c.1 (by omega)
      rw [e1, R2.bind_ok, nx_nx]
      exact loop66 hs hn hr fuel S1 x5' v1 (dl ++ [vs]) un1 J1 (by simp; omega) (by simp; omega)
    · rw [show (decide (fr n r vs ≠ []) && decide (dl.length + 1 < 13)) = false by
        rw [Bool.eq_false_iff]
        intro z
        simp only [Bool.and_eq_true, decide_eq_true_eq] at z
        exact c z]
      refine ⟨x5, S, vs, dl, un, rfl, h, hd, ?_⟩
      by_cases q : fr n r vs = []
      · exact .inl q
      · exact .inr (by
          have : ¬ dl.length + 1 < 13 := fun z => c ⟨q, z⟩
          omega)
end

end Cl
set_option Elab.async false
set_option linter.all false
set_option maxRecDepth 100000
set_option maxHeartbeats 1000000
namespace Cl
open PySem
/-! ### law k66: the whole -/
section
variable {k : Nat} {ns : List Int} {n : Int} {r vs : List Int} {b st dn un : Nat} {x5 x6 x7 : Option D} {S : Sto} {dl : List (List Int)}
theorem tt1 (hl : vs.length ≤ 1000) : bopF .mul (.int (vs.length : Int)) (.int (r.length : Int)) = some (.int ((vs.length : Int) * (r.length : Int))) := by
  have hb : (1000 : Int) < big := by decide
  exact b_mulL (vs.length : Int) (r.length : Int) ⟨by omega, by omega⟩
theorem tt2 {env : Env} (h2 : env[2]? = some (.val (tI r))) : ev (run G (k + 7)) (.bi .len (.cons (.var 2) .nil)) env = .ok (.int (r.length : Int)) := by
  rw [v_bi, vb_cons, vb_nil, v_var, h2]
  simp only [slotV, R.bind_ok, len_t, R.ofO_some]
theorem tt3 {env : Env} (hl : vs.length ≤ 1000) (h3 : env[3]? = some (.val (bO n r vs))) (h2 : env[2]? = some (.val (tI r))) : ev (run G (k + 7)) (.bin .mul (.lenO 129 3) (.bi .len (.cons (.var 2) .nil))) env = .ok (.int ((vs.length : Int) * (r.length : Int))) := by
  have e := e_len (k := k + 6) hl h3
  have e' : ev (run G (k + 7)) (.lenO 129 3) env = .ok (.int (vs.length : Int)) := e
  rw [v_bin, e', tt2 h2, R.bind_ok, R.bind_ok, tt1 hl]
  rfl
theorem tt4 (x : Int) : R.ofO ((copF .eq (.int x) (.int n)).map D.bl) = .ok (.bl (decide (x = n))) := by
  rw [c_eq (ok_int _) (ok_int _), eq_int]
  rfl
theorem f15a {env : Env} (hl : vs.length ≤ 1000) (h3 : env[3]? = some (.val (bO n r vs))) (h2 : env[2]? = some (.val (tI r))) (h1 : env[1]? = some (.val (.int n))) : ev (run G (k + 7)) (.cmp .eq (.bin .mul (.lenO 129 3) (.bi .len (.cons (.var 2) .nil))) (.var 1)) env = .ok (.bl (decide ((vs.length : Int) * (r.length : Int) = n))) := by
  rw [v_cmp, tt3 hl h3 h2, R.bind_ok, v_var, h1]
  rw [slotV_val, R.bind_ok, tt4]
theorem f15b {env : Env} (hn : 1 ≤ n ∧ n ≤ 24) (hr : IsSet n r) (hset : IsSet n vs) (h3 : env[3]? = some (.val (bO n r vs))) (h2 : env[2]? = some (.val (tI r))) (h1 : env[1]? = some (.val (.int n))) : ev (run G (k + 7)) (.call 24 (.cons (.var 1) (.cons (.var 2) (.cons (.mth 130 "starts" (.var 3) .nil) .nil)))) env = .ok (.bl (decide (clp n r vs = (rgI 0 n).map fun _ => 1))) := by
  simp only [v_call, vs_cons, vs_nil, isBor_var, isBor_mth, Bool.false_eq_true, if_false, v_var, h1, h2, slotV, R.bind_ok, e_starts (k := k + 6) h3]
  exact r_is_canon (k := k + 1) hn hr hset
theorem f15 (hn : 1 ≤ n ∧ n ≤ 12) (hr : IsSet n r) (h : J66 S b st dn un n r vs dl) (hv : vs ≠ []) : ex2 (run G (k + 7)) (run2 G G2 (k + 7)) T_law15 (E66 ns n r b st x5 none none) S = .ok (.nx (E66 ns n r b st x5 none none)) S := by
  have hvl := h.P.len (show 0 ≤ n by omega)
  unfold T_law15
  rw [y_ite, mt_pu, evTP_of (k := false)]
  · rfl
  · rw [proj66 h.b h.B.at_ h.s]
    unfold evT
    rw [isTest_cmp, if_pos rfl, v_cmp, f15a (k := k) (vs := vs) (n := n) (r := r) (by omega) rfl rfl rfl, f15b (k := k) (vs := vs) (n := n) (r := r) (by omega) hr (h.P.set hv) rfl rfl rfl, h.P.canon hr]
    generalize decide (clp n r vs = (rgI 0 n).map fun _ => 1) = q
    cases q <;> rfl
theorem f19 (hn : 1 ≤ n ∧ n ≤ 12) (hr : IsSet n r) (h : J66 S b st dn un n r vs dl) (hv : vs ≠ []) : ∃ x6, ex2 (run G (k + 7)) (run2 G G2 (k + 7)) T_law19 (E66 ns n r b st x5 none none) S = .ok (.nx (E66 ns n r b st x5 x6 none)) S := by
  have hvl := h.P.len (show 0 ≤ n by omega)
  have hvp : 0 < vs.length := List.length_pos_iff.mpr hv
  have hrl := hr.len
  have hset := h.P.set hv
  unfold T_law19
  rw [y_ite, mt_pu, evTP_of (k := decide (1 < vs.length)) (by
    rw [proj66 h.b h.B.at_ h.s]
    simp only [evT, isTest_cmp, if_true, v_cmp, e_len (k := k + 6) (show vs.length ≤ 1000 by omega) (env := [.val (.scr ns), .val (.int n), .val (tI r), .val (bO n r vs), .own ((dl ++ [vs]).map tI), oS x5, oS none, oS none]) rfl, R.bind_ok, v_cst, cst_int, c_gt, Option.map_some, R.ofO_some, boolD]
    congr 1
    rw [decide_eq_decide]
    omega)]
  by_cases q : 1 < vs.length
  · have q0 : 0 < vs.length := by omega
    obtain ⟨a, ha⟩ : ∃ a, a = vs[0] := ⟨_, rfl⟩
    obtain ⟨c, hc⟩ : ∃ c, c = vs[1] := ⟨_, rfl⟩
    have hac : a < c := by
      rw [ha, hc]
      exact List.pairwise_iff_getElem.mp h.P.pw 0 1 q0 q (by omega)
    have ham : a ∈ vs := by rw [ha]; exact List.getElem_mem q0
    have hcm : c ∈ vs := by rw [hc]; exact List.getElem_mem q
    have hg := h.P.gap hr ham hcm hac
    have i0 : idxF (tI vs) (.int 0) = some (.int a) := idx_tup (by omega) (by
      rw [List.getElem?_map, show (0 : Int).toNat = 0 from rfl, List.getElem?_eq_getElem q0, ha]; rfl)
    have i1 : idxF (tI vs) (.int 1) = some (.int c) := idx_tup (by omega) (by
      rw [List.getElem?_map, show (1 : Int).toNat = 1 from rfl, List.getElem?_eq_getElem q, hc]; rfl)
    refine ⟨some (.int (c - a)), ?_⟩
    rw [show decide (1 < vs.length) = true by simpa using q, R2.bind_ok, if_pos rfl]
    have s16 : ex2 (run G (k + 7)) (run2 G G2 (k + 7)) T_law16 (E66 ns n r b st x5 none none) S = .ok (.nx (E66 ns n r b st x5 (some (.int (c - a))) none)) S := by
      unfold T_law16
      rw [y_asg, m_pu, evP_of (d := .int (c - a))]
      · rfl
      · rw [proj66 h.b h.B.at_ h.s]
        simp only [evV, isBor_bin, Bool.false_eq_true, if_false, v_bin, v_idx, e_starts (k := k + 6) (env := [.val (.scr ns), .val (.int n), .val (tI r), .val (bO n r vs), .own ((dl ++ [vs]).map tI), oS x5, oS none, oS none]) rfl, R.bind_ok, v_cst, cst_int, i0, i1, R.ofO_some, b_sub]
      · rfl
    have s18 : ex2 (run G (k + 7)) (run2 G G2 (k + 7)) T_law18 (E66 ns n r b st x5 (some (.int (c - a))) none) S = .ok (.nx (E66 ns n r b st x5 (some (.int (c - a))) none)) S := by
      unfold T_law18
      rw [y_ite, mt_pu, evTP_of (k := false)]
      · rfl
      · rw [proj66 h.b h.B.at_ h.s]
        have ef := r_free (k := k + 2) (show 1 ≤ n ∧ n ≤ 24 by omega) hr
        simp only [evT, isTest_cmp, if_true, v_cmp, v_var, v_call, vs_cons, vs_nil, isBor_var, Bool.false_eq_true, if_false, List.getElem?_cons_succ, List.getElem?_cons_zero, oS_some, slotV, R.bind_ok, ef, nin_lI, Option.map_some, R.ofO_some, boolD]
        simp [hg]
    rw [exs2_nx s16, exs2_nx s18]
    rfl
  · refine ⟨none, ?_⟩
    rw [show decide (1 < vs.length) = false by simpa using q]
    rfl
theorem fin66 (hs : ns.length ≤ 63) (hn : 1 ≤ n ∧ n ≤ 12) (hr : IsSet n r) (h : J66 S b st dn un n r vs dl) (hv : vs ≠ []) (hd : dl.length ≤ 12) :
    ∃ S', exs2 (run G (k + 7)) (run2 G G2 (k + 7)) (.cons T_law15 (.cons T_law19 (.cons T_law20 (.cons T_law21 (.cons T_law22 (.cons T_law24 (.cons T_law25 .nil))))))) (E66 ns n r b st x5 none none) S = .ok (.rt (.d (.bl true))) S' := by
  have hvl := h.P.len (show 0 ≤ n by omega)
  have hvp : 0 < vs.length := List.length_pos_iff.mpr hv
  have hrl := hr.len
  have hset := h.P.set hv
  have s15 := f15 (k := k) (ns := ns) (x5 := x5) hn hr h hv
  obtain ⟨x6, s19⟩ := f19 (k := k) (ns := ns) (x5 := x5) hn hr h hv
  obtain ⟨w, hw, ew⟩ := r_drawn hs (k := 2) (many := (vs.length : Int)) (by omega) (by omega)
  obtain ⟨j, rfl⟩ : ∃ j : Nat, w = j := ⟨w.toNat, by omega⟩
  have hj : j < vs.length := by omega
  obtain ⟨s, hsd⟩ : ∃ s, s = vs[j] := ⟨_, rfl⟩
  have hsm : s ∈ vs := by rw [hsd]; exact List.getElem_mem hj
  have ij : idxF (tI vs) (.int (j : Int)) = some (.int s) := idx_tup (by omega) (by
    rw [List.getElem?_map, Int.toNat_natCast, List.getElem?_eq_getElem hj, hsd]; rfl)
  have s20 : ex2 (run G (k + 7)) (run2 G G2 (k + 7)) T_law20 (E66 ns n r b st x5 x6 none) S = .ok (.nx (E66 ns n r b st x5 x6 (some (.int s)))) S := by
    unfold T_law20
    rw [y_asg, m_pu, evP_of (d := .int s)]
    · rfl
    · rw [proj66 h.b h.B.at_ h.s]
      simp only [evV, isBor_idx, Bool.false_eq_true, if_false, v_idx, e_starts (k := k + 6) (env := [.val (.scr ns), .val (.int n), .val (tI r), .val (bO n r vs), .own ((dl ++ [vs]).map tI), oS x5, oS x6, oS none]) rfl, R.bind_ok, v_call, vs_cons, vs_nil, isBor_var, isBor_cst, isBor_lenO, v_var, v_cst, cst_int, List.getElem?_cons_zero, slotV, e_len (k := k + 6) (show vs.length ≤ 1000 by omega) (env := [.val (.scr ns), .val (.int n), .val (tI r), .val (bO n r vs), .own ((dl ++ [vs]).map tI), oS x5, oS x6, oS none]) rfl, ew, ij, R.ofO_some]
    · rfl
  obtain ⟨S1, j1, j2, j3, j4⟩ := r_leave h.B (k := k + 4) (h.P.inn s hsm) hsm (by omega) (by omega)
  have s21 : ex2 (run G (k + 7)) (run2 G G2 (k + 7)) T_law21 (E66 ns n r b st x5 x6 (some (.int s))) S = .ok (.nx (E66 ns n r b st x5 x6 (some (.int s)))) S1 := by
    have e1 : evP (run G (k + 7)) (.var 7) (E66 ns n r b st x5 x6 (some (.int s))) S = .ok (.int s) S := evP_of (by
      rw [proj66 h.b h.B.at_ h.s]
      simp [evV, slotV]) rfl
    have g3 : getL (E66 ns n r b st x5 x6 (some (.int s))) 3 = some b := rfl
    unfold T_law21
    rw [y_exp, m_mt, if_neg (by decide), m_al, g3]
    simp only [Option.map_some, ofO2_some, R2.bind_ok, h.B.at_, isBd, if_true, ms_cons, ms_nil, m_pu, e1, j1]
  obtain ⟨v', hv'⟩ : ∃ v', v' = vs.filter fun x => decide (x ≠ s) := ⟨_, rfl⟩
  have P' : Pk n r v' := by rw [hv']; exact h.P.leave
  have B' := h.P.back hsm
  have L' := h.P.less hsm
  rw [← hv'] at j2 B' L'
  have st1 : S1[st]? = some (.ls (enc (dl ++ [vs]))) := j3 _ _ h.s h.b h.d h.u
  have stl : st < S1.length := (List.getElem?_eq_some_iff.mp st1).1
  have stl0 : st < S.length := (List.getElem?_eq_some_iff.mp h.s).1
  have s22 : ex2 (run G (k + 7)) (run2 G G2 (k + 7)) T_law22 (E66 ns n r b st x5 x6 (some (.int s))) S1 = .ok (.nx (E66 ns n r b st x5 x6 (some (.int s)))) (S1.set st (.ls (enc (dl ++ [vs] ++ [v'])))) := by
    have e1 : evP (run G (k + 7)) (.mth 130 "starts" (.var 3) .nil) (E66 ns n r b st x5 x6 (some (.int s))) S1 = .ok (tI v') S1 := evP_of (by
      rw [proj66 h.b j2.at_ st1]
      simp only [evV, isBor_mth, Bool.false_eq_true, if_false]
      exact e_starts (k := k + 6) rfl) (nob_t _)
    have a1 : appW st (tI v') S1 = some (S1.set st (.ls (enc (dl ++ [vs] ++ [v'])))) := by
      unfold appW
      simp only [getLs, st1, Option.bind_some, enc_len]
      rw [if_pos (by simp; unfold lim; omega), enc_app]
    have g4 : getL (E66 ns n r b st x5 x6 (some (.int s))) 4 = some st := rfl
    unfold T_law22
    rw [y_app, g4]
    simp [getLs, st1, a1, e1]
  obtain ⟨S2, hS2⟩ : ∃ S2 : Sto, S2 = S1.set st (.ls (enc (dl ++ [vs] ++ [v']))) := ⟨_, rfl⟩
  rw [← hS2] at s22
  have b2 : BS S2 b n r v' (dl ++ [vs]) [] dn S.length := by rw [hS2]; exact j2.set h.b h.d (by omega)
  have t2 : S2[st]? = some (.ls (enc (dl ++ [vs] ++ [v']))) := by rw [hS2]; exact List.getElem?_set_self stl
  have s24 : ex2 (run G (k + 7)) (run2 G G2 (k + 7)) T_law24 (E66 ns n r b st x5 x6 (some (.int s))) S2 = .ok (.nx (E66 ns n r b st x5 x6 (some (.int s)))) S2 := by
    unfold T_law24
    rw [y_ite, mt_pu, evTP_of (k := false)]
    · rfl
    · rw [proj66 h.b b2.at_ t2]
      have m2 : idxF (.lst ((dl ++ [vs] ++ [v']).map tI)) (.int (-2)) = some (tI vs) := by
        have := at_m2 (dl.map tI) (tI vs) (tI v')
        show L2.atI _ _ = _
        simpa using this
      simp only [evT, isTest_or, isTest_one, isTest_cmp, Bool.and_self, if_true, v_or, v_one, isBor_one, isBor_cmp, Bool.false_eq_true, if_false, v_cmp, v_var, List.getElem?_cons_succ, List.getElem?_cons_zero, oS_some, slotV, R.bind_ok, e_free (k := k + 4) hr (show n ≤ 1000 by omega) (env := [.val (.scr ns), .val (.int n), .val (tI r), .val (bO n r v'), .own ((dl ++ [vs] ++ [v']).map tI), oS x5, oS x6, .val (.int s)]) rfl, nin_lI, B', decide_true, Bool.not_true, Option.map_some, R.ofO_some, boolD, e_len (k := k + 6) (show v'.length ≤ 1000 by omega) (env := [.val (.scr ns), .val (.int n), .val (tI r), .val (bO n r v'), .own ((dl ++ [vs] ++ [v']).map tI), oS x5, oS x6, .val (.int s)]) rfl, v_bin, v_bi, vb_cons, vb_nil, v_idx, v_bor, slotO, v_neg, v_cst, cst_int, intD_int, m2, len_t, b_sub, c_ne (ok_int _) (ok_int _), eq_int]
      have : (v'.length : Int) = (vs.length : Int) - 1 := by omega
      simp [this]
  have hK : KB S2 b st dn S.length n r (dl ++ [vs] ++ [v']) ((dl ++ [vs] ++ [v']).length - 1) := by
    refine ⟨?_, t2, h.b, h.d, by omega, by simp, by simp; omega⟩
    have e1 : (dl ++ [vs] ++ [v']).length - 1 = (dl ++ [vs]).length := by simp
    rw [e1]
    have e2 : (dl ++ [vs] ++ [v']).getD (dl ++ [vs]).length [] = v' := by simp
    have e3 : (dl ++ [vs] ++ [v']).take (dl ++ [vs]).length = dl ++ [vs] := List.take_left' rfl
    have e4 : (dl ++ [vs] ++ [v']).drop ((dl ++ [vs]).length + 1) = [] := List.drop_eq_nil_of_le (by simp)
    rw [e2, e3, e4]
    exact b2
  have h0 : (dl ++ [vs] ++ [v']).headD [] = [] := by
    have := h.h
    cases dl <;> simpa using this
  have gd : ∀ {v : List Int}, Pk n r v → v.Pairwise (· < ·) ∧ (∀ x ∈ v, 0 ≤ x ∧ x < n) ∧ v.length ≤ 100 := fun {v} p => ⟨p.pw, p.inn, by have := p.len (show 0 ≤ n by omega); omega⟩
  obtain ⟨S3, e3⟩ := r_back (k := k) hs hn hr hK h0 (fun v hv => by
    rcases List.mem_append.mp hv with hv | hv
    · rcases List.mem_append.mp hv with hv | hv
      · exact gd (h.g v hv)
      · rw [List.mem_singleton] at hv; rw [hv]; exact gd h.P
    · rw [List.mem_singleton] at hv; rw [hv]; exact gd P')
  refine ⟨S3, ?_⟩
  rw [exs2_nx s15, exs2_nx s19, exs2_nx s20, exs2_nx s21, exs2_nx s22, exs2_nx s24, ys_cons]
  have q0 : evP (run G (k + 7)) (.var 0) (E66 ns n r b st x5 x6 (some (.int s))) S2 = .ok (.scr ns) S2 := evP_of (by rw [proj66 h.b b2.at_ t2]; simp [evV, slotV]) rfl
  have q1 : evP (run G (k + 7)) (.var 1) (E66 ns n r b st x5 x6 (some (.int s))) S2 = .ok (.int n) S2 := evP_of (by rw [proj66 h.b b2.at_ t2]; simp [evV, slotV]) rfl
  have q2 : evP (run G (k + 7)) (.var 2) (E66 ns n r b st x5 x6 (some (.int s))) S2 = .ok (tI r) S2 := evP_of (by rw [proj66 h.b b2.at_ t2]; simp [evV, slotV]) (nob_t r)
  have g3 : getL (E66 ns n r b st x5 x6 (some (.int s))) 3 = some b := rfl
  have g4 : getL (E66 ns n r b st x5 x6 (some (.int s))) 4 = some st := rfl
  unfold T_law25
  rw [y_ret, m_ca]
  simp only [ms_cons, ms_nil, m_pu, m_al, q0, q1, q2, g3, g4, Option.map_some, ofO2_some, R2.bind_ok, e3]
  rfl
end
theorem main {ns : List Int} (hs : ns.length ≤ 63) : ∃ S, run2 G G2 40 19 [.d (.scr ns)] [] = .ok (.d (.bl true)) S := by
  obtain ⟨c, hc, ec⟩ := r_drawn hs (show (0 : Int) ≤ 1 ∧ (1 : Int) ≤ 1900 by omega) (show (0 : Int) < 12 by omega)
  obtain ⟨r, hr, er⟩ := r_rhythm hs (n := 1 + c) (show (0 : Int) ≤ 10 ∧ (10 : Int) ≤ 1800 by omega) (by omega)
  obtain ⟨n, hne⟩ : ∃ n, n = 1 + c := ⟨_, rfl⟩
  rw [← hne] at hr er
  have hn : 1 ≤ n ∧ n ≤ 12 := by omega
  rw [V_law]
  unfold B_law
  have s1 : ex2 (run G 39) (run2 G G2 39) T_law1 [some (.d (.scr ns)), none, none, none, none, none, none, none] [] = .ok (.nx [some (.d (.scr ns)), some (.d (.int n)), none, none, none, none, none, none]) [] := by
    unfold T_law1
    rw [y_asg, m_pu, evP_of (d := .int n)]
    · rfl
    · simp [evV, proj, later, projS, slotV, ec, hne]
    · rfl
  have s2 : ex2 (run G 39) (run2 G G2 39) T_law2 [some (.d (.scr ns)), some (.d (.int n)), none, none, none, none, none, none] [] = .ok (.nx [some (.d (.scr ns)), some (.d (.int n)), some (.d (tI r)), none, none, none, none, none]) [] := by
    unfold T_law2
    rw [y_asg, m_pu, evP_of (d := tI r)]
    · rfl
    · simp [evV, proj, later, projS, slotV, er]
    · exact nob_t r
  obtain ⟨S0, hS0⟩ : ∃ S0 : Sto, S0 = [.ls [], .ls [], .bd (.int n) (tI r) (.tup []) 0 1, .ls (enc [[]])] := ⟨_, rfl⟩
  have s3 : ex2 (run G 39) (run2 G G2 39) T_law3 [some (.d (.scr ns)), some (.d (.int n)), some (.d (tI r)), none, none, none, none, none] [] = .ok (.nx (E66 ns n r 2 3 none none none)) S0 := by
    unfold T_law3
    rw [y_par, if_neg (by decide)]
    have e1 : evsP (run G 39) (.cons (.var 1) (.cons (.var 2) .nil)) [some (.d (.scr ns)), some (.d (.int n)), some (.d (tI r)), none, none, none, none, none] [] = .ok [.int n, tI r] [] := evsP_of (by simp [proj, later, projS, slotV]) (by simp)
    have e2 : ∀ S, evsP (run G 39) (.cons (.tup .nil) .nil) [some (.d (.scr ns)), some (.d (.int n)), some (.d (tI r)), none, none, none, none, none] S = .ok [.tup []] S := fun S => evsP_of (by simp) (by simp)
    simp only [ms_cons, ms_nil, m_nw, m_ls, e1, R2.bind_ok, r_new (k := 34) ([] : Sto) (show 1 ≤ n ∧ n ≤ 24 by omega) hr, e2, List.length_cons, List.length_nil, show (0 + 1 ≤ lim) = True by decide, if_true]
    rw [hS0]
    rfl
  have J0 : J66 S0 2 3 0 1 n r [] [] := by
    subst hS0
    exact ⟨⟨rfl, rfl, rfl, by decide, by decide, by decide⟩, rfl, by decide, by decide, by decide, Pk.nil, rfl, fun v hv => absurd hv (by simp), rfl⟩
  have s5 : ex2 (run G 39) (run2 G G2 39) T_law5 (E66 ns n r 2 3 none none none) S0 = .ok (.nx (E66 ns n r 2 3 none none none)) S0 := by
    unfold T_law5
    rw [y_ite, mt_pu, evTP_of (k := false)]
    · rfl
    · rw [proj66 J0.b J0.B.at_ J0.s]
      have a1 := b_mulI (n := n) 0 (by omega)
      simp only [evT, isTest_or, isTest_one, isTest_cmp, Bool.and_self, if_true, v_or, v_one, isBor_one, isBor_cmp, Bool.false_eq_true, if_false, v_cmp, e_free (k := 36) hr (show n ≤ 1000 by omega) (env := [.val (.scr ns), .val (.int n), .val (tI r), .val (bO n r []), .own (([] ++ [[]] : List (List Int)).map tI), oS none, oS none, oS none]) rfl, R.bind_ok, v_rgl, vr_one, v_var, List.getElem?_cons_succ, List.getElem?_cons_zero, slotV, intD_int, rgD_is 0 n (by omega), c_ne (ok_lI _) (ok_lI _), eq_lI, fr_nil, decide_true, Bool.not_true, Option.map_some, R.ofO_some, boolD, e_claps (k := 37) hr (show n ≤ 1000 by omega) (env := [.val (.scr ns), .val (.int n), .val (tI r), .val (bO n r []), .own (([] ++ [[]] : List (List Int)).map tI), oS none, oS none, oS none]) rfl, v_bin, v_lst, vs_cons, vs_nil, v_cst, isBor_cst, cst_int, List.length_cons, List.length_nil, show (0 + 1 ≤ lim) = True by decide, a1, clp_nil]
  obtain ⟨x5, S1, vs, dl, un, w1, J1, d1, f1⟩ := loop66 (k := 32) (ns := ns) (b := 2) (st := 3) (dn := 0) (x6 := none) (x7 := none) hs hn hr 100 S0 none [] [] 1 J0 (by simp) (by simp)
  have hv : vs ≠ [] := by
    rintro rfl
    have hl := J1.l
    rcases f1 with f | f
    · rw [fr_nil] at f
      have := congrArg List.length f
      simp at this
      omega
    · rw [f] at hl
      simp at hl
  have s13 : ex2 (run G 39) (run2 G G2 39) T_law13 (E66 ns n r 2 3 none none none) S0 = .ok (.nx (E66 ns n r 2 3 x5 none none)) S1 := w1
  obtain ⟨S2, e2⟩ := fin66 (k := 32) (x5 := x5) hs hn hr J1 hv d1
  refine ⟨S2, ?_⟩
  rw [exs2_nx s1, exs2_nx s2, exs2_nx s3, exs2_nx s5, exs2_nx s13, e2]
  rfl

end Cl
set_option Elab.async false
set_option linter.all false
set_option maxRecDepth 100000
set_option maxHeartbeats 0
open PySem PySem.W PySem.Calls PyProof.Rows
theorem PySem.Challenge.cw_clapcanons_k66_whole_band_holds : PySem.Challenge.rw_clapcanons_k66_whole_band.Holds := by
  w_on; o_law
  refine HandSHeadRun.head_any (r := Cl.R0) (q := view Cl.R0.prog [36]) (H := Cl.hk) (ob := Cl.ob) (M := 4000) (loose := Cl.loose) (d := HandSHeadRun.topDef Cl.R0.prog 36) (kwd := []) Cl.ob_eq
    (by kernel_rfl) (fun s => by kernel_rfl) Cl.headRun (by kernel_rfl) (by kernel_rfl) (by kernel_rfl) (by rfl) (by first | assumption | decide +kernel) (by decide +kernel) ⟨rfl, rfl, rfl, rfl, rfl, by decide +kernel⟩ ?hw ?hc
  case hw => w_witness2
  case hc =>
    refine Cl.end2_of (l := PySem.Challenge.rw_clapcanons_k66_whole_band) (n := 63) (k := 40) (L := Cl.L) (cst := Cl.csts) (exn := Cl.exns) (f := 19) (e := Cl.E_law) (x := "script") (wd := 4) (by decide +kernel) (by decide +kernel) rfl (by decide) (by kernel_rfl) ⟨rfl, by decide, by decide⟩ (by decide +kernel) Cl.bindL Cl.okL rfl rfl rfl (by decide) rfl (by kernel_rfl) fun ns hn => ?_
    rw [Cl.tab_eq, Cl.tab2_eq]
    exact Cl.main hn
